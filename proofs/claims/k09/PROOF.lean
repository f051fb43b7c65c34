import PyProof.Rows.All
import Wide.All
import OpenK.AllK
import Wide.FinOn
import PySem.Challenge.RW_lettermend_k09_whole_wrong_pieces_found
import HandS.Base
import HandS.Call
import HandS.List
import HandS.Comp
import HandS.Ends
import HandS.More
import HandS.Words
import HandS.Defaults
import HandS.Evl
import HandS.Iter
import HandS.Zip
import HandS.TupAny
import HandS.SortInts
import HandS.IsInst
import HandS.Conv
import HandS.HeadHook1
import HandS.HeadHook2
import KE.KExcSuper
import HandS.ExcInit
import HandS.Nested
import HandS.ExcField
import HandS.ExcIs
import KE.KStateDown
import Lean
import HandS.WordsExc
import HandS.Head0
import HandS.Head1
import HandS.Head2
import HandS.HeadEnd
import HandS.Style
import KE.KEqSeq
import KE.GoesMore
import KE.GoesZip
import KE.GoesEnum
import PyProof.ReprLen
set_option Elab.async false
set_option linter.all false
set_option maxRecDepth 100000
set_option maxHeartbeats 4000000
/-! Values as data over a frozen part F of the abstract heap H; own slots: lists that may still change. -/
namespace Lm
open PySem PySem.Spec PyProof.Rows L2 Evl

abbrev D := PyData
mutual
theorem dp_ex {K : PySem.W.Frag} {H H' : Hp} (e : Ex H H') {v : V} {d : D} : Dp K H v d → Dp K H' v d
  | .non => .non
  | .bl b => .bl b
  | .int i => .int i
  | .str x => .str x
  | .lst h t => .lst (ex_l e h) (dpa_ex e t)
  | .tup h t => .tup (ex_t e h) (dpa_ex e t)
theorem dpa_ex {K : PySem.W.Frag} {H H' : Hp} (e : Ex H H') {vs : List V} {ds : List D} : DpAll K H vs ds → DpAll K H' vs ds
  | .nil => .nil
  | .cons h t => .cons (dp_ex e h) (dpa_ex e t)
end
section
variable {K : PySem.W.Frag} {H : Hp}
theorem dpa_len : ∀ {vs : List V} {ds : List D}, DpAll K H vs ds → vs.length = ds.length
  | _, _, .nil => rfl
  | _, _, .cons _ t => congrArg Nat.succ (dpa_len t)
theorem dpa_get : ∀ {vs : List V} {ds : List D} {i : Nat} {d : D}, DpAll K H vs ds → ds[i]? = some d → ∃ v, vs[i]? = some v ∧ Dp K H v d
  | _, _, _, _, .nil, h => by simp at h
  | _, _, 0, _, .cons h _, e => by
    simp at e
    subst e
    exact ⟨_, rfl, h⟩
  | _, _, i + 1, d, .cons _ t, e => by
    obtain ⟨v, h1, h2⟩ := dpa_get (i := i) (d := d) t (by simpa using e)
    exact ⟨v, by simpa using h1, h2⟩
theorem dpa_app : ∀ {vs ws : List V} {ds es : List D}, DpAll K H vs ds → DpAll K H ws es → DpAll K H (vs ++ ws) (ds ++ es)
  | _, _, _, _, .nil, h => h
  | _, _, _, _, .cons h t, g => .cons h (dpa_app t g)
theorem dpa_set : ∀ {vs : List V} {ds : List D} {v : V} {d : D} (i : Nat), DpAll K H vs ds → Dp K H v d → DpAll K H (vs.set i v) (ds.set i d)
  | _, _, _, _, _, .nil, _ => .nil
  | _, _, _, _, 0, .cons _ t, h => .cons h t
  | _, _, _, _, i + 1, .cons g t, h => .cons g (dpa_set i t h)
theorem dpa_take : ∀ {vs : List V} {ds : List D} (n : Nat), DpAll K H vs ds → DpAll K H (vs.take n) (ds.take n)
  | _, _, 0, _ => .nil
  | _, _, _ + 1, .nil => .nil
  | _, _, n + 1, .cons h t => .cons h (dpa_take n t)
theorem dpa_drop : ∀ {vs : List V} {ds : List D} (n : Nat), DpAll K H vs ds → DpAll K H (vs.drop n) (ds.drop n)
  | _, _, 0, h => h
  | _, _, _ + 1, .nil => .nil
  | _, _, n + 1, .cons _ t => dpa_drop n t
theorem dp_int {v : V} {i : Int} (h : Dp K H v (.int i)) : v = .int i := by cases h; rfl
theorem dp_bl {v : V} {b : Bool} (h : Dp K H v (.bool b)) : v = .bl b := by cases h; rfl
theorem dp_str {v : V} {x : Str} (h : Dp K H v (.str x)) : v = .str x := by cases h; rfl
theorem dp_non {v : V} (h : Dp K H v .none) : v = .non := by cases h; rfl
theorem dp_lst {v : V} {ds : List D} (h : Dp K H v (.list ds)) : ∃ a vs, v = .ref a ∧ SqL K H a vs ∧ DpAll K H vs ds := by
  cases h with
  | lst h t => exact ⟨_, _, rfl, h, t⟩
theorem dp_tup {v : V} {ds : List D} (h : Dp K H v (.tuple ds)) : ∃ a vs, v = .ref a ∧ SqT K H a vs ∧ DpAll K H vs ds := by
  cases h with
  | tup h t => exact ⟨_, _, rfl, h, t⟩
theorem dpa_ints : ∀ {vs : List V} {ns : List Int}, DpAll K H vs (ns.map PyData.int) → vs = ns.map V.int
  | _, [], h => by cases h; rfl
  | _, n :: ns, h => by
    cases h with
    | cons h t => rw [dp_int h, dpa_ints (ns := ns) t]; rfl
theorem dpa_bools : ∀ {vs : List V} {ns : List Bool}, DpAll K H vs (ns.map PyData.bool) → vs = ns.map V.bl
  | _, [], h => by cases h; rfl
  | _, n :: ns, h => by
    cases h with
    | cons h t => rw [dp_bl h, dpa_bools (ns := ns) t]; rfl
end

/-- what a name holds: nothing that is known; data; a list that is one's own, with its items' data -/
inductive Slot where
  | un
  | dat (d : D)
  | own (ds : List D)
abbrev En := List Slot

structure Sd (K : PySem.W.Frag) (σ : L2.St) (F H : Hp) (ρ : En) : Prop where
  sub : Ex F H
  len : σ.length = ρ.length
  dat : ∀ (i : Nat) (d : D), ρ[i]? = some (Slot.dat d) → ∃ v, σ[i]? = some (some v) ∧ Dp K F v d
  own : ∀ (i : Nat) (ds : List D), ρ[i]? = some (Slot.own ds) → ∃ a vs, σ[i]? = some (some (V.ref a)) ∧ H a = some (HO.lst vs) ∧ F a = none ∧ DpAll K F vs ds
  dis : ∀ (i j : Nat) (ds es : List D) (a : Addr), ρ[i]? = some (Slot.own ds) → ρ[j]? = some (Slot.own es) → σ[i]? = some (some (V.ref a)) → σ[j]? = some (some (V.ref a)) → i = j

/-- growth: nothing that was there changes; what is frozen anew was not there -/
structure Gr (F H F' H' : Hp) : Prop where
  f : Ex F F'
  h : Ex H H'
  sub : Ex F' H'
  new : ∀ b, F b = none → F' b ≠ none → H b = none
theorem none_of {H H' : Hp} {b : Addr} (e : Ex H H') (h : H' b = none) : H b = none := fresh_back e h
theorem Gr.refl {F H : Hp} (s : Ex F H) : Gr F H F H := ⟨Ex.refl _, Ex.refl _, s, fun _ h g => absurd h g⟩
theorem Gr.trans {F H F1 H1 F2 H2 : Hp} (a : Gr F H F1 H1) (b : Gr F1 H1 F2 H2) : Gr F H F2 H2 :=
  ⟨a.f.trans b.f, a.h.trans b.h, b.sub, fun x h g => by
    cases q : F1 x with
    | none => exact none_of a.h (b.new x q g)
    | some o => exact a.new x h (by rw [q]; exact fun z => by cases z)⟩
/-- a new object that is frozen at once -/
theorem Gr.fr {F H : Hp} {p : Addr} {o : HO} (s : Ex F H) (h : H p = none) : Gr F H (upd F p o) (upd H p o) :=
  ⟨Ex.new (none_of s h), Ex.new h, fun b u e => by
    by_cases hb : b = p
    · subst hb
      rw [upd_same] at e ⊢
      exact e
    · rw [upd_ne hb] at e ⊢
      exact s b u e, fun b hf hg => by
    by_cases hb : b = p
    · rw [hb]
      exact h
    · rw [upd_ne hb] at hg
      exact absurd hf hg⟩
/-- an object made since is frozen -/
theorem Gr.frz {F H F' H' : Hp} {p : Addr} {o : HO} (g : Gr F H F' H') (h : H p = none) (hf : F' p = none) (ho : H' p = some o) : Gr F H (upd F' p o) H' :=
  ⟨g.f.trans (Ex.new hf), g.h, fun b u e => by
    by_cases hb : b = p
    · subst hb
      rw [upd_same] at e
      rw [ho]
      exact e
    · rw [upd_ne hb] at e
      exact g.sub b u e, fun b hx hg => by
    by_cases hb : b = p
    · rw [hb]
      exact h
    · rw [upd_ne hb] at hg
      exact g.new b hx hg⟩
/-- a new object that is not frozen -/
theorem Gr.lay {F H : Hp} {p : Addr} {o : HO} (s : Ex F H) (h : H p = none) : Gr F H F (upd H p o) :=
  ⟨Ex.refl _, Ex.new h, s.trans (Ex.new h), fun _ h g => absurd h g⟩
section
variable {K : PySem.W.Frag} {σ : L2.St} {F H F' H' : Hp} {ρ : En}
theorem Sd.mono (s : Sd K σ F H ρ) (g : Gr F H F' H') : Sd K σ F' H' ρ :=
  ⟨g.sub, s.len, fun i d h => by
    obtain ⟨v, h1, h2⟩ := s.dat i d h
    exact ⟨v, h1, dp_ex g.f h2⟩, fun i ds h => by
    obtain ⟨a, vs, h1, h2, h3, h4⟩ := s.own i ds h
    refine ⟨a, vs, h1, g.h _ _ h2, ?_, dpa_ex g.f h4⟩
    cases q : F' a with
    | none => rfl
    | some o =>
      have z := g.new a h3 (by rw [q]; exact fun z => by cases z)
      rw [h2] at z
      exact absurd z (fun z => by cases z), s.dis⟩
/-- data put into a slot -/
theorem Sd.set {v : V} {d : D} (i : Nat) (s : Sd K σ F H ρ) (h : Dp K F v d) : Sd K (σ.set i (some v)) F H (ρ.set i (.dat d)) := by
  refine ⟨s.sub, by rw [List.length_set, List.length_set, s.len], fun j e hj => ?_, fun j ds hj => ?_, fun j k ds es a hj hk gj gk => ?_⟩
  · by_cases hi : i = j
    · subst hi
      have hl : i < ρ.length := by
        have := (List.getElem?_eq_some_iff.mp hj).1
        rwa [List.length_set] at this
      rw [List.getElem?_set_self hl] at hj
      cases hj
      exact ⟨v, List.getElem?_set_self (by rw [s.len]; exact hl), h⟩
    · rw [List.getElem?_set_ne hi] at hj ⊢
      exact s.dat j e hj
  · by_cases hi : i = j
    · subst hi
      have hl : i < ρ.length := by
        have := (List.getElem?_eq_some_iff.mp hj).1
        rwa [List.length_set] at this
      rw [List.getElem?_set_self hl] at hj
      cases hj
    · rw [List.getElem?_set_ne hi] at hj ⊢
      exact s.own j ds hj
  · have key : ∀ m es, (ρ.set i (.dat d))[m]? = some (Slot.own es) → i ≠ m := fun m es hm hi => by
      subst hi
      have hl : i < ρ.length := by
        have := (List.getElem?_eq_some_iff.mp hm).1
        rwa [List.length_set] at this
      rw [List.getElem?_set_self hl] at hm
      cases hm
    have h1 := key j ds hj
    have h2 := key k es hk
    rw [List.getElem?_set_ne h1] at hj gj
    rw [List.getElem?_set_ne h2] at hk gk
    exact s.dis j k ds es a hj hk gj gk
/-- a list that is one's own put into a slot -/
theorem Sd.setO {p : Addr} {vs : List V} {ds : List D} (i : Nat) (s : Sd K σ F H ρ) (hp : H p = some (HO.lst vs)) (hf : F p = none) (h : DpAll K F vs ds)
    (hn : ∀ (j : Nat) (es : List D), ρ[j]? = some (Slot.own es) → σ[j]? ≠ some (some (V.ref p))) : Sd K (σ.set i (some (.ref p))) F H (ρ.set i (.own ds)) := by
  refine ⟨s.sub, by rw [List.length_set, List.length_set, s.len], fun j e hj => ?_, fun j es hj => ?_, fun j k ds' es a hj hk gj gk => ?_⟩
  · by_cases hi : i = j
    · subst hi
      have hl : i < ρ.length := by
        have := (List.getElem?_eq_some_iff.mp hj).1
        rwa [List.length_set] at this
      rw [List.getElem?_set_self hl] at hj
      cases hj
    · rw [List.getElem?_set_ne hi] at hj ⊢
      exact s.dat j e hj
  · by_cases hi : i = j
    · subst hi
      have hl : i < ρ.length := by
        have := (List.getElem?_eq_some_iff.mp hj).1
        rwa [List.length_set] at this
      rw [List.getElem?_set_self hl] at hj
      cases hj
      exact ⟨p, vs, List.getElem?_set_self (by rw [s.len]; exact hl), hp, hf, h⟩
    · rw [List.getElem?_set_ne hi] at hj ⊢
      exact s.own j es hj
  · by_cases h1 : i = j
    · by_cases h2 : i = k
      · exact h1.symm.trans h2
      · subst h1
        have hl : i < σ.length := by
          have := (List.getElem?_eq_some_iff.mp gj).1
          rwa [List.length_set] at this
        rw [List.getElem?_set_self hl] at gj
        cases gj
        rw [List.getElem?_set_ne h2] at hk gk
        exact absurd gk (hn k es hk)
    · rw [List.getElem?_set_ne h1] at hj gj
      by_cases h2 : i = k
      · subst h2
        have hl : i < σ.length := by
          have := (List.getElem?_eq_some_iff.mp gk).1
          rwa [List.length_set] at this
        rw [List.getElem?_set_self hl] at gk
        cases gk
        exact absurd gj (hn j ds' hj)
      · rw [List.getElem?_set_ne h2] at hk gk
        exact s.dis j k ds' es a hj hk gj gk
/-- a slot forgotten -/
theorem Sd.clr (i : Nat) (s : Sd K σ F H ρ) (o : Option V) : Sd K (σ.set i o) F H (ρ.set i .un) := by
  have key : ∀ m sl, (ρ.set i .un)[m]? = some sl → (∀ z : sl = .un, False) → i ≠ m := fun m sl hm hz hi => by
    subst hi
    have hl : i < ρ.length := by
      have := (List.getElem?_eq_some_iff.mp hm).1
      rwa [List.length_set] at this
    rw [List.getElem?_set_self hl] at hm
    cases hm
    exact hz rfl
  refine ⟨s.sub, by rw [List.length_set, List.length_set, s.len], fun j e hj => ?_, fun j es hj => ?_, fun j k ds' es a hj hk gj gk => ?_⟩
  · have h1 := key j _ hj (fun z => by cases z)
    rw [List.getElem?_set_ne h1] at hj ⊢
    exact s.dat j e hj
  · have h1 := key j _ hj (fun z => by cases z)
    rw [List.getElem?_set_ne h1] at hj ⊢
    exact s.own j es hj
  · have h1 := key j _ hj (fun z => by cases z)
    have h2 := key k _ hk (fun z => by cases z)
    rw [List.getElem?_set_ne h1] at hj gj
    rw [List.getElem?_set_ne h2] at hk gk
    exact s.dis j k ds' es a hj hk gj gk
end
def wipeE (ρ : En) : List Nat → En
  | [] => ρ
  | v :: vs => (wipeE ρ vs).set v .un
theorem Sd.wipe {K : PySem.W.Frag} {σ : L2.St} {F H : Hp} {ρ : En} (s : Sd K σ F H ρ) : ∀ vs : List Nat, Sd K (L2.wipe σ vs) F H (wipeE ρ vs)
  | [] => s
  | v :: vs => (Sd.wipe s vs).clr v none
theorem wipe_at (τ : L2.St) (i : Nat) : ∀ vs : List Nat, (L2.wipe τ vs)[i]? = if i ∈ vs then (if i < τ.length then some none else none) else τ[i]?
  | [] => by simp [L2.wipe]
  | v :: vs => by
    unfold L2.wipe
    by_cases hv : v = i
    · subst hv
      by_cases hl : v < τ.length
      · rw [List.getElem?_set_self (by rw [wipe_length]; exact hl)]
        simp [hl]
      · rw [List.getElem?_eq_none (by rw [List.length_set, wipe_length]; omega)]
        simp [hl]
    · rw [List.getElem?_set_ne hv, wipe_at τ i vs]
      have : i ≠ v := fun e => hv e.symm
      simp [this]
theorem wipe_wipe (σ : L2.St) (vs : List Nat) : L2.wipe (L2.wipe σ vs) vs = L2.wipe σ vs := by
  refine List.ext_getElem? fun i => ?_
  rw [wipe_at, wipe_at, wipe_length]
  split <;> rfl
theorem wipe_set (τ : L2.St) (j : Nat) (o : Option V) (vs : List Nat) (h : j ∈ vs) : L2.wipe (τ.set j o) vs = L2.wipe τ vs := by
  refine List.ext_getElem? fun i => ?_
  rw [wipe_at, wipe_at, List.length_set]
  split
  · rfl
  · rename_i hi
    rw [List.getElem?_set_ne (fun e => hi (by rw [← e]; exact h))]

/-! ### the readings -/
def tE (K : PySem.W.Frag) (ρ : En) (d : D) : TE := fun σ H Q => ∃ F, Sd K σ F H ρ ∧ ∀ v F' H', Gr F H F' H' → Dp K F' v d → Q v H'
def tL (K : PySem.W.Frag) (ρ : En) (ds : List D) : TE := fun σ H Q => ∃ F, Sd K σ F H ρ ∧ ∀ p vs F' H', Gr F H F' H' → H p = none → F' p = none → H' p = some (HO.lst vs) → DpAll K F' vs ds → Q (.ref p) H'
def tA (K : PySem.W.Frag) (ρ : En) (ds : List D) : TA := fun σ H Q => ∃ F, Sd K σ F H ρ ∧ ∀ vs F' H', Gr F H F' H' → DpAll K F' vs ds → Q vs H'
def tT (K : PySem.W.Frag) (ρ : En) (b : Bool) : TT := fun σ H Q => ∃ F, Sd K σ F H ρ ∧ ∀ F' H', Gr F H F' H' → Q b H'
def tO (K : PySem.W.Frag) (ρ : En) (o : Option Int) : TO := fun σ H Q => ∃ F, Sd K σ F H ρ ∧ ∀ F' H', Gr F H F' H' → Q o H'
/-- the expression is these data; a new list of these data; arguments; a test; a part of a slice -/
abbrev DE (X : Cx) (ρ : En) (e : Expr) (d : D) : Prop := PE X e (tE X.K ρ d)
abbrev DL (X : Cx) (ρ : En) (e : Expr) (ds : List D) : Prop := PE X e (tL X.K ρ ds)
abbrev DA (X : Cx) (ρ : En) (es : List Expr) (ds : List D) : Prop := PA X es (tA X.K ρ ds)
abbrev DT (X : Cx) (ρ : En) (e : Expr) (b : Bool) : Prop := PT X e (tT X.K ρ b)
abbrev DW (X : Cx) (ρ : En) (e : Expr) (b : Bool) : Prop := PW X e (tT X.K ρ b)
abbrev DO (X : Cx) (ρ : En) (e : Option Expr) (o : Option Int) : Prop := PO X e (tO X.K ρ o)

section
variable {X : Cx} {ρ : En}
theorem weakE {e : Expr} {t t' : TE} (h : PE X e t) (w : ∀ σ H Q, t' σ H Q → t σ H Q) : PE X e t' := ⟨fun pins s σ H Q I q => h.run pins s σ H Q I (w σ H Q q)⟩
theorem weakA {e : List Expr} {t t' : TA} (h : PA X e t) (w : ∀ σ H Q, t' σ H Q → t σ H Q) : PA X e t' := ⟨fun pos pins s σ H Q I q => h.run pos pins s σ H Q I (w σ H Q q)⟩
theorem weakT {e : Expr} {t t' : TT} (h : PT X e t) (w : ∀ σ H Q, t' σ H Q → t σ H Q) : PT X e t' := ⟨fun pins s σ H Q I q => h.run pins s σ H Q I (w σ H Q q)⟩
theorem weakW {e : Expr} {t t' : TT} (h : PW X e t) (w : ∀ σ H Q, t' σ H Q → t σ H Q) : PW X e t' := ⟨fun wh pins s σ H Q I q => h.run wh pins s σ H Q I (w σ H Q q)⟩
theorem weakO {e : Option Expr} {t t' : TO} (h : PO X e t) (w : ∀ σ H Q, t' σ H Q → t σ H Q) : PO X e t' := ⟨fun pins s σ H Q I q => h.run pins s σ H Q I (w σ H Q q)⟩
theorem weakS {e : Stmt} {t t' : TS} (h : PS X e t) (w : ∀ D σ H, t' D σ H → t D σ H) : PS X e t' := ⟨fun pins s σ H Q I q => h.run pins s σ H Q I (w Q σ H q)⟩
theorem weakSs {e : List Stmt} {t t' : TS} (h : PSs X e t) (w : ∀ D σ H, t' D σ H → t D σ H) : PSs X e t' := ⟨fun pins s σ H Q I q => h.run pins s σ H Q I (w Q σ H q)⟩
theorem weakI {g i : Expr} {t t' : TI} (h : PI X g i t) (w : ∀ σ H Q, t' σ H Q → t σ H Q) : PI X g i t' := ⟨fun pins s σ H Q I q => h.run pins s σ H Q I (w σ H Q q)⟩

theorem DE.is {e : Expr} {d d' : D} (h : DE X ρ e d) (q : d = d') : DE X ρ e d' := q ▸ h
theorem DL.is {e : Expr} {d d' : List D} (h : DL X ρ e d) (q : d = d') : DL X ρ e d' := q ▸ h
theorem DW.is {X : Cx} {ρ : En} {e : Expr} {d d' : Bool} (h : DW X ρ e d) (q : d = d') : DW X ρ e d' := q ▸ h
theorem DT.is {e : Expr} {d d' : Bool} (h : DT X ρ e d) (q : d = d') : DT X ρ e d' := q ▸ h
/-- a new list, frozen -/
theorem DL.e {e : Expr} {ds : List D} (h : DL X ρ e ds) : DE X ρ e (.list ds) := weakE h fun σ H Q ⟨F, S, q⟩ =>
  ⟨F, S, fun p vs F' H' g h1 h2 h3 h4 => q (.ref p) (upd F' p (.lst vs)) H' (g.frz h1 h2 h3) (.lst (SqL.of upd_same) (dpa_ex (Ex.new h2) h4))⟩
/-- a name of the def -/
theorem v (i : Nat) {x : Str} {pos : Pos} {d : D} (hρ : ρ[i]? = some (Slot.dat d)) (hN : X.N[i]? = some x := by rfl) (hv : Vis X.env.scope x := by first | exact Or.inl rfl | exact Or.inr (Or.inl rfl) | exact Or.inr (Or.inr rfl))
    (hd : (x == ("__debug__" : Str)) = false := by decide) (hcd : (x == ("__classdict__" : Str)) = false := by decide) : DE X ρ (.Name x pos) d :=
  weakE (pe_var hN hv hd hcd) fun σ H Q ⟨F, S, q⟩ => by
    obtain ⟨v, h1, h2⟩ := S.dat i d hρ
    exact ⟨v, h1, q v F H (Gr.refl S.sub) h2⟩
theorem c_int {i : Int} {j pos} : DE X ρ (.Constant (.int i) j pos) (.int i) := weakE pe_int fun σ H Q ⟨F, S, q⟩ => q _ F H (Gr.refl S.sub) (.int i)
theorem c_bl {i : Bool} {j pos} : DE X ρ (.Constant (.bool i) j pos) (.bool i) := weakE pe_bl fun σ H Q ⟨F, S, q⟩ => q _ F H (Gr.refl S.sub) (.bl i)
theorem c_non {j pos} : DE X ρ (.Constant .none j pos) .none := weakE pe_non fun σ H Q ⟨F, S, q⟩ => q _ F H (Gr.refl S.sub) .non
theorem c_str {x : Str} {j pos} : DE X ρ (.Constant (.str x) j pos) (.str x) := weakE pe_str fun σ H Q ⟨F, S, q⟩ => q _ F H (Gr.refl S.sub) (.str x)
theorem g_int {x : Str} {i : Int} {pos} (hg : Gl X x) (h : ∃ t, X.mg x = some (.int i t)) (hd : (x == ("__debug__" : Str)) = false := by decide) : DE X ρ (.Name x pos) (.int i) := by
  obtain ⟨t, h⟩ := h
  exact weakE (pe_glob (v := .int i) hg h ⟨t, rfl⟩ hd) fun σ H Q ⟨F, S, q⟩ => q _ F H (Gr.refl S.sub) (.int i)
theorem g_str {x y : Str} {pos} (hg : Gl X x) (h : ∃ t, X.mg x = some (.str y t)) (hd : (x == ("__debug__" : Str)) = false := by decide) : DE X ρ (.Name x pos) (.str y) := by
  obtain ⟨t, h⟩ := h
  exact weakE (pe_glob (v := .str y) hg h ⟨t, rfl⟩ hd) fun σ H Q ⟨F, S, q⟩ => q _ F H (Gr.refl S.sub) (.str y)

/-! ### arguments, displays -/
theorem a_nil : DA X ρ [] [] := weakA pa_nil fun σ H Q ⟨F, S, q⟩ => q [] F H (Gr.refl S.sub) .nil
theorem a_cons {e : Expr} {es : List Expr} {d : D} {ds : List D} (h : DE X ρ e d) (hs : DA X ρ es ds) (hx : starEach (e :: es) X.env = (false, eval e X.env) :: starEach es X.env := by rfl) : DA X ρ (e :: es) (d :: ds) :=
  weakA (pa_cons h hs hx) fun σ H Q ⟨F, S, q⟩ => ⟨F, S, fun v F' H' g hv => ⟨F', S.mono g, fun vs F2 H2 g2 hvs => q (v :: vs) F2 H2 (g.trans g2) (.cons (dp_ex g2.f hv) hvs)⟩⟩
theorem e_tup {es : List Expr} {ds : List D} {x1 pos} (h : DA X ρ es ds) (hl : ds.length ≤ 100000) : DE X ρ (.Tuple es x1 pos) (.tuple ds) :=
  weakE (pe_tup h) fun σ H Q ⟨F, S, q⟩ => ⟨F, S, fun vs F' H' g hv => ⟨sz_of (by rw [dpa_len hv]; exact hl), fun p hp =>
    q (.ref p) (upd F' p (.tup vs)) (upd H' p (.tup vs)) (g.trans (Gr.fr g.sub hp)) (.tup (SqT.of upd_same) (dpa_ex (Ex.new (none_of g.sub hp)) hv))⟩⟩
theorem l_lst {es : List Expr} {ds : List D} {pos} (h : DA X ρ es ds) (hl : ds.length ≤ 100000) : DL X ρ (.List es pos) ds :=
  weakE (pe_lst h) fun σ H Q ⟨F, S, q⟩ => ⟨F, S, fun vs F' H' g hv => ⟨sz_of (by rw [dpa_len hv]; exact hl), fun p hp =>
    q p vs F' (upd H' p (.lst vs)) (g.trans (Gr.lay g.sub hp)) (none_of g.h hp) (none_of g.sub hp) upd_same hv⟩⟩

/-! ### operators by data -/
/-- an operator on values, told of data: the answer -/
def RD (K : PySem.W.Frag) (r : R2) (a b d : D) : Prop := ∀ (x y : V) (F H : Hp), Ex F H → Dp K F x a → Dp K F y b → ∀ Q : VK, (∀ v F' H', Gr F H F' H' → Dp K F' v d → Q v H') → r x y H Q
/-- .. a new list -/
def RDL (K : PySem.W.Frag) (r : R2) (a b : D) (ds : List D) : Prop := ∀ (x y : V) (F H : Hp), Ex F H → Dp K F x a → Dp K F y b → ∀ Q : VK, (∀ p vs F' H', Gr F H F' H' → H p = none → F' p = none → H' p = some (HO.lst vs) → DpAll K F' vs ds → Q (.ref p) H') → r x y H Q
theorem e_op {op : Operator} {r : R2} {a b : Expr} {da db d : D} {pos} (ho : OpR X (binaryOp op) r) (hr : RD X.K r da db d) (ha : DE X ρ a da) (hb : DE X ρ b db) : DE X ρ (.BinOp a op b pos) d :=
  weakE (pe_op ho ha hb) fun σ H Q ⟨F, S, q⟩ => ⟨F, S, fun x F1 H1 g1 hx => ⟨F1, S.mono g1, fun y F2 H2 g2 hy =>
    hr x y F2 H2 g2.sub (dp_ex g2.f hx) hy Q fun v F' H' g hv => q v F' H' ((g1.trans g2).trans g) hv⟩⟩
theorem l_op {op : Operator} {r : R2} {a b : Expr} {da db : D} {d : List D} {pos} (ho : OpR X (binaryOp op) r) (hr : RDL X.K r da db d) (ha : DE X ρ a da) (hb : DE X ρ b db) : DL X ρ (.BinOp a op b pos) d :=
  weakE (pe_op ho ha hb) fun σ H Q ⟨F, S, q⟩ => ⟨F, S, fun x F1 H1 g1 hx => ⟨F1, S.mono g1, fun y F2 H2 g2 hy =>
    hr x y F2 H2 g2.sub (dp_ex g2.f hx) hy Q fun p vs F' H' g h1 h2 h3 h4 => q p vs F' H' ((g1.trans g2).trans g) (none_of (g1.h.trans g2.h) h1) h2 h3 h4⟩⟩
theorem e_cmp {op : CmpOp} {r : R2} {a b : Expr} {da db d : D} {pos} (ho : OpR X (compareOp op) r) (hr : RD X.K r da db d) (ha : DE X ρ a da) (hb : DE X ρ b db) (hm : behindInMarks op b = false) : DE X ρ (.Compare a [op] [b] pos) d :=
  weakE (pe_cmpR ho ha hb hm) fun σ H Q ⟨F, S, q⟩ => ⟨F, S, fun x F1 H1 g1 hx => ⟨F1, S.mono g1, fun y F2 H2 g2 hy =>
    hr x y F2 H2 g2.sub (dp_ex g2.f hx) hy Q fun v F' H' g hv => q v F' H' ((g1.trans g2).trans g) hv⟩⟩
theorem t_cmp {op : CmpOp} {r : R2} {a b : Expr} {da db : D} {c : Bool} {pos} (ho : OpR X (compareOp op) r) (hr : RD X.K r da db (.bool c)) (ha : DE X ρ a da) (hb : DE X ρ b db) (hm : behindInMarks op b = false) : DT X ρ (.Compare a [op] [b] pos) c :=
  weakT (pt_cmpR ho ha hb hm) fun σ H Q ⟨F, S, q⟩ => ⟨F, S, fun x F1 H1 g1 hx => ⟨F1, S.mono g1, fun y F2 H2 g2 hy =>
    hr x y F2 H2 g2.sub (dp_ex g2.f hx) hy _ fun v F' H' g hv => ⟨c, dp_bl hv, q F' H' ((g1.trans g2).trans g)⟩⟩⟩
theorem rd_I0 {g : Int → Int → Int} {i j : Int} {K : PySem.W.Frag} : RD K (rI0 fun i j => .int (g i j)) (.int i) (.int j) (.int (g i j)) := fun x y F H s hx hy Q q =>
  ⟨i, j, dp_int hx, dp_int hy, q _ F H (Gr.refl s) (.int _)⟩
theorem rd_I {C : Int → Int → Prop} {g : Int → Int → Int} {i j : Int} {K : PySem.W.Frag} (hc : C i j) : RD K (rI C fun i j => .int (g i j)) (.int i) (.int j) (.int (g i j)) := fun x y F H s hx hy Q q =>
  ⟨i, j, dp_int hx, dp_int hy, hc, q _ F H (Gr.refl s) (.int _)⟩
theorem rd_B0 {g : Int → Int → Bool} {i j : Int} {K : PySem.W.Frag} : RD K (rI0 fun i j => .bl (g i j)) (.int i) (.int j) (.bool (g i j)) := fun x y F H s hx hy Q q =>
  ⟨i, j, dp_int hx, dp_int hy, q _ F H (Gr.refl s) (.bl _)⟩
section
variable {a b c : Expr} {i j k : Int} {pos : Pos}
theorem add (ha : DE X ρ a (.int i)) (hb : DE X ρ b (.int j)) : DE X ρ (.BinOp a .Add b pos) (.int (i + j)) := e_op op_add rd_I0 ha hb
theorem sub (ha : DE X ρ a (.int i)) (hb : DE X ρ b (.int j)) : DE X ρ (.BinOp a .Sub b pos) (.int (i - j)) := e_op op_sub rd_I0 ha hb
theorem mul (h : CMul i j) (ha : DE X ρ a (.int i)) (hb : DE X ρ b (.int j)) : DE X ρ (.BinOp a .Mult b pos) (.int (i * j)) := e_op op_mul (rd_I h) ha hb
theorem modp (h : 0 < j) (ha : DE X ρ a (.int i)) (hb : DE X ρ b (.int j)) : DE X ρ (.BinOp a .Mod b pos) (.int (i % j)) := e_op op_mod (rd_I h) ha hb
theorem fdiv (h : CDiv i j) (ha : DE X ρ a (.int i)) (hb : DE X ρ b (.int j)) : DE X ρ (.BinOp a .FloorDiv b pos) (.int (i / j)) := e_op op_fdiv (rd_I h) ha hb
theorem powi (h : CPow i j) (ha : DE X ρ a (.int i)) (hb : DE X ρ b (.int j)) : DE X ρ (.BinOp a .Pow b pos) (.int (i ^ j.toNat)) := e_op op_pow (rd_I h) ha hb
theorem t_lt (ha : DE X ρ a (.int i)) (hb : DE X ρ b (.int j)) : DT X ρ (.Compare a [.Lt] [b] pos) (decide (i < j)) := t_cmp op_lt rd_B0 ha hb (nomark _)
theorem t_le (ha : DE X ρ a (.int i)) (hb : DE X ρ b (.int j)) : DT X ρ (.Compare a [.LtE] [b] pos) (decide (i ≤ j)) := t_cmp op_le rd_B0 ha hb (nomark _)
theorem t_gt (ha : DE X ρ a (.int i)) (hb : DE X ρ b (.int j)) : DT X ρ (.Compare a [.Gt] [b] pos) (decide (j < i)) := t_cmp op_gt rd_B0 ha hb (nomark _)
theorem t_ge (ha : DE X ρ a (.int i)) (hb : DE X ρ b (.int j)) : DT X ρ (.Compare a [.GtE] [b] pos) (decide (j ≤ i)) := t_cmp op_ge rd_B0 ha hb (nomark _)
theorem e_lt (ha : DE X ρ a (.int i)) (hb : DE X ρ b (.int j)) : DE X ρ (.Compare a [.Lt] [b] pos) (.bool (decide (i < j))) := e_cmp op_lt rd_B0 ha hb (nomark _)
theorem e_le (ha : DE X ρ a (.int i)) (hb : DE X ρ b (.int j)) : DE X ρ (.Compare a [.LtE] [b] pos) (.bool (decide (i ≤ j))) := e_cmp op_le rd_B0 ha hb (nomark _)
theorem e_gt (ha : DE X ρ a (.int i)) (hb : DE X ρ b (.int j)) : DE X ρ (.Compare a [.Gt] [b] pos) (.bool (decide (j < i))) := e_cmp op_gt rd_B0 ha hb (nomark _)
theorem e_ge (ha : DE X ρ a (.int i)) (hb : DE X ρ b (.int j)) : DE X ρ (.Compare a [.GtE] [b] pos) (.bool (decide (j ≤ i))) := e_cmp op_ge rd_B0 ha hb (nomark _)
/-- i <= j <= k -/
theorem e_lele (ha : DE X ρ a (.int i)) (hb : DE X ρ b (.int j)) (hc : DE X ρ c (.int k)) (hm : lastMarks [CmpOp.LtE, CmpOp.LtE] [b, c] = false := by with_unfolding_all rfl) : DE X ρ (.Compare a [.LtE, .LtE] [b, c] pos) (.bool (decide (i ≤ j) && decide (j ≤ k))) :=
  weakE (pe_chain op_le op_le ha hb hc hm) fun σ H Q ⟨F, S, q⟩ => ⟨F, S, fun x F1 H1 g1 hx => ⟨F1, S.mono g1, fun y F2 H2 g2 hy => ⟨i, j, dp_int hx, dp_int hy, _, rfl, by
    by_cases h : i ≤ j
    · rw [if_pos (decide_eq_true h)]
      refine ⟨F2, (S.mono g1).mono g2, fun z F3 H3 g3 hz => ⟨j, k, dp_int hy, dp_int hz, ?_⟩⟩
      exact q _ F3 H3 ((g1.trans g2).trans g3) (by rw [decide_eq_true h, Bool.true_and]; exact .bl _)
    · rw [if_neg (by simp [h])]
      exact q _ F2 H2 (g1.trans g2) (by rw [decide_eq_false h, Bool.false_and]; exact .bl _)⟩⟩⟩
end

/-! ### tests -/
section
variable {a b c : Expr} {p q : Bool} {pos : Pos} {rest : List Expr}
theorem t_val (h : DE X ρ a (.bool p)) (he : ∀ whole, isTrue a X.env whole = (do let v ← whole; standAt a.pos; holding [v] (truthy v)) := by intro _; rfl) : DT X ρ a p :=
  weakT (pt_val h he) fun σ H Q ⟨F, S, q⟩ => ⟨F, S, fun v F' H' g hv => ⟨p, dp_bl hv, q F' H' g⟩⟩
theorem w_and1 (h : DT X ρ a p) : DW X ρ (.BoolOp .And [a] pos) p := pw_and1 h
theorem w_or1 (h : DT X ρ a p) : DW X ρ (.BoolOp .Or [a] pos) p := pw_or1 h
theorem weakU {X : Cx} {e : Expr} {t t' : TT} (h : PW X e t) (w : ∀ σ H Q, t' σ H Q → t σ H Q) : PW X e t' := weakW h w
/-- the second is asked only where the first is true -/
theorem w_and (ha : DT X ρ a p) (hb : p = true → DW X ρ (.BoolOp .And (b :: rest) pos) q) : DW X ρ (.BoolOp .And (a :: b :: rest) pos) (p && q) := by
  refine weakW (pw_and (tB' := fun σ H Q => p = true ∧ tT X.K ρ q σ H Q) ha ⟨fun wh pins s σ H Q I h => (hb h.1).run wh pins s σ H Q I h.2⟩) fun σ H Q ⟨F, S, k⟩ => ⟨F, S, fun F' H' g => ?_⟩
  cases p with
  | true => exact ⟨rfl, F', S.mono g, fun F2 H2 g2 => k F2 H2 (g.trans g2)⟩
  | false => exact k F' H' g
theorem w_or (ha : DT X ρ a p) (hb : p = false → DW X ρ (.BoolOp .Or (b :: rest) pos) q) : DW X ρ (.BoolOp .Or (a :: b :: rest) pos) (p || q) := by
  refine weakW (pw_or (tB' := fun σ H Q => p = false ∧ tT X.K ρ q σ H Q) ha ⟨fun wh pins s σ H Q I h => (hb h.1).run wh pins s σ H Q I h.2⟩) fun σ H Q ⟨F, S, k⟩ => ⟨F, S, fun F' H' g => ?_⟩
  cases p with
  | true => exact k F' H' g
  | false => exact ⟨rfl, F', S.mono g, fun F2 H2 g2 => k F2 H2 (g.trans g2)⟩
theorem t_not (ha : DT X ρ a p) : DT X ρ (.UnaryOp .Not a pos) (!p) := weakT (pt_not ha) fun σ H Q ⟨F, S, k⟩ => ⟨F, S, fun F' H' g => k F' H' g⟩
theorem e_one {op} {d : D} (h : DE X ρ a d) : DE X ρ (.BoolOp op [a] pos) d := pe_one h
theorem e_and (ha : DE X ρ a (.bool p)) (hb : p = true → DE X ρ (.BoolOp .And (b :: rest) pos) (.bool q)) : DE X ρ (.BoolOp .And (a :: b :: rest) pos) (.bool (p && q)) := by
  refine weakE (pe_and (tb := fun σ H Q => p = true ∧ tE X.K ρ (.bool q) σ H Q) ha ⟨fun pins s σ H Q I h => (hb h.1).run pins s σ H Q I h.2⟩) fun σ H Q ⟨F, S, k⟩ => ⟨F, S, fun v F' H' g hv => ⟨p, dp_bl hv, ?_⟩⟩
  cases p with
  | true => exact ⟨rfl, F', S.mono g, fun v F2 H2 g2 h2 => k v F2 H2 (g.trans g2) h2⟩
  | false => exact k _ F' H' g (.bl _)
theorem e_or (ha : DE X ρ a (.bool p)) (hb : p = false → DE X ρ (.BoolOp .Or (b :: rest) pos) (.bool q)) : DE X ρ (.BoolOp .Or (a :: b :: rest) pos) (.bool (p || q)) := by
  refine weakE (pe_or (tb := fun σ H Q => p = false ∧ tE X.K ρ (.bool q) σ H Q) ha ⟨fun pins s σ H Q I h => (hb h.1).run pins s σ H Q I h.2⟩) fun σ H Q ⟨F, S, k⟩ => ⟨F, S, fun v F' H' g hv => ⟨p, dp_bl hv, ?_⟩⟩
  cases p with
  | true => exact k _ F' H' g (.bl _)
  | false => exact ⟨rfl, F', S.mono g, fun v F2 H2 g2 h2 => k v F2 H2 (g.trans g2) h2⟩
theorem e_not (ha : DE X ρ a (.bool p)) : DE X ρ (.UnaryOp .Not a pos) (.bool (!p)) := weakE (pe_not ha) fun σ H Q ⟨F, S, k⟩ => ⟨F, S, fun v F' H' g hv => ⟨p, dp_bl hv, k _ F' H' g (.bl _)⟩⟩
/-- a if c else b: the one that is asked -/
theorem e_if {d : D} (hc : DT X ρ c p) (ha : p = true → DE X ρ a d) (hb : p = false → DE X ρ b d) : DE X ρ (.IfExp c a b pos) d := by
  refine weakE (pe_ifExp (ta := fun σ H Q => p = true ∧ tE X.K ρ d σ H Q) (tb := fun σ H Q => p = false ∧ tE X.K ρ d σ H Q) hc ⟨fun pins s σ H Q I h => (ha h.1).run pins s σ H Q I h.2⟩ ⟨fun pins s σ H Q I h => (hb h.1).run pins s σ H Q I h.2⟩) fun σ H Q ⟨F, S, k⟩ => ⟨F, S, fun F' H' g => ?_⟩
  cases p with
  | true => exact ⟨rfl, F', S.mono g, fun v F2 H2 g2 h2 => k v F2 H2 (g.trans g2) h2⟩
  | false => exact ⟨rfl, F', S.mono g, fun v F2 H2 g2 h2 => k v F2 H2 (g.trans g2) h2⟩
end
end
end Lm
set_option maxRecDepth 100000
set_option maxHeartbeats 4000000
/-! What loops and comprehensions walk, comprehensions, calls of built-ins, by data. -/
namespace Lm
open PySem PySem.Spec PyProof.Rows L2 Evl

/-! ### sources -/
structure Yields (K : PySem.W.Frag) (J : It) (B F : Hp) (ds : List D) : Prop where
  go : ∀ (i : Nat) (H : Hp), i < ds.length → Ex B H → J.go i H
  stop : ∀ H : Hp, Ex B H → J.stop ds.length H
  yld : ∀ (i : Nat) (d : D) (H : Hp) (x : V) (H' F' : Hp), ds[i]? = some d → Ex B H → Ex F F' → Ex F' H → J.yld i H x H' → ∃ F2, Gr F' H F2 H' ∧ Dp K F2 x d
/-- frozen data are walked -/
def tI (K : PySem.W.Frag) (ρ : En) (ds : List D) : TI := fun σ H R => ∃ F, Sd K σ F H ρ ∧ ∀ J F' H', Gr F H F' H' → Yields K J F' F' ds → R J H'
/-- .. or something that stands as long as nothing is changed -/
def tIo (K : PySem.W.Frag) (ρ : En) (ds : List D) : TI := fun σ H R => ∃ F, Sd K σ F H ρ ∧ ∀ J B F' H', Gr F H F' H' → Ex B H' → Yields K J B F' ds → R J H'
abbrev DI (X : Cx) (ρ : En) (tg e : Expr) (ds : List D) : Prop := PI X tg e (tI X.K ρ ds)
abbrev DIo (X : Cx) (ρ : En) (tg e : Expr) (ds : List D) : Prop := PI X tg e (tIo X.K ρ ds)
section
variable {X : Cx} {ρ : En} {tg e : Expr} {ds es : List D}
theorem DI.o (h : DI X ρ tg e ds) : DIo X ρ tg e ds := weakI h fun σ H R ⟨F, S, q⟩ => ⟨F, S, fun J F' H' g y => q J F' F' H' g g.sub y⟩
theorem DI.is (h : DI X ρ tg e ds) (q : ds = es) : DI X ρ tg e es := q ▸ h
theorem Yields.list {K : PySem.W.Frag} {a : Addr} {vs : List V} {B F : Hp} (h : SqL K B a vs) (hd : DpAll K F vs ds) : Yields K (Itl K a) B F ds :=
  ⟨fun i H hi e => ⟨vs, vs[i]'(by rw [dpa_len hd]; exact hi), ex_l e h, by simp [dpa_len hd, hi]⟩, fun H e => ⟨vs, ex_l e h, Nat.le_of_eq (dpa_len hd)⟩, fun i d H x H' F' hi e f s y => by
    obtain ⟨rfl, y⟩ := y
    obtain ⟨v, h1, h2⟩ := dpa_get hd hi
    have h3 := y vs (ex_l e h)
    rw [h1] at h3
    cases h3
    exact ⟨F', Gr.refl s, dp_ex f h2⟩⟩
theorem Yields.tup {K : PySem.W.Frag} {a : Addr} {vs : List V} {B F : Hp} (h : SqT K B a vs) (hd : DpAll K F vs ds) : Yields K (Itt K a) B F ds :=
  ⟨fun i H hi e => ⟨vs, vs[i]'(by rw [dpa_len hd]; exact hi), ex_t e h, by simp [dpa_len hd, hi]⟩, fun H e => ⟨vs, ex_t e h, Nat.le_of_eq (dpa_len hd)⟩, fun i d H x H' F' hi e f s y => by
    obtain ⟨rfl, y⟩ := y
    obtain ⟨v, h1, h2⟩ := dpa_get hd hi
    have h3 := y vs (ex_t e h)
    rw [h1] at h3
    cases h3
    exact ⟨F', Gr.refl s, dp_ex f h2⟩⟩
theorem Yields.rng {K : PySem.W.Frag} {lo : Int} {n : Nat} {B F : Hp} : Yields K (Itr lo n) B F ((List.range n).map fun (k : Nat) => PyData.int (lo + (k : Int))) :=
  ⟨fun i H hi e => by
    show i < n
    simpa using hi, fun H e => by
    show n ≤ List.length _
    simp, fun i d H x H' F' hi e f s y => by
    obtain ⟨rfl, rfl⟩ := y
    rw [List.getElem?_map] at hi
    have hl : i < n := by
      cases q : (List.range n)[i]? with
      | none => rw [q] at hi; cases hi
      | some z => simpa using (List.getElem?_eq_some_iff.mp q).1
    rw [List.getElem?_range hl] at hi
    cases hi
    exact ⟨F', Gr.refl s, .int _⟩⟩
theorem i_lst (h : DE X ρ e (.list ds)) : DI X ρ tg e ds := weakI (pi_list h) fun σ H R ⟨F, S, q⟩ => ⟨F, S, fun v F' H' g hv => by
  obtain ⟨a, vs, rfl, h1, h2⟩ := dp_lst hv
  exact ⟨a, rfl, ⟨vs, ex_l g.sub h1⟩, q _ F' H' g (.list h1 h2)⟩⟩
theorem i_tup (h : DE X ρ e (.tuple ds)) : DI X ρ tg e ds := weakI (pi_tup h) fun σ H R ⟨F, S, q⟩ => ⟨F, S, fun v F' H' g hv => by
  obtain ⟨a, vs, rfl, h1, h2⟩ := dp_tup hv
  exact ⟨a, rfl, ⟨vs, ex_t g.sub h1⟩, q _ F' H' g (.tup h1 h2)⟩⟩
/-- over a list that is one's own -/
theorem i_own (i : Nat) {x : Str} {pos : Pos} (hρ : ρ[i]? = some (Slot.own ds)) (hN : X.N[i]? = some x := by rfl) (hv : Vis X.env.scope x := by first | exact Or.inl rfl | exact Or.inr (Or.inl rfl) | exact Or.inr (Or.inr rfl))
    (hd : (x == ("__debug__" : Str)) = false := by decide) (hcd : (x == ("__classdict__" : Str)) = false := by decide) : DIo X ρ tg (.Name x pos) ds := weakI (pi_list (pe_var hN hv hd hcd)) fun σ H R ⟨F, S, q⟩ => by
  obtain ⟨a, vs, h1, h2, h3, h4⟩ := S.own i ds hρ
  refine ⟨_, h1, a, rfl, ⟨vs, SqL.of h2⟩, q _ H F H (Gr.refl S.sub) (Ex.refl _) ?_⟩
  exact Yields.list (B := H) (F := F) (SqL.of h2) h4
theorem i_rng1 {a : Expr} {n : Int} {p pos : Pos} (hm : X.mg "range" = none) (hn : -100000 ≤ n ∧ n ≤ 100000) (h : DE X ρ a (.int n)) (hg : Gl X "range" := by rfl) (hs : starEach [a] X.env = [(false, eval a X.env)] := by rfl) :
    DI X ρ tg (.Call (.Name "range" p) [a] [] pos) ((List.range n.toNat).map fun (k : Nat) => PyData.int (k : Int)) :=
  weakI (pi_range1 hg hm (a_cons h a_nil hs) hs) fun σ H R ⟨F, S, q⟩ => ⟨F, S, fun vs F' H' g hv => by
    cases hv with
    | cons h1 h2 =>
      cases h2
      refine ⟨n, by rw [dp_int h1], by omega, by omega, q _ F' H' g ?_⟩
      have e : ((List.range n.toNat).map fun (k : Nat) => PyData.int (k : Int)) = (List.range n.toNat).map fun (k : Nat) => PyData.int (0 + (k : Int)) := by simp
      rw [e]
      exact .rng⟩
theorem i_rng2 {a b : Expr} {lo n : Int} {p pos : Pos} (hm : X.mg "range" = none) (hn : (-100000 ≤ lo ∧ lo ≤ 100000) ∧ -100000 ≤ n ∧ n ≤ 100000) (h : DE X ρ a (.int lo)) (h' : DE X ρ b (.int n)) (hg : Gl X "range" := by rfl)
    (hs : starEach [a, b] X.env = [(false, eval a X.env), (false, eval b X.env)] := by rfl) (hs2 : starEach [b] X.env = [(false, eval b X.env)] := by rfl) :
    DI X ρ tg (.Call (.Name "range" p) [a, b] [] pos) ((List.range (n - lo).toNat).map fun (k : Nat) => PyData.int (lo + (k : Int))) :=
  weakI (pi_range2 hg hm (a_cons h (a_cons h' a_nil hs2) (by rw [hs, hs2])) hs hs2) fun σ H R ⟨F, S, q⟩ => ⟨F, S, fun vs F' H' g hv => by
    cases hv with
    | cons h1 h2 =>
      cases h2 with
      | cons h2 h3 =>
        cases h3
        exact ⟨lo, n, by rw [dp_int h1, dp_int h2], by omega, q _ F' H' g .rng⟩⟩
/-- a new pair in each turn -/
theorem yl_pair {K : PySem.W.Frag} {F' H : Hp} {T : Addr} {x y : V} {dx dy : D} (s : Ex F' H) (hT : H T = none) (hx : Dp K F' x dx) (hy : Dp K F' y dy) : ∃ F2, Gr F' H F2 (upd H T (.tup [x, y])) ∧ Dp K F2 (.ref T) (.tuple [dx, dy]) :=
  ⟨upd F' T (.tup [x, y]), Gr.fr s hT, .tup (SqT.of upd_same) (.cons (dp_ex (Ex.new (none_of s hT)) hx) (.cons (dp_ex (Ex.new (none_of s hT)) hy) .nil))⟩
def enumD (ds : List D) : List D := ds.zipIdx.map fun p => PyData.tuple [.int (p.2 : Int), p.1]
theorem enumD_at {ds : List D} {i : Nat} {d : D} (h : (enumD ds)[i]? = some d) : ∃ e, ds[i]? = some e ∧ d = .tuple [.int (i : Int), e] := by
  unfold enumD at h
  rw [List.getElem?_map, List.getElem?_zipIdx] at h
  cases q : ds[i]? with
  | none => rw [q] at h; cases h
  | some e =>
    rw [q] at h
    have h' : some (PyData.tuple [.int ((0 + i : Nat) : Int), e]) = some d := h
    exact ⟨e, rfl, by rw [← Option.some.inj h', Nat.zero_add]⟩
theorem enumD_len (ds : List D) : (enumD ds).length = ds.length := by simp [enumD]
theorem i_enumL {a : Expr} {elts : List Expr} {kk : Nat} {p pos tpos : Pos} (hm : X.mg "enumerate" = none) (h : DE X ρ a (.list ds)) (hg : Gl X "enumerate" := by rfl) (hs : starEach [a] X.env = [(false, eval a X.env)] := by rfl) :
    DI X ρ (.Tuple elts kk tpos) (.Call (.Name "enumerate" p) [a] [] pos) (enumD ds) :=
  weakI (pi_enum hg hm (a_cons h a_nil hs) hs) fun σ H R ⟨F, S, q⟩ => ⟨F, S, fun vs F' H' g hv => by
    cases hv with
    | cons h1 h2 =>
      cases h2
      obtain ⟨a, vs, rfl, h3, h4⟩ := dp_lst h1
      refine ⟨a, vs, rfl, ex_l g.sub h3, q _ F' H' g ⟨fun i H hi e => ?_, fun H e => ⟨vs, ex_l e h3, by rw [enumD_len, dpa_len h4]; exact Nat.le_refl _⟩, fun i d H x H' F2 hi e f s y => ?_⟩⟩
      · rw [enumD_len] at hi
        exact ⟨vs, vs[i]'(by rw [dpa_len h4]; exact hi), ex_l e h3, by simp [dpa_len h4, hi]⟩
      · obtain ⟨T, x', rfl, hT, rfl, y⟩ := y
        obtain ⟨d', h5, rfl⟩ := enumD_at hi
        obtain ⟨v, h6, h7⟩ := dpa_get h4 h5
        have h8 := y vs (ex_l e h3)
        rw [h6] at h8
        cases h8
        exact yl_pair s hT (.int _) (dp_ex f h7)⟩
def zipD (ds es : List D) : List D := (ds.zip es).map fun p => PyData.tuple [p.1, p.2]
theorem zipD_at {ds es : List D} {i : Nat} {d : D} (h : (zipD ds es)[i]? = some d) : ∃ x y, ds[i]? = some x ∧ es[i]? = some y ∧ d = .tuple [x, y] := by
  unfold zipD at h
  rw [List.getElem?_map] at h
  cases q : (ds.zip es)[i]? with
  | none => rw [q] at h; cases h
  | some z =>
    rw [q] at h
    obtain ⟨x, y⟩ := z
    obtain ⟨h1, h2⟩ := List.getElem?_zip_eq_some.mp q
    exact ⟨x, y, h1, h2, (Option.some.inj h).symm⟩
theorem zipD_len (ds es : List D) : (zipD ds es).length = min ds.length es.length := by simp [zipD]
theorem i_zipL {a b : Expr} {elts : List Expr} {kk : Nat} {p pos tpos : Pos} (hm : X.mg "zip" = none) (h : DE X ρ a (.list ds)) (h' : DE X ρ b (.list es)) (hg : Gl X "zip" := by rfl)
    (hs : starEach [a, b] X.env = (false, eval a X.env) :: starEach [b] X.env := by rfl) (hs2 : starEach [b] X.env = [(false, eval b X.env)] := by rfl) (hpl : (backTo pos (starEach [b] X.env)).any (·.1) = false := by rfl) :
    DI X ρ (.Tuple elts kk tpos) (.Call (.Name "zip" p) [a, b] [] pos) (zipD ds es) :=
  weakI (RZ.pi_zipA hg hm (a_cons h (a_cons h' a_nil hs2) hs) hs hpl) fun σ H R ⟨F, S, q⟩ => ⟨F, S, fun vs F' H' g hv => by
    cases hv with
    | cons h1 h2 =>
      cases h2 with
      | cons h2 hn =>
        cases hn
        obtain ⟨a, xs, rfl, h3, h4⟩ := dp_lst h1
        obtain ⟨b, ys, rfl, h5, h6⟩ := dp_lst h2
        refine ⟨a, b, xs, ys, rfl, .inl ⟨ex_l g.sub h3, ex_l g.sub h5, q _ F' H' g ⟨fun i H hi e => ?_, fun H e => ⟨xs, ys, ex_l e h3, ex_l e h5, ?_⟩, fun i d H x H' F2 hi e f s y => ?_⟩⟩⟩
        · rw [zipD_len] at hi
          have l1 := dpa_len h4
          have l2 := dpa_len h6
          exact ⟨xs, ys, xs[i]'(by omega), ys[i]'(by omega), ex_l e h3, ex_l e h5, List.getElem?_eq_getElem _, List.getElem?_eq_getElem _⟩
        · rw [zipD_len, dpa_len h4, dpa_len h6]
          omega
        · obtain ⟨T, x', y', rfl, hT, rfl, y1, y2⟩ := y
          obtain ⟨d1, d2, e1, e2, rfl⟩ := zipD_at hi
          obtain ⟨v1, f1, f2⟩ := dpa_get h4 e1
          obtain ⟨v2, f3, f4⟩ := dpa_get h6 e2
          have g1 := y1 xs (ex_l e h3)
          have g2 := y2 ys (ex_l e h5)
          rw [f1] at g1
          rw [f3] at g2
          cases g1
          cases g2
          exact yl_pair s hT (dp_ex f f2) (dp_ex f f4)⟩
theorem i_zipT {a b : Expr} {elts : List Expr} {kk : Nat} {p pos tpos : Pos} (hm : X.mg "zip" = none) (h : DE X ρ a (.tuple ds)) (h' : DE X ρ b (.tuple es)) (hg : Gl X "zip" := by rfl)
    (hs : starEach [a, b] X.env = (false, eval a X.env) :: starEach [b] X.env := by rfl) (hs2 : starEach [b] X.env = [(false, eval b X.env)] := by rfl) (hpl : (backTo pos (starEach [b] X.env)).any (·.1) = false := by rfl) :
    DI X ρ (.Tuple elts kk tpos) (.Call (.Name "zip" p) [a, b] [] pos) (zipD ds es) :=
  weakI (RZ.pi_zipA hg hm (a_cons h (a_cons h' a_nil hs2) hs) hs hpl) fun σ H R ⟨F, S, q⟩ => ⟨F, S, fun vs F' H' g hv => by
    cases hv with
    | cons h1 h2 =>
      cases h2 with
      | cons h2 hn =>
        cases hn
        obtain ⟨a, xs, rfl, h3, h4⟩ := dp_tup h1
        obtain ⟨b, ys, rfl, h5, h6⟩ := dp_tup h2
        refine ⟨a, b, xs, ys, rfl, .inr ⟨ex_t g.sub h3, ex_t g.sub h5, q _ F' H' g ⟨fun i H hi e => ?_, fun H e => ⟨xs, ys, ex_t e h3, ex_t e h5, ?_⟩, fun i d H x H' F2 hi e f s y => ?_⟩⟩⟩
        · rw [zipD_len] at hi
          have l1 := dpa_len h4
          have l2 := dpa_len h6
          exact ⟨xs, ys, xs[i]'(by omega), ys[i]'(by omega), ex_t e h3, ex_t e h5, List.getElem?_eq_getElem _, List.getElem?_eq_getElem _⟩
        · rw [zipD_len, dpa_len h4, dpa_len h6]
          omega
        · obtain ⟨T, x', y', rfl, hT, rfl, y1, y2⟩ := y
          obtain ⟨d1, d2, e1, e2, rfl⟩ := zipD_at hi
          obtain ⟨v1, f1, f2⟩ := dpa_get h4 e1
          obtain ⟨v2, f3, f4⟩ := dpa_get h6 e2
          have g1 := y1 xs (ex_t e h3)
          have g2 := y2 ys (ex_t e h5)
          rw [f1] at g1
          rw [f3] at g2
          cases g1
          cases g2
          exact yl_pair s hT (dp_ex f f2) (dp_ex f f4)⟩
end

/-! ### targets -/
/-- what a target leaves: the slots js alone are stored, none of them becomes one's own -/
structure Keeps (js : List Nat) (σ σ' : L2.St) (ρ ρ' : En) : Prop where
  wipe : ∀ vs : List Nat, (∀ j ∈ js, j ∈ vs) → L2.wipe σ' vs = L2.wipe σ vs
  oth : ∀ i : Nat, i ∉ js → σ'[i]? = σ[i]?
  slo : ∀ i : Nat, i ∉ js → ρ'[i]? = ρ[i]?
  own : ∀ (i : Nat) (ds : List D), ρ'[i]? = some (Slot.own ds) → ρ[i]? = some (Slot.own ds) ∧ i ∉ js
theorem Keeps.none {σ : L2.St} {ρ : En} : Keeps [] σ σ ρ ρ := ⟨fun _ _ => rfl, fun _ _ => rfl, fun _ _ => rfl, fun _ _ h => ⟨h, by simp⟩⟩
theorem set_own {ρ : En} {j i : Nat} {d : D} {ds : List D} (h : (ρ.set j (.dat d))[i]? = some (Slot.own ds)) : ρ[i]? = some (Slot.own ds) ∧ i ≠ j := by
  by_cases hi : j = i
  · subst hi
    have hl : j < ρ.length := by
      have := (List.getElem?_eq_some_iff.mp h).1
      rwa [List.length_set] at this
    rw [List.getElem?_set_self hl] at h
    cases h
  · rw [List.getElem?_set_ne hi] at h
    exact ⟨h, fun e => hi e.symm⟩
theorem Keeps.set {js : List Nat} {σ σ' : L2.St} {ρ ρ' : En} (k : Keeps js σ σ' ρ ρ') (j : Nat) (o : Option V) (d : D) : Keeps (j :: js) σ (σ'.set j o) ρ (ρ'.set j (.dat d)) where
  wipe := fun vs hv => by
    rw [wipe_set _ j _ vs (hv j List.mem_cons_self)]
    exact k.wipe vs fun i hi => hv i (List.mem_cons_of_mem _ hi)
  oth := fun i hi => by
    rw [List.getElem?_set_ne (fun e => hi (by rw [← e]; exact List.mem_cons_self))]
    exact k.oth i fun h => hi (List.mem_cons_of_mem _ h)
  slo := fun i hi => by
    rw [List.getElem?_set_ne (fun e => hi (by rw [← e]; exact List.mem_cons_self))]
    exact k.slo i fun h => hi (List.mem_cons_of_mem _ h)
  own := fun i ds h => by
    obtain ⟨h1, h2⟩ := set_own h
    obtain ⟨h3, h4⟩ := k.own i ds h1
    exact ⟨h3, fun hm => (List.mem_cons.mp hm).elim h2 h4⟩
/-- targets that store into the slots js alone -/
structure DG (X : Cx) (tg : Expr) (js : List Nat) (Γ : D → En → En → Prop) : Prop where
  g : ∃ t : TG, PG X tg t ∧ ∀ (v : V) (σ : L2.St) (F H : Hp) (Q : L2.St → Hp → Prop) (ρ : En) (d : D) (ρ' : En), Sd X.K σ F H ρ → Dp X.K F v d → Γ d ρ ρ' → (∀ σ', Sd X.K σ' F H ρ' → Keeps js σ σ' ρ ρ' → Q σ' H) → t v σ H Q
def gN (j : Nat) : D → En → En → Prop := fun d ρ ρ' => ρ' = ρ.set j (.dat d)
def gP (j k : Nat) : D → En → En → Prop := fun d ρ ρ' => ∃ x y, d = .tuple [x, y] ∧ ρ' = (ρ.set j (.dat x)).set k (.dat y)
/-- several names, one after another -/
def setAll (ρ : En) : List Nat → List D → En
  | j :: js, d :: ds => setAll (ρ.set j (.dat d)) js ds
  | _, _ => ρ
structure DGs (X : Cx) (es : List Expr) (js : List Nat) : Prop where
  g : ∃ t : TGs, PGs X es t ∧ ∀ (vs : List V) (σ : L2.St) (F H : Hp) (Q : L2.St → Hp → Prop) (ρ : En) (ds : List D), ds.length = js.length → Sd X.K σ F H ρ → DpAll X.K F vs ds → (∀ σ', Sd X.K σ' F H (setAll ρ js ds) → Keeps js.reverse σ σ' ρ (setAll ρ js ds) → Q σ' H) → t vs σ H Q
theorem Keeps.trans {js ks : List Nat} {σ σ1 σ2 : L2.St} {ρ ρ1 ρ2 : En} (a : Keeps js σ σ1 ρ ρ1) (b : Keeps ks σ1 σ2 ρ1 ρ2) : Keeps (ks ++ js) σ σ2 ρ ρ2 where
  wipe := fun vs hv => (b.wipe vs fun j hj => hv j (List.mem_append_left _ hj)).trans (a.wipe vs fun j hj => hv j (List.mem_append_right _ hj))
  oth := fun i hi => (b.oth i fun h => hi (List.mem_append_left _ h)).trans (a.oth i fun h => hi (List.mem_append_right _ h))
  slo := fun i hi => (b.slo i fun h => hi (List.mem_append_left _ h)).trans (a.slo i fun h => hi (List.mem_append_right _ h))
  own := fun i ds h => by
    obtain ⟨h1, h2⟩ := b.own i ds h
    obtain ⟨h3, h4⟩ := a.own i ds h1
    exact ⟨h3, fun hm => (List.mem_append.mp hm).elim h2 h4⟩
section
variable {X : Cx}
theorem dg_n {j : Nat} {x : Str} {pos : Pos} (hN : X.N.Nodup) (hi : X.N[j]? = some x := by rfl) (hx : Loc X.env.scope x := by first | exact Or.inl rfl | exact Or.inr rfl) (hf : X.fn x = true ∨ X.env.scope.names.lookup x = some .local := by first | exact .inl rfl | exact .inr rfl) :
    DG X (.Name x pos) [j] (gN j) := ⟨gName j, pg_name hN hi hx hf, fun v σ F H Q ρ d ρ' S hd hΓ k => by
  cases hΓ
  exact k _ (S.set j hd) (Keeps.none.set j _ d)⟩
theorem dgs_nil : DGs X [] [] := ⟨gNil, pgs_nil, fun vs σ F H Q ρ ds hl S hd k => by
  cases ds with
  | nil =>
    cases hd
    exact ⟨rfl, k σ S Keeps.none⟩
  | cons _ _ => cases hl⟩
theorem dgs_cons {j : Nat} {x : Str} {p1 : Pos} {es : List Expr} {js : List Nat} (hN : X.N.Nodup) (hr : DGs X es js) (hi : X.N[j]? = some x := by rfl) (hx : Loc X.env.scope x := by first | exact Or.inl rfl | exact Or.inr rfl) (hf : X.fn x = true ∨ X.env.scope.names.lookup x = some .local := by first | exact .inl rfl | exact .inr rfl)
    (hs : (assignEach (.Name x p1 :: es) X.env).map (·.2) = assign (.Name x p1) X.env :: (assignEach es X.env).map (·.2) := by rfl) : DGs X (.Name x p1 :: es) (j :: js) := by
  obtain ⟨t, ht, hq⟩ := hr.g
  refine ⟨gCons (gName j) t, pgs_cons (pg_name hN hi hx hf) ht hs, fun vs σ F H Q ρ ds hl S hd k => ?_⟩
  cases ds with
  | nil => cases hl
  | cons d ds =>
    cases hd with
    | cons h1 h2 =>
      refine ⟨_, _, rfl, hq _ _ F H Q (ρ.set j (.dat d)) ds (Nat.succ.inj hl) (S.set j h1) h2 fun σ' S' k' => k σ' S' ?_⟩
      have z := (Keeps.none (σ := σ) (ρ := ρ)).set j (some _) d |>.trans k'
      rw [List.reverse_cons]
      exact z
/-- (x, y, ..) -/
theorem dg_t {es : List Expr} {js : List Nat} {kk n : Nat} {pos : Pos} (hc : X.calm = true) (h : DGs X es js) (hj : js.length = n := by rfl) (hn : (assignEach es X.env).length = n := by rfl) (hst : (assignEach es X.env).findIdx? (·.1) = none := by rfl) :
    DG X (.Tuple es kk pos) js.reverse (fun d ρ ρ' => ∃ ds, d = .tuple ds ∧ ds.length = n ∧ ρ' = setAll ρ js ds) := by
  obtain ⟨t, ht, hq⟩ := h.g
  refine ⟨gTup X.K n t, pg_tup hc ht hn hst, fun v σ F H Q ρ d ρ' S hd hΓ k => ?_⟩
  obtain ⟨ds, rfl, hl, rfl⟩ := hΓ
  obtain ⟨a, vs, rfl, h1, h2⟩ := dp_tup hd
  exact ⟨a, vs, rfl, ex_t S.sub h1, (dpa_len h2).trans hl, hq vs σ F H Q ρ ds (hl.trans hj.symm) S h2 k⟩
end

/-! ### a comprehension with one for -/
/-- the tests of a clause -/
abbrev DTs (X : Cx) (ρ : En) (es : List Expr) (b : Bool) : Prop := PTs X es (tT X.K ρ b)
theorem ts_nil {X : Cx} {ρ : En} : DTs X ρ [] true := ⟨fun pins s σ H Q I ⟨F, S, q⟩ => pts_nil.run pins s σ H Q I (q F H (Gr.refl S.sub))⟩
theorem ts_one {X : Cx} {ρ : En} {c : Expr} {b : Bool} (h : DT X ρ c b) : DTs X ρ [c] b := pts_one h
section
variable {X : Cx} {ρ : En} {α : Type}
/-- a comprehension: as a value, and stored in a name of its own line -/
structure Lc (X : Cx) (ρ : En) (elt : Expr) (gs : List Comprehension) (scope : Scope) (pos : Pos) (ds : List D) : Prop where
  e : DL X ρ (.ListComp elt gs scope pos) ds
  s : ∀ (i : Nat) (y : Str) (py spos : Pos), X.N[i]? = some y → X.env.scope.names.lookup y = some .local → swapsWith (.ListComp elt gs scope pos) (some (.Name y py)) spos.line X.env = pure true →
    PS X (.Assign [.Name y py] (.ListComp elt gs scope pos) spos) (tAsg (tL X.K ρ ds) (gName i))
theorem Lc.is {elt : Expr} {gs : List Comprehension} {scope : Scope} {pos : Pos} {ds es : List D} (h : Lc X ρ elt gs scope pos ds) (q : ds = es) : Lc X ρ elt gs scope pos es := q ▸ h
/-- [elt for tg in iter if ..]: as: what is walked (enc: its data), asg: the names in a turn, b: is it kept, g: the new item -/
theorem lc1 {elt tg iter : Expr} {ifs : List Expr} {scope : Scope} {own : List (Str × Nat)} {js : List Nat} {pos : Pos} {Γ : D → En → En → Prop} (as : List α) (enc : α → D) (asg : α → En) (b : α → Bool) (g : α → D)
    (hc : X.calm = true) (hN : X.N.Nodup) (ok : BlkOk X.N X.env.scope scope own) (hl : as.length ≤ 50000)
    (hi : DIo X ρ tg iter (as.map enc))
    (hg : ∀ (s : Shared) (H : Hp) (C : Addr) (cl : List (Str × Addr)) (fp : List Addr), DG (X.blk s H scope (compEnvC scope cl C X.env) fp) tg js Γ) (hj : ∀ j ∈ js, j ∈ own.map (·.2))
    (ha : ∀ a ∈ as, Γ (enc a) (wipeE ρ (own.map (·.2))) (asg a))
    (ht : ∀ a ∈ as, ∀ (s : Shared) (H : Hp) (C : Addr) (cl : List (Str × Addr)) (fp : List Addr), DTs (X.blk s H scope (compEnvC scope cl C X.env) fp) (asg a) ifs (b a))
    (he : ∀ a ∈ as, b a = true → ∀ (s : Shared) (H : Hp) (C : Addr) (cl : List (Str × Addr)) (fp : List Addr), DE (X.blk s H scope (compEnvC scope cl C X.env) fp) (asg a) elt (g a))
    (hs : ∀ x, foldedSetIterable iter X.env x = pure x := by intro _; rfl) :
    Lc X ρ elt [⟨tg, iter, ifs, 0⟩] scope pos ((as.filter b).map g) := by
  have k1 : ∀ (s : Shared) (H : Hp) (C : Addr) (cl : List (Str × Addr)) (fp : List Addr), PG (X.blk s H scope (compEnvC scope cl C X.env) fp) tg (fun v σ H Q => ∃ F ρ d ρ', Sd X.K σ F H ρ ∧ Dp X.K F v d ∧ Γ d ρ ρ' ∧ (∀ σ', Sd X.K σ' F H ρ' → Keeps js σ σ' ρ ρ' → Q σ' H)) := fun s H C cl fp => by
    obtain ⟨t, ht, hq⟩ := (hg s H C cl fp).g
    exact ⟨fun pins s1 σ H1 v u Q I r ⟨F, ρ1, d, ρ', S, hd, hΓ, q⟩ => ht.run pins s1 σ H1 v u Q I r (hq v σ F H1 Q ρ1 d ρ' S hd hΓ fun σ' S' hw => q σ' S' hw)⟩
  have k2 : ∀ (s : Shared) (H : Hp) (C : Addr) (cl : List (Str × Addr)) (fp : List Addr), PTs (X.blk s H scope (compEnvC scope cl C X.env) fp) ifs (fun σ H Q => ∃ a ∈ as, tT X.K (asg a) (b a) σ H Q) :=
    fun s H C cl fp => ⟨fun pins s1 σ H1 Q I ⟨a, hm, q⟩ => (ht a hm s H C cl fp).run pins s1 σ H1 Q I q⟩
  have k3 : ∀ (s : Shared) (H : Hp) (C : Addr) (cl : List (Str × Addr)) (fp : List Addr), PE (X.blk s H scope (compEnvC scope cl C X.env) fp) elt (fun σ H Q => ∃ a ∈ as, b a = true ∧ tE X.K (asg a) (g a) σ H Q) :=
    fun s H C cl fp => ⟨fun pins s1 σ H1 Q I ⟨a, hm, hb, q⟩ => (he a hm hb s H C cl fp).run pins s1 σ H1 Q I q⟩
  suffices w : ∀ σ H Q, tL X.K ρ ((as.filter b).map g) σ H Q → tLc (tIo X.K ρ (as.map enc)) (fun v σ H Q => ∃ F ρ d ρ', Sd X.K σ F H ρ ∧ Dp X.K F v d ∧ Γ d ρ ρ' ∧ (∀ σ', Sd X.K σ' F H ρ' → Keeps js σ σ' ρ ρ' → Q σ' H))
      (fun σ H Q => ∃ a ∈ as, tT X.K (asg a) (b a) σ H Q) (fun σ H Q => ∃ a ∈ as, b a = true ∧ tE X.K (asg a) (g a) σ H Q) (own.map (·.2)) σ H Q by
    exact ⟨weakE (pe_lc hc hN hi ok k1 k2 k3 hs) w, fun i y py spos hy hyl hsw => weakS (ps_setLc hc hN hy hyl hsw hi ok k1 k2 k3 hs) fun D σ H q => w σ H _ q⟩
  rintro σ H Q ⟨F, S, q⟩
  refine ⟨F, S, fun J B F1 H1 g1 eB Y Dl hD => ?_⟩
  -- the word: at turn i the heap has grown, the list at Dl holds what is kept of the first i
  refine ⟨fun i m H' => m = as.length - i ∧ i ≤ as.length ∧ ∃ F' vs, Gr F1 H1 F' H' ∧ F' Dl = none ∧ H' Dl = some (HO.lst vs) ∧ DpAll X.K F' vs (((as.take i).filter b).map g), ⟨as.length, by simp, Nat.zero_le _, F1, [], Gr.lay g1.sub hD, none_of g1.sub hD, upd_same, .nil⟩, ?_⟩
  rintro i m H' ⟨rfl, hi, F', vs, gr, hFD, hHD, hvs⟩
  by_cases hlt : i < as.length
  · refine .inr ⟨Y.go i H' (by simpa using hlt) (eB.trans gr.h), fun H2 => ∃ F' vs, Gr F1 H1 F' H2 ∧ F' Dl = none ∧ H2 Dl = some (HO.lst vs) ∧ DpAll X.K F' vs (((as.take (i + 1)).filter b).map g), fun H2 ⟨F2, vs2, a1, a2, a3, a4⟩ => ⟨as.length - (i + 1), by omega, rfl, hlt, F2, vs2, a1, a2, a3, a4⟩, fun x H2 hy => ?_⟩
    have hai : as[i]? = some as[i] := List.getElem?_eq_getElem hlt
    have hmem : as[i] ∈ as := List.getElem_mem hlt
    obtain ⟨F2, gr2, hx⟩ := Y.yld i (enc as[i]) H' x H2 F' (by rw [List.getElem?_map, hai]; rfl) (eB.trans gr.h) gr.f gr.sub hy
    have S2 : Sd X.K σ F2 H2 ρ := ((S.mono g1).mono gr).mono gr2
    refine ⟨F2, wipeE ρ (own.map (·.2)), enc as[i], asg as[i], S2.wipe _, hx, ha _ hmem, fun σ3 S3 hw => ⟨?_, as[i], hmem, F2, S3, fun F3 H3 gr3 => ?_⟩⟩
    · rw [hw.wipe _ hj, wipe_wipe]
    · have hFD2 : F2 Dl = none := by
        cases z : F2 Dl with
        | none => rfl
        | some o =>
          have := gr2.new Dl hFD (by rw [z]; exact fun z => by cases z)
          rw [hHD] at this
          cases this
      have hHD2 := gr2.h _ _ hHD
      have hFD3 : F3 Dl = none := by
        cases z : F3 Dl with
        | none => rfl
        | some o =>
          have := gr3.new Dl hFD2 (by rw [z]; exact fun z => by cases z)
          rw [hHD2] at this
          cases this
      have hHD3 := gr3.h _ _ hHD2
      have gr13 := (gr.trans gr2).trans gr3
      have hvs3 : DpAll X.K F3 vs (((as.take i).filter b).map g) := dpa_ex (gr2.f.trans gr3.f) hvs
      cases hb : b as[i] with
      | false =>
        refine iteF ?_
        refine ⟨F3, vs, gr13, hFD3, hHD3, ?_⟩
        rw [List.take_add_one, hai, List.filter_append]
        show DpAll X.K F3 vs ((List.filter b (List.take i as) ++ List.filter b [as[i]]).map g)
        rw [show List.filter b [as[i]] = [] by simp [hb], List.append_nil]
        exact hvs3
      | true =>
        refine iteT ?_
        refine ⟨as[i], hmem, hb, F3, S3.mono gr3, fun y F4 H4 gr4 hy4 => ?_⟩
        have hFD4 : F4 Dl = none := by
          cases z : F4 Dl with
          | none => rfl
          | some o =>
            have := gr4.new Dl hFD3 (by rw [z]; exact fun z => by cases z)
            rw [hHD3] at this
            cases this
        have hHD4 := gr4.h _ _ hHD3
        have lv : vs.length ≤ as.length := by
          rw [dpa_len hvs, List.length_map]
          exact Nat.le_trans (List.length_filter_le _ _) (by rw [List.length_take]; omega)
        refine ⟨vs, hHD4, sz_lt (by omega), F4, vs ++ [y], ?_, hFD4, upd_same, ?_⟩
        · have gr14 := gr13.trans gr4
          refine ⟨gr14.f, Ex.mut gr14.h hD, ?_, gr14.new⟩
          intro c u hc
          have hne : c ≠ Dl := fun z => by rw [z, hFD4] at hc; cases hc
          rw [upd_ne hne]
          exact gr14.sub c u hc
        · rw [List.take_add_one, hai, List.filter_append]
          show DpAll X.K F4 (vs ++ [y]) ((List.filter b (List.take i as) ++ List.filter b [as[i]]).map g)
          rw [show List.filter b [as[i]] = [as[i]] by simp [hb], List.map_append]
          exact dpa_app (dpa_ex gr4.f hvs3) (.cons hy4 .nil)
  · have e : i = as.length := by omega
    subst e
    refine .inl ⟨by have := Y.stop H' (eB.trans gr.h); rwa [List.length_map] at this, ?_⟩
    rw [List.take_length] at hvs
    exact q Dl vs F' H' (g1.trans gr) (none_of g1.h hD) hFD hHD hvs
end
end Lm
set_option maxRecDepth 100000
set_option maxHeartbeats 4000000
/-! Sequences, calls of built-ins and of one's own defs, by data. -/
namespace Lm
open PySem PySem.Spec PyProof.Rows L2 Evl

/-! ### items and slices -/
section
variable {X : Cx} {ρ : En} {a b c : Expr} {ds es : List D} {d : D} {i j : Int} {pos p2 : Pos}
theorem dpa_at {K : PySem.W.Frag} {H : Hp} {vs : List V} (h : DpAll K H vs ds) (e : atI ds i = some d) : ∃ v, atI vs i = some v ∧ Dp K H v d := by
  unfold atI at e ⊢
  rw [dpa_len h]
  cases q : ixN ds.length i with
  | none => rw [q] at e; cases e
  | some j =>
    rw [q] at e
    exact dpa_get h e
theorem e_ixT (hi : atI ds i = some d) (ha : DE X ρ a (.tuple ds)) (hb : DE X ρ b (.int i)) (hs : PlainIx b := by intro _ _; rfl) : DE X ρ (.Subscript a b pos) d :=
  weakE (pe_ix ix_tup ha hb hs) fun σ H Q ⟨F, S, q⟩ => ⟨F, S, fun x F1 H1 g1 hx => ⟨F1, S.mono g1, fun y F2 H2 g2 hy => by
    obtain ⟨p, vs, rfl, h1, h2⟩ := dp_tup hx
    obtain ⟨v, h3, h4⟩ := dpa_at h2 hi
    exact ⟨p, vs, i, v, rfl, dp_int hy, ex_t (g2.f.trans g2.sub) h1, h3, q v F2 H2 (g1.trans g2) (dp_ex g2.f h4)⟩⟩⟩
theorem e_ixL (hi : atI ds i = some d) (ha : DE X ρ a (.list ds)) (hb : DE X ρ b (.int i)) (hs : PlainIx b := by intro _ _; rfl) : DE X ρ (.Subscript a b pos) d :=
  weakE (pe_ix ix_list ha hb hs) fun σ H Q ⟨F, S, q⟩ => ⟨F, S, fun x F1 H1 g1 hx => ⟨F1, S.mono g1, fun y F2 H2 g2 hy => by
    obtain ⟨p, vs, rfl, h1, h2⟩ := dp_lst hx
    obtain ⟨v, h3, h4⟩ := dpa_at h2 hi
    exact ⟨p, vs, i, v, rfl, dp_int hy, ex_l (g2.f.trans g2.sub) h1, h3, q v F2 H2 (g1.trans g2) (dp_ex g2.f h4)⟩⟩⟩
/-- an item of a list that is one's own -/
theorem e_ixO (k : Nat) {x : Str} {px : Pos} (hi : atI ds i = some d) (hρ : ρ[k]? = some (Slot.own ds)) (hb : DE X ρ b (.int i)) (hN : X.N[k]? = some x := by rfl)
    (hv : Vis X.env.scope x := by first | exact Or.inl rfl | exact Or.inr (Or.inl rfl) | exact Or.inr (Or.inr rfl)) (hd : (x == ("__debug__" : Str)) = false := by decide) (hcd : (x == ("__classdict__" : Str)) = false := by decide)
    (hs : PlainIx b := by intro _ _; rfl) : DE X ρ (.Subscript (.Name x px) b pos) d :=
  weakE (pe_ix ix_list (pe_var hN hv hd hcd) hb hs) fun σ H Q ⟨F, S, q⟩ => by
    obtain ⟨p, vs, h1, h2, h3, h4⟩ := S.own k ds hρ
    obtain ⟨v, h5, h6⟩ := dpa_at h4 hi
    exact ⟨_, h1, F, S, fun y F2 H2 g2 hy => ⟨p, vs, i, v, rfl, dp_int hy, SqL.of (g2.h _ _ h2), h5, q v F2 H2 g2 (dp_ex g2.f h6)⟩⟩
theorem o_none : DO X ρ none none := weakO po_none fun σ H Q ⟨F, S, q⟩ => q F H (Gr.refl S.sub)
theorem o_some (h : DE X ρ a (.int i)) : DO X ρ (some a) (some i) := weakO (po_some h) fun σ H Q ⟨F, S, q⟩ => ⟨F, S, fun v F' H' g hv => ⟨i, dp_int hv, q F' H' g⟩⟩
def cut {α : Type} (xs : List α) (lo hi : Option Int) : List α := (xs.drop (HT.sIx xs.length 0 lo)).take (HT.sIx xs.length xs.length hi - HT.sIx xs.length 0 lo)
theorem dpa_cut {K : PySem.W.Frag} {H : Hp} {vs : List V} (h : DpAll K H vs ds) (lo hi : Option Int) : DpAll K H (cutV vs lo hi) (cut ds lo hi) := by
  unfold cutV cut
  rw [dpa_len h]
  exact dpa_take _ (dpa_drop _ h)
theorem cut_map {α β : Type} (f : α → β) (xs : List α) (lo hi : Option Int) : cut (xs.map f) lo hi = (cut xs lo hi).map f := by
  unfold cut
  rw [List.length_map, List.map_take, List.map_drop]
theorem e_slT {lo hi : Option Expr} {l h : Option Int} (ha : DE X ρ a (.tuple ds)) (hl : DO X ρ lo l) (hh : DO X ρ hi h) : DE X ρ (.Subscript a (.Slice lo hi none p2) pos) (.tuple (cut ds l h)) :=
  weakE (pe_slice sl_tupA ha hl hh) fun σ H Q ⟨F, S, q⟩ => ⟨F, S, fun x F1 H1 g1 hx => ⟨F1, S.mono g1, fun F2 H2 g2 => ⟨F2, (S.mono g1).mono g2, fun F3 H3 g3 => by
    obtain ⟨p, vs, rfl, h1, h2⟩ := dp_tup hx
    have h1' : SqT X.K F3 p vs := ex_t (g2.f.trans g3.f) h1
    have h2' : DpAll X.K F3 vs ds := dpa_ex (g2.f.trans g3.f) h2
    refine ⟨p, vs, rfl, ex_t g3.sub h1', fun hw => q _ F3 H3 ((g1.trans g2).trans g3) ?_, fun _ t ht => q _ _ _ (((g1.trans g2).trans g3).trans (Gr.fr g3.sub ht)) (.tup (SqT.of upd_same) (dpa_ex (Ex.new (none_of g3.sub ht)) (dpa_cut h2' l h)))⟩
    have e : cut ds l h = ds := by
      unfold cut
      rw [← dpa_len h2, hw.1, hw.2, dpa_len h2, Nat.sub_zero, List.drop_zero, List.take_length]
    rw [e]
    exact .tup h1' h2'⟩⟩⟩
theorem l_slL {lo hi : Option Expr} {l h : Option Int} (ha : DE X ρ a (.list ds)) (hl : DO X ρ lo l) (hh : DO X ρ hi h) : DL X ρ (.Subscript a (.Slice lo hi none p2) pos) (cut ds l h) :=
  weakE (pe_slice sl_list ha hl hh) fun σ H Q ⟨F, S, q⟩ => ⟨F, S, fun x F1 H1 g1 hx => ⟨F1, S.mono g1, fun F2 H2 g2 => ⟨F2, (S.mono g1).mono g2, fun F3 H3 g3 => by
    obtain ⟨p, vs, rfl, h1, h2⟩ := dp_lst hx
    have h1' : SqL X.K F3 p vs := ex_l (g2.f.trans g3.f) h1
    have h2' : DpAll X.K F3 vs ds := dpa_ex (g2.f.trans g3.f) h2
    have gg := (g1.trans g2).trans g3
    exact ⟨p, vs, rfl, ex_l g3.sub h1', fun t ht => q t _ F3 _ (gg.trans (Gr.lay g3.sub ht)) (none_of gg.h ht) (none_of g3.sub ht) upd_same (dpa_cut h2' l h)⟩⟩⟩⟩

/-! ### + of tuples, of lists; [x] * n -/
theorem e_catT (hl : ds.length + es.length ≤ 100000) (ha : DE X ρ a (.tuple ds)) (hb : DE X ρ b (.tuple es)) : DE X ρ (.BinOp a .Add b pos) (.tuple (ds ++ es)) :=
  e_op op_catA (fun x y F H s hx hy Q q => by
    obtain ⟨p, vs, rfl, h1, h2⟩ := dp_tup hx
    obtain ⟨r, ws, rfl, h3, h4⟩ := dp_tup hy
    refine ⟨p, r, vs, ws, rfl, rfl, ex_t s h1, ex_t s h3, sz_of (by rw [dpa_len h2, dpa_len h4]; exact hl), fun e => ?_, fun _ e => ?_, fun _ _ t ht => ?_⟩
    · have e' : ds = [] := by
        have := dpa_len h2
        rw [e] at this
        exact List.length_eq_zero_iff.mp this.symm
      rw [e'] at q
      exact q _ F H (Gr.refl s) (.tup h3 h4)
    · have e' : es = [] := by
        have := dpa_len h4
        rw [e] at this
        exact List.length_eq_zero_iff.mp this.symm
      rw [e', List.append_nil] at q
      exact q _ F H (Gr.refl s) (.tup h1 h2)
    · exact q _ _ _ (Gr.fr s ht) (.tup (SqT.of upd_same) (dpa_ex (Ex.new (none_of s ht)) (dpa_app h2 h4)))) ha hb
/-- list + list, wherever they stand -/
def rCatS (K : PySem.W.Frag) : R2 := fun x y H Q => ∃ l b xs zs, x = .ref l ∧ y = .ref b ∧ SqL K H l xs ∧ SqL K H b zs ∧ xs.length + zs.length ≤ sizeLine ∧ ∀ p, H p = none → Q (.ref p) (upd H p (.lst (xs ++ zs)))
theorem op_catS : OpR X (binaryOp .Add) (rCatS X.K) := by
  intro pins s σ H x y v u Q I rx ry h
  obtain ⟨l, b, xs, zs, rfl, rfl, hx, hy, hz, q⟩ := h
  cases rx
  cases ry
  obtain ⟨its, r, pl, _⟩ := I.list hx
  obtain ⟨its2, r2, pl2, _⟩ := I.list hy
  have e1 := r.length
  have e2 := r2.length
  obtain ⟨⟨cls, dd, data, sl⟩, n, ho, hc, _, hd⟩ := pl
  obtain ⟨⟨cls2, dd2, data2, sl2⟩, n2, ho2, hc2, _, hd2⟩ := pl2
  simp only at hc hd hc2 hd2
  subst hc hd hc2 hd2
  have e : its.toArray ++ its2.toArray = (its ++ its2).toArray := by simp
  refine concat_meets ⟨_, ho, rfl⟩ ⟨_, ho2, rfl⟩ noFill_list_add seq_list_add PySem.F.slot_list_add PySem.F.entry_list_add (PySem.F.args_list_add_2 _ _) (list_addW l b its.toArray its2.toArray n n2 dd dd2 sl sl2 (by simp only [List.size_toArray]; omega)) ⟨ho, ho2, ?_⟩
  rw [e]
  exact ⟨.ref _, _, I.lnew (t' := s.toks) (r.append r2) (by rw [List.length_append]; omega), rfl, q _ I.fresh⟩
theorem l_cat (hl : ds.length + es.length ≤ 100000) (ha : DE X ρ a (.list ds)) (hb : DE X ρ b (.list es)) : DL X ρ (.BinOp a .Add b pos) (ds ++ es) :=
  l_op op_catS (fun x y F H s hx hy Q q => by
    obtain ⟨p, vs, rfl, h1, h2⟩ := dp_lst hx
    obtain ⟨r, ws, rfl, h3, h4⟩ := dp_lst hy
    exact ⟨p, r, vs, ws, rfl, rfl, ex_l s h1, ex_l s h3, sz_of (by rw [dpa_len h2, dpa_len h4]; exact hl), fun t ht => q t _ F _ (Gr.lay s ht) ht (none_of s ht) upd_same (dpa_app h2 h4)⟩) ha hb
/-- [x] * n, the list just made -/
theorem dpa_rep {K : PySem.W.Frag} {H : Hp} {v : V} (h : Dp K H v d) : ∀ n : Nat, DpAll K H (List.replicate n v) (List.replicate n d)
  | 0 => .nil
  | n + 1 => .cons h (dpa_rep h n)
theorem flat_rep {α : Type} (x : α) : ∀ n : Nat, (List.replicate n [x]).flatten = List.replicate n x
  | 0 => rfl
  | n + 1 => by
    rw [List.replicate_succ, List.flatten_cons, flat_rep x n]
    rfl
theorem l_rep1 (hi : 0 ≤ i ∧ i ≤ 100000) (ha : DL X ρ a [d]) (hb : DE X ρ b (.int i)) : DL X ρ (.BinOp a .Mult b pos) (List.replicate i.toNat d) :=
  weakE (pe_op op_rep ha hb) fun σ H Q ⟨F, S, q⟩ => ⟨F, S, fun p vs F1 H1 g1 h1 h2 h3 h4 => ⟨F1, S.mono g1, fun y F2 H2 g2 hy => by
    cases h4 with
    | cons h4 h5 =>
      cases h5
      rename_i v
      refine ⟨p, i, [v], rfl, dp_int hy, g2.h _ _ h3, by omega, by omega, sz_of (by show 1 * i.toNat ≤ 100000; omega), fun t ht => ?_⟩
      rw [flat_rep]
      have gg := g1.trans g2
      exact q t _ F2 _ (gg.trans (Gr.lay g2.sub ht)) (none_of gg.h ht) (none_of g2.sub ht) upd_same (dpa_rep (dp_ex g2.f h4) _)⟩⟩

/-! ### == and != of any data, in, not in of ints and texts -/
theorem rd_eq {K : PySem.W.Frag} {x y : D} (hx : SeqAt.shaped x = true) (hy : SeqAt.shaped y = true) : RD K (rEqD K) x y (.bool (PyData.eqv x y)) := fun u w F H s hu hw Q q =>
  ⟨x, y, dp_ex s hu, dp_ex s hw, hx, hy, q _ F H (Gr.refl s) (.bl _)⟩
theorem rd_ne {K : PySem.W.Frag} {x y : D} (hx : SeqAt.shaped x = true) (hy : SeqAt.shaped y = true) : RD K (rNeD K) x y (.bool (!PyData.eqv x y)) := fun u w F H s hu hw Q q =>
  ⟨x, y, dp_ex s hu, dp_ex s hw, hx, hy, q _ F H (Gr.refl s) (.bl _)⟩
section
variable {x y : D}
theorem t_eq (hu : X.A.units + 64 < cLine) (hx : SeqAt.shaped x = true) (hy : SeqAt.shaped y = true) (ha : DE X ρ a x) (hb : DE X ρ b y) : DT X ρ (.Compare a [.Eq] [b] pos) (PyData.eqv x y) := t_cmp (op_eqD hu) (rd_eq hx hy) ha hb (nomark _)
theorem t_ne (hu : X.A.units + 64 < cLine) (hx : SeqAt.shaped x = true) (hy : SeqAt.shaped y = true) (ha : DE X ρ a x) (hb : DE X ρ b y) : DT X ρ (.Compare a [.NotEq] [b] pos) (!PyData.eqv x y) := t_cmp (op_neD hu) (rd_ne hx hy) ha hb (nomark _)
theorem e_eq (hu : X.A.units + 64 < cLine) (hx : SeqAt.shaped x = true) (hy : SeqAt.shaped y = true) (ha : DE X ρ a x) (hb : DE X ρ b y) : DE X ρ (.Compare a [.Eq] [b] pos) (.bool (PyData.eqv x y)) := e_cmp (op_eqD hu) (rd_eq hx hy) ha hb (nomark _)
theorem e_ne (hu : X.A.units + 64 < cLine) (hx : SeqAt.shaped x = true) (hy : SeqAt.shaped y = true) (ha : DE X ρ a x) (hb : DE X ρ b y) : DE X ρ (.Compare a [.NotEq] [b] pos) (.bool (!PyData.eqv x y)) := e_cmp (op_neD hu) (rd_ne hx hy) ha hb (nomark _)
end
/-- ints: == by the short rule -/
theorem rd_eqi {K : PySem.W.Frag} : RD K rEq (.int i) (.int j) (.bool (decide (i = j))) := fun u w F H s hu hw Q q => by
  rw [dp_int hu, dp_int hw]
  refine ⟨rfl, ?_⟩
  have e : decide (V.int i = V.int j) = decide (i = j) := by
    by_cases h : i = j
    · subst h
      simp
    · simp [h]
  rw [e]
  exact q _ F H (Gr.refl s) (.bl _)
theorem rd_nei {K : PySem.W.Frag} : RD K rNe (.int i) (.int j) (.bool (!decide (i = j))) := fun u w F H s hu hw Q q => by
  rw [dp_int hu, dp_int hw]
  refine ⟨rfl, ?_⟩
  have e : decide (V.int i = V.int j) = decide (i = j) := by
    by_cases h : i = j
    · subst h
      simp
    · simp [h]
  rw [e]
  exact q _ F H (Gr.refl s) (.bl _)
theorem rd_eqs {K : PySem.W.Frag} {x y : Str} : RD K rEq (.str x) (.str y) (.bool (decide (x = y))) := fun u w F H s hu hw Q q => by
  rw [dp_str hu, dp_str hw]
  refine ⟨rfl, ?_⟩
  have e : decide (V.str x = V.str y) = decide (x = y) := by
    by_cases h : x = y
    · subst h
      simp
    · simp [h]
  rw [e]
  exact q _ F H (Gr.refl s) (.bl _)
theorem t_eqi (ha : DE X ρ a (.int i)) (hb : DE X ρ b (.int j)) : DT X ρ (.Compare a [.Eq] [b] pos) (decide (i = j)) := t_cmp op_eq rd_eqi ha hb (nomark _)
theorem e_eqi (ha : DE X ρ a (.int i)) (hb : DE X ρ b (.int j)) : DE X ρ (.Compare a [.Eq] [b] pos) (.bool (decide (i = j))) := e_cmp op_eq rd_eqi ha hb (nomark _)
theorem t_nei (ha : DE X ρ a (.int i)) (hb : DE X ρ b (.int j)) : DT X ρ (.Compare a [.NotEq] [b] pos) (!decide (i = j)) := t_cmp op_ne rd_nei ha hb (nomark _)
theorem e_nei (ha : DE X ρ a (.int i)) (hb : DE X ρ b (.int j)) : DE X ρ (.Compare a [.NotEq] [b] pos) (.bool (!decide (i = j))) := e_cmp op_ne rd_nei ha hb (nomark _)
theorem t_eqs {x y : Str} (ha : DE X ρ a (.str x)) (hb : DE X ρ b (.str y)) : DT X ρ (.Compare a [.Eq] [b] pos) (decide (x = y)) := t_cmp op_eq rd_eqs ha hb (nomark _)
theorem e_eqs {x y : Str} (ha : DE X ρ a (.str x)) (hb : DE X ρ b (.str y)) : DE X ρ (.Compare a [.Eq] [b] pos) (.bool (decide (x = y))) := e_cmp op_eq rd_eqs ha hb (nomark _)
def isN : D → Bool
  | .none => true
  | _ => false
theorem dp_isN {K : PySem.W.Frag} {F : Hp} {u : V} {d : D} (h : Dp K F u d) : decide (u = V.non) = isN d := by cases h <;> rfl
theorem t_notnone {d : D} {k : Nat} {p3 : Pos} (ha : DE X ρ a d) : DT X ρ (.Compare a [.IsNot] [.Constant .none k p3] pos) (!isN d) :=
  t_cmp op_notN (fun u w F H s hu hw Q q => by
    refine ⟨dp_non hw, ?_⟩
    rw [dp_isN hu]
    exact q _ F H (Gr.refl s) (.bl _)) ha c_non (nomark _)
theorem e_isnone {d : D} {k : Nat} {p3 : Pos} (ha : DE X ρ a d) : DE X ρ (.Compare a [.Is] [.Constant .none k p3] pos) (.bool (isN d)) :=
  e_cmp op_isN (fun u w F H s hu hw Q q => by
    refine ⟨dp_non hw, ?_⟩
    rw [dp_isN hu]
    exact q _ F H (Gr.refl s) (.bl _)) ha c_non (nomark _)
theorem inV_ints (k : Int) : ∀ ns : List Int, inV (.int k) (ns.map V.int) = decide (k ∈ ns)
  | [] => by simp [inV]
  | n :: ns => by
    have h := inV_ints k ns
    unfold inV at h ⊢
    rw [List.map_cons, List.any_cons, h]
    show (n == k || decide (k ∈ ns)) = decide (k ∈ n :: ns)
    by_cases e : n = k
    · subst e
      simp
    · have e' : ¬ k = n := fun z => e z.symm
      simp [e, e']
theorem all_flat (ns : List Int) : (ns.map V.int).all flatV = true := by
  rw [List.all_map]
  exact List.all_eq_true.mpr fun _ _ => rfl
theorem rd_in {K : PySem.W.Frag} {k : Int} {ns : List Int} : RD K (rIn K false) (.int k) (.list (ns.map PyData.int)) (.bool (decide (k ∈ ns))) := fun u w F H s hu hw Q q => by
  obtain ⟨p, vs, rfl, h1, h2⟩ := dp_lst hw
  have e := dpa_ints h2
  subst e
  rw [dp_int hu]
  refine ⟨p, _, rfl, .inl (ex_l s h1), rfl, all_flat ns, ?_⟩
  rw [inV_ints]
  exact q _ F H (Gr.refl s) (.bl _)
theorem rd_nin {K : PySem.W.Frag} {k : Int} {ns : List Int} : RD K (rIn K true) (.int k) (.list (ns.map PyData.int)) (.bool (!decide (k ∈ ns))) := fun u w F H s hu hw Q q => by
  obtain ⟨p, vs, rfl, h1, h2⟩ := dp_lst hw
  have e := dpa_ints h2
  subst e
  rw [dp_int hu]
  refine ⟨p, _, rfl, .inl (ex_l s h1), rfl, all_flat ns, ?_⟩
  rw [inV_ints]
  exact q _ F H (Gr.refl s) (.bl _)
theorem t_in {k : Int} {ns : List Int} (ha : DE X ρ a (.int k)) (hb : DE X ρ b (.list (ns.map PyData.int))) (hm : behindInMarks .In b = false := by rfl) : DT X ρ (.Compare a [.In] [b] pos) (decide (k ∈ ns)) := t_cmp op_in_seq rd_in ha hb hm
theorem t_nin {k : Int} {ns : List Int} (ha : DE X ρ a (.int k)) (hb : DE X ρ b (.list (ns.map PyData.int))) (hm : behindInMarks .NotIn b = false := by rfl) : DT X ρ (.Compare a [.NotIn] [b] pos) (!decide (k ∈ ns)) := t_cmp op_notIn_seq rd_nin ha hb hm
/-- way not in (x, y), texts -/
theorem t_nin2 {x y z : Str} (ha : DE X ρ a (.str z)) (hb : DE X ρ b (.tuple [.str x, .str y])) (hm : behindInMarks .NotIn b = false := by rfl) : DT X ρ (.Compare a [.NotIn] [b] pos) (!(x == z || y == z)) :=
  t_cmp op_notIn_seq (fun u w F H s hu hw Q q => by
    obtain ⟨p, vs, rfl, h1, h2⟩ := dp_tup hw
    rw [dp_str hu]
    cases h2 with
    | cons h2 h3 =>
      cases h3 with
      | cons h3 h4 =>
        cases h4
        rw [dp_str h2, dp_str h3] at h1
        refine ⟨p, _, rfl, .inr (ex_t s h1), rfl, rfl, ?_⟩
        have e : inV (V.str z) [V.str x, V.str y] = (x == z || y == z) := by
          unfold inV
          rw [List.any_cons, List.any_cons, List.any_nil, Bool.or_false]
          rfl
        rw [e]
        exact q _ F H (Gr.refl s) (.bl _)) ha hb hm
end

/-! ### calls of built-ins -/
/-- what a call makes of data -/
def RC (K : PySem.W.Frag) (r : List V → Hp → VK → Prop) (ds : List D) (d : D) : Prop := ∀ (vs : List V) (F H : Hp), Ex F H → DpAll K F vs ds → ∀ Q : VK, (∀ v F' H', Gr F H F' H' → Dp K F' v d → Q v H') → r vs H Q
def RCL (K : PySem.W.Frag) (r : List V → Hp → VK → Prop) (ds es : List D) : Prop := ∀ (vs : List V) (F H : Hp), Ex F H → DpAll K F vs ds → ∀ Q : VK, (∀ p ws F' H', Gr F H F' H' → H p = none → F' p = none → H' p = some (HO.lst ws) → DpAll K F' ws es → Q (.ref p) H') → r vs H Q
section
variable {X : Cx} {ρ : En} {x : Str} {p pos : Pos} {e : Expr} {l : List Expr} {ds es : List D} {d : D} {bid T : String} {r : List V → Hp → VK → Prop}
theorem e_callB (hc : CallR X (.builtin bid) r) (hr : RC X.K r ds d) (hm : X.mg x = none) (hv : bootBuiltins x = some (.builtin bid)) (ha : DA X ρ (e :: l) ds) (hg : Gl X x := by rfl) (hn : x ≠ "__name__" := by decide) (hdb : (x == ("__debug__" : Str)) = false := by decide)
    (he : starEach (e :: l) X.env = (false, eval e X.env) :: starEach l X.env := by rfl) (hpl : (backTo pos (starEach l X.env)).any (·.1) = false := by rfl) : DE X ρ (.Call (.Name x p) (e :: l) [] pos) d :=
  weakE (pe_callB hc hg hm hv ha hn hdb he hpl) fun σ H Q ⟨F, S, q⟩ => ⟨F, S, fun vs F' H' g hv => hr vs F' H' g.sub hv Q fun v F2 H2 g2 h2 => q v F2 H2 (g.trans g2) h2⟩
theorem e_callTy (hc : CallR X (.type T) r) (hr : RC X.K r ds d) (hm : X.mg x = none) (hv : bootBuiltins x = some (.type T)) (ha : DA X ρ (e :: l) ds) (hg : Gl X x := by rfl) (hn : x ≠ "__name__" := by decide) (hdb : (x == ("__debug__" : Str)) = false := by decide)
    (he : starEach (e :: l) X.env = (false, eval e X.env) :: starEach l X.env := by rfl) (hpl : (backTo pos (starEach l X.env)).any (·.1) = false := by rfl) : DE X ρ (.Call (.Name x p) (e :: l) [] pos) d :=
  weakE (pe_callTy hc hg hm hv ha hn hdb he hpl) fun σ H Q ⟨F, S, q⟩ => ⟨F, S, fun vs F' H' g hv => hr vs F' H' g.sub hv Q fun v F2 H2 g2 h2 => q v F2 H2 (g.trans g2) h2⟩
theorem l_callB (hc : CallR X (.builtin bid) r) (hr : RCL X.K r ds es) (hm : X.mg x = none) (hv : bootBuiltins x = some (.builtin bid)) (ha : DA X ρ (e :: l) ds) (hg : Gl X x := by rfl) (hn : x ≠ "__name__" := by decide) (hdb : (x == ("__debug__" : Str)) = false := by decide)
    (he : starEach (e :: l) X.env = (false, eval e X.env) :: starEach l X.env := by rfl) (hpl : (backTo pos (starEach l X.env)).any (·.1) = false := by rfl) : DL X ρ (.Call (.Name x p) (e :: l) [] pos) es :=
  weakE (pe_callB hc hg hm hv ha hn hdb he hpl) fun σ H Q ⟨F, S, q⟩ => ⟨F, S, fun vs F' H' g hv => hr vs F' H' g.sub hv Q fun p ws F2 H2 g2 h1 h2 h3 h4 => q p ws F2 H2 (g.trans g2) (none_of g.h h1) h2 h3 h4⟩
theorem l_callTy (hc : CallR X (.type T) r) (hr : RCL X.K r ds es) (hm : X.mg x = none) (hv : bootBuiltins x = some (.type T)) (ha : DA X ρ (e :: l) ds) (hg : Gl X x := by rfl) (hn : x ≠ "__name__" := by decide) (hdb : (x == ("__debug__" : Str)) = false := by decide)
    (he : starEach (e :: l) X.env = (false, eval e X.env) :: starEach l X.env := by rfl) (hpl : (backTo pos (starEach l X.env)).any (·.1) = false := by rfl) : DL X ρ (.Call (.Name x p) (e :: l) [] pos) es :=
  weakE (pe_callTy hc hg hm hv ha hn hdb he hpl) fun σ H Q ⟨F, S, q⟩ => ⟨F, S, fun vs F' H' g hv => hr vs F' H' g.sub hv Q fun p ws F2 H2 g2 h1 h2 h3 h4 => q p ws F2 H2 (g.trans g2) (none_of g.h h1) h2 h3 h4⟩
theorem dpa1 {K : PySem.W.Frag} {H : Hp} {vs : List V} (h : DpAll K H vs [d]) : ∃ v, vs = [v] ∧ Dp K H v d := by
  cases h with
  | cons h t =>
    cases t
    exact ⟨_, rfl, h⟩
theorem dpa2 {K : PySem.W.Frag} {H : Hp} {vs : List V} {d' : D} (h : DpAll K H vs [d, d']) : ∃ v w, vs = [v, w] ∧ Dp K H v d ∧ Dp K H w d' := by
  cases h with
  | cons h t =>
    obtain ⟨w, rfl, h2⟩ := dpa1 t
    exact ⟨_, _, rfl, h, h2⟩
section
variable {a b : Expr} {i j : Int} {ns : List Int} {bs : List Bool}
theorem e_lenL (hm : X.mg "len" = none) (h : DE X ρ a (.list ds)) (hg : Gl X "len" := by rfl) (he : starEach [a] X.env = (false, eval a X.env) :: starEach [] X.env := by rfl) : DE X ρ (.Call (.Name "len" p) [a] [] pos) (.int (ds.length : Int)) :=
  e_callB call_len_seq (fun vs F H s hv Q q => by
    obtain ⟨v, rfl, h⟩ := dpa1 hv
    obtain ⟨l, ws, rfl, h1, h2⟩ := dp_lst h
    exact ⟨l, ws, rfl, .inl (ex_l s h1), q _ F H (Gr.refl s) (by rw [dpa_len h2]; exact .int _)⟩) hm PySem.boot_len (a_cons h a_nil he) hg (he := he)
theorem e_lenT (hm : X.mg "len" = none) (h : DE X ρ a (.tuple ds)) (hg : Gl X "len" := by rfl) (he : starEach [a] X.env = (false, eval a X.env) :: starEach [] X.env := by rfl) : DE X ρ (.Call (.Name "len" p) [a] [] pos) (.int (ds.length : Int)) :=
  e_callB call_len_seq (fun vs F H s hv Q q => by
    obtain ⟨v, rfl, h⟩ := dpa1 hv
    obtain ⟨l, ws, rfl, h1, h2⟩ := dp_tup h
    exact ⟨l, ws, rfl, .inr (ex_t s h1), q _ F H (Gr.refl s) (by rw [dpa_len h2]; exact .int _)⟩) hm PySem.boot_len (a_cons h a_nil he) hg (he := he)
theorem e_sum (hc : X.calm = true) (hm : X.mg "sum" = none) (h : DE X ρ a (.list (ns.map PyData.int))) (hg : Gl X "sum" := by rfl) (he : starEach [a] X.env = (false, eval a X.env) :: starEach [] X.env := by rfl) : DE X ρ (.Call (.Name "sum" p) [a] [] pos) (.int ns.sum) :=
  e_callB (cr_sum hc) (fun vs F H s hv Q q => by
    obtain ⟨v, rfl, h⟩ := dpa1 hv
    obtain ⟨l, ws, rfl, h1, h2⟩ := dp_lst h
    have e := dpa_ints h2
    subst e
    exact ⟨l, ns, rfl, ex_l s h1, q _ F H (Gr.refl s) (.int _)⟩) hm (by decide +kernel) (a_cons h a_nil he) hg (he := he)
theorem e_all (hc : X.calm = true) (hm : X.mg "all" = none) (h : DE X ρ a (.list (bs.map PyData.bool))) (hg : Gl X "all" := by rfl) (he : starEach [a] X.env = (false, eval a X.env) :: starEach [] X.env := by rfl) : DE X ρ (.Call (.Name "all" p) [a] [] pos) (.bool (bs.all id)) :=
  e_callB (cr_all hc) (fun vs F H s hv Q q => by
    obtain ⟨v, rfl, h⟩ := dpa1 hv
    obtain ⟨l, ws, rfl, h1, h2⟩ := dp_lst h
    have e := dpa_bools h2
    subst e
    exact ⟨l, bs, rfl, ex_l s h1, q _ F H (Gr.refl s) (.bl _)⟩) hm (by decide +kernel) (a_cons h a_nil he) hg (he := he)
theorem e_any (hc : X.calm = true) (hm : X.mg "any" = none) (h : DE X ρ a (.list (bs.map PyData.bool))) (hg : Gl X "any" := by rfl) (he : starEach [a] X.env = (false, eval a X.env) :: starEach [] X.env := by rfl) : DE X ρ (.Call (.Name "any" p) [a] [] pos) (.bool (bs.any id)) :=
  e_callB (cr_any hc) (fun vs F H s hv Q q => by
    obtain ⟨v, rfl, h⟩ := dpa1 hv
    obtain ⟨l, ws, rfl, h1, h2⟩ := dp_lst h
    have e := dpa_bools h2
    subst e
    exact ⟨l, bs, rfl, ex_l s h1, q _ F H (Gr.refl s) (.bl _)⟩) hm (by decide +kernel) (a_cons h a_nil he) hg (he := he)
theorem e_abs (hm : X.mg "abs" = none) (h : DE X ρ a (.int i)) (hg : Gl X "abs" := by rfl) (he : starEach [a] X.env = (false, eval a X.env) :: starEach [] X.env := by rfl) : DE X ρ (.Call (.Name "abs" p) [a] [] pos) (.int (if i < 0 then -i else i)) :=
  e_callB call_abs (fun vs F H s hv Q q => by
    obtain ⟨v, rfl, h⟩ := dpa1 hv
    exact ⟨i, by rw [dp_int h], q _ F H (Gr.refl s) (.int _)⟩) hm (by decide +kernel) (a_cons h a_nil he) hg (he := he)
theorem e_max (hc : X.calm = true) (hm : X.mg "max" = none) (h : DE X ρ a (.int i)) (h' : DE X ρ b (.int j)) (hg : Gl X "max" := by rfl) (he : starEach [a, b] X.env = (false, eval a X.env) :: starEach [b] X.env := by rfl) (he2 : starEach [b] X.env = (false, eval b X.env) :: starEach [] X.env := by rfl)
    (hpl : (backTo pos (starEach [b] X.env)).any (·.1) = false := by rfl) : DE X ρ (.Call (.Name "max" p) [a, b] [] pos) (.int (if j > i then j else i)) :=
  e_callB (call_max2 hc) (fun vs F H s hv Q q => by
    obtain ⟨v, w, rfl, h, h2⟩ := dpa2 hv
    exact ⟨i, j, by rw [dp_int h, dp_int h2], q _ F H (Gr.refl s) (.int _)⟩) hm (by decide +kernel) (a_cons h (a_cons h' a_nil he2) he) hg (he := he) (hpl := hpl)
theorem e_min (hc : X.calm = true) (hm : X.mg "min" = none) (h : DE X ρ a (.int i)) (h' : DE X ρ b (.int j)) (hg : Gl X "min" := by rfl) (he : starEach [a, b] X.env = (false, eval a X.env) :: starEach [b] X.env := by rfl) (he2 : starEach [b] X.env = (false, eval b X.env) :: starEach [] X.env := by rfl)
    (hpl : (backTo pos (starEach [b] X.env)).any (·.1) = false := by rfl) : DE X ρ (.Call (.Name "min" p) [a, b] [] pos) (.int (if j < i then j else i)) :=
  e_callB (call_min2 hc) (fun vs F H s hv Q q => by
    obtain ⟨v, w, rfl, h, h2⟩ := dpa2 hv
    exact ⟨i, j, by rw [dp_int h, dp_int h2], q _ F H (Gr.refl s) (.int _)⟩) hm (by decide +kernel) (a_cons h (a_cons h' a_nil he2) he) hg (he := he) (hpl := hpl)
theorem e_divmod (hij : CDiv i j) (hm : X.mg "divmod" = none) (h : DE X ρ a (.int i)) (h' : DE X ρ b (.int j)) (hg : Gl X "divmod" := by rfl) (he : starEach [a, b] X.env = (false, eval a X.env) :: starEach [b] X.env := by rfl) (he2 : starEach [b] X.env = (false, eval b X.env) :: starEach [] X.env := by rfl)
    (hpl : (backTo pos (starEach [b] X.env)).any (·.1) = false := by rfl) : DE X ρ (.Call (.Name "divmod" p) [a, b] [] pos) (.tuple [.int (i / j), .int (i % j)]) :=
  e_callB call_divmod (fun vs F H s hv Q q => by
    obtain ⟨v, w, rfl, h, h2⟩ := dpa2 hv
    exact ⟨i, j, by rw [dp_int h, dp_int h2], hij, fun t ht => q _ _ _ (Gr.fr s ht) (.tup (SqT.of upd_same) (.cons (.int _) (.cons (.int _) .nil)))⟩) hm (by decide +kernel) (a_cons h (a_cons h' a_nil he2) he) hg (he := he) (hpl := hpl)
theorem e_int (hm : X.mg "int" = none) (h : DE X ρ a (.int i)) (hg : Gl X "int" := by rfl) (he : starEach [a] X.env = (false, eval a X.env) :: starEach [] X.env := by rfl) : DE X ρ (.Call (.Name "int" p) [a] [] pos) (.int i) :=
  e_callTy call_int1 (fun vs F H s hv Q q => by
    obtain ⟨v, rfl, h⟩ := dpa1 hv
    exact .inl ⟨i, by rw [dp_int h], q _ F H (Gr.refl s) (.int _)⟩) hm (by decide +kernel) (a_cons h a_nil he) hg (he := he)
theorem e_intb {k : Bool} (hm : X.mg "int" = none) (h : DE X ρ a (.bool k)) (hg : Gl X "int" := by rfl) (he : starEach [a] X.env = (false, eval a X.env) :: starEach [] X.env := by rfl) : DE X ρ (.Call (.Name "int" p) [a] [] pos) (.int (if k then 1 else 0)) :=
  e_callTy call_int1 (fun vs F H s hv Q q => by
    obtain ⟨v, rfl, h⟩ := dpa1 hv
    exact .inr ⟨k, by rw [dp_bl h], q _ F H (Gr.refl s) (.int _)⟩) hm (by decide +kernel) (a_cons h a_nil he) hg (he := he)
/-- tuple(xs), list(xs) -/
theorem e_tupL (hm : X.mg "tuple" = none) (h : DE X ρ a (.list ds)) (hg : Gl X "tuple" := by rfl) (he : starEach [a] X.env = (false, eval a X.env) :: starEach [] X.env := by rfl) : DE X ρ (.Call (.Name "tuple" p) [a] [] pos) (.tuple ds) :=
  e_callTy call_tuple_of (fun vs F H s hv Q q => by
    obtain ⟨v, rfl, h⟩ := dpa1 hv
    obtain ⟨l, ws, rfl, h1, h2⟩ := dp_lst h
    exact ⟨l, ws, rfl, .inl ⟨ex_l s h1, fun t ht => q _ _ _ (Gr.fr s ht) (.tup (SqT.of upd_same) (dpa_ex (Ex.new (none_of s ht)) h2))⟩⟩) hm (by decide +kernel) (a_cons h a_nil he) hg (he := he)
theorem e_tupT (hm : X.mg "tuple" = none) (h : DE X ρ a (.tuple ds)) (hg : Gl X "tuple" := by rfl) (he : starEach [a] X.env = (false, eval a X.env) :: starEach [] X.env := by rfl) : DE X ρ (.Call (.Name "tuple" p) [a] [] pos) (.tuple ds) :=
  e_callTy call_tuple_of (fun vs F H s hv Q q => by
    obtain ⟨v, rfl, h⟩ := dpa1 hv
    obtain ⟨l, ws, rfl, h1, h2⟩ := dp_tup h
    exact ⟨l, ws, rfl, .inr ⟨ex_t s h1, q _ F H (Gr.refl s) (.tup h1 h2)⟩⟩) hm (by decide +kernel) (a_cons h a_nil he) hg (he := he)
theorem l_lstL (hm : X.mg "list" = none) (h : DE X ρ a (.list ds)) (hg : Gl X "list" := by rfl) (he : starEach [a] X.env = (false, eval a X.env) :: starEach [] X.env := by rfl) : DL X ρ (.Call (.Name "list" p) [a] [] pos) ds :=
  l_callTy call_list_of (fun vs F H s hv Q q => by
    obtain ⟨v, rfl, h⟩ := dpa1 hv
    obtain ⟨l, ws, rfl, h1, h2⟩ := dp_lst h
    exact ⟨l, ws, rfl, .inl (ex_l s h1), fun t ht => q t _ F _ (Gr.lay s ht) ht (none_of s ht) upd_same h2⟩) hm (by decide +kernel) (a_cons h a_nil he) hg (he := he)
theorem l_lstT (hm : X.mg "list" = none) (h : DE X ρ a (.tuple ds)) (hg : Gl X "list" := by rfl) (he : starEach [a] X.env = (false, eval a X.env) :: starEach [] X.env := by rfl) : DL X ρ (.Call (.Name "list" p) [a] [] pos) ds :=
  l_callTy call_list_of (fun vs F H s hv Q q => by
    obtain ⟨v, rfl, h⟩ := dpa1 hv
    obtain ⟨l, ws, rfl, h1, h2⟩ := dp_tup h
    exact ⟨l, ws, rfl, .inr (ex_t s h1), fun t ht => q t _ F _ (Gr.lay s ht) ht (none_of s ht) upd_same h2⟩) hm (by decide +kernel) (a_cons h a_nil he) hg (he := he)
theorem dpa_ofints {K : PySem.W.Frag} {F : Hp} : ∀ ms : List Int, DpAll K F (ms.map V.int) (ms.map PyData.int)
  | [] => .nil
  | m :: ms => .cons (.int m) (dpa_ofints ms)
/-- sorted(xs) of ints -/
def srt (ns : List Int) : List Int := ns.mergeSort (fun a b => decide (a ≤ b))
theorem srt_perm (ns : List Int) : (srt ns).Perm ns := List.mergeSort_perm _ _
theorem srt_pair (ns : List Int) : (srt ns).Pairwise (· ≤ ·) := by
  have h := List.pairwise_mergeSort (le := fun a b : Int => decide (a ≤ b)) (fun a b c h1 h2 => by simp at *; omega) (fun a b => by simp; omega) ns
  exact h.imp fun h => by simpa using h
theorem srt_uniq {as bs : List Int} (p : as.Perm bs) (h1 : as.Pairwise (· ≤ ·)) (h2 : bs.Pairwise (· ≤ ·)) : as = bs :=
  p.eq_of_pairwise (fun a b _ _ h1 h2 => by omega) h1 h2
theorem l_sorted (hm : X.mg "sorted" = none) (h : DE X ρ a (.list (ns.map PyData.int))) (hg : Gl X "sorted" := by rfl) (he : starEach [a] X.env = (false, eval a X.env) :: starEach [] X.env := by rfl) : DL X ρ (.Call (.Name "sorted" p) [a] [] pos) ((srt ns).map PyData.int) :=
  l_callB cr_sortedI (fun vs F H s hv Q q => by
    obtain ⟨v, rfl, h⟩ := dpa1 hv
    obtain ⟨l, ws, rfl, h1, h2⟩ := dp_lst h
    have e := dpa_ints h2
    subst e
    refine ⟨l, ns, rfl, ex_l s h1, fun ns' t hp hs ht => ?_⟩
    have e2 : ns' = srt ns := srt_uniq (hp.trans (srt_perm ns).symm) hs (srt_pair ns)
    subst e2
    refine q t _ F _ (Gr.lay s ht) ht (none_of s ht) upd_same ?_
    exact dpa_ofints _) hm (by decide +kernel) (a_cons h a_nil he) hg (he := he)
/-- the data's class -/
def TyD : D → String → Prop
  | .int _, t => t = "int"
  | .bool _, t => t = "bool"
  | .str _, t => t = "str"
  | .tuple _, t => t = "tuple"
  | _, _ => False
theorem tyx {K : PySem.W.Frag} {F H : Hp} {v : V} {t : String} (s : Ex F H) (h : Dp K F v d) (ht : TyD d t) : TyX K H v (.type t) := by
  cases h with
  | non => exact ht.elim
  | bl b => cases ht; exact .base (.bl b)
  | int i => cases ht; exact .base (.int i)
  | str x => cases ht; exact .base (.str x)
  | lst h1 h2 => exact ht.elim
  | tup h1 h2 =>
    cases ht
    rcases ex_t s h1 with (h | ⟨o, h⟩) | ⟨o, its, n, h, hc, _⟩
    · exact .base (.tup h)
    · exact .fTuple h
    · exact .kTuple h hc
theorem e_isi {c : Str} {pc : Pos} {t T : String} {k : Bool} (ht : TyD d t) (hk : kitB t T = some k) (hm : X.mg "isinstance" = none) (hmT : X.mg c = none) (hvT : bootBuiltins c = some (.type T)) (h : DE X ρ a d) (hg : Gl X "isinstance" := by rfl) (hgT : Gl X c := by rfl)
    (hn : c ≠ "__name__" := by decide) (hdb : (c == ("__debug__" : Str)) = false := by decide)
    (he : starEach [a, .Name c pc] X.env = (false, eval a X.env) :: starEach [.Name c pc] X.env := by rfl) (he2 : starEach [.Name c pc] X.env = (false, eval (.Name c pc) X.env) :: starEach [] X.env := by rfl)
    (hpl : (backTo pos (starEach [.Name c pc] X.env)).any (·.1) = false := by rfl) : DE X ρ (.Call (.Name "isinstance" p) [a, .Name c pc] [] pos) (.bool k) :=
  weakE (pe_callB call_isi hg hm (by decide +kernel) (pa_cons h (pa_cons (pe_bltn (v := .ty T) hgT hmT hvT rfl hn hdb) pa_nil he2) he) (by decide) (by decide) he hpl) fun σ H Q ⟨F, S, q⟩ =>
    ⟨F, S, fun v F' H' g hv => ⟨v, .ty T, .type t, .type T, k, rfl, .ty T, tyx g.sub hv ht, kit_ty hk, q _ F' H' g (.bl k)⟩⟩
/-- list(range(..)), tuple(range(..)) -/
theorem rg_ok {K : PySem.W.Frag} {F : Hp} (lo hi : Int) : DpAll K F (rgV lo hi) ((List.range (hi - lo).toNat).map fun (k : Nat) => PyData.int (lo + (k : Int))) := by
  unfold rgV
  generalize List.range (hi - lo).toNat = l
  induction l with
  | nil => exact .nil
  | cons m ms ih => exact .cons (.int _) ih
theorem l_listRg1 {p2 pos2 : Pos} (hc : X.calm = true) (hm : X.mg "list" = none) (hmr : X.mg "range" = none) (hn : -100000 ≤ i ∧ i ≤ 100000) (h : DE X ρ a (.int i)) (hg : Gl X "list" := by rfl) (hgr : Gl X "range" := by rfl)
    (na : starEach [a] X.env = (false, eval a X.env) :: starEach [] X.env := by rfl)
    (nb : starEach [.Call (.Name "range" p2) [a] [] pos2] X.env = (false, eval (.Call (.Name "range" p2) [a] [] pos2) X.env) :: starEach [] X.env := by rfl) :
    DL X ρ (.Call (.Name "list" p) [.Call (.Name "range" p2) [a] [] pos2] [] pos) ((List.range i.toNat).map fun (k : Nat) => PyData.int (k : Int)) :=
  weakE (pe_listRg hc hg hm (prg_1 hgr hmr h na) nb) fun σ H Q ⟨F, S, q⟩ => ⟨F, S, fun v F' H' g hv => ⟨i, dp_int hv, ⟨by decide, by decide, by omega, by omega, by omega⟩, fun t ht => by
    have e : ((List.range i.toNat).map fun (k : Nat) => PyData.int (k : Int)) = (List.range (i - 0).toNat).map fun (k : Nat) => PyData.int (0 + (k : Int)) := by simp
    exact q t _ F' _ (g.trans (Gr.lay g.sub ht)) (none_of g.h ht) (none_of g.sub ht) upd_same (by rw [e]; exact rg_ok 0 i)⟩⟩
theorem e_tupRg2 {p2 pos2 : Pos} (hc : X.calm = true) (hm : X.mg "tuple" = none) (hmr : X.mg "range" = none) (hn : (-100000 ≤ i ∧ i ≤ 100000) ∧ -100000 ≤ j ∧ j ≤ 100000) (h : DE X ρ a (.int i)) (h' : DE X ρ b (.int j)) (hg : Gl X "tuple" := by rfl) (hgr : Gl X "range" := by rfl)
    (na : starEach [a, b] X.env = (false, eval a X.env) :: starEach [b] X.env := by rfl) (na2 : starEach [b] X.env = (false, eval b X.env) :: starEach [] X.env := by rfl) (hp : (backTo pos2 (starEach [b] X.env)).any (·.1) = false := by rfl)
    (nb : starEach [.Call (.Name "range" p2) [a, b] [] pos2] X.env = (false, eval (.Call (.Name "range" p2) [a, b] [] pos2) X.env) :: starEach [] X.env := by rfl) :
    DE X ρ (.Call (.Name "tuple" p) [.Call (.Name "range" p2) [a, b] [] pos2] [] pos) (.tuple ((List.range (j - i).toNat).map fun (k : Nat) => PyData.int (i + (k : Int)))) :=
  weakE (pe_tupRg hc hg hm (prg_2 hgr hmr h h' na na2 hp) nb) fun σ H Q ⟨F, S, q⟩ => ⟨F, S, fun v F1 H1 g1 hv => ⟨F1, S.mono g1, fun w F' H' g hw => ⟨i, j, dp_int hv, dp_int hw, ⟨by omega, by omega, by omega, by omega, by omega⟩, fun t ht =>
    q _ _ _ ((g1.trans g).trans (Gr.fr g.sub ht)) (.tup (SqT.of upd_same) (dpa_ex (Ex.new (none_of g.sub ht)) (rg_ok i j)))⟩⟩⟩
end

/-! ### calls of one's own defs that change nothing -/
/-- such a def: R: arguments and answer -/
def SpP (K : PySem.W.Frag) (R : List D → D → Prop) : Sp := fun vs H Q _ => ∃ ds d F, R ds d ∧ Ex F H ∧ DpAll K F vs ds ∧ ∀ v F' H', Gr F H F' H' → Dp K F' v d → Q v H'
/-- a def that stands behind a module's name and keeps its promise -/
def Def (P : Program) (w : World) (K : PySem.W.Frag) (mg : Str → Option Value) (base : Heap) (CX : CXT) (x : Str) (k : Nat) (ps : List Str) (sp : Sp) : Prop :=
  ∃ f fd, mg x = some (.ref f) ∧ PySem.W.keepIn K (.ref f) = true ∧ Binds K fd ps [] ∧ FnOk P w K mg base CX k f fd ps sp
/-- a name that may be called -/
def Cb (X : Cx) (x : Str) (sp : Sp) : Prop := ∀ (e : Expr) (l : List Expr) (t : TA) (p pos : Pos), PA X (e :: l) t → Gl X x → (x == ("__debug__" : Str)) = false → starEach (e :: l) X.env = (false, eval e X.env) :: starEach l X.env → (backTo pos (starEach l X.env)).any (·.1) = false →
  PE X (.Call (.Name x p) (e :: l) [] pos) (tCall sp [] E0 t)
theorem Def.cb {X : Cx} {x : Str} {k : Nat} {ps : List Str} {sp : Sp} (G : Def X.prog X.w X.K X.mg X.base CX0 x k ps sp) (hr : Room k X.A) : Cb X x sp := by
  obtain ⟨f, fd, hm, hk, hb, G⟩ := G
  exact fun e l t p pos ha hg hdb he hpl => pe_call G hr hg hm hk hb .nil pass0 ha hdb he hpl
theorem e_call {k : Nat} {ps : List Str} {R : List D → D → Prop} (G : Def X.prog X.w X.K X.mg X.base CX0 x k ps (SpP X.K R)) (hr : Room k X.A) (hR : R ds d) (ha : DA X ρ (e :: l) ds) (hg : Gl X x := by rfl) (hdb : (x == ("__debug__" : Str)) = false := by decide)
    (he : starEach (e :: l) X.env = (false, eval e X.env) :: starEach l X.env := by rfl) (hpl : (backTo pos (starEach l X.env)).any (·.1) = false := by rfl) : DE X ρ (.Call (.Name x p) (e :: l) [] pos) d := by
  obtain ⟨f, fd, hm, hk, hb, G⟩ := G
  refine weakE (pe_call G hr hg hm hk hb .nil pass0 ha hdb he hpl) fun σ H Q ⟨F, S, q⟩ => ⟨F, S, fun vs F' H' g hv => ?_⟩
  show SpP X.K R (vs ++ []) H' Q E0
  rw [List.append_nil]
  exact ⟨ds, d, F', hR, g.sub, hv, fun v F2 H2 g2 h2 => q v F2 H2 (g.trans g2) h2⟩
theorem e_call0 {k : Nat} {ps : List Str} {R : List D → D → Prop} (G : Def X.prog X.w X.K X.mg X.base CX0 x k ps (SpP X.K R)) (hr : Room k X.A) (hR : R [] d) (hg : Gl X x := by rfl) (hdb : (x == ("__debug__" : Str)) = false := by decide) : DE X ρ (.Call (.Name x p) [] [] pos) d := by
  obtain ⟨f, fd, hm, hk, hb, G⟩ := G
  refine weakE (pe_call0 G hr hg hm hk hb .nil pass0 hdb) fun σ H Q ⟨F, S, q⟩ => ?_
  exact ⟨[], d, F, hR, S.sub, .nil, fun v F2 H2 g2 h2 => q v F2 H2 g2 h2⟩
end
end Lm
set_option maxRecDepth 100000
set_option maxHeartbeats 4000000
/-! Statements, by data. -/
namespace Lm
open PySem PySem.Spec PyProof.Rows L2 Evl

/-- a def's entry: what was frozen, what stood, the list that it may change (its first parameter) -/
structure Ct where
  F : Hp
  H : Hp
  P : Option Addr
structure Cr (c : Ct) (σ : L2.St) (F H : Hp) (ρ : En) : Prop where
  f : Ex c.F F
  kept : ∀ b o, c.H b = some o → c.P = some b ∨ H b = some o
  there : ∀ b, H b = none → c.H b = none
  new : ∀ b, c.F b = none → F b ≠ none → c.H b = none
  own : ∀ (i : Nat) (ds : List D) (a : Addr), ρ[i]? = some (Slot.own ds) → σ[i]? = some (some (V.ref a)) → c.P = some a ∨ c.H a = none
  par : ∀ a : Addr, c.P = some a → σ[0]? = some (some (V.ref a)) ∧ H a ≠ none ∧ F a = none ∧ ∃ ds, ρ[0]? = some (Slot.own ds)
/-- the state -/
structure At (K : PySem.W.Frag) (c : Ct) (σ : L2.St) (F H : Hp) (ρ : En) : Prop where
  s : Sd K σ F H ρ
  c : Cr c σ F H ρ
section
variable {K : PySem.W.Frag} {c : Ct} {σ σ' : L2.St} {F H F' H' : Hp} {ρ ρ' : En}
theorem At.mono (a : At K c σ F H ρ) (g : Gr F H F' H') : At K c σ F' H' ρ :=
  ⟨a.s.mono g, a.c.f.trans g.f, fun b o h => (a.c.kept b o h).imp_right (g.h b o), fun b h => a.c.there b (none_of g.h h), fun b h1 h2 => by
    cases q : F b with
    | none => exact a.c.there b (g.new b q h2)
    | some o => exact a.c.new b h1 (by rw [q]; exact fun z => by cases z), a.c.own, fun x hx => by
    obtain ⟨h1, h2, h3, h4⟩ := a.c.par x hx
    refine ⟨h1, fun z => h2 (none_of g.h z), ?_, h4⟩
    cases q : F' x with
    | none => rfl
    | some o => exact absurd (g.new x h3 (by rw [q]; exact fun z => by cases z)) h2⟩
/-- behind a target -/
theorem At.keep {js : List Nat} (a : At K c σ F H ρ) (s : Sd K σ' F H ρ') (k : Keeps js σ σ' ρ ρ') (h0 : c.P = none ∨ 0 ∉ js) : At K c σ' F H ρ' :=
  ⟨s, a.c.f, a.c.kept, a.c.there, a.c.new, fun i ds x h1 h2 => by
    obtain ⟨h3, h4⟩ := k.own i ds h1
    rw [k.oth i h4] at h2
    exact a.c.own i ds x h3 h2, fun x hx => by
    obtain ⟨h1, h2, h3, h4⟩ := a.c.par x hx
    rcases h0 with h0 | h0
    · rw [h0] at hx
      cases hx
    · exact ⟨by rw [k.oth 0 h0]; exact h1, h2, h3, by rw [k.slo 0 h0]; exact h4⟩⟩
theorem At.set (a : At K c σ F H ρ) (i : Nat) {v : V} {d : D} (h : Dp K F v d) (h0 : c.P = none ∨ i ≠ 0) : At K c (σ.set i (some v)) F H (ρ.set i (.dat d)) :=
  a.keep (js := [i]) (a.s.set i h) (Keeps.none.set i _ d) (h0.imp_right fun h z => h (List.mem_singleton.mp z).symm)
/-- a list that the def made itself -/
theorem At.setO (a : At K c σ F H ρ) (i : Nat) {p : Addr} {vs : List V} {ds : List D} (hp : H p = some (.lst vs)) (hf : F p = none) (h : DpAll K F vs ds) (hc : c.H p = none)
    (hn : ∀ (j : Nat) (es : List D), ρ[j]? = some (.own es) → σ[j]? ≠ some (some (V.ref p))) (h0 : c.P = none ∨ i ≠ 0) : At K c (σ.set i (some (.ref p))) F H (ρ.set i (.own ds)) := by
  refine ⟨a.s.setO i hp hf h hn, a.c.f, a.c.kept, a.c.there, a.c.new, fun j es x h1 h2 => ?_, fun x hx => ?_⟩
  · by_cases hi : i = j
    · subst hi
      have hl : i < σ.length := by
        have := (List.getElem?_eq_some_iff.mp h2).1
        rwa [List.length_set] at this
      rw [List.getElem?_set_self hl] at h2
      cases h2
      exact .inr hc
    · rw [List.getElem?_set_ne hi] at h1 h2
      exact a.c.own j es x h1 h2
  · obtain ⟨h1, h2, h3, h4⟩ := a.c.par x hx
    rcases h0 with h0 | h0
    · rw [h0] at hx
      cases hx
    · exact ⟨by rw [List.getElem?_set_ne h0]; exact h1, h2, h3, by rw [List.getElem?_set_ne h0]; exact h4⟩
/-- the items of a list that is one's own change -/
theorem At.mutate (a : At K c σ F H ρ) (i : Nat) {p : Addr} {vs : List V} {ds es : List D} (hρ : ρ[i]? = some (Slot.own ds)) (hσ : σ[i]? = some (some (V.ref p))) (h : DpAll K F vs es) : At K c σ F (upd H p (.lst vs)) (ρ.set i (.own es)) := by
  obtain ⟨q, ws, e1, e2, e3, e4⟩ := a.s.own i ds hρ
  rw [hσ] at e1
  cases e1
  have hl : i < ρ.length := (List.getElem?_eq_some_iff.mp hρ).1
  have ne : ∀ b o, F b = some o → b ≠ p := fun b o hb z => by rw [z, e3] at hb; cases hb
  refine ⟨⟨fun b o hb => by rw [upd_ne (ne b o hb)]; exact a.s.sub b o hb, by rw [List.length_set]; exact a.s.len, fun j d hj => ?_, fun j fs hj => ?_, fun j k fs gs x hj hk gj gk => ?_⟩, a.c.f, fun b o hb => ?_, fun b hb => ?_, a.c.new, fun j fs x hj gj => ?_, fun x hx => ?_⟩
  · by_cases hi : i = j
    · subst hi
      rw [List.getElem?_set_self hl] at hj
      cases hj
    · rw [List.getElem?_set_ne hi] at hj
      exact a.s.dat j d hj
  · by_cases hi : i = j
    · subst hi
      rw [List.getElem?_set_self hl] at hj
      cases hj
      exact ⟨p, vs, hσ, upd_same, e3, h⟩
    · rw [List.getElem?_set_ne hi] at hj
      obtain ⟨q, xs, f1, f2, f3, f4⟩ := a.s.own j fs hj
      have hne : q ≠ p := fun z => hi (a.s.dis i j ds fs p hρ hj hσ (by rw [f1, z]))
      exact ⟨q, xs, f1, by rw [upd_ne hne]; exact f2, f3, f4⟩
  · have back : ∀ (m : Nat) (fs : List D), (ρ.set i (.own es))[m]? = some (Slot.own fs) → ∃ gs, ρ[m]? = some (Slot.own gs) := fun m fs hm => by
      by_cases hi : i = m
      · subst hi
        exact ⟨ds, hρ⟩
      · rw [List.getElem?_set_ne hi] at hm
        exact ⟨fs, hm⟩
    obtain ⟨f1, hj'⟩ := back j fs hj
    obtain ⟨f2, hk'⟩ := back k gs hk
    exact a.s.dis j k f1 f2 x hj' hk' gj gk
  · by_cases hb' : b = p
    · subst hb'
      rcases a.c.own i ds b hρ hσ with z | z
      · exact .inl z
      · rw [z] at hb
        cases hb
    · rw [upd_ne hb']
      exact a.c.kept b o hb
  · by_cases hb' : b = p
    · subst hb'
      rw [upd_same] at hb
      cases hb
    · rw [upd_ne hb'] at hb
      exact a.c.there b hb
  · by_cases hi : i = j
    · subst hi
      exact a.c.own i ds x hρ gj
    · rw [List.getElem?_set_ne hi] at hj
      exact a.c.own j fs x hj gj
  · obtain ⟨h1, h2, h3, fs, h4⟩ := a.c.par x hx
    refine ⟨h1, fun z => ?_, h3, ?_⟩
    rotate_left
    · by_cases hi : i = 0
      · subst hi
        exact ⟨es, List.getElem?_set_self hl⟩
      · exact ⟨fs, by rw [List.getElem?_set_ne hi]; exact h4⟩
    by_cases hb' : x = p
    · subst hb'
      rw [upd_same] at z
      cases z
    · rw [upd_ne hb'] at z
      exact h2 z
/-- a list that is one's own is frozen -/
theorem At.frz (a : At K c σ F H ρ) (i : Nat) {ds : List D} (hρ : ρ[i]? = some (Slot.own ds)) (h0 : c.P = none ∨ i ≠ 0) : ∃ F', Ex F F' ∧ At K c σ F' H (ρ.set i (.dat (.list ds))) := by
  obtain ⟨p, vs, e1, e2, e3, e4⟩ := a.s.own i ds hρ
  have hl : i < ρ.length := (List.getElem?_eq_some_iff.mp hρ).1
  have nP : c.P ≠ some p := fun z => by
    rcases h0 with h0 | h0
    · rw [h0] at z
      cases z
    · obtain ⟨h1, _, _, fs, h4⟩ := a.c.par p z
      exact h0 (a.s.dis i 0 ds fs p hρ h4 e1 h1)
  have hH : c.H p = none := (a.c.own i ds p hρ e1).resolve_left nP
  have fx : Ex F (upd F p (.lst vs)) := Ex.new e3
  refine ⟨upd F p (.lst vs), fx, ⟨⟨fun b o hb => ?_, by rw [List.length_set]; exact a.s.len, fun j d hj => ?_, fun j fs hj => ?_, fun j k fs gs x hj hk gj gk => ?_⟩, a.c.f.trans fx, a.c.kept, a.c.there, fun b h1 h2 => ?_, fun j fs x hj gj => ?_, fun x hx => ?_⟩⟩
  · by_cases hb' : b = p
    · subst hb'
      rw [upd_same] at hb
      rw [e2]
      exact hb
    · rw [upd_ne hb'] at hb
      exact a.s.sub b o hb
  · by_cases hi : i = j
    · subst hi
      rw [List.getElem?_set_self hl] at hj
      cases hj
      exact ⟨_, e1, .lst (SqL.of upd_same) (dpa_ex fx e4)⟩
    · rw [List.getElem?_set_ne hi] at hj
      obtain ⟨v, f1, f2⟩ := a.s.dat j d hj
      exact ⟨v, f1, dp_ex fx f2⟩
  · obtain ⟨hj', hi⟩ := set_own hj
    obtain ⟨q, xs, f1, f2, f3, f4⟩ := a.s.own j fs hj'
    have hne : q ≠ p := fun z => hi (a.s.dis j i fs ds p hj' hρ (by rw [f1, z]) e1)
    exact ⟨q, xs, f1, f2, by rw [upd_ne hne]; exact f3, dpa_ex fx f4⟩
  · exact a.s.dis j k fs gs x (set_own hj).1 (set_own hk).1 gj gk
  · by_cases hb' : b = p
    · rw [hb']
      exact hH
    · rw [upd_ne hb'] at h2
      exact a.c.new b h1 h2
  · exact a.c.own j fs x (set_own hj).1 gj
  · obtain ⟨h1, h2, h3, h4⟩ := a.c.par x hx
    refine ⟨h1, h2, ?_, ?_⟩
    · rw [upd_ne (fun z => nP (by rw [← z]; exact hx))]
      exact h3
    · rcases h0 with h0 | h0
      · rw [h0] at hx
        cases hx
      · rw [List.getElem?_set_ne h0]
        exact h4
end

/-- what is wanted behind a statement, by data -/
structure Po where
  nx : En → Prop
  rt : En → D → Prop
  bk : En → Prop := fun _ => False
  ct : En → Prop := fun _ => False
  rl : En → List D → Prop := fun _ _ => False
structure Wants (K : PySem.W.Frag) (c : Ct) (p : Po) (E : Ends) : Prop where
  nx : ∀ σ F H ρ, p.nx ρ → At K c σ F H ρ → E.nx σ H
  rt : ∀ v σ F H ρ d, p.rt ρ d → At K c σ F H ρ → Dp K F v d → E.rt v H
  bk : ∀ σ F H ρ, p.bk ρ → At K c σ F H ρ → E.bk σ H
  ct : ∀ σ F H ρ, p.ct ρ → At K c σ F H ρ → E.ct σ H
  rl : ∀ q vs σ F H ρ ds, p.rl ρ ds → At K c σ F H ρ → H q = some (HO.lst vs) → F q = none → c.H q = none → DpAll K F vs ds → E.rt (.ref q) H
def tS (K : PySem.W.Frag) (c : Ct) (ρ : En) (p : Po) : TS := fun E σ H => ∃ F, At K c σ F H ρ ∧ Wants K c p E
abbrev WS (X : Cx) (P : Option Addr) (ρ : En) (sts : List Stmt) (p : Po) : Prop := ∀ c : Ct, c.P = P → PSs X sts (tS X.K c ρ p)
abbrev W1 (X : Cx) (P : Option Addr) (ρ : En) (st : Stmt) (p : Po) : Prop := ∀ c : Ct, c.P = P → PS X st (tS X.K c ρ p)
section
variable {X : Cx} {P : Option Addr} {ρ : En} {p : Po} {st : Stmt} {rest : List Stmt} {e : Expr} {d : D} {ds : List D} {pos px : Pos} {x : Str} {i : Nat}
theorem w_nil (h : p.nx ρ) : WS X P ρ [] p := fun c hc => weakSs pss_nil fun E σ H ⟨F, a, W⟩ => W.nx σ F H ρ h a
theorem w_cons (h : W1 X P ρ st { p with nx := fun ρ' => WS X P ρ' rest p }) : WS X P ρ (st :: rest) p := fun c hc => by
  refine weakSs (pss_cons (h c hc) (u := fun E σ H => ∃ ρ', WS X P ρ' rest p ∧ tS X.K c ρ' p E σ H) ⟨fun pins s σ H E I ⟨ρ', hw, q⟩ => (hw c hc).run pins s σ H E I q⟩) fun E σ H ⟨F, a, W⟩ => ⟨F, a, ⟨fun σ' F' H' ρ' hw a' => ⟨ρ', hw, F', a', W⟩, W.rt, W.bk, W.ct, W.rl⟩⟩
theorem w_one (h : W1 X P ρ st p) : WS X P ρ [st] p := fun c hc => pss_one (h c hc)
/-- a list that is one's own is frozen -/
theorem w_frz {sts : List Stmt} (i : Nat) (hρ : ρ[i]? = some (Slot.own ds)) (h0 : P = none ∨ i ≠ 0) (h : WS X P (ρ.set i (.dat (.list ds))) sts p) : WS X P ρ sts p := fun c hc => by
  subst hc
  exact weakSs (h c rfl) fun E σ H ⟨F, a, W⟩ => by
    obtain ⟨F', _, a'⟩ := a.frz i hρ h0
    exact ⟨F', a', W⟩
theorem w_frz1 (i : Nat) (hρ : ρ[i]? = some (Slot.own ds)) (h0 : P = none ∨ i ≠ 0) (h : W1 X P (ρ.set i (.dat (.list ds))) st p) : W1 X P ρ st p := fun c hc => by
  subst hc
  exact weakS (h c rfl) fun E σ H ⟨F, a, W⟩ => by
    obtain ⟨F', _, a'⟩ := a.frz i hρ h0
    exact ⟨F', a', W⟩
/-- return e -/
theorem w_ret (he : DE X ρ e d) (h : p.rt ρ d) : W1 X P ρ (.Return (some e) pos) p := fun c hc => weakS (ps_ret he) fun E σ H ⟨F, a, W⟩ => ⟨F, a.s, fun v F' H' g hv => W.rt v σ F' H' ρ d h (a.mono g) hv⟩
/-- return a new list -/
theorem w_retL (he : DL X ρ e ds) (h : p.rl ρ ds) : W1 X P ρ (.Return (some e) pos) p := fun c hc => weakS (ps_ret he) fun E σ H ⟨F, a, W⟩ => ⟨F, a.s, fun q vs F' H' g h1 h2 h3 h4 => W.rl q vs σ F' H' ρ ds h (a.mono g) h3 h2 (a.c.there q h1) h4⟩
/-- x = e -/
theorem w_set (i : Nat) (he : DE X ρ e d) (h : p.nx (ρ.set i (.dat d))) (h0 : P = none ∨ i ≠ 0) (hN : X.N.Nodup) (hi : X.N[i]? = some x := by rfl) (hx : Loc X.env.scope x := by first | exact Or.inl rfl | exact Or.inr rfl) (hs : swapsWith e (some (.Name x px)) pos.line X.env = pure false := by rfl)
    (hf : X.fn x = true ∨ X.env.scope.names.lookup x = some .local := by first | exact .inl rfl | exact .inr rfl) : W1 X P ρ (.Assign [.Name x px] e pos) p := fun c hc => by
  subst hc
  exact weakS (ps_set hN hi hx he hs hf) fun E σ H ⟨F, a, W⟩ => ⟨F, a.s, fun v F' H' g hv => W.nx _ F' H' _ h ((a.mono g).set i hv h0)⟩
theorem new_ne {K : PySem.W.Frag} {σ : L2.St} {F H : Hp} {q : Addr} (s : Sd K σ F H ρ) (hq : H q = none) (j : Nat) (es : List D) (h : ρ[j]? = some (Slot.own es)) : σ[j]? ≠ some (some (V.ref q)) := fun z => by
  obtain ⟨a, vs, h1, h2, _⟩ := s.own j es h
  rw [z] at h1
  cases h1
  rw [hq] at h2
  cases h2
/-- x = a new list, one's own -/
theorem w_setO (i : Nat) (he : DL X ρ e ds) (h : p.nx (ρ.set i (.own ds))) (h0 : P = none ∨ i ≠ 0) (hN : X.N.Nodup) (hi : X.N[i]? = some x := by rfl) (hx : Loc X.env.scope x := by first | exact Or.inl rfl | exact Or.inr rfl) (hs : swapsWith e (some (.Name x px)) pos.line X.env = pure false := by rfl)
    (hf : X.fn x = true ∨ X.env.scope.names.lookup x = some .local := by first | exact .inl rfl | exact .inr rfl) : W1 X P ρ (.Assign [.Name x px] e pos) p := fun c hc => by
  subst hc
  exact weakS (ps_set hN hi hx he hs hf) fun E σ H ⟨F, a, W⟩ => ⟨F, a.s, fun q vs F' H' g h1 h2 h3 h4 => W.nx _ F' H' _ h ((a.mono g).setO i h3 h2 h4 (a.c.there q h1) (new_ne a.s h1) h0)⟩
/-- x = [.. for ..] -/
theorem w_setLO {elt : Expr} {gs : List Comprehension} {scope : Scope} {p2 : Pos} (i : Nat) (he : Lc X ρ elt gs scope p2 ds) (h : p.nx (ρ.set i (.own ds))) (h0 : P = none ∨ i ≠ 0) (hi : X.N[i]? = some x := by rfl) (hy : X.env.scope.names.lookup x = some .local := by rfl)
    (hsw : swapsWith (.ListComp elt gs scope p2) (some (.Name x px)) pos.line X.env = pure true := by exact sw_true rfl rfl rfl (by decide +kernel)) : W1 X P ρ (.Assign [.Name x px] (.ListComp elt gs scope p2) pos) p := fun c hc => by
  subst hc
  exact weakS (he.s i x px pos hi hy hsw) fun E σ H ⟨F, a, W⟩ => ⟨F, a.s, fun q vs F' H' g h1 h2 h3 h4 => W.nx _ F' H' _ h ((a.mono g).setO i h3 h2 h4 (a.c.there q h1) (new_ne a.s h1) h0)⟩
theorem w_setL {elt : Expr} {gs : List Comprehension} {scope : Scope} {p2 : Pos} (i : Nat) (he : Lc X ρ elt gs scope p2 ds) (h : p.nx (ρ.set i (.dat (.list ds)))) (h0 : P = none ∨ i ≠ 0) (hi : X.N[i]? = some x := by rfl) (hy : X.env.scope.names.lookup x = some .local := by rfl)
    (hsw : swapsWith (.ListComp elt gs scope p2) (some (.Name x px)) pos.line X.env = pure true := by exact sw_true rfl rfl rfl (by decide +kernel)) : W1 X P ρ (.Assign [.Name x px] (.ListComp elt gs scope p2) pos) p := fun c hc => by
  subst hc
  exact weakS (he.s i x px pos hi hy hsw) fun E σ H ⟨F, a, W⟩ => ⟨F, a.s, fun q vs F' H' g h1 h2 h3 h4 => W.nx _ _ H' _ h ((a.mono (g.frz h1 h2 h3)).set i (.lst (SqL.of upd_same) (dpa_ex (Ex.new h2) h4)) h0)⟩
/-- if -/
theorem w_if {t : Expr} {a b : List Stmt} {k : Bool} (ht : DT X ρ t k) (ha : k = true → WS X P ρ a p) (hb : k = false → WS X P ρ b p) : W1 X P ρ (.If t a b pos) p := fun c hc => by
  refine weakS (ps_if (t := fun E σ H => k = true ∧ tS X.K c ρ p E σ H) (u := fun E σ H => k = false ∧ tS X.K c ρ p E σ H) ht ⟨fun pins s σ H E I h => (ha h.1 c hc).run pins s σ H E I h.2⟩ ⟨fun pins s σ H E I h => (hb h.1 c hc).run pins s σ H E I h.2⟩) fun E σ H ⟨F, at_, W⟩ => ⟨F, at_.s, fun F' H' g => ?_⟩
  cases k with
  | true => exact iteT ⟨rfl, F', at_.mono g, W⟩
  | false => exact iteF ⟨rfl, F', at_.mono g, W⟩
/-- (x, y, ..) = e, e no display -/
theorem w_unp {tg : Expr} {js : List Nat} {Γ : D → En → En → Prop} {ρ' : En} (he : DE X ρ e d) (hg : DG X tg js Γ) (hΓ : Γ d ρ ρ') (h : p.nx ρ') (h0 : P = none ∨ 0 ∉ js) (hs : swapsWithSole [tg] e pos.line X.env = pure false := by rfl) (hw : swappedStores [tg] e X.env = pure none := by rfl)
    (h1 : (assignEach [tg] X.env).map (·.2) = [assign tg X.env] := by rfl) : W1 X P ρ (.Assign [tg] e pos) p := fun c hc => by
  subst hc
  obtain ⟨t, ht, hq⟩ := hg.g
  exact weakS (ps_asg he ht hs hw h1) fun E σ H ⟨F, a, W⟩ => ⟨F, a.s, fun v F' H' g hv => hq v σ F' H' _ ρ d ρ' (a.s.mono g) hv hΓ fun σ' S' k => W.nx σ' F' H' ρ' h ((a.mono g).keep S' k h0)⟩

/-! ### for -/
theorem At.from_ {K : PySem.W.Frag} {c : Ct} {σ σ1 : L2.St} {F F1 H H1 : Hp} {ρ1 : En} (a1 : At K c σ1 F1 H1 ρ1) (a : At K { c with F := F1 } σ F H ρ) : At K c σ F H ρ ∧ Ex F1 F :=
  ⟨⟨a.s, a1.c.f.trans a.c.f, a.c.kept, a.c.there, fun b h1 h2 => by
    cases q : F1 b with
    | none => exact a.c.new b q h2
    | some o => exact a1.c.new b h1 (by rw [q]; exact fun z => by cases z), a.c.own, a.c.par⟩, a.c.f⟩
theorem At.to_ {K : PySem.W.Frag} {c : Ct} {σ : L2.St} {F F1 H : Hp} (e0 : Ex c.F F1) (e : Ex F1 F) (a : At K c σ F H ρ) : At K { c with F := F1 } σ F H ρ :=
  ⟨a.s, e, a.c.kept, a.c.there, fun b h1 h2 => a.c.new b (none_of e0 h1) h2, a.c.own, a.c.par⟩
theorem w_for {tg iter : Expr} {body : List Stmt} {js : List Nat} {Γ : D → En → En → Prop} (Pv : Nat → En → Prop) (hi : DI X ρ tg iter ds) (hg : DG X tg js Γ) (h0 : P = none ∨ 0 ∉ js) (hc : X.calm = true) (start : Pv 0 ρ)
    (turn : ∀ (i : Nat) (d : D) (ρ' : En), ds[i]? = some d → Pv i ρ' → ∃ ρ'', Γ d ρ' ρ'' ∧ WS X P ρ'' body { nx := Pv (i + 1), rt := p.rt, ct := Pv (i + 1), bk := p.nx, rl := p.rl })
    (done : ∀ ρ', Pv ds.length ρ' → p.nx ρ') (hp : PassesOwn (model X.prog X.w) X.A X.env X.xe := by exact PassesOwn.never) (hs : ∀ x, foldedSetIterable iter X.env x = pure x := by intro _; rfl) :
    W1 X P ρ (.For tg iter body [] pos) p := fun c hc' => by
  subst hc'
  obtain ⟨t, ht, hq⟩ := hg.g
  refine weakS (ps_for hp hc hi ht (tb := fun E σ H => ∃ ρ' p' c', c'.P = c.P ∧ WS X c.P ρ' body p' ∧ tS X.K c' ρ' p' E σ H) ⟨fun pins s σ H E I ⟨ρ', p', c', e, hw, q⟩ => (hw c' e).run pins s σ H E I q⟩ hs) fun E σ H ⟨F, a, W⟩ => ⟨F, a.s, fun J F1 H1 g1 Y => ?_⟩
  have a1 := a.mono g1
  refine ⟨fun i m σ' H' => m = ds.length - i ∧ i ≤ ds.length ∧ ∃ F' ρ', At X.K { c with F := F1 } σ' F' H' ρ' ∧ Pv i ρ', ⟨ds.length, by simp, Nat.zero_le _, F1, ρ, a1.to_ a1.c.f (Ex.refl _), start⟩, ?_⟩
  rintro i m σ' H' ⟨rfl, hle, F', ρ', a', hP⟩
  by_cases hlt : i < ds.length
  · refine .inr ⟨Y.go i H' hlt (a'.c.f.trans a'.s.sub), fun σ2 H2 => ∃ F2 ρ2, At X.K { c with F := F1 } σ2 F2 H2 ρ2 ∧ Pv (i + 1) ρ2, fun σ2 H2 ⟨F2, ρ2, a2, P2⟩ => ⟨ds.length - (i + 1), by omega, rfl, hlt, F2, ρ2, a2, P2⟩, fun x H2 hy => ?_⟩
    have hd : ds[i]? = some ds[i] := List.getElem?_eq_getElem hlt
    obtain ⟨F2, g2, hx⟩ := Y.yld i ds[i] H' x H2 F' hd (a'.c.f.trans a'.s.sub) a'.c.f a'.s.sub hy
    obtain ⟨ρ'', hΓ, hw⟩ := turn i ds[i] ρ' hd hP
    refine hq x σ' F2 H2 _ ρ' ds[i] ρ'' (a'.s.mono g2) hx hΓ fun σ3 S3 k => ⟨ρ'', _, { c with F := F1 }, rfl, hw, F2, (a'.mono g2).keep S3 k h0, ⟨fun σ4 F4 H4 ρ4 h4 a4 => ⟨F4, ρ4, a4, h4⟩, fun v σ4 F4 H4 ρ4 d4 h4 a4 hv => W.rt v σ4 F4 H4 ρ4 d4 h4 (a1.from_ a4).1 hv, fun σ4 F4 H4 ρ4 h4 a4 => W.nx σ4 F4 H4 ρ4 h4 (a1.from_ a4).1, fun σ4 F4 H4 ρ4 h4 a4 => ⟨F4, ρ4, a4, h4⟩, fun q ws σ4 F4 H4 ρ4 d4 h4 a4 h1 h2 h3 hv => W.rl q ws σ4 F4 H4 ρ4 d4 h4 (a1.from_ a4).1 h1 h2 h3 hv⟩⟩
  · have e : i = ds.length := by omega
    subst e
    exact .inl ⟨Y.stop H' (a'.c.f.trans a'.s.sub), W.nx σ' F' H' ρ' (done ρ' hP) (a1.from_ a').1⟩

/-! ### lists that are one's own: append, extend, an item stored, two items swapped -/
section
variable {es : List D} {po pa : Pos}
theorem w_app (i : Nat) (hρ : ρ[i]? = some (Slot.own ds)) (he : DE X ρ e d) (hl : ds.length < 100000) (h : p.nx (ρ.set i (.own (ds ++ [d])))) (hN : X.N[i]? = some x := by rfl)
    (hv : Vis X.env.scope x := by first | exact Or.inl rfl | exact Or.inr (Or.inl rfl) | exact Or.inr (Or.inr rfl)) (hd : (x == ("__debug__" : Str)) = false := by decide) (hcd : (x == ("__classdict__" : Str)) = false := by decide)
    (hs : starEach (e :: []) X.env = (false, eval e X.env) :: starEach [] X.env := by rfl) (hbase : attributeBase (.Name x po) "append" X.env (eval (.Name x po) X.env) = eval (.Name x po) X.env := by rfl)
    (hfew : ((backTo px (starEach (e :: []) X.env)).all (fun x => !x.1) && (backToKw px (keywordEach [] X.env)).all (fun x => x.1.isSome) && decide ((e :: []).length + ([] : List Keyword).length + (if ([] : List Keyword).isEmpty then 0 else 1) < 30)) = true := by rfl)
    (hline : (pa.endLine == px.line) = true := by rfl) (hplain : (backTo px (starEach [] X.env)).any (·.1) = false := by rfl)
    (hsw : swapsWith (.Call (.Attribute (.Name x po) "append" pa) [e] [] px) none pos.line X.env = pure false := by rfl) : W1 X P ρ (.Expr (.Call (.Attribute (.Name x po) "append" pa) [e] [] px) pos) p := fun c hc =>
  weakS (ps_expr (pe_bm PySem.F.plainAttrs_list PySem.F.slot_list_append PySem.F.type_list_append mt_append (pe_var hN hv hd hcd) (pa_cons he pa_nil hs) hbase hfew hline hs hplain) hsw) fun E σ H ⟨F, a, W⟩ => by
    obtain ⟨q, vs, h1, h2, h3, h4⟩ := a.s.own i ds hρ
    refine ⟨_, h1, .inl ⟨rfl, vs, SqL.of h2⟩, F, a.s, fun v F' H' g hv => ?_⟩
    have h2' := g.h _ _ h2
    exact ⟨q, vs, v, rfl, rfl, h2', sz_lt (by rw [dpa_len h4]; exact hl), W.nx σ F' _ _ h ((a.mono g).mutate i hρ h1 (dpa_app (dpa_ex g.f h4) (.cons hv .nil)))⟩
theorem w_ext (i : Nat) (hρ : ρ[i]? = some (Slot.own ds)) (he : DL X ρ e es) (hl : ds.length + es.length ≤ 100000) (h : p.nx (ρ.set i (.own (ds ++ es)))) (hN : X.N[i]? = some x := by rfl)
    (hv : Vis X.env.scope x := by first | exact Or.inl rfl | exact Or.inr (Or.inl rfl) | exact Or.inr (Or.inr rfl)) (hd : (x == ("__debug__" : Str)) = false := by decide) (hcd : (x == ("__classdict__" : Str)) = false := by decide)
    (hs : starEach (e :: []) X.env = (false, eval e X.env) :: starEach [] X.env := by rfl) (hbase : attributeBase (.Name x po) "extend" X.env (eval (.Name x po) X.env) = eval (.Name x po) X.env := by rfl)
    (hfew : ((backTo px (starEach (e :: []) X.env)).all (fun x => !x.1) && (backToKw px (keywordEach [] X.env)).all (fun x => x.1.isSome) && decide ((e :: []).length + ([] : List Keyword).length + (if ([] : List Keyword).isEmpty then 0 else 1) < 30)) = true := by rfl)
    (hline : (pa.endLine == px.line) = true := by rfl) (hplain : (backTo px (starEach [] X.env)).any (·.1) = false := by rfl)
    (hsw : swapsWith (.Call (.Attribute (.Name x po) "extend" pa) [e] [] px) none pos.line X.env = pure false := by rfl) : W1 X P ρ (.Expr (.Call (.Attribute (.Name x po) "extend" pa) [e] [] px) pos) p := fun c hc =>
  weakS (ps_expr (pe_bm PySem.F.plainAttrs_list PySem.F.slot_list_extend PySem.F.type_list_extend mt_extend (pe_var hN hv hd hcd) (pa_cons he pa_nil hs) hbase hfew hline hs hplain) hsw) fun E σ H ⟨F, a, W⟩ => by
    obtain ⟨q, vs, h1, h2, h3, h4⟩ := a.s.own i ds hρ
    refine ⟨_, h1, .inl ⟨rfl, vs, SqL.of h2⟩, F, a.s, fun b ws F' H' g g1 g2 g3 g4 => ?_⟩
    have h2' := g.h _ _ h2
    exact ⟨q, b, vs, ws, rfl, rfl, h2', g3, sz_of (by rw [dpa_len h4, dpa_len g4]; exact hl), W.nx σ F' _ _ h ((a.mono g).mutate i hρ h1 (dpa_app (dpa_ex g.f h4) g4))⟩
theorem ixN_nat {n k : Nat} (h : k < n) : ixN n (k : Int) = some k := by
  unfold ixN
  rw [if_pos (by omega), if_pos (by omega)]
  simp
/-- x[k] = e -/
theorem w_put (i k : Nat) {b : Expr} {kk : Int} (hρ : ρ[i]? = some (Slot.own ds)) (he : DE X ρ e d) (hb : DE X ρ b (.int kk)) (hk : kk = (k : Int)) (hl : k < ds.length) (h : p.nx (ρ.set i (.own (ds.set k d)))) (hN : X.N[i]? = some x := by rfl)
    (hv : Vis X.env.scope x := by first | exact Or.inl rfl | exact Or.inr (Or.inl rfl) | exact Or.inr (Or.inr rfl)) (hd : (x == ("__debug__" : Str)) = false := by decide) (hcd : (x == ("__classdict__" : Str)) = false := by decide)
    (ha : ∀ v, assign (.Subscript (.Name x po) b pa) X.env v = (do
      let ov ← holding [v] (eval (.Name x po) X.env)
      let iv ← holding [v, ov] (eval b X.env)
      standAt pa
      holding [v, ov, iv] (setItem ov iv v)
      release [v, ov, iv] []) := by intro _; rfl)
    (hs : swapsWithSole [.Subscript (.Name x po) b pa] e pos.line X.env = pure false := by rfl) (hw : swappedStores [.Subscript (.Name x po) b pa] e X.env = pure none := by rfl)
    (h1 : (assignEach [.Subscript (.Name x po) b pa] X.env).map (·.2) = [assign (.Subscript (.Name x po) b pa) X.env] := by rfl) : W1 X P ρ (.Assign [.Subscript (.Name x po) b pa] e pos) p := fun c hc =>
  weakS (ps_asg he (pg_sub (pe_var hN hv hd hcd) hb set_list ha) hs hw h1) fun E σ H ⟨F, a, W⟩ => ⟨F, a.s, fun v F' H' g hv => by
    have a' := a.mono g
    obtain ⟨q, vs, h1, h2, h3, h4⟩ := a'.s.own i ds hρ
    refine ⟨_, h1, F', a'.s, fun w F2 H2 g2 hw => ?_⟩
    have a2 := a'.mono g2
    exact ⟨q, vs, kk, k, rfl, dp_int hw, g2.h _ _ h2, by rw [dpa_len h4, hk]; exact ixN_nat hl, W.nx σ F2 _ _ h (a2.mutate i hρ h1 (dpa_set k (dpa_ex g2.f h4) (dp_ex g2.f hv)))⟩⟩
/-- x[j], x[k] = x[j2], x[k2] -/
theorem w_put2 (i j k : Nat) {b b2 : Expr} {jj kk : Int} {e1 e2 : Expr} {d1 d2 : D} {k1 k2 : Nat} {p2 po2 pa2 pt : Pos} (hρ : ρ[i]? = some (Slot.own ds)) (he1 : DE X ρ e1 d1) (he2 : DE X ρ e2 d2) (hb : DE X ρ b (.int jj)) (hb2 : DE X ρ b2 (.int kk)) (hj : jj = (j : Int)) (hk : kk = (k : Int)) (hjl : j < ds.length) (hkl : k < ds.length)
    (hb2' : DE X (ρ.set i (.own (ds.set j d1))) b2 (.int kk))
    (hc0 : X.calm = true) (h : p.nx (ρ.set i (.own ((ds.set j d1).set k d2)))) (hN : X.N[i]? = some x := by rfl)
    (hv : Vis X.env.scope x := by first | exact Or.inl rfl | exact Or.inr (Or.inl rfl) | exact Or.inr (Or.inr rfl)) (hd : (x == ("__debug__" : Str)) = false := by decide) (hcd : (x == ("__classdict__" : Str)) = false := by decide)
    (ha : ∀ v, assign (.Subscript (.Name x po) b pa) X.env v = (do
      let ov ← holding [v] (eval (.Name x po) X.env)
      let iv ← holding [v, ov] (eval b X.env)
      standAt pa
      holding [v, ov, iv] (setItem ov iv v)
      release [v, ov, iv] []) := by intro _; rfl)
    (ha2 : ∀ v, assign (.Subscript (.Name x po2) b2 pa2) X.env v = (do
      let ov ← holding [v] (eval (.Name x po2) X.env)
      let iv ← holding [v, ov] (eval b2 X.env)
      standAt pa2
      holding [v, ov, iv] (setItem ov iv v)
      release [v, ov, iv] []) := by intro _; rfl)
    (q1 : (assignEach (.Subscript (.Name x po) b pa :: [.Subscript (.Name x po2) b2 pa2]) X.env).map (·.2) = assign (.Subscript (.Name x po) b pa) X.env :: (assignEach [.Subscript (.Name x po2) b2 pa2] X.env).map (·.2) := by rfl)
    (q2 : (assignEach (.Subscript (.Name x po2) b2 pa2 :: []) X.env).map (·.2) = assign (.Subscript (.Name x po2) b2 pa2) X.env :: (assignEach [] X.env).map (·.2) := by rfl)
    (q3 : (assignEach (.Subscript (.Name x po) b pa :: [.Subscript (.Name x po2) b2 pa2]) X.env).length = 2 := by rfl) (q4 : (assignEach (.Subscript (.Name x po) b pa :: [.Subscript (.Name x po2) b2 pa2]) X.env).findIdx? (·.1) = none := by rfl)
    (s1 : starEach (e1 :: [e2]) X.env = (false, eval e1 X.env) :: starEach [e2] X.env := by rfl) (s2 : starEach (e2 :: []) X.env = (false, eval e2 X.env) :: starEach [] X.env := by rfl)
    (hs : swapsWithSole [.Tuple [.Subscript (.Name x po) b pa, .Subscript (.Name x po2) b2 pa2] k1 pt] (.Tuple [e1, e2] k2 p2) pos.line X.env = pure false := by rfl) (hw : swappedStores [.Tuple [.Subscript (.Name x po) b pa, .Subscript (.Name x po2) b2 pa2] k1 pt] (.Tuple [e1, e2] k2 p2) X.env = pure none := by rfl)
    (h1 : (assignEach [.Tuple [.Subscript (.Name x po) b pa, .Subscript (.Name x po2) b2 pa2] k1 pt] X.env).map (·.2) = [assign (.Tuple [.Subscript (.Name x po) b pa, .Subscript (.Name x po2) b2 pa2] k1 pt) X.env] := by rfl) :
    W1 X P ρ (.Assign [.Tuple [.Subscript (.Name x po) b pa, .Subscript (.Name x po2) b2 pa2] k1 pt] (.Tuple [e1, e2] k2 p2) pos) p := fun c hc =>
  weakS (ps_asg (pe_tup (pa_cons he1 (pa_cons he2 pa_nil s2) s1)) (pg_tup hc0 (pgs_cons (pg_sub (pe_var hN hv hd hcd) hb set_list ha) (pgs_cons (pg_sub (pe_var hN hv hd hcd) hb2' set_list ha2) pgs_nil q2) q1) q3 q4) hs hw h1) fun E σ H ⟨F, a, W⟩ => ⟨F, a.s, fun v F1 H1 g1 hv1 => ⟨F1, a.s.mono g1, fun w F2 H2 g2 hv2 => ⟨by show 2 ≤ sizeLine; decide, fun T hT => by
    have gT : Gr F2 H2 F2 (upd H2 T (.tup [v, w])) := Gr.lay g2.sub hT
    have a3 := ((a.mono g1).mono g2).mono gT
    obtain ⟨q, vs, r1, r2, r3, r4⟩ := a3.s.own i ds hρ
    refine ⟨T, _, rfl, SqT.of upd_same, rfl, v, [w], rfl, _, r1, F2, a3.s, fun u F4 H4 g4 hu => ⟨q, vs, jj, j, rfl, dp_int hu, g4.h _ _ r2, by rw [dpa_len r4, hj]; exact ixN_nat hjl, ?_⟩⟩
    have a4 := (a3.mono g4).mutate i hρ r1 (dpa_set j (dpa_ex g4.f r4) (dp_ex (g2.f.trans g4.f) hv1))
    have hρ' : (ρ.set i (.own (ds.set j d1)))[i]? = some (Slot.own (ds.set j d1)) := List.getElem?_set_self (List.getElem?_eq_some_iff.mp hρ).1
    obtain ⟨q', vs', t1, t2, t3, t4⟩ := a4.s.own i _ hρ'
    refine ⟨w, [], rfl, _, t1, F4, a4.s, fun u2 F5 H5 g5 hu2 => ⟨q', vs', kk, k, rfl, dp_int hu2, g5.h _ _ t2, by rw [dpa_len t4, List.length_set, hk]; exact ixN_nat hkl, rfl, ?_⟩⟩
    have a5 := (a4.mono g5).mutate i hρ' t1 (dpa_set k (dpa_ex g5.f t4) (dp_ex (g4.f.trans g5.f) hv2))
    rw [List.set_set] at a5
    exact W.nx σ F5 _ _ h a5⟩⟩⟩
end
/-- a name of its own read where nothing but a number, a text or a truth value comes out -/
def flatD : D → Bool
  | .none | .bool _ | .int _ | .str _ => true
  | _ => false
theorem flat_dp {K : PySem.W.Frag} {F F' : Hp} {v : V} {d : D} (hf : flatD d = true) (h : Dp K F v d) : Dp K F' v d := by
  cases h with
  | non => exact .non
  | bl b => exact .bl b
  | int i => exact .int i
  | str x => exact .str x
  | lst _ _ => cases hf
  | tup _ _ => cases hf
/-- the slot i read as data -/
theorem Sd.peek {K : PySem.W.Frag} {σ : L2.St} {F H : Hp} (s : Sd K σ F H ρ) (i : Nat) (hρ : ρ[i]? = some (Slot.own ds)) : ∃ q vs, H q = some (HO.lst vs) ∧ F q = none ∧ Sd K σ (upd F q (.lst vs)) H (ρ.set i (.dat (.list ds))) := by
  obtain ⟨q, vs, e1, e2, e3, e4⟩ := s.own i ds hρ
  have hl : i < ρ.length := (List.getElem?_eq_some_iff.mp hρ).1
  have fx : Ex F (upd F q (.lst vs)) := Ex.new e3
  refine ⟨q, vs, e2, e3, fun b o hb => ?_, by rw [List.length_set]; exact s.len, fun j d hj => ?_, fun j fs hj => ?_, fun j k fs gs x hj hk gj gk => s.dis j k fs gs x (set_own hj).1 (set_own hk).1 gj gk⟩
  · by_cases hb' : b = q
    · subst hb'
      rw [upd_same] at hb
      rw [e2]
      exact hb
    · rw [upd_ne hb'] at hb
      exact s.sub b o hb
  · by_cases hi : i = j
    · subst hi
      rw [List.getElem?_set_self hl] at hj
      cases hj
      exact ⟨_, e1, .lst (SqL.of upd_same) (dpa_ex fx e4)⟩
    · rw [List.getElem?_set_ne hi] at hj
      obtain ⟨v, f1, f2⟩ := s.dat j d hj
      exact ⟨v, f1, dp_ex fx f2⟩
  · obtain ⟨hj', hi⟩ := set_own hj
    obtain ⟨r, xs, f1, f2, f3, f4⟩ := s.own j fs hj'
    have hne : r ≠ q := fun z => hi (s.dis j i fs ds q hj' hρ (by rw [f1, z]) e1)
    exact ⟨r, xs, f1, f2, by rw [upd_ne hne]; exact f3, dpa_ex fx f4⟩
theorem e_peek (i : Nat) (hρ : ρ[i]? = some (Slot.own ds)) (hf : flatD d = true) (h : DE X (ρ.set i (.dat (.list ds))) e d) : DE X ρ e d :=
  weakE h fun σ H Q ⟨F, S, q⟩ => by
    obtain ⟨a, vs, h1, h2, S'⟩ := S.peek i hρ
    exact ⟨_, S', fun v F' H' g hv => q v F H' ⟨Ex.refl _, g.h, S.sub.trans g.h, fun _ x y => absurd x y⟩ (flat_dp hf hv)⟩
theorem t_peek {k : Bool} (i : Nat) (hρ : ρ[i]? = some (Slot.own ds)) (h : DT X (ρ.set i (.dat (.list ds))) e k) : DT X ρ e k :=
  weakT h fun σ H Q ⟨F, S, q⟩ => by
    obtain ⟨a, vs, h1, h2, S'⟩ := S.peek i hρ
    exact ⟨_, S', fun F' H' g => q F H' ⟨Ex.refl _, g.h, S.sub.trans g.h, fun _ x y => absurd x y⟩⟩
theorem dpa_flat {K : PySem.W.Frag} {F F' : Hp} : ∀ {vs : List V} {ds : List D}, ds.all flatD = true → DpAll K F vs ds → DpAll K F' vs ds
  | _, _, _, .nil => .nil
  | _, _, hf, .cons h t => by
    rw [List.all_cons, Bool.and_eq_true] at hf
    exact .cons (flat_dp hf.1 h) (dpa_flat hf.2 t)
/-- what is walked only grows by itself -/
theorem tL_peek {K : PySem.W.Frag} {es : List D} (i : Nat) (hρ : ρ[i]? = some (Slot.own ds)) (hf : es.all flatD = true) : ∀ σ H Q, tL K ρ es σ H Q → tL K (ρ.set i (.dat (.list ds))) es σ H Q := fun σ H Q ⟨F, S, q⟩ => by
  obtain ⟨a, vs, h1, h2, S'⟩ := S.peek i hρ
  refine ⟨_, S', fun b ws F' H' g g1 g2 g3 g4 => q b ws F H' ⟨Ex.refl _, g.h, S.sub.trans g.h, fun _ x y => absurd x y⟩ g1 (none_of S.sub g1) g3 (dpa_flat hf g4)⟩
theorem l_peek {es : List D} (i : Nat) (hρ : ρ[i]? = some (Slot.own ds)) (hf : es.all flatD = true) (h : DL X (ρ.set i (.dat (.list ds))) e es) : DL X ρ e es := weakE h (tL_peek i hρ hf)
theorem lc_peek {elt : Expr} {gs : List Comprehension} {scope : Scope} {p2 : Pos} {es : List D} (i : Nat) (hρ : ρ[i]? = some (Slot.own ds)) (hf : es.all flatD = true) (h : Lc X (ρ.set i (.dat (.list ds))) elt gs scope p2 es) : Lc X ρ elt gs scope p2 es :=
  ⟨l_peek i hρ hf h.e, fun j y py spos h1 h2 h3 => weakS (h.s j y py spos h1 h2 h3) fun E σ H q => tL_peek i hρ hf σ H _ q⟩
end
end Lm
set_option maxRecDepth 100000
set_option maxHeartbeats 4000000
/-! The text by places, what is asked of what the top leaves. -/
namespace Lm
open PySem PySem.Spec PyProof.Rows L2 Evl
def top (i : Nat) : Stmt := PySem.Challenge.pw_lettermend_k09_whole_wrong_pieces_found.main.body.getD i (.Pass ⟨0, 0, 0, 0⟩)
abbrev s_is_whole : Stmt := top 8
abbrev s_is_between : Stmt := top 9
abbrev s_are_between : Stmt := top 10
abbrev s_wrong_in_rising : Stmt := top 11
abbrev s_lots_of : Stmt := top 12
abbrev s_is_prime_by : Stmt := top 16
abbrev s_is_row : Stmt := top 17
abbrev s_dot : Stmt := top 18
abbrev s_led : Stmt := top 19
abbrev s_flipped : Stmt := top 20
abbrev s_mixed : Stmt := top 21
abbrev s_multiplied : Stmt := top 22
abbrev s_power_by : Stmt := top 23
abbrev s_powers_by : Stmt := top 24
abbrev s_inverse_by : Stmt := top 25
abbrev s_row_less : Stmt := top 26
abbrev s_stairs : Stmt := top 27
abbrev s_answer_by : Stmt := top 28
abbrev s_roomy_points : Stmt := top 33
abbrev s_are_counts : Stmt := top 34
abbrev s_is_scheme_by : Stmt := top 35
abbrev s_is_lettered : Stmt := top 36
abbrev s_points_by : Stmt := top 37
abbrev s_room_by : Stmt := top 38
abbrev s_size_by : Stmt := top 39
abbrev s_line_by : Stmt := top 40
abbrev s_short_by : Stmt := top 41
abbrev s_last_power : Stmt := top 42
abbrev s_check_message : Stmt := top 44
abbrev s_is_piece : Stmt := top 45
abbrev s_check_pieces : Stmt := top 46
abbrev s_are_so_many : Stmt := top 47
abbrev s_check_shelves : Stmt := top 48
abbrev s_check_scheme : Stmt := top 50
abbrev s_solved : Stmt := top 52
abbrev s_lettered_message : Stmt := top 53
abbrev s_parted : Stmt := top 54
abbrev s_table_of_rows : Stmt := top 55
abbrev s_roomy_message : Stmt := top 56
abbrev s_message_told : Stmt := top 57
abbrev s_mirrored_spots : Stmt := top 59
abbrev s_spots_by : Stmt := top 60
abbrev s_form_at : Stmt := top 61
abbrev s_forms_by : Stmt := top 62
abbrev s_piece_by : Stmt := top 63
abbrev s_pieces_by : Stmt := top 64
abbrev s_message_by : Stmt := top 65
abbrev s_unlike_pieces : Stmt := top 67
abbrev s_read_sure_by : Stmt := top 68
abbrev s_check_wrong : Stmt := top 71
abbrev s_read_sure : Stmt := top 72
abbrev s_pieces_of : Stmt := top 74
abbrev s_law_well : Stmt := top 76
abbrev s_law_draw : Stmt := top 77
abbrev s_law_any_of : Stmt := top 78
abbrev s_law_unlike : Stmt := top 79
abbrev s_law_primes : Stmt := top 80
abbrev s_law_line : Stmt := top 81
abbrev s_law_dot : Stmt := top 82
abbrev s_law_climb : Stmt := top 83
abbrev s_law_invert : Stmt := top 84
abbrev s_law_stairs : Stmt := top 85
abbrev s_law_rank : Stmt := top 86
abbrev s_law_spots : Stmt := top 87
abbrev s_law_sure_plan : Stmt := top 88
abbrev s_law_turned : Stmt := top 89
abbrev s_law_grid : Stmt := top 90
abbrev s_law_many : Stmt := top 91
abbrev s_law_wide : Stmt := top 92
abbrev s_law_lines : Stmt := top 93
abbrev s_law_shares : Stmt := top 94
abbrev s_law_makings : Stmt := top 95
abbrev s_law_wrong_one : Stmt := top 96
abbrev s_law_nought : Stmt := top 97
abbrev s_law_is_refused : Stmt := top 98
abbrev s_law_twice_right : Stmt := top 99
abbrev s_law_right : Stmt := top 100
abbrev s_law : Stmt := top 101
def dd (x : Str) (st : Stmt) : He.DefD := ⟨(x, none), x, x, defArgs st, defBody st, defScope st, [], []⟩
def fn : List He.DefD := [dd "is_whole" s_is_whole, dd "is_between" s_is_between, dd "are_between" s_are_between, dd "wrong_in_rising" s_wrong_in_rising, dd "lots_of" s_lots_of, dd "is_prime_by" s_is_prime_by, dd "is_row" s_is_row, dd "dot" s_dot, dd "led" s_led, dd "flipped" s_flipped, dd "mixed" s_mixed, dd "multiplied" s_multiplied, dd "power_by" s_power_by, dd "powers_by" s_powers_by, dd "inverse_by" s_inverse_by, dd "row_less" s_row_less, dd "stairs" s_stairs, dd "answer_by" s_answer_by, dd "roomy_points" s_roomy_points, dd "are_counts" s_are_counts, dd "is_scheme_by" s_is_scheme_by, dd "is_lettered" s_is_lettered, dd "points_by" s_points_by, dd "room_by" s_room_by, dd "size_by" s_size_by, dd "line_by" s_line_by, dd "short_by" s_short_by, dd "last_power" s_last_power, dd "check_message" s_check_message, dd "is_piece" s_is_piece, dd "check_pieces" s_check_pieces, dd "are_so_many" s_are_so_many, dd "check_shelves" s_check_shelves, dd "check_scheme" s_check_scheme, dd "solved" s_solved, dd "lettered_message" s_lettered_message, dd "parted" s_parted, dd "table_of_rows" s_table_of_rows, dd "roomy_message" s_roomy_message, dd "message_told" s_message_told, dd "mirrored_spots" s_mirrored_spots, dd "spots_by" s_spots_by, dd "form_at" s_form_at, dd "forms_by" s_forms_by, dd "piece_by" s_piece_by, dd "pieces_by" s_pieces_by, dd "message_by" s_message_by, dd "unlike_pieces" s_unlike_pieces, dd "read_sure_by" s_read_sure_by, dd "check_wrong" s_check_wrong, dd "read_sure" s_read_sure, dd "pieces_of" s_pieces_of, dd "_law_well" s_law_well, dd "_law_draw" s_law_draw, dd "_law_any_of" s_law_any_of, dd "_law_unlike" s_law_unlike, dd "_law_primes" s_law_primes, dd "_law_line" s_law_line, dd "_law_dot" s_law_dot, dd "_law_climb" s_law_climb, dd "_law_invert" s_law_invert, dd "_law_stairs" s_law_stairs, dd "_law_rank" s_law_rank, dd "_law_spots" s_law_spots, dd "_law_sure_plan" s_law_sure_plan, dd "_law_turned" s_law_turned, dd "_law_grid" s_law_grid, dd "_law_many" s_law_many, dd "_law_wide" s_law_wide, dd "_law_lines" s_law_lines, dd "_law_shares" s_law_shares, dd "_law_makings" s_law_makings, dd "_law_wrong_one" s_law_wrong_one, dd "_law_nought" s_law_nought, dd "_law_is_refused" s_law_is_refused, dd "_law_twice_right" s_law_twice_right, dd "_law_right" s_law_right, dd "law" s_law]
def fa : List He.Fa := ([.glo "is_whole", .glo "is_between", .glo "are_between", .glo "wrong_in_rising", .glo "lots_of", .glo "is_prime_by", .glo "is_row", .glo "dot", .glo "led", .glo "flipped", .glo "mixed", .glo "multiplied", .glo "power_by", .glo "powers_by", .glo "inverse_by", .glo "row_less", .glo "stairs", .glo "answer_by", .glo "roomy_points", .glo "are_counts", .glo "is_scheme_by", .glo "is_lettered", .glo "points_by", .glo "room_by"] : List He.Fa) ++ ([.glo "size_by", .glo "line_by", .glo "short_by", .glo "last_power", .glo "check_message", .glo "is_piece", .glo "check_pieces", .glo "are_so_many", .glo "check_shelves", .glo "check_scheme", .glo "solved", .glo "lettered_message", .glo "parted", .glo "table_of_rows", .glo "roomy_message", .glo "message_told", .glo "mirrored_spots", .glo "spots_by", .glo "form_at", .glo "forms_by", .glo "piece_by", .glo "pieces_by", .glo "message_by", .glo "unlike_pieces"] : List He.Fa) ++ ([.glo "read_sure_by", .glo "check_wrong", .glo "read_sure", .glo "pieces_of", .glo "_law_well", .glo "_law_draw", .glo "_law_any_of", .glo "_law_unlike", .glo "_law_primes", .glo "_law_line", .glo "_law_dot", .glo "_law_climb", .glo "_law_invert", .glo "_law_stairs", .glo "_law_rank", .glo "_law_spots", .glo "_law_sure_plan", .glo "_law_turned", .glo "_law_grid", .glo "_law_many", .glo "_law_wide", .glo "_law_lines", .glo "_law_shares", .glo "_law_makings"] : List He.Fa) ++ ([.glo "_law_wrong_one", .glo "_law_nought", .glo "_law_is_refused", .glo "_law_twice_right", .glo "_law_right", .glo "law", .int "LEAST_PRIME" 11, .int "MOST_PRIME" 97, .int "MOST_SHELVES" 10, .str "LETTERS" "letters", .str "ROOM" "room", .int "MOST_WRONG" 4, .free "abs", .free "all", .free "any", .free "bool", .free "divmod", .free "enumerate", .free "int", .free "isinstance", .free "len", .free "list", .free "max", .free "min"] : List He.Fa) ++ ([.free "range", .free "repr", .free "sorted", .free "str", .free "sum", .free "tuple", .free "zip"] : List He.Fa)
/-- what the top has left -/
structure Txt (K : PySem.W.Frag) (mg : Str → Option Value) : Prop where
  c : He.SaysD fa fn K
  h : ∃ h : Heap, K.In h ∧ h.Ns mainGlobals mg
theorem Txt.fd {K : PySem.W.Frag} {mg : Str → Option Value} (T : Txt K mg) {x : Str} {st : Stmt} (i j : Nat) (hi : fn[i]? = some (dd x st) := by rfl) (hj : fa[j]? = some (.glo x) := by rfl) :
    mg x = some (.ref (He.ga K x)) ∧ ∃ fd, FunD K x x (defArgs st) (defBody st) (defScope st) [] [] (He.ga K x) fd := by
  obtain ⟨h, X, G⟩ := T.h
  exact ⟨He.glo_ok X G (T.c.fact j hj), T.c.def_ i hi⟩
theorem Txt.free {K : PySem.W.Frag} {mg : Str → Option Value} (T : Txt K mg) {x : Str} (j : Nat) (hj : fa[j]? = some (.free x) := by rfl) : mg x = none := by
  obtain ⟨h, X, G⟩ := T.h
  exact He.free_ok X G (T.c.fact j hj)
theorem Txt.int {K : PySem.W.Frag} {mg : Str → Option Value} (T : Txt K mg) {x : Str} {i : Int} (j : Nat) (hj : fa[j]? = some (.int x i) := by rfl) : ∃ t, mg x = some (.int i t) := by
  obtain ⟨h, X, G⟩ := T.h
  exact He.int_ok X G (T.c.fact j hj)
theorem Txt.str {K : PySem.W.Frag} {mg : Str → Option Value} (T : Txt K mg) {x z : Str} (j : Nat) (hj : fa[j]? = some (.str x z) := by rfl) : ∃ t, mg x = some (.str z t) := by
  obtain ⟨h, X, G⟩ := T.h
  exact He.str_ok X G (T.c.fact j hj)
theorem Txt.n_abs {K : PySem.W.Frag} {mg : Str → Option Value} (T : Txt K mg) : mg "abs" = none := T.free 84
theorem Txt.n_all {K : PySem.W.Frag} {mg : Str → Option Value} (T : Txt K mg) : mg "all" = none := T.free 85
theorem Txt.n_any {K : PySem.W.Frag} {mg : Str → Option Value} (T : Txt K mg) : mg "any" = none := T.free 86
theorem Txt.n_bool {K : PySem.W.Frag} {mg : Str → Option Value} (T : Txt K mg) : mg "bool" = none := T.free 87
theorem Txt.n_divmod {K : PySem.W.Frag} {mg : Str → Option Value} (T : Txt K mg) : mg "divmod" = none := T.free 88
theorem Txt.n_enumerate {K : PySem.W.Frag} {mg : Str → Option Value} (T : Txt K mg) : mg "enumerate" = none := T.free 89
theorem Txt.n_int {K : PySem.W.Frag} {mg : Str → Option Value} (T : Txt K mg) : mg "int" = none := T.free 90
theorem Txt.n_isinstance {K : PySem.W.Frag} {mg : Str → Option Value} (T : Txt K mg) : mg "isinstance" = none := T.free 91
theorem Txt.n_len {K : PySem.W.Frag} {mg : Str → Option Value} (T : Txt K mg) : mg "len" = none := T.free 92
theorem Txt.n_list {K : PySem.W.Frag} {mg : Str → Option Value} (T : Txt K mg) : mg "list" = none := T.free 93
theorem Txt.n_max {K : PySem.W.Frag} {mg : Str → Option Value} (T : Txt K mg) : mg "max" = none := T.free 94
theorem Txt.n_min {K : PySem.W.Frag} {mg : Str → Option Value} (T : Txt K mg) : mg "min" = none := T.free 95
theorem Txt.n_range {K : PySem.W.Frag} {mg : Str → Option Value} (T : Txt K mg) : mg "range" = none := T.free 96
theorem Txt.n_repr {K : PySem.W.Frag} {mg : Str → Option Value} (T : Txt K mg) : mg "repr" = none := T.free 97
theorem Txt.n_sorted {K : PySem.W.Frag} {mg : Str → Option Value} (T : Txt K mg) : mg "sorted" = none := T.free 98
theorem Txt.n_str {K : PySem.W.Frag} {mg : Str → Option Value} (T : Txt K mg) : mg "str" = none := T.free 99
theorem Txt.n_sum {K : PySem.W.Frag} {mg : Str → Option Value} (T : Txt K mg) : mg "sum" = none := T.free 100
theorem Txt.n_tuple {K : PySem.W.Frag} {mg : Str → Option Value} (T : Txt K mg) : mg "tuple" = none := T.free 101
theorem Txt.n_zip {K : PySem.W.Frag} {mg : Str → Option Value} (T : Txt K mg) : mg "zip" = none := T.free 102
theorem Txt.n_LEAST_PRIME {K : PySem.W.Frag} {mg : Str → Option Value} (T : Txt K mg) : ∃ t, mg "LEAST_PRIME" = some (.int 11 t) := T.int 78
theorem Txt.n_MOST_PRIME {K : PySem.W.Frag} {mg : Str → Option Value} (T : Txt K mg) : ∃ t, mg "MOST_PRIME" = some (.int 97 t) := T.int 79
theorem Txt.n_MOST_SHELVES {K : PySem.W.Frag} {mg : Str → Option Value} (T : Txt K mg) : ∃ t, mg "MOST_SHELVES" = some (.int 10 t) := T.int 80
theorem Txt.n_LETTERS {K : PySem.W.Frag} {mg : Str → Option Value} (T : Txt K mg) : ∃ t, mg "LETTERS" = some (.str "letters" t) := T.str 81
theorem Txt.n_ROOM {K : PySem.W.Frag} {mg : Str → Option Value} (T : Txt K mg) : ∃ t, mg "ROOM" = some (.str "room" t) := T.str 82
theorem Txt.n_MOST_WRONG {K : PySem.W.Frag} {mg : Str → Option Value} (T : Txt K mg) : ∃ t, mg "MOST_WRONG" = some (.int 4 t) := T.int 83
abbrev P_is_whole : List Str := ["value"]
abbrev N_is_whole : List Str := ["value"]
theorem sc_is_whole : FnScope N_is_whole P_is_whole (defScope s_is_whole) := ⟨rfl, rfl, rfl, by decide +kernel, rfl, by decide +kernel, by decide +kernel⟩
theorem Txt.f_is_whole {K : PySem.W.Frag} {mg : Str → Option Value} (T : Txt K mg) : mg "is_whole" = some (.ref (He.ga K "is_whole")) ∧ ∃ fd, FunD K "is_whole" "is_whole" (defArgs s_is_whole) (defBody s_is_whole) (defScope s_is_whole) [] [] (He.ga K "is_whole") fd := T.fd 0 0
abbrev P_is_between : List Str := ["value", "low", "high"]
abbrev N_is_between : List Str := ["value", "low", "high"]
theorem sc_is_between : FnScope N_is_between P_is_between (defScope s_is_between) := ⟨rfl, rfl, rfl, by decide +kernel, rfl, by decide +kernel, by decide +kernel⟩
theorem Txt.f_is_between {K : PySem.W.Frag} {mg : Str → Option Value} (T : Txt K mg) : mg "is_between" = some (.ref (He.ga K "is_between")) ∧ ∃ fd, FunD K "is_between" "is_between" (defArgs s_is_between) (defBody s_is_between) (defScope s_is_between) [] [] (He.ga K "is_between") fd := T.fd 1 1
abbrev P_are_between : List Str := ["value", "many", "low", "high"]
abbrev N_are_between : List Str := ["value", "many", "low", "high", "each"]
theorem sc_are_between : FnScope N_are_between P_are_between (defScope s_are_between) := ⟨rfl, rfl, rfl, by decide +kernel, rfl, by decide +kernel, by decide +kernel⟩
theorem Txt.f_are_between {K : PySem.W.Frag} {mg : Str → Option Value} (T : Txt K mg) : mg "are_between" = some (.ref (He.ga K "are_between")) ∧ ∃ fd, FunD K "are_between" "are_between" (defArgs s_are_between) (defBody s_are_between) (defScope s_are_between) [] [] (He.ga K "are_between") fd := T.fd 2 2
abbrev P_wrong_in_rising : List Str := ["value", "low", "high"]
abbrev N_wrong_in_rising : List Str := ["value", "low", "high", "index", "each"]
theorem sc_wrong_in_rising : FnScope N_wrong_in_rising P_wrong_in_rising (defScope s_wrong_in_rising) := ⟨rfl, rfl, rfl, by decide +kernel, rfl, by decide +kernel, by decide +kernel⟩
theorem Txt.f_wrong_in_rising {K : PySem.W.Frag} {mg : Str → Option Value} (T : Txt K mg) : mg "wrong_in_rising" = some (.ref (He.ga K "wrong_in_rising")) ∧ ∃ fd, FunD K "wrong_in_rising" "wrong_in_rising" (defArgs s_wrong_in_rising) (defBody s_wrong_in_rising) (defScope s_wrong_in_rising) [] [] (He.ga K "wrong_in_rising") fd := T.fd 3 3
abbrev P_lots_of : List Str := ["many", "size"]
abbrev N_lots_of : List Str := ["many", "size", "found", "_", "lot", "at"]
theorem sc_lots_of : FnScope N_lots_of P_lots_of (defScope s_lots_of) := ⟨rfl, rfl, rfl, by decide +kernel, rfl, by decide +kernel, by decide +kernel⟩
theorem Txt.f_lots_of {K : PySem.W.Frag} {mg : Str → Option Value} (T : Txt K mg) : mg "lots_of" = some (.ref (He.ga K "lots_of")) ∧ ∃ fd, FunD K "lots_of" "lots_of" (defArgs s_lots_of) (defBody s_lots_of) (defScope s_lots_of) [] [] (He.ga K "lots_of") fd := T.fd 4 4
abbrev P_is_prime_by : List Str := ["value"]
abbrev N_is_prime_by : List Str := ["value", "each"]
theorem sc_is_prime_by : FnScope N_is_prime_by P_is_prime_by (defScope s_is_prime_by) := ⟨rfl, rfl, rfl, by decide +kernel, rfl, by decide +kernel, by decide +kernel⟩
theorem Txt.f_is_prime_by {K : PySem.W.Frag} {mg : Str → Option Value} (T : Txt K mg) : mg "is_prime_by" = some (.ref (He.ga K "is_prime_by")) ∧ ∃ fd, FunD K "is_prime_by" "is_prime_by" (defArgs s_is_prime_by) (defBody s_is_prime_by) (defScope s_is_prime_by) [] [] (He.ga K "is_prime_by") fd := T.fd 5 5
abbrev P_is_row : List Str := ["prime", "value", "many"]
abbrev N_is_row : List Str := ["prime", "value", "many"]
theorem sc_is_row : FnScope N_is_row P_is_row (defScope s_is_row) := ⟨rfl, rfl, rfl, by decide +kernel, rfl, by decide +kernel, by decide +kernel⟩
theorem Txt.f_is_row {K : PySem.W.Frag} {mg : Str → Option Value} (T : Txt K mg) : mg "is_row" = some (.ref (He.ga K "is_row")) ∧ ∃ fd, FunD K "is_row" "is_row" (defArgs s_is_row) (defBody s_is_row) (defScope s_is_row) [] [] (He.ga K "is_row") fd := T.fd 6 6
abbrev P_dot : List Str := ["prime", "one", "two"]
abbrev N_dot : List Str := ["prime", "one", "two", "here", "there"]
theorem sc_dot : FnScope N_dot P_dot (defScope s_dot) := ⟨rfl, rfl, rfl, by decide +kernel, rfl, by decide +kernel, by decide +kernel⟩
theorem Txt.f_dot {K : PySem.W.Frag} {mg : Str → Option Value} (T : Txt K mg) : mg "dot" = some (.ref (He.ga K "dot")) ∧ ∃ fd, FunD K "dot" "dot" (defArgs s_dot) (defBody s_dot) (defScope s_dot) [] [] (He.ga K "dot") fd := T.fd 7 7
abbrev P_led : List Str := ["prime", "rows", "row"]
abbrev N_led : List Str := ["prime", "rows", "row", "each"]
theorem sc_led : FnScope N_led P_led (defScope s_led) := ⟨rfl, rfl, rfl, by decide +kernel, rfl, by decide +kernel, by decide +kernel⟩
theorem Txt.f_led {K : PySem.W.Frag} {mg : Str → Option Value} (T : Txt K mg) : mg "led" = some (.ref (He.ga K "led")) ∧ ∃ fd, FunD K "led" "led" (defArgs s_led) (defBody s_led) (defScope s_led) [] [] (He.ga K "led") fd := T.fd 8 8
abbrev P_flipped : List Str := ["rows", "many"]
abbrev N_flipped : List Str := ["rows", "many", "at", "row"]
theorem sc_flipped : FnScope N_flipped P_flipped (defScope s_flipped) := ⟨rfl, rfl, rfl, by decide +kernel, rfl, by decide +kernel, by decide +kernel⟩
theorem Txt.f_flipped {K : PySem.W.Frag} {mg : Str → Option Value} (T : Txt K mg) : mg "flipped" = some (.ref (He.ga K "flipped")) ∧ ∃ fd, FunD K "flipped" "flipped" (defArgs s_flipped) (defBody s_flipped) (defScope s_flipped) [] [] (He.ga K "flipped") fd := T.fd 9 9
abbrev P_mixed : List Str := ["prime", "rows", "numbers", "many"]
abbrev N_mixed : List Str := ["prime", "rows", "numbers", "many"]
theorem sc_mixed : FnScope N_mixed P_mixed (defScope s_mixed) := ⟨rfl, rfl, rfl, by decide +kernel, rfl, by decide +kernel, by decide +kernel⟩
theorem Txt.f_mixed {K : PySem.W.Frag} {mg : Str → Option Value} (T : Txt K mg) : mg "mixed" = some (.ref (He.ga K "mixed")) ∧ ∃ fd, FunD K "mixed" "mixed" (defArgs s_mixed) (defBody s_mixed) (defScope s_mixed) [] [] (He.ga K "mixed") fd := T.fd 10 10
abbrev P_multiplied : List Str := ["prime", "one", "two", "many"]
abbrev N_multiplied : List Str := ["prime", "one", "two", "many", "row"]
theorem sc_multiplied : FnScope N_multiplied P_multiplied (defScope s_multiplied) := ⟨rfl, rfl, rfl, by decide +kernel, rfl, by decide +kernel, by decide +kernel⟩
theorem Txt.f_multiplied {K : PySem.W.Frag} {mg : Str → Option Value} (T : Txt K mg) : mg "multiplied" = some (.ref (He.ga K "multiplied")) ∧ ∃ fd, FunD K "multiplied" "multiplied" (defArgs s_multiplied) (defBody s_multiplied) (defScope s_multiplied) [] [] (He.ga K "multiplied") fd := T.fd 11 11
abbrev P_power_by : List Str := ["prime", "number", "many"]
abbrev N_power_by : List Str := ["prime", "number", "many", "found", "_"]
theorem sc_power_by : FnScope N_power_by P_power_by (defScope s_power_by) := ⟨rfl, rfl, rfl, by decide +kernel, rfl, by decide +kernel, by decide +kernel⟩
theorem Txt.f_power_by {K : PySem.W.Frag} {mg : Str → Option Value} (T : Txt K mg) : mg "power_by" = some (.ref (He.ga K "power_by")) ∧ ∃ fd, FunD K "power_by" "power_by" (defArgs s_power_by) (defBody s_power_by) (defScope s_power_by) [] [] (He.ga K "power_by") fd := T.fd 12 12
abbrev P_powers_by : List Str := ["prime", "number", "many"]
abbrev N_powers_by : List Str := ["prime", "number", "many", "at"]
theorem sc_powers_by : FnScope N_powers_by P_powers_by (defScope s_powers_by) := ⟨rfl, rfl, rfl, by decide +kernel, rfl, by decide +kernel, by decide +kernel⟩
theorem Txt.f_powers_by {K : PySem.W.Frag} {mg : Str → Option Value} (T : Txt K mg) : mg "powers_by" = some (.ref (He.ga K "powers_by")) ∧ ∃ fd, FunD K "powers_by" "powers_by" (defArgs s_powers_by) (defBody s_powers_by) (defScope s_powers_by) [] [] (He.ga K "powers_by") fd := T.fd 13 13
abbrev P_inverse_by : List Str := ["prime", "number"]
abbrev N_inverse_by : List Str := ["prime", "number", "each"]
theorem sc_inverse_by : FnScope N_inverse_by P_inverse_by (defScope s_inverse_by) := ⟨rfl, rfl, rfl, by decide +kernel, rfl, by decide +kernel, by decide +kernel⟩
theorem Txt.f_inverse_by {K : PySem.W.Frag} {mg : Str → Option Value} (T : Txt K mg) : mg "inverse_by" = some (.ref (He.ga K "inverse_by")) ∧ ∃ fd, FunD K "inverse_by" "inverse_by" (defArgs s_inverse_by) (defBody s_inverse_by) (defScope s_inverse_by) [] [] (He.ga K "inverse_by") fd := T.fd 14 14
abbrev P_row_less : List Str := ["prime", "one", "two", "many"]
abbrev N_row_less : List Str := ["prime", "one", "two", "many", "here", "there"]
theorem sc_row_less : FnScope N_row_less P_row_less (defScope s_row_less) := ⟨rfl, rfl, rfl, by decide +kernel, rfl, by decide +kernel, by decide +kernel⟩
theorem Txt.f_row_less {K : PySem.W.Frag} {mg : Str → Option Value} (T : Txt K mg) : mg "row_less" = some (.ref (He.ga K "row_less")) ∧ ∃ fd, FunD K "row_less" "row_less" (defArgs s_row_less) (defBody s_row_less) (defScope s_row_less) [] [] (He.ga K "row_less") fd := T.fd 15 15
abbrev P_stairs : List Str := ["prime", "rows", "width"]
abbrev N_stairs : List Str := ["prime", "rows", "width", "found", "steps", "place", "here", "spot", "by", "lead", "row", "at", "each"]
theorem sc_stairs : FnScope N_stairs P_stairs (defScope s_stairs) := ⟨rfl, rfl, rfl, by decide +kernel, rfl, by decide +kernel, by decide +kernel⟩
theorem Txt.f_stairs {K : PySem.W.Frag} {mg : Str → Option Value} (T : Txt K mg) : mg "stairs" = some (.ref (He.ga K "stairs")) ∧ ∃ fd, FunD K "stairs" "stairs" (defArgs s_stairs) (defBody s_stairs) (defScope s_stairs) [] [] (He.ga K "stairs") fd := T.fd 16 16
abbrev P_answer_by : List Str := ["prime", "rows", "right", "width"]
abbrev N_answer_by : List Str := ["prime", "rows", "right", "width", "found", "steps", "row", "number"]
theorem sc_answer_by : FnScope N_answer_by P_answer_by (defScope s_answer_by) := ⟨rfl, rfl, rfl, by decide +kernel, rfl, by decide +kernel, by decide +kernel⟩
theorem Txt.f_answer_by {K : PySem.W.Frag} {mg : Str → Option Value} (T : Txt K mg) : mg "answer_by" = some (.ref (He.ga K "answer_by")) ∧ ∃ fd, FunD K "answer_by" "answer_by" (defArgs s_answer_by) (defBody s_answer_by) (defScope s_answer_by) [] [] (He.ga K "answer_by") fd := T.fd 17 17
abbrev P_roomy_points : List Str := ["prime", "many"]
abbrev N_roomy_points : List Str := ["prime", "many", "powers", "number", "at", "power"]
theorem sc_roomy_points : FnScope N_roomy_points P_roomy_points (defScope s_roomy_points) := ⟨rfl, rfl, rfl, by decide +kernel, rfl, by decide +kernel, by decide +kernel⟩
theorem Txt.f_roomy_points {K : PySem.W.Frag} {mg : Str → Option Value} (T : Txt K mg) : mg "roomy_points" = some (.ref (He.ga K "roomy_points")) ∧ ∃ fd, FunD K "roomy_points" "roomy_points" (defArgs s_roomy_points) (defBody s_roomy_points) (defScope s_roomy_points) [] [] (He.ga K "roomy_points") fd := T.fd 18 18
abbrev P_are_counts : List Str := ["way", "shelves", "parts", "helpers"]
abbrev N_are_counts : List Str := ["way", "shelves", "parts", "helpers"]
theorem sc_are_counts : FnScope N_are_counts P_are_counts (defScope s_are_counts) := ⟨rfl, rfl, rfl, by decide +kernel, rfl, by decide +kernel, by decide +kernel⟩
theorem Txt.f_are_counts {K : PySem.W.Frag} {mg : Str → Option Value} (T : Txt K mg) : mg "are_counts" = some (.ref (He.ga K "are_counts")) ∧ ∃ fd, FunD K "are_counts" "are_counts" (defArgs s_are_counts) (defBody s_are_counts) (defScope s_are_counts) [] [] (He.ga K "are_counts") fd := T.fd 19 19
abbrev P_is_scheme_by : List Str := ["value"]
abbrev N_is_scheme_by : List Str := ["value", "prime", "way", "shelves", "parts", "helpers"]
theorem sc_is_scheme_by : FnScope N_is_scheme_by P_is_scheme_by (defScope s_is_scheme_by) := ⟨rfl, rfl, rfl, by decide +kernel, rfl, by decide +kernel, by decide +kernel⟩
theorem Txt.f_is_scheme_by {K : PySem.W.Frag} {mg : Str → Option Value} (T : Txt K mg) : mg "is_scheme_by" = some (.ref (He.ga K "is_scheme_by")) ∧ ∃ fd, FunD K "is_scheme_by" "is_scheme_by" (defArgs s_is_scheme_by) (defBody s_is_scheme_by) (defScope s_is_scheme_by) [] [] (He.ga K "is_scheme_by") fd := T.fd 20 20
abbrev P_is_lettered : List Str := ["scheme"]
abbrev N_is_lettered : List Str := ["scheme"]
theorem sc_is_lettered : FnScope N_is_lettered P_is_lettered (defScope s_is_lettered) := ⟨rfl, rfl, rfl, by decide +kernel, rfl, by decide +kernel, by decide +kernel⟩
theorem Txt.f_is_lettered {K : PySem.W.Frag} {mg : Str → Option Value} (T : Txt K mg) : mg "is_lettered" = some (.ref (He.ga K "is_lettered")) ∧ ∃ fd, FunD K "is_lettered" "is_lettered" (defArgs s_is_lettered) (defBody s_is_lettered) (defScope s_is_lettered) [] [] (He.ga K "is_lettered") fd := T.fd 21 21
abbrev P_points_by : List Str := ["scheme"]
abbrev N_points_by : List Str := ["scheme", "prime", "_", "shelves", "parts"]
theorem sc_points_by : FnScope N_points_by P_points_by (defScope s_points_by) := ⟨rfl, rfl, rfl, by decide +kernel, rfl, by decide +kernel, by decide +kernel⟩
theorem Txt.f_points_by {K : PySem.W.Frag} {mg : Str → Option Value} (T : Txt K mg) : mg "points_by" = some (.ref (He.ga K "points_by")) ∧ ∃ fd, FunD K "points_by" "points_by" (defArgs s_points_by) (defBody s_points_by) (defScope s_points_by) [] [] (He.ga K "points_by") fd := T.fd 22 22
abbrev P_room_by : List Str := ["scheme"]
abbrev N_room_by : List Str := ["scheme"]
theorem sc_room_by : FnScope N_room_by P_room_by (defScope s_room_by) := ⟨rfl, rfl, rfl, by decide +kernel, rfl, by decide +kernel, by decide +kernel⟩
theorem Txt.f_room_by {K : PySem.W.Frag} {mg : Str → Option Value} (T : Txt K mg) : mg "room_by" = some (.ref (He.ga K "room_by")) ∧ ∃ fd, FunD K "room_by" "room_by" (defArgs s_room_by) (defBody s_room_by) (defScope s_room_by) [] [] (He.ga K "room_by") fd := T.fd 23 23
abbrev P_size_by : List Str := ["scheme"]
abbrev N_size_by : List Str := ["scheme", "parts", "helpers"]
theorem sc_size_by : FnScope N_size_by P_size_by (defScope s_size_by) := ⟨rfl, rfl, rfl, by decide +kernel, rfl, by decide +kernel, by decide +kernel⟩
theorem Txt.f_size_by {K : PySem.W.Frag} {mg : Str → Option Value} (T : Txt K mg) : mg "size_by" = some (.ref (He.ga K "size_by")) ∧ ∃ fd, FunD K "size_by" "size_by" (defArgs s_size_by) (defBody s_size_by) (defScope s_size_by) [] [] (He.ga K "size_by") fd := T.fd 24 24
abbrev P_line_by : List Str := ["scheme", "shelf"]
abbrev N_line_by : List Str := ["scheme", "shelf"]
theorem sc_line_by : FnScope N_line_by P_line_by (defScope s_line_by) := ⟨rfl, rfl, rfl, by decide +kernel, rfl, by decide +kernel, by decide +kernel⟩
theorem Txt.f_line_by {K : PySem.W.Frag} {mg : Str → Option Value} (T : Txt K mg) : mg "line_by" = some (.ref (He.ga K "line_by")) ∧ ∃ fd, FunD K "line_by" "line_by" (defArgs s_line_by) (defBody s_line_by) (defScope s_line_by) [] [] (He.ga K "line_by") fd := T.fd 25 25
abbrev P_short_by : List Str := ["scheme", "shelf"]
abbrev N_short_by : List Str := ["scheme", "shelf"]
theorem sc_short_by : FnScope N_short_by P_short_by (defScope s_short_by) := ⟨rfl, rfl, rfl, by decide +kernel, rfl, by decide +kernel, by decide +kernel⟩
theorem Txt.f_short_by {K : PySem.W.Frag} {mg : Str → Option Value} (T : Txt K mg) : mg "short_by" = some (.ref (He.ga K "short_by")) ∧ ∃ fd, FunD K "short_by" "short_by" (defArgs s_short_by) (defBody s_short_by) (defScope s_short_by) [] [] (He.ga K "short_by") fd := T.fd 26 26
abbrev P_last_power : List Str := ["scheme", "shelf"]
abbrev N_last_power : List Str := ["scheme", "shelf"]
theorem sc_last_power : FnScope N_last_power P_last_power (defScope s_last_power) := ⟨rfl, rfl, rfl, by decide +kernel, rfl, by decide +kernel, by decide +kernel⟩
theorem Txt.f_last_power {K : PySem.W.Frag} {mg : Str → Option Value} (T : Txt K mg) : mg "last_power" = some (.ref (He.ga K "last_power")) ∧ ∃ fd, FunD K "last_power" "last_power" (defArgs s_last_power) (defBody s_last_power) (defScope s_last_power) [] [] (He.ga K "last_power") fd := T.fd 27 27
abbrev P_check_message : List Str := ["scheme", "value"]
abbrev N_check_message : List Str := ["scheme", "value", "index", "each"]
theorem sc_check_message : FnScope N_check_message P_check_message (defScope s_check_message) := ⟨rfl, rfl, rfl, by decide +kernel, rfl, by decide +kernel, by decide +kernel⟩
theorem Txt.f_check_message {K : PySem.W.Frag} {mg : Str → Option Value} (T : Txt K mg) : mg "check_message" = some (.ref (He.ga K "check_message")) ∧ ∃ fd, FunD K "check_message" "check_message" (defArgs s_check_message) (defBody s_check_message) (defScope s_check_message) [] [] (He.ga K "check_message") fd := T.fd 28 28
abbrev P_is_piece : List Str := ["scheme", "value"]
abbrev N_is_piece : List Str := ["scheme", "value"]
theorem sc_is_piece : FnScope N_is_piece P_is_piece (defScope s_is_piece) := ⟨rfl, rfl, rfl, by decide +kernel, rfl, by decide +kernel, by decide +kernel⟩
theorem Txt.f_is_piece {K : PySem.W.Frag} {mg : Str → Option Value} (T : Txt K mg) : mg "is_piece" = some (.ref (He.ga K "is_piece")) ∧ ∃ fd, FunD K "is_piece" "is_piece" (defArgs s_is_piece) (defBody s_is_piece) (defScope s_is_piece) [] [] (He.ga K "is_piece") fd := T.fd 29 29
abbrev P_check_pieces : List Str := ["scheme", "many", "value"]
abbrev N_check_pieces : List Str := ["scheme", "many", "value", "index", "each"]
theorem sc_check_pieces : FnScope N_check_pieces P_check_pieces (defScope s_check_pieces) := ⟨rfl, rfl, rfl, by decide +kernel, rfl, by decide +kernel, by decide +kernel⟩
theorem Txt.f_check_pieces {K : PySem.W.Frag} {mg : Str → Option Value} (T : Txt K mg) : mg "check_pieces" = some (.ref (He.ga K "check_pieces")) ∧ ∃ fd, FunD K "check_pieces" "check_pieces" (defArgs s_check_pieces) (defBody s_check_pieces) (defScope s_check_pieces) [] [] (He.ga K "check_pieces") fd := T.fd 30 30
abbrev P_are_so_many : List Str := ["value", "least", "is_just"]
abbrev N_are_so_many : List Str := ["value", "least", "is_just"]
theorem sc_are_so_many : FnScope N_are_so_many P_are_so_many (defScope s_are_so_many) := ⟨rfl, rfl, rfl, by decide +kernel, rfl, by decide +kernel, by decide +kernel⟩
theorem Txt.f_are_so_many {K : PySem.W.Frag} {mg : Str → Option Value} (T : Txt K mg) : mg "are_so_many" = some (.ref (He.ga K "are_so_many")) ∧ ∃ fd, FunD K "are_so_many" "are_so_many" (defArgs s_are_so_many) (defBody s_are_so_many) (defScope s_are_so_many) [] [] (He.ga K "are_so_many") fd := T.fd 31 31
abbrev P_check_shelves : List Str := ["value", "least", "is_just", "shelves"]
abbrev N_check_shelves : List Str := ["value", "least", "is_just", "shelves", "found"]
theorem sc_check_shelves : FnScope N_check_shelves P_check_shelves (defScope s_check_shelves) := ⟨rfl, rfl, rfl, by decide +kernel, rfl, by decide +kernel, by decide +kernel⟩
theorem Txt.f_check_shelves {K : PySem.W.Frag} {mg : Str → Option Value} (T : Txt K mg) : mg "check_shelves" = some (.ref (He.ga K "check_shelves")) ∧ ∃ fd, FunD K "check_shelves" "check_shelves" (defArgs s_check_shelves) (defBody s_check_shelves) (defScope s_check_shelves) [] [] (He.ga K "check_shelves") fd := T.fd 32 32
abbrev P_check_scheme : List Str := ["value"]
abbrev N_check_scheme : List Str := ["value"]
theorem sc_check_scheme : FnScope N_check_scheme P_check_scheme (defScope s_check_scheme) := ⟨rfl, rfl, rfl, by decide +kernel, rfl, by decide +kernel, by decide +kernel⟩
theorem Txt.f_check_scheme {K : PySem.W.Frag} {mg : Str → Option Value} (T : Txt K mg) : mg "check_scheme" = some (.ref (He.ga K "check_scheme")) ∧ ∃ fd, FunD K "check_scheme" "check_scheme" (defArgs s_check_scheme) (defBody s_check_scheme) (defScope s_check_scheme) [] [] (He.ga K "check_scheme") fd := T.fd 33 33
abbrev P_solved : List Str := ["prime", "rows", "rights", "width"]
abbrev N_solved : List Str := ["prime", "rows", "rights", "width", "found", "row", "right"]
theorem sc_solved : FnScope N_solved P_solved (defScope s_solved) := ⟨rfl, rfl, rfl, by decide +kernel, rfl, by decide +kernel, by decide +kernel⟩
theorem Txt.f_solved {K : PySem.W.Frag} {mg : Str → Option Value} (T : Txt K mg) : mg "solved" = some (.ref (He.ga K "solved")) ∧ ∃ fd, FunD K "solved" "solved" (defArgs s_solved) (defBody s_solved) (defScope s_solved) [] [] (He.ga K "solved") fd := T.fd 34 34
abbrev P_lettered_message : List Str := ["scheme", "shelves", "pieces"]
abbrev N_lettered_message : List Str := ["scheme", "shelves", "pieces", "prime", "parts", "helpers", "lines", "heads", "tails", "beside", "taken", "left", "first", "shelf", "line", "piece", "each", "row", "number"]
theorem sc_lettered_message : FnScope N_lettered_message P_lettered_message (defScope s_lettered_message) := ⟨rfl, rfl, rfl, by decide +kernel, rfl, by decide +kernel, by decide +kernel⟩
theorem Txt.f_lettered_message {K : PySem.W.Frag} {mg : Str → Option Value} (T : Txt K mg) : mg "lettered_message" = some (.ref (He.ga K "lettered_message")) ∧ ∃ fd, FunD K "lettered_message" "lettered_message" (defArgs s_lettered_message) (defBody s_lettered_message) (defScope s_lettered_message) [] [] (He.ga K "lettered_message") fd := T.fd 35 35
abbrev P_parted : List Str := ["prime", "one", "two", "power", "other"]
abbrev N_parted : List Str := ["prime", "one", "two", "power", "other", "later"]
theorem sc_parted : FnScope N_parted P_parted (defScope s_parted) := ⟨rfl, rfl, rfl, by decide +kernel, rfl, by decide +kernel, by decide +kernel⟩
theorem Txt.f_parted {K : PySem.W.Frag} {mg : Str → Option Value} (T : Txt K mg) : mg "parted" = some (.ref (He.ga K "parted")) ∧ ∃ fd, FunD K "parted" "parted" (defArgs s_parted) (defBody s_parted) (defScope s_parted) [] [] (He.ga K "parted") fd := T.fd 36 36
abbrev P_table_of_rows : List Str := ["scheme", "shorts", "products"]
abbrev N_table_of_rows : List Str := ["scheme", "shorts", "products", "prime", "half", "found", "at", "others", "right", "other"]
theorem sc_table_of_rows : FnScope N_table_of_rows P_table_of_rows (defScope s_table_of_rows) := ⟨rfl, rfl, rfl, by decide +kernel, rfl, by decide +kernel, by decide +kernel⟩
theorem Txt.f_table_of_rows {K : PySem.W.Frag} {mg : Str → Option Value} (T : Txt K mg) : mg "table_of_rows" = some (.ref (He.ga K "table_of_rows")) ∧ ∃ fd, FunD K "table_of_rows" "table_of_rows" (defArgs s_table_of_rows) (defBody s_table_of_rows) (defScope s_table_of_rows) [] [] (He.ga K "table_of_rows") fd := T.fd 37 37
abbrev P_roomy_message : List Str := ["scheme", "shelves", "pieces"]
abbrev N_roomy_message : List Str := ["scheme", "shelves", "pieces", "prime", "half", "shorts", "powers", "told", "first", "later", "at", "here", "pairs", "tables", "shelf", "piece", "to", "there", "pair", "products", "table", "row", "number"]
theorem sc_roomy_message : FnScope N_roomy_message P_roomy_message (defScope s_roomy_message) := ⟨rfl, rfl, rfl, by decide +kernel, rfl, by decide +kernel, by decide +kernel⟩
theorem Txt.f_roomy_message {K : PySem.W.Frag} {mg : Str → Option Value} (T : Txt K mg) : mg "roomy_message" = some (.ref (He.ga K "roomy_message")) ∧ ∃ fd, FunD K "roomy_message" "roomy_message" (defArgs s_roomy_message) (defBody s_roomy_message) (defScope s_roomy_message) [] [] (He.ga K "roomy_message") fd := T.fd 38 38
abbrev P_message_told : List Str := ["scheme", "shelves", "pieces"]
abbrev N_message_told : List Str := ["scheme", "shelves", "pieces"]
theorem sc_message_told : FnScope N_message_told P_message_told (defScope s_message_told) := ⟨rfl, rfl, rfl, by decide +kernel, rfl, by decide +kernel, by decide +kernel⟩
theorem Txt.f_message_told {K : PySem.W.Frag} {mg : Str → Option Value} (T : Txt K mg) : mg "message_told" = some (.ref (He.ga K "message_told")) ∧ ∃ fd, FunD K "message_told" "message_told" (defArgs s_message_told) (defBody s_message_told) (defScope s_message_told) [] [] (He.ga K "message_told") fd := T.fd 39 39
abbrev P_mirrored_spots : List Str := ["rows", "width", "first"]
abbrev N_mirrored_spots : List Str := ["rows", "width", "first", "found", "row", "place"]
theorem sc_mirrored_spots : FnScope N_mirrored_spots P_mirrored_spots (defScope s_mirrored_spots) := ⟨rfl, rfl, rfl, by decide +kernel, rfl, by decide +kernel, by decide +kernel⟩
theorem Txt.f_mirrored_spots {K : PySem.W.Frag} {mg : Str → Option Value} (T : Txt K mg) : mg "mirrored_spots" = some (.ref (He.ga K "mirrored_spots")) ∧ ∃ fd, FunD K "mirrored_spots" "mirrored_spots" (defArgs s_mirrored_spots) (defBody s_mirrored_spots) (defScope s_mirrored_spots) [] [] (He.ga K "mirrored_spots") fd := T.fd 40 40
abbrev P_spots_by : List Str := ["scheme"]
abbrev N_spots_by : List Str := ["scheme", "room"]
theorem sc_spots_by : FnScope N_spots_by P_spots_by (defScope s_spots_by) := ⟨rfl, rfl, rfl, by decide +kernel, rfl, by decide +kernel, by decide +kernel⟩
theorem Txt.f_spots_by {K : PySem.W.Frag} {mg : Str → Option Value} (T : Txt K mg) : mg "spots_by" = some (.ref (He.ga K "spots_by")) ∧ ∃ fd, FunD K "spots_by" "spots_by" (defArgs s_spots_by) (defBody s_spots_by) (defScope s_spots_by) [] [] (He.ga K "spots_by") fd := T.fd 41 41
abbrev P_form_at : List Str := ["line", "spots", "place"]
abbrev N_form_at : List Str := ["line", "spots", "place", "each", "row", "spot"]
theorem sc_form_at : FnScope N_form_at P_form_at (defScope s_form_at) := ⟨rfl, rfl, rfl, by decide +kernel, rfl, by decide +kernel, by decide +kernel⟩
theorem Txt.f_form_at {K : PySem.W.Frag} {mg : Str → Option Value} (T : Txt K mg) : mg "form_at" = some (.ref (He.ga K "form_at")) ∧ ∃ fd, FunD K "form_at" "form_at" (defArgs s_form_at) (defBody s_form_at) (defScope s_form_at) [] [] (He.ga K "form_at") fd := T.fd 42 42
abbrev P_forms_by : List Str := ["scheme", "shelf"]
abbrev N_forms_by : List Str := ["scheme", "shelf", "line", "spots", "place"]
theorem sc_forms_by : FnScope N_forms_by P_forms_by (defScope s_forms_by) := ⟨rfl, rfl, rfl, by decide +kernel, rfl, by decide +kernel, by decide +kernel⟩
theorem Txt.f_forms_by {K : PySem.W.Frag} {mg : Str → Option Value} (T : Txt K mg) : mg "forms_by" = some (.ref (He.ga K "forms_by")) ∧ ∃ fd, FunD K "forms_by" "forms_by" (defArgs s_forms_by) (defBody s_forms_by) (defScope s_forms_by) [] [] (He.ga K "forms_by") fd := T.fd 43 43
abbrev P_piece_by : List Str := ["scheme", "message", "shelf"]
abbrev N_piece_by : List Str := ["scheme", "message", "shelf"]
theorem sc_piece_by : FnScope N_piece_by P_piece_by (defScope s_piece_by) := ⟨rfl, rfl, rfl, by decide +kernel, rfl, by decide +kernel, by decide +kernel⟩
theorem Txt.f_piece_by {K : PySem.W.Frag} {mg : Str → Option Value} (T : Txt K mg) : mg "piece_by" = some (.ref (He.ga K "piece_by")) ∧ ∃ fd, FunD K "piece_by" "piece_by" (defArgs s_piece_by) (defBody s_piece_by) (defScope s_piece_by) [] [] (He.ga K "piece_by") fd := T.fd 44 44
abbrev P_pieces_by : List Str := ["scheme", "message"]
abbrev N_pieces_by : List Str := ["scheme", "message", "shelf"]
theorem sc_pieces_by : FnScope N_pieces_by P_pieces_by (defScope s_pieces_by) := ⟨rfl, rfl, rfl, by decide +kernel, rfl, by decide +kernel, by decide +kernel⟩
theorem Txt.f_pieces_by {K : PySem.W.Frag} {mg : Str → Option Value} (T : Txt K mg) : mg "pieces_by" = some (.ref (He.ga K "pieces_by")) ∧ ∃ fd, FunD K "pieces_by" "pieces_by" (defArgs s_pieces_by) (defBody s_pieces_by) (defScope s_pieces_by) [] [] (He.ga K "pieces_by") fd := T.fd 45 45
abbrev P_message_by : List Str := ["scheme", "shelves", "pieces"]
abbrev N_message_by : List Str := ["scheme", "shelves", "pieces", "message", "fits", "shelf", "piece"]
theorem sc_message_by : FnScope N_message_by P_message_by (defScope s_message_by) := ⟨rfl, rfl, rfl, by decide +kernel, rfl, by decide +kernel, by decide +kernel⟩
theorem Txt.f_message_by {K : PySem.W.Frag} {mg : Str → Option Value} (T : Txt K mg) : mg "message_by" = some (.ref (He.ga K "message_by")) ∧ ∃ fd, FunD K "message_by" "message_by" (defArgs s_message_by) (defBody s_message_by) (defScope s_message_by) [] [] (He.ga K "message_by") fd := T.fd 46 46
abbrev P_unlike_pieces : List Str := ["scheme", "message", "shelves", "pieces"]
abbrev N_unlike_pieces : List Str := ["scheme", "message", "shelves", "pieces", "shelf", "piece"]
theorem sc_unlike_pieces : FnScope N_unlike_pieces P_unlike_pieces (defScope s_unlike_pieces) := ⟨rfl, rfl, rfl, by decide +kernel, rfl, by decide +kernel, by decide +kernel⟩
theorem Txt.f_unlike_pieces {K : PySem.W.Frag} {mg : Str → Option Value} (T : Txt K mg) : mg "unlike_pieces" = some (.ref (He.ga K "unlike_pieces")) ∧ ∃ fd, FunD K "unlike_pieces" "unlike_pieces" (defArgs s_unlike_pieces) (defBody s_unlike_pieces) (defScope s_unlike_pieces) [] [] (He.ga K "unlike_pieces") fd := T.fd 47 47
abbrev P_read_sure_by : List Str := ["scheme", "wrong", "shelves", "pieces"]
abbrev N_read_sure_by : List Str := ["scheme", "wrong", "shelves", "pieces", "lot", "message", "found", "at"]
theorem sc_read_sure_by : FnScope N_read_sure_by P_read_sure_by (defScope s_read_sure_by) := ⟨rfl, rfl, rfl, by decide +kernel, rfl, by decide +kernel, by decide +kernel⟩
theorem Txt.f_read_sure_by {K : PySem.W.Frag} {mg : Str → Option Value} (T : Txt K mg) : mg "read_sure_by" = some (.ref (He.ga K "read_sure_by")) ∧ ∃ fd, FunD K "read_sure_by" "read_sure_by" (defArgs s_read_sure_by) (defBody s_read_sure_by) (defScope s_read_sure_by) [] [] (He.ga K "read_sure_by") fd := T.fd 48 48
abbrev P_check_wrong : List Str := ["value"]
abbrev N_check_wrong : List Str := ["value"]
theorem sc_check_wrong : FnScope N_check_wrong P_check_wrong (defScope s_check_wrong) := ⟨rfl, rfl, rfl, by decide +kernel, rfl, by decide +kernel, by decide +kernel⟩
theorem Txt.f_check_wrong {K : PySem.W.Frag} {mg : Str → Option Value} (T : Txt K mg) : mg "check_wrong" = some (.ref (He.ga K "check_wrong")) ∧ ∃ fd, FunD K "check_wrong" "check_wrong" (defArgs s_check_wrong) (defBody s_check_wrong) (defScope s_check_wrong) [] [] (He.ga K "check_wrong") fd := T.fd 49 49
abbrev P_read_sure : List Str := ["scheme", "wrong", "shelves", "pieces"]
abbrev N_read_sure : List Str := ["scheme", "wrong", "shelves", "pieces", "found"]
theorem sc_read_sure : FnScope N_read_sure P_read_sure (defScope s_read_sure) := ⟨rfl, rfl, rfl, by decide +kernel, rfl, by decide +kernel, by decide +kernel⟩
theorem Txt.f_read_sure {K : PySem.W.Frag} {mg : Str → Option Value} (T : Txt K mg) : mg "read_sure" = some (.ref (He.ga K "read_sure")) ∧ ∃ fd, FunD K "read_sure" "read_sure" (defArgs s_read_sure) (defBody s_read_sure) (defScope s_read_sure) [] [] (He.ga K "read_sure") fd := T.fd 50 50
abbrev P_pieces_of : List Str := ["scheme", "message"]
abbrev N_pieces_of : List Str := ["scheme", "message"]
theorem sc_pieces_of : FnScope N_pieces_of P_pieces_of (defScope s_pieces_of) := ⟨rfl, rfl, rfl, by decide +kernel, rfl, by decide +kernel, by decide +kernel⟩
theorem Txt.f_pieces_of {K : PySem.W.Frag} {mg : Str → Option Value} (T : Txt K mg) : mg "pieces_of" = some (.ref (He.ga K "pieces_of")) ∧ ∃ fd, FunD K "pieces_of" "pieces_of" (defArgs s_pieces_of) (defBody s_pieces_of) (defScope s_pieces_of) [] [] (He.ga K "pieces_of") fd := T.fd 51 51
abbrev P_law_well : List Str := ["_law_script", "_law_turn"]
abbrev N_law_well : List Str := ["_law_script", "_law_turn", "_law_seed", "_law_cell", "_law_own"]
theorem sc_law_well : FnScope N_law_well P_law_well (defScope s_law_well) := ⟨rfl, rfl, rfl, by decide +kernel, rfl, by decide +kernel, by decide +kernel⟩
theorem Txt.f_law_well {K : PySem.W.Frag} {mg : Str → Option Value} (T : Txt K mg) : mg "_law_well" = some (.ref (He.ga K "_law_well")) ∧ ∃ fd, FunD K "_law_well" "_law_well" (defArgs s_law_well) (defBody s_law_well) (defScope s_law_well) [] [] (He.ga K "_law_well") fd := T.fd 52 52
abbrev P_law_draw : List Str := ["_law_well_here", "_law_limit"]
abbrev N_law_draw : List Str := ["_law_well_here", "_law_limit", "_law_figure", "_law_seed"]
theorem sc_law_draw : FnScope N_law_draw P_law_draw (defScope s_law_draw) := ⟨rfl, rfl, rfl, by decide +kernel, rfl, by decide +kernel, by decide +kernel⟩
theorem Txt.f_law_draw {K : PySem.W.Frag} {mg : Str → Option Value} (T : Txt K mg) : mg "_law_draw" = some (.ref (He.ga K "_law_draw")) ∧ ∃ fd, FunD K "_law_draw" "_law_draw" (defArgs s_law_draw) (defBody s_law_draw) (defScope s_law_draw) [] [] (He.ga K "_law_draw") fd := T.fd 53 53
abbrev P_law_any_of : List Str := ["_law_well_here", "_law_some"]
abbrev N_law_any_of : List Str := ["_law_well_here", "_law_some"]
theorem sc_law_any_of : FnScope N_law_any_of P_law_any_of (defScope s_law_any_of) := ⟨rfl, rfl, rfl, by decide +kernel, rfl, by decide +kernel, by decide +kernel⟩
theorem Txt.f_law_any_of {K : PySem.W.Frag} {mg : Str → Option Value} (T : Txt K mg) : mg "_law_any_of" = some (.ref (He.ga K "_law_any_of")) ∧ ∃ fd, FunD K "_law_any_of" "_law_any_of" (defArgs s_law_any_of) (defBody s_law_any_of) (defScope s_law_any_of) [] [] (He.ga K "_law_any_of") fd := T.fd 54 54
abbrev P_law_unlike : List Str := ["_law_well_here", "_law_some", "_law_often"]
abbrev N_law_unlike : List Str := ["_law_well_here", "_law_some", "_law_often", "_law_left", "_law_found", "_law_turn", "_law_at"]
theorem sc_law_unlike : FnScope N_law_unlike P_law_unlike (defScope s_law_unlike) := ⟨rfl, rfl, rfl, by decide +kernel, rfl, by decide +kernel, by decide +kernel⟩
theorem Txt.f_law_unlike {K : PySem.W.Frag} {mg : Str → Option Value} (T : Txt K mg) : mg "_law_unlike" = some (.ref (He.ga K "_law_unlike")) ∧ ∃ fd, FunD K "_law_unlike" "_law_unlike" (defArgs s_law_unlike) (defBody s_law_unlike) (defScope s_law_unlike) [] [] (He.ga K "_law_unlike") fd := T.fd 55 55
abbrev P_law_primes : List Str := []
abbrev N_law_primes : List Str := []
theorem sc_law_primes : FnScope N_law_primes P_law_primes (defScope s_law_primes) := ⟨rfl, rfl, rfl, by decide +kernel, rfl, by decide +kernel, by decide +kernel⟩
theorem Txt.f_law_primes {K : PySem.W.Frag} {mg : Str → Option Value} (T : Txt K mg) : mg "_law_primes" = some (.ref (He.ga K "_law_primes")) ∧ ∃ fd, FunD K "_law_primes" "_law_primes" (defArgs s_law_primes) (defBody s_law_primes) (defScope s_law_primes) [] [] (He.ga K "_law_primes") fd := T.fd 56 56
abbrev P_law_line : List Str := ["_law_well_here", "_law_base", "_law_wide_here"]
abbrev N_law_line : List Str := ["_law_well_here", "_law_base", "_law_wide_here", "_law_limit", "_law_found", "_law_turn"]
theorem sc_law_line : FnScope N_law_line P_law_line (defScope s_law_line) := ⟨rfl, rfl, rfl, by decide +kernel, rfl, by decide +kernel, by decide +kernel⟩
theorem Txt.f_law_line {K : PySem.W.Frag} {mg : Str → Option Value} (T : Txt K mg) : mg "_law_line" = some (.ref (He.ga K "_law_line")) ∧ ∃ fd, FunD K "_law_line" "_law_line" (defArgs s_law_line) (defBody s_law_line) (defScope s_law_line) [] [] (He.ga K "_law_line") fd := T.fd 57 57
abbrev P_law_dot : List Str := ["_law_base", "_law_one", "_law_two"]
abbrev N_law_dot : List Str := ["_law_base", "_law_one", "_law_two", "_law_found", "_law_x", "_law_y"]
theorem sc_law_dot : FnScope N_law_dot P_law_dot (defScope s_law_dot) := ⟨rfl, rfl, rfl, by decide +kernel, rfl, by decide +kernel, by decide +kernel⟩
theorem Txt.f_law_dot {K : PySem.W.Frag} {mg : Str → Option Value} (T : Txt K mg) : mg "_law_dot" = some (.ref (He.ga K "_law_dot")) ∧ ∃ fd, FunD K "_law_dot" "_law_dot" (defArgs s_law_dot) (defBody s_law_dot) (defScope s_law_dot) [] [] (He.ga K "_law_dot") fd := T.fd 58 58
abbrev P_law_climb : List Str := ["_law_base", "_law_x", "_law_often"]
abbrev N_law_climb : List Str := ["_law_base", "_law_x", "_law_often", "_law_found", "_law_here", "_law_turn"]
theorem sc_law_climb : FnScope N_law_climb P_law_climb (defScope s_law_climb) := ⟨rfl, rfl, rfl, by decide +kernel, rfl, by decide +kernel, by decide +kernel⟩
theorem Txt.f_law_climb {K : PySem.W.Frag} {mg : Str → Option Value} (T : Txt K mg) : mg "_law_climb" = some (.ref (He.ga K "_law_climb")) ∧ ∃ fd, FunD K "_law_climb" "_law_climb" (defArgs s_law_climb) (defBody s_law_climb) (defScope s_law_climb) [] [] (He.ga K "_law_climb") fd := T.fd 59 59
abbrev P_law_invert : List Str := ["_law_base", "_law_x"]
abbrev N_law_invert : List Str := ["_law_base", "_law_x", "_law_y"]
theorem sc_law_invert : FnScope N_law_invert P_law_invert (defScope s_law_invert) := ⟨rfl, rfl, rfl, by decide +kernel, rfl, by decide +kernel, by decide +kernel⟩
theorem Txt.f_law_invert {K : PySem.W.Frag} {mg : Str → Option Value} (T : Txt K mg) : mg "_law_invert" = some (.ref (He.ga K "_law_invert")) ∧ ∃ fd, FunD K "_law_invert" "_law_invert" (defArgs s_law_invert) (defBody s_law_invert) (defScope s_law_invert) [] [] (He.ga K "_law_invert") fd := T.fd 60 60
abbrev P_law_stairs : List Str := ["_law_base", "_law_lines_here"]
abbrev N_law_stairs : List Str := ["_law_base", "_law_lines_here", "_law_left", "_law_leads", "_law_spot", "_law_here", "_law_heads", "_law_by", "_law_at", "_law_less", "_law_line_here", "_law_x", "_law_y"]
theorem sc_law_stairs : FnScope N_law_stairs P_law_stairs (defScope s_law_stairs) := ⟨rfl, rfl, rfl, by decide +kernel, rfl, by decide +kernel, by decide +kernel⟩
theorem Txt.f_law_stairs {K : PySem.W.Frag} {mg : Str → Option Value} (T : Txt K mg) : mg "_law_stairs" = some (.ref (He.ga K "_law_stairs")) ∧ ∃ fd, FunD K "_law_stairs" "_law_stairs" (defArgs s_law_stairs) (defBody s_law_stairs) (defScope s_law_stairs) [] [] (He.ga K "_law_stairs") fd := T.fd 61 61
abbrev P_law_rank : List Str := ["_law_base", "_law_lines_here"]
abbrev N_law_rank : List Str := ["_law_base", "_law_lines_here"]
theorem sc_law_rank : FnScope N_law_rank P_law_rank (defScope s_law_rank) := ⟨rfl, rfl, rfl, by decide +kernel, rfl, by decide +kernel, by decide +kernel⟩
theorem Txt.f_law_rank {K : PySem.W.Frag} {mg : Str → Option Value} (T : Txt K mg) : mg "_law_rank" = some (.ref (He.ga K "_law_rank")) ∧ ∃ fd, FunD K "_law_rank" "_law_rank" (defArgs s_law_rank) (defBody s_law_rank) (defScope s_law_rank) [] [] (He.ga K "_law_rank") fd := T.fd 62 62
abbrev P_law_spots : List Str := ["_law_base", "_law_way", "_law_often", "_law_few"]
abbrev N_law_spots : List Str := ["_law_base", "_law_way", "_law_often", "_law_few", "_law_found", "_law_known", "_law_x", "_law_high", "_law_at"]
theorem sc_law_spots : FnScope N_law_spots P_law_spots (defScope s_law_spots) := ⟨rfl, rfl, rfl, by decide +kernel, rfl, by decide +kernel, by decide +kernel⟩
theorem Txt.f_law_spots {K : PySem.W.Frag} {mg : Str → Option Value} (T : Txt K mg) : mg "_law_spots" = some (.ref (He.ga K "_law_spots")) ∧ ∃ fd, FunD K "_law_spots" "_law_spots" (defArgs s_law_spots) (defBody s_law_spots) (defScope s_law_spots) [] [] (He.ga K "_law_spots") fd := T.fd 63 63
abbrev P_law_sure_plan : List Str := ["_law_well_here", "_law_faults"]
abbrev N_law_sure_plan : List Str := ["_law_well_here", "_law_faults", "_law_base", "_law_few", "_law_least", "_law_often", "_law_aids"]
theorem sc_law_sure_plan : FnScope N_law_sure_plan P_law_sure_plan (defScope s_law_sure_plan) := ⟨rfl, rfl, rfl, by decide +kernel, rfl, by decide +kernel, by decide +kernel⟩
theorem Txt.f_law_sure_plan {K : PySem.W.Frag} {mg : Str → Option Value} (T : Txt K mg) : mg "_law_sure_plan" = some (.ref (He.ga K "_law_sure_plan")) ∧ ∃ fd, FunD K "_law_sure_plan" "_law_sure_plan" (defArgs s_law_sure_plan) (defBody s_law_sure_plan) (defScope s_law_sure_plan) [] [] (He.ga K "_law_sure_plan") fd := T.fd 64 64
abbrev P_law_turned : List Str := ["_law_tall", "_law_wide_here", "_law_note"]
abbrev N_law_turned : List Str := ["_law_tall", "_law_wide_here", "_law_note", "_law_found", "_law_at", "_law_one", "_law_two", "_law_turn", "_law_line_here"]
theorem sc_law_turned : FnScope N_law_turned P_law_turned (defScope s_law_turned) := ⟨rfl, rfl, rfl, by decide +kernel, rfl, by decide +kernel, by decide +kernel⟩
theorem Txt.f_law_turned {K : PySem.W.Frag} {mg : Str → Option Value} (T : Txt K mg) : mg "_law_turned" = some (.ref (He.ga K "_law_turned")) ∧ ∃ fd, FunD K "_law_turned" "_law_turned" (defArgs s_law_turned) (defBody s_law_turned) (defScope s_law_turned) [] [] (He.ga K "_law_turned") fd := T.fd 65 65
abbrev P_law_grid : List Str := ["_law_plan", "_law_note"]
abbrev N_law_grid : List Str := ["_law_plan", "_law_note", "_law_half"]
theorem sc_law_grid : FnScope N_law_grid P_law_grid (defScope s_law_grid) := ⟨rfl, rfl, rfl, by decide +kernel, rfl, by decide +kernel, by decide +kernel⟩
theorem Txt.f_law_grid {K : PySem.W.Frag} {mg : Str → Option Value} (T : Txt K mg) : mg "_law_grid" = some (.ref (He.ga K "_law_grid")) ∧ ∃ fd, FunD K "_law_grid" "_law_grid" (defArgs s_law_grid) (defBody s_law_grid) (defScope s_law_grid) [] [] (He.ga K "_law_grid") fd := T.fd 66 66
abbrev P_law_many : List Str := ["_law_plan"]
abbrev N_law_many : List Str := ["_law_plan", "_law_base", "_law_way", "_law_often", "_law_few", "_law_aids"]
theorem sc_law_many : FnScope N_law_many P_law_many (defScope s_law_many) := ⟨rfl, rfl, rfl, by decide +kernel, rfl, by decide +kernel, by decide +kernel⟩
theorem Txt.f_law_many {K : PySem.W.Frag} {mg : Str → Option Value} (T : Txt K mg) : mg "_law_many" = some (.ref (He.ga K "_law_many")) ∧ ∃ fd, FunD K "_law_many" "_law_many" (defArgs s_law_many) (defBody s_law_many) (defScope s_law_many) [] [] (He.ga K "_law_many") fd := T.fd 67 67
abbrev P_law_wide : List Str := ["_law_plan"]
abbrev N_law_wide : List Str := ["_law_plan"]
theorem sc_law_wide : FnScope N_law_wide P_law_wide (defScope s_law_wide) := ⟨rfl, rfl, rfl, by decide +kernel, rfl, by decide +kernel, by decide +kernel⟩
theorem Txt.f_law_wide {K : PySem.W.Frag} {mg : Str → Option Value} (T : Txt K mg) : mg "_law_wide" = some (.ref (He.ga K "_law_wide")) ∧ ∃ fd, FunD K "_law_wide" "_law_wide" (defArgs s_law_wide) (defBody s_law_wide) (defScope s_law_wide) [] [] (He.ga K "_law_wide") fd := T.fd 68 68
abbrev P_law_lines : List Str := ["_law_plan"]
abbrev N_law_lines : List Str := ["_law_plan", "_law_x"]
theorem sc_law_lines : FnScope N_law_lines P_law_lines (defScope s_law_lines) := ⟨rfl, rfl, rfl, by decide +kernel, rfl, by decide +kernel, by decide +kernel⟩
theorem Txt.f_law_lines {K : PySem.W.Frag} {mg : Str → Option Value} (T : Txt K mg) : mg "_law_lines" = some (.ref (He.ga K "_law_lines")) ∧ ∃ fd, FunD K "_law_lines" "_law_lines" (defArgs s_law_lines) (defBody s_law_lines) (defScope s_law_lines) [] [] (He.ga K "_law_lines") fd := T.fd 69 69
abbrev P_law_shares : List Str := ["_law_plan", "_law_note"]
abbrev N_law_shares : List Str := ["_law_plan", "_law_note", "_law_grid_here", "_law_sides", "_law_at", "_law_line_here", "_law_side"]
theorem sc_law_shares : FnScope N_law_shares P_law_shares (defScope s_law_shares) := ⟨rfl, rfl, rfl, by decide +kernel, rfl, by decide +kernel, by decide +kernel⟩
theorem Txt.f_law_shares {K : PySem.W.Frag} {mg : Str → Option Value} (T : Txt K mg) : mg "_law_shares" = some (.ref (He.ga K "_law_shares")) ∧ ∃ fd, FunD K "_law_shares" "_law_shares" (defArgs s_law_shares) (defBody s_law_shares) (defScope s_law_shares) [] [] (He.ga K "_law_shares") fd := T.fd 70 70
abbrev P_law_makings : List Str := ["_law_plan"]
abbrev N_law_makings : List Str := ["_law_plan", "_law_many_here", "_law_units", "_law_made", "_law_at", "_law_spot", "_law_unit", "_law_each"]
theorem sc_law_makings : FnScope N_law_makings P_law_makings (defScope s_law_makings) := ⟨rfl, rfl, rfl, by decide +kernel, rfl, by decide +kernel, by decide +kernel⟩
theorem Txt.f_law_makings {K : PySem.W.Frag} {mg : Str → Option Value} (T : Txt K mg) : mg "_law_makings" = some (.ref (He.ga K "_law_makings")) ∧ ∃ fd, FunD K "_law_makings" "_law_makings" (defArgs s_law_makings) (defBody s_law_makings) (defScope s_law_makings) [] [] (He.ga K "_law_makings") fd := T.fd 71 71
abbrev P_law_wrong_one : List Str := ["_law_well_here", "_law_base", "_law_share"]
abbrev N_law_wrong_one : List Str := ["_law_well_here", "_law_base", "_law_share", "_law_at", "_law_found"]
theorem sc_law_wrong_one : FnScope N_law_wrong_one P_law_wrong_one (defScope s_law_wrong_one) := ⟨rfl, rfl, rfl, by decide +kernel, rfl, by decide +kernel, by decide +kernel⟩
theorem Txt.f_law_wrong_one {K : PySem.W.Frag} {mg : Str → Option Value} (T : Txt K mg) : mg "_law_wrong_one" = some (.ref (He.ga K "_law_wrong_one")) ∧ ∃ fd, FunD K "_law_wrong_one" "_law_wrong_one" (defArgs s_law_wrong_one) (defBody s_law_wrong_one) (defScope s_law_wrong_one) [] [] (He.ga K "_law_wrong_one") fd := T.fd 72 72
abbrev P_law_nought : List Str := ["_law_plan", "_law_some"]
abbrev N_law_nought : List Str := ["_law_plan", "_law_some", "_law_makings_here", "_law_lines_here", "_law_many_here", "_law_at", "_law_left", "_law_leads", "_law_free", "_law_found", "_law_spot"]
theorem sc_law_nought : FnScope N_law_nought P_law_nought (defScope s_law_nought) := ⟨rfl, rfl, rfl, by decide +kernel, rfl, by decide +kernel, by decide +kernel⟩
theorem Txt.f_law_nought {K : PySem.W.Frag} {mg : Str → Option Value} (T : Txt K mg) : mg "_law_nought" = some (.ref (He.ga K "_law_nought")) ∧ ∃ fd, FunD K "_law_nought" "_law_nought" (defArgs s_law_nought) (defBody s_law_nought) (defScope s_law_nought) [] [] (He.ga K "_law_nought") fd := T.fd 73 73
abbrev P_law_is_refused : List Str := ["_law_plan", "_law_faults", "_law_some", "_law_shares_here"]
abbrev N_law_is_refused : List Str := ["_law_plan", "_law_faults", "_law_some", "_law_shares_here", "e"]
theorem sc_law_is_refused : FnScope N_law_is_refused P_law_is_refused (defScope s_law_is_refused) := ⟨rfl, rfl, rfl, by decide +kernel, rfl, by decide +kernel, by decide +kernel⟩
theorem Txt.f_law_is_refused {K : PySem.W.Frag} {mg : Str → Option Value} (T : Txt K mg) : mg "_law_is_refused" = some (.ref (He.ga K "_law_is_refused")) ∧ ∃ fd, FunD K "_law_is_refused" "_law_is_refused" (defArgs s_law_is_refused) (defBody s_law_is_refused) (defScope s_law_is_refused) [] [] (He.ga K "_law_is_refused") fd := T.fd 74 74
abbrev P_law_twice_right : List Str := ["_law_well_here", "_law_plan", "_law_faults", "_law_note"]
abbrev N_law_twice_right : List Str := ["_law_well_here", "_law_plan", "_law_faults", "_law_note", "_law_order", "_law_base", "_law_more", "_law_by", "_law_near", "_law_here", "_law_there", "_law_mine", "_law_theirs", "_law_few", "_law_some", "_law_one", "_law_two", "_law_x", "_law_y", "_law_at"]
theorem sc_law_twice_right : FnScope N_law_twice_right P_law_twice_right (defScope s_law_twice_right) := ⟨rfl, rfl, rfl, by decide +kernel, rfl, by decide +kernel, by decide +kernel⟩
theorem Txt.f_law_twice_right {K : PySem.W.Frag} {mg : Str → Option Value} (T : Txt K mg) : mg "_law_twice_right" = some (.ref (He.ga K "_law_twice_right")) ∧ ∃ fd, FunD K "_law_twice_right" "_law_twice_right" (defArgs s_law_twice_right) (defBody s_law_twice_right) (defScope s_law_twice_right) [] [] (He.ga K "_law_twice_right") fd := T.fd 75 75
abbrev P_law_right : List Str := ["_law_well_here"]
abbrev N_law_right : List Str := ["_law_well_here", "_law_faults", "_law_plan", "_law_note", "_law_shares_here", "_law_least", "_law_some", "_law_bad", "_law_there", "_law_is_one", "_law_at", "_law_odd_one", "_law_heard"]
theorem sc_law_right : FnScope N_law_right P_law_right (defScope s_law_right) := ⟨rfl, rfl, rfl, by decide +kernel, rfl, by decide +kernel, by decide +kernel⟩
theorem Txt.f_law_right {K : PySem.W.Frag} {mg : Str → Option Value} (T : Txt K mg) : mg "_law_right" = some (.ref (He.ga K "_law_right")) ∧ ∃ fd, FunD K "_law_right" "_law_right" (defArgs s_law_right) (defBody s_law_right) (defScope s_law_right) [] [] (He.ga K "_law_right") fd := T.fd 76 76
abbrev P_law : List Str := ["_law_script"]
abbrev N_law : List Str := ["_law_script", "_law_turn"]
theorem sc_law : FnScope N_law P_law (defScope s_law) := ⟨rfl, rfl, rfl, by decide +kernel, rfl, by decide +kernel, by decide +kernel⟩
theorem Txt.f_law {K : PySem.W.Frag} {mg : Str → Option Value} (T : Txt K mg) : mg "law" = some (.ref (He.ga K "law")) ∧ ∃ fd, FunD K "law" "law" (defArgs s_law) (defBody s_law) (defScope s_law) [] [] (He.ga K "law") fd := T.fd 77 77
end Lm
set_option maxRecDepth 100000
set_option maxHeartbeats 4000000
/-! InvalidShelves.__init__: super().__init__(), then self.index = index. -/
namespace Lm
open PySem PySem.Spec PyProof.Rows L2
section
open PySem.W
variable {prog : Program} {w : World} {A : Around} {E : Value → Shared → Prop} {h : Heap} {g : Array GenState} {d : Drawn} {t : Nat} {os : OsState}
variable {nm q : Str} {C N : Addr} {bs bm : List Value} {hdct : Bool} {sn : List Str} {sub : List Value} {ab : Bool} {col : Option Bool} {dd : Option Addr} {k0 k1 k2 k3 k5 : Option Value}
theorem call_mw {u e t0 : Addr} {Q : Value → Shared → Prop} (hC : h.get? C = some (excClassObj nm q C N bs bm hdct sn sub ab col dd k0 k1 k2 k3 k5 "ValueError.__new__")) (he : h.get? e = some (PySem.HandSPX.excO C t0)) (hu : h.get? u = some (kxs_mw "ValueError.__init__" e))
    (fin : ∀ h' t1, (∀ b o, b ≠ e → h.get? b = some o → h'.get? b = some o) → h'.get? e = some (PySem.HandSPX.excO C t1) → Q .none ⟨h', g, d, t, os⟩) : wpAny (model prog w) A (call (.ref u) []) Q E ⟨h, g, d, t, os⟩ := by
  have FB := F.excBase_ValueError
  have yes : (Value.type "method-wrapper" == Value.type "method" || Value.type "method-wrapper" == Value.type "builtin_function_or_method" || Value.type "method-wrapper" == Value.type "method-wrapper") = true := by decide
  refine wpAny_call (codeAny_of_tree ?_)
  show wpAny _ A.in1 (callAny (.ref u) ⟨[], []⟩) _ _ _
  unfold callAny
  refine wpAny_bind (wpAny_load hu ?_)
  simp only [kxs_mw, yes, if_true]
  refine KFB.if_so (by decide) (wpAny_bind (check_bound_init FB.toExcCallFacts hC he rfl ?_))
  refine wpAny_bind (wpAny_pure (wpAny_pure ⟨plainId_quiet FB.init.plain _, codeAny_builtin FB.initEntry ?_⟩))
  exact exc_init_tree (cls := .ref C) (t0 := t0) (dv := none) (c2 := .none) (c3 := .none) (b4 := .bool false) he (by decide) fun h' k e' _ => fin h' _ k e'
end
def clsBody : Stmt → List Stmt
  | .ClassDef _ _ _ b _ _ _ _ _ _ _ => b
  | _ => []
abbrev s_init : Stmt := (clsBody (top 6)).getD 0 (.Pass ⟨0, 0, 0, 0⟩)
abbrev P_init : List Str := ["self", "index"]
abbrev N_init : List Str := ["self", "index", "__class__"]
theorem sc_init : NdefX.NScope N_init P_init ["__class__"] (defScope s_init) := NdefX.nscope_by (by decide +kernel)
def nfI (cc cd : Addr) : NdefX.NF := ⟨"__init__", "InvalidShelves.__init__", defArgs s_init, defBody s_init, defScope s_init, [("__class__", cc)], cd⟩
/-- what the top has left of the class -/
structure ExF (P : Program) (K : PySem.W.Frag) (mg : Str → Option Value) (C fI cc cd : Addr) : Prop where
  glo : mg "InvalidShelves" = some (.ref C)
  T : OexC K C
  fn : ∃ od sl doc pm ctv, K.lookup fI = some (⟨.type "function", od, .func ((nfI cc cd).fd doc pm ctv), sl⟩ : Obj)
  code : PySem.W.codeIn K (.ref cd) "InvalidShelves.__init__" = true
  file : ∃ oc vs file tf, K.lookup cd = some oc ∧ oc.data = .fields vs ∧ vs[2]? = some (.str file tf) ∧ ((P.main.file : Str) == file) = true
  cell : ∃ o, K.lookup cc = some o ∧ o.data = .cell (some (.ref C))
  find : PySem.W.findIn K (.ref C) "__init__" = some (some (.ref fI))
  tyI : PySem.W.typeIn K (.ref fI) = some (.type "function")
  idx : PySem.W.findIn K (.ref C) "index" = some none
  sup : PySem.W.ks_superIn K C C "__init__" = some (some (.builtin "ValueError.__init__"))
  opq : PySem.W.nsIn K cStatics "thirdparty.any" = some none
  subV : PySem.W.subIn K (.ref C) (.type "ValueError") = some true
  subC : PySem.W.subIn K (.ref C) (.ref C) = some true
  top : (P.main.scope.names.lookup ("super" : Str)).isSome = false
  nos : mg "super" = none
  xf : XfC K C
section
open PySem.W
variable {P : Program} {w : World} {K : PySem.W.Frag} {mg : Str → Option Value} {base : Heap} {C fI cc cd : Addr}
theorem super_init (F : ExF P K mg C fI cc cd) {CX : CXT} {A : Around} {outer : List Env} {s0 : Shared} {H0 : Hp} {E : XK} {pins : List (Addr × Obj)} {σ : L2.St} {H : Hp} {s : Shared} {x : Addr} {body : List Stmt} {p0 p1 ap pos : Pos}
    (I : Inv (NdefX.ncx CX P w K mg base N_init (nfI cc cd) fI A outer s0 H0 E) pins σ H s) (hs : σ[0]? = some (some (.ref x))) (hx : H x = some (exo x C none)) {E' : Value → Shared → Prop} {pl : Sem Bool}
    (he : eval (.Call (.Attribute (.Call (.Name "super" p0) [] [] p1) "__init__" ap) [] [] pos) (NdefX.envF (nfI cc cd) fI s0.heap.objs.size) = (do
      let ov ← attributeBase (.Call (.Name "super" p0) [] [] p1) "__init__" (NdefX.envF (nfI cc cd) fI s0.heap.objs.size) (eval (.Call (.Name "super" p0) [] [] p1) (NdefX.envF (nfI cc cd) fI s0.heap.objs.size))
      standAt ap.atName
      let (f, first) ← holding [ov] (getMethod ov "__init__" pl)
      callWith pos f first (backTo pos (starEach [] (NdefX.envF (nfI cc cd) fI s0.heap.objs.size))) [])) :
    PySem.wpAt (model P w) (A.deeper (NdefX.envF (nfI cc cd) fI s0.heap.objs.size)) (.func body (NdefX.envF (nfI cc cd) fI s0.heap.objs.size)) (eval (.Call (.Attribute (.Call (.Name "super" p0) [] [] p1) "__init__" ap) [] [] pos) (NdefX.envF (nfI cc cd) fI s0.heap.objs.size))
      (fun _ s' => Inv (NdefX.ncx CX P w K mg base N_init (nfI cc cd) fI A outer s0 H0 E) pins σ H s') E' s := by
  obtain ⟨od, sl, doc, pm, ctv, lkf⟩ := F.fn
  obtain ⟨oc, vs, file, tf, lkc, hoc, hvs, hfile⟩ := F.file
  obtain ⟨ocl, lkl, hcl⟩ := F.cell
  obtain ⟨nm, q, N, bs, bm, sn, sub, ab, col, dd, k0, k1, k2, k3, k5, lkC, hbm⟩ := F.T.cls
  have hcd : clsIn K C = some { name := nm, bases := bs, mro := .ref C :: bm, ns := N, qualname := q, hasDict := true, slotNames := sn, subclasses := sub, abstract := ab, collection := col, hasDel := false } := by unfold clsIn; rw [lkC] <;> rfl
  have KX : K.In s.heap := I.kIn
  obtain ⟨t1, ho⟩ := exo_at I.hok hx
  refine ks_wpAt_MethodCall (pl := pl) ?_ he
  refine ks_wpAt_super_base (f := fI) (fd := (nfI cc cd).fd doc pm ctv) (ar := ((defArgs s_init).args.getD 0 ⟨"", none, ⟨0, 0, 0, 0⟩⟩)) (cc := cd) rfl rfl rfl rfl (KX _ _ lkf) rfl rfl rfl (KX _ _ lkc) hoc hvs hfile F.top ?_
  obtain ⟨mb, g1, g2⟩ := I.mod.blt
  refine ks_loadName_global rfl rfl (Calls.loadGlobal_builtin (env := NdefX.envF (nfI cc cd) fI s0.heap.objs.size) (I.mod.glob.keeps I.bk) F.nos (g1.keeps I.bk) ((g2 "super" (by decide)).trans (by decide +kernel)) ⟨rfl, ?_⟩)
  refine wpAny_loadName_free (c := cc) rfl rfl rfl ⟨ocl, KX _ _ lkl, hcl⟩ ?_
  obtain ⟨m, hn, hl⟩ := I.loc
  obtain ⟨u, ru, lu⟩ := hl 0 "self" (.ref x) rfl hs (.inl rfl)
  obtain rfl : u = Value.ref x := ru
  have lm : m "self" = some (.ref x) := by
    rcases lu with ⟨_, z⟩ | ⟨z, _⟩
    · exact z
    · have k : (defScope s_init).names.lookup ("self" : Str) = some .local := by decide +kernel
      rcases z with z | z
      · have z : (defScope s_init).names.lookup ("self" : Str) = some .cell := z
        rw [k] at z
        cases z
      · have z : (defScope s_init).names.lookup ("self" : Str) = some .free := z
        rw [k] at z
        cases z
  refine wpAny_loadName_local rfl rfl hn lm ?_
  refine ks_wpAny_isType_cls (KX _ _ lkC) rfl ⟨rfl, ?_⟩
  obtain ⟨hh, g, d, t, os⟩ := s
  have KX : K.In hh := KX
  have ho : hh.get? x = some (PySem.HandSPX.excO C t1) := ho
  refine ks_wpAny_call_super (KX _ _ lkC) rfl ho rfl (fun c z => by cases z) (looks_subIn KX F.subC) (fun h1 hso kp => ?_)
  have KX1 : K.In h1 := KX.keeps kp
  have ho1 := kp _ _ ho
  have I1 : InstAt h1 x (PySem.HandSPX.excO C t1) C none := ⟨ho1, rfl, rfl, trivial⟩
  have hsup : alongIn K "__init__" (((Value.ref C :: bm).dropWhile (· != .ref C)).drop 1) = some (some (.builtin "ValueError.__init__")) := by
    have := F.sup
    unfold ks_superIn at this
    rwa [hcd] at this
  refine kxs_getMethod kxs_ValueError hso (looks_opaque KX1 F.opq) (l₀ := .ref C :: bm) ((looks_clsIn KX1 hcd).andThen .now) rfl KX1 hsup (I1.type.andThen (looks_subIn KX1 F.subV)) (ks_ne KX1 I1 hcd) (by decide) ?_
  have hu : (h1.push (kxs_mw "ValueError.__init__" x)).get? h1.objs.size = some (kxs_mw "ValueError.__init__" x) := Heap.get?_push_at rfl rfl
  have kp2 : ∀ b o, h1.get? b = some o → (h1.push (kxs_mw "ValueError.__init__" x)).get? b = some o := fun b o e => Heap.get?_push_of_some _ e
  refine kxs_callWith (i := "ValueError.__init__") (x := x) rfl (evalArgs_empty ⟨hu, ?_⟩)
  refine call_mw (kp2 _ _ (KX1 _ _ lkC)) (kp2 _ _ ho1) hu fun h' t2 k e' => ?_
  have J := I.write (t' := t + 1) (x := x) (e := x) (o := exo x C none) (h' := h') (by rw [hx]; exact True.intro) (.inl rfl) (fun b u hb z => k b u hb (kp2 _ _ (kp _ _ z))) ⟨_, e'⟩ (exo_ok e')
  have eu : upd H x (exo x C none) = H := by
    funext b
    by_cases hb : b = x
    · rw [hb, upd_same, hx]
    · rw [upd_ne hb]
  rw [eu] at J
  exact J
def spI (C : Addr) : Sp := fun vs H Q _ => ∃ x, vs = [.ref x, .non] ∧ H x = some (exo x C none) ∧ ∀ dx, H dx = none → dx ≠ x → Q .non (upd (upd H dx (exd dx [("index", .non)])) x (exo x C (some dx)))
theorem init_ok (F : ExF P K mg C fI cc cd) (k : Nat) : ∃ fd, FnOk P w K mg base CX0 (k + 1) fI fd P_init (spI C) ∧ Binds K fd P_init [] := by
  obtain ⟨od, sl, doc, pm, ctv, lkf⟩ := F.fn
  have len : ∀ vs H Q E, spI C vs H Q E → vs.length = P_init.length := fun vs H Q E ⟨x, e, _⟩ => by rw [e]; rfl
  refine ⟨(nfI cc cd).fd doc pm ctv, ⟨len, fun A outer s H args us vs Q E hr e0 hb r hsp => ?_⟩, Binds.all fun us hl => match us, hl with | [_, _], _ => rfl⟩
  · have S := sc_init
    have hl := len _ _ _ _ hsp
    obtain ⟨x, rfl, hx, hq⟩ := hsp
    obtain ⟨ocl, lkl, hcl⟩ := F.cell
    have KX : K.In s.heap := e0.mod.kin.keeps fun b o e => (e0.bs b o e).1
    have lim : s.heap.NoLimit := e0.mod.nolimit.keeps fun b o e => (e0.bs b o e).1
    have Cc : NdefX.CellsAt [("__class__", cc)] ["__class__"] [some (.ref C)] s.heap H := by
      have one : ∀ y c, ([("__class__", cc)] : List (Str × Addr)).lookup y = some c → y = "__class__" ∧ c = cc := fun y c e => by
        by_cases z : y = "__class__"
        · rw [z] at e
          exact ⟨z, (Option.some.inj e).symm⟩
        · have z' : (y == ("__class__" : Str)) = false := by simpa using z
          simp [List.lookup, z'] at e
      refine ⟨rfl, fun y c e => ?_, fun y z c e1 e2 => ?_, fun i y e => ?_⟩
      · rw [(one y c e).2]
        exact ⟨(e0.bs cc ocl (e0.mod.kin _ _ lkl)).2, _, ocl, KX _ _ lkl, hcl⟩
      · rw [(one y c e1).1, (one z c e2).1]
      · have hi : i = 0 := by
          have := (List.getElem?_eq_some_iff.mp e).1
          simpa using this
        subst hi
        cases e
        refine ⟨cc, rfl, fun v e => ?_⟩
        cases e
        exact ⟨.ref C, rfl, ocl, KX _ _ lkl, hcl⟩
    refine codeAny_call_function hr.depth (KX _ _ lkf) rfl S.co S.gen rfl (codeRec_of KX F.code) (hb _ _ _ _ ?_)
    refine wpAny_newFunctionEnv S.nocell (fun ⟨n, _⟩ hy => S.par n (List.of_mem_zip hy).1) (fun h1 hns hsb => ⟨lim.fresh _ hsb, ?_⟩) S.kind
    show codeAny _ _ (.func (defBody s_init) (NdefX.envF (nfI cc cd) fI s.heap.objs.size)) _ _
    have kp : ∀ b o, s.heap.get? b = some o → h1.get? b = some o := fun b o e => hsb.extBut b o (Nat.ne_of_lt (Heap.lt_size e)) (Heap.get?_push_of_some _ e)
    have I : L2.Inv (NdefX.ncx CX0 P w K mg base N_init (nfI cc cd) fI A outer s H E) [] (NdefX.startF N_init [.ref x, .non] [some (.ref C)]) H { s with heap := h1, toks := s.toks + (P_init.zip us).length } := NdefX.inv_startN S hr.hd e0 hl r Cc hns kp
    refine ks_codeAny_funcAt (ks_wpAt_execs_cons (ks_wpAt_Expr_any (ks_wpAt_mono (super_init F I rfl hx rfl) (fun v s' J => ?_) fun _ _ z => z)))
    refine PySem.wpAt_of_wpAny (wpAny_mono ((pss_one (ps_ost (X := NdefX.ncx CX0 P w K mg base N_init (nfI cc cd) fI A outer s H E) (f := "index") (pe_var (i := 0) rfl (.inl rfl)) (pe_var (i := 1) rfl (.inl rfl)))).run [] s' _ H { nx := fun _ H' => Q .non H', rt := Q } J ?_) (fun fl s2 hs => ?_) fun e s2 he => he)
    · exact ⟨.non, rfl, .ref x, rfl, x, C, rfl, F.T, F.idx, .inl ⟨hx, fun dx h1 h2 => hq dx h1 h2⟩⟩
    · cases fl with
      | next =>
        obtain ⟨σ', H', J', q⟩ := hs
        exact ⟨.non, H', J'.os, J'.bare, J'.base, J'.hok, rfl, q⟩
      | ret u =>
        obtain ⟨v, σ', H', J', rv, q⟩ := hs
        exact ⟨v, H', J'.os, J'.bare, J'.base, J'.hok, rv, q⟩
      | brk =>
        obtain ⟨_, _, _, q⟩ := hs
        exact q.elim
      | cont =>
        obtain ⟨_, _, _, q⟩ := hs
        exact q.elim
end
end Lm
set_option maxRecDepth 100000
set_option maxHeartbeats 4000000
/-! What the top has left of the class InvalidShelves, by a look; the look as a Hook. -/
namespace Lm
open PySem PySem.Spec PyProof.Rows L2
abbrev exC (K : PySem.W.Frag) : Addr := He.ga K "InvalidShelves"
abbrev exI (K : PySem.W.Frag) : Addr := He.ma K (exC K) "__init__"
/-- __init__'s function -/
def fdI (K : PySem.W.Frag) : Option FuncData := match K.lookup (exI K) with
  | some ⟨.type c, _, .func fd, _⟩ => if c = "function" then some fd else none
  | _ => none
def exL (K : PySem.W.Frag) : Addr := match fdI K with
  | some fd => (match fd.closure with
    | [(_, c)] => c
    | _ => 0)
  | none => 0
def exD (K : PySem.W.Frag) : Addr := match fdI K with
  | some fd => (match fd.code with
    | .ref c => c
    | _ => 0)
  | none => 0
abbrev FnI : Type := Option (Str × Str × Arguments × FuncBody × Scope × Addr × List Str × Addr)
def fnI (K : PySem.W.Frag) : FnI := match fdI K with
  | some fd => some (fd.name, fd.qualname, fd.params, fd.body, fd.scope, fd.globals, fd.closure.map (·.1), fd.builtins)
  | none => none
def valI : FnI := some ("__init__", "InvalidShelves.__init__", defArgs s_init, .stmts (defBody s_init), defScope s_init, mainGlobals, ["__class__"], builtinsNs)
def restI (K : PySem.W.Frag) : Bool := match fdI K with
  | some fd => (match fd.closure with
    | [_] => true
    | _ => false) && ((match fd.code with
    | .ref _ => true
    | _ => false) && (decide (fd.defaults = .none) && (decide (fd.kwdefaults = .none) && fd.annotations.isNone)))
  | none => false
theorem initF_ok {K : PySem.W.Frag} (h1 : fnI K = valI) (h2 : restI K = true) : ∃ od sl doc pm ctv, K.lookup (exI K) = some (⟨.type "function", od, .func ((nfI (exL K) (exD K)).fd doc pm ctv), sl⟩ : Obj) := by
  cases q : fdI K with
  | none =>
    unfold restI at h2
    rw [q] at h2
    cases h2
  | some fd =>
    have e : ∃ od sl, K.lookup (exI K) = some (⟨.type "function", od, .func fd, sl⟩ : Obj) := by
      unfold fdI at q
      split at q
      · rename_i c od fd' sl hk
        split at q
        · rename_i hc
          cases q
          rw [hc] at hk
          exact ⟨od, sl, hk⟩
        · cases q
      · cases q
    obtain ⟨od, sl, e⟩ := e
    unfold restI at h2
    rw [q] at h2
    unfold fnI at h1
    rw [q] at h1
    obtain ⟨n1, n2, n3, n4, n5, n6, n7, n8, n9, n10, n11, n12, n13, n14, n15⟩ := fd
    simp only [Bool.and_eq_true, decide_eq_true_eq, Option.isNone_iff_eq_none] at h2
    obtain ⟨g1, g2, g3, g4, g5⟩ := h2
    have h1 : (some (n1, n2, n3, n4, n5, n6, n7.map (·.1), n15) : FnI) = valI := h1
    unfold valI at h1
    simp only [Option.some.injEq, Prod.mk.injEq] at h1
    obtain ⟨k1, k2, k3, k4, k5, k6, k7, k8⟩ := h1
    subst k1 k2 k3 k4 k5 k6 k8 g3 g4 g5
    cases n7 with
    | nil => simp at k7
    | cons p r =>
      cases r with
      | cons _ _ => simp at k7
      | nil =>
        obtain ⟨p1, p2⟩ := p
        have k7 : [p1] = (["__class__"] : List Str) := k7
        injection k7 with k7 _
        subst k7
        cases n13 with
        | ref c0 =>
          refine ⟨od, sl, n10, n11, n14, ?_⟩
          have eL : exL K = p2 := by
            unfold exL
            rw [q]
          have eD : exD K = c0 := by
            unfold exD
            rw [q]
          rw [eL, eD]
          exact e
        | _ => cases g2
def clsO (K : PySem.W.Frag) (C : Addr) : Bool := match K.lookup C with
  | some ⟨.type t, _, .cls cd, sl⟩ => decide (t = "type") && (match cd.mro, sl.toList with
    | .ref c' :: bm, [_, _, _, _, some (.builtin n), _] => decide (c' = C) && (decide (n = "ValueError.__new__") && (cd.hasDict && (!cd.hasDel && PySem.HandSPX.refsVE bm)))
    | _, _ => false)
  | _ => false
theorem clsO_ok {K : PySem.W.Frag} {C : Addr} (h : clsO K C = true) : ∃ nm q N bs bm sn sub ab col dd k0 k1 k2 k3 k5, K.lookup C = some (excClassObj nm q C N bs bm true sn sub ab col dd k0 k1 k2 k3 k5 "ValueError.__new__") ∧ PySem.HandSPX.refsVE bm = true := by
  unfold clsO at h
  split at h
  · rename_i t dd cd sl hk
    obtain ⟨h1, h2⟩ := He.ba h
    have h1 := of_decide_eq_true h1
    subst h1
    split at h2
    · rename_i c' bm k0 k1 k2 k3 n k5 hm hs
      obtain ⟨g1, h3⟩ := He.ba h2
      obtain ⟨g2, h4⟩ := He.ba h3
      obtain ⟨g3, h5⟩ := He.ba h4
      obtain ⟨g4, g5⟩ := He.ba h5
      have g1 := of_decide_eq_true g1
      have g2 := of_decide_eq_true g2
      obtain ⟨nm, bs, mro, ns, qn, hd, sn, sb, ab, col, del⟩ := cd
      obtain ⟨sl⟩ := sl
      have hm : mro = .ref c' :: bm := hm
      have hs : sl = [k0, k1, k2, k3, some (.builtin n), k5] := hs
      have e3 : hd = true := g3
      have e4 : del = false := by
        cases del with
        | false => rfl
        | true => cases g4
      clear h2 h3 h4 h5 g3 g4
      subst hm hs g1 g2 e3 e4
      exact ⟨nm, qn, ns, bs, bm, sn, sb, ab, col, dd, k0, k1, k2, k3, k5, hk, g5⟩
    · cases h2
  · cases h
def fileO (file : Str) (K : PySem.W.Frag) (cd : Addr) : Bool := match K.lookup cd with
  | some ⟨_, _, .fields vs, _⟩ => (match (vs[2]? : Option Value) with
    | some (.str f _) => file == f
    | _ => false)
  | _ => false
theorem fileO_ok {file : Str} {K : PySem.W.Frag} {cd : Addr} (h : fileO file K cd = true) : ∃ oc vs f tf, K.lookup cd = some oc ∧ oc.data = .fields vs ∧ vs[2]? = some (.str f tf) ∧ (file == f) = true := by
  unfold fileO at h
  split at h
  · rename_i a b vs d hk
    split at h
    · rename_i f tf hv
      exact ⟨_, vs, f, tf, hk, rfl, hv, h⟩
    · cases h
  · cases h
def cellO (K : PySem.W.Frag) (cc C : Addr) : Bool := match K.lookup cc with
  | some ⟨_, _, .cell (some (.ref c)), _⟩ => decide (c = C)
  | _ => false
theorem cellO_ok {K : PySem.W.Frag} {cc C : Addr} (h : cellO K cc C = true) : ∃ o, K.lookup cc = some o ∧ o.data = .cell (some (.ref C)) := by
  unfold cellO at h
  split at h
  · rename_i a b c d hk
    have e := of_decide_eq_true h
    subst e
    exact ⟨_, hk, rfl⟩
  · cases h
/-- all of it -/
def exB (file : Str) (K : PySem.W.Frag) : Bool :=
  He.eqO (PySem.W.nsIn K mainGlobals "InvalidShelves") (some (some (.ref (exC K)))) && (clsO K (exC K) && (restI K && (PySem.W.codeIn K (.ref (exD K)) "InvalidShelves.__init__" && (fileO file K (exD K) && (cellO K (exL K) (exC K) && (xfB K (exC K) &&
  (He.eqO (PySem.W.findIn K (.ref (exC K)) "__setattr__") (some (some (.builtin "object.__setattr__"))) && (decide (PySem.W.typeIn K (.ref (exC K)) = some (.type "type")) && (PySem.W.keepIn K (.ref (exC K)) &&
  (He.eqO (PySem.W.findIn K (.ref (exC K)) "__init__") (some (some (.ref (exI K)))) && (He.eqO (PySem.W.findIn K (.ref (exC K)) "index") (some none) && (He.eqO (PySem.W.ks_superIn K (exC K) (exC K) "__init__") (some (some (.builtin "ValueError.__init__"))) &&
  (He.eqO (PySem.W.nsIn K cStatics "thirdparty.any") (some none) && (decide (PySem.W.subIn K (.ref (exC K)) (.type "ValueError") = some true) && (decide (PySem.W.subIn K (.ref (exC K)) (.ref (exC K)) = some true) && He.eqO (PySem.W.nsIn K mainGlobals "super") (some none))))))))))))))))
theorem exF_of {P : Program} {K : PySem.W.Frag} {mg : Str → Option Value} {h : Heap} (X : K.In h) (G : h.Ns mainGlobals mg) (top : (P.main.scope.names.lookup ("super" : Str)).isSome = false) (h1 : exB P.main.file K = true) (h2 : fnI K = valI) : ExF P K mg (exC K) (exI K) (exL K) (exD K) := by
  unfold exB at h1
  simp only [Bool.and_eq_true] at h1
  obtain ⟨a1, a2, a3, a4, a5, a6, a7, a8, a9, a10, a11, a12, a13, a14, a15, a16, a17⟩ := h1
  have xf := xfB_ok a7
  obtain ⟨od, sl, doc, pm, ctv, hI⟩ := initF_ok h2 a3
  exact ⟨PySem.W.mg_of X G (He.eqO_ok a1), ⟨clsO_ok a2, He.eqO_ok a8, xf.exC, of_decide_eq_true a9, a10⟩, ⟨od, sl, doc, pm, ctv, hI⟩, a4, fileO_ok a5, cellO_ok a6, He.eqO_ok a11, by
    unfold PySem.W.typeIn
    dsimp only
    rw [hI]
    rfl, He.eqO_ok a12, He.eqO_ok a13, He.eqO_ok a14, of_decide_eq_true a15, of_decide_eq_true a16, top, PySem.W.mg_none_of X G (He.eqO_ok a17), xf⟩
/-! ### the Hook -/
abbrev AlL : Type := He.AlD × Bool × FnI
def valsO (o : Obj) : List Addr := match o.data with
  | .dict es _ => es.toList.flatMap fun e => He.refV e.val
  | _ => []
def inFn (o : Option Obj) : List Addr := match o with
  | some ⟨_, _, .func fd, _⟩ => He.refV fd.code ++ fd.closure.map (·.2)
  | _ => []
def inO (o : Option Obj) : List Addr := match o with
  | some o => valsO o
  | none => []
/-- the module's names, their code; the classes' names, their code and cells -/
def asM (g : Addr → Option Obj) : List Addr := mainGlobals :: cStatics :: (inO (g mainGlobals) ++ (inO (g mainGlobals)).flatMap fun a => match g a with
  | some ⟨_, _, .func fd, _⟩ => He.refV fd.code
  | some ⟨_, _, .cls cd, _⟩ => cd.ns :: (inO (g cd.ns)).flatMap fun b => b :: inFn (g b)
  | _ => [])
def frL (g : Addr → Option Obj) : PySem.W.Frag := He.frG g (asM g)
def obsL (file : Str) (g : Addr → Option Obj) : AlL := (He.obsD fa fn (frL g), exB file (frL g), fnI (frL g))
def hookL (file : Str) : PySem.W.Hook where
  α := AlL
  obs := fun s => obsL file s.heap.get?
  val := fun _ => (He.valD fn, true, valI)
  says := fun _ h => ∃ K : PySem.W.Frag, K.In h ∧ He.SaysD fa fn K ∧ exB file K = true ∧ fnI K = valI
  of := fun _ s e => ⟨frL s.heap.get?, He.frG_in, congrArg (fun z : AlL => z.1) e, congrArg (fun z : AlL => z.2.1) e, congrArg (fun z : AlL => z.2.2) e⟩
  keeps := fun _ _ _ ⟨K, hK, c⟩ k => ⟨K, PySem.W.Frag.In.keeps hK k, c⟩
end Lm
set_option maxRecDepth 100000
set_option maxHeartbeats 0
namespace Lm
open PySem PySem.Spec PyProof.Rows L2
def nmK : List PySem.Str := (["StoreError", "InvalidNumber", "InvalidScheme", "InvalidMessage", "InvalidPieces", "InvalidShelves", "is_whole", "is_between", "are_between", "wrong_in_rising", "lots_of", "LEAST_PRIME", "MOST_PRIME", "is_prime_by", "is_row", "dot", "led", "flipped", "mixed", "multiplied", "power_by", "powers_by", "inverse_by", "row_less"] : List PySem.Str) ++ (["stairs", "answer_by", "MOST_SHELVES", "LETTERS", "ROOM", "roomy_points", "are_counts", "is_scheme_by", "is_lettered", "points_by", "room_by", "size_by", "line_by", "short_by", "last_power", "check_message", "is_piece", "check_pieces", "are_so_many", "check_shelves", "check_scheme", "solved", "lettered_message", "parted"] : List PySem.Str) ++ (["table_of_rows", "roomy_message", "message_told", "mirrored_spots", "spots_by", "form_at", "forms_by", "piece_by", "pieces_by", "message_by", "unlike_pieces", "read_sure_by", "MOST_WRONG", "check_wrong", "read_sure", "pieces_of", "_law_well", "_law_draw", "_law_any_of", "_law_unlike", "_law_primes", "_law_line", "_law_dot", "_law_climb"] : List PySem.Str) ++ (["_law_invert", "_law_stairs", "_law_rank", "_law_spots", "_law_sure_plan", "_law_turned", "_law_grid", "_law_many", "_law_wide", "_law_lines", "_law_shares", "_law_makings", "_law_wrong_one", "_law_nought", "_law_is_refused", "_law_twice_right", "_law_right"] : List PySem.Str)
abbrev rowK : PySem.W.OpenRow := PySem.W.OpenLaw.row PySem.Challenge.rw_lettermend_k09_whole_wrong_pieces_found
abbrev hkK : PySem.W.Hook := hookL rowK.prog.main.file
def obK (s : PySem.W.SharedT) : AlL := obsL rowK.prog.main.file (HandSHeadRun.getT s)
theorem obK_eq (s : PySem.W.SharedT) : obK s = hkK.obs s.abs := by
  show obsL rowK.prog.main.file (HandSHeadRun.getT s) = obsL rowK.prog.main.file s.abs.heap.get?
  rw [show HandSHeadRun.getT s = s.abs.heap.get? from funext (HandSHeadRun.getT_eq s)]
theorem runK (w : World) : HandSHeadRun.RunEq rowK (PySem.W.view rowK.prog [101]) hkK obK 20000 nmK w := by
  intro os
  kernel_rfl
end Lm
set_option maxRecDepth 100000
set_option maxHeartbeats 4000000
/-! A def's promise from its body. -/
namespace Lm
open PySem PySem.Spec PyProof.Rows L2 Evl
section
variable {P : Program} {w : World} {K : PySem.W.Frag} {mg : Str → Option Value} {base : Heap} {x : Str} {st : Stmt} {f : Addr} {fd : FuncData} {N ps : List Str} {k : Nat}
theorem start_sd {F H : Hp} (hs : Ex F H) {vs : List V} {ds : List D} (hd : DpAll K F vs ds) (N : List Str) : Sd K (L2.start N vs) F H (ds.map Slot.dat ++ List.replicate (N.length - ds.length) Slot.un) := by
  have hl := dpa_len hd
  have no : ∀ (i : Nat) (es : List D), (ds.map Slot.dat ++ List.replicate (N.length - ds.length) Slot.un)[i]? = some (Slot.own es) → False := fun i es h => by
    rw [List.getElem?_append] at h
    split at h
    · rw [List.getElem?_map] at h
      cases q : ds[i]? with
      | none => rw [q] at h; cases h
      | some d => rw [q] at h; cases h
    · rw [List.getElem?_replicate] at h
      split at h <;> cases h
  refine ⟨hs, ?_, fun i d h => ?_, fun i es h => (no i es h).elim, fun i j es _ _ h => (no i es h).elim⟩
  · unfold L2.start
    simp [hl]
  · rw [List.getElem?_append] at h
    split at h
    · rename_i hi
      rw [List.length_map] at hi
      rw [List.getElem?_map] at h
      cases q : ds[i]? with
      | none => rw [q] at h; cases h
      | some e =>
        rw [q] at h
        cases h
        obtain ⟨v, h1, h2⟩ := dpa_get hd q
        refine ⟨v, ?_, h2⟩
        unfold L2.start
        rw [List.getElem?_append_left (by rw [List.length_map, hl]; exact hi), List.getElem?_map, h1]
        rfl
    · rw [List.getElem?_replicate] at h
      split at h <;> cases h
theorem pure_ok {R : List D → D → Prop} (Fd : FunD K x x (defArgs st) (defBody st) (defScope st) [] [] f fd) (S : FnScope N ps (defScope st)) (hl : ∀ ds d, R ds d → ds.length = ps.length)
    (hb : ∀ (cdv : Value) (A : Around) (outer : List Env) (s : Shared) (H : Hp) (E : XK) (ds : List D) (d : D), Room k (A.deeper (envOfC x (defScope st) s.heap.objs.size f cdv)) → R ds d →
      WS (cxOf CX0 P w K mg base N x (defScope st) f cdv A outer s H E).nox none (ds.map Slot.dat ++ List.replicate (N.length - ds.length) Slot.un) (defBody st) { nx := fun _ => d = .none, rt := fun _ e => e = d }) :
    FnOk P w K mg base CX0 (k + 1) f fd ps (SpP K R) := by
  refine Fd.ok S (fun vs H Q E ⟨ds, d, F, hR, hs, hd, q⟩ => (dpa_len hd).trans (hl ds d hR)) fun cdv A outer s H vs Q E hr ⟨ds, d, F, hR, hs, hd, q⟩ => ?_
  refine ⟨_, ((hb cdv A outer s H E ds d hr hR) ⟨F, H, none⟩ rfl).nox, F, ⟨start_sd hs hd N, Ex.refl _, fun b o h => .inr h, fun b h => h, fun b h1 h2 => absurd h1 h2, fun i es a h => ?_, fun a h => by cases h⟩, ⟨fun σ F' H' ρ h a => ?_, fun v σ F' H' ρ d' h a hv => ?_, fun _ _ _ _ h _ => h.elim, fun _ _ _ _ h _ => h.elim, fun _ _ _ _ _ _ _ h => h.elim⟩⟩
  · exfalso
    rw [List.getElem?_append] at h
    split at h
    · rw [List.getElem?_map] at h
      cases q : ds[i]? with
      | none => rw [q] at h; cases h
      | some d => rw [q] at h; cases h
    · rw [List.getElem?_replicate] at h
      split at h <;> cases h
  · have e : d = .none := h
    subst e
    exact q .non F' H' ⟨a.c.f, fun b o hb => (a.c.kept b o hb).resolve_left (fun z => by cases z), a.s.sub, a.c.new⟩ .non
  · have e : d' = d := h
    subst e
    exact q v F' H' ⟨a.c.f, fun b o hb => (a.c.kept b o hb).resolve_left (fun z => by cases z), a.s.sub, a.c.new⟩ hv
/-- a def that makes a new list and changes nothing -/
def SpL (K : PySem.W.Frag) (R : List D → List D → Prop) : Sp := fun vs H Q _ => ∃ ds es F, R ds es ∧ Ex F H ∧ DpAll K F vs ds ∧ ∀ p ws F' H', Gr F H F' H' → H p = none → F' p = none → H' p = some (HO.lst ws) → DpAll K F' ws es → Q (.ref p) H'
theorem no_own {ds : List D} {n i : Nat} {es : List D} (h : (ds.map Slot.dat ++ List.replicate n Slot.un)[i]? = some (Slot.own es)) : False := by
  rw [List.getElem?_append] at h
  split at h
  · rw [List.getElem?_map] at h
    cases q : ds[i]? with
    | none => rw [q] at h; cases h
    | some d => rw [q] at h; cases h
  · rw [List.getElem?_replicate] at h
    split at h <;> cases h
theorem list_ok {R : List D → List D → Prop} (Fd : FunD K x x (defArgs st) (defBody st) (defScope st) [] [] f fd) (S : FnScope N ps (defScope st)) (hl : ∀ ds d, R ds d → ds.length = ps.length)
    (hb : ∀ (cdv : Value) (A : Around) (outer : List Env) (s : Shared) (H : Hp) (E : XK) (ds es : List D), Room k (A.deeper (envOfC x (defScope st) s.heap.objs.size f cdv)) → R ds es →
      WS (cxOf CX0 P w K mg base N x (defScope st) f cdv A outer s H E).nox none (ds.map Slot.dat ++ List.replicate (N.length - ds.length) Slot.un) (defBody st) { nx := fun _ => False, rt := fun _ _ => False, rl := fun _ e => e = es }) :
    FnOk P w K mg base CX0 (k + 1) f fd ps (SpL K R) := by
  refine Fd.ok S (fun vs H Q E ⟨ds, d, F, hR, hs, hd, q⟩ => (dpa_len hd).trans (hl ds d hR)) fun cdv A outer s H vs Q E hr ⟨ds, es, F, hR, hs, hd, q⟩ => ?_
  refine ⟨_, ((hb cdv A outer s H E ds es hr hR) ⟨F, H, none⟩ rfl).nox, F, ⟨start_sd hs hd N, Ex.refl _, fun b o h => .inr h, fun b h => h, fun b h1 h2 => absurd h1 h2, fun i es a h => (no_own h).elim, fun a h => by cases h⟩, ⟨fun _ _ _ _ h => h.elim, fun _ _ _ _ _ _ h => h.elim, fun _ _ _ _ h _ => h.elim, fun _ _ _ _ h _ => h.elim, fun p ws σ F' H' ρ d' h a h1 h2 h3 hv => ?_⟩⟩
  have e : d' = es := h
  subst e
  exact q p ws F' H' ⟨a.c.f, fun b o hb => (a.c.kept b o hb).resolve_left (fun z => by cases z), a.s.sub, a.c.new⟩ h3 h2 h1 hv
/-- the def as others call it -/
theorem mk_def {R : Sp} {CX : CXT} {k : Nat} (h : mg x = some (.ref f)) (Fd : FunD K x x (defArgs st) (defBody st) (defScope st) [] [] f fd) (G : FnOk P w K mg base CX k f fd ps R)
    (b : ∀ (kV doc pm : Value) (an : Option Addr) (cdv ct : Value) (us : List Value), us.length = ps.length → bindArgs (PySem.W.fnOf x x (defArgs st) (defBody st) (defScope st) .none kV doc pm an cdv ct) ⟨us, []⟩ = pure (ps.zip us)) : Def P w K mg base CX x k ps R :=
  ⟨f, fd, h, Fd.kp, Fd.bindsN b, G⟩
end
abbrev I (i : Int) : D := .int i
/-- a tuple, a list of numbers; tuples of tuples, lists of tuples, lists of lists -/
abbrev TI (r : List Int) : D := .tuple (r.map PyData.int)
abbrev LI (r : List Int) : D := .list (r.map PyData.int)
abbrev TR (rs : List (List Int)) : D := .tuple (rs.map TI)
abbrev LT (rs : List (List Int)) : D := .list (rs.map TI)
abbrev LL (rs : List (List Int)) : D := .list (rs.map LI)

/-! ### power_by -/
def powB (p x : Int) : Nat → Int
  | 0 => 1
  | n + 1 => powB p x n * x % p
section
variable {P : Program} {w : World} {K : PySem.W.Frag} {mg : Str → Option Value} {base : Heap}
def R_power_by (ds : List D) (d : D) : Prop := ∃ (p x n : Int), ds = [I p, I x, I n] ∧ (0 < p ∧ p ≤ 1000 ∧ -1000 ≤ x ∧ x ≤ 1000 ∧ 0 ≤ n ∧ n ≤ 1000) ∧ d = I (powB p x n.toNat)
theorem powB_lt {p x : Int} (hp : 0 < p) : ∀ n : Nat, 0 ≤ powB p x n ∧ powB p x n ≤ max 1 p
  | 0 => ⟨by show (0 : Int) ≤ 1; decide, by show (1 : Int) ≤ max 1 p; omega⟩
  | n + 1 => ⟨Int.emod_nonneg _ (by omega), by
    have := Int.emod_lt_of_pos (powB p x n * x) hp
    show powB p x n * x % p ≤ max 1 p
    omega⟩
theorem d_power_by (T : Txt K mg) : Def P w K mg base CX0 "power_by" 1 P_power_by (SpP K R_power_by) := by
  obtain ⟨hm, fd, F⟩ := T.f_power_by
  refine mk_def hm F (pure_ok F sc_power_by (fun ds d ⟨p, x, n, h, _⟩ => by rw [h]; rfl) fun cdv A outer s H E ds d hr hR => ?_) (fun _ _ _ _ _ _ us hl => match us, hl with | [_, _, _], _ => rfl)
  obtain ⟨p, x, n, rfl, ⟨h1, h2, h3, h4, h5, h6⟩, rfl⟩ := hR
  show WS _ _ [.dat (I p), .dat (I x), .dat (I n), .un, .un] _ _
  refine w_cons (w_set 3 c_int ?_ (.inl rfl) sc_power_by.nd)
  refine w_cons (w_for (fun i ρ => ∃ s, ρ = [.dat (I p), .dat (I x), .dat (I n), .dat (I (powB p x i)), s]) (i_rng1 T.n_range (by omega) (v 2 rfl)) (dg_n (j := 4) sc_power_by.nd) (.inl rfl) rfl ⟨_, rfl⟩ ?_ ?_)
  · rintro i d ρ' hd ⟨s, rfl⟩
    have hp := powB_lt (x := x) h1 i
    exact ⟨_, rfl, w_one (w_set 3 (modp h1 (mul (.inl (by omega)) (v 3 rfl) (v 1 rfl)) (v 0 rfl)) ⟨_, rfl⟩ (.inl rfl) sc_power_by.nd)⟩
  · rintro ρ' ⟨s, rfl⟩
    rw [List.length_map, List.length_range]
    exact w_one (w_ret (v 3 rfl) rfl)
end
end Lm
set_option maxRecDepth 100000
set_option maxHeartbeats 4000000
/-! numberwork: rows. -/
namespace Lm
open PySem PySem.Spec PyProof.Rows L2 Evl
/-- a comprehension without tests -/
theorem lcn {X : Cx} {ρ : En} {α : Type} {elt tg iter : Expr} {scope : Scope} {own : List (Str × Nat)} {js : List Nat} {pos : Pos} {Γ : D → En → En → Prop} {ds : List D} (as : List α) (enc : α → D) (asg : α → En) (g : α → D)
    (hc : X.calm = true) (hN : X.N.Nodup) (ok : BlkOk X.N X.env.scope scope own) (hl : as.length ≤ 50000)
    (hi : DIo X ρ tg iter ds) (hds : ds = as.map enc)
    (hg : ∀ (s : Shared) (H : Hp) (C : Addr) (cl : List (Str × Addr)) (fp : List Addr), DG (X.blk s H scope (compEnvC scope cl C X.env) fp) tg js Γ) (hj : ∀ j ∈ js, j ∈ own.map (·.2))
    (ha : ∀ a ∈ as, Γ (enc a) (wipeE ρ (own.map (·.2))) (asg a))
    (he : ∀ a ∈ as, ∀ (s : Shared) (H : Hp) (C : Addr) (cl : List (Str × Addr)) (fp : List Addr), DE (X.blk s H scope (compEnvC scope cl C X.env) fp) (asg a) elt (g a))
    (hs : ∀ x, foldedSetIterable iter X.env x = pure x := by intro _; rfl) :
    Lc X ρ elt [⟨tg, iter, [], 0⟩] scope pos (as.map g) := by
  subst hds
  have h := lc1 (pos := pos) as enc asg (fun _ => true) g hc hN ok hl hi hg hj ha (fun a _ _ _ _ _ _ => ts_nil) (fun a h _ => he a h) hs
  rwa [List.filter_eq_self.mpr (fun _ _ => rfl)] at h
theorem zipD_map {α β : Type} (f : α → D) (g : β → D) (xs : List α) (ys : List β) : zipD (xs.map f) (ys.map g) = (xs.zip ys).map fun p => PyData.tuple [f p.1, g p.2] := by
  unfold zipD
  rw [List.zip_map, List.map_map]
  rfl
theorem enumD_map {α : Type} (f : α → D) (xs : List α) : enumD (xs.map f) = xs.zipIdx.map fun p => PyData.tuple [.int (p.2 : Int), f p.1] := by
  unfold enumD
  rw [List.zipIdx_map, List.map_map]
  rfl
/-- a tuple or a list -/
def Sq (ds : List D) (d : D) : Prop := d = .tuple ds ∨ d = .list ds
section
variable {X : Cx} {ρ : En} {tg a b : Expr} {ds : List D} {d e : D} {i : Int} {p pos : Pos}
theorem i_sq (h : DE X ρ a d) (s : Sq ds d) : DI X ρ tg a ds := by
  rcases s with rfl | rfl
  · exact i_tup h
  · exact i_lst h
theorem e_lenS (s : Sq ds d) (hm : X.mg "len" = none) (h : DE X ρ a d) (hg : Gl X "len" := by rfl) (he : starEach [a] X.env = (false, eval a X.env) :: starEach [] X.env := by rfl) : DE X ρ (.Call (.Name "len" p) [a] [] pos) (.int (ds.length : Int)) := by
  rcases s with rfl | rfl
  · exact e_lenT hm h hg he
  · exact e_lenL hm h hg he
theorem e_ixS (s : Sq ds d) (hi : atI ds i = some e) (ha : DE X ρ a d) (hb : DE X ρ b (.int i)) (hs : PlainIx b := by intro _ _; rfl) : DE X ρ (.Subscript a b pos) e := by
  rcases s with rfl | rfl
  · exact e_ixT hi ha hb hs
  · exact e_ixL hi ha hb hs
end
/-- small numbers -/
def Sm (r : List Int) : Prop := ∀ x ∈ r, -1000000 ≤ x ∧ x ≤ 1000000
theorem cm_l {i j : Int} (h : -1000000 ≤ i ∧ i ≤ 1000000) : CMul i j := .inl ⟨by omega, by omega⟩
theorem cm_r {i j : Int} (h : -1000000 ≤ j ∧ j ≤ 1000000) : CMul i j := .inr ⟨by omega, by omega⟩
theorem Sm.of {r : List Int} {x : Int} (h : Sm r) (hx : x ∈ r) : -1000000 ≤ x ∧ x ≤ 1000000 := h x hx

/-! ### the mirrors -/
def dotB (p : Int) (a b : List Int) : Int := ((a.zip b).map fun q => q.1 * q.2).sum % p
def ledB (p : Int) (rs : List (List Int)) (r : List Int) : List Int := rs.map fun q => dotB p q r
def flipB (rs : List (List Int)) (m : Nat) : List (List Int) := (List.range m).map fun j => rs.map fun r => r.getD j 0
def mixB (p : Int) (rs : List (List Int)) (ns : List Int) (m : Nat) : List Int := ledB p (flipB rs m) ns
def mulB (p : Int) (one two : List (List Int)) (m : Nat) : List (List Int) := one.map fun r => mixB p two r m
def powsB (p x : Int) (n : Nat) : List Int := (List.range n).map (powB p x)
def lessB (p : Int) (one two : List Int) (m : Int) : List Int := (one.zip two).map fun q => (q.1 - m * q.2) % p
section
variable {P : Program} {w : World} {K : PySem.W.Frag} {mg : Str → Option Value} {base : Heap}
def R_dot (ds : List D) (d : D) : Prop := ∃ (p : Int) (a b : List Int), ds = [I p, TI a, TI b] ∧ (0 < p ∧ Sm a ∧ a.length ≤ 1000) ∧ d = I (dotB p a b)
theorem d_dot (T : Txt K mg) : Def P w K mg base CX0 "dot" 1 P_dot (SpP K R_dot) := by
  obtain ⟨hm, fd, F⟩ := T.f_dot
  refine mk_def hm F (pure_ok F sc_dot (fun ds d ⟨p, x, n, h, _⟩ => by rw [h]; rfl) fun cdv A outer s H E ds d hr hR => ?_) (fun _ _ _ _ _ _ us hl => match us, hl with | [_, _, _], _ => rfl)
  obtain ⟨p, a, b, rfl, ⟨h1, h2, h3⟩, rfl⟩ := hR
  show WS _ _ [.dat (I p), .dat (TI a), .dat (TI b), .un, .un] _ _
  have nd := sc_dot.nd
  refine w_one (w_ret (modp h1 (e_sum (ns := (a.zip b).map fun q => q.1 * q.2) rfl T.n_sum ?_) (v 0 rfl)) rfl)
  refine (lcn (own := [("here", 3), ("there", 4)]) (a.zip b) (fun q => .tuple [I q.1, I q.2]) (fun q => [.dat (I p), .dat (TI a), .dat (TI b), .dat (I q.1), .dat (I q.2)]) (fun q => I (q.1 * q.2)) rfl nd (blkOk_by (N := N_dot) (sc := defScope s_dot) (by decide +kernel)) (by rw [List.length_zip]; omega)
    (i_zipT T.n_zip (v 1 rfl) (v 2 rfl)).o (zipD_map _ _ a b) (fun _ _ _ _ _ => dg_t rfl (dgs_cons (j := 3) nd (dgs_cons (j := 4) nd dgs_nil))) (by decide) (fun q _ => ⟨[I q.1, I q.2], rfl, rfl, rfl⟩) (fun q hq _ _ _ _ _ => ?_)).e.e.is (by simp [LI])
  exact mul (cm_l (h2.of (List.of_mem_zip hq).1)) (v 3 rfl) (v 4 rfl)
def R_led (ds : List D) (d : D) : Prop := ∃ (p : Int) (rs : List (List Int)) (r : List Int) (q : D), ds = [I p, q, TI r] ∧ Sq (rs.map TI) q ∧ (0 < p ∧ rs.length ≤ 1000 ∧ ∀ a ∈ rs, Sm a ∧ a.length ≤ 1000) ∧ d = TI (ledB p rs r)
theorem d_led (T : Txt K mg) : Def P w K mg base CX0 "led" 2 P_led (SpP K R_led) := by
  obtain ⟨hm, fd, F⟩ := T.f_led
  refine mk_def hm F (pure_ok F sc_led (fun ds d ⟨p, rs, r, q, h, _⟩ => by rw [h]; rfl) fun cdv A outer s H E ds d hr hR => ?_) (fun _ _ _ _ _ _ us hl => match us, hl with | [_, _, _], _ => rfl)
  obtain ⟨p, rs, r, q, rfl, hq, ⟨h1, h2, h3⟩, rfl⟩ := hR
  show WS _ _ [.dat (I p), .dat q, .dat (TI r), .un] _ _
  have nd := sc_led.nd
  have G := d_dot (P := P) (w := w) (base := base) T
  refine w_one (w_ret (e_tupL T.n_tuple ?_) rfl)
  refine (lcn (own := [("each", 3)]) rs TI (fun a => [.dat (I p), .dat q, .dat (TI r), .dat (TI a)]) (fun a => I (dotB p a r)) rfl nd (blkOk_by (N := N_led) (sc := defScope s_led) (by decide +kernel)) (by omega)
    (i_sq (v 1 rfl) hq).o rfl (fun _ _ _ _ _ => dg_n (j := 3) nd) (by decide) (fun a _ => by rfl) (fun a ha _ _ _ _ _ => ?_)).e.e.is (by simp [ledB])
  exact e_call G hr ⟨p, a, r, rfl, ⟨h1, (h3 a ha).1, (h3 a ha).2⟩, rfl⟩ (a_cons (v 0 rfl) (a_cons (v 3 rfl) (a_cons (v 2 rfl) a_nil)))
end
end Lm
set_option maxRecDepth 100000
set_option maxHeartbeats 4000000
/-! Expressions that change a list of one's own, and what is stored from displays. -/
namespace Lm
open PySem PySem.Spec PyProof.Rows L2 Evl
/-- the addresses of the lists that are one's own -/
def OwnA (σ : L2.St) (ρ : En) (b : Addr) : Prop := ∃ (j : Nat) (es : List D), ρ[j]? = some (Slot.own es) ∧ σ[j]? = some (some (V.ref b))
structure XG (σ : L2.St) (ρ ρ' : En) (F H F' H' : Hp) : Prop where
  f : Ex F F'
  kept : ∀ b o, H b = some o → OwnA σ ρ b ∨ H' b = some o
  there : ∀ b, H' b = none → H b = none
  new : ∀ b, F b = none → F' b ≠ none → H b = none
  sl : ∀ (j : Nat) (es : List D), ρ'[j]? = some (Slot.own es) → ∃ fs, ρ[j]? = some (Slot.own fs)
theorem XG.own {σ : L2.St} {ρ ρ' : En} {F H F' H' : Hp} (g : XG σ ρ ρ' F H F' H') {b : Addr} (h : OwnA σ ρ' b) : OwnA σ ρ b := by
  obtain ⟨j, es, h1, h2⟩ := h
  obtain ⟨fs, h3⟩ := g.sl j es h1
  exact ⟨j, fs, h3, h2⟩
theorem XG.trans {σ : L2.St} {ρ ρ1 ρ2 : En} {F H F1 H1 F2 H2 : Hp} (a : XG σ ρ ρ1 F H F1 H1) (b : XG σ ρ1 ρ2 F1 H1 F2 H2) : XG σ ρ ρ2 F H F2 H2 :=
  ⟨a.f.trans b.f, fun x o h => (a.kept x o h).elim .inl fun h1 => (b.kept x o h1).imp_left a.own, fun x h => a.there x (b.there x h), fun x h1 h2 => by
    cases q : F1 x with
    | none => exact a.there x (b.new x q h2)
    | some o => exact a.new x h1 (by rw [q]; exact fun z => by cases z), fun j es h => by
    obtain ⟨fs, h1⟩ := b.sl j es h
    exact a.sl j fs h1⟩
theorem XG.of {σ : L2.St} {ρ : En} {F H F' H' : Hp} (g : Gr F H F' H') : XG σ ρ ρ F H F' H' := ⟨g.f, fun b o h => .inr (g.h b o h), fun b h => none_of g.h h, g.new, fun j es h => ⟨es, h⟩⟩
/-- a value that is to be put into a slot; H0: the heap ahead of its making -/
def SV (K : PySem.W.Frag) (c : Ct) (F H0 H : Hp) (v : V) : Slot → Prop
  | .dat d => Dp K F v d
  | .own ds => ∃ p vs, v = .ref p ∧ H p = some (HO.lst vs) ∧ F p = none ∧ c.H p = none ∧ H0 p = none ∧ DpAll K F vs ds
  | .un => True
def tX (K : PySem.W.Frag) (c : Ct) (ρ : En) (Φ : En → Slot → Prop) : TE := fun σ H Q => ∃ F, At K c σ F H ρ ∧ ∀ v F' H' ρ' s, Φ ρ' s → XG σ ρ ρ' F H F' H' → At K c σ F' H' ρ' → SV K c F' H H' v s → Q v H'
abbrev DX (X : Cx) (P : Option Addr) (ρ : En) (e : Expr) (Φ : En → Slot → Prop) : Prop := ∀ c : Ct, c.P = P → PE X e (tX X.K c ρ Φ)
def tXT (K : PySem.W.Frag) (c : Ct) (ρ : En) (Φ : En → Bool → Prop) : TT := fun σ H Q => ∃ F, At K c σ F H ρ ∧ ∀ b F' H' ρ', Φ ρ' b → XG σ ρ ρ' F H F' H' → At K c σ F' H' ρ' → Q b H'
abbrev DXT (X : Cx) (P : Option Addr) (ρ : En) (e : Expr) (Φ : En → Bool → Prop) : Prop := ∀ c : Ct, c.P = P → PT X e (tXT X.K c ρ Φ)
abbrev DXW (X : Cx) (P : Option Addr) (ρ : En) (e : Expr) (Φ : En → Bool → Prop) : Prop := ∀ c : Ct, c.P = P → PW X e (tXT X.K c ρ Φ)
def tXA (K : PySem.W.Frag) (c : Ct) (ρ : En) (Φ : En → List D → Prop) : TA := fun σ H Q => ∃ F, At K c σ F H ρ ∧ ∀ vs F' H' ρ' ds, Φ ρ' ds → XG σ ρ ρ' F H F' H' → At K c σ F' H' ρ' → DpAll K F' vs ds → Q vs H'
abbrev DXA (X : Cx) (P : Option Addr) (ρ : En) (es : List Expr) (Φ : En → List D → Prop) : Prop := ∀ c : Ct, c.P = P → PA X es (tXA X.K c ρ Φ)
/-- any reading of an expression: the one reading that they all are weaker than -/
def anyE (X : Cx) (e : Expr) : TE := fun σ H Q => ∃ t, PE X e t ∧ t σ H Q
theorem anyE_ok {X : Cx} {e : Expr} : PE X e (anyE X e) := ⟨fun pins s σ H Q I ⟨t, h, q⟩ => h.run pins s σ H Q I q⟩
def anyA (X : Cx) (e : List Expr) : TA := fun σ H Q => ∃ t, PA X e t ∧ t σ H Q
theorem anyA_ok {X : Cx} {e : List Expr} : PA X e (anyA X e) := ⟨fun pos pins s σ H Q I ⟨t, h, q⟩ => h.run pos pins s σ H Q I q⟩
def anyT (X : Cx) (e : Expr) : TT := fun σ H Q => ∃ t, PT X e t ∧ t σ H Q
theorem anyT_ok {X : Cx} {e : Expr} : PT X e (anyT X e) := ⟨fun pins s σ H Q I ⟨t, h, q⟩ => h.run pins s σ H Q I q⟩
def anyW (X : Cx) (e : Expr) : TT := fun σ H Q => ∃ t, PW X e t ∧ t σ H Q
theorem anyW_ok {X : Cx} {e : Expr} : PW X e (anyW X e) := ⟨fun wh pins s σ H Q I ⟨t, h, q⟩ => h.run wh pins s σ H Q I q⟩
def anyS (X : Cx) (e : List Stmt) : TS := fun D σ H => ∃ t, PSs X e t ∧ t D σ H
theorem anyS_ok {X : Cx} {e : List Stmt} : PSs X e (anyS X e) := ⟨fun pins s σ H Q I ⟨t, h, q⟩ => h.run pins s σ H Q I q⟩

section
variable {K : PySem.W.Frag} {c : Ct} {σ : L2.St} {F H F' H' H0 : Hp} {ρ ρ' : En} {v : V} {s : Slot}
theorem At.own_ne (a : At K c σ F H ρ) {q : Addr} (hq : H q = none) : ¬ OwnA σ ρ q := fun ⟨j, es, h1, h2⟩ => by
  obtain ⟨p, vs, e1, e2, _⟩ := a.s.own j es h1
  rw [h2] at e1
  cases e1
  rw [hq] at e2
  cases e2
/-- a value kept while another is reckoned -/
theorem SV.on (a0 : At K c σ F0 H0 ρ0) (h : SV K c F H0 H v s) (g0 : XG σ ρ0 ρ F0 H0 F H) (g : XG σ ρ ρ' F H F' H') : SV K c F' H0 H' v s := by
  cases s with
  | dat d => exact dp_ex g.f h
  | un => exact h
  | own ds =>
    obtain ⟨p, vs, rfl, h1, h2, h3, h4, h5⟩ := h
    refine ⟨p, vs, rfl, ?_, ?_, h3, h4, dpa_ex g.f h5⟩
    · exact (g.kept p _ h1).resolve_left fun z => a0.own_ne h4 (g0.own z)
    · cases q : F' p with
      | none => rfl
      | some o =>
        have := g.new p h2 (by rw [q]; exact fun z => by cases z)
        rw [h1] at this
        cases this
theorem At.put (a : At K c σ F H ρ) (i : Nat) (h : SV K c F H0 H v s) (hs : s ≠ .un) (h0 : c.P = none ∨ i ≠ 0) (hn : ∀ q, H0 q = none → ¬ OwnA σ ρ q) : At K c (σ.set i (some v)) F H (ρ.set i s) := by
  cases s with
  | dat d => exact a.set i h h0
  | un => exact absurd rfl hs
  | own ds =>
    obtain ⟨p, vs, rfl, h1, h2, h3, h4, h5⟩ := h
    exact a.setO i h1 h2 h5 h3 (fun j es e1 e2 => hn p h4 ⟨j, es, e1, e2⟩) h0
end
section
variable {X : Cx} {P : Option Addr} {ρ : En} {e a b : Expr} {d : D} {ds : List D} {i j : Int} {pos : Pos} {Φ Ψ : En → Slot → Prop}
theorem x_e (h : DE X ρ e d) (q : Φ ρ (.dat d)) : DX X P ρ e Φ := fun c _ => weakE h fun σ H Q ⟨F, a, k⟩ => ⟨F, a.s, fun v F' H' g hv => k v F' H' ρ _ q (.of g) (a.mono g) hv⟩
theorem x_l (h : DL X ρ e ds) (q : Φ ρ (.own ds)) : DX X P ρ e Φ := fun c _ => weakE h fun σ H Q ⟨F, a, k⟩ => ⟨F, a.s, fun p vs F' H' g h1 h2 h3 h4 => k _ F' H' ρ _ q (.of g) (a.mono g) ⟨p, vs, rfl, h3, h2, a.c.there p h1, h1, h4⟩⟩
theorem x_mono (h : DX X P ρ e Φ) (w : ∀ ρ' s, Φ ρ' s → Ψ ρ' s) : DX X P ρ e Ψ := fun c hc => weakE (h c hc) fun σ H Q ⟨F, a, k⟩ => ⟨F, a, fun v F' H' ρ' s q => k v F' H' ρ' s (w ρ' s q)⟩
/-- a new list is frozen -/
theorem At.frzN {K : PySem.W.Frag} {c : Ct} {σ : L2.St} {F H : Hp} {ρ : En} (a : At K c σ F H ρ) {p : Addr} {vs : List V} (h1 : H p = some (.lst vs)) (h2 : F p = none) (h3 : c.H p = none) (hn : ¬ OwnA σ ρ p) : At K c σ (upd F p (.lst vs)) H ρ := by
  have fx : Ex F (upd F p (.lst vs)) := Ex.new h2
  refine ⟨⟨fun b o hb => ?_, a.s.len, fun j d hj => ?_, fun j es hj => ?_, a.s.dis⟩, a.c.f.trans fx, a.c.kept, a.c.there, fun b g1 g2 => ?_, a.c.own, fun x hx => ?_⟩
  · by_cases hb' : b = p
    · subst hb'
      rw [upd_same] at hb
      rw [h1]
      exact hb
    · rw [upd_ne hb'] at hb
      exact a.s.sub b o hb
  · obtain ⟨v, f1, f2⟩ := a.s.dat j d hj
    exact ⟨v, f1, dp_ex fx f2⟩
  · obtain ⟨q, xs, f1, f2, f3, f4⟩ := a.s.own j es hj
    refine ⟨q, xs, f1, f2, ?_, dpa_ex fx f4⟩
    rw [upd_ne (fun z => hn ⟨j, es, hj, by rw [← z]; exact f1⟩)]
    exact f3
  · by_cases hb' : b = p
    · rw [hb']
      exact h3
    · rw [upd_ne hb'] at g2
      exact a.c.new b g1 g2
  · obtain ⟨g1, g2, g3, g4⟩ := a.c.par x hx
    refine ⟨g1, g2, ?_, g4⟩
    obtain ⟨es, g4⟩ := g4
    rw [upd_ne (fun z => hn ⟨0, es, g4, by rw [← z]; exact g1⟩)]
    exact g3
theorem x_frz (h : DX X P ρ e fun ρ' s => ∃ ds, s = .own ds ∧ Φ ρ' (.dat (.list ds))) : DX X P ρ e Φ := fun c hc => weakE (h c hc) fun σ H Q ⟨F, a, k⟩ => ⟨F, a, fun v F' H' ρ' s ⟨ds, hs, q⟩ g a' hv => by
  subst hs
  obtain ⟨p, vs, rfl, h1, h2, h3, h4, h5⟩ := hv
  have hn : ¬ OwnA σ ρ' p := fun z => a.own_ne h4 (g.own z)
  refine k _ (upd F' p (.lst vs)) H' ρ' _ q ⟨g.f.trans (Ex.new h2), g.kept, g.there, fun b g1 g2 => ?_, g.sl⟩ (a'.frzN h1 h2 h3 hn) (.lst (SqL.of upd_same) (dpa_ex (Ex.new h2) h5))
  by_cases hb : b = p
  · rw [hb]
    exact h4
  · rw [upd_ne hb] at g2
    exact g.new b g1 g2⟩
/-- an operator, the second operand with a change -/
theorem x_opR {op : Operator} {r : R2} {da : D} (ho : OpR X (binaryOp op) r) (ha : DE X ρ a da) (hb : DX X P ρ b fun ρ' s => ∃ db d, s = .dat db ∧ RD X.K r da db d ∧ Φ ρ' (.dat d)) : DX X P ρ (.BinOp a op b pos) Φ := fun c hc =>
  weakE (pe_op ho ha (hb c hc)) fun σ H Q ⟨F, A, q⟩ => ⟨F, A.s, fun x F1 H1 g1 hx => ⟨F1, A.mono g1, fun y F2 H2 ρ2 s ⟨db, d, hs, hr, hΦ⟩ g2 A2 hy => by
    subst hs
    exact hr x y F2 H2 A2.s.sub (dp_ex g2.f hx) hy Q fun v F' H' g hv => q v F' H' ρ2 _ hΦ (((XG.of g1).trans g2).trans (.of g)) (A2.mono g) hv⟩⟩
/-- .. the first one -/
theorem x_opL {op : Operator} {r : R2} (ho : OpR X (binaryOp op) r) (ha : DX X P ρ a fun ρ' s => ∃ da db d, s = .dat da ∧ DE X ρ' b db ∧ RD X.K r da db d ∧ Φ ρ' (.dat d)) : DX X P ρ (.BinOp a op b pos) Φ := fun c hc =>
  weakE (pe_op ho (ha c hc) anyE_ok) fun σ H Q ⟨F, A, q⟩ => ⟨F, A, fun x F1 H1 ρ1 s ⟨da, db, d, hs, hb, hr, hΦ⟩ g1 A1 hx => ⟨_, hb, F1, A1.s, fun y F2 H2 g2 hy => by
    subst hs
    exact hr x y F2 H2 g2.sub (dp_ex g2.f hx) hy Q fun v F' H' g hv => q v F' H' ρ1 _ hΦ ((g1.trans (.of g2)).trans (.of g)) ((A1.mono g2).mono g) hv⟩⟩
theorem x_add (ha : DE X ρ a (.int i)) (hb : DX X P ρ b fun ρ' s => ∃ j, s = .dat (.int j) ∧ Φ ρ' (.dat (.int (i + j)))) : DX X P ρ (.BinOp a .Add b pos) Φ :=
  x_opR op_add ha (x_mono hb fun ρ' s ⟨j, hs, h⟩ => ⟨_, _, hs, rd_I0, h⟩)
theorem x_modp {b : Expr} (ha : DX X P ρ a fun ρ' s => ∃ i j, s = .dat (.int i) ∧ DE X ρ' b (.int j) ∧ 0 < j ∧ Φ ρ' (.dat (.int (i % j)))) : DX X P ρ (.BinOp a .Mod b pos) Φ :=
  x_opL op_mod (x_mono ha fun ρ' s ⟨i, j, hs, hb, hj, h⟩ => ⟨_, _, _, hs, hb, rd_I hj, h⟩)
/-- comparisons -/
theorem xt_cmpL {op : CmpOp} {r : R2} {Φ : En → Bool → Prop} (ho : OpR X (compareOp op) r) (ha : DX X P ρ a fun ρ' s => ∃ da db k, s = .dat da ∧ DE X ρ' b db ∧ RD X.K r da db (.bool k) ∧ Φ ρ' k) (hm : behindInMarks op b = false) : DXT X P ρ (.Compare a [op] [b] pos) Φ := fun c hc =>
  weakT (pt_cmpR ho (ha c hc) anyE_ok hm) fun σ H Q ⟨F, A, q⟩ => ⟨F, A, fun x F1 H1 ρ1 s ⟨da, db, k, hs, hb, hr, hΦ⟩ g1 A1 hx => ⟨_, hb, F1, A1.s, fun y F2 H2 g2 hy => by
    subst hs
    exact hr x y F2 H2 g2.sub (dp_ex g2.f hx) hy _ fun v F' H' g hv => ⟨k, dp_bl hv, q k F' H' ρ1 hΦ ((g1.trans (.of g2)).trans (.of g)) ((A1.mono g2).mono g)⟩⟩⟩
theorem x_cmpL {op : CmpOp} {r : R2} (ho : OpR X (compareOp op) r) (ha : DX X P ρ a fun ρ' s => ∃ da db d, s = .dat da ∧ DE X ρ' b db ∧ RD X.K r da db d ∧ Φ ρ' (.dat d)) (hm : behindInMarks op b = false) : DX X P ρ (.Compare a [op] [b] pos) Φ := fun c hc =>
  weakE (pe_cmpR ho (ha c hc) anyE_ok hm) fun σ H Q ⟨F, A, q⟩ => ⟨F, A, fun x F1 H1 ρ1 s ⟨da, db, d, hs, hb, hr, hΦ⟩ g1 A1 hx => ⟨_, hb, F1, A1.s, fun y F2 H2 g2 hy => by
    subst hs
    exact hr x y F2 H2 g2.sub (dp_ex g2.f hx) hy _ fun v F' H' g hv => q v F' H' ρ1 _ hΦ ((g1.trans (.of g2)).trans (.of g)) ((A1.mono g2).mono g) hv⟩⟩
theorem xt_eqi {Φ : En → Bool → Prop} (ha : DX X P ρ a fun ρ' s => ∃ i j, s = .dat (.int i) ∧ DE X ρ' b (.int j) ∧ Φ ρ' (decide (i = j))) : DXT X P ρ (.Compare a [.Eq] [b] pos) Φ :=
  xt_cmpL op_eq (x_mono ha fun ρ' s ⟨i, j, hs, hb, h⟩ => ⟨_, _, _, hs, hb, rd_eqi, h⟩) (nomark _)
theorem x_eqi (ha : DX X P ρ a fun ρ' s => ∃ i j, s = .dat (.int i) ∧ DE X ρ' b (.int j) ∧ Φ ρ' (.dat (.bool (decide (i = j))))) : DX X P ρ (.Compare a [.Eq] [b] pos) Φ :=
  x_cmpL op_eq (x_mono ha fun ρ' s ⟨i, j, hs, hb, h⟩ => ⟨_, _, _, hs, hb, rd_eqi, h⟩) (nomark _)
theorem xt_gt {Φ : En → Bool → Prop} (ha : DX X P ρ a fun ρ' s => ∃ i j, s = .dat (.int i) ∧ DE X ρ' b (.int j) ∧ Φ ρ' (decide (j < i))) : DXT X P ρ (.Compare a [.Gt] [b] pos) Φ :=
  xt_cmpL op_gt (x_mono ha fun ρ' s ⟨i, j, hs, hb, h⟩ => ⟨_, _, _, hs, hb, rd_B0, h⟩) (nomark _)
theorem xt_t {Φ : En → Bool → Prop} {k : Bool} (h : DT X ρ e k) (q : Φ ρ k) : DXT X P ρ e Φ := fun c _ => weakT h fun σ H Q ⟨F, a, w⟩ => ⟨F, a.s, fun F' H' g => w k F' H' ρ q (.of g) (a.mono g)⟩
theorem xt_mono {Φ Ψ : En → Bool → Prop} (h : DXT X P ρ e Φ) (w : ∀ ρ' s, Φ ρ' s → Ψ ρ' s) : DXT X P ρ e Ψ := fun c hc => weakT (h c hc) fun σ H Q ⟨F, a, k⟩ => ⟨F, a, fun v F' H' ρ' q => k v F' H' ρ' (w ρ' v q)⟩
theorem xw_and1 {Φ : En → Bool → Prop} (h : DXT X P ρ a Φ) : DXW X P ρ (.BoolOp .And [a] pos) Φ := fun c hc => pw_and1 (h c hc)
theorem xw_or1 {Φ : En → Bool → Prop} (h : DXT X P ρ a Φ) : DXW X P ρ (.BoolOp .Or [a] pos) Φ := fun c hc => pw_or1 (h c hc)
theorem xw_and {Φ : En → Bool → Prop} {rest : List Expr} (ha : DXT X P ρ a fun ρ' k => if k = true then DXW X P ρ' (.BoolOp .And (b :: rest) pos) Φ else Φ ρ' false) : DXW X P ρ (.BoolOp .And (a :: b :: rest) pos) Φ := fun c hc =>
  weakW (pw_and (ha c hc) anyW_ok) fun σ H Q ⟨F, A, q⟩ => ⟨F, A, fun k F' H' ρ' hk g A' => by
    cases k with
    | true =>
      rw [if_pos rfl] at hk
      exact ⟨_, hk c hc, F', A', fun k2 F2 H2 ρ2 h2 g2 A2 => q k2 F2 H2 ρ2 h2 (g.trans g2) A2⟩
    | false =>
      rw [if_neg Bool.false_ne_true] at hk
      exact q false F' H' ρ' hk g A'⟩
theorem xw_or {Φ : En → Bool → Prop} {rest : List Expr} (ha : DXT X P ρ a fun ρ' k => if k = true then Φ ρ' true else DXW X P ρ' (.BoolOp .Or (b :: rest) pos) Φ) : DXW X P ρ (.BoolOp .Or (a :: b :: rest) pos) Φ := fun c hc =>
  weakW (pw_or (ha c hc) anyW_ok) fun σ H Q ⟨F, A, q⟩ => ⟨F, A, fun k F' H' ρ' hk g A' => by
    cases k with
    | false =>
      rw [if_neg Bool.false_ne_true] at hk
      exact ⟨_, hk c hc, F', A', fun k2 F2 H2 ρ2 h2 g2 A2 => q k2 F2 H2 ρ2 h2 (g.trans g2) A2⟩
    | true =>
      rw [if_pos rfl] at hk
      exact q true F' H' ρ' hk g A'⟩
theorem xt_w {Φ : En → Bool → Prop} (h : DXW X P ρ e Φ) : DXT X P ρ e Φ := fun c hc => (h c hc).pt
theorem x_if {t : Expr} (ht : DXT X P ρ t fun ρ' k => if k = true then DX X P ρ' a Φ else DX X P ρ' b Φ) : DX X P ρ (.IfExp t a b pos) Φ := fun c hc =>
  weakE (pe_ifExp (ht c hc) anyE_ok anyE_ok) fun σ H Q ⟨F, A, q⟩ => ⟨F, A, fun k F' H' ρ' hk g A' => by
    have fin : ∀ x, DX X P ρ' x Φ → anyE X x σ H' Q := fun x hx => ⟨_, hx c hc, F', A', fun v F2 H2 ρ2 s hs g2 A2 hv => q v F2 H2 ρ2 s hs (g.trans g2) A2 (by
      cases s with
      | dat d => exact hv
      | un => exact hv
      | own ds =>
        obtain ⟨p, vs, h0, h1, h2, h3, h4, h5⟩ := hv
        exact ⟨p, vs, h0, h1, h2, h3, g.there p h4, h5⟩)⟩
    cases k with
    | true =>
      rw [if_pos rfl] at hk
      exact iteT (fin _ hk)
    | false =>
      rw [if_neg Bool.false_ne_true] at hk
      exact iteF (fin _ hk)⟩
/-- s[e]: a tuple's item, at a place that a change tells -/
theorem x_ixT (ha : DE X ρ a (.tuple ds)) (hb : DX X P ρ b fun ρ' s => ∃ i d, s = .dat (.int i) ∧ atI ds i = some d ∧ Φ ρ' (.dat d)) (hs : PlainIx b := by intro _ _; rfl) : DX X P ρ (.Subscript a b pos) Φ := fun c hc =>
  weakE (pe_ix ix_tup ha (hb c hc) hs) fun σ H Q ⟨F, A, q⟩ => ⟨F, A.s, fun x F1 H1 g1 hx => ⟨F1, A.mono g1, fun y F2 H2 ρ2 s ⟨i, d, hs, hi, hΦ⟩ g2 A2 hy => by
    subst hs
    obtain ⟨p, vs, rfl, h1, h2⟩ := dp_tup hx
    obtain ⟨v, h3, h4⟩ := dpa_at h2 hi
    exact ⟨p, vs, i, v, rfl, dp_int hy, ex_t (g2.f.trans A2.s.sub) h1, h3, q v F2 H2 ρ2 _ hΦ ((XG.of g1).trans g2) A2 (dp_ex g2.f h4)⟩⟩⟩
/-! arguments -/
theorem xa_nil {Φ : En → List D → Prop} (h : Φ ρ []) : DXA X P ρ [] Φ := fun c hc => weakA pa_nil fun σ H Q ⟨F, A, q⟩ => q [] F H ρ [] h (.of (Gr.refl A.s.sub)) A .nil
theorem xa_cons {es : List Expr} {Φ : En → List D → Prop} (h : DX X P ρ e fun ρ' s => ∃ d, s = .dat d ∧ DXA X P ρ' es fun ρ2 ds => Φ ρ2 (d :: ds)) (hx : starEach (e :: es) X.env = (false, eval e X.env) :: starEach es X.env := by rfl) : DXA X P ρ (e :: es) Φ := fun c hc =>
  weakA (pa_cons (h c hc) anyA_ok hx) fun σ H Q ⟨F, A, q⟩ => ⟨F, A, fun v F1 H1 ρ1 s ⟨d, hs, hr⟩ g1 A1 hv => ⟨_, hr c hc, F1, A1, fun vs F2 H2 ρ2 ds hΦ g2 A2 hvs => by
    subst hs
    exact q (v :: vs) F2 H2 ρ2 (d :: ds) hΦ (g1.trans g2) A2 (.cons (dp_ex g2.f hv) hvs)⟩⟩
theorem xa_a {es : List Expr} {Φ : En → List D → Prop} (h : DA X ρ es ds) (q : Φ ρ ds) : DXA X P ρ es Φ := fun c hc => weakA h fun σ H Q ⟨F, A, w⟩ => ⟨F, A.s, fun vs F' H' g hv => w vs F' H' ρ ds q (.of g) (A.mono g) hv⟩
theorem x_tup {es : List Expr} {x1 : Nat} (h : DXA X P ρ es fun ρ' ds => ds.length ≤ 100000 ∧ Φ ρ' (.dat (.tuple ds))) : DX X P ρ (.Tuple es x1 pos) Φ := fun c hc =>
  weakE (pe_tup (h c hc)) fun σ H Q ⟨F, A, q⟩ => ⟨F, A, fun vs F' H' ρ' ds ⟨hl, hΦ⟩ g A' hv => ⟨sz_of (by rw [dpa_len hv]; exact hl), fun p hp => by
    have gf := Gr.fr (o := .tup vs) A'.s.sub hp
    exact q _ _ _ ρ' _ hΦ (g.trans (.of gf)) (A'.mono gf) (.tup (SqT.of upd_same) (dpa_ex (Ex.new (none_of A'.s.sub hp)) hv))⟩⟩
/-- a built-in on arguments with changes -/
theorem x_callB {x : Str} {p : Pos} {l : List Expr} {bid : String} {r : List V → Hp → VK → Prop} (hc0 : CallR X (.builtin bid) r) (hm : X.mg x = none) (hv : bootBuiltins x = some (.builtin bid)) (ha : DXA X P ρ (e :: l) fun ρ' ds => ∃ d, RC X.K r ds d ∧ Φ ρ' (.dat d)) (hg : Gl X x := by rfl) (hn : x ≠ "__name__" := by decide) (hdb : (x == ("__debug__" : Str)) = false := by decide)
    (he : starEach (e :: l) X.env = (false, eval e X.env) :: starEach l X.env := by rfl) (hpl : (backTo pos (starEach l X.env)).any (·.1) = false := by rfl) : DX X P ρ (.Call (.Name x p) (e :: l) [] pos) Φ := fun c hc =>
  weakE (pe_callB hc0 hg hm hv (ha c hc) hn hdb he hpl) fun σ H Q ⟨F, A, q⟩ => ⟨F, A, fun vs F' H' ρ' ds ⟨d, hr, hΦ⟩ g A' hv => hr vs F' H' A'.s.sub hv Q fun v F2 H2 g2 h2 => q v F2 H2 ρ' _ hΦ (g.trans (.of g2)) (A'.mono g2) h2⟩
theorem x_callTy {x : Str} {p : Pos} {l : List Expr} {T : String} {r : List V → Hp → VK → Prop} (hc0 : CallR X (.type T) r) (hm : X.mg x = none) (hv : bootBuiltins x = some (.type T)) (ha : DXA X P ρ (e :: l) fun ρ' ds => ∃ d, RC X.K r ds d ∧ Φ ρ' (.dat d)) (hg : Gl X x := by rfl) (hn : x ≠ "__name__" := by decide) (hdb : (x == ("__debug__" : Str)) = false := by decide)
    (he : starEach (e :: l) X.env = (false, eval e X.env) :: starEach l X.env := by rfl) (hpl : (backTo pos (starEach l X.env)).any (·.1) = false := by rfl) : DX X P ρ (.Call (.Name x p) (e :: l) [] pos) Φ := fun c hc =>
  weakE (pe_callTy hc0 hg hm hv (ha c hc) hn hdb he hpl) fun σ H Q ⟨F, A, q⟩ => ⟨F, A, fun vs F' H' ρ' ds ⟨d, hr, hΦ⟩ g A' hv => hr vs F' H' A'.s.sub hv Q fun v F2 H2 g2 h2 => q v F2 H2 ρ' _ hΦ (g.trans (.of g2)) (A'.mono g2) h2⟩
/-- .. that makes a new list -/
theorem x_callTyL {x : Str} {p : Pos} {l : List Expr} {T : String} {r : List V → Hp → VK → Prop} (hc0 : CallR X (.type T) r) (hm : X.mg x = none) (hv : bootBuiltins x = some (.type T)) (ha : DXA X P ρ (e :: l) fun ρ' ds => ∃ es, RCL X.K r ds es ∧ Φ ρ' (.own es)) (hg : Gl X x := by rfl) (hn : x ≠ "__name__" := by decide) (hdb : (x == ("__debug__" : Str)) = false := by decide)
    (he : starEach (e :: l) X.env = (false, eval e X.env) :: starEach l X.env := by rfl) (hpl : (backTo pos (starEach l X.env)).any (·.1) = false := by rfl) : DX X P ρ (.Call (.Name x p) (e :: l) [] pos) Φ := fun c hc =>
  weakE (pe_callTy hc0 hg hm hv (ha c hc) hn hdb he hpl) fun σ H Q ⟨F, A, q⟩ => ⟨F, A, fun vs F' H' ρ' ds ⟨es, hr, hΦ⟩ g A' hv => hr vs F' H' A'.s.sub hv Q fun p ws F2 H2 g2 h1 h2 h3 h4 => q _ F2 H2 ρ' _ hΦ (g.trans (.of g2)) (A'.mono g2) ⟨p, ws, rfl, h3, h2, A'.c.there p h1, g.there p h1, h4⟩⟩
/-- a def of one's own that changes nothing -/
theorem x_call {x : Str} {p : Pos} {l : List Expr} {k : Nat} {ps : List Str} {R : List D → D → Prop} (G : Def X.prog X.w X.K X.mg X.base CX0 x k ps (SpP X.K R)) (hr : Room k X.A) (ha : DXA X P ρ (e :: l) fun ρ' ds => ∃ d, R ds d ∧ Φ ρ' (.dat d)) (hg : Gl X x := by rfl) (hdb : (x == ("__debug__" : Str)) = false := by decide)
    (he : starEach (e :: l) X.env = (false, eval e X.env) :: starEach l X.env := by rfl) (hpl : (backTo pos (starEach l X.env)).any (·.1) = false := by rfl) : DX X P ρ (.Call (.Name x p) (e :: l) [] pos) Φ := fun c hc => by
  obtain ⟨f, fd, hm, hk, hb, G⟩ := G
  refine weakE (pe_call G hr hg hm hk hb .nil pass0 (ha c hc) hdb he hpl) fun σ H Q ⟨F, A, q⟩ => ⟨F, A, fun vs F' H' ρ' ds ⟨d, hR, hΦ⟩ g A' hv => ?_⟩
  show SpP X.K R (vs ++ []) H' Q E0
  rw [List.append_nil]
  exact ⟨ds, d, F', hR, A'.s.sub, hv, fun v F2 H2 g2 h2 => q v F2 H2 ρ' _ hΦ (g.trans (.of g2)) (A'.mono g2) h2⟩
/-- a def whose first argument is a list that it may change: R: its items, the other arguments, what is wanted of the items and the answer behind it -/
def SpW (K : PySem.W.Frag) (R : List D → List D → (List D → D → Prop) → Prop) : Sp := fun vs H Q _ => ∃ (a : Addr) (vr ws : List V) (w ds : List D) (F : Hp) (Φ : List D → D → Prop), vs = .ref a :: vr ∧ H a = some (HO.lst ws) ∧ F a = none ∧ Ex F H ∧ DpAll K F ws w ∧ DpAll K F vr ds ∧ R w ds Φ ∧
  ∀ v F' H' ws' w' d, Φ w' d → Ex F F' → Ex F' H' → (∀ b o, H b = some o → b = a ∨ H' b = some o) → (∀ b, F b = none → F' b ≠ none → H b = none) → F' a = none → H' a = some (HO.lst ws') → DpAll K F' ws' w' → Dp K F' v d → Q v H'
/-- f(x, ..): x a list that is one's own -/
theorem x_callWC (n : Nat) {x y : Str} {p py : Pos} {l : List Expr} {R : List D → List D → (List D → D → Prop) → Prop} {w0 : List D} (G : Cb X x (SpW X.K R)) (hρ : ρ[n]? = some (Slot.own w0))
    (ha : DXA X P ρ l fun ρ' ds => ∃ w, ρ'[n]? = some (Slot.own w) ∧ R w ds fun w' d => Φ (ρ'.set n (.own w')) (.dat d)) (hN : X.N[n]? = some y := by rfl)
    (hvis : Vis X.env.scope y := by first | exact Or.inl rfl | exact Or.inr (Or.inl rfl) | exact Or.inr (Or.inr rfl)) (hd : (y == ("__debug__" : Str)) = false := by decide) (hcd : (y == ("__classdict__" : Str)) = false := by decide) (hg : Gl X x := by rfl) (hdb : (x == ("__debug__" : Str)) = false := by decide)
    (he : starEach (.Name y py :: l) X.env = (false, eval (.Name y py) X.env) :: starEach l X.env := by rfl) (hpl : (backTo pos (starEach l X.env)).any (·.1) = false := by rfl) : DX X P ρ (.Call (.Name x p) (.Name y py :: l) [] pos) Φ := fun c hc => by
  refine weakE (G _ _ _ p pos (pa_cons (pe_var hN hvis hd hcd) (ha c hc) he) hg hdb he hpl) fun σ H Q ⟨F, A, q⟩ => ?_
  obtain ⟨a, ws0, h1, h2, h3, h4⟩ := A.s.own n w0 hρ
  refine ⟨_, h1, F, A, fun vs F' H' ρ' ds ⟨w, hw, hR⟩ g A' hv => ?_⟩
  show SpW X.K R (V.ref a :: vs ++ []) H' Q E0
  rw [List.append_nil]
  obtain ⟨a', ws, e1, e2, e3, e4⟩ := A'.s.own n w hw
  rw [h1] at e1
  cases e1
  refine ⟨a, vs, ws, w, ds, F', _, rfl, e2, e3, A'.s.sub, e4, hv, hR, fun v F2 H2 ws' w' d hΦ f1 f2 f3 f4 f5 f6 f7 f8 => ?_⟩
  have hl : n < ρ'.length := (List.getElem?_eq_some_iff.mp hw).1
  -- the state behind the call
  have A2 : At X.K c σ F2 H2 (ρ'.set n (.own w')) := by
    refine ⟨⟨f2, by rw [List.length_set]; exact A'.s.len, fun j d' hj => ?_, fun j es hj => ?_, fun j k' es fs x hj hk' gj gk => ?_⟩, A'.c.f.trans f1, fun b o hbo => ?_, fun b hbn => ?_, fun b g1 g2 => ?_, fun j es x hj gj => ?_, fun x hx => ?_⟩
    · by_cases hi : n = j
      · subst hi
        rw [List.getElem?_set_self hl] at hj
        cases hj
      · rw [List.getElem?_set_ne hi] at hj
        obtain ⟨u, u1, u2⟩ := A'.s.dat j d' hj
        exact ⟨u, u1, dp_ex f1 u2⟩
    · by_cases hi : n = j
      · subst hi
        rw [List.getElem?_set_self hl] at hj
        cases hj
        exact ⟨a, ws', h1, f6, f5, f7⟩
      · rw [List.getElem?_set_ne hi] at hj
        obtain ⟨b, xs, u1, u2, u3, u4⟩ := A'.s.own j es hj
        have hne : b ≠ a := fun z => hi (A'.s.dis n j w es a hw hj h1 (by rw [u1, z]))
        refine ⟨b, xs, u1, (f3 b _ u2).resolve_left hne, ?_, dpa_ex f1 u4⟩
        cases z : F2 b with
        | none => rfl
        | some o =>
          have := f4 b u3 (by rw [z]; exact fun z => by cases z)
          rw [u2] at this
          cases this
    · have back : ∀ (m : Nat) (fs : List D), (ρ'.set n (.own w'))[m]? = some (Slot.own fs) → ∃ gs, ρ'[m]? = some (Slot.own gs) := fun m fs hm => by
        by_cases hi : n = m
        · subst hi
          exact ⟨w, hw⟩
        · rw [List.getElem?_set_ne hi] at hm
          exact ⟨fs, hm⟩
      obtain ⟨z1, hj'⟩ := back j es hj
      obtain ⟨z2, hk2⟩ := back k' fs hk'
      exact A'.s.dis j k' z1 z2 x hj' hk2 gj gk
    · rcases A'.c.kept b o hbo with z | z
      · exact .inl z
      · rcases f3 b o z with y | y
        · subst y
          rcases A'.c.own n w b hw h1 with u | u
          · exact .inl u
          · rw [u] at hbo
            cases hbo
        · exact .inr y
    · cases z : H' b with
      | none => exact A'.c.there b z
      | some o =>
        rcases f3 b o z with y | y
        · subst y
          rw [f6] at hbn
          cases hbn
        · rw [y] at hbn
          cases hbn
    · cases z : F' b with
      | none => exact A'.c.there b (f4 b z g2)
      | some o => exact A'.c.new b g1 (by rw [z]; exact fun z => by cases z)
    · by_cases hi : n = j
      · subst hi
        exact A'.c.own n w x hw gj
      · rw [List.getElem?_set_ne hi] at hj
        exact A'.c.own j es x hj gj
    · obtain ⟨u1, u2, u3, u4⟩ := A'.c.par x hx
      refine ⟨u1, fun z => ?_, ?_, ?_⟩
      · cases y : H' x with
        | none => exact u2 y
        | some o =>
          rcases f3 x o y with r | r
          · subst r
            rw [f6] at z
            cases z
          · rw [r] at z
            cases z
      · cases y : F2 x with
        | none => rfl
        | some o => exact absurd (f4 x u3 (by rw [y]; exact fun z => by cases z)) u2
      · by_cases hi : n = 0
        · subst hi
          exact ⟨w', List.getElem?_set_self hl⟩
        · obtain ⟨es, u4⟩ := u4
          exact ⟨es, by rw [List.getElem?_set_ne hi]; exact u4⟩
  refine q v F2 H2 _ _ hΦ (g.trans ⟨f1, fun b o hbo => (f3 b o hbo).imp_left fun z => ⟨n, w, hw, by rw [z]; exact h1⟩, fun b hbn => ?_, f4, fun j es hj => ?_⟩) A2 f8
  · cases z : H' b with
    | none => rfl
    | some o =>
      rcases f3 b o z with y | y
      · subst y
        rw [f6] at hbn
        cases hbn
      · rw [y] at hbn
        cases hbn
  · by_cases hi : n = j
    · subst hi
      exact ⟨w, hw⟩
    · rw [List.getElem?_set_ne hi] at hj
      exact ⟨es, hj⟩
theorem x_callW (n : Nat) {x y : Str} {p py : Pos} {l : List Expr} {k : Nat} {ps : List Str} {R : List D → List D → (List D → D → Prop) → Prop} {w0 : List D} (G : Def X.prog X.w X.K X.mg X.base CX0 x k ps (SpW X.K R)) (hr : Room k X.A) (hρ : ρ[n]? = some (Slot.own w0))
    (ha : DXA X P ρ l fun ρ' ds => ∃ w, ρ'[n]? = some (Slot.own w) ∧ R w ds fun w' d => Φ (ρ'.set n (.own w')) (.dat d)) (hN : X.N[n]? = some y := by rfl)
    (hvis : Vis X.env.scope y := by first | exact Or.inl rfl | exact Or.inr (Or.inl rfl) | exact Or.inr (Or.inr rfl)) (hd : (y == ("__debug__" : Str)) = false := by decide) (hcd : (y == ("__classdict__" : Str)) = false := by decide) (hg : Gl X x := by rfl) (hdb : (x == ("__debug__" : Str)) = false := by decide)
    (he : starEach (.Name y py :: l) X.env = (false, eval (.Name y py) X.env) :: starEach l X.env := by rfl) (hpl : (backTo pos (starEach l X.env)).any (·.1) = false := by rfl) : DX X P ρ (.Call (.Name x p) (.Name y py :: l) [] pos) Φ := 
  x_callWC n (G.cb hr) hρ ha hN hvis hd hcd hg hdb he hpl
end
end Lm
set_option maxRecDepth 100000
set_option maxHeartbeats 4000000
/-! Statements with expressions that change a list of one's own; defs that change their first argument. -/
namespace Lm
open PySem PySem.Spec PyProof.Rows L2 Evl
section
variable {X : Cx} {P : Option Addr} {ρ : En} {p : Po} {st : Stmt} {rest : List Stmt} {e a b : Expr} {d : D} {ds es : List D} {pos px : Pos} {x y : Str} {i j : Nat}
theorem w_setX {Φ : En → Slot → Prop} (i : Nat) (he : DX X P ρ e Φ) (h : ∀ ρ' s, Φ ρ' s → s ≠ .un ∧ p.nx (ρ'.set i s)) (h0 : P = none ∨ i ≠ 0) (hN : X.N.Nodup) (hi : X.N[i]? = some x := by rfl) (hx : Loc X.env.scope x := by first | exact Or.inl rfl | exact Or.inr rfl) (hs : swapsWith e (some (.Name x px)) pos.line X.env = pure false := by rfl)
    (hf : X.fn x = true ∨ X.env.scope.names.lookup x = some .local := by first | exact .inl rfl | exact .inr rfl) : W1 X P ρ (.Assign [.Name x px] e pos) p := fun c hc => by
  subst hc
  exact weakS (ps_set hN hi hx (he c rfl) hs hf) fun E σ H ⟨F, a, W⟩ => ⟨F, a, fun v F' H' ρ' s hΦ g a' hv => W.nx _ F' H' _ (h ρ' s hΦ).2 (a'.put i hv (h ρ' s hΦ).1 h0 fun q hq z => a.own_ne hq (g.own z))⟩
theorem w_retX {Φ : En → Slot → Prop} (he : DX X P ρ e Φ) (h : ∀ ρ' s, Φ ρ' s → ∃ d, s = .dat d ∧ p.rt ρ' d) : W1 X P ρ (.Return (some e) pos) p := fun c hc =>
  weakS (ps_ret (he c hc)) fun E σ H ⟨F, a, W⟩ => ⟨F, a, fun v F' H' ρ' s hΦ g a' hv => by
    obtain ⟨d, rfl, hd⟩ := h ρ' s hΦ
    exact W.rt v σ F' H' ρ' d hd a' hv⟩
theorem w_ifX {t : Expr} {sa sb : List Stmt} {Φ : En → Bool → Prop} (ht : DXT X P ρ t Φ) (h : ∀ ρ' k, Φ ρ' k → if k = true then WS X P ρ' sa p else WS X P ρ' sb p) : W1 X P ρ (.If t sa sb pos) p := fun c hc => by
  refine weakS (ps_if (ht c hc) anyS_ok anyS_ok) fun E σ H ⟨F, a, W⟩ => ⟨F, a, fun k F' H' ρ' hΦ g a' => ?_⟩
  have z := h ρ' k hΦ
  cases k with
  | true => exact iteT ⟨_, z c hc, F', a', W⟩
  | false => exact iteF ⟨_, z c hc, F', a', W⟩
theorem w_appX {po pa : Pos} {Φ : En → Slot → Prop} (i : Nat) (hρ : ρ[i]? = some (Slot.own es)) (he : DX X P ρ e Φ) (h : ∀ ρ' s, Φ ρ' s → ∃ d ds, s = .dat d ∧ ρ'[i]? = some (Slot.own ds) ∧ ds.length < 100000 ∧ p.nx (ρ'.set i (.own (ds ++ [d])))) (hN : X.N[i]? = some x := by rfl)
    (hv : Vis X.env.scope x := by first | exact Or.inl rfl | exact Or.inr (Or.inl rfl) | exact Or.inr (Or.inr rfl)) (hd : (x == ("__debug__" : Str)) = false := by decide) (hcd : (x == ("__classdict__" : Str)) = false := by decide)
    (hs : starEach (e :: []) X.env = (false, eval e X.env) :: starEach [] X.env := by rfl) (hbase : attributeBase (.Name x po) "append" X.env (eval (.Name x po) X.env) = eval (.Name x po) X.env := by rfl)
    (hfew : ((backTo px (starEach (e :: []) X.env)).all (fun x => !x.1) && (backToKw px (keywordEach [] X.env)).all (fun x => x.1.isSome) && decide ((e :: []).length + ([] : List Keyword).length + (if ([] : List Keyword).isEmpty then 0 else 1) < 30)) = true := by rfl)
    (hline : (pa.endLine == px.line) = true := by rfl) (hplain : (backTo px (starEach [] X.env)).any (·.1) = false := by rfl)
    (hsw : swapsWith (.Call (.Attribute (.Name x po) "append" pa) [e] [] px) none pos.line X.env = pure false := by rfl) : W1 X P ρ (.Expr (.Call (.Attribute (.Name x po) "append" pa) [e] [] px) pos) p := fun c hc =>
  weakS (ps_expr (pe_bm PySem.F.plainAttrs_list PySem.F.slot_list_append PySem.F.type_list_append mt_append (pe_var hN hv hd hcd) (pa_cons (he c hc) pa_nil hs) hbase hfew hline hs hplain) hsw) fun E σ H ⟨F, a, W⟩ => by
    obtain ⟨q, vs, h1, h2, h3, h4⟩ := a.s.own i es hρ
    refine ⟨_, h1, .inl ⟨rfl, vs, SqL.of h2⟩, F, a, fun v F' H' ρ' s hΦ g a' hv => ?_⟩
    obtain ⟨d, ds, rfl, hρ', hl, hn⟩ := h ρ' s hΦ
    obtain ⟨q', vs', g1, g2, g3, g4⟩ := a'.s.own i ds hρ'
    rw [h1] at g1
    cases g1
    exact ⟨q, vs', v, rfl, rfl, g2, sz_lt (by rw [dpa_len g4]; exact hl), W.nx σ F' _ _ hn (a'.mutate i hρ' h1 (dpa_app g4 (.cons hv .nil)))⟩
/-- x[k] = e, e with changes -/
theorem w_putX {po pa : Pos} {Φ : En → Slot → Prop} (i : Nat) (he : DX X P ρ e Φ) (h : ∀ ρ' s, Φ ρ' s → ∃ d ds k, s = .dat d ∧ ρ'[i]? = some (Slot.own ds) ∧ DE X ρ' b (.int ((k : Nat) : Int)) ∧ k < ds.length ∧ p.nx (ρ'.set i (.own (ds.set k d)))) (hN : X.N[i]? = some x := by rfl)
    (hv : Vis X.env.scope x := by first | exact Or.inl rfl | exact Or.inr (Or.inl rfl) | exact Or.inr (Or.inr rfl)) (hd : (x == ("__debug__" : Str)) = false := by decide) (hcd : (x == ("__classdict__" : Str)) = false := by decide)
    (ha : ∀ v, assign (.Subscript (.Name x po) b pa) X.env v = (do
      let ov ← holding [v] (eval (.Name x po) X.env)
      let iv ← holding [v, ov] (eval b X.env)
      standAt pa
      holding [v, ov, iv] (setItem ov iv v)
      release [v, ov, iv] []) := by intro _; rfl)
    (hs : swapsWithSole [.Subscript (.Name x po) b pa] e pos.line X.env = pure false := by rfl) (hw : swappedStores [.Subscript (.Name x po) b pa] e X.env = pure none := by rfl)
    (h1 : (assignEach [.Subscript (.Name x po) b pa] X.env).map (·.2) = [assign (.Subscript (.Name x po) b pa) X.env] := by rfl) : W1 X P ρ (.Assign [.Subscript (.Name x po) b pa] e pos) p := fun c hc =>
  weakS (ps_asg (he c hc) (pg_sub (pe_var hN hv hd hcd) anyE_ok set_list ha) hs hw h1) fun E σ H ⟨F, a, W⟩ => ⟨F, a, fun v F' H' ρ' s hΦ g a' hv => by
    obtain ⟨d, ds, k, rfl, hρ', hb, hl, hn⟩ := h ρ' s hΦ
    obtain ⟨q, vs, h1, h2, h3, h4⟩ := a'.s.own i ds hρ'
    refine ⟨_, h1, _, hb, F', a'.s, fun w F2 H2 g2 hw => ?_⟩
    have a2 := a'.mono g2
    exact ⟨q, vs, k, k, rfl, dp_int hw, g2.h _ _ h2, by rw [dpa_len h4]; exact ixN_nat hl, W.nx σ F2 _ _ hn (a2.mutate i hρ' h1 (dpa_set k (dpa_ex g2.f h4) (dp_ex g2.f hv)))⟩⟩
/-- the state behind two values and their stores -/
theorem put2 {K : PySem.W.Frag} {c : Ct} {σ : L2.St} {F H F1 H1 F2 H2 F3 H3 : Hp} {ρ ρ1 ρ2 : En} {v w : V} {s1 s2 : Slot} (a : At K c σ F H ρ) (g1 : XG σ ρ ρ1 F H F1 H1) (a1 : At K c σ F1 H1 ρ1) (h1 : SV K c F1 H H1 v s1) (g2 : XG σ ρ1 ρ2 F1 H1 F2 H2) (a2 : At K c σ F2 H2 ρ2) (h2 : SV K c F2 H1 H2 w s2)
    (g3 : Gr F2 H2 F3 H3) (i j : Nat) (hij : i ≠ j) (n1 : s1 ≠ .un) (n2 : s2 ≠ .un) (h0 : c.P = none ∨ i ≠ 0) (h0' : c.P = none ∨ j ≠ 0) : At K c ((σ.set i (some v)).set j (some w)) F3 H3 ((ρ2.set i s1).set j s2) := by
  have gg : XG σ ρ1 ρ2 F1 H1 F3 H3 := g2.trans (.of g3)
  have a3 := a2.mono g3
  have h1' := h1.on (ρ' := ρ2) a g1 gg
  have h2' := h2.on (ρ' := ρ2) a1 g2 (.of g3)
  have a4 := a3.put i h1' n1 h0 fun q hq z => a.own_ne hq (g1.own (gg.own z))
  refine a4.put j h2' n2 h0' fun q hq => ?_
  rintro ⟨m, es, e1, e2⟩
  by_cases hm : i = m
  · subst hm
    have hl : i < σ.length := by
      have := (List.getElem?_eq_some_iff.mp e2).1
      rwa [List.length_set] at this
    rw [List.getElem?_set_self hl] at e2
    rw [List.getElem?_set_self (by rw [← a3.s.len]; exact hl)] at e1
    cases e1
    cases e2
    obtain ⟨p, vs, e, f1, _⟩ := h1
    cases e
    rw [hq] at f1
    cases f1
  · rw [List.getElem?_set_ne hm] at e1 e2
    exact a1.own_ne hq (gg.own ⟨m, es, e1, e2⟩)
/-- what two values leave -/
abbrev DX2 (X : Cx) (P : Option Addr) (ρ : En) (a b : Expr) (i j : Nat) (q : En → Prop) : Prop := DX X P ρ a fun ρ1 s1 => s1 ≠ .un ∧ DX X P ρ1 b fun ρ2 s2 => s2 ≠ .un ∧ q ((ρ2.set i s1).set j s2)
theorem w_par {py pt pt2 : Pos} {kt k2 : Nat} (i j : Nat) (hab : DX2 X P ρ a b i j p.nx) (h0 : P = none ∨ (i ≠ 0 ∧ j ≠ 0)) (hc0 : X.calm = true) (hN : X.N.Nodup) (hi : X.N[i]? = some x := by rfl) (hj : X.N[j]? = some y := by rfl) (hij : i ≠ j := by decide)
    (hx : X.env.scope.names.lookup x = some .local := by rfl) (hy : X.env.scope.names.lookup y = some .local := by rfl)
    (hsa : starEach (a :: [b]) X.env = (false, eval a X.env) :: starEach [b] X.env := by rfl) (hsb : starEach (b :: []) X.env = (false, eval b X.env) :: starEach [] X.env := by rfl)
    (hw : swappedStores [.Tuple [.Name x px, .Name y py] kt pt] (.Tuple [a, b] k2 pt2) X.env = pure (some [x, y]) := by rfl)
    (hs : swapsWithSole [.Tuple [.Name x px, .Name y py] kt pt] (.Tuple [a, b] k2 pt2) pos.line X.env = pure false := by rfl) :
    W1 X P ρ (.Assign [.Tuple [.Name x px, .Name y py] kt pt] (.Tuple [a, b] k2 pt2) pos) p := fun c hc => by
  subst hc
  exact weakS (ps_par hc0 hN hi hj hij hx hy (pa_cons (hab c rfl) (pa_cons anyE_ok pa_nil hsb) hsa) hw hs) fun E σ H ⟨F, A, W⟩ => ⟨F, A, fun v F1 H1 ρ1 s1 ⟨n1, hb⟩ g1 A1 h1 => ⟨_, hb c rfl, F1, A1, fun w F2 H2 ρ2 s2 ⟨n2, hn⟩ g2 A2 h2 => ⟨v, w, rfl, W.nx _ F2 H2 _ hn (put2 A g1 A1 h1 g2 A2 h2 (Gr.refl A2.s.sub) i j hij n1 n2 (h0.imp_right (·.1)) (h0.imp_right (·.2)))⟩⟩⟩
theorem w_tup2 {py pt pt2 : Pos} {kt k2 : Nat} (i j : Nat) (hab : DX2 X P ρ a b i j p.nx) (h0 : P = none ∨ (i ≠ 0 ∧ j ≠ 0)) (hc0 : X.calm = true) (hN : X.N.Nodup) (hi : X.N[i]? = some x := by rfl) (hj : X.N[j]? = some y := by rfl) (hij : i ≠ j := by decide)
    (hx : Loc X.env.scope x := by first | exact Or.inl rfl | exact Or.inr rfl) (hy : Loc X.env.scope y := by first | exact Or.inl rfl | exact Or.inr rfl)
    (hfx : X.fn x = true ∨ X.env.scope.names.lookup x = some .local := by first | exact .inl rfl | exact .inr rfl) (hfy : X.fn y = true ∨ X.env.scope.names.lookup y = some .local := by first | exact .inl rfl | exact .inr rfl)
    (hsa : starEach (a :: [b]) X.env = (false, eval a X.env) :: starEach [b] X.env := by rfl) (hsb : starEach (b :: []) X.env = (false, eval b X.env) :: starEach [] X.env := by rfl)
    (q1 : (assignEach (.Name x px :: [.Name y py]) X.env).map (·.2) = assign (.Name x px) X.env :: (assignEach [.Name y py] X.env).map (·.2) := by rfl) (q2 : (assignEach (.Name y py :: []) X.env).map (·.2) = assign (.Name y py) X.env :: (assignEach [] X.env).map (·.2) := by rfl)
    (q3 : (assignEach [.Name x px, .Name y py] X.env).length = 2 := by rfl) (q4 : (assignEach [.Name x px, .Name y py] X.env).findIdx? (·.1) = none := by rfl)
    (hs : swapsWithSole [.Tuple [.Name x px, .Name y py] kt pt] (.Tuple [a, b] k2 pt2) pos.line X.env = pure false := by rfl) (hw : swappedStores [.Tuple [.Name x px, .Name y py] kt pt] (.Tuple [a, b] k2 pt2) X.env = pure none := by rfl)
    (h1 : (assignEach [.Tuple [.Name x px, .Name y py] kt pt] X.env).map (·.2) = [assign (.Tuple [.Name x px, .Name y py] kt pt) X.env] := by rfl) :
    W1 X P ρ (.Assign [.Tuple [.Name x px, .Name y py] kt pt] (.Tuple [a, b] k2 pt2) pos) p := fun c hc => by
  subst hc
  exact weakS (ps_asg (pe_tup (pa_cons (hab c rfl) (pa_cons anyE_ok pa_nil hsb) hsa)) (pg_tup hc0 (pgs_cons (pg_name hN hi hx hfx) (pgs_cons (pg_name hN hj hy hfy) pgs_nil q2) q1) q3 q4) hs hw h1) fun E σ H ⟨F, A, W⟩ => ⟨F, A, fun v F1 H1 ρ1 s1 ⟨n1, hb⟩ g1 A1 h1 => ⟨_, hb c rfl, F1, A1, fun w F2 H2 ρ2 s2 ⟨n2, hn⟩ g2 A2 h2 => ⟨by show 2 ≤ sizeLine; decide, fun T hT =>
    ⟨T, [v, w], rfl, SqT.of upd_same, rfl, v, [w], rfl, w, [], rfl, rfl, W.nx _ F2 _ _ hn (put2 A g1 A1 h1 g2 A2 h2 (Gr.lay A2.s.sub hT) i j hij n1 n2 (h0.imp_right (·.1)) (h0.imp_right (·.2)))⟩⟩⟩⟩
/-- three at once, all plain, no changes -/
theorem w_par3 {z : Str} {cc : Expr} {d1 d2 d3 : D} {py pz pt pt2 : Pos} {kt k2 : Nat} (i j l : Nat) (ha : DE X ρ a d1) (hb : DE X ρ b d2) (hcc : DE X ρ cc d3) (h : p.nx (((ρ.set i (.dat d1)).set j (.dat d2)).set l (.dat d3))) (h0 : P = none ∨ (i ≠ 0 ∧ j ≠ 0 ∧ l ≠ 0)) (hc0 : X.calm = true) (hN : X.N.Nodup)
    (hi : X.N[i]? = some x := by rfl) (hj : X.N[j]? = some y := by rfl) (hl : X.N[l]? = some z := by rfl) (hij : i ≠ j := by decide) (hil : i ≠ l := by decide) (hjl : j ≠ l := by decide)
    (hx : X.env.scope.names.lookup x = some .local := by rfl) (hy : X.env.scope.names.lookup y = some .local := by rfl) (hz : X.env.scope.names.lookup z = some .local := by rfl)
    (hsa : starEach (a :: [b, cc]) X.env = (false, eval a X.env) :: starEach [b, cc] X.env := by rfl) (hsb : starEach (b :: [cc]) X.env = (false, eval b X.env) :: starEach [cc] X.env := by rfl) (hsc : starEach (cc :: []) X.env = (false, eval cc X.env) :: starEach [] X.env := by rfl)
    (hw : swappedStores [.Tuple [.Name x px, .Name y py, .Name z pz] kt pt] (.Tuple [a, b, cc] k2 pt2) X.env = pure (some [x, y, z]))
    (hs : swapsWithSole [.Tuple [.Name x px, .Name y py, .Name z pz] kt pt] (.Tuple [a, b, cc] k2 pt2) pos.line X.env = pure false := by rfl) :
    W1 X P ρ (.Assign [.Tuple [.Name x px, .Name y py, .Name z pz] kt pt] (.Tuple [a, b, cc] k2 pt2) pos) p := fun c hc => by
  subst hc
  exact weakS (ps_par3 hc0 hN hi hj hl hij hil hjl hx hy hz (a_cons ha (a_cons hb (a_cons hcc a_nil hsc) hsb) hsa) hw hs) fun E σ H ⟨F, A, W⟩ => ⟨F, A.s, fun vs F' H' g hv => by
    cases hv with
    | cons v1 hv =>
      obtain ⟨v, w, rfl, v2, v3⟩ := dpa2 hv
      exact ⟨_, _, _, rfl, W.nx _ F' H' _ h ((((A.mono g).set i v1 (h0.imp_right (·.1))).set j v2 (h0.imp_right (·.2.1))).set l v3 (h0.imp_right (·.2.2)))⟩⟩
/-- x[k], y = a pair -/
theorem w_dm {py po pa pt : Pos} {kt : Nat} {d1 d2 : D} (i k j : Nat) (hρ : ρ[i]? = some (Slot.own ds)) (he : DE X ρ e (.tuple [d1, d2])) (hb : DE X ρ b (.int (k : Int))) (hl : k < ds.length) (h : p.nx ((ρ.set i (.own (ds.set k d1))).set j (.dat d2))) (h0 : P = none ∨ j ≠ 0) (hc0 : X.calm = true) (hNd : X.N.Nodup) (hN : X.N[i]? = some x := by rfl)
    (hv : Vis X.env.scope x := by first | exact Or.inl rfl | exact Or.inr (Or.inl rfl) | exact Or.inr (Or.inr rfl)) (hd : (x == ("__debug__" : Str)) = false := by decide) (hcd : (x == ("__classdict__" : Str)) = false := by decide)
    (hj : X.N[j]? = some y := by rfl) (hy : Loc X.env.scope y := by first | exact Or.inl rfl | exact Or.inr rfl) (hfy : X.fn y = true ∨ X.env.scope.names.lookup y = some .local := by first | exact .inl rfl | exact .inr rfl)
    (ha : ∀ v, assign (.Subscript (.Name x po) b pa) X.env v = (do
      let ov ← holding [v] (eval (.Name x po) X.env)
      let iv ← holding [v, ov] (eval b X.env)
      standAt pa
      holding [v, ov, iv] (setItem ov iv v)
      release [v, ov, iv] []) := by intro _; rfl)
    (q1 : (assignEach (.Subscript (.Name x po) b pa :: [.Name y py]) X.env).map (·.2) = assign (.Subscript (.Name x po) b pa) X.env :: (assignEach [.Name y py] X.env).map (·.2) := by rfl) (q2 : (assignEach (.Name y py :: []) X.env).map (·.2) = assign (.Name y py) X.env :: (assignEach [] X.env).map (·.2) := by rfl)
    (q3 : (assignEach [.Subscript (.Name x po) b pa, .Name y py] X.env).length = 2 := by rfl) (q4 : (assignEach [.Subscript (.Name x po) b pa, .Name y py] X.env).findIdx? (·.1) = none := by rfl)
    (hs : swapsWithSole [.Tuple [.Subscript (.Name x po) b pa, .Name y py] kt pt] e pos.line X.env = pure false := by rfl) (hw : swappedStores [.Tuple [.Subscript (.Name x po) b pa, .Name y py] kt pt] e X.env = pure none := by rfl)
    (h1 : (assignEach [.Tuple [.Subscript (.Name x po) b pa, .Name y py] kt pt] X.env).map (·.2) = [assign (.Tuple [.Subscript (.Name x po) b pa, .Name y py] kt pt) X.env] := by rfl) :
    W1 X P ρ (.Assign [.Tuple [.Subscript (.Name x po) b pa, .Name y py] kt pt] e pos) p := fun c hc => by
  subst hc
  exact weakS (ps_asg he (pg_tup hc0 (pgs_cons (pg_sub (pe_var hN hv hd hcd) hb set_list ha) (pgs_cons (pg_name hNd hj hy hfy) pgs_nil q2) q1) q3 q4) hs hw h1) fun E σ H ⟨F, A, W⟩ => ⟨F, A.s, fun u F1 H1 g1 hu => by
    have A1 := A.mono g1
    obtain ⟨T, vs, rfl, hT, hvs⟩ := dp_tup hu
    obtain ⟨v, w, rfl, hv1, hv2⟩ := dpa2 hvs
    obtain ⟨q, ws, r1, r2, r3, r4⟩ := A1.s.own i ds hρ
    refine ⟨T, _, rfl, ex_t g1.sub hT, rfl, v, [w], rfl, _, r1, F1, A1.s, fun u F4 H4 g4 hu => ⟨q, ws, k, k, rfl, dp_int hu, g4.h _ _ r2, by rw [dpa_len r4]; exact ixN_nat hl, w, [], rfl, rfl, ?_⟩⟩
    have A4 := (A1.mono g4).mutate i hρ r1 (dpa_set k (dpa_ex g4.f r4) (dp_ex g4.f hv1))
    exact W.nx _ F4 _ _ h (A4.set j (dp_ex g4.f hv2) h0)⟩
end
/-! ### defs that change their first argument, their calls on lists just made -/
section
variable {P : Program} {w : World} {K : PySem.W.Frag} {mg : Str → Option Value} {base : Heap} {x : Str} {st : Stmt} {f : Addr} {fd : FuncData} {N ps : List Str} {k : Nat}
theorem start_own {F H : Hp} (hs : Ex F H) {a : Addr} {ws vr : List V} {w0 ds : List D} (h1 : H a = some (.lst ws)) (h2 : F a = none) (h3 : DpAll K F ws w0) (hd : DpAll K F vr ds) (N : List Str) :
    Sd K (L2.start N (.ref a :: vr)) F H (.own w0 :: (ds.map Slot.dat ++ List.replicate (N.length - (ds.length + 1)) Slot.un)) := by
  have z := (start_sd (K := K) hs (vs := .non :: vr) (ds := .none :: ds) (.cons .non hd) N).setO 0 h1 h2 h3 (fun j es h _ => no_own h)
  exact z
theorem own_ok {R : List D → List D → (List D → D → Prop) → Prop} (Fd : FunD K x x (defArgs st) (defBody st) (defScope st) [] [] f fd) (S : FnScope N ps (defScope st)) (hl : ∀ w ds Φ, R w ds Φ → ds.length + 1 = ps.length)
    (hb : ∀ (cdv : Value) (A : Around) (outer : List Env) (s : Shared) (H : Hp) (E : XK) (a : Addr) (w0 ds : List D) (Φ : List D → D → Prop), Room k (A.deeper (envOfC x (defScope st) s.heap.objs.size f cdv)) → R w0 ds Φ →
      WS (cxOf CX0 P w K mg base N x (defScope st) f cdv A outer s H E).nox (some a) (.own w0 :: (ds.map Slot.dat ++ List.replicate (N.length - (ds.length + 1)) Slot.un)) (defBody st) { nx := fun _ => False, rt := fun ρ d => ∃ w', ρ[0]? = some (Slot.own w') ∧ Φ w' d }) :
    FnOk P w K mg base CX0 (k + 1) f fd ps (SpW K R) := by
  refine Fd.ok S (fun vs H Q E h => ?_) fun cdv A outer s H vs Q E hr ⟨a, vr, ws, w0, ds, F, Φ, e, h1, h2, hs, h3, hd, hR, q⟩ => ?_
  · obtain ⟨a, vr, ws, w0, ds, F, Φ, e, h1, h2, hs, h3, hd, hR, q⟩ := h
    rw [e, List.length_cons, dpa_len hd]
    exact hl _ _ _ hR
  subst e
  have S0 := start_own hs h1 h2 h3 hd N
  refine ⟨_, ((hb cdv A outer s H E a w0 ds Φ hr hR) ⟨F, H, some a⟩ rfl).nox, F, ⟨S0, Ex.refl _, fun b o h => .inr h, fun b h => h, fun b h1 h2 => absurd h1 h2, fun i es b hi hb => ?_, fun b hb => ?_⟩, ⟨fun _ _ _ _ h => h.elim, fun v σ F' H' ρ d ⟨w', e1, hΦ⟩ A' hv => ?_, fun _ _ _ _ h _ => h.elim, fun _ _ _ _ h _ => h.elim, fun _ _ _ _ _ _ _ h => h.elim⟩⟩
  · cases i with
    | zero =>
      have e : (L2.start N (V.ref a :: vr))[0]? = some (some (V.ref a)) := rfl
      have hb' : (L2.start N (V.ref a :: vr))[0]? = some (some (V.ref b)) := hb
      rw [e] at hb'
      cases hb'
      exact .inl rfl
    | succ i =>
      have hi' : (ds.map Slot.dat ++ List.replicate (N.length - (ds.length + 1)) Slot.un)[i]? = some (Slot.own es) := hi
      exact (no_own hi').elim
  · cases hb
    exact ⟨rfl, (fun z => by rw [h1] at z; cases z), h2, w0, rfl⟩
  · obtain ⟨g1, g2, g3, g4⟩ := A'.c.par a rfl
    obtain ⟨q', ws', r1, r2, r3, r4⟩ := A'.s.own 0 w' e1
    rw [g1] at r1
    cases r1
    exact q v F' H' ws' w' d hΦ A'.c.f A'.s.sub (fun b o hb => (A'.c.kept b o hb).imp_left fun z => (Option.some.inj z).symm) A'.c.new g3 r2 r4 hv
end
section
variable {X : Cx} {P : Option Addr} {ρ : En} {e : Expr} {l : List Expr} {x : Str} {p pos : Pos} {ds es : List D} {d : D} {k : Nat} {ps : List Str}
/-- a def that makes a list -/
theorem l_call {R : List D → List D → Prop} (G : Def X.prog X.w X.K X.mg X.base CX0 x k ps (SpL X.K R)) (hr : Room k X.A) (hR : R ds es) (ha : DA X ρ (e :: l) ds) (hg : Gl X x := by rfl) (hdb : (x == ("__debug__" : Str)) = false := by decide)
    (he : starEach (e :: l) X.env = (false, eval e X.env) :: starEach l X.env := by rfl) (hpl : (backTo pos (starEach l X.env)).any (·.1) = false := by rfl) : DL X ρ (.Call (.Name x p) (e :: l) [] pos) es := by
  obtain ⟨f, fd, hm, hk, hb, G⟩ := G
  refine weakE (pe_call G hr hg hm hk hb .nil pass0 ha hdb he hpl) fun σ H Q ⟨F, S, q⟩ => ⟨F, S, fun vs F' H' g hv => ?_⟩
  show SpL X.K R (vs ++ []) H' Q E0
  rw [List.append_nil]
  exact ⟨ds, es, F', hR, g.sub, hv, fun q' ws F2 H2 g2 h1 h2 h3 h4 => q q' ws F2 H2 (g.trans g2) (none_of g.h h1) h2 h3 h4⟩
theorem x_callL {R : List D → List D → Prop} {Φ : En → Slot → Prop} (G : Def X.prog X.w X.K X.mg X.base CX0 x k ps (SpL X.K R)) (hr : Room k X.A) (ha : DXA X P ρ (e :: l) fun ρ' ds => ∃ es, R ds es ∧ Φ ρ' (.own es)) (hg : Gl X x := by rfl) (hdb : (x == ("__debug__" : Str)) = false := by decide)
    (he : starEach (e :: l) X.env = (false, eval e X.env) :: starEach l X.env := by rfl) (hpl : (backTo pos (starEach l X.env)).any (·.1) = false := by rfl) : DX X P ρ (.Call (.Name x p) (e :: l) [] pos) Φ := fun c hc => by
  obtain ⟨f, fd, hm, hk, hb, G⟩ := G
  refine weakE (pe_call G hr hg hm hk hb .nil pass0 (ha c hc) hdb he hpl) fun σ H Q ⟨F, A, q⟩ => ⟨F, A, fun vs F' H' ρ' ds ⟨es, hR, hΦ⟩ g A' hv => ?_⟩
  show SpL X.K R (vs ++ []) H' Q E0
  rw [List.append_nil]
  exact ⟨ds, es, F', hR, A'.s.sub, hv, fun r ws F2 H2 g2 h1 h2 h3 h4 => q _ F2 H2 ρ' _ hΦ (g.trans (.of g2)) (A'.mono g2) ⟨r, ws, rfl, h3, h2, A'.c.there r h1, g.there r h1, h4⟩⟩
/-- f(e): e a list just made, f changes it and answers d alone -/
theorem e_callWLC {R : List D → List D → (List D → D → Prop) → Prop} {w0 : List D} (G : Cb X x (SpW X.K R)) (hR : R w0 [] fun _ d' => d' = d) (ha : DL X ρ e w0) (hg : Gl X x := by rfl) (hdb : (x == ("__debug__" : Str)) = false := by decide)
    (he : starEach (e :: []) X.env = (false, eval e X.env) :: starEach [] X.env := by rfl) (hpl : (backTo pos (starEach [] X.env)).any (·.1) = false := by rfl) : DE X ρ (.Call (.Name x p) [e] [] pos) d := by
  refine weakE (G _ _ _ p pos (pa_cons ha pa_nil he) hg hdb he hpl) fun σ H Q ⟨F, S, q⟩ => ⟨F, S, fun a ws F' H' g h1 h2 h3 h4 => ?_⟩
  show SpW X.K R ([V.ref a] ++ []) H' Q E0
  refine ⟨a, [], ws, w0, [], F', _, rfl, h3, h2, g.sub, h4, .nil, hR, fun v F2 H2 ws' w' d' hd f1 f2 f3 f4 f5 f6 f7 f8 => ?_⟩
  have hd' : d' = d := hd
  subst hd'
  refine q v F2 H2 ⟨g.f.trans f1, fun b o hbo => (f3 b o (g.h b o hbo)).resolve_left fun z => ?_, f2, fun b g1 g2 => ?_⟩ f8
  · subst z
    rw [h1] at hbo
    cases hbo
  · cases z : F' b with
    | none => exact none_of g.h (f4 b z g2)
    | some o => exact g.new b g1 (by rw [z]; exact fun z => by cases z)
theorem e_callWL {R : List D → List D → (List D → D → Prop) → Prop} {w0 : List D} (G : Def X.prog X.w X.K X.mg X.base CX0 x k ps (SpW X.K R)) (hr : Room k X.A) (hR : R w0 [] fun _ d' => d' = d) (ha : DL X ρ e w0) (hg : Gl X x := by rfl) (hdb : (x == ("__debug__" : Str)) = false := by decide)
    (he : starEach (e :: []) X.env = (false, eval e X.env) :: starEach [] X.env := by rfl) (hpl : (backTo pos (starEach [] X.env)).any (·.1) = false := by rfl) : DE X ρ (.Call (.Name x p) [e] [] pos) d :=
  e_callWLC (G.cb hr) hR ha hg hdb he hpl
end
end Lm
set_option maxRecDepth 100000
set_option maxHeartbeats 4000000
/-! Helpers; numberwork. -/
namespace Lm
open PySem PySem.Spec PyProof.Rows L2 Evl
/-! ### shapes, equality of data -/
def Shp (n : Nat) (d : D) : Prop := d.canLay0 = true ∧ d.depth ≤ n
theorem cl_all : ∀ {ds : List D}, (∀ d ∈ ds, d.canLay0 = true) → PyData.canLayAll0 ds = true
  | [], _ => rfl
  | d :: ds, h => by
    unfold PyData.canLayAll0
    rw [h d List.mem_cons_self, cl_all fun e he => h e (List.mem_cons_of_mem _ he)]
    rfl
theorem dp_all {n : Nat} : ∀ {ds : List D}, (∀ d ∈ ds, d.depth ≤ n) → PyData.depthAll ds ≤ n
  | [], _ => Nat.zero_le _
  | d :: ds, h => by
    unfold PyData.depthAll
    have h1 := h d List.mem_cons_self
    have h2 := dp_all (n := n) (ds := ds) fun e he => h e (List.mem_cons_of_mem _ he)
    omega
theorem shp_tup {n : Nat} {ds : List D} (h : ∀ d ∈ ds, Shp n d) : Shp (n + 1) (.tuple ds) := ⟨by unfold PyData.canLay0; exact cl_all fun d hd => (h d hd).1, by unfold PyData.depth; have := dp_all (n := n) fun d hd => (h d hd).2; omega⟩
theorem shp_lst {n : Nat} {ds : List D} (h : ∀ d ∈ ds, Shp n d) : Shp (n + 1) (.list ds) := ⟨by unfold PyData.canLay0; exact cl_all fun d hd => (h d hd).1, by unfold PyData.depth; have := dp_all (n := n) fun d hd => (h d hd).2; omega⟩
theorem shp_int {i : Int} : Shp 0 (.int i) := ⟨rfl, Nat.le_refl 0⟩
theorem shp_non : Shp 0 .none := ⟨rfl, Nat.le_refl 0⟩
theorem Shp.mono {n m : Nat} {d : D} (h : Shp n d) (l : n ≤ m) : Shp m d := ⟨h.1, Nat.le_trans h.2 l⟩
theorem Shp.s {n : Nat} {d : D} (h : Shp n d) (l : n ≤ 64 := by decide) : SeqAt.shaped d = true := by
  unfold SeqAt.shaped
  rw [h.1, decide_eq_true (Nat.le_trans h.2 l)]
  rfl
theorem shp_TI (r : List Int) : Shp 1 (TI r) := shp_tup fun d hd => by
  obtain ⟨i, _, rfl⟩ := List.mem_map.mp hd
  exact shp_int
theorem shp_LI (r : List Int) : Shp 1 (LI r) := shp_lst fun d hd => by
  obtain ⟨i, _, rfl⟩ := List.mem_map.mp hd
  exact shp_int
theorem shp_TR (r : List (List Int)) : Shp 2 (TR r) := shp_tup fun d hd => by
  obtain ⟨i, _, rfl⟩ := List.mem_map.mp hd
  exact shp_TI i
theorem eqvAll_map {α : Type} (f : α → D) (he : ∀ a b : α, PyData.eqv (f a) (f b) = true ↔ a = b) : ∀ as bs : List α, PyData.eqvAll (as.map f) (bs.map f) = true ↔ as = bs
  | [], [] => by simp [PyData.eqvAll]
  | [], b :: bs => by simp [PyData.eqvAll]
  | a :: as, [] => by simp [PyData.eqvAll]
  | a :: as, b :: bs => by
    have ih := eqvAll_map f he as bs
    rw [List.map_cons, List.map_cons, PyData.eqvAll, Bool.and_eq_true, he, ih, List.cons.injEq]
theorem eqv_I (a b : Int) : PyData.eqv (.int a) (.int b) = true ↔ a = b := by simp [PyData.eqv]
theorem eqv_TI (a b : List Int) : PyData.eqv (TI a) (TI b) = true ↔ a = b := by
  unfold PyData.eqv
  exact eqvAll_map PyData.int eqv_I a b
theorem eqv_LI (a b : List Int) : PyData.eqv (LI a) (LI b) = true ↔ a = b := by
  unfold PyData.eqv
  exact eqvAll_map PyData.int eqv_I a b
theorem eqv_TI' (a b : List Int) : PyData.eqv (TI a) (TI b) = decide (a = b) := by
  by_cases h : a = b
  · rw [decide_eq_true h, (eqv_TI a b).mpr h]
  · rw [decide_eq_false h, Bool.eq_false_iff]
    exact fun z => h ((eqv_TI a b).mp z)
theorem eqv_LI' (a b : List Int) : PyData.eqv (LI a) (LI b) = decide (a = b) := by
  by_cases h : a = b
  · rw [decide_eq_true h, (eqv_LI a b).mpr h]
  · rw [decide_eq_false h, Bool.eq_false_iff]
    exact fun z => h ((eqv_LI a b).mp z)
theorem at_nat {α : Type} {xs : List α} {k : Nat} {x : α} (h : xs[k]? = some x) : atI xs (k : Int) = some x := by
  unfold atI
  rw [ixN_nat (List.getElem?_eq_some_iff.mp h).1]
  exact h
theorem at_map {α β : Type} {f : α → β} {xs : List α} {k : Nat} {x : α} (h : xs[k]? = some x) : atI (xs.map f) (k : Int) = some (f x) := at_nat (by rw [List.getElem?_map, h]; rfl)
theorem get_of {α : Type} {xs : List α} {k : Nat} (h : k < xs.length) (z : α) : xs[k]? = some (xs.getD k z) := by
  rw [List.getD_eq_getElem?_getD, List.getElem?_eq_getElem h]
  rfl
/-- rows of remainders -/
def Rw (p : Int) (r : List Int) : Prop := ∀ x ∈ r, 0 ≤ x ∧ x < p
def Pk (p : Int) : Prop := 2 ≤ p ∧ p ≤ 1000
theorem Rw.sm {p : Int} {r : List Int} (hp : Pk p) (h : Rw p r) : Sm r := fun x hx => by
  have := h x hx
  have := hp.2
  omega
theorem md_ok {p : Int} (hp : Pk p) (x : Int) : 0 ≤ x % p ∧ x % p < p := ⟨Int.emod_nonneg _ (by have := hp.1; omega), Int.emod_lt_of_pos _ (by have := hp.1; omega)⟩
section
variable {P : Program} {w : World} {K : PySem.W.Frag} {mg : Str → Option Value} {base : Heap}
def R_flipped (ds : List D) (d : D) : Prop := ∃ (rs : List (List Int)) (q : D) (m : Nat), ds = [q, I m] ∧ Sq (rs.map TI) q ∧ (rs.length ≤ 1000 ∧ m ≤ 1000 ∧ ∀ r ∈ rs, m ≤ r.length) ∧ d = TR (flipB rs m)
theorem d_flipped (T : Txt K mg) : Def P w K mg base CX0 "flipped" 1 P_flipped (SpP K R_flipped) := by
  obtain ⟨hm, fd, F⟩ := T.f_flipped
  refine mk_def hm F (pure_ok F sc_flipped (fun ds d ⟨p, x, n, h, _⟩ => by rw [h]; rfl) fun cdv A outer s H E ds d hr hR => ?_) (fun _ _ _ _ _ _ us hl => match us, hl with | [_, _], _ => rfl)
  obtain ⟨rs, q, m, rfl, hq, ⟨h1, h2, h3⟩, rfl⟩ := hR
  show WS _ _ [.dat q, .dat (I m), .un, .un] _ _
  have nd := sc_flipped.nd
  refine w_one (w_ret (e_tupL T.n_tuple ?_) rfl)
  refine (lcn (own := [("at", 2)]) (List.range m) (fun k => I (k : Int)) (fun k => [.dat q, .dat (I m), .dat (I k), .un]) (fun k => TI (rs.map fun r => r.getD k 0)) rfl nd (blkOk_by (N := N_flipped) (sc := defScope s_flipped) (by decide +kernel)) (by rw [List.length_range]; omega)
    (i_rng1 T.n_range (by omega) (v 1 rfl)).o (by simp) (fun _ _ _ _ _ => dg_n (j := 2) nd) (by decide) (fun a _ => by rfl) (fun k hk _ _ _ _ _ => ?_)).e.e.is (by simp [flipB, TI])
  have hk' := List.mem_range.mp hk
  refine e_tupL T.n_tuple ?_
  refine (lcn (own := [("row", 3)]) rs TI (fun r => [.dat q, .dat (I m), .dat (I k), .dat (TI r)]) (fun r => I (r.getD k 0)) rfl nd (blkOk_by (N := N_flipped) (sc := relS _ (defScope s_flipped)) (by decide +kernel)) (by omega)
    (i_sq (v 0 rfl) hq).o rfl (fun _ _ _ _ _ => dg_n (j := 3) nd) (by decide) (fun a _ => by rfl) (fun r hr' _ _ _ _ _ => ?_)).e.e.is (by simp [TI])
  exact e_ixT (at_map (get_of (by have := h3 r hr'; omega) 0)) (v 3 rfl) (v 2 rfl)
end
end Lm
set_option maxRecDepth 100000
set_option maxHeartbeats 4000000
/-! numberwork: the rest. -/
namespace Lm
open PySem PySem.Spec PyProof.Rows L2 Evl
theorem nf {b : Bool} (h : (!b) = false) : b = true := by cases b with | true => rfl | false => cases h
theorem nt {b : Bool} (h : (!b) = true) : b = false := by cases b with | false => rfl | true => cases h
def invL (p x : Int) : List Int := ((List.range (p - 1).toNat).filter fun (k : Nat) => decide ((1 + (k : Int)) * x % p = 1)).map fun (k : Nat) => 1 + (k : Int)
def invB (p x : Int) : Int := (invL p x).headD 0
/-- every number but nought has an inverse -/
def Iv (p : Int) : Prop := ∀ x, 0 < x → x < p → ∃ y, (invL p x).head? = some y ∧ 0 < y ∧ y < p ∧ y * x % p = 1
def headsAt (f : List (List Int)) (s place : Nat) : List Nat := ((List.range (f.length - s)).filter fun k => !decide ((f.getD (s + k) []).getD place 0 = 0)).map fun k => s + k
def stairGo (p : Int) (f : List (List Int)) (st : List Nat) (place h : Nat) : List (List Int) × List Nat :=
  let f1 := (f.set st.length (f.getD h [])).set h (f.getD st.length [])
  let lead := (f1.getD st.length []).map fun x => invB p ((f1.getD st.length []).getD place 0) * x % p
  ((f1.map fun r => lessB p r lead (r.getD place 0)).set st.length lead, st ++ [place])
def stairPick (p : Int) (f : List (List Int)) (st : List Nat) (place : Nat) : List Nat → List (List Int) × List Nat
  | [] => (f, st)
  | h :: _ => stairGo p f st place h
theorem stairPick_cons (p : Int) (f : List (List Int)) (st : List Nat) (place h : Nat) (t : List Nat) : stairPick p f st place (h :: t) = stairGo p f st place h := rfl
def stairStep (p : Int) (s : List (List Int) × List Nat) (place : Nat) : List (List Int) × List Nat := stairPick p s.1 s.2 place (headsAt s.1 s.2.length place)
def stairsAt (p : Int) (rs : List (List Int)) (w : Nat) : List (List Int) × List Nat := (List.range w).foldl (stairStep p) (rs, [])
theorem stairsAt_succ (p : Int) (rs : List (List Int)) (w : Nat) : stairsAt p rs (w + 1) = stairStep p (stairsAt p rs w) w := by
  unfold stairsAt
  rw [List.range_succ, List.foldl_append]
  rfl
def Mx (p : Int) (L n : Nat) (f : List (List Int)) : Prop := f.length = n ∧ ∀ r ∈ f, r.length = L ∧ Rw p r
theorem Mx.row {p : Int} {L n k : Nat} {f : List (List Int)} (h : Mx p L n f) (hk : k < n) : f[k]? = some (f.getD k []) ∧ (f.getD k []).length = L ∧ Rw p (f.getD k []) := by
  have h1 : f[k]? = some (f.getD k []) := get_of (by rw [h.1]; exact hk) []
  exact ⟨h1, h.2 _ (List.mem_of_getElem? h1)⟩
theorem Mx.set {p : Int} {L n k : Nat} {f : List (List Int)} {r : List Int} (h : Mx p L n f) (hr : r.length = L ∧ Rw p r) : Mx p L n (f.set k r) :=
  ⟨by rw [List.length_set]; exact h.1, fun x hx => by
    rcases List.mem_or_eq_of_mem_set hx with h1 | h1
    · exact h.2 x h1
    · rw [h1]; exact hr⟩
theorem rw_md {p : Int} (hp : Pk p) {α : Type} (xs : List α) (g : α → Int) : Rw p (xs.map fun x => g x % p) := fun y hy => by
  obtain ⟨x, _, rfl⟩ := List.mem_map.mp hy
  exact md_ok hp _
theorem rw_less {p : Int} (hp : Pk p) (a b : List Int) (m : Int) : Rw p (lessB p a b m) := rw_md hp (a.zip b) _
theorem less_len {p : Int} {a b : List Int} {m : Int} : (lessB p a b m).length = min a.length b.length := by simp [lessB]
theorem heads_mem {f : List (List Int)} {s place h : Nat} (hh : h ∈ headsAt f s place) : s ≤ h ∧ h < f.length ∧ (f.getD h []).getD place 0 ≠ 0 := by
  unfold headsAt at hh
  obtain ⟨k, hk, rfl⟩ := List.mem_map.mp hh
  obtain ⟨h1, h2⟩ := List.mem_filter.mp hk
  have := List.mem_range.mp h1
  exact ⟨by omega, by omega, by simpa using h2⟩
theorem swap_get {f : List (List Int)} {s h : Nat} (hs : s ≤ h) (hh : h < f.length) : ((f.set s (f.getD h [])).set h (f.getD s [])).getD s [] = f.getD h [] := by
  by_cases e : h = s
  · subst e
    rw [List.set_set, List.getD_eq_getElem?_getD, List.getElem?_set_self hh]
    rfl
  · rw [List.getD_eq_getElem?_getD, List.getElem?_set_ne e, List.getElem?_set_self (by omega)]
    rfl
theorem go_ok {p : Int} {L n place h : Nat} {f : List (List Int)} {st : List Nat} (hp : Pk p) (hM : Mx p L n f) (hh : h ∈ headsAt f st.length place) :
    Mx p L n ((f.set st.length (f.getD h [])).set h (f.getD st.length [])) ∧ Mx p L n (stairGo p f st place h).1 ∧ (stairGo p f st place h).2.length ≤ n := by
  obtain ⟨h1, h2, h3⟩ := heads_mem hh
  rw [hM.1] at h2
  have m1 : Mx p L n ((f.set st.length (f.getD h [])).set h (f.getD st.length [])) := (hM.set (hM.row h2).2).set (hM.row (by omega)).2
  have r1 := m1.row (k := st.length) (by omega)
  refine ⟨m1, ?_, ?_⟩
  · unfold stairGo
    refine Mx.set ⟨by rw [List.length_map]; exact m1.1, fun r hr => ?_⟩ ⟨by rw [List.length_map]; exact r1.2.1, rw_md hp _ _⟩
    obtain ⟨q, hq, rfl⟩ := List.mem_map.mp hr
    exact ⟨by rw [less_len, List.length_map, r1.2.1, (m1.2 q hq).1, Nat.min_self], rw_less hp _ _ _⟩
  · unfold stairGo
    rw [List.length_append, List.length_singleton]
    omega
theorem step_ok {p : Int} {L n place : Nat} {s : List (List Int) × List Nat} (hp : Pk p) (hM : Mx p L n s.1) (hl : s.2.length ≤ n) : Mx p L n (stairStep p s place).1 ∧ (stairStep p s place).2.length ≤ n := by
  unfold stairStep
  cases e : headsAt s.1 s.2.length place with
  | nil => exact ⟨hM, hl⟩
  | cons h t => exact (go_ok hp hM (h := h) (by rw [e]; exact List.mem_cons_self)).2
theorem at_ok {p : Int} {L n : Nat} {rs : List (List Int)} (hp : Pk p) (hM : Mx p L n rs) : ∀ w : Nat, Mx p L n (stairsAt p rs w).1 ∧ (stairsAt p rs w).2.length ≤ n
  | 0 => ⟨hM, Nat.zero_le _⟩
  | w + 1 => by
    rw [stairsAt_succ]
    exact step_ok hp (at_ok hp hM w).1 (at_ok hp hM w).2
section
variable {P : Program} {w : World} {K : PySem.W.Frag} {mg : Str → Option Value} {base : Heap}
def R_mixed (ds : List D) (d : D) : Prop := ∃ (p : Int) (rs : List (List Int)) (q : D) (ns : List Int) (m : Nat), ds = [I p, q, TI ns, I m] ∧ Sq (rs.map TI) q ∧ (Pk p ∧ rs.length ≤ 1000 ∧ m ≤ 1000 ∧ ∀ r ∈ rs, m ≤ r.length ∧ Rw p r) ∧ d = TI (mixB p rs ns m)
theorem flip_ok {p : Int} {rs : List (List Int)} {m : Nat} (hp : Pk p) (h : ∀ r ∈ rs, Rw p r) : ∀ a ∈ flipB rs m, Rw p a ∧ a.length = rs.length := fun a ha => by
  obtain ⟨k, hk, rfl⟩ := List.mem_map.mp ha
  refine ⟨fun x hx => ?_, by rw [List.length_map]⟩
  obtain ⟨r, hr, rfl⟩ := List.mem_map.mp hx
  rw [List.getD_eq_getElem?_getD]
  cases z : r[k]? with
  | none => exact ⟨Int.le_refl _, by have := hp.1; show (0 : Int) < p; omega⟩
  | some y => exact h r hr y (List.mem_of_getElem? z)
theorem d_mixed (T : Txt K mg) : Def P w K mg base CX0 "mixed" 3 P_mixed (SpP K R_mixed) := by
  obtain ⟨hm, fd, F⟩ := T.f_mixed
  refine mk_def hm F (pure_ok F sc_mixed (fun ds d ⟨p, x, n, _, _, h, _⟩ => by rw [h]; rfl) fun cdv A outer s H E ds d hr hR => ?_) (fun _ _ _ _ _ _ us hl => match us, hl with | [_, _, _, _], _ => rfl)
  obtain ⟨p, rs, q, ns, m, rfl, hq, ⟨h1, h2, h3, h4⟩, rfl⟩ := hR
  show WS _ _ [.dat (I p), .dat q, .dat (TI ns), .dat (I m)] _ _
  refine w_one (w_ret (e_call (d_led T) hr ⟨p, flipB rs m, ns, TR (flipB rs m), rfl, .inl rfl, ⟨by have := h1.1; omega, by simp [flipB]; omega, fun a ha => ?_⟩, rfl⟩ (a_cons (v 0 rfl) (a_cons (e_call (d_flipped T) (hr.mono (by decide)) ⟨rs, q, m, rfl, hq, ⟨h2, h3, fun r hr => (h4 r hr).1⟩, rfl⟩ (a_cons (v 1 rfl) (a_cons (v 3 rfl) a_nil))) (a_cons (v 2 rfl) a_nil)))) rfl)
  obtain ⟨g1, g2⟩ := flip_ok h1 (fun r hr => (h4 r hr).2) a ha
  exact ⟨g1.sm h1, by omega⟩
def R_multiplied (ds : List D) (d : D) : Prop := ∃ (p : Int) (one two : List (List Int)) (q1 q2 : D) (m : Nat), ds = [I p, q1, q2, I m] ∧ Sq (one.map TI) q1 ∧ Sq (two.map TI) q2 ∧ (Pk p ∧ one.length ≤ 1000 ∧ two.length ≤ 1000 ∧ m ≤ 1000 ∧ ∀ r ∈ two, m ≤ r.length ∧ Rw p r) ∧ d = TR (mulB p one two m)
theorem d_multiplied (T : Txt K mg) : Def P w K mg base CX0 "multiplied" 4 P_multiplied (SpP K R_multiplied) := by
  obtain ⟨hm, fd, F⟩ := T.f_multiplied
  refine mk_def hm F (pure_ok F sc_multiplied (fun ds d ⟨p, x, n, _, _, _, h, _⟩ => by rw [h]; rfl) fun cdv A outer s H E ds d hr hR => ?_) (fun _ _ _ _ _ _ us hl => match us, hl with | [_, _, _, _], _ => rfl)
  obtain ⟨p, one, two, q1, q2, m, rfl, hq1, hq2, ⟨h1, h2, h3, h4, h5⟩, rfl⟩ := hR
  show WS _ _ [.dat (I p), .dat q1, .dat q2, .dat (I m), .un] _ _
  have nd := sc_multiplied.nd
  refine w_one (w_ret (e_tupL T.n_tuple ?_) rfl)
  refine (lcn (own := [("row", 4)]) one TI (fun r => [.dat (I p), .dat q1, .dat q2, .dat (I m), .dat (TI r)]) (fun r => TI (mixB p two r m)) rfl nd (blkOk_by (N := N_multiplied) (sc := defScope s_multiplied) (by decide +kernel)) (by omega)
    (i_sq (v 1 rfl) hq1).o rfl (fun _ _ _ _ _ => dg_n (j := 4) nd) (by decide) (fun a _ => by rfl) (fun r hr' _ _ _ _ _ => ?_)).e.e.is (by simp [mulB])
  exact e_call (d_mixed T) hr ⟨p, two, q2, r, m, rfl, hq2, ⟨h1, h3, h4, h5⟩, rfl⟩ (a_cons (v 0 rfl) (a_cons (v 2 rfl) (a_cons (v 4 rfl) (a_cons (v 3 rfl) a_nil))))
def R_powers_by (ds : List D) (d : D) : Prop := ∃ (p x : Int) (n : Nat), ds = [I p, I x, I n] ∧ (Pk p ∧ -1000 ≤ x ∧ x ≤ 1000 ∧ n ≤ 1000) ∧ d = TI (powsB p x n)
theorem d_powers_by (T : Txt K mg) : Def P w K mg base CX0 "powers_by" 2 P_powers_by (SpP K R_powers_by) := by
  obtain ⟨hm, fd, F⟩ := T.f_powers_by
  refine mk_def hm F (pure_ok F sc_powers_by (fun ds d ⟨p, x, n, h, _⟩ => by rw [h]; rfl) fun cdv A outer s H E ds d hr hR => ?_) (fun _ _ _ _ _ _ us hl => match us, hl with | [_, _, _], _ => rfl)
  obtain ⟨p, x, n, rfl, ⟨h1, h2, h3, h4⟩, rfl⟩ := hR
  show WS _ _ [.dat (I p), .dat (I x), .dat (I n), .un] _ _
  have nd := sc_powers_by.nd
  refine w_one (w_ret (e_tupL T.n_tuple ?_) rfl)
  refine (lcn (own := [("at", 3)]) (List.range n) (fun k => I (k : Int)) (fun k => [.dat (I p), .dat (I x), .dat (I n), .dat (I k)]) (fun k => I (powB p x k)) rfl nd (blkOk_by (N := N_powers_by) (sc := defScope s_powers_by) (by decide +kernel)) (by rw [List.length_range]; omega)
    (i_rng1 T.n_range (by omega) (v 2 rfl)).o (by simp) (fun _ _ _ _ _ => dg_n (j := 3) nd) (by decide) (fun a _ => by rfl) (fun k hk _ _ _ _ _ => ?_)).e.e.is (by simp [powsB, TI])
  have hk' := List.mem_range.mp hk
  exact e_call (d_power_by T) hr ⟨p, x, (k : Int), rfl, ⟨by have := h1.1; omega, h1.2, h2, h3, by omega, by omega⟩, by simp⟩ (a_cons (v 0 rfl) (a_cons (v 1 rfl) (a_cons (v 3 rfl) a_nil)))
def R_inverse_by (ds : List D) (d : D) : Prop := ∃ (p x y : Int), ds = [I p, I x] ∧ (Pk p ∧ (invL p x).head? = some y) ∧ d = I y
theorem d_inverse_by (T : Txt K mg) : Def P w K mg base CX0 "inverse_by" 1 P_inverse_by (SpP K R_inverse_by) := by
  obtain ⟨hm, fd, F⟩ := T.f_inverse_by
  refine mk_def hm F (pure_ok F sc_inverse_by (fun ds d ⟨p, x, n, h, _⟩ => by rw [h]; rfl) fun cdv A outer s H E ds d hr hR => ?_) (fun _ _ _ _ _ _ us hl => match us, hl with | [_, _], _ => rfl)
  obtain ⟨p, x, y, rfl, ⟨h1, h2⟩, rfl⟩ := hR
  show WS _ _ [.dat (I p), .dat (I x), .un] _ _
  have nd := sc_inverse_by.nd
  have hp := h1.2
  have hp1 := h1.1
  refine w_one (w_ret (e_ixL (ds := (invL p x).map PyData.int) (i := 0) (at_map (k := 0) (by rw [← List.head?_eq_getElem?]; exact h2)) (DE.is ?_ rfl) c_int) rfl)
  refine ((lc1 (own := [("each", 2)]) (List.range (p - 1).toNat) (fun k => I (1 + (k : Int))) (fun k => [.dat (I p), .dat (I x), .dat (I (1 + (k : Int)))]) (fun (k : Nat) => decide ((1 + (k : Int)) * x % p = 1)) (fun (k : Nat) => I (1 + (k : Int))) rfl nd (blkOk_by (N := N_inverse_by) (sc := defScope s_inverse_by) (by decide +kernel)) (by rw [List.length_range]; omega)
    (i_rng2 T.n_range (by omega) c_int (v 0 rfl)).o (fun _ _ _ _ _ => dg_n (j := 2) nd) (by decide) (fun a _ => by rfl) (fun k hk _ _ _ _ _ => ?_) (fun k hk hb _ _ _ _ _ => v 2 rfl)).e.e).is (by simp [invL, List.map_map, Function.comp_def])
  have hk' := List.mem_range.mp hk
  exact ts_one (t_eqi (modp (by have := h1.1; omega) (mul (cm_l (by omega)) (v 2 rfl) (v 1 rfl)) (v 0 rfl)) c_int)
def R_row_less (ds : List D) (d : D) : Prop := ∃ (p m : Int) (a b : List Int), ds = [I p, TI a, TI b, I m] ∧ (Pk p ∧ Sm b ∧ b.length ≤ 1000) ∧ d = TI (lessB p a b m)
theorem d_row_less (T : Txt K mg) : Def P w K mg base CX0 "row_less" 1 P_row_less (SpP K R_row_less) := by
  obtain ⟨hm, fd, F⟩ := T.f_row_less
  refine mk_def hm F (pure_ok F sc_row_less (fun ds d ⟨p, x, n, _, h, _⟩ => by rw [h]; rfl) fun cdv A outer s H E ds d hr hR => ?_) (fun _ _ _ _ _ _ us hl => match us, hl with | [_, _, _, _], _ => rfl)
  obtain ⟨p, m, a, b, rfl, ⟨h1, h2, h3⟩, rfl⟩ := hR
  show WS _ _ [.dat (I p), .dat (TI a), .dat (TI b), .dat (I m), .un, .un] _ _
  have nd := sc_row_less.nd
  refine w_one (w_ret (e_tupL T.n_tuple ?_) rfl)
  refine (lcn (own := [("here", 4), ("there", 5)]) (a.zip b) (fun q => .tuple [I q.1, I q.2]) (fun q => [.dat (I p), .dat (TI a), .dat (TI b), .dat (I m), .dat (I q.1), .dat (I q.2)]) (fun q => I ((q.1 - m * q.2) % p)) rfl nd (blkOk_by (N := N_row_less) (sc := defScope s_row_less) (by decide +kernel)) (by rw [List.length_zip]; omega)
    (i_zipT T.n_zip (v 1 rfl) (v 2 rfl)).o (zipD_map _ _ a b) (fun _ _ _ _ _ => dg_t rfl (dgs_cons (j := 4) nd (dgs_cons (j := 5) nd dgs_nil))) (by decide) (fun q _ => ⟨[I q.1, I q.2], rfl, rfl, rfl⟩) (fun q hq _ _ _ _ _ => ?_)).e.e.is (by simp [lessB, TI])
  exact modp (by have := h1.1; omega) (sub (v 4 rfl) (mul (cm_r (h2.of (List.of_mem_zip hq).2)) (v 3 rfl) (v 5 rfl))) (v 0 rfl)
def R_stairs (ds : List D) (d : D) : Prop := ∃ (p : Int) (rs : List (List Int)) (q : D) (w L n : Nat), ds = [I p, q, I w] ∧ Sq (rs.map TI) q ∧ (Pk p ∧ Iv p ∧ Mx p L n rs ∧ n ≤ 1000 ∧ L ≤ 1000 ∧ w ≤ L) ∧ d = .tuple [LT (stairsAt p rs w).1, LI ((stairsAt p rs w).2.map fun (k : Nat) => (k : Int))]
theorem d_stairs (T : Txt K mg) : Def P w K mg base CX0 "stairs" 2 P_stairs (SpP K R_stairs) := by
  obtain ⟨hm, fd, F⟩ := T.f_stairs
  refine mk_def hm F (pure_ok F sc_stairs (fun ds d ⟨p, x, n, _, _, _, h, _⟩ => by rw [h]; rfl) fun cdv A outer s H E ds d hr hR => ?_) (fun _ _ _ _ _ _ us hl => match us, hl with | [_, _, _], _ => rfl)
  obtain ⟨p, rs, q, wd, L, n, rfl, hq, ⟨hp, hI, hM, hn, hL, hw⟩, rfl⟩ := hR
  show WS _ _ [.dat (I p), .dat q, .dat (I wd), .un, .un, .un, .un, .un, .un, .un, .un, .un, .un] _ _
  have nd := sc_stairs.nd
  have hp1 := hp.1
  refine w_cons (w_tup2 3 4 (x_l (ds := rs.map TI) ?_ ⟨nofun, x_l (l_lst a_nil (by decide)) ⟨nofun, ?_⟩⟩) (.inl rfl) rfl nd)
  · refine (lcn (own := [("row", 10)]) rs TI (fun r => [.dat (I p), .dat q, .dat (I wd), .un, .un, .un, .un, .un, .un, .un, .dat (TI r), .un, .un]) TI rfl nd (blkOk_by (N := N_stairs) (sc := defScope s_stairs) (by decide +kernel)) (by have := hM.1; omega)
      (i_sq (v 1 rfl) hq).o rfl (fun _ _ _ _ _ => dg_n (j := 10) nd) (by decide) (fun a _ => by rfl) (fun r hr' _ _ _ _ _ => ?_)).e
    exact e_tupT T.n_tuple (v 10 rfl)
  show WS _ _ [.dat (I p), .dat q, .dat (I wd), .own (rs.map TI), .own [], .un, .un, .un, .un, .un, .un, .un, .un] _ _
  refine w_cons (w_for (fun i ρ => ∃ s5 s6 s7 s8 s9, ρ = [.dat (I p), .dat q, .dat (I wd), .own ((stairsAt p rs i).1.map TI), .own ((stairsAt p rs i).2.map fun (k : Nat) => I (k : Int)), s5, s6, s7, s8, s9, .un, .un, .un]) (i_rng1 T.n_range (by omega) (v 2 rfl)) (dg_n (j := 5) nd) (.inl rfl) rfl ⟨_, _, _, _, _, rfl⟩ ?_ ?_)
  · rintro i d ρ' hd ⟨s5, s6, s7, s8, s9, rfl⟩
    have hi : i < wd := by
      have := (List.getElem?_eq_some_iff.mp hd).1
      simpa using this
    have hdi : d = I (i : Int) := by
      rw [List.getElem?_map, List.getElem?_range (by simpa using hi)] at hd
      exact (Option.some.inj hd).symm
    subst hdi
    obtain ⟨a1, a2⟩ := at_ok hp hM i
    rw [stairsAt_succ]
    revert a1 a2
    generalize stairsAt p rs i = S
    obtain ⟨f, st⟩ := S
    intro a1 a2
    have a1 : Mx p L n f := a1
    have a2 : st.length ≤ n := a2
    refine ⟨_, rfl, ?_⟩
    show WS _ _ [.dat (I p), .dat q, .dat (I wd), .own (f.map TI), .own (st.map fun (k : Nat) => I (k : Int)), .dat (I i), s6, s7, s8, s9, .un, .un, .un] _ _
    refine w_cons (w_setL 6 (ds := (headsAt f st.length i).map fun (k : Nat) => I (k : Int)) (lc_peek 3 rfl (by simp [flatD]) (lc_peek 4 rfl (by simp [flatD]) (Lc.is (lc1 (own := [("at", 11)]) (List.range (f.length - st.length)) (fun k => I (st.length + (k : Int)))
      (fun k => [.dat (I p), .dat q, .dat (I wd), .dat (LT f), .dat (.list (st.map fun (k : Nat) => I (k : Int))), .dat (I i), s6, s7, s8, s9, .un, .dat (I (st.length + (k : Int))), .un]) (fun k => !decide ((f.getD (st.length + k) []).getD i 0 = 0)) (fun k => I (st.length + (k : Int))) rfl nd
      (blkOk_by (N := N_stairs) (sc := defScope s_stairs) (by decide +kernel)) (by rw [List.length_range]; have := a1.1; omega)
      ?_ (fun _ _ _ _ _ => dg_n (j := 11) nd) (by decide) (fun a _ => by rfl) (fun k hk _ _ _ _ _ => ?_) (fun k hk hb _ _ _ _ _ => v 11 rfl)) ?_))) ?_ (.inl rfl))
    · refine ((i_rng2 T.n_range ?_ (e_lenL T.n_len (v 4 rfl)) (e_lenL T.n_len (v 3 rfl))).is ?_).o
      · have := a1.1
        simp only [List.length_map]
        omega
      · simp only [List.length_map]
        congr 1
        rw [show ((f.length : Int) - (st.length : Int)).toNat = f.length - st.length by omega]
    · have hk' := List.mem_range.mp hk
      have rr := a1.row (k := st.length + k) (by have := a1.1; omega)
      refine ts_one (t_nei (i := (f.getD (st.length + k) []).getD i 0) (e_ixT (at_map (get_of (by rw [rr.2.1]; omega) 0)) (e_ixL (at_map (f := TI) (k := st.length + k) rr.1) (v 3 rfl) ((v 11 rfl).is ?_)) (v 5 rfl)) c_int)
      simp
    · unfold headsAt
      rw [List.map_map]
      rfl
    show WS _ _ [.dat (I p), .dat q, .dat (I wd), .own (f.map TI), .own (st.map fun (k : Nat) => I (k : Int)), .dat (I i), .dat (.list ((headsAt f st.length i).map fun (k : Nat) => I (k : Int))), s7, s8, s9, .un, .un, .un] _ _
    have e6 : (headsAt f st.length i).map (fun (k : Nat) => I (k : Int)) = ((headsAt f st.length i).map fun (k : Nat) => (k : Int)).map PyData.int := by rw [List.map_map]; rfl
    have hst : stairStep p (f, st) i = stairPick p f st i (headsAt f st.length i) := rfl
    rw [hst]
    have hgo : ∀ h, h ∈ headsAt f st.length i → _ := fun h hh => go_ok hp a1 hh
    have hmem : ∀ h, h ∈ headsAt f st.length i → _ := fun h hh => heads_mem hh
    revert e6 hgo hmem
    generalize headsAt f st.length i = hs
    intro e6 hgo hmem
    refine w_one (w_if (t_ne hr.units ?_ (shp_lst (n := 0) (fun _ h => by cases h)).s (v 6 rfl) (l_lst a_nil (by decide)).e) (fun hk => ?_) (fun hk => ?_))
    · rw [e6]
      exact (shp_LI _).s
    rotate_left
    · rw [e6] at hk
      have hk2 : (hs.map fun (k : Nat) => (k : Int)) = [] := (eqv_LI _ []).mp (nf hk)
      cases hs with
      | cons _ _ => cases hk2
      | nil => exact w_nil ⟨_, _, _, _, _, rfl⟩
    · cases hs with
      | nil =>
        exfalso
        have z := (eqv_LI [] []).mpr rfl
        have hk' : (!PyData.eqv (LI []) (LI [])) = true := hk
        rw [z] at hk'
        cases hk'
      | cons h tl =>
      obtain ⟨m1, m2, m3⟩ := hgo h List.mem_cons_self
      obtain ⟨k1, k2, k3⟩ := hmem h List.mem_cons_self
      have sl : st.length < n := by have := a1.1; omega
      have hh : h < n := by have := a1.1; omega
      have r1 := m1.row sl
      have sg := swap_get (f := f) k1 k2
      refine w_cons (w_set 7 (e_peek 4 rfl rfl (e_lenL T.n_len (v 4 rfl))) ?_ (.inl rfl) nd)
      show WS _ _ [.dat (I p), .dat q, .dat (I wd), .own (f.map TI), .own (st.map fun (k : Nat) => I (k : Int)), .dat (I i), .dat (.list ((h :: tl).map fun (k : Nat) => I (k : Int))), .dat (I ((st.map fun (k : Nat) => I (k : Int)).length : Nat)), s8, s9, .un, .un, .un] _ _
      rw [List.length_map]
      refine w_cons (w_put2 3 st.length h rfl (e_ixO 3 (at_map (f := TI) (a1.row hh).1) rfl (e_ixL (at_map (f := fun (k : Nat) => I (k : Int)) (k := 0) rfl) (v 6 rfl) c_int)) (e_ixO 3 (at_map (f := TI) (a1.row sl).1) rfl (v 7 rfl)) (v 7 rfl) (e_ixL (at_map (f := fun (k : Nat) => I (k : Int)) (k := 0) rfl) (v 6 rfl) c_int) rfl rfl (by rw [List.length_map, a1.1]; exact sl) (by rw [List.length_map, a1.1]; exact hh) (e_ixL (at_map (f := fun (k : Nat) => I (k : Int)) (k := 0) rfl) (v 6 rfl) c_int) rfl ?_)
      rw [← List.map_set, ← List.map_set]
      have hf1 : stairGo p f st i h = ((((f.set st.length (f.getD h [])).set h (f.getD st.length [])).map fun r => lessB p r ((((f.set st.length (f.getD h [])).set h (f.getD st.length [])).getD st.length []).map fun x => invB p ((((f.set st.length (f.getD h [])).set h (f.getD st.length [])).getD st.length []).getD i 0) * x % p) (r.getD i 0)).set st.length ((((f.set st.length (f.getD h [])).set h (f.getD st.length [])).getD st.length []).map fun x => invB p ((((f.set st.length (f.getD h [])).set h (f.getD st.length [])).getD st.length []).getD i 0) * x % p), st ++ [i]) := rfl
      rw [stairPick_cons, hf1]
      rw [← sg] at k3
      revert m1 r1 k3
      generalize (f.set st.length (f.getD h [])).set h (f.getD st.length []) = f1
      intro m1 k3 r1
      generalize hpv : f1.getD st.length [] = pv at *
      show WS _ _ [.dat (I p), .dat q, .dat (I wd), .own (f1.map TI), .own (st.map fun (k : Nat) => I (k : Int)), .dat (I i), .dat (.list ((h :: tl).map fun (k : Nat) => I (k : Int))), .dat (I (st.length : Nat)), s8, s9, .un, .un, .un] _ _
      have gi : pv[i]? = some (pv.getD i 0) := get_of (by rw [r1.2.1]; omega) 0
      have gb := r1.2.2 _ (List.mem_of_getElem? gi)
      obtain ⟨y, y1, y2, y3, y4⟩ := hI (pv.getD i 0) (by omega) (by omega)
      have ey : invB p (pv.getD i 0) = y := by
        unfold invB
        rw [List.headD_eq_head?_getD, y1]
        rfl
      rw [ey]
      refine w_cons (w_set 8 (e_call (d_inverse_by T) hr ⟨p, pv.getD i 0, y, rfl, ⟨hp, y1⟩, rfl⟩ (a_cons (v 0 rfl) (a_cons (e_ixT (at_map gi) (e_ixO 3 (at_map (f := TI) r1.1) rfl (v 7 rfl)) (v 5 rfl)) a_nil))) ?_ (.inl rfl) nd)
      refine w_cons (w_set 9 (d := TI (pv.map fun x => y * x % p)) (e_tupL T.n_tuple ?_) ?_ (.inl rfl) nd)
      · refine (lcn (own := [("each", 12)]) pv PyData.int (fun x => [.dat (I p), .dat q, .dat (I wd), .own (f1.map TI), .own (st.map fun (k : Nat) => I (k : Int)), .dat (I i), .dat (.list ((h :: tl).map fun (k : Nat) => I (k : Int))), .dat (I (st.length : Nat)), .dat (I y), s9, .un, .un, .dat (I x)]) (fun x => I (y * x % p)) rfl nd
          (blkOk_by (N := N_stairs) (sc := defScope s_stairs) (by decide +kernel)) (by rw [r1.2.1]; omega) (i_tup (e_ixO 3 (at_map (f := TI) r1.1) rfl (v 7 rfl))).o rfl (fun _ _ _ _ _ => dg_n (j := 12) nd) (by decide) (fun a _ => by rfl) (fun x hx' _ _ _ _ _ => ?_)).e.e.is (by simp [TI])
        exact modp (by omega) (mul (cm_l (by have := hp.2; omega)) (v 8 rfl) (v 12 rfl)) (v 0 rfl)
      generalize hld : (pv.map fun x => y * x % p) = lead
      have hl1 : Rw p lead := by rw [← hld]; exact rw_md hp _ _
      have hl2 : lead.length = L := by rw [← hld, List.length_map]; exact r1.2.1
      show WS _ _ [.dat (I p), .dat q, .dat (I wd), .own (f1.map TI), .own (st.map fun (k : Nat) => I (k : Int)), .dat (I i), .dat (.list ((h :: tl).map fun (k : Nat) => I (k : Int))), .dat (I (st.length : Nat)), .dat (I y), .dat (TI lead), .un, .un, .un] _ _
      refine w_cons (w_setO 3 (ds := (f1.map fun r => lessB p r lead (r.getD i 0)).map TI) ?_ ?_ (.inl rfl) nd)
      · refine ((lcn (own := [("row", 10)]) f1 TI (fun r => [.dat (I p), .dat q, .dat (I wd), .own (f1.map TI), .own (st.map fun (k : Nat) => I (k : Int)), .dat (I i), .dat (.list ((h :: tl).map fun (k : Nat) => I (k : Int))), .dat (I (st.length : Nat)), .dat (I y), .dat (TI lead), .dat (TI r), .un, .un]) (fun r => TI (lessB p r lead (r.getD i 0))) rfl nd
          (blkOk_by (N := N_stairs) (sc := defScope s_stairs) (by decide +kernel)) (by rw [m1.1]; omega) (i_own 3 rfl) rfl (fun _ _ _ _ _ => dg_n (j := 10) nd) (by decide) (fun a _ => by rfl) (fun r hx' _ _ _ _ _ => ?_)).e).is (by simp)
        have rr := m1.2 r hx'
        exact e_call (d_row_less T) hr ⟨p, r.getD i 0, r, lead, rfl, ⟨hp, hl1.sm hp, by omega⟩, rfl⟩ (a_cons (v 0 rfl) (a_cons (v 10 rfl) (a_cons (v 9 rfl) (a_cons (e_ixT (at_map (get_of (by omega) 0)) (v 10 rfl) (v 5 rfl)) a_nil))))
      refine w_cons (w_put 3 st.length rfl (v 9 rfl) (v 7 rfl) rfl (by rw [List.length_map, List.length_map, m1.1]; exact sl) ?_)
      rw [← List.map_set]
      refine w_one (w_app 4 rfl (v 5 rfl) (by rw [List.length_map]; omega) ?_)
      exact ⟨_, _, _, _, _, by rw [List.map_append]; rfl⟩
  · rintro ρ' ⟨s5, s6, s7, s8, s9, rfl⟩
    rw [List.length_map, List.length_range, Int.toNat_natCast]
    refine w_frz 3 rfl (.inl rfl) (w_frz 4 rfl (.inl rfl) (w_one (w_ret (e_tup (a_cons (v 3 rfl) (a_cons (v 4 rfl) a_nil)) (by simp)) ?_)))
    show PyData.tuple _ = PyData.tuple _
    simp
end
end Lm
set_option maxRecDepth 100000
set_option maxHeartbeats 4000000
/-! answer_by, solved, parted. -/
namespace Lm
open PySem PySem.Spec PyProof.Rows L2 Evl
theorem sIx_none (n d : Nat) : HT.sIx n d none = d := rfl
theorem sIx_nat (n d k : Nat) : HT.sIx n d (some (k : Int)) = min k n := by
  unfold HT.sIx
  simp
  omega
theorem cut_from {α : Type} (xs : List α) (k : Nat) : cut xs (some (k : Int)) none = xs.drop k := by
  unfold cut
  rw [sIx_nat, sIx_none]
  by_cases h : k ≤ xs.length
  · rw [Nat.min_eq_left h, List.take_of_length_le (by rw [List.length_drop]; omega)]
  · rw [Nat.min_eq_right (by omega), Nat.sub_self, List.take_zero, List.drop_of_length_le (by omega)]
theorem cut_to {α : Type} (xs : List α) (k : Nat) : cut xs none (some (k : Int)) = xs.take k := by
  unfold cut
  rw [sIx_nat, sIx_none, Nat.sub_zero, List.drop_zero]
  by_cases h : k ≤ xs.length
  · rw [Nat.min_eq_left h]
  · rw [Nat.min_eq_right (by omega), List.take_length, List.take_of_length_le (by omega)]
def aug1 (rows : List (List Int)) (right : List Int) : List (List Int) := (rows.zip right).map fun q => q.1 ++ [q.2]
def aug2 (rows rights : List (List Int)) : List (List Int) := (rows.zip rights).map fun q => q.1 ++ q.2
theorem Rw.app {p : Int} {a b : List Int} (h : Rw p a) (g : Rw p b) : Rw p (a ++ b) := fun x hx => (List.mem_append.mp hx).elim (h x) (g x)
theorem aug1_ok {p : Int} {L n : Nat} {rows : List (List Int)} {right : List Int} (h : Mx p L n rows) (hr : Rw p right) (hl : right.length = n) : Mx p (L + 1) n (aug1 rows right) :=
  ⟨by unfold aug1; rw [List.length_map, List.length_zip, h.1, hl, Nat.min_self], fun r hr' => by
    obtain ⟨q, hq, rfl⟩ := List.mem_map.mp hr'
    obtain ⟨h1, h2⟩ := List.of_mem_zip hq
    exact ⟨by rw [List.length_append, (h.2 _ h1).1]; rfl, (h.2 _ h1).2.app fun x hx => by rw [List.mem_singleton.mp hx]; exact hr _ h2⟩⟩
theorem aug2_ok {p : Int} {L L2 n : Nat} {rows rights : List (List Int)} (h : Mx p L n rows) (hr : Mx p L2 n rights) : Mx p (L + L2) n (aug2 rows rights) :=
  ⟨by unfold aug2; rw [List.length_map, List.length_zip, h.1, hr.1, Nat.min_self], fun r hr' => by
    obtain ⟨q, hq, rfl⟩ := List.mem_map.mp hr'
    obtain ⟨h1, h2⟩ := List.of_mem_zip hq
    exact ⟨by rw [List.length_append, (h.2 _ h1).1, (hr.2 _ h2).1], (h.2 _ h1).2.app (hr.2 _ h2).2⟩⟩
section
variable {P : Program} {w : World} {K : PySem.W.Frag} {mg : Str → Option Value} {base : Heap}
def R_answer_by (ds : List D) (d : D) : Prop := ∃ (p : Int) (rows : List (List Int)) (right : List Int) (w L : Nat), ds = [I p, LT rows, LI right, I w] ∧ (Pk p ∧ Iv p ∧ Mx p L w rows ∧ Rw p right ∧ right.length = w ∧ L ≤ 900 ∧ w ≤ L ∧ (stairsAt p (aug1 rows right) w).2.length = w) ∧ d = TI ((stairsAt p (aug1 rows right) w).1.map fun r => r.getD w 0)
theorem d_answer_by (T : Txt K mg) : Def P w K mg base CX0 "answer_by" 3 P_answer_by (SpP K R_answer_by) := by
  obtain ⟨hm, fd, F⟩ := T.f_answer_by
  refine mk_def hm F (pure_ok F sc_answer_by (fun ds d ⟨p, x, n, _, _, h, _⟩ => by rw [h]; rfl) fun cdv A outer s H E ds d hr hR => ?_) (fun _ _ _ _ _ _ us hl => match us, hl with | [_, _, _, _], _ => rfl)
  obtain ⟨p, rows, right, wd, L, rfl, ⟨hp, hI, hM, hR, hl, hL, hw, hS⟩, rfl⟩ := hR
  show WS _ _ [.dat (I p), .dat (LT rows), .dat (LI right), .dat (I wd), .un, .un, .un, .un] _ _
  have nd := sc_answer_by.nd
  have hA := aug1_ok hM hR hl
  have hB := (at_ok hp hA wd).1
  refine w_cons (w_unp (js := [5, 4]) (e_call (d_stairs T) hr ⟨p, aug1 rows right, LT (aug1 rows right), wd, L + 1, wd, rfl, .inr rfl, ⟨hp, hI, hA, by omega, by omega, by omega⟩, rfl⟩ (a_cons (v 0 rfl) (a_cons ?_ (a_cons (v 3 rfl) a_nil)))) (dg_t rfl (dgs_cons (j := 4) nd (dgs_cons (j := 5) nd dgs_nil))) ⟨_, rfl, rfl, rfl⟩ ?_ (.inl rfl))
  · refine (lcn (own := [("row", 6), ("number", 7)]) (rows.zip right) (fun q => .tuple [TI q.1, I q.2]) (fun q => [.dat (I p), .dat (LT rows), .dat (LI right), .dat (I wd), .un, .un, .dat (TI q.1), .dat (I q.2)]) (fun q => TI (q.1 ++ [q.2])) rfl nd (blkOk_by (N := N_answer_by) (sc := defScope s_answer_by) (by decide +kernel)) (by rw [List.length_zip, hM.1]; omega)
      (i_zipL T.n_zip (v 1 rfl) (v 2 rfl)).o (zipD_map _ _ rows right) (fun _ _ _ _ _ => dg_t rfl (dgs_cons (j := 6) nd (dgs_cons (j := 7) nd dgs_nil))) (by decide) (fun q _ => ⟨[TI q.1, I q.2], rfl, rfl, rfl⟩) (fun q hq _ _ _ _ _ => ?_)).e.e.is (by simp [aug1])
    have := (hM.2 _ (List.of_mem_zip hq).1).1
    exact (e_catT (by simp; omega) (e_tupT T.n_tuple (v 6 rfl)) (e_tup (a_cons (v 7 rfl) a_nil) (by simp))).is (by simp [TI])
  generalize stairsAt p (aug1 rows right) wd = S at *
  obtain ⟨f, st⟩ := S
  have hS : st.length = wd := hS
  have hB : Mx p (L + 1) wd f := hB
  show WS _ _ [.dat (I p), .dat (LT rows), .dat (LI right), .dat (I wd), .dat (LT f), .dat (LI (st.map fun (k : Nat) => (k : Int))), .un, .un] _ _
  have hc : cut (f.map TI) (some (wd : Int)) none = [] := by rw [cut_from, List.drop_of_length_le (by rw [List.length_map, hB.1]; exact Nat.le_refl _)]
  have hc2 : cut (f.map TI) none (some (wd : Int)) = f.map TI := by rw [cut_to, List.take_of_length_le (by rw [List.length_map, hB.1]; exact Nat.le_refl _)]
  refine w_cons (w_if (PW.pt (w_or (q := false) (t_lt (e_lenL T.n_len (v 5 rfl)) (v 3 rfl)) fun _ => w_or1 (t_val (e_any (bs := []) rfl T.n_any ?_)))) (fun hk => ?_) (fun _ => w_nil ?_))
  · exact (lcn (own := [("row", 6)]) ([] : List (List Int)) TI (fun q => [.dat (I p), .dat (LT rows), .dat (LI right), .dat (I wd), .dat (LT f), .dat (LI (st.map fun (k : Nat) => (k : Int))), .dat (TI q), .un]) (fun q => .none) rfl nd (blkOk_by (N := N_answer_by) (sc := defScope s_answer_by) (by decide +kernel)) (by simp)
      (i_lst (l_slL (v 4 rfl) (o_some (v 3 rfl)) o_none).e).o (by rw [hc]; rfl) (fun _ _ _ _ _ => dg_n (j := 6) nd) (by decide) (fun a h => by cases h) (fun a h => by cases h)).e.e
  · exfalso
    simp [hS] at hk
  refine w_one (w_ret (e_tupL T.n_tuple ?_) rfl)
  refine (lcn (own := [("row", 6)]) f TI (fun q => [.dat (I p), .dat (LT rows), .dat (LI right), .dat (I wd), .dat (LT f), .dat (LI (st.map fun (k : Nat) => (k : Int))), .dat (TI q), .un]) (fun q => I (q.getD wd 0)) rfl nd (blkOk_by (N := N_answer_by) (sc := defScope s_answer_by) (by decide +kernel)) (by have := hB.1; omega)
      (i_lst (l_slL (v 4 rfl) o_none (o_some (v 3 rfl))).e).o hc2 (fun _ _ _ _ _ => dg_n (j := 6) nd) (by decide) (fun a h => by rfl) (fun a h _ _ _ _ _ => ?_)).e.e.is (by simp [TI])
  exact e_ixT (at_map (get_of (by rw [(hB.2 a h).1]; omega) 0)) (v 6 rfl) (v 3 rfl)
def R_solved (ds : List D) (d : D) : Prop := ∃ (p : Int) (rows rights : List (List Int)) (w L L2 n : Nat), ds = [I p, LT rows, LT rights, I w] ∧ (Pk p ∧ Iv p ∧ Mx p L n rows ∧ Mx p L2 n rights ∧ n ≤ 1000 ∧ L + L2 ≤ 1000 ∧ w ≤ L) ∧ d = LT ((stairsAt p (aug2 rows rights) w).1.map fun r => r.drop w)
theorem d_solved (T : Txt K mg) : Def P w K mg base CX0 "solved" 3 P_solved (SpP K R_solved) := by
  obtain ⟨hm, fd, F⟩ := T.f_solved
  refine mk_def hm F (pure_ok F sc_solved (fun ds d ⟨p, x, n, _, _, _, _, h, _⟩ => by rw [h]; rfl) fun cdv A outer s H E ds d hr hR => ?_) (fun _ _ _ _ _ _ us hl => match us, hl with | [_, _, _, _], _ => rfl)
  obtain ⟨p, rows, rights, wd, L, L2, n, rfl, ⟨hp, hI, hM, hM2, hn, hL, hw⟩, rfl⟩ := hR
  show WS _ _ [.dat (I p), .dat (LT rows), .dat (LT rights), .dat (I wd), .un, .un, .un] _ _
  have nd := sc_solved.nd
  have hA := aug2_ok hM hM2
  have hB := (at_ok hp hA wd).1
  refine w_cons (w_set 4 (d := LT (stairsAt p (aug2 rows rights) wd).1) (e_ixT (i := 0) rfl (e_call (d_stairs T) hr ⟨p, aug2 rows rights, LT (aug2 rows rights), wd, L + L2, n, rfl, .inr rfl, ⟨hp, hI, hA, by omega, by omega, by omega⟩, rfl⟩ (a_cons (v 0 rfl) (a_cons ?_ (a_cons (v 3 rfl) a_nil)))) c_int) ?_ (.inl rfl) nd)
  · refine (lcn (own := [("row", 5), ("right", 6)]) (rows.zip rights) (fun q => .tuple [TI q.1, TI q.2]) (fun q => [.dat (I p), .dat (LT rows), .dat (LT rights), .dat (I wd), .un, .dat (TI q.1), .dat (TI q.2)]) (fun q => TI (q.1 ++ q.2)) rfl nd (blkOk_by (N := N_solved) (sc := defScope s_solved) (by decide +kernel)) (by rw [List.length_zip, hM.1]; omega)
      (i_zipL T.n_zip (v 1 rfl) (v 2 rfl)).o (zipD_map _ _ rows rights) (fun _ _ _ _ _ => dg_t rfl (dgs_cons (j := 5) nd (dgs_cons (j := 6) nd dgs_nil))) (by decide) (fun q _ => ⟨[TI q.1, TI q.2], rfl, rfl, rfl⟩) (fun q hq _ _ _ _ _ => ?_)).e.e.is (by simp [aug2])
    have := (hM.2 _ (List.of_mem_zip hq).1).1
    have := (hM2.2 _ (List.of_mem_zip hq).2).1
    exact (e_catT (by simp; omega) (e_tupT T.n_tuple (v 5 rfl)) (e_tupT T.n_tuple (v 6 rfl))).is (by simp [TI])
  generalize (stairsAt p (aug2 rows rights) wd).1 = f at *
  refine w_one (w_ret (DL.e (DL.is (lcn (own := [("row", 5)]) f TI (fun q => [.dat (I p), .dat (LT rows), .dat (LT rights), .dat (I wd), .dat (LT f), .dat (TI q), .un]) (fun q => TI (q.drop wd)) rfl nd (blkOk_by (N := N_solved) (sc := defScope s_solved) (by decide +kernel)) (by have := hB.1; omega)
      (i_lst (v 4 rfl)).o rfl (fun _ _ _ _ _ => dg_n (j := 5) nd) (by decide) (fun a h => by rfl) (fun a h _ _ _ _ _ => ?_)).e rfl)) ?_)
  · exact (e_slT (v 5 rfl) (o_some (v 3 rfl)) o_none).is (by rw [cut_map, cut_from])
  · show PyData.list _ = PyData.list _
    rw [List.map_map]
    rfl
def parB (p one two power y : Int) : Int × Int := ((one - power * ((one - two) * y % p)) % p, (one - two) * y % p)
def R_parted (ds : List D) (d : D) : Prop := ∃ (p one two power other y : Int), ds = [I p, I one, I two, I power, I other] ∧ (Pk p ∧ -1000 ≤ power ∧ power ≤ 1000 ∧ 0 < y ∧ y < p ∧ (invL p ((power - other) % p)).head? = some y) ∧ d = .tuple [I (parB p one two power y).1, I (parB p one two power y).2]
theorem d_parted (T : Txt K mg) : Def P w K mg base CX0 "parted" 2 P_parted (SpP K R_parted) := by
  obtain ⟨hm, fd, F⟩ := T.f_parted
  refine mk_def hm F (pure_ok F sc_parted (fun ds d ⟨p, x, n, _, _, _, h, _⟩ => by rw [h]; rfl) fun cdv A outer s H E ds d hr hR => ?_) (fun _ _ _ _ _ _ us hl => match us, hl with | [_, _, _, _, _], _ => rfl)
  obtain ⟨p, one, two, power, other, y, rfl, ⟨hp, h1, h2, h3, h4, hy⟩, rfl⟩ := hR
  show WS _ _ [.dat (I p), .dat (I one), .dat (I two), .dat (I power), .dat (I other), .un] _ _
  have nd := sc_parted.nd
  have hp1 := hp.1
  have hp2 := hp.2
  refine w_cons (w_set 5 (modp (by omega) (mul (cm_r (by omega)) (sub (v 1 rfl) (v 2 rfl)) (e_call (d_inverse_by T) hr ⟨p, _, y, rfl, ⟨hp, hy⟩, rfl⟩ (a_cons (v 0 rfl) (a_cons (modp (by omega) (sub (v 3 rfl) (v 4 rfl)) (v 0 rfl)) a_nil)))) (v 0 rfl)) ?_ (.inl rfl) nd)
  exact w_one (w_ret (e_tup (a_cons (modp (by omega) (sub (v 1 rfl) (mul (cm_l (by omega)) (v 3 rfl) (v 5 rfl))) (v 0 rfl)) (a_cons (v 5 rfl) a_nil)) (by simp)) rfl)
end
end Lm
set_option maxRecDepth 100000
set_option maxHeartbeats 4000000
/-! zip of a tuple and a list, of a list and a tuple; enumerate of a tuple. -/
namespace Lm
open PySem PySem.Spec PyProof.Rows L2 Evl
/-! a tuple (true) or a list (false) -/
def SqB (k : Bool) (K : PySem.W.Frag) (H : Hp) (a : Addr) (xs : List V) : Prop := match k with | true => SqT K H a xs | false => SqL K H a xs
def ItB (k : Bool) (h : Heap) (it a : Addr) (i : Nat) : Prop := match k with | true => h.IsTupleIter it a i | false => h.IsListIter it a i
def IsB (k : Bool) (h : Heap) (a : Addr) (its : Array Value) : Prop := match k with | true => h.IsTuple a its | false => h.IsList a its
def itO (k : Bool) (a : Addr) : Obj := { cls := .type (match k with | true => "tuple_iterator" | false => "list_iterator"), data := .fields #[.ref a, .int 0 0] }
theorem sqB_is {X : Cx} {pins : List (Addr × Obj)} {σ : L2.St} {H : Hp} {s : Shared} (I : Inv X pins σ H s) {k : Bool} {a : Addr} {xs : List V} (h : SqB k X.K H a xs) : ∃ its : List Value, Vals xs its ∧ IsB k s.heap a its.toArray ∧ xs.length ≤ sizeLine := by
  cases k with
  | true =>
    obtain ⟨its, r, p, z⟩ := I.tuple h
    exact ⟨its, r, p, z⟩
  | false =>
    obtain ⟨its, r, p, z⟩ := I.list h
    exact ⟨its, r, p.isList, z⟩
theorem sqB_inj {X : Cx} {pins : List (Addr × Obj)} {σ : L2.St} {H : Hp} {s : Shared} (I : Inv X pins σ H s) {k : Bool} {a : Addr} {xs ys : List V} (h : SqB k X.K H a xs) (g : SqB k X.K H a ys) : xs = ys := by
  cases k with
  | true => exact I.tuple_inj h g
  | false => exact I.list_inj h g
theorem isB_lt {k : Bool} {h : Heap} {a : Addr} {its : Array Value} (g : IsB k h a its) : a < h.objs.size := by
  cases k with
  | true =>
    obtain ⟨o, ho, _⟩ := g
    exact Heap.lt_size ho
  | false =>
    obtain ⟨o, ho, _⟩ := g
    exact Heap.lt_size ho
theorem itB_ob {k : Bool} {h : Heap} {it a : Addr} {i : Nat} (g : ItB k h it a i) : ∃ o, h.get? it = some o ∧ ∀ v, o.data ≠ .cell v := by
  cases k with
  | true =>
    obtain ⟨o, h1, _, h2⟩ := g
    exact ⟨o, h1, fun v q => by rw [h2] at q; cases q⟩
  | false =>
    obtain ⟨o, h1, _, h2⟩ := g
    exact ⟨o, h1, fun v q => by rw [h2] at q; cases q⟩
theorem itB_at {k : Bool} {h h' : Heap} {it a : Addr} {i : Nat} (g : ItB k h it a i) (e : ∀ o, h.get? it = some o → h'.get? it = some o) : ItB k h' it a i := by
  cases k with
  | true => exact Heap.IsTupleIter.at g e
  | false => exact Heap.IsListIter.at g e
theorem isB_at {k : Bool} {h h' : Heap} {a : Addr} {its : Array Value} (g : IsB k h a its) (e : ∀ o, h.get? a = some o → h'.get? a = some o) : IsB k h' a its := by
  cases k with
  | true => exact Heap.IsTuple.at g e
  | false => exact Heap.IsList.at g e
theorem itB_new {k : Bool} {h : Heap} {it a : Addr} (e : h.get? it = some (itO k a)) : ItB k h it a 0 := by
  cases k with
  | true => exact ⟨_, e, rfl, rfl⟩
  | false => exact ⟨_, e, rfl, rfl⟩
theorem drawsB {prog : Program} {w : World} {A : Around} (hh : A.handled = none) (k : Bool) (it a : Addr) (hne : a ≠ it) (its : Array Value) :
    Draws prog w A it [it, a] its.size (fun i v => its[i]? = some v) (fun i h => ItB k h it a i ∧ IsB k h a its) := by
  cases k with
  | true => exact Draws.tuple hh it a hne its
  | false => exact Draws.list hh it a hne its
theorem beginsB (k : Bool) (a : Addr) (its : Array Value) : Begins (.ref a) (itO k a) fun h => IsB k h a its := by
  cases k with
  | true => exact begins_tuple a its
  | false => exact begins_list a its
def ItzB (K : PySem.W.Frag) (k1 k2 : Bool) (a b : Addr) : It :=
  ⟨fun i H => ∃ (xs ys : List V) (x y : V), SqB k1 K H a xs ∧ SqB k2 K H b ys ∧ xs[i]? = some x ∧ ys[i]? = some y,
    fun i H v H' => ∃ T x y, v = .ref T ∧ H T = none ∧ H' = upd H T (.tup [x, y]) ∧ (∀ xs, SqB k1 K H a xs → xs[i]? = some x) ∧ ∀ ys, SqB k2 K H b ys → ys[i]? = some y,
    fun i H => ∃ xs ys : List V, SqB k1 K H a xs ∧ SqB k2 K H b ys ∧ i ≤ xs.length ∧ i ≤ ys.length ∧ (i = xs.length ∨ i = ys.length)⟩
theorem sepOf {z TI TO i1 i2 a b : Addr} (D : ZipApart z TI TO i1 i2 a b) : ZipSep2 z TI TO i1 i2 [i1, a] [i2, b] where
  TIz := D.TIz
  TOz := D.TOz
  TITO := D.TITO
  TIi1 := D.TIi1
  mem1 := List.mem_cons_self
  zf1 := by simp [D.i1z.symm, D.l1z.symm]
  Tf1 := by simp [D.TOi1, D.l1TO.symm]
  TIi2 := D.TIi2
  mem2 := List.mem_cons_self
  zf2 := by simp [D.i2z.symm, D.l2z.symm]
  Tf2 := by simp [D.TOi2, D.l2TO.symm]
  sep1_2 := by simp [D.i12, D.l2i1.symm]
  sep2_1 := by simp [D.i12.symm, D.l1i2.symm]
theorem turn_zipB {P : Program} {w : World} {K : PySem.W.Frag} {elts : List Expr} {kk : Nat} {tpos : Pos} {a b z TI TO i1 i2 : Addr} {k1 k2 : Bool} (D : ZipApart z TI TO i1 i2 a b) :
    Turn P w K (.Tuple elts kk tpos) (ItzB K k1 k2 a b) [z, TI, TO, i1, i2] z (fun i h => IsZip h z TI TO .none ∧ IsTupOf2 h TI (.ref i1) (.ref i2) ∧ (∃ x y, IsTupOf2 h TO x y) ∧ ItB k1 h i1 a i ∧ ItB k2 h i2 b i) where
  mem := List.mem_cons_self
  obj := fun i h st c hc => by
    obtain ⟨hz, hTI, ⟨x, y, hTO⟩, h1, h2⟩ := st
    simp only [List.mem_cons, List.not_mem_nil, or_false] at hc
    rcases hc with q | q | q | q | q <;> subst q
    · exact ⟨_, hz, fun v q => nomatch q⟩
    · exact ⟨_, hTI, fun v q => nomatch q⟩
    · exact ⟨_, hTO, fun v q => nomatch q⟩
    · exact itB_ob h1
    · exact itB_ob h2
  keep := fun i h h' st kp => by
    obtain ⟨hz, hTI, ⟨x, y, hTO⟩, h1, h2⟩ := st
    exact ⟨kp z (by simp) _ hz, kp TI (by simp) _ hTI, ⟨x, y, kp TO (by simp) _ hTO⟩, itB_at h1 fun o q => kp i1 (by simp) o q, itB_at h2 fun o q => kp i2 (by simp) o q⟩
  item := by
    intro X hP hw hK hc i pins s σ H E I hf st hg
    subst hP hw hK
    obtain ⟨hz, hTI, ⟨x0, y0, hTO⟩, h1, h2⟩ := st
    obtain ⟨xs, ys, x, y, hqx, hqy, hx, hy⟩ := hg
    obtain ⟨its, rv, p, _⟩ := sqB_is I hqx
    obtain ⟨its2, rv2, p2, _⟩ := sqB_is I hqy
    obtain ⟨u, hu, ru⟩ := rv.get hx
    obtain ⟨u2, hu2, ru2⟩ := rv2.get hy
    have hh : X.A.in1.handled = none := I.ok.hd hc
    have hzl : z < s.heap.objs.size := Heap.lt_size hz
    have hi1 : i < its.toArray.size := by simpa using (List.getElem?_eq_some_iff.mp hu).1
    have hi2 : i < its2.toArray.size := by simpa using (List.getElem?_eq_some_iff.mp hu2).1
    refine wpAny_pyNext_zipD2_item (sepOf D) (drawsB hh k1 i1 a D.l1i1 its.toArray) (drawsB hh k2 i2 b D.l2i2 its2.toArray) hz hTI hTO ⟨h1, p⟩ ⟨h2, p2⟩ hi1 hi2 fun w1 w2 h' tk y1 y2 hz' hTO' d1 d2 hT hsz hk => ?_
    have e1 : w1 = u := by
      have : its.toArray[i]? = some w1 := y1
      rw [List.getElem?_toArray, hu] at this
      exact (Option.some.inj this).symm
    have e2 : w2 = u2 := by
      have : its2.toArray[i]? = some w2 := y2
      rw [List.getElem?_toArray, hu2] at this
      exact (Option.some.inj this).symm
    subst e1 e2
    refine ⟨_, rfl, wpAny_letOwnedTupleGo_zip (s := { s with heap := h', toks := tk }) hz' fun h2' hz2 sb => ?_⟩
    have hT2 : h2'.get? s.heap.objs.size = some { cls := .type "tuple", data := .seq #[w1, w2] } := (sb.2 _ (Nat.ne_of_gt hzl)).trans hT
    have new : ObjOk X.prog X.w (upd H s.heap.objs.size (.tup [x, y])) h2' s.heap.objs.size (.tup [x, y]) :=
      ⟨by show 2 ≤ sizeLine; decide, [w1, w2], .cons ru (.cons ru2 .nil), ⟨_, hT2, rfl, _, rfl⟩⟩
    have I1 : Inv X pins σ (upd H s.heap.objs.size (.tup [x, y])) { s with heap := h2', toks := tk } :=
      I.turnedNew (ch := [z, TI, TO, i1, i2]) (fun c o hb q => (sb.2 c (fun q' => hb (by simp [q']))).trans (hk c o (fun q' => hb (by simp [q'])) (fun q' => hb (by simp [q'])) (fun q' => hb (by simp [q'])) (fun q' => hb (by simp [q'])) q)) hf (Nat.le_refl _) new
    refine ⟨.ref s.heap.objs.size, _, I1, rfl, ⟨_, x, y, rfl, I.hok.fresh (Nat.le_refl _), rfl, fun l hl => by rw [sqB_inj I hl hqx]; exact hx, fun l hl => by rw [sqB_inj I hl hqy]; exact hy⟩, ⟨hz2, (sb.2 _ D.TIz).trans (hk _ _ D.TIz D.TITO D.TIi1 D.TIi2 hTI), ⟨w1, w2, (sb.2 _ D.TOz).trans hTO'⟩, itB_at d1.1 fun o q => (sb.2 _ D.i1z).trans q, itB_at d2.1 fun o q => (sb.2 _ D.i2z).trans q⟩, fun c hcm => ?_⟩
    have hlt : c < s.heap.objs.size := by
      obtain ⟨o1, q1, _⟩ := itB_ob h1
      obtain ⟨o2, q2, _⟩ := itB_ob h2
      simp only [List.mem_cons, List.not_mem_nil, or_false] at hcm
      rcases hcm with q | q | q | q | q <;> subst q
      · exact hzl
      · exact Heap.lt_size hTI
      · exact Heap.lt_size hTO
      · exact Heap.lt_size q1
      · exact Heap.lt_size q2
    rw [upd_ne (Nat.ne_of_lt hlt)]
    exact (hf c hcm).1
  done := by
    intro X hP hw hK hc i pins s σ H E I hf st hg
    subst hP hw hK
    obtain ⟨hz, hTI, ⟨x0, y0, hTO⟩, h1, h2⟩ := st
    obtain ⟨xs, ys, hqx, hqy, le1, le2, hend⟩ := hg
    obtain ⟨its, rv, p, _⟩ := sqB_is I hqx
    obtain ⟨its2, rv2, p2, _⟩ := sqB_is I hqy
    have l1 := rv.length
    have l2 := rv2.length
    have hh : X.A.in1.handled = none := I.ok.hd hc
    refine wpAny_pyNext_zipD2_end (sepOf D) (drawsB hh k1 i1 a D.l1i1 its.toArray) (drawsB hh k2 i2 b D.l2i2 its2.toArray) hz hTI hTO ⟨h1, p⟩ ⟨h2, p2⟩ (by simp; omega) (by simp; omega) (by simp; omega) fun h' tk hk => ⟨rfl, I.turnedL (ch := [z, TI, TO, i1, i2]) (fun c o hb q =>
      hk c o (fun q' => hb (by simp [q'])) (fun q' => hb (by simp [q'])) (fun q' => hb (by simp [q'])) (fun q' => hb (by simp [q'])) q) hf⟩
  self := fun A i s Q E st h => wpAny_pyIter_zip st.1 h
def iZipB (K : PySem.W.Frag) (k1 k2 : Bool) (ta : TA) : L2.TI := fun σ H R => ta σ H fun vs H1 => ∃ a b xs ys, vs = [.ref a, .ref b] ∧ SqB k1 K H1 a xs ∧ SqB k2 K H1 b ys ∧ R (ItzB K k1 k2 a b) H1
theorem pi_zipB {X : Cx} {e e2 : Expr} {ta : TA} {p pos tpos : Pos} {elts : List Expr} {kk : Nat} (k1 k2 : Bool) (hg : Gl X "zip") (hm : X.mg "zip" = none) (ha : PA X [e, e2] ta)
    (hs : starEach [e, e2] X.env = (false, eval e X.env) :: starEach [e2] X.env := by rfl) (hpl : (backTo pos (starEach [e2] X.env)).any (·.1) = false := by rfl) :
    PI X (.Tuple elts kk tpos) (.Call (.Name "zip" p) [e, e2] [] pos) (iZipB X.K k1 k2 ta) := by
  refine ⟨fun pins s σ H R I h => ?_⟩
  refine Call_ (ld_blt I hg hm PyProof.Rows.boot_zip (PyProof.Rows.callWith_type1 (thn (ha.run pos pins s σ H _ I h) fun us s1 ⟨vs, H1, I1, r1, a, b, xs, ys, ex, hqx, hqy, q⟩ => ?_) hs hpl))
  subst ex
  cases r1 with
  | cons r rr =>
    cases rr with
    | cons r' rr =>
      cases rr
      cases r
      cases r'
      obtain ⟨its, rv, p1, _⟩ := sqB_is I1 hqx
      obtain ⟨its2, rv2, p2, _⟩ := sqB_is I1 hqy
      refine zip_begins2 (beginsB k1 a its.toArray) (beginsB k2 b its2.toArray) p1 p2 fun h' hz hTI hTO h1 h2 hsz hk => wpAny_pyIter_zip hz ?_
      have I2 : Inv X pins σ H1 { s1 with heap := h' } := I1.kept (t' := s1.toks) hk
      refine ⟨s1.heap.objs.size + 4, [s1.heap.objs.size + 4, s1.heap.objs.size + 2, s1.heap.objs.size + 3, s1.heap.objs.size, s1.heap.objs.size + 1], _, _, H1, rfl, I2, turn_zipB (k1 := k1) (k2 := k2) (PySem.W.ktu_apart s1.heap.objs.size a b (isB_lt p1) (isB_lt p2)), ⟨hz, hTI, ⟨_, _, hTO⟩, itB_new h1, itB_new h2⟩, fun c hcm => ?_, q⟩
      have hle : s1.heap.objs.size ≤ c := by
        simp only [List.mem_cons, List.not_mem_nil, or_false] at hcm
        rcases hcm with q | q | q | q | q <;> subst q
        · exact Nat.le_add_right _ _
        · exact Nat.le_add_right _ _
        · exact Nat.le_add_right _ _
        · exact Nat.le_refl _
        · exact Nat.le_add_right _ _
      exact I1.fpOk hle (I1.hok.fresh hle)
/-! ### enumerate -/
theorem meets_enumB {v : Value} {o : Obj} {H : Heap → Prop} (B : Begins v o H) :
    Meets (Builtin.«enumerate.__new__» ⟨[.type "enumerate", v], []⟩) (fun _ R s => H s.heap ∧
      R (.ok (.ret (.ref (s.heap.push o).objs.size))) { s with heap := (s.heap.push o).push { cls := .type "enumerate", data := .fields #[.none, .bool false, .ref s.heap.objs.size, rawInt 0, .none, .none] } }) :=
  .of_wp fun prog w A R s h => by
    obtain ⟨hp, g, d, tk, os⟩ := s
    obtain ⟨h1, h⟩ := h
    have hsub := sub_enumerate
    have go : ∀ {A' : Around} {E Q : Value → Shared → Prop}, Q (.ref hp.objs.size) ⟨hp.push o, g, d, tk, os⟩ → wpAny (model prog w) A' (pyIter v) Q E ⟨hp, g, d, tk, os⟩ := fun q => B.iter prog w _ _ ⟨hp, g, d, tk, os⟩ _ h1 q
    wp_walk using go
    refine wpAny_stack_any fun st => wpAny_pure ?_
    split
    · rename_i c _ _ _ _ _
      cases (c == Value.type "enumerate") <;> (wp_walk using go; exact ⟨_, rfl, h⟩)
    · wp_walk using go
      exact ⟨_, rfl, h⟩
theorem enum_beginsB {prog : Program} {w : World} {A : Around} {E : Value → Shared → Prop} {s : Shared} {v : Value} {o : Obj} {H : Heap → Prop} {Q : Value → Shared → Prop} (B : Begins v o H) (h1 : H s.heap)
    (h : ∀ h', IsEnum h' (s.heap.objs.size + 1) s.heap.objs.size 0 .none → h'.get? s.heap.objs.size = some o → (∀ b o, s.heap.get? b = some o → h'.get? b = some o) → Q (.ref (s.heap.objs.size + 1)) { s with heap := h' }) :
    wpAny (model prog w) A (call (.type "enumerate") [v]) Q E s := by
  refine callType_new F.called_enumerate (by decide) (F.typeCall_enumerate_1 _) (F.newCall_enumerate_1 _) (fun obj => F.args_object_init_2 obj _) F.entry_enumerate_new (meets_enumB B) ⟨h1, ?_⟩
  have hz : (s.heap.push o).objs.size = s.heap.objs.size + 1 := Heap.size_push ..
  show _ ∧ _
  rw [hz]
  have he : IsEnum ((s.heap.push o).push { cls := .type "enumerate", data := .fields #[.none, .bool false, .ref s.heap.objs.size, rawInt 0, .none, .none] }) (s.heap.objs.size + 1) s.heap.objs.size 0 .none := by
    have q := Heap.get?_push_size (s.heap.push o) (o := { cls := .type "enumerate", data := .fields #[.none, .bool false, .ref s.heap.objs.size, rawInt 0, .none, .none] }) rfl
    rw [hz] at q
    exact q
  exact ⟨⟨_, he, rfl⟩, h _ he (Heap.get?_push_of_some _ (Heap.get?_push_size _ B.free)) fun b o x => Heap.get?_push_of_some _ (Heap.get?_push_of_some _ x)⟩
def IteB (K : PySem.W.Frag) (k : Bool) (a : Addr) : It :=
  ⟨fun i H => ∃ (xs : List V) (x : V), SqB k K H a xs ∧ xs[i]? = some x,
    fun i H v H' => ∃ T x, v = .ref T ∧ H T = none ∧ H' = upd H T (.tup [.int (i : Nat), x]) ∧ ∀ xs, SqB k K H a xs → xs[i]? = some x,
    fun i H => ∃ xs : List V, SqB k K H a xs ∧ i = xs.length⟩
theorem turn_enumB {P : Program} {w : World} {K : PySem.W.Frag} {elts : List Expr} {kk : Nat} {tpos : Pos} {k : Bool} {a e it : Addr} (hei : e ≠ it) (hea : e ≠ a) (hia : a ≠ it) :
    Turn P w K (.Tuple elts kk tpos) (IteB K k a) [e, it] e (fun i h => (∃ old, IsEnum h e it ((i : Nat) : Int) old) ∧ ItB k h it a i) where
  mem := List.mem_cons_self
  obj := fun i h st c hc => by
    obtain ⟨⟨old, he⟩, h1⟩ := st
    simp only [List.mem_cons, List.not_mem_nil, or_false] at hc
    rcases hc with q | q <;> subst q
    · exact ⟨_, he, fun v q => nomatch q⟩
    · exact itB_ob h1
  keep := fun i h h' st kp => by
    obtain ⟨⟨old, he⟩, h1⟩ := st
    exact ⟨⟨old, kp e (by simp) _ he⟩, itB_at h1 fun o q => kp it (by simp) o q⟩
  item := by
    intro X hP hw hK hc i pins s σ H E I hf st hg
    subst hP hw hK
    obtain ⟨⟨old, he⟩, h1⟩ := st
    obtain ⟨xs, x, hqx, hx⟩ := hg
    obtain ⟨its, rv, p, _⟩ := sqB_is I hqx
    obtain ⟨u, hu, ru⟩ := rv.get hx
    have hh : X.A.in1.handled = none := I.ok.hd hc
    have hel : e < s.heap.objs.size := Heap.lt_size he
    have hi1 : i < its.toArray.size := by simpa using (List.getElem?_eq_some_iff.mp hu).1
    refine wpAny_pyNext_enum_itemD (drawsB hh k it a hia its.toArray) he ⟨h1, p⟩ hi1 hei (by simp [hei, hea]) fun w1 h' tk y1 ho d1 hT hsz hk => ?_
    have e1 : w1 = u := by
      have : its.toArray[i]? = some w1 := y1
      rw [List.getElem?_toArray, hu] at this
      exact (Option.some.inj this).symm
    subst e1
    refine ⟨_, rfl, wpAny_letOwnedTupleGo_enum (s := { s with heap := h', toks := tk + 1 }) ho fun h2' he' sb => ?_⟩
    have hT2 : h2'.get? s.heap.objs.size = some { cls := .type "tuple", data := .seq #[.int i tk, w1] } := (sb.2 _ (Nat.ne_of_gt hel)).trans hT
    have new : ObjOk X.prog X.w (upd H s.heap.objs.size (.tup [.int (i : Nat), x])) h2' s.heap.objs.size (.tup [.int (i : Nat), x]) :=
      ⟨by show 2 ≤ sizeLine; decide, [.int i tk, w1], .cons ⟨_, rfl⟩ (.cons ru .nil), ⟨_, hT2, rfl, _, rfl⟩⟩
    have I1 : Inv X pins σ (upd H s.heap.objs.size (.tup [.int (i : Nat), x])) { s with heap := h2', toks := tk + 1 } :=
      I.turnedNew (ch := [e, it]) (fun c o hb q => (sb.2 c (fun q' => hb (by simp [q']))).trans (hk c o (fun q' => hb (by simp [q'])) (fun q' => hb (by simp [q'])) q)) hf (Nat.le_refl _) new
    refine ⟨.ref s.heap.objs.size, _, I1, rfl, ⟨_, x, rfl, I.hok.fresh (Nat.le_refl _), rfl, fun l hl => by rw [sqB_inj I hl hqx]; exact hx⟩, ⟨⟨w1, ?_⟩, itB_at d1.1 fun o q => (sb.2 _ hei.symm).trans q⟩, fun c hcm => ?_⟩
    · rw [show ((i + 1 : Nat) : Int) = (i : Int) + 1 by omega]
      exact he'
    · have hlt : c < s.heap.objs.size := by
        obtain ⟨o1, q1, _⟩ := itB_ob h1
        simp only [List.mem_cons, List.not_mem_nil, or_false] at hcm
        rcases hcm with q | q <;> subst q
        · exact hel
        · exact Heap.lt_size q1
      rw [upd_ne (Nat.ne_of_lt hlt)]
      exact (hf c hcm).1
  done := by
    intro X hP hw hK hc i pins s σ H E I hf st hg
    subst hP hw hK
    obtain ⟨⟨old, he⟩, h1⟩ := st
    obtain ⟨xs, hqx, le1⟩ := hg
    obtain ⟨its, rv, p, _⟩ := sqB_is I hqx
    have l1 := rv.length
    have hh : X.A.in1.handled = none := I.ok.hd hc
    have e0 : i = its.toArray.size := by simp; omega
    refine wpAny_pyNext_enum_endD (drawsB hh k it a hia its.toArray) he ⟨by rw [← e0]; exact h1, p⟩ fun h' hk => ⟨rfl, I.turnedL (t' := s.toks) (ch := [e, it]) (fun c o hb q => hk c o (fun q' => hb (by simp [q'])) q) hf⟩
  self := fun A i s Q E st h => let ⟨⟨_, he⟩, _⟩ := st; wpAny_pyIter_enum he h
def iEnumB (K : PySem.W.Frag) (k : Bool) (ta : TA) : L2.TI := fun σ H R => ta σ H fun vs H1 => ∃ a xs, vs = [.ref a] ∧ SqB k K H1 a xs ∧ R (IteB K k a) H1
theorem pi_enumB {X : Cx} {e : Expr} {ta : TA} {p pos tpos : Pos} {elts : List Expr} {kk : Nat} (k : Bool) (hg : Gl X "enumerate") (hm : X.mg "enumerate" = none) (ha : PA X [e] ta) (hs : starEach [e] X.env = [(false, eval e X.env)] := by rfl) :
    PI X (.Tuple elts kk tpos) (.Call (.Name "enumerate" p) [e] [] pos) (iEnumB X.K k ta) := by
  refine ⟨fun pins s σ H R I h => ?_⟩
  refine Call_ (ld_blt I hg hm boot_enumerate (PyProof.Rows.callWith_type1 (thn (ha.run pos pins s σ H _ I h) fun us s1 ⟨vs, H1, I1, r1, a, xs, ex, hqx, q⟩ => ?_) hs rfl))
  subst ex
  cases r1 with
  | cons r rr =>
    cases rr
    cases r
    obtain ⟨its, rv, p1, _⟩ := sqB_is I1 hqx
    refine enum_beginsB (beginsB k a its.toArray) p1 fun h' he hit hk => wpAny_pyIter_enum he ?_
    have I2 : Inv X pins σ H1 { s1 with heap := h' } := I1.kept (t' := s1.toks) hk
    have la := isB_lt p1
    refine ⟨s1.heap.objs.size + 1, [s1.heap.objs.size + 1, s1.heap.objs.size], _, _, H1, rfl, I2, turn_enumB (k := k) (a := a) (e := s1.heap.objs.size + 1) (it := s1.heap.objs.size) (Nat.succ_ne_self _) (Nat.ne_of_gt (Nat.lt_succ_of_lt la)) (Nat.ne_of_lt la), ⟨⟨.none, he⟩, itB_new hit⟩, fun c hcm => ?_, q⟩
    have hle : s1.heap.objs.size ≤ c := by
      simp only [List.mem_cons, List.not_mem_nil, or_false] at hcm
      rcases hcm with q | q <;> subst q
      · exact Nat.le_add_right _ _
      · exact Nat.le_refl _
    exact I1.fpOk hle (I1.hok.fresh hle)
/-! ### by data -/
def SqK (k : Bool) (ds : List D) : D := match k with | true => .tuple ds | false => .list ds
theorem dp_sq {K : PySem.W.Frag} {F : Hp} {v : V} {k : Bool} {ds : List D} (h : Dp K F v (SqK k ds)) : ∃ a vs, v = .ref a ∧ SqB k K F a vs ∧ DpAll K F vs ds := by
  cases k with
  | true => exact dp_tup h
  | false => exact dp_lst h
theorem ex_b {K : PySem.W.Frag} {F H : Hp} {k : Bool} {a : Addr} {vs : List V} (e : Ex F H) (h : SqB k K F a vs) : SqB k K H a vs := by
  cases k with
  | true => exact ex_t e h
  | false => exact ex_l e h
section
variable {X : Cx} {ρ : En} {a b : Expr} {ds es : List D} {elts : List Expr} {kk : Nat} {p pos tpos : Pos}
theorem i_zipM (k1 k2 : Bool) (hm : X.mg "zip" = none) (h : DE X ρ a (SqK k1 ds)) (h' : DE X ρ b (SqK k2 es)) (hg : Gl X "zip" := by rfl)
    (hs : starEach [a, b] X.env = (false, eval a X.env) :: starEach [b] X.env := by rfl) (hs2 : starEach [b] X.env = [(false, eval b X.env)] := by rfl) (hpl : (backTo pos (starEach [b] X.env)).any (·.1) = false := by rfl) :
    DI X ρ (.Tuple elts kk tpos) (.Call (.Name "zip" p) [a, b] [] pos) (zipD ds es) :=
  weakI (pi_zipB k1 k2 hg hm (a_cons h (a_cons h' a_nil hs2) hs) hs hpl) fun σ H R ⟨F, S, q⟩ => ⟨F, S, fun vs F' H' g hv => by
    cases hv with
    | cons h1 h2 =>
      cases h2 with
      | cons h2 hn =>
        cases hn
        obtain ⟨a, xs, rfl, h3, h4⟩ := dp_sq h1
        obtain ⟨b, ys, rfl, h5, h6⟩ := dp_sq h2
        have l1 := dpa_len h4
        have l2 := dpa_len h6
        refine ⟨a, b, xs, ys, rfl, ex_b g.sub h3, ex_b g.sub h5, q _ F' H' g ⟨fun i H hi e => ?_, fun H e => ⟨xs, ys, ex_b e h3, ex_b e h5, ?_⟩, fun i d H x H' F2 hi e f s y => ?_⟩⟩
        · rw [zipD_len] at hi
          exact ⟨xs, ys, xs[i]'(by omega), ys[i]'(by omega), ex_b e h3, ex_b e h5, List.getElem?_eq_getElem _, List.getElem?_eq_getElem _⟩
        · rw [zipD_len]
          omega
        · obtain ⟨T, x', y', rfl, hT, rfl, y1, y2⟩ := y
          obtain ⟨d1, d2, e1, e2, rfl⟩ := zipD_at hi
          obtain ⟨v1, f1, f2⟩ := dpa_get h4 e1
          obtain ⟨v2, f3, f4⟩ := dpa_get h6 e2
          have g1 := y1 xs (ex_b e h3)
          have g2 := y2 ys (ex_b e h5)
          rw [f1] at g1
          rw [f3] at g2
          cases g1
          cases g2
          exact yl_pair s hT (dp_ex f f2) (dp_ex f f4)⟩
theorem i_enumT (hm : X.mg "enumerate" = none) (h : DE X ρ a (.tuple ds)) (hg : Gl X "enumerate" := by rfl) (hs : starEach [a] X.env = [(false, eval a X.env)] := by rfl) :
    DI X ρ (.Tuple elts kk tpos) (.Call (.Name "enumerate" p) [a] [] pos) (enumD ds) :=
  weakI (pi_enumB true hg hm (a_cons h a_nil hs) hs) fun σ H R ⟨F, S, q⟩ => ⟨F, S, fun vs F' H' g hv => by
    cases hv with
    | cons h1 h2 =>
      cases h2
      obtain ⟨a, vs, rfl, h3, h4⟩ := dp_tup h1
      refine ⟨a, vs, rfl, ex_t g.sub h3, q _ F' H' g ⟨fun i H hi e => ?_, fun H e => ⟨vs, ex_t e h3, by rw [enumD_len, dpa_len h4]⟩, fun i d H x H' F2 hi e f s y => ?_⟩⟩
      · rw [enumD_len] at hi
        exact ⟨vs, vs[i]'(by rw [dpa_len h4]; exact hi), ex_t e h3, by simp [dpa_len h4, hi]⟩
      · obtain ⟨T, x', rfl, hT, rfl, y⟩ := y
        obtain ⟨d', h5, rfl⟩ := enumD_at hi
        obtain ⟨v, h6, h7⟩ := dpa_get h4 h5
        have h8 := y vs (ex_t e h3)
        rw [h6] at h8
        cases h8
        exact yl_pair s hT (.int _) (dp_ex f h7)⟩
end
end Lm
set_option maxRecDepth 100000
set_option maxHeartbeats 4000000
/-! Comprehensions with two for and with three, without tests, over data. -/
namespace Lm
open PySem PySem.Spec PyProof.Rows L2 Evl
abbrev NoE : Value → Shared → Prop := fun _ _ => False
section
variable {prog : Program} {w : World} {A : Around} {s : Shared} {elt t i t1 i1 : Expr} {gens : List Comprehension} {scope : Scope} {pos : Pos} {it acc : Value} {env : Env} {k : Nat}
/-- a turn's end, told by what is done in it -/
def TurnOf (prog : Program) (w : World) (A : Around) (t : Expr) (it : Value) (env : Env) (comp : Expr) (k : Nat) (acc : Value) (EM : Shared → (Shared → Prop) → Prop) : Prop :=
  ∀ (R : Fin → Shared → Prop) (s : Shared), wpAny (model prog w) A (pyNext it) (fun r s1 => match r with
    | none => R (.done .next) s1
    | some v => wpAny (model prog w) A (letOwnedTupleGo t it v) (fun _ s2 => wpAny (model prog w) A (assign t env v) (fun _ s3 => EM s3 fun s4 => R (.again (.compLoop comp k it acc env)) s4) NoE s2) NoE s1) NoE s →
    wpAny (model prog w) A (compTurn comp k it acc env) R NoE s
def EMmid (prog : Program) (w : World) (A : Around) (i1 : Expr) (env : Env) (comp : Expr) (k : Nat) (acc : Value) : Shared → (Shared → Prop) → Prop := fun s Q =>
  wpAny (model prog w) A (eval i1 env) (fun x s1 => wpAny (model prog w) A (pyIter x) (fun it1 s2 => codeAny (model prog w) A (.compStart comp (k + 1) it1 acc env) (fun r s' => match r with | .ok _ => Q s' | .error _ => False) s2) NoE s1) NoE s
def EMlast (prog : Program) (w : World) (A : Around) (elt : Expr) (env : Env) (acc : Value) : Shared → (Shared → Prop) → Prop := fun s Q =>
  wpAny (model prog w) A (eval elt env) (fun x s1 => wpAny (model prog w) A (call (.builtin "list.append") [acc, x]) (fun _ s2 => Q s2) NoE s1) NoE s
theorem turn_mid (h : gens[k]? = some ⟨t, i, [], 0⟩) (h1 : gens[k + 1]? = some ⟨t1, i1, [], 0⟩) (hs : ∀ x, foldedSetIterable i1 env x = pure x) : TurnOf prog w A t it env (.ListComp elt gens scope pos) k acc (EMmid prog w A i1 env (.ListComp elt gens scope pos) k acc) := by
  intro R s hh
  unfold compTurn
  simp only [h, h1]
  refine wpAny_bind (wpAny_standAt (wpAny_bind (wpAny_mono hh (fun r s1 g1 => ?_) fun _ _ z => z)))
  cases r with
  | none => exact wpAny_pure g1
  | some v =>
    refine wpAny_bind (wpAny_mono g1 (fun _ s2 g2 => wpAny_bind (wpAny_mono g2 (fun _ s3 g3 => wpAny_bind (wpAny_pure ?_)) fun _ _ z => z)) fun _ _ z => z)
    refine wpAny_bind (wpAny_mono g3 (fun x s4 g4 => ?_) fun _ _ z => z)
    refine wpAny_bind (wpAny_standAt (wpAny_bind (wpAny_of_eq (hs x) (wpAny_bind (wpAny_holding (wpAny_mono g4 (fun it1 s5 g5 => ?_) fun _ _ z => z))))))
    refine wpAny_bind (wpAny_runOwn ?_)
    rw [Around.mark_none]
    refine codeAny_mono g5 fun r s' hr => ?_
    cases r with
    | ok f => first
      | exact wpAny_pure hr
      | exact wpAny_bind (wpAny_pure (wpAny_pure hr))
    | error e => exact hr.elim
theorem turn_last (h : gens[k]? = some ⟨t, i, [], 0⟩) (h1 : gens[k + 1]? = none) : TurnOf prog w A t it env (.ListComp elt gens scope pos) k acc (EMlast prog w A elt env acc) := by
  intro R s hh
  unfold compTurn
  simp only [h, h1]
  refine wpAny_bind (wpAny_standAt (wpAny_bind (wpAny_mono hh (fun r s1 g1 => ?_) fun _ _ z => z)))
  cases r with
  | none => exact wpAny_pure g1
  | some v =>
    refine wpAny_bind (wpAny_mono g1 (fun _ s2 g2 => wpAny_bind (wpAny_mono g2 (fun _ s3 g3 => wpAny_bind (wpAny_pure ?_)) fun _ _ z => z)) fun _ _ z => z)
    exact wpAny_bind (wpAny_bind (wpAny_mono g3 (fun x s4 g4 => wpAny_bind (wpAny_mono g4 (fun _ s5 g5 => wpAny_pure (wpAny_pure g5)) fun _ _ z => z)) fun _ _ z => z))
theorem start_in {R : Result → Shared → Prop} (h : gens[k]? = some ⟨t, i, [], 0⟩) (h0 : codeAny (model prog w) A (.compLoop (.ListComp elt gens scope pos) k it acc env) R s)
    (h1 : wpAny (model prog w) A (pyIter it) (fun it' s' => codeAny (model prog w) A (.compLoop (.ListComp elt gens scope pos) k it' acc env) R s') NoE s) :
    codeAny (model prog w) A (.compStart (.ListComp elt gens scope pos) k it acc env) R s := by
  refine codeAny_of_tree ?_
  show wpAny _ _ ((compStart (.ListComp elt gens scope pos) k it acc env).onRaise _) _ _ s
  refine wpAny_notedAt ?_
  unfold compStart
  show wpAny _ _ (if ((gens[k]?).elim false fun g => g.is_async != 0) = true then _ else _) _ _ s
  have e0 : ((gens[k]?).elim false fun g => g.is_async != 0) = false := by
    rw [h]
    rfl
  rw [e0, if_neg (show ¬ ((false : Bool) = true) from Bool.false_ne_true)]
  show wpAny _ _ (ask >>= _) _ _ s
  refine wpAny_bind (wpAny_askSetting (wpAny_ite ?_))
  split
  · first
      | exact wpAny_bind (wpAny_pure (wpAny_pure (And.intro rfl h0)))
      | exact wpAny_pure (And.intro rfl h0)
  · refine wpAny_bind (wpAny_rule ?_)
    show wpAny _ _ (match gens[k]? with | some g => _ | _ => _) _ _ s
    rw [h]
    exact wpAny_bind (wpAny_standAt (wpAny_bind (wpAny_mono h1 (fun it' s' h' => wpAny_pure (And.intro rfl h')) fun _ _ z => False.elim z)))
end
/-- growth but for the list at L -/
structure GrD (L : Addr) (F H F' H' : Hp) : Prop where
  f : Ex F F'
  h : ∀ b o, b ≠ L → H b = some o → H' b = some o
  sub : Ex F' H'
  new : ∀ b, F b = none → F' b ≠ none → H b = none
  fd : F' L = none
theorem GrD.refl {L : Addr} {F H : Hp} (s : Ex F H) (h : F L = none) : GrD L F H F H := ⟨Ex.refl _, fun _ _ _ h => h, s, fun _ h g => absurd h g, h⟩
theorem GrD.trans {L : Addr} {F H F1 H1 F2 H2 : Hp} (a : GrD L F H F1 H1) (b : GrD L F1 H1 F2 H2) : GrD L F H F2 H2 :=
  ⟨a.f.trans b.f, fun x o hx h => b.h x o hx (a.h x o hx h), b.sub, fun x h g => by
    cases q : F1 x with
    | some o => exact a.new x h (by rw [q]; exact fun z => by cases z)
    | none =>
      have h1 := b.new x q g
      cases z : H x with
      | none => rfl
      | some o =>
        have hx : x ≠ L := fun e => g (by rw [e]; exact b.fd)
        exact absurd ((a.h x o hx z).symm.trans h1) (fun e => by cases e), b.fd⟩
theorem GrD.of {L : Addr} {F H F' H' : Hp} {o : HO} (g : Gr F H F' H') (hF : F L = none) (hH : H L = some o) : GrD L F H F' H' :=
  ⟨g.f, fun b o _ h => g.h b o h, g.sub, g.new, by
    cases z : F' L with
    | none => rfl
    | some o' =>
      have := g.new L hF (by rw [z]; exact fun z => by cases z)
      rw [hH] at this
      cases this⟩
theorem GrD.app {L : Addr} {F H : Hp} {o : HO} (s : Ex F H) (hF : F L = none) : GrD L F H F (upd H L o) :=
  ⟨Ex.refl _, fun b o' hb h => by rw [upd_ne hb]; exact h, fun b o' h => by
    have hb : b ≠ L := fun e => by rw [e, hF] at h; cases h
    rw [upd_ne hb]
    exact s b o' h, fun _ h g => absurd h g, hF⟩
def NoOwn (ρ : En) : Prop := ∀ (i : Nat) (es : List D), ρ[i]? ≠ some (Slot.own es)
theorem NoOwn.wipe {ρ : En} (h : NoOwn ρ) : ∀ js : List Nat, NoOwn (wipeE ρ js)
  | [] => h
  | j :: js => fun i es e => by
    unfold wipeE at e
    by_cases hi : j = i
    · subst hi
      have hl := (List.getElem?_eq_some_iff.mp e).1
      rw [List.length_set] at hl
      rw [List.getElem?_set_self hl] at e
      cases e
    · rw [List.getElem?_set_ne hi] at e
      exact NoOwn.wipe h js i es e
theorem NoOwn.of {ρ : En} (h : ρ.all (fun s => match s with | .own _ => false | _ => true) = true) : NoOwn ρ := fun i es e => by
  have := List.all_eq_true.mp h _ (List.mem_of_getElem? e)
  cases this
theorem Sd.on {K : PySem.W.Frag} {σ : L2.St} {F H F' H' : Hp} {ρ : En} (s : Sd K σ F H ρ) (no : NoOwn ρ) (e : Ex F F') (e2 : Ex F' H') : Sd K σ F' H' ρ :=
  ⟨e2, s.len, fun i d h => by
    obtain ⟨v, h1, h2⟩ := s.dat i d h
    exact ⟨v, h1, dp_ex e h2⟩, fun i ds h => absurd h (no i ds), fun i j ds es a h => absurd h (no i ds)⟩
/-- what is done in a turn, by data: in a block's context B, ahead of it the names ρ; the list at L grows by out; the names js are forgotten -/
def EmOk (B : Cx) (L : Addr) (EM : Shared → (Shared → Prop) → Prop) (js : List Nat) (ρ : En) (out : List D) : Prop :=
  ∀ (pins : List (Addr × Obj)) (s : Shared) (σ : L2.St) (F H : Hp) (vs : List V) (Q : Shared → Prop), Inv B pins σ H s → Sd B.K σ F H ρ → H L = some (.lst vs) → F L = none → vs.length + out.length ≤ 100000 →
    (∀ s' F' H' ws, Inv B pins (L2.wipe σ js) H' s' → GrD L F H F' H' → H' L = some (HO.lst (vs ++ ws)) → DpAll B.K F' ws out → Q s') → EM s Q
theorem em_last {B : Cx} {L : Addr} {elt : Expr} {ρ : En} {d : D} (hx : B.xe = NoE) (h : DE B ρ elt d) : EmOk B L (EMlast B.prog B.w B.A elt B.env (.ref L)) [] ρ [d] := by
  intro pins s σ F H vs Q I S hL hF hl q
  have r := h.run pins s σ H (fun v H' => ∃ F', Gr F H F' H' ∧ Dp B.K F' v d) I ⟨F, S, fun v F' H' g hv => ⟨F', g, hv⟩⟩
  rw [hx] at r
  refine wpAny_mono r (fun u s1 ⟨v, H1, I1, rv, F', g, hv⟩ => ?_) fun _ _ z => z
  have hL1 := g.h _ _ hL
  have gd := GrD.of g hF hL
  exact app_ok I1 hL1 (sz_lt (by simp only [List.length_singleton] at hl; omega)) rv fun s2 I2 => q s2 F' _ [v] I2 (gd.trans (.app gd.sub gd.fd)) upd_same (.cons hv .nil)
/-- a clause's loop -/
theorem loop_ok {α : Type} {B : Cx} {L : Addr} {t elt : Expr} {gens : List Comprehension} {scope : Scope} {pos : Pos} {k : Nat} {it : Addr} {fp : List Addr} {tn : Nat → Heap → Prop} {J : It} {EM : Shared → (Shared → Prop) → Prop} {js jin jall : List Nat} {Γ : D → En → En → Prop} {ρ : En} (as : List α) (enc : α → D) (asg : α → En) (outs : α → List D)
    (hx : B.xe = NoE) (hc : B.calm = true) (T : Turn B.prog B.w B.K t J fp it tn) (ht : TurnOf B.prog B.w B.A t (.ref it) B.env (.ListComp elt gens scope pos) k (.ref L) EM) (hg : DG B t js Γ) (hj : ∀ j ∈ js, j ∈ jall) (hji : ∀ j ∈ jin, j ∈ jall)
    (no : NoOwn ρ) (ha : ∀ a ∈ as, Γ (enc a) (wipeE ρ jall) (asg a)) (he : ∀ a ∈ as, EmOk B L EM jin (asg a) (outs a))
    {pins : List (Addr × Obj)} {s : Shared} {σ : L2.St} {F H : Hp} {vs : List V} (I : Inv B pins σ H s) (S : Sd B.K σ F H ρ) (hL : H L = some (.lst vs)) (hF : F L = none) (hl : vs.length + (as.flatMap outs).length ≤ 100000) (st : tn 0 s.heap) (f : ∀ b ∈ fp, FpOk B pins H b) (Y : Yields B.K J F F (as.map enc))
    {R : Result → Shared → Prop} (q : ∀ s' F' H' ws, Inv B pins (L2.wipe σ jall) H' s' → (∀ b ∈ fp, H' b = none) → GrD L F H F' H' → H' L = some (HO.lst (vs ++ ws)) → DpAll B.K F' ws (as.flatMap outs) → R (.ok .next) s') :
    codeAny (model B.prog B.w) B.A (.compLoop (.ListComp elt gens scope pos) k (.ref it) (.ref L) B.env) R s := by
  have stat : ∀ {H' : Hp}, (∀ b ∈ fp, H' b = none) → ∀ b ∈ fp, FpOk B pins H' b := fun hn b hb => ⟨hn b hb, (f b hb).2⟩
  refine codeAny_loop rfl (fun n s' => ∃ i F' H' ws, n = as.length - i ∧ i ≤ as.length ∧ Inv B pins (L2.wipe σ jall) H' s' ∧ tn i s'.heap ∧ (∀ b ∈ fp, H' b = none) ∧ GrD L F H F' H' ∧ H' L = some (HO.lst (vs ++ ws)) ∧ DpAll B.K F' ws ((as.take i).flatMap outs)) ?_ as.length
    ⟨0, F, H, [], by simp, Nat.zero_le _, I.weak (wipe_length _ _) (fun j v e => (wipe_some e).1), st, fun b hb => (f b hb).1, .refl S.sub hF, by rw [List.append_nil]; exact hL, .nil⟩
  rintro n s5 ⟨i, F5, H5, ws, rfl, hi, I5, st5, n5, g5, hL5, hws⟩
  show wpAny _ B.A ((compTurn (.ListComp elt gens scope pos) k (.ref it) (.ref L) B.env).onRaise fun x => do noteFrame x B.env; theTreesLotGoes x) _ _ s5
  refine wpAny_noted (wpAny_mono (ht _ s5 ?_) (fun a s z => z) fun _ _ z => z.elim)
  by_cases hlt : i < as.length
  · have hai : as[i]? = some as[i] := List.getElem?_eq_getElem hlt
    have hmem : as[i] ∈ as := List.getElem_mem hlt
    have ti := T.item B rfl rfl rfl hc i pins s5 _ H5 NoE I5 (stat n5) st5 (Y.go i H5 (by simpa using hlt) (g5.f.trans g5.sub))
    refine wpAny_mono ti (fun r s6 ⟨u, hr, h6⟩ => ?_) fun _ _ z => z
    subst hr
    refine wpAny_mono h6 (fun _ s7 ⟨x, H7, I7, r7, y7, st7, n7⟩ => ?_) fun _ _ z => z
    obtain ⟨F7, g7, hxd⟩ := Y.yld i (enc as[i]) H5 x H7 F5 (by rw [List.getElem?_map, hai]; rfl) (g5.f.trans g5.sub) g5.f g5.sub y7
    have hL7 := g7.h _ _ hL5
    have gd7 : GrD L F5 H5 F7 H7 := GrD.of g7 g5.fd hL5
    have I7' := I7.pinned (stat n7) (T.obj _ _ st7)
    have S7 : Sd B.K (L2.wipe σ jall) F7 H7 (wipeE ρ jall) := (S.wipe jall).on (no.wipe jall) (g5.f.trans g7.f) g7.sub
    obtain ⟨tg, pg, hq⟩ := hg.g
    have pr := pg.run _ s7 _ H7 x u (fun σ8 H8 => Sd B.K σ8 F7 H8 (asg as[i]) ∧ H8 = H7 ∧ Keeps js (L2.wipe σ jall) σ8 (wipeE ρ jall) (asg as[i])) I7' r7 (hq x _ F7 H7 _ _ (enc as[i]) (asg as[i]) S7 hxd (ha _ hmem) fun σ' S' kp => ⟨S', rfl, kp⟩)
    rw [hx] at pr
    refine wpAny_mono pr (fun _ s8 ⟨σ8, H8, I8, S8, e8, k8⟩ => ?_) fun _ _ z => z
    subst e8
    have hw8 : L2.wipe σ8 jall = L2.wipe σ jall := by rw [k8.wipe jall hj, wipe_wipe]
    have lw : ws.length = ((as.take i).flatMap outs).length := dpa_len hws
    have lsum : (as.flatMap outs).length = ((as.take i).flatMap outs).length + (outs as[i]).length + ((as.drop (i + 1)).flatMap outs).length := by
      have e : as = as.take i ++ as[i] :: as.drop (i + 1) := by
        rw [← List.drop_eq_getElem_cons hlt, List.take_append_drop]
      conv => lhs; rw [e]
      rw [List.flatMap_append, List.flatMap_cons, List.length_append, List.length_append]
      omega
    refine he _ hmem _ s8 σ8 F7 H8 (vs ++ ws) _ I8 S8 hL7 gd7.fd (by rw [List.length_append]; omega) fun s9 F9 H9 ws9 I9 g9 hL9 hws9 => ⟨rfl, as.length - (i + 1), by omega, i + 1, F9, H9, ws ++ ws9, rfl, hlt, ?_, ?_, ?_, (g5.trans gd7).trans g9, by rw [← List.append_assoc]; exact hL9, ?_⟩
    · refine I9.unpinned.weak (by have := congrArg List.length hw8; rw [wipe_length, wipe_length] at this; rw [wipe_length, wipe_length]; exact this.symm) fun j v e => ?_
      rw [← hw8] at e
      obtain ⟨e1, e2⟩ := wipe_some e
      rw [wipe_at, if_neg fun z => e2 (hji j z)]
      exact e1
    · refine T.keep _ _ _ st7 fun b hb o e => ?_
      exact (I9.pin (b, o) (List.mem_append_right _ (List.mem_append_right _ (mem_pinsAt hb e)))).1
    · intro b hb
      obtain ⟨o, e, _⟩ := T.obj _ _ st7 b hb
      exact (I9.pin (b, o) (List.mem_append_right _ (List.mem_append_right _ (mem_pinsAt hb e)))).2.1
    · rw [List.take_add_one, hai, List.flatMap_append]
      refine dpa_app (dpa_ex (g7.f.trans g9.f) hws) ?_
      show DpAll B.K F9 ws9 ([as[i]].flatMap outs)
      rw [List.flatMap_cons, List.flatMap_nil, List.append_nil]
      exact hws9
  · have e : i = as.length := by omega
    subst e
    have stp := Y.stop H5 (g5.f.trans g5.sub)
    rw [List.length_map] at stp
    have td := T.done B rfl rfl rfl hc as.length pins s5 _ H5 NoE I5 (stat n5) st5 stp
    refine wpAny_mono td (fun r s6 ⟨hr, I6⟩ => ?_) fun _ _ z => z
    subst hr
    rw [List.take_length] at hws
    exact q s6 F5 H5 ws I6 n5 g5 hL5 hws
/-- an inner clause as a whole -/
theorem em_mid {α : Type} {B : Cx} {L : Addr} {t1 i1 elt : Expr} {gens : List Comprehension} {scope : Scope} {pos : Pos} {k : Nat} {EM : Shared → (Shared → Prop) → Prop} {js jin jall : List Nat} {Γ : D → En → En → Prop} {ρ : En} (as : List α) (enc : α → D) (asg : α → En) (outs : α → List D)
    (hx : B.xe = NoE) (hc : B.calm = true) (h1 : gens[k + 1]? = some ⟨t1, i1, [], 0⟩) (ht : ∀ it, TurnOf B.prog B.w B.A t1 it B.env (.ListComp elt gens scope pos) (k + 1) (.ref L) EM) (hi : DI B ρ t1 i1 (as.map enc)) (hg : DG B t1 js Γ) (hj : ∀ j ∈ js, j ∈ jall) (hji : ∀ j ∈ jin, j ∈ jall)
    (no : NoOwn ρ) (ha : ∀ a ∈ as, Γ (enc a) (wipeE ρ jall) (asg a)) (he : ∀ a ∈ as, EmOk B L EM jin (asg a) (outs a)) :
    EmOk B L (EMmid B.prog B.w B.A i1 B.env (.ListComp elt gens scope pos) k (.ref L)) jall ρ (as.flatMap outs) := by
  intro pins s σ F H vs Q I S hL hF hl q
  have r := hi.run pins s σ H (fun J H' => ∃ F', Gr F H F' H' ∧ Yields B.K J F' F' (as.map enc)) I ⟨F, S, fun J F' H' g y => ⟨F', g, y⟩⟩
  rw [hx] at r
  refine wpAny_mono r (fun u s1 h1' => wpAny_mono h1' (fun itv s2 ⟨it, fp, tn, J, H2, e, I2, T, st, f, F', g, Y⟩ => ?_) fun _ _ z => z) fun _ _ z => z
  subst e
  have gd := GrD.of g hF hL
  have lp : codeAny (model B.prog B.w) B.A (.compLoop (.ListComp elt gens scope pos) (k + 1) (.ref it) (.ref L) B.env) (fun r s' => match r with | .ok _ => Q s' | .error _ => False) s2 :=
    loop_ok as enc asg outs hx hc T (ht _) hg hj hji no ha he I2 (S.on no g.f g.sub) (g.h _ _ hL) gd.fd hl st f Y fun s' F3 H3 ws I3 _ g3 hL3 hws => q s' F3 H3 ws I3 (gd.trans g3) hL3 hws
  exact start_in h1 lp (T.self B.A 0 _ _ _ st lp)
section
variable {X : Cx} {ρ : En} {α : Type}
/-- the outermost clause: a comprehension with several -/
theorem lcs_core {pins : List (Addr × Obj)} {s : Shared} {σ : L2.St} {H : Hp} {elt tg iter t1 i1 : Expr} {rest : List Comprehension} {scope : Scope} {own : List (Str × Nat)} {js jin : List Nat} {pos pos' : Pos} {Γ : D → En → En → Prop} {use : Option (Value → Sem Unit)} {Qf : Value → Shared → Prop} (as : List α) (enc : α → D) (asg : α → En) (outs : α → List D)
    (hc : X.calm = true) (hN : X.N.Nodup) (ok : BlkOk X.N X.env.scope scope own) (hl : (as.flatMap outs).length ≤ 50000) (no : NoOwn ρ)
    (hi : DI X ρ tg iter (as.map enc)) (hg : ∀ (s : Shared) (H : Hp) (C : Addr) (cl : List (Str × Addr)) (fp : List Addr), DG (X.blk s H scope (compEnvC scope cl C X.env) fp) tg js Γ) (hj : ∀ j ∈ js, j ∈ own.map (·.2)) (hji : ∀ j ∈ jin, j ∈ own.map (·.2))
    (ha : ∀ a ∈ as, Γ (enc a) (wipeE ρ (own.map (·.2))) (asg a))
    (he : ∀ a ∈ as, ∀ (s : Shared) (H : Hp) (C : Addr) (cl : List (Str × Addr)) (fp : List Addr) (L : Addr), EmOk (X.blk s H scope (compEnvC scope cl C X.env) fp) L (EMmid X.prog X.w X.A i1 (compEnvC scope cl C X.env) (.ListComp elt (⟨tg, iter, [], 0⟩ :: ⟨t1, i1, [], 0⟩ :: rest) scope pos) 0 (.ref L)) jin (asg a) (outs a))
    (hs : ∀ x, foldedSetIterable iter X.env x = pure x) (hs1 : ∀ env x, foldedSetIterable i1 env x = pure x)
    (I : Inv X pins σ H s) {Q : VK} (q : tL X.K ρ (as.flatMap outs) σ H Q)
    (hRR : ∀ D C s' m H', Inv X pins σ H' s' → Q (.ref D) H' → s'.heap.Ns C m → FpOk X pins H' C → compPost (model X.prog X.w) X.A X.xe use Qf (.ref D) C (.ok .next) s') :
    wpAny (model X.prog X.w) X.A (comprehension (.ListComp elt (⟨tg, iter, [], 0⟩ :: ⟨t1, i1, [], 0⟩ :: rest) scope pos) scope X.env pos' (newList []) false (eval iter X.env) use) Qf X.xe s := by
  obtain ⟨F, S, q⟩ := q
  have hfree : ∀ y ∈ scope.names, y.2 = .free → ∃ c, X.env.cells.lookup y.1 = some c := fun y hy e => (ok.free y hy e).elim (fun k => I.ok.has _ (.inl k)) fun k => I.ok.has _ (.inr k)
  refine wpAny_comprehension_free (use := use) rfl hs (closure_ok hfree) ok.kind (fun y hy e => by rw [ok.uniq y hy, e])
    (thn (hi.run pins s σ H (fun J H' => ∃ F', Gr F H F' H' ∧ Yields X.K J F' F' (as.map enc)) I ⟨F, S, fun J F' H' g y => ⟨F', g, y⟩⟩) fun xv s1 hx => thn hx fun itv s2 h2 => ?_)
  obtain ⟨it, fp, tn, J, H2, e, I2, T, st2, f2, F2, g2, Y⟩ := h2
  subst e
  refine wpAny_newObj_type (newEnv_comp ?_) (by show 0 ≤ sizeLine; decide)
  generalize hD : s2.heap.objs.size = L
  have hDn : H2 L = none := I2.hok.fresh (Nat.le_of_eq hD)
  generalize hs3 : ({ s2 with heap := s2.heap.push { cls := .type "list", data := .seq ([] : List Value).toArray } } : Shared) = s3
  have I3 : Inv X pins σ (upd H2 L (.lst [])) s3 := by
    rw [← hs3]
    refine I2.laid (t' := s2.toks) (fun b o e => Heap.get?_push_of_some _ e) (Nat.le_of_eq hD) ⟨Nat.zero_le _, [], 0, .nil, ?_⟩
    rw [← hD]
    exact Heap.get?_push_size _ rfl
  have h3 : s3.heap = s2.heap.push { cls := .type "list", data := .seq ([] : List Value).toArray } := by rw [← hs3]
  have f3 : ∀ b ∈ fp, FpOk X pins (upd H2 L (.lst [])) b ∧ b < s3.heap.objs.size := fun b hb => by
    obtain ⟨o, e, _⟩ := T.obj _ _ st2 b hb
    have hlt := Heap.lt_size e
    refine ⟨⟨?_, (f2 b hb).2⟩, by rw [h3, Heap.size_push]; exact Nat.lt_succ_of_lt hlt⟩
    rw [upd_ne (by rw [← hD]; exact Nat.ne_of_lt hlt)]
    exact (f2 b hb).1
  have st3 : tn 0 s3.heap := T.keep _ _ _ st2 fun b _ o e => by rw [h3]; exact Heap.get?_push_of_some _ e
  have I4 := block_start I3 ok hN f3
  have pg := hg s3 (upd H2 L (.lst [])) s3.heap.objs.size (cellsFrom (s3.heap.objs.size + 1) scope.names (cloFrom X.env.cells scope.names [])) fp
  have pe := fun a hm => he a hm s3 (upd H2 L (.lst [])) s3.heap.objs.size (cellsFrom (s3.heap.objs.size + 1) scope.names (cloFrom X.env.cells scope.names [])) fp L
  show codeAny _ _ (.compStart (.ListComp elt (⟨tg, iter, [], 0⟩ :: ⟨t1, i1, [], 0⟩ :: rest) scope pos) 0 (.ref it) (.ref L) (compEnvC scope (cellsFrom (s3.heap.objs.size + 1) scope.names (cloFrom X.env.cells scope.names [])) s3.heap.objs.size X.env)) (compPost (model X.prog X.w) X.A X.xe use Qf (.ref L) s3.heap.objs.size) { s3 with heap := pushCells (s3.heap.push { cls := .type "dict", data := .dict #[] }) scope.names }
  have nfp : ∀ b ∈ fp, (upd H2 L (.lst [])) b = none := fun b hb => (f3 b hb).1.1
  generalize hce : compEnvC scope (cellsFrom (s3.heap.objs.size + 1) scope.names (cloFrom X.env.cells scope.names [])) s3.heap.objs.size X.env = ce at I4 pg pe ⊢
  have cL : ce.locals = s3.heap.objs.size := by subst hce; rfl
  generalize hH3 : upd H2 L (.lst []) = H3 at I3 I4 pg pe nfp f3
  generalize hs4 : ({ s3 with heap := pushCells (s3.heap.push { cls := .type "dict", data := .dict #[] }) scope.names } : Shared) = s4 at I4 ⊢
  have st4 : tn 0 s4.heap := T.keep _ _ _ st3 fun b _ o e => by rw [← hs4]; exact pushCells_keeps _ _ _ _ (Heap.get?_push_of_some _ e)
  have f4 : ∀ b ∈ fp, FpOk (X.blk s3 H3 scope ce fp) [] H3 b := fun b hb => ⟨nfp b hb, (I4.ok.exf b hb).1, I4.ok.exfs b hb, .inl hb, fun x c e => (I4.ok.exf b hb).2 x c e, fun p hp => absurd (show p ∈ ([] : List (Addr × Obj)) ++ [] from hp) (by simp)⟩
  have hF2 : F2 L = none := none_of g2.sub hDn
  have hsub : Ex F2 H3 := by rw [← hH3]; exact g2.sub.trans (Ex.new hDn)
  have S4 : Sd X.K (L2.wipe σ (own.map (·.2))) F2 H3 (wipeE ρ (own.map (·.2))) := (S.wipe _).on (no.wipe _) g2.f hsub
  have loop : codeAny (model X.prog X.w) X.A (.compLoop (.ListComp elt (⟨tg, iter, [], 0⟩ :: ⟨t1, i1, [], 0⟩ :: rest) scope pos) 0 (.ref it) (.ref L) ce) (compPost (model X.prog X.w) X.A X.xe use Qf (.ref L) s3.heap.objs.size) s4 := by
    refine loop_ok (B := X.blk s3 H3 scope ce fp) (jall := own.map (·.2)) (ρ := wipeE ρ (own.map (·.2))) (vs := []) as enc asg outs rfl hc T (turn_mid (t1 := t1) rfl rfl (hs1 ce)) pg hj hji (no.wipe _) (fun a hm => ?_) pe I4 S4 (by rw [← hH3]; exact upd_same) hF2 (by rw [List.length_nil]; omega) st4 f4 Y ?_
    · have e : wipeE (wipeE ρ (own.map (·.2))) (own.map (·.2)) = wipeE ρ (own.map (·.2)) := by
        have key : ∀ (js : List Nat) (τ : En) (n : Nat), (wipeE τ js)[n]? = if n ∈ js then (if n < τ.length then some Slot.un else none) else τ[n]? := fun js => by
          induction js with
          | nil => intro τ n; simp [wipeE]
          | cons v vs ih =>
            intro τ n
            have hlen : (wipeE τ vs).length = τ.length := by
              clear ih
              induction vs with
              | nil => rfl
              | cons v vs ih => unfold wipeE; rw [List.length_set]; exact ih
            unfold wipeE
            by_cases hv : v = n
            · subst hv
              by_cases hl : v < τ.length
              · rw [List.getElem?_set_self (by rw [hlen]; exact hl)]
                simp [hl]
              · rw [List.getElem?_eq_none (by rw [List.length_set, hlen]; omega)]
                simp [hl]
            · rw [List.getElem?_set_ne hv, ih τ n]
              have : n ≠ v := fun e => hv e.symm
              simp [this]
        refine List.ext_getElem? fun n => ?_
        have hlen : ∀ (js : List Nat) (τ : En), (wipeE τ js).length = τ.length := fun js τ => by
          induction js with
          | nil => rfl
          | cons v vs ih => unfold wipeE; rw [List.length_set]; exact ih
        rw [key, key, hlen]
        split <;> rfl
      rw [e]
      exact ha a hm
    · intro s' F' H' ws I' n' g' hL' hws
      have I7 : Inv X pins σ H' s' := I3.call' (ch := fp) I'.os I'.base I'.hok I'.bare fun b hb => ⟨(f3 b hb).1.2.2.2.1, (f3 b hb).1.2.1, (f3 b hb).1.2.2.2.2.1, (f3 b hb).1.2.2.2.2.2⟩
      have nC : H' s3.heap.objs.size = none := by
        have z : H' ce.locals = none := I'.free
        rw [cL] at z
        exact z
      obtain ⟨m, hn, _⟩ := I'.loc
      have hn : s'.heap.Ns ce.locals m := hn
      rw [cL] at hn
      refine hRR L s3.heap.objs.size s' m H' I7 (q L ws F' H' ⟨g2.f.trans g'.f, fun b o hb => ?_, g'.sub, fun b hb hb' => ?_⟩ (none_of g2.h hDn) g'.fd hL' hws) hn (I3.fpOk (Nat.le_refl _) nC)
      · have hb2 := g2.h b o hb
        have hne : b ≠ L := fun e => by rw [e, hDn] at hb2; cases hb2
        exact g'.h b o hne (by rw [← hH3, upd_ne hne]; exact hb2)
      · cases z : F2 b with
        | some o => exact g2.new b hb (by rw [z]; exact fun z => by cases z)
        | none =>
          have z1 := g'.new b z hb'
          have hne : b ≠ L := fun e => hb' (by rw [e]; exact g'.fd)
          rw [← hH3, upd_ne hne] at z1
          exact none_of g2.h z1
  exact codeAny_compStart_list loop (T.self X.A 0 _ _ _ st4 loop)
theorem lcs {elt tg iter t1 i1 : Expr} {rest : List Comprehension} {scope : Scope} {own : List (Str × Nat)} {js jin : List Nat} {pos : Pos} {Γ : D → En → En → Prop} (as : List α) (enc : α → D) (asg : α → En) (outs : α → List D)
    (hc : X.calm = true) (hN : X.N.Nodup) (ok : BlkOk X.N X.env.scope scope own) (hl : (as.flatMap outs).length ≤ 50000) (no : NoOwn ρ)
    (hi : DI X ρ tg iter (as.map enc)) (hg : ∀ (s : Shared) (H : Hp) (C : Addr) (cl : List (Str × Addr)) (fp : List Addr), DG (X.blk s H scope (compEnvC scope cl C X.env) fp) tg js Γ) (hj : ∀ j ∈ js, j ∈ own.map (·.2)) (hji : ∀ j ∈ jin, j ∈ own.map (·.2))
    (ha : ∀ a ∈ as, Γ (enc a) (wipeE ρ (own.map (·.2))) (asg a))
    (he : ∀ a ∈ as, ∀ (s : Shared) (H : Hp) (C : Addr) (cl : List (Str × Addr)) (fp : List Addr) (L : Addr), EmOk (X.blk s H scope (compEnvC scope cl C X.env) fp) L (EMmid X.prog X.w X.A i1 (compEnvC scope cl C X.env) (.ListComp elt (⟨tg, iter, [], 0⟩ :: ⟨t1, i1, [], 0⟩ :: rest) scope pos) 0 (.ref L)) jin (asg a) (outs a))
    (hs : ∀ x, foldedSetIterable iter X.env x = pure x := by intro _; rfl) (hs1 : ∀ env x, foldedSetIterable i1 env x = pure x := by intro _ _; rfl) : Lc X ρ elt (⟨tg, iter, [], 0⟩ :: ⟨t1, i1, [], 0⟩ :: rest) scope pos (as.flatMap outs) := by
  refine ⟨⟨fun pins s σ H Q I h => ?_⟩, fun i y py spos hy hyl hsw => ⟨fun pins s σ H E I h => ?_⟩⟩
  · rw [eval_ListComp]
    refine lcs_core as enc asg outs hc hN ok hl no hi hg hj hji ha he hs hs1 I h fun D C s' m H' I' q hn f => ⟨m, hn, fun h'' sb => ?_⟩
    obtain ⟨f0, f1, f2, f3, f4, f5⟩ := f
    exact ⟨.ref D, H', I'.turned (t' := s'.toks) (fun b o hb e => (sb.2 b hb).trans e) f0 f1 f3 f4 f5, rfl, q⟩
  · rw [exec_Assign_Name_used _ _ _ _ hsw]
    refine wpAny_bind (wpAny_standAt (wpAny_bind ?_))
    show wpAny _ X.A (do let _ ← comprehension (.ListComp elt (⟨tg, iter, [], 0⟩ :: ⟨t1, i1, [], 0⟩ :: rest) scope pos) scope X.env (firstIterPos (⟨tg, iter, [], 0⟩ :: ⟨t1, i1, [], 0⟩ :: rest) pos) (newList []) false (eval iter X.env) (some (assign (.Name y py) X.env))) _ _ s
    have h' : tL X.K ρ (as.flatMap outs) σ H (fun x H1 => gName i x σ H1 E.nx) := h
    refine wpAny_bind (thn (lcs_core (Qf := fun _ s' => SP X pins E .next s') as enc asg outs hc hN ok hl no hi hg hj hji ha he hs hs1 I h' fun L C s' m H' I' q hn f => ?_) fun _ s' hq => wpAny_pure (wpAny_pure hq))
    show wpAny _ _ (assign (.Name y py) X.env (.ref L)) _ _ _
    refine wpAny_assign_Name (store_ok2 (v := V.ref L) I' hN hy (.inl hyl) rfl (fun s2 I2 ⟨a, sb, ha⟩ => ?_) (.inr hyl))
    obtain ⟨f0, f1, f2, f3, f4, f5⟩ := f
    have haC : C ≠ a := by
      rcases ha with z | z
      · rw [z]; exact f1
      · exact fun e => f4 y a z e.symm
    exact ⟨m, hn.sameBut sb haC, fun h3 sb3 => ⟨_, H', I2.turned (t' := s2.toks) (fun b o hb e => (sb3.2 b hb).trans e) f0 f1 f3 f4 f5, q⟩⟩
/-- two for -/
theorem lc2 {β : Type} {elt tg iter t1 i1 : Expr} {scope : Scope} {own : List (Str × Nat)} {js js1 : List Nat} {pos : Pos} {Γ Γ1 : D → En → En → Prop} (as : List α) (enc : α → D) (asg : α → En) (bs : α → List β) (enc1 : α → β → D) (asg1 : α → β → En) (g : α → β → D)
    (hc : X.calm = true) (hN : X.N.Nodup) (ok : BlkOk X.N X.env.scope scope own) (hl : (as.flatMap fun a => (bs a).map (g a)).length ≤ 50000) (no : NoOwn ρ)
    (hi : DI X ρ tg iter (as.map enc)) (hg : ∀ (s : Shared) (H : Hp) (C : Addr) (cl : List (Str × Addr)) (fp : List Addr), DG (X.blk s H scope (compEnvC scope cl C X.env) fp) tg js Γ) (hj : ∀ j ∈ js, j ∈ own.map (·.2))
    (ha : ∀ a ∈ as, Γ (enc a) (wipeE ρ (own.map (·.2))) (asg a)) (noa : ∀ a ∈ as, NoOwn (asg a))
    (hi1 : ∀ a ∈ as, ∀ (s : Shared) (H : Hp) (C : Addr) (cl : List (Str × Addr)) (fp : List Addr), DI (X.blk s H scope (compEnvC scope cl C X.env) fp) (asg a) t1 i1 ((bs a).map (enc1 a)))
    (hg1 : ∀ (s : Shared) (H : Hp) (C : Addr) (cl : List (Str × Addr)) (fp : List Addr), DG (X.blk s H scope (compEnvC scope cl C X.env) fp) t1 js1 Γ1) (hj1 : ∀ j ∈ js1, j ∈ own.map (·.2))
    (ha1 : ∀ a ∈ as, ∀ b ∈ bs a, Γ1 (enc1 a b) (wipeE (asg a) js1) (asg1 a b))
    (he : ∀ a ∈ as, ∀ b ∈ bs a, ∀ (s : Shared) (H : Hp) (C : Addr) (cl : List (Str × Addr)) (fp : List Addr), DE (X.blk s H scope (compEnvC scope cl C X.env) fp) (asg1 a b) elt (g a b))
    (hs : ∀ x, foldedSetIterable iter X.env x = pure x := by intro _; rfl) (hs1 : ∀ env x, foldedSetIterable i1 env x = pure x := by intro _ _; rfl) : Lc X ρ elt [⟨tg, iter, [], 0⟩, ⟨t1, i1, [], 0⟩] scope pos (as.flatMap fun a => (bs a).map (g a)) := by
  refine lcs (jin := js1) as enc asg (fun a => (bs a).map (g a)) hc hN ok hl no hi hg hj hj1 ha (fun a hm s H C cl fp L => ?_) hs hs1
  have z := em_mid (B := X.blk s H scope (compEnvC scope cl C X.env) fp) (L := L) (gens := [⟨tg, iter, [], 0⟩, ⟨t1, i1, [], 0⟩]) (k := 0) (jin := []) (jall := js1) (scope := scope) (pos := pos) (bs a) (enc1 a) (asg1 a) (fun b => [g a b]) rfl hc rfl (fun it => turn_last rfl rfl) (hi1 a hm s H C cl fp) (hg1 s H C cl fp) (fun j h => h) (fun j h => by cases h) (noa a hm) (ha1 a hm) (fun b hb => em_last rfl (he a hm b hb s H C cl fp))
  rwa [show ((bs a).flatMap fun b => [g a b]) = (bs a).map (g a) from by induction bs a with | nil => rfl | cons x xs ih => rw [List.flatMap_cons, ih]; rfl] at z
/-- three for -/
theorem lc3 {β γ : Type} {elt tg iter t1 i1 t2 i2 : Expr} {scope : Scope} {own : List (Str × Nat)} {js js1 js2 : List Nat} {pos : Pos} {Γ Γ1 Γ2 : D → En → En → Prop} (as : List α) (enc : α → D) (asg : α → En) (bs : α → List β) (enc1 : α → β → D) (asg1 : α → β → En) (cs : α → β → List γ) (enc2 : α → β → γ → D) (asg2 : α → β → γ → En) (g : α → β → γ → D)
    (hc : X.calm = true) (hN : X.N.Nodup) (ok : BlkOk X.N X.env.scope scope own) (hl : (as.flatMap fun a => (bs a).flatMap fun b => (cs a b).map (g a b)).length ≤ 50000) (no : NoOwn ρ)
    (hi : DI X ρ tg iter (as.map enc)) (hg : ∀ (s : Shared) (H : Hp) (C : Addr) (cl : List (Str × Addr)) (fp : List Addr), DG (X.blk s H scope (compEnvC scope cl C X.env) fp) tg js Γ) (hj : ∀ j ∈ js, j ∈ own.map (·.2))
    (ha : ∀ a ∈ as, Γ (enc a) (wipeE ρ (own.map (·.2))) (asg a)) (noa : ∀ a ∈ as, NoOwn (asg a))
    (hi1 : ∀ a ∈ as, ∀ (s : Shared) (H : Hp) (C : Addr) (cl : List (Str × Addr)) (fp : List Addr), DI (X.blk s H scope (compEnvC scope cl C X.env) fp) (asg a) t1 i1 ((bs a).map (enc1 a)))
    (hg1 : ∀ (s : Shared) (H : Hp) (C : Addr) (cl : List (Str × Addr)) (fp : List Addr), DG (X.blk s H scope (compEnvC scope cl C X.env) fp) t1 js1 Γ1) (hj1 : ∀ j ∈ js2 ++ js1, j ∈ own.map (·.2))
    (ha1 : ∀ a ∈ as, ∀ b ∈ bs a, Γ1 (enc1 a b) (wipeE (asg a) (js2 ++ js1)) (asg1 a b)) (noa1 : ∀ a ∈ as, ∀ b ∈ bs a, NoOwn (asg1 a b))
    (hi2 : ∀ a ∈ as, ∀ b ∈ bs a, ∀ (s : Shared) (H : Hp) (C : Addr) (cl : List (Str × Addr)) (fp : List Addr), DI (X.blk s H scope (compEnvC scope cl C X.env) fp) (asg1 a b) t2 i2 ((cs a b).map (enc2 a b)))
    (hg2 : ∀ (s : Shared) (H : Hp) (C : Addr) (cl : List (Str × Addr)) (fp : List Addr), DG (X.blk s H scope (compEnvC scope cl C X.env) fp) t2 js2 Γ2)
    (ha2 : ∀ a ∈ as, ∀ b ∈ bs a, ∀ c ∈ cs a b, Γ2 (enc2 a b c) (wipeE (asg1 a b) js2) (asg2 a b c))
    (he : ∀ a ∈ as, ∀ b ∈ bs a, ∀ c ∈ cs a b, ∀ (s : Shared) (H : Hp) (C : Addr) (cl : List (Str × Addr)) (fp : List Addr), DE (X.blk s H scope (compEnvC scope cl C X.env) fp) (asg2 a b c) elt (g a b c))
    (hs : ∀ x, foldedSetIterable iter X.env x = pure x := by intro _; rfl) (hs1 : ∀ env x, foldedSetIterable i1 env x = pure x := by intro _ _; rfl) (hs2 : ∀ env x, foldedSetIterable i2 env x = pure x := by intro _ _; rfl) :
    Lc X ρ elt [⟨tg, iter, [], 0⟩, ⟨t1, i1, [], 0⟩, ⟨t2, i2, [], 0⟩] scope pos (as.flatMap fun a => (bs a).flatMap fun b => (cs a b).map (g a b)) := by
  refine lcs (jin := js2 ++ js1) as enc asg _ hc hN ok hl no hi hg hj hj1 ha (fun a hm s H C cl fp L => ?_) hs hs1
  refine em_mid (B := X.blk s H scope (compEnvC scope cl C X.env) fp) (L := L) (gens := [⟨tg, iter, [], 0⟩, ⟨t1, i1, [], 0⟩, ⟨t2, i2, [], 0⟩]) (k := 0) (jin := js2) (jall := js2 ++ js1) (scope := scope) (pos := pos) (bs a) (enc1 a) (asg1 a) (fun b => (cs a b).map (g a b)) rfl hc rfl (fun it => turn_mid (t1 := t2) rfl rfl (hs2 _)) (hi1 a hm s H C cl fp) (hg1 s H C cl fp) (fun j h => List.mem_append_right _ h) (fun j h => List.mem_append_left _ h) (noa a hm) (ha1 a hm) (fun b hb => ?_)
  have z := em_mid (B := X.blk s H scope (compEnvC scope cl C X.env) fp) (L := L) (gens := [⟨tg, iter, [], 0⟩, ⟨t1, i1, [], 0⟩, ⟨t2, i2, [], 0⟩]) (k := 1) (jin := []) (jall := js2) (scope := scope) (pos := pos) (cs a b) (enc2 a b) (asg2 a b) (fun c => [g a b c]) rfl hc rfl (fun it => turn_last rfl rfl) (hi2 a hm b hb s H C cl fp) (hg2 s H C cl fp) (fun j h => h) (fun j h => by cases h) (noa1 a hm b hb) (ha2 a hm b hb) (fun c hcm => em_last rfl (he a hm b hb c hcm s H C cl fp))
  rwa [show ((cs a b).flatMap fun c => [g a b c]) = (cs a b).map (g a b) from by induction cs a b with | nil => rfl | cons x xs ih => rw [List.flatMap_cons, ih]; rfl] at z
end
end Lm
set_option maxRecDepth 100000
set_option maxHeartbeats 4000000
/-! values, schemework. -/
namespace Lm
open PySem PySem.Spec PyProof.Rows L2 Evl
def primesB : List Int := [11, 13, 17, 19, 23, 29, 31, 37, 41, 43, 47, 53, 59, 61, 67, 71, 73, 79, 83, 89, 97]
structure Pl where
  p : Int
  rm : Bool
  n : Nat
  k : Nat
  d : Nat
def Pl.way (c : Pl) : Str := if c.rm then "room" else "letters"
abbrev plD (c : Pl) : D := .tuple [I c.p, .str c.way, I c.n, I c.k, I c.d]
def powersB (p : Int) (m : Nat) : List Int := (List.range (p - 1).toNat).map fun (i : Nat) => powB p (1 + (i : Int)) m
def roomyB (p : Int) (m : Nat) : List Int := ((powersB p m).zipIdx.filter fun q => !decide (q.1 ∈ (powersB p m).take q.2)).map fun q => (q.2 : Int) + 1
structure Pl.Ok (c : Pl) : Prop where
  pr : c.p ∈ primesB
  n : 2 ≤ c.n ∧ c.n ≤ 7
  k : 1 ≤ c.k ∧ c.k ≤ 3
  lt : c.rm = false → c.k + 1 ≤ c.n ∧ c.k ≤ c.d ∧ c.d + 1 ≤ c.n ∧ c.d ≤ c.k + 1
  ro : c.rm = true → 2 ≤ c.k ∧ c.k ≤ c.n ∧ c.d = 2 * c.k - 2 ∧ c.d + 1 ≤ c.n ∧ c.n ≤ (roomyB c.p (c.k - 1)).length
theorem pr_bd {p : Int} (h : p ∈ primesB) : 11 ≤ p ∧ p ≤ 97 := by
  have : ∀ p ∈ primesB, 11 ≤ p ∧ p ≤ 97 := by decide
  exact this p h
theorem pr_pk {p : Int} (h : p ∈ primesB) : Pk p := by
  have := pr_bd h
  exact ⟨by omega, by omega⟩
def ivOk (p : Int) : Bool := (List.range (p - 1).toNat).all fun (i : Nat) => match (invL p (1 + (i : Int))).head? with
  | some y => decide (0 < y) && decide (y < p) && decide (y * (1 + (i : Int)) % p = 1)
  | none => false
theorem iv_all : primesB.all ivOk = true := by decide +kernel
theorem pr_iv {p : Int} (h : p ∈ primesB) : Iv p := fun x h0 h1 => by
  have h2 := List.all_eq_true.mp iv_all p h
  unfold ivOk at h2
  have h3 := List.all_eq_true.mp h2 (x - 1).toNat (List.mem_range.mpr (by omega))
  have e : 1 + (((x - 1).toNat : Nat) : Int) = x := by omega
  rw [e] at h3
  cases q : (invL p x).head? with
  | none => rw [q] at h3; cases h3
  | some y =>
    rw [q] at h3
    simp only [Bool.and_eq_true, decide_eq_true_eq] at h3
    exact ⟨y, rfl, h3.1.1, h3.1.2, h3.2⟩
def pts (c : Pl) : List Int := if c.rm then (roomyB c.p (c.k - 1)).take c.n else (List.range c.n).map fun (i : Nat) => 1 + (i : Int)
def rmB (c : Pl) : Nat := if c.rm then c.k - 1 else c.d
def sizeB (c : Pl) : Nat := if c.rm then c.k * (c.k - 1) else c.k * (c.k + 1) / 2 + c.k * (c.d - c.k)
def lineB (c : Pl) (s : Nat) : List Int := powsB c.p ((pts c).getD s 0) c.d
theorem pts_len {c : Pl} (h : c.Ok) : (pts c).length = c.n := by
  unfold pts
  cases q : c.rm with
  | true =>
    have := (h.ro q).2.2.2.2
    simp
    omega
  | false => simp
theorem roomy_rng {p : Int} {m : Nat} (hp : 2 ≤ p) : ∀ x ∈ roomyB p m, 1 ≤ x ∧ x < p := fun x hx => by
  obtain ⟨q, hq, rfl⟩ := List.mem_map.mp hx
  have h1 := (List.mem_filter.mp hq).1
  have h2 := (List.mem_zipIdx h1).2.1
  have h3 : (powersB p m).length = (p - 1).toNat := by simp [powersB]
  rw [h3] at h2
  omega
theorem pts_rng {c : Pl} (h : c.Ok) : ∀ x ∈ pts c, 1 ≤ x ∧ x < c.p := fun x hx => by
  have hp := pr_bd h.pr
  unfold pts at hx
  cases q : c.rm with
  | true =>
    rw [q, if_pos rfl] at hx
    exact roomy_rng (by omega) x (List.mem_of_mem_take hx)
  | false =>
    rw [q, if_neg Bool.false_ne_true] at hx
    obtain ⟨i, hi, rfl⟩ := List.mem_map.mp hx
    have := List.mem_range.mp hi
    have := h.n.2
    omega
theorem pts_get {c : Pl} (h : c.Ok) {s : Nat} (hs : s < c.n) : (pts c)[s]? = some ((pts c).getD s 0) ∧ 1 ≤ (pts c).getD s 0 ∧ (pts c).getD s 0 < c.p := by
  have e : (pts c)[s]? = some ((pts c).getD s 0) := get_of (by rw [pts_len h]; exact hs) 0
  exact ⟨e, pts_rng h _ (List.mem_of_getElem? e)⟩
/-- the eight shapes -/
theorem Pl.Ok.shp {c : Pl} (h : c.Ok) : (c.rm = false ∧ ((c.k = 1 ∧ c.d = 1) ∨ (c.k = 1 ∧ c.d = 2) ∨ (c.k = 2 ∧ c.d = 2) ∨ (c.k = 2 ∧ c.d = 3) ∨ (c.k = 3 ∧ c.d = 3) ∨ (c.k = 3 ∧ c.d = 4))) ∨ (c.rm = true ∧ ((c.k = 2 ∧ c.d = 2) ∨ (c.k = 3 ∧ c.d = 4))) := by
  have h1 := h.k
  cases q : c.rm with
  | true =>
    have := h.ro q
    right
    refine ⟨rfl, ?_⟩
    omega
  | false =>
    have := h.lt q
    left
    refine ⟨rfl, ?_⟩
    omega
theorem Pl.Ok.sm {c : Pl} (h : c.Ok) : c.d ≤ 4 ∧ 1 ≤ c.d ∧ rmB c ≤ 4 ∧ 1 ≤ rmB c ∧ rmB c ≤ c.d := by
  unfold rmB
  rcases h.shp with ⟨q, h⟩ | ⟨q, h⟩ <;> rw [q] <;> simp <;> omega
theorem way_ne (c : Pl) : decide (c.way = ("letters" : Str)) = !c.rm := by
  unfold Pl.way
  cases c.rm <;> decide
section
variable {P : Program} {w : World} {K : PySem.W.Frag} {mg : Str → Option Value} {base : Heap}
/-! ### values -/
def R_is_whole (ds : List D) (d : D) : Prop := ∃ (i : Int), ds = [I i] ∧ d = .bool true
theorem d_is_whole (T : Txt K mg) : Def P w K mg base CX0 "is_whole" 1 P_is_whole (SpP K R_is_whole) := by
  obtain ⟨hm, fd, F⟩ := T.f_is_whole
  refine mk_def hm F (pure_ok F sc_is_whole (fun ds d ⟨i, h, _⟩ => by rw [h]; rfl) fun cdv A outer s H E ds d hr hR => ?_) (fun _ _ _ _ _ _ us hl => match us, hl with | [_], _ => rfl)
  obtain ⟨i, rfl, rfl⟩ := hR
  show WS _ _ [.dat (I i)] _ _
  exact w_one (w_ret (e_and (p := true) (q := true) (e_isi (T := "int") (d := I i) rfl (by decide +kernel) T.n_isinstance T.n_int (by decide +kernel) (v 0 rfl)) fun _ => e_one (e_not (p := false) (e_isi (T := "bool") (d := I i) rfl (by decide +kernel) T.n_isinstance T.n_bool (by decide +kernel) (v 0 rfl)))) rfl)
def R_is_between (ds : List D) (d : D) : Prop := ∃ (i lo hi : Int), ds = [I i, I lo, I hi] ∧ d = .bool (decide (lo ≤ i) && decide (i ≤ hi))
theorem d_is_between (T : Txt K mg) : Def P w K mg base CX0 "is_between" 2 P_is_between (SpP K R_is_between) := by
  obtain ⟨hm, fd, F⟩ := T.f_is_between
  refine mk_def hm F (pure_ok F sc_is_between (fun ds d ⟨i, _, _, h, _⟩ => by rw [h]; rfl) fun cdv A outer s H E ds d hr hR => ?_) (fun _ _ _ _ _ _ us hl => match us, hl with | [_, _, _], _ => rfl)
  obtain ⟨i, lo, hi, rfl, rfl⟩ := hR
  show WS _ _ [.dat (I i), .dat (I lo), .dat (I hi)] _ _
  exact w_one (w_ret (e_and (p := true) (e_call (d_is_whole T) hr ⟨i, rfl, rfl⟩ (a_cons (v 0 rfl) a_nil)) fun _ => e_one (e_lele (v 1 rfl) (v 0 rfl) (v 2 rfl))) rfl)
theorem t_btw {X : Cx} {ρ : En} {a b c : Expr} {i lo hi : Int} {p pos : Pos} (T : Txt X.K X.mg) (hr : Room 2 X.A) (ha : DE X ρ a (I i)) (hb : DE X ρ b (I lo)) (hc : DE X ρ c (I hi)) (hg : Gl X "is_between" := by rfl)
    (h1 : starEach [a, b, c] X.env = (false, eval a X.env) :: starEach [b, c] X.env := by rfl) (h2 : starEach [b, c] X.env = (false, eval b X.env) :: starEach [c] X.env := by rfl) (h3 : starEach [c] X.env = (false, eval c X.env) :: starEach [] X.env := by rfl)
    (hpl : (backTo pos (starEach [b, c] X.env)).any (·.1) = false := by rfl) : DE X ρ (.Call (.Name "is_between" p) [a, b, c] [] pos) (.bool (decide (lo ≤ i) && decide (i ≤ hi))) :=
  e_call (d_is_between T) hr ⟨i, lo, hi, rfl, rfl⟩ (a_cons ha (a_cons hb (a_cons hc a_nil h3) h2) h1) hg (by decide) h1 hpl
def R_are_between (ds : List D) (d : D) : Prop := ∃ (r : List Int) (lo hi : Int), ds = [TI r, I r.length, I lo, I hi] ∧ (r.length ≤ 50000 ∧ ∀ x ∈ r, lo ≤ x ∧ x ≤ hi) ∧ d = .bool true
theorem d_are_between (T : Txt K mg) : Def P w K mg base CX0 "are_between" 3 P_are_between (SpP K R_are_between) := by
  obtain ⟨hm, fd, F⟩ := T.f_are_between
  refine mk_def hm F (pure_ok F sc_are_between (fun ds d ⟨i, _, _, h, _⟩ => by rw [h]; rfl) fun cdv A outer s H E ds d hr hR => ?_) (fun _ _ _ _ _ _ us hl => match us, hl with | [_, _, _, _], _ => rfl)
  obtain ⟨r, lo, hi, rfl, ⟨hl, hb⟩, rfl⟩ := hR
  show WS _ _ [.dat (TI r), .dat (I r.length), .dat (I lo), .dat (I hi), .un] _ _
  have nd := sc_are_between.nd
  refine w_one (w_ret (d := .bool true) (DE.is (e_and (p := true) (e_isi (T := "tuple") (d := TI r) rfl (by decide +kernel) T.n_isinstance T.n_tuple (by decide +kernel) (v 0 rfl)) fun _ => e_and (p := true) ((e_eqi (e_lenT T.n_len (v 0 rfl)) (v 1 rfl)).is (by simp)) fun _ => e_one (e_all (bs := r.map fun x => decide (lo ≤ x) && decide (x ≤ hi)) rfl T.n_all ?_)) ?_) rfl)
  · refine (lcn (own := [("each", 4)]) r PyData.int (fun x => [.dat (TI r), .dat (I r.length), .dat (I lo), .dat (I hi), .dat (I x)]) (fun x => .bool (decide (lo ≤ x) && decide (x ≤ hi))) rfl nd (blkOk_by (N := N_are_between) (sc := defScope s_are_between) (by decide +kernel)) hl
      (i_tup (v 0 rfl)).o rfl (fun _ _ _ _ _ => dg_n (j := 4) nd) (by decide) (fun a _ => by rfl) (fun x hx _ _ _ _ _ => t_btw T hr (v 4 rfl) (v 2 rfl) (v 3 rfl))).e.e.is (by simp)
  · have : (r.map fun x => decide (lo ≤ x) && decide (x ≤ hi)).all id = true := List.all_eq_true.mpr fun y hy => by
      obtain ⟨x, hx, rfl⟩ := List.mem_map.mp hy
      have := hb x hx
      simp [this]
    rw [this]
    rfl
/-- strictly rising, between -/
def Rise (r : List Int) : Prop := ∀ (i : Nat) (x y : Int), r[i]? = some x → r[i + 1]? = some y → x < y
def R_wrong_in_rising (ds : List D) (d : D) : Prop := ∃ (r : List Int) (lo hi : Int), ds = [TI r, I lo, I hi] ∧ (r.length ≤ 50000 ∧ Rise r ∧ ∀ x ∈ r, lo ≤ x ∧ x ≤ hi) ∧ d = .list []
theorem d_wrong_in_rising (T : Txt K mg) : Def P w K mg base CX0 "wrong_in_rising" 3 P_wrong_in_rising (SpP K R_wrong_in_rising) := by
  obtain ⟨hm, fd, F⟩ := T.f_wrong_in_rising
  refine mk_def hm F (pure_ok F sc_wrong_in_rising (fun ds d ⟨i, _, _, h, _⟩ => by rw [h]; rfl) fun cdv A outer s H E ds d hr hR => ?_) (fun _ _ _ _ _ _ us hl => match us, hl with | [_, _, _], _ => rfl)
  obtain ⟨r, lo, hi, rfl, ⟨hl, hrs, hb⟩, rfl⟩ := hR
  show WS _ _ [.dat (TI r), .dat (I lo), .dat (I hi), .un, .un] _ _
  have nd := sc_wrong_in_rising.nd
  refine w_cons (w_if (k := false) (t_not (p := true) (t_val (e_isi (T := "tuple") (d := TI r) rfl (by decide +kernel) T.n_isinstance T.n_tuple (by decide +kernel) (v 0 rfl)))) (fun h => by cases h) (fun _ => w_nil ?_))
  refine w_cons (w_for (fun i ρ => ∃ s3 s4, ρ = [.dat (TI r), .dat (I lo), .dat (I hi), s3, s4]) (i_enumT T.n_enumerate (v 0 rfl)) (dg_t (n := 2) rfl (dgs_cons (j := 3) nd (dgs_cons (j := 4) nd dgs_nil))) (.inl rfl) rfl ⟨_, _, rfl⟩ ?_ ?_)
  · rintro i d ρ' hd ⟨s3, s4, rfl⟩
    obtain ⟨e, he, rfl⟩ := enumD_at hd
    rw [List.getElem?_map] at he
    cases hx : r[i]? with
    | none => rw [hx] at he; cases he
    | some x =>
      rw [hx] at he
      cases he
      have hxb := hb x (List.mem_of_getElem? hx)
      refine ⟨_, ⟨_, rfl, rfl, rfl⟩, ?_⟩
      show WS _ _ [.dat (TI r), .dat (I lo), .dat (I hi), .dat (I i), .dat (I x)] _ _
      refine w_one (w_if (k := false) (PW.pt (w_or (p := false) (q := false) ((t_not (t_val (t_btw T (hr.mono (by decide)) (v 4 rfl) (v 1 rfl) (v 2 rfl)))).is (by simp [hxb])) fun _ => w_or1 (PW.pt (DW.is (w_and (p := decide ((0 : Int) < (i : Int))) (q := false) (t_gt (v 3 rfl) c_int) fun hk => w_and1 ?_) (by simp))))) (fun h => by cases h) (fun _ => w_nil ⟨_, _, rfl⟩))
      have hi0 : 0 < i := by simpa using hk
      obtain ⟨j, rfl⟩ : ∃ j, i = j + 1 := ⟨i - 1, by omega⟩
      have hlj := (List.getElem?_eq_some_iff.mp hx).1
      have hy : r[j]? = some r[j] := List.getElem?_eq_getElem (by omega)
      have := hrs j _ _ hy hx
      refine (t_le (v 4 rfl) (e_ixT (at_map (k := j) hy) (v 0 rfl) ((sub (v 3 rfl) c_int).is ?_))).is ?_
      · show PyData.int _ = PyData.int _
        congr 1
        omega
      · simp
        omega
  · rintro ρ' ⟨s3, s4, rfl⟩
    exact w_one (w_ret (l_lst a_nil (by decide)).e rfl)
end
end Lm
set_option maxRecDepth 100000
set_option maxHeartbeats 4000000
/-! schemework, schemes. -/
namespace Lm
open PySem PySem.Spec PyProof.Rows L2 Evl
def mirB (rows width first : Nat) : List (List (Nat × Nat)) := (List.range rows).flatMap fun r => [(first + r, r)] :: (List.range (width - (r + 1))).map fun j => [(first + r, r + 1 + j), (first + (r + 1 + j), r)]
def spB (c : Pl) : List (List (Nat × Nat)) := if c.rm then mirB (rmB c) (rmB c) 0 ++ mirB (rmB c) (rmB c) (rmB c) else mirB c.k (rmB c) 0
def sptD (e : List (Nat × Nat)) : D := .tuple (e.map fun q => .tuple [I q.1, I q.2])
def formB (line : List Int) (spots : List (List (Nat × Nat))) (place : Nat) : List Int := spots.map fun e => ((e.filter fun q => decide (q.2 = place)).map fun q => line.getD q.1 0).sum
def formsB (c : Pl) (s : Nat) : List (List Int) := (List.range (rmB c)).map fun j => formB (lineB c s) (spB c) j
def pieceB (c : Pl) (m : List Int) (s : Nat) : List Int := ledB c.p (formsB c s) m
def piecesB (c : Pl) (m : List Int) : List (List Int) := (List.range c.n).map (pieceB c m)
section
variable {P : Program} {w : World} {K : PySem.W.Frag} {mg : Str → Option Value} {base : Heap}
def R_is_prime_by (ds : List D) (d : D) : Prop := ∃ (p : Int), ds = [I p] ∧ p ∈ primesB ∧ d = .bool true
theorem pr_small : ∀ p ∈ primesB, (((List.range 8).map fun (k : Nat) => !decide (p % (2 + (k : Int)) = 0)).all id) = true := by decide +kernel
theorem d_is_prime_by (T : Txt K mg) : Def P w K mg base CX0 "is_prime_by" 3 P_is_prime_by (SpP K R_is_prime_by) := by
  obtain ⟨hm, fd, F⟩ := T.f_is_prime_by
  refine mk_def hm F (pure_ok F sc_is_prime_by (fun ds d ⟨i, h, _⟩ => by rw [h]; rfl) fun cdv A outer s H E ds d hr hR => ?_) (fun _ _ _ _ _ _ us hl => match us, hl with | [_], _ => rfl)
  obtain ⟨p, rfl, hp, rfl⟩ := hR
  show WS _ _ [.dat (I p), .un] _ _
  have nd := sc_is_prime_by.nd
  have hb := pr_bd hp
  refine w_one (w_ret (d := .bool true) (DE.is (e_and (p := true) (q := true) ((t_btw T hr (v 0 rfl) (g_int (by rfl) T.n_LEAST_PRIME) (g_int (by rfl) T.n_MOST_PRIME)).is (by simp; omega)) fun _ => e_one ((e_all (bs := (List.range 8).map fun (k : Nat) => !decide (p % (2 + (k : Int)) = 0)) rfl T.n_all ?_).is (by rw [pr_small p hp]))) rfl) rfl)
  refine (lcn (own := [("each", 1)]) (List.range 8) (fun k => I (2 + (k : Int))) (fun k => [.dat (I p), .dat (I (2 + (k : Int)))]) (fun (k : Nat) => .bool (!decide (p % (2 + (k : Int)) = 0))) rfl nd (blkOk_by (N := N_is_prime_by) (sc := defScope s_is_prime_by) (by decide +kernel)) (by decide)
    (i_rng2 T.n_range (by omega) c_int c_int).o rfl (fun _ _ _ _ _ => dg_n (j := 1) nd) (by decide) (fun a _ => by rfl) (fun k _ _ _ _ _ _ => ?_)).e.e.is (by simp)
  exact e_nei (modp (by omega) (v 0 rfl) (v 1 rfl)) c_int
def R_is_row (ds : List D) (d : D) : Prop := ∃ (p : Int) (r : List Int), ds = [I p, TI r, I r.length] ∧ (r.length ≤ 50000 ∧ Rw p r) ∧ d = .bool true
theorem d_is_row (T : Txt K mg) : Def P w K mg base CX0 "is_row" 4 P_is_row (SpP K R_is_row) := by
  obtain ⟨hm, fd, F⟩ := T.f_is_row
  refine mk_def hm F (pure_ok F sc_is_row (fun ds d ⟨i, _, h, _⟩ => by rw [h]; rfl) fun cdv A outer s H E ds d hr hR => ?_) (fun _ _ _ _ _ _ us hl => match us, hl with | [_, _, _], _ => rfl)
  obtain ⟨p, r, rfl, ⟨h1, h2⟩, rfl⟩ := hR
  show WS _ _ [.dat (I p), .dat (TI r), .dat (I r.length)] _ _
  exact w_one (w_ret (e_call (d_are_between T) hr ⟨r, 0, p - 1, rfl, ⟨h1, fun x hx => by have := h2 x hx; omega⟩, rfl⟩ (a_cons (v 1 rfl) (a_cons (v 2 rfl) (a_cons c_int (a_cons (sub (v 0 rfl) c_int) a_nil))))) rfl)
def R_roomy_points (ds : List D) (d : D) : Prop := ∃ (p : Int) (m : Nat), ds = [I p, I m] ∧ (Pk p ∧ m ≤ 100) ∧ d = LI (roomyB p m)
theorem d_roomy_points (T : Txt K mg) : Def P w K mg base CX0 "roomy_points" 2 P_roomy_points (SpP K R_roomy_points) := by
  obtain ⟨hm, fd, F⟩ := T.f_roomy_points
  refine mk_def hm F (pure_ok F sc_roomy_points (fun ds d ⟨i, _, h, _⟩ => by rw [h]; rfl) fun cdv A outer s H E ds d hr hR => ?_) (fun _ _ _ _ _ _ us hl => match us, hl with | [_, _], _ => rfl)
  obtain ⟨p, m, rfl, ⟨hp, hmm⟩, rfl⟩ := hR
  show WS _ _ [.dat (I p), .dat (I m), .un, .un, .un, .un] _ _
  have nd := sc_roomy_points.nd
  have hp1 := hp.1
  have hp2 := hp.2
  refine w_cons (w_set 2 (d := LI (powersB p m)) ?_ ?_ (.inl rfl) nd)
  · refine (lcn (own := [("number", 3)]) (List.range (p - 1).toNat) (fun k => I (1 + (k : Int))) (fun k => [.dat (I p), .dat (I m), .un, .dat (I (1 + (k : Int))), .un, .un]) (fun (k : Nat) => I (powB p (1 + (k : Int)) m)) rfl nd (blkOk_by (N := N_roomy_points) (sc := defScope s_roomy_points) (by decide +kernel)) (by rw [List.length_range]; omega)
      (i_rng2 T.n_range (by omega) c_int (v 0 rfl)).o rfl (fun _ _ _ _ _ => dg_n (j := 3) nd) (by decide) (fun a _ => by rfl) (fun k hk _ _ _ _ _ => ?_)).e.e.is (by simp [powersB])
    have hk' := List.mem_range.mp hk
    exact e_call (d_power_by T) hr ⟨p, 1 + (k : Int), (m : Int), rfl, ⟨by omega, by omega, by omega, by omega, by omega, by omega⟩, by simp⟩ (a_cons (v 0 rfl) (a_cons (v 3 rfl) (a_cons (v 1 rfl) a_nil)))
  have hpl : (powersB p m).length ≤ 1000 := by simp [powersB]; omega
  unfold roomyB
  generalize powersB p m = pw at *
  show WS _ _ [.dat (I p), .dat (I m), .dat (LI pw), .un, .un, .un] _ _
  refine w_one (w_ret (DL.e (Lc.is (lc1 (own := [("at", 4), ("power", 5)]) pw.zipIdx (fun q => .tuple [I q.2, I q.1]) (fun q => [.dat (I p), .dat (I m), .dat (LI pw), .un, .dat (I q.2), .dat (I q.1)]) (fun q => !decide (q.1 ∈ pw.take q.2)) (fun q => I ((q.2 : Int) + 1)) rfl nd (blkOk_by (N := N_roomy_points) (sc := defScope s_roomy_points) (by decide +kernel)) (by rw [List.length_zipIdx]; omega)
    ((i_enumL T.n_enumerate (v 2 rfl)).is (enumD_map _ pw)).o (fun _ _ _ _ _ => dg_t (n := 2) rfl (dgs_cons (j := 4) nd (dgs_cons (j := 5) nd dgs_nil))) (by decide) (fun q _ => ⟨[I q.2, I q.1], rfl, rfl, rfl⟩) (fun q _ _ _ _ _ _ => ts_one (t_nin (v 5 rfl) ((l_slL (v 2 rfl) o_none (o_some (v 4 rfl))).e.is (by rw [cut_map, cut_to])))) (fun q _ _ _ _ _ _ _ => add (v 4 rfl) c_int)) rfl).e) ?_)
  show PyData.list _ = PyData.list _
  rw [List.map_map]
  rfl
def R_are_counts (ds : List D) (d : D) : Prop := ∃ (c : Pl), ds = [.str c.way, I c.n, I c.k, I c.d] ∧ c.Ok ∧ d = .bool true
theorem d_are_counts (T : Txt K mg) : Def P w K mg base CX0 "are_counts" 3 P_are_counts (SpP K R_are_counts) := by
  obtain ⟨hm, fd, F⟩ := T.f_are_counts
  refine mk_def hm F (pure_ok F sc_are_counts (fun ds d ⟨i, h, _⟩ => by rw [h]; rfl) fun cdv A outer s H E ds d hr hR => ?_) (fun _ _ _ _ _ _ us hl => match us, hl with | [_, _, _, _], _ => rfl)
  obtain ⟨c, rfl, hc, rfl⟩ := hR
  show WS _ _ [.dat (.str c.way), .dat (I c.n), .dat (I c.k), .dat (I c.d)] _ _
  have hk := hc.k
  refine w_cons (w_if ((t_eqs (v 0 rfl) (g_str (by rfl) T.n_LETTERS)).is (way_ne c)) (fun h => ?_) (fun h => w_nil ?_))
  · have q : c.rm = false := by simpa using h
    have := hc.lt q
    exact w_one (w_ret (DE.is (e_and (p := true) (q := true) ((t_btw T hr (v 2 rfl) c_int (sub (v 1 rfl) c_int)).is (by simp; omega)) fun _ => e_one ((t_btw T hr (v 3 rfl) (v 2 rfl) (sub (v 1 rfl) c_int)).is (by simp; omega))) rfl) rfl)
  · have q : c.rm = true := by simpa using h
    have := hc.ro q
    exact w_one (w_ret (DE.is (e_and (p := true) (q := true) ((t_btw T hr (v 2 rfl) c_int (v 1 rfl)).is (by simp; omega)) fun _ => DE.is (e_and (p := true) (q := true) ((t_btw T hr (v 3 rfl) c_int (sub (v 1 rfl) c_int)).is (by simp; omega)) fun _ => e_one ((e_eqi (v 3 rfl) (sub (mul (cm_l (by omega)) c_int (v 2 rfl)) c_int)).is (by simp; omega))) rfl) rfl) rfl)
theorem way_in (c : Pl) : (("letters" : Str) == c.way || ("room" : Str) == c.way) = true := by
  unfold Pl.way
  cases c.rm <;> decide
def R_is_scheme_by (ds : List D) (d : D) : Prop := ∃ (c : Pl), ds = [plD c] ∧ c.Ok ∧ d = .bool true
theorem d_is_scheme_by (T : Txt K mg) : Def P w K mg base CX0 "is_scheme_by" 4 P_is_scheme_by (SpP K R_is_scheme_by) := by
  obtain ⟨hm, fd, F⟩ := T.f_is_scheme_by
  refine mk_def hm F (pure_ok F sc_is_scheme_by (fun ds d ⟨i, h, _⟩ => by rw [h]; rfl) fun cdv A outer s H E ds d hr hR => ?_) (fun _ _ _ _ _ _ us hl => match us, hl with | [_], _ => rfl)
  obtain ⟨c, rfl, hc, rfl⟩ := hR
  show WS _ _ [.dat (plD c), .un, .un, .un, .un, .un] _ _
  have nd := sc_is_scheme_by.nd
  have hn := hc.n
  have hk := hc.k
  have hpk := pr_pk hc.pr
  refine w_cons (w_if (k := false) (PW.pt (DW.is (w_or (p := false) (q := false) (t_not (p := true) (t_val (e_isi (T := "tuple") (d := plD c) rfl (by decide +kernel) T.n_isinstance T.n_tuple (by decide +kernel) (v 0 rfl)))) fun _ => DW.is (w_or (p := false) (q := false) ((t_nei (e_lenT T.n_len (v 0 rfl)) c_int).is rfl) fun _ =>
    w_or1 (t_not (p := true) (t_val (e_call (d_is_prime_by T) hr ⟨c.p, rfl, hc.pr, rfl⟩ (a_cons (e_ixT (i := 0) rfl (v 0 rfl) c_int) a_nil))))) rfl) rfl)) (fun h => by cases h) (fun _ => w_nil ?_))
  refine w_cons (w_unp (js := [5, 4, 3, 2, 1]) (v 0 rfl) (dg_t rfl (dgs_cons (j := 1) nd (dgs_cons (j := 2) nd (dgs_cons (j := 3) nd (dgs_cons (j := 4) nd (dgs_cons (j := 5) nd dgs_nil)))))) ⟨_, rfl, rfl, rfl⟩ ?_ (.inl rfl))
  show WS _ _ [.dat (plD c), .dat (I c.p), .dat (.str c.way), .dat (I c.n), .dat (I c.k), .dat (I c.d)] _ _
  refine w_cons (w_if (k := false) (PW.pt (DW.is (w_or (p := false) (q := false) (t_not (p := true) (t_val (e_isi (T := "str") (d := .str c.way) rfl (by decide +kernel) T.n_isinstance T.n_str (by decide +kernel) (v 2 rfl)))) fun _ => DW.is (w_or (p := false) (q := false) ((t_nin2 (v 2 rfl) (e_tup (a_cons (g_str (by rfl) T.n_LETTERS) (a_cons (g_str (by rfl) T.n_ROOM) a_nil)) (by simp))).is (by rw [way_in]; rfl)) fun _ =>
    w_or1 (t_not (p := true) (t_val ((t_btw T (hr.mono (by decide)) (v 3 rfl) c_int (g_int (by rfl) T.n_MOST_SHELVES)).is (by simp; omega))))) rfl) rfl)) (fun h => by cases h) (fun _ => w_nil ?_))
  refine w_cons (w_if (k := false) (t_not (p := true) (t_val (e_call (d_are_counts T) hr ⟨c, rfl, hc, rfl⟩ (a_cons (v 2 rfl) (a_cons (v 3 rfl) (a_cons (v 4 rfl) (a_cons (v 5 rfl) a_nil))))))) (fun h => by cases h) (fun _ => w_nil ?_))
  refine w_one (w_ret (DE.is (e_or (p := !c.rm) (q := true) ((e_eqs (v 2 rfl) (g_str (by rfl) T.n_LETTERS)).is (by rw [way_ne])) fun h => e_one ((e_ge (e_lenL T.n_len (e_call (d_roomy_points T) (hr.mono (by decide)) ⟨c.p, c.k - 1, rfl, ⟨hpk, by omega⟩, rfl⟩ (a_cons (v 1 rfl) (a_cons ((sub (v 4 rfl) c_int).is ?_) a_nil)))) (v 3 rfl)).is ?_)) (by rw [Bool.or_true])) rfl)
  · show PyData.int _ = PyData.int _
    congr 1
    omega
  · have := (hc.ro (by simpa using h)).2.2.2.2
    simp
    omega
def R_check_scheme (ds : List D) (d : D) : Prop := ∃ (c : Pl), ds = [plD c] ∧ c.Ok ∧ d = .none
theorem d_check_scheme (T : Txt K mg) : Def P w K mg base CX0 "check_scheme" 5 P_check_scheme (SpP K R_check_scheme) := by
  obtain ⟨hm, fd, F⟩ := T.f_check_scheme
  refine mk_def hm F (pure_ok F sc_check_scheme (fun ds d ⟨i, h, _⟩ => by rw [h]; rfl) fun cdv A outer s H E ds d hr hR => ?_) (fun _ _ _ _ _ _ us hl => match us, hl with | [_], _ => rfl)
  obtain ⟨c, rfl, hc, rfl⟩ := hR
  show WS _ _ [.dat (plD c)] _ _
  exact w_one (w_if (k := false) (t_not (p := true) (t_val (e_call (d_is_scheme_by T) hr ⟨c, rfl, hc, rfl⟩ (a_cons (v 0 rfl) a_nil)))) (fun h => by cases h) (fun _ => w_nil rfl))
def R_is_lettered (ds : List D) (d : D) : Prop := ∃ (c : Pl), ds = [plD c] ∧ d = .bool !c.rm
theorem d_is_lettered (T : Txt K mg) : Def P w K mg base CX0 "is_lettered" 1 P_is_lettered (SpP K R_is_lettered) := by
  obtain ⟨hm, fd, F⟩ := T.f_is_lettered
  refine mk_def hm F (pure_ok F sc_is_lettered (fun ds d ⟨i, h, _⟩ => by rw [h]; rfl) fun cdv A outer s H E ds d hr hR => ?_) (fun _ _ _ _ _ _ us hl => match us, hl with | [_], _ => rfl)
  obtain ⟨c, rfl, rfl⟩ := hR
  show WS _ _ [.dat (plD c)] _ _
  exact w_one (w_ret (e_eqs (e_ixT (i := 1) rfl (v 0 rfl) c_int) (g_str (by rfl) T.n_LETTERS)) (by show PyData.bool _ = PyData.bool _; rw [way_ne]))
theorem t_let {X : Cx} {ρ : En} {a : Expr} {c : Pl} {p pos : Pos} (T : Txt X.K X.mg) (hr : Room 1 X.A) (ha : DE X ρ a (plD c)) (hg : Gl X "is_lettered" := by rfl) (h1 : starEach [a] X.env = (false, eval a X.env) :: starEach [] X.env := by rfl) : DE X ρ (.Call (.Name "is_lettered" p) [a] [] pos) (.bool !c.rm) :=
  e_call (d_is_lettered T) hr ⟨c, rfl, rfl⟩ (a_cons ha a_nil h1) hg (by decide) h1
def R_points_by (ds : List D) (d : D) : Prop := ∃ (c : Pl), ds = [plD c] ∧ c.Ok ∧ d = TI (pts c)
theorem d_points_by (T : Txt K mg) : Def P w K mg base CX0 "points_by" 3 P_points_by (SpP K R_points_by) := by
  obtain ⟨hm, fd, F⟩ := T.f_points_by
  refine mk_def hm F (pure_ok F sc_points_by (fun ds d ⟨i, h, _⟩ => by rw [h]; rfl) fun cdv A outer s H E ds d hr hR => ?_) (fun _ _ _ _ _ _ us hl => match us, hl with | [_], _ => rfl)
  obtain ⟨c, rfl, hc, rfl⟩ := hR
  show WS _ _ [.dat (plD c), .un, .un, .un, .un] _ _
  have nd := sc_points_by.nd
  have hn := hc.n
  have hk := hc.k
  refine w_cons (w_unp (js := [2, 4, 3, 2, 1]) (v 0 rfl) (dg_t rfl (dgs_cons (j := 1) nd (dgs_cons (j := 2) nd (dgs_cons (j := 3) nd (dgs_cons (j := 4) nd (dgs_cons (j := 2) nd dgs_nil)))))) ⟨_, rfl, rfl, rfl⟩ ?_ (.inl rfl))
  show WS _ _ [.dat (plD c), .dat (I c.p), .dat (I c.d), .dat (I c.n), .dat (I c.k)] _ _
  refine w_cons (w_if (t_val (t_let T (hr.mono (by decide)) (v 0 rfl))) (fun h => w_one (w_ret (e_tupRg2 rfl T.n_tuple T.n_range (by omega) c_int (add (v 3 rfl) c_int)) ?_)) (fun h => w_nil (w_one (w_ret (e_tupL T.n_tuple (DL.e (l_slL (e_call (d_roomy_points T) hr ⟨c.p, c.k - 1, rfl, ⟨pr_pk hc.pr, by omega⟩, rfl⟩ (a_cons (v 1 rfl) (a_cons ((sub (v 4 rfl) c_int).is ?_) a_nil))) o_none (o_some (v 3 rfl))))) ?_))))
  · have q : c.rm = false := by simpa using h
    unfold pts
    rw [q]
    show PyData.tuple _ = PyData.tuple _
    rw [show ((c.n : Int) + 1 - 1).toNat = c.n by omega]
    simp
  · show PyData.int _ = PyData.int _
    congr 1
    omega
  · have q : c.rm = true := by simpa using h
    unfold pts
    rw [q]
    show PyData.tuple _ = PyData.tuple _
    rw [cut_to]
    simp
def R_room_by (ds : List D) (d : D) : Prop := ∃ (c : Pl), ds = [plD c] ∧ c.Ok ∧ d = I (rmB c)
theorem d_room_by (T : Txt K mg) : Def P w K mg base CX0 "room_by" 2 P_room_by (SpP K R_room_by) := by
  obtain ⟨hm, fd, F⟩ := T.f_room_by
  refine mk_def hm F (pure_ok F sc_room_by (fun ds d ⟨i, h, _⟩ => by rw [h]; rfl) fun cdv A outer s H E ds d hr hR => ?_) (fun _ _ _ _ _ _ us hl => match us, hl with | [_], _ => rfl)
  obtain ⟨c, rfl, hc, rfl⟩ := hR
  show WS _ _ [.dat (plD c)] _ _
  have hk := hc.k
  refine w_one (w_ret (e_if (t_val (t_let T hr (v 0 rfl))) (fun h => (e_ixT (i := 4) rfl (v 0 rfl) c_int).is ?_) (fun h => (sub (e_ixT (i := 3) rfl (v 0 rfl) c_int) c_int).is ?_)) rfl)
  · have q : c.rm = false := by simpa using h
    unfold rmB
    rw [q]
    rfl
  · have q : c.rm = true := by simpa using h
    unfold rmB
    rw [q]
    show PyData.int _ = PyData.int _
    congr 1
    simp
    omega
theorem t_room {X : Cx} {ρ : En} {a : Expr} {c : Pl} {p pos : Pos} (T : Txt X.K X.mg) (hr : Room 2 X.A) (hc : c.Ok) (ha : DE X ρ a (plD c)) (hg : Gl X "room_by" := by rfl) (h1 : starEach [a] X.env = (false, eval a X.env) :: starEach [] X.env := by rfl) : DE X ρ (.Call (.Name "room_by" p) [a] [] pos) (I (rmB c)) :=
  e_call (d_room_by T) hr ⟨c, rfl, hc, rfl⟩ (a_cons ha a_nil h1) hg (by decide) h1
def R_size_by (ds : List D) (d : D) : Prop := ∃ (c : Pl), ds = [plD c] ∧ c.Ok ∧ d = I (sizeB c)
theorem d_size_by (T : Txt K mg) : Def P w K mg base CX0 "size_by" 2 P_size_by (SpP K R_size_by) := by
  obtain ⟨hm, fd, F⟩ := T.f_size_by
  refine mk_def hm F (pure_ok F sc_size_by (fun ds d ⟨i, h, _⟩ => by rw [h]; rfl) fun cdv A outer s H E ds d hr hR => ?_) (fun _ _ _ _ _ _ us hl => match us, hl with | [_], _ => rfl)
  obtain ⟨c, rfl, hc, rfl⟩ := hR
  show WS _ _ [.dat (plD c), .un, .un] _ _
  have nd := sc_size_by.nd
  have hk := hc.k
  have hd := hc.sm
  refine w_cons (w_par 1 2 (x_e (e_ixT (i := 3) rfl (v 0 rfl) c_int) ⟨nofun, x_e (e_ixT (i := 4) rfl (v 0 rfl) c_int) ⟨nofun, ?_⟩⟩) (.inl rfl) rfl nd)
  show WS _ _ [.dat (plD c), .dat (I c.k), .dat (I c.d)] _ _
  refine w_cons (w_if (t_val (t_let T hr (v 0 rfl))) (fun h => w_one (w_ret (add (fdiv ⟨by decide, by decide⟩ (mul (cm_l (by omega)) (v 1 rfl) (add (v 1 rfl) c_int)) c_int) (mul (cm_l (by omega)) (v 1 rfl) (sub (v 2 rfl) (v 1 rfl)))) ?_)) (fun h => w_nil (w_one (w_ret (mul (cm_l (by omega)) (v 1 rfl) (sub (v 1 rfl) c_int)) ?_))))
  · have q : c.rm = false := by simpa using h
    rcases hc.shp with ⟨q', h'⟩ | ⟨q', h'⟩
    · unfold sizeB
      rw [q]
      rcases h' with h' | h' | h' | h' | h' | h' <;> rw [h'.1, h'.2] <;> rfl
    · rw [q] at q'
      cases q'
  · have q : c.rm = true := by simpa using h
    rcases hc.shp with ⟨q', h'⟩ | ⟨q', h'⟩
    · rw [q] at q'
      cases q'
    · unfold sizeB
      rw [q]
      rcases h' with h' | h' <;> rw [h'.1] <;> rfl
def R_line_by (ds : List D) (d : D) : Prop := ∃ (c : Pl) (s : Nat), ds = [plD c, I s] ∧ (c.Ok ∧ s < c.n) ∧ d = TI (lineB c s)
theorem d_line_by (T : Txt K mg) : Def P w K mg base CX0 "line_by" 4 P_line_by (SpP K R_line_by) := by
  obtain ⟨hm, fd, F⟩ := T.f_line_by
  refine mk_def hm F (pure_ok F sc_line_by (fun ds d ⟨i, _, h, _⟩ => by rw [h]; rfl) fun cdv A outer s H E ds d hr hR => ?_) (fun _ _ _ _ _ _ us hl => match us, hl with | [_, _], _ => rfl)
  obtain ⟨c, s, rfl, ⟨hc, hs⟩, rfl⟩ := hR
  show WS _ _ [.dat (plD c), .dat (I s)] _ _
  have hg := pts_get hc hs
  have hb := pr_bd hc.pr
  have hd := hc.sm
  exact w_one (w_ret (e_call (d_powers_by T) (hr.mono (by decide)) ⟨c.p, (pts c).getD s 0, c.d, rfl, ⟨pr_pk hc.pr, by omega, by omega, by omega⟩, rfl⟩ (a_cons (e_ixT (i := 0) rfl (v 0 rfl) c_int) (a_cons (e_ixT (at_map hg.1) (e_call (d_points_by T) hr ⟨c, rfl, hc, rfl⟩ (a_cons (v 0 rfl) a_nil)) (v 1 rfl)) (a_cons (e_ixT (i := 4) rfl (v 0 rfl) c_int) a_nil)))) rfl)
def shortB (c : Pl) (s : Nat) : List Int := (lineB c s).take (rmB c)
def R_short_by (ds : List D) (d : D) : Prop := ∃ (c : Pl) (s : Nat), ds = [plD c, I s] ∧ (c.Ok ∧ s < c.n) ∧ d = TI (shortB c s)
theorem d_short_by (T : Txt K mg) : Def P w K mg base CX0 "short_by" 5 P_short_by (SpP K R_short_by) := by
  obtain ⟨hm, fd, F⟩ := T.f_short_by
  refine mk_def hm F (pure_ok F sc_short_by (fun ds d ⟨i, _, h, _⟩ => by rw [h]; rfl) fun cdv A outer s H E ds d hr hR => ?_) (fun _ _ _ _ _ _ us hl => match us, hl with | [_, _], _ => rfl)
  obtain ⟨c, s, rfl, ⟨hc, hs⟩, rfl⟩ := hR
  show WS _ _ [.dat (plD c), .dat (I s)] _ _
  exact w_one (w_ret (e_slT (e_call (d_line_by T) hr ⟨c, s, rfl, ⟨hc, hs⟩, rfl⟩ (a_cons (v 0 rfl) (a_cons (v 1 rfl) a_nil))) o_none (o_some (t_room T (hr.mono (by decide)) hc (v 0 rfl)))) (by show PyData.tuple _ = PyData.tuple _; rw [cut_map, cut_to]; rfl))
def lastB (c : Pl) (s : Nat) : Int := powB c.p ((pts c).getD s 0) (c.k - 1)
def R_last_power (ds : List D) (d : D) : Prop := ∃ (c : Pl) (s : Nat), ds = [plD c, I s] ∧ (c.Ok ∧ s < c.n) ∧ d = I (lastB c s)
theorem d_last_power (T : Txt K mg) : Def P w K mg base CX0 "last_power" 4 P_last_power (SpP K R_last_power) := by
  obtain ⟨hm, fd, F⟩ := T.f_last_power
  refine mk_def hm F (pure_ok F sc_last_power (fun ds d ⟨i, _, h, _⟩ => by rw [h]; rfl) fun cdv A outer s H E ds d hr hR => ?_) (fun _ _ _ _ _ _ us hl => match us, hl with | [_, _], _ => rfl)
  obtain ⟨c, s, rfl, ⟨hc, hs⟩, rfl⟩ := hR
  show WS _ _ [.dat (plD c), .dat (I s)] _ _
  have hg := pts_get hc hs
  have hb := pr_bd hc.pr
  have hk := hc.k
  exact w_one (w_ret (e_call (d_power_by T) (hr.mono (by decide)) ⟨c.p, (pts c).getD s 0, (c.k : Int) - 1, rfl, ⟨by omega, by omega, by omega, by omega, by omega, by omega⟩, rfl⟩ (a_cons (e_ixT (i := 0) rfl (v 0 rfl) c_int) (a_cons (e_ixT (at_map hg.1) (e_call (d_points_by T) hr ⟨c, rfl, hc, rfl⟩ (a_cons (v 0 rfl) a_nil)) (v 1 rfl)) (a_cons (sub (e_ixT (i := 3) rfl (v 0 rfl) c_int) c_int) a_nil)))) (by show PyData.int _ = PyData.int _; unfold lastB; congr 2; omega))
end
end Lm
set_option maxRecDepth 100000
set_option maxHeartbeats 4000000
/-! codework, codechecks. -/
namespace Lm
open PySem PySem.Spec PyProof.Rows L2 Evl
theorem neg {X : Cx} {ρ : En} {a : Expr} {i : Int} {pos : Pos} (ha : DE X ρ a (I i)) : DE X ρ (.UnaryOp .USub a pos) (I (-i)) :=
  weakE (pe_un un_neg ha) fun σ H Q ⟨F, S, q⟩ => ⟨F, S, fun v F' H' g hv => ⟨i, dp_int hv, q _ F' H' g (.int _)⟩⟩
theorem w_exp {X : Cx} {P : Option Addr} {ρ : En} {p : Po} {e : Expr} {d : D} {pos : Pos} (he : DE X ρ e d) (h : p.nx ρ) (hs : swapsWith e none pos.line X.env = pure false := by rfl) : W1 X P ρ (.Expr e pos) p := fun c hc =>
  weakS (ps_expr he hs) fun E σ H ⟨F, a, W⟩ => ⟨F, a.s, fun v F' H' g hv => W.nx σ F' H' ρ h (a.mono g)⟩
def rowB (width first r : Nat) : List (List (Nat × Nat)) := [(first + r, r)] :: (List.range (width - (r + 1))).map fun j => [(first + r, r + 1 + j), (first + (r + 1 + j), r)]
theorem mirB_succ (i width first : Nat) : mirB (i + 1) width first = mirB i width first ++ rowB width first i := by
  unfold mirB
  rw [List.range_succ, List.flatMap_append, List.flatMap_cons, List.flatMap_nil, List.append_nil]
  rfl
def lotSt (l : List Nat) : Nat := match l.getLast? with | none => 0 | some x => x + 1
def lotsB (many : Nat) : Nat → List (List Nat)
  | 0 => [[]]
  | s + 1 => (lotsB many s).flatMap fun l => (List.range (many - lotSt l)).map fun j => l ++ [lotSt l + j]
def lotD (l : List Nat) : D := .tuple (l.map fun (k : Nat) => I (k : Int))
theorem lots_few : ∀ many < 8, ∀ s < 4, (lotsB many s).length ≤ 1000 := by decide +kernel
theorem mir_few : ∀ r < 5, ∀ i ≤ r, ∀ w < 5, ∀ f < 5, (mirB i w f).length ≤ 1000 := by decide +kernel
theorem row_few {w f r : Nat} (h : w ≤ 1000) : (rowB w f r).length ≤ 1001 := by
  unfold rowB
  simp
  omega
section
variable {P : Program} {w : World} {K : PySem.W.Frag} {mg : Str → Option Value} {base : Heap}
def R_mirrored_spots (ds : List D) (d : D) : Prop := ∃ (rows width first : Nat), ds = [I rows, I width, I first] ∧ (rows < 5 ∧ width < 5 ∧ first < 5) ∧ d = .list ((mirB rows width first).map sptD)
theorem d_mirrored_spots (T : Txt K mg) : Def P w K mg base CX0 "mirrored_spots" 1 P_mirrored_spots (SpP K R_mirrored_spots) := by
  obtain ⟨hm, fd, F⟩ := T.f_mirrored_spots
  refine mk_def hm F (pure_ok F sc_mirrored_spots (fun ds d ⟨i, _, _, h, _⟩ => by rw [h]; rfl) fun cdv A outer s H E ds d hr hR => ?_) (fun _ _ _ _ _ _ us hl => match us, hl with | [_, _, _], _ => rfl)
  obtain ⟨rows, width, first, rfl, ⟨h1, h2, h3⟩, rfl⟩ := hR
  show WS _ _ [.dat (I rows), .dat (I width), .dat (I first), .un, .un, .un] _ _
  have nd := sc_mirrored_spots.nd
  refine w_cons (w_setO 3 (l_lst a_nil (by decide)) ?_ (.inl rfl) nd)
  refine w_cons (w_for (fun i ρ => ∃ s4, ρ = [.dat (I rows), .dat (I width), .dat (I first), .own ((mirB i width first).map sptD), s4, .un]) (i_rng1 T.n_range (by omega) (v 0 rfl)) (dg_n (j := 4) nd) (.inl rfl) rfl ⟨_, rfl⟩ ?_ ?_)
  · rintro i d ρ' hd ⟨s4, rfl⟩
    have hi : i < rows := by
      have := (List.getElem?_eq_some_iff.mp hd).1
      simpa using this
    have hdi : d = I (i : Int) := by
      rw [List.getElem?_map, List.getElem?_range (by simpa using hi)] at hd
      exact (Option.some.inj hd).symm
    subst hdi
    have hf := mir_few rows h1 i (by omega) width h2 first h3
    refine ⟨_, rfl, ?_⟩
    show WS _ _ [.dat (I rows), .dat (I width), .dat (I first), .own ((mirB i width first).map sptD), .dat (I i), .un] _ _
    refine w_cons (w_app 3 rfl (e_tup (a_cons (e_tup (a_cons (add (v 2 rfl) (v 4 rfl)) (a_cons (v 4 rfl) a_nil)) (by simp)) a_nil) (by simp)) (by rw [List.length_map]; omega) ?_)
    refine w_one (w_ext 3 rfl (es := ((List.range (width - (i + 1))).map fun j => [(first + i, i + 1 + j), (first + (i + 1 + j), i)]).map sptD) ?_ (by simp; omega) ?_)
    · refine (lcn (own := [("place", 5)]) (List.range (width - (i + 1))) (fun j => I ((i : Int) + 1 + (j : Int))) (fun j => [.dat (I rows), .dat (I width), .dat (I first), .own ((mirB i width first).map sptD ++ [.tuple [.tuple [I ((first : Int) + (i : Int)), I i]]]), .dat (I i), .dat (I ((i : Int) + 1 + (j : Int)))]) (fun j => sptD [(first + i, i + 1 + j), (first + (i + 1 + j), i)]) rfl nd (blkOk_by (N := N_mirrored_spots) (sc := defScope s_mirrored_spots) (by decide +kernel)) (by simp; omega)
        (i_rng2 T.n_range (by omega) (add (v 4 rfl) c_int) (v 1 rfl)).o (by rw [show ((width : Int) - ((i : Int) + 1)).toNat = width - (i + 1) by omega]) (fun _ _ _ _ _ => dg_n (j := 5) nd) (by decide) (fun a _ => by rfl) (fun j hj _ _ _ _ _ => ?_)).e.is (by simp)
      refine (e_tup (a_cons (e_tup (a_cons (add (v 2 rfl) (v 4 rfl)) (a_cons (v 5 rfl) a_nil)) (by simp)) (a_cons (e_tup (a_cons (add (v 2 rfl) (v 5 rfl)) (a_cons (v 4 rfl) a_nil)) (by simp)) a_nil)) (by simp)).is ?_
      simp [sptD]
    · refine ⟨.dat (I i), ?_⟩
      rw [mirB_succ]
      show ([_, _, _, Slot.own (_ ++ _ ++ _), _, _] : En) = _
      rw [List.map_append, List.append_assoc]
      unfold rowB
      rw [List.map_cons]
      rfl
  · rintro ρ' ⟨s4, rfl⟩
    rw [List.length_map, List.length_range, Int.toNat_natCast]
    exact w_frz 3 rfl (.inl rfl) (w_one (w_ret (v 3 rfl) rfl))
def R_spots_by (ds : List D) (d : D) : Prop := ∃ (c : Pl), ds = [plD c] ∧ c.Ok ∧ d = .list ((spB c).map sptD)
theorem sp_few {c : Pl} (h : c.Ok) : (spB c).length ≤ 20 ∧ ∀ e ∈ spB c, e.length ≤ 2 ∧ ∀ q ∈ e, q.1 < c.d ∧ q.2 < rmB c := by
  unfold spB rmB
  rcases h.shp with ⟨q, h⟩ | ⟨q, h⟩
  · rw [q]
    rcases h with h | h | h | h | h | h <;> rw [h.1, h.2] <;> decide
  · rw [q]
    rcases h with h | h <;> rw [h.1, h.2] <;> decide
theorem d_spots_by (T : Txt K mg) : Def P w K mg base CX0 "spots_by" 3 P_spots_by (SpP K R_spots_by) := by
  obtain ⟨hm, fd, F⟩ := T.f_spots_by
  refine mk_def hm F (pure_ok F sc_spots_by (fun ds d ⟨i, h, _⟩ => by rw [h]; rfl) fun cdv A outer s H E ds d hr hR => ?_) (fun _ _ _ _ _ _ us hl => match us, hl with | [_], _ => rfl)
  obtain ⟨c, rfl, hc, rfl⟩ := hR
  show WS _ _ [.dat (plD c), .un] _ _
  have nd := sc_spots_by.nd
  have hk := hc.k
  have hd := hc.sm
  have hf := (sp_few hc).1
  have hr1 := hr.mono (show 1 ≤ 2 by decide)
  have z0 : (I 0 : D) = I ((0 : Nat) : Int) := rfl
  refine w_cons (w_set 1 (t_room T hr hc (v 0 rfl)) ?_ (.inl rfl) nd)
  show WS _ _ [.dat (plD c), .dat (I (rmB c))] _ _
  refine w_cons (w_if (t_val (t_let T hr1 (v 0 rfl))) (fun h => w_one (w_ret (e_call (d_mirrored_spots T) hr1 ⟨c.k, rmB c, 0, rfl, ⟨by omega, by omega, by omega⟩, rfl⟩ (a_cons (e_ixT (i := 3) rfl (v 0 rfl) c_int) (a_cons (v 1 rfl) (a_cons c_int a_nil)))) ?_)) (fun h => w_nil (w_one (w_ret (DL.e (l_cat ?_ (e_call (d_mirrored_spots T) hr1 ⟨rmB c, rmB c, 0, rfl, ⟨by omega, by omega, by omega⟩, rfl⟩ (a_cons (v 1 rfl) (a_cons (v 1 rfl) (a_cons c_int a_nil)))) (e_call (d_mirrored_spots T) hr1 ⟨rmB c, rmB c, rmB c, rfl, ⟨by omega, by omega, by omega⟩, rfl⟩ (a_cons (v 1 rfl) (a_cons (v 1 rfl) (a_cons (v 1 rfl) a_nil)))))) ?_))))
  · have q : c.rm = false := by simpa using h
    unfold spB
    rw [q]
    rfl
  · have q : c.rm = true := by simpa using h
    unfold spB at hf
    rw [q] at hf
    simpa using Nat.le_trans hf (by decide)
  · have q : c.rm = true := by simpa using h
    unfold spB
    rw [q]
    show PyData.list _ = PyData.list _
    simp
def R_form_at (ds : List D) (d : D) : Prop := ∃ (line : List Int) (sp : List (List (Nat × Nat))) (place : Nat), ds = [TI line, .list (sp.map sptD), I place] ∧ (sp.length ≤ 1000 ∧ ∀ e ∈ sp, e.length ≤ 1000 ∧ ∀ q ∈ e, q.1 < line.length) ∧ d = TI (formB line sp place)
theorem d_form_at (T : Txt K mg) : Def P w K mg base CX0 "form_at" 1 P_form_at (SpP K R_form_at) := by
  obtain ⟨hm, fd, F⟩ := T.f_form_at
  refine mk_def hm F (pure_ok F sc_form_at (fun ds d ⟨i, _, _, h, _⟩ => by rw [h]; rfl) fun cdv A outer s H E ds d hr hR => ?_) (fun _ _ _ _ _ _ us hl => match us, hl with | [_, _, _], _ => rfl)
  obtain ⟨line, sp, place, rfl, ⟨h1, h2⟩, rfl⟩ := hR
  show WS _ _ [.dat (TI line), .dat (.list (sp.map sptD)), .dat (I place), .un, .un, .un] _ _
  have nd := sc_form_at.nd
  refine w_one (w_ret (e_tupL T.n_tuple ?_) rfl)
  refine (lcn (own := [("each", 3)]) sp sptD (fun e => [.dat (TI line), .dat (.list (sp.map sptD)), .dat (I place), .dat (sptD e), .un, .un]) (fun e => I ((e.filter fun q => decide (q.2 = place)).map fun q => line.getD q.1 0).sum) rfl nd (blkOk_by (N := N_form_at) (sc := defScope s_form_at) (by decide +kernel)) (by omega)
    (i_lst (v 1 rfl)).o rfl (fun _ _ _ _ _ => dg_n (j := 3) nd) (by decide) (fun a _ => by rfl) (fun e he _ _ _ _ _ => ?_)).e.e.is (by simp [formB, TI])
  obtain ⟨h3, h4⟩ := h2 e he
  refine DE.is (e_sum (ns := (e.filter fun q => decide (q.2 = place)).map fun q => line.getD q.1 0) rfl T.n_sum ?_) rfl
  refine ((lc1 (own := [("row", 4), ("spot", 5)]) e (fun q => .tuple [I q.1, I q.2]) (fun q => [.dat (TI line), .dat (.list (sp.map sptD)), .dat (I place), .dat (sptD e), .dat (I q.1), .dat (I q.2)]) (fun q => decide (q.2 = place)) (fun q => I (line.getD q.1 0)) rfl nd (blkOk_by (N := N_form_at) (sc := relS _ (defScope s_form_at)) (by decide +kernel)) (by omega)
    (i_tup (v 3 rfl)).o (fun _ _ _ _ _ => dg_t (n := 2) rfl (dgs_cons (j := 4) nd (dgs_cons (j := 5) nd dgs_nil))) (by decide) (fun q _ => ⟨[I q.1, I q.2], rfl, rfl, rfl⟩) (fun q _ _ _ _ _ _ => ts_one ((t_eqi (v 5 rfl) (v 2 rfl)).is ?_)) (fun q hq _ _ _ _ _ _ => ?_)).e.e).is (by simp)
  · exact decide_eq_decide.mpr (by omega)
  · exact e_ixT (at_map (get_of (h4 q hq) 0)) (v 0 rfl) (v 4 rfl)
theorem line_len (c : Pl) (s : Nat) : (lineB c s).length = c.d := by simp [lineB, powsB]
theorem line_rw {c : Pl} (h : c.Ok) (s : Nat) : ∀ x ∈ lineB c s, 0 ≤ x ∧ x < c.p := fun x hx => by
  have hp := pr_bd h.pr
  obtain ⟨n, hn, rfl⟩ := List.mem_map.mp hx
  cases n with
  | zero =>
    show (0 : Int) ≤ 1 ∧ (1 : Int) < c.p
    omega
  | succ n => exact md_ok (pr_pk h.pr) _
def R_forms_by (ds : List D) (d : D) : Prop := ∃ (c : Pl) (s : Nat), ds = [plD c, I s] ∧ (c.Ok ∧ s < c.n) ∧ d = TR (formsB c s)
theorem d_forms_by (T : Txt K mg) : Def P w K mg base CX0 "forms_by" 5 P_forms_by (SpP K R_forms_by) := by
  obtain ⟨hm, fd, F⟩ := T.f_forms_by
  refine mk_def hm F (pure_ok F sc_forms_by (fun ds d ⟨i, _, h, _⟩ => by rw [h]; rfl) fun cdv A outer s H E ds d hr hR => ?_) (fun _ _ _ _ _ _ us hl => match us, hl with | [_, _], _ => rfl)
  obtain ⟨c, s, rfl, ⟨hc, hs⟩, rfl⟩ := hR
  show WS _ _ [.dat (plD c), .dat (I s), .un, .un, .un] _ _
  have nd := sc_forms_by.nd
  have hd := hc.sm
  have hf := sp_few hc
  refine w_cons (w_tup2 2 3 (x_e (e_call (d_line_by T) hr ⟨c, s, rfl, ⟨hc, hs⟩, rfl⟩ (a_cons (v 0 rfl) (a_cons (v 1 rfl) a_nil))) ⟨nofun, x_e (e_call (d_spots_by T) (hr.mono (by decide)) ⟨c, rfl, hc, rfl⟩ (a_cons (v 0 rfl) a_nil)) ⟨nofun, ?_⟩⟩) (.inl rfl) rfl nd)
  show WS _ _ [.dat (plD c), .dat (I s), .dat (TI (lineB c s)), .dat (.list ((spB c).map sptD)), .un] _ _
  refine w_one (w_ret (e_tupL T.n_tuple ?_) rfl)
  refine (lcn (own := [("place", 4)]) (List.range (rmB c)) (fun k => I (k : Int)) (fun k => [.dat (plD c), .dat (I s), .dat (TI (lineB c s)), .dat (.list ((spB c).map sptD)), .dat (I k)]) (fun k => TI (formB (lineB c s) (spB c) k)) rfl nd (blkOk_by (N := N_forms_by) (sc := defScope s_forms_by) (by decide +kernel)) (by simp; omega)
    (i_rng1 T.n_range (by omega) (t_room T (hr.mono (by decide)) hc (v 0 rfl))).o (by simp) (fun _ _ _ _ _ => dg_n (j := 4) nd) (by decide) (fun a _ => by rfl) (fun k hk _ _ _ _ _ => ?_)).e.e.is (by simp [formsB])
  exact e_call (d_form_at T) (hr.mono (by decide)) ⟨lineB c s, spB c, k, rfl, ⟨by omega, fun e he => ⟨by have := (hf.2 e he).1; omega, fun q hq => by rw [line_len]; exact ((hf.2 e he).2 q hq).1⟩⟩, rfl⟩ (a_cons (v 2 rfl) (a_cons (v 3 rfl) (a_cons (v 4 rfl) a_nil)))
theorem sum_bd {B : Int} (hB : 0 ≤ B) : ∀ l : List Int, (∀ x ∈ l, 0 ≤ x ∧ x ≤ B) → 0 ≤ l.sum ∧ l.sum ≤ B * l.length
  | [], _ => by simp
  | x :: l, h => by
    have h1 := h x List.mem_cons_self
    have h2 := sum_bd hB l fun y hy => h y (List.mem_cons_of_mem _ hy)
    rw [List.sum_cons, List.length_cons]
    have e : B * ((l.length + 1 : Nat) : Int) = B * l.length + B := by
      rw [Int.natCast_add, Int.mul_add]
      simp
    omega
theorem forms_sm {c : Pl} (h : c.Ok) (s : Nat) : ∀ a ∈ formsB c s, Sm a ∧ a.length ≤ 1000 := fun a ha => by
  obtain ⟨j, hj, rfl⟩ := List.mem_map.mp ha
  have hf := sp_few h
  have hp := pr_bd h.pr
  refine ⟨fun x hx => ?_, by unfold formB; rw [List.length_map]; omega⟩
  obtain ⟨e, he, rfl⟩ := List.mem_map.mp hx
  have hl : (e.filter fun q => decide (q.2 = j)).length ≤ 2 := Nat.le_trans (List.length_filter_le _ _) (hf.2 e he).1
  have := sum_bd (B := 97) (by decide) ((e.filter fun q => decide (q.2 = j)).map fun q => (lineB c s).getD q.1 0) fun y hy => by
    obtain ⟨q, hq, rfl⟩ := List.mem_map.mp hy
    have hq1 := ((hf.2 e he).2 q (List.mem_filter.mp hq).1).1
    have e1 : (lineB c s)[q.1]? = some ((lineB c s).getD q.1 0) := get_of (by rw [line_len]; exact hq1) 0
    have := line_rw h s _ (List.mem_of_getElem? e1)
    omega
  rw [List.length_map] at this
  omega
def R_piece_by (ds : List D) (d : D) : Prop := ∃ (c : Pl) (m : List Int) (s : Nat), ds = [plD c, TI m, I s] ∧ (c.Ok ∧ s < c.n) ∧ d = TI (pieceB c m s)
theorem d_piece_by (T : Txt K mg) : Def P w K mg base CX0 "piece_by" 6 P_piece_by (SpP K R_piece_by) := by
  obtain ⟨hm, fd, F⟩ := T.f_piece_by
  refine mk_def hm F (pure_ok F sc_piece_by (fun ds d ⟨i, _, _, h, _⟩ => by rw [h]; rfl) fun cdv A outer s H E ds d hr hR => ?_) (fun _ _ _ _ _ _ us hl => match us, hl with | [_, _, _], _ => rfl)
  obtain ⟨c, m, s, rfl, ⟨hc, hs⟩, rfl⟩ := hR
  show WS _ _ [.dat (plD c), .dat (TI m), .dat (I s)] _ _
  have hp := pr_bd hc.pr
  have hd := hc.sm
  exact w_one (w_ret (e_call (d_led T) (hr.mono (by decide)) ⟨c.p, formsB c s, m, TR (formsB c s), rfl, .inl rfl, ⟨by omega, by simp [formsB]; omega, forms_sm hc s⟩, rfl⟩ (a_cons (e_ixT (i := 0) rfl (v 0 rfl) c_int) (a_cons (e_call (d_forms_by T) hr ⟨c, s, rfl, ⟨hc, hs⟩, rfl⟩ (a_cons (v 0 rfl) (a_cons (v 2 rfl) a_nil))) (a_cons (v 1 rfl) a_nil)))) rfl)
def R_pieces_by (ds : List D) (d : D) : Prop := ∃ (c : Pl) (m : List Int), ds = [plD c, TI m] ∧ c.Ok ∧ d = TR (piecesB c m)
theorem d_pieces_by (T : Txt K mg) : Def P w K mg base CX0 "pieces_by" 7 P_pieces_by (SpP K R_pieces_by) := by
  obtain ⟨hm, fd, F⟩ := T.f_pieces_by
  refine mk_def hm F (pure_ok F sc_pieces_by (fun ds d ⟨i, _, h, _⟩ => by rw [h]; rfl) fun cdv A outer s H E ds d hr hR => ?_) (fun _ _ _ _ _ _ us hl => match us, hl with | [_, _], _ => rfl)
  obtain ⟨c, m, rfl, hc, rfl⟩ := hR
  show WS _ _ [.dat (plD c), .dat (TI m), .un] _ _
  have nd := sc_pieces_by.nd
  have hn := hc.n
  refine w_one (w_ret (e_tupL T.n_tuple ?_) rfl)
  refine (lcn (own := [("shelf", 2)]) (List.range c.n) (fun k => I (k : Int)) (fun k => [.dat (plD c), .dat (TI m), .dat (I k)]) (fun k => TI (pieceB c m k)) rfl nd (blkOk_by (N := N_pieces_by) (sc := defScope s_pieces_by) (by decide +kernel)) (by simp; omega)
    (i_rng1 T.n_range (by omega) (e_ixT (i := 2) rfl (v 0 rfl) c_int)).o (by simp) (fun _ _ _ _ _ => dg_n (j := 2) nd) (by decide) (fun a _ => by rfl) (fun k hk _ _ _ _ _ => ?_)).e.e.is (by simp [piecesB])
  exact e_call (d_piece_by T) hr ⟨c, m, k, rfl, ⟨hc, List.mem_range.mp hk⟩, rfl⟩ (a_cons (v 0 rfl) (a_cons (v 1 rfl) (a_cons (v 2 rfl) a_nil)))
/-! codechecks -/
def MsgOk (c : Pl) (m : List Int) : Prop := m.length = sizeB c ∧ Rw c.p m
theorem size_few {c : Pl} (h : c.Ok) : sizeB c ≤ 20 ∧ 1 ≤ sizeB c := by
  unfold sizeB
  rcases h.shp with ⟨q, h⟩ | ⟨q, h⟩
  · rw [q]
    rcases h with h | h | h | h | h | h <;> rw [h.1, h.2] <;> decide
  · rw [q]
    rcases h with h | h <;> rw [h.1, h.2] <;> decide
def R_check_message (ds : List D) (d : D) : Prop := ∃ (c : Pl) (m : List Int), ds = [plD c, TI m] ∧ (c.Ok ∧ MsgOk c m) ∧ d = .none
theorem d_check_message (T : Txt K mg) : Def P w K mg base CX0 "check_message" 3 P_check_message (SpP K R_check_message) := by
  obtain ⟨hm, fd, F⟩ := T.f_check_message
  refine mk_def hm F (pure_ok F sc_check_message (fun ds d ⟨i, _, h, _⟩ => by rw [h]; rfl) fun cdv A outer s H E ds d hr hR => ?_) (fun _ _ _ _ _ _ us hl => match us, hl with | [_, _], _ => rfl)
  obtain ⟨c, m, rfl, ⟨hc, hm1, hm2⟩, rfl⟩ := hR
  show WS _ _ [.dat (plD c), .dat (TI m), .un, .un] _ _
  have nd := sc_check_message.nd
  refine w_cons (w_if (k := false) (PW.pt (DW.is (w_or (p := false) (q := false) (t_not (p := true) (t_val (e_isi (T := "tuple") (d := TI m) rfl (by decide +kernel) T.n_isinstance T.n_tuple (by decide +kernel) (v 1 rfl)))) fun _ => w_or1 ((t_nei (e_lenT T.n_len (v 1 rfl)) (e_call (d_size_by T) hr ⟨c, rfl, hc, rfl⟩ (a_cons (v 0 rfl) a_nil))).is (by simp [hm1]))) rfl)) (fun h => by cases h) (fun _ => w_nil ?_))
  refine w_one (w_for (fun i ρ => ∃ s3 s4, ρ = [.dat (plD c), .dat (TI m), s3, s4]) (i_enumT T.n_enumerate (v 1 rfl)) (dg_t (n := 2) rfl (dgs_cons (j := 2) nd (dgs_cons (j := 3) nd dgs_nil))) (.inl rfl) rfl ⟨_, _, rfl⟩ ?_ ?_)
  · rintro i d ρ' hd ⟨s3, s4, rfl⟩
    obtain ⟨e, he, rfl⟩ := enumD_at hd
    rw [List.getElem?_map] at he
    cases hx : m[i]? with
    | none => rw [hx] at he; cases he
    | some x =>
      rw [hx] at he
      cases he
      have hxb := hm2 x (List.mem_of_getElem? hx)
      refine ⟨_, ⟨_, rfl, rfl, rfl⟩, ?_⟩
      show WS _ _ [.dat (plD c), .dat (TI m), .dat (I i), .dat (I x)] _ _
      exact w_one (w_if (k := false) (t_not (p := true) (t_val ((t_btw T hr (v 3 rfl) c_int (sub (e_ixT (i := 0) rfl (v 0 rfl) c_int) c_int)).is (by simp; omega)))) (fun h => by cases h) (fun _ => w_nil ⟨_, _, rfl⟩))
  · rintro ρ' ⟨s3, s4, rfl⟩
    rfl
def RowOk (c : Pl) (r : List Int) : Prop := r.length = rmB c ∧ Rw c.p r
def R_is_piece (ds : List D) (d : D) : Prop := ∃ (c : Pl) (r : List Int), ds = [plD c, TI r] ∧ (c.Ok ∧ RowOk c r) ∧ d = .bool true
theorem d_is_piece (T : Txt K mg) : Def P w K mg base CX0 "is_piece" 5 P_is_piece (SpP K R_is_piece) := by
  obtain ⟨hm, fd, F⟩ := T.f_is_piece
  refine mk_def hm F (pure_ok F sc_is_piece (fun ds d ⟨i, _, h, _⟩ => by rw [h]; rfl) fun cdv A outer s H E ds d hr hR => ?_) (fun _ _ _ _ _ _ us hl => match us, hl with | [_, _], _ => rfl)
  obtain ⟨c, r, rfl, ⟨hc, hr1, hr2⟩, rfl⟩ := hR
  show WS _ _ [.dat (plD c), .dat (TI r)] _ _
  have hd := hc.sm
  exact w_one (w_ret (e_call (d_is_row T) hr ⟨c.p, r, rfl, ⟨by omega, hr2⟩, rfl⟩ (a_cons (e_ixT (i := 0) rfl (v 0 rfl) c_int) (a_cons (v 1 rfl) (a_cons ((t_room T (hr.mono (by decide)) hc (v 0 rfl)).is (by rw [hr1])) a_nil)))) rfl)
def R_check_pieces (ds : List D) (d : D) : Prop := ∃ (c : Pl) (rs : List (List Int)), ds = [plD c, I rs.length, TR rs] ∧ (c.Ok ∧ ∀ r ∈ rs, RowOk c r) ∧ d = .none
theorem d_check_pieces (T : Txt K mg) : Def P w K mg base CX0 "check_pieces" 6 P_check_pieces (SpP K R_check_pieces) := by
  obtain ⟨hm, fd, F⟩ := T.f_check_pieces
  refine mk_def hm F (pure_ok F sc_check_pieces (fun ds d ⟨i, _, h, _⟩ => by rw [h]; rfl) fun cdv A outer s H E ds d hr hR => ?_) (fun _ _ _ _ _ _ us hl => match us, hl with | [_, _, _], _ => rfl)
  obtain ⟨c, rs, rfl, ⟨hc, hrs⟩, rfl⟩ := hR
  show WS _ _ [.dat (plD c), .dat (I rs.length), .dat (TR rs), .un, .un] _ _
  have nd := sc_check_pieces.nd
  refine w_cons (w_if (k := false) (PW.pt (DW.is (w_or (p := false) (q := false) (t_not (p := true) (t_val (e_isi (T := "tuple") (d := TR rs) rfl (by decide +kernel) T.n_isinstance T.n_tuple (by decide +kernel) (v 2 rfl)))) fun _ => w_or1 ((t_nei (e_lenT T.n_len (v 2 rfl)) (v 1 rfl)).is (by simp))) rfl)) (fun h => by cases h) (fun _ => w_nil ?_))
  refine w_one (w_for (fun i ρ => ∃ s3 s4, ρ = [.dat (plD c), .dat (I rs.length), .dat (TR rs), s3, s4]) (i_enumT T.n_enumerate (v 2 rfl)) (dg_t (n := 2) rfl (dgs_cons (j := 3) nd (dgs_cons (j := 4) nd dgs_nil))) (.inl rfl) rfl ⟨_, _, rfl⟩ ?_ ?_)
  · rintro i d ρ' hd ⟨s3, s4, rfl⟩
    obtain ⟨e, he, rfl⟩ := enumD_at hd
    rw [List.getElem?_map] at he
    cases hx : rs[i]? with
    | none => rw [hx] at he; cases he
    | some x =>
      rw [hx] at he
      cases he
      have hxb := hrs x (List.mem_of_getElem? hx)
      refine ⟨_, ⟨_, rfl, rfl, rfl⟩, ?_⟩
      show WS _ _ [.dat (plD c), .dat (I rs.length), .dat (TR rs), .dat (I i), .dat (TI x)] _ _
      exact w_one (w_if (k := false) (t_not (p := true) (t_val (e_call (d_is_piece T) hr ⟨c, x, rfl, ⟨hc, hxb⟩, rfl⟩ (a_cons (v 0 rfl) (a_cons (v 4 rfl) a_nil))))) (fun h => by cases h) (fun _ => w_nil ⟨_, _, rfl⟩))
  · rintro ρ' ⟨s3, s4, rfl⟩
    rfl
def R_pieces_of (ds : List D) (d : D) : Prop := ∃ (c : Pl) (m : List Int), ds = [plD c, TI m] ∧ (c.Ok ∧ MsgOk c m) ∧ d = TR (piecesB c m)
theorem d_pieces_of (T : Txt K mg) : Def P w K mg base CX0 "pieces_of" 8 P_pieces_of (SpP K R_pieces_of) := by
  obtain ⟨hm, fd, F⟩ := T.f_pieces_of
  refine mk_def hm F (pure_ok F sc_pieces_of (fun ds d ⟨i, _, h, _⟩ => by rw [h]; rfl) fun cdv A outer s H E ds d hr hR => ?_) (fun _ _ _ _ _ _ us hl => match us, hl with | [_, _], _ => rfl)
  obtain ⟨c, m, rfl, ⟨hc, hmo⟩, rfl⟩ := hR
  show WS _ _ [.dat (plD c), .dat (TI m)] _ _
  refine w_cons (w_exp (e_call (d_check_scheme T) (hr.mono (by decide)) ⟨c, rfl, hc, rfl⟩ (a_cons (v 0 rfl) a_nil)) ?_)
  refine w_cons (w_exp (e_call (d_check_message T) (hr.mono (by decide)) ⟨c, m, rfl, ⟨hc, hmo⟩, rfl⟩ (a_cons (v 0 rfl) (a_cons (v 1 rfl) a_nil))) ?_)
  exact w_one (w_ret (e_call (d_pieces_by T) hr ⟨c, m, rfl, hc, rfl⟩ (a_cons (v 0 rfl) (a_cons (v 1 rfl) a_nil))) rfl)
def R_lots_of (ds : List D) (d : D) : Prop := ∃ (many size : Nat), ds = [I many, I size] ∧ (many < 8 ∧ size < 4) ∧ d = .list ((lotsB many size).map lotD)
theorem lot_at {l : List Nat} {x : Nat} (h : l.getLast? = some x) : atI (l.map fun (k : Nat) => I (k : Int)) (-1) = some (I (x : Int)) := by
  have hl : 0 < l.length := by
    cases l with
    | nil => cases h
    | cons a t => simp
  unfold atI
  have e : ixN (l.map fun (k : Nat) => I (k : Int)).length (-1) = some (l.length - 1) := by
    unfold ixN
    rw [List.length_map, if_neg (by omega), if_pos (by omega)]
    congr 1
    omega
  rw [e]
  show (l.map _)[l.length - 1]? = _
  rw [List.getElem?_map, ← List.getLast?_eq_getElem?, h]
  rfl
theorem lotD_eq (l : List Nat) : lotD l = TI (l.map fun (k : Nat) => (k : Int)) := by
  show PyData.tuple _ = PyData.tuple _
  rw [List.map_map]
  rfl
theorem mem_lots {many s : Nat} {l : List Nat} : l ∈ lotsB many (s + 1) ↔ ∃ l' ∈ lotsB many s, ∃ j, j < many - lotSt l' ∧ l = l' ++ [lotSt l' + j] := by
  show l ∈ (lotsB many s).flatMap _ ↔ _
  rw [List.mem_flatMap]
  constructor
  · rintro ⟨l', h1, h2⟩
    obtain ⟨j, hj, rfl⟩ := List.mem_map.mp h2
    exact ⟨l', h1, j, List.mem_range.mp hj, rfl⟩
  · rintro ⟨l', h1, j, hj, rfl⟩
    exact ⟨l', h1, List.mem_map.mpr ⟨j, List.mem_range.mpr hj, rfl⟩⟩
theorem lotSt_app (l : List Nat) (x : Nat) : lotSt (l ++ [x]) = x + 1 := by
  unfold lotSt
  rw [List.getLast?_append]
  rfl
theorem lots_len {many : Nat} : ∀ {s : Nat} {l : List Nat}, l ∈ lotsB many s → l.length = s ∧ lotSt l ≤ many
  | 0, l, h => by
    have : l = [] := List.mem_singleton.mp h
    subst this
    exact ⟨rfl, Nat.zero_le _⟩
  | s + 1, l, h => by
    obtain ⟨l', h1, j, hj, rfl⟩ := mem_lots.mp h
    obtain ⟨h2, h3⟩ := lots_len h1
    rw [lotSt_app, List.length_append, h2]
    exact ⟨rfl, by omega⟩
theorem d_lots_of (T : Txt K mg) : Def P w K mg base CX0 "lots_of" 1 P_lots_of (SpP K R_lots_of) := by
  obtain ⟨hm, fd, F⟩ := T.f_lots_of
  refine mk_def hm F (pure_ok F sc_lots_of (fun ds d ⟨i, _, h, _⟩ => by rw [h]; rfl) fun cdv A outer s H E ds d hr hR => ?_) (fun _ _ _ _ _ _ us hl => match us, hl with | [_, _], _ => rfl)
  obtain ⟨many, size, rfl, ⟨h1, h2⟩, rfl⟩ := hR
  show WS _ _ [.dat (I many), .dat (I size), .un, .un, .un, .un] _ _
  have nd := sc_lots_of.nd
  refine w_cons (w_set 2 (d := .list ((lotsB many 0).map lotD)) (l_lst (a_cons (e_tup a_nil (by simp)) a_nil) (by simp)).e ?_ (.inl rfl) nd)
  refine w_cons (w_for (fun i ρ => ∃ s3, ρ = [.dat (I many), .dat (I size), .dat (.list ((lotsB many i).map lotD)), s3, .un, .un]) (i_rng1 T.n_range (by omega) (v 1 rfl)) (dg_n (j := 3) nd) (.inl rfl) rfl ⟨_, rfl⟩ ?_ ?_)
  · rintro i d ρ' hd ⟨s3, rfl⟩
    have hi : i < size := by
      have := (List.getElem?_eq_some_iff.mp hd).1
      simpa using this
    have hf := lots_few many h1 (i + 1) (by omega)
    refine ⟨_, rfl, ?_⟩
    show WS _ _ [.dat (I many), .dat (I size), .dat (.list ((lotsB many i).map lotD)), .dat d, .un, .un] _ _
    have e0 : (lotsB many (i + 1)).map lotD = (lotsB many i).flatMap fun l => (List.range (many - lotSt l)).map fun j => lotD (l ++ [lotSt l + j]) := by
      show ((lotsB many i).flatMap _).map lotD = _
      rw [List.map_flatMap]
      simp [List.map_map, Function.comp_def]
    refine w_one (w_setL 2 (Lc.is (lc2 (own := [("lot", 4), ("at", 5)]) (lotsB many i) lotD (fun l => [.dat (I many), .dat (I size), .dat (.list ((lotsB many i).map lotD)), .dat d, .dat (lotD l), .un]) (fun l => List.range (many - lotSt l)) (fun l j => I ((lotSt l : Int) + (j : Int)))
      (fun l j => [.dat (I many), .dat (I size), .dat (.list ((lotsB many i).map lotD)), .dat d, .dat (lotD l), .dat (I ((lotSt l : Int) + (j : Int)))]) (fun l j => lotD (l ++ [lotSt l + j])) rfl nd (blkOk_by (N := N_lots_of) (sc := defScope s_lots_of) (by decide +kernel)) ?_ (.of rfl) (i_lst (v 2 rfl)) (fun _ _ _ _ _ => dg_n (j := 4) nd) (by decide) (fun a _ => by rfl) (fun a _ => .of rfl)
      (fun l hl _ _ _ _ _ => ?_) (fun _ _ _ _ _ => dg_n (j := 5) nd) (by decide) (fun a _ b _ => by rfl) (fun l hl j hj _ _ _ _ _ => ?_)) e0.symm) ⟨_, rfl⟩ (.inl rfl))
    · rw [← e0, List.length_map]
      omega
    · refine (i_rng2 T.n_range (lo := (lotSt l : Int)) (n := (many : Int)) ?_ (e_if (p := !decide (l = [])) ((t_ne hr.units (by rw [lotD_eq]; exact (shp_TI _).s) (shp_TI []).s (v 4 rfl) (e_tup a_nil (by simp))).is ?_) (fun h => ?_) (fun h => ?_)) (v 0 rfl)).is ?_
      · have := (lots_len hl).2
        omega
      · rw [lotD_eq]
        show (!PyData.eqv (TI _) (TI [])) = _
        rw [eqv_TI']
        simp
      · cases q : l.getLast? with
        | none => simp at q; simp [q] at h
        | some x => exact (add (e_ixT (lot_at q) (v 4 rfl) (neg c_int)) c_int).is (by unfold lotSt; rw [q]; simp)
      · have : l = [] := by simpa using h
        subst this
        exact c_int
      · congr 1
        rw [show ((many : Int) - (lotSt l : Int)).toNat = many - lotSt l by omega]
    · refine (e_catT ?_ (v 4 rfl) (e_tup (a_cons (v 5 rfl) a_nil) (by simp))).is ?_
      · have := (lots_len hl).1
        simp
        omega
      · simp [lotD]
  · rintro ρ' ⟨s3, rfl⟩
    rw [List.length_map, List.length_range, Int.toNat_natCast]
    exact w_one (w_ret (v 2 rfl) rfl)
end
end Lm
set_option maxHeartbeats 4000000
/-! The elimination, plainly. -/
namespace Lm
def dotR (a b : List Int) : Int := ((a.zip b).map fun q => q.1 * q.2).sum
theorem dotB_eq (p : Int) (a b : List Int) : dotB p a b = dotR a b % p := rfl
theorem dotR_cons (x y : Int) (a b : List Int) : dotR (x :: a) (y :: b) = x * y + dotR a b := by simp [dotR]
theorem dotR_nil (b : List Int) : dotR [] b = 0 := rfl
theorem dotR_nil' (b : List Int) : dotR b [] = 0 := by simp [dotR]
theorem dotR_comm : ∀ a b : List Int, dotR a b = dotR b a
  | [], b => by rw [dotR_nil, dotR_nil']
  | a :: as, [] => by rw [dotR_nil, dotR_nil']
  | a :: as, b :: bs => by rw [dotR_cons, dotR_cons, dotR_comm as bs, Int.mul_comm]
/-- equal but for multiples -/
def Eqm (p a b : Int) : Prop := ∃ t, a = b + p * t
theorem Eqm.refl (p a : Int) : Eqm p a a := ⟨0, by omega⟩
theorem Eqm.symm {p a b : Int} : Eqm p a b → Eqm p b a := fun ⟨t, h⟩ => ⟨-t, by rw [h, Int.mul_neg]; omega⟩
theorem Eqm.trans {p a b c : Int} : Eqm p a b → Eqm p b c → Eqm p a c := fun ⟨t, h⟩ ⟨u, g⟩ => ⟨t + u, by rw [h, g, Int.mul_add]; omega⟩
theorem Eqm.add {p a b c d : Int} : Eqm p a b → Eqm p c d → Eqm p (a + c) (b + d) := fun ⟨t, h⟩ ⟨u, g⟩ => ⟨t + u, by rw [h, g, Int.mul_add]; omega⟩
theorem Eqm.sub {p a b c d : Int} : Eqm p a b → Eqm p c d → Eqm p (a - c) (b - d) := fun ⟨t, h⟩ ⟨u, g⟩ => ⟨t - u, by rw [h, g, Int.mul_sub]; omega⟩
theorem Eqm.mul {p a b c d : Int} : Eqm p a b → Eqm p c d → Eqm p (a * c) (b * d) := fun ⟨t, h⟩ ⟨u, g⟩ => ⟨b * u + t * d + p * t * u, by subst h; subst g; grind⟩
theorem Eqm.of_md {p : Int} (a : Int) : Eqm p (a % p) a := ⟨-(a / p), by have := Int.mul_ediv_add_emod a p; rw [Int.mul_neg]; omega⟩
theorem Eqm.md {p a b : Int} : Eqm p a b → a % p = b % p := fun ⟨t, h⟩ => by rw [h]; exact Int.add_mul_emod_self_left ..
theorem Eqm.of_eq {p a b : Int} (h : a % p = b % p) : Eqm p a b := ((Eqm.of_md a).symm.trans (by rw [h]; exact .refl _ _)).trans (Eqm.of_md b)
theorem Eqm.z {p a : Int} (h : a % p = 0) : Eqm p a 0 := by
  have := Eqm.of_md (p := p) a
  rw [h] at this
  exact this.symm
theorem Eqm.z' {p a : Int} (h : Eqm p a 0) : a % p = 0 := by rw [h.md, Int.zero_emod]
theorem Eqm.eq {p a b : Int} (h : Eqm p a b) (ha : 0 ≤ a ∧ a < p) (hb : 0 ≤ b ∧ b < p) : a = b := by
  have := h.md
  rwa [Int.emod_eq_of_lt ha.1 ha.2, Int.emod_eq_of_lt hb.1 hb.2] at this
theorem dot_scale {p y : Int} : ∀ (r v : List Int), Eqm p (dotR (r.map fun x => y * x % p) v) (y * dotR r v)
  | [], v => by simp only [List.map_nil, dotR_nil]; exact ⟨0, by omega⟩
  | x :: r, [] => by rw [dotR_nil', dotR_nil']; exact ⟨0, by omega⟩
  | x :: r, z :: v => by
    rw [List.map_cons, dotR_cons, dotR_cons, Int.mul_add]
    refine .add ?_ (dot_scale r v)
    rw [← Int.mul_assoc]
    exact .mul (.of_md _) (.refl _ _)
theorem dot_less {p m : Int} : ∀ (a b v : List Int), a.length = b.length → Eqm p (dotR (lessB p a b m) v) (dotR a v - m * dotR b v)
  | [], [], v, _ => by simp only [lessB, List.zip_nil_left, List.map_nil, dotR_nil]; exact ⟨0, by omega⟩
  | x :: a, y :: b, [], _ => by rw [dotR_nil', dotR_nil', dotR_nil']; exact ⟨0, by omega⟩
  | x :: a, y :: b, z :: v, h => by
    have ih := dot_less (p := p) (m := m) a b v (by simpa using h)
    have e : lessB p (x :: a) (y :: b) m = (x - m * y) % p :: lessB p a b m := rfl
    rw [e, dotR_cons, dotR_cons, dotR_cons]
    have h1 : Eqm p ((x - m * y) % p * z) ((x - m * y) * z) := .mul (.of_md _) (.refl _ _)
    refine (h1.add ih).trans ?_
    exact ⟨0, by grind⟩
theorem dot_set : ∀ (r v : List Int) (j : Nat) (x : Int), j < v.length → j < r.length → dotR r (v.set j x) = dotR r v + r.getD j 0 * (x - v.getD j 0)
  | [], v, j, x, _, h => by cases h
  | r :: rs, [], j, x, h, _ => by cases h
  | r :: rs, v :: vs, 0, x, _, _ => by
    rw [List.set_cons_zero, dotR_cons, dotR_cons]
    simp only [List.getD_cons_zero]
    grind
  | r :: rs, v :: vs, j + 1, x, h, g => by
    rw [List.set_cons_succ, dotR_cons, dotR_cons, dot_set rs vs j x (by simpa using h) (by simpa using g)]
    simp only [List.getD_cons_succ]
    omega
theorem dot_zero : ∀ (r : List Int) (n : Nat), dotR r (List.replicate n 0) = 0
  | [], n => dotR_nil _
  | r :: rs, 0 => dotR_nil' _
  | r :: rs, n + 1 => by rw [List.replicate_succ, dotR_cons, dot_zero rs n]; omega
theorem dot_zeros : ∀ (r v : List Int), (∀ x ∈ v, x = 0) → dotR r v = 0
  | [], v, _ => dotR_nil _
  | r :: rs, [], _ => dotR_nil' _
  | r :: rs, v :: vs, h => by rw [dotR_cons, dot_zeros rs vs (fun x hx => h x (List.mem_cons_of_mem _ hx)), h v List.mem_cons_self]; omega
theorem dot_app : ∀ (a b v : List Int), a.length ≤ v.length → dotR (a ++ b) v = dotR a (v.take a.length) + dotR b (v.drop a.length)
  | [], b, v, _ => by rw [dotR_nil]; simp
  | x :: a, b, [], h => by simp at h
  | x :: a, b, y :: v, h => by
    rw [List.cons_append, dotR_cons, dot_app a b v (by simpa using h)]
    simp only [List.length_cons, List.take_succ_cons, List.drop_succ_cons, dotR_cons]
    omega
/-- an entry -/
abbrev en (f : List (List Int)) (a c : Nat) : Int := (f.getD a []).getD c 0
def Ker (p : Int) (f : List (List Int)) (v : List Int) : Prop := ∀ r ∈ f, Eqm p (dotR r v) 0
structure St (p : Int) (L n i : Nat) (rs f : List (List Int)) (st : List Nat) : Prop where
  mx : Mx p L n f
  le : st.length ≤ n
  lt : ∀ x ∈ st, x < i
  nd : st.Nodup
  col : ∀ k x, st[k]? = some x → ∀ a < n, en f a x = if a = k then 1 else 0
  low : ∀ a, st.length ≤ a → a < n → ∀ x < i, en f a x = 0
  ker : ∀ v, Ker p f v ↔ Ker p rs v
theorem ker_at {p : Int} {f : List (List Int)} {v : List Int} : Ker p f v ↔ ∀ a < f.length, Eqm p (dotR (f.getD a []) v) 0 := by
  constructor
  · intro h a ha
    exact h _ (List.mem_of_getElem? (get_of ha []))
  · intro h r hr
    obtain ⟨a, ha, e⟩ := List.getElem_of_mem hr
    have := h a ha
    rwa [List.getD_eq_getElem?_getD, List.getElem?_eq_getElem ha, Option.getD_some, e] at this
theorem getD_map {α β : Type} (g : α → β) (l : List α) (a : Nat) (x : α) (y : β) (h : a < l.length) : (l.map g).getD a y = g (l.getD a x) := by
  rw [List.getD_eq_getElem?_getD, List.getElem?_map, get_of h x]
  rfl
theorem getD_set_self {α : Type} (l : List α) (a : Nat) (x y : α) (h : a < l.length) : (l.set a x).getD a y = x := by
  rw [List.getD_eq_getElem?_getD, List.getElem?_set_self h]
  rfl
theorem getD_set_ne {α : Type} (l : List α) (a b : Nat) (x y : α) (h : a ≠ b) : (l.set a x).getD b y = l.getD b y := by
  rw [List.getD_eq_getElem?_getD, List.getElem?_set_ne h, ← List.getD_eq_getElem?_getD]
theorem less_at {p m : Int} {a b : List Int} {c : Nat} (h : a.length = b.length) (hc : c < a.length) : (lessB p a b m).getD c 0 = (a.getD c 0 - m * b.getD c 0) % p := by
  unfold lessB
  rw [getD_map (fun q : Int × Int => (q.1 - m * q.2) % p) (a.zip b) c (0, 0) 0 (by rw [List.length_zip]; omega)]
  have : (a.zip b).getD c (0, 0) = (a.getD c 0, b.getD c 0) := by
    rw [List.getD_eq_getElem?_getD, List.getElem?_zip_eq_some (z := (a.getD c 0, b.getD c 0)) |>.mpr ⟨get_of hc 0, (show b[c]? = some (b.getD c 0) from get_of (by omega) 0)⟩]
    rfl
  rw [this]
/-- a step -/
theorem st_go {p : Int} {L n i h : Nat} {rs f : List (List Int)} {st : List Nat} (hp : Pk p) (hI : Iv p) (hi : i < L) (S : St p L n i rs f st) (hh : h ∈ headsAt f st.length i) : St p L n (i + 1) rs (stairGo p f st i h).1 (stairGo p f st i h).2 := by
  obtain ⟨m1, m2, m3⟩ := go_ok (place := i) hp S.mx hh
  obtain ⟨k1, k2, k3⟩ := heads_mem hh
  have hfl := S.mx.1
  have sl : st.length < n := by omega
  have hp1 := hp.1
  have sg := swap_get (f := f) k1 k2
  -- the swapped rows
  generalize hf1 : (f.set st.length (f.getD h [])).set h (f.getD st.length []) = f1 at *
  have f1at : ∀ a < n, (a = st.length → f1.getD a [] = f.getD h []) ∧ (a = h → f1.getD a [] = f.getD st.length []) ∧ (a ≠ st.length → a ≠ h → f1.getD a [] = f.getD a []) := fun a ha => by
    rw [← hf1]
    refine ⟨fun e => ?_, fun e => ?_, fun e1 e2 => ?_⟩
    · rw [e]
      exact swap_get k1 k2
    · rw [e, getD_set_self _ _ _ _ (by rw [List.length_set]; omega)]
    · rw [getD_set_ne _ _ _ _ _ (Ne.symm e2), getD_set_ne _ _ _ _ _ (Ne.symm e1)]
  have low1 : ∀ a, st.length ≤ a → a < n → ∀ x < i, en f1 a x = 0 := fun a h1 h2 x hx => by
    obtain ⟨g1, g2, g3⟩ := f1at a h2
    unfold en
    by_cases e1 : a = st.length
    · rw [g1 e1]
      exact S.low h k1 (by omega) x hx
    · by_cases e2 : a = h
      · rw [g2 e2]
        exact S.low st.length (Nat.le_refl _) sl x hx
      · rw [g3 e1 e2]
        exact S.low a h1 h2 x hx
  have col1 : ∀ k x, st[k]? = some x → ∀ a < n, en f1 a x = if a = k then 1 else 0 := fun k x hx a ha => by
    have hk := (List.getElem?_eq_some_iff.mp hx).1
    have hxi := S.lt x (List.mem_of_getElem? hx)
    by_cases e : st.length ≤ a
    · rw [low1 a e ha x hxi, if_neg (by omega)]
    · unfold en
      rw [(f1at a ha).2.2 (by omega) (by omega)]
      exact S.col k x hx a ha
  have ker1 : ∀ v, Ker p f1 v ↔ Ker p f v := fun v => by
    rw [ker_at, ker_at, m1.1, hfl]
    constructor
    · intro hv a ha
      by_cases e1 : a = st.length
      · have := hv h (by omega)
        rwa [(f1at h (by omega)).2.1 rfl, ← e1] at this
      · by_cases e2 : a = h
        · have := hv st.length sl
          rwa [(f1at st.length sl).1 rfl, ← e2] at this
        · have := hv a ha
          rwa [(f1at a ha).2.2 e1 e2] at this
    · intro hv a ha
      by_cases e1 : a = st.length
      · rw [(f1at a ha).1 e1]
        exact hv h (by omega)
      · by_cases e2 : a = h
        · rw [(f1at a ha).2.1 e2]
          exact hv st.length sl
        · rw [(f1at a ha).2.2 e1 e2]
          exact hv a ha
  have r1 := m1.row sl
  have hpv0 : (f1.getD st.length []).getD i 0 ≠ 0 := by rw [sg]; exact k3
  have hgo : stairGo p f st i h = ((f1.map fun r => lessB p r ((f1.getD st.length []).map fun x => invB p ((f1.getD st.length []).getD i 0) * x % p) (r.getD i 0)).set st.length ((f1.getD st.length []).map fun x => invB p ((f1.getD st.length []).getD i 0) * x % p), st ++ [i]) := by
    unfold stairGo
    rw [hf1]
  generalize hpv : f1.getD st.length [] = pv at *
  have gi : pv[i]? = some (pv.getD i 0) := get_of (by rw [r1.2.1]; exact hi) 0
  have gb := r1.2.2 _ (List.mem_of_getElem? gi)
  obtain ⟨y, y1, y2, y3, y4⟩ := hI (pv.getD i 0) (by omega) (by omega)
  have ey : invB p (pv.getD i 0) = y := by
    unfold invB
    rw [List.headD_eq_head?_getD, y1]
    rfl
  rw [ey] at hgo
  have ld : ∀ c < L, (pv.map fun x => y * x % p).getD c 0 = y * pv.getD c 0 % p := fun c hc => getD_map _ pv c 0 0 (by rw [r1.2.1]; exact hc)
  have lL : (pv.map fun x => y * x % p).length = L := by rw [List.length_map]; exact r1.2.1
  have dsc : ∀ v, Eqm p (dotR (pv.map fun x => y * x % p) v) (y * dotR pv v) := fun v => dot_scale pv v
  generalize (pv.map fun x => y * x % p) = lead at *
  rw [hgo] at m2 m3
  rw [hgo]
  generalize hf3 : (f1.map fun r => lessB p r lead (r.getD i 0)).set st.length lead = f3 at *
  have f3s : f3.getD st.length [] = lead := by rw [← hf3]; exact getD_set_self _ _ _ _ (by rw [List.length_map, m1.1]; exact sl)
  have f3a : ∀ a < n, a ≠ st.length → f3.getD a [] = lessB p (f1.getD a []) lead (en f1 a i) := fun a ha hne => by
    rw [← hf3, getD_set_ne _ _ _ _ _ (Ne.symm hne)]
    exact getD_map (fun r => lessB p r lead (r.getD i 0)) f1 a [] [] (by rw [m1.1]; exact ha)
  have ent : ∀ a < n, a ≠ st.length → ∀ c < L, en f3 a c = (en f1 a c - en f1 a i * lead.getD c 0) % p := fun a ha hne c hc => by
    unfold en
    rw [f3a a ha hne]
    have := (m1.row ha).2.1
    exact less_at (by omega) (by omega)
  have small : ∀ a < n, ∀ c < L, 0 ≤ en f1 a c ∧ en f1 a c < p := fun a ha c hc => by
    have r := m1.row ha
    exact r.2.2 _ (List.mem_of_getElem? (get_of (by rw [r.2.1]; exact hc) 0))
  have ltL : ∀ x ∈ st, x < L := fun x hx => by have := S.lt x hx; omega
  have ldi : lead.getD i 0 = 1 := by rw [ld i hi]; exact y4
  have pve : ∀ c, en f1 st.length c = pv.getD c 0 := fun c => by unfold en; rw [hpv]
  have ld0 : ∀ c < i, lead.getD c 0 = 0 := fun c hc => by
    rw [ld c (by omega), ← pve, low1 st.length (Nat.le_refl _) sl c hc, Int.mul_zero, Int.zero_emod]
  refine ⟨m2, m3, fun x hx => ?_, ?_, fun k x hx a ha => ?_, fun a h1 h2 x hx => ?_, fun v => ?_⟩
  · rcases List.mem_append.mp hx with z | z
    · have := S.lt x z
      omega
    · rw [List.mem_singleton.mp z]
      omega
  · refine List.nodup_append.mpr ⟨S.nd, by simp, fun a ha b hb => ?_⟩
    have := S.lt a ha
    rw [List.mem_singleton.mp hb]
    omega
  · have hk : k < (st ++ [i]).length := (List.getElem?_eq_some_iff.mp hx).1
    rw [List.length_append, List.length_singleton] at hk
    by_cases hks : k = st.length
    · subst hks
      rw [List.getElem?_append_right (Nat.le_refl _), Nat.sub_self] at hx
      have hx : i = x := Option.some.inj hx
      subst hx
      by_cases e : a = st.length
      · rw [if_pos e]
        unfold en
        rw [e, f3s]
        exact ldi
      · rw [if_neg e, ent a ha e i hi, ldi, Int.mul_one, Int.sub_self, Int.zero_emod]
    · rw [List.getElem?_append_left (by omega)] at hx
      have hxm := List.mem_of_getElem? hx
      have hxi := S.lt x hxm
      by_cases e : a = st.length
      · rw [if_neg (by omega)]
        unfold en
        rw [e, f3s]
        exact ld0 x hxi
      · rw [ent a ha e x (by omega), ld0 x hxi, Int.mul_zero, Int.sub_zero, col1 k x hx a ha]
        split
        · exact Int.emod_eq_of_lt (by decide) (by omega)
        · exact Int.zero_emod _
  · rw [List.length_append, List.length_singleton] at h1
    have e : a ≠ st.length := by omega
    rw [ent a h2 e x (by omega)]
    by_cases hxi : x = i
    · rw [hxi, ldi, Int.mul_one, Int.sub_self, Int.zero_emod]
    · rw [ld0 x (by omega), Int.mul_zero, Int.sub_zero, low1 a (by omega) h2 x (by omega), Int.zero_emod]
  · rw [← S.ker v, ← ker1 v, ker_at, ker_at, m2.1, m1.1]
    have dl : ∀ a < n, a ≠ st.length → Eqm p (dotR (f3.getD a []) v) (dotR (f1.getD a []) v - en f1 a i * dotR lead v) := fun a ha e => by
      rw [f3a a ha e]
      have := (m1.row ha).2.1
      exact dot_less _ _ _ (by omega)
    constructor
    · intro hv
      have hl : Eqm p (dotR lead v) 0 := by
        have := hv st.length sl
        rwa [f3s] at this
      intro a ha
      by_cases e : a = st.length
      · rw [e, hpv]
        -- pv·v = pv_i * (y * pv·v)
        have h2 : Eqm p (pv.getD i 0 * (y * dotR pv v)) 0 := by
          have h3 := ((dsc v).symm.trans hl)
          exact ((Eqm.refl p (pv.getD i 0)).mul h3).trans ⟨0, by omega⟩
        have h4 : Eqm p (y * pv.getD i 0) 1 := by
          refine .of_eq ?_
          rw [y4]
          exact (Int.emod_eq_of_lt (by decide) (by omega)).symm
        have h5 : Eqm p (y * pv.getD i 0 * dotR pv v) (1 * dotR pv v) := h4.mul (.refl _ _)
        have h6 : y * pv.getD i 0 * dotR pv v = pv.getD i 0 * (y * dotR pv v) := by grind
        rw [h6, Int.one_mul] at h5
        exact h5.symm.trans h2
      · have h1 := (dl a ha e).symm.trans (hv a ha)
        have h2 : Eqm p (en f1 a i * dotR lead v) 0 := ((Eqm.refl p _).mul hl).trans ⟨0, by omega⟩
        have h3 := h1.add h2
        exact (Eqm.trans ⟨0, by omega⟩ h3)
    · intro hv
      have hl : Eqm p (dotR lead v) 0 := by
        have := hv st.length sl
        rw [hpv] at this
        exact (dsc v).trans (((Eqm.refl p y).mul this).trans ⟨0, by omega⟩)
      intro a ha
      by_cases e : a = st.length
      · rw [e, f3s]
        exact hl
      · refine (dl a ha e).trans ?_
        have h2 : Eqm p (en f1 a i * dotR lead v) 0 := ((Eqm.refl p _).mul hl).trans ⟨0, by omega⟩
        exact ((hv a ha).sub h2).trans ⟨0, by omega⟩
theorem st_step {p : Int} {L n i : Nat} {rs f : List (List Int)} {st : List Nat} (hp : Pk p) (hI : Iv p) (hi : i < L) (S : St p L n i rs f st) : St p L n (i + 1) rs (stairStep p (f, st) i).1 (stairStep p (f, st) i).2 := by
  unfold stairStep
  show St p L n (i + 1) rs (stairPick p f st i (headsAt f st.length i)).1 (stairPick p f st i (headsAt f st.length i)).2
  cases e : headsAt f st.length i with
  | cons h t => exact st_go hp hI hi S (by rw [e]; exact List.mem_cons_self)
  | nil =>
    show St p L n (i + 1) rs f st
    refine ⟨S.mx, S.le, fun x hx => Nat.lt_succ_of_lt (S.lt x hx), S.nd, S.col, fun a h1 h2 x hx => ?_, S.ker⟩
    by_cases hxi : x = i
    · subst hxi
      refine Classical.byContradiction fun hne => ?_
      have : a ∈ headsAt f st.length x := by
        unfold headsAt
        refine List.mem_map.mpr ⟨a - st.length, List.mem_filter.mpr ⟨List.mem_range.mpr ?_, ?_⟩, by omega⟩
        · rw [S.mx.1]
          omega
        · rw [show st.length + (a - st.length) = a by omega]
          simpa using hne
      rw [e] at this
      cases this
    · exact S.low a h1 h2 x (by omega)
theorem st_at {p : Int} {L n : Nat} {rs : List (List Int)} (hp : Pk p) (hI : Iv p) (hM : Mx p L n rs) : ∀ w : Nat, w ≤ L → St p L n w rs (stairsAt p rs w).1 (stairsAt p rs w).2
  | 0, _ => ⟨hM, Nat.zero_le _, (fun x h => by cases h), List.nodup_nil, (fun k x h => by cases h), (fun a _ _ x h => by omega), fun v => Iff.rfl⟩
  | w + 1, hw => by
    rw [stairsAt_succ]
    exact st_step hp hI (by omega) (st_at hp hI hM w (by omega))
end Lm
set_option maxHeartbeats 4000000
/-! What the elimination tells: a vector of the kernel at a free column, the solution. -/
namespace Lm
theorem getD_eq {α : Type} (l : List α) (k : Nat) (d : α) (h : k < l.length) : l.getD k d = l[k] := by
  rw [List.getD_eq_getElem?_getD, List.getElem?_eq_getElem h]
  rfl
/-- a vector of the kernel, from a free column c: built lead by lead -/
def nvK (p : Int) (f : List (List Int)) (st : List Nat) (L c : Nat) : Nat → List Int
  | 0 => (List.range L).map fun s => if s = c then 1 else 0
  | k + 1 => (nvK p f st L c k).set (st.getD k 0) ((0 - en f k c) % p)
section
variable {p : Int} {L n w c : Nat} {rs f : List (List Int)} {st : List Nat}
theorem nvK_len : ∀ k, (nvK p f st L c k).length = L
  | 0 => by simp [nvK]
  | k + 1 => by unfold nvK; rw [List.length_set, nvK_len k]
theorem unit_eq : ((List.range L).map fun s => if s = c then (1 : Int) else 0) = (List.replicate L 0).set c 1 := by
  refine List.ext_getElem? fun i => ?_
  rw [List.getElem?_map]
  by_cases hi : i < L
  · rw [List.getElem?_range hi]
    by_cases e : c = i
    · subst e
      rw [List.getElem?_set_self (by simpa using hi)]
      simp
    · rw [List.getElem?_set_ne e, List.getElem?_replicate, if_pos hi]
      have : ¬ i = c := fun z => e z.symm
      simp [this]
  · rw [List.getElem?_eq_none (by simpa using hi), List.getElem?_eq_none (by simpa using hi)]
    rfl
theorem nvK_zero (hc : c < L) : ∀ k j, j ≠ c → (∀ i < k, st[i]? ≠ some j) → k ≤ st.length → (nvK p f st L c k).getD j 0 = 0
  | 0, j, hj, _, _ => by
    unfold nvK
    rw [unit_eq, getD_set_ne _ _ _ _ _ (Ne.symm hj), List.getD_eq_getElem?_getD, List.getElem?_replicate]
    split <;> rfl
  | k + 1, j, hj, h, hk => by
    unfold nvK
    have hs : st[k]? = some (st.getD k 0) := get_of (by omega) 0
    rw [getD_set_ne _ _ _ _ _ (fun e => h k (Nat.lt_succ_self k) (by rw [hs, e]))]
    exact nvK_zero hc k j hj (fun i hi => h i (Nat.lt_succ_of_lt hi)) (by omega)
theorem nvK_one (hc : c < L) (hn : c ∉ st) : ∀ k, k ≤ st.length → (nvK p f st L c k).getD c 0 = 1
  | 0, _ => by
    unfold nvK
    rw [unit_eq, getD_set_self _ _ _ _ (by simpa using hc)]
  | k + 1, hk => by
    unfold nvK
    have hs : st[k]? = some (st.getD k 0) := get_of (by omega) 0
    rw [getD_set_ne _ _ _ _ _ (fun e => hn (by rw [← e]; exact List.mem_of_getElem? hs))]
    exact nvK_one hc hn k (by omega)
theorem nvK_rw (hp : Pk p) : ∀ k, Rw p (nvK p f st L c k)
  | 0 => fun x hx => by
    unfold nvK at hx
    obtain ⟨s, _, rfl⟩ := List.mem_map.mp hx
    have := hp.1
    split <;> omega
  | k + 1 => fun x hx => by
    unfold nvK at hx
    rcases List.mem_or_eq_of_mem_set hx with h | h
    · exact nvK_rw hp k x h
    · rw [h]
      exact md_ok hp _
theorem nvK_dot (hw : w ≤ L) (S : St p L n w rs f st) (hc : c < w) (hn : c ∉ st) : ∀ k, k ≤ st.length → ∀ a < n, Eqm p (dotR (f.getD a []) (nvK p f st L c k)) (if a < k then 0 else en f a c)
  | 0, _, a, ha => by
    unfold nvK
    have hr := (S.mx.row ha).2.1
    rw [unit_eq, dot_set _ _ _ _ (by simp; omega) (by omega), dot_zero, if_neg (by omega), List.getD_eq_getElem?_getD (l := List.replicate L 0), List.getElem?_replicate, if_pos (by omega)]
    exact ⟨0, by simp⟩
  | k + 1, hk, a, ha => by
    unfold nvK
    have hr := (S.mx.row ha).2.1
    have hs : st[k]? = some (st.getD k 0) := get_of (by omega) 0
    have hlt := S.lt _ (List.mem_of_getElem? hs)
    have hz : (nvK p f st L c k).getD (st.getD k 0) 0 = 0 := nvK_zero (by omega) k _ (fun e => hn (by rw [← e]; exact List.mem_of_getElem? hs)) (fun i hi e => by
      have h1 : i < st.length := by omega
      have h2 : k < st.length := by omega
      have e1 : st[i] = st[k] := by
        have a1 := List.getElem?_eq_getElem h1
        have a2 := List.getElem?_eq_getElem h2
        rw [a1] at e
        rw [a2] at hs
        have := Option.some.inj e
        have := Option.some.inj hs
        omega
      exact List.pairwise_iff_getElem.mp S.nd i k h1 h2 hi e1) (by omega)
    rw [dot_set _ _ _ _ (by rw [nvK_len]; omega) (by omega), hz, Int.sub_zero]
    have ih := nvK_dot hw S hc hn k (by omega) a ha
    have hcol := S.col k _ hs a ha
    have hcol' : (f.getD a []).getD (st.getD k 0) 0 = if a = k then 1 else 0 := hcol
    rw [hcol']
    refine (ih.add ((Eqm.refl p _).mul (.of_md _))).trans ?_
    by_cases h1 : a = k
    · subst h1
      rw [if_neg (by omega), if_pos rfl, if_pos (by omega)]
      exact ⟨0, by omega⟩
    · rw [if_neg h1]
      by_cases h2 : a < k
      · rw [if_pos h2, if_pos (by omega)]
        exact ⟨0, by omega⟩
      · rw [if_neg h2, if_neg (by omega)]
        exact ⟨0, by omega⟩
/-- a free column gives a vector of the kernel -/
theorem free_ker (hw : w ≤ L) (S : St p L n w rs f st) (hc : c < w) (hn : c ∉ st) : Ker p rs (nvK p f st L c st.length) := by
  rw [← S.ker, ker_at, S.mx.1]
  intro a ha
  have h := nvK_dot hw S hc hn st.length (Nat.le_refl _) a ha
  by_cases e : a < st.length
  · rwa [if_pos e] at h
  · rw [if_neg e, S.low a (by omega) ha c hc] at h
    exact h
end
/-! ### when every column leads -/
theorem step_sts (p : Int) (f : List (List Int)) (st : List Nat) (i : Nat) : (stairStep p (f, st) i).2 = st ∨ (stairStep p (f, st) i).2 = st ++ [i] := by
  unfold stairStep
  show (stairPick p f st i (headsAt f st.length i)).2 = st ∨ (stairPick p f st i (headsAt f st.length i)).2 = st ++ [i]
  cases headsAt f st.length i with
  | nil => exact .inl rfl
  | cons h t => exact .inr rfl
theorem sts_old {p : Int} {rs : List (List Int)} {x i : Nat} (hx : x < i) : ∀ j, i ≤ j → x ∈ (stairsAt p rs j).2 → x ∈ (stairsAt p rs i).2
  | j, hij, h => by
    by_cases e : i = j
    · rw [e]
      exact h
    · obtain ⟨j, rfl⟩ : ∃ k, j = k + 1 := ⟨j - 1, by omega⟩
      rw [stairsAt_succ] at h
      refine sts_old hx j (by omega) ?_
      rcases step_sts p (stairsAt p rs j).1 (stairsAt p rs j).2 j with q | q
      · rwa [show (stairStep p (stairsAt p rs j) j).2 = _ from q] at h
      · rw [show (stairStep p (stairsAt p rs j) j).2 = _ from q] at h
        rcases List.mem_append.mp h with h | h
        · exact h
        · have := List.mem_singleton.mp h
          omega
theorem sts_all {p : Int} {rs : List (List Int)} {w : Nat} (h : ∀ c < w, c ∈ (stairsAt p rs w).2) : ∀ i ≤ w, (stairsAt p rs i).2 = List.range i
  | 0, _ => rfl
  | i + 1, hi => by
    have ih := sts_all h i (by omega)
    have hm := sts_old (i := i + 1) (Nat.lt_succ_self i) w hi (h i (by omega))
    rw [stairsAt_succ] at hm ⊢
    rcases step_sts p (stairsAt p rs i).1 (stairsAt p rs i).2 i with q | q
    · rw [show (stairStep p (stairsAt p rs i) i).2 = _ from q, ih] at hm
      have := List.mem_range.mp hm
      omega
    · rw [show (stairStep p (stairsAt p rs i) i).2 = _ from q, ih, List.range_succ]
/-- the rows tell the vector -/
def Inj (p : Int) (w : Nat) (rows : List (List Int)) : Prop := ∀ u : List Int, u.length = w → (∀ r ∈ rows, Eqm p (dotR r u) 0) → ∀ x ∈ u, Eqm p x 0
section
variable {p : Int} {w n L2 : Nat} {rows rights : List (List Int)}
theorem aug_at {i : Nat} (h1 : rows.length = n) (h2 : rights.length = n) (hi : i < n) : (aug2 rows rights).getD i [] = rows.getD i [] ++ rights.getD i [] := by
  unfold aug2
  rw [getD_map (fun q : List Int × List Int => q.1 ++ q.2) (rows.zip rights) i ([], []) [] (by rw [List.length_zip]; omega)]
  have : (rows.zip rights).getD i ([], []) = (rows.getD i [], rights.getD i []) := by
    rw [List.getD_eq_getElem?_getD, List.getElem?_zip_eq_some (z := (rows.getD i [], rights.getD i [])) |>.mpr ⟨get_of (by omega) [], (show rights[i]? = some (rights.getD i []) from get_of (by omega) [])⟩]
    rfl
  rw [this]
theorem full (hp : Pk p) (hI : Iv p) (hM : Mx p w n rows) (hR : Mx p L2 n rights) (hJ : Inj p w rows) : (stairsAt p (aug2 rows rights) w).2 = List.range w := by
  have hA := aug2_ok hM hR
  have S := st_at hp hI hA w (by omega)
  refine sts_all (fun c hc => Classical.byContradiction fun hn => ?_) w (Nat.le_refl _)
  have K := free_ker (by omega) S hc hn
  generalize hv : nvK p (stairsAt p (aug2 rows rights) w).1 (stairsAt p (aug2 rows rights) w).2 (w + L2) c (stairsAt p (aug2 rows rights) w).2.length = v at K
  have hvl : v.length = w + L2 := by rw [← hv]; exact nvK_len _
  have hvc : v.getD c 0 = 1 := by rw [← hv]; exact nvK_one (by omega) hn _ (Nat.le_refl _)
  have hvz : ∀ j, w ≤ j → v.getD j 0 = 0 := fun j hj => by
    rw [← hv]
    refine nvK_zero (by omega) _ j (by omega) (fun i hi e => ?_) (Nat.le_refl _)
    have := S.lt j (List.mem_of_getElem? e)
    omega
  have hz : ∀ x ∈ v.drop w, x = 0 := fun x hx => by
    obtain ⟨k, hk, e⟩ := List.getElem_of_mem hx
    rw [List.getElem_drop] at e
    have hk' : w + k < v.length := by rw [List.length_drop] at hk; omega
    have := hvz (w + k) (by omega)
    rw [List.getD_eq_getElem?_getD, List.getElem?_eq_getElem hk', Option.getD_some, e] at this
    exact this
  have hu := hJ (v.take w) (by rw [List.length_take]; omega) fun r hr => by
    obtain ⟨i, hi, e⟩ := List.getElem_of_mem hr
    have hin : i < n := by rw [← hM.1]; exact hi
    have e2 : rows.getD i [] = r := by rw [List.getD_eq_getElem?_getD, List.getElem?_eq_getElem hi, Option.getD_some, e]
    have := ker_at.mp K i (by rw [hA.1]; exact hin)
    have hrl := (hM.row hin).2.1
    rw [aug_at hM.1 hR.1 hin, dot_app _ _ _ (by omega), hrl, dot_zeros _ _ hz, e2, Int.add_zero] at this
    exact this
  have h1 := hu 1 (by
    have : (v.take w)[c]? = some 1 := by
      rw [List.getElem?_take, if_pos hc, get_of (by omega) 0, hvc]
    exact List.mem_of_getElem? this)
  have h2 := h1.eq (by have := hp.1; omega) (by have := hp.1; omega)
  omega
theorem solve_eq (hp : Pk p) (hI : Iv p) (hM : Mx p w w rows) (hR : Mx p L2 w rights) (hJ : Inj p w rows) {X : List (List Int)} (hX : Mx p L2 w X)
    (h : ∀ i < w, ∀ j < L2, Eqm p (dotR (rows.getD i []) (X.map fun r => r.getD j 0)) ((rights.getD i []).getD j 0)) : (stairsAt p (aug2 rows rights) w).1.map (fun r => r.drop w) = X := by
  have hA := aug2_ok hM hR
  have S := st_at hp hI hA w (by omega)
  have hst := full hp hI hM hR hJ
  rw [hst] at S
  generalize (stairsAt p (aug2 rows rights) w).1 = f at *
  refine List.ext_getElem (by rw [List.length_map, S.mx.1, hX.1]) fun a ha hb => ?_
  have haw : a < w := by rw [← hX.1]; exact hb
  have fr := S.mx.row haw
  have xr := hX.row haw
  have e1 : (f.map fun r => r.drop w)[a] = (f.getD a []).drop w := by
    rw [List.getElem_map, List.getD_eq_getElem?_getD, List.getElem?_eq_getElem (by rw [S.mx.1]; exact haw)]
    rfl
  have e2 : X[a] = X.getD a [] := by rw [List.getD_eq_getElem?_getD, List.getElem?_eq_getElem hb]; rfl
  rw [e1, e2]
  refine List.ext_getElem (by rw [List.length_drop, fr.2.1, xr.2.1]; omega) fun j hj hj' => ?_
  have hjL : j < L2 := by rw [← xr.2.1]; exact hj'
  -- the vector
  have hcol : (X.map fun r => r.getD j 0).length = w := by rw [List.length_map, hX.1]
  have hker : Ker p f ((X.map fun r => r.getD j 0) ++ (List.replicate L2 0).set j (-1)) := by
    rw [S.ker, ker_at, hA.1]
    intro i hi
    have rr := (hM.row hi).2.1
    have rt := (hR.row hi).2.1
    rw [aug_at hM.1 hR.1 hi, dot_app _ _ _ (by rw [List.length_append, hcol]; omega), rr, List.take_left' hcol, List.drop_left' hcol, dot_set _ _ _ _ (by simp; exact hjL) (by omega), dot_zero, List.getD_eq_getElem?_getD (l := List.replicate L2 0), List.getElem?_replicate, if_pos hjL]
    refine ((h i hi j hjL).add (.refl _ _)).trans ⟨0, ?_⟩
    simp
    omega
  have hd := ker_at.mp hker a (by rw [S.mx.1]; exact haw)
  have split : f.getD a [] = (f.getD a []).take w ++ (f.getD a []).drop w := (List.take_append_drop _ _).symm
  have htk : (f.getD a []).take w = (List.replicate w 0).set a 1 := by
    refine List.ext_getElem (by rw [List.length_take, fr.2.1, List.length_set, List.length_replicate]; omega) fun k hk hk' => ?_
    have hkw : k < w := by rw [List.length_take] at hk; omega
    have hc := S.col k k (by rw [List.getElem?_range hkw]) a haw
    rw [List.getElem_take]
    have e3 : (f.getD a [])[k]'(by rw [fr.2.1]; omega) = en f a k := (getD_eq _ k 0 (by rw [fr.2.1]; omega)).symm
    rw [e3, hc]
    by_cases e : a = k
    · subst e
      rw [if_pos rfl, List.getElem_set_self]
    · rw [if_neg e, List.getElem_set_ne e, List.getElem_replicate]
  rw [split, dot_app _ _ _ (by rw [List.length_append, hcol, List.length_take]; omega)] at hd
  have hl : ((f.getD a []).take w).length = w := by rw [List.length_take, fr.2.1]; omega
  rw [hl, List.take_left' hcol, List.drop_left' hcol, htk, dotR_comm, dot_set _ _ _ _ (by simp; exact haw) (by omega), dot_zero, dot_set _ _ _ _ (by simp; exact hjL) (by rw [List.length_drop, fr.2.1]; omega), dot_zero] at hd
  have z1 : (List.replicate w (0 : Int)).getD a 0 = 0 := by rw [List.getD_eq_getElem?_getD, List.getElem?_replicate, if_pos haw]; rfl
  have z2 : (List.replicate L2 (0 : Int)).getD j 0 = 0 := by rw [List.getD_eq_getElem?_getD, List.getElem?_replicate, if_pos hjL]; rfl
  have c1 : (X.map fun r => r.getD j 0).getD a 0 = (X.getD a []).getD j 0 := getD_map (fun r => r.getD j 0) X a [] 0 (by rw [hX.1]; exact haw)
  rw [z1, z2, c1] at hd
  have g1 : ((f.getD a []).drop w).getD j 0 = ((f.getD a []).drop w)[j] := by rw [List.getD_eq_getElem?_getD, List.getElem?_eq_getElem hj]; rfl
  have g2 : (X.getD a []).getD j 0 = (X.getD a [])[j] := by rw [List.getD_eq_getElem?_getD, List.getElem?_eq_getElem hj']; rfl
  rw [g1, g2] at hd
  refine Eqm.eq ?_ (fr.2.2 _ (List.mem_of_mem_drop (List.getElem_mem hj))) (xr.2.2 _ (List.getElem_mem hj'))
  obtain ⟨t, ht⟩ := hd
  exact ⟨-t, by rw [Int.mul_neg]; omega⟩
/-- one column on the right -/
theorem aug1_eq (rows : List (List Int)) (right : List Int) : aug1 rows right = aug2 rows (right.map fun x => [x]) := by
  unfold aug1 aug2
  rw [List.zip_map_right, List.map_map]
  rfl
theorem right_mx {right : List Int} (hr : Rw p right) (hl : right.length = n) : Mx p 1 n (right.map fun x => [x]) := ⟨by rw [List.length_map, hl], fun r hr' => by
  obtain ⟨x, hx, rfl⟩ := List.mem_map.mp hr'
  exact ⟨rfl, fun y hy => by rw [List.mem_singleton.mp hy]; exact hr x hx⟩⟩
theorem ans_full {right : List Int} (hp : Pk p) (hI : Iv p) (hM : Mx p w w rows) (hr : Rw p right) (hl : right.length = w) (hJ : Inj p w rows) : (stairsAt p (aug1 rows right) w).2.length = w := by
  rw [aug1_eq, full hp hI hM (right_mx hr hl) hJ, List.length_range]
theorem ans_eq {right z : List Int} (hp : Pk p) (hI : Iv p) (hM : Mx p w w rows) (hr : Rw p right) (hl : right.length = w) (hJ : Inj p w rows) (hz : Rw p z) (hzl : z.length = w)
    (h : ∀ i < w, Eqm p (dotR (rows.getD i []) z) (right.getD i 0)) : (stairsAt p (aug1 rows right) w).1.map (fun r => r.getD w 0) = z := by
  have hA := aug1_ok hM hr hl
  have S := (at_ok hp hA w).1
  have e := solve_eq hp hI hM (right_mx hr hl) hJ (right_mx hz hzl) (fun i hi j hj => by
    obtain rfl : j = 0 := by omega
    rw [List.map_map, getD_map (fun x : Int => [x]) right i 0 [] (by omega)]
    have e1 : (z.map ((fun r : List Int => r.getD 0 0) ∘ fun x => [x])) = z := by
      have : ((fun r : List Int => r.getD 0 0) ∘ fun x => [x]) = id := rfl
      rw [this, List.map_id]
    rw [e1]
    exact h i hi)
  rw [← aug1_eq] at e
  have e2 := congrArg (List.map fun r : List Int => r.getD 0 0) e
  rw [List.map_map, List.map_map] at e2
  have e3 : ((fun r : List Int => r.getD 0 0) ∘ fun x => [x]) = id := rfl
  rw [e3, List.map_id] at e2
  rw [← e2]
  refine List.map_congr_left fun r hr' => ?_
  show r.getD w 0 = (r.drop w).getD 0 0
  rw [List.getD_eq_getElem?_getD, List.getD_eq_getElem?_getD, List.getElem?_drop, Nat.add_zero]
end
end Lm
set_option maxRecDepth 100000
set_option maxHeartbeats 4000000
/-! solvework. -/
namespace Lm
open PySem PySem.Spec PyProof.Rows L2 Evl
abbrev LN (sh : List Nat) : D := .list (sh.map fun (k : Nat) => I (k : Int))
def othB (k at_ : Nat) : List Nat := (List.range k).filter fun o => !decide (o = at_)
def othR (sh : List (List Int)) (k at_ : Nat) : List (List Int) := (othB k at_).map fun o => sh.getD o []
def othP (pr : List (List Int)) (k at_ : Nat) : List Int := (othB k at_).map fun o => (pr.getD at_ []).getD o 0
def ansB (p : Int) (h k : Nat) (sh pr : List (List Int)) (at_ : Nat) : List Int := (stairsAt p (aug1 (othR sh k at_) (othP pr k at_)) h).1.map fun r => r.getD h 0
def fndB (p : Int) (h k : Nat) (sh pr : List (List Int)) : List (List Int) := (List.range h).map (ansB p h k sh pr)
def tabB (p : Int) (h k : Nat) (sh pr : List (List Int)) : List (List Int) := (stairsAt p (aug2 (sh.take h) (fndB p h k sh pr)) h).1.map fun r => r.drop h
theorem oth_len {k a : Nat} (h : a < k) : (othB k a).length = k - 1 := by
  unfold othB
  have key : ∀ k a : Nat, ((List.range k).filter fun o => !decide (o = a)).length = if a < k then k - 1 else k := fun k => by
    induction k with
    | zero => intro a; simp
    | succ k ih =>
      intro a
      rw [List.range_succ, List.filter_append, List.length_append, ih a]
      by_cases e : k = a
      · subst e
        simp
      · have e2 : (List.filter (fun o => !decide (o = a)) [k]) = [k] := by simp [e]
        rw [e2, List.length_singleton]
        by_cases h1 : a < k
        · rw [if_pos h1, if_pos (by omega)]
          omega
        · rw [if_neg h1, if_neg (by omega)]
  rw [key, if_pos h]
theorem oth_mem {k a o : Nat} (h : o ∈ othB k a) : o < k ∧ o ≠ a := by
  obtain ⟨h1, h2⟩ := List.mem_filter.mp h
  exact ⟨List.mem_range.mp h1, by simpa using h2⟩
theorem othR_mx {p : Int} {L k a : Nat} {sh : List (List Int)} (h : Mx p L k sh) (ha : a < k) : Mx p L (k - 1) (othR sh k a) :=
  ⟨by unfold othR; rw [List.length_map, oth_len ha], fun r hr => by
    obtain ⟨o, ho, rfl⟩ := List.mem_map.mp hr
    exact (h.row (oth_mem ho).1).2⟩
theorem othP_rw {p : Int} {k a : Nat} {pr : List (List Int)} (h : Mx p k k pr) (ha : a < k) : Rw p (othP pr k a) ∧ (othP pr k a).length = k - 1 :=
  ⟨fun x hx => by
    obtain ⟨o, ho, rfl⟩ := List.mem_map.mp hx
    have r := h.row ha
    exact r.2.2 _ (List.mem_of_getElem? (get_of (by rw [r.2.1]; exact (oth_mem ho).1) 0)), by unfold othP; rw [List.length_map, oth_len ha]⟩
theorem mx_take {p : Int} {L k h : Nat} {sh : List (List Int)} (g : Mx p L k sh) (hk : h ≤ k) : Mx p L h (sh.take h) := ⟨by rw [List.length_take, g.1]; omega, fun r hr => g.2 r (List.mem_of_mem_take hr)⟩
theorem mx_drop {p : Int} {L n w : Nat} {f : List (List Int)} (h : Mx p L n f) : Mx p (L - w) n (f.map fun r => r.drop w) := ⟨by rw [List.length_map]; exact h.1, fun r hr => by
  obtain ⟨q, hq, rfl⟩ := List.mem_map.mp hr
  exact ⟨by rw [List.length_drop, (h.2 q hq).1], fun x hx => (h.2 q hq).2 x (List.mem_of_mem_drop hx)⟩⟩
theorem ans_rw {p : Int} {h k a : Nat} {sh pr : List (List Int)} (hp : Pk p) (hk : h = k - 1) (g : Mx p h k sh) (g2 : Mx p k k pr) (ha : a < k) : Rw p (ansB p h k sh pr a) ∧ (ansB p h k sh pr a).length = h := by
  have m := aug1_ok (othR_mx g ha) (othP_rw g2 ha).1 (othP_rw g2 ha).2
  have S := (at_ok hp m h).1
  refine ⟨fun x hx => ?_, by unfold ansB; rw [List.length_map, S.1]; omega⟩
  obtain ⟨r, hr, rfl⟩ := List.mem_map.mp hx
  have := S.2 r hr
  exact this.2 _ (List.mem_of_getElem? (get_of (by rw [this.1]; omega) 0))
theorem fnd_mx {p : Int} {h k : Nat} {sh pr : List (List Int)} (hp : Pk p) (hk : h = k - 1) (h1 : 1 ≤ k) (g : Mx p h k sh) (g2 : Mx p k k pr) : Mx p h h (fndB p h k sh pr) := ⟨by simp [fndB], fun r hr => by
  obtain ⟨a, ha, rfl⟩ := List.mem_map.mp hr
  have := ans_rw hp hk g g2 (a := a) (by have := List.mem_range.mp ha; omega)
  exact ⟨this.2, this.1⟩⟩
theorem tab_mx {p : Int} {h k : Nat} {sh pr : List (List Int)} (hp : Pk p) (hk : h = k - 1) (h1 : 1 ≤ k) (g : Mx p h k sh) (g2 : Mx p k k pr) : Mx p h h (tabB p h k sh pr) := by
  have m := aug2_ok (mx_take g (h := h) (by omega)) (fnd_mx hp hk h1 g g2)
  have := mx_drop (w := h) (at_ok hp m h).1
  rwa [Nat.add_sub_cancel] at this
section
variable {P : Program} {w : World} {K : PySem.W.Frag} {mg : Str → Option Value} {base : Heap}
def R_table_of_rows (ds : List D) (d : D) : Prop := ∃ (c : Pl) (sh pr : List (List Int)), ds = [plD c, LT sh, LL pr] ∧ (c.Ok ∧ c.rm = true ∧ Mx c.p (rmB c) c.k sh ∧ Mx c.p c.k c.k pr ∧ ∀ a < rmB c, Inj c.p (rmB c) (othR sh c.k a)) ∧ d = LT (tabB c.p (rmB c) c.k sh pr)
theorem d_table_of_rows (T : Txt K mg) : Def P w K mg base CX0 "table_of_rows" 4 P_table_of_rows (SpP K R_table_of_rows) := by
  obtain ⟨hm, fd, F⟩ := T.f_table_of_rows
  refine mk_def hm F (pure_ok F sc_table_of_rows (fun ds d ⟨i, _, _, h, _⟩ => by rw [h]; rfl) fun cdv A outer s H E ds d hr hR => ?_) (fun _ _ _ _ _ _ us hl => match us, hl with | [_, _, _], _ => rfl)
  obtain ⟨c, sh, pr, rfl, ⟨hc, hrm, hM, hM2, hJ⟩, rfl⟩ := hR
  show WS _ _ [.dat (plD c), .dat (LT sh), .dat (LL pr), .un, .un, .un, .un, .un, .un, .un] _ _
  have nd := sc_table_of_rows.nd
  have hp := pr_pk hc.pr
  have hI := pr_iv hc.pr
  have hk := hc.k
  have hh : rmB c = c.k - 1 := by unfold rmB; rw [hrm]; rfl
  have hd := hc.sm
  have hro := hc.ro hrm
  have hshl : sh.length = c.k := hM.1
  refine w_cons (w_par 3 4 (x_e (e_ixT (i := 0) rfl (v 0 rfl) c_int) ⟨nofun, x_e (t_room T (hr.mono (by decide)) hc (v 0 rfl)) ⟨nofun, ?_⟩⟩) (.inl rfl) rfl nd)
  show WS _ _ [.dat (plD c), .dat (LT sh), .dat (LL pr), .dat (I c.p), .dat (I (rmB c)), .un, .un, .un, .un, .un] _ _
  refine w_cons (w_setO 5 (l_lst a_nil (by decide)) ?_ (.inl rfl) nd)
  refine w_cons (w_for (fun i ρ => ∃ s6 s7 s8, ρ = [.dat (plD c), .dat (LT sh), .dat (LL pr), .dat (I c.p), .dat (I (rmB c)), .own (((List.range i).map (ansB c.p (rmB c) c.k sh pr)).map TI), s6, s7, s8, .un]) (i_rng1 T.n_range (by omega) (v 4 rfl)) (dg_n (j := 6) nd) (.inl rfl) rfl ⟨_, _, _, rfl⟩ ?_ ?_)
  · rintro i d ρ' hd ⟨s6, s7, s8, rfl⟩
    have hi : i < rmB c := by
      have := (List.getElem?_eq_some_iff.mp hd).1
      simpa using this
    have hdi : d = I (i : Int) := by
      rw [List.getElem?_map, List.getElem?_range (by simpa using hi)] at hd
      exact (Option.some.inj hd).symm
    subst hdi
    have hik : i < c.k := by omega
    have hol := oth_len hik
    generalize hfo : Slot.own (((List.range i).map (ansB c.p (rmB c) c.k sh pr)).map TI) = fo
    refine ⟨_, rfl, ?_⟩
    show WS _ _ [.dat (plD c), .dat (LT sh), .dat (LL pr), .dat (I c.p), .dat (I (rmB c)), fo, .dat (I i), s7, s8, .un] _ _
    refine w_cons (w_setL 7 (ds := (othB c.k i).map fun (o : Nat) => I (o : Int)) (lc1 (own := [("other", 9)]) (List.range c.k) (fun o => I (o : Int)) (fun o => [.dat (plD c), .dat (LT sh), .dat (LL pr), .dat (I c.p), .dat (I (rmB c)), fo, .dat (I i), s7, s8, .dat (I o)]) (fun o => !decide (o = i)) (fun o => I (o : Int)) rfl nd (blkOk_by (N := N_table_of_rows) (sc := defScope s_table_of_rows) (by decide +kernel)) (by simp; omega)
      ((i_rng1 T.n_range (by simp [hshl]; omega) (e_lenL T.n_len (v 1 rfl))).is (by simp [hshl])).o (fun _ _ _ _ _ => dg_n (j := 9) nd) (by decide) (fun a _ => by rfl) (fun o ho _ _ _ _ _ => ts_one ((t_nei (v 9 rfl) (v 6 rfl)).is ?_)) (fun o _ _ _ _ _ _ _ => v 9 rfl)) ?_ (.inl rfl))
    · congr 1
      exact decide_eq_decide.mpr (by omega)
    show WS _ _ [.dat (plD c), .dat (LT sh), .dat (LL pr), .dat (I c.p), .dat (I (rmB c)), fo, .dat (I i), .dat (LN (othB c.k i)), s8, .un] _ _
    have prr := hM2.row hik
    refine w_cons (w_setL 8 (ds := (othP pr c.k i).map PyData.int) (Lc.is (lcn (own := [("other", 9)]) (othB c.k i) (fun o => I (o : Int)) (fun o => [.dat (plD c), .dat (LT sh), .dat (LL pr), .dat (I c.p), .dat (I (rmB c)), fo, .dat (I i), .dat (LN (othB c.k i)), s8, .dat (I o)]) (fun o => I ((pr.getD i []).getD o 0)) rfl nd (blkOk_by (N := N_table_of_rows) (sc := defScope s_table_of_rows) (by decide +kernel)) (by omega)
      (i_lst (v 7 rfl)).o rfl (fun _ _ _ _ _ => dg_n (j := 9) nd) (by decide) (fun a _ => by rfl) (fun o ho _ _ _ _ _ => e_ixL (at_map (get_of (by rw [prr.2.1]; exact (oth_mem ho).1) 0)) (e_ixL (at_map (f := LI) prr.1) (v 2 rfl) (v 6 rfl)) (v 9 rfl))) (by simp [othP])) ?_ (.inl rfl))
    have m1 := othR_mx hM hik
    have m2 := othP_rw hM2 hik
    rw [← hh] at m1 m2
    subst hfo
    show WS _ _ [.dat (plD c), .dat (LT sh), .dat (LL pr), .dat (I c.p), .dat (I (rmB c)), .own (((List.range i).map (ansB c.p (rmB c) c.k sh pr)).map TI), .dat (I i), .dat (LN (othB c.k i)), .dat (LI (othP pr c.k i)), .un] _ _
    refine w_one (w_app 5 rfl (e_call (d_answer_by T) hr ⟨c.p, othR sh c.k i, othP pr c.k i, rmB c, rmB c, rfl, ⟨hp, hI, m1, m2.1, m2.2, by omega, by omega, ans_full hp hI m1 m2.1 m2.2 (hJ i hi)⟩, rfl⟩ (a_cons (v 3 rfl) (a_cons ?_ (a_cons (v 8 rfl) (a_cons (v 4 rfl) a_nil))))) (by simp; omega) ?_)
    · refine (lcn (own := [("other", 9)]) (othB c.k i) (fun o => I (o : Int)) (fun o => [.dat (plD c), .dat (LT sh), .dat (LL pr), .dat (I c.p), .dat (I (rmB c)), .own (((List.range i).map (ansB c.p (rmB c) c.k sh pr)).map TI), .dat (I i), .dat (LN (othB c.k i)), .dat (LI (othP pr c.k i)), .dat (I o)]) (fun o => TI (sh.getD o [])) rfl nd (blkOk_by (N := N_table_of_rows) (sc := defScope s_table_of_rows) (by decide +kernel)) (by omega)
        (i_lst (v 7 rfl)).o rfl (fun _ _ _ _ _ => dg_n (j := 9) nd) (by decide) (fun a _ => by rfl) (fun o ho _ _ _ _ _ => e_ixL (at_map (f := TI) (hM.row (oth_mem ho).1).1) (v 1 rfl) (v 9 rfl))).e.e.is (by simp [othR])
    · exact ⟨_, _, _, by rw [List.range_succ, List.map_append, List.map_append]; rfl⟩
  · rintro ρ' ⟨s6, s7, s8, rfl⟩
    rw [List.length_map, List.length_range, Int.toNat_natCast]
    have m3 := fnd_mx hp hh hk.1 hM hM2
    refine w_frz 5 rfl (.inl rfl) (w_one (w_ret (e_call (d_solved T) hr ⟨c.p, sh.take (rmB c), fndB c.p (rmB c) c.k sh pr, rmB c, rmB c, rmB c, rmB c, rfl, ⟨hp, hI, mx_take hM (by omega), m3, by omega, by omega, by omega⟩, rfl⟩ (a_cons (v 3 rfl) (a_cons ((l_slL (v 1 rfl) o_none (o_some (v 4 rfl))).e.is (by rw [cut_map, cut_to])) (a_cons (v 5 rfl) (a_cons (v 4 rfl) a_nil))))) rfl))
end
/-! ### letters -/
def hdB (c : Pl) (sh : List Nat) : List (List Int) := sh.map fun s => (lineB c s).take c.k
def tlB (c : Pl) (sh : List Nat) : List (List Int) := sh.map fun s => (lineB c s).drop c.k
def besB (c : Pl) (sh : List Nat) (pcs : List (List Int)) : List (List Int) := (stairsAt c.p (aug2 (hdB c sh) (pcs.map fun r => r.drop c.k)) c.k).1.map fun r => r.drop c.k
def takB (c : Pl) (sh : List Nat) (pcs : List (List Int)) : List (List Int) := mulB c.p (tlB c sh) (flipB (besB c sh pcs) (c.d - c.k)) c.k
def lefB (c : Pl) (sh : List Nat) (pcs : List (List Int)) : List (List Int) := (pcs.zip (takB c sh pcs)).map fun q => lessB c.p (q.1.take c.k) q.2 1
def firB (c : Pl) (sh : List Nat) (pcs : List (List Int)) : List (List Int) := (stairsAt c.p (aug2 (hdB c sh) (lefB c sh pcs)) c.k).1.map fun r => r.drop c.k
def letB (c : Pl) (sh : List Nat) (pcs : List (List Int)) : List Int := (List.range c.k).flatMap fun r => (((firB c sh pcs).getD r []).drop r ++ (besB c sh pcs).getD r []).map id
structure Sh (c : Pl) (sh : List Nat) : Prop where
  l : sh.length = c.k
  lt : ∀ s ∈ sh, s < c.n
  nd : sh.Nodup
structure Pcs (c : Pl) (sh : List Nat) (pcs : List (List Int)) : Prop where
  l : pcs.length = sh.length
  r : ∀ r ∈ pcs, RowOk c r
theorem hd_mx {c : Pl} {sh : List Nat} (hc : c.Ok) (hs : Sh c sh) (hd : c.k ≤ c.d) : Mx c.p c.k c.k (hdB c sh) := ⟨by unfold hdB; rw [List.length_map]; exact hs.l, fun r hr => by
  obtain ⟨s, hs, rfl⟩ := List.mem_map.mp hr
  exact ⟨by rw [List.length_take, line_len]; omega, fun x hx => line_rw hc s x (List.mem_of_mem_take hx)⟩⟩
theorem tl_mx {c : Pl} {sh : List Nat} (hc : c.Ok) (hs : Sh c sh) : Mx c.p (c.d - c.k) c.k (tlB c sh) := ⟨by unfold tlB; rw [List.length_map]; exact hs.l, fun r hr => by
  obtain ⟨s, hs, rfl⟩ := List.mem_map.mp hr
  exact ⟨by rw [List.length_drop, line_len], fun x hx => line_rw hc s x (List.mem_of_mem_drop hx)⟩⟩
theorem pc_mx {c : Pl} {sh : List Nat} {pcs : List (List Int)} (hs : Sh c sh) (hp : Pcs c sh pcs) : Mx c.p (rmB c) c.k pcs := ⟨by rw [hp.l, hs.l], fun r hr => hp.r r hr⟩
theorem bes_mx {c : Pl} {sh : List Nat} {pcs : List (List Int)} (hc : c.Ok) (hrm : c.rm = false) (hs : Sh c sh) (hp : Pcs c sh pcs) : Mx c.p (c.d - c.k) c.k (besB c sh pcs) := by
  have hd := (hc.lt hrm).2.1
  have hr : rmB c = c.d := by unfold rmB; rw [hrm]; rfl
  have m := aug2_ok (hd_mx hc hs hd) (mx_drop (w := c.k) (pc_mx hs hp))
  have := mx_drop (w := c.k) (at_ok (pr_pk hc.pr) m c.k).1
  rw [hr] at this
  rwa [Nat.add_sub_cancel_left] at this
theorem flip_mx {p : Int} {L n m : Nat} {rs : List (List Int)} (hp : Pk p) (h : Mx p L n rs) : Mx p n m (flipB rs m) := ⟨by simp [flipB], fun r hr => by
  have := flip_ok hp (fun r hr => (h.2 r hr).2) r hr
  exact ⟨by rw [this.2, h.1], this.1⟩⟩
theorem mul_mx {p : Int} {L n m m2 : Nat} {one two : List (List Int)} (hp : Pk p) (h : Mx p L n one) : Mx p m n (mulB p one two m) := ⟨by simp [mulB, h.1], fun r hr => by
  obtain ⟨a, ha, rfl⟩ := List.mem_map.mp hr
  exact ⟨by simp [mixB, ledB, flipB], rw_md hp _ _⟩⟩
theorem lef_mx {c : Pl} {sh : List Nat} {pcs : List (List Int)} (hc : c.Ok) (hrm : c.rm = false) (hs : Sh c sh) (hp : Pcs c sh pcs) : Mx c.p c.k c.k (lefB c sh pcs) := by
  have hd := (hc.lt hrm).2.1
  have hr : rmB c = c.d := by unfold rmB; rw [hrm]; rfl
  have hpk := pr_pk hc.pr
  have mt : Mx c.p c.k c.k (takB c sh pcs) := mul_mx (m2 := 0) hpk (tl_mx hc hs)
  have mp := pc_mx hs hp
  refine ⟨by unfold lefB; rw [List.length_map, List.length_zip, mp.1, mt.1, Nat.min_self], fun r hr' => ?_⟩
  obtain ⟨q, hq, rfl⟩ := List.mem_map.mp hr'
  obtain ⟨h1, h2⟩ := List.of_mem_zip hq
  exact ⟨by rw [less_len, List.length_take, (mp.2 _ h1).1, (mt.2 _ h2).1]; omega, rw_less hpk _ _ _⟩
theorem fir_mx {c : Pl} {sh : List Nat} {pcs : List (List Int)} (hc : c.Ok) (hrm : c.rm = false) (hs : Sh c sh) (hp : Pcs c sh pcs) : Mx c.p c.k c.k (firB c sh pcs) := by
  have hd := (hc.lt hrm).2.1
  have m := aug2_ok (hd_mx hc hs hd) (lef_mx hc hrm hs hp)
  have := mx_drop (w := c.k) (at_ok (pr_pk hc.pr) m c.k).1
  rwa [Nat.add_sub_cancel_left] at this
section
variable {P : Program} {w : World} {K : PySem.W.Frag} {mg : Str → Option Value} {base : Heap}
def R_lettered_message (ds : List D) (d : D) : Prop := ∃ (c : Pl) (sh : List Nat) (pcs : List (List Int)), ds = [plD c, LN sh, LT pcs] ∧ (c.Ok ∧ c.rm = false ∧ Sh c sh ∧ Pcs c sh pcs) ∧ d = TI (letB c sh pcs)
theorem d_lettered_message (T : Txt K mg) : Def P w K mg base CX0 "lettered_message" 5 P_lettered_message (SpP K R_lettered_message) := by
  obtain ⟨hm, fd, F⟩ := T.f_lettered_message
  refine mk_def hm F (pure_ok F sc_lettered_message (fun ds d ⟨i, _, _, h, _⟩ => by rw [h]; rfl) fun cdv A outer s H E ds d hr hR => ?_) (fun _ _ _ _ _ _ us hl => match us, hl with | [_, _, _], _ => rfl)
  obtain ⟨c, sh, pcs, rfl, ⟨hc, hrm, hs, hpc⟩, rfl⟩ := hR
  show WS _ _ [.dat (plD c), .dat (LN sh), .dat (LT pcs), .un, .un, .un, .un, .un, .un, .un, .un, .un, .un, .un, .un, .un, .un, .un, .un] _ _
  have nd := sc_lettered_message.nd
  have hp := pr_pk hc.pr
  have hI := pr_iv hc.pr
  have hk := hc.k
  have hd := hc.lt hrm
  have hsm := hc.sm
  have hr2 : rmB c = c.d := by unfold rmB; rw [hrm]; rfl
  have mp := pc_mx hs hpc
  have mh := hd_mx hc hs hd.2.1
  have mt := tl_mx hc hs
  have mb := bes_mx hc hrm hs hpc
  have ml := lef_mx hc hrm hs hpc
  have mf := fir_mx hc hrm hs hpc
  have shl := hs.l
  refine w_cons (w_unp (js := [5, 4, 3]) (e_tup (a_cons (e_ixT (i := 0) rfl (v 0 rfl) c_int) (a_cons (e_ixT (i := 3) rfl (v 0 rfl) c_int) (a_cons (e_ixT (i := 4) rfl (v 0 rfl) c_int) a_nil))) (by simp)) (dg_t rfl (dgs_cons (j := 3) nd (dgs_cons (j := 4) nd (dgs_cons (j := 5) nd dgs_nil)))) ⟨_, rfl, rfl, rfl⟩ ?_ (.inl rfl))
  show WS _ _ [.dat (plD c), .dat (LN sh), .dat (LT pcs), .dat (I c.p), .dat (I c.k), .dat (I c.d), .un, .un, .un, .un, .un, .un, .un, .un, .un, .un, .un, .un, .un] _ _
  refine w_cons (w_setL 6 (ds := (sh.map (lineB c)).map TI) (Lc.is (lcn (own := [("shelf", 13)]) sh (fun s => I (s : Int)) (fun s => [.dat (plD c), .dat (LN sh), .dat (LT pcs), .dat (I c.p), .dat (I c.k), .dat (I c.d), .un, .un, .un, .un, .un, .un, .un, .dat (I s), .un, .un, .un, .un, .un]) (fun s => TI (lineB c s)) rfl nd (blkOk_by (N := N_lettered_message) (sc := defScope s_lettered_message) (by decide +kernel)) (by omega)
    (i_lst (v 1 rfl)).o rfl (fun _ _ _ _ _ => dg_n (j := 13) nd) (by decide) (fun a _ => by rfl) (fun s hs' _ _ _ _ _ => e_call (d_line_by T) hr ⟨c, s, rfl, ⟨hc, hs.lt s hs'⟩, rfl⟩ (a_cons (v 0 rfl) (a_cons (v 13 rfl) a_nil)))) (by simp)) ?_ (.inl rfl))
  show WS _ _ [.dat (plD c), .dat (LN sh), .dat (LT pcs), .dat (I c.p), .dat (I c.k), .dat (I c.d), .dat (LT (sh.map (lineB c))), .un, .un, .un, .un, .un, .un, .un, .un, .un, .un, .un, .un] _ _
  refine w_cons (w_par 7 8 (x_e (d := LT (hdB c sh)) ?_ ⟨nofun, x_e (d := LT (tlB c sh)) ?_ ⟨nofun, ?_⟩⟩) (.inl rfl) rfl nd)
  · refine (lcn (own := [("line", 14)]) (sh.map (lineB c)) TI (fun r => [.dat (plD c), .dat (LN sh), .dat (LT pcs), .dat (I c.p), .dat (I c.k), .dat (I c.d), .dat (LT (sh.map (lineB c))), .un, .un, .un, .un, .un, .un, .un, .dat (TI r), .un, .un, .un, .un]) (fun r => TI (r.take c.k)) rfl nd (blkOk_by (N := N_lettered_message) (sc := defScope s_lettered_message) (by decide +kernel)) (by simp; omega)
      (i_lst (v 6 rfl)).o rfl (fun _ _ _ _ _ => dg_n (j := 14) nd) (by decide) (fun a _ => by rfl) (fun r _ _ _ _ _ _ => (e_slT (v 14 rfl) o_none (o_some (v 4 rfl))).is (by rw [cut_map, cut_to]))).e.e.is (by simp [hdB])
  · refine (lcn (own := [("line", 14)]) (sh.map (lineB c)) TI (fun r => [.dat (plD c), .dat (LN sh), .dat (LT pcs), .dat (I c.p), .dat (I c.k), .dat (I c.d), .dat (LT (sh.map (lineB c))), .un, .un, .un, .un, .un, .un, .un, .dat (TI r), .un, .un, .un, .un]) (fun r => TI (r.drop c.k)) rfl nd (blkOk_by (N := N_lettered_message) (sc := defScope s_lettered_message) (by decide +kernel)) (by simp; omega)
      (i_lst (v 6 rfl)).o rfl (fun _ _ _ _ _ => dg_n (j := 14) nd) (by decide) (fun a _ => by rfl) (fun r _ _ _ _ _ _ => (e_slT (v 14 rfl) (o_some (v 4 rfl)) o_none).is (by rw [cut_map, cut_from]))).e.e.is (by simp [tlB])
  show WS _ _ [.dat (plD c), .dat (LN sh), .dat (LT pcs), .dat (I c.p), .dat (I c.k), .dat (I c.d), .dat (LT (sh.map (lineB c))), .dat (LT (hdB c sh)), .dat (LT (tlB c sh)), .un, .un, .un, .un, .un, .un, .un, .un, .un, .un] _ _
  refine w_cons (w_set 9 (d := LT (besB c sh pcs)) (e_call (d_solved T) (hr.mono (by decide)) ⟨c.p, hdB c sh, pcs.map (fun r => r.drop c.k), c.k, c.k, rmB c - c.k, c.k, rfl, ⟨hp, hI, mh, mx_drop mp, by omega, by omega, by omega⟩, rfl⟩ (a_cons (v 3 rfl) (a_cons (v 7 rfl) (a_cons ?_ (a_cons (v 4 rfl) a_nil))))) ?_ (.inl rfl) nd)
  · refine (lcn (own := [("piece", 15)]) pcs TI (fun r => [.dat (plD c), .dat (LN sh), .dat (LT pcs), .dat (I c.p), .dat (I c.k), .dat (I c.d), .dat (LT (sh.map (lineB c))), .dat (LT (hdB c sh)), .dat (LT (tlB c sh)), .un, .un, .un, .un, .un, .un, .dat (TI r), .un, .un, .un]) (fun r => TI (r.drop c.k)) rfl nd (blkOk_by (N := N_lettered_message) (sc := defScope s_lettered_message) (by decide +kernel)) (by have := mp.1; omega)
      (i_lst (v 2 rfl)).o rfl (fun _ _ _ _ _ => dg_n (j := 15) nd) (by decide) (fun a _ => by rfl) (fun r _ _ _ _ _ _ => (e_slT (v 15 rfl) (o_some (v 4 rfl)) o_none).is (by rw [cut_map, cut_from]))).e.e.is (by simp)
  show WS _ _ [.dat (plD c), .dat (LN sh), .dat (LT pcs), .dat (I c.p), .dat (I c.k), .dat (I c.d), .dat (LT (sh.map (lineB c))), .dat (LT (hdB c sh)), .dat (LT (tlB c sh)), .dat (LT (besB c sh pcs)), .un, .un, .un, .un, .un, .un, .un, .un, .un] _ _
  have mfl : Mx c.p c.k (c.d - c.k) (flipB (besB c sh pcs) (c.d - c.k)) := flip_mx hp mb
  refine w_cons (w_set 10 (d := TR (takB c sh pcs)) (e_call (d_multiplied T) hr ⟨c.p, tlB c sh, flipB (besB c sh pcs) (c.d - c.k), LT (tlB c sh), TR (flipB (besB c sh pcs) (c.d - c.k)), c.k, rfl, .inr rfl, .inl rfl, ⟨hp, by have := mt.1; omega, by have := mfl.1; omega, by omega, fun r hr' => ⟨by have := (mfl.2 r hr').1; omega, (mfl.2 r hr').2⟩⟩, rfl⟩ (a_cons (v 3 rfl) (a_cons (v 8 rfl) (a_cons (e_call (d_flipped T) (hr.mono (by decide)) ⟨besB c sh pcs, LT (besB c sh pcs), c.d - c.k, rfl, .inr rfl, ⟨by have := mb.1; omega, by omega, fun r hr' => by have := (mb.2 r hr').1; omega⟩, rfl⟩ (a_cons (v 9 rfl) (a_cons ((sub (v 5 rfl) (v 4 rfl)).is ?_) a_nil))) (a_cons (v 4 rfl) a_nil))))) ?_ (.inl rfl) nd)
  · show PyData.int _ = PyData.int _
    congr 1
    omega
  show WS _ _ [.dat (plD c), .dat (LN sh), .dat (LT pcs), .dat (I c.p), .dat (I c.k), .dat (I c.d), .dat (LT (sh.map (lineB c))), .dat (LT (hdB c sh)), .dat (LT (tlB c sh)), .dat (LT (besB c sh pcs)), .dat (TR (takB c sh pcs)), .un, .un, .un, .un, .un, .un, .un, .un] _ _
  have mtk : Mx c.p c.k c.k (takB c sh pcs) := mul_mx (m2 := 0) hp mt
  refine w_cons (w_setL 11 (ds := (lefB c sh pcs).map TI) (Lc.is (lcn (own := [("piece", 15), ("each", 16)]) (pcs.zip (takB c sh pcs)) (fun q => .tuple [TI q.1, TI q.2]) (fun q => [.dat (plD c), .dat (LN sh), .dat (LT pcs), .dat (I c.p), .dat (I c.k), .dat (I c.d), .dat (LT (sh.map (lineB c))), .dat (LT (hdB c sh)), .dat (LT (tlB c sh)), .dat (LT (besB c sh pcs)), .dat (TR (takB c sh pcs)), .un, .un, .un, .un, .dat (TI q.1), .dat (TI q.2), .un, .un]) (fun q => TI (lessB c.p (q.1.take c.k) q.2 1)) rfl nd (blkOk_by (N := N_lettered_message) (sc := defScope s_lettered_message) (by decide +kernel)) (by rw [List.length_zip]; have := mp.1; omega)
    (i_zipM false true T.n_zip (v 2 rfl) (v 10 rfl)).o (zipD_map _ _ pcs _) (fun _ _ _ _ _ => dg_t rfl (dgs_cons (j := 15) nd (dgs_cons (j := 16) nd dgs_nil))) (by decide) (fun q _ => ⟨[TI q.1, TI q.2], rfl, rfl, rfl⟩) (fun q hq _ _ _ _ _ => ?_)) (by simp [lefB])) ?_ (.inl rfl))
  · have z := mtk.2 _ (List.of_mem_zip hq).2
    exact e_call (d_row_less T) (hr.mono (by decide)) ⟨c.p, 1, q.1.take c.k, q.2, rfl, ⟨hp, z.2.sm hp, by have := z.1; omega⟩, rfl⟩ (a_cons (v 3 rfl) (a_cons ((e_slT (v 15 rfl) o_none (o_some (v 4 rfl))).is (by rw [cut_map, cut_to])) (a_cons (v 16 rfl) (a_cons c_int a_nil))))
  show WS _ _ [.dat (plD c), .dat (LN sh), .dat (LT pcs), .dat (I c.p), .dat (I c.k), .dat (I c.d), .dat (LT (sh.map (lineB c))), .dat (LT (hdB c sh)), .dat (LT (tlB c sh)), .dat (LT (besB c sh pcs)), .dat (TR (takB c sh pcs)), .dat (LT (lefB c sh pcs)), .un, .un, .un, .un, .un, .un, .un] _ _
  refine w_cons (w_set 12 (d := LT (firB c sh pcs)) (e_call (d_solved T) (hr.mono (by decide)) ⟨c.p, hdB c sh, lefB c sh pcs, c.k, c.k, c.k, c.k, rfl, ⟨hp, hI, mh, ml, by omega, by omega, by omega⟩, rfl⟩ (a_cons (v 3 rfl) (a_cons (v 7 rfl) (a_cons (v 11 rfl) (a_cons (v 4 rfl) a_nil))))) ?_ (.inl rfl) nd)
  show WS _ _ [.dat (plD c), .dat (LN sh), .dat (LT pcs), .dat (I c.p), .dat (I c.k), .dat (I c.d), .dat (LT (sh.map (lineB c))), .dat (LT (hdB c sh)), .dat (LT (tlB c sh)), .dat (LT (besB c sh pcs)), .dat (TR (takB c sh pcs)), .dat (LT (lefB c sh pcs)), .dat (LT (firB c sh pcs)), .un, .un, .un, .un, .un, .un] _ _
  have few : ((List.range c.k).flatMap fun r => (((firB c sh pcs).getD r []).drop r ++ (besB c sh pcs).getD r []).map PyData.int).length ≤ 50000 := by
    have key : ∀ (l : List Nat) (g : Nat → List D) (B : Nat), (∀ r ∈ l, (g r).length ≤ B) → (l.flatMap g).length ≤ l.length * B := fun l g B => by
      induction l with
      | nil => intro _; simp
      | cons a t ih =>
        intro h
        rw [List.flatMap_cons, List.length_append, List.length_cons, Nat.add_mul]
        have := h a List.mem_cons_self
        have := ih fun r hr => h r (List.mem_cons_of_mem _ hr)
        omega
    have := key (List.range c.k) (fun r => (((firB c sh pcs).getD r []).drop r ++ (besB c sh pcs).getD r []).map PyData.int) 100 fun r hr' => by
      have hrk := List.mem_range.mp hr'
      rw [List.length_map, List.length_append, List.length_drop, (mf.row hrk).2.1, (mb.row hrk).2.1]
      omega
    rw [List.length_range] at this
    omega
  refine w_one (w_ret (e_tupL T.n_tuple (DL.e (Lc.is (lc2 (own := [("row", 17), ("number", 18)]) (List.range c.k) (fun r => I (r : Int)) (fun r => [.dat (plD c), .dat (LN sh), .dat (LT pcs), .dat (I c.p), .dat (I c.k), .dat (I c.d), .dat (LT (sh.map (lineB c))), .dat (LT (hdB c sh)), .dat (LT (tlB c sh)), .dat (LT (besB c sh pcs)), .dat (TR (takB c sh pcs)), .dat (LT (lefB c sh pcs)), .dat (LT (firB c sh pcs)), .un, .un, .un, .un, .dat (I r), .un])
    (fun r => ((firB c sh pcs).getD r []).drop r ++ (besB c sh pcs).getD r []) (fun r x => I x) (fun r x => [.dat (plD c), .dat (LN sh), .dat (LT pcs), .dat (I c.p), .dat (I c.k), .dat (I c.d), .dat (LT (sh.map (lineB c))), .dat (LT (hdB c sh)), .dat (LT (tlB c sh)), .dat (LT (besB c sh pcs)), .dat (TR (takB c sh pcs)), .dat (LT (lefB c sh pcs)), .dat (LT (firB c sh pcs)), .un, .un, .un, .un, .dat (I r), .dat (I x)]) (fun r x => I x) rfl nd
    (blkOk_by (N := N_lettered_message) (sc := defScope s_lettered_message) (by decide +kernel)) few (.of rfl) ((i_rng1 T.n_range (by omega) (v 4 rfl)).is (by simp)) (fun _ _ _ _ _ => dg_n (j := 17) nd) (by decide) (fun a _ => by rfl) (fun a _ => .of rfl)
    (fun r hr' _ _ _ _ _ => ?_) (fun _ _ _ _ _ => dg_n (j := 18) nd) (by decide) (fun a _ b _ => by rfl) (fun r hr' x hx _ _ _ _ _ => v 18 rfl)) rfl).e)) ?_)
  · have hrk := List.mem_range.mp hr'
    have f1 := mf.row hrk
    have b1 := mb.row hrk
    exact i_tup ((e_catT (by rw [List.length_map, List.length_map, List.length_drop]; have := f1.2.1; have := b1.2.1; omega) ((e_slT (e_ixL (at_map (f := TI) f1.1) (v 12 rfl) (v 17 rfl)) (o_some (v 17 rfl)) o_none).is (d' := TI (((firB c sh pcs).getD r []).drop r)) (by rw [cut_map, cut_from])) (e_ixL (at_map (f := TI) b1.1) (v 9 rfl) (v 17 rfl))).is (by simp))
  · show PyData.tuple _ = PyData.tuple _
    unfold letB
    rw [List.map_flatMap]
    simp
end
end Lm
set_option maxRecDepth 100000
set_option maxHeartbeats 4000000
/-! roomy_message, message_by. -/
namespace Lm
open PySem PySem.Spec PyProof.Rows L2 Evl
def NO (s : Slot) : Prop := ∀ es, s ≠ Slot.own es
theorem no_dat {d : D} : NO (.dat d) := nofun
theorem no_un : NO .un := nofun
theorem NoOwn.mem {ρ : En} (h : ∀ s ∈ ρ, NO s) : NoOwn ρ := fun i es e => h _ (List.mem_of_getElem? e) es rfl
theorem enum_range (xs : List Int) : enumD (xs.map PyData.int) = (List.range xs.length).map fun (i : Nat) => PyData.tuple [I (i : Int), I (xs.getD i 0)] := by
  refine List.ext_getElem? fun i => ?_
  unfold enumD
  rw [List.getElem?_map, List.getElem?_zipIdx, List.getElem?_map, List.getElem?_map]
  by_cases h : i < xs.length
  · rw [List.getElem?_range h, get_of h 0]
    simp
  · rw [List.getElem?_eq_none (by omega), List.getElem?_eq_none (by simpa using h)]
    rfl
def shB (c : Pl) (sh : List Nat) : List (List Int) := sh.map (shortB c)
def pwB (c : Pl) (sh : List Nat) : List Int := sh.map (lastB c)
def toldB (c : Pl) (sh : List Nat) (pcs : List (List Int)) : List (List Int) := pcs.map (ledB c.p (shB c sh))
def pairB (c : Pl) (sh : List Nat) (pcs : List (List Int)) (a b : Nat) : Int × Int := if b = a then (0, 0) else parB c.p (en (toldB c sh pcs) a b) (en (toldB c sh pcs) b a) ((pwB c sh).getD a 0) (invB c.p (((pwB c sh).getD a 0 - (pwB c sh).getD b 0) % c.p))
def fstB (c : Pl) (sh : List Nat) (pcs : List (List Int)) : List (List Int) := (List.range c.k).map fun a => (List.range c.k).map fun b => (pairB c sh pcs a b).1
def latB (c : Pl) (sh : List Nat) (pcs : List (List Int)) : List (List Int) := (List.range c.k).map fun a => (List.range c.k).map fun b => (pairB c sh pcs a b).2
def tabsB (c : Pl) (sh : List Nat) (pcs : List (List Int)) : List (List (List Int)) := [tabB c.p (rmB c) c.k (shB c sh) (fstB c sh pcs), tabB c.p (rmB c) c.k (shB c sh) (latB c sh pcs)]
def rooB (c : Pl) (sh : List Nat) (pcs : List (List Int)) : List Int := (tabsB c sh pcs).flatMap fun t => (List.range (rmB c)).flatMap fun r => ((t.getD r []).drop r).map id
structure RoomOk (c : Pl) (sh : List Nat) : Prop where
  pw : ∀ a b, a < c.k → b < c.k → a ≠ b → ((pwB c sh).getD a 0 - (pwB c sh).getD b 0) % c.p ≠ 0
  inj : ∀ a < rmB c, Inj c.p (rmB c) (othR (shB c sh) c.k a)
theorem sh_mx {c : Pl} {sh : List Nat} (hc : c.Ok) (hs : Sh c sh) : Mx c.p (rmB c) c.k (shB c sh) := ⟨by unfold shB; rw [List.length_map]; exact hs.l, fun r hr => by
  obtain ⟨s, hs, rfl⟩ := List.mem_map.mp hr
  have := hc.sm
  exact ⟨by unfold shortB; rw [List.length_take, line_len]; omega, fun x hx => line_rw hc s x (List.mem_of_mem_take hx)⟩⟩
theorem told_mx {c : Pl} {sh : List Nat} {pcs : List (List Int)} (hc : c.Ok) (hs : Sh c sh) (hp : Pcs c sh pcs) : Mx c.p c.k c.k (toldB c sh pcs) := ⟨by unfold toldB; rw [List.length_map, hp.l, hs.l], fun r hr => by
  obtain ⟨a, ha, rfl⟩ := List.mem_map.mp hr
  exact ⟨by simp [ledB, shB, hs.l], rw_md (pr_pk hc.pr) _ _⟩⟩
theorem last_rw {c : Pl} (hc : c.Ok) (s : Nat) : 0 ≤ lastB c s ∧ lastB c s < c.p := by
  have hp := pr_bd hc.pr
  unfold lastB
  cases c.k - 1 with
  | zero =>
    show (0 : Int) ≤ 1 ∧ (1 : Int) < c.p
    omega
  | succ n => exact md_ok (pr_pk hc.pr) _
theorem pw_at {c : Pl} {sh : List Nat} (hc : c.Ok) (hs : Sh c sh) {a : Nat} (ha : a < c.k) : (pwB c sh)[a]? = some ((pwB c sh).getD a 0) ∧ 0 ≤ (pwB c sh).getD a 0 ∧ (pwB c sh).getD a 0 < c.p := by
  have e : (pwB c sh)[a]? = some ((pwB c sh).getD a 0) := get_of (by unfold pwB; rw [List.length_map, hs.l]; exact ha) 0
  obtain ⟨s, _, h⟩ := List.mem_map.mp (List.mem_of_getElem? e)
  rw [← h]
  exact ⟨by rw [h]; exact e, last_rw hc s⟩
theorem pair_ok {c : Pl} {sh : List Nat} {pcs : List (List Int)} (hc : c.Ok) (a b : Nat) : (0 ≤ (pairB c sh pcs a b).1 ∧ (pairB c sh pcs a b).1 < c.p) ∧ 0 ≤ (pairB c sh pcs a b).2 ∧ (pairB c sh pcs a b).2 < c.p := by
  have hp := pr_bd hc.pr
  unfold pairB
  split
  · exact ⟨⟨by decide, by show (0 : Int) < c.p; omega⟩, by decide, by show (0 : Int) < c.p; omega⟩
  · exact ⟨md_ok (pr_pk hc.pr) _, md_ok (pr_pk hc.pr) _⟩
theorem fst_mx {c : Pl} {sh : List Nat} {pcs : List (List Int)} (hc : c.Ok) : Mx c.p c.k c.k (fstB c sh pcs) := ⟨by simp [fstB], fun r hr => by
  obtain ⟨a, ha, rfl⟩ := List.mem_map.mp hr
  exact ⟨by simp, fun x hx => by
    obtain ⟨b, hb, rfl⟩ := List.mem_map.mp hx
    exact (pair_ok hc a b).1⟩⟩
theorem lat_mx {c : Pl} {sh : List Nat} {pcs : List (List Int)} (hc : c.Ok) : Mx c.p c.k c.k (latB c sh pcs) := ⟨by simp [latB], fun r hr => by
  obtain ⟨a, ha, rfl⟩ := List.mem_map.mp hr
  exact ⟨by simp, fun x hx => by
    obtain ⟨b, hb, rfl⟩ := List.mem_map.mp hx
    exact (pair_ok hc a b).2⟩⟩
theorem tabs_mx {c : Pl} {sh : List Nat} {pcs : List (List Int)} (hc : c.Ok) (hrm : c.rm = true) (hs : Sh c sh) : ∀ t ∈ tabsB c sh pcs, Mx c.p (rmB c) (rmB c) t := fun t ht => by
  have hk := hc.k
  have hh : rmB c = c.k - 1 := by unfold rmB; rw [hrm]; rfl
  have hp := pr_pk hc.pr
  unfold tabsB at ht
  simp only [List.mem_cons, List.not_mem_nil, or_false] at ht
  rcases ht with h | h
  · rw [h]
    exact tab_mx hp hh hk.1 (sh_mx hc hs) (fst_mx hc)
  · rw [h]
    exact tab_mx hp hh hk.1 (sh_mx hc hs) (lat_mx hc)
theorem flat_few {α β : Type} (l : List α) (g : α → List β) (B : Nat) (h : ∀ r ∈ l, (g r).length ≤ B) : (l.flatMap g).length ≤ l.length * B := by
  induction l with
  | nil => simp
  | cons a t ih =>
    rw [List.flatMap_cons, List.length_append, List.length_cons, Nat.add_mul]
    have := h a List.mem_cons_self
    have := ih fun r hr => h r (List.mem_cons_of_mem _ hr)
    omega
section
variable {P : Program} {w : World} {K : PySem.W.Frag} {mg : Str → Option Value} {base : Heap}
def R_roomy_message (ds : List D) (d : D) : Prop := ∃ (c : Pl) (sh : List Nat) (pcs : List (List Int)), ds = [plD c, LN sh, LT pcs] ∧ (c.Ok ∧ c.rm = true ∧ Sh c sh ∧ Pcs c sh pcs ∧ RoomOk c sh) ∧ d = TI (rooB c sh pcs)
theorem d_roomy_message (T : Txt K mg) : Def P w K mg base CX0 "roomy_message" 6 P_roomy_message (SpP K R_roomy_message) := by
  obtain ⟨hm, fd, F⟩ := T.f_roomy_message
  refine mk_def hm F (pure_ok F sc_roomy_message (fun ds d ⟨i, _, _, h, _⟩ => by rw [h]; rfl) fun cdv A outer s H E ds d hr hR => ?_) (fun _ _ _ _ _ _ us hl => match us, hl with | [_, _, _], _ => rfl)
  obtain ⟨c, sh, pcs, rfl, ⟨hc, hrm, hs, hpc, hro⟩, rfl⟩ := hR
  show WS _ _ [.dat (plD c), .dat (LN sh), .dat (LT pcs), .un, .un, .un, .un, .un, .un, .un, .un, .un, .un, .un, .un, .un, .un, .un, .un, .un, .un, .un, .un] _ _
  have nd := sc_roomy_message.nd
  have hp := pr_pk hc.pr
  have hp0 := pr_bd hc.pr
  have hI := pr_iv hc.pr
  have hk := hc.k
  have hsm := hc.sm
  have hh : rmB c = c.k - 1 := by unfold rmB; rw [hrm]; rfl
  have hd := hc.ro hrm
  have mp := pc_mx hs hpc
  have ms := sh_mx hc hs
  have mt := told_mx hc hs hpc
  have m1 := fst_mx (sh := sh) (pcs := pcs) hc
  have m2 := lat_mx (sh := sh) (pcs := pcs) hc
  have m3 := tabs_mx (pcs := pcs) hc hrm hs
  have shl := hs.l
  have pwl : (pwB c sh).length = c.k := by unfold pwB; rw [List.length_map, shl]
  refine w_cons (w_tup2 3 4 (x_e (e_ixT (i := 0) rfl (v 0 rfl) c_int) ⟨nofun, x_e (t_room T (hr.mono (by decide)) hc (v 0 rfl)) ⟨nofun, ?_⟩⟩) (.inl rfl) rfl nd)
  show WS _ _ [.dat (plD c), .dat (LN sh), .dat (LT pcs), .dat (I c.p), .dat (I (rmB c)), .un, .un, .un, .un, .un, .un, .un, .un, .un, .un, .un, .un, .un, .un, .un, .un, .un, .un] _ _
  refine w_cons (w_set 5 (d := LT (shB c sh)) ?_ ?_ (.inl rfl) nd)
  · refine (lcn (own := [("shelf", 14)]) sh (fun s => I (s : Int)) (fun s => [.dat (plD c), .dat (LN sh), .dat (LT pcs), .dat (I c.p), .dat (I (rmB c)), .un, .un, .un, .un, .un, .un, .un, .un, .un, .dat (I s), .un, .un, .un, .un, .un, .un, .un, .un]) (fun s => TI (shortB c s)) rfl nd (blkOk_by (N := N_roomy_message) (sc := defScope s_roomy_message) (by decide +kernel)) (by omega)
      (i_lst (v 1 rfl)).o rfl (fun _ _ _ _ _ => dg_n (j := 14) nd) (by decide) (fun a _ => by rfl) (fun s hs' _ _ _ _ _ => e_call (d_short_by T) hr ⟨c, s, rfl, ⟨hc, hs.lt s hs'⟩, rfl⟩ (a_cons (v 0 rfl) (a_cons (v 14 rfl) a_nil)))).e.e.is (by simp [shB])
  show WS _ _ [.dat (plD c), .dat (LN sh), .dat (LT pcs), .dat (I c.p), .dat (I (rmB c)), .dat (LT (shB c sh)), .un, .un, .un, .un, .un, .un, .un, .un, .un, .un, .un, .un, .un, .un, .un, .un, .un] _ _
  refine w_cons (w_setL 6 (ds := (pwB c sh).map PyData.int) (Lc.is (lcn (own := [("shelf", 14)]) sh (fun s => I (s : Int)) (fun s => [.dat (plD c), .dat (LN sh), .dat (LT pcs), .dat (I c.p), .dat (I (rmB c)), .dat (LT (shB c sh)), .un, .un, .un, .un, .un, .un, .un, .un, .dat (I s), .un, .un, .un, .un, .un, .un, .un, .un]) (fun s => I (lastB c s)) rfl nd (blkOk_by (N := N_roomy_message) (sc := defScope s_roomy_message) (by decide +kernel)) (by omega)
      (i_lst (v 1 rfl)).o rfl (fun _ _ _ _ _ => dg_n (j := 14) nd) (by decide) (fun a _ => by rfl) (fun s hs' _ _ _ _ _ => e_call (d_last_power T) (hr.mono (by decide)) ⟨c, s, rfl, ⟨hc, hs.lt s hs'⟩, rfl⟩ (a_cons (v 0 rfl) (a_cons (v 14 rfl) a_nil)))) (by simp [pwB])) ?_ (.inl rfl))
  show WS _ _ [.dat (plD c), .dat (LN sh), .dat (LT pcs), .dat (I c.p), .dat (I (rmB c)), .dat (LT (shB c sh)), .dat (LI (pwB c sh)), .un, .un, .un, .un, .un, .un, .un, .un, .un, .un, .un, .un, .un, .un, .un, .un] _ _
  refine w_cons (w_set 7 (d := LT (toldB c sh pcs)) ?_ ?_ (.inl rfl) nd)
  · refine (lcn (own := [("piece", 15)]) pcs TI (fun r => [.dat (plD c), .dat (LN sh), .dat (LT pcs), .dat (I c.p), .dat (I (rmB c)), .dat (LT (shB c sh)), .dat (LI (pwB c sh)), .un, .un, .un, .un, .un, .un, .un, .un, .dat (TI r), .un, .un, .un, .un, .un, .un, .un]) (fun r => TI (ledB c.p (shB c sh) r)) rfl nd (blkOk_by (N := N_roomy_message) (sc := defScope s_roomy_message) (by decide +kernel)) (by have := mp.1; omega)
      (i_lst (v 2 rfl)).o rfl (fun _ _ _ _ _ => dg_n (j := 15) nd) (by decide) (fun a _ => by rfl) (fun r hr' _ _ _ _ _ => e_call (d_led T) (hr.mono (by decide)) ⟨c.p, shB c sh, r, LT (shB c sh), rfl, .inr rfl, ⟨by omega, by have := ms.1; omega, fun a ha => ⟨(ms.2 a ha).2.sm hp, by have := (ms.2 a ha).1; omega⟩⟩, rfl⟩ (a_cons (v 3 rfl) (a_cons (v 5 rfl) (a_cons (v 15 rfl) a_nil))))).e.e.is (by simp [toldB])
  show WS _ _ [.dat (plD c), .dat (LN sh), .dat (LT pcs), .dat (I c.p), .dat (I (rmB c)), .dat (LT (shB c sh)), .dat (LI (pwB c sh)), .dat (LT (toldB c sh pcs)), .un, .un, .un, .un, .un, .un, .un, .un, .un, .un, .un, .un, .un, .un, .un] _ _
  refine w_cons (w_par 8 9 (x_l (l_lst a_nil (by decide)) ⟨nofun, x_l (l_lst a_nil (by decide)) ⟨nofun, ?_⟩⟩) (.inl rfl) rfl nd)
  refine w_cons (w_for (fun i ρ => ∃ s10 s11 s12, (NO s10 ∧ NO s11 ∧ NO s12) ∧ ρ = [.dat (plD c), .dat (LN sh), .dat (LT pcs), .dat (I c.p), .dat (I (rmB c)), .dat (LT (shB c sh)), .dat (LI (pwB c sh)), .dat (LT (toldB c sh pcs)), .own (((List.range i).map fun a => (List.range c.k).map fun b => (pairB c sh pcs a b).1).map LI), .own (((List.range i).map fun a => (List.range c.k).map fun b => (pairB c sh pcs a b).2).map LI), s10, s11, s12, .un, .un, .un, .un, .un, .un, .un, .un, .un, .un])
    (i_enumL T.n_enumerate (v 6 rfl)) (dg_t (n := 2) rfl (dgs_cons (j := 10) nd (dgs_cons (j := 11) nd dgs_nil))) (.inl rfl) rfl ⟨_, _, _, ⟨no_un, no_un, no_un⟩, rfl⟩ ?_ ?_)
  · rintro i d ρ' hd ⟨s10, s11, s12, hno, rfl⟩
    rw [enum_range, pwl, List.getElem?_map] at hd
    have hi : i < c.k := by
      refine Classical.byContradiction fun hn => ?_
      rw [List.getElem?_eq_none (by simpa using hn)] at hd
      cases hd
    rw [List.getElem?_range hi] at hd
    have hd := (Option.some.inj hd).symm
    subst hd
    have pa := pw_at hc hs hi
    have ta := mt.row hi
    generalize hf1 : Slot.own (((List.range i).map fun a => (List.range c.k).map fun b => (pairB c sh pcs a b).1).map LI) = f1
    generalize hf2 : Slot.own (((List.range i).map fun a => (List.range c.k).map fun b => (pairB c sh pcs a b).2).map LI) = f2
    refine ⟨_, ⟨_, rfl, rfl, rfl⟩, ?_⟩
    show WS _ _ [.dat (plD c), .dat (LN sh), .dat (LT pcs), .dat (I c.p), .dat (I (rmB c)), .dat (LT (shB c sh)), .dat (LI (pwB c sh)), .dat (LT (toldB c sh pcs)), f1, f2, .dat (I i), .dat (I ((pwB c sh).getD i 0)), s12, .un, .un, .un, .un, .un, .un, .un, .un, .un, .un] _ _
    refine w_cons (w_setL 12 (ds := (List.range c.k).map fun b => .tuple [I (pairB c sh pcs i b).1, I (pairB c sh pcs i b).2]) (lcn (own := [("to", 16), ("there", 17)]) (List.range c.k) (fun b => .tuple [I b, I ((pwB c sh).getD b 0)]) (fun b => [.dat (plD c), .dat (LN sh), .dat (LT pcs), .dat (I c.p), .dat (I (rmB c)), .dat (LT (shB c sh)), .dat (LI (pwB c sh)), .dat (LT (toldB c sh pcs)), f1, f2, .dat (I i), .dat (I ((pwB c sh).getD i 0)), s12, .un, .un, .un, .dat (I b), .dat (I ((pwB c sh).getD b 0)), .un, .un, .un, .un, .un]) (fun b => .tuple [I (pairB c sh pcs i b).1, I (pairB c sh pcs i b).2]) rfl nd
      (blkOk_by (N := N_roomy_message) (sc := defScope s_roomy_message) (by decide +kernel)) (by simp; omega) (i_enumL T.n_enumerate (v 6 rfl)).o (by rw [enum_range, pwl]) (fun _ _ _ _ _ => dg_t (n := 2) rfl (dgs_cons (j := 16) nd (dgs_cons (j := 17) nd dgs_nil))) (by decide) (fun b _ => ⟨[I b, I ((pwB c sh).getD b 0)], rfl, rfl, rfl⟩) (fun b hb _ _ _ _ _ => ?_)) ?_ (.inl rfl))
    · have hbk := List.mem_range.mp hb
      have tb := mt.row hbk
      have pb := pw_at hc hs hbk
      refine e_if (p := decide (b = i)) ((t_eqi (v 16 rfl) (v 10 rfl)).is (decide_eq_decide.mpr (by omega))) (fun h => ?_) (fun h => ?_)
      · have e : b = i := by simpa using h
        exact (e_tup (a_cons c_int (a_cons c_int a_nil)) (by simp)).is (by unfold pairB; rw [if_pos e])
      · have e : b ≠ i := by simpa using h
        have hne := hro.pw i b hi hbk (Ne.symm e)
        have hm := md_ok hp ((pwB c sh).getD i 0 - (pwB c sh).getD b 0)
        obtain ⟨y, y1, y2, y3, y4⟩ := hI _ (show 0 < ((pwB c sh).getD i 0 - (pwB c sh).getD b 0) % c.p by omega) hm.2
        have ey : invB c.p (((pwB c sh).getD i 0 - (pwB c sh).getD b 0) % c.p) = y := by
          unfold invB
          rw [List.headD_eq_head?_getD, y1]
          rfl
        refine e_call (d_parted T) (hr.mono (by decide)) ⟨c.p, en (toldB c sh pcs) i b, en (toldB c sh pcs) b i, (pwB c sh).getD i 0, (pwB c sh).getD b 0, y, rfl, ⟨hp, by omega, by omega, y2, y3, y1⟩, ?_⟩ (a_cons (v 3 rfl) (a_cons (e_ixT (at_map (get_of (by rw [ta.2.1]; exact hbk) 0)) (e_ixL (at_map (f := TI) ta.1) (v 7 rfl) (v 10 rfl)) (v 16 rfl)) (a_cons (e_ixT (at_map (get_of (by rw [tb.2.1]; exact hi) 0)) (e_ixL (at_map (f := TI) tb.1) (v 7 rfl) (v 16 rfl)) (v 10 rfl)) (a_cons (v 11 rfl) (a_cons (v 17 rfl) a_nil)))))
        unfold pairB
        rw [if_neg e, ey]
    subst hf1 hf2
    show WS _ _ [.dat (plD c), .dat (LN sh), .dat (LT pcs), .dat (I c.p), .dat (I (rmB c)), .dat (LT (shB c sh)), .dat (LI (pwB c sh)), .dat (LT (toldB c sh pcs)), .own (((List.range i).map fun a => (List.range c.k).map fun b => (pairB c sh pcs a b).1).map LI), .own (((List.range i).map fun a => (List.range c.k).map fun b => (pairB c sh pcs a b).2).map LI), .dat (I i), .dat (I ((pwB c sh).getD i 0)), .dat (.list ((List.range c.k).map fun b => .tuple [I (pairB c sh pcs i b).1, I (pairB c sh pcs i b).2])), .un, .un, .un, .un, .un, .un, .un, .un, .un, .un] _ _
    refine w_cons (w_app 8 rfl (d := LI ((List.range c.k).map fun b => (pairB c sh pcs i b).1)) ?_ (by simp; omega) ?_)
    · refine (lcn (own := [("pair", 18)]) (List.range c.k) (fun b => .tuple [I (pairB c sh pcs i b).1, I (pairB c sh pcs i b).2]) (fun b => [.dat (plD c), .dat (LN sh), .dat (LT pcs), .dat (I c.p), .dat (I (rmB c)), .dat (LT (shB c sh)), .dat (LI (pwB c sh)), .dat (LT (toldB c sh pcs)), .own (((List.range i).map fun a => (List.range c.k).map fun b => (pairB c sh pcs a b).1).map LI), .own (((List.range i).map fun a => (List.range c.k).map fun b => (pairB c sh pcs a b).2).map LI), .dat (I i), .dat (I ((pwB c sh).getD i 0)), .dat (.list ((List.range c.k).map fun b => .tuple [I (pairB c sh pcs i b).1, I (pairB c sh pcs i b).2])), .un, .un, .un, .un, .un, .dat (.tuple [I (pairB c sh pcs i b).1, I (pairB c sh pcs i b).2]), .un, .un, .un, .un]) (fun b => I (pairB c sh pcs i b).1) rfl nd
        (blkOk_by (N := N_roomy_message) (sc := defScope s_roomy_message) (by decide +kernel)) (by simp; omega) (i_lst (v 12 rfl)).o rfl (fun _ _ _ _ _ => dg_n (j := 18) nd) (by decide) (fun b _ => by rfl) (fun b _ _ _ _ _ _ => e_ixT (i := 0) rfl (v 18 rfl) c_int)).e.e.is (by simp)
    show WS _ _ [.dat (plD c), .dat (LN sh), .dat (LT pcs), .dat (I c.p), .dat (I (rmB c)), .dat (LT (shB c sh)), .dat (LI (pwB c sh)), .dat (LT (toldB c sh pcs)), .own (((List.range i).map fun a => (List.range c.k).map fun b => (pairB c sh pcs a b).1).map LI ++ [LI ((List.range c.k).map fun b => (pairB c sh pcs i b).1)]), .own (((List.range i).map fun a => (List.range c.k).map fun b => (pairB c sh pcs a b).2).map LI), .dat (I i), .dat (I ((pwB c sh).getD i 0)), .dat (.list ((List.range c.k).map fun b => .tuple [I (pairB c sh pcs i b).1, I (pairB c sh pcs i b).2])), .un, .un, .un, .un, .un, .un, .un, .un, .un, .un] _ _
    refine w_one (w_app 9 rfl (d := LI ((List.range c.k).map fun b => (pairB c sh pcs i b).2)) ?_ (by simp; omega) ?_)
    · refine (lcn (own := [("pair", 18)]) (List.range c.k) (fun b => .tuple [I (pairB c sh pcs i b).1, I (pairB c sh pcs i b).2]) (fun b => [.dat (plD c), .dat (LN sh), .dat (LT pcs), .dat (I c.p), .dat (I (rmB c)), .dat (LT (shB c sh)), .dat (LI (pwB c sh)), .dat (LT (toldB c sh pcs)), .own (((List.range i).map fun a => (List.range c.k).map fun b => (pairB c sh pcs a b).1).map LI ++ [LI ((List.range c.k).map fun b => (pairB c sh pcs i b).1)]), .own (((List.range i).map fun a => (List.range c.k).map fun b => (pairB c sh pcs a b).2).map LI), .dat (I i), .dat (I ((pwB c sh).getD i 0)), .dat (.list ((List.range c.k).map fun b => .tuple [I (pairB c sh pcs i b).1, I (pairB c sh pcs i b).2])), .un, .un, .un, .un, .un, .dat (.tuple [I (pairB c sh pcs i b).1, I (pairB c sh pcs i b).2]), .un, .un, .un, .un]) (fun b => I (pairB c sh pcs i b).2) rfl nd
        (blkOk_by (N := N_roomy_message) (sc := defScope s_roomy_message) (by decide +kernel)) (by simp; omega) (i_lst (v 12 rfl)).o rfl (fun _ _ _ _ _ => dg_n (j := 18) nd) (by decide) (fun b _ => by rfl) (fun b _ _ _ _ _ _ => e_ixT (i := 1) rfl (v 18 rfl) c_int)).e.e.is (by simp)
    exact ⟨.dat _, .dat _, .dat _, ⟨no_dat, no_dat, no_dat⟩, by rw [List.range_succ, List.map_append, List.map_append, List.map_append, List.map_append]; rfl⟩
  · rintro ρ' ⟨s10, s11, s12, ⟨n10, n11, n12⟩, rfl⟩
    rw [enumD_len, List.length_map, pwl]
    refine w_frz 8 rfl (.inl rfl) (w_frz 9 rfl (.inl rfl) ?_)
    show WS _ _ [.dat (plD c), .dat (LN sh), .dat (LT pcs), .dat (I c.p), .dat (I (rmB c)), .dat (LT (shB c sh)), .dat (LI (pwB c sh)), .dat (LT (toldB c sh pcs)), .dat (LL (fstB c sh pcs)), .dat (LL (latB c sh pcs)), s10, s11, s12, .un, .un, .un, .un, .un, .un, .un, .un, .un, .un] _ _
    refine w_cons (w_setL 13 (ds := (tabsB c sh pcs).map LT) (Lc.is (lcn (own := [("products", 19)]) [fstB c sh pcs, latB c sh pcs] LL (fun pr => [.dat (plD c), .dat (LN sh), .dat (LT pcs), .dat (I c.p), .dat (I (rmB c)), .dat (LT (shB c sh)), .dat (LI (pwB c sh)), .dat (LT (toldB c sh pcs)), .dat (LL (fstB c sh pcs)), .dat (LL (latB c sh pcs)), s10, s11, s12, .un, .un, .un, .un, .un, .un, .dat (LL pr), .un, .un, .un]) (fun pr => LT (tabB c.p (rmB c) c.k (shB c sh) pr)) rfl nd
      (blkOk_by (N := N_roomy_message) (sc := defScope s_roomy_message) (by decide +kernel)) (by simp) (i_tup (e_tup (a_cons (v 8 rfl) (a_cons (v 9 rfl) a_nil)) (by simp))).o rfl (fun _ _ _ _ _ => dg_n (j := 19) nd) (by decide) (fun b _ => by rfl) (fun pr hpr _ _ _ _ _ => e_call (d_table_of_rows T) (hr.mono (by decide)) ⟨c, shB c sh, pr, rfl, ⟨hc, hrm, ms, ?_, hro.inj⟩, rfl⟩ (a_cons (v 0 rfl) (a_cons (v 5 rfl) (a_cons (v 19 rfl) a_nil))))) rfl) ?_ (.inl rfl))
    · simp only [List.mem_cons, List.not_mem_nil, or_false] at hpr
      rcases hpr with h | h
      · rw [h]
        exact m1
      · rw [h]
        exact m2
    show WS _ _ [.dat (plD c), .dat (LN sh), .dat (LT pcs), .dat (I c.p), .dat (I (rmB c)), .dat (LT (shB c sh)), .dat (LI (pwB c sh)), .dat (LT (toldB c sh pcs)), .dat (LL (fstB c sh pcs)), .dat (LL (latB c sh pcs)), s10, s11, s12, .dat (.list ((tabsB c sh pcs).map LT)), .un, .un, .un, .un, .un, .un, .un, .un, .un] _ _
    have few : ((tabsB c sh pcs).flatMap fun t => (List.range (rmB c)).flatMap fun r => ((t.getD r []).drop r).map PyData.int).length ≤ 50000 := by
      have := flat_few (tabsB c sh pcs) (fun t => (List.range (rmB c)).flatMap fun r => ((t.getD r []).drop r).map PyData.int) 100 fun t ht => by
        have z := flat_few (List.range (rmB c)) (fun r => ((t.getD r []).drop r).map PyData.int) 10 fun r hr' => by
          have hrk := List.mem_range.mp hr'
          rw [List.length_map, List.length_drop, ((m3 t ht).row hrk).2.1]
          omega
        rw [List.length_range] at z
        omega
      have e : (tabsB c sh pcs).length = 2 := rfl
      rw [e] at this
      omega
    have nob : ∀ s20 s21 s22, NO s20 → NO s21 → NO s22 → NoOwn [.dat (plD c), .dat (LN sh), .dat (LT pcs), .dat (I c.p), .dat (I (rmB c)), .dat (LT (shB c sh)), .dat (LI (pwB c sh)), .dat (LT (toldB c sh pcs)), .dat (LL (fstB c sh pcs)), .dat (LL (latB c sh pcs)), s10, s11, s12, .dat (.list ((tabsB c sh pcs).map LT)), .un, .un, .un, .un, .un, .un, s20, s21, s22] := fun s20 s21 s22 h20 h21 h22 => NoOwn.mem fun s hs => by
      simp only [List.mem_cons, List.not_mem_nil, or_false] at hs
      rcases hs with h | h | h | h | h | h | h | h | h | h | h | h | h | h | h | h | h | h | h | h | h | h | h <;> rw [h] <;> first | exact no_dat | exact no_un | assumption
    refine w_one (w_ret (e_tupL T.n_tuple (DL.e (Lc.is (lc3 (own := [("table", 20), ("row", 21), ("number", 22)]) (js1 := [21]) (js2 := [22]) (tabsB c sh pcs) LT (fun t => [.dat (plD c), .dat (LN sh), .dat (LT pcs), .dat (I c.p), .dat (I (rmB c)), .dat (LT (shB c sh)), .dat (LI (pwB c sh)), .dat (LT (toldB c sh pcs)), .dat (LL (fstB c sh pcs)), .dat (LL (latB c sh pcs)), s10, s11, s12, .dat (.list ((tabsB c sh pcs).map LT)), .un, .un, .un, .un, .un, .un, .dat (LT t), .un, .un]) (fun t => List.range (rmB c)) (fun t r => I (r : Int)) (fun t r => [.dat (plD c), .dat (LN sh), .dat (LT pcs), .dat (I c.p), .dat (I (rmB c)), .dat (LT (shB c sh)), .dat (LI (pwB c sh)), .dat (LT (toldB c sh pcs)), .dat (LL (fstB c sh pcs)), .dat (LL (latB c sh pcs)), s10, s11, s12, .dat (.list ((tabsB c sh pcs).map LT)), .un, .un, .un, .un, .un, .un, .dat (LT t), .dat (I r), .un])
      (fun t r => (t.getD r []).drop r) (fun t r x => I x) (fun t r x => [.dat (plD c), .dat (LN sh), .dat (LT pcs), .dat (I c.p), .dat (I (rmB c)), .dat (LT (shB c sh)), .dat (LI (pwB c sh)), .dat (LT (toldB c sh pcs)), .dat (LL (fstB c sh pcs)), .dat (LL (latB c sh pcs)), s10, s11, s12, .dat (.list ((tabsB c sh pcs).map LT)), .un, .un, .un, .un, .un, .un, .dat (LT t), .dat (I r), .dat (I x)]) (fun t r x => I x) rfl nd (blkOk_by (N := N_roomy_message) (sc := defScope s_roomy_message) (by decide +kernel)) few (nob _ _ _ no_un no_un no_un) (i_lst (v 13 rfl)) (fun _ _ _ _ _ => dg_n (j := 20) nd) (by decide) (fun a _ => by rfl) (fun a _ => nob _ _ _ no_dat no_un no_un)
      (fun t ht _ _ _ _ _ => (i_rng1 T.n_range (by omega) (v 4 rfl)).is (by simp)) (fun _ _ _ _ _ => dg_n (j := 21) nd) (by decide) (fun a _ b _ => by rfl) (fun a _ b _ => nob _ _ _ no_dat no_dat no_un)
      (fun t ht r hr' _ _ _ _ _ => ?_) (fun _ _ _ _ _ => dg_n (j := 22) nd) (fun a _ b _ x _ => by rfl) (fun t ht r hr' x hx _ _ _ _ _ => v 22 rfl)) rfl).e)) ?_)
    · have hrk := List.mem_range.mp hr'
      have f1 := (m3 t ht).row hrk
      exact i_tup ((e_slT (e_ixL (at_map (f := TI) f1.1) (v 20 rfl) (v 21 rfl)) (o_some (v 21 rfl)) o_none).is (d' := TI ((t.getD r []).drop r)) (by rw [cut_map, cut_from]))
    · show PyData.tuple _ = PyData.tuple _
      unfold rooB
      rw [List.map_flatMap]
      simp [List.map_flatMap]
end
end Lm
set_option maxRecDepth 100000
set_option maxHeartbeats 4000000
/-! message_by, read_sure_by, read_sure. -/
namespace Lm
open PySem PySem.Spec PyProof.Rows L2 Evl
abbrev TN (sh : List Nat) : D := .tuple (sh.map fun (k : Nat) => I (k : Int))
def toldM (c : Pl) (sh : List Nat) (pcs : List (List Int)) : List Int := if c.rm then rooB c sh pcs else letB c sh pcs
def fitB (c : Pl) (m : List Int) (sh : List Nat) (pcs : List (List Int)) : Bool := (sh.zip pcs).all fun q => decide (pieceB c m q.1 = q.2)
def msgB (c : Pl) (sh : List Nat) (pcs : List (List Int)) : Option (List Int) := if fitB c (toldM c sh pcs) sh pcs then some (toldM c sh pcs) else none
def optD : Option (List Int) → D
  | none => .none
  | some m => TI m
def unlB (c : Pl) (m : List Int) (sh : List Nat) (pcs : List (List Int)) : List Nat := ((sh.zip pcs).filter fun q => !decide (pieceB c m q.1 = q.2)).map (·.1)
def pick {α : Type} (z : α) (xs : List α) (lot : List Nat) : List α := lot.map fun a => xs.getD a z
def tryB (c : Pl) (e : Nat) (sh : List Nat) (pcs : List (List Int)) (lot : List Nat) : Option (List Int × List Nat) :=
  match msgB c (pick 0 sh lot) (pick [] pcs lot) with
  | none => none
  | some m => if (unlB c m sh pcs).length ≤ e then some (m, unlB c m sh pcs) else none
def sureB (c : Pl) (e : Nat) (sh : List Nat) (pcs : List (List Int)) : Option (List Int × List Nat) := (lotsB sh.length c.k).findSome? (tryB c e sh pcs)
def ansD : Option (List Int × List Nat) → D
  | none => .none
  | some (m, f) => .tuple [TI m, TN f]
def ansT : Option (List Int × List Nat) → D
  | none => .tuple []
  | some (m, f) => .tuple [TI m, TN f]
/-- rising shelves with their pieces -/
structure Hrd (c : Pl) (sh : List Nat) (pcs : List (List Int)) : Prop where
  up : sh.Pairwise (· < ·)
  lt : ∀ s ∈ sh, s < c.n
  len : pcs.length = sh.length
  row : ∀ r ∈ pcs, RowOk c r
theorem lot_up {many : Nat} : ∀ {s : Nat} {l : List Nat}, l ∈ lotsB many s → l.Pairwise (· < ·) ∧ ∀ x ∈ l, x < many ∧ x < lotSt l
  | 0, l, h => by
    have : l = [] := List.mem_singleton.mp h
    subst this
    exact ⟨.nil, fun x hx => by cases hx⟩
  | s + 1, l, h => by
    obtain ⟨l', h1, j, hj, rfl⟩ := mem_lots.mp h
    obtain ⟨h2, h3⟩ := lot_up h1
    rw [lotSt_app]
    refine ⟨List.pairwise_append.mpr ⟨h2, List.pairwise_singleton _ _, fun a ha b hb => ?_⟩, fun x hx => ?_⟩
    · rw [List.mem_singleton.mp hb]
      have := (h3 a ha).2
      omega
    · rcases List.mem_append.mp hx with h | h
      · have := h3 x h
        omega
      · rw [List.mem_singleton.mp h]
        omega
theorem pick_sh {c : Pl} {sh : List Nat} {pcs : List (List Int)} (h : Hrd c sh pcs) {lot : List Nat} (hl : lot ∈ lotsB sh.length c.k) : Sh c (pick 0 sh lot) ∧ Pcs c (pick 0 sh lot) (pick [] pcs lot) := by
  obtain ⟨u1, u2⟩ := lot_up hl
  have u3 := (lots_len hl).1
  refine ⟨⟨by unfold pick; rw [List.length_map, u3], fun s hs => ?_, ?_⟩, by unfold pick; rw [List.length_map, List.length_map], fun r hr => ?_⟩
  · obtain ⟨a, ha, rfl⟩ := List.mem_map.mp hs
    exact h.lt _ (List.mem_of_getElem? (get_of (u2 a ha).1 0))
  · unfold pick
    refine List.Pairwise.map _ (R := fun a b => a < b ∧ a < sh.length ∧ b < sh.length) (fun a b hab => ?_) ?_
    · have e1 := getD_eq sh a 0 hab.2.1
      have e2 := getD_eq sh b 0 hab.2.2
      rw [e1, e2]
      have := List.pairwise_iff_getElem.mp h.up a b hab.2.1 hab.2.2 hab.1
      omega
    · refine List.Pairwise.imp_of_mem (fun ha hb hab => ⟨hab, (u2 _ ha).1, (u2 _ hb).1⟩) u1
  · obtain ⟨a, ha, rfl⟩ := List.mem_map.mp hr
    exact h.row _ (List.mem_of_getElem? (get_of (by rw [h.len]; exact (u2 a ha).1) []))
section
variable {P : Program} {w : World} {K : PySem.W.Frag} {mg : Str → Option Value} {base : Heap}
def R_message_told (ds : List D) (d : D) : Prop := ∃ (c : Pl) (sh : List Nat) (pcs : List (List Int)), ds = [plD c, LN sh, LT pcs] ∧ (c.Ok ∧ Sh c sh ∧ Pcs c sh pcs ∧ (c.rm = true → RoomOk c sh)) ∧ d = TI (toldM c sh pcs)
theorem d_message_told (T : Txt K mg) : Def P w K mg base CX0 "message_told" 7 P_message_told (SpP K R_message_told) := by
  obtain ⟨hm, fd, F⟩ := T.f_message_told
  refine mk_def hm F (pure_ok F sc_message_told (fun ds d ⟨i, _, _, h, _⟩ => by rw [h]; rfl) fun cdv A outer s H E ds d hr hR => ?_) (fun _ _ _ _ _ _ us hl => match us, hl with | [_, _, _], _ => rfl)
  obtain ⟨c, sh, pcs, rfl, ⟨hc, hs, hpc, hro⟩, rfl⟩ := hR
  show WS _ _ [.dat (plD c), .dat (LN sh), .dat (LT pcs)] _ _
  refine w_cons (w_if (t_val (t_let T (hr.mono (by decide)) (v 0 rfl))) (fun h => ?_) (fun h => w_nil ?_))
  · have q : c.rm = false := by simpa using h
    exact w_one (w_ret (e_call (d_lettered_message T) (hr.mono (by decide)) ⟨c, sh, pcs, rfl, ⟨hc, q, hs, hpc⟩, rfl⟩ (a_cons (v 0 rfl) (a_cons (v 1 rfl) (a_cons (v 2 rfl) a_nil)))) (by unfold toldM; rw [q]; rfl))
  · have q : c.rm = true := by simpa using h
    exact w_one (w_ret (e_call (d_roomy_message T) hr ⟨c, sh, pcs, rfl, ⟨hc, q, hs, hpc, hro q⟩, rfl⟩ (a_cons (v 0 rfl) (a_cons (v 1 rfl) (a_cons (v 2 rfl) a_nil)))) (by unfold toldM; rw [q]; rfl))
def R_message_by (ds : List D) (d : D) : Prop := ∃ (c : Pl) (sh : List Nat) (pcs : List (List Int)), ds = [plD c, LN sh, LT pcs] ∧ (c.Ok ∧ Sh c sh ∧ Pcs c sh pcs ∧ (c.rm = true → RoomOk c sh)) ∧ d = optD (msgB c sh pcs)
theorem d_message_by (T : Txt K mg) : Def P w K mg base CX0 "message_by" 8 P_message_by (SpP K R_message_by) := by
  obtain ⟨hm, fd, F⟩ := T.f_message_by
  refine mk_def hm F (pure_ok F sc_message_by (fun ds d ⟨i, _, _, h, _⟩ => by rw [h]; rfl) fun cdv A outer s H E ds d hr hR => ?_) (fun _ _ _ _ _ _ us hl => match us, hl with | [_, _, _], _ => rfl)
  obtain ⟨c, sh, pcs, rfl, ⟨hc, hs, hpc, hro⟩, rfl⟩ := hR
  show WS _ _ [.dat (plD c), .dat (LN sh), .dat (LT pcs), .un, .un, .un, .un] _ _
  have nd := sc_message_by.nd
  have hk := hc.k
  have shl := hs.l
  refine w_cons (w_set 3 (e_call (d_message_told T) hr ⟨c, sh, pcs, rfl, ⟨hc, hs, hpc, hro⟩, rfl⟩ (a_cons (v 0 rfl) (a_cons (v 1 rfl) (a_cons (v 2 rfl) a_nil)))) ?_ (.inl rfl) nd)
  unfold msgB
  generalize toldM c sh pcs = m at *
  show WS _ _ [.dat (plD c), .dat (LN sh), .dat (LT pcs), .dat (TI m), .un, .un, .un] _ _
  refine w_cons (w_set 4 (d := .bool (fitB c m sh pcs)) (DE.is (e_all (bs := (sh.zip pcs).map fun q => decide (pieceB c m q.1 = q.2)) rfl T.n_all ?_) ?_) ?_ (.inl rfl) nd)
  · refine (lcn (own := [("shelf", 5), ("piece", 6)]) (sh.zip pcs) (fun q => .tuple [I q.1, TI q.2]) (fun q => [.dat (plD c), .dat (LN sh), .dat (LT pcs), .dat (TI m), .un, .dat (I q.1), .dat (TI q.2)]) (fun q => .bool (decide (pieceB c m q.1 = q.2))) rfl nd (blkOk_by (N := N_message_by) (sc := defScope s_message_by) (by decide +kernel)) (by rw [List.length_zip]; omega)
      (i_zipL T.n_zip (v 1 rfl) (v 2 rfl)).o (zipD_map _ _ sh pcs) (fun _ _ _ _ _ => dg_t rfl (dgs_cons (j := 5) nd (dgs_cons (j := 6) nd dgs_nil))) (by decide) (fun q _ => ⟨[I q.1, TI q.2], rfl, rfl, rfl⟩) (fun q hq _ _ _ _ _ => ?_)).e.e.is (by simp)
    exact (e_eq hr.units (shp_TI _).s (shp_TI _).s (e_call (d_piece_by T) (hr.mono (by decide)) ⟨c, m, q.1, rfl, ⟨hc, hs.lt _ (List.of_mem_zip hq).1⟩, rfl⟩ (a_cons (v 0 rfl) (a_cons (v 3 rfl) (a_cons (v 5 rfl) a_nil)))) (v 6 rfl)).is (by rw [eqv_TI'])
  · unfold fitB
    rw [List.all_map]
    rfl
  refine w_one (w_ret (e_if (t_val (v 4 rfl)) (fun h => (v 3 rfl).is ?_) (fun h => c_non.is ?_)) rfl)
  · rw [h]
    rfl
  · rw [h]
    rfl
def R_unlike_pieces (ds : List D) (d : D) : Prop := ∃ (c : Pl) (m : List Int) (sh : List Nat) (pcs : List (List Int)), ds = [plD c, TI m, TN sh, TR pcs] ∧ (c.Ok ∧ (∀ s ∈ sh, s < c.n) ∧ sh.length ≤ 1000) ∧ d = TN (unlB c m sh pcs)
theorem d_unlike_pieces (T : Txt K mg) : Def P w K mg base CX0 "unlike_pieces" 7 P_unlike_pieces (SpP K R_unlike_pieces) := by
  obtain ⟨hm, fd, F⟩ := T.f_unlike_pieces
  refine mk_def hm F (pure_ok F sc_unlike_pieces (fun ds d ⟨i, _, _, _, h, _⟩ => by rw [h]; rfl) fun cdv A outer s H E ds d hr hR => ?_) (fun _ _ _ _ _ _ us hl => match us, hl with | [_, _, _, _], _ => rfl)
  obtain ⟨c, m, sh, pcs, rfl, ⟨hc, hs, hl⟩, rfl⟩ := hR
  show WS _ _ [.dat (plD c), .dat (TI m), .dat (TN sh), .dat (TR pcs), .un, .un] _ _
  have nd := sc_unlike_pieces.nd
  refine w_one (w_ret (e_tupL T.n_tuple ?_) rfl)
  refine DE.is (DL.e (Lc.e (lc1 (own := [("shelf", 4), ("piece", 5)]) (sh.zip pcs) (fun q => .tuple [I q.1, TI q.2]) (fun q => [.dat (plD c), .dat (TI m), .dat (TN sh), .dat (TR pcs), .dat (I q.1), .dat (TI q.2)]) (fun q => !decide (pieceB c m q.1 = q.2)) (fun q => I q.1) rfl nd (blkOk_by (N := N_unlike_pieces) (sc := defScope s_unlike_pieces) (by decide +kernel)) (by rw [List.length_zip]; omega)
    (DI.o (DI.is (i_zipT T.n_zip (v 2 rfl) (v 3 rfl)) (zipD_map _ _ sh pcs))) (fun _ _ _ _ _ => dg_t rfl (dgs_cons (j := 4) nd (dgs_cons (j := 5) nd dgs_nil))) (by decide) (fun q _ => ⟨[I q.1, TI q.2], rfl, rfl, rfl⟩) (fun q hq _ _ _ _ _ => ts_one ?_) (fun q _ _ _ _ _ _ _ => v 4 rfl)))) (by simp [unlB])
  exact (t_ne hr.units (shp_TI _).s (shp_TI _).s (e_call (d_piece_by T) (hr.mono (by decide)) ⟨c, m, q.1, rfl, ⟨hc, hs _ (List.of_mem_zip hq).1⟩, rfl⟩ (a_cons (v 0 rfl) (a_cons (v 1 rfl) (a_cons (v 4 rfl) a_nil)))) (v 5 rfl)).is (by rw [eqv_TI'])
def R_read_sure_by (ds : List D) (d : D) : Prop := ∃ (c : Pl) (e : Nat) (sh : List Nat) (pcs : List (List Int)), ds = [plD c, I e, TN sh, TR pcs] ∧ (c.Ok ∧ Hrd c sh pcs ∧ sh.length < 8 ∧ (c.rm = true → ∀ s, Sh c s → RoomOk c s)) ∧ d = ansT (sureB c e sh pcs)
theorem d_read_sure_by (T : Txt K mg) : Def P w K mg base CX0 "read_sure_by" 9 P_read_sure_by (SpP K R_read_sure_by) := by
  obtain ⟨hm, fd, F⟩ := T.f_read_sure_by
  refine mk_def hm F (pure_ok F sc_read_sure_by (fun ds d ⟨i, _, _, _, h, _⟩ => by rw [h]; rfl) fun cdv A outer s H E ds d hr hR => ?_) (fun _ _ _ _ _ _ us hl => match us, hl with | [_, _, _, _], _ => rfl)
  obtain ⟨c, e, sh, pcs, rfl, ⟨hc, hh, hl, hro⟩, rfl⟩ := hR
  show WS _ _ [.dat (plD c), .dat (I e), .dat (TN sh), .dat (TR pcs), .un, .un, .un, .un] _ _
  have nd := sc_read_sure_by.nd
  have hk := hc.k
  refine w_cons (w_for (fun i ρ => (∃ s4 s5 s6, ρ = [.dat (plD c), .dat (I e), .dat (TN sh), .dat (TR pcs), s4, s5, s6, .un]) ∧ ((lotsB sh.length c.k).take i).findSome? (tryB c e sh pcs) = none) (i_lst (e_call (d_lots_of T) (hr.mono (by decide)) ⟨sh.length, c.k, rfl, ⟨hl, by omega⟩, rfl⟩ (a_cons ((e_lenT T.n_len (v 2 rfl)).is (by simp)) (a_cons (e_ixT (i := 3) rfl (v 0 rfl) c_int) a_nil)))) (dg_n (j := 4) nd) (.inl rfl) rfl ⟨⟨_, _, _, rfl⟩, rfl⟩ ?_ ?_)
  · rintro i d ρ' hd ⟨⟨s4, s5, s6, rfl⟩, hnone⟩
    rw [List.getElem?_map] at hd
    cases hlot : (lotsB sh.length c.k)[i]? with
    | none => rw [hlot] at hd; cases hd
    | some lot =>
    rw [hlot] at hd
    cases hd
    have hmem := List.mem_of_getElem? hlot
    obtain ⟨hs1, hp1⟩ := pick_sh hh hmem
    obtain ⟨u1, u2⟩ := lot_up hmem
    have u3 := (lots_len hmem).1
    have hlt := (List.getElem?_eq_some_iff.mp hlot).1
    have nexts : ((lotsB sh.length c.k).take (i + 1)).findSome? (tryB c e sh pcs) = tryB c e sh pcs lot := by
      rw [List.take_add_one, hlot, List.findSome?_append, hnone]
      simp
    have alls : tryB c e sh pcs lot ≠ none → sureB c e sh pcs = tryB c e sh pcs lot := fun hne => by
      unfold sureB
      rw [← List.take_append_drop (i + 1) (lotsB sh.length c.k), List.findSome?_append, nexts]
      cases h : tryB c e sh pcs lot with
      | none => exact absurd h hne
      | some x => rfl
    refine ⟨_, rfl, ?_⟩
    show WS _ _ [.dat (plD c), .dat (I e), .dat (TN sh), .dat (TR pcs), .dat (lotD lot), s5, s6, .un] _ _
    refine w_cons (w_set 5 (e_call (d_message_by T) hr ⟨c, pick 0 sh lot, pick [] pcs lot, rfl, ⟨hc, hs1, hp1, fun h => hro h _ hs1⟩, rfl⟩ (a_cons (v 0 rfl) (a_cons (Lc.e (Lc.is (lcn (own := [("at", 7)]) lot (fun a => I (a : Int)) (fun a => [.dat (plD c), .dat (I e), .dat (TN sh), .dat (TR pcs), .dat (lotD lot), s5, s6, .dat (I a)]) (fun a => I ((sh.getD a 0 : Nat) : Int)) rfl nd (blkOk_by (N := N_read_sure_by) (sc := defScope s_read_sure_by) (by decide +kernel)) (by omega)
      (i_tup (v 4 rfl)).o rfl (fun _ _ _ _ _ => dg_n (j := 7) nd) (by decide) (fun a _ => by rfl) (fun a ha _ _ _ _ _ => e_ixT (at_map (f := fun (k : Nat) => I (k : Int)) (get_of (u2 a ha).1 0)) (v 2 rfl) (v 7 rfl))) (by simp [pick]))).e
      (a_cons (Lc.e (Lc.is (lcn (own := [("at", 7)]) lot (fun a => I (a : Int)) (fun a => [.dat (plD c), .dat (I e), .dat (TN sh), .dat (TR pcs), .dat (lotD lot), s5, s6, .dat (I a)]) (fun a => TI (pcs.getD a [])) rfl nd (blkOk_by (N := N_read_sure_by) (sc := defScope s_read_sure_by) (by decide +kernel)) (by omega)
      (i_tup (v 4 rfl)).o rfl (fun _ _ _ _ _ => dg_n (j := 7) nd) (by decide) (fun a _ => by rfl) (fun a ha _ _ _ _ _ => e_ixT (at_map (f := TI) (get_of (by rw [hh.len]; exact (u2 a ha).1) [])) (v 3 rfl) (v 7 rfl))) (by simp [pick]))).e a_nil)))) ?_ (.inl rfl) nd)
    have ht : tryB c e sh pcs lot = match msgB c (pick 0 sh lot) (pick [] pcs lot) with
      | none => none
      | some m => if (unlB c m sh pcs).length ≤ e then some (m, unlB c m sh pcs) else none := rfl
    generalize msgB c (pick 0 sh lot) (pick [] pcs lot) = om at *
    show WS _ _ [.dat (plD c), .dat (I e), .dat (TN sh), .dat (TR pcs), .dat (lotD lot), .dat (optD om), s6, .un] _ _
    cases om with
    | none => exact w_one (w_if (k := false) (DT.is (t_notnone (v 5 rfl)) rfl) (fun h => by cases h) (fun _ => w_nil ⟨⟨_, _, _, rfl⟩, by rw [nexts, ht]⟩))
    | some m =>
      refine w_one (w_if (k := true) (DT.is (t_notnone (v 5 rfl)) rfl) (fun _ => ?_) (fun h => by cases h))
      refine w_cons (w_set 6 (e_call (d_unlike_pieces T) (hr.mono (by decide)) ⟨c, m, sh, pcs, rfl, ⟨hc, hh.lt, by omega⟩, rfl⟩ (a_cons (v 0 rfl) (a_cons (v 5 rfl) (a_cons (v 2 rfl) (a_cons (v 3 rfl) a_nil))))) ?_ (.inl rfl) nd)
      refine w_one (w_if (k := decide ((unlB c m sh pcs).length ≤ e)) (DT.is (t_le (e_lenT T.n_len (v 6 rfl)) (v 1 rfl)) (by simp)) (fun h => ?_) (fun h => ?_))
      · have h' : (unlB c m sh pcs).length ≤ e := by simpa using h
        have e2 : tryB c e sh pcs lot = some (m, unlB c m sh pcs) := by rw [ht]; exact if_pos h'
        refine w_one (w_ret (e_tup (a_cons (v 5 rfl) (a_cons (v 6 rfl) a_nil)) (by simp)) ?_)
        show PyData.tuple _ = ansT (sureB c e sh pcs)
        rw [alls (by rw [e2]; nofun), e2]
        rfl
      · have h' : ¬ (unlB c m sh pcs).length ≤ e := by simpa using h
        exact w_nil ⟨⟨_, _, _, rfl⟩, by rw [nexts, ht]; exact if_neg h'⟩
  · rintro ρ' ⟨⟨s4, s5, s6, rfl⟩, hnone⟩
    rw [List.length_map, List.take_length] at hnone
    refine w_one (w_ret (e_tup a_nil (by simp)) ?_)
    show PyData.tuple [] = ansT (sureB c e sh pcs)
    unfold sureB
    rw [hnone]
    rfl
/-! sure -/
def R_check_wrong (ds : List D) (d : D) : Prop := ∃ (e : Nat), ds = [I e] ∧ e ≤ 4 ∧ d = .none
theorem d_check_wrong (T : Txt K mg) : Def P w K mg base CX0 "check_wrong" 3 P_check_wrong (SpP K R_check_wrong) := by
  obtain ⟨hm, fd, F⟩ := T.f_check_wrong
  refine mk_def hm F (pure_ok F sc_check_wrong (fun ds d ⟨i, h, _⟩ => by rw [h]; rfl) fun cdv A outer s H E ds d hr hR => ?_) (fun _ _ _ _ _ _ us hl => match us, hl with | [_], _ => rfl)
  obtain ⟨e, rfl, he, rfl⟩ := hR
  show WS _ _ [.dat (I e)] _ _
  exact w_one (w_if (k := false) (t_not (p := true) (t_val ((t_btw T hr (v 0 rfl) c_int (g_int (by rfl) T.n_MOST_WRONG)).is (by simp; omega)))) (fun h => by cases h) (fun _ => w_nil rfl))
def R_are_so_many (ds : List D) (d : D) : Prop := ∃ (l : Int) (sh : List Nat), ds = [TN sh, I l, .bool false] ∧ d = .bool (decide (l ≤ sh.length))
theorem d_are_so_many (T : Txt K mg) : Def P w K mg base CX0 "are_so_many" 1 P_are_so_many (SpP K R_are_so_many) := by
  obtain ⟨hm, fd, F⟩ := T.f_are_so_many
  refine mk_def hm F (pure_ok F sc_are_so_many (fun ds d ⟨i, _, h, _⟩ => by rw [h]; rfl) fun cdv A outer s H E ds d hr hR => ?_) (fun _ _ _ _ _ _ us hl => match us, hl with | [_, _, _], _ => rfl)
  obtain ⟨l, sh, rfl, rfl⟩ := hR
  show WS _ _ [.dat (TN sh), .dat (I l), .dat (.bool false)] _ _
  exact w_one (w_ret (DE.is (e_and (p := true) (q := decide (l ≤ sh.length)) (e_isi (T := "tuple") (d := TN sh) rfl (by decide +kernel) T.n_isinstance T.n_tuple (by decide +kernel) (v 0 rfl)) fun _ => e_one (e_if (p := false) (t_val (v 2 rfl)) (fun h => by cases h) (fun _ => (e_ge (e_lenT T.n_len (v 0 rfl)) (v 1 rfl)).is (by simp)))) rfl) rfl)
theorem TN_eq (sh : List Nat) : TN sh = TI (sh.map fun (k : Nat) => (k : Int)) := by
  show PyData.tuple _ = PyData.tuple _
  rw [List.map_map]
  rfl
theorem up_rise {sh : List Nat} (h : sh.Pairwise (· < ·)) : Rise (sh.map fun (k : Nat) => (k : Int)) := fun i x y hx hy => by
  rw [List.getElem?_map] at hx hy
  cases h1 : sh[i]? with
  | none => rw [h1] at hx; cases hx
  | some a =>
    cases h2 : sh[i + 1]? with
    | none => rw [h2] at hy; cases hy
    | some b =>
      rw [h1] at hx
      rw [h2] at hy
      cases hx
      cases hy
      obtain ⟨l1, e1⟩ := List.getElem?_eq_some_iff.mp h1
      obtain ⟨l2, e2⟩ := List.getElem?_eq_some_iff.mp h2
      have := List.pairwise_iff_getElem.mp h i (i + 1) l1 l2 (by omega)
      rw [e1, e2] at this
      show (a : Int) < (b : Int)
      omega
def R_check_shelves (ds : List D) (d : D) : Prop := ∃ (l : Int) (sh : List Nat) (n : Nat), ds = [TN sh, I l, .bool false, I n] ∧ (l ≤ sh.length ∧ sh.Pairwise (· < ·) ∧ (∀ s ∈ sh, s < n) ∧ sh.length ≤ 1000) ∧ d = .none
theorem d_check_shelves (T : Txt K mg) : Def P w K mg base CX0 "check_shelves" 4 P_check_shelves (SpP K R_check_shelves) := by
  obtain ⟨hm, fd, F⟩ := T.f_check_shelves
  refine mk_def hm F (pure_ok F sc_check_shelves (fun ds d ⟨i, _, _, h, _⟩ => by rw [h]; rfl) fun cdv A outer s H E ds d hr hR => ?_) (fun _ _ _ _ _ _ us hl => match us, hl with | [_, _, _, _], _ => rfl)
  obtain ⟨l, sh, n, rfl, ⟨h1, h2, h3, h4⟩, rfl⟩ := hR
  show WS _ _ [.dat (TN sh), .dat (I l), .dat (.bool false), .dat (I n), .un] _ _
  have nd := sc_check_shelves.nd
  refine w_cons (w_if (k := false) (t_not (p := true) (t_val (e_call (d_are_so_many T) (hr.mono (by decide)) ⟨l, sh, rfl, (by simp [h1])⟩ (a_cons (v 0 rfl) (a_cons (v 1 rfl) (a_cons (v 2 rfl) a_nil)))))) (fun h => by cases h) (fun _ => w_nil ?_))
  refine w_cons (w_set 4 (e_call (d_wrong_in_rising T) hr ⟨sh.map (fun (k : Nat) => (k : Int)), 0, (n : Int) - 1, by rw [← TN_eq], ⟨by rw [List.length_map]; omega, up_rise h2, fun x hx => ?_⟩, rfl⟩ (a_cons (v 0 rfl) (a_cons c_int (a_cons (sub (v 3 rfl) c_int) a_nil)))) ?_ (.inl rfl) nd)
  · obtain ⟨a, ha, rfl⟩ := List.mem_map.mp hx
    have := h3 a ha
    omega
  exact w_one (w_if (k := false) ((t_ne hr.units (shp_LI []).s (shp_LI []).s (v 4 rfl) (l_lst a_nil (by decide)).e).is (by show (!PyData.eqv (LI []) (LI [])) = false; rw [(eqv_LI [] []).mpr rfl]; rfl)) (fun h => by cases h) (fun _ => w_nil rfl))
def R_read_sure (ds : List D) (d : D) : Prop := ∃ (c : Pl) (e : Nat) (sh : List Nat) (pcs : List (List Int)), ds = [plD c, I e, TN sh, TR pcs] ∧ (c.Ok ∧ e ≤ 2 ∧ Hrd c sh pcs ∧ c.k + 2 * e ≤ sh.length ∧ sh.length < 8 ∧ (c.rm = true → ∀ s, Sh c s → RoomOk c s)) ∧ d = ansD (sureB c e sh pcs)
theorem ansT_shp (o : Option (List Int × List Nat)) : Shp 2 (ansT o) := by
  cases o with
  | none => exact shp_tup fun d hd => by cases hd
  | some q =>
    refine shp_tup fun d hd => ?_
    simp only [List.mem_cons, List.not_mem_nil, or_false] at hd
    rcases hd with h | h
    · rw [h]
      exact shp_TI _
    · rw [h, TN_eq]
      exact shp_TI _
theorem d_read_sure (T : Txt K mg) : Def P w K mg base CX0 "read_sure" 10 P_read_sure (SpP K R_read_sure) := by
  obtain ⟨hm, fd, F⟩ := T.f_read_sure
  refine mk_def hm F (pure_ok F sc_read_sure (fun ds d ⟨i, _, _, _, h, _⟩ => by rw [h]; rfl) fun cdv A outer s H E ds d hr hR => ?_) (fun _ _ _ _ _ _ us hl => match us, hl with | [_, _, _, _], _ => rfl)
  obtain ⟨c, e, sh, pcs, rfl, ⟨hc, he, hh, hl, hl8, hro⟩, rfl⟩ := hR
  show WS _ _ [.dat (plD c), .dat (I e), .dat (TN sh), .dat (TR pcs), .un] _ _
  have nd := sc_read_sure.nd
  refine w_cons (w_exp (e_call (d_check_scheme T) (hr.mono (by decide)) ⟨c, rfl, hc, rfl⟩ (a_cons (v 0 rfl) a_nil)) ?_)
  refine w_cons (w_exp (e_call (d_check_wrong T) (hr.mono (by decide)) ⟨e, rfl, by omega, rfl⟩ (a_cons (v 1 rfl) a_nil)) ?_)
  refine w_cons (w_exp (e_call (d_check_shelves T) (hr.mono (by decide)) ⟨(c.k : Int) + 2 * (e : Int), sh, c.n, rfl, ⟨by omega, hh.up, hh.lt, by omega⟩, rfl⟩ (a_cons (v 2 rfl) (a_cons (add (e_ixT (i := 3) rfl (v 0 rfl) c_int) (mul (cm_l (by omega)) c_int (v 1 rfl))) (a_cons c_bl (a_cons (e_ixT (i := 2) rfl (v 0 rfl) c_int) a_nil))))) ?_)
  refine w_cons (w_exp (e_call (d_check_pieces T) (hr.mono (by decide)) ⟨c, pcs, rfl, ⟨hc, hh.row⟩, rfl⟩ (a_cons (v 0 rfl) (a_cons ((e_lenT T.n_len (v 2 rfl)).is (by simp [hh.len])) (a_cons (v 3 rfl) a_nil)))) ?_)
  refine w_cons (w_set 4 (e_call (d_read_sure_by T) hr ⟨c, e, sh, pcs, rfl, ⟨hc, hh, hl8, hro⟩, rfl⟩ (a_cons (v 0 rfl) (a_cons (v 1 rfl) (a_cons (v 2 rfl) (a_cons (v 3 rfl) a_nil))))) ?_ (.inl rfl) nd)
  generalize sureB c e sh pcs = o
  show WS _ _ [.dat (plD c), .dat (I e), .dat (TN sh), .dat (TR pcs), .dat (ansT o)] _ _
  refine w_one (w_ret (d := ansD o) (e_if (p := o.isSome) ((t_ne hr.units (ansT_shp o).s (shp_tup (n := 0) (fun _ h => by cases h)).s (v 4 rfl) (e_tup a_nil (by simp))).is ?_) (fun h => (v 4 rfl).is ?_) (fun h => c_non.is ?_)) rfl)
  · cases o with
    | none => rfl
    | some q => rfl
  · cases o with
    | none => cases h
    | some q => rfl
  · cases o with
    | none => rfl
    | some q => cases h
end
end Lm
set_option maxRecDepth 100000
set_option maxHeartbeats 4000000
/-! The law's own defs: the draws, plain reckoning. -/
namespace Lm
open PySem PySem.Spec PyProof.Rows L2 Evl
def seedB (ns : List Int) (t : Nat) : Int := (ns.take 8).foldl (fun s x => (s * 61001 + x % 2147483237 * 3 + 19) % 2147483249) (50383 + 7433 * (t : Int))
def ownB (ns : List Int) (t : Nat) : Int := if t < ns.length then ns.getD t 0 else 0
def wellB (ns : List Int) (t : Nat) : List D := [I (if ownB ns t < 0 ∨ ownB ns t ≥ 10 ^ 15 then (if ownB ns t < 0 then -ownB ns t else ownB ns t) else 0), I ((seedB ns t * 37 + ownB ns t % 2147483237 * 27011 + 5) % 2147483249), I 0]
def W3 (w : List D) : Prop := ∃ a b c, w = [I a, I b, I c]
theorem l_lstS {X : Cx} {ρ : En} {a : Expr} {ds : List D} {q : D} {p pos : Pos} (hq : Sq ds q) (hm : X.mg "list" = none) (h : DE X ρ a q) (hg : Gl X "list" := by rfl) (he : starEach [a] X.env = (false, eval a X.env) :: starEach [] X.env := by rfl) : DL X ρ (.Call (.Name "list" p) [a] [] pos) ds := by
  rcases hq with rfl | rfl
  · exact l_lstT hm h hg he
  · exact l_lstL hm h hg he
section
variable {P : Program} {w : World} {K : PySem.W.Frag} {mg : Str → Option Value} {base : Heap}
def R_law_well (ds es : List D) : Prop := ∃ (ns : List Int) (t : Nat), ds = [LI ns, I t] ∧ t ≤ 1000 ∧ es = wellB ns t
theorem d_law_well (T : Txt K mg) : Def P w K mg base CX0 "_law_well" 1 P_law_well (SpL K R_law_well) := by
  obtain ⟨hm, fd, F⟩ := T.f_law_well
  refine mk_def hm F (list_ok F sc_law_well (fun ds d ⟨i, _, h, _⟩ => by rw [h]; rfl) fun cdv A outer s H E ds es hr hR => ?_) (fun _ _ _ _ _ _ us hl => match us, hl with | [_, _], _ => rfl)
  obtain ⟨ns, t, rfl, ht, rfl⟩ := hR
  show WS _ _ [.dat (LI ns), .dat (I t), .un, .un, .un] _ _
  have nd := sc_law_well.nd
  refine w_cons (w_set 2 (add c_int (mul (.inl ⟨by decide, by decide⟩) c_int (v 1 rfl))) ?_ (.inl rfl) nd)
  obtain ⟨us, hus⟩ : ∃ us, us = ns.take 8 := ⟨_, rfl⟩
  refine w_cons (w_for (fun i ρ => ∃ s3, ρ = [.dat (LI ns), .dat (I t), .dat (I ((us.take i).foldl (fun s x => (s * 61001 + x % 2147483237 * 3 + 19) % 2147483249) (50383 + 7433 * (t : Int)))), s3, .un]) (i_lst (DE.is (l_slL (v 0 rfl) o_none (o_some c_int)).e (d' := LI us) (by show PyData.list _ = PyData.list _; rw [cut_map, hus]; exact congrArg (fun l => PyData.list (List.map PyData.int l)) (cut_to ns 8)))) (dg_n (j := 3) nd) (.inl rfl) rfl ⟨_, rfl⟩ ?_ ?_)
  · rintro i d ρ' hd ⟨s3, rfl⟩
    rw [List.getElem?_map] at hd
    cases hx : us[i]? with
    | none => rw [hx] at hd; cases hd
    | some x =>
      rw [hx] at hd
      cases hd
      refine ⟨_, rfl, ?_⟩
      refine w_one (w_set 2 (modp (by decide) (e_int T.n_int (add (add (mul (.inr ⟨by decide, by decide⟩) (v 2 rfl) c_int) (mul (.inr ⟨by decide, by decide⟩) (modp (by decide) (e_int T.n_int (v 3 rfl)) c_int) c_int)) c_int)) c_int) ⟨.dat (I x), ?_⟩ (.inl rfl) nd)
      rw [List.take_add_one, hx, List.foldl_append]
      rfl
  · rintro ρ' ⟨s3, rfl⟩
    rw [List.length_map, List.take_length, hus]
    refine w_cons (w_set 4 (d := I (ownB ns t)) (e_if (p := decide (t < ns.length)) ((t_lt (v 1 rfl) (e_lenL T.n_len (v 0 rfl))).is (by simp)) (fun h => ?_) (fun h => ?_)) ?_ (.inl rfl) nd)
    · have h' : t < ns.length := by simpa using h
      exact (e_int T.n_int (e_ixL (at_map (get_of h' 0)) (v 0 rfl) (v 1 rfl))).is (by unfold ownB; rw [if_pos h'])
    · have h' : ¬ t < ns.length := by simpa using h
      exact c_int.is (by unfold ownB; rw [if_neg h'])
    refine w_cons (w_set 2 (modp (by decide) (e_int T.n_int (add (add (mul (.inr ⟨by decide, by decide⟩) (v 2 rfl) c_int) (mul (.inr ⟨by decide, by decide⟩) (modp (by decide) (e_int T.n_int (v 4 rfl)) c_int) c_int)) c_int)) c_int) ?_ (.inl rfl) nd)
    refine w_one (w_retL (l_lst (a_cons (e_if (p := decide (ownB ns t < 0 ∨ ownB ns t ≥ 10 ^ 15)) (PW.pt (DW.is (w_or (t_lt (v 4 rfl) c_int) fun _ => w_or1 (t_ge (v 4 rfl) (powi ⟨by decide, by decide, by decide⟩ c_int c_int))) (by simp))) (fun h => (e_abs T.n_abs (v 4 rfl)).is ?_) (fun h => c_int.is ?_)) (a_cons (v 2 rfl) (a_cons c_int a_nil))) (by simp)) rfl)
    · rw [if_pos (of_decide_eq_true h)]
    · rw [if_neg (of_decide_eq_false h)]
def R_law_draw (wl ds : List D) (Φ : List D → D → Prop) : Prop := W3 wl ∧ ∃ l : Int, ds = [I l] ∧ (0 < l ∧ l < 1073741824) ∧ ∀ w' r, W3 w' → 0 ≤ r → r < l → Φ w' (I r)
theorem d_law_draw (T : Txt K mg) : Def P w K mg base CX0 "_law_draw" 1 P_law_draw (SpW K R_law_draw) := by
  obtain ⟨hm, fd, F⟩ := T.f_law_draw
  refine mk_def hm F (own_ok F sc_law_draw (fun wl ds Φ ⟨_, l, h, _⟩ => by rw [h]; rfl) fun cdv A outer s H E a w0 ds Φ hr hR => ?_) (fun _ _ _ _ _ _ us hl => match us, hl with | [_, _], _ => rfl)
  obtain ⟨⟨x, y, z, rfl⟩, l, rfl, ⟨h1, h2⟩, hΦ⟩ := hR
  show WS _ _ [.own [I x, I y, I z], .dat (I l), .un, .un] _ _
  have nd := sc_law_draw.nd
  refine w_cons (w_if (t_gt (e_ixO 0 (i := 0) rfl rfl c_int) c_int) (fun _ => ?_) (fun _ => w_nil ?_))
  · refine w_cons (w_dm 0 0 2 rfl (e_divmod ⟨h1, h2⟩ T.n_divmod (e_ixO 0 (i := 0) rfl rfl c_int) (v 1 rfl)) c_int (by simp) ?_ (.inr (by decide)) rfl nd)
    exact w_one (w_ret (v 2 rfl) ⟨_, rfl, hΦ _ _ ⟨_, _, _, rfl⟩ (Int.emod_nonneg _ (by omega)) (Int.emod_lt_of_pos _ h1)⟩)
  · refine w_cons (w_put 0 2 rfl (add (e_ixO 0 (i := 2) rfl rfl c_int) c_int) c_int rfl (by simp) ?_)
    refine w_cons (w_set 3 (modp (by decide) (e_int T.n_int (add (mul (.inr ⟨by decide, by decide⟩) (e_ixO 0 (i := 1) rfl rfl c_int) c_int) (mul (.inl ⟨by decide, by decide⟩) c_int (e_ixO 0 (i := 2) rfl rfl c_int)))) c_int) ?_ (.inr (by decide)) nd)
    refine w_cons (w_put 0 1 rfl (modp (by decide) (e_int T.n_int (add (mul ?_ (v 3 rfl) (add (modp (by decide) (e_int T.n_int (v 3 rfl)) c_int) c_int)) (e_ixO 0 (i := 2) rfl rfl c_int))) c_int) c_int rfl (by simp) ?_)
    · refine .inl ⟨?_, ?_⟩
      · exact Int.lt_of_lt_of_le (by decide) (Int.emod_nonneg _ (by decide))
      · exact Int.lt_trans (Int.emod_lt_of_pos _ (by decide)) (by decide)
    exact w_one (w_ret (modp h1 (e_int T.n_int (fdiv ⟨by decide, by decide⟩ (e_ixO 0 (i := 1) rfl rfl c_int) c_int)) (v 1 rfl)) ⟨_, rfl, hΦ _ _ ⟨_, _, _, rfl⟩ (Int.emod_nonneg _ (by omega)) (Int.emod_lt_of_pos _ h1)⟩)
/-- a draw from the well in slot 0 -/
theorem x_draw {X : Cx} {Q : Option Addr} {ρ : En} {e : Expr} {p py pos : Pos} {y : Str} {w0 : List D} {l : Int} {Φ : En → Slot → Prop} (T : Txt X.K X.mg) (hr : Room 1 X.A) (hρ : ρ[0]? = some (Slot.own w0)) (hw : W3 w0) (hl : 0 < l ∧ l < 1073741824) (he : DE X ρ e (I l)) (h : ∀ w' r, W3 w' → 0 ≤ r → r < l → Φ (ρ.set 0 (.own w')) (.dat (I r)))
    (hN : X.N[0]? = some y := by rfl) (hvis : Vis X.env.scope y := by first | exact Or.inl rfl | exact Or.inr (Or.inl rfl) | exact Or.inr (Or.inr rfl)) (hd : (y == ("__debug__" : Str)) = false := by decide) (hcd : (y == ("__classdict__" : Str)) = false := by decide) (hg : Gl X "_law_draw" := by rfl)
    (h1 : starEach [.Name y py, e] X.env = (false, eval (.Name y py) X.env) :: starEach [e] X.env := by rfl) (h2 : starEach [e] X.env = (false, eval e X.env) :: starEach [] X.env := by rfl) (hpl : (backTo pos (starEach [e] X.env)).any (·.1) = false := by rfl) :
    DX X Q ρ (.Call (.Name "_law_draw" p) [.Name y py, e] [] pos) Φ :=
  x_callW 0 (d_law_draw T) hr hρ (xa_a (a_cons he a_nil h2) ⟨w0, hρ, hw, l, rfl, hl, h⟩) hN hvis hd hcd hg (by decide) h1 hpl
def R_law_any_of (wl ds : List D) (Φ : List D → D → Prop) : Prop := W3 wl ∧ ∃ xs : List D, ds = [.tuple xs] ∧ (xs ≠ [] ∧ xs.length ≤ 1000) ∧ ∀ w' x, W3 w' → x ∈ xs → Φ w' x
theorem d_law_any_of (T : Txt K mg) : Def P w K mg base CX0 "_law_any_of" 2 P_law_any_of (SpW K R_law_any_of) := by
  obtain ⟨hm, fd, F⟩ := T.f_law_any_of
  refine mk_def hm F (own_ok F sc_law_any_of (fun wl ds Φ ⟨_, l, h, _⟩ => by rw [h]; rfl) fun cdv A outer s H E a w0 ds Φ hr hR => ?_) (fun _ _ _ _ _ _ us hl => match us, hl with | [_, _], _ => rfl)
  obtain ⟨hw, xs, rfl, ⟨h1, h2⟩, hΦ⟩ := hR
  show WS _ _ [.own w0, .dat (.tuple xs)] _ _
  have hpos : 0 < xs.length := List.length_pos_iff.mpr h1
  refine w_one (w_retX (Φ := fun ρ' s => ∃ d, s = .dat d ∧ ∃ w', ρ'[0]? = some (Slot.own w') ∧ Φ w' d) (x_ixT (v 1 rfl) (x_draw T hr rfl hw ⟨by omega, by omega⟩ (e_lenT T.n_len (v 1 rfl)) fun w' r hw' h0 hlt => ?_)) (fun ρ' s ⟨d, h1, h2⟩ => ⟨d, h1, h2⟩))
  obtain ⟨n, rfl⟩ : ∃ n : Nat, r = n := ⟨r.toNat, by omega⟩
  have hr' : xs[n]? = some (xs[n]'(by omega)) := List.getElem?_eq_getElem _
  exact ⟨_, _, rfl, at_nat hr', _, rfl, w', rfl, hΦ w' _ hw' (List.mem_of_getElem? hr')⟩
def R_law_unlike (wl ds : List D) (Φ : List D → D → Prop) : Prop := W3 wl ∧ ∃ (xs : List D) (q : D) (m : Nat), ds = [q, I m] ∧ Sq xs q ∧ (m ≤ xs.length ∧ xs.length ≤ 1000) ∧ ∀ w' ys zs, W3 w' → (ys ++ zs).Perm xs → ys.length = m → Φ w' (.list ys)
theorem d_law_unlike (T : Txt K mg) : Def P w K mg base CX0 "_law_unlike" 2 P_law_unlike (SpW K R_law_unlike) := by
  obtain ⟨hm, fd, F⟩ := T.f_law_unlike
  refine mk_def hm F (own_ok F sc_law_unlike (fun wl ds Φ ⟨_, _, _, l, h, _⟩ => by rw [h]; rfl) fun cdv A outer s H E a w0 ds Φ hr hR => ?_) (fun _ _ _ _ _ _ us hl => match us, hl with | [_, _, _], _ => rfl)
  obtain ⟨hw, xs, q, m, rfl, hq, ⟨h1, h2⟩, hΦ⟩ := hR
  show WS _ _ [.own w0, .dat q, .dat (I m), .un, .un, .un, .un] _ _
  have nd := sc_law_unlike.nd
  refine w_cons (w_par 3 4 (x_e (l_lstS hq T.n_list (v 1 rfl)).e ⟨nofun, x_l (l_lst a_nil (by decide)) ⟨nofun, ?_⟩⟩) (.inr ⟨by decide, by decide⟩) rfl nd)
  refine w_cons (w_for (fun i ρ => ∃ w' ys zs s5 s6, ρ = [.own w', .dat q, .dat (I m), .dat (.list zs), .own ys, s5, s6] ∧ W3 w' ∧ (ys ++ zs).Perm xs ∧ ys.length = i) (i_rng1 T.n_range (by omega) (v 2 rfl)) (dg_n (j := 5) nd) (.inr (by decide)) rfl ⟨w0, [], xs, _, _, rfl, hw, .refl _, rfl⟩ ?_ ?_)
  · rintro i d ρ' hd ⟨w1, ys, zs, s5, s6, rfl, hw1, hp, hl⟩
    have hi : i < m := by
      have := (List.getElem?_eq_some_iff.mp hd).1
      simpa using this
    have hz : ys.length + zs.length = xs.length := by rw [← List.length_append]; exact hp.length_eq
    refine ⟨_, rfl, ?_⟩
    refine w_cons (w_setX (Φ := fun ρ' s => ∃ (w' : List D) (r : Nat), W3 w' ∧ r < zs.length ∧ s = .dat (I r) ∧ ρ' = [.own w', .dat q, .dat (I m), .dat (.list zs), .own ys, .dat d, s6]) 6 (x_draw T hr rfl hw1 ⟨by omega, by omega⟩ (e_lenL T.n_len (v 3 rfl)) fun w' r hw' h0 hlt => ⟨w', r.toNat, hw', by omega, by rw [show ((r.toNat : Nat) : Int) = r by omega], rfl⟩) ?_ (.inr (by decide)) nd)
    rintro ρ2 sl ⟨w', r, hw', hrl, rfl, rfl⟩
    refine ⟨nofun, ?_⟩
    show WS _ _ [.own w', .dat q, .dat (I m), .dat (.list zs), .own ys, .dat d, .dat (I r)] _ _
    have hg : zs[r]? = some zs[r] := List.getElem?_eq_getElem hrl
    refine w_cons (w_app 4 rfl (e_ixL (at_nat hg) (v 3 rfl) (v 6 rfl)) (by omega) ?_)
    have e1 : ∀ l : List D, cut l none (some (r : Int)) = l.take r := fun l => cut_to l r
    have e2 : ∀ l : List D, cut l (some ((r : Int) + 1)) none = l.drop (r + 1) := fun l => cut_from l (r + 1)
    refine w_one (w_set 3 (DL.e (l_cat (by rw [e1, e2, List.length_take, List.length_drop]; omega) (l_slL (v 3 rfl) o_none (o_some (v 6 rfl))).e (l_slL (v 3 rfl) (o_some (add (v 6 rfl) c_int)) o_none).e)) ⟨w', ys ++ [zs[r]], zs.take r ++ zs.drop (r + 1), _, _, by rw [e1, e2]; rfl, hw', ?_, by rw [List.length_append, List.length_singleton, hl]⟩ (.inr (by decide)) nd)
    refine List.Perm.trans ?_ hp
    have e3 : zs = zs.take r ++ zs[r] :: zs.drop (r + 1) := by
      rw [← List.drop_eq_getElem_cons hrl, List.take_append_drop]
    have e4 : ys ++ [zs[r]] ++ (zs.take r ++ zs.drop (r + 1)) = ys ++ (zs[r] :: (zs.take r ++ zs.drop (r + 1))) := by simp
    rw [e4]
    refine List.Perm.append_left ys ?_
    have p := (List.perm_middle (l₁ := zs.take r) (a := zs[r]) (l₂ := zs.drop (r + 1))).symm
    rwa [← e3] at p
  · rintro ρ' ⟨w1, ys, zs, s5, s6, rfl, hw1, hp, hl⟩
    rw [List.length_map, List.length_range, Int.toNat_natCast] at hl
    exact w_frz 4 rfl (.inr (by decide)) (w_one (w_ret (v 4 rfl) ⟨w1, rfl, hΦ w1 ys zs hw1 hp hl⟩))
def R_law_primes (ds : List D) (d : D) : Prop := ds = [] ∧ d = TI primesB
theorem d_law_primes (T : Txt K mg) : Def P w K mg base CX0 "_law_primes" 1 P_law_primes (SpP K R_law_primes) := by
  obtain ⟨hm, fd, F⟩ := T.f_law_primes
  refine mk_def hm F (pure_ok F sc_law_primes (fun ds d ⟨h, _⟩ => by rw [h]; rfl) fun cdv A outer s H E ds d hr hR => ?_) (fun _ _ _ _ _ _ us hl => match us, hl with | [], _ => rfl)
  obtain ⟨rfl, rfl⟩ := hR
  show WS _ _ [] _ _
  exact w_one (w_ret (e_tup (by repeat (first | exact a_nil | refine a_cons c_int ?_)) (by decide)) rfl)
def R_law_line (wl ds : List D) (Φ : List D → D → Prop) : Prop := W3 wl ∧ ∃ (b : Int) (n : Nat), ds = [I b, I n] ∧ (3 ≤ b ∧ b ≤ 1000 ∧ n ≤ 1000) ∧ ∀ w' r, W3 w' → r.length = n → Rw b r → Φ w' (TI r)
theorem d_law_line (T : Txt K mg) : Def P w K mg base CX0 "_law_line" 2 P_law_line (SpW K R_law_line) := by
  obtain ⟨hm, fd, F⟩ := T.f_law_line
  refine mk_def hm F (own_ok F sc_law_line (fun wl ds Φ ⟨_, _, _, h, _⟩ => by rw [h]; rfl) fun cdv A outer s H E a w0 ds Φ hr hR => ?_) (fun _ _ _ _ _ _ us hl => match us, hl with | [_, _, _], _ => rfl)
  obtain ⟨hw, b, n, rfl, ⟨h1, h2, h3⟩, hΦ⟩ := hR
  show WS _ _ [.own w0, .dat (I b), .dat (I n), .un, .un, .un] _ _
  have nd := sc_law_line.nd
  refine w_cons (w_par 3 4 (x_mono (Φ := fun ρ1 s1 => ∃ (w' : List D) (l : Int), W3 w' ∧ (0 < l ∧ l ≤ b) ∧ s1 = .dat (I l) ∧ ρ1 = [.own w', .dat (I b), .dat (I n), .un, .un, .un]) (x_if (xt_gt (x_draw T hr rfl hw ⟨by decide, by decide⟩ c_int fun w1 r hw1 h0 hlt => ⟨r, 0, rfl, c_int, ?_⟩))) (fun ρ1 s1 ⟨w1, l, hw1, hl, e1, e2⟩ => ⟨by rw [e1]; nofun, x_l (l_lst a_nil (by decide)) ⟨nofun, ?_⟩⟩)) (.inr ⟨by decide, by decide⟩) rfl nd)
  · split
    · exact x_e (v 1 rfl) ⟨w1, b, hw1, ⟨by omega, by omega⟩, rfl, rfl⟩
    · exact x_e c_int ⟨w1, 3, hw1, ⟨by omega, by omega⟩, rfl, rfl⟩
  subst e1 e2
  show WS _ _ [.own w1, .dat (I b), .dat (I n), .dat (I l), .own [], .un] _ _
  refine w_cons (w_for (fun i ρ => ∃ w' r s5, ρ = [.own w', .dat (I b), .dat (I n), .dat (I l), .own (r.map PyData.int), s5] ∧ W3 w' ∧ r.length = i ∧ Rw b r) (i_rng1 T.n_range (by omega) (v 2 rfl)) (dg_n (j := 5) nd) (.inr (by decide)) rfl ⟨w1, [], _, rfl, hw1, rfl, fun x hx => by cases hx⟩ ?_ ?_)
  · rintro i d ρ' hd ⟨w2, r, s5, rfl, hw2, hrl, hrw⟩
    have hi : i < n := by
      have := (List.getElem?_eq_some_iff.mp hd).1
      simpa using this
    refine ⟨_, rfl, ?_⟩
    refine w_one (w_appX (Φ := fun ρ' s => ∃ (w' : List D) (x : Int), W3 w' ∧ (0 ≤ x ∧ x < l) ∧ s = .dat (I x) ∧ ρ' = [.own w', .dat (I b), .dat (I n), .dat (I l), .own (r.map PyData.int), .dat d]) 4 rfl (x_draw T hr rfl hw2 ⟨by omega, by omega⟩ (v 3 rfl) fun w' x hw' h0 hlt => ⟨w', x, hw', ⟨h0, hlt⟩, rfl, rfl⟩) ?_)
    rintro ρ2 sl ⟨w', x, hw', hx, rfl, rfl⟩
    refine ⟨_, _, rfl, rfl, by rw [List.length_map]; omega, w', r ++ [x], .dat d, by rw [List.map_append]; rfl, hw', by rw [List.length_append, List.length_singleton, hrl], fun y hy => ?_⟩
    rcases List.mem_append.mp hy with h | h
    · exact hrw y h
    · rw [List.mem_singleton.mp h]
      omega
  · rintro ρ' ⟨w2, r, s5, rfl, hw2, hrl, hrw⟩
    rw [List.length_map, List.length_range, Int.toNat_natCast] at hrl
    exact w_frz 4 rfl (.inr (by decide)) (w_one (w_ret (e_tupL T.n_tuple (v 4 rfl)) ⟨w2, rfl, hΦ w2 r hw2 hrl hrw⟩))
def R_law_dot (ds : List D) (d : D) : Prop := ∃ (p : Int) (a b : List Int), ds = [I p, TI a, LI b] ∧ (0 < p ∧ Sm a ∧ a.length ≤ 1000) ∧ d = I (dotB p a b)
theorem d_law_dot (T : Txt K mg) : Def P w K mg base CX0 "_law_dot" 1 P_law_dot (SpP K R_law_dot) := by
  obtain ⟨hm, fd, F⟩ := T.f_law_dot
  refine mk_def hm F (pure_ok F sc_law_dot (fun ds d ⟨_, _, _, h, _⟩ => by rw [h]; rfl) fun cdv A outer s H E ds d hr hR => ?_) (fun _ _ _ _ _ _ us hl => match us, hl with | [_, _, _], _ => rfl)
  obtain ⟨p, a, b, rfl, ⟨h1, h2, h3⟩, rfl⟩ := hR
  show WS _ _ [.dat (I p), .dat (TI a), .dat (LI b), .un, .un, .un] _ _
  have nd := sc_law_dot.nd
  refine w_cons (w_set 3 c_int ?_ (.inl rfl) nd)
  refine w_cons (w_for (fun i ρ => ∃ s4 s5, ρ = [.dat (I p), .dat (TI a), .dat (LI b), .dat (I ((((a.zip b).map fun q => q.1 * q.2).take i).sum)), s4, s5]) ((i_zipM true false T.n_zip (v 1 rfl) (v 2 rfl)).is (zipD_map _ _ a b)) (dg_t (n := 2) rfl (dgs_cons (j := 4) nd (dgs_cons (j := 5) nd dgs_nil))) (.inl rfl) rfl ⟨_, _, rfl⟩ ?_ ?_)
  · rintro i d ρ' hd ⟨s4, s5, rfl⟩
    rw [List.getElem?_map] at hd
    cases hx : (a.zip b)[i]? with
    | none => rw [hx] at hd; cases hd
    | some q =>
      rw [hx] at hd
      cases hd
      refine ⟨_, ⟨_, rfl, rfl, rfl⟩, ?_⟩
      show WS _ _ [.dat (I p), .dat (TI a), .dat (LI b), .dat (I ((((a.zip b).map fun q => q.1 * q.2).take i).sum)), .dat (I q.1), .dat (I q.2)] _ _
      refine w_one (w_set 3 (add (v 3 rfl) (mul (cm_l (h2.of (List.of_mem_zip (List.mem_of_getElem? hx)).1)) (v 4 rfl) (v 5 rfl))) ⟨.dat (I q.1), .dat (I q.2), ?_⟩ (.inl rfl) nd)
      have e : (((a.zip b).map fun q => q.1 * q.2).take (i + 1)).sum = (((a.zip b).map fun q => q.1 * q.2).take i).sum + q.1 * q.2 := by
        rw [List.take_add_one, List.getElem?_map, hx]
        simp
      rw [e]
      rfl
  · rintro ρ' ⟨s4, s5, rfl⟩
    refine w_one (w_ret (modp h1 (e_int T.n_int (v 3 rfl)) (v 0 rfl)) ?_)
    rw [List.take_of_length_le (by simp)]
    rfl
def R_law_climb (ds : List D) (d : D) : Prop := ∃ (p x : Int) (n : Nat), ds = [I p, I x, I n] ∧ (Pk p ∧ n ≤ 1000) ∧ d = TI (powsB p x n)
theorem d_law_climb (T : Txt K mg) : Def P w K mg base CX0 "_law_climb" 1 P_law_climb (SpP K R_law_climb) := by
  obtain ⟨hm, fd, F⟩ := T.f_law_climb
  refine mk_def hm F (pure_ok F sc_law_climb (fun ds d ⟨_, _, _, h, _⟩ => by rw [h]; rfl) fun cdv A outer s H E ds d hr hR => ?_) (fun _ _ _ _ _ _ us hl => match us, hl with | [_, _, _], _ => rfl)
  obtain ⟨p, x, n, rfl, ⟨h1, h2⟩, rfl⟩ := hR
  show WS _ _ [.dat (I p), .dat (I x), .dat (I n), .un, .un, .un] _ _
  have nd := sc_law_climb.nd
  have hp1 := h1.1
  have hp2 := h1.2
  refine w_cons (w_par 3 4 (x_l (l_lst a_nil (by decide)) ⟨nofun, x_e c_int ⟨nofun, ?_⟩⟩) (.inl rfl) rfl nd)
  refine w_cons (w_for (fun i ρ => ∃ s5, ρ = [.dat (I p), .dat (I x), .dat (I n), .own (((List.range i).map (powB p x)).map PyData.int), .dat (I (powB p x i)), s5]) (i_rng1 T.n_range (by omega) (v 2 rfl)) (dg_n (j := 5) nd) (.inl rfl) rfl ⟨_, rfl⟩ ?_ ?_)
  · rintro i d ρ' hd ⟨s5, rfl⟩
    have hi : i < n := by
      have := (List.getElem?_eq_some_iff.mp hd).1
      simpa using this
    have hb := powB_lt (x := x) (show 0 < p by omega) i
    refine ⟨_, rfl, ?_⟩
    refine w_cons (w_app 3 rfl (v 4 rfl) (by simp; omega) ?_)
    exact w_one (w_set 4 (modp (by omega) (e_int T.n_int (mul (cm_l (by omega)) (v 4 rfl) (v 1 rfl))) (v 0 rfl)) ⟨_, by rw [List.range_succ, List.map_append, List.map_append]; rfl⟩ (.inl rfl) nd)
  · rintro ρ' ⟨s5, rfl⟩
    rw [List.length_map, List.length_range, Int.toNat_natCast]
    exact w_frz 3 rfl (.inl rfl) (w_one (w_ret (e_tupL T.n_tuple (v 3 rfl)) rfl))
def R_law_invert (ds : List D) (d : D) : Prop := ∃ (p x y : Int), ds = [I p, I x] ∧ (Pk p ∧ (invL p x).head? = some y) ∧ d = I y
theorem d_law_invert (T : Txt K mg) : Def P w K mg base CX0 "_law_invert" 1 P_law_invert (SpP K R_law_invert) := by
  obtain ⟨hm, fd, F⟩ := T.f_law_invert
  refine mk_def hm F (pure_ok F sc_law_invert (fun ds d ⟨_, _, _, h, _⟩ => by rw [h]; rfl) fun cdv A outer s H E ds d hr hR => ?_) (fun _ _ _ _ _ _ us hl => match us, hl with | [_, _], _ => rfl)
  obtain ⟨p, x, y, rfl, ⟨h1, h2⟩, rfl⟩ := hR
  show WS _ _ [.dat (I p), .dat (I x), .un] _ _
  have nd := sc_law_invert.nd
  have hp1 := h1.1
  have hp2 := h1.2
  have hsp : ∀ i, invL p x = ((((List.range (p - 1).toNat).take i).filter fun (k : Nat) => decide ((1 + (k : Int)) * x % p = 1)).map fun (k : Nat) => 1 + (k : Int)) ++ ((((List.range (p - 1).toNat).drop i).filter fun (k : Nat) => decide ((1 + (k : Int)) * x % p = 1)).map fun (k : Nat) => 1 + (k : Int)) := fun i => by
    unfold invL
    rw [← List.map_append, ← List.filter_append, List.take_append_drop]
  refine w_cons (w_for (fun i ρ => (∃ s2, ρ = [.dat (I p), .dat (I x), s2]) ∧ (((List.range (p - 1).toNat).take i).filter fun (k : Nat) => decide ((1 + (k : Int)) * x % p = 1)) = []) (i_rng2 T.n_range (by omega) c_int (v 0 rfl)) (dg_n (j := 2) nd) (.inl rfl) rfl ⟨⟨_, rfl⟩, rfl⟩ ?_ ?_)
  · rintro i d ρ' hd ⟨⟨s2, rfl⟩, hn⟩
    have hi : i < (p - 1).toNat := by
      have := (List.getElem?_eq_some_iff.mp hd).1
      simpa using this
    rw [List.getElem?_map, List.getElem?_range hi] at hd
    cases hd
    refine ⟨_, rfl, ?_⟩
    show WS _ _ [.dat (I p), .dat (I x), .dat (I (1 + (i : Int)))] _ _
    have hrg : (List.range (p - 1).toNat)[i]? = some i := List.getElem?_range hi
    refine w_one (w_if (k := decide ((1 + (i : Int)) * x % p = 1)) ((t_eqi (modp (by omega) (e_int T.n_int (mul (cm_r (by omega)) (v 1 rfl) (v 2 rfl))) (v 0 rfl)) c_int).is (by rw [Int.mul_comm])) (fun h => ?_) (fun h => w_nil ⟨⟨_, rfl⟩, ?_⟩))
    · refine w_one (w_ret (v 2 rfl) ?_)
      have e := hsp i
      rw [hn, List.drop_eq_getElem_cons (by simpa using hi), List.filter_cons_of_pos (by simpa using h)] at e
      rw [e] at h2
      have h3 : some (1 + (((List.range (p - 1).toNat)[i]'(by simpa using hi) : Nat) : Int)) = some y := h2
      rw [List.getElem_range] at h3
      rw [← Option.some.inj h3]
    · rw [List.take_add_one, hrg, List.filter_append, hn]
      show [] ++ List.filter _ [i] = []
      rw [List.filter_cons_of_neg (by simpa using h)]
      rfl
  · rintro ρ' ⟨⟨s2, rfl⟩, hn⟩
    exfalso
    rw [List.length_map, List.length_range, List.take_of_length_le (by simp)] at hn
    unfold invL at h2
    rw [hn] at h2
    cases h2
end
end Lm
set_option maxRecDepth 100000
set_option maxHeartbeats 4000000
/-! The law's elimination. -/
namespace Lm
open PySem PySem.Spec PyProof.Rows L2 Evl
theorem take_set_drop {α : Type} (a b : List α) (i : Nat) (h : i < a.length) (hb : a.length = b.length) : (a.take i ++ b.drop i).set i a[i] = a.take (i + 1) ++ b.drop (i + 1) := by
  refine List.ext_getElem? fun k => ?_
  have l1 : (a.take i).length = i := by rw [List.length_take]; omega
  have l2 : (a.take (i + 1)).length = i + 1 := by rw [List.length_take]; omega
  by_cases hk : i = k
  · subst hk
    rw [List.getElem?_set_self (by rw [List.length_append, l1, List.length_drop]; omega), List.getElem?_append_left (by omega), List.getElem?_take, if_pos (by omega), List.getElem?_eq_getElem h]
  · rw [List.getElem?_set_ne hk]
    by_cases h2 : k < i
    · rw [List.getElem?_append_left (by omega), List.getElem?_append_left (by omega), List.getElem?_take, List.getElem?_take, if_pos h2, if_pos (by omega)]
    · rw [List.getElem?_append_right (by omega), List.getElem?_append_right (by omega), l1, l2, List.getElem?_drop, List.getElem?_drop]
      congr 1
      omega
theorem mix_at {α : Type} (a b : List α) (i k : Nat) (hb : a.length = b.length) (hi : i ≤ a.length) : (a.take i ++ b.drop i)[k]? = if k < i then a[k]? else b[k]? := by
  have l1 : (a.take i).length = i := by rw [List.length_take]; omega
  by_cases h : k < i
  · rw [if_pos h, List.getElem?_append_left (by omega), List.getElem?_take, if_pos h]
  · rw [if_neg h, List.getElem?_append_right (by omega), l1, List.getElem?_drop]
    congr 1
    omega
theorem less_zero {p : Int} {L : Nat} {a b : List Int} (ha : Rw p a) (h1 : a.length = L) (h2 : b.length = L) : lessB p a b 0 = a := by
  refine List.ext_getElem (by rw [less_len]; omega) fun k hk hk' => ?_
  have e := less_at (p := p) (m := 0) (a := a) (b := b) (c := k) (by omega) hk'
  rw [getD_eq _ k 0 hk, getD_eq a k 0 hk', Int.zero_mul, Int.sub_zero] at e
  have := ha _ (List.getElem_mem hk')
  rw [e, Int.emod_eq_of_lt this.1 this.2]
def widB (rs : List (List Int)) (L : Nat) : Nat := if rs = [] then 0 else L
section
variable {P : Program} {w : World} {K : PySem.W.Frag} {mg : Str → Option Value} {base : Heap}
def R_law_stairs (ds : List D) (d : D) : Prop := ∃ (p : Int) (rs : List (List Int)) (L n : Nat), ds = [I p, LL rs] ∧ (Pk p ∧ Iv p ∧ Mx p L n rs ∧ n ≤ 1000 ∧ L ≤ 1000) ∧ d = .tuple [LL (stairsAt p rs (widB rs L)).1, LI ((stairsAt p rs (widB rs L)).2.map fun (k : Nat) => (k : Int))]
theorem d_law_stairs (T : Txt K mg) : Def P w K mg base CX0 "_law_stairs" 2 P_law_stairs (SpP K R_law_stairs) := by
  obtain ⟨hm, fd, F⟩ := T.f_law_stairs
  refine mk_def hm F (pure_ok F sc_law_stairs (fun ds d ⟨p, x, n, _, h, _⟩ => by rw [h]; rfl) fun cdv A outer s H E ds d hr hR => ?_) (fun _ _ _ _ _ _ us hl => match us, hl with | [_, _], _ => rfl)
  obtain ⟨p, rs, L, n, rfl, ⟨hp, hI, hM, hn, hL⟩, rfl⟩ := hR
  show WS _ _ [.dat (I p), .dat (LL rs), .un, .un, .un, .un, .un, .un, .un, .un, .un, .un, .un] _ _
  have nd := sc_law_stairs.nd
  have hp1 := hp.1
  have hp2 := hp.2
  refine w_cons (w_tup2 2 3 (x_l (ds := rs.map LI) ?_ ⟨nofun, x_l (l_lst a_nil (by decide)) ⟨nofun, ?_⟩⟩) (.inl rfl) rfl nd)
  · refine (lcn (own := [("_law_line_here", 10)]) rs LI (fun r => [.dat (I p), .dat (LL rs), .un, .un, .un, .un, .un, .un, .un, .un, .dat (LI r), .un, .un]) LI rfl nd (blkOk_by (N := N_law_stairs) (sc := defScope s_law_stairs) (by decide +kernel)) (by have := hM.1; omega)
      (i_lst (v 1 rfl)).o rfl (fun _ _ _ _ _ => dg_n (j := 10) nd) (by decide) (fun a _ => by rfl) (fun r hr' _ _ _ _ _ => ?_)).e
    exact (l_lstL T.n_list (v 10 rfl)).e
  show WS _ _ [.dat (I p), .dat (LL rs), .own (rs.map LI), .own [], .un, .un, .un, .un, .un, .un, .un, .un, .un] _ _
  have hwL : widB rs L ≤ L := by unfold widB; split <;> omega
  refine w_cons (w_for (fun i ρ => ∃ s4 s5 s6 s7 s8 s9, ρ = [.dat (I p), .dat (LL rs), .own ((stairsAt p rs i).1.map LI), .own ((stairsAt p rs i).2.map fun (k : Nat) => I (k : Int)), s4, s5, s6, s7, s8, s9, .un, .un, .un]) (i_rng1 (n := ((widB rs L : Nat) : Int)) T.n_range (by omega) (e_peek 2 rfl rfl (e_if (p := !decide (rs = [])) ((t_ne hr.units ?_ (shp_lst (n := 0) (fun _ h => by cases h)).s (v 2 rfl) (l_lst a_nil (by decide)).e).is ?_) (fun h => ?_) (fun h => ?_)))) (dg_n (j := 4) nd) (.inl rfl) rfl ⟨_, _, _, _, _, _, rfl⟩ ?_ ?_)
  · exact (shp_lst (n := 1) fun d hd => by
      obtain ⟨r, _, rfl⟩ := List.mem_map.mp hd
      exact shp_LI r).s
  · cases rs with
    | nil => rfl
    | cons r t => rfl
  · have h' : rs ≠ [] := by simpa using h
    cases rs with
    | nil => exact absurd rfl h'
    | cons r t => exact (e_lenL T.n_len (e_ixL (d := LI r) (at_nat (k := 0) rfl) (v 2 rfl) c_int)).is (by have := (hM.2 r List.mem_cons_self).1; simp [widB, this])
  · have h' : rs = [] := by simpa using h
    exact c_int.is (by unfold widB; rw [if_pos h']; rfl)
  · rintro i d ρ' hd ⟨s4, s5, s6, s7, s8, s9, rfl⟩
    have hi : i < widB rs L := by
      have := (List.getElem?_eq_some_iff.mp hd).1
      simpa using this
    have hdi : d = I (i : Int) := by
      rw [List.getElem?_map, List.getElem?_range (by simpa using hi)] at hd
      exact (Option.some.inj hd).symm
    subst hdi
    obtain ⟨a1, a2⟩ := at_ok hp hM i
    rw [stairsAt_succ]
    revert a1 a2
    generalize stairsAt p rs i = S
    obtain ⟨f, st⟩ := S
    intro a1 a2
    have a1 : Mx p L n f := a1
    have a2 : st.length ≤ n := a2
    have hfl := a1.1
    refine ⟨_, rfl, ?_⟩
    show WS _ _ [.dat (I p), .dat (LL rs), .own (f.map LI), .own (st.map fun (k : Nat) => I (k : Int)), .dat (I i), s5, s6, s7, s8, s9, .un, .un, .un] _ _
    refine w_cons (w_set 5 (e_peek 3 rfl rfl ((e_lenL T.n_len (v 3 rfl)).is (d' := I (st.length : Nat)) (by rw [List.length_map]))) ?_ (.inl rfl) nd)
    show WS _ _ [.dat (I p), .dat (LL rs), .own (f.map LI), .own (st.map fun (k : Nat) => I (k : Int)), .dat (I i), .dat (I (st.length : Nat)), s6, s7, s8, s9, .un, .un, .un] _ _
    refine w_cons (w_setL 6 (ds := (headsAt f st.length i).map fun (k : Nat) => I (k : Int)) (lc_peek 2 rfl (by simp [flatD]) (Lc.is (lc1 (own := [("_law_at", 8)]) (List.range (f.length - st.length)) (fun k => I (st.length + (k : Int)))
      (fun k => [.dat (I p), .dat (LL rs), .dat (LL f), .own (st.map fun (k : Nat) => I (k : Int)), .dat (I i), .dat (I (st.length : Nat)), s6, s7, .dat (I (st.length + (k : Int))), s9, .un, .un, .un]) (fun k => !decide ((f.getD (st.length + k) []).getD i 0 = 0)) (fun k => I (st.length + (k : Int))) rfl nd
      (blkOk_by (N := N_law_stairs) (sc := defScope s_law_stairs) (by decide +kernel)) (by rw [List.length_range]; omega)
      ?_ (fun _ _ _ _ _ => dg_n (j := 8) nd) (by decide) (fun a _ => by rfl) (fun k hk _ _ _ _ _ => ?_) (fun k hk hb _ _ _ _ _ => v 8 rfl)) ?_)) ?_ (.inl rfl))
    · refine ((i_rng2 T.n_range ?_ (v 5 rfl) (e_lenL T.n_len (v 2 rfl))).is ?_).o
      · simp only [List.length_map]
        omega
      · simp only [List.length_map]
        congr 1
        rw [show ((f.length : Int) - (st.length : Int)).toNat = f.length - st.length by omega]
    · have hk' := List.mem_range.mp hk
      have rr := a1.row (k := st.length + k) (by omega)
      refine ts_one (t_nei (i := (f.getD (st.length + k) []).getD i 0) (e_ixL (at_map (get_of (by rw [rr.2.1]; omega) 0)) (e_ixL (at_map (f := LI) (k := st.length + k) rr.1) (v 2 rfl) ((v 8 rfl).is ?_)) (v 4 rfl)) c_int)
      simp
    · unfold headsAt
      rw [List.map_map]
      rfl
    show WS _ _ [.dat (I p), .dat (LL rs), .own (f.map LI), .own (st.map fun (k : Nat) => I (k : Int)), .dat (I i), .dat (I (st.length : Nat)), .dat (.list ((headsAt f st.length i).map fun (k : Nat) => I (k : Int))), s7, s8, s9, .un, .un, .un] _ _
    have e6 : (headsAt f st.length i).map (fun (k : Nat) => I (k : Int)) = ((headsAt f st.length i).map fun (k : Nat) => (k : Int)).map PyData.int := by rw [List.map_map]; rfl
    have hst : stairStep p (f, st) i = stairPick p f st i (headsAt f st.length i) := rfl
    rw [hst]
    have hgo : ∀ h, h ∈ headsAt f st.length i → _ := fun h hh => go_ok hp a1 hh
    have hmem : ∀ h, h ∈ headsAt f st.length i → _ := fun h hh => heads_mem hh
    revert e6 hgo hmem
    generalize headsAt f st.length i = hs
    intro e6 hgo hmem
    refine w_one (w_if (t_ne hr.units ?_ (shp_lst (n := 0) (fun _ h => by cases h)).s (v 6 rfl) (l_lst a_nil (by decide)).e) (fun hk => ?_) (fun hk => ?_))
    · rw [e6]
      exact (shp_LI _).s
    rotate_left
    · rw [e6] at hk
      have hk2 : (hs.map fun (k : Nat) => (k : Int)) = [] := (eqv_LI _ []).mp (nf hk)
      cases hs with
      | cons _ _ => cases hk2
      | nil => exact w_nil ⟨_, _, _, _, _, _, rfl⟩
    · cases hs with
      | nil =>
        exfalso
        have z := (eqv_LI [] []).mpr rfl
        have hk' : (!PyData.eqv (LI []) (LI [])) = true := hk
        rw [z] at hk'
        cases hk'
      | cons h tl =>
      obtain ⟨m1, m2, m3⟩ := hgo h List.mem_cons_self
      obtain ⟨k1, k2, k3⟩ := hmem h List.mem_cons_self
      have sl : st.length < n := by omega
      have hh : h < n := by omega
      have r1 := m1.row sl
      have sg := swap_get (f := f) k1 k2
      refine w_cons (w_put2 2 st.length h rfl (e_ixO 2 (at_map (f := LI) (a1.row hh).1) rfl (e_ixL (at_map (f := fun (k : Nat) => I (k : Int)) (k := 0) rfl) (v 6 rfl) c_int)) (e_ixO 2 (at_map (f := LI) (a1.row sl).1) rfl (v 5 rfl)) (v 5 rfl) (e_ixL (at_map (f := fun (k : Nat) => I (k : Int)) (k := 0) rfl) (v 6 rfl) c_int) rfl rfl (by rw [List.length_map, hfl]; exact sl) (by rw [List.length_map, hfl]; exact hh) (e_ixL (at_map (f := fun (k : Nat) => I (k : Int)) (k := 0) rfl) (v 6 rfl) c_int) rfl ?_)
      rw [← List.map_set, ← List.map_set]
      have hf1 : stairGo p f st i h = ((((f.set st.length (f.getD h [])).set h (f.getD st.length [])).map fun r => lessB p r ((((f.set st.length (f.getD h [])).set h (f.getD st.length [])).getD st.length []).map fun x => invB p ((((f.set st.length (f.getD h [])).set h (f.getD st.length [])).getD st.length []).getD i 0) * x % p) (r.getD i 0)).set st.length ((((f.set st.length (f.getD h [])).set h (f.getD st.length [])).getD st.length []).map fun x => invB p ((((f.set st.length (f.getD h [])).set h (f.getD st.length [])).getD st.length []).getD i 0) * x % p), st ++ [i]) := rfl
      rw [stairPick_cons, hf1]
      rw [← sg] at k3
      revert m1 r1 k3
      generalize (f.set st.length (f.getD h [])).set h (f.getD st.length []) = f1
      intro m1 k3 r1
      generalize hpv : f1.getD st.length [] = pv at *
      show WS _ _ [.dat (I p), .dat (LL rs), .own (f1.map LI), .own (st.map fun (k : Nat) => I (k : Int)), .dat (I i), .dat (I (st.length : Nat)), .dat (.list ((h :: tl).map fun (k : Nat) => I (k : Int))), s7, s8, s9, .un, .un, .un] _ _
      have gi : pv[i]? = some (pv.getD i 0) := get_of (by rw [r1.2.1]; omega) 0
      have gb := r1.2.2 _ (List.mem_of_getElem? gi)
      obtain ⟨y, y1, y2, y3, y4⟩ := hI (pv.getD i 0) (by omega) (by omega)
      have ey : invB p (pv.getD i 0) = y := by
        unfold invB
        rw [List.headD_eq_head?_getD, y1]
        rfl
      rw [ey]
      have hfl1 := m1.1
      refine w_cons (w_set 7 (e_call (d_law_invert T) hr ⟨p, pv.getD i 0, y, rfl, ⟨hp, y1⟩, rfl⟩ (a_cons (v 0 rfl) (a_cons (e_ixL (at_map gi) (e_ixO 2 (at_map (f := LI) r1.1) rfl (v 5 rfl)) (v 4 rfl)) a_nil))) ?_ (.inl rfl) nd)
      refine w_cons (w_put 2 st.length (d := LI (pv.map fun x => y * x % p)) rfl ?_ (v 5 rfl) rfl (by rw [List.length_map, hfl1]; exact sl) ?_)
      · refine (lcn (own := [("_law_x", 11)]) pv PyData.int (fun x => [.dat (I p), .dat (LL rs), .own (f1.map LI), .own (st.map fun (k : Nat) => I (k : Int)), .dat (I i), .dat (I (st.length : Nat)), .dat (.list ((h :: tl).map fun (k : Nat) => I (k : Int))), .dat (I y), s8, s9, .un, .dat (I x), .un]) (fun x => I (y * x % p)) rfl nd
          (blkOk_by (N := N_law_stairs) (sc := defScope s_law_stairs) (by decide +kernel)) (by rw [r1.2.1]; omega) (i_lst (e_ixO 2 (at_map (f := LI) r1.1) rfl (v 5 rfl))).o rfl (fun _ _ _ _ _ => dg_n (j := 11) nd) (by decide) (fun a _ => by rfl) (fun x hx' _ _ _ _ _ => ?_)).e.e.is (by simp [LI])
        exact (modp (by omega) (e_int T.n_int (mul (cm_r (by omega)) (v 11 rfl) (v 7 rfl))) (v 0 rfl)).is (by rw [Int.mul_comm])
      generalize hld : (pv.map fun x => y * x % p) = lead
      have hl1 : Rw p lead := by rw [← hld]; exact rw_md hp _ _
      have hl2 : lead.length = L := by rw [← hld, List.length_map]; exact r1.2.1
      have hli : lead.getD i 0 = 1 := by
        rw [← hld, getD_map (fun x => y * x % p) pv i 0 0 (by rw [r1.2.1]; omega)]
        exact y4
      rw [← List.map_set]
      -- the rows behind
      have mfin : Mx p L n ((f1.map fun r => lessB p r lead (r.getD i 0)).set st.length lead) := Mx.set ⟨by rw [List.length_map]; exact m1.1, fun r hr => by
        obtain ⟨q, hq, rfl⟩ := List.mem_map.mp hr
        exact ⟨by rw [less_len, (m1.2 q hq).1, hl2, Nat.min_self], rw_less hp _ _ _⟩⟩ ⟨hl2, hl1⟩
      have mf' : Mx p L n (f1.set st.length lead) := m1.set ⟨hl2, hl1⟩
      have fins : ((f1.map fun r => lessB p r lead (r.getD i 0)).set st.length lead)[st.length]? = some lead := List.getElem?_set_self (by rw [List.length_map, hfl1]; exact sl)
      have fs' : (f1.set st.length lead)[st.length]? = some lead := List.getElem?_set_self (by rw [hfl1]; exact sl)
      have fina : ∀ a, a ≠ st.length → ((f1.map fun r => lessB p r lead (r.getD i 0)).set st.length lead)[a]? = (f1[a]?).map fun r => lessB p r lead (r.getD i 0) := fun a ha => by rw [List.getElem?_set_ne (Ne.symm ha), List.getElem?_map]
      have fa' : ∀ a, a ≠ st.length → (f1.set st.length lead)[a]? = f1[a]? := fun a ha => List.getElem?_set_ne (Ne.symm ha)
      generalize ((f1.map fun r => lessB p r lead (r.getD i 0)).set st.length lead) = fin at *
      generalize (f1.set st.length lead) = f' at *
      have hlen : fin.length = f'.length := by rw [mfin.1, mf'.1]
      refine w_cons (w_for (fun j ρ => ∃ s8 s9, ρ = [.dat (I p), .dat (LL rs), .own ((fin.take j ++ f'.drop j).map LI), .own (st.map fun (k : Nat) => I (k : Int)), .dat (I i), .dat (I (st.length : Nat)), .dat (.list ((h :: tl).map fun (k : Nat) => I (k : Int))), .dat (I y), s8, s9, .un, .un, .un]) (i_rng1 T.n_range (n := (n : Int)) (by omega) (e_peek 2 rfl rfl ((e_lenL T.n_len (v 2 rfl)).is (by simp [mf'.1])))) (dg_n (j := 8) nd) (.inl rfl) rfl ⟨_, _, rfl⟩ ?_ ?_)
      · rintro j d ρ' hd ⟨s8, s9, rfl⟩
        have hj : j < n := by
          have := (List.getElem?_eq_some_iff.mp hd).1
          simpa using this
        have hdj : d = I (j : Int) := by
          rw [List.getElem?_map, List.getElem?_range (by simpa using hj)] at hd
          exact (Option.some.inj hd).symm
        subst hdj
        have fr := m1.row hj
        have gm : (fin.take j ++ f'.drop j)[st.length]? = some lead := by
          rw [mix_at fin f' j st.length hlen (by rw [mfin.1]; omega)]
          split
          · exact fins
          · exact fs'
        have gj : (fin.take j ++ f'.drop j)[j]? = f'[j]? := by
          rw [mix_at fin f' j j hlen (by rw [mfin.1]; omega), if_neg (by omega)]
        have hml : (fin.take j ++ f'.drop j).length = n := by rw [List.length_append, List.length_take, List.length_drop, mfin.1, mf'.1]; omega
        have fj := mf'.row hj
        have fnj := mfin.row hj
        have nxt := take_set_drop fin f' j (by rw [mfin.1]; exact hj) hlen
        rw [← getD_eq fin j [] (by rw [mfin.1]; exact hj)] at nxt
        refine ⟨_, rfl, ?_⟩
        show WS _ _ [.dat (I p), .dat (LL rs), .own ((fin.take j ++ f'.drop j).map LI), .own (st.map fun (k : Nat) => I (k : Int)), .dat (I i), .dat (I (st.length : Nat)), .dat (.list ((h :: tl).map fun (k : Nat) => I (k : Int))), .dat (I y), .dat (I j), s9, .un, .un, .un] _ _
        have gj' : (fin.take j ++ f'.drop j)[j]? = some (f'.getD j []) := gj.trans fj.1
        refine w_cons (w_set 9 (d := I ((f'.getD j []).getD i 0)) (e_ixL (at_map (get_of (by rw [fj.2.1]; omega) 0)) (e_ixO 2 (at_map (f := LI) gj') rfl (v 8 rfl)) (v 4 rfl)) ?_ (.inl rfl) nd)
        show WS _ _ [.dat (I p), .dat (LL rs), .own ((fin.take j ++ f'.drop j).map LI), .own (st.map fun (k : Nat) => I (k : Int)), .dat (I i), .dat (I (st.length : Nat)), .dat (.list ((h :: tl).map fun (k : Nat) => I (k : Int))), .dat (I y), .dat (I j), .dat (I ((f'.getD j []).getD i 0)), .un, .un, .un] _ _
        refine w_one (w_if (k := (!decide (j = st.length)) && !decide ((f'.getD j []).getD i 0 = 0)) (PW.pt (DW.is (w_and (t_nei (v 8 rfl) (v 5 rfl)) fun _ => w_and1 (t_nei (v 9 rfl) c_int)) (by congr 2; exact decide_eq_decide.mpr (by omega)))) (fun hb => ?_) (fun hb => ?_))
        · rw [Bool.and_eq_true] at hb
          have hne : j ≠ st.length := by simpa using hb.1
          have e1 : f'.getD j [] = f1.getD j [] := by rw [List.getD_eq_getElem?_getD, fa' j hne, ← List.getD_eq_getElem?_getD]
          have e2 : fin.getD j [] = lessB p (f1.getD j []) lead ((f1.getD j []).getD i 0) := by
            rw [List.getD_eq_getElem?_getD, fina j hne, fr.1]
            rfl
          refine w_one (w_put 2 j (d := LI (fin.getD j [])) rfl ?_ (v 8 rfl) rfl (by rw [List.length_map, hml]; exact hj) ⟨_, _, by rw [← nxt, List.map_set]; rfl⟩)
          rw [e2]
          refine (lcn (own := [("_law_x", 11), ("_law_y", 12)]) ((f'.getD j []).zip lead) (fun q => .tuple [I q.1, I q.2]) (fun q => [.dat (I p), .dat (LL rs), .own ((fin.take j ++ f'.drop j).map LI), .own (st.map fun (k : Nat) => I (k : Int)), .dat (I i), .dat (I (st.length : Nat)), .dat (.list ((h :: tl).map fun (k : Nat) => I (k : Int))), .dat (I y), .dat (I j), .dat (I ((f'.getD j []).getD i 0)), .un, .dat (I q.1), .dat (I q.2)]) (fun q => I ((q.1 - (f'.getD j []).getD i 0 * q.2) % p)) rfl nd
            (blkOk_by (N := N_law_stairs) (sc := defScope s_law_stairs) (by decide +kernel)) (by rw [List.length_zip, fj.2.1]; omega) (i_zipL T.n_zip (e_ixO 2 (at_map (f := LI) gj') rfl (v 8 rfl)) (e_ixO 2 (at_map (f := LI) gm) rfl (v 5 rfl))).o (zipD_map _ _ _ lead) (fun _ _ _ _ _ => dg_t rfl (dgs_cons (j := 11) nd (dgs_cons (j := 12) nd dgs_nil))) (by decide) (fun q _ => ⟨[I q.1, I q.2], rfl, rfl, rfl⟩) (fun q hq _ _ _ _ _ => ?_)).e.e.is (by rw [e1]; simp [lessB])
          have hq2 := hl1 _ (List.of_mem_zip hq).2
          exact modp (by omega) (e_int T.n_int (sub (v 11 rfl) (mul (cm_r (by omega)) (v 9 rfl) (v 12 rfl)))) (v 0 rfl)
        · have ej : fin.getD j [] = f'.getD j [] := by
            by_cases hne : j = st.length
            · rw [List.getD_eq_getElem?_getD, List.getD_eq_getElem?_getD, hne, fins, fs']
            · have e1 : f'.getD j [] = f1.getD j [] := by rw [List.getD_eq_getElem?_getD, fa' j hne, ← List.getD_eq_getElem?_getD]
              have e2 : fin.getD j [] = lessB p (f1.getD j []) lead ((f1.getD j []).getD i 0) := by
                rw [List.getD_eq_getElem?_getD, fina j hne, fr.1]
                rfl
              have e0 : (f1.getD j []).getD i 0 = 0 := by
                rw [e1] at hb
                simpa [hne] using hb
              rw [e2, e1, e0]
              exact less_zero fr.2.2 fr.2.1 hl2
          have same : (fin.take j ++ f'.drop j).set j (f'.getD j []) = fin.take j ++ f'.drop j := by
            obtain ⟨hl, he⟩ := List.getElem?_eq_some_iff.mp gj'
            rw [← he, List.set_getElem_self]
          exact w_nil ⟨_, _, by rw [← nxt, ej, same]⟩
      · rintro ρ' ⟨s8, s9, rfl⟩
        rw [List.length_map, List.length_range, Int.toNat_natCast, List.take_of_length_le (by rw [mfin.1]; exact Nat.le_refl _), List.drop_of_length_le (by rw [mf'.1]; exact Nat.le_refl _), List.append_nil]
        refine w_one (w_app 3 rfl (v 4 rfl) (by rw [List.length_map]; omega) ?_)
        exact ⟨_, _, _, _, _, _, by rw [List.map_append]; rfl⟩
  · rintro ρ' ⟨s4, s5, s6, s7, s8, s9, rfl⟩
    rw [List.length_map, List.length_range, Int.toNat_natCast]
    refine w_frz 2 rfl (.inl rfl) (w_frz 3 rfl (.inl rfl) (w_one (w_ret (e_tup (a_cons (v 2 rfl) (a_cons (v 3 rfl) a_nil)) (by simp)) ?_)))
    show PyData.tuple _ = PyData.tuple _
    simp
end
end Lm
set_option maxRecDepth 100000
set_option maxHeartbeats 4000000
/-! The law's plan, spots, a wrong piece. -/
namespace Lm
open PySem PySem.Spec PyProof.Rows L2 Evl
theorem x_drawN {X : Cx} {Q : Option Addr} {ρ : En} {e : Expr} {p py pos : Pos} {y : Str} {w0 : List D} {l : Int} {Φ : En → Slot → Prop} (T : Txt X.K X.mg) (hr : Room 1 X.A) (hρ : ρ[0]? = some (Slot.own w0)) (hw : W3 w0) (hl : 0 < l ∧ l < 1073741824) (he : DE X ρ e (I l)) (h : ∀ w' (r : Nat), W3 w' → (r : Int) < l → Φ (ρ.set 0 (.own w')) (.dat (I (r : Int))))
    (hN : X.N[0]? = some y := by rfl) (hvis : Vis X.env.scope y := by first | exact Or.inl rfl | exact Or.inr (Or.inl rfl) | exact Or.inr (Or.inr rfl)) (hd : (y == ("__debug__" : Str)) = false := by decide) (hcd : (y == ("__classdict__" : Str)) = false := by decide) (hg : Gl X "_law_draw" := by rfl)
    (h1 : starEach [.Name y py, e] X.env = (false, eval (.Name y py) X.env) :: starEach [e] X.env := by rfl) (h2 : starEach [e] X.env = (false, eval e X.env) :: starEach [] X.env := by rfl) (hpl : (backTo pos (starEach [e] X.env)).any (·.1) = false := by rfl) :
    DX X Q ρ (.Call (.Name "_law_draw" p) [.Name y py, e] [] pos) Φ :=
  x_draw T hr hρ hw hl he (fun w' r hw' h0 hlt => by
    obtain ⟨n, rfl⟩ : ∃ n : Nat, r = n := ⟨r.toNat, by omega⟩
    exact h w' n hw' hlt) hN hvis hd hcd hg h1 h2 hpl
def spotGo (p : Int) (k n : Nat) (s : List Int × List Int) (x : Int) : List Int × List Int := if ((!decide (powB p x (k - 1) ∈ s.2)) && decide (s.1.length < n)) = true then (s.1 ++ [x], s.2 ++ [powB p x (k - 1)]) else s
def spotsAt (p : Int) (k n i : Nat) : List Int × List Int := (List.range i).foldl (fun s (j : Nat) => spotGo p k n s (1 + (j : Int))) ([], [])
def lawSp (p : Int) (k n : Nat) : List Int := (spotsAt p k n (p - 1).toNat).1
theorem spotsAt_succ (p : Int) (k n i : Nat) : spotsAt p k n (i + 1) = spotGo p k n (spotsAt p k n i) (1 + (i : Int)) := by
  unfold spotsAt
  rw [List.range_succ, List.foldl_append]
  rfl
theorem spot_len (p : Int) (k n : Nat) : ∀ i, (spotsAt p k n i).1.length ≤ i ∧ (spotsAt p k n i).2.length ≤ i
  | 0 => ⟨Nat.le_refl _, Nat.le_refl _⟩
  | i + 1 => by
    have := spot_len p k n i
    rw [spotsAt_succ]
    unfold spotGo
    split
    · simp
      omega
    · omega
theorem spots_all : (primesB.all fun p => [2, 3].all fun k => (List.range 8).all fun n => decide (lawSp p k n = (roomyB p (k - 1)).take n)) = true := by decide +kernel
theorem spots_eq {p : Int} {k n : Nat} (hp : p ∈ primesB) (hk : 2 ≤ k ∧ k ≤ 3) (hn : n ≤ 7) : lawSp p k n = (roomyB p (k - 1)).take n := by
  have h1 := List.all_eq_true.mp spots_all p hp
  have h2 := List.all_eq_true.mp h1 k (by simp; omega)
  have h3 := List.all_eq_true.mp h2 n (List.mem_range.mpr (by omega))
  exact of_decide_eq_true h3
theorem big97 : 7 ≤ (roomyB 97 1).length ∧ 7 ≤ (roomyB 97 2).length := by decide +kernel
def ptsL (c : Pl) : List Int := if c.rm then lawSp c.p c.k c.n else (List.range c.n).map fun (i : Nat) => (i : Int) + 1
theorem ptsL_eq {c : Pl} (h : c.Ok) : ptsL c = pts c := by
  unfold ptsL pts
  cases q : c.rm with
  | true =>
    have := h.ro q
    rw [if_pos rfl, if_pos rfl, spots_eq h.pr ⟨by omega, h.k.2⟩ (by have := h.n; omega)]
  | false =>
    rw [if_neg Bool.false_ne_true, if_neg Bool.false_ne_true]
    refine List.map_congr_left fun i _ => ?_
    omega
structure PlanOk (e : Nat) (c : Pl) : Prop where
  ok : c.Ok
  big : c.k + 2 * e ≤ c.n
section
variable {K : PySem.W.Frag}
theorem rc_int {i : Int} : RC K (fun vs H Q => (∃ i, vs = [V.int i] ∧ Q (.int i) H) ∨ ∃ b, vs = [V.bl b] ∧ Q (.int (if b then 1 else 0)) H) [I i] (I i) := fun vs F H s hv Q q => by
  obtain ⟨v, rfl, h⟩ := dpa1 hv
  exact .inl ⟨i, by rw [dp_int h], q _ F H (Gr.refl s) (.int _)⟩
end
section
variable {P : Program} {w : World} {K : PySem.W.Frag} {mg : Str → Option Value} {base : Heap}
def R_law_spots (ds : List D) (d : D) : Prop := ∃ (c : Pl), ds = [I c.p, .str c.way, I c.n, I c.k] ∧ (Pk c.p ∧ 1 ≤ c.k ∧ c.k ≤ 100 ∧ c.n ≤ 1000) ∧ d = LI (ptsL c)
theorem d_law_spots (T : Txt K mg) : Def P w K mg base CX0 "_law_spots" 2 P_law_spots (SpP K R_law_spots) := by
  obtain ⟨hm, fd, F⟩ := T.f_law_spots
  refine mk_def hm F (pure_ok F sc_law_spots (fun ds d ⟨p, h, _⟩ => by rw [h]; rfl) fun cdv A outer s H E ds d hr hR => ?_) (fun _ _ _ _ _ _ us hl => match us, hl with | [_, _, _, _], _ => rfl)
  obtain ⟨c, rfl, ⟨hp, hk1, hk2, hn⟩, rfl⟩ := hR
  show WS _ _ [.dat (I c.p), .dat (.str c.way), .dat (I c.n), .dat (I c.k), .un, .un, .un, .un, .un] _ _
  have nd := sc_law_spots.nd
  have hp1 := hp.1
  have hp2 := hp.2
  refine w_cons (w_if ((t_eqs (v 1 rfl) c_str).is (way_ne c)) (fun h => ?_) (fun h => w_nil ?_))
  · have q : c.rm = false := by simpa using h
    refine w_one (w_ret (DL.e (DL.is (Lc.e (lcn (own := [("_law_at", 8)]) (List.range c.n) (fun k => I (k : Int)) (fun k => [.dat (I c.p), .dat (.str c.way), .dat (I c.n), .dat (I c.k), .un, .un, .un, .un, .dat (I k)]) (fun k => I ((k : Int) + 1)) rfl nd (blkOk_by (N := N_law_spots) (sc := defScope s_law_spots) (by decide +kernel)) (by simp; omega)
      (i_rng1 T.n_range (by omega) (v 2 rfl)).o (by simp) (fun _ _ _ _ _ => dg_n (j := 8) nd) (by decide) (fun a _ => by rfl) (fun k _ _ _ _ _ _ => add (v 8 rfl) c_int))) rfl)) ?_)
    unfold ptsL
    rw [q]
    show PyData.list _ = PyData.list _
    simp
  have q : c.rm = true := by simpa using h
  refine w_cons (w_par 4 5 (x_l (l_lst a_nil (by decide)) ⟨nofun, x_l (l_lst a_nil (by decide)) ⟨nofun, ?_⟩⟩) (.inl rfl) rfl nd)
  refine w_cons (w_for (fun i ρ => ∃ s6 s7, ρ = [.dat (I c.p), .dat (.str c.way), .dat (I c.n), .dat (I c.k), .own ((spotsAt c.p c.k c.n i).1.map PyData.int), .own ((spotsAt c.p c.k c.n i).2.map PyData.int), s6, s7, .un]) (i_rng2 T.n_range (by omega) c_int (v 0 rfl)) (dg_n (j := 6) nd) (.inl rfl) rfl ⟨_, _, rfl⟩ ?_ ?_)
  · rintro i d ρ' hd ⟨s6, s7, rfl⟩
    have hi : i < (c.p - 1).toNat := by
      have := (List.getElem?_eq_some_iff.mp hd).1
      simpa using this
    rw [List.getElem?_map, List.getElem?_range hi] at hd
    cases hd
    have hln := spot_len c.p c.k c.n i
    have hnx := spotsAt_succ c.p c.k c.n i
    rw [hnx]
    revert hln
    generalize spotsAt c.p c.k c.n i = S
    obtain ⟨f, kn⟩ := S
    intro hln
    have hln : f.length ≤ i ∧ kn.length ≤ i := hln
    refine ⟨_, rfl, ?_⟩
    show WS _ _ [.dat (I c.p), .dat (.str c.way), .dat (I c.n), .dat (I c.k), .own (f.map PyData.int), .own (kn.map PyData.int), .dat (I (1 + (i : Int))), s7, .un] _ _
    refine w_cons (w_set 7 (d := I (powB c.p (1 + (i : Int)) (c.k - 1))) (e_ixT (i := ((c.k - 1 : Nat) : Int)) (at_map (xs := powsB c.p (1 + (i : Int)) c.k) (by unfold powsB; rw [List.getElem?_map, List.getElem?_range (by omega)]; rfl)) (e_call (d_law_climb T) hr ⟨c.p, 1 + (i : Int), c.k, rfl, ⟨hp, by omega⟩, rfl⟩ (a_cons (v 0 rfl) (a_cons (v 6 rfl) (a_cons (v 3 rfl) a_nil)))) ((sub (v 3 rfl) c_int).is (by show PyData.int _ = PyData.int _; congr 1; omega))) ?_ (.inl rfl) nd)
    show WS _ _ [.dat (I c.p), .dat (.str c.way), .dat (I c.n), .dat (I c.k), .own (f.map PyData.int), .own (kn.map PyData.int), .dat (I (1 + (i : Int))), .dat (I (powB c.p (1 + (i : Int)) (c.k - 1))), .un] _ _
    have hgo : spotGo c.p c.k c.n (f, kn) (1 + (i : Int)) = if ((!decide (powB c.p (1 + (i : Int)) (c.k - 1) ∈ kn)) && decide (f.length < c.n)) = true then (f ++ [1 + (i : Int)], kn ++ [powB c.p (1 + (i : Int)) (c.k - 1)]) else (f, kn) := rfl
    rw [hgo]
    generalize powB c.p (1 + (i : Int)) (c.k - 1) = hg
    refine w_one (w_if (k := (!decide (hg ∈ kn)) && decide (f.length < c.n)) (PW.pt (DW.is (w_and (t_peek 5 rfl (t_nin (v 7 rfl) (v 5 rfl))) fun _ => w_and1 (t_lt (e_peek 4 rfl rfl (e_lenL T.n_len (v 4 rfl))) (v 2 rfl))) (by simp))) (fun h => ?_) (fun h => w_nil ⟨_, _, by rw [h]; rfl⟩))
    refine w_cons (w_app 4 rfl (v 6 rfl) (by rw [List.length_map]; omega) ?_)
    exact w_one (w_app 5 rfl (v 7 rfl) (by rw [List.length_map]; omega) ⟨_, _, by rw [h, if_pos rfl, List.map_append, List.map_append]; rfl⟩)
  · rintro ρ' ⟨s6, s7, rfl⟩
    rw [List.length_map, List.length_range]
    exact w_frz 4 rfl (.inl rfl) (w_one (w_ret (v 4 rfl) (by unfold ptsL; rw [q]; rfl)))
def R_law_many (ds : List D) (d : D) : Prop := ∃ (c : Pl), ds = [plD c] ∧ c.Ok ∧ d = I (sizeB c)
theorem way_ro (c : Pl) : decide (c.way = ("room" : Str)) = c.rm := by
  unfold Pl.way
  cases c.rm <;> decide
theorem d_law_many (T : Txt K mg) : Def P w K mg base CX0 "_law_many" 1 P_law_many (SpP K R_law_many) := by
  obtain ⟨hm, fd, F⟩ := T.f_law_many
  refine mk_def hm F (pure_ok F sc_law_many (fun ds d ⟨p, h, _⟩ => by rw [h]; rfl) fun cdv A outer s H E ds d hr hR => ?_) (fun _ _ _ _ _ _ us hl => match us, hl with | [_], _ => rfl)
  obtain ⟨c, rfl, hc, rfl⟩ := hR
  show WS _ _ [.dat (plD c), .un, .un, .un, .un, .un] _ _
  have nd := sc_law_many.nd
  have hk := hc.k
  refine w_cons (w_unp (js := [5, 4, 3, 2, 1]) (v 0 rfl) (dg_t rfl (dgs_cons (j := 1) nd (dgs_cons (j := 2) nd (dgs_cons (j := 3) nd (dgs_cons (j := 4) nd (dgs_cons (j := 5) nd dgs_nil)))))) ⟨_, rfl, rfl, rfl⟩ ?_ (.inl rfl))
  show WS _ _ [.dat (plD c), .dat (I c.p), .dat (.str c.way), .dat (I c.n), .dat (I c.k), .dat (I c.d)] _ _
  refine w_one (w_ret (e_if (p := c.rm) ((t_eqs (v 2 rfl) c_str).is (way_ro c)) (fun h => (mul (cm_l (by omega)) (v 4 rfl) (sub (v 4 rfl) c_int)).is ?_) (fun h => (add (fdiv ⟨by decide, by decide⟩ (mul (cm_l (by omega)) (v 4 rfl) (add (v 4 rfl) c_int)) c_int) (mul (cm_l (by omega)) (v 4 rfl) (sub (v 5 rfl) (v 4 rfl)))).is ?_)) rfl)
  · rcases hc.shp with ⟨q', h'⟩ | ⟨q', h'⟩
    · rw [h] at q'
      cases q'
    · unfold sizeB
      rw [h]
      rcases h' with h' | h' <;> rw [h'.1] <;> rfl
  · rcases hc.shp with ⟨q', h'⟩ | ⟨q', h'⟩
    · unfold sizeB
      rw [h]
      rcases h' with h' | h' | h' | h' | h' | h' <;> rw [h'.1, h'.2] <;> rfl
    · rw [h] at q'
      cases q'
def R_law_wide (ds : List D) (d : D) : Prop := ∃ (c : Pl), ds = [plD c] ∧ c.Ok ∧ d = I (rmB c)
theorem d_law_wide (T : Txt K mg) : Def P w K mg base CX0 "_law_wide" 1 P_law_wide (SpP K R_law_wide) := by
  obtain ⟨hm, fd, F⟩ := T.f_law_wide
  refine mk_def hm F (pure_ok F sc_law_wide (fun ds d ⟨p, h, _⟩ => by rw [h]; rfl) fun cdv A outer s H E ds d hr hR => ?_) (fun _ _ _ _ _ _ us hl => match us, hl with | [_], _ => rfl)
  obtain ⟨c, rfl, hc, rfl⟩ := hR
  show WS _ _ [.dat (plD c)] _ _
  have hk := hc.k
  refine w_one (w_ret (e_if (p := c.rm) ((t_eqs (e_ixT (i := 1) rfl (v 0 rfl) c_int) c_str).is (way_ro c)) (fun h => (sub (e_ixT (i := 3) rfl (v 0 rfl) c_int) c_int).is ?_) (fun h => (e_ixT (i := 4) rfl (v 0 rfl) c_int).is ?_)) rfl)
  · unfold rmB
    rw [h]
    show PyData.int _ = PyData.int _
    congr 1
    simp
    omega
  · unfold rmB
    rw [h]
    rfl
def R_law_lines (ds : List D) (d : D) : Prop := ∃ (c : Pl), ds = [plD c] ∧ c.Ok ∧ d = LT ((List.range c.n).map (lineB c))
theorem d_law_lines (T : Txt K mg) : Def P w K mg base CX0 "_law_lines" 3 P_law_lines (SpP K R_law_lines) := by
  obtain ⟨hm, fd, F⟩ := T.f_law_lines
  refine mk_def hm F (pure_ok F sc_law_lines (fun ds d ⟨p, h, _⟩ => by rw [h]; rfl) fun cdv A outer s H E ds d hr hR => ?_) (fun _ _ _ _ _ _ us hl => match us, hl with | [_], _ => rfl)
  obtain ⟨c, rfl, hc, rfl⟩ := hR
  show WS _ _ [.dat (plD c), .un] _ _
  have nd := sc_law_lines.nd
  have hk := hc.k
  have hn := hc.n
  have hpk := pr_pk hc.pr
  have hsm := hc.sm
  have hpl := pts_len hc
  refine w_one (w_ret (DL.e (DL.is (Lc.e (lcn (own := [("_law_x", 1)]) (pts c) PyData.int (fun x => [.dat (plD c), .dat (I x)]) (fun x => TI (powsB c.p x c.d)) rfl nd (blkOk_by (N := N_law_lines) (sc := defScope s_law_lines) (by decide +kernel)) (by omega)
    (DI.o (i_lst (e_call (d_law_spots T) hr ⟨c, rfl, ⟨hpk, by omega, by omega, by omega⟩, by rw [ptsL_eq hc]⟩ (a_cons (e_ixT (i := 0) rfl (v 0 rfl) c_int) (a_cons (e_ixT (i := 1) rfl (v 0 rfl) c_int) (a_cons (e_ixT (i := 2) rfl (v 0 rfl) c_int) (a_cons (e_ixT (i := 3) rfl (v 0 rfl) c_int) a_nil))))))) rfl (fun _ _ _ _ _ => dg_n (j := 1) nd) (by decide) (fun a _ => by rfl) (fun x _ _ _ _ _ _ => e_call (d_law_climb T) (hr.mono (by decide)) ⟨c.p, x, c.d, rfl, ⟨hpk, by omega⟩, rfl⟩ (a_cons (e_ixT (i := 0) rfl (v 0 rfl) c_int) (a_cons (v 1 rfl) (a_cons (e_ixT (i := 4) rfl (v 0 rfl) c_int) a_nil)))))) rfl)) ?_)
  show PyData.list _ = PyData.list _
  rw [List.map_map]
  congr 1
  refine List.ext_getElem? fun i => ?_
  rw [List.getElem?_map, List.getElem?_map]
  by_cases hi : i < c.n
  · rw [List.getElem?_range hi, get_of (by omega) 0]
    rfl
  · rw [List.getElem?_eq_none (by omega), List.getElem?_eq_none (by simpa using hi)]
    rfl
end
end Lm
set_option maxRecDepth 100000
set_option maxHeartbeats 4000000
/-! The law's plan, a wrong piece. -/
namespace Lm
open PySem PySem.Spec PyProof.Rows L2 Evl
/-- a statement, then what stands behind it, whatever it left -/
theorem w_seq {X : Cx} {P : Option Addr} {ρ : En} {p : Po} {st : Stmt} {rest : List Stmt} (Q : En → Prop) (h1 : W1 X P ρ st { p with nx := Q }) (h2 : ∀ ρ', Q ρ' → WS X P ρ' rest p) : WS X P ρ (st :: rest) p := fun c hc => by
  refine weakSs (pss_cons (h1 c hc) (u := fun E σ H => ∃ ρ', WS X P ρ' rest p ∧ tS X.K c ρ' p E σ H) ⟨fun pins s σ H E I ⟨ρ', hw, q⟩ => (hw c hc).run pins s σ H E I q⟩) fun E σ H ⟨F, a, W⟩ => ⟨F, a, ⟨fun σ' F' H' ρ' hq a' => ⟨ρ', h2 ρ' hq, F', a', W⟩, W.rt, W.bk, W.ct, W.rl⟩⟩
section
variable {P : Program} {w : World} {K : PySem.W.Frag} {mg : Str → Option Value} {base : Heap}
def R_law_sure_plan (wl ds : List D) (Φ : List D → D → Prop) : Prop := W3 wl ∧ ∃ (e : Nat), ds = [I e] ∧ e ≤ 2 ∧ ∀ w' c, W3 w' → PlanOk e c → Φ w' (plD c)
theorem d_law_sure_plan (T : Txt K mg) : Def P w K mg base CX0 "_law_sure_plan" 3 P_law_sure_plan (SpW K R_law_sure_plan) := by
  obtain ⟨hm, fd, F⟩ := T.f_law_sure_plan
  refine mk_def hm F (own_ok F sc_law_sure_plan (fun wl ds Φ ⟨_, l, h, _⟩ => by rw [h]; rfl) fun cdv A outer s H E a w0 ds Φ hr hR => ?_) (fun _ _ _ _ _ _ us hl => match us, hl with | [_, _], _ => rfl)
  obtain ⟨hw, e, rfl, he, hΦ⟩ := hR
  show WS _ _ [.own w0, .dat (I e), .un, .un, .un, .un, .un] _ _
  have nd := sc_law_sure_plan.nd
  have hr1 := hr.mono (show 1 ≤ 2 by decide)
  refine w_cons (w_par 2 3 (x_callW 0 (d_law_any_of T) hr rfl (xa_a (a_cons (e_call0 (d_law_primes T) hr1 ⟨rfl, rfl⟩) a_nil) ⟨w0, rfl, hw, primesB.map PyData.int, rfl, ⟨by decide, by decide⟩, fun w1 x hw1 hx => ?_⟩)) (.inr ⟨by decide, by decide⟩) rfl nd)
  obtain ⟨p, hp, rfl⟩ := List.mem_map.mp hx
  refine ⟨nofun, x_add c_int (x_drawN T hr1 rfl hw1 (l := if e < 2 then 3 else 2) (by split <;> decide) (e_if (p := decide ((e : Int) < 2)) (t_lt (v 1 rfl) c_int) (fun h => c_int.is ?_) (fun h => c_int.is ?_)) fun w2 r hw2 hlt => ⟨(r : Int), rfl, nofun, ?_⟩)⟩
  · rw [if_pos (by have := of_decide_eq_true h; omega)]
  · rw [if_neg (by have := of_decide_eq_false h; omega)]
  obtain ⟨k, hk⟩ : ∃ k : Nat, k = 1 + r := ⟨_, rfl⟩
  have hk3 : 1 ≤ k ∧ k ≤ 3 ∧ (e = 2 → k ≤ 2) := by
    refine ⟨by omega, ?_, fun h2 => ?_⟩
    · split at hlt <;> omega
    · rw [if_neg (by omega)] at hlt
      omega
  have ek : (1 : Int) + (r : Int) = (k : Int) := by omega
  rw [ek]
  show WS _ _ [.own w2, .dat (I e), .dat (I p), .dat (I k), .un, .un, .un] _ _
  have hpb := pr_bd hp
  have hpk := pr_pk hp
  refine w_cons (w_ifX (Φ := fun ρ' b => ∃ w3, W3 w3 ∧ (b = true → 2 ≤ k) ∧ ρ' = [.own w3, .dat (I e), .dat (I p), .dat (I k), .un, .un, .un]) (xt_w (xw_and (xt_t (k := decide ((1 : Int) < (k : Int))) (t_gt (v 3 rfl) c_int) ?_))) ?_)
  · split
    · rename_i hk2
      have hk2 : 2 ≤ k := by have := of_decide_eq_true hk2; omega
      exact xw_and1 (xt_eqi (x_drawN T hr1 rfl hw2 ⟨by decide, by decide⟩ c_int fun w3 r3 hw3 _ => ⟨_, 0, rfl, c_int, w3, hw3, fun _ => hk2, rfl⟩))
    · exact ⟨w2, hw2, fun h => (by cases h), rfl⟩
  rintro ρ3 b ⟨w3, hw3, hb2, rfl⟩
  cases b with
  | true =>
    have hk2 := hb2 rfl
    rw [if_pos rfl]
    -- least
    obtain ⟨l, hl⟩ : ∃ l : Nat, l = max (2 * k - 1) (k + 2 * e) := ⟨_, rfl⟩
    refine w_cons (w_set 4 (d := I (l : Int)) ((e_max rfl T.n_max (sub (mul (cm_l (by omega)) c_int (v 3 rfl)) c_int) (add (v 3 rfl) (mul (cm_l (by omega)) c_int (v 1 rfl)))).is ?_) ?_ (.inr (by decide)) nd)
    · show PyData.int _ = PyData.int _
      congr 1
      split <;> omega
    show WS _ _ [.own w3, .dat (I e), .dat (I p), .dat (I k), .dat (I l), .un, .un] _ _
    refine w_cons (w_setX (Φ := fun ρ' s => ∃ (w4 : List D) (n : Nat), W3 w4 ∧ (l ≤ n ∧ n ≤ l + 1) ∧ s = .dat (I (n : Int)) ∧ ρ' = [.own w4, .dat (I e), .dat (I p), .dat (I k), .dat (I l), .un, .un]) 5 (x_add (v 4 rfl) (x_drawN T hr1 rfl hw3 ⟨by decide, by decide⟩ c_int fun w4 r4 hw4 h4 => ⟨_, rfl, w4, l + r4, hw4, ⟨by omega, by omega⟩, by rw [Int.natCast_add], rfl⟩)) ?_ (.inr (by decide)) nd)
    rintro ρ4 s4 ⟨w4, n, hw4, hn, rfl, rfl⟩
    refine ⟨nofun, ?_⟩
    show WS _ _ [.own w4, .dat (I e), .dat (I p), .dat (I k), .dat (I l), .dat (I n), .un] _ _
    have hsp : ptsL ⟨p, true, n, k, 0⟩ = (roomyB p (k - 1)).take n := by
      show lawSp p k n = _
      exact spots_eq hp ⟨by omega, by omega⟩ (by omega)
    have hro : (1 ≤ k ∧ k ≤ 100) ∧ n ≤ 1000 := by omega
    refine w_seq (fun ρ' => ∃ q : Int, q ∈ primesB ∧ n ≤ (roomyB q (k - 1)).length ∧ ρ' = [.own w4, .dat (I e), .dat (I q), .dat (I k), .dat (I l), .dat (I n), .un]) (w_if (k := decide (((ptsL ⟨p, true, n, k, 0⟩).length : Int) < (n : Int))) (DT.is (t_lt (e_lenL T.n_len (e_call (d_law_spots T) hr ⟨⟨p, true, n, k, 0⟩, rfl, ⟨hpk, hro.1.1, hro.1.2, hro.2⟩, rfl⟩ (a_cons (v 2 rfl) (a_cons c_str (a_cons (v 5 rfl) (a_cons (v 3 rfl) a_nil)))))) (v 5 rfl)) (by rw [List.length_map])) (fun h => ?_) (fun h => w_nil ⟨p, hp, ?_, rfl⟩)) ?_
    · refine w_one (w_set 2 (d := I 97) c_int ⟨97, by decide, ?_, rfl⟩ (.inr (by decide)) nd)
      have hk' : k = 2 ∨ k = 3 := by omega
      rcases hk' with h' | h' <;> rw [h']
      · have := big97.1
        show n ≤ (roomyB 97 1).length
        omega
      · have := big97.2
        show n ≤ (roomyB 97 2).length
        omega
    · have h' := of_decide_eq_false h
      rw [hsp, List.length_take] at h'
      omega
    · rintro ρ' ⟨q, hq, hnq, rfl⟩
      refine w_one (w_ret (e_tup (a_cons (v 2 rfl) (a_cons c_str (a_cons (v 5 rfl) (a_cons (v 3 rfl) (a_cons ((sub (mul (cm_r (by omega)) c_int (v 3 rfl)) c_int).is (d' := I ((2 * k - 2 : Nat) : Int)) ?_) a_nil))))) (by simp)) ⟨w4, rfl, hΦ w4 ⟨q, true, n, k, 2 * k - 2⟩ hw4 ⟨⟨hq, ⟨by show 2 ≤ n; omega, by show n ≤ 7; omega⟩, ⟨by show 1 ≤ k; omega, by show k ≤ 3; omega⟩, (fun h => by cases h), fun _ => ⟨hk2, by show k ≤ n; omega, rfl, by show 2 * k - 2 + 1 ≤ n; omega, hnq⟩⟩, by show k + 2 * e ≤ n; omega⟩⟩)
      show PyData.int _ = PyData.int _
      congr 1
      omega
  | false =>
    rw [if_neg Bool.false_ne_true]
    refine w_nil ?_
    refine w_cons (w_setX (Φ := fun ρ' s => ∃ (w4 : List D) (n : Nat), W3 w4 ∧ (k ≤ n ∧ n ≤ k + 1) ∧ s = .dat (I (n : Int)) ∧ ρ' = [.own w4, .dat (I e), .dat (I p), .dat (I k), .un, .un, .un]) 6 (x_add (v 3 rfl) (x_drawN T hr1 rfl hw3 ⟨by decide, by decide⟩ c_int fun w4 r4 hw4 h4 => ⟨_, rfl, w4, k + r4, hw4, ⟨by omega, by omega⟩, by rw [Int.natCast_add], rfl⟩)) ?_ (.inr (by decide)) nd)
    rintro ρ4 s4 ⟨w4, d, hw4, hd, rfl, rfl⟩
    refine ⟨nofun, ?_⟩
    show WS _ _ [.own w4, .dat (I e), .dat (I p), .dat (I k), .un, .un, .dat (I d)] _ _
    obtain ⟨l, hl⟩ : ∃ l : Nat, l = max (d + 1) (k + 2 * e) := ⟨_, rfl⟩
    refine w_one (w_retX (Φ := fun ρ' s => ∃ dd, s = .dat dd ∧ ∃ w', ρ'[0]? = some (Slot.own w') ∧ Φ w' dd) (x_tup (xa_cons (x_e (v 2 rfl) ⟨_, rfl, xa_cons (x_e c_str ⟨_, rfl, xa_cons (x_add (i := (l : Int)) ((e_max rfl T.n_max (add (v 6 rfl) c_int) (add (v 3 rfl) (mul (cm_l (by omega)) c_int (v 1 rfl)))).is ?_) (x_drawN T hr1 rfl hw4 ⟨by decide, by decide⟩ c_int fun w5 r5 hw5 h5 => ⟨_, rfl, _, rfl, xa_a (a_cons (v 3 rfl) (a_cons (v 6 rfl) a_nil)) ⟨by simp, _, rfl, w5, rfl, ?_⟩⟩))⟩)⟩))) (fun ρ' s ⟨d, h1, h2⟩ => ⟨d, h1, h2⟩))
    · show PyData.int _ = PyData.int _
      congr 1
      split <;> omega
    · have z := hΦ w5 ⟨p, false, l + r5, k, d⟩ hw5 ⟨⟨hp, ⟨by show 2 ≤ l + r5; omega, by show l + r5 ≤ 7; omega⟩, ⟨by show 1 ≤ k; omega, by show k ≤ 3; omega⟩, fun _ => ⟨by show k + 1 ≤ l + r5; omega, by show k ≤ d; omega, by show d + 1 ≤ l + r5; omega, by show d ≤ k + 1; omega⟩, fun h => by cases h⟩, by show k + 2 * e ≤ l + r5; omega⟩
      have ez : (I (l : Int) : D) = I (l : Int) := rfl
      have e2 : ((l + r5 : Nat) : Int) = (l : Int) + (r5 : Int) := Int.natCast_add _ _
      show Φ w5 (.tuple [I p, .str "letters", I ((l : Int) + (r5 : Int)), I k, I d])
      rw [← e2]
      exact z
def R_law_wrong_one (wl ds : List D) (Φ : List D → D → Prop) : Prop := W3 wl ∧ ∃ (b : Int) (r : List Int), ds = [I b, TI r] ∧ (3 ≤ b ∧ b ≤ 1000 ∧ r ≠ [] ∧ Rw b r ∧ r.length ≤ 1000) ∧ ∀ w' r', W3 w' → r'.length = r.length → Rw b r' → r' ≠ r → Φ w' (TI r')
theorem d_law_wrong_one (T : Txt K mg) : Def P w K mg base CX0 "_law_wrong_one" 3 P_law_wrong_one (SpW K R_law_wrong_one) := by
  obtain ⟨hm, fd, F⟩ := T.f_law_wrong_one
  refine mk_def hm F (own_ok F sc_law_wrong_one (fun wl ds Φ ⟨_, _, _, h, _⟩ => by rw [h]; rfl) fun cdv A outer s H E a w0 ds Φ hr hR => ?_) (fun _ _ _ _ _ _ us hl => match us, hl with | [_, _, _], _ => rfl)
  obtain ⟨hw, b, r, rfl, ⟨h1, h2, h3, h4, h5⟩, hΦ⟩ := hR
  show WS _ _ [.own w0, .dat (I b), .dat (TI r), .un, .un] _ _
  have nd := sc_law_wrong_one.nd
  have hr1 := hr.mono (show 1 ≤ 2 by decide)
  have hpos : 0 < r.length := List.length_pos_iff.mpr h3
  refine w_cons (w_par 3 4 (x_drawN T hr1 rfl hw (l := (r.length : Int)) ⟨by omega, by omega⟩ ((e_lenT T.n_len (v 2 rfl)).is (by simp)) fun w1 i hw1 hi => ⟨nofun, x_callTyL call_list_of T.n_list (by decide +kernel) (xa_cons (x_callW 0 (d_law_line T) hr rfl (xa_a (a_cons (v 1 rfl) (a_cons ((e_lenT T.n_len (v 2 rfl)).is (d' := I r.length) (by simp)) a_nil)) ⟨w1, rfl, hw1, b, r.length, rfl, ⟨h1, h2, h5⟩, fun w2 g hw2 hgl hgr => ⟨_, rfl, xa_a a_nil ⟨g.map PyData.int, ?_, nofun, ?_⟩⟩⟩)))⟩) (.inr ⟨by decide, by decide⟩) rfl nd)
  · intro vs F H s hv Q q
    obtain ⟨v, rfl, h⟩ := dpa1 hv
    obtain ⟨l, ws, rfl, h1, h2⟩ := dp_tup h
    exact ⟨l, ws, rfl, .inr (ex_t s h1), fun t ht => q t _ F _ (Gr.lay s ht) ht (none_of s ht) upd_same h2⟩
  have hi : i < r.length := by omega
  show WS _ _ [.own w2, .dat (I b), .dat (TI r), .dat (I i), .own (g.map PyData.int)] _ _
  have gr := get_of hi 0
  have gg := get_of (xs := g) (k := i) (by omega) 0
  refine w_seq (fun ρ' => ∃ (w' : List D) (r' : List Int), W3 w' ∧ (r'.length = r.length ∧ Rw b r' ∧ r' ≠ r) ∧ ρ' = [.own w', .dat (I b), .dat (TI r), .dat (I i), .own (r'.map PyData.int)]) ?_ ?_
  rotate_left
  · rintro ρ' ⟨w', r', hw', ⟨q1, q2, q3⟩, rfl⟩
    exact w_frz 4 rfl (.inr (by decide)) (w_one (w_ret (e_tupL T.n_tuple (v 4 rfl)) ⟨w', rfl, hΦ w' r' hw' q1 q2 q3⟩))
  refine w_ifX (Φ := fun ρ' k => ∃ w3, W3 w3 ∧ (k = false → g.getD i 0 ≠ r.getD i 0) ∧ ρ' = [.own w3, .dat (I b), .dat (TI r), .dat (I i), .own (g.map PyData.int)]) (xt_w (xw_or (xt_eqi (x_drawN T hr1 rfl hw2 ⟨by decide, by decide⟩ c_int fun w3 t hw3 ht => ⟨_, 0, rfl, c_int, ?_⟩)))) ?_
  · split
    · exact ⟨w3, hw3, fun h => (by cases h), rfl⟩
    · exact xw_or1 (xt_t (t_eqi (e_ixO 4 (at_map gg) rfl (v 3 rfl)) (e_ixT (at_map gr) (v 2 rfl) (v 3 rfl))) ⟨w3, hw3, fun h => of_decide_eq_false h, rfl⟩)
  rintro ρ3 k ⟨w3, hw3, hk, rfl⟩
  cases k with
  | true =>
    rw [if_pos rfl]
    refine w_cons (w_setO 4 (l_lstT T.n_list (v 2 rfl)) ?_ (.inr (by decide)) nd)
    show WS _ _ [.own w3, .dat (I b), .dat (TI r), .dat (I i), .own (r.map PyData.int)] _ _
    refine w_one (w_putX (Φ := fun ρ' s => ∃ (w4 : List D) (t : Nat), W3 w4 ∧ (t : Int) < b - 1 ∧ s = .dat (I ((r.getD i 0 + 1 + (t : Int)) % b)) ∧ ρ' = [.own w4, .dat (I b), .dat (TI r), .dat (I i), .own (r.map PyData.int)]) 4 (x_modp (x_callTy call_int1 T.n_int (by decide +kernel) (xa_cons (x_add (add (e_ixO 4 (at_map gr) rfl (v 3 rfl)) c_int) (x_drawN T hr1 rfl hw3 ⟨by omega, by omega⟩ (sub (v 1 rfl) c_int) fun w4 t hw4 ht => ⟨_, rfl, _, rfl, xa_a a_nil ⟨_, rc_int, _, b, rfl, v 1 rfl, by omega, w4, t, hw4, ht, rfl, rfl⟩⟩))))) ?_)
    rintro ρ4 s4 ⟨w4, t, hw4, ht, rfl, rfl⟩
    refine ⟨_, _, i, rfl, rfl, v 3 rfl, by rw [List.length_map]; exact hi, ?_⟩
    have gb := h4 _ (List.mem_of_getElem? gr)
    have hb0 : 0 < b := by omega
    have e : (r.map PyData.int).set i (PyData.int ((r.getD i 0 + 1 + (t : Int)) % b)) = (r.set i ((r.getD i 0 + 1 + (t : Int)) % b)).map PyData.int := by rw [List.map_set]
    refine ⟨w4, r.set i ((r.getD i 0 + 1 + (t : Int)) % b), hw4, ⟨by rw [List.length_set], fun x hx => ?_, fun he => ?_⟩, by rw [← e]; rfl⟩
    · rcases List.mem_or_eq_of_mem_set hx with h | h
      · exact h4 x h
      · rw [h]
        exact ⟨Int.emod_nonneg _ (by omega), Int.emod_lt_of_pos _ hb0⟩
    · have z := congrArg (fun l : List Int => l.getD i 0) he
      have z1 : (r.set i ((r.getD i 0 + 1 + (t : Int)) % b)).getD i 0 = (r.getD i 0 + 1 + (t : Int)) % b := getD_set_self _ _ _ _ hi
      have z : (r.set i ((r.getD i 0 + 1 + (t : Int)) % b)).getD i 0 = r.getD i 0 := z
      rw [z1] at z
      generalize r.getD i 0 = x at *
      by_cases hx : x + 1 + (t : Int) < b
      · rw [Int.emod_eq_of_lt (by omega) hx] at z
        omega
      · have : (x + 1 + (t : Int)) % b = x + 1 + (t : Int) - b := by
          rw [← Int.sub_emod_right, Int.emod_eq_of_lt (by omega) (by omega)]
        omega
  | false =>
    rw [if_neg Bool.false_ne_true]
    refine w_nil ⟨w3, g, hw3, ⟨hgl, hgr, fun he => ?_⟩, rfl⟩
    have := hk rfl
    rw [he] at this
    exact this rfl
end
end Lm
set_option maxRecDepth 100000
set_option maxHeartbeats 4000000
/-! A list of lists that all may change: _law_turned. -/
namespace Lm
open PySem PySem.Spec PyProof.Rows L2 Evl
/-- slot j: a list of lists that are all one's own -/
def Mt (K : PySem.W.Frag) (j : Nat) (c : Ct) (σ : L2.St) (F H : Hp) (rs : List (List D)) : Prop :=
  ∃ (a : Addr) (as : List Addr), σ[j]? = some (some (V.ref a)) ∧ H a = some (HO.lst (as.map V.ref)) ∧ F a = none ∧ c.H a = none ∧ as.length = rs.length ∧ a ∉ as ∧ as.Nodup ∧
    ∀ (i : Nat) (b : Addr) (ds : List D), as[i]? = some b → rs[i]? = some ds → ∃ vs, H b = some (HO.lst vs) ∧ F b = none ∧ c.H b = none ∧ DpAll K F vs ds
theorem gr_none {F H F' H' : Hp} {a : Addr} {o : HO} (g : Gr F H F' H') (h : F a = none) (h1 : H a = some o) : F' a = none := by
  cases q : F' a with
  | none => rfl
  | some o' =>
    have z := g.new a h (by rw [q]; exact fun z => by cases z)
    rw [h1] at z
    cases z
section
variable {K : PySem.W.Frag} {j : Nat} {c : Ct} {σ : L2.St} {F H F' H' : Hp} {rs : List (List D)} {ρ : En}
theorem Mt.mono (m : Mt K j c σ F H rs) (g : Gr F H F' H') : Mt K j c σ F' H' rs := by
  obtain ⟨a, as, h1, h2, h3, h4, h5, h6, h7, h8⟩ := m
  refine ⟨a, as, h1, g.h _ _ h2, gr_none g h3 h2, h4, h5, h6, h7, fun i b ds e1 e2 => ?_⟩
  obtain ⟨vs, q1, q2, q3, q4⟩ := h8 i b ds e1 e2
  exact ⟨vs, g.h _ _ q1, gr_none g q2 q1, q3, dpa_ex g.f q4⟩
theorem Mt.slot {σ' : L2.St} (m : Mt K j c σ F H rs) (h : σ'[j]? = σ[j]?) : Mt K j c σ' F H rs := by
  obtain ⟨a, as, h1, r⟩ := m
  exact ⟨a, as, h.trans h1, r⟩
/-- the whole is frozen -/
theorem Mt.frz (m : Mt K j c σ F H rs) (A : At K c σ F H ρ) (no : NoOwn ρ) (hc : c.P = none) : ∃ F', At K c σ F' H (ρ.set j (.dat (.list (rs.map PyData.list)))) := by
  obtain ⟨a, as, h1, h2, h3, h4, h5, h6, h7, h8⟩ := m
  have nb : ∀ b, b ∈ as → F b = none ∧ c.H b = none := fun b hb => by
    obtain ⟨i, hi, e⟩ := List.getElem_of_mem hb
    have e1 : as[i]? = some b := by rw [List.getElem?_eq_getElem hi, e]
    have hi2 : i < rs.length := by omega
    obtain ⟨vs, q1, q2, q3, q4⟩ := h8 i b rs[i] e1 (List.getElem?_eq_getElem hi2)
    exact ⟨q2, q3⟩
  let F' : Hp := fun b => if b = a ∨ b ∈ as then H b else F b
  have f1 : ∀ b, (b = a ∨ b ∈ as) → F' b = H b := fun b hb => if_pos hb
  have f2 : ∀ b, ¬ (b = a ∨ b ∈ as) → F' b = F b := fun b hb => if_neg hb
  have ex : Ex F F' := fun b o hb => by
    refine (f2 b fun z => ?_).trans hb
    rcases z with z | z
    · rw [z, h3] at hb
      cases hb
    · rw [(nb b z).1] at hb
      cases hb
  have sub : Ex F' H := fun b o hb => by
    by_cases z : b = a ∨ b ∈ as
    · rwa [f1 b z] at hb
    · rw [f2 b z] at hb
      exact A.s.sub b o hb
  have dall : ∀ (l : List Addr) (r : List (List D)), l.length = r.length → (∀ (i : Nat) (b : Addr) (ds : List D), l[i]? = some b → r[i]? = some ds → ∃ vs, F' b = some (HO.lst vs) ∧ DpAll K F' vs ds) → DpAll K F' (l.map V.ref) (r.map PyData.list) := fun l => by
    induction l with
    | nil =>
      intro r hl _
      cases r with
      | nil => exact .nil
      | cons _ _ => cases hl
    | cons b l ih =>
      intro r hl h
      cases r with
      | nil => cases hl
      | cons ds r =>
        obtain ⟨vs, q1, q2⟩ := h 0 b ds rfl rfl
        exact .cons (.lst (SqL.of q1) q2) (ih r (by simpa using hl) fun i b' ds' e1 e2 => h (i + 1) b' ds' (by simpa using e1) (by simpa using e2))
  have dv : Dp K F' (V.ref a) (.list (rs.map PyData.list)) := .lst (SqL.of ((f1 a (.inl rfl)).trans h2)) (dall as rs h5 fun i b ds e1 e2 => by
    obtain ⟨vs, q1, q2, q3, q4⟩ := h8 i b ds e1 e2
    exact ⟨vs, (f1 b (.inr (List.mem_of_getElem? e1))).trans q1, dpa_ex ex q4⟩)
  have S' := A.s.on no ex sub
  have A' : At K c σ F' H ρ := ⟨S', A.c.f.trans ex, A.c.kept, A.c.there, fun b g1 g2 => by
    by_cases z : b = a ∨ b ∈ as
    · rcases z with z | z
      · rw [z]
        exact h4
      · exact (nb b z).2
    · rw [f2 b z] at g2
      exact A.c.new b g1 g2, fun i ds x h => absurd h (no i ds), fun x hx => by rw [hc] at hx; cases hx⟩
  refine ⟨F', ?_⟩
  have z := A'.set j dv (.inl hc)
  rwa [show σ.set j (some (V.ref a)) = σ from by
    obtain ⟨hl, he⟩ := List.getElem?_eq_some_iff.mp h1
    rw [← he, List.set_getElem_self]] at z
end
structure PoM where
  nx : En → List (List D) → Prop
  rt : En → D → Prop
structure WantsM (K : PySem.W.Frag) (j : Nat) (c : Ct) (p : PoM) (E : Ends) : Prop where
  nx : ∀ σ F H ρ rs, p.nx ρ rs → At K c σ F H ρ → Mt K j c σ F H rs → E.nx σ H
  rt : ∀ v σ F H ρ d, p.rt ρ d → At K c σ F H ρ → Dp K F v d → E.rt v H
def tM (K : PySem.W.Frag) (j : Nat) (c : Ct) (ρ : En) (rs : List (List D)) (p : PoM) : TS := fun E σ H => ∃ F, At K c σ F H ρ ∧ Mt K j c σ F H rs ∧ WantsM K j c p E
abbrev WM (X : Cx) (j : Nat) (ρ : En) (rs : List (List D)) (sts : List Stmt) (p : PoM) : Prop := ∀ c : Ct, c.P = none → PSs X sts (tM X.K j c ρ rs p)
abbrev M1 (X : Cx) (j : Nat) (ρ : En) (rs : List (List D)) (st : Stmt) (p : PoM) : Prop := ∀ c : Ct, c.P = none → PS X st (tM X.K j c ρ rs p)
section
variable {X : Cx} {J : Nat} {ρ : En} {rs : List (List D)} {p : PoM} {st : Stmt} {rest : List Stmt} {e : Expr} {d : D} {ds : List D} {pos px : Pos} {x : Str}
theorem m_cons (h : M1 X J ρ rs st { p with nx := fun ρ' rs' => WM X J ρ' rs' rest p }) : WM X J ρ rs (st :: rest) p := fun c hc => by
  refine weakSs (pss_cons (h c hc) (u := fun E σ H => ∃ ρ' rs', WM X J ρ' rs' rest p ∧ tM X.K J c ρ' rs' p E σ H) ⟨fun pins s σ H E I ⟨ρ', rs', hw, q⟩ => (hw c hc).run pins s σ H E I q⟩) fun E σ H ⟨F, a, m, W⟩ => ⟨F, a, m, ⟨fun σ' F' H' ρ' rs' hw a' m' => ⟨ρ', rs', hw, F', a', m', W⟩, W.rt⟩⟩
theorem m_one (h : M1 X J ρ rs st p) : WM X J ρ rs [st] p := fun c hc => pss_one (h c hc)
theorem m_set (i : Nat) (he : DE X ρ e d) (h : p.nx (ρ.set i (.dat d)) rs) (hij : i ≠ J) (hN : X.N.Nodup) (hi : X.N[i]? = some x := by rfl) (hx : Loc X.env.scope x := by first | exact Or.inl rfl | exact Or.inr rfl) (hs : swapsWith e (some (.Name x px)) pos.line X.env = pure false := by rfl)
    (hf : X.fn x = true ∨ X.env.scope.names.lookup x = some .local := by first | exact .inl rfl | exact .inr rfl) : M1 X J ρ rs (.Assign [.Name x px] e pos) p := fun c hc =>
  weakS (ps_set hN hi hx he hs hf) fun E σ H ⟨F, a, m, W⟩ => ⟨F, a.s, fun v F' H' g hv => W.nx _ F' H' _ _ h ((a.mono g).set i hv (.inl hc)) ((m.mono g).slot (List.getElem?_set_ne hij))⟩
/-- frozen -/
theorem m_frz {sts : List Stmt} {q : Po} (no : NoOwn ρ) (h : WS X none (ρ.set J (.dat (.list (rs.map PyData.list)))) sts q) (hq : ∀ ρ' d, q.rt ρ' d → p.rt ρ' d) (hq2 : ∀ ρ', ¬ q.nx ρ') (hq3 : ∀ ρ', ¬ q.bk ρ') (hq4 : ∀ ρ', ¬ q.ct ρ') (hq5 : ∀ ρ' d, ¬ q.rl ρ' d) : WM X J ρ rs sts p := fun c hc =>
  weakSs (h c hc) fun E σ H ⟨F, a, m, W⟩ => by
    obtain ⟨F', a'⟩ := m.frz a no hc
    exact ⟨F', a', ⟨fun _ _ _ ρ' z => absurd z (hq2 ρ'), fun v σ F H ρ d z => W.rt v σ F H ρ d (hq ρ d z), fun _ _ _ ρ' z => absurd z (hq3 ρ'), fun _ _ _ ρ' z => absurd z (hq4 ρ'), fun _ _ _ _ _ ρ' d z => absurd z (hq5 ρ' d)⟩⟩
theorem m_for {tg iter : Expr} {body : List Stmt} {js : List Nat} {Γ : D → En → En → Prop} (Pv : Nat → En → List (List D) → Prop) (hi : DI X ρ tg iter ds) (hg : DG X tg js Γ) (hj : J ∉ js) (hc0 : X.calm = true) (start : Pv 0 ρ rs)
    (turn : ∀ (i : Nat) (d : D) (ρ' : En) (rs' : List (List D)), ds[i]? = some d → Pv i ρ' rs' → ∃ ρ'', Γ d ρ' ρ'' ∧ WM X J ρ'' rs' body { nx := Pv (i + 1), rt := p.rt })
    (done : ∀ ρ' rs', Pv ds.length ρ' rs' → p.nx ρ' rs') (hp : PassesOwn (model X.prog X.w) X.A X.env X.xe := by exact PassesOwn.never) (hs : ∀ x, foldedSetIterable iter X.env x = pure x := by intro _; rfl) :
    M1 X J ρ rs (.For tg iter body [] pos) p := fun c hc' => by
  obtain ⟨t, ht, hq⟩ := hg.g
  refine weakS (ps_for hp hc0 hi ht (tb := fun E σ H => ∃ ρ' rs' p' c', c'.P = none ∧ WM X J ρ' rs' body p' ∧ tM X.K J c' ρ' rs' p' E σ H) ⟨fun pins s σ H E I ⟨ρ', rs', p', c', e, hw, q⟩ => (hw c' e).run pins s σ H E I q⟩ hs) fun E σ H ⟨F, a, m, W⟩ => ⟨F, a.s, fun Jt F1 H1 g1 Y => ?_⟩
  have a1 := a.mono g1
  have m1 := m.mono g1
  refine ⟨fun i n σ' H' => n = ds.length - i ∧ i ≤ ds.length ∧ ∃ F' ρ' rs', At X.K { c with F := F1 } σ' F' H' ρ' ∧ Mt X.K J c σ' F' H' rs' ∧ Pv i ρ' rs', ⟨ds.length, by simp, Nat.zero_le _, F1, ρ, rs, a1.to_ a1.c.f (Ex.refl _), m1, start⟩, ?_⟩
  rintro i n σ' H' ⟨rfl, hle, F', ρ', rs', a', m', hP⟩
  by_cases hlt : i < ds.length
  · refine .inr ⟨Y.go i H' hlt (a'.c.f.trans a'.s.sub), fun σ2 H2 => ∃ F2 ρ2 rs2, At X.K { c with F := F1 } σ2 F2 H2 ρ2 ∧ Mt X.K J c σ2 F2 H2 rs2 ∧ Pv (i + 1) ρ2 rs2, fun σ2 H2 ⟨F2, ρ2, rs2, a2, m2, P2⟩ => ⟨ds.length - (i + 1), by omega, rfl, hlt, F2, ρ2, rs2, a2, m2, P2⟩, fun y H2 hy => ?_⟩
    have hd : ds[i]? = some ds[i] := List.getElem?_eq_getElem hlt
    obtain ⟨F2, g2, hx⟩ := Y.yld i ds[i] H' y H2 F' hd (a'.c.f.trans a'.s.sub) a'.c.f a'.s.sub hy
    obtain ⟨ρ'', hΓ, hw⟩ := turn i ds[i] ρ' rs' hd hP
    refine hq y σ' F2 H2 _ ρ' ds[i] ρ'' (a'.s.mono g2) hx hΓ fun σ3 S3 k => ⟨ρ'', rs', _, { c with F := F1 }, hc', hw, F2, (a'.mono g2).keep S3 k (.inl hc'), ?_, ⟨fun σ4 F4 H4 ρ4 rs4 h4 a4 m4 => ⟨F4, ρ4, rs4, a4, m4, h4⟩, fun v σ4 F4 H4 ρ4 d4 h4 a4 hv => W.rt v σ4 F4 H4 ρ4 d4 h4 (a1.from_ a4).1 hv⟩⟩
    exact (m'.mono g2).slot (k.oth J hj)
  · have e : i = ds.length := by omega
    subst e
    exact .inl ⟨Y.stop H' (a'.c.f.trans a'.s.sub), W.nx σ' F' H' ρ' rs' (done ρ' rs' hP) (a1.from_ a').1 m'⟩
/-- x[b1][b2] = e -/
theorem m_put {b1 b2 : Expr} {k1 k2 : Nat} {r : List D} {po p1 pa : Pos} (no : NoOwn ρ) (he : DE X ρ e d) (hb1 : DE X ρ b1 (.int (k1 : Int))) (hb2 : DE X ρ b2 (.int (k2 : Int))) (hr : rs[k1]? = some r) (hk : k2 < r.length) (h : p.nx ρ (rs.set k1 (r.set k2 d))) (hN : X.N[J]? = some x)
    (hv : Vis X.env.scope x := by first | exact Or.inl rfl | exact Or.inr (Or.inl rfl) | exact Or.inr (Or.inr rfl)) (hd : (x == ("__debug__" : Str)) = false := by decide) (hcd : (x == ("__classdict__" : Str)) = false := by decide) (hpl : PlainIx b1 := by intro _ _; rfl)
    (ha : ∀ v, assign (.Subscript (.Subscript (.Name x po) b1 p1) b2 pa) X.env v = (do
      let ov ← holding [v] (eval (.Subscript (.Name x po) b1 p1) X.env)
      let iv ← holding [v, ov] (eval b2 X.env)
      standAt pa
      holding [v, ov, iv] (setItem ov iv v)
      release [v, ov, iv] []) := by intro _; rfl)
    (hs : swapsWithSole [.Subscript (.Subscript (.Name x po) b1 p1) b2 pa] e pos.line X.env = pure false := by rfl) (hw : swappedStores [.Subscript (.Subscript (.Name x po) b1 p1) b2 pa] e X.env = pure none := by rfl)
    (h1 : (assignEach [.Subscript (.Subscript (.Name x po) b1 p1) b2 pa] X.env).map (·.2) = [assign (.Subscript (.Subscript (.Name x po) b1 p1) b2 pa) X.env] := by rfl) : M1 X J ρ rs (.Assign [.Subscript (.Subscript (.Name x po) b1 p1) b2 pa] e pos) p := fun c hc =>
  weakS (ps_asg he (pg_sub (pe_ix ix_list (pe_var hN hv hd hcd) hb1 hpl) hb2 set_list ha) hs hw h1) fun E σ H ⟨F, A, m, W⟩ => ⟨F, A.s, fun v F1 H1 g1 hv1 => by
    have A1 := A.mono g1
    have m1 := m.mono g1
    obtain ⟨a, as, e1, e2, e3, e4, e5, e6, e7, e8⟩ := id m1
    have hk1 : k1 < rs.length := (List.getElem?_eq_some_iff.mp hr).1
    have hk1' : k1 < as.length := by omega
    have hb : as[k1]? = some as[k1] := List.getElem?_eq_getElem hk1'
    obtain ⟨vs, q1, q2, q3, q4⟩ := e8 k1 _ r hb hr
    refine ⟨_, e1, F1, A1.s, fun u F2 H2 g2 hu => ⟨a, as.map V.ref, k1, V.ref as[k1], rfl, dp_int hu, SqL.of (g2.h _ _ e2), at_map hb, F2, (A1.mono g2).s, fun u2 F3 H3 g3 hu2 => ?_⟩⟩
    have gg := g2.trans g3
    have A3 := (A1.mono g2).mono g3
    have m3 := m1.mono gg
    obtain ⟨a', as', f1, f2, f3, f4, f5, f6, f7, f8⟩ := m3
    rw [e1] at f1
    cases f1
    have eas : as' = as := by
      have z := gg.h _ _ e2
      rw [f2] at z
      have z2 := Option.some.inj z
      injection z2 with z3
      exact (List.map_inj_right (fun x y h => by injection h)).mp z3
    subst eas
    obtain ⟨vs3, r1, r2, r3, r4⟩ := f8 k1 _ r hb hr
    have e0 : vs3 = vs := by
      have z := gg.h _ _ q1
      rw [r1] at z
      have z2 := Option.some.inj z
      injection z2
    subst e0
    refine ⟨as'[k1], vs3, k2, k2, rfl, dp_int hu2, r1, by rw [dpa_len r4]; exact ixN_nat hk, ?_⟩
    have neF : ∀ b o, F3 b = some o → b ≠ as'[k1] := fun b o hb z => by rw [z, r2] at hb; cases hb
    refine W.nx σ F3 _ ρ _ h ⟨A3.s.on no (Ex.refl _) fun b o hb => by rw [upd_ne (neF b o hb)]; exact A3.s.sub b o hb, A3.c.f, fun b o hb => ?_, fun b hb => ?_, A3.c.new, fun i ds x h => absurd h (no i ds), fun x hx => by rw [hc] at hx; cases hx⟩ ?_
    · rcases A3.c.kept b o hb with z | z
      · exact .inl z
      · refine .inr ?_
        rw [upd_ne (fun y => by rw [y, r3] at hb; cases hb)]
        exact z
    · by_cases hb' : b = as'[k1]
      · rw [hb', upd_same] at hb
        cases hb
      · rw [upd_ne hb'] at hb
        exact A3.c.there b hb
    · have hane : a ≠ as'[k1] := fun z => f6 (by rw [z]; exact List.getElem_mem hk1')
      refine ⟨a, as', e1, by rw [upd_ne hane]; exact f2, f3, f4, by rw [List.length_set]; exact f5, f6, f7, fun i b ds g1' g2' => ?_⟩
      by_cases hik : k1 = i
      · subst hik
        rw [hb] at g1'
        cases g1'
        rw [List.getElem?_set_self hk1] at g2'
        cases g2'
        exact ⟨_, upd_same, r2, r3, dpa_set k2 r4 (dp_ex gg.f hv1)⟩
      · rw [List.getElem?_set_ne hik] at g2'
        obtain ⟨ws, t1, t2, t3, t4⟩ := f8 i b ds g1' g2'
        have hne : b ≠ as'[k1] := fun z => by
          obtain ⟨hi, hbi⟩ := List.getElem?_eq_some_iff.mp g1'
          by_cases hlt : i < k1
          · exact List.pairwise_iff_getElem.mp f7 i k1 hi hk1' hlt (by rw [hbi, z])
          · exact List.pairwise_iff_getElem.mp f7 k1 i hk1' hi (by omega) (by rw [hbi, z])
        exact ⟨ws, by rw [upd_ne hne]; exact t1, t2, t3, t4⟩⟩
end
end Lm
set_option maxRecDepth 100000
set_option maxHeartbeats 4000000
/-! _law_turned. -/
namespace Lm
open PySem PySem.Spec PyProof.Rows L2 Evl
/-- a new list of new lists, all alike -/
def tLM (K : PySem.W.Frag) (ρ : En) (r : List D) (n : Nat) : TE := fun σ H Q => ∃ F, Sd K σ F H ρ ∧ ∀ (p : Addr) (as : List Addr) (F' H' : Hp), Gr F H F' H' → H p = none → F' p = none → H' p = some (HO.lst (as.map V.ref)) → as.length = n → p ∉ as → as.Nodup →
  (∀ b ∈ as, H b = none ∧ F' b = none ∧ ∃ vs, H' b = some (HO.lst vs) ∧ DpAll K F' vs r) → Q (.ref p) H'
section
variable {X : Cx} {ρ : En} {α : Type}
theorem lcM {elt tg iter : Expr} {scope : Scope} {own : List (Str × Nat)} {js : List Nat} {pos : Pos} {Γ : D → En → En → Prop} {r : List D} (as : List α) (enc : α → D) (asg : α → En)
    (hc : X.calm = true) (hN : X.N.Nodup) (ok : BlkOk X.N X.env.scope scope own) (hl : as.length ≤ 50000) (hi : DIo X ρ tg iter (as.map enc))
    (hg : ∀ (s : Shared) (H : Hp) (C : Addr) (cl : List (Str × Addr)) (fp : List Addr), DG (X.blk s H scope (compEnvC scope cl C X.env) fp) tg js Γ) (hj : ∀ j ∈ js, j ∈ own.map (·.2))
    (ha : ∀ a ∈ as, Γ (enc a) (wipeE ρ (own.map (·.2))) (asg a))
    (he : ∀ a ∈ as, ∀ (s : Shared) (H : Hp) (C : Addr) (cl : List (Str × Addr)) (fp : List Addr), DL (X.blk s H scope (compEnvC scope cl C X.env) fp) (asg a) elt r)
    (hs : ∀ x, foldedSetIterable iter X.env x = pure x := by intro _; rfl) : PE X (.ListComp elt [⟨tg, iter, [], 0⟩] scope pos) (tLM X.K ρ r as.length) := by
  have k1 : ∀ (s : Shared) (H : Hp) (C : Addr) (cl : List (Str × Addr)) (fp : List Addr), PG (X.blk s H scope (compEnvC scope cl C X.env) fp) tg (fun v σ H Q => ∃ F ρ d ρ', Sd X.K σ F H ρ ∧ Dp X.K F v d ∧ Γ d ρ ρ' ∧ (∀ σ', Sd X.K σ' F H ρ' → Keeps js σ σ' ρ ρ' → Q σ' H)) := fun s H C cl fp => by
    obtain ⟨t, ht, hq⟩ := (hg s H C cl fp).g
    exact ⟨fun pins s1 σ H1 v u Q I r ⟨F, ρ1, d, ρ', S, hd, hΓ, q⟩ => ht.run pins s1 σ H1 v u Q I r (hq v σ F H1 Q ρ1 d ρ' S hd hΓ fun σ' S' hw => q σ' S' hw)⟩
  have k2 : ∀ (s : Shared) (H : Hp) (C : Addr) (cl : List (Str × Addr)) (fp : List Addr), PTs (X.blk s H scope (compEnvC scope cl C X.env) fp) [] tYes := fun s H C cl fp => pts_nil
  have k3 : ∀ (s : Shared) (H : Hp) (C : Addr) (cl : List (Str × Addr)) (fp : List Addr), PE (X.blk s H scope (compEnvC scope cl C X.env) fp) elt (fun σ H Q => ∃ a ∈ as, tL X.K (asg a) r σ H Q) :=
    fun s H C cl fp => ⟨fun pins s1 σ H1 Q I ⟨a, hm, q⟩ => (he a hm s H C cl fp).run pins s1 σ H1 Q I q⟩
  refine weakE (pe_lc hc hN hi ok k1 k2 k3 hs) ?_
  rintro σ H Q ⟨F, S, q⟩
  refine ⟨F, S, fun J B F1 H1 g1 eB Y Dl hD => ?_⟩
  refine ⟨fun i m H' => m = as.length - i ∧ i ≤ as.length ∧ ∃ (F' : Hp) (ls : List Addr), Gr F1 H1 F' H' ∧ F' Dl = none ∧ H' Dl = some (HO.lst (ls.map V.ref)) ∧ ls.length = i ∧ Dl ∉ ls ∧ ls.Nodup ∧ ∀ b ∈ ls, H1 b = none ∧ F' b = none ∧ ∃ vs, H' b = some (HO.lst vs) ∧ DpAll X.K F' vs r, ⟨as.length, by simp, Nat.zero_le _, F1, [], Gr.lay g1.sub hD, none_of g1.sub hD, upd_same, rfl, by simp, List.nodup_nil, by simp⟩, ?_⟩
  rintro i m H' ⟨rfl, hi, F', ls, gr, hFD, hHD, hln, hnm, hnd, hls⟩
  by_cases hlt : i < as.length
  · refine .inr ⟨Y.go i H' (by simpa using hlt) (eB.trans gr.h), fun H2 => ∃ (F' : Hp) (ls : List Addr), Gr F1 H1 F' H2 ∧ F' Dl = none ∧ H2 Dl = some (HO.lst (ls.map V.ref)) ∧ ls.length = i + 1 ∧ Dl ∉ ls ∧ ls.Nodup ∧ ∀ b ∈ ls, H1 b = none ∧ F' b = none ∧ ∃ vs, H2 b = some (HO.lst vs) ∧ DpAll X.K F' vs r, fun H2 z => ⟨as.length - (i + 1), by omega, rfl, hlt, z⟩, fun x H2 hy => ?_⟩
    have hai : as[i]? = some as[i] := List.getElem?_eq_getElem hlt
    have hmem : as[i] ∈ as := List.getElem_mem hlt
    obtain ⟨F2, gr2, hx⟩ := Y.yld i (enc as[i]) H' x H2 F' (by rw [List.getElem?_map, hai]; rfl) (eB.trans gr.h) gr.f gr.sub hy
    have S2 : Sd X.K σ F2 H2 ρ := ((S.mono g1).mono gr).mono gr2
    refine ⟨F2, wipeE ρ (own.map (·.2)), enc as[i], asg as[i], S2.wipe _, hx, ha _ hmem, fun σ3 S3 hw => ⟨?_, ?_⟩⟩
    · rw [hw.wipe _ hj, wipe_wipe]
    unfold tYes
    show (if true = true then _ else _)
    rw [if_pos rfl]
    refine ⟨as[i], hmem, F2, S3, fun p vs F4 H4 gr4 p1 p2 p3 p4 => ?_⟩
    have gg := gr2.trans gr4
    have hFD4 := gr_none gg hFD hHD
    have hHD4 := gg.h _ _ hHD
    have hpD : p ≠ Dl := fun z => by
      have := gr2.h _ _ hHD
      rw [← z, p1] at this
      cases this
    have hpH' : H' p = none := none_of gr2.h p1
    have gr14 := gr.trans gg
    refine ⟨ls.map V.ref, hHD4, sz_lt (by rw [List.length_map]; omega), F4, ls ++ [p], ⟨gr14.f, Ex.mut gr14.h hD, ?_, gr14.new⟩, hFD4, ?_, by rw [List.length_append, hln]; rfl, ?_, ?_, fun b hb => ?_⟩
    · intro c u hcu
      have hne : c ≠ Dl := fun z => by rw [z, hFD4] at hcu; cases hcu
      rw [upd_ne hne]
      exact gr14.sub c u hcu
    · rw [upd_same, List.map_append]
      rfl
    · intro z
      rcases List.mem_append.mp z with z | z
      · exact hnm z
      · exact hpD (List.mem_singleton.mp z).symm
    · refine List.nodup_append.mpr ⟨hnd, by simp, fun a ha b hb => ?_⟩
      rw [List.mem_singleton.mp hb]
      intro z
      obtain ⟨_, _, vs', h1, _⟩ := hls a ha
      rw [z, hpH'] at h1
      cases h1
    · have hbD : b ≠ Dl := fun z => by
        rcases List.mem_append.mp hb with y | y
        · exact hnm (by rw [← z]; exact y)
        · exact hpD (by rw [← z]; exact (List.mem_singleton.mp y).symm)
      rw [upd_ne hbD]
      rcases List.mem_append.mp hb with y | y
      · obtain ⟨h1, h2, vs', h3, h4⟩ := hls b y
        exact ⟨h1, gr_none gg h2 h3, vs', gg.h _ _ h3, dpa_ex gg.f h4⟩
      · rw [List.mem_singleton.mp y]
        have hHp : H1 p = none := by
          cases z : H1 p with
          | none => rfl
          | some o => have := gr.h p o z; rw [hpH'] at this; cases this
        exact ⟨hHp, p2, vs, p3, p4⟩
  · have e : i = as.length := by omega
    subst e
    refine .inl ⟨by have := Y.stop H' (eB.trans gr.h); rwa [List.length_map] at this, ?_⟩
    exact q Dl ls F' H' (g1.trans gr) (none_of g1.h hD) hFD hHD hln hnm hnd fun b hb => by
      obtain ⟨h1, h2, h3⟩ := hls b hb
      exact ⟨none_of g1.h h1, h2, h3⟩
end
/-- x, y = a list of lists, data -/
theorem w_mstart {X : Cx} {ρ : En} {q : Po} {rest : List Stmt} {a b : Expr} {r : List D} {n : Nat} {d : D} {x y : Str} {px py pt pt2 pos : Pos} {kt k2 : Nat} (i j : Nat) (ha : PE X a (tLM X.K ρ r n)) (hb : DE X ρ b d) (no : NoOwn ρ) (h : WM X i ((ρ.set i .un).set j (.dat d)) (List.replicate n r) rest { nx := fun _ _ => False, rt := q.rt }) (hil : i < ρ.length) (hc0 : X.calm = true) (hN : X.N.Nodup)
    (hi : X.N[i]? = some x := by rfl) (hj : X.N[j]? = some y := by rfl) (hij : i ≠ j := by decide) (hx : X.env.scope.names.lookup x = some .local := by rfl) (hy : X.env.scope.names.lookup y = some .local := by rfl)
    (hsa : starEach (a :: [b]) X.env = (false, eval a X.env) :: starEach [b] X.env := by rfl) (hsb : starEach (b :: []) X.env = (false, eval b X.env) :: starEach [] X.env := by rfl)
    (hw : swappedStores [.Tuple [.Name x px, .Name y py] kt pt] (.Tuple [a, b] k2 pt2) X.env = pure (some [x, y]) := by rfl)
    (hs : swapsWithSole [.Tuple [.Name x px, .Name y py] kt pt] (.Tuple [a, b] k2 pt2) pos.line X.env = pure false := by rfl) :
    WS X none ρ (.Assign [.Tuple [.Name x px, .Name y py] kt pt] (.Tuple [a, b] k2 pt2) pos :: rest) q := fun c hc => by
  refine weakSs (pss_cons (ps_par hc0 hN hi hj hij hx hy (pa_cons ha (pa_cons hb pa_nil hsb) hsa) hw hs) (h c hc)) fun E σ H ⟨F, A, W⟩ => ⟨F, A.s, fun p as F1 H1 g1 h1 h2 h3 h4 h5 h6 h7 => ⟨F1, (A.mono g1).s, fun v F2 H2 g2 hv => ⟨V.ref p, v, rfl, F2, ?_, ?_, ⟨fun _ _ _ _ _ z => z.elim, W.rt⟩⟩⟩⟩
  · have A2 := (A.mono g1).mono g2
    have hl : σ.length = ρ.length := A.s.len
    have nu : NoOwn (ρ.set i .un) := fun k es e => by
      by_cases hk : i = k
      · subst hk
        have hlt := (List.getElem?_eq_some_iff.mp e).1
        rw [List.length_set] at hlt
        rw [List.getElem?_set_self hlt] at e
        cases e
      · rw [List.getElem?_set_ne hk] at e
        exact no k es e
    have A3 : At X.K c (σ.set i (some (V.ref p))) F2 H2 (ρ.set i .un) := ⟨A2.s.clr i _, A2.c.f, A2.c.kept, A2.c.there, A2.c.new, fun k ds z e => absurd e (nu k ds), fun z hz => by rw [hc] at hz; cases hz⟩
    exact A3.set j hv (.inl hc)
  · have il : i < σ.length := by
      rw [A.s.len]
      exact hil
    refine ⟨p, as, by rw [List.getElem?_set_ne (Ne.symm hij), List.getElem?_set_self il], g2.h _ _ h3, gr_none g2 h2 h3, A.c.there p h1, by rw [h4, List.length_replicate], h5, h6, fun k b ds e1 e2 => ?_⟩
    have hds : ds = r := by
      rw [List.getElem?_replicate] at e2
      split at e2
      · exact (Option.some.inj e2).symm
      · cases e2
    subst hds
    obtain ⟨q1, q2, vs, q3, q4⟩ := h7 b (List.mem_of_getElem? e1)
    exact ⟨vs, g2.h _ _ q3, gr_none g2 q2 q3, A.c.there b q1, dpa_ex g2.f q4⟩

/-! ### the def -/
def tuStep (m : List Int) (s : List (List Int) × Nat) (one two : Nat) : List (List Int) × Nat :=
  (((s.1.set one ((s.1.getD one []).set two (m.getD s.2 0))).set two (((s.1.set one ((s.1.getD one []).set two (m.getD s.2 0))).getD two []).set one (m.getD s.2 0))), s.2 + 1)
def tuRow (m : List Int) (one : Nat) (s : List (List Int) × Nat) (j : Nat) : List (List Int) × Nat := (List.range j).foldl (fun s j => tuStep m s one (one + j)) s
def tuAt (w : Nat) (m : List Int) (t : Nat) : List (List Int) × Nat := (List.range t).foldl (fun s one => tuRow m one s (w - one)) (List.replicate w (List.replicate w 0), 0)
def tuB (t w : Nat) (m : List Int) : List (List Int) := (tuAt w m t).1
def tuC (w : Nat) : Nat → Nat
  | 0 => 0
  | t + 1 => tuC w t + (w - t)
theorem tuRow_succ (m : List Int) (one : Nat) (s : List (List Int) × Nat) (j : Nat) : tuRow m one s (j + 1) = tuStep m (tuRow m one s j) one (one + j) := by
  unfold tuRow
  rw [List.range_succ, List.foldl_append]
  rfl
theorem tuAt_succ (w : Nat) (m : List Int) (t : Nat) : tuAt w m (t + 1) = tuRow m t (tuAt w m t) (w - t) := by
  unfold tuAt
  rw [List.range_succ, List.foldl_append]
  rfl
def Wx (w : Nat) (f : List (List Int)) : Prop := f.length = w ∧ ∀ r ∈ f, r.length = w
theorem Wx.row {w k : Nat} {f : List (List Int)} (h : Wx w f) (hk : k < w) : f[k]? = some (f.getD k []) ∧ (f.getD k []).length = w := by
  have e : f[k]? = some (f.getD k []) := get_of (by rw [h.1]; exact hk) []
  exact ⟨e, h.2 _ (List.mem_of_getElem? e)⟩
theorem Wx.set {w k : Nat} {f : List (List Int)} {r : List Int} (h : Wx w f) (hr : r.length = w) : Wx w (f.set k r) := ⟨by rw [List.length_set]; exact h.1, fun x hx => by
  rcases List.mem_or_eq_of_mem_set hx with z | z
  · exact h.2 x z
  · rw [z]; exact hr⟩
theorem tuStep_ok {w : Nat} {m : List Int} {s : List (List Int) × Nat} {one two : Nat} (h : Wx w s.1) (h1 : one < w) (h2 : two < w) : Wx w (tuStep m s one two).1 := by
  have a := h.set (k := one) (r := (s.1.getD one []).set two (m.getD s.2 0)) (by rw [List.length_set]; exact (h.row h1).2)
  exact a.set (by rw [List.length_set]; exact (a.row h2).2)
theorem tuRow_ok {w : Nat} {m : List Int} {s : List (List Int) × Nat} {one : Nat} (h : Wx w s.1) (h1 : one < w) : ∀ j, one + j ≤ w → Wx w (tuRow m one s j).1 ∧ (tuRow m one s j).2 = s.2 + j
  | 0, _ => ⟨h, rfl⟩
  | j + 1, hj => by
    obtain ⟨a, b⟩ := tuRow_ok h h1 j (by omega)
    rw [tuRow_succ]
    refine ⟨tuStep_ok a h1 (by omega), ?_⟩
    show (tuRow m one s j).2 + 1 = _
    rw [b]
    omega
theorem tuAt_ok {w : Nat} {m : List Int} : ∀ t, t ≤ w → Wx w (tuAt w m t).1 ∧ (tuAt w m t).2 = tuC w t
  | 0, _ => ⟨⟨by simp [tuAt], fun r hr => by
      have := (List.mem_replicate.mp hr).2
      rw [this, List.length_replicate]⟩, rfl⟩
  | t + 1, ht => by
    obtain ⟨a, b⟩ := tuAt_ok (w := w) (m := m) t (by omega)
    rw [tuAt_succ]
    obtain ⟨c, d⟩ := tuRow_ok (m := m) (one := t) a (by omega) (w - t) (by omega)
    exact ⟨c, by rw [d, b]; rfl⟩
theorem tuC_le (w : Nat) : ∀ s t, s ≤ t → tuC w s ≤ tuC w t
  | s, t, h => by
    induction t with
    | zero =>
      have : s = 0 := by omega
      rw [this]
      exact Nat.le_refl _
    | succ t ih =>
      by_cases e : s = t + 1
      · rw [e]
        exact Nat.le_refl _
      · have := ih (by omega)
        show tuC w s ≤ tuC w t + (w - t)
        omega
section
variable {P : Program} {w : World} {K : PySem.W.Frag} {mg : Str → Option Value} {base : Heap}
def R_law_turned (ds : List D) (d : D) : Prop := ∃ (t wd : Nat) (m : List Int), ds = [I t, I wd, TI m] ∧ (t ≤ wd ∧ wd ≤ 10 ∧ tuC wd t ≤ m.length ∧ m.length ≤ 1000) ∧ d = TR (tuB t wd m)
theorem d_law_turned (T : Txt K mg) : Def P w K mg base CX0 "_law_turned" 1 P_law_turned (SpP K R_law_turned) := by
  obtain ⟨hm, fd, F⟩ := T.f_law_turned
  refine mk_def hm F (pure_ok F sc_law_turned (fun ds d ⟨_, _, _, h, _⟩ => by rw [h]; rfl) fun cdv A outer s H E ds d hr hR => ?_) (fun _ _ _ _ _ _ us hl => match us, hl with | [_, _, _], _ => rfl)
  obtain ⟨t, wd, m, rfl, ⟨h1, h2, h3, h4⟩, rfl⟩ := hR
  show WS _ _ [.dat (I t), .dat (I wd), .dat (TI m), .un, .un, .un, .un, .un, .un] _ _
  have nd := sc_law_turned.nd
  refine w_mstart 3 4 (lcM (own := [("_law_turn", 7)]) (r := List.replicate wd (I 0)) (List.range wd) (fun k => I (k : Int)) (fun k => [.dat (I t), .dat (I wd), .dat (TI m), .un, .un, .un, .un, .dat (I k), .un]) rfl nd (blkOk_by (N := N_law_turned) (sc := defScope s_law_turned) (by decide +kernel)) (by simp; omega)
    (DI.o (DI.is (i_rng1 T.n_range (by omega) (v 1 rfl)) (by simp))) (fun _ _ _ _ _ => dg_n (j := 7) nd) (by decide) (fun a _ => by rfl) (fun k _ _ _ _ _ _ => DL.is (l_rep1 (by omega) (l_lst (a_cons c_int a_nil) (by simp)) (v 1 rfl)) (by simp))) c_int (.of rfl) ?_ (by simp) rfl nd
  rw [List.length_range]
  show WM _ 3 [.dat (I t), .dat (I wd), .dat (TI m), .un, .dat (I 0), .un, .un, .un, .un] _ _ _
  refine m_cons (m_for (fun i ρ rs => ∃ d5 d6, ρ = [.dat (I t), .dat (I wd), .dat (TI m), .un, .dat (I ((tuAt wd m i).2 : Nat)), d5, d6, .un, .un] ∧ NO d5 ∧ NO d6 ∧ rs = (tuAt wd m i).1.map fun r => r.map PyData.int) (i_rng1 T.n_range (by omega) (v 0 rfl)) (dg_n (j := 5) nd) (by decide) rfl ⟨_, _, rfl, no_un, no_un, by simp [tuAt, List.map_replicate]⟩ ?_ ?_)
  · rintro i d ρ' rs' hd ⟨d5, d6, rfl, n5, n6, rfl⟩
    have hi : i < t := by
      have := (List.getElem?_eq_some_iff.mp hd).1
      simpa using this
    have hdi : d = I (i : Int) := by
      rw [List.getElem?_map, List.getElem?_range (by simpa using hi)] at hd
      exact (Option.some.inj hd).symm
    subst hdi
    obtain ⟨w1, w2⟩ := tuAt_ok (w := wd) (m := m) i (by omega)
    have hc : tuC wd i + (wd - i) ≤ m.length := Nat.le_trans (tuC_le wd (i + 1) t (by omega)) h3
    rw [tuAt_succ]
    revert w1 w2
    generalize tuAt wd m i = S
    intro w1 w2
    refine ⟨_, rfl, ?_⟩
    show WM _ 3 [.dat (I t), .dat (I wd), .dat (TI m), .un, .dat (I (S.2 : Nat)), .dat (I i), d6, .un, .un] _ _ _
    refine m_one (m_for (fun j ρ rs => ∃ d6, ρ = [.dat (I t), .dat (I wd), .dat (TI m), .un, .dat (I ((tuRow m i S j).2 : Nat)), .dat (I i), d6, .un, .un] ∧ NO d6 ∧ rs = (tuRow m i S j).1.map fun r => r.map PyData.int) (i_rng2 T.n_range (by omega) (v 5 rfl) (v 1 rfl)) (dg_n (j := 6) nd) (by decide) rfl ⟨_, rfl, n6, rfl⟩ ?_ ?_)
    · rintro j d ρ' rs' hd ⟨d6', rfl, n6', rfl⟩
      have hj : j < wd - i := by
        have := (List.getElem?_eq_some_iff.mp hd).1
        simp at this
        omega
      have hdj : d = I ((i + j : Nat) : Int) := by
        rw [List.getElem?_map, List.getElem?_range (by omega)] at hd
        have z := (Option.some.inj hd).symm
        rw [z, Int.natCast_add]
      subst hdj
      obtain ⟨u1, u2⟩ := tuRow_ok (m := m) w1 (show i < wd by omega) j (by omega)
      rw [tuRow_succ]
      revert u1 u2
      generalize tuRow m i S j = U
      obtain ⟨f, a⟩ := U
      intro u1 u2
      have u1 : Wx wd f := u1
      have u2 : a = S.2 + j := u2
      have ham : a < m.length := by omega
      have g1 := u1.row (show i < wd by omega)
      refine ⟨_, rfl, ?_⟩
      show WM _ 3 [.dat (I t), .dat (I wd), .dat (TI m), .un, .dat (I (a : Nat)), .dat (I i), .dat (I ((i + j : Nat) : Int)), .un, .un] _ _ _
      have nob : NoOwn [.dat (I t), .dat (I wd), .dat (TI m), .un, .dat (I (a : Nat)), .dat (I i), .dat (I ((i + j : Nat) : Int)), .un, .un] := .of rfl
      have u3 := u1.set (k := i) (r := (f.getD i []).set (i + j) (m.getD a 0)) (by rw [List.length_set]; exact g1.2)
      have g2 := u3.row (show i + j < wd by omega)
      refine m_cons (m_put (k1 := i) (k2 := i + j) (r := (f.getD i []).map PyData.int) nob (e_ixT (at_map (get_of ham 0)) (v 2 rfl) (v 4 rfl)) (v 5 rfl) (v 6 rfl) (by rw [List.getElem?_map, g1.1]; rfl) (by rw [List.length_map, g1.2]; omega) ?_ rfl)
      rw [← List.map_set, ← List.map_set (f := fun r : List Int => r.map PyData.int)]
      refine m_cons (m_put (k1 := i + j) (k2 := i) (r := ((f.set i ((f.getD i []).set (i + j) (m.getD a 0))).getD (i + j) []).map PyData.int) nob (e_ixT (at_map (get_of ham 0)) (v 2 rfl) (v 4 rfl)) (v 6 rfl) (v 5 rfl) (by rw [List.getElem?_map, g2.1]; rfl) (by rw [List.length_map, g2.2]; omega) ?_ rfl)
      rw [← List.map_set, ← List.map_set (f := fun r : List Int => r.map PyData.int)]
      exact m_one (m_set 4 (add (v 4 rfl) c_int) ⟨.dat (I ((i + j : Nat) : Int)), rfl, no_dat, rfl⟩ (by decide) nd)
    · rintro ρ' rs' ⟨d6', rfl, n6', rfl⟩
      rw [List.length_map, List.length_range, show ((wd : Int) - (i : Int)).toNat = wd - i by omega]
      exact ⟨_, _, rfl, no_dat, n6', rfl⟩
  · rintro ρ' rs' ⟨d5, d6, rfl, n5, n6, rfl⟩
    rw [List.length_map, List.length_range, Int.toNat_natCast]
    obtain ⟨w1, w2⟩ := tuAt_ok (w := wd) (m := m) t h1
    unfold tuB
    generalize tuAt wd m t = S at *
    have nob : NoOwn [.dat (I t), .dat (I wd), .dat (TI m), .un, .dat (I (S.2 : Nat)), d5, d6, .un, .un] := NoOwn.mem fun s hs => by
      simp only [List.mem_cons, List.not_mem_nil, or_false] at hs
      rcases hs with h | h | h | h | h | h | h | h | h <;> rw [h] <;> first | exact no_dat | exact no_un | assumption
    refine m_frz (q := { nx := fun _ => False, rt := fun _ e => e = TR S.1 }) nob ?_ (fun _ _ h => h) (fun _ h => h) (fun _ h => h) (fun _ h => h) (fun _ _ h => h)
    show WS _ _ [.dat (I t), .dat (I wd), .dat (TI m), .dat (.list ((S.1.map fun r => r.map PyData.int).map PyData.list)), .dat (I (S.2 : Nat)), d5, d6, .un, .un] _ _
    have e1 : (S.1.map fun r => r.map PyData.int).map PyData.list = S.1.map LI := by rw [List.map_map]; rfl
    rw [e1]
    refine w_one (w_ret (e_tupL T.n_tuple ?_) rfl)
    refine (lcn (own := [("_law_line_here", 8)]) S.1 LI (fun r => [.dat (I t), .dat (I wd), .dat (TI m), .dat (.list (S.1.map LI)), .dat (I (S.2 : Nat)), d5, d6, .un, .dat (LI r)]) TI rfl nd (blkOk_by (N := N_law_turned) (sc := defScope s_law_turned) (by decide +kernel)) (by rw [w1.1]; omega)
      (i_lst (v 3 rfl)).o rfl (fun _ _ _ _ _ => dg_n (j := 8) nd) (by decide) (fun a _ => by rfl) (fun r _ _ _ _ _ _ => e_tupL T.n_tuple (v 8 rfl))).e.e.is (by simp)
end
end Lm
set_option maxRecDepth 100000
set_option maxHeartbeats 4000000
/-! grid, shares, makings, nought. -/
namespace Lm
open PySem PySem.Spec PyProof.Rows L2 Evl
def gridB (c : Pl) (m : List Int) : List (List Int) := if c.rm then tuB (c.k - 1) (c.k - 1) (m.take (m.length / 2)) ++ tuB (c.k - 1) (c.k - 1) (m.drop (m.length / 2)) else tuB c.k c.d m
def sidesB (c : Pl) (m : List Int) : List (List Int) := (List.range (rmB c)).map fun a => (gridB c m).map fun r => r.getD a 0
def lshB (c : Pl) (m : List Int) : List (List Int) := (List.range c.n).map fun s => (sidesB c m).map fun sd => dotB c.p (lineB c s) sd
def unitB (n a : Nat) : List Int := (List.range n).map fun s => if s = a then 1 else 0
def makB (c : Pl) (a : Nat) : List (List Int) := (List.range (rmB c)).map fun s => (List.range (sizeB c)).map fun u => ((lshB c (unitB (sizeB c) u)).getD a []).getD s 0
def linesN (c : Pl) (sh : List Nat) : List (List Int) := sh.flatMap (makB c)
def freeB (st : List Nat) (n : Nat) : List Nat := (List.range n).filter fun s => !decide (s ∈ st)
theorem tu_wx {t w : Nat} {m : List Int} (h : t ≤ w) : Wx w (tuB t w m) := (tuAt_ok t h).1
theorem grid_ok {c : Pl} {m : List Int} (hc : c.Ok) : (∀ r ∈ gridB c m, r.length = rmB c) ∧ 1 ≤ (gridB c m).length ∧ (gridB c m).length ≤ 20 := by
  have hk := hc.k
  have hd := hc.sm
  unfold gridB
  cases q : c.rm with
  | true =>
    have := hc.ro q
    have e : rmB c = c.k - 1 := by unfold rmB; rw [q]; rfl
    have w1 := tu_wx (t := c.k - 1) (w := c.k - 1) (m := m.take (m.length / 2)) (Nat.le_refl _)
    have w2 := tu_wx (t := c.k - 1) (w := c.k - 1) (m := m.drop (m.length / 2)) (Nat.le_refl _)
    rw [if_pos rfl]
    refine ⟨fun r hr => ?_, by rw [List.length_append, w1.1, w2.1]; omega, by rw [List.length_append, w1.1, w2.1]; omega⟩
    rw [e]
    exact (List.mem_append.mp hr).elim (w1.2 r) (w2.2 r)
  | false =>
    have := hc.lt q
    have e : rmB c = c.d := by unfold rmB; rw [q]; rfl
    have w1 := tu_wx (t := c.k) (w := c.d) (m := m) this.2.1
    rw [if_neg Bool.false_ne_true]
    exact ⟨fun r hr => by rw [e]; exact w1.2 r hr, by rw [w1.1]; omega, by rw [w1.1]; omega⟩
theorem lsh_ok {c : Pl} {m : List Int} (hc : c.Ok) : (lshB c m).length = c.n ∧ ∀ r ∈ lshB c m, RowOk c r := ⟨by simp [lshB], fun r hr => by
  obtain ⟨s, _, rfl⟩ := List.mem_map.mp hr
  exact ⟨by simp [sidesB], rw_md (pr_pk hc.pr) _ _⟩⟩
theorem mak_mx {c : Pl} (hc : c.Ok) (a : Nat) (ha : a < c.n) : Mx c.p (sizeB c) (rmB c) (makB c a) := ⟨by simp [makB], fun r hr => by
  obtain ⟨s, hs, rfl⟩ := List.mem_map.mp hr
  refine ⟨by simp, fun x hx => ?_⟩
  obtain ⟨u, hu, rfl⟩ := List.mem_map.mp hx
  have l := lsh_ok (m := unitB (sizeB c) u) hc
  have e1 : (lshB c (unitB (sizeB c) u))[a]? = some ((lshB c (unitB (sizeB c) u)).getD a []) := get_of (by rw [l.1]; exact ha) []
  have r := l.2 _ (List.mem_of_getElem? e1)
  exact r.2 _ (List.mem_of_getElem? (get_of (by rw [r.1]; exact List.mem_range.mp hs) 0))⟩
theorem flat_mx {p : Int} {L n : Nat} {g : Nat → List (List Int)} : ∀ (sh : List Nat), (∀ s ∈ sh, Mx p L n (g s)) → Mx p L (sh.length * n) (sh.flatMap g)
  | [], _ => ⟨by simp, fun r hr => by cases hr⟩
  | s :: sh, h => by
    have a := h s List.mem_cons_self
    have b := flat_mx sh fun t ht => h t (List.mem_cons_of_mem _ ht)
    refine ⟨by rw [List.flatMap_cons, List.length_append, a.1, b.1, List.length_cons, Nat.add_mul]; omega, fun r hr => ?_⟩
    rw [List.flatMap_cons] at hr
    exact (List.mem_append.mp hr).elim (a.2 r) (b.2 r)
theorem linesN_mx {c : Pl} {sh : List Nat} (hc : c.Ok) (hs : ∀ s ∈ sh, s < c.n) : Mx c.p (sizeB c) (sh.length * rmB c) (linesN c sh) := flat_mx sh fun s h => mak_mx hc s (hs s h)
section
variable {P : Program} {w : World} {K : PySem.W.Frag} {mg : Str → Option Value} {base : Heap}
def R_law_grid (ds : List D) (d : D) : Prop := ∃ (c : Pl) (m : List Int), ds = [plD c, TI m] ∧ (c.Ok ∧ m.length = sizeB c) ∧ d = TR (gridB c m)
theorem tuC_sz {c : Pl} (hc : c.Ok) : (c.rm = false → tuC c.d c.k ≤ sizeB c) ∧ (c.rm = true → tuC (c.k - 1) (c.k - 1) ≤ sizeB c / 2 ∧ sizeB c / 2 + sizeB c / 2 = sizeB c) := by
  unfold sizeB
  rcases hc.shp with ⟨q, h⟩ | ⟨q, h⟩
  · rw [q]
    rcases h with h | h | h | h | h | h <;> rw [h.1, h.2] <;> decide
  · rw [q]
    rcases h with h | h <;> rw [h.1, h.2] <;> decide
theorem d_law_grid (T : Txt K mg) : Def P w K mg base CX0 "_law_grid" 2 P_law_grid (SpP K R_law_grid) := by
  obtain ⟨hm, fd, F⟩ := T.f_law_grid
  refine mk_def hm F (pure_ok F sc_law_grid (fun ds d ⟨_, _, h, _⟩ => by rw [h]; rfl) fun cdv A outer s H E ds d hr hR => ?_) (fun _ _ _ _ _ _ us hl => match us, hl with | [_, _], _ => rfl)
  obtain ⟨c, m, rfl, ⟨hc, hml⟩, rfl⟩ := hR
  show WS _ _ [.dat (plD c), .dat (TI m), .un] _ _
  have nd := sc_law_grid.nd
  have hk := hc.k
  have hd := hc.sm
  have hsz := size_few hc
  have htc := tuC_sz hc
  refine w_cons (w_if (k := c.rm) ((t_eqs (e_ixT (i := 1) rfl (v 0 rfl) c_int) c_str).is (way_ro c)) (fun q => ?_) (fun q => w_nil ?_))
  · have hc2 := htc.2 q
    have hro := hc.ro q
    rw [← hml] at hc2
    refine w_cons (w_set 2 (d := I ((m.length / 2 : Nat) : Int)) ((fdiv ⟨by decide, by decide⟩ (e_lenT T.n_len (v 1 rfl)) c_int).is (by show PyData.int _ = PyData.int _; rw [List.length_map]; congr 1)) ?_ (.inl rfl) nd)
    show WS _ _ [.dat (plD c), .dat (TI m), .dat (I ((m.length / 2 : Nat) : Int))] _ _
    have ek : (I (c.k : Int) : D) = I (c.k : Int) := rfl
    have one : ∀ x : D, x = I ((c.k : Int) - 1) → x = I ((c.k - 1 : Nat) : Int) := fun x hx => by
      rw [hx]
      show PyData.int _ = PyData.int _
      congr 1
      omega
    refine w_one (w_ret (e_catT ?_ (e_call (d_law_turned T) hr ⟨c.k - 1, c.k - 1, m.take (m.length / 2), rfl, ⟨Nat.le_refl _, by omega, by rw [List.length_take]; omega, by rw [List.length_take]; omega⟩, rfl⟩ (a_cons ((sub (e_ixT (i := 3) rfl (v 0 rfl) c_int) c_int).is (one _ rfl)) (a_cons ((sub (e_ixT (i := 3) rfl (v 0 rfl) c_int) c_int).is (one _ rfl)) (a_cons ((e_slT (v 1 rfl) o_none (o_some (v 2 rfl))).is (by rw [cut_map, cut_to])) a_nil))))
      (e_call (d_law_turned T) hr ⟨c.k - 1, c.k - 1, m.drop (m.length / 2), rfl, ⟨Nat.le_refl _, by omega, by rw [List.length_drop]; omega, by rw [List.length_drop]; omega⟩, rfl⟩ (a_cons ((sub (e_ixT (i := 3) rfl (v 0 rfl) c_int) c_int).is (one _ rfl)) (a_cons ((sub (e_ixT (i := 3) rfl (v 0 rfl) c_int) c_int).is (one _ rfl)) (a_cons ((e_slT (v 1 rfl) (o_some (v 2 rfl)) o_none).is (by rw [cut_map, cut_from])) a_nil))))) ?_)
    · have w1 := tu_wx (t := c.k - 1) (w := c.k - 1) (m := m.take (m.length / 2)) (Nat.le_refl _)
      have w2 := tu_wx (t := c.k - 1) (w := c.k - 1) (m := m.drop (m.length / 2)) (Nat.le_refl _)
      rw [List.length_map, List.length_map, w1.1, w2.1]
      omega
    · show PyData.tuple _ = PyData.tuple _
      unfold gridB
      rw [q, if_pos rfl, List.map_append]
  · have hlt := hc.lt q
    refine w_one (w_ret (e_call (d_law_turned T) hr ⟨c.k, c.d, m, rfl, ⟨hlt.2.1, by omega, by rw [hml]; exact htc.1 q, by omega⟩, rfl⟩ (a_cons (e_ixT (i := 3) rfl (v 0 rfl) c_int) (a_cons (e_ixT (i := 4) rfl (v 0 rfl) c_int) (a_cons (v 1 rfl) a_nil)))) ?_)
    unfold gridB
    rw [q]
    rfl
def R_law_shares (ds es : List D) : Prop := ∃ (c : Pl) (m : List Int), ds = [plD c, TI m] ∧ (c.Ok ∧ m.length = sizeB c) ∧ es = (lshB c m).map TI
theorem d_law_shares (T : Txt K mg) : Def P w K mg base CX0 "_law_shares" 4 P_law_shares (SpL K R_law_shares) := by
  obtain ⟨hm, fd, F⟩ := T.f_law_shares
  refine mk_def hm F (list_ok F sc_law_shares (fun ds d ⟨_, _, h, _⟩ => by rw [h]; rfl) fun cdv A outer s H E ds es hr hR => ?_) (fun _ _ _ _ _ _ us hl => match us, hl with | [_, _], _ => rfl)
  obtain ⟨c, m, rfl, ⟨hc, hml⟩, rfl⟩ := hR
  show WS _ _ [.dat (plD c), .dat (TI m), .un, .un, .un, .un, .un] _ _
  have nd := sc_law_shares.nd
  have hk := hc.k
  have hn := hc.n
  have hp := pr_bd hc.pr
  have hd := hc.sm
  obtain ⟨g1, g2, g3⟩ := grid_ok (m := m) hc
  have hr1 := hr.mono (show 1 ≤ 3 by decide)
  refine w_cons (w_set 2 (e_call (d_law_grid T) (hr.mono (by decide)) ⟨c, m, rfl, ⟨hc, hml⟩, rfl⟩ (a_cons (v 0 rfl) (a_cons (v 1 rfl) a_nil))) ?_ (.inl rfl) nd)
  show WS _ _ [.dat (plD c), .dat (TI m), .dat (TR (gridB c m)), .un, .un, .un, .un] _ _
  have hg0 : (gridB c m)[0]? = some ((gridB c m).getD 0 []) := get_of (by omega) []
  have hgl : ((gridB c m).getD 0 []).length = rmB c := g1 _ (List.mem_of_getElem? hg0)
  refine w_cons (w_set 3 (d := LL (sidesB c m)) ?_ ?_ (.inl rfl) nd)
  · refine DE.is (DL.e (Lc.e (lcn (own := [("_law_at", 4)]) (List.range (rmB c)) (fun a => I (a : Int)) (fun a => [.dat (plD c), .dat (TI m), .dat (TR (gridB c m)), .un, .dat (I a), .un, .un]) (fun a => LI ((gridB c m).map fun r => r.getD a 0)) rfl nd (blkOk_by (N := N_law_shares) (sc := defScope s_law_shares) (by decide +kernel)) (by simp; omega)
      (DI.o (DI.is (i_rng1 (n := ((rmB c : Nat) : Int)) T.n_range (by omega) (DE.is (e_lenT T.n_len (e_ixT (d := TI ((gridB c m).getD 0 [])) (at_map (k := 0) hg0) (v 2 rfl) c_int)) (by rw [List.length_map, hgl]))) (by simp))) rfl (fun _ _ _ _ _ => dg_n (j := 4) nd) (by decide) (fun a _ => by rfl) (fun a ha _ _ _ _ _ => ?_)))) (by simp [sidesB])
    have hak := List.mem_range.mp ha
    refine DE.is (DL.e (Lc.e (lcn (own := [("_law_line_here", 5)]) (gridB c m) TI (fun r => [.dat (plD c), .dat (TI m), .dat (TR (gridB c m)), .un, .dat (I a), .dat (TI r), .un]) (fun r => I (r.getD a 0)) rfl nd (blkOk_by (N := N_law_shares) (sc := relS _ (defScope s_law_shares)) (by decide +kernel)) (by omega)
      (i_tup (v 2 rfl)).o rfl (fun _ _ _ _ _ => dg_n (j := 5) nd) (by decide) (fun a _ => by rfl) (fun r hr' _ _ _ _ _ => e_ixT (at_map (get_of (by rw [g1 r hr']; exact hak) 0)) (v 5 rfl) (v 4 rfl))))) (by simp)
  show WS _ _ [.dat (plD c), .dat (TI m), .dat (TR (gridB c m)), .dat (LL (sidesB c m)), .un, .un, .un] _ _
  refine w_one (w_retL (DL.is (Lc.e (lcn (own := [("_law_line_here", 5)]) ((List.range c.n).map (lineB c)) TI (fun l => [.dat (plD c), .dat (TI m), .dat (TR (gridB c m)), .dat (LL (sidesB c m)), .un, .dat (TI l), .un]) (fun l => TI ((sidesB c m).map fun sd => dotB c.p l sd)) rfl nd (blkOk_by (N := N_law_shares) (sc := defScope s_law_shares) (by decide +kernel)) (by simp; omega)
    (i_lst (e_call (d_law_lines T) hr ⟨c, rfl, hc, rfl⟩ (a_cons (v 0 rfl) a_nil))).o rfl (fun _ _ _ _ _ => dg_n (j := 5) nd) (by decide) (fun a _ => by rfl) (fun l hl _ _ _ _ _ => e_tupL T.n_tuple ?_))) (by simp [lshB])) rfl)
  obtain ⟨s0, _, rfl⟩ := List.mem_map.mp hl
  refine DE.is (DL.e (Lc.e (lcn (own := [("_law_side", 6)]) (sidesB c m) LI (fun sd => [.dat (plD c), .dat (TI m), .dat (TR (gridB c m)), .dat (LL (sidesB c m)), .un, .dat (TI (lineB c s0)), .dat (LI sd)]) (fun sd => I (dotB c.p (lineB c s0) sd)) rfl nd (blkOk_by (N := N_law_shares) (sc := relS _ (defScope s_law_shares)) (by decide +kernel)) (by simp [sidesB]; omega)
    (i_lst (v 3 rfl)).o rfl (fun _ _ _ _ _ => dg_n (j := 6) nd) (by decide) (fun a _ => by rfl) (fun sd _ _ _ _ _ _ => e_call (d_law_dot T) hr1 ⟨c.p, lineB c s0, sd, rfl, ⟨by omega, fun x hx => by have := line_rw hc s0 x hx; omega, by rw [line_len]; omega⟩, rfl⟩ (a_cons (e_ixT (i := 0) rfl (v 0 rfl) c_int) (a_cons (v 5 rfl) (a_cons (v 6 rfl) a_nil))))))) (by simp)
def R_law_makings (ds : List D) (d : D) : Prop := ∃ (c : Pl), ds = [plD c] ∧ c.Ok ∧ d = .list ((List.range c.n).map fun a => LL (makB c a))
theorem d_law_makings (T : Txt K mg) : Def P w K mg base CX0 "_law_makings" 5 P_law_makings (SpP K R_law_makings) := by
  obtain ⟨hm, fd, F⟩ := T.f_law_makings
  refine mk_def hm F (pure_ok F sc_law_makings (fun ds d ⟨_, h, _⟩ => by rw [h]; rfl) fun cdv A outer s H E ds d hr hR => ?_) (fun _ _ _ _ _ _ us hl => match us, hl with | [_], _ => rfl)
  obtain ⟨c, rfl, hc, rfl⟩ := hR
  show WS _ _ [.dat (plD c), .un, .un, .un, .un, .un, .un, .un] _ _
  have nd := sc_law_makings.nd
  have hn := hc.n
  have hd := hc.sm
  have hsz := size_few hc
  have hr1 := hr.mono (show 1 ≤ 4 by decide)
  refine w_cons (w_set 1 (e_call (d_law_many T) hr1 ⟨c, rfl, hc, rfl⟩ (a_cons (v 0 rfl) a_nil)) ?_ (.inl rfl) nd)
  show WS _ _ [.dat (plD c), .dat (I (sizeB c)), .un, .un, .un, .un, .un, .un] _ _
  refine w_cons (w_setL 2 (ds := (List.range (sizeB c)).map fun a => TI (unitB (sizeB c) a)) (lcn (own := [("_law_at", 4)]) (List.range (sizeB c)) (fun a => I (a : Int)) (fun a => [.dat (plD c), .dat (I (sizeB c)), .un, .un, .dat (I a), .un, .un, .un]) (fun a => TI (unitB (sizeB c) a)) rfl nd (blkOk_by (N := N_law_makings) (sc := defScope s_law_makings) (by decide +kernel)) (by simp; omega)
    (i_rng1 T.n_range (by omega) (v 1 rfl)).o (by simp) (fun _ _ _ _ _ => dg_n (j := 4) nd) (by decide) (fun a _ => by rfl) (fun a ha _ _ _ _ _ => e_tupL T.n_tuple ?_)) ?_ (.inl rfl))
  · refine DE.is (DL.e (Lc.e (lcn (own := [("_law_spot", 5)]) (List.range (sizeB c)) (fun s => I (s : Int)) (fun s => [.dat (plD c), .dat (I (sizeB c)), .un, .un, .dat (I a), .dat (I s), .un, .un]) (fun s => I (if s = a then 1 else 0)) rfl nd (blkOk_by (N := N_law_makings) (sc := relS _ (defScope s_law_makings)) (by decide +kernel)) (by simp; omega)
      (i_rng1 T.n_range (by omega) (v 1 rfl)).o (by simp) (fun _ _ _ _ _ => dg_n (j := 5) nd) (by decide) (fun a _ => by rfl) (fun s _ _ _ _ _ _ => (e_intb (k := decide (s = a)) T.n_int ((e_eqi (v 5 rfl) (v 4 rfl)).is (by show PyData.bool _ = PyData.bool _; congr 1; exact decide_eq_decide.mpr (by omega)))).is (by simp))))) (by simp [unitB])
  show WS _ _ [.dat (plD c), .dat (I (sizeB c)), .dat (.list ((List.range (sizeB c)).map fun a => TI (unitB (sizeB c) a))), .un, .un, .un, .un, .un] _ _
  refine w_cons (w_set 3 (d := .list ((List.range (sizeB c)).map fun u => LT (lshB c (unitB (sizeB c) u)))) ?_ ?_ (.inl rfl) nd)
  · refine DE.is (DL.e (Lc.e (lcn (own := [("_law_unit", 6)]) (List.range (sizeB c)) (fun a => TI (unitB (sizeB c) a)) (fun u => [.dat (plD c), .dat (I (sizeB c)), .dat (.list ((List.range (sizeB c)).map fun a => TI (unitB (sizeB c) a))), .un, .un, .un, .dat (TI (unitB (sizeB c) u)), .un]) (fun u => LT (lshB c (unitB (sizeB c) u))) rfl nd (blkOk_by (N := N_law_makings) (sc := defScope s_law_makings) (by decide +kernel)) (by simp; omega)
      (i_lst (v 2 rfl)).o rfl (fun _ _ _ _ _ => dg_n (j := 6) nd) (by decide) (fun a _ => by rfl) (fun u _ _ _ _ _ _ => (l_call (d_law_shares T) hr ⟨c, unitB (sizeB c) u, rfl, ⟨hc, by simp [unitB]⟩, rfl⟩ (a_cons (v 0 rfl) (a_cons (v 6 rfl) a_nil))).e)))) (by simp)
  show WS _ _ [.dat (plD c), .dat (I (sizeB c)), .dat (.list ((List.range (sizeB c)).map fun a => TI (unitB (sizeB c) a))), .dat (.list ((List.range (sizeB c)).map fun u => LT (lshB c (unitB (sizeB c) u)))), .un, .un, .un, .un] _ _
  refine w_one (w_ret (DL.e (Lc.e (lcn (own := [("_law_at", 4)]) (List.range c.n) (fun a => I (a : Int)) (fun a => [.dat (plD c), .dat (I (sizeB c)), .dat (.list ((List.range (sizeB c)).map fun a => TI (unitB (sizeB c) a))), .dat (.list ((List.range (sizeB c)).map fun u => LT (lshB c (unitB (sizeB c) u)))), .dat (I a), .un, .un, .un]) (fun a => LL (makB c a)) rfl nd (blkOk_by (N := N_law_makings) (sc := defScope s_law_makings) (by decide +kernel)) (by simp; omega)
    (i_rng1 T.n_range (by omega) (e_ixT (i := 2) rfl (v 0 rfl) c_int)).o (by simp) (fun _ _ _ _ _ => dg_n (j := 4) nd) (by decide) (fun a _ => by rfl) (fun a ha _ _ _ _ _ => ?_)))) rfl)
  have han := List.mem_range.mp ha
  refine DE.is (DL.e (Lc.e (lcn (own := [("_law_spot", 5)]) (List.range (rmB c)) (fun s => I (s : Int)) (fun s => [.dat (plD c), .dat (I (sizeB c)), .dat (.list ((List.range (sizeB c)).map fun a => TI (unitB (sizeB c) a))), .dat (.list ((List.range (sizeB c)).map fun u => LT (lshB c (unitB (sizeB c) u)))), .dat (I a), .dat (I s), .un, .un]) (fun s => LI ((List.range (sizeB c)).map fun u => ((lshB c (unitB (sizeB c) u)).getD a []).getD s 0)) rfl nd (blkOk_by (N := N_law_makings) (sc := relS _ (defScope s_law_makings)) (by decide +kernel)) (by simp; omega)
    (i_rng1 T.n_range (by omega) (e_call (d_law_wide T) hr1 ⟨c, rfl, hc, rfl⟩ (a_cons (v 0 rfl) a_nil))).o (by simp) (fun _ _ _ _ _ => dg_n (j := 5) nd) (by decide) (fun a _ => by rfl) (fun s hs' _ _ _ _ _ => ?_)))) (by simp [makB])
  have hsr := List.mem_range.mp hs'
  refine DE.is (DL.e (Lc.e (lcn (own := [("_law_each", 7)]) (List.range (sizeB c)) (fun u => LT (lshB c (unitB (sizeB c) u))) (fun u => [.dat (plD c), .dat (I (sizeB c)), .dat (.list ((List.range (sizeB c)).map fun a => TI (unitB (sizeB c) a))), .dat (.list ((List.range (sizeB c)).map fun u => LT (lshB c (unitB (sizeB c) u)))), .dat (I a), .dat (I s), .un, .dat (LT (lshB c (unitB (sizeB c) u)))]) (fun u => I (((lshB c (unitB (sizeB c) u)).getD a []).getD s 0)) rfl nd (blkOk_by (N := N_law_makings) (sc := relS _ (relS _ (defScope s_law_makings))) (by decide +kernel)) (by simp; omega)
    (i_lst (v 3 rfl)).o rfl (fun _ _ _ _ _ => dg_n (j := 7) nd) (by decide) (fun a _ => by rfl) (fun u hu _ _ _ _ _ => ?_)))) (by simp)
  have l := lsh_ok (m := unitB (sizeB c) u) hc
  have e1 : (lshB c (unitB (sizeB c) u))[a]? = some ((lshB c (unitB (sizeB c) u)).getD a []) := get_of (by rw [l.1]; exact han) []
  have r := l.2 _ (List.mem_of_getElem? e1)
  exact e_ixT (at_map (get_of (by rw [r.1]; exact hsr) 0)) (e_ixL (at_map (f := TI) e1) (v 7 rfl) (v 4 rfl)) (v 5 rfl)
end
end Lm
set_option maxRecDepth 100000
set_option maxHeartbeats 4000000
/-! nought. -/
namespace Lm
open PySem PySem.Spec PyProof.Rows L2 Evl
def noS (c : Pl) (sh : List Nat) : List (List Int) × List Nat := stairsAt c.p (linesN c sh) (widB (linesN c sh) (sizeB c))
def noB (c : Pl) (sh : List Nat) : List Int := nvK c.p (noS c sh).1 (noS c sh).2 (sizeB c) ((freeB (noS c sh).2 (sizeB c)).headD 0) (noS c sh).2.length
section
variable {P : Program} {w : World} {K : PySem.W.Frag} {mg : Str → Option Value} {base : Heap}
def R_law_nought (ds : List D) (d : D) : Prop := ∃ (c : Pl) (sh : List Nat), ds = [plD c, LI (sh.map fun (k : Nat) => (k : Int))] ∧ (c.Ok ∧ (∀ s ∈ sh, s < c.n) ∧ sh.length ≤ 7 ∧ freeB (noS c sh).2 (sizeB c) ≠ []) ∧ d = TI (noB c sh)
theorem d_law_nought (T : Txt K mg) : Def P w K mg base CX0 "_law_nought" 6 P_law_nought (SpP K R_law_nought) := by
  obtain ⟨hm, fd, F⟩ := T.f_law_nought
  refine mk_def hm F (pure_ok F sc_law_nought (fun ds d ⟨_, _, h, _⟩ => by rw [h]; rfl) fun cdv A outer s H E ds d hr hR => ?_) (fun _ _ _ _ _ _ us hl => match us, hl with | [_, _], _ => rfl)
  obtain ⟨c, sh, rfl, ⟨hc, hsn, hsl, hfr⟩, rfl⟩ := hR
  show WS _ _ [.dat (plD c), .dat (LI (sh.map fun (k : Nat) => (k : Int))), .un, .un, .un, .un, .un, .un, .un, .un, .un] _ _
  have nd := sc_law_nought.nd
  have hn := hc.n
  have hd := hc.sm
  have hsz := size_few hc
  have hp := pr_pk hc.pr
  have hp1 := hp.1
  have hpb := pr_bd hc.pr
  have hrm : rmB c ≤ 7 := by omega
  have hM := linesN_mx hc hsn
  have hlen : sh.length * rmB c ≤ 49 := Nat.le_trans (Nat.mul_le_mul hsl hrm) (by decide)
  refine w_cons (w_par3 2 3 4 (e_call (d_law_makings T) hr ⟨c, rfl, hc, rfl⟩ (a_cons (v 0 rfl) a_nil)) (l_lst a_nil (by decide)).e (e_call (d_law_many T) (hr.mono (by decide)) ⟨c, rfl, hc, rfl⟩ (a_cons (v 0 rfl) a_nil)) ?_ (.inl rfl) rfl nd (hw := by rfl))
  show WS _ _ [.dat (plD c), .dat (LI (sh.map fun (k : Nat) => (k : Int))), .dat (.list ((List.range c.n).map fun a => LL (makB c a))), .dat (LL (linesN c [])), .dat (I (sizeB c)), .un, .un, .un, .un, .un, .un] _ _
  refine w_cons (w_for (fun i ρ => ∃ s5, ρ = [.dat (plD c), .dat (LI (sh.map fun (k : Nat) => (k : Int))), .dat (.list ((List.range c.n).map fun a => LL (makB c a))), .dat (LL (linesN c (sh.take i))), .dat (I (sizeB c)), s5, .un, .un, .un, .un, .un]) (i_lst (v 1 rfl)) (dg_n (j := 5) nd) (.inl rfl) rfl ⟨_, rfl⟩ ?_ ?_)
  · rintro i d ρ' hd' ⟨s5, rfl⟩
    rw [List.map_map] at hd'
    have hi : i < sh.length := by simpa using (List.getElem?_eq_some_iff.mp hd').1
    have hdi : d = I ((sh[i] : Nat) : Int) := by
      rw [List.getElem?_map, List.getElem?_eq_getElem hi] at hd'
      exact (Option.some.inj hd').symm
    subst hdi
    have hlt := hsn _ (List.getElem_mem hi)
    refine ⟨_, rfl, ?_⟩
    have hA := linesN_mx (sh := sh.take i) hc fun s h => hsn s (List.mem_of_mem_take h)
    have hB := mak_mx hc _ hlt
    have hl2 : (sh.take i).length * rmB c ≤ 49 := Nat.le_trans (Nat.mul_le_mul (show (sh.take i).length ≤ 7 by rw [List.length_take]; omega) hrm) (by decide)
    show WS _ _ [.dat (plD c), .dat (LI (sh.map fun (k : Nat) => (k : Int))), .dat (.list ((List.range c.n).map fun a => LL (makB c a))), .dat (LL (linesN c (sh.take i))), .dat (I (sizeB c)), .dat (I ((sh[i] : Nat) : Int)), .un, .un, .un, .un, .un] _ _
    refine w_one (w_set 3 (DL.e (l_cat (ds := (linesN c (sh.take i)).map LI) (es := (makB c sh[i]).map LI) (by rw [List.length_map, List.length_map, hA.1, hB.1]; omega) (v 3 rfl) (e_ixL (d := LL (makB c sh[i])) (at_map (f := fun a => LL (makB c a)) (List.getElem?_range hlt)) (v 2 rfl) (v 5 rfl)))) ?_ (.inl rfl) nd)
    refine ⟨.dat (I ((sh[i] : Nat) : Int)), ?_⟩
    have e : sh.take (i + 1) = sh.take i ++ [sh[i]] := by rw [List.take_succ, List.getElem?_eq_getElem hi]; rfl
    have e2 : linesN c (sh.take (i + 1)) = linesN c (sh.take i) ++ makB c sh[i] := by
      rw [e]
      unfold linesN
      rw [List.flatMap_append]
      simp
    rw [e2]
    show [_, _, _, Slot.dat (PyData.list _), _, _, _, _, _, _, _] = _
    rw [← List.map_append]
  rintro ρ' ⟨s5, rfl⟩
  rw [List.length_map, List.length_map, List.take_length]
  show WS _ _ [.dat (plD c), .dat (LI (sh.map fun (k : Nat) => (k : Int))), .dat (.list ((List.range c.n).map fun a => LL (makB c a))), .dat (LL (linesN c sh)), .dat (I (sizeB c)), s5, .un, .un, .un, .un, .un] _ _
  refine w_cons (w_unp (js := [7, 6]) (e_call (d_law_stairs T) (hr.mono (by decide)) ⟨c.p, linesN c sh, sizeB c, sh.length * rmB c, rfl, ⟨hp, pr_iv hc.pr, hM, by omega, by omega⟩, rfl⟩ (a_cons (e_ixT (i := 0) rfl (v 0 rfl) c_int) (a_cons (v 3 rfl) a_nil))) (dg_t rfl (dgs_cons (j := 6) nd (dgs_cons (j := 7) nd dgs_nil))) ⟨_, rfl, rfl, rfl⟩ ?_ (.inl rfl))
  have hwL : widB (linesN c sh) (sizeB c) ≤ sizeB c := by unfold widB; split <;> omega
  have S := st_at hp (pr_iv hc.pr) hM (widB (linesN c sh) (sizeB c)) hwL
  have hS : stairsAt c.p (linesN c sh) (widB (linesN c sh) (sizeB c)) = noS c sh := rfl
  rw [hS] at S ⊢
  unfold noB
  revert hfr S
  generalize noS c sh = Z
  obtain ⟨f, st⟩ := Z
  intro hfr S
  have S : St c.p (sizeB c) (sh.length * rmB c) (widB (linesN c sh) (sizeB c)) (linesN c sh) f st := S
  have hfr : freeB st (sizeB c) ≠ [] := hfr
  show WS _ _ [.dat (plD c), .dat (LI (sh.map fun (k : Nat) => (k : Int))), .dat (.list ((List.range c.n).map fun a => LL (makB c a))), .dat (LL (linesN c sh)), .dat (I (sizeB c)), s5, .dat (LL f), .dat (LI (st.map fun (k : Nat) => (k : Int))), .un, .un, .un] _ _
  refine w_cons (w_set 8 (d := LI ((freeB st (sizeB c)).map fun (k : Nat) => (k : Int))) (DE.is (DL.e (Lc.e (lc1 (own := [("_law_spot", 10)]) (List.range (sizeB c)) (fun k => I (k : Int))
      (fun k => [.dat (plD c), .dat (LI (sh.map fun (k : Nat) => (k : Int))), .dat (.list ((List.range c.n).map fun a => LL (makB c a))), .dat (LL (linesN c sh)), .dat (I (sizeB c)), s5, .dat (LL f), .dat (LI (st.map fun (k : Nat) => (k : Int))), .un, .un, .dat (I (k : Int))]) (fun k => !decide (k ∈ st)) (fun k => I (k : Int)) rfl nd
      (blkOk_by (N := N_law_nought) (sc := defScope s_law_nought) (by decide +kernel)) (by rw [List.length_range]; omega)
      (DI.o (DI.is (i_rng1 (n := ((sizeB c : Nat) : Int)) T.n_range (by omega) (v 4 rfl)) (by simp))) (fun _ _ _ _ _ => dg_n (j := 10) nd) (by decide) (fun a _ => by rfl) (fun k hk _ _ _ _ _ => ?_) (fun k hk hb _ _ _ _ _ => v 10 rfl)))) ?_) ?_ (.inl rfl) nd)
  · have e : (!decide (((k : Nat) : Int) ∈ st.map fun (k : Nat) => (k : Int))) = !decide (k ∈ st) := by
      congr 1
      refine decide_eq_decide.mpr ⟨fun h => ?_, fun h => List.mem_map.mpr ⟨k, h, rfl⟩⟩
      obtain ⟨j, hj, e⟩ := List.mem_map.mp h
      rwa [show k = j by omega]
    rw [← e]
    exact ts_one (t_nin (v 10 rfl) (v 7 rfl))
  · unfold freeB
    show PyData.list _ = PyData.list _
    rw [List.map_map]
    rfl
  obtain ⟨q, qs, hq⟩ := List.exists_cons_of_ne_nil hfr
  have hqm : q ∈ freeB st (sizeB c) := by rw [hq]; exact List.mem_cons_self
  have hql : q < sizeB c := List.mem_range.mp (List.mem_filter.mp hqm).1
  rw [hq]
  show WS _ _ [.dat (plD c), .dat (LI (sh.map fun (k : Nat) => (k : Int))), .dat (.list ((List.range c.n).map fun a => LL (makB c a))), .dat (LL (linesN c sh)), .dat (I (sizeB c)), s5, .dat (LL f), .dat (LI (st.map fun (k : Nat) => (k : Int))), .dat (LI ((q :: qs).map fun (k : Nat) => (k : Int))), .un, .un] _ _
  refine w_cons (w_setLO 9 (ds := (nvK c.p f st (sizeB c) q 0).map PyData.int) (Lc.is (lcn (own := [("_law_spot", 10)]) (List.range (sizeB c)) (fun k => I (k : Int))
      (fun k => [.dat (plD c), .dat (LI (sh.map fun (k : Nat) => (k : Int))), .dat (.list ((List.range c.n).map fun a => LL (makB c a))), .dat (LL (linesN c sh)), .dat (I (sizeB c)), s5, .dat (LL f), .dat (LI (st.map fun (k : Nat) => (k : Int))), .dat (LI ((q :: qs).map fun (k : Nat) => (k : Int))), .un, .dat (I (k : Int))]) (fun s => I (if s = q then 1 else 0)) rfl nd
      (blkOk_by (N := N_law_nought) (sc := defScope s_law_nought) (by decide +kernel)) (by rw [List.length_range]; omega)
      (i_rng1 T.n_range (by omega) (v 4 rfl)).o (by simp) (fun _ _ _ _ _ => dg_n (j := 10) nd) (by decide) (fun a _ => by rfl) (fun s _ _ _ _ _ _ => (e_intb (k := decide (s = q)) T.n_int ((e_eqi (v 10 rfl) (e_ixL (d := I (q : Int)) (at_nat (k := 0) rfl) (v 8 rfl) c_int)).is (by show PyData.bool _ = PyData.bool _; congr 1; exact decide_eq_decide.mpr (by omega)))).is (by simp))) ?_) ?_ (.inl rfl))
  · unfold nvK
    rw [List.map_map]
    rfl
  show WS _ _ [.dat (plD c), .dat (LI (sh.map fun (k : Nat) => (k : Int))), .dat (.list ((List.range c.n).map fun a => LL (makB c a))), .dat (LL (linesN c sh)), .dat (I (sizeB c)), s5, .dat (LL f), .dat (LI (st.map fun (k : Nat) => (k : Int))), .dat (LI ((q :: qs).map fun (k : Nat) => (k : Int))), .own ((nvK c.p f st (sizeB c) q 0).map PyData.int), .un] _ _
  have hstn : st.length ≤ sh.length * rmB c := S.le
  refine w_cons (w_for (fun i ρ => ∃ s5 s10, ρ = [.dat (plD c), .dat (LI (sh.map fun (k : Nat) => (k : Int))), .dat (.list ((List.range c.n).map fun a => LL (makB c a))), .dat (LL (linesN c sh)), .dat (I (sizeB c)), s5, .dat (LL f), .dat (LI (st.map fun (k : Nat) => (k : Int))), .dat (LI ((q :: qs).map fun (k : Nat) => (k : Int))), .own ((nvK c.p f st (sizeB c) q i).map PyData.int), s10]) (i_enumL T.n_enumerate (v 7 rfl)) (dg_t rfl (dgs_cons (j := 5) nd (dgs_cons (j := 10) nd dgs_nil))) (.inl rfl) rfl ⟨_, _, rfl⟩ ?_ ?_)
  · rintro i d ρ' hd' ⟨s5, s10, rfl⟩
    obtain ⟨e, he, rfl⟩ := enumD_at hd'
    have hi : i < st.length := by simpa using (List.getElem?_eq_some_iff.mp he).1
    have hei : e = I ((st[i] : Nat) : Int) := by
      rw [List.map_map, List.getElem?_map, List.getElem?_eq_getElem hi] at he
      exact (Option.some.inj he).symm
    subst hei
    have hlt := S.lt _ (List.getElem_mem hi)
    refine ⟨_, ⟨_, rfl, rfl, rfl⟩, ?_⟩
    show WS _ _ [.dat (plD c), .dat (LI (sh.map fun (k : Nat) => (k : Int))), .dat (.list ((List.range c.n).map fun a => LL (makB c a))), .dat (LL (linesN c sh)), .dat (I (sizeB c)), .dat (I (i : Int)), .dat (LL f), .dat (LI (st.map fun (k : Nat) => (k : Int))), .dat (LI ((q :: qs).map fun (k : Nat) => (k : Int))), .own ((nvK c.p f st (sizeB c) q i).map PyData.int), .dat (I ((st[i] : Nat) : Int))] _ _
    have rr := S.mx.row (k := i) (by omega)
    have er : en f i q = (f.getD i []).getD q 0 := rfl
    refine w_one (w_put 9 st[i] rfl (d := I ((0 - en f i q) % c.p)) (modp (by omega) (e_int T.n_int (sub c_int (e_ixL (at_map (f := PyData.int) (k := q) (get_of (by rw [rr.2.1]; exact hql) 0)) (e_ixL (at_map (f := LI) (k := i) rr.1) (v 6 rfl) (v 5 rfl)) (e_ixL (d := I (q : Int)) (at_nat (k := 0) rfl) (v 8 rfl) c_int)))) (e_ixT (i := 0) rfl (v 0 rfl) c_int)) (v 10 rfl) rfl (by rw [List.length_map, nvK_len]; omega) ?_)
    refine ⟨.dat (I (i : Int)), .dat (I ((st[i] : Nat) : Int)), ?_⟩
    have e2 : nvK c.p f st (sizeB c) q (i + 1) = (nvK c.p f st (sizeB c) q i).set st[i] ((0 - en f i q) % c.p) := by
      show (nvK c.p f st (sizeB c) q i).set (st.getD i 0) ((0 - en f i q) % c.p) = _
      rw [getD_eq _ _ _ hi]
    rw [e2, List.map_set]
    rfl
  rintro ρ' ⟨s5, s10, rfl⟩
  rw [enumD_len, List.length_map, List.length_map]
  show WS _ _ [.dat (plD c), .dat (LI (sh.map fun (k : Nat) => (k : Int))), .dat (.list ((List.range c.n).map fun a => LL (makB c a))), .dat (LL (linesN c sh)), .dat (I (sizeB c)), s5, .dat (LL f), .dat (LI (st.map fun (k : Nat) => (k : Int))), .dat (LI ((q :: qs).map fun (k : Nat) => (k : Int))), .own ((nvK c.p f st (sizeB c) q st.length).map PyData.int), s10] _ _
  refine w_frz 9 rfl (.inl rfl) ?_
  exact w_one (w_ret (e_tupL T.n_tuple (v 9 rfl)) rfl)
end
end Lm
set_option maxRecDepth 100000
set_option maxHeartbeats 4000000
/-! A body that ends by raise InvalidShelves(None). -/
namespace Lm
open PySem PySem.Spec PyProof.Rows L2 Evl
abbrev xdN : HO := .xd [("index", V.non)]
/-- from the state that ρ tells: such an exception is wished for -/
def tR (K : PySem.W.Frag) (C : Addr) (E : XK) (ρ : En) : TS := fun _ σ H => ∃ F, Sd K σ F H ρ ∧ ∀ a F' H', Gr F H F' H' → H a = none → H' a = some xdN → E (.ref C) (some a) H'
def SpR (K : PySem.W.Frag) (C : Addr) (R : List D → Prop) : Sp := fun vs H _ E => ∃ ds F, R ds ∧ Ex F H ∧ DpAll K F vs ds ∧ ∀ a F' H', Gr F H F' H' → H a = none → H' a = some xdN → E (.ref C) (some a) H'
section
variable {X : Cx} {C fI cc cd : Addr} {E : XK} {ρ : En}
theorem r_raise {p pc pos pos' : Pos} {k : Nat} (F : ExF X.prog X.K X.mg C fI cc cd) (hr : Room 2 X.A) (hc : X.calm = true) (tk : Takes X (fun cls d _ H => E cls d H)) (hg : Gl X "InvalidShelves" := by rfl)
    (he : starEach (.Constant .none k pc :: []) X.env = (false, eval (.Constant .none k pc) X.env) :: starEach [] X.env := by rfl) : PS X (.Raise (some (.Call (.Name "InvalidShelves" p) [.Constant .none k pc] [] pos)) none pos') (tR X.K C E ρ) := by
  obtain ⟨fd, G, B⟩ := init_ok (w := X.w) (base := X.base) F 0
  refine weakS (ps_raise hc tk (pmk_oex (ds := []) (dvs := []) F.T F.find F.tyI G hr B .nil pass0 hg F.glo (a_cons (ρ := ρ) c_non a_nil he) (he := he))) fun D σ H ⟨Fz, S, q⟩ => ⟨Fz, S, fun vs F' H' g hv => ?_⟩
  cases hv with
  | cons h1 h2 =>
  cases h2
  cases dp_non h1
  refine ⟨by simp, fun a ha => ⟨a, rfl, upd_same, fun dx n1 n2 => ⟨rfl, dx, [("index", .non)], upd_same, ?_, ?_, ?_⟩⟩⟩
  · rw [upd_ne n2, upd_same]
  · rwa [upd_ne n2] at n1
  · have hd : H' dx = none := by rwa [upd_ne n2] at n1
    have e : upd (del (upd (upd (upd H' a (exo a C none)) dx (exd dx [("index", V.non)])) a (exo a C (some dx))) a) dx xdN = upd H' dx xdN := by
      funext b
      by_cases hb : b = dx
      · rw [hb, upd_same, upd_same]
      · rw [upd_ne hb, upd_ne hb]
        by_cases hb2 : b = a
        · rw [hb2, del_same, ha]
        · rw [del_ne hb2, upd_ne hb2, upd_ne hb, upd_ne hb2]
    rw [e]
    exact q dx F' _ (g.trans (Gr.lay g.sub hd)) (none_of g.h hd) upd_same
theorem r_first {st : Stmt} {rest : List Stmt} (h : PS X st (tR X.K C E ρ)) : PSs X (st :: rest) (tR X.K C E ρ) :=
  weakSs (pss_cons h (u := fun _ _ _ => False) ⟨fun _ _ _ _ _ _ z => z.elim⟩) fun _ _ _ q => q
theorem r_if {t : Expr} {a b : List Stmt} {pos : Pos} (ht : DT X ρ t true) (ha : PSs X a (tR X.K C E ρ)) : PS X (.If t a b pos) (tR X.K C E ρ) :=
  weakS (ps_if (u := fun _ _ _ => False) ht ha ⟨fun _ _ _ _ _ _ z => z.elim⟩) fun D σ H ⟨F, S, q⟩ => ⟨F, S, fun F' H' g => iteT ⟨F', S.mono g, fun a F2 H2 g2 n e => q a F2 H2 (g.trans g2) (none_of g.h n) e⟩⟩
theorem r_cons {st : Stmt} {rest : List Stmt} (h0 : ∀ (i : Nat) (es : List D), ρ[i]? ≠ some (Slot.own es)) (h : W1 X none ρ st { nx := fun ρ' => PSs X rest (tR X.K C E ρ'), rt := fun _ _ => False }) : PSs X (st :: rest) (tR X.K C E ρ) := by
  refine ⟨fun pins s σ H D I q => ?_⟩
  obtain ⟨F, S, q⟩ := q
  refine (pss_cons (h ⟨F, H, none⟩ rfl) (u := fun _ σ H => ∃ ρ', PSs X rest (tR X.K C E ρ') ∧ tR X.K C E ρ' D σ H) ⟨fun pins s σ H D' I ⟨ρ', hw, q⟩ => hw.run pins s σ H D' I q⟩).run pins s σ H D I ?_
  refine ⟨F, ⟨S, Ex.refl _, fun b o h => .inr h, fun b h => h, fun b h1 h2 => absurd h1 h2, fun i es a h => (h0 i es h).elim, fun a h => by cases h⟩, ⟨fun σ' F' H' ρ' hw a => ⟨ρ', hw, F', a.s, fun x F2 H2 g2 n e => ?_⟩, fun _ _ _ _ _ _ h => h.elim, fun _ _ _ _ h => h.elim, fun _ _ _ _ h => h.elim, fun _ _ _ _ _ _ _ h => h.elim⟩⟩
  exact q x F2 H2 (Gr.trans ⟨a.c.f, fun b o hb => (a.c.kept b o hb).resolve_left (fun z => by cases z), a.s.sub, a.c.new⟩ g2) (a.c.there _ n) e
/-- f(..) as a statement, f a def that raises so -/
theorem r_call {e : Expr} {l : List Expr} {x : Str} {p pos pos' : Pos} {ds : List D} {k : Nat} {ps : List Str} {R : List D → Prop} (G : Def X.prog X.w X.K X.mg X.base (L2.CX X.prog X.w) x k ps (SpR X.K C R)) (tk : Takes X (fun cls d _ H => E cls d H)) (hr : Room k X.A) (hR : R ds) (ha : DA X ρ (e :: l) ds)
    (hg : Gl X x := by rfl) (hdb : (x == ("__debug__" : Str)) = false := by decide) (he : starEach (e :: l) X.env = (false, eval e X.env) :: starEach l X.env := by rfl) (hpl : (backTo pos (starEach l X.env)).any (·.1) = false := by rfl)
    (hs : swapsWith (.Call (.Name x p) (e :: l) [] pos) none pos'.line X.env = pure false := by rfl) : PS X (.Expr (.Call (.Name x p) (e :: l) [] pos) pos') (tR X.K C E ρ) := by
  obtain ⟨f, fd, hm, hk, hb, G⟩ := G
  refine weakS (ps_expr (pe_call G hr hg hm hk hb .nil (passes_call tk fun _ _ _ _ h => h) ha hdb he hpl) hs) fun D σ H ⟨F, S, q⟩ => ⟨F, S, fun vs F' H' g hv => ?_⟩
  show SpR X.K C R (vs ++ []) H' _ E
  rw [List.append_nil]
  exact ⟨ds, F', hR, g.sub, hv, fun a F2 H2 g2 n e => q a F2 H2 (g.trans g2) (none_of g.h n) e⟩
end
section
variable {P : Program} {w : World} {K : PySem.W.Frag} {mg : Str → Option Value} {base : Heap} {x : Str} {st : Stmt} {f : Addr} {fd : FuncData} {N ps : List Str} {k : Nat} {C fI cc cd : Addr}
theorem rais_ok {R : List D → Prop} (Fd : FunD K x x (defArgs st) (defBody st) (defScope st) [] [] f fd) (S : FnScope N ps (defScope st)) (hl : ∀ ds, R ds → ds.length = ps.length)
    (hb : ∀ (cdv : Value) (A : Around) (outer : List Env) (s : Shared) (H : Hp) (E : XK) (ds : List D), Room k (A.deeper (envOfC x (defScope st) s.heap.objs.size f cdv)) → R ds → Takes (cxOf (L2.CX P w) P w K mg base N x (defScope st) f cdv A outer s H E) (fun cls d _ H => E cls d H) →
      PSs (cxOf (L2.CX P w) P w K mg base N x (defScope st) f cdv A outer s H E) (defBody st) (tR K C E (ds.map Slot.dat ++ List.replicate (N.length - ds.length) Slot.un))) :
    FnOk P w K mg base (L2.CX P w) (k + 1) f fd ps (SpR K C R) := by
  refine Fd.ok S (fun vs H Q E ⟨ds, F, hR, hs, hd, q⟩ => (dpa_len hd).trans (hl ds hR)) fun cdv A outer s H vs Q E hr ⟨ds, F, hR, hs, hd, q⟩ => ?_
  exact ⟨_, hb cdv A outer s H E ds hr hR (takes_of (X := cxOf (L2.CX P w) P w K mg base N x (defScope st) f cdv A outer s H E) rfl rfl rfl rfl), F, start_sd hs hd N, q⟩
def R_check_shelves_r (ds : List D) : Prop := ∃ (l : Int) (sh : List Nat) (n : Nat), ds = [TN sh, I l, .bool false, I n] ∧ (sh.length : Int) < l
theorem d_check_shelves_r (T : Txt K mg) (Z : ExF P K mg C fI cc cd) : Def P w K mg base (L2.CX P w) "check_shelves" 4 P_check_shelves (SpR K C R_check_shelves_r) := by
  obtain ⟨hm, fd, F⟩ := T.f_check_shelves
  refine mk_def hm F (rais_ok F sc_check_shelves (fun ds ⟨i, _, _, h, _⟩ => by rw [h]; rfl) fun cdv A outer s H E ds hr hR tk => ?_) (fun _ _ _ _ _ _ us hl => match us, hl with | [_, _, _, _], _ => rfl)
  obtain ⟨l, sh, n, rfl, h1⟩ := hR
  show PSs _ _ (tR K C E [.dat (TN sh), .dat (I l), .dat (.bool false), .dat (I n), .un])
  refine r_first (r_if (t_not (p := false) (t_val (e_call (d_are_so_many T) (hr.mono (by decide)) ⟨l, sh, rfl, (by simp; omega)⟩ (a_cons (v 0 rfl) (a_cons (v 1 rfl) (a_cons (v 2 rfl) a_nil)))))) (r_first ?_))
  exact r_raise Z (hr.mono (by decide)) rfl tk
def R_read_sure_r (ds : List D) : Prop := ∃ (c : Pl) (e : Nat) (sh : List Nat) (pcs : List (List Int)), ds = [plD c, I e, TN sh, TR pcs] ∧ (c.Ok ∧ e ≤ 2 ∧ sh.length < c.k + 2 * e)
theorem d_read_sure_r (T : Txt K mg) (Z : ExF P K mg C fI cc cd) : Def P w K mg base (L2.CX P w) "read_sure" 10 P_read_sure (SpR K C R_read_sure_r) := by
  obtain ⟨hm, fd, F⟩ := T.f_read_sure
  refine mk_def hm F (rais_ok F sc_read_sure (fun ds ⟨i, _, _, _, h, _⟩ => by rw [h]; rfl) fun cdv A outer s H E ds hr hR tk => ?_) (fun _ _ _ _ _ _ us hl => match us, hl with | [_, _, _, _], _ => rfl)
  obtain ⟨c, e, sh, pcs, rfl, hc, he, hl⟩ := hR
  show PSs _ _ (tR K C E [.dat (plD c), .dat (I e), .dat (TN sh), .dat (TR pcs), .un])
  have no : ∀ (i : Nat) (es : List D), ([.dat (plD c), .dat (I e), .dat (TN sh), .dat (TR pcs), .un] : En)[i]? ≠ some (Slot.own es) := fun i es h => by
    rcases i with _ | _ | _ | _ | _ | i <;> first | cases h | simp at h
  refine r_cons no (w_exp (e_call (d_check_scheme T) (hr.mono (by decide)) ⟨c, rfl, hc, rfl⟩ (a_cons (v 0 rfl) a_nil)) ?_)
  refine r_cons no (w_exp (e_call (d_check_wrong T) (hr.mono (by decide)) ⟨e, rfl, by omega, rfl⟩ (a_cons (v 1 rfl) a_nil)) ?_)
  exact r_first (r_call (d_check_shelves_r T Z) tk (hr.mono (by decide)) ⟨(c.k : Int) + 2 * (e : Int), sh, c.n, rfl, by omega⟩ (a_cons (v 2 rfl) (a_cons (add (e_ixT (i := 3) rfl (v 0 rfl) c_int) (mul (cm_l (by omega)) c_int (v 1 rfl))) (a_cons c_bl (a_cons (e_ixT (i := 2) rfl (v 0 rfl) c_int) a_nil)))))
def R_law_is_refused (ds : List D) (d : D) : Prop := R_read_sure_r ds ∧ d = .bool true
theorem d_law_is_refused (T : Txt K mg) (Z : ExF P K mg C fI cc cd) : Def P w K mg base CX0 "_law_is_refused" 11 P_law_is_refused (SpP K R_law_is_refused) := by
  obtain ⟨hm, fd, F⟩ := T.f_law_is_refused
  refine mk_def hm F (F.ok sc_law_is_refused (fun vs H Q E ⟨ds, d, F, ⟨⟨_, _, _, _, h, _⟩, _⟩, _, hd, _⟩ => (dpa_len hd).trans (by rw [h]; rfl)) fun cdv A outer s H vs Q E hr ⟨ds, d, Fz, ⟨⟨c, e, sh, pcs, hds, hR⟩, hdd⟩, hs, hd, q⟩ => ?_) (fun _ _ _ _ _ _ us hl => match us, hl with | [_, _, _, _], _ => rfl)
  subst hds
  subst hdd
  obtain ⟨f2, fd2, hm2, hk2, hb2, G⟩ := d_read_sure_r (w := w) (base := base) T Z
  have nd := sc_law_is_refused.nd
  refine ⟨_, pss_cons (ps_try_as (i := 4) (tb := fun W D σ H => ∃ F, Sd K σ F H [.dat (plD c), .dat (I e), .dat (TN sh), .dat (TR pcs), .un] ∧ ∀ a F' H', Gr F H F' H' → H a = none → H' a = some xdN → W (.ref C) (some a) σ H') (ts := fun a cls d => tRet (tIsN (tXf a cls d C "index" (tVar 4)))) (Wout := fun _ _ _ _ => False)
    rfl rfl nd rfl rfl ⟨rfl, by decide, .inl Z.glo⟩ takes0 (fun W pn xe tk _ => ?_) (fun a oe cls d pn hz hf => ?_)) (u := fun _ _ _ => False) ⟨fun _ _ _ _ _ _ z => z.elim⟩, ?_⟩
  · refine weakSs (pss_one (ps_expr (pe_callS G (hr.mono (by decide)) rfl hm2 hk2 hb2 (fun σ => passAt tk σ) (a_cons (ρ := [.dat (plD c), .dat (I e), .dat (TN sh), .dat (TR pcs), .un]) (v 0 rfl) (a_cons (v 1 rfl) (a_cons (v 2 rfl) (a_cons (v 3 rfl) a_nil))))))) fun D σ H ⟨F, S, q⟩ => ⟨F, S, fun vs F' H' g hv => ?_⟩
    exact ⟨_, F', ⟨c, e, sh, pcs, rfl, hR⟩, g.sub, hv, fun a F2 H2 g2 n e => q a F2 H2 (g.trans g2) (none_of g.h n) e⟩
  · exact pss_one (ps_ret (pe_cmp (pc_isN (pe_xf Z.xf Z.idx hz hf (pe_var (i := 4) rfl (.inl rfl))))))
  · refine ⟨Fz, start_sd hs hd N_law_is_refused, fun a F' H' g n e => ⟨true, PySem.W.exm_ref Z.xf.exC Z.xf.hdC Z.T.tyC Z.subC, fun _ b hb => ?_, fun z => by cases z⟩⟩
    have lv : vs.length = 4 := dpa_len hd
    have ls : (L2.start N_law_is_refused vs).length = 5 := by unfold L2.start; simp [lv]
    refine ⟨.ref b, List.getElem?_set_self (by rw [ls]; decide), rfl, rfl, a, [("index", .non)], .non, rfl, e, rfl, ?_⟩
    exact q (.bl true) F' H' g (.bl true)
end
end Lm
set_option maxRecDepth 100000
set_option maxHeartbeats 4000000
/-! repr of nested data. -/
namespace Lm
open PySem PySem.Spec PyProof.Rows L2 Evl
/-- data that repr shows -/
structure Shw (d : D) : Prop where
  s : d.showable = true
  n : d.hasDict = false
  l : d.shown.length ≤ sizeLine
  dp : d.depth ≤ 60
  k : isDisplay d = true ∨ d = .none
def rRepr (K : PySem.W.Frag) : List V → Hp → VK → Prop := fun xs H Q => ∃ x d, xs = [x] ∧ Dp K H x d ∧ Shw d ∧ Q (.str d.shown) H
theorem call_rp {X : Cx} (hg : X.A.guards = some []) (hu : X.A.units + 64 < cLine) : CallR X (.builtin "repr") (rRepr X.K) := by
  intro pins s σ H xs us Q I r h
  obtain ⟨x, d, rfl, hd, hs, q⟩ := h
  obtain ⟨u, rfl, rx⟩ := vals1 r
  obtain ⟨as, r1⟩ := Dp.reads I d x u hd rx
  rcases hs.k with hk | hk
  · obtain ⟨a, rfl⟩ := isRef_of_reads r1 hk
    have := hs.dp
    exact repr_of_reads' r1 hs.s (PyData.noDict_hsm hs.n) hg (by omega) (fun _ _ e => e) (fun h' u tk hk => ⟨.str _, H, I.kept hk, ⟨_, rfl⟩, q⟩) hs.l
  · subst hk
    cases r1
    exact PySem.P.repr_of_none ⟨.str _, H, I.tok _, ⟨_, rfl⟩, q⟩
theorem own_body {X : Cx} {N : List Str} {body : List Stmt} {a : Addr} {w0 ds : List D} {ws vr : List V} {F H : Hp} {Φ : List D → D → Prop} {Q : VK} (hs : Ex F H) (h1 : H a = some (HO.lst ws)) (h2 : F a = none) (h3 : DpAll X.K F ws w0) (hd : DpAll X.K F vr ds)
    (hb : WS X.nox (some a) (.own w0 :: (ds.map Slot.dat ++ List.replicate (N.length - (ds.length + 1)) Slot.un)) body { nx := fun _ => False, rt := fun ρ d => ∃ w', ρ[0]? = some (Slot.own w') ∧ Φ w' d })
    (q : ∀ v F' H' ws' w' d, Φ w' d → Ex F F' → Ex F' H' → (∀ b o, H b = some o → b = a ∨ H' b = some o) → (∀ b, F b = none → F' b ≠ none → H b = none) → F' a = none → H' a = some (HO.lst ws') → DpAll X.K F' ws' w' → Dp X.K F' v d → Q v H') :
    ∃ t, PSs X body t ∧ t { nx := fun _ H' => Q .non H', rt := Q } (L2.start N (.ref a :: vr)) H := by
  have S0 := start_own hs h1 h2 h3 hd N
  refine ⟨_, (hb ⟨F, H, some a⟩ rfl).nox, F, ⟨S0, Ex.refl _, fun b o h => .inr h, fun b h => h, fun b h1 h2 => absurd h1 h2, fun i es b hi hb => ?_, fun b hb => ?_⟩, ⟨fun _ _ _ _ h => h.elim, fun v σ F' H' ρ d ⟨w', e1, hΦ⟩ A' hv => ?_, fun _ _ _ _ h _ => h.elim, fun _ _ _ _ h _ => h.elim, fun _ _ _ _ _ _ _ h => h.elim⟩⟩
  · cases i with
    | zero =>
      have e : (L2.start N (V.ref a :: vr))[0]? = some (some (V.ref a)) := rfl
      have hb' : (L2.start N (V.ref a :: vr))[0]? = some (some (V.ref b)) := hb
      rw [e] at hb'
      cases hb'
      exact .inl rfl
    | succ i =>
      have hi' : (ds.map Slot.dat ++ List.replicate (N.length - (ds.length + 1)) Slot.un)[i]? = some (Slot.own es) := hi
      exact (no_own hi').elim
  · cases hb
    exact ⟨rfl, (fun z => by rw [h1] at z; cases z), h2, w0, rfl⟩
  · obtain ⟨g1, g2, g3, g4⟩ := A'.c.par a rfl
    obtain ⟨q', ws', r1, r2, r3, r4⟩ := A'.s.own 0 w' e1
    rw [g1] at r1
    cases r1
    exact q v F' H' ws' w' d hΦ A'.c.f A'.s.sub (fun b o hb => (A'.c.kept b o hb).imp_left fun z => (Option.some.inj z).symm) A'.c.new g3 r2 r4 hv
/-! ### defs that are called where no repr is under way -/
structure FnG (P : Program) (w : World) (K : PySem.W.Frag) (mg : Str → Option Value) (base : Heap) (k : Nat) (f : Addr) (fd : FuncData) (ps : List Str) (sp : Sp) : Prop where
  len : ∀ vs H Q E, sp vs H Q E → vs.length = ps.length
  run : ∀ (A : Around) (outer : List Env) (s : Shared) (H : Hp) (args : Args) (us : List Value) (vs : List V) (Q : VK) (E : XK), A.guards = some [] → Room k A → Env0 P w K mg base A outer s H → BindsTo s fd args (ps.zip us) → Vals vs us → sp vs H Q E →
    codeAny (model P w) A (.call (.ref f) args) (CR CX0 outer P w H s Q E) s
def DefG (P : Program) (w : World) (K : PySem.W.Frag) (mg : Str → Option Value) (base : Heap) (x : Str) (k : Nat) (ps : List Str) (sp : Sp) : Prop :=
  ∃ f fd, mg x = some (.ref f) ∧ PySem.W.keepIn K (.ref f) = true ∧ Binds K fd ps [] ∧ FnG P w K mg base k f fd ps sp
section
variable {P : Program} {w : World} {K : PySem.W.Frag} {mg : Str → Option Value} {base : Heap} {x : Str} {st : Stmt} {f : Addr} {fd : FuncData} {N ps : List Str} {k : Nat} {sp : Sp}
theorem g_of (Fd : FunD K x x (defArgs st) (defBody st) (defScope st) [] [] f fd) (S : FnScope N ps (defScope st)) (len : ∀ vs H Q E, sp vs H Q E → vs.length = ps.length)
    (hbody : ∀ (cdv : Value) (A : Around) (outer : List Env) (s : Shared) (H : Hp) (vs : List V) (Q : VK) (E : XK), A.guards = some [] → Room k (A.deeper (envOfC x (defScope st) s.heap.objs.size f cdv)) → sp vs H Q E →
      ∃ t, PSs (cxOf CX0 P w K mg base N x (defScope st) f cdv A outer s H E) (defBody st) t ∧ t { nx := fun _ H' => Q .non H', rt := Q } (L2.start N vs) H) : FnG P w K mg base (k + 1) f fd ps sp := by
  obtain ⟨oc, od, dV, kV, doc, pm, an, cdv, ct, osl, rfl, lk, hcd, _, _⟩ := Fd.ex
  refine ⟨len, fun A outer s H args us vs Q E hg hr e0 hb r hsp => ?_⟩
  have kin : K.In s.heap := e0.mod.kin.keeps fun b o e => (e0.bs b o e).1
  have bnd : ∀ y ∈ ps.zip us, (defScope st).names.lookup y.1 = some .local ∨ ((defScope st).names.lookup y.1 = some .cell ∧ ((cellsFrom (s.heap.objs.size + 1) (defScope st).names []).lookup y.1).isSome = true) := fun y hy =>
    (S.par y.1 (List.of_mem_zip (show (y.1, y.2) ∈ ps.zip us from hy)).1).imp id fun q => ⟨q, PySem.W.cellsFrom_some _ _ _ (.inl q)⟩
  refine codeAny_call_function hr.depth (kin _ _ lk) rfl S.co S.gen rfl (PySem.W.codeRec_of kin hcd) (hb _ _ _ _ (wpAny_newFunctionEnv_cells S.kind bnd fun env he s1 z => ?_))
  subst he
  refine ⟨(e0.mod.nolimit.keeps fun b o e => (e0.bs b o e).1).keeps z.toInCall.keep, codeAny_func ?_⟩
  obtain ⟨t, ht, hq⟩ := hbody cdv A outer s H vs Q E hg (hr.deeper _) hsp
  refine wpAny_mono (ht.run [] s1 _ H _ (inv_start S hr.hd e0 (len _ _ _ _ hsp) r z) hq) (fun fl s' hs => ?_) fun e s' hs => hs
  cases fl with
  | ret u =>
    obtain ⟨v, σ', H', J, rv, q⟩ := hs
    exact ⟨v, H', J.os, J.bare, J.base, J.hok, rv, q⟩
  | next =>
    obtain ⟨σ', H', J, q⟩ := hs
    exact ⟨.non, H', J.os, J.bare, J.base, J.hok, rfl, q⟩
  | brk =>
    obtain ⟨_, _, _, q⟩ := hs
    exact q.elim
  | cont =>
    obtain ⟨_, _, _, q⟩ := hs
    exact q.elim
theorem mk_defG (h : mg x = some (.ref f)) (Fd : FunD K x x (defArgs st) (defBody st) (defScope st) [] [] f fd) (G : FnG P w K mg base k f fd ps sp)
    (b : ∀ (kV doc pm : Value) (an : Option Addr) (cdv ct : Value) (us : List Value), us.length = ps.length → bindArgs (PySem.W.fnOf x x (defArgs st) (defBody st) (defScope st) .none kV doc pm an cdv ct) ⟨us, []⟩ = pure (ps.zip us)) : DefG P w K mg base x k ps sp :=
  ⟨f, fd, h, Fd.kp, Fd.bindsN b, G⟩
theorem own_okG {R : List D → List D → (List D → D → Prop) → Prop} (Fd : FunD K x x (defArgs st) (defBody st) (defScope st) [] [] f fd) (S : FnScope N ps (defScope st)) (hl : ∀ w ds Φ, R w ds Φ → ds.length + 1 = ps.length)
    (hb : ∀ (cdv : Value) (A : Around) (outer : List Env) (s : Shared) (H : Hp) (E : XK) (a : Addr) (w0 ds : List D) (Φ : List D → D → Prop), A.guards = some [] → Room k (A.deeper (envOfC x (defScope st) s.heap.objs.size f cdv)) → R w0 ds Φ →
      WS (cxOf CX0 P w K mg base N x (defScope st) f cdv A outer s H E).nox (some a) (.own w0 :: (ds.map Slot.dat ++ List.replicate (N.length - (ds.length + 1)) Slot.un)) (defBody st) { nx := fun _ => False, rt := fun ρ d => ∃ w', ρ[0]? = some (Slot.own w') ∧ Φ w' d }) :
    FnG P w K mg base (k + 1) f fd ps (SpW K R) := by
  refine g_of Fd S (fun vs H Q E h => ?_) fun cdv A outer s H vs Q E hg hr ⟨a, vr, ws, w0, ds, F, Φ, e, h1, h2, hs, h3, hd, hR, q⟩ => ?_
  · obtain ⟨a, vr, ws, w0, ds, F, Φ, e, h1, h2, hs, h3, hd, hR, q⟩ := h
    rw [e, List.length_cons, dpa_len hd]
    exact hl _ _ _ hR
  subst e
  exact own_body hs h1 h2 h3 hd (hb cdv A outer s H E a w0 ds Φ hg hr hR) q
theorem pure_okG {R : List D → D → Prop} (Fd : FunD K x x (defArgs st) (defBody st) (defScope st) [] [] f fd) (S : FnScope N ps (defScope st)) (hl : ∀ ds d, R ds d → ds.length = ps.length)
    (hb : ∀ (cdv : Value) (A : Around) (outer : List Env) (s : Shared) (H : Hp) (E : XK) (ds : List D) (d : D), A.guards = some [] → Room k (A.deeper (envOfC x (defScope st) s.heap.objs.size f cdv)) → R ds d →
      WS (cxOf CX0 P w K mg base N x (defScope st) f cdv A outer s H E).nox none (ds.map Slot.dat ++ List.replicate (N.length - ds.length) Slot.un) (defBody st) { nx := fun _ => False, rt := fun _ e => e = d }) :
    FnG P w K mg base (k + 1) f fd ps (SpP K R) := by
  refine g_of Fd S (fun vs H Q E ⟨ds, d, F, hR, hs, hd, q⟩ => (dpa_len hd).trans (hl ds d hR)) fun cdv A outer s H vs Q E hg hr ⟨ds, d, F, hR, hs, hd, q⟩ => ?_
  refine ⟨_, ((hb cdv A outer s H E ds d hg hr hR) ⟨F, H, none⟩ rfl).nox, F, ⟨start_sd hs hd N, Ex.refl _, fun b o h => .inr h, fun b h => h, fun b h1 h2 => absurd h1 h2, fun i es a h => (no_own h).elim, fun a h => by cases h⟩, ⟨fun _ _ _ _ h => h.elim, fun v σ F' H' ρ d' h a hv => ?_, fun _ _ _ _ h _ => h.elim, fun _ _ _ _ h _ => h.elim, fun _ _ _ _ _ _ _ h => h.elim⟩⟩
  have e : d' = d := h
  subst e
  exact q v F' H' ⟨a.c.f, fun b o hb => (a.c.kept b o hb).resolve_left (fun z => by cases z), a.s.sub, a.c.new⟩ hv
end
section
variable {X : Cx} {x : Str} {k : Nat} {ps : List Str} {sp : Sp}
theorem DefG.cb (G : DefG X.prog X.w X.K X.mg X.base x k ps sp) (hg : X.A.guards = some []) (hr : Room k X.A) : Cb X x sp := by
  obtain ⟨f, fd, hm, hk, hb, G⟩ := G
  intro e l t p pos ha hgl hdb he hpl
  refine ⟨fun pins s σ H Q I h => ?_⟩
  refine wpAny_Call_Name_kw (ld_glob I hgl hm (PySem.W.callWith_K (h₀ := X.base) I.ok.mod.kin hk (thn (ha.run pos pins s σ H _ I h) fun us s1 ⟨vs, H1, I1, r, q⟩ => ⟨I1.kIn, ?_⟩) he hpl) hdb)
  have q : sp (vs ++ []) H1 Q E0 := q
  rw [List.append_nil] at q
  have b := hb s1 us I1.kIn (by rw [List.append_nil, ← r.length]; exact G.len _ _ _ _ q)
  rw [List.append_nil] at b
  refine wpAny_call (codeAny_mono (G.run X.A X.stack s1 H1 ⟨us, []⟩ us vs Q E0 hg hr I1.env0 b r q) fun z s' hq => ?_)
  cases z with
  | error e => exact hq.elim
  | ok fl =>
    cases fl with
    | ret u => exact I1.after hq
    | next => exact hq.elim
    | brk => exact hq.elim
    | cont => exact hq.elim
/-- repr(a) -/
theorem e_repr {ρ : En} {a : Expr} {d : D} {p pos : Pos} (hgd : X.A.guards = some []) (hu : X.A.units + 64 < cLine) (hs : Shw d) (hm : X.mg "repr" = none) (h : DE X ρ a d) (hg : Gl X "repr" := by rfl) (he : starEach [a] X.env = (false, eval a X.env) :: starEach [] X.env := by rfl) : DE X ρ (.Call (.Name "repr" p) [a] [] pos) (.str d.shown) :=
  e_callB (call_rp hgd hu) (fun vs F H s hv Q q => by
    obtain ⟨v, rfl, h⟩ := dpa1 hv
    exact ⟨v, d, rfl, dp_ex s h, hs, q _ F H (Gr.refl s) (.str _)⟩) hm (by decide +kernel) (a_cons h a_nil he) hg (he := he)
end
end Lm
set_option maxRecDepth 100000
set_option maxHeartbeats 4000000
/-! Plain mathematics: rows of powers tell a vector. -/
namespace Lm
theorem nz_cancel {p x t : Int} (hp : Pk p) (hI : Iv p) (hx : ¬ Eqm p x 0) (h : Eqm p (x * t) 0) : Eqm p t 0 := by
  have hp1 := hp.1
  have n0 : x % p ≠ 0 := fun z => hx (Eqm.z z)
  have b := md_ok hp x
  obtain ⟨y, _, _, _, hy⟩ := hI (x % p) (by omega) b.2
  have h1 : Eqm p (y * (x % p)) 1 := .of_eq (by rw [hy, Int.emod_eq_of_lt (by decide) (by omega)])
  have h2 : Eqm p (y * x) 1 := ((Eqm.refl p y).mul (Eqm.of_md x)).symm.trans h1
  have h3 : Eqm p (y * x * t) (1 * t) := h2.mul (.refl _ _)
  have h4 : Eqm p (y * (x * t)) (y * 0) := (Eqm.refl p y).mul h
  rw [Int.one_mul] at h3
  rw [← Int.mul_assoc, Int.mul_zero] at h4
  exact h3.symm.trans h4
theorem inj1 {p a : Int} (hp : Pk p) (hI : Iv p) (ha : ¬ Eqm p a 0) : Inj p 1 [[a]] := fun u hl h x hx => by
  match u, hl with
  | [v], _ =>
    have h0 := h [a] List.mem_cons_self
    rw [List.mem_singleton.mp hx]
    have e : dotR [a] [v] = a * v := by rw [dotR_cons, dotR_nil]; omega
    rw [e] at h0
    exact nz_cancel hp hI ha h0
theorem d2 (a b x y : Int) : dotR [a, b] [x, y] = a * x + b * y := by simp only [dotR_cons, dotR_nil]; omega
theorem d3 (a b c x y z : Int) : dotR [a, b, c] [x, y, z] = a * x + b * y + c * z := by simp only [dotR_cons, dotR_nil]; omega
theorem inj2 {p a0 a1 : Int} (hp : Pk p) (hI : Iv p) (hd : ¬ Eqm p (a0 - a1) 0) : Inj p 2 [[1, a0], [1, a1]] := fun u hl h x hx => by
  match u, hl with
  | [v, w], _ =>
    have h0 := h [1, a0] (by simp)
    have h1 := h [1, a1] (by simp)
    rw [d2] at h0 h1
    have hw : Eqm p w 0 := nz_cancel hp hI hd (by
      obtain ⟨s, h0⟩ := h0
      obtain ⟨t, h1⟩ := h1
      exact ⟨s - t, by grind⟩)
    have hv : Eqm p v 0 := by
      obtain ⟨s, h0⟩ := h0
      obtain ⟨t, hw⟩ := hw
      exact ⟨s - a0 * t, by grind⟩
    rcases List.mem_cons.mp hx with e | hx
    · rw [e]; exact hv
    · rw [List.mem_singleton.mp hx]; exact hw
theorem inj3 {p a0 a1 a2 b0 b1 b2 : Int} (hp : Pk p) (hI : Iv p) (e0 : Eqm p b0 (a0 * a0)) (e1 : Eqm p b1 (a1 * a1)) (e2 : Eqm p b2 (a2 * a2)) (h01 : ¬ Eqm p (a0 - a1) 0) (h02 : ¬ Eqm p (a0 - a2) 0) (h12 : ¬ Eqm p (a1 - a2) 0) :
    Inj p 3 [[1, a0, b0], [1, a1, b1], [1, a2, b2]] := fun u hl h x hx => by
  match u, hl with
  | [v, w, z], _ =>
    have h0 := h [1, a0, b0] (by simp)
    have h1 := h [1, a1, b1] (by simp)
    have h2 := h [1, a2, b2] (by simp)
    rw [d3] at h0 h1 h2
    obtain ⟨q0, e0⟩ := e0
    obtain ⟨q1, e1⟩ := e1
    obtain ⟨q2, e2⟩ := e2
    subst e0 e1 e2
    have k1 : Eqm p (w + (a0 + a1) * z) 0 := nz_cancel hp hI h01 (by
      obtain ⟨s, h0⟩ := h0
      obtain ⟨t, h1⟩ := h1
      exact ⟨s - t - q0 * z + q1 * z, by grind⟩)
    have k2 : Eqm p (w + (a0 + a2) * z) 0 := nz_cancel hp hI h02 (by
      obtain ⟨s, h0⟩ := h0
      obtain ⟨t, h2⟩ := h2
      exact ⟨s - t - q0 * z + q2 * z, by grind⟩)
    have hz : Eqm p z 0 := nz_cancel hp hI h12 (by
      obtain ⟨s, k1⟩ := k1
      obtain ⟨t, k2⟩ := k2
      exact ⟨s - t, by grind⟩)
    have hw : Eqm p w 0 := by
      obtain ⟨s, k1⟩ := k1
      obtain ⟨t, hz⟩ := hz
      exact ⟨s - (a0 + a1) * t, by grind⟩
    have hv : Eqm p v 0 := by
      obtain ⟨s, h0⟩ := h0
      obtain ⟨t, hz⟩ := hz
      obtain ⟨r, hw⟩ := hw
      exact ⟨s - a0 * r - (a0 * a0 + p * q0) * t, by grind⟩
    simp only [List.mem_cons, List.not_mem_nil, or_false] at hx
    rcases hx with e | e | e <;> rw [e] <;> assumption
end Lm
set_option maxRecDepth 100000
set_option maxHeartbeats 4000000
/-! The message told from k pieces: letters, shape by shape (printed by gen_dec.py). -/
namespace Lm
theorem md2 (p a b : Int) : Eqm p ((a % p - 1 * (b % p)) % p) (a - b) := (Eqm.of_md _).trans ((Eqm.of_md a).sub (by rw [Int.one_mul]; exact Eqm.of_md b))
theorem mxs {p : Int} {m : List Int} (hm : Rw p m) (L n : Nat) (f : List (List Int)) (h1 : f.length = n) (h2 : ∀ r ∈ f, r.length = L) (h3 : ∀ r ∈ f, ∀ x ∈ r, x ∈ m) : Mx p L n f := ⟨h1, fun r hr => ⟨h2 r hr, fun x hx => hm x (h3 r hr x hx)⟩⟩
theorem rw_nil {p : Int} : Rw p [] := fun x hx => by cases hx
theorem rw_cons {p x : Int} {r : List Int} (h1 : 0 ≤ x ∧ x < p) (h2 : Rw p r) : Rw p (x :: r) := fun y hy => (List.mem_cons.mp hy).elim (fun e => by rw [e]; exact h1) (h2 y)
theorem mx_nil {p : Int} {L : Nat} : Mx p L 0 [] := ⟨rfl, fun r hr => by cases hr⟩
theorem mx_cons {p : Int} {L n : Nat} {r : List Int} {f : List (List Int)} (h1 : r.length = L) (h2 : Rw p r) (h : Mx p L n f) : Mx p L (n + 1) (r :: f) := ⟨by rw [List.length_cons, h.1], fun x hx => (List.mem_cons.mp hx).elim (fun e => by rw [e]; exact ⟨h1, h2⟩) (h.2 x)⟩
def besX (p : Int) (k : Nat) (hd rights : List (List Int)) : List (List Int) := (stairsAt p (aug2 hd rights) k).1.map fun r => r.drop k
def lefX (p : Int) (k d : Nat) (ls pcs X : List (List Int)) : List (List Int) := (pcs.zip (mulB p (ls.map fun l => l.drop k) (flipB X (d - k)) k)).map fun q => lessB p (q.1.take k) q.2 1
def finX (k : Nat) (A B : List (List Int)) : List Int := (List.range k).flatMap fun r => ((A.getD r []).drop r ++ B.getD r []).map id
def letX (p : Int) (k d : Nat) (ls pcs : List (List Int)) : List Int :=
  finX k (besX p k (ls.map fun l => l.take k) (lefX p k d ls pcs (besX p k (ls.map fun l => l.take k) (pcs.map fun r => r.drop k)))) (besX p k (ls.map fun l => l.take k) (pcs.map fun r => r.drop k))
theorem letX_eq {p : Int} {k d : Nat} {ls pcs X A : List (List Int)} (h1 : besX p k (ls.map fun l => l.take k) (pcs.map fun r => r.drop k) = X) (h2 : besX p k (ls.map fun l => l.take k) (lefX p k d ls pcs X) = A) : letX p k d ls pcs = finX k A X := by
  unfold letX
  rw [h1, h2]
theorem let_eq (c : Pl) (sh : List Nat) (pcs : List (List Int)) : letB c sh pcs = letX c.p c.k c.d (sh.map (lineB c)) pcs := by
  unfold letB firB lefB takB besB letX finX lefX besX hdB tlB
  rw [List.map_map, List.map_map]
  rfl
theorem dl_11 {p : Int} {m0 : Int} (hp : Pk p) (hI : Iv p) (hJ : Inj p 1 [[1]]) (hl : Rw p [1]) (hm : Rw p [m0]) :
    letX p 1 1 [[1]] [[((1 + 0) * m0 + 0) % p]] = [m0] := by
  have hM : Mx p 1 1 [[1]] := mxs hl _ _ _ rfl (by simp) (by simp)
  have q1 : besX p 1 [[1]] [[]] = [[]] := by
    refine solve_eq (L2 := 0) hp hI hM (mx_cons rfl rw_nil mx_nil) hJ (mxs hm _ _ _ rfl (by simp) (by simp)) ?_
    intro i hi j hj
    exact absurd hj (Nat.not_lt_zero j)
  have q2 : besX p 1 [[1]] (lefX p 1 1 [[1]] [[((1 + 0) * m0 + 0) % p]] [[]]) = [[m0]] := by
    refine solve_eq (L2 := 1) hp hI hM (mx_cons rfl (rw_cons (md_ok hp _) rw_nil) mx_nil) hJ (mxs hm _ _ _ rfl (by simp) (by simp)) ?_
    intro i hi j hj
    obtain rfl : i = 0 := by omega
    obtain rfl : j = 0 := by omega
    exact Eqm.trans (show Eqm p (dotR [1] [m0]) (((1 + 0) * m0 + 0) - (0)) from ⟨0, by simp only [dotR_cons, dotR_nil]; grind⟩) (md2 p _ _).symm
  exact letX_eq (p := p) (k := 1) (d := 1) (ls := [[1]]) (pcs := [[((1 + 0) * m0 + 0) % p]]) (X := [[]]) (A := [[m0]]) q1 q2
theorem dl_12 {p : Int} {u0 m0 m1 : Int} (hp : Pk p) (hI : Iv p) (hJ : Inj p 1 [[1]]) (hl : Rw p [1, u0]) (hm : Rw p [m0, m1]) :
    letX p 1 2 [[1, u0]] [[((1 + 0) * m0 + ((u0 + 0) * m1 + 0)) % p, (0 * m0 + ((1 + 0) * m1 + 0)) % p]] = [m0, m1] := by
  have hM : Mx p 1 1 [[1]] := mxs hl _ _ _ rfl (by simp) (by simp)
  have q1 : besX p 1 [[1]] [[(0 * m0 + ((1 + 0) * m1 + 0)) % p]] = [[m1]] := by
    refine solve_eq (L2 := 1) hp hI hM (mx_cons rfl (rw_cons (md_ok hp _) rw_nil) mx_nil) hJ (mxs hm _ _ _ rfl (by simp) (by simp)) ?_
    intro i hi j hj
    obtain rfl : i = 0 := by omega
    obtain rfl : j = 0 := by omega
    exact Eqm.trans (show Eqm p (dotR [1] [m1]) (0 * m0 + ((1 + 0) * m1 + 0)) from ⟨0, by simp only [dotR_cons, dotR_nil]; grind⟩) (Eqm.of_md _).symm
  have q2 : besX p 1 [[1]] (lefX p 1 2 [[1, u0]] [[((1 + 0) * m0 + ((u0 + 0) * m1 + 0)) % p, (0 * m0 + ((1 + 0) * m1 + 0)) % p]] [[m1]]) = [[m0]] := by
    refine solve_eq (L2 := 1) hp hI hM (mx_cons rfl (rw_cons (md_ok hp _) rw_nil) mx_nil) hJ (mxs hm _ _ _ rfl (by simp) (by simp)) ?_
    intro i hi j hj
    obtain rfl : i = 0 := by omega
    obtain rfl : j = 0 := by omega
    exact Eqm.trans (show Eqm p (dotR [1] [m0]) (((1 + 0) * m0 + ((u0 + 0) * m1 + 0)) - (m1 * u0 + 0)) from ⟨0, by simp only [dotR_cons, dotR_nil]; grind⟩) (md2 p _ _).symm
  exact letX_eq (p := p) (k := 1) (d := 2) (ls := [[1, u0]]) (pcs := [[((1 + 0) * m0 + ((u0 + 0) * m1 + 0)) % p, (0 * m0 + ((1 + 0) * m1 + 0)) % p]]) (X := [[m1]]) (A := [[m0]]) q1 q2
theorem dl_22 {p : Int} {u0 u1 m0 m1 m2 : Int} (hp : Pk p) (hI : Iv p) (hJ : Inj p 2 [[1, u0], [1, u1]]) (hl : Rw p [1, u0, u1]) (hm : Rw p [m0, m1, m2]) :
    letX p 2 2 [[1, u0], [1, u1]] [[((1 + 0) * m0 + ((u0 + 0) * m1 + (0 * m2 + 0))) % p, (0 * m0 + ((1 + 0) * m1 + ((u0 + 0) * m2 + 0))) % p], [((1 + 0) * m0 + ((u1 + 0) * m1 + (0 * m2 + 0))) % p, (0 * m0 + ((1 + 0) * m1 + ((u1 + 0) * m2 + 0))) % p]] = [m0, m1, m2] := by
  have hM : Mx p 2 2 [[1, u0], [1, u1]] := mxs hl _ _ _ rfl (by simp) (by simp)
  have q1 : besX p 2 [[1, u0], [1, u1]] [[], []] = [[], []] := by
    refine solve_eq (L2 := 0) hp hI hM (mx_cons rfl rw_nil (mx_cons rfl rw_nil mx_nil)) hJ (mxs hm _ _ _ rfl (by simp) (by simp)) ?_
    intro i hi j hj
    exact absurd hj (Nat.not_lt_zero j)
  have q2 : besX p 2 [[1, u0], [1, u1]] (lefX p 2 2 [[1, u0], [1, u1]] [[((1 + 0) * m0 + ((u0 + 0) * m1 + (0 * m2 + 0))) % p, (0 * m0 + ((1 + 0) * m1 + ((u0 + 0) * m2 + 0))) % p], [((1 + 0) * m0 + ((u1 + 0) * m1 + (0 * m2 + 0))) % p, (0 * m0 + ((1 + 0) * m1 + ((u1 + 0) * m2 + 0))) % p]] [[], []]) = [[m0, m1], [m1, m2]] := by
    refine solve_eq (L2 := 2) hp hI hM (mx_cons rfl (rw_cons (md_ok hp _) (rw_cons (md_ok hp _) rw_nil)) (mx_cons rfl (rw_cons (md_ok hp _) (rw_cons (md_ok hp _) rw_nil)) mx_nil)) hJ (mxs hm _ _ _ rfl (by simp) (by simp)) ?_
    intro i hi j hj
    obtain rfl | rfl : i = 0 ∨ i = 1 := by omega
    · obtain rfl | rfl : j = 0 ∨ j = 1 := by omega
      · exact Eqm.trans (show Eqm p (dotR [1, u0] [m0, m1]) (((1 + 0) * m0 + ((u0 + 0) * m1 + (0 * m2 + 0))) - (0)) from ⟨0, by simp only [dotR_cons, dotR_nil]; grind⟩) (md2 p _ _).symm
      · exact Eqm.trans (show Eqm p (dotR [1, u0] [m1, m2]) ((0 * m0 + ((1 + 0) * m1 + ((u0 + 0) * m2 + 0))) - (0)) from ⟨0, by simp only [dotR_cons, dotR_nil]; grind⟩) (md2 p _ _).symm
    · obtain rfl | rfl : j = 0 ∨ j = 1 := by omega
      · exact Eqm.trans (show Eqm p (dotR [1, u1] [m0, m1]) (((1 + 0) * m0 + ((u1 + 0) * m1 + (0 * m2 + 0))) - (0)) from ⟨0, by simp only [dotR_cons, dotR_nil]; grind⟩) (md2 p _ _).symm
      · exact Eqm.trans (show Eqm p (dotR [1, u1] [m1, m2]) ((0 * m0 + ((1 + 0) * m1 + ((u1 + 0) * m2 + 0))) - (0)) from ⟨0, by simp only [dotR_cons, dotR_nil]; grind⟩) (md2 p _ _).symm
  exact letX_eq (p := p) (k := 2) (d := 2) (ls := [[1, u0], [1, u1]]) (pcs := [[((1 + 0) * m0 + ((u0 + 0) * m1 + (0 * m2 + 0))) % p, (0 * m0 + ((1 + 0) * m1 + ((u0 + 0) * m2 + 0))) % p], [((1 + 0) * m0 + ((u1 + 0) * m1 + (0 * m2 + 0))) % p, (0 * m0 + ((1 + 0) * m1 + ((u1 + 0) * m2 + 0))) % p]]) (X := [[], []]) (A := [[m0, m1], [m1, m2]]) q1 q2
theorem dl_23 {p : Int} {u0 v0 u1 v1 m0 m1 m2 m3 m4 : Int} (hp : Pk p) (hI : Iv p) (hJ : Inj p 2 [[1, u0], [1, u1]]) (hl : Rw p [1, u0, v0, u1, v1]) (hm : Rw p [m0, m1, m2, m3, m4]) :
    letX p 2 3 [[1, u0, v0], [1, u1, v1]] [[((1 + 0) * m0 + ((u0 + 0) * m1 + ((v0 + 0) * m2 + (0 * m3 + (0 * m4 + 0))))) % p, (0 * m0 + ((1 + 0) * m1 + (0 * m2 + ((u0 + 0) * m3 + ((v0 + 0) * m4 + 0))))) % p, (0 * m0 + (0 * m1 + ((1 + 0) * m2 + (0 * m3 + ((u0 + 0) * m4 + 0))))) % p], [((1 + 0) * m0 + ((u1 + 0) * m1 + ((v1 + 0) * m2 + (0 * m3 + (0 * m4 + 0))))) % p, (0 * m0 + ((1 + 0) * m1 + (0 * m2 + ((u1 + 0) * m3 + ((v1 + 0) * m4 + 0))))) % p, (0 * m0 + (0 * m1 + ((1 + 0) * m2 + (0 * m3 + ((u1 + 0) * m4 + 0))))) % p]] = [m0, m1, m2, m3, m4] := by
  have hM : Mx p 2 2 [[1, u0], [1, u1]] := mxs hl _ _ _ rfl (by simp) (by simp)
  have q1 : besX p 2 [[1, u0], [1, u1]] [[(0 * m0 + (0 * m1 + ((1 + 0) * m2 + (0 * m3 + ((u0 + 0) * m4 + 0))))) % p], [(0 * m0 + (0 * m1 + ((1 + 0) * m2 + (0 * m3 + ((u1 + 0) * m4 + 0))))) % p]] = [[m2], [m4]] := by
    refine solve_eq (L2 := 1) hp hI hM (mx_cons rfl (rw_cons (md_ok hp _) rw_nil) (mx_cons rfl (rw_cons (md_ok hp _) rw_nil) mx_nil)) hJ (mxs hm _ _ _ rfl (by simp) (by simp)) ?_
    intro i hi j hj
    obtain rfl | rfl : i = 0 ∨ i = 1 := by omega
    · obtain rfl : j = 0 := by omega
      exact Eqm.trans (show Eqm p (dotR [1, u0] [m2, m4]) (0 * m0 + (0 * m1 + ((1 + 0) * m2 + (0 * m3 + ((u0 + 0) * m4 + 0))))) from ⟨0, by simp only [dotR_cons, dotR_nil]; grind⟩) (Eqm.of_md _).symm
    · obtain rfl : j = 0 := by omega
      exact Eqm.trans (show Eqm p (dotR [1, u1] [m2, m4]) (0 * m0 + (0 * m1 + ((1 + 0) * m2 + (0 * m3 + ((u1 + 0) * m4 + 0))))) from ⟨0, by simp only [dotR_cons, dotR_nil]; grind⟩) (Eqm.of_md _).symm
  have q2 : besX p 2 [[1, u0], [1, u1]] (lefX p 2 3 [[1, u0, v0], [1, u1, v1]] [[((1 + 0) * m0 + ((u0 + 0) * m1 + ((v0 + 0) * m2 + (0 * m3 + (0 * m4 + 0))))) % p, (0 * m0 + ((1 + 0) * m1 + (0 * m2 + ((u0 + 0) * m3 + ((v0 + 0) * m4 + 0))))) % p, (0 * m0 + (0 * m1 + ((1 + 0) * m2 + (0 * m3 + ((u0 + 0) * m4 + 0))))) % p], [((1 + 0) * m0 + ((u1 + 0) * m1 + ((v1 + 0) * m2 + (0 * m3 + (0 * m4 + 0))))) % p, (0 * m0 + ((1 + 0) * m1 + (0 * m2 + ((u1 + 0) * m3 + ((v1 + 0) * m4 + 0))))) % p, (0 * m0 + (0 * m1 + ((1 + 0) * m2 + (0 * m3 + ((u1 + 0) * m4 + 0))))) % p]] [[m2], [m4]]) = [[m0, m1], [m1, m3]] := by
    refine solve_eq (L2 := 2) hp hI hM (mx_cons rfl (rw_cons (md_ok hp _) (rw_cons (md_ok hp _) rw_nil)) (mx_cons rfl (rw_cons (md_ok hp _) (rw_cons (md_ok hp _) rw_nil)) mx_nil)) hJ (mxs hm _ _ _ rfl (by simp) (by simp)) ?_
    intro i hi j hj
    obtain rfl | rfl : i = 0 ∨ i = 1 := by omega
    · obtain rfl | rfl : j = 0 ∨ j = 1 := by omega
      · exact Eqm.trans (show Eqm p (dotR [1, u0] [m0, m1]) (((1 + 0) * m0 + ((u0 + 0) * m1 + ((v0 + 0) * m2 + (0 * m3 + (0 * m4 + 0))))) - (m2 * v0 + 0)) from ⟨0, by simp only [dotR_cons, dotR_nil]; grind⟩) (md2 p _ _).symm
      · exact Eqm.trans (show Eqm p (dotR [1, u0] [m1, m3]) ((0 * m0 + ((1 + 0) * m1 + (0 * m2 + ((u0 + 0) * m3 + ((v0 + 0) * m4 + 0))))) - (m4 * v0 + 0)) from ⟨0, by simp only [dotR_cons, dotR_nil]; grind⟩) (md2 p _ _).symm
    · obtain rfl | rfl : j = 0 ∨ j = 1 := by omega
      · exact Eqm.trans (show Eqm p (dotR [1, u1] [m0, m1]) (((1 + 0) * m0 + ((u1 + 0) * m1 + ((v1 + 0) * m2 + (0 * m3 + (0 * m4 + 0))))) - (m2 * v1 + 0)) from ⟨0, by simp only [dotR_cons, dotR_nil]; grind⟩) (md2 p _ _).symm
      · exact Eqm.trans (show Eqm p (dotR [1, u1] [m1, m3]) ((0 * m0 + ((1 + 0) * m1 + (0 * m2 + ((u1 + 0) * m3 + ((v1 + 0) * m4 + 0))))) - (m4 * v1 + 0)) from ⟨0, by simp only [dotR_cons, dotR_nil]; grind⟩) (md2 p _ _).symm
  exact letX_eq (p := p) (k := 2) (d := 3) (ls := [[1, u0, v0], [1, u1, v1]]) (pcs := [[((1 + 0) * m0 + ((u0 + 0) * m1 + ((v0 + 0) * m2 + (0 * m3 + (0 * m4 + 0))))) % p, (0 * m0 + ((1 + 0) * m1 + (0 * m2 + ((u0 + 0) * m3 + ((v0 + 0) * m4 + 0))))) % p, (0 * m0 + (0 * m1 + ((1 + 0) * m2 + (0 * m3 + ((u0 + 0) * m4 + 0))))) % p], [((1 + 0) * m0 + ((u1 + 0) * m1 + ((v1 + 0) * m2 + (0 * m3 + (0 * m4 + 0))))) % p, (0 * m0 + ((1 + 0) * m1 + (0 * m2 + ((u1 + 0) * m3 + ((v1 + 0) * m4 + 0))))) % p, (0 * m0 + (0 * m1 + ((1 + 0) * m2 + (0 * m3 + ((u1 + 0) * m4 + 0))))) % p]]) (X := [[m2], [m4]]) (A := [[m0, m1], [m1, m3]]) q1 q2
theorem dl_33 {p : Int} {u0 v0 u1 v1 u2 v2 m0 m1 m2 m3 m4 m5 : Int} (hp : Pk p) (hI : Iv p) (hJ : Inj p 3 [[1, u0, v0], [1, u1, v1], [1, u2, v2]]) (hl : Rw p [1, u0, v0, u1, v1, u2, v2]) (hm : Rw p [m0, m1, m2, m3, m4, m5]) :
    letX p 3 3 [[1, u0, v0], [1, u1, v1], [1, u2, v2]] [[((1 + 0) * m0 + ((u0 + 0) * m1 + ((v0 + 0) * m2 + (0 * m3 + (0 * m4 + (0 * m5 + 0)))))) % p, (0 * m0 + ((1 + 0) * m1 + (0 * m2 + ((u0 + 0) * m3 + ((v0 + 0) * m4 + (0 * m5 + 0)))))) % p, (0 * m0 + (0 * m1 + ((1 + 0) * m2 + (0 * m3 + ((u0 + 0) * m4 + ((v0 + 0) * m5 + 0)))))) % p], [((1 + 0) * m0 + ((u1 + 0) * m1 + ((v1 + 0) * m2 + (0 * m3 + (0 * m4 + (0 * m5 + 0)))))) % p, (0 * m0 + ((1 + 0) * m1 + (0 * m2 + ((u1 + 0) * m3 + ((v1 + 0) * m4 + (0 * m5 + 0)))))) % p, (0 * m0 + (0 * m1 + ((1 + 0) * m2 + (0 * m3 + ((u1 + 0) * m4 + ((v1 + 0) * m5 + 0)))))) % p], [((1 + 0) * m0 + ((u2 + 0) * m1 + ((v2 + 0) * m2 + (0 * m3 + (0 * m4 + (0 * m5 + 0)))))) % p, (0 * m0 + ((1 + 0) * m1 + (0 * m2 + ((u2 + 0) * m3 + ((v2 + 0) * m4 + (0 * m5 + 0)))))) % p, (0 * m0 + (0 * m1 + ((1 + 0) * m2 + (0 * m3 + ((u2 + 0) * m4 + ((v2 + 0) * m5 + 0)))))) % p]] = [m0, m1, m2, m3, m4, m5] := by
  have hM : Mx p 3 3 [[1, u0, v0], [1, u1, v1], [1, u2, v2]] := mxs hl _ _ _ rfl (by simp) (by simp)
  have q1 : besX p 3 [[1, u0, v0], [1, u1, v1], [1, u2, v2]] [[], [], []] = [[], [], []] := by
    refine solve_eq (L2 := 0) hp hI hM (mx_cons rfl rw_nil (mx_cons rfl rw_nil (mx_cons rfl rw_nil mx_nil))) hJ (mxs hm _ _ _ rfl (by simp) (by simp)) ?_
    intro i hi j hj
    exact absurd hj (Nat.not_lt_zero j)
  have q2 : besX p 3 [[1, u0, v0], [1, u1, v1], [1, u2, v2]] (lefX p 3 3 [[1, u0, v0], [1, u1, v1], [1, u2, v2]] [[((1 + 0) * m0 + ((u0 + 0) * m1 + ((v0 + 0) * m2 + (0 * m3 + (0 * m4 + (0 * m5 + 0)))))) % p, (0 * m0 + ((1 + 0) * m1 + (0 * m2 + ((u0 + 0) * m3 + ((v0 + 0) * m4 + (0 * m5 + 0)))))) % p, (0 * m0 + (0 * m1 + ((1 + 0) * m2 + (0 * m3 + ((u0 + 0) * m4 + ((v0 + 0) * m5 + 0)))))) % p], [((1 + 0) * m0 + ((u1 + 0) * m1 + ((v1 + 0) * m2 + (0 * m3 + (0 * m4 + (0 * m5 + 0)))))) % p, (0 * m0 + ((1 + 0) * m1 + (0 * m2 + ((u1 + 0) * m3 + ((v1 + 0) * m4 + (0 * m5 + 0)))))) % p, (0 * m0 + (0 * m1 + ((1 + 0) * m2 + (0 * m3 + ((u1 + 0) * m4 + ((v1 + 0) * m5 + 0)))))) % p], [((1 + 0) * m0 + ((u2 + 0) * m1 + ((v2 + 0) * m2 + (0 * m3 + (0 * m4 + (0 * m5 + 0)))))) % p, (0 * m0 + ((1 + 0) * m1 + (0 * m2 + ((u2 + 0) * m3 + ((v2 + 0) * m4 + (0 * m5 + 0)))))) % p, (0 * m0 + (0 * m1 + ((1 + 0) * m2 + (0 * m3 + ((u2 + 0) * m4 + ((v2 + 0) * m5 + 0)))))) % p]] [[], [], []]) = [[m0, m1, m2], [m1, m3, m4], [m2, m4, m5]] := by
    refine solve_eq (L2 := 3) hp hI hM (mx_cons rfl (rw_cons (md_ok hp _) (rw_cons (md_ok hp _) (rw_cons (md_ok hp _) rw_nil))) (mx_cons rfl (rw_cons (md_ok hp _) (rw_cons (md_ok hp _) (rw_cons (md_ok hp _) rw_nil))) (mx_cons rfl (rw_cons (md_ok hp _) (rw_cons (md_ok hp _) (rw_cons (md_ok hp _) rw_nil))) mx_nil))) hJ (mxs hm _ _ _ rfl (by simp) (by simp)) ?_
    intro i hi j hj
    obtain rfl | rfl | rfl : i = 0 ∨ i = 1 ∨ i = 2 := by omega
    · obtain rfl | rfl | rfl : j = 0 ∨ j = 1 ∨ j = 2 := by omega
      · exact Eqm.trans (show Eqm p (dotR [1, u0, v0] [m0, m1, m2]) (((1 + 0) * m0 + ((u0 + 0) * m1 + ((v0 + 0) * m2 + (0 * m3 + (0 * m4 + (0 * m5 + 0)))))) - (0)) from ⟨0, by simp only [dotR_cons, dotR_nil]; grind⟩) (md2 p _ _).symm
      · exact Eqm.trans (show Eqm p (dotR [1, u0, v0] [m1, m3, m4]) ((0 * m0 + ((1 + 0) * m1 + (0 * m2 + ((u0 + 0) * m3 + ((v0 + 0) * m4 + (0 * m5 + 0)))))) - (0)) from ⟨0, by simp only [dotR_cons, dotR_nil]; grind⟩) (md2 p _ _).symm
      · exact Eqm.trans (show Eqm p (dotR [1, u0, v0] [m2, m4, m5]) ((0 * m0 + (0 * m1 + ((1 + 0) * m2 + (0 * m3 + ((u0 + 0) * m4 + ((v0 + 0) * m5 + 0)))))) - (0)) from ⟨0, by simp only [dotR_cons, dotR_nil]; grind⟩) (md2 p _ _).symm
    · obtain rfl | rfl | rfl : j = 0 ∨ j = 1 ∨ j = 2 := by omega
      · exact Eqm.trans (show Eqm p (dotR [1, u1, v1] [m0, m1, m2]) (((1 + 0) * m0 + ((u1 + 0) * m1 + ((v1 + 0) * m2 + (0 * m3 + (0 * m4 + (0 * m5 + 0)))))) - (0)) from ⟨0, by simp only [dotR_cons, dotR_nil]; grind⟩) (md2 p _ _).symm
      · exact Eqm.trans (show Eqm p (dotR [1, u1, v1] [m1, m3, m4]) ((0 * m0 + ((1 + 0) * m1 + (0 * m2 + ((u1 + 0) * m3 + ((v1 + 0) * m4 + (0 * m5 + 0)))))) - (0)) from ⟨0, by simp only [dotR_cons, dotR_nil]; grind⟩) (md2 p _ _).symm
      · exact Eqm.trans (show Eqm p (dotR [1, u1, v1] [m2, m4, m5]) ((0 * m0 + (0 * m1 + ((1 + 0) * m2 + (0 * m3 + ((u1 + 0) * m4 + ((v1 + 0) * m5 + 0)))))) - (0)) from ⟨0, by simp only [dotR_cons, dotR_nil]; grind⟩) (md2 p _ _).symm
    · obtain rfl | rfl | rfl : j = 0 ∨ j = 1 ∨ j = 2 := by omega
      · exact Eqm.trans (show Eqm p (dotR [1, u2, v2] [m0, m1, m2]) (((1 + 0) * m0 + ((u2 + 0) * m1 + ((v2 + 0) * m2 + (0 * m3 + (0 * m4 + (0 * m5 + 0)))))) - (0)) from ⟨0, by simp only [dotR_cons, dotR_nil]; grind⟩) (md2 p _ _).symm
      · exact Eqm.trans (show Eqm p (dotR [1, u2, v2] [m1, m3, m4]) ((0 * m0 + ((1 + 0) * m1 + (0 * m2 + ((u2 + 0) * m3 + ((v2 + 0) * m4 + (0 * m5 + 0)))))) - (0)) from ⟨0, by simp only [dotR_cons, dotR_nil]; grind⟩) (md2 p _ _).symm
      · exact Eqm.trans (show Eqm p (dotR [1, u2, v2] [m2, m4, m5]) ((0 * m0 + (0 * m1 + ((1 + 0) * m2 + (0 * m3 + ((u2 + 0) * m4 + ((v2 + 0) * m5 + 0)))))) - (0)) from ⟨0, by simp only [dotR_cons, dotR_nil]; grind⟩) (md2 p _ _).symm
  exact letX_eq (p := p) (k := 3) (d := 3) (ls := [[1, u0, v0], [1, u1, v1], [1, u2, v2]]) (pcs := [[((1 + 0) * m0 + ((u0 + 0) * m1 + ((v0 + 0) * m2 + (0 * m3 + (0 * m4 + (0 * m5 + 0)))))) % p, (0 * m0 + ((1 + 0) * m1 + (0 * m2 + ((u0 + 0) * m3 + ((v0 + 0) * m4 + (0 * m5 + 0)))))) % p, (0 * m0 + (0 * m1 + ((1 + 0) * m2 + (0 * m3 + ((u0 + 0) * m4 + ((v0 + 0) * m5 + 0)))))) % p], [((1 + 0) * m0 + ((u1 + 0) * m1 + ((v1 + 0) * m2 + (0 * m3 + (0 * m4 + (0 * m5 + 0)))))) % p, (0 * m0 + ((1 + 0) * m1 + (0 * m2 + ((u1 + 0) * m3 + ((v1 + 0) * m4 + (0 * m5 + 0)))))) % p, (0 * m0 + (0 * m1 + ((1 + 0) * m2 + (0 * m3 + ((u1 + 0) * m4 + ((v1 + 0) * m5 + 0)))))) % p], [((1 + 0) * m0 + ((u2 + 0) * m1 + ((v2 + 0) * m2 + (0 * m3 + (0 * m4 + (0 * m5 + 0)))))) % p, (0 * m0 + ((1 + 0) * m1 + (0 * m2 + ((u2 + 0) * m3 + ((v2 + 0) * m4 + (0 * m5 + 0)))))) % p, (0 * m0 + (0 * m1 + ((1 + 0) * m2 + (0 * m3 + ((u2 + 0) * m4 + ((v2 + 0) * m5 + 0)))))) % p]]) (X := [[], [], []]) (A := [[m0, m1, m2], [m1, m3, m4], [m2, m4, m5]]) q1 q2
theorem dl_34 {p : Int} {u0 v0 w0 u1 v1 w1 u2 v2 w2 m0 m1 m2 m3 m4 m5 m6 m7 m8 : Int} (hp : Pk p) (hI : Iv p) (hJ : Inj p 3 [[1, u0, v0], [1, u1, v1], [1, u2, v2]]) (hl : Rw p [1, u0, v0, w0, u1, v1, w1, u2, v2, w2]) (hm : Rw p [m0, m1, m2, m3, m4, m5, m6, m7, m8]) :
    letX p 3 4 [[1, u0, v0, w0], [1, u1, v1, w1], [1, u2, v2, w2]] [[((1 + 0) * m0 + ((u0 + 0) * m1 + ((v0 + 0) * m2 + ((w0 + 0) * m3 + (0 * m4 + (0 * m5 + (0 * m6 + (0 * m7 + (0 * m8 + 0))))))))) % p, (0 * m0 + ((1 + 0) * m1 + (0 * m2 + (0 * m3 + ((u0 + 0) * m4 + ((v0 + 0) * m5 + ((w0 + 0) * m6 + (0 * m7 + (0 * m8 + 0))))))))) % p, (0 * m0 + (0 * m1 + ((1 + 0) * m2 + (0 * m3 + (0 * m4 + ((u0 + 0) * m5 + (0 * m6 + ((v0 + 0) * m7 + ((w0 + 0) * m8 + 0))))))))) % p, (0 * m0 + (0 * m1 + (0 * m2 + ((1 + 0) * m3 + (0 * m4 + (0 * m5 + ((u0 + 0) * m6 + (0 * m7 + ((v0 + 0) * m8 + 0))))))))) % p], [((1 + 0) * m0 + ((u1 + 0) * m1 + ((v1 + 0) * m2 + ((w1 + 0) * m3 + (0 * m4 + (0 * m5 + (0 * m6 + (0 * m7 + (0 * m8 + 0))))))))) % p, (0 * m0 + ((1 + 0) * m1 + (0 * m2 + (0 * m3 + ((u1 + 0) * m4 + ((v1 + 0) * m5 + ((w1 + 0) * m6 + (0 * m7 + (0 * m8 + 0))))))))) % p, (0 * m0 + (0 * m1 + ((1 + 0) * m2 + (0 * m3 + (0 * m4 + ((u1 + 0) * m5 + (0 * m6 + ((v1 + 0) * m7 + ((w1 + 0) * m8 + 0))))))))) % p, (0 * m0 + (0 * m1 + (0 * m2 + ((1 + 0) * m3 + (0 * m4 + (0 * m5 + ((u1 + 0) * m6 + (0 * m7 + ((v1 + 0) * m8 + 0))))))))) % p], [((1 + 0) * m0 + ((u2 + 0) * m1 + ((v2 + 0) * m2 + ((w2 + 0) * m3 + (0 * m4 + (0 * m5 + (0 * m6 + (0 * m7 + (0 * m8 + 0))))))))) % p, (0 * m0 + ((1 + 0) * m1 + (0 * m2 + (0 * m3 + ((u2 + 0) * m4 + ((v2 + 0) * m5 + ((w2 + 0) * m6 + (0 * m7 + (0 * m8 + 0))))))))) % p, (0 * m0 + (0 * m1 + ((1 + 0) * m2 + (0 * m3 + (0 * m4 + ((u2 + 0) * m5 + (0 * m6 + ((v2 + 0) * m7 + ((w2 + 0) * m8 + 0))))))))) % p, (0 * m0 + (0 * m1 + (0 * m2 + ((1 + 0) * m3 + (0 * m4 + (0 * m5 + ((u2 + 0) * m6 + (0 * m7 + ((v2 + 0) * m8 + 0))))))))) % p]] = [m0, m1, m2, m3, m4, m5, m6, m7, m8] := by
  have hM : Mx p 3 3 [[1, u0, v0], [1, u1, v1], [1, u2, v2]] := mxs hl _ _ _ rfl (by simp) (by simp)
  have q1 : besX p 3 [[1, u0, v0], [1, u1, v1], [1, u2, v2]] [[(0 * m0 + (0 * m1 + (0 * m2 + ((1 + 0) * m3 + (0 * m4 + (0 * m5 + ((u0 + 0) * m6 + (0 * m7 + ((v0 + 0) * m8 + 0))))))))) % p], [(0 * m0 + (0 * m1 + (0 * m2 + ((1 + 0) * m3 + (0 * m4 + (0 * m5 + ((u1 + 0) * m6 + (0 * m7 + ((v1 + 0) * m8 + 0))))))))) % p], [(0 * m0 + (0 * m1 + (0 * m2 + ((1 + 0) * m3 + (0 * m4 + (0 * m5 + ((u2 + 0) * m6 + (0 * m7 + ((v2 + 0) * m8 + 0))))))))) % p]] = [[m3], [m6], [m8]] := by
    refine solve_eq (L2 := 1) hp hI hM (mx_cons rfl (rw_cons (md_ok hp _) rw_nil) (mx_cons rfl (rw_cons (md_ok hp _) rw_nil) (mx_cons rfl (rw_cons (md_ok hp _) rw_nil) mx_nil))) hJ (mxs hm _ _ _ rfl (by simp) (by simp)) ?_
    intro i hi j hj
    obtain rfl | rfl | rfl : i = 0 ∨ i = 1 ∨ i = 2 := by omega
    · obtain rfl : j = 0 := by omega
      exact Eqm.trans (show Eqm p (dotR [1, u0, v0] [m3, m6, m8]) (0 * m0 + (0 * m1 + (0 * m2 + ((1 + 0) * m3 + (0 * m4 + (0 * m5 + ((u0 + 0) * m6 + (0 * m7 + ((v0 + 0) * m8 + 0))))))))) from ⟨0, by simp only [dotR_cons, dotR_nil]; grind⟩) (Eqm.of_md _).symm
    · obtain rfl : j = 0 := by omega
      exact Eqm.trans (show Eqm p (dotR [1, u1, v1] [m3, m6, m8]) (0 * m0 + (0 * m1 + (0 * m2 + ((1 + 0) * m3 + (0 * m4 + (0 * m5 + ((u1 + 0) * m6 + (0 * m7 + ((v1 + 0) * m8 + 0))))))))) from ⟨0, by simp only [dotR_cons, dotR_nil]; grind⟩) (Eqm.of_md _).symm
    · obtain rfl : j = 0 := by omega
      exact Eqm.trans (show Eqm p (dotR [1, u2, v2] [m3, m6, m8]) (0 * m0 + (0 * m1 + (0 * m2 + ((1 + 0) * m3 + (0 * m4 + (0 * m5 + ((u2 + 0) * m6 + (0 * m7 + ((v2 + 0) * m8 + 0))))))))) from ⟨0, by simp only [dotR_cons, dotR_nil]; grind⟩) (Eqm.of_md _).symm
  have q2 : besX p 3 [[1, u0, v0], [1, u1, v1], [1, u2, v2]] (lefX p 3 4 [[1, u0, v0, w0], [1, u1, v1, w1], [1, u2, v2, w2]] [[((1 + 0) * m0 + ((u0 + 0) * m1 + ((v0 + 0) * m2 + ((w0 + 0) * m3 + (0 * m4 + (0 * m5 + (0 * m6 + (0 * m7 + (0 * m8 + 0))))))))) % p, (0 * m0 + ((1 + 0) * m1 + (0 * m2 + (0 * m3 + ((u0 + 0) * m4 + ((v0 + 0) * m5 + ((w0 + 0) * m6 + (0 * m7 + (0 * m8 + 0))))))))) % p, (0 * m0 + (0 * m1 + ((1 + 0) * m2 + (0 * m3 + (0 * m4 + ((u0 + 0) * m5 + (0 * m6 + ((v0 + 0) * m7 + ((w0 + 0) * m8 + 0))))))))) % p, (0 * m0 + (0 * m1 + (0 * m2 + ((1 + 0) * m3 + (0 * m4 + (0 * m5 + ((u0 + 0) * m6 + (0 * m7 + ((v0 + 0) * m8 + 0))))))))) % p], [((1 + 0) * m0 + ((u1 + 0) * m1 + ((v1 + 0) * m2 + ((w1 + 0) * m3 + (0 * m4 + (0 * m5 + (0 * m6 + (0 * m7 + (0 * m8 + 0))))))))) % p, (0 * m0 + ((1 + 0) * m1 + (0 * m2 + (0 * m3 + ((u1 + 0) * m4 + ((v1 + 0) * m5 + ((w1 + 0) * m6 + (0 * m7 + (0 * m8 + 0))))))))) % p, (0 * m0 + (0 * m1 + ((1 + 0) * m2 + (0 * m3 + (0 * m4 + ((u1 + 0) * m5 + (0 * m6 + ((v1 + 0) * m7 + ((w1 + 0) * m8 + 0))))))))) % p, (0 * m0 + (0 * m1 + (0 * m2 + ((1 + 0) * m3 + (0 * m4 + (0 * m5 + ((u1 + 0) * m6 + (0 * m7 + ((v1 + 0) * m8 + 0))))))))) % p], [((1 + 0) * m0 + ((u2 + 0) * m1 + ((v2 + 0) * m2 + ((w2 + 0) * m3 + (0 * m4 + (0 * m5 + (0 * m6 + (0 * m7 + (0 * m8 + 0))))))))) % p, (0 * m0 + ((1 + 0) * m1 + (0 * m2 + (0 * m3 + ((u2 + 0) * m4 + ((v2 + 0) * m5 + ((w2 + 0) * m6 + (0 * m7 + (0 * m8 + 0))))))))) % p, (0 * m0 + (0 * m1 + ((1 + 0) * m2 + (0 * m3 + (0 * m4 + ((u2 + 0) * m5 + (0 * m6 + ((v2 + 0) * m7 + ((w2 + 0) * m8 + 0))))))))) % p, (0 * m0 + (0 * m1 + (0 * m2 + ((1 + 0) * m3 + (0 * m4 + (0 * m5 + ((u2 + 0) * m6 + (0 * m7 + ((v2 + 0) * m8 + 0))))))))) % p]] [[m3], [m6], [m8]]) = [[m0, m1, m2], [m1, m4, m5], [m2, m5, m7]] := by
    refine solve_eq (L2 := 3) hp hI hM (mx_cons rfl (rw_cons (md_ok hp _) (rw_cons (md_ok hp _) (rw_cons (md_ok hp _) rw_nil))) (mx_cons rfl (rw_cons (md_ok hp _) (rw_cons (md_ok hp _) (rw_cons (md_ok hp _) rw_nil))) (mx_cons rfl (rw_cons (md_ok hp _) (rw_cons (md_ok hp _) (rw_cons (md_ok hp _) rw_nil))) mx_nil))) hJ (mxs hm _ _ _ rfl (by simp) (by simp)) ?_
    intro i hi j hj
    obtain rfl | rfl | rfl : i = 0 ∨ i = 1 ∨ i = 2 := by omega
    · obtain rfl | rfl | rfl : j = 0 ∨ j = 1 ∨ j = 2 := by omega
      · exact Eqm.trans (show Eqm p (dotR [1, u0, v0] [m0, m1, m2]) (((1 + 0) * m0 + ((u0 + 0) * m1 + ((v0 + 0) * m2 + ((w0 + 0) * m3 + (0 * m4 + (0 * m5 + (0 * m6 + (0 * m7 + (0 * m8 + 0))))))))) - (m3 * w0 + 0)) from ⟨0, by simp only [dotR_cons, dotR_nil]; grind⟩) (md2 p _ _).symm
      · exact Eqm.trans (show Eqm p (dotR [1, u0, v0] [m1, m4, m5]) ((0 * m0 + ((1 + 0) * m1 + (0 * m2 + (0 * m3 + ((u0 + 0) * m4 + ((v0 + 0) * m5 + ((w0 + 0) * m6 + (0 * m7 + (0 * m8 + 0))))))))) - (m6 * w0 + 0)) from ⟨0, by simp only [dotR_cons, dotR_nil]; grind⟩) (md2 p _ _).symm
      · exact Eqm.trans (show Eqm p (dotR [1, u0, v0] [m2, m5, m7]) ((0 * m0 + (0 * m1 + ((1 + 0) * m2 + (0 * m3 + (0 * m4 + ((u0 + 0) * m5 + (0 * m6 + ((v0 + 0) * m7 + ((w0 + 0) * m8 + 0))))))))) - (m8 * w0 + 0)) from ⟨0, by simp only [dotR_cons, dotR_nil]; grind⟩) (md2 p _ _).symm
    · obtain rfl | rfl | rfl : j = 0 ∨ j = 1 ∨ j = 2 := by omega
      · exact Eqm.trans (show Eqm p (dotR [1, u1, v1] [m0, m1, m2]) (((1 + 0) * m0 + ((u1 + 0) * m1 + ((v1 + 0) * m2 + ((w1 + 0) * m3 + (0 * m4 + (0 * m5 + (0 * m6 + (0 * m7 + (0 * m8 + 0))))))))) - (m3 * w1 + 0)) from ⟨0, by simp only [dotR_cons, dotR_nil]; grind⟩) (md2 p _ _).symm
      · exact Eqm.trans (show Eqm p (dotR [1, u1, v1] [m1, m4, m5]) ((0 * m0 + ((1 + 0) * m1 + (0 * m2 + (0 * m3 + ((u1 + 0) * m4 + ((v1 + 0) * m5 + ((w1 + 0) * m6 + (0 * m7 + (0 * m8 + 0))))))))) - (m6 * w1 + 0)) from ⟨0, by simp only [dotR_cons, dotR_nil]; grind⟩) (md2 p _ _).symm
      · exact Eqm.trans (show Eqm p (dotR [1, u1, v1] [m2, m5, m7]) ((0 * m0 + (0 * m1 + ((1 + 0) * m2 + (0 * m3 + (0 * m4 + ((u1 + 0) * m5 + (0 * m6 + ((v1 + 0) * m7 + ((w1 + 0) * m8 + 0))))))))) - (m8 * w1 + 0)) from ⟨0, by simp only [dotR_cons, dotR_nil]; grind⟩) (md2 p _ _).symm
    · obtain rfl | rfl | rfl : j = 0 ∨ j = 1 ∨ j = 2 := by omega
      · exact Eqm.trans (show Eqm p (dotR [1, u2, v2] [m0, m1, m2]) (((1 + 0) * m0 + ((u2 + 0) * m1 + ((v2 + 0) * m2 + ((w2 + 0) * m3 + (0 * m4 + (0 * m5 + (0 * m6 + (0 * m7 + (0 * m8 + 0))))))))) - (m3 * w2 + 0)) from ⟨0, by simp only [dotR_cons, dotR_nil]; grind⟩) (md2 p _ _).symm
      · exact Eqm.trans (show Eqm p (dotR [1, u2, v2] [m1, m4, m5]) ((0 * m0 + ((1 + 0) * m1 + (0 * m2 + (0 * m3 + ((u2 + 0) * m4 + ((v2 + 0) * m5 + ((w2 + 0) * m6 + (0 * m7 + (0 * m8 + 0))))))))) - (m6 * w2 + 0)) from ⟨0, by simp only [dotR_cons, dotR_nil]; grind⟩) (md2 p _ _).symm
      · exact Eqm.trans (show Eqm p (dotR [1, u2, v2] [m2, m5, m7]) ((0 * m0 + (0 * m1 + ((1 + 0) * m2 + (0 * m3 + (0 * m4 + ((u2 + 0) * m5 + (0 * m6 + ((v2 + 0) * m7 + ((w2 + 0) * m8 + 0))))))))) - (m8 * w2 + 0)) from ⟨0, by simp only [dotR_cons, dotR_nil]; grind⟩) (md2 p _ _).symm
  exact letX_eq (p := p) (k := 3) (d := 4) (ls := [[1, u0, v0, w0], [1, u1, v1, w1], [1, u2, v2, w2]]) (pcs := [[((1 + 0) * m0 + ((u0 + 0) * m1 + ((v0 + 0) * m2 + ((w0 + 0) * m3 + (0 * m4 + (0 * m5 + (0 * m6 + (0 * m7 + (0 * m8 + 0))))))))) % p, (0 * m0 + ((1 + 0) * m1 + (0 * m2 + (0 * m3 + ((u0 + 0) * m4 + ((v0 + 0) * m5 + ((w0 + 0) * m6 + (0 * m7 + (0 * m8 + 0))))))))) % p, (0 * m0 + (0 * m1 + ((1 + 0) * m2 + (0 * m3 + (0 * m4 + ((u0 + 0) * m5 + (0 * m6 + ((v0 + 0) * m7 + ((w0 + 0) * m8 + 0))))))))) % p, (0 * m0 + (0 * m1 + (0 * m2 + ((1 + 0) * m3 + (0 * m4 + (0 * m5 + ((u0 + 0) * m6 + (0 * m7 + ((v0 + 0) * m8 + 0))))))))) % p], [((1 + 0) * m0 + ((u1 + 0) * m1 + ((v1 + 0) * m2 + ((w1 + 0) * m3 + (0 * m4 + (0 * m5 + (0 * m6 + (0 * m7 + (0 * m8 + 0))))))))) % p, (0 * m0 + ((1 + 0) * m1 + (0 * m2 + (0 * m3 + ((u1 + 0) * m4 + ((v1 + 0) * m5 + ((w1 + 0) * m6 + (0 * m7 + (0 * m8 + 0))))))))) % p, (0 * m0 + (0 * m1 + ((1 + 0) * m2 + (0 * m3 + (0 * m4 + ((u1 + 0) * m5 + (0 * m6 + ((v1 + 0) * m7 + ((w1 + 0) * m8 + 0))))))))) % p, (0 * m0 + (0 * m1 + (0 * m2 + ((1 + 0) * m3 + (0 * m4 + (0 * m5 + ((u1 + 0) * m6 + (0 * m7 + ((v1 + 0) * m8 + 0))))))))) % p], [((1 + 0) * m0 + ((u2 + 0) * m1 + ((v2 + 0) * m2 + ((w2 + 0) * m3 + (0 * m4 + (0 * m5 + (0 * m6 + (0 * m7 + (0 * m8 + 0))))))))) % p, (0 * m0 + ((1 + 0) * m1 + (0 * m2 + (0 * m3 + ((u2 + 0) * m4 + ((v2 + 0) * m5 + ((w2 + 0) * m6 + (0 * m7 + (0 * m8 + 0))))))))) % p, (0 * m0 + (0 * m1 + ((1 + 0) * m2 + (0 * m3 + (0 * m4 + ((u2 + 0) * m5 + (0 * m6 + ((v2 + 0) * m7 + ((w2 + 0) * m8 + 0))))))))) % p, (0 * m0 + (0 * m1 + (0 * m2 + ((1 + 0) * m3 + (0 * m4 + (0 * m5 + ((u2 + 0) * m6 + (0 * m7 + ((v2 + 0) * m8 + 0))))))))) % p]]) (X := [[m3], [m6], [m8]]) (A := [[m0, m1, m2], [m1, m4, m5], [m2, m5, m7]]) q1 q2
end Lm
set_option maxRecDepth 100000
set_option maxHeartbeats 4000000
/-! The message told from k pieces: room. -/
namespace Lm
theorem par_ok {p one two pa pb f g : Int} (hp : Pk p) (hI : Iv p) (h1 : Eqm p one (f + pa * g)) (h2 : Eqm p two (f + pb * g)) (hne : (pa - pb) % p ≠ 0) :
    Eqm p (parB p one two pa (invB p ((pa - pb) % p))).1 f ∧ Eqm p (parB p one two pa (invB p ((pa - pb) % p))).2 g := by
  have b := md_ok hp (pa - pb)
  obtain ⟨y, hy1, _, _, hy⟩ := hI ((pa - pb) % p) (by omega) b.2
  have ey : invB p ((pa - pb) % p) = y := by
    unfold invB
    rw [List.headD_eq_head?_getD, hy1]
    rfl
  rw [ey]
  have hp1 := hp.1
  have k1 : Eqm p (y * (pa - pb)) 1 := ((Eqm.refl p y).mul (Eqm.of_md _)).symm.trans (.of_eq (by rw [hy, Int.emod_eq_of_lt (by decide) (by omega)]))
  have k2 : Eqm p ((one - two) * y % p) g := by
    refine (Eqm.of_md _).trans ?_
    obtain ⟨s, h1⟩ := h1
    obtain ⟨t, h2⟩ := h2
    obtain ⟨r, k1⟩ := k1
    exact ⟨s * y - t * y + g * r, by subst h1 h2; grind⟩
  refine ⟨?_, k2⟩
  show Eqm p ((one - pa * ((one - two) * y % p)) % p) f
  refine (Eqm.of_md _).trans ?_
  obtain ⟨s, h1⟩ := h1
  obtain ⟨t, k2⟩ := k2
  exact ⟨s - pa * t, by rw [k2, h1]; grind⟩
theorem dmd2 (p a b x y : Int) : Eqm p (dotR [a, b] [x % p, y % p]) (a * x + b * y) := by
  rw [d2]
  exact ((Eqm.refl p a).mul (.of_md x)).add ((Eqm.refl p b).mul (.of_md y))
theorem tb_1 {p x : Int} {pr : List (List Int)} (hp : Pk p) (hI : Iv p) (hx : 0 ≤ x ∧ x < p) (P01 : en pr 0 1 = en pr 0 1) (h : Eqm p (en pr 0 1) x) (hr : 0 ≤ en pr 0 1 ∧ en pr 0 1 < p) : tabB p 1 2 [[1], [1]] pr = [[x]] := by
  have hJ : Inj p 1 [[1]] := inj1 hp hI (fun z => by
    have hp1 := hp.1
    have := z.eq (by omega) (by omega)
    omega)
  have hM : Mx p 1 1 [[1]] := mx_cons rfl (rw_cons (by have := hp.1; omega) rw_nil) mx_nil
  have q0 : ansB p 1 2 [[1], [1]] pr 0 = [x] := by
    refine ans_eq (rows := [[1]]) (right := [en pr 0 1]) hp hI hM (rw_cons hr rw_nil) rfl hJ (rw_cons hx rw_nil) rfl ?_
    intro i hi
    obtain rfl : i = 0 := by omega
    refine Eqm.trans ?_ h.symm
    exact ⟨0, by show dotR [1] [x] = _; simp only [dotR_cons, dotR_nil]; omega⟩
  show (stairsAt p (aug2 [[1]] [ansB p 1 2 [[1], [1]] pr 0]) 1).1.map (fun r => r.drop 1) = _
  rw [q0]
  refine solve_eq (L2 := 1) hp hI hM (mx_cons rfl (rw_cons hx rw_nil) mx_nil) hJ (mx_cons rfl (rw_cons hx rw_nil) mx_nil) ?_
  intro i hi j hj
  obtain rfl : i = 0 := by omega
  obtain rfl : j = 0 := by omega
  exact ⟨0, by show dotR [1] [x] = x + p * 0; simp only [dotR_cons, dotR_nil]; omega⟩
theorem tb_2 {p a0 a1 a2 x y z : Int} {pr : List (List Int)} (hp : Pk p) (hI : Iv p) (hx : Rw p [x, y, z]) (ha : Rw p [1, a0, a1, a2]) (h01 : ¬ Eqm p (a0 - a1) 0) (h02 : ¬ Eqm p (a0 - a2) 0) (h12 : ¬ Eqm p (a1 - a2) 0)
    (e01 : Eqm p (en pr 0 1) (x + y * (a0 + a1) + z * a0 * a1)) (e02 : Eqm p (en pr 0 2) (x + y * (a0 + a2) + z * a0 * a2)) (e10 : Eqm p (en pr 1 0) (x + y * (a1 + a0) + z * a1 * a0)) (e12 : Eqm p (en pr 1 2) (x + y * (a1 + a2) + z * a1 * a2))
    (hr : ∀ a b, 0 ≤ en pr a b ∧ en pr a b < p) : tabB p 2 3 [[1, a0], [1, a1], [1, a2]] pr = [[x, y], [y, z]] := by
  have q0 : ansB p 2 3 [[1, a0], [1, a1], [1, a2]] pr 0 = [(x + y * a0) % p, (y + z * a0) % p] := by
    refine ans_eq (rows := [[1, a1], [1, a2]]) (right := [en pr 0 1, en pr 0 2]) hp hI (mxs ha _ _ _ rfl (by simp) (by simp)) (rw_cons (hr _ _) (rw_cons (hr _ _) rw_nil)) rfl (inj2 hp hI h12) (rw_cons (md_ok hp _) (rw_cons (md_ok hp _) rw_nil)) rfl ?_
    intro i hi
    obtain rfl | rfl : i = 0 ∨ i = 1 := by omega
    · exact (dmd2 p 1 a1 _ _).trans (Eqm.trans ⟨0, by grind⟩ e01.symm)
    · exact (dmd2 p 1 a2 _ _).trans (Eqm.trans ⟨0, by grind⟩ e02.symm)
  have q1 : ansB p 2 3 [[1, a0], [1, a1], [1, a2]] pr 1 = [(x + y * a1) % p, (y + z * a1) % p] := by
    refine ans_eq (rows := [[1, a0], [1, a2]]) (right := [en pr 1 0, en pr 1 2]) hp hI (mxs ha _ _ _ rfl (by simp) (by simp)) (rw_cons (hr _ _) (rw_cons (hr _ _) rw_nil)) rfl (inj2 hp hI h02) (rw_cons (md_ok hp _) (rw_cons (md_ok hp _) rw_nil)) rfl ?_
    intro i hi
    obtain rfl | rfl : i = 0 ∨ i = 1 := by omega
    · exact (dmd2 p 1 a0 _ _).trans (Eqm.trans ⟨0, by grind⟩ e10.symm)
    · exact (dmd2 p 1 a2 _ _).trans (Eqm.trans ⟨0, by grind⟩ e12.symm)
  show (stairsAt p (aug2 [[1, a0], [1, a1]] [ansB p 2 3 [[1, a0], [1, a1], [1, a2]] pr 0, ansB p 2 3 [[1, a0], [1, a1], [1, a2]] pr 1]) 2).1.map (fun r => r.drop 2) = _
  rw [q0, q1]
  have hz : Mx p 2 2 [[(x + y * a0) % p, (y + z * a0) % p], [(x + y * a1) % p, (y + z * a1) % p]] := mx_cons rfl (rw_cons (md_ok hp _) (rw_cons (md_ok hp _) rw_nil)) (mx_cons rfl (rw_cons (md_ok hp _) (rw_cons (md_ok hp _) rw_nil)) mx_nil)
  refine solve_eq (L2 := 2) (rows := [[1, a0], [1, a1]]) (X := [[x, y], [y, z]]) hp hI (mxs ha 2 2 _ rfl (by simp) (by simp)) hz (inj2 hp hI h01) (mxs hx 2 2 _ rfl (by simp) (by simp)) ?_
  intro i hi j hj
  obtain rfl | rfl : i = 0 ∨ i = 1 := by omega
  · obtain rfl | rfl : j = 0 ∨ j = 1 := by omega
    · exact Eqm.trans (show Eqm p (dotR [1, a0] [x, y]) (x + y * a0) from ⟨0, by simp only [dotR_cons, dotR_nil]; grind⟩) (Eqm.of_md _).symm
    · exact Eqm.trans (show Eqm p (dotR [1, a0] [y, z]) (y + z * a0) from ⟨0, by simp only [dotR_cons, dotR_nil]; grind⟩) (Eqm.of_md _).symm
  · obtain rfl | rfl : j = 0 ∨ j = 1 := by omega
    · exact Eqm.trans (show Eqm p (dotR [1, a1] [x, y]) (x + y * a1) from ⟨0, by simp only [dotR_cons, dotR_nil]; grind⟩) (Eqm.of_md _).symm
    · exact Eqm.trans (show Eqm p (dotR [1, a1] [y, z]) (y + z * a1) from ⟨0, by simp only [dotR_cons, dotR_nil]; grind⟩) (Eqm.of_md _).symm
def prX (p : Int) (T : List (List Int)) (pw : List Int) (a b : Nat) : Int × Int := if b = a then (0, 0) else parB p (en T a b) (en T b a) (pw.getD a 0) (invB p ((pw.getD a 0 - pw.getD b 0) % p))
def rooX (p : Int) (h k : Nat) (sh : List (List Int)) (pw : List Int) (pcs : List (List Int)) : List Int :=
  [tabB p h k sh ((List.range k).map fun a => (List.range k).map fun b => (prX p (pcs.map (ledB p sh)) pw a b).1), tabB p h k sh ((List.range k).map fun a => (List.range k).map fun b => (prX p (pcs.map (ledB p sh)) pw a b).2)].flatMap
    fun t => (List.range h).flatMap fun r => ((t.getD r []).drop r).map id
theorem roo_eq (c : Pl) (sh : List Nat) (pcs : List (List Int)) : rooB c sh pcs = rooX c.p (rmB c) c.k (shB c sh) (pwB c sh) pcs := rfl
theorem prX_rw {p : Int} (hp : Pk p) (T : List (List Int)) (pw : List Int) (a b : Nat) : (0 ≤ (prX p T pw a b).1 ∧ (prX p T pw a b).1 < p) ∧ 0 ≤ (prX p T pw a b).2 ∧ (prX p T pw a b).2 < p := by
  have hp1 := hp.1
  unfold prX
  split
  · exact ⟨⟨by decide, by show (0 : Int) < p; omega⟩, by decide, by show (0 : Int) < p; omega⟩
  · exact ⟨md_ok hp _, md_ok hp _⟩
theorem prX_ok {p f g : Int} {T : List (List Int)} {pw : List Int} {a b : Nat} (hp : Pk p) (hI : Iv p) (hab : b ≠ a) (h1 : Eqm p (en T a b) (f + pw.getD a 0 * g)) (h2 : Eqm p (en T b a) (f + pw.getD b 0 * g)) (hne : (pw.getD a 0 - pw.getD b 0) % p ≠ 0) :
    Eqm p (prX p T pw a b).1 f ∧ Eqm p (prX p T pw a b).2 g := by
  unfold prX
  rw [if_neg hab]
  exact par_ok hp hI h1 h2 hne
def finR (h : Nat) (ts : List (List (List Int))) : List Int := ts.flatMap fun t => (List.range h).flatMap fun r => ((t.getD r []).drop r).map id
def mat (k : Nat) (f : Nat → Nat → Int) : List (List Int) := (List.range k).map fun a => (List.range k).map fun b => f a b
theorem rooX_eq {p : Int} {h k : Nat} {sh pcs A B : List (List Int)} {pw : List Int} (h1 : tabB p h k sh (mat k fun a b => (prX p (pcs.map (ledB p sh)) pw a b).1) = A) (h2 : tabB p h k sh (mat k fun a b => (prX p (pcs.map (ledB p sh)) pw a b).2) = B) : rooX p h k sh pw pcs = finR h [A, B] := by
  unfold mat at h1 h2
  unfold rooX finR
  rw [h1, h2]
theorem en_mat {k a b : Nat} {f : Nat → Nat → Int} (ha : a < k) (hb : b < k) : en (mat k f) a b = f a b := by
  unfold en mat
  rw [getD_map (fun a => (List.range k).map fun b => f a b) (List.range k) a 0 [] (by simpa using ha), getD_map (fun b => f _ b) (List.range k) b 0 0 (by simpa using hb), getD_eq _ _ _ (by simpa using ha), getD_eq _ _ _ (by simpa using hb)]
  simp
theorem mat_rw {p : Int} {k : Nat} {f : Nat → Nat → Int} (hp : Pk p) (hf : ∀ a b, 0 ≤ f a b ∧ f a b < p) (a b : Nat) : 0 ≤ en (mat k f) a b ∧ en (mat k f) a b < p := by
  have hp1 := hp.1
  by_cases ha : a < k
  · by_cases hb : b < k
    · rw [en_mat ha hb]
      exact hf a b
    · have : en (mat k f) a b = 0 := by
        unfold en mat
        rw [getD_map (fun a => (List.range k).map fun b => f a b) (List.range k) a 0 [] (by simpa using ha), List.getD_eq_getElem?_getD, List.getElem?_eq_none (by simpa using hb)]
        rfl
      omega
  · have : en (mat k f) a b = 0 := by
      unfold en mat
      rw [List.getD_eq_getElem?_getD (l := (List.range k).map _), List.getElem?_eq_none (by simpa using ha)]
      rfl
    omega
theorem dmd1 (p a x : Int) : Eqm p ((a * (x % p) + 0) % p) (a * x) := (Eqm.of_md _).trans ((((Eqm.refl p a).mul (.of_md x)).add (.refl p 0)).trans ⟨0, by omega⟩)
theorem dmd3 (p a b x y : Int) : Eqm p ((a * (x % p) + (b * (y % p) + 0)) % p) (a * x + b * y) := (Eqm.of_md _).trans ((((Eqm.refl p a).mul (.of_md x)).add (((Eqm.refl p b).mul (.of_md y)).add (.refl p 0))).trans ⟨0, by omega⟩)
/-- k = 2 -/
theorem dr_2 {p a0 a1 x y : Int} (hp : Pk p) (hI : Iv p) (hm : Rw p [x, y]) (h01 : (a0 - a1) % p ≠ 0) :
    rooX p 1 2 [[1], [1]] [a0, a1] [[((1 + 0) * x + ((a0 + 0) * y + 0)) % p], [((1 + 0) * x + ((a1 + 0) * y + 0)) % p]] = [x, y] := by
  have g := prX_ok (p := p) (f := x) (g := y) (T := [[((1 + 0) * x + ((a0 + 0) * y + 0)) % p], [((1 + 0) * x + ((a1 + 0) * y + 0)) % p]].map (ledB p [[1], [1]])) (pw := [a0, a1]) (a := 0) (b := 1) hp hI (by decide)
    ((dmd1 p 1 ((1 + 0) * x + ((a0 + 0) * y + 0))).trans (show Eqm p (1 * ((1 + 0) * x + ((a0 + 0) * y + 0))) (x + a0 * y) from ⟨0, by grind⟩))
    ((dmd1 p 1 ((1 + 0) * x + ((a1 + 0) * y + 0))).trans (show Eqm p (1 * ((1 + 0) * x + ((a1 + 0) * y + 0))) (x + a1 * y) from ⟨0, by grind⟩)) h01
  have w := prX_rw hp ([[((1 + 0) * x + ((a0 + 0) * y + 0)) % p], [((1 + 0) * x + ((a1 + 0) * y + 0)) % p]].map (ledB p [[1], [1]])) [a0, a1]
  exact rooX_eq (A := [[x]]) (B := [[y]]) (tb_1 hp hI (hm x (by simp)) rfl g.1 (mat_rw hp (fun a b => (w a b).1) 0 1)) (tb_1 hp hI (hm y (by simp)) rfl g.2 (mat_rw hp (fun a b => (w a b).2) 0 1))
/-- k = 3 -/
theorem dr_3 {p u0 v0 w0 u1 v1 w1 u2 v2 w2 m0 m1 m2 m3 m4 m5 : Int} (hp : Pk p) (hI : Iv p) (hm : Rw p [m0, m1, m2, m3, m4, m5]) (hu : Rw p [1, u0, u1, u2]) (c0 : Eqm p w0 (u0 * v0)) (c1 : Eqm p w1 (u1 * v1)) (c2 : Eqm p w2 (u2 * v2))
    (d01 : ¬ Eqm p (u0 - u1) 0) (d02 : ¬ Eqm p (u0 - u2) 0) (d12 : ¬ Eqm p (u1 - u2) 0) (h01 : (v0 - v1) % p ≠ 0) (h10 : (v1 - v0) % p ≠ 0) (h02 : (v0 - v2) % p ≠ 0) (h12 : (v1 - v2) % p ≠ 0) :
    rooX p 2 3 [[1, u0], [1, u1], [1, u2]] [v0, v1, v2] [[((1 + 0) * m0 + ((u0 + 0) * m1 + (0 * m2 + ((v0 + 0) * m3 + ((w0 + 0) * m4 + (0 * m5 + 0)))))) % p, (0 * m0 + ((1 + 0) * m1 + ((u0 + 0) * m2 + (0 * m3 + ((v0 + 0) * m4 + ((w0 + 0) * m5 + 0)))))) % p], [((1 + 0) * m0 + ((u1 + 0) * m1 + (0 * m2 + ((v1 + 0) * m3 + ((w1 + 0) * m4 + (0 * m5 + 0)))))) % p, (0 * m0 + ((1 + 0) * m1 + ((u1 + 0) * m2 + (0 * m3 + ((v1 + 0) * m4 + ((w1 + 0) * m5 + 0)))))) % p], [((1 + 0) * m0 + ((u2 + 0) * m1 + (0 * m2 + ((v2 + 0) * m3 + ((w2 + 0) * m4 + (0 * m5 + 0)))))) % p, (0 * m0 + ((1 + 0) * m1 + ((u2 + 0) * m2 + (0 * m3 + ((v2 + 0) * m4 + ((w2 + 0) * m5 + 0)))))) % p]] = [m0, m1, m2, m3, m4, m5] := by
  obtain ⟨r0, c0⟩ := c0
  obtain ⟨r1, c1⟩ := c1
  obtain ⟨r2, c2⟩ := c2
  have g01 := prX_ok (p := p) (f := (m0 + m1 * (u0 + u1) + m2 * u0 * u1)) (g := (m3 + m4 * (u0 + u1) + m5 * u0 * u1)) (T := [[((1 + 0) * m0 + ((u0 + 0) * m1 + (0 * m2 + ((v0 + 0) * m3 + ((w0 + 0) * m4 + (0 * m5 + 0)))))) % p, (0 * m0 + ((1 + 0) * m1 + ((u0 + 0) * m2 + (0 * m3 + ((v0 + 0) * m4 + ((w0 + 0) * m5 + 0)))))) % p], [((1 + 0) * m0 + ((u1 + 0) * m1 + (0 * m2 + ((v1 + 0) * m3 + ((w1 + 0) * m4 + (0 * m5 + 0)))))) % p, (0 * m0 + ((1 + 0) * m1 + ((u1 + 0) * m2 + (0 * m3 + ((v1 + 0) * m4 + ((w1 + 0) * m5 + 0)))))) % p], [((1 + 0) * m0 + ((u2 + 0) * m1 + (0 * m2 + ((v2 + 0) * m3 + ((w2 + 0) * m4 + (0 * m5 + 0)))))) % p, (0 * m0 + ((1 + 0) * m1 + ((u2 + 0) * m2 + (0 * m3 + ((v2 + 0) * m4 + ((w2 + 0) * m5 + 0)))))) % p]].map (ledB p [[1, u0], [1, u1], [1, u2]])) (pw := [v0, v1, v2]) (a := 0) (b := 1) hp hI (by decide)
    ((dmd3 p 1 u1 ((1 + 0) * m0 + ((u0 + 0) * m1 + (0 * m2 + ((v0 + 0) * m3 + ((w0 + 0) * m4 + (0 * m5 + 0)))))) (0 * m0 + ((1 + 0) * m1 + ((u0 + 0) * m2 + (0 * m3 + ((v0 + 0) * m4 + ((w0 + 0) * m5 + 0))))))).trans (show Eqm p (1 * ((1 + 0) * m0 + ((u0 + 0) * m1 + (0 * m2 + ((v0 + 0) * m3 + ((w0 + 0) * m4 + (0 * m5 + 0)))))) + u1 * (0 * m0 + ((1 + 0) * m1 + ((u0 + 0) * m2 + (0 * m3 + ((v0 + 0) * m4 + ((w0 + 0) * m5 + 0))))))) ((m0 + m1 * (u0 + u1) + m2 * u0 * u1) + v0 * (m3 + m4 * (u0 + u1) + m5 * u0 * u1)) from ⟨(m4 + u1 * m5) * r0, by rw [c0]; grind⟩))
    ((dmd3 p 1 u0 ((1 + 0) * m0 + ((u1 + 0) * m1 + (0 * m2 + ((v1 + 0) * m3 + ((w1 + 0) * m4 + (0 * m5 + 0)))))) (0 * m0 + ((1 + 0) * m1 + ((u1 + 0) * m2 + (0 * m3 + ((v1 + 0) * m4 + ((w1 + 0) * m5 + 0))))))).trans (show Eqm p (1 * ((1 + 0) * m0 + ((u1 + 0) * m1 + (0 * m2 + ((v1 + 0) * m3 + ((w1 + 0) * m4 + (0 * m5 + 0)))))) + u0 * (0 * m0 + ((1 + 0) * m1 + ((u1 + 0) * m2 + (0 * m3 + ((v1 + 0) * m4 + ((w1 + 0) * m5 + 0))))))) ((m0 + m1 * (u0 + u1) + m2 * u0 * u1) + v1 * (m3 + m4 * (u0 + u1) + m5 * u0 * u1)) from ⟨(m4 + u0 * m5) * r1, by rw [c1]; grind⟩)) h01
  have g02 := prX_ok (p := p) (f := (m0 + m1 * (u0 + u2) + m2 * u0 * u2)) (g := (m3 + m4 * (u0 + u2) + m5 * u0 * u2)) (T := [[((1 + 0) * m0 + ((u0 + 0) * m1 + (0 * m2 + ((v0 + 0) * m3 + ((w0 + 0) * m4 + (0 * m5 + 0)))))) % p, (0 * m0 + ((1 + 0) * m1 + ((u0 + 0) * m2 + (0 * m3 + ((v0 + 0) * m4 + ((w0 + 0) * m5 + 0)))))) % p], [((1 + 0) * m0 + ((u1 + 0) * m1 + (0 * m2 + ((v1 + 0) * m3 + ((w1 + 0) * m4 + (0 * m5 + 0)))))) % p, (0 * m0 + ((1 + 0) * m1 + ((u1 + 0) * m2 + (0 * m3 + ((v1 + 0) * m4 + ((w1 + 0) * m5 + 0)))))) % p], [((1 + 0) * m0 + ((u2 + 0) * m1 + (0 * m2 + ((v2 + 0) * m3 + ((w2 + 0) * m4 + (0 * m5 + 0)))))) % p, (0 * m0 + ((1 + 0) * m1 + ((u2 + 0) * m2 + (0 * m3 + ((v2 + 0) * m4 + ((w2 + 0) * m5 + 0)))))) % p]].map (ledB p [[1, u0], [1, u1], [1, u2]])) (pw := [v0, v1, v2]) (a := 0) (b := 2) hp hI (by decide)
    ((dmd3 p 1 u2 ((1 + 0) * m0 + ((u0 + 0) * m1 + (0 * m2 + ((v0 + 0) * m3 + ((w0 + 0) * m4 + (0 * m5 + 0)))))) (0 * m0 + ((1 + 0) * m1 + ((u0 + 0) * m2 + (0 * m3 + ((v0 + 0) * m4 + ((w0 + 0) * m5 + 0))))))).trans (show Eqm p (1 * ((1 + 0) * m0 + ((u0 + 0) * m1 + (0 * m2 + ((v0 + 0) * m3 + ((w0 + 0) * m4 + (0 * m5 + 0)))))) + u2 * (0 * m0 + ((1 + 0) * m1 + ((u0 + 0) * m2 + (0 * m3 + ((v0 + 0) * m4 + ((w0 + 0) * m5 + 0))))))) ((m0 + m1 * (u0 + u2) + m2 * u0 * u2) + v0 * (m3 + m4 * (u0 + u2) + m5 * u0 * u2)) from ⟨(m4 + u2 * m5) * r0, by rw [c0]; grind⟩))
    ((dmd3 p 1 u0 ((1 + 0) * m0 + ((u2 + 0) * m1 + (0 * m2 + ((v2 + 0) * m3 + ((w2 + 0) * m4 + (0 * m5 + 0)))))) (0 * m0 + ((1 + 0) * m1 + ((u2 + 0) * m2 + (0 * m3 + ((v2 + 0) * m4 + ((w2 + 0) * m5 + 0))))))).trans (show Eqm p (1 * ((1 + 0) * m0 + ((u2 + 0) * m1 + (0 * m2 + ((v2 + 0) * m3 + ((w2 + 0) * m4 + (0 * m5 + 0)))))) + u0 * (0 * m0 + ((1 + 0) * m1 + ((u2 + 0) * m2 + (0 * m3 + ((v2 + 0) * m4 + ((w2 + 0) * m5 + 0))))))) ((m0 + m1 * (u0 + u2) + m2 * u0 * u2) + v2 * (m3 + m4 * (u0 + u2) + m5 * u0 * u2)) from ⟨(m4 + u0 * m5) * r2, by rw [c2]; grind⟩)) h02
  have g10 := prX_ok (p := p) (f := (m0 + m1 * (u0 + u1) + m2 * u0 * u1)) (g := (m3 + m4 * (u0 + u1) + m5 * u0 * u1)) (T := [[((1 + 0) * m0 + ((u0 + 0) * m1 + (0 * m2 + ((v0 + 0) * m3 + ((w0 + 0) * m4 + (0 * m5 + 0)))))) % p, (0 * m0 + ((1 + 0) * m1 + ((u0 + 0) * m2 + (0 * m3 + ((v0 + 0) * m4 + ((w0 + 0) * m5 + 0)))))) % p], [((1 + 0) * m0 + ((u1 + 0) * m1 + (0 * m2 + ((v1 + 0) * m3 + ((w1 + 0) * m4 + (0 * m5 + 0)))))) % p, (0 * m0 + ((1 + 0) * m1 + ((u1 + 0) * m2 + (0 * m3 + ((v1 + 0) * m4 + ((w1 + 0) * m5 + 0)))))) % p], [((1 + 0) * m0 + ((u2 + 0) * m1 + (0 * m2 + ((v2 + 0) * m3 + ((w2 + 0) * m4 + (0 * m5 + 0)))))) % p, (0 * m0 + ((1 + 0) * m1 + ((u2 + 0) * m2 + (0 * m3 + ((v2 + 0) * m4 + ((w2 + 0) * m5 + 0)))))) % p]].map (ledB p [[1, u0], [1, u1], [1, u2]])) (pw := [v0, v1, v2]) (a := 1) (b := 0) hp hI (by decide)
    ((dmd3 p 1 u0 ((1 + 0) * m0 + ((u1 + 0) * m1 + (0 * m2 + ((v1 + 0) * m3 + ((w1 + 0) * m4 + (0 * m5 + 0)))))) (0 * m0 + ((1 + 0) * m1 + ((u1 + 0) * m2 + (0 * m3 + ((v1 + 0) * m4 + ((w1 + 0) * m5 + 0))))))).trans (show Eqm p (1 * ((1 + 0) * m0 + ((u1 + 0) * m1 + (0 * m2 + ((v1 + 0) * m3 + ((w1 + 0) * m4 + (0 * m5 + 0)))))) + u0 * (0 * m0 + ((1 + 0) * m1 + ((u1 + 0) * m2 + (0 * m3 + ((v1 + 0) * m4 + ((w1 + 0) * m5 + 0))))))) ((m0 + m1 * (u0 + u1) + m2 * u0 * u1) + v1 * (m3 + m4 * (u0 + u1) + m5 * u0 * u1)) from ⟨(m4 + u0 * m5) * r1, by rw [c1]; grind⟩))
    ((dmd3 p 1 u1 ((1 + 0) * m0 + ((u0 + 0) * m1 + (0 * m2 + ((v0 + 0) * m3 + ((w0 + 0) * m4 + (0 * m5 + 0)))))) (0 * m0 + ((1 + 0) * m1 + ((u0 + 0) * m2 + (0 * m3 + ((v0 + 0) * m4 + ((w0 + 0) * m5 + 0))))))).trans (show Eqm p (1 * ((1 + 0) * m0 + ((u0 + 0) * m1 + (0 * m2 + ((v0 + 0) * m3 + ((w0 + 0) * m4 + (0 * m5 + 0)))))) + u1 * (0 * m0 + ((1 + 0) * m1 + ((u0 + 0) * m2 + (0 * m3 + ((v0 + 0) * m4 + ((w0 + 0) * m5 + 0))))))) ((m0 + m1 * (u0 + u1) + m2 * u0 * u1) + v0 * (m3 + m4 * (u0 + u1) + m5 * u0 * u1)) from ⟨(m4 + u1 * m5) * r0, by rw [c0]; grind⟩)) h10
  have g12 := prX_ok (p := p) (f := (m0 + m1 * (u1 + u2) + m2 * u1 * u2)) (g := (m3 + m4 * (u1 + u2) + m5 * u1 * u2)) (T := [[((1 + 0) * m0 + ((u0 + 0) * m1 + (0 * m2 + ((v0 + 0) * m3 + ((w0 + 0) * m4 + (0 * m5 + 0)))))) % p, (0 * m0 + ((1 + 0) * m1 + ((u0 + 0) * m2 + (0 * m3 + ((v0 + 0) * m4 + ((w0 + 0) * m5 + 0)))))) % p], [((1 + 0) * m0 + ((u1 + 0) * m1 + (0 * m2 + ((v1 + 0) * m3 + ((w1 + 0) * m4 + (0 * m5 + 0)))))) % p, (0 * m0 + ((1 + 0) * m1 + ((u1 + 0) * m2 + (0 * m3 + ((v1 + 0) * m4 + ((w1 + 0) * m5 + 0)))))) % p], [((1 + 0) * m0 + ((u2 + 0) * m1 + (0 * m2 + ((v2 + 0) * m3 + ((w2 + 0) * m4 + (0 * m5 + 0)))))) % p, (0 * m0 + ((1 + 0) * m1 + ((u2 + 0) * m2 + (0 * m3 + ((v2 + 0) * m4 + ((w2 + 0) * m5 + 0)))))) % p]].map (ledB p [[1, u0], [1, u1], [1, u2]])) (pw := [v0, v1, v2]) (a := 1) (b := 2) hp hI (by decide)
    ((dmd3 p 1 u2 ((1 + 0) * m0 + ((u1 + 0) * m1 + (0 * m2 + ((v1 + 0) * m3 + ((w1 + 0) * m4 + (0 * m5 + 0)))))) (0 * m0 + ((1 + 0) * m1 + ((u1 + 0) * m2 + (0 * m3 + ((v1 + 0) * m4 + ((w1 + 0) * m5 + 0))))))).trans (show Eqm p (1 * ((1 + 0) * m0 + ((u1 + 0) * m1 + (0 * m2 + ((v1 + 0) * m3 + ((w1 + 0) * m4 + (0 * m5 + 0)))))) + u2 * (0 * m0 + ((1 + 0) * m1 + ((u1 + 0) * m2 + (0 * m3 + ((v1 + 0) * m4 + ((w1 + 0) * m5 + 0))))))) ((m0 + m1 * (u1 + u2) + m2 * u1 * u2) + v1 * (m3 + m4 * (u1 + u2) + m5 * u1 * u2)) from ⟨(m4 + u2 * m5) * r1, by rw [c1]; grind⟩))
    ((dmd3 p 1 u1 ((1 + 0) * m0 + ((u2 + 0) * m1 + (0 * m2 + ((v2 + 0) * m3 + ((w2 + 0) * m4 + (0 * m5 + 0)))))) (0 * m0 + ((1 + 0) * m1 + ((u2 + 0) * m2 + (0 * m3 + ((v2 + 0) * m4 + ((w2 + 0) * m5 + 0))))))).trans (show Eqm p (1 * ((1 + 0) * m0 + ((u2 + 0) * m1 + (0 * m2 + ((v2 + 0) * m3 + ((w2 + 0) * m4 + (0 * m5 + 0)))))) + u1 * (0 * m0 + ((1 + 0) * m1 + ((u2 + 0) * m2 + (0 * m3 + ((v2 + 0) * m4 + ((w2 + 0) * m5 + 0))))))) ((m0 + m1 * (u1 + u2) + m2 * u1 * u2) + v2 * (m3 + m4 * (u1 + u2) + m5 * u1 * u2)) from ⟨(m4 + u1 * m5) * r2, by rw [c2]; grind⟩)) h12
  have w := prX_rw hp ([[((1 + 0) * m0 + ((u0 + 0) * m1 + (0 * m2 + ((v0 + 0) * m3 + ((w0 + 0) * m4 + (0 * m5 + 0)))))) % p, (0 * m0 + ((1 + 0) * m1 + ((u0 + 0) * m2 + (0 * m3 + ((v0 + 0) * m4 + ((w0 + 0) * m5 + 0)))))) % p], [((1 + 0) * m0 + ((u1 + 0) * m1 + (0 * m2 + ((v1 + 0) * m3 + ((w1 + 0) * m4 + (0 * m5 + 0)))))) % p, (0 * m0 + ((1 + 0) * m1 + ((u1 + 0) * m2 + (0 * m3 + ((v1 + 0) * m4 + ((w1 + 0) * m5 + 0)))))) % p], [((1 + 0) * m0 + ((u2 + 0) * m1 + (0 * m2 + ((v2 + 0) * m3 + ((w2 + 0) * m4 + (0 * m5 + 0)))))) % p, (0 * m0 + ((1 + 0) * m1 + ((u2 + 0) * m2 + (0 * m3 + ((v2 + 0) * m4 + ((w2 + 0) * m5 + 0)))))) % p]].map (ledB p [[1, u0], [1, u1], [1, u2]])) [v0, v1, v2]
  have g10a : Eqm p (prX p ([[((1 + 0) * m0 + ((u0 + 0) * m1 + (0 * m2 + ((v0 + 0) * m3 + ((w0 + 0) * m4 + (0 * m5 + 0)))))) % p, (0 * m0 + ((1 + 0) * m1 + ((u0 + 0) * m2 + (0 * m3 + ((v0 + 0) * m4 + ((w0 + 0) * m5 + 0)))))) % p], [((1 + 0) * m0 + ((u1 + 0) * m1 + (0 * m2 + ((v1 + 0) * m3 + ((w1 + 0) * m4 + (0 * m5 + 0)))))) % p, (0 * m0 + ((1 + 0) * m1 + ((u1 + 0) * m2 + (0 * m3 + ((v1 + 0) * m4 + ((w1 + 0) * m5 + 0)))))) % p], [((1 + 0) * m0 + ((u2 + 0) * m1 + (0 * m2 + ((v2 + 0) * m3 + ((w2 + 0) * m4 + (0 * m5 + 0)))))) % p, (0 * m0 + ((1 + 0) * m1 + ((u2 + 0) * m2 + (0 * m3 + ((v2 + 0) * m4 + ((w2 + 0) * m5 + 0)))))) % p]].map (ledB p [[1, u0], [1, u1], [1, u2]])) [v0, v1, v2] 1 0).1 (m0 + m1 * (u1 + u0) + m2 * u1 * u0) := g10.1.trans ⟨0, by grind⟩
  have g10b : Eqm p (prX p ([[((1 + 0) * m0 + ((u0 + 0) * m1 + (0 * m2 + ((v0 + 0) * m3 + ((w0 + 0) * m4 + (0 * m5 + 0)))))) % p, (0 * m0 + ((1 + 0) * m1 + ((u0 + 0) * m2 + (0 * m3 + ((v0 + 0) * m4 + ((w0 + 0) * m5 + 0)))))) % p], [((1 + 0) * m0 + ((u1 + 0) * m1 + (0 * m2 + ((v1 + 0) * m3 + ((w1 + 0) * m4 + (0 * m5 + 0)))))) % p, (0 * m0 + ((1 + 0) * m1 + ((u1 + 0) * m2 + (0 * m3 + ((v1 + 0) * m4 + ((w1 + 0) * m5 + 0)))))) % p], [((1 + 0) * m0 + ((u2 + 0) * m1 + (0 * m2 + ((v2 + 0) * m3 + ((w2 + 0) * m4 + (0 * m5 + 0)))))) % p, (0 * m0 + ((1 + 0) * m1 + ((u2 + 0) * m2 + (0 * m3 + ((v2 + 0) * m4 + ((w2 + 0) * m5 + 0)))))) % p]].map (ledB p [[1, u0], [1, u1], [1, u2]])) [v0, v1, v2] 1 0).2 (m3 + m4 * (u1 + u0) + m5 * u1 * u0) := g10.2.trans ⟨0, by grind⟩
  exact rooX_eq (A := [[m0, m1], [m1, m2]]) (B := [[m3, m4], [m4, m5]])
    (tb_2 hp hI (fun q hq => hm q (by simp only [List.mem_cons, List.not_mem_nil, or_false] at hq ⊢; omega)) hu d01 d02 d12 g01.1 g02.1 g10a g12.1 (mat_rw hp fun a b => (w a b).1))
    (tb_2 hp hI (fun q hq => hm q (by simp only [List.mem_cons, List.not_mem_nil, or_false] at hq ⊢; omega)) hu d01 d02 d12 g01.2 g02.2 g10b g12.2 (mat_rw hp fun a b => (w a b).2))
end Lm
set_option maxRecDepth 100000
set_option maxHeartbeats 4000000
/-! The points: distinct; for room their powers too. -/
namespace Lm
theorem roomy_ok (p : Int) (m : Nat) : (roomyB p m).Pairwise (fun x y => powB p x m ≠ powB p y m) ∧ ∀ x ∈ roomyB p m, 0 < x ∧ (x < p ∨ p ≤ 1) := by
  have z : ∀ q ∈ (powersB p m).zipIdx, q.1 = powB p ((q.2 : Int) + 1) m ∧ q.2 < (p - 1).toNat := fun q hq => by
    obtain ⟨i, hi, e⟩ := List.getElem_of_mem hq
    rw [List.length_zipIdx] at hi
    have hi' : i < (p - 1).toNat := by simpa [powersB] using hi
    rw [List.getElem_zipIdx] at e
    subst e
    refine ⟨?_, by simpa using hi'⟩
    simp [powersB, Int.add_comm]
  have pw : (powersB p m).zipIdx.Pairwise fun q r => r.1 ∉ (powersB p m).take r.2 → q.1 ≠ r.1 := by
    refine List.pairwise_iff_getElem.mpr fun i j hi hj hij hn e => hn ?_
    rw [List.getElem_zipIdx] at e hn ⊢
    rw [List.getElem_zipIdx] at e
    rw [List.length_zipIdx] at hi hj
    simp only [Nat.zero_add] at e hn ⊢
    rw [← e]
    exact List.mem_iff_getElem.mpr ⟨i, by rw [List.length_take]; omega, by rw [List.getElem_take]⟩
  refine ⟨?_, fun x hx => ?_⟩
  · unfold roomyB
    refine List.pairwise_map.mpr ((pw.filter _).imp_of_mem fun {q r} hq hr h => ?_)
    obtain ⟨h1, _⟩ := z q (List.mem_filter.mp hq).1
    obtain ⟨h2, _⟩ := z r (List.mem_filter.mp hr).1
    have h3 := (List.mem_filter.mp hr).2
    rw [← h1, ← h2]
    exact h (by simpa using h3)
  · unfold roomyB at hx
    obtain ⟨q, hq, rfl⟩ := List.mem_map.mp hx
    obtain ⟨_, h2⟩ := z q (List.mem_filter.mp hq).1
    omega
/-- the point of a shelf -/
abbrev ptB (c : Pl) (s : Nat) : Int := (pts c).getD s 0
theorem pt_ok {c : Pl} (hc : c.Ok) {s : Nat} (hs : s < c.n) : 0 < ptB c s ∧ ptB c s < c.p := by
  have hp := pr_bd hc.pr
  have hn := hc.n
  unfold ptB pts
  cases q : c.rm with
  | false =>
    rw [if_neg Bool.false_ne_true, getD_map (fun (i : Nat) => 1 + (i : Int)) (List.range c.n) s 0 0 (by simpa using hs), getD_eq _ _ _ (by simpa using hs), List.getElem_range]
    omega
  | true =>
    have hr := hc.ro q
    rw [if_pos rfl]
    have hl : s < ((roomyB c.p (c.k - 1)).take c.n).length := by rw [List.length_take]; omega
    rw [getD_eq _ _ _ hl]
    have := (roomy_ok c.p (c.k - 1)).2 _ (List.mem_of_mem_take (List.getElem_mem hl))
    omega
theorem pt_ne {c : Pl} (hc : c.Ok) {s t : Nat} (hs : s < c.n) (ht : t < c.n) (h : s ≠ t) : ptB c s ≠ ptB c t ∧ (c.rm = true → lastB c s ≠ lastB c t) := by
  have hn := hc.n
  cases q : c.rm with
  | false =>
    refine ⟨?_, fun z => by cases z⟩
    unfold ptB pts
    rw [q, if_neg Bool.false_ne_true, getD_map (fun (i : Nat) => 1 + (i : Int)) (List.range c.n) s 0 0 (by simpa using hs), getD_eq _ _ _ (by simpa using hs), getD_map (fun (i : Nat) => 1 + (i : Int)) (List.range c.n) t 0 0 (by simpa using ht), getD_eq _ _ _ (by simpa using ht), List.getElem_range, List.getElem_range]
    omega
  | true =>
    have hr := hc.ro q
    have key : ∀ a b : Nat, a < b → b < c.n → lastB c a ≠ lastB c b := fun a b hab hb => by
      have h1 := List.pairwise_iff_getElem.mp (roomy_ok c.p (c.k - 1)).1 a b (by omega) (by omega) hab
      have e : ∀ x : Nat, (hx : x < c.n) → ptB c x = (roomyB c.p (c.k - 1))[x]'(by omega) := fun x hx => by
        unfold ptB pts
        rw [q, if_pos rfl, getD_eq _ _ _ (by rw [List.length_take]; omega), List.getElem_take]
      unfold lastB
      rw [show (pts c).getD a 0 = _ from e a (by omega), show (pts c).getD b 0 = _ from e b hb]
      exact h1
    have hl : lastB c s ≠ lastB c t := by
      rcases Nat.lt_or_gt_of_ne h with h | h
      · exact key s t h ht
      · exact fun e => key t s h hs e.symm
    exact ⟨fun e => hl (by unfold lastB; rw [show (pts c).getD s 0 = (pts c).getD t 0 from e]), fun _ => hl⟩
theorem pw1 {c : Pl} (hc : c.Ok) {s : Nat} (hs : s < c.n) : powB c.p (ptB c s) 1 = ptB c s := by
  have := pt_ok hc hs
  show 1 * ptB c s % c.p = ptB c s
  rw [Int.one_mul, Int.emod_eq_of_lt (by omega) this.2]
theorem ne_md {p a b : Int} (ha : 0 ≤ a ∧ a < p) (hb : 0 ≤ b ∧ b < p) (h : a ≠ b) : ¬ Eqm p (a - b) 0 := fun z => h (Eqm.eq (by
  obtain ⟨t, z⟩ := z
  exact ⟨t, by omega⟩) ha hb)
theorem ne_md' {p a b : Int} (ha : 0 ≤ a ∧ a < p) (hb : 0 ≤ b ∧ b < p) (h : a ≠ b) : (a - b) % p ≠ 0 := fun z => ne_md ha hb h (Eqm.z z)
theorem d_pt {c : Pl} (hc : c.Ok) {s t : Nat} (hs : s < c.n) (ht : t < c.n) (h : s ≠ t) : ¬ Eqm c.p (powB c.p (ptB c s) 1 - powB c.p (ptB c t) 1) 0 := by
  have a := pt_ok hc hs
  have b := pt_ok hc ht
  rw [pw1 hc hs, pw1 hc ht]
  exact ne_md (by omega) (by omega) (pt_ne hc hs ht h).1
theorem d_lst {c : Pl} (hc : c.Ok) (q : c.rm = true) {s t : Nat} (hs : s < c.n) (ht : t < c.n) (h : s ≠ t) : (lastB c s - lastB c t) % c.p ≠ 0 := ne_md' (last_rw hc s) (last_rw hc t) ((pt_ne hc hs ht h).2 q)
theorem pw_sq (p x : Int) : Eqm p (powB p x 2) (powB p x 1 * powB p x 1) := by
  show Eqm p (1 * x % p * x % p) (1 * x % p * (1 * x % p))
  refine (Eqm.of_md _).trans ((Eqm.refl p _).mul ?_)
  rw [Int.one_mul]
  exact (Eqm.of_md x).symm
theorem pw_cb (p x : Int) : Eqm p (powB p x 3) (powB p x 1 * powB p x 2) := by
  show Eqm p (powB p x 2 * x % p) (1 * x % p * powB p x 2)
  refine (Eqm.of_md _).trans ?_
  rw [Int.mul_comm (1 * x % p), Int.one_mul]
  exact (Eqm.refl p _).mul (Eqm.of_md x).symm
end Lm
set_option maxRecDepth 100000
set_option maxHeartbeats 4000000
/-! The message told from its pieces. -/
namespace Lm
theorem one_ok {c : Pl} (hc : c.Ok) : (0 : Int) ≤ 1 ∧ (1 : Int) < c.p := by
  have := pr_bd hc.pr
  omega
theorem pb_ok {p : Int} (hp : Pk p) (x : Int) (n : Nat) : 0 ≤ powB p x (n + 1) ∧ powB p x (n + 1) < p := md_ok hp _
theorem len1 {α : Type} {l : List α} (h : l.length = 1) : ∃ a, l = [a] := List.length_eq_one_iff.mp h
theorem len2 {α : Type} {l : List α} (h : l.length = 2) : ∃ a b, l = [a, b] := by
  match l, h with
  | [a, b], _ => exact ⟨a, b, rfl⟩
theorem len3 {α : Type} {l : List α} (h : l.length = 3) : ∃ a b c, l = [a, b, c] := by
  match l, h with
  | [a, b, c], _ => exact ⟨a, b, c, rfl⟩
theorem len5 {α : Type} {l : List α} (h : l.length = 5) : ∃ a b c d e, l = [a, b, c, d, e] := by
  match l, h with
  | [a, b, c, d, e], _ => exact ⟨a, b, c, d, e, rfl⟩
theorem len6 {α : Type} {l : List α} (h : l.length = 6) : ∃ a b c d e f, l = [a, b, c, d, e, f] := by
  match l, h with
  | [a, b, c, d, e, f], _ => exact ⟨a, b, c, d, e, f, rfl⟩
theorem len9 {α : Type} {l : List α} (h : l.length = 9) : ∃ a b c d e f g h i, l = [a, b, c, d, e, f, g, h, i] := by
  match l, h with
  | [a, b, c, d, e, f, g, h, i], _ => exact ⟨a, b, c, d, e, f, g, h, i, rfl⟩
theorem te_11 {p : Int} {n : Nat} (hc : (⟨p, false, n, 1, 1⟩ : Pl).Ok) {sh : List Nat} (hs : Sh (⟨p, false, n, 1, 1⟩ : Pl) sh) {m : List Int} (hm : MsgOk (⟨p, false, n, 1, 1⟩ : Pl) m) : letB (⟨p, false, n, 1, 1⟩ : Pl) sh (sh.map (pieceB (⟨p, false, n, 1, 1⟩ : Pl) m)) = m := by
  obtain ⟨s0, rfl⟩ := len1 (show sh.length = 1 from hs.l)
  obtain ⟨m0, rfl⟩ := len1 (hm.1.trans (by simp [sizeB]))
  have hp := pr_pk hc.pr
  have hI := pr_iv hc.pr
  have nd := hs.nd
  simp only [List.nodup_cons, List.mem_cons, List.not_mem_nil, or_false, not_or] at nd
  have l0 := hs.lt s0 (by simp)
  rw [let_eq]
  exact dl_11  hp hI (inj1 hp hI (fun z => by have b := one_ok hc; have := z.eq b (by have := hp.1; omega); omega)) (rw_cons (one_ok hc) rw_nil) hm.2
theorem te_12 {p : Int} {n : Nat} (hc : (⟨p, false, n, 1, 2⟩ : Pl).Ok) {sh : List Nat} (hs : Sh (⟨p, false, n, 1, 2⟩ : Pl) sh) {m : List Int} (hm : MsgOk (⟨p, false, n, 1, 2⟩ : Pl) m) : letB (⟨p, false, n, 1, 2⟩ : Pl) sh (sh.map (pieceB (⟨p, false, n, 1, 2⟩ : Pl) m)) = m := by
  obtain ⟨s0, rfl⟩ := len1 (show sh.length = 1 from hs.l)
  obtain ⟨m0, m1, rfl⟩ := len2 (hm.1.trans (by simp [sizeB]))
  have hp := pr_pk hc.pr
  have hI := pr_iv hc.pr
  have nd := hs.nd
  simp only [List.nodup_cons, List.mem_cons, List.not_mem_nil, or_false, not_or] at nd
  have l0 := hs.lt s0 (by simp)
  rw [let_eq]
  exact dl_12 (u0 := powB p (ptB (⟨p, false, n, 1, 2⟩ : Pl) s0) 1) hp hI (inj1 hp hI (fun z => by have b := one_ok hc; have := z.eq b (by have := hp.1; omega); omega)) (rw_cons (one_ok hc) (rw_cons (pb_ok hp _ 0) rw_nil)) hm.2
theorem te_22 {p : Int} {n : Nat} (hc : (⟨p, false, n, 2, 2⟩ : Pl).Ok) {sh : List Nat} (hs : Sh (⟨p, false, n, 2, 2⟩ : Pl) sh) {m : List Int} (hm : MsgOk (⟨p, false, n, 2, 2⟩ : Pl) m) : letB (⟨p, false, n, 2, 2⟩ : Pl) sh (sh.map (pieceB (⟨p, false, n, 2, 2⟩ : Pl) m)) = m := by
  obtain ⟨s0, s1, rfl⟩ := len2 (show sh.length = 2 from hs.l)
  obtain ⟨m0, m1, m2, rfl⟩ := len3 (hm.1.trans (by simp [sizeB]))
  have hp := pr_pk hc.pr
  have hI := pr_iv hc.pr
  have nd := hs.nd
  simp only [List.nodup_cons, List.mem_cons, List.not_mem_nil, or_false, not_or] at nd
  have l0 := hs.lt s0 (by simp)
  have l1 := hs.lt s1 (by simp)
  rw [let_eq]
  exact dl_22 (u0 := powB p (ptB (⟨p, false, n, 2, 2⟩ : Pl) s0) 1) (u1 := powB p (ptB (⟨p, false, n, 2, 2⟩ : Pl) s1) 1) hp hI (inj2 hp hI (d_pt hc l0 l1 (fun e => nd.1 e))) (rw_cons (one_ok hc) (rw_cons (pb_ok hp _ 0) (rw_cons (pb_ok hp _ 0) rw_nil))) hm.2
theorem te_23 {p : Int} {n : Nat} (hc : (⟨p, false, n, 2, 3⟩ : Pl).Ok) {sh : List Nat} (hs : Sh (⟨p, false, n, 2, 3⟩ : Pl) sh) {m : List Int} (hm : MsgOk (⟨p, false, n, 2, 3⟩ : Pl) m) : letB (⟨p, false, n, 2, 3⟩ : Pl) sh (sh.map (pieceB (⟨p, false, n, 2, 3⟩ : Pl) m)) = m := by
  obtain ⟨s0, s1, rfl⟩ := len2 (show sh.length = 2 from hs.l)
  obtain ⟨m0, m1, m2, m3, m4, rfl⟩ := len5 (hm.1.trans (by simp [sizeB]))
  have hp := pr_pk hc.pr
  have hI := pr_iv hc.pr
  have nd := hs.nd
  simp only [List.nodup_cons, List.mem_cons, List.not_mem_nil, or_false, not_or] at nd
  have l0 := hs.lt s0 (by simp)
  have l1 := hs.lt s1 (by simp)
  rw [let_eq]
  exact dl_23 (u0 := powB p (ptB (⟨p, false, n, 2, 3⟩ : Pl) s0) 1) (v0 := powB p (ptB (⟨p, false, n, 2, 3⟩ : Pl) s0) 2) (u1 := powB p (ptB (⟨p, false, n, 2, 3⟩ : Pl) s1) 1) (v1 := powB p (ptB (⟨p, false, n, 2, 3⟩ : Pl) s1) 2) hp hI (inj2 hp hI (d_pt hc l0 l1 (fun e => nd.1 e))) (rw_cons (one_ok hc) (rw_cons (pb_ok hp _ 0) (rw_cons (pb_ok hp _ 1) (rw_cons (pb_ok hp _ 0) (rw_cons (pb_ok hp _ 1) rw_nil))))) hm.2
theorem te_33 {p : Int} {n : Nat} (hc : (⟨p, false, n, 3, 3⟩ : Pl).Ok) {sh : List Nat} (hs : Sh (⟨p, false, n, 3, 3⟩ : Pl) sh) {m : List Int} (hm : MsgOk (⟨p, false, n, 3, 3⟩ : Pl) m) : letB (⟨p, false, n, 3, 3⟩ : Pl) sh (sh.map (pieceB (⟨p, false, n, 3, 3⟩ : Pl) m)) = m := by
  obtain ⟨s0, s1, s2, rfl⟩ := len3 (show sh.length = 3 from hs.l)
  obtain ⟨m0, m1, m2, m3, m4, m5, rfl⟩ := len6 (hm.1.trans (by simp [sizeB]))
  have hp := pr_pk hc.pr
  have hI := pr_iv hc.pr
  have nd := hs.nd
  simp only [List.nodup_cons, List.mem_cons, List.not_mem_nil, or_false, not_or] at nd
  have l0 := hs.lt s0 (by simp)
  have l1 := hs.lt s1 (by simp)
  have l2 := hs.lt s2 (by simp)
  rw [let_eq]
  exact dl_33 (u0 := powB p (ptB (⟨p, false, n, 3, 3⟩ : Pl) s0) 1) (v0 := powB p (ptB (⟨p, false, n, 3, 3⟩ : Pl) s0) 2) (u1 := powB p (ptB (⟨p, false, n, 3, 3⟩ : Pl) s1) 1) (v1 := powB p (ptB (⟨p, false, n, 3, 3⟩ : Pl) s1) 2) (u2 := powB p (ptB (⟨p, false, n, 3, 3⟩ : Pl) s2) 1) (v2 := powB p (ptB (⟨p, false, n, 3, 3⟩ : Pl) s2) 2) hp hI (inj3 hp hI (pw_sq _ _) (pw_sq _ _) (pw_sq _ _) (d_pt hc l0 l1 (fun e => nd.1.1 e)) (d_pt hc l0 l2 (fun e => nd.1.2 e)) (d_pt hc l1 l2 (fun e => nd.2.1 e))) (rw_cons (one_ok hc) (rw_cons (pb_ok hp _ 0) (rw_cons (pb_ok hp _ 1) (rw_cons (pb_ok hp _ 0) (rw_cons (pb_ok hp _ 1) (rw_cons (pb_ok hp _ 0) (rw_cons (pb_ok hp _ 1) rw_nil))))))) hm.2
theorem te_34 {p : Int} {n : Nat} (hc : (⟨p, false, n, 3, 4⟩ : Pl).Ok) {sh : List Nat} (hs : Sh (⟨p, false, n, 3, 4⟩ : Pl) sh) {m : List Int} (hm : MsgOk (⟨p, false, n, 3, 4⟩ : Pl) m) : letB (⟨p, false, n, 3, 4⟩ : Pl) sh (sh.map (pieceB (⟨p, false, n, 3, 4⟩ : Pl) m)) = m := by
  obtain ⟨s0, s1, s2, rfl⟩ := len3 (show sh.length = 3 from hs.l)
  obtain ⟨m0, m1, m2, m3, m4, m5, m6, m7, m8, rfl⟩ := len9 (hm.1.trans (by simp [sizeB]))
  have hp := pr_pk hc.pr
  have hI := pr_iv hc.pr
  have nd := hs.nd
  simp only [List.nodup_cons, List.mem_cons, List.not_mem_nil, or_false, not_or] at nd
  have l0 := hs.lt s0 (by simp)
  have l1 := hs.lt s1 (by simp)
  have l2 := hs.lt s2 (by simp)
  rw [let_eq]
  exact dl_34 (u0 := powB p (ptB (⟨p, false, n, 3, 4⟩ : Pl) s0) 1) (v0 := powB p (ptB (⟨p, false, n, 3, 4⟩ : Pl) s0) 2) (w0 := powB p (ptB (⟨p, false, n, 3, 4⟩ : Pl) s0) 3) (u1 := powB p (ptB (⟨p, false, n, 3, 4⟩ : Pl) s1) 1) (v1 := powB p (ptB (⟨p, false, n, 3, 4⟩ : Pl) s1) 2) (w1 := powB p (ptB (⟨p, false, n, 3, 4⟩ : Pl) s1) 3) (u2 := powB p (ptB (⟨p, false, n, 3, 4⟩ : Pl) s2) 1) (v2 := powB p (ptB (⟨p, false, n, 3, 4⟩ : Pl) s2) 2) (w2 := powB p (ptB (⟨p, false, n, 3, 4⟩ : Pl) s2) 3) hp hI (inj3 hp hI (pw_sq _ _) (pw_sq _ _) (pw_sq _ _) (d_pt hc l0 l1 (fun e => nd.1.1 e)) (d_pt hc l0 l2 (fun e => nd.1.2 e)) (d_pt hc l1 l2 (fun e => nd.2.1 e))) (rw_cons (one_ok hc) (rw_cons (pb_ok hp _ 0) (rw_cons (pb_ok hp _ 1) (rw_cons (pb_ok hp _ 2) (rw_cons (pb_ok hp _ 0) (rw_cons (pb_ok hp _ 1) (rw_cons (pb_ok hp _ 2) (rw_cons (pb_ok hp _ 0) (rw_cons (pb_ok hp _ 1) (rw_cons (pb_ok hp _ 2) rw_nil)))))))))) hm.2
end Lm
set_option maxRecDepth 100000
set_option maxHeartbeats 4000000
/-! The message told from its pieces: room; all schemes; one message for k pieces. -/
namespace Lm
theorem te_r2 {p : Int} {n : Nat} (hc : (⟨p, true, n, 2, 2⟩ : Pl).Ok) {sh : List Nat} (hs : Sh (⟨p, true, n, 2, 2⟩ : Pl) sh) {m : List Int} (hm : MsgOk (⟨p, true, n, 2, 2⟩ : Pl) m) : rooB (⟨p, true, n, 2, 2⟩ : Pl) sh (sh.map (pieceB (⟨p, true, n, 2, 2⟩ : Pl) m)) = m := by
  obtain ⟨s0, s1, rfl⟩ := len2 (show sh.length = 2 from hs.l)
  obtain ⟨m0, m1, rfl⟩ := len2 (hm.1.trans (by simp [sizeB]))
  have hp := pr_pk hc.pr
  have hI := pr_iv hc.pr
  have nd := hs.nd
  simp only [List.nodup_cons, List.mem_cons, List.not_mem_nil, or_false, not_or] at nd
  have l0 := hs.lt s0 (by simp)
  have l1 := hs.lt s1 (by simp)
  rw [roo_eq]
  exact dr_2 (a0 := lastB (⟨p, true, n, 2, 2⟩ : Pl) s0) (a1 := lastB (⟨p, true, n, 2, 2⟩ : Pl) s1) hp hI hm.2 (d_lst hc rfl l0 l1 fun e => nd.1 e)
theorem te_r4 {p : Int} {n : Nat} (hc : (⟨p, true, n, 3, 4⟩ : Pl).Ok) {sh : List Nat} (hs : Sh (⟨p, true, n, 3, 4⟩ : Pl) sh) {m : List Int} (hm : MsgOk (⟨p, true, n, 3, 4⟩ : Pl) m) : rooB (⟨p, true, n, 3, 4⟩ : Pl) sh (sh.map (pieceB (⟨p, true, n, 3, 4⟩ : Pl) m)) = m := by
  obtain ⟨s0, s1, s2, rfl⟩ := len3 (show sh.length = 3 from hs.l)
  obtain ⟨m0, m1, m2, m3, m4, m5, rfl⟩ := len6 (hm.1.trans (by simp [sizeB]))
  have hp := pr_pk hc.pr
  have hI := pr_iv hc.pr
  have nd := hs.nd
  simp only [List.nodup_cons, List.mem_cons, List.not_mem_nil, or_false, not_or] at nd
  have l0 := hs.lt s0 (by simp)
  have l1 := hs.lt s1 (by simp)
  have l2 := hs.lt s2 (by simp)
  rw [roo_eq]
  exact dr_3 (u0 := powB p (ptB (⟨p, true, n, 3, 4⟩ : Pl) s0) 1) (v0 := powB p (ptB (⟨p, true, n, 3, 4⟩ : Pl) s0) 2) (w0 := powB p (ptB (⟨p, true, n, 3, 4⟩ : Pl) s0) 3)
    (u1 := powB p (ptB (⟨p, true, n, 3, 4⟩ : Pl) s1) 1) (v1 := powB p (ptB (⟨p, true, n, 3, 4⟩ : Pl) s1) 2) (w1 := powB p (ptB (⟨p, true, n, 3, 4⟩ : Pl) s1) 3)
    (u2 := powB p (ptB (⟨p, true, n, 3, 4⟩ : Pl) s2) 1) (v2 := powB p (ptB (⟨p, true, n, 3, 4⟩ : Pl) s2) 2) (w2 := powB p (ptB (⟨p, true, n, 3, 4⟩ : Pl) s2) 3)
    hp hI hm.2 (rw_cons (one_ok hc) (rw_cons (pb_ok hp _ 0) (rw_cons (pb_ok hp _ 0) (rw_cons (pb_ok hp _ 0) rw_nil)))) (pw_cb _ _) (pw_cb _ _) (pw_cb _ _)
    (d_pt hc l0 l1 fun e => nd.1.1 e) (d_pt hc l0 l2 fun e => nd.1.2 e) (d_pt hc l1 l2 fun e => nd.2.1 e)
    (d_lst hc rfl l0 l1 fun e => nd.1.1 e) (d_lst hc rfl l1 l0 fun e => nd.1.1 e.symm) (d_lst hc rfl l0 l2 fun e => nd.1.2 e) (d_lst hc rfl l1 l2 fun e => nd.2.1 e)
/-- the message, told from its own pieces -/
theorem told_enc {c : Pl} (hc : c.Ok) {sh : List Nat} (hs : Sh c sh) {m : List Int} (hm : MsgOk c m) : toldM c sh (sh.map (pieceB c m)) = m := by
  have h := hc.shp
  obtain ⟨p, rm, n, k, d⟩ := c
  unfold toldM
  rcases h with ⟨q, h⟩ | ⟨q, h⟩
  · have q : rm = false := q
    subst q
    rw [if_neg Bool.false_ne_true]
    rcases h with ⟨h1, h2⟩ | ⟨h1, h2⟩ | ⟨h1, h2⟩ | ⟨h1, h2⟩ | ⟨h1, h2⟩ | ⟨h1, h2⟩ <;> (have h1 : k = _ := h1; have h2 : d = _ := h2; subst h1 h2)
    · exact te_11 hc hs hm
    · exact te_12 hc hs hm
    · exact te_22 hc hs hm
    · exact te_23 hc hs hm
    · exact te_33 hc hs hm
    · exact te_34 hc hs hm
  · have q : rm = true := q
    subst q
    rw [if_pos rfl]
    rcases h with ⟨h1, h2⟩ | ⟨h1, h2⟩ <;> (have h1 : k = _ := h1; have h2 : d = _ := h2; subst h1 h2)
    · exact te_r2 hc hs hm
    · exact te_r4 hc hs hm
theorem room_ok {c : Pl} (hc : c.Ok) (q : c.rm = true) {sh : List Nat} (hs : Sh c sh) : RoomOk c sh := by
  have pw : ∀ a b, a < c.k → b < c.k → a ≠ b → ((pwB c sh).getD a 0 - (pwB c sh).getD b 0) % c.p ≠ 0 := fun a b ha hb hab => by
    have la : a < sh.length := by rw [hs.l]; exact ha
    have lb : b < sh.length := by rw [hs.l]; exact hb
    unfold pwB
    rw [getD_map (lastB c) sh a 0 0 la, getD_map (lastB c) sh b 0 0 lb, getD_eq _ _ _ la, getD_eq _ _ _ lb]
    refine d_lst hc q (hs.lt _ (List.getElem_mem la)) (hs.lt _ (List.getElem_mem lb)) fun e => ?_
    rcases Nat.lt_or_gt_of_ne hab with h | h
    · exact List.pairwise_iff_getElem.mp hs.nd a b la lb h e
    · exact List.pairwise_iff_getElem.mp hs.nd b a lb la h e.symm
  refine ⟨pw, ?_⟩
  have h := hc.shp
  obtain ⟨p, rm, n, k, d⟩ := c
  have q : rm = true := q
  subst q
  have hp : Pk p := pr_pk hc.pr
  have hI : Iv p := pr_iv hc.pr
  have nd := hs.nd
  rcases h with ⟨h, _⟩ | ⟨_, h⟩
  · cases h
  rcases h with ⟨h1, h2⟩ | ⟨h1, h2⟩ <;> (have h1 : k = _ := h1; have h2 : d = _ := h2; subst h1 h2)
  · obtain ⟨s0, s1, rfl⟩ := len2 (show sh.length = 2 from hs.l)
    intro a ha
    have ha : a < 1 := ha
    obtain rfl : a = 0 := by omega
    exact inj1 (a := 1) hp hI (fun z => by have b := one_ok hc; have := z.eq b (by have := hp.1; omega); omega)
  · obtain ⟨s0, s1, s2, rfl⟩ := len3 (show sh.length = 3 from hs.l)
    simp only [List.nodup_cons, List.mem_cons, List.not_mem_nil, or_false, not_or] at nd
    have l0 := hs.lt s0 (by simp)
    have l1 := hs.lt s1 (by simp)
    have l2 := hs.lt s2 (by simp)
    intro a ha
    have ha : a < 2 := ha
    obtain rfl | rfl : a = 0 ∨ a = 1 := by omega
    · exact inj2 hp hI (d_pt hc l1 l2 fun e => nd.2.1 e)
    · exact inj2 hp hI (d_pt hc l0 l2 fun e => nd.1.2 e)
end Lm
set_option maxRecDepth 100000
set_option maxHeartbeats 4000000
/-! One message for k pieces; what read_sure finds. -/
namespace Lm
theorem one_msg {c : Pl} (hc : c.Ok) {sh : List Nat} (hs : Sh c sh) {m m' : List Int} (hm : MsgOk c m) (hm' : MsgOk c m') (h : ∀ s ∈ sh, pieceB c m s = pieceB c m' s) : m = m' := by
  rw [← told_enc hc hs hm, ← told_enc hc hs hm', List.map_congr_left h]
theorem fin_ok {p : Int} {k L : Nat} {A B : List (List Int)} (hk : k = 1 ∨ k = 2 ∨ k = 3) (hA : Mx p k k A) (hB : Mx p L k B) : Rw p (finX k A B) ∧ (finX k A B).length = k * (k + 1) / 2 + k * L := by
  have g : ∀ r < k, Rw p (((A.getD r []).drop r ++ B.getD r []).map id) ∧ (((A.getD r []).drop r ++ B.getD r []).map id).length = k - r + L := fun r hr => by
    have a := hA.row hr
    have b := hB.row hr
    rw [List.map_id]
    refine ⟨fun x hx => ?_, by rw [List.length_append, List.length_drop, a.2.1, b.2.1]⟩
    rcases List.mem_append.mp hx with h | h
    · exact a.2.2 x (List.mem_of_mem_drop h)
    · exact b.2.2 x h
  refine ⟨fun x hx => ?_, ?_⟩
  · obtain ⟨r, hr, hx⟩ := List.mem_flatMap.mp hx
    exact (g r (List.mem_range.mp hr)).1 x hx
  · unfold finX
    rw [List.length_flatMap]
    rcases hk with e | e | e <;> subst e
    · have g0 := (g 0 (by decide)).2
      show [_].sum = _
      simp only [List.sum_cons, List.sum_nil, g0]
      omega
    · have g0 := (g 0 (by decide)).2
      have g1 := (g 1 (by decide)).2
      show [_, _].sum = _
      simp only [List.sum_cons, List.sum_nil, g0, g1]
      omega
    · have g0 := (g 0 (by decide)).2
      have g1 := (g 1 (by decide)).2
      have g2 := (g 2 (by decide)).2
      show [_, _, _].sum = _
      simp only [List.sum_cons, List.sum_nil, g0, g1, g2]
      omega
theorem tri_ok {p : Int} {h : Nat} {t : List (List Int)} (hk : h = 1 ∨ h = 2) (hA : Mx p h h t) : Rw p ((List.range h).flatMap fun r => ((t.getD r []).drop r).map id) ∧ ((List.range h).flatMap fun r => ((t.getD r []).drop r).map id).length = h * (h + 1) / 2 := by
  have g : ∀ r < h, Rw p (((t.getD r []).drop r).map id) ∧ (((t.getD r []).drop r).map id).length = h - r := fun r hr => by
    have a := hA.row hr
    rw [List.map_id]
    exact ⟨fun x hx => a.2.2 x (List.mem_of_mem_drop hx), by rw [List.length_drop, a.2.1]⟩
  refine ⟨fun x hx => ?_, ?_⟩
  · obtain ⟨r, hr, hx⟩ := List.mem_flatMap.mp hx
    exact (g r (List.mem_range.mp hr)).1 x hx
  · rw [List.length_flatMap]
    rcases hk with e | e <;> subst e
    · have g0 := (g 0 (by decide)).2
      show [_].sum = _
      simp only [List.sum_cons, List.sum_nil, g0]
      omega
    · have g0 := (g 0 (by decide)).2
      have g1 := (g 1 (by decide)).2
      show [_, _].sum = _
      simp only [List.sum_cons, List.sum_nil, g0, g1]
      omega
theorem told_ok {c : Pl} (hc : c.Ok) {sh : List Nat} (hs : Sh c sh) {pcs : List (List Int)} (hp : Pcs c sh pcs) : MsgOk c (toldM c sh pcs) := by
  have hk := hc.k
  unfold toldM
  cases q : c.rm with
  | false =>
    have hlt := hc.lt q
    rw [if_neg Bool.false_ne_true]
    have f := fin_ok (p := c.p) (k := c.k) (L := c.d - c.k) (by omega) (fir_mx hc q hs hp) (bes_mx hc q hs hp)
    exact ⟨f.2.trans (by unfold sizeB; rw [q]; rfl), f.1⟩
  | true =>
    have hr := hc.ro q
    have hb : rmB c = c.k - 1 := by unfold rmB; rw [q]; rfl
    rw [if_pos rfl]
    have m := tabs_mx (pcs := pcs) hc q hs
    have t1 := tri_ok (h := rmB c) (by omega) (m (tabB c.p (rmB c) c.k (shB c sh) (fstB c sh pcs)) List.mem_cons_self)
    have t2 := tri_ok (h := rmB c) (by omega) (m (tabB c.p (rmB c) c.k (shB c sh) (latB c sh pcs)) (List.mem_cons_of_mem _ List.mem_cons_self))
    unfold rooB tabsB
    rw [List.flatMap_cons, List.flatMap_cons, List.flatMap_nil, List.append_nil]
    refine ⟨?_, fun x hx => (List.mem_append.mp hx).elim (t1.1 x) (t2.1 x)⟩
    rw [List.length_append, t1.2, t2.2, hb]
    unfold sizeB
    rw [q, if_pos rfl]
    have : c.k = 2 ∨ c.k = 3 := by omega
    rcases this with e | e <;> rw [e]
/-- every rising choice is among the lots -/
theorem lot_all {many : Nat} : ∀ (s : Nat) (l : List Nat), l.length = s → l.Pairwise (· < ·) → (∀ x ∈ l, x < many) → l ∈ lotsB many s
  | 0, l, hl, _, _ => by
    rw [List.length_eq_zero_iff.mp hl]
    exact List.mem_singleton.mpr rfl
  | s + 1, l, hl, hp, hm => by
    have hne : l ≠ [] := fun z => by rw [z] at hl; cases hl
    have e := (List.dropLast_concat_getLast hne).symm
    rw [e] at hp
    obtain ⟨h1, _, h3⟩ := List.pairwise_append.mp hp
    have hx := hm _ (List.getLast_mem hne)
    have ih := lot_all s l.dropLast (by rw [List.length_dropLast, hl]; rfl) h1 fun x hx => hm x (List.dropLast_subset l hx)
    have hst : lotSt l.dropLast ≤ l.getLast hne := by
      unfold lotSt
      cases q : l.dropLast.getLast? with
      | none => exact Nat.zero_le _
      | some y => exact h3 y (List.mem_of_getLast? q) _ List.mem_cons_self
    rw [e]
    exact mem_lots.mpr ⟨l.dropLast, ih, l.getLast hne - lotSt l.dropLast, by omega, by rw [show lotSt l.dropLast + (l.getLast hne - lotSt l.dropLast) = l.getLast hne by omega]⟩
theorem both_len {α : Type} (f g : α → Bool) : ∀ l : List α, l.length ≤ (l.filter fun x => !f x && !g x).length + (l.filter f).length + (l.filter g).length
  | [] => by simp
  | x :: l => by
    have ih := both_len f g l
    cases h1 : f x <;> cases h2 : g x <;> simp [List.filter_cons, h1, h2] <;> omega
section
variable {c : Pl} {sh : List Nat} {pcs : List (List Int)}
/-- a piece at place a tells another number -/
def badB (c : Pl) (m : List Int) (sh : List Nat) (pcs : List (List Int)) (a : Nat) : Bool := !decide (pieceB c m (sh.getD a 0) = pcs.getD a [])
theorem zip_at (h : pcs.length = sh.length) : sh.zip pcs = (List.range sh.length).map fun a => (sh.getD a 0, pcs.getD a []) := by
  refine List.ext_getElem (by simp [h]) fun i h1 h2 => ?_
  have hi : i < sh.length := by simpa using h2
  rw [List.getElem_zip, List.getElem_map, List.getElem_range, getD_eq _ _ _ hi, getD_eq _ _ _ (by omega)]
theorem unl_len (h : pcs.length = sh.length) (m : List Int) : (unlB c m sh pcs).length = ((List.range sh.length).filter (badB c m sh pcs)).length := by
  unfold unlB
  rw [List.length_map, zip_at h, List.filter_map, List.length_map]
  rfl
/-- k places where nothing is bad -/
theorem lot_of (hh : Hrd c sh pcs) (p : Nat → Bool) (hk : c.k ≤ ((List.range sh.length).filter p).length) : ∃ lot ∈ lotsB sh.length c.k, ∀ a ∈ lot, p a = true ∧ a < sh.length := by
  refine ⟨((List.range sh.length).filter p).take c.k, lot_all _ _ (by rw [List.length_take]; omega) ((List.Pairwise.filter _ List.pairwise_lt_range).sublist (List.take_sublist _ _)) fun x hx => ?_, fun a ha => ?_⟩
  · exact List.mem_range.mp (List.mem_filter.mp (List.mem_of_mem_take hx)).1
  · have := List.mem_filter.mp (List.mem_of_mem_take ha)
    exact ⟨this.2, List.mem_range.mp this.1⟩
theorem few_one (hc : c.Ok) (hh : Hrd c sh pcs) {m m' : List Int} (hm : MsgOk c m) (hm' : MsgOk c m') (h : (unlB c m sh pcs).length + (unlB c m' sh pcs).length + c.k ≤ sh.length) : m = m' := by
  rw [unl_len hh.len, unl_len hh.len] at h
  have b := both_len (badB c m sh pcs) (badB c m' sh pcs) (List.range sh.length)
  rw [List.length_range] at b
  obtain ⟨lot, hl, hg⟩ := lot_of hh (fun a => !badB c m sh pcs a && !badB c m' sh pcs a) (by omega)
  refine one_msg hc (pick_sh hh hl).1 hm hm' fun s hs => ?_
  obtain ⟨a, ha, rfl⟩ := List.mem_map.mp hs
  have g := (hg a ha).1
  unfold badB at g
  simp only [Bool.not_not, Bool.and_eq_true, decide_eq_true_eq] at g
  exact g.1.trans g.2.symm
theorem try_some (hc : c.Ok) (hh : Hrd c sh pcs) {e : Nat} {lot : List Nat} (hl : lot ∈ lotsB sh.length c.k) {r : List Int × List Nat} (h : tryB c e sh pcs lot = some r) : MsgOk c r.1 ∧ (unlB c r.1 sh pcs).length ≤ e ∧ r.2 = unlB c r.1 sh pcs := by
  obtain ⟨h1, h2⟩ := pick_sh hh hl
  have t := told_ok hc h1 h2
  unfold tryB at h
  cases q : msgB c (pick 0 sh lot) (pick [] pcs lot) with
  | none => rw [q] at h; cases h
  | some m =>
    rw [q] at h
    dsimp only at h
    unfold msgB at q
    split at q
    · cases q
      split at h
      · rename_i hle
        cases h
        exact ⟨t, hle, rfl⟩
      · cases h
    · cases q
/-- the message that all but e pieces fit -/
theorem sure_some (hc : c.Ok) (hh : Hrd c sh pcs) {e : Nat} {m : List Int} (hm : MsgOk c m) (hk : c.k + 2 * e ≤ sh.length) (hu : (unlB c m sh pcs).length ≤ e) : sureB c e sh pcs = some (m, unlB c m sh pcs) := by
  have only : ∀ lot ∈ lotsB sh.length c.k, ∀ r, tryB c e sh pcs lot = some r → r = (m, unlB c m sh pcs) := fun lot hl r h => by
    obtain ⟨h1, h2, h3⟩ := try_some hc hh hl h
    have : r.1 = m := few_one hc hh h1 hm (by omega)
    obtain ⟨r1, r2⟩ := r
    have this : r1 = m := this
    subst this
    rw [show r2 = _ from h3]
  have u := unl_len (c := c) hh.len m
  have b := both_len (badB c m sh pcs) (badB c m sh pcs) (List.range sh.length)
  rw [List.length_range] at b
  obtain ⟨lot, hl, hg⟩ := lot_of hh (fun a => !badB c m sh pcs a && !badB c m sh pcs a) (by omega)
  obtain ⟨h1, h2⟩ := pick_sh hh hl
  have ep : pick [] pcs lot = (pick 0 sh lot).map (pieceB c m) := by
    unfold pick
    rw [List.map_map]
    refine List.map_congr_left fun a ha => ?_
    have g := (hg a ha).1
    unfold badB at g
    simp only [Bool.not_not, Bool.and_eq_true, decide_eq_true_eq] at g
    exact g.1.symm
  have hmsg : msgB c (pick 0 sh lot) (pick [] pcs lot) = some m := by
    unfold msgB
    rw [ep, told_enc hc h1 hm, if_pos]
    unfold fitB
    refine List.all_eq_true.mpr fun q hq => ?_
    rw [List.zip_map_right] at hq
    obtain ⟨z, hz, rfl⟩ := List.mem_map.mp hq
    have : z.1 = z.2 := by
      obtain ⟨i, hi, e⟩ := List.getElem_of_mem hz
      rw [List.getElem_zip] at e
      rw [← e]
    simp [this]
  have ht : tryB c e sh pcs lot = some (m, unlB c m sh pcs) := by
    unfold tryB
    rw [hmsg]
    exact if_pos hu
  unfold sureB
  cases q : (lotsB sh.length c.k).findSome? (tryB c e sh pcs) with
  | none =>
    have := List.findSome?_eq_none_iff.mp q lot hl
    rw [ht] at this
    cases this
  | some r =>
    obtain ⟨l2, h2, h3⟩ := List.exists_of_findSome?_eq_some q
    rw [only l2 h2 r h3]
/-- none, where e + 1 pieces are wrong and one more stands -/
theorem sure_none (hc : c.Ok) (hh : Hrd c sh pcs) {e : Nat} {m : List Int} (hm : MsgOk c m) (hk : c.k + 2 * e + 1 ≤ sh.length) (hu : (unlB c m sh pcs).length = e + 1) : sureB c e sh pcs = none := by
  refine List.findSome?_eq_none_iff.mpr fun lot hl => ?_
  cases h : tryB c e sh pcs lot with
  | none => rfl
  | some r =>
    obtain ⟨h1, h2, h3⟩ := try_some hc hh hl h
    have : r.1 = m := few_one hc hh h1 hm (by omega)
    rw [this] at h2
    omega
end
end Lm
set_option maxRecDepth 100000
set_option maxHeartbeats 1000000
/-! The law's shares are the program's pieces. -/
namespace Lm
theorem len4 {α : Type} {l : List α} (h : l.length = 2) : ∃ a b, l = [a, b] := len2 h
theorem lx_011_0 (m0 : Int) : 1 * m0 + 0 = (1 + 0) * m0 + 0 := by simp only [Int.add_zero, Int.zero_mul, Int.zero_add, Int.mul_zero]
theorem ls_011 {p : Int} {n s : Nat} {m : List Int} (hm : m.length = 1) : (sidesB (⟨p, false, n, 1, 1⟩ : Pl) m).map (fun sd => dotB p (lineB (⟨p, false, n, 1, 1⟩ : Pl) s) sd) = pieceB (⟨p, false, n, 1, 1⟩ : Pl) m s := by
  obtain ⟨m0, rfl⟩ := len1 hm
  have g : gridB (⟨p, false, n, 1, 1⟩ : Pl) [m0] = [[m0]] := by
    unfold gridB
    rw [if_neg Bool.false_ne_true]
    have r1 : List.range 1 = [0] := rfl
    have r2 : List.range 2 = [0, 1] := rfl
    have r3 : List.range 3 = [0, 1, 2] := rfl
    have r4 : List.range 4 = [0, 1, 2, 3] := rfl
    simp [tuB, tuAt, tuRow, tuStep, r1, r2, r3, r4, List.replicate]
  unfold sidesB
  rw [g]
  show [(1 * m0 + 0) % p] = [((1 + 0) * m0 + 0) % p]
  rw [lx_011_0]
theorem lx_012_0 (u m0 m1 : Int) : 1 * m0 + (u * m1 + 0) = (1 + 0) * m0 + ((u + 0) * m1 + 0) := by simp only [Int.add_zero, Int.zero_mul, Int.zero_add, Int.mul_zero]
theorem lx_012_1 (u m0 m1 : Int) : 1 * m1 + (u * 0 + 0) = 0 * m0 + ((1 + 0) * m1 + 0) := by simp only [Int.add_zero, Int.zero_mul, Int.zero_add, Int.mul_zero]
theorem ls_012 {p : Int} {n s : Nat} {m : List Int} (hm : m.length = 2) : (sidesB (⟨p, false, n, 1, 2⟩ : Pl) m).map (fun sd => dotB p (lineB (⟨p, false, n, 1, 2⟩ : Pl) s) sd) = pieceB (⟨p, false, n, 1, 2⟩ : Pl) m s := by
  obtain ⟨m0, m1, rfl⟩ := len2 hm
  have g : gridB (⟨p, false, n, 1, 2⟩ : Pl) [m0, m1] = [[m0, m1], [m1, 0]] := by
    unfold gridB
    rw [if_neg Bool.false_ne_true]
    have r1 : List.range 1 = [0] := rfl
    have r2 : List.range 2 = [0, 1] := rfl
    have r3 : List.range 3 = [0, 1, 2] := rfl
    have r4 : List.range 4 = [0, 1, 2, 3] := rfl
    simp [tuB, tuAt, tuRow, tuStep, r1, r2, r3, r4, List.replicate]
  unfold sidesB
  rw [g]
  show [(1 * m0 + ((powB p (ptB (⟨p, false, n, 1, 2⟩ : Pl) s) 1) * m1 + 0)) % p, (1 * m1 + ((powB p (ptB (⟨p, false, n, 1, 2⟩ : Pl) s) 1) * 0 + 0)) % p] = [((1 + 0) * m0 + (((powB p (ptB (⟨p, false, n, 1, 2⟩ : Pl) s) 1) + 0) * m1 + 0)) % p, (0 * m0 + ((1 + 0) * m1 + 0)) % p]
  rw [lx_012_0, lx_012_1]
theorem lx_022_0 (u m0 m1 m2 : Int) : 1 * m0 + (u * m1 + 0) = (1 + 0) * m0 + ((u + 0) * m1 + (0 * m2 + 0)) := by simp only [Int.add_zero, Int.zero_mul, Int.zero_add, Int.mul_zero]
theorem lx_022_1 (u m0 m1 m2 : Int) : 1 * m1 + (u * m2 + 0) = 0 * m0 + ((1 + 0) * m1 + ((u + 0) * m2 + 0)) := by simp only [Int.add_zero, Int.zero_mul, Int.zero_add, Int.mul_zero]
theorem ls_022 {p : Int} {n s : Nat} {m : List Int} (hm : m.length = 3) : (sidesB (⟨p, false, n, 2, 2⟩ : Pl) m).map (fun sd => dotB p (lineB (⟨p, false, n, 2, 2⟩ : Pl) s) sd) = pieceB (⟨p, false, n, 2, 2⟩ : Pl) m s := by
  obtain ⟨m0, m1, m2, rfl⟩ := len3 hm
  have g : gridB (⟨p, false, n, 2, 2⟩ : Pl) [m0, m1, m2] = [[m0, m1], [m1, m2]] := by
    unfold gridB
    rw [if_neg Bool.false_ne_true]
    have r1 : List.range 1 = [0] := rfl
    have r2 : List.range 2 = [0, 1] := rfl
    have r3 : List.range 3 = [0, 1, 2] := rfl
    have r4 : List.range 4 = [0, 1, 2, 3] := rfl
    simp [tuB, tuAt, tuRow, tuStep, r1, r2, r3, r4, List.replicate]
  unfold sidesB
  rw [g]
  show [(1 * m0 + ((powB p (ptB (⟨p, false, n, 2, 2⟩ : Pl) s) 1) * m1 + 0)) % p, (1 * m1 + ((powB p (ptB (⟨p, false, n, 2, 2⟩ : Pl) s) 1) * m2 + 0)) % p] = [((1 + 0) * m0 + (((powB p (ptB (⟨p, false, n, 2, 2⟩ : Pl) s) 1) + 0) * m1 + (0 * m2 + 0))) % p, (0 * m0 + ((1 + 0) * m1 + (((powB p (ptB (⟨p, false, n, 2, 2⟩ : Pl) s) 1) + 0) * m2 + 0))) % p]
  rw [lx_022_0, lx_022_1]
theorem lx_023_0 (u v m0 m1 m2 m3 m4 : Int) : 1 * m0 + (u * m1 + (v * m2 + 0)) = (1 + 0) * m0 + ((u + 0) * m1 + ((v + 0) * m2 + (0 * m3 + (0 * m4 + 0)))) := by simp only [Int.add_zero, Int.zero_mul, Int.zero_add, Int.mul_zero]
theorem lx_023_1 (u v m0 m1 m2 m3 m4 : Int) : 1 * m1 + (u * m3 + (v * m4 + 0)) = 0 * m0 + ((1 + 0) * m1 + (0 * m2 + ((u + 0) * m3 + ((v + 0) * m4 + 0)))) := by simp only [Int.add_zero, Int.zero_mul, Int.zero_add, Int.mul_zero]
theorem lx_023_2 (u v m0 m1 m2 m3 m4 : Int) : 1 * m2 + (u * m4 + (v * 0 + 0)) = 0 * m0 + (0 * m1 + ((1 + 0) * m2 + (0 * m3 + ((u + 0) * m4 + 0)))) := by simp only [Int.add_zero, Int.zero_mul, Int.zero_add, Int.mul_zero]
theorem ls_023 {p : Int} {n s : Nat} {m : List Int} (hm : m.length = 5) : (sidesB (⟨p, false, n, 2, 3⟩ : Pl) m).map (fun sd => dotB p (lineB (⟨p, false, n, 2, 3⟩ : Pl) s) sd) = pieceB (⟨p, false, n, 2, 3⟩ : Pl) m s := by
  obtain ⟨m0, m1, m2, m3, m4, rfl⟩ := len5 hm
  have g : gridB (⟨p, false, n, 2, 3⟩ : Pl) [m0, m1, m2, m3, m4] = [[m0, m1, m2], [m1, m3, m4], [m2, m4, 0]] := by
    unfold gridB
    rw [if_neg Bool.false_ne_true]
    have r1 : List.range 1 = [0] := rfl
    have r2 : List.range 2 = [0, 1] := rfl
    have r3 : List.range 3 = [0, 1, 2] := rfl
    have r4 : List.range 4 = [0, 1, 2, 3] := rfl
    simp [tuB, tuAt, tuRow, tuStep, r1, r2, r3, r4, List.replicate]
  unfold sidesB
  rw [g]
  show [(1 * m0 + ((powB p (ptB (⟨p, false, n, 2, 3⟩ : Pl) s) 1) * m1 + ((powB p (ptB (⟨p, false, n, 2, 3⟩ : Pl) s) 2) * m2 + 0))) % p, (1 * m1 + ((powB p (ptB (⟨p, false, n, 2, 3⟩ : Pl) s) 1) * m3 + ((powB p (ptB (⟨p, false, n, 2, 3⟩ : Pl) s) 2) * m4 + 0))) % p, (1 * m2 + ((powB p (ptB (⟨p, false, n, 2, 3⟩ : Pl) s) 1) * m4 + ((powB p (ptB (⟨p, false, n, 2, 3⟩ : Pl) s) 2) * 0 + 0))) % p] = [((1 + 0) * m0 + (((powB p (ptB (⟨p, false, n, 2, 3⟩ : Pl) s) 1) + 0) * m1 + (((powB p (ptB (⟨p, false, n, 2, 3⟩ : Pl) s) 2) + 0) * m2 + (0 * m3 + (0 * m4 + 0))))) % p, (0 * m0 + ((1 + 0) * m1 + (0 * m2 + (((powB p (ptB (⟨p, false, n, 2, 3⟩ : Pl) s) 1) + 0) * m3 + (((powB p (ptB (⟨p, false, n, 2, 3⟩ : Pl) s) 2) + 0) * m4 + 0))))) % p, (0 * m0 + (0 * m1 + ((1 + 0) * m2 + (0 * m3 + (((powB p (ptB (⟨p, false, n, 2, 3⟩ : Pl) s) 1) + 0) * m4 + 0))))) % p]
  rw [lx_023_0, lx_023_1, lx_023_2]
theorem lx_033_0 (u v m0 m1 m2 m3 m4 m5 : Int) : 1 * m0 + (u * m1 + (v * m2 + 0)) = (1 + 0) * m0 + ((u + 0) * m1 + ((v + 0) * m2 + (0 * m3 + (0 * m4 + (0 * m5 + 0))))) := by simp only [Int.add_zero, Int.zero_mul, Int.zero_add, Int.mul_zero]
theorem lx_033_1 (u v m0 m1 m2 m3 m4 m5 : Int) : 1 * m1 + (u * m3 + (v * m4 + 0)) = 0 * m0 + ((1 + 0) * m1 + (0 * m2 + ((u + 0) * m3 + ((v + 0) * m4 + (0 * m5 + 0))))) := by simp only [Int.add_zero, Int.zero_mul, Int.zero_add, Int.mul_zero]
theorem lx_033_2 (u v m0 m1 m2 m3 m4 m5 : Int) : 1 * m2 + (u * m4 + (v * m5 + 0)) = 0 * m0 + (0 * m1 + ((1 + 0) * m2 + (0 * m3 + ((u + 0) * m4 + ((v + 0) * m5 + 0))))) := by simp only [Int.add_zero, Int.zero_mul, Int.zero_add, Int.mul_zero]
theorem ls_033 {p : Int} {n s : Nat} {m : List Int} (hm : m.length = 6) : (sidesB (⟨p, false, n, 3, 3⟩ : Pl) m).map (fun sd => dotB p (lineB (⟨p, false, n, 3, 3⟩ : Pl) s) sd) = pieceB (⟨p, false, n, 3, 3⟩ : Pl) m s := by
  obtain ⟨m0, m1, m2, m3, m4, m5, rfl⟩ := len6 hm
  have g : gridB (⟨p, false, n, 3, 3⟩ : Pl) [m0, m1, m2, m3, m4, m5] = [[m0, m1, m2], [m1, m3, m4], [m2, m4, m5]] := by
    unfold gridB
    rw [if_neg Bool.false_ne_true]
    have r1 : List.range 1 = [0] := rfl
    have r2 : List.range 2 = [0, 1] := rfl
    have r3 : List.range 3 = [0, 1, 2] := rfl
    have r4 : List.range 4 = [0, 1, 2, 3] := rfl
    simp [tuB, tuAt, tuRow, tuStep, r1, r2, r3, r4, List.replicate]
  unfold sidesB
  rw [g]
  show [(1 * m0 + ((powB p (ptB (⟨p, false, n, 3, 3⟩ : Pl) s) 1) * m1 + ((powB p (ptB (⟨p, false, n, 3, 3⟩ : Pl) s) 2) * m2 + 0))) % p, (1 * m1 + ((powB p (ptB (⟨p, false, n, 3, 3⟩ : Pl) s) 1) * m3 + ((powB p (ptB (⟨p, false, n, 3, 3⟩ : Pl) s) 2) * m4 + 0))) % p, (1 * m2 + ((powB p (ptB (⟨p, false, n, 3, 3⟩ : Pl) s) 1) * m4 + ((powB p (ptB (⟨p, false, n, 3, 3⟩ : Pl) s) 2) * m5 + 0))) % p] = [((1 + 0) * m0 + (((powB p (ptB (⟨p, false, n, 3, 3⟩ : Pl) s) 1) + 0) * m1 + (((powB p (ptB (⟨p, false, n, 3, 3⟩ : Pl) s) 2) + 0) * m2 + (0 * m3 + (0 * m4 + (0 * m5 + 0)))))) % p, (0 * m0 + ((1 + 0) * m1 + (0 * m2 + (((powB p (ptB (⟨p, false, n, 3, 3⟩ : Pl) s) 1) + 0) * m3 + (((powB p (ptB (⟨p, false, n, 3, 3⟩ : Pl) s) 2) + 0) * m4 + (0 * m5 + 0)))))) % p, (0 * m0 + (0 * m1 + ((1 + 0) * m2 + (0 * m3 + (((powB p (ptB (⟨p, false, n, 3, 3⟩ : Pl) s) 1) + 0) * m4 + (((powB p (ptB (⟨p, false, n, 3, 3⟩ : Pl) s) 2) + 0) * m5 + 0)))))) % p]
  rw [lx_033_0, lx_033_1, lx_033_2]
theorem lx_034_0 (u v w m0 m1 m2 m3 m4 m5 m6 m7 m8 : Int) : 1 * m0 + (u * m1 + (v * m2 + (w * m3 + 0))) = (1 + 0) * m0 + ((u + 0) * m1 + ((v + 0) * m2 + ((w + 0) * m3 + (0 * m4 + (0 * m5 + (0 * m6 + (0 * m7 + (0 * m8 + 0)))))))) := by simp only [Int.add_zero, Int.zero_mul, Int.zero_add, Int.mul_zero]
theorem lx_034_1 (u v w m0 m1 m2 m3 m4 m5 m6 m7 m8 : Int) : 1 * m1 + (u * m4 + (v * m5 + (w * m6 + 0))) = 0 * m0 + ((1 + 0) * m1 + (0 * m2 + (0 * m3 + ((u + 0) * m4 + ((v + 0) * m5 + ((w + 0) * m6 + (0 * m7 + (0 * m8 + 0)))))))) := by simp only [Int.add_zero, Int.zero_mul, Int.zero_add, Int.mul_zero]
theorem lx_034_2 (u v w m0 m1 m2 m3 m4 m5 m6 m7 m8 : Int) : 1 * m2 + (u * m5 + (v * m7 + (w * m8 + 0))) = 0 * m0 + (0 * m1 + ((1 + 0) * m2 + (0 * m3 + (0 * m4 + ((u + 0) * m5 + (0 * m6 + ((v + 0) * m7 + ((w + 0) * m8 + 0)))))))) := by simp only [Int.add_zero, Int.zero_mul, Int.zero_add, Int.mul_zero]
theorem lx_034_3 (u v w m0 m1 m2 m3 m4 m5 m6 m7 m8 : Int) : 1 * m3 + (u * m6 + (v * m8 + (w * 0 + 0))) = 0 * m0 + (0 * m1 + (0 * m2 + ((1 + 0) * m3 + (0 * m4 + (0 * m5 + ((u + 0) * m6 + (0 * m7 + ((v + 0) * m8 + 0)))))))) := by simp only [Int.add_zero, Int.zero_mul, Int.zero_add, Int.mul_zero]
theorem ls_034 {p : Int} {n s : Nat} {m : List Int} (hm : m.length = 9) : (sidesB (⟨p, false, n, 3, 4⟩ : Pl) m).map (fun sd => dotB p (lineB (⟨p, false, n, 3, 4⟩ : Pl) s) sd) = pieceB (⟨p, false, n, 3, 4⟩ : Pl) m s := by
  obtain ⟨m0, m1, m2, m3, m4, m5, m6, m7, m8, rfl⟩ := len9 hm
  have g : gridB (⟨p, false, n, 3, 4⟩ : Pl) [m0, m1, m2, m3, m4, m5, m6, m7, m8] = [[m0, m1, m2, m3], [m1, m4, m5, m6], [m2, m5, m7, m8], [m3, m6, m8, 0]] := by
    unfold gridB
    rw [if_neg Bool.false_ne_true]
    have r1 : List.range 1 = [0] := rfl
    have r2 : List.range 2 = [0, 1] := rfl
    have r3 : List.range 3 = [0, 1, 2] := rfl
    have r4 : List.range 4 = [0, 1, 2, 3] := rfl
    simp [tuB, tuAt, tuRow, tuStep, r1, r2, r3, r4, List.replicate]
  unfold sidesB
  rw [g]
  show [(1 * m0 + ((powB p (ptB (⟨p, false, n, 3, 4⟩ : Pl) s) 1) * m1 + ((powB p (ptB (⟨p, false, n, 3, 4⟩ : Pl) s) 2) * m2 + ((powB p (ptB (⟨p, false, n, 3, 4⟩ : Pl) s) 3) * m3 + 0)))) % p, (1 * m1 + ((powB p (ptB (⟨p, false, n, 3, 4⟩ : Pl) s) 1) * m4 + ((powB p (ptB (⟨p, false, n, 3, 4⟩ : Pl) s) 2) * m5 + ((powB p (ptB (⟨p, false, n, 3, 4⟩ : Pl) s) 3) * m6 + 0)))) % p, (1 * m2 + ((powB p (ptB (⟨p, false, n, 3, 4⟩ : Pl) s) 1) * m5 + ((powB p (ptB (⟨p, false, n, 3, 4⟩ : Pl) s) 2) * m7 + ((powB p (ptB (⟨p, false, n, 3, 4⟩ : Pl) s) 3) * m8 + 0)))) % p, (1 * m3 + ((powB p (ptB (⟨p, false, n, 3, 4⟩ : Pl) s) 1) * m6 + ((powB p (ptB (⟨p, false, n, 3, 4⟩ : Pl) s) 2) * m8 + ((powB p (ptB (⟨p, false, n, 3, 4⟩ : Pl) s) 3) * 0 + 0)))) % p] = [((1 + 0) * m0 + (((powB p (ptB (⟨p, false, n, 3, 4⟩ : Pl) s) 1) + 0) * m1 + (((powB p (ptB (⟨p, false, n, 3, 4⟩ : Pl) s) 2) + 0) * m2 + (((powB p (ptB (⟨p, false, n, 3, 4⟩ : Pl) s) 3) + 0) * m3 + (0 * m4 + (0 * m5 + (0 * m6 + (0 * m7 + (0 * m8 + 0))))))))) % p, (0 * m0 + ((1 + 0) * m1 + (0 * m2 + (0 * m3 + (((powB p (ptB (⟨p, false, n, 3, 4⟩ : Pl) s) 1) + 0) * m4 + (((powB p (ptB (⟨p, false, n, 3, 4⟩ : Pl) s) 2) + 0) * m5 + (((powB p (ptB (⟨p, false, n, 3, 4⟩ : Pl) s) 3) + 0) * m6 + (0 * m7 + (0 * m8 + 0))))))))) % p, (0 * m0 + (0 * m1 + ((1 + 0) * m2 + (0 * m3 + (0 * m4 + (((powB p (ptB (⟨p, false, n, 3, 4⟩ : Pl) s) 1) + 0) * m5 + (0 * m6 + (((powB p (ptB (⟨p, false, n, 3, 4⟩ : Pl) s) 2) + 0) * m7 + (((powB p (ptB (⟨p, false, n, 3, 4⟩ : Pl) s) 3) + 0) * m8 + 0))))))))) % p, (0 * m0 + (0 * m1 + (0 * m2 + ((1 + 0) * m3 + (0 * m4 + (0 * m5 + (((powB p (ptB (⟨p, false, n, 3, 4⟩ : Pl) s) 1) + 0) * m6 + (0 * m7 + (((powB p (ptB (⟨p, false, n, 3, 4⟩ : Pl) s) 2) + 0) * m8 + 0))))))))) % p]
  rw [lx_034_0, lx_034_1, lx_034_2, lx_034_3]
theorem lx_122_0 (u m0 m1 : Int) : 1 * m0 + (u * m1 + 0) = (1 + 0) * m0 + ((u + 0) * m1 + 0) := by simp only [Int.add_zero, Int.zero_mul, Int.zero_add, Int.mul_zero]
theorem ls_122 {p : Int} {n s : Nat} {m : List Int} (hm : m.length = 2) : (sidesB (⟨p, true, n, 2, 2⟩ : Pl) m).map (fun sd => dotB p (lineB (⟨p, true, n, 2, 2⟩ : Pl) s) sd) = pieceB (⟨p, true, n, 2, 2⟩ : Pl) m s := by
  obtain ⟨m0, m1, rfl⟩ := len2 hm
  have g : gridB (⟨p, true, n, 2, 2⟩ : Pl) [m0, m1] = [[m0], [m1]] := by
    unfold gridB
    rw [if_pos rfl, show [m0, m1].length / 2 = 1 from by simp]
    have r1 : List.range 1 = [0] := rfl
    have r2 : List.range 2 = [0, 1] := rfl
    have r3 : List.range 3 = [0, 1, 2] := rfl
    have r4 : List.range 4 = [0, 1, 2, 3] := rfl
    simp [tuB, tuAt, tuRow, tuStep, r1, r2, r3, r4, List.replicate]
  unfold sidesB
  rw [g]
  show [(1 * m0 + ((powB p (ptB (⟨p, true, n, 2, 2⟩ : Pl) s) 1) * m1 + 0)) % p] = [((1 + 0) * m0 + (((powB p (ptB (⟨p, true, n, 2, 2⟩ : Pl) s) 1) + 0) * m1 + 0)) % p]
  rw [lx_122_0]
theorem lx_134_0 (u v w m0 m1 m2 m3 m4 m5 : Int) : 1 * m0 + (u * m1 + (v * m3 + (w * m4 + 0))) = (1 + 0) * m0 + ((u + 0) * m1 + (0 * m2 + ((v + 0) * m3 + ((w + 0) * m4 + (0 * m5 + 0))))) := by simp only [Int.add_zero, Int.zero_mul, Int.zero_add, Int.mul_zero]
theorem lx_134_1 (u v w m0 m1 m2 m3 m4 m5 : Int) : 1 * m1 + (u * m2 + (v * m4 + (w * m5 + 0))) = 0 * m0 + ((1 + 0) * m1 + ((u + 0) * m2 + (0 * m3 + ((v + 0) * m4 + ((w + 0) * m5 + 0))))) := by simp only [Int.add_zero, Int.zero_mul, Int.zero_add, Int.mul_zero]
theorem ls_134 {p : Int} {n s : Nat} {m : List Int} (hm : m.length = 6) : (sidesB (⟨p, true, n, 3, 4⟩ : Pl) m).map (fun sd => dotB p (lineB (⟨p, true, n, 3, 4⟩ : Pl) s) sd) = pieceB (⟨p, true, n, 3, 4⟩ : Pl) m s := by
  obtain ⟨m0, m1, m2, m3, m4, m5, rfl⟩ := len6 hm
  have g : gridB (⟨p, true, n, 3, 4⟩ : Pl) [m0, m1, m2, m3, m4, m5] = [[m0, m1], [m1, m2], [m3, m4], [m4, m5]] := by
    unfold gridB
    rw [if_pos rfl, show [m0, m1, m2, m3, m4, m5].length / 2 = 3 from by simp]
    have r1 : List.range 1 = [0] := rfl
    have r2 : List.range 2 = [0, 1] := rfl
    have r3 : List.range 3 = [0, 1, 2] := rfl
    have r4 : List.range 4 = [0, 1, 2, 3] := rfl
    simp [tuB, tuAt, tuRow, tuStep, r1, r2, r3, r4, List.replicate]
  unfold sidesB
  rw [g]
  show [(1 * m0 + ((powB p (ptB (⟨p, true, n, 3, 4⟩ : Pl) s) 1) * m1 + ((powB p (ptB (⟨p, true, n, 3, 4⟩ : Pl) s) 2) * m3 + ((powB p (ptB (⟨p, true, n, 3, 4⟩ : Pl) s) 3) * m4 + 0)))) % p, (1 * m1 + ((powB p (ptB (⟨p, true, n, 3, 4⟩ : Pl) s) 1) * m2 + ((powB p (ptB (⟨p, true, n, 3, 4⟩ : Pl) s) 2) * m4 + ((powB p (ptB (⟨p, true, n, 3, 4⟩ : Pl) s) 3) * m5 + 0)))) % p] = [((1 + 0) * m0 + (((powB p (ptB (⟨p, true, n, 3, 4⟩ : Pl) s) 1) + 0) * m1 + (0 * m2 + (((powB p (ptB (⟨p, true, n, 3, 4⟩ : Pl) s) 2) + 0) * m3 + (((powB p (ptB (⟨p, true, n, 3, 4⟩ : Pl) s) 3) + 0) * m4 + (0 * m5 + 0)))))) % p, (0 * m0 + ((1 + 0) * m1 + (((powB p (ptB (⟨p, true, n, 3, 4⟩ : Pl) s) 1) + 0) * m2 + (0 * m3 + (((powB p (ptB (⟨p, true, n, 3, 4⟩ : Pl) s) 2) + 0) * m4 + (((powB p (ptB (⟨p, true, n, 3, 4⟩ : Pl) s) 3) + 0) * m5 + 0)))))) % p]
  rw [lx_134_0, lx_134_1]
theorem lsh_eq {c : Pl} (hc : c.Ok) {m : List Int} (hm : MsgOk c m) : lshB c m = piecesB c m := by
  unfold lshB piecesB
  refine List.map_congr_left fun s _ => ?_
  have h := hc.shp
  have hl := hm.1
  obtain ⟨p, rm, n, k, d⟩ := c
  rcases h with ⟨q, h⟩ | ⟨q, h⟩
  · have q : rm = false := q
    subst q
    rcases h with ⟨h1, h2⟩ | ⟨h1, h2⟩ | ⟨h1, h2⟩ | ⟨h1, h2⟩ | ⟨h1, h2⟩ | ⟨h1, h2⟩ <;> (have h1 : k = _ := h1; have h2 : d = _ := h2; subst h1 h2)
    · exact ls_011 (hl.trans (by simp [sizeB]))
    · exact ls_012 (hl.trans (by simp [sizeB]))
    · exact ls_022 (hl.trans (by simp [sizeB]))
    · exact ls_023 (hl.trans (by simp [sizeB]))
    · exact ls_033 (hl.trans (by simp [sizeB]))
    · exact ls_034 (hl.trans (by simp [sizeB]))
  · have q : rm = true := q
    subst q
    rcases h with ⟨h1, h2⟩ | ⟨h1, h2⟩ <;> (have h1 : k = _ := h1; have h2 : d = _ := h2; subst h1 h2)
    · exact ls_122 (hl.trans (by simp [sizeB]))
    · exact ls_134 (hl.trans (by simp [sizeB]))
end Lm
set_option maxRecDepth 100000
set_option maxHeartbeats 4000000
/-! nought: a message whose pieces at some shelves are zero. -/
namespace Lm
theorem no_msg {c : Pl} (hc : c.Ok) (sh : List Nat) : MsgOk c (noB c sh) := ⟨nvK_len _, nvK_rw (pr_pk hc.pr) _⟩
theorem dot_md (p : Int) (r v : List Int) : Eqm p (dotR (r.map fun x => x % p) v) (dotR r v) := by
  have h := dot_scale (p := p) (y := 1) r v
  simpa only [Int.one_mul] using h
theorem dot_unit (n u : Nat) (r : List Int) (hu : u < n) (hr : u < r.length) : dotR r (unitB n u) = r.getD u 0 := by
  unfold unitB
  rw [unit_eq, dot_set _ _ _ _ (by simpa using hu) hr, dot_zero, List.getD_eq_getElem?_getD (l := List.replicate n 0), List.getElem?_replicate, if_pos hu]
  simp
theorem form_len (c : Pl) (s j : Nat) : (formB (lineB c s) (spB c) j).length = (spB c).length := by simp [formB]
theorem piece_at {c : Pl} (m : List Int) (s : Nat) {j : Nat} (hj : j < rmB c) : (pieceB c m s).getD j 0 = dotR (formB (lineB c s) (spB c) j) m % c.p := by
  unfold pieceB ledB formsB
  rw [List.map_map, getD_map ((fun q => dotB c.p q m) ∘ fun j => formB (lineB c s) (spB c) j) (List.range (rmB c)) j 0 0 (by simpa using hj), getD_eq (List.range (rmB c)) _ _ (by simpa using hj), List.getElem_range]
  rfl
/-- a row of the makings -/
theorem mak_row {c : Pl} (hc : c.Ok) (hl : (spB c).length = sizeB c) {a j : Nat} (ha : a < c.n) (hj : j < rmB c) : (makB c a).getD j [] = (formB (lineB c a) (spB c) j).map fun x => x % c.p := by
  unfold makB
  rw [getD_map (fun s => (List.range (sizeB c)).map fun u => ((lshB c (unitB (sizeB c) u)).getD a []).getD s 0) (List.range (rmB c)) j 0 [] (by simpa using hj), getD_eq (List.range (rmB c)) _ _ (by simpa using hj), List.getElem_range]
  have hf := form_len c a j
  refine List.ext_getElem (by simp [hf, hl]) fun u h1 h2 => ?_
  have hu : u < sizeB c := by simpa using h1
  rw [List.getElem_map, List.getElem_range, List.getElem_map]
  have hm : MsgOk c (unitB (sizeB c) u) := ⟨by simp [unitB], fun x hx => by
    have := pr_bd hc.pr
    unfold unitB at hx
    obtain ⟨s, _, rfl⟩ := List.mem_map.mp hx
    split <;> omega⟩
  rw [lsh_eq hc hm]
  unfold piecesB
  rw [getD_map (pieceB c (unitB (sizeB c) u)) (List.range c.n) a 0 [] (by simpa using ha), getD_eq (List.range c.n) _ _ (by simpa using ha), List.getElem_range, piece_at _ _ hj, dot_unit _ _ _ hu (by rw [hf, hl]; exact hu), getD_eq _ _ _ (by rw [hf, hl]; exact hu)]
theorem sp_len {c : Pl} (hc : c.Ok) : (spB c).length = sizeB c := by
  have h := hc.shp
  unfold spB sizeB rmB
  rcases h with ⟨q, h⟩ | ⟨q, h⟩
  · rw [q]
    rcases h with h | h | h | h | h | h <;> rw [h.1, h.2] <;> decide
  · rw [q]
    rcases h with h | h <;> rw [h.1, h.2] <;> decide
/-- its pieces at sh are zero -/
theorem no_zero {c : Pl} (hc : c.Ok) {sh : List Nat} (hs : ∀ s ∈ sh, s < c.n) (hf : freeB (noS c sh).2 (sizeB c) ≠ []) (hw : sh = [] ∨ widB (linesN c sh) (sizeB c) = sizeB c) {s j : Nat} (h : s ∈ sh) (hj : j < rmB c) : (pieceB c (noB c sh) s).getD j 0 = 0 := by
  have hw : widB (linesN c sh) (sizeB c) = sizeB c := hw.resolve_left fun z => by rw [z] at h; cases h
  have hM := linesN_mx hc hs
  have S := st_at (pr_pk hc.pr) (pr_iv hc.pr) hM (widB (linesN c sh) (sizeB c)) (by omega)
  obtain ⟨q, qs, hq⟩ := List.exists_cons_of_ne_nil hf
  have hqm : q ∈ freeB (noS c sh).2 (sizeB c) := by rw [hq]; exact List.mem_cons_self
  have hq1 : q < sizeB c := List.mem_range.mp (List.mem_filter.mp hqm).1
  have hq2 : q ∉ (noS c sh).2 := by simpa using (List.mem_filter.mp hqm).2
  have K := free_ker (c := q) (by omega) S (by omega) hq2
  have e : nvK c.p (noS c sh).1 (noS c sh).2 (sizeB c) q (noS c sh).2.length = noB c sh := by
    unfold noB
    rw [hq]
    rfl
  have K : Ker c.p (linesN c sh) (noB c sh) := by rw [← e]; exact K
  have hr : (makB c s).getD j [] ∈ linesN c sh := List.mem_flatMap.mpr ⟨s, h, by
    have l : (makB c s).length = rmB c := (mak_mx hc s (hs s h)).1
    rw [getD_eq _ _ _ (by omega)]
    exact List.getElem_mem _⟩
  have z := K _ hr
  rw [mak_row hc (sp_len hc) (hs s h) hj] at z
  rw [piece_at _ _ hj]
  exact ((dot_md _ _ _).symm.trans z).z'
end Lm
set_option maxRecDepth 100000
set_option maxHeartbeats 4000000
/-! nought: not zero; pieces of x + y * z. -/
namespace Lm
theorem dot_mix (p by_ : Int) : ∀ r x y : List Int, x.length = y.length → Eqm p (dotR r ((x.zip y).map fun q => (q.1 + by_ * q.2) % p)) (dotR r x + by_ * dotR r y)
  | [], x, y, _ => by simp only [dotR_nil]; exact ⟨0, by omega⟩
  | r :: rs, [], [], _ => by simp only [List.zip_nil_left, List.map_nil, dotR_nil']; exact ⟨0, by omega⟩
  | r :: rs, x :: xs, y :: ys, h => by
    have ih := dot_mix p by_ rs xs ys (by simpa using h)
    rw [List.zip_cons_cons, List.map_cons, dotR_cons, dotR_cons, dotR_cons]
    refine (((Eqm.refl p r).mul (.of_md _)).add ih).trans ⟨0, by grind⟩
def nearB (p by_ : Int) (x y : List Int) : List Int := (x.zip y).map fun q => (q.1 + by_ * q.2) % p
theorem near_ok {c : Pl} (hc : c.Ok) {x y : List Int} (hx : MsgOk c x) (hy : MsgOk c y) (by_ : Int) : MsgOk c (nearB c.p by_ x y) := ⟨by unfold nearB; rw [List.length_map, List.length_zip, hx.1, hy.1, Nat.min_self], fun z hz => by
  obtain ⟨q, _, rfl⟩ := List.mem_map.mp hz
  exact md_ok (pr_pk hc.pr) _⟩
theorem piece_ok {c : Pl} (hc : c.Ok) (m : List Int) (s : Nat) : RowOk c (pieceB c m s) := ⟨by simp [pieceB, ledB, formsB], rw_md (pr_pk hc.pr) _ _⟩
theorem near_same {c : Pl} (hc : c.Ok) {x y : List Int} (hx : MsgOk c x) (hy : MsgOk c y) (by_ : Int) {s : Nat} (h : ∀ j < rmB c, (pieceB c y s).getD j 0 = 0) : pieceB c (nearB c.p by_ x y) s = pieceB c x s := by
  have l1 := (piece_ok hc (nearB c.p by_ x y) s).1
  have l2 := (piece_ok hc x s).1
  refine List.ext_getElem (by rw [l1, l2]) fun j h1 h2 => ?_
  have hj : j < rmB c := by rw [l1] at h1; exact h1
  rw [← getD_eq _ j 0 h1, ← getD_eq _ j 0 h2, piece_at _ _ hj, piece_at _ _ hj]
  have z := h j hj
  rw [piece_at _ _ hj] at z
  refine Eqm.md ((dot_mix c.p by_ _ x y (by rw [hx.1, hy.1])).trans ?_)
  have z2 : Eqm c.p (by_ * dotR (formB (lineB c s) (spB c) j) y) (by_ * 0) := (Eqm.refl c.p by_).mul (Eqm.z z)
  exact ((Eqm.refl c.p _).add z2).trans ⟨0, by omega⟩
theorem near_ne {c : Pl} (hc : c.Ok) {x : List Int} (hx : MsgOk c x) {y : List Int} (hy : MsgOk c y) {q : Nat} (hq : q < sizeB c) (h1 : y.getD q 0 = 1) {by_ : Int} (hb : 0 < by_ ∧ by_ < c.p) : nearB c.p by_ x y ≠ x := fun e => by
  have lx : q < x.length := by rw [hx.1]; exact hq
  have ly : q < y.length := by rw [hy.1]; exact hq
  have ez := congrArg (fun l : List Int => l.getD q 0) e
  have z : (nearB c.p by_ x y).getD q 0 = (x.getD q 0 + by_ * y.getD q 0) % c.p := by
    unfold nearB
    rw [getD_map (fun q : Int × Int => (q.1 + by_ * q.2) % c.p) (x.zip y) q (0, 0) 0 (by rw [List.length_zip]; omega), getD_eq (x.zip y) _ _ (by rw [List.length_zip]; omega), List.getElem_zip, getD_eq x _ _ lx, getD_eq y _ _ ly]
  have ez : (nearB c.p by_ x y).getD q 0 = x.getD q 0 := ez
  rw [z, h1, Int.mul_one] at ez
  have hr := hx.2 _ (List.mem_of_getElem? (get_of lx 0))
  refine ne_md (p := c.p) (a := by_) (b := 0) ⟨by omega, hb.2⟩ ⟨by omega, by omega⟩ (by omega) ?_
  have k := Eqm.of_md (p := c.p) (x.getD q 0 + by_)
  rw [ez] at k
  obtain ⟨t, k⟩ := k
  exact ⟨-t, by rw [Int.mul_neg]; omega⟩
end Lm
set_option maxRecDepth 100000
set_option maxHeartbeats 4000000
/-! nought: a free column. -/
namespace Lm
theorem wid_eq {c : Pl} (hc : c.Ok) {sh : List Nat} (hs : ∀ s ∈ sh, s < c.n) (hne : sh ≠ []) : widB (linesN c sh) (sizeB c) = sizeB c := by
  unfold widB
  rw [if_neg]
  intro z
  have l := (linesN_mx hc hs).1
  rw [z] at l
  have h1 := hc.sm
  have h2 : 1 ≤ sh.length := by
    cases sh with
    | nil => exact absurd rfl hne
    | cons a t => simp
  have := Nat.mul_le_mul h2 (show 1 ≤ rmB c from h1.2.2.2.1)
  simp only [List.length_nil] at l
  omega
theorem nd_len : ∀ (l m : List Nat), l.Nodup → (∀ x ∈ l, x ∈ m) → l.length ≤ m.length
  | [], _, _, _ => Nat.zero_le _
  | a :: l, m, h, s => by
    have ha := s a List.mem_cons_self
    have hn := List.nodup_cons.mp h
    have ih := nd_len l (m.erase a) hn.2 fun x hx => (List.mem_erase_of_ne (fun z => hn.1 (by rw [← z]; exact hx))).mpr (s x (List.mem_cons_of_mem _ hx))
    rw [List.length_erase_of_mem ha] at ih
    have := List.length_pos_of_mem ha
    rw [List.length_cons]
    omega
/-- fewer leads than columns -/
theorem free_few {st : List Nat} {L : Nat} (h : st.length < L) : freeB st L ≠ [] := fun z => by
  have all : ∀ s ∈ List.range L, s ∈ st := fun s hs => Classical.byContradiction fun hn => by
    have : s ∈ freeB st L := List.mem_filter.mpr ⟨hs, by simpa using hn⟩
    rw [z] at this
    cases this
  have := nd_len _ _ List.nodup_range all
  rw [List.length_range] at this
  omega
theorem no_st {c : Pl} (hc : c.Ok) {sh : List Nat} (hs : ∀ s ∈ sh, s < c.n) : St c.p (sizeB c) (sh.length * rmB c) (widB (linesN c sh) (sizeB c)) (linesN c sh) (noS c sh).1 (noS c sh).2 :=
  st_at (pr_pk hc.pr) (pr_iv hc.pr) (linesN_mx hc hs) _ (by unfold widB; split <;> omega)
theorem size_more {c : Pl} (hc : c.Ok) (h : ¬ (c.rm = false ∧ c.k = 3 ∧ c.d = 3)) : (c.k - 1) * rmB c < sizeB c := by
  have g := hc.shp
  unfold sizeB rmB
  rcases g with ⟨q, g⟩ | ⟨q, g⟩
  · rw [q]
    rcases g with g | g | g | g | g | g
    · rw [g.1, g.2]; decide
    · rw [g.1, g.2]; decide
    · rw [g.1, g.2]; decide
    · rw [g.1, g.2]; decide
    · exact absurd ⟨q, g.1, g.2⟩ h
    · rw [g.1, g.2]; decide
  · rw [q]
    rcases g with g | g <;> rw [g.1, g.2] <;> decide
theorem no_free {c : Pl} (hc : c.Ok) {sh : List Nat} (hs : ∀ s ∈ sh, s < c.n) (hl : sh.length + 1 = c.k) (h : ¬ (c.rm = false ∧ c.k = 3 ∧ c.d = 3)) : freeB (noS c sh).2 (sizeB c) ≠ [] := by
  have a := (no_st hc hs).le
  have b := size_more hc h
  have e : sh.length = c.k - 1 := by omega
  rw [e] at a
  exact free_few (by omega)
end Lm
set_option maxRecDepth 100000
set_option maxHeartbeats 1000000
/-! nought: a free column for letters with k = d = 3. -/
namespace Lm
/-- where every column leads only zeros lie in the kernel -/
theorem lead_zero {p : Int} {L n w : Nat} {rs f : List (List Int)} {st : List Nat} (S : St p L n w rs f st) (hf : freeB st L = []) {v : List Int} (hv : v.length = L) (hk : Ker p rs v) {x : Nat} (hx : x < L) : Eqm p (v.getD x 0) 0 := by
  have all : ∀ s < L, s ∈ st := fun s hs => Classical.byContradiction fun hn => by
    have : s ∈ freeB st L := List.mem_filter.mpr ⟨List.mem_range.mpr hs, by simpa using hn⟩
    rw [hf] at this
    cases this
  obtain ⟨k, hk1, e⟩ := List.getElem_of_mem (all x hx)
  have hkn : k < n := by have := S.le; omega
  have ex : st[k]? = some x := by rw [List.getElem?_eq_getElem hk1, e]
  have row := S.mx.row hkn
  have eu : f.getD k [] = unitB L x := by
    refine List.ext_getElem (by rw [row.2.1]; simp [unitB]) fun y h1 h2 => ?_
    have hy : y < L := by rw [row.2.1] at h1; exact h1
    obtain ⟨j, hj, ej⟩ := List.getElem_of_mem (all y hy)
    have c := S.col j y (by rw [List.getElem?_eq_getElem hj, ej]) k hkn
    have c' : (f.getD k []).getD y 0 = if k = j then 1 else 0 := c
    rw [← getD_eq _ y 0 h1, c']
    have eu : (unitB L x)[y] = if y = x then 1 else 0 := by simp [unitB]
    rw [eu]
    by_cases hkj : k = j
    · subst hkj
      rw [if_pos rfl, if_pos (by omega)]
    · rw [if_neg hkj, if_neg fun z => ?_]
      rcases Nat.lt_or_gt_of_ne hkj with h | h
      · exact List.pairwise_iff_getElem.mp S.nd k j hk1 hj h (by omega)
      · exact List.pairwise_iff_getElem.mp S.nd j k hj hk1 h (by omega)
  have hd := ker_at.mp ((S.ker v).mpr hk) k (by rw [S.mx.1]; exact hkn)
  rw [eu, dotR_comm, dot_unit _ _ _ hx (by omega)] at hd
  exact hd
end Lm
set_option maxRecDepth 100000
set_option maxHeartbeats 1000000
/-! nought: a free column for letters with k = d = 3. -/
namespace Lm
abbrev c33 (p : Int) (n : Nat) : Pl := ⟨p, false, n, 3, 3⟩
def v33 (a b : Int) : List Int := [(a * b) * (a * b), (a * b) * -(a + b), a * b, -(a + b) * -(a + b), -(a + b), 1]
theorem k33 {p a e x y : Int} (hx : a = x ∨ a = y) (he : Eqm p e (a * a)) :
    Eqm p (dotR [1 + 0, a + 0, e + 0, 0, 0, 0] (v33 x y)) 0 ∧ Eqm p (dotR [0, 1 + 0, 0, a + 0, e + 0, 0] (v33 x y)) 0 ∧ Eqm p (dotR [0, 0, 1 + 0, 0, a + 0, e + 0] (v33 x y)) 0 := by
  obtain ⟨r, he⟩ := he
  unfold v33
  simp only [dotR_cons, dotR_nil]
  rcases hx with h | h <;> subst h
  · exact ⟨⟨r * (a * y), by subst he; grind⟩, ⟨r * -(a + y), by subst he; grind⟩, ⟨r, by subst he; grind⟩⟩
  · exact ⟨⟨r * (x * a), by subst he; grind⟩, ⟨r * -(x + a), by subst he; grind⟩, ⟨r, by subst he; grind⟩⟩
theorem r33 {p : Int} {n s : Nat} (hc : (c33 p n).Ok) (hs : s < n) {x y : Int} (hx : powB p (ptB (c33 p n) s) 1 = x ∨ powB p (ptB (c33 p n) s) 1 = y) : Ker p (makB (c33 p n) s) (v33 x y) := by
  have hM := mak_mx hc s hs
  refine ker_at.mpr fun j hj => ?_
  have hr : rmB (c33 p n) = 3 := by simp [rmB]
  rw [hM.1, hr] at hj
  rw [mak_row hc (sp_len hc) hs (by rw [hr]; exact hj)]
  refine (dot_md _ _ _).trans ?_
  obtain ⟨k0, k1, k2⟩ := k33 (e := powB p (ptB (c33 p n) s) 2) hx (pw_sq _ _)
  obtain rfl | rfl | rfl : j = 0 ∨ j = 1 ∨ j = 2 := by omega
  · exact k0
  · exact k1
  · exact k2
theorem no_free33 {p : Int} {n : Nat} (hc : (c33 p n).Ok) {sh : List Nat} (hs : ∀ s ∈ sh, s < n) (hl : sh.length = 2) : freeB (noS (c33 p n) sh).2 (sizeB (c33 p n)) ≠ [] := fun z => by
  obtain ⟨s, t, rfl⟩ := len2 hl
  have hz : sizeB (c33 p n) = 6 := by simp [sizeB]
  have hp := pr_bd hc.pr
  have S := no_st hc (sh := [s, t]) hs
  have hk : Ker p (linesN (c33 p n) [s, t]) (v33 (powB p (ptB (c33 p n) s) 1) (powB p (ptB (c33 p n) t) 1)) := fun r hr => by
    obtain ⟨a, ha, hra⟩ := List.mem_flatMap.mp hr
    simp only [List.mem_cons, List.not_mem_nil, or_false] at ha
    rcases ha with ha | ha <;> subst ha
    · exact r33 hc (hs _ (by simp)) (.inl rfl) r hra
    · exact r33 hc (hs _ (by simp)) (.inr rfl) r hra
  have l := lead_zero S z (by rw [hz]; rfl) hk (x := 5) (by rw [hz]; decide)
  have l : Eqm p 1 0 := l
  have hp : 11 ≤ p ∧ p ≤ 97 := hp
  have := l.eq (by omega) (by omega)
  omega
theorem no_free' {c : Pl} (hc : c.Ok) {sh : List Nat} (hs : ∀ s ∈ sh, s < c.n) (hl : sh.length + 1 = c.k) : freeB (noS c sh).2 (sizeB c) ≠ [] := by
  by_cases h : c.rm = false ∧ c.k = 3 ∧ c.d = 3
  · obtain ⟨p, rm, n, k, d⟩ := c
    obtain ⟨h1, h2, h3⟩ := h
    have h1 : rm = false := h1
    have h2 : k = 3 := h2
    have h3 : d = 3 := h3
    subst h1 h2 h3
    have hl : sh.length + 1 = 3 := hl
    exact no_free33 hc hs (by omega)
  · exact no_free hc hs hl h
end Lm
set_option maxRecDepth 100000
set_option maxHeartbeats 1000000
/-! Two messages that agree on k - 1 shelves; sorted numbers; what read_sure tells of planted pieces. -/
namespace Lm
/-- where nought is one -/
theorem no_one {c : Pl} (hc : c.Ok) {sh : List Nat} (hs : ∀ s ∈ sh, s < c.n) (hl : sh.length + 1 = c.k) : ∃ q < sizeB c, (noB c sh).getD q 0 = 1 := by
  have hf := no_free' hc hs hl
  obtain ⟨q, qs, hq⟩ := List.exists_cons_of_ne_nil hf
  have hqm : q ∈ freeB (noS c sh).2 (sizeB c) := by rw [hq]; exact List.mem_cons_self
  have hq1 : q < sizeB c := List.mem_range.mp (List.mem_filter.mp hqm).1
  have hq2 : q ∉ (noS c sh).2 := by simpa using (List.mem_filter.mp hqm).2
  refine ⟨q, hq1, ?_⟩
  have e : nvK c.p (noS c sh).1 (noS c sh).2 (sizeB c) q (noS c sh).2.length = noB c sh := by
    unfold noB
    rw [hq]
    rfl
  rw [← e]
  exact nvK_one hq1 hq2 _ (Nat.le_refl _)
structure Near (c : Pl) (sh : List Nat) (m y : List Int) : Prop where
  ok : MsgOk c y
  ne : y ≠ m
  same : ∀ s ∈ sh, pieceB c y s = pieceB c m s
  diff : ∀ s, s < c.n → s ∉ sh → pieceB c y s ≠ pieceB c m s
theorem near_all {c : Pl} (hc : c.Ok) {sh : List Nat} (hs : ∀ s ∈ sh, s < c.n) (nd : sh.Nodup) (hl : sh.length + 1 = c.k) {m : List Int} (hm : MsgOk c m) {by_ : Int} (hb : 0 < by_ ∧ by_ < c.p) : Near c sh m (nearB c.p by_ m (noB c sh)) := by
  obtain ⟨q, hq, h1⟩ := no_one hc hs hl
  have no := no_msg hc sh
  have ok := near_ok hc hm no by_
  have ne := near_ne hc hm no hq h1 hb
  have same : ∀ s ∈ sh, pieceB c (nearB c.p by_ m (noB c sh)) s = pieceB c m s := fun s h => near_same hc hm no by_ fun j hj => by
    refine no_zero hc hs (no_free' hc hs hl) ?_ h hj
    by_cases z : sh = []
    · exact .inl z
    · exact .inr (wid_eq hc hs z)
  refine ⟨ok, ne, same, fun s hlt hn he => ne (one_msg hc (sh := s :: sh) ⟨by rw [List.length_cons, hl], fun t ht => ?_, List.nodup_cons.mpr ⟨hn, nd⟩⟩ ok hm fun t ht => ?_)⟩
  · rcases List.mem_cons.mp ht with e | e
    · rw [e]
      exact hlt
    · exact hs t e
  · rcases List.mem_cons.mp ht with e | e
    · rw [e]
      exact he
    · exact same t e
/-! ### sorted -/
def srtN (l : List Nat) : List Nat := l.mergeSort (fun a b => decide (a ≤ b))
theorem srtN_perm (l : List Nat) : (srtN l).Perm l := List.mergeSort_perm _ _
theorem srtN_pair (l : List Nat) : (srtN l).Pairwise (· ≤ ·) := by
  have h := List.pairwise_mergeSort (le := fun a b : Nat => decide (a ≤ b)) (fun a b c h1 h2 => by simp at *; omega) (fun a b => by simp; omega) l
  exact h.imp fun h => by simpa using h
theorem srtN_up {l : List Nat} (h : l.Nodup) : (srtN l).Pairwise (· < ·) := by
  have h1 := srtN_pair l
  have h2 : (srtN l).Nodup := (srtN_perm l).nodup_iff.mpr h
  exact (h1.and h2).imp fun ⟨a, b⟩ => by omega
theorem srtN_len (l : List Nat) : (srtN l).length = l.length := (srtN_perm l).length_eq
theorem srtN_mem {l : List Nat} {x : Nat} : x ∈ srtN l ↔ x ∈ l := (srtN_perm l).mem_iff
theorem srt_nat (l : List Nat) : srt (l.map fun (k : Nat) => (k : Int)) = (srtN l).map fun (k : Nat) => (k : Int) :=
  srt_uniq ((srt_perm _).trans ((srtN_perm l).map _).symm) (srt_pair _) (List.pairwise_map.mpr ((srtN_pair l).imp fun h => by omega))
theorem up_ext : ∀ {a b : List Nat}, a.Pairwise (· < ·) → b.Pairwise (· < ·) → (∀ x, x ∈ a ↔ x ∈ b) → a = b
  | [], [], _, _, _ => rfl
  | [], y :: b, _, _, h => by have := (h y).mpr List.mem_cons_self; cases this
  | x :: a, [], _, _, h => by have := (h x).mp List.mem_cons_self; cases this
  | x :: a, y :: b, ha, hb, h => by
    obtain ⟨a1, a2⟩ := List.pairwise_cons.mp ha
    obtain ⟨b1, b2⟩ := List.pairwise_cons.mp hb
    have e : x = y := by
      have hx := List.mem_cons.mp ((h x).mp List.mem_cons_self)
      have hy := List.mem_cons.mp ((h y).mpr List.mem_cons_self)
      rcases hx with e | hx
      · exact e
      · rcases hy with e | hy
        · exact e.symm
        · have := b1 x hx
          have := a1 y hy
          omega
    subst e
    rw [up_ext a2 b2 fun z => ?_]
    have hz := h z
    rw [List.mem_cons, List.mem_cons] at hz
    constructor
    · intro q
      have := a1 z q
      exact (hz.mp (.inr q)).resolve_left (by omega)
    · intro q
      have := b1 z q
      exact (hz.mpr (.inr q)).resolve_left (by omega)
theorem fil_srt {so l : List Nat} (hs : so.Pairwise (· < ·)) (hl : l.Nodup) (hm : ∀ x ∈ l, x ∈ so) : (so.filter fun s => decide (s ∈ l)) = srtN l :=
  up_ext (hs.filter _) (srtN_up hl) fun x => by
    rw [List.mem_filter, srtN_mem, decide_eq_true_eq]
    exact ⟨fun h => h.2, fun h => ⟨hm x h, h⟩⟩
theorem unl_map {c : Pl} (m : List Int) (so : List Nat) (g : Nat → List Int) : unlB c m so (so.map g) = so.filter fun s => !decide (pieceB c m s = g s) := by
  unfold unlB
  have e : so.zip (so.map g) = so.map fun s => (s, g s) := by
    refine List.ext_getElem (by simp) fun i h1 h2 => ?_
    rw [List.getElem_zip, List.getElem_map, List.getElem_map]
  rw [e, List.filter_map, List.map_map]
  exact (List.map_congr_left fun _ _ => rfl).trans (List.map_id _)
/-- the pieces of a message on the shelves so, those of bad aside -/
structure Pl1 (c : Pl) (m : List Int) (so bad : List Nat) (g : Nat → List Int) : Prop where
  msg : MsgOk c m
  up : so.Pairwise (· < ·)
  lt : ∀ s ∈ so, s < c.n
  row : ∀ s ∈ so, RowOk c (g s)
  nd : bad.Nodup
  sub : ∀ s ∈ bad, s ∈ so
  ne : ∀ s ∈ bad, pieceB c m s ≠ g s
  eq : ∀ s ∈ so, s ∉ bad → pieceB c m s = g s
section
variable {c : Pl} {m : List Int} {so bad : List Nat} {g : Nat → List Int}
theorem Pl1.hrd (h : Pl1 c m so bad g) : Hrd c so (so.map g) := ⟨h.up, h.lt, List.length_map _, fun r hr => by
  obtain ⟨s, hs, rfl⟩ := List.mem_map.mp hr
  exact h.row s hs⟩
theorem Pl1.unl (h : Pl1 c m so bad g) : unlB c m so (so.map g) = srtN bad := by
  rw [unl_map, ← fil_srt h.up h.nd h.sub]
  refine List.filter_congr fun s hs => ?_
  by_cases hb : s ∈ bad
  · rw [decide_eq_true hb, decide_eq_false (h.ne s hb)]
    rfl
  · rw [decide_eq_false hb, decide_eq_true (h.eq s hs hb)]
    rfl
theorem Pl1.some (hc : c.Ok) (h : Pl1 c m so bad g) {e : Nat} (hk : c.k + 2 * e ≤ so.length) (hb : bad.length ≤ e) : sureB c e so (so.map g) = .some (m, srtN bad) := by
  rw [sure_some hc h.hrd h.msg hk (by rw [h.unl, srtN_len]; exact hb), h.unl]
theorem Pl1.none (hc : c.Ok) (h : Pl1 c m so bad g) {e : Nat} (hk : c.k + 2 * e + 1 ≤ so.length) (hb : bad.length = e + 1) : sureB c e so (so.map g) = .none :=
  sure_none hc h.hrd h.msg hk (by rw [h.unl, srtN_len]; exact hb)
end
/-- a drawn choice among numbers -/
theorem perm_nat {ys zs : List D} {l : List Nat} (h : (ys ++ zs).Perm (l.map fun (k : Nat) => I (k : Int))) : ∃ os : List Nat, ys = os.map (fun (k : Nat) => I (k : Int)) ∧ os.length = ys.length ∧ (∀ s ∈ os, s ∈ l) ∧ (l.Nodup → os.Nodup) := by
  let f : Nat → D := fun k => I (k : Int)
  let g : D → Nat := fun d => match d with | .int i => i.toNat | _ => 0
  have gf : ∀ k : Nat, g (f k) = k := fun k => by show (k : Int).toNat = k; omega
  have e1 : ys = (ys.map g).map f := by
    rw [List.map_map]
    refine ((List.map_id ys).symm.trans (List.map_congr_left fun y hy => ?_))
    obtain ⟨k, _, hk⟩ := List.mem_map.mp (h.mem_iff.mp (List.mem_append_left zs hy))
    rw [← hk]
    show f k = f (g (f k))
    rw [gf]
  have p : (ys.map g ++ zs.map g).Perm l := by
    have := h.map g
    rw [List.map_append, List.map_map] at this
    exact this.trans (by rw [show (g ∘ fun (k : Nat) => I (k : Int)) = id from funext gf, List.map_id])
  refine ⟨ys.map g, e1, by rw [List.length_map], fun s hs => p.mem_iff.mp (List.mem_append_left _ hs), fun nd => ?_⟩
  have := p.nodup_iff.mpr nd
  exact (List.nodup_append.mp this).1
end Lm
set_option maxRecDepth 100000
set_option maxHeartbeats 4000000
/-! Data that repr shows; slices; a choice of rows by places. -/
namespace Lm
open PySem PySem.Spec PyProof.Rows L2 Evl
/-- light data -/
def Lit (w n : Nat) (d : D) : Prop := (d.showable = true ∧ d.hasDict = false) ∧ d.leavesShort 13 = true ∧ d.weight ≤ w ∧ d.depth ≤ n
theorem lit_int {i : Int} (h : -1000 ≤ i ∧ i ≤ 1000) : Lit 10 0 (.int i) := by
  have hn : i.natAbs ≤ 1000 := by omega
  have hl : i.natAbs.log2 < 10 := by
    by_cases z : i.natAbs = 0
    · rw [z]
      decide
    · exact (Nat.log2_lt z).mpr (by omega)
  refine ⟨⟨?_, ?_⟩, ?_, ?_, ?_⟩
  · simp only [PyData.showable, decide_eq_true_eq]
    omega
  · simp only [PyData.hasDict]
  · simp only [PyData.leavesShort, decide_eq_true_eq]
    exact PyData.shown_int_le (by omega)
  · simp only [PyData.weight]
    split <;> omega
  · simp only [PyData.depth]
    omega
theorem Lit.mono {w n w' n' : Nat} {d : D} (h : Lit w n d) (a : w ≤ w') (b : n ≤ n') : Lit w' n' d := ⟨h.1, h.2.1, by have := h.2.2.1; omega, by have := h.2.2.2; omega⟩
theorem lit_all {w n : Nat} : ∀ {ds : List D}, (∀ d ∈ ds, Lit w n d) → (PyData.showableAll ds = true ∧ PyData.hasDictAll ds = false) ∧ PyData.leavesShortAll 13 ds = true ∧ PyData.weightAll ds ≤ (w + 1) * ds.length ∧ PyData.depthAll ds ≤ n
  | [], _ => by simp [PyData.showableAll, PyData.hasDictAll, PyData.leavesShortAll, PyData.weightAll, PyData.depthAll]
  | d :: ds, h => by
    obtain ⟨⟨a1, a2⟩, a3, a4, a5⟩ := lit_all fun x hx => h x (List.mem_cons_of_mem _ hx)
    obtain ⟨⟨b1, b2⟩, b3, b4, b5⟩ := h d List.mem_cons_self
    simp only [PyData.showableAll, PyData.hasDictAll, PyData.leavesShortAll, PyData.weightAll, PyData.depthAll, a1, a2, a3, b1, b2, b3, List.length_cons, Nat.mul_succ]
    refine ⟨⟨rfl, rfl⟩, rfl, by omega, by omega⟩
theorem lit_tup {w n m : Nat} {ds : List D} (h : ∀ d ∈ ds, Lit w n d) (hm : ds.length ≤ m) : Lit ((w + 1) * m) (n + 1) (.tuple ds) := by
  obtain ⟨⟨a1, a2⟩, a3, a4, a5⟩ := lit_all h
  have := Nat.mul_le_mul_left (w + 1) hm
  refine ⟨⟨?_, ?_⟩, ?_, ?_, ?_⟩
  · simpa only [PyData.showable] using a1
  · simpa only [PyData.hasDict] using a2
  · simpa only [PyData.leavesShort] using a3
  · simp only [PyData.weight]
    omega
  · simp only [PyData.depth]
    omega
theorem lit_lst {w n m : Nat} {ds : List D} (h : ∀ d ∈ ds, Lit w n d) (hm : ds.length ≤ m) : Lit ((w + 1) * m) (n + 1) (.list ds) := by
  obtain ⟨⟨a1, a2⟩, a3, a4, a5⟩ := lit_all h
  have := Nat.mul_le_mul_left (w + 1) hm
  refine ⟨⟨?_, ?_⟩, ?_, ?_, ?_⟩
  · simpa only [PyData.showable] using a1
  · simpa only [PyData.hasDict] using a2
  · simpa only [PyData.leavesShort] using a3
  · simp only [PyData.weight]
    omega
  · simp only [PyData.depth]
    omega
theorem Lit.shw {w n : Nat} {d : D} (h : Lit w n d) (hw : w ≤ 2 ^ 20) (hn : n ≤ 60) (k : isDisplay d = true) : Shw d :=
  ⟨h.1.1, h.1.2, PyData.shown_fits (B := 13) (by decide) (by decide) h.2.1 (by have := h.2.2.1; omega), by have := h.2.2.2; omega, .inl k⟩
theorem shw_non : Shw .none := ⟨by simp [PyData.showable], by simp [PyData.hasDict], PyData.shown_fits (B := 13) (by decide) (by decide) (by simp [PyData.leavesShort]) (by simp [PyData.weight]), by simp [PyData.depth], .inr rfl⟩
theorem lit_TI {r : List Int} (h : ∀ x ∈ r, -1000 ≤ x ∧ x ≤ 1000) (hl : r.length ≤ 100) : Lit 1100 1 (TI r) := lit_tup (w := 10) (n := 0) (m := 100) (fun d hd => by
  obtain ⟨x, hx, rfl⟩ := List.mem_map.mp hd
  exact lit_int (h x hx)) (by rw [List.length_map]; exact hl)
/-- a message and shelves -/
theorem lit_ans {c : Pl} (hc : c.Ok) {m : List Int} (hm : MsgOk c m) {f : List Nat} (hf : ∀ s ∈ f, s < c.n) (hl : f.length ≤ 100) : Lit 2202 2 (ansD (some (m, f))) := by
  have hp := pr_bd hc.pr
  have hn := hc.n
  have hs := size_few hc
  refine lit_tup (w := 1100) (n := 1) (m := 2) (fun d hd => ?_) (by simp)
  simp only [List.mem_cons, List.not_mem_nil, or_false] at hd
  rcases hd with h | h
  · rw [h]
    exact lit_TI (fun x hx => by have := hm.2 x hx; omega) (by rw [hm.1]; omega)
  · rw [h, TN_eq]
    refine lit_TI (fun x hx => ?_) (by rw [List.length_map]; exact hl)
    obtain ⟨k, hk, rfl⟩ := List.mem_map.mp hx
    have := hf k hk
    omega
/-! ### slices -/
theorem sIx_neg1 (n d : Nat) (h : 1 ≤ n) : HT.sIx n d (some (-1)) = n - 1 := by
  show (if (-1 : Int) < 0 then ((-1 : Int) + (n : Int)).toNat else min (-1 : Int).toNat n) = n - 1
  rw [if_pos (by decide)]
  omega
theorem cut_but {α : Type} (xs : List α) (h : 1 ≤ xs.length) : cut xs none (some (-1)) = xs.dropLast := by
  unfold cut
  rw [sIx_none, sIx_neg1 _ _ h, List.drop_zero, Nat.sub_zero, List.dropLast_eq_take]
theorem cut_mid {α : Type} (xs : List α) (k : Nat) (h : 1 ≤ xs.length) : cut xs (some (k : Int)) (some (-1)) = xs.dropLast.drop k := by
  unfold cut
  rw [sIx_nat, sIx_neg1 _ _ h, List.dropLast_eq_take, List.drop_take]
  by_cases q : k ≤ xs.length
  · rw [Nat.min_eq_left q]
  · rw [Nat.min_eq_right (by omega), List.drop_of_length_le (Nat.le_refl _), List.drop_of_length_le (by omega)]
    simp
theorem iI {i j : Int} (h : i = j) : (I i : D) = I j := by rw [h]
theorem LN_eq (l : List Nat) : LN l = LI (l.map fun (k : Nat) => (k : Int)) := by
  show PyData.list _ = PyData.list _
  rw [List.map_map]
  rfl
theorem pcs_at {c : Pl} (m : List Int) {s : Nat} (h : s < c.n) : (piecesB c m)[s]? = some (pieceB c m s) := by
  unfold piecesB
  rw [List.getElem?_map, List.getElem?_range h]
  rfl
section
variable {X : Cx} {ρ : En} {a b : Expr} {l : List Nat} {k : Nat} {i : Int} {p p2 pos : Pos}
theorem l_to (k : Nat) (hk : i = (k : Int)) (ha : DE X ρ a (LN l)) (hb : DE X ρ b (I i)) : DL X ρ (.Subscript a (.Slice none (some b) none p2) pos) ((l.take k).map fun (k : Nat) => I (k : Int)) :=
  (l_slL ha o_none (o_some hb)).is (by rw [hk, cut_map, cut_to])
theorem l_from (k : Nat) (hk : i = (k : Int)) (ha : DE X ρ a (LN l)) (hb : DE X ρ b (I i)) : DL X ρ (.Subscript a (.Slice (some b) none none p2) pos) ((l.drop k).map fun (k : Nat) => I (k : Int)) :=
  (l_slL ha (o_some hb) o_none).is (by rw [hk, cut_map, cut_from])
theorem l_but (hl : 1 ≤ l.length) (ha : DE X ρ a (LN l)) (hb : DE X ρ b (I (-1))) : DL X ρ (.Subscript a (.Slice none (some b) none p2) pos) (l.dropLast.map fun (k : Nat) => I (k : Int)) :=
  (l_slL ha o_none (o_some hb)).is (by rw [cut_map, cut_but _ hl])
theorem l_mid {e : Expr} (k : Nat) (hk : i = (k : Int)) (hl : 1 ≤ l.length) (ha : DE X ρ a (LN l)) (he : DE X ρ e (I i)) (hb : DE X ρ b (I (-1))) : DL X ρ (.Subscript a (.Slice (some e) (some b) none p2) pos) ((l.dropLast.drop k).map fun (k : Nat) => I (k : Int)) :=
  (l_slL ha (o_some he) (o_some hb)).is (by rw [hk, cut_map, cut_mid _ _ hl])
theorem e_srt (hm : X.mg "sorted" = none) (h : DE X ρ a (LN l)) (hg : Gl X "sorted" := by rfl) (he : starEach [a] X.env = (false, eval a X.env) :: starEach [] X.env := by rfl) : DE X ρ (.Call (.Name "sorted" p) [a] [] pos) (LN (srtN l)) :=
  (l_sorted hm (h.is (LN_eq l)) hg he).e.is (by rw [srt_nat]; exact (LN_eq _).symm)
theorem t_inN (ha : DE X ρ a (I (k : Int))) (hb : DE X ρ b (LN l)) (hm : behindInMarks .In b = false := by rfl) : DT X ρ (.Compare a [.In] [b] pos) (decide (k ∈ l)) :=
  (t_in ha (hb.is (LN_eq l)) hm).is (decide_eq_decide.mpr ⟨fun h => by
    obtain ⟨j, hj, e⟩ := List.mem_map.mp h
    rwa [show k = j by omega], fun h => List.mem_map.mpr ⟨k, h, rfl⟩⟩)
end
/-- a drawn order's parts -/
structure Parts (os : List Nat) (k e : Nat) : Prop where
  l1 : (os.take (k - 1)).length = k - 1
  l2 : ((os.take (k - 1 + e)).drop (k - 1)).length = e
  l3 : (os.dropLast.drop (k - 1 + e)).length = e
  a : ∀ s ∈ os.take (k - 1), s ∈ os
  m : ∀ s ∈ (os.take (k - 1 + e)).drop (k - 1), s ∈ os ∧ s ∈ os.take (k - 1 + e) ∧ s ∉ os.take (k - 1)
  o : ∀ s ∈ os.take (k - 1 + e), s ∉ (os.take (k - 1 + e)).drop (k - 1) → s ∈ os.take (k - 1)
  t : ∀ s ∈ os.dropLast.drop (k - 1 + e), s ∈ os ∧ s ∉ os.take (k - 1)
  na : (os.take (k - 1)).Nodup
  nm : ((os.take (k - 1 + e)).drop (k - 1)).Nodup
  nt : (os.dropLast.drop (k - 1 + e)).Nodup
  r : ∀ s ∈ os.drop (k - 1), s ∈ os ∧ s ∉ os.take (k - 1)
theorem parts {os : List Nat} (nd : os.Nodup) {k e : Nat} (hk : 1 ≤ k) (he : 1 ≤ e) (hl : os.length = k + 2 * e) : Parts os k e := by
  have dis : ∀ s ∈ os.drop (k - 1), s ∈ os ∧ s ∉ os.take (k - 1) := fun s hs => ⟨List.mem_of_mem_drop hs, fun h => by
    rw [← List.take_append_drop (k - 1) os] at nd
    exact (List.nodup_append.mp nd).2.2 s h s hs rfl⟩
  have ed : (os.take (k - 1 + e)).drop (k - 1) = (os.drop (k - 1)).take e := by
    rw [List.drop_take]
    congr 1
    omega
  have et : os.take (k - 1 + e) = os.take (k - 1) ++ (os.take (k - 1 + e)).drop (k - 1) := by
    have h := (List.take_append_drop (k - 1) (os.take (k - 1 + e))).symm
    rwa [List.take_take, Nat.min_eq_left (by omega)] at h
  have eb : ∀ s ∈ os.dropLast.drop (k - 1 + e), s ∈ os.drop (k - 1) := fun s hs => by
    rw [List.dropLast_eq_take, List.drop_take] at hs
    have h := List.mem_of_mem_take hs
    rw [← List.drop_drop] at h
    exact List.mem_of_mem_drop h
  refine ⟨?_, ?_, ?_, fun s h => List.mem_of_mem_take h, fun s h => ?_, fun s h hn => ?_, fun s h => dis s (eb s h), nd.sublist (List.take_sublist _ _), nd.sublist ((List.drop_sublist _ _).trans (List.take_sublist _ _)), nd.sublist ((List.drop_sublist _ _).trans (List.dropLast_sublist _)), dis⟩
  · rw [List.length_take]
    omega
  · rw [List.length_drop, List.length_take]
    omega
  · rw [List.length_drop, List.length_dropLast]
    omega
  · have h2 := h
    rw [ed] at h2
    have h3 := dis s (List.mem_of_mem_take h2)
    exact ⟨h3.1, List.mem_of_mem_drop h, h3.2⟩
  · rw [et] at h
    exact (List.mem_append.mp h).resolve_right hn
end Lm
set_option maxRecDepth 100000
set_option maxHeartbeats 4000000
/-! Of two messages that agree on K - 1 shelves none is told until one more piece of the one is there. -/
namespace Lm
open PySem PySem.Spec PyProof.Rows L2 Evl
/-- the pieces of both, by a choice -/
def mixP (c : Pl) (m y : List Int) (l : List Nat) (s : Nat) : List Int := if s ∈ l then pieceB c m s else pieceB c y s
section
variable {c : Pl} {e : Nat} {os : List Nat} {m y : List Int}
theorem one_pl (hc : c.Ok) (nd : os.Nodup) (lt : ∀ s ∈ os, s < c.n) (p : Parts os c.k e) (hm : MsgOk c m) (N : Near c (os.take (c.k - 1)) m y) : Pl1 c m (srtN os) (os.dropLast.drop (c.k - 1 + e)) (mixP c y m (os.dropLast.drop (c.k - 1 + e))) where
  msg := hm
  up := srtN_up nd
  lt := fun s h => lt s (srtN_mem.mp h)
  row := fun s h => by
    unfold mixP
    split <;> exact piece_ok hc _ _
  nd := p.nt
  sub := fun s h => srtN_mem.mpr (p.t s h).1
  ne := fun s h => by
    unfold mixP
    rw [if_pos h]
    exact (N.diff s (lt s (p.t s h).1) (p.t s h).2).symm
  eq := fun s _ h => by
    unfold mixP
    rw [if_neg h]
theorem two_pl (hc : c.Ok) (nd : os.Nodup) (lt : ∀ s ∈ os, s < c.n) (p : Parts os c.k e) (N : Near c (os.take (c.k - 1)) m y) : Pl1 c y (srtN os) ((os.take (c.k - 1 + e)).drop (c.k - 1)) (mixP c m y (os.take (c.k - 1 + e))) where
  msg := N.ok
  up := srtN_up nd
  lt := fun s h => lt s (srtN_mem.mp h)
  row := fun s h => by
    unfold mixP
    split <;> exact piece_ok hc _ _
  nd := p.nm
  sub := fun s h => srtN_mem.mpr (p.m s h).1
  ne := fun s h => by
    unfold mixP
    rw [if_pos (p.m s h).2.1]
    exact N.diff s (lt s (p.m s h).1) (p.m s h).2.2
  eq := fun s _ h => by
    unfold mixP
    split
    · rename_i h2
      exact N.same s (p.o s h2 h)
    · rfl
end
section
variable {P : Program} {w : World} {K : PySem.W.Frag} {mg : Str → Option Value} {base : Heap} {C fI cc cd : Addr}
def R_law_twice_right (wl ds : List D) (Φ : List D → D → Prop) : Prop := W3 wl ∧ ∃ (c : Pl) (e : Nat) (m : List Int), ds = [plD c, I e, TI m] ∧ (PlanOk e c ∧ 1 ≤ e ∧ e ≤ 2 ∧ MsgOk c m) ∧ ∀ w', W3 w' → Φ w' (.bool true)
theorem d_law_twice_right (T : Txt K mg) (Z : ExF P K mg C fI cc cd) : DefG P w K mg base "_law_twice_right" 12 P_law_twice_right (SpW K R_law_twice_right) := by
  obtain ⟨hmg, fd, F⟩ := T.f_law_twice_right
  refine mk_defG hmg F (own_okG F sc_law_twice_right (fun wl ds Φ ⟨_, _, _, _, h, _⟩ => by rw [h]; rfl) fun cdv A outer s H E a w0 ds Φ hg hr hR => ?_) (fun _ _ _ _ _ _ us hl => match us, hl with | [_, _, _, _], _ => rfl)
  obtain ⟨hw, c, e, m, rfl, ⟨⟨hc, hbig⟩, he1, he2, hm⟩, hΦ⟩ := hR
  show WS _ _ [.own w0, .dat (plD c), .dat (I e), .dat (TI m), .un, .un, .un, .un, .un, .un, .un, .un, .un, .un, .un, .un, .un, .un, .un, .un] _ _
  have nd := sc_law_twice_right.nd
  have hr1 := hr.mono (show 1 ≤ 11 by decide)
  have hk := hc.k
  have hn := hc.n
  have hp := pr_pk hc.pr
  have hpb := pr_bd hc.pr
  have hsz := size_few hc
  have hml := hm.1
  refine w_cons (w_tup2 4 5 (x_callW 0 (d_law_unlike T) (hr.mono (by decide)) rfl (xa_a (a_cons (l_listRg1 rfl T.n_list T.n_range (by omega) (e_ixT (d := I c.n) (i := 2) rfl (v 1 rfl) c_int)).e (a_cons ((add (e_ixT (d := I c.k) (i := 3) rfl (v 1 rfl) c_int) (mul (cm_l (by decide)) c_int (v 2 rfl))).is (d' := I ((c.k + 2 * e : Nat) : Int)) (iI (by omega))) a_nil)) ⟨w0, rfl, hw, _, _, c.k + 2 * e, rfl, .inr rfl, ⟨by simp; omega, by simp; omega⟩, fun w1 ys zs hw1 hp hyl => ⟨nofun, x_e (e_ixT (d := I c.p) (i := 0) rfl (v 1 rfl) c_int) ⟨nofun, ?_⟩⟩⟩)) (.inr ⟨by decide, by decide⟩) rfl nd)
  obtain ⟨os, rfl, hol, hos, hnd⟩ := perm_nat (l := List.range ((c.n : Int)).toNat) hp
  have lt : ∀ s ∈ os, s < c.n := fun s hs => by
    have := List.mem_range.mp (hos s hs)
    omega
  have nds := hnd List.nodup_range
  have ol : os.length = c.k + 2 * e := by omega
  have pa := parts nds hk.1 he1 ol
  have hA1 : (os.take (c.k - 1)).length + 1 = c.k := by have := pa.l1; omega
  have hAlt : ∀ s ∈ os.take (c.k - 1), s < c.n := fun s h => lt s (pa.a s h)
  have ck1 : (c.k : Int) - 1 = ((c.k - 1 : Nat) : Int) := by omega
  have ck2 : (c.k : Int) - 1 + (e : Int) = ((c.k - 1 + e : Nat) : Int) := by omega
  show WS _ _ [.own w1, .dat (plD c), .dat (I e), .dat (TI m), .dat (LN os), .dat (I c.p), .un, .un, .un, .un, .un, .un, .un, .un, .un, .un, .un, .un, .un, .un] _ _
  refine w_cons (w_tup2 6 7 (x_e (e_call (d_law_nought T) (hr.mono (by decide)) ⟨c, os.take (c.k - 1), rfl, ⟨hc, hAlt, by omega, no_free' hc hAlt hA1⟩, rfl⟩ (a_cons (v 1 rfl) (a_cons ((l_to (c.k - 1) ck1 (v 4 rfl) (sub (e_ixT (d := I c.k) (i := 3) rfl (v 1 rfl) c_int) c_int)).e.is (LN_eq _)) a_nil))) ⟨nofun, x_add c_int (x_drawN T hr1 rfl hw1 ⟨by omega, by omega⟩ (sub (v 5 rfl) c_int) fun w2 r hw2 hlt => ⟨(r : Int), rfl, nofun, ?_⟩)⟩) (.inr ⟨by decide, by decide⟩) rfl nd)
  have N := near_all hc hAlt pa.na hA1 hm (by_ := 1 + (r : Int)) ⟨by omega, by omega⟩
  have no := no_msg hc (os.take (c.k - 1))
  have nol := no.1
  generalize hmo : noB c (os.take (c.k - 1)) = mo at *
  generalize hy : nearB c.p (1 + (r : Int)) m mo = y at *
  show WS _ _ [.own w2, .dat (plD c), .dat (I e), .dat (TI m), .dat (LN os), .dat (I c.p), .dat (TI mo), .dat (I (1 + (r : Int))), .un, .un, .un, .un, .un, .un, .un, .un, .un, .un, .un, .un] _ _
  refine w_cons (w_set 8 (d := TI y) (e_tupL T.n_tuple ((lcn (own := [("_law_x", 17), ("_law_y", 18)]) (m.zip mo) (fun q => .tuple [I q.1, I q.2]) (fun q => [.own w2, .dat (plD c), .dat (I e), .dat (TI m), .dat (LN os), .dat (I c.p), .dat (TI mo), .dat (I (1 + (r : Int))), .un, .un, .un, .un, .un, .un, .un, .un, .un, .dat (I q.1), .dat (I q.2), .un]) (fun q => I ((q.1 + (1 + (r : Int)) * q.2) % c.p)) rfl nd (blkOk_by (N := N_law_twice_right) (sc := defScope s_law_twice_right) (by decide +kernel)) (by rw [List.length_zip]; omega)
    (i_zipT T.n_zip (v 3 rfl) (v 6 rfl)).o (zipD_map _ _ m mo) (fun _ _ _ _ _ => dg_t rfl (dgs_cons (j := 17) nd (dgs_cons (j := 18) nd dgs_nil))) (by decide) (fun q _ => ⟨[I q.1, I q.2], rfl, rfl, rfl⟩) (fun q hq _ _ _ _ _ => modp (by omega) (e_int T.n_int (add (v 17 rfl) (mul (cm_l (by omega)) (v 7 rfl) (v 18 rfl)))) (v 5 rfl))).e.e.is (by rw [← hy]; simp [LI, nearB]))) ?_ (.inr (by decide)) nd)
  show WS _ _ [.own w2, .dat (plD c), .dat (I e), .dat (TI m), .dat (LN os), .dat (I c.p), .dat (TI mo), .dat (I (1 + (r : Int))), .dat (TI y), .un, .un, .un, .un, .un, .un, .un, .un, .un, .un, .un] _ _
  refine w_cons (w_tup2 9 10 (x_e (e_call (d_pieces_of T) (hr.mono (by decide)) ⟨c, m, rfl, ⟨hc, hm⟩, rfl⟩ (a_cons (v 1 rfl) (a_cons (v 3 rfl) a_nil))) ⟨nofun, x_e (e_call (d_pieces_of T) (hr.mono (by decide)) ⟨c, y, rfl, ⟨hc, N.ok⟩, rfl⟩ (a_cons (v 1 rfl) (a_cons (v 8 rfl) a_nil))) ⟨nofun, ?_⟩⟩) (.inr ⟨by decide, by decide⟩) rfl nd)
  show WS _ _ [.own w2, .dat (plD c), .dat (I e), .dat (TI m), .dat (LN os), .dat (I c.p), .dat (TI mo), .dat (I (1 + (r : Int))), .dat (TI y), .dat (TR (piecesB c m)), .dat (TR (piecesB c y)), .un, .un, .un, .un, .un, .un, .un, .un, .un] _ _
  refine w_cons (w_if (k := false) (PW.pt (DW.is (w_or ((t_ne hr.units (shp_LI []).s (shp_LI []).s (DE.is (DL.e (Lc.e (lc1 (own := [("_law_at", 19)]) (os.take (c.k - 1)) (fun k => I (k : Int)) (fun k => [.own w2, .dat (plD c), .dat (I e), .dat (TI m), .dat (LN os), .dat (I c.p), .dat (TI mo), .dat (I (1 + (r : Int))), .dat (TI y), .dat (TR (piecesB c m)), .dat (TR (piecesB c y)), .un, .un, .un, .un, .un, .un, .un, .un, .dat (I (k : Int))]) (fun k => !decide (pieceB c m k = pieceB c y k)) (fun k => I (k : Int)) rfl nd (blkOk_by (N := N_law_twice_right) (sc := defScope s_law_twice_right) (by decide +kernel)) (by omega)
    (i_lst (l_to (c.k - 1) ck1 (v 4 rfl) (sub (e_ixT (d := I c.k) (i := 3) rfl (v 1 rfl) c_int) c_int)).e).o (fun _ _ _ _ _ => dg_n (j := 19) nd) (by decide) (fun a _ => by rfl) (fun k hk' _ _ _ _ _ => ts_one ((t_ne hr.units (shp_TI _).s (shp_TI _).s (e_ixT (at_map (f := TI) (pcs_at m (hAlt k hk'))) (v 9 rfl) (v 19 rfl)) (e_ixT (at_map (f := TI) (pcs_at y (hAlt k hk'))) (v 10 rfl) (v 19 rfl))).is (by rw [eqv_TI']))) (fun k _ _ _ _ _ _ _ => v 19 rfl)))) (d' := LI []) ?_) (l_lst a_nil (by decide)).e).is (d' := false) (by show (!PyData.eqv (LI []) (LI [])) = false; rw [(eqv_LI [] []).mpr rfl]; rfl)) fun _ => w_or1 ((t_eq hr.units (shp_TI _).s (shp_TI _).s (v 8 rfl) (v 3 rfl)).is (d' := false) (by rw [eqv_TI']; exact decide_eq_false N.ne))) rfl)) (fun h => by cases h) (fun _ => w_nil ?_))
  · have z : ((os.take (c.k - 1)).filter fun k => !decide (pieceB c m k = pieceB c y k)) = [] := List.filter_eq_nil_iff.mpr fun s hs => by
      rw [decide_eq_true (N.same s hs).symm]
      exact Bool.false_ne_true
    rw [z]
    rfl
  refine w_cons (w_if (k := false) ((t_ne hr.units (shp_LI []).s (shp_LI []).s (DE.is (DL.e (Lc.e (lc1 (own := [("_law_at", 19)]) (os.drop (c.k - 1)) (fun k => I (k : Int)) (fun k => [.own w2, .dat (plD c), .dat (I e), .dat (TI m), .dat (LN os), .dat (I c.p), .dat (TI mo), .dat (I (1 + (r : Int))), .dat (TI y), .dat (TR (piecesB c m)), .dat (TR (piecesB c y)), .un, .un, .un, .un, .un, .un, .un, .un, .dat (I (k : Int))]) (fun k => decide (pieceB c m k = pieceB c y k)) (fun k => I (k : Int)) rfl nd (blkOk_by (N := N_law_twice_right) (sc := defScope s_law_twice_right) (by decide +kernel)) (by rw [List.length_drop]; omega)
    (i_lst (l_from (c.k - 1) ck1 (v 4 rfl) (sub (e_ixT (d := I c.k) (i := 3) rfl (v 1 rfl) c_int) c_int)).e).o (fun _ _ _ _ _ => dg_n (j := 19) nd) (by decide) (fun a _ => by rfl) (fun k hk' _ _ _ _ _ => ts_one ((t_eq hr.units (shp_TI _).s (shp_TI _).s (e_ixT (at_map (f := TI) (pcs_at m (lt k (pa.r k hk').1))) (v 9 rfl) (v 19 rfl)) (e_ixT (at_map (f := TI) (pcs_at y (lt k (pa.r k hk').1))) (v 10 rfl) (v 19 rfl))).is (by rw [eqv_TI']))) (fun k _ _ _ _ _ _ _ => v 19 rfl)))) (d' := LI []) ?_) (l_lst a_nil (by decide)).e).is (d' := false) (by show (!PyData.eqv (LI []) (LI [])) = false; rw [(eqv_LI [] []).mpr rfl]; rfl)) (fun h => by cases h) (fun _ => w_nil ?_))
  · have z : ((os.drop (c.k - 1)).filter fun k => decide (pieceB c m k = pieceB c y k)) = [] := List.filter_eq_nil_iff.mpr fun s hs => by
      rw [decide_eq_false (N.diff s (lt s (pa.r s hs).1) (pa.r s hs).2).symm]
      exact Bool.false_ne_true
    rw [z]
    rfl
  refine w_cons (w_tup2 11 12 (x_e (l_to (c.k - 1 + e) ck2 (v 4 rfl) (add (sub (e_ixT (d := I c.k) (i := 3) rfl (v 1 rfl) c_int) c_int) (v 2 rfl))).e ⟨nofun, x_e (l_mid (c.k - 1 + e) ck2 (by omega) (v 4 rfl) (add (sub (e_ixT (d := I c.k) (i := 3) rfl (v 1 rfl) c_int) c_int) (v 2 rfl)) (neg c_int)).e ⟨nofun, ?_⟩⟩) (.inr ⟨by decide, by decide⟩) rfl nd)
  have h1 := one_pl hc nds lt pa hm N
  have h2 := two_pl hc nds lt pa N
  have l2 := pa.l2
  have l3 := pa.l3
  have slt : ∀ s ∈ srtN os, s < c.n := fun s h => lt s (srtN_mem.mp h)
  have flt : ∀ s ∈ srtN os.dropLast, s < c.n := fun s h => lt s (List.dropLast_subset _ (srtN_mem.mp h))
  have sl : (srtN os).length = c.k + 2 * e := by rw [srtN_len]; exact ol
  have fl : (srtN os.dropLast).length = c.k + 2 * e - 1 := by rw [srtN_len, List.length_dropLast, ol]
  have t1 : ∀ s ∈ srtN (os.dropLast.drop (c.k - 1 + e)), s < c.n := fun s h => lt s (pa.t s (srtN_mem.mp h)).1
  have t2 : ∀ s ∈ srtN ((os.take (c.k - 1 + e)).drop (c.k - 1)), s < c.n := fun s h => lt s (pa.m s (srtN_mem.mp h)).1
  have t3 := srtN_len (os.dropLast.drop (c.k - 1 + e))
  have t4 := srtN_len ((os.take (c.k - 1 + e)).drop (c.k - 1))
  show WS _ _ [.own w2, .dat (plD c), .dat (I e), .dat (TI m), .dat (LN os), .dat (I c.p), .dat (TI mo), .dat (I (1 + (r : Int))), .dat (TI y), .dat (TR (piecesB c m)), .dat (TR (piecesB c y)), .dat (LN (os.take (c.k - 1 + e))), .dat (LN (os.dropLast.drop (c.k - 1 + e))), .un, .un, .un, .un, .un, .un, .un] _ _
  refine w_cons (w_set 13 (d := LN (srtN os.dropLast)) (e_srt T.n_sorted (l_but (by omega) (v 4 rfl) (neg c_int)).e) ?_ (.inr (by decide)) nd)
  show WS _ _ [.own w2, .dat (plD c), .dat (I e), .dat (TI m), .dat (LN os), .dat (I c.p), .dat (TI mo), .dat (I (1 + (r : Int))), .dat (TI y), .dat (TR (piecesB c m)), .dat (TR (piecesB c y)), .dat (LN (os.take (c.k - 1 + e))), .dat (LN (os.dropLast.drop (c.k - 1 + e))), .dat (LN (srtN os.dropLast)), .un, .un, .un, .un, .un, .un] _ _
  refine w_cons (w_if (k := false) (t_not (p := true) (t_val (e_call (d_law_is_refused T Z) hr ⟨⟨c, e, srtN os.dropLast, (srtN os.dropLast).map (mixP c m y (os.take (c.k - 1 + e))), rfl, hc, he2, by omega⟩, rfl⟩ (a_cons (v 1 rfl) (a_cons (v 2 rfl) (a_cons (e_tupL T.n_tuple (v 13 rfl)) (a_cons (e_tupL T.n_tuple
    ((lcn (own := [("_law_at", 19)]) (srtN os.dropLast) (fun k => I (k : Int)) (fun k => [.own w2, .dat (plD c), .dat (I e), .dat (TI m), .dat (LN os), .dat (I c.p), .dat (TI mo), .dat (I (1 + (r : Int))), .dat (TI y), .dat (TR (piecesB c m)), .dat (TR (piecesB c y)), .dat (LN (os.take (c.k - 1 + e))), .dat (LN (os.dropLast.drop (c.k - 1 + e))), .dat (LN (srtN os.dropLast)), .un, .un, .un, .un, .un, .dat (I (k : Int))]) (fun k => TI (mixP c m y (os.take (c.k - 1 + e)) k)) rfl nd (blkOk_by (N := N_law_twice_right) (sc := defScope s_law_twice_right) (by decide +kernel)) (by omega)
      (i_lst (v 13 rfl)).o rfl (fun _ _ _ _ _ => dg_n (j := 19) nd) (by decide) (fun a _ => by rfl) (fun k hk' _ _ _ _ _ => e_if (t_inN (v 19 rfl) (v 11 rfl)) (fun h => (e_ixT (at_map (f := TI) (pcs_at m (flt k hk'))) (v 9 rfl) (v 19 rfl)).is (by unfold mixP; rw [if_pos (of_decide_eq_true h)])) (fun h => (e_ixT (at_map (f := TI) (pcs_at y (flt k hk'))) (v 10 rfl) (v 19 rfl)).is (by unfold mixP; rw [if_neg (of_decide_eq_false h)])))).e.e.is (by rw [List.map_map]; rfl))) a_nil))))))) (fun h => by cases h) (fun _ => w_nil ?_))
  refine w_cons (w_set 14 (d := TN (srtN os)) (e_tupL T.n_tuple (e_srt T.n_sorted (v 4 rfl))) ?_ (.inr (by decide)) nd)
  show WS _ _ [.own w2, .dat (plD c), .dat (I e), .dat (TI m), .dat (LN os), .dat (I c.p), .dat (TI mo), .dat (I (1 + (r : Int))), .dat (TI y), .dat (TR (piecesB c m)), .dat (TR (piecesB c y)), .dat (LN (os.take (c.k - 1 + e))), .dat (LN (os.dropLast.drop (c.k - 1 + e))), .dat (LN (srtN os.dropLast)), .dat (TN (srtN os)), .un, .un, .un, .un, .un] _ _
  refine w_cons (w_set 15 (d := ansD (some (m, srtN (os.dropLast.drop (c.k - 1 + e))))) ((e_call (d_read_sure T) (hr.mono (by decide)) ⟨c, e, srtN os, (srtN os).map (mixP c y m (os.dropLast.drop (c.k - 1 + e))), rfl, ⟨hc, he2, h1.hrd, by omega, by omega, fun q s hs => room_ok hc q hs⟩, rfl⟩ (a_cons (v 1 rfl) (a_cons (v 2 rfl) (a_cons (v 14 rfl) (a_cons (e_tupL T.n_tuple
    ((lcn (own := [("_law_at", 19)]) (srtN os) (fun k => I (k : Int)) (fun k => [.own w2, .dat (plD c), .dat (I e), .dat (TI m), .dat (LN os), .dat (I c.p), .dat (TI mo), .dat (I (1 + (r : Int))), .dat (TI y), .dat (TR (piecesB c m)), .dat (TR (piecesB c y)), .dat (LN (os.take (c.k - 1 + e))), .dat (LN (os.dropLast.drop (c.k - 1 + e))), .dat (LN (srtN os.dropLast)), .dat (TN (srtN os)), .un, .un, .un, .un, .dat (I (k : Int))]) (fun k => TI (mixP c y m (os.dropLast.drop (c.k - 1 + e)) k)) rfl nd (blkOk_by (N := N_law_twice_right) (sc := defScope s_law_twice_right) (by decide +kernel)) (by omega)
      (i_tup (v 14 rfl)).o rfl (fun _ _ _ _ _ => dg_n (j := 19) nd) (by decide) (fun a _ => by rfl) (fun k hk' _ _ _ _ _ => e_if (t_inN (v 19 rfl) (v 12 rfl)) (fun h => (e_ixT (at_map (f := TI) (pcs_at y (slt k hk'))) (v 10 rfl) (v 19 rfl)).is (by unfold mixP; rw [if_pos (of_decide_eq_true h)])) (fun h => (e_ixT (at_map (f := TI) (pcs_at m (slt k hk'))) (v 9 rfl) (v 19 rfl)).is (by unfold mixP; rw [if_neg (of_decide_eq_false h)])))).e.e.is (by rw [List.map_map]; rfl))) a_nil))))).is (by rw [h1.some hc (by omega) (by omega)])) ?_ (.inr (by decide)) nd)
  show WS _ _ [.own w2, .dat (plD c), .dat (I e), .dat (TI m), .dat (LN os), .dat (I c.p), .dat (TI mo), .dat (I (1 + (r : Int))), .dat (TI y), .dat (TR (piecesB c m)), .dat (TR (piecesB c y)), .dat (LN (os.take (c.k - 1 + e))), .dat (LN (os.dropLast.drop (c.k - 1 + e))), .dat (LN (srtN os.dropLast)), .dat (TN (srtN os)), .dat (ansD (some (m, srtN (os.dropLast.drop (c.k - 1 + e))))), .un, .un, .un, .un] _ _
  refine w_cons (w_set 16 (d := ansD (some (y, srtN ((os.take (c.k - 1 + e)).drop (c.k - 1))))) ((e_call (d_read_sure T) (hr.mono (by decide)) ⟨c, e, srtN os, (srtN os).map (mixP c m y (os.take (c.k - 1 + e))), rfl, ⟨hc, he2, h2.hrd, by omega, by omega, fun q s hs => room_ok hc q hs⟩, rfl⟩ (a_cons (v 1 rfl) (a_cons (v 2 rfl) (a_cons (v 14 rfl) (a_cons (e_tupL T.n_tuple
    ((lcn (own := [("_law_at", 19)]) (srtN os) (fun k => I (k : Int)) (fun k => [.own w2, .dat (plD c), .dat (I e), .dat (TI m), .dat (LN os), .dat (I c.p), .dat (TI mo), .dat (I (1 + (r : Int))), .dat (TI y), .dat (TR (piecesB c m)), .dat (TR (piecesB c y)), .dat (LN (os.take (c.k - 1 + e))), .dat (LN (os.dropLast.drop (c.k - 1 + e))), .dat (LN (srtN os.dropLast)), .dat (TN (srtN os)), .dat (ansD (some (m, srtN (os.dropLast.drop (c.k - 1 + e))))), .un, .un, .un, .dat (I (k : Int))]) (fun k => TI (mixP c m y (os.take (c.k - 1 + e)) k)) rfl nd (blkOk_by (N := N_law_twice_right) (sc := defScope s_law_twice_right) (by decide +kernel)) (by omega)
      (i_tup (v 14 rfl)).o rfl (fun _ _ _ _ _ => dg_n (j := 19) nd) (by decide) (fun a _ => by rfl) (fun k hk' _ _ _ _ _ => e_if (t_inN (v 19 rfl) (v 11 rfl)) (fun h => (e_ixT (at_map (f := TI) (pcs_at m (slt k hk'))) (v 9 rfl) (v 19 rfl)).is (by unfold mixP; rw [if_pos (of_decide_eq_true h)])) (fun h => (e_ixT (at_map (f := TI) (pcs_at y (slt k hk'))) (v 10 rfl) (v 19 rfl)).is (by unfold mixP; rw [if_neg (of_decide_eq_false h)])))).e.e.is (by rw [List.map_map]; rfl))) a_nil))))).is (by rw [h2.some hc (by omega) (by omega)])) ?_ (.inr (by decide)) nd)
  show WS _ _ [.own w2, .dat (plD c), .dat (I e), .dat (TI m), .dat (LN os), .dat (I c.p), .dat (TI mo), .dat (I (1 + (r : Int))), .dat (TI y), .dat (TR (piecesB c m)), .dat (TR (piecesB c y)), .dat (LN (os.take (c.k - 1 + e))), .dat (LN (os.dropLast.drop (c.k - 1 + e))), .dat (LN (srtN os.dropLast)), .dat (TN (srtN os)), .dat (ansD (some (m, srtN (os.dropLast.drop (c.k - 1 + e))))), .dat (ansD (some (y, srtN ((os.take (c.k - 1 + e)).drop (c.k - 1))))), .un, .un, .un] _ _
  have shw : Shw (.list [ansD (some (m, srtN (os.dropLast.drop (c.k - 1 + e)))), ansD (some (y, srtN ((os.take (c.k - 1 + e)).drop (c.k - 1))))]) := (lit_lst (w := 2202) (n := 2) (m := 2) (fun d hd => by
    simp only [List.mem_cons, List.not_mem_nil, or_false] at hd
    rcases hd with h | h <;> rw [h]
    · exact lit_ans hc hm t1 (by omega)
    · exact lit_ans hc N.ok t2 (by omega)) (by simp)).shw (by decide) (by decide) rfl
  refine w_one (w_ret (d := .bool true) ((e_eqs (e_repr hg hr.units shw T.n_repr (l_lst (a_cons (v 15 rfl) (a_cons (v 16 rfl) a_nil)) (by simp)).e) (e_repr hg hr.units shw T.n_repr (l_lst (a_cons (e_tup (a_cons (v 3 rfl) (a_cons (e_tupL T.n_tuple (e_srt T.n_sorted (v 12 rfl))) a_nil)) (by simp)) (a_cons (e_tup (a_cons (v 8 rfl) (a_cons (e_tupL T.n_tuple (e_srt T.n_sorted (l_from (c.k - 1) ck1 (v 11 rfl) (sub (e_ixT (d := I c.k) (i := 3) rfl (v 1 rfl) c_int) c_int)).e)) a_nil)) (by simp)) a_nil)) (by simp)).e)).is (by simp)) ⟨w2, rfl, hΦ w2 hw2⟩)
end
end Lm
set_option maxRecDepth 100000
set_option maxHeartbeats 4000000
/-! One world of the law, the law. -/
namespace Lm
open PySem PySem.Spec PyProof.Rows L2 Evl
section
variable {X : Cx} {P : Option Addr} {ρ : En} {a b : Expr} {p pos : Pos} {Φ : En → Slot → Prop}
/-- a built-in that makes a new list, its arguments with changes -/
theorem x_callBL {x : Str} {e : Expr} {l : List Expr} {bid : String} {r : List V → Hp → VK → Prop} (hc0 : CallR X (.builtin bid) r) (hm : X.mg x = none) (hv : bootBuiltins x = some (.builtin bid)) (ha : DXA X P ρ (e :: l) fun ρ' ds => ∃ es, RCL X.K r ds es ∧ Φ ρ' (.own es)) (hg : Gl X x := by rfl) (hn : x ≠ "__name__" := by decide) (hdb : (x == ("__debug__" : Str)) = false := by decide)
    (he : starEach (e :: l) X.env = (false, eval e X.env) :: starEach l X.env := by rfl) (hpl : (backTo pos (starEach l X.env)).any (·.1) = false := by rfl) : DX X P ρ (.Call (.Name x p) (e :: l) [] pos) Φ := fun c hc =>
  weakE (pe_callB hc0 hg hm hv (ha c hc) hn hdb he hpl) fun σ H Q ⟨F, A, q⟩ => ⟨F, A, fun vs F' H' ρ' ds ⟨es, hr, hΦ⟩ g A' hv => hr vs F' H' A'.s.sub hv Q fun p ws F2 H2 g2 h1 h2 h3 h4 => q _ F2 H2 ρ' _ hΦ (g.trans (.of g2)) (A'.mono g2) ⟨p, ws, rfl, h3, h2, A'.c.there p h1, g.there p h1, h4⟩⟩
/-- sorted(a), a with changes -/
theorem x_srt (hm : X.mg "sorted" = none) (ha : DX X P ρ a fun ρ' s => ∃ l : List Nat, s = .dat (LN l) ∧ Φ ρ' (.own ((srtN l).map fun (k : Nat) => I (k : Int)))) (hg : Gl X "sorted" := by rfl) (he : starEach [a] X.env = (false, eval a X.env) :: starEach [] X.env := by rfl) : DX X P ρ (.Call (.Name "sorted" p) [a] [] pos) Φ :=
  x_callBL cr_sortedI hm (by decide +kernel) (xa_cons (x_mono ha fun ρ' s ⟨l, hs, q⟩ => ⟨_, hs, xa_a a_nil ⟨_, fun vs F H s hv Q q => by
    obtain ⟨v, rfl, h⟩ := dpa1 hv
    obtain ⟨t0, ws, rfl, h1, h2⟩ := dp_lst h
    have h2 : DpAll X.K F ws ((l.map fun (k : Nat) => (k : Int)).map PyData.int) := by
      rw [List.map_map]
      exact h2
    have e := dpa_ints h2
    subst e
    refine ⟨t0, _, rfl, ex_l s h1, fun ns' t hp hs ht => ?_⟩
    have e2 : ns' = srt (l.map fun (k : Nat) => (k : Int)) := srt_uniq (hp.trans (srt_perm _).symm) hs (srt_pair _)
    subst e2
    refine q t _ F _ (Gr.lay s ht) ht (none_of s ht) upd_same ?_
    rw [srt_nat, show ((srtN l).map fun (k : Nat) => I (k : Int)) = ((srtN l).map fun (k : Nat) => (k : Int)).map PyData.int by rw [List.map_map]; rfl]
    exact dpa_ofints _, q⟩⟩) he) hg (he := he)
/-- min(a, b), a with changes -/
theorem x_min (hc : X.calm = true) (hm : X.mg "min" = none) (ha : DX X P ρ a fun ρ' s => ∃ i j : Int, s = .dat (I i) ∧ DE X ρ' b (I j) ∧ Φ ρ' (.dat (I (if j < i then j else i)))) (hg : Gl X "min" := by rfl) (he : starEach [a, b] X.env = (false, eval a X.env) :: starEach [b] X.env := by rfl) (he2 : starEach [b] X.env = (false, eval b X.env) :: starEach [] X.env := by rfl)
    (hpl : (backTo pos (starEach [b] X.env)).any (·.1) = false := by rfl) : DX X P ρ (.Call (.Name "min" p) [a, b] [] pos) Φ :=
  x_callB (call_min2 hc) hm (by decide +kernel) (xa_cons (x_mono ha fun ρ' s ⟨i, j, hs, hb, q⟩ => ⟨_, hs, xa_a (a_cons hb a_nil he2) ⟨_, fun vs F H s hv Q q => by
    obtain ⟨v, w, rfl, h, h2⟩ := dpa2 hv
    exact ⟨i, j, by rw [dp_int h, dp_int h2], q _ F H (Gr.refl s) (.int _)⟩, q⟩⟩) he) hg (he := he) (hpl := hpl)
end
/-- the pieces, those of the first i of bad changed -/
structure Hurt (c : Pl) (m : List Int) (bad : List Nat) (i : Nat) (rs : List (List Int)) : Prop where
  len : rs.length = c.n
  row : ∀ s < c.n, RowOk c (rs.getD s [])
  ne : ∀ s ∈ bad.take i, rs.getD s [] ≠ pieceB c m s
  eq : ∀ s < c.n, s ∉ bad.take i → rs.getD s [] = pieceB c m s
theorem pcs_get {c : Pl} (m : List Int) {s : Nat} (h : s < c.n) : (piecesB c m).getD s [] = pieceB c m s := by
  rw [List.getD_eq_getElem?_getD, pcs_at m h]
  rfl
theorem pcs_len (c : Pl) (m : List Int) : (piecesB c m).length = c.n := by simp [piecesB]
theorem Hurt.zero {c : Pl} (hc : c.Ok) (m : List Int) (bad : List Nat) : Hurt c m bad 0 (piecesB c m) := ⟨pcs_len c m, fun s h => by
  rw [pcs_get m h]
  exact piece_ok hc m s, fun s h => (by cases h), fun s h _ => pcs_get m h⟩
theorem Hurt.next {c : Pl} {m : List Int} {bad : List Nat} {i b : Nat} {rs : List (List Int)} (h : Hurt c m bad i rs) (nd : bad.Nodup) (hb : bad[i]? = some b) (hlt : b < c.n) {r : List Int} (hr : RowOk c r) (hne : r ≠ rs.getD b []) : Hurt c m bad (i + 1) (rs.set b r) := by
  have et : bad.take (i + 1) = bad.take i ++ [b] := by rw [List.take_add_one, hb]; rfl
  have hn : b ∉ bad.take i := fun z => by
    have nd2 : (bad.take (i + 1)).Nodup := nd.sublist (List.take_sublist _ _)
    rw [et] at nd2
    exact (List.nodup_append.mp nd2).2.2 b z b List.mem_cons_self rfl
  have hl : b < rs.length := by rw [h.len]; exact hlt
  have g : ∀ s, (rs.set b r).getD s [] = if s = b then r else rs.getD s [] := fun s => by
    by_cases e : s = b
    · rw [if_pos e, e, getD_set_self _ _ _ _ hl]
    · rw [if_neg e, getD_set_ne _ _ _ _ _ (Ne.symm e)]
  refine ⟨by rw [List.length_set, h.len], fun s hs => ?_, fun s hs => ?_, fun s hs hns => ?_⟩
  · rw [g]
    split
    · exact hr
    · exact h.row s hs
  · rw [g]
    split
    · rename_i e
      rw [e, ← h.eq b hlt hn]
      exact hne
    · rename_i e
      rw [et] at hs
      refine h.ne s ((List.mem_append.mp hs).resolve_right fun z => e (List.mem_singleton.mp z))
  · rw [et] at hns
    rw [g, if_neg fun e => hns (List.mem_append_right _ (by rw [e]; exact List.mem_cons_self))]
    exact h.eq s hs fun z => hns (List.mem_append_left _ z)
section
variable {P : Program} {w : World} {K : PySem.W.Frag} {mg : Str → Option Value} {base : Heap} {C fI cc cd : Addr}
def R_law_right (wl ds : List D) (Φ : List D → D → Prop) : Prop := W3 wl ∧ ds = [] ∧ ∀ w', W3 w' → Φ w' (.bool true)
theorem d_law_right (T : Txt K mg) (Z : ExF P K mg C fI cc cd) : DefG P w K mg base "_law_right" 13 P_law_right (SpW K R_law_right) := by
  obtain ⟨hmg, fd, F⟩ := T.f_law_right
  refine mk_defG hmg F (own_okG F sc_law_right (fun wl ds Φ ⟨_, h, _⟩ => by rw [h]; rfl) fun cdv A outer s H E a w0 ds Φ hg hr hR => ?_) (fun _ _ _ _ _ _ us hl => match us, hl with | [_], _ => rfl)
  obtain ⟨hw, rfl, hΦ⟩ := hR
  show WS _ _ [.own w0, .un, .un, .un, .un, .un, .un, .un, .un, .un, .un, .un, .un] _ _
  have nd := sc_law_right.nd
  have hr1 := hr.mono (show 1 ≤ 12 by decide)
  refine w_cons (w_setX (Φ := fun ρ' s => ∃ (w1 : List D) (e : Nat), W3 w1 ∧ e ≤ 2 ∧ s = .dat (I e) ∧ ρ' = [.own w1, .un, .un, .un, .un, .un, .un, .un, .un, .un, .un, .un, .un]) 1 (x_callW 0 (d_law_any_of T) (hr.mono (by decide)) rfl (xa_a (a_cons (e_tup (a_cons c_int (a_cons c_int (a_cons c_int (a_cons c_int a_nil)))) (by simp)) a_nil) ⟨w0, rfl, hw, [I 1, I 1, I 2, I 0], rfl, ⟨by simp, by simp⟩, fun w1 x hw1 hx => ?_⟩)) ?_ (.inr (by decide)) nd)
  · simp only [List.mem_cons, List.not_mem_nil, or_false] at hx
    rcases hx with h | h | h | h <;> rw [h]
    · exact ⟨w1, 1, hw1, by decide, rfl, rfl⟩
    · exact ⟨w1, 1, hw1, by decide, rfl, rfl⟩
    · exact ⟨w1, 2, hw1, by decide, rfl, rfl⟩
    · exact ⟨w1, 0, hw1, by decide, rfl, rfl⟩
  rintro ρ1 s1 ⟨w1, e, hw1, he, rfl, rfl⟩
  refine ⟨nofun, ?_⟩
  show WS _ _ [.own w1, .dat (I e), .un, .un, .un, .un, .un, .un, .un, .un, .un, .un, .un] _ _
  refine w_cons (w_setX (Φ := fun ρ' s => ∃ (w2 : List D) (c : Pl), W3 w2 ∧ PlanOk e c ∧ s = .dat (plD c) ∧ ρ' = [.own w2, .dat (I e), .un, .un, .un, .un, .un, .un, .un, .un, .un, .un, .un]) 2 (x_callW 0 (d_law_sure_plan T) (hr.mono (by decide)) rfl (xa_a (a_cons (v 1 rfl) a_nil) ⟨w1, rfl, hw1, e, rfl, he, fun w2 c hw2 hc => ⟨w2, c, hw2, hc, rfl, rfl⟩⟩)) ?_ (.inr (by decide)) nd)
  rintro ρ2 s2 ⟨w2, c, hw2, hpl, rfl, rfl⟩
  refine ⟨nofun, ?_⟩
  have hc := hpl.ok
  have hbig := hpl.big
  have hk := hc.k
  have hn := hc.n
  have hp := pr_pk hc.pr
  have hpb := pr_bd hc.pr
  have hsz := size_few hc
  have hsm := hc.sm
  show WS _ _ [.own w2, .dat (I e), .dat (plD c), .un, .un, .un, .un, .un, .un, .un, .un, .un, .un] _ _
  refine w_cons (w_setX (Φ := fun ρ' s => ∃ (w3 : List D) (m : List Int), W3 w3 ∧ MsgOk c m ∧ s = .dat (TI m) ∧ ρ' = [.own w3, .dat (I e), .dat (plD c), .un, .un, .un, .un, .un, .un, .un, .un, .un, .un]) 3 (x_callW 0 (d_law_line T) (hr.mono (by decide)) rfl (xa_a (a_cons (e_ixT (d := I c.p) (i := 0) rfl (v 2 rfl) c_int) (a_cons (e_call (d_law_many T) (hr.mono (by decide)) ⟨c, rfl, hc, rfl⟩ (a_cons (v 2 rfl) a_nil)) a_nil)) ⟨w2, rfl, hw2, c.p, sizeB c, rfl, ⟨by omega, by omega, by omega⟩, fun w3 r hw3 hrl hrr => ⟨w3, r, hw3, ⟨hrl, hrr⟩, rfl, rfl⟩⟩)) ?_ (.inr (by decide)) nd)
  rintro ρ3 s3 ⟨w3, m, hw3, hm, rfl, rfl⟩
  refine ⟨nofun, ?_⟩
  have hml := hm.1
  show WS _ _ [.own w3, .dat (I e), .dat (plD c), .dat (TI m), .un, .un, .un, .un, .un, .un, .un, .un, .un] _ _
  refine w_cons (w_ifX (Φ := fun ρ' b => ∃ w4, W3 w4 ∧ (b = true → 1 ≤ e) ∧ ρ' = [.own w4, .dat (I e), .dat (plD c), .dat (TI m), .un, .un, .un, .un, .un, .un, .un, .un, .un]) (xt_w (xw_and (xt_t (k := decide ((0 : Int) < (e : Int))) (t_gt (v 1 rfl) c_int) ?_))) ?_)
  · split
    · rename_i h1
      have h1 : 1 ≤ e := by have := of_decide_eq_true h1; omega
      exact xw_and1 (xt_eqi (x_drawN T hr1 rfl hw3 ⟨by decide, by decide⟩ c_int fun w4 r4 hw4 _ => ⟨_, 0, rfl, c_int, w4, hw4, fun _ => h1, rfl⟩))
    · exact ⟨w3, hw3, fun h => (by cases h), rfl⟩
  rintro ρ4 b ⟨w4, hw4, hb, rfl⟩
  cases b with
  | true =>
    rw [if_pos rfl]
    exact w_one (w_retX (Φ := fun ρ' s => ∃ d, s = .dat d ∧ ∃ w', ρ'[0]? = some (Slot.own w') ∧ Φ w' d) (x_callWC 0 ((d_law_twice_right T Z).cb hg (hr.mono (by decide))) rfl (xa_a (a_cons (v 2 rfl) (a_cons (v 1 rfl) (a_cons (v 3 rfl) a_nil))) ⟨w4, rfl, hw4, c, e, m, rfl, ⟨hpl, hb rfl, he, hm⟩, fun w' hw' => ⟨_, rfl, w', rfl, hΦ w' hw'⟩⟩)) (fun ρ' s ⟨d, h1, h2⟩ => ⟨d, h1, h2⟩))
  | false =>
    rw [if_neg Bool.false_ne_true]
    refine w_nil ?_
    refine w_cons (w_tup2 4 5 (x_l ((l_call (d_law_shares T) (hr.mono (by decide)) ⟨c, m, rfl, ⟨hc, hml⟩, rfl⟩ (a_cons (v 2 rfl) (a_cons (v 3 rfl) a_nil))).is (d' := (piecesB c m).map TI) (by rw [lsh_eq hc hm])) ⟨nofun, x_e ((add (e_ixT (d := I c.k) (i := 3) rfl (v 2 rfl) c_int) (mul (cm_l (by decide)) c_int (v 1 rfl))).is (d' := I ((c.k + 2 * e : Nat) : Int)) (iI (by omega))) ⟨nofun, ?_⟩⟩) (.inr ⟨by decide, by decide⟩) rfl nd)
    obtain ⟨l, hl⟩ : ∃ l : Nat, l = c.k + 2 * e := ⟨_, rfl⟩
    rw [← hl]
    show WS _ _ [.own w4, .dat (I e), .dat (plD c), .dat (TI m), .own ((piecesB c m).map TI), .dat (I l), .un, .un, .un, .un, .un, .un, .un] _ _
    refine w_cons (w_setX (Φ := fun ρ' s => ∃ (w5 : List D) (os : List Nat), W3 w5 ∧ (os.Nodup ∧ (∀ s ∈ os, s < c.n) ∧ l ≤ os.length ∧ os.length ≤ c.n) ∧ s = .dat (LN (srtN os)) ∧ ρ' = [.own w5, .dat (I e), .dat (plD c), .dat (TI m), .own ((piecesB c m).map TI), .dat (I l), .un, .un, .un, .un, .un, .un, .un]) 6 (x_frz (x_srt T.n_sorted (x_callW 0 (d_law_unlike T) (hr.mono (by decide)) rfl (xa_cons (x_e (l_listRg1 rfl T.n_list T.n_range (by omega) (e_ixT (d := I c.n) (i := 2) rfl (v 2 rfl) c_int)).e ⟨_, rfl, xa_cons (x_add (v 5 rfl) (x_drawN T hr1 rfl hw4 (l := (c.n : Int) - (l : Int) + 1) ⟨by omega, by omega⟩ (add (sub (e_ixT (d := I c.n) (i := 2) rfl (v 2 rfl) c_int) (v 5 rfl)) c_int) fun w5 r hw5 hlt => ⟨(r : Int), rfl, _, rfl, xa_a a_nil ⟨w5, rfl, hw5, _, _, l + r, by rw [Int.natCast_add], .inr rfl, ⟨by simp; omega, by simp; omega⟩, fun w6 ys zs hw6 hpm hyl => ?_⟩⟩))⟩))))) ?_ (.inr (by decide)) nd)
    · obtain ⟨os, rfl, hol, hos, hnd⟩ := perm_nat (l := List.range ((c.n : Int)).toNat) hpm
      refine ⟨os, rfl, _, rfl, w6, os, hw6, ⟨hnd List.nodup_range, fun s hs => ?_, by omega, by omega⟩, rfl, rfl⟩
      have := List.mem_range.mp (hos s hs)
      omega
    rintro ρ5 s5 ⟨w5, os, hw5, ⟨nds, lt, ol1, ol2⟩, rfl, rfl⟩
    refine ⟨nofun, ?_⟩
    have sl : (srtN os).length = os.length := srtN_len os
    have slt : ∀ s ∈ srtN os, s < c.n := fun s h => lt s (srtN_mem.mp h)
    have sup := srtN_up nds
    have snd : (srtN os).Nodup := (srtN_perm os).nodup_iff.mpr nds
    generalize srtN os = so at *
    show WS _ _ [.own w5, .dat (I e), .dat (plD c), .dat (TI m), .own ((piecesB c m).map TI), .dat (I l), .dat (LN so), .un, .un, .un, .un, .un, .un] _ _
    refine w_cons (w_setX (Φ := fun ρ' s => ∃ (w6 : List D) (bd : List Nat), W3 w6 ∧ (bd.Nodup ∧ (∀ s ∈ bd, s ∈ so) ∧ bd.length ≤ e + 1 ∧ (bd.length = e + 1 → l < so.length)) ∧ s = .dat (LN bd) ∧ ρ' = [.own w6, .dat (I e), .dat (plD c), .dat (TI m), .own ((piecesB c m).map TI), .dat (I l), .dat (LN so), .un, .un, .un, .un, .un, .un]) 7 (x_callW 0 (d_law_unlike T) (hr.mono (by decide)) rfl (xa_cons (x_e (v 6 rfl) ⟨_, rfl, xa_cons (x_min rfl T.n_min (x_drawN T hr1 rfl hw5 (l := (e : Int) + 2) ⟨by omega, by omega⟩ (add (v 1 rfl) c_int) fun w6 r hw6 hlt => ⟨(r : Int), (e : Int) + (if decide ((l : Int) < (so.length : Int)) then 1 else 0), rfl, add (v 1 rfl) (e_intb (k := decide ((l : Int) < (so.length : Int))) T.n_int ((e_gt (e_lenL T.n_len (v 6 rfl)) (v 5 rfl)).is (by rw [List.length_map]))), _, rfl, xa_a a_nil ⟨w6, rfl, hw6, so.map (fun (k : Nat) => I (k : Int)), LN so, min (e + (if l < so.length then 1 else 0)) r, ?_, .inr rfl, ⟨?_, ?_⟩, fun w7 ys zs hw7 hpm hyl => ?_⟩⟩))⟩))) ?_ (.inr (by decide)) nd)
    · congr 2
      congr 1
      by_cases hq : l < so.length
      · have hq2 : (l : Int) < (so.length : Int) := by omega
        simp only [hq, hq2, decide_true, if_true]
        split <;> omega
      · have hq2 : ¬ (l : Int) < (so.length : Int) := by omega
        simp only [hq, hq2, decide_false, if_false, Bool.false_eq_true]
        split <;> omega
    · rw [List.length_map]
      omega
    · rw [List.length_map]
      omega
    · obtain ⟨bd, rfl, hol, hos, hnd⟩ := perm_nat hpm
      refine ⟨w7, bd, hw7, ⟨hnd snd, hos, ?_, fun h => ?_⟩, rfl, rfl⟩
      · split at hyl <;> omega
      · split at hyl <;> omega
    rintro ρ6 s6 ⟨w6, bd, hw6, ⟨bnd, bsub, bl1, bl2⟩, rfl, rfl⟩
    refine ⟨nofun, ?_⟩
    show WS _ _ [.own w6, .dat (I e), .dat (plD c), .dat (TI m), .own ((piecesB c m).map TI), .dat (I l), .dat (LN so), .dat (LN bd), .un, .un, .un, .un, .un] _ _
    refine w_cons (w_par 8 9 (x_frz (x_callL (d_law_shares T) (hr.mono (by decide)) (xa_cons (x_e (v 2 rfl) ⟨_, rfl, xa_cons (x_callW 0 (d_law_line T) (hr.mono (by decide)) rfl (xa_a (a_cons (e_ixT (d := I c.p) (i := 0) rfl (v 2 rfl) c_int) (a_cons ((e_lenT T.n_len (v 3 rfl)).is (d' := I (sizeB c)) (iI (by rw [List.length_map, hml]))) a_nil)) ⟨w6, rfl, hw6, c.p, sizeB c, rfl, ⟨by omega, by omega, by omega⟩, fun w7 r7 hw7 hl7 hr7 => ⟨_, rfl, xa_a a_nil ⟨_, ⟨c, r7, rfl, ⟨hc, hl7⟩, rfl⟩, _, rfl, nofun, x_eqi (x_drawN T hr1 rfl hw7 ⟨by decide, by decide⟩ c_int fun w8 t hw8 _ => ⟨_, 0, rfl, c_int, nofun, ?_⟩)⟩⟩⟩))⟩)))) (.inr ⟨by decide, by decide⟩) rfl nd)
    obtain ⟨tl, trow⟩ := lsh_ok (m := r7) hc
    generalize lshB c r7 = th at *
    generalize decide ((t : Int) = 0) = one
    show WS _ _ [.own w8, .dat (I e), .dat (plD c), .dat (TI m), .own ((piecesB c m).map TI), .dat (I l), .dat (LN so), .dat (LN bd), .dat (LT th), .dat (.bool one), .un, .un, .un] _ _
    have blt : ∀ s ∈ bd, s < c.n := fun s h => slt s (bsub s h)
    refine w_cons (w_for (fun i ρ => ∃ w' rs s10 s11, ρ = [.own w', .dat (I e), .dat (plD c), .dat (TI m), .own (rs.map TI), .dat (I l), .dat (LN so), .dat (LN bd), .dat (LT th), .dat (.bool one), s10, s11, .un] ∧ W3 w' ∧ Hurt c m bd i rs) (i_lst (v 7 rfl)) (dg_n (j := 10) nd) (.inr (by decide)) rfl ⟨w8, _, _, _, rfl, hw8, Hurt.zero hc m bd⟩ ?_ ?_)
    · rintro i d ρ' hd ⟨w', rs, s10, s11, rfl, hw', hh⟩
      rw [List.getElem?_map] at hd
      cases hx : bd[i]? with
      | none => rw [hx] at hd; cases hd
      | some b =>
      rw [hx] at hd
      cases hd
      have hbn := blt b (List.mem_of_getElem? hx)
      have hbr := get_of (xs := rs) (k := b) (by rw [hh.len]; exact hbn) []
      have hbt := get_of (xs := th) (k := b) (by rw [tl]; exact hbn) []
      have hrow := hh.row b hbn
      have htr := trow _ (List.mem_of_getElem? hbt)
      refine ⟨_, rfl, ?_⟩
      show WS _ _ [.own w', .dat (I e), .dat (plD c), .dat (TI m), .own (rs.map TI), .dat (I l), .dat (LN so), .dat (LN bd), .dat (LT th), .dat (.bool one), .dat (I (b : Int)), s11, .un] _ _
      refine w_cons (w_setX (Φ := fun ρ' s => ∃ (w9 : List D) (od : List Int), W3 w9 ∧ (RowOk c od ∧ od ≠ rs.getD b []) ∧ s = .dat (TI od) ∧ ρ' = [.own w9, .dat (I e), .dat (plD c), .dat (TI m), .own (rs.map TI), .dat (I l), .dat (LN so), .dat (LN bd), .dat (LT th), .dat (.bool one), .dat (I (b : Int)), s11, .un]) 11 (x_callW 0 (d_law_wrong_one T) (hr.mono (by decide)) rfl (xa_a (a_cons (e_ixT (d := I c.p) (i := 0) rfl (v 2 rfl) c_int) (a_cons (e_ixO 4 (at_map (f := TI) hbr) rfl (v 10 rfl)) a_nil)) ⟨w', rfl, hw', c.p, rs.getD b [], rfl, ⟨by omega, by omega, (fun z => by have := hrow.1; rw [z] at this; simp at this; omega), hrow.2, by have := hrow.1; omega⟩, fun w9 od hw9 ho1 ho2 ho3 => ⟨w9, od, hw9, ⟨⟨ho1.trans hrow.1, ho2⟩, ho3⟩, rfl, rfl⟩⟩)) ?_ (.inr (by decide)) nd)
      rintro ρ9 s9 ⟨w9, od, hw9, ⟨hod, hon⟩, rfl, rfl⟩
      refine ⟨nofun, ?_⟩
      show WS _ _ [.own w9, .dat (I e), .dat (plD c), .dat (TI m), .own (rs.map TI), .dat (I l), .dat (LN so), .dat (LN bd), .dat (LT th), .dat (.bool one), .dat (I (b : Int)), .dat (TI od), .un] _ _
      obtain ⟨nr, hnr⟩ : ∃ nr, nr = if (one && !decide (th.getD b [] = rs.getD b [])) = true then th.getD b [] else od := ⟨_, rfl⟩
      refine w_one (w_put 4 b rfl (d := TI nr) (e_if (PW.pt (w_and (t_val (v 9 rfl)) fun _ => w_and1 ((t_ne hr.units (shp_TI _).s (shp_TI _).s (e_ixL (at_map (f := TI) hbt) (v 8 rfl) (v 10 rfl)) (e_ixO 4 (at_map (f := TI) hbr) rfl (v 10 rfl))).is (by rw [eqv_TI'])))) (fun h => (e_ixL (at_map (f := TI) hbt) (v 8 rfl) (v 10 rfl)).is (by rw [hnr, if_pos h])) (fun h => (v 11 rfl).is (by rw [hnr, if_neg (by rw [h]; exact Bool.false_ne_true)]))) (v 10 rfl) rfl (by rw [List.length_map, hh.len]; exact hbn) ?_)
      refine ⟨w9, rs.set b nr, .dat (I (b : Int)), .dat (TI od), by rw [List.map_set]; rfl, hw9, hh.next bnd hx hbn ?_ ?_⟩
      · rw [hnr]
        split
        · exact htr
        · exact hod
      · rw [hnr]
        split
        · rename_i h
          simp at h
          exact h.2
        · exact hon
    rintro ρ' ⟨w9, rs, s10, s11, rfl, hw9, hh⟩
    rw [List.length_map] at hh
    have hne := hh.ne
    have heq := hh.eq
    rw [List.take_length] at hne heq
    have pl1 : Pl1 c m so bd (fun s => rs.getD s []) := ⟨hm, sup, slt, fun s h => hh.row s (slt s h), bnd, bsub, fun s h => (hne s h).symm, fun s h h2 => (heq s (slt s h) h2).symm⟩
    refine w_frz 4 rfl (.inr (by decide)) ?_
    show WS _ _ [.own w9, .dat (I e), .dat (plD c), .dat (TI m), .dat (LT rs), .dat (I l), .dat (LN so), .dat (LN bd), .dat (LT th), .dat (.bool one), s10, s11, .un] _ _
    have hans : sureB c e so (so.map fun s => rs.getD s []) = if bd.length ≤ e then some (m, srtN bd) else none := by
      by_cases q : bd.length ≤ e
      · rw [if_pos q, pl1.some hc (by omega) q]
      · have q2 : bd.length = e + 1 := by omega
        have := bl2 q2
        rw [if_neg q, pl1.none hc (by omega) q2]
    refine w_cons (w_set 12 (d := ansD (if bd.length ≤ e then some (m, srtN bd) else none)) ((e_call (d_read_sure T) (hr.mono (by decide)) ⟨c, e, so, so.map (fun s => rs.getD s []), rfl, ⟨hc, he, pl1.hrd, by omega, by omega, fun q s hs => room_ok hc q hs⟩, rfl⟩ (a_cons (v 2 rfl) (a_cons (v 1 rfl) (a_cons (e_tupL T.n_tuple (v 6 rfl)) (a_cons (e_tupL T.n_tuple
      ((lcn (own := [("_law_at", 10)]) so (fun k => I (k : Int)) (fun k => [.own w9, .dat (I e), .dat (plD c), .dat (TI m), .dat (LT rs), .dat (I l), .dat (LN so), .dat (LN bd), .dat (LT th), .dat (.bool one), .dat (I (k : Int)), s11, .un]) (fun k => TI (rs.getD k [])) rfl nd (blkOk_by (N := N_law_right) (sc := defScope s_law_right) (by decide +kernel)) (by omega)
        (i_lst (v 6 rfl)).o rfl (fun _ _ _ _ _ => dg_n (j := 10) nd) (by decide) (fun a _ => by rfl) (fun k hk' _ _ _ _ _ => e_ixL (at_map (f := TI) (get_of (by rw [hh.len]; exact slt k hk') [])) (v 4 rfl) (v 10 rfl))).e.e.is (by rw [List.map_map]; rfl))) a_nil))))).is (by rw [hans])) ?_ (.inr (by decide)) nd)
    show WS _ _ [.own w9, .dat (I e), .dat (plD c), .dat (TI m), .dat (LT rs), .dat (I l), .dat (LN so), .dat (LN bd), .dat (LT th), .dat (.bool one), s10, s11, .dat (ansD (if bd.length ≤ e then some (m, srtN bd) else none))] _ _
    have shw : Shw (ansD (if bd.length ≤ e then some (m, srtN bd) else none)) := by
      split
      · exact (lit_ans hc hm (fun s h => blt s (srtN_mem.mp h)) (by rw [srtN_len]; omega)).shw (by decide) (by decide) rfl
      · exact shw_non
    refine w_one (w_ret (d := .bool true) ((e_eqs (e_repr hg hr.units shw T.n_repr (v 12 rfl)) (e_repr hg hr.units shw T.n_repr (e_if (p := decide (bd.length ≤ e)) ((t_le (e_lenL T.n_len (v 7 rfl)) (v 1 rfl)).is (by simp)) (fun h => (e_tup (a_cons (v 3 rfl) (a_cons (e_tupL T.n_tuple (e_srt T.n_sorted (v 7 rfl))) a_nil)) (by simp)).is (by rw [if_pos (of_decide_eq_true h)]; rfl)) (fun h => c_non.is (by rw [if_neg (of_decide_eq_false h)]; rfl))))).is (by simp)) ⟨w9, rfl, hΦ w9 hw9⟩)
def R_law (ds : List D) (d : D) : Prop := ∃ ns : List Int, ds = [LI ns] ∧ d = .bool true
theorem d_law (P : Program) (w : World) (T : Txt K mg) (Z : ExF P K mg C fI cc cd) : ∃ f fd, mg "law" = some (.ref f) ∧ Binds K fd P_law [] ∧ ∀ base : Heap, FnG P w K mg base 14 f fd P_law (SpP K R_law) := by
  obtain ⟨hmg, fd, F⟩ := T.f_law
  refine ⟨_, fd, hmg, F.bindsN (fun _ _ _ _ _ _ us hl => match us, hl with | [_], _ => rfl), fun base => pure_okG F sc_law (fun ds d ⟨_, h, _⟩ => by rw [h]; rfl) fun cdv A outer s H E ds d hg hr hR => ?_⟩
  obtain ⟨ns, rfl, rfl⟩ := hR
  show WS _ _ [.dat (LI ns), .un] _ _
  have nd := sc_law.nd
  refine w_one (w_ret ((e_all (bs := [true, true]) rfl T.n_all ((lcn (own := [("_law_turn", 1)]) (List.range 2) (fun k => I (k : Int)) (fun k => [.dat (LI ns), .dat (I (k : Int))]) (fun _ => .bool true) rfl nd (blkOk_by (N := N_law) (sc := defScope s_law) (by decide +kernel)) (by simp)
    ((i_rng1 T.n_range (by decide) c_int).is (by rfl)).o rfl (fun _ _ _ _ _ => dg_n (j := 1) nd) (by decide) (fun a _ => by rfl) (fun k hk _ _ _ _ _ => e_callWLC ((d_law_right T Z).cb hg hr) ⟨⟨_, _, _, rfl⟩, rfl, fun w' hw' => rfl⟩ (l_call (d_law_well T) (hr.mono (by decide)) ⟨ns, k, rfl, by have := List.mem_range.mp hk; omega, rfl⟩ (a_cons (v 0 rfl) (a_cons (v 1 rfl) a_nil))))).e.e.is (by rfl))).is (by rfl)) rfl)
end
end Lm
set_option maxRecDepth 100000
set_option maxHeartbeats 4000000
/-! The law's call behind the top. -/
namespace Lm
open PySem PySem.Spec PyProof.Rows L2
theorem law_g {P : Program} {w : World} {K : PySem.W.Frag} {mg mb : Str → Option Value} {k : Nat} {f a : Addr} {fd : FuncData} {x : Str} {sp : Sp} {s : Shared} {us : List Value} {ns : List Int}
    (kin : K.In s.heap) (g1 : s.heap.Ns mainGlobals mg) (g2 : s.heap.Ns builtinsNs mb) (g3 : ∀ y : Str, y ≠ "__name__" → mb y = bootBuiltins y) (g4 : s.heap.NoLimit) (g5 : s.gens = #[])
    (ha : s.heap.get? a = some ({ cls := .type "list", data := .seq us.toArray } : Obj)) (hi : IntsAre us ns) (hl : ns.length ≤ sizeLine) (hr : Room k callerA)
    (G : ∀ b : Heap, K.In b → b.Ns mainGlobals mg → FnG P w K mg b k f fd [x] sp) (hb : BindsTo s fd ⟨[.ref a], []⟩ [(x, .ref a)])
    (hsp : ∀ H : Hp, SqL K H a (ns.map V.int) → sp [.ref a] H (fun v _ => v = .bl true) fun _ _ _ => False) :
    codeAny (model P w) callerA (.call (.ref f) ⟨[.ref a], []⟩) (fun r s' => r = .ok (.ret (.bool true)) ∧ OldK s.heap s'.heap ∧ s'.os = s.os ∧ AllBare s'.gens) s := by
  have rv := vals_ints hi
  have lu := hi.length
  obtain ⟨T, hT⟩ : ∃ T : HO, T = .frz ({ cls := .type "list", data := .seq us.toArray } : Obj) (.lst (ns.map V.int)) := ⟨_, rfl⟩
  obtain ⟨H, hH⟩ : ∃ H : Hp, H = fun b => if b = a ∧ (K.lookup a).isNone = true then some T else none := ⟨_, rfl⟩
  have at_ : ∀ b u, H b = some u → b = a ∧ K.lookup a = none ∧ u = T := fun b u z => by
    rw [hH] at z
    dsimp only at z
    split at z
    · rename_i q
      cases z
      exact ⟨q.1, Option.isNone_iff_eq_none.mp q.2, rfl⟩
    · cases z
  have off : ∀ b, b ≠ a → H b = none := fun b z => by
    rw [hH]
    exact if_neg fun q => z q.1
  have offK : ∀ b o, K.lookup b = some o → H b = none := fun b o z => by
    cases q : H b with
    | none => rfl
    | some u =>
      obtain ⟨q1, q2, _⟩ := at_ b u q
      rw [q1, q2] at z
      cases z
  have hS : SqL K H a (ns.map V.int) := by
    cases q : K.lookup a with
    | none =>
      refine .inl (.inr ⟨({ cls := .type "list", data := .seq us.toArray } : Obj), ?_⟩)
      rw [hH, ← hT]
      exact if_pos ⟨rfl, by rw [q]; rfl⟩
    | some o =>
      have z := kin a o q
      rw [ha] at z
      cases z
      exact .inr ⟨_, us.toArray, _, q, rfl, rfl, rfl, by rw [List.size_toArray, lu]; exact hl, by simpa using rv⟩
  have keepNs : ∀ {b : Addr} {m : Str → Option Value}, s.heap.Ns b m → (hidT s.heap H).Ns b m := fun {b m} ⟨o, es, ep, z, d, rest⟩ => by
    refine ⟨o, es, ep, hidT_get z (off b fun q => ?_), d, rest⟩
    rw [q, ha] at z
    cases z
    cases d
  have kb : K.In (hidT s.heap H) := fun b o z => hidT_get (kin b o z) (offK b o z)
  have hok : HOk P w H s.heap := fun b u z => by
    obtain ⟨q1, _, q3⟩ := at_ b u z
    rw [q1, q3, hT]
    exact ⟨ha, by rw [List.length_map]; exact hl, us, _, rv, ha⟩
  obtain ⟨mc, c1, c2⟩ := g4
  have e0 : Env0 P w K mg (hidT s.heap H) callerA [] s H := ⟨rfl, ⟨kb, keepNs g1, ⟨mb, keepNs g2, g3⟩, mc, keepNs c1, c2⟩, fun b o z => of_hidT z, Nat.le_of_eq (hidT_size _ _), trivial, fun b z => (List.not_mem_nil (show b ∈ ([] : List Addr) from z)).elim, hok, .of_eq g5⟩
  refine codeAny_mono ((G _ kb (keepNs g1)).run callerA [] s H ⟨[.ref a], []⟩ [.ref a] [.ref a] _ _ rfl hr e0 hb (.cons rfl .nil) (hsp H hS)) fun r s' z => ?_
  cases r with
  | error e => exact z.elim
  | ok fl =>
    cases fl with
    | ret u =>
      obtain ⟨v, H', os, bare, un, hok', r', q⟩ := z
      have q : v = .bl true := q
      subst q
      have r' : u = Value.bool true := r'
      subst r'
      refine ⟨rfl, OldK.of_keep fun b o hbo => ?_, os, bare⟩
      cases q : H b with
      | none => exact un.keep b o hbo q (fun y => (List.not_mem_nil (show b ∈ ([] : List Addr) from y)).elim) (by simp)
      | some u =>
        obtain ⟨_, _, q3⟩ := at_ b u q
        rw [q3, hT] at q
        have q2 := un.frzs b _ _ q
        have y1 := (hok b _ q).1
        have y2 := (hok' b _ q2).1
        rw [hbo] at y1
        cases y1
        exact y2
    | next => exact False.elim z
    | brk => exact False.elim z
    | cont => exact False.elim z
theorem walk_g {l : PySem.W.OpenLaw} {n k : Nat} {q : Program} {loose : List Str} {XP : (Str → Option Value) → Heap → Prop} {YP : World → Heap → Prop} {d : DefRec} {x : Str}
    (hn : l.most = some n) (hn2 : n ≤ sizeLine) (hdf : d.params.defaults = []) (hr : Room k callerA)
    (W : ∀ (w : World) (mg : Str → Option Value) (f : Addr) (h : Heap), YP w h → h.Ns mainGlobals mg → mg d.name = some (.ref f) → ∃ (K : PySem.W.Frag) (fd : FuncData) (sp : Sp), K.In h ∧ Binds K fd [x] [] ∧
      (∀ (H : Hp) (a : Addr) (ns : List Int), SqL K H a (ns.map V.int) → sp [.ref a] H (fun v _ => v = .bl true) fun _ _ _ => False) ∧ ∀ b : Heap, K.In b → b.Ns mainGlobals mg → FnG l.prog w K mg b k f fd [x] sp) :
    PySem.W.WalkO q loose XP YP l.row.toRowW d [] (fun f vs => PySem.call f vs) := by
  refine Att.attach_call hn hdf fun w s0 s1 mg mb f o pm cd doc a vs ns G Y ho hd hcd hmg hobj hints hlen hgens => ?_
  obtain ⟨K, fd, sp, kin, hb, hsp, hF⟩ := W w mg f _ Y G.T.g hmg
  exact law_g kin G.T.g G.T.b G.T.builtins G.T.nolimit hgens hobj hints (Nat.le_trans hlen hn2) hr hF (hb s1 [.ref a] kin rfl) fun H hS => hsp H a ns hS
end Lm
open PySem PySem.W PySem.Calls PyProof.Rows
theorem PySem.Challenge.cw_lettermend_k09_whole_wrong_pieces_found_holds : PySem.Challenge.rw_lettermend_k09_whole_wrong_pieces_found.Holds := by
  w_on; o_law
  refine HandSHeadRun.head_any (r := Lm.rowK) (q := view Lm.rowK.prog [101]) (H := Lm.hkK) (ob := Lm.obK) (M := 20000) (loose := Lm.nmK) (d := HandSHeadRun.topDef Lm.rowK.prog 101) (kwd := []) Lm.obK_eq
    (by kernel_rfl) (fun s => by kernel_rfl) Lm.runK (by kernel_rfl) (by kernel_rfl) (by kernel_rfl) (by rfl) (by first | assumption | decide +kernel) (by decide +kernel) ⟨rfl, rfl, rfl, rfl, rfl, by decide +kernel⟩ ?hw ?hc
  case hw => w_witness2
  case hc =>
    refine Lm.walk_g (l := PySem.Challenge.rw_lettermend_k09_whole_wrong_pieces_found) (n := 63) (k := 14) (x := "_law_script") rfl (by decide) (by kernel_rfl) ⟨rfl, by decide, by decide⟩ ?F
    intro w mg f h ⟨K, kin, c1, c2, c3⟩ G hmg0
    have hmg : mg ("law" : PySem.Str) = some (.ref f) := by
      have e : (HandSHeadRun.topDef Lm.rowK.prog 101).name = ("law" : PySem.Str) := by kernel_rfl
      rw [← e]
      exact hmg0
    have T : Lm.Txt K mg := ⟨c1, h, kin, G⟩
    have Z := Lm.exF_of (P := (PySem.Challenge.rw_lettermend_k09_whole_wrong_pieces_found).prog) kin G (by decide +kernel) c2 c3
    obtain ⟨f1, fd, m1, hb, hF⟩ := Lm.d_law (PySem.Challenge.rw_lettermend_k09_whole_wrong_pieces_found).prog w T Z
    have ef : f1 = f := by
      rw [hmg] at m1
      cases m1
      rfl
    subst ef
    exact ⟨K, fd, _, kin, hb, fun H a ns hS => ⟨_, _, H, ⟨ns, rfl, rfl⟩, Evl.Ex.refl _, .cons (.lst hS (Lm.dpa_ofints ns)) .nil, fun v F' H' _ hv => Lm.dp_bl hv⟩, fun b _ _ => hF b⟩
