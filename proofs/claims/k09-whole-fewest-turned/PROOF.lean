import PyProof.Rows.All
import HandS.ForMost
import HandS.Walk
import HandS.Evl
import HandS.IsInst
import HandS.SortRule
import HandS.SortInts
import HandS.ForExc
import HandS.Wide
import HandS.ExcIs
import HandS.SetFor
import HandS.Strs
import HandS.DictTup
import HandS.Conv
import HandS.ListItems
import KE.KDictList
import HandS.SetKeys
import HandS.Rev
import KE.KRevIter
import PyProof.LongRange
import PyProof.EnumIter
import PyProof.EnumStmt
import PyProof.EnumMake
import KE.KItemsList
import KE.RegKIsAll
import PySem.Challenge.RW_tilechain_k09_whole_fewest_turned
set_option Elab.async false
set_option linter.all false
set_option maxRecDepth 100000
set_option maxHeartbeats 4000000
namespace TC
open PySem PySem.Spec L2
open Evl (Ex)
abbrev St := L2.St
/-! values by what they hold -/
class Rep (α : Type) where
  rep : Hp → V → α → Prop
  mono : ∀ {H H' : Hp} {v : V} {a : α}, Ex H H' → rep H v a → rep H' v a
abbrev rep {α : Type} [Rep α] (H : Hp) (v : V) (a : α) : Prop := Rep.rep H v a
instance rpInt : Rep Int := ⟨fun _ v a => v = .int a, fun _ h => h⟩
instance rpBool : Rep Bool := ⟨fun _ v a => v = .bl a, fun _ h => h⟩
instance rpStr : Rep Str := ⟨fun _ v a => v = .str a, fun _ h => h⟩
instance rpUnit : Rep Unit := ⟨fun _ v _ => v = .non, fun _ h => h⟩
def repO {α : Type} [Rep α] (H : Hp) (v : V) : Option α → Prop
  | none => v = .non
  | some x => rep H v x
instance rpOpt {α : Type} [Rep α] : Rep (Option α) := ⟨repO, fun {_ _ _ a} e h => match a, h with
  | none, h => h
  | some _, h => Rep.mono e h⟩
theorem paired_mono {α : Type} [Rep α] {H H' : Hp} {vs : List V} {as : List α} (e : Ex H H') (h : Paired (rep H) vs as) : Paired (rep H') vs as := L2.Paired.mapP h fun _ _ q => Rep.mono e q
instance rpProd {α β : Type} [Rep α] [Rep β] : Rep (α × β) := ⟨fun H v a => ∃ p x y, v = .ref p ∧ H p = some (.tup [x, y]) ∧ rep H x a.1 ∧ rep H y a.2,
  fun e ⟨p, x, y, h1, h2, h3, h4⟩ => ⟨p, x, y, h1, e _ _ h2, Rep.mono e h3, Rep.mono e h4⟩⟩
structure T3 (α β γ : Type) where
  a : α
  b : β
  c : γ
instance rpT3 {α β γ : Type} [Rep α] [Rep β] [Rep γ] : Rep (T3 α β γ) := ⟨fun H v a => ∃ p x y z, v = .ref p ∧ H p = some (.tup [x, y, z]) ∧ rep H x a.a ∧ rep H y a.b ∧ rep H z a.c,
  fun e ⟨p, x, y, z, h1, h2, h3, h4, h5⟩ => ⟨p, x, y, z, h1, e _ _ h2, Rep.mono e h3, Rep.mono e h4, Rep.mono e h5⟩⟩
instance rpList {α : Type} [Rep α] : Rep (List α) := ⟨fun H v as => ∃ p vs, v = .ref p ∧ H p = some (.lst vs) ∧ Paired (rep H) vs as,
  fun e ⟨p, vs, h1, h2, h3⟩ => ⟨p, vs, h1, e _ _ h2, paired_mono e h3⟩⟩
/-- a dict with keys that are numbers -/
structure Dct (β : Type) where
  m : List (Int × β)
def kvR {β : Type} [Rep β] (H : Hp) (p : Key × V) (q : Int × β) : Prop := p.1 = .inl q.1 ∧ rep H p.2 q.2
theorem kvR_mono {β : Type} [Rep β] {H H' : Hp} {vs : List (Key × V)} {as : List (Int × β)} (e : Ex H H') (h : Paired (kvR H) vs as) : Paired (kvR H') vs as := L2.Paired.mapP h fun _ _ q => ⟨q.1, Rep.mono e q.2⟩
instance rpDct {β : Type} [Rep β] : Rep (Dct β) := ⟨fun H v d => ∃ p kvs, v = .ref p ∧ H p = some (.dK kvs) ∧ Paired (kvR H) kvs d.m,
  fun e ⟨p, vs, h1, h2, h3⟩ => ⟨p, vs, h1, e _ _ h2, kvR_mono e h3⟩⟩
/-- the script -/
structure Scr (K : PySem.W.Frag) where
  ns : List Int
instance rpScr {K : PySem.W.Frag} : Rep (Scr K) := ⟨fun H v a => ∃ p, v = .ref p ∧ SqL K H p (a.ns.map V.int), fun e ⟨p, h1, h2⟩ => ⟨p, h1, Evl.ex_l e h2⟩⟩
/-! what a slot holds -/
structure Res where
  P : Hp → Hp → V → Prop
  mono : ∀ {Hf Hf' O : Hp} {v : V}, Ex Hf Hf' → P Hf O v → P Hf' O v
inductive Slot : Type 1
  | un : Slot
  | shi (α : Type) (i : Rep α) (a : α) : Slot
  | own (r : Res) : Slot
abbrev Slot.sh {α : Type} [i : Rep α] (a : α) : Slot := .shi α i a
abbrev DE := List Slot
def HoldV (Hf O : Hp) (v : V) : Slot → Prop
  | .un => True
  | .shi _ i a => i.rep Hf v a
  | .own r => r.P Hf O v
theorem HoldV.mono {Hf Hf' O : Hp} {v : V} {s : Slot} (e : Ex Hf Hf') (h : HoldV Hf O v s) : HoldV Hf' O v s := by
  cases s with
  | un => trivial
  | shi t i a => exact i.mono e h
  | own r => exact r.mono e h
def Hold (Hf O : Hp) (o : Option (Option V)) : Slot → Prop
  | .un => True
  | .shi _ i a => ∃ v, o = some (some v) ∧ i.rep Hf v a
  | .own r => ∃ v, o = some (some v) ∧ r.P Hf O v
theorem Hold.mono {Hf Hf' O : Hp} {o : Option (Option V)} {s : Slot} (e : Ex Hf Hf') (h : Hold Hf O o s) : Hold Hf' O o s := by
  cases s with
  | un => trivial
  | shi t i a => obtain ⟨v, h1, h2⟩ := h; exact ⟨v, h1, i.mono e h2⟩
  | own r => obtain ⟨v, h1, h2⟩ := h; exact ⟨v, h1, r.mono e h2⟩
def isOwn : Slot → Bool
  | .own _ => true
  | _ => false
theorem Hold.sameO {Hf O O' : Hp} {o : Option (Option V)} {s : Slot} (hn : isOwn s = false) (h : Hold Hf O o s) : Hold Hf O' o s := by
  cases s with
  | un => trivial
  | shi t i a => exact h
  | own r => cases hn
structure Base where
  F : Hp
  f0 : Hp
def noHp : Hp := fun _ => none
structure Env (B : Base) (Hf : Hp) (O : Nat → Hp) (d : DE) (σ : St) (H : Hp) : Prop where
  fr : Ex B.F H
  hf : Ex Hf H
  f0 : Ex B.f0 Hf
  fo : ∀ p, B.F p ≠ none → B.f0 p = none → Hf p = none
  ow : ∀ i p o, O i p = some o → H p = some o ∧ Hf p = none ∧ B.F p = none
  dj : ∀ i j p, i ≠ j → O i p ≠ none → O j p = none
  len : d.length = σ.length
  sl : ∀ i s, d[i]? = some s → Hold Hf (O i) σ[i]? s
section
variable {B : Base} {Hf Hf' H H' : Hp} {O : Nat → Hp} {d : DE} {σ : St} {p : Addr} {o : HO}
theorem ex_upd {H : Hp} {p : Addr} {o : HO} (h : H p = none) : Ex H (upd H p o) := Evl.Ex.new h
theorem Env.fz (E : Env B Hf O d σ H) (h : H p = none) : Hf p = none := by
  cases q : Hf p with
  | none => rfl
  | some u => rw [E.hf _ _ q] at h; cases h
theorem Env.Fz (E : Env B Hf O d σ H) (h : H p = none) : B.F p = none := by
  cases q : B.F p with
  | none => rfl
  | some u => rw [E.fr _ _ q] at h; cases h
theorem Env.Oz (E : Env B Hf O d σ H) (h : H p = none) (i : Nat) : O i p = none := by
  cases q : O i p with
  | none => rfl
  | some u => rw [(E.ow i p u q).1] at h; cases h
/-- a new object, frozen at once -/
theorem Env.alloc (E : Env B Hf O d σ H) (h : H p = none) : Env B (upd Hf p o) O d σ (upd H p o) := by
  have e1 := E.fz h
  refine ⟨fun q u e => ?_, fun q u e => ?_, fun q u e => ?_, fun q a b => ?_, fun i q u e => ?_, E.dj, E.len, fun i s e => (E.sl i s e).mono (ex_upd e1)⟩
  · have := E.fr q u e
    rw [upd_ne (fun z => by rw [z, h] at this; cases this)]
    exact this
  · by_cases z : q = p
    · rw [z, upd_same] at e ⊢
      exact e
    · rw [upd_ne z] at e ⊢
      exact E.hf q u e
  · exact ex_upd e1 q u (E.f0 q u e)
  · have z : q ≠ p := fun z => a (by rw [z]; exact E.Fz h)
    rw [upd_ne z]
    exact E.fo q a b
  · obtain ⟨h1, h2, h3⟩ := E.ow i q u e
    have z : q ≠ p := fun z => by rw [z, h] at h1; cases h1
    rw [upd_ne z, upd_ne z]
    exact ⟨h1, h2, h3⟩
/-- an object that is not told of changes -/
theorem Env.touch (E : Env B Hf O d σ H) (h1 : Hf p = none) (h2 : B.F p = none) (h3 : ∀ i, O i p = none) : Env B Hf O d σ (upd H p o) := by
  refine ⟨fun q u e => ?_, fun q u e => ?_, E.f0, E.fo, fun i q u e => ?_, E.dj, E.len, E.sl⟩
  · rw [upd_ne (fun z => by rw [z, h2] at e; cases e)]
    exact E.fr q u e
  · rw [upd_ne (fun z => by rw [z, h1] at e; cases e)]
    exact E.hf q u e
  · have := E.ow i q u e
    rw [upd_ne (fun z => by rw [z, h3 i] at e; cases e)]
    exact this
theorem Env.allocO (E : Env B Hf O d σ H) (h : H p = none) : Env B Hf O d σ (upd H p o) := E.touch (E.fz h) (E.Fz h) (E.Oz h)
/-- the frozen part from now on -/
theorem Env.rebase (E : Env B Hf O d σ H) : Env ⟨B.F, Hf⟩ Hf O d σ H := ⟨E.fr, E.hf, fun _ _ e => e, fun _ _ h => h, E.ow, E.dj, E.len, E.sl⟩
theorem Env.back {O' : Nat → Hp} {d' : DE} {σ' : St} (E : Env B Hf O d σ H) (E' : Env ⟨B.F, Hf⟩ Hf' O' d' σ' H') : Env B Hf' O' d' σ' H' :=
  ⟨E'.fr, E'.hf, fun q u e => E'.f0 q u (E.f0 q u e), fun q a b => E'.fo q a (E.fo q a b), E'.ow, E'.dj, E'.len, E'.sl⟩
/-- one more object kept apart -/
theorem Env.keep (E : Env B Hf O d σ H) (h : H p = some o) (h1 : Hf p = none) (h3 : ∀ i, O i p = none) : Env ⟨upd B.F p o, Hf⟩ Hf O d σ H := by
  refine ⟨fun q u e => ?_, E.hf, fun _ _ e => e, fun _ _ h => h, fun i q u e => ?_, E.dj, E.len, E.sl⟩
  · have e : upd B.F p o q = some u := e
    by_cases z : q = p
    · rw [z, upd_same] at e
      rw [z, ← e]
      exact h
    · rw [upd_ne z] at e
      exact E.fr q u e
  · obtain ⟨a, b, c⟩ := E.ow i q u e
    refine ⟨a, b, ?_⟩
    show upd B.F p o q = none
    rw [upd_ne (fun z => by rw [z, h3 i] at e; cases e)]
    exact c
theorem Env.unkeep {O' : Nat → Hp} {d' : DE} {σ' : St} (E : Env B Hf O d σ H) (h2 : B.F p = none) (h1 : Hf p = none) (E' : Env ⟨upd B.F p o, Hf⟩ Hf' O' d' σ' H') :
    Env B Hf' O' d' σ' H' ∧ H' p = some o ∧ Hf' p = none ∧ ∀ i, O' i p = none := by
  refine ⟨⟨fun q u e => ?_, E'.hf, fun q u e => E'.f0 q u (E.f0 q u e), fun q a b => ?_, fun i q u e => ?_, E'.dj, E'.len, E'.sl⟩, ?_, ?_, fun i => ?_⟩
  · refine E'.fr q u ?_
    show upd B.F p o q = some u
    rw [upd_ne (fun z => by rw [z, h2] at e; cases e)]
    exact e
  · refine E'.fo q ?_ (E.fo q a b)
    show upd B.F p o q ≠ none
    rw [upd_ne (fun z => a (by rw [z]; exact h2))]
    exact a
  · obtain ⟨a, b, c⟩ := E'.ow i q u e
    refine ⟨a, b, ?_⟩
    have c' : upd B.F p o q = none := c
    by_cases z : q = p
    · rw [z, upd_same] at c'
      cases c'
    · rw [upd_ne z] at c'
      exact c'
  · exact E'.fr p o (show upd B.F p o p = some o from upd_same)
  · refine E'.fo p ?_ h1
    show upd B.F p o p ≠ none
    rw [upd_same]
    exact fun z => by cases z
  · cases q : O' i p with
    | none => rfl
    | some u =>
      have c := (E'.ow i p u q).2.2
      have c' : upd B.F p o p = none := c
      rw [upd_same] at c'
      cases c'
theorem getElem?_set {α : Type} {l : List α} {i j : Nat} {a : α} : (l.set i a)[j]? = if i = j ∧ j < l.length then some a else l[j]? := by
  rw [List.getElem?_set]
  by_cases h : i = j
  · subst h
    by_cases h2 : i < l.length
    · simp [h2]
    · simp [h2, List.getElem?_eq_none (Nat.le_of_not_lt h2)]
  · simp [h]
theorem getElem?_setS {l : DE} {i j : Nat} {a : Slot} : (l.set i a)[j]? = if i = j ∧ j < l.length then some a else l[j]? := by
  rw [List.getElem?_set]
  by_cases h : i = j
  · subst h
    by_cases h2 : i < l.length
    · simp [h2]
    · simp [h2, List.getElem?_eq_none (Nat.le_of_not_lt h2)]
  · simp [h]
def setO (O : Nat → Hp) (i : Nat) (On : Hp) : Nat → Hp := fun j => if j = i then On else O j
theorem setO_same {O : Nat → Hp} {i : Nat} {On : Hp} : setO O i On i = On := if_pos rfl
theorem setO_ne {O : Nat → Hp} {i j : Nat} {On : Hp} (h : j ≠ i) : setO O i On j = O j := if_neg h
/-- a new thing of one's own: where it stands nothing else is told of -/
structure NewO (B : Base) (Hf : Hp) (O : Nat → Hp) (On H : Hp) : Prop where
  at' : ∀ p o, On p = some o → H p = some o
  fz : ∀ p, On p ≠ none → Hf p = none
  Fz : ∀ p, On p ≠ none → B.F p = none
  Oz : ∀ p, On p ≠ none → ∀ i, O i p = none
theorem newO_no : NewO B Hf O noHp H := ⟨fun p o e => (by cases e), fun p h => absurd rfl h, fun p h => absurd rfl h, fun p h => absurd rfl h⟩
/-- a slot takes a value -/
theorem Env.set (E : Env B Hf O d σ H) {i : Nat} {v : V} {s : Slot} {On : Hp} (hs : HoldV Hf On v s) (hn : NewO B Hf O On H) : Env B Hf (setO O i On) (d.set i s) (σ.set i (some v)) H := by
  refine ⟨E.fr, E.hf, E.f0, E.fo, fun j q u e => ?_, fun j k q hjk e => ?_, ?_, fun j s' e => ?_⟩
  · by_cases z : j = i
    · rw [z, setO_same] at e
      have hq : On q ≠ none := fun x => by rw [x] at e; cases e
      exact ⟨hn.at' q u e, hn.fz q hq, hn.Fz q hq⟩
    · rw [setO_ne z] at e
      exact E.ow j q u e
  · by_cases z : j = i
    · rw [z, setO_same] at e
      rw [setO_ne (fun x => hjk (z.trans x.symm))]
      exact hn.Oz q e k
    · rw [setO_ne z] at e
      by_cases z2 : k = i
      · rw [z2, setO_same]
        cases w : On q with
        | none => rfl
        | some u => exact absurd (hn.Oz q (by rw [w]; exact fun x => by cases x) j) e
      · rw [setO_ne z2]
        exact E.dj j k q hjk e
  · rw [List.length_set, List.length_set]
    exact E.len
  · rw [getElem?_setS] at e
    rw [getElem?_set]
    by_cases z : i = j ∧ j < d.length
    · rw [if_pos z] at e
      have z' : i = j ∧ j < σ.length := ⟨z.1, by rw [← E.len]; exact z.2⟩
      rw [if_pos z', ← Option.some.inj e, ← z.1, setO_same]
      cases s with
      | un => trivial
      | shi t i a => exact ⟨v, rfl, hs⟩
      | own r => exact ⟨v, rfl, hs⟩
    · rw [if_neg z] at e
      have z' : ¬ (i = j ∧ j < σ.length) := fun x => z ⟨x.1, by rw [E.len]; exact x.2⟩
      rw [if_neg z']
      have hj : j < d.length := (List.getElem?_eq_some_iff.mp e).1
      have z2 : j ≠ i := fun x => z ⟨x.symm, hj⟩
      rw [setO_ne z2]
      exact E.sl j s' e
/-- another state's slots, another state's heap -/
theorem Env.swap {B2 : Base} {d2 : DE} {σ2 : St} (E1 : Env B Hf O d σ H) (E2 : Env B2 Hf' O d2 σ2 H') (ex : Ex Hf Hf') : Env B2 Hf' O d σ H' :=
  ⟨E2.fr, E2.hf, E2.f0, E2.fo, E2.ow, E2.dj, E1.len, fun i s e => (E1.sl i s e).mono ex⟩
/-- a slot takes a value that is shared -/
theorem Env.setS (E : Env B Hf O d σ H) {α : Type} [Rep α] {i : Nat} {v : V} {a : α} (h : rep Hf v a) : Env B Hf O (d.set i (.sh a)) (σ.set i (some v)) H := by
  refine ⟨E.fr, E.hf, E.f0, E.fo, E.ow, E.dj, by rw [List.length_set, List.length_set]; exact E.len, fun j s' e => ?_⟩
  rw [getElem?_setS] at e
  rw [getElem?_set]
  by_cases z : i = j ∧ j < d.length
  · rw [if_pos z] at e
    have z' : i = j ∧ j < σ.length := ⟨z.1, by rw [← E.len]; exact z.2⟩
    rw [if_pos z', ← Option.some.inj e]
    exact ⟨v, rfl, h⟩
  · rw [if_neg z] at e
    have z' : ¬ (i = j ∧ j < σ.length) := fun x => z ⟨x.1, by rw [E.len]; exact x.2⟩
    rw [if_neg z']
    exact E.sl j s' e
def wipeS (d : DE) : List Nat → DE
  | [] => d
  | v :: vs => (wipeS d vs).set v .un
theorem Env.wipe (E : Env B Hf O d σ H) : ∀ vs : List Nat, Env B Hf O (wipeS d vs) (L2.wipe σ vs) H
  | [] => E
  | v :: vs => by
    have E' := Env.wipe E vs
    refine ⟨E'.fr, E'.hf, E'.f0, E'.fo, E'.ow, E'.dj, ?_, fun j s' e => ?_⟩
    · show ((wipeS d vs).set v .un).length = ((L2.wipe σ vs).set v none).length
      rw [List.length_set, List.length_set]
      exact E'.len
    · have e : ((wipeS d vs).set v .un)[j]? = some s' := e
      show Hold Hf (O j) ((L2.wipe σ vs).set v none)[j]? s'
      rw [getElem?_setS] at e
      by_cases z : v = j ∧ j < (wipeS d vs).length
      · rw [if_pos z] at e
        rw [← Option.some.inj e]
        trivial
      · rw [if_neg z] at e
        rw [getElem?_set, if_neg (fun x => z ⟨x.1, by rw [E'.len]; exact x.2⟩)]
        exact E'.sl j s' e
theorem Env.wipe_back (σ σ2 : St) (vs : List Nat) (hl : σ2.length = σ.length) (h : ∀ k, k ∉ vs → σ2[k]? = (L2.wipe σ vs)[k]?) : L2.wipe σ2 vs = L2.wipe σ vs := by
  have off : ∀ (τ : St) (ws : List Nat) (k : Nat), k ∉ ws → (L2.wipe τ ws)[k]? = τ[k]? := by
    intro τ ws
    induction ws with
    | nil => intro k _; rfl
    | cons w ws ih =>
      intro k hk
      show ((L2.wipe τ ws).set w none)[k]? = τ[k]?
      rw [List.getElem?_set_ne (fun z => hk (by rw [z]; exact List.mem_cons_self)), ih k (fun z => hk (List.mem_cons_of_mem _ z))]
  have on : ∀ (τ : St) (ws : List Nat) (k : Nat), k ∈ ws → k < τ.length → (L2.wipe τ ws)[k]? = some none := by
    intro τ ws
    induction ws with
    | nil => intro k hk; cases hk
    | cons w ws ih =>
      intro k hk hl
      show ((L2.wipe τ ws).set w none)[k]? = some none
      rw [getElem?_set]
      by_cases z : w = k
      · rw [if_pos ⟨z, by rw [L2.wipe_length]; exact hl⟩]
      · rw [if_neg (fun x => z x.1)]
        exact ih k (by rcases List.mem_cons.mp hk with e | e; exact absurd e.symm z; exact e) hl
  refine List.ext_getElem? fun k => ?_
  by_cases hk : k ∈ vs
  · by_cases hl2 : k < σ.length
    · rw [on σ2 vs k hk (by rw [hl]; exact hl2), on σ vs k hk hl2]
    · rw [List.getElem?_eq_none (by rw [L2.wipe_length, hl]; omega), List.getElem?_eq_none (by rw [L2.wipe_length]; omega)]
  · rw [off σ2 vs k hk, h k hk]
theorem Env.get {α : Type} [Rep α] {a : α} (E : Env B Hf O d σ H) {i : Nat} (h : d[i]? = some (.sh a)) : ∃ v, σ[i]? = some (some v) ∧ rep Hf v a := E.sl i _ h
theorem Env.getO {r : Res} (E : Env B Hf O d σ H) {i : Nat} (h : d[i]? = some (.own r)) : ∃ v, σ[i]? = some (some v) ∧ r.P Hf (O i) v := E.sl i _ h
/-- what a slot holds of its own changes to another thing, at the same value -/
theorem Env.chg (E : Env B Hf O d σ H) {i : Nat} {v : V} {r : Res} {On : Hp} (hv : σ[i]? = some (some v)) (hs : r.P Hf On v)
    (h1 : ∀ p o, On p = some o → H' p = some o) (h2 : ∀ p, On p ≠ none → O i p ≠ none ∨ (H p = none))
    (h3 : ∀ p, O i p = none → ∀ o, H p = some o → H' p = some o) : Env B Hf (setO O i On) (d.set i (.own r)) σ H' := by
  have sub : ∀ q, On q ≠ none → Hf q = none ∧ B.F q = none ∧ ∀ k, k ≠ i → O k q = none := fun q hq => by
    rcases h2 q hq with z | z
    · cases w : O i q with
      | none => exact absurd w z
      | some u =>
        obtain ⟨_, b, c⟩ := E.ow i q u w
        exact ⟨b, c, fun k hk => E.dj i k q (Ne.symm hk) z⟩
    · exact ⟨E.fz z, E.Fz z, fun k _ => E.Oz z k⟩
  refine ⟨fun q u e => ?_, fun q u e => ?_, E.f0, E.fo, fun j q u e => ?_, fun j k q hjk e => ?_, ?_, fun j s' e => ?_⟩
  · refine h3 q ?_ u (E.fr q u e)
    cases w : O i q with
    | none => rfl
    | some x => rw [(E.ow i q x w).2.2] at e; cases e
  · refine h3 q ?_ u (E.hf q u e)
    cases w : O i q with
    | none => rfl
    | some x => rw [(E.ow i q x w).2.1] at e; cases e
  · by_cases z : j = i
    · rw [z, setO_same] at e
      have hq : On q ≠ none := fun x => by rw [x] at e; cases e
      exact ⟨h1 q u e, (sub q hq).1, (sub q hq).2.1⟩
    · rw [setO_ne z] at e
      obtain ⟨a, b, c⟩ := E.ow j q u e
      exact ⟨h3 q (E.dj j i q z (by rw [e]; exact fun x => by cases x)) u a, b, c⟩
  · by_cases z : j = i
    · rw [z, setO_same] at e
      rw [setO_ne (fun x => hjk (z.trans x.symm))]
      exact (sub q e).2.2 k (fun x => hjk (z.trans x.symm))
    · rw [setO_ne z] at e
      by_cases z2 : k = i
      · rw [z2, setO_same]
        cases w : On q with
        | none => rfl
        | some u => exact absurd ((sub q (by rw [w]; exact fun x => by cases x)).2.2 j z) e
      · rw [setO_ne z2]
        exact E.dj j k q hjk e
  · rw [List.length_set]
    exact E.len
  · rw [getElem?_setS] at e
    by_cases z : i = j ∧ j < d.length
    · rw [if_pos z] at e
      rw [← Option.some.inj e, ← z.1, setO_same, hv]
      exact ⟨v, rfl, hs⟩
    · rw [if_neg z] at e
      have hj : j < d.length := (List.getElem?_eq_some_iff.mp e).1
      have z2 : j ≠ i := fun x => z ⟨x.symm, hj⟩
      rw [setO_ne z2]
      exact E.sl j s' e
/-- a slot forgotten -/
theorem Env.forget (E : Env B Hf O d σ H) (i : Nat) : Env B Hf O (d.set i .un) σ H := by
  refine ⟨E.fr, E.hf, E.f0, E.fo, E.ow, E.dj, by rw [List.length_set]; exact E.len, fun j s' e => ?_⟩
  rw [getElem?_setS] at e
  by_cases z : i = j ∧ j < d.length
  · rw [if_pos z] at e
    rw [← Option.some.inj e]
    trivial
  · rw [if_neg z] at e
    exact E.sl j s' e
def plus (Hf On : Hp) : Hp := fun p => match On p with
  | some o => some o
  | none => Hf p
theorem plus_on {Hf On : Hp} {p : Addr} {o : HO} (h : On p = some o) : plus Hf On p = some o := by unfold plus; rw [h]
theorem plus_off {Hf On : Hp} {p : Addr} (h : On p = none) : plus Hf On p = Hf p := by unfold plus; rw [h]
/-- what is one's own at i is frozen: the slot is a (shared) thing that holds over both parts -/
theorem Env.freeze (E : Env B Hf O d σ H) {α : Type} [Rep α] {i : Nat} {a : α} {v : V} (hv : σ[i]? = some (some v)) (h : rep (plus Hf (O i)) v a) :
    Env B (plus Hf (O i)) (setO O i noHp) (d.set i (.sh a)) σ H := by
  have ex : Ex Hf (plus Hf (O i)) := fun q u e => by
    cases w : O i q with
    | none => rw [plus_off w]; exact e
    | some x => rw [(E.ow i q x w).2.1] at e; cases e
  refine ⟨E.fr, fun q u e => ?_, fun q u e => ex q u (E.f0 q u e), fun q a b => ?_, fun j q u e => ?_, fun j k q hjk e => ?_, by rw [List.length_set]; exact E.len, fun j s' e => ?_⟩
  · cases w : O i q with
    | none => rw [plus_off w] at e; exact E.hf q u e
    | some x => rw [plus_on w] at e; rw [← e]; exact (E.ow i q x w).1
  · cases w : O i q with
    | none => rw [plus_off w]; exact E.fo q a b
    | some x => exact absurd (E.ow i q x w).2.2 a
  · by_cases z : j = i
    · rw [z, setO_same] at e
      cases e
    · rw [setO_ne z] at e
      obtain ⟨a, b, c⟩ := E.ow j q u e
      refine ⟨a, ?_, c⟩
      rw [plus_off (E.dj j i q z (by rw [e]; exact fun x => by cases x))]
      exact b
  · by_cases z : j = i
    · rw [z, setO_same] at e
      exact absurd rfl e
    · rw [setO_ne z] at e
      by_cases z2 : k = i
      · rw [z2, setO_same]
        rfl
      · rw [setO_ne z2]
        exact E.dj j k q hjk e
  · rw [getElem?_setS] at e
    by_cases z : i = j ∧ j < d.length
    · rw [if_pos z] at e
      rw [← Option.some.inj e, ← z.1, hv]
      exact ⟨v, rfl, h⟩
    · rw [if_neg z] at e
      have hj : j < d.length := (List.getElem?_eq_some_iff.mp e).1
      have z2 : j ≠ i := fun x => z ⟨x.symm, hj⟩
      rw [setO_ne z2]
      exact (E.sl j s' e).mono ex
end
/-! ### what evaluates to what -/
def ED (te : TE) (d : DE) {α : Type} [Rep α] (a : α) : Prop := ∀ B Hf O σ H, Env B Hf O d σ H → ∀ Q : VK, (∀ v Hf' H', Env B Hf' O d σ H' → Ex Hf Hf' → rep Hf' v a → Q v H') → te σ H Q
def EO (te : TE) (d : DE) (r : Res) : Prop := ∀ B Hf O σ H, Env B Hf O d σ H → ∀ Q : VK, (∀ v Hf' H' On, Env B Hf' O d σ H' → Ex Hf Hf' → NewO B Hf' O On H' → r.P Hf' On v → Q v H') → te σ H Q
def ET (tt : TT) (d : DE) (b : Bool) : Prop := ∀ B Hf O σ H, Env B Hf O d σ H → ∀ Q : Bool → Hp → Prop, (∀ Hf' H', Env B Hf' O d σ H' → Ex Hf Hf' → Q b H') → tt σ H Q
def ShA (Hf : Hp) : List V → DE → Prop
  | [], [] => True
  | v :: vs, s :: ss => HoldV Hf noHp v s ∧ ShA Hf vs ss
  | _, _ => False
theorem ShA.mono {Hf Hf' : Hp} (e : Ex Hf Hf') : ∀ {vs : List V} {ss : DE}, ShA Hf vs ss → ShA Hf' vs ss
  | [], [], _ => trivial
  | _ :: _, _ :: _, h => ⟨h.1.mono e, ShA.mono e h.2⟩
  | [], _ :: _, h => h.elim
  | _ :: _, [], h => h.elim
theorem ShA.length {Hf : Hp} : ∀ {vs : List V} {ss : DE}, ShA Hf vs ss → vs.length = ss.length
  | [], [], _ => rfl
  | _ :: _, _ :: _, h => congrArg (· + 1) (ShA.length h.2)
  | [], _ :: _, h => h.elim
  | _ :: _, [], h => h.elim
def EA (ta : TA) (d : DE) (ss : DE) : Prop := ∀ B Hf O σ H, Env B Hf O d σ H → ∀ Q : List V → Hp → Prop, (∀ vs Hf' H', Env B Hf' O d σ H' → Ex Hf Hf' → ShA Hf' vs ss → Q vs H') → ta σ H Q
/-- arguments all of one kind -/
def EAs (ta : TA) (d : DE) {α : Type} [Rep α] (as : List α) : Prop := ∀ B Hf O σ H, Env B Hf O d σ H → ∀ Q : List V → Hp → Prop, (∀ vs Hf' H', Env B Hf' O d σ H' → Ex Hf Hf' → Paired (rep Hf') vs as → Q vs H') → ta σ H Q
structure Post where
  nx : DE → Prop
  rt : DE → Slot → Prop
  bk : DE → Prop := fun _ => False
  ct : DE → Prop := fun _ => False
  rz : Hp → Prop := fun _ => True
structure Sat (B : Base) (D : Ends) (P : Post) : Prop where
  nx : ∀ d Hf O σ H, P.nx d → Env B Hf O d σ H → D.nx σ H
  rt : ∀ d s v Hf O On σ H, P.rt d s → Env B Hf O d σ H → NewO B Hf O On H → HoldV Hf On v s → D.rt v H
  bk : ∀ d Hf O σ H, P.bk d → Env B Hf O d σ H → D.bk σ H
  ct : ∀ d Hf O σ H, P.ct d → Env B Hf O d σ H → D.ct σ H
  rz : ∀ H, Ex B.F H → P.rz H
def SD (ts : TS) (d : DE) (P : Post) : Prop := ∀ B Hf O σ H D, Env B Hf O d σ H → Sat B D P → ts D σ H
/-- a target -/
def GD (g : TG) (vs : List Nat) (d : DE) {α : Type} [Rep α] (a : α) (d' : DE) : Prop := ∀ B Hf O σ H v, Env B Hf O d σ H → rep Hf v a → ∀ Q : St → Hp → Prop, (∀ σ', Env B Hf O d' σ' H → (∀ k, k ∉ vs → σ'[k]? = σ[k]?) → σ'.length = σ.length → Q σ' H) → g v σ H Q
theorem Sat.rebase {B : Base} {Hf H : Hp} {O : Nat → Hp} {d : DE} {σ : St} {D : Ends} {P : Post} (E : Env B Hf O d σ H) (S : Sat B D P) : Sat ⟨B.F, Hf⟩ D P :=
  ⟨fun d' Hf' O' σ' H' h e => S.nx d' Hf' O' σ' H' h (E.back e), fun d' s v Hf' O' On σ' H' h e n => S.rt d' s v Hf' O' On σ' H' h (E.back e) ⟨n.at', n.fz, n.Fz, n.Oz⟩, fun d' Hf' O' σ' H' h e => S.bk d' Hf' O' σ' H' h (E.back e), fun d' Hf' O' σ' H' h e => S.ct d' Hf' O' σ' H' h (E.back e), S.rz⟩
end TC
namespace TC
open PySem PySem.Spec L2
open Evl (Ex)
section
variable {K : PySem.W.Frag} {ta tb tc te : TE} {d : DE} {t u : TT}
/-! ### plain values -/
theorem ed_var {α : Type} [Rep α] {i : Nat} {a : α} (h : d[i]? = some (.sh a)) : ED (tVar i) d a := fun B Hf O σ H E Q q => by
  obtain ⟨v, h1, h2⟩ := E.get h
  exact ⟨v, h1, q v Hf H E (fun _ _ e => e) h2⟩
theorem ed_c {α : Type} [Rep α] {v : V} {a : α} (h : ∀ H, rep H v a) : ED (tC v) d a := fun B Hf O σ H E Q q => q v Hf H E (fun _ _ e => e) (h Hf)
theorem ed_int {i : Int} : ED (tC (.int i)) d i := ed_c fun _ => rfl
theorem ed_bl {b : Bool} : ED (tC (.bl b)) d b := ed_c fun _ => rfl
theorem ed_str {x : Str} : ED (tC (.str x)) d x := ed_c fun _ => rfl
theorem ed_non : ED (tC .non) d () := ed_c fun _ => rfl
theorem ed_none {α : Type} [Rep α] : ED (tC .non) d (none : Option α) := ed_c fun _ => rfl
theorem ed_some {α : Type} [Rep α] {a : α} (h : ED te d a) : ED te d (some a) := fun B Hf O σ H E Q q => h B Hf O σ H E Q fun v Hf' H' E' e r => q v Hf' H' E' e r
theorem ed_is {α : Type} [Rep α] {a b : α} (h : ED te d a) (e : a = b) : ED te d b := e ▸ h
theorem et_is {a b : Bool} (h : ET t d a) (e : a = b) : ET t d b := e ▸ h
/-- two values, one behind the other -/
theorem ed2 {α β : Type} [Rep α] [Rep β] {a : α} {b : β} (ha : ED ta d a) (hb : ED tb d b) {B : Base} {Hf H : Hp} {O : Nat → Hp} {σ : St} (E : Env B Hf O d σ H) {Q : V → V → Hp → Prop}
    (q : ∀ x y Hf' H', Env B Hf' O d σ H' → Ex Hf Hf' → rep Hf' x a → rep Hf' y b → Q x y H') : ta σ H fun x H1 => tb σ H1 fun y H2 => Q x y H2 :=
  ha B Hf O σ H E _ fun x Hf1 H1 E1 e1 r1 => hb B Hf1 O σ H1 E1 _ fun y Hf2 H2 E2 e2 r2 => q x y Hf2 H2 E2 (e1.trans e2) (Rep.mono e2 r1) r2
theorem ed_op {α β γ : Type} [Rep α] [Rep β] [Rep γ] {a : α} {b : β} {c : γ} {r : R2} (ha : ED ta d a) (hb : ED tb d b)
    (hr : ∀ (H Hf : Hp) (x y : V) (Q : VK), Ex Hf H → rep Hf x a → rep Hf y b → (∀ v, rep Hf v c → Q v H) → r x y H Q) : ED (tOp r ta tb) d c := fun B Hf O σ H E Q q =>
  ed2 ha hb E (Q := fun x y H' => r x y H' Q) fun x y Hf2 H2 E2 e2 r1 r2 => hr H2 Hf2 x y Q E2.hf r1 r2 fun v rv => q v Hf2 H2 E2 e2 rv
theorem ed_i0 {g : Int → Int → Int} {i j : Int} (ha : ED ta d i) (hb : ED tb d j) : ED (tOp (rI0 fun i j => .int (g i j)) ta tb) d (g i j) :=
  ed_op ha hb fun H Hf x y Q _ r1 r2 q => ⟨i, j, r1, r2, q _ rfl⟩
theorem ed_b0 {g : Int → Int → Bool} {i j : Int} (ha : ED ta d i) (hb : ED tb d j) : ED (tOp (rI0 fun i j => .bl (g i j)) ta tb) d (g i j) :=
  ed_op ha hb fun H Hf x y Q _ r1 r2 q => ⟨i, j, r1, r2, q _ rfl⟩
theorem ed_iC {C : Int → Int → Prop} {g : Int → Int → Int} {i j : Int} (ha : ED ta d i) (hb : ED tb d j) (hc : C i j) : ED (tOp (rI C fun i j => .int (g i j)) ta tb) d (g i j) :=
  ed_op ha hb fun H Hf x y Q _ r1 r2 q => ⟨i, j, r1, r2, hc, q _ rfl⟩
theorem ed_un {g : Int → Int} {i : Int} (ha : ED ta d i) : ED (tUn (rU fun i => .int (g i)) ta) d (g i) := fun B Hf O σ H E Q q =>
  ha B Hf O σ H E _ fun v Hf' H' E' e r => ⟨i, r, q _ Hf' H' E' e rfl⟩
/-! == and != of numbers, truths, texts, None -/
class Sc (α : Type) [Rep α] where
  toV : α → V
  is : ∀ {H : Hp} {v : V} {a : α}, rep H v a → v = toV a
  sc : ∀ a b : α, scal (toV a) (toV b) = true
  inj : ∀ a b : α, toV a = toV b → a = b
instance : Sc Int := ⟨V.int, fun h => h, fun _ _ => rfl, fun _ _ h => V.int.inj h⟩
instance : Sc Bool := ⟨V.bl, fun h => h, fun _ _ => rfl, fun _ _ h => V.bl.inj h⟩
instance : Sc Str := ⟨V.str, fun h => h, fun _ _ => rfl, fun _ _ h => V.str.inj h⟩
instance : Sc (Option Int) := ⟨fun o => match o with | none => .non | some i => .int i, fun {_ _ a} h => match a, h with | none, h => h | some _, h => h,
  fun a b => match a, b with | none, none => rfl | none, some _ => rfl | some _, none => rfl | some _, some _ => rfl,
  fun a b h => match a, b, h with | none, none, _ => rfl | some _, some _, h => congrArg some (V.int.inj h)⟩
theorem ed_eq {α : Type} [Rep α] [DecidableEq α] [s : Sc α] {a b : α} (ha : ED ta d a) (hb : ED tb d b) : ED (tOp rEq ta tb) d (decide (a = b)) :=
  ed_op ha hb fun H Hf x y Q _ r1 r2 q => by
    rw [s.is r1, s.is r2]
    refine ⟨s.sc a b, ?_⟩
    have e : decide (s.toV a = s.toV b) = decide (a = b) := by
      by_cases h : a = b
      · rw [h, decide_eq_true rfl, decide_eq_true rfl]
      · rw [decide_eq_false h, decide_eq_false (fun z => h (s.inj a b z))]
    rw [e]
    exact q _ rfl
theorem ed_ne {α : Type} [Rep α] [DecidableEq α] [s : Sc α] {a b : α} (ha : ED ta d a) (hb : ED tb d b) : ED (tOp rNe ta tb) d (!decide (a = b)) :=
  ed_op ha hb fun H Hf x y Q _ r1 r2 q => by
    rw [s.is r1, s.is r2]
    refine ⟨s.sc a b, ?_⟩
    have e : decide (s.toV a = s.toV b) = decide (a = b) := by
      by_cases h : a = b
      · rw [h, decide_eq_true rfl, decide_eq_true rfl]
      · rw [decide_eq_false h, decide_eq_false (fun z => h (s.inj a b z))]
    rw [e]
    exact q _ rfl
/-! what is never None -/
class NN (α : Type) [Rep α] where
  nn : ∀ {H : Hp} {v : V} {a : α}, rep H v a → v ≠ .non
instance : NN Int := ⟨fun h z => by rw [h] at z; cases z⟩
instance : NN Bool := ⟨fun h z => by rw [h] at z; cases z⟩
instance : NN Str := ⟨fun h z => by rw [h] at z; cases z⟩
instance {α β : Type} [Rep α] [Rep β] : NN (α × β) := ⟨fun ⟨p, _, _, h, _⟩ z => by rw [h] at z; cases z⟩
instance {α β γ : Type} [Rep α] [Rep β] [Rep γ] : NN (T3 α β γ) := ⟨fun ⟨p, _, _, _, h, _⟩ z => by rw [h] at z; cases z⟩
instance {α : Type} [Rep α] : NN (List α) := ⟨fun ⟨p, _, h, _⟩ z => by rw [h] at z; cases z⟩
theorem isNone_V {α : Type} [Rep α] [n : NN α] {H : Hp} {v : V} {o : Option α} (h : rep H v o) : decide (v = .non) = o.isNone := by
  cases o with
  | none => rw [show v = .non from h]; rfl
  | some a => exact decide_eq_false (n.nn (a := a) h)
theorem ed_isN {α : Type} [Rep α] [NN α] {o : Option α} (ha : ED ta d o) : ED (tOp (fun x y H Q => y = .non ∧ Q (.bl (decide (x = .non))) H) ta (tC .non)) d o.isNone :=
  ed_op (b := ()) ha ed_non fun H Hf x y Q _ r1 r2 q => ⟨r2, by rw [isNone_V r1]; exact q _ rfl⟩
theorem ed_notN {α : Type} [Rep α] [NN α] {o : Option α} (ha : ED ta d o) : ED (tOp (fun x y H Q => y = .non ∧ Q (.bl (!decide (x = .non))) H) ta (tC .non)) d (!o.isNone) :=
  ed_op (b := ()) ha ed_non fun H Hf x y Q _ r1 r2 q => ⟨r2, by rw [isNone_V r1]; exact q _ rfl⟩
/-! tests -/
theorem et_test {b : Bool} (h : ED te d b) : ET (tTest te) d b := fun B Hf O σ H E Q q => h B Hf O σ H E _ fun v Hf' H' E' e r => ⟨b, r, q Hf' H' E' e⟩
theorem et_B {b : Bool} (h : ED te d b) : ET (tB te) d b := fun B Hf O σ H E Q q => h B Hf O σ H E _ fun v Hf' H' E' e r => ⟨b, r, q Hf' H' E' e⟩
theorem et_not {b : Bool} (h : ET t d b) : ET (tNot t) d (!b) := fun B Hf O σ H E Q q => h B Hf O σ H E _ fun Hf' H' E' e => q Hf' H' E' e
theorem et_and {a b : Bool} (h1 : ET t d a) (h2 : a = true → ET u d b) : ET (tAnd t u) d (a && b) := fun B Hf O σ H E Q q => h1 B Hf O σ H E _ fun Hf1 H1 E1 e1 => by
  cases a with
  | true => exact h2 rfl B Hf1 O σ H1 E1 Q fun Hf2 H2 E2 e2 => q Hf2 H2 E2 (e1.trans e2)
  | false => exact q Hf1 H1 E1 e1
theorem et_or {a b : Bool} (h1 : ET t d a) (h2 : a = false → ET u d b) : ET (tOr t u) d (a || b) := fun B Hf O σ H E Q q => h1 B Hf O σ H E _ fun Hf1 H1 E1 e1 => by
  cases a with
  | true => exact q Hf1 H1 E1 e1
  | false => exact h2 rfl B Hf1 O σ H1 E1 Q fun Hf2 H2 E2 e2 => q Hf2 H2 E2 (e1.trans e2)
theorem ed_andV {a b : Bool} (h1 : ED ta d a) (h2 : a = true → ED tb d b) : ED (tAndV ta tb) d (a && b) := fun B Hf O σ H E Q q => h1 B Hf O σ H E _ fun v Hf1 H1 E1 e1 r => ⟨a, r, by
  cases a with
  | true => exact h2 rfl B Hf1 O σ H1 E1 Q fun v Hf2 H2 E2 e2 r2 => q v Hf2 H2 E2 (e1.trans e2) r2
  | false => exact q _ Hf1 H1 E1 e1 rfl⟩
theorem ed_orV {a b : Bool} (h1 : ED ta d a) (h2 : a = false → ED tb d b) : ED (tOrV ta tb) d (a || b) := fun B Hf O σ H E Q q => h1 B Hf O σ H E _ fun v Hf1 H1 E1 e1 r => ⟨a, r, by
  cases a with
  | true => exact q _ Hf1 H1 E1 e1 rfl
  | false => exact h2 rfl B Hf1 O σ H1 E1 Q fun v Hf2 H2 E2 e2 r2 => q v Hf2 H2 E2 (e1.trans e2) r2⟩
theorem ed_notV {a : Bool} (h1 : ED ta d a) : ED (tNotV ta) d (!a) := fun B Hf O σ H E Q q => h1 B Hf O σ H E _ fun v Hf1 H1 E1 e1 r => ⟨a, r, q _ Hf1 H1 E1 e1 rfl⟩
theorem ed_if {α : Type} [Rep α] {b : Bool} {x y : α} (h : ET t d b) (h1 : b = true → ED ta d x) (h2 : b = false → ED tb d y) : ED (tIf t ta tb) d (if b = true then x else y) := fun B Hf O σ H E Q q =>
  h B Hf O σ H E _ fun Hf1 H1 E1 e1 => by
    cases b with
    | true => exact h1 rfl B Hf1 O σ H1 E1 Q fun v Hf2 H2 E2 e2 r2 => q v Hf2 H2 E2 (e1.trans e2) r2
    | false => exact h2 rfl B Hf1 O σ H1 E1 Q fun v Hf2 H2 E2 e2 r2 => q v Hf2 H2 E2 (e1.trans e2) r2
theorem ed_chain {g g' : Int → Int → Bool} {i j k : Int} (ha : ED ta d i) (hb : ED tb d j) (hc : ED tc d k) :
    ED (tChain (rI0 fun i j => .bl (g i j)) (rI0 fun i j => .bl (g' i j)) ta tb tc) d (g i j && g' j k) := fun B Hf O σ H E Q q =>
  ed2 ha hb E (Q := fun x y H2 => (rI0 fun i j => .bl (g i j)) x y H2 fun z H3 => ∃ k, z = .bl k ∧ (if k = true then tc σ H3 fun w' H4 => (rI0 fun i j => .bl (g' i j)) y w' H4 Q else Q (.bl false) H3)) fun x y Hf2 H2 E2 e2 r1 r2 => ⟨i, j, r1, r2, g i j, rfl, by
    cases hg : g i j with
    | true =>
      rw [if_pos rfl]
      refine hc B Hf2 O σ H2 E2 _ fun w Hf3 H3 E3 e3 r3 => ⟨j, k, r2, r3, q _ Hf3 H3 E3 (e2.trans e3) ?_⟩
      rw [hg, Bool.true_and]
      rfl
    | false =>
      rw [if_neg Bool.false_ne_true]
      refine q _ Hf2 H2 E2 e2 ?_
      rw [hg, Bool.false_and]
      rfl⟩
/-! arguments -/
theorem ea_nil : EA tNil d [] := fun B Hf O σ H E Q q => q [] Hf H E (fun _ _ e => e) trivial
theorem ea_cons {α : Type} [Rep α] {a : α} {tr : TA} {ss : DE} (h : ED ta d a) (hr : EA tr d ss) : EA (tCons ta tr) d (.sh a :: ss) := fun B Hf O σ H E Q q =>
  h B Hf O σ H E _ fun v Hf1 H1 E1 e1 r1 => hr B Hf1 O σ H1 E1 _ fun vs Hf2 H2 E2 e2 r2 => q _ Hf2 H2 E2 (e1.trans e2) ⟨Rep.mono e2 r1, r2⟩
theorem eas_nil {α : Type} [Rep α] : EAs tNil d ([] : List α) := fun B Hf O σ H E Q q => q [] Hf H E (fun _ _ e => e) .nil
theorem eas_cons {α : Type} [Rep α] {a : α} {tr : TA} {as : List α} (h : ED ta d a) (hr : EAs tr d as) : EAs (tCons ta tr) d (a :: as) := fun B Hf O σ H E Q q =>
  h B Hf O σ H E _ fun v Hf1 H1 E1 e1 r1 => hr B Hf1 O σ H1 E1 _ fun vs Hf2 H2 E2 e2 r2 => q _ Hf2 H2 E2 (e1.trans e2) (.cons (Rep.mono e2 r1) r2)
theorem small (n : Nat) (h : n ≤ 1000000) : n ≤ sizeLine := by rw [sizeLine_eq]; omega
theorem small' (n : Nat) (h : n ≤ 1000000) : n < sizeLine := by rw [sizeLine_eq]; omega
theorem newRep {α : Type} [Rep α] {Hf : Hp} {p : Addr} {o : HO} {v : V} {a : α} (h : Hf p = none) (r : rep Hf v a) : rep (upd Hf p o) v a := Rep.mono (ex_upd h) r
theorem newReps {α : Type} [Rep α] {Hf : Hp} {p : Addr} {o : HO} {v : List V} {a : List α} (h : Hf p = none) (r : Paired (rep Hf) v a) : Paired (rep (upd Hf p o)) v a := paired_mono (ex_upd h) r
/-- a display of a tuple of two, of three -/
theorem ed_tup2 {α β : Type} [Rep α] [Rep β] {a : α} {b : β} (ha : ED ta d a) (hb : ED tb d b) : ED (tTup (tCons ta (tCons tb tNil))) d (a, b) := fun B Hf O σ H E Q q =>
  ed2 ha hb E (Q := fun x y H' => [x, y].length ≤ sizeLine ∧ ∀ p, H' p = none → Q (.ref p) (upd H' p (.tup [x, y]))) fun x y Hf2 H2 E2 e2 r1 r2 =>
    ⟨small 2 (by decide), fun p hp => q _ _ _ (E2.alloc hp) (e2.trans (ex_upd (E2.fz hp))) ⟨p, x, y, rfl, upd_same, newRep (E2.fz hp) r1, newRep (E2.fz hp) r2⟩⟩
theorem ed_tup3 {α β γ : Type} [Rep α] [Rep β] [Rep γ] {a : α} {b : β} {c : γ} (ha : ED ta d a) (hb : ED tb d b) (hc : ED tc d c) : ED (tTup (tCons ta (tCons tb (tCons tc tNil)))) d (T3.mk a b c) := fun B Hf O σ H E Q q =>
  ed2 ha hb E (Q := fun x y H' => tc σ H' fun z H3 => [x, y, z].length ≤ sizeLine ∧ ∀ p, H3 p = none → Q (.ref p) (upd H3 p (.tup [x, y, z]))) fun x y Hf2 H2 E2 e2 r1 r2 =>
    hc B Hf2 O σ H2 E2 _ fun z Hf3 H3 E3 e3 r3 =>
    ⟨small 3 (by decide), fun p hp => q _ _ _ (E3.alloc hp) ((e2.trans e3).trans (ex_upd (E3.fz hp))) ⟨p, x, y, z, rfl, upd_same, newRep (E3.fz hp) (Rep.mono e3 r1), newRep (E3.fz hp) (Rep.mono e3 r2), newRep (E3.fz hp) r3⟩⟩
theorem paired_len {α β : Type} {F : α → β → Prop} {xs : List α} {ys : List β} (h : Paired F xs ys) : xs.length = ys.length := Paired.length h
/-- a display of a list -/
theorem ed_lst {α : Type} [Rep α] {ts : TA} {as : List α} (h : EAs ts d as) (hl : as.length ≤ 1000 := by first | decide | simp) : ED (tLst ts) d as := fun B Hf O σ H E Q q =>
  h B Hf O σ H E _ fun vs Hf1 H1 E1 e1 r1 => ⟨small _ (by rw [paired_len r1]; omega), fun p hp => q _ _ _ (E1.alloc hp) (e1.trans (ex_upd (E1.fz hp))) ⟨p, vs, rfl, upd_same, newReps (E1.fz hp) r1⟩⟩
/-! one's own lists and dicts -/
def one (p : Addr) (o : HO) : Hp := fun q => if q = p then some o else none
theorem one_at {p : Addr} {o : HO} : one p o p = some o := if_pos rfl
theorem one_of {p q : Addr} {o u : HO} (h : one p o q = some u) : q = p ∧ u = o := by
  unfold one at h
  by_cases e : q = p
  · rw [if_pos e] at h
    exact ⟨e, (Option.some.inj h).symm⟩
  · rw [if_neg e] at h
    cases h
theorem one_some {p q : Addr} {o : HO} (h : one p o q ≠ none) : q = p := by
  unfold one at h
  by_cases e : q = p
  · exact e
  · rw [if_neg e] at h
    exact absurd rfl h
theorem newO_one {B : Base} {Hf H : Hp} {O : Nat → Hp} {d : DE} {σ : St} (E : Env B Hf O d σ H) {p : Addr} {o : HO} (hp : H p = none) : NewO B Hf O (one p o) (upd H p o) :=
  ⟨fun q u e => by obtain ⟨h1, h2⟩ := one_of e; rw [h1, h2, upd_same], fun q h => by rw [one_some h]; exact E.fz hp, fun q h => by rw [one_some h]; exact E.Fz hp, fun q h i => by rw [one_some h]; exact E.Oz hp i⟩
def olR {α : Type} [Rep α] (as : List α) : Res := ⟨fun Hf O v => ∃ p vs, v = .ref p ∧ O = one p (.lst vs) ∧ Paired (rep Hf) vs as, fun e ⟨p, vs, h1, h2, h3⟩ => ⟨p, vs, h1, h2, paired_mono e h3⟩⟩
def odR {β : Type} [Rep β] (m : List (Int × β)) : Res := ⟨fun Hf O v => ∃ p kvs, v = .ref p ∧ O = one p (.dK kvs) ∧ Paired (kvR Hf) kvs m, fun e ⟨p, vs, h1, h2, h3⟩ => ⟨p, vs, h1, h2, kvR_mono e h3⟩⟩
abbrev ol {α : Type} [Rep α] (as : List α) : Slot := .own (olR as)
abbrev od {β : Type} [Rep β] (m : List (Int × β)) : Slot := .own (odR m)
theorem eo_lst {α : Type} [Rep α] {ts : TA} {as : List α} (h : EAs ts d as) (hl : as.length ≤ 1000 := by first | decide | simp) : EO (tLst ts) d (olR as) := fun B Hf O σ H E Q q =>
  h B Hf O σ H E _ fun vs Hf1 H1 E1 e1 r1 => ⟨small _ (by rw [paired_len r1]; omega), fun p hp => q _ Hf1 _ (one p (.lst vs)) (E1.allocO hp) e1 (newO_one E1 hp) ⟨p, vs, rfl, rfl, r1⟩⟩
theorem eo_dict {β : Type} [Rep β] : EO tDNewK d (odR ([] : List (Int × β))) := fun B Hf O σ H E Q q => fun p hp => q _ Hf _ (one p (.dK [])) (E.allocO hp) (fun _ _ e => e) (newO_one E hp) ⟨p, [], rfl, rfl, .nil⟩
theorem ed_dict {β : Type} [Rep β] : ED tDNewK d (Dct.mk ([] : List (Int × β))) := fun B Hf O σ H E Q q => fun p hp => q _ _ _ (E.alloc hp) (ex_upd (E.fz hp)) ⟨p, [], rfl, upd_same, .nil⟩
/-- a list, a dict to be read, one's own or not -/
def ERL (te : TE) (d : DE) {α : Type} [Rep α] (as : List α) : Prop := ∀ B Hf O σ H, Env B Hf O d σ H → ∀ Q : VK,
  (∀ p vs Hf' H', Env B Hf' O d σ H' → Ex Hf Hf' → (∀ B2 Hf2 σ2 d2 H2, Env B2 Hf2 O d2 σ2 H2 → Ex Hf' Hf2 → H2 p = some (.lst vs) ∧ Paired (rep Hf2) vs as) → Q (.ref p) H') → te σ H Q
def ERD (te : TE) (d : DE) {β : Type} [Rep β] (m : List (Int × β)) : Prop := ∀ B Hf O σ H, Env B Hf O d σ H → ∀ Q : VK,
  (∀ p kvs Hf' H', Env B Hf' O d σ H' → Ex Hf Hf' → (∀ B2 Hf2 σ2 d2 H2, Env B2 Hf2 O d2 σ2 H2 → Ex Hf' Hf2 → H2 p = some (.dK kvs) ∧ Paired (kvR Hf2) kvs m) → Q (.ref p) H') → te σ H Q
theorem erl_sh {α : Type} [Rep α] {as : List α} (h : ED te d as) : ERL te d as := fun B Hf O σ H E Q q => h B Hf O σ H E Q fun v Hf' H' E' e ⟨p, vs, h1, h2, h3⟩ => by
  rw [h1]
  exact q p vs Hf' H' E' e fun B2 Hf2 σ2 d2 H2 E2 e2 => ⟨E2.hf _ _ (e2 _ _ h2), paired_mono e2 h3⟩
theorem erl_own {α : Type} [Rep α] {as : List α} {i : Nat} (h : d[i]? = some (ol as)) : ERL (tVar i) d as := fun B Hf O σ H E Q q => by
  obtain ⟨v, h1, p, vs, h2, h3, h4⟩ := E.getO h
  rw [h2] at h1
  exact ⟨.ref p, h1, q p vs Hf H E (fun _ _ e => e) fun B2 Hf2 σ2 d2 H2 E2 e2 => ⟨(E2.ow i p (.lst vs) (by rw [h3]; exact one_at)).1, paired_mono e2 h4⟩⟩
theorem erd_sh {β : Type} [Rep β] {m : List (Int × β)} (h : ED te d (Dct.mk m)) : ERD te d m := fun B Hf O σ H E Q q => h B Hf O σ H E Q fun v Hf' H' E' e ⟨p, vs, h1, h2, h3⟩ => by
  rw [h1]
  exact q p vs Hf' H' E' e fun B2 Hf2 σ2 d2 H2 E2 e2 => ⟨E2.hf _ _ (e2 _ _ h2), kvR_mono e2 h3⟩
theorem erd_own {β : Type} [Rep β] {m : List (Int × β)} {i : Nat} (h : d[i]? = some (od m)) : ERD (tVar i) d m := fun B Hf O σ H E Q q => by
  obtain ⟨v, h1, p, vs, h2, h3, h4⟩ := E.getO h
  rw [h2] at h1
  exact ⟨.ref p, h1, q p vs Hf H E (fun _ _ e => e) fun B2 Hf2 σ2 d2 H2 E2 e2 => ⟨(E2.ow i p (.dK vs) (by rw [h3]; exact one_at)).1, kvR_mono e2 h4⟩⟩
theorem ex_refl (H : Hp) : Ex H H := fun _ _ e => e
/-- a list, then a value -/
theorem erl2 {α β : Type} [Rep α] [Rep β] {as : List α} {b : β} (ha : ERL ta d as) (hb : ED tb d b) {B : Base} {Hf H : Hp} {O : Nat → Hp} {σ : St} (E : Env B Hf O d σ H) {Q : V → V → Hp → Prop}
    (q : ∀ p vs y Hf' H', Env B Hf' O d σ H' → Ex Hf Hf' → H' p = some (.lst vs) → Paired (rep Hf') vs as → rep Hf' y b → Q (.ref p) y H') : ta σ H fun x H1 => tb σ H1 fun y H2 => Q x y H2 :=
  ha B Hf O σ H E _ fun p vs Hf1 H1 E1 e1 s1 => hb B Hf1 O σ H1 E1 _ fun y Hf2 H2 E2 e2 r2 => q p vs y Hf2 H2 E2 (e1.trans e2) (s1 _ _ _ _ _ E2 e2).1 (s1 _ _ _ _ _ E2 e2).2 r2
theorem paired_get {α β : Type} {F : α → β → Prop} : ∀ {xs : List α} {ys : List β}, Paired F xs ys → ∀ {i : Nat} {y : β}, ys[i]? = some y → ∃ x, xs[i]? = some x ∧ F x y
  | _, _, .nil, i, x, h => by cases h
  | _, _, .cons r t, 0, x, h => by
    have e := Option.some.inj h
    subst e
    exact ⟨_, rfl, r⟩
  | _, _, .cons r t, i + 1, x, h => paired_get t h
theorem paired_at {α : Type} [Rep α] {Hf : Hp} {vs : List V} {as : List α} (h : Paired (rep Hf) vs as) {i : Int} {a : α} (e : atI as i = some a) : ∃ x, atI vs i = some x ∧ rep Hf x a := by
  have hl := paired_len h
  unfold atI at e ⊢
  rw [hl]
  cases q : ixN as.length i with
  | none => rw [q] at e; cases e
  | some j =>
    rw [q] at e
    exact paired_get h e
/-- xs[i] -/
theorem ed_ixL {α : Type} [Rep α] {as : List α} {i : Int} {a : α} (ha : ERL ta d as) (hb : ED tb d i) (h : atI as i = some a) : ED (tOp (rIxL K) ta tb) d a := fun B Hf O σ H E Q q =>
  erl2 ha hb E (Q := fun x y H' => rIxL K x y H' Q) fun p vs y Hf2 H2 E2 e2 hp hr hy => by
    obtain ⟨x, hx, rx⟩ := paired_at hr h
    exact ⟨p, vs, i, x, rfl, hy, .inl (.inl hp), hx, q x Hf2 H2 E2 e2 rx⟩
/-- t[0], t[1] of a pair, at a written place -/
theorem ed_t0 {α β : Type} [Rep α] [Rep β] {a : α × β} (ha : ED ta d a) : ED (tOp (rIxT K) ta (tC (.int 0))) d a.1 :=
  ed_op ha ed_int fun H Hf x y Q e ⟨p, x1, x2, h1, h2, h3, h4⟩ r2 q => ⟨p, [x1, x2], 0, x1, h1, r2, .inl (.inl (e _ _ h2)), rfl, q _ h3⟩
theorem ed_t1 {α β : Type} [Rep α] [Rep β] {a : α × β} (ha : ED ta d a) : ED (tOp (rIxT K) ta (tC (.int 1))) d a.2 :=
  ed_op ha ed_int fun H Hf x y Q e ⟨p, x1, x2, h1, h2, h3, h4⟩ r2 q => ⟨p, [x1, x2], 1, x2, h1, r2, .inl (.inl (e _ _ h2)), rfl, q _ h4⟩
/-- .. at a reckoned one (0 or 1) -/
theorem ed_t01 {α : Type} [Rep α] {a : α × α} {i : Int} (ha : ED ta d a) (hb : ED tb d i) (hi : i = 0 ∨ i = 1) : ED (tOp (rIxT K) ta tb) d (if i = 0 then a.1 else a.2) :=
  ed_op ha hb fun H Hf x y Q e ⟨p, x1, x2, h1, h2, h3, h4⟩ r2 q => by
    rcases hi with rfl | rfl
    · exact ⟨p, [x1, x2], 0, x1, h1, r2, .inl (.inl (e _ _ h2)), rfl, q _ h3⟩
    · exact ⟨p, [x1, x2], 1, x2, h1, r2, .inl (.inl (e _ _ h2)), rfl, q _ h4⟩
theorem ed_3a {α β γ : Type} [Rep α] [Rep β] [Rep γ] {a : T3 α β γ} (ha : ED ta d a) : ED (tOp (rIxT K) ta (tC (.int 0))) d a.a :=
  ed_op ha ed_int fun H Hf x y Q e ⟨p, x1, x2, x3, h1, h2, h3, h4, h5⟩ r2 q => ⟨p, [x1, x2, x3], 0, x1, h1, r2, .inl (.inl (e _ _ h2)), rfl, q _ h3⟩
theorem ed_3b {α β γ : Type} [Rep α] [Rep β] [Rep γ] {a : T3 α β γ} (ha : ED ta d a) : ED (tOp (rIxT K) ta (tC (.int 1))) d a.b :=
  ed_op ha ed_int fun H Hf x y Q e ⟨p, x1, x2, x3, h1, h2, h3, h4, h5⟩ r2 q => ⟨p, [x1, x2, x3], 1, x2, h1, r2, .inl (.inl (e _ _ h2)), rfl, q _ h4⟩
theorem ed_3c {α β γ : Type} [Rep α] [Rep β] [Rep γ] {a : T3 α β γ} (ha : ED ta d a) : ED (tOp (rIxT K) ta (tC (.int 2))) d a.c :=
  ed_op ha ed_int fun H Hf x y Q e ⟨p, x1, x2, x3, h1, h2, h3, h4, h5⟩ r2 q => ⟨p, [x1, x2, x3], 2, x3, h1, r2, .inl (.inl (e _ _ h2)), rfl, q _ h5⟩
/-- len -/
theorem ed_len {α : Type} [Rep α] {as : List α} (ha : ERL ta d as) : ED (tCB (fun xs H Q => ∃ p ys, xs = [.ref p] ∧ (SqL K H p ys ∨ SqT K H p ys) ∧ Q (.int ys.length) H) (tCons ta tNil)) d (as.length : Int) := fun B Hf O σ H E Q q =>
  ha B Hf O σ H E _ fun p vs Hf1 H1 E1 e1 s1 => by
    obtain ⟨h1, h2⟩ := s1 _ _ _ _ _ E1 (ex_refl _)
    exact ⟨p, vs, rfl, .inl (.inl (.inl h1)), q _ Hf1 H1 E1 e1 (by rw [paired_len h2]; rfl)⟩
theorem ed_lenT2 {α β : Type} [Rep α] [Rep β] {a : α × β} (ha : ED ta d a) : ED (tCB (fun xs H Q => ∃ p ys, xs = [.ref p] ∧ (SqL K H p ys ∨ SqT K H p ys) ∧ Q (.int ys.length) H) (tCons ta tNil)) d (2 : Int) := fun B Hf O σ H E Q q =>
  ha B Hf O σ H E _ fun v Hf1 H1 E1 e1 ⟨p, x, y, h1, h2, h3, h4⟩ => ⟨p, [x, y], by rw [h1], .inr (.inl (.inl (E1.hf _ _ h2))), q _ Hf1 H1 E1 e1 rfl⟩
theorem ed_lenT3 {α β γ : Type} [Rep α] [Rep β] [Rep γ] {a : T3 α β γ} (ha : ED ta d a) : ED (tCB (fun xs H Q => ∃ p ys, xs = [.ref p] ∧ (SqL K H p ys ∨ SqT K H p ys) ∧ Q (.int ys.length) H) (tCons ta tNil)) d (3 : Int) := fun B Hf O σ H E Q q =>
  ha B Hf O σ H E _ fun v Hf1 H1 E1 e1 ⟨p, x, y, z, h1, h2, _⟩ => ⟨p, [x, y, z], by rw [h1], .inr (.inl (.inl (E1.hf _ _ h2))), q _ Hf1 H1 E1 e1 rfl⟩
theorem ed_lenS {ns : Scr K} (ha : ED ta d ns) : ED (tCB (fun xs H Q => ∃ p ys, xs = [.ref p] ∧ (SqL K H p ys ∨ SqT K H p ys) ∧ Q (.int ys.length) H) (tCons ta tNil)) d (ns.ns.length : Int) := fun B Hf O σ H E Q q =>
  ha B Hf O σ H E _ fun v Hf1 H1 E1 e1 ⟨p, h1, h2⟩ => ⟨p, _, by rw [h1], .inl (Evl.ex_l E1.hf h2), q _ Hf1 H1 E1 e1 (by rw [List.length_map]; rfl)⟩
theorem ed_lenD {β : Type} [Rep β] {m : List (Int × β)} (ha : ERD ta d m) : ED (tCB (fun xs H Q => ∃ a kvs, xs = [V.ref a] ∧ H a = some (.dK kvs) ∧ Q (.int kvs.length) H) (tCons ta tNil)) d (m.length : Int) := fun B Hf O σ H E Q q =>
  ha B Hf O σ H E _ fun p vs Hf1 H1 E1 e1 s1 => by
    obtain ⟨h1, h2⟩ := s1 _ _ _ _ _ E1 (ex_refl _)
    exact ⟨p, vs, rfl, h1, q _ Hf1 H1 E1 e1 (by rw [paired_len h2]; rfl)⟩
/-- script[i] -/
theorem ed_ixS {ns : Scr K} {i a : Int} (ha : ED ta d ns) (hb : ED tb d i) (h : atI ns.ns i = some a) : ED (tOp (rIxL K) ta tb) d a :=
  ed_op ha hb fun H Hf x y Q e ⟨p, h1, h2⟩ r2 q => by
    have hx : atI (ns.ns.map V.int) i = some (.int a) := by
      unfold atI at h ⊢
      rw [List.length_map]
      cases w : ixN ns.ns.length i with
      | none => rw [w] at h; cases h
      | some j =>
        rw [w] at h
        show (ns.ns.map V.int)[j]? = some (.int a)
        have h : ns.ns[j]? = some a := h
        rw [List.getElem?_map, h]
        rfl
    exact ⟨p, _, i, _, h1, r2, Evl.ex_l e h2, hx, q _ rfl⟩
/-! slices -/
def EOp (to : TO) (d : DE) (o : Option Int) : Prop := ∀ B Hf O σ H, Env B Hf O d σ H → ∀ Q : Option Int → Hp → Prop, (∀ Hf' H', Env B Hf' O d σ H' → Ex Hf Hf' → Q o H') → to σ H Q
theorem eo_no : EOp tNoPart d none := fun B Hf O σ H E Q q => q Hf H E (ex_refl _)
theorem eo_so {i : Int} (h : ED te d i) : EOp (tPart te) d (some i) := fun B Hf O σ H E Q q => h B Hf O σ H E _ fun v Hf' H' E' e r => ⟨i, r, q Hf' H' E' e⟩
def cutA {α : Type} (xs : List α) (lo hi : Option Int) : List α := (xs.drop (HT.sIx xs.length 0 lo)).take (HT.sIx xs.length xs.length hi - HT.sIx xs.length 0 lo)
theorem paired_drop {α β : Type} {F : α → β → Prop} : ∀ (n : Nat) {xs : List α} {ys : List β}, Paired F xs ys → Paired F (xs.drop n) (ys.drop n)
  | 0, _, _, h => h
  | _ + 1, _, _, .nil => .nil
  | n + 1, _, _, .cons _ t => paired_drop n t
theorem paired_take {α β : Type} {F : α → β → Prop} : ∀ (n : Nat) {xs : List α} {ys : List β}, Paired F xs ys → Paired F (xs.take n) (ys.take n)
  | 0, _, _, _ => .nil
  | _ + 1, _, _, .nil => .nil
  | n + 1, _, _, .cons r t => .cons r (paired_take n t)
theorem paired_cut {α : Type} [Rep α] {Hf : Hp} {vs : List V} {as : List α} (h : Paired (rep Hf) vs as) (lo hi : Option Int) : Paired (rep Hf) (cutV vs lo hi) (cutA as lo hi) := by
  unfold cutV cutA
  rw [paired_len h]
  exact paired_take _ (paired_drop _ h)
theorem ed_sl {α : Type} [Rep α] {tl th : TO} {as : List α} {lo hi : Option Int} (ha : ERL ta d as) (h1 : EOp tl d lo) (h2 : EOp th d hi) : ED (tSl (rSlL K) ta tl th) d (cutA as lo hi) := fun B Hf O σ H E Q q =>
  ha B Hf O σ H E _ fun p vs Hf1 H1 E1 e1 s1 => h1 B Hf1 O σ H1 E1 _ fun Hf2 H2 E2 e2 => h2 B Hf2 O σ H2 E2 _ fun Hf3 H3 E3 e3 => by
    obtain ⟨g1, g2⟩ := s1 _ _ _ _ _ E3 (e2.trans e3)
    exact ⟨p, vs, rfl, .inl (.inl g1), fun r hr => q _ _ _ (E3.alloc hr) (((e1.trans e2).trans e3).trans (ex_upd (E3.fz hr))) ⟨r, _, rfl, upd_same, newReps (E3.fz hr) (paired_cut g2 lo hi)⟩⟩
theorem vals_paired : ∀ (Hf : Hp) (ns : List Int), Paired (rep Hf) (ns.map V.int) ns
  | _, [] => .nil
  | Hf, n :: ns => .cons rfl (vals_paired Hf ns)
theorem cutV_map (ns : List Int) (lo hi : Option Int) : cutV (ns.map V.int) lo hi = (cutA ns lo hi).map V.int := by
  unfold cutV cutA
  rw [List.length_map, List.map_take, List.map_drop]
theorem ed_slS {tl th : TO} {ns : Scr K} {lo hi : Option Int} (ha : ED ta d ns) (h1 : EOp tl d lo) (h2 : EOp th d hi) : ED (tSl (rSlL K) ta tl th) d (cutA ns.ns lo hi) := fun B Hf O σ H E Q q =>
  ha B Hf O σ H E _ fun v Hf1 H1 E1 e1 ⟨p, r1, r2⟩ => h1 B Hf1 O σ H1 E1 _ fun Hf2 H2 E2 e2 => h2 B Hf2 O σ H2 E2 _ fun Hf3 H3 E3 e3 => by
    refine ⟨p, _, r1, Evl.ex_l E3.hf (Evl.ex_l (e2.trans e3) r2), fun r hr => q _ _ _ (E3.alloc hr) (((e1.trans e2).trans e3).trans (ex_upd (E3.fz hr))) ⟨r, _, rfl, upd_same, ?_⟩⟩
    rw [cutV_map]
    exact vals_paired _ _
/-- xs + ys -/
theorem paired_app {α β : Type} {F : α → β → Prop} : ∀ {xs : List α} {ys : List β} {xs' : List α} {ys' : List β}, Paired F xs ys → Paired F xs' ys' → Paired F (xs ++ xs') (ys ++ ys')
  | _, _, _, _, .nil, h => h
  | _, _, _, _, .cons r t, h => .cons r (paired_app t h)
theorem erl2' {α β : Type} [Rep α] [Rep β] {as : List α} {bs : List β} (ha : ERL ta d as) (hb : ERL tb d bs) {B : Base} {Hf H : Hp} {O : Nat → Hp} {σ : St} (E : Env B Hf O d σ H) {Q : V → V → Hp → Prop}
    (q : ∀ p vs r ws Hf' H', Env B Hf' O d σ H' → Ex Hf Hf' → H' p = some (.lst vs) → Paired (rep Hf') vs as → H' r = some (.lst ws) → Paired (rep Hf') ws bs → Q (.ref p) (.ref r) H') : ta σ H fun x H1 => tb σ H1 fun y H2 => Q x y H2 :=
  ha B Hf O σ H E _ fun p vs Hf1 H1 E1 e1 s1 => hb B Hf1 O σ H1 E1 _ fun r ws Hf2 H2 E2 e2 s2 => q p vs r ws Hf2 H2 E2 (e1.trans e2) (s1 _ _ _ _ _ E2 e2).1 (s1 _ _ _ _ _ E2 e2).2 (s2 _ _ _ _ _ E2 (ex_refl _)).1 (s2 _ _ _ _ _ E2 (ex_refl _)).2
theorem ed_cat {α : Type} [Rep α] {as bs : List α} (ha : ERL ta d as) (hb : ERL tb d bs) (hl : as.length + bs.length ≤ 1000000) : ED (tOp rCat ta tb) d (as ++ bs) := fun B Hf O σ H E Q q =>
  erl2' ha hb E (Q := fun x y H' => rCat x y H' Q) fun p vs r ws Hf2 H2 E2 e2 hp hr hp2 hr2 =>
    ⟨p, r, vs, ws, rfl, rfl, hp, hp2, small _ (by rw [paired_len hr, paired_len hr2]; exact hl), fun l hn => q _ _ _ (E2.alloc hn) (e2.trans (ex_upd (E2.fz hn))) ⟨l, _, rfl, upd_same, newReps (E2.fz hn) (paired_app hr hr2)⟩⟩
/-- list(xs) -/
theorem ed_list {α : Type} [Rep α] {as : List α} (ha : ERL ta d as) : ED (tCB (fun xs H Q => ∃ p ys, xs = [.ref p] ∧ (SqL K H p ys ∨ SqT K H p ys) ∧ ∀ l, H l = none → Q (.ref l) (upd H l (.lst ys))) (tCons ta tNil)) d as := fun B Hf O σ H E Q q =>
  ha B Hf O σ H E _ fun p vs Hf1 H1 E1 e1 s1 => by
    obtain ⟨h1, h2⟩ := s1 _ _ _ _ _ E1 (ex_refl _)
    exact ⟨p, vs, rfl, .inl (.inl (.inl h1)), fun l hn => q _ _ _ (E1.alloc hn) (e1.trans (ex_upd (E1.fz hn))) ⟨l, _, rfl, upd_same, newReps (E1.fz hn) h2⟩⟩
theorem eo_list {α : Type} [Rep α] {as : List α} (ha : ERL ta d as) : EO (tCB (fun xs H Q => ∃ p ys, xs = [.ref p] ∧ (SqL K H p ys ∨ SqT K H p ys) ∧ ∀ l, H l = none → Q (.ref l) (upd H l (.lst ys))) (tCons ta tNil)) d (olR as) := fun B Hf O σ H E Q q =>
  ha B Hf O σ H E _ fun p vs Hf1 H1 E1 e1 s1 => by
    obtain ⟨h1, h2⟩ := s1 _ _ _ _ _ E1 (ex_refl _)
    exact ⟨p, vs, rfl, .inl (.inl (.inl h1)), fun l hn => q _ Hf1 _ (one l (.lst vs)) (E1.allocO hn) e1 (newO_one E1 hn) ⟨l, vs, rfl, rfl, h2⟩⟩
/-- sum, min, max of two, int of a truth -/
theorem map_of {Hf : Hp} : ∀ {vs : List V} {ns : List Int}, Paired (rep Hf) vs ns → vs = ns.map V.int
  | _, _, .nil => rfl
  | _, _, .cons r t => by rw [List.map_cons, ← map_of t]; exact congrArg (· :: _) r
theorem map_ofB {Hf : Hp} : ∀ {vs : List V} {ns : List Bool}, Paired (rep Hf) vs ns → vs = ns.map V.bl
  | _, _, .nil => rfl
  | _, _, .cons r t => by rw [List.map_cons, ← map_ofB t]; exact congrArg (· :: _) r
theorem ed_sum {ns : List Int} (ha : ERL ta d ns) : ED (tCB (rSum K) (tCons ta tNil)) d ns.sum := fun B Hf O σ H E Q q =>
  ha B Hf O σ H E _ fun p vs Hf1 H1 E1 e1 s1 => by
    obtain ⟨h1, h2⟩ := s1 _ _ _ _ _ E1 (ex_refl _)
    rw [map_of h2] at h1
    exact ⟨p, ns, rfl, .inl (.inl h1), q _ Hf1 H1 E1 e1 rfl⟩
theorem ed_max2 {i j : Int} (ha : ED ta d i) (hb : ED tb d j) : ED (tCB (fun xs H Q => ∃ i j, xs = [.int i, .int j] ∧ Q (.int (if j > i then j else i)) H) (tCons ta (tCons tb tNil))) d (if j > i then j else i) := fun B Hf O σ H E Q q =>
  ed2 ha hb E (Q := fun x y H' => ∃ i j, [x, y] = [.int i, .int j] ∧ Q (.int (if j > i then j else i)) H') fun x y Hf2 H2 E2 e2 r1 r2 => ⟨i, j, by rw [show x = .int i from r1, show y = .int j from r2], q _ Hf2 H2 E2 e2 rfl⟩
theorem ed_min2 {i j : Int} (ha : ED ta d i) (hb : ED tb d j) : ED (tCB (fun xs H Q => ∃ i j, xs = [.int i, .int j] ∧ Q (.int (if j < i then j else i)) H) (tCons ta (tCons tb tNil))) d (if j < i then j else i) := fun B Hf O σ H E Q q =>
  ed2 ha hb E (Q := fun x y H' => ∃ i j, [x, y] = [.int i, .int j] ∧ Q (.int (if j < i then j else i)) H') fun x y Hf2 H2 E2 e2 r1 r2 => ⟨i, j, by rw [show x = .int i from r1, show y = .int j from r2], q _ Hf2 H2 E2 e2 rfl⟩
def b2i (b : Bool) : Int := if b then 1 else 0
theorem ed_intB {b : Bool} (ha : ED ta d b) : ED (tCB (fun xs H Q => (∃ i, xs = [.int i] ∧ Q (.int i) H) ∨ ∃ k, xs = [.bl k] ∧ Q (.int (if k then 1 else 0)) H) (tCons ta tNil)) d (b2i b) := fun B Hf O σ H E Q q =>
  ha B Hf O σ H E _ fun v Hf1 H1 E1 e1 r => .inr ⟨b, by rw [show v = .bl b from r], q _ Hf1 H1 E1 e1 rfl⟩
/-- [x] * n -/
theorem paired_rep {α : Type} [Rep α] {Hf : Hp} {vs : List V} {as : List α} (h : Paired (rep Hf) vs as) : ∀ n : Nat, Paired (rep Hf) (List.replicate n vs).flatten (List.replicate n as).flatten
  | 0 => .nil
  | n + 1 => by
    rw [List.replicate_succ, List.replicate_succ, List.flatten_cons, List.flatten_cons]
    exact paired_app h (paired_rep h n)
theorem eo_rep {α : Type} [Rep α] {as : List α} {k : Int} (ha : ERL ta d as) (hb : ED tb d k) (h0 : 0 ≤ k) (hk : k ≤ 100000) (hl : as.length * k.toNat ≤ 1000000) : EO (tOp rRep ta tb) d (olR (List.replicate k.toNat as).flatten) := fun B Hf O σ H E Q q =>
  erl2 ha hb E (Q := fun x y H' => rRep x y H' Q) fun p vs y Hf2 H2 E2 e2 hp hr hy =>
    ⟨p, k, vs, rfl, hy, hp, by omega, by omega, small _ (by rw [paired_len hr]; exact hl), fun l hn => q _ Hf2 _ (one l _) (E2.allocO hn) e2 (newO_one E2 hn) ⟨l, _, rfl, rfl, paired_rep hr _⟩⟩
/-- x in xs, numbers -/
theorem inV_ints (i : Int) : ∀ ns : List Int, inV (.int i) (ns.map V.int) = decide (i ∈ ns)
  | [] => rfl
  | n :: ns => by
    have ih := inV_ints i ns
    unfold inV at ih ⊢
    rw [List.map_cons, List.any_cons, ih]
    show (decide (n = i) || decide (i ∈ ns)) = decide (i ∈ n :: ns)
    by_cases e : n = i
    · simp [e]
    · have e' : ¬ i = n := fun z => e z.symm
      simp [e, e']
theorem flat_ints : ∀ ns : List Int, (ns.map V.int).all flatV = true
  | [] => rfl
  | n :: ns => by
    rw [List.map_cons, List.all_cons, flat_ints ns]
    rfl
theorem ed_in {ns : List Int} {i : Int} (ha : ED ta d i) (hb : ERL tb d ns) : ED (tOp (rIn K false) ta tb) d (decide (i ∈ ns)) := fun B Hf O σ H E Q q =>
  ha B Hf O σ H E _ fun x Hf1 H1 E1 e1 r1 => hb B Hf1 O σ H1 E1 _ fun p vs Hf2 H2 E2 e2 s2 => by
    obtain ⟨h1, h2⟩ := s2 _ _ _ _ _ E2 (ex_refl _)
    rw [map_of h2] at h1
    rw [show x = .int i from r1]
    refine ⟨p, _, rfl, .inl (.inl (.inl h1)), rfl, flat_ints ns, ?_⟩
    show Q (.bl (inV (.int i) (ns.map V.int))) H2
    rw [inV_ints]
    exact q _ Hf2 H2 E2 (e1.trans e2) rfl
theorem ed_notin {ns : List Int} {i : Int} (ha : ED ta d i) (hb : ERL tb d ns) : ED (tOp (rIn K true) ta tb) d (!decide (i ∈ ns)) := fun B Hf O σ H E Q q =>
  ha B Hf O σ H E _ fun x Hf1 H1 E1 e1 r1 => hb B Hf1 O σ H1 E1 _ fun p vs Hf2 H2 E2 e2 s2 => by
    obtain ⟨h1, h2⟩ := s2 _ _ _ _ _ E2 (ex_refl _)
    rw [map_of h2] at h1
    rw [show x = .int i from r1]
    refine ⟨p, _, rfl, .inl (.inl (.inl h1)), rfl, flat_ints ns, ?_⟩
    show Q (.bl (!inV (.int i) (ns.map V.int))) H2
    rw [inV_ints]
    exact q _ Hf2 H2 E2 (e1.trans e2) rfl
/-! dicts -/
section
variable {β : Type}
def dget (m : List (Int × β)) (k : Int) : Option β := (m.find? fun p => decide (p.1 = k)).map (·.2)
def dput (m : List (Int × β)) (k : Int) (v : β) : List (Int × β) := if (m.any fun p => decide (p.1 = k)) = true then m.map (fun p => if p.1 = k then (p.1, v) else p) else m ++ [(k, v)]
end
theorem val_rel {β : Type} [Rep β] {Hf : Hp} {k : Int} : ∀ {kvs : List (Key × V)} {m : List (Int × β)}, Paired (kvR Hf) kvs m → (∀ b, dget m k = some b → ∃ v, valV kvs (.inl k) = some v ∧ rep Hf v b) ∧ (dget m k = none → valV kvs (.inl k) = none)
  | _, _, .nil => ⟨fun b h => (by cases h), fun _ => rfl⟩
  | _, _, .cons (a := p) (b := q) (l₁ := l1) (l₂ := m2) r t => by
    have ih := val_rel (k := k) t
    by_cases e : q.1 = k
    · have e' : p.1 = .inl k := by rw [r.1, e]
      refine ⟨fun b h => ?_, fun h => ?_⟩
      · unfold dget at h
        rw [List.find?_cons, decide_eq_true e] at h
        have hb := Option.some.inj h
        exact ⟨p.2, valV_pos e', by rw [← hb]; exact r.2⟩
      · unfold dget at h
        rw [List.find?_cons, decide_eq_true e] at h
        cases h
    · have e' : ¬ p.1 = .inl k := fun z => e (Sum.inl.inj (r.1.symm.trans z))
      have g : dget (q :: m2) k = dget m2 k := by
        unfold dget
        rw [List.find?_cons, decide_eq_false e]
      rw [valV_neg e', g]
      exact ih
theorem put_rel {β : Type} [Rep β] {Hf : Hp} {k : Int} {v : V} {b : β} (hv : rep Hf v b) {kvs : List (Key × V)} {m : List (Int × β)} (h : Paired (kvR Hf) kvs m) : Paired (kvR Hf) (putK kvs (.inl k) v) (dput m k b) := by
  have anyE : ∀ {kvs : List (Key × V)} {m : List (Int × β)}, Paired (kvR Hf) kvs m → (kvs.any fun kv => decide (kv.1 = (Sum.inl k : Key))) = (m.any fun p => decide (p.1 = k)) := by
    intro kvs m h
    induction h with
    | nil => rfl
    | cons r t ih =>
      rw [List.any_cons, List.any_cons, ih, r.1, key_ll]
      rfl
  have mapE : ∀ {kvs : List (Key × V)} {m : List (Int × β)}, Paired (kvR Hf) kvs m → Paired (kvR Hf) (kvs.map fun kv => if kv.1 = (Sum.inl k : Key) then (kv.1, v) else kv) (m.map fun p => if p.1 = k then (p.1, b) else p) := by
    intro kvs m h
    induction h with
    | nil => exact .nil
    | cons r t ih =>
      rename_i a c l1 l2
      refine .cons ?_ ih
      show kvR Hf (if a.1 = Sum.inl k then (a.1, v) else a) (if c.1 = k then (c.1, b) else c)
      by_cases e : c.1 = k
      · have e' : a.1 = Sum.inl k := by rw [r.1, e]
        rw [if_pos e, if_pos e']
        exact ⟨r.1, hv⟩
      · have e' : ¬ a.1 = Sum.inl k := fun z => e (Sum.inl.inj (r.1.symm.trans z))
        rw [if_neg e, if_neg e']
        exact r
  unfold putK dput
  rw [anyE h]
  by_cases c : (m.any fun p => decide (p.1 = k)) = true
  · rw [if_pos c, if_pos c]
    exact mapE h
  · rw [if_neg c, if_neg c]
    exact paired_app h (.cons ⟨rfl, hv⟩ .nil)
/-- d[k] -/
theorem ed_dget {β : Type} [Rep β] {m : List (Int × β)} {k : Int} {b : β} (ha : ERD ta d m) (hb : ED tb d k) (h : dget m k = some b) : ED (tDGet ta tb) d b := fun B Hf O σ H E Q q =>
  ha B Hf O σ H E _ fun p kvs Hf1 H1 E1 e1 s1 => hb B Hf1 O σ H1 E1 _ fun y Hf2 H2 E2 e2 r2 => by
    obtain ⟨h1, h2⟩ := s1 _ _ _ _ _ E2 e2
    obtain ⟨v, h3, h4⟩ := (val_rel h2).1 b h
    rw [show y = .int k from r2]
    exact ⟨p, v, rfl, .inl ⟨kvs, .inl k, .inl h1, rfl, h3.symm⟩, q v Hf2 H2 E2 (e1.trans e2) h4⟩
/-- d.get(k, x) -/
theorem ed_dget2 {β : Type} [Rep β] {m : List (Int × β)} {k : Int} {b : β} (ha : ERD ta d m) (hb : ED tb d k) (hc : ED tc d b) : ED (tDGet2 ta tb tc) d ((dget m k).getD b) := fun B Hf O σ H E Q q =>
  ha B Hf O σ H E _ fun p kvs Hf1 H1 E1 e1 s1 => ⟨p, rfl, .inl ⟨kvs, .inl (s1 _ _ _ _ _ E1 (ex_refl _)).1⟩, hb B Hf1 O σ H1 E1 _ fun y Hf2 H2 E2 e2 r2 => hc B Hf2 O σ H2 E2 _ fun z Hf3 H3 E3 e3 r3 => by
    obtain ⟨h1, h2⟩ := s1 _ _ _ _ _ E3 (e2.trans e3)
    rw [show y = .int k from r2]
    refine ⟨valV kvs (.inl k), .inl ⟨kvs, .inl k, .inl h1, rfl, rfl⟩, ?_⟩
    cases w : dget m k with
    | none =>
      rw [(val_rel h2).2 w]
      exact q z Hf3 H3 E3 ((e1.trans e2).trans e3) (by rw [w]; exact r3)
    | some b' =>
      obtain ⟨v, h3, h4⟩ := (val_rel h2).1 b' w
      rw [h3]
      exact q v Hf3 H3 E3 ((e1.trans e2).trans e3) (by rw [w]; exact h4)⟩
theorem ed_din {β : Type} [Rep β] {m : List (Int × β)} {k : Int} (hb : ED tb d k) (ha : ERD ta d m) : ED (tDIn tb ta) d (dget m k).isSome := fun B Hf O σ H E Q q =>
  hb B Hf O σ H E _ fun y Hf1 H1 E1 e1 r1 => ha B Hf1 O σ H1 E1 _ fun p kvs Hf2 H2 E2 e2 s2 => by
    obtain ⟨h1, h2⟩ := s2 _ _ _ _ _ E2 (ex_refl _)
    rw [show y = .int k from r1]
    refine ⟨p, valV kvs (.inl k), rfl, .inl ⟨kvs, .inl k, .inl h1, rfl, rfl⟩, q _ Hf2 H2 E2 (e1.trans e2) ?_⟩
    cases w : dget m k with
    | none => rw [(val_rel h2).2 w]; rfl
    | some b' =>
      obtain ⟨v, h3, h4⟩ := (val_rel h2).1 b' w
      rw [h3]
      rfl
theorem ed_dnotin {β : Type} [Rep β] {m : List (Int × β)} {k : Int} (hb : ED tb d k) (ha : ERD ta d m) : ED (tDNotIn tb ta) d (!(dget m k).isSome) := fun B Hf O σ H E Q q =>
  hb B Hf O σ H E _ fun y Hf1 H1 E1 e1 r1 => ha B Hf1 O σ H1 E1 _ fun p kvs Hf2 H2 E2 e2 s2 => by
    obtain ⟨h1, h2⟩ := s2 _ _ _ _ _ E2 (ex_refl _)
    rw [show y = .int k from r1]
    refine ⟨p, valV kvs (.inl k), rfl, .inl ⟨kvs, .inl k, .inl h1, rfl, rfl⟩, q _ Hf2 H2 E2 (e1.trans e2) ?_⟩
    cases w : dget m k with
    | none => rw [(val_rel h2).2 w]; rfl
    | some b' =>
      obtain ⟨v, h3, h4⟩ := (val_rel h2).1 b' w
      rw [h3]
      rfl
end
end TC
namespace TC
open PySem PySem.Spec L2
open Evl (Ex)
section
variable {K : PySem.W.Frag} {ta tb tc te tl : TE} {d : DE} {t u : TT} {P : Post} {s1 s2 ts tb' : TS}
/-! ### targets -/
theorem gd_name {α : Type} [Rep α] {a : α} {i : Nat} {vs : List Nat} (h : i ∈ vs) : GD (gName i) vs d a (d.set i (.sh a)) := fun B Hf O σ H v E r Q q =>
  q (σ.set i (some v)) (E.setS r) (fun k hk => List.getElem?_set_ne (fun z => hk (by rw [← z]; exact h))) (List.length_set)
theorem gd_t2 {α β : Type} [Rep α] [Rep β] {a : α × β} {g1 g2 : TG} {vs : List Nat} {d1 d2 : DE} (h1 : GD g1 vs d a.1 d1) (h2 : GD g2 vs d1 a.2 d2) : GD (gTup K 2 (gCons g1 (gCons g2 gNil))) vs d a d2 :=
  fun B Hf O σ H v E ⟨p, x, y, r1, r2, r3, r4⟩ Q q => ⟨p, [x, y], r1, .inl (.inl (E.hf _ _ r2)), rfl, x, [y], rfl, h1 B Hf O σ H x E r3 _ fun σ1 E1 k1 l1 => ⟨y, [], rfl, h2 B Hf O σ1 H y E1 r4 _ fun σ2 E2 k2 l2 => ⟨rfl, q σ2 E2 (fun k hk => (k2 k hk).trans (k1 k hk)) (l2.trans l1)⟩⟩⟩
theorem gd_t3 {α β γ : Type} [Rep α] [Rep β] [Rep γ] {a : T3 α β γ} {g1 g2 g3 : TG} {vs : List Nat} {d1 d2 d3 : DE} (h1 : GD g1 vs d a.a d1) (h2 : GD g2 vs d1 a.b d2) (h3 : GD g3 vs d2 a.c d3) : GD (gTup K 3 (gCons g1 (gCons g2 (gCons g3 gNil)))) vs d a d3 :=
  fun B Hf O σ H v E ⟨p, x, y, z, r1, r2, r3, r4, r5⟩ Q q => ⟨p, [x, y, z], r1, .inl (.inl (E.hf _ _ r2)), rfl, x, [y, z], rfl, h1 B Hf O σ H x E r3 _ fun σ1 E1 k1 l1 => ⟨y, [z], rfl, h2 B Hf O σ1 H y E1 r4 _ fun σ2 E2 k2 l2 => ⟨z, [], rfl, h3 B Hf O σ2 H z E2 r5 _ fun σ3 E3 k3 l3 => ⟨rfl, q σ3 E3 (fun k hk => ((k3 k hk).trans (k2 k hk)).trans (k1 k hk)) ((l3.trans l2).trans l1)⟩⟩⟩⟩
/-! ### statements -/
theorem sd_seq (h : SD s1 d { P with nx := fun d' => SD s2 d' P }) : SD (tSeq s1 s2) d P := fun B Hf O σ H D E S =>
  h B Hf O σ H { D with nx := s2 D } E ⟨fun d' Hf' O' σ' H' h' E' => h' B Hf' O' σ' H' D E' S, S.rt, S.bk, S.ct, S.rz⟩
theorem sd_next (h : P.nx d) : SD tNext d P := fun B Hf O σ H D E S => S.nx d Hf O σ H h E
theorem sd_brk (h : P.bk d) : SD tBreak d P := fun B Hf O σ H D E S => S.bk d Hf O σ H h E
theorem sd_cont (h : P.ct d) : SD tCont d P := fun B Hf O σ H D E S => S.ct d Hf O σ H h E
theorem sd_asg {α : Type} [Rep α] {a : α} {i : Nat} (h : ED te d a) (k : P.nx (d.set i (.sh a))) : SD (tAsg te (gName i)) d P := fun B Hf O σ H D E S =>
  h B Hf O σ H E _ fun v Hf' H' E' e r => S.nx _ Hf' O _ H' k (E'.setS r)
theorem sd_asgO {r : Res} {i : Nat} (h : EO te d r) (k : P.nx (d.set i (.own r))) : SD (tAsg te (gName i)) d P := fun B Hf O σ H D E S =>
  h B Hf O σ H E _ fun v Hf' H' On E' e n r => S.nx _ Hf' _ _ H' k (E'.set (s := .own _) r n)
theorem sd_asgT {α : Type} [Rep α] {a : α} {g : TG} {vs : List Nat} {d' : DE} (h : ED te d a) (hg : GD g vs d a d') (k : P.nx d') : SD (tAsg te g) d P := fun B Hf O σ H D E S =>
  h B Hf O σ H E _ fun v Hf' H' E' e r => hg B Hf' O σ H' v E' r _ fun σ' E2 _ _ => S.nx _ Hf' O σ' H' k E2
theorem sd_drop {α : Type} [Rep α] {a : α} (h : ED te d a) (k : P.nx d) : SD (tDrop te) d P := fun B Hf O σ H D E S =>
  h B Hf O σ H E _ fun v Hf' H' E' e r => S.nx _ Hf' O σ H' k E'
theorem sd_ret {α : Type} [Rep α] {a : α} (h : ED te d a) (k : P.rt d (.sh a)) : SD (tRet te) d P := fun B Hf O σ H D E S =>
  h B Hf O σ H E _ fun v Hf' H' E' e r => S.rt d (.sh a) v Hf' O noHp σ H' k E' newO_no r
theorem sd_retN (k : P.rt d (.sh ())) : SD tRetN d P := fun B Hf O σ H D E S => S.rt d (.sh ()) .non Hf O noHp σ H k E newO_no rfl
theorem sd_retO {r : Res} (h : EO te d r) (k : P.rt d (.own r)) : SD (tRet te) d P := fun B Hf O σ H D E S =>
  h B Hf O σ H E _ fun v Hf' H' On E' e n r' => S.rt d (.own r) v Hf' O On σ H' k E' n r'
/-- return of one's own thing -/
theorem sd_retV {r : Res} {i : Nat} (h : d[i]? = some (.own r)) (k : P.rt (d.set i .un) (.own r)) : SD (tRet (tVar i)) d P := fun B Hf O σ H D E S => by
  obtain ⟨v, h1, h2⟩ := E.getO h
  have hi : i < d.length := (List.getElem?_eq_some_iff.mp h).1
  refine ⟨v, h1, S.rt (d.set i .un) (.own r) v Hf (setO O i noHp) (O i) σ H k ?_ ?_ h2⟩
  · refine ⟨E.fr, E.hf, E.f0, E.fo, fun j q u e => ?_, fun j k q hjk e => ?_, by rw [List.length_set]; exact E.len, fun j s' e => ?_⟩
    · by_cases z : j = i
      · rw [z, setO_same] at e
        cases e
      · rw [setO_ne z] at e
        exact E.ow j q u e
    · by_cases z : j = i
      · rw [z, setO_same] at e
        exact absurd rfl e
      · rw [setO_ne z] at e
        by_cases z2 : k = i
        · rw [z2, setO_same]
          rfl
        · rw [setO_ne z2]
          exact E.dj j k q hjk e
    · rw [getElem?_setS] at e
      by_cases z : i = j ∧ j < d.length
      · rw [if_pos z] at e
        rw [← Option.some.inj e]
        trivial
      · rw [if_neg z] at e
        have hj : j < d.length := (List.getElem?_eq_some_iff.mp e).1
        have z2 : j ≠ i := fun x => z ⟨x.symm, hj⟩
        rw [setO_ne z2]
        exact E.sl j s' e
  · have z : ∀ p, O i p ≠ none → Hf p = none ∧ B.F p = none := fun p hp => by
      cases w : O i p with
      | none => exact absurd w hp
      | some u => exact (E.ow i p u w).2
    refine ⟨fun p o e => (E.ow i p o e).1, fun p hp => (z p hp).1, fun p hp => (z p hp).2, fun p hp j => ?_⟩
    by_cases zj : j = i
    · rw [zj, setO_same]
      rfl
    · rw [setO_ne zj]
      exact E.dj i j p (Ne.symm zj) hp
theorem sd_if {b : Bool} (h : ET t d b) (h1 : b = true → SD s1 d P) (h2 : b = false → SD s2 d P) : SD (tIfS t s1 s2) d P := fun B Hf O σ H D E S =>
  h B Hf O σ H E _ fun Hf' H' E' e => by
    cases b with
    | true => exact h1 rfl B Hf' O σ H' D E' S
    | false => exact h2 rfl B Hf' O σ H' D E' S
theorem sd_mono {P' : Post} (h : SD ts d P') (h1 : ∀ d, P'.nx d → P.nx d) (h2 : ∀ d s, P'.rt d s → P.rt d s) (h3 : ∀ d, P'.bk d → P.bk d) (h4 : ∀ d, P'.ct d → P.ct d) (h5 : ∀ H, P.rz H → P'.rz H) : SD ts d P := fun B Hf O σ H D E S =>
  h B Hf O σ H D E ⟨fun d Hf O σ H p => S.nx d Hf O σ H (h1 d p), fun d s v Hf O On σ H p => S.rt d s v Hf O On σ H (h2 d s p), fun d Hf O σ H p => S.bk d Hf O σ H (h3 d p), fun d Hf O σ H p => S.ct d Hf O σ H (h4 d p), fun H e => h5 H (S.rz H e)⟩
/-- a slot forgotten; frozen -/
theorem sd_un (i : Nat) (h : SD ts (d.set i .un) P) : SD ts d P := fun B Hf O σ H D E S => h B Hf O σ H D (E.forget i) S
theorem sd_frzL {α : Type} [Rep α] {as : List α} {i : Nat} (hi : d[i]? = some (ol as)) (h : SD ts (d.set i (.sh as)) P) : SD ts d P := fun B Hf O σ H D E S => by
  obtain ⟨v, h1, p, vs, h2, h3, h4⟩ := E.getO hi
  have ex : Ex Hf (plus Hf (O i)) := fun q u e => by
    cases w : O i q with
    | none => rw [plus_off w]; exact e
    | some x => rw [(E.ow i q x w).2.1] at e; cases e
  have E' := E.freeze (a := as) h1 ⟨p, vs, h2, plus_on (by rw [h3]; exact one_at), paired_mono ex h4⟩
  refine h ⟨B.F, plus Hf (O i)⟩ _ _ σ H D E'.rebase (S.rebase E')
theorem sd_frzD {β : Type} [Rep β] {m : List (Int × β)} {i : Nat} (hi : d[i]? = some (od m)) (h : SD ts (d.set i (.sh (Dct.mk m))) P) : SD ts d P := fun B Hf O σ H D E S => by
  obtain ⟨v, h1, p, vs, h2, h3, h4⟩ := E.getO hi
  have ex : Ex Hf (plus Hf (O i)) := fun q u e => by
    cases w : O i q with
    | none => rw [plus_off w]; exact e
    | some x => rw [(E.ow i q x w).2.1] at e; cases e
  have E' := E.freeze (a := Dct.mk m) h1 ⟨p, vs, h2, plus_on (by rw [h3]; exact one_at), kvR_mono ex h4⟩
  refine h ⟨B.F, plus Hf (O i)⟩ _ _ σ H D E'.rebase (S.rebase E')
/-- xs.append(e), xs one's own -/
theorem sd_app {α : Type} [Rep α] {as : List α} {a : α} {i : Nat} (hi : d[i]? = some (ol as)) (h : ED te d a) (hl : as.length ≤ 900000) (k : P.nx (d.set i (ol (as ++ [a])))) : SD (tDrop (tBM K "list" rAppend (tVar i) (tCons te tNil))) d P := fun B Hf O σ H D E S => by
  obtain ⟨v, h1, p, vs, h2, h3, h4⟩ := E.getO hi
  subst h2
  have at0 := (E.ow i p (.lst vs) (by rw [h3]; exact one_at)).1
  refine ⟨.ref p, h1, .inl ⟨rfl, _, .inl (.inl at0)⟩, h B Hf O σ H E _ fun y Hf1 H1 E1 e1 r1 => ?_⟩
  have at1 := (E1.ow i p (.lst vs) (by rw [h3]; exact one_at)).1
  refine ⟨p, vs, y, rfl, rfl, at1, small' _ (by rw [paired_len h4]; omega), ?_⟩
  refine S.nx _ Hf1 _ σ _ k (E1.chg (On := one p (.lst (vs ++ [y]))) h1 ⟨p, _, rfl, rfl, paired_app (paired_mono e1 h4) (.cons r1 .nil)⟩ (fun q u e => ?_) (fun q hq => ?_) fun q hq u hu => ?_)
  · obtain ⟨a, b⟩ := one_of e
    rw [a, b, upd_same]
  · rw [one_some hq]
    exact .inl (by rw [h3, one_at]; exact fun z => by cases z)
  · rw [upd_ne (fun z => by rw [z, h3, one_at] at hq; cases hq)]
    exact hu
/-- xs[j] = e, xs one's own -/
theorem paired_set {α : Type} [Rep α] {Hf : Hp} {v : V} {a : α} (r : rep Hf v a) : ∀ {vs : List V} {as : List α} (j : Nat), Paired (rep Hf) vs as → Paired (rep Hf) (vs.set j v) (as.set j a)
  | _, _, _, .nil => .nil
  | _, _, 0, .cons _ t => .cons r t
  | _, _, j + 1, .cons q t => .cons q (paired_set r j t)
theorem sd_setL {α : Type} [Rep α] {as : List α} {a : α} {i j : Nat} {k : Int} (hi : d[i]? = some (ol as)) (h : ED te d a) (hk : ED tb d k) (hj : ixN as.length k = some j) (nx : P.nx (d.set i (ol (as.set j a)))) :
    SD (tAsg te (gSub (tVar i) tb rSetL)) d P := fun B Hf O σ H D E S => by
  obtain ⟨v, h1, p, vs, h2, h3, h4⟩ := E.getO hi
  subst h2
  refine h B Hf O σ H E _ fun y Hf1 H1 E1 e1 r1 => ⟨.ref p, h1, hk B Hf1 O σ H1 E1 _ fun z Hf2 H2 E2 e2 r2 => ?_⟩
  have at1 := (E2.ow i p (.lst vs) (by rw [h3]; exact one_at)).1
  refine ⟨p, vs, k, j, rfl, r2, at1, by rw [paired_len h4]; exact hj, ?_⟩
  refine S.nx _ Hf2 _ σ _ nx (E2.chg (On := one p (.lst (vs.set j y))) h1 ⟨p, _, rfl, rfl, paired_set (Rep.mono e2 r1) j (paired_mono (e1.trans e2) h4)⟩ (fun q u e => ?_) (fun q hq => ?_) fun q hq u hu => ?_)
  · obtain ⟨a, b⟩ := one_of e
    rw [a, b, upd_same]
  · rw [one_some hq]
    exact .inl (by rw [h3, one_at]; exact fun z => by cases z)
  · rw [upd_ne (fun z => by rw [z, h3, one_at] at hq; cases hq)]
    exact hu
/-- d[k] = e, d one's own -/
theorem sd_dput {β : Type} [Rep β] {m : List (Int × β)} {b : β} {i : Nat} {k : Int} (hi : d[i]? = some (od m)) (h : ED te d b) (hk : ED tb d k) (hl : m.length ≤ 900000) (nx : P.nx (d.set i (od (dput m k b)))) :
    SD (sDPut (tVar i) tb te) d P := fun B Hf O σ H D E S => by
  obtain ⟨v, h1, p, vs, h2, h3, h4⟩ := E.getO hi
  subst h2
  refine h B Hf O σ H E _ fun y Hf1 H1 E1 e1 r1 => ⟨.ref p, h1, hk B Hf1 O σ H1 E1 _ fun z Hf2 H2 E2 e2 r2 => ?_⟩
  have at1 := (E2.ow i p (.dK vs) (by rw [h3]; exact one_at)).1
  rw [show z = .int k from r2]
  refine ⟨p, _, rfl, .inl ⟨vs, .inl k, at1, rfl, small' _ (by rw [paired_len h4]; omega), rfl⟩, ?_⟩
  refine S.nx _ Hf2 _ σ _ nx (E2.chg (On := one p (.dK (putK vs (.inl k) y))) h1 ⟨p, _, rfl, rfl, put_rel (Rep.mono e2 r1) (kvR_mono (e1.trans e2) h4)⟩ (fun q u e => ?_) (fun q hq => ?_) fun q hq u hu => ?_)
  · obtain ⟨a, b⟩ := one_of e
    rw [a, b, upd_same]
  · rw [one_some hq]
    exact .inl (by rw [h3, one_at]; exact fun z => by cases z)
  · rw [upd_ne (fun z => by rw [z, h3, one_at] at hq; cases hq)]
    exact hu
/-! ### what is walked -/
structure Yd (J : It) (Hf0 : Hp) {γ : Type} [Rep γ] (ys : List γ) : Prop where
  goes : ∀ i B Hf O d σ H, i < ys.length → Env B Hf O d σ H → Ex Hf0 Hf → J.go i H
  stops : ∀ B Hf O d σ H, Env B Hf O d σ H → Ex Hf0 Hf → J.stop ys.length H
  yields : ∀ i B Hf O d σ H x H', i < ys.length → Env B Hf O d σ H → Ex Hf0 Hf → J.yld i H x H' → ∃ Hf' y, Env B Hf' O d σ H' ∧ Ex Hf Hf' ∧ ys[i]? = some y ∧ rep Hf' x y
def ID (wi : TI) (d : DE) {γ : Type} [Rep γ] (ys : List γ) : Prop := ∀ B Hf O σ H, Env B Hf O d σ H → ∀ R : It → Hp → Prop, (∀ J Hf' H', Env B Hf' O d σ H' → Ex Hf Hf' → Yd J Hf' ys → R J H') → wi σ H R
theorem id_list {α : Type} [Rep α] {as : List α} (h : ED tl d as) : ID (iList K tl) d as := fun B Hf O σ H E R q =>
  h B Hf O σ H E _ fun v Hf1 H1 E1 e1 ⟨p, vs, r1, r2, r3⟩ => ⟨p, r1, ⟨vs, .inl (.inl (E1.hf _ _ r2))⟩, q _ Hf1 H1 E1 e1 ⟨
    fun i B Hf O d σ H hi E e => ⟨vs, vs[i]'(by rw [paired_len r3]; exact hi), .inl (.inl (E.hf _ _ (e _ _ r2))), List.getElem?_eq_getElem _⟩,
    fun B Hf O d σ H E e => ⟨vs, .inl (.inl (E.hf _ _ (e _ _ r2))), by rw [paired_len r3]; exact Nat.le_refl _⟩,
    fun i B Hf O d σ H x H' hi E e y => by
      obtain ⟨rfl, y2⟩ := y
      have g := y2 vs (.inl (.inl (E.hf _ _ (e _ _ r2))))
      have gy : as[i]? = some as[i] := List.getElem?_eq_getElem hi
      obtain ⟨x', g1, g2⟩ := paired_get r3 gy
      rw [g] at g1
      refine ⟨Hf, as[i], E, ex_refl _, gy, ?_⟩
      rw [Option.some.inj g1]
      exact Rep.mono e g2⟩⟩
theorem id_rng1 {n : Int} (h : ED ta d n) (hn : n ≤ 1000000 := by omega) (hm : -1000000 ≤ n := by omega) : ID (iRng1 (tCons ta tNil)) d ((List.range n.toNat).map fun i => ((i : Nat) : Int)) := fun B Hf O σ H E R q =>
  h B Hf O σ H E _ fun v Hf1 H1 E1 e1 r => ⟨n, by rw [show v = .int n from r], by omega, by omega, q _ Hf1 H1 E1 e1 ⟨
    fun i B Hf O d σ H hi E e => by
      rw [List.length_map, List.length_range] at hi
      exact hi,
    fun B Hf O d σ H E e => by
      show n.toNat ≤ _
      rw [List.length_map, List.length_range]
      exact Nat.le_refl _,
    fun i B Hf O d σ H x H' hi E e y => by
      obtain ⟨rfl, y2⟩ := y
      rw [List.length_map, List.length_range] at hi
      refine ⟨Hf, (i : Int), E, ex_refl _, ?_, ?_⟩
      · rw [List.getElem?_map, List.getElem?_range hi]
        rfl
      · rw [y2]
        show V.int (0 + (i : Int)) = V.int (i : Int)
        rw [Int.zero_add]⟩⟩
def enumA {α : Type} (as : List α) : List (Int × α) := as.zipIdx.map fun p => (((p.2 : Nat) : Int), p.1)
theorem enumA_len {α : Type} (as : List α) : (enumA as).length = as.length := by
  unfold enumA
  rw [List.length_map, List.length_zipIdx]
theorem enumA_get {α : Type} {as : List α} {i : Nat} {a : α} (h : as[i]? = some a) : (enumA as)[i]? = some ((i : Int), a) := by
  unfold enumA
  rw [List.getElem?_map, List.getElem?_zipIdx, h]
  simp
theorem enumA_mem {α : Type} {as : List α} {y : Int × α} (h : y ∈ enumA as) : ∃ i : Nat, y.1 = (i : Int) ∧ as[i]? = some y.2 := by
  obtain ⟨i, hi⟩ := List.mem_iff_getElem?.mp h
  have hil : i < (enumA as).length := (List.getElem?_eq_some_iff.mp hi).1
  rw [enumA_len] at hil
  have h2 := enumA_get (List.getElem?_eq_getElem hil)
  rw [hi] at h2
  have e := Option.some.inj h2
  refine ⟨i, by rw [e], ?_⟩
  rw [e]
  exact List.getElem?_eq_getElem hil
theorem id_enum {α : Type} [Rep α] {as : List α} (hsh : ED tl d as) : ID (iEnum K (tCons tl tNil)) d (enumA as) := fun B Hf O σ H E R q =>
  hsh B Hf O σ H E _ fun v Hf1 H1 E1 e1 ⟨p, vs, r1, r2, r3⟩ => ⟨p, vs, by rw [r1], .inl (.inl (E1.hf _ _ r2)), q _ Hf1 H1 E1 e1 ⟨
    fun i B Hf O d σ H hi E e => (L2.walk_enum (K := K) (a := p) (xs := vs)).goes i H (by rw [paired_len r3]; rw [enumA_len] at hi; exact hi) (.inl (.inl (E.hf _ _ (e _ _ r2)))),
    fun B Hf O d σ H E e => by
      have := (L2.walk_enum (K := K) (a := p) (xs := vs)).stops H (.inl (.inl (E.hf _ _ (e _ _ r2))))
      rw [enumA_len, ← paired_len r3]
      exact this,
    fun i B Hf O d σ H x H' hi E e y => by
      rw [enumA_len] at hi
      obtain ⟨T, x1, x2, hx, hT, hH, g1, g2⟩ := (L2.walk_enum (K := K) (a := p) (xs := vs)).yields i H x H' (by rw [paired_len r3]; exact hi) (.inl (.inl (E.hf _ _ (e _ _ r2)))) y
      have gy : as[i]? = some as[i] := List.getElem?_eq_getElem hi
      obtain ⟨x', g3, g4⟩ := paired_get r3 gy
      rw [show vs[i]? = some x2 from g2] at g3
      subst hH
      refine ⟨upd Hf T (.tup [x1, x2]), ((i : Int), as[i]), E.alloc hT, ex_upd (E.fz hT), enumA_get gy, T, x1, x2, hx, upd_same, ?_, ?_⟩
      · exact (Option.some.inj g1).symm
      · rw [Option.some.inj g3]
        exact newRep (E.fz hT) (Rep.mono e g4)⟩⟩
theorem id_rev {α : Type} [Rep α] {as : List α} (h : ED tl d as) : ID (iRev K (tCons tl tNil)) d as.reverse := fun B Hf O σ H E R q =>
  h B Hf O σ H E _ fun v Hf1 H1 E1 e1 ⟨p, vs, r1, r2, r3⟩ => ⟨p, vs, by rw [r1], .inl (.inl (E1.hf _ _ r2)), q _ Hf1 H1 E1 e1 ⟨
    fun i B Hf O d σ H hi E e => (L2.walk_rev (K := K) (a := p) (xs := vs)).goes i H (by rw [paired_len r3]; rw [List.length_reverse] at hi; exact hi) (.inl (.inl (E.hf _ _ (e _ _ r2)))),
    fun B Hf O d σ H E e => by
      have := (L2.walk_rev (K := K) (a := p) (xs := vs)).stops H (.inl (.inl (E.hf _ _ (e _ _ r2))))
      rw [List.length_reverse, ← paired_len r3]
      exact this,
    fun i B Hf O d σ H x H' hi E e y => by
      rw [List.length_reverse] at hi
      obtain ⟨hH, g2⟩ := (L2.walk_rev (K := K) (a := p) (xs := vs)).yields i H x H' (by rw [paired_len r3]; exact hi) (.inl (.inl (E.hf _ _ (e _ _ r2)))) y
      have hi2 : as.length - 1 - i < as.length := by omega
      have gy : as[as.length - 1 - i]? = some as[as.length - 1 - i] := List.getElem?_eq_getElem hi2
      obtain ⟨x', g3, g4⟩ := paired_get r3 gy
      rw [paired_len r3] at g2
      rw [g2] at g3
      subst hH
      refine ⟨Hf, as[as.length - 1 - i], E, ex_refl _, ?_, ?_⟩
      · rw [List.getElem?_reverse hi]
        exact gy
      · rw [Option.some.inj g3]
        exact Rep.mono e g4⟩⟩
theorem id_zip {α β : Type} [Rep α] [Rep β] {as : List α} {bs : List β} (h1 : ED ta d as) (h2 : ED tb d bs) : ID (iZip K (tCons ta (tCons tb tNil))) d (as.zip bs) := fun B Hf O σ H E R q =>
  ed2 h1 h2 E (Q := fun x y H1 => ∃ a b xs ys, [x, y] = [.ref a, .ref b] ∧ SqL K H1 a xs ∧ SqL K H1 b ys ∧ R (Itz K a b) H1) fun x y Hf1 H1 E1 e1 ⟨p, vs, r1, r2, r3⟩ ⟨p', ws, r1', r2', r3'⟩ => ⟨p, p', vs, ws, by rw [r1, r1'], .inl (.inl (E1.hf _ _ r2)), .inl (.inl (E1.hf _ _ r2')), q _ Hf1 H1 E1 e1 ⟨
    fun i B Hf O d σ H hi E e => (L2.walk_zip (K := K) (a := p) (b := p') (xs := vs) (ys := ws) rfl).goes i H (by rw [paired_len r3, paired_len r3']; rw [List.length_zip] at hi; exact hi) ⟨.inl (.inl (E.hf _ _ (e _ _ r2))), .inl (.inl (E.hf _ _ (e _ _ r2')))⟩,
    fun B Hf O d σ H E e => by
      have := (L2.walk_zip (K := K) (a := p) (b := p') (xs := vs) (ys := ws) rfl).stops H ⟨.inl (.inl (E.hf _ _ (e _ _ r2))), .inl (.inl (E.hf _ _ (e _ _ r2')))⟩
      rw [List.length_zip, ← paired_len r3, ← paired_len r3']
      exact this,
    fun i B Hf O d σ H x H' hi E e y => by
      rw [List.length_zip] at hi
      obtain ⟨T, x1, x2, hx, hT, hH, g1, g2⟩ := (L2.walk_zip (K := K) (a := p) (b := p') (xs := vs) (ys := ws) rfl).yields i H x H' (by rw [paired_len r3, paired_len r3']; exact hi) ⟨.inl (.inl (E.hf _ _ (e _ _ r2))), .inl (.inl (E.hf _ _ (e _ _ r2')))⟩ y
      have hi1 : i < as.length := by omega
      have hi2 : i < bs.length := by omega
      have gy : as[i]? = some as[i] := List.getElem?_eq_getElem hi1
      have gz : bs[i]? = some bs[i] := List.getElem?_eq_getElem hi2
      obtain ⟨x', g3, g4⟩ := paired_get r3 gy
      obtain ⟨y', g5, g6⟩ := paired_get r3' gz
      rw [show vs[i]? = some x1 from g1] at g3
      rw [show ws[i]? = some x2 from g2] at g5
      subst hH
      refine ⟨upd Hf T (.tup [x1, x2]), (as[i], bs[i]), E.alloc hT, ex_upd (E.fz hT), ?_, T, x1, x2, hx, upd_same, ?_, ?_⟩
      · rw [List.getElem?_zip_eq_some]
        exact ⟨gy, gz⟩
      · rw [Option.some.inj g3]
        exact newRep (E.fz hT) (Rep.mono e g4)
      · rw [Option.some.inj g5]
        exact newRep (E.fz hT) (Rep.mono e g6)⟩⟩
/-! ### loops -/
theorem sd_for {γ : Type} [Rep γ] {wi : TI} {ys : List γ} {g : TG} (vs : List Nat) (hw : ID wi d ys) (I : Nat → DE → Prop) (h0 : I 0 d)
    (hs : ∀ i y d', ys[i]? = some y → I i d' → ∃ d'', GD g vs d' y d'' ∧ SD tb' d'' { nx := I (i + 1), rt := P.rt, bk := P.nx, ct := I (i + 1), rz := P.rz }) (hd : ∀ d', I ys.length d' → P.nx d') : SD (tFor wi g tb') d P := fun B Hf O σ H D E S =>
  hw B Hf O σ H E _ fun J Hf1 H1 E1 e1 Y => by
    refine ⟨fun i m σ H => m = ys.length - i ∧ i ≤ ys.length ∧ ∃ d' Hf' O', Env ⟨B.F, Hf1⟩ Hf' O' d' σ H ∧ I i d', ⟨ys.length, by simp, Nat.zero_le _, d, Hf1, O, E1.rebase, h0⟩, ?_⟩
    rintro i m σ2 H2 ⟨rfl, hi, d', Hf2, O2, E2, p⟩
    by_cases hlt : i < ys.length
    · refine .inr ⟨Y.goes i _ Hf2 O2 d' σ2 H2 hlt E2 E2.f0, fun σ' H' => ∃ d' Hf' O', Env ⟨B.F, Hf1⟩ Hf' O' d' σ' H' ∧ I (i + 1) d', fun σ' H' q => ⟨ys.length - (i + 1), by omega, rfl, hlt, q⟩, fun x H3 hy => ?_⟩
      obtain ⟨Hf3, y, E3, e3, gy, ry⟩ := Y.yields i _ Hf2 O2 d' σ2 H2 x H3 hlt E2 E2.f0 hy
      obtain ⟨d'', hg, hb⟩ := hs i y d' gy p
      refine hg _ Hf3 O2 σ2 H3 x E3 ry _ fun σ3 E4 _ _ => ?_
      exact hb _ Hf3 O2 σ3 H3 _ E4 ⟨fun d4 Hf4 O4 σ4 H4 q E5 => ⟨d4, Hf4, O4, E5, q⟩, fun d4 s v Hf4 O4 On σ4 H4 q E5 n => S.rt d4 s v Hf4 O4 On σ4 H4 q (E1.back E5) ⟨n.at', n.fz, n.Fz, n.Oz⟩,
        fun d4 Hf4 O4 σ4 H4 q E5 => S.nx d4 Hf4 O4 σ4 H4 q (E1.back E5), fun d4 Hf4 O4 σ4 H4 q E5 => ⟨d4, Hf4, O4, E5, q⟩, S.rz⟩
    · have e : i = ys.length := by omega
      subst e
      exact .inl ⟨Y.stops _ Hf2 O2 d' σ2 H2 E2 E2.f0, S.nx d' Hf2 O2 σ2 H2 (hd d' p) (E1.back E2)⟩
theorem take_snoc {α : Type} {l : List α} {i : Nat} {x : α} (h : l[i]? = some x) : l.take (i + 1) = l.take i ++ [x] := by
  rw [List.take_add_one, h]
  rfl
theorem split_at {α : Type} {l : List α} {i : Nat} {x : α} (h : l[i]? = some x) : l = l.take i ++ x :: l.drop (i + 1) := by
  obtain ⟨hi, e⟩ := List.getElem?_eq_some_iff.mp h
  rw [← e, List.getElem_cons_drop hi, List.take_append_drop]
/-- the same by what has been walked -/
theorem sd_forP {γ : Type} [Rep γ] {wi : TI} {ys : List γ} {g : TG} (vs : List Nat) (hw : ID wi d ys) (I : List γ → DE → Prop) (h0 : I [] d)
    (hs : ∀ pre y post d', ys = pre ++ y :: post → I pre d' → ∃ d'', GD g vs d' y d'' ∧ SD tb' d'' { nx := I (pre ++ [y]), rt := P.rt, bk := P.nx, ct := I (pre ++ [y]), rz := P.rz }) (hd : ∀ d', I ys d' → P.nx d') : SD (tFor wi g tb') d P :=
  sd_for vs hw (fun i => I (ys.take i)) h0 (fun i y d' gy p => by
    obtain ⟨d'', h1, h2⟩ := hs (ys.take i) y (ys.drop (i + 1)) d' (split_at gy) p
    rw [← take_snoc gy] at h2
    exact ⟨d'', h1, h2⟩) fun d' p => hd d' (by rw [List.take_length] at p; exact p)
theorem sd_while (I : Nat → DE → Prop) (m0 : Nat) (h0 : I m0 d)
    (hs : ∀ m d', I m d' → ∃ b, ET t d' b ∧ (b = true → SD tb' d' { nx := fun d'' => ∃ m', m' < m ∧ I m' d'', rt := P.rt, bk := P.nx, ct := fun d'' => ∃ m', m' < m ∧ I m' d'', rz := P.rz }) ∧ (b = false → P.nx d')) : SD (tWhile t tb') d P := fun B Hf O σ H D E S => by
  refine ⟨fun m σ H => ∃ d' Hf' O', Env B Hf' O' d' σ H ∧ I m d', ⟨m0, d, Hf, O, E, h0⟩, ?_⟩
  rintro m σ2 H2 ⟨d', Hf2, O2, E2, p⟩
  obtain ⟨b, hb, h1, h2⟩ := hs m d' p
  refine hb B Hf2 O2 σ2 H2 E2 _ fun Hf3 H3 E3 e3 => ?_
  cases b with
  | true =>
    rw [if_pos rfl]
    refine ⟨fun σ' H' => ∃ m', m' < m ∧ ∃ d' Hf' O', Env B Hf' O' d' σ' H' ∧ I m' d', fun _ _ h => h, ?_⟩
    exact h1 rfl B Hf3 O2 σ2 H3 _ E3 ⟨fun d4 Hf4 O4 σ4 H4 ⟨m', hm, q⟩ E5 => ⟨m', hm, d4, Hf4, O4, E5, q⟩, S.rt, fun d4 Hf4 O4 σ4 H4 q E5 => S.nx d4 Hf4 O4 σ4 H4 q E5, fun d4 Hf4 O4 σ4 H4 ⟨m', hm, q⟩ E5 => ⟨m', hm, d4, Hf4, O4, E5, q⟩, S.rz⟩
  | false =>
    rw [if_neg Bool.false_ne_true]
    exact S.nx d' Hf3 O2 σ2 H3 (h2 rfl) E3
/-! ### comprehensions -/
theorem gd_w {g : TG} {vs : List Nat} {α : Type} [Rep α] {a : α} {d d' : DE} (h : GD g vs d a d') : GD g vs d a d' := h
theorem filter_snoc {α : Type} (p : α → Bool) (l : List α) (x : α) : (l ++ [x]).filter p = l.filter p ++ (if p x = true then [x] else []) := by
  rw [List.filter_append]
  congr 1
  by_cases h : p x = true
  · simp [h]
  · simp [h]
/-- the list of f y for the walked y with p y -/
theorem el_lc {γ α : Type} [Rep γ] [Rep α] {wi : TI} {g : TG} {tt : TT} {vs : List Nat} {ys : List γ} (p : γ → Bool) (f : γ → α) (hw : ID wi d ys) (hl : ys.length ≤ 900000)
    (hs : ∀ y, y ∈ ys → ∃ d', GD g vs (wipeS d vs) y d' ∧ ET tt d' (p y) ∧ (p y = true → ED te d' (f y))) {B : Base} {Hf H : Hp} {O : Nat → Hp} {σ : St} (E : Env B Hf O d σ H) {Q : VK}
    (q : ∀ D ws Hf' H', Env B Hf' O d σ H' → Ex Hf Hf' → H' D = some (.lst ws) → Hf' D = none → B.F D = none → (∀ i, O i D = none) → Paired (rep Hf') ws ((ys.filter p).map f) → Q (.ref D) H') : tLc wi g tt te vs σ H Q :=
  hw B Hf O σ H E _ fun J Hf1 H1 E1 e1 Y D hD => by
    refine ⟨fun i m H => m = ys.length - i ∧ i ≤ ys.length ∧ ∃ Hf' ws, Env ⟨B.F, Hf1⟩ Hf' O d σ H ∧ H D = some (.lst ws) ∧ Hf' D = none ∧ B.F D = none ∧ (∀ j, O j D = none) ∧ Paired (rep Hf') ws (((ys.take i).filter p).map f),
      ⟨ys.length, by simp, Nat.zero_le _, Hf1, [], E1.rebase.allocO hD, upd_same, E1.fz hD, E1.Fz hD, E1.Oz hD, .nil⟩, ?_⟩
    rintro i m H2 ⟨rfl, hi, Hf2, ws, E2, a1, a2, a3, a4, a5⟩
    by_cases hlt : i < ys.length
    · refine .inr ⟨Y.goes i _ Hf2 O d σ H2 hlt E2 E2.f0, fun H => ∃ Hf' ws, Env ⟨B.F, Hf1⟩ Hf' O d σ H ∧ H D = some (.lst ws) ∧ Hf' D = none ∧ B.F D = none ∧ (∀ j, O j D = none) ∧ Paired (rep Hf') ws (((ys.take (i + 1)).filter p).map f), fun H' q => ⟨ys.length - (i + 1), by omega, rfl, hlt, q⟩, fun x H3 hy => ?_⟩
      have K2 := E2.keep a1 a2 a4
      obtain ⟨Hf3, y, E3, e3, gy, ry⟩ := Y.yields i _ Hf2 O d σ H2 x H3 hlt K2 E2.f0 hy
      have my : y ∈ ys := List.mem_of_getElem? gy
      obtain ⟨d', hg, ht, he⟩ := hs y my
      have wl : ws.length ≤ ys.length := by
        rw [paired_len a5, List.length_map]
        exact Nat.le_trans (List.length_filter_le _ _) (by rw [List.length_take]; exact Nat.min_le_right _ _)
      refine hg _ Hf3 O _ H3 x (E3.wipe vs) ry _ fun σ3 E4 k4 l4 => ⟨Env.wipe_back σ σ3 vs (l4.trans (L2.wipe_length σ vs)) k4, ?_⟩
      refine ht _ Hf3 O σ3 H3 E4 _ fun Hf5 H5 E5 e5 => ?_
      cases hp : p y with
      | true =>
        rw [if_pos rfl]
        refine he hp _ Hf5 O σ3 H5 E5 _ fun z Hf6 H6 E6 e6 r6 => ?_
        have ex : Ex Hf2 Hf6 := (e3.trans e5).trans e6
        obtain ⟨b0, b1, b2, b3⟩ := E2.unkeep a3 a2 (E2.swap E6 ex)
        refine ⟨ws, b1, small' _ (by omega), Hf6, ws ++ [z], b0.touch b2 a3 b3, upd_same, b2, a3, b3, ?_⟩
        rw [take_snoc gy, filter_snoc, if_pos hp, List.map_append]
        exact paired_app (paired_mono ex a5) (.cons r6 .nil)
      | false =>
        rw [if_neg Bool.false_ne_true]
        have ex : Ex Hf2 Hf5 := e3.trans e5
        obtain ⟨b0, b1, b2, b3⟩ := E2.unkeep a3 a2 (E2.swap E5 ex)
        refine ⟨Hf5, ws, b0, b1, b2, a3, b3, ?_⟩
        rw [take_snoc gy, filter_snoc, if_neg (by rw [hp]; exact Bool.false_ne_true), List.append_nil]
        exact paired_mono ex a5
    · have e : i = ys.length := by omega
      subst e
      refine .inl ⟨Y.stops _ Hf2 O d σ H2 E2 E2.f0, ?_⟩
      rw [List.take_length] at a5
      exact q D ws Hf2 H2 (E1.back E2) (fun a o h => E2.f0 a o (e1 a o h)) a1 a2 a3 a4 a5
theorem Env.freezeNew {B : Base} {Hf H : Hp} {O : Nat → Hp} {σ : St} (E : Env B Hf O d σ H) {D : Addr} {o : HO} (h : H D = some o) (h1 : Hf D = none) (h2 : B.F D = none) (h3 : ∀ i, O i D = none) : Env B (upd Hf D o) O d σ H := by
  refine ⟨E.fr, fun q u e => ?_, fun q u e => ex_upd h1 q u (E.f0 q u e), fun q a b => ?_, fun i q u e => ?_, E.dj, E.len, fun i s e => (E.sl i s e).mono (ex_upd h1)⟩
  · by_cases z : q = D
    · rw [z, upd_same] at e
      rw [z, ← e]
      exact h
    · rw [upd_ne z] at e
      exact E.hf q u e
  · rw [upd_ne (fun z => a (by rw [z]; exact h2))]
    exact E.fo q a b
  · obtain ⟨a, b, c⟩ := E.ow i q u e
    rw [upd_ne (fun z => by rw [z, h3 i] at e; cases e)]
    exact ⟨a, b, c⟩
theorem ed_lc {γ α : Type} [Rep γ] [Rep α] {wi : TI} {g : TG} {tt : TT} {vs : List Nat} {ys : List γ} (p : γ → Bool) (f : γ → α) (hw : ID wi d ys) (hl : ys.length ≤ 900000)
    (hs : ∀ y, y ∈ ys → ∃ d', GD g vs (wipeS d vs) y d' ∧ ET tt d' (p y) ∧ (p y = true → ED te d' (f y))) : ED (tLc wi g tt te vs) d ((ys.filter p).map f) := fun B Hf O σ H E Q q =>
  el_lc p f hw hl hs E fun D ws Hf' H' E' e h1 h2 h3 h4 r => q _ _ _ (E'.freezeNew h1 h2 h3 h4) (e.trans (ex_upd h2)) ⟨D, ws, rfl, upd_same, newReps h2 r⟩
theorem eo_lc {γ α : Type} [Rep γ] [Rep α] {wi : TI} {g : TG} {tt : TT} {vs : List Nat} {ys : List γ} (p : γ → Bool) (f : γ → α) (hw : ID wi d ys) (hl : ys.length ≤ 900000)
    (hs : ∀ y, y ∈ ys → ∃ d', GD g vs (wipeS d vs) y d' ∧ ET tt d' (p y) ∧ (p y = true → ED te d' (f y))) : EO (tLc wi g tt te vs) d (olR ((ys.filter p).map f)) := fun B Hf O σ H E Q q =>
  el_lc p f hw hl hs E fun D ws Hf' H' E' e h1 h2 h3 h4 r => q _ _ _ (one D (.lst ws)) E' e ⟨fun a o h => by obtain ⟨x, y⟩ := one_of h; rw [x, y]; exact h1, fun a h => by rw [one_some h]; exact h2, fun a h => by rw [one_some h]; exact h3, fun a h i => by rw [one_some h]; exact h4 i⟩ ⟨D, ws, rfl, rfl, r⟩
theorem et_yes : ET tYes d true := fun B Hf O σ H E Q q => q Hf H E (ex_refl _)
/-- without an if -/
theorem ed_map {γ α : Type} [Rep γ] [Rep α] {wi : TI} {g : TG} {vs : List Nat} {ys : List γ} (f : γ → α) (hw : ID wi d ys) (hl : ys.length ≤ 900000)
    (hs : ∀ y, y ∈ ys → ∃ d', GD g vs (wipeS d vs) y d' ∧ ED te d' (f y)) : ED (tLc wi g tYes te vs) d (ys.map f) := by
  have h := ed_lc (d := d) (te := te) (tt := tYes) (vs := vs) (g := g) (fun _ => true) f hw hl fun y hy => by
    obtain ⟨d', h1, h2⟩ := hs y hy
    exact ⟨d', h1, et_yes, fun _ => h2⟩
  have e : ys.filter (fun _ => true) = ys := List.filter_eq_self.mpr fun _ _ => rfl
  rw [e] at h
  exact h
/-! ### defs -/
/-- a def's promise: the arguments are ss, what it hands back is s -/
def spF (pre : DE → Slot → Prop) : Sp := fun vs H Q _ => ∃ Hf ss s, Ex Hf H ∧ ShA Hf vs ss ∧ pre ss s ∧
  ∀ r Hf' H' On, Ex H H' → Ex Hf Hf' → Ex Hf' H' → (∀ p, H p ≠ none → Hf p = none → Hf' p = none) → (∀ p o, On p = some o → H' p = some o ∧ H p = none ∧ Hf' p = none) → HoldV Hf' On r s → Q r H'
theorem ed_call {α : Type} [Rep α] {pre : DE → Slot → Prop} {a : α} {ss : DE} {tA : TA} {X : XK} (h : EA tA d ss) (hp : pre ss (.sh a)) : ED (tCall (spF pre) [] X tA) d a := fun B Hf O σ H E Q q =>
  h B Hf O σ H E _ fun vs Hf1 H1 E1 e1 r1 => by
    show spF pre (vs ++ []) H1 Q X
    rw [List.append_nil]
    refine ⟨Hf1, ss, .sh a, E1.hf, r1, hp, fun r Hf2 H2 On k1 k2 k3 k4 k5 k6 => q r Hf2 H2 ?_ (e1.trans k2) k6⟩
    refine ⟨fun p o e => k1 _ _ (E1.fr p o e), k3, fun p o e => k2 _ _ (E1.f0 p o e), fun p a b => k4 p (fun z => ?_) (E1.fo p a b), fun i p o e => ?_, E1.dj, E1.len, fun i s e => (E1.sl i s e).mono k2⟩
    · exact a (E1.Fz z)
    · obtain ⟨x, y, z⟩ := E1.ow i p o e
      exact ⟨k1 _ _ x, k4 p (by rw [x]; exact fun z => by cases z) y, z⟩
theorem eo_call {rs : Res} {pre : DE → Slot → Prop} {ss : DE} {tA : TA} {X : XK} (h : EA tA d ss) (hp : pre ss (.own rs)) : EO (tCall (spF pre) [] X tA) d rs := fun B Hf O σ H E Q q =>
  h B Hf O σ H E _ fun vs Hf1 H1 E1 e1 r1 => by
    show spF pre (vs ++ []) H1 Q X
    rw [List.append_nil]
    refine ⟨Hf1, ss, .own rs, E1.hf, r1, hp, fun r Hf2 H2 On k1 k2 k3 k4 k5 k6 => q r Hf2 H2 On ?_ (e1.trans k2) ⟨fun p o e => (k5 p o e).1, fun p h => ?_, fun p h => ?_, fun p h i => ?_⟩ k6⟩
    · refine ⟨fun p o e => k1 _ _ (E1.fr p o e), k3, fun p o e => k2 _ _ (E1.f0 p o e), fun p a b => k4 p (fun z => ?_) (E1.fo p a b), fun i p o e => ?_, E1.dj, E1.len, fun i s e => (E1.sl i s e).mono k2⟩
      · exact a (E1.Fz z)
      · obtain ⟨x, y, z⟩ := E1.ow i p o e
        exact ⟨k1 _ _ x, k4 p (by rw [x]; exact fun z => by cases z) y, z⟩
    · cases w : On p with
      | none => exact absurd w h
      | some u => exact (k5 p u w).2.2
    · cases w : On p with
      | none => exact absurd w h
      | some u => exact E1.Fz (k5 p u w).2.1
    · cases w : On p with
      | none => exact absurd w h
      | some u => exact E1.Oz (k5 p u w).2.1 i
theorem replicate_get {i n : Nat} {s : Slot} (h : (List.replicate n Slot.un)[i]? = some s) : s = .un := by
  obtain ⟨h1, h2⟩ := List.getElem?_eq_some_iff.mp h
  rw [List.getElem_replicate] at h2
  exact h2.symm
theorem env_start {N : List Str} {vs : List V} {ss : DE} {H Hf : Hp} (h1 : Ex Hf H) (h2 : ShA Hf vs ss) : Env ⟨H, Hf⟩ Hf (fun _ => noHp) (ss ++ List.replicate (N.length - ss.length) .un) (start N vs) H := by
  refine ⟨ex_refl _, h1, ex_refl _, fun _ _ h => h, fun i p o e => (by cases e), fun i j p _ e => absurd rfl e, ?_, fun i s e => ?_⟩
  · show (ss ++ List.replicate (N.length - ss.length) Slot.un).length = (vs.map some ++ List.replicate (N.length - vs.length) none).length
    rw [List.length_append, List.length_append, List.length_replicate, List.length_replicate, List.length_map, h2.length]
  · show Hold Hf noHp (vs.map some ++ List.replicate (N.length - vs.length) none)[i]? s
    by_cases hi : i < ss.length
    · rw [List.getElem?_append_left hi] at e
      rw [List.getElem?_append_left (by rw [List.length_map, h2.length]; exact hi), List.getElem?_map]
      have all : ∀ {vs : List V} {ss : DE} (i : Nat) {s : Slot}, ShA Hf vs ss → ss[i]? = some s → ∃ v, vs[i]? = some v ∧ HoldV Hf noHp v s := by
        intro vs
        induction vs with
        | nil =>
          intro ss i s h e
          cases ss with
          | nil => cases e
          | cons a b => exact h.elim
        | cons v vs ih =>
          intro ss i s h e
          cases ss with
          | nil => exact h.elim
          | cons a b =>
            cases i with
            | zero =>
              have e' := Option.some.inj e
              rw [← e']
              exact ⟨v, rfl, h.1⟩
            | succ i => exact ih i h.2 e
      obtain ⟨v, g1, g2⟩ := all i h2 e
      rw [g1]
      cases s with
      | un => trivial
      | shi t j a => exact ⟨v, rfl, g2⟩
      | own r => exact ⟨v, rfl, g2⟩
    · rw [List.getElem?_append_right (Nat.le_of_not_lt hi)] at e
      rw [replicate_get e]
      trivial
/-- from a body's walk to its promise -/
theorem fn_sd {pre : DE → Slot → Prop} {N : List Str} {vs : List V} {H : Hp} {Q : VK} {E : XK} {t : TS} (h : spF pre vs H Q E)
    (hb : ∀ ss s, pre ss s → SD t (ss ++ List.replicate (N.length - ss.length) .un) { nx := fun _ => s = .sh (), rt := fun _ s' => s' = s }) : t { nx := fun _ H' => Q .non H', rt := Q } (start N vs) H := by
  obtain ⟨Hf, ss, s, h1, h2, h3, h4⟩ := h
  refine hb ss s h3 ⟨H, Hf⟩ Hf (fun _ => noHp) (start N vs) H _ (env_start h1 h2) ⟨fun d' Hf' O σ H' z E' => ?_, fun d' s' v Hf' O On σ H' z E' n r => ?_, fun _ _ _ _ _ z => z.elim, fun _ _ _ _ _ z => z.elim, fun _ _ => trivial⟩
  · refine h4 .non Hf' H' noHp E'.fr E'.f0 E'.hf E'.fo (fun p o e => by cases e) ?_
    rw [z]
    rfl
  · refine h4 v Hf' H' On E'.fr E'.f0 E'.hf E'.fo (fun p o e => ⟨n.at' p o e, n.Fz p (by rw [e]; exact fun z => by cases z), n.fz p (by rw [e]; exact fun z => by cases z)⟩) ?_
    rw [← z]
    exact r
theorem spF_len {pre : DE → Slot → Prop} {n : Nat} (h : ∀ ss s, pre ss s → ss.length = n) : ∀ vs H Q E, spF pre vs H Q E → vs.length = n := fun vs H Q E ⟨Hf, ss, s, h1, h2, h3, h4⟩ => by
  rw [h2.length]
  exact h ss s h3
end
end TC
namespace TC
open PySem PySem.Spec L2
open Evl (Ex)
/-! ### defs of the text -/
section
open PyProof.Rows
structure Def (K : PySem.W.Frag) (mg : Str → Option Value) (x qual : Str) (st : Stmt) (ps : List Str) : Prop where
  ex : ∃ f fd, Fun K x qual st f fd ∧ mg x = some (.ref f) ∧ Binds K fd ps []
structure Has (CX : CXT) (P : Program) (w : World) (K : PySem.W.Frag) (mg : Str → Option Value) (base : Heap) (k : Nat) (x : Str) (ps : List Str) (sp : Sp) : Prop where
  ex : ∃ f fd, mg x = some (.ref f) ∧ PySem.W.keepIn K (.ref f) = true ∧ Binds K fd ps [] ∧ FnOk P w K mg base CX k f fd ps sp
section
variable {P : Program} {w : World} {K : PySem.W.Frag} {mg : Str → Option Value} {base : Heap}
theorem def_ok {x qual : Str} {st : Stmt} {N ps : List Str} {k : Nat} {sp : Sp} (D : Def K mg x qual st ps) (S : FnScope N ps (defScope st)) (len : ∀ vs H Q E, sp vs H Q E → vs.length = ps.length)
    (hbody : ∀ (f : Addr) (cdv : Value) (A : Around) (outer : List PySem.Env) (s : Shared) (H : Hp) (vs : List V) (Q : VK) (E : XK), Room k (A.deeper (envOfC qual (defScope st) s.heap.objs.size f cdv)) → sp vs H Q E →
      ∃ t, PSs (cxOf CX0 P w K mg base N qual (defScope st) f cdv A outer s H E).nox (defBody st) t ∧ t { nx := fun _ H' => Q .non H', rt := Q } (start N vs) H) : Has CX0 P w K mg base (k + 1) x ps sp := by
  obtain ⟨f, fd, F, g, b⟩ := D.ex
  exact ⟨f, fd, g, F.kp, b, F.ok S len (hbody f)⟩
theorem def_okX {x qual : Str} {st : Stmt} {N ps : List Str} {k : Nat} {sp : Sp} (D : Def K mg x qual st ps) (S : FnScope N ps (defScope st)) (len : ∀ vs H Q E, sp vs H Q E → vs.length = ps.length)
    (hbody : ∀ (f : Addr) (cdv : Value) (A : Around) (outer : List PySem.Env) (s : Shared) (H : Hp) (vs : List V) (Q : VK) (E : XK), Room k (A.deeper (envOfC qual (defScope st) s.heap.objs.size f cdv)) → sp vs H Q E →
      ∃ t, PSs (cxOf (L2.CX P w) P w K mg base N qual (defScope st) f cdv A outer s H E) (defBody st) t ∧ t { nx := fun _ H' => Q .non H', rt := Q } (start N vs) H) : Has (L2.CX P w) P w K mg base (k + 1) x ps sp := by
  obtain ⟨f, fd, F, g, b⟩ := D.ex
  exact ⟨f, fd, g, F.kp, b, F.okX S len (hbody f)⟩
end
end
section
variable {X : Cx} {CX : CXT} {k j : Nat} {ps : List Str} {sp : Sp} {E : XK} {x : Str} {p pos : Pos} {e : Expr} {es : List Expr} {t : TA}
theorem pe_has (c : Has CX X.prog X.w X.K X.mg X.base k x ps sp) (hr : Room j X.A) (hk : k ≤ j) (hg : Gl X x) (hx : Passes CX X E)
    (ha : PA X (e :: es) t) (hdb : (x == ("__debug__" : Str)) = false := by decide) (he : starEach (e :: es) X.env = (false, eval e X.env) :: starEach es X.env := by rfl) (hpl : (backTo pos (starEach es X.env)).any (·.1) = false := by rfl) :
    PE X (.Call (.Name x p) (e :: es) [] pos) (tCall sp [] E t) := by
  obtain ⟨f, fd, h1, h2, h3, h4⟩ := c.ex
  exact pe_call h4 (hr.mono hk) hg h1 h2 h3 .nil hx ha hdb he hpl
end
section
variable {K : PySem.W.Frag} {ta tb tc te tl : TE} {d : DE}
/-! ### isinstance -/
class TyR (α : Type) [Rep α] where
  nm : String
  ty : ∀ {K : PySem.W.Frag} {H : Hp} {v : V} {a : α}, rep H v a → TyX K H v (.type nm)
instance : TyR Int := ⟨"int", fun h => by rw [h]; exact .base (.int _)⟩
instance : TyR Bool := ⟨"bool", fun h => by rw [h]; exact .base (.bl _)⟩
instance : TyR Str := ⟨"str", fun h => by rw [h]; exact .base (.str _)⟩
instance {α β : Type} [Rep α] [Rep β] : TyR (α × β) := ⟨"tuple", fun ⟨p, x, y, h1, h2, _⟩ => by rw [h1]; exact .base (.tup h2)⟩
instance {α β γ : Type} [Rep α] [Rep β] [Rep γ] : TyR (T3 α β γ) := ⟨"tuple", fun ⟨p, x, y, z, h1, h2, _⟩ => by rw [h1]; exact .base (.tup h2)⟩
instance {α : Type} [Rep α] : TyR (List α) := ⟨"list", fun ⟨p, vs, h1, h2, _⟩ => by rw [h1]; exact .base (.lst h2)⟩
theorem ed_isi {α : Type} [Rep α] [t : TyR α] {a : α} {T : String} {b : Bool} (h : ED ta d a) (hb : kitB t.nm T = some b) : ED (tCB (rIsi K) (tCons ta (tCons (tC (.ty T)) tNil))) d b := fun B Hf O σ H E Q q =>
  h B Hf O σ H E _ fun v Hf1 H1 E1 e1 r => ⟨v, .ty T, _, _, b, rfl, .ty T, t.ty (Rep.mono E1.hf r), kit_ty hb, q _ Hf1 H1 E1 e1 rfl⟩
/-! ### sorted -/
def insI (x : Int) : List Int → List Int
  | [] => [x]
  | y :: l => if x ≤ y then x :: y :: l else y :: insI x l
def sortI : List Int → List Int
  | [] => []
  | x :: l => insI x (sortI l)
theorem insI_perm (x : Int) : ∀ l : List Int, (insI x l).Perm (x :: l)
  | [] => List.Perm.refl _
  | y :: l => by
    unfold insI
    by_cases h : x ≤ y
    · rw [if_pos h]
    · rw [if_neg h]
      exact ((insI_perm x l).cons y).trans (List.Perm.swap x y l)
theorem sortI_perm : ∀ l : List Int, (sortI l).Perm l
  | [] => List.Perm.refl _
  | x :: l => (insI_perm x _).trans ((sortI_perm l).cons x)
theorem insI_sorted (x : Int) : ∀ l : List Int, l.Pairwise (· ≤ ·) → (insI x l).Pairwise (· ≤ ·)
  | [], _ => by simp [insI]
  | y :: l, h => by
    obtain ⟨h1, h2⟩ := List.pairwise_cons.mp h
    unfold insI
    by_cases c : x ≤ y
    · rw [if_pos c]
      refine List.pairwise_cons.mpr ⟨fun z hz => ?_, h⟩
      rcases List.mem_cons.mp hz with e | hz
      · rw [e]; exact c
      · exact Int.le_trans c (h1 z hz)
    · rw [if_neg c]
      refine List.pairwise_cons.mpr ⟨fun z hz => ?_, insI_sorted x l h2⟩
      rcases List.mem_cons.mp ((insI_perm x l).mem_iff.mp hz) with e | hz
      · rw [e]; omega
      · exact h1 z hz
theorem sortI_sorted : ∀ l : List Int, (sortI l).Pairwise (· ≤ ·)
  | [] => List.Pairwise.nil
  | x :: l => insI_sorted x _ (sortI_sorted l)
theorem sorted_eq : ∀ {l m : List Int}, l.Perm m → l.Pairwise (· ≤ ·) → m.Pairwise (· ≤ ·) → l = m
  | [], m, p, _, _ => p.symm.eq_nil.symm
  | x :: l, [], p, _, _ => absurd p.length_eq (by simp)
  | x :: l, y :: m, p, hl, hm => by
    obtain ⟨a1, a2⟩ := List.pairwise_cons.mp hl
    obtain ⟨b1, b2⟩ := List.pairwise_cons.mp hm
    have e : x = y := by
      have h1 : x ≤ y := by
        rcases List.mem_cons.mp (p.mem_iff.mpr (List.mem_cons_self (a := y) (l := m))) with e | h
        · omega
        · exact a1 y h
      have h2 : y ≤ x := by
        rcases List.mem_cons.mp (p.mem_iff.mp (List.mem_cons_self (a := x) (l := l))) with e | h
        · omega
        · exact b1 x h
      omega
    subst e
    rw [sorted_eq p.cons_inv a2 b2]
theorem sortI_uniq {l m : List Int} (p : l.Perm m) (h : l.Pairwise (· ≤ ·)) : l = sortI m := sorted_eq (p.trans (sortI_perm m).symm) h (sortI_sorted m)
theorem ed_sortI {ns : List Int} (ha : ERL ta d ns) : ED (tCB (rSortedI K) (tCons ta tNil)) d (sortI ns) := fun B Hf O σ H E Q q =>
  ha B Hf O σ H E _ fun p vs Hf1 H1 E1 e1 s1 => by
    obtain ⟨h1, h2⟩ := s1 _ _ _ _ _ E1 (ex_refl _)
    rw [map_of h2] at h1
    refine ⟨p, ns, rfl, .inl (.inl h1), fun ns' r hp hs hr => ?_⟩
    rw [sortI_uniq hp hs]
    exact q _ _ _ (E1.alloc hr) (e1.trans (ex_upd (E1.fz hr))) ⟨r, _, rfl, upd_same, vals_paired _ _⟩
/-- sorted(d), the keys -/
theorem ed_sortD {β : Type} [Rep β] {m : List (Int × β)} (ha : ERD ta d m) (hl : m.length < 64) : ED (tCB (fun xs H Q => ∃ (a : Addr) (kvs : List (Key × V)) (ks : List Int), xs = [.ref a] ∧ Rd H a (.dK kvs) ∧ kvs.map (·.1) = ks.map Sum.inl ∧ ks.length < 64 ∧
    ∀ (ys : List Int) (p : Addr), ys.Perm ks → ys.Pairwise (· ≤ ·) → H p = none → Q (.ref p) (upd H p (.lst (ys.map V.int)))) (tCons ta tNil)) d (sortI (m.map (·.1))) := fun B Hf O σ H E Q q =>
  ha B Hf O σ H E _ fun p vs Hf1 H1 E1 e1 s1 => by
    obtain ⟨h1, h2⟩ := s1 _ _ _ _ _ E1 (ex_refl _)
    have keys : ∀ {vs : List (Key × V)} {m : List (Int × β)}, Paired (kvR Hf1) vs m → vs.map (·.1) = (m.map (·.1)).map Sum.inl := by
      intro vs m h
      induction h with
      | nil => rfl
      | cons r t ih => rw [List.map_cons, List.map_cons, List.map_cons, ih, r.1]
    refine ⟨p, vs, m.map (·.1), rfl, .inl h1, keys h2, by rw [List.length_map]; exact hl, fun ns' r hp hs hr => ?_⟩
    rw [sortI_uniq hp hs]
    exact q _ _ _ (E1.alloc hr) (e1.trans (ex_upd (E1.fz hr))) ⟨r, _, rfl, upd_same, vals_paired _ _⟩
/-- sorted(pairs) -/
def ltPr (a b : Int × Int) : Bool := decide (a.1 < b.1 ∨ (a.1 = b.1 ∧ a.2 < b.2))
def insP (x : Int × Int) : List (Int × Int) → List (Int × Int)
  | [] => [x]
  | y :: l => if ltPr y x = true then y :: insP x l else x :: y :: l
def sortP : List (Int × Int) → List (Int × Int)
  | [] => []
  | x :: l => insP x (sortP l)
theorem ltPr_iff {a b : Int × Int} : ltPr a b = true ↔ (a.1 < b.1 ∨ (a.1 = b.1 ∧ a.2 < b.2)) := by
  unfold ltPr
  exact decide_eq_true_iff
theorem ltPr_no {a b : Int × Int} : ltPr a b = false ↔ (b.1 < a.1 ∨ (b.1 = a.1 ∧ b.2 ≤ a.2)) := by
  unfold ltPr
  rw [decide_eq_false_iff_not]
  omega
abbrev leP (a b : Int × Int) : Prop := ltPr b a = false
theorem insP_perm (x : Int × Int) : ∀ l, (insP x l).Perm (x :: l)
  | [] => List.Perm.refl _
  | y :: l => by
    unfold insP
    by_cases h : ltPr y x = true
    · rw [if_pos h]
      exact ((insP_perm x l).cons y).trans (List.Perm.swap x y l)
    · rw [if_neg h]
theorem sortP_perm : ∀ l, (sortP l).Perm l
  | [] => List.Perm.refl _
  | x :: l => (insP_perm x _).trans ((sortP_perm l).cons x)
theorem insP_sorted (x : Int × Int) : ∀ l, l.Pairwise leP → (insP x l).Pairwise leP
  | [], _ => by simp [insP]
  | y :: l, h => by
    obtain ⟨h1, h2⟩ := List.pairwise_cons.mp h
    unfold insP
    by_cases c : ltPr y x = true
    · rw [if_pos c]
      refine List.pairwise_cons.mpr ⟨fun z hz => ?_, insP_sorted x l h2⟩
      rcases List.mem_cons.mp ((insP_perm x l).mem_iff.mp hz) with e | hz
      · rw [e]
        have c' := ltPr_iff.mp c
        exact ltPr_no.mpr (by omega)
      · exact h1 z hz
    · rw [if_neg c]
      have c' := ltPr_no.mp (Bool.not_eq_true _ ▸ c : ltPr y x = false)
      refine List.pairwise_cons.mpr ⟨fun z hz => ?_, h⟩
      rcases List.mem_cons.mp hz with e | hz
      · rw [e]
        exact ltPr_no.mpr c'
      · have := ltPr_no.mp (h1 z hz)
        exact ltPr_no.mpr (by omega)
theorem sortP_sorted : ∀ l, (sortP l).Pairwise leP
  | [] => List.Pairwise.nil
  | x :: l => insP_sorted x _ (sortP_sorted l)
theorem sortedP_eq : ∀ {l m : List (Int × Int)}, l.Perm m → l.Pairwise leP → m.Pairwise leP → l = m
  | [], m, p, _, _ => p.symm.eq_nil.symm
  | x :: l, [], p, _, _ => absurd p.length_eq (by simp)
  | x :: l, y :: m, p, hl, hm => by
    obtain ⟨a1, a2⟩ := List.pairwise_cons.mp hl
    obtain ⟨b1, b2⟩ := List.pairwise_cons.mp hm
    have e : x = y := by
      rcases List.mem_cons.mp (p.mem_iff.mpr (List.mem_cons_self (a := y) (l := m))) with e | h
      · exact e.symm
      · rcases List.mem_cons.mp (p.mem_iff.mp (List.mem_cons_self (a := x) (l := l))) with e | h'
        · exact e
        · have u1 := ltPr_no.mp (a1 y h)
          have u2 := ltPr_no.mp (b1 x h')
          exact Prod.ext (by omega) (by omega)
    subst e
    rw [sortedP_eq p.cons_inv a2 b2]
theorem sortP_uniq {l m : List (Int × Int)} (p : l.Perm m) (h : l.Pairwise leP) : l = sortP m := sortedP_eq (p.trans (sortP_perm m).symm) h (sortP_sorted m)
/-- the pair that stands at a value -/
def prOf (H : Hp) (v : V) : Int × Int := match v with
  | .ref t => match H t with
    | some (.tup [.int i, .int j]) => (i, j)
    | _ => (0, 0)
  | _ => (0, 0)
theorem prOf_is {H : Hp} {v : V} {a : Int × Int} (h : rep H v a) : prOf H v = a ∧ ∃ t, v = .ref t ∧ H t = some (.tup [.int a.1, .int a.2]) := by
  obtain ⟨p, x, y, h1, h2, h3, h4⟩ := h
  rw [show x = .int a.1 from h3, show y = .int a.2 from h4] at h2
  refine ⟨?_, p, h1, h2⟩
  rw [h1]
  unfold prOf
  simp only [h2]
theorem paired_mem {α β : Type} {F : α → β → Prop} : ∀ {xs : List α} {ys : List β}, Paired F xs ys → ∀ x ∈ xs, ∃ y ∈ ys, F x y
  | _, _, .nil, x, h => by cases h
  | _, _, .cons r t, x, h => by
    rcases List.mem_cons.mp h with e | h
    · rw [e]; exact ⟨_, List.mem_cons_self, r⟩
    · obtain ⟨y, h1, h2⟩ := paired_mem t x h
      exact ⟨y, List.mem_cons_of_mem _ h1, h2⟩
theorem prs_map {H : Hp} : ∀ {vs : List V} {ps : List (Int × Int)}, Paired (rep H) vs ps → vs.map (prOf H) = ps
  | _, _, .nil => rfl
  | _, _, .cons r t => by rw [List.map_cons, (prOf_is r).1, prs_map t]
theorem paired_of_map {H : Hp} : ∀ {vs : List V}, (∀ v ∈ vs, ∃ a : Int × Int, rep H v a) → Paired (rep H) vs (vs.map (prOf H))
  | [], _ => .nil
  | v :: vs, h => by
    obtain ⟨a, ha⟩ := h v List.mem_cons_self
    refine .cons ?_ (paired_of_map fun u hu => h u (List.mem_cons_of_mem _ hu))
    rw [(prOf_is ha).1]
    exact ha
theorem ed_sortP {ps : List (Int × Int)} (ha : ERL ta d ps) : ED (tCB (rSortedPO K) (tCons ta tNil)) d (sortP ps) := fun B Hf O σ H E Q q =>
  ha B Hf O σ H E _ fun p vs Hf1 H1 E1 e1 s1 => by
    obtain ⟨h1, h2⟩ := s1 _ _ _ _ _ E1 (ex_refl _)
    have all : ∀ v ∈ vs, ∃ a : Int × Int, rep Hf1 v a := fun v hv => by
      obtain ⟨a, _, r⟩ := paired_mem h2 v hv
      exact ⟨a, r⟩
    refine ⟨p, vs, prOf Hf1, rfl, .inl (.inl h1), fun x hx => ?_, fun ys r hs hst hr => ?_⟩
    · obtain ⟨a, ra⟩ := all x hx
      obtain ⟨e, t, et, ht⟩ := prOf_is ra
      exact ⟨t, et, by rw [e]; exact E1.hf _ _ ht⟩
    · have hp : ys.Perm vs := hst.perm
      have all' : ∀ v ∈ ys, ∃ a : Int × Int, rep Hf1 v a := fun v hv => all v (hp.mem_iff.mp hv)
      have e : ys.map (prOf Hf1) = sortP ps := by
        refine sortP_uniq ?_ ?_
        · rw [← prs_map h2]
          exact hp.map _
        · rw [List.pairwise_map]
          refine hs.imp fun {x y} h => ?_
          have h := SrtO.lexB_no.mp h
          exact ltPr_no.mpr (by omega)
      have rp := paired_of_map all'
      rw [e] at rp
      exact q _ _ _ (E1.alloc hr) (e1.trans (ex_upd (E1.fz hr))) ⟨r, _, rfl, upd_same, newReps (E1.fz hr) rp⟩
end
end TC
namespace TC
open PySem PySem.Spec L2
open Evl (Ex)
theorem shc {α : Type} [Rep α] {a b : α} (h : a = b) : Slot.sh a = Slot.sh b := congrArg (fun x => Slot.sh x) h
section
variable {K : PySem.W.Frag} {ta tb tc te tl : TE} {d : DE} {t u : TT} {P : Post} {s1 s2 ts : TS}
/-- if c: x = e -/
theorem sd_ifA {α : Type} [Rep α] {b : Bool} {i : Nat} {a old : α} (h : ET t d b) (hd : d[i]? = some (.sh old)) (h1 : b = true → ED te d a) (k : P.nx (d.set i (.sh (if b = true then a else old)))) : SD (tIfS t (tAsg te (gName i)) tNext) d P := by
  refine sd_if h (fun hb => ?_) fun hb => ?_
  · subst hb
    exact sd_asg (h1 rfl) k
  · subst hb
    refine sd_next ?_
    have e : d.set i (.sh old) = d := by
      obtain ⟨h2, h3⟩ := List.getElem?_eq_some_iff.mp hd
      rw [← h3]
      exact List.set_getElem_self h2
    rw [if_neg Bool.false_ne_true, e] at k
    exact k
theorem sd_raise {R : Hp → Prop} (h : ∀ H, P.rz H → R H) : SD (fun _ _ H => R H) d P := fun B Hf O σ H D E S => h H (S.rz H E.fr)
/-- a def that may raise: cls of bad arguments -/
def spX (pre : DE → Slot → Prop) (bad : DE → Prop) (cls : Value) : Sp := fun vs H Q E => ∃ Hf ss, Ex Hf H ∧ ShA Hf vs ss ∧ ((∃ s, pre ss s ∧
  ∀ r Hf' H' On, Ex H H' → Ex Hf Hf' → Ex Hf' H' → (∀ p, H p ≠ none → Hf p = none → Hf' p = none) → (∀ p o, On p = some o → H' p = some o ∧ H p = none ∧ Hf' p = none) → HoldV Hf' On r s → Q r H') ∨
  (bad ss ∧ ∀ H', Ex H H' → E cls none H'))
theorem spX_F {pre : DE → Slot → Prop} {bad : DE → Prop} {cls : Value} {vs : List V} {H : Hp} {Q : VK} {E : XK} (h : spF pre vs H Q E) : spX pre bad cls vs H Q E := by
  obtain ⟨Hf, ss, s, h1, h2, h3, h4⟩ := h
  exact ⟨Hf, ss, h1, h2, .inl ⟨s, h3, h4⟩⟩
theorem ed_callX {α : Type} [Rep α] {pre : DE → Slot → Prop} {bad : DE → Prop} {cls : Value} {a : α} {ss : DE} {tA : TA} {X : XK} (h : EA tA d ss) (hp : pre ss (.sh a)) : ED (tCall (spX pre bad cls) [] X tA) d a := fun B Hf O σ H E Q q =>
  h B Hf O σ H E _ fun vs Hf1 H1 E1 e1 r1 => by
    show spX pre bad cls (vs ++ []) H1 Q X
    rw [List.append_nil]
    refine ⟨Hf1, ss, E1.hf, r1, .inl ⟨.sh a, hp, fun r Hf2 H2 On k1 k2 k3 k4 k5 k6 => q r Hf2 H2 ?_ (e1.trans k2) k6⟩⟩
    refine ⟨fun p o e => k1 _ _ (E1.fr p o e), k3, fun p o e => k2 _ _ (E1.f0 p o e), fun p a b => k4 p (fun z => ?_) (E1.fo p a b), fun i p o e => ?_, E1.dj, E1.len, fun i s e => (E1.sl i s e).mono k2⟩
    · exact a (E1.Fz z)
    · obtain ⟨x, y, z⟩ := E1.ow i p o e
      exact ⟨k1 _ _ x, k4 p (by rw [x]; exact fun z => by cases z) y, z⟩
theorem eo_callX {rs : Res} {pre : DE → Slot → Prop} {bad : DE → Prop} {cls : Value} {ss : DE} {tA : TA} {X : XK} (h : EA tA d ss) (hp : pre ss (.own rs)) : EO (tCall (spX pre bad cls) [] X tA) d rs := fun B Hf O σ H E Q q =>
  h B Hf O σ H E _ fun vs Hf1 H1 E1 e1 r1 => by
    show spX pre bad cls (vs ++ []) H1 Q X
    rw [List.append_nil]
    refine ⟨Hf1, ss, E1.hf, r1, .inl ⟨.own rs, hp, fun r Hf2 H2 On k1 k2 k3 k4 k5 k6 => q r Hf2 H2 On ?_ (e1.trans k2) ⟨fun p o e => (k5 p o e).1, fun p h => ?_, fun p h => ?_, fun p h i => ?_⟩ k6⟩⟩
    · refine ⟨fun p o e => k1 _ _ (E1.fr p o e), k3, fun p o e => k2 _ _ (E1.f0 p o e), fun p a b => k4 p (fun z => ?_) (E1.fo p a b), fun i p o e => ?_, E1.dj, E1.len, fun i s e => (E1.sl i s e).mono k2⟩
      · exact a (E1.Fz z)
      · obtain ⟨x, y, z⟩ := E1.ow i p o e
        exact ⟨k1 _ _ x, k4 p (by rw [x]; exact fun z => by cases z) y, z⟩
    · cases w : On p with
      | none => exact absurd w h
      | some u => exact (k5 p u w).2.2
    · cases w : On p with
      | none => exact absurd w h
      | some u => exact E1.Fz (k5 p u w).2.1
    · cases w : On p with
      | none => exact absurd w h
      | some u => exact E1.Oz (k5 p u w).2.1 i
theorem fn_sdX {pre : DE → Slot → Prop} {bad : DE → Prop} {cls : Value} {N : List Str} {vs : List V} {H : Hp} {Q : VK} {E : XK} {t : TS} (h : spX pre bad cls vs H Q E)
    (h1 : ∀ ss s, pre ss s → SD t (ss ++ List.replicate (N.length - ss.length) .un) { nx := fun _ => s = .sh (), rt := fun _ s' => s' = s })
    (h2 : ∀ ss, bad ss → SD t (ss ++ List.replicate (N.length - ss.length) .un) { nx := fun _ => False, rt := fun _ _ => False, rz := fun H => E cls none H }) : t { nx := fun _ H' => Q .non H', rt := Q } (start N vs) H := by
  obtain ⟨Hf, ss, a1, a2, ⟨s, a3, a4⟩ | ⟨a3, a4⟩⟩ := h
  · exact fn_sd (pre := pre) (E := E) ⟨Hf, ss, s, a1, a2, a3, a4⟩ h1
  · exact h2 ss a3 ⟨H, Hf⟩ Hf (fun _ => noHp) (start N vs) H _ (env_start a1 a2) ⟨fun _ _ _ _ _ z => z.elim, fun _ _ _ _ _ _ _ _ z => z.elim, fun _ _ _ _ _ z => z.elim, fun _ _ _ _ _ z => z.elim, fun H' e => a4 H' e⟩
theorem spX_len {pre : DE → Slot → Prop} {bad : DE → Prop} {cls : Value} {n : Nat} (h : ∀ ss s, pre ss s → ss.length = n) (h' : ∀ ss, bad ss → ss.length = n) : ∀ vs H Q E, spX pre bad cls vs H Q E → vs.length = n := fun vs H Q E ⟨Hf, ss, h1, h2, h3⟩ => by
  rw [h2.length]
  rcases h3 with ⟨s, h3, _⟩ | ⟨h3, _⟩
  · exact h ss s h3
  · exact h' ss h3
/-- a value as it is -/
structure Raw where
  v : V
instance rpRaw : Rep Raw := ⟨fun _ v a => v = a.v, fun _ h => h⟩
/-- an except suite whose exception's class is known -/
def tKnown (cls C : Value) (o : Option Addr) (t : TS) : TS := fun D σ H => cls = C ∧ o = none ∧ t D σ H
theorem pss_known {X : Cx} {cls C : Value} {o : Option Addr} {body : List Stmt} {t : TS} (h : cls = C → o = none → PSs X body t) : PSs X body (tKnown cls C o t) :=
  ⟨fun pins s σ H D I q => (h q.1 q.2.1).run pins s σ H D I q.2.2⟩
theorem ed_isE {Dd a : Addr} {i : Nat} {c : V} {cv : Value} {b : Bool} (hd : d[i]? = some (.sh (Raw.mk (.ref a)))) (hc : ∀ u, RelV c u → u = cv) (hk : PySem.W.kitOne K (.ref Dd) cv = some b) : ED (tCB (rIsE K Dd a) (tCons (tVar i) (tCons (tC c) tNil))) d b := fun B Hf O σ H E Q q => by
  obtain ⟨v, h1, h2⟩ := E.get hd
  exact ⟨v, h1, c, cv, b, by rw [show v = V.ref a from h2], hc, hk, q _ Hf H E (ex_refl _) rfl⟩
/-- try: f(..) / except X as n: suite, where f raises -/
theorem sd_tryX {pre : DE → Slot → Prop} {bad : DE → Prop} {cls c : Value} {ss : DE} {tA : TA} {i : Nat} {tsu : Addr → Value → Option Addr → TS} {Wout : WX} (h : EA tA d ss) (hb : bad ss) (he : PySem.W.exmOne K cls c = some true)
    (hs : ∀ a, SD (tsu a cls none) (d.set i (.sh (Raw.mk (.ref a)))) { P with nx := fun d' => P.nx (d'.set i .un), bk := fun d' => P.bk (d'.set i .un), ct := fun d' => P.ct (d'.set i .un) }) :
    SD (fun D σ H => (fun W => tDrop (tCallS (spX pre bad cls) (WE W) tA)) (wAs K c i tsu Wout D) D σ H) d P := fun B Hf O σ H D E S =>
  h B Hf O σ H E _ fun vs Hf1 H1 E1 e1 r1 => by
    refine ⟨Hf1, ss, E1.hf, r1, .inr ⟨hb, fun H2 e2 => ⟨true, he, fun _ a ha => ?_, fun z => by cases z⟩⟩⟩
    have E2 : Env B Hf1 O d σ H2 := ⟨fun p o e => e2 _ _ (E1.fr p o e), fun p o e => e2 _ _ (E1.hf p o e), E1.f0, E1.fo, fun i p o e => ⟨e2 _ _ (E1.ow i p o e).1, (E1.ow i p o e).2⟩, E1.dj, E1.len, E1.sl⟩
    have un : ∀ {d' : DE} {Hf' : Hp} {O' : Nat → Hp} {σ' : St} {H' : Hp}, Env B Hf' O' d' σ' H' → Env B Hf' O' (d'.set i .un) (σ'.set i none) H' := fun {d' Hf' O' σ' H'} E' => by
      refine ⟨E'.fr, E'.hf, E'.f0, E'.fo, E'.ow, E'.dj, by rw [List.length_set, List.length_set]; exact E'.len, fun j s' e => ?_⟩
      rw [getElem?_setS] at e
      by_cases z : i = j ∧ j < d'.length
      · rw [if_pos z] at e
        rw [← Option.some.inj e]
        trivial
      · rw [if_neg z] at e
        rw [getElem?_set, if_neg (fun x => z ⟨x.1, by rw [E'.len]; exact x.2⟩)]
        exact E'.sl j s' e
    exact hs a B Hf1 O _ H2 _ (E2.setS (a := Raw.mk (.ref a)) rfl) ⟨fun d' Hf' O' σ' H' q E' => S.nx _ _ _ _ _ q (un E'), S.rt, fun d' Hf' O' σ' H' q E' => S.bk _ _ _ _ _ q (un E'), fun d' Hf' O' σ' H' q E' => S.ct _ _ _ _ _ q (un E'), S.rz⟩
end
end TC
namespace TC
open PySem PySem.Spec L2
/-! the layer's rules with the written part named -/
section
variable {X : Cx} {K : PySem.W.Frag}
theorem ix_listK (h : X.K = K := by rfl) : IxR X (rIxL K) := by subst h; exact ix_list
theorem ix_tupK (h : X.K = K := by rfl) : IxR X (rIxT K) := by subst h; exact ix_tup
theorem sl_listK (h : X.K = K := by rfl) : SlR X (rSlL K) := by subst h; exact sl_list
theorem call_lenK (h : X.K = K := by rfl) : CallR X (.builtin "len") (fun xs H Q => ∃ p ys, xs = [.ref p] ∧ (SqL K H p ys ∨ SqT K H p ys) ∧ Q (.int ys.length) H) := by subst h; exact call_len_seq
theorem call_listK (h : X.K = K := by rfl) : CallR X (.type "list") (fun xs H Q => ∃ p ys, xs = [.ref p] ∧ (SqL K H p ys ∨ SqT K H p ys) ∧ ∀ l, H l = none → Q (.ref l) (upd H l (.lst ys))) := by subst h; exact call_list_of
theorem cr_sumK (hc : X.calm = true) (h : X.K = K := by rfl) : CallR X (.builtin "sum") (rSum K) := by subst h; exact cr_sum hc
theorem cr_sortedPK (h : X.K = K := by rfl) : CallR X (.builtin "sorted") (rSortedPO K) := by subst h; exact cr_sortedPO
theorem cr_sortedIK (h : X.K = K := by rfl) : CallR X (.builtin "sorted") (rSortedI K) := by subst h; exact cr_sortedI
theorem call_isiK1 (h : X.K = K := by rfl) : CallR X (.builtin "isinstance") (rIsi K) := by subst h; exact call_isi
theorem op_inK (h : X.K = K := by rfl) : OpR X (compareOp .In) (rIn K false) := by subst h; exact op_in_seq
theorem op_notinK (h : X.K = K := by rfl) : OpR X (compareOp .NotIn) (rIn K true) := by subst h; exact op_notIn_seq
theorem op_eqDK (hu : X.A.units + 64 < cLine) (h : X.K = K := by rfl) : OpR X (compareOp .Eq) (rEqD K) := by subst h; exact op_eqD hu
theorem op_neDK (hu : X.A.units + 64 < cLine) (h : X.K = K := by rfl) : OpR X (compareOp .NotEq) (rNeD K) := by subst h; exact op_neD hu
theorem mt_indexK (h : X.K = K := by rfl) : MtR X "list.index" (rIndex K) := by subst h; exact mt_index
variable {e e2 o tg l : Expr} {es : List Expr} {te to tl : TE} {ta : TA} {p pos tpos apos cpos : Pos} {elts : List Expr} {kk : Nat}
theorem pi_listK (hl : PE X l tl) (h : X.K = K := by rfl) : PI X tg l (iList K tl) := by subst h; exact pi_list hl
theorem pi_enumK (hg : Gl X "enumerate") (hm : X.mg "enumerate" = none) (ha : PA X [e] ta) (h : X.K = K := by rfl) (hs : starEach [e] X.env = [(false, eval e X.env)] := by rfl) :
    PI X (.Tuple elts kk tpos) (.Call (.Name "enumerate" p) [e] [] pos) (iEnum K ta) := by subst h; exact pi_enum hg hm ha hs
theorem pi_zipK (hg : Gl X "zip") (hm : X.mg "zip" = none) (ha : PA X [e, e2] ta) (h : X.K = K := by rfl)
    (hs : starEach [e, e2] X.env = (false, eval e X.env) :: starEach [e2] X.env := by rfl) (hpl : (backTo pos (starEach [e2] X.env)).any (·.1) = false := by rfl) :
    PI X (.Tuple elts kk tpos) (.Call (.Name "zip" p) [e, e2] [] pos) (iZip K ta) := by subst h; exact pi_zip hg hm ha hs hpl
theorem pi_reversedK (hg : Gl X "reversed") (hm : X.mg "reversed" = none) (ha : PA X [e] ta) (h : X.K = K := by rfl) (hs : starEach [e] X.env = [(false, eval e X.env)] := by rfl) :
    PI X tg (.Call (.Name "reversed" p) [e] [] pos) (iRev K ta) := by subst h; exact pi_reversed hg hm ha hs
theorem pg_tupK {ts : List Expr} {k : Nat} {t : TGs} (n : Nat) (hc : X.calm = true) (hp : PGs X ts t) (h : X.K = K := by rfl)
    (hn : (assignEach ts X.env).length = n := by rfl) (hst : (assignEach ts X.env).findIdx? (·.1) = none := by rfl) : PG X (.Tuple ts k pos) (gTup K n t) := by subst h; exact pg_tup hc hp hn hst
theorem pe_appK (ho : PE X o to) (ha : PE X e te) (h : X.K = K := by rfl)
    (hbase : attributeBase o "append" X.env (eval o X.env) = eval o X.env := by rfl)
    (hfew : ((backTo cpos (starEach [e] X.env)).all (fun x => !x.1) && (backToKw cpos (keywordEach [] X.env)).all (fun x => x.1.isSome)
      && decide (([e] : List Expr).length + ([] : List Keyword).length + (if ([] : List Keyword).isEmpty then 0 else 1) < 30)) = true := by rfl)
    (hline : (apos.endLine == cpos.line) = true := by rfl) (hs : starEach [e] X.env = (false, eval e X.env) :: starEach [] X.env := by rfl) (hplain : (backTo cpos (starEach [] X.env)).any (·.1) = false := by rfl) :
    PE X (.Call (.Attribute o "append" apos) [e] [] cpos) (tBM K "list" rAppend to (tCons te tNil)) := by
  subst h
  exact pe_bm PySem.F.plainAttrs_list PySem.F.slot_list_append PySem.F.type_list_append mt_append ho (pa_cons ha pa_nil hs) hbase hfew hline hs hplain
end
end TC
namespace TC
open PySem PySem.Spec L2
/-- a class of an exception, without own __init__ -/
structure XC (K : PySem.W.Frag) (mg : Str → Option Value) (x : Str) (C : Addr) : Prop where
  gC : mg x = some (.ref C)
  xC : PySem.W.excIn K C [.type "ValueError", .type "Exception", .type "BaseException", .type "object"] "ValueError.__new__" = true
  kC : PySem.W.keepIn K (.ref C) = true
  bC : PySem.W.subIn K (.ref C) (.type "BaseException") = some true
  tC : PySem.W.typeIn K (.ref C) = some (.type "type")
section
variable {X : Cx} {k j : Nat} {ps : List Str} {sp : Sp} {E : L2.St → XK} {x : Str} {p pos : Pos} {e : Expr} {es : List Expr} {t : TA}
theorem pe_hasS (c : Has (L2.CX X.prog X.w) X.prog X.w X.K X.mg X.base k x ps sp) (hr : Room j X.A) (hk : k ≤ j) (hg : Gl X x) (hx : ∀ σ, PassesAt (L2.CX X.prog X.w) X σ (E σ))
    (ha : PA X (e :: es) t) (hdb : (x == ("__debug__" : Str)) = false := by decide) (he : starEach (e :: es) X.env = (false, eval e X.env) :: starEach es X.env := by rfl) (hpl : (backTo pos (starEach es X.env)).any (·.1) = false := by rfl) :
    PE X (.Call (.Name x p) (e :: es) [] pos) (tCallS sp E t) := by
  obtain ⟨f, fd, h1, h2, h3, h4⟩ := c.ex
  exact pe_callS h4 (hr.mono hk) hg h1 h2 h3 hx ha hdb he hpl
end
theorem def_mk {K : PySem.W.Frag} {h : Heap} {mg : Str → Option Value} {x qual : Str} {st : Stmt} {f : Addr} {oc : Value} {od an : Option Addr} {osl : Array (Option Value)} {kV doc pm cdv ct : Value} {ps : List Str} {X : K.In h} (G : h.Ns mainGlobals mg)
    (a : PySem.W.nsIn K mainGlobals x = some (some (.ref f))) (l : K.lookup f = some ⟨oc, od, .func (PySem.W.fnOf x qual (defArgs st) (defBody st) (defScope st) .none kV doc pm an cdv ct), osl⟩) (c : PySem.W.codeIn K cdv qual = true) (k : PySem.W.keepIn K (.ref f) = true)
    (hb : ∀ (kV doc pm : Value) (an : Option Addr) (cdv ct : Value) (us : List Value), us.length = ps.length → bindArgs (PySem.W.fnOf x qual (defArgs st) (defBody st) (defScope st) .none kV doc pm an cdv ct) ⟨us, []⟩ = pure (ps.zip us)) : Def K mg x qual st ps :=
  ⟨f, _, fun_mk (st := st) l c k, PySem.W.mg_of X G a, (fun_mk (st := st) l c k).binds hb⟩
theorem law_sp_of {K : PySem.W.Frag} {pre : DE → Slot → Prop} {H : Hp} {a : Addr} {ns : List Int} (hp : pre [.sh (Scr.mk (K := K) ns)] (.sh true)) (hS : SqL K H a (ns.map V.int)) : spF pre [.ref a] H (fun v _ => v = .bl true) (fun _ _ _ => False) :=
  ⟨H, [.sh (Scr.mk (K := K) ns)], .sh true, fun _ _ e => e, ⟨⟨a, rfl, hS⟩, trivial⟩, hp, fun r Hf' H' On _ _ _ _ _ h => h⟩
theorem sd_known {cls : Value} {t : TS} {d : DE} {P : Post} (h : SD t d P) : SD (tKnown cls cls none t) d P := fun B Hf O σ H D E S => ⟨rfl, rfl, h B Hf O σ H D E S⟩
/-! ### == of data -/
class Dat (α : Type) [Rep α] where
  dat : α → PyData
  dp : ∀ {K : PySem.W.Frag} {H : Hp} {v : V} {a : α}, rep H v a → Dp K H v (dat a)
  lay : ∀ a, (dat a).canLay0 = true
  dep : Nat
  depth : ∀ a, (dat a).depth ≤ dep
  eqv : ∀ a b, PyData.eqv (dat a) (dat b) = true ↔ a = b
instance : Dat Int := ⟨.int, fun h => by rw [h]; exact .int _, fun _ => rfl, 0, fun _ => Nat.le_refl _, fun a b => by show (a == b) = true ↔ _; exact beq_iff_eq⟩
instance : Dat Bool := ⟨.bool, fun h => by rw [h]; exact .bl _, fun _ => rfl, 0, fun _ => Nat.le_refl _, fun a b => by show (a == b) = true ↔ _; exact beq_iff_eq⟩
theorem eqvAll2 (a b c d : PyData) : PyData.eqv (.tuple [a, b]) (.tuple [c, d]) = (PyData.eqv a c && PyData.eqv b d) := by
  simp [PyData.eqv, PyData.eqvAll]
theorem eqvAll3 (a b c d e f : PyData) : PyData.eqv (.tuple [a, b, e]) (.tuple [c, d, f]) = (PyData.eqv a c && (PyData.eqv b d && PyData.eqv e f)) := by
  simp [PyData.eqv, PyData.eqvAll]
instance {α β : Type} [Rep α] [Rep β] [da : Dat α] [db : Dat β] : Dat (α × β) where
  dat a := .tuple [da.dat a.1, db.dat a.2]
  dp := fun ⟨p, x, y, h1, h2, h3, h4⟩ => by rw [h1]; exact .tup (.inl (.inl h2)) (.cons (da.dp h3) (.cons (db.dp h4) .nil))
  lay a := by simp [PyData.canLay0, PyData.canLayAll0, da.lay, db.lay]
  dep := max da.dep db.dep + 1
  depth a := by
    have := da.depth a.1
    have := db.depth a.2
    simp only [PyData.depth, PyData.depthAll]
    omega
  eqv a b := by
    rw [eqvAll2, Bool.and_eq_true, da.eqv, db.eqv]
    exact ⟨fun h => Prod.ext h.1 h.2, fun h => by rw [h]; exact ⟨rfl, rfl⟩⟩
instance {α β γ : Type} [Rep α] [Rep β] [Rep γ] [da : Dat α] [db : Dat β] [dc : Dat γ] : Dat (T3 α β γ) where
  dat a := .tuple [da.dat a.a, db.dat a.b, dc.dat a.c]
  dp := fun ⟨p, x, y, z, h1, h2, h3, h4, h5⟩ => by rw [h1]; exact .tup (.inl (.inl h2)) (.cons (da.dp h3) (.cons (db.dp h4) (.cons (dc.dp h5) .nil)))
  lay a := by simp [PyData.canLay0, PyData.canLayAll0, da.lay, db.lay, dc.lay]
  dep := max da.dep (max db.dep dc.dep) + 1
  depth a := by
    have := da.depth a.a
    have := db.depth a.b
    have := dc.depth a.c
    simp only [PyData.depth, PyData.depthAll]
    omega
  eqv a b := by
    rw [eqvAll3, Bool.and_eq_true, Bool.and_eq_true, da.eqv, db.eqv, dc.eqv]
    obtain ⟨a1, a2, a3⟩ := a
    obtain ⟨b1, b2, b3⟩ := b
    exact ⟨fun ⟨h1, h2, h3⟩ => by cases h1; cases h2; cases h3; rfl, fun h => by cases h; exact ⟨rfl, rfl, rfl⟩⟩
section
variable {α : Type} [Rep α] [da : Dat α]
theorem dat_all {K : PySem.W.Frag} {H : Hp} : ∀ {vs : List V} {as : List α}, Paired (rep H) vs as → DpAll K H vs (as.map da.dat)
  | _, _, .nil => .nil
  | _, _, .cons r t => .cons (da.dp r) (dat_all t)
theorem lay_all : ∀ as : List α, PyData.canLayAll0 (as.map da.dat) = true
  | [] => by simp [PyData.canLayAll0]
  | a :: as => by simp [PyData.canLayAll0, da.lay, lay_all as]
theorem depth_all : ∀ as : List α, PyData.depthAll (as.map da.dat) ≤ da.dep
  | [] => by simp [PyData.depthAll]
  | a :: as => by
    have := da.depth a
    have := depth_all as
    simp only [List.map_cons, PyData.depthAll]
    omega
theorem eqv_all : ∀ as bs : List α, PyData.eqvAll (as.map da.dat) (bs.map da.dat) = true ↔ as = bs
  | [], [] => by simp [PyData.eqvAll]
  | [], b :: bs => by simp [PyData.eqvAll]
  | a :: as, [] => by simp [PyData.eqvAll]
  | a :: as, b :: bs => by
    simp only [List.map_cons, PyData.eqvAll, Bool.and_eq_true, da.eqv, eqv_all as bs, List.cons.injEq]
instance : Dat (List α) where
  dat as := .list (as.map da.dat)
  dp := fun ⟨p, vs, h1, h2, h3⟩ => by rw [h1]; exact .lst (.inl (.inl h2)) (dat_all h3)
  lay as := by simp [PyData.canLay0, lay_all]
  dep := da.dep + 1
  depth as := by
    have := depth_all as
    simp only [PyData.depth]
    omega
  eqv as bs := by
    simp only [PyData.eqv]
    exact eqv_all as bs
end
section
variable {K : PySem.W.Frag} {ta tb : TE} {d : DE}
theorem dat_dec {α : Type} [Rep α] [da : Dat α] [DecidableEq α] (a b : α) : PyData.eqv (da.dat a) (da.dat b) = decide (a = b) := by
  by_cases h : a = b
  · rw [decide_eq_true h]
    exact (da.eqv a b).mpr h
  · rw [decide_eq_false h]
    cases w : PyData.eqv (da.dat a) (da.dat b) with
    | false => rfl
    | true => exact absurd ((da.eqv a b).mp w) h
theorem dat_shaped {α : Type} [Rep α] [da : Dat α] (hd : da.dep ≤ 64) (a : α) : SeqAt.shaped (da.dat a) = true := by
  unfold SeqAt.shaped
  rw [da.lay, Bool.true_and]
  exact decide_eq_true (Nat.le_trans (da.depth a) hd)
theorem ed_eqD {α : Type} [Rep α] [da : Dat α] [DecidableEq α] {a b : α} (ha : ED ta d a) (hb : ED tb d b) (hd : da.dep ≤ 64 := by decide) : ED (tOp (rEqD K) ta tb) d (decide (a = b)) :=
  ed_op ha hb fun H Hf x y Q e r1 r2 q => ⟨_, _, da.dp (Rep.mono e r1), da.dp (Rep.mono e r2), dat_shaped hd a, dat_shaped hd b, by rw [dat_dec]; exact q _ rfl⟩
theorem ed_neD {α : Type} [Rep α] [da : Dat α] [DecidableEq α] {a b : α} (ha : ED ta d a) (hb : ED tb d b) (hd : da.dep ≤ 64 := by decide) : ED (tOp (rNeD K) ta tb) d (!decide (a = b)) :=
  ed_op ha hb fun H Hf x y Q e r1 r2 q => ⟨_, _, da.dp (Rep.mono e r1), da.dp (Rep.mono e r2), dat_shaped hd a, dat_shaped hd b, by rw [dat_dec]; exact q _ rfl⟩
end
end TC
/-! set(xs) of a list of numbers, its order kept to what sorted asks -/
namespace TCS
open PySem PySem.W PySem.Calls PyProof.Rows PyProof.V PySem.Spec L2
section
variable {P : Program} {w : World} {A : Around} {E : Value → Shared → Prop} {s : Shared}
/-- the new set's object -/
def nob (w : World) : Obj := { cls := .type "set", dict := none, data := .set #[] 0 (.fresh 0 0 (!w.params.followText "set-order")) }
/-- what is left behind: the set of ns at the next address -/
def Left (w : World) (s : Shared) (ns : List Int) (s' : Shared) : Prop := ∃ h' tk c, s' = { s with heap := h', toks := tk } ∧ SetR w h' s.heap.objs.size (fun j => decide (j ∈ ns)) c ∧ c ≤ ns.length ∧ ∀ b o, s.heap.get? b = some o → h'.get? b = some o
theorem left_of {ns : List Int} {s' : Shared} {I : Addr} {it : Obj} (c : Nat) (hc : c ≤ ns.length) (hI : I = (s.heap.push (nob w)).objs.size)
    (m : Moved [s.heap.objs.size, I] (fun a b => b = a) { s with heap := (s.heap.push (nob w)).push it } s') (r : SetR w s'.heap s.heap.objs.size (fun j => decide (j ∈ ns)) c) : Left w s ns s' := by
  obtain ⟨hp, g, d, tk, os⟩ := s'
  have e1 : g = s.gens := m.gens
  have e2 : d = s.drawn := m.drawn
  have e3 : os = s.os := m.os
  rw [e1, e2, e3]
  refine ⟨hp, tk, c, rfl, r, hc, fun b o q => ?_⟩
  have lt := Heap.lt_size q
  refine m.heap b o ?_ (Heap.get?_push_of_some _ (Heap.get?_push_of_some _ q))
  intro hm
  rw [hI, Heap.size_push] at hm
  rcases List.mem_cons.mp hm with z | z
  · exact absurd lt (by rw [z]; exact Nat.lt_irrefl _)
  · rw [List.mem_singleton.mp z] at lt
    exact absurd lt (Nat.not_lt.mpr (Nat.le_succ _))
set_option maxHeartbeats 8000000 in
theorem call_set_ints {l : Addr} {its : Array Value} (ns : List Int) {Q : Value → Shared → Prop} (calm : A.handled = none) (hl : s.heap.IsList l its) (hi : IntsAre its.toList ns) (room : ns.length + 1 < scanBound)
    (done : ∀ s', Left w s ns s' → Q (.ref s.heap.objs.size) s') : wpAny (model P w) A (call (.type "set") [.ref l]) Q E s := by
  have isz : its.size = ns.length := by rw [← Array.length_toList]; exact IntsAre.length hi
  obtain ⟨mc, mt, hmro⟩ := F.called_set.mro
  have u1 := F.called_set.made
  have u2 := F.called_set.sub
  have u3 := F.called_set.notType
  have u4 := F.called_set.canCreate
  have u5 := F.typeCall_set_1 (.ref l)
  refine wpAny_call (codeAny_of_tree (show wpAny _ _ (callAny (.type "set") _) _ _ _ from wpAny_pure ⟨Code.quiet_builtin _ (by decide +kernel), codeAny_builtin F.entry_type_call ?_⟩))
  rw [Around.under_plain (weight_type_call_type "set" [.ref l] []) rfl]
  repeat (any_goals (first | assumption | wp_step))
  refine codeAny_mono (code_set_led1 (w := w) (.ref l) (E := E) (Q₁ := fun obj t => obj = .ref s.heap.objs.size ∧ t = { s with heap := s.heap.push (nob w) }) ⟨rfl, rfl⟩) fun r t hr => ?_
  cases r with
  | error e => exact hr
  | ok fl =>
    cases fl with
    | ret obj =>
      obtain ⟨rfl, rfl⟩ := hr
      have hS : (s.heap.push (nob w)).get? s.heap.objs.size = some (nob w) := Heap.get?_push_size _ rfl
      have hT : Shared.TypeIs { s with heap := s.heap.push (nob w) } (.ref s.heap.objs.size) "set" := ⟨_, hS, rfl⟩
      have v1 := F.called_set.init.lookup
      have v2 := F.called_set.init.bind (.ref s.heap.objs.size)
      repeat (any_goals (first | assumption | wp_step))
      refine codeAny_mono (codeAny_call_builtin (R := wants (fun r t => r = .none ∧ Left w s ns t) E) F.called_set.init.plain F.entry_set_init (check_set_init_1 hT ?_)) fun r2 t2 hr2 => ?_
      · have hl1 : (s.heap.push (nob w)).IsList l its := hl.push _
        obtain ⟨ol, hol, hcl, nl, hdl⟩ := hl
        obtain ⟨oc, odi, oda, osl⟩ := ol
        simp only at hcl hdl
        subst hcl hdl
        have hol1 : (s.heap.push (nob w)).get? l = some { cls := .type "list", dict := odi, data := .seq its nl, slots := osl } := Heap.get?_push_of_some _ hol
        have w1 := F.sub_list_set
        have w2 := F.sub_list_frozenset
        have w3 : (Value.type "list" == Value.type "dict") = false := by decide
        unfold Builtin.«set.__init__» noKeywords Builtin.Frozenset.updateFrom
        generalize hPI : pyIter = PI
        wp_walk
        subst hPI
        refine wpAny_pyIter_list hl1 (wpAny_bind (wpAny_runValue ?_))
        have ltS : l < s.heap.objs.size := Heap.lt_size hol
        have calm3 : A.in1.in1.in1.handled = none := by simp [calm]
        have size1 : (s.heap.push (nob w)).objs.size = s.heap.objs.size + 1 := Heap.size_push ..
        have neI : l ≠ (s.heap.push (nob w)).objs.size := by rw [size1]; exact Nat.ne_of_lt (Nat.lt_succ_of_lt ltS)
        have off : s.heap.objs.size ∉ [(s.heap.push (nob w)).objs.size, l] := by
          intro hm
          rw [size1] at hm
          rcases List.mem_cons.mp hm with z | z
          · exact absurd z (Nat.ne_of_lt (Nat.lt_succ_self _))
          · exact absurd (List.mem_singleton.mp z) (Nat.ne_of_gt ltS)
        have val : ∀ (i : Nat) (v : Value), its[i]? = some v → ∃ k t, ns[i]? = some k ∧ v = .int k t := by
          intro i v hv
          have hlt : i < ns.length := by rw [← isz]; exact (Array.getElem?_eq_some_iff.mp hv).1
          obtain ⟨t, e⟩ := IntsAre.int_at hi i v (by rw [Array.getElem?_toList]; exact hv)
          rw [List.getD_eq_getElem?_getD, List.getElem?_eq_getElem hlt] at e
          exact ⟨ns[i], t, List.getElem?_eq_getElem hlt, e⟩
        refine set_update_ints ((Walks.list calm3 _ l neI its).toS) s.heap.objs.size off ns isz room val its.size 0 _ (Nat.sub_zero _) (Nat.zero_le _) ⟨⟨_, Heap.get?_push_size _ rfl, rfl, rfl⟩, hl1.push _⟩ ?h0 ?h1
        case h0 => exact ⟨0, Nat.le_refl 0, setR_new_at (Heap.get?_push_of_some _ hS)⟩
        case h1 =>
          intro t c m hc r
          show wpAny _ _ _ _ _ _
          refine wpAny_pure ?_
          show wpAny _ _ (ret Value.none) _ _ _
          refine wpAny_pure ⟨rfl, ?_⟩
          exact left_of c (by rw [← isz]; exact hc) rfl m r
      · cases r2 with
        | error e => exact hr2
        | ok fl2 =>
          cases fl2 with
          | ret r =>
            obtain ⟨rfl, L⟩ := hr2
            repeat (any_goals (first | assumption | wp_step))
            exact done _ L
          | _ => exact hr2.elim
    | _ => exact hr.elim
end
end TCS
namespace TC
open PySem PySem.Spec L2
open Evl (Ex)
/-! ### sorted(set(xs)) -/
section
open PyProof.Rows
variable {X : Cx}
def rSetI (K : PySem.W.Frag) (w : World) : List V → Hp → VK → Prop := fun vs H Q => ∃ (l : Addr) (ns M : List Int), vs = [V.ref l] ∧ SqL K H l (ns.map V.int) ∧ ns.length ≤ 4000 ∧ (∀ k ∈ ns, k ∈ M) ∧
  ∀ (a : Addr) (c : Nat), H a = none → c ≤ M.length → Q (.ref a) (upd H a (SetO w a (fun j => decide (j ∈ ns)) c))
theorem nodup_len : ∀ {l m : List Int}, l.Nodup → (∀ x ∈ l, x ∈ m) → l.length ≤ m.length
  | [], m, _, _ => Nat.zero_le _
  | x :: l, m, h, hs => by
    obtain ⟨h1, h2⟩ := List.nodup_cons.mp h
    have hx := hs x List.mem_cons_self
    have := nodup_len (m := m.erase x) h2 fun y hy => (List.mem_erase_of_ne (fun z => h1 (by rw [← z]; exact hy))).mpr (hs y (List.mem_cons_of_mem _ hy))
    rw [List.length_erase_of_mem hx] at this
    have : 0 < m.length := List.length_pos_of_mem hx
    rw [List.length_cons]
    omega
theorem cr_setI (hc : X.calm = true) : CallR X (.type "set") (rSetI X.K X.w) := by
  intro pins s σ H vs us Q I r h
  obtain ⟨l, ns, M, rfl, hS, hn, hM, q⟩ := h
  rw [Vals.ref1 r]
  obtain ⟨its, rv, pl, hz⟩ := I.list hS
  have hi : IntsAre its ns := rv.ints
  refine TCS.call_set_ints (w := X.w) ns (I.ok.hd hc) pl.isList (by simpa using hi) (by show ns.length + 1 < 4096; omega) fun s' L => ?_
  obtain ⟨h', tk, c, rfl, R, hcn, kp⟩ := L
  have hc2 : c ≤ M.length := by
    obtain ⟨o, es, ep, t, h1, h2, h3, h4, h5, h6, h7, h8, h9, h10⟩ := R
    rw [← h9, ← Array.length_toList, ← List.length_map (f := keyOf)]
    refine nodup_len h5 fun k hk => hM k ?_
    exact of_decide_eq_true ((h6 k).mpr hk)
  exact ⟨.ref s.heap.objs.size, upd H s.heap.objs.size (SetO X.w s.heap.objs.size (fun j => decide (j ∈ ns)) c), I.laid (t' := tk) kp (Nat.le_refl _) (setO_new R), rfl, q _ c (I.hok.fresh (Nat.le_refl _)) hc2⟩
end
section
variable {X : Cx} {K : PySem.W.Frag} {w : World} {p p2 pos pos2 : Pos} {e : Expr} {te : TE}
theorem pe_sortSet (hc : X.calm = true) (hg : Gl X "sorted") (hm : X.mg "sorted" = none) (hg2 : Gl X "set") (hm2 : X.mg "set" = none) (he : PE X e te) (hK : X.K = K := by rfl) (hw : X.w = w := by rfl)
    (hs : starEach [e] X.env = (false, eval e X.env) :: starEach [] X.env := by rfl) (hs2 : starEach [.Call (.Name "set" p2) [e] [] pos2] X.env = (false, eval (.Call (.Name "set" p2) [e] [] pos2) X.env) :: starEach [] X.env := by rfl) :
    PE X (.Call (.Name "sorted" p) [.Call (.Name "set" p2) [e] [] pos2] [] pos) (tCB (rSortedSet w) (tCons (tCB (rSetI K w) (tCons te tNil)) tNil)) := by
  subst hK hw
  exact pe_callB (cr_sortedSet hc) hg hm (by decide +kernel) (pa_cons (pe_callTy (cr_setI hc) hg2 hm2 (by decide +kernel) (pa_cons he pa_nil hs) (he := hs)) pa_nil hs2) (he := hs2)
variable {d : DE} {ta : TE}
/-- the members, rising, each once -/
def sortU (ns : List Int) : List Int := sortI ns.eraseDups
theorem mem_sortI {x : Int} {l : List Int} : x ∈ sortI l ↔ x ∈ l := (sortI_perm l).mem_iff
theorem mem_sortU {x : Int} {l : List Int} : x ∈ sortU l ↔ x ∈ l := by
  unfold sortU
  rw [mem_sortI, List.mem_eraseDups]
theorem nodup_eraseDups : ∀ (n : Nat) (l : List Int), l.length ≤ n → l.eraseDups.Nodup
  | _, [], _ => by simp
  | 0, _ :: _, h => by simp at h
  | n + 1, x :: l, h => by
    rw [List.eraseDups_cons]
    refine List.nodup_cons.mpr ⟨fun hx => ?_, nodup_eraseDups n _ (Nat.le_trans (List.length_filter_le _ _) (Nat.le_of_succ_le_succ h))⟩
    have hx := List.mem_eraseDups.mp hx
    have := (List.mem_filter.mp hx).2
    simp at this
theorem lt_of_nodup : ∀ {l : List Int}, l.Pairwise (· ≤ ·) → l.Nodup → l.Pairwise (· < ·)
  | [], _, _ => .nil
  | x :: l, h, hn => by
    obtain ⟨h1, h2⟩ := List.pairwise_cons.mp h
    obtain ⟨n1, n2⟩ := List.nodup_cons.mp hn
    refine List.pairwise_cons.mpr ⟨fun y hy => ?_, lt_of_nodup h2 n2⟩
    have := h1 y hy
    have : x ≠ y := fun z => n1 (by rw [z]; exact hy)
    omega
theorem sortU_lt (l : List Int) : (sortU l).Pairwise (· < ·) := lt_of_nodup (sortI_sorted _) ((sortI_perm _).nodup_iff.mpr (nodup_eraseDups _ l (Nat.le_refl _)))
theorem lt_eq : ∀ {l m : List Int}, l.Pairwise (· < ·) → m.Pairwise (· < ·) → (∀ x, x ∈ l ↔ x ∈ m) → l = m
  | [], [], _, _, _ => rfl
  | [], y :: m, _, _, h => by have := (h y).mpr List.mem_cons_self; cases this
  | x :: l, [], _, _, h => by have := (h x).mp List.mem_cons_self; cases this
  | x :: l, y :: m, hl, hm, h => by
    obtain ⟨a1, a2⟩ := List.pairwise_cons.mp hl
    obtain ⟨b1, b2⟩ := List.pairwise_cons.mp hm
    have e : x = y := by
      rcases List.mem_cons.mp ((h x).mp List.mem_cons_self) with e | h1
      · exact e
      · rcases List.mem_cons.mp ((h y).mpr List.mem_cons_self) with e | h2
        · exact e.symm
        · have := a1 y h2
          have := b1 x h1
          omega
    subst e
    rw [lt_eq a2 b2 fun z => ⟨fun hz => ?_, fun hz => ?_⟩]
    · rcases List.mem_cons.mp ((h z).mp (List.mem_cons_of_mem _ hz)) with e | h1
      · have := a1 z hz
        omega
      · exact h1
    · rcases List.mem_cons.mp ((h z).mpr (List.mem_cons_of_mem _ hz)) with e | h1
      · have := b1 z hz
        omega
      · exact h1
theorem ed_sortSet {ns : List Int} (ha : ERL ta d ns) (hn : ns.length ≤ 4000) (hM : ∃ M : List Int, M.length < 64 ∧ ∀ k ∈ ns, k ∈ M) : ED (tCB (rSortedSet w) (tCons (tCB (rSetI K w) (tCons ta tNil)) tNil)) d (sortU ns) := fun B Hf O σ H E Q q =>
  ha B Hf O σ H E _ fun p vs Hf1 H1 E1 e1 s1 => by
    obtain ⟨h1, h2⟩ := s1 _ _ _ _ _ E1 (ex_refl _)
    rw [map_of h2] at h1
    obtain ⟨M, m1, m2⟩ := hM
    refine ⟨p, ns, M, rfl, .inl (.inl h1), hn, m2, fun a c ha hc => ⟨a, _, c, rfl, upd_same, by omega, fun ns' r g1 g2 g3 hr => ?_⟩⟩
    have e : ns' = sortU ns := lt_eq g1 (sortU_lt ns) fun k => by rw [g2, mem_sortU, decide_eq_true_iff]
    rw [e]
    have E2 := E1.allocO (o := SetO w a (fun j => decide (j ∈ ns)) c) ha
    exact q _ _ _ (E2.alloc hr) (e1.trans (ex_upd (E2.fz hr))) ⟨r, _, rfl, upd_same, vals_paired _ _⟩
end
/-! ### sorted(d.items()) -/
section
open PyProof.Rows
variable {X : Cx}
theorem Inv.atIn {pins : List (Addr × Obj)} {σ : L2.St} {H : Hp} {s : Shared} (I : L2.Inv X pins σ H s) : L2.Inv { X with A := X.A.in1 } pins σ H s :=
  ⟨⟨I.ok.mod, I.ok.kind, I.ok.glob, I.ok.blt, I.ok.above, I.ok.inj, I.ok.has, I.ok.cab, I.ok.hd, I.ok.frames, I.ok.stk, I.ok.exf, I.ok.bs, I.ok.bsz, I.ok.noex, I.ok.exfs, I.ok.funs, I.ok.frf⟩, I.os, I.bare, I.base, I.loc, I.cell, I.free, I.freeC, I.pin, I.hok, I.len⟩
theorem Inv.unIn {pins : List (Addr × Obj)} {σ : L2.St} {H : Hp} {s : Shared} (ok : X.Ok) (I : L2.Inv { X with A := X.A.in1 } pins σ H s) : L2.Inv X pins σ H s :=
  ⟨ok, I.os, I.bare, I.base, I.loc, I.cell, I.free, I.freeC, I.pin, I.hok, I.len⟩
/-- the pairs, rising -/
def rSortIt : V → Hp → VK → Prop := fun x H Q => ∃ (a : Addr) (kvs : List (Key × V)) (ps : List (Int × Int)), x = V.ref a ∧ H a = some (.dK kvs) ∧ Paired (fun kv p => kv.1 = .inl p.1 ∧ kv.2 = .int p.2) kvs ps ∧
  ∀ (H' : Hp) (l : Addr) (ts : List V), Ex H H' → H l = none → H' l = some (.lst ts) → (∀ t, t ∈ ts → ∃ b, t = V.ref b ∧ H b = none) → Paired (fun t p => ∃ b, t = V.ref b ∧ H' b = some (.tup [.int p.1, .int p.2])) ts (sortP ps) → Q (.ref l) H'
def tSortIt (te : TE) : TE := fun σ H Q => te σ H fun x H1 => rSortIt x H1 Q
theorem ps_at {prog : Program} {w : World} {kvs : List (Key × V)} {vs : List (Key × Value)} (kv : KV kvs vs) : ∀ {ps : List (Int × Int)} {es : List DictEntry}, PySem.Pairs (mixKind prog w) es vs → Paired (fun kv p => kv.1 = Sum.inl p.1 ∧ kv.2 = V.int p.2) kvs ps →
    es.length = ps.length ∧ ∀ (j : Nat) (e : DictEntry), es[j]? = some e → ∃ p t u, ps[j]? = some p ∧ e.key = Value.int p.1 t ∧ e.val = Value.int p.2 u := by
  induction kv with
  | nil =>
    intro ps es h1 h2
    cases h1
    cases h2
    exact ⟨rfl, fun j e h => by simp at h⟩
  | cons r1 t1 ih =>
    intro ps es h1 h2
    cases h1 with
    | cons g1 g2 g3 =>
      cases h2 with
      | cons r2 t2 =>
        obtain ⟨l, q⟩ := ih g3 t2
        refine ⟨by rw [List.length_cons, List.length_cons, l], fun j e h => ?_⟩
        cases j with
        | zero =>
          have e0 := Option.some.inj h
          subst e0
          have k0 := r1.1
          rw [r2.1] at k0
          rw [← k0] at g1
          obtain ⟨t, ht⟩ := Value.isInt_shape g1
          have r3 := r1.2
          rw [r2.2] at r3
          obtain ⟨u, hu⟩ := r3
          exact ⟨_, t, u, rfl, ht, by rw [g2]; exact hu⟩
        | succ j => exact q j e h
theorem paired_self {α β : Type} {F : α → β → Prop} (f : α → β) : ∀ {xs : List α}, (∀ x ∈ xs, F x (f x)) → Paired F xs (xs.map f)
  | [], _ => .nil
  | x :: xs, h => .cons (h x List.mem_cons_self) (paired_self f fun y hy => h y (List.mem_cons_of_mem _ hy))
variable {e : Expr} {te : TE} {p apos cpos pos : Pos}
theorem pe_sortItems (hc : X.calm = true) (hg : Gl X "sorted") (hm : X.mg "sorted" = none) (he : PE X e te) (hbase : attributeBase e "items" X.env (eval e X.env) = eval e X.env := by rfl) (hline : (apos.endLine == cpos.line) = true := by rfl)
    (hs : starEach [.Call (.Attribute e "items" apos) [] [] cpos] X.env = (false, eval (.Call (.Attribute e "items" apos) [] [] cpos) X.env) :: starEach [] X.env := by rfl) :
    PE X (.Call (.Name "sorted" p) [.Call (.Attribute e "items" apos) [] [] cpos] [] pos) (tSortIt te) := by
  refine ⟨fun pins s σ H Q I hq => ?_⟩
  refine wpAny_Call_Name_kw (ld_blt I hg hm PyProof.Rows.boot_sorted ?_)
  refine PyProof.Rows.callWith_builtin1 ?_ hs rfl
  rw [hs]
  show wpAny _ _ (spliced ((false, eval (.Call (.Attribute e "items" apos) [] [] cpos) X.env) :: backTo pos (starEach [] X.env))) _ _ s
  refine Calls.spliced_cons ?_
  refine wpAny_Call_method (T := "dict") (id := "dict.items") hbase rfl hline F.plainAttrs_dict F.slot_dict_items F.type_dict_items (thn (he.run pins s σ H _ I hq) fun u s1 ⟨x, H1, I1, rx, d, kvs, ps, ex, hd, hps, q⟩ => ?_)
  subst ex
  obtain rfl : u = Value.ref d := rx
  obtain ⟨hz, hs0, vs, kv, hdo⟩ := dk_of I1.hok hd
  obtain ⟨o, es, ep, ho, hx, hdat, hk1, hk2, hn⟩ := id hdo
  have raw : DT.Raw s1.heap d es ep := ⟨o, ho, hx, hdat⟩
  have I2 : L2.Inv X pins σ H1 { s1 with heap := s1.heap.push { cls := .type "dict_items", data := .fields #[.ref d] } } := I1.kept (t' := s1.toks) fun b ob q => Heap.get?_push_of_some _ q
  refine ⟨hdo.typeIs, hdo.mapOf.noDict, ?_⟩
  show wpAny _ _ (callWith cpos (.builtin "dict.items") [.ref d] [] []) _ X.xe s1
  refine method_meetsIn F.slot_dict_items F.entry_dict_items rfl (PySem.evalArgs_none ⟨rfl, hdo.typeIs, F.args_dict_items_1 _, _, meets_dict_items (mixKind X.prog X.w) d hs0, ⟨vs, hdo⟩, ?_⟩)
  refine Calls.spliced_nil ?_
  obtain ⟨lps, pa⟩ := ps_at kv hk2 hps
  have les : es.size = ps.length := by rw [← lps, Array.length_toList]
  have lkv : kvs.length = ps.length := Paired.length hps
  refine DT.sortedI (es := es) (ep := ep) (I1.ok.hd hc) ⟨_, Heap.get?_push_size _ rfl, rfl, rfl⟩ (raw.push _) (by omega) fun h' tk as hk hlt hl hG => ?_
  have las : as.length = ps.length := hl.trans les
  have nd : as.Nodup := List.Pairwise.imp (fun {a b} (h : a < b) => Nat.ne_of_lt h) hG.rise
  have old : ∀ b o, h'.get? b = some o → (h'.push { cls := .type "list", data := .seq (as.map Value.ref).toArray }).get? b = some o := fun b o e => Heap.get?_push_of_some _ e
  have kb : ∀ b o, (s1.heap.push { cls := .type "dict_items", data := .fields #[.ref d] }).get? b = some o → (h'.push { cls := .type "list", data := .seq (as.map Value.ref).toArray }).get? b = some o := fun b o e => old b o (hk b o e)
  have hob : (h'.push { cls := .type "list", data := .seq (as.map Value.ref).toArray }).get? h'.objs.size = some { cls := .type "list", data := .seq (as.map Value.ref).toArray } := Heap.get?_push_size _ rfl
  have I3 : L2.Inv X pins σ H1 { s1 with heap := h'.push { cls := .type "list", data := .seq (as.map Value.ref).toArray }, toks := tk } := I2.kept (t' := tk) kb
  have hn0 : H1 h'.objs.size = none := I2.hok.fresh (Nat.le_of_lt hlt)
  have new : ∀ b ∈ as, H1 b = none := fun b hb => I2.hok.fresh (Nat.le_of_lt (hG.above b hb))
  have ne0 : ∀ b ∈ as, b ≠ h'.objs.size := fun b hb => Nat.ne_of_lt (hG.there hb)
  have I4 : L2.Inv X pins σ (upd H1 h'.objs.size (.lst (as.map V.ref))) { s1 with heap := h'.push { cls := .type "list", data := .seq (as.map Value.ref).toArray }, toks := tk } :=
    I3.take (h' := h'.push { cls := .type "list", data := .seq (as.map Value.ref).toArray }) (t' := tk) (fun b ob _ e => e) (I2.fpOk (Nat.le_of_lt hlt) hn0) ⟨by rw [List.length_map]; omega, as.map Value.ref, 0, LiI.vals_refs as, hob⟩
  obtain ⟨H2, I5, g, qt⟩ := L2.DX.takeT (P := fun b ws => ∃ (j : Nat) (p : Int × Int), as[j]? = some b ∧ ps[j]? = some p ∧ ws = [.int p.1, .int p.2]) I2 as _ I4 nd fun b hb => by
    obtain ⟨j, hj⟩ := List.mem_iff_getElem?.mp hb
    obtain ⟨en, he, hg⟩ := hG.pairs j b hj
    rw [← Array.getElem?_toList] at he
    obtain ⟨p, t, u, e1, e2, e3⟩ := pa j en he
    rw [e2, e3] at hg
    refine ⟨Nat.le_of_lt (hG.above b hb), ?_, [.int p.1, .int p.2], ⟨j, p, hj, e1, rfl⟩, fun H3 => ⟨small 2 (by decide), [Value.int p.1 t, Value.int p.2 u], .cons ⟨t, rfl⟩ (.cons ⟨u, rfl⟩ .nil), ⟨_, old _ _ hg, rfl, 0, rfl⟩⟩⟩
    rw [upd_ne (ne0 b hb)]
    exact new b hb
  have atb : ∀ (j : Nat) (b : Addr), as[j]? = some b → ∃ p, ps[j]? = some p ∧ H2 b = some (.tup [.int p.1, .int p.2]) := fun j b hj => by
    obtain ⟨ws, ⟨i, p, h1, h2, h3⟩, h4⟩ := qt b (List.mem_of_getElem? hj)
    have eij : j = i := (List.getElem?_inj (List.getElem?_eq_some_iff.mp hj).1 nd).mp (hj.trans h1.symm)
    subst eij
    exact ⟨p, h2, by rw [h4, h3]⟩
  have rpb : ∀ b ∈ as, ∃ p : Int × Int, rep H2 (V.ref b) p := fun b hb => by
    obtain ⟨j, hj⟩ := List.mem_iff_getElem?.mp hb
    obtain ⟨p, _, h⟩ := atb j b hj
    exact ⟨p, b, _, _, rfl, h, rfl, rfl⟩
  have mp : (as.map V.ref).map (prOf H2) = ps := by
    refine List.ext_getElem? fun j => ?_
    rw [List.getElem?_map, List.getElem?_map]
    cases hj : as[j]? with
    | none =>
      have : ps[j]? = none := List.getElem?_eq_none (by rw [← las]; exact List.getElem?_eq_none_iff.mp hj)
      rw [this]
      rfl
    | some b =>
      obtain ⟨p, h1, h2⟩ := atb j b hj
      rw [h1]
      have r : rep H2 (V.ref b) p := ⟨b, _, _, rfl, h2, rfl, rfl⟩
      exact congrArg some (prOf_is r).1
  have l2 : H2 h'.objs.size = some (.lst (as.map V.ref)) := g _ _ upd_same
  have gr : ∀ b o, H1 b = some o → H2 b = some o := fun b o e => g b o (by rw [upd_ne (fun z => by rw [z, hn0] at e; cases e)]; exact e)
  have srt := mt_sortPO (X := { X with A := X.A.in1 }) pins { s1 with heap := h'.push { cls := .type "list", data := .seq (as.map Value.ref).toArray }, toks := tk } σ H2 (V.ref h'.objs.size) [] (.ref h'.objs.size) []
    (fun v H' => v = .non ∧ ∃ zs : List V, zs.Perm (as.map V.ref) ∧ zs.map (prOf H2) = sortP ps ∧ H' = upd H2 h'.objs.size (.lst zs)) (Inv.atIn I5) rfl .nil
    ⟨h'.objs.size, as.map V.ref, prOf H2, rfl, rfl, l2, fun y hy => by
        obtain ⟨b, hb, rfl⟩ := List.mem_map.mp hy
        obtain ⟨p, r⟩ := rpb b hb
        obtain ⟨e, t, e1, e2⟩ := prOf_is r
        exact ⟨t, e1, by rw [e]; exact e2⟩,
      fun zs hs hst => ⟨rfl, zs, hst.perm, (by
        refine sortP_uniq ?_ ?_
        · rw [← mp]
          exact hst.perm.map _
        · rw [List.pairwise_map]
          refine hs.imp fun {x y} h => ?_
          have h := SrtO.lexB_no.mp h
          exact ltPr_no.mpr (by omega)), rfl⟩⟩
  refine wpAny_mono srt (fun r s2 ⟨v, H', J, _, _, zs, z1, z2, z3⟩ => ?_) fun _ _ e => e
  subst z3
  refine ⟨.ref h'.objs.size, _, Inv.unIn I1.ok J, rfl, q _ h'.objs.size zs (fun b o e => ?_) hn0 upd_same (fun t ht => ?_) ?_⟩
  · rw [upd_ne (fun z => by rw [z, hn0] at e; cases e)]
    exact gr b o e
  · obtain ⟨b, hb, rfl⟩ := List.mem_map.mp (z1.mem_iff.mp ht)
    exact ⟨b, rfl, new b hb⟩
  · rw [← z2]
    refine paired_self _ fun t ht => ?_
    obtain ⟨b, hb, rfl⟩ := List.mem_map.mp (z1.mem_iff.mp ht)
    obtain ⟨p, r⟩ := rpb b hb
    obtain ⟨e, t', e1, e2⟩ := prOf_is r
    cases e1
    exact ⟨b, rfl, by rw [upd_ne (ne0 b hb), e]; exact e2⟩
end
/-! what an evaluation has grown is frozen -/
section
variable {B : Base} {Hf H H' : Hp} {O : Nat → Hp} {d : DE} {σ : L2.St}
def grown (Hf H H' : Hp) : Hp := fun p => match H p with
  | none => H' p
  | some _ => Hf p
theorem grown_new {p : Addr} (h : H p = none) : grown Hf H H' p = H' p := by unfold grown; rw [h]
theorem grown_old {p : Addr} {o : HO} (h : H p = some o) : grown Hf H H' p = Hf p := by unfold grown; rw [h]
theorem Env.grow (E : Env B Hf O d σ H) (hk : Ex H H') : Env B (grown Hf H H') O d σ H' ∧ Ex Hf (grown Hf H H') := by
  have ex : Ex Hf (grown Hf H H') := fun q u e => by
    rw [grown_old (E.hf q u e)]
    exact e
  refine ⟨⟨fun q u e => hk q u (E.fr q u e), fun q u e => ?_, fun q u e => ex q u (E.f0 q u e), fun q a b => ?_, fun i q u e => ?_, E.dj, E.len, fun i s e => (E.sl i s e).mono ex⟩, ex⟩
  · cases w : H q with
    | none => rw [grown_new w] at e; exact e
    | some o => rw [grown_old w] at e; exact hk q u (E.hf q u e)
  · cases w : H q with
    | none => exact absurd (E.Fz w) a
    | some o => rw [grown_old w]; exact E.fo q a b
  · obtain ⟨a, b, c⟩ := E.ow i q u e
    exact ⟨hk q u a, by rw [grown_old a]; exact b, c⟩
theorem rd_pairs {m : List (Int × Int)} {vs : List (Key × V)} (h : Paired (kvR Hf) vs m) : Paired (fun kv p => kv.1 = Sum.inl p.1 ∧ kv.2 = V.int p.2) vs m := L2.Paired.mapP h fun _ _ q => ⟨q.1, q.2⟩
theorem ed_sortItems {ta : TE} {m : List (Int × Int)} (ha : ERD ta d m) : ED (tSortIt ta) d (sortP m) := fun B Hf O σ H E Q q =>
  ha B Hf O σ H E _ fun p vs Hf1 H1 E1 e1 s1 => by
    obtain ⟨h1, h2⟩ := s1 _ _ _ _ _ E1 (ex_refl _)
    refine ⟨p, vs, m, rfl, h1, rd_pairs h2, fun H' l ts hk hl hL hts hp => ?_⟩
    obtain ⟨E2, e2⟩ := E1.grow hk
    refine q _ _ _ E2 (e1.trans e2) ⟨l, ts, rfl, by rw [grown_new hl]; exact hL, ?_⟩
    have all : ∀ {xs : List V} {ys : List (Int × Int)}, Paired (fun t p => ∃ b, t = V.ref b ∧ H' b = some (.tup [.int p.1, .int p.2])) xs ys → (∀ t ∈ xs, ∃ b, t = V.ref b ∧ H1 b = none) → Paired (rep (grown Hf1 H1 H')) xs ys := by
      intro xs ys h
      induction h with
      | nil => intro _; exact .nil
      | cons r t ih =>
        intro g
        refine .cons ?_ (ih fun t ht => g t (List.mem_cons_of_mem _ ht))
        obtain ⟨b, e1, e2⟩ := r
        obtain ⟨b', e3, e4⟩ := g _ List.mem_cons_self
        rw [e1] at e3
        cases e3
        exact ⟨b, _, _, e1, by rw [grown_new e4]; exact e2, rfl, rfl⟩
    exact all hp hts
end
end TC
namespace TC
open PySem PySem.Spec L2
/-! ### what a dict with whole keys holds -/
section
variable {β : Type}
def keysM (m : List (Int × β)) : List Int := m.map (·.1)
theorem dget_nil {k : Int} : dget ([] : List (Int × β)) k = none := rfl
theorem dget_cons {p : Int × β} {m : List (Int × β)} {k : Int} : dget (p :: m) k = if p.1 = k then some p.2 else dget m k := by
  unfold dget
  by_cases h : p.1 = k
  · rw [List.find?_cons_of_pos (by simpa using h), if_pos h]
    rfl
  · rw [List.find?_cons_of_neg (by simpa using h), if_neg h]
theorem any_keys {m : List (Int × β)} {k : Int} : (m.any fun p => decide (p.1 = k)) = true ↔ k ∈ keysM m := by
  unfold keysM
  rw [List.any_eq_true, List.mem_map]
  constructor
  · rintro ⟨p, h1, h2⟩
    exact ⟨p, h1, of_decide_eq_true h2⟩
  · rintro ⟨p, h1, h2⟩
    exact ⟨p, h1, decide_eq_true h2⟩
theorem dput_has {m : List (Int × β)} {k : Int} {v : β} (h : k ∈ keysM m) : dput m k v = m.map (fun p => if p.1 = k then (p.1, v) else p) := by
  unfold dput
  rw [if_pos (any_keys.mpr h)]
theorem dput_new {m : List (Int × β)} {k : Int} {v : β} (h : k ∉ keysM m) : dput m k v = m ++ [(k, v)] := by
  unfold dput
  rw [if_neg (fun z => h (any_keys.mp z))]
theorem dget_none {m : List (Int × β)} {k : Int} : dget m k = none ↔ k ∉ keysM m := by
  induction m with
  | nil => simp [dget_nil, keysM]
  | cons p m ih =>
    rw [dget_cons]
    unfold keysM at ih ⊢
    rw [List.map_cons, List.mem_cons, not_or]
    by_cases h : p.1 = k
    · rw [if_pos h]
      simp [h]
    · rw [if_neg h, ih]
      simp [Ne.symm h]
theorem dget_isSome {m : List (Int × β)} {k : Int} : (dget m k).isSome = decide (k ∈ keysM m) := by
  cases h : dget m k with
  | none => rw [decide_eq_false (dget_none.mp h)]; rfl
  | some v =>
    rw [decide_eq_true]
    · rfl
    · refine Classical.byContradiction fun z => ?_
      rw [dget_none.mpr z] at h
      cases h
theorem dget_of {m : List (Int × β)} {k : Int} (h : k ∈ keysM m) : ∃ v, dget m k = some v := by
  cases w : dget m k with
  | none => exact absurd h (dget_none.mp w)
  | some v => exact ⟨v, rfl⟩
theorem dget_key {m : List (Int × β)} {k : Int} {v : β} (h : dget m k = some v) : k ∈ keysM m := Classical.byContradiction fun z => by
  rw [dget_none.mpr z] at h
  cases h
theorem dget_mem {m : List (Int × β)} {k : Int} {v : β} (h : dget m k = some v) : (k, v) ∈ m := by
  induction m with
  | nil => cases h
  | cons p m ih =>
    rw [dget_cons] at h
    by_cases c : p.1 = k
    · rw [if_pos c] at h
      have e := Option.some.inj h
      rw [← c, ← e]
      exact List.mem_cons_self
    · rw [if_neg c] at h
      exact List.mem_cons_of_mem _ (ih h)
theorem dget_app {m n : List (Int × β)} {k : Int} : dget (m ++ n) k = (dget m k).or (dget n k) := by
  induction m with
  | nil => rw [List.nil_append, dget_nil]; rfl
  | cons p m ih =>
    rw [List.cons_append, dget_cons, dget_cons, ih]
    by_cases h : p.1 = k
    · rw [if_pos h, if_pos h]; rfl
    · rw [if_neg h, if_neg h]
theorem dget_dput {m : List (Int × β)} {k j : Int} {v : β} : dget (dput m k v) j = if j = k then some v else dget m j := by
  by_cases hk : k ∈ keysM m
  · rw [dput_has hk]
    have gen : ∀ m : List (Int × β), dget (m.map (fun p => if p.1 = k then (p.1, v) else p)) j = if j = k then (if k ∈ keysM m then some v else none) else dget m j := by
      intro m
      induction m with
      | nil => by_cases z : j = k <;> simp [dget_nil, keysM, z]
      | cons p m ih =>
        rw [List.map_cons, dget_cons, ih, dget_cons]
        have e1 : (if p.1 = k then (p.1, v) else p).1 = p.1 := by split <;> rfl
        rw [e1]
        unfold keysM
        rw [List.map_cons]
        by_cases z : j = k
        · rw [if_pos z, if_pos z]
          by_cases c : p.1 = j
          · rw [if_pos c, if_pos (c.trans z), if_pos (by rw [← z, ← c]; exact List.mem_cons_self)]
          · rw [if_neg c]
            have : (k ∈ p.1 :: m.map (·.1)) ↔ (k ∈ m.map (·.1)) := by
              rw [List.mem_cons]
              exact ⟨fun h => h.elim (fun e => absurd (e.symm.trans z.symm) c) id, Or.inr⟩
            by_cases c2 : k ∈ m.map (·.1)
            · rw [if_pos c2, if_pos (this.mpr c2)]
            · rw [if_neg c2, if_neg (fun x => c2 (this.mp x))]
        · rw [if_neg z, if_neg z]
          by_cases c : p.1 = j
          · rw [if_pos c, if_pos c, if_neg (fun x => z (c.symm.trans x))]
          · rw [if_neg c, if_neg c]
    rw [gen, if_pos hk]
  · rw [dput_new hk, dget_app, dget_cons, dget_nil]
    by_cases z : j = k
    · rw [if_pos z, z, dget_none.mpr hk, if_pos rfl]
      rfl
    · rw [if_neg z, if_neg (fun x => z x.symm), Option.or_none]
theorem keys_dput {m : List (Int × β)} {k : Int} {v : β} : keysM (dput m k v) = if k ∈ keysM m then keysM m else keysM m ++ [k] := by
  by_cases hk : k ∈ keysM m
  · rw [dput_has hk, if_pos hk]
    unfold keysM
    rw [List.map_map]
    refine List.map_congr_left fun p _ => ?_
    show (if p.1 = k then (p.1, v) else p).1 = p.1
    split <;> rfl
  · rw [dput_new hk, if_neg hk]
    unfold keysM
    rw [List.map_append]
    rfl
theorem mem_dput {m : List (Int × β)} {k j : Int} {v : β} : j ∈ keysM (dput m k v) ↔ j = k ∨ j ∈ keysM m := by
  rw [keys_dput]
  by_cases hk : k ∈ keysM m
  · rw [if_pos hk]
    exact ⟨Or.inr, fun h => h.elim (fun e => by rw [e]; exact hk) id⟩
  · rw [if_neg hk, List.mem_append, List.mem_singleton]
    exact ⟨fun h => h.symm, fun h => h.symm⟩
theorem nodup_dput {m : List (Int × β)} {k : Int} {v : β} (h : (keysM m).Nodup) : (keysM (dput m k v)).Nodup := by
  rw [keys_dput]
  by_cases hk : k ∈ keysM m
  · rw [if_pos hk]
    exact h
  · rw [if_neg hk]
    refine List.nodup_append.mpr ⟨h, by simp, fun a ha b hb => ?_⟩
    rw [List.mem_singleton.mp hb]
    exact fun e => hk (by rw [← e]; exact ha)
theorem dput_len {m : List (Int × β)} {k : Int} {v : β} : (dput m k v).length ≤ m.length + 1 := by
  by_cases hk : k ∈ keysM m
  · rw [dput_has hk, List.length_map]
    omega
  · rw [dput_new hk, List.length_append, List.length_singleton]
    omega
theorem mem_dget {m : List (Int × β)} (hn : (keysM m).Nodup) {k : Int} {v : β} : (k, v) ∈ m ↔ dget m k = some v := by
  refine ⟨fun h => ?_, dget_mem⟩
  induction m with
  | nil => cases h
  | cons p m ih =>
    have hn' : (p.1 :: keysM m).Nodup := hn
    obtain ⟨n1, n2⟩ := List.nodup_cons.mp hn'
    rw [dget_cons]
    rcases List.mem_cons.mp h with e | h
    · rw [if_pos (by rw [← e]), ← e]
    · rw [if_neg, ih n2 h]
      intro z
      exact n1 (by rw [z]; exact List.mem_map.mpr ⟨_, h, rfl⟩)
theorem keys_len {m : List (Int × β)} : (keysM m).length = m.length := List.length_map ..
theorem nodup_keys {m : List (Int × β)} (hn : (keysM m).Nodup) : m.Nodup := by
  induction m with
  | nil => exact List.nodup_nil
  | cons p m ih =>
    have hn' : (p.1 :: keysM m).Nodup := hn
    obtain ⟨n1, n2⟩ := List.nodup_cons.mp hn'
    exact List.nodup_cons.mpr ⟨fun h => n1 (List.mem_map.mpr ⟨_, h, rfl⟩), ih n2⟩
end
/-- rising by the first -/
theorem sortP_keys {m : List (Int × Int)} {l : List (Int × Int)} (hm : (keysM m).Nodup) (hl : (l.map (·.1)).Pairwise (· < ·)) (h : ∀ k n, (k, n) ∈ l ↔ dget m k = some n) : sortP m = l := by
  refine (sortP_uniq ?_ ?_).symm
  · have nl : (keysM l).Nodup := List.Pairwise.imp (fun {a b} (h : a < b) => Int.ne_of_lt h) hl
    refine (List.perm_ext_iff_of_nodup (nodup_keys nl) (nodup_keys hm)).mpr fun p => ?_
    rw [show p = (p.1, p.2) from rfl, h, mem_dget hm]
  · rw [List.pairwise_map] at hl
    exact hl.imp fun {a b} h => ltPr_no.mpr (.inl h)
theorem sortI_len {l : List Int} : (sortI l).length = l.length := (sortI_perm l).length_eq
theorem sortI_keys {β : Type} {m : List (Int × β)} (hm : (keysM m).Nodup) : (sortI (m.map (·.1))).Pairwise (· < ·) := lt_of_nodup (sortI_sorted _) ((sortI_perm _).nodup_iff.mpr hm)
/-- tiles with few marks -/
def Few (tiles : List (Int × Int)) : Prop := tiles.length ≤ 1000 ∧ ∃ M : List Int, M.length < 64 ∧ ∀ t ∈ tiles, t.1 ∈ M ∧ t.2 ∈ M
end TC
namespace TC
open PySem PySem.Spec L2
open Evl (Ex)
/-! ### list(d.values()) -/
section
open PyProof.Rows
variable {X : Cx} {e : Expr} {te : TE} {p apos cpos pos : Pos}
def rVals : V → Hp → VK → Prop := fun x H Q => ∃ (d : Addr) (kvs : List (Key × V)), x = .ref d ∧ H d = some (.dK kvs) ∧ ∀ q, H q = none → Q (.ref q) (upd H q (.lst (kvs.map (·.2))))
def tListVals (te : TE) : TE := fun σ H Q => te σ H fun x H1 => rVals x H1 Q
theorem paired_ix {α β : Type} {F : α → β → Prop} : ∀ {xs : List α} {ys : List β}, Paired F xs ys → ∀ {j : Nat} {x : α} {y : β}, xs[j]? = some x → ys[j]? = some y → F x y
  | _, _, .nil, j, x, y, h, _ => by simp at h
  | _, _, .cons r t, 0, x, y, h, g => by
    rw [← Option.some.inj h, ← Option.some.inj g]
    exact r
  | _, _, .cons r t, j + 1, x, y, h, g => paired_ix t (show _ = some x from by simpa using h) (show _ = some y from by simpa using g)
theorem pe_listVals (hc : X.calm = true) (hg : Gl X "list") (hm : X.mg "list" = none) (he : PE X e te) (hbase : attributeBase e "values" X.env (eval e X.env) = eval e X.env := by rfl) (hline : (apos.endLine == cpos.line) = true := by rfl)
    (hs : starEach [.Call (.Attribute e "values" apos) [] [] cpos] X.env = (false, eval (.Call (.Attribute e "values" apos) [] [] cpos) X.env) :: starEach [] X.env := by rfl) :
    PE X (.Call (.Name "list" p) [.Call (.Attribute e "values" apos) [] [] cpos] [] pos) (tListVals te) := by
  have hv : bootBuiltins "list" = some (.type "list") := by decide +kernel
  refine ⟨fun pins s σ H Q I hq => ?_⟩
  refine wpAny_Call_Name_kw (ld_blt I hg hm hv ?_)
  refine PyProof.Rows.callWith_type1 ?_ hs rfl
  rw [hs]
  show wpAny _ _ (spliced ((false, eval (.Call (.Attribute e "values" apos) [] [] cpos) X.env) :: backTo pos (starEach [] X.env))) _ _ s
  refine Calls.spliced_cons ?_
  refine wpAny_Call_method (T := "dict") (id := "dict.values") hbase rfl hline F.plainAttrs_dict F.slot_dict_values F.type_dict_values (thn (he.run pins s σ H _ I hq) fun u s1 ⟨x, H1, I1, rx, d, kvs, ex, hd, q⟩ => ?_)
  subst ex
  obtain rfl : u = Value.ref d := rx
  obtain ⟨hz, hs0, vs, kv, hdo⟩ := dk_of I1.hok hd
  obtain ⟨ep, hat⟩ := hdo.dictAt
  have lk : kvs.length = vs.length := Paired.length kv
  have I2 : L2.Inv X pins σ H1 { s1 with heap := s1.heap.push { cls := .type "dict_values", data := .fields #[.ref d] } } := I1.kept (t' := s1.toks) fun b ob q => Heap.get?_push_of_some _ q
  refine ⟨hdo.typeIs, hdo.mapOf.noDict, ?_⟩
  show wpAny _ _ (callWith cpos (.builtin "dict.values") [.ref d] [] []) _ X.xe s1
  refine method_meetsIn F.slot_dict_values F.entry_dict_values rfl (PySem.evalArgs_none ⟨rfl, hdo.typeIs, F.args_dict_values_1 _, _, meets_dict_values (mixKind X.prog X.w) d hs0, ⟨vs, hdo⟩, ?_⟩)
  refine Calls.spliced_nil ?_
  refine PySem.W.kdl_call (PySem.W.kdl_values (r := s1.heap.objs.size) (knd := mixKind X.prog X.w) (kvs := vs) (ep := ep)) (I1.ok.hd hc) ⟨⟨_, Heap.get?_push_size _ rfl, rfl, rfl⟩, hat.keep fun b o e => Heap.get?_push_of_some _ e⟩ (by rw [← lk]; exact hz) fun h' tk acc' c' hkeep hS hacc => ?_
  refine ⟨.ref _, _, I2.laid hkeep (Nat.le_refl _) (show ObjOk X.prog X.w _ _ _ (.lst (kvs.map (·.2))) from ⟨by rw [List.length_map]; exact hz, acc'.toList, c', ?_, ?_⟩), rfl, q _ (I2.hok.fresh (Nat.le_refl _))⟩
  · have el : acc'.toList.length = acc'.size := by simp
    refine vals_of_at (by rw [List.length_map, el, hacc.1, lk]) fun j x u h1 h2 => ?_
    obtain ⟨k, hk⟩ := hacc.2 j u (by rw [← Array.getElem?_toList]; exact h2)
    rw [List.getElem?_map] at h1
    cases hkj : kvs[j]? with
    | none => rw [hkj] at h1; cases h1
    | some y =>
      rw [hkj] at h1
      rw [← Option.some.inj h1]
      exact (paired_ix kv hkj hk).2
  · rw [Array.toArray_toList]
    exact hS
end
section
variable {ta tb te tk tv : TE} {d : DE} {K : PySem.W.Frag} {P : Post} {ts : TS}
theorem vals_rel {β : Type} [Rep β] {Hf : Hp} : ∀ {kvs : List (Key × V)} {m : List (Int × β)}, Paired (kvR Hf) kvs m → Paired (rep Hf) (kvs.map (·.2)) (m.map (·.2))
  | _, _, .nil => .nil
  | _, _, .cons r t => .cons r.2 (vals_rel t)
theorem ed_listVals {β : Type} [Rep β] {m : List (Int × β)} (ha : ERD ta d m) : ED (tListVals ta) d (m.map (·.2)) := fun B Hf O σ H E Q q =>
  ha B Hf O σ H E _ fun p vs Hf1 H1 E1 e1 s1 => by
    obtain ⟨h1, h2⟩ := s1 _ _ _ _ _ E1 (ex_refl _)
    exact ⟨p, vs, rfl, h1, fun r hr => q _ _ _ (E1.alloc hr) (e1.trans (ex_upd (E1.fz hr))) ⟨r, _, rfl, upd_same, newReps (E1.fz hr) (vals_rel h2)⟩⟩
/-- {k: v} -/
theorem eo_dict1 {β : Type} [Rep β] {k : Int} {b : β} (hk : ED tk d k) (hv : ED tv d b) : EO (tDisp [(tk, tv)]) d (odR [(k, b)]) := fun B Hf O σ H E Q q => fun p hp => by
  have E1 := E.allocO (o := .dK []) hp
  have K1 := E1.keep upd_same (E.fz hp) (E.Oz hp)
  refine hk _ Hf O σ _ K1 _ fun y Hf1 H1 E2 e2 r2 => hv _ Hf1 O σ H1 E2 _ fun z Hf2 H2 E3 e3 r3 => ?_
  have E3' : Env ⟨upd B.F p (.dK []), Hf⟩ Hf2 O d σ H2 := E3
  obtain ⟨b0, b1, b2, b3⟩ := E1.unkeep (E.Fz hp) (E.fz hp) E3'
  refine ⟨b1, [(.inl k, z)], ?_, (by show 1 ≤ 15; decide), ?_⟩
  · rw [show y = .int k from r2]
    rfl
  · refine q _ Hf2 _ (one p (.dK [(.inl k, z)])) (b0.touch b2 (E.Fz hp) b3) (e2.trans e3) ⟨fun a o h => ?_, fun a h => ?_, fun a h => ?_, fun a h i => ?_⟩ ⟨p, _, rfl, rfl, .cons ⟨rfl, r3⟩ .nil⟩
    · obtain ⟨x, y⟩ := one_of h
      rw [x, y]
      exact upd_same
    · rw [one_some h]
      exact b2
    · rw [one_some h]
      exact E.Fz hp
    · rw [one_some h]
      exact b3 i
/-! ### one's own dict of one's own lists -/
theorem paired_imp {α β : Type} {F G : α → β → Prop} : ∀ {xs : List α} {ys : List β}, Paired F xs ys → (∀ x ∈ xs, ∀ y ∈ ys, F x y → G x y) → Paired G xs ys
  | _, _, .nil, _ => .nil
  | _, _, .cons r t, h => .cons (h _ List.mem_cons_self _ List.mem_cons_self r) (paired_imp t fun x hx y hy => h x (List.mem_cons_of_mem _ hx) y (List.mem_cons_of_mem _ hy))
theorem paired_split {α β : Type} {F : α → β → Prop} : ∀ {m1 : List β} {xs : List α} {q : β} {m2 : List β}, Paired F xs (m1 ++ q :: m2) → ∃ xs1 x xs2, xs = xs1 ++ x :: xs2 ∧ Paired F xs1 m1 ∧ F x q ∧ Paired F xs2 m2
  | [], _, _, _, .cons r t => ⟨[], _, _, rfl, .nil, r, t⟩
  | _ :: _, _, _, _, .cons r t => by
    obtain ⟨xs1, x, xs2, e, h1, h2, h3⟩ := paired_split t
    exact ⟨_ :: xs1, x, xs2, by rw [e]; rfl, .cons r h1, h2, h3⟩
def nlR {α : Type} [Rep α] (Hf O : Hp) (kv : Key × V) (q : Int × List α) : Prop := kv.1 = .inl q.1 ∧ ∃ b vs, kv.2 = .ref b ∧ O b = some (.lst vs) ∧ Paired (rep Hf) vs q.2
structure NL {α : Type} [Rep α] (Hf O : Hp) (m : List (Int × List α)) (kvs : List (Key × V)) : Prop where
  nd : (keysM m).Nodup
  rel : Paired (nlR Hf O) kvs m
  ad : (kvs.map (·.2)).Nodup
def odlR {α : Type} [Rep α] (m : List (Int × List α)) : Res := ⟨fun Hf O v => ∃ p kvs, v = .ref p ∧ O p = some (.dK kvs) ∧ NL Hf O m kvs,
  fun e ⟨p, kvs, h1, h2, h3⟩ => ⟨p, kvs, h1, h2, h3.nd, paired_imp h3.rel (fun _ _ _ _ ⟨a, b, vs, c, d, r⟩ => ⟨a, b, vs, c, d, paired_mono e r⟩), h3.ad⟩⟩
abbrev odl {α : Type} [Rep α] (m : List (Int × List α)) : Slot := .own (odlR m)
theorem eo_dictl {α : Type} [Rep α] : EO tDNewK d (odlR ([] : List (Int × List α))) := fun B Hf O σ H E Q q => fun p hp => q _ Hf _ (one p (.dK [])) (E.allocO hp) (fun _ _ e => e) (newO_one E hp) ⟨p, [], rfl, one_at, .nil, .nil, .nil⟩
/-- the list at a key with one thing more -/
def dapp {α : Type} (m : List (Int × List α)) (k : Int) (x : α) : List (Int × List α) := dput m k ((dget m k).getD [] ++ [x])
theorem dput_split {β : Type} {m1 m2 : List (Int × β)} {k : Int} {v u : β} (h : (keysM (m1 ++ (k, v) :: m2)).Nodup) : dput (m1 ++ (k, v) :: m2) k u = m1 ++ (k, u) :: m2 := by
  have hk : k ∈ keysM (m1 ++ (k, v) :: m2) := List.mem_map.mpr ⟨(k, v), by simp, rfl⟩
  rw [dput_has hk]
  have h' : (keysM m1 ++ k :: keysM m2).Nodup := by
    have e : keysM (m1 ++ (k, v) :: m2) = keysM m1 ++ k :: keysM m2 := by
      unfold keysM
      rw [List.map_append, List.map_cons]
    rw [← e]
    exact h
  obtain ⟨n1, n2, n3⟩ := List.nodup_append.mp h'
  have id1 : ∀ l : List (Int × β), k ∉ keysM l → l.map (fun p => if p.1 = k then (p.1, u) else p) = l := by
    intro l hl
    refine (List.map_congr_left fun p hp => ?_).trans (List.map_id l)
    rw [if_neg (fun z => hl (List.mem_map.mpr ⟨p, hp, z⟩))]
    rfl
  rw [List.map_append, List.map_cons, id1 m1 (fun z => n3 k z k List.mem_cons_self rfl), id1 m2 (List.nodup_cons.mp n2).1, if_pos rfl]
theorem dget_split {β : Type} : ∀ {m : List (Int × β)} {k : Int} {v : β}, dget m k = some v → ∃ m1 m2, m = m1 ++ (k, v) :: m2
  | [], k, v, h => by cases h
  | p :: m, k, v, h => by
    rw [dget_cons] at h
    by_cases c : p.1 = k
    · rw [if_pos c] at h
      exact ⟨[], m, by rw [← c, ← Option.some.inj h]; rfl⟩
    · rw [if_neg c] at h
      obtain ⟨m1, m2, e⟩ := dget_split h
      exact ⟨p :: m1, m2, by rw [e]; rfl⟩
theorem nl_keys {α : Type} [Rep α] {Hf O : Hp} {kvs : List (Key × V)} {m : List (Int × List α)} (h : Paired (nlR Hf O) kvs m) : kvs.map (·.1) = (keysM m).map Sum.inl := by
  unfold keysM
  induction h with
  | nil => rfl
  | cons r t ih => rw [List.map_cons, List.map_cons, List.map_cons, ih, r.1]
theorem valV_app {kvs1 kvs2 : List (Key × V)} {k : Key} (h : k ∉ kvs1.map (·.1)) : valV (kvs1 ++ kvs2) k = valV kvs2 k := by
  induction kvs1 with
  | nil => rfl
  | cons p l ih =>
    rw [List.map_cons, List.mem_cons, not_or] at h
    rw [List.cons_append, valV_neg (fun z => h.1 z.symm), ih h.2]
/-- what stands at a key, and what comes of a longer list there -/
theorem NL.get {α : Type} [Rep α] {Hf O : Hp} {m : List (Int × List α)} {kvs : List (Key × V)} (h : NL Hf O m kvs) {k : Int} {l : List α} (hk : dget m k = some l) :
    ∃ b vs, valV kvs (.inl k) = some (.ref b) ∧ O b = some (.lst vs) ∧ Paired (rep Hf) vs l ∧ ∀ (Hf' : Hp) (us : List V) (l' : List α), Ex Hf Hf' → Paired (rep Hf') us l' → NL Hf' (upd O b (.lst us)) (dput m k l') kvs := by
  obtain ⟨m1, m2, e⟩ := dget_split hk
  subst e
  obtain ⟨x1, kv, x2, e, r1, r, r2⟩ := paired_split h.rel
  subst e
  obtain ⟨g1, b, vs, g2, g3, g4⟩ := r
  have nd := h.nd
  have e0 : keysM (m1 ++ (k, l) :: m2) = keysM m1 ++ k :: keysM m2 := by
    unfold keysM
    rw [List.map_append, List.map_cons]
  rw [e0] at nd
  have nk : (Sum.inl k : Key) ∉ x1.map (·.1) := by
    rw [nl_keys r1]
    intro z
    obtain ⟨k', h1, h2⟩ := List.mem_map.mp z
    cases Sum.inl.inj h2
    exact (List.nodup_append.mp nd).2.2 k h1 k List.mem_cons_self rfl
  refine ⟨b, vs, ?_, g3, g4, fun Hf' us l' ex ru => ⟨nodup_dput h.nd, ?_, h.ad⟩⟩
  · rw [valV_app nk, valV_pos g1, g2]
  · rw [dput_split h.nd]
    have ad := h.ad
    rw [List.map_append, List.map_cons] at ad
    obtain ⟨a1, a2, a3⟩ := List.nodup_append.mp ad
    have old : ∀ (kv' : Key × V) (q : Int × List α), kv'.2 ≠ V.ref b → nlR Hf O kv' q → nlR Hf' (upd O b (.lst us)) kv' q := fun kv' q hne ⟨h1, b', vs', h2, h3, h4⟩ =>
      ⟨h1, b', vs', h2, by rw [upd_ne (fun z => hne (by rw [h2, z]))]; exact h3, paired_mono ex h4⟩
    have join : ∀ {xs1 xs2 : List (Key × V)} {ys1 ys2 : List (Int × List α)}, Paired (nlR Hf' (upd O b (.lst us))) xs1 ys1 → Paired (nlR Hf' (upd O b (.lst us))) xs2 ys2 → Paired (nlR Hf' (upd O b (.lst us))) (xs1 ++ xs2) (ys1 ++ ys2) := paired_app
    refine join (paired_imp r1 fun y hy q hq rq => old y q (fun z => ?_) rq) (.cons ⟨g1, b, us, g2, upd_same, ru⟩ (paired_imp r2 fun y hy q hq rq => old y q (fun z => ?_) rq))
    · exact a3 y.2 (List.mem_map.mpr ⟨y, hy, rfl⟩) kv.2 List.mem_cons_self (z.trans g2.symm)
    · exact (List.nodup_cons.mp a2).1 (by rw [g2, ← z]; exact List.mem_map.mpr ⟨y, hy, rfl⟩)
/-- a new key with a new list -/
theorem NL.new {α : Type} [Rep α] {Hf O : Hp} {m : List (Int × List α)} {kvs : List (Key × V)} (h : NL Hf O m kvs) {k : Int} (hk : dget m k = none) {b : Addr} (hb : O b = none) :
    valV kvs (.inl k) = none ∧ NL Hf (upd O b (.lst [])) (dput m k []) (putK kvs (.inl k) (.ref b)) ∧ valV (putK kvs (.inl k) (.ref b)) (.inl k) = some (.ref b) := by
  have hk' := dget_none.mp hk
  have nk : (Sum.inl k : Key) ∉ kvs.map (·.1) := by
    rw [nl_keys h.rel]
    intro z
    obtain ⟨k', h1, h2⟩ := List.mem_map.mp z
    cases Sum.inl.inj h2
    exact hk' h1
  have ev : valV kvs (.inl k) = none := by
    have := valV_app (kvs2 := []) nk
    rw [List.append_nil] at this
    exact this
  have ep : putK kvs (.inl k) (.ref b) = kvs ++ [(.inl k, .ref b)] := by
    unfold putK
    rw [valV_any, ev]
    rfl
  have nb : ∀ y ∈ kvs, y.2 ≠ V.ref b := fun y hy z => by
    obtain ⟨q, _, _, b', vs', h2, h3, _⟩ := paired_mem h.rel y hy
    rw [z] at h2
    cases h2
    rw [hb] at h3
    cases h3
  refine ⟨ev, ⟨nodup_dput h.nd, ?_, ?_⟩, by rw [ep, valV_app nk, valV_pos rfl]⟩
  · rw [dput_new hk', ep]
    refine paired_app (F := nlR Hf (upd O b (.lst []))) (paired_imp h.rel fun y hy q hq ⟨h1, b', vs', h2, h3, h4⟩ => ⟨h1, b', vs', h2, ?_, h4⟩) (.cons ⟨rfl, b, [], rfl, upd_same, .nil⟩ .nil)
    rw [upd_ne (fun z => nb y hy (by rw [h2, z]))]
    exact h3
  · rw [ep, List.map_append]
    refine List.nodup_append.mpr ⟨h.ad, by simp, fun a ha c hc => ?_⟩
    rw [List.mem_singleton.mp hc]
    obtain ⟨y, hy, e⟩ := List.mem_map.mp ha
    rw [← e]
    exact nb y hy
theorem NL.mono {α : Type} [Rep α] {Hf Hf' O : Hp} {m : List (Int × List α)} {kvs : List (Key × V)} (e : Ex Hf Hf') (h : NL Hf O m kvs) : NL Hf' O m kvs :=
  ⟨h.nd, paired_imp h.rel (fun _ _ _ _ ⟨a, b, vs, c, d, r⟩ => ⟨a, b, vs, c, d, paired_mono e r⟩), h.ad⟩
theorem NL.off {α : Type} [Rep α] {Hf O : Hp} {m : List (Int × List α)} {kvs kvs' : List (Key × V)} {p : Addr} {o : HO} (hp : O p = some (.dK kvs')) (h : NL Hf O m kvs) : NL Hf (upd O p o) m kvs :=
  ⟨h.nd, paired_imp h.rel (fun _ _ _ _ ⟨a, b, vs, c, d, r⟩ => ⟨a, b, vs, c, by rw [upd_ne (fun z => by rw [z, hp] at d; cases d)]; exact d, r⟩), h.ad⟩
/-- d.setdefault(k, []).append(x) -/
theorem sd_setdApp {α : Type} [Rep α] {m : List (Int × List α)} {k : Int} {x : α} {i : Nat} (hi : d[i]? = some (odl m)) (hk : ED tk d k) (hx : ∀ m' : List (Int × List α), ED te (d.set i (odl m')) x) (hl : m.length ≤ 900000)
    (hl2 : ∀ l, dget m k = some l → l.length ≤ 900000) (nx : P.nx (d.set i (odl (dapp m k x)))) : SD (tDrop (tBM K "list" rAppend (tDSetd (tVar i) tk (tLst tNil)) (tCons te tNil))) d P := fun B Hf O σ H D E S => by
  obtain ⟨v, h1, p, kvs, h2, h3, h4⟩ := E.getO hi
  subst h2
  have ed : d.set i (odl m) = d := by
    obtain ⟨g2, g3⟩ := List.getElem?_eq_some_iff.mp hi
    rw [← g3]
    exact List.set_getElem_self g2
  have stage : ∀ (Hf3 : Hp) (O3 : Nat → Hp) (H3 : Hp) (m1 : List (Int × List α)) (kvs1 : List (Key × V)) (l : List α) (v : V), Env B Hf3 O3 (d.set i (odl m1)) σ H3 → O3 i p = some (.dK kvs1) → NL Hf3 (O3 i) m1 kvs1 → dget m1 k = some l → l.length ≤ 900000 →
      dput m1 k (l ++ [x]) = dapp m k x → valV kvs1 (.inl k) = some v → tyV K "list" v H3 ∧ (tCons te tNil) σ H3 fun xs H4 => rAppend v xs H4 fun _ H5 => D.nx σ H5 := by
    intro Hf3 O3 H3 m1 kvs1 l v E3 g1 g2 g3 g4 g5 g6
    obtain ⟨b, vs, b1, b2, b3, b4⟩ := g2.get g3
    rw [b1] at g6
    cases g6
    have at3 := (E3.ow i b _ b2).1
    have hpb : p ≠ b := fun z => by rw [z, b2] at g1; cases g1
    refine ⟨.inl ⟨rfl, _, .inl (.inl at3)⟩, hx m1 B Hf3 O3 σ H3 E3 _ fun y Hf4 H4 E4 e4 r4 => ?_⟩
    have at4 := (E4.ow i b _ b2).1
    refine ⟨b, vs, y, rfl, rfl, at4, small' _ (by rw [paired_len b3]; omega), ?_⟩
    have E5 := E4.chg (H' := upd H4 b (.lst (vs ++ [y]))) (r := odlR (dapp m k x)) (On := upd (O3 i) b (.lst (vs ++ [y]))) h1
      ⟨p, kvs1, rfl, by rw [upd_ne hpb]; exact g1, by rw [← g5]; exact b4 Hf4 (vs ++ [y]) (l ++ [x]) e4 (paired_app (paired_mono e4 b3) (.cons r4 .nil))⟩
      (fun q u e => by
        by_cases z : q = b
        · rw [z, upd_same] at e ⊢
          exact e
        · rw [upd_ne z] at e ⊢
          exact (E4.ow i q u e).1)
      (fun q hq => by
        by_cases z : q = b
        · rw [z, b2]
          exact .inl fun y => by cases y
        · rw [upd_ne z] at hq
          exact .inl hq)
      fun q hq u hu => by
        rw [upd_ne (fun z => by rw [z, b2] at hq; cases hq)]
        exact hu
    rw [List.set_set] at E5
    exact S.nx _ _ _ _ _ nx E5
  have at0 := (E.ow i p _ h3).1
  refine ⟨.ref p, h1, p, rfl, .inl ⟨kvs, .inl at0⟩, hk B Hf O σ H E _ fun y Hf1 H1 E1 e1 r1 => ⟨small 0 (by decide), fun b hb => ?_⟩⟩
  have at1 := (E1.ow i p _ h3).1
  have hpb : p ≠ b := fun z => by rw [z, hb] at at1; cases at1
  have hOb := E1.Oz hb i
  have nl1 := h4.mono e1
  refine ⟨kvs, .inl k, by rw [upd_ne hpb]; exact at1, r1, small' _ (by rw [paired_len h4.rel]; omega), fun v hv => ?_, fun hn => ?_⟩
  · cases w : dget m k with
    | none =>
      rw [(nl1.new w hOb).1] at hv
      cases hv
    | some l =>
      refine stage Hf1 O _ m kvs l v (by rw [ed]; exact E1.allocO hb) h3 nl1 w (hl2 l w) ?_ hv
      unfold dapp
      rw [w]
      rfl
  · cases w : dget m k with
    | some l =>
      obtain ⟨c, vs, c1, _⟩ := nl1.get w
      rw [c1] at hn
      cases hn
    | none =>
      have nl2 := NL.off (o := .dK (putK kvs (.inl k) (.ref b))) h3 nl1
      obtain ⟨_, n2, n3⟩ := nl2.new w (b := b) (by rw [upd_ne (Ne.symm hpb)]; exact hOb)
      have E3 := E1.chg (H' := upd (upd H1 b (.lst [])) p (.dK (putK kvs (.inl k) (.ref b)))) (r := odlR (dput m k [])) (On := upd (upd (O i) p (.dK (putK kvs (.inl k) (.ref b)))) b (.lst [])) h1
        ⟨p, _, rfl, by rw [upd_ne hpb, upd_same], n2⟩
        (fun q u e => by
          by_cases z : q = b
          · rw [z, upd_same] at e
            rw [z, upd_ne (Ne.symm hpb), upd_same]
            exact e
          · rw [upd_ne z] at e
            by_cases z2 : q = p
            · rw [z2, upd_same] at e ⊢
              exact e
            · rw [upd_ne z2] at e
              rw [upd_ne z2, upd_ne z]
              exact (E1.ow i q u e).1)
        (fun q hq => by
          by_cases z : q = b
          · rw [z]
            exact .inr hb
          · rw [upd_ne z] at hq
            by_cases z2 : q = p
            · rw [z2, h3]
              exact .inl fun y => by cases y
            · rw [upd_ne z2] at hq
              exact .inl hq)
        fun q hq u hu => by
          rw [upd_ne (fun z => by rw [z, h3] at hq; cases hq), upd_ne (fun z => by rw [z, hb] at hu; cases hu)]
          exact hu
      have hget : dget (dput m k []) k = some ([] : List α) := by rw [dget_dput, if_pos rfl]
      refine stage Hf1 _ _ (dput m k []) _ [] _ E3 ?_ ?_ hget (Nat.zero_le _) ?_ n3
      · rw [setO_same, upd_ne hpb, upd_same]
      · rw [setO_same]
        exact n2
      · have hk' := dget_none.mp w
        have nd := n2.nd
        unfold dapp
        rw [w]
        rw [dput_new hk'] at nd ⊢
        rw [dput_split nd, dput_new hk']
        rfl
theorem sd_frzDL {α : Type} [Rep α] {m : List (Int × List α)} {i : Nat} (hi : d[i]? = some (odl m)) (h : SD ts (d.set i (.sh (Dct.mk m))) P) : SD ts d P := fun B Hf O σ H D E S => by
  obtain ⟨v, h1, p, kvs, h2, h3, h4⟩ := E.getO hi
  have ex : Ex Hf (plus Hf (O i)) := fun q u e => by
    cases w : O i q with
    | none => rw [plus_off w]; exact e
    | some x => rw [(E.ow i q x w).2.1] at e; cases e
  have E' := E.freeze (a := Dct.mk m) h1 ⟨p, kvs, h2, plus_on h3, paired_imp h4.rel fun _ _ _ _ ⟨a, b, vs, c, d, r⟩ => ⟨a, b, vs, c, plus_on d, paired_mono ex r⟩⟩
  exact h ⟨B.F, plus Hf (O i)⟩ _ _ σ H D E'.rebase (S.rebase E')
/-- what dapp holds -/
theorem dget_dapp {α : Type} {m : List (Int × List α)} {k j : Int} {x : α} : dget (dapp m k x) j = if j = k then some ((dget m k).getD [] ++ [x]) else dget m j := dget_dput
theorem mem_dapp {α : Type} {m : List (Int × List α)} {k j : Int} {x : α} : j ∈ keysM (dapp m k x) ↔ j = k ∨ j ∈ keysM m := mem_dput
theorem dapp_len {α : Type} {m : List (Int × List α)} {k : Int} {x : α} : (dapp m k x).length ≤ m.length + 1 := dput_len
end
end TC
namespace TC
/-! ### marks, how often they stand, what hangs together -/
def lmarks (tiles : List (Int × Int)) : List Int := sortU (tiles.map (·.1) ++ tiles.map (·.2))
theorem mem_lmarks {tiles : List (Int × Int)} {k : Int} : k ∈ lmarks tiles ↔ ∃ t ∈ tiles, t.1 = k ∨ t.2 = k := by
  unfold lmarks
  rw [mem_sortU, List.mem_append, List.mem_map, List.mem_map]
  constructor
  · rintro (⟨t, h1, h2⟩ | ⟨t, h1, h2⟩)
    · exact ⟨t, h1, .inl h2⟩
    · exact ⟨t, h1, .inr h2⟩
  · rintro ⟨t, h1, h2 | h2⟩
    · exact .inl ⟨t, h1, h2⟩
    · exact .inr ⟨t, h1, h2⟩
theorem lt_nodup {l : List Int} (h : l.Pairwise (· < ·)) : l.Nodup := h.imp fun {a b} (h : a < b) => Int.ne_of_lt h
theorem lmarks_lt (tiles : List (Int × Int)) : (lmarks tiles).Pairwise (· < ·) := sortU_lt _
theorem lmarks_len (tiles : List (Int × Int)) : (lmarks tiles).length ≤ 2 * tiles.length := by
  have h : (lmarks tiles).length ≤ (tiles.map (·.1) ++ tiles.map (·.2)).length := nodup_len (lt_nodup (lmarks_lt tiles)) fun x hx => mem_sortU.mp hx
  rw [List.length_append, List.length_map, List.length_map] at h
  omega
theorem lmarks_few {tiles : List (Int × Int)} (h : Few tiles) : (lmarks tiles).length < 64 := by
  obtain ⟨_, M, h1, h2⟩ := h
  refine Nat.lt_of_le_of_lt (nodup_len (lt_nodup (lmarks_lt tiles)) fun x hx => ?_) h1
  obtain ⟨t, ht, e⟩ := mem_lmarks.mp hx
  rcases e with e | e
  · rw [← e]; exact (h2 t ht).1
  · rw [← e]; exact (h2 t ht).2
def deg (tiles : List (Int × Int)) (k : Int) : Int := (tiles.map fun t => b2i (decide (t.1 = k)) + b2i (decide (t.2 = k))).sum
theorem deg_cons (t : Int × Int) (l : List (Int × Int)) (k : Int) : deg (t :: l) k = b2i (decide (t.1 = k)) + b2i (decide (t.2 = k)) + deg l k := by
  unfold deg
  rw [List.map_cons, List.sum_cons]
theorem deg_nil (k : Int) : deg [] k = 0 := rfl
theorem deg_app (l m : List (Int × Int)) (k : Int) : deg (l ++ m) k = deg l k + deg m k := by
  induction l with
  | nil => rw [List.nil_append, deg_nil]; omega
  | cons t l ih => rw [List.cons_append, deg_cons, deg_cons, ih]; omega
def lodds (tiles : List (Int × Int)) : List Int := (lmarks tiles).filter fun k => decide (deg tiles k % 2 = 1)
/-! reach -/
def Adj (tiles : List (Int × Int)) (a b : Int) : Prop := (a, b) ∈ tiles ∨ (b, a) ∈ tiles
theorem Adj.symm {tiles : List (Int × Int)} {a b : Int} (h : Adj tiles a b) : Adj tiles b a := Or.symm h
inductive Reach (tiles : List (Int × Int)) (a : Int) : Int → Prop
  | refl : Reach tiles a a
  | step {b c : Int} : Reach tiles a b → Adj tiles b c → Reach tiles a c
theorem Reach.trans {tiles : List (Int × Int)} {a b c : Int} (h : Reach tiles a b) (g : Reach tiles b c) : Reach tiles a c := by
  induction g with
  | refl => exact h
  | step _ e ih => exact ih.step e
theorem Reach.one {tiles : List (Int × Int)} {a b : Int} (h : Adj tiles a b) : Reach tiles a b := Reach.refl.step h
theorem Reach.symm {tiles : List (Int × Int)} {a b : Int} (h : Reach tiles a b) : Reach tiles b a := by
  induction h with
  | refl => exact .refl
  | step _ e ih => exact (Reach.one e.symm).trans ih
theorem Adj.mark {tiles : List (Int × Int)} {a b : Int} (h : Adj tiles a b) : b ∈ lmarks tiles := mem_lmarks.mpr (h.elim (fun z => ⟨_, z, .inr rfl⟩) fun z => ⟨_, z, .inl rfl⟩)
theorem Reach.mark {tiles : List (Int × Int)} {a b : Int} (h : Reach tiles a b) (ha : a ∈ lmarks tiles) : b ∈ lmarks tiles := by
  cases h with
  | refl => exact ha
  | step _ e => exact e.mark
noncomputable instance decReach {tiles : List (Int × Int)} {a b : Int} : Decidable (Reach tiles a b) := Classical.propDecidable _
noncomputable def lreach (tiles : List (Int × Int)) (a : Int) : List Int := (lmarks tiles).filter fun b => decide (Reach tiles a b)
theorem mem_lreach {tiles : List (Int × Int)} {a b : Int} : b ∈ lreach tiles a ↔ b ∈ lmarks tiles ∧ Reach tiles a b := by
  unfold lreach
  rw [List.mem_filter, decide_eq_true_iff]
theorem lreach_lt (tiles : List (Int × Int)) (a : Int) : (lreach tiles a).Pairwise (· < ·) := (lmarks_lt tiles).filter _
theorem lreach_congr {tiles : List (Int × Int)} {a b : Int} (h : Reach tiles a b) : lreach tiles a = lreach tiles b :=
  lt_eq (lreach_lt _ _) (lreach_lt _ _) fun x => by
    rw [mem_lreach, mem_lreach]
    exact ⟨fun ⟨h1, h2⟩ => ⟨h1, h.symm.trans h2⟩, fun ⟨h1, h2⟩ => ⟨h1, h.trans h2⟩⟩
noncomputable def lhead (tiles : List (Int × Int)) (a : Int) : Int := (lreach tiles a).headD a
theorem lreach_self {tiles : List (Int × Int)} {a : Int} (h : a ∈ lmarks tiles) : a ∈ lreach tiles a := mem_lreach.mpr ⟨h, .refl⟩
theorem head_least {l : List Int} (h : l.Pairwise (· < ·)) {x d : Int} (hx : x ∈ l) : l.headD d ∈ l ∧ l.headD d ≤ x := by
  cases l with
  | nil => cases hx
  | cons y l =>
    refine ⟨List.mem_cons_self, ?_⟩
    show y ≤ x
    rcases List.mem_cons.mp hx with e | hx
    · rw [e]
      exact Int.le_refl _
    · exact Int.le_of_lt ((List.pairwise_cons.mp h).1 x hx)
theorem lhead_mem {tiles : List (Int × Int)} {a : Int} (h : a ∈ lmarks tiles) : lhead tiles a ∈ lreach tiles a := (head_least (lreach_lt _ _) (lreach_self h)).1
theorem lhead_le {tiles : List (Int × Int)} {a b : Int} (h : b ∈ lreach tiles a) : lhead tiles a ≤ b := (head_least (lreach_lt _ _) h).2
theorem lhead_mark {tiles : List (Int × Int)} {a : Int} (h : a ∈ lmarks tiles) : lhead tiles a ∈ lmarks tiles := (mem_lreach.mp (lhead_mem h)).1
theorem lhead_reach {tiles : List (Int × Int)} {a : Int} (h : a ∈ lmarks tiles) : Reach tiles a (lhead tiles a) := (mem_lreach.mp (lhead_mem h)).2
theorem lhead_congr {tiles : List (Int × Int)} {a b : Int} (ha : a ∈ lmarks tiles) (h : Reach tiles a b) : lhead tiles a = lhead tiles b := by
  have hb := h.mark ha
  have e := lreach_congr h
  have h1 := lhead_mem ha
  have h2 := lhead_mem hb
  rw [e] at h1
  rw [← e] at h2
  have := lhead_le h1
  have := lhead_le h2
  omega
theorem lhead_idem {tiles : List (Int × Int)} {a : Int} (h : a ∈ lmarks tiles) : lhead tiles (lhead tiles a) = lhead tiles a := (lhead_congr h (lhead_reach h)).symm
theorem lhead_self {tiles : List (Int × Int)} {a : Int} (h : a ∈ lmarks tiles) : lhead tiles a ≤ a := lhead_le (lreach_self h)
theorem lhead_iff {tiles : List (Int × Int)} {a b : Int} (ha : a ∈ lmarks tiles) (hb : b ∈ lmarks tiles) : lhead tiles a = lhead tiles b ↔ Reach tiles a b :=
  ⟨fun e => (lhead_reach ha).trans (by rw [e]; exact (lhead_reach hb).symm), lhead_congr ha⟩
/-- the least marks of their parts; the parts -/
noncomputable def lfirsts (tiles : List (Int × Int)) : List Int := (lmarks tiles).filter fun k => decide (lhead tiles k = k)
noncomputable def lparts (tiles : List (Int × Int)) : List (List Int) := (lfirsts tiles).map (lreach tiles)
theorem mem_lfirsts {tiles : List (Int × Int)} {k : Int} : k ∈ lfirsts tiles ↔ k ∈ lmarks tiles ∧ lhead tiles k = k := by
  unfold lfirsts
  rw [List.mem_filter, decide_eq_true_iff]
theorem lfirsts_lt (tiles : List (Int × Int)) : (lfirsts tiles).Pairwise (· < ·) := (lmarks_lt tiles).filter _
theorem lreach_by {tiles : List (Int × Int)} {L : Int} (h : L ∈ lfirsts tiles) : lreach tiles L = (lmarks tiles).filter fun j => decide (lhead tiles j = L) := by
  obtain ⟨h1, h2⟩ := mem_lfirsts.mp h
  unfold lreach
  refine List.filter_congr fun b hb => ?_
  rw [decide_eq_decide]
  constructor
  · intro r
    rw [← lhead_congr h1 r]
    exact h2
  · intro e
    exact (lhead_iff h1 hb).mp (h2.trans e.symm)
theorem lparts_len (tiles : List (Int × Int)) : (lparts tiles).length ≤ (lmarks tiles).length := by
  unfold lparts lfirsts
  rw [List.length_map]
  exact List.length_filter_le _ _
theorem lreach_len (tiles : List (Int × Int)) (a : Int) : (lreach tiles a).length ≤ (lmarks tiles).length := List.length_filter_le _ _
theorem lreach_head {tiles : List (Int × Int)} {L d : Int} (h : L ∈ lfirsts tiles) : (lreach tiles L).headD d = L := by
  obtain ⟨h1, h2⟩ := mem_lfirsts.mp h
  have h3 := head_least (d := d) (lreach_lt tiles L) (lreach_self h1)
  have h4 := lhead_le h3.1
  omega
theorem part_is {tiles : List (Int × Int)} {y : List Int} (h : y ∈ lparts tiles) : y ≠ [] ∧ y[0]? = some (y.headD 0) ∧ y.headD 0 ∈ lfirsts tiles ∧ lreach tiles (y.headD 0) = y := by
  obtain ⟨L, hL, e⟩ := List.mem_map.mp h
  have hh := lreach_head (d := 0) hL
  rw [e] at hh
  have hs := lreach_self (mem_lfirsts.mp hL).1
  rw [e] at hs
  refine ⟨fun z => (by rw [z] at hs; cases hs), ?_, (by rw [hh]; exact hL), (by rw [hh]; exact e)⟩
  cases y with
  | nil => cases hs
  | cons a l => rfl
theorem lparts_heads (tiles : List (Int × Int)) : (lparts tiles).map (·.headD 0) = lfirsts tiles := by
  unfold lparts
  rw [List.map_map]
  refine (List.map_congr_left fun L hL => ?_).trans (List.map_id _)
  exact lreach_head hL
theorem lparts_flat (tiles : List (Int × Int)) : (lparts tiles).flatten.Perm (lmarks tiles) := by
  refine (List.perm_ext_iff_of_nodup ?_ (lt_nodup (lmarks_lt tiles))).mpr fun x => ?_
  · refine List.pairwise_flatten.mpr ⟨fun l hl => ?_, ?_⟩
    · obtain ⟨L, _, e⟩ := List.mem_map.mp hl
      rw [← e]
      exact lt_nodup (lreach_lt tiles L)
    · unfold lparts
      rw [List.pairwise_map]
      refine List.Pairwise.imp_of_mem (fun {a b} ha hb hab x hx y hy e => ?_) (lfirsts_lt tiles)
      subst e
      have e1 := lhead_congr (mem_lfirsts.mp ha).1 (mem_lreach.mp hx).2
      have e2 := lhead_congr (mem_lfirsts.mp hb).1 (mem_lreach.mp hy).2
      have e3 := (mem_lfirsts.mp ha).2
      have e4 := (mem_lfirsts.mp hb).2
      omega
  · rw [List.mem_flatten]
    constructor
    · rintro ⟨l, hl, hx⟩
      obtain ⟨L, _, e⟩ := List.mem_map.mp hl
      rw [← e] at hx
      exact (mem_lreach.mp hx).1
    · intro hx
      refine ⟨lreach tiles (lhead tiles x), List.mem_map.mpr ⟨_, mem_lfirsts.mpr ⟨lhead_mark hx, lhead_idem hx⟩, rfl⟩, mem_lreach.mpr ⟨hx, (lhead_reach hx).symm⟩⟩
theorem sortI_lt {l : List Int} (h : l.Pairwise (· < ·)) : sortI l = l := (sortI_uniq (List.Perm.refl l) (h.imp fun {a b} (h : a < b) => Int.le_of_lt h)).symm
theorem sortI_marks {l : List Int} {tiles : List (Int × Int)} (hn : l.Nodup) (h : ∀ x, x ∈ l ↔ x ∈ lmarks tiles) : sortI l = lmarks tiles :=
  lt_eq (lt_of_nodup (sortI_sorted _) ((sortI_perm _).nodup_iff.mpr hn)) (lmarks_lt tiles) fun x => by rw [mem_sortI, h]
theorem filt1 {p : Int → Bool} {k : Int} (h : p k = true) : [k].filter p = [k] := by rw [List.filter_cons_of_pos h]; rfl
theorem filt0 {p : Int → Bool} {k : Int} (h : p k = false) : [k].filter p = [] := by rw [List.filter_cons_of_neg (by rw [h]; exact Bool.false_ne_true)]; rfl
/-- groups by the head -/
def grp (h : Int → Int) (pre : List Int) : List (Int × List Int) := (pre.filter fun k => decide (h k = k)).map fun L => (L, pre.filter fun j => decide (h j = L))
theorem dget_map {β : Type} {g : Int → β} {k : Int} : ∀ {l : List Int}, k ∈ l → dget (l.map fun L => (L, g L)) k = some (g k)
  | [], h => by cases h
  | x :: l, h => by
    rw [List.map_cons, dget_cons]
    by_cases c : x = k
    · rw [if_pos c, c]
    · rw [if_neg c]
      exact dget_map ((List.mem_cons.mp h).elim (fun e => absurd e.symm c) id)
theorem keys_map {β : Type} {g : Int → β} {l : List Int} : keysM (l.map fun L => (L, g L)) = l := by
  unfold keysM
  rw [List.map_map]
  exact List.map_id _
theorem grp_step {h : Int → Int} {pre : List Int} {k : Int} (hlt : ∀ j ∈ pre, j < k) (hle : ∀ j ∈ pre, h j ≤ j) (hh : h (h k) = h k) (hm : h k ≠ k → h k ∈ pre) : dapp (grp h pre) (h k) k = grp h (pre ++ [k]) := by
  have keys : keysM (grp h pre) = pre.filter fun k => decide (h k = k) := keys_map
  unfold dapp
  by_cases c : h k = k
  · have nk : h k ∉ keysM (grp h pre) := by
      rw [keys, c]
      intro z
      have := hlt k (List.mem_filter.mp z).1
      omega
    rw [dput_new nk, dget_none.mpr nk, c]
    unfold grp
    rw [List.filter_append, filt1 (p := fun k => decide (h k = k)) (decide_eq_true c), List.map_append]
    congr 1
    · refine List.map_congr_left fun L hL => ?_
      have hL' := hlt L (List.mem_filter.mp hL).1
      rw [List.filter_append, filt0 (p := fun j => decide (h j = L)) (decide_eq_false (by rw [c]; omega)), List.append_nil]
    · show [(k, [] ++ [k])] = [(k, (pre ++ [k]).filter fun j => decide (h j = k))]
      have e : (pre.filter fun j => decide (h j = k)) = [] := List.filter_eq_nil_iff.mpr fun j hj => by
        have := hlt j hj
        have := hle j hj
        simp
        omega
      rw [List.filter_append, e, filt1 (p := fun j => decide (h j = k)) (decide_eq_true c)]
  · have hk := hm c
    have mk : h k ∈ pre.filter fun k => decide (h k = k) := List.mem_filter.mpr ⟨hk, decide_eq_true hh⟩
    have yk : h k ∈ keysM (grp h pre) := by rw [keys]; exact mk
    rw [dput_has yk, show dget (grp h pre) (h k) = some (pre.filter fun j => decide (h j = h k)) from dget_map mk]
    unfold grp
    rw [List.map_map, List.filter_append, filt0 (p := fun k => decide (h k = k)) (decide_eq_false c), List.append_nil]
    refine List.map_congr_left fun L hL => ?_
    show (if L = h k then (L, _) else (L, _)) = _
    rw [List.filter_append]
    by_cases z : L = h k
    · rw [if_pos z, filt1 (p := fun j => decide (h j = L)) (decide_eq_true z.symm), z]
      rfl
    · rw [if_neg z, filt0 (p := fun j => decide (h j = L)) (decide_eq_false (Ne.symm z)), List.append_nil]
theorem grp_marks (tiles : List (Int × Int)) : (grp (lhead tiles) (lmarks tiles)).map (·.2) = lparts tiles := by
  unfold grp lparts
  rw [List.map_map]
  exact List.map_congr_left fun L hL => (lreach_by hL).symm
theorem grp_len (h : Int → Int) (pre : List Int) : (grp h pre).length ≤ pre.length := by
  unfold grp
  rw [List.length_map]
  exact List.length_filter_le _ _
theorem grp_get {h : Int → Int} {pre : List Int} {k : Int} {l : List Int} (hg : dget (grp h pre) k = some l) : l.length ≤ pre.length := by
  obtain ⟨L, _, e⟩ := List.mem_map.mp (dget_mem hg)
  cases e
  exact List.length_filter_le _ _
/-! sums -/
theorem sum_le {f g : Int → Nat} : ∀ {l : List Int}, (∀ k ∈ l, g k ≤ f k) → (l.map g).sum ≤ (l.map f).sum
  | [], _ => Nat.le_refl _
  | x :: l, h => by
    have := h x List.mem_cons_self
    have := sum_le (l := l) fun k hk => h k (List.mem_cons_of_mem _ hk)
    rw [List.map_cons, List.map_cons, List.sum_cons, List.sum_cons]
    omega
theorem sum_lt {f g : Int → Nat} : ∀ {l : List Int}, (∀ k ∈ l, g k ≤ f k) → (∃ k ∈ l, g k < f k) → (l.map g).sum < (l.map f).sum
  | [], _, h => by obtain ⟨_, h, _⟩ := h; cases h
  | x :: l, h, ⟨k, hk, hl⟩ => by
    have h1 := h x List.mem_cons_self
    have h2 := sum_le (l := l) fun k hk => h k (List.mem_cons_of_mem _ hk)
    rw [List.map_cons, List.map_cons, List.sum_cons, List.sum_cons]
    rcases List.mem_cons.mp hk with e | hk
    · rw [e] at hl
      omega
    · have h3 := sum_lt (l := l) (fun k hk => h k (List.mem_cons_of_mem _ hk)) ⟨k, hk, hl⟩
      omega
/-- how many of a list stand below -/
def rkOf (l : List Int) (v : Int) : Nat := (l.filter fun x => decide (x < v)).length
theorem rk_le {l : List Int} {v w : Int} (h : v ≤ w) : rkOf l v ≤ rkOf l w := by
  unfold rkOf
  induction l with
  | nil => exact Nat.le_refl _
  | cons x l ih =>
    rw [List.filter_cons, List.filter_cons]
    by_cases c : x < v
    · rw [if_pos (decide_eq_true c), if_pos (decide_eq_true (by omega)), List.length_cons, List.length_cons]
      omega
    · rw [if_neg (by simpa using c)]
      split
      · rw [List.length_cons]; omega
      · exact ih
theorem rk_lt {l : List Int} {v w : Int} (h : v < w) (hv : v ∈ l) : rkOf l v < rkOf l w := by
  induction l with
  | nil => cases hv
  | cons x l ih =>
    unfold rkOf at ih ⊢
    rw [List.filter_cons, List.filter_cons]
    by_cases e : v = x
    · subst e
      rw [if_neg (by simp), if_pos (decide_eq_true h), List.length_cons]
      have := rk_le (l := l) (Int.le_of_lt h)
      unfold rkOf at this
      omega
    · have hv' : v ∈ l := (List.mem_cons.mp hv).elim (fun z => absurd z e) id
      have := ih hv'
      by_cases c : x < v
      · rw [if_pos (decide_eq_true c), if_pos (decide_eq_true (by omega)), List.length_cons, List.length_cons]
        omega
      · rw [if_neg (by simpa using c)]
        split
        · rw [List.length_cons]; omega
        · exact this
/-- a dict by what its keys hold -/
theorem dict_ext {β : Type} {m : List (Int × β)} {g : Int → β} (hn : (keysM m).Nodup) (h : ∀ k ∈ keysM m, dget m k = some (g k)) : m = (keysM m).map fun k => (k, g k) := by
  unfold keysM
  rw [List.map_map]
  refine ((List.map_congr_left fun p hp => ?_).trans (List.map_id m)).symm
  show (p.1, g p.1) = p
  have h1 := (mem_dget hn (k := p.1) (v := p.2)).mp hp
  have h2 := h p.1 (List.mem_map.mpr ⟨p, hp, rfl⟩)
  rw [h1] at h2
  rw [← Option.some.inj h2]
section
open PySem PySem.Spec L2
/-- the place of a number among n -/
def pick (l : List Int) (x : Int) : Int := l.getD (x % (l.length : Int)).toNat 0
theorem pick_at {l : List Int} (h : 1 ≤ l.length) (x : Int) : atI l (x % (l.length : Int)) = some (pick l x) := by
  have h1 : 0 ≤ x % (l.length : Int) := Int.emod_nonneg _ (by omega)
  have h2 : x % (l.length : Int) < (l.length : Int) := Int.emod_lt_of_pos _ (by omega)
  obtain ⟨n, hn⟩ := Int.eq_ofNat_of_zero_le h1
  have h3 : n < l.length := by omega
  unfold pick
  rw [hn, Int.toNat_natCast, List.getD_eq_getElem?_getD, List.getElem?_eq_getElem h3]
  exact atI_nat (List.getElem?_eq_getElem h3)
theorem pick_mem {l : List Int} (h : 1 ≤ l.length) (x : Int) : pick l x ∈ l := by
  have h1 : 0 ≤ x % (l.length : Int) := Int.emod_nonneg _ (by omega)
  have h2 : x % (l.length : Int) < (l.length : Int) := Int.emod_lt_of_pos _ (by omega)
  have h3 : (x % (l.length : Int)).toNat < l.length := by omega
  unfold pick
  rw [List.getD_eq_getElem?_getD, List.getElem?_eq_getElem h3]
  exact List.getElem_mem h3
abbrev pickW := pick
theorem pickW_at {l : List Int} (h : 1 ≤ l.length) (x : Int) : atI l (x % (l.length : Int)) = some (pickW l x) := pick_at h x
end
end TC
/-! ### list(reversed(xs)) -/
namespace TCR
open PySem PySem.Spec PyProof.Rows
section
variable {prog : Program} {w : World} {A : Around} {E : Value → Shared → Prop} {s : Shared} {r l : Addr} {items : Array Value}
theorem rv_no_len : typeLookup (.type "list_reverseiterator") "__len__" = pure none := by rw [typeLookup_type, builtinLookup_eq_fast]; kernel_rfl
theorem rv_hint_is : typeLookup (.type "list_reverseiterator") "__length_hint__" = pure (some (.builtin "list_reverseiterator.__length_hint__")) := by rw [typeLookup_type, builtinLookup_eq_fast]; kernel_rfl
theorem rv_hint {Q : Bool → Shared → Prop} (hT : s.TypeIs (.ref r) "list_reverseiterator") (h : Q false s) : wpAny (model prog w) A (Builtin.List.listLengthHint (.ref r)) Q E s := by
  unfold Builtin.List.listLengthHint
  refine wpAny_bind (wpAny_specialOf hT rv_no_len ?_)
  refine wpAny_bind (wpAny_specialOf hT rv_hint_is ?_)
  generalize hid : ("list_reverseiterator.__length_hint__" : String) = id0
  wp_delta
  rw [show splitId id0 = some ("list_reverseiterator", "__length_hint__") from by subst hid; decide +kernel]
  subst hid
  refine wpAny_bind (wpAny_isInstance (T := "list_reverseiterator") (b := true) hT (by rw [isSubtype_type]; kernel_rfl) ?_)
  refine wpAny_ite_split (fun hab => absurd hab (by decide)) (fun _ => ?_)
  refine wpAny_ite_split (fun _ => ?_) (fun hab => absurd (by decide +kernel) hab)
  refine wpAny_ite_split (fun hab => absurd hab (by decide)) (fun _ => ?_)
  exact wpAny_pure h
/-- what the turned iterator gives -/
abbrev RvP (items : Array Value) : Nat → Value → Prop := fun i v => items[items.size - 1 - i]? = some v
structure RvAt (h : Heap) (r l : Addr) (items : Array Value) : Prop where
  it : h.IsRevIter r l ((items.size : Int) - 1)
  ls : h.IsList l items
theorem RvAt.at' {h h' : Heap} (x : RvAt h r l items) (k : ∀ b, b = r ∨ b = l → ∀ o, h.get? b = some o → h'.get? b = some o) : RvAt h' r l items := ⟨x.it.at fun o e => k r (.inl rfl) o e, x.ls.at fun o e => k l (.inr rfl) o e⟩
theorem rv_extend {R : Result → Shared → Prop} (hh : A.handled = none) (hok : RvAt s.heap r l items) (hne : l ≠ r) (S : Addr) (hSr : S ≠ r) (hSl : S ≠ l) (res : Value) (c₀ : Nat) (hS : s.heap.get? S = some { cls := .type "list", data := .seq #[] c₀ })
    (hR : ∀ h' tk acc' c', (∀ b o, b ≠ S → b ≠ r → s.heap.get? b = some o → h'.get? b = some o) → h'.get? S = some { cls := .type "list", dict := none, data := .seq acc' c', slots := #[] } → ItemsOf (RvP items) acc' items.size → R (.ok (.ret res)) { s with heap := h', toks := tk }) (hn : items.size ≤ sizeLine) :
    wpAny (model prog w) A.in1 (Builtin.List.listExtendWith (.ref S) (.ref r) res)
      (fun fin s' => match fin with | .done f => R (.ok f) s' | .again c' => c'.quiet = true ∧ codeAny (model prog w) A c' R s') (fun e s' => R (.error e) s') s := by
  have hSf : S ∉ [r, l] := by simp only [List.mem_cons, List.not_mem_nil, or_false, not_or]; exact ⟨hSr, hSl⟩
  have W := Walks.listRev (prog := prog) (w := w) (A := A.in1.in1) (by simp [hh]) r l hne items
  have W0 := Walks.listRev (prog := prog) (w := w) (A := A.in1) (by simp [hh]) r l hne items
  have start : ∀ h : Heap, RvAt h r l items → (0 : Nat) ≤ items.size ∧ h.IsRevIter r l ((items.size : Int) - 1 - ((0 : Nat) : Int)) ∧ h.IsList l items := fun h x => ⟨Nat.zero_le _, by
    have e : (items.size : Int) - 1 - ((0 : Nat) : Int) = (items.size : Int) - 1 := by omega
    rw [e]
    exact x.it, x.ls⟩
  have key : ∀ (h : Heap) (c₁ tk : Nat), RvAt h r l items → (∀ b o, b ≠ S → s.heap.get? b = some o → h.get? b = some o) →
      h.get? S = some { cls := .type "list", data := .seq #[] c₁ } → codeAny (model prog w) A (.builtin "list.extend.loop" ⟨[.ref S, .ref r, res], []⟩) R { s with heap := h, toks := tk } := by
    intro h c₁ tk hst hk hS₁
    refine codeAny_extend_loopS W0.toS hn S hSf res items.size 0 _ #[] c₁ rfl (Nat.zero_le _) (start h hst) hS₁ (ItemsOf.nil _) fun s' acc' c' hm hS' hacc => ?_
    rw [Moved.eq_with hm]
    refine hR s'.heap s'.toks acc' c' (fun b o hb hb2 e => hm.heap b o (fun hmem => ?_) (hk b o hb e)) hS' hacc
    rcases List.mem_cons.mp hmem with e' | hmem
    · exact hb e'
    · exact hb2 (List.mem_singleton.mp hmem)
  unfold Builtin.List.listExtendWith
  refine wpAny_bind (wpAny_typeOf (T := "list_reverseiterator") hok.it.typeIs ?_)
  have h1 : Builtin.List.listSameRef (.ref S) (.ref r) = false := by simp [Builtin.List.listSameRef, hSr]
  have h2 : (Value.type "list_reverseiterator" == Value.type "list") = false := by decide
  have h3 : (Value.type "list_reverseiterator" == Value.type "tuple") = false := by decide
  simp only [h1, h2, h3, Bool.or_false, Bool.false_eq_true, if_false]
  refine wpAny_bind (wpAny_pyIter_revIter hok.it ?_)
  refine wpAny_bind (wpAny_holding (rv_hint hok.it.typeIs ?_))
  refine wpAny_ite_split (fun _ => ?_) (fun _ => wpAny_pure ⟨plainId_quiet PySem.F.plain_extend_loop _, key _ c₀ _ hok (fun b o _ e => e) hS⟩)
  refine wpAny_bind (wpAny_rule ?_)
  refine wpAny_bind ?_
  show wpAny _ _ (updateSeq S (·.push .none) >>= fun _ => updateSeq S (·.pop)) _ _ _
  refine wpAny_bind (wpAny_updateSeq hS rfl ?_)
  have hS₂ := Heap.get?_update_self (Obj.mapSeq (·.push Value.none)) hS rfl
  refine wpAny_updateSeq (hz := by seq_fits) hS₂ rfl ?_
  have hS₃ := Heap.get?_update_self (Obj.mapSeq (·.pop)) hS₂ rfl
  have oth : ∀ b o, b ≠ S → s.heap.get? b = some o → ((s.heap.update S (Obj.mapSeq (·.push Value.none))).update S (Obj.mapSeq (·.pop))).get? b = some o := fun b o hb e => (Heap.get?_update_other _ _ (Ne.symm hb)).trans ((Heap.get?_update_other _ _ (Ne.symm hb)).trans e)
  exact wpAny_pure ⟨plainId_quiet PySem.F.plain_extend_loop _, key _ _ _ (hok.at' fun b hb o e => oth b o (fun z => hSf (by rw [← z]; rcases hb with e | e <;> simp [e])) e) oth hS₃⟩
theorem rv_init {R : Result → Shared → Prop} (hh : A.handled = none) (hok : RvAt s.heap r l items) (hne : l ≠ r) (S : Addr) (hSr : S ≠ r) (hSl : S ≠ l) (hS : s.heap.get? S = some { cls := .type "list", data := .seq #[] })
    (hR : ∀ h' tk acc' c', (∀ b o, b ≠ S → b ≠ r → s.heap.get? b = some o → h'.get? b = some o) → h'.get? S = some { cls := .type "list", dict := none, data := .seq acc' c', slots := #[] } → ItemsOf (RvP items) acc' items.size → R (.ok (.ret .none)) { s with heap := h', toks := tk }) (hn : items.size ≤ sizeLine) :
    wpAny (model prog w) A.in1 (Builtin.«list.__init__» ⟨[.ref S, .ref r], []⟩)
      (fun fin s' => match fin with | .done f => R (.ok f) s' | .again c' => c'.quiet = true ∧ codeAny (model prog w) A c' R s') (fun e s' => R (.error e) s') s := by
  show wpAny _ _ (do let old ← Builtin.List.listItems (.ref S); Builtin.List.listUpdate (.ref S) (fun _ => #[]); letGo old.toList.reverse; Builtin.List.listExtendWith (.ref S) (.ref r) .none) _ _ s
  refine wpAny_bind ?_
  unfold Builtin.List.listItems
  refine wpAny_bind (wpAny_seqItems hS rfl (wpAny_pure ?_))
  show wpAny _ _ (updateSeq S (fun _ => #[]) >>= fun _ => letGo (#[] : Array Value).toList.reverse >>= fun _ => Builtin.List.listExtendWith (.ref S) (.ref r) .none) _ _ s
  refine wpAny_bind (wpAny_updateSeq hS rfl ?_)
  have hS₂ := Heap.get?_update_self (Obj.mapSeq (fun _ => (#[] : Array Value))) hS rfl
  have oth : ∀ b o, b ≠ S → s.heap.get? b = some o → (s.heap.update S (Obj.mapSeq (fun _ => (#[] : Array Value)))).get? b = some o := fun b o hb e => (Heap.get?_update_other _ _ (Ne.symm hb)).trans e
  refine wpAny_bind (wpAny_letGo ?_)
  refine rv_extend hh (hok.at' fun b hb o e => oth b o (by rcases hb with rfl | rfl; exact hSr.symm; exact hSl.symm) e) hne S hSr hSl .none _ hS₂ (fun h' tk acc' c' hk hS' hacc => ?_) hn
  exact hR h' tk acc' c' (fun b o hb hb2 e => hk b o hb hb2 (oth b o hb e)) hS' hacc
theorem rv_call {Q : Value → Shared → Prop} (hh : A.handled = none) (hok : RvAt s.heap r l items) (hne : l ≠ r) (hr : r < s.heap.objs.size) (hl : l < s.heap.objs.size) (hn : items.size ≤ sizeLine)
    (hQ : ∀ h' tk acc' c', (∀ b o, b ≠ r → s.heap.get? b = some o → h'.get? b = some o) → h'.get? s.heap.objs.size = some { cls := .type "list", dict := none, data := .seq acc' c', slots := #[] } → ItemsOf (RvP items) acc' items.size → Q (.ref s.heap.objs.size) { s with heap := h', toks := tk }) :
    wpAny (model prog w) A (call (.type "list") [.ref r]) Q E s := by
  refine callType_codes (Q₁ := fun obj s₁ => obj = .ref s.heap.objs.size ∧ s₁ = { s with heap := s.heap.push { cls := .type "list", data := .seq #[] } }) PySem.F.called_list (PySem.F.typeCall_list_1 _) PySem.F.entry_list_init
    (code_list_new _ ⟨rfl, rfl⟩) fun obj s₁ h₁ => ?_
  obtain ⟨rfl, rfl⟩ := h₁
  have hS : (s.heap.push { cls := .type "list", data := .seq #[] }).get? s.heap.objs.size = some { cls := .type "list", data := .seq #[] } := Heap.get?_push_size _ rfl
  refine ⟨⟨_, hS, rfl⟩, PySem.F.args_list_init_2 _ _, rv_init (A := A.in1) hh (hok.at' fun b _ o e => Heap.get?_push_of_some _ e) hne _ (Nat.ne_of_gt hr) (Nat.ne_of_gt hl) hS (fun h' tk acc' c' hk hS' hacc => ?_) hn⟩
  exact ⟨rfl, hQ h' tk acc' c' (fun b o hb e => hk b o (Nat.ne_of_lt (Heap.lt_size e)) hb (Heap.get?_push_of_some _ e)) hS' hacc⟩
end
end TCR
namespace TC
open PySem PySem.Spec L2
open Evl (Ex)
section
open PyProof.Rows
variable {X : Cx}
def tListRev (K : PySem.W.Frag) (te : TE) : TE := fun σ H Q => te σ H fun v H1 => ∃ (a : Addr) (xs : List V), v = .ref a ∧ SqL K H1 a xs ∧ ∀ q, H1 q = none → Q (.ref q) (upd H1 q (.lst xs.reverse))
theorem pe_listRev {K : PySem.W.Frag} {e : Expr} {te : TE} {p p2 pos pos2 : Pos} (hc : X.calm = true) (hg : Gl X "list") (hm : X.mg "list" = none) (hg2 : Gl X "reversed") (hm2 : X.mg "reversed" = none) (he : PE X e te) (hK : X.K = K := by rfl)
    (hs : starEach [e] X.env = (false, eval e X.env) :: starEach [] X.env := by rfl)
    (hs2 : starEach [.Call (.Name "reversed" p2) [e] [] pos2] X.env = (false, eval (.Call (.Name "reversed" p2) [e] [] pos2) X.env) :: starEach [] X.env := by rfl) :
    PE X (.Call (.Name "list" p) [.Call (.Name "reversed" p2) [e] [] pos2] [] pos) (tListRev K te) := by
  subst hK
  have hv : bootBuiltins "list" = some (.type "list") := by decide +kernel
  refine ⟨fun pins s σ H Q I h => ?_⟩
  refine Call_ (ld_blt I hg hm hv (PyProof.Rows.callWith_type1 (args_cons (Call_ (ld_blt I hg2 hm2 PyProof.Rows.boot_reversed (PyProof.Rows.callWith_type1 (args_cons (thn (he.run pins s σ H _ I h) fun u s1 ⟨v, H1, I1, r1, q1⟩ => args_nil ?_) hs) hs rfl))) hs2) hs2 rfl))
  obtain ⟨a, xs, ev, hq, q⟩ := q1
  subst ev
  obtain rfl : u = Value.ref a := r1
  obtain ⟨its, rv, p', hz⟩ := I1.list hq
  refine PySem.call_reversed_list p'.isList (args_nil ?_)
  have k0 : ∀ b o, s1.heap.get? b = some o → (s1.heap.push (PySem.revObj a ((its.toArray.size : Int) - 1))).get? b = some o := fun b o e => Heap.get?_push_of_some _ e
  have I2 : L2.Inv X pins σ H1 { s1 with heap := s1.heap.push (PySem.revObj a ((its.toArray.size : Int) - 1)) } := I1.kept (t' := s1.toks) k0
  obtain ⟨f0, f1, f2, f3, f4, f5⟩ := I1.fpOk (H' := H1) (b := s1.heap.objs.size) (Nat.le_refl _) (I1.hok.fresh (Nat.le_refl _))
  have hl := p'.isList
  obtain ⟨ol, hol, _⟩ := id hl
  have hlt := Heap.lt_size hol
  have hne : a ≠ s1.heap.objs.size := Nat.ne_of_lt hlt
  have hn : its.toArray.size ≤ sizeLine := by rw [List.size_toArray, ← rv.length]; exact hz
  have hsz : (s1.heap.push (PySem.revObj a ((its.toArray.size : Int) - 1))).objs.size = s1.heap.objs.size + 1 := Heap.size_push ..
  refine TCR.rv_call (s := { s1 with heap := s1.heap.push (PySem.revObj a ((its.toArray.size : Int) - 1)) }) (r := s1.heap.objs.size) (l := a) (items := its.toArray) (I1.ok.hd hc) ⟨⟨_, Heap.get?_push_size _ rfl, rfl, rfl⟩, hl.push _⟩ hne (by show _ < (s1.heap.push _).objs.size; rw [hsz]; exact Nat.lt_succ_self _) (by show _ < (s1.heap.push _).objs.size; rw [hsz]; exact Nat.lt_succ_of_lt hlt) hn fun h' tk acc c hk hS hi => ?_
  refine ⟨.ref _, upd H1 _ (.lst xs.reverse), I2.turnedNew (t' := tk) (ch := [s1.heap.objs.size]) (fun b o hb e => hk b o (fun z => hb (by rw [z]; exact List.mem_singleton.mpr rfl)) e) (fun b hb => ?_) (Nat.le_refl _)
    (show ObjOk X.prog X.w _ _ _ (.lst xs.reverse) from ⟨by rw [List.length_reverse]; exact hz, acc.toList, c, RT.vals_rev rv hi, ?_⟩), rfl, q _ (I2.hok.fresh (Nat.le_refl _))⟩
  · rw [List.mem_singleton.mp hb]
    exact I1.fpOk (H' := H1) (Nat.le_refl _) (I1.hok.fresh (Nat.le_refl _))
  · rw [Array.toArray_toList]
    exact hS
variable {d : DE} {ta : TE} {K : PySem.W.Frag}
theorem paired_rev {α β : Type} {F : α → β → Prop} {xs : List α} {ys : List β} (h : Paired F xs ys) : Paired F xs.reverse ys.reverse := by
  induction h with
  | nil => exact .nil
  | cons r t ih =>
    rw [List.reverse_cons, List.reverse_cons]
    exact paired_app (F := F) ih (.cons r .nil)
theorem ed_listRev {α : Type} [Rep α] {as : List α} (ha : ERL ta d as) : ED (tListRev K ta) d as.reverse := fun B Hf O σ H E Q q =>
  ha B Hf O σ H E _ fun p vs Hf1 H1 E1 e1 s1 => by
    obtain ⟨h1, h2⟩ := s1 _ _ _ _ _ E1 (ex_refl _)
    exact ⟨p, vs, rfl, .inl (.inl h1), fun r hr => q _ _ _ (E1.alloc hr) (e1.trans (ex_upd (E1.fz hr))) ⟨r, _, rfl, upd_same, newReps (E1.fz hr) (paired_rev h2)⟩⟩
end
end TC
namespace TC
open PySem PySem.Spec L2
open Evl (Ex)
/-! ### range(a, b), numbers of any size -/
section
open PyProof.Rows
theorem turn_long {P : Program} {w : World} {K : PySem.W.Frag} {tg : Expr} (it : Addr) (lo : Int) (n : Nat) : Turn P w K tg (Itr lo n) [it] it (fun i h => IsLongIter h it (lo + (i : Nat) * 1) ((n : Int) - (i : Nat)) 1) where
  mem := by simp
  obj := fun i h st b hb => by
    have e : b = it := by simpa using hb
    subst e
    exact ⟨_, st, fun v z => by
      have z' : Data.fields _ = Data.cell v := z
      cases z'⟩
  keep := fun i h h' st k => k it (by simp) _ st
  item := by
    intro X hP hw hK hc i pins s σ H E I hf st hg
    subst hP hw hK
    obtain ⟨f0, f1, f2, f3, f4, f5⟩ := hf it (by simp)
    have W := Walks.longrange (prog := X.prog) (w := X.w) (I.ok.hd hc) it lo 1 n
    refine W.item i s _ _ hg st fun v h' tk hv st' kk => ?_
    obtain ⟨t, rfl⟩ := hv
    have I1 : L2.Inv X pins σ H { s with heap := h', toks := tk } := I.turned (fun b o hb e => kk b o (by simpa using hb) e) f0 f1 f3 f4 f5
    refine ⟨_, rfl, go_of (s := { s with heap := h', toks := tk }) (n := "longrange_iterator") st' rfl rfl (by decide) ⟨.int (lo + i), H, I1, ⟨t, ?_⟩, ⟨rfl, rfl⟩, st', fun b hb => (hf b hb).1⟩⟩
    rw [Int.mul_one]
  done := by
    intro X hP hw hK hc i pins s σ H E I hf st hg
    subst hP hw hK
    obtain ⟨f0, f1, f2, f3, f4, f5⟩ := hf it (by simp)
    exact wpAny_pyNext_long_end (I.ok.hd hc) st (by have : n ≤ i := hg; omega) fun h' eb => ⟨rfl, I.turned (t' := s.toks) (fun b o hb e => eb b o hb e) f0 f1 f3 f4 f5⟩
  self := fun _ _ _ _ _ st h => wpAny_pyIter_longiter st h
section
variable {X : Cx} {tg : Expr}
theorem long_it {pins : List (Addr × Obj)} {σ : L2.St} {H : Hp} {s : Shared} {R : It → Hp → Prop} {E : Value → Shared → Prop} {lo hi : Int} {t u v : Tok} {tk : Nat} (I : L2.Inv X pins σ H s) (hb : Builtin.Range.small lo hi 1 = false)
    (q : R (Itr lo (hi - lo).toNat) H) : wpAny (model X.prog X.w) X.A (pyIter (.ref s.heap.objs.size)) (PIE X pins σ tg R) E { s with heap := s.heap.push { cls := .type "range", data := .fields #[.int lo t, .int hi u, .int 1 v] }, toks := tk } := by
  refine wpAny_pyIter_longrange (IsRange.new ..) hb ?_
  have I1 : L2.Inv X pins σ H { s with heap := s.heap.push { cls := .type "range", data := .fields #[.int lo t, .int hi u, .int 1 v] }, toks := tk } := I.kept fun b o e => Heap.get?_push_of_some _ e
  refine ⟨(s.heap.push { cls := .type "range", data := .fields #[.int lo t, .int hi u, .int 1 v] }).objs.size, [(s.heap.push { cls := .type "range", data := .fields #[.int lo t, .int hi u, .int 1 v] }).objs.size], _, _, H, rfl,
    I1.kept (t' := tk) fun b o e => Heap.get?_push_of_some _ e, turn_long _ lo (hi - lo).toNat, ?_, fun b hb => ?_, q⟩
  · have e1 : lo + ((0 : Nat) : Int) * 1 = lo := by simp
    have e2 : (((hi - lo).toNat : Nat) : Int) - ((0 : Nat) : Int) = Builtin.Range.rangeSize lo hi 1 := by rw [rangeSize_one]; split <;> omega
    show IsLongIter _ _ (lo + ((0 : Nat) : Int) * 1) ((((hi - lo).toNat : Nat) : Int) - ((0 : Nat) : Int)) 1
    rw [e1, e2]
    exact Heap.get?_push_size _ rfl
  · have e : b = (s.heap.push { cls := .type "range", data := .fields #[.int lo t, .int hi u, .int 1 v] }).objs.size := by simpa using hb
    subst e
    exact I1.fpOk (Nat.le_refl _) (I1.hok.fresh (Nat.le_refl _))
theorem small_it {pins : List (Addr × Obj)} {σ : L2.St} {H : Hp} {s : Shared} {R : It → Hp → Prop} {E : Value → Shared → Prop} {lo hi : Int} {t u v : Tok} {tk : Nat} (I : L2.Inv X pins σ H s) (hb : Builtin.Range.small lo hi 1 = true)
    (q : R (Itr lo (hi - lo).toNat) H) : wpAny (model X.prog X.w) X.A (pyIter (.ref s.heap.objs.size)) (PIE X pins σ tg R) E { s with heap := s.heap.push { cls := .type "range", data := .fields #[.int lo t, .int hi u, .int 1 v] }, toks := tk } := by
  refine wpAny_pyIter_range (IsRange.new ..) hb ?_
  have I1 : L2.Inv X pins σ H { s with heap := s.heap.push { cls := .type "range", data := .fields #[.int lo t, .int hi u, .int 1 v] }, toks := tk } := I.kept fun b o e => Heap.get?_push_of_some _ e
  refine ⟨(s.heap.push { cls := .type "range", data := .fields #[.int lo t, .int hi u, .int 1 v] }).objs.size, [(s.heap.push { cls := .type "range", data := .fields #[.int lo t, .int hi u, .int 1 v] }).objs.size], _, _, H, rfl,
    I1.kept (t' := tk) fun b o e => Heap.get?_push_of_some _ e, turn_range _ lo (hi - lo).toNat, ?_, fun b hb => ?_, q⟩
  · have e1 : lo + ((0 : Nat) : Int) * 1 = lo := by simp
    have e2 : (((hi - lo).toNat : Nat) : Int) - ((0 : Nat) : Int) = Builtin.Range.rangeSize lo hi 1 := by rw [rangeSize_one]; split <;> omega
    show IsRangeIter _ _ (lo + ((0 : Nat) : Int) * 1) ((((hi - lo).toNat : Nat) : Int) - ((0 : Nat) : Int)) 1
    rw [e1, e2]
    exact Heap.get?_push_size _ rfl
  · have e : b = (s.heap.push { cls := .type "range", data := .fields #[.int lo t, .int hi u, .int 1 v] }).objs.size := by simpa using hb
    subst e
    exact I1.fpOk (Nat.le_refl _) (I1.hok.fresh (Nat.le_refl _))
def iRngA (ta : TA) : TI := fun σ H R => ta σ H fun vs H1 => ∃ i j : Int, vs = [.int i, .int j] ∧ R (Itr i (j - i).toNat) H1
theorem pi_rangeA {a b : Expr} {ta : TA} {p pos : Pos} (hg : Gl X "range") (hm : X.mg "range" = none) (ha : PA X [a, b] ta) (hs : starEach [a, b] X.env = [(false, eval a X.env), (false, eval b X.env)] := by rfl) (hs2 : starEach [b] X.env = [(false, eval b X.env)] := by rfl) :
    PI X tg (.Call (.Name "range" p) [a, b] [] pos) (iRngA ta) := by
  refine ⟨fun pins s σ H R I h => ?_⟩
  refine Call_ (ld_blt I hg hm boot_range (PyProof.Rows.callWith_type1 (thn (ha.run pos pins s σ H _ I h) fun us s1 ⟨vs, H1, I1, r1, q1⟩ => ?_) (by rw [hs, hs2]) (by rw [hs2]; rfl)))
  obtain ⟨i, j, e, q⟩ := q1
  subst e
  cases r1 with
  | cons r rr =>
    cases rr with
    | cons r' rr =>
      cases rr
      obtain ⟨t, rfl⟩ := r
      obtain ⟨t', rfl⟩ := r'
      cases hb : Builtin.Range.small i j 1 with
      | true => exact call_range_2 (small_it I1 hb q)
      | false => exact call_range_2 (long_it I1 hb q)
end
end
section
variable {K : PySem.W.Frag} {ta tb tc te tl : TE} {d : DE} {P : Post}
def rngA (i j : Int) : List Int := (List.range (j - i).toNat).map fun k => i + ((k : Nat) : Int)
theorem rngA_len (i j : Int) : (rngA i j).length = (j - i).toNat := by
  unfold rngA
  rw [List.length_map, List.length_range]
theorem mem_rngA {i j x : Int} : x ∈ rngA i j ↔ i ≤ x ∧ x < j := by
  unfold rngA
  rw [List.mem_map]
  constructor
  · rintro ⟨k, h1, h2⟩
    have := List.mem_range.mp h1
    omega
  · intro h
    exact ⟨(x - i).toNat, List.mem_range.mpr (by omega), by omega⟩
theorem id_rngA {i j : Int} (ha : ED ta d i) (hb : ED tb d j) : ID (iRngA (tCons ta (tCons tb tNil))) d (rngA i j) := fun B Hf O σ H E R q =>
  ha B Hf O σ H E _ fun x Hf1 H1 E1 e1 r1 => hb B Hf1 O σ H1 E1 _ fun y Hf2 H2 E2 e2 r2 => ⟨i, j, by rw [show x = .int i from r1, show y = .int j from r2], q _ Hf2 H2 E2 (e1.trans e2) ⟨
    fun k B Hf O d σ H hi E e => by rw [rngA_len] at hi; exact hi,
    fun B Hf O d σ H E e => by rw [rngA_len]; exact Nat.le_refl _,
    fun k B Hf O d σ H x H' hi E e y => by
      obtain ⟨y1, y2⟩ := y
      rw [y1, y2]
      rw [rngA_len] at hi
      refine ⟨Hf, i + ((k : Nat) : Int), E, ex_refl _, ?_, rfl⟩
      unfold rngA
      rw [List.getElem?_map, List.getElem?_range hi]
      rfl⟩⟩
/-! ### a list of two things of two kinds -/
structure Two (α β : Type) where
  a : α
  b : β
  deriving DecidableEq
instance rpTwo {α β : Type} [Rep α] [Rep β] : Rep (Two α β) := ⟨fun H v t => ∃ p x y, v = .ref p ∧ H p = some (.lst [x, y]) ∧ rep H x t.a ∧ rep H y t.b,
  fun e ⟨p, x, y, h1, h2, h3, h4⟩ => ⟨p, x, y, h1, e _ _ h2, Rep.mono e h3, Rep.mono e h4⟩⟩
theorem ed_two {α β : Type} [Rep α] [Rep β] {a : α} {b : β} (ha : ED ta d a) (hb : ED tb d b) : ED (tLst (tCons ta (tCons tb tNil))) d (Two.mk a b) := fun B Hf O σ H E Q q =>
  ed2 ha hb E (Q := fun x y H' => [x, y].length ≤ sizeLine ∧ ∀ p, H' p = none → Q (.ref p) (upd H' p (.lst [x, y]))) fun x y Hf2 H2 E2 e2 r1 r2 =>
    ⟨small 2 (by decide), fun p hp => q _ _ _ (E2.alloc hp) (e2.trans (ex_upd (E2.fz hp))) ⟨p, x, y, rfl, upd_same, newRep (E2.fz hp) r1, newRep (E2.fz hp) r2⟩⟩
theorem ed_twoA {α β : Type} [Rep α] [Rep β] {t : Two α β} (ha : ED ta d t) : ED (tOp (rIxL K) ta (tC (.int 0))) d t.a :=
  ed_op ha ed_int fun H Hf x y Q e ⟨p, x1, x2, h1, h2, h3, h4⟩ r2 q => ⟨p, [x1, x2], 0, x1, h1, r2, .inl (.inl (e _ _ h2)), rfl, q _ h3⟩
theorem ed_twoB {α β : Type} [Rep α] [Rep β] {t : Two α β} (ha : ED ta d t) : ED (tOp (rIxL K) ta (tC (.int 1))) d t.b :=
  ed_op ha ed_int fun H Hf x y Q e ⟨p, x1, x2, h1, h2, h3, h4⟩ r2 q => ⟨p, [x1, x2], 1, x2, h1, r2, .inl (.inl (e _ _ h2)), rfl, q _ h4⟩
theorem eqvAllL2 (a b c d : PyData) : PyData.eqv (.list [a, b]) (.list [c, d]) = (PyData.eqv a c && PyData.eqv b d) := by
  simp [PyData.eqv, PyData.eqvAll]
instance {α β : Type} [Rep α] [Rep β] [da : Dat α] [db : Dat β] : Dat (Two α β) where
  dat a := .list [da.dat a.a, db.dat a.b]
  dp := fun ⟨p, x, y, h1, h2, h3, h4⟩ => by rw [h1]; exact .lst (.inl (.inl h2)) (.cons (da.dp h3) (.cons (db.dp h4) .nil))
  lay a := by simp [PyData.canLay0, PyData.canLayAll0, da.lay, db.lay]
  dep := max da.dep db.dep + 1
  depth a := by
    have := da.depth a.a
    have := db.depth a.b
    simp only [PyData.depth, PyData.depthAll]
    omega
  eqv a b := by
    rw [eqvAllL2, Bool.and_eq_true, da.eqv, db.eqv]
    obtain ⟨a1, a2⟩ := a
    obtain ⟨b1, b2⟩ := b
    exact ⟨fun ⟨h1, h2⟩ => by cases h1; cases h2; rfl, fun h => by cases h; exact ⟨rfl, rfl⟩⟩
/-- the words of a flaw -/
inductive Word
  | none
  | twice
  | apart
  deriving DecidableEq
def Word.txt : Word → Str
  | .none => "none"
  | .twice => "twice"
  | .apart => "apart"
instance rpWord : Rep Word := ⟨fun _ v a => v = .str a.txt, fun _ h => h⟩
instance : TyR Word := ⟨"str", fun h => by rw [h]; exact .base (.str _)⟩
instance : Dat Word := ⟨fun a => .str a.txt, fun h => by rw [h]; exact .str _, fun a => by cases a <;> decide +kernel, 0, fun _ => Nat.le_refl _, fun a b => by cases a <;> cases b <;> decide +kernel⟩
theorem ed_word {w : Word} {x : Str} (h : x = w.txt := by rfl) : ED (tC (.str x)) d w := ed_c fun _ => by rw [h]; rfl
/-- what is there -/
theorem ed_get {α : Type} [Rep α] {a : α} (h : ED te d (some a)) : ED te d a := fun B Hf O σ H E Q q => h B Hf O σ H E Q fun v Hf' H' E' e r => q v Hf' H' E' e r
/-- a, b = x, y -/
theorem sd_par {α β : Type} [Rep α] [Rep β] {a : α} {b : β} {i j : Nat} (ha : ED ta d a) (hb : ED tb d b) (nx : P.nx ((d.set i (.sh a)).set j (.sh b))) : SD (tPar i j (tCons ta (tCons tb tNil))) d P := fun B Hf O σ H D E S =>
  ed2 ha hb E (Q := fun x y H' => ∃ v w, [x, y] = [v, w] ∧ D.nx ((σ.set i (some v)).set j (some w)) H') fun x y Hf2 H2 E2 e2 r1 r2 => ⟨x, y, rfl, S.nx _ _ _ _ _ nx ((E2.setS r1).setS r2)⟩
/-- xs.index(y) -/
theorem eqV_int {i j : Int} : eqV (.int i) (.int j) = decide (i = j) := rfl
theorem first_at {α : Type} [DecidableEq α] {x : α} : ∀ {ns : List α}, x ∈ ns → ∃ j : Nat, ns[j]? = some x ∧ ∀ m, m < j → ns[m]? ≠ some x
  | [], h => by cases h
  | y :: ns, h => by
    by_cases e : y = x
    · exact ⟨0, by rw [e]; rfl, fun m hm => absurd hm (Nat.not_lt_zero _)⟩
    · obtain ⟨j, h1, h2⟩ := first_at ((List.mem_cons.mp h).elim (fun z => absurd z.symm e) id)
      refine ⟨j + 1, by rw [List.getElem?_cons_succ]; exact h1, fun m hm => ?_⟩
      cases m with
      | zero => rw [List.getElem?_cons_zero]; exact fun z => e (Option.some.inj z)
      | succ m => rw [List.getElem?_cons_succ]; exact h2 m (by omega)
theorem ed_index {ns : List Int} {x : Int} {j : Nat} (ha : ERL ta d ns) (hb : ED tb d x) (h1 : ns[j]? = some x) (h2 : ∀ m, m < j → ns[m]? ≠ some x) : ED (tBM K "list" (rIndex K) ta (tCons tb tNil)) d (j : Int) := fun B Hf O σ H E Q q =>
  ha B Hf O σ H E _ fun p vs Hf1 H1 E1 e1 s1 => by
    obtain ⟨g1, g2⟩ := s1 _ _ _ _ _ E1 (ex_refl _)
    refine ⟨.inl ⟨rfl, _, .inl (.inl g1)⟩, hb B Hf1 O σ H1 E1 _ fun y Hf2 H2 E2 e2 r2 => ?_⟩
    obtain ⟨g3, g4⟩ := s1 _ _ _ _ _ E2 e2
    rw [map_of g4] at g3
    rw [show y = .int x from r2]
    refine ⟨p, ns.map V.int, .int x, j, .int x, rfl, rfl, .inl (.inl g3), rfl, flat_ints ns, by rw [List.getElem?_map, h1]; rfl, by rw [eqV_int, decide_eq_true rfl], fun m z' hm hz => ?_, q _ Hf2 H2 E2 (e1.trans e2) rfl⟩
    rw [List.getElem?_map] at hz
    obtain ⟨n, n1, n2⟩ := Option.map_eq_some_iff.mp hz
    rw [← n2, eqV_int]
    exact decide_eq_false fun z => h2 m hm (by rw [n1, z])
/-! a test may read what is one's own -/
theorem Env.unborrow {B : Base} {Hf Hf2 H H2 : Hp} {O : Nat → Hp} {σ : L2.St} {d2 : DE} {σ2 : L2.St} {i : Nat} (E : Env B Hf O d σ H) (E2 : Env B Hf2 (setO O i noHp) d2 σ2 H2) (e2 : Ex (plus Hf (O i)) Hf2) : Env B Hf O d σ H2 := by
  have ex : Ex Hf (plus Hf (O i)) := fun q u e => by
    cases w : O i q with
    | none => rw [plus_off w]; exact e
    | some x => rw [(E.ow i q x w).2.1] at e; cases e
  refine ⟨E2.fr, fun q u e => E2.hf q u (e2 q u (ex q u e)), E.f0, E.fo, fun j q u e => ?_, E.dj, E.len, E.sl⟩
  obtain ⟨a, b, c⟩ := E.ow j q u e
  by_cases z : j = i
  · subst z
    exact ⟨E2.hf q u (e2 q u (plus_on e)), b, c⟩
  · exact ⟨(E2.ow j q u (by rw [setO_ne z]; exact e)).1, b, c⟩
theorem Env.lend {B : Base} {Hf H : Hp} {O : Nat → Hp} {σ : L2.St} {i : Nat} {α : Type} [Rep α] {as : List α} (E : Env B Hf O d σ H) (hi : d[i]? = some (ol as)) : Env B (plus Hf (O i)) (setO O i noHp) (d.set i (.sh as)) σ H := by
  obtain ⟨v, h1, p, vs, h2, h3, h4⟩ := E.getO hi
  have ex : Ex Hf (plus Hf (O i)) := fun q u e => by
    cases w : O i q with
    | none => rw [plus_off w]; exact e
    | some x => rw [(E.ow i q x w).2.1] at e; cases e
  exact E.freeze (a := as) h1 ⟨p, vs, h2, plus_on (by rw [h3]; exact one_at), paired_mono ex h4⟩
theorem et_lend {α : Type} [Rep α] {as : List α} {i : Nat} {b : Bool} {t : TT} (hi : d[i]? = some (ol as)) (h : ET t (d.set i (.sh as)) b) : ET t d b := fun B Hf O σ H E Q q =>
  h B _ _ σ H (E.lend hi) Q fun Hf' H' E2 e2 => q Hf H' (E.unborrow E2 e2) (ex_refl _)
theorem ed_lendB {α : Type} [Rep α] {as : List α} {i : Nat} {b : Bool} (hi : d[i]? = some (ol as)) (h : ED te (d.set i (.sh as)) b) : ED te d b := fun B Hf O σ H E Q q =>
  h B _ _ σ H (E.lend hi) Q fun v Hf' H' E2 e2 r => q v Hf H' (E.unborrow E2 e2) (ex_refl _) r
theorem ed_lendI {α : Type} [Rep α] {as : List α} {i : Nat} {b : Int} (hi : d[i]? = some (ol as)) (h : ED te (d.set i (.sh as)) b) : ED te d b := fun B Hf O σ H E Q q =>
  h B _ _ σ H (E.lend hi) Q fun v Hf' H' E2 e2 r => q v Hf H' (E.unborrow E2 e2) (ex_refl _) r
end
end TC
namespace TC
open PySem PySem.Spec L2
open Evl (Ex)
section
variable {K : PySem.W.Frag} {ta tb tc te tl : TE} {d : DE} {P : Post} {s1 s2 : TS}
theorem eo_cat {α : Type} [Rep α] {as bs : List α} (ha : ERL ta d as) (hb : ERL tb d bs) (hl : as.length + bs.length ≤ 1000000) : EO (tOp rCat ta tb) d (olR (as ++ bs)) := fun B Hf O σ H E Q q =>
  erl2' ha hb E (Q := fun x y H' => rCat x y H' Q) fun p vs r ws Hf2 H2 E2 e2 hp hr hp2 hr2 =>
    ⟨p, r, vs, ws, rfl, rfl, hp, hp2, small _ (by rw [paired_len hr, paired_len hr2]; exact hl), fun l hn => q _ Hf2 _ (one l (.lst (vs ++ ws))) (E2.allocO hn) e2 (newO_one E2 hn) ⟨l, _, rfl, rfl, paired_app hr hr2⟩⟩
/-- one statement up to what is known behind it -/
theorem sd_cut (I : DE → Prop) (h : SD s1 d { P with nx := I }) (h2 : ∀ d', I d' → SD s2 d' P) : SD (tSeq s1 s2) d P :=
  sd_seq (sd_mono h (fun d' i => h2 d' i) (fun _ _ h => h) (fun _ h => h) (fun _ h => h) fun _ h => h)
theorem eo_is {r r' : Res} (h : EO te d r) (e : r = r') : EO te d r' := e ▸ h
end
theorem enumA_ix {α : Type} (l : List α) (i : Nat) : (enumA l)[i]? = l[i]?.map fun a => ((i : Int), a) := by
  cases h : l[i]? with
  | none =>
    rw [List.getElem?_eq_none (by rw [enumA_len]; exact List.getElem?_eq_none_iff.mp h)]
    rfl
  | some a => rw [enumA_get h]; rfl
/-! a row turned -/
def turned {α : Type} (l : List α) (j : Nat) : List α := l.drop j ++ l.take j
theorem mem_turned {α : Type} {l : List α} {j : Nat} {x : α} : x ∈ turned l j ↔ x ∈ l := by
  unfold turned
  rw [List.mem_append]
  constructor
  · rintro (h | h)
    · exact List.mem_of_mem_drop h
    · exact List.mem_of_mem_take h
  · intro h
    rw [← List.take_append_drop j l] at h
    exact (List.mem_append.mp h).symm
theorem turned_len {α : Type} (l : List α) (j : Nat) : (turned l j).length = l.length := by
  unfold turned
  rw [List.length_append, List.length_drop, List.length_take]
  omega
/-! ### steps -/
def isNum (tiles : List (Int × Int)) (n : Int) : Bool := decide (0 ≤ n) && decide (n < (tiles.length : Int))
def tileAt (tiles : List (Int × Int)) (n : Int) : Int × Int := tiles.getD n.toNat (0, 0)
def faceOf (tiles : List (Int × Int)) (st : Int × Bool) : Int × Int := if st.2 = true then ((tileAt tiles st.1).2, (tileAt tiles st.1).1) else tileAt tiles st.1
theorem isNum_iff {tiles : List (Int × Int)} {n : Int} : isNum tiles n = true ↔ 0 ≤ n ∧ n < (tiles.length : Int) := by
  unfold isNum
  rw [Bool.and_eq_true, decide_eq_true_iff, decide_eq_true_iff]
theorem tileAt_at {tiles : List (Int × Int)} {n : Int} (h : isNum tiles n = true) : atI tiles n = some (tileAt tiles n) := by
  obtain ⟨h1, h2⟩ := isNum_iff.mp h
  obtain ⟨m, rfl⟩ := Int.eq_ofNat_of_zero_le h1
  have h3 : m < tiles.length := by omega
  unfold tileAt
  rw [Int.toNat_natCast, List.getD_eq_getElem?_getD, List.getElem?_eq_getElem h3]
  exact atI_nat (List.getElem?_eq_getElem h3)
/-- the left marks of a row -/
def llefts (tiles : List (Int × Int)) (ring : List (Int × Bool)) : List Int := ring.map fun st => (faceOf tiles st).1
def Valid (tiles : List (Int × Int)) (ring : List (Int × Bool)) : Prop := ring.length ≤ 1000 ∧ ∀ st ∈ ring, isNum tiles st.1 = true
theorem lefts_at {tiles : List (Int × Int)} {ring : List (Int × Bool)} {n : Nat} {st : Int × Bool} (h : ring[n]? = some st) : (llefts tiles ring)[n]? = some (faceOf tiles st).1 := by
  unfold llefts
  rw [List.getElem?_map, h]
  rfl
/-- the first flaw of a row: used are the tiles laid, right the mark at which it stands, n the place -/
def lflaw (tiles : List (Int × Int)) : List (Int × Bool) → List Int → Option Int → Nat → Option (Word × Int)
  | [], _, _, _ => none
  | st :: row, used, right, n =>
    if isNum tiles st.1 = false then some (.none, (n : Int))
    else if st.1 ∈ used then some (.twice, (n : Int))
    else if 0 < n ∧ some (faceOf tiles st).1 ≠ right then some (.apart, (n : Int))
    else lflaw tiles row (used ++ [st.1]) (some (faceOf tiles st).2) (n + 1)
theorem lflaw_cons {tiles : List (Int × Int)} {st : Int × Bool} {row : List (Int × Bool)} {used : List Int} {right : Option Int} {n : Nat} : lflaw tiles (st :: row) used right n =
    if isNum tiles st.1 = false then some (.none, (n : Int))
    else if st.1 ∈ used then some (.twice, (n : Int))
    else if 0 < n ∧ some (faceOf tiles st).1 ≠ right then some (.apart, (n : Int))
    else lflaw tiles row (used ++ [st.1]) (some (faceOf tiles st).2) (n + 1) := rfl
theorem lflaw_valid {tiles : List (Int × Int)} : ∀ {row : List (Int × Bool)} {used : List Int} {right : Option Int} {n : Nat}, lflaw tiles row used right n = none → ∀ st ∈ row, isNum tiles st.1 = true
  | [], _, _, _, _, st, hm => by cases hm
  | x :: row, used, right, n, h, st, hm => by
    unfold lflaw at h
    split at h
    · cases h
    · rename_i c
      split at h
      · cases h
      · split at h
        · cases h
        · rcases List.mem_cons.mp hm with e | hm
          · rw [e]
            cases hh : isNum tiles x.1 with
            | true => rfl
            | false => exact absurd hh c
          · exact lflaw_valid h st hm
theorem drop_at {α : Type} {l : List α} {i : Nat} {x : α} (h : l[i]? = some x) : l.drop i = x :: l.drop (i + 1) := by
  obtain ⟨h1, h2⟩ := List.getElem?_eq_some_iff.mp h
  rw [List.drop_eq_getElem_cons h1, h2]
theorem isSome_not {β : Type} {m : List (Int × β)} {k : Int} (h : (dget m k).isSome = false) : k ∉ keysM m := fun z => by
  rw [dget_isSome, decide_eq_true z] at h
  cases h
theorem isSome_yes {β : Type} {m : List (Int × β)} {k : Int} (h : (dget m k).isSome = true) : k ∈ keysM m := by
  rw [dget_isSome] at h
  exact of_decide_eq_true h
def rlast (row : List (Int × Bool)) : Int × Bool := row.getD (row.length - 1) (0, false)
theorem rlast_at {row : List (Int × Bool)} (h : row ≠ []) : atI row (-1) = some (rlast row) := by
  have hl : 0 < row.length := List.length_pos_iff.mpr h
  have h1 : row.length - 1 < row.length := by omega
  unfold atI ixN rlast
  rw [if_neg (by decide), if_pos (by omega), List.getD_eq_getElem?_getD, List.getElem?_eq_getElem h1]
  show row[((row.length : Int) + -1).toNat]? = _
  rw [show ((row.length : Int) + -1).toNat = row.length - 1 by omega, List.getElem?_eq_getElem h1]
  rfl
theorem rlast_mem {row : List (Int × Bool)} (h : row ≠ []) : rlast row ∈ row := by
  have hl : 0 < row.length := List.length_pos_iff.mpr h
  have h1 : row.length - 1 < row.length := by omega
  unfold rlast
  rw [List.getD_eq_getElem?_getD, List.getElem?_eq_getElem h1]
  exact List.getElem_mem h1
def rfirst (row : List (Int × Bool)) : Int × Bool := row.headD (0, false)
theorem rfirst_at {row : List (Int × Bool)} (h : row ≠ []) : atI row (0 : Int) = some (rfirst row) := by
  cases row with
  | nil => exact absurd rfl h
  | cons a l => exact atI_nat (j := 0) rfl
theorem rfirst_mem {row : List (Int × Bool)} (h : row ≠ []) : rfirst row ∈ row := by
  cases row with
  | nil => exact absurd rfl h
  | cons a l => exact List.mem_cons_self
def lmeets (tiles : List (Int × Int)) (row : List (Int × Bool)) : Bool := decide (row = []) || decide ((faceOf tiles (rlast row)).2 = (faceOf tiles (rfirst row)).1)
end TC
/-! defs whose arguments may be one's own: they are handed over and come back changed -/
namespace TC
open PySem PySem.Spec L2
open Evl (Ex)
open Classical in
noncomputable def offO (O : Nat → Hp) (H : Hp) : Hp := fun p => if (∃ i, O i p ≠ none) then none else H p
section
variable {O : Nat → Hp} {H : Hp} {p : Addr} {o : HO}
theorem offO_in {i : Nat} (h : O i p ≠ none) : offO O H p = none := if_pos ⟨i, h⟩
theorem offO_out (h : ∀ i, O i p = none) : offO O H p = H p := if_neg fun ⟨i, z⟩ => z (h i)
theorem offO_some (h : offO O H p ≠ none) : (∀ i, O i p = none) ∧ offO O H p = H p := by
  have z : ∀ i, O i p = none := fun i => Classical.byContradiction fun z => h (offO_in z)
  exact ⟨z, offO_out z⟩
end
/-- a resource at a known place -/
def atR (p : Addr) (r : Res) : Res := ⟨fun Hf O v => v = .ref p ∧ r.P Hf O v, fun e h => ⟨h.1, r.mono e h.2⟩⟩
structure ArgO (H Hf : Hp) (O : Nat → Hp) (vs : List V) (ss : DE) : Prop where
  len : ss.length = vs.length
  hold : ∀ i s, ss[i]? = some s → Hold Hf (O i) (vs.map some)[i]? s
  ow : ∀ i p o, O i p = some o → H p = some o ∧ Hf p = none
  dj : ∀ i j p, i ≠ j → O i p ≠ none → O j p = none
structure Match (ss ss' : DE) : Prop where
  len : ss.length = ss'.length
  at' : ∀ (i : Nat) (s : Slot), ss[i]? = some s → (isOwn s = false ∧ ss'[i]? = some s) ∨ ∃ p r r', s = Slot.own (atR p r) ∧ ss'[i]? = some (Slot.own (atR p r'))
structure PostO (O : Nat → Hp) (H Hf : Hp) (vs : List V) (ss' : DE) (s : Slot) (r : V) (Hf' H' : Hp) (O' : Nat → Hp) (On : Hp) : Prop where
  k1 : Ex (offO O H) H'
  k2 : Ex Hf Hf'
  k3 : Ex Hf' H'
  k4 : ∀ p, offO O H p ≠ none → Hf p = none → Hf' p = none
  k5 : ArgO H' Hf' O' vs ss'
  k6 : ∀ i p, O' i p ≠ none → offO O H p = none
  k7 : ∀ p o, On p = some o → H' p = some o ∧ Hf' p = none ∧ offO O H p = none ∧ ∀ i, O' i p = none
  k8 : HoldV Hf' On r s
def spO (pre : DE → DE → Slot → Prop) : Sp := fun vs H Q _ => ∃ Hf O ss ss' s, Ex Hf H ∧ ArgO H Hf O vs ss ∧ pre ss ss' s ∧ ∀ r Hf' H' O' On, PostO O H Hf vs ss' s r Hf' H' O' On → Q r H'
theorem spO_len {pre : DE → DE → Slot → Prop} {n : Nat} (h : ∀ ss ss' s, pre ss ss' s → ss.length = n) : ∀ vs H Q E, spO pre vs H Q E → vs.length = n := fun vs H Q E ⟨Hf, O, ss, ss', s, h1, h2, h3, h4⟩ => by
  rw [← h2.len]
  exact h ss ss' s h3
def Back (ss' d : DE) : Prop := ∀ (i : Nat) (r : Res), ss'[i]? = some (Slot.own r) → d[i]? = some (Slot.own r)
def backO (ss' : DE) (O : Nat → Hp) : Nat → Hp := fun i => match ss'[i]? with
  | some (Slot.own _) => O i
  | _ => noHp
theorem backO_own {ss' : DE} {O : Nat → Hp} {i : Nat} {r : Res} (h : ss'[i]? = some (Slot.own r)) : backO ss' O i = O i := by unfold backO; rw [h]
theorem backO_some {ss' : DE} {O : Nat → Hp} {i : Nat} {p : Addr} (h : backO ss' O i p ≠ none) : backO ss' O i p = O i p := by
  cases w : ss'[i]? with
  | none =>
    exfalso
    apply h
    unfold backO
    rw [w]
    rfl
  | some s =>
    cases s with
    | own r => rw [backO_own w]
    | un =>
      exfalso
      apply h
      unfold backO
      rw [w]
      rfl
    | shi a i b =>
      exfalso
      apply h
      unfold backO
      rw [w]
      rfl
theorem env_startO {N : List Str} {vs : List V} {ss : DE} {H Hf : Hp} {O : Nat → Hp} (h1 : Ex Hf H) (h2 : ArgO H Hf O vs ss) : Env ⟨offO O H, Hf⟩ Hf O (ss ++ List.replicate (N.length - ss.length) .un) (start N vs) H := by
  refine ⟨fun p o e => ?_, h1, ex_refl _, fun _ _ h => h, fun i p o e => ?_, h2.dj, ?_, fun i s e => ?_⟩
  · have z := offO_some (O := O) (H := H) (p := p) (by rw [show offO O H p = some o from e]; exact fun z => by cases z)
    rw [← z.2]
    exact e
  · obtain ⟨a, b⟩ := h2.ow i p o e
    exact ⟨a, b, offO_in (i := i) (by rw [e]; exact fun z => by cases z)⟩
  · show (ss ++ List.replicate (N.length - ss.length) Slot.un).length = (vs.map some ++ List.replicate (N.length - vs.length) none).length
    rw [List.length_append, List.length_append, List.length_replicate, List.length_replicate, List.length_map, h2.len]
  · show Hold Hf (O i) (vs.map some ++ List.replicate (N.length - vs.length) none)[i]? s
    by_cases hi : i < ss.length
    · rw [List.getElem?_append_left hi] at e
      rw [List.getElem?_append_left (by rw [List.length_map, ← h2.len]; exact hi)]
      exact h2.hold i s e
    · rw [List.getElem?_append_right (Nat.le_of_not_lt hi)] at e
      rw [replicate_get e]
      trivial
/-- from a body's walk to its promise -/
theorem fn_sdO {pre : DE → DE → Slot → Prop} {N : List Str} {vs : List V} {H : Hp} {Q : VK} {E : XK} {t : TS} (h : spO pre vs H Q E) (hm : ∀ ss ss' s, pre ss ss' s → Match ss ss')
    (hb : ∀ ss ss' s, pre ss ss' s → SD t (ss ++ List.replicate (N.length - ss.length) .un) { nx := fun d => s = .sh () ∧ Back ss' d, rt := fun d s' => s' = s ∧ Back ss' d }) : t { nx := fun _ H' => Q .non H', rt := Q } (start N vs) H := by
  obtain ⟨Hf, O, ss, ss', s, h1, h2, h3, h4⟩ := h
  have M := hm ss ss' s h3
  have fin : ∀ (d' : DE) (Hf' : Hp) (O' : Nat → Hp) (σ' : L2.St) (H' : Hp), Env ⟨offO O H, Hf⟩ Hf' O' d' σ' H' → Back ss' d' → ArgO H' Hf' (backO ss' O') vs ss' := by
    intro d' Hf' O' σ' H' E' B'
    refine ⟨M.len.symm.trans h2.len, fun i x e => ?_, fun i p o e => ?_, fun i j p hij e => ?_⟩
    · have hi : i < ss.length := by rw [M.len]; exact (List.getElem?_eq_some_iff.mp e).1
      have e0 : ss[i]? = some ss[i] := List.getElem?_eq_getElem hi
      have h0 := h2.hold i _ e0
      rcases M.at' i _ e0 with ⟨g1, g2⟩ | ⟨p, r, r', g1, g2⟩
      · rw [g2] at e
        rw [← Option.some.inj e]
        exact (h0.mono E'.f0).sameO g1
      · rw [g2] at e
        rw [← Option.some.inj e]
        rw [g1] at h0
        obtain ⟨v, v1, v2, v3⟩ := h0
        have g3 := B' i _ g2
        obtain ⟨u, u1, u2, u3⟩ := E'.getO g3
        refine ⟨v, v1, v2, ?_⟩
        rw [backO_own g2, v2, ← u2]
        exact u3
    · have z : backO ss' O' i p = O' i p := backO_some (by rw [e]; exact fun z => by cases z)
      rw [z] at e
      exact ⟨(E'.ow i p o e).1, (E'.ow i p o e).2.1⟩
    · have z := backO_some e
      rw [z] at e
      cases w : backO ss' O' j p with
      | none => rfl
      | some u =>
        have z2 : backO ss' O' j p = O' j p := backO_some (by rw [w]; exact fun z => by cases z)
        rw [z2, E'.dj i j p hij e] at w
        cases w
  have fin6 : ∀ (d' : DE) (Hf' : Hp) (O' : Nat → Hp) (σ' : L2.St) (H' : Hp), Env ⟨offO O H, Hf⟩ Hf' O' d' σ' H' → ∀ i p, backO ss' O' i p ≠ none → offO O H p = none := by
    intro d' Hf' O' σ' H' E' i p e
    have z := backO_some e
    rw [z] at e
    cases w : O' i p with
    | none => exact absurd w e
    | some u => exact (E'.ow i p u w).2.2
  refine hb ss ss' s h3 ⟨offO O H, Hf⟩ Hf O (start N vs) H _ (env_startO h1 h2) ⟨fun d' Hf' O' σ H' z E' => ?_, fun d' s' v Hf' O' On σ H' z E' n r => ?_, fun _ _ _ _ _ z => z.elim, fun _ _ _ _ _ z => z.elim, fun _ _ => trivial⟩
  · refine h4 .non Hf' H' (backO ss' O') noHp ⟨E'.fr, E'.f0, E'.hf, E'.fo, fin _ _ _ _ _ E' z.2, fin6 _ _ _ _ _ E', (fun p o e => by cases e), ?_⟩
    rw [z.1]
    rfl
  · refine h4 v Hf' H' (backO ss' O') On ⟨E'.fr, E'.f0, E'.hf, E'.fo, fin _ _ _ _ _ E' z.2, fin6 _ _ _ _ _ E', fun p o e => ⟨n.at' p o e, n.fz p (by rw [e]; exact fun z => by cases z), n.Fz p (by rw [e]; exact fun z => by cases z), fun i => ?_⟩, ?_⟩
    · cases w : backO ss' O' i p with
      | none => rfl
      | some u =>
        have z2 : backO ss' O' i p = O' i p := backO_some (by rw [w]; exact fun z => by cases z)
        rw [z2, n.Oz p (by rw [e]; exact fun z => by cases z) i] at w
        cases w
    · rw [← z.1]
      exact r
section
variable {B : Base} {Hf Hf' H H' : Hp} {O : Nat → Hp} {d : DE} {σ : L2.St}
/-- two own slots behind a call to which they were handed -/
theorem Env.backO (E : Env B Hf O d σ H) {i1 i2 j1 j2 : Nat} (hne : i1 ≠ i2) (hj : j1 ≠ j2) {OA OA' : Nat → Hp} (e1 : OA j1 = O i1) (e2 : OA j2 = O i2) (e0 : ∀ j, j ≠ j1 → j ≠ j2 → OA j = noHp)
    (k1 : Ex (offO OA H) H') (k2 : Ex Hf Hf') (k3 : Ex Hf' H') (k4 : ∀ p, offO OA H p ≠ none → Hf p = none → Hf' p = none) (ow' : ∀ j p o, OA' j p = some o → H' p = some o ∧ Hf' p = none) (dj' : ∀ i j p, i ≠ j → OA' i p ≠ none → OA' j p = none)
    (k6 : ∀ i p, OA' i p ≠ none → offO OA H p = none) {r1 r2 : Res} (p1 : ∃ v, σ[i1]? = some (some v) ∧ r1.P Hf' (OA' j1) v) (p2 : ∃ v, σ[i2]? = some (some v) ∧ r2.P Hf' (OA' j2) v) :
    Env B Hf' (fun i => if i = i1 then OA' j1 else if i = i2 then OA' j2 else O i) ((d.set i1 (.own r1)).set i2 (.own r2)) σ H' := by
  have out : ∀ p, O i1 p = none → O i2 p = none → offO OA H p = H p := fun p a b => offO_out fun j => by
    by_cases z : j = j1
    · rw [z, e1]; exact a
    · by_cases z2 : j = j2
      · rw [z2, e2]; exact b
      · rw [e0 j z z2]; rfl
  have BF : ∀ p, B.F p ≠ none → O i1 p = none ∧ O i2 p = none := fun p h => by
    constructor
    · cases w : O i1 p with
      | none => rfl
      | some u => exact absurd (E.ow i1 p u w).2.2 h
    · cases w : O i2 p with
      | none => rfl
      | some u => exact absurd (E.ow i2 p u w).2.2 h
  have oth : ∀ i, i ≠ i1 → i ≠ i2 → ∀ p, O i p ≠ none → offO OA H p = H p ∧ offO OA H p ≠ none := fun i a b p h => by
    have z := out p (E.dj i i1 p a h) (E.dj i i2 p b h)
    refine ⟨z, ?_⟩
    rw [z]
    cases w : O i p with
    | none => exact absurd w h
    | some u => rw [(E.ow i p u w).1]; exact fun z => by cases z
  have bfn : ∀ j p, OA' j p ≠ none → B.F p = none := fun j p h => by
    cases w : B.F p with
    | none => rfl
    | some u =>
      obtain ⟨a, b⟩ := BF p (by rw [w]; exact fun z => by cases z)
      have := k6 j p h
      rw [out p a b, E.fr p u w] at this
      cases this
  refine ⟨fun p o e => ?_, k3, fun p o e => k2 p o (E.f0 p o e), fun p a b => ?_, fun i p o e => ?_, fun i j p hij e => ?_, ?_, fun j s' e => ?_⟩
  · obtain ⟨a, b⟩ := BF p (by rw [e]; exact fun z => by cases z)
    refine k1 p o ?_
    rw [out p a b]
    exact E.fr p o e
  · obtain ⟨a', b'⟩ := BF p a
    refine k4 p ?_ (E.fo p a b)
    rw [out p a' b']
    cases w : B.F p with
    | none => exact absurd w a
    | some u => rw [E.fr p u w]; exact fun z => by cases z
  · have e : (if i = i1 then OA' j1 else if i = i2 then OA' j2 else O i) p = some o := e
    by_cases z1 : i = i1
    · rw [if_pos z1] at e
      exact ⟨(ow' _ p o e).1, (ow' _ p o e).2, bfn j1 p (by rw [e]; exact fun z => by cases z)⟩
    · rw [if_neg z1] at e
      by_cases z2 : i = i2
      · rw [if_pos z2] at e
        exact ⟨(ow' _ p o e).1, (ow' _ p o e).2, bfn j2 p (by rw [e]; exact fun z => by cases z)⟩
      · rw [if_neg z2] at e
        obtain ⟨a, b, c⟩ := E.ow i p o e
        obtain ⟨g1, g2⟩ := oth i z1 z2 p (by rw [e]; exact fun z => by cases z)
        exact ⟨k1 p o (by rw [g1]; exact a), k4 p g2 b, c⟩
  · have e : (if i = i1 then OA' j1 else if i = i2 then OA' j2 else O i) p ≠ none := e
    show (if j = i1 then OA' j1 else if j = i2 then OA' j2 else O j) p = none
    have cross : ∀ i, i ≠ i1 → i ≠ i2 → ∀ m, OA' m p ≠ none → O i p = none := fun i a b m h => by
      cases w : O i p with
      | none => rfl
      | some u => exact absurd (k6 m p h) (oth i a b p (by rw [w]; exact fun z => by cases z)).2
    have cross2 : ∀ i, i ≠ i1 → i ≠ i2 → O i p ≠ none → ∀ m, OA' m p = none := fun i a b h m => by
      cases w : OA' m p with
      | none => rfl
      | some u => exact absurd (cross i a b m (by rw [w]; exact fun z => by cases z)) h
    by_cases a1 : i = i1
    · rw [if_pos a1] at e
      rw [if_neg (fun z => hij (a1.trans z.symm))]
      by_cases b2 : j = i2
      · rw [if_pos b2]
        exact dj' j1 j2 p hj e
      · rw [if_neg b2]
        exact cross j (fun z => hij (a1.trans z.symm)) b2 j1 e
    · rw [if_neg a1] at e
      by_cases a2 : i = i2
      · rw [if_pos a2] at e
        by_cases b1 : j = i1
        · rw [if_pos b1]
          exact dj' j2 j1 p (Ne.symm hj) e
        · rw [if_neg b1, if_neg (fun z => hij (a2.trans z.symm))]
          exact cross j b1 (fun z => hij (a2.trans z.symm)) j2 e
      · rw [if_neg a2] at e
        by_cases b1 : j = i1
        · rw [if_pos b1]
          exact cross2 i a1 a2 e j1
        · rw [if_neg b1]
          by_cases b2 : j = i2
          · rw [if_pos b2]
            exact cross2 i a1 a2 e j2
          · rw [if_neg b2]
            exact E.dj i j p hij e
  · rw [List.length_set, List.length_set]
    exact E.len
  · show Hold Hf' (if j = i1 then OA' j1 else if j = i2 then OA' j2 else O j) σ[j]? s'
    rw [getElem?_setS, List.length_set] at e
    by_cases z2 : i2 = j ∧ j < d.length
    · rw [if_pos z2] at e
      rw [← Option.some.inj e, if_neg (fun z => hne (z.symm.trans z2.1.symm)), if_pos z2.1.symm, ← z2.1]
      exact p2
    · rw [if_neg z2, getElem?_setS] at e
      by_cases z1 : i1 = j ∧ j < d.length
      · rw [if_pos z1] at e
        rw [← Option.some.inj e, if_pos z1.1.symm, ← z1.1]
        exact p1
      · rw [if_neg z1] at e
        have hj : j < d.length := (List.getElem?_eq_some_iff.mp e).1
        rw [if_neg (fun z => z1 ⟨z.symm, hj⟩), if_neg (fun z => z2 ⟨z.symm, hj⟩)]
        exact (E.sl j s' e).mono k2
end
/-- a resource whose value is an address -/
class IsRef (r : Res) : Prop where
  ref : ∀ {Hf O v}, r.P Hf O v → ∃ p, v = .ref p
instance {α : Type} [Rep α] {as : List α} : IsRef (olR as) := ⟨fun ⟨p, _, h, _⟩ => ⟨p, h⟩⟩
instance {β : Type} [Rep β] {m : List (Int × β)} : IsRef (odR m) := ⟨fun ⟨p, _, h, _⟩ => ⟨p, h⟩⟩
instance {α : Type} [Rep α] {m : List (Int × List α)} : IsRef (odlR m) := ⟨fun ⟨p, _, h, _⟩ => ⟨p, h⟩⟩
section
variable {K : PySem.W.Frag} {ta tb tc te tl tk t3 : TE} {d : DE} {P : Post}
/-- x = f(a, own, own, b) -/
theorem sd_callO4 {α β γ : Type} [Rep α] [Rep β] [Rep γ] {pre : DE → DE → Slot → Prop} {X : XK} {a : α} {b : β} {r1 r2 r1' r2' : Res} [IsRef r1] [IsRef r2] {res : γ} {i1 i2 k : Nat} (ha : ED ta d a) (h1 : d[i1]? = some (Slot.own r1)) (h2 : d[i2]? = some (Slot.own r2)) (hne : i1 ≠ i2) (h3 : ED t3 d b)
    (hp : ∀ p1 p2, pre [.sh a, .own (atR p1 r1), .own (atR p2 r2), .sh b] [.sh a, .own (atR p1 r1'), .own (atR p2 r2'), .sh b] (.sh res)) (nx : P.nx (((d.set i1 (.own r1')).set i2 (.own r2')).set k (.sh res))) :
    SD (tAsg (tCall (spO pre) [] X (tCons ta (tCons (tVar i1) (tCons (tVar i2) (tCons t3 tNil))))) (gName k)) d P := fun B Hf O σ H D E S =>
  ha B Hf O σ H E _ fun x Hf1 H1 E1 e1 rx => by
    obtain ⟨v1, s1, g1⟩ := E1.getO h1
    obtain ⟨v2, s2, g2⟩ := E1.getO h2
    obtain ⟨p1, rfl⟩ := IsRef.ref g1
    obtain ⟨p2, rfl⟩ := IsRef.ref g2
    refine ⟨_, s1, _, s2, h3 B Hf1 O σ H1 E1 _ fun y Hf2 H2 E2 e2 ry => ?_⟩
    obtain ⟨v1', s1', g1'⟩ := E2.getO h1
    obtain ⟨v2', s2', g2'⟩ := E2.getO h2
    rw [s1] at s1'
    cases s1'
    rw [s2] at s2'
    cases s2'
    show spO pre ([x, .ref p1, .ref p2, y] ++ []) H2 _ X
    rw [List.append_nil]
    refine ⟨Hf2, fun j => if j = 1 then O i1 else if j = 2 then O i2 else noHp, _, _, _, E2.hf, ⟨rfl, fun i s e => ?_, fun i p o e => ?_, fun i j p hij e => ?_⟩, hp p1 p2, fun r Hf3 H3 O' On PO => ?_⟩
    · match i, e with
      | 0, e => (cases e; exact ⟨x, rfl, Rep.mono e2 rx⟩)
      | 1, e => (cases e; exact ⟨.ref p1, rfl, rfl, g1'⟩)
      | 2, e => (cases e; exact ⟨.ref p2, rfl, rfl, g2'⟩)
      | 3, e => (cases e; exact ⟨y, rfl, ry⟩)
      | i + 4, e => cases e
    · have e : (if i = 1 then O i1 else if i = 2 then O i2 else noHp) p = some o := e
      split at e
      · exact ⟨(E2.ow i1 p o e).1, (E2.ow i1 p o e).2.1⟩
      · split at e
        · exact ⟨(E2.ow i2 p o e).1, (E2.ow i2 p o e).2.1⟩
        · cases e
    · have e : (if i = 1 then O i1 else if i = 2 then O i2 else noHp) p ≠ none := e
      show (if j = 1 then O i1 else if j = 2 then O i2 else noHp) p = none
      by_cases a1 : i = 1
      · rw [if_pos a1] at e
        rw [if_neg (fun z => hij (a1.trans z.symm))]
        split
        · exact E2.dj i1 i2 p hne e
        · rfl
      · rw [if_neg a1] at e
        by_cases a2 : i = 2
        · rw [if_pos a2] at e
          split
          · exact E2.dj i2 i1 p (Ne.symm hne) e
          · rw [if_neg (fun z => hij (a2.trans z.symm))]
            rfl
        · rw [if_neg a2] at e
          exact absurd rfl e
    · obtain ⟨w1, a1, a2, a3⟩ := PO.k5.hold 1 _ rfl
      obtain ⟨w2, b1, b2, b3⟩ := PO.k5.hold 2 _ rfl
      subst a2 b2
      have E4 := E2.backO (i1 := i1) (i2 := i2) (j1 := 1) (j2 := 2) hne (by decide) (OA := fun j => if j = 1 then O i1 else if j = 2 then O i2 else noHp) (OA' := O') rfl rfl (fun j z1 z2 => by show (if j = 1 then O i1 else if j = 2 then O i2 else noHp) = noHp; rw [if_neg z1, if_neg z2]) PO.k1 PO.k2 PO.k3 PO.k4 PO.k5.ow PO.k5.dj PO.k6 ⟨_, s1, a3⟩ ⟨_, s2, b3⟩
      exact S.nx _ _ _ _ _ nx (E4.setS PO.k8)
end
end TC
namespace TC
open PySem PySem.Spec L2
open Evl (Ex)
def minus (A X : Hp) : Hp := fun p => match X p with
  | some _ => none
  | none => A p
theorem minus_in {A X : Hp} {p : Addr} {o : HO} (h : X p = some o) : minus A X p = none := by unfold minus; rw [h]
theorem minus_out {A X : Hp} {p : Addr} (h : X p = none) : minus A X p = A p := by unfold minus; rw [h]
theorem minus_some {A X : Hp} {p : Addr} {o : HO} (h : minus A X p = some o) : X p = none ∧ A p = some o := by
  cases w : X p with
  | none => rw [minus_out w] at h; exact ⟨rfl, h⟩
  | some u => rw [minus_in w] at h; cases h
section
variable {B : Base} {Hf H : Hp} {O : Nat → Hp} {d : DE} {σ : L2.St}
/-- a part of one's own thing is taken out into another slot -/
theorem Env.splitO (E : Env B Hf O d σ H) {i k : Nat} (hik : i ≠ k) {X : Hp} (hX : ∀ p o, X p = some o → O i p = some o) {r : Res} {v : V} (hr : r.P Hf X v) :
    Env B Hf (fun j => if j = k then X else if j = i then minus (O i) X else O j) ((d.set i .un).set k (.own r)) (σ.set k (some v)) H := by
  have sub : ∀ j p o, j ≠ k → (if j = k then X else if j = i then minus (O i) X else O j) p = some o → O j p = some o := fun j p o a e => by
    rw [if_neg a] at e
    by_cases b : j = i
    · rw [if_pos b] at e
      rw [b]
      exact (minus_some e).2
    · rw [if_neg b] at e
      exact e
  refine ⟨E.fr, E.hf, E.f0, E.fo, fun j p o e => ?_, fun a b p hab e => ?_, ?_, fun j s' e => ?_⟩
  · have e : (if j = k then X else if j = i then minus (O i) X else O j) p = some o := e
    by_cases a : j = k
    · rw [if_pos a] at e
      exact E.ow i p o (hX p o e)
    · exact E.ow j p o (sub j p o a e)
  · have e : (if a = k then X else if a = i then minus (O i) X else O a) p ≠ none := e
    show (if b = k then X else if b = i then minus (O i) X else O b) p = none
    cases w : (if b = k then X else if b = i then minus (O i) X else O b) p with
    | none => rfl
    | some u =>
      exfalso
      cases w2 : (if a = k then X else if a = i then minus (O i) X else O a) p with
      | none => exact e w2
      | some u2 =>
        by_cases ak : a = k
        · rw [if_pos ak] at w2
          have bk : b ≠ k := fun z => hab (ak.trans z.symm)
          by_cases bi : b = i
          · rw [if_neg bk, if_pos bi] at w
            rw [(minus_some w).1] at w2
            cases w2
          · have := sub b p u bk w
            have z := E.dj i b p (Ne.symm bi) (by rw [hX p u2 w2]; exact fun z => by cases z)
            rw [z] at this
            cases this
        · have h1 := sub a p u2 ak w2
          by_cases bk : b = k
          · rw [if_pos bk] at w
            by_cases ai : a = i
            · rw [if_neg ak, if_pos ai] at w2
              rw [(minus_some w2).1] at w
              cases w
            · have z := E.dj i a p (Ne.symm ai) (by rw [hX p u w]; exact fun z => by cases z)
              rw [z] at h1
              cases h1
          · have h2 := sub b p u bk w
            rw [E.dj a b p hab (by rw [h1]; exact fun z => by cases z)] at h2
            cases h2
  · rw [List.length_set, List.length_set, List.length_set]
    exact E.len
  · show Hold Hf (if j = k then X else if j = i then minus (O i) X else O j) (σ.set k (some v))[j]? s'
    rw [getElem?_setS, List.length_set] at e
    rw [getElem?_set]
    by_cases z : k = j ∧ j < d.length
    · rw [if_pos z] at e
      rw [if_pos z.1.symm, if_pos ⟨z.1, by rw [← E.len]; exact z.2⟩, ← Option.some.inj e]
      exact ⟨v, rfl, hr⟩
    · rw [if_neg z, getElem?_setS] at e
      by_cases z2 : i = j ∧ j < d.length
      · rw [if_pos z2] at e
        rw [← Option.some.inj e]
        trivial
      · rw [if_neg z2] at e
        have hj : j < d.length := (List.getElem?_eq_some_iff.mp e).1
        rw [if_neg (fun x => z ⟨x.symm, hj⟩), if_neg (fun x => z2 ⟨x.symm, hj⟩), if_neg (fun x => z ⟨x.1, hj⟩)]
        exact E.sl j s' e
/-- and put back -/
theorem Env.joinO (E : Env B Hf O d σ H) {i k : Nat} (hik : i ≠ k) {r : Res} {v : V} (hv : σ[i]? = some (some v)) (hr : r.P Hf (plus (O i) (O k)) v) :
    Env B Hf (fun j => if j = k then noHp else if j = i then plus (O i) (O k) else O j) ((d.set i (.own r)).set k .un) σ H := by
  have sub : ∀ j p o, (if j = k then noHp else if j = i then plus (O i) (O k) else O j) p = some o → ∃ m, (m = j ∨ (j = i ∧ m = k)) ∧ O m p = some o := fun j p o e => by
    by_cases a : j = k
    · rw [if_pos a] at e
      cases e
    · rw [if_neg a] at e
      by_cases b : j = i
      · rw [if_pos b] at e
        cases w : O k p with
        | none => rw [plus_off w] at e; exact ⟨j, .inl rfl, by rw [b]; exact e⟩
        | some u => rw [plus_on w] at e; exact ⟨k, .inr ⟨b, rfl⟩, by rw [w, e]⟩
      · rw [if_neg b] at e
        exact ⟨j, .inl rfl, e⟩
  have nk : ∀ j p o, (if j = k then noHp else if j = i then plus (O i) (O k) else O j) p = some o → j ≠ k := fun j p o e z => by
    rw [if_pos z] at e
    cases e
  refine ⟨E.fr, E.hf, E.f0, E.fo, fun j p o e => ?_, fun a b p hab e => ?_, ?_, fun j s' e => ?_⟩
  · obtain ⟨m, _, h⟩ := sub j p o e
    exact E.ow m p o h
  · have e : (if a = k then noHp else if a = i then plus (O i) (O k) else O a) p ≠ none := e
    show (if b = k then noHp else if b = i then plus (O i) (O k) else O b) p = none
    cases w : (if b = k then noHp else if b = i then plus (O i) (O k) else O b) p with
    | none => rfl
    | some u =>
      exfalso
      cases w2 : (if a = k then noHp else if a = i then plus (O i) (O k) else O a) p with
      | none => exact e w2
      | some u2 =>
        obtain ⟨m, m1, m2⟩ := sub a p u2 w2
        obtain ⟨n, n1, n2⟩ := sub b p u w
        have ak := nk a p u2 w2
        have bk := nk b p u w
        have hmn : m ≠ n := by
          rcases m1 with rfl | ⟨rfl, rfl⟩
          · rcases n1 with rfl | ⟨rfl, rfl⟩
            · exact hab
            · exact ak
          · rcases n1 with rfl | ⟨rfl, rfl⟩
            · exact fun z => bk z.symm
            · exact absurd rfl hab
        rw [E.dj m n p hmn (by rw [m2]; exact fun z => by cases z)] at n2
        cases n2
  · rw [List.length_set, List.length_set]
    exact E.len
  · show Hold Hf (if j = k then noHp else if j = i then plus (O i) (O k) else O j) σ[j]? s'
    rw [getElem?_setS, List.length_set] at e
    by_cases z : k = j ∧ j < d.length
    · rw [if_pos z] at e
      rw [← Option.some.inj e]
      trivial
    · rw [if_neg z, getElem?_setS] at e
      by_cases z2 : i = j ∧ j < d.length
      · rw [if_pos z2] at e
        rw [← Option.some.inj e, if_neg (fun x => hik (z2.1.trans x)), if_pos z2.1.symm, ← z2.1]
        exact ⟨v, hv, hr⟩
      · rw [if_neg z2] at e
        have hj : j < d.length := (List.getElem?_eq_some_iff.mp e).1
        rw [if_neg (fun x => z ⟨x.symm, hj⟩), if_neg (fun x => z2 ⟨x.symm, hj⟩)]
        exact E.sl j s' e
end
section
variable {K : PySem.W.Frag} {ta tb tc te tl tk t3 : TE} {d : DE} {P : Post}
def dset {α : Type} (S : List (Int × List α)) (k : Int) (l : List α) : List (Int × List α) := match dget S k with
  | none => S
  | some _ => dput S k l
theorem argO2 {B : Base} {Hf H : Hp} {O : Nat → Hp} {σ : L2.St} (E : Env B Hf O d σ H) {i1 i2 : Nat} (hne : i1 ≠ i2) {r1 r2 : Res} {p1 p2 : Addr} (h1 : d[i1]? = some (.own r1)) (h2 : d[i2]? = some (.own r2)) (s1 : σ[i1]? = some (some (.ref p1))) (s2 : σ[i2]? = some (some (.ref p2))) :
    ArgO H Hf (fun j => if j = 0 then O i1 else if j = 1 then O i2 else noHp) [.ref p1, .ref p2] [.own (atR p1 r1), .own (atR p2 r2)] := by
  obtain ⟨v1', s1', g1'⟩ := E.getO h1
  obtain ⟨v2', s2', g2'⟩ := E.getO h2
  rw [s1] at s1'
  cases s1'
  rw [s2] at s2'
  cases s2'
  refine ⟨rfl, fun i s e => ?_, fun i p o e => ?_, fun i j p hij e => ?_⟩
  · match i, e with
    | 0, e => (cases e; exact ⟨.ref p1, rfl, rfl, g1'⟩)
    | 1, e => (cases e; exact ⟨.ref p2, rfl, rfl, g2'⟩)
    | i + 2, e => cases e
  · have e : (if i = 0 then O i1 else if i = 1 then O i2 else noHp) p = some o := e
    split at e
    · exact ⟨(E.ow i1 p o e).1, (E.ow i1 p o e).2.1⟩
    · split at e
      · exact ⟨(E.ow i2 p o e).1, (E.ow i2 p o e).2.1⟩
      · cases e
  · have e : (if i = 0 then O i1 else if i = 1 then O i2 else noHp) p ≠ none := e
    show (if j = 0 then O i1 else if j = 1 then O i2 else noHp) p = none
    by_cases a1 : i = 0
    · rw [if_pos a1] at e
      rw [if_neg (fun z => hij (a1.trans z.symm))]
      split
      · exact E.dj i1 i2 p hne e
      · rfl
    · rw [if_neg a1] at e
      by_cases a2 : i = 1
      · rw [if_pos a2] at e
        split
        · exact E.dj i2 i1 p (Ne.symm hne) e
        · rw [if_neg (fun z => hij (a2.trans z.symm))]
          rfl
      · rw [if_neg a2] at e
        exact absurd rfl e
/-- x = f(d.get(k, []), own): the list at a key of one's own dict of lists is handed over -/
theorem sd_taken {α β γ : Type} [Rep α] [Rep β] [Rep γ] {pre : DE → DE → Slot → Prop} {X : XK} {S : List (Int × List α)} {r2 : Res} [IsRef r2] {k0 : Int} {is iu k : Nat} {ps : Addr} (hi : d[is]? = some (.own (atR ps (odlR S)))) (hu : d[iu]? = some (.own r2)) (hne : is ≠ iu) (hsk : is ≠ k) (huk : iu ≠ k) (hkl : k < d.length)
    (hk : ED tk d k0) {l' : List α} {res : γ} (hp : ∀ c p2, pre [.own (atR c (olR ((dget S k0).getD []))), .own (atR p2 r2)] [.own (atR c (olR l')), .own (atR p2 r2)] (.sh res))
    (nx : P.nx ((d.set is (.own (atR ps (odlR (dset S k0 l'))))).set k (.sh res))) : SD (tAsg (tCall (spO pre) [] X (tCons (tDGet2 (tVar is) tk (tLst tNil)) (tCons (tVar iu) tNil))) (gName k)) d P := fun B Hf O σ H D E S0 => by
  obtain ⟨v1, s1, rfl, p, kvs, e0, h3, h4⟩ := E.getO hi
  cases e0
  have at0 := (E.ow is ps _ h3).1
  refine ⟨.ref ps, s1, ps, rfl, .inl ⟨kvs, .inl at0⟩, hk B Hf O σ H E _ fun y Hf1 H1 E1 e1 r1 => ⟨small 0 (by decide), fun b hb => ?_⟩⟩
  have at1 := (E1.ow is ps _ h3).1
  have hpb : ps ≠ b := fun z => by rw [z, hb] at at1; cases at1
  have nl1 := h4.mono e1
  obtain ⟨v2, s2, g2⟩ := E1.getO hu
  obtain ⟨p2, rfl⟩ := IsRef.ref g2
  have E2 := E1.allocO (o := .lst []) hb
  have hkσ : k < σ.length := by rw [← E.len]; exact hkl
  rw [show y = .int k0 from r1]
  refine ⟨valV kvs (.inl k0), .inl ⟨kvs, .inl k0, .inl (by rw [upd_ne hpb]; exact at1), rfl, rfl⟩, ?_⟩
  cases w : dget S k0 with
  | none =>
    rw [(nl1.new w (E1.Oz hb is)).1]
    refine ⟨_, s2, ?_⟩
    show spO pre ([.ref b, .ref p2] ++ []) _ _ X
    rw [List.append_nil]
    have E3 := E2.set (i := k) (v := .ref b) (s := .own (olR ([] : List α))) (On := one b (.lst [])) ⟨b, [], rfl, rfl, .nil⟩ ⟨fun p o e => (by obtain ⟨x, y⟩ := one_of e; rw [x, y]; exact upd_same), fun p h => (by rw [one_some h]; exact E1.fz hb), fun p h => (by rw [one_some h]; exact E1.Fz hb), fun p h i => (by rw [one_some h]; exact E1.Oz hb i)⟩
    have g1 : (d.set k (.own (olR ([] : List α))))[k]? = some (.own (olR ([] : List α))) := by rw [getElem?_setS, if_pos ⟨rfl, hkl⟩]
    have g2' : (d.set k (.own (olR ([] : List α))))[iu]? = some (.own r2) := by rw [getElem?_setS, if_neg (fun z => huk z.1.symm)]; exact hu
    have t1 : (σ.set k (some (.ref b)))[k]? = some (some (V.ref b)) := by rw [getElem?_set, if_pos ⟨rfl, hkσ⟩]
    have t2 : (σ.set k (some (.ref b)))[iu]? = some (some (V.ref p2)) := by rw [getElem?_set, if_neg (fun z => huk z.1.symm)]; exact s2
    have hp' := hp b p2
    rw [w] at hp'
    refine ⟨Hf1, _, _, _, _, E2.hf, argO2 E3 (Ne.symm huk) g1 g2' t1 t2, hp', fun r Hf3 H3 O' On PO => ?_⟩
    obtain ⟨w1, a1, a2, a3⟩ := PO.k5.hold 0 _ rfl
    obtain ⟨w2, b1, b2, b3⟩ := PO.k5.hold 1 _ rfl
    subst a2 b2
    have E4 := E3.backO (i1 := k) (i2 := iu) (j1 := 0) (j2 := 1) (Ne.symm huk) (by decide) (OA' := O') rfl rfl (fun j z1 z2 => by show (if j = 0 then _ else if j = 1 then _ else noHp) = noHp; rw [if_neg z1, if_neg z2]) PO.k1 PO.k2 PO.k3 PO.k4 PO.k5.ow PO.k5.dj PO.k6 ⟨_, t1, a3⟩ ⟨_, t2, b3⟩
    have E5 := E4.setS (i := k) (a := res) PO.k8
    rw [List.set_set, List.set_set, List.set_comm _ _ (Ne.symm huk), List.set_set] at E5
    have ed : d.set iu (.own r2) = d := by
      obtain ⟨x1, x2⟩ := List.getElem?_eq_some_iff.mp hu
      rw [← x2]
      exact List.set_getElem_self x1
    have ed2 : d.set is (.own (atR ps (odlR (dset S k0 l')))) = d := by
      have : dset S k0 l' = S := by unfold dset; rw [w]
      rw [this]
      obtain ⟨x1, x2⟩ := List.getElem?_eq_some_iff.mp hi
      rw [← x2]
      exact List.set_getElem_self x1
    rw [ed] at E5
    rw [ed2] at nx
    exact S0.nx _ _ _ _ _ nx E5
  | some l =>
    obtain ⟨c, vs, c1, c2, c3, c4⟩ := nl1.get w
    rw [c1]
    have hpc : ps ≠ c := fun z => by rw [z, c2] at h3; cases h3
    refine ⟨_, s2, ?_⟩
    show spO pre ([.ref c, .ref p2] ++ []) _ _ X
    rw [List.append_nil]
    have E3 := E2.splitO (i := is) (k := k) hsk (X := one c (.lst vs)) (fun p o e => by obtain ⟨x, y⟩ := one_of e; rw [x, y]; exact c2) (r := olR l) (v := .ref c) ⟨c, vs, rfl, rfl, c3⟩
    have g1 : ((d.set is .un).set k (.own (olR l)))[k]? = some (.own (olR l)) := by rw [getElem?_setS, if_pos ⟨rfl, by rw [List.length_set]; exact hkl⟩]
    have g2' : ((d.set is .un).set k (.own (olR l)))[iu]? = some (.own r2) := by rw [getElem?_setS, if_neg (fun z => huk z.1.symm), getElem?_setS, if_neg (fun z => hne z.1)]; exact hu
    have t1 : (σ.set k (some (.ref c)))[k]? = some (some (V.ref c)) := by rw [getElem?_set, if_pos ⟨rfl, hkσ⟩]
    have t2 : (σ.set k (some (.ref c)))[iu]? = some (some (V.ref p2)) := by rw [getElem?_set, if_neg (fun z => huk z.1.symm)]; exact s2
    have t3 : (σ.set k (some (.ref c)))[is]? = some (some (V.ref ps)) := by rw [getElem?_set, if_neg (fun z => hsk z.1.symm)]; exact (by
      obtain ⟨v3, s3, rfl, _⟩ := E1.getO hi
      exact s3)
    have hp' := hp c p2
    rw [w] at hp'
    refine ⟨Hf1, _, _, _, _, E2.hf, argO2 E3 (Ne.symm huk) g1 g2' t1 t2, hp', fun r Hf3 H3 O' On PO => ?_⟩
    obtain ⟨w1, a1, a2, a3⟩ := PO.k5.hold 0 _ rfl
    obtain ⟨w2, b1, b2, b3⟩ := PO.k5.hold 1 _ rfl
    subst a2 b2
    obtain ⟨c', us, u1, u2, u3⟩ := id a3
    cases u1
    have E4 := E3.backO (i1 := k) (i2 := iu) (j1 := 0) (j2 := 1) (Ne.symm huk) (by decide) (OA' := O') rfl rfl (fun j z1 z2 => by show (if j = 0 then _ else if j = 1 then _ else noHp) = noHp; rw [if_neg z1, if_neg z2]) PO.k1 PO.k2 PO.k3 PO.k4 PO.k5.ow PO.k5.dj PO.k6 ⟨_, t1, a3⟩ ⟨_, t2, b3⟩
    have eO : plus ((fun i => if i = k then O' 0 else if i = iu then O' 1 else (fun j => if j = k then one c (.lst vs) else if j = is then minus (O is) (one c (.lst vs)) else O j) i) is) ((fun i => if i = k then O' 0 else if i = iu then O' 1 else (fun j => if j = k then one c (.lst vs) else if j = is then minus (O is) (one c (.lst vs)) else O j) i) k) = upd (O is) c (.lst us) := by
      funext q
      have e1 : ((fun i => if i = k then O' 0 else if i = iu then O' 1 else (fun j => if j = k then one c (.lst vs) else if j = is then minus (O is) (one c (.lst vs)) else O j) i) is) = minus (O is) (one c (.lst vs)) := by
        show (if is = k then O' 0 else if is = iu then O' 1 else (if is = k then one c (.lst vs) else if is = is then minus (O is) (one c (.lst vs)) else O is)) = _
        rw [if_neg hsk, if_neg hne, if_neg hsk, if_pos rfl]
      have e2 : ((fun i => if i = k then O' 0 else if i = iu then O' 1 else (fun j => if j = k then one c (.lst vs) else if j = is then minus (O is) (one c (.lst vs)) else O j) i) k) = O' 0 := if_pos rfl
      rw [e1, e2, u2]
      by_cases z : q = c
      · rw [z, plus_on one_at, upd_same]
      · have n1 : one c (.lst us) q = none := by unfold one; exact if_neg z
        have n2 : one c (.lst vs) q = none := by unfold one; exact if_neg z
        rw [plus_off n1, minus_out n2, upd_ne z]
    have E5 := E4.joinO (i := is) (k := k) hsk (r := atR ps (odlR (dput S k0 l'))) t3 (by
      rw [eO]
      refine ⟨rfl, ps, kvs, rfl, by rw [upd_ne hpc]; exact h3, ?_⟩
      exact c4 Hf3 us l' PO.k2 u3)
    have E6 := E5.setS (i := k) (a := res) PO.k8
    have ed : ∀ x : Slot, d.set is x = (d.set is x).set iu (.own r2) := fun x => by
      have q : (d.set is x)[iu]? = some (.own r2) := by rw [getElem?_setS, if_neg (fun z => hne z.1)]; exact hu
      obtain ⟨x1, x2⟩ := List.getElem?_eq_some_iff.mp q
      rw [← x2]
      exact (List.set_getElem_self x1).symm
    have fin : (((((((d.set is Slot.un).set k (Slot.own (olR l))).set k (Slot.own (olR l'))).set iu (Slot.own r2)).set is (Slot.own (atR ps (odlR (dput S k0 l'))))).set k Slot.un).set k (Slot.sh res)) = ((d.set is (.own (atR ps (odlR (dset S k0 l'))))).set k (.sh res)) := by
      have e3 : dset S k0 l' = dput S k0 l' := by unfold dset; rw [w]
      rw [e3, List.set_set, List.set_set, List.set_comm _ _ (Ne.symm huk), ← ed, List.set_comm _ _ (Ne.symm hsk), List.set_set, List.set_set]
    rw [fin, List.set_set] at E6
    exact S0.nx _ _ _ _ _ nx E6
end
end TC
namespace TC
open PySem PySem.Spec L2
open Evl (Ex)
section
variable {B : Base} {Hf H : Hp} {O : Nat → Hp} {d : DE} {σ : L2.St}
/-- one's own single object is written -/
theorem Env.chg1 (E : Env B Hf O d σ H) {i : Nat} {p : Addr} {o o' : HO} {r : Res} (hv : σ[i]? = some (some (.ref p))) (hO : O i = one p o) (hr : r.P Hf (one p o') (.ref p)) : Env B Hf (setO O i (one p o')) (d.set i (.own r)) σ (upd H p o') := by
  refine E.chg hv hr (fun q u e => ?_) (fun q hq => ?_) fun q hq u hu => ?_
  · obtain ⟨a, b⟩ := one_of e
    rw [a, b, upd_same]
  · rw [one_some hq]
    exact .inl (by rw [hO, one_at]; exact fun z => by cases z)
  · rw [upd_ne (fun z => by rw [z, hO, one_at] at hq; cases hq)]
    exact hu
end
theorem pair_last {α : Type} [Rep α] {Hf : Hp} {vs : List V} {as : List α} {x : α} (h : Paired (rep Hf) vs (as ++ [x])) : ∃ us y, vs = us ++ [y] ∧ Paired (rep Hf) us as ∧ rep Hf y x := by
  obtain ⟨us, y, ws, e, h1, h2, h3⟩ := paired_split h
  cases h3
  exact ⟨us, y, e, h1, h2⟩
theorem last_get {α : Type} (l : List α) (x : α) : (l ++ [x])[(l ++ [x]).length - 1]? = some x := by
  rw [List.length_append, List.length_singleton, Nat.add_sub_cancel, List.getElem?_append_right (Nat.le_refl _), Nat.sub_self]
  rfl
section
variable {K : PySem.W.Frag} {ta tb tc te tl tk t3 : TE} {d : DE} {P : Post} {tt : TT} {ts : TS}
/-- xs.pop() -/
theorem sd_popS {α : Type} [Rep α] {as : List α} {x : α} {i : Nat} (hi : d[i]? = some (ol (as ++ [x]))) (nx : P.nx (d.set i (ol as))) : SD (tDrop (tBM0 K "list" rPop (tVar i))) d P := fun B Hf O σ H D E S => by
  obtain ⟨v, h1, p, vs, rfl, h3, h4⟩ := E.getO hi
  have at0 := (E.ow i p (.lst vs) (by rw [h3]; exact one_at)).1
  obtain ⟨us, y, rfl, r1, r2⟩ := pair_last h4
  refine ⟨.ref p, h1, .inl ⟨rfl, _, .inl (.inl at0)⟩, p, us ++ [y], y, rfl, rfl, at0, last_get us y, ?_⟩
  rw [List.dropLast_concat]
  exact S.nx _ _ _ _ _ nx (E.chg1 h1 h3 ⟨p, us, rfl, rfl, r1⟩)
/-- y = xs.pop() -/
theorem sd_popA {α : Type} [Rep α] {as : List α} {x : α} {i k : Nat} {c : Addr} (hi : d[i]? = some (.own (atR c (olR (as ++ [x]))))) (nx : P.nx ((d.set i (.own (atR c (olR as)))).set k (.sh x))) : SD (tAsg (tBM0 K "list" rPop (tVar i)) (gName k)) d P := fun B Hf O σ H D E S => by
  obtain ⟨v, h1, rfl, p, vs, e, h3, h4⟩ := E.getO hi
  cases e
  have at0 := (E.ow i c (.lst vs) (by rw [h3]; exact one_at)).1
  obtain ⟨us, y, rfl, r1, r2⟩ := pair_last h4
  refine ⟨.ref c, h1, .inl ⟨rfl, _, .inl (.inl at0)⟩, c, us ++ [y], y, rfl, rfl, at0, last_get us y, ?_⟩
  rw [List.dropLast_concat]
  exact S.nx _ _ _ _ _ nx ((E.chg1 (r := atR c (olR as)) h1 h3 ⟨rfl, c, us, rfl, rfl, r1⟩).setS r2)
theorem Env.lendA {B : Base} {Hf H : Hp} {O : Nat → Hp} {σ : L2.St} {i : Nat} {α : Type} [Rep α] {as : List α} {c : Addr} (E : Env B Hf O d σ H) (hi : d[i]? = some (.own (atR c (olR as)))) : Env B (plus Hf (O i)) (setO O i noHp) (d.set i (.sh as)) σ H := by
  obtain ⟨v, h1, _, p, vs, h2, h3, h4⟩ := E.getO hi
  have ex : Ex Hf (plus Hf (O i)) := fun q u e => by
    cases w : O i q with
    | none => rw [plus_off w]; exact e
    | some x => rw [(E.ow i q x w).2.1] at e; cases e
  exact E.freeze (a := as) h1 ⟨p, vs, h2, plus_on (by rw [h3]; exact one_at), paired_mono ex h4⟩
theorem et_lendA {α : Type} [Rep α] {as : List α} {i : Nat} {b : Bool} {c : Addr} (hi : d[i]? = some (.own (atR c (olR as)))) (h : ET tt (d.set i (.sh as)) b) : ET tt d b := fun B Hf O σ H E Q q =>
  h B _ _ σ H (E.lendA hi) Q fun Hf' H' E2 e2 => q Hf H' (E.unborrow E2 e2) (ex_refl _)
theorem erd_ownA {β : Type} [Rep β] {m : List (Int × β)} {i : Nat} {c : Addr} (h : d[i]? = some (.own (atR c (odR m)))) : ERD (tVar i) d m := fun B Hf O σ H E Q q => by
  obtain ⟨v, h1, _, p, vs, h2, h3, h4⟩ := E.getO h
  rw [h2] at h1
  exact ⟨.ref p, h1, q p vs Hf H E (fun _ _ e => e) fun B2 Hf2 σ2 d2 H2 E2 e2 => ⟨(E2.ow i p (.dK vs) (by rw [h3]; exact one_at)).1, kvR_mono e2 h4⟩⟩
theorem sd_dputA {β : Type} [Rep β] {m : List (Int × β)} {b : β} {i : Nat} {k : Int} {c : Addr} (hi : d[i]? = some (.own (atR c (odR m)))) (h : ED te d b) (hk : ED tb d k) (hl : m.length ≤ 900000) (nx : P.nx (d.set i (.own (atR c (odR (dput m k b)))))) :
    SD (sDPut (tVar i) tb te) d P := fun B Hf O σ H D E S => by
  obtain ⟨v, h1, rfl, p, vs, e, h3, h4⟩ := E.getO hi
  cases e
  refine h B Hf O σ H E _ fun y Hf1 H1 E1 e1 r1 => ⟨.ref c, h1, hk B Hf1 O σ H1 E1 _ fun z Hf2 H2 E2 e2 r2 => ?_⟩
  have at1 := (E2.ow i c (.dK vs) (by rw [h3]; exact one_at)).1
  rw [show z = .int k from r2]
  refine ⟨c, _, rfl, .inl ⟨vs, .inl k, at1, rfl, small' _ (by rw [paired_len h4]; omega), rfl⟩, ?_⟩
  exact S.nx _ Hf2 _ σ _ nx (E2.chg1 (r := atR c (odR (dput m k b))) h1 h3 ⟨rfl, c, _, rfl, rfl, put_rel (Rep.mono e2 r1) (kvR_mono (e1.trans e2) h4)⟩)
/-! range with a step of two -/
def rng2A (i j : Int) : List Int := (List.range (if i < j then (j - i - 1) / 2 + 1 else 0).toNat).map fun k => i + ((k : Nat) : Int) * 2
theorem rng2A_len (i j : Int) : (rng2A i j).length = (if i < j then (j - i - 1) / 2 + 1 else 0).toNat := by
  unfold rng2A
  rw [List.length_map, List.length_range]
theorem id_rng3 {i j : Int} (ha : ED ta d i) (hb : ED tb d j) (hi : -(2 ^ 61) ≤ i ∧ i < 2 ^ 61) (hj : -(2 ^ 61) ≤ j ∧ j < 2 ^ 61) : ID (iRng3 (tCons ta (tCons tb (tCons (tC (.int 2)) tNil)))) d (rng2A i j) := fun B Hf O σ H E R q =>
  ha B Hf O σ H E _ fun x Hf1 H1 E1 e1 r1 => hb B Hf1 O σ H1 E1 _ fun y Hf2 H2 E2 e2 r2 => ⟨i, j, 2, (if i < j then (j - i - 1) / 2 + 1 else 0).toNat, by rw [show x = .int i from r1, show y = .int j from r2], by
    refine ⟨by decide, by decide, ?_, ?_⟩
    · unfold Builtin.Range.small Builtin.Range.rangeSize
      simp only [Builtin.Range.rangeFitsLong, Bool.and_eq_true, Bool.or_eq_true, decide_eq_true_eq, beq_iff_eq, show (2 : Int) > 0 by decide, if_true]
      split <;> omega
    · unfold Builtin.Range.rangeSize
      simp only [show (2 : Int) > 0 by decide, if_true]
      split <;> omega, q _ Hf2 H2 E2 (e1.trans e2) ⟨
    fun k B Hf O d σ H hi E e => by rw [rng2A_len] at hi; exact hi,
    fun B Hf O d σ H E e => by rw [rng2A_len]; exact Nat.le_refl _,
    fun k B Hf O d σ H x H' hi E e y => by
      obtain ⟨y1, y2⟩ := y
      rw [y1, y2]
      rw [rng2A_len] at hi
      refine ⟨Hf, i + ((k : Nat) : Int) * 2, E, ex_refl _, ?_, rfl⟩
      unfold rng2A
      rw [List.getElem?_map, List.getElem?_range hi]
      rfl⟩⟩
/-! a step or none -/
instance : Dat (Option (Int × Bool)) where
  dat o := match o with
    | none => .none
    | some st => Dat.dat st
  dp := fun {K H v a} h => by
    cases a with
    | none => rw [show v = .non from h]; exact .non
    | some st => exact Dat.dp (show rep H v st from h)
  lay o := by
    cases o with
    | none => rfl
    | some st => exact Dat.lay st
  dep := 1
  depth o := by
    cases o with
    | none => exact Nat.zero_le _
    | some st => exact Dat.depth st
  eqv a b := by
    cases a with
    | none =>
      cases b with
      | none => exact ⟨fun _ => rfl, fun _ => rfl⟩
      | some y => exact ⟨fun h => absurd h (by simp [Dat.dat, PyData.eqv]), fun h => by cases h⟩
    | some x =>
      cases b with
      | none => exact ⟨fun h => absurd h (by simp [Dat.dat, PyData.eqv]), fun h => by cases h⟩
      | some y => exact (Dat.eqv x y).trans ⟨fun h => by rw [h], fun h => Option.some.inj h⟩
/-! one's own list of one's own lists -/
def lvR {α : Type} [Rep α] (Hf O : Hp) (v : V) (l : List α) : Prop := ∃ b vs, v = .ref b ∧ O b = some (.lst vs) ∧ Paired (rep Hf) vs l
def ollR {α : Type} [Rep α] (ls : List (List α)) : Res := ⟨fun Hf O v => ∃ p ws, v = .ref p ∧ O p = some (.lst ws) ∧ Paired (lvR Hf O) ws ls ∧ (V.ref p :: ws).Nodup,
  fun e ⟨p, ws, h1, h2, h3, h4⟩ => ⟨p, ws, h1, h2, paired_imp h3 (fun _ _ _ _ ⟨b, vs, a1, a2, a3⟩ => ⟨b, vs, a1, a2, paired_mono e a3⟩), h4⟩⟩
abbrev oll {α : Type} [Rep α] (ls : List (List α)) : Slot := .own (ollR ls)
/-- [[]] -/
theorem eo_oll1 {α : Type} [Rep α] : EO (tLst (tCons (tLst tNil) tNil)) d (ollR ([[]] : List (List α))) := fun B Hf O σ H E Q q => ⟨small 0 (by decide), fun b hb => ⟨small 1 (by decide), fun p hp => by
  have hbp : p ≠ b := fun z => by rw [z, upd_same] at hp; cases hp
  have hp' : H p = none := by rw [upd_ne hbp] at hp; exact hp
  have E1 := E.allocO (o := .lst []) hb
  refine q _ Hf _ (upd (one b (.lst [])) p (.lst [.ref b])) (E1.allocO (o := .lst [.ref b]) hp) (ex_refl _) ⟨fun a o e => ?_, fun a h => ?_, fun a h => ?_, fun a h i => ?_⟩ ⟨p, [.ref b], rfl, upd_same, .cons ⟨b, [], rfl, by rw [upd_ne (Ne.symm hbp)]; exact one_at, .nil⟩ .nil, by simp [hbp]⟩
  · by_cases z : a = p
    · rw [z, upd_same] at e ⊢
      exact e
    · rw [upd_ne z] at e ⊢
      obtain ⟨x, y⟩ := one_of e
      rw [x, y, upd_same]
  all_goals
    have ab : a = p ∨ a = b := by
      by_cases z : a = p
      · exact .inl z
      · rw [upd_ne z] at h
        exact .inr (one_some h)
    rcases ab with rfl | rfl
  · exact E.fz hp'
  · exact E.fz hb
  · exact E.Fz hp'
  · exact E.Fz hb
  · exact E.Oz hp' i
  · exact E.Oz hb i⟩⟩
/-- xs.append([]) -/
theorem sd_appNew {α : Type} [Rep α] {ls : List (List α)} {i : Nat} (hi : d[i]? = some (oll ls)) (hl : ls.length ≤ 900000) (nx : P.nx (d.set i (oll (ls ++ [[]])))) : SD (tDrop (tBM K "list" rAppend (tVar i) (tCons (tLst tNil) tNil))) d P := fun B Hf O σ H D E S => by
  obtain ⟨v, h1, p, ws, rfl, h3, h4, h5⟩ := E.getO hi
  have at0 := (E.ow i p _ h3).1
  refine ⟨.ref p, h1, .inl ⟨rfl, _, .inl (.inl at0)⟩, small 0 (by decide), fun b hb => ?_⟩
  have hpb : p ≠ b := fun z => by rw [z, hb] at at0; cases at0
  have hOb := E.Oz hb i
  refine ⟨p, ws, .ref b, rfl, rfl, by rw [upd_ne hpb]; exact at0, small' _ (by rw [paired_len h4]; omega), ?_⟩
  have old : Paired (lvR Hf (upd (upd (O i) p (.lst (ws ++ [.ref b]))) b (.lst []))) ws ls := paired_imp h4 fun y hy q hq ⟨c, vs, a1, a2, a3⟩ => by
    have n1 : c ≠ b := fun z => by rw [z, hOb] at a2; cases a2
    have n2 : c ≠ p := fun z => (List.nodup_cons.mp h5).1 (by rw [← z, ← a1]; exact hy)
    exact ⟨c, vs, a1, by rw [upd_ne n1, upd_ne n2]; exact a2, a3⟩
  have nb : V.ref b ∉ ws := fun z => by
    obtain ⟨q, _, c, vs, a1, a2, _⟩ := paired_mem h4 _ z
    cases a1
    rw [hOb] at a2
    cases a2
  refine S.nx _ _ _ _ _ nx (E.chg (r := ollR (ls ++ [[]])) (On := upd (upd (O i) p (.lst (ws ++ [.ref b]))) b (.lst [])) h1 ⟨p, ws ++ [.ref b], rfl, by rw [upd_ne hpb, upd_same], paired_app (F := lvR Hf (upd (upd (O i) p (.lst (ws ++ [.ref b]))) b (.lst []))) old (.cons ⟨b, [], rfl, upd_same, .nil⟩ .nil), ?_⟩ (fun q u e => ?_) (fun q hq => ?_) fun q hq u hu => ?_)
  · obtain ⟨n1, n2⟩ := List.nodup_cons.mp h5
    refine List.nodup_cons.mpr ⟨fun z => ?_, List.nodup_append.mpr ⟨n2, by simp, fun a ha c hc e => ?_⟩⟩
    · rcases List.mem_append.mp z with z | z
      · exact n1 z
      · cases List.mem_singleton.mp z
        exact hpb rfl
    · rw [List.mem_singleton.mp hc] at e
      exact nb (by rw [← e]; exact ha)
  · by_cases z : q = b
    · rw [z, upd_same] at e
      rw [z, upd_ne (Ne.symm hpb), upd_same]
      exact e
    · rw [upd_ne z] at e
      by_cases z2 : q = p
      · rw [z2, upd_same] at e ⊢
        exact e
      · rw [upd_ne z2] at e
        rw [upd_ne z2, upd_ne z]
        exact (E.ow i q u e).1
  · by_cases z : q = b
    · rw [z]
      exact .inr hb
    · rw [upd_ne z] at hq
      by_cases z2 : q = p
      · rw [z2, h3]
        exact .inl fun y => by cases y
      · rw [upd_ne z2] at hq
        exact .inl hq
  · rw [upd_ne (fun z => by rw [z, h3] at hq; cases hq), upd_ne (fun z => by rw [z, hb] at hu; cases hu)]
    exact hu
/-- xs[-1].append(y) -/
theorem sd_appLast {α : Type} [Rep α] {ls : List (List α)} {l : List α} {x : α} {i : Nat} (hi : d[i]? = some (oll (ls ++ [l]))) (hx : ED te d x) (hl : l.length ≤ 900000) (nx : P.nx (d.set i (oll (ls ++ [l ++ [x]])))) :
    SD (tDrop (tBM K "list" rAppend (tOp (rIxL K) (tVar i) (tUn (rU fun i => .int (-i)) (tC (.int 1)))) (tCons te tNil))) d P := fun B Hf O σ H D E S => by
  obtain ⟨v, h1, p, ws, rfl, h3, h4, h5⟩ := E.getO hi
  have at0 := (E.ow i p _ h3).1
  obtain ⟨us, y, zs, rfl, g1, g2, g3⟩ := paired_split h4
  cases g3
  obtain ⟨c, vs, rfl, c2, c3⟩ := g2
  have atc := (E.ow i c _ c2).1
  refine ⟨.ref p, h1, 1, rfl, p, us ++ [.ref c], -1, .ref c, rfl, rfl, .inl (.inl at0), atI_last us _, .inl ⟨rfl, _, .inl (.inl atc)⟩, hx B Hf O σ H E _ fun z Hf1 H1 E1 e1 r1 => ?_⟩
  have atc1 := (E1.ow i c _ c2).1
  have hpc : p ≠ c := fun z => (List.nodup_cons.mp h5).1 (by rw [z]; simp)
  refine ⟨c, vs, z, rfl, rfl, atc1, small' _ (by rw [paired_len c3]; omega), ?_⟩
  have n5 := (List.nodup_cons.mp h5).2
  have old : Paired (lvR Hf1 (upd (O i) c (.lst (vs ++ [z])))) us ls := paired_imp g1 fun y hy q hq ⟨b, vs', a1, a2, a3⟩ => by
    have n1 : b ≠ c := fun e => (List.nodup_append.mp n5).2.2 y hy (.ref c) List.mem_cons_self (by rw [a1, e])
    exact ⟨b, vs', a1, by rw [upd_ne n1]; exact a2, paired_mono e1 a3⟩
  refine S.nx _ _ _ _ _ nx (E1.chg (r := ollR (ls ++ [l ++ [x]])) (On := upd (O i) c (.lst (vs ++ [z]))) h1 ⟨p, us ++ [.ref c], rfl, by rw [upd_ne hpc]; exact h3, paired_app (F := lvR Hf1 (upd (O i) c (.lst (vs ++ [z])))) old (.cons ⟨c, vs ++ [z], rfl, upd_same, paired_app (paired_mono e1 c3) (.cons r1 .nil)⟩ .nil), h5⟩ (fun q u e => ?_) (fun q hq => ?_) fun q hq u hu => ?_)
  · by_cases z : q = c
    · rw [z, upd_same] at e ⊢
      exact e
    · rw [upd_ne z] at e ⊢
      exact (E1.ow i q u e).1
  · by_cases z : q = c
    · rw [z, c2]
      exact .inl fun y => by cases y
    · rw [upd_ne z] at hq
      exact .inl hq
  · rw [upd_ne (fun z => by rw [z, c2] at hq; cases hq)]
    exact hu
theorem sd_frzLL {α : Type} [Rep α] {ls : List (List α)} {i : Nat} (hi : d[i]? = some (oll ls)) (h : SD ts (d.set i (.sh ls)) P) : SD ts d P := fun B Hf O σ H D E S => by
  obtain ⟨v, h1, p, ws, h2, h3, h4, h5⟩ := E.getO hi
  have ex : Ex Hf (plus Hf (O i)) := fun q u e => by
    cases w : O i q with
    | none => rw [plus_off w]; exact e
    | some x => rw [(E.ow i q x w).2.1] at e; cases e
  have E' := E.freeze (a := ls) h1 ⟨p, ws, h2, plus_on h3, paired_imp h4 fun _ _ _ _ ⟨b, vs, a1, a2, a3⟩ => ⟨b, vs, a1, plus_on a2, paired_mono ex a3⟩⟩
  exact h ⟨B.F, plus Hf (O i)⟩ _ _ σ H D E'.rebase (S.rebase E')
end
end TC
/-! a walk from a mark by all unused tiles, in plain lists -/
namespace TC
abbrev Stp := Int × Bool
abbrev Tls := List (Int × Int)
/-- the first step of a list whose tile is not used, and what lies behind it -/
def takeR (U : List Int) : List Stp → Option Stp × List Stp
  | [] => (none, [])
  | st :: r => if st.1 ∈ U then takeR U r else (some st, r)
theorem takeR_none {U : List Int} : ∀ {l : List Stp}, (takeR U l).1 = none → (takeR U l).2 = [] ∧ ∀ st ∈ l, st.1 ∈ U
  | [], _ => ⟨rfl, fun st h => by cases h⟩
  | x :: l, h => by
    unfold takeR at h ⊢
    by_cases c : x.1 ∈ U
    · rw [if_pos c] at h ⊢
      obtain ⟨h1, h2⟩ := takeR_none h
      refine ⟨h1, fun st hst => ?_⟩
      rcases List.mem_cons.mp hst with e | hst
      · rw [e]; exact c
      · exact h2 st hst
    · rw [if_neg c] at h
      cases h
theorem takeR_some {U : List Int} : ∀ {l : List Stp} {st : Stp}, (takeR U l).1 = some st → st.1 ∉ U ∧ ∃ pre, l = pre ++ st :: (takeR U l).2 ∧ ∀ x ∈ pre, x.1 ∈ U
  | [], st, h => by cases h
  | x :: l, st, h => by
    unfold takeR at h ⊢
    by_cases c : x.1 ∈ U
    · rw [if_pos c] at h ⊢
      obtain ⟨h1, pre, h2, h3⟩ := takeR_some h
      refine ⟨h1, x :: pre, by rw [List.cons_append, ← h2], fun y hy => ?_⟩
      rcases List.mem_cons.mp hy with e | hy
      · rw [e]; exact c
      · exact h3 y hy
    · rw [if_neg c] at h ⊢
      cases h
      exact ⟨c, [], rfl, fun y hy => by cases hy⟩
theorem takeR_sub {U : List Int} {l : List Stp} {x : Stp} (h : x ∈ (takeR U l).2) : x ∈ l := by
  cases w : (takeR U l).1 with
  | none => rw [(takeR_none w).1] at h; cases h
  | some st =>
    obtain ⟨_, pre, e, _⟩ := takeR_some w
    rw [e]
    exact List.mem_append_right _ (List.mem_cons_of_mem _ h)
/-- the state of the walk: the pile with its top first, the row from its end -/
structure HS where
  S : List (Int × List Stp)
  U : List (Int × Bool)
  pile : List (Int × Option Stp)
  row : List Stp
  vis : List Int
def withCame (row : List Stp) : Option Stp → List Stp
  | none => row
  | some st => st :: row
def takeS (s : HS) (here : Int) : Option Stp × List Stp := takeR (keysM s.U) ((dget s.S here).getD []).reverse
def hstep (T : Tls) (s : HS) : HS := match s.pile with
  | [] => s
  | e :: pl => match (takeS s e.1).1 with
    | none => ⟨dset s.S e.1 (takeS s e.1).2.reverse, s.U, pl, withCame s.row e.2, s.vis⟩
    | some st => ⟨dset s.S e.1 (takeS s e.1).2.reverse, dput s.U st.1 true, ((faceOf T st).2, some st) :: s.pile, s.row, (faceOf T st).2 :: s.vis⟩
theorem hstep_nil {T : Tls} {s : HS} (h : s.pile = []) : hstep T s = s := by
  unfold hstep
  rw [h]
theorem hstep_pop {T : Tls} {s : HS} {e : Int × Option Stp} {pl : List (Int × Option Stp)} (h : s.pile = e :: pl) (w : (takeS s e.1).1 = none) :
    hstep T s = ⟨dset s.S e.1 (takeS s e.1).2.reverse, s.U, pl, withCame s.row e.2, s.vis⟩ := by
  unfold hstep
  rw [h]
  dsimp only
  rw [w]
theorem hstep_push {T : Tls} {s : HS} {e : Int × Option Stp} {pl : List (Int × Option Stp)} {st : Stp} (h : s.pile = e :: pl) (w : (takeS s e.1).1 = some st) :
    hstep T s = ⟨dset s.S e.1 (takeS s e.1).2.reverse, dput s.U st.1 true, ((faceOf T st).2, some st) :: s.pile, s.row, (faceOf T st).2 :: s.vis⟩ := by
  unfold hstep
  rw [h]
  dsimp only
  rw [w]
def hrun (T : Tls) : Nat → HS → HS
  | 0, s => s
  | n + 1, s => hrun T n (hstep T s)
theorem hrun_nil {T : Tls} : ∀ {n : Nat} {s : HS}, s.pile = [] → hrun T n s = s
  | 0, _, _ => rfl
  | n + 1, s, h => by
    show hrun T n (hstep T s) = s
    rw [hstep_nil h]
    exact hrun_nil h
/-- tiles not used -/
def freeN (T : Tls) (U : List Int) : Nat := ((List.range T.length).filter fun n => !decide (((n : Nat) : Int) ∈ U)).length
def hm (T : Tls) (s : HS) : Nat := 2 * freeN T (keysM s.U) + s.pile.length
def hres (T : Tls) (s : HS) : HS := hrun T (hm T s) s
theorem filter_less {p q : Nat → Bool} {x : Nat} : ∀ {l : List Nat}, l.Nodup → x ∈ l → p x = true → q x = false → (∀ y, y ≠ x → q y = p y) → (l.filter p).length = (l.filter q).length + 1
  | [], _, h, _, _, _ => by cases h
  | y :: l, hn, hm, hp, hq, he => by
    obtain ⟨n1, n2⟩ := List.nodup_cons.mp hn
    by_cases c : y = x
    · subst c
      rw [List.filter_cons_of_pos hp, List.filter_cons_of_neg (by rw [hq]; exact Bool.false_ne_true), List.length_cons]
      congr 2
      refine List.filter_congr fun z hz => (he z fun e => n1 (by rw [← e]; exact hz)).symm
    · have ih := filter_less n2 ((List.mem_cons.mp hm).elim (fun e => absurd e.symm c) id) hp hq he
      rw [List.filter_cons, List.filter_cons, he y c]
      split
      · rw [List.length_cons, List.length_cons, ih]
      · exact ih
theorem freeN_less {T : Tls} {U U' : List Int} {n : Int} (h : isNum T n = true) (hn : n ∉ U) (hU : ∀ m, m ∈ U' ↔ m = n ∨ m ∈ U) : freeN T U = freeN T U' + 1 := by
  obtain ⟨h1, h2⟩ := isNum_iff.mp h
  obtain ⟨k, rfl⟩ := Int.eq_ofNat_of_zero_le h1
  unfold freeN
  refine filter_less (x := k) List.nodup_range (List.mem_range.mpr (by omega)) ?_ ?_ fun y hy => ?_
  · rw [decide_eq_false hn]; rfl
  · rw [decide_eq_true ((hU _).mpr (.inl rfl))]; rfl
  · congr 1
    rw [decide_eq_decide, hU]
    exact ⟨fun h => h.elim (fun e => absurd (by omega) hy) id, Or.inr⟩
theorem freeN_le (T : Tls) (U : List Int) : freeN T U ≤ T.length := by
  unfold freeN
  refine Nat.le_trans (List.length_filter_le _ _) ?_
  rw [List.length_range]
  exact Nat.le_refl _
theorem dset_get {α : Type} {S : List (Int × List α)} {k v : Int} {l : List α} (h : dget S k = none → l = []) : (dget (dset S k l) v).getD [] = if v = k then l else (dget S v).getD [] := by
  unfold dset
  cases w : dget S k with
  | none =>
    by_cases c : v = k
    · rw [if_pos c, c, w, h w]
      rfl
    · rw [if_neg c]
  | some x =>
    show (dget (dput S k l) v).getD [] = _
    rw [dget_dput]
    by_cases c : v = k
    · rw [if_pos c, if_pos c]
      rfl
    · rw [if_neg c, if_neg c]
theorem takeS_none {s : HS} {here : Int} (h : dget s.S here = none) : (takeS s here).2.reverse = [] := by
  unfold takeS
  rw [h]
  rfl
/-- all steps at hand are of tiles -/
def SVal (T : Tls) (S : List (Int × List Stp)) : Prop := ∀ v, ∀ st ∈ (dget S v).getD [], isNum T st.1 = true
theorem hstep_val {T : Tls} {s : HS} (h : SVal T s.S) : SVal T (hstep T s).S := by
  have key : ∀ here, SVal T (dset s.S here (takeS s here).2.reverse) := fun here v st hst => by
    rw [dset_get takeS_none] at hst
    by_cases c : v = here
    · rw [if_pos c] at hst
      exact h here st (List.mem_reverse.mp (takeR_sub (List.mem_reverse.mp hst)))
    · rw [if_neg c] at hst
      exact h v st hst
  cases hp : s.pile with
  | nil => rw [hstep_nil hp]; exact h
  | cons e pl =>
    cases w : (takeS s e.1).1 with
    | none => rw [hstep_pop hp w]; exact key _
    | some st => rw [hstep_push hp w]; exact key _
theorem takeS_num {T : Tls} {s : HS} (h : SVal T s.S) {here : Int} {st : Stp} (w : (takeS s here).1 = some st) : isNum T st.1 = true ∧ st.1 ∉ keysM s.U ∧ st ∈ (dget s.S here).getD [] := by
  obtain ⟨h1, pre, h2, h3⟩ := takeR_some w
  have hm : st ∈ (dget s.S here).getD [] := List.mem_reverse.mp (by rw [h2]; simp)
  exact ⟨h here st hm, h1, hm⟩
theorem hm_step {T : Tls} {s : HS} (h : SVal T s.S) (hp : s.pile ≠ []) : hm T s = hm T (hstep T s) + 1 := by
  cases hp' : s.pile with
  | nil => exact absurd hp' hp
  | cons e pl =>
    cases w : (takeS s e.1).1 with
    | none =>
      rw [hstep_pop hp' w]
      show 2 * freeN T (keysM s.U) + s.pile.length = 2 * freeN T (keysM s.U) + pl.length + 1
      rw [hp', List.length_cons]
      omega
    | some st =>
      obtain ⟨h1, h2, _⟩ := takeS_num h w
      rw [hstep_push hp' w]
      have := freeN_less (U' := keysM (dput s.U st.1 true)) h1 h2 fun m => mem_dput
      show 2 * freeN T (keysM s.U) + s.pile.length = 2 * freeN T (keysM (dput s.U st.1 true)) + (s.pile.length + 1) + 1
      omega
theorem hres_step {T : Tls} {s : HS} (h : SVal T s.S) (hp : s.pile ≠ []) : hres T s = hres T (hstep T s) := by
  unfold hres
  rw [hm_step h hp]
  rfl
theorem hres_nil {T : Tls} {s : HS} (hp : s.pile = []) : hres T s = s := hrun_nil hp
theorem hres_ind {T : Tls} (I : HS → Prop) (hI : ∀ s, I s → s.pile ≠ [] → I (hstep T s)) : ∀ (n : Nat) (s : HS), hm T s = n → SVal T s.S → I s → I (hres T s) ∧ (hres T s).pile = []
  | n, s, hn, hv, hi => by
    by_cases hp : s.pile = []
    · rw [hres_nil hp]
      exact ⟨hi, hp⟩
    · have e := hm_step hv hp
      rw [hres_step hv hp]
      cases n with
      | zero => omega
      | succ n => exact hres_ind I hI n _ (by omega) (hstep_val hv) (hI s hi hp)
/-! what a walk is -/
def WalkT (T : Tls) : Int → List Stp → Int → Prop
  | a, [], b => a = b
  | a, st :: r, b => (faceOf T st).1 = a ∧ WalkT T (faceOf T st).2 r b
def pnum (l : List (Int × Option Stp)) : List Int := l.filterMap fun e => e.2.map (·.1)
def nums (l : List Stp) : List Int := l.map (·.1)
def PileOk (T : Tls) (m0 : Int) : List (Int × Option Stp) → Prop
  | [] => True
  | (v, none) :: pl => v = m0 ∧ pl = []
  | (v, some st) :: pl => (faceOf T st).2 = v ∧ (∃ u c pl', pl = (u, c) :: pl' ∧ (faceOf T st).1 = u) ∧ PileOk T m0 pl
structure HCtx (T : Tls) (E : Stp → Prop) (U0 : List Int) (C : Int → Prop) (bal : List Int → Int → Int → Prop) : Prop where
  num : ∀ st, E st → isNum T st.1 = true
  clo : ∀ st, E st → st.1 ∉ U0 → C (faceOf T st).1 → C (faceOf T st).2
  stuck : ∀ U a f, bal U a f → (∀ st, E st → (faceOf T st).1 = a → st.1 ∈ U) → a = f
  push : ∀ U U' a f st, bal U a f → E st → st.1 ∉ U → (faceOf T st).1 = a → C (faceOf T st).2 → (∀ n, n ∈ U' ↔ n = st.1 ∨ n ∈ U) → bal U' (faceOf T st).2 f
  move : ∀ U a b, bal U a a → C b → bal U b b
def topBal (bal : List Int → Int → Int → Prop) (U : List Int) (m0 f : Int) : List (Int × Option Stp) → Prop
  | [] => f = m0
  | e :: _ => bal U e.1 f
structure HI (T : Tls) (E : Stp → Prop) (U0 : List Int) (C : Int → Prop) (bal : List Int → Int → Int → Prop) (m0 z : Int) (s : HS) : Prop where
  steps : ∀ v, ∀ st ∈ (dget s.S v).getD [], E st ∧ (faceOf T st).1 = v
  left : ∀ st, E st → st ∈ (dget s.S (faceOf T st).1).getD [] ∨ st.1 ∈ keysM s.U
  used : ∀ n, n ∈ keysM s.U ↔ n ∈ U0 ∨ n ∈ pnum s.pile ∨ n ∈ nums s.row
  nodup : (pnum s.pile ++ nums s.row).Nodup
  fresh : ∀ n ∈ pnum s.pile ++ nums s.row, n ∉ U0
  pok : PileOk T m0 s.pile
  est : ∀ e ∈ s.pile, ∀ st, e.2 = some st → E st ∧ (faceOf T st).1 ∈ s.vis ∧ (faceOf T st).2 ∈ s.vis
  rst : ∀ st ∈ s.row, E st ∧ (faceOf T st).1 ∈ s.vis ∧ (faceOf T st).2 ∈ s.vis
  walk : ∃ f, WalkT T f s.row z ∧ topBal bal (keysM s.U) m0 f s.pile
  seen : ∀ v ∈ s.vis, C v ∧ ((∀ st, E st → (faceOf T st).1 = v → st.1 ∈ keysM s.U) ∨ ∃ e ∈ s.pile, e.1 = v)
  pvis : ∀ e ∈ s.pile, e.1 ∈ s.vis
  m0v : m0 ∈ s.vis
  und : (keysM s.U).Nodup
section
variable {T : Tls} {E : Stp → Prop} {U0 : List Int} {C : Int → Prop} {bal : List Int → Int → Int → Prop} {m0 z : Int} {s : HS}
theorem HI.val (X : HCtx T E U0 C bal) (h : HI T E U0 C bal m0 z s) : SVal T s.S := fun v st hst => X.num st (h.steps v st hst).1
theorem HI.step (X : HCtx T E U0 C bal) (h : HI T E U0 C bal m0 z s) (hp : s.pile ≠ []) : HI T E U0 C bal m0 z (hstep T s) := by
  cases hp' : s.pile with
  | nil => exact absurd hp' hp
  | cons e pl =>
    have hhere : e.1 ∈ s.vis := h.pvis e (by rw [hp']; exact List.mem_cons_self)
    cases w : (takeS s e.1).1 with
    | none =>
      obtain ⟨w1, w2⟩ := takeR_none w
      have stk : ∀ st, E st → (faceOf T st).1 = e.1 → st.1 ∈ keysM s.U := fun st hE hl => by
        rcases h.left st hE with q | q
        · rw [hl] at q
          exact w2 st (List.mem_reverse.mpr q)
        · exact q
      obtain ⟨f, hw, hb⟩ := h.walk
      rw [hp'] at hb
      have ef : e.1 = f := X.stuck _ _ _ hb stk
      have hS : (takeS s e.1).2.reverse = [] := by
        unfold takeS
        rw [w1]
        rfl
      have gS : ∀ v, (dget (dset s.S e.1 (takeS s e.1).2.reverse) v).getD [] = if v = e.1 then [] else (dget s.S v).getD [] := fun v => by rw [dset_get takeS_none, hS]
      have hpok := h.pok
      rw [hp'] at hpok
      rw [hstep_pop hp' w]
      have seen' : ∀ v ∈ s.vis, C v ∧ ((∀ st, E st → (faceOf T st).1 = v → st.1 ∈ keysM s.U) ∨ ∃ e ∈ pl, e.1 = v) := fun v hv => by
        obtain ⟨a, b⟩ := h.seen v hv
        refine ⟨a, ?_⟩
        by_cases c : v = e.1
        · rw [c]
          exact .inl stk
        · rcases b with b | ⟨e', b1, b2⟩
          · exact .inl b
          · rw [hp'] at b1
            rcases List.mem_cons.mp b1 with b1 | b1
            · rw [b1] at b2
              exact absurd b2.symm c
            · exact .inr ⟨e', b1, b2⟩
      have steps' : ∀ v, ∀ st ∈ (dget (dset s.S e.1 (takeS s e.1).2.reverse) v).getD [], E st ∧ (faceOf T st).1 = v := fun v st hst => by
        rw [gS] at hst
        by_cases c : v = e.1
        · rw [if_pos c] at hst
          cases hst
        · rw [if_neg c] at hst
          exact h.steps v st hst
      have left' : ∀ st, E st → st ∈ (dget (dset s.S e.1 (takeS s e.1).2.reverse) (faceOf T st).1).getD [] ∨ st.1 ∈ keysM s.U := fun st hE => by
        by_cases c : (faceOf T st).1 = e.1
        · exact .inr (stk st hE c)
        · rw [gS, if_neg c]
          exact h.left st hE
      obtain ⟨here, came⟩ := e
      cases came with
      | none =>
        obtain ⟨p1, p2⟩ := hpok
        subst p2
        have e0 : pnum s.pile = [] := by rw [hp']; rfl
        have hu := h.used
        have hn := h.nodup
        have hf := h.fresh
        rw [e0] at hu hn hf
        exact ⟨steps', left', hu, hn, hf, trivial, (fun e he => by cases he), h.rst, ⟨f, hw, ef.symm.trans p1⟩, seen', (fun e he => by cases he), h.m0v, h.und⟩
      | some st =>
        obtain ⟨p1, ⟨u, c, pl', p2, p3⟩, p4⟩ := hpok
        obtain ⟨q1, q2, q3⟩ := h.est (here, some st) (by rw [hp']; exact List.mem_cons_self) st rfl
        have e0 : pnum s.pile = st.1 :: pnum pl := by rw [hp']; rfl
        have hu := h.used
        have hn := h.nodup
        have hf := h.fresh
        rw [e0] at hu hn hf
        have pm : (st.1 :: pnum pl ++ nums s.row).Perm (pnum pl ++ nums (st :: s.row)) := by
          show (st.1 :: (pnum pl ++ nums s.row)).Perm (pnum pl ++ st.1 :: nums s.row)
          exact List.perm_middle.symm
        refine ⟨steps', left', fun n => ?_, pm.nodup_iff.mp hn, fun n hm => hf n (pm.mem_iff.mpr hm), p4, fun e he => h.est e (by rw [hp']; exact List.mem_cons_of_mem _ he), fun x hx => ?_, ⟨u, ⟨p3, ?_⟩, ?_⟩, seen', fun e he => h.pvis e (by rw [hp']; exact List.mem_cons_of_mem _ he), h.m0v, h.und⟩
        · show n ∈ keysM s.U ↔ n ∈ U0 ∨ n ∈ pnum pl ∨ n ∈ st.1 :: nums s.row
          rw [hu, List.mem_cons, List.mem_cons]
          constructor
          · rintro (a | (a | a) | a)
            · exact .inl a
            · exact .inr (.inr (.inl a))
            · exact .inr (.inl a)
            · exact .inr (.inr (.inr a))
          · rintro (a | a | a | a)
            · exact .inl a
            · exact .inr (.inl (.inr a))
            · exact .inr (.inl (.inl a))
            · exact .inr (.inr a)
        · rcases List.mem_cons.mp hx with a | a
          · rw [a]
            exact ⟨q1, q2, q3⟩
          · exact h.rst x a
        · rw [p1]
          have ef' : here = f := ef
          rw [ef']
          exact hw
        · subst p2
          have hb' : bal (keysM s.U) here f := hb
          have ef' : here = f := ef
          rw [← ef'] at hb'
          rw [p3] at q2
          exact X.move _ _ _ hb' (h.seen u q2).1
    | some st =>
      have hv := h.val X
      obtain ⟨n1, n2, n3⟩ := takeS_num hv w
      obtain ⟨_, pre, g2, g3⟩ := takeR_some w
      obtain ⟨hE, hl⟩ := h.steps e.1 st n3
      have gS : ∀ v, (dget (dset s.S e.1 (takeS s e.1).2.reverse) v).getD [] = if v = e.1 then (takeS s e.1).2.reverse else (dget s.S v).getD [] := fun v => dset_get takeS_none
      have hU : ∀ n, n ∈ keysM (dput s.U st.1 true) ↔ n = st.1 ∨ n ∈ keysM s.U := fun n => mem_dput
      have e0 : pnum (((faceOf T st).2, some st) :: s.pile) = st.1 :: pnum s.pile := rfl
      have hnew : st.1 ∉ U0 := fun q => n2 ((h.used _).mpr (.inl q))
      have hC : C (faceOf T st).2 := X.clo st hE hnew (by rw [hl]; exact (h.seen _ hhere).1)
      obtain ⟨f, hw, hb⟩ := h.walk
      rw [hp'] at hb
      rw [hstep_push hp' w]
      refine ⟨fun v x hx => ?_, fun x hx => ?_, fun n => ?_, ?_, fun n hn => ?_, ⟨rfl, ⟨e.1, e.2, pl, hp', hl⟩, h.pok⟩, fun e' he' x hx => ?_, fun x hx => ?_, ⟨f, hw, X.push _ _ e.1 f st hb hE n2 hl hC hU⟩, fun v hv => ?_, fun e' he' => ?_, List.mem_cons_of_mem _ h.m0v, nodup_dput h.und⟩
      · rw [gS] at hx
        by_cases c : v = e.1
        · rw [if_pos c] at hx
          rw [c]
          exact h.steps e.1 x (List.mem_reverse.mp (takeR_sub (List.mem_reverse.mp hx)))
        · rw [if_neg c] at hx
          exact h.steps v x hx
      · show x ∈ (dget (dset s.S e.1 (takeS s e.1).2.reverse) (faceOf T x).1).getD [] ∨ x.1 ∈ keysM (dput s.U st.1 true)
        rw [gS, hU]
        rcases h.left x hx with q | q
        · by_cases c : (faceOf T x).1 = e.1
          · rw [if_pos c]
            rw [c] at q
            have q' := List.mem_reverse.mpr q
            rw [g2] at q'
            rcases List.mem_append.mp q' with a | a
            · exact .inr (.inr (g3 x a))
            · rcases List.mem_cons.mp a with a | a
              · exact .inr (.inl (by rw [a]))
              · exact .inl (List.mem_reverse.mpr a)
          · rw [if_neg c]
            exact .inl q
        · exact .inr (.inr q)
      · rw [hU, h.used, e0, List.mem_cons]
        constructor
        · rintro (a | a | a | a)
          · exact .inr (.inl (.inl a))
          · exact .inl a
          · exact .inr (.inl (.inr a))
          · exact .inr (.inr a)
        · rintro (a | (a | a) | a)
          · exact .inr (.inl a)
          · exact .inl a
          · exact .inr (.inr (.inl a))
          · exact .inr (.inr (.inr a))
      · rw [e0]
        refine List.nodup_cons.mpr ⟨fun q => n2 ((h.used _).mpr (.inr ?_)), h.nodup⟩
        exact List.mem_append.mp q
      · rw [e0] at hn
        rcases List.mem_cons.mp hn with a | a
        · rw [a]
          exact hnew
        · exact h.fresh n a
      · rcases List.mem_cons.mp he' with a | a
        · rw [a] at hx
          cases hx
          exact ⟨hE, List.mem_cons_of_mem _ (by rw [hl]; exact hhere), List.mem_cons_self⟩
        · obtain ⟨b1, b2, b3⟩ := h.est e' a x hx
          exact ⟨b1, List.mem_cons_of_mem _ b2, List.mem_cons_of_mem _ b3⟩
      · obtain ⟨b1, b2, b3⟩ := h.rst x hx
        exact ⟨b1, List.mem_cons_of_mem _ b2, List.mem_cons_of_mem _ b3⟩
      · rcases List.mem_cons.mp hv with a | a
        · rw [a]
          exact ⟨hC, .inr ⟨_, List.mem_cons_self, rfl⟩⟩
        · obtain ⟨b1, b2⟩ := h.seen v a
          refine ⟨b1, ?_⟩
          rcases b2 with b2 | ⟨e', c1, c2⟩
          · exact .inl fun x h1 h2 => (hU _).mpr (.inr (b2 x h1 h2))
          · exact .inr ⟨e', List.mem_cons_of_mem _ c1, c2⟩
      · rcases List.mem_cons.mp he' with a | a
        · rw [a]
          exact List.mem_cons_self
        · exact List.mem_cons_of_mem _ (h.pvis e' a)
theorem HI.end (X : HCtx T E U0 C bal) (h : HI T E U0 C bal m0 z s) : HI T E U0 C bal m0 z (hres T s) ∧ (hres T s).pile = [] :=
  hres_ind (HI T E U0 C bal m0 z) (fun s h hp => h.step X hp) _ s rfl (h.val X) h
end
end TC
/-! tiles that may be laid either way -/
namespace TC
def wt (t : Int × Int) (x : Int) : Int := b2i (decide (t.1 = x)) + b2i (decide (t.2 = x))
def sumU (L : List (Int × (Int × Int))) (U : List Int) (x : Int) : Int := (L.map fun p => if p.1 ∈ U then 0 else wt p.2 x).sum
def degU (T : Tls) (U : List Int) (x : Int) : Int := sumU (enumA T) U x
theorem b2i_01 (b : Bool) : b2i b = 0 ∨ b2i b = 1 := by cases b; exact .inl rfl; exact .inr rfl
theorem enumA_keys {α : Type} (l : List α) : (enumA l).map (·.1) = (List.range l.length).map fun i => ((i : Nat) : Int) := by
  refine List.ext_getElem? fun i => ?_
  rw [List.getElem?_map, enumA_ix, List.getElem?_map]
  cases h : l[i]? with
  | none => rw [List.getElem?_eq_none (by rw [List.length_range]; exact List.getElem?_eq_none_iff.mp h)]; rfl
  | some a => rw [List.getElem?_range (List.getElem?_eq_some_iff.mp h).1]; rfl
theorem int_range_nodup (n : Nat) : ((List.range n).map fun i => ((i : Nat) : Int)).Nodup := List.Pairwise.map _ (fun a b (h : a ≠ b) (e : (a : Int) = (b : Int)) => h (by omega)) List.nodup_range
theorem enumA_nodup {α : Type} (l : List α) : ((enumA l).map (·.1)).Nodup := by rw [enumA_keys]; exact int_range_nodup _
theorem tile_mem {T : Tls} {n : Int} (h : isNum T n = true) : (n, tileAt T n) ∈ enumA T := by
  obtain ⟨h1, h2⟩ := isNum_iff.mp h
  obtain ⟨k, rfl⟩ := Int.eq_ofNat_of_zero_le h1
  have hk : k < T.length := by omega
  refine List.mem_of_getElem? (i := k) ?_
  rw [enumA_ix, List.getElem?_eq_getElem hk]
  unfold tileAt
  rw [Int.toNat_natCast, List.getD_eq_getElem?_getD, List.getElem?_eq_getElem hk]
  rfl
theorem enumA_tile {T : Tls} {p : Int × (Int × Int)} (h : p ∈ enumA T) : isNum T p.1 = true ∧ tileAt T p.1 = p.2 := by
  obtain ⟨i, h1, h2⟩ := enumA_mem h
  have h3 := (List.getElem?_eq_some_iff.mp h2).1
  refine ⟨isNum_iff.mpr (by rw [h1]; omega), ?_⟩
  unfold tileAt
  rw [h1, Int.toNat_natCast, List.getD_eq_getElem?_getD, h2]
  rfl
theorem tile_in {T : Tls} {n : Int} (h : isNum T n = true) : tileAt T n ∈ T := by
  obtain ⟨i, _, h2⟩ := enumA_mem (tile_mem h)
  exact List.mem_of_getElem? h2
theorem in_tile {T : Tls} {t : Int × Int} (h : t ∈ T) : ∃ n, isNum T n = true ∧ tileAt T n = t := by
  obtain ⟨i, hi⟩ := List.mem_iff_getElem?.mp h
  have h3 := (List.getElem?_eq_some_iff.mp hi).1
  refine ⟨(i : Int), isNum_iff.mpr (by omega), ?_⟩
  unfold tileAt
  rw [Int.toNat_natCast, List.getD_eq_getElem?_getD, hi]
  rfl
theorem sumU_less {U U' : List Int} {n : Int} {t : Int × Int} (x : Int) : ∀ {L : List (Int × (Int × Int))}, (L.map (·.1)).Nodup → (n, t) ∈ L → n ∉ U → (∀ m, m ∈ U' ↔ m = n ∨ m ∈ U) → sumU L U x = sumU L U' x + wt t x
  | [], _, h, _, _ => by cases h
  | q :: L, hn, hm, h1, hU => by
    have hn' : (q.1 :: L.map (·.1)).Nodup := hn
    obtain ⟨n1, n2⟩ := List.nodup_cons.mp hn'
    unfold sumU at *
    rw [List.map_cons, List.map_cons, List.sum_cons, List.sum_cons]
    by_cases c : q.1 = n
    · have hq : q = (n, t) := by
        rcases List.mem_cons.mp hm with e | e
        · exact e.symm
        · exact absurd (List.mem_map.mpr ⟨_, e, rfl⟩) (by rw [c] at n1; exact n1)
      have rest : (L.map fun p => if p.1 ∈ U then (0 : Int) else wt p.2 x) = L.map fun p => if p.1 ∈ U' then 0 else wt p.2 x := by
        refine List.map_congr_left fun p hp => ?_
        have hne : p.1 ≠ n := fun e => n1 (by rw [c, ← e]; exact List.mem_map.mpr ⟨p, hp, rfl⟩)
        by_cases d : p.1 ∈ U
        · rw [if_pos d, if_pos ((hU _).mpr (.inr d))]
        · rw [if_neg d, if_neg (fun z => ((hU _).mp z).elim hne d)]
      rw [rest, hq, if_neg h1, if_pos ((hU _).mpr (.inl rfl))]
      show wt t x + _ = 0 + _ + wt t x
      omega
    · have ih := sumU_less x n2 ((List.mem_cons.mp hm).elim (fun e => absurd (by rw [← e]) c) id) h1 hU
      unfold sumU at ih
      rw [ih]
      have e : (if q.1 ∈ U then (0 : Int) else wt q.2 x) = if q.1 ∈ U' then 0 else wt q.2 x := by
        by_cases d : q.1 ∈ U
        · rw [if_pos d, if_pos ((hU _).mpr (.inr d))]
        · rw [if_neg d, if_neg (fun z => ((hU _).mp z).elim c d)]
      rw [e]
      omega
theorem sum_zero {α : Type} {f : α → Int} : ∀ {l : List α}, (∀ y ∈ l, f y = 0) → (l.map f).sum = 0
  | [], _ => rfl
  | y :: l, h => by
    rw [List.map_cons, List.sum_cons, h y List.mem_cons_self, sum_zero fun z hz => h z (List.mem_cons_of_mem _ hz)]
    rfl
theorem wt_face (T : Tls) (st : Stp) (x : Int) : wt (tileAt T st.1) x = b2i (decide ((faceOf T st).1 = x)) + b2i (decide ((faceOf T st).2 = x)) := by
  unfold wt faceOf
  cases st.2
  · rfl
  · show _ = b2i (decide ((tileAt T st.1).2 = x)) + b2i (decide ((tileAt T st.1).1 = x))
    omega
theorem degU_stuck {T : Tls} {U : List Int} {a : Int} (h : ∀ st : Stp, isNum T st.1 = true → (faceOf T st).1 = a → st.1 ∈ U) : degU T U a = 0 := by
  unfold degU sumU
  refine sum_zero fun p hp => ?_
  by_cases c : p.1 ∈ U
  · exact if_pos c
  · rw [if_neg c]
    obtain ⟨h1, h2⟩ := enumA_tile hp
    have a1 : p.2.1 ≠ a := fun z => c (h (p.1, false) h1 (by rw [← h2] at z; exact z))
    have a2 : p.2.2 ≠ a := fun z => c (h (p.1, true) h1 (by rw [← h2] at z; exact z))
    unfold wt
    rw [decide_eq_false a1, decide_eq_false a2]
    rfl
theorem degU_deg {T : Tls} {U : List Int} {x : Int} (h : ∀ n ∈ U, isNum T n = true → (tileAt T n).1 ≠ x ∧ (tileAt T n).2 ≠ x) : degU T U x = deg T x := by
  unfold degU sumU deg
  have e : (enumA T).map (fun p => if p.1 ∈ U then (0 : Int) else wt p.2 x) = (enumA T).map (fun p => wt p.2 x) := by
    refine List.map_congr_left fun p hp => ?_
    by_cases c : p.1 ∈ U
    · obtain ⟨h1, h2⟩ := enumA_tile hp
      obtain ⟨a1, a2⟩ := h p.1 c h1
      rw [h2] at a1 a2
      rw [if_pos c]
      unfold wt
      rw [decide_eq_false a1, decide_eq_false a2]
      rfl
    · exact if_neg c
  rw [e]
  have e2 : (enumA T).map (fun p => wt p.2 x) = T.map fun t => wt t x := by
    unfold enumA
    rw [List.map_map]
    have e3 : ((fun p : Int × (Int × Int) => wt p.2 x) ∘ fun p : (Int × Int) × Nat => (((p.2 : Nat) : Int), p.1)) = (fun t => wt t x) ∘ Prod.fst := rfl
    rw [e3, ← List.map_map, List.zipIdx_map_fst]
  rw [e2]
  rfl
def balU (T : Tls) (C : Int → Prop) (U : List Int) (a f : Int) : Prop := C a ∧ C f ∧ ∀ x, C x → degU T U x % 2 = (b2i (decide (x = a)) + b2i (decide (x = f))) % 2
theorem dec_symm {x y : Int} : decide (x = y) = decide (y = x) := decide_eq_decide.mpr eq_comm
theorem ctxU {T : Tls} {U0 : List Int} {C : Int → Prop} (hC : ∀ n, isNum T n = true → n ∉ U0 → (C (tileAt T n).1 ↔ C (tileAt T n).2)) : HCtx T (fun st => isNum T st.1 = true) U0 C (balU T C) where
  num := fun st h => h
  clo := fun st h1 h2 h3 => by
    have := hC st.1 h1 h2
    unfold faceOf at h3 ⊢
    cases hb : st.2
    · rw [hb] at h3
      exact this.mp h3
    · rw [hb] at h3
      exact this.mpr h3
  stuck := fun U a f ⟨h1, h2, h3⟩ hs => by
    have := h3 a h1
    rw [degU_stuck hs, decide_eq_true rfl] at this
    refine Classical.byContradiction fun z => ?_
    rw [decide_eq_false z] at this
    exact absurd this (by decide)
  push := fun U U' a f st ⟨h1, h2, h3⟩ hE hn hl hCr hU => by
    refine ⟨hCr, h2, fun x hx => ?_⟩
    have e := sumU_less x (enumA_nodup T) (tile_mem hE) hn hU
    rw [wt_face, hl] at e
    have e3 := h3 x hx
    unfold degU at e3 ⊢
    rw [dec_symm (x := a)] at e
    rw [dec_symm (x := (faceOf T st).2)] at e
    have b1 := b2i_01 (decide (x = a))
    have b2 := b2i_01 (decide (x = f))
    have b3 := b2i_01 (decide (x = (faceOf T st).2))
    omega
  move := fun U a b ⟨h1, h2, h3⟩ hb => ⟨hb, hb, fun x hx => by
    have e3 := h3 x hx
    have b1 := b2i_01 (decide (x = a))
    have b2 := b2i_01 (decide (x = b))
    omega⟩
theorem tile_adj {T : Tls} {n : Int} (h : isNum T n = true) : Adj T (tileAt T n).1 (tileAt T n).2 := .inl (tile_in h)
/-- steps at hand, complete but for the tiles used -/
structure Ready (T : Tls) (S : List (Int × List Stp)) (U : List (Int × Bool)) : Prop where
  steps : ∀ v, ∀ st ∈ (dget S v).getD [], isNum T st.1 = true ∧ (faceOf T st).1 = v
  left : ∀ st : Stp, isNum T st.1 = true → st ∈ (dget S (faceOf T st).1).getD [] ∨ st.1 ∈ keysM U
  und : (keysM U).Nodup
def hstart (S : List (Int × List Stp)) (U : List (Int × Bool)) (m0 : Int) : HS := ⟨S, U, [(m0, none)], [], [m0]⟩
structure Walked (T : Tls) (U : List (Int × Bool)) (m0 z : Int) (r : HS) : Prop where
  walk : WalkT T m0 r.row z
  nodup : (nums r.row).Nodup
  val : ∀ st ∈ r.row, isNum T st.1 = true
  all : ∀ n, n ∈ nums r.row ↔ isNum T n = true ∧ Reach T m0 (tileAt T n).1
  used : ∀ n, n ∈ keysM r.U ↔ n ∈ keysM U ∨ n ∈ nums r.row
  ready : Ready T r.S r.U
/-- all tiles that hang together with a mark are walked, where only the ends are odd -/
theorem euler {T : Tls} {S : List (Int × List Stp)} {U : List (Int × Bool)} {m0 z : Int} (hR : Ready T S U) (hoff : ∀ n ∈ keysM U, isNum T n = true → ¬ Reach T m0 (tileAt T n).1) (hz : Reach T m0 z)
    (hpar : ∀ x, Reach T m0 x → deg T x % 2 = (b2i (decide (x = m0)) + b2i (decide (x = z))) % 2) : Walked T U m0 z (hres T (hstart S U m0)) := by
  have X : HCtx T (fun st => isNum T st.1 = true) (keysM U) (Reach T m0) (balU T (Reach T m0)) := ctxU fun n hn _ => ⟨fun h => h.step (tile_adj hn), fun h => h.step (tile_adj hn).symm⟩
  have h0 : HI T (fun st => isNum T st.1 = true) (keysM U) (Reach T m0) (balU T (Reach T m0)) m0 z (hstart S U m0) := by
    refine ⟨hR.steps, hR.left, fun n => ?_, List.nodup_nil, (fun n hn => by cases hn), ⟨rfl, rfl⟩, fun e he st h => ?_, (fun st hst => by cases hst), ⟨z, rfl, .refl, hz, fun x hx => ?_⟩, fun v hv => ?_, fun e he => ?_, List.mem_cons_self, hR.und⟩
    · exact ⟨Or.inl, fun h => h.elim id fun h => h.elim (fun z => by cases z) fun z => by cases z⟩
    · rw [List.mem_singleton.mp he] at h
      cases h
    · rw [degU_deg fun n hn hv => ?_]
      · exact hpar x hx
      · have := hoff n hn hv
        refine ⟨fun e => this (by rw [e]; exact hx), fun e => this ?_⟩
        rw [← e] at hx
        exact hx.step (tile_adj hv).symm
    · rw [List.mem_singleton.mp hv]
      exact ⟨.refl, .inr ⟨_, List.mem_cons_self, rfl⟩⟩
    · rw [List.mem_singleton.mp he]
      exact List.mem_cons_self
  obtain ⟨hE, hnil⟩ := h0.end X
  generalize hres T (hstart S U m0) = r at *
  obtain ⟨f, hw, hf⟩ := hE.walk
  rw [hnil] at hf
  have hf' : f = m0 := hf
  subst hf'
  have hp0 : pnum r.pile = [] := by rw [hnil]; rfl
  have hused := hE.used
  have hnd := hE.nodup
  have hfresh := hE.fresh
  rw [hp0] at hused hnd hfresh
  have hused' : ∀ n, n ∈ keysM r.U ↔ n ∈ keysM U ∨ n ∈ nums r.row := fun n => by
    rw [hused]
    exact ⟨fun h => h.elim Or.inl fun h => h.elim (fun z => by cases z) Or.inr, fun h => h.elim Or.inl fun h => .inr (.inr h)⟩
  have stk : ∀ v ∈ r.vis, ∀ st : Stp, isNum T st.1 = true → (faceOf T st).1 = v → st.1 ∈ keysM r.U := fun v hv => by
    rcases (hE.seen v hv).2 with h | ⟨e, he, _⟩
    · exact h
    · rw [hnil] at he
      cases he
  have tovis : ∀ n, n ∈ nums r.row → isNum T n = true ∧ (tileAt T n).1 ∈ r.vis ∧ (tileAt T n).2 ∈ r.vis := fun n hn => by
    obtain ⟨st, hst, e⟩ := List.mem_map.mp hn
    obtain ⟨q1, q2, q3⟩ := hE.rst st hst
    rw [← e]
    refine ⟨q1, ?_⟩
    unfold faceOf at q2 q3
    cases hb : st.2
    · rw [hb] at q2 q3
      exact ⟨q2, q3⟩
    · rw [hb] at q2 q3
      exact ⟨q3, q2⟩
  have inrow : ∀ n, isNum T n = true → Reach T f (tileAt T n).1 → ((tileAt T n).1 ∈ r.vis ∨ (tileAt T n).2 ∈ r.vis) → n ∈ nums r.row := fun n hn hr hv => by
    have : n ∈ keysM r.U := by
      rcases hv with hv | hv
      · exact stk _ hv (n, false) hn rfl
      · exact stk _ hv (n, true) hn rfl
    rcases (hused' n).mp this with h | h
    · exact absurd hr (hoff n h hn)
    · exact h
  have allvis : ∀ x, Reach T f x → x ∈ r.vis := fun x hx => by
    induction hx with
    | refl => exact hE.m0v
    | step hab e ih =>
      rename_i b c
      rcases e with e | e
      · obtain ⟨n, n1, n2⟩ := in_tile e
        have h1 : Reach T f (tileAt T n).1 := by rw [n2]; exact hab
        have := tovis n (inrow n n1 h1 (.inl (by rw [n2]; exact ih)))
        rw [n2] at this
        exact this.2.2
      · obtain ⟨n, n1, n2⟩ := in_tile e
        have h1 : Reach T f (tileAt T n).1 := by rw [n2]; exact hab.step (.inr e)
        have := tovis n (inrow n n1 h1 (.inr (by rw [n2]; exact ih)))
        rw [n2] at this
        exact this.2.1
  refine ⟨hw, hnd, fun st hst => (hE.rst st hst).1, fun n => ⟨fun hn => ?_, fun ⟨h1, h2⟩ => inrow n h1 h2 (.inl (allvis _ h2))⟩, hused', ⟨hE.steps, hE.left, hE.und⟩⟩
  obtain ⟨q1, q2, q3⟩ := tovis n hn
  exact ⟨q1, (hE.seen _ q2).1⟩
end TC
namespace TC
open PySem PySem.Spec L2
open Evl (Ex)
/-! a walk cut at its bridges -/
def lsplit1 (many : Int) (acc : List (List Stp)) (st : Stp) : List (List Stp) := if st.1 < many then acc.dropLast ++ [acc.getLastD [] ++ [st]] else acc ++ [[]]
def lsplit (many : Int) (walk : List Stp) : List (List Stp) := walk.foldl (lsplit1 many) [[]]
theorem lsplit_snoc (many : Int) (pre : List Stp) (y : Stp) : lsplit many (pre ++ [y]) = if y.1 < many then (lsplit many pre).dropLast ++ [(lsplit many pre).getLastD [] ++ [y]] else lsplit many pre ++ [[]] := by
  unfold lsplit
  rw [List.foldl_append]
  rfl
theorem snoc_ind {α : Type} {p : List α → Prop} (h0 : p []) (h1 : ∀ l x, p l → p (l ++ [x])) (l : List α) : p l := by
  have : ∀ m : List α, p m.reverse := by
    intro m
    induction m with
    | nil => exact h0
    | cons x m ih => rw [List.reverse_cons]; exact h1 _ _ ih
  have h := this l.reverse
  rw [List.reverse_reverse] at h
  exact h
theorem lsplit_last (many : Int) (pre : List Stp) : ∃ ls l, lsplit many pre = ls ++ [l] := by
  refine snoc_ind (p := fun pre => ∃ ls l, lsplit many pre = ls ++ [l]) ⟨[], [], rfl⟩ (fun l x ⟨ls, m, e⟩ => ?_) pre
  rw [lsplit_snoc]
  split
  · exact ⟨_, _, rfl⟩
  · exact ⟨_, _, rfl⟩
theorem lsplit_size (many : Int) (pre : List Stp) : (lsplit many pre).length ≤ pre.length + 1 ∧ ∀ l ∈ lsplit many pre, l.length ≤ pre.length := by
  refine snoc_ind (p := fun pre => (lsplit many pre).length ≤ pre.length + 1 ∧ ∀ l ∈ lsplit many pre, l.length ≤ pre.length) ⟨Nat.le_refl _, fun l hl => by rw [List.mem_singleton.mp hl]; exact Nat.le_refl _⟩ (fun l x ⟨h1, h2⟩ => ?_) pre
  obtain ⟨ls, m, e⟩ := lsplit_last many l
  rw [lsplit_snoc]
  rw [e] at h1 h2 ⊢
  rw [List.dropLast_concat, List.getLastD_concat]
  rw [List.length_append, List.length_singleton] at h1 ⊢
  split
  · refine ⟨by rw [List.length_append, List.length_singleton]; omega, fun y hy => ?_⟩
    rcases List.mem_append.mp hy with a | a
    · have := h2 y (List.mem_append_left _ a)
      omega
    · rw [List.mem_singleton.mp a, List.length_append, List.length_singleton]
      have := h2 m (by simp)
      omega
  · refine ⟨by rw [List.length_append, List.length_append, List.length_singleton, List.length_singleton]; omega, fun y hy => ?_⟩
    rcases List.mem_append.mp hy with a | a
    · have := h2 y a
      omega
    · rw [List.mem_singleton.mp a]
      exact Nat.zero_le _
/-! bridges -/
def lpair (e : List Int) (k : Int) : Int × Int := (e.getD k.toNat 0, e.getD (k + 1).toNat 0)
def lpairs (e : List Int) : List (Int × Int) := (rng2A 1 ((e.length : Int) - 2)).map (lpair e)
theorem rng2A_mem {j k : Int} (h : k ∈ rng2A 1 j) : 1 ≤ k ∧ k < j := by
  unfold rng2A at h
  obtain ⟨i, h1, h2⟩ := List.mem_map.mp h
  have := List.mem_range.mp h1
  split at this <;> omega
theorem lpairs_len (e : List Int) : (lpairs e).length ≤ e.length := by
  unfold lpairs
  rw [List.length_map, rng2A_len]
  split <;> omega
def lodd (odds g : List Int) : List Int := g.filter fun m => decide (m ∈ odds)
def lbr (tiles : List (Int × Int)) (groups : List (List Int)) (odds : List Int) : List (Int × Int) := tiles ++ groups.flatMap fun g => lpairs (lodd odds g)
theorem lbrs_len (odds : List Int) : ∀ {groups : List (List Int)}, (∀ g ∈ groups, g.length ≤ 64) → (groups.flatMap fun g => lpairs (lodd odds g)).length ≤ 64 * groups.length
  | [], _ => Nat.le_refl _
  | g :: gs, h => by
    have h1 := lbrs_len odds (groups := gs) fun x hx => h x (List.mem_cons_of_mem _ hx)
    have h2 := h g List.mem_cons_self
    have h3 := lpairs_len (lodd odds g)
    have h4 : (lodd odds g).length ≤ g.length := List.length_filter_le _ _
    rw [List.flatMap_cons, List.length_append, List.length_cons]
    omega
/-! what the rows' defs tell -/
inductive Told
  | parted (g : List (List Int))
  | odd (o : List Int)
  | row (r : List Stp)
  | ring (r : List Stp)
def Told.word : Told → Str
  | .parted _ => "parted"
  | .odd _ => "odd"
  | .row _ => "row"
  | .ring _ => "ring"
def Told.pay (H : Hp) (v : V) : Told → Prop
  | .parted g => rep H v g
  | .odd o => rep H v o
  | .row r => rep H v r
  | .ring r => rep H v r
theorem Told.pay_mono {H H' : Hp} {v : V} {t : Told} (e : Evl.Ex H H') (h : t.pay H v) : t.pay H' v := by
  cases t <;> exact Rep.mono e h
instance rpTold : Rep Told := ⟨fun H v t => ∃ p y, v = .ref p ∧ H p = some (.tup [.str t.word, y]) ∧ t.pay H y, fun {_ _ _ t} e ⟨p, y, h1, h2, h3⟩ => ⟨p, y, h1, e _ _ h2, Told.pay_mono (t := t) e h3⟩⟩
instance : TyR Told := ⟨"tuple", fun ⟨p, y, h1, h2, _⟩ => by rw [h1]; exact .base (.tup h2)⟩
section
variable {K : PySem.W.Frag} {ta tb tc te tl tk t3 : TE} {d : DE} {P : Post}
theorem ed_told {x : Str} (t : Told) (hb : ∀ B Hf O σ H, Env B Hf O d σ H → ∀ Q : VK, (∀ v Hf' H', Env B Hf' O d σ H' → Evl.Ex Hf Hf' → t.pay Hf' v → Q v H') → tb σ H Q) (hx : x = t.word := by rfl) : ED (tTup (tCons (tC (.str x)) (tCons tb tNil))) d t := fun B Hf O σ H E Q q =>
  hb B Hf O σ H E _ fun y Hf1 H1 E1 e1 r1 => ⟨small 2 (by decide), fun p hp => q _ _ _ (E1.alloc hp) (e1.trans (ex_upd (E1.fz hp))) ⟨p, y, rfl, by rw [hx]; exact upd_same, Told.pay_mono (t := t) (ex_upd (E1.fz hp)) r1⟩⟩
theorem ed_told0 {t : Told} (h : ED ta d t) : ED (tOp (rIxT K) ta (tC (.int 0))) d t.word :=
  ed_op h ed_int fun H Hf x y Q e ⟨p, z, h1, h2, h3⟩ r2 q => ⟨p, [.str t.word, z], 0, .str t.word, h1, r2, .inl (.inl (e _ _ h2)), rfl, q _ rfl⟩
theorem ed_toldP {g : List (List Int)} (h : ED ta d (Told.parted g)) : ED (tOp (rIxT K) ta (tC (.int 1))) d g :=
  ed_op h ed_int fun H Hf x y Q e ⟨p, z, h1, h2, h3⟩ r2 q => ⟨p, [.str "parted", z], 1, z, h1, r2, .inl (.inl (e _ _ h2)), rfl, q _ h3⟩
theorem ed_toldO {g : List Int} (h : ED ta d (Told.odd g)) : ED (tOp (rIxT K) ta (tC (.int 1))) d g :=
  ed_op h ed_int fun H Hf x y Q e ⟨p, z, h1, h2, h3⟩ r2 q => ⟨p, [.str "odd", z], 1, z, h1, r2, .inl (.inl (e _ _ h2)), rfl, q _ h3⟩
theorem ed_toldR {g : List Stp} (h : ED ta d (Told.row g)) : ED (tOp (rIxT K) ta (tC (.int 1))) d g :=
  ed_op h ed_int fun H Hf x y Q e ⟨p, z, h1, h2, h3⟩ r2 q => ⟨p, [.str "row", z], 1, z, h1, r2, .inl (.inl (e _ _ h2)), rfl, q _ h3⟩
theorem ed_toldG {g : List Stp} (h : ED ta d (Told.ring g)) : ED (tOp (rIxT K) ta (tC (.int 1))) d g :=
  ed_op h ed_int fun H Hf x y Q e ⟨p, z, h1, h2, h3⟩ r2 q => ⟨p, [.str "ring", z], 1, z, h1, r2, .inl (.inl (e _ _ h2)), rfl, q _ h3⟩
theorem ed_lenTold {t : Told} (ha : ED ta d t) : ED (tCB (fun xs H Q => ∃ p ys, xs = [.ref p] ∧ (SqL K H p ys ∨ SqT K H p ys) ∧ Q (.int ys.length) H) (tCons ta tNil)) d (2 : Int) := fun B Hf O σ H E Q q =>
  ha B Hf O σ H E _ fun v Hf1 H1 E1 e1 ⟨p, y, h1, h2, h3⟩ => ⟨p, [.str t.word, y], by rw [h1], .inr (.inl (.inl (E1.hf _ _ h2))), q _ Hf1 H1 E1 e1 rfl⟩
/-- list(range(n)) -/
theorem ed_listRg {n : Int} (ha : ED ta d n) (h1 : 0 ≤ n) (h2 : n ≤ 1000000) : ED (tLstRg (tRg1 ta)) d ((List.range n.toNat).map fun i => ((i : Nat) : Int)) := fun B Hf O σ H E Q q =>
  ha B Hf O σ H E _ fun v Hf1 H1 E1 e1 r => ⟨n, r, RgOk.of_le (Int.le_refl _) (by omega) (by decide) h1, fun p hp => q _ _ _ (E1.alloc hp) (e1.trans (ex_upd (E1.fz hp))) ⟨p, _, rfl, upd_same, by
    unfold rgV
    rw [Int.sub_zero]
    have e : ((List.range n.toNat).map fun i => V.int (0 + ((i : Nat) : Int))) = ((List.range n.toNat).map fun i => ((i : Nat) : Int)).map V.int := by
      rw [List.map_map]
      refine List.map_congr_left fun i _ => ?_
      show V.int (0 + (i : Int)) = V.int (i : Int)
      rw [Int.zero_add]
    rw [e]
    exact vals_paired _ _⟩⟩
theorem tiles_nil {x y : Bool} (h : x = y) : Slot.sh x = Slot.sh y := shc h
end
/-! the rows -/
structure FS where
  S : List (Int × List Stp)
  U : List (Int × Bool)
  rows : List (List Stp)
def lstart (odds g : List Int) : Int := (lodd odds g ++ g).headD 0
def lfew1 (L : Tls) (many : Int) (odds : List Int) (a : FS) (g : List Int) : FS :=
  ⟨(hres L (hstart a.S a.U (lstart odds g))).S, (hres L (hstart a.S a.U (lstart odds g))).U, a.rows ++ lsplit many (hres L (hstart a.S a.U (lstart odds g))).row⟩
theorem hres_val {T : Tls} {s : HS} (h : SVal T s.S) : SVal T (hres T s).S := (hres_ind (fun s => SVal T s.S) (fun s h _ => hstep_val h) _ s rfl h h).1
theorem hstep_row {T : Tls} {s : HS} (hv : SVal T s.S) (hp : s.pile ≠ []) : (hstep T s).row.length + hm T (hstep T s) ≤ s.row.length + hm T s ∧ (hstep T s).U.length + hm T (hstep T s) ≤ s.U.length + hm T s := by
  have e := hm_step hv hp
  cases hp' : s.pile with
  | nil => exact absurd hp' hp
  | cons en pl =>
    cases w : (takeS s en.1).1 with
    | none =>
      rw [hstep_pop hp' w] at e ⊢
      have : (withCame s.row en.2).length ≤ s.row.length + 1 := by
        cases en.2 with
        | none => exact Nat.le_succ _
        | some st => exact Nat.le_refl _
      dsimp only at *
      omega
    | some st =>
      rw [hstep_push hp' w] at e ⊢
      have : (dput s.U st.1 true).length ≤ s.U.length + 1 := dput_len
      dsimp only at *
      omega
theorem hres_len {T : Tls} {s : HS} (h : SVal T s.S) : (hres T s).row.length ≤ s.row.length + hm T s ∧ (hres T s).U.length ≤ s.U.length + hm T s := by
  have := (hres_ind (fun x => SVal T x.S ∧ x.row.length + hm T x ≤ s.row.length + hm T s ∧ x.U.length + hm T x ≤ s.U.length + hm T s) (fun x ⟨a, b, c⟩ hp => by
    obtain ⟨p, q⟩ := hstep_row a hp
    exact ⟨hstep_val a, by omega, by omega⟩) _ s rfl h ⟨h, Nat.le_refl _, Nat.le_refl _⟩).1
  omega
end TC
/-! counting ends -/
namespace TC
theorem sum_b2i {x : Int} : ∀ {C : List Int}, C.Nodup → (C.map fun y => b2i (decide (x = y))).sum = b2i (decide (x ∈ C))
  | [], _ => rfl
  | y :: C, h => by
    obtain ⟨n1, n2⟩ := List.nodup_cons.mp h
    rw [List.map_cons, List.sum_cons, sum_b2i n2]
    by_cases c : x = y
    · subst c
      rw [decide_eq_true rfl, decide_eq_false n1, decide_eq_true List.mem_cons_self]
      rfl
    · rw [decide_eq_false c]
      have : decide (x ∈ y :: C) = decide (x ∈ C) := by
        rw [decide_eq_decide, List.mem_cons]
        exact ⟨fun h => h.elim (fun z => absurd z c) id, Or.inr⟩
      rw [this]
      exact Int.zero_add _
theorem sum_add {α : Type} {f g : α → Int} : ∀ {l : List α}, (l.map fun y => f y + g y).sum = (l.map f).sum + (l.map g).sum
  | [] => rfl
  | y :: l => by
    rw [List.map_cons, List.map_cons, List.map_cons, List.sum_cons, List.sum_cons, List.sum_cons, sum_add]
    omega
theorem sum_deg {C : List Int} (hC : C.Nodup) : ∀ {T : Tls}, (C.map (deg T)).sum = (T.map fun t => b2i (decide (t.1 ∈ C)) + b2i (decide (t.2 ∈ C))).sum
  | [] => by
    have : (C.map (deg [])).sum = 0 := sum_zero fun y _ => rfl
    rw [this]
    rfl
  | t :: T => by
    have e : C.map (deg (t :: T)) = C.map fun y => (b2i (decide (t.1 = y)) + b2i (decide (t.2 = y))) + deg T y := List.map_congr_left fun y _ => deg_cons t T y
    rw [e, sum_add, sum_add, sum_b2i hC, sum_b2i hC, sum_deg hC, List.map_cons, List.sum_cons]
theorem even_sum {C : List Int} : ∀ {T : Tls}, (∀ t ∈ T, t.1 ∈ C ↔ t.2 ∈ C) → (T.map fun t => b2i (decide (t.1 ∈ C)) + b2i (decide (t.2 ∈ C))).sum % 2 = 0
  | [], _ => rfl
  | t :: T, h => by
    have ih := even_sum (T := T) fun u hu => h u (List.mem_cons_of_mem _ hu)
    have e : decide (t.1 ∈ C) = decide (t.2 ∈ C) := decide_eq_decide.mpr (h t List.mem_cons_self)
    rw [List.map_cons, List.sum_cons, e]
    omega
theorem odd_count {f : Int → Int} : ∀ {C : List Int}, ((C.filter fun k => decide (f k % 2 = 1)).length : Int) % 2 = (C.map f).sum % 2
  | [] => rfl
  | y :: C => by
    have ih := odd_count (f := f) (C := C)
    rw [List.map_cons, List.sum_cons]
    by_cases c : f y % 2 = 1
    · rw [List.filter_cons_of_pos (p := fun k => decide (f k % 2 = 1)) (decide_eq_true c), List.length_cons]
      push_cast
      omega
    · rw [List.filter_cons_of_neg (p := fun k => decide (f k % 2 = 1)) (by simpa using c)]
      omega
/-- of marks that hang together an even number is odd -/
theorem handshake {T : Tls} {C : List Int} (hn : C.Nodup) (hC : ∀ t ∈ T, t.1 ∈ C ↔ t.2 ∈ C) : (C.filter fun k => decide (deg T k % 2 = 1)).length % 2 = 0 := by
  have h1 := odd_count (f := deg T) (C := C)
  rw [sum_deg hn, even_sum hC] at h1
  omega
theorem lreach_closed (T : Tls) (a : Int) : ∀ t ∈ T, t.1 ∈ lreach T a ↔ t.2 ∈ lreach T a := fun t ht => by
  have adj : Adj T t.1 t.2 := .inl ht
  rw [mem_lreach, mem_lreach]
  exact ⟨fun ⟨h1, h2⟩ => ⟨adj.mark, h2.step adj⟩, fun ⟨h1, h2⟩ => ⟨adj.symm.mark, h2.step adj.symm⟩⟩
theorem mem_lodds {T : Tls} {k : Int} : k ∈ lodds T ↔ k ∈ lmarks T ∧ deg T k % 2 = 1 := by
  unfold lodds
  rw [List.mem_filter, decide_eq_true_iff]
theorem lodd_is {T : Tls} {L : Int} : lodd (lodds T) (lreach T L) = (lreach T L).filter fun k => decide (deg T k % 2 = 1) := by
  unfold lodd
  refine List.filter_congr fun k hk => ?_
  rw [decide_eq_decide, mem_lodds]
  exact ⟨fun h => h.2, fun h => ⟨(mem_lreach.mp hk).1, h⟩⟩
theorem lodd_even (T : Tls) (L : Int) : (lodd (lodds T) (lreach T L)).length % 2 = 0 := by
  rw [lodd_is]
  exact handshake (lt_nodup (lreach_lt T L)) (lreach_closed T L)
theorem lodd_lt (T : Tls) (L : Int) : (lodd (lodds T) (lreach T L)).Pairwise (· < ·) := (lreach_lt T L).filter _
/-- a walk that has no bridge stays whole -/
theorem lsplit_whole {many : Int} {walk : List Stp} (h : ∀ st ∈ walk, st.1 < many) : lsplit many walk = [walk] := by
  refine snoc_ind (p := fun w => (∀ st ∈ w, st.1 < many) → lsplit many w = [w]) (fun _ => rfl) (fun l x ih hx => ?_) walk h
  rw [lsplit_snoc, if_pos (hx x (by simp)), ih fun st hst => hx st (List.mem_append_left _ hst)]
  rfl
theorem lpairs_short {e : List Int} (h : e.length ≤ 3) : lpairs e = [] := by
  unfold lpairs rng2A
  rw [if_neg (by omega)]
  rfl
end TC
/-! the fewest rows, in plain lists -/
namespace TC
def lleave1 (T : Tls) (S : List (Int × List Stp)) (st : Stp) : List (Int × List Stp) := dapp S (faceOf T st).1 st
def lleave (T : Tls) (steps : List Stp) : List (Int × List Stp) := steps.foldl (lleave1 T) []
theorem lleave_get (T : Tls) : ∀ (l : List Stp) (S : List (Int × List Stp)) (v : Int), (dget (l.foldl (lleave1 T) S) v).getD [] = (dget S v).getD [] ++ l.filter fun st => decide ((faceOf T st).1 = v)
  | [], S, v => by simp
  | st :: l, S, v => by
    rw [List.foldl_cons, lleave_get T l _ v]
    unfold lleave1
    rw [dget_dapp]
    by_cases c : v = (faceOf T st).1
    · subst c
      rw [if_pos rfl, List.filter_cons_of_pos (p := fun x : Stp => decide ((faceOf T x).1 = (faceOf T st).1)) (decide_eq_true rfl)]
      show (dget S _).getD [] ++ [st] ++ _ = _
      rw [List.append_assoc]
      rfl
    · rw [if_neg c, List.filter_cons_of_neg (p := fun x : Stp => decide ((faceOf T x).1 = v)) (by simpa using Ne.symm c)]
theorem lleave_len (T : Tls) : ∀ (l : List Stp) (S : List (Int × List Stp)), (l.foldl (lleave1 T) S).length ≤ S.length + l.length
  | [], S => by simp
  | st :: l, S => by
    have h1 := lleave_len T l (lleave1 T S st)
    have h2 : (lleave1 T S st).length ≤ S.length + 1 := dapp_len
    rw [List.foldl_cons, List.length_cons]
    omega
theorem lleave_val {T : Tls} {steps : List Stp} (h : ∀ st ∈ steps, isNum T st.1 = true) : SVal T (lleave T steps) := fun v st hst => by
  unfold lleave at hst
  rw [lleave_get] at hst
  exact h st (List.mem_filter.mp hst).1
theorem lleave_ready {T : Tls} {steps : List Stp} (h : ∀ st : Stp, st ∈ steps ↔ isNum T st.1 = true) : Ready T (lleave T steps) [] := by
  refine ⟨fun v st hst => ?_, fun st hst => .inl ?_, List.nodup_nil⟩
  · unfold lleave at hst
    rw [lleave_get] at hst
    have := List.mem_filter.mp hst
    exact ⟨(h st).mp this.1, of_decide_eq_true this.2⟩
  · unfold lleave
    rw [lleave_get]
    exact List.mem_append_right _ (List.mem_filter.mpr ⟨(h st).mpr hst, decide_eq_true rfl⟩)
def bothOf (n : Int) : List Stp := [(n, true), (n, false)]
def lboth (T : Tls) : List Stp := ((List.range T.length).map fun i => ((i : Nat) : Int)).flatMap bothOf
theorem mem_lboth {T : Tls} {st : Stp} : st ∈ lboth T ↔ isNum T st.1 = true := by
  unfold lboth
  rw [List.mem_flatMap, isNum_iff]
  constructor
  · rintro ⟨n, h1, h2⟩
    obtain ⟨i, hi, e⟩ := List.mem_map.mp h1
    have := List.mem_range.mp hi
    have e2 : st.1 = n := by
      unfold bothOf at h2
      simp only [List.mem_cons, List.not_mem_nil, or_false] at h2
      rcases h2 with h | h <;> rw [h]
    rw [e2, ← e]
    omega
  · rintro ⟨h1, h2⟩
    refine ⟨st.1, List.mem_map.mpr ⟨st.1.toNat, List.mem_range.mpr (by omega), by omega⟩, ?_⟩
    obtain ⟨a, b⟩ := st
    unfold bothOf
    cases b <;> simp
theorem both_len : ∀ l : List Int, (l.flatMap bothOf).length = 2 * l.length
  | [] => rfl
  | x :: l => by
    rw [List.flatMap_cons, List.length_append, both_len l, List.length_cons]
    show 2 + _ = _
    omega
theorem lboth_len (T : Tls) : (lboth T).length = 2 * T.length := by
  unfold lboth
  rw [both_len, List.length_map, List.length_range]
noncomputable def lL (tiles : List (Int × Int)) : Tls := lbr tiles (lparts tiles) (lodds tiles)
noncomputable def lfs (tiles : List (Int × Int)) (pre : List (List Int)) : FS := pre.foldl (lfew1 (lL tiles) (tiles.length : Int) (lodds tiles)) ⟨lleave (lL tiles) (lboth (lL tiles)), [], []⟩
noncomputable def lfewest (tiles : List (Int × Int)) : List (List Stp) := (lfs tiles (lparts tiles)).rows
theorem lL_len {tiles : List (Int × Int)} (h : Few tiles) : (lL tiles).length ≤ 5096 := by
  have h1 := lmarks_few h
  have h2 := lparts_len tiles
  have h3 := lbrs_len (lodds tiles) (groups := lparts tiles) fun g hg => by
    obtain ⟨L, _, e⟩ := List.mem_map.mp hg
    have := lreach_len tiles L
    rw [e] at this
    omega
  have h4 := h.1
  unfold lL lbr
  rw [List.length_append]
  omega
theorem walk_app {T : Tls} : ∀ {l m : List Stp} {a b : Int}, WalkT T a (l ++ m) b ↔ ∃ c, WalkT T a l c ∧ WalkT T c m b
  | [], m, a, b => ⟨fun h => ⟨a, rfl, h⟩, fun ⟨c, h1, h2⟩ => by
    have h1 : a = c := h1
    rw [h1]
    exact h2⟩
  | st :: l, m, a, b => by
    constructor
    · intro h
      obtain ⟨h1, h2⟩ := (show (faceOf T st).1 = a ∧ WalkT T (faceOf T st).2 (l ++ m) b from h)
      obtain ⟨c, c1, c2⟩ := walk_app.mp h2
      exact ⟨c, ⟨h1, c1⟩, c2⟩
    · rintro ⟨c, ⟨h1, h2⟩, h3⟩
      exact ⟨h1, walk_app.mpr ⟨c, h2, h3⟩⟩
theorem walk_end {T : Tls} : ∀ {l : List Stp} {a b c : Int}, WalkT T a l b → WalkT T a l c → b = c
  | [], a, b, c, h, g => (show a = b from h).symm.trans g
  | _ :: _, _, _, _, h, g => walk_end h.2 g.2
/-! cut from the front -/
def splitF (many : Int) : List Stp → List (List Stp)
  | [] => [[]]
  | st :: r => if st.1 < many then (match splitF many r with | [] => [[st]] | l :: ls => (st :: l) :: ls) else [] :: splitF many r
theorem splitF_ne (many : Int) : ∀ w : List Stp, ∃ l ls, splitF many w = l :: ls
  | [] => ⟨[], [], rfl⟩
  | st :: r => by
    obtain ⟨l, ls, e⟩ := splitF_ne many r
    unfold splitF
    rw [e]
    by_cases c : st.1 < many
    · rw [if_pos c]
      exact ⟨_, _, rfl⟩
    · rw [if_neg c]
      exact ⟨_, _, rfl⟩
theorem splitF_lt {many : Int} {st : Stp} {r : List Stp} {l : List Stp} {ls : List (List Stp)} (h : st.1 < many) (e : splitF many r = l :: ls) : splitF many (st :: r) = (st :: l) :: ls := by
  unfold splitF
  rw [if_pos h, e]
theorem splitF_ge {many : Int} {st : Stp} {r : List Stp} (h : ¬ st.1 < many) : splitF many (st :: r) = [] :: splitF many r := by
  show (if st.1 < many then _ else [] :: splitF many r) = _
  rw [if_neg h]
theorem splitF_snoc (many : Int) (y : Stp) : ∀ w : List Stp, splitF many (w ++ [y]) = if y.1 < many then (splitF many w).dropLast ++ [(splitF many w).getLastD [] ++ [y]] else splitF many w ++ [[]]
  | [] => by
    by_cases c : y.1 < many
    · rw [if_pos c, List.nil_append, splitF_lt c rfl]
      rfl
    · rw [if_neg c, List.nil_append, splitF_ge c]
      rfl
  | st :: r => by
    have ih := splitF_snoc many y r
    obtain ⟨l, ls, e⟩ := splitF_ne many r
    rw [e] at ih
    rw [List.cons_append]
    by_cases c : st.1 < many
    · rw [splitF_lt c e]
      by_cases d : y.1 < many
      · rw [if_pos d] at ih ⊢
        cases ls with
        | nil => rw [splitF_lt c (l := l ++ [y]) (ls := []) ih]; rfl
        | cons m ms =>
          have ih' : splitF many (r ++ [y]) = l :: ((m :: ms).dropLast ++ [(m :: ms).getLastD [] ++ [y]]) := ih
          rw [splitF_lt c ih']
          rfl
      · rw [if_neg d] at ih ⊢
        have ih' : splitF many (r ++ [y]) = l :: (ls ++ [[]]) := ih
        rw [splitF_lt c ih']
        rfl
    · rw [splitF_ge c, splitF_ge c, ih, e]
      by_cases d : y.1 < many
      · rw [if_pos d, if_pos d]
        cases ls <;> rfl
      · rw [if_neg d, if_neg d]
        rfl
theorem lsplit_F (many : Int) (w : List Stp) : lsplit many w = splitF many w := by
  refine snoc_ind (p := fun w => lsplit many w = splitF many w) rfl (fun l x ih => ?_) w
  rw [lsplit_snoc, splitF_snoc, ih]
theorem splitF_flat (many : Int) : ∀ w : List Stp, (splitF many w).flatten = w.filter fun st => decide (st.1 < many)
  | [] => rfl
  | st :: r => by
    have ih := splitF_flat many r
    obtain ⟨l, ls, e⟩ := splitF_ne many r
    by_cases c : st.1 < many
    · rw [splitF_lt c e, List.filter_cons_of_pos (p := fun st : Stp => decide (st.1 < many)) (decide_eq_true c), ← ih, e]
      rfl
    · rw [splitF_ge c, List.filter_cons_of_neg (p := fun st : Stp => decide (st.1 < many)) (by simpa using c), ← ih]
      rfl
theorem splitF_len (many : Int) : ∀ w : List Stp, (splitF many w).length = (w.filter fun st => !decide (st.1 < many)).length + 1
  | [] => rfl
  | st :: r => by
    have ih := splitF_len many r
    obtain ⟨l, ls, e⟩ := splitF_ne many r
    by_cases c : st.1 < many
    · rw [splitF_lt c e, List.filter_cons_of_neg (p := fun st : Stp => !decide (st.1 < many)) (by rw [decide_eq_true c]; decide), ← ih, e]
      rfl
    · rw [splitF_ge c, List.filter_cons_of_pos (p := fun st : Stp => !decide (st.1 < many)) (by rw [decide_eq_false c]; rfl), List.length_cons, List.length_cons, ih]
theorem splitF_walk {L T : Tls} {many : Int} (hag : ∀ st : Stp, st.1 < many → isNum L st.1 = true → faceOf L st = faceOf T st) : ∀ {w : List Stp} {a z : Int}, WalkT L a w z → (∀ st ∈ w, isNum L st.1 = true) → ∃ l ls, splitF many w = l :: ls ∧ (∃ b, WalkT T a l b) ∧ ∀ r ∈ ls, ∃ x y, WalkT T x r y
  | [], a, z, h, _ => ⟨[], [], rfl, ⟨a, rfl⟩, fun r hr => by cases hr⟩
  | st :: w, a, z, h, hv => by
    obtain ⟨h1, h2⟩ := (show (faceOf L st).1 = a ∧ WalkT L (faceOf L st).2 w z from h)
    obtain ⟨l, ls, e, ⟨b, hb⟩, hr⟩ := splitF_walk hag h2 fun x hx => hv x (List.mem_cons_of_mem _ hx)
    by_cases c : st.1 < many
    · have ef := hag st c (hv st List.mem_cons_self)
      rw [ef] at h1 hb
      exact ⟨st :: l, ls, splitF_lt c e, ⟨b, h1, hb⟩, hr⟩
    · refine ⟨[], l :: ls, by rw [splitF_ge c, e], ⟨a, rfl⟩, fun r hm => ?_⟩
      rcases List.mem_cons.mp hm with e | hm
      · rw [e]
        exact ⟨_, b, hb⟩
      · exact hr r hm
/-- no two bridges side by side, none at the ends -/
def okB (many : Int) : Bool → List Stp → Prop
  | b, [] => b = false
  | b, st :: r => if st.1 < many then okB many false r else b = false ∧ okB many true r
theorem okB_full {many : Int} : ∀ {w : List Stp} {b : Bool} {l : List Stp} {ls : List (List Stp)}, okB many b w → splitF many w = l :: ls → (b = true → l ≠ []) ∧ ∀ r ∈ ls, r ≠ []
  | [], b, l, ls, h, e => by
    have h : b = false := h
    cases e
    exact ⟨fun h2 => (by rw [h] at h2; cases h2), fun r hr => by cases hr⟩
  | st :: w, b, l, ls, h, e => by
    obtain ⟨l', ls', e'⟩ := splitF_ne many w
    unfold okB at h
    by_cases c : st.1 < many
    · rw [if_pos c] at h
      rw [splitF_lt c e'] at e
      cases e
      obtain ⟨_, h2⟩ := okB_full h e'
      exact ⟨fun _ z => (by cases z), h2⟩
    · rw [if_neg c] at h
      rw [splitF_ge c, e'] at e
      cases e
      obtain ⟨h1, h2⟩ := okB_full h.2 e'
      refine ⟨fun h3 => (by rw [h.1] at h3; cases h3), fun r hr => ?_⟩
      rcases List.mem_cons.mp hr with q | hr
      · rw [q]
        exact h1 rfl
      · exact h2 r hr
theorem ok_walk {L : Tls} {many z : Int} : ∀ {w : List Stp} {a : Int} {b : Bool}, WalkT L a w z → (nums w).Nodup → (b = true → w ≠ [] ∧ ∀ st ∈ w, many ≤ st.1 → (faceOf L st).1 ≠ a) →
    (∀ st ∈ w, many ≤ st.1 → (faceOf L st).2 ≠ z) → (∀ s1 ∈ w, ∀ s2 ∈ w, many ≤ s1.1 → many ≤ s2.1 → s1.1 ≠ s2.1 → (faceOf L s1).2 ≠ (faceOf L s2).1) → okB many b w
  | [], a, b, h, hn, hb, hz, hd => by
    cases b with
    | false => rfl
    | true => exact absurd rfl (hb rfl).1
  | st :: w, a, b, h, hn, hb, hz, hd => by
    obtain ⟨h1, h2⟩ := (show (faceOf L st).1 = a ∧ WalkT L (faceOf L st).2 w z from h)
    obtain ⟨n1, n2⟩ := List.nodup_cons.mp (show (st.1 :: nums w).Nodup from hn)
    have hz' : ∀ x ∈ w, many ≤ x.1 → (faceOf L x).2 ≠ z := fun x hx => hz x (List.mem_cons_of_mem _ hx)
    have hd' : ∀ s1 ∈ w, ∀ s2 ∈ w, many ≤ s1.1 → many ≤ s2.1 → s1.1 ≠ s2.1 → (faceOf L s1).2 ≠ (faceOf L s2).1 := fun s1 m1 s2 m2 => hd s1 (List.mem_cons_of_mem _ m1) s2 (List.mem_cons_of_mem _ m2)
    unfold okB
    by_cases c : st.1 < many
    · rw [if_pos c]
      exact ok_walk h2 n2 (fun q => by cases q) hz' hd'
    · rw [if_neg c]
      refine ⟨?_, ok_walk h2 n2 (fun _ => ⟨fun q => ?_, fun x hx hm => ?_⟩) hz' hd'⟩
      · cases b with
        | false => rfl
        | true => exact absurd h1 ((hb rfl).2 st List.mem_cons_self (by omega))
      · subst q
        exact hz st List.mem_cons_self (by omega) h2
      · have hne : st.1 ≠ x.1 := fun e => n1 (by rw [e]; exact List.mem_map.mpr ⟨x, hx, rfl⟩)
        exact fun e => hd st List.mem_cons_self x (List.mem_cons_of_mem _ hx) (by omega) hm hne e.symm
/-! how often a mark stands in two tiles, and in all -/
theorem wt_nn (t : Int × Int) (x : Int) : 0 ≤ wt t x := by
  have h1 := b2i_01 (decide (t.1 = x))
  have h2 := b2i_01 (decide (t.2 = x))
  unfold wt
  omega
theorem sumU_nn {U : List Int} {x : Int} : ∀ L : List (Int × (Int × Int)), 0 ≤ sumU L U x
  | [] => Int.le_refl _
  | q :: L => by
    have ih := sumU_nn (U := U) (x := x) L
    unfold sumU at ih ⊢
    rw [List.map_cons, List.sum_cons]
    have := wt_nn q.2 x
    split <;> omega
theorem deg_two {T : Tls} {n1 n2 x : Int} (h1 : isNum T n1 = true) (h2 : isNum T n2 = true) (hne : n1 ≠ n2) : wt (tileAt T n1) x + wt (tileAt T n2) x ≤ deg T x := by
  have e0 : degU T [] x = deg T x := degU_deg fun n hn => by cases hn
  have e1 := sumU_less (U := []) (U' := [n1]) x (enumA_nodup T) (tile_mem h1) (fun h => by cases h) fun m => by simp
  have e2 := sumU_less (U := [n1]) (U' := [n2, n1]) x (enumA_nodup T) (tile_mem h2) (fun h => hne (List.mem_singleton.mp h).symm) fun m => by simp
  have := sumU_nn (U := [n2, n1]) (x := x) (enumA T)
  unfold degU at e0
  omega
theorem deg_one {T : Tls} {n x : Int} (h : isNum T n = true) : wt (tileAt T n) x ≤ deg T x := by
  have e0 : degU T [] x = deg T x := degU_deg fun n hn => by cases hn
  have e1 := sumU_less (U := []) (U' := [n]) x (enumA_nodup T) (tile_mem h) (fun h => by cases h) fun m => by simp
  have := sumU_nn (U := [n]) (x := x) (enumA T)
  unfold degU at e0
  omega
/-! sums by place -/
def sumR (f : Nat → Int) (n : Nat) : Int := ((List.range n).map f).sum
theorem sumR_succ (f : Nat → Int) (n : Nat) : sumR f (n + 1) = sumR f n + f n := by
  unfold sumR
  rw [List.range_succ, List.map_append, List.sum_append]
  simp
theorem sumR_front (f : Nat → Int) (n : Nat) : sumR f (n + 1) = f 0 + sumR (fun i => f (i + 1)) n := by
  unfold sumR
  rw [List.range_succ_eq_map, List.map_cons, List.map_map, List.sum_cons]
  rfl
def at0 (e : List Int) (x : Int) (j : Nat) : Int := b2i (decide (x = e.getD j 0))
theorem sumR_list (x : Int) : ∀ e : List Int, sumR (at0 e x) e.length = (e.map fun y => b2i (decide (x = y))).sum
  | [] => rfl
  | y :: e => by
    rw [List.length_cons, sumR_front, List.map_cons, List.sum_cons, ← sumR_list x e]
    rfl
def pr1 (e : List Int) (i : Nat) : Int × Int := (e.getD (2 * i + 1) 0, e.getD (2 * i + 2) 0)
theorem lpairs_is {e : List Int} {k : Nat} (h : e.length = 2 * (k + 1)) : lpairs e = (List.range k).map (pr1 e) := by
  unfold lpairs rng2A
  have hk : (if (1 : Int) < (e.length : Int) - 2 then ((e.length : Int) - 2 - 1 - 1) / 2 + 1 else 0).toNat = k := by
    split <;> omega
  rw [hk, List.map_map]
  refine List.map_congr_left fun i _ => ?_
  show (e.getD (1 + (i : Int) * 2).toNat 0, e.getD (1 + (i : Int) * 2 + 1).toNat 0) = _
  have e1 : (1 + (i : Int) * 2).toNat = 2 * i + 1 := by omega
  have e2 : (1 + (i : Int) * 2 + 1).toNat = 2 * i + 2 := by omega
  rw [e1, e2]
  rfl
theorem deg_prs (e : List Int) (x : Int) : ∀ k : Nat, deg ((List.range k).map (pr1 e)) x = sumR (fun j => at0 e x (j + 1)) (2 * k)
  | 0 => rfl
  | k + 1 => by
    rw [List.range_succ, List.map_append, deg_app, deg_prs e x k, show 2 * (k + 1) = 2 * k + 1 + 1 by omega, sumR_succ, sumR_succ]
    have : deg ([k].map (pr1 e)) x = at0 e x (2 * k + 1) + at0 e x (2 * k + 1 + 1) := by
      rw [List.map_cons, List.map_nil, deg_cons, deg_nil]
      unfold at0
      rw [dec_symm, dec_symm (x := x) (y := e.getD (2 * k + 1 + 1) 0)]
      show _ + _ + 0 = _
      rw [Int.add_zero]
      rfl
    rw [this]
    omega
/-- each end but the first and the last stands in one bridge -/
theorem deg_lpairs {e : List Int} {k : Nat} (h : e.length = 2 * (k + 1)) (hn : e.Nodup) (x : Int) : deg (lpairs e) x = b2i (decide (x ∈ e)) - b2i (decide (x = e.getD 0 0)) - b2i (decide (x = e.getD (2 * k + 1) 0)) := by
  rw [lpairs_is h, deg_prs]
  have h1 := sumR_list x e
  rw [sum_b2i hn, h, show 2 * (k + 1) = 2 * k + 1 + 1 by omega, sumR_succ, sumR_front] at h1
  have e1 : at0 e x 0 = b2i (decide (x = e.getD 0 0)) := rfl
  have e2 : at0 e x (2 * k + 1) = b2i (decide (x = e.getD (2 * k + 1) 0)) := rfl
  rw [e1, e2] at h1
  omega
theorem getD_mem {e : List Int} {i : Nat} (h : i < e.length) : e.getD i 0 ∈ e := by
  rw [List.getD_eq_getElem?_getD, List.getElem?_eq_getElem h]
  exact List.getElem_mem h
theorem lpairs_mem {e : List Int} (he : e.length % 2 = 0) {t : Int × Int} (ht : t ∈ lpairs e) : t.1 ∈ e ∧ t.2 ∈ e := by
  obtain ⟨k, hk⟩ : ∃ k, e.length = 2 * k := ⟨e.length / 2, by omega⟩
  cases k with
  | zero =>
    rw [lpairs_short (by omega)] at ht
    cases ht
  | succ k =>
    rw [lpairs_is hk] at ht
    obtain ⟨i, hi, e1⟩ := List.mem_map.mp ht
    have := List.mem_range.mp hi
    rw [← e1]
    exact ⟨getD_mem (by omega), getD_mem (by omega)⟩
theorem deg_off {T : Tls} {x : Int} (h : ∀ t ∈ T, t.1 ≠ x ∧ t.2 ≠ x) : deg T x = 0 := by
  unfold deg
  refine sum_zero fun t ht => ?_
  obtain ⟨a, b⟩ := h t ht
  rw [decide_eq_false a, decide_eq_false b]
  rfl
theorem lpairs_count {e : List Int} (he : e.length % 2 = 0) : (lpairs e).length + 1 = max 1 (e.length / 2) := by
  obtain ⟨k, hk⟩ : ∃ k, e.length = 2 * k := ⟨e.length / 2, by omega⟩
  cases k with
  | zero =>
    rw [lpairs_short (by omega), List.length_nil]
    omega
  | succ k =>
    rw [lpairs_is hk, List.length_map, List.length_range]
    omega
end TC
namespace TC
noncomputable def brs (tiles : Tls) : Tls := (lparts tiles).flatMap fun g => lpairs (lodd (lodds tiles) g)
theorem lL_is (tiles : Tls) : lL tiles = tiles ++ brs tiles := rfl
theorem part_form {tiles : Tls} {g : List Int} (h : g ∈ lparts tiles) : ∃ L0, L0 ∈ lfirsts tiles ∧ g = lreach tiles L0 ∧ L0 ∈ g := by
  obtain ⟨L0, h1, e⟩ := List.mem_map.mp h
  exact ⟨L0, h1, e.symm, by rw [← e]; exact lreach_self (mem_lfirsts.mp h1).1⟩
theorem part_one {tiles : Tls} {g g' : List Int} (h : g ∈ lparts tiles) (h' : g' ∈ lparts tiles) {x : Int} (hx : x ∈ g) (hx' : x ∈ g') : g = g' := by
  obtain ⟨L, l1, l2, _⟩ := part_form h
  obtain ⟨L', l1', l2', _⟩ := part_form h'
  rw [l2] at hx
  rw [l2'] at hx'
  have e1 := lhead_congr (mem_lfirsts.mp l1).1 (mem_lreach.mp hx).2
  have e2 := lhead_congr (mem_lfirsts.mp l1').1 (mem_lreach.mp hx').2
  rw [(mem_lfirsts.mp l1).2] at e1
  rw [(mem_lfirsts.mp l1').2] at e2
  rw [l2, l2', e1, e2]
theorem part_mark {tiles : Tls} {g : List Int} (h : g ∈ lparts tiles) {x : Int} (hx : x ∈ g) : x ∈ lmarks tiles := by
  obtain ⟨L, _, e, _⟩ := part_form h
  rw [e] at hx
  exact (mem_lreach.mp hx).1
theorem part_reach {tiles : Tls} {g : List Int} (h : g ∈ lparts tiles) {x y : Int} (hx : x ∈ g) : y ∈ g ↔ Reach tiles x y := by
  obtain ⟨L, l1, e, _⟩ := part_form h
  rw [e] at hx ⊢
  obtain ⟨h1, h2⟩ := mem_lreach.mp hx
  rw [mem_lreach]
  exact ⟨fun ⟨_, r⟩ => h2.symm.trans r, fun r => ⟨r.mark h1, h2.trans r⟩⟩
theorem part_of {tiles : Tls} {x : Int} (h : x ∈ lmarks tiles) : ∃ g ∈ lparts tiles, x ∈ g := by
  obtain ⟨g, hg, hx⟩ := List.mem_flatten.mp ((lparts_flat tiles).mem_iff.mpr h)
  exact ⟨g, hg, hx⟩
theorem parts_nodup (tiles : Tls) : (lparts tiles).Nodup := by
  have h : ((lparts tiles).map (·.headD 0)).Nodup := by
    rw [lparts_heads]
    exact lt_nodup (lfirsts_lt tiles)
  exact (List.pairwise_map.mp h).imp fun {a b} hab e => hab (by rw [e])
theorem lodd_sub {odds g : List Int} {x : Int} (h : x ∈ lodd odds g) : x ∈ g := (List.mem_filter.mp h).1
theorem lodd_ev {tiles : Tls} {g : List Int} (h : g ∈ lparts tiles) : (lodd (lodds tiles) g).length % 2 = 0 := by
  obtain ⟨L, _, e, _⟩ := part_form h
  rw [e]
  exact lodd_even tiles L
theorem lodd_nd {tiles : Tls} {g : List Int} (h : g ∈ lparts tiles) : (lodd (lodds tiles) g).Nodup := by
  obtain ⟨L, _, e, _⟩ := part_form h
  rw [e]
  exact lt_nodup (lodd_lt tiles L)
theorem mem_lodd {tiles : Tls} {g : List Int} (h : g ∈ lparts tiles) {x : Int} (hx : x ∈ g) : x ∈ lodd (lodds tiles) g ↔ deg tiles x % 2 = 1 := by
  unfold lodd
  rw [List.mem_filter, decide_eq_true_iff, mem_lodds]
  exact ⟨fun h => h.2.2, fun q => ⟨hx, part_mark h hx, q⟩⟩
theorem flat_mem {tiles : Tls} {gs : List (List Int)} (hs : ∀ g ∈ gs, g ∈ lparts tiles) {t : Int × Int} (ht : t ∈ gs.flatMap fun g => lpairs (lodd (lodds tiles) g)) : ∃ g ∈ gs, t.1 ∈ g ∧ t.2 ∈ g := by
  obtain ⟨g, hg, h⟩ := List.mem_flatMap.mp ht
  obtain ⟨a, b⟩ := lpairs_mem (lodd_ev (hs g hg)) h
  exact ⟨g, hg, lodd_sub a, lodd_sub b⟩
theorem brs_mem {tiles : Tls} {t : Int × Int} (ht : t ∈ brs tiles) : ∃ g ∈ lparts tiles, t.1 ∈ g ∧ t.2 ∈ g := flat_mem (fun g h => h) ht
theorem reach_L {tiles : Tls} {x y : Int} : Reach (lL tiles) x y ↔ Reach tiles x y := by
  constructor
  · intro h
    induction h with
    | refl => exact .refl
    | step _ e ih =>
      refine ih.trans ?_
      rw [lL_is] at e
      rcases e with e | e
      · rcases List.mem_append.mp e with e | e
        · exact Reach.one (.inl e)
        · obtain ⟨g, hg, a, b⟩ := brs_mem e
          exact (part_reach hg a).mp b
      · rcases List.mem_append.mp e with e | e
        · exact Reach.one (.inr e)
        · obtain ⟨g, hg, a, b⟩ := brs_mem e
          exact (part_reach hg b).mp a
  · intro h
    induction h with
    | refl => exact .refl
    | step _ e ih =>
      refine ih.step ?_
      rw [lL_is]
      exact e.elim (fun q => .inl (List.mem_append_left _ q)) fun q => .inr (List.mem_append_left _ q)
/-! places -/
theorem num_low {T M : Tls} {n : Int} (h : isNum T n = true) : isNum (T ++ M) n = true ∧ tileAt (T ++ M) n = tileAt T n := by
  obtain ⟨h1, h2⟩ := isNum_iff.mp h
  refine ⟨isNum_iff.mpr ⟨h1, by rw [List.length_append]; omega⟩, ?_⟩
  unfold tileAt
  rw [List.getD_eq_getElem?_getD, List.getD_eq_getElem?_getD, List.getElem?_append_left (by omega)]
theorem num_high {T M : Tls} {n : Int} (h : isNum (T ++ M) n = true) (hn : (T.length : Int) ≤ n) : isNum M (n - T.length) = true ∧ tileAt (T ++ M) n = tileAt M (n - T.length) := by
  obtain ⟨h1, h2⟩ := isNum_iff.mp h
  rw [List.length_append] at h2
  refine ⟨isNum_iff.mpr ⟨by omega, by push_cast at h2; omega⟩, ?_⟩
  unfold tileAt
  rw [List.getD_eq_getElem?_getD, List.getD_eq_getElem?_getD, List.getElem?_append_right (by omega)]
  congr 2
  omega
theorem num_shift {T M : Tls} {m : Int} (h : isNum M m = true) : isNum (T ++ M) (m + T.length) = true ∧ tileAt (T ++ M) (m + T.length) = tileAt M m := by
  obtain ⟨h1, h2⟩ := isNum_iff.mp h
  have h3 : isNum (T ++ M) (m + T.length) = true := isNum_iff.mpr ⟨by omega, by rw [List.length_append]; push_cast; omega⟩
  have := (num_high h3 (by omega)).2
  rw [this]
  refine ⟨h3, ?_⟩
  congr 1
  omega
theorem face_low {T M : Tls} {st : Stp} (h : st.1 < (T.length : Int)) (hn : isNum (T ++ M) st.1 = true) : isNum T st.1 = true ∧ faceOf (T ++ M) st = faceOf T st := by
  have h1 : isNum T st.1 = true := isNum_iff.mpr ⟨(isNum_iff.mp hn).1, h⟩
  refine ⟨h1, ?_⟩
  unfold faceOf
  rw [(num_low h1).2]
/-! the bridges of one part -/
theorem split_other {tiles : Tls} {pre post : List (List Int)} {g : List Int} (hp : lparts tiles = pre ++ g :: post) {x : Int} (hx : x ∈ g) : ∀ g' ∈ pre ++ post, x ∉ g' := fun g' hg' hx' => by
  have hn := parts_nodup tiles
  rw [hp] at hn
  have hg : g ∈ lparts tiles := by rw [hp]; simp
  have hm : g' ∈ lparts tiles := by
    rw [hp]
    rcases List.mem_append.mp hg' with a | a
    · exact List.mem_append_left _ a
    · exact List.mem_append_right _ (List.mem_cons_of_mem _ a)
  have e := part_one hg hm hx hx'
  subst e
  obtain ⟨n1, n2, n3⟩ := List.nodup_append.mp hn
  rcases List.mem_append.mp hg' with a | a
  · exact n3 g a g List.mem_cons_self rfl
  · exact (List.nodup_cons.mp n2).1 a
theorem brs_split {tiles : Tls} {pre post : List (List Int)} {g : List Int} (hp : lparts tiles = pre ++ g :: post) : brs tiles = (pre.flatMap fun g => lpairs (lodd (lodds tiles) g)) ++ (lpairs (lodd (lodds tiles) g) ++ post.flatMap fun g => lpairs (lodd (lodds tiles) g)) := by
  unfold brs
  rw [hp, List.flatMap_append, List.flatMap_cons]
theorem flat_off {tiles : Tls} {gs : List (List Int)} (hs : ∀ g ∈ gs, g ∈ lparts tiles) {x : Int} (hx : ∀ g ∈ gs, x ∉ g) : deg (gs.flatMap fun g => lpairs (lodd (lodds tiles) g)) x = 0 := deg_off fun t ht => by
  obtain ⟨g, hg, a, b⟩ := flat_mem hs ht
  exact ⟨fun e => hx g hg (by rw [← e]; exact a), fun e => hx g hg (by rw [← e]; exact b)⟩
theorem deg_brs {tiles : Tls} {pre post : List (List Int)} {g : List Int} (hp : lparts tiles = pre ++ g :: post) {x : Int} (hx : x ∈ g) : deg (brs tiles) x = deg (lpairs (lodd (lodds tiles) g)) x := by
  have ho := split_other hp hx
  rw [brs_split hp, deg_app, deg_app, flat_off (fun g' h => by rw [hp]; exact List.mem_append_left _ h) fun g' h => ho g' (List.mem_append_left _ h), flat_off (fun g' h => by rw [hp]; exact List.mem_append_right _ (List.mem_cons_of_mem _ h)) fun g' h => ho g' (List.mem_append_right _ h)]
  omega
theorem filter_flat_none {tiles : Tls} {gs : List (List Int)} {g : List Int} (hs : ∀ g ∈ gs, g ∈ lparts tiles) (hd : ∀ g' ∈ gs, ∀ x ∈ g', x ∉ g) : (gs.flatMap fun g => lpairs (lodd (lodds tiles) g)).filter (fun t => decide (t.1 ∈ g)) = [] := List.filter_eq_nil_iff.mpr fun t ht h => by
  obtain ⟨g', hg', a, _⟩ := flat_mem hs ht
  exact hd g' hg' _ a (of_decide_eq_true h)
theorem brs_filter {tiles : Tls} {pre post : List (List Int)} {g : List Int} (hp : lparts tiles = pre ++ g :: post) : (brs tiles).filter (fun t => decide (t.1 ∈ g)) = lpairs (lodd (lodds tiles) g) := by
  have hg : g ∈ lparts tiles := by rw [hp]; simp
  have hd : ∀ g' ∈ pre ++ post, ∀ x ∈ g', x ∉ g := fun g' hg' x hx hx' => split_other hp hx' g' hg' hx
  rw [brs_split hp, List.filter_append, List.filter_append, filter_flat_none (fun g' h => by rw [hp]; exact List.mem_append_left _ h) fun g' h => hd g' (List.mem_append_left _ h), filter_flat_none (fun g' h => by rw [hp]; exact List.mem_append_right _ (List.mem_cons_of_mem _ h)) fun g' h => hd g' (List.mem_append_right _ h), List.nil_append, List.append_nil]
  exact List.filter_eq_self.mpr fun t ht => decide_eq_true (lodd_sub (lpairs_mem (lodd_ev hg) ht).1)
/-- where a part's walk begins and ends -/
structure Ends2 (tiles : Tls) (g : List Int) (m0 z : Int) : Prop where
  i0 : m0 ∈ g
  iz : z ∈ g
  par : ∀ x ∈ g, deg (lL tiles) x % 2 = (b2i (decide (x = m0)) + b2i (decide (x = z))) % 2
  b0 : deg (brs tiles) m0 = 0
  bz : deg (brs tiles) z = 0
  b1 : ∀ x ∈ g, deg (brs tiles) x ≤ 1
theorem ends2 {tiles : Tls} {pre post : List (List Int)} {g : List Int} (hp : lparts tiles = pre ++ g :: post) : ∃ z, Ends2 tiles g (lstart (lodds tiles) g) z := by
  have hg : g ∈ lparts tiles := by rw [hp]; simp
  obtain ⟨p1, _, _, _⟩ := part_is hg
  have hev := lodd_ev hg
  have hnd := lodd_nd hg
  have hdL : ∀ x, deg (lL tiles) x = deg tiles x + deg (brs tiles) x := fun x => by rw [lL_is, deg_app]
  obtain ⟨k, hk⟩ : ∃ k, (lodd (lodds tiles) g).length = 2 * k := ⟨(lodd (lodds tiles) g).length / 2, by omega⟩
  cases k with
  | zero =>
    have he : lodd (lodds tiles) g = [] := List.length_eq_zero_iff.mp (by omega)
    have hb : ∀ x ∈ g, deg (brs tiles) x = 0 := fun x hx => by
      rw [deg_brs hp hx, he]
      rfl
    have hm : lstart (lodds tiles) g ∈ g := by
      unfold lstart
      rw [he, List.nil_append]
      cases g with
      | nil => exact absurd rfl p1
      | cons x l => exact List.mem_cons_self
    refine ⟨lstart (lodds tiles) g, hm, hm, fun x hx => ?_, hb _ hm, hb _ hm, fun x hx => by rw [hb x hx]; decide⟩
    have h1 : ¬ deg tiles x % 2 = 1 := fun q => by
      have := (mem_lodd hg hx).mpr q
      rw [he] at this
      cases this
    rw [hdL, hb x hx]
    have b1 := b2i_01 (decide (x = lstart (lodds tiles) g))
    omega
  | succ k =>
    have hk' : (lodd (lodds tiles) g).length = 2 * (k + 1) := hk
    have h0 : lstart (lodds tiles) g = (lodd (lodds tiles) g).getD 0 0 := by
      unfold lstart
      cases h : lodd (lodds tiles) g with
      | nil => rw [h] at hk'; exact absurd hk' (by rw [List.length_nil]; omega)
      | cons x l => rfl
    have m1 : (lodd (lodds tiles) g).getD 0 0 ∈ lodd (lodds tiles) g := getD_mem (by omega)
    have m2 : (lodd (lodds tiles) g).getD (2 * k + 1) 0 ∈ lodd (lodds tiles) g := getD_mem (by omega)
    have hne : (lodd (lodds tiles) g).getD 0 0 ≠ (lodd (lodds tiles) g).getD (2 * k + 1) 0 := fun e => by
      have q1 : (lodd (lodds tiles) g)[0]? = some ((lodd (lodds tiles) g).getD 0 0) := by
        rw [List.getD_eq_getElem?_getD, List.getElem?_eq_getElem (by omega)]
        rfl
      have q2 : (lodd (lodds tiles) g)[2 * k + 1]? = some ((lodd (lodds tiles) g).getD (2 * k + 1) 0) := by
        rw [List.getD_eq_getElem?_getD, List.getElem?_eq_getElem (by omega)]
        rfl
      rw [← e] at q2
      have := (List.getElem?_inj (by omega) hnd).mp (q1.trans q2.symm)
      omega
    have hb : ∀ x ∈ g, deg (brs tiles) x = b2i (decide (x ∈ lodd (lodds tiles) g)) - b2i (decide (x = (lodd (lodds tiles) g).getD 0 0)) - b2i (decide (x = (lodd (lodds tiles) g).getD (2 * k + 1) 0)) := fun x hx => by
      rw [deg_brs hp hx, deg_lpairs hk' hnd]
    refine ⟨(lodd (lodds tiles) g).getD (2 * k + 1) 0, by rw [h0]; exact lodd_sub m1, lodd_sub m2, fun x hx => ?_, ?_, ?_, fun x hx => ?_⟩
    · rw [hdL, hb x hx, h0]
      have q := mem_lodd hg hx
      have b1 := b2i_01 (decide (x = (lodd (lodds tiles) g).getD 0 0))
      have b2 := b2i_01 (decide (x = (lodd (lodds tiles) g).getD (2 * k + 1) 0))
      by_cases c : x ∈ lodd (lodds tiles) g
      · have := q.mp c
        rw [decide_eq_true c]
        show (deg tiles x + (1 - _ - _)) % 2 = _
        omega
      · have : ¬ deg tiles x % 2 = 1 := fun z => c (q.mpr z)
        rw [decide_eq_false c]
        show (deg tiles x + (0 - _ - _)) % 2 = _
        omega
    · rw [h0, hb _ (lodd_sub m1), decide_eq_true m1, decide_eq_true rfl, decide_eq_false hne]
      rfl
    · rw [hb _ (lodd_sub m2), decide_eq_true m2, decide_eq_true rfl, decide_eq_false (Ne.symm hne)]
      rfl
    · rw [hb x hx]
      have b0 := b2i_01 (decide (x ∈ lodd (lodds tiles) g))
      have b1 := b2i_01 (decide (x = (lodd (lodds tiles) g).getD 0 0))
      have b2 := b2i_01 (decide (x = (lodd (lodds tiles) g).getD (2 * k + 1) 0))
      omega
theorem wt_left {T : Tls} {st : Stp} {x : Int} (h : (faceOf T st).1 = x ∨ (faceOf T st).2 = x) : 1 ≤ wt (tileAt T st.1) x := by
  rw [wt_face]
  have b1 := b2i_01 (decide ((faceOf T st).1 = x))
  have b2 := b2i_01 (decide ((faceOf T st).2 = x))
  rcases h with h | h
  · rw [decide_eq_true h] at b1 ⊢
    have : b2i true = 1 := rfl
    omega
  · rw [decide_eq_true h] at b2 ⊢
    have : b2i true = 1 := rfl
    omega
theorem nums_flat : ∀ ls : List (List Stp), ls.flatMap nums = nums ls.flatten
  | [] => rfl
  | l :: ls => by
    rw [List.flatMap_cons, nums_flat ls, List.flatten_cons]
    unfold nums
    rw [List.map_append]
structure FInv (tiles : Tls) (pre : List (List Int)) (a : FS) : Prop where
  ready : Ready (lL tiles) a.S a.U
  used : ∀ n ∈ keysM a.U, isNum (lL tiles) n = true → ∃ g ∈ pre, (tileAt (lL tiles) n).1 ∈ g
  rows : ∀ r ∈ a.rows, r ≠ [] ∧ (∀ st ∈ r, isNum tiles st.1 = true) ∧ ∃ x y, WalkT tiles x r y
  nodup : (a.rows.flatMap nums).Nodup
  all : ∀ n, n ∈ a.rows.flatMap nums ↔ isNum tiles n = true ∧ ∃ g ∈ pre, (tileAt tiles n).1 ∈ g
  len : a.rows.length = (pre.map fun g => max 1 ((lodd (lodds tiles) g).length / 2)).sum
theorem few_step {tiles : Tls} {pre post : List (List Int)} {g : List Int} (hp : lparts tiles = pre ++ g :: post) {a : FS} (h : FInv tiles pre a) : FInv tiles (pre ++ [g]) (lfew1 (lL tiles) (tiles.length : Int) (lodds tiles) a g) := by
  have hg : g ∈ lparts tiles := by rw [hp]; simp
  obtain ⟨z, X⟩ := ends2 hp
  unfold lfew1
  generalize lstart (lodds tiles) g = m0 at *
  have hR : ∀ x, Reach (lL tiles) m0 x ↔ x ∈ g := fun x => reach_L.trans (part_reach hg X.i0).symm
  have hoth : ∀ g' ∈ pre, ∀ x ∈ g', x ∉ g := fun g' hg' x hx hx' => split_other hp hx' g' (List.mem_append_left _ hg') hx
  have W := euler h.ready (fun n hn hv hr => by
    obtain ⟨g', h1, h2⟩ := h.used n hn hv
    exact hoth g' h1 _ h2 ((hR _).mp hr)) ((hR z).mpr X.iz) fun x hx => X.par x ((hR x).mp hx)
  generalize hres (lL tiles) (hstart a.S a.U m0) = r at *
  have hall : ∀ n, n ∈ nums r.row ↔ isNum (lL tiles) n = true ∧ (tileAt (lL tiles) n).1 ∈ g := fun n => by rw [W.all, hR]
  have hends : ∀ st ∈ r.row, (faceOf (lL tiles) st).1 ∈ g ∧ (faceOf (lL tiles) st).2 ∈ g := fun st hst => by
    obtain ⟨q1, q2⟩ := (hall st.1).mp (List.mem_map.mpr ⟨st, hst, rfl⟩)
    have q3 : (tileAt (lL tiles) st.1).2 ∈ g := (hR _).mp (((hR _).mpr q2).step (tile_adj q1))
    unfold faceOf
    cases st.2
    · exact ⟨q2, q3⟩
    · exact ⟨q3, q2⟩
  have hag : ∀ st : Stp, st.1 < (tiles.length : Int) → isNum (lL tiles) st.1 = true → faceOf (lL tiles) st = faceOf tiles st := fun st h1 h2 => (face_low h1 h2).2
  have hbr : ∀ st ∈ r.row, (tiles.length : Int) ≤ st.1 → isNum (brs tiles) (st.1 - tiles.length) = true ∧ tileAt (lL tiles) st.1 = tileAt (brs tiles) (st.1 - tiles.length) := fun st hst h1 => num_high (W.val st hst) h1
  have hrne : r.row ≠ [] := fun e => by
    obtain ⟨t, ht, ht2⟩ := mem_lmarks.mp (part_mark hg X.i0)
    obtain ⟨n, n1, n2⟩ := in_tile ht
    obtain ⟨l1, l2⟩ := num_low (M := brs tiles) n1
    have : n ∈ nums r.row := (hall n).mpr ⟨l1, by
      show (tileAt (tiles ++ brs tiles) n).1 ∈ g
      rw [l2, n2]
      rcases ht2 with q | q
      · rw [q]
        exact X.i0
      · refine (part_reach hg X.i0).mpr (Reach.one ?_)
        have : Adj tiles t.1 t.2 := .inl ht
        rw [q] at this
        exact this.symm⟩
    rw [e] at this
    cases this
  have hok : okB (tiles.length : Int) true r.row := ok_walk W.walk W.nodup (fun _ => ⟨hrne, fun st hst h1 e => ?_⟩) (fun st hst h1 e => ?_) fun s1 m1 s2 m2 h1 h2 hne e => ?_
  rotate_left
  · obtain ⟨q1, q2⟩ := hbr st hst h1
    have w1 := wt_left (T := lL tiles) (st := st) (x := m0) (.inl e)
    rw [q2] at w1
    have w2 := deg_one (x := m0) q1
    have := X.b0
    omega
  · obtain ⟨q1, q2⟩ := hbr st hst h1
    have w1 := wt_left (T := lL tiles) (st := st) (x := z) (.inr e)
    rw [q2] at w1
    have w2 := deg_one (x := z) q1
    have := X.bz
    omega
  · obtain ⟨q1, q2⟩ := hbr s1 m1 h1
    obtain ⟨q3, q4⟩ := hbr s2 m2 h2
    have w1 := wt_left (T := lL tiles) (st := s1) (x := (faceOf (lL tiles) s1).2) (.inr rfl)
    have w2 := wt_left (T := lL tiles) (st := s2) (x := (faceOf (lL tiles) s1).2) (.inl e.symm)
    rw [q2] at w1
    rw [q4] at w2
    have w3 := deg_two (x := (faceOf (lL tiles) s1).2) q1 q3 (by omega)
    have := X.b1 _ (hends s1 m1).2
    omega
  obtain ⟨l, ls, e, hl, hls⟩ := splitF_walk (many := (tiles.length : Int)) hag W.walk W.val
  obtain ⟨f1, f2⟩ := okB_full hok e
  have hflat := splitF_flat (tiles.length : Int) r.row
  have hnum : (splitF (tiles.length : Int) r.row).flatMap nums = nums (r.row.filter fun st => decide (st.1 < (tiles.length : Int))) := by rw [nums_flat, hflat]
  have hmem : ∀ n, n ∈ nums (r.row.filter fun st => decide (st.1 < (tiles.length : Int))) ↔ isNum tiles n = true ∧ (tileAt tiles n).1 ∈ g := fun n => by
    constructor
    · intro hn
      obtain ⟨st, hst, e1⟩ := List.mem_map.mp hn
      obtain ⟨s1, s2⟩ := List.mem_filter.mp hst
      have s2 := of_decide_eq_true s2
      obtain ⟨q1, q2⟩ := (hall st.1).mp (List.mem_map.mpr ⟨st, s1, rfl⟩)
      have q3 : isNum tiles st.1 = true := isNum_iff.mpr ⟨(isNum_iff.mp q1).1, s2⟩
      have q4 := (num_low (M := brs tiles) q3).2
      rw [lL_is, q4] at q2
      rw [← e1]
      exact ⟨q3, q2⟩
    · rintro ⟨h1, h2⟩
      obtain ⟨l1, l2⟩ := num_low (M := brs tiles) h1
      have : n ∈ nums r.row := (hall n).mpr ⟨l1, by show (tileAt (tiles ++ brs tiles) n).1 ∈ g; rw [l2]; exact h2⟩
      obtain ⟨st, hst, e1⟩ := List.mem_map.mp this
      refine List.mem_map.mpr ⟨st, List.mem_filter.mpr ⟨hst, decide_eq_true ?_⟩, e1⟩
      rw [e1]
      exact (isNum_iff.mp h1).2
  have hcount : (r.row.filter fun st => !decide (st.1 < (tiles.length : Int))).length = (lpairs (lodd (lodds tiles) g)).length := by
    have n1 : (nums (r.row.filter fun st => !decide (st.1 < (tiles.length : Int)))).Nodup := W.nodup.sublist (List.filter_sublist.map _)
    have n2 : (((enumA (brs tiles)).filter fun p => decide (p.2.1 ∈ g)).map fun p => p.1 + (tiles.length : Int)).Nodup := by
      have := (enumA_nodup (brs tiles)).sublist ((List.filter_sublist (p := fun p : Int × (Int × Int) => decide (p.2.1 ∈ g))).map _)
      have e1 : (((enumA (brs tiles)).filter fun p => decide (p.2.1 ∈ g)).map fun p => p.1 + (tiles.length : Int)) = (((enumA (brs tiles)).filter fun p => decide (p.2.1 ∈ g)).map (·.1)).map (· + (tiles.length : Int)) := by rw [List.map_map]; rfl
      rw [e1]
      exact List.Pairwise.map _ (fun a b (h : a ≠ b) (e : a + (tiles.length : Int) = b + (tiles.length : Int)) => h (by omega)) this
    have pm := (List.perm_ext_iff_of_nodup n1 n2).mpr fun n => by
      constructor
      · intro hn
        obtain ⟨st, hst, e1⟩ := List.mem_map.mp hn
        obtain ⟨s1, s2⟩ := List.mem_filter.mp hst
        have s3 : (tiles.length : Int) ≤ st.1 := by
          cases hd : decide (st.1 < (tiles.length : Int)) with
          | true => rw [hd] at s2; cases s2
          | false => have := of_decide_eq_false hd; omega
        obtain ⟨q1, q2⟩ := hbr st s1 s3
        have q3 := ((hall st.1).mp (List.mem_map.mpr ⟨st, s1, rfl⟩)).2
        rw [q2] at q3
        refine List.mem_map.mpr ⟨_, List.mem_filter.mpr ⟨tile_mem q1, decide_eq_true q3⟩, ?_⟩
        rw [← e1]
        show st.1 - (tiles.length : Int) + (tiles.length : Int) = st.1
        omega
      · intro hn
        obtain ⟨p, hpm, e1⟩ := List.mem_map.mp hn
        obtain ⟨s1, s2⟩ := List.mem_filter.mp hpm
        have s2 := of_decide_eq_true s2
        obtain ⟨q1, q2⟩ := enumA_tile s1
        obtain ⟨l1, l2⟩ := num_shift (T := tiles) q1
        have hin : p.1 + (tiles.length : Int) ∈ nums r.row := (hall _).mpr ⟨l1, by show (tileAt (tiles ++ brs tiles) _).1 ∈ g; rw [l2, q2]; exact s2⟩
        obtain ⟨st, hst, e2⟩ := List.mem_map.mp hin
        refine List.mem_map.mpr ⟨st, List.mem_filter.mpr ⟨hst, ?_⟩, by rw [← e1]; exact e2⟩
        have e2 : st.1 = p.1 + (tiles.length : Int) := e2
        have := (isNum_iff.mp q1).1
        rw [decide_eq_false (by omega)]
        rfl
    have hl := pm.length_eq
    unfold nums at hl
    rw [List.length_map, List.length_map] at hl
    rw [hl, ← brs_filter hp]
    have e2 : (enumA (brs tiles)).map (·.2) = brs tiles := by
      unfold enumA
      rw [List.map_map]
      have e3 : ((fun p : Int × (Int × Int) => p.2) ∘ fun p : (Int × Int) × Nat => (((p.2 : Nat) : Int), p.1)) = Prod.fst := rfl
      rw [e3, List.zipIdx_map_fst]
    have e4 := congrArg (fun l => (List.filter (fun t : Int × Int => decide (t.1 ∈ g)) l).length) e2
    rw [List.filter_map, List.length_map] at e4
    rw [← e4]
    rfl
  refine ⟨W.ready, fun n hn hv => ?_, fun r' hr' => ?_, ?_, fun n => ?_, ?_⟩
  · rcases (W.used n).mp hn with q | q
    · obtain ⟨g', a1, a2⟩ := h.used n q hv
      exact ⟨g', List.mem_append_left _ a1, a2⟩
    · exact ⟨g, by simp, ((hall n).mp q).2⟩
  · rw [lsplit_F] at hr'
    rcases List.mem_append.mp hr' with q | q
    · exact h.rows r' q
    · have hval : ∀ st ∈ r', isNum tiles st.1 = true := fun st hst => by
        have : st ∈ (splitF (tiles.length : Int) r.row).flatten := List.mem_flatten.mpr ⟨r', q, hst⟩
        rw [hflat] at this
        obtain ⟨s1, s2⟩ := List.mem_filter.mp this
        exact isNum_iff.mpr ⟨(isNum_iff.mp (W.val st s1)).1, of_decide_eq_true s2⟩
      rw [e] at q
      rcases List.mem_cons.mp q with q | q
      · rw [q] at hval ⊢
        exact ⟨f1 rfl, hval, _, hl⟩
      · exact ⟨f2 r' q, hval, hls r' q⟩
  · show ((a.rows ++ lsplit (tiles.length : Int) r.row).flatMap nums).Nodup
    rw [lsplit_F, List.flatMap_append, hnum]
    refine List.nodup_append.mpr ⟨h.nodup, W.nodup.sublist (List.filter_sublist.map _), fun x hx y hy exy => ?_⟩
    subst exy
    obtain ⟨_, g', a1, a2⟩ := (h.all x).mp hx
    exact hoth g' a1 _ a2 ((hmem x).mp hy).2
  · show n ∈ (a.rows ++ lsplit (tiles.length : Int) r.row).flatMap nums ↔ _
    rw [lsplit_F, List.flatMap_append, hnum, List.mem_append, h.all, hmem]
    constructor
    · rintro (⟨a1, g', a2, a3⟩ | ⟨a1, a2⟩)
      · exact ⟨a1, g', List.mem_append_left _ a2, a3⟩
      · exact ⟨a1, g, by simp, a2⟩
    · rintro ⟨a1, g', a2, a3⟩
      rcases List.mem_append.mp a2 with q | q
      · exact .inl ⟨a1, g', q, a3⟩
      · rw [List.mem_singleton.mp q] at a3
        exact .inr ⟨a1, a3⟩
  · show (a.rows ++ lsplit (tiles.length : Int) r.row).length = _
    rw [lsplit_F, List.length_append, h.len, splitF_len, hcount, lpairs_count (lodd_ev hg), List.map_append, List.sum_append]
    rfl
theorem few_all {tiles : Tls} : ∀ (post pre : List (List Int)), lparts tiles = pre ++ post → FInv tiles pre (lfs tiles pre) → FInv tiles (lparts tiles) (lfs tiles (lparts tiles))
  | [], pre, hp, h => by
    rw [List.append_nil] at hp
    rw [hp]
    exact h
  | g :: post, pre, hp, h => by
    refine few_all post (pre ++ [g]) (by rw [hp, List.append_assoc]; rfl) ?_
    have e : lfs tiles (pre ++ [g]) = lfew1 (lL tiles) (tiles.length : Int) (lodds tiles) (lfs tiles pre) g := by
      unfold lfs
      rw [List.foldl_append]
      rfl
    rw [e]
    exact few_step hp h
/-- what fewest tells -/
structure FewOk (tiles : Tls) (rows : List (List Stp)) : Prop where
  ok : ∀ r ∈ rows, r ≠ [] ∧ (∀ st ∈ r, isNum tiles st.1 = true) ∧ ∃ x y, WalkT tiles x r y
  all : (rows.flatMap nums).Perm ((List.range tiles.length).map fun i => ((i : Nat) : Int))
  len : rows.length = ((lparts tiles).map fun g => max 1 ((lodd (lodds tiles) g).length / 2)).sum
theorem fewest_ok (tiles : Tls) : FewOk tiles (lfewest tiles) := by
  have h0 : FInv tiles [] (lfs tiles []) := by
    refine ⟨lleave_ready fun st => mem_lboth, (fun n hn => by cases hn), (fun r hr => by cases hr), List.nodup_nil, fun n => ⟨fun h => (by cases h), fun ⟨_, g, hg, _⟩ => by cases hg⟩, rfl⟩
  have h := few_all (lparts tiles) [] rfl h0
  refine ⟨h.rows, (List.perm_ext_iff_of_nodup h.nodup (int_range_nodup _)).mpr fun n => ?_, h.len⟩
  rw [h.all, isNum_iff, List.mem_map]
  constructor
  · rintro ⟨⟨a, b⟩, _⟩
    exact ⟨n.toNat, List.mem_range.mpr (by omega), by omega⟩
  · rintro ⟨i, hi, e⟩
    have := List.mem_range.mp hi
    have hn : isNum tiles n = true := isNum_iff.mpr (by omega)
    obtain ⟨g, g1, g2⟩ := part_of (mem_lmarks.mpr ⟨_, tile_in hn, .inl rfl⟩)
    exact ⟨by omega, g, g1, g2⟩
end TC
/-! what a law draws; how many rows its tiles want at least -/
namespace TC
section
open PySem PySem.Spec L2
abbrev Part := T3 Int Int Bool
def noPart : Part := ⟨0, 0, false⟩
theorem getD_at {l : List Int} {k : Nat} (h : k < l.length) : atI l (k : Int) = some (l.getD k 0) := by
  rw [List.getD_eq_getElem?_getD, List.getElem?_eq_getElem h]
  exact atI_nat (List.getElem?_eq_getElem h)
def partAt (parts : List Part) (k : Int) : Part := parts.getD k.toNat noPart
theorem partAt_at {parts : List Part} {k : Int} (h1 : 0 ≤ k) (h2 : k < (parts.length : Int)) : atI parts k = some (partAt parts k) := by
  obtain ⟨n, rfl⟩ := Int.eq_ofNat_of_zero_le h1
  have h3 : n < parts.length := by omega
  unfold partAt
  rw [Int.toNat_natCast, List.getD_eq_getElem?_getD, List.getElem?_eq_getElem h3]
  exact atI_nat (List.getElem?_eq_getElem h3)
def ltile (p : Part) : Int × Int := if p.c = true then (p.b, p.a) else (p.a, p.b)
theorem partAt_mem {parts : List Part} {k : Int} (h1 : 0 ≤ k) (h2 : k < (parts.length : Int)) : partAt parts k ∈ parts := by
  have h3 : k.toNat < parts.length := by omega
  unfold partAt
  rw [List.getD_eq_getElem?_getD, List.getElem?_eq_getElem h3]
  exact List.getElem_mem h3
def lkey (nums : List Int) (size way k : Int) : Int :=
  if way % 4 = 3 then -k else if way % 4 = 2 then (k + way / 4) % size else nums.getD k.toNat 0 * 69621 % 2147483629
def lkeyP (nums : List Int) (size : Nat) (way : Int) (k : Nat) : Int × Int := (lkey nums size way k, (k : Int))
/-- the order in which a law hands the tiles in -/
def lorder (nums : List Int) (size : Nat) (way : Int) : List Int := (sortP ((List.range size).map (lkeyP nums size way))).map (·.2)
theorem lorder_perm (nums : List Int) (size : Nat) (way : Int) : (lorder nums size way).Perm ((List.range size).map fun i => ((i : Nat) : Int)) := by
  have h := (sortP_perm ((List.range size).map (lkeyP nums size way))).map (·.2)
  rw [List.map_map] at h
  exact h
theorem lorder_len (nums : List Int) (size : Nat) (way : Int) : (lorder nums size way).length = size := by
  rw [(lorder_perm nums size way).length_eq, List.length_map, List.length_range]
theorem mem_lorder {nums : List Int} {size : Nat} {way k : Int} : k ∈ lorder nums size way ↔ 0 ≤ k ∧ k < (size : Int) := by
  rw [(lorder_perm nums size way).mem_iff, List.mem_map]
  constructor
  · rintro ⟨i, h1, h2⟩
    have := List.mem_range.mp h1
    omega
  · rintro ⟨h1, h2⟩
    exact ⟨k.toNat, List.mem_range.mpr (by omega), by omega⟩
theorem lorder_nodup (nums : List Int) (size : Nat) (way : Int) : (lorder nums size way).Nodup := by
  refine (lorder_perm nums size way).nodup_iff.mpr ?_
  exact List.Pairwise.map _ (fun a b (h : a ≠ b) (e : (a : Int) = (b : Int)) => h (by omega)) List.nodup_range
def ltiles (parts : List Part) (order : List Int) : List (Int × Int) := order.map fun k => ltile (partAt parts k)
theorem ltiles_few {parts : List Part} {order names : List Int} (h1 : order.length ≤ 1000) (h2 : names.length < 64) (h3 : ∀ k ∈ order, 0 ≤ k ∧ k < (parts.length : Int)) (h4 : ∀ p ∈ parts, p.a ∈ names ∧ p.b ∈ names) : Few (ltiles parts order) := by
  refine ⟨by unfold ltiles; rw [List.length_map]; exact h1, names, h2, fun t ht => ?_⟩
  obtain ⟨k, hk, e⟩ := List.mem_map.mp ht
  obtain ⟨a, b⟩ := h4 _ (partAt_mem (h3 k hk).1 (h3 k hk).2)
  rw [← e]
  unfold ltile
  split
  · exact ⟨b, a⟩
  · exact ⟨a, b⟩
end
theorem ltiles_perm {parts : List Part} {order : List Int} (h : order.Perm ((List.range parts.length).map fun i => ((i : Nat) : Int))) : (ltiles parts order).Perm (parts.map ltile) := by
  unfold ltiles
  refine (h.map _).trans ?_
  rw [List.map_map]
  have e : (List.range parts.length).map ((fun k => ltile (partAt parts k)) ∘ fun i => ((i : Nat) : Int)) = parts.map ltile := by
    refine List.ext_getElem? fun i => ?_
    rw [List.getElem?_map, List.getElem?_map]
    cases hi : parts[i]? with
    | none => rw [List.getElem?_eq_none (by rw [List.length_range]; exact List.getElem?_eq_none_iff.mp hi)]; rfl
    | some p =>
      have hl := (List.getElem?_eq_some_iff.mp hi).1
      rw [List.getElem?_range hl]
      show some (ltile (partAt parts (i : Int))) = some (ltile p)
      unfold partAt
      rw [Int.toNat_natCast, List.getD_eq_getElem?_getD, hi]
      rfl
  rw [e]
theorem deg_perm {T T' : Tls} (h : T.Perm T') (x : Int) : deg T x = deg T' x := by
  induction h with
  | nil => rfl
  | cons t _ ih => rw [deg_cons, deg_cons, ih]
  | swap t u l =>
    rw [deg_cons, deg_cons, deg_cons, deg_cons]
    exact Int.add_left_comm _ _ _
  | trans _ _ ih1 ih2 => exact ih1.trans ih2
theorem wt_ltile (p : Part) (x : Int) : wt (ltile p) x = b2i (decide (p.a = x)) + b2i (decide (p.b = x)) := by
  unfold wt ltile
  cases p.c
  · rfl
  · exact Int.add_comm (b2i (decide (p.b = x))) (b2i (decide (p.a = x)))
/-! chains -/
def ChainP : Int → List Part → Int → Prop
  | a, [], b => a = b
  | a, p :: r, b => p.a = a ∧ ChainP p.b r b
theorem chain_snoc : ∀ {l : List Part} {a b : Int} {p : Part}, ChainP a l b → p.a = b → ChainP a (l ++ [p]) p.b
  | [], a, b, p, h, e => ⟨e.trans (show a = b from h).symm, rfl⟩
  | q :: l, a, b, p, h, e => ⟨h.1, chain_snoc h.2 e⟩
theorem chain_deg {x : Int} : ∀ {l : List Part} {a b : Int}, ChainP a l b → deg (l.map ltile) x % 2 = (b2i (decide (x = a)) + b2i (decide (x = b))) % 2
  | [], a, b, h => by
    have h : a = b := h
    subst h
    have b1 := b2i_01 (decide (x = a))
    show (0 : Int) % 2 = _
    omega
  | p :: l, a, b, h => by
    have ih := chain_deg (x := x) h.2
    have e : deg ((p :: l).map ltile) x = wt (ltile p) x + deg (l.map ltile) x := by
      rw [List.map_cons, deg_cons]
      rfl
    rw [e, wt_ltile, h.1, dec_symm (x := a), dec_symm (x := p.b)]
    have b1 := b2i_01 (decide (x = a))
    have b2 := b2i_01 (decide (x = b))
    have b3 := b2i_01 (decide (x = p.b))
    omega
def segA (s : List Part) : Int := (s.headD noPart).a
theorem segA_is {a b : Int} {s : List Part} (h : ChainP a s b) (hn : s ≠ []) : segA s = a := by
  cases s with
  | nil => exact absurd rfl hn
  | cons p l => exact h.1
theorem adj_part {T : Tls} {parts : List Part} (h : T.Perm (parts.map ltile)) {p : Part} (hp : p ∈ parts) : Adj T p.a p.b := by
  have : ltile p ∈ T := h.mem_iff.mpr (List.mem_map.mpr ⟨p, hp, rfl⟩)
  unfold ltile at this
  cases hc : p.c
  · rw [hc] at this
    exact .inl this
  · rw [hc] at this
    exact .inr this
theorem chain_reach {T : Tls} : ∀ {l : List Part} {a b : Int}, ChainP a l b → (∀ p ∈ l, Adj T p.a p.b) → Reach T a b ∧ ∀ p ∈ l, Reach T a p.a
  | [], a, b, h, _ => ⟨by rw [show a = b from h]; exact .refl, fun p hp => by cases hp⟩
  | q :: l, a, b, h, hA => by
    obtain ⟨h1, h2⟩ := h
    obtain ⟨r1, r2⟩ := chain_reach h2 fun p hp => hA p (List.mem_cons_of_mem _ hp)
    have e := hA q List.mem_cons_self
    rw [h1] at e
    have r0 : Reach T a q.b := Reach.one e
    refine ⟨r0.trans r1, fun p hp => ?_⟩
    rcases List.mem_cons.mp hp with q1 | q1
    · rw [q1, h1]
      exact .refl
    · exact r0.trans (r2 p q1)
theorem odd_seg {x : Int} : ∀ {segs : List (List Part)}, deg (segs.flatten.map ltile) x % 2 = 1 → ∃ s ∈ segs, deg (s.map ltile) x % 2 = 1
  | [], h => absurd h (by show ¬ ((0 : Int) % 2 = 1); decide)
  | s :: segs, h => by
    rw [List.flatten_cons, List.map_append, deg_app] at h
    by_cases c : deg (s.map ltile) x % 2 = 1
    · exact ⟨s, List.mem_cons_self, c⟩
    · obtain ⟨s', h1, h2⟩ := odd_seg (x := x) (segs := segs) (by omega)
      exact ⟨s', List.mem_cons_of_mem _ h1, h2⟩
theorem one_part {x : Int} : ∀ {gs : List (List Int)}, gs.Nodup → (∀ g ∈ gs, ∀ g' ∈ gs, x ∈ g → x ∈ g' → g = g') → (gs.map fun g => if x ∈ g then 1 else 0).sum ≤ 1
  | [], _, _ => Nat.zero_le _
  | g :: gs, hn, hd => by
    obtain ⟨n1, n2⟩ := List.nodup_cons.mp hn
    have ih := one_part n2 fun a ha b hb => hd a (List.mem_cons_of_mem _ ha) b (List.mem_cons_of_mem _ hb)
    rw [List.map_cons, List.sum_cons]
    by_cases c : x ∈ g
    · have z : (gs.map fun g => if x ∈ g then 1 else 0) = gs.map fun _ => 0 := List.map_congr_left fun g' hg' => if_neg fun hx => n1 (by rw [hd g List.mem_cons_self g' (List.mem_cons_of_mem _ hg') c hx]; exact hg')
      have z2 : ∀ l : List (List Int), (l.map fun _ => 0).sum = 0 := fun l => by
        induction l with
        | nil => rfl
        | cons a l ih => rw [List.map_cons, List.sum_cons, ih]
      rw [z, z2, if_pos c]
      omega
    · rw [if_neg c]
      omega
theorem sum_mono {α : Type} {f g : α → Nat} : ∀ {l : List α}, (∀ y ∈ l, f y ≤ g y) → (l.map f).sum ≤ (l.map g).sum
  | [], _ => Nat.le_refl _
  | y :: l, h => by
    have h1 := h y List.mem_cons_self
    have h2 := sum_mono (l := l) fun z hz => h z (List.mem_cons_of_mem _ hz)
    rw [List.map_cons, List.map_cons, List.sum_cons, List.sum_cons]
    omega
theorem sum_addN {α : Type} {f g : α → Nat} : ∀ {l : List α}, (l.map fun y => f y + g y).sum = (l.map f).sum + (l.map g).sum
  | [] => rfl
  | y :: l => by
    rw [List.map_cons, List.map_cons, List.map_cons, List.sum_cons, List.sum_cons, List.sum_cons, sum_addN]
    omega
theorem segs_sum {gs : List (List Int)} (hn : gs.Nodup) (hd : ∀ x, ∀ g ∈ gs, ∀ g' ∈ gs, x ∈ g → x ∈ g' → g = g') : ∀ segs : List (List Part), (gs.map fun g => (segs.filter fun s => decide (segA s ∈ g)).length).sum ≤ segs.length
  | [] => by
    have z2 : ∀ l : List (List Int), (l.map fun g => (([] : List (List Part)).filter fun s => decide (segA s ∈ g)).length).sum = 0 := fun l => by
      induction l with
      | nil => rfl
      | cons a l ih => rw [List.map_cons, List.sum_cons, ih]; rfl
    rw [z2]
    exact Nat.zero_le _
  | s :: segs => by
    have ih := segs_sum hn hd segs
    have e : (gs.map fun g => ((s :: segs).filter fun s => decide (segA s ∈ g)).length) = gs.map fun g => (if segA s ∈ g then 1 else 0) + (segs.filter fun s => decide (segA s ∈ g)).length := by
      refine List.map_congr_left fun g _ => ?_
      rw [List.filter_cons]
      by_cases c : segA s ∈ g
      · rw [if_pos (decide_eq_true c), if_pos c, List.length_cons]
        omega
      · rw [if_neg (by simpa using c), if_neg c]
        omega
    have := one_part (x := segA s) hn (hd (segA s))
    rw [e, sum_addN, List.length_cons]
    omega
/-- a law's rows are no fewer than the parts want -/
theorem rows_bound {tiles : Tls} {parts : List Part} {segs : List (List Part)} (hperm : tiles.Perm (parts.map ltile)) (hfl : parts = segs.flatten) (hch : ∀ s ∈ segs, s ≠ [] ∧ ∃ a b, ChainP a s b) :
    ((lparts tiles).map fun g => max 1 ((lodd (lodds tiles) g).length / 2)).sum ≤ segs.length := by
  refine Nat.le_trans (sum_mono fun g hg => ?_) (segs_sum (parts_nodup tiles) (fun x g hg g' hg' a b => part_one hg hg' a b) segs)
  have hA : ∀ p ∈ parts, Adj tiles p.a p.b := fun p hp => adj_part hperm hp
  have hsub : ∀ s ∈ segs, ∀ p ∈ s, p ∈ parts := fun s hs p hp => by rw [hfl]; exact List.mem_flatten.mpr ⟨s, hs, hp⟩
  have h1 : 1 ≤ (segs.filter fun s => decide (segA s ∈ g)).length := by
    obtain ⟨L, _, _, hL⟩ := part_form hg
    obtain ⟨t, ht, ht2⟩ := mem_lmarks.mp (part_mark hg hL)
    obtain ⟨p, hp, e⟩ := List.mem_map.mp (hperm.mem_iff.mp ht)
    have hpp := hp
    rw [hfl] at hpp
    obtain ⟨s, hs, hps⟩ := List.mem_flatten.mp hpp
    obtain ⟨hne, a, b, hc⟩ := hch s hs
    obtain ⟨_, r2⟩ := chain_reach hc fun q hq => hA q (hsub s hs q hq)
    have ra := r2 p hps
    have rL : Reach tiles L p.a := by
      have adj := hA p hp
      rw [← e] at ht2
      unfold ltile at ht2
      cases hcc : p.c
      · rw [hcc] at ht2
        rcases ht2 with q | q
        · rw [← q]; exact .refl
        · rw [← q]; exact Reach.one adj.symm
      · rw [hcc] at ht2
        rcases ht2 with q | q
        · rw [← q]; exact Reach.one adj.symm
        · rw [← q]; exact .refl
    have hin : segA s ∈ g := by
      rw [segA_is hc hne]
      exact (part_reach hg hL).mpr (rL.trans ra.symm)
    exact List.length_pos_of_mem (List.mem_filter.mpr ⟨hs, decide_eq_true hin⟩)
  have h2 : (lodd (lodds tiles) g).length ≤ 2 * (segs.filter fun s => decide (segA s ∈ g)).length := by
    -- the ends of the rows of this part
    have hex : ∀ s : List Part, ∃ b, s ∈ segs → ChainP (segA s) s b := fun s => by
      by_cases hs : s ∈ segs
      · obtain ⟨hne, a, b, hc⟩ := hch s hs
        exact ⟨b, fun _ => by rw [segA_is hc hne]; exact hc⟩
      · exact ⟨0, fun z => absurd z hs⟩
    obtain ⟨sb, hsb⟩ := Classical.axiomOfChoice hex
    have hlen : ∀ l : List (List Part), (l.flatMap fun s => [segA s, sb s]).length = 2 * l.length := fun l => by
      induction l with
      | nil => rfl
      | cons s l ih =>
        rw [List.flatMap_cons, List.length_append, ih, List.length_cons]
        show 2 + 2 * l.length = 2 * (l.length + 1)
        omega
    rw [← hlen]
    refine nodup_len (lodd_nd hg) fun x hx => ?_
    have hxg := lodd_sub hx
    have hodd := (mem_lodd hg hxg).mp hx
    rw [deg_perm hperm, hfl] at hodd
    obtain ⟨s, hs, hs1⟩ := odd_seg hodd
    have hc := hsb s hs
    have hd := chain_deg (x := x) hc
    rw [hs1] at hd
    obtain ⟨r1, _⟩ := chain_reach hc fun q hq => hA q (hsub s hs q hq)
    have hxe : x = segA s ∨ x = sb s := by
      refine Classical.byContradiction fun z => ?_
      rw [not_or] at z
      rw [decide_eq_false z.1, decide_eq_false z.2] at hd
      exact absurd hd (by decide)
    have hin : segA s ∈ g := by
      rcases hxe with e | e
      · rw [← e]; exact hxg
      · rw [e] at hxg
        exact (part_reach hg hxg).mpr r1.symm
    refine List.mem_flatMap.mpr ⟨s, List.mem_filter.mpr ⟨hs, decide_eq_true hin⟩, ?_⟩
    rcases hxe with e | e <;> rw [e] <;> simp
  show max 1 _ ≤ _
  omega
/-- a row of all tiles -/
structure RowOf (tiles : Tls) (r : List Stp) (a b : Int) : Prop where
  val : ∀ st ∈ r, isNum tiles st.1 = true
  walk : WalkT tiles a r b
  all : (nums r).Perm ((List.range tiles.length).map fun i => ((i : Nat) : Int))
theorem RowOf.len {tiles : Tls} {r : List Stp} {a b : Int} (h : RowOf tiles r a b) : r.length = tiles.length := by
  have := h.all.length_eq
  unfold nums at this
  rw [List.length_map, List.length_map, List.length_range] at this
  exact this
theorem range_sorted (n : Nat) : ((List.range n).map fun i => ((i : Nat) : Int)).Pairwise (· ≤ ·) := by
  rw [List.pairwise_map]
  exact List.pairwise_lt_range.imp fun {a b} (h : a < b) => by omega
theorem RowOf.sort {tiles : Tls} {r : List Stp} {a b : Int} (h : RowOf tiles r a b) : sortI (nums r) = (List.range tiles.length).map fun i => ((i : Nat) : Int) :=
  (sortI_uniq h.all.symm (range_sorted _)).symm
theorem fewest_one {tiles : List (Int × Int)} (h1 : (lparts tiles).length ≤ 1) (h2 : (lodds tiles).length ≤ 2) : ∃ a b, RowOf tiles ((lfewest tiles).headD []) a b ∧ (lodds tiles = [] → a = b) := by
  have hflat := lparts_flat tiles
  cases hp : lparts tiles with
  | nil =>
    rw [hp] at hflat
    have hm : lmarks tiles = [] := hflat.symm.eq_nil
    have ht : tiles = [] := by
      cases tiles with
      | nil => rfl
      | cons t l =>
        have : t.1 ∈ lmarks (t :: l) := mem_lmarks.mpr ⟨t, List.mem_cons_self, .inl rfl⟩
        rw [hm] at this
        cases this
    have e : lfewest tiles = [] := by
      unfold lfewest lfs
      rw [hp]
      rfl
    rw [e]
    subst ht
    exact ⟨0, 0, ⟨fun st h => (by cases h), rfl, List.Perm.refl _⟩, fun _ => rfl⟩
  | cons g gs =>
    have hgs : gs = [] := by
      rw [hp, List.length_cons] at h1
      exact List.length_eq_zero_iff.mp (by omega)
    subst hgs
    have hg : g ∈ lparts tiles := by rw [hp]; exact List.mem_cons_self
    obtain ⟨L0, hL0, e0⟩ := List.mem_map.mp hg
    subst e0
    obtain ⟨hm0, _⟩ := mem_lfirsts.mp hL0
    rw [hp, List.flatten_cons, List.flatten_nil, List.append_nil] at hflat
    have hall : ∀ x, x ∈ lmarks tiles → Reach tiles L0 x := fun x hx => (mem_lreach.mp (hflat.mem_iff.mpr hx)).2
    have heo : lodd (lodds tiles) (lreach tiles L0) = lodds tiles := by
      have e : lreach tiles L0 = lmarks tiles := lt_eq (lreach_lt _ _) (lmarks_lt _) fun x => hflat.mem_iff
      rw [lodd_is, e]
      rfl
    have hev := lodd_even tiles L0
    have hlt := lodd_lt tiles L0
    have hL : lL tiles = tiles := by
      unfold lL lbr
      rw [hp, List.flatMap_cons, List.flatMap_nil, heo, lpairs_short (by omega), List.append_nil]
      exact List.append_nil _
    have hready : Ready tiles (lleave tiles (lboth tiles)) [] := lleave_ready fun st => mem_lboth
    have hm00 : lstart (lodds tiles) (lreach tiles L0) ∈ lmarks tiles := by
      unfold lstart
      cases h : lodd (lodds tiles) (lreach tiles L0) ++ lreach tiles L0 with
      | nil =>
        have := lreach_self hm0
        rw [(List.append_eq_nil_iff.mp h).2] at this
        cases this
      | cons x l =>
        have hx : x ∈ lodd (lodds tiles) (lreach tiles L0) ++ lreach tiles L0 := by rw [h]; exact List.mem_cons_self
        show x ∈ lmarks tiles
        rcases List.mem_append.mp hx with a | a
        · exact hflat.mem_iff.mp (List.mem_filter.mp a).1
        · exact hflat.mem_iff.mp a
    have hreach : ∀ x, x ∈ lmarks tiles → Reach tiles (lstart (lodds tiles) (lreach tiles L0)) x := fun x hx => (hall _ hm00).symm.trans (hall x hx)
    have hz : ∃ z, Reach tiles (lstart (lodds tiles) (lreach tiles L0)) z ∧ (∀ x, Reach tiles (lstart (lodds tiles) (lreach tiles L0)) x → deg tiles x % 2 = (b2i (decide (x = lstart (lodds tiles) (lreach tiles L0))) + b2i (decide (x = z))) % 2) ∧ (lodds tiles = [] → lstart (lodds tiles) (lreach tiles L0) = z) := by
      have hdeg : ∀ x, Reach tiles (lstart (lodds tiles) (lreach tiles L0)) x → (deg tiles x % 2 = 1 ↔ x ∈ lodds tiles) := fun x hx => by
        rw [mem_lodds]
        exact ⟨fun h => ⟨hx.mark hm00, h⟩, fun h => h.2⟩
      rw [heo] at hev hlt
      cases ho : lodds tiles with
      | nil =>
        rw [ho] at hdeg
        refine ⟨lstart [] (lreach tiles L0), .refl, fun x hx => ?_, fun _ => rfl⟩
        have h3 : ¬ deg tiles x % 2 = 1 := fun h => by
          have := (hdeg x hx).mp h
          cases this
        have b1 := b2i_01 (decide (x = lstart [] (lreach tiles L0)))
        omega
      | cons p l =>
        rw [ho] at hev hlt h2 hdeg
        cases l with
        | nil => exact absurd hev (by show ¬ (1 % 2 = 0); decide)
        | cons q l2 =>
          cases l2 with
          | cons r l3 =>
            rw [List.length_cons, List.length_cons, List.length_cons] at h2
            omega
          | nil =>
            have hs : lstart [p, q] (lreach tiles L0) = p := by
              unfold lstart
              rw [← ho, heo, ho]
              rfl
            have hq : q ∈ lmarks tiles := (mem_lodds.mp (by rw [ho]; simp)).1
            have hpq : p < q := (List.pairwise_cons.mp hlt).1 q (by simp)
            rw [ho] at hreach
            refine ⟨q, hreach q hq, fun x hx => ?_, fun h => (by cases h)⟩
            have h3 := hdeg x hx
            rw [hs]
            by_cases c1 : x = p
            · rw [c1, decide_eq_true rfl, decide_eq_false (by omega)]
              rw [c1] at h3
              exact h3.mpr (by simp)
            · by_cases c2 : x = q
              · rw [c2, decide_eq_false (by omega), decide_eq_true rfl]
                rw [c2] at h3
                exact h3.mpr (by simp)
              · rw [decide_eq_false c1, decide_eq_false c2]
                have h4 : ¬ deg tiles x % 2 = 1 := fun h => by
                  have := h3.mp h
                  simp only [List.mem_cons, List.not_mem_nil, or_false] at this
                  exact this.elim c1 c2
                show deg tiles x % 2 = 0
                omega
    obtain ⟨z, z1, z2, z3⟩ := hz
    have W := euler hready (fun n hn => by cases hn) z1 z2
    have hrow : lfewest tiles = [(hres tiles (hstart (lleave tiles (lboth tiles)) [] (lstart (lodds tiles) (lreach tiles L0)))).row] := by
      unfold lfewest lfs
      rw [hp, hL]
      show [] ++ lsplit (tiles.length : Int) (hres tiles (hstart (lleave tiles (lboth tiles)) [] (lstart (lodds tiles) (lreach tiles L0)))).row = _
      rw [List.nil_append, lsplit_whole fun st hst => (isNum_iff.mp (W.val st hst)).2]
    rw [hrow]
    refine ⟨_, z, ⟨W.val, W.walk, (List.perm_ext_iff_of_nodup W.nodup (int_range_nodup _)).mpr fun n => ?_⟩, z3⟩
    show n ∈ nums _ ↔ _
    rw [W.all, isNum_iff, List.mem_map]
    constructor
    · rintro ⟨⟨a, b⟩, _⟩
      exact ⟨n.toNat, List.mem_range.mpr (by omega), by omega⟩
    · rintro ⟨i, hi, e⟩
      have := List.mem_range.mp hi
      have hn : isNum tiles n = true := isNum_iff.mpr (by omega)
      exact ⟨by omega, hreach _ (mem_lmarks.mpr ⟨_, tile_in hn, .inl rfl⟩)⟩
end TC
/-! rings: closed chains, the tiles that are lacking -/
namespace TC
section
open PySem PySem.Spec L2
def lisring (tiles : Tls) : Prop := (lparts tiles).length ≤ 1 ∧ lodds tiles = []
theorem chain_app : ∀ {l r : List Part} {a b c : Int}, ChainP a l c → ChainP c r b → ChainP a (l ++ r) b
  | [], r, a, b, c, h1, h2 => by rw [show a = c from h1]; exact h2
  | p :: l, r, a, b, c, h1, h2 => ⟨h1.1, chain_app h1.2 h2⟩
theorem closed_one {T : Tls} {parts : List Part} (h : T.Perm (parts.map ltile)) {a : Int} (hc : ChainP a parts a) : lisring T := by
  have hA : ∀ p ∈ parts, Adj T p.a p.b := fun p hp => adj_part h hp
  obtain ⟨_, r2⟩ := chain_reach hc hA
  have hr : ∀ x ∈ lmarks T, Reach T a x := fun x hx => by
    obtain ⟨t, ht, ht2⟩ := mem_lmarks.mp hx
    obtain ⟨p, hp, e⟩ := List.mem_map.mp (h.mem_iff.mp ht)
    have ra := r2 p hp
    have rb := ra.trans (Reach.one (hA p hp))
    rw [← e] at ht2
    unfold ltile at ht2
    cases hcc : p.c
    · rw [hcc] at ht2
      rcases ht2 with q | q
      · rw [← q]; exact ra
      · rw [← q]; exact rb
    · rw [hcc] at ht2
      rcases ht2 with q | q
      · rw [← q]; exact rb
      · rw [← q]; exact ra
  constructor
  · have hn := parts_nodup T
    have hs : ∀ g ∈ lparts T, ∀ g' ∈ lparts T, g = g' := fun g hg g' hg' => by
      obtain ⟨L, _, _, hL⟩ := part_form hg
      obtain ⟨L', _, _, hL'⟩ := part_form hg'
      have h3 : L' ∈ g := (part_reach hg hL).mpr ((hr L (part_mark hg hL)).symm.trans (hr L' (part_mark hg' hL')))
      exact part_one hg hg' h3 hL'
    cases hp : lparts T with
    | nil => exact Nat.zero_le _
    | cons g gs =>
      cases gs with
      | nil => exact Nat.le_refl _
      | cons g' gs =>
        rw [hp] at hn hs
        have := hs g (by simp) g' (by simp)
        exact absurd (by rw [this]; simp) (List.nodup_cons.mp hn).1
  · refine List.eq_nil_iff_forall_not_mem.mpr fun x hx => ?_
    have h1 := (mem_lodds.mp hx).2
    rw [deg_perm h, chain_deg hc] at h1
    have b1 := b2i_01 (decide (x = a))
    omega
/-! rows as chains -/
def stPart (T : Tls) (st : Stp) : Part := ⟨(faceOf T st).1, (faceOf T st).2, st.2⟩
theorem ltile_st (T : Tls) (st : Stp) : ltile (stPart T st) = tileAt T st.1 := by
  unfold ltile stPart faceOf
  cases h : st.2
  · rfl
  · rfl
theorem walk_chain {T : Tls} : ∀ {r : List Stp} {a b : Int}, WalkT T a r b → ChainP a (r.map (stPart T)) b
  | [], _, _, h => h
  | _ :: _, _, _, h => ⟨h.1, walk_chain h.2⟩
theorem tiles_range (T : Tls) : ((List.range T.length).map fun i => ((i : Nat) : Int)).map (tileAt T) = T := by
  rw [List.map_map]
  refine List.ext_getElem? fun i => ?_
  rw [List.getElem?_map]
  by_cases h : i < T.length
  · rw [List.getElem?_range h, List.getElem?_eq_getElem h]
    show some (tileAt T (i : Int)) = _
    unfold tileAt
    rw [Int.toNat_natCast, List.getD_eq_getElem?_getD, List.getElem?_eq_getElem h]
    rfl
  · rw [List.getElem?_eq_none (by rw [List.length_range]; omega), List.getElem?_eq_none (by omega)]
    rfl
theorem rows_perm {T : Tls} {rows : List (List Stp)} (h : (rows.flatMap nums).Perm ((List.range T.length).map fun i => ((i : Nat) : Int))) : T.Perm (rows.flatten.map fun st => tileAt T st.1) := by
  have h2 := h.map (tileAt T)
  rw [tiles_range, nums_flat] at h2
  unfold nums at h2
  rw [List.map_map] at h2
  exact h2.symm
def lend (T : Tls) (r : List Stp) : Int := (faceOf T (rlast r)).2
def lbeg (T : Tls) (r : List Stp) : Int := (faceOf T (rfirst r)).1
theorem lbeg_is {T : Tls} {r : List Stp} {a b : Int} (hn : r ≠ []) (h : WalkT T a r b) : lbeg T r = a := by
  cases r with
  | nil => exact absurd rfl hn
  | cons st l => exact h.1
theorem rlast_snoc (l : List Stp) (x : Stp) : rlast (l ++ [x]) = x := by
  unfold rlast
  rw [List.length_append, List.length_singleton, Nat.add_sub_cancel, List.getD_eq_getElem?_getD, List.getElem?_append_right (Nat.le_refl _), Nat.sub_self]
  rfl
theorem lend_is {T : Tls} {r : List Stp} {a b : Int} (hn : r ≠ []) (h : WalkT T a r b) : lend T r = b := by
  obtain ⟨l, x, rfl⟩ : ∃ l x, r = l ++ [x] := ⟨r.dropLast, r.getLast hn, (List.dropLast_concat_getLast hn).symm⟩
  obtain ⟨c, _, q⟩ := walk_app.mp h
  unfold lend
  rw [rlast_snoc]
  exact q.2
def foundL (T : Tls) : Int → List (List Stp) → List (Int × Int)
  | _, [] => []
  | e, r :: rs => (e, lbeg T r) :: foundL T (lend T r) rs
def bigL (T : Tls) : Int → List (List Stp) → List Part
  | _, [] => []
  | e, r :: rs => ⟨e, lbeg T r, false⟩ :: (r.map (stPart T) ++ bigL T (lend T r) rs)
def lastE (T : Tls) : Int → List (List Stp) → Int
  | e, [] => e
  | _, r :: rs => lastE T (lend T r) rs
theorem lastE_is {T : Tls} : ∀ {rows : List (List Stp)} {e : Int}, rows ≠ [] → lastE T e rows = lend T (rows.getLastD [])
  | [], _, h => absurd rfl h
  | [r], _, _ => rfl
  | r :: s :: rs, e, _ => by
    show lastE T (lend T r) (s :: rs) = _
    rw [lastE_is (List.cons_ne_nil _ _)]
    rfl
theorem big_chain {T : Tls} : ∀ {rows : List (List Stp)} {e : Int}, (∀ r ∈ rows, r ≠ [] ∧ ∃ x y, WalkT T x r y) → ChainP e (bigL T e rows) (lastE T e rows)
  | [], _, _ => rfl
  | r :: rs, e, h => by
    obtain ⟨h1, x, y, h2⟩ := h r List.mem_cons_self
    have ih := big_chain (rows := rs) (e := lend T r) fun q hq => h q (List.mem_cons_of_mem _ hq)
    refine ⟨rfl, ?_⟩
    show ChainP (lbeg T r) _ _
    rw [lbeg_is h1 h2]
    refine chain_app (walk_chain h2) ?_
    rw [← lend_is h1 h2]
    exact ih
theorem big_perm {T : Tls} : ∀ (rows : List (List Stp)) (e : Int), ((rows.flatten.map fun st => tileAt T st.1) ++ foundL T e rows).Perm ((bigL T e rows).map ltile)
  | [], _ => List.Perm.refl _
  | r :: rs, e => by
    have ih := big_perm (T := T) rs (lend T r)
    show ((r ++ rs.flatten).map (fun st => tileAt T st.1) ++ (e, lbeg T r) :: foundL T (lend T r) rs).Perm (ltile ⟨e, lbeg T r, false⟩ :: ((r.map (stPart T) ++ bigL T (lend T r) rs).map ltile))
    rw [List.map_append, List.map_append, List.append_assoc]
    have e1 : (r.map (stPart T)).map ltile = r.map fun st => tileAt T st.1 := by
      rw [List.map_map]
      exact List.map_congr_left fun st _ => ltile_st T st
    rw [e1]
    have p1 : ((rs.flatten.map fun st => tileAt T st.1) ++ (e, lbeg T r) :: foundL T (lend T r) rs).Perm ((e, lbeg T r) :: (bigL T (lend T r) rs).map ltile) := List.perm_middle.trans (ih.cons _)
    exact (p1.append_left _).trans List.perm_middle
theorem found_len {T : Tls} : ∀ (rows : List (List Stp)) (e : Int), (foundL T e rows).length = rows.length
  | [], _ => rfl
  | _ :: rs, _ => congrArg (· + 1) (found_len rs _)
theorem found_at {T : Tls} : ∀ {rows : List (List Stp)} {e : Int} {i : Nat} {r : List Stp}, rows[i]? = some r → (foundL T e rows)[i]? = some ((if i = 0 then e else lend T (rows.getD (i - 1) [])), lbeg T r)
  | [], _, _, _, h => by cases h
  | q :: rs, e, 0, r, h => by
    have h : q = r := Option.some.inj h
    rw [← h]
    rfl
  | q :: rs, e, i + 1, r, h => by
    have h : rs[i]? = some r := h
    show (foundL T (lend T q) rs)[i]? = _
    rw [found_at h, if_neg (by omega : ¬ i + 1 = 0)]
    cases i with
    | zero => rfl
    | succ j => rfl
theorem found_mem {T : Tls} : ∀ {rows : List (List Stp)} {e : Int} {t : Int × Int}, t ∈ foundL T e rows → (t.1 = e ∨ ∃ r ∈ rows, t.1 = lend T r) ∧ ∃ r ∈ rows, t.2 = lbeg T r
  | [], _, _, h => by cases h
  | q :: rs, e, t, h => by
    rcases List.mem_cons.mp h with h | h
    · rw [h]
      exact ⟨.inl rfl, q, List.mem_cons_self, rfl⟩
    · obtain ⟨h1, r, h2, h3⟩ := found_mem h
      refine ⟨.inr ?_, r, List.mem_cons_of_mem _ h2, h3⟩
      rcases h1 with h1 | ⟨r', h1, h4⟩
      · exact ⟨q, List.mem_cons_self, h1⟩
      · exact ⟨r', List.mem_cons_of_mem _ h1, h4⟩
/-- what is lacking where there is no ring -/
noncomputable def lfound (T : Tls) : Tls := foundL T (lend T ((lfewest T).getLastD [])) (lfewest T)
open Classical in
noncomputable def lwant (T : Tls) : Tls := if lisring T then [] else lfound T
theorem lisring_nil : lisring [] := by
  have h : lmarks ([] : Tls) = [] := List.eq_nil_iff_forall_not_mem.mpr fun x hx => by
    obtain ⟨t, ht, _⟩ := mem_lmarks.mp hx
    cases ht
  refine ⟨?_, List.eq_nil_iff_forall_not_mem.mpr fun x hx => ?_⟩
  · cases hp : lparts ([] : Tls) with
    | nil => exact Nat.zero_le _
    | cons g gs =>
      obtain ⟨L, _, _, hL⟩ := part_form (tiles := []) (g := g) (by rw [hp]; exact List.mem_cons_self)
      have := part_mark (tiles := []) (g := g) (by rw [hp]; exact List.mem_cons_self) hL
      rw [h] at this
      cases this
  · have := (mem_lodds.mp hx).1
    rw [h] at this
    cases this
theorem fewest_ne {T : Tls} (h : ¬ lisring T) : lfewest T ≠ [] := fun z => by
  have := (fewest_ok T).all.length_eq
  rw [z, List.length_map, List.length_range] at this
  have h0 : T = [] := List.length_eq_zero_iff.mp this.symm
  rw [h0] at h
  exact h lisring_nil
theorem want_ring (T : Tls) : lisring (T ++ lwant T) := by
  unfold lwant
  split
  · rename_i h
    rw [List.append_nil]
    exact h
  · rename_i h
    have hne := fewest_ne h
    have hO := fewest_ok T
    unfold lfound
    generalize lfewest T = rows at *
    have hc := big_chain (T := T) (rows := rows) (e := lend T (rows.getLastD [])) fun r hr => ⟨(hO.ok r hr).1, (hO.ok r hr).2.2⟩
    rw [lastE_is hne] at hc
    exact closed_one (((rows_perm hO.all).append_right _).trans (big_perm rows _)) hc
theorem row_count : ∀ {rows : List (List Stp)}, (∀ r ∈ rows, r ≠ []) → rows.length ≤ (rows.flatMap nums).length
  | [], _ => Nat.zero_le _
  | r :: rs, h => by
    have ih := row_count (rows := rs) fun q hq => h q (List.mem_cons_of_mem _ hq)
    have h1 : 0 < r.length := List.length_pos_iff.mpr (h r List.mem_cons_self)
    rw [List.flatMap_cons, List.length_append, List.length_cons]
    have : (nums r).length = r.length := by unfold nums; rw [List.length_map]
    omega
theorem fewest_count (T : Tls) : (lfewest T).length ≤ T.length := by
  have hO := fewest_ok T
  have h1 := row_count fun r hr => (hO.ok r hr).1
  have := hO.all.length_eq
  rw [List.length_map, List.length_range] at this
  omega
theorem want_len (T : Tls) : (lwant T).length ≤ T.length := by
  unfold lwant
  split
  · exact Nat.zero_le _
  · unfold lfound
    rw [found_len]
    exact fewest_count T
theorem face_mem {T : Tls} {M : List Int} (h : ∀ t ∈ T, t.1 ∈ M ∧ t.2 ∈ M) {st : Stp} (hn : isNum T st.1 = true) : (faceOf T st).1 ∈ M ∧ (faceOf T st).2 ∈ M := by
  obtain ⟨a, b⟩ := h _ (tile_in hn)
  unfold faceOf
  split
  · exact ⟨b, a⟩
  · exact ⟨a, b⟩
theorem want_few {T : Tls} (h : Few T) (hl : T.length ≤ 500) : Few (T ++ lwant T) := by
  obtain ⟨_, M, h2, h3⟩ := h
  have h4 := want_len T
  refine ⟨by rw [List.length_append]; omega, M, h2, fun t ht => ?_⟩
  rcases List.mem_append.mp ht with q | q
  · exact h3 t q
  · unfold lwant at q
    split at q
    · cases q
    · rename_i hr
      have hne := fewest_ne hr
      have hO := fewest_ok T
      unfold lfound at q
      generalize lfewest T = rows at *
      have hb : ∀ r ∈ rows, lbeg T r ∈ M := fun r hr => (face_mem h3 ((hO.ok r hr).2.1 _ (rfirst_mem (hO.ok r hr).1))).1
      have he : ∀ r ∈ rows, lend T r ∈ M := fun r hr => (face_mem h3 ((hO.ok r hr).2.1 _ (rlast_mem (hO.ok r hr).1))).2
      obtain ⟨q1, r, q2, q3⟩ := found_mem q
      refine ⟨?_, by rw [q3]; exact hb r q2⟩
      rcases q1 with q1 | ⟨r', q1, q4⟩
      · rw [q1]
        refine he _ ?_
        rw [List.getLastD_eq_getLast?, List.getLast?_eq_getLast hne]
        exact List.getLast_mem hne
      · rw [q4]
        exact he r' q1
/-! a ring of which some parts are left out -/
def wpart (nums names : List Int) (k : Nat) : Part :=
  ⟨pickW names (nums.getD k 0), pickW names (nums.getD ((k + 1) % nums.length) 0), decide (nums.getD k 0 / (names.length : Int) % 2 = 1)⟩
def wmany (nums : List Int) (closed : Bool) : Nat := if closed = true then nums.length else nums.length - 1
/-- the walk that a law draws -/
def lwalk (nums names : List Int) (closed : Bool) : List Part := (List.range (wmany nums closed)).map (wpart nums names)
theorem lwalk_len (nums names : List Int) (closed : Bool) : (lwalk nums names closed).length = wmany nums closed := by
  unfold lwalk
  rw [List.length_map, List.length_range]
theorem wmany_le (nums : List Int) (closed : Bool) : wmany nums closed ≤ nums.length := by
  unfold wmany
  split <;> omega
theorem wpart_mem {nums names : List Int} (h : 1 ≤ names.length) (k : Nat) : (wpart nums names k).a ∈ names ∧ (wpart nums names k).b ∈ names := ⟨pick_mem h _, pick_mem h _⟩
theorem lwalk_mem {nums names : List Int} {closed : Bool} (h : 1 ≤ names.length) {p : Part} (hp : p ∈ lwalk nums names closed) : p.a ∈ names ∧ p.b ∈ names := by
  obtain ⟨k, _, e⟩ := List.mem_map.mp hp
  rw [← e]
  exact wpart_mem h k
def lkeep (nums names : List Int) (share : Int) (k : Nat) : Bool := decide (¬ nums.getD k 0 / (2 * (names.length : Int)) % share = 1)
def lkst (nums names : List Int) (keep : Nat → Bool) (k : Nat) : List Part := ((List.range k).filter keep).map (wpart nums names)
theorem lkst_succ (nums names : List Int) (keep : Nat → Bool) (k : Nat) : lkst nums names keep (k + 1) = lkst nums names keep k ++ (if keep k = true then [wpart nums names k] else []) := by
  unfold lkst
  rw [List.range_succ, List.filter_append, List.map_append]
  congr 1
  rw [List.filter_cons]
  split <;> rfl
def mAt (nums names : List Int) (k : Nat) : Int := pickW names (nums.getD (k % nums.length) 0)
structure KI (nums names : List Int) (k : Nat) (l : List Part) (first : List Part) (segs : List (List Part)) (cur : List Part) (r : Nat) : Prop where
  is : l = first ++ (segs.flatten ++ cur)
  len : l.length + r = k
  seg : ∀ s ∈ segs, s ≠ [] ∧ ∃ x y, ChainP x s y
  way : (r = 0 ∧ segs = [] ∧ cur = [] ∧ ChainP (mAt nums names 0) first (mAt nums names k)) ∨ (segs.length + 1 ≤ r ∧ (∃ x, ChainP (mAt nums names 0) first x) ∧ ∃ y, ChainP y cur (mAt nums names k))
theorem ki {nums names : List Int} {keep : Nat → Bool} : ∀ k, k ≤ nums.length → ∃ first segs cur r, KI nums names k (lkst nums names keep k) first segs cur r
  | 0, _ => ⟨[], [], [], 0, rfl, rfl, fun s hs => (by cases hs), .inl ⟨rfl, rfl, rfl, rfl⟩⟩
  | k + 1, hk => by
    obtain ⟨first, segs, cur, r, h1, h2, h3, h4⟩ := ki (nums := nums) (names := names) (keep := keep) k (by omega)
    rw [lkst_succ]
    generalize lkst nums names keep k = l at *
    have ea : (wpart nums names k).a = mAt nums names k := by
      unfold mAt
      rw [Nat.mod_eq_of_lt (by omega : k < nums.length)]
      rfl
    have eb : (wpart nums names k).b = mAt nums names (k + 1) := rfl
    by_cases c : keep k = true
    · rw [if_pos c]
      rcases h4 with ⟨a, b, d, e⟩ | ⟨a, b, y, e⟩
      · subst b d
        refine ⟨first ++ [wpart nums names k], [], [], r, by rw [h1]; simp, by rw [List.length_append, List.length_singleton]; omega, h3, .inl ⟨a, rfl, rfl, ?_⟩⟩
        rw [← eb]
        exact chain_snoc e ea
      · refine ⟨first, segs, cur ++ [wpart nums names k], r, by rw [h1]; simp, by rw [List.length_append, List.length_singleton]; omega, h3, .inr ⟨a, b, y, ?_⟩⟩
        rw [← eb]
        exact chain_snoc e ea
    · rw [if_neg c, List.append_nil]
      rcases h4 with ⟨a, b, d, e⟩ | ⟨a, b, y, e⟩
      · subst b d
        exact ⟨first, [], [], r + 1, h1, by omega, h3, .inr ⟨by show 0 + 1 ≤ r + 1; omega, ⟨_, e⟩, _, rfl⟩⟩
      · by_cases cn : cur = []
        · subst cn
          exact ⟨first, segs, [], r + 1, h1, by omega, h3, .inr ⟨by omega, b, _, rfl⟩⟩
        · refine ⟨first, segs ++ [cur], [], r + 1, by rw [h1]; simp, by omega, fun s hs => ?_, .inr ⟨by rw [List.length_append, List.length_singleton]; omega, b, _, rfl⟩⟩
          rcases List.mem_append.mp hs with q | q
          · exact h3 s q
          · rw [List.mem_singleton.mp q]
            exact ⟨cn, _, _, e⟩
noncomputable def lmost (tiles : Tls) : Nat := ((lparts tiles).map fun g => max 1 ((lodd (lodds tiles) g).length / 2)).sum
theorem kept_bound {nums names : List Int} {keep : Nat → Bool} {tiles : Tls} (hp : tiles.Perm ((lkst nums names keep nums.length).map ltile)) : lisring tiles ∨ lmost tiles + (lkst nums names keep nums.length).length ≤ nums.length := by
  obtain ⟨first, segs, cur, r, h1, h2, h3, h4⟩ := ki (nums := nums) (names := names) (keep := keep) nums.length (Nat.le_refl _)
  generalize lkst nums names keep nums.length = l at *
  have em : mAt nums names nums.length = mAt nums names 0 := by
    unfold mAt
    rw [Nat.mod_self, Nat.zero_mod]
  rw [em] at h4
  rcases h4 with ⟨a, b, d, e⟩ | ⟨a, ⟨x, b⟩, y, e⟩
  · subst b d
    have h1 : l = first := by rw [h1]; simp
    rw [h1] at hp
    exact .inl (closed_one hp e)
  · have hm := chain_app e b
    have hperm : l.Perm (segs.flatten ++ (cur ++ first)) := by
      rw [h1]
      refine List.perm_append_comm.trans ?_
      rw [List.append_assoc]
    have hp2 := hp.trans (hperm.map ltile)
    refine .inr ?_
    by_cases cn : cur ++ first = []
    · rw [cn, List.append_nil] at hp2
      have := rows_bound hp2 rfl h3
      unfold lmost
      omega
    · have e2 : segs.flatten ++ (cur ++ first) = (segs ++ [cur ++ first]).flatten := by rw [List.flatten_append]; simp
      have := rows_bound (segs := segs ++ [cur ++ first]) hp2 e2 fun s hs => by
        rcases List.mem_append.mp hs with q | q
        · exact h3 s q
        · rw [List.mem_singleton.mp q]
          exact ⟨cn, _, _, hm⟩
      rw [List.length_append, List.length_singleton] at this
      unfold lmost
      omega
theorem kept_eq {α : Type} {p : Int → Bool} {f : Int → α} {q : Nat → Bool} {g : Nat → α} (n : Nat) (h : ∀ k, k < n → p (k : Int) = q k ∧ f (k : Int) = g k) : (((List.range n).map fun i => ((i : Nat) : Int)).filter p).map f = ((List.range n).filter q).map g := by
  rw [List.filter_map, List.map_map]
  have e1 : (List.range n).filter (p ∘ fun i => ((i : Nat) : Int)) = (List.range n).filter q := List.filter_congr fun k hk => (h k (List.mem_range.mp hk)).1
  rw [e1]
  exact List.map_congr_left fun k hk => (h k (List.mem_range.mp (List.mem_filter.mp hk).1)).2
end
end TC
/-! rings that lie as they are told -/
namespace TC
section
open PySem PySem.Spec L2
def wayAt (ways : List Bool) (n : Int) : Bool := ways.getD n.toNat false
def wstep (ways : List Bool) (n : Int) : Stp := (n, wayAt ways n)
/-- the left and the right mark of a tile as it lies -/
def warc (T : Tls) (ways : List Bool) (n : Int) : Int × Int := faceOf T (wstep ways n)
def Lies (T : Tls) (ways : List Bool) (st : Stp) : Prop := isNum T st.1 = true ∧ st.2 = wayAt ways st.1
theorem lies_step {T : Tls} {ways : List Bool} {st : Stp} (h : Lies T ways st) : st = wstep ways st.1 := by
  obtain ⟨n, b⟩ := st
  exact Prod.ext rfl h.2
theorem lies_face {T : Tls} {ways : List Bool} {st : Stp} (h : Lies T ways st) : faceOf T st = warc T ways st.1 := by
  unfold warc
  rw [← lies_step h]
def rangeI (n : Nat) : List Int := (List.range n).map fun i => ((i : Nat) : Int)
theorem mem_rangeI {T : Tls} {n : Int} : n ∈ rangeI T.length ↔ isNum T n = true := by
  unfold rangeI
  rw [isNum_iff, List.mem_map]
  constructor
  · rintro ⟨i, h1, h2⟩
    have := List.mem_range.mp h1
    omega
  · rintro ⟨h1, h2⟩
    exact ⟨n.toNat, List.mem_range.mpr (by omega), by omega⟩
theorem rangeI_nodup (n : Nat) : (rangeI n).Nodup := int_range_nodup n
def sumW (f : Int → Int) (l : List Int) (U : List Int) : Int := (l.map fun n => if n ∈ U then 0 else f n).sum
theorem sumW_less {f : Int → Int} {U U' : List Int} {n : Int} : ∀ {l : List Int}, l.Nodup → n ∈ l → n ∉ U → (∀ m, m ∈ U' ↔ m = n ∨ m ∈ U) → sumW f l U = sumW f l U' + f n
  | [], _, h, _, _ => by cases h
  | q :: l, hn, hm, h1, hU => by
    obtain ⟨n1, n2⟩ := List.nodup_cons.mp hn
    unfold sumW at *
    rw [List.map_cons, List.map_cons, List.sum_cons, List.sum_cons]
    by_cases c : q = n
    · subst c
      have rest : (l.map fun p => if p ∈ U then (0 : Int) else f p) = l.map fun p => if p ∈ U' then 0 else f p := by
        refine List.map_congr_left fun p hp => ?_
        have hne : p ≠ q := fun e => n1 (by rw [← e]; exact hp)
        by_cases d : p ∈ U
        · rw [if_pos d, if_pos ((hU _).mpr (.inr d))]
        · rw [if_neg d, if_neg (fun z => ((hU _).mp z).elim hne d)]
      rw [rest, if_neg h1, if_pos ((hU _).mpr (.inl rfl))]
      omega
    · have ih := sumW_less (f := f) n2 ((List.mem_cons.mp hm).elim (fun e => absurd e.symm c) id) h1 hU
      unfold sumW at ih
      rw [ih]
      have e : (if q ∈ U then (0 : Int) else f q) = if q ∈ U' then 0 else f q := by
        by_cases d : q ∈ U
        · rw [if_pos d, if_pos ((hU _).mpr (.inr d))]
        · rw [if_neg d, if_neg (fun z => ((hU _).mp z).elim c d)]
      rw [e]
      omega
theorem sumW_all {f : Int → Int} {l : List Int} (hl : l.Nodup) : ∀ {R : List Int}, R.Nodup → (∀ n ∈ R, n ∈ l) → sumW f l [] = sumW f l R + (R.map f).sum
  | [], _, _ => by show _ = _ + (0 : Int); omega
  | n :: R, h1, h2 => by
    obtain ⟨n1, n2⟩ := List.nodup_cons.mp h1
    have ih := sumW_all hl (f := f) n2 fun m hm => h2 m (List.mem_cons_of_mem _ hm)
    have := sumW_less (f := f) (U := R) (U' := n :: R) hl (h2 n List.mem_cons_self) n1 fun m => List.mem_cons
    rw [List.map_cons, List.sum_cons]
    omega
theorem sum_nonneg_zero {f : Int → Int} : ∀ {l : List Int}, (∀ n ∈ l, 0 ≤ f n) → (l.map f).sum = 0 → ∀ n ∈ l, f n = 0
  | [], _, _, _, h => by cases h
  | q :: l, h, hs, n, hn => by
    have h0 : ∀ l' : List Int, (∀ n ∈ l', 0 ≤ f n) → 0 ≤ (l'.map f).sum := fun l' => by
      induction l' with
      | nil => exact fun _ => Int.le_refl _
      | cons a l' ih =>
        intro h
        have h1 := h a List.mem_cons_self
        have h2 := ih fun n hn => h n (List.mem_cons_of_mem _ hn)
        rw [List.map_cons, List.sum_cons]
        omega
    have h1 := h q List.mem_cons_self
    have h2 := h0 l fun n hn => h n (List.mem_cons_of_mem _ hn)
    rw [List.map_cons, List.sum_cons] at hs
    rcases List.mem_cons.mp hn with e | e
    · rw [e]
      omega
    · exact sum_nonneg_zero (fun n hn => h n (List.mem_cons_of_mem _ hn)) (by omega) n e
/-- of a mark: how often it lies left less how often it lies right -/
def netx (T : Tls) (ways : List Bool) (x n : Int) : Int := b2i (decide (x = (warc T ways n).1)) - b2i (decide (x = (warc T ways n).2))
def Even (T : Tls) (ways : List Bool) : Prop := ∀ x, ((rangeI T.length).map (netx T ways x)).sum = 0
theorem sumW_nil (f : Int → Int) (l : List Int) : sumW f l [] = (l.map f).sum := by
  unfold sumW
  rw [show (l.map fun n => if n ∈ ([] : List Int) then (0 : Int) else f n) = l.map f from List.map_congr_left fun n _ => if_neg (by simp)]
def balD (T : Tls) (ways : List Bool) (U : List Int) (a f : Int) : Prop := ∀ x, sumW (netx T ways x) (rangeI T.length) U = b2i (decide (x = a)) - b2i (decide (x = f))
theorem sumW_le {f : Int → Int} {l U : List Int} (h : ∀ n ∈ l, n ∉ U → f n ≤ 0) : sumW f l U ≤ 0 := by
  unfold sumW
  induction l with
  | nil => exact Int.le_refl _
  | cons a l ih =>
    have h2 := ih fun n hn => h n (List.mem_cons_of_mem _ hn)
    rw [List.map_cons, List.sum_cons]
    by_cases c : a ∈ U
    · rw [if_pos c]
      omega
    · rw [if_neg c]
      have := h a List.mem_cons_self c
      omega
theorem netx_left {T : Tls} {ways : List Bool} {x n : Int} (h : (warc T ways n).1 ≠ x) : netx T ways x n ≤ 0 := by
  unfold netx
  rw [decide_eq_false (fun z => h z.symm)]
  have := b2i_01 (decide (x = (warc T ways n).2))
  show 0 - _ ≤ _
  omega
theorem ctxD (T : Tls) (ways : List Bool) : HCtx T (Lies T ways) [] (fun _ => True) (balD T ways) where
  num := fun st h => h.1
  clo := fun st h1 h2 h3 => trivial
  stuck := fun U a f h hs => by
    have h1 := h a
    have h2 : sumW (netx T ways a) (rangeI T.length) U ≤ 0 := sumW_le fun n hn hu => netx_left fun z => hu (hs (wstep ways n) ⟨mem_rangeI.mp hn, rfl⟩ z)
    refine Classical.byContradiction fun z => ?_
    rw [decide_eq_true rfl, decide_eq_false z] at h1
    have h1 : _ = (1 : Int) - 0 := h1
    omega
  push := fun U U' a f st h hE hn hl _ hU => fun x => by
    have e := sumW_less (f := netx T ways x) (rangeI_nodup _) (mem_rangeI.mpr hE.1) hn hU
    have h1 := h x
    have e2 : netx T ways x st.1 = b2i (decide (x = a)) - b2i (decide (x = (faceOf T st).2)) := by
      unfold netx
      rw [← lies_face hE, hl]
    omega
  move := fun U a b h _ => fun x => by
    have := h x
    omega
structure ReadyD (T : Tls) (ways : List Bool) (S : List (Int × List Stp)) : Prop where
  steps : ∀ v, ∀ st ∈ (dget S v).getD [], Lies T ways st ∧ (faceOf T st).1 = v
  left : ∀ st : Stp, Lies T ways st → st ∈ (dget S (faceOf T st).1).getD []
theorem lleave_readyD {T : Tls} {ways : List Bool} {steps : List Stp} (h : ∀ st : Stp, st ∈ steps ↔ Lies T ways st) : ReadyD T ways (lleave T steps) := by
  refine ⟨fun v st hst => ?_, fun st hst => ?_⟩
  · unfold lleave at hst
    rw [lleave_get] at hst
    have hst : st ∈ ([] : List Stp) ++ steps.filter fun st => decide ((faceOf T st).1 = v) := hst
    rw [List.nil_append, List.mem_filter, decide_eq_true_iff] at hst
    exact ⟨(h st).mp hst.1, hst.2⟩
  · unfold lleave
    rw [lleave_get]
    show st ∈ ([] : List Stp) ++ steps.filter fun st' => decide ((faceOf T st').1 = (faceOf T st).1)
    rw [List.nil_append, List.mem_filter, decide_eq_true_iff]
    exact ⟨(h st).mpr hst, rfl⟩
theorem walk_net {T : Tls} {ways : List Bool} (x : Int) : ∀ {r : List Stp} {a b : Int}, WalkT T a r b → (∀ st ∈ r, Lies T ways st) → ((nums r).map (netx T ways x)).sum = b2i (decide (x = a)) - b2i (decide (x = b))
  | [], a, b, h, _ => by
    rw [show a = b from h]
    show (0 : Int) = _
    omega
  | st :: r, a, b, h, hl => by
    have ih := walk_net x h.2 fun q hq => hl q (List.mem_cons_of_mem _ hq)
    have e : netx T ways x st.1 = b2i (decide (x = a)) - b2i (decide (x = (faceOf T st).2)) := by
      unfold netx
      rw [← lies_face (hl st List.mem_cons_self), h.1]
    show (netx T ways x st.1 :: (nums r).map (netx T ways x)).sum = _
    rw [List.sum_cons]
    omega
/-- the ring by all tiles as they lie -/
theorem eulerD {T : Tls} {ways : List Bool} {S : List (Int × List Stp)} {m0 : Int} (hR : ReadyD T ways S) (hE : Even T ways) (hc : ∀ n, isNum T n = true → Reach T m0 (tileAt T n).1) :
    RowOf T (hres T (hstart S [] m0)).row m0 m0 ∧ ∀ st ∈ (hres T (hstart S [] m0)).row, Lies T ways st := by
  have X := ctxD T ways
  have hU0 : ∀ n : Int, n ∉ keysM ([] : List (Int × Bool)) := fun n h => by cases h
  have h0 : HI T (Lies T ways) [] (fun _ => True) (balD T ways) m0 m0 (hstart S [] m0) := by
    refine ⟨hR.steps, fun st h => .inl (hR.left st h), fun n => ?_, List.nodup_nil, (fun n hn => by cases hn), ⟨rfl, rfl⟩, fun e he st h => ?_, (fun st hst => by cases hst), ⟨m0, rfl, fun x => ?_⟩, fun v hv => ?_, fun e he => ?_, List.mem_cons_self, List.nodup_nil⟩
    · exact ⟨fun h => (by cases h), fun h => h.elim (fun z => by cases z) fun h => h.elim (fun z => by cases z) fun z => by cases z⟩
    · rw [List.mem_singleton.mp he] at h
      cases h
    · show sumW (netx T ways x) (rangeI T.length) [] = b2i (decide (x = m0)) - b2i (decide (x = m0))
      rw [sumW_nil, hE x]
      omega
    · rw [List.mem_singleton.mp hv]
      exact ⟨trivial, .inr ⟨_, List.mem_cons_self, rfl⟩⟩
    · rw [List.mem_singleton.mp he]
      exact List.mem_cons_self
  obtain ⟨hN, hnil⟩ := h0.end X
  generalize hres T (hstart S [] m0) = r at *
  obtain ⟨f, hw, hf⟩ := hN.walk
  rw [hnil] at hf
  have hf' : f = m0 := hf
  subst hf'
  have hp0 : pnum r.pile = [] := by rw [hnil]; rfl
  have hused := hN.used
  have hnd := hN.nodup
  rw [hp0] at hused hnd
  have hnd : (nums r.row).Nodup := hnd
  have hused' : ∀ n, n ∈ keysM r.U ↔ n ∈ nums r.row := fun n => by
    rw [hused]
    exact ⟨fun h => h.elim (fun z => by cases z) fun h => h.elim (fun z => by cases z) id, fun h => .inr (.inr h)⟩
  have hlie : ∀ st ∈ r.row, Lies T ways st := fun st hst => (hN.rst st hst).1
  have hsub : ∀ n ∈ nums r.row, n ∈ rangeI T.length := fun n hn => by
    obtain ⟨st, h1, h2⟩ := List.mem_map.mp hn
    rw [← h2]
    exact mem_rangeI.mpr (hlie st h1).1
  have tovis : ∀ n ∈ nums r.row, (warc T ways n).1 ∈ r.vis ∧ (warc T ways n).2 ∈ r.vis := fun n hn => by
    obtain ⟨st, h1, h2⟩ := List.mem_map.mp hn
    obtain ⟨q1, q2, q3⟩ := hN.rst st h1
    rw [← h2, ← lies_face q1]
    exact ⟨q2, q3⟩
  have outs : ∀ n, isNum T n = true → (warc T ways n).1 ∈ r.vis → n ∈ nums r.row := fun n hn hv => by
    rcases (hN.seen _ hv).2 with h | ⟨e, he, _⟩
    · exact (hused' n).mp (h (wstep ways n) ⟨hn, rfl⟩ rfl)
    · rw [hnil] at he
      cases he
  have ins : ∀ n, isNum T n = true → (warc T ways n).2 ∈ r.vis → n ∈ nums r.row := fun n hn hv => by
    refine Classical.byContradiction fun hno => ?_
    have h1 := sumW_all (f := netx T ways (warc T ways n).2) (rangeI_nodup T.length) hnd hsub
    rw [sumW_nil, hE, walk_net _ hw hlie] at h1
    have h2 : sumW (netx T ways (warc T ways n).2) (rangeI T.length) (nums r.row) = 0 := by omega
    have hneg : ((rangeI T.length).map fun m => -(if m ∈ nums r.row then 0 else netx T ways (warc T ways n).2 m)).sum = 0 := by
      have e : ∀ l : List Int, (l.map fun m => -(if m ∈ nums r.row then 0 else netx T ways (warc T ways n).2 m)).sum = - sumW (netx T ways (warc T ways n).2) l (nums r.row) := fun l => by
        unfold sumW
        induction l with
        | nil => rfl
        | cons a l ih =>
          rw [List.map_cons, List.map_cons, List.sum_cons, List.sum_cons, ih]
          omega
      rw [e, h2]
      rfl
    have h3 := sum_nonneg_zero (f := fun m => -(if m ∈ nums r.row then 0 else netx T ways (warc T ways n).2 m)) (fun m hm => by
      by_cases c : m ∈ nums r.row
      · show 0 ≤ -(if m ∈ nums r.row then 0 else _)
        rw [if_pos c]
        decide
      · show 0 ≤ -(if m ∈ nums r.row then 0 else _)
        rw [if_neg c]
        have := netx_left (T := T) (ways := ways) (x := (warc T ways n).2) (n := m) fun z => c (outs m (mem_rangeI.mp hm) (by rw [z]; exact hv))
        omega) hneg n (mem_rangeI.mpr hn)
    have h3 : -(if n ∈ nums r.row then (0 : Int) else netx T ways (warc T ways n).2 n) = 0 := h3
    rw [if_neg hno] at h3
    unfold netx at h3
    rw [decide_eq_false (fun z => hno (outs n hn (by rw [← z]; exact hv))), decide_eq_true rfl] at h3
    exact absurd h3 (by decide)
  have both : ∀ n, isNum T n = true → ((tileAt T n).1 ∈ r.vis ∨ (tileAt T n).2 ∈ r.vis) → n ∈ nums r.row ∧ (tileAt T n).1 ∈ r.vis ∧ (tileAt T n).2 ∈ r.vis := fun n hn hv => by
    have hf : warc T ways n = tileAt T n ∨ warc T ways n = ((tileAt T n).2, (tileAt T n).1) := by
      unfold warc faceOf wstep
      cases wayAt ways n
      · exact .inl rfl
      · exact .inr rfl
    have hin : n ∈ nums r.row := by
      rcases hf with e | e
      · rcases hv with hv | hv
        · exact outs n hn (by rw [e]; exact hv)
        · exact ins n hn (by rw [e]; exact hv)
      · rcases hv with hv | hv
        · exact ins n hn (by rw [e]; exact hv)
        · exact outs n hn (by rw [e]; exact hv)
    have := tovis n hin
    rcases hf with e | e
    · rw [e] at this
      exact ⟨hin, this⟩
    · rw [e] at this
      exact ⟨hin, this.2, this.1⟩
  have allvis : ∀ x, Reach T f x → x ∈ r.vis := fun x hx => by
    induction hx with
    | refl => exact hN.m0v
    | step hab e ih =>
      rcases e with e | e
      · obtain ⟨n, n1, n2⟩ := in_tile e
        have := both n n1 (.inl (by rw [n2]; exact ih))
        rw [n2] at this
        exact this.2.2
      · obtain ⟨n, n1, n2⟩ := in_tile e
        have := both n n1 (.inr (by rw [n2]; exact ih))
        rw [n2] at this
        exact this.2.1
  refine ⟨⟨fun st hst => (hlie st hst).1, hw, (List.perm_ext_iff_of_nodup hnd (int_range_nodup _)).mpr fun n => ?_⟩, hlie⟩
  constructor
  · exact hsub n
  · intro h
    have hn := mem_rangeI.mp h
    exact (both n hn (.inl (allvis _ (hc n hn)))).1
/-- a ring of all tiles lies even -/
theorem even_of_ring {T : Tls} {ways : List Bool} {r : List Stp} {a : Int} (h : RowOf T r a a) (hl : ∀ st ∈ r, Lies T ways st) : Even T ways := fun x => by
  have h1 := walk_net x h.walk hl
  have h2 := ((h.all.map (netx T ways x)).foldr_eq' (f := fun a b => a + b) (by intros; omega) 0)
  have e : ∀ l : List Int, l.foldr (fun a b => a + b) 0 = l.sum := fun l => rfl
  rw [e, e] at h2
  show ((rangeI T.length).map (netx T ways x)).sum = 0
  have h2 : ((nums r).map (netx T ways x)).sum = ((rangeI T.length).map (netx T ways x)).sum := h2
  omega
end
end TC
/-! prices lowered pass by pass; the way round that is found -/
namespace TC
section
open PySem PySem.Spec L2
abbrev Arc := T3 Int Int Int
def noArc : Arc := ⟨0, 0, 0⟩
def arcAt (A : List Arc) (n : Int) : Arc := A.getD n.toNat noArc
def pAt (pr : List (Int × Int)) (x : Int) : Int := (dget pr x).getD 0
structure BS where
  pr : List (Int × Int)
  ca : List (Int × Int)
  last : Option Int
def bstep (s : BS) (p : Int × Arc) : BS := if pAt s.pr p.2.b > pAt s.pr p.2.a + p.2.c then ⟨dput s.pr p.2.b (pAt s.pr p.2.a + p.2.c), dput s.ca p.2.b p.1, some p.2.b⟩ else s
def bpass (A : List Arc) (s : BS) : BS := (enumA A).foldl bstep { s with last := none }
def bpart (A : List Arc) (s : BS) (i : Nat) : BS := ((enumA A).take i).foldl bstep { s with last := none }
theorem bpart_succ {A : List Arc} {s : BS} {i : Nat} {e : Arc} (h : A[i]? = some e) : bpart A s (i + 1) = bstep (bpart A s i) ((i : Int), e) := by
  unfold bpart
  rw [List.take_add_one, enumA_get h, List.foldl_append]
  rfl
theorem bpart_all (A : List Arc) (s : BS) : bpart A s A.length = bpass A s := by
  unfold bpart bpass
  rw [List.take_of_length_le (by rw [enumA_len]; exact Nat.le_refl _)]
theorem pAt_put {pr : List (Int × Int)} {k v x : Int} : pAt (dput pr k v) x = if x = k then v else pAt pr x := by
  unfold pAt
  rw [dget_dput]
  split <;> rfl
theorem arcAt_ix {A : List Arc} {i : Nat} {e : Arc} (h : A[i]? = some e) : arcAt A (i : Int) = e := by
  unfold arcAt
  rw [Int.toNat_natCast, List.getD_eq_getElem?_getD, h]
  rfl
/-- the prices, in the pass k behind i arcs; lev: the pass in which a mark was lowered last; tm: when -/
structure GI (A : List Arc) (k i : Nat) (s : BS) (lev tm : Int → Nat) (now : Nat) : Prop where
  num : ∀ v n, dget s.ca v = some n → 0 ≤ n ∧ n < (A.length : Int) ∧ (arcAt A n).b = v
  lv : ∀ v n, dget s.ca v = some n → lev v ≤ lev (arcAt A n).a + 1
  str : ∀ v n, dget s.ca v = some n → pAt s.pr v > pAt s.pr (arcAt A n).a + (arcAt A n).c ∨ (pAt s.pr v ≥ pAt s.pr (arcAt A n).a + (arcAt A n).c ∧ tm (arcAt A n).a < tm v)
  non : ∀ v, dget s.ca v = none → lev v = 0
  tmn : ∀ v, tm v < now
  top : ∀ v, lev v ≤ k
  don : ∀ j e, A[j]? = some e → j < i → pAt s.pr e.b > pAt s.pr e.a + e.c → lev e.a = k
  tod : ∀ j e, A[j]? = some e → i ≤ j → pAt s.pr e.b > pAt s.pr e.a + e.c → k ≤ lev e.a + 1
  las : ∀ v, s.last = some v → lev v = k
  low : s.last = none → ∀ v, lev v < k
theorem gi_step {A : List Arc} {k i : Nat} {s : BS} {lev tm : Int → Nat} {now : Nat} (hk : 1 ≤ k) (h : GI A k i s lev tm now) {e : Arc} (he : A[i]? = some e) : ∃ lev' tm' now', GI A k (i + 1) (bstep s ((i : Int), e)) lev' tm' now' := by
  unfold bstep
  split
  · rename_i hv
    have hv : pAt s.pr e.b > pAt s.pr e.a + e.c := hv
    have hil := (List.getElem?_eq_some_iff.mp he).1
    have hP : ∀ x, pAt (dput s.pr e.b (pAt s.pr e.a + e.c)) x = if x = e.b then pAt s.pr e.a + e.c else pAt s.pr x := fun x => pAt_put
    have hC : ∀ x, dget (dput s.ca e.b (i : Int)) x = if x = e.b then some (i : Int) else dget s.ca x := fun x => dget_dput
    have hle : ∀ x, pAt (dput s.pr e.b (pAt s.pr e.a + e.c)) x ≤ pAt s.pr x := fun x => by
      rw [hP]
      split
      · rename_i c
        rw [c]
        omega
      · exact Int.le_refl _
    refine ⟨fun x => if x = e.b then k else lev x, fun x => if x = e.b then now else tm x, now + 1, ?_, ?_, ?_, ?_, ?_, ?_, ?_, ?_, ?_, ?_⟩
    · intro v n hn
      have hn : dget (dput s.ca e.b (i : Int)) v = some n := hn
      rw [hC] at hn
      by_cases c : v = e.b
      · rw [if_pos c] at hn
        cases hn
        rw [arcAt_ix he]
        exact ⟨by omega, by omega, c.symm⟩
      · rw [if_neg c] at hn
        exact h.num v n hn
    · intro v n hn
      have hn : dget (dput s.ca e.b (i : Int)) v = some n := hn
      rw [hC] at hn
      show (if v = e.b then k else lev v) ≤ (if (arcAt A n).a = e.b then k else lev (arcAt A n).a) + 1
      by_cases c : v = e.b
      · rw [if_pos c] at hn ⊢
        cases hn
        rw [arcAt_ix he]
        by_cases d : e.a = e.b
        · rw [if_pos d]
          omega
        · rw [if_neg d]
          exact h.tod i e he (Nat.le_refl _) hv
      · rw [if_neg c] at hn ⊢
        have h1 := h.lv v n hn
        have h2 := h.top v
        split <;> omega
    · intro v n hn
      have hn : dget (dput s.ca e.b (i : Int)) v = some n := hn
      rw [hC] at hn
      show pAt (dput s.pr e.b (pAt s.pr e.a + e.c)) v > pAt (dput s.pr e.b (pAt s.pr e.a + e.c)) (arcAt A n).a + (arcAt A n).c ∨ (pAt (dput s.pr e.b (pAt s.pr e.a + e.c)) v ≥ pAt (dput s.pr e.b (pAt s.pr e.a + e.c)) (arcAt A n).a + (arcAt A n).c ∧ (if (arcAt A n).a = e.b then now else tm (arcAt A n).a) < (if v = e.b then now else tm v))
      rw [hP, hP]
      by_cases c : v = e.b
      · rw [if_pos c] at hn
        cases hn
        rw [arcAt_ix he, if_pos c, if_pos c]
        by_cases d : e.a = e.b
        · rw [if_pos d]
          rw [d] at hv ⊢
          left
          omega
        · rw [if_neg d, if_neg d]
          exact .inr ⟨by omega, h.tmn _⟩
      · rw [if_neg c] at hn
        rw [if_neg c, if_neg c]
        have h1 := h.str v n hn
        by_cases d : (arcAt A n).a = e.b
        · rw [if_pos d, if_pos d]
          rw [d] at h1
          left
          rcases h1 with h1 | ⟨h1, _⟩ <;> omega
        · rw [if_neg d, if_neg d]
          exact h1
    · intro v hn
      have hn : dget (dput s.ca e.b (i : Int)) v = none := hn
      rw [hC] at hn
      show (if v = e.b then k else lev v) = 0
      by_cases c : v = e.b
      · rw [if_pos c] at hn
        cases hn
      · rw [if_neg c] at hn ⊢
        exact h.non v hn
    · intro v
      show (if v = e.b then now else tm v) < now + 1
      have := h.tmn v
      split <;> omega
    · intro v
      show (if v = e.b then k else lev v) ≤ k
      have := h.top v
      split <;> omega
    · intro j e' he' hj hvj
      have hvj : pAt (dput s.pr e.b (pAt s.pr e.a + e.c)) e'.b > pAt (dput s.pr e.b (pAt s.pr e.a + e.c)) e'.a + e'.c := hvj
      show (if e'.a = e.b then k else lev e'.a) = k
      by_cases d : e'.a = e.b
      · exact if_pos d
      · rw [if_neg d]
        rw [hP e'.a, if_neg d] at hvj
        have h1 := hle e'.b
        by_cases hji : j = i
        · subst hji
          rw [he] at he'
          cases he'
          have e1 := hP e.b
          rw [if_pos rfl] at e1
          omega
        · exact h.don j e' he' (by omega) (by omega)
    · intro j e' he' hj hvj
      have hvj : pAt (dput s.pr e.b (pAt s.pr e.a + e.c)) e'.b > pAt (dput s.pr e.b (pAt s.pr e.a + e.c)) e'.a + e'.c := hvj
      show k ≤ (if e'.a = e.b then k else lev e'.a) + 1
      by_cases d : e'.a = e.b
      · rw [if_pos d]
        omega
      · rw [if_neg d]
        rw [hP e'.a, if_neg d] at hvj
        have h1 := hle e'.b
        exact h.tod j e' he' (by omega) (by omega)
    · intro v hv'
      have hv' : some e.b = some v := hv'
      cases hv'
      exact if_pos rfl
    · intro hv'
      cases hv'
  · rename_i hv
    have hv : ¬ pAt s.pr e.b > pAt s.pr e.a + e.c := hv
    refine ⟨lev, tm, now, h.num, h.lv, h.str, h.non, h.tmn, h.top, fun j e' he' hj hvj => ?_, fun j e' he' hj hvj => h.tod j e' he' (by omega) hvj, h.las, h.low⟩
    by_cases hji : j = i
    · subst hji
      rw [he] at he'
      cases he'
      exact absurd hvj hv
    · exact h.don j e' he' (by omega) hvj
theorem gi_part {A : List Arc} {k : Nat} {s : BS} (hk : 1 ≤ k) (h0 : ∃ lev tm now, GI A k 0 { s with last := none } lev tm now) : ∀ i, i ≤ A.length → ∃ lev tm now, GI A k i (bpart A s i) lev tm now
  | 0, _ => h0
  | i + 1, hi => by
    obtain ⟨lev, tm, now, h⟩ := gi_part hk h0 i (by omega)
    have he : A[i]? = some A[i] := List.getElem?_eq_getElem (by omega)
    rw [bpart_succ he]
    exact gi_step hk h he
/-- behind a whole pass -/
structure GP (A : List Arc) (k : Nat) (s : BS) (lev tm : Int → Nat) : Prop where
  num : ∀ v n, dget s.ca v = some n → 0 ≤ n ∧ n < (A.length : Int) ∧ (arcAt A n).b = v
  lv : ∀ v n, dget s.ca v = some n → lev v ≤ lev (arcAt A n).a + 1
  str : ∀ v n, dget s.ca v = some n → pAt s.pr v > pAt s.pr (arcAt A n).a + (arcAt A n).c ∨ (pAt s.pr v ≥ pAt s.pr (arcAt A n).a + (arcAt A n).c ∧ tm (arcAt A n).a < tm v)
  non : ∀ v, dget s.ca v = none → lev v = 0
  bnd : ∃ now, ∀ v, tm v < now
  top : ∀ v, lev v ≤ k
  don : ∀ e ∈ A, pAt s.pr e.b > pAt s.pr e.a + e.c → lev e.a = k
  las : ∀ v, s.last = some v → lev v = k
  low : s.last = none → 1 ≤ k → ∀ v, lev v < k
theorem gp_pass {A : List Arc} {k : Nat} {s : BS} {lev tm : Int → Nat} (h : GP A k s lev tm) : ∃ lev' tm', GP A (k + 1) (bpass A s) lev' tm' := by
  obtain ⟨now, hb⟩ := h.bnd
  have h0 : GI A (k + 1) 0 { s with last := none } lev tm now := by
    refine ⟨h.num, h.lv, h.str, h.non, hb, fun v => Nat.le_succ_of_le (h.top v), (fun j e he hj => by omega), fun j e he hj hv => ?_, (fun v hv => by cases hv), fun _ v => Nat.lt_succ_of_le (h.top v)⟩
    have := h.don e (List.mem_of_getElem? he) hv
    omega
  obtain ⟨lev', tm', now', g⟩ := gi_part (A := A) (s := s) (by omega) ⟨lev, tm, now, h0⟩ A.length (Nat.le_refl _)
  rw [bpart_all] at g
  refine ⟨lev', tm', g.num, g.lv, g.str, g.non, ⟨now', g.tmn⟩, g.top, fun e he hv => ?_, g.las, fun hl _ => g.low hl⟩
  obtain ⟨j, hj⟩ := List.mem_iff_getElem?.mp he
  exact g.don j e hj (List.getElem?_eq_some_iff.mp hj).1 hv
/-- what settled does -/
def brun (A : List Arc) : Nat → BS → BS
  | 0, s => s
  | k + 1, s => if (bpass A s).last = none then bpass A s else brun A k (bpass A s)
theorem brun_gp {A : List Arc} : ∀ (m k : Nat) (s : BS) (lev tm : Int → Nat), GP A k s lev tm → ∃ k' lev' tm', GP A k' (brun A m s) lev' tm' ∧ (m = 0 → k' = k) ∧ ((brun A m s).last = none → m ≠ 0 → k < k') ∧ (∀ v, (brun A m s).last = some v → k' = k + m)
  | 0, k, s, lev, tm, h => ⟨k, lev, tm, h, fun _ => rfl, fun _ z => absurd rfl z, fun _ _ => rfl⟩
  | m + 1, k, s, lev, tm, h => by
    obtain ⟨lev', tm', g⟩ := gp_pass h
    unfold brun
    split
    · rename_i hl
      exact ⟨k + 1, lev', tm', g, (fun z => by omega), fun _ _ => by omega, fun v hv => by rw [hl] at hv; cases hv⟩
    · rename_i hl
      obtain ⟨k', lev2, tm2, g2, b1, b2, b3⟩ := brun_gp m (k + 1) _ lev' tm' g
      refine ⟨k', lev2, tm2, g2, (fun z => by omega), fun h1 _ => ?_, fun v hv => by have := b3 v hv; omega⟩
      by_cases hm : m = 0
      · have := b1 hm
        omega
      · have := b2 h1 hm
        omega
end
end TC
namespace TC
section
open PySem PySem.Spec L2
/-! the way back -/
def predF (A : List Arc) (ca : List (Int × Int)) (v : Int) : Int := match dget ca v with
  | some n => (arcAt A n).a
  | none => v
def back (A : List Arc) (ca : List (Int × Int)) : Nat → Int → Int
  | 0, v => v
  | i + 1, v => predF A ca (back A ca i v)
def caAt (ca : List (Int × Int)) (v : Int) : Int := (dget ca v).getD 0
theorem back_add {A : List Arc} {ca : List (Int × Int)} {i : Nat} {v : Int} : ∀ j, back A ca (i + j) v = back A ca j (back A ca i v)
  | 0 => rfl
  | j + 1 => congrArg (predF A ca) (back_add j)
theorem back_one {A : List Arc} {ca : List (Int × Int)} {v : Int} (i : Nat) : back A ca (i + 1) v = back A ca i (predF A ca v) := by
  rw [Nat.add_comm, back_add]
  rfl
theorem least {P : Nat → Prop} (h : ∃ n, P n) : ∃ n, P n ∧ ∀ m, m < n → ¬ P m := by
  obtain ⟨n, hn⟩ := h
  induction n using Nat.strongRecOn with
  | _ n ih =>
    by_cases c : ∃ m, m < n ∧ P m
    · obtain ⟨m, m1, m2⟩ := c
      exact ih m m1 m2
    · exact ⟨n, hn, fun m hm hp => c ⟨m, hm, hp⟩⟩
theorem two_alike {f : Nat → Int} {K : List Int} {n : Nat} (hK : ∀ i, i < n → f i ∈ K) (hl : K.length < n) : ∃ a b, a < b ∧ b < n ∧ f a = f b := by
  refine Classical.byContradiction fun hno => ?_
  have hnd : ∀ m, m ≤ n → ((List.range m).map f).Nodup := fun m => by
    induction m with
    | zero => exact fun _ => List.nodup_nil
    | succ m ih =>
      intro hm
      rw [List.range_succ, List.map_append]
      refine List.nodup_append.mpr ⟨ih (by omega), by simp, fun x hx y hy => ?_⟩
      obtain ⟨a, ha, e⟩ := List.mem_map.mp hx
      have := List.mem_range.mp ha
      rw [List.mem_singleton.mp hy, ← e]
      exact fun z => hno ⟨a, m, this, by omega, z⟩
  have := nodup_len (hnd n (Nat.le_refl _)) fun x hx => by
    obtain ⟨a, ha, e⟩ := List.mem_map.mp hx
    rw [← e]
    exact hK a (List.mem_range.mp ha)
  rw [List.length_map, List.length_range] at this
  omega
structure Cyc (A : List Arc) (ca : List (Int × Int)) (y : Int) (p : Nat) : Prop where
  pos : 1 ≤ p
  ret : back A ca p y = y
  min : ∀ i, 1 ≤ i → i < p → back A ca i y ≠ y
  key : ∀ i, back A ca i y ∈ keysM ca
/-- a mark that was lowered in the last pass leads back to a way round -/
theorem leads {A : List Arc} {s : BS} {lev tm : Int → Nat} {v : Int} {M : List Int} (h : GP A M.length s lev tm) (hv : s.last = some v) (hA : ∀ e ∈ A, e.a ∈ M) (hvM : v ∈ M) (hn : (keysM s.ca).Nodup) :
    (∀ i, back A s.ca i v ∈ keysM s.ca) ∧ ∃ p, Cyc A s.ca (back A s.ca s.ca.length v) p ∧ p ≤ s.ca.length := by
  have hlv : lev v = M.length := h.las v hv
  have hl : ∀ i, lev v ≤ lev (back A s.ca i v) + i := fun i => by
    induction i with
    | zero => exact Nat.le_refl _
    | succ i ih =>
      have : lev (back A s.ca i v) ≤ lev (predF A s.ca (back A s.ca i v)) + 1 := by
        unfold predF
        split
        · rename_i n hn'
          exact h.lv _ n hn'
        · exact Nat.le_succ _
      show lev v ≤ lev (predF A s.ca (back A s.ca i v)) + (i + 1)
      omega
  have hM : ∀ i, back A s.ca i v ∈ M := fun i => by
    induction i with
    | zero => exact hvM
    | succ i ih =>
      show predF A s.ca (back A s.ca i v) ∈ M
      unfold predF
      split
      · rename_i n hn'
        obtain ⟨n1, n2, _⟩ := h.num _ n hn'
        obtain ⟨k, rfl⟩ := Int.eq_ofNat_of_zero_le n1
        have hk : k < A.length := by omega
        rw [arcAt_ix (List.getElem?_eq_getElem hk)]
        exact hA _ (List.getElem_mem hk)
      · exact ih
  have hK0 : ∀ i, i < M.length → back A s.ca i v ∈ keysM s.ca := fun i hi => by
    refine Classical.byContradiction fun z => ?_
    have h1 := h.non _ (dget_none.mpr z)
    have h2 := hl i
    omega
  have hK : ∀ i, back A s.ca i v ∈ keysM s.ca := fun i => by
    obtain ⟨a, b, ab, b2, e⟩ := two_alike (f := fun i => back A s.ca i v) (K := M) (n := M.length + 1) (fun i _ => hM i) (by omega)
    by_cases c : i < M.length
    · exact hK0 i c
    · have per : ∀ t, back A s.ca (a + t) v = back A s.ca (b + t) v := fun t => by
        rw [back_add, back_add]
        exact congrArg _ e
      have down : ∀ n i, i ≤ n → a ≤ i → back A s.ca i v ∈ keysM s.ca := fun n => by
        induction n with
        | zero =>
          intro i hi hai
          exact hK0 i (by omega)
        | succ n ih =>
          intro i hi hai
          by_cases d : i < b
          · exact hK0 i (by omega)
          · have e1 := per (i - b)
            rw [show b + (i - b) = i by omega] at e1
            rw [← e1]
            exact ih _ (by omega) (by omega)
      exact down i i (Nat.le_refl _) (by omega)
  refine ⟨hK, ?_⟩
  obtain ⟨a, b, ab, b2, e⟩ := two_alike (f := fun i => back A s.ca i v) (K := keysM s.ca) (n := s.ca.length + 1) (fun i _ => hK i) (by rw [keys_len]; omega)
  have e : back A s.ca a v = back A s.ca b v := e
  have hper : back A s.ca (b - a) (back A s.ca s.ca.length v) = back A s.ca s.ca.length v := by
    rw [← back_add, show s.ca.length + (b - a) = b + (s.ca.length - a) by omega, back_add, ← e, ← back_add]
    congr 1
    omega
  obtain ⟨p, ⟨p1, p2⟩, p3⟩ := least (P := fun p => 1 ≤ p ∧ back A s.ca p (back A s.ca s.ca.length v) = back A s.ca s.ca.length v) ⟨b - a, by omega, hper⟩
  refine ⟨p, ⟨p1, p2, fun i hi hip z => p3 i hip ⟨hi, z⟩, fun i => by rw [← back_add]; exact hK _⟩, ?_⟩
  refine Classical.byContradiction fun z => ?_
  exact p3 (b - a) (by omega) ⟨by omega, hper⟩
theorem Cyc.diff {A : List Arc} {ca : List (Int × Int)} {y : Int} {p : Nat} (h : Cyc A ca y p) {i j : Nat} (hij : i < j) (hj : j < p) : back A ca i y ≠ back A ca j y := fun e => by
  have h1 : back A ca (i + (p - j)) y = y := by
    rw [back_add, e, ← back_add, show j + (p - j) = p by omega]
    exact h.ret
  exact h.min (i + (p - j)) (by omega) (by omega) h1
def roundN (A : List Arc) (ca : List (Int × Int)) (y : Int) (p : Nat) : List Int := (List.range p).map fun i => caAt ca (back A ca i y)
theorem roundN_succ (A : List Arc) (ca : List (Int × Int)) (y : Int) (p : Nat) : roundN A ca y (p + 1) = roundN A ca y p ++ [caAt ca (back A ca p y)] := by
  unfold roundN
  rw [List.range_succ, List.map_append]
  rfl
theorem caAt_is {A : List Arc} {ca : List (Int × Int)} {v : Int} (h : v ∈ keysM ca) : dget ca v = some (caAt ca v) ∧ predF A ca v = (arcAt A (caAt ca v)).a := by
  obtain ⟨n, hn⟩ := dget_of h
  unfold caAt predF
  rw [hn]
  exact ⟨rfl, rfl⟩
structure Round (A : List Arc) (l : List Int) : Prop where
  ne : l ≠ []
  num : ∀ n ∈ l, 0 ≤ n ∧ n < (A.length : Int)
  nodup : l.Nodup
  neg : (l.map fun n => (arcAt A n).c).sum < 0
  net : ∀ x : Int, (l.map fun n => b2i (decide (x = (arcAt A n).a)) - b2i (decide (x = (arcAt A n).b))).sum = 0
theorem round_ok {A : List Arc} {k : Nat} {s : BS} {lev tm : Int → Nat} (h : GP A k s lev tm) {y : Int} {p : Nat} (hc : Cyc A s.ca y p) : Round A (roundN A s.ca y p) := by
  have hb : ∀ i, 0 ≤ caAt s.ca (back A s.ca i y) ∧ caAt s.ca (back A s.ca i y) < (A.length : Int) ∧ (arcAt A (caAt s.ca (back A s.ca i y))).b = back A s.ca i y := fun i => h.num _ _ (caAt_is (A := A) (hc.key i)).1
  have ha : ∀ i, (arcAt A (caAt s.ca (back A s.ca i y))).a = back A s.ca (i + 1) y := fun i => (caAt_is (A := A) (hc.key i)).2.symm
  refine ⟨fun z => ?_, fun n hn => ?_, ?_, ?_, fun x => ?_⟩
  · have := congrArg List.length z
    unfold roundN at this
    rw [List.length_map, List.length_range, List.length_nil] at this
    have := hc.pos
    omega
  · obtain ⟨i, _, e⟩ := List.mem_map.mp hn
    rw [← e]
    exact ⟨(hb i).1, (hb i).2.1⟩
  · have hnd : ∀ m, m ≤ p → (roundN A s.ca y m).Nodup := fun m => by
      induction m with
      | zero => exact fun _ => List.nodup_nil
      | succ m ih =>
        intro hm
        rw [roundN_succ]
        refine List.nodup_append.mpr ⟨ih (by omega), by simp, fun x hx z hz => ?_⟩
        obtain ⟨i, hi, e⟩ := List.mem_map.mp hx
        have := List.mem_range.mp hi
        rw [List.mem_singleton.mp hz, ← e]
        intro q
        have e1 := (hb i).2.2
        rw [q, (hb m).2.2] at e1
        exact hc.diff this (by omega) e1.symm
    exact hnd p (Nat.le_refl _)
  · have key : ∀ j, pAt s.pr y > pAt s.pr (back A s.ca (j + 1) y) + ((roundN A s.ca y (j + 1)).map fun n => (arcAt A n).c).sum ∨ (pAt s.pr y ≥ pAt s.pr (back A s.ca (j + 1) y) + ((roundN A s.ca y (j + 1)).map fun n => (arcAt A n).c).sum ∧ tm (back A s.ca (j + 1) y) < tm y) := fun j => by
      induction j with
      | zero =>
        have h1 := h.str _ _ (caAt_is (A := A) (hc.key 0)).1
        rw [ha 0] at h1
        have e : ((roundN A s.ca y (0 + 1)).map fun n => (arcAt A n).c).sum = (arcAt A (caAt s.ca (back A s.ca 0 y))).c := by
          show (arcAt A (caAt s.ca (back A s.ca 0 y))).c + 0 = _
          omega
        rw [e]
        exact h1
      | succ j ih =>
        have h1 := h.str _ _ (caAt_is (A := A) (hc.key (j + 1))).1
        rw [ha (j + 1)] at h1
        have e : ((roundN A s.ca y (j + 1 + 1)).map fun n => (arcAt A n).c).sum = ((roundN A s.ca y (j + 1)).map fun n => (arcAt A n).c).sum + (arcAt A (caAt s.ca (back A s.ca (j + 1) y))).c := by
          rw [roundN_succ, List.map_append, List.sum_append]
          show _ + ((arcAt A (caAt s.ca (back A s.ca (j + 1) y))).c + 0) = _
          omega
        rw [e]
        rcases ih with ih | ⟨ih, ih2⟩
        · left
          rcases h1 with h1 | ⟨h1, _⟩ <;> omega
        · rcases h1 with h1 | ⟨h1, h2⟩
          · left
            omega
          · right
            exact ⟨by omega, by omega⟩
    have hp := hc.pos
    have h1 := key (p - 1)
    rw [show p - 1 + 1 = p by omega, hc.ret] at h1
    rcases h1 with h1 | ⟨_, h1⟩
    · omega
    · omega
  · have key : ∀ j, ((roundN A s.ca y j).map fun n => b2i (decide (x = (arcAt A n).a)) - b2i (decide (x = (arcAt A n).b))).sum = b2i (decide (x = back A s.ca j y)) - b2i (decide (x = y)) := fun j => by
      induction j with
      | zero =>
        show (0 : Int) = b2i (decide (x = y)) - b2i (decide (x = y))
        omega
      | succ j ih =>
        rw [roundN_succ, List.map_append, List.sum_append, ih]
        show _ + (b2i (decide (x = (arcAt A (caAt s.ca (back A s.ca j y))).a)) - b2i (decide (x = (arcAt A (caAt s.ca (back A s.ca j y))).b)) + 0) = _
        rw [ha j, (hb j).2.2]
        omega
    rw [key p, hc.ret]
    omega
open Classical in
/-- the way round to which a mark leads -/
noncomputable def lper (A : List Arc) (ca : List (Int × Int)) (y : Int) : Nat := if h : ∃ p, Cyc A ca y p then h.choose else 0
theorem lper_cyc {A : List Arc} {ca : List (Int × Int)} {y : Int} (h : ∃ p, Cyc A ca y p) : Cyc A ca y (lper A ca y) := by
  unfold lper
  rw [dif_pos h]
  exact h.choose_spec
theorem cyc_uniq {A : List Arc} {ca : List (Int × Int)} {y : Int} {p q : Nat} (h : Cyc A ca y p) (h' : Cyc A ca y q) : p = q := by
  by_cases c : p < q
  · exact absurd h.ret (h'.min p h.pos c)
  · by_cases d : q < p
    · exact absurd h'.ret (h.min q h'.pos d)
    · omega
/-! prices at the begin -/
def lpr1 (m : List (Int × Int)) (e : Arc) : List (Int × Int) := dput (dput m e.a 0) e.b 0
def lpr (A : List Arc) : List (Int × Int) := A.foldl lpr1 []
theorem lpr_mem {A : List Arc} {x : Int} : x ∈ keysM (lpr A) ↔ ∃ e ∈ A, x = e.a ∨ x = e.b := by
  have key : ∀ (l : List Arc) (m : List (Int × Int)), x ∈ keysM (l.foldl lpr1 m) ↔ x ∈ keysM m ∨ ∃ e ∈ l, x = e.a ∨ x = e.b := fun l => by
    induction l with
    | nil => exact fun m => ⟨Or.inl, fun h => h.elim id fun ⟨e, he, _⟩ => by cases he⟩
    | cons e l ih =>
      intro m
      rw [List.foldl_cons, ih]
      unfold lpr1
      rw [mem_dput, mem_dput]
      constructor
      · rintro ((h | h | h) | ⟨e', h1, h2⟩)
        · exact .inr ⟨e, List.mem_cons_self, .inr h⟩
        · exact .inr ⟨e, List.mem_cons_self, .inl h⟩
        · exact .inl h
        · exact .inr ⟨e', List.mem_cons_of_mem _ h1, h2⟩
      · rintro (h | ⟨e', h1, h2⟩)
        · exact .inl (.inr (.inr h))
        · rcases List.mem_cons.mp h1 with q | q
          · rw [q] at h2
            rcases h2 with h2 | h2
            · exact .inl (.inr (.inl h2))
            · exact .inl (.inl h2)
          · exact .inr ⟨e', q, h2⟩
  have := key A []
  rw [show keysM ([] : List (Int × Int)) = [] from rfl] at this
  unfold lpr
  rw [this]
  exact ⟨fun h => h.elim (fun z => by cases z) id, Or.inr⟩
theorem lpr_nodup (A : List Arc) : (keysM (lpr A)).Nodup := by
  have key : ∀ (l : List Arc) (m : List (Int × Int)), (keysM m).Nodup → (keysM (l.foldl lpr1 m)).Nodup := fun l => by
    induction l with
    | nil => exact fun m h => h
    | cons e l ih => exact fun m h => ih _ (nodup_dput (nodup_dput h))
  exact key A [] List.nodup_nil
theorem lpr_zero (A : List Arc) (x : Int) : pAt (lpr A) x = 0 := by
  have key : ∀ (l : List Arc) (m : List (Int × Int)), pAt m x = 0 → pAt (l.foldl lpr1 m) x = 0 := fun l => by
    induction l with
    | nil => exact fun m h => h
    | cons e l ih =>
      intro m h
      refine ih _ ?_
      unfold lpr1
      rw [pAt_put, pAt_put]
      split
      · rfl
      · split
        · rfl
        · exact h
  exact key A [] rfl
def bs0 (A : List Arc) : BS := ⟨lpr A, [], none⟩
theorem bs0_gp (A : List Arc) : GP A 0 (bs0 A) (fun _ => 0) (fun _ => 0) := by
  refine ⟨fun v n h => (by cases h), fun v n h => (by cases h), fun v n h => (by cases h), fun v _ => rfl, ⟨1, fun _ => Nat.one_pos⟩, fun _ => Nat.le_refl _, fun _ _ _ => rfl, fun v h => (by cases h), fun _ h => by omega⟩
/-- the marks stay the keys of the prices -/
structure BK (A : List Arc) (K : List Int) (s : BS) : Prop where
  keys : keysM s.pr = K
  cand : (keysM s.ca).Nodup
  cin : ∀ v ∈ keysM s.ca, v ∈ K
  lin : ∀ v, s.last = some v → v ∈ K
theorem bk_step {A : List Arc} {K : List Int} {s : BS} {p : Int × Arc} (h : BK A K s) (hp : p.2.b ∈ K) : BK A K (bstep s p) := by
  unfold bstep
  split
  · refine ⟨?_, nodup_dput h.cand, fun v hv => ?_, fun v hv => ?_⟩
    · show keysM (dput s.pr _ _) = K
      rw [keys_dput, if_pos (by rw [h.keys]; exact hp)]
      exact h.keys
    · rcases mem_dput.mp hv with e | e
      · rw [e]
        exact hp
      · exact h.cin v e
    · have hv : some p.2.b = some v := hv
      cases hv
      exact hp
  · exact h
theorem bk_fold {A : List Arc} {K : List Int} : ∀ {l : List (Int × Arc)} {s : BS}, BK A K s → (∀ p ∈ l, p.2.b ∈ K) → BK A K (l.foldl bstep s)
  | [], _, h, _ => h
  | p :: l, s, h, hl => bk_fold (l := l) (s := bstep s p) (bk_step h (hl p List.mem_cons_self)) fun q hq => hl q (List.mem_cons_of_mem _ hq)
theorem bk_pass {A : List Arc} {K : List Int} {s : BS} (h : BK A K s) (hA : ∀ e ∈ A, e.b ∈ K) : BK A K (bpass A s) := by
  unfold bpass
  refine bk_fold ⟨h.keys, h.cand, h.cin, fun v hv => by cases hv⟩ fun p hp => ?_
  obtain ⟨i, _, h2⟩ := enumA_mem hp
  exact hA _ (List.mem_of_getElem? h2)
theorem bk_run {A : List Arc} {K : List Int} (hA : ∀ e ∈ A, e.b ∈ K) : ∀ (m : Nat) {s : BS}, BK A K s → BK A K (brun A m s)
  | 0, _, h => h
  | m + 1, s, h => by
    unfold brun
    split
    · exact bk_pass h hA
    · exact bk_run hA m (bk_pass h hA)
def bset (A : List Arc) : BS := brun A (lpr A).length (bs0 A)
noncomputable def lround (A : List Arc) (s : BS) : List Int := match s.last with
  | none => []
  | some v => roundN A s.ca (back A s.ca s.ca.length v) (lper A s.ca (back A s.ca s.ca.length v))
structure Settled (A : List Arc) (s : BS) : Prop where
  keys : keysM s.pr = keysM (lpr A)
  fit : s.last = none → ∀ e ∈ A, pAt s.pr e.b ≤ pAt s.pr e.a + e.c
  way : ∀ v, s.last = some v → (∀ i, back A s.ca i v ∈ keysM s.ca) ∧ Cyc A s.ca (back A s.ca s.ca.length v) (lper A s.ca (back A s.ca s.ca.length v)) ∧ lper A s.ca (back A s.ca s.ca.length v) ≤ s.ca.length ∧ Round A (lround A s)
  num : ∀ v n, dget s.ca v = some n → 0 ≤ n ∧ n < (A.length : Int)
  cal : s.ca.length ≤ (lpr A).length
theorem settled_ok (A : List Arc) : Settled A (bset A) := by
  have hk : BK A (keysM (lpr A)) (bset A) := bk_run (fun e he => lpr_mem.mpr ⟨e, he, .inr rfl⟩) _ ⟨rfl, List.nodup_nil, fun v hv => (by cases hv), fun v hv => (by cases hv)⟩
  obtain ⟨k', lev, tm, g, b1, b2, b3⟩ := brun_gp (A := A) (lpr A).length 0 (bs0 A) _ _ (bs0_gp A)
  have g : GP A k' (bset A) lev tm := g
  have b2 : (bset A).last = none → (lpr A).length ≠ 0 → 0 < k' := b2
  have b3 : ∀ v, (bset A).last = some v → k' = 0 + (lpr A).length := b3
  refine ⟨hk.keys, fun hl e he => ?_, fun v hv => ?_, fun v n hn => ⟨(g.num v n hn).1, (g.num v n hn).2.1⟩, ?_⟩
  · refine Classical.byContradiction fun z => ?_
    have h1 := g.don e he (by omega)
    have hne : (lpr A).length ≠ 0 := fun q => by
      have : e.a ∈ keysM (lpr A) := lpr_mem.mpr ⟨e, he, .inl rfl⟩
      rw [List.length_eq_zero_iff.mp q] at this
      cases this
    have h2 := g.low hl (b2 hl hne) e.a
    omega
  · have hk' := b3 v hv
    rw [Nat.zero_add, ← keys_len] at hk'
    rw [hk'] at g
    obtain ⟨h1, p, h2, h3⟩ := leads g hv (fun e he => lpr_mem.mpr ⟨e, he, .inl rfl⟩) (hk.lin v hv) hk.cand
    have hc := lper_cyc ⟨p, h2⟩
    have hp := cyc_uniq hc h2
    refine ⟨h1, hc, by omega, ?_⟩
    unfold lround
    rw [hv]
    exact round_ok g hc
  · have := nodup_len hk.cand hk.cin
    rw [keys_len, keys_len] at this
    exact this
end
end TC
namespace TC
section
open PySem PySem.Spec L2
/-! tiles turned about -/
def mkArc (T : Tls) (st : Stp) : Arc := ⟨(faceOf T st).1, (faceOf T st).2, if st.2 = true then -1 else 1⟩
def warcs (T : Tls) (ways : List Bool) : List Arc := (enumA ways).map (mkArc T)
theorem warcs_len (T : Tls) (ways : List Bool) : (warcs T ways).length = ways.length := by
  unfold warcs
  rw [List.length_map, enumA_len]
theorem warcs_ix {T : Tls} {ways : List Bool} {i : Nat} (h : i < ways.length) : (warcs T ways)[i]? = some (mkArc T (wstep ways (i : Int))) := by
  unfold warcs
  rw [List.getElem?_map, enumA_get (List.getElem?_eq_getElem h)]
  unfold wstep wayAt
  rw [Int.toNat_natCast, List.getD_eq_getElem?_getD, List.getElem?_eq_getElem h]
  rfl
theorem warcs_at {T : Tls} {ways : List Bool} (hl : ways.length = T.length) {n : Int} (hn : isNum T n = true) : arcAt (warcs T ways) n = mkArc T (wstep ways n) := by
  obtain ⟨h1, h2⟩ := isNum_iff.mp hn
  obtain ⟨i, rfl⟩ := Int.eq_ofNat_of_zero_le h1
  exact arcAt_ix (warcs_ix (by omega))
theorem mem_warcs {T : Tls} {ways : List Bool} (hl : ways.length = T.length) {e : Arc} : e ∈ warcs T ways ↔ ∃ n, isNum T n = true ∧ e = mkArc T (wstep ways n) := by
  constructor
  · intro h
    obtain ⟨i, hi⟩ := List.mem_iff_getElem?.mp h
    have hil := (List.getElem?_eq_some_iff.mp hi).1
    rw [warcs_len] at hil
    rw [warcs_ix hil] at hi
    exact ⟨(i : Int), isNum_iff.mpr (by omega), (Option.some.inj hi).symm⟩
  · rintro ⟨n, hn, e⟩
    obtain ⟨h1, h2⟩ := isNum_iff.mp hn
    obtain ⟨i, rfl⟩ := Int.eq_ofNat_of_zero_le h1
    rw [e]
    exact List.mem_of_getElem? (warcs_ix (by omega))
def flip1 (ways : List Bool) (n : Int) : List Bool := ways.set n.toNat (!wayAt ways n)
def lflip (ways : List Bool) (l : List Int) : List Bool := l.foldl flip1 ways
theorem flip1_len (ways : List Bool) (n : Int) : (flip1 ways n).length = ways.length := List.length_set
theorem lflip_len : ∀ (l : List Int) (ways : List Bool), (lflip ways l).length = ways.length
  | [], _ => rfl
  | n :: l, ways => by
    show (lflip (flip1 ways n) l).length = _
    rw [lflip_len l, flip1_len]
theorem flip1_at {ways : List Bool} {n m : Int} (hn : 0 ≤ n ∧ n < (ways.length : Int)) (hm : 0 ≤ m) : wayAt (flip1 ways n) m = if m = n then !wayAt ways n else wayAt ways m := by
  obtain ⟨i, rfl⟩ := Int.eq_ofNat_of_zero_le hn.1
  obtain ⟨j, rfl⟩ := Int.eq_ofNat_of_zero_le hm
  unfold flip1
  rw [Int.toNat_natCast]
  unfold wayAt
  rw [Int.toNat_natCast, Int.toNat_natCast, List.getD_eq_getElem?_getD, List.getD_eq_getElem?_getD, List.getD_eq_getElem?_getD]
  by_cases c : j = i
  · subst c
    rw [if_pos rfl, List.getElem?_set_self (by omega)]
    rfl
  · rw [if_neg (by omega), List.getElem?_set_ne (by omega)]
theorem lflip_at : ∀ {l : List Int} {ways : List Bool} {m : Int}, l.Nodup → (∀ n ∈ l, 0 ≤ n ∧ n < (ways.length : Int)) → 0 ≤ m → wayAt (lflip ways l) m = if m ∈ l then !wayAt ways m else wayAt ways m
  | [], _, _, _, _, _ => rfl
  | n :: l, ways, m, hn, hl, hm => by
    obtain ⟨n1, n2⟩ := List.nodup_cons.mp hn
    have h0 := hl n List.mem_cons_self
    show wayAt (lflip (flip1 ways n) l) m = _
    rw [lflip_at n2 (fun k hk => by rw [flip1_len]; exact hl k (List.mem_cons_of_mem _ hk)) hm, flip1_at h0 hm]
    by_cases c : m = n
    · subst c
      rw [if_neg n1, if_pos rfl, if_pos List.mem_cons_self]
    · rw [if_neg c]
      by_cases d : m ∈ l
      · rw [if_pos d, if_pos (List.mem_cons_of_mem _ d)]
      · rw [if_neg d, if_neg (fun z => (List.mem_cons.mp z).elim c d)]
theorem sum_addI {f g : Int → Int} : ∀ l : List Int, (l.map fun n => f n + g n).sum = (l.map f).sum + (l.map g).sum
  | [] => rfl
  | a :: l => by
    rw [List.map_cons, List.map_cons, List.map_cons, List.sum_cons, List.sum_cons, List.sum_cons, sum_addI l]
    omega
theorem sum_some {g : Int → Int} {R l : List Int} (hR : R.Nodup) (hl : l.Nodup) (hs : ∀ n ∈ l, n ∈ R) : (R.map fun n => if n ∈ l then g n else 0).sum = (l.map g).sum := by
  have h1 := sumW_all (f := g) hR hl hs
  rw [sumW_nil] at h1
  have h2 := sum_addI (f := fun n => if n ∈ l then g n else 0) (g := fun n => if n ∈ l then 0 else g n) R
  have e : (R.map fun n => (if n ∈ l then g n else 0) + (if n ∈ l then 0 else g n)) = R.map g := List.map_congr_left fun n _ => by
    by_cases c : n ∈ l
    · rw [if_pos c, if_pos c, Int.add_zero]
    · rw [if_neg c, if_neg c, Int.zero_add]
  have h2 : (R.map fun n => (if n ∈ l then g n else 0) + (if n ∈ l then 0 else g n)).sum = (R.map fun n => if n ∈ l then g n else 0).sum + (R.map fun n => if n ∈ l then 0 else g n).sum := h2
  rw [e] at h2
  unfold sumW at h1
  omega
def cnt (T : Tls) (ways : List Bool) : Int := ((rangeI T.length).map fun n => b2i (wayAt ways n)).sum
theorem sum_mulI (c : Int) {f : Int → Int} : ∀ l : List Int, (l.map fun n => c * f n).sum = c * (l.map f).sum
  | [] => by show 0 = c * 0; omega
  | a :: l => by
    rw [List.map_cons, List.map_cons, List.sum_cons, List.sum_cons, sum_mulI c l, Int.mul_add]
theorem flip_ok {T : Tls} {ways : List Bool} {l : List Int} (hl : ways.length = T.length) (hE : Even T ways) (hR : Round (warcs T ways) l) : (lflip ways l).length = T.length ∧ Even T (lflip ways l) ∧ cnt T (lflip ways l) < cnt T ways := by
  have hnum : ∀ n ∈ l, isNum T n = true := fun n hn => by
    have := hR.num n hn
    rw [warcs_len, hl] at this
    exact isNum_iff.mpr this
  have hsub : ∀ n ∈ l, n ∈ rangeI T.length := fun n hn => mem_rangeI.mpr (hnum n hn)
  have hat : ∀ n, isNum T n = true → wayAt (lflip ways l) n = if n ∈ l then !wayAt ways n else wayAt ways n := fun n hn => lflip_at hR.nodup (fun m hm => by rw [hl]; exact isNum_iff.mp (hnum m hm)) (isNum_iff.mp hn).1
  have harc : ∀ n, isNum T n = true → warc T (lflip ways l) n = if n ∈ l then ((warc T ways n).2, (warc T ways n).1) else warc T ways n := fun n hn => by
    unfold warc wstep faceOf
    rw [hat n hn]
    by_cases c : n ∈ l
    · rw [if_pos c, if_pos c]
      cases wayAt ways n <;> rfl
    · rw [if_neg c, if_neg c]
  refine ⟨by rw [lflip_len, hl], fun x => ?_, ?_⟩
  · have e : (rangeI T.length).map (netx T (lflip ways l) x) = (rangeI T.length).map fun n => netx T ways x n + (if n ∈ l then -2 * netx T ways x n else 0) := List.map_congr_left fun n hn => by
      have h1 := harc n (mem_rangeI.mp hn)
      unfold netx
      rw [h1]
      by_cases c : n ∈ l
      · rw [if_pos c, if_pos c]
        show b2i (decide (x = (warc T ways n).2)) - b2i (decide (x = (warc T ways n).1)) = _
        omega
      · rw [if_neg c, if_neg c]
        omega
    rw [e, sum_addI, hE x, sum_some (g := fun n => -2 * netx T ways x n) (rangeI_nodup _) hR.nodup hsub, sum_mulI]
    have h2 := hR.net x
    have e2 : (l.map fun n => b2i (decide (x = (arcAt (warcs T ways) n).a)) - b2i (decide (x = (arcAt (warcs T ways) n).b))) = l.map (netx T ways x) := List.map_congr_left fun n hn => by
      rw [warcs_at hl (hnum n hn)]
      rfl
    rw [e2] at h2
    rw [h2]
    rfl
  · have e : ((rangeI T.length).map fun n => b2i (wayAt (lflip ways l) n)) = (rangeI T.length).map fun n => b2i (wayAt ways n) + (if n ∈ l then (arcAt (warcs T ways) n).c else 0) := List.map_congr_left fun n hn => by
      rw [hat n (mem_rangeI.mp hn)]
      by_cases c : n ∈ l
      · rw [if_pos c, if_pos c, warcs_at hl (hnum n c)]
        show b2i (!wayAt ways n) = b2i (wayAt ways n) + (if wayAt ways n = true then -1 else 1)
        cases wayAt ways n <;> rfl
      · rw [if_neg c, if_neg c]
        omega
    unfold cnt
    rw [e, sum_addI, sum_some (g := fun n => (arcAt (warcs T ways) n).c) (rangeI_nodup _) hR.nodup hsub]
    have := hR.neg
    omega
theorem cnt_nonneg (T : Tls) (ways : List Bool) : 0 ≤ cnt T ways := by
  unfold cnt
  generalize rangeI T.length = l
  induction l with
  | nil => exact Int.le_refl _
  | cons a l ih =>
    rw [List.map_cons, List.sum_cons]
    have := b2i_01 (wayAt ways a)
    omega
/-- where no way round is left -/
noncomputable def lset (T : Tls) : Nat → List Bool → List Bool
  | 0, w => w
  | n + 1, w => if lround (warcs T w) (bset (warcs T w)) = [] then w else lset T n (lflip w (lround (warcs T w) (bset (warcs T w))))
structure WayOk (T : Tls) (w : List Bool) : Prop where
  len : w.length = T.length
  even : Even T w
theorem lround_last {A : List Arc} : (lround A (bset A) = [] ↔ (bset A).last = none) := by
  have h := settled_ok A
  unfold lround
  cases hl : (bset A).last with
  | none => exact ⟨fun _ => rfl, fun _ => rfl⟩
  | some v =>
    obtain ⟨_, _, _, h4⟩ := h.way v hl
    unfold lround at h4
    rw [hl] at h4
    exact ⟨fun z => absurd z h4.ne, fun z => by cases z⟩
theorem way_step {T : Tls} {w : List Bool} (h : WayOk T w) (hne : lround (warcs T w) (bset (warcs T w)) ≠ []) : WayOk T (lflip w (lround (warcs T w) (bset (warcs T w)))) ∧ cnt T (lflip w (lround (warcs T w) (bset (warcs T w)))) < cnt T w ∧ Round (warcs T w) (lround (warcs T w) (bset (warcs T w))) := by
  cases hl : (bset (warcs T w)).last with
  | none => exact absurd (lround_last.mpr hl) hne
  | some v =>
    obtain ⟨_, _, _, h4⟩ := (settled_ok (warcs T w)).way v hl
    obtain ⟨a, b, c⟩ := flip_ok h.len h.even h4
    exact ⟨⟨a, b⟩, c, h4⟩
theorem lset_ok {T : Tls} : ∀ (n : Nat) {w : List Bool}, WayOk T w → cnt T w ≤ (n : Int) → WayOk T (lset T n w) ∧ (bset (warcs T (lset T n w))).last = none
  | 0, w, h, hc => by
    refine ⟨h, Classical.byContradiction fun z => ?_⟩
    obtain ⟨_, h2, _⟩ := way_step h fun q => z (lround_last.mp q)
    have := cnt_nonneg T (lflip w (lround (warcs T w) (bset (warcs T w))))
    omega
  | n + 1, w, h, hc => by
    unfold lset
    split
    · rename_i q
      exact ⟨h, lround_last.mp q⟩
    · rename_i q
      obtain ⟨h1, h2, _⟩ := way_step h q
      exact lset_ok n h1 (by omega)
/-! the bound -/
theorem walk_price {T : Tls} (P : Int → Int) : ∀ {r : List Stp} {a b : Int}, WalkT T a r b → (r.map fun st => P (faceOf T st).2 - P (faceOf T st).1).sum = P b - P a
  | [], a, b, h => by
    rw [show a = b from h]
    show (0 : Int) = _
    omega
  | st :: r, a, b, h => by
    have ih := walk_price P h.2
    rw [List.map_cons, List.sum_cons, ih, h.1]
    omega
theorem chain_price (P : Int → Int) : ∀ {l : List Part} {a b : Int}, ChainP a l b → (l.map fun p => P p.b - P p.a).sum = P b - P a
  | [], a, b, h => by
    rw [show a = b from h]
    show (0 : Int) = _
    omega
  | p :: l, a, b, h => by
    have ih := chain_price P h.2
    rw [List.map_cons, List.sum_cons, ih, h.1]
    omega
theorem perm_sumI {α : Type} {f : α → Int} {l l' : List α} (h : l.Perm l') : (l.map f).sum = (l'.map f).sum := by
  induction h with
  | nil => rfl
  | cons a _ ih => rw [List.map_cons, List.map_cons, List.sum_cons, List.sum_cons, ih]
  | swap a b l =>
    rw [List.map_cons, List.map_cons, List.map_cons, List.map_cons, List.sum_cons, List.sum_cons, List.sum_cons, List.sum_cons]
    omega
  | trans _ _ ih1 ih2 => exact ih1.trans ih2
theorem dual {u u' s : Int → Int} {l : List Int} (h0 : ∀ n ∈ l, (u n = 0 ∧ s n ≤ 1 ∨ u n = 1 ∧ 1 ≤ s n) ∧ (u' n = 0 ∨ u' n = 1)) (h1 : (l.map fun n => s n - 2 * (u n * s n)).sum = 0) (h2 : (l.map fun n => s n - 2 * (u' n * s n)).sum = 0) : (l.map u).sum ≤ (l.map u').sum := by
  have key : ∀ l : List Int, (∀ n ∈ l, (u n = 0 ∧ s n ≤ 1 ∨ u n = 1 ∧ 1 ≤ s n) ∧ (u' n = 0 ∨ u' n = 1)) → (l.map fun n => s n - 2 * (u n * s n)).sum - (l.map fun n => s n - 2 * (u' n * s n)).sum ≤ 2 * ((l.map u').sum - (l.map u).sum) := fun l => by
    induction l with
    | nil => exact fun _ => Int.le_refl _
    | cons a l ih =>
      intro h
      have h3 := ih fun n hn => h n (List.mem_cons_of_mem _ hn)
      obtain ⟨h4, h5⟩ := h a List.mem_cons_self
      simp only [List.map_cons, List.sum_cons]
      rcases h4 with ⟨e, b⟩ | ⟨e, b⟩ <;> rcases h5 with e' | e' <;> rw [e, e'] <;> omega
  have := key l h0
  omega
/-- prices that fit bound the turned tiles from below -/
theorem least_turned {T : Tls} {w w' : List Bool} {P : Int → Int} (hw : ((rangeI T.length).map fun n => P (warc T w n).2 - P (warc T w n).1).sum = 0) (hw' : ((rangeI T.length).map fun n => P (warc T w' n).2 - P (warc T w' n).1).sum = 0)
    (hf : ∀ n, isNum T n = true → P (warc T w n).2 ≤ P (warc T w n).1 + (if wayAt w n = true then -1 else 1)) : cnt T w ≤ cnt T w' := by
  have face : ∀ (v : List Bool) (n : Int), P (warc T v n).2 - P (warc T v n).1 = (P (tileAt T n).2 - P (tileAt T n).1) - 2 * (b2i (wayAt v n) * (P (tileAt T n).2 - P (tileAt T n).1)) := fun v n => by
    unfold warc wstep faceOf
    cases wayAt v n
    · show P (tileAt T n).2 - P (tileAt T n).1 = _ - 2 * (0 * _)
      omega
    · show P (tileAt T n).1 - P (tileAt T n).2 = _ - 2 * (1 * _)
      omega
  refine dual (s := fun n => P (tileAt T n).2 - P (tileAt T n).1) (fun n hn => ⟨?_, b2i_01 _⟩) ?_ ?_
  · have h1 := hf n (mem_rangeI.mp hn)
    have h2 := face w n
    cases c : wayAt w n with
    | false =>
      rw [c] at h1 h2
      left
      refine ⟨rfl, ?_⟩
      have h2 : _ = P (tileAt T n).2 - P (tileAt T n).1 - 2 * (0 * (P (tileAt T n).2 - P (tileAt T n).1)) := h2
      have h1 : P (warc T w n).2 ≤ P (warc T w n).1 + 1 := h1
      omega
    | true =>
      rw [c] at h1 h2
      right
      refine ⟨rfl, ?_⟩
      have h2 : _ = P (tileAt T n).2 - P (tileAt T n).1 - 2 * (1 * (P (tileAt T n).2 - P (tileAt T n).1)) := h2
      have h1 : P (warc T w n).2 ≤ P (warc T w n).1 + -1 := h1
      omega
  · rw [← hw]
    congr 1
    exact List.map_congr_left fun n _ => (face w n).symm
  · rw [← hw']
    congr 1
    exact List.map_congr_left fun n _ => (face w' n).symm
end
end TC
/-! calls that are lent what is one's own -/
namespace TC
open PySem PySem.Spec L2
open Evl (Ex)
section
variable {K : PySem.W.Frag} {ta tb tc te tl tk t3 : TE} {d : DE} {P : Post}
/-- x = f(a, own, own) -/
theorem sd_callO3 {α γ : Type} [Rep α] [Rep γ] {pre : DE → DE → Slot → Prop} {X : XK} {a : α} {r1 r2 r1' r2' : Res} [IsRef r1] [IsRef r2] {res : γ} {i1 i2 k : Nat} (ha : ED ta d a) (h1 : d[i1]? = some (Slot.own r1)) (h2 : d[i2]? = some (Slot.own r2)) (hne : i1 ≠ i2)
    (hp : ∀ p1 p2, pre [.sh a, .own (atR p1 r1), .own (atR p2 r2)] [.sh a, .own (atR p1 r1'), .own (atR p2 r2')] (.sh res)) (nx : P.nx (((d.set i1 (.own r1')).set i2 (.own r2')).set k (.sh res))) :
    SD (tAsg (tCall (spO pre) [] X (tCons ta (tCons (tVar i1) (tCons (tVar i2) tNil)))) (gName k)) d P := fun B Hf O σ H D E S =>
  ha B Hf O σ H E _ fun x Hf1 H1 E1 e1 rx => by
    obtain ⟨v1, s1, g1⟩ := E1.getO h1
    obtain ⟨v2, s2, g2⟩ := E1.getO h2
    obtain ⟨p1, rfl⟩ := IsRef.ref g1
    obtain ⟨p2, rfl⟩ := IsRef.ref g2
    refine ⟨_, s1, _, s2, ?_⟩
    show spO pre ([x, .ref p1, .ref p2] ++ []) H1 _ X
    rw [List.append_nil]
    refine ⟨Hf1, fun j => if j = 1 then O i1 else if j = 2 then O i2 else noHp, _, _, _, E1.hf, ⟨rfl, fun i s e => ?_, fun i p o e => ?_, fun i j p hij e => ?_⟩, hp p1 p2, fun r Hf3 H3 O' On PO => ?_⟩
    · match i, e with
      | 0, e => (cases e; exact ⟨x, rfl, rx⟩)
      | 1, e => (cases e; exact ⟨.ref p1, rfl, rfl, g1⟩)
      | 2, e => (cases e; exact ⟨.ref p2, rfl, rfl, g2⟩)
      | i + 3, e => cases e
    · have e : (if i = 1 then O i1 else if i = 2 then O i2 else noHp) p = some o := e
      split at e
      · exact ⟨(E1.ow i1 p o e).1, (E1.ow i1 p o e).2.1⟩
      · split at e
        · exact ⟨(E1.ow i2 p o e).1, (E1.ow i2 p o e).2.1⟩
        · cases e
    · have e : (if i = 1 then O i1 else if i = 2 then O i2 else noHp) p ≠ none := e
      show (if j = 1 then O i1 else if j = 2 then O i2 else noHp) p = none
      by_cases a1 : i = 1
      · rw [if_pos a1] at e
        rw [if_neg (fun z => hij (a1.trans z.symm))]
        split
        · exact E1.dj i1 i2 p hne e
        · rfl
      · rw [if_neg a1] at e
        by_cases a2 : i = 2
        · rw [if_pos a2] at e
          split
          · exact E1.dj i2 i1 p (Ne.symm hne) e
          · rw [if_neg (fun z => hij (a2.trans z.symm))]
            rfl
        · rw [if_neg a2] at e
          exact absurd rfl e
    · obtain ⟨w1, a1, a2, a3⟩ := PO.k5.hold 1 _ rfl
      obtain ⟨w2, b1, b2, b3⟩ := PO.k5.hold 2 _ rfl
      subst a2 b2
      have E4 := E1.backO (i1 := i1) (i2 := i2) (j1 := 1) (j2 := 2) hne (by decide) (OA := fun j => if j = 1 then O i1 else if j = 2 then O i2 else noHp) (OA' := O') rfl rfl (fun j z1 z2 => by show (if j = 1 then O i1 else if j = 2 then O i2 else noHp) = noHp; rw [if_neg z1, if_neg z2]) PO.k1 PO.k2 PO.k3 PO.k4 PO.k5.ow PO.k5.dj PO.k6 ⟨_, s1, a3⟩ ⟨_, s2, b3⟩
      exact S.nx _ _ _ _ _ nx (E4.setS PO.k8)
/-- what was lent is taken back; what holds of the rest of the frozen part stays -/
theorem Env.unlend {B : Base} {Hf Hf2 Hf3 H H2 : Hp} {O : Nat → Hp} {σ : L2.St} {d2 : DE} {σ2 : L2.St} {i : Nat} (E : Env B Hf O d σ H) (E2 : Env B Hf2 (setO O i noHp) d2 σ2 H2) (e2 : Ex (plus Hf (O i)) Hf2)
    (h1 : Ex Hf3 Hf2) (h2 : ∀ p, O i p ≠ none → Hf3 p = none) (h3 : ∀ p o, O i p = none → Hf2 p = some o → Hf3 p = some o) : Env B Hf3 O d σ H2 ∧ Ex Hf Hf3 := by
  have ex : Ex Hf (plus Hf (O i)) := fun q u e => by
    cases w : O i q with
    | none => rw [plus_off w]; exact e
    | some x => rw [(E.ow i q x w).2.1] at e; cases e
  have ex3 : Ex Hf Hf3 := fun q u e => by
    refine h3 q u ?_ (e2 q u (ex q u e))
    cases w : O i q with
    | none => rfl
    | some x => rw [(E.ow i q x w).2.1] at e; cases e
  refine ⟨⟨E2.fr, fun q u e => E2.hf q u (h1 q u e), fun q u e => ex3 q u (E.f0 q u e), fun q a b => ?_, fun j q u e => ?_, E.dj, E.len, fun j s e => (E.sl j s e).mono ex3⟩, ex3⟩
  · cases w : Hf3 q with
    | none => rfl
    | some x =>
      have := h1 q x w
      rw [E2.fo q a b] at this
      cases this
  · obtain ⟨a, b, c⟩ := E.ow j q u e
    by_cases z : j = i
    · subst z
      exact ⟨E2.hf q u (e2 q u (plus_on e)), h2 q (by rw [e]; exact fun z => by cases z), c⟩
    · obtain ⟨a2, b2, c2⟩ := E2.ow j q u (by rw [setO_ne z]; exact e)
      refine ⟨a2, ?_, c⟩
      cases w : Hf3 q with
      | none => rfl
      | some x =>
        rw [h1 q x w] at b2
        cases b2
theorem paired_len0 {α β : Type} {F : α → β → Prop} {xs : List α} {ys : List β} (h : Paired F xs ys) : xs.length = ys.length := by
  induction h with
  | nil => rfl
  | cons _ _ ih => rw [List.length_cons, List.length_cons, ih]
theorem ints_not_bools {H : Hp} {vs : List V} {l : List Int} {w : List Bool} (h1 : Paired (rep H) vs l) (h2 : Paired (rep H) vs w) (hw : w ≠ []) : False := by
  cases h2 with
  | nil => exact hw rfl
  | cons r2 _ =>
    cases h1 with
    | cons r1 _ =>
      rename_i x _ _ _ _ _ _ _
      have e1 : _ = V.int _ := r1
      have e2 : _ = V.bl _ := r2
      rw [e1] at e2
      cases e2
/-- g = f(.., own ways, ..): a dict and a list of numbers come back, all new -/
theorem sd_asgTL {ways : List Bool} {m : List (Int × Int)} {l : List Int} {g : TG} {vs : List Nat} {d' : DE} {i : Nat} (hi : d[i]? = some (ol ways)) (hne : ways ≠ []) (h : ED te (d.set i (.sh ways)) (Dct.mk m, l)) (hg : GD g vs d (Dct.mk m, l) d') (k : P.nx d') :
    SD (tAsg te g) d P := fun B Hf O σ H D E S => by
  obtain ⟨v0, q1, p0, vs0, q2, q3, q4⟩ := E.getO hi
  refine h B _ _ σ H (E.lend hi) _ fun v Hf2 H2 E2 e2 r => ?_
  have at0 : Hf2 p0 = some (.lst vs0) := e2 _ _ (plus_on (by rw [q3]; exact one_at))
  have hO : ∀ p, O i p ≠ none ↔ p = p0 := fun p => by
    rw [q3]
    unfold one
    by_cases c : p = p0
    · rw [if_pos c]
      exact ⟨fun _ => c, fun _ z => by cases z⟩
    · rw [if_neg c]
      exact ⟨fun z => absurd rfl z, fun z => absurd z c⟩
  have hoff : ∀ p o, p ≠ p0 → Hf2 p = some o → (fun q => if q = p0 then none else Hf2 q) p = some o := fun p o c e => by
    show (if p = p0 then none else Hf2 p) = some o
    rw [if_neg c]
    exact e
  obtain ⟨E3, ex3⟩ := E.unlend (Hf3 := fun q => if q = p0 then none else Hf2 q) E2 e2 (fun p o e => by
    have e : (if p = p0 then none else Hf2 p) = some o := e
    by_cases c : p = p0
    · rw [if_pos c] at e
      cases e
    · rw [if_neg c] at e
      exact e) (fun p hp => if_pos ((hO p).mp hp)) (fun p o hp e => hoff p o (fun z => (hO p).mpr z hp) e)
  refine hg B _ O σ H2 v E3 ?_ _ fun σ' E4 _ _ => S.nx _ _ O σ' H2 k E4
  obtain ⟨p, x, y, r1, r2, ⟨px, kvs, r3, r4, r5⟩, ⟨py, ws, r6, r7, r8⟩⟩ := r
  refine ⟨p, x, y, r1, hoff p _ (fun z => ?_) r2, ⟨px, kvs, r3, hoff px _ (fun z => ?_) r4, ?_⟩, ⟨py, ws, r6, hoff py _ (fun z => ?_) r7, ?_⟩⟩
  · rw [z, at0] at r2
    cases r2
  · rw [z, at0] at r4
    cases r4
  · exact L2.Paired.mapP r5 fun _ _ q => q
  · rw [z, at0] at r7
    cases r7
    have ex : Ex Hf Hf2 := fun q u e => e2 q u (by
      cases w : O i q with
      | none => rw [plus_off w]; exact e
      | some x => rw [(E.ow i q x w).2.1] at e; cases e)
    exact ints_not_bools r8 (paired_mono ex q4) hne
  · exact L2.Paired.mapP r8 fun _ _ q => q
/-! what the last def tells -/
inductive TLeast
  | told (t : Told)
  | least (r : List Stp) (pr : List (Int × Int))
instance rpTLeast : Rep TLeast := ⟨fun H v t => match t with
  | .told t => rep H v t
  | .least r pr => ∃ p y z, v = .ref p ∧ H p = some (.tup [.str "ring", y, z]) ∧ rep H y r ∧ rep H z pr, fun {_ _ _ t} e h => by
    cases t with
    | told t => exact Rep.mono (a := t) e h
    | least r pr =>
      obtain ⟨p, y, z, h1, h2, h3, h4⟩ := h
      exact ⟨p, y, z, h1, e _ _ h2, Rep.mono e h3, Rep.mono e h4⟩⟩
theorem ed_ofTold {t : Told} (h : ED te d t) : ED te d (TLeast.told t) := h
theorem ed_asTold {t : Told} (h : ED te d (TLeast.told t)) : ED te d t := h
theorem ed_least {x : Str} {r : List Stp} {pr : List (Int × Int)} (ha : ED ta d r) (hb : ED tb d pr) (hx : x = "ring" := by rfl) : ED (tTup (tCons (tC (.str x)) (tCons ta (tCons tb tNil)))) d (TLeast.least r pr) := fun B Hf O σ H E Q q =>
  ed2 ha hb E (Q := fun y z H' => [V.str x, y, z].length ≤ sizeLine ∧ ∀ p, H' p = none → Q (.ref p) (upd H' p (.tup [.str x, y, z]))) fun y z Hf2 H2 E2 e2 r1 r2 =>
    ⟨small 3 (by decide), fun p hp => q _ _ _ (E2.alloc hp) (e2.trans (ex_upd (E2.fz hp))) ⟨p, y, z, rfl, by rw [hx]; exact upd_same, newRep (E2.fz hp) r1, newRep (E2.fz hp) r2⟩⟩
theorem ed_least0 {r : List Stp} {pr : List (Int × Int)} (h : ED ta d (TLeast.least r pr)) : ED (tOp (rIxT K) ta (tC (.int 0))) d ("ring" : Str) :=
  ed_op h ed_int fun H Hf x y Q e ⟨p, u, z, h1, h2, h3, h4⟩ r2 q => ⟨p, [.str "ring", u, z], 0, .str "ring", h1, r2, .inl (.inl (e _ _ h2)), rfl, q _ rfl⟩
theorem ed_least1 {r : List Stp} {pr : List (Int × Int)} (h : ED ta d (TLeast.least r pr)) : ED (tOp (rIxT K) ta (tC (.int 1))) d r :=
  ed_op h ed_int fun H Hf x y Q e ⟨p, u, z, h1, h2, h3, h4⟩ r2 q => ⟨p, [.str "ring", u, z], 1, u, h1, r2, .inl (.inl (e _ _ h2)), rfl, q _ h3⟩
theorem ed_least2 {r : List Stp} {pr : List (Int × Int)} (h : ED ta d (TLeast.least r pr)) : ED (tOp (rIxT K) ta (tC (.int 2))) d pr :=
  ed_op h ed_int fun H Hf x y Q e ⟨p, u, z, h1, h2, h3, h4⟩ r2 q => ⟨p, [.str "ring", u, z], 2, z, h1, r2, .inl (.inl (e _ _ h2)), rfl, q _ h4⟩
theorem ed_lenLeast {r : List Stp} {pr : List (Int × Int)} (ha : ED ta d (TLeast.least r pr)) : ED (tCB (fun xs H Q => ∃ p ys, xs = [.ref p] ∧ (SqL K H p ys ∨ SqT K H p ys) ∧ Q (.int ys.length) H) (tCons ta tNil)) d (3 : Int) := fun B Hf O σ H E Q q =>
  ha B Hf O σ H E _ fun v Hf1 H1 E1 e1 ⟨p, y, z, h1, h2, h3, h4⟩ => ⟨p, [.str "ring", y, z], by rw [h1], .inr (.inl (.inl (E1.hf _ _ h2))), q _ Hf1 H1 E1 e1 rfl⟩
instance : TyR TLeast := ⟨"tuple", fun {K H v a} h => by
  match a, h with
  | .told t, h => exact TyR.ty (α := Told) (a := t) h
  | .least r pr, ⟨p, y, z, h1, h2, _⟩ =>
    rw [h1]
    exact .base (.tup h2)⟩
end
end TC
/-! ### list(enumerate(xs)) -/
namespace TCE
open PySem PySem.W PySem.Calls PyProof.Rows PyProof.V PySem.Spec
abbrev EnX (h : Heap) (e it : Addr) (i : Int) (item : Value) (a : Addr) (f : Bool) : Prop :=
  h.get? e = some { cls := .type "enumerate", dict := none, data := .fields #[rawInt a, .bool f, .ref it, rawInt i, .none, item], slots := #[] }
section
variable {prog : Program} {w : World} {A : Around} {E : Value → Shared → Prop} {s : Shared}
theorem enX_next {e it l a : Addr} {f : Bool} {oa : Obj} {i : Nat} {items : Array Value} {x old : Value} {Q : Value → Shared → Prop}
    (he : EnX s.heap e it i old a f) (ha : s.heap.get? a = some oa) (hae : a ≠ e) (hai : a ≠ it) (hit : s.heap.IsListIter it l i) (hl : s.heap.IsList l items) (hx : items[i]? = some x) (hne : e ≠ it)
    (hQ : ∀ h', EnX h' e it ((i : Int) + 1) old a true → h'.IsListIter it l (i + 1) →
      h'.get? s.heap.objs.size = some { cls := .type "tuple", data := .seq #[.int i s.toks, x] } → h'.objs.size = s.heap.objs.size + 1 →
      (∀ b o, b ≠ e → b ≠ it → s.heap.get? b = some o → h'.get? b = some o) → Q (.ref s.heap.objs.size) { s with heap := h', toks := s.toks + 1 }) :
    wpAny (model prog w) A (Builtin.«enumerate.__next__» ⟨[.ref e], []⟩) (fun fin s' => ∃ v, fin = .done (.ret v) ∧ Q v s') E s := by
  obtain ⟨hp, g, d, tk, os⟩ := s
  show wpAny _ _ (field (.ref e) 2 >>= _) _ _ _
  refine wpAny_bind (wpAny_field he rfl (x := .ref it) rfl ?_)
  refine wpAny_bind (wpAny_nextOf_list_item hit hl hx fun h₁ hit₁ hs₁ => ?_)
  replace hs₁ : Heap.SameBut it hp h₁ := hs₁
  have he₁ : EnX h₁ e it i old a f := (hs₁.2 e hne).trans he
  show wpAny _ _ (field (.ref e) 3 >>= _) _ _ ⟨h₁, g, d, tk, os⟩
  refine wpAny_bind (wpAny_field he₁ rfl (x := rawInt i) rfl ?_)
  show wpAny _ _ (field (.ref e) 4 >>= _) _ _ ⟨h₁, g, d, tk, os⟩
  refine wpAny_bind (wpAny_field he₁ rfl (x := .none) rfl ?_)
  show wpAny _ _ (mkInt i >>= _) _ _ ⟨h₁, g, d, tk, os⟩
  refine wpAny_bind (wpAny_mkInt ?_)
  show wpAny _ _ (setField (.ref e) 3 (rawInt ((i : Int) + 1)) >>= _) _ _ ⟨h₁, g, d, tk + 1, os⟩
  refine wpAny_bind (wpAny_setField_rec he₁ (by simp) fun h₂ he₂ hs₂ => ?_)
  replace hs₂ : Heap.SameBut e h₁ h₂ := hs₂
  replace he₂ : EnX h₂ e it ((i : Int) + 1) old a f := he₂
  show wpAny _ _ (setField (.ref e) 4 .none >>= _) _ _ ⟨h₂, g, d, tk + 1, os⟩
  refine wpAny_bind (wpAny_setField_rec he₂ (by simp) fun h₃ he₃ hs₃ => ?_)
  replace hs₃ : Heap.SameBut e h₂ h₃ := hs₃
  replace he₃ : EnX h₃ e it ((i : Int) + 1) old a f := he₃
  show wpAny _ _ (newTuple [.int i tk, x] >>= _) _ _ ⟨h₃, g, d, tk + 1, os⟩
  refine wpAny_bind (wpAny_newTuple ?_)
  have he₄ : EnX (h₃.push { cls := .type "tuple", data := .seq #[.int i tk, x] }) e it ((i : Int) + 1) old a f := Heap.get?_push_of_some _ he₃
  generalize hh₄ : h₃.push { cls := .type "tuple", data := .seq #[.int i tk, x] } = h₄ at he₄
  have hsz : h₃.objs.size = hp.objs.size := by rw [hs₃.1, hs₂.1, hs₁.1]
  have hel : e < hp.objs.size := Heap.lt_size he
  have ht₄ : h₄.get? hp.objs.size = some { cls := .type "tuple", data := .seq #[.int i tk, x] } := by rw [← hh₄, ← hsz]; exact Heap.get?_push_size _ rfl
  have hz₄ : h₄.objs.size = hp.objs.size + 1 := by rw [← hh₄, Heap.size_push, hsz]
  have hk₄ : ∀ b o, b ≠ e → b ≠ it → hp.get? b = some o → h₄.get? b = some o := fun b o hbe hbi hb => by
    rw [← hh₄]; exact Heap.get?_push_of_some _ (hs₃.extBut b o hbe (hs₂.extBut b o hbe (hs₁.extBut b o hbi hb)))
  have hit₄ : h₄.IsListIter it l (i + 1) := by
    rw [← hh₄]; obtain ⟨o, ho, r⟩ := (hit₁.extBut hs₂.extBut (Ne.symm hne)).extBut hs₃.extBut (Ne.symm hne); exact ⟨o, Heap.get?_push_of_some _ ho, r⟩
  show wpAny _ _ (Builtin.SmallTypes.ownedTupleIsFree (.ref e) >>= _) _ _ ⟨h₄, g, d, tk + 1, os⟩
  rw [hsz]
  clear hh₄ he₃ hs₃ he₂ hs₂ he₁ hs₁ hit₁ hsz h₃ h₂ h₁
  have ha₄ : h₄.get? a = some oa := hk₄ a oa hae hai ha
  refine wpAny_bind ?_
  unfold Builtin.SmallTypes.ownedTupleIsFree
  refine wpAny_bind (wpAny_field he₄ rfl (x := rawInt a) rfl ?_)
  show wpAny _ _ (loadIfAlive ((a : Int).toNat) >>= _) _ _ _
  rw [Int.toNat_natCast]
  refine wpAny_bind (kdx_alive ha₄ ?_)
  simp only [Option.isNone_some, Bool.false_eq_true, if_false]
  refine wpAny_bind (wpAny_field he₄ rfl (x := .bool f) rfl ?_)
  have fin : ∀ h₅ : Heap, EnX h₅ e it ((i : Int) + 1) old a true → Heap.SameBut e h₄ h₅ → Q (.ref hp.objs.size) ⟨h₅, g, d, tk + 1, os⟩ := fun h₅ he₅ hs₅ =>
    hQ h₅ he₅ (hit₄.extBut hs₅.extBut (Ne.symm hne)) (hs₅.extBut _ _ (Nat.ne_of_gt hel) ht₄) (by show h₅.objs.size = hp.objs.size + 1; rw [hs₅.1, hz₄]) fun b o hbe hbi hb => hs₅.extBut b o hbe (hk₄ b o hbe hbi hb)
  cases f with
  | true =>
    rw [if_neg (show ¬ ((Value.bool true != Value.bool true) = true) from Bool.false_ne_true)]
    refine wpAny_pure ?_
    simp only [Bool.false_eq_true, if_false]
    exact wpAny_pure ⟨_, rfl, fin h₄ he₄ (Heap.SameBut.refl _ _)⟩
  | false =>
    rw [if_pos (show (Value.bool false != Value.bool true) = true from rfl)]
    refine wpAny_bind (wpAny_setField_rec he₄ (by simp) fun h₅ he₅ hs₅ => ?_)
    replace hs₅ : Heap.SameBut e h₄ h₅ := hs₅
    replace he₅ : EnX h₅ e it ((i : Int) + 1) old a true := he₅
    refine wpAny_pure ?_
    simp only [Bool.false_eq_true, if_false]
    exact wpAny_pure ⟨_, rfl, fin h₅ he₅ hs₅⟩
theorem enX_item {e it l a : Addr} {f : Bool} {oa : Obj} {i : Nat} {items : Array Value} {x old : Value} {Q : Option Value → Shared → Prop}
    (he : EnX s.heap e it i old a f) (ha : s.heap.get? a = some oa) (hae : a ≠ e) (hai : a ≠ it) (hit : s.heap.IsListIter it l i) (hl : s.heap.IsList l items) (hx : items[i]? = some x) (hne : e ≠ it)
    (hQ : ∀ h', EnX h' e it ((i : Int) + 1) old a true → h'.IsListIter it l (i + 1) →
      h'.get? s.heap.objs.size = some { cls := .type "tuple", data := .seq #[.int i s.toks, x] } → h'.objs.size = s.heap.objs.size + 1 →
      (∀ b o, b ≠ e → b ≠ it → s.heap.get? b = some o → h'.get? b = some o) → Q (some (.ref s.heap.objs.size)) { s with heap := h', toks := s.toks + 1 }) :
    wpAny (model prog w) A (pyNext (.ref e)) Q E s := by
  have hT : s.TypeIs (.ref e) "enumerate" := ⟨_, he, rfl⟩
  unfold pyNext
  exact wpAny_bind (wpAny_attempt (wpAny_callSpecial?_slot (name := Str.ofString "__next__") hT PySem.F.slot_enumerate_next
    (wpAny_call_entry PySem.F.slot_enumerate_next hT PySem.F.entry_enumerate_next
      (enX_next he ha hae hai hit hl hx hne fun h' a b c d k => wpAny_pure (hQ h' a b c d k)) (PySem.F.args_enumerate_next_1 _))))
theorem enX_end {e it l a : Addr} {f : Bool} {i : Nat} {items : Array Value} {old : Value} {Q : Option Value → Shared → Prop} (hh : A.handled = none)
    (he : EnX s.heap e it i old a f) (hit : s.heap.IsListIter it l i) (hl : s.heap.IsList l items) (hx : items[i]? = none)
    (hQ : ∀ h', Heap.ExtBut it s.heap h' → Q none { s with heap := h' }) : wpAny (model prog w) A (pyNext (.ref e)) Q E s := by
  have hT : s.TypeIs (.ref e) "enumerate" := ⟨_, he, rfl⟩
  unfold pyNext
  refine wpAny_bind (wpAny_attempt (wpAny_callSpecial?_slot (name := Str.ofString "__next__") hT PySem.F.slot_enumerate_next
    (wpAny_call_entry PySem.F.slot_enumerate_next hT PySem.F.entry_enumerate_next ?_ (PySem.F.args_enumerate_next_1 _))))
  show wpAny _ _ (field (.ref e) 2 >>= _) _ _ _
  refine wpAny_bind (wpAny_field he rfl (x := .ref it) rfl ?_)
  refine wpAny_bind (wpAny_nextOf_list_end hh hit hl hx fun h' x he' hx' => ?_)
  obtain ⟨o, ho, hc⟩ := hx'
  refine wpAny_bind (wpAny_isInstance (T := "StopIteration") (b := true) ⟨o, ho, hc⟩ isSubtype_stop ?_)
  exact wpAny_pure (hQ _ he')
/-- how the iterator stands before the item i -/
def EnSt (h : Heap) (e it : Addr) (i : Nat) : Prop := IsEnum h e it i .none ∨ ∃ a f old oa, EnX h e it i old a f ∧ h.get? a = some oa ∧ a ≠ e ∧ a ≠ it
theorem EnSt.keep {h h' : Heap} {e it S : Addr} {i : Nat} (x : EnSt h e it i) (k : ∀ b o, b ≠ S → h.get? b = some o → h'.get? b = some o) (hSe : e ≠ S) (hk : ∀ o, h.get? S = some o → ∃ o', h'.get? S = some o') : EnSt h' e it i := by
  rcases x with x | ⟨a, f, old, oa, x, y, z1, z2⟩
  · exact .inl (k e _ hSe x)
  · by_cases c : a = S
    · subst c
      obtain ⟨o', ho'⟩ := hk _ y
      exact .inr ⟨a, f, old, o', k e _ hSe x, ho', z1, z2⟩
    · exact .inr ⟨a, f, old, oa, k e _ hSe x, k a _ c y, z1, z2⟩
theorem en_item {e it l : Addr} {i : Nat} {items : Array Value} {x : Value} {Q : Option Value → Shared → Prop} (hst : EnSt s.heap e it i) (hit : s.heap.IsListIter it l i) (hl : s.heap.IsList l items) (hx : items[i]? = some x) (hne : e ≠ it)
    (hQ : ∀ h', EnSt h' e it (i + 1) → h'.IsListIter it l (i + 1) → h'.get? s.heap.objs.size = some { cls := .type "tuple", data := .seq #[.int i s.toks, x] } → h'.objs.size = s.heap.objs.size + 1 →
      (∀ b o, b ≠ e → b ≠ it → s.heap.get? b = some o → h'.get? b = some o) → Q (some (.ref s.heap.objs.size)) { s with heap := h', toks := s.toks + 1 }) :
    wpAny (model prog w) A (pyNext (.ref e)) Q E s := by
  have hitl : it < s.heap.objs.size := by obtain ⟨_, z, _⟩ := hit; exact Heap.lt_size z
  have ei : ((i + 1 : Nat) : Int) = (i : Int) + 1 := by omega
  rcases hst with he | ⟨a, f, old, oa, he, ha, hae, hai⟩
  · have hel : e < s.heap.objs.size := Heap.lt_size he
    refine wpAny_pyNext_enum_item he hit hl hx hne fun h' h1 h2 h3 h4 h5 => hQ h' (.inr ⟨s.heap.objs.size, false, x, _, ?_, h3, Nat.ne_of_gt hel, Nat.ne_of_gt hitl⟩) h2 h3 h4 h5
    unfold EnX
    rw [ei]
    exact h1
  · refine enX_item he ha hae hai hit hl hx hne fun h' h1 h2 h3 h4 h5 => hQ h' (.inr ⟨a, true, old, oa, ?_, h5 a _ hae hai ha, hae, hai⟩) h2 h3 h4 h5
    unfold EnX
    rw [ei]
    exact h1
theorem en_end {e it l : Addr} {i : Nat} {items : Array Value} {Q : Option Value → Shared → Prop} (hh : A.handled = none) (hst : EnSt s.heap e it i) (hit : s.heap.IsListIter it l i) (hl : s.heap.IsList l items) (hx : items[i]? = none)
    (hQ : ∀ h', Heap.ExtBut it s.heap h' → Q none { s with heap := h' }) : wpAny (model prog w) A (pyNext (.ref e)) Q E s := by
  rcases hst with he | ⟨a, f, old, oa, he, ha, hae, hai⟩
  · exact wpAny_pyNext_enum_end hh he hit hl hx hQ
  · exact enX_end hh he hit hl hx hQ
end
structure MadeE (items : Array Value) (lo : Addr) (h : Heap) (as : List Addr) : Prop where
  rise : as.Pairwise (· < ·)
  above : ∀ a ∈ as, lo < a
  pairs : ∀ (j : Nat) (a : Addr), as[j]? = some a → ∃ x t, items[j]? = some x ∧ h.get? a = some { cls := .type "tuple", data := .seq #[.int (j : Int) t, x] }
theorem MadeE.there {items : Array Value} {lo : Addr} {h : Heap} {as : List Addr} (g : MadeE items lo h as) {a : Addr} (ha : a ∈ as) : a < h.objs.size := by
  obtain ⟨j, hj⟩ := List.mem_iff_getElem?.mp ha
  obtain ⟨_, _, _, e⟩ := g.pairs j a hj
  exact Heap.lt_size e
section
variable {prog : Program} {w : World} {A : Around} {s : Shared} {R : Result → Shared → Prop} {items : Array Value}
theorem loopE {S e it l : Addr} (hh : A.handled = none) (heS : e < S) (hiS : it < S) (hlS : l < S) (hne : e ≠ it) (hle : l ≠ e) (hli : l ≠ it) (hn : items.size ≤ sizeLine) (res : Value) {h₁ : Heap}
    (hR : ∀ h' tk acc c as, (∀ b o, b ≠ S → b ≠ e → b ≠ it → h₁.get? b = some o → h'.get? b = some o) → h'.get? S = some { cls := .type "list", dict := none, data := .seq acc c, slots := #[] } → as.length = items.size → MadeE items S h' as →
      acc.toList = as.map Value.ref → R (.ok (.ret res)) { s with heap := h', toks := tk }) :
    ∀ (k i : Nat) (h : Heap) (tk c : Nat) (acc : Array Value) (as : List Addr), items.size - i = k → i ≤ items.size → EnSt h e it i → h.IsListIter it l i → h.IsList l items → (∀ b o, b ≠ S → b ≠ e → b ≠ it → h₁.get? b = some o → h.get? b = some o) →
      h.get? S = some { cls := .type "list", dict := none, data := .seq acc c, slots := #[] } → acc.toList = as.map Value.ref → as.length = i → MadeE items S h as →
      codeAny (model prog w) A (.builtin "list.extend.loop" ⟨[.ref S, .ref e, res], []⟩) R { s with heap := h, toks := tk } := by
  have hSe : S ≠ e := Nat.ne_of_gt heS
  have hSi : S ≠ it := Nat.ne_of_gt hiS
  have hSl : S ≠ l := Nat.ne_of_gt hlS
  intro k
  induction k with
  | zero =>
    intro i h tk c acc as hk hi hst hit hl hkeep hS hacc hal hG
    refine codeAny_builtin PySem.F.entry_extend_loop ?_
    rw [Around.under_plainId PySem.F.plain_extend_loop _]
    show wpAny _ A.in1 (pyNext (.ref e) >>= _) _ _ _
    refine wpAny_bind (en_end (s := { s with heap := h, toks := tk }) (A := A.in1) hh hst hit hl (Array.getElem?_eq_none (by omega)) fun h' he => ?_)
    refine wpAny_pure (hR h' tk acc c as (fun b o h1 h2 h3 e => he b o h3 (hkeep b o h1 h2 h3 e)) (he S _ hSi hS) (by omega) ⟨hG.rise, hG.above, fun j a hj => ?_⟩ hacc)
    obtain ⟨x, t, e1, e3⟩ := hG.pairs j a hj
    have := hG.above a (List.mem_of_getElem? hj)
    exact ⟨x, t, e1, he a _ (Nat.ne_of_gt (Nat.lt_trans hiS this)) e3⟩
  | succ k ih =>
    intro i h tk c acc as hk hi hst hit hl hkeep hS hacc hal hG
    have hlt : i < items.size := by omega
    have hsz : acc.size = i := by rw [← Array.length_toList, hacc, List.length_map, hal]
    refine codeAny_builtin PySem.F.entry_extend_loop ?_
    rw [Around.under_plainId PySem.F.plain_extend_loop _]
    show wpAny _ A.in1 (pyNext (.ref e) >>= _) _ _ _
    refine wpAny_bind (en_item (s := { s with heap := h, toks := tk }) hst hit hl (Array.getElem?_eq_getElem hlt) hne fun h' hst' hit' ht hz hkp => ?_)
    dsimp only at ht hz hkp ⊢
    have hS' := hkp S _ hSe hSi hS
    have up : ∀ b o, b ≠ S → h'.get? b = some o → (h'.update S (Obj.mapSeq (·.push (Value.ref h.objs.size)))).get? b = some o := fun b o hb e => (Heap.get?_update_other _ _ (Ne.symm hb)).trans e
    have hSlt : S < h.objs.size := Heap.lt_size hS
    show wpAny _ A.in1 (updateSeq S (·.push (Value.ref h.objs.size)) >>= _) _ _ _
    refine wpAny_bind ?_
    refine wpAny_updateSeq hS' rfl (wpAny_pure ⟨plainId_quiet PySem.F.plain_extend_loop _, ih (i + 1) _ (tk + 1) _ (acc.push (Value.ref h.objs.size)) (as ++ [h.objs.size]) (by omega) hlt (hst'.keep up (Ne.symm hSe) fun o ho => ⟨_, Heap.get?_update_self _ hS' rfl⟩)
      (hit'.at fun o x => up it o (Ne.symm hSi) x) ((hl.at fun o x => hkp l o hle hli x).at fun o x => up l o (Ne.symm hSl) x)
      (fun b o h1 h2 h3 e => up b o h1 (hkp b o h2 h3 (hkeep b o h1 h2 h3 e))) (Heap.get?_update_self _ hS' rfl) (by rw [Array.toList_push, hacc, List.map_append]; rfl) (by rw [List.length_append, hal]; rfl) ⟨?_, ?_, ?_⟩⟩) (by rw [hsz]; omega) (by show (acc.push (Value.ref h.objs.size)).size ≤ sizeLine + 1; rw [Array.size_push, hsz]; omega)
    · refine List.pairwise_append.mpr ⟨hG.rise, List.pairwise_singleton _ _, fun a ha b hb => ?_⟩
      rw [List.mem_singleton.mp hb]
      exact hG.there ha
    · intro a ha
      rcases List.mem_append.mp ha with ha | ha
      · exact hG.above a ha
      · rw [List.mem_singleton.mp ha]; exact hSlt
    · intro j b hj
      rcases Nat.lt_trichotomy j as.length with h1 | h1 | h1
      · rw [List.getElem?_append_left h1] at hj
        obtain ⟨x, t, e1, e3⟩ := hG.pairs j b hj
        have hb := hG.above b (List.mem_of_getElem? hj)
        exact ⟨x, t, e1, up b _ (Nat.ne_of_gt hb) (hkp b _ (Nat.ne_of_gt (Nat.lt_trans heS hb)) (Nat.ne_of_gt (Nat.lt_trans hiS hb)) e3)⟩
      · subst h1
        have hb : h.objs.size = b := by simpa using hj
        subst hb
        exact ⟨items[as.length]'(by rw [hal]; exact hlt), tk, Array.getElem?_eq_getElem _, up _ _ (Nat.ne_of_gt hSlt) (by subst hal; exact ht)⟩
      · have hnone : (as ++ [h.objs.size])[j]? = none := List.getElem?_eq_none (by rw [List.length_append, List.length_singleton]; omega)
        rw [hnone] at hj; cases hj
end
end TCE
namespace TCE
open PySem PySem.W PySem.Calls PyProof.Rows PyProof.V PySem.Spec
section
variable {prog : Program} {w : World} {A : Around} {E : Value → Shared → Prop} {s : Shared} {e it l : Addr} {items : Array Value}
theorem en_no_len : typeLookup (.type "enumerate") "__len__" = pure none := by rw [typeLookup_type, builtinLookup_eq_fast]; kernel_rfl
theorem en_no_hint : typeLookup (.type "enumerate") "__length_hint__" = pure none := by rw [typeLookup_type, builtinLookup_eq_fast]; kernel_rfl
structure EnAt (h : Heap) (e it l : Addr) (items : Array Value) : Prop where
  en : IsEnum h e it ((0 : Nat) : Int) .none
  it : h.IsListIter it l 0
  ls : h.IsList l items
theorem EnAt.at' {h h' : Heap} (x : EnAt h e it l items) (k : ∀ b, b = e ∨ b = it ∨ b = l → ∀ o, h.get? b = some o → h'.get? b = some o) : EnAt h' e it l items := ⟨k e (.inl rfl) _ x.en, x.it.at fun o y => k it (.inr (.inl rfl)) o y, x.ls.at fun o y => k l (.inr (.inr rfl)) o y⟩
theorem ext_E {R : Result → Shared → Prop} (hh : A.handled = none) (hok : EnAt s.heap e it l items) (S : Addr) (heS : e < S) (hiS : it < S) (hlS : l < S) (hne : e ≠ it) (hle : l ≠ e) (hli : l ≠ it) (res : Value) (c₀ : Nat) (hS : s.heap.get? S = some { cls := .type "list", data := .seq #[] c₀ })
    (hR : ∀ h' tk acc c as, (∀ b o, b ≠ S → b ≠ e → b ≠ it → s.heap.get? b = some o → h'.get? b = some o) → h'.get? S = some { cls := .type "list", dict := none, data := .seq acc c, slots := #[] } → as.length = items.size → MadeE items S h' as →
      acc.toList = as.map Value.ref → R (.ok (.ret res)) { s with heap := h', toks := tk }) (hn : items.size ≤ sizeLine) :
    wpAny (model prog w) A.in1 (Builtin.List.listExtendWith (.ref S) (.ref e) res)
      (fun fin s' => match fin with | .done f => R (.ok f) s' | .again c' => c'.quiet = true ∧ codeAny (model prog w) A c' R s') (fun e s' => R (.error e) s') s := by
  have hSe : S ≠ e := Nat.ne_of_gt heS
  have hT : s.TypeIs (.ref e) "enumerate" := ⟨_, hok.en, rfl⟩
  have key : ∀ (h : Heap) (c₁ tk : Nat), EnAt h e it l items → (∀ b o, b ≠ S → s.heap.get? b = some o → h.get? b = some o) →
      h.get? S = some { cls := .type "list", data := .seq #[] c₁ } → codeAny (model prog w) A (.builtin "list.extend.loop" ⟨[.ref S, .ref e, res], []⟩) R { s with heap := h, toks := tk } := by
    intro h c₁ tk hst hk hS₁
    exact loopE (s := s) (h₁ := s.heap) hh heS hiS hlS hne hle hli hn res hR items.size 0 h tk c₁ #[] [] (Nat.sub_zero _) (Nat.zero_le _) (.inl hst.en) hst.it hst.ls (fun b o hb _ _ x => hk b o hb x) hS₁ rfl rfl
      ⟨List.Pairwise.nil, (fun _ ha => nomatch ha), (fun j a hj => by simp at hj)⟩
  unfold Builtin.List.listExtendWith
  refine wpAny_bind (wpAny_typeOf (T := "enumerate") hT ?_)
  have h1 : Builtin.List.listSameRef (.ref S) (.ref e) = false := by simp [Builtin.List.listSameRef, hSe]
  have h2 : (Value.type "enumerate" == Value.type "list") = false := by decide
  have h3 : (Value.type "enumerate" == Value.type "tuple") = false := by decide
  simp only [h1, h2, h3, Bool.or_false, Bool.false_eq_true, if_false]
  refine wpAny_bind (wpAny_pyIter_enum hok.en ?_)
  refine wpAny_bind (wpAny_holding ?_)
  unfold Builtin.List.listLengthHint
  refine wpAny_bind (wpAny_specialOf hT en_no_len ?_)
  show wpAny _ A.in1 (specialOf (Value.ref e) (Str.ofString "__length_hint__") >>= _) _ _ _
  refine wpAny_bind (wpAny_specialOf hT en_no_hint ?_)
  refine wpAny_pure ?_
  show wpAny _ A.in1 (rule "list.extend.makes-room" >>= fun _ => Builtin.List.listTouch (.ref S) >>= fun _ =>
    again (.builtin "list.extend.loop" ⟨[.ref S, .ref e, res], []⟩)) _ _ _
  refine wpAny_bind (wpAny_rule ?_)
  refine wpAny_bind ?_
  show wpAny _ A.in1 (updateSeq S (·.push .none) >>= fun _ => updateSeq S (·.pop)) _ _ _
  refine wpAny_bind (wpAny_updateSeq hS rfl ?_)
  have hS₂ := Heap.get?_update_self (Obj.mapSeq (·.push Value.none)) hS rfl
  refine wpAny_updateSeq (hz := by seq_fits) hS₂ rfl ?_
  have hS₃ := Heap.get?_update_self (Obj.mapSeq (·.pop)) hS₂ rfl
  have oth : ∀ b o, b ≠ S → s.heap.get? b = some o → ((s.heap.update S (Obj.mapSeq (·.push Value.none))).update S (Obj.mapSeq (·.pop))).get? b = some o := fun b o hb e => (Heap.get?_update_other _ _ (Ne.symm hb)).trans ((Heap.get?_update_other _ _ (Ne.symm hb)).trans e)
  exact wpAny_pure ⟨plainId_quiet PySem.F.plain_extend_loop _, key _ _ _ (hok.at' fun b hb o x => oth b o (fun z => by
    rcases hb with q | q | q
    · exact absurd (q.symm.trans z) (Nat.ne_of_lt heS)
    · exact absurd (q.symm.trans z) (Nat.ne_of_lt hiS)
    · exact absurd (q.symm.trans z) (Nat.ne_of_lt hlS)) x) oth hS₃⟩
theorem init_E {R : Result → Shared → Prop} (hh : A.handled = none) (hok : EnAt s.heap e it l items) (S : Addr) (heS : e < S) (hiS : it < S) (hlS : l < S) (hne : e ≠ it) (hle : l ≠ e) (hli : l ≠ it) (hS : s.heap.get? S = some { cls := .type "list", data := .seq #[] })
    (hR : ∀ h' tk acc c as, (∀ b o, b ≠ S → b ≠ e → b ≠ it → s.heap.get? b = some o → h'.get? b = some o) → h'.get? S = some { cls := .type "list", dict := none, data := .seq acc c, slots := #[] } → as.length = items.size → MadeE items S h' as →
      acc.toList = as.map Value.ref → R (.ok (.ret .none)) { s with heap := h', toks := tk }) (hn : items.size ≤ sizeLine) :
    wpAny (model prog w) A.in1 (Builtin.«list.__init__» ⟨[.ref S, .ref e], []⟩)
      (fun fin s' => match fin with | .done f => R (.ok f) s' | .again c' => c'.quiet = true ∧ codeAny (model prog w) A c' R s') (fun e s' => R (.error e) s') s := by
  show wpAny _ _ (do let old ← Builtin.List.listItems (.ref S); Builtin.List.listUpdate (.ref S) (fun _ => #[]); letGo old.toList.reverse; Builtin.List.listExtendWith (.ref S) (.ref e) .none) _ _ s
  refine wpAny_bind ?_
  unfold Builtin.List.listItems
  refine wpAny_bind (wpAny_seqItems hS rfl (wpAny_pure ?_))
  show wpAny _ _ (updateSeq S (fun _ => #[]) >>= fun _ => letGo (#[] : Array Value).toList.reverse >>= fun _ => Builtin.List.listExtendWith (.ref S) (.ref e) .none) _ _ s
  refine wpAny_bind (wpAny_updateSeq hS rfl ?_)
  have hS₂ := Heap.get?_update_self (Obj.mapSeq (fun _ => (#[] : Array Value))) hS rfl
  have oth : ∀ b o, b ≠ S → s.heap.get? b = some o → (s.heap.update S (Obj.mapSeq (fun _ => (#[] : Array Value)))).get? b = some o := fun b o hb e => (Heap.get?_update_other _ _ (Ne.symm hb)).trans e
  refine wpAny_bind (wpAny_letGo ?_)
  refine ext_E hh (hok.at' fun b hb o x => oth b o (fun z => by
    rcases hb with q | q | q
    · exact absurd (q.symm.trans z) (Nat.ne_of_lt heS)
    · exact absurd (q.symm.trans z) (Nat.ne_of_lt hiS)
    · exact absurd (q.symm.trans z) (Nat.ne_of_lt hlS)) x) S heS hiS hlS hne hle hli .none _ hS₂ (fun h' tk acc c as hk hS' hl hG hacc => ?_) hn
  exact hR h' tk acc c as (fun b o hb hb2 hb3 x => hk b o hb hb2 hb3 (oth b o hb x)) hS' hl hG hacc
theorem call_E {Q : Value → Shared → Prop} (hh : A.handled = none) (hok : EnAt s.heap e it l items) (hne : e ≠ it) (hle : l ≠ e) (hli : l ≠ it) (he : e < s.heap.objs.size) (hi : it < s.heap.objs.size) (hl : l < s.heap.objs.size) (hn : items.size ≤ sizeLine)
    (hQ : ∀ h' tk acc c as, (∀ b o, b ≠ e → b ≠ it → s.heap.get? b = some o → h'.get? b = some o) → h'.get? s.heap.objs.size = some { cls := .type "list", dict := none, data := .seq acc c, slots := #[] } → as.length = items.size → MadeE items s.heap.objs.size h' as →
      acc.toList = as.map Value.ref → Q (.ref s.heap.objs.size) { s with heap := h', toks := tk }) :
    wpAny (model prog w) A (call (.type "list") [.ref e]) Q E s := by
  refine callType_codes (Q₁ := fun obj s₁ => obj = .ref s.heap.objs.size ∧ s₁ = { s with heap := s.heap.push { cls := .type "list", data := .seq #[] } }) PySem.F.called_list (PySem.F.typeCall_list_1 _) PySem.F.entry_list_init
    (code_list_new _ ⟨rfl, rfl⟩) fun obj s₁ h₁ => ?_
  obtain ⟨rfl, rfl⟩ := h₁
  have hS : (s.heap.push { cls := .type "list", data := .seq #[] }).get? s.heap.objs.size = some { cls := .type "list", data := .seq #[] } := Heap.get?_push_size _ rfl
  refine ⟨⟨_, hS, rfl⟩, PySem.F.args_list_init_2 _ _, init_E (A := A.in1) hh (hok.at' fun b _ o x => Heap.get?_push_of_some _ x) _ he hi hl hne hle hli hS (fun h' tk acc c as hk hS' hl hG hacc => ?_) hn⟩
  exact ⟨rfl, hQ h' tk acc c as (fun b o hb hb2 x => hk b o (Nat.ne_of_lt (Heap.lt_size x)) hb hb2 (Heap.get?_push_of_some _ x)) hS' hl hG hacc⟩
end
end TCE
namespace TC
open PySem PySem.Spec L2
open Evl (Ex)
section
open PyProof.Rows
variable {X : Cx}
def tListEnum (K : PySem.W.Frag) (te : TE) : TE := fun σ H Q => te σ H fun v H1 => ∃ (a : Addr) (xs : List V), v = .ref a ∧ SqL K H1 a xs ∧
  ∀ (H' : Hp) (l : Addr) (ts : List V), Ex H1 H' → H1 l = none → H' l = some (.lst ts) → (∀ t, t ∈ ts → ∃ b, t = V.ref b ∧ H1 b = none) → Paired (fun t (p : Int × V) => ∃ b, t = V.ref b ∧ H' b = some (.tup [.int p.1, p.2])) ts (enumA xs) → Q (.ref l) H'
theorem pe_listEnum {K : PySem.W.Frag} {e : Expr} {te : TE} {p p2 pos pos2 : Pos} (hc : X.calm = true) (hg : Gl X "list") (hm : X.mg "list" = none) (hg2 : Gl X "enumerate") (hm2 : X.mg "enumerate" = none) (he : PE X e te) (hK : X.K = K := by rfl)
    (hs : starEach [e] X.env = (false, eval e X.env) :: starEach [] X.env := by rfl)
    (hs2 : starEach [.Call (.Name "enumerate" p2) [e] [] pos2] X.env = (false, eval (.Call (.Name "enumerate" p2) [e] [] pos2) X.env) :: starEach [] X.env := by rfl) :
    PE X (.Call (.Name "list" p) [.Call (.Name "enumerate" p2) [e] [] pos2] [] pos) (tListEnum K te) := by
  subst hK
  have hv : bootBuiltins "list" = some (.type "list") := by decide +kernel
  have hv2 : bootBuiltins "enumerate" = some (.type "enumerate") := by decide +kernel
  refine ⟨fun pins s σ H Q I h => ?_⟩
  refine Call_ (ld_blt I hg hm hv (PyProof.Rows.callWith_type1 (args_cons (Call_ (ld_blt I hg2 hm2 hv2 (PyProof.Rows.callWith_type1 (args_cons (thn (he.run pins s σ H _ I h) fun u s1 ⟨v, H1, I1, r1, q1⟩ => args_nil ?_) hs) hs rfl))) hs2) hs2 rfl))
  obtain ⟨a, xs, ev, hq, q⟩ := q1
  subst ev
  obtain rfl : u = Value.ref a := r1
  obtain ⟨its, rv, p', hz⟩ := I1.list hq
  refine PySem.call_enumerate_list p'.isList fun h0 g1 g2 g3 g4 => args_nil ?_
  have I2 : L2.Inv X pins σ H1 { s1 with heap := h0 } := I1.kept (t' := s1.toks) g4
  have hl := p'.isList
  obtain ⟨ol, hol, _⟩ := id hl
  have hlt := Heap.lt_size hol
  have hn : its.toArray.size ≤ sizeLine := by rw [List.size_toArray, ← rv.length]; exact hz
  have hl0 : h0.IsList a its.toArray := hl.at fun o x => g4 a o x
  refine TCE.call_E (s := { s1 with heap := h0 }) (e := s1.heap.objs.size + 1) (it := s1.heap.objs.size) (l := a) (items := its.toArray) (I1.ok.hd hc) ⟨g1, g2, hl0⟩ (Nat.ne_of_gt (Nat.lt_succ_self _)) (Nat.ne_of_lt (Nat.lt_succ_of_lt hlt)) (Nat.ne_of_lt hlt)
    (by show _ < h0.objs.size; rw [g3]; exact Nat.lt_succ_self _) (by show _ < h0.objs.size; rw [g3]; exact Nat.lt_succ_of_lt (Nat.lt_succ_self _)) (by show _ < h0.objs.size; rw [g3]; exact Nat.lt_succ_of_lt (Nat.lt_succ_of_lt hlt)) hn fun h' tk acc c as hk hS hlen hG hacc => ?_
  have hk : ∀ b o, b ≠ s1.heap.objs.size + 1 → b ≠ s1.heap.objs.size → h0.get? b = some o → h'.get? b = some o := hk
  have hS : h'.get? h0.objs.size = some { cls := .type "list", dict := none, data := .seq acc c, slots := #[] } := hS
  have nd : as.Nodup := List.Pairwise.imp (fun {a b} (h : a < b) => Nat.ne_of_lt h) hG.rise
  have kb : ∀ b o, s1.heap.get? b = some o → h'.get? b = some o := fun b o x => hk b o (Nat.ne_of_lt (Nat.lt_succ_of_lt (Heap.lt_size x))) (Nat.ne_of_lt (Heap.lt_size x)) (g4 b o x)
  have I3 : L2.Inv X pins σ H1 { s1 with heap := h', toks := tk } := I1.kept (t' := tk) kb
  have hle : s1.heap.objs.size ≤ h0.objs.size := by rw [g3]; omega
  have hn0 : H1 h0.objs.size = none := I1.hok.fresh hle
  have hG : TCE.MadeE its.toArray h0.objs.size h' as := hG
  have lea : ∀ b ∈ as, s1.heap.objs.size ≤ b := fun b hb => Nat.le_trans hle (Nat.le_of_lt (hG.above b hb))
  have new : ∀ b ∈ as, H1 b = none := fun b hb => I1.hok.fresh (lea b hb)
  have ne0 : ∀ b ∈ as, b ≠ h0.objs.size := fun b hb => Nat.ne_of_gt (hG.above b hb)
  have I4 : L2.Inv X pins σ (upd H1 h0.objs.size (.lst (as.map V.ref))) { s1 with heap := h', toks := tk } :=
    I3.take (h' := h') (t' := tk) (fun b ob _ x => x) (I1.fpOk hle hn0) ⟨by rw [List.length_map, hlen]; exact hn, as.map Value.ref, c, LiI.vals_refs as, by rw [← hacc, Array.toArray_toList]; exact hS⟩
  have lxs : xs.length = its.length := rv.length
  obtain ⟨H2, I5, g, qt⟩ := L2.DX.takeT (P := fun b ws => ∃ (j : Nat) (x : V), as[j]? = some b ∧ xs[j]? = some x ∧ ws = [.int (j : Int), x]) I1 as _ I4 nd fun b hb => by
    obtain ⟨j, hj⟩ := List.mem_iff_getElem?.mp hb
    obtain ⟨y, t, e1, e2⟩ := hG.pairs j b hj
    have e1 : its[j]? = some y := by rw [← e1]; simp
    obtain ⟨x, hx, rx⟩ := L2.DX.pget rv e1
    refine ⟨lea b hb, ?_, [.int (j : Int), x], ⟨j, x, hj, hx, rfl⟩, fun H3 => ⟨small 2 (by decide), [Value.int (j : Int) t, y], .cons ⟨t, rfl⟩ (.cons rx .nil), ⟨_, e2, rfl, 0, rfl⟩⟩⟩
    rw [upd_ne (ne0 b hb)]
    exact new b hb
  refine ⟨.ref h0.objs.size, _, I5, rfl, q H2 h0.objs.size (as.map V.ref) (fun b o x => g b o (by rw [upd_ne (fun z => by rw [z, hn0] at x; cases x)]; exact x)) hn0 (g _ _ upd_same) (fun t ht => ?_) ?_⟩
  · obtain ⟨b, hb, rfl⟩ := List.mem_map.mp ht
    exact ⟨b, rfl, new b hb⟩
  · have key : ∀ (k : Nat) (bs : List Addr) (ys : List V), bs = as.drop k → ys = xs.drop k → Paired (fun t (p : Int × V) => ∃ b, t = V.ref b ∧ H2 b = some (.tup [.int p.1, p.2])) (bs.map V.ref) ((ys.zipIdx k).map fun p => (((p.2 : Nat) : Int), p.1)) := by
      intro k bs
      induction bs generalizing k with
      | nil =>
        intro ys hb hy
        have : as.length ≤ k := List.drop_eq_nil_iff.mp hb.symm
        have hy : ys = [] := by rw [hy]; exact List.drop_eq_nil_iff.mpr (by rw [lxs, ← List.size_toArray, ← hlen]; exact this)
        rw [hy]
        exact .nil
      | cons b bs ih =>
        intro ys hb hy
        have hbk : as[k]? = some b := by
          have := congrArg (fun l => l[0]?) hb
          simpa using this.symm
        have hb2 : bs = as.drop (k + 1) := by
          have := congrArg List.tail hb
          rw [List.tail_drop] at this
          exact this
        obtain ⟨ws, ⟨j, x, h1, h2, h3⟩, h4⟩ := qt b (List.mem_of_getElem? hbk)
        have ejk : j = k := (List.getElem?_inj (List.getElem?_eq_some_iff.mp h1).1 nd).mp (h1.trans hbk.symm)
        subst ejk
        cases ys with
        | nil =>
          have := List.drop_eq_nil_iff.mp hy.symm
          have h5 := (List.getElem?_eq_some_iff.mp h2).1
          omega
        | cons y ys =>
          have hy0 : xs[j]? = some y := by
            have := congrArg (fun l => l[0]?) hy
            simpa using this.symm
          have hy2 : ys = xs.drop (j + 1) := by
            have := congrArg List.tail hy
            rw [List.tail_drop] at this
            exact this
          rw [hy0] at h2
          cases h2
          exact .cons ⟨b, rfl, by rw [h4, h3]⟩ (ih (j + 1) ys hb2 hy2)
    exact key 0 as xs rfl rfl
variable {d : DE} {ta : TE} {K : PySem.W.Frag}
theorem ed_listEnum {α : Type} [Rep α] {as : List α} (ha : ERL ta d as) : ED (tListEnum K ta) d (enumA as) := fun B Hf O σ H E Q q =>
  ha B Hf O σ H E _ fun p vs Hf1 H1 E1 e1 s1 => by
    obtain ⟨h1, h2⟩ := s1 _ _ _ _ _ E1 (ex_refl _)
    refine ⟨p, vs, rfl, .inl (.inl h1), fun H' l ts hk hl hL hts hp => ?_⟩
    obtain ⟨E2, e2⟩ := E1.grow hk
    refine q _ _ _ E2 (e1.trans e2) ⟨l, ts, rfl, by rw [grown_new hl]; exact hL, ?_⟩
    have all : ∀ (k : Nat) {us : List V} {bs : List α} {xs : List V}, Paired (rep Hf1) us bs → Paired (fun t (p : Int × V) => ∃ b, t = V.ref b ∧ H' b = some (.tup [.int p.1, p.2])) xs ((us.zipIdx k).map fun p => (((p.2 : Nat) : Int), p.1)) → (∀ t ∈ xs, ∃ b, t = V.ref b ∧ H1 b = none) →
        Paired (rep (grown Hf1 H1 H')) xs ((bs.zipIdx k).map fun p => (((p.2 : Nat) : Int), p.1)) := by
      intro k us bs xs h
      induction h generalizing k xs with
      | nil =>
        intro g _
        cases g
        exact .nil
      | cons r t ih =>
        intro g gt
        cases g with
        | cons g1 g2 =>
          obtain ⟨b, x1, x2⟩ := g1
          obtain ⟨b', x3, x4⟩ := gt _ List.mem_cons_self
          rw [x1] at x3
          cases x3
          exact .cons ⟨b, _, _, x1, by rw [grown_new x4]; exact x2, rfl, Rep.mono e2 r⟩ (ih (k + 1) g2 fun t ht => gt t (List.mem_cons_of_mem _ ht))
    exact all 0 h2 hp hts
end
end TC
namespace TC
open PySem PySem.Spec L2
open Evl (Ex)
section
variable {K : PySem.W.Frag} {ta tb tc te tl tk t1 t2 t3 : TE} {d : DE} {P : Post}
/-- a new thing is put with what is foreign -/
theorem Env.foreign {B : Base} {Hf H On : Hp} {O : Nat → Hp} {σ : L2.St} (E : Env B Hf O d σ H) (n : NewO B Hf O On H) : Env ⟨plus B.F On, B.f0⟩ Hf O d σ H := by
  refine ⟨fun p o e => ?_, E.hf, E.f0, fun p a b => ?_, fun i p o e => ?_, E.dj, E.len, E.sl⟩
  · have e : plus B.F On p = some o := e
    cases w : On p with
    | none => rw [plus_off w] at e; exact E.fr p o e
    | some u => rw [plus_on w] at e; rw [← e]; exact n.at' p u w
  · have a : plus B.F On p ≠ none := a
    cases w : On p with
    | none => rw [plus_off w] at a; exact E.fo p a b
    | some u => exact n.fz p (by rw [w]; exact fun z => by cases z)
  · obtain ⟨x, y, z⟩ := E.ow i p o e
    refine ⟨x, y, ?_⟩
    show plus B.F On p = none
    cases w : On p with
    | none => rw [plus_off w]; exact z
    | some u =>
      have := n.Oz p (by rw [w]; exact fun z => by cases z) i
      rw [e] at this
      cases this
/-- f(a, new, new, b) -/
theorem ed_callOF {α β γ : Type} [Rep α] [Rep β] [Rep γ] {pre : DE → DE → Slot → Prop} {X : XK} {a : α} {b : β} {r1 r2 r1' r2' : Res} [IsRef r1] [IsRef r2] {res : γ} (ha : ED ta d a) (h1 : EO t1 d r1) (h2 : EO t2 d r2) (h3 : ED t3 d b)
    (hp : ∀ p1 p2, pre [.sh a, .own (atR p1 r1), .own (atR p2 r2), .sh b] [.sh a, .own (atR p1 r1'), .own (atR p2 r2'), .sh b] (.sh res)) :
    ED (tCall (spO pre) [] X (tCons ta (tCons t1 (tCons t2 (tCons t3 tNil))))) d res := fun B Hf O σ H E Q q =>
  ha B Hf O σ H E _ fun x Hf1 H1 E1 e1 rx => h1 B Hf1 O σ H1 E1 _ fun v1 Hf2 H2 On1 E2 e2 n1 g1 => by
    obtain ⟨p1, rfl⟩ := IsRef.ref g1
    refine h2 _ Hf2 O σ H2 (E2.foreign n1) _ fun v2 Hf3 H3 On2 E3 e3 n2 g2 => ?_
    obtain ⟨p2, rfl⟩ := IsRef.ref g2
    refine h3 _ Hf3 O σ H3 (E3.foreign n2) _ fun y Hf4 H4 E4 e4 ry => ?_
    have in1 : ∀ p o, On1 p = some o → H4 p = some o ∧ Hf4 p = none ∧ On2 p = none := fun p o e => by
      have hne : On1 p ≠ none := by rw [e]; exact fun z => by cases z
      have f2 : On2 p = none := by
        cases w : On2 p with
        | none => rfl
        | some u =>
          have := n2.Fz p (by rw [w]; exact fun z => by cases z)
          have this : plus B.F On1 p = none := this
          rw [plus_on e] at this
          cases this
      have fF : plus (plus B.F On1) On2 p = some o := by rw [plus_off f2, plus_on e]
      refine ⟨E4.fr p o fF, E4.fo p (by rw [show (⟨plus (plus B.F On1) On2, B.f0⟩ : Base).F p = some o from fF]; exact fun z => by cases z) ?_, f2⟩
      cases w : B.f0 p with
      | none => rfl
      | some u =>
        have := E2.f0 p u w
        rw [n1.fz p hne] at this
        cases this
    have in2 : ∀ p o, On2 p = some o → H4 p = some o ∧ Hf4 p = none := fun p o e => by
      have hne : On2 p ≠ none := by rw [e]; exact fun z => by cases z
      have fF : plus (plus B.F On1) On2 p = some o := plus_on e
      refine ⟨E4.fr p o fF, E4.fo p (by rw [show (⟨plus (plus B.F On1) On2, B.f0⟩ : Base).F p = some o from fF]; exact fun z => by cases z) ?_⟩
      cases w : B.f0 p with
      | none => rfl
      | some u =>
        have := E3.f0 p u w
        rw [n2.fz p hne] at this
        cases this
    show spO pre ([x, .ref p1, .ref p2, y] ++ []) H4 _ X
    rw [List.append_nil]
    refine ⟨Hf4, fun j => if j = 1 then On1 else if j = 2 then On2 else noHp, _, _, _, E4.hf, ⟨rfl, fun i s e => ?_, fun i p o e => ?_, fun i j p hij e => ?_⟩, hp p1 p2, fun r Hf5 H5 O' On PO => ?_⟩
    · match i, e with
      | 0, e => (cases e; exact ⟨x, rfl, Rep.mono (e2.trans (e3.trans e4)) rx⟩)
      | 1, e => (cases e; exact ⟨.ref p1, rfl, rfl, r1.mono (e3.trans e4) g1⟩)
      | 2, e => (cases e; exact ⟨.ref p2, rfl, rfl, r2.mono e4 g2⟩)
      | 3, e => (cases e; exact ⟨y, rfl, ry⟩)
      | i + 4, e => cases e
    · have e : (if i = 1 then On1 else if i = 2 then On2 else noHp) p = some o := e
      split at e
      · exact ⟨(in1 p o e).1, (in1 p o e).2.1⟩
      · split at e
        · exact in2 p o e
        · cases e
    · have e : (if i = 1 then On1 else if i = 2 then On2 else noHp) p ≠ none := e
      show (if j = 1 then On1 else if j = 2 then On2 else noHp) p = none
      by_cases a1 : i = 1
      · rw [if_pos a1] at e
        rw [if_neg (fun z => hij (a1.trans z.symm))]
        split
        · cases w : On1 p with
          | none => exact absurd w e
          | some u => exact (in1 p u w).2.2
        · rfl
      · rw [if_neg a1] at e
        by_cases a2 : i = 2
        · rw [if_pos a2] at e
          split
          · cases w : On1 p with
            | none => rfl
            | some u => exact absurd (in1 p u w).2.2 e
          · rw [if_neg (fun z => hij (a2.trans z.symm))]
            rfl
        · rw [if_neg a2] at e
          exact absurd rfl e
    · have out : ∀ p, On1 p = none → On2 p = none → offO (fun j => if j = 1 then On1 else if j = 2 then On2 else noHp) H4 p = H4 p := fun p a b => offO_out fun j => by
        show (if j = 1 then On1 else if j = 2 then On2 else noHp) p = none
        split
        · exact a
        · split
          · exact b
          · rfl
      have BF : ∀ p o, B.F p = some o → On1 p = none ∧ On2 p = none := fun p o e => by
        have h1' : On1 p = none := by
          cases w : On1 p with
          | none => rfl
          | some u =>
            have := n1.Fz p (by rw [w]; exact fun z => by cases z)
            rw [e] at this
            cases this
        refine ⟨h1', ?_⟩
        cases w : On2 p with
        | none => rfl
        | some u =>
          have := n2.Fz p (by rw [w]; exact fun z => by cases z)
          have this : plus B.F On1 p = none := this
          rw [plus_off h1', e] at this
          cases this
      have OF : ∀ i p o, O i p = some o → On1 p = none ∧ On2 p = none := fun i p o e => by
        constructor
        · cases w : On1 p with
          | none => rfl
          | some u =>
            have := n1.Oz p (by rw [w]; exact fun z => by cases z) i
            rw [e] at this
            cases this
        · cases w : On2 p with
          | none => rfl
          | some u =>
            have := n2.Oz p (by rw [w]; exact fun z => by cases z) i
            rw [e] at this
            cases this
      refine q _ Hf5 H5 ⟨fun p o e => ?_, PO.k3, fun p o e => PO.k2 p o (E4.f0 p o e), fun p a b => ?_, fun i p o e => ?_, E4.dj, E4.len, fun i s e => (E4.sl i s e).mono PO.k2⟩ ((e1.trans e2).trans ((e3.trans e4).trans PO.k2)) PO.k8
      · obtain ⟨a, b⟩ := BF p o e
        refine PO.k1 p o ?_
        rw [out p a b]
        refine E4.fr p o ?_
        show plus (plus B.F On1) On2 p = some o
        rw [plus_off b, plus_off a]
        exact e
      · cases w : B.F p with
        | none => exact absurd w a
        | some o =>
          obtain ⟨a', b'⟩ := BF p o w
          have fF : plus (plus B.F On1) On2 p = some o := by rw [plus_off b', plus_off a']; exact w
          refine PO.k4 p ?_ (E4.fo p (by rw [show (⟨plus (plus B.F On1) On2, B.f0⟩ : Base).F p = some o from fF]; exact fun z => by cases z) b)
          rw [out p a' b', E4.fr p o fF]
          exact fun z => by cases z
      · obtain ⟨a, b⟩ := OF i p o e
        obtain ⟨x1, x2, x3⟩ := E4.ow i p o e
        have x3 : plus (plus B.F On1) On2 p = none := x3
        rw [plus_off b, plus_off a] at x3
        refine ⟨PO.k1 p o (by rw [out p a b]; exact x1), PO.k4 p (by rw [out p a b, x1]; exact fun z => by cases z) x2, x3⟩
end
end TC
namespace TC
open PySem PySem.Spec L2
open Evl (Ex)
local macro_rules | `(tactic| walk_at "nrm") => `(tactic| simp only [List.set_cons_zero, List.set_cons_succ, List.cons_append, List.nil_append, List.append_nil, wipeS])
def topS (i : Nat) : Stmt := PySem.Challenge.pw_tilechain_k09_whole_fewest_turned.main.body.getD i (.Pass ⟨0, 0, 0, 0⟩)
/-- the table of marks, grown by a tile -/
def lput1 (m : List (Int × Int)) (k : Int) : List (Int × Int) := dput m k ((dget m k).getD 0 + 1)
def lput (m : List (Int × Int)) (t : Int × Int) : List (Int × Int) := lput1 (lput1 m t.1) t.2
def ltab (tiles : List (Int × Int)) : List (Int × Int) := tiles.foldl lput []
def lcounts (tiles : List (Int × Int)) : List (Int × Int) := sortP (ltab tiles)
theorem lput_len (m : List (Int × Int)) (t : Int × Int) : (lput m t).length ≤ m.length + 2 := by
  have h1 : (lput1 m t.1).length ≤ m.length + 1 := dput_len
  have h2 : (lput m t).length ≤ (lput1 m t.1).length + 1 := dput_len
  omega
theorem ltab_len : ∀ (l m : List (Int × Int)), (l.foldl lput m).length ≤ m.length + 2 * l.length
  | [], m => by simp
  | t :: l, m => by
    have := ltab_len l (lput m t)
    have := lput_len m t
    rw [List.foldl_cons, List.length_cons]
    omega
theorem lput1_get {m : List (Int × Int)} {k j : Int} : (dget (lput1 m k) j).getD 0 = (dget m j).getD 0 + b2i (decide (k = j)) := by
  unfold lput1
  rw [dget_dput]
  by_cases h : j = k
  · rw [if_pos h, h, decide_eq_true rfl]
    rfl
  · rw [if_neg h, decide_eq_false (Ne.symm h)]
    exact (Int.add_zero _).symm
theorem lput1_key {m : List (Int × Int)} {k j : Int} : j ∈ keysM (lput1 m k) ↔ j = k ∨ j ∈ keysM m := mem_dput
theorem ltab_get : ∀ (l m : List (Int × Int)) (k : Int), (dget (l.foldl lput m) k).getD 0 = (dget m k).getD 0 + deg l k
  | [], m, k => by rw [List.foldl_nil, deg_nil]; omega
  | t :: l, m, k => by
    rw [List.foldl_cons, ltab_get l (lput m t) k, deg_cons]
    unfold lput
    rw [lput1_get, lput1_get]
    omega
theorem ltab_key : ∀ (l m : List (Int × Int)) (k : Int), k ∈ keysM (l.foldl lput m) ↔ k ∈ keysM m ∨ ∃ t ∈ l, t.1 = k ∨ t.2 = k
  | [], m, k => by simp
  | t :: l, m, k => by
    rw [List.foldl_cons, ltab_key l (lput m t) k]
    unfold lput
    rw [lput1_key, lput1_key]
    constructor
    · rintro ((h | h | h) | ⟨u, h1, h2⟩)
      · exact .inr ⟨t, List.mem_cons_self, .inr h.symm⟩
      · exact .inr ⟨t, List.mem_cons_self, .inl h.symm⟩
      · exact .inl h
      · exact .inr ⟨u, List.mem_cons_of_mem _ h1, h2⟩
    · rintro (h | ⟨u, h1, h2⟩)
      · exact .inl (.inr (.inr h))
      · rcases List.mem_cons.mp h1 with e | h1
        · rw [e] at h2
          exact .inl (h2.elim (fun z => .inr (.inl z.symm)) fun z => .inl z.symm)
        · exact .inr ⟨u, h1, h2⟩
theorem ltab_nodup : ∀ (l m : List (Int × Int)), (keysM m).Nodup → (keysM (l.foldl lput m)).Nodup
  | [], m, h => h
  | t :: l, m, h => ltab_nodup l (lput m t) (nodup_dput (nodup_dput h))
theorem lcounts_is (tiles : List (Int × Int)) : lcounts tiles = (lmarks tiles).map fun k => (k, deg tiles k) := by
  have hk : ∀ k, k ∈ keysM (ltab tiles) ↔ k ∈ lmarks tiles := fun k => by
    unfold ltab
    rw [ltab_key, mem_lmarks]
    exact ⟨fun h => h.elim (fun z => by cases z) id, Or.inr⟩
  refine sortP_keys (ltab_nodup tiles [] .nil) ?_ fun k n => ?_
  · rw [List.map_map]
    have e : (lmarks tiles).map ((fun p : Int × Int => p.1) ∘ fun k => (k, deg tiles k)) = lmarks tiles := List.map_id _
    rw [e]
    exact lmarks_lt tiles
  · have hg := ltab_get tiles [] k
    rw [dget_nil] at hg
    have hg : (dget (ltab tiles) k).getD 0 = deg tiles k := by
      rw [show ltab tiles = tiles.foldl lput [] from rfl, hg]
      exact Int.zero_add _
    rw [List.mem_map]
    constructor
    · rintro ⟨j, h1, h2⟩
      cases h2
      obtain ⟨v, hv⟩ := dget_of ((hk k).mpr h1)
      rw [hv] at hg ⊢
      exact congrArg some hg
    · intro h
      refine ⟨k, (hk k).mp (dget_key h), ?_⟩
      rw [h] at hg
      rw [← hg]
      rfl
def pre_counts : DE → Slot → Prop := fun ss s => ∃ tiles : List (Int × Int), tiles.length ≤ 1000 ∧ ss = [.sh tiles] ∧ s = .sh (lcounts tiles)
theorem pre_counts_len : ∀ ss s, pre_counts ss s → ss.length = 1 := fun ss s ⟨_, _, h, _⟩ => by rw [h]; rfl
/-- each mark its own head; the keys in the order in which they come -/
def hini (m : List (Int × Int)) (t : Int × Int) : List (Int × Int) := dput (dput m t.1 t.1) t.2 t.2
def hkeys (tiles : List (Int × Int)) : List Int := keysM (tiles.foldl hini [])
noncomputable def lheads (tiles : List (Int × Int)) : List (Int × Int) := (hkeys tiles).map fun k => (k, lhead tiles k)
theorem hini_len : ∀ (l m : List (Int × Int)), (l.foldl hini m).length ≤ m.length + 2 * l.length
  | [], m => by simp
  | t :: l, m => by
    have h1 := hini_len l (hini m t)
    have h2 : (dput m t.1 t.1).length ≤ m.length + 1 := dput_len
    have h3 : (hini m t).length ≤ (dput m t.1 t.1).length + 1 := dput_len
    rw [List.foldl_cons, List.length_cons]
    omega
theorem hini_key : ∀ (l m : List (Int × Int)) (k : Int), k ∈ keysM (l.foldl hini m) ↔ k ∈ keysM m ∨ ∃ t ∈ l, t.1 = k ∨ t.2 = k
  | [], m, k => by simp
  | t :: l, m, k => by
    rw [List.foldl_cons, hini_key l (hini m t) k]
    unfold hini
    rw [mem_dput, mem_dput]
    constructor
    · rintro ((h | h | h) | ⟨u, h1, h2⟩)
      · exact .inr ⟨t, List.mem_cons_self, .inr h.symm⟩
      · exact .inr ⟨t, List.mem_cons_self, .inl h.symm⟩
      · exact .inl h
      · exact .inr ⟨u, List.mem_cons_of_mem _ h1, h2⟩
    · rintro (h | ⟨u, h1, h2⟩)
      · exact .inl (.inr (.inr h))
      · rcases List.mem_cons.mp h1 with e | h1
        · rw [e] at h2
          exact .inl (h2.elim (fun z => .inr (.inl z.symm)) fun z => .inl z.symm)
        · exact .inr ⟨u, h1, h2⟩
theorem hini_nodup : ∀ (l m : List (Int × Int)), (keysM m).Nodup → (keysM (l.foldl hini m)).Nodup
  | [], m, h => h
  | t :: l, m, h => hini_nodup l (hini m t) (nodup_dput (nodup_dput h))
theorem hini_get : ∀ (l m : List (Int × Int)), (∀ k v, dget m k = some v → v = k) → ∀ k v, dget (l.foldl hini m) k = some v → v = k
  | [], m, h => h
  | t :: l, m, h => hini_get l (hini m t) fun k v hv => by
    unfold hini at hv
    rw [dget_dput, dget_dput] at hv
    split at hv
    · rename_i e
      rw [← Option.some.inj hv, e]
    · split at hv
      · rename_i e
        rw [← Option.some.inj hv, e]
      · exact h k v hv
theorem mem_hkeys {tiles : List (Int × Int)} {k : Int} : k ∈ hkeys tiles ↔ k ∈ lmarks tiles := by
  unfold hkeys
  rw [hini_key, mem_lmarks]
  exact ⟨fun h => h.elim (fun z => by cases z) id, Or.inr⟩
theorem hkeys_nodup (tiles : List (Int × Int)) : (hkeys tiles).Nodup := hini_nodup tiles [] .nil
theorem hkeys_len (tiles : List (Int × Int)) : (hkeys tiles).length = (lmarks tiles).length := ((List.perm_ext_iff_of_nodup (hkeys_nodup tiles) (lt_nodup (lmarks_lt tiles))).mpr fun _ => mem_hkeys).length_eq
theorem lheads_keys (tiles : List (Int × Int)) : keysM (lheads tiles) = hkeys tiles := keys_map
theorem lheads_get {tiles : List (Int × Int)} {k : Int} (h : k ∈ lmarks tiles) : dget (lheads tiles) k = some (lhead tiles k) := dget_map (mem_hkeys.mpr h)
theorem lheads_sort (tiles : List (Int × Int)) : sortI ((lheads tiles).map (·.1)) = lmarks tiles := by
  rw [show (lheads tiles).map (·.1) = hkeys tiles from lheads_keys tiles]
  exact sortI_marks (hkeys_nodup tiles) fun _ => mem_hkeys
/-- what holds at each step -/
structure HInv (tiles m : List (Int × Int)) : Prop where
  keys : keysM m = hkeys tiles
  val : ∀ k v, dget m k = some v → v ≤ k ∧ Reach tiles k v
theorem hini_inv (tiles : List (Int × Int)) : HInv tiles (tiles.foldl hini []) := ⟨rfl, fun k v h => by
  have e := hini_get tiles [] (fun k v h => by cases h) k v h
  rw [e]
  exact ⟨Int.le_refl _, .refl⟩⟩
theorem HInv.get {tiles m : List (Int × Int)} (h : HInv tiles m) {k : Int} (hk : k ∈ lmarks tiles) : ∃ v, dget m k = some v ∧ v ≤ k ∧ Reach tiles k v := by
  obtain ⟨v, hv⟩ := dget_of (m := m) (k := k) (by rw [h.keys]; exact mem_hkeys.mpr hk)
  exact ⟨v, hv, h.val k v hv⟩
theorem HInv.len {tiles m : List (Int × Int)} (h : HInv tiles m) : m.length = (lmarks tiles).length := by rw [← keys_len, h.keys, hkeys_len]
theorem HInv.done {tiles m : List (Int × Int)} (h : HInv tiles m) (he : ∀ t ∈ tiles, dget m t.1 = dget m t.2) : m = lheads tiles := by
  have hc : ∀ {a b : Int}, Reach tiles a b → dget m a = dget m b := by
    intro a b r
    induction r with
    | refl => rfl
    | step _ e ih =>
      refine ih.trans ?_
      rcases e with e | e
      · exact he _ e
      · exact (he _ e).symm
  have hn : (keysM m).Nodup := by rw [h.keys]; exact hkeys_nodup tiles
  have hd := dict_ext (g := lhead tiles) hn fun k hk => by
    rw [h.keys] at hk
    have hk := mem_hkeys.mp hk
    obtain ⟨v, h1, h2, h3⟩ := h.get hk
    have hv := h3.mark hk
    have hL := lhead_mem hk
    obtain ⟨l1, l2⟩ := mem_lreach.mp hL
    have e := hc l2
    rw [h1] at e
    have h4 := (h.val _ _ e.symm).1
    have h5 := lhead_le (mem_lreach.mpr ⟨hv, h3⟩)
    rw [h1]
    exact congrArg some (by omega)
  rw [hd, h.keys]
  rfl
/-- how far the heads are from the least -/
def hmeas (tiles m : List (Int × Int)) : Nat := ((lmarks tiles).map fun k => rkOf (lmarks tiles) ((dget m k).getD 0)).sum
theorem HInv.put {tiles m : List (Int × Int)} (h : HInv tiles m) {t : Int × Int} (ht : t ∈ tiles) {u v : Int} (hu : dget m t.1 = some u) (hv : dget m t.2 = some v) {w : Int} (hw : w = if v < u then v else u) (hne : u ≠ w ∨ v ≠ w) :
    HInv tiles (dput (dput m t.1 w) t.2 w) ∧ hmeas tiles (dput (dput m t.1 w) t.2 w) < hmeas tiles m := by
  have m1 : t.1 ∈ lmarks tiles := mem_lmarks.mpr ⟨t, ht, .inl rfl⟩
  have m2 : t.2 ∈ lmarks tiles := mem_lmarks.mpr ⟨t, ht, .inr rfl⟩
  obtain ⟨u1, u2⟩ := h.val _ _ hu
  obtain ⟨v1, v2⟩ := h.val _ _ hv
  have adj : Reach tiles t.1 t.2 := Reach.one (.inl ht)
  have wu : w ≤ u := by rw [hw]; split <;> omega
  have wv : w ≤ v := by rw [hw]; split <;> omega
  have r1 : Reach tiles t.1 w := by
    rw [hw]
    split
    · exact adj.trans v2
    · exact u2
  have r2 : Reach tiles t.2 w := adj.symm.trans r1
  have hwm : w ∈ lmarks tiles := r1.mark m1
  have hg : ∀ j, dget (dput (dput m t.1 w) t.2 w) j = if j = t.2 then some w else if j = t.1 then some w else dget m j := fun j => by rw [dget_dput, dget_dput]
  refine ⟨⟨?_, fun k x hx => ?_⟩, ?_⟩
  · rw [keys_dput, keys_dput]
    have k1 : t.1 ∈ keysM m := by rw [h.keys]; exact mem_hkeys.mpr m1
    have k2 : t.2 ∈ keysM m := by rw [h.keys]; exact mem_hkeys.mpr m2
    rw [if_pos k1, if_pos k2]
    exact h.keys
  · rw [hg] at hx
    split at hx
    · rename_i e
      rw [← Option.some.inj hx, e]
      exact ⟨by omega, r2⟩
    · split at hx
      · rename_i e
        rw [← Option.some.inj hx, e]
        exact ⟨by omega, r1⟩
      · exact h.val k x hx
  · unfold hmeas
    refine sum_lt (fun k hk => ?_) ?_
    · refine rk_le ?_
      rw [hg]
      split
      · rename_i e
        rw [e, hv]
        exact wv
      · split
        · rename_i e
          rw [e, hu]
          exact wu
        · exact Int.le_refl _
    · rcases hne with z | z
      · refine ⟨t.1, m1, ?_⟩
        rw [hg]
        have e : (if t.1 = t.2 then some w else if t.1 = t.1 then some w else dget m t.1) = some w := by
          split
          · rfl
          · rw [if_pos rfl]
        rw [e, hu]
        exact rk_lt (show w < u by omega) hwm
      · refine ⟨t.2, m2, ?_⟩
        rw [hg, if_pos rfl, hv]
        exact rk_lt (show w < v by omega) hwm
def pre_heads_of : DE → Slot → Prop := fun ss s => ∃ tiles : List (Int × Int), Few tiles ∧ ss = [.sh tiles] ∧ s = .sh (Dct.mk (lheads tiles))
theorem pre_heads_of_len : ∀ ss s, pre_heads_of ss s → ss.length = 1 := fun ss s ⟨_, _, h, _⟩ => by rw [h]; rfl
def pre_is_number : DE → Slot → Prop := fun ss s => ∃ (tiles : List (Int × Int)) (n : Int), ss = [.sh tiles, .sh n] ∧ s = .sh (isNum tiles n)
theorem pre_is_number_len : ∀ ss s, pre_is_number ss s → ss.length = 2 := fun ss s ⟨_, _, h, _⟩ => by rw [h]; rfl
def pre_taken : DE → DE → Slot → Prop := fun ss ss' s => ∃ (l : List Stp) (U : List (Int × Bool)) (c q p : Addr), ss = [.own (atR c (olR l)), .own (atR q (atR p (odR U)))] ∧
  ss' = [.own (atR c (olR (takeR (keysM U) l.reverse).2.reverse)), .own (atR q (atR p (odR U)))] ∧ s = .sh (takeR (keysM U) l.reverse).1
theorem pre_taken_len : ∀ ss ss' s, pre_taken ss ss' s → ss.length = 2 := fun ss ss' s ⟨_, _, _, _, _, h, _⟩ => by rw [h]; rfl
theorem pre_taken_match : ∀ ss ss' s, pre_taken ss ss' s → Match ss ss' := fun ss ss' s ⟨l, U, c, q, p, h1, h2, _⟩ => by
  subst h1 h2
  refine ⟨rfl, fun i s e => ?_⟩
  match i, e with
  | 0, e => (cases e; exact .inr ⟨_, _, _, rfl, rfl⟩)
  | 1, e => (cases e; exact .inr ⟨_, _, _, rfl, rfl⟩)
  | i + 2, e => cases e
theorem erd_ownAA {β : Type} [Rep β] {d : DE} {m : List (Int × β)} {i : Nat} {c c' : Addr} (h : d[i]? = some (.own (atR c (atR c' (odR m))))) : ERD (tVar i) d m := fun B Hf O σ H E Q q => by
  obtain ⟨v, h1, _, _, p, vs, h2, h3, h4⟩ := E.getO h
  rw [h2] at h1
  exact ⟨.ref p, h1, q p vs Hf H E (fun _ _ e => e) fun B2 Hf2 σ2 d2 H2 E2 e2 => ⟨(E2.ow i p (.dK vs) (by rw [h3]; exact one_at)).1, kvR_mono e2 h4⟩⟩
theorem back2 {r1 r2 : Res} {x : Slot} : Back [.own r1, .own r2] [.own r1, .own r2, x] := fun i r e => by
  match i, e with
  | 0, e => exact e
  | 1, e => exact e
  | i + 2, e => cases e
def pre_both_ways : DE → Slot → Prop := fun ss s => ∃ T : Tls, T.length ≤ 10000 ∧ ss = [.sh T] ∧ s = .sh (lboth T)
theorem pre_both_ways_len : ∀ ss s, pre_both_ways ss s → ss.length = 1 := fun ss s ⟨_, _, h, _⟩ => by rw [h]; rfl
def pre_bridged : DE → Slot → Prop := fun ss s => ∃ (tiles : List (Int × Int)) (groups : List (List Int)) (odds : List Int), tiles.length ≤ 1000 ∧ groups.length ≤ 64 ∧ (∀ g ∈ groups, g.length ≤ 64) ∧ ss = [.sh tiles, .sh groups, .sh odds] ∧ s = .sh (lbr tiles groups odds)
theorem pre_bridged_len : ∀ ss s, pre_bridged ss s → ss.length = 3 := fun ss s ⟨_, _, _, _, _, _, h, _⟩ => by rw [h]; rfl
theorem getD_ix {l : List Int} {k : Int} (h1 : 0 ≤ k) (h2 : k < (l.length : Int)) : atI l k = some (l.getD k.toNat 0) := by
  obtain ⟨n, rfl⟩ := Int.eq_ofNat_of_zero_le h1
  have h3 : n < l.length := by omega
  rw [Int.toNat_natCast, List.getD_eq_getElem?_getD, List.getElem?_eq_getElem h3]
  exact atI_nat (List.getElem?_eq_getElem h3)
def pre_without_bridges : DE → Slot → Prop := fun ss s => ∃ (walk : List Stp) (many : Int), walk.length ≤ 100000 ∧ ss = [.sh walk, .sh many] ∧ s = .sh (lsplit many walk)
theorem pre_without_bridges_len : ∀ ss s, pre_without_bridges ss s → ss.length = 2 := fun ss s ⟨_, _, _, h, _⟩ => by rw [h]; rfl
theorem pAt_get {pr : List (Int × Int)} {x : Int} (h : x ∈ keysM pr) : dget pr x = some (pAt pr x) := by
  obtain ⟨v, hv⟩ := dget_of h
  unfold pAt
  rw [hv]
  rfl
theorem bk_part {A : List Arc} {K : List Int} {s : BS} (h : BK A K s) (hA : ∀ e ∈ A, e.b ∈ K) (i : Nat) : BK A K (bpart A s i) := by
  unfold bpart
  refine bk_fold ⟨h.keys, h.cand, h.cin, fun v hv => by cases hv⟩ fun p hp => ?_
  obtain ⟨j, _, h2⟩ := enumA_mem (List.mem_of_mem_take hp)
  exact hA _ (List.mem_of_getElem? h2)
theorem bk_size {A : List Arc} {K : List Int} {s : BS} (h : BK A K s) : s.pr.length = K.length ∧ s.ca.length ≤ K.length := by
  have h1 := nodup_len h.cand h.cin
  rw [keys_len] at h1
  have h2 := congrArg List.length h.keys
  rw [keys_len] at h2
  exact ⟨h2, h1⟩
def pre_lowered : DE → DE → Slot → Prop := fun ss ss' s => ∃ (A : List Arc) (K : List Int) (s0 : BS) (p q : Addr), BK A K s0 ∧ (∀ e ∈ A, e.a ∈ K ∧ e.b ∈ K) ∧ K.length ≤ 10000 ∧
  ss = [.sh A, .own (atR p (odR s0.pr)), .own (atR q (odR s0.ca))] ∧ ss' = [.sh A, .own (atR p (odR (bpass A s0).pr)), .own (atR q (odR (bpass A s0).ca))] ∧ s = .sh (bpass A s0).last
theorem pre_lowered_len : ∀ ss ss' s, pre_lowered ss ss' s → ss.length = 3 := fun ss ss' s ⟨_, _, _, _, _, _, _, _, h, _⟩ => by rw [h]; rfl
theorem pre_lowered_match : ∀ ss ss' s, pre_lowered ss ss' s → Match ss ss' := fun ss ss' s ⟨A, K, s0, p, q, _, _, _, h1, h2, _⟩ => by
  subst h1 h2
  refine ⟨rfl, fun i s e => ?_⟩
  match i, e with
  | 0, e => (cases e; exact .inl ⟨rfl, rfl⟩)
  | 1, e => (cases e; exact .inr ⟨_, _, _, rfl, rfl⟩)
  | 2, e => (cases e; exact .inr ⟨_, _, _, rfl, rfl⟩)
  | i + 3, e => cases e
theorem back3 {s0 x3 x4 x5 x6 x7 x8 : Slot} {r1 r2 : Res} (h0 : isOwn s0 = false) : Back [s0, .own r1, .own r2] [s0, .own r1, .own r2, x3, x4, x5, x6, x7, x8] := fun i r e => by
  match i, e with
  | 0, e => exact e
  | 1, e => exact e
  | 2, e => exact e
  | i + 3, e => cases e
theorem arc_atI {A : List Arc} {n : Int} (h1 : 0 ≤ n) (h2 : n < (A.length : Int)) : atI A n = some (arcAt A n) := by
  obtain ⟨i, rfl⟩ := Int.eq_ofNat_of_zero_le h1
  have h3 : i < A.length := by omega
  have h4 := List.getElem?_eq_getElem h3
  rw [arcAt_ix h4]
  exact atI_nat h4
def pre_way_round : DE → Slot → Prop := fun ss s => ∃ (A : List Arc) (ca : List (Int × Int)) (v : Int) (p : Nat), ca.length ≤ 10000 ∧ (∀ i, back A ca i v ∈ keysM ca) ∧ (∀ v n, dget ca v = some n → 0 ≤ n ∧ n < (A.length : Int)) ∧ Cyc A ca (back A ca ca.length v) p ∧ p ≤ ca.length ∧
  ss = [.sh A, .sh (Dct.mk ca), .sh v] ∧ s = .sh (roundN A ca (back A ca ca.length v) p)
theorem pre_way_round_len : ∀ ss s, pre_way_round ss s → ss.length = 3 := fun ss s ⟨_, _, _, _, _, _, _, _, _, h, _⟩ => by rw [h]; rfl
def pre__law_cell_at (K : PySem.W.Frag) : DE → Slot → Prop := fun ss s => ∃ (ns : Scr K) (k : Nat), ss = [.sh ns, .sh (k : Int)] ∧ s = .sh ((ns.ns[k]?).getD 0)
theorem pre__law_cell_at_len {K : PySem.W.Frag} : ∀ ss s, pre__law_cell_at K ss s → ss.length = 2 := fun ss s ⟨_, _, h, _⟩ => by rw [h]; rfl
def pre__law_whole : DE → Slot → Prop := fun ss s => ∃ n : Int, ss = [.sh n] ∧ s = .sh true
theorem pre__law_whole_len : ∀ ss s, pre__law_whole ss s → ss.length = 1 := fun ss s ⟨_, h, _⟩ => by rw [h]; rfl
def lmany (cell : Int) : Int := if decide (cell / 12 % 8 = 3) = true then 1 + cell / 96 % 40 else 1 + cell % 12
theorem lmany_le (cell : Int) : 1 ≤ lmany cell ∧ lmany cell ≤ 40 := by
  unfold lmany
  split <;> omega
def lname (far many k : Int) : Int :=
  if far % 3 = 0 then k - many / 2
  else if far % 3 = 1 then (if k % 2 = 0 then 1 else -1) * ((far / 3 + k * k) % 10 ^ 60)
  else 10 ^ 60 - 1 - (far / 3 + 977 * k) % (2 * 10 ^ 60 - 1)
def lnames (cell far : Int) : List Int := ((List.range (lmany cell).toNat).map fun i => ((i : Nat) : Int)).map (lname far (lmany cell))
theorem lnames_len (cell far : Int) : 1 ≤ (lnames cell far).length ∧ (lnames cell far).length ≤ 40 := by
  have := lmany_le cell
  unfold lnames
  rw [List.length_map, List.length_map, List.length_range]
  omega
def pre__law_names : DE → Slot → Prop := fun ss s => ∃ cell far : Int, ss = [.sh cell, .sh far] ∧ s = .sh (lnames cell far)
theorem pre__law_names_len : ∀ ss s, pre__law_names ss s → ss.length = 2 := fun ss s ⟨_, _, h, _⟩ => by rw [h]; rfl
def lnum1 (p : Int × Int) : Int := (p.2 * 48271 + p.1 * p.1) % 2147483647
def lnum2 (p : Int × Int) : Int := (p.2 * 69621 + 7 * p.1) % 2147483629
def lnumF (more : Bool) (p : Int × Int) : List Int := if more = true then [lnum1 p, lnum2 p] else [lnum1 p]
theorem lnumF_len (more : Bool) (p : Int × Int) : (lnumF more p).length ≤ 2 := by
  cases more <;> simp [lnumF]
theorem lnumFs_len (more : Bool) : ∀ l : List (Int × Int), (l.flatMap (lnumF more)).length ≤ 2 * l.length
  | [] => by simp
  | a :: l => by
    have := lnumFs_len more l
    have := lnumF_len more a
    rw [List.flatMap_cons, List.length_append, List.length_cons]
    omega
def lnums (cells : List Int) (more : Bool) : List Int := (enumA (cells.take 120)).flatMap (lnumF more)
theorem lnums_len (cells : List Int) (more : Bool) : (lnums cells more).length ≤ 240 := by
  unfold lnums
  have := lnumFs_len more (enumA (cells.take 120))
  rw [enumA_len, List.length_take] at this
  omega
theorem lnums_nn (cells : List Int) (more : Bool) : ∀ x ∈ lnums cells more, 0 ≤ x := by
  intro x hx
  unfold lnums at hx
  obtain ⟨p, _, hp⟩ := List.mem_flatMap.mp hx
  have e1 : 0 ≤ lnum1 p := Int.emod_nonneg _ (by decide)
  have e2 : 0 ≤ lnum2 p := Int.emod_nonneg _ (by decide)
  unfold lnumF at hp
  split at hp
  · simp only [List.mem_cons, List.not_mem_nil, or_false] at hp
    rcases hp with e | e <;> rw [e] <;> assumption
  · simp only [List.mem_cons, List.not_mem_nil, or_false] at hp
    rw [hp]
    exact e1
/-- the numbers that a law draws -/
def lnumbers (cells : List Int) (more : Bool) (most : Int) : List Int := cutA (lnums cells more) none (some most)
theorem sIx_none (n d : Nat) : HT.sIx n d none = d := HT.sIx_none n d
theorem cut_to {α : Type} (xs : List α) (n : Nat) : cutA xs none (some (n : Int)) = xs.take n := by
  unfold cutA
  rw [sIx_none, HT.sIx_nat, List.drop_zero, Nat.sub_zero]
  by_cases h : n ≤ xs.length
  · rw [Nat.min_eq_left h]
  · rw [Nat.min_eq_right (by omega), List.take_length, List.take_of_length_le (by omega)]
theorem cut_from {α : Type} (xs : List α) (n : Nat) : cutA xs (some (n : Int)) none = xs.drop n := by
  unfold cutA
  rw [sIx_none, HT.sIx_nat]
  by_cases h : n ≤ xs.length
  · rw [Nat.min_eq_left h]
    exact List.take_of_length_le (by rw [List.length_drop]; exact Nat.le_refl _)
  · rw [Nat.min_eq_right (by omega), Nat.sub_self, List.take_zero, List.drop_of_length_le (by omega)]
theorem lnumbers_is (cells : List Int) (more : Bool) (n : Nat) : lnumbers cells more (n : Int) = (lnums cells more).take n := cut_to _ n
theorem lnumbers_nn (cells : List Int) (more : Bool) (n : Nat) : ∀ x ∈ lnumbers cells more (n : Int), 0 ≤ x := fun x hx => by
  rw [lnumbers_is] at hx
  exact lnums_nn cells more x (List.mem_of_mem_take hx)
theorem lnumbers_len (cells : List Int) (more : Bool) (n : Nat) : (lnumbers cells more (n : Int)).length ≤ n := by
  rw [lnumbers_is, List.length_take]
  exact Nat.min_le_left _ _
def pre__law_numbers : DE → Slot → Prop := fun ss s => ∃ (cells : List Int) (more : Bool) (most : Int), ss = [.sh cells, .sh more, .sh most] ∧ s = .sh (lnumbers cells more most)
theorem pre__law_numbers_len : ∀ ss s, pre__law_numbers ss s → ss.length = 3 := fun ss s ⟨_, _, _, h, _⟩ => by rw [h]; rfl
def pre__law_walk : DE → Slot → Prop := fun ss s => ∃ (nums names : List Int) (closed : Bool), 1 ≤ names.length ∧ names.length ≤ 1000 ∧ nums.length ≤ 1000 ∧ ss = [.sh nums, .sh names, .sh closed] ∧ s = .sh (lwalk nums names closed)
theorem pre__law_walk_len : ∀ ss s, pre__law_walk ss s → ss.length = 3 := fun ss s ⟨_, _, _, _, _, _, h, _⟩ => by rw [h]; rfl
def pre__law_tile : DE → Slot → Prop := fun ss s => ∃ p : Part, ss = [.sh p] ∧ s = .sh (ltile p)
theorem pre__law_tile_len : ∀ ss s, pre__law_tile ss s → ss.length = 1 := fun ss s ⟨_, h, _⟩ => by rw [h]; rfl
def pre__law_order : DE → Slot → Prop := fun ss s => ∃ (nums : List Int) (size : Nat) (way : Int), size ≤ nums.length ∧ nums.length ≤ 1000 ∧ ss = [.sh nums, .sh (size : Int), .sh way] ∧ s = .sh (lorder nums size way)
theorem pre__law_order_len : ∀ ss s, pre__law_order ss s → ss.length = 3 := fun ss s ⟨_, _, _, _, _, h, _⟩ => by rw [h]; rfl
def pre__law_marks : DE → Slot → Prop := fun ss s => ∃ tiles : List (Int × Int), Few tiles ∧ ss = [.sh tiles] ∧ s = .sh (lmarks tiles)
theorem pre__law_marks_len : ∀ ss s, pre__law_marks ss s → ss.length = 1 := fun ss s ⟨_, _, h, _⟩ => by rw [h]; rfl
/-- the marks found so far -/
structure RInv (tiles : List (Int × Int)) (a : Int) (m : List (Int × Bool)) : Prop where
  nd : (keysM m).Nodup
  st : a ∈ keysM m
  rc : ∀ k ∈ keysM m, Reach tiles a k
theorem RInv.len {tiles : List (Int × Int)} {a : Int} {m : List (Int × Bool)} (h : RInv tiles a m) (ha : a ∈ lmarks tiles) : m.length ≤ (lmarks tiles).length := by
  rw [← keys_len]
  exact nodup_len h.nd fun k hk => (h.rc k hk).mark ha
theorem RInv.done {tiles : List (Int × Int)} {a : Int} {m : List (Int × Bool)} (h : RInv tiles a m) (ha : a ∈ lmarks tiles) (hc : ∀ t ∈ tiles, t.1 ∈ keysM m ↔ t.2 ∈ keysM m) : sortI (m.map (·.1)) = lreach tiles a := by
  have hr : ∀ {b : Int}, Reach tiles a b → b ∈ keysM m := by
    intro b r
    induction r with
    | refl => exact h.st
    | step _ e ih =>
      rcases e with e | e
      · exact (hc _ e).mp ih
      · exact (hc _ e).mpr ih
  refine lt_eq (sortI_keys h.nd) (lreach_lt tiles a) fun x => ?_
  rw [mem_sortI, mem_lreach]
  exact ⟨fun hx => ⟨(h.rc x hx).mark ha, h.rc x hx⟩, fun hx => hr hx.2⟩
theorem dput_grow {m : List (Int × Bool)} {k : Int} {v : Bool} : (k ∈ keysM m ∧ keysM (dput m k v) = keysM m) ∨ (dput m k v).length = m.length + 1 := by
  by_cases hk : k ∈ keysM m
  · exact .inl ⟨hk, by rw [keys_dput, if_pos hk]⟩
  · refine .inr ?_
    rw [dput_new hk, List.length_append]
    rfl
theorem dput_ge {m : List (Int × Bool)} {k : Int} {v : Bool} : m.length ≤ (dput m k v).length := by
  rcases dput_grow (m := m) (k := k) (v := v) with h | h
  · rw [← keys_len (m := dput m k v), h.2, keys_len]
    exact Nat.le_refl _
  · omega
theorem RInv.put {tiles : List (Int × Int)} {a : Int} {m : List (Int × Bool)} (h : RInv tiles a m) {k : Int} {v : Bool} (hk : Reach tiles a k) : RInv tiles a (dput m k v) :=
  ⟨nodup_dput h.nd, mem_dput.mpr (.inr h.st), fun j hj => (mem_dput.mp hj).elim (fun e => by rw [e]; exact hk) (h.rc j)⟩
def pre__law_reached : DE → Slot → Prop := fun ss s => ∃ (tiles : List (Int × Int)) (a : Int), Few tiles ∧ a ∈ lmarks tiles ∧ ss = [.sh tiles, .sh a] ∧ s = .sh (lreach tiles a)
theorem pre__law_reached_len : ∀ ss s, pre__law_reached ss s → ss.length = 2 := fun ss s ⟨_, _, _, _, h, _⟩ => by rw [h]; rfl
def ltog1 (m : List (Int × Int)) (k : Int) : List (Int × Int) := dput m k (1 - (dget m k).getD 0)
def ltog (m : List (Int × Int)) (t : Int × Int) : List (Int × Int) := ltog1 (ltog1 m t.1) t.2
theorem ltog_len : ∀ (l m : List (Int × Int)), (l.foldl ltog m).length ≤ m.length + 2 * l.length
  | [], m => by simp
  | t :: l, m => by
    have h1 := ltog_len l (ltog m t)
    have h2 : (ltog1 m t.1).length ≤ m.length + 1 := dput_len
    have h3 : (ltog m t).length ≤ (ltog1 m t.1).length + 1 := dput_len
    rw [List.foldl_cons, List.length_cons]
    omega
theorem ltog1_get {m : List (Int × Int)} {k j : Int} {p : Int} (h : (dget m j).getD 0 = p % 2) : (dget (ltog1 m k) j).getD 0 = (p + b2i (decide (k = j))) % 2 := by
  unfold ltog1
  rw [dget_dput]
  by_cases c : j = k
  · rw [if_pos c, decide_eq_true c.symm, ← c, h]
    show 1 - p % 2 = (p + 1) % 2
    omega
  · rw [if_neg c, decide_eq_false (Ne.symm c), h]
    show p % 2 = (p + 0) % 2
    rw [Int.add_zero]
theorem ltog_get : ∀ (l m : List (Int × Int)) (j p : Int), (dget m j).getD 0 = p % 2 → (dget (l.foldl ltog m) j).getD 0 = (p + deg l j) % 2
  | [], m, j, p, h => by
    rw [List.foldl_nil, h, deg_nil, Int.add_zero]
  | t :: l, m, j, p, h => by
    have h1 : (dget (ltog m t) j).getD 0 = (p + b2i (decide (t.1 = j)) + b2i (decide (t.2 = j))) % 2 := ltog1_get (ltog1_get h)
    rw [List.foldl_cons, ltog_get l _ j _ h1, deg_cons]
    congr 1
    omega
theorem ltog_key : ∀ (l m : List (Int × Int)) (k : Int), k ∈ keysM (l.foldl ltog m) ↔ k ∈ keysM m ∨ ∃ t ∈ l, t.1 = k ∨ t.2 = k
  | [], m, k => by simp
  | t :: l, m, k => by
    rw [List.foldl_cons, ltog_key l (ltog m t) k]
    unfold ltog ltog1
    rw [mem_dput, mem_dput]
    constructor
    · rintro ((h | h | h) | ⟨u, h1, h2⟩)
      · exact .inr ⟨t, List.mem_cons_self, .inr h.symm⟩
      · exact .inr ⟨t, List.mem_cons_self, .inl h.symm⟩
      · exact .inl h
      · exact .inr ⟨u, List.mem_cons_of_mem _ h1, h2⟩
    · rintro (h | ⟨u, h1, h2⟩)
      · exact .inl (.inr (.inr h))
      · rcases List.mem_cons.mp h1 with e | h1
        · rw [e] at h2
          exact .inl (h2.elim (fun z => .inr (.inl z.symm)) fun z => .inl z.symm)
        · exact .inr ⟨u, h1, h2⟩
theorem ltog_nodup : ∀ (l m : List (Int × Int)), (keysM m).Nodup → (keysM (l.foldl ltog m)).Nodup
  | [], m, h => h
  | t :: l, m, h => ltog_nodup l (ltog m t) (nodup_dput (nodup_dput h))
theorem ltog_keys {tiles : List (Int × Int)} {k : Int} : k ∈ keysM (tiles.foldl ltog []) ↔ k ∈ lmarks tiles := by
  rw [ltog_key, mem_lmarks]
  exact ⟨fun h => h.elim (fun z => by cases z) id, Or.inr⟩
theorem ltog_sort (tiles : List (Int × Int)) : sortI ((tiles.foldl ltog []).map (·.1)) = lmarks tiles := sortI_marks (ltog_nodup tiles [] .nil) fun _ => ltog_keys
theorem ltog_at {tiles : List (Int × Int)} {k : Int} (h : k ∈ lmarks tiles) : dget (tiles.foldl ltog []) k = some (deg tiles k % 2) := by
  obtain ⟨v, hv⟩ := dget_of (ltog_keys.mpr h)
  have := ltog_get tiles [] k 0 rfl
  rw [hv, Int.zero_add] at this
  rw [hv]
  exact congrArg some this
theorem ltog_few {tiles : List (Int × Int)} (h : Few tiles) : (tiles.foldl ltog []).length < 64 := by
  rw [← keys_len]
  refine Nat.lt_of_le_of_lt (nodup_len (ltog_nodup tiles [] .nil) fun x hx => ltog_keys.mp hx) (lmarks_few h)
def pre__law_odds : DE → Slot → Prop := fun ss s => ∃ tiles : List (Int × Int), Few tiles ∧ ss = [.sh tiles] ∧ s = .sh (lodds tiles)
theorem pre__law_odds_len : ∀ ss s, pre__law_odds ss s → ss.length = 1 := fun ss s ⟨_, _, h, _⟩ => by rw [h]; rfl
theorem lodds_is (tiles : List (Int × Int)) : ((lcounts tiles).filter fun p => decide (p.2 % 2 = 1)).map (·.1) = lodds tiles := by
  rw [lcounts_is, List.filter_map, List.map_map]
  exact List.map_id _
def pre_odd_marks : DE → Slot → Prop := fun ss s => ∃ tiles : List (Int × Int), tiles.length ≤ 1000 ∧ ss = [.sh tiles] ∧ s = .sh (lodds tiles)
theorem pre_odd_marks_len : ∀ ss s, pre_odd_marks ss s → ss.length = 1 := fun ss s ⟨_, _, h, _⟩ => by rw [h]; rfl
def pre_parts_of : DE → Slot → Prop := fun ss s => ∃ tiles : List (Int × Int), Few tiles ∧ ss = [.sh tiles] ∧ s = .sh (lparts tiles)
theorem pre_parts_of_len : ∀ ss s, pre_parts_of ss s → ss.length = 1 := fun ss s ⟨_, _, h, _⟩ => by rw [h]; rfl
def pre_faces : DE → Slot → Prop := fun ss s => ∃ (tiles : List (Int × Int)) (st : Int × Bool), isNum tiles st.1 = true ∧ ss = [.sh tiles, .sh st] ∧ s = .sh (faceOf tiles st)
def bad_faces : DE → Prop := fun ss => ∃ (tiles : List (Int × Int)) (st : Int × Bool), isNum tiles st.1 = false ∧ ss = [.sh tiles, .sh st]
theorem pre_faces_len : ∀ ss s, pre_faces ss s → ss.length = 2 := fun ss s ⟨_, _, _, h, _⟩ => by rw [h]; rfl
theorem bad_faces_len : ∀ ss, bad_faces ss → ss.length = 2 := fun ss ⟨_, _, _, h⟩ => by rw [h]; rfl
def pre__law_tiles : DE → Slot → Prop := fun ss s => ∃ (parts : List Part) (order : List Int), order.length ≤ 1000 ∧ (∀ k ∈ order, 0 ≤ k ∧ k < (parts.length : Int)) ∧ ss = [.sh parts, .sh order] ∧ s = .sh (ltiles parts order)
theorem pre__law_tiles_len : ∀ ss s, pre__law_tiles ss s → ss.length = 2 := fun ss s ⟨_, _, _, _, h, _⟩ => by rw [h]; rfl
/-- what is left when the parts of the first heads are taken -/
noncomputable def lrest (tiles : List (Int × Int)) (rest : List Int) : List Int := (lmarks tiles).filter fun m => decide (lhead tiles m ∈ rest)
theorem mem_lrest {tiles : List (Int × Int)} {rest : List Int} {m : Int} : m ∈ lrest tiles rest ↔ m ∈ lmarks tiles ∧ lhead tiles m ∈ rest := by
  unfold lrest
  rw [List.mem_filter, decide_eq_true_iff]
theorem lrest_all (tiles : List (Int × Int)) : lrest tiles (lfirsts tiles) = lmarks tiles := List.filter_eq_self.mpr fun m hm => decide_eq_true (mem_lfirsts.mpr ⟨lhead_mark hm, lhead_idem hm⟩)
theorem lrest_nil (tiles : List (Int × Int)) : lrest tiles [] = [] := List.filter_eq_nil_iff.mpr fun m hm h => by
  have := of_decide_eq_true h
  cases this
theorem lrest_cons {tiles : List (Int × Int)} {pre rest : List Int} {L : Int} (he : lfirsts tiles = pre ++ L :: rest) : (lrest tiles (L :: rest))[0]? = some L ∧ (lrest tiles (L :: rest)).filter (fun m => !decide (m ∈ lreach tiles L)) = lrest tiles rest := by
  have hL : L ∈ lfirsts tiles := by rw [he]; simp
  obtain ⟨h1, h2⟩ := mem_lfirsts.mp hL
  have hs := lfirsts_lt tiles
  rw [he] at hs
  have hs2 := (List.pairwise_append.mp hs).2.1
  obtain ⟨s1, s2⟩ := List.pairwise_cons.mp hs2
  have hLr : L ∈ lrest tiles (L :: rest) := mem_lrest.mpr ⟨h1, by rw [h2]; exact List.mem_cons_self⟩
  constructor
  · have hlt : (lrest tiles (L :: rest)).Pairwise (· < ·) := (lmarks_lt tiles).filter _
    cases h : lrest tiles (L :: rest) with
    | nil => rw [h] at hLr; cases hLr
    | cons x l =>
      rw [h] at hlt hLr
      have hx : x ∈ lrest tiles (L :: rest) := by rw [h]; exact List.mem_cons_self
      obtain ⟨x1, x2⟩ := mem_lrest.mp hx
      have h3 := lhead_self x1
      have h4 : L ≤ lhead tiles x := by
        rcases List.mem_cons.mp x2 with e | e
        · rw [e]
          exact Int.le_refl _
        · exact Int.le_of_lt (s1 _ e)
      have h5 : x ≤ L := by
        rcases List.mem_cons.mp hLr with e | e
        · rw [e]
          exact Int.le_refl _
        · exact Int.le_of_lt ((List.pairwise_cons.mp hlt).1 _ e)
      have : x = L := by omega
      rw [this]
      rfl
  · unfold lrest
    rw [List.filter_filter]
    refine List.filter_congr fun m hm => ?_
    have e1 : decide (m ∈ lreach tiles L) = decide (lhead tiles m = L) := by
      rw [decide_eq_decide, mem_lreach]
      constructor
      · intro ⟨_, r⟩
        rw [← lhead_congr h1 r]
        exact h2
      · intro e
        exact ⟨hm, (lhead_iff h1 hm).mp (h2.trans e.symm)⟩
    rw [e1]
    by_cases c : lhead tiles m = L
    · rw [decide_eq_true c, c, decide_eq_false (fun z => absurd (s1 L z) (Int.lt_irrefl _))]
      rfl
    · rw [decide_eq_false c]
      have e2 : decide (lhead tiles m ∈ L :: rest) = decide (lhead tiles m ∈ rest) := by
        rw [decide_eq_decide, List.mem_cons]
        exact ⟨fun h => h.elim (fun z => absurd z c) id, Or.inr⟩
      rw [e2]
      rfl
def pre__law_groups : DE → Slot → Prop := fun ss s => ∃ tiles : List (Int × Int), Few tiles ∧ ss = [.sh tiles] ∧ s = .sh (lparts tiles)
theorem pre__law_groups_len : ∀ ss s, pre__law_groups ss s → ss.length = 1 := fun ss s ⟨_, _, h, _⟩ => by rw [h]; rfl
def pre__law_alike : DE → Slot → Prop := fun ss s => ∃ found : List Int, found.length ≤ 900000 ∧ ss = [.sh found, .sh found] ∧ s = .sh true
theorem pre__law_alike_len : ∀ ss s, pre__law_alike ss s → ss.length = 2 := fun ss s ⟨_, _, h, _⟩ => by rw [h]; rfl
def pre__law_step : DE → Slot → Prop := fun ss s => ∃ (st : Int × Bool) (many : Int), 0 ≤ st.1 ∧ st.1 < many ∧ ss = [.sh st, .sh many] ∧ s = .sh true
theorem pre__law_step_len : ∀ ss s, pre__law_step ss s → ss.length = 2 := fun ss s ⟨_, _, _, _, h, _⟩ => by rw [h]; rfl
def lpp (T : Tls) (P : Int → Int) : List (Int × Int) := (lmarks T).map fun k => (k, P k)
theorem lpp_fst (T : Tls) (P : Int → Int) : (lpp T P).map (fun y => y.1) = lmarks T := by
  unfold lpp
  rw [List.map_map]
  exact List.map_id' _
theorem lpp_mem {T : Tls} {P : Int → Int} {y : Int × Int} (h : y ∈ lpp T P) : y.2 = P y.1 := by
  obtain ⟨k, _, e⟩ := List.mem_map.mp h
  rw [← e]
def FitsR (T : Tls) (row : List Stp) (P : Int → Int) : Prop := ∀ st ∈ row, isNum T st.1 = true ∧ (st.2 = true → 1 ≤ P (tileAt T st.1).2 - P (tileAt T st.1).1) ∧ (st.2 = false → P (tileAt T st.1).2 - P (tileAt T st.1).1 ≤ 1)
def pre__law_priced : DE → Slot → Prop := fun ss s => ∃ (T : Tls) (row : List Stp) (P : Int → Int), Few T ∧ FitsR T row P ∧ ss = [.sh T, .sh row, .sh (lpp T P)] ∧ s = .sh true
theorem pre__law_priced_len : ∀ ss s, pre__law_priced ss s → ss.length = 3 := fun ss s ⟨_, _, _, _, _, h, _⟩ => by rw [h]; rfl
/-- the parts of two walks -/
def lparts2 (nums names : List Int) (way : Int) : List Part :=
  let half : Int := (names.length : Int) / 2
  let some' : Int := (nums.length : Int) / 2
  lwalk (cutA nums none (some some')) (cutA names (some half) none) (decide (way % 2 = 1)) ++
    lwalk (cutA nums (some some') none) (cutA (cutA names none (some half) ++ names) none (some (if half > 1 then half else 1))) (decide (way / 2 % 2 = 1))
theorem cut_to' {α : Type} (xs : List α) (n : Int) (h : 0 ≤ n) : cutA xs none (some n) = xs.take n.toNat := by
  obtain ⟨k, rfl⟩ := Int.eq_ofNat_of_zero_le h
  exact cut_to xs k
theorem cut_from' {α : Type} (xs : List α) (n : Int) (h : 0 ≤ n) : cutA xs (some n) none = xs.drop n.toNat := by
  obtain ⟨k, rfl⟩ := Int.eq_ofNat_of_zero_le h
  exact cut_from xs k
structure Two2 (nums names : List Int) (way : Int) : Prop where
  c1 : cutA nums none (some ((nums.length : Int) / 2)) = nums.take ((nums.length : Int) / 2).toNat
  c2 : cutA nums (some ((nums.length : Int) / 2)) none = nums.drop ((nums.length : Int) / 2).toNat
  n1 : 1 ≤ (cutA names (some ((names.length : Int) / 2)) none).length
  n2 : 1 ≤ (cutA (cutA names none (some ((names.length : Int) / 2)) ++ names) none (some (if (names.length : Int) / 2 > 1 then (names.length : Int) / 2 else 1))).length
  s1 : ∀ x ∈ cutA names (some ((names.length : Int) / 2)) none, x ∈ names
  s2 : ∀ x ∈ cutA (cutA names none (some ((names.length : Int) / 2)) ++ names) none (some (if (names.length : Int) / 2 > 1 then (names.length : Int) / 2 else 1)), x ∈ names
  len : (lparts2 nums names way).length ≤ nums.length
  mem : ∀ p ∈ lparts2 nums names way, p.a ∈ names ∧ p.b ∈ names
theorem two2 (nums names : List Int) (way : Int) (h : 1 ≤ names.length) : Two2 nums names way := by
  have c1 := cut_to' nums ((nums.length : Int) / 2) (by omega)
  have c2 := cut_from' nums ((nums.length : Int) / 2) (by omega)
  have d1 := cut_from' names ((names.length : Int) / 2) (by omega)
  have d2 := cut_to' names ((names.length : Int) / 2) (by omega)
  have hmx : (1 : Int) ≤ (if (names.length : Int) / 2 > 1 then (names.length : Int) / 2 else 1) := by split <;> omega
  generalize hm : (if (names.length : Int) / 2 > 1 then (names.length : Int) / 2 else (1 : Int)) = mx at *
  have d3 := cut_to' (cutA names none (some ((names.length : Int) / 2)) ++ names) mx (by omega)
  have n1 : 1 ≤ (cutA names (some ((names.length : Int) / 2)) none).length := by
    rw [d1, List.length_drop]
    omega
  have n2 : 1 ≤ (cutA (cutA names none (some ((names.length : Int) / 2)) ++ names) none (some mx)).length := by
    rw [d3, List.length_take, List.length_append]
    omega
  have s1 : ∀ x ∈ cutA names (some ((names.length : Int) / 2)) none, x ∈ names := fun x hx => by
    rw [d1] at hx
    exact List.mem_of_mem_drop hx
  have s2 : ∀ x ∈ cutA (cutA names none (some ((names.length : Int) / 2)) ++ names) none (some mx), x ∈ names := fun x hx => by
    rw [d3] at hx
    rcases List.mem_append.mp (List.mem_of_mem_take hx) with a | a
    · rw [d2] at a
      exact List.mem_of_mem_take a
    · exact a
  have hp : lparts2 nums names way = lwalk (cutA nums none (some ((nums.length : Int) / 2))) (cutA names (some ((names.length : Int) / 2)) none) (decide (way % 2 = 1)) ++ lwalk (cutA nums (some ((nums.length : Int) / 2)) none) (cutA (cutA names none (some ((names.length : Int) / 2)) ++ names) none (some mx)) (decide (way / 2 % 2 = 1)) := by
    unfold lparts2
    dsimp only
    rw [hm]
  refine ⟨c1, c2, n1, by rw [hm]; exact n2, s1, by rw [hm]; exact s2, ?_, fun p hpm => ?_⟩
  · rw [hp, List.length_append, lwalk_len, lwalk_len]
    have w1 := wmany_le (cutA nums none (some ((nums.length : Int) / 2))) (decide (way % 2 = 1))
    have w2 := wmany_le (cutA nums (some ((nums.length : Int) / 2)) none) (decide (way / 2 % 2 = 1))
    rw [c1, List.length_take] at w1
    rw [c2, List.length_drop] at w2
    rw [c1, c2]
    omega
  · rw [hp] at hpm
    rcases List.mem_append.mp hpm with a | a
    · obtain ⟨x, y⟩ := lwalk_mem n1 a
      exact ⟨s1 _ x, s1 _ y⟩
    · obtain ⟨x, y⟩ := lwalk_mem n2 a
      exact ⟨s2 _ x, s2 _ y⟩
def share12 (x : Int) : Int := [2, 12].getD (x % 2).toNat 0
theorem share12_at {x : Int} : atI [(2 : Int), 12] (x % 2) = some (share12 x) := by
  unfold share12
  rcases (show x % 2 = 0 ∨ x % 2 = 1 by omega) with e | e <;> rw [e] <;> rfl
theorem share12_pos (x : Int) : 0 < share12 x := by
  unfold share12
  rcases (show x % 2 = 0 ∨ x % 2 = 1 by omega) with e | e <;> rw [e] <;> decide
def ldrawn9 (nums names : List Int) (aside : Int) : List Part :=
  if aside % 5 = 4 then lparts2 nums names (aside / 5) else if aside % 5 = 3 then lkst nums names (lkeep nums names (share12 (aside / 5))) nums.length else lwalk nums names true
theorem lkst_len (nums names : List Int) (keep : Nat → Bool) : (lkst nums names keep nums.length).length ≤ nums.length := by
  unfold lkst
  rw [List.length_map]
  refine Nat.le_trans (List.length_filter_le _ _) ?_
  rw [List.length_range]
  exact Nat.le_refl _
theorem drawn9_ok {nums names : List Int} {aside : Int} (h1 : 1 ≤ names.length) : (ldrawn9 nums names aside).length ≤ nums.length ∧ ∀ p ∈ ldrawn9 nums names aside, p.a ∈ names ∧ p.b ∈ names := by
  unfold ldrawn9
  split
  · have t := two2 nums names (aside / 5) h1
    exact ⟨t.len, t.mem⟩
  · split
    · refine ⟨lkst_len _ _ _, fun p hp => ?_⟩
      obtain ⟨k, _, e⟩ := List.mem_map.mp hp
      rw [← e]
      exact wpart_mem h1 k
    · refine ⟨?_, fun p hp => lwalk_mem h1 hp⟩
      rw [lwalk_len]
      exact wmany_le _ _
def pre__law_drawn : DE → Slot → Prop := fun ss s => ∃ (nums names : List Int) (aside : Int), 1 ≤ names.length ∧ names.length ≤ 40 ∧ nums.length ≤ 119 ∧ ss = [.sh nums, .sh names, .sh aside] ∧ s = .sh (ldrawn9 nums names aside)
theorem pre__law_drawn_len : ∀ ss s, pre__law_drawn ss s → ss.length = 3 := fun ss s ⟨_, _, _, _, _, _, h, _⟩ => by rw [h]; rfl
def pre_leaving : DE → Slot → Prop := fun ss s => ∃ (T : Tls) (steps : List Stp), steps.length ≤ 100000 ∧ (∀ st ∈ steps, isNum T st.1 = true) ∧ ss = [.sh T, .sh steps] ∧ s = odl (lleave T steps)
theorem pre_leaving_len : ∀ ss s, pre_leaving ss s → ss.length = 2 := fun ss s ⟨_, _, _, _, h, _⟩ => by rw [h]; rfl
def pre_walk_from : DE → DE → Slot → Prop := fun ss ss' s => ∃ (T : Tls) (S : List (Int × List Stp)) (U : List (Int × Bool)) (m : Int) (p q : Addr), T.length ≤ 10000 ∧ U.length ≤ 800000 ∧ SVal T S ∧ ss = [.sh T, .own (atR p (odlR S)), .own (atR q (odR U)), .sh m] ∧
  ss' = [.sh T, .own (atR p (odlR (hres T (hstart S U m)).S)), .own (atR q (odR (hres T (hstart S U m)).U)), .sh m] ∧ s = .sh (hres T (hstart S U m)).row
theorem pre_walk_from_len : ∀ ss ss' s, pre_walk_from ss ss' s → ss.length = 4 := fun ss ss' s ⟨_, _, _, _, _, _, _, _, _, h, _⟩ => by rw [h]; rfl
theorem pre_walk_from_match : ∀ ss ss' s, pre_walk_from ss ss' s → Match ss ss' := fun ss ss' s ⟨T, S, U, m, p, q, _, _, _, h1, h2, _⟩ => by
  subst h1 h2
  refine ⟨rfl, fun i s e => ?_⟩
  match i, e with
  | 0, e => (cases e; exact .inl ⟨rfl, rfl⟩)
  | 1, e => (cases e; exact .inr ⟨_, _, _, rfl, rfl⟩)
  | 2, e => (cases e; exact .inr ⟨_, _, _, rfl, rfl⟩)
  | 3, e => (cases e; exact .inl ⟨rfl, rfl⟩)
  | i + 4, e => cases e
theorem back4 {s0 s3 x4 x5 x6 x7 x8 : Slot} {r1 r2 : Res} (h0 : isOwn s0 = false) (h3 : isOwn s3 = false) : Back [s0, .own r1, .own r2, s3] [s0, .own r1, .own r2, s3, x4, x5, x6, x7, x8] := fun i r e => by
  match i, e with
  | 0, e => exact e
  | 1, e => exact e
  | 2, e => exact e
  | 3, e => exact e
  | i + 4, e => cases e
instance {p : Addr} {r : Res} : IsRef (atR p r) := ⟨fun h => ⟨p, h.1⟩⟩
def pre_arcs_of : DE → Slot → Prop := fun ss s => ∃ (T : Tls) (ways : List Bool), ways.length = T.length ∧ T.length ≤ 1000 ∧ ss = [.sh T, .sh ways] ∧ s = .sh (warcs T ways)
theorem pre_arcs_of_len : ∀ ss s, pre_arcs_of ss s → ss.length = 2 := fun ss s ⟨_, _, _, _, h, _⟩ => by rw [h]; rfl
def pre__law_reason : DE → Slot → Prop := fun ss s => ∃ (t : Told) (groups : List (List Int)) (odds : List Int), groups.length ≤ 1000 ∧ odds.length ≤ 1000 ∧ (∀ g ∈ groups, g.length ≤ 1000) ∧ ((groups.length ≤ 1 ∧ t = .odd odds) ∨ (1 < groups.length ∧ t = .parted groups)) ∧ ss = [.sh t, .sh groups, .sh odds] ∧ s = .sh true
theorem pre__law_reason_len : ∀ ss s, pre__law_reason ss s → ss.length = 3 := fun ss s ⟨_, _, _, _, _, _, _, h, _⟩ => by rw [h]; rfl
theorem zip_same {α : Type} : ∀ {l : List α} {p : α × α}, p ∈ l.zip l → p.1 = p.2 ∧ p.2 ∈ l
  | [], p, h => by simp at h
  | x :: l, p, h => by
    rw [List.zip_cons_cons] at h
    rcases List.mem_cons.mp h with e | h
    · rw [e]
      exact ⟨rfl, List.mem_cons_self⟩
    · obtain ⟨a, b⟩ := zip_same h
      exact ⟨a, List.mem_cons_of_mem _ b⟩
def pre__law_walked : DE → Slot → Prop := fun ss s => ∃ (tiles : Tls) (row : List Stp) (a b : Int), row ≠ [] ∧ row.length ≤ 100000 ∧ tiles.length ≤ 100000 ∧ (∀ st ∈ row, isNum tiles st.1 = true) ∧ WalkT tiles a row b ∧ ss = [.sh tiles, .sh row] ∧ s = .sh (some (T3.mk (nums row) a b))
theorem pre__law_walked_len : ∀ ss s, pre__law_walked ss s → ss.length = 2 := fun ss s ⟨_, _, _, _, _, _, _, _, _, h, _⟩ => by rw [h]; rfl
def stO (pre : List Stp) (a : Int) : Option Int := match pre with
  | [] => none
  | _ :: _ => some a
theorem stO_snoc (pre : List Stp) (x : Stp) (a : Int) : stO (pre ++ [x]) a = some a := by cases pre <;> rfl
def pre_fewest : DE → Slot → Prop := fun ss s => ∃ tiles : List (Int × Int), Few tiles ∧ ss = [.sh tiles] ∧ s = .sh (lfewest tiles)
theorem pre_fewest_len : ∀ ss s, pre_fewest ss s → ss.length = 1 := fun ss s ⟨_, _, h, _⟩ => by rw [h]; rfl
theorem lpr_len (A : List Arc) : (lpr A).length ≤ 2 * A.length := by
  have key : ∀ (l : List Arc) (m : List (Int × Int)), (l.foldl lpr1 m).length ≤ m.length + 2 * l.length := fun l => by
    induction l with
    | nil => exact fun m => by show m.length ≤ _; omega
    | cons e l ih =>
      intro m
      rw [List.foldl_cons, List.length_cons]
      have h1 := ih (lpr1 m e)
      have h2 : (lpr1 m e).length ≤ (dput m e.a 0).length + 1 := dput_len
      have h3 : (dput m e.a 0).length ≤ m.length + 1 := dput_len
      omega
  have := key A []
  rw [List.length_nil] at this
  unfold lpr
  omega
def pre_settled : DE → Slot → Prop := fun ss s => ∃ (T : Tls) (ways : List Bool), ways.length = T.length ∧ T.length ≤ 1000 ∧ ss = [.sh T, .sh ways] ∧ s = .sh (Dct.mk (bset (warcs T ways)).pr, lround (warcs T ways) (bset (warcs T ways)))
theorem pre_settled_len : ∀ ss s, pre_settled ss s → ss.length = 2 := fun ss s ⟨_, _, _, _, h, _⟩ => by rw [h]; rfl
def pre__law_least : DE → Slot → Prop := fun ss s => ∃ (T : Tls) (row : List Stp) (P : Int → Int) (most : Int), Few T ∧ FitsR T row P ∧ (T = [] → row = []) ∧ (T ≠ [] → ∃ a, RowOf T row a a) ∧ ((row.filter fun st => st.2).length : Int) ≤ most ∧
  ss = [.sh (TLeast.least row (lpp T P)), .sh T, .sh most] ∧ s = .sh true
theorem pre__law_least_len : ∀ ss s, pre__law_least ss s → ss.length = 3 := fun ss s ⟨_, _, _, _, _, _, _, _, _, h, _⟩ => by rw [h]; rfl
noncomputable def lonerow (tiles : List (Int × Int)) : Told := if 1 < (lparts tiles).length then .parted (lparts tiles) else if 2 < (lodds tiles).length then .odd (lodds tiles) else .row ((lfewest tiles).headD [])
def pre_one_row : DE → Slot → Prop := fun ss s => ∃ tiles : List (Int × Int), Few tiles ∧ ss = [.sh tiles] ∧ s = .sh (lonerow tiles)
theorem pre_one_row_len : ∀ ss s, pre_one_row ss s → ss.length = 1 := fun ss s ⟨_, _, h, _⟩ => by rw [h]; rfl
noncomputable def lonering (tiles : List (Int × Int)) : Told := if 1 < (lparts tiles).length then .parted (lparts tiles) else if lodds tiles = [] then .ring ((lfewest tiles).headD []) else .odd (lodds tiles)
def pre_one_ring : DE → Slot → Prop := fun ss s => ∃ tiles : List (Int × Int), Few tiles ∧ ss = [.sh tiles] ∧ s = .sh (lonering tiles)
theorem pre_one_ring_len : ∀ ss s, pre_one_ring ss s → ss.length = 1 := fun ss s ⟨_, _, h, _⟩ => by rw [h]; rfl
theorem ring_word (tiles : List (Int × Int)) : (lonering tiles).word = "ring" ↔ lisring tiles := by
  unfold lonering lisring
  by_cases c : 1 < (lparts tiles).length
  · rw [if_pos c]
    exact ⟨fun h => absurd h (by show ¬ ("parted" : Str) = "ring"; decide +kernel), fun h => absurd h.1 (by omega)⟩
  · rw [if_neg c]
    by_cases d : lodds tiles = []
    · rw [if_pos d]
      exact ⟨fun _ => ⟨by omega, d⟩, fun _ => rfl⟩
    · rw [if_neg d]
      exact ⟨fun h => absurd h (by show ¬ ("odd" : Str) = "ring"; decide +kernel), fun h => absurd h.2 d⟩
theorem lonering_is {T : Tls} (h : lisring T) : lonering T = .ring ((lfewest T).headD []) := by
  unfold lonering
  rw [if_neg (by have := h.1; omega), if_pos h.2]
theorem ring_row {T : Tls} (h : lisring T) : ∃ a, RowOf T ((lfewest T).headD []) a a := by
  obtain ⟨a, b, h1, h2⟩ := fewest_one h.1 (by rw [h.2]; exact Nat.zero_le _)
  have e := h2 h.2
  subst e
  exact ⟨a, h1⟩
def set1 (w : List Bool) (st : Stp) : List Bool := w.set st.1.toNat st.2
theorem set1_len : ∀ (r : List Stp) (w : List Bool), (r.foldl set1 w).length = w.length
  | [], _ => rfl
  | st :: r, w => by
    rw [List.foldl_cons, set1_len r]
    exact List.length_set
theorem set1_at {w : List Bool} {st : Stp} {n : Int} (h : 0 ≤ st.1 ∧ st.1 < (w.length : Int)) (hn : 0 ≤ n) : wayAt (set1 w st) n = if n = st.1 then st.2 else wayAt w n := by
  obtain ⟨m, b⟩ := st
  obtain ⟨i, rfl⟩ := Int.eq_ofNat_of_zero_le h.1
  obtain ⟨j, rfl⟩ := Int.eq_ofNat_of_zero_le hn
  have hi : i < w.length := by
    have := h.2
    dsimp only at this
    omega
  unfold set1 wayAt
  dsimp only
  rw [Int.toNat_natCast, Int.toNat_natCast, List.getD_eq_getElem?_getD, List.getD_eq_getElem?_getD]
  by_cases c : j = i
  · subst c
    rw [if_pos rfl, List.getElem?_set_self hi]
    rfl
  · rw [if_neg (by omega), List.getElem?_set_ne (by omega)]
theorem set1_all : ∀ {r : List Stp} {w : List Bool}, (nums r).Nodup → (∀ st ∈ r, 0 ≤ st.1 ∧ st.1 < (w.length : Int)) → (∀ n, 0 ≤ n → n ∉ nums r → wayAt (r.foldl set1 w) n = wayAt w n) ∧ ∀ st ∈ r, wayAt (r.foldl set1 w) st.1 = st.2
  | [], _, _, _ => ⟨fun _ _ _ => rfl, fun st h => by cases h⟩
  | st :: r, w, hn, hv => by
    have hn : (st.1 :: nums r).Nodup := hn
    obtain ⟨n1, n2⟩ := List.nodup_cons.mp hn
    have h0 := hv st List.mem_cons_self
    have hl : (set1 w st).length = w.length := List.length_set
    obtain ⟨i1, i2⟩ := set1_all (r := r) (w := set1 w st) n2 fun q hq => by rw [hl]; exact hv q (List.mem_cons_of_mem _ hq)
    refine ⟨fun n h1 h2 => ?_, fun q hq => ?_⟩
    · have h2 : n ∉ st.1 :: nums r := h2
      rw [List.mem_cons, not_or] at h2
      rw [List.foldl_cons, i1 n h1 h2.2, set1_at h0 h1, if_neg h2.1]
    · rw [List.foldl_cons]
      rcases List.mem_cons.mp hq with e | e
      · rw [e, i1 st.1 h0.1 n1, set1_at h0 h0.1, if_pos rfl]
      · exact i2 q e
def lways0 (T : Tls) (r : List Stp) : List Bool := r.foldl set1 (List.replicate T.length false)
theorem ways0_ok {T : Tls} {r : List Stp} {a : Int} (h : RowOf T r a a) : WayOk T (lways0 T r) := by
  have hl : (lways0 T r).length = T.length := by
    unfold lways0
    rw [set1_len, List.length_replicate]
  have hnd : (nums r).Nodup := h.all.nodup_iff.mpr (int_range_nodup _)
  refine ⟨hl, even_of_ring h fun st hst => ⟨h.val st hst, ?_⟩⟩
  refine ((set1_all (w := List.replicate T.length false) hnd fun q hq => ?_).2 st hst).symm
  rw [List.length_replicate]
  exact isNum_iff.mp (h.val q hq)
noncomputable def lways (T : Tls) : List Bool := lset T (cnt T (lways0 T ((lfewest T).headD []))).toNat (lways0 T ((lfewest T).headD []))
theorem lways_ok {T : Tls} (h : lisring T) : WayOk T (lways T) ∧ (bset (warcs T (lways T))).last = none := by
  obtain ⟨a, ha⟩ := ring_row h
  unfold lways
  refine lset_ok _ (ways0_ok ha) ?_
  have := cnt_nonneg T (lways0 T ((lfewest T).headD []))
  omega
noncomputable def lrowD (T : Tls) (W : List Bool) : List Stp := if T = [] then [] else (hres T (hstart (lleave T (enumA W)) [] (faceOf T (wstep W 0)).1)).row
open Classical in
noncomputable def lleast (T : Tls) : TLeast := if lisring T then .least (lrowD T (lways T)) (sortP (bset (warcs T (lways T))).pr) else .told (lonering T)
theorem way_atI {w : List Bool} {n : Int} (h1 : 0 ≤ n) (h2 : n < (w.length : Int)) : atI w n = some (wayAt w n) := by
  obtain ⟨i, rfl⟩ := Int.eq_ofNat_of_zero_le h1
  have h3 : i < w.length := by omega
  unfold wayAt
  rw [Int.toNat_natCast, List.getD_eq_getElem?_getD, List.getElem?_eq_getElem h3]
  exact atI_nat (List.getElem?_eq_getElem h3)
theorem ixN_in {n : Nat} {k : Int} (h1 : 0 ≤ k) (h2 : k < (n : Int)) : ixN n k = some k.toNat := by
  unfold ixN
  rw [if_pos h1, if_pos h2]
theorem enumA_lies {T : Tls} {W : List Bool} (h : W.length = T.length) (st : Stp) : st ∈ enumA W ↔ Lies T W st := by
  constructor
  · intro hst
    obtain ⟨i, h1, h2⟩ := enumA_mem hst
    have h3 := (List.getElem?_eq_some_iff.mp h2).1
    refine ⟨isNum_iff.mpr (by omega), ?_⟩
    unfold wayAt
    rw [h1, Int.toNat_natCast, List.getD_eq_getElem?_getD, h2]
    rfl
  · rintro ⟨h1, h2⟩
    obtain ⟨g1, g2⟩ := isNum_iff.mp h1
    obtain ⟨n, b⟩ := st
    obtain ⟨i, rfl⟩ := Int.eq_ofNat_of_zero_le g1
    dsimp only at g2 h2
    have h3 : i < W.length := by omega
    refine List.mem_of_getElem? (i := i) ?_
    rw [enumA_get (List.getElem?_eq_getElem h3), h2]
    unfold wayAt
    rw [Int.toNat_natCast, List.getD_eq_getElem?_getD, List.getElem?_eq_getElem h3]
    rfl
def pre_least_turned : DE → Slot → Prop := fun ss s => ∃ tiles : List (Int × Int), Few tiles ∧ ss = [.sh tiles] ∧ s = .sh (lleast tiles)
theorem pre_least_turned_len : ∀ ss s, pre_least_turned ss s → ss.length = 1 := fun ss s ⟨_, _, h, _⟩ => by rw [h]; rfl
theorem one_reach {T : Tls} (h : (lparts T).length ≤ 1) {x y : Int} (hx : x ∈ lmarks T) (hy : y ∈ lmarks T) : Reach T x y := by
  obtain ⟨g, h1, h2⟩ := part_of hx
  obtain ⟨g', h3, h4⟩ := part_of hy
  have e : g = g' := by
    cases hp : lparts T with
    | nil => rw [hp] at h1; cases h1
    | cons a l =>
      cases l with
      | cons b l => rw [hp, List.length_cons, List.length_cons] at h; omega
      | nil =>
        rw [hp] at h1 h3
        rw [List.mem_singleton.mp h1, List.mem_singleton.mp h3]
  rw [← e] at h4
  exact (part_reach h1 h2).mp h4
theorem arcs_mark {T : Tls} {W : List Bool} (hl : W.length = T.length) {k : Int} : k ∈ keysM (lpr (warcs T W)) ↔ k ∈ lmarks T := by
  rw [lpr_mem, mem_lmarks]
  constructor
  · rintro ⟨e, h1, h2⟩
    obtain ⟨n, hn, e1⟩ := (mem_warcs hl).mp h1
    refine ⟨tileAt T n, tile_in hn, ?_⟩
    rw [e1] at h2
    unfold mkArc faceOf wstep at h2
    cases c : wayAt W n
    · rw [c] at h2
      rcases h2 with h2 | h2
      · exact .inl h2.symm
      · exact .inr h2.symm
    · rw [c] at h2
      rcases h2 with h2 | h2
      · exact .inr h2.symm
      · exact .inl h2.symm
  · rintro ⟨t, h1, h2⟩
    obtain ⟨n, hn, e⟩ := in_tile h1
    refine ⟨mkArc T (wstep W n), (mem_warcs hl).mpr ⟨n, hn, rfl⟩, ?_⟩
    unfold mkArc faceOf wstep
    rw [← e] at h2
    cases c : wayAt W n
    · rcases h2 with h2 | h2
      · exact .inl h2.symm
      · exact .inr h2.symm
    · rcases h2 with h2 | h2
      · exact .inr h2.symm
      · exact .inl h2.symm
theorem filter_sum : ∀ r : List Stp, ((r.filter fun st => st.2).length : Int) = (r.map fun st => b2i st.2).sum
  | [] => rfl
  | st :: r => by
    have ih := filter_sum r
    rw [List.filter_cons, List.map_cons, List.sum_cons, ← ih]
    cases h : st.2
    · show ((r.filter fun st => st.2).length : Int) = 0 + _
      omega
    · show (((r.filter fun st => st.2).length + 1 : Nat) : Int) = 1 + _
      omega
theorem filter_sumP : ∀ r : List Part, ((r.filter fun p => p.c).length : Int) = (r.map fun p => b2i p.c).sum
  | [] => rfl
  | p :: r => by
    have ih := filter_sumP r
    rw [List.filter_cons, List.map_cons, List.sum_cons, ← ih]
    cases h : p.c
    · show ((r.filter fun p => p.c).length : Int) = 0 + _
      omega
    · show (((r.filter fun p => p.c).length + 1 : Nat) : Int) = 1 + _
      omega
structure LeastOk (T : Tls) (row : List Stp) (ps : List (Int × Int)) (P : Int → Int) (W : List Bool) : Prop where
  prices : ps = lpp T P
  fits : FitsR T row P
  nil : T = [] → row = []
  ring : T ≠ [] → ∃ a, RowOf T row a a
  count : ((row.filter fun st => st.2).length : Int) ≤ cnt T W
  many : row.length ≤ T.length
  least : ∀ w' : List Bool, ((rangeI T.length).map fun n => P (warc T w' n).2 - P (warc T w' n).1).sum = 0 → cnt T W ≤ cnt T w'
theorem least_ok {T : Tls} (h : lisring T) : LeastOk T (lrowD T (lways T)) (sortP (bset (warcs T (lways T))).pr) (pAt (bset (warcs T (lways T))).pr) (lways T) := by
  obtain ⟨hW, hlast⟩ := lways_ok h
  generalize lways T = W at *
  have S := settled_ok (warcs T W)
  have hfit := S.fit hlast
  have hkeys := S.keys
  generalize bset (warcs T W) = s at *
  have hmk : ∀ k, k ∈ keysM s.pr ↔ k ∈ lmarks T := fun k => by
    rw [hkeys]
    exact arcs_mark hW.len
  have hf : ∀ n, isNum T n = true → pAt s.pr (warc T W n).2 ≤ pAt s.pr (warc T W n).1 + (if wayAt W n = true then -1 else 1) := fun n hn => hfit _ ((mem_warcs hW.len).mpr ⟨n, hn, rfl⟩)
  have hpr : sortP s.pr = lpp T (pAt s.pr) := by
    refine sortP_keys (by rw [hkeys]; exact lpr_nodup _) ?_ fun k n => ?_
    · have := lpp_fst T (pAt s.pr)
      rw [this]
      exact lmarks_lt T
    · constructor
      · intro hm
        obtain ⟨k', h1, h2⟩ := List.mem_map.mp hm
        cases h2
        exact pAt_get ((hmk _).mpr h1)
      · intro hd
        have hk := (hmk k).mp (dget_key hd)
        have e : pAt s.pr k = n := by
          unfold pAt
          rw [hd]
          rfl
        rw [← e]
        exact List.mem_map.mpr ⟨k, hk, rfl⟩
  by_cases hT : T = []
  · have hrow : lrowD T W = [] := by
      unfold lrowD
      rw [if_pos hT]
    rw [hrow]
    refine ⟨hpr, (fun st hst => by cases hst), fun _ => rfl, fun z => absurd hT z, cnt_nonneg T W, Nat.zero_le _, fun w' _ => ?_⟩
    subst hT
    exact Int.le_refl _
  · have hlp : 0 < T.length := List.length_pos_iff.mpr hT
    have h0 : isNum T 0 = true := isNum_iff.mpr (by omega)
    have hm0 : (faceOf T (wstep W 0)).1 ∈ lmarks T := by
      refine mem_lmarks.mpr ⟨tileAt T 0, tile_in h0, ?_⟩
      unfold faceOf wstep
      cases wayAt W 0
      · exact .inl rfl
      · exact .inr rfl
    have hrow : lrowD T W = (hres T (hstart (lleave T (enumA W)) [] (faceOf T (wstep W 0)).1)).row := by
      unfold lrowD
      rw [if_neg hT]
    have hE := eulerD (S := lleave T (enumA W)) (m0 := (faceOf T (wstep W 0)).1) (lleave_readyD fun st => enumA_lies hW.len st) hW.even fun n hn => one_reach h.1 hm0 (mem_lmarks.mpr ⟨_, tile_in hn, .inl rfl⟩)
    rw [← hrow] at hE
    generalize lrowD T W = row at *
    obtain ⟨hR, hL⟩ := hE
    have toN : ∀ G : Int → Int, ((nums row).map G).sum = ((rangeI T.length).map G).sum := fun G => perm_sumI hR.all
    refine ⟨hpr, fun st hst => ?_, fun z => absurd z hT, fun _ => ⟨_, hR⟩, ?_, Nat.le_of_eq hR.len, fun w' hw' => ?_⟩
    · have h1 := hL st hst
      have h2 := hf st.1 h1.1
      rw [← lies_face h1, ← h1.2] at h2
      refine ⟨h1.1, fun c => ?_, fun c => ?_⟩
      · unfold faceOf at h2
        rw [c] at h2
        have h2 : pAt s.pr (tileAt T st.1).1 ≤ pAt s.pr (tileAt T st.1).2 + -1 := h2
        omega
      · unfold faceOf at h2
        rw [c] at h2
        have h2 : pAt s.pr (tileAt T st.1).2 ≤ pAt s.pr (tileAt T st.1).1 + 1 := h2
        omega
    · have e : (row.map fun st => b2i st.2) = (nums row).map fun n => b2i (wayAt W n) := by
        unfold nums
        rw [List.map_map]
        exact List.map_congr_left fun st hst => congrArg b2i (hL st hst).2
      rw [filter_sum, e, toN]
      exact Int.le_refl _
    · refine least_turned (P := pAt s.pr) ?_ hw' hf
      have h1 := walk_price (pAt s.pr) hR.walk
      have e : (row.map fun st => pAt s.pr (faceOf T st).2 - pAt s.pr (faceOf T st).1) = (nums row).map fun n => pAt s.pr (warc T W n).2 - pAt s.pr (warc T W n).1 := by
        unfold nums
        rw [List.map_map]
        refine List.map_congr_left fun st hst => ?_
        show pAt s.pr (faceOf T st).2 - pAt s.pr (faceOf T st).1 = pAt s.pr (warc T W st.1).2 - pAt s.pr (warc T W st.1).1
        rw [lies_face (hL st hst)]
      rw [e, toN] at h1
      rw [h1]
      omega
/-! the ring as it was drawn -/
def worder (parts : List Part) (order : List Int) : List Bool := order.map fun k => (partAt parts k).c
theorem drawn_warc {parts : List Part} {order : List Int} {i : Nat} {k : Int} (h : order[i]? = some k) : warc (ltiles parts order) (worder parts order) (i : Int) = ((partAt parts k).a, (partAt parts k).b) ∧ wayAt (worder parts order) (i : Int) = (partAt parts k).c := by
  have e1 : wayAt (worder parts order) (i : Int) = (partAt parts k).c := by
    unfold wayAt worder
    rw [Int.toNat_natCast, List.getD_eq_getElem?_getD, List.getElem?_map, h]
    rfl
  have e2 : tileAt (ltiles parts order) (i : Int) = ltile (partAt parts k) := by
    unfold tileAt ltiles
    rw [Int.toNat_natCast, List.getD_eq_getElem?_getD, List.getElem?_map, h]
    rfl
  refine ⟨?_, e1⟩
  unfold warc wstep faceOf
  rw [e1, e2]
  unfold ltile
  cases c : (partAt parts k).c <;> rfl
theorem range_order {order : List Int} {F G : Int → Int} (h : ∀ i k, order[i]? = some k → F ((i : Nat) : Int) = G k) : (rangeI order.length).map F = order.map G := by
  refine List.ext_getElem? fun i => ?_
  unfold rangeI
  rw [List.getElem?_map, List.getElem?_map, List.getElem?_map]
  cases hi : order[i]? with
  | none => rw [List.getElem?_eq_none (by rw [List.length_range]; exact List.getElem?_eq_none_iff.mp hi)]; rfl
  | some k =>
    rw [List.getElem?_range (List.getElem?_eq_some_iff.mp hi).1]
    exact congrArg some (h i k hi)
theorem order_parts {parts : List Part} {order : List Int} (h : order.Perm ((List.range parts.length).map fun i => ((i : Nat) : Int))) (G : Part → Int) : (order.map fun k => G (partAt parts k)).sum = (parts.map G).sum := by
  have h1 := perm_sumI (f := fun k => G (partAt parts k)) h
  rw [h1, List.map_map]
  congr 1
  refine List.ext_getElem? fun i => ?_
  rw [List.getElem?_map, List.getElem?_map]
  cases hi : parts[i]? with
  | none => rw [List.getElem?_eq_none (by rw [List.length_range]; exact List.getElem?_eq_none_iff.mp hi)]; rfl
  | some p =>
    rw [List.getElem?_range (List.getElem?_eq_some_iff.mp hi).1]
    show some (G (partAt parts (i : Int))) = some (G p)
    unfold partAt
    rw [Int.toNat_natCast, List.getD_eq_getElem?_getD, hi]
    rfl
theorem lwalk_chain (nums names : List Int) : ∀ k, k ≤ nums.length → ChainP (mAt nums names 0) ((List.range k).map (wpart nums names)) (mAt nums names k)
  | 0, _ => rfl
  | k + 1, hk => by
    have ih := lwalk_chain nums names k (by omega)
    rw [List.range_succ, List.map_append]
    have ea : (wpart nums names k).a = mAt nums names k := by
      unfold mAt
      rw [Nat.mod_eq_of_lt (by omega : k < nums.length)]
      rfl
    exact chain_snoc ih ea
theorem drawn_cnt {nums names : List Int} {order : List Int} {P : Int → Int} (h : order.Perm ((List.range (lwalk nums names true).length).map fun i => ((i : Nat) : Int))) :
    ((rangeI (ltiles (lwalk nums names true) order).length).map fun n => P (warc (ltiles (lwalk nums names true) order) (worder (lwalk nums names true) order) n).2 - P (warc (ltiles (lwalk nums names true) order) (worder (lwalk nums names true) order) n).1).sum = 0 ∧
    cnt (ltiles (lwalk nums names true) order) (worder (lwalk nums names true) order) = (((lwalk nums names true).filter fun p => p.c).length : Int) := by
  have hc : ChainP (mAt nums names 0) (lwalk nums names true) (mAt nums names 0) := by
    have := lwalk_chain nums names nums.length (Nat.le_refl _)
    have em : mAt nums names nums.length = mAt nums names 0 := by
      unfold mAt
      rw [Nat.mod_self, Nat.zero_mod]
    rw [em] at this
    exact this
  generalize lwalk nums names true = parts at *
  have hlen : (ltiles parts order).length = order.length := by
    unfold ltiles
    rw [List.length_map]
  constructor
  · rw [hlen, range_order (G := fun k => P (partAt parts k).b - P (partAt parts k).a) fun i k hik => by rw [(drawn_warc hik).1], order_parts h fun p => P p.b - P p.a, chain_price P hc]
    omega
  · unfold cnt
    rw [hlen, range_order (G := fun k => b2i (partAt parts k).c) fun i k hik => by rw [(drawn_warc hik).2], order_parts h fun p => b2i p.c, filter_sumP]
def tiles9 (nums names : List Int) (aside : Int) : Tls := ltiles (ldrawn9 nums names aside) (lorder nums (ldrawn9 nums names aside).length (aside / 320))
theorem tiles9_few {nums names : List Int} {aside : Int} (h1 : 1 ≤ names.length) (h2 : names.length ≤ 40) (h3 : nums.length ≤ 40) : Few (tiles9 nums names aside) := by
  obtain ⟨a, b⟩ := drawn9_ok (nums := nums) (aside := aside) h1
  exact ltiles_few (names := names) (by rw [lorder_len]; omega) (by omega) (fun k hk => mem_lorder.mp hk) b
def most9 (parts : List Part) (aside : Int) : Int := if aside % 5 < 3 then ((parts.filter fun p => p.c).length : Int) else (parts.length : Int)
theorem most9_ok {nums names : List Int} {aside : Int} {row : List Stp} {ps : List (Int × Int)} {P : Int → Int} {W : List Bool} (h : LeastOk (tiles9 nums names aside) row ps P W) : ((row.filter fun st => st.2).length : Int) ≤ most9 (ldrawn9 nums names aside) aside := by
  unfold most9
  split
  · rename_i c
    have ed : ldrawn9 nums names aside = lwalk nums names true := by
      unfold ldrawn9
      rw [if_neg (by omega), if_neg (by omega)]
    have h1 := drawn_cnt (P := P) (lorder_perm nums (lwalk nums names true).length (aside / 320))
    have h2 := h.least
    have h3 := h.count
    unfold tiles9 at h2 h3
    rw [ed] at h2 h3 ⊢
    have h4 := h2 _ h1.1
    rw [h1.2] at h4
    omega
  · have h1 := h.many
    have h2 : (row.filter fun st => st.2).length ≤ row.length := List.length_filter_le _ _
    have h3 : (tiles9 nums names aside).length = (ldrawn9 nums names aside).length := by
      unfold tiles9 ltiles
      rw [List.length_map, lorder_len]
    omega
def pre_law (K : PySem.W.Frag) : DE → Slot → Prop := fun ss s => ∃ ns : Scr K, ns.ns.length ≤ 63 ∧ ss = [.sh ns] ∧ s = .sh true
theorem pre_law_len {K : PySem.W.Frag} : ∀ ss s, pre_law K ss s → ss.length = 1 := fun ss s ⟨_, _, h, _⟩ => by rw [h]; rfl
theorem law_sp {K : PySem.W.Frag} {H : Hp} {a : Addr} {ns : List Int} (hl : ns.length ≤ 63) (hS : SqL K H a (ns.map V.int)) : spF (pre_law K) [.ref a] H (fun v _ => v = .bl true) (fun _ _ _ => False) := law_sp_of ⟨_, hl, rfl, rfl⟩ hS
end TC
namespace TC
open PySem PySem.Spec L2
open Evl (Ex)
local macro_rules | `(tactic| walk_at "nrm") => `(tactic| simp only [List.set_cons_zero, List.set_cons_succ, List.cons_append, List.nil_append, List.append_nil, wipeS])
abbrev s_counts : Stmt := topS 1
abbrev N_counts : List Str := ["tiles", "found", "one", "other"]
theorem sc_counts : FnScope N_counts ["tiles"] (defScope s_counts) := ⟨rfl, rfl, rfl, by decide +kernel, rfl, by decide +kernel, by decide +kernel⟩
section
variable {P : Program} {w : World} {K : PySem.W.Frag} {mg : Str → Option Value} {base : Heap}
theorem ok_counts (D : Def K mg "counts" "counts" s_counts ["tiles"]) (m_sorted : mg "sorted" = none) : Has CX0 P w K mg base 1 "counts" ["tiles"] (spF pre_counts) := by
  refine def_ok D sc_counts (spF_len pre_counts_len) fun f cdv A outer s H vs Q E hr h => ⟨_, (pss_cons (ps_set (i := 1) sc_counts.nd rfl (.inl rfl) pe_dnewK)
 (pss_cons (ps_for PassesOwn.never rfl (pi_listK (K := K) (pv 0)) (pg_tupK (K := K) 2 rfl (pgs_cons (pg_name (i := 2) sc_counts.nd rfl (.inl rfl)) (pgs_cons (pg_name (i := 3) sc_counts.nd rfl (.inl rfl)) pgs_nil))) (pss_cons (ps_dput (hu_of hr) (pv 1) (pv 2) (pe_op op_add (pe_dget2 (hu_of hr) (pv 1) (pv 2) pe_int ⟨rfl, rfl, rfl, rfl⟩) pe_int) rfl)
 (pss_one (ps_dput (hu_of hr) (pv 1) (pv 3) (pe_op op_add (pe_dget2 (hu_of hr) (pv 1) (pv 3) pe_int ⟨rfl, rfl, rfl, rfl⟩) pe_int) rfl))))
 (pss_one (ps_ret (pe_sortItems rfl (by rfl) m_sorted (pv 1)))))), fn_sd h fun ss s hp => ?_⟩
  obtain ⟨tiles, hT, rfl, rfl⟩ := hp
  refine sd_seq (sd_asgO (eo_dict (β := Int)) ?_)
  walk_at "nrm"
  refine sd_seq (sd_forP (γ := Int × Int) [2, 3] (id_list (ed_var rfl)) (fun pre d => ∃ y2 y3, d = [.sh tiles, od (pre.foldl lput []), y2, y3]) ⟨_, _, rfl⟩ (fun pre y post d' he hI => ?_) fun d' hI => ?_)
  · obtain ⟨y2, y3, rfl⟩ := hI
    have hpl : pre.length ≤ 1000 := by
      have h1 := congrArg List.length he
      rw [List.length_append] at h1
      omega
    have hl := ltab_len pre []
    rw [List.length_nil] at hl
    have hl2 : (lput1 (pre.foldl lput []) y.1).length ≤ (pre.foldl lput []).length + 1 := dput_len
    refine ⟨_, gd_t2 (gd_name (by simp)) (gd_name (by simp)), ?_⟩
    walk_at "nrm"
    refine sd_seq (sd_dput rfl (ed_i0 (ed_dget2 (erd_own rfl) (ed_var rfl) ed_int) ed_int) (ed_var rfl) (by omega) ?_)
    walk_at "nrm"
    refine sd_dput (m := lput1 (pre.foldl lput []) y.1) rfl (ed_i0 (ed_dget2 (erd_own rfl) (ed_var rfl) ed_int) ed_int) (ed_var rfl) (by omega) ?_
    refine ⟨.sh y.1, .sh y.2, ?_⟩
    rw [List.foldl_append]
    rfl
  · obtain ⟨y2, y3, rfl⟩ := hI
    exact sd_ret (α := List (Int × Int)) (ed_sortItems (erd_own rfl)) rfl
end
end TC
namespace TC
open PySem PySem.Spec L2
open Evl (Ex)
local macro_rules | `(tactic| walk_at "nrm") => `(tactic| simp only [List.set_cons_zero, List.set_cons_succ, List.cons_append, List.nil_append, List.append_nil, wipeS])
abbrev s_heads_of : Stmt := topS 3
abbrev N_heads_of : List Str := ["tiles", "heads", "one", "other", "going", "least"]
theorem sc_heads_of : FnScope N_heads_of ["tiles"] (defScope s_heads_of) := ⟨rfl, rfl, rfl, by decide +kernel, rfl, by decide +kernel, by decide +kernel⟩
section
variable {P : Program} {w : World} {K : PySem.W.Frag} {mg : Str → Option Value} {base : Heap}
theorem ok_heads_of (D : Def K mg "heads_of" "heads_of" s_heads_of ["tiles"]) (m_min : mg "min" = none) : Has CX0 P w K mg base 1 "heads_of" ["tiles"] (spF pre_heads_of) := by
  refine def_ok D sc_heads_of (spF_len pre_heads_of_len) fun f cdv A outer s H vs Q E hr h => ⟨_, (pss_cons (ps_set (i := 1) sc_heads_of.nd rfl (.inl rfl) pe_dnewK)
 (pss_cons (ps_for PassesOwn.never rfl (pi_listK (K := K) (pv 0)) (pg_tupK (K := K) 2 rfl (pgs_cons (pg_name (i := 2) sc_heads_of.nd rfl (.inl rfl)) (pgs_cons (pg_name (i := 3) sc_heads_of.nd rfl (.inl rfl)) pgs_nil))) (pss_cons (ps_dput (hu_of hr) (pv 1) (pv 2) (pv 2) rfl)
 (pss_one (ps_dput (hu_of hr) (pv 1) (pv 3) (pv 3) rfl))))
 (pss_cons (ps_set (i := 4) sc_heads_of.nd rfl (.inl rfl) pe_bl)
 (pss_cons (ps_while PassesOwn.never (pt_val (pv 4)) (pss_cons (ps_set (i := 4) sc_heads_of.nd rfl (.inl rfl) pe_bl)
 (pss_one (ps_for PassesOwn.never rfl (pi_listK (K := K) (pv 0)) (pg_tupK (K := K) 2 rfl (pgs_cons (pg_name (i := 2) sc_heads_of.nd rfl (.inl rfl)) (pgs_cons (pg_name (i := 3) sc_heads_of.nd rfl (.inl rfl)) pgs_nil))) (pss_cons (ps_set (i := 5) sc_heads_of.nd rfl (.inl rfl) (pe_callB (call_min2 rfl) (by rfl) m_min (by decide +kernel) (pa_cons (pe_dget (hu_of hr) (pv 1) (pv 2) (fun _ _ => rfl)) (pa_cons (pe_dget (hu_of hr) (pv 1) (pv 3) (fun _ _ => rfl)) pa_nil))))
 (pss_one (ps_if (PW.pt (pw_or (pt_cmpR op_ne (pe_dget (hu_of hr) (pv 1) (pv 2) (fun _ _ => rfl)) (pv 5) (nomark _)) (pw_or1 (pt_cmpR op_ne (pe_dget (hu_of hr) (pv 1) (pv 3) (fun _ _ => rfl)) (pv 5) (nomark _))))) (pss_cons (ps_dput (hu_of hr) (pv 1) (pv 2) (pv 5) rfl)
 (pss_cons (ps_dput (hu_of hr) (pv 1) (pv 3) (pv 5) rfl)
 (pss_one (ps_set (i := 4) sc_heads_of.nd rfl (.inl rfl) pe_bl)))) pss_nil)))))))
 (pss_one (ps_ret (pv 1))))))), fn_sd h fun ss s hp => ?_⟩
  obtain ⟨tiles, hF, rfl, rfl⟩ := hp
  have hT := hF.1
  have hM := lmarks_few hF
  refine sd_seq (sd_asgO (eo_dict (β := Int)) ?_)
  walk_at "nrm"
  refine sd_seq (sd_forP (γ := Int × Int) [2, 3] (id_list (ed_var rfl)) (fun pre d => ∃ y2 y3, d = [.sh tiles, od (pre.foldl hini []), y2, y3, .un, .un]) ⟨_, _, rfl⟩ (fun pre y post d' he hI => ?_) fun d' hI => ?_)
  · obtain ⟨y2, y3, rfl⟩ := hI
    have hpl : pre.length ≤ 1000 := by
      have h1 := congrArg List.length he
      rw [List.length_append] at h1
      omega
    have hl := hini_len pre []
    rw [List.length_nil] at hl
    have hl2 : (dput (pre.foldl hini []) y.1 y.1).length ≤ (pre.foldl hini []).length + 1 := dput_len
    refine ⟨_, gd_t2 (gd_name (by simp)) (gd_name (by simp)), ?_⟩
    walk_at "nrm"
    refine sd_seq (sd_dput rfl (ed_var rfl) (ed_var rfl) (by omega) ?_)
    walk_at "nrm"
    refine sd_dput (m := dput (pre.foldl hini []) y.1 y.1) rfl (ed_var rfl) (ed_var rfl) (by omega) ?_
    refine ⟨.sh y.1, .sh y.2, ?_⟩
    rw [List.foldl_append]
    rfl
  obtain ⟨y2, y3, rfl⟩ := hI
  refine sd_seq (sd_asg (α := Bool) ed_bl ?_)
  walk_at "nrm"
  refine sd_seq (sd_while (fun n d => ∃ m g y2 y3 y5, d = [.sh tiles, od m, y2, y3, .sh g, y5] ∧ HInv tiles m ∧ n = hmeas tiles m + g.toNat ∧ (g = false → ∀ t ∈ tiles, dget m t.1 = dget m t.2)) _ ⟨_, true, _, _, _, rfl, hini_inv tiles, rfl, fun h => by cases h⟩ (fun n d' hI => ?_))
  obtain ⟨m, g, y2, y3, y5, rfl, hH, rfl, hg⟩ := hI
  refine ⟨g, et_B (ed_var rfl), fun hb => ?_, fun hb => ?_⟩
  · subst hb
    refine sd_seq (sd_asg (α := Bool) ed_bl ?_)
    walk_at "nrm"
    refine sd_forP (γ := Int × Int) [2, 3] (id_list (ed_var rfl)) (fun pre d => ∃ m' g' y2 y3 y5, d = [.sh tiles, od m', y2, y3, .sh g', y5] ∧ HInv tiles m' ∧ hmeas tiles m' ≤ hmeas tiles m ∧ (g' = true → hmeas tiles m' < hmeas tiles m) ∧ (g' = false → ∀ t ∈ pre, dget m' t.1 = dget m' t.2))
      ⟨m, false, _, _, _, rfl, hH, Nat.le_refl _, (fun h => by cases h), fun _ t ht => by cases ht⟩ (fun pre y post d' he hI => ?_) fun d' hI => ?_
    · obtain ⟨m', g', z2, z3, z5, rfl, hH', hle, ht1, ht2⟩ := hI
      have my : y ∈ tiles := by rw [he]; simp
      obtain ⟨u, u1, u2, u3⟩ := hH'.get (mem_lmarks.mpr ⟨y, my, .inl rfl⟩)
      obtain ⟨v, v1, v2, v3⟩ := hH'.get (mem_lmarks.mpr ⟨y, my, .inr rfl⟩)
      have hlen := hH'.len
      refine ⟨_, gd_t2 (gd_name (by simp)) (gd_name (by simp)), ?_⟩
      walk_at "nrm"
      refine sd_seq (sd_asg (α := Int) (ed_min2 (ed_dget (erd_own rfl) (ed_var rfl) u1) (ed_dget (erd_own rfl) (ed_var rfl) v1)) ?_)
      walk_at "nrm"
      generalize hw : (if v < u then v else u) = w
      refine sd_if (et_or (et_test (ed_ne (α := Int) (ed_dget (erd_own rfl) (ed_var rfl) u1) (ed_var rfl))) (fun _ => et_test (ed_ne (α := Int) (ed_dget (erd_own rfl) (ed_var rfl) v1) (ed_var rfl)))) (fun hb => ?_) (fun hb => ?_)
      · have hne : u ≠ w ∨ v ≠ w := by
          by_cases e : u = w
          · by_cases e2 : v = w
            · rw [decide_eq_true e, decide_eq_true e2] at hb
              cases hb
            · exact .inr e2
          · exact .inl e
        obtain ⟨p1, p2⟩ := hH'.put my u1 v1 hw.symm hne
        have hl2 : (dput m' y.1 w).length ≤ m'.length + 1 := dput_len
        refine sd_seq (sd_dput rfl (ed_var rfl) (ed_var rfl) (by omega) ?_)
        walk_at "nrm"
        refine sd_seq (sd_dput (m := dput m' y.1 w) rfl (ed_var rfl) (ed_var rfl) (by omega) ?_)
        walk_at "nrm"
        exact sd_asg (α := Bool) ed_bl ⟨_, true, _, _, _, rfl, p1, by omega, fun _ => by omega, fun h => by cases h⟩
      · refine sd_next ⟨m', g', _, _, _, rfl, hH', hle, ht1, fun hgf t ht => ?_⟩
        rcases List.mem_append.mp ht with h | h
        · exact ht2 hgf t h
        · rw [List.mem_singleton.mp h, u1, v1]
          by_cases e : u = w
          · by_cases e2 : v = w
            · rw [e, e2]
            · rw [decide_eq_false e2] at hb
              simp at hb
          · rw [decide_eq_false e] at hb
            simp at hb
    · obtain ⟨m', g', z2, z3, z5, rfl, hH', hle, ht1, ht2⟩ := hI
      refine ⟨_, ?_, m', g', z2, z3, z5, rfl, hH', rfl, ht2⟩
      cases g' with
      | true =>
        have := ht1 rfl
        show hmeas tiles m' + 1 < hmeas tiles m + 1
        omega
      | false =>
        show hmeas tiles m' + 0 < hmeas tiles m + 1
        omega
  · have e := hH.done (hg hb)
    subst e
    refine sd_frzD (i := 1) rfl ?_
    walk_at "nrm"
    exact sd_ret (α := Dct Int) (ed_var rfl) rfl
end
end TC
namespace TC
open PySem PySem.Spec L2
open Evl (Ex)
local macro_rules | `(tactic| walk_at "nrm") => `(tactic| simp only [List.set_cons_zero, List.set_cons_succ, List.cons_append, List.nil_append, List.append_nil, wipeS])
abbrev s_is_number : Stmt := topS 9
abbrev N_is_number : List Str := ["tiles", "number"]
theorem sc_is_number : FnScope N_is_number ["tiles", "number"] (defScope s_is_number) := ⟨rfl, rfl, rfl, by decide +kernel, rfl, by decide +kernel, by decide +kernel⟩
section
variable {P : Program} {w : World} {K : PySem.W.Frag} {mg : Str → Option Value} {base : Heap}
theorem ok_is_number (D : Def K mg "is_number" "is_number" s_is_number ["tiles", "number"]) (m_len : mg "len" = none) : Has CX0 P w K mg base 1 "is_number" ["tiles", "number"] (spF pre_is_number) := by
  refine def_ok D sc_is_number (spF_len pre_is_number_len) fun f cdv A outer s H vs Q E hr h => ⟨_, (pss_one (ps_ret (pe_chain op_le op_lt pe_int (pv 1) (pe_callB (call_lenK (K := K)) (by rfl) m_len (by decide +kernel) (pa_cons (pv 0) pa_nil))))), fn_sd h fun ss s hp => ?_⟩
  obtain ⟨tiles, n, rfl, rfl⟩ := hp
  exact sd_ret (α := Bool) (ed_chain ed_int (ed_var rfl) (ed_len (erl_sh (ed_var rfl)))) rfl
end
end TC
namespace TC
open PySem PySem.Spec L2
open Evl (Ex)
local macro_rules | `(tactic| walk_at "nrm") => `(tactic| simp only [List.set_cons_zero, List.set_cons_succ, List.cons_append, List.nil_append, List.append_nil, wipeS])
abbrev s_taken : Stmt := topS 13
abbrev N_taken : List Str := ["steps", "used", "step"]
theorem sc_taken : FnScope N_taken ["steps", "used"] (defScope s_taken) := ⟨rfl, rfl, rfl, by decide +kernel, rfl, by decide +kernel, by decide +kernel⟩
section
variable {P : Program} {w : World} {K : PySem.W.Frag} {mg : Str → Option Value} {base : Heap}
theorem ok_taken (D : Def K mg "taken" "taken" s_taken ["steps", "used"]) : Has CX0 P w K mg base 1 "taken" ["steps", "used"] (spO pre_taken) := by
  refine def_ok D sc_taken (spO_len pre_taken_len) fun f cdv A outer s H vs Q E hr h => ⟨_, (pss_cons (ps_while PassesOwn.never (pt_cmpR (op_neDK (K := K) hr.units) (pv 0) (pe_lst pa_nil) (nomark _)) (pss_cons (ps_set (i := 2) sc_taken.nd rfl (.inl rfl) (pe_bm0 PySem.F.plainAttrs_list PySem.F.slot_list_pop PySem.F.type_list_pop mt_pop (pv 0)))
 (pss_one (ps_if (pt_cmp (pc_dnotin (hu_of hr) (pe_ix (ix_tupK (K := K)) (pv 2) pe_int (fun _ _ => rfl)) (pv 1))) (pss_one (ps_ret (pv 2))) pss_nil))))
 (pss_one (ps_ret pe_non))), fn_sdO h pre_taken_match fun ss ss' s hp => ?_⟩
  obtain ⟨l, U, c, q, p, rfl, rfl, rfl⟩ := hp
  generalize hR : takeR (keysM U) l.reverse = R
  refine sd_seq (sd_while (fun n d => ∃ (l' : List Stp) (y2 : Slot), d = [.own (atR c (olR l')), .own (atR q (atR p (odR U))), y2] ∧ n = l'.length ∧ takeR (keysM U) l'.reverse = R) _ ⟨l, _, rfl, rfl, hR⟩ (fun n d' hI => ?_))
  obtain ⟨l', y2, rfl, rfl, hl⟩ := hI
  refine ⟨_, et_lendA (i := 0) rfl (et_test (ed_neD (α := List Stp) (ed_var rfl) (ed_lst eas_nil))), fun hb => ?_, fun hb => ?_⟩
  · have hne : l' ≠ [] := fun z => by
      rw [decide_eq_true z] at hb
      cases hb
    obtain ⟨l0, x, rfl⟩ : ∃ l0 x, l' = l0 ++ [x] := ⟨l'.dropLast, l'.getLast hne, (List.dropLast_concat_getLast hne).symm⟩
    refine sd_seq (sd_popA rfl ?_)
    walk_at "nrm"
    rw [List.reverse_append, List.reverse_singleton, List.singleton_append] at hl
    unfold takeR at hl
    refine sd_if (et_B (ed_dnotin (ed_t0 (α := Int) (β := Bool) (ed_var rfl)) (erd_ownAA rfl))) (fun hb => ?_) (fun hb => ?_)
    · have hn : x.1 ∉ keysM U := by
        cases h : (dget U x.1).isSome with
        | true => rw [h] at hb; cases hb
        | false => exact isSome_not h
      rw [if_neg hn] at hl
      subst hl
      refine sd_ret (α := Option Stp) (ed_some (ed_var rfl)) ⟨rfl, ?_⟩
      rw [List.reverse_reverse]
      exact back2
    · have hn : x.1 ∈ keysM U := by
        cases h : (dget U x.1).isSome with
        | true => exact isSome_yes h
        | false => rw [h] at hb; cases hb
      rw [if_pos hn] at hl
      exact sd_next ⟨l0.length, by rw [List.length_append, List.length_singleton]; omega, l0, _, rfl, rfl, hl⟩
  · have hnil : l' = [] := by
      refine Classical.byContradiction fun z => ?_
      rw [decide_eq_false z] at hb
      cases hb
    subst hnil
    have e : R = (none, []) := hl.symm
    subst e
    exact sd_ret (α := Option Stp) ed_none ⟨rfl, back2⟩
end
end TC
namespace TC
open PySem PySem.Spec L2
open Evl (Ex)
local macro_rules | `(tactic| walk_at "nrm") => `(tactic| simp only [List.set_cons_zero, List.set_cons_succ, List.cons_append, List.nil_append, List.append_nil, wipeS])
abbrev s_both_ways : Stmt := topS 15
abbrev N_both_ways : List Str := ["tiles", "found", "number"]
theorem sc_both_ways : FnScope N_both_ways ["tiles"] (defScope s_both_ways) := ⟨rfl, rfl, rfl, by decide +kernel, rfl, by decide +kernel, by decide +kernel⟩
section
variable {P : Program} {w : World} {K : PySem.W.Frag} {mg : Str → Option Value} {base : Heap}
theorem ok_both_ways (D : Def K mg "both_ways" "both_ways" s_both_ways ["tiles"]) (m_range : mg "range" = none) (m_len : mg "len" = none) : Has CX0 P w K mg base 1 "both_ways" ["tiles"] (spF pre_both_ways) := by
  refine def_ok D sc_both_ways (spF_len pre_both_ways_len) fun f cdv A outer s H vs Q E hr h => ⟨_, (pss_cons (ps_set (i := 1) sc_both_ways.nd rfl (.inl rfl) (pe_lst pa_nil))
 (pss_cons (ps_for PassesOwn.never rfl (pi_range1 rfl m_range (pa_cons (pe_callB (call_lenK (K := K)) (by rfl) m_len (by decide +kernel) (pa_cons (pv 0) pa_nil)) pa_nil)) (pg_name (i := 2) sc_both_ways.nd rfl (.inl rfl)) (pss_cons (ps_expr (pe_appK (K := K) (pv 1) (pe_tup (pa_cons (pv 2) (pa_cons pe_bl pa_nil)))))
 (pss_one (ps_expr (pe_appK (K := K) (pv 1) (pe_tup (pa_cons (pv 2) (pa_cons pe_bl pa_nil))))))))
 (pss_one (ps_ret (pv 1))))), fn_sd h fun ss s hp => ?_⟩
  obtain ⟨T, hT, rfl, rfl⟩ := hp
  refine sd_seq (sd_asgO (eo_lst (α := Stp) eas_nil) ?_)
  walk_at "nrm"
  have hi : ID (iRng1 (tCons (tCB (fun xs H Q => ∃ p ys, xs = [V.ref p] ∧ (SqL K H p ys ∨ SqT K H p ys) ∧ Q (V.int ys.length) H) (tCons (tVar 0) tNil)) tNil)) [.sh T, ol ([] : List Stp), .un] ((List.range T.length).map fun i => ((i : Nat) : Int)) := by
    have h := id_rng1 (d := [.sh T, ol ([] : List Stp), .un]) (ed_len (K := K) (erl_sh (ed_var (a := T) (i := 0) rfl)))
    rw [Int.toNat_natCast] at h
    exact h
  refine sd_seq (sd_forP (γ := Int) [2] hi (fun pre d => ∃ y2, d = [.sh T, ol (pre.flatMap bothOf), y2]) ⟨_, rfl⟩ (fun pre y post d' he hI => ?_) fun d' hI => ?_)
  · obtain ⟨y2, rfl⟩ := hI
    have hpl : pre.length ≤ 10000 := by
      have h1 := congrArg List.length he
      rw [List.length_append, List.length_map, List.length_range] at h1
      omega
    have hb := both_len pre
    refine ⟨_, gd_name (by simp), ?_⟩
    walk_at "nrm"
    refine sd_seq (sd_app (α := Stp) rfl (ed_tup2 (ed_var rfl) ed_bl) (by omega) ?_)
    walk_at "nrm"
    refine sd_app (α := Stp) rfl (ed_tup2 (ed_var rfl) ed_bl) (by rw [List.length_append, List.length_singleton]; omega) ?_
    refine ⟨.sh y, ?_⟩
    rw [List.flatMap_append, List.append_assoc]
    rfl
  · obtain ⟨y2, rfl⟩ := hI
    refine sd_frzL (i := 1) rfl ?_
    walk_at "nrm"
    exact sd_ret (α := List Stp) (ed_var rfl) rfl
end
end TC
namespace TC
open PySem PySem.Spec L2
open Evl (Ex)
local macro_rules | `(tactic| walk_at "nrm") => `(tactic| simp only [List.set_cons_zero, List.set_cons_succ, List.cons_append, List.nil_append, List.append_nil, wipeS])
abbrev s_bridged : Stmt := topS 17
abbrev N_bridged : List Str := ["tiles", "groups", "odds", "longer", "group", "ends", "k", "mark"]
theorem sc_bridged : FnScope N_bridged ["tiles", "groups", "odds"] (defScope s_bridged) := ⟨rfl, rfl, rfl, by decide +kernel, rfl, by decide +kernel, by decide +kernel⟩
section
variable {P : Program} {w : World} {K : PySem.W.Frag} {mg : Str → Option Value} {base : Heap}
theorem ok_bridged (D : Def K mg "bridged" "bridged" s_bridged ["tiles", "groups", "odds"]) (m_list : mg "list" = none) (m_range : mg "range" = none) (m_len : mg "len" = none) : Has CX0 P w K mg base 1 "bridged" ["tiles", "groups", "odds"] (spF pre_bridged) := by
  refine def_ok D sc_bridged (spF_len pre_bridged_len) fun f cdv A outer s H vs Q E hr h => ⟨_, (pss_cons (ps_set (i := 3) sc_bridged.nd rfl (.inl rfl) (pe_callTy (call_listK (K := K)) (by rfl) m_list (by decide +kernel) (pa_cons (pv 0) pa_nil)))
 (pss_cons (ps_for PassesOwn.never rfl (pi_listK (K := K) (pv 1)) (pg_name (i := 4) sc_bridged.nd rfl (.inl rfl)) (pss_cons (ps_setLc (i := 5) (own := [("mark", 7)]) (g := (gName 7)) rfl sc_bridged.nd rfl rfl (sw_true rfl rfl rfl (by decide +kernel)) (pi_listK (K := K) (pv 4)) (blkOk_by (own := [("mark", 7)]) (N := N_bridged) (sc := defScope s_bridged) (by decide +kernel)) (fun _ _ _ _ _ => (pg_name (i := 7) sc_bridged.nd rfl (.inl rfl))) (fun _ _ _ _ _ => (pts_one (pt_cmpR (op_inK (K := K)) (pv 7) (pv 2) (by with_unfolding_all rfl)))) (fun _ _ _ _ _ => (pv 7)))
 (pss_one (ps_for PassesOwn.never rfl (pi_range3 rfl m_range (pa_cons pe_int (pa_cons (pe_op op_sub (pe_callB (call_lenK (K := K)) (by rfl) m_len (by decide +kernel) (pa_cons (pv 5) pa_nil)) pe_int) (pa_cons pe_int pa_nil)))) (pg_name (i := 6) sc_bridged.nd rfl (.inl rfl)) (pss_one (ps_expr (pe_appK (K := K) (pv 3) (pe_tup (pa_cons (pe_ix (ix_listK (K := K)) (pv 5) (pv 6) (fun _ _ => rfl)) (pa_cons (pe_ix (ix_listK (K := K)) (pv 5) (pe_op op_add (pv 6) pe_int) (fun _ _ => rfl)) pa_nil))))))))))
 (pss_one (ps_ret (pv 3))))), fn_sd h fun ss s hp => ?_⟩
  obtain ⟨tiles, groups, odds, h1, h2, h3, rfl, rfl⟩ := hp
  refine sd_seq (sd_asgO (eo_list (erl_sh (ed_var rfl))) ?_)
  walk_at "nrm"
  refine sd_seq (sd_forP (γ := List Int) [4] (id_list (ed_var rfl)) (fun pre d => ∃ y4 y5 y6, d = [.sh tiles, .sh groups, .sh odds, ol (tiles ++ pre.flatMap fun g => lpairs (lodd odds g)), y4, y5, y6, .un]) ⟨_, _, _, by rw [List.flatMap_nil, List.append_nil]; rfl⟩ (fun pre y post d' he hI => ?_) fun d' hI => ?_)
  · obtain ⟨y4, y5, y6, rfl⟩ := hI
    have hy : y.length ≤ 64 := h3 y (by rw [he]; simp)
    have hpl : pre.length ≤ 64 := by
      have h1 := congrArg List.length he
      rw [List.length_append] at h1
      omega
    have hbl := lbrs_len odds (groups := pre) fun g hg => h3 g (by rw [he]; exact List.mem_append_left _ hg)
    have hol : (lodd odds y).length ≤ y.length := List.length_filter_le _ _
    refine ⟨_, gd_name (by simp), ?_⟩
    walk_at "nrm"
    refine sd_seq (sd_asg (α := List Int) (a := lodd odds y) (ed_is (ed_lc _ _ (id_list (ed_var rfl)) (by omega) fun z hz => ⟨_, gd_name (by simp), et_test (ed_in (ed_var rfl) (erl_sh (ed_var rfl))), fun _ => ed_var rfl⟩) (List.map_id' _)) ?_)
    walk_at "nrm"
    generalize he3 : lodd odds y = e at *
    refine sd_forP (γ := Int) [6] (id_rng3 ed_int (ed_i0 (ed_len (erl_sh (ed_var rfl))) ed_int) ⟨by decide, by decide⟩ ⟨by omega, by omega⟩) (fun ks d => ∃ y6, d = [.sh tiles, .sh groups, .sh odds, ol ((tiles ++ pre.flatMap fun g => lpairs (lodd odds g)) ++ ks.map (lpair e)), .sh y, .sh e, y6, .un]) ⟨_, by rw [List.map_nil, List.append_nil]⟩ (fun ks k post2 d' he2 hI => ?_) fun d' hI => ?_
    · obtain ⟨y6, rfl⟩ := hI
      obtain ⟨k1, k2⟩ := rng2A_mem (show k ∈ rng2A 1 ((e.length : Int) - 2) by rw [he2]; simp)
      have hkl : ks.length ≤ 64 := by
        have h1 := congrArg List.length he2
        rw [rng2A_len, List.length_append] at h1
        split at h1 <;> omega
      refine ⟨_, gd_name (by simp), ?_⟩
      walk_at "nrm"
      refine sd_app (α := Int × Int) (a := lpair e k) rfl (ed_tup2 (ed_ixL (erl_sh (ed_var rfl)) (ed_var rfl) (getD_ix (by omega) (by omega))) (ed_ixL (erl_sh (ed_var rfl)) (ed_i0 (ed_var rfl) ed_int) (getD_ix (by omega) (by omega)))) (by rw [List.length_append, List.length_append, List.length_map]; omega) ?_
      refine ⟨.sh k, ?_⟩
      rw [List.map_append, ← List.append_assoc]
      rfl
    · obtain ⟨y6, rfl⟩ := hI
      walk_at "nrm"
      rw [List.flatMap_append, List.flatMap_cons, List.flatMap_nil, List.append_nil, ← List.append_assoc, he3]
      exact ⟨_, _, _, rfl⟩
  · obtain ⟨y4, y5, y6, rfl⟩ := hI
    refine sd_frzL (i := 3) rfl ?_
    walk_at "nrm"
    exact sd_ret (α := List (Int × Int)) (ed_var rfl) rfl
end
end TC
namespace TC
open PySem PySem.Spec L2
open Evl (Ex)
local macro_rules | `(tactic| walk_at "nrm") => `(tactic| simp only [List.set_cons_zero, List.set_cons_succ, List.cons_append, List.nil_append, List.append_nil, wipeS])
abbrev s_without_bridges : Stmt := topS 18
abbrev N_without_bridges : List Str := ["walk", "many", "found", "step"]
theorem sc_without_bridges : FnScope N_without_bridges ["walk", "many"] (defScope s_without_bridges) := ⟨rfl, rfl, rfl, by decide +kernel, rfl, by decide +kernel, by decide +kernel⟩
section
variable {P : Program} {w : World} {K : PySem.W.Frag} {mg : Str → Option Value} {base : Heap}
theorem ok_without_bridges (D : Def K mg "without_bridges" "without_bridges" s_without_bridges ["walk", "many"]) : Has CX0 P w K mg base 1 "without_bridges" ["walk", "many"] (spF pre_without_bridges) := by
  refine def_ok D sc_without_bridges (spF_len pre_without_bridges_len) fun f cdv A outer s H vs Q E hr h => ⟨_, (pss_cons (ps_set (i := 2) sc_without_bridges.nd rfl (.inl rfl) (pe_lst (pa_cons (pe_lst pa_nil) pa_nil)))
 (pss_cons (ps_for PassesOwn.never rfl (pi_listK (K := K) (pv 0)) (pg_name (i := 3) sc_without_bridges.nd rfl (.inl rfl)) (pss_one (ps_if (pt_cmpR op_lt (pe_ix (ix_tupK (K := K)) (pv 3) pe_int (fun _ _ => rfl)) (pv 1) (nomark _)) (pss_one (ps_expr (pe_appK (K := K) (pe_ix (ix_listK (K := K)) (pv 2) (pe_un un_neg pe_int) (fun _ _ => rfl)) (pv 3)))) (pss_one (ps_expr (pe_appK (K := K) (pv 2) (pe_lst pa_nil)))))))
 (pss_one (ps_ret (pv 2))))), fn_sd h fun ss s hp => ?_⟩
  obtain ⟨walk, many, hl, rfl, rfl⟩ := hp
  refine sd_seq (sd_asgO (eo_oll1 (α := Stp)) ?_)
  walk_at "nrm"
  refine sd_seq (sd_forP (γ := Stp) [3] (id_list (ed_var rfl)) (fun pre d => ∃ y3, d = [.sh walk, .sh many, oll (lsplit many pre), y3]) ⟨_, rfl⟩ (fun pre y post d' he hI => ?_) fun d' hI => ?_)
  · obtain ⟨y3, rfl⟩ := hI
    have hpl : pre.length ≤ 100000 := by
      have h1 := congrArg List.length he
      rw [List.length_append] at h1
      omega
    obtain ⟨ls, l, e⟩ := lsplit_last many pre
    have hsz := lsplit_size many pre
    rw [e, List.length_append, List.length_singleton] at hsz
    refine ⟨_, gd_name (by simp), ?_⟩
    walk_at "nrm"
    refine sd_if (et_test (ed_b0 (g := fun i j => decide (i < j)) (ed_t0 (α := Int) (β := Bool) (ed_var rfl)) (ed_var rfl))) (fun hb => ?_) (fun hb => ?_)
    · refine sd_appLast (ls := ls) (l := l) (by rw [e]; rfl) (ed_var rfl) (by have := hsz.2 l (by simp); omega) ?_
      refine ⟨.sh y, ?_⟩
      rw [lsplit_snoc, if_pos (of_decide_eq_true hb), e, List.dropLast_concat, List.getLastD_concat]
      rfl
    · refine sd_appNew rfl (by rw [e, List.length_append, List.length_singleton]; omega) ?_
      refine ⟨.sh y, ?_⟩
      rw [lsplit_snoc, if_neg (of_decide_eq_false hb)]
      rfl
  · obtain ⟨y3, rfl⟩ := hI
    refine sd_frzLL (i := 2) rfl ?_
    walk_at "nrm"
    exact sd_ret (α := List (List Stp)) (ed_var rfl) rfl
end
end TC
namespace TC
open PySem PySem.Spec L2
open Evl (Ex)
local macro_rules | `(tactic| walk_at "nrm") => `(tactic| simp only [List.set_cons_zero, List.set_cons_succ, List.cons_append, List.nil_append, List.append_nil, wipeS])
abbrev s_lowered : Stmt := topS 24
abbrev N_lowered : List Str := ["arcs", "prices", "came", "last", "number", "arc", "left", "right", "more"]
theorem sc_lowered : FnScope N_lowered ["arcs", "prices", "came"] (defScope s_lowered) := ⟨rfl, rfl, rfl, by decide +kernel, rfl, by decide +kernel, by decide +kernel⟩
section
variable {P : Program} {w : World} {K : PySem.W.Frag} {mg : Str → Option Value} {base : Heap}
theorem ok_lowered (D : Def K mg "lowered" "lowered" s_lowered ["arcs", "prices", "came"]) (m_enumerate : mg "enumerate" = none) : Has CX0 P w K mg base 1 "lowered" ["arcs", "prices", "came"] (spO pre_lowered) := by
  refine def_ok D sc_lowered (spO_len pre_lowered_len) fun f cdv A outer s H vs Q E hr h => ⟨_, (pss_cons (ps_set (i := 3) sc_lowered.nd rfl (.inl rfl) pe_non)
 (pss_cons (ps_for PassesOwn.never rfl (pi_enumK (K := K) (by rfl) m_enumerate (pa_cons (pv 0) pa_nil)) (pg_tupK (K := K) 2 rfl (pgs_cons (pg_name (i := 4) sc_lowered.nd rfl (.inl rfl)) (pgs_cons (pg_name (i := 5) sc_lowered.nd rfl (.inl rfl)) pgs_nil))) (pss_cons (ps_asg (pv 5) (pg_tupK (K := K) 3 rfl (pgs_cons (pg_name (i := 6) sc_lowered.nd rfl (.inl rfl)) (pgs_cons (pg_name (i := 7) sc_lowered.nd rfl (.inl rfl)) (pgs_cons (pg_name (i := 8) sc_lowered.nd rfl (.inl rfl)) pgs_nil)))))
 (pss_one (ps_if (pt_cmpR op_gt (pe_dget (hu_of hr) (pv 1) (pv 7) (fun _ _ => rfl)) (pe_op op_add (pe_dget (hu_of hr) (pv 1) (pv 6) (fun _ _ => rfl)) (pv 8)) (nomark _)) (pss_cons (ps_dput (hu_of hr) (pv 1) (pv 7) (pe_op op_add (pe_dget (hu_of hr) (pv 1) (pv 6) (fun _ _ => rfl)) (pv 8)) rfl)
 (pss_cons (ps_dput (hu_of hr) (pv 2) (pv 7) (pv 4) rfl)
 (pss_one (ps_set (i := 3) sc_lowered.nd rfl (.inl rfl) (pv 7))))) pss_nil))))
 (pss_one (ps_ret (pv 3))))), fn_sdO h pre_lowered_match fun ss ss' s hp => ?_⟩
  obtain ⟨A, K0, s0, p, q, hk, hA, hKl, rfl, rfl, rfl⟩ := hp
  refine sd_seq (sd_asg (α := Option Int) (a := none) ed_none ?_)
  walk_at "nrm"
  refine sd_seq (sd_for (γ := Int × Arc) [4, 5] (id_enum (ed_var rfl)) (fun i d => ∃ (y4 y5 y6 y7 y8 : Slot), d = [.sh A, .own (atR p (odR (bpart A s0 i).pr)), .own (atR q (odR (bpart A s0 i).ca)), .sh (bpart A s0 i).last, y4, y5, y6, y7, y8]) ⟨_, _, _, _, _, rfl⟩ (fun i y d' hy hI => ?_) fun d' hI => ?_)
  · obtain ⟨y4, y5, y6, y7, y8, rfl⟩ := hI
    obtain ⟨e, he, rfl⟩ : ∃ e, A[i]? = some e ∧ y = ((i : Int), e) := by
      rw [enumA_ix] at hy
      obtain ⟨e, h1, h2⟩ := Option.map_eq_some_iff.mp hy
      exact ⟨e, h1, h2.symm⟩
    have hkp := bk_part hk (fun e he => (hA e he).2) i
    obtain ⟨hz1, hz2⟩ := bk_size hkp
    rw [bpart_succ he]
    generalize bpart A s0 i = s at *
    obtain ⟨ha, hb⟩ := hA e (List.mem_of_getElem? he)
    rw [← hkp.keys] at ha hb
    refine ⟨_, gd_t2 (gd_name (by simp)) (gd_name (by simp)), ?_⟩
    walk_at "nrm"
    refine sd_seq (sd_asgT (vs := [6, 7, 8]) (α := Arc) (a := e) (ed_var rfl) (gd_t3 (gd_name (by simp)) (gd_name (by simp)) (gd_name (by simp))) ?_)
    walk_at "nrm"
    refine sd_if (et_test (ed_b0 (g := fun i j => decide (i > j)) (ed_dget (erd_ownA rfl) (ed_var rfl) (pAt_get hb)) (ed_i0 (ed_dget (erd_ownA rfl) (ed_var rfl) (pAt_get ha)) (ed_var rfl)))) (fun hc => ?_) (fun hc => ?_)
    · have hc' := of_decide_eq_true hc
      have es : bstep s ((i : Int), e) = ⟨dput s.pr e.b (pAt s.pr e.a + e.c), dput s.ca e.b (i : Int), some e.b⟩ := by
        unfold bstep
        rw [if_pos hc']
      rw [es]
      refine sd_seq (sd_dputA rfl (ed_i0 (ed_dget (erd_ownA rfl) (ed_var rfl) (pAt_get ha)) (ed_var rfl)) (ed_var rfl) (by omega) ?_)
      walk_at "nrm"
      refine sd_seq (sd_dputA rfl (ed_var rfl) (ed_var rfl) (by omega) ?_)
      walk_at "nrm"
      refine sd_asg (α := Option Int) (a := some e.b) (ed_some (ed_var rfl)) ?_
      exact ⟨_, _, _, _, _, rfl⟩
    · have hc' := of_decide_eq_false hc
      have es : bstep s ((i : Int), e) = s := by
        unfold bstep
        rw [if_neg hc']
      rw [es]
      exact sd_next ⟨_, _, _, _, _, rfl⟩
  · obtain ⟨y4, y5, y6, y7, y8, rfl⟩ := hI
    rw [enumA_len, bpart_all]
    exact sd_ret (α := Option Int) (ed_var rfl) ⟨rfl, back3 rfl⟩
end
end TC
namespace TC
open PySem PySem.Spec L2
open Evl (Ex)
local macro_rules | `(tactic| walk_at "nrm") => `(tactic| simp only [List.set_cons_zero, List.set_cons_succ, List.cons_append, List.nil_append, List.append_nil, wipeS])
abbrev s_way_round : Stmt := topS 25
abbrev N_way_round : List Str := ["arcs", "came", "mark", "k", "found", "here"]
theorem sc_way_round : FnScope N_way_round ["arcs", "came", "mark"] (defScope s_way_round) := ⟨rfl, rfl, rfl, by decide +kernel, rfl, by decide +kernel, by decide +kernel⟩
section
variable {P : Program} {w : World} {K : PySem.W.Frag} {mg : Str → Option Value} {base : Heap}
theorem ok_way_round (D : Def K mg "way_round" "way_round" s_way_round ["arcs", "came", "mark"]) (m_range : mg "range" = none) (m_len : mg "len" = none) : Has CX0 P w K mg base 1 "way_round" ["arcs", "came", "mark"] (spF pre_way_round) := by
  refine def_ok D sc_way_round (spF_len pre_way_round_len) fun f cdv A outer s H vs Q E hr h => ⟨_, (pss_cons (ps_for PassesOwn.never rfl (pi_range1 rfl m_range (pa_cons (pe_callB call_lenD (by rfl) m_len (by decide +kernel) (pa_cons (pv 1) pa_nil)) pa_nil)) (pg_name (i := 3) sc_way_round.nd rfl (.inl rfl)) (pss_one (ps_set (i := 2) sc_way_round.nd rfl (.inl rfl) (pe_ix (ix_tupK (K := K)) (pe_ix (ix_listK (K := K)) (pv 0) (pe_dget (hu_of hr) (pv 1) (pv 2) (fun _ _ => rfl)) (fun _ _ => rfl)) pe_int (fun _ _ => rfl)))))
 (pss_cons (ps_set (i := 4) sc_way_round.nd rfl (.inl rfl) (pe_lst (pa_cons (pe_dget (hu_of hr) (pv 1) (pv 2) (fun _ _ => rfl)) pa_nil)))
 (pss_cons (ps_set (i := 5) sc_way_round.nd rfl (.inl rfl) (pe_ix (ix_tupK (K := K)) (pe_ix (ix_listK (K := K)) (pv 0) (pe_dget (hu_of hr) (pv 1) (pv 2) (fun _ _ => rfl)) (fun _ _ => rfl)) pe_int (fun _ _ => rfl)))
 (pss_cons (ps_while PassesOwn.never (pt_cmpR op_ne (pv 5) (pv 2) (nomark _)) (pss_cons (ps_expr (pe_appK (K := K) (pv 4) (pe_dget (hu_of hr) (pv 1) (pv 5) (fun _ _ => rfl))))
 (pss_one (ps_set (i := 5) sc_way_round.nd rfl (.inl rfl) (pe_ix (ix_tupK (K := K)) (pe_ix (ix_listK (K := K)) (pv 0) (pe_dget (hu_of hr) (pv 1) (pv 5) (fun _ _ => rfl)) (fun _ _ => rfl)) pe_int (fun _ _ => rfl))))))
 (pss_one (ps_ret (pv 4))))))), fn_sd h fun ss s hp => ?_⟩
  obtain ⟨A, ca, v, p, hl, hkey, hnum, hc, hpl, rfl, rfl⟩ := hp
  have hga : ∀ x, x ∈ keysM ca → dget ca x = some (caAt ca x) ∧ atI A (caAt ca x) = some (arcAt A (caAt ca x)) ∧ (arcAt A (caAt ca x)).a = predF A ca x := fun x hx => by
    obtain ⟨h1, h2⟩ := caAt_is (A := A) hx
    obtain ⟨h3, h4⟩ := hnum _ _ h1
    exact ⟨h1, arc_atI h3 h4, h2.symm⟩
  refine sd_seq (sd_for (γ := Int) [3] (id_rng1 (ed_lenD (erd_sh (ed_var rfl)))) (fun i d => ∃ y3, d = [.sh A, .sh (Dct.mk ca), .sh (back A ca i v), y3, .un, .un]) ⟨_, rfl⟩ (fun i y d' hy hI => ?_) fun d' hI => ?_)
  · obtain ⟨y3, rfl⟩ := hI
    obtain ⟨g1, g2, g3⟩ := hga _ (hkey i)
    refine ⟨_, gd_name (by simp), ?_⟩
    walk_at "nrm"
    refine sd_asg (α := Int) (a := back A ca (i + 1) v) (ed_is (ed_3a (α := Int) (β := Int) (γ := Int) (a := arcAt A (caAt ca (back A ca i v))) (ed_ixL (erl_sh (ed_var rfl)) (ed_dget (erd_sh (ed_var rfl)) (ed_var rfl) g1) g2)) g3) ?_
    exact ⟨_, rfl⟩
  · obtain ⟨y3, rfl⟩ := hI
    rw [List.length_map, List.length_range, Int.toNat_natCast]
    have hky := hc.key
    generalize back A ca ca.length v = y at *
    obtain ⟨g1, g2, g3⟩ := hga _ (hky 0)
    have g1 : dget ca y = some (caAt ca y) := g1
    refine sd_seq (sd_asgO (eo_lst (α := Int) (eas_cons (ed_dget (erd_sh (ed_var rfl)) (ed_var rfl) g1) eas_nil)) ?_)
    walk_at "nrm"
    refine sd_seq (sd_asg (α := Int) (a := back A ca 1 y) (ed_is (ed_3a (α := Int) (β := Int) (γ := Int) (a := arcAt A (caAt ca y)) (ed_ixL (erl_sh (ed_var rfl)) (ed_dget (erd_sh (ed_var rfl)) (ed_var rfl) g1) g2)) g3) ?_)
    walk_at "nrm"
    refine sd_seq (sd_while (fun n d => ∃ i, 1 ≤ i ∧ i ≤ p ∧ n = p - i ∧ d = [.sh A, .sh (Dct.mk ca), .sh y, y3, ol (roundN A ca y i), .sh (back A ca i y)]) _ ⟨1, Nat.le_refl _, hc.pos, rfl, rfl⟩ (fun n d' hI => ?_))
    obtain ⟨i, h1, h2, rfl, rfl⟩ := hI
    refine ⟨_, et_test (ed_ne (α := Int) (ed_var rfl) (ed_var rfl)), fun hb => ?_, fun hb => ?_⟩
    · have hne : back A ca i y ≠ y := fun z => by
        rw [decide_eq_true z] at hb
        cases hb
      have hip : i < p := Nat.lt_of_le_of_ne h2 fun z => hne (by rw [z]; exact hc.ret)
      obtain ⟨g1, g2, g3⟩ := hga _ (hky i)
      refine sd_seq (sd_app (α := Int) rfl (ed_dget (erd_sh (ed_var rfl)) (ed_var rfl) g1) (by unfold roundN; rw [List.length_map, List.length_range]; omega) ?_)
      walk_at "nrm"
      refine sd_asg (α := Int) (a := back A ca (i + 1) y) (ed_is (ed_3a (α := Int) (β := Int) (γ := Int) (a := arcAt A (caAt ca (back A ca i y))) (ed_ixL (erl_sh (ed_var rfl)) (ed_dget (erd_sh (ed_var rfl)) (ed_var rfl) g1) g2)) g3) ?_
      refine ⟨p - (i + 1), by omega, i + 1, by omega, hip, rfl, ?_⟩
      rw [roundN_succ]
      rfl
    · have he : back A ca i y = y := by
        refine Classical.byContradiction fun z => ?_
        rw [decide_eq_false z] at hb
        cases hb
      have hip : i = p := by
        refine Classical.byContradiction fun z => ?_
        exact hc.min i h1 (by omega) he
      subst hip
      refine sd_frzL (i := 4) rfl ?_
      walk_at "nrm"
      exact sd_ret (α := List Int) (ed_var rfl) rfl
end
end TC
namespace TC
open PySem PySem.Spec L2
open Evl (Ex)
local macro_rules | `(tactic| walk_at "nrm") => `(tactic| simp only [List.set_cons_zero, List.set_cons_succ, List.cons_append, List.nil_append, List.append_nil, wipeS])
abbrev s__law_cell_at : Stmt := topS 29
abbrev N__law_cell_at : List Str := ["_law_script", "_law_k"]
theorem sc__law_cell_at : FnScope N__law_cell_at ["_law_script", "_law_k"] (defScope s__law_cell_at) := ⟨rfl, rfl, rfl, by decide +kernel, rfl, by decide +kernel, by decide +kernel⟩
section
variable {P : Program} {w : World} {K : PySem.W.Frag} {mg : Str → Option Value} {base : Heap}
theorem ok__law_cell_at (D : Def K mg "_law_cell_at" "_law_cell_at" s__law_cell_at ["_law_script", "_law_k"]) (m_len : mg "len" = none) : Has CX0 P w K mg base 1 "_law_cell_at" ["_law_script", "_law_k"] (spF (pre__law_cell_at K)) := by
  refine def_ok D sc__law_cell_at (spF_len pre__law_cell_at_len) fun f cdv A outer s H vs Q E hr h => ⟨_, (pss_cons (ps_if (pt_cmpR op_lt (pv 1) (pe_callB (call_lenK (K := K)) (by rfl) m_len (by decide +kernel) (pa_cons (pv 0) pa_nil)) (nomark _)) (pss_one (ps_ret (pe_ix (ix_listK (K := K)) (pv 0) (pv 1) (fun _ _ => rfl)))) pss_nil)
 (pss_one (ps_ret pe_int))), fn_sd h fun ss s hp => ?_⟩
  obtain ⟨ns, k, rfl, rfl⟩ := hp
  refine sd_seq (sd_if (et_test (ed_b0 (ed_var rfl) (ed_lenS (ed_var rfl)))) (fun hb => ?_) (fun hb => ?_))
  · have hk : k < ns.ns.length := by
      have := of_decide_eq_true hb
      omega
    refine sd_ret (α := Int) (ed_ixS (ed_var rfl) (ed_var rfl) (atI_nat (List.getElem?_eq_getElem hk))) ?_
    rw [List.getElem?_eq_getElem hk]
    rfl
  · refine sd_next ?_
    refine sd_ret (α := Int) ed_int ?_
    have := of_decide_eq_false hb
    rw [List.getElem?_eq_none (by omega)]
    rfl
end
end TC
namespace TC
open PySem PySem.Spec L2
open Evl (Ex)
local macro_rules | `(tactic| walk_at "nrm") => `(tactic| simp only [List.set_cons_zero, List.set_cons_succ, List.cons_append, List.nil_append, List.append_nil, wipeS])
abbrev s__law_whole : Stmt := topS 30
abbrev N__law_whole : List Str := ["_law_found"]
theorem sc__law_whole : FnScope N__law_whole ["_law_found"] (defScope s__law_whole) := ⟨rfl, rfl, rfl, by decide +kernel, rfl, by decide +kernel, by decide +kernel⟩
section
variable {P : Program} {w : World} {K : PySem.W.Frag} {mg : Str → Option Value} {base : Heap}
theorem ok__law_whole (D : Def K mg "_law_whole" "_law_whole" s__law_whole ["_law_found"]) (m_isinstance : mg "isinstance" = none) (m_int : mg "int" = none) (m_bool : mg "bool" = none) : Has CX0 P w K mg base 1 "_law_whole" ["_law_found"] (spF pre__law_whole) := by
  refine def_ok D sc__law_whole (spF_len pre__law_whole_len) fun f cdv A outer s H vs Q E hr h => ⟨_, (pss_one (ps_ret (pe_and (pe_callB (call_isiK1 (K := K)) (by rfl) m_isinstance (by decide +kernel) (pa_cons (pv 0) (pa_cons (pe_bltn (v := .ty "int") (by rfl) m_int (by decide +kernel) rfl) pa_nil))) (pe_one (pe_not (pe_callB (call_isiK1 (K := K)) (by rfl) m_isinstance (by decide +kernel) (pa_cons (pv 0) (pa_cons (pe_bltn (v := .ty "bool") (by rfl) m_bool (by decide +kernel) rfl) pa_nil)))))))), fn_sd h fun ss s hp => ?_⟩
  obtain ⟨n, rfl, rfl⟩ := hp
  exact sd_ret (α := Bool) (ed_andV (ed_isi (α := Int) (b := true) (ed_var rfl) (by decide +kernel)) (fun _ => ed_notV (ed_isi (α := Int) (b := false) (ed_var rfl) (by decide +kernel)))) rfl
end
end TC
namespace TC
open PySem PySem.Spec L2
open Evl (Ex)
local macro_rules | `(tactic| walk_at "nrm") => `(tactic| simp only [List.set_cons_zero, List.set_cons_succ, List.cons_append, List.nil_append, List.append_nil, wipeS])
abbrev s__law_names : Stmt := topS 31
abbrev N__law_names : List Str := ["_law_cell", "_law_far", "_law_many", "_law_k"]
theorem sc__law_names : FnScope N__law_names ["_law_cell", "_law_far"] (defScope s__law_names) := ⟨rfl, rfl, rfl, by decide +kernel, rfl, by decide +kernel, by decide +kernel⟩
section
variable {P : Program} {w : World} {K : PySem.W.Frag} {mg : Str → Option Value} {base : Heap}
theorem ok__law_names (D : Def K mg "_law_names" "_law_names" s__law_names ["_law_cell", "_law_far"]) (m_range : mg "range" = none) : Has CX0 P w K mg base 1 "_law_names" ["_law_cell", "_law_far"] (spF pre__law_names) := by
  refine def_ok D sc__law_names (spF_len pre__law_names_len) fun f cdv A outer s H vs Q E hr h => ⟨_, (pss_cons (ps_set (i := 2) sc__law_names.nd rfl (.inr rfl) (pe_op op_add pe_int (pe_op op_mod (pv 0) pe_int)))
 (pss_cons (ps_if (pt_cmpR op_eq (pe_op op_mod (pe_op op_fdiv (pv 0) pe_int) pe_int) pe_int (nomark _)) (pss_one (ps_set (i := 2) sc__law_names.nd rfl (.inr rfl) (pe_op op_add pe_int (pe_op op_mod (pe_op op_fdiv (pv 0) pe_int) pe_int)))) pss_nil)
 (pss_cons (ps_if (pt_cmpR op_eq (pe_op op_mod (pv 1) pe_int) pe_int (nomark _)) (pss_one (ps_ret (pe_lc (own := [("_law_k", 3)]) (g := (gName 3)) (tt := tYes) rfl sc__law_names.nd (pi_range1 rfl m_range (pa_cons (pv 2) pa_nil)) (blkOk_by (own := [("_law_k", 3)]) (N := N__law_names) (sc := defScope s__law_names) (by decide +kernel)) (fun _ _ _ _ _ => (pg_name (i := 3) sc__law_names.nd rfl (.inl rfl))) (fun _ _ _ _ _ => pts_nil) (fun _ _ _ _ _ => (pe_op op_sub (pv 3) (pe_op op_fdiv (pv 2) pe_int)))))) pss_nil)
 (pss_cons (ps_if (pt_cmpR op_eq (pe_op op_mod (pv 1) pe_int) pe_int (nomark _)) (pss_one (ps_ret (pe_lc (own := [("_law_k", 3)]) (g := (gName 3)) (tt := tYes) rfl sc__law_names.nd (pi_range1 rfl m_range (pa_cons (pv 2) pa_nil)) (blkOk_by (own := [("_law_k", 3)]) (N := N__law_names) (sc := defScope s__law_names) (by decide +kernel)) (fun _ _ _ _ _ => (pg_name (i := 3) sc__law_names.nd rfl (.inl rfl))) (fun _ _ _ _ _ => pts_nil) (fun _ _ _ _ _ => (pe_op op_mul (pe_ix (ix_listK (K := K)) (pe_lst (pa_cons pe_int (pa_cons (pe_un un_neg pe_int) pa_nil))) (pe_op op_mod (pv 3) pe_int) (fun _ _ => rfl)) (pe_op op_mod (pe_op op_add (pe_op op_fdiv (pv 1) pe_int) (pe_op op_mul (pv 3) (pv 3))) (pe_op op_pow pe_int pe_int))))))) pss_nil)
 (pss_one (ps_ret (pe_lc (own := [("_law_k", 3)]) (g := (gName 3)) (tt := tYes) rfl sc__law_names.nd (pi_range1 rfl m_range (pa_cons (pv 2) pa_nil)) (blkOk_by (own := [("_law_k", 3)]) (N := N__law_names) (sc := defScope s__law_names) (by decide +kernel)) (fun _ _ _ _ _ => (pg_name (i := 3) sc__law_names.nd rfl (.inl rfl))) (fun _ _ _ _ _ => pts_nil) (fun _ _ _ _ _ => (pe_op op_sub (pe_op op_sub (pe_op op_pow pe_int pe_int) pe_int) (pe_op op_mod (pe_op op_add (pe_op op_fdiv (pv 1) pe_int) (pe_op op_mul pe_int (pv 3))) (pe_op op_sub (pe_op op_mul pe_int (pe_op op_pow pe_int pe_int)) pe_int))))))))))), fn_sd h fun ss s hp => ?_⟩
  obtain ⟨cell, far, rfl, rfl⟩ := hp
  have hm := lmany_le cell
  refine sd_seq (sd_asg (α := Int) (ed_i0 ed_int (ed_iC (ed_var rfl) ed_int (show (0 : Int) < 12 by decide))) ?_)
  walk_at "nrm"
  refine sd_seq (sd_ifA (α := Int) (et_test (ed_eq (α := Int) (ed_iC (ed_iC (ed_var rfl) ed_int ⟨by decide, by decide⟩) ed_int (show (0 : Int) < 8 by decide)) ed_int)) rfl (fun _ => ed_i0 ed_int (ed_iC (ed_iC (ed_var rfl) ed_int ⟨by decide, by decide⟩) ed_int (show (0 : Int) < 40 by decide))) ?_)
  walk_at "nrm"
  rw [show (if decide (cell / 12 % 8 = 3) = true then 1 + cell / 96 % 40 else 1 + cell % 12) = lmany cell from rfl]
  have hl : ((List.range (lmany cell).toNat).map fun i => ((i : Nat) : Int)).length ≤ 900000 := by
    rw [List.length_map, List.length_range]
    omega
  refine sd_seq (sd_if (et_test (ed_eq (α := Int) (ed_iC (ed_var rfl) ed_int (show (0 : Int) < 3 by decide)) ed_int)) (fun hb => ?_) (fun hb => ?_))
  · refine sd_ret (α := List Int) (ed_map _ (id_rng1 (ed_var rfl)) hl fun y hy => ⟨_, gd_name (by simp), ed_i0 (ed_var rfl) (ed_iC (ed_var rfl) ed_int ⟨by decide, by decide⟩)⟩) ?_
    refine shc (List.map_congr_left fun y hy => ?_)
    unfold lname
    rw [if_pos (of_decide_eq_true hb)]
  refine sd_next ?_
  refine sd_seq (sd_if (et_test (ed_eq (α := Int) (ed_iC (ed_var rfl) ed_int (show (0 : Int) < 3 by decide)) ed_int)) (fun hb2 => ?_) (fun hb2 => ?_))
  · have sq : ∀ y ∈ ((List.range (lmany cell).toNat).map fun i => ((i : Nat) : Int)), 0 ≤ y ∧ y < 40 := fun y hy => by
      obtain ⟨i, hi, e⟩ := List.mem_map.mp hy
      have := List.mem_range.mp hi
      omega
    refine sd_ret (α := List Int) (ed_map _ (id_rng1 (ed_var rfl)) hl fun y hy => ⟨_, gd_name (by simp), ed_iC (ed_ixL (a := if y % 2 = 0 then 1 else -1) (erl_sh (ed_lst (eas_cons ed_int (eas_cons (ed_un (g := fun i => -i) ed_int) eas_nil)))) (ed_iC (ed_var rfl) ed_int (show (0 : Int) < 2 by decide)) ?_) (ed_iC (ed_i0 (ed_iC (ed_var rfl) ed_int ⟨by decide, by decide⟩) (ed_iC (ed_var rfl) (ed_var rfl) ?_)) (ed_iC ed_int ed_int ⟨by decide, by decide, by decide⟩) (by decide +kernel)) ?_⟩) ?_
    · rcases (show y % 2 = 0 ∨ y % 2 = 1 by omega) with e | e
      · rw [e, if_pos rfl]
        rfl
      · rw [e, if_neg (by decide)]
        rfl
    · have := sq y hy
      exact .inl ⟨by omega, by omega⟩
    · refine .inl ?_
      by_cases e : y % 2 = 0
      · rw [if_pos e]
        exact ⟨by decide, by decide⟩
      · rw [if_neg e]
        exact ⟨by decide, by decide⟩
    · refine shc (List.map_congr_left fun y hy => ?_)
      unfold lname
      rw [if_neg (of_decide_eq_false hb), if_pos (of_decide_eq_true hb2)]
      rfl
  refine sd_next ?_
  refine sd_ret (α := List Int) (ed_map _ (id_rng1 (ed_var rfl)) hl fun y hy => ⟨_, gd_name (by simp), ed_i0 (ed_i0 (ed_iC ed_int ed_int ⟨by decide, by decide, by decide⟩) ed_int) (ed_iC (ed_i0 (ed_iC (ed_var rfl) ed_int ⟨by decide, by decide⟩) (ed_iC ed_int (ed_var rfl) (.inl (by decide)))) (ed_i0 (ed_iC ed_int (ed_iC ed_int ed_int ⟨by decide, by decide, by decide⟩) (.inl (by decide))) ed_int) (by decide +kernel))⟩) ?_
  refine shc (List.map_congr_left fun y hy => ?_)
  unfold lname
  rw [if_neg (of_decide_eq_false hb), if_neg (of_decide_eq_false hb2)]
  rfl
end
end TC
namespace TC
open PySem PySem.Spec L2
open Evl (Ex)
local macro_rules | `(tactic| walk_at "nrm") => `(tactic| simp only [List.set_cons_zero, List.set_cons_succ, List.cons_append, List.nil_append, List.append_nil, wipeS])
abbrev s__law_numbers : Stmt := topS 32
abbrev N__law_numbers : List Str := ["_law_cells", "_law_more", "_law_most", "_law_found", "_law_k", "_law_cell"]
theorem sc__law_numbers : FnScope N__law_numbers ["_law_cells", "_law_more", "_law_most"] (defScope s__law_numbers) := ⟨rfl, rfl, rfl, by decide +kernel, rfl, by decide +kernel, by decide +kernel⟩
section
variable {P : Program} {w : World} {K : PySem.W.Frag} {mg : Str → Option Value} {base : Heap}
theorem ok__law_numbers (D : Def K mg "_law_numbers" "_law_numbers" s__law_numbers ["_law_cells", "_law_more", "_law_most"]) (m_enumerate : mg "enumerate" = none) : Has CX0 P w K mg base 1 "_law_numbers" ["_law_cells", "_law_more", "_law_most"] (spF pre__law_numbers) := by
  refine def_ok D sc__law_numbers (spF_len pre__law_numbers_len) fun f cdv A outer s H vs Q E hr h => ⟨_, (pss_cons (ps_set (i := 3) sc__law_numbers.nd rfl (.inl rfl) (pe_lst pa_nil))
 (pss_cons (ps_for PassesOwn.never rfl (pi_enumK (K := K) (by rfl) m_enumerate (pa_cons (pe_slice (sl_listK (K := K)) (pv 0) po_none (po_some pe_int)) pa_nil)) (pg_tupK (K := K) 2 rfl (pgs_cons (pg_name (i := 4) sc__law_numbers.nd rfl (.inl rfl)) (pgs_cons (pg_name (i := 5) sc__law_numbers.nd rfl (.inl rfl)) pgs_nil))) (pss_cons (ps_expr (pe_appK (K := K) (pv 3) (pe_op op_mod (pe_op op_add (pe_op op_mul (pv 5) pe_int) (pe_op op_mul (pv 4) (pv 4))) pe_int)))
 (pss_one (ps_if (pt_val (pv 1)) (pss_one (ps_expr (pe_appK (K := K) (pv 3) (pe_op op_mod (pe_op op_add (pe_op op_mul (pv 5) pe_int) (pe_op op_mul pe_int (pv 4))) pe_int)))) pss_nil))))
 (pss_one (ps_ret (pe_slice (sl_listK (K := K)) (pv 3) po_none (po_some (pv 2))))))), fn_sd h fun ss s hp => ?_⟩
  obtain ⟨cells, more, most, rfl, rfl⟩ := hp
  refine sd_seq (sd_asgO (eo_lst (α := Int) eas_nil) ?_)
  walk_at "nrm"
  have hcut : cutA cells none (some (120 : Int)) = cells.take 120 := cut_to cells 120
  have hI : ID (iEnum K (tCons (tSl (rSlL K) (tVar 0) tNoPart (tPart (tC (.int 120)))) tNil)) [.sh cells, .sh more, .sh most, ol ([] : List Int), .un, .un] (enumA (cells.take 120)) := by
    have h := id_enum (K := K) (ed_sl (K := K) (d := [.sh cells, .sh more, .sh most, ol ([] : List Int), .un, .un]) (erl_sh (ed_var (a := cells) (i := 0) rfl)) eo_no (eo_so (ed_int (i := 120))))
    rw [hcut] at h
    exact h
  refine sd_seq (sd_forP (γ := Int × Int) [4, 5] hI (fun pre d => ∃ y4 y5, d = [.sh cells, .sh more, .sh most, ol (pre.flatMap (lnumF more)), y4, y5]) ⟨_, _, rfl⟩ (fun pre y post d' he hI => ?_) fun d' hI => ?_)
  · obtain ⟨y4, y5, rfl⟩ := hI
    have hpl : pre.length ≤ 120 := by
      have h1 := congrArg List.length he
      rw [enumA_len, List.length_take, List.length_append] at h1
      omega
    have hfl := lnumFs_len more pre
    have hy : -(2 ^ 64) < y.1 ∧ y.1 < 2 ^ 64 := by
      have hm : y ∈ enumA (cells.take 120) := by rw [he]; simp
      obtain ⟨i, h1, h2⟩ := enumA_mem hm
      have h3 := (List.getElem?_eq_some_iff.mp h2).1
      rw [List.length_take] at h3
      rw [h1]
      omega
    refine ⟨_, gd_t2 (gd_name (by simp)) (gd_name (by simp)), ?_⟩
    walk_at "nrm"
    refine sd_seq (sd_app (α := Int) rfl (ed_iC (ed_i0 (ed_iC (ed_var rfl) ed_int (.inr (by decide))) (ed_iC (ed_var rfl) (ed_var rfl) (.inl hy))) ed_int (show (0 : Int) < 2147483647 by decide)) (by omega) ?_)
    walk_at "nrm"
    refine sd_if (et_B (ed_var rfl)) (fun hb => ?_) (fun hb => ?_)
    · subst hb
      refine sd_app (α := Int) rfl (ed_iC (ed_i0 (ed_iC (ed_var rfl) ed_int (.inr (by decide))) (ed_iC ed_int (ed_var rfl) (.inl (by decide)))) ed_int (show (0 : Int) < 2147483629 by decide)) (by rw [List.length_append, List.length_singleton]; omega) ?_
      walk_at "nrm"
      refine ⟨.sh y.1, .sh y.2, ?_⟩
      rw [List.flatMap_append, List.append_assoc]
      rfl
    · subst hb
      refine sd_next ?_
      refine ⟨.sh y.1, .sh y.2, ?_⟩
      rw [List.flatMap_append]
      rfl
  · obtain ⟨y4, y5, rfl⟩ := hI
    exact sd_ret (α := List Int) (ed_sl (erl_own rfl) eo_no (eo_so (ed_var rfl))) rfl
end
end TC
namespace TC
open PySem PySem.Spec L2
open Evl (Ex)
local macro_rules | `(tactic| walk_at "nrm") => `(tactic| simp only [List.set_cons_zero, List.set_cons_succ, List.cons_append, List.nil_append, List.append_nil, wipeS])
abbrev s__law_walk : Stmt := topS 33
abbrev N__law_walk : List Str := ["_law_numbers_here", "_law_names_here", "_law_closed", "_law_many", "_law_found", "_law_k", "_law_after"]
theorem sc__law_walk : FnScope N__law_walk ["_law_numbers_here", "_law_names_here", "_law_closed"] (defScope s__law_walk) := ⟨rfl, rfl, rfl, by decide +kernel, rfl, by decide +kernel, by decide +kernel⟩
section
variable {P : Program} {w : World} {K : PySem.W.Frag} {mg : Str → Option Value} {base : Heap}
theorem ok__law_walk (D : Def K mg "_law_walk" "_law_walk" s__law_walk ["_law_numbers_here", "_law_names_here", "_law_closed"]) (m_len : mg "len" = none) (m_range : mg "range" = none) : Has CX0 P w K mg base 1 "_law_walk" ["_law_numbers_here", "_law_names_here", "_law_closed"] (spF pre__law_walk) := by
  refine def_ok D sc__law_walk (spF_len pre__law_walk_len) fun f cdv A outer s H vs Q E hr h => ⟨_, (pss_cons (ps_set (i := 3) sc__law_walk.nd rfl (.inl rfl) (pe_callB (call_lenK (K := K)) (by rfl) m_len (by decide +kernel) (pa_cons (pv 1) pa_nil)))
 (pss_cons (ps_set (i := 4) sc__law_walk.nd rfl (.inl rfl) (pe_lst pa_nil))
 (pss_cons (ps_for PassesOwn.never rfl (pi_range1 rfl m_range (pa_cons (pe_callB (call_lenK (K := K)) (by rfl) m_len (by decide +kernel) (pa_cons (pv 0) pa_nil)) pa_nil)) (pg_name (i := 5) sc__law_walk.nd rfl (.inl rfl)) (pss_one (ps_if (PW.pt (pw_or (pt_cmpR op_lt (pe_op op_add (pv 5) pe_int) (pe_callB (call_lenK (K := K)) (by rfl) m_len (by decide +kernel) (pa_cons (pv 0) pa_nil)) (nomark _)) (pw_or1 (pt_val (pv 2))))) (pss_cons (ps_set (i := 6) sc__law_walk.nd rfl (.inl rfl) (pe_ix (ix_listK (K := K)) (pv 0) (pe_op op_mod (pe_op op_add (pv 5) pe_int) (pe_callB (call_lenK (K := K)) (by rfl) m_len (by decide +kernel) (pa_cons (pv 0) pa_nil))) (fun _ _ => rfl)))
 (pss_one (ps_expr (pe_appK (K := K) (pv 4) (pe_tup (pa_cons (pe_ix (ix_listK (K := K)) (pv 1) (pe_op op_mod (pe_ix (ix_listK (K := K)) (pv 0) (pv 5) (fun _ _ => rfl)) (pv 3)) (fun _ _ => rfl)) (pa_cons (pe_ix (ix_listK (K := K)) (pv 1) (pe_op op_mod (pv 6) (pv 3)) (fun _ _ => rfl)) (pa_cons (pe_cmpR op_eq (pe_op op_mod (pe_op op_fdiv (pe_ix (ix_listK (K := K)) (pv 0) (pv 5) (fun _ _ => rfl)) (pv 3)) pe_int) pe_int (nomark _)) pa_nil)))))))) pss_nil)))
 (pss_one (ps_ret (pv 4)))))), fn_sd h fun ss s hp => ?_⟩
  obtain ⟨nums, names, closed, h1, h2, h3, rfl, rfl⟩ := hp
  refine sd_seq (sd_asg (α := Int) (ed_len (erl_sh (ed_var rfl))) ?_)
  walk_at "nrm"
  refine sd_seq (sd_asgO (eo_lst (α := Part) eas_nil) ?_)
  walk_at "nrm"
  refine sd_seq (sd_for (γ := Int) [5] (id_rng1 (ed_len (erl_sh (ed_var rfl)))) (fun i d => ∃ y5 y6, d = [.sh nums, .sh names, .sh closed, .sh (names.length : Int), ol ((List.range (min i (wmany nums closed))).map (wpart nums names)), y5, y6]) ⟨_, _, by rw [Nat.zero_min]; rfl⟩ (fun i y d' hy hI => ?_) fun d' hI => ?_)
  · obtain ⟨y5, y6, rfl⟩ := hI
    obtain ⟨hi, rfl⟩ : i < nums.length ∧ y = (i : Int) := by
      rw [List.getElem?_map, Int.toNat_natCast] at hy
      obtain ⟨j, h1, h2⟩ := Option.map_eq_some_iff.mp hy
      obtain ⟨h3, h4⟩ := List.getElem?_eq_some_iff.mp h1
      rw [List.getElem_range] at h4
      rw [List.length_range] at h3
      exact ⟨h3, by rw [← h2, h4]⟩
    refine ⟨_, gd_name (by simp), ?_⟩
    walk_at "nrm"
    refine sd_if (et_or (et_test (ed_b0 (ed_i0 (ed_var rfl) ed_int) (ed_len (erl_sh (ed_var rfl))))) (fun _ => et_B (ed_var rfl))) (fun hb => ?_) (fun hb => ?_)
    · have hlt : i < wmany nums closed := by
        unfold wmany
        cases closed with
        | true => rw [if_pos rfl]; exact hi
        | false =>
          rw [if_neg Bool.false_ne_true]
          rw [Bool.or_false] at hb
          have := of_decide_eq_true hb
          omega
      have hn : 0 < nums.length := by omega
      have hmod : ((i : Int) + 1) % (nums.length : Int) = (((i + 1) % nums.length : Nat) : Int) := by push_cast; rfl
      have hat : atI nums (((i : Int) + 1) % (nums.length : Int)) = some (nums.getD ((i + 1) % nums.length) 0) := by
        rw [hmod]
        exact getD_at (Nat.mod_lt _ hn)
      refine sd_seq (sd_asg (α := Int) (ed_ixL (erl_sh (ed_var rfl)) (ed_iC (ed_i0 (ed_var rfl) ed_int) (ed_len (erl_sh (ed_var rfl))) (show (0 : Int) < nums.length by omega)) hat) ?_)
      walk_at "nrm"
      refine sd_app (α := Part) (a := wpart nums names i) rfl (ed_is (ed_tup3 (ed_ixL (erl_sh (ed_var rfl)) (ed_iC (ed_ixL (erl_sh (ed_var rfl)) (ed_var rfl) (getD_at hi)) (ed_var rfl) (show (0 : Int) < names.length by omega)) (pickW_at h1 _)) (ed_ixL (erl_sh (ed_var rfl)) (ed_iC (ed_var rfl) (ed_var rfl) (show (0 : Int) < names.length by omega)) (pickW_at h1 _)) (ed_eq (α := Int) (ed_iC (ed_iC (ed_ixL (erl_sh (ed_var rfl)) (ed_var rfl) (getD_at hi)) (ed_var rfl) ⟨by omega, by omega⟩) ed_int (show (0 : Int) < 2 by decide)) ed_int)) rfl) (by rw [List.length_map, List.length_range]; omega) ?_
      walk_at "nrm"
      rw [Nat.min_eq_left (by omega : i + 1 ≤ wmany nums closed), Nat.min_eq_left (by omega : i ≤ wmany nums closed), List.range_succ, List.map_append]
      exact ⟨_, _, rfl⟩
    · have hge : wmany nums closed ≤ i := by
        unfold wmany
        cases closed with
        | true => rw [Bool.or_true] at hb; cases hb
        | false =>
          rw [if_neg Bool.false_ne_true]
          rw [Bool.or_false] at hb
          have := of_decide_eq_false hb
          omega
      refine sd_next ?_
      walk_at "nrm"
      rw [Nat.min_eq_right (by omega : wmany nums closed ≤ i + 1), Nat.min_eq_right hge]
      exact ⟨_, _, rfl⟩
  · obtain ⟨y5, y6, rfl⟩ := hI
    refine sd_frzL (i := 4) rfl ?_
    walk_at "nrm"
    refine sd_ret (α := List Part) (ed_var rfl) (shc ?_)
    rw [List.length_map, List.length_range, Int.toNat_natCast, Nat.min_eq_right (wmany_le nums closed)]
    rfl
end
end TC
namespace TC
open PySem PySem.Spec L2
open Evl (Ex)
local macro_rules | `(tactic| walk_at "nrm") => `(tactic| simp only [List.set_cons_zero, List.set_cons_succ, List.cons_append, List.nil_append, List.append_nil, wipeS])
abbrev s__law_tile : Stmt := topS 34
abbrev N__law_tile : List Str := ["_law_part"]
theorem sc__law_tile : FnScope N__law_tile ["_law_part"] (defScope s__law_tile) := ⟨rfl, rfl, rfl, by decide +kernel, rfl, by decide +kernel, by decide +kernel⟩
section
variable {P : Program} {w : World} {K : PySem.W.Frag} {mg : Str → Option Value} {base : Heap}
theorem ok__law_tile (D : Def K mg "_law_tile" "_law_tile" s__law_tile ["_law_part"]) : Has CX0 P w K mg base 1 "_law_tile" ["_law_part"] (spF pre__law_tile) := by
  refine def_ok D sc__law_tile (spF_len pre__law_tile_len) fun f cdv A outer s H vs Q E hr h => ⟨_, (pss_cons (ps_if (pt_val (pe_ix (ix_tupK (K := K)) (pv 0) pe_int (fun _ _ => rfl))) (pss_one (ps_ret (pe_tup (pa_cons (pe_ix (ix_tupK (K := K)) (pv 0) pe_int (fun _ _ => rfl)) (pa_cons (pe_ix (ix_tupK (K := K)) (pv 0) pe_int (fun _ _ => rfl)) pa_nil))))) pss_nil)
 (pss_one (ps_ret (pe_tup (pa_cons (pe_ix (ix_tupK (K := K)) (pv 0) pe_int (fun _ _ => rfl)) (pa_cons (pe_ix (ix_tupK (K := K)) (pv 0) pe_int (fun _ _ => rfl)) pa_nil)))))), fn_sd h fun ss s hp => ?_⟩
  obtain ⟨p, rfl, rfl⟩ := hp
  refine sd_seq (sd_if (et_B (ed_3c (α := Int) (β := Int) (γ := Bool) (ed_var rfl))) (fun hb => ?_) (fun hb => ?_))
  · refine sd_ret (α := Int × Int) (ed_tup2 (ed_3b (α := Int) (β := Int) (γ := Bool) (ed_var rfl)) (ed_3a (α := Int) (β := Int) (γ := Bool) (ed_var rfl))) (shc ?_)
    unfold ltile
    rw [if_pos hb]
  refine sd_next ?_
  refine sd_ret (α := Int × Int) (ed_tup2 (ed_3a (α := Int) (β := Int) (γ := Bool) (ed_var rfl)) (ed_3b (α := Int) (β := Int) (γ := Bool) (ed_var rfl))) (shc ?_)
  unfold ltile
  rw [if_neg (by rw [hb]; exact Bool.false_ne_true)]
end
end TC
namespace TC
open PySem PySem.Spec L2
open Evl (Ex)
local macro_rules | `(tactic| walk_at "nrm") => `(tactic| simp only [List.set_cons_zero, List.set_cons_succ, List.cons_append, List.nil_append, List.append_nil, wipeS])
abbrev s__law_order : Stmt := topS 35
abbrev N__law_order : List Str := ["_law_numbers_here", "_law_size", "_law_way", "_law_keys", "_law_k", "_law_key"]
theorem sc__law_order : FnScope N__law_order ["_law_numbers_here", "_law_size", "_law_way"] (defScope s__law_order) := ⟨rfl, rfl, rfl, by decide +kernel, rfl, by decide +kernel, by decide +kernel⟩
section
variable {P : Program} {w : World} {K : PySem.W.Frag} {mg : Str → Option Value} {base : Heap}
theorem ok__law_order (D : Def K mg "_law_order" "_law_order" s__law_order ["_law_numbers_here", "_law_size", "_law_way"]) (m_range : mg "range" = none) (m_sorted : mg "sorted" = none) : Has CX0 P w K mg base 1 "_law_order" ["_law_numbers_here", "_law_size", "_law_way"] (spF pre__law_order) := by
  refine def_ok D sc__law_order (spF_len pre__law_order_len) fun f cdv A outer s H vs Q E hr h => ⟨_, (pss_cons (ps_set (i := 3) sc__law_order.nd rfl (.inl rfl) (pe_lst pa_nil))
 (pss_cons (ps_for PassesOwn.never rfl (pi_range1 rfl m_range (pa_cons (pv 1) pa_nil)) (pg_name (i := 4) sc__law_order.nd rfl (.inl rfl)) (pss_cons (ps_set (i := 5) sc__law_order.nd rfl (.inl rfl) (pe_op op_mod (pe_op op_mul (pe_ix (ix_listK (K := K)) (pv 0) (pv 4) (fun _ _ => rfl)) pe_int) pe_int))
 (pss_cons (ps_if (pt_cmpR op_eq (pe_op op_mod (pv 2) pe_int) pe_int (nomark _)) (pss_one (ps_set (i := 5) sc__law_order.nd rfl (.inl rfl) (pe_op op_mod (pe_op op_add (pv 4) (pe_op op_fdiv (pv 2) pe_int)) (pv 1)))) pss_nil)
 (pss_cons (ps_if (pt_cmpR op_eq (pe_op op_mod (pv 2) pe_int) pe_int (nomark _)) (pss_one (ps_set (i := 5) sc__law_order.nd rfl (.inl rfl) (pe_un un_neg (pv 4)))) pss_nil)
 (pss_one (ps_expr (pe_appK (K := K) (pv 3) (pe_tup (pa_cons (pv 5) (pa_cons (pv 4) pa_nil))))))))))
 (pss_one (ps_ret (pe_lc (own := [("_law_key", 5), ("_law_k", 4)]) (g := (gTup K 2 (gCons (gName 5) (gCons (gName 4) gNil)))) (tt := tYes) rfl sc__law_order.nd (pi_listK (K := K) (pe_callB (cr_sortedPK (K := K)) (by rfl) m_sorted (by decide +kernel) (pa_cons (pv 3) pa_nil))) (blkOk_by (own := [("_law_key", 5), ("_law_k", 4)]) (N := N__law_order) (sc := defScope s__law_order) (by decide +kernel)) (fun _ _ _ _ _ => (pg_tupK (K := K) 2 rfl (pgs_cons (pg_name (i := 5) sc__law_order.nd rfl (.inl rfl)) (pgs_cons (pg_name (i := 4) sc__law_order.nd rfl (.inl rfl)) pgs_nil)))) (fun _ _ _ _ _ => pts_nil) (fun _ _ _ _ _ => (pv 4))))))), fn_sd h fun ss s hp => ?_⟩
  obtain ⟨nums, size, way, h1, h2, rfl, rfl⟩ := hp
  refine sd_seq (sd_asgO (eo_lst (α := Int × Int) eas_nil) ?_)
  walk_at "nrm"
  refine sd_seq (sd_for (γ := Int) [4] (id_rng1 (ed_var rfl)) (fun i d => ∃ y4 y5, d = [.sh nums, .sh (size : Int), .sh way, ol ((List.range i).map (lkeyP nums size way)), y4, y5]) ⟨_, _, rfl⟩ (fun i y d' hy hI => ?_) fun d' hI => ?_)
  · obtain ⟨y4, y5, rfl⟩ := hI
    obtain ⟨hi, rfl⟩ : i < size ∧ y = (i : Int) := by
      rw [List.getElem?_map, Int.toNat_natCast] at hy
      obtain ⟨j, h1, h2⟩ := Option.map_eq_some_iff.mp hy
      obtain ⟨h3, h4⟩ := List.getElem?_eq_some_iff.mp h1
      rw [List.getElem_range] at h4
      rw [List.length_range] at h3
      exact ⟨h3, by rw [← h2, h4]⟩
    refine ⟨_, gd_name (by simp), ?_⟩
    walk_at "nrm"
    refine sd_seq (sd_asg (α := Int) (ed_iC (ed_iC (ed_ixL (erl_sh (ed_var rfl)) (ed_var rfl) (getD_at (show i < nums.length by omega))) ed_int (.inr (by decide))) ed_int (show (0 : Int) < 2147483629 by decide)) ?_)
    walk_at "nrm"
    refine sd_seq (sd_ifA (α := Int) (et_test (ed_eq (α := Int) (ed_iC (ed_var rfl) ed_int (show (0 : Int) < 4 by decide)) ed_int)) rfl (fun _ => ed_iC (ed_i0 (ed_var rfl) (ed_iC (ed_var rfl) ed_int ⟨by decide, by decide⟩)) (ed_var rfl) (show (0 : Int) < (size : Int) by omega)) ?_)
    walk_at "nrm"
    refine sd_seq (sd_ifA (α := Int) (et_test (ed_eq (α := Int) (ed_iC (ed_var rfl) ed_int (show (0 : Int) < 4 by decide)) ed_int)) rfl (fun _ => ed_un (g := fun i => -i) (ed_var rfl)) ?_)
    walk_at "nrm"
    refine sd_app (α := Int × Int) (a := lkeyP nums size way i) rfl (ed_is (ed_tup2 (ed_var rfl) (ed_var rfl)) ?_) (by rw [List.length_map, List.length_range]; omega) ?_
    · unfold lkeyP lkey
      rw [Int.toNat_natCast]
      congr 1
      by_cases c : way % 4 = 3
      · rw [if_pos (decide_eq_true c), if_pos c]
      · rw [if_neg (by rw [decide_eq_false c]; exact Bool.false_ne_true), if_neg c]
        by_cases c2 : way % 4 = 2
        · rw [if_pos (decide_eq_true c2), if_pos c2]
        · rw [if_neg (by rw [decide_eq_false c2]; exact Bool.false_ne_true), if_neg c2]
    · walk_at "nrm"
      rw [List.range_succ, List.map_append]
      exact ⟨_, _, rfl⟩
  · obtain ⟨y4, y5, rfl⟩ := hI
    have e : ((List.range (size : Int).toNat).map fun i => ((i : Nat) : Int)).length = size := by rw [List.length_map, List.length_range, Int.toNat_natCast]
    rw [e]
    refine sd_ret (α := List Int) (ed_map _ (id_list (ed_sortP (erl_own rfl))) (by rw [(sortP_perm _).length_eq, List.length_map, List.length_range]; omega) fun y hy => ⟨_, gd_t2 (gd_name (by simp)) (gd_name (by simp)), ed_var rfl⟩) rfl
end
end TC
namespace TC
open PySem PySem.Spec L2
open Evl (Ex)
local macro_rules | `(tactic| walk_at "nrm") => `(tactic| simp only [List.set_cons_zero, List.set_cons_succ, List.cons_append, List.nil_append, List.append_nil, wipeS])
abbrev s__law_marks : Stmt := topS 37
abbrev N__law_marks : List Str := ["_law_tiles_here", "_law_tile_here"]
theorem sc__law_marks : FnScope N__law_marks ["_law_tiles_here"] (defScope s__law_marks) := ⟨rfl, rfl, rfl, by decide +kernel, rfl, by decide +kernel, by decide +kernel⟩
section
variable {P : Program} {w : World} {K : PySem.W.Frag} {mg : Str → Option Value} {base : Heap}
theorem ok__law_marks (D : Def K mg "_law_marks" "_law_marks" s__law_marks ["_law_tiles_here"]) (m_sorted : mg "sorted" = none) (m_set : mg "set" = none) : Has CX0 P w K mg base 1 "_law_marks" ["_law_tiles_here"] (spF pre__law_marks) := by
  refine def_ok D sc__law_marks (spF_len pre__law_marks_len) fun f cdv A outer s H vs Q E hr h => ⟨_, (pss_one (ps_ret (pe_sortSet rfl (by rfl) m_sorted (by rfl) m_set (pe_op op_cat (pe_lc (own := [("_law_tile_here", 1)]) (g := (gName 1)) (tt := tYes) rfl sc__law_marks.nd (pi_listK (K := K) (pv 0)) (blkOk_by (own := [("_law_tile_here", 1)]) (N := N__law_marks) (sc := defScope s__law_marks) (by decide +kernel)) (fun _ _ _ _ _ => (pg_name (i := 1) sc__law_marks.nd rfl (.inl rfl))) (fun _ _ _ _ _ => pts_nil) (fun _ _ _ _ _ => (pe_ix (ix_tupK (K := K)) (pv 1) pe_int (fun _ _ => rfl)))) (pe_lc (own := [("_law_tile_here", 1)]) (g := (gName 1)) (tt := tYes) rfl sc__law_marks.nd (pi_listK (K := K) (pv 0)) (blkOk_by (own := [("_law_tile_here", 1)]) (N := N__law_marks) (sc := defScope s__law_marks) (by decide +kernel)) (fun _ _ _ _ _ => (pg_name (i := 1) sc__law_marks.nd rfl (.inl rfl))) (fun _ _ _ _ _ => pts_nil) (fun _ _ _ _ _ => (pe_ix (ix_tupK (K := K)) (pv 1) pe_int (fun _ _ => rfl)))))))), fn_sd h fun ss s hp => ?_⟩
  obtain ⟨tiles, ⟨hT, M, hM, hm⟩, rfl, rfl⟩ := hp
  refine sd_ret (α := List Int) (ed_sortSet (erl_sh (ed_cat (erl_sh (ed_map _ (id_list (ed_var rfl)) (by omega) fun y hy => ⟨_, gd_name (by simp), ed_t0 (α := Int) (β := Int) (ed_var rfl)⟩)) (erl_sh (ed_map _ (id_list (ed_var rfl)) (by omega) fun y hy => ⟨_, gd_name (by simp), ed_t1 (α := Int) (β := Int) (ed_var rfl)⟩)) (by rw [List.length_map, List.length_map]; omega))) (by rw [List.length_append, List.length_map, List.length_map]; omega) ⟨M, hM, fun k hk => ?_⟩) rfl
  rcases List.mem_append.mp hk with h | h
  · obtain ⟨t, h1, h2⟩ := List.mem_map.mp h
    rw [← h2]
    exact (hm t h1).1
  · obtain ⟨t, h1, h2⟩ := List.mem_map.mp h
    rw [← h2]
    exact (hm t h1).2
end
end TC
namespace TC
open PySem PySem.Spec L2
open Evl (Ex)
local macro_rules | `(tactic| walk_at "nrm") => `(tactic| simp only [List.set_cons_zero, List.set_cons_succ, List.cons_append, List.nil_append, List.append_nil, wipeS])
abbrev s__law_reached : Stmt := topS 38
abbrev N__law_reached : List Str := ["_law_tiles_here", "_law_start", "_law_reached_here", "_law_size", "_law_one", "_law_other"]
theorem sc__law_reached : FnScope N__law_reached ["_law_tiles_here", "_law_start"] (defScope s__law_reached) := ⟨rfl, rfl, rfl, by decide +kernel, rfl, by decide +kernel, by decide +kernel⟩
section
variable {P : Program} {w : World} {K : PySem.W.Frag} {mg : Str → Option Value} {base : Heap}
theorem ok__law_reached (D : Def K mg "_law_reached" "_law_reached" s__law_reached ["_law_tiles_here", "_law_start"]) (m_sorted : mg "sorted" = none) (m_len : mg "len" = none) : Has CX0 P w K mg base 1 "_law_reached" ["_law_tiles_here", "_law_start"] (spF pre__law_reached) := by
  refine def_ok D sc__law_reached (spF_len pre__law_reached_len) fun f cdv A outer s H vs Q E hr h => ⟨_, (pss_cons (ps_set (i := 2) sc__law_reached.nd rfl (.inl rfl) (pe_disp (pps_cons (pv 1) pe_bl pps_nil) rfl rfl (fun h => nomatch h) (by decide)))
 (pss_cons (ps_set (i := 3) sc__law_reached.nd rfl (.inl rfl) pe_int)
 (pss_cons (ps_while PassesOwn.never (pt_cmpR op_lt (pv 3) (pe_callB call_lenD (by rfl) m_len (by decide +kernel) (pa_cons (pv 2) pa_nil)) (nomark _)) (pss_cons (ps_set (i := 3) sc__law_reached.nd rfl (.inl rfl) (pe_callB call_lenD (by rfl) m_len (by decide +kernel) (pa_cons (pv 2) pa_nil)))
 (pss_one (ps_for PassesOwn.never rfl (pi_listK (K := K) (pv 0)) (pg_tupK (K := K) 2 rfl (pgs_cons (pg_name (i := 4) sc__law_reached.nd rfl (.inl rfl)) (pgs_cons (pg_name (i := 5) sc__law_reached.nd rfl (.inl rfl)) pgs_nil))) (pss_one (ps_if (PW.pt (pw_or (pt_cmp (pc_din (hu_of hr) (pv 4) (pv 2))) (pw_or1 (pt_cmp (pc_din (hu_of hr) (pv 5) (pv 2)))))) (pss_cons (ps_dput (hu_of hr) (pv 2) (pv 4) pe_bl rfl)
 (pss_one (ps_dput (hu_of hr) (pv 2) (pv 5) pe_bl rfl))) pss_nil))))))
 (pss_one (ps_ret (pe_callB (call_sortedDI rfl) (by rfl) m_sorted (by decide +kernel) (pa_cons (pv 2) pa_nil))))))), fn_sd h fun ss s hp => ?_⟩
  obtain ⟨tiles, a, hF, ha, rfl, rfl⟩ := hp
  have hM := lmarks_few hF
  refine sd_seq (sd_asgO (eo_dict1 (ed_var rfl) ed_bl) ?_)
  walk_at "nrm"
  refine sd_seq (sd_asg (α := Int) ed_int ?_)
  walk_at "nrm"
  have h0 : RInv tiles a [(a, true)] := ⟨List.nodup_cons.mpr ⟨(fun h => by cases h), List.nodup_nil⟩, List.mem_cons_self, fun k hk => by rw [List.mem_singleton.mp hk]; exact .refl⟩
  refine sd_seq (sd_while (fun n d => ∃ (m : List (Int × Bool)) (z : Nat) (y4 y5 : Slot), d = [.sh tiles, .sh a, od m, .sh (z : Int), y4, y5] ∧ RInv tiles a m ∧ n = (lmarks tiles).length - z ∧ z ≤ m.length ∧ (z = m.length → ∀ t ∈ tiles, t.1 ∈ keysM m ↔ t.2 ∈ keysM m)) _ ⟨_, 0, _, _, rfl, h0, rfl, Nat.zero_le _, fun h => by cases h⟩ (fun n d' hI => ?_))
  obtain ⟨m, z, y4, y5, rfl, hR, rfl, hz, hc⟩ := hI
  have hml := hR.len ha
  refine ⟨_, et_test (ed_b0 (ed_var rfl) (ed_lenD (erd_own rfl))), fun hb => ?_, fun hb => ?_⟩
  · have hb : z < m.length := by
      have := of_decide_eq_true hb
      omega
    refine sd_seq (sd_asg (α := Int) (ed_lenD (erd_own rfl)) ?_)
    walk_at "nrm"
    refine sd_forP (γ := Int × Int) [4, 5] (id_list (ed_var rfl)) (fun pre d => ∃ (m' : List (Int × Bool)) (y4 y5 : Slot), d = [.sh tiles, .sh a, od m', .sh (m.length : Int), y4, y5] ∧ RInv tiles a m' ∧ (m.length < m'.length ∨ (m'.length = m.length ∧ ∀ t ∈ pre, t.1 ∈ keysM m' ↔ t.2 ∈ keysM m')))
      ⟨m, _, _, rfl, hR, .inr ⟨rfl, fun t ht => by cases ht⟩⟩ (fun pre y post d' he hI => ?_) fun d' hI => ?_
    · obtain ⟨m', z4, z5, rfl, hR', hd⟩ := hI
      have my : y ∈ tiles := by rw [he]; simp
      have hml' := hR'.len ha
      refine ⟨_, gd_t2 (gd_name (by simp)) (gd_name (by simp)), ?_⟩
      walk_at "nrm"
      refine sd_if (et_or (et_B (ed_din (ed_var rfl) (erd_own rfl))) (fun _ => et_B (ed_din (ed_var rfl) (erd_own rfl)))) (fun hb => ?_) (fun hb => ?_)
      · rw [dget_isSome, dget_isSome] at hb
        have adj : Reach tiles y.1 y.2 := Reach.one (.inl my)
        have r12 : Reach tiles a y.1 ∧ Reach tiles a y.2 := by
          by_cases k1 : y.1 ∈ keysM m'
          · have r := hR'.rc _ k1
            exact ⟨r, r.trans adj⟩
          · by_cases k2 : y.2 ∈ keysM m'
            · have r := hR'.rc _ k2
              exact ⟨r.trans adj.symm, r⟩
            · rw [decide_eq_false k1, decide_eq_false k2] at hb
              cases hb
        have hl2 : (dput m' y.1 true).length ≤ m'.length + 1 := dput_len
        refine sd_seq (sd_dput rfl ed_bl (ed_var rfl) (by omega) ?_)
        walk_at "nrm"
        refine sd_dput (m := dput m' y.1 true) rfl ed_bl (ed_var rfl) (by omega) ?_
        refine ⟨_, _, _, rfl, (hR'.put r12.1).put r12.2, ?_⟩
        have g1 : m'.length ≤ (dput m' y.1 true).length := dput_ge
        have g2 : (dput m' y.1 true).length ≤ (dput (dput m' y.1 true) y.2 true).length := dput_ge
        rcases hd with hd | ⟨hd, hp⟩
        · exact .inl (by omega)
        · rcases dput_grow (m := m') (k := y.1) (v := true) with ⟨k1, e1⟩ | e1
          · rcases dput_grow (m := dput m' y.1 true) (k := y.2) (v := true) with ⟨k2, e2⟩ | e2
            · refine .inr ⟨by rw [← keys_len, e2, e1, keys_len]; exact hd, fun t ht => ?_⟩
              rw [e2, e1]
              rw [e1] at k2
              rcases List.mem_append.mp ht with h | h
              · exact hp t h
              · rw [List.mem_singleton.mp h]
                exact ⟨fun _ => k2, fun _ => k1⟩
            · exact .inl (by omega)
          · exact .inl (by omega)
      · rw [dget_isSome, dget_isSome] at hb
        refine sd_next ⟨m', _, _, rfl, hR', ?_⟩
        rcases hd with hd | ⟨hd, hp⟩
        · exact .inl hd
        · refine .inr ⟨hd, fun t ht => ?_⟩
          rcases List.mem_append.mp ht with h | h
          · exact hp t h
          · rw [List.mem_singleton.mp h]
            have k1 : ¬ y.1 ∈ keysM m' := fun k => by rw [decide_eq_true k] at hb; cases hb
            have k2 : ¬ y.2 ∈ keysM m' := fun k => by rw [decide_eq_true k, Bool.or_true] at hb; cases hb
            exact ⟨fun k => absurd k k1, fun k => absurd k k2⟩
    · obtain ⟨m', z4, z5, rfl, hR', hd⟩ := hI
      have hml' := hR'.len ha
      refine ⟨_, ?_, m', m.length, z4, z5, rfl, hR', rfl, ?_, fun e => ?_⟩
      · omega
      · omega
      · rcases hd with hd | ⟨hd, hp⟩
        · omega
        · exact hp
  · have hb : z = m.length := by
      have := of_decide_eq_false hb
      omega
    have e := hR.done ha (hc hb)
    exact sd_ret (α := List Int) (ed_sortD (erd_own rfl) (by omega)) (shc e).symm.symm
end
end TC
namespace TC
open PySem PySem.Spec L2
open Evl (Ex)
local macro_rules | `(tactic| walk_at "nrm") => `(tactic| simp only [List.set_cons_zero, List.set_cons_succ, List.cons_append, List.nil_append, List.append_nil, wipeS])
abbrev s__law_odds : Stmt := topS 40
abbrev N__law_odds : List Str := ["_law_tiles_here", "_law_ends", "_law_one", "_law_other", "_law_mark"]
theorem sc__law_odds : FnScope N__law_odds ["_law_tiles_here"] (defScope s__law_odds) := ⟨rfl, rfl, rfl, by decide +kernel, rfl, by decide +kernel, by decide +kernel⟩
section
variable {P : Program} {w : World} {K : PySem.W.Frag} {mg : Str → Option Value} {base : Heap}
theorem ok__law_odds (D : Def K mg "_law_odds" "_law_odds" s__law_odds ["_law_tiles_here"]) (m_sorted : mg "sorted" = none) : Has CX0 P w K mg base 1 "_law_odds" ["_law_tiles_here"] (spF pre__law_odds) := by
  refine def_ok D sc__law_odds (spF_len pre__law_odds_len) fun f cdv A outer s H vs Q E hr h => ⟨_, (pss_cons (ps_set (i := 1) sc__law_odds.nd rfl (.inr rfl) pe_dnewK)
 (pss_cons (ps_for PassesOwn.never rfl (pi_listK (K := K) (pv 0)) (pg_tupK (K := K) 2 rfl (pgs_cons (pg_name (i := 2) sc__law_odds.nd rfl (.inl rfl)) (pgs_cons (pg_name (i := 3) sc__law_odds.nd rfl (.inl rfl)) pgs_nil))) (pss_cons (ps_dput (hu_of hr) (pv 1) (pv 2) (pe_op op_sub pe_int (pe_dget2 (hu_of hr) (pv 1) (pv 2) pe_int ⟨rfl, rfl, rfl, rfl⟩)) rfl)
 (pss_one (ps_dput (hu_of hr) (pv 1) (pv 3) (pe_op op_sub pe_int (pe_dget2 (hu_of hr) (pv 1) (pv 3) pe_int ⟨rfl, rfl, rfl, rfl⟩)) rfl))))
 (pss_one (ps_ret (pe_lc (own := [("_law_mark", 4)]) (g := (gName 4)) rfl sc__law_odds.nd (pi_listK (K := K) (pe_callB (call_sortedDI rfl) (by rfl) m_sorted (by decide +kernel) (pa_cons (pv 1) pa_nil))) (blkOk_by (own := [("_law_mark", 4)]) (N := N__law_odds) (sc := defScope s__law_odds) (by decide +kernel)) (fun _ _ _ _ _ => (pg_name (i := 4) sc__law_odds.nd rfl (.inl rfl))) (fun _ _ _ _ _ => (pts_one (pt_cmpR op_eq (pe_dget (hu_of hr) (pv 1) (pv 4) (fun _ _ => rfl)) pe_int (nomark _)))) (fun _ _ _ _ _ => (pv 4))))))), fn_sd h fun ss s hp => ?_⟩
  obtain ⟨tiles, hF, rfl, rfl⟩ := hp
  have hT := hF.1
  have hM := lmarks_few hF
  refine sd_seq (sd_asgO (eo_dict (β := Int)) ?_)
  walk_at "nrm"
  refine sd_seq (sd_forP (γ := Int × Int) [2, 3] (id_list (ed_var rfl)) (fun pre d => ∃ y2 y3, d = [.sh tiles, od (pre.foldl ltog []), y2, y3, .un]) ⟨_, _, rfl⟩ (fun pre y post d' he hI => ?_) fun d' hI => ?_)
  · obtain ⟨y2, y3, rfl⟩ := hI
    have hpl : pre.length ≤ 1000 := by
      have h1 := congrArg List.length he
      rw [List.length_append] at h1
      omega
    have hl := ltog_len pre []
    rw [List.length_nil] at hl
    have hl2 : (ltog1 (pre.foldl ltog []) y.1).length ≤ (pre.foldl ltog []).length + 1 := dput_len
    refine ⟨_, gd_t2 (gd_name (by simp)) (gd_name (by simp)), ?_⟩
    walk_at "nrm"
    refine sd_seq (sd_dput rfl (ed_i0 ed_int (ed_dget2 (erd_own rfl) (ed_var rfl) ed_int)) (ed_var rfl) (by omega) ?_)
    walk_at "nrm"
    refine sd_dput (m := ltog1 (pre.foldl ltog []) y.1) rfl (ed_i0 ed_int (ed_dget2 (erd_own rfl) (ed_var rfl) ed_int)) (ed_var rfl) (by omega) ?_
    refine ⟨.sh y.1, .sh y.2, ?_⟩
    rw [List.foldl_append]
    rfl
  · obtain ⟨y2, y3, rfl⟩ := hI
    refine sd_ret (α := List Int) (ed_is (ed_lc (fun y => decide (deg tiles y % 2 = 1)) (fun y => y) (id_list (ed_is (ed_sortD (erd_own rfl) (ltog_few hF)) (ltog_sort tiles))) (by omega) fun y hy => ⟨_, gd_name (by simp), et_test (ed_eq (α := Int) (ed_dget (erd_own rfl) (ed_var rfl) (ltog_at hy)) ed_int), fun _ => ed_var rfl⟩) (List.map_id' _)) rfl
end
end TC
namespace TC
open PySem PySem.Spec L2
open Evl (Ex)
local macro_rules | `(tactic| walk_at "nrm") => `(tactic| simp only [List.set_cons_zero, List.set_cons_succ, List.cons_append, List.nil_append, List.append_nil, wipeS])
abbrev s_odd_marks : Stmt := topS 2
abbrev N_odd_marks : List Str := ["tiles", "mark", "many"]
theorem sc_odd_marks : FnScope N_odd_marks ["tiles"] (defScope s_odd_marks) := ⟨rfl, rfl, rfl, by decide +kernel, rfl, by decide +kernel, by decide +kernel⟩
section
variable {P : Program} {w : World} {K : PySem.W.Frag} {mg : Str → Option Value} {base : Heap}
theorem ok_odd_marks (D : Def K mg "odd_marks" "odd_marks" s_odd_marks ["tiles"]) (h_counts : Has CX0 P w K mg base 1 "counts" ["tiles"] (spF pre_counts)) : Has CX0 P w K mg base 2 "odd_marks" ["tiles"] (spF pre_odd_marks) := by
  refine def_ok D sc_odd_marks (spF_len pre_odd_marks_len) fun f cdv A outer s H vs Q E hr h => ⟨_, (pss_one (ps_ret (pe_lc (own := [("mark", 1), ("many", 2)]) (g := (gTup K 2 (gCons (gName 1) (gCons (gName 2) gNil)))) rfl sc_odd_marks.nd (pi_listK (K := K) (pe_has h_counts hr (by decide) (by rfl) pass0 (pa_cons (pv 0) pa_nil))) (blkOk_by (own := [("mark", 1), ("many", 2)]) (N := N_odd_marks) (sc := defScope s_odd_marks) (by decide +kernel)) (fun _ _ _ _ _ => (pg_tupK (K := K) 2 rfl (pgs_cons (pg_name (i := 1) sc_odd_marks.nd rfl (.inl rfl)) (pgs_cons (pg_name (i := 2) sc_odd_marks.nd rfl (.inl rfl)) pgs_nil)))) (fun _ _ _ _ _ => (pts_one (pt_cmpR op_eq (pe_op op_mod (pv 2) pe_int) pe_int (nomark _)))) (fun _ _ _ _ _ => (pv 1))))), fn_sd h fun ss s hp => ?_⟩
  obtain ⟨tiles, hT, rfl, rfl⟩ := hp
  have hm := lmarks_len tiles
  refine sd_ret (α := List Int) (ed_lc _ _ (id_list (ed_call (α := List (Int × Int)) (ea_cons (ed_var rfl) ea_nil) ⟨tiles, hT, rfl, rfl⟩)) (by rw [lcounts_is, List.length_map]; omega) fun y hy => ⟨_, gd_t2 (gd_name (by simp)) (gd_name (by simp)), et_test (ed_eq (α := Int) (ed_iC (ed_var rfl) ed_int (show (0 : Int) < 2 by decide)) ed_int), fun _ => ed_var rfl⟩) ?_
  exact shc (lodds_is tiles)
end
end TC
namespace TC
open PySem PySem.Spec L2
open Evl (Ex)
local macro_rules | `(tactic| walk_at "nrm") => `(tactic| simp only [List.set_cons_zero, List.set_cons_succ, List.cons_append, List.nil_append, List.append_nil, wipeS])
abbrev s_parts_of : Stmt := topS 4
abbrev N_parts_of : List Str := ["tiles", "heads", "found", "mark"]
theorem sc_parts_of : FnScope N_parts_of ["tiles"] (defScope s_parts_of) := ⟨rfl, rfl, rfl, by decide +kernel, rfl, by decide +kernel, by decide +kernel⟩
section
variable {P : Program} {w : World} {K : PySem.W.Frag} {mg : Str → Option Value} {base : Heap}
theorem ok_parts_of (D : Def K mg "parts_of" "parts_of" s_parts_of ["tiles"]) (h_heads_of : Has CX0 P w K mg base 1 "heads_of" ["tiles"] (spF pre_heads_of)) (m_sorted : mg "sorted" = none) (m_list : mg "list" = none) : Has CX0 P w K mg base 2 "parts_of" ["tiles"] (spF pre_parts_of) := by
  refine def_ok D sc_parts_of (spF_len pre_parts_of_len) fun f cdv A outer s H vs Q E hr h => ⟨_, (pss_cons (ps_set (i := 1) sc_parts_of.nd rfl (.inl rfl) (pe_has h_heads_of hr (by decide) (by rfl) pass0 (pa_cons (pv 0) pa_nil)))
 (pss_cons (ps_set (i := 2) sc_parts_of.nd rfl (.inl rfl) pe_dnewK)
 (pss_cons (ps_for PassesOwn.never rfl (pi_listK (K := K) (pe_callB (call_sortedDI rfl) (by rfl) m_sorted (by decide +kernel) (pa_cons (pv 1) pa_nil))) (pg_name (i := 3) sc_parts_of.nd rfl (.inl rfl)) (pss_one (ps_expr (pe_appK (K := K) (pe_dsetd (pv 2) (pe_dget (hu_of hr) (pv 1) (pv 3) (fun _ _ => rfl)) (pe_lst pa_nil) ⟨rfl, rfl, rfl, rfl⟩) (pv 3)))))
 (pss_one (ps_ret (pe_listVals rfl (by rfl) m_list (pv 2))))))), fn_sd h fun ss s hp => ?_⟩
  obtain ⟨tiles, hF, rfl, rfl⟩ := hp
  have hM := lmarks_few hF
  refine sd_seq (sd_asg (α := Dct Int) (ed_call (α := Dct Int) (ea_cons (ed_var rfl) ea_nil) ⟨tiles, hF, rfl, rfl⟩) ?_)
  walk_at "nrm"
  refine sd_seq (sd_asgO (eo_dictl (α := Int)) ?_)
  walk_at "nrm"
  have hl : (lheads tiles).length < 64 := by
    rw [← keys_len, lheads_keys, hkeys_len]
    exact hM
  refine sd_seq (sd_forP (γ := Int) [3] (id_list (ed_is (ed_sortD (erd_sh (ed_var rfl)) hl) (lheads_sort tiles))) (fun pre d => ∃ y3, d = [.sh tiles, .sh (Dct.mk (lheads tiles)), odl (grp (lhead tiles) pre), y3]) ⟨_, rfl⟩ (fun pre y post d' he hI => ?_) fun d' hI => ?_)
  · obtain ⟨y3, rfl⟩ := hI
    have my : y ∈ lmarks tiles := by rw [he]; simp
    have hpl : pre.length ≤ 64 := by
      have h1 := congrArg List.length he
      rw [List.length_append] at h1
      omega
    have hs := lmarks_lt tiles
    rw [he] at hs
    obtain ⟨s1, s2, s3⟩ := List.pairwise_append.mp hs
    have hlt : ∀ j ∈ pre, j < y := fun j hj => s3 j hj y List.mem_cons_self
    have inm : ∀ j ∈ pre, j ∈ lmarks tiles := fun j hj => by rw [he]; exact List.mem_append_left _ hj
    have hm : lhead tiles y ≠ y → lhead tiles y ∈ pre := fun hne => by
      have h1 := lhead_mark my
      have h2 := lhead_self my
      rw [he] at h1
      rcases List.mem_append.mp h1 with h1 | h1
      · exact h1
      · rcases List.mem_cons.mp h1 with e | h1
        · exact absurd e hne
        · have := (List.pairwise_cons.mp s2).1 _ h1
          omega
    have hgl := grp_len (lhead tiles) pre
    refine ⟨_, gd_name (by simp), ?_⟩
    walk_at "nrm"
    refine sd_setdApp rfl (ed_dget (erd_sh (ed_var rfl)) (ed_var rfl) (lheads_get my)) (fun m' => ed_var rfl) (by omega) (fun l hl => by have := grp_get hl; omega) ?_
    refine ⟨.sh y, ?_⟩
    rw [grp_step hlt (fun j hj => lhead_self (inm j hj)) (lhead_idem my) hm]
    rfl
  · obtain ⟨y3, rfl⟩ := hI
    refine sd_frzDL (i := 2) rfl ?_
    walk_at "nrm"
    exact sd_ret (α := List (List Int)) (ed_listVals (erd_sh (ed_var rfl))) (shc (grp_marks tiles).symm).symm
end
end TC
namespace TC
open PySem PySem.Spec L2
open Evl (Ex)
local macro_rules | `(tactic| walk_at "nrm") => `(tactic| simp only [List.set_cons_zero, List.set_cons_succ, List.cons_append, List.nil_append, List.append_nil, wipeS])
abbrev s_faces : Stmt := topS 10
abbrev N_faces : List Str := ["tiles", "step", "one", "other"]
theorem sc_faces : FnScope N_faces ["tiles", "step"] (defScope s_faces) := ⟨rfl, rfl, rfl, by decide +kernel, rfl, by decide +kernel, by decide +kernel⟩
section
variable {P : Program} {w : World} {K : PySem.W.Frag} {mg : Str → Option Value} {base : Heap}
theorem ok_faces {C_NoTile : Addr} (D : Def K mg "faces" "faces" s_faces ["tiles", "step"]) (c_NoTile : XC K mg "NoTile" C_NoTile) (h_is_number : Has CX0 P w K mg base 1 "is_number" ["tiles", "number"] (spF pre_is_number)) : Has (L2.CX P w) P w K mg base 2 "faces" ["tiles", "step"] (spX pre_faces bad_faces (.ref C_NoTile)) := by
  refine def_okX D sc_faces (spX_len pre_faces_len bad_faces_len) fun f cdv A outer s H vs Q E hr h => ⟨_, (pss_cons (ps_if (pt_not (pt_val (pe_has h_is_number hr (by decide) (by rfl) pass0 (pa_cons (pv 0) (pa_cons (pe_ix (ix_tupK (K := K)) (pv 1) pe_int (fun _ _ => rfl)) pa_nil))))) (pss_one (ps_raise rfl (takes_of rfl rfl rfl rfl) (pmk_own PySem.F.excBase_ValueError c_NoTile.xC c_NoTile.gC c_NoTile.kC (raises_own c_NoTile.bC c_NoTile.tC) (by rfl)))) pss_nil)
 (pss_cons (ps_asg (pe_ix (ix_listK (K := K)) (pv 0) (pe_ix (ix_tupK (K := K)) (pv 1) pe_int (fun _ _ => rfl)) (fun _ _ => rfl)) (pg_tupK (K := K) 2 rfl (pgs_cons (pg_name (i := 2) sc_faces.nd rfl (.inl rfl)) (pgs_cons (pg_name (i := 3) sc_faces.nd rfl (.inl rfl)) pgs_nil))))
 (pss_cons (ps_if (pt_val (pe_ix (ix_tupK (K := K)) (pv 1) pe_int (fun _ _ => rfl))) (pss_one (ps_ret (pe_tup (pa_cons (pv 3) (pa_cons (pv 2) pa_nil))))) pss_nil)
 (pss_one (ps_ret (pe_tup (pa_cons (pv 2) (pa_cons (pv 3) pa_nil)))))))), fn_sdX h (fun ss s hp => ?_) (fun ss hp => ?_)⟩
  · obtain ⟨tiles, st, hn, rfl, rfl⟩ := hp
    refine sd_seq (sd_if (et_not (et_B (ed_call (α := Bool) (a := isNum tiles st.1) (ea_cons (ed_var rfl) (ea_cons (ed_t0 (α := Int) (β := Bool) (ed_var rfl)) ea_nil)) ⟨tiles, st.1, rfl, rfl⟩))) (fun hb => ?_) (fun hb => ?_))
    · rw [hn] at hb
      cases hb
    refine sd_next ?_
    refine sd_seq (sd_asgT (vs := [2, 3]) (α := Int × Int) (a := tileAt tiles st.1) (ed_ixL (erl_sh (ed_var rfl)) (ed_t0 (α := Int) (β := Bool) (ed_var rfl)) (tileAt_at hn)) (gd_t2 (gd_name (by simp)) (gd_name (by simp))) ?_)
    walk_at "nrm"
    refine sd_seq (sd_if (et_B (ed_t1 (α := Int) (β := Bool) (ed_var rfl))) (fun hb => ?_) (fun hb => ?_))
    · refine sd_ret (α := Int × Int) (ed_tup2 (ed_var rfl) (ed_var rfl)) (shc ?_)
      unfold faceOf
      rw [if_pos hb]
    · refine sd_next ?_
      refine sd_ret (α := Int × Int) (ed_tup2 (ed_var rfl) (ed_var rfl)) (shc ?_)
      unfold faceOf
      rw [if_neg (by rw [hb]; exact Bool.false_ne_true)]
  · obtain ⟨tiles, st, hn, rfl⟩ := hp
    refine sd_seq (sd_if (et_not (et_B (ed_call (α := Bool) (a := isNum tiles st.1) (ea_cons (ed_var rfl) (ea_cons (ed_t0 (α := Int) (β := Bool) (ed_var rfl)) ea_nil)) ⟨tiles, st.1, rfl, rfl⟩))) (fun hb => ?_) (fun hb => ?_))
    · exact sd_raise fun H h => h
    · rw [hn] at hb
      cases hb
end
end TC
namespace TC
open PySem PySem.Spec L2
open Evl (Ex)
local macro_rules | `(tactic| walk_at "nrm") => `(tactic| simp only [List.set_cons_zero, List.set_cons_succ, List.cons_append, List.nil_append, List.append_nil, wipeS])
abbrev s__law_tiles : Stmt := topS 36
abbrev N__law_tiles : List Str := ["_law_parts", "_law_order_here", "_law_k"]
theorem sc__law_tiles : FnScope N__law_tiles ["_law_parts", "_law_order_here"] (defScope s__law_tiles) := ⟨rfl, rfl, rfl, by decide +kernel, rfl, by decide +kernel, by decide +kernel⟩
section
variable {P : Program} {w : World} {K : PySem.W.Frag} {mg : Str → Option Value} {base : Heap}
theorem ok__law_tiles (D : Def K mg "_law_tiles" "_law_tiles" s__law_tiles ["_law_parts", "_law_order_here"]) (h__law_tile : Has CX0 P w K mg base 1 "_law_tile" ["_law_part"] (spF pre__law_tile)) : Has CX0 P w K mg base 2 "_law_tiles" ["_law_parts", "_law_order_here"] (spF pre__law_tiles) := by
  refine def_ok D sc__law_tiles (spF_len pre__law_tiles_len) fun f cdv A outer s H vs Q E hr h => ⟨_, (pss_one (ps_ret (pe_lc (own := [("_law_k", 2)]) (g := (gName 2)) (tt := tYes) rfl sc__law_tiles.nd (pi_listK (K := K) (pv 1)) (blkOk_by (own := [("_law_k", 2)]) (N := N__law_tiles) (sc := defScope s__law_tiles) (by decide +kernel)) (fun _ _ _ _ _ => (pg_name (i := 2) sc__law_tiles.nd rfl (.inl rfl))) (fun _ _ _ _ _ => pts_nil) (fun _ _ _ _ _ => (pe_has h__law_tile hr (by decide) (by rfl) pass0 (pa_cons (pe_ix (ix_listK (K := K)) (pv 0) (pv 2) (fun _ _ => rfl)) pa_nil)))))), fn_sd h fun ss s hp => ?_⟩
  obtain ⟨parts, order, h1, h2, rfl, rfl⟩ := hp
  exact sd_ret (α := List (Int × Int)) (ed_map _ (id_list (ed_var rfl)) (by omega) fun y hy => ⟨_, gd_name (by simp), ed_call (α := Int × Int) (ea_cons (ed_ixL (erl_sh (ed_var rfl)) (ed_var rfl) (partAt_at (h2 y hy).1 (h2 y hy).2)) ea_nil) ⟨_, rfl, rfl⟩⟩) rfl
end
end TC
namespace TC
open PySem PySem.Spec L2
open Evl (Ex)
local macro_rules | `(tactic| walk_at "nrm") => `(tactic| simp only [List.set_cons_zero, List.set_cons_succ, List.cons_append, List.nil_append, List.append_nil, wipeS])
abbrev s__law_groups : Stmt := topS 39
abbrev N__law_groups : List Str := ["_law_tiles_here", "_law_found", "_law_left", "_law_group", "_law_mark"]
theorem sc__law_groups : FnScope N__law_groups ["_law_tiles_here"] (defScope s__law_groups) := ⟨rfl, rfl, rfl, by decide +kernel, rfl, by decide +kernel, by decide +kernel⟩
section
variable {P : Program} {w : World} {K : PySem.W.Frag} {mg : Str → Option Value} {base : Heap}
theorem ok__law_groups (D : Def K mg "_law_groups" "_law_groups" s__law_groups ["_law_tiles_here"]) (h__law_marks : Has CX0 P w K mg base 1 "_law_marks" ["_law_tiles_here"] (spF pre__law_marks)) (h__law_reached : Has CX0 P w K mg base 1 "_law_reached" ["_law_tiles_here", "_law_start"] (spF pre__law_reached)) : Has CX0 P w K mg base 2 "_law_groups" ["_law_tiles_here"] (spF pre__law_groups) := by
  refine def_ok D sc__law_groups (spF_len pre__law_groups_len) fun f cdv A outer s H vs Q E hr h => ⟨_, (pss_cons (ps_set (i := 1) sc__law_groups.nd rfl (.inl rfl) (pe_lst pa_nil))
 (pss_cons (ps_set (i := 2) sc__law_groups.nd rfl (.inl rfl) (pe_has h__law_marks hr (by decide) (by rfl) pass0 (pa_cons (pv 0) pa_nil)))
 (pss_cons (ps_while PassesOwn.never (pt_cmpR (op_neDK (K := K) hr.units) (pv 2) (pe_lst pa_nil) (nomark _)) (pss_cons (ps_set (i := 3) sc__law_groups.nd rfl (.inr rfl) (pe_has h__law_reached hr (by decide) (by rfl) pass0 (pa_cons (pv 0) (pa_cons (pe_ix (ix_listK (K := K)) (pv 2) pe_int (fun _ _ => rfl)) pa_nil))))
 (pss_cons (ps_expr (pe_appK (K := K) (pv 1) (pv 3)))
 (pss_one (ps_setLc (i := 2) (own := [("_law_mark", 4)]) (g := (gName 4)) rfl sc__law_groups.nd rfl rfl (sw_true rfl rfl rfl (by decide +kernel)) (pi_listK (K := K) (pv 2)) (blkOk_by (own := [("_law_mark", 4)]) (N := N__law_groups) (sc := defScope s__law_groups) (by decide +kernel)) (fun _ _ _ _ _ => (pg_name (i := 4) sc__law_groups.nd rfl (.inl rfl))) (fun _ _ _ _ _ => (pts_one (pt_cmpR (op_notinK (K := K)) (pv 4) (pv 3) (by with_unfolding_all rfl)))) (fun _ _ _ _ _ => (pv 4)))))))
 (pss_one (ps_ret (pv 1)))))), fn_sd h fun ss s hp => ?_⟩
  obtain ⟨tiles, hF, rfl, rfl⟩ := hp
  have hM := lmarks_few hF
  refine sd_seq (sd_asgO (eo_lst (α := List Int) eas_nil) ?_)
  walk_at "nrm"
  refine sd_seq (sd_asg (α := List Int) (ed_call (α := List Int) (ea_cons (ed_var rfl) ea_nil) ⟨tiles, hF, rfl, rfl⟩) ?_)
  walk_at "nrm"
  refine sd_seq (sd_while (fun n d => ∃ (pre rest : List Int) (y3 : Slot), d = [.sh tiles, ol (pre.map (lreach tiles)), .sh (lrest tiles rest), y3, .un] ∧ lfirsts tiles = pre ++ rest ∧ n = rest.length) _ ⟨[], lfirsts tiles, _, by rw [lrest_all]; rfl, rfl, rfl⟩ (fun n d' hI => ?_))
  obtain ⟨pre, rest, y3, rfl, he, rfl⟩ := hI
  refine ⟨_, et_test (ed_neD (α := List Int) (ed_var rfl) (ed_lst eas_nil)), fun hb => ?_, fun hb => ?_⟩
  · cases rest with
    | nil =>
      rw [lrest_nil, decide_eq_true rfl] at hb
      cases hb
    | cons L rest =>
      obtain ⟨h1, h2⟩ := lrest_cons he
      have hL : L ∈ lfirsts tiles := by rw [he]; simp
      have hpl : pre.length ≤ 64 := by
        have := congrArg List.length he
        have h3 : (lfirsts tiles).length ≤ (lmarks tiles).length := List.length_filter_le _ _
        rw [List.length_append] at this
        omega
      refine sd_seq (sd_asg (α := List Int) (ed_call (α := List Int) (ea_cons (ed_var rfl) (ea_cons (ed_ixL (erl_sh (ed_var rfl)) ed_int (atI_nat (j := 0) h1)) ea_nil)) ⟨tiles, L, hF, (mem_lfirsts.mp hL).1, rfl, rfl⟩) ?_)
      walk_at "nrm"
      refine sd_seq (sd_app (α := List Int) rfl (ed_var rfl) (by rw [List.length_map]; omega) ?_)
      walk_at "nrm"
      have h5 : (lrest tiles (L :: rest)).length ≤ 900000 := by
        have : (lrest tiles (L :: rest)).length ≤ (lmarks tiles).length := List.length_filter_le _ _
        omega
      refine sd_asg (α := List Int) (a := lrest tiles rest) (ed_is (ed_lc _ _ (id_list (ed_var rfl)) h5 fun y hy => ⟨_, gd_name (by simp), et_test (ed_notin (ed_var rfl) (erl_sh (ed_var rfl))), fun _ => ed_var rfl⟩) ((List.map_id' _).trans h2)) ?_
      refine ⟨rest.length, by rw [List.length_cons]; omega, pre ++ [L], rest, .sh (lreach tiles L), ?_, by rw [he, List.append_assoc]; rfl, rfl⟩
      rw [List.map_append]
      rfl
  · cases rest with
    | cons L rest =>
      obtain ⟨h1, _⟩ := lrest_cons he
      have : lrest tiles (L :: rest) ≠ [] := fun z => by rw [z] at h1; cases h1
      rw [decide_eq_false this] at hb
      cases hb
    | nil =>
      rw [List.append_nil] at he
      refine sd_frzL (i := 1) rfl ?_
      walk_at "nrm"
      refine sd_ret (α := List (List Int)) (ed_var rfl) (shc ?_)
      rw [← he]
      rfl
end
end TC
namespace TC
open PySem PySem.Spec L2
open Evl (Ex)
local macro_rules | `(tactic| walk_at "nrm") => `(tactic| simp only [List.set_cons_zero, List.set_cons_succ, List.cons_append, List.nil_append, List.append_nil, wipeS])
abbrev s__law_alike : Stmt := topS 41
abbrev N__law_alike : List Str := ["_law_found", "_law_due", "_law_mark"]
theorem sc__law_alike : FnScope N__law_alike ["_law_found", "_law_due"] (defScope s__law_alike) := ⟨rfl, rfl, rfl, by decide +kernel, rfl, by decide +kernel, by decide +kernel⟩
section
variable {P : Program} {w : World} {K : PySem.W.Frag} {mg : Str → Option Value} {base : Heap}
theorem ok__law_alike (D : Def K mg "_law_alike" "_law_alike" s__law_alike ["_law_found", "_law_due"]) (h__law_whole : Has CX0 P w K mg base 1 "_law_whole" ["_law_found"] (spF pre__law_whole)) (m_isinstance : mg "isinstance" = none) (m_list : mg "list" = none) (m_len : mg "len" = none) : Has CX0 P w K mg base 2 "_law_alike" ["_law_found", "_law_due"] (spF pre__law_alike) := by
  refine def_ok D sc__law_alike (spF_len pre__law_alike_len) fun f cdv A outer s H vs Q E hr h => ⟨_, (pss_cons (ps_if (PW.pt (pw_or (pt_not (pt_val (pe_callB (call_isiK1 (K := K)) (by rfl) m_isinstance (by decide +kernel) (pa_cons (pv 0) (pa_cons (pe_bltn (v := .ty "list") (by rfl) m_list (by decide +kernel) rfl) pa_nil))))) (pw_or1 (pt_cmpR op_ne (pe_callB (call_lenK (K := K)) (by rfl) m_len (by decide +kernel) (pa_cons (pv 0) pa_nil)) (pe_callB (call_lenK (K := K)) (by rfl) m_len (by decide +kernel) (pa_cons (pv 1) pa_nil)) (nomark _))))) (pss_one (ps_ret pe_bl)) pss_nil)
 (pss_one (ps_ret (pe_and (pe_cmpR (op_eqDK (K := K) hr.units) (pe_lc (own := [("_law_mark", 2)]) (g := (gName 2)) rfl sc__law_alike.nd (pi_listK (K := K) (pv 0)) (blkOk_by (own := [("_law_mark", 2)]) (N := N__law_alike) (sc := defScope s__law_alike) (by decide +kernel)) (fun _ _ _ _ _ => (pg_name (i := 2) sc__law_alike.nd rfl (.inl rfl))) (fun _ _ _ _ _ => (pts_one (pt_not (pt_val (pe_has h__law_whole hr (by decide) (by rfl) pass0 (pa_cons (pv 2) pa_nil)))))) (fun _ _ _ _ _ => (pv 2))) (pe_lst pa_nil) (nomark _)) (pe_one (pe_cmpR (op_eqDK (K := K) hr.units) (pv 0) (pv 1) (nomark _))))))), fn_sd h fun ss s hp => ?_⟩
  obtain ⟨found, hf, rfl, rfl⟩ := hp
  refine sd_seq (sd_if (et_or (et_not (et_B (ed_isi (α := List Int) (b := true) (ed_var rfl) (by decide +kernel)))) (fun _ => (et_test (ed_ne (α := Int) (ed_len (erl_sh (ed_var rfl))) (ed_len (erl_sh (ed_var rfl))))))) (fun hb => ?_) (fun hb => ?_))
  · rw [decide_eq_true rfl] at hb
    cases hb
  refine sd_next ?_
  have e : (found.filter fun _ => !true).map (fun y => y) = [] := by simp
  refine sd_ret (α := Bool) (ed_andV (ed_eqD (α := List Int) (ed_lc (fun _ => !true) (fun y => y) (id_list (ed_var rfl)) hf fun y hy => ⟨_, gd_name (by simp), et_not (et_B (ed_call (α := Bool) (ea_cons (ed_var rfl) ea_nil) ⟨y, rfl, rfl⟩)), fun _ => ed_var rfl⟩) (ed_lst eas_nil)) (fun _ => ed_eqD (α := List Int) (ed_var rfl) (ed_var rfl))) ?_
  refine shc ?_
  rw [e, decide_eq_true rfl, decide_eq_true rfl]
  rfl
end
end TC
namespace TC
open PySem PySem.Spec L2
open Evl (Ex)
local macro_rules | `(tactic| walk_at "nrm") => `(tactic| simp only [List.set_cons_zero, List.set_cons_succ, List.cons_append, List.nil_append, List.append_nil, wipeS])
abbrev s__law_step : Stmt := topS 43
abbrev N__law_step : List Str := ["_law_step_here", "_law_many"]
theorem sc__law_step : FnScope N__law_step ["_law_step_here", "_law_many"] (defScope s__law_step) := ⟨rfl, rfl, rfl, by decide +kernel, rfl, by decide +kernel, by decide +kernel⟩
section
variable {P : Program} {w : World} {K : PySem.W.Frag} {mg : Str → Option Value} {base : Heap}
theorem ok__law_step (D : Def K mg "_law_step" "_law_step" s__law_step ["_law_step_here", "_law_many"]) (h__law_whole : Has CX0 P w K mg base 1 "_law_whole" ["_law_found"] (spF pre__law_whole)) (m_isinstance : mg "isinstance" = none) (m_bool : mg "bool" = none) (m_tuple : mg "tuple" = none) (m_len : mg "len" = none) : Has CX0 P w K mg base 2 "_law_step" ["_law_step_here", "_law_many"] (spF pre__law_step) := by
  refine def_ok D sc__law_step (spF_len pre__law_step_len) fun f cdv A outer s H vs Q E hr h => ⟨_, (pss_cons (ps_if (PW.pt (pw_or (pt_not (pt_val (pe_callB (call_isiK1 (K := K)) (by rfl) m_isinstance (by decide +kernel) (pa_cons (pv 0) (pa_cons (pe_bltn (v := .ty "tuple") (by rfl) m_tuple (by decide +kernel) rfl) pa_nil))))) (pw_or1 (pt_cmpR op_ne (pe_callB (call_lenK (K := K)) (by rfl) m_len (by decide +kernel) (pa_cons (pv 0) pa_nil)) pe_int (nomark _))))) (pss_one (ps_ret pe_bl)) pss_nil)
 (pss_one (ps_ret (pe_and (pe_has h__law_whole hr (by decide) (by rfl) pass0 (pa_cons (pe_ix (ix_tupK (K := K)) (pv 0) pe_int (fun _ _ => rfl)) pa_nil)) (pe_and (pe_callB (call_isiK1 (K := K)) (by rfl) m_isinstance (by decide +kernel) (pa_cons (pe_ix (ix_tupK (K := K)) (pv 0) pe_int (fun _ _ => rfl)) (pa_cons (pe_bltn (v := .ty "bool") (by rfl) m_bool (by decide +kernel) rfl) pa_nil))) (pe_one (pe_chain op_le op_lt pe_int (pe_ix (ix_tupK (K := K)) (pv 0) pe_int (fun _ _ => rfl)) (pv 1)))))))), fn_sd h fun ss s hp => ?_⟩
  obtain ⟨st, many, h1, h2, rfl, rfl⟩ := hp
  refine sd_seq (sd_if (et_or (et_not (et_B (ed_isi (α := Int × Bool) (b := true) (ed_var rfl) (by decide +kernel)))) (fun _ => (et_test (ed_ne (α := Int) (ed_lenT2 (α := Int) (β := Bool) (ed_var rfl)) ed_int)))) (fun hb => ?_) (fun hb => ?_))
  · cases hb
  refine sd_next ?_
  refine sd_ret (α := Bool) (ed_andV (ed_call (α := Bool) (a := true) (ea_cons (ed_t0 (α := Int) (β := Bool) (ed_var rfl)) ea_nil) ⟨st.1, rfl, rfl⟩) (fun _ => (ed_andV (ed_isi (α := Bool) (b := true) (ed_t1 (α := Int) (β := Bool) (ed_var rfl)) (by decide +kernel)) (fun _ => (ed_chain (g := fun i j => decide (i ≤ j)) (g' := fun i j => decide (i < j)) ed_int (ed_t0 (α := Int) (β := Bool) (ed_var rfl)) (ed_var rfl)))))) (shc ?_)
  rw [decide_eq_true h1, decide_eq_true h2]
  rfl
end
end TC
namespace TC
open PySem PySem.Spec L2
open Evl (Ex)
local macro_rules | `(tactic| walk_at "nrm") => `(tactic| simp only [List.set_cons_zero, List.set_cons_succ, List.cons_append, List.nil_append, List.append_nil, wipeS])
abbrev s__law_priced : Stmt := topS 45
abbrev N__law_priced : List Str := ["_law_tiles_here", "_law_row", "_law_found", "_law_prices", "_law_told", "_law_number", "_law_turned", "_law_more"]
theorem sc__law_priced : FnScope N__law_priced ["_law_tiles_here", "_law_row", "_law_found"] (defScope s__law_priced) := ⟨rfl, rfl, rfl, by decide +kernel, rfl, by decide +kernel, by decide +kernel⟩
section
variable {P : Program} {w : World} {K : PySem.W.Frag} {mg : Str → Option Value} {base : Heap}
theorem ok__law_priced (D : Def K mg "_law_priced" "_law_priced" s__law_priced ["_law_tiles_here", "_law_row", "_law_found"]) (h__law_marks : Has CX0 P w K mg base 1 "_law_marks" ["_law_tiles_here"] (spF pre__law_marks)) (h__law_whole : Has CX0 P w K mg base 1 "_law_whole" ["_law_found"] (spF pre__law_whole)) (m_isinstance : mg "isinstance" = none) (m_list : mg "list" = none) (m_tuple : mg "tuple" = none) (m_len : mg "len" = none) : Has CX0 P w K mg base 2 "_law_priced" ["_law_tiles_here", "_law_row", "_law_found"] (spF pre__law_priced) := by
  refine def_ok D sc__law_priced (spF_len pre__law_priced_len) fun f cdv A outer s H vs Q E hr h => ⟨_, (pss_cons (ps_if (pt_not (pt_val (pe_callB (call_isiK1 (K := K)) (by rfl) m_isinstance (by decide +kernel) (pa_cons (pv 2) (pa_cons (pe_bltn (v := .ty "list") (by rfl) m_list (by decide +kernel) rfl) pa_nil))))) (pss_one (ps_ret pe_bl)) pss_nil)
 (pss_cons (ps_set (i := 3) sc__law_priced.nd rfl (.inl rfl) pe_dnewK)
 (pss_cons (ps_for PassesOwn.never rfl (pi_listK (K := K) (pv 2)) (pg_name (i := 4) sc__law_priced.nd rfl (.inl rfl)) (pss_cons (ps_if (PW.pt (pw_or (pt_not (pt_val (pe_callB (call_isiK1 (K := K)) (by rfl) m_isinstance (by decide +kernel) (pa_cons (pv 4) (pa_cons (pe_bltn (v := .ty "tuple") (by rfl) m_tuple (by decide +kernel) rfl) pa_nil))))) (pw_or (pt_cmpR op_ne (pe_callB (call_lenK (K := K)) (by rfl) m_len (by decide +kernel) (pa_cons (pv 4) pa_nil)) pe_int (nomark _)) (pw_or (pt_not (pt_val (pe_has h__law_whole hr (by decide) (by rfl) pass0 (pa_cons (pe_ix (ix_tupK (K := K)) (pv 4) pe_int (fun _ _ => rfl)) pa_nil)))) (pw_or1 (pt_not (pt_val (pe_has h__law_whole hr (by decide) (by rfl) pass0 (pa_cons (pe_ix (ix_tupK (K := K)) (pv 4) pe_int (fun _ _ => rfl)) pa_nil))))))))) (pss_one (ps_ret pe_bl)) pss_nil)
 (pss_one (ps_dput (hu_of hr) (pv 3) (pe_ix (ix_tupK (K := K)) (pv 4) pe_int (fun _ _ => rfl)) (pe_ix (ix_tupK (K := K)) (pv 4) pe_int (fun _ _ => rfl)) rfl))))
 (pss_cons (ps_if (pt_cmpR (op_neDK (K := K) hr.units) (pe_lc (own := [("_law_told", 4)]) (g := (gName 4)) (tt := tYes) rfl sc__law_priced.nd (pi_listK (K := K) (pv 2)) (blkOk_by (own := [("_law_told", 4)]) (N := N__law_priced) (sc := defScope s__law_priced) (by decide +kernel)) (fun _ _ _ _ _ => (pg_name (i := 4) sc__law_priced.nd rfl (.inl rfl))) (fun _ _ _ _ _ => pts_nil) (fun _ _ _ _ _ => (pe_ix (ix_tupK (K := K)) (pv 4) pe_int (fun _ _ => rfl)))) (pe_has h__law_marks hr (by decide) (by rfl) pass0 (pa_cons (pv 0) pa_nil)) (nomark _)) (pss_one (ps_ret pe_bl)) pss_nil)
 (pss_cons (ps_for PassesOwn.never rfl (pi_listK (K := K) (pv 1)) (pg_tupK (K := K) 2 rfl (pgs_cons (pg_name (i := 5) sc__law_priced.nd rfl (.inl rfl)) (pgs_cons (pg_name (i := 6) sc__law_priced.nd rfl (.inl rfl)) pgs_nil))) (pss_cons (ps_set (i := 7) sc__law_priced.nd rfl (.inl rfl) (pe_op op_sub (pe_dget (hu_of hr) (pv 3) (pe_ix (ix_tupK (K := K)) (pe_ix (ix_listK (K := K)) (pv 0) (pv 5) (fun _ _ => rfl)) pe_int (fun _ _ => rfl)) (fun _ _ => rfl)) (pe_dget (hu_of hr) (pv 3) (pe_ix (ix_tupK (K := K)) (pe_ix (ix_listK (K := K)) (pv 0) (pv 5) (fun _ _ => rfl)) pe_int (fun _ _ => rfl)) (fun _ _ => rfl))))
 (pss_one (ps_if (PW.pt (pw_or (PW.pt (pw_and (pt_val (pv 6)) (pw_and1 (pt_cmpR op_lt (pv 7) pe_int (nomark _))))) (pw_or1 (PW.pt (pw_and (pt_not (pt_val (pv 6))) (pw_and1 (pt_cmpR op_gt (pv 7) pe_int (nomark _)))))))) (pss_one (ps_ret pe_bl)) pss_nil))))
 (pss_one (ps_ret pe_bl))))))), fn_sd h fun ss s hp => ?_⟩
  obtain ⟨T, row, P0, hF, hfit, rfl, rfl⟩ := hp
  have hM := lmarks_few hF
  have hlp : (lpp T P0).length < 64 := by
    unfold lpp
    rw [List.length_map]
    exact hM
  have hfst := lpp_fst T P0
  have hmem : ∀ y ∈ lpp T P0, y.2 = P0 y.1 := fun y hy => lpp_mem hy
  have hmk : ∀ k ∈ lmarks T, ∃ y ∈ lpp T P0, y.1 = k := fun k hk => by
    rw [← hfst] at hk
    exact List.mem_map.mp hk
  generalize lpp T P0 = ps at *
  refine sd_seq (sd_if (et_not (et_B (ed_isi (α := List (Int × Int)) (b := true) (ed_var rfl) (by decide +kernel)))) (fun hb => ?_) (fun hb => ?_))
  · cases hb
  refine sd_next ?_
  refine sd_seq (sd_asgO (eo_dict (β := Int)) ?_)
  walk_at "nrm"
  refine sd_seq (sd_forP (γ := Int × Int) [4] (id_list (ed_var rfl)) (fun pre d => ∃ (m : List (Int × Int)) (y4 : Slot), d = [.sh T, .sh row, .sh ps, od m, y4, .un, .un, .un] ∧ m.length ≤ pre.length ∧ ∀ p ∈ pre, dget m p.1 = some (P0 p.1)) ⟨[], _, rfl, Nat.zero_le _, fun p hp => by cases hp⟩ (fun pre y post d' he hI => ?_) fun d' hI => ?_)
  · obtain ⟨m, y4, rfl, hml, hmd⟩ := hI
    have hpl : pre.length ≤ 64 := by
      have h1 := congrArg List.length he
      rw [List.length_append] at h1
      omega
    have hy := hmem y (by rw [he]; simp)
    refine ⟨_, gd_name (by simp), ?_⟩
    walk_at "nrm"
    refine sd_seq (sd_if (et_or (et_not (et_B (ed_isi (α := Int × Int) (b := true) (ed_var rfl) (by decide +kernel)))) (fun _ => (et_or (et_test (ed_ne (α := Int) (ed_lenT2 (α := Int) (β := Int) (ed_var rfl)) ed_int)) (fun _ => (et_or (et_not (et_B (ed_call (α := Bool) (a := true) (ea_cons (ed_t0 (α := Int) (β := Int) (ed_var rfl)) ea_nil) ⟨_, rfl, rfl⟩))) (fun _ => (et_not (et_B (ed_call (α := Bool) (a := true) (ea_cons (ed_t1 (α := Int) (β := Int) (ed_var rfl)) ea_nil) ⟨_, rfl, rfl⟩))))))))) (fun hb => ?_) (fun hb => ?_))
    · cases hb
    refine sd_next ?_
    refine sd_dput rfl (ed_t1 (α := Int) (β := Int) (ed_var rfl)) (ed_t0 (α := Int) (β := Int) (ed_var rfl)) (by omega) ?_
    refine ⟨dput m y.1 y.2, _, rfl, ?_, fun p hp => ?_⟩
    · have h3 : (dput m y.1 y.2).length ≤ m.length + 1 := dput_len
      rw [List.length_append, List.length_singleton]
      omega
    · rw [dget_dput]
      by_cases c : p.1 = y.1
      · rw [if_pos c, hy, c]
      · rw [if_neg c]
        rcases List.mem_append.mp hp with q | q
        · exact hmd p q
        · rw [List.mem_singleton.mp q] at c
          exact absurd rfl c
  obtain ⟨m, y4, rfl, hml, hmd⟩ := hI
  have hget : ∀ k ∈ lmarks T, dget m k = some (P0 k) := fun k hk => by
    obtain ⟨y, h1, h2⟩ := hmk k hk
    rw [← h2]
    exact hmd y h1
  refine sd_seq (sd_if (et_test (ed_neD (α := List Int) (ed_map _ (id_list (ed_var rfl)) (by omega) fun y hy => ⟨_, gd_name (by simp), ed_t0 (α := Int) (β := Int) (ed_var rfl)⟩) (ed_call (α := List Int) (a := lmarks T) (ea_cons (ed_var rfl) ea_nil) ⟨T, hF, rfl, rfl⟩))) (fun hb => ?_) (fun hb => ?_))
  · rw [decide_eq_true hfst] at hb
    cases hb
  refine sd_next ?_
  refine sd_seq (sd_forP (γ := Int × Bool) [5, 6] (id_list (ed_var rfl)) (fun pre d => ∃ (y4 y5 y6 y7 : Slot), d = [.sh T, .sh row, .sh ps, od m, y4, y5, y6, y7]) ⟨_, _, _, _, rfl⟩ (fun pre y post d' he hI => ?_) fun d' hI => ?_)
  · obtain ⟨y4, y5, y6, y7, rfl⟩ := hI
    obtain ⟨f1, f2, f3⟩ := hfit y (by rw [he]; simp)
    have hat := tileAt_at f1
    have hin := tile_in f1
    have g1 := hget _ (mem_lmarks.mpr ⟨_, hin, .inl rfl⟩)
    have g2 := hget _ (mem_lmarks.mpr ⟨_, hin, .inr rfl⟩)
    refine ⟨_, gd_t2 (gd_name (by simp)) (gd_name (by simp)), ?_⟩
    walk_at "nrm"
    refine sd_seq (sd_asg (α := Int) (a := P0 (tileAt T y.1).2 - P0 (tileAt T y.1).1) (ed_i0 (ed_dget (erd_own rfl) (ed_t1 (α := Int) (β := Int) (ed_ixL (erl_sh (ed_var rfl)) (ed_var rfl) hat)) g2) (ed_dget (erd_own rfl) (ed_t0 (α := Int) (β := Int) (ed_ixL (erl_sh (ed_var rfl)) (ed_var rfl) hat)) g1)) ?_)
    walk_at "nrm"
    generalize P0 (tileAt T y.1).2 - P0 (tileAt T y.1).1 = more at *
    refine sd_if (et_or (et_and (et_B (ed_var rfl)) (fun _ => (et_test (ed_b0 (g := fun i j => decide (i < j)) (ed_var rfl) ed_int)))) (fun _ => (et_and (et_not (et_B (ed_var rfl))) (fun _ => (et_test (ed_b0 (g := fun i j => decide (i > j)) (ed_var rfl) ed_int)))))) (fun hb => ?_) (fun hb => ?_)
    · exfalso
      cases hy : y.2 with
      | true =>
        have := f2 hy
        rw [hy, decide_eq_false (by omega : ¬ more < 1)] at hb
        cases hb
      | false =>
        have := f3 hy
        rw [hy, decide_eq_false (by omega : ¬ more > 1)] at hb
        cases hb
    · exact sd_next ⟨_, _, _, _, rfl⟩
  · obtain ⟨y4, y5, y6, y7, rfl⟩ := hI
    exact sd_ret (α := Bool) ed_bl rfl
end
end TC
namespace TC
open PySem PySem.Spec L2
open Evl (Ex)
local macro_rules | `(tactic| walk_at "nrm") => `(tactic| simp only [List.set_cons_zero, List.set_cons_succ, List.cons_append, List.nil_append, List.append_nil, wipeS])
abbrev s__law_drawn : Stmt := topS 47
abbrev N__law_drawn : List Str := ["_law_numbers_here", "_law_names_here", "_law_aside", "_law_half", "_law_some", "_law_parts", "_law_share", "_law_k"]
theorem sc__law_drawn : FnScope N__law_drawn ["_law_numbers_here", "_law_names_here", "_law_aside"] (defScope s__law_drawn) := ⟨rfl, rfl, rfl, by decide +kernel, rfl, by decide +kernel, by decide +kernel⟩
section
variable {P : Program} {w : World} {K : PySem.W.Frag} {mg : Str → Option Value} {base : Heap}
theorem ok__law_drawn (D : Def K mg "_law_drawn" "_law_drawn" s__law_drawn ["_law_numbers_here", "_law_names_here", "_law_aside"]) (h__law_walk : Has CX0 P w K mg base 1 "_law_walk" ["_law_numbers_here", "_law_names_here", "_law_closed"] (spF pre__law_walk)) (m_len : mg "len" = none) (m_range : mg "range" = none) (m_max : mg "max" = none) : Has CX0 P w K mg base 2 "_law_drawn" ["_law_numbers_here", "_law_names_here", "_law_aside"] (spF pre__law_drawn) := by
  refine def_ok D sc__law_drawn (spF_len pre__law_drawn_len) fun f cdv A outer s H vs Q E hr h => ⟨_, (pss_cons (ps_if (pt_cmpR op_eq (pe_op op_mod (pv 2) pe_int) pe_int (nomark _)) (pss_cons (ps_set (i := 3) sc__law_drawn.nd rfl (.inl rfl) (pe_op op_fdiv (pe_callB (call_lenK (K := K)) (by rfl) m_len (by decide +kernel) (pa_cons (pv 1) pa_nil)) pe_int))
 (pss_cons (ps_set (i := 4) sc__law_drawn.nd rfl (.inl rfl) (pe_op op_fdiv (pe_callB (call_lenK (K := K)) (by rfl) m_len (by decide +kernel) (pa_cons (pv 0) pa_nil)) pe_int))
 (pss_cons (ps_set (i := 5) sc__law_drawn.nd rfl (.inr rfl) (pe_has h__law_walk hr (by decide) (by rfl) pass0 (pa_cons (pe_slice (sl_listK (K := K)) (pv 0) po_none (po_some (pv 4))) (pa_cons (pe_slice (sl_listK (K := K)) (pv 1) (po_some (pv 3)) po_none) (pa_cons (pe_cmpR op_eq (pe_op op_mod (pe_op op_fdiv (pv 2) pe_int) pe_int) pe_int (nomark _)) pa_nil)))))
 (pss_one (ps_ret (pe_op op_cat (pv 5) (pe_has h__law_walk hr (by decide) (by rfl) pass0 (pa_cons (pe_slice (sl_listK (K := K)) (pv 0) (po_some (pv 4)) po_none) (pa_cons (pe_slice (sl_listK (K := K)) (pe_op op_cat (pe_slice (sl_listK (K := K)) (pv 1) po_none (po_some (pv 3))) (pv 1)) po_none (po_some (pe_callB (call_max2 rfl) (by rfl) m_max (by decide +kernel) (pa_cons pe_int (pa_cons (pv 3) pa_nil))))) (pa_cons (pe_cmpR op_eq (pe_op op_mod (pe_op op_fdiv (pv 2) pe_int) pe_int) pe_int (nomark _)) pa_nil)))))))))) pss_nil)
 (pss_cons (ps_set (i := 5) sc__law_drawn.nd rfl (.inr rfl) (pe_has h__law_walk hr (by decide) (by rfl) pass0 (pa_cons (pv 0) (pa_cons (pv 1) (pa_cons pe_bl pa_nil)))))
 (pss_cons (ps_if (pt_cmpR op_eq (pe_op op_mod (pv 2) pe_int) pe_int (nomark _)) (pss_cons (ps_set (i := 6) sc__law_drawn.nd rfl (.inr rfl) (pe_ix (ix_listK (K := K)) (pe_lst (pa_cons pe_int (pa_cons pe_int pa_nil))) (pe_op op_mod (pe_op op_fdiv (pv 2) pe_int) pe_int) (fun _ _ => rfl)))
 (pss_one (ps_ret (pe_lc (own := [("_law_k", 7)]) (g := (gName 7)) rfl sc__law_drawn.nd (pi_range1 rfl m_range (pa_cons (pe_callB (call_lenK (K := K)) (by rfl) m_len (by decide +kernel) (pa_cons (pv 5) pa_nil)) pa_nil)) (blkOk_by (own := [("_law_k", 7)]) (N := N__law_drawn) (sc := defScope s__law_drawn) (by decide +kernel)) (fun _ _ _ _ _ => (pg_name (i := 7) sc__law_drawn.nd rfl (.inl rfl))) (fun _ _ _ _ _ => (pts_one (pt_cmpR op_ne (pe_op op_mod (pe_op op_fdiv (pe_ix (ix_listK (K := K)) (pv 0) (pv 7) (fun _ _ => rfl)) (pe_op op_mul pe_int (pe_callB (call_lenK (K := K)) (by rfl) m_len (by decide +kernel) (pa_cons (pv 1) pa_nil)))) (pv 6)) pe_int (nomark _)))) (fun _ _ _ _ _ => (pe_ix (ix_listK (K := K)) (pv 5) (pv 7) (fun _ _ => rfl))))))) pss_nil)
 (pss_one (ps_ret (pv 5)))))), fn_sd h fun ss s hp => ?_⟩
  obtain ⟨nums, names, aside, h1, h2, h3, rfl, rfl⟩ := hp
  unfold ldrawn9
  have t := two2 nums names (aside / 5) h1
  refine sd_seq (sd_if (et_test (ed_eq (α := Int) (ed_iC (ed_var rfl) ed_int (show (0 : Int) < 5 by decide)) ed_int)) (fun hb => ?_) (fun hb => ?_))
  · rw [if_pos (of_decide_eq_true hb)]
    have hn1 : (cutA names (some ((names.length : Int) / 2)) none).length ≤ names.length := by unfold cutA; rw [List.length_take, List.length_drop]; omega
    have hn0 : (cutA names none (some ((names.length : Int) / 2))).length ≤ names.length := by unfold cutA; rw [List.length_take, List.length_drop]; omega
    have hc1 : (cutA nums none (some ((nums.length : Int) / 2))).length ≤ nums.length := by rw [t.c1, List.length_take]; omega
    have hc2 : (cutA nums (some ((nums.length : Int) / 2)) none).length ≤ nums.length := by rw [t.c2, List.length_drop]; omega
    have hw1 := wmany_le (cutA nums none (some ((nums.length : Int) / 2))) (decide (aside / 5 % 2 = 1))
    have hw2 := wmany_le (cutA nums (some ((nums.length : Int) / 2)) none) (decide (aside / 5 / 2 % 2 = 1))
    have hn2 : (cutA (cutA names none (some ((names.length : Int) / 2)) ++ names) none (some (if (names.length : Int) / 2 > 1 then (names.length : Int) / 2 else 1))).length ≤ 80 := by
      unfold cutA at hn0 ⊢
      rw [List.length_take, List.length_drop, List.length_append]
      omega
    refine sd_seq (sd_asg (α := Int) (ed_iC (ed_len (erl_sh (ed_var rfl))) ed_int ⟨by decide, by decide⟩) ?_)
    walk_at "nrm"
    refine sd_seq (sd_asg (α := Int) (ed_iC (ed_len (erl_sh (ed_var rfl))) ed_int ⟨by decide, by decide⟩) ?_)
    walk_at "nrm"
    refine sd_seq (sd_asg (α := List Part) (a := lwalk (cutA nums none (some ((nums.length : Int) / 2))) (cutA names (some ((names.length : Int) / 2)) none) (decide (aside / 5 % 2 = 1))) (ed_call (α := List Part) (ea_cons (ed_sl (erl_sh (ed_var rfl)) eo_no (eo_so (ed_var rfl))) (ea_cons (ed_sl (erl_sh (ed_var rfl)) (eo_so (ed_var rfl)) eo_no) (ea_cons (ed_eq (α := Int) (ed_iC (ed_iC (ed_var rfl) ed_int ⟨by decide, by decide⟩) ed_int (show (0 : Int) < 2 by decide)) ed_int) ea_nil))) ⟨_, _, _, t.n1, by omega, by omega, rfl, rfl⟩) ?_)
    walk_at "nrm"
    have ew : decide (aside / 10 % 2 = 1) = decide (aside / 5 / 2 % 2 = 1) := decide_eq_decide.mpr (by omega)
    refine sd_ret (α := List Part) (ed_cat (erl_sh (ed_var rfl)) (erl_sh (ed_call (α := List Part) (a := lwalk (cutA nums (some ((nums.length : Int) / 2)) none) (cutA (cutA names none (some ((names.length : Int) / 2)) ++ names) none (some (if (names.length : Int) / 2 > 1 then (names.length : Int) / 2 else 1))) (decide (aside / 5 / 2 % 2 = 1))) (ea_cons (ed_sl (erl_sh (ed_var rfl)) (eo_so (ed_var rfl)) eo_no) (ea_cons (ed_sl (erl_sh (ed_cat (erl_sh (ed_sl (erl_sh (ed_var rfl)) eo_no (eo_so (ed_var rfl)))) (erl_sh (ed_var rfl)) (by omega))) eo_no (eo_so (ed_max2 ed_int (ed_var rfl)))) (ea_cons (ed_is (ed_eq (α := Int) (ed_iC (ed_iC (ed_var rfl) ed_int ⟨by decide, by decide⟩) ed_int (show (0 : Int) < 2 by decide)) ed_int) ew) ea_nil))) ⟨_, _, _, t.n2, by omega, by omega, rfl, rfl⟩)) (by rw [lwalk_len, lwalk_len]; omega)) rfl
  refine sd_next ?_
  rw [if_neg (of_decide_eq_false hb)]
  have hwl : (lwalk nums names true).length = nums.length := lwalk_len _ _ _
  refine sd_seq (sd_asg (α := List Part) (a := lwalk nums names true) (ed_call (α := List Part) (ea_cons (ed_var rfl) (ea_cons (ed_var rfl) (ea_cons ed_bl ea_nil))) ⟨nums, names, true, h1, by omega, by omega, rfl, rfl⟩) ?_)
  walk_at "nrm"
  refine sd_seq (sd_if (et_test (ed_eq (α := Int) (ed_iC (ed_var rfl) ed_int (show (0 : Int) < 5 by decide)) ed_int)) (fun hb => ?_) (fun hb => ?_))
  · rw [if_pos (of_decide_eq_true hb)]
    refine sd_seq (sd_asg (α := Int) (a := share12 (aside / 5)) (ed_ixL (erl_sh (ed_lst (eas_cons ed_int (eas_cons ed_int eas_nil)))) (ed_iC (ed_iC (ed_var rfl) ed_int ⟨by decide, by decide⟩) ed_int (show (0 : Int) < 2 by decide)) share12_at) ?_)
    walk_at "nrm"
    have hsp := share12_pos (aside / 5)
    have hke : (((List.range (((lwalk nums names true).length : Nat) : Int).toNat).map fun i => ((i : Nat) : Int)).filter fun y => !decide (nums.getD y.toNat 0 / (2 * (names.length : Int)) % share12 (aside / 5) = 1)).map (partAt (lwalk nums names true)) = lkst nums names (lkeep nums names (share12 (aside / 5))) nums.length := by
      rw [Int.toNat_natCast, hwl]
      refine kept_eq _ fun k hk => ⟨?_, ?_⟩
      · rw [Int.toNat_natCast]
        unfold lkeep
        rw [decide_not]
      · unfold partAt lwalk
        rw [Int.toNat_natCast, List.getD_eq_getElem?_getD, List.getElem?_map, List.getElem?_range (show k < wmany nums true from hk)]
        rfl
    refine sd_ret (α := List Part) (ed_is (ed_lc (fun y => !decide (nums.getD y.toNat 0 / (2 * (names.length : Int)) % share12 (aside / 5) = 1)) (partAt (lwalk nums names true)) (id_rng1 (ed_len (erl_sh (ed_var rfl)))) (by rw [List.length_map, List.length_range]; omega) fun y hy => ?_) hke) rfl
    have hy2 : 0 ≤ y ∧ y < (nums.length : Int) := by
      obtain ⟨i, h1, h2⟩ := List.mem_map.mp hy
      have := List.mem_range.mp h1
      omega
    have hat : atI nums y = some (nums.getD y.toNat 0) := by
      have := getD_at (l := nums) (k := y.toNat) (by omega)
      rw [Int.toNat_of_nonneg hy2.1] at this
      exact this
    exact ⟨_, gd_name (by simp), et_test (ed_ne (α := Int) (ed_iC (ed_iC (ed_ixL (erl_sh (ed_var rfl)) (ed_var rfl) hat) (ed_iC ed_int (ed_len (erl_sh (ed_var rfl))) (.inl (by decide))) ⟨by omega, by omega⟩) (ed_var rfl) hsp) ed_int), fun _ => ed_ixL (erl_sh (ed_var rfl)) (ed_var rfl) (partAt_at hy2.1 (by omega))⟩
  refine sd_next ?_
  rw [if_neg (of_decide_eq_false hb)]
  exact sd_ret (α := List Part) (ed_var rfl) rfl
end
end TC
namespace TC
open PySem PySem.Spec L2
open Evl (Ex)
local macro_rules | `(tactic| walk_at "nrm") => `(tactic| simp only [List.set_cons_zero, List.set_cons_succ, List.cons_append, List.nil_append, List.append_nil, wipeS])
abbrev s_leaving : Stmt := topS 12
abbrev N_leaving : List Str := ["tiles", "steps", "found", "step"]
theorem sc_leaving : FnScope N_leaving ["tiles", "steps"] (defScope s_leaving) := ⟨rfl, rfl, rfl, by decide +kernel, rfl, by decide +kernel, by decide +kernel⟩
section
variable {P : Program} {w : World} {K : PySem.W.Frag} {mg : Str → Option Value} {base : Heap}
theorem ok_leaving {C_NoTile : Addr} (D : Def K mg "leaving" "leaving" s_leaving ["tiles", "steps"]) (h_faces : Has (L2.CX P w) P w K mg base 2 "faces" ["tiles", "step"] (spX pre_faces bad_faces (.ref C_NoTile))) : Has CX0 P w K mg base 3 "leaving" ["tiles", "steps"] (spF pre_leaving) := by
  refine def_ok D sc_leaving (spF_len pre_leaving_len) fun f cdv A outer s H vs Q E hr h => ⟨_, (pss_cons (ps_set (i := 2) sc_leaving.nd rfl (.inl rfl) pe_dnewK)
 (pss_cons (ps_for PassesOwn.never rfl (pi_listK (K := K) (pv 1)) (pg_name (i := 3) sc_leaving.nd rfl (.inl rfl)) (pss_one (ps_expr (pe_appK (K := K) (pe_dsetd (pv 2) (pe_ix (ix_tupK (K := K)) (pe_has h_faces hr (by decide) (by rfl) passL (pa_cons (pv 0) (pa_cons (pv 3) pa_nil))) pe_int (fun _ _ => rfl)) (pe_lst pa_nil) ⟨rfl, rfl, rfl, rfl⟩) (pv 3)))))
 (pss_one (ps_ret (pv 2))))), fn_sd h fun ss s hp => ?_⟩
  obtain ⟨T, steps, hl, hv, rfl, rfl⟩ := hp
  refine sd_seq (sd_asgO (eo_dictl (α := Stp)) ?_)
  walk_at "nrm"
  refine sd_seq (sd_forP (γ := Stp) [3] (id_list (ed_var rfl)) (fun pre d => ∃ y3, d = [.sh T, .sh steps, odl (pre.foldl (lleave1 T) []), y3]) ⟨_, rfl⟩ (fun pre y post d' he hI => ?_) fun d' hI => ?_)
  · obtain ⟨y3, rfl⟩ := hI
    have hpl : pre.length ≤ 100000 := by
      have h1 := congrArg List.length he
      rw [List.length_append] at h1
      omega
    have hn : isNum T y.1 = true := hv y (by rw [he]; simp)
    have h2 := lleave_len T pre []
    rw [List.length_nil] at h2
    refine ⟨_, gd_name (by simp), ?_⟩
    walk_at "nrm"
    refine sd_setdApp rfl (ed_t0 (α := Int) (β := Int) (ed_callX (α := Int × Int) (a := faceOf T y) (ea_cons (ed_var rfl) (ea_cons (ed_var rfl) ea_nil)) ⟨T, y, hn, rfl, rfl⟩)) (fun m' => ed_var rfl) (by omega) (fun l hl => ?_) ?_
    · have h3 := lleave_get T pre [] (faceOf T y).1
      rw [hl] at h3
      have h4 : l.length ≤ pre.length := by
        have h5 : l = pre.filter fun st => decide ((faceOf T st).1 = (faceOf T y).1) := h3
        rw [h5]
        exact List.length_filter_le _ _
      omega
    · refine ⟨.sh y, ?_⟩
      rw [List.foldl_append]
      rfl
  · obtain ⟨y3, rfl⟩ := hI
    exact sd_retV rfl rfl
end
end TC
namespace TC
open PySem PySem.Spec L2
open Evl (Ex)
local macro_rules | `(tactic| walk_at "nrm") => `(tactic| simp only [List.set_cons_zero, List.set_cons_succ, List.cons_append, List.nil_append, List.append_nil, wipeS])
abbrev s_walk_from : Stmt := topS 14
abbrev N_walk_from : List Str := ["tiles", "steps", "used", "mark", "pile", "found", "here", "came", "step"]
theorem sc_walk_from : FnScope N_walk_from ["tiles", "steps", "used", "mark"] (defScope s_walk_from) := ⟨rfl, rfl, rfl, by decide +kernel, rfl, by decide +kernel, by decide +kernel⟩
section
variable {P : Program} {w : World} {K : PySem.W.Frag} {mg : Str → Option Value} {base : Heap}
theorem ok_walk_from {C_NoTile : Addr} (D : Def K mg "walk_from" "walk_from" s_walk_from ["tiles", "steps", "used", "mark"]) (h_taken : Has CX0 P w K mg base 1 "taken" ["steps", "used"] (spO pre_taken)) (h_faces : Has (L2.CX P w) P w K mg base 2 "faces" ["tiles", "step"] (spX pre_faces bad_faces (.ref C_NoTile))) (m_list : mg "list" = none) (m_reversed : mg "reversed" = none) : Has CX0 P w K mg base 3 "walk_from" ["tiles", "steps", "used", "mark"] (spO pre_walk_from) := by
  refine def_ok D sc_walk_from (spO_len pre_walk_from_len) fun f cdv A outer s H vs Q E hr h => ⟨_, (pss_cons (ps_set (i := 4) sc_walk_from.nd rfl (.inl rfl) (pe_lst (pa_cons (pe_tup (pa_cons (pv 3) (pa_cons pe_non pa_nil))) pa_nil)))
 (pss_cons (ps_set (i := 5) sc_walk_from.nd rfl (.inl rfl) (pe_lst pa_nil))
 (pss_cons (ps_while PassesOwn.never (pt_cmpR (op_neDK (K := K) hr.units) (pv 4) (pe_lst pa_nil) (nomark _)) (pss_cons (ps_asg (pe_ix (ix_listK (K := K)) (pv 4) (pe_un un_neg pe_int) (fun _ _ => rfl)) (pg_tupK (K := K) 2 rfl (pgs_cons (pg_name (i := 6) sc_walk_from.nd rfl (.inl rfl)) (pgs_cons (pg_name (i := 7) sc_walk_from.nd rfl (.inl rfl)) pgs_nil))))
 (pss_cons (ps_set (i := 8) sc_walk_from.nd rfl (.inl rfl) (pe_has h_taken hr (by decide) (by rfl) pass0 (pa_cons (pe_dget2 (hu_of hr) (pv 1) (pv 6) (pe_lst pa_nil) ⟨rfl, rfl, rfl, rfl⟩) (pa_cons (pv 2) pa_nil))))
 (pss_one (ps_if (pt_cmpR op_isN (pv 8) pe_non (nomark _)) (pss_cons (ps_expr (pe_bm0 PySem.F.plainAttrs_list PySem.F.slot_list_pop PySem.F.type_list_pop mt_pop (pv 4)))
 (pss_one (ps_if (pt_cmpR op_notN (pv 7) pe_non (nomark _)) (pss_one (ps_expr (pe_appK (K := K) (pv 5) (pv 7)))) pss_nil))) (pss_cons (ps_dput (hu_of hr) (pv 2) (pe_ix (ix_tupK (K := K)) (pv 8) pe_int (fun _ _ => rfl)) pe_bl rfl)
 (pss_one (ps_expr (pe_appK (K := K) (pv 4) (pe_tup (pa_cons (pe_ix (ix_tupK (K := K)) (pe_has h_faces hr (by decide) (by rfl) passL (pa_cons (pv 0) (pa_cons (pv 8) pa_nil))) pe_int (fun _ _ => rfl)) (pa_cons (pv 8) pa_nil))))))))))))
 (pss_one (ps_ret (pe_listRev rfl (by rfl) m_list (by rfl) m_reversed (pv 5))))))), fn_sdO h pre_walk_from_match fun ss ss' s hp => ?_⟩
  obtain ⟨T, S, U, m, p, q, hT, hU, hV, rfl, rfl, rfl⟩ := hp
  have hM : hm T (hstart S U m) ≤ 20001 := by
    have := freeN_le T (keysM U)
    show 2 * freeN T (keysM U) + 1 ≤ 20001
    omega
  generalize hr : hres T (hstart S U m) = r
  refine sd_seq (sd_asgO (eo_lst (α := Int × Option Stp) (eas_cons (ed_tup2 (ed_var rfl) ed_none) eas_nil)) ?_)
  walk_at "nrm"
  refine sd_seq (sd_asgO (eo_lst (α := Stp) eas_nil) ?_)
  walk_at "nrm"
  refine sd_seq (sd_while (fun n d => ∃ (s : HS) (y6 y7 y8 : Slot), d = [.sh T, .own (atR p (odlR s.S)), .own (atR q (odR s.U)), .sh m, ol s.pile.reverse, ol s.row.reverse, y6, y7, y8] ∧ n = hm T s ∧ SVal T s.S ∧ hres T s = r ∧ s.row.length + hm T s ≤ 20001 ∧ s.U.length + hm T s ≤ 830000)
    _ ⟨hstart S U m, _, _, _, rfl, rfl, hV, hr, by show 0 + _ ≤ _; omega, by show U.length + _ ≤ _; omega⟩ (fun n d' hI => ?_))
  obtain ⟨s, y6, y7, y8, rfl, rfl, hv, hs, hb1, hb2⟩ := hI
  refine ⟨_, et_lend (i := 4) rfl (et_test (ed_neD (α := List (Int × Option Stp)) (ed_var rfl) (ed_lst eas_nil))), fun hb => ?_, fun hb => ?_⟩
  · have hne : s.pile ≠ [] := fun z => by
      rw [z] at hb
      cases hb
    have hst := hm_step hv hne
    have hv' := hstep_val hv
    have hs' := (hres_step hv hne).symm.trans hs
    obtain ⟨hc1, hc2⟩ := hstep_row hv hne
    cases hp' : s.pile with
    | nil => exact absurd hp' hne
    | cons e pl =>
      obtain ⟨here, came⟩ := e
      rw [List.reverse_cons]
      have hpl : (((here, came) :: pl).length : Nat) ≤ 20001 := by
        rw [← hp']
        unfold hm at hb1
        omega
      refine sd_seq (sd_asgT (vs := [6, 7]) (α := Int × Option Stp) (a := (here, came)) (ed_ixL (erl_own rfl) (ed_un (g := fun i => -i) ed_int) (atI_last _ _)) (gd_t2 (gd_name (by simp)) (gd_name (by simp))) ?_)
      walk_at "nrm"
      refine sd_seq (sd_taken (α := Stp) (β := Int) (γ := Option Stp) (pre := pre_taken) (is := 1) (iu := 2) (k := 8) (S := s.S) (k0 := here) (l' := (takeS s here).2.reverse) (res := (takeS s here).1) rfl rfl (by decide) (by decide) (by decide) (by show 8 < 9; decide) (ed_var rfl) (fun c p2 => ⟨_, s.U, c, p2, q, rfl, rfl, rfl⟩) ?_)
      walk_at "nrm"
      refine sd_if (et_test (ed_isN (ed_var rfl))) (fun hb => ?_) (fun hb => ?_)
      · have w : (takeS s here).1 = none := Option.isNone_iff_eq_none.mp hb
        have e1 := hstep_pop (T := T) hp' w
        rw [e1] at hst hv' hs' hc1 hc2
        refine sd_seq (sd_popS rfl ?_)
        walk_at "nrm"
        refine sd_if (et_test (ed_notN (ed_var rfl))) (fun hb => ?_) (fun hb => ?_)
        · cases came with
          | none => cases hb
          | some st =>
            refine sd_app (α := Stp) rfl (ed_get (ed_var rfl)) (by rw [List.length_reverse]; omega) ?_
            refine ⟨_, by rw [hst]; exact Nat.lt_succ_self _, _, .sh here, .sh (some st), .sh (takeS s here).1, ?_, rfl, hv', hs', by omega, by omega⟩
            dsimp only [withCame]
            rw [List.reverse_cons]
            rfl
        · cases came with
          | some st => cases hb
          | none => exact sd_next ⟨_, by rw [hst]; exact Nat.lt_succ_self _, _, _, _, _, rfl, rfl, hv', hs', by omega, by omega⟩
      · cases w : (takeS s here).1 with
        | none => rw [w] at hb; cases hb
        | some st =>
          have e1 := hstep_push (T := T) hp' w
          obtain ⟨n1, n2, n3⟩ := takeS_num hv w
          rw [e1] at hst hv' hs' hc1 hc2
          refine sd_seq (sd_dputA rfl ed_bl (ed_t0 (α := Int) (β := Bool) (ed_get (ed_var rfl))) (by omega) ?_)
          walk_at "nrm"
          refine sd_app (α := Int × Option Stp) (a := ((faceOf T st).2, some st)) rfl (ed_tup2 (ed_t1 (α := Int) (β := Int) (ed_callX (α := Int × Int) (a := faceOf T st) (ea_cons (ed_var rfl) (ea_cons (ed_get (ed_var rfl)) ea_nil)) ⟨T, st, n1, rfl, rfl⟩)) (ed_var rfl)) (by rw [List.length_append, List.length_reverse, List.length_singleton]; rw [List.length_cons] at hpl; omega) ?_
          refine ⟨_, by rw [hst]; exact Nat.lt_succ_self _, _, .sh here, .sh came, .sh (some st), ?_, rfl, hv', hs', by omega, by omega⟩
          dsimp only
          rw [List.reverse_cons, hp', List.reverse_cons]
          rfl
  · have hnil : s.pile = [] := by
      refine Classical.byContradiction fun z => ?_
      have z' : s.pile.reverse ≠ [] := fun e => z (List.reverse_eq_nil_iff.mp e)
      rw [decide_eq_false z'] at hb
      cases hb
    rw [hres_nil hnil] at hs
    subst hs
    refine sd_ret (α := List Stp) (ed_listRev (erl_own rfl)) ⟨?_, back4 rfl rfl⟩
    rw [List.reverse_reverse]
end
end TC
namespace TC
open PySem PySem.Spec L2
open Evl (Ex)
local macro_rules | `(tactic| walk_at "nrm") => `(tactic| simp only [List.set_cons_zero, List.set_cons_succ, List.cons_append, List.nil_append, List.append_nil, wipeS])
abbrev s_arcs_of : Stmt := topS 23
abbrev N_arcs_of : List Str := ["tiles", "ways", "found", "number", "turned", "left", "right"]
theorem sc_arcs_of : FnScope N_arcs_of ["tiles", "ways"] (defScope s_arcs_of) := ⟨rfl, rfl, rfl, by decide +kernel, rfl, by decide +kernel, by decide +kernel⟩
section
variable {P : Program} {w : World} {K : PySem.W.Frag} {mg : Str → Option Value} {base : Heap}
theorem ok_arcs_of {C_NoTile : Addr} (D : Def K mg "arcs_of" "arcs_of" s_arcs_of ["tiles", "ways"]) (h_faces : Has (L2.CX P w) P w K mg base 2 "faces" ["tiles", "step"] (spX pre_faces bad_faces (.ref C_NoTile))) (m_enumerate : mg "enumerate" = none) : Has CX0 P w K mg base 3 "arcs_of" ["tiles", "ways"] (spF pre_arcs_of) := by
  refine def_ok D sc_arcs_of (spF_len pre_arcs_of_len) fun f cdv A outer s H vs Q E hr h => ⟨_, (pss_cons (ps_set (i := 2) sc_arcs_of.nd rfl (.inl rfl) (pe_lst pa_nil))
 (pss_cons (ps_for PassesOwn.never rfl (pi_enumK (K := K) (by rfl) m_enumerate (pa_cons (pv 1) pa_nil)) (pg_tupK (K := K) 2 rfl (pgs_cons (pg_name (i := 3) sc_arcs_of.nd rfl (.inl rfl)) (pgs_cons (pg_name (i := 4) sc_arcs_of.nd rfl (.inl rfl)) pgs_nil))) (pss_cons (ps_asg (pe_has h_faces hr (by decide) (by rfl) passL (pa_cons (pv 0) (pa_cons (pe_tup (pa_cons (pv 3) (pa_cons (pv 4) pa_nil))) pa_nil))) (pg_tupK (K := K) 2 rfl (pgs_cons (pg_name (i := 5) sc_arcs_of.nd rfl (.inl rfl)) (pgs_cons (pg_name (i := 6) sc_arcs_of.nd rfl (.inl rfl)) pgs_nil))))
 (pss_one (ps_expr (pe_appK (K := K) (pv 2) (pe_tup (pa_cons (pv 5) (pa_cons (pv 6) (pa_cons (pe_ifExp (pt_val (pv 4)) (pe_un un_neg pe_int) pe_int) pa_nil)))))))))
 (pss_one (ps_ret (pv 2))))), fn_sd h fun ss s hp => ?_⟩
  obtain ⟨T, ways, hl, hT, rfl, rfl⟩ := hp
  refine sd_seq (sd_asgO (eo_lst (α := Arc) eas_nil) ?_)
  walk_at "nrm"
  refine sd_seq (sd_forP (γ := Int × Bool) [3, 4] (id_enum (ed_var rfl)) (fun pre d => ∃ (y3 y4 y5 y6 : Slot), d = [.sh T, .sh ways, ol (pre.map (mkArc T)), y3, y4, y5, y6]) ⟨_, _, _, _, rfl⟩ (fun pre y post d' he hI => ?_) fun d' hI => ?_)
  · obtain ⟨y3, y4, y5, y6, rfl⟩ := hI
    have hn : isNum T y.1 = true := by
      obtain ⟨i, h1, h2⟩ := enumA_mem (as := ways) (y := y) (by rw [he]; simp)
      have := (List.getElem?_eq_some_iff.mp h2).1
      exact isNum_iff.mpr (by omega)
    have hpl : pre.length ≤ 1000 := by
      have h1 := congrArg List.length he
      rw [enumA_len, List.length_append] at h1
      omega
    refine ⟨_, gd_t2 (gd_name (by simp)) (gd_name (by simp)), ?_⟩
    walk_at "nrm"
    refine sd_seq (sd_asgT (vs := [5, 6]) (α := Int × Int) (a := faceOf T y) (ed_callX (α := Int × Int) (ea_cons (ed_var rfl) (ea_cons (ed_tup2 (ed_var rfl) (ed_var rfl)) ea_nil)) ⟨T, y, hn, rfl, rfl⟩) (gd_t2 (gd_name (by simp)) (gd_name (by simp))) ?_)
    walk_at "nrm"
    refine sd_app (α := Arc) (a := mkArc T y) rfl (ed_is (ed_tup3 (ed_var rfl) (ed_var rfl) (ed_if (et_B (ed_var rfl)) (fun _ => (ed_un (g := fun i => -i) ed_int)) (fun _ => ed_int))) rfl) (by rw [List.length_map]; omega) ?_
    walk_at "nrm"
    rw [List.map_append]
    exact ⟨_, _, _, _, rfl⟩
  · obtain ⟨y3, y4, y5, y6, rfl⟩ := hI
    refine sd_frzL (i := 2) rfl ?_
    walk_at "nrm"
    exact sd_ret (α := List Arc) (ed_var rfl) rfl
end
end TC
namespace TC
open PySem PySem.Spec L2
open Evl (Ex)
local macro_rules | `(tactic| walk_at "nrm") => `(tactic| simp only [List.set_cons_zero, List.set_cons_succ, List.cons_append, List.nil_append, List.append_nil, wipeS])
abbrev s__law_reason : Stmt := topS 42
abbrev N__law_reason : List Str := ["_law_found", "_law_groups_here", "_law_odds_here", "_law_part", "_law_group"]
theorem sc__law_reason : FnScope N__law_reason ["_law_found", "_law_groups_here", "_law_odds_here"] (defScope s__law_reason) := ⟨rfl, rfl, rfl, by decide +kernel, rfl, by decide +kernel, by decide +kernel⟩
section
variable {P : Program} {w : World} {K : PySem.W.Frag} {mg : Str → Option Value} {base : Heap}
theorem ok__law_reason (D : Def K mg "_law_reason" "_law_reason" s__law_reason ["_law_found", "_law_groups_here", "_law_odds_here"]) (h__law_alike : Has CX0 P w K mg base 2 "_law_alike" ["_law_found", "_law_due"] (spF pre__law_alike)) (m_zip : mg "zip" = none) (m_len : mg "len" = none) (m_isinstance : mg "isinstance" = none) (m_tuple : mg "tuple" = none) (m_str : mg "str" = none) (m_list : mg "list" = none) : Has CX0 P w K mg base 3 "_law_reason" ["_law_found", "_law_groups_here", "_law_odds_here"] (spF pre__law_reason) := by
  refine def_ok D sc__law_reason (spF_len pre__law_reason_len) fun f cdv A outer s H vs Q E hr h => ⟨_, (pss_cons (ps_if (PW.pt (pw_or (pt_not (pt_val (pe_callB (call_isiK1 (K := K)) (by rfl) m_isinstance (by decide +kernel) (pa_cons (pv 0) (pa_cons (pe_bltn (v := .ty "tuple") (by rfl) m_tuple (by decide +kernel) rfl) pa_nil))))) (pw_or (pt_cmpR op_ne (pe_callB (call_lenK (K := K)) (by rfl) m_len (by decide +kernel) (pa_cons (pv 0) pa_nil)) pe_int (nomark _)) (pw_or1 (pt_not (pt_val (pe_callB (call_isiK1 (K := K)) (by rfl) m_isinstance (by decide +kernel) (pa_cons (pe_ix (ix_tupK (K := K)) (pv 0) pe_int (fun _ _ => rfl)) (pa_cons (pe_bltn (v := .ty "str") (by rfl) m_str (by decide +kernel) rfl) pa_nil))))))))) (pss_one (ps_ret pe_bl)) pss_nil)
 (pss_cons (ps_if (pt_cmpR op_le (pe_callB (call_lenK (K := K)) (by rfl) m_len (by decide +kernel) (pa_cons (pv 1) pa_nil)) pe_int (nomark _)) (pss_one (ps_ret (pe_and (pe_cmpR op_eq (pe_ix (ix_tupK (K := K)) (pv 0) pe_int (fun _ _ => rfl)) pe_str (nomark _)) (pe_one (pe_has h__law_alike hr (by decide) (by rfl) pass0 (pa_cons (pe_ix (ix_tupK (K := K)) (pv 0) pe_int (fun _ _ => rfl)) (pa_cons (pv 2) pa_nil))))))) pss_nil)
 (pss_cons (ps_if (PW.pt (pw_or (pt_cmpR op_ne (pe_ix (ix_tupK (K := K)) (pv 0) pe_int (fun _ _ => rfl)) pe_str (nomark _)) (pw_or (pt_not (pt_val (pe_callB (call_isiK1 (K := K)) (by rfl) m_isinstance (by decide +kernel) (pa_cons (pe_ix (ix_tupK (K := K)) (pv 0) pe_int (fun _ _ => rfl)) (pa_cons (pe_bltn (v := .ty "list") (by rfl) m_list (by decide +kernel) rfl) pa_nil))))) (pw_or1 (pt_cmpR op_ne (pe_callB (call_lenK (K := K)) (by rfl) m_len (by decide +kernel) (pa_cons (pe_ix (ix_tupK (K := K)) (pv 0) pe_int (fun _ _ => rfl)) pa_nil)) (pe_callB (call_lenK (K := K)) (by rfl) m_len (by decide +kernel) (pa_cons (pv 1) pa_nil)) (nomark _)))))) (pss_one (ps_ret pe_bl)) pss_nil)
 (pss_cons (ps_for PassesOwn.never rfl (pi_zipK (K := K) (by rfl) m_zip (pa_cons (pe_ix (ix_tupK (K := K)) (pv 0) pe_int (fun _ _ => rfl)) (pa_cons (pv 1) pa_nil))) (pg_tupK (K := K) 2 rfl (pgs_cons (pg_name (i := 3) sc__law_reason.nd rfl (.inl rfl)) (pgs_cons (pg_name (i := 4) sc__law_reason.nd rfl (.inl rfl)) pgs_nil))) (pss_one (ps_if (pt_not (pt_val (pe_has h__law_alike hr (by decide) (by rfl) pass0 (pa_cons (pv 3) (pa_cons (pv 4) pa_nil))))) (pss_one (ps_ret pe_bl)) pss_nil)))
 (pss_one (ps_ret pe_bl)))))), fn_sd h fun ss s hp => ?_⟩
  obtain ⟨t, groups, odds, h1, h2, h3, hc, rfl, rfl⟩ := hp
  refine sd_seq (sd_if (et_or (et_not (et_B (ed_isi (α := Told) (b := true) (ed_var rfl) (by decide +kernel)))) (fun _ => (et_or (et_test (ed_ne (α := Int) (ed_lenTold (ed_var rfl)) ed_int)) (fun _ => (et_not (et_B (ed_isi (α := Str) (b := true) (ed_told0 (ed_var rfl)) (by decide +kernel)))))))) (fun hb => ?_) (fun hb => ?_))
  · cases hb
  refine sd_next ?_
  refine sd_seq (sd_if (et_test (ed_b0 (g := fun i j => decide (i ≤ j)) (ed_len (erl_sh (ed_var rfl))) ed_int)) (fun hb => ?_) (fun hb => ?_))
  · have hb := of_decide_eq_true hb
    rcases hc with ⟨a, b⟩ | ⟨a, b⟩
    · subst b
      exact sd_ret (α := Bool) (ed_andV (ed_eq (α := Str) (ed_told0 (ed_var rfl)) ed_str) (fun _ => (ed_call (α := Bool) (a := true) (ea_cons (ed_toldO (ed_var rfl)) (ea_cons (ed_var rfl) ea_nil)) ⟨odds, by omega, rfl, rfl⟩))) (shc (by rw [decide_eq_true (show (Told.odd odds).word = "odd" from rfl)]; rfl))
    · omega
  refine sd_next ?_
  have hb := of_decide_eq_false hb
  rcases hc with ⟨a, b⟩ | ⟨a, b⟩
  · omega
  subst b
  refine sd_seq (sd_if (et_or (et_test (ed_ne (α := Str) (ed_told0 (ed_var rfl)) ed_str)) (fun _ => (et_or (et_not (et_B (ed_isi (α := List (List Int)) (b := true) (ed_toldP (ed_var rfl)) (by decide +kernel)))) (fun _ => (et_test (ed_ne (α := Int) (ed_len (erl_sh (ed_toldP (ed_var rfl)))) (ed_len (erl_sh (ed_var rfl))))))))) (fun hb => ?_) (fun hb => ?_))
  · rw [decide_eq_true (show (Told.parted groups).word = "parted" from rfl), decide_eq_true rfl] at hb
    cases hb
  refine sd_next ?_
  refine sd_seq (sd_forP (γ := List Int × List Int) [3, 4] (id_zip (ed_toldP (ed_var rfl)) (ed_var rfl)) (fun pre d => ∃ y3 y4, d = [.sh (Told.parted groups), .sh groups, .sh odds, y3, y4]) ⟨_, _, rfl⟩ (fun pre y post d' he hI => ?_) fun d' hI => ?_)
  · obtain ⟨y3, y4, rfl⟩ := hI
    obtain ⟨e1, e2⟩ := zip_same (show y ∈ groups.zip groups by rw [he]; simp)
    have hl := h3 _ e2
    refine ⟨_, gd_t2 (gd_name (by simp)) (gd_name (by simp)), ?_⟩
    walk_at "nrm"
    rw [e1]
    refine sd_if (et_not (et_B (ed_call (α := Bool) (a := true) (ea_cons (ed_var rfl) (ea_cons (ed_var rfl) ea_nil)) ⟨y.2, by omega, rfl, rfl⟩))) (fun hb => ?_) (fun hb => ?_)
    · cases hb
    · exact sd_next ⟨_, _, rfl⟩
  · obtain ⟨y3, y4, rfl⟩ := hI
    exact sd_ret (α := Bool) ed_bl rfl
end
end TC
namespace TC
open PySem PySem.Spec L2
open Evl (Ex)
local macro_rules | `(tactic| walk_at "nrm") => `(tactic| simp only [List.set_cons_zero, List.set_cons_succ, List.cons_append, List.nil_append, List.append_nil, wipeS])
abbrev s__law_walked : Stmt := topS 44
abbrev N__law_walked : List Str := ["_law_tiles_here", "_law_row", "_law_numbers_here", "_law_start", "_law_right", "_law_step_here", "_law_left", "_law_behind"]
theorem sc__law_walked : FnScope N__law_walked ["_law_tiles_here", "_law_row"] (defScope s__law_walked) := ⟨rfl, rfl, rfl, by decide +kernel, rfl, by decide +kernel, by decide +kernel⟩
section
variable {P : Program} {w : World} {K : PySem.W.Frag} {mg : Str → Option Value} {base : Heap}
theorem ok__law_walked (D : Def K mg "_law_walked" "_law_walked" s__law_walked ["_law_tiles_here", "_law_row"]) (h__law_step : Has CX0 P w K mg base 2 "_law_step" ["_law_step_here", "_law_many"] (spF pre__law_step)) (m_isinstance : mg "isinstance" = none) (m_list : mg "list" = none) (m_len : mg "len" = none) : Has CX0 P w K mg base 3 "_law_walked" ["_law_tiles_here", "_law_row"] (spF pre__law_walked) := by
  refine def_ok D sc__law_walked (spF_len pre__law_walked_len) fun f cdv A outer s H vs Q E hr h => ⟨_, (pss_cons (ps_if (PW.pt (pw_or (pt_not (pt_val (pe_callB (call_isiK1 (K := K)) (by rfl) m_isinstance (by decide +kernel) (pa_cons (pv 1) (pa_cons (pe_bltn (v := .ty "list") (by rfl) m_list (by decide +kernel) rfl) pa_nil))))) (pw_or1 (pt_cmpR (op_eqDK (K := K) hr.units) (pv 1) (pe_lst pa_nil) (nomark _))))) (pss_one (ps_ret pe_non)) pss_nil)
 (pss_cons (ps_set (i := 2) sc__law_walked.nd rfl (.inl rfl) (pe_lst pa_nil))
 (pss_cons (ps_set (i := 3) sc__law_walked.nd rfl (.inl rfl) pe_non)
 (pss_cons (ps_set (i := 4) sc__law_walked.nd rfl (.inl rfl) pe_non)
 (pss_cons (ps_for PassesOwn.never rfl (pi_listK (K := K) (pv 1)) (pg_name (i := 5) sc__law_walked.nd rfl (.inl rfl)) (pss_cons (ps_if (pt_not (pt_val (pe_has h__law_step hr (by decide) (by rfl) pass0 (pa_cons (pv 5) (pa_cons (pe_callB (call_lenK (K := K)) (by rfl) m_len (by decide +kernel) (pa_cons (pv 0) pa_nil)) pa_nil))))) (pss_one (ps_ret pe_non)) pss_nil)
 (pss_cons (ps_asg (pe_ix (ix_listK (K := K)) (pv 0) (pe_ix (ix_tupK (K := K)) (pv 5) pe_int (fun _ _ => rfl)) (fun _ _ => rfl)) (pg_tupK (K := K) 2 rfl (pgs_cons (pg_name (i := 6) sc__law_walked.nd rfl (.inl rfl)) (pgs_cons (pg_name (i := 7) sc__law_walked.nd rfl (.inl rfl)) pgs_nil))))
 (pss_cons (ps_if (pt_val (pe_ix (ix_tupK (K := K)) (pv 5) pe_int (fun _ _ => rfl))) (pss_one (ps_par (i := 6) (j := 7) (by rfl) sc__law_walked.nd rfl rfl (by decide) rfl rfl (pa_cons (pv 7) (pa_cons (pv 6) pa_nil)) (by rfl))) pss_nil)
 (pss_cons (ps_if (pt_cmpR (op_eqDK (K := K) hr.units) (pv 2) (pe_lst pa_nil) (nomark _)) (pss_one (ps_set (i := 3) sc__law_walked.nd rfl (.inl rfl) (pv 6))) (pss_one (ps_if (pt_cmpR op_ne (pv 6) (pv 4) (nomark _)) (pss_one (ps_ret pe_non)) pss_nil)))
 (pss_cons (ps_expr (pe_appK (K := K) (pv 2) (pe_ix (ix_tupK (K := K)) (pv 5) pe_int (fun _ _ => rfl))))
 (pss_one (ps_set (i := 4) sc__law_walked.nd rfl (.inl rfl) (pv 7)))))))))
 (pss_one (ps_ret (pe_tup (pa_cons (pv 2) (pa_cons (pv 3) (pa_cons (pv 4) pa_nil))))))))))), fn_sd h fun ss s hp => ?_⟩
  obtain ⟨tiles, row, a, b, hne, hl, htl, hv, hw, rfl, rfl⟩ := hp
  refine sd_seq (sd_if (et_or (et_not (et_B (ed_isi (α := List Stp) (b := true) (ed_var rfl) (by decide +kernel)))) (fun _ => (et_test (ed_eqD (α := List Stp) (ed_var rfl) (ed_lst eas_nil))))) (fun hb => ?_) (fun hb => ?_))
  · rw [decide_eq_false hne] at hb
    cases hb
  refine sd_next ?_
  refine sd_seq (sd_asgO (eo_lst (α := Int) eas_nil) ?_)
  walk_at "nrm"
  refine sd_seq (sd_asg (α := Option Int) ed_none ?_)
  walk_at "nrm"
  refine sd_seq (sd_asg (α := Option Int) ed_none ?_)
  walk_at "nrm"
  refine sd_seq (sd_forP (γ := Stp) [5] (id_list (ed_var rfl)) (fun pre d => ∃ (c : Int) (y5 y6 y7 : Slot), d = [.sh tiles, .sh row, ol (nums pre), .sh (stO pre a), .sh (stO pre c), y5, y6, y7] ∧ WalkT tiles a pre c) ⟨a, _, _, _, rfl, rfl⟩ (fun pre y post d' he hI => ?_) fun d' hI => ?_)
  · obtain ⟨c, y5, y6, y7, rfl, hc⟩ := hI
    have hy : isNum tiles y.1 = true := hv y (by rw [he]; simp)
    have hl1 : (faceOf tiles y).1 = c := by
      rw [he] at hw
      obtain ⟨c', q1, q2⟩ := walk_app.mp hw
      have q3 : c' = c := walk_end q1 hc
      rw [← q3]
      exact q2.1
    have hpl : pre.length ≤ 100000 := by
      have h1 := congrArg List.length he
      rw [List.length_append] at h1
      omega
    obtain ⟨n1, n2⟩ := isNum_iff.mp hy
    refine ⟨_, gd_name (by simp), ?_⟩
    walk_at "nrm"
    refine sd_seq (sd_if (et_not (et_B (ed_call (α := Bool) (a := true) (ea_cons (ed_var rfl) (ea_cons (ed_len (erl_sh (ed_var rfl))) ea_nil)) ⟨y, _, n1, n2, rfl, rfl⟩))) (fun hb => ?_) (fun hb => ?_))
    · cases hb
    refine sd_next ?_
    refine sd_seq (sd_asgT (vs := [6, 7]) (α := Int × Int) (a := tileAt tiles y.1) (ed_ixL (erl_sh (ed_var rfl)) (ed_t0 (α := Int) (β := Bool) (ed_var rfl)) (tileAt_at hy)) (gd_t2 (gd_name (by simp)) (gd_name (by simp))) ?_)
    walk_at "nrm"
    refine sd_cut (fun d => d = [.sh tiles, .sh row, ol (nums pre), .sh (stO pre a), .sh (stO pre c), .sh y, .sh (faceOf tiles y).1, .sh (faceOf tiles y).2]) (sd_if (et_B (ed_t1 (α := Int) (β := Bool) (ed_var rfl))) (fun hb => ?_) (fun hb => ?_)) fun d' hI => ?_
    · refine sd_par (ed_var rfl) (ed_var rfl) ?_
      unfold faceOf
      rw [if_pos hb]
      rfl
    · refine sd_next ?_
      unfold faceOf
      rw [if_neg (by rw [hb]; exact Bool.false_ne_true)]
    subst hI
    refine sd_cut (fun d => d = [.sh tiles, .sh row, ol (nums pre), .sh (some a), .sh (stO pre c), .sh y, .sh (faceOf tiles y).1, .sh (faceOf tiles y).2]) (sd_if (et_lend (i := 2) rfl (et_test (ed_eqD (α := List Int) (ed_var rfl) (ed_lst eas_nil)))) (fun hb => ?_) (fun hb => ?_)) fun d' hI => ?_
    · have hp0 : pre = [] := by
        have := of_decide_eq_true hb
        unfold nums at this
        exact List.map_eq_nil_iff.mp this
      subst hp0
      have e : a = c := hc
      refine sd_asg (α := Option Int) (a := some a) (ed_some (ed_is (ed_var rfl) (hl1.trans e.symm))) rfl
    · cases pre with
      | nil => exact absurd rfl (of_decide_eq_false hb)
      | cons s l =>
        refine sd_if (et_test (ed_ne (α := Option Int) (ed_some (ed_var rfl)) (ed_var rfl))) (fun hb => ?_) (fun hb => ?_)
        · rw [hl1, decide_eq_true (show some c = stO (s :: l) c from rfl)] at hb
          cases hb
        · exact sd_next rfl
    subst hI
    refine sd_seq (sd_app (α := Int) rfl (ed_t0 (α := Int) (β := Bool) (ed_var rfl)) (by unfold nums; rw [List.length_map]; omega) ?_)
    walk_at "nrm"
    refine sd_asg (α := Option Int) (a := some (faceOf tiles y).2) (ed_some (ed_var rfl)) ⟨(faceOf tiles y).2, .sh y, .sh (faceOf tiles y).1, .sh (faceOf tiles y).2, ?_, walk_app.mpr ⟨c, hc, hl1, rfl⟩⟩
    rw [stO_snoc, stO_snoc]
    unfold nums
    rw [List.map_append]
    rfl
  · obtain ⟨c, y5, y6, y7, rfl, hc⟩ := hI
    have hcb : c = b := walk_end hc hw
    subst hcb
    refine sd_frzL (i := 2) rfl ?_
    walk_at "nrm"
    cases row with
    | nil => exact absurd rfl hne
    | cons s l => exact sd_ret (α := Option (T3 (List Int) Int Int)) (ed_some (ed_tup3 (ed_var rfl) (ed_get (ed_var rfl)) (ed_get (ed_var rfl)))) rfl
end
end TC
namespace TC
open PySem PySem.Spec L2
open Evl (Ex)
local macro_rules | `(tactic| walk_at "nrm") => `(tactic| simp only [List.set_cons_zero, List.set_cons_succ, List.cons_append, List.nil_append, List.append_nil, wipeS])
abbrev s_fewest : Stmt := topS 19
abbrev N_fewest : List Str := ["tiles", "groups", "odds", "longer", "steps", "used", "found", "group", "ends", "walk", "mark"]
theorem sc_fewest : FnScope N_fewest ["tiles"] (defScope s_fewest) := ⟨rfl, rfl, rfl, by decide +kernel, rfl, by decide +kernel, by decide +kernel⟩
section
variable {P : Program} {w : World} {K : PySem.W.Frag} {mg : Str → Option Value} {base : Heap}
theorem ok_fewest (D : Def K mg "fewest" "fewest" s_fewest ["tiles"]) (h_parts_of : Has CX0 P w K mg base 2 "parts_of" ["tiles"] (spF pre_parts_of)) (h_odd_marks : Has CX0 P w K mg base 2 "odd_marks" ["tiles"] (spF pre_odd_marks)) (h_bridged : Has CX0 P w K mg base 1 "bridged" ["tiles", "groups", "odds"] (spF pre_bridged)) (h_leaving : Has CX0 P w K mg base 3 "leaving" ["tiles", "steps"] (spF pre_leaving)) (h_both_ways : Has CX0 P w K mg base 1 "both_ways" ["tiles"] (spF pre_both_ways)) (h_walk_from : Has CX0 P w K mg base 3 "walk_from" ["tiles", "steps", "used", "mark"] (spO pre_walk_from)) (h_without_bridges : Has CX0 P w K mg base 1 "without_bridges" ["walk", "many"] (spF pre_without_bridges)) (m_len : mg "len" = none) : Has CX0 P w K mg base 4 "fewest" ["tiles"] (spF pre_fewest) := by
  refine def_ok D sc_fewest (spF_len pre_fewest_len) fun f cdv A outer s H vs Q E hr h => ⟨_, (pss_cons (ps_set (i := 1) sc_fewest.nd rfl (.inl rfl) (pe_has h_parts_of hr (by decide) (by rfl) pass0 (pa_cons (pv 0) pa_nil)))
 (pss_cons (ps_set (i := 2) sc_fewest.nd rfl (.inr rfl) (pe_has h_odd_marks hr (by decide) (by rfl) pass0 (pa_cons (pv 0) pa_nil)))
 (pss_cons (ps_set (i := 3) sc_fewest.nd rfl (.inl rfl) (pe_has h_bridged hr (by decide) (by rfl) pass0 (pa_cons (pv 0) (pa_cons (pv 1) (pa_cons (pv 2) pa_nil)))))
 (pss_cons (ps_set (i := 4) sc_fewest.nd rfl (.inl rfl) (pe_has h_leaving hr (by decide) (by rfl) pass0 (pa_cons (pv 3) (pa_cons (pe_has h_both_ways hr (by decide) (by rfl) pass0 (pa_cons (pv 3) pa_nil)) pa_nil))))
 (pss_cons (ps_set (i := 5) sc_fewest.nd rfl (.inl rfl) pe_dnewK)
 (pss_cons (ps_set (i := 6) sc_fewest.nd rfl (.inl rfl) (pe_lst pa_nil))
 (pss_cons (ps_for PassesOwn.never rfl (pi_listK (K := K) (pv 1)) (pg_name (i := 7) sc_fewest.nd rfl (.inl rfl)) (pss_cons (ps_set (i := 8) sc_fewest.nd rfl (.inl rfl) (pe_op op_cat (pe_lc (own := [("mark", 10)]) (g := (gName 10)) rfl sc_fewest.nd (pi_listK (K := K) (pv 7)) (blkOk_by (own := [("mark", 10)]) (N := N_fewest) (sc := defScope s_fewest) (by decide +kernel)) (fun _ _ _ _ _ => (pg_name (i := 10) sc_fewest.nd rfl (.inl rfl))) (fun _ _ _ _ _ => (pts_one (pt_cmpR (op_inK (K := K)) (pv 10) (pv 2) (by with_unfolding_all rfl)))) (fun _ _ _ _ _ => (pv 10))) (pv 7)))
 (pss_cons (ps_set (i := 9) sc_fewest.nd rfl (.inl rfl) (pe_has h_walk_from hr (by decide) (by rfl) pass0 (pa_cons (pv 3) (pa_cons (pv 4) (pa_cons (pv 5) (pa_cons (pe_ix (ix_listK (K := K)) (pv 8) pe_int (fun _ _ => rfl)) pa_nil))))))
 (pss_one (ps_set (i := 6) sc_fewest.nd rfl (.inl rfl) (pe_op op_cat (pv 6) (pe_has h_without_bridges hr (by decide) (by rfl) pass0 (pa_cons (pv 9) (pa_cons (pe_callB (call_lenK (K := K)) (by rfl) m_len (by decide +kernel) (pa_cons (pv 0) pa_nil)) pa_nil)))))))))
 (pss_one (ps_ret (pv 6)))))))))), fn_sd h fun ss s hp => ?_⟩
  obtain ⟨tiles, hF, rfl, rfl⟩ := hp
  have hT := hF.1
  have hM := lmarks_few hF
  have hP := lparts_len tiles
  have hG : ∀ g ∈ lparts tiles, g.length ≤ 64 := fun g hg => by
    obtain ⟨L, _, e⟩ := List.mem_map.mp hg
    have := lreach_len tiles L
    rw [e] at this
    omega
  have hL := lL_len hF
  refine sd_seq (sd_asg (α := List (List Int)) (ed_call (α := List (List Int)) (ea_cons (ed_var rfl) ea_nil) ⟨tiles, hF, rfl, rfl⟩) ?_)
  walk_at "nrm"
  refine sd_seq (sd_asg (α := List Int) (ed_call (α := List Int) (ea_cons (ed_var rfl) ea_nil) ⟨tiles, hT, rfl, rfl⟩) ?_)
  walk_at "nrm"
  refine sd_seq (sd_asg (α := Tls) (a := lL tiles) (ed_call (α := Tls) (ea_cons (ed_var rfl) (ea_cons (ed_var rfl) (ea_cons (ed_var rfl) ea_nil))) ⟨tiles, lparts tiles, lodds tiles, hT, by omega, hG, rfl, rfl⟩) ?_)
  walk_at "nrm"
  refine sd_seq (sd_asgO (eo_call (rs := odlR (lleave (lL tiles) (lboth (lL tiles)))) (ea_cons (ed_var rfl) (ea_cons (ed_call (α := List Stp) (a := lboth (lL tiles)) (ea_cons (ed_var rfl) ea_nil) ⟨lL tiles, by omega, rfl, rfl⟩) ea_nil)) ⟨lL tiles, lboth (lL tiles), by rw [lboth_len]; omega, fun st hst => mem_lboth.mp hst, rfl, rfl⟩) ?_)
  walk_at "nrm"
  refine sd_seq (sd_asgO (eo_dict (β := Bool)) ?_)
  walk_at "nrm"
  refine sd_seq (sd_asg (α := List (List Stp)) (ed_lst eas_nil) ?_)
  walk_at "nrm"
  refine sd_seq (sd_forP (γ := List Int) [7] (id_list (ed_var rfl)) (fun pre d => ∃ (y7 y8 y9 : Slot), d = [.sh tiles, .sh (lparts tiles), .sh (lodds tiles), .sh (lL tiles), odl (lfs tiles pre).S, od (lfs tiles pre).U, .sh (lfs tiles pre).rows, y7, y8, y9, .un] ∧ SVal (lL tiles) (lfs tiles pre).S ∧ (lfs tiles pre).U.length ≤ 10193 * pre.length ∧ (lfs tiles pre).rows.length ≤ 10194 * pre.length)
    ⟨_, _, _, rfl, lleave_val fun st hst => mem_lboth.mp hst, Nat.zero_le _, Nat.zero_le _⟩ (fun pre y post d' he hI => ?_) fun d' hI => ?_)
  · obtain ⟨y7, y8, y9, rfl, hV, hU, hR⟩ := hI
    have my : y ∈ lparts tiles := by rw [he]; simp
    have hy := hG y my
    obtain ⟨p1, _, _, _⟩ := part_is my
    have hpl : pre.length ≤ 63 := by
      have h1 := congrArg List.length he
      rw [List.length_append, List.length_cons] at h1
      omega
    have ho : (lodd (lodds tiles) y).length ≤ y.length := List.length_filter_le _ _
    have eS : lfs tiles (pre ++ [y]) = lfew1 (lL tiles) (tiles.length : Int) (lodds tiles) (lfs tiles pre) y := by
      unfold lfs
      rw [List.foldl_append]
      rfl
    generalize lfs tiles pre = a at *
    have hm0 : hm (lL tiles) (hstart a.S a.U (lstart (lodds tiles) y)) ≤ 10193 := by
      have := freeN_le (lL tiles) (keysM a.U)
      show 2 * freeN (lL tiles) (keysM a.U) + 1 ≤ 10193
      omega
    obtain ⟨k1, k2⟩ := hres_len (s := hstart a.S a.U (lstart (lodds tiles) y)) hV
    have k1 : (hres (lL tiles) (hstart a.S a.U (lstart (lodds tiles) y))).row.length ≤ 0 + hm (lL tiles) (hstart a.S a.U (lstart (lodds tiles) y)) := k1
    have k2 : (hres (lL tiles) (hstart a.S a.U (lstart (lodds tiles) y))).U.length ≤ a.U.length + hm (lL tiles) (hstart a.S a.U (lstart (lodds tiles) y)) := k2
    have hsp := (lsplit_size (tiles.length : Int) (hres (lL tiles) (hstart a.S a.U (lstart (lodds tiles) y))).row).1
    refine ⟨_, gd_name (by simp), ?_⟩
    walk_at "nrm"
    refine sd_seq (sd_asg (α := List Int) (a := lodd (lodds tiles) y ++ y) (ed_cat (erl_sh (ed_is (ed_lc _ _ (id_list (ed_var rfl)) (by omega) fun z hz => ⟨_, gd_name (by simp), et_test (ed_in (ed_var rfl) (erl_sh (ed_var rfl))), fun _ => ed_var rfl⟩) (List.map_id' _))) (erl_sh (ed_var rfl)) (by omega)) ?_)
    walk_at "nrm"
    have hat : atI (lodd (lodds tiles) y ++ y) (0 : Int) = some (lstart (lodds tiles) y) := by
      unfold lstart
      cases h : lodd (lodds tiles) y ++ y with
      | nil => exact absurd (List.append_eq_nil_iff.mp h).2 p1
      | cons x l => exact atI_nat (j := 0) rfl
    refine sd_seq (sd_callO4 (α := Tls) (β := Int) (γ := List Stp) (pre := pre_walk_from) (i1 := 4) (i2 := 5) (k := 9) (a := lL tiles) (b := lstart (lodds tiles) y) (r1 := odlR a.S) (r2 := odR a.U) (r1' := odlR (hres (lL tiles) (hstart a.S a.U (lstart (lodds tiles) y))).S) (r2' := odR (hres (lL tiles) (hstart a.S a.U (lstart (lodds tiles) y))).U) (res := (hres (lL tiles) (hstart a.S a.U (lstart (lodds tiles) y))).row)
      (ed_var rfl) rfl rfl (by decide) (ed_ixL (erl_sh (ed_var rfl)) ed_int hat) (fun q1 q2 => ⟨lL tiles, a.S, a.U, lstart (lodds tiles) y, q1, q2, by omega, by omega, hV, rfl, rfl, rfl⟩) ?_)
    walk_at "nrm"
    refine sd_asg (α := List (List Stp)) (a := a.rows ++ lsplit (tiles.length : Int) (hres (lL tiles) (hstart a.S a.U (lstart (lodds tiles) y))).row) (ed_cat (erl_sh (ed_var rfl)) (erl_sh (ed_call (α := List (List Stp)) (ea_cons (ed_var rfl) (ea_cons (ed_len (erl_sh (ed_var rfl))) ea_nil)) ⟨_, _, by omega, rfl, rfl⟩)) (by omega)) ?_
    rw [eS]
    refine ⟨_, _, _, rfl, hres_val hV, ?_, ?_⟩
    · show (hres (lL tiles) (hstart a.S a.U (lstart (lodds tiles) y))).U.length ≤ _
      rw [List.length_append, List.length_singleton]
      omega
    · show (a.rows ++ lsplit (tiles.length : Int) (hres (lL tiles) (hstart a.S a.U (lstart (lodds tiles) y))).row).length ≤ _
      rw [List.length_append, List.length_append, List.length_singleton]
      omega
  · obtain ⟨y7, y8, y9, rfl, hV, hU, hR⟩ := hI
    exact sd_ret (α := List (List Stp)) (ed_var rfl) rfl
end
end TC
namespace TC
open PySem PySem.Spec L2
open Evl (Ex)
local macro_rules | `(tactic| walk_at "nrm") => `(tactic| simp only [List.set_cons_zero, List.set_cons_succ, List.cons_append, List.nil_append, List.append_nil, wipeS])
abbrev s_settled : Stmt := topS 26
abbrev N_settled : List Str := ["tiles", "ways", "arcs", "prices", "left", "right", "more", "came", "last", "k"]
theorem sc_settled : FnScope N_settled ["tiles", "ways"] (defScope s_settled) := ⟨rfl, rfl, rfl, by decide +kernel, rfl, by decide +kernel, by decide +kernel⟩
section
variable {P : Program} {w : World} {K : PySem.W.Frag} {mg : Str → Option Value} {base : Heap}
theorem ok_settled (D : Def K mg "settled" "settled" s_settled ["tiles", "ways"]) (h_arcs_of : Has CX0 P w K mg base 3 "arcs_of" ["tiles", "ways"] (spF pre_arcs_of)) (h_lowered : Has CX0 P w K mg base 1 "lowered" ["arcs", "prices", "came"] (spO pre_lowered)) (h_way_round : Has CX0 P w K mg base 1 "way_round" ["arcs", "came", "mark"] (spF pre_way_round)) (m_range : mg "range" = none) (m_len : mg "len" = none) : Has CX0 P w K mg base 4 "settled" ["tiles", "ways"] (spF pre_settled) := by
  refine def_ok D sc_settled (spF_len pre_settled_len) fun f cdv A outer s H vs Q E hr h => ⟨_, (pss_cons (ps_set (i := 2) sc_settled.nd rfl (.inl rfl) (pe_has h_arcs_of hr (by decide) (by rfl) pass0 (pa_cons (pv 0) (pa_cons (pv 1) pa_nil))))
 (pss_cons (ps_set (i := 3) sc_settled.nd rfl (.inl rfl) pe_dnewK)
 (pss_cons (ps_for PassesOwn.never rfl (pi_listK (K := K) (pv 2)) (pg_tupK (K := K) 3 rfl (pgs_cons (pg_name (i := 4) sc_settled.nd rfl (.inl rfl)) (pgs_cons (pg_name (i := 5) sc_settled.nd rfl (.inl rfl)) (pgs_cons (pg_name (i := 6) sc_settled.nd rfl (.inl rfl)) pgs_nil)))) (pss_cons (ps_dput (hu_of hr) (pv 3) (pv 4) pe_int rfl)
 (pss_one (ps_dput (hu_of hr) (pv 3) (pv 5) pe_int rfl))))
 (pss_cons (ps_set (i := 7) sc_settled.nd rfl (.inl rfl) pe_dnewK)
 (pss_cons (ps_set (i := 8) sc_settled.nd rfl (.inl rfl) pe_non)
 (pss_cons (ps_for PassesOwn.never rfl (pi_range1 rfl m_range (pa_cons (pe_callB call_lenD (by rfl) m_len (by decide +kernel) (pa_cons (pv 3) pa_nil)) pa_nil)) (pg_name (i := 9) sc_settled.nd rfl (.inl rfl)) (pss_cons (ps_set (i := 8) sc_settled.nd rfl (.inl rfl) (pe_has h_lowered hr (by decide) (by rfl) pass0 (pa_cons (pv 2) (pa_cons (pv 3) (pa_cons (pv 7) pa_nil)))))
 (pss_one (ps_if (pt_cmpR op_isN (pv 8) pe_non (nomark _)) (pss_one ps_break) pss_nil))))
 (pss_cons (ps_if (pt_cmpR op_isN (pv 8) pe_non (nomark _)) (pss_one (ps_ret (pe_tup (pa_cons (pv 3) (pa_cons (pe_lst pa_nil) pa_nil))))) pss_nil)
 (pss_one (ps_ret (pe_tup (pa_cons (pv 3) (pa_cons (pe_has h_way_round hr (by decide) (by rfl) pass0 (pa_cons (pv 2) (pa_cons (pv 7) (pa_cons (pv 8) pa_nil)))) pa_nil)))))))))))), fn_sd h fun ss s hp => ?_⟩
  obtain ⟨T, ways, hl, hT, rfl, rfl⟩ := hp
  have hAl : (warcs T ways).length ≤ 1000 := by rw [warcs_len]; omega
  have hset := settled_ok (warcs T ways)
  refine sd_seq (sd_asg (α := List Arc) (a := warcs T ways) (ed_call (α := List Arc) (ea_cons (ed_var rfl) (ea_cons (ed_var rfl) ea_nil)) ⟨T, ways, hl, hT, rfl, rfl⟩) ?_)
  walk_at "nrm"
  generalize warcs T ways = A at *
  have hPl := lpr_len A
  refine sd_seq (sd_asgO (eo_dict (β := Int)) ?_)
  walk_at "nrm"
  refine sd_seq (sd_forP (γ := Arc) [4, 5, 6] (id_list (ed_var rfl)) (fun pre d => ∃ (y4 y5 y6 : Slot), d = [.sh T, .sh ways, .sh A, od (pre.foldl lpr1 []), y4, y5, y6, .un, .un, .un]) ⟨_, _, _, rfl⟩ (fun pre y post d' he hI => ?_) fun d' hI => ?_)
  · obtain ⟨y4, y5, y6, rfl⟩ := hI
    have hpl : pre.length ≤ 1000 := by
      have h1 := congrArg List.length he
      rw [List.length_append] at h1
      omega
    have h1 : (pre.foldl lpr1 []).length ≤ 2 * pre.length := lpr_len pre
    have h2 : (dput (pre.foldl lpr1 []) y.a 0).length ≤ (pre.foldl lpr1 []).length + 1 := dput_len
    refine ⟨_, gd_t3 (gd_name (by simp)) (gd_name (by simp)) (gd_name (by simp)), ?_⟩
    walk_at "nrm"
    refine sd_seq (sd_dput rfl ed_int (ed_var rfl) (by omega) ?_)
    walk_at "nrm"
    refine sd_dput rfl ed_int (ed_var rfl) (by omega) ?_
    walk_at "nrm"
    rw [List.foldl_append]
    exact ⟨_, _, _, rfl⟩
  obtain ⟨y4, y5, y6, rfl⟩ := hI
  refine sd_seq (sd_asgO (eo_dict (β := Int)) ?_)
  walk_at "nrm"
  refine sd_seq (sd_asg (α := Option Int) (a := none) ed_none ?_)
  walk_at "nrm"
  have hA : ∀ e ∈ A, e.a ∈ keysM (lpr A) ∧ e.b ∈ keysM (lpr A) := fun e he => ⟨lpr_mem.mpr ⟨e, he, .inl rfl⟩, lpr_mem.mpr ⟨e, he, .inr rfl⟩⟩
  have hKl : (keysM (lpr A)).length ≤ 10000 := by rw [keys_len]; omega
  refine sd_cut (fun d => ∃ y9, d = [.sh T, .sh ways, .sh A, od (bset A).pr, y4, y5, y6, od (bset A).ca, .sh (bset A).last, y9]) (sd_for (γ := Int) [9] (id_rng1 (ed_lenD (m := lpr A) (erd_own rfl))) (fun i d => ∃ (s : BS) (y9 : Slot), d = [.sh T, .sh ways, .sh A, od s.pr, y4, y5, y6, od s.ca, .sh s.last, y9] ∧ BK A (keysM (lpr A)) s ∧ i ≤ (lpr A).length ∧ brun A ((lpr A).length - i) s = bset A) ⟨bs0 A, _, rfl, ⟨rfl, List.nodup_nil, fun v hv => (by cases hv), fun v hv => (by cases hv)⟩, Nat.zero_le _, rfl⟩ (fun i y d' hy hI => ?_) fun d' hI => ?_) fun d' hI => ?_
  · obtain ⟨s, y9, rfl, hk, hi, hrun⟩ := hI
    have hi2 : i < (lpr A).length := by
      rw [List.getElem?_map] at hy
      obtain ⟨j, h1, h2⟩ := Option.map_eq_some_iff.mp hy
      have := (List.getElem?_eq_some_iff.mp h1).1
      rw [List.length_range, Int.toNat_natCast] at this
      exact this
    have hkp := bk_pass hk fun e he => (hA e he).2
    rw [show (lpr A).length - i = ((lpr A).length - (i + 1)) + 1 by omega] at hrun
    unfold brun at hrun
    refine ⟨_, gd_name (by simp), ?_⟩
    walk_at "nrm"
    refine sd_seq (sd_callO3 (γ := Option Int) (i1 := 3) (i2 := 7) (k := 8) (pre := pre_lowered) (r1' := odR (bpass A s).pr) (r2' := odR (bpass A s).ca) (res := (bpass A s).last) (ed_var rfl) rfl rfl (by decide) (fun p1 p2 => ⟨A, _, s, p1, p2, hk, hA, hKl, rfl, rfl, rfl⟩) ?_)
    walk_at "nrm"
    refine sd_if (et_test (ed_isN (ed_var rfl))) (fun hb => ?_) (fun hb => ?_)
    · have hn : (bpass A s).last = none := Option.isNone_iff_eq_none.mp hb
      rw [if_pos hn] at hrun
      rw [hrun]
      exact sd_brk ⟨_, rfl⟩
    · have hn : (bpass A s).last ≠ none := fun z => by
        rw [z] at hb
        cases hb
      rw [if_neg hn] at hrun
      exact sd_next ⟨_, _, rfl, hkp, hi2, hrun⟩
  · obtain ⟨s, y9, rfl, hk, hi, hrun⟩ := hI
    rw [List.length_map, List.length_range, Int.toNat_natCast] at hrun
    have hrun : brun A ((lpr A).length - (lpr A).length) s = bset A := hrun
    rw [Nat.sub_self] at hrun
    have hrun : s = bset A := hrun
    rw [hrun]
    exact ⟨_, rfl⟩
  · obtain ⟨y9, rfl⟩ := hI
    generalize bset A = s at *
    refine sd_seq (sd_if (et_test (ed_isN (ed_var rfl))) (fun hb => ?_) (fun hb => ?_))
    · have hn : s.last = none := Option.isNone_iff_eq_none.mp hb
      refine sd_frzD (i := 3) rfl ?_
      walk_at "nrm"
      refine sd_ret (α := Dct Int × List Int) (ed_tup2 (ed_var rfl) (ed_lst eas_nil)) (shc ?_)
      unfold lround
      rw [hn]
    refine sd_next ?_
    cases hn : s.last with
    | none => rw [hn] at hb; cases hb
    | some v =>
      obtain ⟨w1, w2, w3, _⟩ := hset.way v hn
      have hcal := hset.cal
      refine sd_frzD (i := 3) rfl ?_
      walk_at "nrm"
      refine sd_frzD (i := 7) rfl ?_
      walk_at "nrm"
      refine sd_ret (α := Dct Int × List Int) (ed_tup2 (ed_var rfl) (ed_call (α := List Int) (ea_cons (ed_var rfl) (ea_cons (ed_var rfl) (ea_cons (ed_get (ed_var rfl)) ea_nil))) ⟨A, s.ca, v, _, by omega, w1, hset.num, w2, w3, rfl, rfl⟩)) (shc ?_)
      unfold lround
      rw [hn]
end
end TC
namespace TC
open PySem PySem.Spec L2
open Evl (Ex)
local macro_rules | `(tactic| walk_at "nrm") => `(tactic| simp only [List.set_cons_zero, List.set_cons_succ, List.cons_append, List.nil_append, List.append_nil, wipeS])
abbrev s__law_least : Stmt := topS 46
abbrev N__law_least : List Str := ["_law_found", "_law_tiles_here", "_law_most", "_law_walked_here", "_law_step_here"]
theorem sc__law_least : FnScope N__law_least ["_law_found", "_law_tiles_here", "_law_most"] (defScope s__law_least) := ⟨rfl, rfl, rfl, by decide +kernel, rfl, by decide +kernel, by decide +kernel⟩
section
variable {P : Program} {w : World} {K : PySem.W.Frag} {mg : Str → Option Value} {base : Heap}
theorem ok__law_least (D : Def K mg "_law_least" "_law_least" s__law_least ["_law_found", "_law_tiles_here", "_law_most"]) (h__law_walked : Has CX0 P w K mg base 3 "_law_walked" ["_law_tiles_here", "_law_row"] (spF pre__law_walked)) (h__law_priced : Has CX0 P w K mg base 2 "_law_priced" ["_law_tiles_here", "_law_row", "_law_found"] (spF pre__law_priced)) (m_len : mg "len" = none) (m_isinstance : mg "isinstance" = none) (m_tuple : mg "tuple" = none) (m_str : mg "str" = none) (m_list : mg "list" = none) (m_sorted : mg "sorted" = none) (m_range : mg "range" = none) : Has CX0 P w K mg base 4 "_law_least" ["_law_found", "_law_tiles_here", "_law_most"] (spF pre__law_least) := by
  refine def_ok D sc__law_least (spF_len pre__law_least_len) fun f cdv A outer s H vs Q E hr h => ⟨_, (pss_cons (ps_if (PW.pt (pw_or (pt_not (pt_val (pe_callB (call_isiK1 (K := K)) (by rfl) m_isinstance (by decide +kernel) (pa_cons (pv 0) (pa_cons (pe_bltn (v := .ty "tuple") (by rfl) m_tuple (by decide +kernel) rfl) pa_nil))))) (pw_or (pt_cmpR op_ne (pe_callB (call_lenK (K := K)) (by rfl) m_len (by decide +kernel) (pa_cons (pv 0) pa_nil)) pe_int (nomark _)) (pw_or (pt_not (pt_val (pe_callB (call_isiK1 (K := K)) (by rfl) m_isinstance (by decide +kernel) (pa_cons (pe_ix (ix_tupK (K := K)) (pv 0) pe_int (fun _ _ => rfl)) (pa_cons (pe_bltn (v := .ty "str") (by rfl) m_str (by decide +kernel) rfl) pa_nil))))) (pw_or1 (pt_cmpR op_ne (pe_ix (ix_tupK (K := K)) (pv 0) pe_int (fun _ _ => rfl)) pe_str (nomark _))))))) (pss_one (ps_ret pe_bl)) pss_nil)
 (pss_cons (ps_if (pt_cmpR (op_eqDK (K := K) hr.units) (pv 1) (pe_lst pa_nil) (nomark _)) (pss_one (ps_ret (pe_and (pe_callB (call_isiK1 (K := K)) (by rfl) m_isinstance (by decide +kernel) (pa_cons (pe_ix (ix_tupK (K := K)) (pv 0) pe_int (fun _ _ => rfl)) (pa_cons (pe_bltn (v := .ty "list") (by rfl) m_list (by decide +kernel) rfl) pa_nil))) (pe_and (pe_cmpR (op_eqDK (K := K) hr.units) (pe_ix (ix_tupK (K := K)) (pv 0) pe_int (fun _ _ => rfl)) (pe_lst pa_nil) (nomark _)) (pe_one (pe_has h__law_priced hr (by decide) (by rfl) pass0 (pa_cons (pv 1) (pa_cons (pe_ix (ix_tupK (K := K)) (pv 0) pe_int (fun _ _ => rfl)) (pa_cons (pe_ix (ix_tupK (K := K)) (pv 0) pe_int (fun _ _ => rfl)) pa_nil))))))))) pss_nil)
 (pss_cons (ps_set (i := 3) sc__law_least.nd rfl (.inl rfl) (pe_has h__law_walked hr (by decide) (by rfl) pass0 (pa_cons (pv 1) (pa_cons (pe_ix (ix_tupK (K := K)) (pv 0) pe_int (fun _ _ => rfl)) pa_nil))))
 (pss_cons (ps_if (PW.pt (pw_or (pt_cmpR op_isN (pv 3) pe_non (nomark _)) (pw_or (pt_cmpR (op_neDK (K := K) hr.units) (pe_callB (cr_sortedIK (K := K)) (by rfl) m_sorted (by decide +kernel) (pa_cons (pe_ix (ix_tupK (K := K)) (pv 3) pe_int (fun _ _ => rfl)) pa_nil)) (pe_listRg rfl (by rfl) m_list (prg_1 (by rfl) m_range (pe_callB (call_lenK (K := K)) (by rfl) m_len (by decide +kernel) (pa_cons (pv 1) pa_nil)))) (nomark _)) (pw_or1 (pt_cmpR op_ne (pe_ix (ix_tupK (K := K)) (pv 3) pe_int (fun _ _ => rfl)) (pe_ix (ix_tupK (K := K)) (pv 3) pe_int (fun _ _ => rfl)) (nomark _)))))) (pss_one (ps_ret pe_bl)) pss_nil)
 (pss_cons (ps_if (pt_cmpR op_gt (pe_callB (call_lenK (K := K)) (by rfl) m_len (by decide +kernel) (pa_cons (pe_lc (own := [("_law_step_here", 4)]) (g := (gName 4)) rfl sc__law_least.nd (pi_listK (K := K) (pe_ix (ix_tupK (K := K)) (pv 0) pe_int (fun _ _ => rfl))) (blkOk_by (own := [("_law_step_here", 4)]) (N := N__law_least) (sc := defScope s__law_least) (by decide +kernel)) (fun _ _ _ _ _ => (pg_name (i := 4) sc__law_least.nd rfl (.inl rfl))) (fun _ _ _ _ _ => (pts_one (pt_val (pe_ix (ix_tupK (K := K)) (pv 4) pe_int (fun _ _ => rfl))))) (fun _ _ _ _ _ => (pv 4))) pa_nil)) (pv 2) (nomark _)) (pss_one (ps_ret pe_bl)) pss_nil)
 (pss_one (ps_ret (pe_has h__law_priced hr (by decide) (by rfl) pass0 (pa_cons (pv 1) (pa_cons (pe_ix (ix_tupK (K := K)) (pv 0) pe_int (fun _ _ => rfl)) (pa_cons (pe_ix (ix_tupK (K := K)) (pv 0) pe_int (fun _ _ => rfl)) pa_nil))))))))))), fn_sd h fun ss s hp => ?_⟩
  obtain ⟨T, row, P0, most, hF, hfit, hz, hR, hm, rfl, rfl⟩ := hp
  have hT := hF.1
  refine sd_seq (sd_if (et_or (et_not (et_B (ed_isi (α := TLeast) (b := true) (ed_var rfl) (by decide +kernel)))) (fun _ => (et_or (et_test (ed_ne (α := Int) (ed_lenLeast (ed_var rfl)) ed_int)) (fun _ => (et_or (et_not (et_B (ed_isi (α := Str) (b := true) (ed_least0 (ed_var rfl)) (by decide +kernel)))) (fun _ => (et_test (ed_ne (α := Str) (ed_least0 (ed_var rfl)) ed_str)))))))) (fun hb => ?_) (fun hb => ?_))
  · rw [decide_eq_true rfl, decide_eq_true rfl] at hb
    cases hb
  refine sd_next ?_
  refine sd_seq (sd_if (et_test (ed_eqD (α := Tls) (ed_var rfl) (ed_lst eas_nil))) (fun hb => ?_) (fun hb => ?_))
  · have hnil := of_decide_eq_true hb
    have hr0 := hz hnil
    refine sd_ret (α := Bool) (ed_andV (ed_isi (α := List Stp) (b := true) (ed_least1 (ed_var rfl)) (by decide +kernel)) (fun _ => (ed_andV (ed_eqD (α := List Stp) (ed_least1 (ed_var rfl)) (ed_lst eas_nil)) (fun _ => (ed_call (α := Bool) (a := true) (ea_cons (ed_var rfl) (ea_cons (ed_least1 (ed_var rfl)) (ea_cons (ed_least2 (ed_var rfl)) ea_nil))) ⟨T, row, P0, hF, hfit, rfl, rfl⟩))))) (shc ?_)
    rw [decide_eq_true hr0]
    rfl
  refine sd_next ?_
  have hne := of_decide_eq_false hb
  obtain ⟨a, hR⟩ := hR hne
  have hrl := hR.len
  have hrne : row ≠ [] := fun z => by
    rw [z] at hrl
    exact hne (List.length_eq_zero_iff.mp hrl.symm)
  refine sd_seq (sd_asg (α := Option (T3 (List Int) Int Int)) (a := some (T3.mk (nums row) a a)) (ed_call (α := Option (T3 (List Int) Int Int)) (ea_cons (ed_var rfl) (ea_cons (ed_least1 (ed_var rfl)) ea_nil)) ⟨T, row, a, a, hrne, by omega, by omega, hR.val, hR.walk, rfl, rfl⟩) ?_)
  walk_at "nrm"
  have hs := hR.sort
  refine sd_seq (sd_if (et_or (et_test (ed_isN (ed_var rfl))) (fun _ => (et_or (et_test (ed_neD (α := List Int) (ed_sortI (erl_sh (ed_3a (α := List Int) (β := Int) (γ := Int) (ed_get (ed_var rfl))))) (ed_is (ed_listRg (ed_len (erl_sh (ed_var rfl))) (by omega) (by omega)) (by rw [Int.toNat_natCast])))) (fun _ => (et_test (ed_ne (α := Int) (ed_3b (α := List Int) (β := Int) (γ := Int) (ed_get (ed_var rfl))) (ed_3c (α := List Int) (β := Int) (γ := Int) (ed_get (ed_var rfl))))))))) (fun hb => ?_) (fun hb => ?_))
  · rw [decide_eq_true hs, decide_eq_true (show (T3.mk (nums row) a a).b = (T3.mk (nums row) a a).c from rfl)] at hb
    cases hb
  refine sd_next ?_
  refine sd_seq (sd_if (et_test (ed_b0 (g := fun i j => decide (i > j)) (ed_len (erl_sh (ed_is (b := row.filter fun st => st.2) (ed_lc (fun y : Stp => y.2) (fun y : Stp => y) (id_list (ed_least1 (ed_var rfl))) (by omega) fun y hy => ⟨_, gd_name (by simp), et_B (ed_t1 (α := Int) (β := Bool) (ed_var rfl)), fun _ => ed_var rfl⟩) (List.map_id' _)))) (ed_var rfl))) (fun hb => ?_) (fun hb => ?_))
  · rw [decide_eq_false (by omega)] at hb
    cases hb
  refine sd_next ?_
  exact sd_ret (α := Bool) (ed_call (α := Bool) (a := true) (ea_cons (ed_var rfl) (ea_cons (ed_least1 (ed_var rfl)) (ea_cons (ed_least2 (ed_var rfl)) ea_nil))) ⟨T, row, P0, hF, hfit, rfl, rfl⟩) rfl
end
end TC
namespace TC
open PySem PySem.Spec L2
open Evl (Ex)
local macro_rules | `(tactic| walk_at "nrm") => `(tactic| simp only [List.set_cons_zero, List.set_cons_succ, List.cons_append, List.nil_append, List.append_nil, wipeS])
abbrev s_one_row : Stmt := topS 20
abbrev N_one_row : List Str := ["tiles", "groups", "odds", "row"]
theorem sc_one_row : FnScope N_one_row ["tiles"] (defScope s_one_row) := ⟨rfl, rfl, rfl, by decide +kernel, rfl, by decide +kernel, by decide +kernel⟩
section
variable {P : Program} {w : World} {K : PySem.W.Frag} {mg : Str → Option Value} {base : Heap}
theorem ok_one_row (D : Def K mg "one_row" "one_row" s_one_row ["tiles"]) (h_parts_of : Has CX0 P w K mg base 2 "parts_of" ["tiles"] (spF pre_parts_of)) (h_odd_marks : Has CX0 P w K mg base 2 "odd_marks" ["tiles"] (spF pre_odd_marks)) (h_fewest : Has CX0 P w K mg base 4 "fewest" ["tiles"] (spF pre_fewest)) (m_len : mg "len" = none) : Has CX0 P w K mg base 5 "one_row" ["tiles"] (spF pre_one_row) := by
  refine def_ok D sc_one_row (spF_len pre_one_row_len) fun f cdv A outer s H vs Q E hr h => ⟨_, (pss_cons (ps_set (i := 1) sc_one_row.nd rfl (.inl rfl) (pe_has h_parts_of hr (by decide) (by rfl) pass0 (pa_cons (pv 0) pa_nil)))
 (pss_cons (ps_if (pt_cmpR op_gt (pe_callB (call_lenK (K := K)) (by rfl) m_len (by decide +kernel) (pa_cons (pv 1) pa_nil)) pe_int (nomark _)) (pss_one (ps_ret (pe_tup (pa_cons pe_str (pa_cons (pv 1) pa_nil))))) pss_nil)
 (pss_cons (ps_set (i := 2) sc_one_row.nd rfl (.inl rfl) (pe_has h_odd_marks hr (by decide) (by rfl) pass0 (pa_cons (pv 0) pa_nil)))
 (pss_cons (ps_if (pt_cmpR op_gt (pe_callB (call_lenK (K := K)) (by rfl) m_len (by decide +kernel) (pa_cons (pv 2) pa_nil)) pe_int (nomark _)) (pss_one (ps_ret (pe_tup (pa_cons pe_str (pa_cons (pv 2) pa_nil))))) pss_nil)
 (pss_cons (ps_for PassesOwn.never rfl (pi_listK (K := K) (pe_has h_fewest hr (by decide) (by rfl) pass0 (pa_cons (pv 0) pa_nil))) (pg_name (i := 3) sc_one_row.nd rfl (.inl rfl)) (pss_one (ps_ret (pe_tup (pa_cons pe_str (pa_cons (pv 3) pa_nil))))))
 (pss_one (ps_ret (pe_tup (pa_cons pe_str (pa_cons (pe_lst pa_nil) pa_nil)))))))))), fn_sd h fun ss s hp => ?_⟩
  obtain ⟨tiles, hF, rfl, rfl⟩ := hp
  refine sd_seq (sd_asg (α := List (List Int)) (ed_call (α := List (List Int)) (ea_cons (ed_var rfl) ea_nil) ⟨tiles, hF, rfl, rfl⟩) ?_)
  walk_at "nrm"
  unfold lonerow
  refine sd_seq (sd_if (et_test (ed_b0 (g := fun i j => decide (i > j)) (ed_len (erl_sh (ed_var rfl))) ed_int)) (fun hb => ?_) (fun hb => ?_))
  · have hb := of_decide_eq_true hb
    rw [if_pos (by omega)]
    exact sd_ret (α := Told) (ed_told (.parted _) (ed_var rfl)) rfl
  refine sd_next ?_
  have hb := of_decide_eq_false hb
  rw [if_neg (by omega)]
  refine sd_seq (sd_asg (α := List Int) (ed_call (α := List Int) (ea_cons (ed_var rfl) ea_nil) ⟨tiles, hF.1, rfl, rfl⟩) ?_)
  walk_at "nrm"
  refine sd_seq (sd_if (et_test (ed_b0 (g := fun i j => decide (i > j)) (ed_len (erl_sh (ed_var rfl))) ed_int)) (fun hb => ?_) (fun hb => ?_))
  · have hb := of_decide_eq_true hb
    rw [if_pos (by omega)]
    exact sd_ret (α := Told) (ed_told (.odd _) (ed_var rfl)) rfl
  refine sd_next ?_
  have hb := of_decide_eq_false hb
  rw [if_neg (by omega)]
  refine sd_seq (sd_forP (γ := List Stp) [3] (id_list (ed_call (α := List (List Stp)) (ea_cons (ed_var rfl) ea_nil) ⟨tiles, hF, rfl, rfl⟩)) (fun pre d => pre = [] ∧ d = [.sh tiles, .sh (lparts tiles), .sh (lodds tiles), .un]) ⟨rfl, rfl⟩ (fun pre y post d' he hI => ?_) fun d' hI => ?_)
  · obtain ⟨rfl, rfl⟩ := hI
    refine ⟨_, gd_name (by simp), ?_⟩
    walk_at "nrm"
    refine sd_ret (α := Told) (ed_told (.row _) (ed_var rfl)) ?_
    rw [he]
    rfl
  · obtain ⟨he, rfl⟩ := hI
    refine sd_ret (α := Told) (ed_told (.row []) (ed_lst (α := Stp) eas_nil)) ?_
    rw [he]
    rfl
end
end TC
namespace TC
open PySem PySem.Spec L2
open Evl (Ex)
local macro_rules | `(tactic| walk_at "nrm") => `(tactic| simp only [List.set_cons_zero, List.set_cons_succ, List.cons_append, List.nil_append, List.append_nil, wipeS])
abbrev s_one_ring : Stmt := topS 21
abbrev N_one_ring : List Str := ["tiles", "odds", "told"]
theorem sc_one_ring : FnScope N_one_ring ["tiles"] (defScope s_one_ring) := ⟨rfl, rfl, rfl, by decide +kernel, rfl, by decide +kernel, by decide +kernel⟩
section
variable {P : Program} {w : World} {K : PySem.W.Frag} {mg : Str → Option Value} {base : Heap}
theorem ok_one_ring (D : Def K mg "one_ring" "one_ring" s_one_ring ["tiles"]) (h_odd_marks : Has CX0 P w K mg base 2 "odd_marks" ["tiles"] (spF pre_odd_marks)) (h_one_row : Has CX0 P w K mg base 5 "one_row" ["tiles"] (spF pre_one_row)) : Has CX0 P w K mg base 6 "one_ring" ["tiles"] (spF pre_one_ring) := by
  refine def_ok D sc_one_ring (spF_len pre_one_ring_len) fun f cdv A outer s H vs Q E hr h => ⟨_, (pss_cons (ps_set (i := 1) sc_one_ring.nd rfl (.inl rfl) (pe_has h_odd_marks hr (by decide) (by rfl) pass0 (pa_cons (pv 0) pa_nil)))
 (pss_cons (ps_set (i := 2) sc_one_ring.nd rfl (.inl rfl) (pe_has h_one_row hr (by decide) (by rfl) pass0 (pa_cons (pv 0) pa_nil)))
 (pss_cons (ps_if (PW.pt (pw_and (pt_cmpR op_eq (pe_ix (ix_tupK (K := K)) (pv 2) pe_int (fun _ _ => rfl)) pe_str (nomark _)) (pw_and1 (pt_cmpR (op_eqDK (K := K) hr.units) (pv 1) (pe_lst pa_nil) (nomark _))))) (pss_one (ps_ret (pe_tup (pa_cons pe_str (pa_cons (pe_ix (ix_tupK (K := K)) (pv 2) pe_int (fun _ _ => rfl)) pa_nil))))) pss_nil)
 (pss_cons (ps_if (pt_cmpR op_eq (pe_ix (ix_tupK (K := K)) (pv 2) pe_int (fun _ _ => rfl)) pe_str (nomark _)) (pss_one (ps_ret (pv 2))) pss_nil)
 (pss_one (ps_ret (pe_tup (pa_cons pe_str (pa_cons (pv 1) pa_nil))))))))), fn_sd h fun ss s hp => ?_⟩
  obtain ⟨tiles, hF, rfl, rfl⟩ := hp
  refine sd_seq (sd_asg (α := List Int) (ed_call (α := List Int) (ea_cons (ed_var rfl) ea_nil) ⟨tiles, hF.1, rfl, rfl⟩) ?_)
  walk_at "nrm"
  refine sd_seq (sd_asg (α := Told) (ed_call (α := Told) (ea_cons (ed_var rfl) ea_nil) ⟨tiles, hF, rfl, rfl⟩) ?_)
  walk_at "nrm"
  unfold lonering
  have hcase : (1 < (lparts tiles).length ∧ lonerow tiles = .parted (lparts tiles)) ∨ (¬ 1 < (lparts tiles).length ∧ lodds tiles ≠ [] ∧ ((∃ o, lonerow tiles = .odd o) ∨ ∃ r, lonerow tiles = .row r)) ∨ (¬ 1 < (lparts tiles).length ∧ lodds tiles = [] ∧ lonerow tiles = .row ((lfewest tiles).headD [])) := by
    unfold lonerow
    by_cases c1 : 1 < (lparts tiles).length
    · exact .inl ⟨c1, by rw [if_pos c1]⟩
    · rw [if_neg c1]
      by_cases c2 : lodds tiles = []
      · exact .inr (.inr ⟨c1, c2, by rw [if_neg (by rw [c2]; decide)]⟩)
      · refine .inr (.inl ⟨c1, c2, ?_⟩)
        by_cases c3 : 2 < (lodds tiles).length
        · exact .inl ⟨_, by rw [if_pos c3]⟩
        · exact .inr ⟨_, by rw [if_neg c3]⟩
  refine sd_seq (sd_if (et_and (et_test (ed_eq (α := Str) (ed_told0 (ed_var rfl)) ed_str)) (fun _ => (et_test (ed_eqD (α := List Int) (ed_var rfl) (ed_lst eas_nil))))) (fun hb => ?_) (fun hb => ?_))
  · rw [Bool.and_eq_true, decide_eq_true_iff, decide_eq_true_iff] at hb
    rcases hcase with ⟨a, b⟩ | ⟨a, b, c⟩ | ⟨a, b, c⟩
    · rw [b] at hb
      exact absurd hb.1 (by show ¬ ("parted" : Str) = "row"; decide +kernel)
    · exact absurd hb.2 b
    · rw [c, if_neg a, if_pos b]
      exact sd_ret (α := Told) (ed_told (.ring _) (ed_toldR (ed_var rfl))) rfl
  refine sd_next ?_
  rw [Bool.and_eq_false_iff, decide_eq_false_iff_not, decide_eq_false_iff_not] at hb
  refine sd_seq (sd_if (et_test (ed_eq (α := Str) (ed_told0 (ed_var rfl)) ed_str)) (fun hb2 => ?_) (fun hb2 => ?_))
  · have hb2 := of_decide_eq_true hb2
    rcases hcase with ⟨a, b⟩ | ⟨a, b, c⟩ | ⟨a, b, c⟩
    · rw [b, if_pos a]
      exact sd_ret (α := Told) (ed_var rfl) rfl
    · rcases c with ⟨o, c⟩ | ⟨r, c⟩
      · rw [c] at hb2
        exact absurd hb2 (by show ¬ ("odd" : Str) = "parted"; decide +kernel)
      · rw [c] at hb2
        exact absurd hb2 (by show ¬ ("row" : Str) = "parted"; decide +kernel)
    · rw [c] at hb2
      exact absurd hb2 (by show ¬ ("row" : Str) = "parted"; decide +kernel)
  refine sd_next ?_
  have hb2 := of_decide_eq_false hb2
  rcases hcase with ⟨a, b⟩ | ⟨a, b, c⟩ | ⟨a, b, c⟩
  · rw [b] at hb2
    exact absurd rfl hb2
  · rw [if_neg a, if_neg b]
    exact sd_ret (α := Told) (ed_told (.odd _) (ed_var rfl)) rfl
  · rw [c] at hb
    rcases hb with hb | hb
    · exact absurd rfl hb
    · exact absurd b hb
end
end TC
namespace TC
open PySem PySem.Spec L2
open Evl (Ex)
local macro_rules | `(tactic| walk_at "nrm") => `(tactic| simp only [List.set_cons_zero, List.set_cons_succ, List.cons_append, List.nil_append, List.append_nil, wipeS])
abbrev s_least_turned : Stmt := topS 27
abbrev N_least_turned : List Str := ["tiles", "told", "ways", "number", "turned", "prices", "around", "steps", "row"]
theorem sc_least_turned : FnScope N_least_turned ["tiles"] (defScope s_least_turned) := ⟨rfl, rfl, rfl, by decide +kernel, rfl, by decide +kernel, by decide +kernel⟩
section
variable {P : Program} {w : World} {K : PySem.W.Frag} {mg : Str → Option Value} {base : Heap}
theorem ok_least_turned {C_NoTile : Addr} (D : Def K mg "least_turned" "least_turned" s_least_turned ["tiles"]) (h_one_ring : Has CX0 P w K mg base 6 "one_ring" ["tiles"] (spF pre_one_ring)) (h_settled : Has CX0 P w K mg base 4 "settled" ["tiles", "ways"] (spF pre_settled)) (h_walk_from : Has CX0 P w K mg base 3 "walk_from" ["tiles", "steps", "used", "mark"] (spO pre_walk_from)) (h_leaving : Has CX0 P w K mg base 3 "leaving" ["tiles", "steps"] (spF pre_leaving)) (h_faces : Has (L2.CX P w) P w K mg base 2 "faces" ["tiles", "step"] (spX pre_faces bad_faces (.ref C_NoTile))) (m_list : mg "list" = none) (m_len : mg "len" = none) (m_enumerate : mg "enumerate" = none) (m_sorted : mg "sorted" = none) : Has CX0 P w K mg base 7 "least_turned" ["tiles"] (spF pre_least_turned) := by
  refine def_ok D sc_least_turned (spF_len pre_least_turned_len) fun f cdv A outer s H vs Q E hr h => ⟨_, (pss_cons (ps_set (i := 1) sc_least_turned.nd rfl (.inl rfl) (pe_has h_one_ring hr (by decide) (by rfl) pass0 (pa_cons (pv 0) pa_nil)))
 (pss_cons (ps_if (pt_cmpR op_ne (pe_ix (ix_tupK (K := K)) (pv 1) pe_int (fun _ _ => rfl)) pe_str (nomark _)) (pss_one (ps_ret (pv 1))) pss_nil)
 (pss_cons (ps_set (i := 2) sc_least_turned.nd rfl (.inl rfl) (pe_op op_rep (pe_lst (pa_cons pe_bl pa_nil)) (pe_callB (call_lenK (K := K)) (by rfl) m_len (by decide +kernel) (pa_cons (pv 0) pa_nil))))
 (pss_cons (ps_for PassesOwn.never rfl (pi_listK (K := K) (pe_ix (ix_tupK (K := K)) (pv 1) pe_int (fun _ _ => rfl))) (pg_tupK (K := K) 2 rfl (pgs_cons (pg_name (i := 3) sc_least_turned.nd rfl (.inl rfl)) (pgs_cons (pg_name (i := 4) sc_least_turned.nd rfl (.inl rfl)) pgs_nil))) (pss_one (ps_asg (pv 4) (pg_sub (pv 2) (pv 3) set_list))))
 (pss_cons (ps_asg (pe_has h_settled hr (by decide) (by rfl) pass0 (pa_cons (pv 0) (pa_cons (pv 2) pa_nil))) (pg_tupK (K := K) 2 rfl (pgs_cons (pg_name (i := 5) sc_least_turned.nd rfl (.inl rfl)) (pgs_cons (pg_name (i := 6) sc_least_turned.nd rfl (.inl rfl)) pgs_nil))))
 (pss_cons (ps_while PassesOwn.never (pt_cmpR (op_neDK (K := K) hr.units) (pv 6) (pe_lst pa_nil) (nomark _)) (pss_cons (ps_for PassesOwn.never rfl (pi_listK (K := K) (pv 6)) (pg_name (i := 3) sc_least_turned.nd rfl (.inl rfl)) (pss_one (ps_asg (pe_not (pe_ix (ix_listK (K := K)) (pv 2) (pv 3) (fun _ _ => rfl))) (pg_sub (pv 2) (pv 3) set_list))))
 (pss_one (ps_asg (pe_has h_settled hr (by decide) (by rfl) pass0 (pa_cons (pv 0) (pa_cons (pv 2) pa_nil))) (pg_tupK (K := K) 2 rfl (pgs_cons (pg_name (i := 5) sc_least_turned.nd rfl (.inl rfl)) (pgs_cons (pg_name (i := 6) sc_least_turned.nd rfl (.inl rfl)) pgs_nil)))))))
 (pss_cons (ps_set (i := 7) sc_least_turned.nd rfl (.inl rfl) (pe_listEnum rfl (by rfl) m_list (by rfl) m_enumerate (pv 2)))
 (pss_cons (ps_set (i := 8) sc_least_turned.nd rfl (.inl rfl) (pe_lst pa_nil))
 (pss_cons (ps_if (pt_cmpR (op_neDK (K := K) hr.units) (pv 7) (pe_lst pa_nil) (nomark _)) (pss_one (ps_set (i := 8) sc_least_turned.nd rfl (.inl rfl) (pe_has h_walk_from hr (by decide) (by rfl) pass0 (pa_cons (pv 0) (pa_cons (pe_has h_leaving hr (by decide) (by rfl) pass0 (pa_cons (pv 0) (pa_cons (pv 7) pa_nil))) (pa_cons pe_dnewK (pa_cons (pe_ix (ix_tupK (K := K)) (pe_has h_faces hr (by decide) (by rfl) passL (pa_cons (pv 0) (pa_cons (pe_ix (ix_listK (K := K)) (pv 7) pe_int (fun _ _ => rfl)) pa_nil))) pe_int (fun _ _ => rfl)) pa_nil))))))) pss_nil)
 (pss_one (ps_ret (pe_tup (pa_cons pe_str (pa_cons (pv 8) (pa_cons (pe_sortItems rfl (by rfl) m_sorted (pv 5)) pa_nil))))))))))))))), fn_sd h fun ss s hp => ?_⟩
  obtain ⟨T, hF, rfl, rfl⟩ := hp
  have hT := hF.1
  refine sd_seq (sd_asg (α := Told) (a := lonering T) (ed_call (α := Told) (ea_cons (ed_var rfl) ea_nil) ⟨T, hF, rfl, rfl⟩) ?_)
  walk_at "nrm"
  refine sd_seq (sd_if (et_test (ed_ne (α := Str) (ed_told0 (ed_var rfl)) ed_str)) (fun hb => ?_) (fun hb => ?_))
  · have hr : ¬ lisring T := fun z => by
      rw [decide_eq_true ((ring_word T).mpr z)] at hb
      cases hb
    refine sd_ret (α := TLeast) (ed_ofTold (ed_var rfl)) (shc ?_)
    unfold lleast
    rw [if_neg hr]
  refine sd_next ?_
  have hr : lisring T := (ring_word T).mp (by
    refine Classical.byContradiction fun z => ?_
    rw [decide_eq_false z] at hb
    cases hb)
  obtain ⟨a, hR⟩ := ring_row hr
  have hW0 := ways0_ok hR
  have hres0 : lleast T = .least (lrowD T (lways T)) (sortP (bset (warcs T (lways T))).pr) := by
    unfold lleast
    rw [if_pos hr]
  rw [hres0, lonering_is hr]
  have hWW : lways T = lset T (cnt T (lways0 T ((lfewest T).headD []))).toNat (lways0 T ((lfewest T).headD [])) := rfl
  generalize lways T = W at *
  generalize (lfewest T).headD [] = r at *
  refine sd_seq (sd_asgO (eo_is (eo_rep (erl_sh (ed_lst (eas_cons ed_bl eas_nil))) (ed_len (erl_sh (ed_var rfl))) (by omega) (by omega) (by rw [Int.toNat_natCast]; show 1 * T.length ≤ _; omega)) (by rw [Int.toNat_natCast, List.flatten_replicate_singleton])) ?_)
  walk_at "nrm"
  have hval := hR.val
  refine sd_seq (sd_forP (γ := Stp) [3, 4] (id_list (ed_toldG (ed_var rfl))) (fun pre d => ∃ (y3 y4 : Slot), d = [.sh T, .sh (Told.ring r), ol (pre.foldl set1 (List.replicate T.length false)), y3, y4, .un, .un, .un, .un]) ⟨_, _, rfl⟩ (fun pre y post d' he hI => ?_) fun d' hI => ?_)
  · obtain ⟨y3, y4, rfl⟩ := hI
    have hy := isNum_iff.mp (hval y (by rw [he]; simp))
    refine ⟨_, gd_t2 (gd_name (by simp)) (gd_name (by simp)), ?_⟩
    walk_at "nrm"
    refine sd_setL (j := y.1.toNat) rfl (ed_var rfl) (ed_var rfl) (ixN_in hy.1 (by rw [set1_len, List.length_replicate]; exact hy.2)) ?_
    walk_at "nrm"
    rw [List.foldl_append]
    exact ⟨_, _, rfl⟩
  obtain ⟨y3, y4, rfl⟩ := hI
  have hw0 : r.foldl set1 (List.replicate T.length false) = lways0 T r := rfl
  rw [hw0]
  by_cases hT0 : T = []
  · subst hT0
    have hw : lways0 [] r = [] := List.length_eq_zero_iff.mp hW0.len
    rw [hw] at hWW hW0 ⊢
    have hcn : (cnt [] []).toNat = 0 := rfl
    rw [hcn] at hWW
    have hWW : W = [] := hWW
    subst hWW
    refine sd_frzL (i := 2) rfl ?_
    walk_at "nrm"
    have hlr : lround (warcs [] []) (bset (warcs [] [])) = [] := rfl
    refine sd_seq (sd_asgT (vs := [5, 6]) (α := Dct Int × List Int) (a := (Dct.mk (bset (warcs [] [])).pr, lround (warcs [] []) (bset (warcs [] [])))) (ed_call (α := Dct Int × List Int) (ea_cons (ed_var rfl) (ea_cons (ed_var rfl) ea_nil)) ⟨[], [], rfl, by decide, rfl, rfl⟩) (gd_t2 (gd_name (by simp)) (gd_name (by simp))) ?_)
    walk_at "nrm"
    refine sd_seq (sd_while (fun n d => d = [.sh ([] : Tls), .sh (Told.ring r), .sh ([] : List Bool), y3, y4, .sh (Dct.mk (bset (warcs [] [])).pr), .sh (lround (warcs [] []) (bset (warcs [] []))), .un, .un]) 0 rfl (fun n d' hI => ?_))
    subst hI
    refine ⟨_, et_test (ed_neD (α := List Int) (ed_var rfl) (ed_lst eas_nil)), fun hb => ?_, fun hb => ?_⟩
    · rw [decide_eq_true hlr] at hb
      cases hb
    refine sd_seq (sd_asg (α := List (Int × Bool)) (a := enumA []) (ed_listEnum (erl_sh (ed_var rfl))) ?_)
    walk_at "nrm"
    refine sd_seq (sd_asg (α := List Stp) (a := []) (ed_lst eas_nil) ?_)
    walk_at "nrm"
    refine sd_seq (sd_if (et_test (ed_neD (α := List (Int × Bool)) (ed_var rfl) (ed_lst eas_nil))) (fun hb => ?_) (fun hb => ?_))
    · cases hb
    refine sd_next ?_
    exact sd_ret (α := TLeast) (ed_least (ed_var rfl) (ed_sortItems (erd_sh (ed_var rfl)))) rfl
  generalize hw1 : lways0 T r = w1 at *
  have hne : ∀ w : List Bool, w.length = T.length → w ≠ [] := fun w h z => by
    rw [z] at h
    exact hT0 (List.length_eq_zero_iff.mp h.symm)
  refine sd_seq (sd_asgTL (i := 2) (vs := [5, 6]) rfl (hne _ hW0.len) (ed_call (α := Dct Int × List Int) (ea_cons (ed_var rfl) (ea_cons (ed_var rfl) ea_nil)) ⟨T, w1, hW0.len, hT, rfl, rfl⟩) (gd_t2 (gd_name (by simp)) (gd_name (by simp))) ?_)
  walk_at "nrm"
  have hcn := cnt_nonneg T w1
  refine sd_seq (sd_while (fun n d => ∃ (w : List Bool) (y3 y4 : Slot), d = [.sh T, .sh (Told.ring r), ol w, y3, y4, .sh (Dct.mk (bset (warcs T w)).pr), .sh (lround (warcs T w) (bset (warcs T w))), .un, .un] ∧ WayOk T w ∧ cnt T w ≤ (n : Int) ∧ lset T n w = W) (cnt T w1).toNat ⟨w1, _, _, rfl, hW0, by omega, hWW.symm⟩ (fun n d' hI => ?_))
  obtain ⟨w, y3, y4, rfl, hw, hcw, hlw⟩ := hI
  refine ⟨_, et_test (ed_neD (α := List Int) (ed_var rfl) (ed_lst eas_nil)), fun hb => ?_, fun hb => ?_⟩
  · have hneL : lround (warcs T w) (bset (warcs T w)) ≠ [] := fun z => by
      rw [decide_eq_true z] at hb
      cases hb
    obtain ⟨k1, k2, k3⟩ := way_step hw hneL
    have hpos := cnt_nonneg T (lflip w (lround (warcs T w) (bset (warcs T w))))
    cases n with
    | zero => omega
    | succ n =>
      unfold lset at hlw
      rw [if_neg hneL] at hlw
      have hnum := k3.num
      rw [warcs_len] at hnum
      generalize bset (warcs T w) = s at *
      generalize lround (warcs T w) s = l at *
      refine sd_seq (sd_forP (γ := Int) [3] (id_list (ed_var rfl)) (fun pre d => ∃ (y3 : Slot), d = [.sh T, .sh (Told.ring r), ol (lflip w pre), y3, y4, .sh (Dct.mk s.pr), .sh l, .un, .un]) ⟨_, rfl⟩ (fun pre y post d' he hI => ?_) fun d' hI => ?_)
      · obtain ⟨y3, rfl⟩ := hI
        have hy := hnum y (by rw [he]; simp)
        have hl2 := lflip_len pre w
        refine ⟨_, gd_name (by simp), ?_⟩
        walk_at "nrm"
        refine sd_setL (j := y.toNat) rfl (ed_notV (ed_ixL (erl_own rfl) (ed_var rfl) (way_atI hy.1 (by rw [hl2]; exact hy.2)))) (ed_var rfl) (ixN_in hy.1 (by rw [hl2]; exact hy.2)) ?_
        walk_at "nrm"
        have ef : lflip w (pre ++ [y]) = (lflip w pre).set y.toNat (!wayAt (lflip w pre) y) := by
          unfold lflip
          rw [List.foldl_append]
          rfl
        rw [ef]
        exact ⟨_, rfl⟩
      · obtain ⟨y3, rfl⟩ := hI
        refine sd_asgTL (i := 2) (vs := [5, 6]) rfl (hne _ k1.len) (ed_call (α := Dct Int × List Int) (ea_cons (ed_var rfl) (ea_cons (ed_var rfl) ea_nil)) ⟨T, lflip w l, k1.len, hT, rfl, rfl⟩) (gd_t2 (gd_name (by simp)) (gd_name (by simp))) ?_
        exact ⟨n, Nat.lt_succ_self _, lflip w l, _, _, rfl, k1, by omega, hlw⟩
  · have heL : lround (warcs T w) (bset (warcs T w)) = [] := Classical.byContradiction fun z => by
      rw [decide_eq_false z] at hb
      cases hb
    have hwW : w = W := by
      cases n with
      | zero => exact hlw
      | succ n =>
        unfold lset at hlw
        rw [if_pos heL] at hlw
        exact hlw
    subst hwW
    refine sd_seq (sd_asg (α := List (Int × Bool)) (a := enumA w) (ed_listEnum (erl_own rfl)) ?_)
    walk_at "nrm"
    refine sd_seq (sd_asg (α := List Stp) (a := []) (ed_lst eas_nil) ?_)
    walk_at "nrm"
    have hlp : 0 < T.length := List.length_pos_iff.mpr hT0
    have hwl := hw.len
    have hen : enumA w ≠ [] := fun z => by
      have := congrArg List.length z
      rw [enumA_len, List.length_nil] at this
      omega
    have h0 : isNum T 0 = true := isNum_iff.mpr (by omega)
    have hat0 : atI (enumA w) (0 : Int) = some (wstep w 0) := by
      have h1 : 0 < w.length := by omega
      refine (atI_nat (j := 0) (enumA_get (List.getElem?_eq_getElem h1))).trans ?_
      unfold wstep wayAt
      show some (((0 : Nat) : Int), w[0]) = some ((0 : Int), w.getD 0 false)
      rw [List.getD_eq_getElem?_getD, List.getElem?_eq_getElem h1]
      rfl
    refine sd_cut (fun d => ∃ y3 y4 y7, d = [.sh T, .sh (Told.ring r), ol w, y3, y4, .sh (Dct.mk (bset (warcs T w)).pr), .sh (lround (warcs T w) (bset (warcs T w))), y7, .sh (lrowD T w)]) (sd_if (et_test (ed_neD (α := List (Int × Bool)) (ed_var rfl) (ed_lst eas_nil))) (fun hb => ?_) (fun hb => ?_)) fun d' hI => ?_
    · refine sd_asg (α := List Stp) (a := lrowD T w) (ed_is (ed_callOF (r1 := odlR (lleave T (enumA w))) (r2 := odR ([] : List (Int × Bool))) (r1' := odlR (hres T (hstart (lleave T (enumA w)) [] (faceOf T (wstep w 0)).1)).S) (r2' := odR (hres T (hstart (lleave T (enumA w)) [] (faceOf T (wstep w 0)).1)).U) (pre := pre_walk_from) (res := (hres T (hstart (lleave T (enumA w)) [] (faceOf T (wstep w 0)).1)).row) (b := (faceOf T (wstep w 0)).1)
        (ed_var rfl) (eo_call (rs := odlR (lleave T (enumA w))) (ea_cons (ed_var rfl) (ea_cons (ed_var rfl) ea_nil)) ⟨T, enumA w, by rw [enumA_len]; omega, fun st hst => ((enumA_lies hwl st).mp hst).1, rfl, rfl⟩) (eo_dict (β := Bool))
        (ed_t0 (α := Int) (β := Int) (ed_callX (α := Int × Int) (a := faceOf T (wstep w 0)) (ea_cons (ed_var rfl) (ea_cons (ed_ixL (erl_sh (ed_var rfl)) ed_int hat0) ea_nil)) ⟨T, wstep w 0, h0, rfl, rfl⟩))
        (fun p1 p2 => ⟨T, lleave T (enumA w), [], (faceOf T (wstep w 0)).1, p1, p2, by omega, by show 0 ≤ _; omega, lleave_val fun st hst => ((enumA_lies hwl st).mp hst).1, rfl, rfl, rfl⟩)) (by unfold lrowD; rw [if_neg hT0])) ?_
      exact ⟨_, _, _, rfl⟩
    · rw [decide_eq_false hen] at hb
      cases hb
    · obtain ⟨y3, y4, y7, rfl⟩ := hI
      exact sd_ret (α := TLeast) (ed_least (ed_var rfl) (ed_sortItems (erd_sh (ed_var rfl)))) rfl
end
end TC
namespace TC
open PySem PySem.Spec L2
open Evl (Ex)
local macro_rules | `(tactic| walk_at "nrm") => `(tactic| simp only [List.set_cons_zero, List.set_cons_succ, List.cons_append, List.nil_append, List.append_nil, wipeS])
abbrev s_law : Stmt := topS 48
abbrev N_law : List Str := ["_law_script", "_law_names_here", "_law_aside", "_law_numbers_here", "_law_parts", "_law_tiles_here", "_law_groups_here", "_law_odds_here", "_law_handed", "_law_found", "_law_most", "_law_part"]
theorem sc_law : FnScope N_law ["_law_script"] (defScope s_law) := ⟨rfl, rfl, rfl, by decide +kernel, rfl, by decide +kernel, by decide +kernel⟩
section
variable {P : Program} {w : World} {K : PySem.W.Frag} {mg : Str → Option Value} {base : Heap}
theorem ok_law {f : Addr} {fd : FuncData} (D : Fun K "law" "law" s_law f fd) (h__law_names : Has CX0 P w K mg base 1 "_law_names" ["_law_cell", "_law_far"] (spF pre__law_names)) (h__law_cell_at : Has CX0 P w K mg base 1 "_law_cell_at" ["_law_script", "_law_k"] (spF (pre__law_cell_at K))) (h__law_numbers : Has CX0 P w K mg base 1 "_law_numbers" ["_law_cells", "_law_more", "_law_most"] (spF pre__law_numbers)) (h__law_drawn : Has CX0 P w K mg base 2 "_law_drawn" ["_law_numbers_here", "_law_names_here", "_law_aside"] (spF pre__law_drawn)) (h__law_tiles : Has CX0 P w K mg base 2 "_law_tiles" ["_law_parts", "_law_order_here"] (spF pre__law_tiles)) (h__law_groups : Has CX0 P w K mg base 2 "_law_groups" ["_law_tiles_here"] (spF pre__law_groups)) (h__law_odds : Has CX0 P w K mg base 1 "_law_odds" ["_law_tiles_here"] (spF pre__law_odds)) (h_least_turned : Has CX0 P w K mg base 7 "least_turned" ["tiles"] (spF pre_least_turned)) (h__law_least : Has CX0 P w K mg base 4 "_law_least" ["_law_found", "_law_tiles_here", "_law_most"] (spF pre__law_least)) (h__law_order : Has CX0 P w K mg base 1 "_law_order" ["_law_numbers_here", "_law_size", "_law_way"] (spF pre__law_order)) (h__law_reason : Has CX0 P w K mg base 3 "_law_reason" ["_law_found", "_law_groups_here", "_law_odds_here"] (spF pre__law_reason)) (m_list : mg "list" = none) (m_len : mg "len" = none) : FnOk P w K mg base CX0 8 f fd ["_law_script"] (spF (pre_law K)) := by
  refine D.ok sc_law (spF_len pre_law_len) fun cdv A outer s H vs Q E hr h => ⟨_, (pss_cons (ps_set (i := 1) sc_law.nd rfl (.inl rfl) (pe_has h__law_names hr (by decide) (by rfl) pass0 (pa_cons (pe_has h__law_cell_at hr (by decide) (by rfl) pass0 (pa_cons (pv 0) (pa_cons pe_int pa_nil))) (pa_cons (pe_has h__law_cell_at hr (by decide) (by rfl) pass0 (pa_cons (pv 0) (pa_cons pe_int pa_nil))) pa_nil))))
 (pss_cons (ps_set (i := 2) sc_law.nd rfl (.inl rfl) (pe_has h__law_cell_at hr (by decide) (by rfl) pass0 (pa_cons (pv 0) (pa_cons pe_int pa_nil))))
 (pss_cons (ps_set (i := 3) sc_law.nd rfl (.inl rfl) (pe_has h__law_numbers hr (by decide) (by rfl) pass0 (pa_cons (pe_slice (sl_listK (K := K)) (pv 0) (po_some pe_int) po_none) (pa_cons pe_bl (pa_cons pe_int pa_nil)))))
 (pss_cons (ps_set (i := 4) sc_law.nd rfl (.inl rfl) (pe_has h__law_drawn hr (by decide) (by rfl) pass0 (pa_cons (pv 3) (pa_cons (pv 1) (pa_cons (pv 2) pa_nil)))))
 (pss_cons (ps_set (i := 5) sc_law.nd rfl (.inl rfl) (pe_has h__law_tiles hr (by decide) (by rfl) pass0 (pa_cons (pv 4) (pa_cons (pe_has h__law_order hr (by decide) (by rfl) pass0 (pa_cons (pv 3) (pa_cons (pe_callB (call_lenK (K := K)) (by rfl) m_len (by decide +kernel) (pa_cons (pv 4) pa_nil)) (pa_cons (pe_op op_fdiv (pv 2) pe_int) pa_nil)))) pa_nil))))
 (pss_cons (ps_set (i := 6) sc_law.nd rfl (.inl rfl) (pe_has h__law_groups hr (by decide) (by rfl) pass0 (pa_cons (pv 5) pa_nil)))
 (pss_cons (ps_set (i := 7) sc_law.nd rfl (.inl rfl) (pe_has h__law_odds hr (by decide) (by rfl) pass0 (pa_cons (pv 5) pa_nil)))
 (pss_cons (ps_set (i := 8) sc_law.nd rfl (.inl rfl) (pe_callTy (call_listK (K := K)) (by rfl) m_list (by decide +kernel) (pa_cons (pv 5) pa_nil)))
 (pss_cons (ps_set (i := 9) sc_law.nd rfl (.inl rfl) (pe_has h_least_turned hr (by decide) (by rfl) pass0 (pa_cons (pv 8) pa_nil)))
 (pss_cons (ps_if (pt_cmpR (op_neDK (K := K) hr.units) (pv 8) (pv 5) (nomark _)) (pss_one (ps_ret pe_bl)) pss_nil)
 (pss_cons (ps_if (PW.pt (pw_or (pt_cmpR op_gt (pe_callB (call_lenK (K := K)) (by rfl) m_len (by decide +kernel) (pa_cons (pv 6) pa_nil)) pe_int (nomark _)) (pw_or1 (pt_cmpR (op_neDK (K := K) hr.units) (pv 7) (pe_lst pa_nil) (nomark _))))) (pss_one (ps_ret (pe_has h__law_reason hr (by decide) (by rfl) pass0 (pa_cons (pv 9) (pa_cons (pv 6) (pa_cons (pv 7) pa_nil)))))) pss_nil)
 (pss_cons (ps_set (i := 10) sc_law.nd rfl (.inl rfl) (pe_callB (call_lenK (K := K)) (by rfl) m_len (by decide +kernel) (pa_cons (pv 4) pa_nil)))
 (pss_cons (ps_if (pt_cmpR op_lt (pe_op op_mod (pv 2) pe_int) pe_int (nomark _)) (pss_one (ps_set (i := 10) sc_law.nd rfl (.inl rfl) (pe_callB (call_lenK (K := K)) (by rfl) m_len (by decide +kernel) (pa_cons (pe_lc (own := [("_law_part", 11)]) (g := (gName 11)) rfl sc_law.nd (pi_listK (K := K) (pv 4)) (blkOk_by (own := [("_law_part", 11)]) (N := N_law) (sc := defScope s_law) (by decide +kernel)) (fun _ _ _ _ _ => (pg_name (i := 11) sc_law.nd rfl (.inl rfl))) (fun _ _ _ _ _ => (pts_one (pt_val (pe_ix (ix_tupK (K := K)) (pv 11) pe_int (fun _ _ => rfl))))) (fun _ _ _ _ _ => (pv 11))) pa_nil)))) pss_nil)
 (pss_one (ps_ret (pe_has h__law_least hr (by decide) (by rfl) pass0 (pa_cons (pv 9) (pa_cons (pv 5) (pa_cons (pv 10) pa_nil))))))))))))))))))), fn_sd h fun ss s hp => ?_⟩
  obtain ⟨ns, hns, rfl, rfl⟩ := hp
  have cell : ∀ k : Nat, pre__law_cell_at K [.sh ns, .sh (k : Int)] (.sh ((ns.ns[k]?).getD 0)) := fun k => ⟨ns, k, rfl, rfl⟩
  refine sd_seq (sd_asg (α := List Int) (ed_call (α := List Int) (ea_cons (ed_call (α := Int) (ea_cons (ed_var rfl) (ea_cons ed_int ea_nil)) (cell 0)) (ea_cons (ed_call (α := Int) (ea_cons (ed_var rfl) (ea_cons ed_int ea_nil)) (cell 1)) ea_nil)) ⟨_, _, rfl, rfl⟩) ?_)
  walk_at "nrm"
  have hN := lnames_len ((ns.ns[(0 : Nat)]?).getD 0) ((ns.ns[1]?).getD 0)
  generalize lnames ((ns.ns[(0 : Nat)]?).getD 0) ((ns.ns[1]?).getD 0) = names at *
  refine sd_seq (sd_asg (α := Int) (ed_call (α := Int) (ea_cons (ed_var rfl) (ea_cons ed_int ea_nil)) (cell 2)) ?_)
  walk_at "nrm"
  generalize (ns.ns[2]?).getD 0 = aside at *
  have hc : cutA ns.ns (some (3 : Int)) none = ns.ns.drop 3 := cut_from ns.ns 3
  have hL : (lnumbers (ns.ns.drop 3) false 40).length ≤ 40 := lnumbers_len (ns.ns.drop 3) false 40
  refine sd_seq (sd_asg (α := List Int) (a := lnumbers (ns.ns.drop 3) false 40) (ed_call (α := List Int) (ea_cons (ed_is (ed_slS (ed_var rfl) (eo_so ed_int) eo_no) hc) (ea_cons ed_bl (ea_cons ed_int ea_nil))) ⟨_, _, _, rfl, rfl⟩) ?_)
  walk_at "nrm"
  generalize lnumbers (ns.ns.drop 3) false 40 = nums' at *
  have hD := drawn9_ok (nums := nums') (aside := aside) hN.1
  have hF := tiles9_few (aside := aside) hN.1 hN.2 hL
  have hlen9 : (tiles9 nums' names aside).length = (ldrawn9 nums' names aside).length := by
    unfold tiles9 ltiles
    rw [List.length_map, lorder_len]
  have hLO : lisring (tiles9 nums' names aside) → LeastOk (tiles9 nums' names aside) (lrowD (tiles9 nums' names aside) (lways (tiles9 nums' names aside))) (sortP (bset (warcs (tiles9 nums' names aside) (lways (tiles9 nums' names aside)))).pr) (pAt (bset (warcs (tiles9 nums' names aside) (lways (tiles9 nums' names aside)))).pr) (lways (tiles9 nums' names aside)) := least_ok
  have hMO : lisring (tiles9 nums' names aside) → (((lrowD (tiles9 nums' names aside) (lways (tiles9 nums' names aside))).filter fun st => st.2).length : Int) ≤ most9 (ldrawn9 nums' names aside) aside := fun h => most9_ok (hLO h)
  refine sd_seq (sd_asg (α := List Part) (a := ldrawn9 nums' names aside) (ed_call (α := List Part) (ea_cons (ed_var rfl) (ea_cons (ed_var rfl) (ea_cons (ed_var rfl) ea_nil))) ⟨nums', names, aside, hN.1, hN.2, by omega, rfl, rfl⟩) ?_)
  walk_at "nrm"
  refine sd_seq (sd_asg (α := List (Int × Int)) (a := tiles9 nums' names aside) (ed_call (α := List (Int × Int)) (ea_cons (ed_var rfl) (ea_cons (ed_call (α := List Int) (a := lorder nums' (ldrawn9 nums' names aside).length (aside / 320)) (ea_cons (ed_var rfl) (ea_cons (ed_len (erl_sh (ed_var rfl))) (ea_cons (ed_iC (ed_var rfl) ed_int ⟨by decide, by decide⟩) ea_nil))) ⟨nums', _, aside / 320, hD.1, by omega, rfl, rfl⟩) ea_nil)) ⟨_, _, by rw [lorder_len]; omega, fun k hk => mem_lorder.mp hk, rfl, rfl⟩) ?_)
  walk_at "nrm"
  have hDl := hD.1
  generalize tiles9 nums' names aside = tiles at *
  generalize ldrawn9 nums' names aside = parts at *
  have hT := hF.1
  have hM := lmarks_few hF
  have hPl := lparts_len tiles
  have hol : (lodds tiles).length ≤ (lmarks tiles).length := List.length_filter_le _ _
  have hG : ∀ g ∈ lparts tiles, g.length ≤ 1000 := fun g hg => by
    obtain ⟨L, _, e⟩ := List.mem_map.mp hg
    have := lreach_len tiles L
    rw [e] at this
    omega
  refine sd_seq (sd_asg (α := List (List Int)) (ed_call (α := List (List Int)) (ea_cons (ed_var rfl) ea_nil) ⟨tiles, hF, rfl, rfl⟩) ?_)
  walk_at "nrm"
  refine sd_seq (sd_asg (α := List Int) (ed_call (α := List Int) (ea_cons (ed_var rfl) ea_nil) ⟨tiles, hF, rfl, rfl⟩) ?_)
  walk_at "nrm"
  refine sd_seq (sd_asg (α := List (Int × Int)) (ed_list (erl_sh (ed_var rfl))) ?_)
  walk_at "nrm"
  refine sd_seq (sd_asg (α := TLeast) (a := lleast tiles) (ed_call (α := TLeast) (ea_cons (ed_var rfl) ea_nil) ⟨tiles, hF, rfl, rfl⟩) ?_)
  walk_at "nrm"
  refine sd_seq (sd_if (et_test (ed_neD (α := List (Int × Int)) (ed_var rfl) (ed_var rfl))) (fun hb => ?_) (fun hb => ?_))
  · rw [decide_eq_true rfl] at hb
    cases hb
  refine sd_next ?_
  by_cases hr : lisring tiles
  · have hle : lleast tiles = .least (lrowD tiles (lways tiles)) (sortP (bset (warcs tiles (lways tiles))).pr) := by
      unfold lleast
      rw [if_pos hr]
    have hO := hLO hr
    have hmm := hMO hr
    rw [hle, hO.prices]
    generalize pAt (bset (warcs tiles (lways tiles))).pr = P0 at *
    generalize lrowD tiles (lways tiles) = row at *
    refine sd_seq (sd_if (et_or (et_test (ed_b0 (g := fun i j => decide (i > j)) (ed_len (erl_sh (ed_var rfl))) ed_int)) (fun _ => (et_test (ed_neD (α := List Int) (ed_var rfl) (ed_lst eas_nil))))) (fun hb => ?_) (fun hb => ?_))
    · rw [decide_eq_true hr.2, decide_eq_false (by have := hr.1; omega)] at hb
      cases hb
    refine sd_next ?_
    refine sd_seq (sd_asg (α := Int) (ed_len (erl_sh (ed_var rfl))) ?_)
    walk_at "nrm"
    refine sd_cut (fun d => ∃ y11, d = [.sh ns, .sh names, .sh aside, .sh nums', .sh parts, .sh tiles, .sh (lparts tiles), .sh (lodds tiles), .sh tiles, .sh (TLeast.least row (lpp tiles P0)), .sh (most9 parts aside), y11]) (sd_if (et_test (ed_b0 (g := fun i j => decide (i < j)) (ed_iC (ed_var rfl) ed_int (show (0 : Int) < 5 by decide)) ed_int)) (fun hb => ?_) (fun hb => ?_)) fun d' hI => ?_
    · refine sd_asg (α := Int) (a := most9 parts aside) (ed_is (ed_len (erl_sh (ed_is (b := parts.filter fun p => p.c) (ed_lc (fun y : Part => y.c) (fun y : Part => y) (id_list (ed_var rfl)) (by omega) fun y hy => ⟨_, gd_name (by simp), et_B (ed_3c (α := Int) (β := Int) (γ := Bool) (ed_var rfl)), fun _ => ed_var rfl⟩) (List.map_id' _)))) (by unfold most9; rw [if_pos (of_decide_eq_true hb)])) ?_
      exact ⟨_, rfl⟩
    · refine sd_next ?_
      have e : most9 parts aside = (parts.length : Int) := by
        unfold most9
        rw [if_neg (of_decide_eq_false hb)]
      rw [e]
      exact ⟨_, rfl⟩
    · obtain ⟨y11, rfl⟩ := hI
      exact sd_ret (α := Bool) (ed_call (α := Bool) (a := true) (ea_cons (ed_var rfl) (ea_cons (ed_var rfl) (ea_cons (ed_var rfl) ea_nil))) ⟨tiles, row, P0, _, hF, hO.fits, hO.nil, hO.ring, hmm, rfl, rfl⟩) rfl
  · have hle : lleast tiles = .told (lonering tiles) := by
      unfold lleast
      rw [if_neg hr]
    rw [hle]
    have hcase : (lparts tiles).length ≤ 1 ∧ lonering tiles = .odd (lodds tiles) ∨ 1 < (lparts tiles).length ∧ lonering tiles = .parted (lparts tiles) := by
      unfold lonering
      by_cases c1 : 1 < (lparts tiles).length
      · exact .inr ⟨c1, by rw [if_pos c1]⟩
      · refine .inl ⟨by omega, ?_⟩
        rw [if_neg c1, if_neg fun z => hr ⟨by omega, z⟩]
    refine sd_seq (sd_if (et_or (et_test (ed_b0 (g := fun i j => decide (i > j)) (ed_len (erl_sh (ed_var rfl))) ed_int)) (fun _ => (et_test (ed_neD (α := List Int) (ed_var rfl) (ed_lst eas_nil))))) (fun hb => ?_) (fun hb => ?_))
    · exact sd_ret (α := Bool) (ed_call (α := Bool) (a := true) (ea_cons (ed_asTold (ed_var rfl)) (ea_cons (ed_var rfl) (ea_cons (ed_var rfl) ea_nil))) ⟨lonering tiles, lparts tiles, lodds tiles, by omega, by omega, hG, hcase, rfl, rfl⟩) rfl
    · exfalso
      rw [Bool.or_eq_false_iff, decide_eq_false_iff_not] at hb
      refine hr ⟨by omega, Classical.byContradiction fun z => ?_⟩
      have h2 := hb.2
      rw [decide_eq_false z] at h2
      cases h2
end
end TC
namespace TC
open PySem PySem.Spec L2
open Evl (Ex)
local macro_rules | `(tactic| walk_at "nrm") => `(tactic| simp only [List.set_cons_zero, List.set_cons_succ, List.cons_append, List.nil_append, List.append_nil, wipeS])
theorem all_mk {l : PySem.W.OpenLaw} {w : World} {K : PySem.W.Frag} {h : Heap} {mg : Str → Option Value} {fa : Addr} (X : K.In h) (G : h.Ns mainGlobals mg) (hfa : mg "law" = some (.ref fa))
    {f0 : Addr} {od0 an0 : Option Addr} {sl0 : Array (Option Value)} {oc0 kV0 dc0 pm0 cd0 ct0 : Value}
    (a0 : PySem.W.nsIn K mainGlobals "counts" = some (some (.ref f0))) (l0 : K.lookup f0 = some ⟨oc0, od0, .func (PySem.W.fnOf "counts" "counts" (defArgs s_counts) (defBody s_counts) (defScope s_counts) .none kV0 dc0 pm0 an0 cd0 ct0), sl0⟩) (c0 : PySem.W.codeIn K cd0 "counts" = true) (k0 : PySem.W.keepIn K (.ref f0) = true)
    {f1 : Addr} {od1 an1 : Option Addr} {sl1 : Array (Option Value)} {oc1 kV1 dc1 pm1 cd1 ct1 : Value}
    (a1 : PySem.W.nsIn K mainGlobals "heads_of" = some (some (.ref f1))) (l1 : K.lookup f1 = some ⟨oc1, od1, .func (PySem.W.fnOf "heads_of" "heads_of" (defArgs s_heads_of) (defBody s_heads_of) (defScope s_heads_of) .none kV1 dc1 pm1 an1 cd1 ct1), sl1⟩) (c1 : PySem.W.codeIn K cd1 "heads_of" = true) (k1 : PySem.W.keepIn K (.ref f1) = true)
    {f2 : Addr} {od2 an2 : Option Addr} {sl2 : Array (Option Value)} {oc2 kV2 dc2 pm2 cd2 ct2 : Value}
    (a2 : PySem.W.nsIn K mainGlobals "is_number" = some (some (.ref f2))) (l2 : K.lookup f2 = some ⟨oc2, od2, .func (PySem.W.fnOf "is_number" "is_number" (defArgs s_is_number) (defBody s_is_number) (defScope s_is_number) .none kV2 dc2 pm2 an2 cd2 ct2), sl2⟩) (c2 : PySem.W.codeIn K cd2 "is_number" = true) (k2 : PySem.W.keepIn K (.ref f2) = true)
    {f3 : Addr} {od3 an3 : Option Addr} {sl3 : Array (Option Value)} {oc3 kV3 dc3 pm3 cd3 ct3 : Value}
    (a3 : PySem.W.nsIn K mainGlobals "taken" = some (some (.ref f3))) (l3 : K.lookup f3 = some ⟨oc3, od3, .func (PySem.W.fnOf "taken" "taken" (defArgs s_taken) (defBody s_taken) (defScope s_taken) .none kV3 dc3 pm3 an3 cd3 ct3), sl3⟩) (c3 : PySem.W.codeIn K cd3 "taken" = true) (k3 : PySem.W.keepIn K (.ref f3) = true)
    {f4 : Addr} {od4 an4 : Option Addr} {sl4 : Array (Option Value)} {oc4 kV4 dc4 pm4 cd4 ct4 : Value}
    (a4 : PySem.W.nsIn K mainGlobals "both_ways" = some (some (.ref f4))) (l4 : K.lookup f4 = some ⟨oc4, od4, .func (PySem.W.fnOf "both_ways" "both_ways" (defArgs s_both_ways) (defBody s_both_ways) (defScope s_both_ways) .none kV4 dc4 pm4 an4 cd4 ct4), sl4⟩) (c4 : PySem.W.codeIn K cd4 "both_ways" = true) (k4 : PySem.W.keepIn K (.ref f4) = true)
    {f5 : Addr} {od5 an5 : Option Addr} {sl5 : Array (Option Value)} {oc5 kV5 dc5 pm5 cd5 ct5 : Value}
    (a5 : PySem.W.nsIn K mainGlobals "bridged" = some (some (.ref f5))) (l5 : K.lookup f5 = some ⟨oc5, od5, .func (PySem.W.fnOf "bridged" "bridged" (defArgs s_bridged) (defBody s_bridged) (defScope s_bridged) .none kV5 dc5 pm5 an5 cd5 ct5), sl5⟩) (c5 : PySem.W.codeIn K cd5 "bridged" = true) (k5 : PySem.W.keepIn K (.ref f5) = true)
    {f6 : Addr} {od6 an6 : Option Addr} {sl6 : Array (Option Value)} {oc6 kV6 dc6 pm6 cd6 ct6 : Value}
    (a6 : PySem.W.nsIn K mainGlobals "without_bridges" = some (some (.ref f6))) (l6 : K.lookup f6 = some ⟨oc6, od6, .func (PySem.W.fnOf "without_bridges" "without_bridges" (defArgs s_without_bridges) (defBody s_without_bridges) (defScope s_without_bridges) .none kV6 dc6 pm6 an6 cd6 ct6), sl6⟩) (c6 : PySem.W.codeIn K cd6 "without_bridges" = true) (k6 : PySem.W.keepIn K (.ref f6) = true)
    {f7 : Addr} {od7 an7 : Option Addr} {sl7 : Array (Option Value)} {oc7 kV7 dc7 pm7 cd7 ct7 : Value}
    (a7 : PySem.W.nsIn K mainGlobals "lowered" = some (some (.ref f7))) (l7 : K.lookup f7 = some ⟨oc7, od7, .func (PySem.W.fnOf "lowered" "lowered" (defArgs s_lowered) (defBody s_lowered) (defScope s_lowered) .none kV7 dc7 pm7 an7 cd7 ct7), sl7⟩) (c7 : PySem.W.codeIn K cd7 "lowered" = true) (k7 : PySem.W.keepIn K (.ref f7) = true)
    {f8 : Addr} {od8 an8 : Option Addr} {sl8 : Array (Option Value)} {oc8 kV8 dc8 pm8 cd8 ct8 : Value}
    (a8 : PySem.W.nsIn K mainGlobals "way_round" = some (some (.ref f8))) (l8 : K.lookup f8 = some ⟨oc8, od8, .func (PySem.W.fnOf "way_round" "way_round" (defArgs s_way_round) (defBody s_way_round) (defScope s_way_round) .none kV8 dc8 pm8 an8 cd8 ct8), sl8⟩) (c8 : PySem.W.codeIn K cd8 "way_round" = true) (k8 : PySem.W.keepIn K (.ref f8) = true)
    {f9 : Addr} {od9 an9 : Option Addr} {sl9 : Array (Option Value)} {oc9 kV9 dc9 pm9 cd9 ct9 : Value}
    (a9 : PySem.W.nsIn K mainGlobals "_law_cell_at" = some (some (.ref f9))) (l9 : K.lookup f9 = some ⟨oc9, od9, .func (PySem.W.fnOf "_law_cell_at" "_law_cell_at" (defArgs s__law_cell_at) (defBody s__law_cell_at) (defScope s__law_cell_at) .none kV9 dc9 pm9 an9 cd9 ct9), sl9⟩) (c9 : PySem.W.codeIn K cd9 "_law_cell_at" = true) (k9 : PySem.W.keepIn K (.ref f9) = true)
    {f10 : Addr} {od10 an10 : Option Addr} {sl10 : Array (Option Value)} {oc10 kV10 dc10 pm10 cd10 ct10 : Value}
    (a10 : PySem.W.nsIn K mainGlobals "_law_whole" = some (some (.ref f10))) (l10 : K.lookup f10 = some ⟨oc10, od10, .func (PySem.W.fnOf "_law_whole" "_law_whole" (defArgs s__law_whole) (defBody s__law_whole) (defScope s__law_whole) .none kV10 dc10 pm10 an10 cd10 ct10), sl10⟩) (c10 : PySem.W.codeIn K cd10 "_law_whole" = true) (k10 : PySem.W.keepIn K (.ref f10) = true)
    {f11 : Addr} {od11 an11 : Option Addr} {sl11 : Array (Option Value)} {oc11 kV11 dc11 pm11 cd11 ct11 : Value}
    (a11 : PySem.W.nsIn K mainGlobals "_law_names" = some (some (.ref f11))) (l11 : K.lookup f11 = some ⟨oc11, od11, .func (PySem.W.fnOf "_law_names" "_law_names" (defArgs s__law_names) (defBody s__law_names) (defScope s__law_names) .none kV11 dc11 pm11 an11 cd11 ct11), sl11⟩) (c11 : PySem.W.codeIn K cd11 "_law_names" = true) (k11 : PySem.W.keepIn K (.ref f11) = true)
    {f12 : Addr} {od12 an12 : Option Addr} {sl12 : Array (Option Value)} {oc12 kV12 dc12 pm12 cd12 ct12 : Value}
    (a12 : PySem.W.nsIn K mainGlobals "_law_numbers" = some (some (.ref f12))) (l12 : K.lookup f12 = some ⟨oc12, od12, .func (PySem.W.fnOf "_law_numbers" "_law_numbers" (defArgs s__law_numbers) (defBody s__law_numbers) (defScope s__law_numbers) .none kV12 dc12 pm12 an12 cd12 ct12), sl12⟩) (c12 : PySem.W.codeIn K cd12 "_law_numbers" = true) (k12 : PySem.W.keepIn K (.ref f12) = true)
    {f13 : Addr} {od13 an13 : Option Addr} {sl13 : Array (Option Value)} {oc13 kV13 dc13 pm13 cd13 ct13 : Value}
    (a13 : PySem.W.nsIn K mainGlobals "_law_walk" = some (some (.ref f13))) (l13 : K.lookup f13 = some ⟨oc13, od13, .func (PySem.W.fnOf "_law_walk" "_law_walk" (defArgs s__law_walk) (defBody s__law_walk) (defScope s__law_walk) .none kV13 dc13 pm13 an13 cd13 ct13), sl13⟩) (c13 : PySem.W.codeIn K cd13 "_law_walk" = true) (k13 : PySem.W.keepIn K (.ref f13) = true)
    {f14 : Addr} {od14 an14 : Option Addr} {sl14 : Array (Option Value)} {oc14 kV14 dc14 pm14 cd14 ct14 : Value}
    (a14 : PySem.W.nsIn K mainGlobals "_law_tile" = some (some (.ref f14))) (l14 : K.lookup f14 = some ⟨oc14, od14, .func (PySem.W.fnOf "_law_tile" "_law_tile" (defArgs s__law_tile) (defBody s__law_tile) (defScope s__law_tile) .none kV14 dc14 pm14 an14 cd14 ct14), sl14⟩) (c14 : PySem.W.codeIn K cd14 "_law_tile" = true) (k14 : PySem.W.keepIn K (.ref f14) = true)
    {f15 : Addr} {od15 an15 : Option Addr} {sl15 : Array (Option Value)} {oc15 kV15 dc15 pm15 cd15 ct15 : Value}
    (a15 : PySem.W.nsIn K mainGlobals "_law_order" = some (some (.ref f15))) (l15 : K.lookup f15 = some ⟨oc15, od15, .func (PySem.W.fnOf "_law_order" "_law_order" (defArgs s__law_order) (defBody s__law_order) (defScope s__law_order) .none kV15 dc15 pm15 an15 cd15 ct15), sl15⟩) (c15 : PySem.W.codeIn K cd15 "_law_order" = true) (k15 : PySem.W.keepIn K (.ref f15) = true)
    {f16 : Addr} {od16 an16 : Option Addr} {sl16 : Array (Option Value)} {oc16 kV16 dc16 pm16 cd16 ct16 : Value}
    (a16 : PySem.W.nsIn K mainGlobals "_law_marks" = some (some (.ref f16))) (l16 : K.lookup f16 = some ⟨oc16, od16, .func (PySem.W.fnOf "_law_marks" "_law_marks" (defArgs s__law_marks) (defBody s__law_marks) (defScope s__law_marks) .none kV16 dc16 pm16 an16 cd16 ct16), sl16⟩) (c16 : PySem.W.codeIn K cd16 "_law_marks" = true) (k16 : PySem.W.keepIn K (.ref f16) = true)
    {f17 : Addr} {od17 an17 : Option Addr} {sl17 : Array (Option Value)} {oc17 kV17 dc17 pm17 cd17 ct17 : Value}
    (a17 : PySem.W.nsIn K mainGlobals "_law_reached" = some (some (.ref f17))) (l17 : K.lookup f17 = some ⟨oc17, od17, .func (PySem.W.fnOf "_law_reached" "_law_reached" (defArgs s__law_reached) (defBody s__law_reached) (defScope s__law_reached) .none kV17 dc17 pm17 an17 cd17 ct17), sl17⟩) (c17 : PySem.W.codeIn K cd17 "_law_reached" = true) (k17 : PySem.W.keepIn K (.ref f17) = true)
    {f18 : Addr} {od18 an18 : Option Addr} {sl18 : Array (Option Value)} {oc18 kV18 dc18 pm18 cd18 ct18 : Value}
    (a18 : PySem.W.nsIn K mainGlobals "_law_odds" = some (some (.ref f18))) (l18 : K.lookup f18 = some ⟨oc18, od18, .func (PySem.W.fnOf "_law_odds" "_law_odds" (defArgs s__law_odds) (defBody s__law_odds) (defScope s__law_odds) .none kV18 dc18 pm18 an18 cd18 ct18), sl18⟩) (c18 : PySem.W.codeIn K cd18 "_law_odds" = true) (k18 : PySem.W.keepIn K (.ref f18) = true)
    {f19 : Addr} {od19 an19 : Option Addr} {sl19 : Array (Option Value)} {oc19 kV19 dc19 pm19 cd19 ct19 : Value}
    (a19 : PySem.W.nsIn K mainGlobals "odd_marks" = some (some (.ref f19))) (l19 : K.lookup f19 = some ⟨oc19, od19, .func (PySem.W.fnOf "odd_marks" "odd_marks" (defArgs s_odd_marks) (defBody s_odd_marks) (defScope s_odd_marks) .none kV19 dc19 pm19 an19 cd19 ct19), sl19⟩) (c19 : PySem.W.codeIn K cd19 "odd_marks" = true) (k19 : PySem.W.keepIn K (.ref f19) = true)
    {f20 : Addr} {od20 an20 : Option Addr} {sl20 : Array (Option Value)} {oc20 kV20 dc20 pm20 cd20 ct20 : Value}
    (a20 : PySem.W.nsIn K mainGlobals "parts_of" = some (some (.ref f20))) (l20 : K.lookup f20 = some ⟨oc20, od20, .func (PySem.W.fnOf "parts_of" "parts_of" (defArgs s_parts_of) (defBody s_parts_of) (defScope s_parts_of) .none kV20 dc20 pm20 an20 cd20 ct20), sl20⟩) (c20 : PySem.W.codeIn K cd20 "parts_of" = true) (k20 : PySem.W.keepIn K (.ref f20) = true)
    {f21 : Addr} {od21 an21 : Option Addr} {sl21 : Array (Option Value)} {oc21 kV21 dc21 pm21 cd21 ct21 : Value}
    (a21 : PySem.W.nsIn K mainGlobals "faces" = some (some (.ref f21))) (l21 : K.lookup f21 = some ⟨oc21, od21, .func (PySem.W.fnOf "faces" "faces" (defArgs s_faces) (defBody s_faces) (defScope s_faces) .none kV21 dc21 pm21 an21 cd21 ct21), sl21⟩) (c21 : PySem.W.codeIn K cd21 "faces" = true) (k21 : PySem.W.keepIn K (.ref f21) = true)
    {f22 : Addr} {od22 an22 : Option Addr} {sl22 : Array (Option Value)} {oc22 kV22 dc22 pm22 cd22 ct22 : Value}
    (a22 : PySem.W.nsIn K mainGlobals "_law_tiles" = some (some (.ref f22))) (l22 : K.lookup f22 = some ⟨oc22, od22, .func (PySem.W.fnOf "_law_tiles" "_law_tiles" (defArgs s__law_tiles) (defBody s__law_tiles) (defScope s__law_tiles) .none kV22 dc22 pm22 an22 cd22 ct22), sl22⟩) (c22 : PySem.W.codeIn K cd22 "_law_tiles" = true) (k22 : PySem.W.keepIn K (.ref f22) = true)
    {f23 : Addr} {od23 an23 : Option Addr} {sl23 : Array (Option Value)} {oc23 kV23 dc23 pm23 cd23 ct23 : Value}
    (a23 : PySem.W.nsIn K mainGlobals "_law_groups" = some (some (.ref f23))) (l23 : K.lookup f23 = some ⟨oc23, od23, .func (PySem.W.fnOf "_law_groups" "_law_groups" (defArgs s__law_groups) (defBody s__law_groups) (defScope s__law_groups) .none kV23 dc23 pm23 an23 cd23 ct23), sl23⟩) (c23 : PySem.W.codeIn K cd23 "_law_groups" = true) (k23 : PySem.W.keepIn K (.ref f23) = true)
    {f24 : Addr} {od24 an24 : Option Addr} {sl24 : Array (Option Value)} {oc24 kV24 dc24 pm24 cd24 ct24 : Value}
    (a24 : PySem.W.nsIn K mainGlobals "_law_alike" = some (some (.ref f24))) (l24 : K.lookup f24 = some ⟨oc24, od24, .func (PySem.W.fnOf "_law_alike" "_law_alike" (defArgs s__law_alike) (defBody s__law_alike) (defScope s__law_alike) .none kV24 dc24 pm24 an24 cd24 ct24), sl24⟩) (c24 : PySem.W.codeIn K cd24 "_law_alike" = true) (k24 : PySem.W.keepIn K (.ref f24) = true)
    {f25 : Addr} {od25 an25 : Option Addr} {sl25 : Array (Option Value)} {oc25 kV25 dc25 pm25 cd25 ct25 : Value}
    (a25 : PySem.W.nsIn K mainGlobals "_law_step" = some (some (.ref f25))) (l25 : K.lookup f25 = some ⟨oc25, od25, .func (PySem.W.fnOf "_law_step" "_law_step" (defArgs s__law_step) (defBody s__law_step) (defScope s__law_step) .none kV25 dc25 pm25 an25 cd25 ct25), sl25⟩) (c25 : PySem.W.codeIn K cd25 "_law_step" = true) (k25 : PySem.W.keepIn K (.ref f25) = true)
    {f26 : Addr} {od26 an26 : Option Addr} {sl26 : Array (Option Value)} {oc26 kV26 dc26 pm26 cd26 ct26 : Value}
    (a26 : PySem.W.nsIn K mainGlobals "_law_priced" = some (some (.ref f26))) (l26 : K.lookup f26 = some ⟨oc26, od26, .func (PySem.W.fnOf "_law_priced" "_law_priced" (defArgs s__law_priced) (defBody s__law_priced) (defScope s__law_priced) .none kV26 dc26 pm26 an26 cd26 ct26), sl26⟩) (c26 : PySem.W.codeIn K cd26 "_law_priced" = true) (k26 : PySem.W.keepIn K (.ref f26) = true)
    {f27 : Addr} {od27 an27 : Option Addr} {sl27 : Array (Option Value)} {oc27 kV27 dc27 pm27 cd27 ct27 : Value}
    (a27 : PySem.W.nsIn K mainGlobals "_law_drawn" = some (some (.ref f27))) (l27 : K.lookup f27 = some ⟨oc27, od27, .func (PySem.W.fnOf "_law_drawn" "_law_drawn" (defArgs s__law_drawn) (defBody s__law_drawn) (defScope s__law_drawn) .none kV27 dc27 pm27 an27 cd27 ct27), sl27⟩) (c27 : PySem.W.codeIn K cd27 "_law_drawn" = true) (k27 : PySem.W.keepIn K (.ref f27) = true)
    {f28 : Addr} {od28 an28 : Option Addr} {sl28 : Array (Option Value)} {oc28 kV28 dc28 pm28 cd28 ct28 : Value}
    (a28 : PySem.W.nsIn K mainGlobals "leaving" = some (some (.ref f28))) (l28 : K.lookup f28 = some ⟨oc28, od28, .func (PySem.W.fnOf "leaving" "leaving" (defArgs s_leaving) (defBody s_leaving) (defScope s_leaving) .none kV28 dc28 pm28 an28 cd28 ct28), sl28⟩) (c28 : PySem.W.codeIn K cd28 "leaving" = true) (k28 : PySem.W.keepIn K (.ref f28) = true)
    {f29 : Addr} {od29 an29 : Option Addr} {sl29 : Array (Option Value)} {oc29 kV29 dc29 pm29 cd29 ct29 : Value}
    (a29 : PySem.W.nsIn K mainGlobals "walk_from" = some (some (.ref f29))) (l29 : K.lookup f29 = some ⟨oc29, od29, .func (PySem.W.fnOf "walk_from" "walk_from" (defArgs s_walk_from) (defBody s_walk_from) (defScope s_walk_from) .none kV29 dc29 pm29 an29 cd29 ct29), sl29⟩) (c29 : PySem.W.codeIn K cd29 "walk_from" = true) (k29 : PySem.W.keepIn K (.ref f29) = true)
    {f30 : Addr} {od30 an30 : Option Addr} {sl30 : Array (Option Value)} {oc30 kV30 dc30 pm30 cd30 ct30 : Value}
    (a30 : PySem.W.nsIn K mainGlobals "arcs_of" = some (some (.ref f30))) (l30 : K.lookup f30 = some ⟨oc30, od30, .func (PySem.W.fnOf "arcs_of" "arcs_of" (defArgs s_arcs_of) (defBody s_arcs_of) (defScope s_arcs_of) .none kV30 dc30 pm30 an30 cd30 ct30), sl30⟩) (c30 : PySem.W.codeIn K cd30 "arcs_of" = true) (k30 : PySem.W.keepIn K (.ref f30) = true)
    {f31 : Addr} {od31 an31 : Option Addr} {sl31 : Array (Option Value)} {oc31 kV31 dc31 pm31 cd31 ct31 : Value}
    (a31 : PySem.W.nsIn K mainGlobals "_law_reason" = some (some (.ref f31))) (l31 : K.lookup f31 = some ⟨oc31, od31, .func (PySem.W.fnOf "_law_reason" "_law_reason" (defArgs s__law_reason) (defBody s__law_reason) (defScope s__law_reason) .none kV31 dc31 pm31 an31 cd31 ct31), sl31⟩) (c31 : PySem.W.codeIn K cd31 "_law_reason" = true) (k31 : PySem.W.keepIn K (.ref f31) = true)
    {f32 : Addr} {od32 an32 : Option Addr} {sl32 : Array (Option Value)} {oc32 kV32 dc32 pm32 cd32 ct32 : Value}
    (a32 : PySem.W.nsIn K mainGlobals "_law_walked" = some (some (.ref f32))) (l32 : K.lookup f32 = some ⟨oc32, od32, .func (PySem.W.fnOf "_law_walked" "_law_walked" (defArgs s__law_walked) (defBody s__law_walked) (defScope s__law_walked) .none kV32 dc32 pm32 an32 cd32 ct32), sl32⟩) (c32 : PySem.W.codeIn K cd32 "_law_walked" = true) (k32 : PySem.W.keepIn K (.ref f32) = true)
    {f33 : Addr} {od33 an33 : Option Addr} {sl33 : Array (Option Value)} {oc33 kV33 dc33 pm33 cd33 ct33 : Value}
    (a33 : PySem.W.nsIn K mainGlobals "fewest" = some (some (.ref f33))) (l33 : K.lookup f33 = some ⟨oc33, od33, .func (PySem.W.fnOf "fewest" "fewest" (defArgs s_fewest) (defBody s_fewest) (defScope s_fewest) .none kV33 dc33 pm33 an33 cd33 ct33), sl33⟩) (c33 : PySem.W.codeIn K cd33 "fewest" = true) (k33 : PySem.W.keepIn K (.ref f33) = true)
    {f34 : Addr} {od34 an34 : Option Addr} {sl34 : Array (Option Value)} {oc34 kV34 dc34 pm34 cd34 ct34 : Value}
    (a34 : PySem.W.nsIn K mainGlobals "settled" = some (some (.ref f34))) (l34 : K.lookup f34 = some ⟨oc34, od34, .func (PySem.W.fnOf "settled" "settled" (defArgs s_settled) (defBody s_settled) (defScope s_settled) .none kV34 dc34 pm34 an34 cd34 ct34), sl34⟩) (c34 : PySem.W.codeIn K cd34 "settled" = true) (k34 : PySem.W.keepIn K (.ref f34) = true)
    {f35 : Addr} {od35 an35 : Option Addr} {sl35 : Array (Option Value)} {oc35 kV35 dc35 pm35 cd35 ct35 : Value}
    (a35 : PySem.W.nsIn K mainGlobals "_law_least" = some (some (.ref f35))) (l35 : K.lookup f35 = some ⟨oc35, od35, .func (PySem.W.fnOf "_law_least" "_law_least" (defArgs s__law_least) (defBody s__law_least) (defScope s__law_least) .none kV35 dc35 pm35 an35 cd35 ct35), sl35⟩) (c35 : PySem.W.codeIn K cd35 "_law_least" = true) (k35 : PySem.W.keepIn K (.ref f35) = true)
    {f36 : Addr} {od36 an36 : Option Addr} {sl36 : Array (Option Value)} {oc36 kV36 dc36 pm36 cd36 ct36 : Value}
    (a36 : PySem.W.nsIn K mainGlobals "one_row" = some (some (.ref f36))) (l36 : K.lookup f36 = some ⟨oc36, od36, .func (PySem.W.fnOf "one_row" "one_row" (defArgs s_one_row) (defBody s_one_row) (defScope s_one_row) .none kV36 dc36 pm36 an36 cd36 ct36), sl36⟩) (c36 : PySem.W.codeIn K cd36 "one_row" = true) (k36 : PySem.W.keepIn K (.ref f36) = true)
    {f37 : Addr} {od37 an37 : Option Addr} {sl37 : Array (Option Value)} {oc37 kV37 dc37 pm37 cd37 ct37 : Value}
    (a37 : PySem.W.nsIn K mainGlobals "one_ring" = some (some (.ref f37))) (l37 : K.lookup f37 = some ⟨oc37, od37, .func (PySem.W.fnOf "one_ring" "one_ring" (defArgs s_one_ring) (defBody s_one_ring) (defScope s_one_ring) .none kV37 dc37 pm37 an37 cd37 ct37), sl37⟩) (c37 : PySem.W.codeIn K cd37 "one_ring" = true) (k37 : PySem.W.keepIn K (.ref f37) = true)
    {f38 : Addr} {od38 an38 : Option Addr} {sl38 : Array (Option Value)} {oc38 kV38 dc38 pm38 cd38 ct38 : Value}
    (a38 : PySem.W.nsIn K mainGlobals "least_turned" = some (some (.ref f38))) (l38 : K.lookup f38 = some ⟨oc38, od38, .func (PySem.W.fnOf "least_turned" "least_turned" (defArgs s_least_turned) (defBody s_least_turned) (defScope s_least_turned) .none kV38 dc38 pm38 an38 cd38 ct38), sl38⟩) (c38 : PySem.W.codeIn K cd38 "least_turned" = true) (k38 : PySem.W.keepIn K (.ref f38) = true)
    {f39 : Addr} {od39 an39 : Option Addr} {sl39 : Array (Option Value)} {oc39 kV39 dc39 pm39 cd39 ct39 : Value}
    (a39 : PySem.W.nsIn K mainGlobals "law" = some (some (.ref f39))) (l39 : K.lookup f39 = some ⟨oc39, od39, .func (PySem.W.fnOf "law" "law" (defArgs s_law) (defBody s_law) (defScope s_law) .none kV39 dc39 pm39 an39 cd39 ct39), sl39⟩) (c39 : PySem.W.codeIn K cd39 "law" = true) (k39 : PySem.W.keepIn K (.ref f39) = true)
    (z_sorted : PySem.W.nsIn K mainGlobals "sorted" = some none)
    (z_min : PySem.W.nsIn K mainGlobals "min" = some none)
    (z_len : PySem.W.nsIn K mainGlobals "len" = some none)
    (z_range : PySem.W.nsIn K mainGlobals "range" = some none)
    (z_list : PySem.W.nsIn K mainGlobals "list" = some none)
    (z_enumerate : PySem.W.nsIn K mainGlobals "enumerate" = some none)
    (z_isinstance : PySem.W.nsIn K mainGlobals "isinstance" = some none)
    (z_int : PySem.W.nsIn K mainGlobals "int" = some none)
    (z_bool : PySem.W.nsIn K mainGlobals "bool" = some none)
    (z_set : PySem.W.nsIn K mainGlobals "set" = some none)
    (z_tuple : PySem.W.nsIn K mainGlobals "tuple" = some none)
    (z_max : PySem.W.nsIn K mainGlobals "max" = some none)
    (z_reversed : PySem.W.nsIn K mainGlobals "reversed" = some none)
    (z_zip : PySem.W.nsIn K mainGlobals "zip" = some none)
    (z_str : PySem.W.nsIn K mainGlobals "str" = some none)
    {C_TileError : Addr} (gc_TileError : PySem.W.nsIn K mainGlobals "TileError" = some (some (.ref C_TileError)))
    (xc_TileError : PySem.W.excIn K C_TileError [.type "ValueError", .type "Exception", .type "BaseException", .type "object"] "ValueError.__new__" = true) (kc_TileError : PySem.W.keepIn K (.ref C_TileError) = true) (bc_TileError : PySem.W.subIn K (.ref C_TileError) (.type "BaseException") = some true) (tc_TileError : PySem.W.typeIn K (.ref C_TileError) = some (.type "type"))
    {C_NoTile : Addr} (gc_NoTile : PySem.W.nsIn K mainGlobals "NoTile" = some (some (.ref C_NoTile)))
    (xc_NoTile : PySem.W.excIn K C_NoTile [.type "ValueError", .type "Exception", .type "BaseException", .type "object"] "ValueError.__new__" = true) (kc_NoTile : PySem.W.keepIn K (.ref C_NoTile) = true) (bc_NoTile : PySem.W.subIn K (.ref C_NoTile) (.type "BaseException") = some true) (tc_NoTile : PySem.W.typeIn K (.ref C_NoTile) = some (.type "type")) :
    ∃ fd : FuncData, (∀ (s : Shared) (v : Value), BindsTo s fd ⟨[v], []⟩ [("_law_script", v)]) ∧ ∀ base : Heap, K.In base → base.Ns mainGlobals mg → FnOk l.prog w K mg base CX0 8 fa fd ["_law_script"] (spF (pre_law K)) := by
  have m_sorted : mg "sorted" = none := PySem.W.mg_none_of X G z_sorted
  have m_min : mg "min" = none := PySem.W.mg_none_of X G z_min
  have m_len : mg "len" = none := PySem.W.mg_none_of X G z_len
  have m_range : mg "range" = none := PySem.W.mg_none_of X G z_range
  have m_list : mg "list" = none := PySem.W.mg_none_of X G z_list
  have m_enumerate : mg "enumerate" = none := PySem.W.mg_none_of X G z_enumerate
  have m_isinstance : mg "isinstance" = none := PySem.W.mg_none_of X G z_isinstance
  have m_int : mg "int" = none := PySem.W.mg_none_of X G z_int
  have m_bool : mg "bool" = none := PySem.W.mg_none_of X G z_bool
  have m_set : mg "set" = none := PySem.W.mg_none_of X G z_set
  have m_tuple : mg "tuple" = none := PySem.W.mg_none_of X G z_tuple
  have m_max : mg "max" = none := PySem.W.mg_none_of X G z_max
  have m_reversed : mg "reversed" = none := PySem.W.mg_none_of X G z_reversed
  have m_zip : mg "zip" = none := PySem.W.mg_none_of X G z_zip
  have m_str : mg "str" = none := PySem.W.mg_none_of X G z_str
  have c_TileError : XC K mg "TileError" C_TileError := ⟨PySem.W.mg_of X G gc_TileError, xc_TileError, kc_TileError, bc_TileError, tc_TileError⟩
  have c_NoTile : XC K mg "NoTile" C_NoTile := ⟨PySem.W.mg_of X G gc_NoTile, xc_NoTile, kc_NoTile, bc_NoTile, tc_NoTile⟩
  have D_counts : Def K mg "counts" "counts" s_counts ["tiles"] := def_mk (X := X) G a0 l0 c0 k0 fun _ _ _ _ _ _ us hl => match us, hl with | [_], _ => rfl
  have D_heads_of : Def K mg "heads_of" "heads_of" s_heads_of ["tiles"] := def_mk (X := X) G a1 l1 c1 k1 fun _ _ _ _ _ _ us hl => match us, hl with | [_], _ => rfl
  have D_is_number : Def K mg "is_number" "is_number" s_is_number ["tiles", "number"] := def_mk (X := X) G a2 l2 c2 k2 fun _ _ _ _ _ _ us hl => match us, hl with | [_, _], _ => rfl
  have D_taken : Def K mg "taken" "taken" s_taken ["steps", "used"] := def_mk (X := X) G a3 l3 c3 k3 fun _ _ _ _ _ _ us hl => match us, hl with | [_, _], _ => rfl
  have D_both_ways : Def K mg "both_ways" "both_ways" s_both_ways ["tiles"] := def_mk (X := X) G a4 l4 c4 k4 fun _ _ _ _ _ _ us hl => match us, hl with | [_], _ => rfl
  have D_bridged : Def K mg "bridged" "bridged" s_bridged ["tiles", "groups", "odds"] := def_mk (X := X) G a5 l5 c5 k5 fun _ _ _ _ _ _ us hl => match us, hl with | [_, _, _], _ => rfl
  have D_without_bridges : Def K mg "without_bridges" "without_bridges" s_without_bridges ["walk", "many"] := def_mk (X := X) G a6 l6 c6 k6 fun _ _ _ _ _ _ us hl => match us, hl with | [_, _], _ => rfl
  have D_lowered : Def K mg "lowered" "lowered" s_lowered ["arcs", "prices", "came"] := def_mk (X := X) G a7 l7 c7 k7 fun _ _ _ _ _ _ us hl => match us, hl with | [_, _, _], _ => rfl
  have D_way_round : Def K mg "way_round" "way_round" s_way_round ["arcs", "came", "mark"] := def_mk (X := X) G a8 l8 c8 k8 fun _ _ _ _ _ _ us hl => match us, hl with | [_, _, _], _ => rfl
  have D__law_cell_at : Def K mg "_law_cell_at" "_law_cell_at" s__law_cell_at ["_law_script", "_law_k"] := def_mk (X := X) G a9 l9 c9 k9 fun _ _ _ _ _ _ us hl => match us, hl with | [_, _], _ => rfl
  have D__law_whole : Def K mg "_law_whole" "_law_whole" s__law_whole ["_law_found"] := def_mk (X := X) G a10 l10 c10 k10 fun _ _ _ _ _ _ us hl => match us, hl with | [_], _ => rfl
  have D__law_names : Def K mg "_law_names" "_law_names" s__law_names ["_law_cell", "_law_far"] := def_mk (X := X) G a11 l11 c11 k11 fun _ _ _ _ _ _ us hl => match us, hl with | [_, _], _ => rfl
  have D__law_numbers : Def K mg "_law_numbers" "_law_numbers" s__law_numbers ["_law_cells", "_law_more", "_law_most"] := def_mk (X := X) G a12 l12 c12 k12 fun _ _ _ _ _ _ us hl => match us, hl with | [_, _, _], _ => rfl
  have D__law_walk : Def K mg "_law_walk" "_law_walk" s__law_walk ["_law_numbers_here", "_law_names_here", "_law_closed"] := def_mk (X := X) G a13 l13 c13 k13 fun _ _ _ _ _ _ us hl => match us, hl with | [_, _, _], _ => rfl
  have D__law_tile : Def K mg "_law_tile" "_law_tile" s__law_tile ["_law_part"] := def_mk (X := X) G a14 l14 c14 k14 fun _ _ _ _ _ _ us hl => match us, hl with | [_], _ => rfl
  have D__law_order : Def K mg "_law_order" "_law_order" s__law_order ["_law_numbers_here", "_law_size", "_law_way"] := def_mk (X := X) G a15 l15 c15 k15 fun _ _ _ _ _ _ us hl => match us, hl with | [_, _, _], _ => rfl
  have D__law_marks : Def K mg "_law_marks" "_law_marks" s__law_marks ["_law_tiles_here"] := def_mk (X := X) G a16 l16 c16 k16 fun _ _ _ _ _ _ us hl => match us, hl with | [_], _ => rfl
  have D__law_reached : Def K mg "_law_reached" "_law_reached" s__law_reached ["_law_tiles_here", "_law_start"] := def_mk (X := X) G a17 l17 c17 k17 fun _ _ _ _ _ _ us hl => match us, hl with | [_, _], _ => rfl
  have D__law_odds : Def K mg "_law_odds" "_law_odds" s__law_odds ["_law_tiles_here"] := def_mk (X := X) G a18 l18 c18 k18 fun _ _ _ _ _ _ us hl => match us, hl with | [_], _ => rfl
  have D_odd_marks : Def K mg "odd_marks" "odd_marks" s_odd_marks ["tiles"] := def_mk (X := X) G a19 l19 c19 k19 fun _ _ _ _ _ _ us hl => match us, hl with | [_], _ => rfl
  have D_parts_of : Def K mg "parts_of" "parts_of" s_parts_of ["tiles"] := def_mk (X := X) G a20 l20 c20 k20 fun _ _ _ _ _ _ us hl => match us, hl with | [_], _ => rfl
  have D_faces : Def K mg "faces" "faces" s_faces ["tiles", "step"] := def_mk (X := X) G a21 l21 c21 k21 fun _ _ _ _ _ _ us hl => match us, hl with | [_, _], _ => rfl
  have D__law_tiles : Def K mg "_law_tiles" "_law_tiles" s__law_tiles ["_law_parts", "_law_order_here"] := def_mk (X := X) G a22 l22 c22 k22 fun _ _ _ _ _ _ us hl => match us, hl with | [_, _], _ => rfl
  have D__law_groups : Def K mg "_law_groups" "_law_groups" s__law_groups ["_law_tiles_here"] := def_mk (X := X) G a23 l23 c23 k23 fun _ _ _ _ _ _ us hl => match us, hl with | [_], _ => rfl
  have D__law_alike : Def K mg "_law_alike" "_law_alike" s__law_alike ["_law_found", "_law_due"] := def_mk (X := X) G a24 l24 c24 k24 fun _ _ _ _ _ _ us hl => match us, hl with | [_, _], _ => rfl
  have D__law_step : Def K mg "_law_step" "_law_step" s__law_step ["_law_step_here", "_law_many"] := def_mk (X := X) G a25 l25 c25 k25 fun _ _ _ _ _ _ us hl => match us, hl with | [_, _], _ => rfl
  have D__law_priced : Def K mg "_law_priced" "_law_priced" s__law_priced ["_law_tiles_here", "_law_row", "_law_found"] := def_mk (X := X) G a26 l26 c26 k26 fun _ _ _ _ _ _ us hl => match us, hl with | [_, _, _], _ => rfl
  have D__law_drawn : Def K mg "_law_drawn" "_law_drawn" s__law_drawn ["_law_numbers_here", "_law_names_here", "_law_aside"] := def_mk (X := X) G a27 l27 c27 k27 fun _ _ _ _ _ _ us hl => match us, hl with | [_, _, _], _ => rfl
  have D_leaving : Def K mg "leaving" "leaving" s_leaving ["tiles", "steps"] := def_mk (X := X) G a28 l28 c28 k28 fun _ _ _ _ _ _ us hl => match us, hl with | [_, _], _ => rfl
  have D_walk_from : Def K mg "walk_from" "walk_from" s_walk_from ["tiles", "steps", "used", "mark"] := def_mk (X := X) G a29 l29 c29 k29 fun _ _ _ _ _ _ us hl => match us, hl with | [_, _, _, _], _ => rfl
  have D_arcs_of : Def K mg "arcs_of" "arcs_of" s_arcs_of ["tiles", "ways"] := def_mk (X := X) G a30 l30 c30 k30 fun _ _ _ _ _ _ us hl => match us, hl with | [_, _], _ => rfl
  have D__law_reason : Def K mg "_law_reason" "_law_reason" s__law_reason ["_law_found", "_law_groups_here", "_law_odds_here"] := def_mk (X := X) G a31 l31 c31 k31 fun _ _ _ _ _ _ us hl => match us, hl with | [_, _, _], _ => rfl
  have D__law_walked : Def K mg "_law_walked" "_law_walked" s__law_walked ["_law_tiles_here", "_law_row"] := def_mk (X := X) G a32 l32 c32 k32 fun _ _ _ _ _ _ us hl => match us, hl with | [_, _], _ => rfl
  have D_fewest : Def K mg "fewest" "fewest" s_fewest ["tiles"] := def_mk (X := X) G a33 l33 c33 k33 fun _ _ _ _ _ _ us hl => match us, hl with | [_], _ => rfl
  have D_settled : Def K mg "settled" "settled" s_settled ["tiles", "ways"] := def_mk (X := X) G a34 l34 c34 k34 fun _ _ _ _ _ _ us hl => match us, hl with | [_, _], _ => rfl
  have D__law_least : Def K mg "_law_least" "_law_least" s__law_least ["_law_found", "_law_tiles_here", "_law_most"] := def_mk (X := X) G a35 l35 c35 k35 fun _ _ _ _ _ _ us hl => match us, hl with | [_, _, _], _ => rfl
  have D_one_row : Def K mg "one_row" "one_row" s_one_row ["tiles"] := def_mk (X := X) G a36 l36 c36 k36 fun _ _ _ _ _ _ us hl => match us, hl with | [_], _ => rfl
  have D_one_ring : Def K mg "one_ring" "one_ring" s_one_ring ["tiles"] := def_mk (X := X) G a37 l37 c37 k37 fun _ _ _ _ _ _ us hl => match us, hl with | [_], _ => rfl
  have D_least_turned : Def K mg "least_turned" "least_turned" s_least_turned ["tiles"] := def_mk (X := X) G a38 l38 c38 k38 fun _ _ _ _ _ _ us hl => match us, hl with | [_], _ => rfl
  have D_law : Fun K "law" "law" s_law f39 _ := fun_mk (st := s_law) l39 c39 k39
  have e := hfa.symm.trans (PySem.W.mg_of X G a39)
  cases e
  refine ⟨PySem.W.fnOf "law" "law" (defArgs s_law) (defBody s_law) (defScope s_law) .none kV39 dc39 pm39 an39 cd39 ct39, fun s v => .of_eq rfl, fun base _ _ => ?_⟩
  have h_counts := ok_counts (P := l.prog) (w := w) (base := base) D_counts m_sorted
  have h_heads_of := ok_heads_of (P := l.prog) (w := w) (base := base) D_heads_of m_min
  have h_is_number := ok_is_number (P := l.prog) (w := w) (base := base) D_is_number m_len
  have h_taken := ok_taken (P := l.prog) (w := w) (base := base) D_taken
  have h_both_ways := ok_both_ways (P := l.prog) (w := w) (base := base) D_both_ways m_range m_len
  have h_bridged := ok_bridged (P := l.prog) (w := w) (base := base) D_bridged m_list m_range m_len
  have h_without_bridges := ok_without_bridges (P := l.prog) (w := w) (base := base) D_without_bridges
  have h_lowered := ok_lowered (P := l.prog) (w := w) (base := base) D_lowered m_enumerate
  have h_way_round := ok_way_round (P := l.prog) (w := w) (base := base) D_way_round m_range m_len
  have h__law_cell_at := ok__law_cell_at (P := l.prog) (w := w) (base := base) D__law_cell_at m_len
  have h__law_whole := ok__law_whole (P := l.prog) (w := w) (base := base) D__law_whole m_isinstance m_int m_bool
  have h__law_names := ok__law_names (P := l.prog) (w := w) (base := base) D__law_names m_range
  have h__law_numbers := ok__law_numbers (P := l.prog) (w := w) (base := base) D__law_numbers m_enumerate
  have h__law_walk := ok__law_walk (P := l.prog) (w := w) (base := base) D__law_walk m_len m_range
  have h__law_tile := ok__law_tile (P := l.prog) (w := w) (base := base) D__law_tile
  have h__law_order := ok__law_order (P := l.prog) (w := w) (base := base) D__law_order m_range m_sorted
  have h__law_marks := ok__law_marks (P := l.prog) (w := w) (base := base) D__law_marks m_sorted m_set
  have h__law_reached := ok__law_reached (P := l.prog) (w := w) (base := base) D__law_reached m_sorted m_len
  have h__law_odds := ok__law_odds (P := l.prog) (w := w) (base := base) D__law_odds m_sorted
  have h_odd_marks := ok_odd_marks (P := l.prog) (w := w) (base := base) D_odd_marks h_counts
  have h_parts_of := ok_parts_of (P := l.prog) (w := w) (base := base) D_parts_of h_heads_of m_sorted m_list
  have h_faces := ok_faces (P := l.prog) (w := w) (base := base) D_faces c_NoTile h_is_number
  have h__law_tiles := ok__law_tiles (P := l.prog) (w := w) (base := base) D__law_tiles h__law_tile
  have h__law_groups := ok__law_groups (P := l.prog) (w := w) (base := base) D__law_groups h__law_marks h__law_reached
  have h__law_alike := ok__law_alike (P := l.prog) (w := w) (base := base) D__law_alike h__law_whole m_isinstance m_list m_len
  have h__law_step := ok__law_step (P := l.prog) (w := w) (base := base) D__law_step h__law_whole m_isinstance m_bool m_tuple m_len
  have h__law_priced := ok__law_priced (P := l.prog) (w := w) (base := base) D__law_priced h__law_marks h__law_whole m_isinstance m_list m_tuple m_len
  have h__law_drawn := ok__law_drawn (P := l.prog) (w := w) (base := base) D__law_drawn h__law_walk m_len m_range m_max
  have h_leaving := ok_leaving (P := l.prog) (w := w) (base := base) D_leaving h_faces
  have h_walk_from := ok_walk_from (P := l.prog) (w := w) (base := base) D_walk_from h_taken h_faces m_list m_reversed
  have h_arcs_of := ok_arcs_of (P := l.prog) (w := w) (base := base) D_arcs_of h_faces m_enumerate
  have h__law_reason := ok__law_reason (P := l.prog) (w := w) (base := base) D__law_reason h__law_alike m_zip m_len m_isinstance m_tuple m_str m_list
  have h__law_walked := ok__law_walked (P := l.prog) (w := w) (base := base) D__law_walked h__law_step m_isinstance m_list m_len
  have h_fewest := ok_fewest (P := l.prog) (w := w) (base := base) D_fewest h_parts_of h_odd_marks h_bridged h_leaving h_both_ways h_walk_from h_without_bridges m_len
  have h_settled := ok_settled (P := l.prog) (w := w) (base := base) D_settled h_arcs_of h_lowered h_way_round m_range m_len
  have h__law_least := ok__law_least (P := l.prog) (w := w) (base := base) D__law_least h__law_walked h__law_priced m_len m_isinstance m_tuple m_str m_list m_sorted m_range
  have h_one_row := ok_one_row (P := l.prog) (w := w) (base := base) D_one_row h_parts_of h_odd_marks h_fewest m_len
  have h_one_ring := ok_one_ring (P := l.prog) (w := w) (base := base) D_one_ring h_odd_marks h_one_row
  have h_least_turned := ok_least_turned (P := l.prog) (w := w) (base := base) D_least_turned h_one_ring h_settled h_walk_from h_leaving h_faces m_list m_len m_enumerate m_sorted
  exact ok_law D_law h__law_names h__law_cell_at h__law_numbers h__law_drawn h__law_tiles h__law_groups h__law_odds h_least_turned h__law_least h__law_order h__law_reason m_list m_len
end TC
open PySem PySem.W PyProof.Rows
set_option maxRecDepth 100000 in
set_option maxHeartbeats 0 in
theorem PySem.Challenge.cw_tilechain_k09_whole_fewest_turned_holds : PySem.Challenge.rw_tilechain_k09_whole_fewest_turned.Holds := by
  w_on; o_law; k_head; (case hw => w_witness2)
  k_fill
  refine L2.walk_ofK (l := PySem.Challenge.rw_tilechain_k09_whole_fewest_turned) (n := 63) (k := 8) (x := "_law_script") (CX := L2.CX0) (sp := fun K => TC.spF (TC.pre_law K)) rfl (by decide) rfl ⟨rfl, by decide, by decide⟩ (fun w h Y => PySem.W.kIn_of Y) ?F (fun K H a ns hl _ hS => TC.law_sp hl hS) (fun _ _ _ _ h => h)
  case F =>
    intro w mg fa h KX G hmg
    refine' TC.all_mk KX G hmg ?a0 ?l0 ?c0 ?k0 ?a1 ?l1 ?c1 ?k1 ?a2 ?l2 ?c2 ?k2 ?a3 ?l3 ?c3 ?k3 ?a4 ?l4 ?c4 ?k4 ?a5 ?l5 ?c5 ?k5 ?a6 ?l6 ?c6 ?k6 ?a7 ?l7 ?c7 ?k7 ?a8 ?l8 ?c8 ?k8 ?a9 ?l9 ?c9 ?k9 ?a10 ?l10 ?c10 ?k10 ?a11 ?l11 ?c11 ?k11 ?a12 ?l12 ?c12 ?k12 ?a13 ?l13 ?c13 ?k13 ?a14 ?l14 ?c14 ?k14 ?a15 ?l15 ?c15 ?k15 ?a16 ?l16 ?c16 ?k16 ?a17 ?l17 ?c17 ?k17 ?a18 ?l18 ?c18 ?k18 ?a19 ?l19 ?c19 ?k19 ?a20 ?l20 ?c20 ?k20 ?a21 ?l21 ?c21 ?k21 ?a22 ?l22 ?c22 ?k22 ?a23 ?l23 ?c23 ?k23 ?a24 ?l24 ?c24 ?k24 ?a25 ?l25 ?c25 ?k25 ?a26 ?l26 ?c26 ?k26 ?a27 ?l27 ?c27 ?k27 ?a28 ?l28 ?c28 ?k28 ?a29 ?l29 ?c29 ?k29 ?a30 ?l30 ?c30 ?k30 ?a31 ?l31 ?c31 ?k31 ?a32 ?l32 ?c32 ?k32 ?a33 ?l33 ?c33 ?k33 ?a34 ?l34 ?c34 ?k34 ?a35 ?l35 ?c35 ?k35 ?a36 ?l36 ?c36 ?k36 ?a37 ?l37 ?c37 ?k37 ?a38 ?l38 ?c38 ?k38 ?a39 ?l39 ?c39 ?k39 ?z_sorted ?z_min ?z_len ?z_range ?z_list ?z_enumerate ?z_isinstance ?z_int ?z_bool ?z_set ?z_tuple ?z_max ?z_reversed ?z_zip ?z_str ?gc_TileError ?xc_TileError ?kc_TileError ?bc_TileError ?tc_TileError ?gc_NoTile ?xc_NoTile ?kc_NoTile ?bc_NoTile ?tc_NoTile
    (case a0 => k_is)
    (case l0 => k_is)
    (case c0 => k_is)
    (case k0 => k_is)
    (case a1 => k_is)
    (case l1 => k_is)
    (case c1 => k_is)
    (case k1 => k_is)
    (case a2 => k_is)
    (case l2 => k_is)
    (case c2 => k_is)
    (case k2 => k_is)
    (case a3 => k_is)
    (case l3 => k_is)
    (case c3 => k_is)
    (case k3 => k_is)
    (case a4 => k_is)
    (case l4 => k_is)
    (case c4 => k_is)
    (case k4 => k_is)
    (case a5 => k_is)
    (case l5 => k_is)
    (case c5 => k_is)
    (case k5 => k_is)
    (case a6 => k_is)
    (case l6 => k_is)
    (case c6 => k_is)
    (case k6 => k_is)
    (case a7 => k_is)
    (case l7 => k_is)
    (case c7 => k_is)
    (case k7 => k_is)
    (case a8 => k_is)
    (case l8 => k_is)
    (case c8 => k_is)
    (case k8 => k_is)
    (case a9 => k_is)
    (case l9 => k_is)
    (case c9 => k_is)
    (case k9 => k_is)
    (case a10 => k_is)
    (case l10 => k_is)
    (case c10 => k_is)
    (case k10 => k_is)
    (case a11 => k_is)
    (case l11 => k_is)
    (case c11 => k_is)
    (case k11 => k_is)
    (case a12 => k_is)
    (case l12 => k_is)
    (case c12 => k_is)
    (case k12 => k_is)
    (case a13 => k_is)
    (case l13 => k_is)
    (case c13 => k_is)
    (case k13 => k_is)
    (case a14 => k_is)
    (case l14 => k_is)
    (case c14 => k_is)
    (case k14 => k_is)
    (case a15 => k_is)
    (case l15 => k_is)
    (case c15 => k_is)
    (case k15 => k_is)
    (case a16 => k_is)
    (case l16 => k_is)
    (case c16 => k_is)
    (case k16 => k_is)
    (case a17 => k_is)
    (case l17 => k_is)
    (case c17 => k_is)
    (case k17 => k_is)
    (case a18 => k_is)
    (case l18 => k_is)
    (case c18 => k_is)
    (case k18 => k_is)
    (case a19 => k_is)
    (case l19 => k_is)
    (case c19 => k_is)
    (case k19 => k_is)
    (case a20 => k_is)
    (case l20 => k_is)
    (case c20 => k_is)
    (case k20 => k_is)
    (case a21 => k_is)
    (case l21 => k_is)
    (case c21 => k_is)
    (case k21 => k_is)
    (case a22 => k_is)
    (case l22 => k_is)
    (case c22 => k_is)
    (case k22 => k_is)
    (case a23 => k_is)
    (case l23 => k_is)
    (case c23 => k_is)
    (case k23 => k_is)
    (case a24 => k_is)
    (case l24 => k_is)
    (case c24 => k_is)
    (case k24 => k_is)
    (case a25 => k_is)
    (case l25 => k_is)
    (case c25 => k_is)
    (case k25 => k_is)
    (case a26 => k_is)
    (case l26 => k_is)
    (case c26 => k_is)
    (case k26 => k_is)
    (case a27 => k_is)
    (case l27 => k_is)
    (case c27 => k_is)
    (case k27 => k_is)
    (case a28 => k_is)
    (case l28 => k_is)
    (case c28 => k_is)
    (case k28 => k_is)
    (case a29 => k_is)
    (case l29 => k_is)
    (case c29 => k_is)
    (case k29 => k_is)
    (case a30 => k_is)
    (case l30 => k_is)
    (case c30 => k_is)
    (case k30 => k_is)
    (case a31 => k_is)
    (case l31 => k_is)
    (case c31 => k_is)
    (case k31 => k_is)
    (case a32 => k_is)
    (case l32 => k_is)
    (case c32 => k_is)
    (case k32 => k_is)
    (case a33 => k_is)
    (case l33 => k_is)
    (case c33 => k_is)
    (case k33 => k_is)
    (case a34 => k_is)
    (case l34 => k_is)
    (case c34 => k_is)
    (case k34 => k_is)
    (case a35 => k_is)
    (case l35 => k_is)
    (case c35 => k_is)
    (case k35 => k_is)
    (case a36 => k_is)
    (case l36 => k_is)
    (case c36 => k_is)
    (case k36 => k_is)
    (case a37 => k_is)
    (case l37 => k_is)
    (case c37 => k_is)
    (case k37 => k_is)
    (case a38 => k_is)
    (case l38 => k_is)
    (case c38 => k_is)
    (case k38 => k_is)
    (case a39 => k_is)
    (case l39 => k_is)
    (case c39 => k_is)
    (case k39 => k_is)
    (case z_sorted => k_is)
    (case z_min => k_is)
    (case z_len => k_is)
    (case z_range => k_is)
    (case z_list => k_is)
    (case z_enumerate => k_is)
    (case z_isinstance => k_is)
    (case z_int => k_is)
    (case z_bool => k_is)
    (case z_set => k_is)
    (case z_tuple => k_is)
    (case z_max => k_is)
    (case z_reversed => k_is)
    (case z_zip => k_is)
    (case z_str => k_is)
    (case gc_TileError => k_is)
    (case xc_TileError => first | k_exc | k_is)
    (case kc_TileError => k_is)
    (case bc_TileError => k_is)
    (case tc_TileError => k_is)
    (case gc_NoTile => k_is)
    (case xc_NoTile => first | k_exc | k_is)
    (case kc_NoTile => k_is)
    (case bc_NoTile => k_is)
    (case tc_NoTile => k_is)
