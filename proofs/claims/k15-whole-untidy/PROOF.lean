import PyProof.Rows.All
import Wide.All
import OpenK.AllK
import Wide.FinOn
import HandS.ForMost
import KE.GoesMore
import KE.GoesNew
import PyProof.EnumMake
import HandS.ExcInit
import HandS.ExcSuper
import HandS.SuiteRaise
import HandS.RaiseFrom
import KE.KExcSuper
import HandS.MethStar
import HandS.WordsExc
import HandS.Flow
import HandS.GenList
import HandS.IsInst
import HandS.Style
import HandS.Defaults
import HandS.HotCalls
import HandS.ExcField
import KE.KExcIs
import HandS.ExcIs
import HandS.EndBits
import PySem.Challenge.RW_quickways_k15_whole_untidy_deeds_are_par
/-! part M1 -/
set_option Elab.async false
set_option linter.all false
set_option maxRecDepth 100000
/-! Quickways k15, plain part 1: tables by name, the store of loans, deeds -/
namespace Qk
open PySem L2

section assoc
variable {α : Type}
def keys (l : List (Str × α)) : List Str := l.map Prod.fst
def aget : List (Str × α) → Str → Option α
  | [], _ => none
  | p :: r, x => if p.1 = x then some p.2 else aget r x
def aput (l : List (Str × α)) (x : Str) (y : α) : List (Str × α) :=
  if x ∈ keys l then l.map (fun p => (p.1, if p.1 = x then y else p.2)) else l ++ [(x, y)]
def adrop (l : List (Str × α)) (x : Str) : List (Str × α) := l.filter fun p => decide (p.1 ≠ x)

theorem keys_nil : keys ([] : List (Str × α)) = [] := rfl
theorem keys_cons (p : Str × α) (l : List (Str × α)) : keys (p :: l) = p.1 :: keys l := rfl
theorem keys_app (l m : List (Str × α)) : keys (l ++ m) = keys l ++ keys m := List.map_append ..
theorem aget_none_iff : ∀ {l : List (Str × α)} {x : Str}, aget l x = none ↔ x ∉ keys l
  | [], x => by simp [aget, keys]
  | p :: r, x => by
    have ih := @aget_none_iff r x
    rw [keys_cons]
    by_cases e : p.1 = x
    · simp [aget, e]
    · have e' : ¬ x = p.1 := fun z => e z.symm
      simp [aget, e, e', ih]
theorem aget_isSome {l : List (Str × α)} {x : Str} : (aget l x).isSome = true ↔ x ∈ keys l := by
  cases e : aget l x with
  | none => simp [aget_none_iff.mp e]
  | some y =>
    have : x ∈ keys l := Classical.byContradiction fun z => by rw [aget_none_iff.mpr z] at e; cases e
    simp [this]
theorem aget_of_mem {l : List (Str × α)} {x : Str} (h : x ∈ keys l) : ∃ y, aget l x = some y := Option.isSome_iff_exists.mp (aget_isSome.mpr h)
theorem aget_key {l : List (Str × α)} {x : Str} {y : α} (h : aget l x = some y) : x ∈ keys l := aget_isSome.mp (by rw [h]; rfl)
theorem aget_pair : ∀ {l : List (Str × α)} {x : Str} {y : α}, aget l x = some y → (x, y) ∈ l
  | [], _, _, h => by cases h
  | p :: r, x, y, h => by
    unfold aget at h
    by_cases e : p.1 = x
    · rw [if_pos e] at h
      have : p.2 = y := Option.some.inj h
      subst e this
      exact List.mem_cons_self
    · rw [if_neg e] at h
      exact List.mem_cons_of_mem _ (aget_pair h)
theorem pair_key {l : List (Str × α)} {x : Str} {y : α} (h : (x, y) ∈ l) : x ∈ keys l := List.mem_map.mpr ⟨_, h, rfl⟩
theorem key_pair {l : List (Str × α)} {x : Str} (h : x ∈ keys l) : ∃ y, (x, y) ∈ l := by
  obtain ⟨y, e⟩ := aget_of_mem h
  exact ⟨y, aget_pair e⟩
theorem aget_nodup : ∀ {l : List (Str × α)} {x : Str} {y : α}, (keys l).Nodup → (x, y) ∈ l → aget l x = some y
  | [], _, _, _, h => by cases h
  | p :: r, x, y, hn, h => by
    rw [keys_cons] at hn
    obtain ⟨h1, h2⟩ := List.nodup_cons.mp hn
    unfold aget
    rcases List.mem_cons.mp h with e | h
    · subst e
      simp
    · have : ¬ p.1 = x := fun z => h1 (by rw [z]; exact pair_key h)
      rw [if_neg this]
      exact aget_nodup h2 h
theorem aget_app : ∀ {l m : List (Str × α)} {x : Str}, aget (l ++ m) x = (aget l x).orElse fun _ => aget m x
  | [], m, x => rfl
  | p :: r, m, x => by
    show (if p.1 = x then some p.2 else aget (r ++ m) x) = Option.orElse (if p.1 = x then some p.2 else aget r x) _
    by_cases e : p.1 = x
    · rw [if_pos e, if_pos e]; rfl
    · rw [if_neg e, if_neg e]; exact aget_app
theorem aput_new {l : List (Str × α)} {x : Str} {y : α} (h : x ∉ keys l) : aput l x y = l ++ [(x, y)] := if_neg h
theorem keys_map_put (l : List (Str × α)) (x : Str) (y : α) : keys (l.map (fun p => (p.1, if p.1 = x then y else p.2))) = keys l := by
  unfold keys
  rw [List.map_map]
  rfl
theorem keys_put_old {l : List (Str × α)} {x : Str} {y : α} (h : x ∈ keys l) : keys (aput l x y) = keys l := by
  unfold aput
  rw [if_pos h, keys_map_put]
theorem keys_put_new {l : List (Str × α)} {x : Str} {y : α} (h : x ∉ keys l) : keys (aput l x y) = keys l ++ [x] := by
  rw [aput_new h, keys_app]; rfl
theorem aget_map_put : ∀ {l : List (Str × α)} {x z : Str} {y : α}, aget (l.map (fun p => (p.1, if p.1 = x then y else p.2))) z = (aget l z).map fun w => if z = x then y else w
  | [], _, _, _ => rfl
  | p :: r, x, z, y => by
    have ih := @aget_map_put r x z y
    show (if p.1 = z then some (if p.1 = x then y else p.2) else aget (r.map (fun p => (p.1, if p.1 = x then y else p.2))) z) = (if p.1 = z then some p.2 else aget r z).map _
    by_cases e : p.1 = z
    · rw [if_pos e, if_pos e, e]; rfl
    · rw [if_neg e, if_neg e]; exact ih
theorem aget_put {l : List (Str × α)} {x z : Str} {y : α} : aget (aput l x y) z = if z = x then some y else aget l z := by
  by_cases h : x ∈ keys l
  · unfold aput
    rw [if_pos h, aget_map_put]
    by_cases e : z = x
    · subst e
      obtain ⟨w, hw⟩ := aget_of_mem h
      rw [hw]; simp
    · simp only [if_neg e]
      cases aget l z <;> rfl
  · rw [aput_new h, aget_app]
    by_cases e : z = x
    · subst e
      rw [aget_none_iff.mpr h]; simp [aget]
    · have e' : ¬ x = z := fun q => e q.symm
      rw [if_neg e]
      have : aget [(x, y)] z = none := by simp [aget, e']
      rw [this]
      cases aget l z <;> rfl
theorem keys_drop (l : List (Str × α)) (x : Str) : keys (adrop l x) = (keys l).filter fun k => decide (k ≠ x) := by
  unfold keys adrop
  rw [List.filter_map]
  rfl
theorem mem_keys_drop {l : List (Str × α)} {x z : Str} : z ∈ keys (adrop l x) ↔ z ∈ keys l ∧ z ≠ x := by
  rw [keys_drop, List.mem_filter]; simp
theorem aget_drop : ∀ {l : List (Str × α)} {x z : Str}, aget (adrop l x) z = if z = x then none else aget l z
  | [], x, z => by simp [adrop, aget]
  | p :: r, x, z => by
    have ih := @aget_drop r x z
    by_cases h : p.1 = x
    · have : adrop (p :: r) x = adrop r x := by unfold adrop; rw [List.filter_cons]; simp [h]
      rw [this, ih]
      by_cases e : z = x
      · simp [e]
      · have : ¬ p.1 = z := fun q => e (q.symm.trans h)
        simp [e, aget, this]
    · have : adrop (p :: r) x = p :: adrop r x := by unfold adrop; rw [List.filter_cons]; simp [h]
      rw [this]
      by_cases e : z = x
      · rw [if_pos e]
        subst e
        rw [if_pos rfl] at ih
        show (if p.1 = z then some p.2 else aget (adrop r z) z) = none
        rw [if_neg h, ih]
      · rw [if_neg e]
        rw [if_neg e] at ih
        show (if p.1 = z then some p.2 else aget (adrop r x) z) = if p.1 = z then some p.2 else aget r z
        rw [ih]
theorem nodup_drop {l : List (Str × α)} {x : Str} (h : (keys l).Nodup) : (keys (adrop l x)).Nodup := by
  rw [keys_drop]; exact h.filter _
theorem mem_drop {l : List (Str × α)} {x : Str} {p : Str × α} : p ∈ adrop l x ↔ p ∈ l ∧ p.1 ≠ x := by
  unfold adrop; rw [List.mem_filter]; simp
theorem adrop_no {l : List (Str × α)} {x : Str} (h : x ∉ keys l) : adrop l x = l := by
  unfold adrop
  refine List.filter_eq_self.mpr fun p hp => ?_
  have : p.1 ≠ x := fun e => h (by rw [← e]; exact List.mem_map.mpr ⟨p, hp, rfl⟩)
  simpa using this
theorem len_aput {l : List (Str × α)} {x : Str} {y : α} : (aput l x y).length ≤ l.length + 1 := by
  unfold aput
  split
  · rw [List.length_map]; exact Nat.le_succ _
  · rw [List.length_append]; exact Nat.le_refl _
theorem len_adrop {l : List (Str × α)} {x : Str} : (adrop l x).length ≤ l.length := List.length_filter_le ..
end assoc

/-- a deed -/
inductive Dd where
  | bg (k t : Str) | rd (c : Str) | wr (c : Str) (v : V) | ov (k : Str)
/-- as it stands in a tuple -/
def Dd.vs : Dd → List V
  | .bg k t => [.str "begin", .str k, .str t]
  | .rd c => [.str "read", .str c]
  | .wr c v => [.str "write", .str c, v]
  | .ov k => [.str "over", .str k]
def Dd.touch : Dd → Str
  | .bg _ t => t
  | .rd c => c
  | .wr c _ => c
  | .ov k => k
def Dd.isRd : Dd → Bool
  | .rd _ => true
  | _ => false

/-- addresses: the places' values; the open loans' targets and places; the keys that any loan had -/
structure Sto where
  ps : List (Str × V)
  tg : List (Str × Str)
  rt : List (Str × Str)
  od : List Str
def Sto.root (S : Sto) (c : Str) : Option Str := if c ∈ keys S.ps then some c else aget S.rt c
def Sto.rootD (S : Sto) (c : Str) : Str := (S.root c).getD c
def Sto.on (S : Sto) (c : Str) : List Str := keys (S.tg.filter fun p => decide (p.2 = c))
def Sto.val (S : Sto) (c : Str) : V := (aget S.ps (S.rootD c)).getD .non
def Sto.enter (S : Sto) (k t : Str) : Sto := { S with rt := aput S.rt k (S.rootD t), tg := aput S.tg k t, od := S.od ++ [k] }
def Sto.strike (S : Sto) (k : Str) : Sto := { S with rt := adrop S.rt k, tg := adrop S.tg k }
def Sto.fits (S : Sto) : Dd → Bool
  | .bg k t => decide (k ∉ keys S.ps) && decide (k ∉ S.od) && (S.root t).isSome
  | .rd c => (S.root c).isSome
  | .wr c _ => (S.root c).isSome
  | .ov k => decide (k ∈ keys S.tg)
def Sto.step (S : Sto) : Dd → Sto
  | .bg k t => S.enter k t
  | .rd _ => S
  | .wr c v => { S with ps := aput S.ps (S.rootD c) v }
  | .ov k => S.strike k
def Sto.gives (S : Sto) : Dd → List V
  | .rd c => [S.val c]
  | _ => []

/-- copies: the ledger with the places' own values, and the loans' values -/
structure Cto where
  st : Sto
  cp : List (Str × V)
def Cto.val (C : Cto) (c : Str) : V := if c ∈ keys C.cp then (aget C.cp c).getD .non else (aget C.st.ps c).getD .non
def Cto.set (C : Cto) (c : Str) (v : V) : Cto := if c ∈ keys C.cp then { C with cp := aput C.cp c v } else { C with st := { C.st with ps := aput C.st.ps c v } }
def Cto.step (C : Cto) : Dd → Cto
  | .bg k t => { st := C.st.enter k t, cp := aput C.cp k (C.val t) }
  | .rd _ => C
  | .wr c v => C.set c v
  | .ov k =>
    let t := (aget C.st.tg k).getD k
    let v := (aget C.cp k).getD .non
    let C' : Cto := { st := C.st.strike k, cp := adrop C.cp k }
    if t ∈ keys C.st.ps ∨ t ∈ keys C'.cp then C'.set t v else C'
def Cto.gives (C : Cto) : Dd → List V
  | .rd c => [C.val c]
  | _ => []

/-! ### what any run keeps -/
structure Sto.Ok (S : Sto) : Prop where
  same : keys S.tg = keys S.rt
  nd : (keys S.tg).Nodup
  ndp : (keys S.ps).Nodup
  apart : ∀ k ∈ keys S.tg, k ∉ keys S.ps ∧ k ∈ S.od
  roots : ∀ p ∈ S.rt, p.2 ∈ keys S.ps
  /-- a loan's target is no loan that began with it or later -/
  ord : S.tg.Pairwise fun a b => a.2 ≠ b.1
  irr : ∀ p ∈ S.tg, p.2 ≠ p.1
  tod : ∀ p ∈ S.tg, p.2 ∈ keys S.ps ∨ p.2 ∈ S.od

theorem Sto.root_place {S : Sto} {c : Str} (h : c ∈ keys S.ps) : S.root c = some c := if_pos h
theorem Sto.root_loan {S : Sto} (ok : S.Ok) {c : Str} (h : c ∈ keys S.tg) : S.root c = aget S.rt c := if_neg (ok.apart c h).1
theorem Sto.root_some {S : Sto} (ok : S.Ok) {c : Str} : (S.root c).isSome = true ↔ c ∈ keys S.ps ∨ c ∈ keys S.tg := by
  unfold Sto.root
  by_cases h : c ∈ keys S.ps
  · simp [h]
  · rw [if_neg h, aget_isSome, ok.same]; simp [h]
theorem Sto.root_in {S : Sto} (ok : S.Ok) {c p : Str} (h : S.root c = some p) : p ∈ keys S.ps := by
  unfold Sto.root at h
  by_cases hc : c ∈ keys S.ps
  · rw [if_pos hc] at h; cases h; exact hc
  · rw [if_neg hc] at h
    exact ok.roots _ (aget_pair h)
theorem Sto.rootD_of {S : Sto} {c p : Str} (h : S.root c = some p) : S.rootD c = p := by unfold Sto.rootD; rw [h]; rfl
theorem Sto.rootD_in {S : Sto} (ok : S.Ok) {c : Str} (h : (S.root c).isSome = true) : S.rootD c ∈ keys S.ps := by
  obtain ⟨p, e⟩ := Option.isSome_iff_exists.mp h
  rw [S.rootD_of e]
  exact Sto.root_in ok e

theorem Sto.fits_bg {S : Sto} {k t : Str} (h : S.fits (.bg k t) = true) : k ∉ keys S.ps ∧ k ∉ S.od ∧ (S.root t).isSome = true := by
  unfold Sto.fits at h
  simp only [Bool.and_eq_true, decide_eq_true_eq] at h
  exact ⟨h.1.1, h.1.2, h.2⟩
theorem pw_app_one {α : Type} {R : α → α → Prop} {l : List α} {x : α} (h : l.Pairwise R) (hx : ∀ a ∈ l, R a x) : (l ++ [x]).Pairwise R := by
  rw [List.pairwise_append]
  exact ⟨h, List.pairwise_singleton .., fun a ha b hb => by rw [List.mem_singleton.mp hb]; exact hx a ha⟩

/-- the plain shape of a begin -/
theorem Sto.enter_eq {S : Sto} (ok : S.Ok) {k t : Str} (h : S.fits (.bg k t) = true) : S.enter k t = { S with rt := S.rt ++ [(k, S.rootD t)], tg := S.tg ++ [(k, t)], od := S.od ++ [k] } := by
  obtain ⟨h1, h2, _⟩ := S.fits_bg h
  have nk : k ∉ keys S.tg := fun z => h2 (ok.apart k z).2
  have nr : k ∉ keys S.rt := by rw [← ok.same]; exact nk
  unfold Sto.enter
  rw [aput_new nk, aput_new nr]
theorem Sto.Ok.step {S : Sto} (ok : S.Ok) {d : Dd} (h : S.fits d = true) : (S.step d).Ok := by
  cases d with
  | rd c => exact ok
  | wr c v =>
    have hr : (S.root c).isSome = true := h
    have hk : keys (aput S.ps (S.rootD c) v) = keys S.ps := keys_put_old (Sto.rootD_in ok hr)
    refine ⟨ok.same, ok.nd, ?_, fun k hk' => ?_, fun p hp => ?_, ok.ord, ok.irr, fun p hp => ?_⟩
    · show (keys (aput S.ps (S.rootD c) v)).Nodup
      rw [hk]; exact ok.ndp
    · show k ∉ keys (aput S.ps (S.rootD c) v) ∧ _
      rw [hk]; exact ok.apart k hk'
    · show p.2 ∈ keys (aput S.ps (S.rootD c) v)
      rw [hk]; exact ok.roots p hp
    · show p.2 ∈ keys (aput S.ps (S.rootD c) v) ∨ _
      rw [hk]; exact ok.tod p hp
  | bg k t =>
    obtain ⟨h1, h2, h3⟩ := S.fits_bg h
    have nk : k ∉ keys S.tg := fun z => h2 (ok.apart k z).2
    have hrt := Sto.rootD_in ok h3
    have ht := (Sto.root_some ok).mp h3
    have tk : t ≠ k := fun e => by
      rw [e] at ht
      exact ht.elim h1 nk
    show (S.enter k t).Ok
    rw [Sto.enter_eq ok h]
    refine ⟨?_, ?_, ok.ndp, fun j hj => ?_, fun p hp => ?_, pw_app_one ok.ord fun a ha e => ?_, fun p hp => ?_, fun p hp => ?_⟩
    · show keys (S.tg ++ [(k, t)]) = keys (S.rt ++ [(k, S.rootD t)])
      rw [keys_app, keys_app, ok.same]; rfl
    · show (keys (S.tg ++ [(k, t)])).Nodup
      rw [keys_app]
      exact nd_snoc ok.nd nk
    · have hj' : j ∈ keys S.tg ++ [k] := by
        have : j ∈ keys (S.tg ++ [(k, t)]) := hj
        rwa [keys_app] at this
      rcases List.mem_append.mp hj' with z | z
      · exact ⟨(ok.apart j z).1, List.mem_append_left _ (ok.apart j z).2⟩
      · rw [List.mem_singleton.mp z]
        exact ⟨h1, List.mem_append_right _ (List.mem_singleton.mpr rfl)⟩
    · rcases List.mem_append.mp hp with z | z
      · exact ok.roots p z
      · rw [List.mem_singleton.mp z]; exact hrt
    · have : a.2 = k := e
      rcases ok.tod a ha with z | z
      · rw [this] at z; exact h1 z
      · rw [this] at z; exact h2 z
    · rcases List.mem_append.mp hp with z | z
      · exact ok.irr p z
      · rw [List.mem_singleton.mp z]; exact tk
    · show p.2 ∈ keys S.ps ∨ p.2 ∈ S.od ++ [k]
      rcases List.mem_append.mp hp with z | z
      · exact (ok.tod p z).imp id fun y => List.mem_append_left _ y
      · rw [List.mem_singleton.mp z]
        exact ht.imp id fun y => List.mem_append_left _ (ok.apart t y).2
  | ov k =>
    show (S.strike k).Ok
    refine ⟨?_, nodup_drop ok.nd, ok.ndp, fun j hj => ok.apart j (mem_keys_drop.mp hj).1, fun p hp => ok.roots p (mem_drop.mp hp).1, ok.ord.filter _, fun p hp => ok.irr p (mem_drop.mp hp).1, fun p hp => ok.tod p (mem_drop.mp hp).1⟩
    show keys (adrop S.tg k) = keys (adrop S.rt k)
    rw [keys_drop, keys_drop, ok.same]
theorem Sto.keys_step {S : Sto} (ok : S.Ok) {d : Dd} (h : S.fits d = true) : keys (S.step d).ps = keys S.ps := by
  cases d with
  | wr c v => exact keys_put_old (Sto.rootD_in ok h)
  | _ => rfl

/-! ### runs -/
def stAt (S : Sto) (ds : List Dd) (i : Nat) : Sto := (ds.take i).foldl Sto.step S
def ctAt (C : Cto) (ds : List Dd) (i : Nat) : Cto := (ds.take i).foldl Cto.step C
theorem take_next {α : Type} {l : List α} {i : Nat} {x : α} (h : l[i]? = some x) : l.take (i + 1) = l.take i ++ [x] := by
  rw [List.take_add_one, h]; rfl
theorem stAt_next {S : Sto} {ds : List Dd} {i : Nat} {d : Dd} (h : ds[i]? = some d) : stAt S ds (i + 1) = (stAt S ds i).step d := by
  unfold stAt; rw [take_next h, List.foldl_append]; rfl
theorem ctAt_next {C : Cto} {ds : List Dd} {i : Nat} {d : Dd} (h : ds[i]? = some d) : ctAt C ds (i + 1) = (ctAt C ds i).step d := by
  unfold ctAt; rw [take_next h, List.foldl_append]; rfl
theorem stAt_zero {S : Sto} {ds : List Dd} : stAt S ds 0 = S := rfl
theorem ctAt_zero {C : Cto} {ds : List Dd} : ctAt C ds 0 = C := rfl
/-- the first n deeds fit -/
def Fit (S : Sto) (ds : List Dd) (n : Nat) : Prop := ∀ i d, i < n → ds[i]? = some d → (stAt S ds i).fits d = true
theorem Fit.mono {S : Sto} {ds : List Dd} {n m : Nat} (h : Fit S ds n) (hm : m ≤ n) : Fit S ds m := fun i d hi e => h i d (Nat.lt_of_lt_of_le hi hm) e
theorem Fit.zero {S : Sto} {ds : List Dd} : Fit S ds 0 := fun i _ hi => absurd hi (Nat.not_lt_zero i)
theorem stAt_ok {S : Sto} {ds : List Dd} (ok : S.Ok) : ∀ {i : Nat}, i ≤ ds.length → Fit S ds i → (stAt S ds i).Ok
  | 0, _, _ => ok
  | i + 1, hi, hf => by
    obtain ⟨d, e⟩ : ∃ d, ds[i]? = some d := ⟨ds[i], List.getElem?_eq_getElem hi⟩
    rw [stAt_next e]
    exact (stAt_ok ok (Nat.le_of_succ_le hi) (hf.mono (Nat.le_succ _))).step (hf i d (Nat.lt_succ_self _) e)
theorem stAt_keys {S : Sto} {ds : List Dd} (ok : S.Ok) : ∀ {i : Nat}, i ≤ ds.length → Fit S ds i → keys (stAt S ds i).ps = keys S.ps
  | 0, _, _ => rfl
  | i + 1, hi, hf => by
    obtain ⟨d, e⟩ : ∃ d, ds[i]? = some d := ⟨ds[i], List.getElem?_eq_getElem hi⟩
    rw [stAt_next e, Sto.keys_step (stAt_ok ok (Nat.le_of_succ_le hi) (hf.mono (Nat.le_succ _))) (hf i d (Nat.lt_succ_self _) e)]
    exact stAt_keys ok (Nat.le_of_succ_le hi) (hf.mono (Nat.le_succ _))
/-- only the deeds in front matter -/
theorem stAt_take {S : Sto} {ds es : List Dd} {n i : Nat} (h : ds.take n = es.take n) (hi : i ≤ n) : stAt S ds i = stAt S es i := by
  unfold stAt
  have e : ds.take i = es.take i := by
    have := congrArg (List.take i) h
    rwa [List.take_take, List.take_take, Nat.min_eq_left hi] at this
  rw [e]
theorem ctAt_take {C : Cto} {ds es : List Dd} {n i : Nat} (h : ds.take n = es.take n) (hi : i ≤ n) : ctAt C ds i = ctAt C es i := by
  unfold ctAt
  have e : ds.take i = es.take i := by
    have := congrArg (List.take i) h
    rwa [List.take_take, List.take_take, Nat.min_eq_left hi] at this
  rw [e]
theorem get_take {ds es : List Dd} {n i : Nat} (h : ds.take n = es.take n) (hi : i < n) : ds[i]? = es[i]? := by
  have := congrArg (fun l => l[i]?) h
  simpa [List.getElem?_take, hi] using this
theorem Fit.take {S : Sto} {ds es : List Dd} {n : Nat} (h : ds.take n = es.take n) (hf : Fit S ds n) : Fit S es n := fun i d hi e => by
  rw [← stAt_take h (Nat.le_of_lt hi)]
  exact hf i d hi (by rw [get_take h hi]; exact e)
end Qk

/-! part M2 -/
set_option Elab.async false
set_option linter.all false
set_option maxRecDepth 100000
/-! Quickways k15, plain part 2: chains of loans, tidy runs, the two ways -/
namespace Qk
open PySem L2

/-! ### the end of a spot -/
def iter {α : Type} (f : α → α) : Nat → α → α
  | 0, x => x
  | n + 1, x => f (iter f n x)
def Sto.nxt (S : Sto) (c : Str) : Str := match S.on c with
  | [] => c
  | k :: _ => k
def Sto.endOf (S : Sto) (c : Str) : Str := iter S.nxt S.tg.length c

theorem on_mem {S : Sto} {c k : Str} (h : k ∈ S.on c) : (k, c) ∈ S.tg := by
  unfold Sto.on keys at h
  obtain ⟨p, hp, e⟩ := List.mem_map.mp h
  obtain ⟨h1, h2⟩ := List.mem_filter.mp hp
  have h2 : p.2 = c := of_decide_eq_true h2
  rw [← e, ← h2]; exact h1
theorem mem_on {S : Sto} {c k : Str} (h : (k, c) ∈ S.tg) : k ∈ S.on c := List.mem_map.mpr ⟨(k, c), List.mem_filter.mpr ⟨h, by simp⟩, rfl⟩
theorem on_nil {S : Sto} {c : Str} (h : S.on c = []) {k : Str} : (k, c) ∉ S.tg := fun z => by
  have := mem_on z
  rw [h] at this; cases this
theorem nxt_stop {S : Sto} {c : Str} (h : S.on c = []) : S.nxt c = c := by unfold Sto.nxt; rw [h]
theorem nxt_go {S : Sto} {c : Str} (h : S.on c ≠ []) : (S.nxt c, c) ∈ S.tg := by
  unfold Sto.nxt
  cases e : S.on c with
  | nil => exact absurd e h
  | cons k r => exact on_mem (by rw [e]; exact List.mem_cons_self)
theorem iter_stop {S : Sto} {c : Str} {j : Nat} (h : S.on (iter S.nxt j c) = []) : ∀ m, iter S.nxt (j + m) c = iter S.nxt j c
  | 0 => rfl
  | m + 1 => by
    show S.nxt (iter S.nxt (j + m) c) = _
    rw [iter_stop h m, nxt_stop h]
/-- the place of a pair in the list of loans -/
theorem later {S : Sto} (ok : S.Ok) {i : Nat} {k t : Str} (hi : S.tg[i]? = some (k, t)) {j : Nat} {u : Str} (hj : S.tg[j]? = some (t, u)) : j < i := by
  obtain ⟨hi1, hi2⟩ := List.getElem?_eq_some_iff.mp hi
  obtain ⟨hj1, hj2⟩ := List.getElem?_eq_some_iff.mp hj
  rcases Nat.lt_trichotomy j i with h | h | h
  · exact h
  · subst h
    rw [hi2] at hj2
    have e : k = t := congrArg Prod.fst hj2
    exact absurd e.symm (ok.irr (k, t) (List.mem_of_getElem? hi))
  · have := (List.pairwise_iff_getElem.mp ok.ord) i j hi1 hj1 h
    rw [hi2, hj2] at this
    exact absurd rfl this
theorem iter_far {S : Sto} (ok : S.Ok) {c : Str} : ∀ j, S.on (iter S.nxt j c) ≠ [] → ∃ i t, j ≤ i ∧ S.tg[i]? = some (iter S.nxt (j + 1) c, t)
  | 0, h => by
    have := nxt_go h
    obtain ⟨i, e⟩ := List.mem_iff_getElem?.mp this
    exact ⟨i, _, Nat.zero_le _, e⟩
  | j + 1, h => by
    have h0 : S.on (iter S.nxt j c) ≠ [] := fun z => by
      apply h
      show S.on (S.nxt (iter S.nxt j c)) = []
      rw [nxt_stop z]; exact z
    obtain ⟨i, t, hi, e⟩ := iter_far ok j h0
    have := nxt_go h
    obtain ⟨i', e'⟩ := List.mem_iff_getElem?.mp this
    exact ⟨i', _, Nat.lt_of_le_of_lt hi (later ok e' e), e'⟩
theorem iter_lt {S : Sto} (ok : S.Ok) {c : Str} {j : Nat} (h : S.on (iter S.nxt j c) ≠ []) : j < S.tg.length := by
  obtain ⟨i, t, hi, e⟩ := iter_far ok j h
  exact Nat.lt_of_le_of_lt hi (List.getElem?_eq_some_iff.mp e).1
theorem end_on {S : Sto} (ok : S.Ok) (c : Str) : S.on (S.endOf c) = [] := Classical.byContradiction fun h => absurd (iter_lt ok (j := S.tg.length) h) (Nat.lt_irrefl _)
theorem end_of {S : Sto} {c : Str} {j : Nat} (hj : j ≤ S.tg.length) (h : S.on (iter S.nxt j c) = []) : S.endOf c = iter S.nxt j c := by
  unfold Sto.endOf
  obtain ⟨m, e⟩ := Nat.exists_eq_add_of_le hj
  rw [e]; exact iter_stop h m
theorem end_ne {S : Sto} (ok : S.Ok) {c : Str} (h : S.on c ≠ []) : S.endOf c ≠ c := fun e => h (by rw [← e]; exact end_on ok c)

/-! ### what a tidy run keeps -/
abbrev Sto.spot (S : Sto) (c : Str) : Prop := (S.root c).isSome = true
structure Sto.Td (S : Sto) : Prop where
  one : (S.tg.map Prod.snd).Nodup
  alive : ∀ p ∈ S.tg, S.spot p.2
  rte : ∀ p ∈ S.tg, S.root p.1 = S.root p.2
  uniq : ∀ c c', S.spot c → S.spot c' → S.on c = [] → S.on c' = [] → S.root c = S.root c' → c = c'

theorem end_root {S : Sto} (ok : S.Ok) (td : S.Td) {c : Str} (hc : S.spot c) : S.spot (S.endOf c) ∧ S.root (S.endOf c) = S.root c := by
  unfold Sto.endOf
  generalize S.tg.length = n
  induction n with
  | zero => exact ⟨hc, rfl⟩
  | succ n ih =>
    show S.spot (S.nxt (iter S.nxt n c)) ∧ S.root (S.nxt (iter S.nxt n c)) = _
    cases e : S.on (iter S.nxt n c) with
    | nil => rw [nxt_stop e]; exact ih
    | cons k r =>
      have hm := nxt_go (S := S) (c := iter S.nxt n c) (by rw [e]; simp)
      refine ⟨?_, (td.rte _ hm).trans ih.2⟩
      exact (Sto.root_some ok).mpr (.inr (pair_key hm))
theorem end_key {S : Sto} (ok : S.Ok) {c : Str} (h : S.on c ≠ []) : S.endOf c ∈ keys S.tg := by
  have key : ∀ n, iter S.nxt n c = c ∨ iter S.nxt n c ∈ keys S.tg := by
    intro n
    induction n with
    | zero => exact .inl rfl
    | succ n ih =>
      show S.nxt (iter S.nxt n c) = c ∨ S.nxt (iter S.nxt n c) ∈ keys S.tg
      cases e : S.on (iter S.nxt n c) with
      | nil => rw [nxt_stop e]; exact ih
      | cons k r => exact .inr (pair_key (nxt_go (S := S) (by rw [e]; simp)))
  rcases key S.tg.length with z | z
  · exact absurd z (end_ne ok h)
  · exact z

theorem on_step_bg {S : Sto} (ok : S.Ok) {k t : Str} (h : S.fits (.bg k t) = true) (c : Str) : (S.step (.bg k t)).on c = S.on c ++ if t = c then [k] else [] := by
  show (S.enter k t).on c = _
  rw [Sto.enter_eq ok h]
  show keys ((S.tg ++ [(k, t)]).filter fun p => decide (p.2 = c)) = _
  rw [List.filter_append, keys_app]
  by_cases e : t = c
  · rw [if_pos e]; simp [keys, Sto.on, e]
  · rw [if_neg e]; simp [keys, Sto.on, e]
theorem on_step_ov {S : Sto} (k c : Str) : (S.step (.ov k)).on c = (S.on c).filter fun j => decide (j ≠ k) := by
  show keys ((adrop S.tg k).filter _) = (keys (S.tg.filter _)).filter _
  unfold keys adrop
  rw [List.filter_filter, List.filter_map, List.filter_filter]
  congr 1
  exact List.filter_congr fun p _ => by simp [Bool.and_comm]
theorem root_step_bg {S : Sto} (ok : S.Ok) {k t : Str} (h : S.fits (.bg k t) = true) (c : Str) : (S.step (.bg k t)).root c = if c = k then S.root t else S.root c := by
  obtain ⟨h1, h2, h3⟩ := S.fits_bg h
  obtain ⟨p, hp⟩ := Option.isSome_iff_exists.mp h3
  show (S.enter k t).root c = _
  unfold Sto.root Sto.enter
  by_cases e : c = k
  · subst e
    rw [if_neg h1, if_pos rfl, aget_put, if_pos rfl, Sto.rootD_of hp]
    exact hp.symm
  · rw [if_neg e]
    by_cases hc : c ∈ keys S.ps
    · rw [if_pos hc, if_pos hc]
    · rw [if_neg hc, if_neg hc, aget_put, if_neg e]
theorem root_step_ov {S : Sto} (ok : S.Ok) {k : Str} (h : k ∈ keys S.tg) (c : Str) : (S.step (.ov k)).root c = if c = k then none else S.root c := by
  show (S.strike k).root c = _
  unfold Sto.root Sto.strike
  by_cases e : c = k
  · subst e
    rw [if_neg (ok.apart c h).1, if_pos rfl, aget_drop, if_pos rfl]
  · rw [if_neg e]
    by_cases hc : c ∈ keys S.ps
    · rw [if_pos hc, if_pos hc]
    · rw [if_neg hc, if_neg hc, aget_drop, if_neg e]
theorem root_step_wr {S : Sto} (ok : S.Ok) {c0 : Str} {v : V} (h : S.spot c0) (c : Str) : (S.step (.wr c0 v)).root c = S.root c := by
  show (if c ∈ keys (aput S.ps (S.rootD c0) v) then some c else aget S.rt c) = _
  rw [keys_put_old (Sto.rootD_in ok h)]
  rfl
theorem wr_td {S : Sto} (ok : S.Ok) (td : S.Td) {c0 : Str} {v : V} (h : S.spot c0) : (S.step (.wr c0 v)).Td := by
  have r := root_step_wr ok (v := v) h
  have sp : ∀ c, (S.step (.wr c0 v)).spot c ↔ S.spot c := fun c => by unfold Sto.spot; rw [r c]
  refine ⟨td.one, fun p hp => (sp _).mpr (td.alive p hp), fun p hp => by rw [r, r]; exact td.rte p hp, fun c c' a b e f g => ?_⟩
  rw [r, r] at g
  exact td.uniq c c' ((sp c).mp a) ((sp c').mp b) e f g
/-- a tidy deed -/
theorem Sto.Td.step {S : Sto} (ok : S.Ok) (td : S.Td) {d : Dd} (h : S.fits d = true) (tidy : S.on d.touch = []) : (S.step d).Td := by
  cases d with
  | rd c => exact td
  | wr c v => exact wr_td ok td h
  | bg k t =>
    obtain ⟨h1, h2, h3⟩ := S.fits_bg h
    have tidy : S.on t = [] := tidy
    have nk : k ∉ keys S.tg := fun z => h2 (ok.apart k z).2
    have r := root_step_bg ok h
    have o := on_step_bg ok h
    have ek : ∀ p ∈ S.tg, p.2 ≠ k := fun p hp e => by
      rcases (Sto.root_some ok).mp (td.alive p hp) with z | z
      · rw [e] at z; exact h1 z
      · rw [e] at z; exact nk z
    have tk : t ≠ k := fun e => by
      rcases (Sto.root_some ok).mp h3 with z | z
      · rw [e] at z; exact h1 z
      · rw [e] at z; exact nk z
    have etg : (S.step (.bg k t)).tg = S.tg ++ [(k, t)] := by
      show (S.enter k t).tg = _
      rw [Sto.enter_eq ok h]
    have sp : ∀ c, (S.step (.bg k t)).spot c ↔ c = k ∨ S.spot c := fun c => by
      unfold Sto.spot
      rw [r c]
      by_cases e : c = k
      · rw [if_pos e]; exact ⟨fun _ => .inl e, fun _ => h3⟩
      · rw [if_neg e]; exact ⟨fun z => .inr z, fun z => z.elim (fun y => absurd y e) id⟩
    have nkr : ¬ S.spot k := fun z => ((Sto.root_some ok).mp z).elim h1 nk
    refine ⟨?_, fun p hp => ?_, fun p hp => ?_, fun c c' a b e f g => ?_⟩
    · rw [etg, List.map_append]
      refine nd_snoc td.one fun z => ?_
      obtain ⟨p, hp, e⟩ := List.mem_map.mp z
      have e : p.2 = t := e
      have : (p.1, t) ∈ S.tg := by rw [← e]; exact hp
      exact on_nil tidy this
    · rw [etg] at hp
      refine (sp _).mpr ?_
      rcases List.mem_append.mp hp with z | z
      · exact .inr (td.alive p z)
      · rw [List.mem_singleton.mp z]; exact .inr h3
    · rw [etg] at hp
      rw [r, r]
      rcases List.mem_append.mp hp with z | z
      · have n1 : p.1 ≠ k := fun e => nk (by rw [← e]; exact pair_key z)
        rw [if_neg n1, if_neg (ek p z)]; exact td.rte p z
      · rw [List.mem_singleton.mp z, if_pos rfl, if_neg tk]
    · rw [o] at e f
      rw [r, r] at g
      have et : ∀ c, S.on c ++ (if t = c then [k] else []) = [] → S.on c = [] ∧ c ≠ t := fun c z => by
        obtain ⟨z1, z2⟩ := List.append_eq_nil_iff.mp z
        refine ⟨z1, fun y => ?_⟩
        rw [if_pos y.symm] at z2; cases z2
      obtain ⟨e1, e2⟩ := et c e
      obtain ⟨f1, f2⟩ := et c' f
      by_cases hc : c = k
      · by_cases hc' : c' = k
        · rw [hc, hc']
        · rw [if_pos hc, if_neg hc'] at g
          exact absurd (td.uniq t c' h3 (((sp c').mp b).resolve_left hc') tidy f1 g).symm f2
      · by_cases hc' : c' = k
        · rw [if_neg hc, if_pos hc'] at g
          exact absurd (td.uniq c t (((sp c).mp a).resolve_left hc) h3 e1 tidy g) e2
        · rw [if_neg hc, if_neg hc'] at g
          exact td.uniq c c' (((sp c).mp a).resolve_left hc) (((sp c').mp b).resolve_left hc') e1 f1 g
  | ov k =>
    have hk : k ∈ keys S.tg := of_decide_eq_true h
    have tidy : S.on k = [] := tidy
    obtain ⟨t, ht⟩ := key_pair hk
    have r := root_step_ov ok hk
    have o := on_step_ov (S := S) k
    have nt : ∀ p ∈ S.tg, p.2 ≠ k := fun p hp e => on_nil tidy (k := p.1) (by rw [← e]; exact hp)
    have tk : t ≠ k := nt (k, t) ht
    -- only k is on t
    have only : ∀ j, (j, t) ∈ S.tg → j = k := fun j hj => by
      obtain ⟨i1, e1⟩ := List.mem_iff_getElem?.mp hj
      obtain ⟨i2, e2⟩ := List.mem_iff_getElem?.mp ht
      have f1 : (S.tg.map Prod.snd)[i1]? = some t := by rw [List.getElem?_map, e1]; rfl
      have f2 : (S.tg.map Prod.snd)[i2]? = some t := by rw [List.getElem?_map, e2]; rfl
      have : i1 = i2 := nd_ix td.one f1 f2
      rw [this, e2] at e1
      exact (congrArg Prod.fst (Option.some.inj e1)).symm
    have sp : ∀ c, (S.step (.ov k)).spot c ↔ c ≠ k ∧ S.spot c := fun c => by
      unfold Sto.spot
      rw [r c]
      by_cases e : c = k
      · rw [if_pos e]; exact ⟨fun z => (by cases z), fun z => absurd e z.1⟩
      · rw [if_neg e]; exact ⟨fun z => ⟨e, z⟩, fun z => z.2⟩
    have mem : ∀ p, p ∈ (S.step (.ov k)).tg → p ∈ S.tg ∧ p.1 ≠ k := fun p hp => mem_drop.mp hp
    -- a spot without loans behind is one ahead, or it is t
    have was : ∀ c, (S.step (.ov k)).on c = [] → S.on c = [] ∨ c = t := fun c e => by
      rw [o] at e
      cases q : S.on c with
      | nil => exact .inl rfl
      | cons j l =>
        right
        have hj : (j, c) ∈ S.tg := on_mem (by rw [q]; exact List.mem_cons_self)
        rw [q] at e
        have : j = k := Classical.byContradiction fun n => by
          rw [List.filter_cons, if_pos (by simp [n])] at e; cases e
        rw [this] at hj
        have e1 := aget_nodup ok.nd hj
        have e2 := aget_nodup ok.nd ht
        rw [e1] at e2; exact Option.some.inj e2
    have rk : S.root k = S.root t := td.rte (k, t) ht
    have spk : S.spot k := (Sto.root_some ok).mpr (.inr hk)
    refine ⟨?_, fun p hp => ?_, fun p hp => ?_, fun c c' a b e f g => ?_⟩
    · exact td.one.sublist (List.Sublist.map _ List.filter_sublist)
    · obtain ⟨h1, h2⟩ := mem p hp
      exact (sp _).mpr ⟨nt p h1, td.alive p h1⟩
    · obtain ⟨h1, h2⟩ := mem p hp
      rw [r, r, if_neg h2, if_neg (nt p h1)]; exact td.rte p h1
    · obtain ⟨a1, a2⟩ := (sp c).mp a
      obtain ⟨b1, b2⟩ := (sp c').mp b
      rw [r, r, if_neg a1, if_neg b1] at g
      rcases was c e with e | e <;> rcases was c' f with f | f
      · exact td.uniq c c' a2 b2 e f g
      · rw [f, ← rk] at g
        exact absurd (td.uniq c k a2 spk e tidy g) a1
      · rw [e, ← rk] at g
        exact absurd (td.uniq k c' spk b2 tidy f g).symm b1
      · rw [e, f]

/-! ### the two ways side by side -/
/-- the ledgers are one -/
structure Led (S : Sto) (C : Cto) : Prop where
  tg : C.st.tg = S.tg
  rt : C.st.rt = S.rt
  od : C.st.od = S.od
  ps : keys C.st.ps = keys S.ps
  cp : keys C.cp = keys S.tg
theorem Led.root {S : Sto} {C : Cto} (l : Led S C) (c : Str) : C.st.root c = S.root c := by
  unfold Sto.root; rw [l.ps, l.rt]
theorem Led.rootD {S : Sto} {C : Cto} (l : Led S C) (c : Str) : C.st.rootD c = S.rootD c := by
  unfold Sto.rootD; rw [l.root]
theorem Led.fits {S : Sto} {C : Cto} (l : Led S C) (d : Dd) : C.st.fits d = S.fits d := by
  cases d with
  | bg k t => unfold Sto.fits; simp only [l.ps, l.od, l.root]
  | rd c => unfold Sto.fits; simp only [l.root]
  | wr c v => unfold Sto.fits; simp only [l.root]
  | ov k => unfold Sto.fits; simp only [l.tg]
theorem Led.ok {S : Sto} {C : Cto} (ok : S.Ok) (l : Led S C) : C.st.Ok := by
  refine ⟨?_, ?_, ?_, fun k hk => ?_, fun p hp => ?_, ?_, fun p hp => ?_, fun p hp => ?_⟩
  · rw [l.tg, l.rt]; exact ok.same
  · rw [l.tg]; exact ok.nd
  · rw [l.ps]; exact ok.ndp
  · rw [l.tg] at hk; rw [l.ps, l.od]; exact ok.apart k hk
  · rw [l.rt] at hp; rw [l.ps]; exact ok.roots p hp
  · rw [l.tg]; exact ok.ord
  · rw [l.tg] at hp; exact ok.irr p hp
  · rw [l.tg] at hp; rw [l.ps, l.od]; exact ok.tod p hp
/-- a set of a cell keeps the ledger -/
theorem set_keys {C : Cto} {c : Str} {v : V} (h : c ∈ keys C.st.ps ∨ c ∈ keys C.cp) : (C.set c v).st.tg = C.st.tg ∧ (C.set c v).st.rt = C.st.rt ∧ (C.set c v).st.od = C.st.od ∧ keys (C.set c v).st.ps = keys C.st.ps ∧ keys (C.set c v).cp = keys C.cp := by
  unfold Cto.set
  by_cases e : c ∈ keys C.cp
  · rw [if_pos e]; exact ⟨rfl, rfl, rfl, rfl, keys_put_old e⟩
  · rw [if_neg e]; exact ⟨rfl, rfl, rfl, keys_put_old (h.resolve_right e), rfl⟩
theorem Led.step {S : Sto} {C : Cto} (ok : S.Ok) (l : Led S C) {d : Dd} (h : S.fits d = true) : Led (S.step d) (C.step d) := by
  cases d with
  | rd c => exact l
  | wr c v =>
    have hs : S.spot c := h
    have hc : c ∈ keys C.st.ps ∨ c ∈ keys C.cp := by
      rw [l.ps, l.cp]; exact (Sto.root_some ok).mp hs
    obtain ⟨e1, e2, e3, e4, e5⟩ := set_keys (C := C) (c := c) (v := v) hc
    refine ⟨e1.trans l.tg, e2.trans l.rt, e3.trans l.od, ?_, e5.trans l.cp⟩
    show keys (C.set c v).st.ps = keys (aput S.ps (S.rootD c) v)
    rw [e4, l.ps, keys_put_old (Sto.rootD_in ok hs)]
  | bg k t =>
    obtain ⟨h1, h2, h3⟩ := S.fits_bg h
    have nk : k ∉ keys S.tg := fun z => h2 (ok.apart k z).2
    refine ⟨?_, ?_, ?_, l.ps, ?_⟩
    · show aput C.st.tg k t = aput S.tg k t
      rw [l.tg]
    · show aput C.st.rt k (C.st.rootD t) = aput S.rt k (S.rootD t)
      rw [l.rt, l.rootD]
    · show C.st.od ++ [k] = S.od ++ [k]
      rw [l.od]
    · show keys (aput C.cp k (C.val t)) = keys (aput S.tg k t)
      rw [keys_put_new nk, keys_put_new (by rw [l.cp]; exact nk), l.cp]
  | ov k =>
    have base : Led (S.strike k) { st := C.st.strike k, cp := adrop C.cp k } := by
      refine ⟨?_, ?_, l.od, l.ps, ?_⟩
      · show adrop C.st.tg k = adrop S.tg k
        rw [l.tg]
      · show adrop C.st.rt k = adrop S.rt k
        rw [l.rt]
      · show keys (adrop C.cp k) = keys (adrop S.tg k)
        rw [keys_drop, keys_drop, l.cp]
    show Led (S.strike k) (C.step (.ov k))
    unfold Cto.step
    dsimp only
    split
    · rename_i hc
      obtain ⟨e1, e2, e3, e4, e5⟩ := set_keys (C := { st := C.st.strike k, cp := adrop C.cp k }) (c := (aget C.st.tg k).getD k) (v := (aget C.cp k).getD .non) hc
      exact ⟨e1.trans base.tg, e2.trans base.rt, e3.trans base.od, e4.trans base.ps, e5.trans base.cp⟩
    · exact base

theorem set_val {C : Cto} {c x : Str} {v : V} (h : c ∈ keys C.st.ps ∨ c ∈ keys C.cp) (ha : ∀ k ∈ keys C.cp, k ∉ keys C.st.ps) (hx : x ∈ keys C.st.ps ∨ x ∈ keys C.cp) : (C.set c v).val x = if x = c then v else C.val x := by
  obtain ⟨_, _, _, e4, e5⟩ := set_keys (C := C) (c := c) (v := v) h
  unfold Cto.val
  rw [e5]
  unfold Cto.set
  by_cases hc : c ∈ keys C.cp
  · rw [if_pos hc]
    by_cases hxc : x ∈ keys C.cp
    · rw [if_pos hxc, if_pos hxc]
      show (aget (aput C.cp c v) x).getD .non = _
      rw [aget_put]
      by_cases e : x = c
      · rw [if_pos e, if_pos e]; rfl
      · rw [if_neg e, if_neg e]
    · have e : x ≠ c := fun z => hxc (by rw [z]; exact hc)
      rw [if_neg hxc, if_neg hxc, if_neg e]
  · rw [if_neg hc]
    have hcp := h.resolve_right hc
    by_cases hxc : x ∈ keys C.cp
    · have e : x ≠ c := fun z => hc (by rw [← z]; exact hxc)
      rw [if_pos hxc, if_pos hxc, if_neg e]
    · rw [if_neg hxc, if_neg hxc]
      show (aget (aput C.st.ps c v) x).getD .non = _
      rw [aget_put]
      by_cases e : x = c
      · rw [if_pos e, if_pos e]; rfl
      · rw [if_neg e, if_neg e]

/-- the copies of the ends are the places' values -/
structure Agr (S : Sto) (C : Cto) : Prop where
  led : Led S C
  val : ∀ c, S.spot c → S.on c = [] → C.val c = S.val c
theorem Led.apart {S : Sto} {C : Cto} (ok : S.Ok) (l : Led S C) : ∀ k ∈ keys C.cp, k ∉ keys C.st.ps := fun k hk => by
  rw [l.cp] at hk; rw [l.ps]; exact (ok.apart k hk).1
theorem Led.cell {S : Sto} {C : Cto} (ok : S.Ok) (l : Led S C) {c : Str} (h : S.spot c) : c ∈ keys C.st.ps ∨ c ∈ keys C.cp := by
  rw [l.ps, l.cp]; exact (Sto.root_some ok).mp h
theorem val_root {S S' : Sto} {c c' : Str} (hp : S'.ps = S.ps) (hr : S'.root c' = S.root c) (hc : S.spot c) : S'.val c' = S.val c := by
  obtain ⟨p, e⟩ := Option.isSome_iff_exists.mp hc
  unfold Sto.val
  rw [hp, Sto.rootD_of e, Sto.rootD_of (hr.trans e)]
theorem val_write {S : Sto} (ok : S.Ok) {c x : Str} {v : V} (hc : S.spot c) (hx : S.spot x) : (S.step (.wr c v)).val x = if S.root x = S.root c then v else S.val x := by
  obtain ⟨p, e⟩ := Option.isSome_iff_exists.mp hc
  obtain ⟨q, f⟩ := Option.isSome_iff_exists.mp hx
  have r := root_step_wr ok (v := v) hc x
  unfold Sto.val
  rw [Sto.rootD_of (r.trans f), Sto.rootD_of f]
  show (aget (aput S.ps (S.rootD c) v) q).getD .non = _
  rw [aget_put, Sto.rootD_of e, e, f]
  by_cases z : q = p
  · rw [if_pos z, if_pos (by rw [z])]; rfl
  · rw [if_neg z, if_neg fun y => z (Option.some.inj y)]
theorem Agr.step {S : Sto} {C : Cto} (ok : S.Ok) (td : S.Td) (a : Agr S C) {d : Dd} (h : S.fits d = true) (tidy : S.on d.touch = []) : Agr (S.step d) (C.step d) := by
  have l := a.led
  refine ⟨l.step ok h, fun x hx ex => ?_⟩
  cases d with
  | rd c => exact a.val x hx ex
  | wr c v =>
    have hc : S.spot c := h
    have hx' : S.spot x := by unfold Sto.spot at hx ⊢; rw [root_step_wr ok hc] at hx; exact hx
    have ex' : S.on x = [] := ex
    rw [val_write ok hc hx']
    show (C.set c v).val x = _
    rw [set_val (l.cell ok hc) (l.apart ok) (l.cell ok hx')]
    by_cases e : x = c
    · rw [if_pos e, e, if_pos rfl]
    · rw [if_neg e, if_neg fun z => e (td.uniq x c hx' hc ex' tidy z)]
      exact a.val x hx' ex'
  | bg k t =>
    obtain ⟨h1, h2, h3⟩ := S.fits_bg h
    have nk : k ∉ keys S.tg := fun z => h2 (ok.apart k z).2
    have nkc : k ∉ keys C.cp := by rw [l.cp]; exact nk
    have tidy : S.on t = [] := tidy
    rw [on_step_bg ok h] at ex
    obtain ⟨ex1, ex2⟩ := List.append_eq_nil_iff.mp ex
    have cv : (C.step (.bg k t)).val x = if x = k then C.val t else C.val x := by
      show (if x ∈ keys (aput C.cp k (C.val t)) then (aget (aput C.cp k (C.val t)) x).getD .non else (aget C.st.ps x).getD .non) = _
      rw [keys_put_new nkc, aget_put]
      by_cases e : x = k
      · rw [if_pos e, if_pos e, if_pos (by rw [e]; exact List.mem_append_right _ (List.mem_singleton.mpr rfl))]; rfl
      · rw [if_neg e, if_neg e]
        unfold Cto.val
        by_cases hc : x ∈ keys C.cp
        · rw [if_pos hc, if_pos (List.mem_append_left _ hc)]
        · rw [if_neg hc, if_neg fun z => (List.mem_append.mp z).elim hc fun y => e (List.mem_singleton.mp y)]
    rw [cv]
    have r := root_step_bg ok h x
    by_cases e : x = k
    · rw [if_pos e] at r ⊢
      rw [a.val t h3 tidy]
      exact (val_root (S := S) (S' := S.step (.bg k t)) (c' := x) rfl r h3).symm
    · rw [if_neg e] at r ⊢
      have hx' : S.spot x := by unfold Sto.spot at hx ⊢; rw [r] at hx; exact hx
      rw [a.val x hx' ex1]
      exact (val_root (S := S) (S' := S.step (.bg k t)) (c' := x) rfl r hx').symm
  | ov k =>
    have hk : k ∈ keys S.tg := of_decide_eq_true h
    have tidy : S.on k = [] := tidy
    obtain ⟨t, ht⟩ := key_pair hk
    have eT : aget C.st.tg k = some t := by rw [l.tg]; exact aget_nodup ok.nd ht
    have kt : k ≠ t := fun e => ok.irr (k, t) ht e.symm
    have r := root_step_ov ok hk
    have spt : S.spot t := td.alive (k, t) ht
    have spk : S.spot k := (Sto.root_some ok).mpr (.inr hk)
    have rk : S.root k = S.root t := td.rte (k, t) ht
    have hx' : x ≠ k ∧ S.spot x := by
      unfold Sto.spot at hx
      rw [r] at hx
      by_cases e : x = k
      · rw [if_pos e] at hx; cases hx
      · rw [if_neg e] at hx; exact ⟨e, hx⟩
    have kc : k ∈ keys C.cp := by rw [l.cp]; exact hk
    have cvk : C.val k = (aget C.cp k).getD .non := by unfold Cto.val; rw [if_pos kc]
    have hcell : t ∈ keys C.st.ps ∨ t ∈ keys (adrop C.cp k) := (l.cell ok spt).imp id fun z => mem_keys_drop.mpr ⟨z, fun e => kt e.symm⟩
    have hxcell : x ∈ keys C.st.ps ∨ x ∈ keys (adrop C.cp k) := (l.cell ok hx'.2).imp id fun z => mem_keys_drop.mpr ⟨z, hx'.1⟩
    have ap : ∀ j ∈ keys (adrop C.cp k), j ∉ keys C.st.ps := fun j hj => l.apart ok j (mem_keys_drop.mp hj).1
    have stepE : C.step (.ov k) = ({ st := C.st.strike k, cp := adrop C.cp k } : Cto).set t (C.val k) := by
      unfold Cto.step
      dsimp only
      rw [eT, cvk]
      exact if_pos hcell
    rw [stepE, set_val (C := { st := C.st.strike k, cp := adrop C.cp k }) hcell ap hxcell]
    have dv : ({ st := C.st.strike k, cp := adrop C.cp k } : Cto).val x = C.val x := by
      show (if x ∈ keys (adrop C.cp k) then (aget (adrop C.cp k) x).getD .non else (aget C.st.ps x).getD .non) = _
      unfold Cto.val
      rw [aget_drop, if_neg hx'.1]
      by_cases hc : x ∈ keys C.cp
      · rw [if_pos hc, if_pos (mem_keys_drop.mpr ⟨hc, hx'.1⟩)]
      · rw [if_neg hc, if_neg fun z => hc (mem_keys_drop.mp z).1]
    have rx := r x
    rw [if_neg hx'.1] at rx
    have vx : (S.step (.ov k)).val x = S.val x := val_root (S := S) (S' := S.step (.ov k)) (c' := x) rfl rx hx'.2
    by_cases e : x = t
    · rw [if_pos e, a.val k spk tidy, vx, e]
      exact val_root rfl rk spt
    · rw [if_neg e, dv, vx]
      refine a.val x hx'.2 ?_
      -- x had no loan: the one that went was on t
      have ex2 := ex
      rw [on_step_ov] at ex2
      cases q : S.on x with
      | nil => rfl
      | cons j m =>
        have hj : (j, x) ∈ S.tg := on_mem (by rw [q]; exact List.mem_cons_self)
        rw [q] at ex2
        have : j = k := Classical.byContradiction fun n => by
          rw [List.filter_cons, if_pos (by simp [n])] at ex2; cases ex2
        rw [this] at hj
        have e1 := aget_nodup ok.nd hj
        rw [aget_nodup ok.nd ht] at e1
        exact absurd (Option.some.inj e1).symm e

/-! ### a value that stands nowhere -/
def NoM (C : Cto) (m : V) : Prop := (∀ p ∈ C.st.ps, p.2 ≠ m) ∧ ∀ p ∈ C.cp, p.2 ≠ m
theorem no_aget {l : List (Str × V)} {m : V} (h : ∀ p ∈ l, p.2 ≠ m) {c : Str} (hc : c ∈ keys l) : (aget l c).getD .non ≠ m := by
  obtain ⟨y, e⟩ := aget_of_mem hc
  rw [e]; exact h _ (aget_pair e)
theorem NoM.val {C : Cto} {m : V} (h : NoM C m) {c : Str} (hc : c ∈ keys C.st.ps ∨ c ∈ keys C.cp) : C.val c ≠ m := by
  unfold Cto.val
  by_cases e : c ∈ keys C.cp
  · rw [if_pos e]; exact no_aget h.2 e
  · rw [if_neg e]; exact no_aget h.1 (hc.resolve_right e)
theorem no_put {l : List (Str × V)} {m v : V} {c : Str} (h : ∀ p ∈ l, p.2 ≠ m) (hv : v ≠ m) : ∀ p ∈ aput l c v, p.2 ≠ m := by
  unfold aput
  split
  · intro p hp
    obtain ⟨q, hq, e⟩ := List.mem_map.mp hp
    subst e
    by_cases z : q.1 = c
    · simp only [if_pos z]; exact hv
    · simp only [if_neg z]; exact h q hq
  · intro p hp
    rcases List.mem_append.mp hp with z | z
    · exact h p z
    · rw [List.mem_singleton.mp z]; exact hv
theorem NoM.set {C : Cto} {m v : V} {c : Str} (h : NoM C m) (hv : v ≠ m) : NoM (C.set c v) m := by
  unfold Cto.set
  by_cases e : c ∈ keys C.cp
  · rw [if_pos e]; exact ⟨h.1, no_put h.2 hv⟩
  · rw [if_neg e]; exact ⟨no_put h.1 hv, h.2⟩
def Dd.quiet (m : V) : Dd → Prop
  | .wr _ v => v ≠ m
  | _ => True
theorem NoM.step {S : Sto} {C : Cto} {m : V} (ok : S.Ok) (l : Led S C) (h : NoM C m) {d : Dd} (hf : S.fits d = true) (hd : d.quiet m) : NoM (C.step d) m := by
  cases d with
  | rd c => exact h
  | wr c v => exact h.set hd
  | bg k t => exact ⟨h.1, no_put h.2 (h.val (l.cell ok (S.fits_bg hf).2.2))⟩
  | ov k =>
    have hk : k ∈ keys C.cp := by rw [l.cp]; exact of_decide_eq_true hf
    have base : NoM { st := C.st.strike k, cp := adrop C.cp k } m := ⟨h.1, fun p hp => h.2 p (mem_drop.mp hp).1⟩
    unfold Cto.step
    dsimp only
    split
    · exact base.set (no_aget h.2 hk)
    · exact base
end Qk

/-! part M3 -/
set_option Elab.async false
set_option linter.all false
set_option maxRecDepth 100000
/-! Quickways k15, plain part 3: untidy deeds surrounded; the law's own store -/
namespace Qk
open PySem L2

def Sto.init (ps : List (Str × V)) : Sto := ⟨ps, [], [], []⟩
def Cto.init (ps : List (Str × V)) : Cto := ⟨Sto.init ps, []⟩
theorem init_ok {ps : List (Str × V)} (h : (keys ps).Nodup) : (Sto.init ps).Ok :=
  ⟨rfl, List.nodup_nil, h, fun _ z => (nomatch z), fun _ z => (nomatch z), List.Pairwise.nil, fun _ z => (nomatch z), fun _ z => (nomatch z)⟩
theorem init_root {ps : List (Str × V)} {c : Str} : (Sto.init ps).root c = if c ∈ keys ps then some c else none := rfl
theorem init_td (ps : List (Str × V)) : (Sto.init ps).Td := by
  refine ⟨List.nodup_nil, fun _ z => (nomatch z), fun _ z => (nomatch z), fun c c' a b _ _ g => ?_⟩
  have ha : c ∈ keys ps := Classical.byContradiction fun z => by
    unfold Sto.spot at a; rw [init_root, if_neg z] at a; cases a
  have hb : c' ∈ keys ps := Classical.byContradiction fun z => by
    unfold Sto.spot at b; rw [init_root, if_neg z] at b; cases b
  rw [init_root, init_root, if_pos ha, if_pos hb] at g
  exact Option.some.inj g
theorem init_led (ps : List (Str × V)) : Led (Sto.init ps) (Cto.init ps) := ⟨rfl, rfl, rfl, rfl, rfl⟩
theorem init_agr (ps : List (Str × V)) : Agr (Sto.init ps) (Cto.init ps) := by
  refine ⟨init_led ps, fun c h _ => ?_⟩
  have hc : c ∈ keys ps := Classical.byContradiction fun z => by
    unfold Sto.spot at h; rw [init_root, if_neg z] at h; cases h
  have r : (Sto.init ps).root c = some c := by rw [init_root, if_pos hc]
  unfold Sto.val
  rw [Sto.rootD_of r]
  rfl
theorem init_no {ps : List (Str × V)} {m : V} (h : ∀ p ∈ ps, p.2 ≠ m) : NoM (Cto.init ps) m := ⟨h, fun _ z => (nomatch z)⟩

/-! ### tidy or not -/
def busyAt (S : Sto) (ds : List Dd) (i : Nat) : Bool := match ds[i]? with
  | some d => !((stAt S ds i).on d.touch).isEmpty
  | none => false
def us (S : Sto) (ds : List Dd) (n : Nat) : List Nat := (List.range n).filter (busyAt S ds)
def firstU (S : Sto) (ds : List Dd) : Option Nat := (us S ds ds.length).head?
theorem us_zero {S : Sto} {ds : List Dd} : us S ds 0 = [] := rfl
theorem us_next {S : Sto} {ds : List Dd} {i : Nat} : us S ds (i + 1) = us S ds i ++ if busyAt S ds i = true then [i] else [] := by
  unfold us
  rw [List.range_succ, List.filter_append]
  congr 1
  by_cases e : busyAt S ds i = true
  · rw [if_pos e, List.filter_cons, if_pos e]; rfl
  · rw [if_neg e, List.filter_cons, if_neg e]; rfl
theorem us_le {S : Sto} {ds : List Dd} : ∀ n, (us S ds n).length ≤ n := fun n => by
  have := List.length_filter_le (busyAt S ds) (List.range n)
  rwa [List.length_range] at this
theorem us_nil {S : Sto} {ds : List Dd} : ∀ {n : Nat}, us S ds n = [] ↔ ∀ i, i < n → busyAt S ds i = false
  | n => by
    unfold us
    rw [List.filter_eq_nil_iff]
    exact ⟨fun h i hi => by simpa using h i (List.mem_range.mpr hi), fun h i hi => by simp [h i (List.mem_range.mp hi)]⟩
theorem us_more {S : Sto} {ds : List Dd} {n : Nat} : ∀ m, ∃ r, us S ds (n + m) = us S ds n ++ r
  | 0 => ⟨[], by simp⟩
  | m + 1 => by
    obtain ⟨r, e⟩ := us_more (S := S) (ds := ds) (n := n) m
    refine ⟨r ++ if busyAt S ds (n + m) = true then [n + m] else [], ?_⟩
    show us S ds (n + m + 1) = _
    rw [us_next, e, List.append_assoc]
theorem firstU_at {S : Sto} {ds : List Dd} {i : Nat} (hi : i < ds.length) (h0 : us S ds i = []) (h1 : busyAt S ds i = true) : firstU S ds = some i := by
  unfold firstU
  obtain ⟨r, e⟩ := us_more (S := S) (ds := ds) (n := i + 1) (ds.length - (i + 1))
  have en : i + 1 + (ds.length - (i + 1)) = ds.length := by omega
  rw [en] at e
  rw [e, us_next, h0, if_pos h1]
  rfl
theorem firstU_none {S : Sto} {ds : List Dd} (h : us S ds ds.length = []) : firstU S ds = none := by unfold firstU; rw [h]; rfl
theorem firstU_some {S : Sto} {ds : List Dd} {i : Nat} (h : firstU S ds = some i) : i < ds.length ∧ us S ds i = [] ∧ busyAt S ds i = true := by
  have key : ∀ n, (us S ds n).head? = some i → i < n ∧ us S ds i = [] ∧ busyAt S ds i = true := by
    intro n
    induction n with
    | zero => intro h; cases h
    | succ n ih =>
      intro h
      rw [us_next] at h
      cases e : us S ds n with
      | nil =>
        rw [e] at h
        by_cases hb : busyAt S ds n = true
        · rw [if_pos hb] at h
          have : n = i := Option.some.inj h
          subst this
          exact ⟨Nat.lt_succ_self _, e, hb⟩
        · rw [if_neg hb] at h; cases h
      | cons j r =>
        rw [e] at h
        have : (us S ds n).head? = some i := by rw [e]; exact h
        obtain ⟨a, b⟩ := ih this
        exact ⟨Nat.lt_succ_of_lt a, b⟩
  exact key _ h
theorem firstU_none_iff {S : Sto} {ds : List Dd} (h : firstU S ds = none) : us S ds ds.length = [] := by
  unfold firstU at h
  cases e : us S ds ds.length with
  | nil => rfl
  | cons j r => rw [e] at h; cases h

theorem tidy_run {ps : List (Str × V)} {ds : List Dd} (hp : (keys ps).Nodup) : ∀ {i : Nat}, i ≤ ds.length → Fit (Sto.init ps) ds i → us (Sto.init ps) ds i = [] →
    (stAt (Sto.init ps) ds i).Td ∧ Agr (stAt (Sto.init ps) ds i) (ctAt (Cto.init ps) ds i)
  | 0, _, _, _ => ⟨init_td ps, init_agr ps⟩
  | i + 1, hi, hf, hu => by
    obtain ⟨d, e⟩ : ∃ d, ds[i]? = some d := ⟨ds[i], List.getElem?_eq_getElem hi⟩
    rw [us_next] at hu
    obtain ⟨hu1, hu2⟩ := List.append_eq_nil_iff.mp hu
    obtain ⟨td, ag⟩ := tidy_run hp (Nat.le_of_succ_le hi) (hf.mono (Nat.le_succ _)) hu1
    have ok := stAt_ok (init_ok hp) (Nat.le_of_succ_le hi) (hf.mono (Nat.le_succ _))
    have ff := hf i d (Nat.lt_succ_self _) e
    have hb : busyAt (Sto.init ps) ds i = false := by
      cases q : busyAt (Sto.init ps) ds i with
      | false => rfl
      | true => rw [if_pos q] at hu2; cases hu2
    have tidy : (stAt (Sto.init ps) ds i).on d.touch = [] := by
      unfold busyAt at hb; rw [e] at hb; simpa using hb
    rw [stAt_next e, ctAt_next e]
    exact ⟨td.step ok ff tidy, ag.step ok td ff tidy⟩
theorem led_run {ps : List (Str × V)} {ds : List Dd} (hp : (keys ps).Nodup) : ∀ {i : Nat}, i ≤ ds.length → Fit (Sto.init ps) ds i → Led (stAt (Sto.init ps) ds i) (ctAt (Cto.init ps) ds i)
  | 0, _, _ => init_led ps
  | i + 1, hi, hf => by
    obtain ⟨d, e⟩ : ∃ d, ds[i]? = some d := ⟨ds[i], List.getElem?_eq_getElem hi⟩
    rw [stAt_next e, ctAt_next e]
    exact (led_run hp (Nat.le_of_succ_le hi) (hf.mono (Nat.le_succ _))).step (stAt_ok (init_ok hp) (Nat.le_of_succ_le hi) (hf.mono (Nat.le_succ _))) (hf i d (Nat.lt_succ_self _) e)
theorem no_run {ps : List (Str × V)} {ds : List Dd} {m : V} (hp : (keys ps).Nodup) (h0 : ∀ p ∈ ps, p.2 ≠ m) (hq : ∀ d ∈ ds, d.quiet m) : ∀ {i : Nat}, i ≤ ds.length → Fit (Sto.init ps) ds i → NoM (ctAt (Cto.init ps) ds i) m
  | 0, _, _ => init_no h0
  | i + 1, hi, hf => by
    obtain ⟨d, e⟩ : ∃ d, ds[i]? = some d := ⟨ds[i], List.getElem?_eq_getElem hi⟩
    rw [ctAt_next e]
    exact (no_run hp h0 hq (Nat.le_of_succ_le hi) (hf.mono (Nat.le_succ _))).step (stAt_ok (init_ok hp) (Nat.le_of_succ_le hi) (hf.mono (Nat.le_succ _))) (led_run hp (Nat.le_of_succ_le hi) (hf.mono (Nat.le_succ _)))
      (hf i d (Nat.lt_succ_self _) e) (hq d (List.mem_of_getElem? e))

/-! ### what the two ways read -/
def Dd.rds {α : Type} (d : Dd) (f : Str → α) : List α := match d with
  | .rd c => [f c]
  | _ => []
theorem rds_no {α : Type} {d : Dd} {f : Str → α} (h : d.isRd = false) : d.rds f = [] := by
  cases d with
  | rd c => cases h
  | _ => rfl
def ansAt (S : Sto) (C : Cto) (ds : List Dd) : Nat → List (Nat × V × V)
  | 0 => []
  | i + 1 => ansAt S C ds i ++ match ds[i]? with
    | some d => d.rds fun c => (i, (stAt S ds i).val c, (ctAt C ds i).val c)
    | none => []
theorem ans_next {S : Sto} {C : Cto} {ds : List Dd} {i : Nat} {d : Dd} (h : ds[i]? = some d) : ansAt S C ds (i + 1) = ansAt S C ds i ++ d.rds fun c => (i, (stAt S ds i).val c, (ctAt C ds i).val c) := by
  show ansAt S C ds i ++ (match ds[i]? with | some d => d.rds fun c => (i, (stAt S ds i).val c, (ctAt C ds i).val c) | none => []) = _
  rw [h]
theorem ans_lt {S : Sto} {C : Cto} {ds : List Dd} : ∀ {n : Nat} {x}, x ∈ ansAt S C ds n → x.1 < n
  | n + 1, x, h => by
    rcases List.mem_append.mp h with z | z
    · exact Nat.lt_succ_of_lt (ans_lt z)
    · split at z
      · rename_i d _
        cases d with
        | rd c => rw [List.mem_singleton.mp z]; exact Nat.lt_succ_self _
        | _ => cases z
      · cases z
theorem ans_take {S : Sto} {C : Cto} {ds es : List Dd} : ∀ {n : Nat}, ds.take n = es.take n → ansAt S C ds n = ansAt S C es n
  | 0, _ => rfl
  | n + 1, h => by
    have h' : ds.take n = es.take n := by
      have := congrArg (List.take n) h
      rwa [List.take_take, List.take_take, Nat.min_eq_left (Nat.le_succ n)] at this
    show ansAt S C ds n ++ _ = ansAt S C es n ++ _
    rw [ans_take h', get_take h (Nat.lt_succ_self n), stAt_take h' (Nat.le_refl n), ctAt_take h' (Nat.le_refl n)]
theorem ans_reads {S : Sto} {C : Cto} {ds : List Dd} : ∀ {n : Nat}, n ≤ ds.length → (ansAt S C ds n).length = ((ds.take n).filter Dd.isRd).length
  | 0, _ => rfl
  | n + 1, h => by
    obtain ⟨d, e⟩ : ∃ d, ds[n]? = some d := ⟨ds[n], List.getElem?_eq_getElem h⟩
    rw [ans_next e, take_next e, List.filter_append, List.length_append, List.length_append, ans_reads (Nat.le_of_succ_le h)]
    congr 1
    cases d <;> rfl
theorem ans_len {S : Sto} {C : Cto} {ds : List Dd} {n : Nat} : (ansAt S C ds n).length ≤ n := by
  induction n with
  | zero => exact Nat.le_refl _
  | succ n ih =>
    show (ansAt S C ds n ++ _).length ≤ _
    rw [List.length_append]
    have : (match ds[n]? with | some d => d.rds fun c => (n, (stAt S ds n).val c, (ctAt C ds n).val c) | none => []).length ≤ 1 := by
      split
      · rename_i d _
        cases d with
        | rd c => exact Nat.le_refl _
        | _ => exact Nat.zero_le _
      · exact Nat.zero_le _
    omega
/-- the first deeds are tidy: what they read is one -/
theorem ans_alike {ps : List (Str × V)} {ds : List Dd} (hp : (keys ps).Nodup) : ∀ {i : Nat}, i ≤ ds.length → Fit (Sto.init ps) ds i → us (Sto.init ps) ds i = [] → ∀ x ∈ ansAt (Sto.init ps) (Cto.init ps) ds i, x.2.1 = x.2.2
  | 0, _, _, _ => fun _ z => (nomatch z)
  | i + 1, hi, hf, hu => by
    obtain ⟨d, e⟩ : ∃ d, ds[i]? = some d := ⟨ds[i], List.getElem?_eq_getElem hi⟩
    have hu' := hu
    rw [us_next] at hu
    obtain ⟨hu1, hu2⟩ := List.append_eq_nil_iff.mp hu
    obtain ⟨td, ag⟩ := tidy_run hp (Nat.le_of_succ_le hi) (hf.mono (Nat.le_succ _)) hu1
    have ff := hf i d (Nat.lt_succ_self _) e
    have tidy : (stAt (Sto.init ps) ds i).on d.touch = [] := by
      have hb := us_nil.mp hu' i (Nat.lt_succ_self _)
      unfold busyAt at hb; rw [e] at hb; simpa using hb
    intro x hx
    rw [ans_next e] at hx
    rcases List.mem_append.mp hx with z | z
    · exact ans_alike hp (Nat.le_of_succ_le hi) (hf.mono (Nat.le_succ _)) hu1 x z
    · cases d with
      | rd c =>
        rw [List.mem_singleton.mp z]
        exact (ag.val c ff tidy).symm
      | _ => cases z

/-! ### surrounded -/
def surr (S0 : Sto) (ds : List Dd) (m : V) (a : Nat) : List Dd := match ds[a]? with
  | some (.bg k t) => ds.take a ++ [.wr ((stAt S0 ds a).endOf t) m, .bg k t, .rd k]
  | some (.rd c) => ds.take a ++ [.wr ((stAt S0 ds a).endOf c) m, .rd c]
  | some (.wr c _) => ds.take a ++ [.wr c m, .rd ((stAt S0 ds a).endOf c)]
  | some (.ov k) => ds.take a ++ [.ov k, .wr ((stAt S0 ds a).endOf k) m, .rd ((aget (stAt S0 ds a).tg k).getD k)]
  | none => ds
def due (ps : List (Str × V)) (ds : List Dd) (m : V) : Option (List Dd) := (firstU (Sto.init ps) ds).map fun a => surr (Sto.init ps) ds m a

section suffix
variable {S : Sto} {C : Cto} {pre : List Dd} {d1 d2 d3 : Dd}
theorem take_pre {r : List Dd} : (pre ++ r).take pre.length = pre.take pre.length := by rw [List.take_left, List.take_length]
theorem get_suf {r : List Dd} {j : Nat} : (pre ++ r)[pre.length + j]? = r[j]? := by
  rw [List.getElem?_append_right (Nat.le_add_right _ _), Nat.add_sub_cancel_left]
theorem st_suf0 {r : List Dd} : stAt S (pre ++ r) pre.length = stAt S pre pre.length := stAt_take take_pre (Nat.le_refl _)
theorem ct_suf0 {r : List Dd} : ctAt C (pre ++ r) pre.length = ctAt C pre pre.length := ctAt_take take_pre (Nat.le_refl _)
theorem an_suf0 {r : List Dd} : ansAt S C (pre ++ r) pre.length = ansAt S C pre pre.length := ans_take take_pre
theorem st_suf1 {r : List Dd} : stAt S (pre ++ d1 :: r) (pre.length + 1) = (stAt S pre pre.length).step d1 := by rw [stAt_next (d := d1) (get_suf (j := 0)), st_suf0]
theorem ct_suf1 {r : List Dd} : ctAt C (pre ++ d1 :: r) (pre.length + 1) = (ctAt C pre pre.length).step d1 := by rw [ctAt_next (d := d1) (get_suf (j := 0)), ct_suf0]
theorem st_suf2 {r : List Dd} : stAt S (pre ++ d1 :: d2 :: r) (pre.length + 2) = ((stAt S pre pre.length).step d1).step d2 := by
  show stAt S _ (pre.length + 1 + 1) = _
  rw [stAt_next (d := d2) (get_suf (j := 1)), st_suf1]
theorem ct_suf2 {r : List Dd} : ctAt C (pre ++ d1 :: d2 :: r) (pre.length + 2) = ((ctAt C pre pre.length).step d1).step d2 := by
  show ctAt C _ (pre.length + 1 + 1) = _
  rw [ctAt_next (d := d2) (get_suf (j := 1)), ct_suf1]
theorem fit_suf2 (h : Fit S pre pre.length) (h1 : (stAt S pre pre.length).fits d1 = true) (h2 : ((stAt S pre pre.length).step d1).fits d2 = true) : Fit S (pre ++ [d1, d2]) (pre ++ [d1, d2]).length := fun i d hi e => by
  rw [List.length_append] at hi
  have hi : i < pre.length + 2 := hi
  rcases Nat.lt_trichotomy i pre.length with z | z | z
  · rw [stAt_take take_pre (Nat.le_of_lt z)]
    exact h i d z (by rw [← e]; exact (get_take take_pre z).symm)
  · subst z
    have e' : some d1 = some d := (get_suf (j := 0)).symm.trans e
    cases e'
    rw [st_suf0]; exact h1
  · have z' : i = pre.length + 1 := by omega
    subst z'
    have e' : some d2 = some d := (get_suf (j := 1)).symm.trans e
    cases e'
    rw [st_suf1]; exact h2
theorem fit_suf3 (h : Fit S pre pre.length) (h1 : (stAt S pre pre.length).fits d1 = true) (h2 : ((stAt S pre pre.length).step d1).fits d2 = true) (h3 : (((stAt S pre pre.length).step d1).step d2).fits d3 = true) :
    Fit S (pre ++ [d1, d2, d3]) (pre ++ [d1, d2, d3]).length := fun i d hi e => by
  rw [List.length_append] at hi
  have hi : i < pre.length + 3 := hi
  rcases Nat.lt_trichotomy i pre.length with z | z | z
  · rw [stAt_take take_pre (Nat.le_of_lt z)]
    exact h i d z (by rw [← e]; exact (get_take take_pre z).symm)
  · subst z
    have e' : some d1 = some d := (get_suf (j := 0)).symm.trans e
    cases e'
    rw [st_suf0]; exact h1
  · rcases (show i = pre.length + 1 ∨ i = pre.length + 2 by omega) with z' | z'
    · subst z'
      have e' : some d2 = some d := (get_suf (j := 1)).symm.trans e
      cases e'
      rw [st_suf1]; exact h2
    · subst z'
      have e' : some d3 = some d := (get_suf (j := 2)).symm.trans e
      cases e'
      rw [st_suf2]; exact h3
theorem ans_suf2 {c : Str} (n1 : d1.isRd = false) : ansAt S C (pre ++ [d1, .rd c]) (pre ++ [d1, .rd c]).length = ansAt S C pre pre.length ++ [(pre.length + 1, ((stAt S pre pre.length).step d1).val c, ((ctAt C pre pre.length).step d1).val c)] := by
  have el : (pre ++ [d1, Dd.rd c]).length = pre.length + 1 + 1 := by rw [List.length_append]; rfl
  rw [el, ans_next (d := .rd c) (get_suf (j := 1)), ans_next (d := d1) (get_suf (j := 0)), an_suf0, st_suf1, ct_suf1]
  rw [rds_no n1, List.append_nil]
  rfl
theorem ans_suf3 {c : Str} (n1 : d1.isRd = false) (n2 : d2.isRd = false) : ansAt S C (pre ++ [d1, d2, .rd c]) (pre ++ [d1, d2, .rd c]).length =
    ansAt S C pre pre.length ++ [(pre.length + 2, (((stAt S pre pre.length).step d1).step d2).val c, (((ctAt C pre pre.length).step d1).step d2).val c)] := by
  have el : (pre ++ [d1, d2, Dd.rd c]).length = pre.length + 1 + 1 + 1 := by rw [List.length_append]; rfl
  rw [el, ans_next (d := .rd c) (get_suf (j := 2)), ans_next (d := d2) (get_suf (j := 1)), ans_next (d := d1) (get_suf (j := 0)), an_suf0]
  rw [rds_no n1, rds_no n2, List.append_nil, List.append_nil]
  show _ ++ [(pre.length + 2, (stAt S _ (pre.length + 2)).val c, (ctAt C _ (pre.length + 2)).val c)] = _
  rw [st_suf2, ct_suf2]
end suffix

/-- what is shown of surrounded deeds -/
structure Parts (ps : List (Str × V)) (ds L : List Dd) (m : V) (a : Nat) : Prop where
  fit : Fit (Sto.init ps) L L.length
  len : L.length ≤ a + 3
  pos : 0 < L.length
  last : ∃ q, q ≠ m ∧ ansAt (Sto.init ps) (Cto.init ps) L L.length = ansAt (Sto.init ps) (Cto.init ps) ds a ++ [(L.length - 1, m, q)]
  alike : ∀ x ∈ ansAt (Sto.init ps) (Cto.init ps) ds a, x.2.1 = x.2.2 ∧ x.1 < L.length - 1

theorem surr_parts {ps : List (Str × V)} {ds : List Dd} {m : V} {a : Nat} (hp : (keys ps).Nodup) (hf : Fit (Sto.init ps) ds ds.length) (h0 : ∀ p ∈ ps, p.2 ≠ m) (hq : ∀ d ∈ ds, d.quiet m) (hu : firstU (Sto.init ps) ds = some a) :
    Parts ps ds (surr (Sto.init ps) ds m a) m a := by
  obtain ⟨ha, hua, hb⟩ := firstU_some hu
  obtain ⟨d, e⟩ : ∃ d, ds[a]? = some d := ⟨ds[a], List.getElem?_eq_getElem ha⟩
  have hal : a ≤ ds.length := Nat.le_of_lt ha
  have hfa := hf.mono hal
  have ok := stAt_ok (init_ok hp) hal hfa
  obtain ⟨td, ag⟩ := tidy_run hp hal hfa hua
  have led := ag.led
  have nm := no_run hp h0 hq hal hfa
  have ff := hf a d ha e
  have busy : (stAt (Sto.init ps) ds a).on d.touch ≠ [] := by
    unfold busyAt at hb; rw [e] at hb
    intro z
    have hb : (!((stAt (Sto.init ps) ds a).on d.touch).isEmpty) = true := hb
    rw [z] at hb; cases hb
  have alike := ans_alike hp hal hfa hua
  -- the deeds in front
  obtain ⟨pre, hpre⟩ : ∃ pre, pre = ds.take a := ⟨_, rfl⟩
  have lpre : pre.length = a := by rw [hpre, List.length_take]; omega
  have tk : ds.take a = pre.take a := by rw [hpre, List.take_take, Nat.min_self]
  have eS : stAt (Sto.init ps) ds a = stAt (Sto.init ps) pre pre.length := by rw [lpre]; exact stAt_take tk (Nat.le_refl _)
  have eC : ctAt (Cto.init ps) ds a = ctAt (Cto.init ps) pre pre.length := by rw [lpre]; exact ctAt_take tk (Nat.le_refl _)
  have eA : ansAt (Sto.init ps) (Cto.init ps) ds a = ansAt (Sto.init ps) (Cto.init ps) pre pre.length := by rw [lpre]; exact ans_take tk
  have fpre : Fit (Sto.init ps) pre pre.length := by rw [lpre]; exact Fit.take tk hfa
  have alt : ∀ x ∈ ansAt (Sto.init ps) (Cto.init ps) ds a, x.1 < a := fun x hx => ans_lt hx
  rw [eS] at ok td ag led ff busy
  rw [eC] at ag led nm
  rw [eA] at alike alt
  have mk : ∀ L : List Dd, Fit (Sto.init ps) L L.length → L.length ≤ a + 3 → 0 < L.length → (∃ q, q ≠ m ∧ ansAt (Sto.init ps) (Cto.init ps) L L.length = ansAt (Sto.init ps) (Cto.init ps) pre pre.length ++ [(L.length - 1, m, q)]) →
      (∀ x ∈ ansAt (Sto.init ps) (Cto.init ps) pre pre.length, x.2.1 = x.2.2 ∧ x.1 < L.length - 1) → Parts ps ds L m a := fun L h1 h2 h3 h4 h5 =>
    ⟨h1, h2, h3, by rw [eA]; exact h4, by rw [eA]; exact h5⟩
  unfold surr
  rw [e, eS, ← hpre]
  clear hb eS eC eA hua hf hfa hq h0 hu
  generalize hS : stAt (Sto.init ps) pre pre.length = S at *
  generalize hC : ctAt (Cto.init ps) pre pre.length = C at *
  have ap := led.apart ok
  cases d with
  | rd c =>
    have sc : S.spot c := ff
    have en := end_ne ok (c := c) busy
    obtain ⟨se, re⟩ := end_root ok td sc
    have f2 : (S.step (.wr (S.endOf c) m)).fits (.rd c) = true := by
      show (S.step (.wr (S.endOf c) m)).spot c
      unfold Sto.spot; rw [root_step_wr ok se]; exact sc
    have ll : (pre ++ [Dd.wr (S.endOf c) m, .rd c]).length = a + 2 := by rw [List.length_append, lpre]; rfl
    refine mk _ (fit_suf2 fpre (by rw [hS]; exact se) (by rw [hS]; exact f2)) (by rw [ll]; omega) (by rw [ll]; omega) ⟨((C.step (.wr (S.endOf c) m))).val c, ?_, ?_⟩ fun x hx => ⟨alike x hx, ?_⟩
    · show (C.set (S.endOf c) m).val c ≠ m
      rw [set_val (led.cell ok se) ap (led.cell ok sc), if_neg fun z => en z.symm]
      exact nm.val (led.cell ok sc)
    · rw [ans_suf2 rfl, hS, hC, ll, val_write ok se sc, if_pos re.symm, lpre]
      rfl
    · rw [ll]; have := alt x hx; omega
  | wr c v =>
    have sc : S.spot c := ff
    have en := end_ne ok (c := c) busy
    obtain ⟨se, re⟩ := end_root ok td sc
    have f2 : (S.step (.wr c m)).fits (.rd (S.endOf c)) = true := by
      show (S.step (.wr c m)).spot (S.endOf c)
      unfold Sto.spot; rw [root_step_wr ok sc]; exact se
    have ll : (pre ++ [Dd.wr c m, .rd (S.endOf c)]).length = a + 2 := by rw [List.length_append, lpre]; rfl
    refine mk _ (fit_suf2 fpre (by rw [hS]; exact sc) (by rw [hS]; exact f2)) (by rw [ll]; omega) (by rw [ll]; omega) ⟨((C.step (.wr c m))).val (S.endOf c), ?_, ?_⟩ fun x hx => ⟨alike x hx, ?_⟩
    · show (C.set c m).val (S.endOf c) ≠ m
      rw [set_val (led.cell ok sc) ap (led.cell ok se), if_neg en]
      exact nm.val (led.cell ok se)
    · rw [ans_suf2 rfl, hS, hC, ll, val_write ok sc se, if_pos re, lpre]
      rfl
    · rw [ll]; have := alt x hx; omega
  | bg k t =>
    obtain ⟨g1, g2, st⟩ := S.fits_bg ff
    have busy : S.on t ≠ [] := busy
    have en := end_ne ok (c := t) busy
    obtain ⟨se, re⟩ := end_root ok td st
    have ok1 := ok.step (d := .wr (S.endOf t) m) se
    have rw1 := fun c => root_step_wr ok (v := m) se c
    have f2 : (S.step (.wr (S.endOf t) m)).fits (.bg k t) = true := by
      have k1 : k ∉ keys (S.step (.wr (S.endOf t) m)).ps := by rw [Sto.keys_step ok (d := .wr (S.endOf t) m) se]; exact g1
      have s1 : (S.step (.wr (S.endOf t) m)).spot t := by unfold Sto.spot; rw [rw1]; exact st
      have o1 : k ∉ (S.step (.wr (S.endOf t) m)).od := g2
      show (decide (k ∉ keys (S.step (.wr (S.endOf t) m)).ps) && decide (k ∉ (S.step (.wr (S.endOf t) m)).od) && ((S.step (.wr (S.endOf t) m)).root t).isSome) = true
      rw [decide_eq_true k1, decide_eq_true o1, s1]; rfl
    have rk := root_step_bg ok1 f2 k
    rw [if_pos rfl, rw1] at rk
    have f3 : ((S.step (.wr (S.endOf t) m)).step (.bg k t)).fits (.rd k) = true := by
      show Sto.spot _ k
      unfold Sto.spot; rw [rk]; exact st
    have nk : k ∉ keys S.tg := fun z => g2 (ok.apart k z).2
    have led1 := led.step ok (d := .wr (S.endOf t) m) se
    have nkc : k ∉ keys (C.step (.wr (S.endOf t) m)).cp := by rw [led1.cp]; exact nk
    have ll : (pre ++ [Dd.wr (S.endOf t) m, .bg k t, .rd k]).length = a + 3 := by rw [List.length_append, lpre]; rfl
    refine mk _ (fit_suf3 fpre (by rw [hS]; exact se) (by rw [hS]; exact f2) (by rw [hS]; exact f3)) (by rw [ll]; omega) (by rw [ll]; omega) ⟨((C.step (.wr (S.endOf t) m)).step (.bg k t)).val k, ?_, ?_⟩ fun x hx => ⟨alike x hx, ?_⟩
    · have : ((C.step (.wr (S.endOf t) m)).step (.bg k t)).val k = (C.set (S.endOf t) m).val t := by
        show (if k ∈ keys (aput (C.step (.wr (S.endOf t) m)).cp k _) then (aget (aput (C.step (.wr (S.endOf t) m)).cp k _) k).getD .non else _) = _
        rw [keys_put_new nkc, if_pos (List.mem_append_right _ (List.mem_singleton.mpr rfl)), aget_put, if_pos rfl]
        rfl
      rw [this, set_val (led.cell ok se) ap (led.cell ok st), if_neg fun z => en z.symm]
      exact nm.val (led.cell ok st)
    · rw [ans_suf3 rfl rfl, hS, hC, ll, lpre]
      have : ((S.step (.wr (S.endOf t) m)).step (.bg k t)).val k = m := by
        have e1 : ((S.step (.wr (S.endOf t) m)).step (.bg k t)).val k = (S.step (.wr (S.endOf t) m)).val t :=
          val_root (S := S.step (.wr (S.endOf t) m)) (S' := (S.step (.wr (S.endOf t) m)).step (.bg k t)) rfl (rk.trans (rw1 t).symm) (by unfold Sto.spot; rw [rw1]; exact st)
        rw [e1, val_write ok se st, if_pos re.symm]
      rw [this]
      rfl
    · rw [ll]; have := alt x hx; omega
  | ov k =>
    have hk : k ∈ keys S.tg := of_decide_eq_true ff
    have busy : S.on k ≠ [] := busy
    have en := end_ne ok (c := k) busy
    have sk : S.spot k := (Sto.root_some ok).mpr (.inr hk)
    obtain ⟨se, re⟩ := end_root ok td sk
    obtain ⟨t, ht⟩ := key_pair hk
    have eT : aget S.tg k = some t := aget_nodup ok.nd ht
    have kt : t ≠ k := ok.irr (k, t) ht
    have st : S.spot t := td.alive (k, t) ht
    have rt : S.root k = S.root t := td.rte (k, t) ht
    have et : S.endOf k ≠ t := fun z => by
      have h1 := end_on ok k
      rw [z] at h1
      exact on_nil h1 ht
    show Parts ps ds (pre ++ [Dd.ov k, .wr (S.endOf k) m, .rd ((aget S.tg k).getD k)]) m a
    rw [eT]
    show Parts ps ds (pre ++ [Dd.ov k, .wr (S.endOf k) m, .rd t]) m a
    have ok1 := ok.step (d := .ov k) ff
    have r1 := root_step_ov ok hk
    have f2 : (S.step (.ov k)).fits (.wr (S.endOf k) m) = true := by
      show Sto.spot _ _
      unfold Sto.spot; rw [r1, if_neg en]; exact se
    have st1 : (S.step (.ov k)).spot t := by unfold Sto.spot; rw [r1, if_neg kt]; exact st
    have f3 : ((S.step (.ov k)).step (.wr (S.endOf k) m)).fits (.rd t) = true := by
      show Sto.spot _ t
      unfold Sto.spot; rw [root_step_wr ok1 f2]; exact st1
    have led1 := led.step ok (d := .ov k) ff
    have hkc : k ∈ keys C.cp := by rw [led.cp]; exact hk
    have ll : (pre ++ [Dd.ov k, .wr (S.endOf k) m, .rd t]).length = a + 3 := by rw [List.length_append, lpre]; rfl
    refine mk _ (fit_suf3 fpre (by rw [hS]; exact ff) (by rw [hS]; exact f2) (by rw [hS]; exact f3)) (by rw [ll]; omega) (by rw [ll]; omega) ⟨((C.step (.ov k)).step (.wr (S.endOf k) m)).val t, ?_, ?_⟩ fun x hx => ⟨alike x hx, ?_⟩
    · show ((C.step (.ov k)).set (S.endOf k) m).val t ≠ m
      rw [set_val (led1.cell ok1 f2) (led1.apart ok1) (led1.cell ok1 st1), if_neg fun z => et z.symm]
      have nm1 : NoM (C.step (.ov k)) m := nm.step ok led ff trivial
      exact nm1.val (led1.cell ok1 st1)
    · rw [ans_suf3 rfl rfl, hS, hC, ll, lpre]
      have : ((S.step (.ov k)).step (.wr (S.endOf k) m)).val t = m := by
        rw [val_write ok1 f2 st1, if_pos ?_]
        rw [r1, r1, if_neg kt, if_neg en, ← rt, re]
      rw [this]
      rfl
    · rw [ll]; have := alt x hx; omega

/-! ### parted reads -/
def parted (xs : List (Nat × V × V)) : List Nat := (xs.filter fun x => !decide (x.2.1 = x.2.2)).map Prod.fst
theorem parted_alike {xs : List (Nat × V × V)} (h : ∀ x ∈ xs, x.2.1 = x.2.2) : parted xs = [] := by
  unfold parted
  rw [List.filter_eq_nil_iff.mpr fun x hx => by simp [h x hx]]
  rfl
theorem parted_app (xs ys : List (Nat × V × V)) : parted (xs ++ ys) = parted xs ++ parted ys := by
  unfold parted; rw [List.filter_append, List.map_append]
theorem parted_last {xs : List (Nat × V × V)} (h : ∀ x ∈ xs, x.2.1 = x.2.2) {n : Nat} {m q : V} (hq : q ≠ m) : parted (xs ++ [(n, m, q)]) = [n] := by
  rw [parted_app, parted_alike h]
  have : ¬ m = q := fun e => hq e.symm
  simp [parted, this]

/-! ### the targets of the begins in front -/
def begs (ds : List Dd) (k : Str) : List Str := ds.filterMap fun d => match d with
  | .bg j t => if j = k then some t else none
  | _ => none
theorem begs_run {ps : List (Str × V)} {ds : List Dd} (hp : (keys ps).Nodup) : ∀ {i : Nat}, i ≤ ds.length → Fit (Sto.init ps) ds i →
    (∀ k t, (k, t) ∈ (stAt (Sto.init ps) ds i).tg → begs (ds.take i) k = [t]) ∧ ∀ k, k ∉ (stAt (Sto.init ps) ds i).od → begs (ds.take i) k = []
  | 0, _, _ => ⟨fun _ _ z => (nomatch z), fun _ _ => rfl⟩
  | i + 1, hi, hf => by
    obtain ⟨d, e⟩ : ∃ d, ds[i]? = some d := ⟨ds[i], List.getElem?_eq_getElem hi⟩
    obtain ⟨h1, h2⟩ := begs_run hp (Nat.le_of_succ_le hi) (hf.mono (Nat.le_succ _))
    have ok := stAt_ok (init_ok hp) (Nat.le_of_succ_le hi) (hf.mono (Nat.le_succ _))
    have ff := hf i d (Nat.lt_succ_self _) e
    rw [stAt_next e]
    have eb : ∀ k, begs (ds.take (i + 1)) k = begs (ds.take i) k ++ begs [d] k := fun k => by
      unfold begs; rw [take_next e, List.filterMap_append]
    generalize stAt (Sto.init ps) ds i = S at *
    cases d with
    | rd c => exact ⟨fun k t h => by rw [eb, h1 k t h]; rfl, fun k h => by rw [eb, h2 k h]; rfl⟩
    | wr c v => exact ⟨fun k t h => by rw [eb, h1 k t h]; rfl, fun k h => by rw [eb, h2 k h]; rfl⟩
    | ov j => exact ⟨fun k t h => by rw [eb, h1 k t (mem_drop.mp h).1]; rfl, fun k h => by rw [eb, h2 k h]; rfl⟩
    | bg j u =>
      obtain ⟨g1, g2, g3⟩ := S.fits_bg ff
      have es : S.step (.bg j u) = _ := Sto.enter_eq ok ff
      refine ⟨fun k t h => ?_, fun k h => ?_⟩
      · rw [es] at h
        rcases List.mem_append.mp h with z | z
        · have kj : ¬ j = k := fun q => g2 (by rw [q]; exact (ok.apart k (pair_key z)).2)
          rw [eb, h1 k t z]
          simp [begs, kj]
        · cases List.mem_singleton.mp z
          rw [eb, h2 j g2]
          simp [begs]
      · rw [es] at h
        have n1 : k ∉ S.od := fun z => h (List.mem_append_left _ z)
        have n2 : ¬ j = k := fun z => h (List.mem_append_right _ (by rw [z]; exact List.mem_singleton.mpr rfl))
        rw [eb, h2 k n1]
        simp [begs, n2]

/-! ### the law's own store (addresses alone) -/
structure Lw where
  ps : List (Str × V)
  hd : List (Str × V)
  tg : List (Str × Str)
  rt : List (Str × Str)
  ks : List Str
def Lw.init (ps : List (Str × V)) : Lw := ⟨ps, [], [], [], []⟩
def Lw.root (L : Lw) (c : Str) : Str := if c ∈ keys L.ps then c else (aget L.rt c).getD c
def Lw.val (L : Lw) (c : Str) : V := (aget L.ps (L.root c)).getD .non
def Lw.step (L : Lw) : Dd → Lw
  | .rd _ => L
  | .wr c v => { L with ps := aput L.ps (L.root c) v }
  | .bg k t => { L with hd := aput L.hd k (L.val t), tg := aput L.tg k t, rt := aput L.rt k (L.root t), ks := L.ks ++ [k] }
  | .ov k => { L with hd := adrop L.hd k, ks := L.ks.filter fun j => !decide (j = k) }
def Lw.on (L : Lw) (c : Str) : List Str := L.ks.filter fun k => decide (aget L.tg k = some c)
structure Sim (S : Sto) (L : Lw) : Prop where
  ps : L.ps = S.ps
  ks : L.ks = keys S.tg
  tg : ∀ k ∈ keys S.tg, aget L.tg k = aget S.tg k
  rt : ∀ k ∈ keys S.tg, aget L.rt k = aget S.rt k
  hd : ∀ k ∈ keys S.tg, k ∈ keys L.hd
theorem Sim.init (ps : List (Str × V)) : Sim (Sto.init ps) (Lw.init ps) := ⟨rfl, rfl, fun _ z => (nomatch z), fun _ z => (nomatch z), fun _ z => (nomatch z)⟩
theorem Sim.root {S : Sto} {L : Lw} (ok : S.Ok) (s : Sim S L) {c : Str} (h : S.spot c) : L.root c = S.rootD c := by
  unfold Lw.root Sto.rootD Sto.root
  rw [s.ps]
  by_cases e : c ∈ keys S.ps
  · rw [if_pos e, if_pos e]; rfl
  · rw [if_neg e, if_neg e, s.rt c (((Sto.root_some ok).mp h).resolve_left e)]
theorem Sim.val {S : Sto} {L : Lw} (ok : S.Ok) (s : Sim S L) {c : Str} (h : S.spot c) : L.val c = S.val c := by
  unfold Lw.val Sto.val; rw [s.root ok h, s.ps]
theorem Sim.step {S : Sto} {L : Lw} (ok : S.Ok) (s : Sim S L) {d : Dd} (h : S.fits d = true) : Sim (S.step d) (L.step d) := by
  cases d with
  | rd c => exact s
  | wr c v =>
    refine ⟨?_, s.ks, s.tg, s.rt, s.hd⟩
    show aput L.ps (L.root c) v = aput S.ps (S.rootD c) v
    rw [s.ps, s.root ok h]
  | bg k t =>
    obtain ⟨g1, g2, g3⟩ := S.fits_bg h
    have es : S.step (.bg k t) = _ := Sto.enter_eq ok h
    have nk : k ∉ keys S.tg := fun z => g2 (ok.apart k z).2
    have nr : k ∉ keys S.rt := by rw [← ok.same]; exact nk
    rw [es]
    refine ⟨s.ps, ?_, fun j hj => ?_, fun j hj => ?_, fun j hj => ?_⟩
    · show L.ks ++ [k] = keys (S.tg ++ [(k, t)])
      rw [keys_app, s.ks]; rfl
    · have hj' : j ∈ keys S.tg ∨ j = k := by
        have : j ∈ keys (S.tg ++ [(k, t)]) := hj
        rw [keys_app] at this
        exact (List.mem_append.mp this).imp id List.mem_singleton.mp
      show aget (aput L.tg k t) j = aget (S.tg ++ [(k, t)]) j
      rw [← aput_new nk, aget_put, aget_put]
      by_cases e : j = k
      · rw [if_pos e, if_pos e]
      · rw [if_neg e, if_neg e]; exact s.tg j (hj'.resolve_right e)
    · have hj' : j ∈ keys S.tg ∨ j = k := by
        have : j ∈ keys (S.tg ++ [(k, t)]) := hj
        rw [keys_app] at this
        exact (List.mem_append.mp this).imp id List.mem_singleton.mp
      show aget (aput L.rt k (L.root t)) j = aget (S.rt ++ [(k, S.rootD t)]) j
      rw [← aput_new nr, aget_put, aget_put, s.root ok g3]
      by_cases e : j = k
      · rw [if_pos e, if_pos e]
      · rw [if_neg e, if_neg e]; exact s.rt j (hj'.resolve_right e)
    · have hj' : j ∈ keys S.tg ∨ j = k := by
        have : j ∈ keys (S.tg ++ [(k, t)]) := hj
        rw [keys_app] at this
        exact (List.mem_append.mp this).imp id List.mem_singleton.mp
      show j ∈ keys (aput L.hd k (L.val t))
      refine aget_isSome.mp ?_
      rw [aget_put]
      by_cases e : j = k
      · rw [if_pos e]; rfl
      · rw [if_neg e]; exact aget_isSome.mpr (s.hd j (hj'.resolve_right e))
  | ov k =>
    have ek : ∀ j, j ∈ keys (S.step (.ov k)).tg → j ∈ keys S.tg ∧ j ≠ k := fun j hj => mem_keys_drop.mp hj
    refine ⟨s.ps, ?_, fun j hj => ?_, fun j hj => ?_, fun j hj => ?_⟩
    · show L.ks.filter _ = keys (adrop S.tg k)
      rw [keys_drop, s.ks]
      exact List.filter_congr fun j _ => by simp
    · show aget L.tg j = aget (adrop S.tg k) j
      rw [aget_drop, if_neg (ek j hj).2]; exact s.tg j (ek j hj).1
    · show aget L.rt j = aget (adrop S.rt k) j
      rw [aget_drop, if_neg (ek j hj).2]; exact s.rt j (ek j hj).1
    · exact mem_keys_drop.mpr ⟨s.hd j (ek j hj).1, (ek j hj).2⟩
theorem filt_keys {l : List (Str × Str)} (hn : (keys l).Nodup) (c : Str) : (keys l).filter (fun k => decide (aget l k = some c)) = keys (l.filter fun p => decide (p.2 = c)) := by
  unfold keys
  rw [List.filter_map]
  congr 1
  refine List.filter_congr fun p hp => ?_
  show decide (aget l p.1 = some c) = decide (p.2 = c)
  rw [aget_nodup hn (show (p.1, p.2) ∈ l from hp)]
  by_cases e : p.2 = c
  · rw [decide_eq_true e, decide_eq_true (by rw [e])]
  · rw [decide_eq_false e, decide_eq_false fun z => e (Option.some.inj z)]
theorem Sim.on {S : Sto} {L : Lw} (ok : S.Ok) (s : Sim S L) (c : Str) : L.on c = S.on c := by
  unfold Lw.on Sto.on
  rw [← filt_keys ok.nd, s.ks]
  exact List.filter_congr fun k hk => by rw [s.tg k hk]
def lwAt (L : Lw) (ds : List Dd) (i : Nat) : Lw := (ds.take i).foldl Lw.step L
theorem lwAt_next {L : Lw} {ds : List Dd} {i : Nat} {d : Dd} (h : ds[i]? = some d) : lwAt L ds (i + 1) = (lwAt L ds i).step d := by
  unfold lwAt; rw [take_next h, List.foldl_append]; rfl
theorem sim_run {ps : List (Str × V)} {ds : List Dd} (hp : (keys ps).Nodup) : ∀ {i : Nat}, i ≤ ds.length → Fit (Sto.init ps) ds i → Sim (stAt (Sto.init ps) ds i) (lwAt (Lw.init ps) ds i)
  | 0, _, _ => Sim.init ps
  | i + 1, hi, hf => by
    obtain ⟨d, e⟩ : ∃ d, ds[i]? = some d := ⟨ds[i], List.getElem?_eq_getElem hi⟩
    rw [stAt_next e, lwAt_next e]
    exact (sim_run hp (Nat.le_of_succ_le hi) (hf.mono (Nat.le_succ _))).step (stAt_ok (init_ok hp) (Nat.le_of_succ_le hi) (hf.mono (Nat.le_succ _))) (hf i d (Nat.lt_succ_self _) e)

/-! ### sizes -/
structure Sto.Le (S : Sto) (n : Nat) : Prop where
  tg : S.tg.length ≤ n
  rt : S.rt.length ≤ n
  od : S.od.length ≤ n
  ps : S.ps.length ≤ 4 + n
theorem Sto.Le.step {S : Sto} {n : Nat} (h : S.Le n) (d : Dd) : (S.step d).Le (n + 1) := by
  obtain ⟨h1, h2, h3, h4⟩ := h
  cases d with
  | rd c => exact ⟨Nat.le_succ_of_le h1, Nat.le_succ_of_le h2, Nat.le_succ_of_le h3, Nat.le_succ_of_le h4⟩
  | wr c v => exact ⟨Nat.le_succ_of_le h1, Nat.le_succ_of_le h2, Nat.le_succ_of_le h3, Nat.le_trans len_aput (Nat.succ_le_succ h4)⟩
  | bg k t => exact ⟨Nat.le_trans len_aput (Nat.succ_le_succ h1), Nat.le_trans len_aput (Nat.succ_le_succ h2), by show (S.od ++ [k]).length ≤ _; rw [List.length_append]; exact Nat.succ_le_succ h3, Nat.le_succ_of_le h4⟩
  | ov k => exact ⟨Nat.le_trans len_adrop (Nat.le_succ_of_le h1), Nat.le_trans len_adrop (Nat.le_succ_of_le h2), Nat.le_succ_of_le h3, Nat.le_succ_of_le h4⟩
theorem le_run {ps : List (Str × V)} {ds : List Dd} (h : ps.length ≤ 4) : ∀ {i : Nat}, i ≤ ds.length → (stAt (Sto.init ps) ds i).Le i
  | 0, _ => ⟨Nat.le_refl _, Nat.le_refl _, Nat.le_refl _, h⟩
  | i + 1, hi => by
    obtain ⟨d, e⟩ : ∃ d, ds[i]? = some d := ⟨ds[i], List.getElem?_eq_getElem hi⟩
    rw [stAt_next e]; exact (le_run h (Nat.le_of_succ_le hi)).step d
end Qk

/-! part R1 -/
set_option Elab.async false
set_option linter.all false
set_option maxRecDepth 100000
set_option maxHeartbeats 2000000
namespace Qk
open PySem PySem.Spec L2
open PyProof.Rows hiding St
/-! ### match over texts -/
abbrev TM := V → TS
structure PM (X : Cx) (cs : List MatchCase) (t : TM) : Prop where
  run : ∀ (first : Bool) (pins : List (Addr × Obj)) (s : Shared) (σ : St) (H : Hp) (D : Ends) (v : V) (u : Value), Inv X pins σ H s → RelV v u → t v D σ H →
    wpAny (model X.prog X.w) X.A (matchCases cs X.env u first) (SP X pins D) X.xe s
section
variable {X : Cx}
theorem pm_nil : PM X [] (fun _ => tNext) := ⟨fun _ _ _ σ H _ _ _ I _ h => wpAny_matchCases_nil ⟨σ, H, I, h⟩⟩
def tmStr (z : Str) (tb : TS) (r : TM) : TM := fun v D σ H => ∃ x, v = .str x ∧ if decide (x = z) = true then tb D σ H else r v D σ H
theorem pm_str {z : Str} {j : Nat} {p1 p2 : Pos} {body : List Stmt} {rest : List MatchCase} {tb : TS} {r : TM} (hb : PSs X body tb) (hr : PM X rest r) :
    PM X (⟨.MatchValue (.Constant (.str z) j p1) p2, none, body⟩ :: rest) (tmStr z tb r) := by
  refine ⟨fun first pins s σ H D v u I rv h => ?_⟩
  obtain ⟨x, e, h⟩ := h
  subst e
  refine wpAny_matchCases_cons (wpAny_matchPattern_Value ?_)
  refine thn ((pe_str (X := X) (x := z) (j := j) (pos := p1)).run pins s σ H (fun y H' => y = .str z ∧ H' = H) I ⟨rfl, rfl⟩) fun w s1 hw => ?_
  obtain ⟨y, H1, I1, r1, e1, e2⟩ := hw
  subst e1; subst e2
  refine thn (op_eq (X := X) pins s1 σ _ (.str x) (.str z) u w (fun y H' => y = .bl (decide (V.str x = V.str z)) ∧ H' = H1) I1 rv r1 ⟨rfl, rfl, rfl⟩) fun c s2 hc => ?_
  obtain ⟨y, H2, I2, r2, e1, e2⟩ := hc
  subst e1; subst e2
  cases r2
  refine wpAny_truthy_bool ?_
  have e : decide (V.str x = V.str z) = decide (x = z) := by
    by_cases q : x = z
    · subst q; simp
    · rw [decide_eq_false q, decide_eq_false (fun k => q (V.str.inj k))]
  rw [e]
  by_cases q : x = z
  · rw [decide_eq_true q, if_pos rfl] at *
    exact wpAny_assignInOrder_none (hb.run pins s2 σ _ D I2 h)
  · rw [decide_eq_false q, if_neg Bool.false_ne_true] at *
    exact hr.run false pins s2 σ _ D _ u I2 rv h
theorem pm_any {p : Pos} {body : List Stmt} {rest : List MatchCase} {tb : TS} (hb : PSs X body tb) :
    PM X (⟨.MatchAs none none p, none, body⟩ :: rest) (fun _ => tb) := by
  refine ⟨fun first pins s σ H D v u I rv h => ?_⟩
  refine wpAny_matchCases_cons (wpAny_matchPattern_Capture ?_)
  exact wpAny_assignInOrder_none (hb.run pins s σ H D I h)
def tMatch (te : TE) (r : TM) : TS := fun D σ H => te σ H fun v H1 => r v D σ H1
theorem ps_match {e : Expr} {cs : List MatchCase} {pos : Pos} {te : TE} {r : TM} (he : PE X e te) (hc : PM X cs r) : PS X (.Match e cs pos) (tMatch te r) := by
  refine ⟨fun pins s σ H D I h => ?_⟩
  exact wpAny_Match (thn (he.run pins s σ H _ I h) fun v s1 ⟨x, H1, I1, r1, q1⟩ => hc.run true pins s1 σ H1 D x v I1 r1 q1)
end

/-! ### a, b, *m = a tuple -/
section
variable {prog : Program} {w : World} {A : Around} {E : Value → Shared → Prop} {s : Shared}
theorem IsTupleIter.typ {s : Shared} {it a : Addr} {i : Nat} (h : s.heap.IsTupleIter it a i) : s.TypeIs (.ref it) "tuple_iterator" := by
  obtain ⟨o, e, c, d⟩ := h
  exact ⟨o, e, c⟩
theorem walks_drop {I ax : Addr} (hh : A.handled = none) (hne : ax ≠ I) (items : Array Value) (k : Nat) (hk : k ≤ items.size) :
    Walks prog w A I [I, ax] [I] (items.size - k) (fun i v => items[i + k]? = some v) (fun i h => h.IsTupleIter I ax (i + k) ∧ h.IsTuple ax items) :=
  let W := Walks.tuple (prog := prog) (w := w) (A := A) hh I ax hne items
  { sub := W.sub
    frame := fun i h h' st hk => W.frame (i + k) h h' st hk
    item := fun i s Q E hi st hQ => W.item (i + k) s Q E (by omega) st fun v h' tk hv st' kk => hQ v h' tk hv (by rw [show i + 1 + k = i + k + 1 by omega]; exact st') kk
    done := fun s Q E st hQ => W.done s Q E (by rw [show items.size = items.size - k + k by omega]; exact st) hQ
    self := fun i s Q E st hQ => W.self (i + k) s Q E st hQ }
theorem items_drop {items : Array Value} {k : Nat} {acc : Array Value} (hk : k ≤ items.size) (h : ItemsOf (fun i v => items[i + k]? = some v) acc (items.size - k)) : acc.toList = items.toList.drop k := by
  obtain ⟨hs, hv⟩ := h
  refine List.ext_getElem? fun i => ?_
  rw [List.getElem?_drop]
  by_cases hi : i < acc.size
  · have e : acc[i]? = some acc[i] := by simp [hi]
    have q := hv i _ e
    have e1 : acc.toList[i]? = some acc[i] := by simp [hi]
    rw [e1]
    have e2 : items.toList[k + i]? = items[i + k]? := by rw [Nat.add_comm]; simp
    rw [e2, q]
  · have e1 : acc.toList[i]? = none := by simp; omega
    have e2 : items.toList[k + i]? = none := by simp; omega
    rw [e1, e2]
theorem unpackItems_star2 {t : Addr} {items : Array Value} {Q : List Value → Shared → Prop} (hh : A.handled = none) (ht : s.heap.IsTuple t items) (h2 : 2 ≤ items.size) (hz : items.size ≤ sizeLine)
    (hQ : ∀ s' : Shared, (∀ b o, s.heap.get? b = some o → s'.heap.get? b = some o) → s'.gens = s.gens → s'.os = s.os →
      Q ((items.toList.take 2) ++ [.ref s'.heap.objs.size]) { s' with heap := s'.heap.push { cls := .type "list", data := .seq (items.toList.drop 2).toArray } }) :
    wpAny (model prog w) A (unpackItems (.ref t) 3 (some 2)) Q E s := by
  have hlt : t ≠ s.heap.objs.size := by obtain ⟨o, ho, _⟩ := ht; exact Nat.ne_of_lt (Heap.lt_size ho)
  unfold unpackItems
  refine wpAny_bind ?_
  unfold notIterableAtAll
  refine wpAny_bind (wpAny_specialOf ht.typeIs F.slot_tuple_iter.lookup ?_)
  refine wpAny_pure ?_
  simp only [Bool.false_eq_true, if_false]
  refine wpAny_bind (wpAny_holding (wpAny_pyIter_tuple ht ?_))
  refine wpAny_bind (wpAny_holding (wpAny_draw_tuple hlt 2 0 _ _ ⟨_, Heap.get?_push_size _ rfl, rfl, rfl⟩ (ht.push _) (by omega) fun h₁ hit₁ hs₁ => ?_))
  have hl : (List.take 2 (List.drop 0 items.toList)).length = 2 := by simp; omega
  rw [if_neg (by rw [hl]; decide)]
  have ht₁ : h₁.IsTuple t items := (ht.push _).extBut hs₁.extBut hlt
  have W := (walks_drop (prog := prog) (w := w) (A := A.in1) (I := s.heap.objs.size) (ax := t) hh hlt items 2 h2).toS
  have k1 : ∀ b o, s.heap.get? b = some o → h₁.get? b = some o := fun b o e => hs₁.extBut b o (Nat.ne_of_lt (Heap.lt_size e)) (Heap.get?_push_of_some _ e)
  refine wpAny_bind (wpAny_holding (wpAny_collect_iter (T := "tuple_iterator") (.inr (.inr (.inr rfl))) W (fun i s st => IsTupleIter.typ st.1) ⟨hit₁, ht₁⟩ (fun b hb => ?_) (by simp) (fun s' acc mv io => ?_) (by omega)))
  · rcases List.mem_cons.mp hb with e | hb
    · subst e; obtain ⟨o, e, _⟩ := hit₁; exact Heap.lt_size e
    · have e : b = t := by simpa using hb
      subst e; obtain ⟨o, e, _⟩ := ht₁; exact Heap.lt_size e
  · have ea := items_drop h2 io
    have hle : acc.toList.length ≤ sizeLine := by rw [ea]; simp; omega
    simp only [Nat.reduceSub, Nat.not_lt_zero, if_false, Nat.sub_zero]
    refine wpAny_bind (wpAny_newList ?_ (by simpa using hle))
    refine wpAny_pure ?_
    rw [List.take_of_length_le (Nat.le_refl _), List.drop_eq_nil_of_le (Nat.le_refl _), List.append_nil, List.drop_zero, ea]
    refine hQ s' (fun b o e => mv.heap b o ?_ (k1 b o e)) mv.gens mv.os
    intro hb
    have z : b = s.heap.objs.size := by simpa using hb
    exact absurd (Heap.lt_size e) (by rw [z]; exact Nat.lt_irrefl _)
end
section
variable {X : Cx}
def gStar2 (K : PySem.W.Frag) (t : TGs) : TG := fun v σ H Q => ∃ a x y r, v = .ref a ∧ SqT K H a (x :: y :: r) ∧ ∀ p, H p = none → t [x, y, .ref p] σ (upd H p (.lst r)) Q
theorem pg_star2 {a b m : Expr} {ps : Pos} {k : Nat} {pos : Pos} {t : TGs} (hc : X.calm = true) (h : PGs X [a, b, m] t)
    (hst : (assignEach [a, b, .Starred m ps] X.env).findIdx? (·.1) = some 2 := by rfl) (hn : (assignEach [a, b, .Starred m ps] X.env).length = 3 := by rfl)
    (he : (assignEach [a, b, .Starred m ps] X.env).map (·.2) = (assignEach [a, b, m] X.env).map (·.2) := by rfl) : PG X (.Tuple [a, b, .Starred m ps] k pos) (gStar2 X.K t) := by
  refine ⟨fun pins s σ H v u Q I r hw => ?_⟩
  obtain ⟨ad, x, y, rr, e1, hq, hw⟩ := hw
  subst e1
  cases r
  obtain ⟨its, rv, ht, hz⟩ := I.tuple hq
  rw [arm_assign_Tuple]
  refine wpAny_bind (wpAny_standAt ?_)
  unfold unpack
  rw [hst, hn, he]
  have hl := rv.length
  simp only [List.length_cons] at hl hz
  refine wpAny_bind (wpAny_holding (unpackItems_star2 (I.ok.hd hc) (show s.heap.IsTuple ad its.toArray from ht) (by simp; omega) (by simp; omega) fun s' kk hg ho => ?_))
  have I1 : Inv X pins σ H s' := I.call' (ch := []) ho (Un.kept kk) (I.hok.kept kk) (by rw [hg]; exact I.bare) (fun _ z => nomatch z)
  have k2 : ∀ b o, s'.heap.get? b = some o → (s'.heap.push { cls := .type "list", data := .seq (its.drop 2).toArray }).get? b = some o := fun b o e => Heap.get?_push_of_some _ e
  have hl2 : rr.length ≤ sizeLine := by omega
  have I2 : Inv X pins σ (upd H s'.heap.objs.size (.lst rr)) { s' with heap := s'.heap.push { cls := .type "list", data := .seq (its.drop 2).toArray } } :=
    I1.laid (t' := s'.toks) k2 (Nat.le_refl _) ⟨hl2, its.drop 2, _, by simpa using rv.drop 2, Heap.get?_push_size _ rfl⟩
  have rt : Vals [x, y] (its.take 2) := by simpa using rv.take 2
  exact h.run pins _ σ _ [x, y, .ref s'.heap.objs.size] _ Q I2 (by have q := rt.append (.cons (show RelV (.ref s'.heap.objs.size) (.ref s'.heap.objs.size) from rfl) .nil); simpa using q) (hw _ (I1.hok.fresh (Nat.le_refl _)))
end
end Qk

/-! part R1b -/
set_option Elab.async false
set_option linter.all false
set_option maxRecDepth 100000
set_option maxHeartbeats 4000000
namespace Qk
open PySem PySem.Spec L2
open PyProof.Rows hiding St
/-! ### enumerate of a tuple -/
open AutoSeq1 (wpAny_loadPart') in
theorem enumNewT (t : Addr) (xs : Array Value) (n : Nat) (od : Option Addr) (sl : Array (Option Value)) :
    Meets (Builtin.«enumerate.__new__» ⟨[.type "enumerate", .ref t], []⟩) (fun _ R s => s.heap.get? t = some { cls := .type "tuple", dict := od, data := .seq xs n, slots := sl } ∧
      R (.ok (.ret (.ref (s.heap.push { cls := .type "tuple_iterator", data := .fields #[.ref t, .int 0 0] }).objs.size)))
        { s with heap := (s.heap.push { cls := .type "tuple_iterator", data := .fields #[.ref t, .int 0 0] }).push { cls := .type "enumerate", data := .fields #[.none, .bool false, .ref s.heap.objs.size, rawInt 0, .none, .none] } }) :=
  .of_wp fun prog w A R s k => by
    obtain ⟨hp, gs, dr, tk, os⟩ := s
    obtain ⟨ht, k⟩ := k
    have hs := sub_enumerate
    have hT : Heap.IsTuple (Shared.heap ⟨hp, gs, dr, tk, os⟩) t xs := ⟨_, ht, rfl, n, rfl⟩
    wp_walk using wpAny_loadPart' ht
    refine wpAny_stack_any fun _ => wpAny_pure ?_
    split
    · rename_i c _ _ _ _ _
      cases (c == Value.type "enumerate") <;> (wp_walk using wpAny_loadPart' ht, wpAny_pyIter_tuple hT) <;> exact ⟨_, rfl, k⟩
    · wp_walk using wpAny_loadPart' ht, wpAny_pyIter_tuple hT
      exact ⟨_, rfl, k⟩
section
variable {prog : Program} {w : World} {A : Around} {E : Value → Shared → Prop} {s : Shared}
theorem enum_tuple {t : Addr} {xs : Array Value} {Q : Value → Shared → Prop} (hT : s.heap.IsTuple t xs)
    (k : ∀ h', IsEnum h' (s.heap.objs.size + 1) s.heap.objs.size 0 .none → h'.IsTupleIter s.heap.objs.size t 0 →
      (∀ b o, s.heap.get? b = some o → h'.get? b = some o) → Q (.ref (s.heap.objs.size + 1)) { s with heap := h' }) :
    wpAny (model prog w) A (call (.type "enumerate") [.ref t]) Q E s := by
  obtain ⟨⟨c, od, dt, sl⟩, hl, hc, n, hd⟩ := hT
  have hc' : c = .type "tuple" := hc
  have hd' : dt = .seq xs n := hd
  subst hc' hd'
  refine callType_new F.called_enumerate (by decide) (F.typeCall_enumerate_1 _) (F.newCall_enumerate_1 _) (fun obj => F.args_object_init_2 obj _) F.entry_enumerate_new (enumNewT t xs n od sl) ⟨hl, ?_⟩
  have hz : (s.heap.push { cls := .type "tuple_iterator", data := .fields #[.ref t, .int 0 0] }).objs.size = s.heap.objs.size + 1 := Heap.size_push ..
  show _ ∧ _
  rw [hz]
  have he : IsEnum ((s.heap.push { cls := .type "tuple_iterator", data := .fields #[.ref t, .int 0 0] }).push { cls := .type "enumerate", data := .fields #[.none, .bool false, .ref s.heap.objs.size, rawInt 0, .none, .none] }) (s.heap.objs.size + 1) s.heap.objs.size 0 .none := by
    have q := Heap.get?_push_size (s.heap.push { cls := .type "tuple_iterator", data := .fields #[.ref t, .int 0 0] }) (o := { cls := .type "enumerate", data := .fields #[.none, .bool false, .ref s.heap.objs.size, rawInt 0, .none, .none] }) rfl
    rw [hz] at q
    exact q
  exact ⟨⟨_, he, rfl⟩, k _ he ⟨_, Heap.get?_push_of_some _ (Heap.get?_push_size _ rfl), rfl, rfl⟩ fun b o x => Heap.get?_push_of_some _ (Heap.get?_push_of_some _ x)⟩
end
/-- the tuple at a, each item in a new pair -/
def Itet (K : PySem.W.Frag) (a : Addr) : It :=
  ⟨fun i H => ∃ (xs : List V) (x : V), SqT K H a xs ∧ xs[i]? = some x, fun i H v H' => ∃ T x, v = .ref T ∧ H T = none ∧ H' = upd H T (.tup [.int (i : Nat), x]) ∧ ∀ xs, SqT K H a xs → xs[i]? = some x, fun i H => ∃ xs : List V, SqT K H a xs ∧ xs.length = i⟩
theorem tupIter_ne {h : Heap} {it a : Addr} {i : Nat} {xs : Array Value} (hi : h.IsTupleIter it a i) (ht : h.IsTuple a xs) : a ≠ it := by
  rintro rfl
  obtain ⟨o, e, c, _⟩ := hi
  obtain ⟨o', e', c', _⟩ := ht
  rw [e] at e'
  cases e'
  rw [c] at c'
  exact absurd c' (by decide)
theorem turn_enumT {P : Program} {w : World} {K : PySem.W.Frag} {elts : List Expr} {kk : Nat} {tpos : Pos} (a e it : Addr) :
    Turn P w K (.Tuple elts kk tpos) (Itet K a) [e, it] e (fun i h => (∃ old, IsEnum h e it ((i : Nat) : Int) old) ∧ h.IsTupleIter it a i ∧ e ≠ it) where
  mem := by simp
  obj := fun i h st b hb => by
    obtain ⟨⟨old, he⟩, ⟨o, ho, hc, hd⟩, _⟩ := st
    rcases (show b = e ∨ b = it by simpa using hb) with z | z
    · subst z; exact ⟨_, he, fun v q => nomatch q⟩
    · subst z; exact ⟨o, ho, fun v q => by rw [hd] at q; cases q⟩
  keep := fun i h h' st k => let ⟨⟨old, he⟩, hi, hne⟩ := st; ⟨⟨old, k e (by simp) _ he⟩, hi.at fun o q => k it (by simp) o q, hne⟩
  item := by
    intro X hP hw hK hc i pins s σ H E I hf st hg
    subst hP hw hK
    obtain ⟨⟨old, he⟩, hit, hne⟩ := st
    obtain ⟨xs, x, hq, hx⟩ := hg
    obtain ⟨its, rv, p, hz⟩ := I.tuple hq
    have ht : s.heap.IsTuple a its.toArray := p
    have hai := tupIter_ne hit ht
    obtain ⟨u, hu, ru⟩ := rv.get hx
    have hel : e < s.heap.objs.size := Heap.lt_size he
    have hil : it < s.heap.objs.size := by obtain ⟨_, q, _⟩ := hit; exact Heap.lt_size q
    have hea : e ≠ a := by
      rintro rfl
      obtain ⟨o', e', c', _⟩ := ht
      rw [he] at e'
      cases e'
      exact absurd (show Value.type "enumerate" = Value.type "tuple" from c') (by decide)
    have hlt : i < its.toArray.size := by
      have q := (List.getElem?_eq_some_iff.mp hu).1
      simpa using q
    have D := Draws.tuple (prog := X.prog) (w := X.w) (A := X.A.in1) (by have q := I.ok.hd hc; exact q) it a hai its.toArray
    have G := GoesN.enumFrom (A := X.A) (elts := elts) (x1 := kk) (pos := tpos) 0 D e hne (by simp [hne, hea]) (by simp)
    refine G.goes i s _ E hlt ⟨⟨old, by simpa using he⟩, hit, ht⟩ fun v h' tk y st' kp tl => ?_
    obtain ⟨T, t, z, ev, hT, hzv, hTT⟩ := y
    subst ev
    have ez : z = u := by
      have q : its.toArray[i]? = some u := by simpa using hu
      rw [q] at hzv
      exact (Option.some.inj hzv).symm
    subst ez
    obtain ⟨⟨old', he'⟩, hit', ht'⟩ := st'
    have new : ObjOk X.prog X.w (upd H T (.tup [.int (i : Nat), x])) h' T (.tup [.int (i : Nat), x]) :=
      ⟨by show 2 ≤ sizeLine; decide, [.int (0 + (i : Int)) t, z], .cons ⟨t, by simp⟩ (.cons ru .nil), hTT⟩
    have I1 : Inv X pins σ (upd H T (.tup [.int (i : Nat), x])) { s with heap := h', toks := tk } :=
      I.turnedNew (ch := [e, it]) (fun b ob hb q => kp b ob hb q) hf hT new
    refine ⟨.ref T, _, I1, rfl, ⟨T, x, rfl, I.hok.fresh hT, rfl, fun ys hy => by rw [I.tuple_inj hy hq]; exact hx⟩, ⟨⟨old', by simpa using he'⟩, hit', hne⟩, fun b hb => ?_⟩
    have hb' : b < s.heap.objs.size := by
      rcases (show b = e ∨ b = it by simpa using hb) with z | z
      · subst z; exact hel
      · subst z; exact hil
    rw [upd_ne (Nat.ne_of_lt (Nat.lt_of_lt_of_le hb' hT))]
    exact (hf b hb).1
  done := by
    intro X hP hw hK hc i pins s σ H E I hf st hg
    subst hP hw hK
    obtain ⟨⟨old, he⟩, hit, hne⟩ := st
    obtain ⟨xs, hq, hx⟩ := hg
    obtain ⟨its, rv, p, hz⟩ := I.tuple hq
    have ht : s.heap.IsTuple a its.toArray := p
    have hai := tupIter_ne hit ht
    have hea : e ≠ a := by
      rintro rfl
      obtain ⟨o', e', c', _⟩ := ht
      rw [he] at e'
      cases e'
      exact absurd (show Value.type "enumerate" = Value.type "tuple" from c') (by decide)
    have hl := rv.length
    have D := Draws.tuple (prog := X.prog) (w := X.w) (A := X.A.in1) (by have q := I.ok.hd hc; exact q) it a hai its.toArray
    have G := GoesN.enumFrom (A := X.A) (elts := elts) (x1 := kk) (pos := tpos) 0 D e hne (by simp [hne, hea]) (by simp)
    have en : its.toArray.size = i := by simp; omega
    refine G.stops s (fun s1 => Inv X pins σ H s1) E ⟨⟨old, by rw [en]; simpa using he⟩, by rw [en]; exact hit, ht⟩ fun h' tk kp tl => ?_
    exact I.turnedL (t' := tk) (ch := [e, it]) (fun b o hb q => kp b o hb q) hf
  self := fun A i s Q E st h => let ⟨⟨_, he⟩, _⟩ := st; wpAny_pyIter_enum he h
/-- enumerate of a list or a tuple -/
def iEnumS (K : PySem.W.Frag) (ta : TA) : TI := fun σ H R => ta σ H fun vs H1 => ∃ a xs, vs = [.ref a] ∧ ((SqL K H1 a xs ∧ R (Ite K a) H1) ∨ (SqT K H1 a xs ∧ R (Itet K a) H1))
theorem pi_enumS {X : Cx} {e : Expr} {ta : TA} {p pos tpos : Pos} {elts : List Expr} {kk : Nat} (hg : Gl X "enumerate") (hm : X.mg "enumerate" = none) (ha : PA X [e] ta) (hs : starEach [e] X.env = [(false, eval e X.env)] := by rfl) :
    PI X (.Tuple elts kk tpos) (.Call (.Name "enumerate" p) [e] [] pos) (iEnumS X.K ta) := by
  refine ⟨fun pins s σ H R I h => ?_⟩
  refine Call_ (ld_blt I hg hm boot_enumerate (PyProof.Rows.callWith_type1 (thn (ha.run pos pins s σ H _ I h) fun us s1 ⟨vs, H1, I1, r1, q1⟩ => ?_) hs rfl))
  obtain ⟨a, xs, ex, q⟩ := q1
  subst ex
  cases r1 with
  | cons r rr =>
    cases rr
    cases r
    have fp : ∀ b ∈ [s1.heap.objs.size + 1, s1.heap.objs.size], FpOk X pins H1 b := fun b hb => by
      have hle : s1.heap.objs.size ≤ b := by
        rcases (show b = s1.heap.objs.size + 1 ∨ b = s1.heap.objs.size by simpa using hb) with z | z <;> rw [z]
        · exact Nat.le_add_right _ _
        · exact Nat.le_refl _
      exact I1.fpOk hle (I1.hok.fresh hle)
    rcases q with ⟨hq, q⟩ | ⟨hq, q⟩
    · obtain ⟨its, rv, p', hz⟩ := I1.list hq
      refine call_enumerate_list p'.isList fun h' he hit hsz hk => wpAny_pyIter_enum he ?_
      exact ⟨s1.heap.objs.size + 1, [s1.heap.objs.size + 1, s1.heap.objs.size], _, _, H1, rfl, I1.kept (t' := s1.toks) hk, turn_enum a (s1.heap.objs.size + 1) s1.heap.objs.size, ⟨⟨.none, he⟩, hit, Nat.succ_ne_self _⟩, fp, q⟩
    · obtain ⟨its, rv, p', hz⟩ := I1.tuple hq
      have hT : s1.heap.IsTuple a its.toArray := p'
      refine enum_tuple hT fun h' he hit hk => wpAny_pyIter_enum he ?_
      exact ⟨s1.heap.objs.size + 1, [s1.heap.objs.size + 1, s1.heap.objs.size], _, _, H1, rfl, I1.kept (t' := s1.toks) hk, turn_enumT a (s1.heap.objs.size + 1) s1.heap.objs.size, ⟨⟨.none, he⟩, hit, Nat.succ_ne_self _⟩, fp, q⟩
/-- for at, x in enumerate(a list or a tuple) -/
def Sq (K : PySem.W.Frag) (H : Hp) (a : Addr) (xs : List V) : Prop := SqL K H a xs ∨ SqT K H a xs
theorem for_enumS {K : PySem.W.Frag} {a : Addr} {xs : List V} {g : TG} {tb : TS} {D : Ends} {ta : TA} {σ : St} {H : Hp} (Pv : Nat → St → Hp → Prop)
    (ha : ta σ H fun vs H1 => vs = [.ref a] ∧ H1 = H) (mono : ∀ Q Q' : List V → Hp → Prop, (∀ vs H1, Q vs H1 → Q' vs H1) → ta σ H Q → ta σ H Q')
    (h0 : Pv 0 σ H) (hl : (∀ i σ' H', i ≤ xs.length → Pv i σ' H' → SqL K H' a xs) ∨ (∀ i σ' H', i ≤ xs.length → Pv i σ' H' → SqT K H' a xs))
    (hs : ∀ i x σ' H' T, xs[i]? = some x → Pv i σ' H' → H' T = none → g (.ref T) σ' (upd H' T (.tup [.int (i : Nat), x])) fun σ2 H2 => tb { D with nx := Pv (i + 1), ct := Pv (i + 1), bk := D.nx } σ2 H2) (hd : ∀ σ' H', Pv xs.length σ' H' → D.nx σ' H') :
    tFor (iEnumS K ta) g tb D σ H := by
  refine mono _ _ (fun vs H1 z => ?_) ha
  obtain ⟨e1, e2⟩ := z
  subst e1; subst e2
  have go : ∀ (J : It), (∀ i σ' H', Pv i σ' H' → i < xs.length → J.go i H') → (∀ σ' H', Pv xs.length σ' H' → J.stop xs.length H') →
      (∀ i σ' H' y H'', i < xs.length → Pv i σ' H' → J.yld i H' y H'' → ∃ T x, y = .ref T ∧ H' T = none ∧ xs[i]? = some x ∧ H'' = upd H' T (.tup [.int (i : Nat), x])) →
      ∃ W : Nat → Nat → St → Hp → Prop, (∃ m, W 0 m σ H1) ∧ ∀ i m σ H, W i m σ H →
        (J.stop i H ∧ D.nx σ H) ∨ (J.go i H ∧ ∃ N : St → Hp → Prop, (∀ σ' H', N σ' H' → ∃ m', m' < m ∧ W (i + 1) m' σ' H') ∧ ∀ x H', J.yld i H x H' → g x σ H' fun σ2 H2 => tb { D with nx := N, ct := N, bk := D.nx } σ2 H2) := by
    intro J hgo hstop hyld
    refine ⟨fun i m σ H => m = xs.length - i ∧ i ≤ xs.length ∧ Pv i σ H, ⟨xs.length, by simp, Nat.zero_le _, h0⟩, ?_⟩
    rintro i m σ' H' ⟨rfl, hi, p⟩
    by_cases hlt : i < xs.length
    · refine .inr ⟨hgo i σ' H' p hlt, Pv (i + 1), fun σ2 H2 p' => ⟨xs.length - (i + 1), by omega, rfl, hlt, p'⟩, fun y H2 yl => ?_⟩
      obtain ⟨T, x, e1, e2, e3, e4⟩ := hyld i σ' H' y H2 hlt p yl
      subst e1; subst e4
      exact hs i x σ' H' T e3 p e2
    · have e : i = xs.length := by omega
      subst e
      exact .inl ⟨hstop σ' H' p, hd σ' H' p⟩
  refine ⟨a, xs, rfl, ?_⟩
  rcases hl with hl | hl
  · refine .inl ⟨hl 0 σ H1 (Nat.zero_le _) h0, go (Ite K a) (fun i σ' H' p hlt => ⟨xs, xs[i], hl i σ' H' (Nat.le_of_lt hlt) p, by simp [hlt]⟩) (fun σ' H' p => ⟨xs, hl _ σ' H' (Nat.le_refl _) p, Nat.le_refl _⟩) ?_⟩
    rintro i σ' H' y H2 hlt p ⟨T, x, e1, e2, e3, e4⟩
    exact ⟨T, x, e1, e2, e4 xs (hl i σ' H' (Nat.le_of_lt hlt) p), e3⟩
  · refine .inr ⟨hl 0 σ H1 (Nat.zero_le _) h0, go (Itet K a) (fun i σ' H' p hlt => ⟨xs, xs[i], hl i σ' H' (Nat.le_of_lt hlt) p, by simp [hlt]⟩) (fun σ' H' p => ⟨xs, hl _ σ' H' (Nat.le_refl _) p, rfl⟩) ?_⟩
    rintro i σ' H' y H2 hlt p ⟨T, x, e1, e2, e3, e4⟩
    exact ⟨T, x, e1, e2, e4 xs (hl i σ' H' (Nat.le_of_lt hlt) p), e3⟩
end Qk

/-! part R2 -/
set_option Elab.async false
set_option linter.all false
set_option maxRecDepth 100000
set_option maxHeartbeats 2000000
namespace PySem
namespace QkX
open PySem.W PySem.Calls PyProof.Rows PySem.HandSPX
/-! ### class X(..ValueError): def __init__(self, F): super().__init__('text'); self.F = F -/
def iA (fl : Str) (p1 p2 : Pos) : Arguments := { posonlyargs := [], args := [{ arg := "self", annotation := none, pos := p1 }, { arg := fl, annotation := none, pos := p2 }], vararg := none, kwonlyargs := [], kw_defaults := [], kwarg := none, defaults := [] }
def iB (fl txt : Str) (j : Nat) (a1 a2 a3 a4 a5 a6 q1 q2 q3 q4 : Pos) : List Stmt :=
  [.Expr (.Call (.Attribute (.Call (.Name "super" a1) [] [] a2) "__init__" a3) [.Constant (.str txt) j a4] [] a5) a6, .Assign [.Attribute (.Name "self" q1) fl q2] (.Name fl q3) q4]
def iS (fl : Str) : Scope := { kind := .function, names := [(PySem.Str.ofString "self", .local), (fl, .local), (PySem.Str.ofString "__class__", .free), (PySem.Str.ofString "super", .globalImplicit)], isGenerator := false, isCoroutine := false, more := [] }
/-- the call super().__init__('text'), its words on one row of the text -/
def HeOk (txt : Str) (j : Nat) (a1 a2 a3 a4 a5 : Pos) : Prop := ∀ env : Env, eval (.Call (.Attribute (.Call (.Name "super" a1) [] [] a2) "__init__" a3) [.Constant (.str txt) j a4] [] a5) env = (do
      let ov ← attributeBase (.Call (.Name "super" a1) [] [] a2) "__init__" env (eval (.Call (.Name "super" a1) [] [] a2) env)
      standAt a3.atName
      let (f, first) ← holding [ov] (getMethod ov "__init__" (do return (← importBound (.Call (.Name "super" a1) [] [] a2) env).getD true))
      callWith a5 f first (backTo a5 (starEach [.Constant (.str txt) j a4] env)) [])
/-- what the written part says of the class at C and of its __init__ at fI -/
structure OwnTxt (P : Program) (K : Frag) (C fI : Addr) (qual fl txt : Str) : Prop where
  cls : ∃ nm q N bs bm sn sub ab col dd k0 k1 k2 k3 k5, K.lookup C = some (excClassObj nm q C N bs bm true sn sub ab col dd k0 k1 k2 k3 k5 "ValueError.__new__") ∧ refsVE bm = true
  sa : findIn K (.ref C) "__setattr__" = some (some (.builtin "object.__setattr__"))
  noN : findIn K (.ref C) fl = some none
  iC : findIn K (.ref C) "__init__" = some (some (.ref fI))
  tI : typeIn K (.ref fI) = some (.type "function")
  mro : mroIn K C (.ref C) = some true
  sup : ks_superIn K C C "__init__" = some (some (.builtin "ValueError.__init__"))
  subV : subIn K (.ref C) (.type "ValueError") = some true
  tp : nsIn K cStatics "thirdparty.any" = some none
  hf : fl = "at" ∨ fl = "name"
  fn : ∃ (oc : Value) (od : Option Addr) (kV doc pm : Value) (an : Option Addr) (cda cc : Addr) (ct : Value) (osl : Array (Option Value)) (j : Nat) (p1 p2 a1 a2 a3 a4 a5 a6 q1 q2 q3 q4 : Pos)
    (ccl : Value) (cdd : Option Addr) (vs : Array Value) (ccs : Array (Option Value)) (file : Str) (tf : Tok) (cl : Value) (cld : Option Addr) (csl : Array (Option Value)),
    K.lookup fI = some ⟨oc, od, .func (fnX "__init__" qual (iA fl p1 p2) (iB fl txt j a1 a2 a3 a4 a5 a6 q1 q2 q3 q4) (iS fl) [("__class__", cc)] .none kV doc pm an (.ref cda) ct), osl⟩ ∧ codeIn K (.ref cda) qual = true ∧
    K.lookup cda = some ⟨ccl, cdd, .fields vs, ccs⟩ ∧ vs[2]? = some (.str file tf) ∧ ((P.main.file : Str) == file) = true ∧ (P.main.scope.names.lookup ("super" : Str)).isSome = false ∧
    K.lookup cc = some ⟨cl, cld, .cell (some (.ref C)), csl⟩ ∧ HeOk txt j a1 a2 a3 a4 a5
theorem one_size (v : Value) : [v].length ≤ sizeLine := by
  rw [sizeLine_eq]
  exact (by decide : 1 ≤ 16777216)
theorem kept_but {K : Frag} {h h' : Heap} {x : Addr} (X : K.In h) (hx : K.lookup x = none) (k : ∀ b o, b ≠ x → h.get? b = some o → h'.get? b = some o) : K.In h' := fun a o e =>
  k a o (fun z => by rw [z, hx] at e; cases e) (X a o e)
theorem ldX {M : Model} {A : Around} {s : Shared} {env : Env} {m : Str → Option Value} {x : Str} {pos : Pos} {v : Value} {Q : Value → Shared → Prop} {E : Value → Shared → Prop} (hn : s.heap.Ns env.locals m) (hv : m x = some v) (h : Q v s)
    (hk : env.scope.kind = .function := by rfl) (hl : env.kindOf x = some .local := by rfl) (hd : (x == ("__debug__" : Str)) = false := by decide) : wpAny M A (eval (.Name x pos) env) Q E s := wpAny_Name (wpAny_loadName_local hk hl hn hv h) hd
/-- what __init__ leaves of a fresh exception at x -/
structure InitEnd (h h' : Heap) (fl : Str) (x C dx t1 : Addr) (v : Value) : Prop where
  keep : ∀ b o, b ≠ x → h.get? b = some o → h'.get? b = some o
  obj : h'.get? x = some { cls := .ref C, dict := some dx, data := .fields #[.ref t1, .none, .none, .none, .bool false, .none] }
  dbig : h.objs.size ≤ dx
  dne : dx ≠ x
  ns : h'.Ns1 dx (fun y => if y = fl then some v else none)
/-- a made exception -/
structure OwnMade (h h' : Heap) (fl : Str) (e C d : Addr) (v : Value) : Prop where
  keep : ∀ b o, h.get? b = some o → h'.get? b = some o
  new : h.objs.size ≤ e
  obj : ∃ t1 : Addr, h'.get? e = some { cls := .ref C, dict := some d, data := .fields #[.ref t1, .none, .none, .none, .bool false, .none] }
  dbig : h.objs.size ≤ d
  dne : d ≠ e
  ns : h'.Ns1 d (fun y => if y = fl then some v else none)
section
variable {prog : Program} {w : World} {A : Around} {E : Value → Shared → Prop} {R : Result → Shared → Prop} {s : Shared} {K : Frag} {mg mb : Str → Option Value} {C fI : Addr} {qual fl txt : Str}
/-- the bound ValueError.__init__ called -/
theorem call_mw {nm q : Str} {N : Addr} {bs bm : List Value} {hdct : Bool} {sn : List Str} {sub : List Value} {ab : Bool} {col : Option Bool} {dd : Option Addr} {k0 k1 k2 k3 k5 : Option Value} {u e t0 : Addr} {rest : List Value} {Q : Value → Shared → Prop}
    (hC : s.heap.get? C = some (excClassObj nm q C N bs bm hdct sn sub ab col dd k0 k1 k2 k3 k5 "ValueError.__new__")) (he : s.heap.get? e = some (excO C t0)) (hu : s.heap.get? u = some (kxs_mw "ValueError.__init__" e)) (hrest : rest.length ≤ sizeLine)
    (hq : ∀ h' t1, (∀ b o, b ≠ e → s.heap.get? b = some o → h'.get? b = some o) → h'.get? e = some (excO C t1) → Q .none { s with heap := h' }) :
    wpAny (model prog w) A (call (.ref u) rest) Q E s := by
  obtain ⟨hp, g, dr, tk, os⟩ := s
  refine wpAny_call (codeAny_of_tree ?_)
  show wpAny _ A.in1 (callAny (.ref u) ⟨rest, []⟩) _ _ _
  simp only [callAny]
  refine wpAny_bind (wpAny_load hu ?_)
  simp only [kxs_mw, show (Value.type "method-wrapper" == Value.type "method" || Value.type "method-wrapper" == Value.type "builtin_function_or_method" || Value.type "method-wrapper" == Value.type "method-wrapper") = true by decide, if_true]
  refine KFB.if_so (by decide) ?_
  refine wpAny_bind (check_bound_init F.excBase_ValueError.toExcCallFacts hC he rfl ?_)
  refine wpAny_bind (wpAny_pure (wpAny_pure ?_))
  refine ⟨plainId_quiet F.excBase_ValueError.init.plain _, codeAny_builtin F.excBase_ValueError.initEntry ?_⟩
  exact exc_init_tree (cls := .ref C) (t0 := t0) (dv := none) (c2 := .none) (c3 := .none) (b4 := .bool false) he hrest fun h' k e' _ => hq h' _ k e'
theorem own_init (T : OwnTxt prog K C fI qual fl txt) {x t0 : Addr} {v : Value} (X : K.In s.heap) (hlim : s.heap.NoLimit) (hg : s.heap.Ns mainGlobals mg) (hgs : mg "super" = none) (hb : s.heap.Ns builtinsNs mb) (hbs : mb "super" = bootBuiltins "super")
    (hx : s.heap.get? x = some (excO C t0)) (hnx : K.lookup x = none) (hroom : A.depth < recursionLimit)
    (hq : ∀ h' tk dx t1, InitEnd s.heap h' fl x C dx t1 v → R (.ok (.ret .none)) { s with heap := h', toks := tk }) :
    codeAny (model prog w) A (.call (.ref fI) ⟨[.ref x, v], []⟩) R s := by
  obtain ⟨oc, od, kV, doc, pm, an, cda, cc, ct, osl, j, p1, p2, a1, a2, a3, a4, a5, a6, q1, q2, q3, q4, ccl, cdd, vs, ccs, file, tf, cl, cld, csl, ho, hcd, hcda, hvs, hfile, htop, hcell, hev⟩ := T.fn
  obtain ⟨nm, q, N, bs, bm, sn, sub, ab, col, dd, k0, k1, k2, k3, k5, hC, hbm⟩ := T.cls
  have hcl : clsIn K C = some { name := nm, bases := bs, mro := .ref C :: bm, ns := N, qualname := q, hasDict := true, slotNames := sn, subclasses := sub, abstract := ab, collection := col, hasDel := false } := by unfold clsIn; rw [hC] <;> rfl
  have hxC : x ≠ C := fun z => by rw [z, hC] at hnx; cases hnx
  have key : ∀ fl : Str, (fl = "at" ∨ fl = "name") → (iS fl).names.lookup fl = some .local ∧ (fl == ("__debug__" : Str)) = false ∧ (∀ y ∈ (iS fl).names, y.2 ≠ .cell) := by
    rintro fl (z | z) <;> subst z <;> exact ⟨by rfl, by decide, by decide⟩
  obtain ⟨lat, fdb, nocell⟩ := key fl T.hf
  have mself : ([(("self" : Str), Value.ref x), (fl, v)] : List (Str × Value)).reverse.lookup ("self" : Str) = some (.ref x) := by
    rcases T.hf with z | z <;> subst z <;> rfl
  have mfl : ([(("self" : Str), Value.ref x), (fl, v)] : List (Str × Value)).reverse.lookup fl = some v := by
    rcases T.hf with z | z <;> subst z <;> rfl
  have hfl := T.hf
  have Tsa := T.sa
  have TnoN := T.noN
  have Tmro := T.mro
  have Tsup := T.sup
  have TsubV := T.subV
  have Ttp := T.tp
  clear T
  rcases hfl with z | z
  all_goals
    subst z
    refine ks_codeAny_call_defAt (fd := ksFn "__init__" qual (iA _ p1 p2) (iB _ txt j a1 a2 a3 a4 a5 a6 q1 q2 q3 q4) (iS _) .none kV doc pm an (.ref cda) ct cc) (binds := [("self", .ref x), (_, v)]) hroom (X _ _ ho) rfl hlim (codeRec_of X hcd) rfl
      (BindsTo.of_eq (by first | rfl | with_unfolding_all rfl)) nocell (fun y hy => ?_) (fun h₁ hns k₁ => ?_) rfl rfl rfl
    · rcases List.mem_cons.mp hy with z | hy
      · subst z; rfl
      · rcases List.mem_cons.mp hy with z | hy
        · subst z; exact lat
        · cases hy
    have X₁ : K.In h₁ := X.keeps k₁
    have hx₁ := k₁ _ _ hx
    refine ks_wpAt_execs_cons (ks_wpAt_Expr_any (ks_wpAt_MethodCall ?_ (hev _)))
    refine ks_wpAt_super_base (env := ksEnv qual (iS _) s.heap.objs.size fI (.ref cda) cc) (by rfl) (by rfl) rfl rfl (X₁ _ _ ho) rfl rfl rfl (X₁ _ _ hcda) rfl hvs hfile htop ?_
    refine ks_loadName_global rfl (by rfl) (loadGlobal_builtin (mg := mg) (mb := mb) (hg.keeps k₁) hgs (hb.keeps k₁) (hbs.trans (by decide +kernel)) ⟨rfl, ?_⟩)
    refine wpAny_loadName_free rfl (by rfl) rfl ⟨_, X₁ _ _ hcell, rfl⟩ ?_
    refine wpAny_loadName_local rfl rfl hns mself ?_
    refine ks_wpAny_isType_cls (X₁ _ _ hC) rfl ⟨rfl, ?_⟩
    refine ks_wpAny_call_super (X₁ _ _ hC) rfl hx₁ rfl (fun c e => nomatch e) (looks_mroIn X₁ Tmro) (fun h₂ hso k₂ => ?_)
    have X₂ : K.In h₂ := X₁.keeps k₂
    have hx₂ := k₂ _ _ hx₁
    have I₂ : InstAt h₂ x (excO C t0) C none := ⟨hx₂, rfl, rfl, trivial⟩
    have hm : alongIn K "__init__" (((Value.ref C :: bm).dropWhile (· != .ref C)).drop 1) = some (some (.builtin "ValueError.__init__")) := by
      have z := Tsup
      unfold ks_superIn at z
      rw [hcl] at z
      exact z
    refine kxs_getMethod kxs_ValueError hso (looks_opaque X₂ Ttp) (l₀ := .ref C :: bm) (fun A Q E s k q => wpAny_bind ((looks_clsIn X₂ hcl) A _ E s k (wpAny_pure q))) rfl X₂ hm (I₂.type.andThen (looks_subIn X₂ TsubV)) hxC rfl ?_
    have hu : (h₂.push (kxs_mw "ValueError.__init__" x)).get? h₂.objs.size = some (kxs_mw "ValueError.__init__" x) := Heap.get?_push_size _ rfl
    have k₃ : ∀ b o, h₂.get? b = some o → (h₂.push (kxs_mw "ValueError.__init__" x)).get? b = some o := fun b o e => Heap.get?_push_of_some _ e
    refine kxs_callWith (i := "ValueError.__init__") (x := x) rfl (evalArgs_plain (spliced_cons ?_))
    show wpAny _ _ (eval (.Constant (.str txt) j a4) _) _ _ _
    refine Calls.Constant_str (spliced_nil ⟨hu, ?_⟩)
    refine call_mw (X₂.keeps k₃ _ _ hC) (k₃ _ _ hx₂) hu (one_size _) fun h₄ t1 k₄ hx₄ => ?_
    refine wpAt_of_wpAny ?_
    have k : ∀ b o, b ≠ x → h₁.get? b = some o → h₄.get? b = some o := fun b o hb e => k₄ b o hb (k₃ b o (k₂ b o e))
    have hxL : s.heap.objs.size ≠ x := Nat.ne_of_gt (Heap.lt_size hx)
    have X₄ : K.In h₄ := kept_but X₁ hnx k
    have kns : ∀ m, h₁.Ns s.heap.objs.size m → h₄.Ns s.heap.objs.size m := by
      rintro m ⟨o, es, ep, e, r⟩
      exact ⟨o, es, ep, k _ _ hxL e, r⟩
    have hn₄ := kns _ hns
    show wpAny _ _ (execs _ _) _ _ _
    refine wpAny_execs_cons (plainObj_wpAny_Assign_Attribute ?_)
    refine ldX (v := v) hn₄ mfl (ldX (v := .ref x) hn₄ mself ?_)
    refine set_plain X₄ (ox := excO C t1) (od := none) ⟨hx₄, rfl, rfl, trivial⟩ Tsa ?_
    refine exc_osa X₄ hx₄ hcl (show refsVE (.ref C :: bm) = true from hbm) rfl TnoN (fun h₅ tk₅ dx k₅ dn dne hx₅ hn₅ => ?_)
    show wpAny _ _ (execs _ _) _ _ _
    have lt : s.heap.objs.size ≤ h₄.objs.size := by
      obtain ⟨_, _, _, e, _⟩ := hn₄
      exact Nat.le_of_lt (Heap.lt_size e)
    exact wpAny_execs_nil (hq h₅ tk₅ dx t1 ⟨fun b o hb e => k₅ b o hb (k b o hb (k₁ b o e)), hx₅, Nat.le_trans lt dn, dne, hn₅⟩)
theorem own_made (T : OwnTxt prog K C fI qual fl txt) {v : Value} (X : K.In s.heap) (hlim : s.heap.NoLimit) (hg : s.heap.Ns mainGlobals mg) (hgs : mg "super" = none) (hb : s.heap.Ns builtinsNs mb) (hbs : mb "super" = bootBuiltins "super") (hroom : A.depth + 1 < recursionLimit)
    (hq : ∀ h' tk e d, OwnMade s.heap h' fl e C d v → R (.ok (.ret (.ref e))) { s with heap := h', toks := tk }) :
    codeAny (model prog w) A (.call (.ref C) ⟨[v], []⟩) R s := by
  obtain ⟨nm, q, N, bs, bm, sn, sub, ab, col, dd, k0, k1, k2, k3, k5, hC, hbm⟩ := T.cls
  obtain ⟨hp, g, dr, tk, os⟩ := s
  have k : ∀ b o, hp.get? b = some o → ((hp.push (kdv_tup [v])).push (excO C hp.objs.size)).get? b = some o := fun b o e => Heap.get?_push_of_some _ (Heap.get?_push_of_some _ e)
  have hget : ((hp.push (kdv_tup [v])).push (excO C hp.objs.size)).get? (hp.objs.size + 1) = some (excO C hp.objs.size) := by heap_get
  have hnx : K.lookup (hp.objs.size + 1) = none := by
    cases e : K.lookup (hp.objs.size + 1) with
    | none => rfl
    | some o =>
      have z : hp.get? (hp.objs.size + 1) = some o := X _ _ e
      exact absurd (Nat.lt_of_succ_lt (Heap.lt_size z)) (Nat.lt_irrefl _)
  refine call_own F.excBase_ValueError (fun X => refsVE_contains X bm hbm) (X _ _ hC) (looks_findIn X T.iC) (fun self => bind_fn X self T.tI) (one_size v) ?_
  refine own_init (s := ⟨(hp.push (kdv_tup [v])).push (excO C hp.objs.size), g, dr, tk, os⟩) T (X.keeps k) (hlim.keeps k) (hg.keeps k) hgs (hb.keeps k) hbs hget hnx ?_ fun h' tk' dx t1 ⟨k', hx, dn, dne, hns⟩ => ?_
  · show A.depth + 1 < recursionLimit
    exact hroom
  · have old : ∀ b o, hp.get? b = some o → h'.get? b = some o := fun b o e => k' b o (Nat.ne_of_lt (Nat.lt_succ_of_lt (Heap.lt_size e))) (k b o e)
    have z : hp.objs.size + 1 + 1 ≤ dx := by
      first
        | (simpa only [Heap.size_push] using dn)
        | exact dn
        | (have q := dn; rw [Heap.size_push, Heap.size_push] at q; exact q)
    exact ⟨rfl, hq h' tk' (hp.objs.size + 1) dx ⟨old, Nat.le_succ _, ⟨_, hx⟩, Nat.le_trans (Nat.le_trans (Nat.le_succ _) (Nat.le_succ _)) z, dne, hns⟩⟩
end
end QkX
end PySem
namespace Qk
open PySem PySem.Spec L2
open PyProof.Rows hiding St
theorem relO_one {fl : Str} {v : V} {v' : Value} (r : RelV v v') (f : Str) : RelO (List.lookup f [(fl, v)]) (if f = fl then some v' else none) := by
  by_cases hw : f = fl
  · subst hw
    rw [if_pos rfl]
    have q : List.lookup f [(f, v)] = some v := by simp [List.lookup]
    rw [q]
    exact r
  · rw [if_neg hw]
    have qw : (f == fl) = false := by simpa using hw
    have q2 : List.lookup f [(fl, v)] = none := by simp [List.lookup, qw]
    rw [q2]
    trivial
/-- C(e) -/
def tMkOwn (C : Addr) (fl : Str) (ta : TA) : St → Hp → XK → Prop := fun σ H Q => ta σ H fun vs H1 => ∃ v, vs = [v] ∧ ∀ d, H1 d = none → Q (.ref C) (some d) (upd H1 d (.xd [(fl, v)]))
theorem pmk_own5 {X : Cx} {C fI : Addr} {qual fl txt x : Str} {a : Expr} {ta : TA} {p pos : Pos} (T : PySem.QkX.OwnTxt X.prog X.K C fI qual fl txt) (hx : X.mg x = some (.ref C)) (hs : X.mg "super" = none) (kC : PySem.W.keepIn X.K (.ref C) = true) (rC : Raises X (.ref C))
    (hr : X.A.depth + 1 < recursionLimit) (ha : PA X [a] ta) (hg : Gl X x) (hdb : (x == ("__debug__" : Str)) = false := by decide)
    (he : starEach (a :: []) X.env = (false, eval a X.env) :: starEach [] X.env := by rfl) (hpl : (backTo pos (starEach [] X.env)).any (·.1) = false := by rfl) :
    L2H.PMk5 X (.Call (.Name x p) [a] [] pos) (tMkOwn C fl ta) := by
  intro pins s σ H Q I h
  refine wpAny_Call_Name_kw (ld_glob I hg hx ?_ hdb)
  refine PySem.W.callWith_K (h₀ := X.base) I.ok.mod.kin kC (thn (ha.run pos pins s σ H _ I h) fun us s1 hh => ?_) he hpl
  obtain ⟨vs, H1, I1, r1, v, ev, q1⟩ := hh
  subst ev
  refine ⟨I1.kIn, ?_⟩
  cases r1 with
  | cons rv rn =>
    rename_i v' us'
    cases rn
    show wpAny _ _ (call (.ref C) [v']) _ _ _
    have hlim := I1.nolimit
    obtain ⟨mb, hb1, hb2⟩ := I1.mod.blt
    have G1 := I1.mod.glob.keeps I1.bk
    have B1 := hb1.keeps I1.bk
    obtain ⟨hp, g, dr, tk, os⟩ := s1
    refine wpAny_call (PySem.QkX.own_made (mg := X.mg) (mb := mb) T I1.kIn hlim G1 hs B1 (hb2 "super" (by decide)) hr fun h' tk' e d M => ?_)
    obtain ⟨t1, hoe⟩ := M.obj
    have hns := M.ns
    obtain ⟨G', g1, g2⟩ := restrict h' fun b => decide (b ≠ e)
    have gk : ∀ b, b ≠ e → G'.get? b = h'.get? b := fun b hb => g1 b (decide_eq_true hb)
    have ge : G'.get? e = none := g2 e (by simp)
    have old : ∀ b o, hp.get? b = some o → G'.get? b = some o := fun b o q => (gk b (Nat.ne_of_lt (Nat.lt_of_lt_of_le (Heap.lt_size q) M.new))).trans (M.keep b o q)
    have ob : ObjOk X.prog X.w (upd H1 d (.xd [(fl, v)])) G' d (.xd [(fl, v)]) :=
      ⟨_, hns.at (fun o q => (gk d M.dne).trans q), fun f => relO_one rv f⟩
    have J : Inv X pins σ (upd H1 d (.xd [(fl, v)])) ⟨G', g, dr, tk', os⟩ := I1.laid (t' := tk') old M.dbig ob
    refine ⟨⟨e, _, _, ⟨G', g, dr, tk', os⟩, _, .ref C, some d, rfl, J, fun b o q => ?_, ge, hoe, ⟨rfl, rfl, fun vs e => by cases e; rfl⟩, rfl, rfl, ?_, rfl, I1.bare, rC, q1 d (I1.hok.fresh M.dbig)⟩, fun a oe vs ea hg hd => ?_⟩
    · by_cases hb : b = e
      · have q' : G'.get? b = some o := q
        rw [hb, ge] at q'; cases q'
      · exact (gk b hb).symm.trans q
    · rw [upd_ne (Ne.symm M.dne)]
      exact I1.hok.fresh M.new
    · cases ea
      have he' : h'.get? e = some oe := hg
      rw [hoe] at he'
      cases he'
      cases hd
      show (4 : Nat) < 6
      decide
end Qk

/-! part R3 -/
set_option Elab.async false
set_option linter.all false
set_option maxRecDepth 100000
set_option maxHeartbeats 2000000
namespace Qk
open PySem PySem.Spec L2 HotX
open PyProof.Rows hiding St
/-! ### raise C(e) from n, in an except suite -/
def causeFrom (h : Heap) (a : Addr) (c : Value) : Heap := (h.update a (Obj.mapFields (·.setIfInBounds 3 c))).update a (Obj.mapFields (·.setIfInBounds 4 (.bool true)))
theorem causeFrom_at {h : Heap} {a : Addr} {c : Value} {oe : Obj} {vs : Array Value} (ha : h.get? a = some oe) (hd : oe.data = .fields vs) :
    (causeFrom h a c).get? a = some ((oe.mapFields (·.setIfInBounds 3 c)).mapFields (·.setIfInBounds 4 (.bool true))) ∧ ((oe.mapFields (·.setIfInBounds 3 c)).mapFields (·.setIfInBounds 4 (.bool true))).data = .fields ((vs.setIfInBounds 3 c).setIfInBounds 4 (.bool true)) := by
  have e3 := Obj.data_mapFields hd (·.setIfInBounds 3 c)
  have g3 := Heap.get?_update_self (Obj.mapFields (·.setIfInBounds 3 c)) ha (Obj.isFreed_of_fields e3)
  have e4 := Obj.data_mapFields e3 (·.setIfInBounds 4 (.bool true))
  exact ⟨Heap.get?_update_self (Obj.mapFields (·.setIfInBounds 4 (.bool true))) g3 (Obj.isFreed_of_fields e4), e4⟩
theorem causeFrom_ne {h : Heap} {a b : Addr} {c : Value} (hne : a ≠ b) : (causeFrom h a c).get? b = h.get? b := by
  unfold causeFrom
  rw [Heap.get?_update_other _ _ hne, Heap.get?_update_other _ _ hne]
theorem notType {M : Model} {A : Around} {E : Value → Shared → Prop} {s : Shared} {a : Addr} {oe : Obj} {vs : Array Value} {Q : Bool → Shared → Prop} (ha : s.heap.get? a = some oe) (hd : oe.data = .fields vs) (q : Q false s) : wpAny M A (isType (.ref a)) Q E s := by
  simp only [isType, loadHead]
  refine wpAny_bind (wpAny_loadPart ha ?_)
  rw [hd]
  exact wpAny_pure q
theorem isExc_obj {M : Model} {A : Around} {E : Value → Shared → Prop} {s : Shared} {a : Addr} {oe : Obj} {vs : Array Value} {cls : Value} {msg : String} {Q : Value → Shared → Prop} (ha : s.heap.get? a = some oe) (hd : oe.data = .fields vs) (hc : oe.cls = cls)
    (L1 : PySem.W.Looks M s.heap (isSubtype cls (.type "BaseException")) true) (q : Q (.ref a) s) : wpAny M A (excFromValue (.ref a) msg) Q E s := by
  have LT : PySem.W.Looks M s.heap (typeOf (.ref a)) cls := fun A Q E s k q => wpAny_typeOf_ref (k _ _ ha) (by rw [hc]; exact q)
  have LI : PySem.W.Looks M s.heap (isInstance (.ref a) (.type "BaseException")) true := LT.andThen L1
  unfold excFromValue isExcClass
  refine wpAny_bind (wpAny_bind (notType ha hd ?_))
  simp only [Bool.false_eq_true, if_false]
  refine wpAny_pure ?_
  simp only [Bool.false_eq_true, if_false]
  refine wpAny_bind (LI.here ?_)
  simp only [if_true]
  exact wpAny_pure q
theorem raise_hot_from {prog : Program} {w : World} {A : Around} {E : Value → Shared → Prop} {env : Env} {s : Shared} {x c : Sem Value} {Q : Flow → Shared → Prop} {x1 : Addr}
    (h : wpAny (model prog w) A x (fun v s₁ => ∃ a oe vs cls o1 v1 c1, v = .ref a ∧ s₁.heap.get? a = some oe ∧ oe.cls = cls ∧ oe.data = .fields vs ∧ vs[1]? = some .none ∧ 4 < vs.size ∧ x1 ≠ a ∧ HotAt A x1 s₁.heap ∧
      (∀ Q' : Value → Shared → Prop, Q' (.ref x1) s₁ → wpAny (model prog w) A c Q' E s₁) ∧ s₁.heap.get? x1 = some o1 ∧ o1.data = .fields v1 ∧ o1.cls = c1 ∧ PySem.W.Looks (model prog w) s₁.heap (isSubtype c1 (.type "BaseException")) true ∧
      PySem.W.Looks (model prog w) s₁.heap (isSubtype cls (.type "BaseException")) true ∧ PySem.W.Looks (model prog w) (causeFrom s₁.heap a (.ref x1)) (typeOf cls) (.type "type") ∧
      E (.ref a) { s₁ with heap := (causeFrom s₁.heap a (.ref x1)).update a (Obj.mapFields (·.setIfInBounds 2 (.ref x1))) }) E s) :
    wpAny (model prog w) A (raiseStmt env (some x) (some c)) Q E s := by
  unfold raiseStmt
  dsimp only
  refine wpAny_bind (wpAny_mono h (fun v s₁ h₁ => ?_) fun _ _ x => x)
  obtain ⟨a, oe, vs, cls, o1, v1, c1, ev, ha, hcls, hd, h1, hi, hne, hot, hcs, hx1, hd1, hc1, L0, L1, L3, hE⟩ := h₁
  subst ev
  obtain ⟨ha4, hd4⟩ := causeFrom_at (c := .ref x1) ha hd
  have e3 := Obj.data_mapFields hd (·.setIfInBounds 3 (Value.ref x1))
  have g3 := Heap.get?_update_self (Obj.mapFields (·.setIfInBounds 3 (Value.ref x1))) ha (Obj.isFreed_of_fields e3)
  have s3 : 3 < vs.size := by omega
  have s4 : 4 < (vs.setIfInBounds 3 (Value.ref x1)).size := by rw [set_size]; exact hi
  have s2 : 2 < ((vs.setIfInBounds 3 (Value.ref x1)).setIfInBounds 4 (Value.bool true)).size := by rw [set_size, set_size]; omega
  have h14 : ((vs.setIfInBounds 3 (Value.ref x1)).setIfInBounds 4 (Value.bool true))[1]? = some Value.none := set_other (by decide) (set_other (by decide) h1)
  have hcls4 : ((oe.mapFields (·.setIfInBounds 3 (.ref x1))).mapFields (·.setIfInBounds 4 (.bool true))).cls = cls := by rw [Obj.cls_mapFields, Obj.cls_mapFields]; exact hcls
  have LT4 : PySem.W.Looks (model prog w) (causeFrom s₁.heap a (.ref x1)) (typeOf (.ref a)) cls := fun A Q E s k q => wpAny_typeOf_ref (k _ _ ha4) (by rw [hcls4]; exact q)
  have hot4 : HotAt A x1 (causeFrom s₁.heap a (.ref x1)) := by
    obtain ⟨q1, o, vs', q2, q3, q4⟩ := hot
    exact ⟨q1, o, vs', by rw [causeFrom_ne (Ne.symm hne)]; exact q2, q3, q4⟩
  have rest : wpAny (model prog w) A (do
      let b ← isType (.ref a)
      if b = true then do
        let e ← holding [.ref a] (raisedFor (.ref a) (.ref a))
        setFlight e none
        raiseNew e
      else do
        let e ← raisedInstance (.ref a)
        setFlight e none
        raiseNew e : Sem Flow) Q E { s₁ with heap := causeFrom s₁.heap a (.ref x1) } := by
    refine wpAny_bind (notType (s := { s₁ with heap := causeFrom s₁.heap a (.ref x1) }) ha4 hd4 ?_)
    simp only [Bool.false_eq_true, if_false]
    unfold raisedInstance
    refine wpAny_bind (wpAny_bind (LT4.here (wpAny_bind (L3.here ?_))))
    rw [if_pos (beq_self_eq_true _)]
    refine wpAny_pure ?_
    unfold setFlight
    refine wpAny_bind (wpAny_bind (wpAny_field ha4 hd4 h14 ?_))
    rw [if_neg (by decide)]
    exact wpAny_pure (raiseNew_hot hot4 hne ha4 hd4 s2 hE)
  refine wpAny_bind (wpAny_holding (hcs _ (wpAny_bind (wpAny_pure ?_))))
  dsimp only
  refine wpAny_bind (wpAny_holding (isExc_obj ha hd hcls L1 ?_))
  rw [if_neg (show ¬ ((Value.ref x1 == Value.none) = true) from by simp)]
  refine wpAny_bind (wpAny_holding (isExc_obj hx1 hd1 hc1 L0 ?_))
  exact wpAny_bind (wpAny_setField ha hd s3 (wpAny_bind (wpAny_setField g3 e3 s4 rest)))
/-- raise C(e) from n: n holds the handled exception -/
theorem ps_raiseHF {X : Cx} {W : WX} {e : Expr} {t : St → Hp → XK → Prop} {n : Str} {i : Nat} {a0 : Addr} {o0 : Obj} {c0 : Value} {p2 pos : Pos} (hot : L2H.Hot1 X.A (a0, o0)) (hp : (a0, o0) ∈ X.pn) (hc0 : o0.cls = c0) (hN : X.N[i]? = some n) (hln : X.env.kindOf n = some .local)
    (hdb : (n == ("__debug__" : Str)) = false) (tk : L2.Takes X W) (he : L2H.PMk5 X e t) :
    PS X (.Raise (some e) (some (.Name n p2)) pos) (fun _ σ H => PySem.W.subIn X.K c0 (.type "BaseException") = some true ∧ σ[i]? = some (some (.ref a0)) ∧ t σ H fun cls d H' => W cls d σ H') := by
  refine ⟨fun pins s σ H D I h => ?_⟩
  obtain ⟨hs0, hσ, h⟩ := h
  obtain ⟨hh, v1, e1, c1⟩ := hot
  show wpAny _ _ (do standAt pos; raiseStmt X.env (some (do let v ← eval e X.env; standAt pos; pure v)) (some (do let v ← eval (.Name n p2) X.env; standAt pos; pure v))) _ _ _
  refine wpAny_bind (wpAny_standAt (raise_hot_from (x1 := a0) (wpAny_bind (wpAny_mono (he pins s σ H _ I h) (fun u s1 hu => wpAny_bind (wpAny_standAt (wpAny_pure ?_))) fun _ _ x => x))))
  obtain ⟨⟨a, oe, vs, sI, H', cls, d, rfl, J, k, hne, ha, hz, hd, h1, na, os, ag, r, q⟩, h5⟩ := hu
  have hi : 4 < vs.size := h5 a oe vs rfl ha hd
  have k4 : ∀ b u, sI.heap.get? b = some u → (causeFrom s1.heap a (.ref a0)).get? b = some u := fun b u z => by
    have nab : a ≠ b := fun y => by
      rw [← y, hne] at z
      cases z
    rw [causeFrom_ne nab]
    exact k b u z
  obtain ⟨r1, _⟩ := r (model X.prog X.w) s1.heap (J.kIn.keeps k)
  obtain ⟨_, r2⟩ := r (model X.prog X.w) (causeFrom s1.heap a (.ref a0)) (J.kIn.keeps k4)
  have P1 := (J.pin (a0, o0) (List.mem_append_left _ hp)).1
  have nap : a0 ≠ a := fun z => by
    rw [show (a0, o0).1 = a from z, hne] at P1
    cases P1
  obtain ⟨ha4, hd4⟩ := causeFrom_at (c := .ref a0) ha hd
  have h12 : (((vs.setIfInBounds 3 (Value.ref a0)).setIfInBounds 4 (Value.bool true)).setIfInBounds 2 (Value.ref a0))[1]? = some Value.none := set_other (by decide) (set_other (by decide) (set_other (by decide) h1))
  obtain ⟨m, hn, hl⟩ := J.loc
  obtain ⟨u, ru, lk⟩ := hl i n (.ref a0) hN hσ (.inl hln)
  obtain rfl : u = Value.ref a0 := ru
  have hm : m n = some (.ref a0) := by
    rcases lk with ⟨_, z⟩ | ⟨z, _⟩
    · exact z
    · rw [hln] at z
      rcases z with z | z <;> cases z
  refine ⟨a, oe, vs, cls, o0, v1, c0, rfl, ha, hz.1, hd, h1, hi, nap, ⟨hh, o0, v1, k _ _ P1, e1, c1⟩, fun Q' q' => ?_, k _ _ P1, e1, hc0, PySem.W.looks_subIn (J.kIn.keeps k) hs0, r1, r2, tk _ _ (L2.XE.new J (fun b u z => ?_) hne (Heap.get?_update_self _ ha4 (Obj.isFreed_of_fields (Obj.data_mapFields hd4 _)))
    ⟨by rw [Obj.cls_mapFields, Obj.cls_mapFields, Obj.cls_mapFields]; exact hz.1, by rw [HandSPX.dict_mapFields, HandSPX.dict_mapFields, HandSPX.dict_mapFields]; exact hz.2.1⟩ (Obj.data_mapFields hd4 _) h12 na os ag q)⟩
  · refine wpAny_bind (wpAny_Name (wpAny_loadName_local I.ok.kind hln (hn.keeps k) hm ?_) hdb)
    exact wpAny_bind (wpAny_standAt (wpAny_pure q'))
  · have nab : a ≠ b := fun y => by
      rw [← y, hne] at z
      cases z
    show ((causeFrom s1.heap a (.ref a0)).update a (Obj.mapFields (·.setIfInBounds 2 (.ref a0)))).get? b = some u
    rw [Heap.get?_update_other _ _ nab]
    exact k4 b u z

/-! ### an except clause with a name whose suite raises -/
section
variable {M : Model} {A : Around} {E : Value → Shared → Prop} {s : Shared} {Z : Obj → Prop} {B h h' : Heap} {env : Env} {outer : List Env} {L a : Addr}
theorem sky_note {Q : Unit → Shared → Prop} (hZ : HandSPX.Steady Z) (hfr : A.frames = some (env :: outer)) (hf : env.frame = some L) (x : L2.Sky B (env :: outer) a Z L s.heap)
    (hQ : ∀ h', HandSPX.HeldZ B (env :: outer) a Z L h' → s.heap.UpToSlots h' → Q () { s with heap := h' }) : wpAny M A (noteFrame (.ref a) env) Q E s := by
  rcases x with ⟨hB, hn, hl, oe, vs, he, hz, hd, h1⟩ | fl | hh
  · exact HandSPX.look_newZ hZ hfr hl hf he hB hn hd h1 hz hQ
  · exact HandSPX.looks_onZ hZ hfr hf fl hQ
  · exact HandSPX.againZ hf hh.2.2.2 (hQ s.heap hh (Heap.UpToSlots.refl _))
theorem funFrames_but (hs : ∀ b, b ≠ L → h'.get? b = h.get? b) (hL : ∃ o, h'.get? L = some o ∧ ∀ vs, o.data ≠ .fields vs) : ∀ {l : List Env}, h.FunFrames B l → h'.FunFrames B l
  | [], _ => trivial
  | env :: l, x => by
    obtain ⟨hk, ⟨L1, o, hf, hn, ho, hd⟩, hr⟩ := x
    refine ⟨hk, ?_, funFrames_but hs hL hr⟩
    by_cases e : L1 = L
    · obtain ⟨o2, e2, n2⟩ := hL
      exact ⟨L1, o2, hf, hn, by rw [e]; exact e2, n2⟩
    · exact ⟨L1, o, hf, hn, (hs L1 e).trans ho, hd⟩
theorem ns_dict {m : Str → Option Value} (hn : h.Ns L m) : ∃ o, h.get? L = some o ∧ ∀ vs, o.data ≠ .fields vs := by
  obtain ⟨o, es, ep, e, d, _⟩ := hn
  exact ⟨o, e, fun vs z => by rw [d] at z; cases z⟩
theorem held_but {m m' : Str → Option Value} (hf : env.frame = some L) (hh : HandSPX.HeldZ B (env :: outer) a Z L h) (hn : h.Ns L m) (hn' : h'.Ns L m') (hs : ∀ b, b ≠ L → h'.get? b = h.get? b) : HandSPX.HeldZ B (env :: outer) a Z L h' := by
  obtain ⟨k1, k2, k3, oe, vs, T, oT, ts, he, hz, hd, h1, hnT, hTe, hT, hdT, h3⟩ := hh
  obtain ⟨o, eo, no⟩ := ns_dict hn
  have naL : a ≠ L := fun z => by
    rw [z, eo] at he
    cases he
    exact no _ hd
  have nTL : T ≠ L := fun z => by
    rw [z, eo] at hT
    cases hT
    exact no _ hdT
  have hBL : B.get? L = none := (k3.mem (List.mem_filterMap.mpr ⟨env, List.mem_cons_self, hf⟩)).1
  refine ⟨fun b o' e => ?_, k2, funFrames_but hs (ns_dict hn') k3, oe, vs, T, oT, ts, (hs a naL).trans he, hz, hd, h1, hnT, hTe, (hs T nTL).trans hT, hdT, h3⟩
  have nb : b ≠ L := fun z => by
    rw [z, hBL] at e
    cases e
  exact (hs b nb).trans (k1 b o' e)
end
section
variable {X : Cx} {pins : List (Addr × Obj)} {σ : St} {H : Hp} {s : Shared}
/-- the name at slot i goes, told of a heap -/
theorem gone_core {i : Nat} {n : Str} {m : Str → Option Value} {w : Option Value} {h' : Heap} {g' : Array GenState} {t' : Nat} {d' : Drawn} (I : Inv X pins σ H s) (hN : X.N.Nodup) (hi : X.N[i]? = some n)
    (hlk : ∀ (i : Nat) (x : Str) (v : V), X.N[i]? = some x → σ[i]? = some (some v) → Vis X.env.scope x → ∃ u, RelV v u ∧ Look X.env s.heap m x u) (hn' : h'.Ns X.env.locals (fun y => if y = n then w else m y)) (hs : ∀ b, b ≠ X.env.locals → h'.get? b = s.heap.get? b) (hg : AllBare g') :
    Inv X pins (σ.set i none) H { s with heap := h', gens := g', drawn := d', toks := t' } := by
  have neL : ∀ b o, X.s_0.heap.get? b = some o → b ≠ X.env.locals := fun b o e => Nat.ne_of_lt (Nat.lt_of_lt_of_le (Heap.lt_size e) I.ok.above)
  have cellK : ∀ y c, X.env.cells.lookup y = some c → ∀ v, s.heap.IsCell c v → h'.IsCell c v := fun y c e v ⟨o, q, d⟩ => ⟨o, (hs c (I.cne y c e)).trans q, d⟩
  refine ⟨I.ok, I.os, hg, ⟨fun b o e n hb hx => ?_, fun b o e n hb hx => ?_, I.base.free, fun b o e hx => ?_, I.base.tups, I.base.frzs, I.base.tbls⟩, ⟨_, hn', fun j y v' e1 e2 e3 => ?_⟩, fun y c e => ?_, I.free, I.freeC, fun p hp => ?_, fun b ob e => ?_, by simpa using I.len⟩
  · exact (hs b (neL b o e)).trans (I.base.keep b o e n hb hx)
  · obtain ⟨sl, e1⟩ := I.base.slot b o e n hb hx
    exact ⟨sl, (hs b (neL b o e)).trans e1⟩
  · obtain ⟨o', e1⟩ := I.base.there b o e hx
    exact ⟨o', (hs b (neL b o e)).trans e1⟩
  · by_cases hj : j = i
    · subst hj
      by_cases hlt : j < σ.length
      · rw [List.getElem?_set_self hlt] at e2; cases e2
      · rw [List.getElem?_eq_none (by simpa using hlt)] at e2; cases e2
    · rw [List.getElem?_set_ne (Ne.symm hj)] at e2
      obtain ⟨u', r', q⟩ := hlk j y v' e1 e2 e3
      refine ⟨u', r', ?_⟩
      rcases q with ⟨k, e⟩ | ⟨k, c, e, z⟩
      · have ny : y ≠ n := fun e => hj (nodup_ix hN e1 (e ▸ hi))
        exact .inl ⟨k, (if_neg ny).trans e⟩
      · exact .inr ⟨k, c, e, cellK y c e _ z⟩
  · obtain ⟨w', z⟩ := I.cell y c e
    exact ⟨w', cellK y c e _ z⟩
  · obtain ⟨e, n, ne, nf, d⟩ := I.pin p hp
    exact ⟨(hs p.1 ne).trans e, n, ne, nf, d⟩
  · refine (I.hok b ob e).stay (fun c w' hc q => (hs c ?_).trans q) (fun _ q => q) fun _ _ q => q
    intro z
    subst z
    rcases hc with hc | hc
    · rw [← hc, I.free] at e; cases e
    · rw [I.free] at hc; cases hc
/-- a suite that ends in no other way than by an exception -/
theorem suite_go {st : List Stmt} {t : TS} {W : WX} {Q : Flow → Shared → Prop} {E : Value → Shared → Prop} (hp : L2.Takes (X.wish E) W → PSs (X.wish E) st t) (I : Inv X pins σ H s) (h : t { nx := fun _ _ => False, rt := fun _ _ => False } σ H) (tk : L2.Takes (X.wish E) W) :
    wpAny (model X.prog X.w) X.A (execs st X.env) Q E s :=
  thn ((hp tk).run pins s σ H _ (I.wish E) h) fun f s1 q => by
    cases f with
    | next => obtain ⟨_, _, _, z⟩ := q; exact z.elim
    | brk => obtain ⟨_, _, _, z⟩ := q; exact z.elim
    | cont => obtain ⟨_, _, _, z⟩ := q; exact z.elim
    | ret u => obtain ⟨_, _, _, _, _, z⟩ := q; exact z.elim
end
/-- what the clause wishes of an exception of the body -/
def wFrom (K : PySem.W.Frag) (c : Value) (i : Nat) (tm : St → Hp → XK → Prop) (Wout : WX) : WX := fun cls _ σ H =>
  PySem.W.exmOne K cls c = some true ∧ PySem.W.subIn K cls (.type "BaseException") = some true ∧ ∀ a, H a = none → tm (σ.set i (some (.ref a))) H fun cls' d' H' => Wout cls' d' ((σ.set i (some (.ref a))).set i none) H'
theorem ps_try_from {X : Cx} {x n : Str} {c : Value} {i : Nat} {body : List Stmt} {mk : Expr} {np n2 rp pos pos' : Pos} {tb : WX → TS} {tm : St → Hp → XK → Prop} {Wout : WX}
    (hs : X.stack = X.env :: X.outer) (hf : X.env.frame = some X.env.locals) (hN : X.N.Nodup) (hi : X.N[i]? = some n) (hln : X.env.kindOf n = some .local) (hdb : (n == ("__debug__" : Str)) = false) (hc : Names X x c)
    (hpa : ∀ hd : Option Value, PassesOwnAt (model X.prog X.w) (X.A.mark hd) X.A X.env X.xe) (tk : L2.Takes X Wout)
    (hb : ∀ (W : WX) (pn : List (Addr × Obj)) (xe : Value → Shared → Prop), L2N.Takes (X.tr pn xe) W → PassesOwn (model X.prog X.w) X.A X.env xe → PSs (X.tr pn xe) body (tb W))
    (hm : ∀ (a : Addr) (pn : List (Addr × Obj)) (E : Value → Shared → Prop), L2H.PMk5 ((X.suite a pn).wish E) mk tm) :
    PS X (.Try body [.ExceptHandler (some (.Name x np)) (some n) [.Raise (some mk) (some (.Name n n2)) rp] pos'] [] [] pos) (fun D σ H => tb (wFrom X.K c i tm Wout) D σ H) := by
  refine ⟨fun pins s σ H D I h => ?_⟩
  have ok := I.ok
  have hfr : X.A.frames = some (X.env :: X.outer) := by rw [ok.frames, hs]
  have hloc : Loc X.env.scope n := .inl hln
  refine wpAny_Try_except ?_
  refine wpAny_mono ((hb (wFrom X.K c i tm Wout) (X.pn ++ pins) (fun e s₁ => wpAny (model X.prog X.w) X.A (noteFrame e X.env) (fun _ s₂ => wpAny (model X.prog X.w) X.A (setFlight e none) (fun _ s₃ =>
    wpAny (model X.prog X.w) X.A (handleBy e X.env [.ExceptHandler (some (.Name x np)) (some n) [.Raise (some mk) (some (.Name n n2)) rp] pos']) (SP X pins D) X.xe s₃) X.xe s₂) X.xe s₁) (fun u s' xx => ?_) PassesOwn.looking).run [] s σ H D (I.toTry _) h) (fun f s1 hsp => ?_) (fun e s1 he => he)
  · obtain ⟨a, B, sI, pins', σ', H', cls, d, rfl, J', nb, up, sky, na, os, ag, hyes, hsub, hq⟩ := xx
    have J : Inv X pins σ' H' sI := J'.ofTry ok
    have sky' : L2.Sky B (X.env :: X.outer) a (L2N.Zn cls d) X.env.locals s'.heap := by rw [← hs]; exact sky
    show wpAny (model X.prog X.w) X.A (noteFrame (.ref a) X.env) _ _ _
    refine L2N.Sky.land L2N.Zn.steady hfr hf sky' fun h3 fl3 up3 => ?_
    have J3 : Inv X pins σ' H' { s' with heap := h3 } := J.landed nb fl3.1 (up.trans up3) os ag
    obtain ⟨oe3, vs3, he3, hz3, hd3⟩ := fl3.there
    have nfr : a ∉ frs (X.env :: X.outer) := fun hm => by
      obtain ⟨_, o', e', hnf⟩ := fl3.2.2.1.mem hm
      rw [he3] at e'; cases e'
      exact hnf _ hd3
    have nL : a ≠ X.env.locals := fun z => nfr (List.mem_filterMap.mpr ⟨X.env, List.mem_cons_self, by rw [hf, z]⟩)
    have nF : a ∉ X.fs := fun hm => by
      obtain ⟨e, he, q⟩ := List.mem_filterMap.mp hm
      exact nfr (List.mem_filterMap.mpr ⟨e, List.mem_cons_of_mem _ he, q⟩)
    have S3 := J3.suite he3 hd3 na nL nF
    refine wpAny_handleBy_cons (codeAny_handlers_test ?_) (by intro q; cases q)
    have LT : PySem.W.Looks (model X.prog X.w) h3 (typeOf (.ref a)) cls := fun A Q E s k q => wpAny_typeOf_ref (k _ _ he3) (by rw [hz3.1]; exact q)
    have LM := PySem.W.exm_one (M := model X.prog X.w) (J3.kIn) LT hyes
    have test : ∀ {Q : Value → Shared → Prop} {E : Value → Shared → Prop}, Q c { s' with heap := h3 } → wpAny (model X.prog X.w) (X.A.mark (some (.ref a))) (eval (.Name x np) X.env) Q E { s' with heap := h3 } := fun {Q E} q => by
      obtain ⟨hg, hdbg, hm | ⟨hm, hv, hnn⟩⟩ := hc
      · exact ld_glob (X := X.suite a ((a, oe3) :: (X.pn ++ pins))) S3 hg hm q hdbg
      · exact ld_blt (X := X.suite a ((a, oe3) :: (X.pn ++ pins))) S3 hg hm hv q hnn hdbg
    refine test (LM.here ?_)
    refine codeAny_handlers_suite_as ?_
    refine HandSPX.lands_againZ fl3 fun h4 fl4 up4 => ?_
    have J4 : Inv X pins σ' H' { s' with heap := h4 } := J.landed nb fl4.1 ((up.trans up3).trans up4) os ag
    obtain ⟨oe4, vs4, he4, hz4, hd4⟩ := fl4.there
    have S4 := J4.suite he4 hd4 na nL nF
    refine store_ok (X := X.suite a ((a, oe4) :: (X.pn ++ pins))) (v := .ref a) S4 hN hi hloc rfl (fun s5 S5 => ?_) (.inr hln)
    have hiσ : i < σ'.length := by rw [J.len]; exact (List.getElem?_eq_some_iff.mp hi).1
    refine suite_go (X := X.suite a ((a, oe4) :: (X.pn ++ pins))) (W := fun cls d σ H => Wout cls d (σ.set i none) H)
      (fun tkE => pss_one (ps_raiseHF (X := (X.suite a ((a, oe4) :: (X.pn ++ pins))).wish _) (a0 := a) (o0 := oe4) (c0 := cls) ⟨rfl, vs4, hd4, hz4.2.2 vs4 hd4⟩ List.mem_cons_self hz4.1 hi hln hdb tkE (hm a _ _)))
      S5 ⟨hsub, by rw [List.getElem?_set_self hiσ], hq a na⟩ ?_
    -- what leaves the suite
    intro u s6 xx
    obtain ⟨a2, B2, sI2, pn2, σ2, H2, cls2, d2, e2, I2, nb2, up2, sky2, na2, os2, ag2, w2⟩ := xx
    subst e2
    have K2 : Inv X pins σ2 H2 sI2 := Inv.unsuite (X := X) (a := a) (q := (a, oe4)) (pn' := pn2) (show Inv (X.suite a ((a, oe4) :: (X.pn ++ pins))) pn2 σ2 H2 sI2 from I2.unwish) ok
    have sky2' : L2.Sky B2 (X.env :: X.outer) a2 (Zc cls2 d2) X.env.locals s6.heap := by rw [← hs]; exact sky2
    show wpAny (model X.prog X.w) (X.A.mark (some (.ref a))) (noteFrame (.ref a2) X.env) _ _ _
    refine sky_note Zc.steady (show (X.A.mark (some (.ref a))).frames = some (X.env :: X.outer) from hfr) hf sky2' fun h7 hh7 up7 => ?_
    obtain ⟨G, g1, g2⟩ := restrict h7 fun b => (B2.get? b).isSome || decide (b ∈ frs X.stack)
    have gB : ∀ b o, B2.get? b = some o → G.get? b = some o := fun b o e => by
      rw [g1 b (by simp [e])]
      exact hh7.1 b o e
    have gF : ∀ b, b ∈ frs X.stack → G.get? b = h7.get? b := fun b hb => g1 b (by simp [hb])
    have hLst : X.env.locals ∈ frs X.stack := by rw [hs]; exact List.mem_filterMap.mpr ⟨X.env, List.mem_cons_self, hf⟩
    have upG : sI2.heap.UpToSlots G := fun b o e hd => by
      by_cases hb : b ∈ frs X.stack
      · obtain ⟨sl, q⟩ := (up2.trans up7) b o e hd
        exact ⟨sl, (gF b hb).trans q⟩
      · exact ⟨o.slots, gB b o (nb2 b o e hb)⟩
    have J7 : Inv X pins σ2 H2 { s6 with heap := G } := K2.landed nb2 gB upG os2 ag2
    obtain ⟨m, hn, hlk⟩ := J7.loc
    have hn7 : h7.Ns X.env.locals m := by
      obtain ⟨o, es, ep, e, r⟩ := hn
      exact ⟨o, es, ep, (gF _ hLst).symm.trans e, r⟩
    have hcls : (X.env.scope.kind == .class || (X.env.scope.kind == .module && X.env.locals != X.env.globals)) = false := by rw [ok.kind]; rfl
    refine wpAny_nameGoes_keeps hln hn7 hcls fun h8 v hn8 hs8 => ?_
    have hh8 := held_but hf hh7 hn7 hn8 hs8.2
    obtain ⟨G8, q1, q2⟩ := restrict h8 fun b => (B2.get? b).isSome || decide (b ∈ frs X.stack)
    have hn8' : G8.Ns X.env.locals (fun y => if y = n then v else m y) := by
      obtain ⟨o, es, ep, e, r⟩ := hn8
      exact ⟨o, es, ep, (q1 _ (by simp [hLst])).trans e, r⟩
    have same : ∀ b, b ≠ X.env.locals → G8.get? b = G.get? b := fun b hb => by
      cases z : ((B2.get? b).isSome || decide (b ∈ frs X.stack)) with
      | true => rw [q1 b z, g1 b z, hs8.2 b hb]
      | false => rw [q2 b z, g2 b z]
    have J8 : Inv X pins (σ2.set i none) H2 { s6 with heap := G8, toks := s6.toks + 1 } := gone_core (s := { s6 with heap := G }) (g' := s6.gens) (d' := s6.drawn) (t' := s6.toks + 1) J7 hN hi hlk hn8' same ag2
    have sub8 : ∀ b o, G8.get? b = some o → h8.get? b = some o := fun b o e => by
      cases z : ((B2.get? b).isSome || decide (b ∈ frs X.stack)) with
      | true => rw [← q1 b z]; exact e
      | false => rw [q2 b z] at e; cases e
    have nb8 : ∀ b o, G8.get? b = some o → b ∉ frs X.stack → B2.get? b = some o := fun b o e hb => by
      cases z : ((B2.get? b).isSome || decide (b ∈ frs X.stack)) with
      | true =>
        rw [q1 b z] at e
        have z1 : (B2.get? b).isSome = true := by simpa [hb] using z
        obtain ⟨o', e'⟩ := Option.isSome_iff_exists.mp z1
        have z2 := hh8.1 b o' e'
        rw [e] at z2; cases z2
        exact e'
      | false => rw [q2 b z] at e; cases e
    obtain ⟨k1, k2, k3, oe, vs, T, oT, ts', he, hz, hd, h1, hr⟩ := id hh8
    unfold PySem.passOn
    refine wpAny_bind (wpAny_field he hd h1 ?_)
    rw [if_neg (show ¬ ((Value.ref T == Value.none) = true) from by simp)]
    have fin : ∀ E1 : Value → Shared → Prop, wpAny (model X.prog X.w) (X.A.mark (some (.ref a))) (setFlight (.ref a2) X.env.frame) (fun _ s4 => X.xe (.ref a2) s4) E1 { s6 with heap := h8, toks := s6.toks + 1 } := by
      intro E1
      rw [hf]
      refine HandSPX.setFlight_onZ hh8 fun h9 hh9 up9 => tk _ _ ?_
      exact ⟨a2, B2, { s6 with heap := G8, toks := s6.toks + 1 }, pins, σ2.set i none, H2, cls2, d2, rfl, J8, nb8, (Heap.UpToSlots.of_keeps sub8).trans up9, .inr (.inr (by rw [hs]; exact hh9)), na2, rfl, ag2, w2⟩
    exact wpAny_bind (wpAny_mono (fin _) (fun _ s4 z => wpAny_throw (hpa (some (.ref a)) _ s4 z)) fun _ _ z => z)
  · cases f with
    | next =>
      obtain ⟨σ', H', J', q⟩ := hsp
      exact wpAny_execs_nil ⟨σ', H', J'.ofTry ok, q⟩
    | brk =>
      obtain ⟨σ', H', J', q⟩ := hsp
      exact ⟨σ', H', J'.ofTry ok, q⟩
    | cont =>
      obtain ⟨σ', H', J', q⟩ := hsp
      exact ⟨σ', H', J'.ofTry ok, q⟩
    | ret u =>
      obtain ⟨v, σ', H', J', r, q⟩ := hsp
      exact ⟨v, σ', H', J'.ofTry ok, r, q⟩
end Qk

/-! part T0 -/
set_option Elab.async false
set_option linter.all false
set_option maxRecDepth 100000
set_option maxHeartbeats 2000000
namespace Qk
open PySem PySem.Spec L2
open PyProof.Rows hiding St
def top (i : Nat) : Stmt := PySem.Challenge.pw_quickways_k15_whole_untidy_deeds_are_par.main.body.getD i (.Pass ⟨0, 0, 0, 0⟩)
/-! ### tables as they stand in a dict -/
def kvOf {α : Type} (f : α → V) (l : List (Str × α)) : List (Key × V) := l.map fun p => (Sum.inr p.1, f p.2)
theorem kv_len {α : Type} {f : α → V} {l : List (Str × α)} : (kvOf f l).length = l.length := List.length_map ..
theorem kv_val {α : Type} {f : α → V} : ∀ {l : List (Str × α)} {x : Str}, valV (kvOf f l) (Sum.inr x) = (aget l x).map f
  | [], _ => rfl
  | p :: r, x => by
    have ih := @kv_val α f r x
    show valV ((Sum.inr p.1, f p.2) :: kvOf f r) (Sum.inr x) = (if p.1 = x then some p.2 else aget r x).map f
    by_cases e : p.1 = x
    · rw [if_pos e, valV_pos (show (Sum.inr p.1 : Key) = Sum.inr x by rw [e])]; rfl
    · rw [if_neg e, valV_neg (fun z => e (Sum.inr.inj z)), ih]
theorem kv_any {α : Type} {f : α → V} {l : List (Str × α)} {x : Str} : ((kvOf f l).any fun kv => decide (kv.1 = (Sum.inr x : Key))) = decide (x ∈ keys l) := by
  rw [valV_any, kv_val, Option.isSome_map]
  cases e : aget l x with
  | none => simp [aget_none_iff.mp e]
  | some y => simp [aget_key e]
theorem kv_put {α : Type} {f : α → V} {l : List (Str × α)} {x : Str} {y : α} : putK (kvOf f l) (Sum.inr x) (f y) = kvOf f (aput l x y) := by
  unfold putK aput
  rw [kv_any]
  by_cases h : x ∈ keys l
  · rw [if_pos (decide_eq_true h), if_pos h]
    unfold kvOf
    rw [List.map_map, List.map_map]
    refine List.map_congr_left fun p _ => ?_
    show (if (Sum.inr p.1 : Key) = Sum.inr x then (Sum.inr p.1, f y) else (Sum.inr p.1, f p.2)) = (Sum.inr p.1, f (if p.1 = x then y else p.2))
    by_cases e : p.1 = x
    · rw [if_pos (by rw [e]), if_pos e]
    · rw [if_neg (fun z => e (Sum.inr.inj z)), if_neg e]
  · rw [decide_eq_false h, if_neg Bool.false_ne_true, if_neg h]
    unfold kvOf
    rw [List.map_append]
    rfl
theorem kv_drop {α : Type} {f : α → V} {l : List (Str × α)} {x : Str} : dropK (kvOf f l) (Sum.inr x) = kvOf f (adrop l x) := by
  unfold dropK adrop kvOf
  rw [List.filter_map]
  congr 1
  refine List.filter_congr fun p _ => ?_
  show decide ((Sum.inr p.1 : Key) ≠ Sum.inr x) = decide (p.1 ≠ x)
  by_cases e : p.1 = x
  · simp [e]
  · simp [e]
theorem kv_keys {α : Type} {f : α → V} {l : List (Str × α)} : (kvOf f l).map (·.1) = (keys l).map Sum.inr := by
  unfold kvOf keys
  rw [List.map_map, List.map_map]
  rfl
/-- the keys ever -/
def kvOld (l : List Str) : List (Key × V) := l.map fun k => (Sum.inr k, V.bl true)
theorem old_eq (l : List Str) : kvOld l = kvOf (fun _ : Unit => V.bl true) (l.map fun k => (k, ())) := by
  unfold kvOld kvOf
  rw [List.map_map]
  rfl
theorem old_keys (l : List Str) : keys (l.map fun k => (k, ())) = l := by
  unfold keys
  rw [List.map_map]
  exact List.map_id l
theorem old_val {l : List Str} {x : Str} : (valV (kvOld l) (Sum.inr x)).isSome = decide (x ∈ l) := by
  rw [old_eq, ← valV_any, kv_any, old_keys]
theorem old_put {l : List Str} {x : Str} (h : x ∉ l) : putK (kvOld l) (Sum.inr x) (V.bl true) = kvOld (l ++ [x]) := by
  rw [old_eq, old_eq]
  rw [show (V.bl true) = (fun _ : Unit => V.bl true) () from rfl, kv_put, aput_new (by rw [old_keys]; exact h), List.map_append]
  rfl
theorem old_len {l : List Str} : (kvOld l).length = l.length := List.length_map ..
/-! ### heaps -/
/-- all but what stands at F is kept -/
def KB (F : List Addr) (H H' : Hp) : Prop := ∀ b o, H b = some o → b ∉ F → H' b = some o
theorem KB.refl {F : List Addr} {H : Hp} : KB F H H := fun _ _ e _ => e
theorem KB.trans {F : List Addr} {H H1 H2 : Hp} (a : KB F H H1) (b : KB F H1 H2) : KB F H H2 := fun c o e n => b c o (a c o e n) n
theorem KB.mono {F G : List Addr} {H H1 : Hp} (a : KB F H H1) (h : ∀ b ∈ F, b ∈ G) : KB G H H1 := fun c o e n => a c o e fun z => n (h c z)
theorem KB.upd {F : List Addr} {H H1 : Hp} {a : Addr} {o : HO} (k : KB F H H1) (h : a ∈ F) : KB F H (upd H1 a o) := fun c u e n => by
  rw [upd_ne (fun z => n (by rw [z]; exact h))]
  exact k c u e n
theorem KB.new {F : List Addr} {H H1 : Hp} {a : Addr} {o : HO} (k : KB F H H1) (h : H1 a = none) : KB F H (L2.upd H1 a o) := fun c u e n => by
  rw [upd_ne (ne_of_none (k c u e n) h)]
  exact k c u e n
/-- what is new may change -/
theorem KB.fresh {F : List Addr} {H H1 : Hp} {a : Addr} {o : HO} (k : KB F H H1) (h : H a = none) : KB F H (L2.upd H1 a o) := fun c u e n => by
  rw [upd_ne (ne_of_none e h)]
  exact k c u e n
theorem KB.same {H H' : Hp} (h : KB [] H H') : Same H H' := fun b o e => h b o e (by simp)
theorem KB.ofSame {F : List Addr} {H H' : Hp} (h : Same H H') : KB F H H' := fun b o e _ => h b o e
/-- the footprint is new: nothing of before is touched -/
theorem KB.clean {F : List Addr} {H H1 : Hp} (k : KB F H H1) (h : ∀ b ∈ F, H b = none) : Same H H1 := fun b o e => k b o e fun z => by
  rw [h b z] at e
  cases e
theorem KB.seqL {F : List Addr} {K : PySem.W.Frag} {H H1 : Hp} {a : Addr} {xs : List V} (k : KB F H H1) (h : SqL K H a xs) (n : a ∉ F) : SqL K H1 a xs := by
  rcases h with (h | ⟨o, h⟩) | h
  · exact .inl (.inl (k _ _ h n))
  · exact .inl (.inr ⟨o, k _ _ h n⟩)
  · exact .inr h
theorem KB.seqT {F : List Addr} {K : PySem.W.Frag} {H H1 : Hp} {a : Addr} {xs : List V} (k : KB F H H1) (h : SqT K H a xs) (n : a ∉ F) : SqT K H1 a xs := by
  rcases h with (h | ⟨o, h⟩) | h
  · exact .inl (.inl (k _ _ h n))
  · exact .inl (.inr ⟨o, k _ _ h n⟩)
  · exact .inr h
theorem sameT {K : PySem.W.Frag} {H H1 : Hp} {a : Addr} {xs : List V} (k : Same H H1) (h : SqT K H a xs) : SqT K H1 a xs := (KB.ofSame (F := []) k).seqT h (by simp)
/-- where but dicts are written, sequences are kept -/
theorem KB.sq {F : List Addr} {K : PySem.W.Frag} {H H1 : Hp} {a : Addr} {xs : List V} (k : KB F H H1) (hF : ∀ b ∈ F, ∃ kvs, H b = some (.dK kvs)) : (SqL K H a xs → SqL K H1 a xs) ∧ (SqT K H a xs → SqT K H1 a xs) := by
  have n : ∀ {u : HO}, H a = some u → (∀ kvs, u ≠ .dK kvs) → a ∉ F := fun {u} e hu z => by
    obtain ⟨kvs, q⟩ := hF a z
    rw [q] at e
    exact hu _ (Option.some.inj e).symm
  refine ⟨fun h => ?_, fun h => ?_⟩
  all_goals
    rcases h with (h | ⟨o, h⟩) | h
    · exact .inl (.inl (k _ _ h (n h (by intros; intro z; cases z))))
    · exact .inl (.inr ⟨o, k _ _ h (n h (by intros; intro z; cases z))⟩)
    · exact .inr h
/-! ### defs that let out exceptions whose context is None -/
theorem passN {X : Cx} : Passes (L2N.CX X.prog X.w) X E0 := fun _ _ _ _ _ _ _ h => by
  obtain ⟨_, _, _, _, _, _, _, _, _, _, _, _, z⟩ := h
  exact z.elim
theorem passB {X : Cx} : Passes (L2.CX X.prog X.w) X E0 := fun _ _ _ _ _ _ _ h => by
  obtain ⟨_, _, _, _, _, _, _, _, _, _, _, _, z⟩ := h
  exact z.elim
section
variable {P : Program} {w : World} {K : PySem.W.Frag} {mg : Str → Option Value} {base : Heap}
theorem funN {x qual : Str} {st : Stmt} {f : Addr} {fd : FuncData} {N ps : List Str} {k : Nat} {sp : Sp} (F : Fun K x qual st f fd) (S : FnScope N ps (defScope st)) (len : ∀ vs H Q E, sp vs H Q E → vs.length = ps.length)
    (hbody : ∀ (cdv : Value) (A : Around) (outer : List Env) (s : Shared) (H : Hp) (vs : List V) (Q : VK) (E : XK), Room k (A.deeper (envOfC qual (defScope st) s.heap.objs.size f cdv)) → sp vs H Q E →
      ∃ t, PSs (cxOf (L2N.CX P w) P w K mg base N qual (defScope st) f cdv A outer s H E) (defBody st) t ∧ t { nx := fun _ H' => Q .non H', rt := Q } (start N vs) H) : FnOk P w K mg base (L2N.CX P w) (k + 1) f fd ps sp := by
  obtain ⟨oc, od, kV, doc, pm, an, cdv, ct, osl, rfl, lk, hcd⟩ := F.ex
  exact fn_of lk hcd S len fun A outer s H vs Q E hr hsp => hbody cdv A outer s H vs Q E hr hsp
end
section
variable {X : Cx} {CX : CXT} {k : Nat} {f C : Addr} {fd : FuncData} {ps : List Str} {sp : Sp} {E : St → XK} {x m : Str} {p pos apos : Pos} {e o : Expr} {es : List Expr} {ta : TE} {t : TA}
/-- o.m(..) that may raise -/
def tMethA (C : Addr) (m : Str) (sp : Sp) (E : St → XK) (ta : TE) (t : TA) : TE := fun σ H Q => ta σ H fun x H1 => ∃ a dx fs, x = .ref a ∧ H1 a = some (.ins C dx fs) ∧ fs.lookup m = none ∧ t σ H1 fun vs H2 => sp (x :: vs) H2 Q (E σ)
theorem pe_methA {pl : Sem Bool} (he : PE X o ta) (c : Cls X.K C) (hm : Meth X.K C m f) (F : FnOk X.prog X.w X.K X.mg X.base CX k f fd ps sp) (hr : Room k X.A) (hb : Binds X.K fd ps []) (hx : ∀ σ, PassesAt CX X σ (E σ)) (ha : PA X (e :: es) t)
    (hst : starEach (e :: es) X.env = (false, eval e X.env) :: starEach es X.env := by rfl) (hpl : (backTo pos (starEach es X.env)).any (·.1) = false := by rfl)
    (ht : eval (.Call (.Attribute o m apos) (e :: es) [] pos) X.env = (do
      let ov ← eval o X.env
      standAt apos.atName
      let (f, first) ← holding [ov] (getMethod ov m pl)
      callWith pos f first (backTo pos (starEach (e :: es) X.env)) (backToKw pos (keywordEach [] X.env))) := by rfl) :
    PE X (.Call (.Attribute o m apos) (e :: es) [] pos) (tMethA C m sp E ta t) := by
  refine ⟨fun pins s σ H Q I h => ?_⟩
  refine PySem.W.methodCall_KW (pl := pl) (thn (he.run pins s σ H _ I h) fun u s1 ⟨x, H1, I1, rx, a, dx, fs, ex, ea, l, q⟩ => ?_) ht
  subst ex
  obtain rfl : u = Value.ref a := rx
  refine getmeth_ok I1 ea c hm l ?_
  refine PySem.W.callWith_K (first := [.ref a]) (h₀ := X.base) I.ok.mod.kin hm.kp (thn (ha.run pos pins s1 σ H1 _ I1 q) fun us s2 ⟨vs, H2, I2, r, q2⟩ => ⟨I2.kIn, ?_⟩) hst hpl
  exact run_fnS (us := .ref a :: us) (vs := .ref a :: vs) F hr hb (hx σ) I2 (.cons rfl r) q2
end
/-! ### small facts -/
theorem fits_line {n m : Nat} (h : n ≤ m) (hm : m ≤ 1000 := by decide) : n < sizeLine := by
  rw [sizeLine_eq]
  omega
theorem line_le {n m : Nat} (h : n ≤ m) (hm : m ≤ 1000 := by decide) : n ≤ sizeLine := by
  rw [sizeLine_eq]
  omega
theorem iteB {c : Bool} {A B : Prop} (h1 : c = true → A) (h2 : c = false → B) : if c = true then A else B := by
  cases c with
  | true => exact h1 rfl
  | false => exact h2 rfl
theorem strs_in {x : Str} {l : List Str} : inV (.str x) (l.map V.str) = decide (x ∈ l) := by
  unfold inV
  induction l with
  | nil => rfl
  | cons y r ih =>
    rw [List.map_cons, List.any_cons, ih]
    show (y == x || decide (x ∈ r)) = decide (x ∈ y :: r)
    by_cases e : y = x
    · subst e; simp
    · have e2 : ¬ x = y := fun z => e z.symm
      have e3 : (y == x) = false := by simpa using e
      rw [e3]
      simp [e2]
theorem strs_flat {l : List Str} : (l.map V.str).all flatV = true := by
  rw [List.all_map]
  exact List.all_eq_true.mpr fun _ _ => rfl
end Qk

/-! part L1 -/
set_option Elab.async false
set_option linter.all false
set_option maxRecDepth 100000
set_option maxHeartbeats 2000000
namespace Qk
open PySem PySem.Spec L2
open PyProof.Rows hiding St
/-! ### Ledger -/
abbrev sLI : Stmt := inClass (top 8) 0
abbrev sLE : Stmt := inClass (top 8) 1
abbrev sLS : Stmt := inClass (top 8) 2
abbrev sLR : Stmt := inClass (top 8) 3
abbrev sLK : Stmt := inClass (top 8) 4
/-- where a ledger's parts stand -/
structure LA where
  p : Addr
  dx : Addr
  pl : Addr
  dt : Addr
  dr : Addr
  dd : Addr
def LA.fs (l : LA) : List (Str × V) := [("_places", .ref l.pl), ("_targets", .ref l.dt), ("_roots", .ref l.dr), ("_old", .ref l.dd)]
def LA.fp (l : LA) : List Addr := [l.dt, l.dr, l.dd]
structure LA.At (CL : Addr) (l : LA) (H : Hp) (S : Sto) : Prop where
  ob : H l.p = some (.ins CL l.dx l.fs)
  pl : H l.pl = some (.lst ((keys S.ps).map V.str))
  tg : H l.dt = some (.dK (kvOf V.str S.tg))
  rt : H l.dr = some (.dK (kvOf V.str S.rt))
  od : H l.dd = some (.dK (kvOld S.od))
  n1 : l.dt ≠ l.dr
  n2 : l.dt ≠ l.dd
  n3 : l.dr ≠ l.dd
theorem LA.At.keep {CL : Addr} {l : LA} {H H' : Hp} {S : Sto} {F : List Addr} (A : l.At CL H S) (k : KB F H H') (h1 : l.p ∉ F) (h2 : l.pl ∉ F) (h3 : l.dt ∉ F) (h4 : l.dr ∉ F) (h5 : l.dd ∉ F) : l.At CL H' S :=
  ⟨k _ _ A.ob h1, k _ _ A.pl h2, k _ _ A.tg h3, k _ _ A.rt h4, k _ _ A.od h5, A.n1, A.n2, A.n3⟩
theorem LA.At.same {CL : Addr} {l : LA} {H H' : Hp} {S : Sto} (A : l.At CL H S) (k : Same H H') : l.At CL H' S :=
  ⟨k _ _ A.ob, k _ _ A.pl, k _ _ A.tg, k _ _ A.rt, k _ _ A.od, A.n1, A.n2, A.n3⟩
theorem LA.l1 (l : LA) : l.fs.lookup ("_places" : Str) = some (.ref l.pl) := rfl
theorem LA.l2 (l : LA) : l.fs.lookup ("_targets" : Str) = some (.ref l.dt) := rfl
theorem LA.l3 (l : LA) : l.fs.lookup ("_roots" : Str) = some (.ref l.dr) := rfl
theorem LA.l4 (l : LA) : l.fs.lookup ("_old" : Str) = some (.ref l.dd) := rfl
theorem LA.put (a b c d : Addr) : putF "_old" (.ref d) (putF "_roots" (.ref c) (putF "_targets" (.ref b) (putF "_places" (.ref a) []))) = ([("_places", .ref a), ("_targets", .ref b), ("_roots", .ref c), ("_old", .ref d)] : List (Str × V)) := rfl
/-- places as they are handed in -/
def PlcAt (K : PySem.W.Frag) (H : Hp) (a : Addr) (ps : List (Str × V)) : Prop := ∃ rs : List Addr, SqL K H a (rs.map V.ref) ∧ Paired (fun r p => SqT K H r [.str p.1, p.2]) rs ps
theorem PlcAt.keep {K : PySem.W.Frag} {H H' : Hp} {a : Addr} {ps : List (Str × V)} (h : PlcAt K H a ps) (k : Same H H') : PlcAt K H' a ps := by
  obtain ⟨rs, h1, h2⟩ := h
  exact ⟨rs, k.seq h1, Paired.mapP h2 fun r p z => sameT k z⟩
theorem paired_get {α β : Type} {F : α → β → Prop} : ∀ {l : List α} {m : List β}, Paired F l m → ∀ {i : Nat} {x : α}, l[i]? = some x → ∃ y, m[i]? = some y ∧ F x y
  | _, _, .nil, i, x, e => by simp at e
  | _, _, .cons r t, 0, x, e => by simp at e; subst e; exact ⟨_, rfl, r⟩
  | _, _, .cons r t, i + 1, x, e => by
    obtain ⟨y, h1, h2⟩ := paired_get t (i := i) (x := x) (by simpa using e)
    exact ⟨y, by simpa using h1, h2⟩
structure LedT (K : PySem.W.Frag) (CL : Addr) : Prop where
  cl : Cls K CL
  n1 : NoAttr K CL "_places"
  n2 : NoAttr K CL "_targets"
  n3 : NoAttr K CL "_roots"
  n4 : NoAttr K CL "_old"
def spLI (K : PySem.W.Frag) (CL : Addr) : Sp := fun vs H Q _ => ∃ (p dx a : Addr) (ps : List (Str × V)), vs = [.ref p, .ref a] ∧ H p = some (.ins CL dx []) ∧ PlcAt K H a ps ∧ ps.length ≤ 1000 ∧
  ∀ (l : LA) (H' : Hp), l.p = p → l.dx = dx → l.At CL H' (Sto.init ps) → KB [p] H H' → H l.pl = none → H l.dt = none → H l.dr = none → H l.dd = none → Q .non H'
section
variable {P : Program} {w : World} {K : PySem.W.Frag} {mg : Str → Option Value} {base : Heap}
theorem scLI : FnScope ["self", "places", "name", "_"] ["self", "places"] (defScope sLI) := ⟨rfl, rfl, rfl, by decide +kernel, rfl, by decide +kernel, by decide +kernel⟩
theorem ok_LI {f CL : Addr} {fd : FuncData} (F : Fun K "__init__" "Ledger.__init__" sLI f fd) (T : LedT K CL) : FnOk P w K mg base CX0 1 f fd ["self", "places"] (spLI K CL) := by
  refine F.ok scLI (fun vs H Q E h => ?_) (fun cdv A outer s H vs Q E hr h => ?_)
  · obtain ⟨p, dx, a, ps, rfl, _⟩ := h
    rfl
  · obtain ⟨p, dx, a, ps, rfl, hp, hpl, hlen, k⟩ := h
    refine ⟨_, pss_cons (ps_fld (pv 0) (pe_lc (own := [("name", 2), ("_", 3)]) (g := gTup K 2 (gCons (gName 2) (gCons (gName 3) gNil))) (tt := tYes) rfl scLI.nd (pi_list (pv 1)) (blkOk_by (N := ["self", "places", "name", "_"]) (sc := defScope sLI) (by decide +kernel))
        (fun _ _ _ _ _ => pg_tup rfl (pgs_cons (pg_name (i := 2) scLI.nd rfl (Or.inl rfl) (Or.inr rfl)) (pgs_cons (pg_name (i := 3) scLI.nd rfl (Or.inl rfl) (Or.inr rfl)) pgs_nil))) (fun _ _ _ _ _ => pts_nil) (fun _ _ _ _ _ => pv 2)) rfl)
      (pss_cons (ps_fld (pv 0) pe_dnewK rfl) (pss_cons (ps_fld (pv 0) pe_dnewK rfl) (pss_one (ps_fld (pv 0) pe_dnewK rfl)))), ?_⟩
    obtain ⟨rs, hL, hP⟩ := hpl
    have hl : rs.length = ps.length := Paired.length hP
    refine ⟨_, rfl, a, rfl, ⟨_, hL⟩, fun D hD => ?_⟩
    refine lc_list (K := K) (a := a) (xs := rs.map V.ref) (fun i H2 => H2 D = some (.lst ((keys (ps.take i)).map V.str)) ∧ KB [D] H H2) ⟨upd_same, KB.refl.fresh hD⟩
      (fun i H2 _ h2 => ?_) (fun i x H2 hx h2 => ?_) (fun H2 h2 => ?_)
    · exact (h2.2.clean (by simpa using hD)).seq hL
    · rw [List.getElem?_map] at hx
      cases er : rs[i]? with
      | none => rw [er] at hx; cases hx
      | some r =>
        rw [er] at hx
        cases hx
        obtain ⟨y, hy, hT⟩ := paired_get hP er
        have hT2 := sameT (h2.2.clean (by simpa using hD)) hT
        refine ⟨r, _, rfl, hT2, rfl, _, _, rfl, _, _, rfl, rfl, rfl, _, rfl, _, h2.1, ?_, ?_, ?_⟩
        · have : i < ps.length := (List.getElem?_eq_some_iff.mp hy).1
          simp [keys]
          exact Nat.lt_of_le_of_lt (Nat.min_le_left _ _) (fits_line (Nat.le_of_lt (Nat.lt_of_lt_of_le this hlen)))
        · rw [take_next hy, keys_app, List.map_append]
          exact upd_same
        · exact h2.2.upd (by simp)
    · obtain ⟨h3, h4⟩ := h2
      have hs := h4.clean (by simpa using hD)
      rw [show (rs.map V.ref).length = ps.length by simp [hl], List.take_length] at h3
      refine ⟨_, rfl, p, CL, dx, _, rfl, hs _ _ hp, T.cl, T.n1, (by show 0 < 1000; decide), fun d1 e1 => ?_⟩
      have npD : p ≠ D := ne_of_none hp hD
      have np1 : p ≠ d1 := fun z => by rw [z, upd_same] at e1; cases e1
      have nD1 : D ≠ d1 := fun z => by rw [← z, upd_ne npD.symm, h3] at e1; cases e1
      rw [upd_ne np1.symm] at e1
      refine ⟨_, rfl, p, CL, dx, _, rfl, (by rw [upd_ne np1]; exact upd_same), T.cl, T.n2, (by show 1 < 1000; decide), fun d2 e2 => ?_⟩
      have np2 : p ≠ d2 := fun z => by rw [z, upd_same] at e2; cases e2
      rw [upd_ne np2.symm] at e2
      have n12 : d1 ≠ d2 := fun z => by rw [z, upd_same] at e2; cases e2
      rw [upd_ne n12.symm, upd_ne np2.symm] at e2
      have nD2 : D ≠ d2 := fun z => by rw [← z, h3] at e2; cases e2
      refine ⟨_, rfl, p, CL, dx, _, rfl, (by rw [upd_ne np2]; exact upd_same), T.cl, T.n3, (by show 2 < 1000; decide), fun d3 e3 => ?_⟩
      have np3 : p ≠ d3 := fun z => by rw [z, upd_same] at e3; cases e3
      rw [upd_ne np3.symm] at e3
      have n23 : d2 ≠ d3 := fun z => by rw [z, upd_same] at e3; cases e3
      rw [upd_ne n23.symm, upd_ne np3.symm] at e3
      have n13 : d1 ≠ d3 := fun z => by rw [z, upd_same] at e3; cases e3
      rw [upd_ne n13.symm, upd_ne np3.symm] at e3
      have nD3 : D ≠ d3 := fun z => by rw [← z, h3] at e3; cases e3
      refine ⟨_, rfl, p, CL, dx, _, rfl, (by rw [upd_ne np3]; exact upd_same), T.cl, T.n4, (by show 3 < 1000; decide), ?_⟩
      have fr : ∀ {b : Addr}, H2 b = none → H b = none := fun {b} e => by
        cases q : H b with
        | none => rfl
        | some o => rw [hs _ _ q] at e; cases e
      refine k ⟨p, dx, D, d1, d2, d3⟩ _ rfl rfl ⟨?_, ?_, ?_, ?_, ?_, n12, n13, n23⟩ ?_ hD (fr e1) (fr e2) (fr e3)
      · rw [upd_same, LA.put]; rfl
      · rw [upd_ne npD.symm, upd_ne nD3, upd_ne npD.symm, upd_ne nD2, upd_ne npD.symm, upd_ne nD1, upd_ne npD.symm]; exact h3
      · rw [upd_ne np1.symm, upd_ne n13, upd_ne np1.symm, upd_ne n12, upd_ne np1.symm]; exact upd_same
      · rw [upd_ne np2.symm, upd_ne n23, upd_ne np2.symm]; exact upd_same
      · rw [upd_ne np3.symm]; exact upd_same
      · intro b o e hb
        have nb : b ≠ p := by simpa using hb
        rw [upd_ne nb, upd_ne (ne_of_none e (fr e3)), upd_ne nb, upd_ne (ne_of_none e (fr e2)), upd_ne nb, upd_ne (ne_of_none e (fr e1)), upd_ne nb]
        exact hs _ _ e
end
end Qk

/-! part L2a -/
set_option Elab.async false
set_option linter.all false
set_option maxRecDepth 100000
set_option maxHeartbeats 2000000
namespace Qk
open PySem PySem.Spec L2
open PyProof.Rows hiding St
/-- a comprehension's turns, by any walk of n turns -/
theorem lc_gen {J : It} {n : Nat} {g : TG} {tt : TT} {te : TE} {vs : List Nat} {σ : St} {H1 : Hp} {D : Addr} {Qd : Hp → Prop} (Pv : Nat → Hp → Prop) (h0 : Pv 0 (upd H1 D (.lst []))) (hg : ∀ i H, i < n → Pv i H → J.go i H) (ht : ∀ H, Pv n H → J.stop n H)
    (hs : ∀ i H x H', i < n → Pv i H → J.yld i H x H' → g x (wipe σ vs) H' fun σ2 H2 => wipe σ2 vs = wipe σ vs ∧ tt σ2 H2 fun b H3 =>
      if b = true then te σ2 H3 fun y H4 => ∃ acc, H4 D = some (.lst acc) ∧ acc.length < sizeLine ∧ Pv (i + 1) (upd H4 D (.lst (acc ++ [y]))) else Pv (i + 1) H3) (hd : ∀ H, Pv n H → Qd H) :
    ∃ W : Nat → Nat → Hp → Prop, (∃ m, W 0 m (upd H1 D (.lst []))) ∧ ∀ i m H, W i m H →
      (J.stop i H ∧ Qd H) ∨ (J.go i H ∧ ∃ Nx : Hp → Prop, (∀ H', Nx H' → ∃ m', m' < m ∧ W (i + 1) m' H') ∧ ∀ x H', J.yld i H x H' → g x (wipe σ vs) H' fun σ2 H2 => wipe σ2 vs = wipe σ vs ∧ tt σ2 H2 fun b H3 =>
        if b = true then te σ2 H3 fun y H4 => ∃ acc, H4 D = some (.lst acc) ∧ acc.length < sizeLine ∧ Nx (upd H4 D (.lst (acc ++ [y]))) else Nx H3) := by
  refine ⟨fun i m H => m = n - i ∧ i ≤ n ∧ Pv i H, ⟨n, by simp, Nat.zero_le _, h0⟩, ?_⟩
  rintro i m H ⟨rfl, hi, p⟩
  by_cases hlt : i < n
  · exact .inr ⟨hg i H hlt p, Pv (i + 1), fun H' p' => ⟨n - (i + 1), by omega, rfl, hlt, p'⟩, fun x H' y => hs i H x H' hlt p y⟩
  · have e : i = n := by omega
    subst e
    exact .inl ⟨ht H p, hd H p⟩
theorem if_true_of {c : Bool} {A B : Prop} (hc : c = true) (h : A) : if c = true then A else B := by
  rw [if_pos hc]
  exact h
theorem if_false_of {c : Bool} {A B : Prop} (hc : c = false) (h : B) : if c = true then A else B := by
  rw [hc, if_neg Bool.false_ne_true]
  exact h
/-- what is known of an own exception class -/
structure ErrT (P : Program) (K : PySem.W.Frag) (mg : Str → Option Value) (C f : Addr) (x qual fl txt : Str) : Prop where
  own : PySem.QkX.OwnTxt P K C f qual fl txt
  g : mg x = some (.ref C)
  sup : mg "super" = none
  kp : PySem.W.keepIn K (.ref C) = true
  bse : PySem.W.subIn K (.ref C) (.type "BaseException") = some true
  typ : PySem.W.typeIn K (.ref C) = some (.type "type")
theorem pmk_cold {X : Cx} {C fI : Addr} {qual fl txt x : Str} {a : Expr} {ta : TA} {p pos : Pos} {k : Nat} (N : ErrT X.prog X.K X.mg C fI x qual fl txt) (hr : Room k X.A) (ha : PA X [a] ta) (hg : Gl X x := by rfl) (hdb : (x == ("__debug__" : Str)) = false := by decide)
    (he : starEach (a :: []) X.env = (false, eval a X.env) :: starEach [] X.env := by rfl) (hpl : (backTo pos (starEach [] X.env)).any (·.1) = false := by rfl) : L2N.PMk X (.Call (.Name x p) [a] [] pos) (tMkOwn C fl ta) :=
  (pmk_own5 N.own N.g N.sup N.kp (raises_own N.bse N.typ) (by have := hr.dp; omega) ha hg hdb he hpl).pmk
abbrev NoE (P : Program) (K : PySem.W.Frag) (mg : Str → Option Value) (C f : Addr) : Prop := ErrT P K mg C f "NoEntry" "NoEntry.__init__" "name" "there is no such entry"
abbrev BadE (P : Program) (K : PySem.W.Frag) (mg : Str → Option Value) (C f : Addr) : Prop := ErrT P K mg C f "BadDeed" "BadDeed.__init__" "at" "a deed does not fit"
/-- few entries -/
structure Sto.Sm (S : Sto) : Prop where
  p : S.ps.length ≤ 900
  t : S.tg.length ≤ 900
  r : S.rt.length ≤ 900
  o : S.od.length ≤ 900
def spLR (CL CN : Addr) : Sp := fun vs H Q E => ∃ (l : LA) (S : Sto) (c : Str), vs = [.ref l.p, .str c] ∧ l.At CL H S ∧
  (∀ r, S.root c = some r → Q (.str r) H) ∧ (S.root c = none → ∀ d H', Same H H' → E (.ref CN) (some d) H')
def spLK (CL CN : Addr) : Sp := fun vs H Q E => ∃ (l : LA) (S : Sto) (c : Str), vs = [.ref l.p, .str c] ∧ l.At CL H S ∧ S.Sm ∧
  ((S.root c).isSome = true → ∀ p H', Same H H' → H p = none → H' p = some (.lst ((S.on c).map V.str)) → Q (.ref p) H') ∧ (S.root c = none → ∀ d H', Same H H' → E (.ref CN) (some d) H')
def spLE (CL CN : Addr) : Sp := fun vs H Q E => ∃ (l : LA) (S : Sto) (k t : Str), vs = [.ref l.p, .str k, .str t] ∧ l.At CL H S ∧ S.Sm ∧
  (S.fits (.bg k t) = true → ∀ H', KB l.fp H H' → l.At CL H' (S.enter k t) → Q .non H') ∧ (S.fits (.bg k t) = false → ∀ d H', Same H H' → E (.ref CN) (some d) H')
def spLS (CL CN : Addr) : Sp := fun vs H Q E => ∃ (l : LA) (S : Sto) (k : Str), vs = [.ref l.p, .str k] ∧ l.At CL H S ∧ S.Ok ∧
  (∀ t, aget S.tg k = some t → ∀ H', KB l.fp H H' → l.At CL H' (S.strike k) → Q (.str t) H') ∧ (aget S.tg k = none → ∀ d H', Same H H' → E (.ref CN) (some d) H')
section
variable {P : Program} {w : World} {K : PySem.W.Frag} {mg : Str → Option Value} {base : Heap}
theorem scLR : FnScope ["self", "cell"] ["self", "cell"] (defScope sLR) := ⟨rfl, rfl, rfl, by decide +kernel, rfl, by decide +kernel, by decide +kernel⟩
theorem ok_LR {f CL CN fN : Addr} {fd : FuncData} (F : Fun K "root_of" "Ledger.root_of" sLR f fd) (T : LedT K CL) (N : NoE P K mg CN fN) : FnOk P w K mg base (L2N.CX P w) 1 f fd ["self", "cell"] (spLR CL CN) := by
  refine funN F scLR (fun vs H Q E h => ?_) (fun cdv A outer s H vs Q E hr h => ?_)
  · obtain ⟨l, S, c, rfl, _⟩ := h
    rfl
  · obtain ⟨l, S, c, rfl, A1, k1, k2⟩ := h
    have hu := hu_of hr
    refine ⟨_, pss_cons (ps_if (pt_cmpR op_in_seq (pv 1) (pe_fld (pv 0) rfl) rfl) (pss_one (ps_ret (pv 1))) pss_nil)
      (pss_cons (ps_if (pt_cmp (pc_dnotin hu (pv 1) (pe_fld (pv 0) rfl))) (pss_one (L2N.ps_raise rfl (L2N.takes_of rfl rfl rfl rfl) (pmk_cold N hr (pa_cons (pv 1) pa_nil)))) pss_nil)
      (pss_one (ps_ret (pe_dget hu (pe_fld (pv 0) rfl) (pv 1) (fun _ _ => rfl))))), ?_⟩
    refine ⟨_, rfl, _, rfl, _, CL, _, _, _, rfl, A1.ob, T.cl, T.n1, l.l1, _, _, rfl, .inl (SqL.of A1.pl), rfl, strs_flat, _, rfl, ?_⟩
    rw [strs_in]
    refine iteB (fun e => ?_) (fun e => ?_)
    · exact k1 c (Sto.root_place (of_decide_eq_true e)) |> fun z => ⟨_, rfl, z⟩
    · have hc : c ∉ keys S.ps := of_decide_eq_false e
      have er : S.root c = aget S.rt c := if_neg hc
      refine ⟨_, rfl, _, rfl, _, CL, _, _, _, rfl, A1.ob, T.cl, T.n3, l.l3, _, _, rfl, DGet.k (k := Sum.inr c) A1.rt, _, rfl, ?_⟩
      rw [kv_val, Option.isSome_map]
      cases ea : aget S.rt c with
      | none =>
        refine iteT ?_
        refine ⟨_, rfl, _, rfl, fun d hd => ?_⟩
        exact k2 (er.trans ea) d _ (KB.same (KB.refl.new hd))
      | some r =>
        refine iteF ?_
        exact ⟨_, rfl, _, CL, _, _, _, rfl, A1.ob, T.cl, T.n3, l.l3, _, rfl, _, _, rfl, (by have z := DGet.k (k := Sum.inr c) A1.rt; rw [kv_val, ea] at z; exact z), k1 r (er.trans ea)⟩
theorem scLK : FnScope ["self", "cell", "key", "target"] ["self", "cell"] (defScope sLK) := ⟨rfl, rfl, rfl, by decide +kernel, rfl, by decide +kernel, by decide +kernel⟩
theorem on_take {l : List (Str × Str)} {c : Str} {i : Nat} {p : Str × Str} (h : l[i]? = some p) : keys ((l.take (i + 1)).filter fun p => decide (p.2 = c)) = keys ((l.take i).filter fun p => decide (p.2 = c)) ++ if p.2 = c then [p.1] else [] := by
  rw [take_next h, List.filter_append, keys_app]
  congr 1
  by_cases e : p.2 = c
  · rw [if_pos e, List.filter_cons_of_pos (by simpa using e)]; rfl
  · rw [if_neg e, List.filter_cons_of_neg (by simpa using e)]; rfl
theorem ok_LK {f fR CL CN fN : Addr} {fd fdR : FuncData} (F : Fun K "keys_on" "Ledger.keys_on" sLK f fd) (T : LedT K CL) (N : NoE P K mg CN fN) (FR : Fun K "root_of" "Ledger.root_of" sLR fR fdR) (bR : Binds K fdR ["self", "cell"] []) (mR : Meth K CL "root_of" fR) :
    FnOk P w K mg base (L2N.CX P w) 2 f fd ["self", "cell"] (spLK CL CN) := by
  have GR : FnOk P w K mg base (L2N.CX P w) 1 fR fdR ["self", "cell"] (spLR CL CN) := ok_LR FR T N
  refine funN F scLK (fun vs H Q E h => ?_) (fun cdv A outer s H vs Q E hr h => ?_)
  · obtain ⟨l, S, c, rfl, _⟩ := h
    rfl
  · obtain ⟨l, S, c, rfl, A1, sm, k1, k2⟩ := h
    refine ⟨_, pss_cons (ps_expr (pe_methA (E := WE fun cls d _ H => E cls d H) (pv 0) T.cl mR GR hr bR (fun σ => L2N.passAt (L2N.takes_of rfl rfl rfl rfl) σ) (pa_cons (pv 1) pa_nil)))
      (pss_one (ps_ret (pe_lock (pe_lc (own := [("key", 2), ("target", 3)]) (g := gTup K 2 (gCons (gName 2) (gCons (gName 3) gNil))) (tt := _) rfl scLK.nd (pi_items (pe_fld (pv 0) rfl)) (blkOk_by (N := ["self", "cell", "key", "target"]) (sc := defScope sLK) (by decide +kernel))
        (fun _ _ _ _ _ => pg_tup rfl (pgs_cons (pg_name (i := 2) scLK.nd rfl (Or.inl rfl) (Or.inr rfl)) (pgs_cons (pg_name (i := 3) scLK.nd rfl (Or.inl rfl) (Or.inr rfl)) pgs_nil)))
        (fun _ _ _ _ _ => pts_one (pt_cmpR op_eq (pv 3) (pv 1) (nomark _))) (fun _ _ _ _ _ => pv 2))))), ?_⟩
    refine ⟨_, rfl, _, _, _, rfl, A1.ob, rfl, _, rfl, l, S, c, rfl, A1, fun r er => ?_, fun er d H' hs => k2 er d H' hs⟩
    have isr : (S.root c).isSome = true := by rw [er]; rfl
    refine ⟨l.dt, _, A1.tg, trivial, fun od => ?_⟩
    have npt : l.p ≠ l.dt := ne_of A1.ob A1.tg (by intro z; cases z)
    refine ⟨_, rfl, l.p, CL, _, _, _, rfl, (by rw [upd_ne npt]; exact A1.ob), T.cl, T.n2, l.l2, l.dt, od, _, rfl, upd_same, fun D hD => ?_⟩
    have nDt : D ≠ l.dt := fun z => by rw [z, upd_same] at hD; cases hD
    have hD0 : H D = none := by rw [upd_ne nDt] at hD; exact hD
    refine lc_gen (n := S.tg.length) (fun i H2 => H2 D = some (.lst ((keys ((S.tg.take i).filter fun p => decide (p.2 = c))).map V.str)) ∧ H2 l.dt = some (.frz od (.dK (kvOf V.str S.tg))) ∧ KB [l.dt] H H2)
      ⟨upd_same, by rw [upd_ne nDt.symm]; exact upd_same, (KB.refl.upd (by simp)).fresh hD0⟩ (fun i H2 hi h2 => ⟨h2.2.1, by rw [kv_len]; exact hi⟩) (fun H2 h2 => ⟨h2.2.1, by rw [kv_len]; exact Nat.le_refl _⟩) (fun i H2 x H3 hi h2 hy => ?_) (fun H2 h2 => ?_)
    · obtain ⟨X1, kk, v, e1, e2, e3, e4⟩ := hy
      subst e2 e4
      obtain ⟨h21, h22, h23⟩ := h2
      have et : S.tg[i]? = some S.tg[i] := List.getElem?_eq_getElem hi
      have e1' : (kvOf V.str S.tg)[i]? = some (Sum.inr S.tg[i].1, V.str S.tg[i].2) := by unfold kvOf; rw [List.getElem?_map, et]; rfl
      rw [e1'] at e1
      cases e1
      have nXD : D ≠ X1 := ne_of_none h21 e3
      have nXt : l.dt ≠ X1 := ne_of_none h22 e3
      refine ⟨X1, _, rfl, SqT.of upd_same, rfl, _, _, rfl, _, _, rfl, rfl, rfl, _, rfl, _, rfl, rfl, _, rfl, ?_⟩
      have kb : KB [l.dt] H (upd H2 X1 (.tup [kV (Sum.inr S.tg[i].1), .str S.tg[i].2])) := h23.new e3
      by_cases ec : S.tg[i].2 = c
      · refine if_true_of (decide_eq_true (congrArg V.str ec)) ?_
        refine ⟨_, rfl, _, by rw [upd_ne nXD]; exact h21, ?_, ?_⟩
        · rw [List.length_map]
          unfold keys
          rw [List.length_map]
          exact fits_line (Nat.le_trans (List.length_filter_le ..) (by rw [List.length_take]; have := sm.t; omega)) (m := 900)
        · refine ⟨?_, by rw [upd_ne nDt.symm, upd_ne nXt]; exact h22, kb.fresh hD0⟩
          rw [upd_same, on_take et, if_pos ec, List.map_append]
          rfl
      · refine if_false_of (decide_eq_false fun z => ec (V.str.inj z)) ?_
        refine ⟨?_, by rw [upd_ne nXt]; exact h22, kb⟩
        rw [upd_ne nXD, on_take et, if_neg ec, List.append_nil]
        exact h21
    · obtain ⟨h21, h22, h23⟩ := h2
      rw [List.take_length] at h21
      refine ⟨h22, k1 isr D _ (fun b o e => ?_) hD0 (by rw [upd_ne nDt]; exact h21)⟩
      by_cases hb : b = l.dt
      · subst hb
        rw [upd_same, ← A1.tg, e]
      · rw [upd_ne hb]
        exact h23 b o e (by simpa using hb)
theorem scLE : FnScope ["self", "key", "target"] ["self", "key", "target"] (defScope sLE) := ⟨rfl, rfl, rfl, by decide +kernel, rfl, by decide +kernel, by decide +kernel⟩
theorem ok_LE {f fR CL CN fN : Addr} {fd fdR : FuncData} (F : Fun K "enter" "Ledger.enter" sLE f fd) (T : LedT K CL) (N : NoE P K mg CN fN) (FR : Fun K "root_of" "Ledger.root_of" sLR fR fdR) (bR : Binds K fdR ["self", "cell"] []) (mR : Meth K CL "root_of" fR) :
    FnOk P w K mg base (L2N.CX P w) 2 f fd ["self", "key", "target"] (spLE CL CN) := by
  have GR : FnOk P w K mg base (L2N.CX P w) 1 fR fdR ["self", "cell"] (spLR CL CN) := ok_LR FR T N
  refine funN F scLE (fun vs H Q E h => ?_) (fun cdv A outer s H vs Q E hr h => ?_)
  · obtain ⟨l, S, k, t, rfl, _⟩ := h
    rfl
  · obtain ⟨l, S, k, t, rfl, A1, sm, k1, k2⟩ := h
    have hu := hu_of hr
    have raises : S.fits (.bg k t) = false → ∀ d, H d = none → E (.ref CN) (some d) (upd H d (.xd [("name", .str k)])) := fun e d hd => k2 e d _ (KB.same (KB.refl.new hd))
    refine ⟨_, pss_cons (ps_if (PW.pt (pw_or (pt_cmpR op_in_seq (pv 1) (pe_fld (pv 0) rfl) rfl) (pw_or1 (pt_cmp (pc_din hu (pv 1) (pe_fld (pv 0) rfl)))))) (pss_one (L2N.ps_raise rfl (L2N.takes_of rfl rfl rfl rfl) (pmk_cold N hr (pa_cons (pv 1) pa_nil)))) pss_nil)
      (pss_cons (ps_dput hu (pe_fld (pv 0) rfl) (pv 1) (pe_methA (E := WE fun cls d _ H => E cls d H) (pv 0) T.cl mR GR hr bR (fun σ => L2N.passAt (L2N.takes_of rfl rfl rfl rfl) σ) (pa_cons (pv 2) pa_nil)) rfl)
      (pss_cons (ps_dput hu (pe_fld (pv 0) rfl) (pv 1) (pv 2) rfl)
      (pss_one (ps_dput hu (pe_fld (pv 0) rfl) (pv 1) pe_bl rfl)))), ?_⟩
    refine ⟨_, rfl, _, rfl, _, CL, _, _, _, rfl, A1.ob, T.cl, T.n1, l.l1, _, _, rfl, .inl (SqL.of A1.pl), rfl, strs_flat, _, rfl, ?_⟩
    rw [strs_in]
    refine iteB (fun e => ?_) (fun e => ?_)
    · have hk := of_decide_eq_true e
      refine iteT ⟨_, rfl, _, rfl, fun d hd => raises ?_ d hd⟩
      unfold Sto.fits
      simp [hk]
    · have hk : k ∉ keys S.ps := of_decide_eq_false e
      refine ⟨_, rfl, _, rfl, _, CL, _, _, _, rfl, A1.ob, T.cl, T.n4, l.l4, _, _, rfl, DGet.k (k := Sum.inr k) A1.od, _, rfl, ?_⟩
      rw [old_val]
      refine iteB (fun e2 => ?_) (fun e2 => ?_)
      · have hk2 := of_decide_eq_true e2
        refine ⟨_, rfl, _, rfl, fun d hd => raises ?_ d hd⟩
        unfold Sto.fits
        simp [hk2]
      · have hk2 : k ∉ S.od := of_decide_eq_false e2
        refine ⟨_, rfl, _, _, _, rfl, A1.ob, rfl, _, rfl, l, S, t, rfl, A1, fun r er => ?_, fun er d H' hs => ?_⟩
        · have hf : S.fits (.bg k t) = true := by unfold Sto.fits; simp [hk, hk2, er]
          have np1 : l.p ≠ l.dr := ne_of A1.ob A1.rt (by intro z; cases z)
          have np2 : l.p ≠ l.dt := ne_of A1.ob A1.tg (by intro z; cases z)
          have np3 : l.p ≠ l.dd := ne_of A1.ob A1.od (by intro z; cases z)
          have nl1 : l.pl ≠ l.dr := ne_of A1.pl A1.rt (by intro z; cases z)
          have nl2 : l.pl ≠ l.dt := ne_of A1.pl A1.tg (by intro z; cases z)
          have nl3 : l.pl ≠ l.dd := ne_of A1.pl A1.od (by intro z; cases z)
          refine ⟨_, rfl, _, CL, _, _, _, rfl, A1.ob, T.cl, T.n3, l.l3, _, rfl, _, _, rfl, DPut.k (k := Sum.inr k) A1.rt (by rw [kv_len]; exact fits_line sm.r), ?_⟩
          refine ⟨_, rfl, _, rfl, _, CL, _, _, _, rfl, (by rw [upd_ne np1]; exact A1.ob), T.cl, T.n2, l.l2, _, rfl, _, _, rfl, DPut.k (k := Sum.inr k) (by rw [upd_ne A1.n1]; exact A1.tg) (by rw [kv_len]; exact fits_line sm.t), ?_⟩
          refine ⟨_, rfl, _, CL, _, _, _, rfl, (by rw [upd_ne np2, upd_ne np1]; exact A1.ob), T.cl, T.n4, l.l4, _, rfl, _, _, rfl, DPut.k (k := Sum.inr k) (by rw [upd_ne A1.n2.symm, upd_ne A1.n3.symm]; exact A1.od) (by rw [old_len]; exact fits_line sm.o), ?_⟩
          refine k1 hf _ (((KB.refl.upd (by simp [LA.fp])).upd (by simp [LA.fp])).upd (by simp [LA.fp])) ⟨?_, ?_, ?_, ?_, ?_, A1.n1, A1.n2, A1.n3⟩
          · rw [upd_ne np3, upd_ne np2, upd_ne np1]; exact A1.ob
          · rw [upd_ne nl3, upd_ne nl2, upd_ne nl1]; exact A1.pl
          · rw [upd_ne A1.n2, upd_same, kv_put]; rfl
          · rw [upd_ne A1.n3, upd_ne A1.n1.symm, upd_same]
            rw [show (V.str r) = V.str (S.rootD t) by rw [S.rootD_of er], kv_put]; rfl
          · rw [upd_same, old_put hk2]; rfl
        · refine k2 ?_ d H' hs
          unfold Sto.fits
          simp [er]
theorem scLS : FnScope ["self", "key"] ["self", "key"] (defScope sLS) := ⟨rfl, rfl, rfl, by decide +kernel, rfl, by decide +kernel, by decide +kernel⟩
theorem ok_LS {f CL CN fN : Addr} {fd : FuncData} (F : Fun K "strike" "Ledger.strike" sLS f fd) (T : LedT K CL) (N : NoE P K mg CN fN) : FnOk P w K mg base (L2N.CX P w) 1 f fd ["self", "key"] (spLS CL CN) := by
  refine funN F scLS (fun vs H Q E h => ?_) (fun cdv A outer s H vs Q E hr h => ?_)
  · obtain ⟨l, S, k, rfl, _⟩ := h
    rfl
  · obtain ⟨l, S, k, rfl, A1, ok, k1, k2⟩ := h
    have hu := hu_of hr
    refine ⟨_, pss_cons (ps_if (pt_cmp (pc_dnotin hu (pv 1) (pe_fld (pv 0) rfl))) (pss_one (L2N.ps_raise rfl (L2N.takes_of rfl rfl rfl rfl) (pmk_cold N hr (pa_cons (pv 1) pa_nil)))) pss_nil)
      (pss_cons (ps_ddel (pe_fld (pv 0) rfl) (pv 1))
      (pss_one (ps_ret (pe_dpop1 (pe_fld (pv 0) rfl) (pv 1) ⟨rfl, rfl, rfl, rfl⟩)))), ?_⟩
    refine ⟨_, rfl, _, rfl, _, CL, _, _, _, rfl, A1.ob, T.cl, T.n2, l.l2, _, _, rfl, DGet.k (k := Sum.inr k) A1.tg, _, rfl, ?_⟩
    rw [kv_val, Option.isSome_map]
    cases ea : aget S.tg k with
    | none =>
      refine iteT ?_
      exact ⟨_, rfl, _, rfl, fun d hd => k2 ea d _ (KB.same (KB.refl.new hd))⟩
    | some t =>
      refine iteF ?_
      have hk : k ∈ keys S.rt := by rw [← ok.same]; exact aget_key ea
      have np1 : l.p ≠ l.dr := ne_of A1.ob A1.rt (by intro z; cases z)
      have np2 : l.p ≠ l.dt := ne_of A1.ob A1.tg (by intro z; cases z)
      have nl1 : l.pl ≠ l.dr := ne_of A1.pl A1.rt (by intro z; cases z)
      have nl2 : l.pl ≠ l.dt := ne_of A1.pl A1.tg (by intro z; cases z)
      refine ⟨_, rfl, _, CL, _, _, _, rfl, A1.ob, T.cl, T.n3, l.l3, _, rfl, _, _, Sum.inr k, rfl, A1.rt, rfl, (by rw [kv_val, Option.isSome_map]; exact aget_isSome.mpr hk), ?_⟩
      have ht : upd H l.dr (.dK (dropK (kvOf V.str S.rt) (Sum.inr k))) l.dt = some (.dK (kvOf V.str S.tg)) := by rw [upd_ne A1.n1]; exact A1.tg
      refine ⟨_, rfl, _, CL, _, _, _, rfl, (by rw [upd_ne np1]; exact A1.ob), T.cl, T.n2, l.l2, _, rfl, .inl ⟨_, .inl ht⟩, _, rfl, _, Sum.inr k, V.str t, ht, rfl, (by rw [kv_val, ea]; rfl), ?_⟩
      refine k1 t ea _ ((KB.refl.upd (by simp [LA.fp])).upd (by simp [LA.fp])) ⟨?_, ?_, ?_, ?_, ?_, A1.n1, A1.n2, A1.n3⟩
      · rw [upd_ne np2, upd_ne np1]; exact A1.ob
      · rw [upd_ne nl2, upd_ne nl1]; exact A1.pl
      · rw [upd_same, kv_drop]; rfl
      · rw [upd_ne A1.n1.symm, upd_same, kv_drop]; rfl
      · rw [upd_ne A1.n2.symm, upd_ne A1.n3.symm]; exact A1.od
end
end Qk

/-! part L3 -/
set_option Elab.async false
set_option linter.all false
set_option maxRecDepth 100000
set_option maxHeartbeats 2000000
namespace Qk
open PySem PySem.Spec L2
open PyProof.Rows hiding St
/-! ### loans, whatever their way -/
structure Site where
  p : Addr
  fp : List Addr
  ads : List Addr
structure LI where
  C : Addr
  T : Type
  At : Site → Hp → T → Prop
  led : T → Sto
  ok : T → Prop
  step : T → Dd → T
  val : T → Str → V
  ins : ∀ {z H s}, At z H s → ∃ dx fs, H z.p = some (.ins C dx fs) ∧ ∀ m ∈ (["begin", "value_at", "set_at", "over", "root", "loans_on"] : List Str), fs.lookup m = none
  keep : ∀ {z H H' s F}, At z H s → KB F H H' → (∀ b ∈ z.ads, b ∉ F) → At z H' s
  sub : ∀ {z H s}, At z H s → ∀ b ∈ z.fp, b ∈ z.ads
  live : ∀ {z H s}, At z H s → ∀ b ∈ z.ads, ∃ o, H b = some o
  rd : ∀ s c, step s (.rd c) = s
  dk : ∀ {z H s}, At z H s → ∀ b ∈ z.fp, ∃ kvs, H b = some (.dK kvs)
theorem LI.same {I : LI} {z : Site} {H H' : Hp} {s : I.T} (h : I.At z H s) (k : Same H H') : I.At z H' s := I.keep h (KB.ofSame (F := []) k) (by simp)
def spBeg (I : LI) (CN : Addr) : Sp := fun vs H Q E => ∃ (z : Site) (s : I.T) (k t : Str), vs = [.ref z.p, .str k, .str t] ∧ I.At z H s ∧ I.ok s ∧
  ((I.led s).fits (.bg k t) = true → ∀ r H', KB z.fp H H' → I.At z H' (I.step s (.bg k t)) → Q r H') ∧ ((I.led s).fits (.bg k t) = false → ∀ d H', KB z.fp H H' → E (.ref CN) (some d) H')
def spVal (I : LI) (CN : Addr) : Sp := fun vs H Q E => ∃ (z : Site) (s : I.T) (c : Str), vs = [.ref z.p, .str c] ∧ I.At z H s ∧ I.ok s ∧
  ((I.led s).fits (.rd c) = true → Q (I.val s c) H) ∧ ((I.led s).fits (.rd c) = false → ∀ d H', KB z.fp H H' → E (.ref CN) (some d) H')
def spSet (I : LI) (CN : Addr) : Sp := fun vs H Q E => ∃ (z : Site) (s : I.T) (c : Str) (v : V), vs = [.ref z.p, .str c, v] ∧ I.At z H s ∧ I.ok s ∧
  ((I.led s).fits (.wr c v) = true → ∀ r H', KB z.fp H H' → I.At z H' (I.step s (.wr c v)) → Q r H') ∧ ((I.led s).fits (.wr c v) = false → ∀ d H', KB z.fp H H' → E (.ref CN) (some d) H')
def spOvr (I : LI) (CN : Addr) : Sp := fun vs H Q E => ∃ (z : Site) (s : I.T) (k : Str), vs = [.ref z.p, .str k] ∧ I.At z H s ∧ I.ok s ∧
  ((I.led s).fits (.ov k) = true → ∀ r H', KB z.fp H H' → I.At z H' (I.step s (.ov k)) → Q r H') ∧ ((I.led s).fits (.ov k) = false → ∀ d H', KB z.fp H H' → E (.ref CN) (some d) H')
/-! ### dict(places) -/
theorem merge_new : ∀ {more kvs : List (Key × V)}, (kvs.map (·.1) ++ more.map (·.1)).Nodup → mergeK kvs more = kvs ++ more
  | [], kvs, _ => by simp [mergeK]
  | p :: r, kvs, h => by
    have nn : valV kvs p.1 = none := by
      cases e : valV kvs p.1 with
      | none => rfl
      | some v =>
        have hm : p.1 ∈ kvs.map (·.1) := valV_in e
        rw [List.nodup_append] at h
        exact absurd rfl (h.2.2 p.1 hm p.1 (by simp))
    show mergeK (putK kvs p.1 p.2) r = _
    rw [putK_new _ nn, merge_new (kvs := kvs ++ [(p.1, p.2)]) (by simpa [List.append_assoc] using h)]
    simp
theorem merge_kv {ps : List (Str × V)} (h : (keys ps).Nodup) : mergeK [] (kvOf id ps) = kvOf id ps := by
  rw [merge_new]
  · rfl
  · rw [kv_keys]
    exact List.Pairwise.map Sum.inr (fun a b z e => z (Sum.inr.inj e)) h
/-! ### AddressLoans -/
abbrev sAI : Stmt := inClass (top 9) 0
abbrev sAB : Stmt := inClass (top 9) 1
abbrev sAV : Stmt := inClass (top 9) 2
abbrev sAS : Stmt := inClass (top 9) 3
abbrev sAO : Stmt := inClass (top 9) 4
abbrev sAR : Stmt := inClass (top 9) 5
abbrev sAL : Stmt := inClass (top 9) 6
structure AA where
  p : Addr
  dx : Addr
  l : LA
  dv : Addr
def AA.fs (a : AA) : List (Str × V) := [("_ledger", .ref a.l.p), ("_values", .ref a.dv)]
def AA.fp (a : AA) : List Addr := a.dv :: a.l.fp
def AA.ads (a : AA) : List Addr := [a.p, a.l.p, a.l.pl, a.dv, a.l.dt, a.l.dr, a.l.dd]
structure AA.At (CA CL : Addr) (a : AA) (H : Hp) (S : Sto) : Prop where
  ob : H a.p = some (.ins CA a.dx a.fs)
  le : a.l.At CL H S
  va : H a.dv = some (.dK (kvOf id S.ps))
  n1 : a.dv ≠ a.l.dt
  n2 : a.dv ≠ a.l.dr
  n3 : a.dv ≠ a.l.dd
theorem AA.l1 (a : AA) : a.fs.lookup ("_ledger" : Str) = some (.ref a.l.p) := rfl
theorem AA.l2 (a : AA) : a.fs.lookup ("_values" : Str) = some (.ref a.dv) := rfl
def AddrI (CA CL : Addr) : LI where
  C := CA
  T := Sto
  At := fun z H S => ∃ a : AA, z = ⟨a.p, a.fp, a.ads⟩ ∧ a.At CA CL H S
  led := id
  ok := fun S => S.Ok ∧ S.Sm
  step := Sto.step
  val := Sto.val
  ins := by
    rintro z H S ⟨a, rfl, A⟩
    refine ⟨a.dx, a.fs, A.ob, ?_⟩
    intro m hm
    simp only [List.mem_cons, List.not_mem_nil, or_false] at hm
    rcases hm with rfl | rfl | rfl | rfl | rfl | rfl <;> rfl
  keep := by
    rintro z H H' S F ⟨a, rfl, A⟩ k h
    refine ⟨a, rfl, k _ _ A.ob (h _ (by simp [AA.ads])), A.le.keep k (h _ (by simp [AA.ads])) (h _ (by simp [AA.ads])) (h _ (by simp [AA.ads])) (h _ (by simp [AA.ads])) (h _ (by simp [AA.ads])), k _ _ A.va (h _ (by simp [AA.ads])), A.n1, A.n2, A.n3⟩
  sub := by
    rintro z H S ⟨a, rfl, A⟩ b hb
    simp only [AA.fp, LA.fp, List.mem_cons, List.not_mem_nil, or_false] at hb
    rcases hb with rfl | rfl | rfl | rfl <;> simp [AA.ads]
  live := by
    rintro z H S ⟨a, rfl, A⟩ b hb
    simp only [AA.ads, List.mem_cons, List.not_mem_nil, or_false] at hb
    rcases hb with rfl | rfl | rfl | rfl | rfl | rfl | rfl
    · exact ⟨_, A.ob⟩
    · exact ⟨_, A.le.ob⟩
    · exact ⟨_, A.le.pl⟩
    · exact ⟨_, A.va⟩
    · exact ⟨_, A.le.tg⟩
    · exact ⟨_, A.le.rt⟩
    · exact ⟨_, A.le.od⟩
  rd := fun _ _ => rfl
  dk := by
    rintro z H S ⟨a, rfl, A⟩ b hb
    simp only [AA.fp, LA.fp, List.mem_cons, List.not_mem_nil, or_false] at hb
    rcases hb with rfl | rfl | rfl | rfl
    · exact ⟨_, A.va⟩
    · exact ⟨_, A.le.tg⟩
    · exact ⟨_, A.le.rt⟩
    · exact ⟨_, A.le.od⟩
/-- an own class made over places -/
def spNew (K : PySem.W.Frag) (I : LI) (s0 : List (Str × V) → I.T) : Sp := fun vs H Q _ => ∃ (p dx a : Addr) (ps : List (Str × V)), vs = [.ref p, .ref a] ∧ H p = some (.ins I.C dx []) ∧ PlcAt K H a ps ∧ (keys ps).Nodup ∧ ps.length ≤ 900 ∧
  ∀ (z : Site) (H' : Hp), z.p = p → I.At z H' (s0 ps) → KB [p] H H' → (∀ b ∈ z.ads, b = p ∨ H b = none) → Q .non H'
structure AdrT (K : PySem.W.Frag) (mg : Str → Option Value) (CA CL : Addr) : Prop where
  cl : Cls K CA
  n1 : NoAttr K CA "_ledger"
  n2 : NoAttr K CA "_values"
  gL : mg "Ledger" = some (.ref CL)
  gD : mg "dict" = none
theorem paired_kv {K : PySem.W.Frag} {H : Hp} : ∀ {rs : List Addr} {ps : List (Str × V)}, Paired (fun r p => SqT K H r [.str p.1, p.2]) rs ps → Paired (fun p kv => SqT K H p [kV kv.1, kv.2]) rs (kvOf id ps)
  | _, _, .nil => .nil
  | _, _, .cons r t => .cons r (paired_kv t)
section
variable {P : Program} {w : World} {K : PySem.W.Frag} {mg : Str → Option Value} {base : Heap}
theorem scAI : FnScope ["self", "places"] ["self", "places"] (defScope sAI) := ⟨rfl, rfl, rfl, by decide +kernel, rfl, by decide +kernel, by decide +kernel⟩
theorem ok_AI {f fLI CA CL : Addr} {fd fdLI : FuncData} (F : Fun K "__init__" "AddressLoans.__init__" sAI f fd) (T : AdrT K mg CA CL) (TL : LedT K CL) (FL : Fun K "__init__" "Ledger.__init__" sLI fLI fdLI) (bL : Binds K fdLI ["self", "places"] []) (ML : Mk K CL fLI) :
    FnOk P w K mg base CX0 3 f fd ["self", "places"] (spNew K (AddrI CA CL) Sto.init) := by
  have GL : FnOk P w K mg base CX0 1 fLI fdLI ["self", "places"] (spLI K CL) := ok_LI FL TL
  refine F.ok scAI (fun vs H Q E h => ?_) (fun cdv A outer s H vs Q E hr h => ?_)
  · obtain ⟨p, dx, a, ps, rfl, _⟩ := h
    rfl
  · obtain ⟨p, dx, a, ps, rfl, hp, hpl, hnd, hlen, k⟩ := h
    refine ⟨_, pss_cons (ps_fld (pv 0) (pe_make ML GL hr rfl T.gL bL .nil pass0 (pa_cons (pv 1) pa_nil)) rfl)
      (pss_one (ps_fld (pv 0) (pe_callTy (call_dictP rfl) (by rfl) T.gD (by decide +kernel) (pa_cons (pv 1) pa_nil)) rfl)), ?_⟩
    refine ⟨_, rfl, fun x dxx nx ndx nex => ?_⟩
    have s0 : Same H (upd (upd H dxx (.own x)) x (.ins CL dxx [])) := fun b o e => by
      rw [upd_ne (ne_of_none e nx), upd_ne (ne_of_none e ndx)]
      exact e
    refine ⟨x, dxx, a, ps, rfl, upd_same, hpl.keep s0, by omega, fun l H1 el ed A1 k1 f1 f2 f3 f4 => ⟨rfl, ?_⟩⟩
    subst el
    have s1 : Same H H1 := fun b o e => k1 b o (s0 b o e) (by simpa using ne_of_none e nx)
    have fr : ∀ {b : Addr}, upd (upd H dxx (.own l.p)) l.p (.ins CL dxx []) b = none → H b = none := fun {b} e => by
      cases q : H b with
      | none => rfl
      | some o => rw [s0 _ _ q] at e; cases e
    have npl : p ≠ l.p := ne_of_none hp nx
    have n1 : p ≠ l.pl := ne_of_none hp (fr f1)
    have n2 : p ≠ l.dt := ne_of_none hp (fr f2)
    have n3 : p ≠ l.dr := ne_of_none hp (fr f3)
    have n4 : p ≠ l.dd := ne_of_none hp (fr f4)
    refine ⟨_, rfl, p, CA, dx, _, rfl, s1 _ _ hp, T.cl, T.n1, (by show 0 < 1000; decide), ?_⟩
    have k2 : KB [p] H (upd H1 p (.ins CA dx (putF "_ledger" (.ref l.p) []))) := (KB.ofSame s1).upd (by simp)
    obtain ⟨rs, hL, hP⟩ := hpl
    have anp : ∀ {b : Addr} {xs : List V}, H b = some (.lst xs) → b ∉ [p] := fun {b xs} e z => by
      have z' : b = p := by simpa using z
      rw [z', hp] at e; cases e
    have hL2 : SqL K (upd H1 p (.ins CA dx (putF "_ledger" (.ref l.p) []))) a (rs.map V.ref) := by
      rcases hL with (hL | ⟨o, hL⟩) | hL
      · exact .inl (.inl (k2 _ _ hL (fun z => by have z' : a = p := by simpa using z
                                                 rw [z', hp] at hL; cases hL)))
      · exact .inl (.inr ⟨o, k2 _ _ hL (fun z => by have z' : a = p := by simpa using z
                                                    rw [z', hp] at hL; cases hL)⟩)
      · exact .inr hL
    have hP2 : Paired (fun r p0 => SqT K (upd H1 p (.ins CA dx (putF "_ledger" (.ref l.p) []))) r [.str p0.1, p0.2]) rs ps := Paired.mapP hP fun r p0 hT => by
      rcases hT with (hT | ⟨o, hT⟩) | hT
      · exact .inl (.inl (k2 _ _ hT (fun z => by have z' : r = p := by simpa using z
                                                 rw [z', hp] at hT; cases hT)))
      · exact .inl (.inr ⟨o, k2 _ _ hT (fun z => by have z' : r = p := by simpa using z
                                                    rw [z', hp] at hT; cases hT)⟩)
      · exact .inr hT
    refine ⟨_, rfl, a, rs, kvOf id ps, rfl, hL2, paired_kv hP2, fun dv edv => ?_⟩
    have npv : p ≠ dv := fun z => by rw [← z, upd_same] at edv; cases edv
    rw [upd_ne npv.symm] at edv
    have fv : H dv = none := by
      cases q : H dv with
      | none => rfl
      | some o => rw [s1 _ _ q] at edv; cases edv
    refine ⟨_, rfl, p, CA, dx, _, rfl, (by rw [upd_ne npv]; exact upd_same), T.cl, T.n2, (by show 1 < 1000; decide), ?_⟩
    have A2 : l.At CL (upd (upd (upd H1 p (.ins CA dx (putF "_ledger" (.ref l.p) []))) dv (.dK (mergeK [] (kvOf id ps)))) p (.ins CA dx (putF "_values" (.ref dv) (putF "_ledger" (.ref l.p) [])))) (Sto.init ps) :=
      A1.keep (F := [p]) (((KB.refl.upd (by simp)).new (by rw [upd_ne npv.symm]; exact edv)).upd (by simp)) (by simpa using npl.symm) (by simpa using n1.symm) (by simpa using n2.symm) (by simpa using n3.symm) (by simpa using n4.symm)
    refine k ⟨p, AA.fp ⟨p, dx, l, dv⟩, AA.ads ⟨p, dx, l, dv⟩⟩ _ rfl ⟨⟨p, dx, l, dv⟩, rfl, upd_same, A2, ?_, fun z => ?_, fun z => ?_, fun z => ?_⟩ ((k2.new (by rw [upd_ne npv.symm]; exact edv)).upd (by simp)) ?_
    · rw [upd_ne npv.symm, upd_same, merge_kv hnd]; rfl
    · have q := A1.tg
      rw [← z, edv] at q; cases q
    · have q := A1.rt
      rw [← z, edv] at q; cases q
    · have q := A1.od
      rw [← z, edv] at q; cases q
    · intro b hb
      simp only [AA.ads, List.mem_cons, List.not_mem_nil, or_false] at hb
      rcases hb with rfl | rfl | rfl | rfl | rfl | rfl | rfl
      · exact .inl rfl
      · exact .inr nx
      · exact .inr (fr f1)
      · exact .inr fv
      · exact .inr (fr f2)
      · exact .inr (fr f3)
      · exact .inr (fr f4)
end
end Qk

/-! part L4 -/
set_option Elab.async false
set_option linter.all false
set_option maxRecDepth 100000
set_option maxHeartbeats 2000000
namespace Qk
open PySem PySem.Spec L2
open PyProof.Rows hiding St
def spRt (I : LI) (CN : Addr) : Sp := fun vs H Q E => ∃ (z : Site) (s : I.T) (c : Str), vs = [.ref z.p, .str c] ∧ I.At z H s ∧ I.ok s ∧
  (∀ r, (I.led s).root c = some r → Q (.str r) H) ∧ ((I.led s).root c = none → ∀ d H', Same H H' → E (.ref CN) (some d) H')
def spOn (I : LI) (CN : Addr) : Sp := fun vs H Q E => ∃ (z : Site) (s : I.T) (c : Str), vs = [.ref z.p, .str c] ∧ I.At z H s ∧ I.ok s ∧
  (((I.led s).root c).isSome = true → ∀ p H', Same H H' → H p = none → H' p = some (.lst (((I.led s).on c).map V.str)) → Q (.ref p) H') ∧ ((I.led s).root c = none → ∀ d H', Same H H' → E (.ref CN) (some d) H')
/-- the ledger's methods, where they stand -/
structure LedM (K : PySem.W.Frag) (CL : Addr) (fE fS fR fO : Addr) (dE dS dR dO : FuncData) : Prop where
  FE : Fun K "enter" "Ledger.enter" sLE fE dE
  FS : Fun K "strike" "Ledger.strike" sLS fS dS
  FR : Fun K "root_of" "Ledger.root_of" sLR fR dR
  FO : Fun K "keys_on" "Ledger.keys_on" sLK fO dO
  bE : Binds K dE ["self", "key", "target"] []
  bS : Binds K dS ["self", "key"] []
  bR : Binds K dR ["self", "cell"] []
  bO : Binds K dO ["self", "cell"] []
  mE : Meth K CL "enter" fE
  mS : Meth K CL "strike" fS
  mR : Meth K CL "root_of" fR
  mO : Meth K CL "keys_on" fO
section
variable {P : Program} {w : World} {K : PySem.W.Frag} {mg : Str → Option Value} {base : Heap} {CA CL CN fN fE fS fR fO f : Addr} {dE dS dR dO fd : FuncData}
theorem AA.le_keep {a : AA} {H H' : Hp} {S : Sto} (A : a.At CA CL H S) (k : KB a.l.fp H H') (h : a.l.At CL H' S) : a.At CA CL H' S :=
  ⟨k _ _ A.ob (by
      have e1 : a.p ≠ a.l.dt := ne_of A.ob A.le.tg (by intro z; cases z)
      have e2 : a.p ≠ a.l.dr := ne_of A.ob A.le.rt (by intro z; cases z)
      have e3 : a.p ≠ a.l.dd := ne_of A.ob A.le.od (by intro z; cases z)
      simp [LA.fp, e1, e2, e3]), h, k _ _ A.va (by simp [LA.fp, A.n1, A.n2, A.n3]), A.n1, A.n2, A.n3⟩
theorem AA.led {a : AA} {H H' : Hp} {S S' : Sto} (A : a.At CA CL H S) (k : KB a.l.fp H H') (h : a.l.At CL H' S') (hp : S'.ps = S.ps) : a.At CA CL H' S' :=
  ⟨k _ _ A.ob (by
      have e1 : a.p ≠ a.l.dt := ne_of A.ob A.le.tg (by intro z; cases z)
      have e2 : a.p ≠ a.l.dr := ne_of A.ob A.le.rt (by intro z; cases z)
      have e3 : a.p ≠ a.l.dd := ne_of A.ob A.le.od (by intro z; cases z)
      simp [LA.fp, e1, e2, e3]), h, by rw [hp]; exact k _ _ A.va (by simp [LA.fp, A.n1, A.n2, A.n3]), A.n1, A.n2, A.n3⟩
theorem AA.fpl {a : AA} : ∀ b ∈ a.l.fp, b ∈ a.fp := fun b hb => List.mem_cons_of_mem _ hb
theorem scAB : FnScope ["self", "key", "target"] ["self", "key", "target"] (defScope sAB) := ⟨rfl, rfl, rfl, by decide +kernel, rfl, by decide +kernel, by decide +kernel⟩
theorem ok_AB (F : Fun K "begin" "AddressLoans.begin" sAB f fd) (T : AdrT K mg CA CL) (TL : LedT K CL) (N : NoE P K mg CN fN) (L : LedM K CL fE fS fR fO dE dS dR dO) : FnOk P w K mg base (L2N.CX P w) 3 f fd ["self", "key", "target"] (spBeg (AddrI CA CL) CN) := by
  have GE : FnOk P w K mg base (L2N.CX P w) 2 fE dE ["self", "key", "target"] (spLE CL CN) := ok_LE L.FE TL N L.FR L.bR L.mR
  refine funN F scAB (fun vs H Q E h => ?_) (fun cdv A outer s H vs Q E hr h => ?_)
  · obtain ⟨z, S, k, t, rfl, _⟩ := h
    rfl
  · obtain ⟨_, S, k, t, rfl, ⟨a, rfl, A1⟩, ⟨ok, sm⟩, k1, k2⟩ := h
    refine ⟨_, pss_one (ps_expr (pe_methA (E := WE fun cls d _ H => E cls d H) (pe_fld (pv 0) rfl) TL.cl L.mE GE hr L.bE (fun σ => L2N.passAt (L2N.takes_of rfl rfl rfl rfl) σ) (pa_cons (pv 1) (pa_cons (pv 2) pa_nil)))), ?_⟩
    refine ⟨_, rfl, a.p, CA, _, _, _, rfl, A1.ob, T.cl, T.n1, a.l1, a.l.p, _, _, rfl, A1.le.ob, rfl, _, rfl, _, rfl, a.l, S, k, t, rfl, A1.le, sm, fun hf H' kb Al => ?_, fun hf d H' hs => ?_⟩
    · exact k1 hf .non H' (kb.mono AA.fpl) ⟨a, rfl, AA.led A1 kb Al rfl⟩
    · exact k2 hf d H' (KB.ofSame hs)
theorem scAV : FnScope ["self", "cell"] ["self", "cell"] (defScope sAV) := ⟨rfl, rfl, rfl, by decide +kernel, rfl, by decide +kernel, by decide +kernel⟩
theorem val_root_eq {S : Sto} {c r : Str} (h : S.root c = some r) : S.val c = (aget S.ps r).getD .non := by unfold Sto.val; rw [S.rootD_of h]
theorem ok_AV (F : Fun K "value_at" "AddressLoans.value_at" sAV f fd) (T : AdrT K mg CA CL) (TL : LedT K CL) (N : NoE P K mg CN fN) (L : LedM K CL fE fS fR fO dE dS dR dO) : FnOk P w K mg base (L2N.CX P w) 2 f fd ["self", "cell"] (spVal (AddrI CA CL) CN) := by
  have GR : FnOk P w K mg base (L2N.CX P w) 1 fR dR ["self", "cell"] (spLR CL CN) := ok_LR L.FR TL N
  refine funN F scAV (fun vs H Q E h => ?_) (fun cdv A outer s H vs Q E hr h => ?_)
  · obtain ⟨z, S, c, rfl, _⟩ := h
    rfl
  · obtain ⟨_, S, c, rfl, ⟨a, rfl, A1⟩, ⟨ok, sm⟩, k1, k2⟩ := h
    have hu := hu_of hr
    refine ⟨_, pss_one (ps_ret (pe_dget hu (pe_fld (pv 0) rfl) (pe_methA (E := WE fun cls d _ H => E cls d H) (pe_fld (pv 0) rfl) TL.cl L.mR GR hr L.bR (fun σ => L2N.passAt (L2N.takes_of rfl rfl rfl rfl) σ) (pa_cons (pv 1) pa_nil)) (fun _ _ => rfl))), ?_⟩
    refine ⟨_, rfl, a.p, CA, _, _, _, rfl, A1.ob, T.cl, T.n2, a.l2, _, rfl, a.p, CA, _, _, _, rfl, A1.ob, T.cl, T.n1, a.l1, a.l.p, _, _, rfl, A1.le.ob, rfl, _, rfl, a.l, S, c, rfl, A1.le, fun r er => ?_, fun er d H' hs => ?_⟩
    · obtain ⟨v, ev⟩ := aget_of_mem (Sto.root_in ok er)
      refine ⟨a.dv, v, rfl, (by have z := DGet.k (k := Sum.inr r) A1.va; rw [kv_val, ev] at z; exact z), ?_⟩
      have q := k1 (by show (S.root c).isSome = true; rw [er]; rfl)
      have e : S.val c = v := by rw [val_root_eq er, ev]; rfl
      rw [← e]
      exact q
    · exact k2 (by show (S.root c).isSome = false; rw [er]; rfl) d H' (KB.ofSame hs)
theorem scAS : FnScope ["self", "cell", "value", "place"] ["self", "cell", "value"] (defScope sAS) := ⟨rfl, rfl, rfl, by decide +kernel, rfl, by decide +kernel, by decide +kernel⟩
theorem kv_putId {l : List (Str × V)} {x : Str} {y : V} : putK (kvOf id l) (Sum.inr x) y = kvOf id (aput l x y) := kv_put (f := id)
theorem AA.put {a : AA} {H : Hp} {S : Sto} {r : Str} {v : V} {kvs : List (Key × V)} (A : a.At CA CL H S) (hk : r ∈ keys S.ps) (he : kvs = kvOf id (aput S.ps r v)) : a.At CA CL (upd H a.dv (.dK kvs)) { S with ps := aput S.ps r v } := by
  have e1 : a.p ≠ a.dv := ne_of A.ob A.va (by intro z; cases z)
  have e2 : a.l.p ≠ a.dv := ne_of A.le.ob A.va (by intro z; cases z)
  have e3 : a.l.pl ≠ a.dv := ne_of A.le.pl A.va (by intro z; cases z)
  refine ⟨by rw [upd_ne e1]; exact A.ob, ⟨by rw [upd_ne e2]; exact A.le.ob, ?_, by rw [upd_ne A.n1.symm]; exact A.le.tg, by rw [upd_ne A.n2.symm]; exact A.le.rt, by rw [upd_ne A.n3.symm]; exact A.le.od, A.le.n1, A.le.n2, A.le.n3⟩, by rw [upd_same, he], A.n1, A.n2, A.n3⟩
  show upd H a.dv (.dK kvs) a.l.pl = some (.lst ((keys (aput S.ps r v)).map V.str))
  rw [upd_ne e3, keys_put_old hk]
  exact A.le.pl
theorem ok_AS (F : Fun K "set_at" "AddressLoans.set_at" sAS f fd) (T : AdrT K mg CA CL) (TL : LedT K CL) (N : NoE P K mg CN fN) (L : LedM K CL fE fS fR fO dE dS dR dO) : FnOk P w K mg base (L2N.CX P w) 2 f fd ["self", "cell", "value"] (spSet (AddrI CA CL) CN) := by
  have GR : FnOk P w K mg base (L2N.CX P w) 1 fR dR ["self", "cell"] (spLR CL CN) := ok_LR L.FR TL N
  refine funN F scAS (fun vs H Q E h => ?_) (fun cdv A outer s H vs Q E hr h => ?_)
  · obtain ⟨z, S, c, v, rfl, _⟩ := h
    rfl
  · obtain ⟨_, S, c, v, rfl, ⟨a, rfl, A1⟩, ⟨ok, sm⟩, k1, k2⟩ := h
    have hu := hu_of hr
    refine ⟨_, pss_cons (ps_set (i := 3) scAS.nd rfl (.inl rfl) (pe_methA (E := WE fun cls d _ H => E cls d H) (pe_fld (pv 0) rfl) TL.cl L.mR GR hr L.bR (fun σ => L2N.passAt (L2N.takes_of rfl rfl rfl rfl) σ) (pa_cons (pv 1) pa_nil)))
      (pss_cons (ps_dput hu (pe_fld (pv 0) rfl) (pv 3) (pv 2) rfl) (pss_one (ps_ret (pv 3)))), ?_⟩
    refine ⟨_, rfl, a.p, CA, _, _, _, rfl, A1.ob, T.cl, T.n1, a.l1, a.l.p, _, _, rfl, A1.le.ob, rfl, _, rfl, a.l, S, c, rfl, A1.le, fun r er => ?_, fun er d H' hs => ?_⟩
    · have hk := Sto.root_in ok er
      refine ⟨_, rfl, _, rfl, a.p, CA, _, _, _, rfl, A1.ob, T.cl, T.n2, a.l2, _, rfl, a.dv, _, rfl, DPut.k (k := Sum.inr r) A1.va (by rw [kv_len]; exact fits_line sm.p), _, rfl, ?_⟩
      refine k1 (by show (S.root c).isSome = true; rw [er]; rfl) _ _ (KB.refl.upd (by simp [AA.fp])) ⟨a, rfl, ?_⟩
      have e : (AddrI CA CL).step S (.wr c v) = { S with ps := aput S.ps r v } := by
        show ({ S with ps := aput S.ps (S.rootD c) v } : Sto) = _
        rw [S.rootD_of er]
      rw [e]
      exact AA.put A1 hk kv_putId
    · exact k2 (by show (S.root c).isSome = false; rw [er]; rfl) d H' (KB.ofSame hs)
theorem scAO : FnScope ["self", "key"] ["self", "key"] (defScope sAO) := ⟨rfl, rfl, rfl, by decide +kernel, rfl, by decide +kernel, by decide +kernel⟩
theorem ok_AO (F : Fun K "over" "AddressLoans.over" sAO f fd) (T : AdrT K mg CA CL) (TL : LedT K CL) (N : NoE P K mg CN fN) (L : LedM K CL fE fS fR fO dE dS dR dO) : FnOk P w K mg base (L2N.CX P w) 2 f fd ["self", "key"] (spOvr (AddrI CA CL) CN) := by
  have GS : FnOk P w K mg base (L2N.CX P w) 1 fS dS ["self", "key"] (spLS CL CN) := ok_LS L.FS TL N
  refine funN F scAO (fun vs H Q E h => ?_) (fun cdv A outer s H vs Q E hr h => ?_)
  · obtain ⟨z, S, k, rfl, _⟩ := h
    rfl
  · obtain ⟨_, S, k, rfl, ⟨a, rfl, A1⟩, ⟨ok, sm⟩, k1, k2⟩ := h
    refine ⟨_, pss_one (ps_expr (pe_methA (E := WE fun cls d _ H => E cls d H) (pe_fld (pv 0) rfl) TL.cl L.mS GS hr L.bS (fun σ => L2N.passAt (L2N.takes_of rfl rfl rfl rfl) σ) (pa_cons (pv 1) pa_nil))), ?_⟩
    refine ⟨_, rfl, a.p, CA, _, _, _, rfl, A1.ob, T.cl, T.n1, a.l1, a.l.p, _, _, rfl, A1.le.ob, rfl, _, rfl, a.l, S, k, rfl, A1.le, ok, fun t et H' kb Al => ?_, fun et d H' hs => ?_⟩
    · exact k1 (decide_eq_true (aget_key et)) .non H' (kb.mono AA.fpl) ⟨a, rfl, AA.led A1 kb Al rfl⟩
    · exact k2 (decide_eq_false (aget_none_iff.mp et)) d H' (KB.ofSame hs)
theorem scAR : FnScope ["self", "cell"] ["self", "cell"] (defScope sAR) := ⟨rfl, rfl, rfl, by decide +kernel, rfl, by decide +kernel, by decide +kernel⟩
theorem ok_AR (F : Fun K "root" "AddressLoans.root" sAR f fd) (T : AdrT K mg CA CL) (TL : LedT K CL) (N : NoE P K mg CN fN) (L : LedM K CL fE fS fR fO dE dS dR dO) : FnOk P w K mg base (L2N.CX P w) 2 f fd ["self", "cell"] (spRt (AddrI CA CL) CN) := by
  have GR : FnOk P w K mg base (L2N.CX P w) 1 fR dR ["self", "cell"] (spLR CL CN) := ok_LR L.FR TL N
  refine funN F scAR (fun vs H Q E h => ?_) (fun cdv A outer s H vs Q E hr h => ?_)
  · obtain ⟨z, S, c, rfl, _⟩ := h
    rfl
  · obtain ⟨_, S, c, rfl, ⟨a, rfl, A1⟩, ⟨ok, sm⟩, k1, k2⟩ := h
    refine ⟨_, pss_one (ps_ret (pe_methA (E := WE fun cls d _ H => E cls d H) (pe_fld (pv 0) rfl) TL.cl L.mR GR hr L.bR (fun σ => L2N.passAt (L2N.takes_of rfl rfl rfl rfl) σ) (pa_cons (pv 1) pa_nil))), ?_⟩
    exact ⟨_, rfl, a.p, CA, _, _, _, rfl, A1.ob, T.cl, T.n1, a.l1, a.l.p, _, _, rfl, A1.le.ob, rfl, _, rfl, a.l, S, c, rfl, A1.le, k1, k2⟩
theorem scAL : FnScope ["self", "cell"] ["self", "cell"] (defScope sAL) := ⟨rfl, rfl, rfl, by decide +kernel, rfl, by decide +kernel, by decide +kernel⟩
theorem ok_AL (F : Fun K "loans_on" "AddressLoans.loans_on" sAL f fd) (T : AdrT K mg CA CL) (TL : LedT K CL) (N : NoE P K mg CN fN) (L : LedM K CL fE fS fR fO dE dS dR dO) : FnOk P w K mg base (L2N.CX P w) 3 f fd ["self", "cell"] (spOn (AddrI CA CL) CN) := by
  have GO : FnOk P w K mg base (L2N.CX P w) 2 fO dO ["self", "cell"] (spLK CL CN) := ok_LK L.FO TL N L.FR L.bR L.mR
  refine funN F scAL (fun vs H Q E h => ?_) (fun cdv A outer s H vs Q E hr h => ?_)
  · obtain ⟨z, S, c, rfl, _⟩ := h
    rfl
  · obtain ⟨_, S, c, rfl, ⟨a, rfl, A1⟩, ⟨ok, sm⟩, k1, k2⟩ := h
    refine ⟨_, pss_one (ps_ret (pe_methA (E := WE fun cls d _ H => E cls d H) (pe_fld (pv 0) rfl) TL.cl L.mO GO hr L.bO (fun σ => L2N.passAt (L2N.takes_of rfl rfl rfl rfl) σ) (pa_cons (pv 1) pa_nil))), ?_⟩
    exact ⟨_, rfl, a.p, CA, _, _, _, rfl, A1.ob, T.cl, T.n1, a.l1, a.l.p, _, _, rfl, A1.le.ob, rfl, _, rfl, a.l, S, c, rfl, A1.le, sm, k1, k2⟩
end
end Qk

/-! part L5 -/
set_option Elab.async false
set_option linter.all false
set_option maxRecDepth 100000
set_option maxHeartbeats 2000000
namespace Qk
open PySem PySem.Spec L2
open PyProof.Rows hiding St
/-! ### CopyLoans -/
abbrev sCI : Stmt := inClass (top 10) 0
abbrev sCB : Stmt := inClass (top 10) 1
abbrev sCV : Stmt := inClass (top 10) 2
abbrev sCS : Stmt := inClass (top 10) 3
abbrev sCO : Stmt := inClass (top 10) 4
structure CA where
  p : Addr
  dx : Addr
  l : LA
  dv : Addr
  dc : Addr
def CA.fs (a : CA) : List (Str × V) := [("_ledger", .ref a.l.p), ("_values", .ref a.dv), ("_copies", .ref a.dc)]
def CA.fp (a : CA) : List Addr := a.dv :: a.dc :: a.l.fp
def CA.ads (a : CA) : List Addr := [a.p, a.l.p, a.l.pl, a.dv, a.dc, a.l.dt, a.l.dr, a.l.dd]
structure CA.At (CC CL : Addr) (a : CA) (H : Hp) (C : Cto) : Prop where
  ob : H a.p = some (.ins CC a.dx a.fs)
  le : a.l.At CL H C.st
  va : H a.dv = some (.dK (kvOf id C.st.ps))
  co : H a.dc = some (.dK (kvOf id C.cp))
  n1 : a.dv ≠ a.l.dt
  n2 : a.dv ≠ a.l.dr
  n3 : a.dv ≠ a.l.dd
  m1 : a.dc ≠ a.l.dt
  m2 : a.dc ≠ a.l.dr
  m3 : a.dc ≠ a.l.dd
  vc : a.dv ≠ a.dc
theorem CA.l1 (a : CA) : a.fs.lookup ("_ledger" : Str) = some (.ref a.l.p) := rfl
theorem CA.l2 (a : CA) : a.fs.lookup ("_values" : Str) = some (.ref a.dv) := rfl
theorem CA.l3 (a : CA) : a.fs.lookup ("_copies" : Str) = some (.ref a.dc) := rfl
def CopyI (CC CL : Addr) : LI where
  C := CC
  T := Cto
  At := fun z H C => ∃ a : CA, z = ⟨a.p, a.fp, a.ads⟩ ∧ a.At CC CL H C
  led := Cto.st
  ok := fun C => C.st.Ok ∧ C.st.Sm ∧ keys C.cp = keys C.st.tg
  step := Cto.step
  val := Cto.val
  ins := by
    rintro z H S ⟨a, rfl, A⟩
    refine ⟨a.dx, a.fs, A.ob, ?_⟩
    intro m hm
    simp only [List.mem_cons, List.not_mem_nil, or_false] at hm
    rcases hm with rfl | rfl | rfl | rfl | rfl | rfl <;> rfl
  keep := by
    rintro z H H' S F ⟨a, rfl, A⟩ k h
    refine ⟨a, rfl, k _ _ A.ob (h _ (by simp [CA.ads])), A.le.keep k (h _ (by simp [CA.ads])) (h _ (by simp [CA.ads])) (h _ (by simp [CA.ads])) (h _ (by simp [CA.ads])) (h _ (by simp [CA.ads])), k _ _ A.va (h _ (by simp [CA.ads])), k _ _ A.co (h _ (by simp [CA.ads])), A.n1, A.n2, A.n3, A.m1, A.m2, A.m3, A.vc⟩
  sub := by
    rintro z H S ⟨a, rfl, A⟩ b hb
    simp only [CA.fp, LA.fp, List.mem_cons, List.not_mem_nil, or_false] at hb
    rcases hb with rfl | rfl | rfl | rfl | rfl <;> simp [CA.ads]
  live := by
    rintro z H S ⟨a, rfl, A⟩ b hb
    simp only [CA.ads, List.mem_cons, List.not_mem_nil, or_false] at hb
    rcases hb with rfl | rfl | rfl | rfl | rfl | rfl | rfl | rfl
    · exact ⟨_, A.ob⟩
    · exact ⟨_, A.le.ob⟩
    · exact ⟨_, A.le.pl⟩
    · exact ⟨_, A.va⟩
    · exact ⟨_, A.co⟩
    · exact ⟨_, A.le.tg⟩
    · exact ⟨_, A.le.rt⟩
    · exact ⟨_, A.le.od⟩
  rd := fun _ _ => rfl
  dk := by
    rintro z H S ⟨a, rfl, A⟩ b hb
    simp only [CA.fp, LA.fp, List.mem_cons, List.not_mem_nil, or_false] at hb
    rcases hb with rfl | rfl | rfl | rfl | rfl
    · exact ⟨_, A.va⟩
    · exact ⟨_, A.co⟩
    · exact ⟨_, A.le.tg⟩
    · exact ⟨_, A.le.rt⟩
    · exact ⟨_, A.le.od⟩
structure CopT (K : PySem.W.Frag) (mg : Str → Option Value) (CC CL : Addr) : Prop where
  cl : Cls K CC
  n1 : NoAttr K CC "_ledger"
  n2 : NoAttr K CC "_values"
  n3 : NoAttr K CC "_copies"
  gL : mg "Ledger" = some (.ref CL)
  gD : mg "dict" = none
theorem seq_ne {K : PySem.W.Frag} {H H' : Hp} {p C dx : Addr} {fs : List (Str × V)} {F : List Addr} (hp : H p = some (.ins C dx fs)) (k : KB [p] H H') : (∀ {a : Addr} {xs : List V}, SqL K H a xs → SqL K H' a xs) ∧ (∀ {a : Addr} {xs : List V}, SqT K H a xs → SqT K H' a xs) := by
  have n : ∀ {a : Addr} {u : HO}, H a = some u → (∀ C dx fs, u ≠ .ins C dx fs) → a ∉ [p] := fun {a u} e hu z => by
    have z' : a = p := by simpa using z
    rw [z', hp] at e
    exact hu _ _ _ (Option.some.inj e).symm
  refine ⟨fun h => ?_, fun h => ?_⟩
  all_goals
    rcases h with (h | ⟨o, h⟩) | h
    · exact .inl (.inl (k _ _ h (n h (by intros; intro z; cases z))))
    · exact .inl (.inr ⟨o, k _ _ h (n h (by intros; intro z; cases z))⟩)
    · exact .inr h
section
variable {P : Program} {w : World} {K : PySem.W.Frag} {mg : Str → Option Value} {base : Heap} {CC CL CN fN fE fS fR fO f : Addr} {dE dS dR dO fd : FuncData}
theorem scCI : FnScope ["self", "places"] ["self", "places"] (defScope sCI) := ⟨rfl, rfl, rfl, by decide +kernel, rfl, by decide +kernel, by decide +kernel⟩
theorem ok_CI {fLI : Addr} {fdLI : FuncData} (F : Fun K "__init__" "CopyLoans.__init__" sCI f fd) (T : CopT K mg CC CL) (TL : LedT K CL) (FL : Fun K "__init__" "Ledger.__init__" sLI fLI fdLI) (bL : Binds K fdLI ["self", "places"] []) (ML : Mk K CL fLI) :
    FnOk P w K mg base CX0 3 f fd ["self", "places"] (spNew K (CopyI CC CL) Cto.init) := by
  have GL : FnOk P w K mg base CX0 1 fLI fdLI ["self", "places"] (spLI K CL) := ok_LI FL TL
  refine F.ok scCI (fun vs H Q E h => ?_) (fun cdv A outer s H vs Q E hr h => ?_)
  · obtain ⟨p, dx, a, ps, rfl, _⟩ := h
    rfl
  · obtain ⟨p, dx, a, ps, rfl, hp, hpl, hnd, hlen, k⟩ := h
    refine ⟨_, pss_cons (ps_fld (pv 0) (pe_make ML GL hr rfl T.gL bL .nil pass0 (pa_cons (pv 1) pa_nil)) rfl)
      (pss_cons (ps_fld (pv 0) (pe_callTy (call_dictP rfl) (by rfl) T.gD (by decide +kernel) (pa_cons (pv 1) pa_nil)) rfl)
      (pss_one (ps_fld (pv 0) pe_dnewK rfl))), ?_⟩
    refine ⟨_, rfl, fun x dxx nx ndx nex => ?_⟩
    have s0 : Same H (upd (upd H dxx (.own x)) x (.ins CL dxx [])) := fun b o e => by
      rw [upd_ne (ne_of_none e nx), upd_ne (ne_of_none e ndx)]
      exact e
    refine ⟨x, dxx, a, ps, rfl, upd_same, hpl.keep s0, by omega, fun l H1 el ed A1 k1 f1 f2 f3 f4 => ⟨rfl, ?_⟩⟩
    subst el
    have s1 : Same H H1 := fun b o e => k1 b o (s0 b o e) (by simpa using ne_of_none e nx)
    have fr : ∀ {b : Addr}, upd (upd H dxx (.own l.p)) l.p (.ins CL dxx []) b = none → H b = none := fun {b} e => by
      cases q : H b with
      | none => rfl
      | some o => rw [s0 _ _ q] at e; cases e
    have npl : p ≠ l.p := ne_of_none hp nx
    have n1 : p ≠ l.pl := ne_of_none hp (fr f1)
    have n2 : p ≠ l.dt := ne_of_none hp (fr f2)
    have n3 : p ≠ l.dr := ne_of_none hp (fr f3)
    have n4 : p ≠ l.dd := ne_of_none hp (fr f4)
    refine ⟨_, rfl, p, CC, dx, _, rfl, s1 _ _ hp, T.cl, T.n1, (by show 0 < 1000; decide), ?_⟩
    have k2 : KB [p] H (upd H1 p (.ins CC dx (putF "_ledger" (.ref l.p) []))) := (KB.ofSame s1).upd (by simp)
    obtain ⟨q1, q2⟩ := seq_ne (K := K) (F := []) hp k2
    obtain ⟨rs, hL, hP⟩ := hpl
    refine ⟨_, rfl, a, rs, kvOf id ps, rfl, q1 hL, paired_kv (Paired.mapP hP fun r p0 hT => q2 hT), fun dv edv => ?_⟩
    have npv : p ≠ dv := fun z => by rw [← z, upd_same] at edv; cases edv
    rw [upd_ne npv.symm] at edv
    have fv : H dv = none := by
      cases q : H dv with
      | none => rfl
      | some o => rw [s1 _ _ q] at edv; cases edv
    refine ⟨_, rfl, p, CC, dx, _, rfl, (by rw [upd_ne npv]; exact upd_same), T.cl, T.n2, (by show 1 < 1000; decide), fun dc edc => ?_⟩
    have npc : p ≠ dc := fun z => by rw [← z, upd_same] at edc; cases edc
    rw [upd_ne npc.symm] at edc
    have nvc : dv ≠ dc := fun z => by rw [← z, upd_same] at edc; cases edc
    rw [upd_ne nvc.symm, upd_ne npc.symm] at edc
    have fc : H dc = none := by
      cases q : H dc with
      | none => rfl
      | some o => rw [s1 _ _ q] at edc; cases edc
    refine ⟨_, rfl, p, CC, dx, _, rfl, (by rw [upd_ne npc]; exact upd_same), T.cl, T.n3, (by show 2 < 1000; decide), ?_⟩
    have kk : KB [p] H1 (upd (upd (upd (upd (upd H1 p (.ins CC dx (putF "_ledger" (.ref l.p) []))) dv (.dK (mergeK [] (kvOf id ps)))) p (.ins CC dx (putF "_values" (.ref dv) (putF "_ledger" (.ref l.p) [])))) dc (.dK [])) p
        (.ins CC dx (putF "_copies" (.ref dc) (putF "_values" (.ref dv) (putF "_ledger" (.ref l.p) []))))) :=
      ((((KB.refl.upd (by simp)).fresh edv).upd (by simp)).fresh edc).upd (by simp)
    have A2 := A1.keep kk (by simpa using npl.symm) (by simpa using n1.symm) (by simpa using n2.symm) (by simpa using n3.symm) (by simpa using n4.symm)
    refine k ⟨p, CA.fp ⟨p, dx, l, dv, dc⟩, CA.ads ⟨p, dx, l, dv, dc⟩⟩ _ rfl ⟨⟨p, dx, l, dv, dc⟩, rfl, upd_same, A2, ?_, ?_, fun z => ?_, fun z => ?_, fun z => ?_, fun z => ?_, fun z => ?_, fun z => ?_, nvc⟩ ((KB.ofSame s1).trans kk) ?_
    · rw [upd_ne npv.symm, upd_ne nvc, upd_ne npv.symm, upd_same, merge_kv hnd]; rfl
    · rw [upd_ne npc.symm, upd_same]; rfl
    · have q := A1.tg
      rw [← z, edv] at q; cases q
    · have q := A1.rt
      rw [← z, edv] at q; cases q
    · have q := A1.od
      rw [← z, edv] at q; cases q
    · have q := A1.tg
      rw [← z, edc] at q; cases q
    · have q := A1.rt
      rw [← z, edc] at q; cases q
    · have q := A1.od
      rw [← z, edc] at q; cases q
    · intro b hb
      simp only [CA.ads, List.mem_cons, List.not_mem_nil, or_false] at hb
      rcases hb with rfl | rfl | rfl | rfl | rfl | rfl | rfl | rfl
      · exact .inl rfl
      · exact .inr nx
      · exact .inr (fr f1)
      · exact .inr fv
      · exact .inr fc
      · exact .inr (fr f2)
      · exact .inr (fr f3)
      · exact .inr (fr f4)
theorem CA.ledg {a : CA} {H H' : Hp} {C : Cto} {S' : Sto} (A : a.At CC CL H C) (k : KB a.l.fp H H') (h : a.l.At CL H' S') (hp : S'.ps = C.st.ps) : a.At CC CL H' { C with st := S' } := by
  have e1 : a.p ≠ a.l.dt := ne_of A.ob A.le.tg (by intro z; cases z)
  have e2 : a.p ≠ a.l.dr := ne_of A.ob A.le.rt (by intro z; cases z)
  have e3 : a.p ≠ a.l.dd := ne_of A.ob A.le.od (by intro z; cases z)
  refine ⟨k _ _ A.ob (by simp [LA.fp, e1, e2, e3]), h, ?_, k _ _ A.co (by simp [LA.fp, A.m1, A.m2, A.m3]), A.n1, A.n2, A.n3, A.m1, A.m2, A.m3, A.vc⟩
  show H' a.dv = some (.dK (kvOf id S'.ps))
  rw [hp]
  exact k _ _ A.va (by simp [LA.fp, A.n1, A.n2, A.n3])
theorem CA.fpl {a : CA} : ∀ b ∈ a.l.fp, b ∈ a.fp := fun b hb => List.mem_cons_of_mem _ (List.mem_cons_of_mem _ hb)
/-- the copies change -/
theorem CA.cput {a : CA} {H : Hp} {C : Cto} {kvs : List (Key × V)} {cp : List (Str × V)} (A : a.At CC CL H C) (he : kvs = kvOf id cp) : a.At CC CL (upd H a.dc (.dK kvs)) { C with cp := cp } := by
  have e1 : a.p ≠ a.dc := ne_of A.ob A.co (by intro z; cases z)
  have e2 : a.l.p ≠ a.dc := ne_of A.le.ob A.co (by intro z; cases z)
  have e3 : a.l.pl ≠ a.dc := ne_of A.le.pl A.co (by intro z; cases z)
  exact ⟨by rw [upd_ne e1]; exact A.ob, ⟨by rw [upd_ne e2]; exact A.le.ob, by rw [upd_ne e3]; exact A.le.pl, by rw [upd_ne A.m1.symm]; exact A.le.tg, by rw [upd_ne A.m2.symm]; exact A.le.rt, by rw [upd_ne A.m3.symm]; exact A.le.od, A.le.n1, A.le.n2, A.le.n3⟩,
    by rw [upd_ne A.vc]; exact A.va, by rw [upd_same, he], A.n1, A.n2, A.n3, A.m1, A.m2, A.m3, A.vc⟩
/-- the values change -/
theorem CA.vput {a : CA} {H : Hp} {C : Cto} {r : Str} {v : V} {kvs : List (Key × V)} (A : a.At CC CL H C) (hk : r ∈ keys C.st.ps) (he : kvs = kvOf id (aput C.st.ps r v)) : a.At CC CL (upd H a.dv (.dK kvs)) { C with st := { C.st with ps := aput C.st.ps r v } } := by
  have e1 : a.p ≠ a.dv := ne_of A.ob A.va (by intro z; cases z)
  have e2 : a.l.p ≠ a.dv := ne_of A.le.ob A.va (by intro z; cases z)
  have e3 : a.l.pl ≠ a.dv := ne_of A.le.pl A.va (by intro z; cases z)
  refine ⟨by rw [upd_ne e1]; exact A.ob, ⟨by rw [upd_ne e2]; exact A.le.ob, ?_, by rw [upd_ne A.n1.symm]; exact A.le.tg, by rw [upd_ne A.n2.symm]; exact A.le.rt, by rw [upd_ne A.n3.symm]; exact A.le.od, A.le.n1, A.le.n2, A.le.n3⟩,
    by rw [upd_same, he], by rw [upd_ne A.vc.symm]; exact A.co, A.n1, A.n2, A.n3, A.m1, A.m2, A.m3, A.vc⟩
  show upd H a.dv (.dK kvs) a.l.pl = some (.lst ((keys (aput C.st.ps r v)).map V.str))
  rw [upd_ne e3, keys_put_old hk]
  exact A.le.pl
def spCV (CC CL CN : Addr) : Sp := fun vs H Q E => ∃ (a : CA) (C : Cto) (c : Str), vs = [.ref a.p, .str c] ∧ a.At CC CL H C ∧ ((C.st.root c).isSome = true → (c ∈ keys C.cp ∨ c ∈ keys C.st.ps) ∧ Q (C.val c) H) ∧ (C.st.root c = none → ∀ d H', Same H H' → E (.ref CN) (some d) H')
theorem scCV : FnScope ["self", "cell"] ["self", "cell"] (defScope sCV) := ⟨rfl, rfl, rfl, by decide +kernel, rfl, by decide +kernel, by decide +kernel⟩
theorem ok_CV0 (F : Fun K "value_at" "CopyLoans.value_at" sCV f fd) (T : CopT K mg CC CL) (TL : LedT K CL) (N : NoE P K mg CN fN) (L : LedM K CL fE fS fR fO dE dS dR dO) : FnOk P w K mg base (L2N.CX P w) 2 f fd ["self", "cell"] (spCV CC CL CN) := by
  have GR : FnOk P w K mg base (L2N.CX P w) 1 fR dR ["self", "cell"] (spLR CL CN) := ok_LR L.FR TL N
  refine funN F scCV (fun vs H Q E h => ?_) (fun cdv A outer s H vs Q E hr h => ?_)
  · obtain ⟨a, S, c, rfl, _⟩ := h
    rfl
  · obtain ⟨a, C, c, rfl, A1, k1, k2⟩ := h
    have hu := hu_of hr
    refine ⟨_, pss_cons (ps_expr (pe_methA (E := WE fun cls d _ H => E cls d H) (pe_fld (pv 0) rfl) TL.cl L.mR GR hr L.bR (fun σ => L2N.passAt (L2N.takes_of rfl rfl rfl rfl) σ) (pa_cons (pv 1) pa_nil)))
      (pss_cons (ps_if (pt_cmp (pc_din hu (pv 1) (pe_fld (pv 0) rfl))) (pss_one (ps_ret (pe_dget hu (pe_fld (pv 0) rfl) (pv 1) (fun _ _ => rfl)))) pss_nil)
      (pss_one (ps_ret (pe_dget hu (pe_fld (pv 0) rfl) (pv 1) (fun _ _ => rfl))))), ?_⟩
    refine ⟨_, rfl, a.p, CC, _, _, _, rfl, A1.ob, T.cl, T.n1, a.l1, a.l.p, _, _, rfl, A1.le.ob, rfl, _, rfl, a.l, C.st, c, rfl, A1.le, fun r er => ?_, k2⟩
    obtain ⟨hin, q⟩ := k1 (by rw [er]; rfl)
    refine ⟨_, rfl, _, rfl, a.p, CC, _, _, _, rfl, A1.ob, T.cl, T.n3, a.l3, a.dc, _, rfl, DGet.k (k := Sum.inr c) A1.co, _, rfl, ?_⟩
    rw [kv_val, Option.isSome_map]
    refine iteB (fun e => ?_) (fun e => ?_)
    · have hc : c ∈ keys C.cp := aget_isSome.mp e
      obtain ⟨v, ev⟩ := aget_of_mem hc
      have eq : C.val c = v := by unfold Cto.val; rw [if_pos hc, ev]; rfl
      rw [eq] at q
      exact ⟨_, rfl, a.p, CC, _, _, _, rfl, A1.ob, T.cl, T.n3, a.l3, _, rfl, a.dc, v, rfl, (by have z := DGet.k (k := Sum.inr c) A1.co; rw [kv_val, ev] at z; exact z), q⟩
    · have hc : c ∉ keys C.cp := fun z => by rw [aget_isSome.mpr z] at e; cases e
      obtain ⟨v, ev⟩ := aget_of_mem (hin.resolve_left hc)
      have eq : C.val c = v := by unfold Cto.val; rw [if_neg hc, ev]; rfl
      rw [eq] at q
      exact ⟨_, rfl, a.p, CC, _, _, _, rfl, A1.ob, T.cl, T.n2, a.l2, _, rfl, a.dv, v, rfl, (by have z := DGet.k (k := Sum.inr c) A1.va; rw [kv_val, ev] at z; exact z), q⟩
theorem copy_in {C : Cto} (ok : C.st.Ok) (hk : keys C.cp = keys C.st.tg) {c : Str} (h : (C.st.root c).isSome = true) : c ∈ keys C.cp ∨ c ∈ keys C.st.ps := by
  rw [hk]
  exact ((Sto.root_some ok).mp h).symm
theorem ok_CV (F : Fun K "value_at" "CopyLoans.value_at" sCV f fd) (T : CopT K mg CC CL) (TL : LedT K CL) (N : NoE P K mg CN fN) (L : LedM K CL fE fS fR fO dE dS dR dO) : FnOk P w K mg base (L2N.CX P w) 2 f fd ["self", "cell"] (spVal (CopyI CC CL) CN) := by
  refine (ok_CV0 F T TL N L).imp fun vs H Q E h => ?_
  obtain ⟨_, C, c, rfl, ⟨a, rfl, A1⟩, ⟨ok, sm, hk⟩, k1, k2⟩ := h
  exact ⟨a, C, c, rfl, A1, fun h => ⟨copy_in ok hk h, k1 h⟩, fun h d H' hs => k2 (by show (C.st.root c).isSome = false; rw [h]; rfl) d H' (KB.ofSame hs)⟩
theorem scCS : FnScope ["self", "cell", "value"] ["self", "cell", "value"] (defScope sCS) := ⟨rfl, rfl, rfl, by decide +kernel, rfl, by decide +kernel, by decide +kernel⟩
theorem ok_CS (F : Fun K "set_at" "CopyLoans.set_at" sCS f fd) (T : CopT K mg CC CL) (TL : LedT K CL) (N : NoE P K mg CN fN) (L : LedM K CL fE fS fR fO dE dS dR dO) : FnOk P w K mg base (L2N.CX P w) 2 f fd ["self", "cell", "value"] (spSet (CopyI CC CL) CN) := by
  have GR : FnOk P w K mg base (L2N.CX P w) 1 fR dR ["self", "cell"] (spLR CL CN) := ok_LR L.FR TL N
  refine funN F scCS (fun vs H Q E h => ?_) (fun cdv A outer s H vs Q E hr h => ?_)
  · obtain ⟨z, C, c, v, rfl, _⟩ := h
    rfl
  · obtain ⟨_, C, c, v, rfl, ⟨a, rfl, A1⟩, ⟨ok, sm, hk⟩, k1, k2⟩ := h
    have hu := hu_of hr
    refine ⟨_, pss_cons (ps_expr (pe_methA (E := WE fun cls d _ H => E cls d H) (pe_fld (pv 0) rfl) TL.cl L.mR GR hr L.bR (fun σ => L2N.passAt (L2N.takes_of rfl rfl rfl rfl) σ) (pa_cons (pv 1) pa_nil)))
      (pss_cons (ps_if (pt_cmp (pc_din hu (pv 1) (pe_fld (pv 0) rfl))) (pss_cons (ps_dput hu (pe_fld (pv 0) rfl) (pv 1) (pv 2) rfl) (pss_one (ps_ret pe_non))) pss_nil)
      (pss_cons (ps_dput hu (pe_fld (pv 0) rfl) (pv 1) (pv 2) rfl) (pss_one (ps_ret (pv 1))))), ?_⟩
    refine ⟨_, rfl, a.p, CC, _, _, _, rfl, A1.ob, T.cl, T.n1, a.l1, a.l.p, _, _, rfl, A1.le.ob, rfl, _, rfl, a.l, C.st, c, rfl, A1.le, fun r er => ?_, fun er d H' hs => ?_⟩
    · have hf : (C.st.root c).isSome = true := by rw [er]; rfl
      refine ⟨_, rfl, _, rfl, a.p, CC, _, _, _, rfl, A1.ob, T.cl, T.n3, a.l3, a.dc, _, rfl, DGet.k (k := Sum.inr c) A1.co, _, rfl, ?_⟩
      rw [kv_val, Option.isSome_map]
      have lc : C.cp.length ≤ 900 := by
        have e := congrArg List.length hk
        unfold keys at e
        rw [List.length_map, List.length_map] at e
        rw [e]; exact sm.t
      refine iteB (fun e => ?_) (fun e => ?_)
      · have hc : c ∈ keys C.cp := aget_isSome.mp e
        refine ⟨_, rfl, _, rfl, a.p, CC, _, _, _, rfl, A1.ob, T.cl, T.n3, a.l3, _, rfl, a.dc, _, rfl, DPut.k (k := Sum.inr c) A1.co (by rw [kv_len]; exact fits_line lc), ?_⟩
        refine k1 hf _ _ (KB.refl.upd (by simp [CA.fp])) ⟨a, rfl, ?_⟩
        have e2 : (CopyI CC CL).step C (.wr c v) = { C with cp := aput C.cp c v } := by
          show C.set c v = _
          unfold Cto.set; rw [if_pos hc]
        rw [e2]
        exact CA.cput A1 kv_putId
      · have hc : c ∉ keys C.cp := fun z => by rw [aget_isSome.mpr z] at e; cases e
        have hp := (copy_in ok hk hf).resolve_left hc
        refine ⟨_, rfl, _, rfl, a.p, CC, _, _, _, rfl, A1.ob, T.cl, T.n2, a.l2, _, rfl, a.dv, _, rfl, DPut.k (k := Sum.inr c) A1.va (by rw [kv_len]; exact fits_line sm.p), _, rfl, ?_⟩
        refine k1 hf _ _ (KB.refl.upd (by simp [CA.fp])) ⟨a, rfl, ?_⟩
        have e2 : (CopyI CC CL).step C (.wr c v) = { C with st := { C.st with ps := aput C.st.ps c v } } := by
          show C.set c v = _
          unfold Cto.set; rw [if_neg hc]
        rw [e2]
        exact CA.vput A1 hp kv_putId
    · exact k2 (by show (C.st.root c).isSome = false; rw [er]; rfl) d H' (KB.ofSame hs)
end
end Qk

/-! part L6 -/
set_option Elab.async false
set_option linter.all false
set_option maxRecDepth 100000
set_option maxHeartbeats 2000000
namespace Qk
open PySem PySem.Spec L2
open PyProof.Rows hiding St
section
variable {P : Program} {w : World} {K : PySem.W.Frag} {mg : Str → Option Value} {base : Heap} {CC CL CN fN fE fS fR fO f fV fT : Addr} {dE dS dR dO fd dV dT : FuncData}
theorem cp_len {C : Cto} (sm : C.st.Sm) (hk : keys C.cp = keys C.st.tg) : C.cp.length ≤ 900 := by
  have e := congrArg List.length hk
  unfold keys at e
  rw [List.length_map, List.length_map] at e
  rw [e]; exact sm.t
theorem enter_root {S : Sto} (ok : S.Ok) {k t : Str} (h : S.fits (.bg k t) = true) : (S.enter k t).root t = S.root t := by
  have e := root_step_bg ok h t
  by_cases z : t = k
  · rw [if_pos z] at e; exact e
  · rw [if_neg z] at e; exact e
theorem scCB : FnScope ["self", "key", "target"] ["self", "key", "target"] (defScope sCB) := ⟨rfl, rfl, rfl, by decide +kernel, rfl, by decide +kernel, by decide +kernel⟩
theorem ok_CB (F : Fun K "begin" "CopyLoans.begin" sCB f fd) (T : CopT K mg CC CL) (TL : LedT K CL) (N : NoE P K mg CN fN) (L : LedM K CL fE fS fR fO dE dS dR dO) (FV : Fun K "value_at" "CopyLoans.value_at" sCV fV dV) (bV : Binds K dV ["self", "cell"] []) (mV : Meth K CC "value_at" fV) :
    FnOk P w K mg base (L2N.CX P w) 3 f fd ["self", "key", "target"] (spBeg (CopyI CC CL) CN) := by
  have GE : FnOk P w K mg base (L2N.CX P w) 2 fE dE ["self", "key", "target"] (spLE CL CN) := ok_LE L.FE TL N L.FR L.bR L.mR
  have GV : FnOk P w K mg base (L2N.CX P w) 2 fV dV ["self", "cell"] (spCV CC CL CN) := ok_CV0 FV T TL N L
  refine funN F scCB (fun vs H Q E h => ?_) (fun cdv A outer s H vs Q E hr h => ?_)
  · obtain ⟨z, S, k, t, rfl, _⟩ := h
    rfl
  · obtain ⟨_, C, k, t, rfl, ⟨a, rfl, A1⟩, ⟨ok, sm, hk⟩, k1, k2⟩ := h
    have hu := hu_of hr
    refine ⟨_, pss_cons (ps_expr (pe_methA (E := WE fun cls d _ H => E cls d H) (pe_fld (pv 0) rfl) TL.cl L.mE GE hr L.bE (fun σ => L2N.passAt (L2N.takes_of rfl rfl rfl rfl) σ) (pa_cons (pv 1) (pa_cons (pv 2) pa_nil))))
      (pss_one (ps_dput hu (pe_fld (pv 0) rfl) (pv 1) (pe_methA (E := WE fun cls d _ H => E cls d H) (pv 0) T.cl mV GV hr bV (fun σ => L2N.passAt (L2N.takes_of rfl rfl rfl rfl) σ) (pa_cons (pv 2) pa_nil)) rfl)), ?_⟩
    refine ⟨_, rfl, a.p, CC, _, _, _, rfl, A1.ob, T.cl, T.n1, a.l1, a.l.p, _, _, rfl, A1.le.ob, rfl, _, rfl, _, rfl, a.l, C.st, k, t, rfl, A1.le, sm, fun hf H' kb Al => ?_, fun hf d H' hs => ?_⟩
    · have A2 : a.At CC CL H' { C with st := C.st.enter k t } := CA.ledg A1 kb Al rfl
      have ht := (Sto.fits_bg (S := C.st) hf).2.2
      refine ⟨_, rfl, a.p, _, _, rfl, A2.ob, rfl, _, rfl, a, { C with st := C.st.enter k t }, t, rfl, A2, fun _ => ⟨copy_in ok hk ht, ?_⟩, fun e => ?_⟩
      · refine ⟨_, rfl, a.p, CC, _, _, _, rfl, A2.ob, T.cl, T.n3, a.l3, _, rfl, a.dc, _, rfl, DPut.k (k := Sum.inr k) A2.co (by rw [kv_len]; exact fits_line (cp_len (C := C) sm hk)), ?_⟩
        exact k1 hf _ _ ((kb.mono CA.fpl).upd (by simp [CA.fp])) ⟨a, rfl, CA.cput A2 kv_putId⟩
      · have e' : (C.st.enter k t).root t = none := e
        rw [enter_root ok hf] at e'
        rw [e'] at ht; cases ht
    · exact k2 hf d H' (KB.ofSame hs)
theorem scCO : FnScope ["self", "key", "target", "value"] ["self", "key"] (defScope sCO) := ⟨rfl, rfl, rfl, by decide +kernel, rfl, by decide +kernel, by decide +kernel⟩
theorem ok_CO (F : Fun K "over" "CopyLoans.over" sCO f fd) (T : CopT K mg CC CL) (TL : LedT K CL) (N : NoE P K mg CN fN) (L : LedM K CL fE fS fR fO dE dS dR dO) (FT : Fun K "set_at" "CopyLoans.set_at" sCS fT dT) (bT : Binds K dT ["self", "cell", "value"] []) (mT : Meth K CC "set_at" fT) :
    FnOk P w K mg base (L2N.CX P w) 3 f fd ["self", "key"] (spOvr (CopyI CC CL) CN) := by
  have GS : FnOk P w K mg base (L2N.CX P w) 1 fS dS ["self", "key"] (spLS CL CN) := ok_LS L.FS TL N
  have GT : FnOk P w K mg base (L2N.CX P w) 2 fT dT ["self", "cell", "value"] (spSet (CopyI CC CL) CN) := ok_CS FT T TL N L
  refine funN F scCO (fun vs H Q E h => ?_) (fun cdv A outer s H vs Q E hr h => ?_)
  · obtain ⟨z, S, k, rfl, _⟩ := h
    rfl
  · obtain ⟨_, C, k, rfl, ⟨a, rfl, A1⟩, ⟨ok, sm, hk⟩, k1, k2⟩ := h
    have hu := hu_of hr
    refine ⟨_, pss_cons (ps_set (i := 2) scCO.nd rfl (.inl rfl) (pe_methA (E := WE fun cls d _ H => E cls d H) (pe_fld (pv 0) rfl) TL.cl L.mS GS (hr.mono (by decide)) L.bS (fun σ => L2N.passAt (L2N.takes_of rfl rfl rfl rfl) σ) (pa_cons (pv 1) pa_nil)))
      (pss_cons (ps_set (i := 3) scCO.nd rfl (.inl rfl) (pe_dpop1 (pe_fld (pv 0) rfl) (pv 1) ⟨rfl, rfl, rfl, rfl⟩))
      (pss_cons (ps_if (PW.pt (pw_or (pt_cmp (pc_din hu (pv 2) (pe_fld (pv 0) rfl))) (pw_or1 (pt_cmp (pc_din hu (pv 2) (pe_fld (pv 0) rfl))))))
        (pss_one (ps_ret (pe_methA (E := WE fun cls d _ H => E cls d H) (pv 0) T.cl mT GT hr bT (fun σ => L2N.passAt (L2N.takes_of rfl rfl rfl rfl) σ) (pa_cons (pv 2) (pa_cons (pv 3) pa_nil))))) pss_nil)
      (pss_one (ps_ret pe_non)))), ?_⟩
    refine ⟨_, rfl, a.p, CC, _, _, _, rfl, A1.ob, T.cl, T.n1, a.l1, a.l.p, _, _, rfl, A1.le.ob, rfl, _, rfl, a.l, C.st, k, rfl, A1.le, ok, fun t et H' kb Al => ?_, fun et d H' hs => ?_⟩
    · have hkt : k ∈ keys C.st.tg := aget_key et
      have A2 : a.At CC CL H' { C with st := C.st.strike k } := CA.ledg A1 kb Al rfl
      obtain ⟨v, ev⟩ := aget_of_mem (show k ∈ keys C.cp by rw [hk]; exact hkt)
      refine ⟨_, rfl, a.p, CC, _, _, _, rfl, A2.ob, T.cl, T.n3, a.l3, _, rfl, .inl ⟨_, .inl A2.co⟩, _, rfl, _, Sum.inr k, v, A2.co, rfl, (by rw [kv_val]; show (aget C.cp k).map id = some v; rw [ev]; rfl), ?_⟩
      have A3 : a.At CC CL (upd H' a.dc (.dK (dropK (kvOf id C.cp) (Sum.inr k)))) { st := C.st.strike k, cp := adrop C.cp k } := CA.cput A2 kv_drop
      have kb3 : KB a.fp H (upd H' a.dc (.dK (dropK (kvOf id C.cp) (Sum.inr k)))) := (kb.mono CA.fpl).upd (by simp [CA.fp])
      have fin : (CopyI CC CL).step C (.ov k) = if t ∈ keys C.st.ps ∨ t ∈ keys (adrop C.cp k) then Cto.set { st := C.st.strike k, cp := adrop C.cp k } t v else { st := C.st.strike k, cp := adrop C.cp k } := by
        show Cto.step C (.ov k) = _
        unfold Cto.step
        dsimp only
        rw [et, ev]
        rfl
      have fits : C.st.fits (.ov k) = true := decide_eq_true hkt
      have ok3 : (C.st.strike k).Ok := ok.step (d := .ov k) fits
      have sm3 : (C.st.strike k).Sm := ⟨sm.p, Nat.le_trans len_adrop sm.t, Nat.le_trans len_adrop sm.r, sm.o⟩
      have hk3 : keys (adrop C.cp k) = keys (C.st.strike k).tg := by
        show keys (adrop C.cp k) = keys (adrop C.st.tg k)
        rw [keys_drop, keys_drop, hk]
      have setit : (t ∈ keys C.st.ps ∨ t ∈ keys (adrop C.cp k)) → spSet (CopyI CC CL) CN [.ref a.p, .str t, v] (upd H' a.dc (.dK (dropK (kvOf id C.cp) (Sum.inr k)))) Q E := fun ht => by
        have rt : ((C.st.strike k).root t).isSome = true := by
          rw [Sto.root_some ok3, ← hk3]
          exact ht
        refine ⟨⟨a.p, a.fp, a.ads⟩, { st := C.st.strike k, cp := adrop C.cp k }, t, v, rfl, ⟨a, rfl, A3⟩, ⟨ok3, sm3, hk3⟩, fun _ r H2 kb4 A4 => ?_, fun z => ?_⟩
        · refine k1 fits r H2 (kb3.trans kb4) ?_
          rw [fin, if_pos ht]
          exact A4
        · have z' : ((C.st.strike k).root t).isSome = false := z
          rw [rt] at z'; cases z'
      refine ⟨_, rfl, _, rfl, a.p, CC, _, _, _, rfl, A3.ob, T.cl, T.n2, a.l2, a.dv, _, rfl, DGet.k (k := Sum.inr t) A3.va, _, rfl, ?_⟩
      rw [kv_val, Option.isSome_map]
      refine iteB (fun e => ?_) (fun e => ?_)
      · refine iteT ?_
        exact ⟨_, rfl, a.p, _, _, rfl, A3.ob, rfl, _, rfl, _, rfl, setit (.inl (aget_isSome.mp e))⟩
      · refine ⟨_, rfl, _, rfl, a.p, CC, _, _, _, rfl, A3.ob, T.cl, T.n3, a.l3, a.dc, _, rfl, DGet.k (k := Sum.inr t) A3.co, _, rfl, ?_⟩
        rw [kv_val, Option.isSome_map]
        refine iteB (fun e2 => ?_) (fun e2 => ?_)
        · exact ⟨_, rfl, a.p, _, _, rfl, A3.ob, rfl, _, rfl, _, rfl, setit (.inr (aget_isSome.mp e2))⟩
        · refine k1 fits _ _ kb3 ⟨a, rfl, ?_⟩
          rw [fin, if_neg]
          · exact A3
          · rintro (z | z)
            · exact absurd ((show (aget C.st.ps t).isSome = false from e).symm.trans (aget_isSome.mpr z)) (by decide)
            · exact absurd ((show (aget (adrop C.cp k) t).isSome = false from e2).symm.trans (aget_isSome.mpr z)) (by decide)
    · exact k2 (decide_eq_false (aget_none_iff.mp et)) d H' (KB.ofSame hs)
end
end Qk

/-! part D1 -/
set_option Elab.async false
set_option linter.all false
set_option maxRecDepth 100000
set_option maxHeartbeats 2000000
namespace Qk
open PySem PySem.Spec L2
open PyProof.Rows hiding St
abbrev sCell : Stmt := top 12
abbrev sDo : Stmt := top 13
abbrev sPL : Stmt := top 14
def LI.gives (I : LI) (s : I.T) (d : Dd) : List V := d.rds (I.val s)
def spCell (K : PySem.W.Frag) : Sp := fun vs H Q _ => ∃ (t : Addr) (d : Dd), vs = [.ref t] ∧ SqT K H t d.vs ∧ Q (.str d.touch) H
def spDo (K : PySem.W.Frag) (I : LI) (CB : Addr) : Sp := fun vs H Q E => ∃ (z : Site) (s : I.T) (i : Int) (t : Addr) (d : Dd), vs = [.ref z.p, .int i, .ref t] ∧ I.At z H s ∧ I.ok s ∧ SqT K H t d.vs ∧
  ((I.led s).fits d = true → ∀ p H', KB z.fp H H' → I.At z H' (I.step s d) → H p = none → H' p = some (.lst (I.gives s d)) → Q (.ref p) H') ∧
  ((I.led s).fits d = false → ∀ dd H', KB z.fp H H' → H' dd = some (.xd [("at", .int i)]) → E (.ref CB) (some dd) H')
/-- the methods that a deed calls -/
structure LoM (P : Program) (w : World) (K : PySem.W.Frag) (mg : Str → Option Value) (base : Heap) (I : LI) (CN : Addr) (fB fV fS fO : Addr) (dB dV dS dO : FuncData) : Prop where
  cl : Cls K I.C
  GB : FnOk P w K mg base (L2N.CX P w) 3 fB dB ["self", "key", "target"] (spBeg I CN)
  GV : FnOk P w K mg base (L2N.CX P w) 3 fV dV ["self", "cell"] (spVal I CN)
  GS : FnOk P w K mg base (L2N.CX P w) 3 fS dS ["self", "cell", "value"] (spSet I CN)
  GO : FnOk P w K mg base (L2N.CX P w) 3 fO dO ["self", "key"] (spOvr I CN)
  bB : Binds K dB ["self", "key", "target"] []
  bV : Binds K dV ["self", "cell"] []
  bS : Binds K dS ["self", "cell", "value"] []
  bO : Binds K dO ["self", "key"] []
  mB : Meth K I.C "begin" fB
  mV : Meth K I.C "value_at" fV
  mS : Meth K I.C "set_at" fS
  mO : Meth K I.C "over" fO
theorem room_one {k : Nat} {A : Around} (r : Room k A) : A.depth + 1 < recursionLimit := by
  have := r.dp
  omega
theorem pmk_hot {X : Cx} {C fI : Addr} {qual fl txt x : Str} {a : Expr} {ta : TA} {p pos : Pos} (N : ErrT X.prog X.K X.mg C fI x qual fl txt) (hd : X.A.depth + 1 < recursionLimit) (ha : PA X [a] ta) (hg : Gl X x := by rfl) (hdb : (x == ("__debug__" : Str)) = false := by decide)
    (he : starEach (a :: []) X.env = (false, eval a X.env) :: starEach [] X.env := by rfl) (hpl : (backTo pos (starEach [] X.env)).any (·.1) = false := by rfl) : L2H.PMk5 X (.Call (.Name x p) [a] [] pos) (tMkOwn C fl ta) :=
  pmk_own5 N.own N.g N.sup N.kp (raises_own N.bse N.typ) hd ha hg hdb he hpl
section
variable {P : Program} {w : World} {K : PySem.W.Frag} {mg : Str → Option Value} {base : Heap}
theorem scCell : FnScope ["deed"] ["deed"] (defScope sCell) := ⟨rfl, rfl, rfl, by decide +kernel, rfl, by decide +kernel, by decide +kernel⟩
theorem ok_cell {f : Addr} {fd : FuncData} (F : Fun K "cell_of" "cell_of" sCell f fd) : FnOk P w K mg base CX0 1 f fd ["deed"] (spCell K) := by
  refine F.ok scCell (fun vs H Q E h => ?_) (fun cdv A outer s H vs Q E hr h => ?_)
  · obtain ⟨t, d, rfl, _⟩ := h
    rfl
  · obtain ⟨t, d, rfl, hT, k⟩ := h
    refine ⟨_, pss_cons (ps_if (pt_cmpR op_eq (pe_ix ix_tup (pv 0) pe_int (fun _ _ => rfl)) pe_str (nomark _)) (pss_one (ps_ret (pe_ix ix_tup (pv 0) pe_int (fun _ _ => rfl)))) pss_nil)
      (pss_one (ps_ret (pe_ix ix_tup (pv 0) pe_int (fun _ _ => rfl)))), ?_⟩
    cases d with
    | bg kk tt =>
      refine ⟨_, rfl, t, _, _, _, rfl, rfl, hT, rfl, rfl, _, rfl, if_true_of (by decide +kernel) ?_⟩
      exact ⟨_, rfl, t, _, _, _, rfl, rfl, hT, rfl, k⟩
    | rd c =>
      refine ⟨_, rfl, t, _, _, _, rfl, rfl, hT, rfl, rfl, _, rfl, if_false_of (by decide +kernel) ?_⟩
      exact ⟨_, rfl, t, _, _, _, rfl, rfl, hT, rfl, k⟩
    | wr c v =>
      refine ⟨_, rfl, t, _, _, _, rfl, rfl, hT, rfl, rfl, _, rfl, if_false_of (by decide +kernel) ?_⟩
      exact ⟨_, rfl, t, _, _, _, rfl, rfl, hT, rfl, k⟩
    | ov c =>
      refine ⟨_, rfl, t, _, _, _, rfl, rfl, hT, rfl, rfl, _, rfl, if_false_of (by decide +kernel) ?_⟩
      exact ⟨_, rfl, t, _, _, _, rfl, rfl, hT, rfl, k⟩
theorem scDo : FnScope ["loans", "at", "deed", "word", "cell", "more", "found", "e"] ["loans", "at", "deed"] (defScope sDo) := ⟨rfl, rfl, rfl, by decide +kernel, rfl, by decide +kernel, by decide +kernel⟩
/-- the match of do_deed -/
def tbDo (K : PySem.W.Frag) (I : LI) (CN : Addr) (W : WX) : TS := tMatch (tVar 3)
  (tmStr "begin" (tDrop (tMethA I.C "begin" (spBeg I CN) (WE W) (tVar 0) (tCons (tVar 4) (tCons (tOp (rIxL K) (tVar 5) (tC (.int 0))) tNil))))
  (tmStr "read" (tDrop (tBM K "list" rAppend (tVar 6) (tCons (tMethA I.C "value_at" (spVal I CN) (WE W) (tVar 0) (tCons (tVar 4) tNil)) tNil)))
  (tmStr "write" (tDrop (tMethA I.C "set_at" (spSet I CN) (WE W) (tVar 0) (tCons (tVar 4) (tCons (tOp (rIxL K) (tVar 5) (tC (.int 0))) tNil))))
  (fun _ => tDrop (tMethA I.C "over" (spOvr I CN) (WE W) (tVar 0) (tCons (tVar 4) tNil))))))
theorem ok_do {f CN fN CB fB' fB fV fS fO : Addr} {fd dB dV dS dO : FuncData} {I : LI} (F : Fun K "do_deed" "do_deed" sDo f fd) (N : NoE P K mg CN fN) (B : BadE P K mg CB fB') (ex : PySem.W.exmOne K (.ref CN) (.ref CN) = some true) (L : LoM P w K mg base I CN fB fV fS fO dB dV dS dO) :
    FnOk P w K mg base (L2.CX P w) 4 f fd ["loans", "at", "deed"] (spDo K I CB) := by
  refine F.okX scDo (fun vs H Q E h => ?_) (fun cdv A outer s H vs Q E hr h => ?_)
  · obtain ⟨z, s, i, t, d, rfl, _⟩ := h
    rfl
  · obtain ⟨z, s, i, t, d, rfl, A1, ok, hT, k1, k2⟩ := h
    have h1 := room_one hr
    refine ⟨_, pss_cons (ps_asg (pv 2) (by exact pg_star2 rfl (pgs_cons (pg_name (i := 3) scDo.nd rfl (.inl rfl)) (pgs_cons (pg_name (i := 4) scDo.nd rfl (.inl rfl)) (pgs_cons (pg_name (i := 5) scDo.nd rfl (.inl rfl)) pgs_nil)))))
      (pss_cons (ps_set (i := 6) scDo.nd rfl (.inl rfl) (pe_lst pa_nil))
      (pss_cons (ps_try_from (i := 7) (c := .ref CN) (tb := tbDo K I CN) (tm := tMkOwn CB "at" (tCons (tVar 1) tNil)) rfl rfl scDo.nd rfl rfl rfl ⟨rfl, by decide, Or.inl N.g⟩ (fun hd => L2H.passesAt_of rfl hd) (L2.takes_of rfl rfl rfl rfl)
        (fun W pn xe tk _ => pss_one (ps_match (pv 3)
          (pm_str (pss_one (ps_expr (by exact (pe_methA (E := WE W) (pv 0) L.cl L.mB L.GB hr L.bB (fun σ => L2N.passAt tk σ) (by exact (pa_cons (pv 4) (pa_cons (pe_ix ix_list (pv 5) pe_int (fun _ _ => rfl)) pa_nil)))))))
          (pm_str (pss_one (ps_expr (by exact (pe_bm PySem.F.plainAttrs_list PySem.F.slot_list_append PySem.F.type_list_append mt_append (pv 6) (by exact (pa_cons (by exact (pe_methA (E := WE W) (pv 0) L.cl L.mV L.GV hr L.bV (fun σ => L2N.passAt tk σ) (by exact (pa_cons (pv 4) pa_nil)))) pa_nil))))))
          (pm_str (pss_one (ps_expr (by exact (pe_methA (E := WE W) (pv 0) L.cl L.mS L.GS hr L.bS (fun σ => L2N.passAt tk σ) (by exact (pa_cons (pv 4) (pa_cons (pe_ix ix_list (pv 5) pe_int (fun _ _ => rfl)) pa_nil)))))))
          (pm_any (pss_one (ps_expr (by exact (pe_methA (E := WE W) (pv 0) L.cl L.mO L.GO hr L.bO (fun σ => L2N.passAt tk σ) (by exact (pa_cons (pv 4) pa_nil))))))))))))
        (fun a pn E => by exact pmk_hot B h1 (pa_cons (pv 1) pa_nil)))
      (pss_one (ps_ret (pv 6))))), ?_⟩
    have nads : ∀ {l : Addr}, H l = none → ∀ b ∈ z.ads, b ≠ l := fun {l} hl b hb e => by
      obtain ⟨o, ho⟩ := I.live A1 b hb
      rw [e, hl] at ho; cases ho
    have main : ∀ (m l : Addr) (x y : V) (r : List V), d.vs = x :: y :: r → H m = none → upd H m (.lst r) l = none → ∃ H2, H2 = upd (upd H m (.lst r)) l (.lst []) ∧ Same H H2 ∧ H l = none ∧ H2 m = some (.lst r) ∧ H2 l = some (.lst []) ∧ I.At z H2 s := fun m l x y r _ hm hl => by
      have hlm : l ≠ m := fun e => by rw [e, upd_same] at hl; cases hl
      have hl0 : H l = none := by rw [upd_ne hlm] at hl; exact hl
      have s2 : Same H (upd (upd H m (.lst r)) l (.lst [])) := KB.same ((KB.refl.new hm).new hl)
      exact ⟨_, rfl, s2, hl0, by rw [upd_ne hlm.symm]; exact upd_same, upd_same, I.same A1 s2⟩
    have nfp : ∀ {l : Addr}, H l = none → l ∉ z.fp := fun {l} hl hb => nads hl l (I.sub A1 l hb) rfl
    cases d with
    | bg kk tt =>
      refine ⟨_, rfl, t, _, _, _, rfl, hT, fun m hm => ⟨_, _, rfl, _, _, rfl, _, _, rfl, rfl, by simp, fun l hl => ⟨_, rfl, _, rfl, if_true_of (by decide +kernel) ?_⟩⟩⟩
      obtain ⟨H2, eH, s2, hl0, hm2, hl2, A2⟩ := main m l _ _ _ rfl hm hl
      rw [← eH]
      obtain ⟨dz, fz, e0, nf⟩ := I.ins A2
      refine ⟨_, rfl, z.p, dz, fz, rfl, e0, nf _ (by simp), _, rfl, _, rfl, m, _, _, _, rfl, rfl, SqL.of hm2, rfl, z, s, kk, tt, rfl, A2, ok, fun hf r H' kb A' => ?_, fun hf d H' kb => ?_⟩
      · exact ⟨_, rfl, k1 hf l H' ((KB.ofSame s2).trans kb) A' hl0 (kb l _ hl2 (nfp hl0))⟩
      · exact ⟨ex, N.bse, fun a ha => ⟨_, rfl, _, rfl, fun d2 hd2 => k2 hf d2 _ (((KB.ofSame s2).trans kb).new hd2) upd_same⟩⟩
    | rd c =>
      refine ⟨_, rfl, t, _, _, _, rfl, hT, fun m hm => ⟨_, _, rfl, _, _, rfl, _, _, rfl, rfl, by simp, fun l hl => ⟨_, rfl, _, rfl, if_false_of (by decide +kernel) ⟨_, rfl, if_true_of (by decide +kernel) ?_⟩⟩⟩⟩
      obtain ⟨H2, eH, s2, hl0, hm2, hl2, A2⟩ := main m l _ _ _ rfl hm hl
      rw [← eH]
      obtain ⟨dz, fz, e0, nf⟩ := I.ins A2
      refine ⟨_, rfl, .inl ⟨rfl, _, SqL.of hl2⟩, _, rfl, z.p, dz, fz, rfl, e0, nf _ (by simp), _, rfl, z, s, c, rfl, A2, ok, fun hf => ?_, fun hf d H' kb => ?_⟩
      · refine ⟨l, _, _, rfl, rfl, hl2, fits_line (Nat.zero_le 0), _, rfl, ?_⟩
        refine k1 hf l _ ((KB.ofSame s2).fresh hl0) ?_ hl0 upd_same
        rw [I.rd]
        exact I.keep A2 (F := [l]) (KB.refl.upd (by simp)) fun b hb => by simpa using nads hl0 b hb
      · exact ⟨ex, N.bse, fun a ha => ⟨_, rfl, _, rfl, fun d2 hd2 => k2 hf d2 _ (((KB.ofSame s2).trans kb).new hd2) upd_same⟩⟩
    | wr c v =>
      refine ⟨_, rfl, t, _, _, _, rfl, hT, fun m hm => ⟨_, _, rfl, _, _, rfl, _, _, rfl, rfl, by simp, fun l hl => ⟨_, rfl, _, rfl, if_false_of (by decide +kernel) ⟨_, rfl, if_false_of (by decide +kernel) ⟨_, rfl, if_true_of (by decide +kernel) ?_⟩⟩⟩⟩⟩
      obtain ⟨H2, eH, s2, hl0, hm2, hl2, A2⟩ := main m l _ _ _ rfl hm hl
      rw [← eH]
      obtain ⟨dz, fz, e0, nf⟩ := I.ins A2
      refine ⟨_, rfl, z.p, dz, fz, rfl, e0, nf _ (by simp), _, rfl, _, rfl, m, _, _, _, rfl, rfl, SqL.of hm2, rfl, z, s, c, v, rfl, A2, ok, fun hf r H' kb A' => ?_, fun hf d H' kb => ?_⟩
      · exact ⟨_, rfl, k1 hf l H' ((KB.ofSame s2).trans kb) A' hl0 (kb l _ hl2 (nfp hl0))⟩
      · exact ⟨ex, N.bse, fun a ha => ⟨_, rfl, _, rfl, fun d2 hd2 => k2 hf d2 _ (((KB.ofSame s2).trans kb).new hd2) upd_same⟩⟩
    | ov c =>
      refine ⟨_, rfl, t, _, _, _, rfl, hT, fun m hm => ⟨_, _, rfl, _, _, rfl, _, _, rfl, rfl, by simp, fun l hl => ⟨_, rfl, _, rfl, if_false_of (by decide +kernel) ⟨_, rfl, if_false_of (by decide +kernel) ⟨_, rfl, if_false_of (by decide +kernel) ?_⟩⟩⟩⟩⟩
      obtain ⟨H2, eH, s2, hl0, hm2, hl2, A2⟩ := main m l _ _ _ rfl hm hl
      rw [← eH]
      obtain ⟨dz, fz, e0, nf⟩ := I.ins A2
      refine ⟨_, rfl, z.p, dz, fz, rfl, e0, nf _ (by simp), _, rfl, z, s, c, rfl, A2, ok, fun hf r H' kb A' => ?_, fun hf d H' kb => ?_⟩
      · exact ⟨_, rfl, k1 hf l H' ((KB.ofSame s2).trans kb) A' hl0 (kb l _ hl2 (nfp hl0))⟩
      · exact ⟨ex, N.bse, fun a ha => ⟨_, rfl, _, rfl, fun d2 hd2 => k2 hf d2 _ (((KB.ofSame s2).trans kb).new hd2) upd_same⟩⟩
end
end Qk

/-! part D2 -/
set_option Elab.async false
set_option linter.all false
set_option maxRecDepth 100000
set_option maxHeartbeats 2000000
namespace Qk
open PySem PySem.Spec L2
open PyProof.Rows hiding St
abbrev sPlay : Stmt := top 15
abbrev sFU : Stmt := top 18
abbrev sCE : Stmt := top 19
/-- deeds as they are handed in: a list or a tuple of tuples -/
def DsAt (K : PySem.W.Frag) (H : Hp) (a : Addr) (ds : List Dd) : Prop := ∃ ts : List Addr, Sq K H a (ts.map V.ref) ∧ Paired (fun t d => SqT K H t d.vs) ts ds
theorem Sq.keep {K : PySem.W.Frag} {H H' : Hp} {a : Addr} {xs : List V} (h : Sq K H a xs) (k : Same H H') : Sq K H' a xs := h.imp (fun z => k.seq z) (fun z => sameT k z)
theorem DsAt.keep {K : PySem.W.Frag} {H H' : Hp} {a : Addr} {ds : List Dd} (h : DsAt K H a ds) (k : Same H H') : DsAt K H' a ds := by
  obtain ⟨ts, h1, h2⟩ := h
  exact ⟨ts, h1.keep k, Paired.mapP h2 fun t d z => sameT k z⟩
def spPL (I : LI) (CB : Addr) : Sp := fun vs H Q E => ∃ (z : Site) (s : I.T) (i : Int) (c : Str), vs = [.ref z.p, .int i, .str c] ∧ I.At z H s ∧ I.ok s ∧
  (((I.led s).root c).isSome = true → ∀ r p q H', Same H H' → H p = none → H q = none → H' q = some (.lst (((I.led s).on c).map V.str)) → H' p = some (.tup [.str r, .ref q]) → Q (.ref p) H') ∧
  ((I.led s).root c = none → ∀ dd H', Same H H' → H' dd = some (.xd [("at", .int i)]) → E (.ref CB) (some dd) H')
structure PlM (P : Program) (w : World) (K : PySem.W.Frag) (mg : Str → Option Value) (base : Heap) (I : LI) (CN : Addr) (fR fL : Addr) (dR dL : FuncData) : Prop where
  cl : Cls K I.C
  GR : FnOk P w K mg base (L2N.CX P w) 3 fR dR ["self", "cell"] (spRt I CN)
  GL : FnOk P w K mg base (L2N.CX P w) 3 fL dL ["self", "cell"] (spOn I CN)
  bR : Binds K dR ["self", "cell"] []
  bL : Binds K dL ["self", "cell"] []
  mR : Meth K I.C "root" fR
  mL : Meth K I.C "loans_on" fL
section
variable {P : Program} {w : World} {K : PySem.W.Frag} {mg : Str → Option Value} {base : Heap}
theorem scPL : FnScope ["loans", "at", "cell", "e"] ["loans", "at", "cell"] (defScope sPL) := ⟨rfl, rfl, rfl, by decide +kernel, rfl, by decide +kernel, by decide +kernel⟩
theorem ok_PL {f CN fN CB fB fR fL : Addr} {fd dR dL : FuncData} {I : LI} (F : Fun K "place_and_loans" "place_and_loans" sPL f fd) (N : NoE P K mg CN fN) (B : BadE P K mg CB fB) (ex : PySem.W.exmOne K (.ref CN) (.ref CN) = some true) (L : PlM P w K mg base I CN fR fL dR dL) :
    FnOk P w K mg base (L2.CX P w) 4 f fd ["loans", "at", "cell"] (spPL I CB) := by
  refine F.okX scPL (fun vs H Q E h => ?_) (fun cdv A outer s H vs Q E hr h => ?_)
  · obtain ⟨z, s, i, c, rfl, _⟩ := h
    rfl
  · obtain ⟨z, s, i, c, rfl, A1, ok, k1, k2⟩ := h
    have h1 := room_one hr
    refine ⟨_, pss_one (ps_try_from (i := 3) (c := .ref CN) (tb := fun W => tRet (tTup (tCons (tMethA I.C "root" (spRt I CN) (WE W) (tVar 0) (tCons (tVar 2) tNil)) (tCons (tMethA I.C "loans_on" (spOn I CN) (WE W) (tVar 0) (tCons (tVar 2) tNil)) tNil)))) (tm := tMkOwn CB "at" (tCons (tVar 1) tNil))
        rfl rfl scPL.nd rfl rfl rfl ⟨rfl, by decide, Or.inl N.g⟩ (fun hd => L2H.passesAt_of rfl hd) (L2.takes_of rfl rfl rfl rfl)
        (fun W pn xe tk _ => pss_one (ps_ret (by exact (pe_tup (by exact (pa_cons (by exact (pe_methA (E := WE W) (pv 0) L.cl L.mR L.GR hr L.bR (fun σ => L2N.passAt tk σ) (by exact (pa_cons (pv 2) pa_nil)))) (by exact (pa_cons (by exact (pe_methA (E := WE W) (pv 0) L.cl L.mL L.GL hr L.bL (fun σ => L2N.passAt tk σ) (by exact (pa_cons (pv 2) pa_nil)))) pa_nil))))))))
        (fun a pn E => by exact pmk_hot B h1 (pa_cons (pv 1) pa_nil))), ?_⟩
    obtain ⟨dz, fz, e0, nf⟩ := I.ins A1
    have bad : (I.led s).root c = none → ∀ (d : Addr) (H' : Hp), Same H H' → wFrom K (.ref CN) 3 (tMkOwn CB "at" (tCons (tVar 1) tNil)) (fun cls d _ H => E cls d H) (.ref CN) (some d) [some (.ref z.p), some (.int i), some (.str c), none] H' := fun er d H' hs =>
      ⟨ex, N.bse, fun a ha => ⟨_, rfl, _, rfl, fun d2 hd2 => k2 er d2 _ (KB.same ((KB.ofSame hs).new hd2)) upd_same⟩⟩
    refine ⟨_, rfl, z.p, dz, fz, rfl, e0, nf _ (by simp), _, rfl, z, s, c, rfl, A1, ok, fun r er => ?_, fun er d H' hs => bad er d H' hs⟩
    have hi : ((I.led s).root c).isSome = true := by rw [er]; rfl
    refine ⟨_, rfl, z.p, dz, fz, rfl, e0, nf _ (by simp), _, rfl, z, s, c, rfl, A1, ok, fun _ q H' hs hq hq2 => ⟨line_le (Nat.le_refl 2), fun p hp => ?_⟩, fun er d H' hs => bad er d H' hs⟩
    have hp0 : H p = none := by
      cases e : H p with
      | none => rfl
      | some o => rw [hs _ _ e] at hp; cases hp
    exact k1 hi r p q _ (KB.same ((KB.ofSame hs).new hp)) hp0 hq (by rw [upd_ne (ne_of_none hq2 hp)]; exact hq2) upd_same
/-! ### play -/
def spPlay (K : PySem.W.Frag) (CA CL : Addr) : Sp := fun vs H Q _ => ∃ (z : Site) (S : Sto) (a : Addr) (ds : List Dd), vs = [.ref z.p, .ref a] ∧ (AddrI CA CL).At z H S ∧ DsAt K H a ds ∧ ds.length ≤ 400 ∧
  (∀ i, i ≤ ds.length → (stAt S ds i).Ok ∧ (stAt S ds i).Sm) ∧ Fit S ds ds.length ∧ ∀ r H', KB z.fp H H' → (AddrI CA CL).At z H' (stAt S ds ds.length) → Q r H'
theorem gives_le {S : Sto} {d : Dd} : ((AddrI 0 0).gives S d).length ≤ 1 := by cases d <;> simp [LI.gives, Dd.rds]
theorem ta_one {i : Nat} {σ : St} {H : Hp} {v : V} (e : σ[i]? = some (some v)) : (tCons (tVar i) tNil) σ H fun vs H1 => vs = [v] ∧ H1 = H := ⟨v, e, rfl, rfl⟩
theorem ta_mono {i : Nat} {σ : St} {H : Hp} : ∀ Q Q' : List V → Hp → Prop, (∀ vs H1, Q vs H1 → Q' vs H1) → (tCons (tVar i) tNil) σ H Q → (tCons (tVar i) tNil) σ H Q' := fun Q Q' h ⟨v, e, q⟩ => ⟨v, e, h _ _ q⟩
theorem scPlay : FnScope ["loans", "deeds", "found", "at", "deed"] ["loans", "deeds"] (defScope sPlay) := ⟨rfl, rfl, rfl, by decide +kernel, rfl, by decide +kernel, by decide +kernel⟩
theorem len_rds {α : Type} {d : Dd} {f : Str → α} : (d.rds f).length ≤ 1 := by cases d <;> simp [Dd.rds]
theorem ok_play {f fD CA CL CB : Addr} {fd dD : FuncData} (F : Fun K "play" "play" sPlay f fd) (FD : FnOk P w K mg base (L2.CX P w) 4 fD dD ["loans", "at", "deed"] (spDo K (AddrI CA CL) CB)) (kD : PySem.W.keepIn K (.ref fD) = true) (bD : Binds K dD ["loans", "at", "deed"] []) (gD : mg "do_deed" = some (.ref fD)) (gE : mg "enumerate" = none) :
    FnOk P w K mg base (L2.CX P w) 5 f fd ["loans", "deeds"] (spPlay K CA CL) := by
  refine F.okX scPlay (fun vs H Q E h => ?_) (fun cdv A outer s H vs Q E hr h => ?_)
  · obtain ⟨z, S, a, ds, rfl, _⟩ := h
    rfl
  · obtain ⟨z, S, a, ds, rfl, A1, ⟨ts, hL, hP⟩, hlen, hok, hfit, k⟩ := h
    refine ⟨_, pss_cons (ps_set (i := 2) scPlay.nd rfl (.inl rfl) (pe_lst pa_nil))
      (pss_cons (ps_for (passes_of rfl) rfl (pi_enumS (by rfl) gE (pa_cons (pv 1) pa_nil)) (by exact pg_tup rfl (pgs_cons (pg_name (i := 3) scPlay.nd rfl (.inl rfl)) (pgs_cons (pg_name (i := 4) scPlay.nd rfl (.inl rfl)) pgs_nil)))
        (pss_one (ps_expr (by exact (pe_bm PySem.F.plainAttrs_list PySem.F.slot_list_extend PySem.F.type_list_extend mt_extend (pv 2) (by exact (pa_cons (by exact (pe_callS (E := WE fun cls d _ H => E cls d H) FD hr rfl gD kD bD (fun σ => L2.passAt (L2.takes_of rfl rfl rfl rfl) σ) (by exact (pa_cons (pv 0) (pa_cons (pv 3) (pa_cons (pv 4) pa_nil)))))) pa_nil)))))))
      (pss_one (ps_ret (pv 2)))), ?_⟩
    have hl : ts.length = ds.length := Paired.length hP
    refine ⟨by simp, fun l hl0 => ?_⟩
    have nfp : ∀ {b : Addr}, H b = none → b ∉ z.fp := fun {b} hb hm => by
      obtain ⟨_, e⟩ := (AddrI CA CL).dk A1 b hm
      rw [hb] at e; cases e
    have dk := (AddrI CA CL).dk A1
    have kF : ∀ {H' : Hp}, KB (l :: z.fp) H H' → KB z.fp H H' := fun {H'} kb b o e n => kb b o e (by
      intro z2
      rcases List.mem_cons.mp z2 with z2 | z2
      · rw [z2, hl0] at e; cases e
      · exact n z2)
    have nads : ∀ b ∈ z.ads, b ≠ l := fun b hb e => by
      obtain ⟨o, ho⟩ := (AddrI CA CL).live A1 b hb
      rw [e, hl0] at ho; cases ho
    refine for_enumS (K := K) (a := a) (xs := ts.map V.ref) (fun i σ H2 => ∃ (o1 o2 : Option V) (fs : List V), σ = [some (.ref z.p), some (.ref a), some (.ref l), o1, o2] ∧ KB (l :: z.fp) H H2 ∧ (AddrI CA CL).At z H2 (stAt S ds i) ∧ H2 l = some (.lst fs) ∧ fs.length ≤ i)
      (ta_one rfl) ta_mono ⟨none, none, [], rfl, KB.refl.upd (by simp), (AddrI CA CL).keep A1 (F := [l]) (KB.refl.upd (by simp)) (fun b hb => by simpa using nads b hb), upd_same, Nat.le_refl _⟩ ?_ ?_ ?_
    · rcases hL with q | q
      · refine .inl ?_
        rintro i σ' H' hi ⟨o1, o2, fs, rfl, kb, A2, hfs, hf⟩
        exact ((kF kb).sq dk).1 q
      · refine .inr ?_
        rintro i σ' H' hi ⟨o1, o2, fs, rfl, kb, A2, hfs, hf⟩
        exact ((kF kb).sq dk).2 q
    · rintro i x σ' H' T hx ⟨o1, o2, fs, rfl, kb, A2, hfs, hf⟩ hT
      rw [List.getElem?_map] at hx
      cases et : ts[i]? with
      | none => rw [et] at hx; cases hx
      | some t =>
        rw [et] at hx
        cases hx
        obtain ⟨d, hd, hTd⟩ := paired_get hP et
        have hi : i < ds.length := (List.getElem?_eq_some_iff.mp hd).1
        have hTd' : SqT K H' t d.vs := ((kF kb).sq dk).2 hTd
        have sT : Same H' (upd H' T (.tup [.int (i : Nat), .ref t])) := KB.same (KB.refl.new hT)
        refine ⟨T, _, rfl, SqT.of upd_same, rfl, _, _, rfl, _, _, rfl, rfl, ?_⟩
        have hl2 : upd H' T (.tup [.int (i : Nat), .ref t]) l = some (.lst fs) := sT _ _ hfs
        have A3 := LI.same A2 sT
        refine ⟨_, rfl, .inl ⟨rfl, _, SqL.of hl2⟩, _, rfl, _, rfl, _, rfl, z, stAt S ds i, (i : Nat), t, d, rfl, A3, hok i (Nat.le_of_lt hi), sameT sT hTd', fun hf2 p H3 kb3 A4 hp hp2 => ?_, fun hf2 => ?_⟩
        · have nlp : l ≠ p := ne_of_none hl2 hp
          have hl3 : H3 l = some (.lst fs) := kb3 _ _ hl2 (nfp hl0)
          have glen : ((AddrI CA CL).gives (stAt S ds i) d).length ≤ 1 := len_rds
          refine ⟨l, p, fs, _, rfl, rfl, hl3, hp2, ?_, ?_⟩
          · refine line_le (m := 1000) ?_
            omega
          · refine ⟨_, _, _, rfl, ?_, ?_, upd_same, ?_⟩
            · exact (((kb.new hT).trans (kb3.mono fun b hb => List.mem_cons_of_mem _ hb))).upd (by simp)
            · rw [stAt_next hd]
              exact (AddrI CA CL).keep A4 (F := [l]) (KB.refl.upd (by simp)) (fun b hb => by simpa using nads b hb)
            · rw [List.length_append]; omega
        · have q := hfit i d hi hd
          rw [show (AddrI CA CL).led (stAt S ds i) = stAt S ds i from rfl, q] at hf2
          cases hf2
    · rintro σ' H' ⟨o1, o2, fs, rfl, kb, A2, hfs, hf⟩
      rw [List.length_map, hl] at A2
      exact ⟨_, rfl, k _ H' (kF kb) A2⟩
end
end Qk

/-! part D3 -/
set_option Elab.async false
set_option linter.all false
set_option maxRecDepth 100000
set_option maxHeartbeats 2000000
namespace Qk
open PySem PySem.Spec L2
open PyProof.Rows hiding St
/-- the n-th index as it stands -/
def ixV (n : Nat) : V := .int (n : Int)
def optV : Option Nat → V
  | none => .non
  | some n => ixV n
def spFU (K : PySem.W.Frag) (CB : Addr) : Sp := fun vs H Q E => ∃ (a b : Addr) (ps : List (Str × V)) (ds : List Dd), vs = [.ref a, .ref b] ∧ PlcAt K H a ps ∧ DsAt K H b ds ∧ (keys ps).Nodup ∧ ps.length ≤ 4 ∧ ds.length ≤ 100 ∧
  (Fit (Sto.init ps) ds ds.length → ∀ H', Same H H' → Q (optV (firstU (Sto.init ps) ds)) H') ∧
  (∀ i d, ds[i]? = some d → Fit (Sto.init ps) ds i → (stAt (Sto.init ps) ds i).fits d = false → ∀ dd H', Same H H' → H' dd = some (.xd [("at", .int i)]) → E (.ref CB) (some dd) H')
/-- what makes a loans object -/
structure NewM (P : Program) (w : World) (K : PySem.W.Frag) (mg : Str → Option Value) (base : Heap) (I : LI) (s0 : List (Str × V) → I.T) (f : Addr) (fd : FuncData) (x : Str) : Prop where
  G : FnOk P w K mg base CX0 3 f fd ["self", "places"] (spNew K I s0)
  M : Mk K I.C f
  b : Binds K fd ["self", "places"] []
  g : mg x = some (.ref I.C)
/-- a def called by its name -/
structure CallM (P : Program) (w : World) (K : PySem.W.Frag) (mg : Str → Option Value) (base : Heap) (CX : CXT) (k : Nat) (f : Addr) (fd : FuncData) (x : Str) (ps : List Str) (sp : Sp) : Prop where
  G : FnOk P w K mg base CX k f fd ps sp
  b : Binds K fd ps []
  g : mg x = some (.ref f)
  kp : PySem.W.keepIn K (.ref f) = true
theorem root_unfit {S : Sto} (ok : S.Ok) {d : Dd} (h : S.root d.touch = none) : S.fits d = false := by
  cases d with
  | bg k t =>
    have h' : S.root t = none := h
    unfold Sto.fits; simp [h']
  | rd c =>
    have h' : S.root c = none := h
    unfold Sto.fits; simp [h']
  | wr c v =>
    have h' : S.root c = none := h
    unfold Sto.fits; simp [h']
  | ov k =>
    have h' : S.root k = none := h
    refine decide_eq_false fun hk => ?_
    have := (Sto.root_some ok (c := k)).mpr (.inr hk)
    rw [h'] at this; cases this
theorem run_ok {ps : List (Str × V)} {ds : List Dd} (hnd : (keys ps).Nodup) (hl : ps.length ≤ 4) (hd : ds.length ≤ 400) {i : Nat} (hi : i ≤ ds.length) (hf : Fit (Sto.init ps) ds i) : (stAt (Sto.init ps) ds i).Ok ∧ (stAt (Sto.init ps) ds i).Sm := by
  have le := le_run (ps := ps) (ds := ds) hl hi
  exact ⟨stAt_ok (init_ok hnd) hi hf, by have := le.ps; omega, by have := le.tg; omega, by have := le.rt; omega, by have := le.od; omega⟩
theorem Fit.next {S : Sto} {ds : List Dd} {i : Nat} {d : Dd} (h : Fit S ds i) (e : ds[i]? = some d) (f : (stAt S ds i).fits d = true) : Fit S ds (i + 1) := fun j d' hj e' => by
  by_cases q : j = i
  · subst q
    rw [e] at e'; cases e'
    exact f
  · exact h j d' (by omega) e'
section
variable {P : Program} {w : World} {K : PySem.W.Frag} {mg : Str → Option Value} {base : Heap}
theorem scFU : FnScope ["places", "deeds", "loans", "untidy", "at", "deed", "_", "busy"] ["places", "deeds"] (defScope sFU) := ⟨rfl, rfl, rfl, by decide +kernel, rfl, by decide +kernel, by decide +kernel⟩
theorem ok_FU {f CA CL CB fA fP fC fD : Addr} {fd dA dP dC dD : FuncData} (F : Fun K "first_untidy" "first_untidy" sFU f fd) (NA : NewM P w K mg base (AddrI CA CL) Sto.init fA dA "AddressLoans")
    (MP : CallM P w K mg base (L2.CX P w) 4 fP dP "place_and_loans" ["loans", "at", "cell"] (spPL (AddrI CA CL) CB)) (MC : CallM P w K mg base CX0 1 fC dC "cell_of" ["deed"] (spCell K)) (MD : CallM P w K mg base (L2.CX P w) 4 fD dD "do_deed" ["loans", "at", "deed"] (spDo K (AddrI CA CL) CB)) (gE : mg "enumerate" = none) :
    FnOk P w K mg base (L2.CX P w) 5 f fd ["places", "deeds"] (spFU K CB) := by
  refine F.okX scFU (fun vs H Q E h => ?_) (fun cdv A outer s H vs Q E hr h => ?_)
  · obtain ⟨a, b, ps, ds, rfl, _⟩ := h
    rfl
  · obtain ⟨a, b, ps, ds, rfl, hP, hD, hnd, hpl, hdl, k1, k2⟩ := h
    refine ⟨_, pss_cons (ps_set (i := 2) scFU.nd rfl (.inl rfl) (pe_make NA.M NA.G hr rfl NA.g NA.b .nil pass0 (pa_cons (pv 0) pa_nil)))
      (pss_cons (ps_set (i := 3) scFU.nd rfl (.inl rfl) (pe_lst pa_nil))
      (pss_cons (ps_for (passes_of rfl) rfl (pi_enumS (by rfl) gE (pa_cons (pv 1) pa_nil)) (by exact pg_tup rfl (pgs_cons (pg_name (i := 4) scFU.nd rfl (.inl rfl)) (pgs_cons (pg_name (i := 5) scFU.nd rfl (.inl rfl)) pgs_nil)))
        (pss_cons (ps_asg (by exact (pe_callS (E := WE fun cls d _ H => E cls d H) MP.G hr rfl MP.g MP.kp MP.b (fun σ => L2.passAt (L2.takes_of rfl rfl rfl rfl) σ) (by exact (pa_cons (pv 2) (pa_cons (pv 4) (pa_cons (by exact (pe_call MC.G (hr.mono (by decide)) rfl MC.g MC.kp MC.b .nil pass0 (pa_cons (pv 5) pa_nil))) pa_nil))))))
            (by exact pg_tup rfl (pgs_cons (pg_name (i := 6) scFU.nd rfl (.inl rfl)) (pgs_cons (pg_name (i := 7) scFU.nd rfl (.inl rfl)) pgs_nil))))
        (pss_cons (ps_expr (by exact (pe_callS (E := WE fun cls d _ H => E cls d H) MD.G hr rfl MD.g MD.kp MD.b (fun σ => L2.passAt (L2.takes_of rfl rfl rfl rfl) σ) (by exact (pa_cons (pv 2) (pa_cons (pv 4) (pa_cons (pv 5) pa_nil)))))))
        (pss_one (ps_if (pt_truth (pv 7) (by intro _; rfl)) (pss_one (ps_expr (by exact (pe_bm PySem.F.plainAttrs_list PySem.F.slot_list_append PySem.F.type_list_append mt_append (pv 3) (by exact (pa_cons (pv 4) pa_nil)))))) pss_nil)))))
      (pss_cons (ps_if (pt_truth (pv 3) (by intro _; rfl)) (pss_one (ps_ret (pe_ix ix_list (pv 3) pe_int (fun _ _ => rfl)))) pss_nil)
      (pss_one (ps_ret pe_non))))), ?_⟩
    obtain ⟨ts, hL, hPd⟩ := hD
    have hl : ts.length = ds.length := Paired.length hPd
    refine ⟨_, rfl, fun x dxx nx ndx nex => ?_⟩
    have s0 : Same H (upd (upd H dxx (.own x)) x (.ins (AddrI CA CL).C dxx [])) := fun b o e => by
      rw [upd_ne (ne_of_none e nx), upd_ne (ne_of_none e ndx)]
      exact e
    refine ⟨x, dxx, a, ps, rfl, upd_same, hP.keep s0, hnd, by omega, fun z H1 ez A1 kb1 fr1 => ⟨rfl, ?_⟩⟩
    subst ez
    have s1 : Same H H1 := fun b o e => kb1 b o (s0 b o e) (by simpa using ne_of_none e nx)
    have frz : ∀ b ∈ z.ads, H b = none := fun b hb => by
      rcases fr1 b hb with e | e
      · rw [e]; exact nx
      · cases q : H b with
        | none => rfl
        | some o => rw [s0 _ _ q] at e; cases e
    refine ⟨by simp, fun u hu => ?_⟩
    have hu0 : H u = none := by
      cases q : H u with
      | none => rfl
      | some o => rw [s1 _ _ q] at hu; cases hu
    have nadsu : ∀ b ∈ z.ads, b ≠ u := fun b hb e => by
      obtain ⟨o, ho⟩ := (AddrI CA CL).live A1 b hb
      rw [e, hu] at ho; cases ho
    have nfpu : u ∉ z.fp := fun hm => nadsu u ((AddrI CA CL).sub A1 u hm) rfl
    -- all that is written is new
    have toSame : ∀ {H' : Hp}, KB (u :: z.fp) H H' → Same H H' := fun {H'} kb => kb.clean fun b hb => by
      rcases List.mem_cons.mp hb with e | hb
      · rw [e]; exact hu0
      · exact frz b ((AddrI CA CL).sub A1 b hb)
    refine for_enumS (K := K) (a := b) (xs := ts.map V.ref) (fun i σ H2 => ∃ o1 o2 o3 o4 : Option V, σ = [some (.ref a), some (.ref b), some (.ref z.p), some (.ref u), o1, o2, o3, o4] ∧ KB (u :: z.fp) H H2 ∧ (AddrI CA CL).At z H2 (stAt (Sto.init ps) ds i) ∧
        H2 u = some (.lst ((us (Sto.init ps) ds i).map ixV)) ∧ Fit (Sto.init ps) ds i)
      (ta_one rfl) ta_mono ⟨none, none, none, none, rfl, (KB.ofSame s1).upd (by simp), (AddrI CA CL).keep A1 (F := [u]) (KB.refl.upd (by simp)) (fun b hb => by simpa using nadsu b hb), upd_same, Fit.zero⟩ ?_ ?_ ?_
    · rcases hL with q | q
      · refine .inl ?_
        rintro i σ' H' hi ⟨o1, o2, o3, o4, rfl, kb, _⟩
        exact (toSame kb).seq q
      · refine .inr ?_
        rintro i σ' H' hi ⟨o1, o2, o3, o4, rfl, kb, _⟩
        exact sameT (toSame kb) q
    · rintro i y σ' H' T hx ⟨o1, o2, o3, o4, rfl, kb, A2, hus, hfit⟩ hT
      rw [List.getElem?_map] at hx
      cases et : ts[i]? with
      | none => rw [et] at hx; cases hx
      | some t =>
        rw [et] at hx
        cases hx
        obtain ⟨d, hd, hTd⟩ := paired_get hPd et
        have hi : i < ds.length := (List.getElem?_eq_some_iff.mp hd).1
        have hTd' : SqT K H' t d.vs := sameT (toSame kb) hTd
        obtain ⟨ok, sm⟩ := run_ok hnd hpl (by omega) (Nat.le_of_lt hi) hfit
        have sT : Same H' (upd H' T (.tup [.int (i : Nat), .ref t])) := KB.same (KB.refl.new hT)
        have kbT : KB (u :: z.fp) H (upd H' T (.tup [.int (i : Nat), .ref t])) := kb.trans (KB.ofSame sT)
        refine ⟨T, _, rfl, SqT.of upd_same, rfl, _, _, rfl, _, _, rfl, rfl, ?_⟩
        have A3 := LI.same A2 sT
        refine ⟨_, rfl, _, rfl, _, rfl, t, d, rfl, sameT sT hTd', z, stAt (Sto.init ps) ds i, (i : Nat), d.touch, rfl, A3, ⟨ok, sm⟩, fun hroot r p q H3 s3 hp hq hq2 hp2 => ?_, fun hroot dd H3 s3 hdd => ?_⟩
        · refine ⟨p, _, rfl, SqT.of hp2, rfl, _, _, rfl, _, _, rfl, rfl, ?_⟩
          have A4 := LI.same A3 s3
          refine ⟨_, rfl, _, rfl, _, rfl, z, stAt (Sto.init ps) ds i, (i : Nat), t, d, rfl, A4, ⟨ok, sm⟩, sameT s3 (sameT sT hTd'), fun hf2 p4 H4 kb4 A5 hp4 hp42 => ?_, fun hf2 dd H4 kb4 hdd => ?_⟩
          · have hqz : q ∉ z.fp := fun hm => by
              obtain ⟨_, e⟩ := (AddrI CA CL).dk A3 q hm
              rw [e] at hq; cases hq
            have hq4 := kb4 _ _ hq2 hqz
            have hu4 : H4 u = some (.lst ((us (Sto.init ps) ds i).map ixV)) := kb4 _ _ (s3 _ _ (sT _ _ hus)) nfpu
            have kbe : KB (u :: z.fp) H H4 := (kbT.trans (KB.ofSame s3)).trans (kb4.mono fun b hb => List.mem_cons_of_mem _ hb)
            have hfit' := hfit.next hd hf2
            have ebusy : busyAt (Sto.init ps) ds i = !((stAt (Sto.init ps) ds i).on d.touch).isEmpty := by unfold busyAt; rw [hd]
            have A5' : (AddrI CA CL).At z H4 (stAt (Sto.init ps) ds (i + 1)) := by rw [stAt_next hd]; exact A5
            refine ⟨_, rfl, busyAt (Sto.init ps) ds i, .inl ⟨_, SqL.of hq4, by rw [ebusy, List.isEmpty_map]; rfl⟩, ?_⟩
            refine iteB (fun eb => ?_) (fun eb => ?_)
            · refine ⟨_, rfl, .inl ⟨rfl, _, SqL.of hu4⟩, _, rfl, u, _, _, rfl, rfl, hu4, ?_, ?_⟩
              · refine fits_line (m := 900) ?_
                rw [List.length_map]
                have := us_le (S := Sto.init ps) (ds := ds) i
                omega
              · refine ⟨_, _, _, _, rfl, kbe.upd (by simp), (AddrI CA CL).keep A5' (F := [u]) (KB.refl.upd (by simp)) (fun b hb => by simpa using nadsu b hb), ?_, hfit'⟩
                rw [upd_same, us_next, if_pos eb, List.map_append]
                rfl
            · refine ⟨_, _, _, _, rfl, kbe, A5', ?_, hfit'⟩
              rw [us_next, if_neg (by rw [eb]; decide), List.append_nil]
              exact hu4
          · exact k2 i d hd hfit hf2 dd H4 (toSame ((kbT.trans (KB.ofSame s3)).trans (kb4.mono fun b hb => List.mem_cons_of_mem _ hb))) hdd
        · exact k2 i d hd hfit (root_unfit ok hroot) dd H3 (toSame (kbT.trans (KB.ofSame s3))) hdd
    · rintro σ' H' ⟨o1, o2, o3, o4, rfl, kb, A2, hus, hfit⟩
      rw [List.length_map, hl] at hus hfit
      have q := k1 hfit H' (toSame kb)
      unfold firstU at q
      refine ⟨_, rfl, _, .inl ⟨_, SqL.of hus, rfl⟩, ?_⟩
      cases e : us (Sto.init ps) ds ds.length with
      | nil =>
        refine if_false_of rfl ?_
        rw [e] at q
        exact q
      | cons n r =>
        refine if_true_of rfl ?_
        rw [e] at q hus
        exact ⟨_, rfl, u, _, _, _, rfl, rfl, SqL.of hus, atI_nat (j := 0) rfl, q⟩
end
end Qk

/-! part D4 -/
set_option Elab.async false
set_option linter.all false
set_option maxRecDepth 100000
set_option maxHeartbeats 2000000
namespace Qk
open PySem PySem.Spec L2
open PyProof.Rows hiding St
def spCE (CA CL : Addr) : Sp := fun vs H Q _ => ∃ (z : Site) (S : Sto) (c : Str), vs = [.ref z.p, .str c] ∧ (AddrI CA CL).At z H S ∧ S.Ok ∧ S.Sm ∧ (S.root c).isSome = true ∧ ∀ H', Same H H' → Q (.str (S.endOf c)) H'
theorem nxt_eq {S : Sto} {c x : Str} {r : List Str} (h : S.on c = x :: r) : S.nxt c = x := by unfold Sto.nxt; rw [h]
section
variable {P : Program} {w : World} {K : PySem.W.Frag} {mg : Str → Option Value} {base : Heap}
theorem scCE : FnScope ["loans", "cell", "end", "on"] ["loans", "cell"] (defScope sCE) := ⟨rfl, rfl, rfl, by decide +kernel, rfl, by decide +kernel, by decide +kernel⟩
theorem ok_CE {f CA CL CN fR fL : Addr} {fd dR dL : FuncData} (F : Fun K "chain_end" "chain_end" sCE f fd) (L : PlM P w K mg base (AddrI CA CL) CN fR fL dR dL) : FnOk P w K mg base CX0 4 f fd ["loans", "cell"] (spCE CA CL) := by
  refine F.ok scCE (fun vs H Q E h => ?_) (fun cdv A outer s H vs Q E hr h => ?_)
  · obtain ⟨z, S, c, rfl, _⟩ := h
    rfl
  · obtain ⟨z, S, c, rfl, A1, ok, sm, hc, k⟩ := h
    refine ⟨_, pss_cons (ps_set (i := 2) scCE.nd rfl (.inl rfl) (pv 1))
      (pss_cons (ps_whileW PassesOwn.never (ptw_truth (pew_named (i := 3) scCE.nd rfl (.inl rfl) (pew_of (by exact (pe_meth (pv 0) L.cl L.mL L.GL hr L.bL .nil passN (pa_cons (pv 2) pa_nil)))))) (pss_one (ps_set (i := 2) scCE.nd rfl (.inl rfl) (pe_ix ix_list (pv 3) pe_int (fun _ _ => rfl)))) pss_nil)
      (pss_one (ps_ret (pv 2)))), ?_⟩
    refine ⟨_, rfl, fun m σ' H' => ∃ (j : Nat) (o : Option V), m = S.tg.length - j ∧ j ≤ S.tg.length ∧ σ' = [some (.ref z.p), some (.str c), some (.str (iter S.nxt j c)), o] ∧ Same H H' ∧ (S.root (iter S.nxt j c)).isSome = true,
      ⟨_, 0, none, rfl, Nat.zero_le _, rfl, fun _ _ e => e, hc⟩, ?_⟩
    rintro m σ' H' ⟨j, o, rfl, hj, rfl, hs, hroot⟩
    have A2 := LI.same A1 hs
    obtain ⟨dz, fz, e0, nf⟩ := (AddrI CA CL).ins A2
    refine ⟨_, rfl, z.p, dz, fz, rfl, e0, nf _ (by simp), _, rfl, z, S, iter S.nxt j c, rfl, A2, ⟨ok, sm⟩, fun _ p H2 hs2 hp hp2 => ?_, fun e => ?_⟩
    · refine ⟨!((S.on (iter S.nxt j c)).map V.str).isEmpty, .inl ⟨_, SqL.of hp2, rfl⟩, ?_⟩
      cases eo : S.on (iter S.nxt j c) with
      | nil =>
        refine if_false_of rfl ?_
        have q := k H2 fun b o e => hs2 b o (hs b o e)
        rw [end_of hj eo] at q
        exact ⟨_, rfl, q⟩
      | cons x r =>
        refine if_true_of rfl ?_
        have hne : S.on (iter S.nxt j c) ≠ [] := by rw [eo]; intro z; cases z
        have hlt := iter_lt ok hne
        have en : S.nxt (iter S.nxt j c) = x := nxt_eq eo
        have hgo := nxt_go hne
        have e0' : ((AddrI CA CL).led S).on (iter S.nxt j c) = x :: r := eo
        rw [e0'] at hp2
        refine ⟨_, fun _ _ q => q, _, rfl, p, _, _, _, rfl, rfl, SqL.of hp2, atI_nat (j := 0) rfl, ?_⟩
        refine ⟨_, ?_, j + 1, some (.ref p), rfl, hlt, ?_, fun b o e => hs2 b o (hs b o e), ?_⟩
        · omega
        · show _ = [some (V.ref z.p), some (V.str c), some (V.str (S.nxt (iter S.nxt j c))), some (V.ref p)]
          rw [en]; rfl
        · show (S.root (S.nxt (iter S.nxt j c))).isSome = true
          rw [Sto.root_some ok]
          exact .inr (pair_key hgo)
    · have e' : S.root (iter S.nxt j c) = none := e
      rw [e'] at hroot; cases hroot
end
end Qk

/-! part D5 -/
set_option Elab.async false
set_option linter.all false
set_option maxRecDepth 100000
set_option maxHeartbeats 4000000
namespace Qk
open PySem PySem.Spec L2
open PyProof.Rows hiding St
abbrev sSur : Stmt := top 20
theorem paired_app {α β : Type} {F : α → β → Prop} : ∀ {l l2 : List α} {m m2 : List β}, Paired F l m → Paired F l2 m2 → Paired F (l ++ l2) (m ++ m2)
  | _, _, _, _, .nil, h => h
  | _, _, _, _, .cons r t, h => .cons r (paired_app t h)
theorem paired_take {α β : Type} {F : α → β → Prop} : ∀ {l : List α} {m : List β} (n : Nat), Paired F l m → Paired F (l.take n) (m.take n)
  | _, _, 0, _ => .nil
  | _, _, _ + 1, .nil => .nil
  | _, _, n + 1, .cons r t => .cons r (paired_take n t)
theorem cut_take (xs : List V) {n : Nat} (h : n ≤ xs.length) : cutV xs none (some (n : Int)) = xs.take n := by
  unfold cutV
  rw [HT.sIx_none, HT.sIx_nat, Nat.min_eq_left h, List.drop_zero, Nat.sub_zero]
/-- a new list of deeds -/
def DlAt (K : PySem.W.Frag) (H : Hp) (p : Addr) (ds : List Dd) : Prop := ∃ ts : List Addr, H p = some (.lst (ts.map V.ref)) ∧ Paired (fun t d => SqT K H t d.vs) ts ds
theorem DlAt.ds {K : PySem.W.Frag} {H : Hp} {p : Addr} {ds : List Dd} (h : DlAt K H p ds) : DsAt K H p ds := by
  obtain ⟨ts, h1, h2⟩ := h
  exact ⟨ts, .inl (SqL.of h1), h2⟩
theorem DlAt.keep {K : PySem.W.Frag} {H H' : Hp} {p : Addr} {ds : List Dd} (h : DlAt K H p ds) (k : Same H H') : DlAt K H' p ds := by
  obtain ⟨ts, h1, h2⟩ := h
  exact ⟨ts, k _ _ h1, Paired.mapP h2 fun t d z => sameT k z⟩
def spSur (K : PySem.W.Frag) (CB : Addr) : Sp := fun vs H Q E => ∃ (a b : Addr) (ps : List (Str × V)) (ds : List Dd) (m : V), vs = [.ref a, .ref b, m] ∧ PlcAt K H a ps ∧ DsAt K H b ds ∧ (keys ps).Nodup ∧ ps.length ≤ 4 ∧ ds.length ≤ 100 ∧
  (Fit (Sto.init ps) ds ds.length → firstU (Sto.init ps) ds = none → ∀ H', Same H H' → Q .non H') ∧
  (Fit (Sto.init ps) ds ds.length → ∀ n, firstU (Sto.init ps) ds = some n → ∀ p H', Same H H' → H p = none → DlAt K H' p (surr (Sto.init ps) ds m n) → Q (.ref p) H') ∧
  (∀ i d, ds[i]? = some d → Fit (Sto.init ps) ds i → (stAt (Sto.init ps) ds i).fits d = false → ∀ dd H', Same H H' → H' dd = some (.xd [("at", .int i)]) → E (.ref CB) (some dd) H')
theorem begs_next {l : List Dd} {c : Str} {i : Nat} {d : Dd} (h : l[i]? = some d) : begs (l.take (i + 1)) c = begs (l.take i) c ++ begs [d] c := by
  unfold begs; rw [take_next h, List.filterMap_append]
theorem begs_le {l : List Dd} {c : Str} : (begs l c).length ≤ l.length := List.length_filterMap_le ..
/-- all deeds fit, or the first that does not -/
theorem fit_or {S : Sto} {ds : List Dd} : Fit S ds ds.length ∨ ∃ i d, ds[i]? = some d ∧ Fit S ds i ∧ (stAt S ds i).fits d = false := by
  have go : ∀ n, n ≤ ds.length → Fit S ds n ∨ ∃ i d, ds[i]? = some d ∧ Fit S ds i ∧ (stAt S ds i).fits d = false := by
    intro n
    induction n with
    | zero => exact fun _ => .inl Fit.zero
    | succ n ih =>
      intro hn
      rcases ih (Nat.le_of_succ_le hn) with h | h
      · obtain ⟨d, e⟩ : ∃ d, ds[n]? = some d := ⟨ds[n], List.getElem?_eq_getElem hn⟩
        cases q : (stAt S ds n).fits d with
        | true => exact .inl (h.next e q)
        | false => exact .inr ⟨n, d, e, h, q⟩
      · exact .inr h
  exact go _ (Nat.le_refl _)
theorem ix_sq {K : PySem.W.Frag} {H : Hp} {a : Addr} {xs : List V} {n : Nat} {v : V} {Q : VK} (h : Sq K H a xs) (e : xs[n]? = some v) (q : Q v H) : rIx K (.ref a) (ixV n) H Q := by
  rcases h with h | h
  · exact .inl ⟨a, xs, _, v, rfl, rfl, h, atI_nat e, q⟩
  · exact .inr (.inl ⟨a, xs, _, v, rfl, rfl, h, atI_nat e, q⟩)
theorem sl_sq {K : PySem.W.Frag} {H : Hp} {a : Addr} {xs : List V} {n : Nat} {Q : VK} (h : Sq K H a xs) (hn : n < xs.length) (q : ∀ p H', Same H H' → H p = none → (SqL K H' p (xs.take n) ∨ SqT K H' p (xs.take n)) → Q (.ref p) H') :
    rSlL K (.ref a) none (some (n : Int)) H Q ∨ rSlT K (.ref a) none (some (n : Int)) H Q := by
  rcases h with h | h
  · refine .inl ⟨a, xs, rfl, h, fun p hp => q p _ (KB.same (KB.refl.new hp)) hp (.inl (SqL.of ?_))⟩
    rw [cut_take xs (Nat.le_of_lt hn)]
    exact upd_same
  · refine .inr ⟨a, xs, rfl, h, fun z => ?_, fun p hp => q p _ (KB.same (KB.refl.new hp)) hp (.inr (SqT.of ?_))⟩
    · have e := z.2
      rw [HT.sIx_nat, Nat.min_eq_left (Nat.le_of_lt hn)] at e
      omega
    · rw [cut_take xs (Nat.le_of_lt hn)]
      exact upd_same
theorem none_of_same {H H' : Hp} {b : Addr} (s : Same H H') (e : H' b = none) : H b = none := by
  cases q : H b with
  | none => rfl
  | some o => rw [s _ _ q] at e; cases e
theorem beg_eq {ts : List Addr} {ds : List Dd} {i n : Nat} (h : ds[i]? = some (.bg "" "")) : True := trivial
section
variable {P : Program} {w : World} {K : PySem.W.Frag} {mg : Str → Option Value} {base : Heap}
theorem scSur : FnScope ["places", "deeds", "mark", "at", "before", "loans", "deed", "cell", "end", "targets", "earlier"] ["places", "deeds", "mark"] (defScope sSur) := ⟨rfl, rfl, rfl, by decide +kernel, rfl, by decide +kernel, by decide +kernel⟩
theorem ok_Sur {f CA CL CB fA fU fP fC fE : Addr} {fd dA dU dP dC dE : FuncData} (F : Fun K "surrounded" "surrounded" sSur f fd) (NA : NewM P w K mg base (AddrI CA CL) Sto.init fA dA "AddressLoans")
    (MU : CallM P w K mg base (L2.CX P w) 5 fU dU "first_untidy" ["places", "deeds"] (spFU K CB)) (MP : CallM P w K mg base (L2.CX P w) 5 fP dP "play" ["loans", "deeds"] (spPlay K CA CL)) (MC : CallM P w K mg base CX0 1 fC dC "cell_of" ["deed"] (spCell K))
    (ME : CallM P w K mg base CX0 4 fE dE "chain_end" ["loans", "cell"] (spCE CA CL)) (gL : mg "list" = none) :
    FnOk P w K mg base (L2.CX P w) 6 f fd ["places", "deeds", "mark"] (spSur K CB) := by
  refine F.okX scSur (fun vs H Q E h => ?_) (fun cdv A outer s H vs Q E hr h => ?_)
  · obtain ⟨a, b, ps, ds, m, rfl, _⟩ := h
    rfl
  · obtain ⟨a, b, ps, ds, m, rfl, hP, hD, hnd, hpl, hdl, k0, k1, k2⟩ := h
    refine ⟨_, (pss_cons (ps_set (i := 3) scSur.nd rfl (.inl rfl) (by exact (pe_callS (E := WE (fun cls d _ H => E cls d H)) MU.G hr rfl MU.g MU.kp MU.b (fun σ => L2.passAt (L2.takes_of rfl rfl rfl rfl) σ) (by exact (pa_cons (pv 0) (pa_cons (pv 1) pa_nil))))))
      (pss_cons (ps_if (pt_cmpR op_isN (pv 3) pe_non (nomark _)) (pss_one (ps_ret pe_non)) pss_nil)
      (pss_cons (ps_set (i := 4) scSur.nd rfl (.inl rfl) (pe_callTy call_list_of (by rfl) gL (by decide +kernel) (by exact (pa_cons (pe_slice (sl_list.or sl_tup) (pv 1) po_none (po_some (pv 3))) pa_nil))))
      (pss_cons (ps_set (i := 5) scSur.nd rfl (.inl rfl) (by exact (pe_make NA.M NA.G (hr.mono (by decide)) rfl NA.g NA.b .nil pass0 (by exact (pa_cons (pv 0) pa_nil)))))
      (pss_cons (ps_expr (by exact (pe_call MP.G hr rfl MP.g MP.kp MP.b .nil passB (by exact (pa_cons (pv 5) (pa_cons (pv 4) pa_nil))))))
      (pss_cons (ps_set (i := 6) scSur.nd rfl (.inl rfl) (pe_ix ix_seq (pv 1) (pv 3) (fun _ _ => rfl)))
      (pss_cons (ps_set (i := 7) scSur.nd rfl (.inr rfl) (by exact (pe_call MC.G (hr.mono (by decide)) rfl MC.g MC.kp MC.b .nil pass0 (by exact (pa_cons (pv 6) pa_nil)))))
      (pss_cons (ps_set (i := 8) scSur.nd rfl (.inl rfl) (by exact (pe_call ME.G (hr.mono (by decide)) rfl ME.g ME.kp ME.b .nil pass0 (by exact (pa_cons (pv 5) (pa_cons (pv 7) pa_nil))))))
      (pss_cons (ps_match (pe_ix ix_tup (pv 6) pe_int (fun _ _ => rfl)) (pm_str (pss_one (ps_ret (pe_op op_cat (pv 4) (pe_lst (by exact (pa_cons (pe_tup (by exact (pa_cons pe_str (pa_cons (pv 8) (pa_cons (pv 2) pa_nil))))) (pa_cons (pv 6) (pa_cons (pe_tup (by exact (pa_cons pe_str (pa_cons (pe_ix ix_tup (pv 6) pe_int (fun _ _ => rfl)) pa_nil)))) pa_nil)))))))) (pm_str (pss_one (ps_ret (pe_op op_cat (pv 4) (pe_lst (by exact (pa_cons (pe_tup (by exact (pa_cons pe_str (pa_cons (pv 8) (pa_cons (pv 2) pa_nil))))) (pa_cons (pv 6) pa_nil))))))) (pm_str (pss_one (ps_ret (pe_op op_cat (pv 4) (pe_lst (by exact (pa_cons (pe_tup (by exact (pa_cons pe_str (pa_cons (pv 7) (pa_cons (pv 2) pa_nil))))) (pa_cons (pe_tup (by exact (pa_cons pe_str (pa_cons (pv 8) pa_nil)))) pa_nil))))))) pm_nil))))
      (pss_cons (ps_setLc (i := 9) (own := [("earlier", 10)]) (g := gName 10) (tt := tAnd (tTest (tOp rEq (tOp (rIxT K) (tVar 10) (tC (.int 0))) (tC (.str "begin")))) (tTest (tOp rEq (tOp (rIxT K) (tVar 10) (tC (.int 1))) (tVar 7)))) (te := tOp (rIxT K) (tVar 10) (tC (.int 2))) rfl scSur.nd rfl rfl (sw_true rfl rfl rfl (by decide +kernel)) (pi_list (pv 4)) (blkOk_by (own := [("earlier", 10)]) (N := ["places", "deeds", "mark", "at", "before", "loans", "deed", "cell", "end", "targets", "earlier"]) (sc := defScope sSur) (by decide +kernel)) (fun _ _ _ _ _ => (pg_name (i := 10) scSur.nd rfl (Or.inl rfl) (Or.inr rfl))) (fun _ _ _ _ _ => pts_one (PW.pt (pw_and (pt_cmpR op_eq (pe_ix ix_tup (pv 10) pe_int (fun _ _ => rfl)) pe_str (nomark _)) (pw_and1 (pt_cmpR op_eq (pe_ix ix_tup (pv 10) pe_int (fun _ _ => rfl)) (pv 7) (nomark _)))))) (fun _ _ _ _ _ => (pe_ix ix_tup (pv 10) pe_int (fun _ _ => rfl))))
      (pss_one (ps_ret (pe_op op_cat (pv 4) (pe_lst (by exact (pa_cons (pv 6) (pa_cons (pe_tup (by exact (pa_cons pe_str (pa_cons (pv 8) (pa_cons (pv 2) pa_nil))))) (pa_cons (pe_tup (by exact (pa_cons pe_str (pa_cons (pe_ix ix_list (pv 9) pe_int (fun _ _ => rfl)) pa_nil)))) pa_nil)))))))))))))))))), ?_⟩
    obtain ⟨ts, hL, hPd⟩ := id hD
    have hlen : ts.length = ds.length := Paired.length hPd
    refine ⟨_, rfl, _, rfl, a, b, ps, ds, rfl, hP, hD, hnd, hpl, hdl, fun hfit H1 s1 => ?_, fun i d hd hf hu dd H1 s1 hdd => k2 i d hd hf hu dd H1 s1 hdd⟩
    cases eu : firstU (Sto.init ps) ds with
    | none => exact ⟨_, rfl, rfl, _, rfl, if_true_of rfl (k0 hfit eu H1 s1)⟩
    | some n =>
      obtain ⟨hn, hun, hbusy⟩ := firstU_some eu
      obtain ⟨d, hd⟩ : ∃ d, ds[n]? = some d := ⟨ds[n], List.getElem?_eq_getElem hn⟩
      obtain ⟨t, ht, hT⟩ : ∃ t, ts[n]? = some t ∧ SqT K H t d.vs := by
        obtain ⟨t, ht⟩ : ∃ t, ts[n]? = some t := ⟨ts[n], List.getElem?_eq_getElem (by omega)⟩
        obtain ⟨d', e1, e2⟩ := paired_get hPd ht
        rw [hd] at e1; cases e1
        exact ⟨t, ht, e2⟩
      have hfn : Fit (Sto.init ps) ds n := hfit.mono (Nat.le_of_lt hn)
      obtain ⟨ok, sm⟩ := run_ok hnd hpl (by omega) (Nat.le_of_lt hn) hfn
      have ff := hfit n d hn hd
      have hroot : ((stAt (Sto.init ps) ds n).root d.touch).isSome = true := by
        cases q : (stAt (Sto.init ps) ds n).root d.touch with
        | some r => rfl
        | none => rw [root_unfit ok q] at ff; cases ff
      have ek : ∀ i, i ≤ n → stAt (Sto.init ps) (ds.take n) i = stAt (Sto.init ps) ds i := fun i hi => stAt_take (n := n) (by rw [List.take_take, Nat.min_self]) hi
      have el : (ds.take n).length = n := by rw [List.length_take]; omega
      refine ⟨_, rfl, rfl, _, rfl, if_false_of rfl ?_⟩
      refine ⟨_, rfl, _, rfl, _, rfl, sl_sq (hL.keep s1) (by rw [List.length_map]; omega) fun p H2 s2 hp hp2 => ⟨p, _, rfl, hp2, fun l hl => ?_⟩⟩
      have hl0 : H l = none := none_of_same s1 (none_of_same s2 hl)
      have s3 : Same H (upd H2 l (.lst ((ts.map V.ref).take n))) := KB.same (((KB.ofSame s1).trans (KB.ofSame s2)).new hl)
      have hl3 : upd H2 l (.lst ((ts.map V.ref).take n)) l = some (.lst ((ts.take n).map V.ref)) := by rw [upd_same, List.map_take]
      generalize upd H2 l (.lst ((ts.map V.ref).take n)) = H3 at s3 hl3
      -- loans
      refine ⟨_, rfl, fun x dxx nx ndx nex => ?_⟩
      have s0 : Same H3 (upd (upd H3 dxx (.own x)) x (.ins (AddrI CA CL).C dxx [])) := fun b o e => by
        rw [upd_ne (ne_of_none e nx), upd_ne (ne_of_none e ndx)]
        exact e
      refine ⟨x, dxx, a, ps, rfl, upd_same, (hP.keep s3).keep s0, hnd, by omega, fun z H4 ez A1 kb1 fr1 => ⟨rfl, ?_⟩⟩
      subst ez
      have s4 : Same H3 H4 := fun b o e => kb1 b o (s0 b o e) (by simpa using ne_of_none e nx)
      have frz : ∀ b ∈ z.ads, H3 b = none := fun b hb => by
        rcases fr1 b hb with e | e
        · rw [e]; exact nx
        · exact none_of_same s0 e
      have frf : ∀ b ∈ z.fp, H3 b = none := fun b hb => frz b ((AddrI CA CL).sub A1 b hb)
      -- play
      refine ⟨_, rfl, _, rfl, z, Sto.init ps, l, ds.take n, rfl, A1, ⟨ts.take n, .inl (SqL.of (s4 _ _ hl3)), paired_take n (Paired.mapP hPd fun t d y => sameT s4 (sameT s3 y))⟩, by rw [el]; omega, fun i hi => ?_, ?_, fun r H5 kb5 A5 => ?_⟩
      · rw [el] at hi
        rw [ek i hi]
        exact run_ok hnd hpl (by omega) (Nat.le_trans hi (Nat.le_of_lt hn)) (hfn.mono hi)
      · rw [el]
        exact Fit.take (n := n) (by rw [List.take_take, Nat.min_self]) hfn
      rw [el, ek n (Nat.le_refl _)] at A5
      have s5 : Same H3 H5 := ((KB.ofSame s4).trans kb5).clean frf
      have s5' : Same H H5 := fun b o e => s5 b o (s3 b o e)
      have hT5 := sameT s5' hT
      refine ⟨_, rfl, _, rfl, ix_sq (hL.keep s5') (by rw [List.getElem?_map, ht]; rfl) ?_⟩
      refine ⟨_, rfl, t, d, rfl, hT5, ?_⟩
      refine ⟨_, rfl, _, rfl, z, _, d.touch, rfl, A5, ok, sm, hroot, fun H6 s6 => ?_⟩
      have s6' : Same H H6 := fun b o e => s6 b o (s5' b o e)
      have hT6 := sameT s6' hT
      have hl6 : H6 l = some (.lst ((ts.take n).map V.ref)) := s6 _ _ (s5 _ _ hl3)
      have hPp : ∀ {H' : Hp}, Same H6 H' → Paired (fun t d => SqT K H' t d.vs) (ts.take n) (ds.take n) := fun {H'} sh => paired_take n (Paired.mapP hPd fun t d y => sameT sh (sameT s6' y))
      have fin : ∀ (q : Addr) (H' : Hp) (new : List Addr) (dsn : List Dd), Same H6 H' → H6 q = none → H' q = some (.lst ((ts.take n).map V.ref ++ new.map V.ref)) → Paired (fun t d => SqT K H' t d.vs) new dsn → surr (Sto.init ps) ds m n = ds.take n ++ dsn → Q (.ref q) H' := fun q H' new dsn sh hq hq2 hp3 es => by
        refine k1 hfit n eu q H' (fun b o e => sh b o (s6' b o e)) (none_of_same s6' hq) ?_
        rw [es]
        exact ⟨ts.take n ++ new, by rw [List.map_append]; exact hq2, paired_app (hPp sh) hp3⟩
      have sz : ∀ k : Nat, k ≤ 3 → ((ts.take n).map V.ref).length + k ≤ sizeLine := fun k hk => line_le (m := 900) (by rw [List.length_map, List.length_take]; omega)
      cases d with
      | bg kk tt =>
        refine ⟨_, rfl, t, _, _, _, rfl, rfl, hT6, rfl, _, rfl, if_true_of (by decide +kernel) ?_⟩
        refine ⟨_, rfl, ⟨_, rfl, _, rfl, line_le (m := 3) (Nat.le_refl 3), fun t1 h1 => ⟨_, rfl, _, rfl, t, _, _, _, rfl, rfl, sameT (KB.same (KB.refl.new h1)) hT6, rfl, line_le (m := 3) (by decide : 2 ≤ 3), fun t2 h2 => ⟨line_le (m := 3) (Nat.le_refl 3), fun l2 hl2 => ?_⟩⟩⟩⟩
        · have sA := KB.same (KB.refl.new (F := []) (o := .tup [.str "write", .str ((stAt (Sto.init ps) ds n).endOf tt), m]) h1)
          have sB := KB.same (KB.refl.new (F := []) (o := .tup [.str "read", .str kk]) h2)
          have sC := KB.same (KB.refl.new (F := []) (o := .lst [.ref t1, .ref t, .ref t2]) hl2)
          refine ⟨l, l2, _, _, rfl, rfl, sC _ _ (sB _ _ (sA _ _ hl6)), upd_same, sz 3 (by decide), fun q hq => ?_⟩
          have sD := KB.same (KB.refl.new (F := []) (o := .lst ((ts.take n).map V.ref ++ [.ref t1, .ref t, .ref t2])) hq)
          have sAll : Same H6 _ := fun b o e => sD b o (sC b o (sB b o (sA b o e)))
          refine fin q _ [t1, t, t2] [.wr ((stAt (Sto.init ps) ds n).endOf tt) m, .bg kk tt, .rd kk] sAll (none_of_same sA (none_of_same sB (none_of_same sC hq))) upd_same (.cons (SqT.of (sD _ _ (sC _ _ (sB _ _ upd_same)))) (.cons (sameT sAll hT6) (.cons (SqT.of (sD _ _ (sC _ _ upd_same))) .nil))) ?_
          unfold surr; rw [hd]
      | rd c =>
        refine ⟨_, rfl, t, _, _, _, rfl, rfl, hT6, rfl, _, rfl, if_false_of (by decide +kernel) ⟨_, rfl, if_true_of (by decide +kernel) ?_⟩⟩
        refine ⟨_, rfl, ⟨_, rfl, _, rfl, line_le (m := 3) (Nat.le_refl 3), fun t1 h1 => ⟨_, rfl, line_le (m := 3) (by decide : 2 ≤ 3), fun l2 hl2 => ?_⟩⟩⟩
        have sA := KB.same (KB.refl.new (F := []) (o := .tup [.str "write", .str ((stAt (Sto.init ps) ds n).endOf c), m]) h1)
        have sC := KB.same (KB.refl.new (F := []) (o := .lst [.ref t1, .ref t]) hl2)
        refine ⟨l, l2, _, _, rfl, rfl, sC _ _ (sA _ _ hl6), upd_same, sz 2 (by decide), fun q hq => ?_⟩
        have sD := KB.same (KB.refl.new (F := []) (o := .lst ((ts.take n).map V.ref ++ [.ref t1, .ref t])) hq)
        have sAll : Same H6 _ := fun b o e => sD b o (sC b o (sA b o e))
        refine fin q _ [t1, t] [.wr ((stAt (Sto.init ps) ds n).endOf c) m, .rd c] sAll (none_of_same sA (none_of_same sC hq)) upd_same (.cons (SqT.of (sD _ _ (sC _ _ upd_same))) (.cons (sameT sAll hT6) .nil)) ?_
        unfold surr; rw [hd]
      | wr c v =>
        refine ⟨_, rfl, t, _, _, _, rfl, rfl, hT6, rfl, _, rfl, if_false_of (by decide +kernel) ⟨_, rfl, if_false_of (by decide +kernel) ⟨_, rfl, if_true_of (by decide +kernel) ?_⟩⟩⟩
        refine ⟨_, rfl, ⟨_, rfl, _, rfl, line_le (m := 3) (Nat.le_refl 3), fun t1 h1 => ⟨_, rfl, line_le (m := 3) (by decide : 2 ≤ 3), fun t2 h2 => ⟨line_le (m := 3) (by decide : 2 ≤ 3), fun l2 hl2 => ?_⟩⟩⟩⟩
        have sA := KB.same (KB.refl.new (F := []) (o := .tup [.str "write", .str c, m]) h1)
        have sB := KB.same (KB.refl.new (F := []) (o := .tup [.str "read", .str ((stAt (Sto.init ps) ds n).endOf c)]) h2)
        have sC := KB.same (KB.refl.new (F := []) (o := .lst [.ref t1, .ref t2]) hl2)
        refine ⟨l, l2, _, _, rfl, rfl, sC _ _ (sB _ _ (sA _ _ hl6)), upd_same, sz 2 (by decide), fun q hq => ?_⟩
        have sD := KB.same (KB.refl.new (F := []) (o := .lst ((ts.take n).map V.ref ++ [.ref t1, .ref t2])) hq)
        have sAll : Same H6 _ := fun b o e => sD b o (sC b o (sB b o (sA b o e)))
        refine fin q _ [t1, t2] [.wr c m, .rd ((stAt (Sto.init ps) ds n).endOf c)] sAll (none_of_same sA (none_of_same sB (none_of_same sC hq))) upd_same (.cons (SqT.of (sD _ _ (sC _ _ (sB _ _ upd_same)))) (.cons (SqT.of (sD _ _ (sC _ _ upd_same))) .nil)) ?_
        unfold surr; rw [hd]
      | ov c =>
        refine ⟨_, rfl, t, _, _, _, rfl, rfl, hT6, rfl, _, rfl, if_false_of (by decide +kernel) ⟨_, rfl, if_false_of (by decide +kernel) ⟨_, rfl, if_false_of (by decide +kernel) ?_⟩⟩⟩
        have hk : c ∈ keys (stAt (Sto.init ps) ds n).tg := of_decide_eq_true ff
        obtain ⟨tt, ett⟩ := aget_of_mem hk
        have ebg : begs (ds.take n) c = [tt] := (begs_run hnd (Nat.le_of_lt hn) hfn).1 c tt (aget_pair ett)
        refine ⟨_, rfl, l, rfl, ⟨_, SqL.of hl6⟩, fun D hD => ?_⟩
        refine lc_list (K := K) (a := l) (xs := (ts.take n).map V.ref) (fun i H' => H' D = some (.lst ((begs (ds.take i) c).map V.str)) ∧ KB [D] H6 H') ⟨upd_same, KB.refl.upd (by simp)⟩
          (fun i H' _ h2 => ?_) (fun i x H' hx h2 => ?_) (fun H' h2 => ?_)
        · exact SqL.of (h2.2 _ _ hl6 (by simpa using ne_of_none hl6 hD))
        · rw [List.getElem?_map, List.getElem?_take] at hx
          by_cases hin : i < n
          · rw [if_pos hin] at hx
            cases ei : ts[i]? with
            | none => rw [ei] at hx; cases hx
            | some ti =>
              rw [ei] at hx
              cases hx
              obtain ⟨di, edi, hTi⟩ := paired_get hPd ei
              have hTi' : SqT K H' ti di.vs := sameT (h2.2.clean (by simpa using hD)) (sameT s6' hTi)
              have eb := begs_next (c := c) edi
              have ln : (begs (ds.take i) c).length ≤ 900 := Nat.le_trans begs_le (by rw [List.length_take]; omega)
              cases di with
              | bg j u =>
                refine ⟨rfl, _, rfl, ti, _, _, _, rfl, rfl, hTi', rfl, rfl, _, rfl, if_true_of (by decide +kernel) ⟨_, rfl, ti, _, _, _, rfl, rfl, hTi', rfl, _, rfl, rfl, _, rfl, ?_⟩⟩
                by_cases ej : j = c
                · refine if_true_of (decide_eq_true (congrArg V.str ej)) ?_
                  refine ⟨_, rfl, ti, _, _, _, rfl, rfl, hTi', rfl, _, h2.1, by rw [List.length_map]; exact fits_line ln, ?_, h2.2.upd (by simp)⟩
                  rw [upd_same, eb, List.map_append]
                  simp [begs, ej]
                · refine if_false_of (decide_eq_false fun q => ej (V.str.inj q)) ⟨?_, h2.2⟩
                  rw [eb]
                  simp [begs, ej]
                  exact h2.1
              | rd j =>
                refine ⟨rfl, _, rfl, ti, _, _, _, rfl, rfl, hTi', rfl, rfl, _, rfl, if_false_of (by decide +kernel) (if_false_of rfl ⟨?_, h2.2⟩)⟩
                rw [eb]; simp [begs]; exact h2.1
              | wr j v =>
                refine ⟨rfl, _, rfl, ti, _, _, _, rfl, rfl, hTi', rfl, rfl, _, rfl, if_false_of (by decide +kernel) (if_false_of rfl ⟨?_, h2.2⟩)⟩
                rw [eb]; simp [begs]; exact h2.1
              | ov j =>
                refine ⟨rfl, _, rfl, ti, _, _, _, rfl, rfl, hTi', rfl, rfl, _, rfl, if_false_of (by decide +kernel) (if_false_of rfl ⟨?_, h2.2⟩)⟩
                rw [eb]; simp [begs]; exact h2.1
          · rw [if_neg hin] at hx; cases hx
        · obtain ⟨h7, k7⟩ := h2
          rw [List.length_map, List.length_take, hlen, Nat.min_eq_left (Nat.le_of_lt hn), ebg] at h7
          have s7 : Same H6 H' := k7.clean (by simpa using hD)
          have hT7 := sameT s7 hT6
          refine ⟨_, rfl, ⟨_, rfl, _, rfl, _, rfl, line_le (m := 3) (Nat.le_refl 3), fun t1 h1 => ⟨_, rfl, D, _, _, _, rfl, rfl, SqL.of (KB.same (KB.refl.new h1) _ _ h7), rfl, line_le (m := 3) (by decide : 2 ≤ 3), fun t2 h2 => ⟨line_le (m := 3) (Nat.le_refl 3), fun l2 hl2 => ?_⟩⟩⟩⟩
          have sA := KB.same (KB.refl.new (F := []) (o := .tup [.str "write", .str ((stAt (Sto.init ps) ds n).endOf c), m]) h1)
          have sB := KB.same (KB.refl.new (F := []) (o := .tup [.str "read", .str tt]) h2)
          have sC := KB.same (KB.refl.new (F := []) (o := .lst [.ref t, .ref t1, .ref t2]) hl2)
          refine ⟨l, l2, _, _, rfl, rfl, sC _ _ (sB _ _ (sA _ _ (s7 _ _ hl6))), upd_same, sz 3 (by decide), fun q hq => ?_⟩
          have sD := KB.same (KB.refl.new (F := []) (o := .lst ((ts.take n).map V.ref ++ [.ref t, .ref t1, .ref t2])) hq)
          have sAll : Same H6 _ := fun b o e => sD b o (sC b o (sB b o (sA b o (s7 b o e))))
          refine fin q _ [t, t1, t2] [.ov c, .wr ((stAt (Sto.init ps) ds n).endOf c) m, .rd tt] sAll (none_of_same s7 (none_of_same sA (none_of_same sB (none_of_same sC hq)))) upd_same (.cons (sameT sAll hT6) (.cons (SqT.of (sD _ _ (sC _ _ (sB _ _ upd_same)))) (.cons (SqT.of (sD _ _ (sC _ _ upd_same))) .nil))) ?_
          unfold surr; rw [hd]
          simp only [ett]
          rfl
end
end Qk

/-! part G1 -/
set_option Elab.async false
set_option linter.all false
set_option maxRecDepth 100000
set_option maxHeartbeats 2000000
namespace Qk
open PySem PySem.Spec L2 GenW
open PyProof.Rows hiding St
/-! ### a generator's body, whatever its consumer keeps -/
/-- the consumer's own records, by what is out so far -/
abbrev Tb := List V → List (Addr × Obj) → Prop
structure TbOk (T : Tb) (fp : List Addr) : Prop where
  ad : ∀ ys pl, T ys pl → pl.map (·.1) = fp
  nc : ∀ ys pl, T ys pl → ∀ p ∈ pl, ∀ v, p.2.data ≠ .cell v
/-- while the generator sleeps: all is kept but the consumer's own records -/
structure SlpT (T : Tb) (fp : List Addr) (ys : List V) (s s' : Shared) : Prop where
  os : s'.os = s.os
  bare : AllBare s'.gens
  keep : ∀ b o, b ∉ fp → s.heap.get? b = some o → s'.heap.get? b = some o
  own : ∃ pl, T ys pl ∧ ∀ p ∈ pl, s'.heap.get? p.1 = some p.2
/-- the contexts of one generator: the consumer's records among what is pinned -/
abbrev fam (X : Cx) (xe : List (Addr × Obj) → Value → Shared → Prop) (pl : List (Addr × Obj)) : Cx := { X with pn := X.pn ++ pl, xe := xe pl }
abbrev XF := List (Addr × Obj) → Value → Shared → Prop
/-- running: ys is out; the consumer's records stand as they stood when it was woken -/
def YI (X : Cx) (xe : XF) (T : Tb) (s₀ : Shared) (ip : List (Addr × Obj)) (ys : List V) (σ : St) (H : Hp) (s : Shared) : Prop :=
  ∃ pl, T ys pl ∧ (∀ p ∈ pl, s₀.heap.get? p.1 = some p.2) ∧ Inv (fam X xe pl) ip σ H s
/-- where the generator's code stands -/
structure YC (X : Cx) (T : Tb) (fp : List Addr) (ip : List (Addr × Obj)) (A : Around) (c : Code) (fs : List Frame) (gd : Bool → Bool) : Prop where
  tb : TbOk T fp
  pn : ∀ p ∈ X.pn, p.1 ∉ fp
  ip : ∀ p ∈ ip, p.1 ∉ fp
  old : ∀ b ∈ fp, X.s_0.heap.objs.size ≤ b
  loc : X.env.locals ∉ fp
  cel : ∀ x, X.env.cells.lookup x = none
  nex : X.ex = []
  over : A.over c fs = X.A
  split : splitAtGen fs = none
  guard : fs.any Frame.guarded = false
  gd : gd false = false
theorem tb_mem {T : Tb} {fp : List Addr} {ys : List V} {pl : List (Addr × Obj)} (h : TbOk T fp) (t : T ys pl) {p : Addr × Obj} (hp : p ∈ pl) : p.1 ∈ fp := by
  rw [← h.ad ys pl t]
  exact List.mem_map.mpr ⟨p, hp, rfl⟩
/-- woken again -/
theorem YI.woken {X : Cx} {xe : XF} {T : Tb} {fp : List Addr} {A : Around} {c : Code} {fs : List Frame} {gd : Bool → Bool} {s₀ s s' : Shared} {ip : List (Addr × Obj)} {ys zs : List V} {σ : St} {H : Hp}
    (g : YC X T fp ip A c fs gd) (h : YI X xe T s₀ ip ys σ H s) (z : SlpT T fp zs s s') : YI X xe T s' ip zs σ H s' := by
  obtain ⟨pl, t, _, I⟩ := h
  obtain ⟨z1, z2, z3, pl', t', z4⟩ := z
  have old : ∀ b ∈ fp, ∃ o, (b, o) ∈ pl := fun b hb => by
    rw [← g.tb.ad ys pl t] at hb
    obtain ⟨p, hp, e⟩ := List.mem_map.mp hb
    exact ⟨p.2, by rw [← e]; exact hp⟩
  have pinned : ∀ b ∈ fp, H b = none ∧ b ≠ X.env.locals ∧ b ∉ X.fs := fun b hb => by
    obtain ⟨o, hp⟩ := old b hb
    obtain ⟨_, q2, q3, q4, _⟩ := I.pin (b, o) (List.mem_append_left _ (List.mem_append_right _ hp))
    exact ⟨q2, q3, q4⟩
  have young : ∀ b o, X.s_0.heap.get? b = some o → b ∉ fp := fun b o e hb => absurd (Nat.lt_of_lt_of_le (Heap.lt_size e) (g.old b hb)) (Nat.lt_irrefl _)
  refine ⟨pl', t', z4, ⟨I.ok.mod, I.ok.kind, I.ok.glob, I.ok.blt, I.ok.above, I.ok.inj, I.ok.has, I.ok.cab, I.ok.hd, I.ok.frames, I.ok.stk, I.ok.exf, I.ok.bs, I.ok.bsz, I.ok.noex, I.ok.exfs, I.ok.funs, I.ok.frf⟩, z1.trans I.os, z2, ⟨fun b o e n hb hx => z3 b o (young b o e) (I.base.keep b o e n hb hx), fun b o e n hb hx => ?_, I.base.free, fun b o e hx => ?_, I.base.tups, I.base.frzs, I.base.tbls⟩, ?_,
    fun x c e => absurd (show X.env.cells.lookup x = some c from e) (by rw [g.cel x]; exact fun z => nomatch z), I.free, fun x c e => absurd (show X.env.cells.lookup x = some c from e) (by rw [g.cel x]; exact fun z => nomatch z), fun p hp => ?_, fun b u e => ?_, I.len⟩
  · obtain ⟨sl, e1⟩ := I.base.slot b o e n hb hx
    exact ⟨sl, z3 b _ (young b o e) e1⟩
  · obtain ⟨o', e1⟩ := I.base.there b o e hx
    exact ⟨o', z3 b o' (young b o e) e1⟩
  · obtain ⟨m, hn, hl⟩ := I.loc
    obtain ⟨o, es, ep, ho, r⟩ := hn
    refine ⟨m, ⟨o, es, ep, z3 _ o g.loc ho, r⟩, fun i x v e1 e2 e3 => ?_⟩
    obtain ⟨u, r1, r2⟩ := hl i x v e1 e2 e3
    refine ⟨u, r1, ?_⟩
    rcases r2 with r2 | ⟨_, c, e, _⟩
    · exact .inl r2
    · exact absurd (show X.env.cells.lookup x = some c from e) (by rw [g.cel x]; exact fun z => nomatch z)
  · rcases List.mem_append.mp hp with hp | hp
    · rcases List.mem_append.mp hp with hp | hp
      · obtain ⟨q1, q2⟩ := I.pin p (List.mem_append_left _ (List.mem_append_left _ hp))
        exact ⟨z3 p.1 p.2 (g.pn p hp) q1, q2⟩
      · obtain ⟨q1, q2, q3⟩ := pinned p.1 (tb_mem g.tb t' hp)
        exact ⟨z4 p hp, q1, q2, q3, g.tb.nc zs pl' t' p hp⟩
    · obtain ⟨q1, q2⟩ := I.pin p (List.mem_append_right _ hp)
      exact ⟨z3 p.1 p.2 (g.ip p hp) q1, q2⟩
  · refine (I.hok b u e).stay (fun c v hc y => z3 c v (fun hm => ?_) y) (fun _ y => y) fun _ _ y => y
    have q := (pinned c hm).1
    rcases hc with y | y
    · rw [y] at q; rw [q] at e; cases e
    · rw [q] at y; cases y

/-! ### the protocol -/
def YY (X : Cx) (xe : XF) (T : Tb) (fp : List Addr) (yl : List V → V → Hp → Prop) : Protocol := fun n s₀ v s kap =>
  ∃ ys x ip σ H, n + 1 + ys.length = sizeLine ∧ RelV x v ∧ YI X xe T s₀ ip ys σ H s ∧ yl ys x H ∧ ∀ s', SlpT T fp (ys ++ [x]) s s' → kap (.send .none) s'
def YR (X : Cx) (xe : XF) (T : Tb) (Q : List V → VK) (F : List (Addr × Obj) → Value → Shared → Prop) : GenEnd := fun n s₀ r s => match r with
  | .ok (.ret u) => ∃ ys v ip σ H, n + ys.length = sizeLine ∧ YI X xe T s₀ ip ys σ H s ∧ RelV v u ∧ Q ys v H
  | .ok _ => False
  | .error e => ∃ ys pl, T ys pl ∧ (∀ p ∈ pl, s₀.heap.get? p.1 = some p.2) ∧ F pl e s
def YSP (X : Cx) (xe : XF) (T : Tb) (s₀ : Shared) (ip : List (Addr × Obj)) (D : GEnds) (ys : List V) (f : Flow) (s : Shared) : Prop :=
  match f with
  | .next => ∃ σ H, YI X xe T s₀ ip ys σ H s ∧ D.nx ys σ H
  | .brk => ∃ σ H, YI X xe T s₀ ip ys σ H s ∧ D.bk ys σ H
  | .cont => ∃ σ H, YI X xe T s₀ ip ys σ H s ∧ D.ct ys σ H
  | .ret u => ∃ v σ H, YI X xe T s₀ ip ys σ H s ∧ RelV v u ∧ D.rt ys v H
/-- an exception in the air -/
def YX (xe : XF) (T : Tb) (s₀ : Shared) (ys : List V) (e : Value) (s : Shared) : Prop := ∃ pl, T ys pl ∧ (∀ p ∈ pl, s₀.heap.get? p.1 = some p.2) ∧ xe pl e s
/-- what follows -/
structure YK (X : Cx) (xe : XF) (yl : List V → V → Hp → Prop) (T : Tb) (fp : List Addr) (ip : List (Addr × Obj)) (A : Around) (R : GenEnd) (c : Code) (fs : List Frame) (K : Flow → Sem PySem.Fin) (J : Value → Sem PySem.Fin) (D : GEnds) : Prop where
  ok : ∀ (n : Nat) (ys : List V) (s₀ s : Shared) (f : Flow), n + ys.length = sizeLine → YSP X xe T s₀ ip D ys f s → Seg (model X.prog X.w) A R (YY X xe T fp yl) n s₀ c (K f) fs s
  exc : ∀ (n : Nat) (ys : List V) (s₀ : Shared) (e : Value) (s : Shared), YX xe T s₀ ys e s → Seg (model X.prog X.w) A R (YY X xe T fp yl) n s₀ c (J e) fs s
structure YS (X : Cx) (xe : XF) (yl : List V → V → Hp → Prop) (st : Stmt) (t : TGn) : Prop where
  run : ∀ (A : Around) (T : Tb) (fp : List Addr) (ip : List (Addr × Obj)) (R : GenEnd) (n : Nat) (ys : List V) (s₀ : Shared) (c : Code) (fs : List Frame) (K : Flow → Sem PySem.Fin) (J : Value → Sem PySem.Fin) (gd : Bool → Bool) (lv : List Value → List Value) (s : Shared) (σ : St) (H : Hp) (D : GEnds),
    YC X T fp ip A c fs gd → n + ys.length = sizeLine → YK X xe yl T fp ip A R c fs K J D → YI X xe T s₀ ip ys σ H s → t D ys σ H →
    Seg (model X.prog X.w) A R (YY X xe T fp yl) n s₀ c ((exec st X.env).wrap K J gd lv) fs s
structure YSs (X : Cx) (xe : XF) (yl : List V → V → Hp → Prop) (st : List Stmt) (t : TGn) : Prop where
  run : ∀ (A : Around) (T : Tb) (fp : List Addr) (ip : List (Addr × Obj)) (R : GenEnd) (n : Nat) (ys : List V) (s₀ : Shared) (c : Code) (fs : List Frame) (K : Flow → Sem PySem.Fin) (J : Value → Sem PySem.Fin) (gd : Bool → Bool) (lv : List Value → List Value) (s : Shared) (σ : St) (H : Hp) (D : GEnds),
    YC X T fp ip A c fs gd → n + ys.length = sizeLine → YK X xe yl T fp ip A R c fs K J D → YI X xe T s₀ ip ys σ H s → t D ys σ H →
    Seg (model X.prog X.w) A R (YY X xe T fp yl) n s₀ c ((execs st X.env).wrap K J gd lv) fs s

section
variable {X : Cx} {xe : XF} {yl : List V → V → Hp → Prop} {st : Stmt} {rest : List Stmt}
theorem sp_ysp {T : Tb} {s₀ s : Shared} {pl ip : List (Addr × Obj)} {D : GEnds} {ys : List V} {f : Flow} (t : T ys pl) (h0 : ∀ p ∈ pl, s₀.heap.get? p.1 = some p.2) (h : SP (fam X xe pl) ip (D.at ys) f s) : YSP X xe T s₀ ip D ys f s := by
  cases f with
  | next => obtain ⟨σ, H, I, q⟩ := h; exact ⟨σ, H, ⟨pl, t, h0, I⟩, q⟩
  | brk => obtain ⟨σ, H, I, q⟩ := h; exact ⟨σ, H, ⟨pl, t, h0, I⟩, q⟩
  | cont => obtain ⟨σ, H, I, q⟩ := h; exact ⟨σ, H, ⟨pl, t, h0, I⟩, q⟩
  | ret u => obtain ⟨v, σ, H, I, r1, q⟩ := h; exact ⟨v, σ, H, ⟨pl, t, h0, I⟩, r1, q⟩
/-- a statement that hands out nothing -/
theorem ys_ps {t : TS} (h : ∀ pl, PS (fam X xe pl) st t) : YS X xe yl st (tPlain t) := by
  refine ⟨fun A T fp ip R n ys s₀ c fs K J gd lv s σ H D g hn k hI ht => ?_⟩
  obtain ⟨pl, tt, h0, I⟩ := hI
  refine seg_wrap ?_
  rw [g.over]
  exact wpAny_mono ((h pl).run _ s σ H (D.at ys) I ht) (fun f s' hs => k.ok n ys s₀ s' f hn (sp_ysp tt h0 hs)) fun x s' hx => k.exc n ys s₀ x s' ⟨pl, tt, h0, hx⟩
theorem yss_pss {t : TS} (h : ∀ pl, PSs (fam X xe pl) rest t) : YSs X xe yl rest (tPlain t) := by
  refine ⟨fun A T fp ip R n ys s₀ c fs K J gd lv s σ H D g hn k hI ht => ?_⟩
  obtain ⟨pl, tt, h0, I⟩ := hI
  refine seg_wrap ?_
  rw [g.over]
  exact wpAny_mono ((h pl).run _ s σ H (D.at ys) I ht) (fun f s' hs => k.ok n ys s₀ s' f hn (sp_ysp tt h0 hs)) fun x s' hx => k.exc n ys s₀ x s' ⟨pl, tt, h0, hx⟩
theorem yss_nil : YSs X xe yl [] tG0 := by
  refine ⟨fun A T fp ip R n ys s₀ c fs K J gd lv s σ H D g hn k hI ht => ?_⟩
  exact seg_execs_nil (k.ok n ys s₀ s .next hn ⟨σ, H, hI, ht⟩)
theorem yss_cons {t u : TGn} (a : YS X xe yl st t) (b : YSs X xe yl rest u) : YSs X xe yl (st :: rest) (tGThen t u) := by
  refine ⟨fun A T fp ip R n ys s₀ c fs K J gd lv s σ H D g hn k hI ht => ?_⟩
  refine seg_execs_cons ?_
  refine a.run A T fp ip R n ys s₀ c fs _ J gd lv s σ H { D with nx := fun ys' σ' H' => u D ys' σ' H' } g hn ⟨fun n' ys' s₀' s' f hn' hs => ?_, k.exc⟩ hI ht
  cases f with
  | next =>
    obtain ⟨σ', H', I', q⟩ := hs
    exact b.run A T fp ip R n' ys' s₀' c fs K J gd lv s' σ' H' D g hn' k I' q
  | brk => exact k.ok n' ys' s₀' s' .brk hn' hs
  | cont => exact k.ok n' ys' s₀' s' .cont hn' hs
  | ret u => exact k.ok n' ys' s₀' s' (.ret u) hn' hs
/-! ### yield -/
def tYYield (yl : List V → V → Hp → Prop) (te : TE) : TGn := fun D ys σ H => ys.length < sizeLine ∧ te σ H fun x H1 => yl ys x H1 ∧ D.nx (ys ++ [x]) σ H1
theorem ys_yield {e : Expr} {te : TE} {yp pos : Pos} (he : ∀ pl, PE (fam X xe pl) e te) (hco : X.env.scope.isCoroutine = false := by rfl) (hi : interactive X.env = false := by rfl) : YS X xe yl (.Expr (.Yield (some e) yp) pos) (tYYield yl te) := by
  refine ⟨fun A T fp ip R n ys s₀ c fs K J gd lv s σ H D g hn k hI ht => ?_⟩
  obtain ⟨hlt, ht⟩ := ht
  obtain ⟨n, rfl⟩ : ∃ m, n = m + 1 := ⟨n - 1, by omega⟩
  obtain ⟨pl, tt, h0, I⟩ := hI
  refine seg_Expr_Yield g.split g.gd g.guard ?_ hco hi
  rw [g.over]
  refine wpAny_mono ((he pl).run _ s σ H _ I ht) (fun v s' hv => ?_) fun x s' hx => k.exc _ ys s₀ x s' ⟨pl, tt, h0, hx⟩
  obtain ⟨x, H1, I1, rv, q0, q⟩ := hv
  have G1 : YI X xe T s₀ ip ys σ H1 s' := ⟨pl, tt, h0, I1⟩
  intro kap hk
  refine ⟨ys, x, ip, σ, H1, hn, rv, G1, q0, fun s'' z => hk .none s'' ?_⟩
  refine k.ok n (ys ++ [x]) s'' s'' .next ?_ ⟨σ, H1, G1.woken g z, q⟩
  rw [List.length_append, List.length_singleton]; omega
/-! ### if -/
def tYIf (tc : TT) (t u : TGn) : TGn := fun D ys σ H => tc σ H fun b H1 => if b = true then t D ys σ H1 else u D ys σ H1
theorem ys_if {c : Expr} {a b : List Stmt} {pos : Pos} {tc : TT} {t u : TGn} (hc : ∀ pl, PT (fam X xe pl) c tc) (ha : YSs X xe yl a t) (hb : YSs X xe yl b u) : YS X xe yl (.If c a b pos) (tYIf tc t u) := by
  refine ⟨fun A T fp ip R n ys s₀ cc fs K J gd lv s σ H D g hn k hI ht => ?_⟩
  obtain ⟨pl, tt, h0, I⟩ := hI
  show Seg _ _ _ _ _ _ _ ((standAt pos >>= fun _ => isTrue c X.env (eval c X.env) >>= fun z => if z = true then execs a X.env else execs b X.env).wrap K J gd lv) _ _
  refine seg_bind_wrap (wpAny_standAt ?_)
  refine seg_bind_wrap ?_
  rw [g.over]
  refine wpAny_mono ((hc pl).run _ s σ H _ I ht) (fun z s' hz => ?_) fun x s' hx => k.exc n ys s₀ x s' ⟨pl, tt, h0, hx⟩
  obtain ⟨H1, I1, q⟩ := hz
  cases z with
  | true =>
    rw [if_pos rfl] at q ⊢
    exact ha.run A T fp ip R n ys s₀ cc fs K J gd lv s' σ H1 D g hn k ⟨pl, tt, h0, I1⟩ q
  | false =>
    rw [if_neg Bool.false_ne_true] at q ⊢
    exact hb.run A T fp ip R n ys s₀ cc fs K J gd lv s' σ H1 D g hn k ⟨pl, tt, h0, I1⟩ q
end
end Qk

/-! part G1b -/
set_option Elab.async false
set_option linter.all false
set_option maxRecDepth 100000
set_option maxHeartbeats 2000000
namespace Qk
open PySem PySem.Spec L2 GenW
open PyProof.Rows hiding St
/-! ### for, in a generator -/
section
variable {M : Model} {A : Around} {R : GenEnd} {Y : Protocol} {n : Nat} {s₀ : Shared} {c : Code} {fs : List Frame} {s : Shared} {env : Env}
  {K : Flow → Sem PySem.Fin} {J : Value → Sem PySem.Fin} {gd : Bool → Bool} {lv : List Value → List Value}
/-- what the loop's frame does with what comes back -/
abbrev loopRet (env : Env) (K : Flow → Sem PySem.Fin) (J : Value → Sem PySem.Fin) (gd : Bool → Bool) (lv : List Value → List Value) : Result → Sem PySem.Fin :=
  fun r => ((match r with | .ok f => (.pure f : Sem Flow) | .error e => .raise e).onRaise (cameBack env)).wrap K J gd lv
theorem seg_For {tg iter : Expr} {body orelse : List Stmt} {pos : Pos} (hs : ∀ x, foldedSetIterable iter env x = pure x)
    (h : wpAny M (A.over c fs) (eval iter env) (fun x s1 => wpAny M (A.over c fs) (pyIter x) (fun it s2 => ∀ p, Seg M A R Y n s₀ (.forLoop tg it body orelse env) (M.den (.forLoop tg it body orelse env))
      (.ret (loopRet env K J gd lv) none (gd false) (lv []) c p [] :: fs) s2) (fun x s' => Seg M A R Y n s₀ c (J x) fs s') s1) (fun x s' => Seg M A R Y n s₀ c (J x) fs s') s) :
    Seg M A R Y n s₀ c ((exec (.For tg iter body orelse pos) env).wrap K J gd lv) fs s := by
  rw [exec_For]
  refine seg_bind_wrap (wpAny_standAt ?_)
  refine seg_bind_wrap (wpAny_mono h (fun x s1 h1 => ?_) fun _ _ y => y)
  refine seg_bind_wrap (wpAny_of_eq (hs x) ?_)
  refine seg_bind_wrap (wpAny_standAt ?_)
  refine seg_bind_wrap (wpAny_holding (wpAny_mono h1 (fun it s2 h2 => ?_) fun _ _ y => y))
  exact seg_call h2
end
section
variable {prog : Program} {w : World} {A : Around} {R : GenEnd} {Y : Protocol} {n : Nat} {s₀ : Shared} {fs : List Frame} {s : Shared} {env : Env}
/-- an exception leaves the loop's code -/
abbrev loopOut (prog : Program) (w : World) (A : Around) (R : GenEnd) (Y : Protocol) (n : Nat) (s₀ : Shared) (c : Code) (env : Env) (fs : List Frame) (x : Value) (s' : Shared) : Prop :=
  Seg (model prog w) A R Y n s₀ c ((do noteFrame x env; theTreesLotGoes x : Sem Unit).wrap (fun _ => .raise x) .raise id id) fs s'
theorem seg_forLoop {tg : Expr} {it : Value} {body orelse : List Stmt}
    (h : wpAny (model prog w) (A.over (.forLoop tg it body orelse env) fs) (pyNext it) (fun r s1 => match r with
      | none => Seg (model prog w) A R Y n s₀ (.forLoop tg it body orelse env) (.pure (.again (.block orelse env))) fs s1
      | some v => wpAny (model prog w) (A.over (.forLoop tg it body orelse env) fs) (letOwnedTupleGo tg it v) (fun _ s2 =>
          wpAny (model prog w) (A.over (.forLoop tg it body orelse env) fs) (assign tg env v) (fun _ s3 =>
            Seg (model prog w) A R Y n s₀ (.forLoop tg it body orelse env) ((execs body env).wrap (fun f => match f with
              | .next | .cont => .pure (.again (.forLoop tg it body orelse env))
              | .brk => .pure (.done .next)
              | .ret v => .pure (.done (.ret v))) (fun e => (do noteFrame e env; theTreesLotGoes e : Sem Unit).wrap (fun _ => .raise e) .raise id id) id id) fs s3)
            (loopOut prog w A R Y n s₀ (.forLoop tg it body orelse env) env fs) s2)
          (loopOut prog w A R Y n s₀ (.forLoop tg it body orelse env) env fs) s1)
      (loopOut prog w A R Y n s₀ (.forLoop tg it body orelse env) env fs) s) :
    Seg (model prog w) A R Y n s₀ (.forLoop tg it body orelse env) ((model prog w).den (.forLoop tg it body orelse env)) fs s := by
  show Seg _ A R Y n s₀ _ ((forTurn tg it body orelse env).onRaise (fun x => do noteFrame x env; theTreesLotGoes x)) fs s
  rw [Sem.onRaise_eq_wrap]
  have out : ∀ x s', loopOut prog w A R Y n s₀ (.forLoop tg it body orelse env) env fs x s' → Seg (model prog w) A R Y n s₀ (.forLoop tg it body orelse env) ((do noteFrame x env; theTreesLotGoes x : Sem Unit).bind fun _ => .raise x) fs s' := fun x s' hx => by
    rw [Sem.bind_eq_wrap]; exact hx
  simp only [forTurn]
  refine seg_bind_wrap (wpAny_standAt ?_)
  refine seg_bind_wrap (wpAny_onRaise (wpAny_mono h (fun r s1 h1 => ?_) fun x s' hx => wpAny_standAt (out x s' hx)))
  cases r with
  | none => exact h1
  | some v =>
    refine seg_bind_wrap (wpAny_mono h1 (fun _ s2 h2 => ?_) fun x s' hx => out x s' hx)
    refine seg_bind_wrap (wpAny_mono h2 (fun _ s3 h3 => ?_) fun x s' hx => out x s' hx)
    rw [Sem.bind_eq_wrap', Sem.wrap_wrap]
    rw [Sem.wrap_congr (execs body env) _ _ (K' := fun f => match f with
              | .next | .cont => .pure (.again (.forLoop tg it body orelse env))
              | .brk => .pure (.done .next)
              | .ret v => .pure (.done (.ret v))) (H' := (fun e => (do noteFrame e env; theTreesLotGoes e : Sem Unit).wrap (fun _ => .raise e) .raise id id))
      (fun f => by cases f <;> rfl)
      (fun e => by first | exact Sem.bind_eq_wrap _ _ | (show (do noteFrame e env; theTreesLotGoes e : Sem Unit).bind (fun _ => .raise e) = _; rw [Sem.bind_eq_wrap]))]
    exact h3
/-- the end of the loop: no else -/
theorem seg_blockNil (h : Seg (model prog w) A R Y n s₀ (.block [] env) (.pure (.done .next)) fs s) : Seg (model prog w) A R Y n s₀ (.block [] env) ((model prog w).den (.block [] env)) fs s := h
end

def tYFor (wi : TI) (g : TG) (tb : TGn) : TGn := fun D ys σ H => wi σ H fun J H1 => ∃ W : Nat → Nat → List V → St → Hp → Prop, (∃ m, W 0 m ys σ H1) ∧ ∀ i m ys σ H, W i m ys σ H →
  (J.stop i H ∧ D.nx ys σ H) ∨ (J.go i H ∧ ∃ N : List V → St → Hp → Prop, (∀ ys' σ' H', N ys' σ' H' → ∃ m', m' < m ∧ W (i + 1) m' ys' σ' H') ∧
    ∀ x H', J.yld i H x H' → g x σ H' fun σ2 H2 => tb { D with nx := N, ct := N, bk := D.nx } ys σ2 H2)
section
variable {X : Cx} {xe : XF} {yl : List V → V → Hp → Prop}
theorem yc_loop {T : Tb} {fp : List Addr} {ip : List (Addr × Obj)} {A : Around} {c c' : Code} {fs : List Frame} {gd : Bool → Bool} {k : Result → Sem PySem.Fin} {l kp : List Value} {p : Pos} (g : YC X T fp ip A c fs gd) (hw : c'.weight = 0) (hu : c'.cUnits = 0) :
    YC X T fp ip A c' (.ret k none (gd false) l c p kp :: fs) id where
  tb := g.tb
  pn := g.pn
  ip := g.ip
  old := g.old
  loc := g.loc
  cel := g.cel
  nex := g.nex
  over := (over_loop hw hu).trans g.over
  split := by
    show (splitAtGen fs).map _ = none
    rw [g.split]; rfl
  guard := by
    show (gd false || fs.any Frame.guarded) = false
    rw [g.gd, g.guard]; rfl
  gd := rfl
/-- more is pinned -/
theorem YC.more {T : Tb} {fp : List Addr} {ip jp : List (Addr × Obj)} {A : Around} {c : Code} {fs : List Frame} {gd : Bool → Bool} (g : YC X T fp ip A c fs gd) (h : ∀ p ∈ jp, p.1 ∉ fp) : YC X T fp (ip ++ jp) A c fs gd :=
  { g with ip := fun p hp => (List.mem_append.mp hp).elim (g.ip p) (h p) }
theorem seg_back {T : Tb} {fp : List Addr} {ip : List (Addr × Obj)} {A : Around} {R : GenEnd} {c : Code} {fs : List Frame} {K : Flow → Sem PySem.Fin} {J : Value → Sem PySem.Fin} {gd : Bool → Bool} {lv : List Value → List Value} {D : GEnds} {n : Nat} {ys : List V} {s₀ s : Shared} {e : Value} {pl : List (Addr × Obj)}
    (g : YC X T fp ip A c fs gd) (k : YK X xe yl T fp ip A R c fs K J D) (t : T ys pl) (h0 : ∀ p ∈ pl, s₀.heap.get? p.1 = some p.2) (h : cameBackBy (model X.prog X.w) X.A X.env (xe pl) e s) :
    Seg (model X.prog X.w) A R (YY X xe T fp yl) n s₀ c (((Sem.raise e : Sem Flow).onRaise (cameBack X.env)).wrap K J gd lv) fs s := by
  show Seg _ _ _ _ _ _ _ (((cameBack X.env e).bind fun _ => (Sem.raise e : Sem Flow)).wrap K J gd lv) _ _
  rw [Sem.bind_eq_wrap, Sem.wrap_wrap]
  refine seg_wrap ?_
  rw [g.over]
  exact wpAny_mono h (fun _ s' hx => k.exc n ys s₀ e s' ⟨pl, t, h0, hx⟩) fun x s' hx => k.exc n ys s₀ x s' ⟨pl, t, h0, hx⟩
theorem ys_for {tg iter : Expr} {body : List Stmt} {pos : Pos} {wi : TI} {tgg : TG} {tb : TGn} (hp : ∀ pl, PassesOwn (model X.prog X.w) X.A X.env (xe pl)) (hc : X.calm = true) (hi : ∀ pl, PI (fam X xe pl) tg iter wi) (hg : ∀ pl, PG (fam X xe pl) tg tgg) (hb : YSs X xe yl body tb)
    (hs : ∀ x, foldedSetIterable iter X.env x = pure x := by intro _; rfl) : YS X xe yl (.For tg iter body [] pos) (tYFor wi tgg tb) := by
  refine ⟨fun A T fp ip R n ys s₀ c fs K J gd lv s σ H D g hn k hI ht => ?_⟩
  obtain ⟨pl, tt, h0, I⟩ := hI
  have ex0 : ∀ x s', xe pl x s' → Seg (model X.prog X.w) A R (YY X xe T fp yl) n s₀ c (J x) fs s' := fun x s' hx => k.exc n ys s₀ x s' ⟨pl, tt, h0, hx⟩
  refine seg_For hs ?_
  rw [g.over]
  refine wpAny_mono ((hi pl).run _ s σ H _ I ht) (fun v s1 h1 => wpAny_mono h1 (fun itv s2 h2 => ?_) ex0) ex0
  obtain ⟨it, fp', tn, Jt, H2, e, I2, Tu, st2, f2, W, ⟨m0, w0⟩, turn⟩ := h2
  subst e
  intro p
  have gl := fun (kk : Result → Sem PySem.Fin) => yc_loop (k := kk) (c' := .forLoop tg (.ref it) body [] X.env) (l := lv []) (kp := []) (p := p) g rfl rfl
  have glb := fun (kk : Result → Sem PySem.Fin) => yc_loop (k := kk) (c' := .block [] X.env) (l := lv []) (kp := []) (p := p) g rfl rfl
  -- what stays true of the iterator's objects
  have stat : ∀ {pl' : List (Addr × Obj)} {ys' : List V} {H' : Hp}, T ys' pl' → (∀ b ∈ fp', H' b = none) → ∀ b ∈ fp', FpOk (fam X xe pl') ip H' b := fun {pl' ys' H'} t' hn' b hb => by
    obtain ⟨_, a1, a2, a3, a4, a5⟩ := f2 b hb
    refine ⟨hn' b hb, a1, a2, a3, a4, fun q hq => ?_⟩
    rcases List.mem_append.mp hq with hq | hq
    · rcases List.mem_append.mp hq with hq | hq
      · exact a5 q (List.mem_append_left _ (List.mem_append_left _ hq))
      · have hm := tb_mem g.tb t' hq
        rw [← g.tb.ad ys pl tt] at hm
        obtain ⟨q', hq', e'⟩ := List.mem_map.mp hm
        rw [← e']
        exact a5 q' (List.mem_append_left _ (List.mem_append_right _ hq'))
    · exact a5 q (List.mem_append_right _ hq)
  have apart : ∀ b ∈ fp', b ∉ fp := fun b hb hm => by
    rw [← g.tb.ad ys pl tt] at hm
    obtain ⟨q, hq, e⟩ := List.mem_map.mp hm
    exact (f2 b hb).2.2.2.2.2 q (List.mem_append_left _ (List.mem_append_right _ hq)) e
  have loop : ∀ (m i n : Nat) (ys : List V) (s₀ s : Shared) (σ : St) (H : Hp), n + ys.length = sizeLine → W i m ys σ H → YI X xe T s₀ ip ys σ H s → tn i s.heap → (∀ b ∈ fp', H b = none) →
      Seg (model X.prog X.w) A R (YY X xe T fp yl) n s₀ (.forLoop tg (.ref it) body [] X.env) ((model X.prog X.w).den (.forLoop tg (.ref it) body [] X.env))
        (.ret (loopRet X.env K J gd lv) none (gd false) (lv []) c p [] :: fs) s := by
    intro m
    induction m using Nat.strongRecOn with
    | ind m ih =>
      intro i n ys s₀ s σ H hn w hI st fr
      obtain ⟨pl, tt, h0, I⟩ := hI
      have ee : ∀ (n : Nat) (ys : List V) (s₀ : Shared) (x : Value) (s' : Shared), YX xe T s₀ ys x s' → loopOut X.prog X.w A R (YY X xe T fp yl) n s₀ (.forLoop tg (.ref it) body [] X.env) X.env (.ret (loopRet X.env K J gd lv) none (gd false) (lv []) c p [] :: fs) x s' := fun n ys s₀ x s' ⟨pl, tt, h0, hx⟩ => by
        refine seg_wrap ?_
        rw [(gl _).over]
        refine wpAny_bind (wpAny_mono (hp pl x s' hx) (fun _ s'' hcb => wpAny_theTreesLotGoes ?_) fun y s'' hcb => ?_)
        · exact seg_leaf (.error x) (seg_back g k tt h0 hcb)
        · exact seg_leaf (.error y) (seg_back g k tt h0 hcb)
      refine seg_forLoop ?_
      rw [(gl _).over]
      rcases turn i m ys σ H w with ⟨stop, qn⟩ | ⟨go, N, hN, step⟩
      · refine wpAny_mono (Tu.done (fam X xe pl) rfl rfl rfl hc i ip s σ H (fun _ _ => False) I (stat tt fr) st stop) (fun r s4 ⟨hr, I4⟩ => ?_) fun _ _ z => z.elim
        subst hr
        exact seg_again rfl (seg_blockNil (seg_leaf (.ok .next) (k.ok n ys s₀ s4 .next hn ⟨σ, H, ⟨pl, tt, h0, I4⟩, qn⟩)))
      · refine wpAny_mono (Tu.item (fam X xe pl) rfl rfl rfl hc i ip s σ H (fun _ _ => False) I (stat tt fr) st go) (fun r s4 ⟨u, hr, h4⟩ => ?_) fun _ _ z => z.elim
        subst hr
        refine wpAny_mono h4 (fun _ s5 ⟨x, H5, I5, r5, y5, st5, fr5⟩ => ?_) fun _ _ z => z.elim
        have I5' := I5.pinned (stat tt fr5) (Tu.obj _ _ st5)
        refine wpAny_mono ((hg pl).run _ s5 σ H5 x u _ I5' r5 (step x H5 y5)) (fun _ s6 ⟨σ6, H6, I6, q6⟩ => ?_) fun x s' hx => ee n ys s₀ x s' ⟨pl, tt, h0, hx⟩
        have gb := (gl (loopRet X.env K J gd lv)).more (jp := pinsAt fp' s5.heap) fun q hq => apart q.1 (of_pinsAt hq).1
        have again : ∀ {n' : Nat} {ys' : List V} {s₀' s7 : Shared} {σ7 : St} {H7 : Hp}, n' + ys'.length = sizeLine → YI X xe T s₀' (ip ++ pinsAt fp' s5.heap) ys' σ7 H7 s7 → N ys' σ7 H7 →
            Seg (model X.prog X.w) A R (YY X xe T fp yl) n' s₀' (.forLoop tg (.ref it) body [] X.env) (.pure (.again (.forLoop tg (.ref it) body [] X.env))) (.ret (loopRet X.env K J gd lv) none (gd false) (lv []) c p [] :: fs) s7 := fun {n' ys' s₀' s7 σ7 H7} hn' hI' nn => by
          obtain ⟨pl', t', h0', I7⟩ := hI'
          obtain ⟨m', hm, w7⟩ := hN ys' σ7 H7 nn
          refine seg_again rfl (ih m' hm (i + 1) n' ys' s₀' s7 σ7 H7 hn' w7 ⟨pl', t', h0', I7.unpinned⟩ (Tu.keep _ _ _ st5 fun b hb o e => (I7.pin (b, o) (List.mem_append_right _ (List.mem_append_right _ (mem_pinsAt hb e)))).1) fun b hb => ?_)
          obtain ⟨o, e, d⟩ := Tu.obj _ _ st5 b hb
          exact (I7.pin (b, o) (List.mem_append_right _ (List.mem_append_right _ (mem_pinsAt hb e)))).2.1
        have drop : ∀ {ys' : List V} {s₀' s7 : Shared} {σ7 : St} {H7 : Hp}, YI X xe T s₀' (ip ++ pinsAt fp' s5.heap) ys' σ7 H7 s7 → YI X xe T s₀' ip ys' σ7 H7 s7 := fun ⟨pl', t', h0', I7⟩ => ⟨pl', t', h0', I7.unpinned⟩
        refine hb.run A T fp (ip ++ pinsAt fp' s5.heap) R n ys s₀ _ _ _ _ id id s6 σ6 H6 { D with nx := N, ct := N, bk := D.nx } gb hn ⟨fun n' ys' s₀' s7 f hn' hs => ?_, fun n' ys' s₀' x s7 hx => ee n' ys' s₀' x s7 hx⟩ ⟨pl, tt, h0, I6⟩ q6
        cases f with
        | next => obtain ⟨σ7, H7, I7, nn⟩ := hs; exact again hn' I7 nn
        | cont => obtain ⟨σ7, H7, I7, nn⟩ := hs; exact again hn' I7 nn
        | brk => obtain ⟨σ7, H7, I7, q7⟩ := hs; exact seg_leaf (.ok .next) (k.ok n' ys' s₀' s7 .next hn' ⟨σ7, H7, drop I7, q7⟩)
        | ret v => obtain ⟨x7, σ7, H7, I7, r7, q7⟩ := hs; exact seg_leaf (.ok (.ret v)) (k.ok n' ys' s₀' s7 (.ret v) hn' ⟨x7, σ7, H7, drop I7, r7, q7⟩)
  exact loop m0 0 n ys s₀ s2 σ H2 hn w0 ⟨pl, tt, h0, I2⟩ st2 fun b hb => (f2 b hb).1
end
end Qk

/-! part G2 -/
set_option Elab.async false
set_option linter.all false
set_option maxRecDepth 100000
set_option maxHeartbeats 2000000
namespace Qk
open PySem PySem.Spec L2 GenW
open PyProof.Rows hiding St
/-! ### a generator def by its body -/
/-- a generator def's promise: the arguments, the heap, what is wanted of each item, of the end, of an exception -/
abbrev SpT := List V → Hp → (List V → V → Hp → Prop) → (List V → Hp → Prop) → XK → Prop
/-- an exception; the heap knows nothing of these records -/
def Ep (E : XK) (pl : List (Addr × Obj)) : XK := fun cls d H => E cls d H ∧ ∀ p ∈ pl, H p.1 = none
def REndT (P : Program) (w : World) (outer : List Env) (H : Hp) (sc : Shared) (T : Tb) (a : Addr) (g : Nat) (Q : List V → Hp → Prop) (E : XK) : GenEnd := fun n s₀ r s1 =>
  ((r = .ok (.ret .none) ∨ r = .ok .next) ∧ ∃ H' ys pl, n + ys.length = sizeLine ∧ s1.os = sc.os ∧ AllBare s1.gens ∧ Un (frs outer) [] H H' sc.heap s1.heap ∧ HOk P w H' s1.heap ∧ T ys pl ∧ (∀ p ∈ pl, s₀.heap.get? p.1 = some p.2 ∧ s1.heap.get? p.1 = some p.2 ∧ H' p.1 = none) ∧ Q ys H') ∨
  ∃ e, r = .error e ∧ ∃ ys pl, T ys pl ∧ (∀ p ∈ pl, s1.heap.get? p.1 = some p.2) ∧ CX P w outer H sc (Ep E pl) e s1 ∧ s1.heap.IsGen a g
def YItT (P : Program) (w : World) (outer : List Env) (H : Hp) (sc : Shared) (T : Tb) (fp : List Addr) (a : Addr) (g : Nat) (yl : List V → V → Hp → Prop) : Protocol := fun n s₀ v s1 kap =>
  ∃ ys x H' pl, n + 1 + ys.length = sizeLine ∧ RelV x v ∧ s1.os = sc.os ∧ AllBare s1.gens ∧ s1.heap.NoLimit ∧ s1.heap.IsGen a g ∧ Un (frs outer) [] H H' sc.heap s1.heap ∧ HOk P w H' s1.heap ∧ T ys pl ∧
    (∀ p ∈ pl, s₀.heap.get? p.1 = some p.2 ∧ s1.heap.get? p.1 = some p.2 ∧ H' p.1 = none) ∧ yl ys x H' ∧ ∀ s', SlpT T fp (ys ++ [x]) s1 s' → kap (.send .none) s'
/-- what a call of a generator def gives: a generator that has not begun -/
def GMadeT (P : Program) (w : World) (k : Nat) (outer : List Env) (H : Hp) (s : Shared) (yl : List V → V → Hp → Prop) (Q : List V → Hp → Prop) (E : XK) (u : Value) (s' : Shared) : Prop :=
  ∃ (a : Addr) (g : Nat) (c : Code), u = .ref a ∧ s.heap.objs.size ≤ a ∧ a < s'.heap.objs.size ∧ s'.heap.IsGen a g ∧ s'.gens[g]? = some (.fresh c) ∧ s'.os = s.os ∧ AllBare s'.gens ∧ s'.heap.NoLimit ∧ (∀ b o, s.heap.get? b = some o → s'.heap.get? b = some o) ∧
    ∀ (A : Around) (T : Tb) (fp : List Addr) (s2 : Shared), Room k A → A.frames = some outer → TbOk T fp → (∀ b ∈ fp, s'.heap.objs.size ≤ b) → (∀ b o, s'.heap.get? b = some o → s2.heap.get? b = some o) → (∃ pl, T [] pl ∧ ∀ p ∈ pl, s2.heap.get? p.1 = some p.2) → s2.os = s.os → AllBare s2.gens →
      Seg (model P w) A (REndT P w outer H s T a g Q E) (YItT P w outer H s T fp a g yl) sizeLine s2 c ((model P w).den c) [] s2
structure GFnT (P : Program) (w : World) (K : PySem.W.Frag) (mg : Str → Option Value) (base : Heap) (k : Nat) (f : Addr) (fd : FuncData) (ps : List Str) (sp : SpT) : Prop where
  len : ∀ vs H yl Q E, sp vs H yl Q E → vs.length = ps.length
  run : ∀ (A : Around) (outer : List Env) (s : Shared) (H : Hp) (args : Args) (us : List Value) (vs : List V) (yl : List V → V → Hp → Prop) (Q : List V → Hp → Prop) (E : XK), Room k A → Env0 P w K mg base A outer s H → BindsTo s fd args (ps.zip us) → Vals vs us → sp vs H yl Q E →
    codeAny (model P w) A (.call (.ref f) args) (fun r s' => match r with | .ok (.ret u) => GMadeT P w k outer H s yl Q E u s' | _ => False) s
section
variable {P : Program} {w : World} {K : PySem.W.Frag} {mg : Str → Option Value} {base : Heap} {N : List Str} {qual : Str} {scope : Scope} {f : Addr} {cd : Value} {A : Around} {outer : List Env} {s : Shared} {H : Hp} {E : XK} {pn : List (Addr × Obj)}
/-- what leaves it knows nothing of what is pinned -/
theorem takes_gcxT : Takes (gcxOf P w K mg base N qual scope f cd A outer s H (Ep E pn) pn) (fun cls d _ H' => E cls d H') := fun u s' ⟨a, B, sI, pins, σ, H', cls, d, e, I, nb, up, sky, na, os, ag, w⟩ =>
  takes_gcx u s' ⟨a, B, sI, pins, σ, H', cls, d, e, I, nb, up, sky, na, os, ag, w, fun p hp => (I.pin p (List.mem_append_left _ hp)).2.1⟩
/-- the exceptions of one generator -/
abbrev gxe (P : Program) (w : World) (K : PySem.W.Frag) (mg : Str → Option Value) (base : Heap) (N : List Str) (qual : Str) (scope : Scope) (f : Addr) (cd : Value) (A : Around) (outer : List Env) (s : Shared) (H : Hp) (E : XK) (pn : List (Addr × Obj)) : XF :=
  fun pl => (gcxOf P w K mg base N qual scope f cd A outer s H (Ep E (pn ++ pl)) (pn ++ pl)).xe
end
/-- THE RULE: a generator def, by its body -/
theorem gfnT_of {P : Program} {w : World} {K : PySem.W.Frag} {mg : Str → Option Value} {base : Heap} {k : Nat} {f : Addr} {name qual : Str} {params : Arguments} {body : List Stmt} {scope : Scope} {dV kV doc pm cdv ct oc : Value} {an od : Option Addr}
    {osl : Array (Option Value)} {N ps : List Str} {sp : SpT} (lk : K.lookup f = some ⟨oc, od, .func (PySem.W.fnOf name qual params body scope dV kV doc pm an cdv ct), osl⟩) (hcd : PySem.W.codeIn K cdv qual = true) (S : GScope N ps scope) (hcel : ∀ n x, (cellsFrom n scope.names []).lookup x = none)
    (len : ∀ vs H yl Q E, sp vs H yl Q E → vs.length = ps.length)
    (hbody : ∀ (A : Around) (outer : List Env) (s : Shared) (H : Hp) (vs : List V) (yl : List V → V → Hp → Prop) (Q : List V → Hp → Prop) (E : XK) (pn : List (Addr × Obj)), Room k (A.deeper (envOfC qual scope s.heap.objs.size f cdv)) → sp vs H yl Q E →
      ∃ t, YSs (gcxOf P w K mg base N qual scope f cdv A outer s H E pn) (gxe P w K mg base N qual scope f cdv A outer s H E pn) yl body t ∧ t { nx := fun ys _ H' => Q ys H', rt := fun ys v H' => v = .non ∧ Q ys H' } [] (start N vs) H) :
    GFnT P w K mg base (k + 1) f (PySem.W.fnOf name qual params body scope dV kV doc pm an cdv ct) ps sp := by
  refine ⟨len, fun A outer s H args us vs yl Q E hr e0 hb r hsp => ?_⟩
  have hl := len _ _ _ _ _ hsp
  have KX : K.In s.heap := e0.mod.kin.keeps fun b o e => (e0.bs b o e).1
  have lim : s.heap.NoLimit := e0.mod.nolimit.keeps fun b o e => (e0.bs b o e).1
  have hkind : ∀ y ∈ ps.zip us, scope.names.lookup y.1 = some .local ∨ (scope.names.lookup y.1 = some .cell ∧ ((cellsFrom (s.heap.objs.size + 1) scope.names []).lookup y.1).isSome = true) := fun ⟨n, v⟩ hy => by
    rcases S.par n (List.of_mem_zip hy).1 with q | q
    · exact .inl q
    · exact .inr ⟨q, PySem.W.cellsFrom_some _ _ _ (.inl q)⟩
  refine codeAny_call_generator hr.depth (KX _ _ lk) rfl S.co S.gen rfl (PySem.W.codeRec_of KX hcd) (hb _ _ _ _ ?_)
  refine wpAny_newFunctionEnv_cells S.kind hkind fun env he s1 x => ?_
  subst he
  have lim1 : s1.heap.NoLimit := lim.keeps x.toInCall.keep
  refine ⟨lim1, ?_⟩
  obtain ⟨h1, tk, es1, hk1⟩ := x.done
  have os1 : s1.os = s.os := by rw [es1]
  have gen1 : s1.gens = s.gens := by rw [es1]
  have lt1 : s.heap.objs.size < s1.heap.objs.size := x.toInCall.ns.lt
  have sz1 : s.heap.objs.size ≤ s1.heap.objs.size := Nat.le_of_lt lt1
  have kp1 : ∀ b o, s.heap.get? b = some o → s1.heap.get? b = some o := x.toInCall.keep
  have main : ∀ (go : Obj) (nm qn : Value) (tk2 : Nat), go.cls = .type "generator" → go.data = .fields #[.int s1.gens.size 0, nm, qn] → go.slots = #[] → (∀ h : Heap, (h.push go).get? h.objs.size = some go) →
      GMadeT P w (k + 1) outer H s yl Q E (.ref s1.heap.objs.size) { s1 with gens := s1.gens.push (.fresh (.func body (envOfC qual scope s.heap.objs.size f cdv))), toks := tk2, heap := s1.heap.push go } := by
    intro go nm qn tk2 hgc hgd0 hgs hgp
    have hgen : ∀ h : Heap, h.get? s1.heap.objs.size = some go → h.IsGen s1.heap.objs.size s1.gens.size := fun h e => ⟨go, nm, qn, e, hgc, hgd0, hgs⟩
    have hpushed : (s1.heap.push go).get? s1.heap.objs.size = some go := hgp _
    refine ⟨s1.heap.objs.size, s1.gens.size, _, rfl, sz1, ?_, hgen _ hpushed, Array.getElem?_push_size .., os1, ?_, lim1.keeps fun b o e => Heap.get?_push_of_some _ e, fun b o e => Heap.get?_push_of_some _ (kp1 b o e), ?_⟩
    · show _ < (s1.heap.push _).objs.size
      rw [Heap.size_push]; exact Nat.lt_succ_self _
    · exact AllBare.push (by rw [gen1]; exact e0.bare) rfl
    intro Aw T fp s2 hrw hfr hTb hfp hk2 hSo hos hba
    obtain ⟨pl0, t0, hpl0⟩ := hSo
    generalize hpn : [(s1.heap.objs.size, go)] = pn
    have e0w : Env0 P w K mg base Aw outer s H := ⟨hfr, e0.mod, e0.bs, e0.bsz, e0.funs, e0.frf, e0.hok, e0.bare⟩
    obtain ⟨t, ht, hq⟩ := hbody Aw outer s H vs yl Q E pn (hrw.deeper _) hsp
    have kp2 : ∀ b o, s1.heap.get? b = some o → s2.heap.get? b = some o := fun b o e => hk2 b o (Heap.get?_push_of_some _ e)
    have I1 : Inv (gcxOf P w K mg base N qual scope f cdv Aw outer s H (Ep E (pn ++ pl0)) []) [] (start N vs) H s1 := inv_startG S hrw.hd e0w hl r x
    have I2 : Inv (gcxOf P w K mg base N qual scope f cdv Aw outer s H (Ep E (pn ++ pl0)) []) [] (start N vs) H s2 :=
      I1.call' (ch := []) (hos.trans os1.symm) (Un.kept kp2) (I1.hok.kept kp2) hba fun b z => by simp at z
    have hSz : ∀ b ∈ fp, s1.heap.objs.size < b := fun b hb => by
      have h : (s1.heap.push go).objs.size ≤ b := hfp b hb
      rw [Heap.size_push] at h
      exact h
    have hea : s2.heap.get? s1.heap.objs.size = some go := hk2 s1.heap.objs.size go hpushed
    have hgd : ∀ v, go.data ≠ .cell v := fun v q => by rw [hgd0] at q; cases q
    have young : ∀ b, s1.heap.objs.size ≤ b → H b = none ∧ b ≠ s.heap.objs.size ∧ b ∉ frs outer := fun b hb =>
      ⟨I1.hok.fresh hb, Nat.ne_of_gt (Nat.lt_of_lt_of_le lt1 hb), I1.nofs hb⟩
    have pnIn : ∀ p ∈ pn, p = (s1.heap.objs.size, go) := fun p hp => by rw [← hpn] at hp; exact List.mem_singleton.mp hp
    have pnHas : (s1.heap.objs.size, go) ∈ pn := by rw [← hpn]; exact List.mem_singleton.mpr rfl
    have hG : YI (gcxOf P w K mg base N qual scope f cdv Aw outer s H E pn) (gxe P w K mg base N qual scope f cdv Aw outer s H E pn) T s2 [] [] (start N vs) H s2 := by
      refine ⟨pl0, t0, hpl0, (Inv.pinnedG (pn := pn ++ pl0) (pins := []) I2 fun p hp => ?_ : Inv (gcxOf P w K mg base N qual scope f cdv Aw outer s H (Ep E (pn ++ pl0)) (pn ++ pl0)) [] (start N vs) H s2)⟩
      rw [List.append_nil] at hp
      rcases List.mem_append.mp hp with z | z
      · rw [pnIn p z]
        obtain ⟨y1, y2, y3⟩ := young s1.heap.objs.size (Nat.le_refl _)
        exact ⟨hea, y1, y2, y3, hgd⟩
      · obtain ⟨y1, y2, y3⟩ := young p.1 (Nat.le_of_lt (hSz p.1 (tb_mem hTb t0 z)))
        exact ⟨hpl0 p z, y1, y2, y3, hTb.nc _ _ t0 p z⟩
    have pinned : ∀ {ip : List (Addr × Obj)} {ys : List V} {s₀ s' : Shared} {σ' : L2.St} {H' : Hp}, YI (gcxOf P w K mg base N qual scope f cdv Aw outer s H E pn) (gxe P w K mg base N qual scope f cdv Aw outer s H E pn) T s₀ ip ys σ' H' s' →
        s'.heap.IsGen s1.heap.objs.size s1.gens.size := fun {ip ys s₀ s' σ' H'} ⟨pl, _, _, J⟩ => hgen _ (J.pin (s1.heap.objs.size, go) (List.mem_append_left _ (List.mem_append_left _ pnHas))).1
    have consumers : ∀ {ip pl : List (Addr × Obj)} {s₀ s' : Shared} {σ' : L2.St} {H' : Hp}, (∀ p ∈ pl, s₀.heap.get? p.1 = some p.2) → Inv (fam (gcxOf P w K mg base N qual scope f cdv Aw outer s H E pn) (gxe P w K mg base N qual scope f cdv Aw outer s H E pn) pl) ip σ' H' s' →
        ∀ p ∈ pl, s₀.heap.get? p.1 = some p.2 ∧ s'.heap.get? p.1 = some p.2 ∧ H' p.1 = none := fun {ip pl s₀ s' σ' H'} h0 J p hp => by
      obtain ⟨q1, q2, _⟩ := J.pin p (List.mem_append_left _ (List.mem_append_right _ hp))
      exact ⟨h0 p hp, q1, q2⟩
    refine seg_func ?_
    refine seg_imp (R := YR (gcxOf P w K mg base N qual scope f cdv Aw outer s H E pn) (gxe P w K mg base N qual scope f cdv Aw outer s H E pn) T (fun ys v H' => v = .non ∧ Q ys H') fun pl e s' => CX P w outer H s (Ep E (pn ++ pl)) e s' ∧ ∀ p ∈ pn ++ pl, s'.heap.get? p.1 = some p.2)
      (Y := YY (gcxOf P w K mg base N qual scope f cdv Aw outer s H E pn) (gxe P w K mg base N qual scope f cdv Aw outer s H E pn) T fp yl) (fun n s₀ r s1' hR => ?_) (fun n s₀ v s1' kap kap' hkk hY => ?_) sizeLine ?_
    · cases r with
      | error e =>
        obtain ⟨ys, pl, tt, h0, q1, q2⟩ := hR
        refine .inr ⟨e, rfl, ys, pl, tt, fun p hp => q2 p (List.mem_append_right _ hp), ?_, hgen _ (q2 _ (List.mem_append_left _ pnHas))⟩
        obtain ⟨a, B, H', cls, d, z1, fl, z2, ub, z3, z4, z5, z6, z7⟩ := q1
        exact ⟨a, B, H', cls, d, z1, fl, z2, ub, z3, z4, z5, z6, fun p hp => z7 p (List.mem_append_right _ hp)⟩
      | ok fl =>
        cases fl with
        | next => exact False.elim hR
        | brk => exact False.elim hR
        | cont => exact False.elim hR
        | ret u =>
          obtain ⟨ys, v, ip, σ', H', hn, hI, rv, ev, hQ⟩ := hR
          subst ev
          have eu : u = Value.none := rv
          subst eu
          obtain ⟨pl, tt, h0, J⟩ := hI
          exact .inl ⟨.inl rfl, H', ys, pl, hn, J.os, J.bare, J.base, J.hok, tt, consumers h0 J, hQ⟩
    · obtain ⟨ys, xx, ip, σ', H', hn, h2, hI, hyl, h3⟩ := hY
      have hg := pinned hI
      obtain ⟨pl, tt, h0, J⟩ := hI
      exact ⟨ys, xx, H', pl, hn, h2, J.os, J.bare, J.nolimit, hg, J.base, J.hok, tt, consumers h0 J, hyl, fun s' z => hkk _ _ (h3 s' z)⟩
    · refine ht.run Aw T fp [] _ sizeLine [] s2 _ [] _ _ id id s2 (start N vs) H _ ⟨hTb, fun p hp hm => ?_, fun p hp => (by simp at hp), fun b hb => Nat.le_trans sz1 (Nat.le_of_lt (hSz b hb)), fun hm => ?_, hcel _, rfl, over_func, rfl, rfl, rfl⟩ (Nat.add_zero _) ⟨fun n ys s₀ s' fl hn hs => ?_, fun n ys s₀ e s' hx => ?_⟩ hG hq
      · rw [pnIn p hp] at hm
        exact absurd (hSz _ hm) (Nat.lt_irrefl _)
      · have z := hSz _ hm
        exact absurd (Nat.lt_trans lt1 z) (Nat.lt_irrefl _)
      · cases fl with
        | next =>
          obtain ⟨σ', H', hI, hQ⟩ := hs
          exact seg_end (.ok (.ret .none)) ⟨ys, .non, [], σ', H', hn, hI, rfl, rfl, hQ⟩
        | brk => obtain ⟨_, _, _, q⟩ := hs; exact False.elim q
        | cont => obtain ⟨_, _, _, q⟩ := hs; exact False.elim q
        | ret u =>
          obtain ⟨v, σ', H', hI, rv, ev, hQ⟩ := hs
          exact seg_end (.ok (.ret u)) ⟨ys, v, [], σ', H', hn, hI, rv, ev, hQ⟩
      · obtain ⟨pl, tt, h0, hx⟩ := hx
        refine seg_wrap ?_
        rw [over_func]
        refine wpAny_mono (show wpAny (model P w) (Aw.deeper (envOfC qual scope s.heap.objs.size f cdv)) (leaving (envOfC qual scope s.heap.objs.size f cdv) e) (fun _ s'' => CX P w outer H s (Ep E (pn ++ pl)) e s'' ∧ ∀ p ∈ pn ++ pl, s''.heap.get? p.1 = some p.2) (fun _ _ => False) s' from hx) (fun _ s'' q => ?_) fun _ s'' q => q.elim
        exact seg_end (.error e) ⟨ys, pl, tt, h0, q⟩
  exact main _ _ _ _ rfl rfl rfl fun h => Heap.get?_push_size _ rfl
end Qk

/-! part G2b -/
set_option Elab.async false
set_option linter.all false
set_option maxRecDepth 100000
set_option maxHeartbeats 2000000
namespace Qk
open PySem PySem.Spec L2 GenW
open PyProof.Rows hiding St
theorem cx_imp {P : Program} {w : World} {outer : List Env} {H : Hp} {s : Shared} {E E' : XK} (h : ∀ cls d H', E cls d H' → E' cls d H') {u : Value} {s' : Shared} (c : CX P w outer H s E u s') : CX P w outer H s E' u s' := by
  obtain ⟨a, B, H', cls, d, z1, fl, z2, ub, z3, z4, z5, z6⟩ := c
  exact ⟨a, B, H', cls, d, z1, fl, z2, ub, z3, z4, z5, h _ _ _ z6⟩
/-- the consumer list(g) -/
theorem GMadeT.made {P : Program} {w : World} {k : Nat} {outer : List Env} {H : Hp} {s : Shared} {yl : List V → V → Hp → Prop} {Q : List V → Hp → Prop} {E : XK} {u : Value} {s' : Shared} (h : GMadeT P w k outer H s yl Q E u s') : GMade P w k outer H s [] Q E u s' := by
  obtain ⟨a, g, c, e, z1, z2, z3, z4, z5, z6, z7, z8, wake⟩ := h
  refine ⟨a, g, c, e, z1, z2, z3, z4, z5, z6, z7, z8, fun A S s2 hr hf hS hk hSo os ba => ?_⟩
  obtain ⟨c0, hc0⟩ := hSo
  refine seg_imp (R := REndT P w outer H s (fun ys pl => ∃ (acc : Array Value) (c : Nat), pl = [(S, lstObj acc c)] ∧ Vals ys acc.toList) a g Q E)
    (Y := YItT P w outer H s (fun ys pl => ∃ (acc : Array Value) (c : Nat), pl = [(S, lstObj acc c)] ∧ Vals ys acc.toList) [S] a g yl) (fun n s₀ r s1 hR => ?_) (fun n s₀ v s1 kap kap' hkk hY => ?_) sizeLine
    (wake A _ [S] s2 hr hf ⟨fun ys pl ⟨acc, c, e, _⟩ => by rw [e]; rfl, fun ys pl ⟨acc, c, e, _⟩ p hp v q => ?_⟩ (fun b hb => by rw [List.mem_singleton.mp hb]; exact hS) hk ⟨[(S, lstObj #[] c0)], ⟨#[], c0, rfl, .nil⟩, fun p hp => by rw [List.mem_singleton.mp hp]; exact hc0⟩ os ba)
  · rcases hR with ⟨hr1, H', ys, pl, hn, q1, q2, q3, q4, ⟨acc, c1, ep, rv⟩, hp, hQ⟩ | ⟨x, hr1, ys, pl, _, _, hc, hg⟩
    · subst ep
      obtain ⟨_, p2, p3⟩ := hp _ (List.mem_singleton.mpr rfl)
      exact .inl ⟨hr1, H', ys, acc, c1, q1, q2, q3, q4, p3, p2, rv, by omega, hQ⟩
    · exact .inr ⟨x, hr1, cx_imp (fun _ _ _ q => q.1) hc, hg⟩
  · obtain ⟨ys, x, H', pl, hn, rv, q1, q2, q3, q4, q5, q6, ⟨acc, c1, ep, rvs⟩, hp, _, hk2⟩ := hY
    subst ep
    obtain ⟨_, p2, _⟩ := hp _ (List.mem_singleton.mpr rfl)
    have hl := rvs.length
    refine ⟨q1, q2, q3, q4, ⟨acc, c1, p2, ?_⟩, fun s3 z => hkk _ _ (hk2 s3 ⟨z.os, z.bare, fun b o hb e => z.keep b o (fun q => hb (List.mem_singleton.mpr q)) e, ?_⟩)⟩
    · have : acc.toList.length = acc.size := by simp
      omega
    · obtain ⟨c', e'⟩ := z.own acc c1 p2
      refine ⟨[(S, lstObj (acc.push v) c')], ⟨_, _, rfl, ?_⟩, fun p hp => by rw [List.mem_singleton.mp hp]; exact e'⟩
      rw [Array.toList_push]
      exact rvs.append (.cons rv .nil)
  · rw [e, List.mem_singleton] at hp
    rw [hp] at q
    cases q
/-- an expression whose value is a generator that has not begun -/
abbrev TGenT := St → Hp → (List V → V → Hp → Prop) → (List V → Hp → Prop) → Prop
structure PGenT (X : Cx) (k : Nat) (e : Expr) (tg : TGenT) (E : XK) : Prop where
  run : ∀ (pins : List (Addr × Obj)) (s : Shared) (σ : St) (H : Hp) (yl : List V → V → Hp → Prop) (cont : List V → Hp → Prop), Inv X pins σ H s → tg σ H yl cont → wpAny (model X.prog X.w) X.A (eval e X.env)
    (fun u s' => ∃ H1 sc, Inv X pins σ H1 sc ∧ GMadeT X.prog X.w k X.stack H1 sc yl cont E u s') X.xe s
theorem PGenT.gen {X : Cx} {k : Nat} {e : Expr} {tg : TGenT} {E : XK} (h : PGenT X k e tg E) : PGen X k e (fun σ H cont => tg σ H (fun _ _ _ => True) cont) E := by
  refine ⟨fun pins s σ H cont I q => thn (h.run pins s σ H _ cont I q) fun u s' ⟨H1, sc, I1, hG⟩ => ?_⟩
  exact ⟨H1, sc, [], I1, .nil, hG.made⟩
def tCallT (sp : SpT) (dvs : List V) (E : XK) (t : TA) : TGenT := fun σ H yl cont => t σ H fun vs H1 => sp (vs ++ dvs) H1 yl cont E
section
variable {X : Cx} {k : Nat} {f : Addr} {fd : FuncData} {ps : List Str} {sp : SpT} {dvs : List V} {ds : List Value} {x : Str} {p pos : Pos}
/-- f(e, ..) of a generator def -/
theorem pgen_callT {E : XK} {e : Expr} {es : List Expr} {t : TA} (F : GFnT X.prog X.w X.K X.mg X.base k f fd ps sp) (hr : Room k X.A) (hg : Gl X x) (hm : X.mg x = some (.ref f)) (hk : PySem.W.keepIn X.K (.ref f) = true) (hb : Binds X.K fd ps ds) (hd : Vals dvs ds)
    (ha : PA X (e :: es) t) (hdb : (x == ("__debug__" : Str)) = false := by decide) (he : starEach (e :: es) X.env = (false, eval e X.env) :: starEach es X.env := by rfl) (hpl : (backTo pos (starEach es X.env)).any (·.1) = false := by rfl) :
    PGenT X k (.Call (.Name x p) (e :: es) [] pos) (tCallT sp dvs E t) E := by
  refine ⟨fun pins s σ H yl cont I h => ?_⟩
  refine wpAny_Call_Name_kw (ld_glob I hg hm ?_ hdb)
  refine PySem.W.callWith_K (h₀ := X.base) I.ok.mod.kin hk (thn (ha.run pos pins s σ H _ I h) fun us s1 ⟨vs, H1, I1, r, q⟩ => ⟨I1.kIn, ?_⟩) he hpl
  have r2 : Vals (vs ++ dvs) (us ++ ds) := r.append hd
  have hl2 : (us ++ ds).length = ps.length := by rw [← r2.length]; exact F.len _ _ _ _ _ q
  refine wpAny_call (codeAny_mono (F.run X.A X.stack s1 H1 ⟨us, []⟩ (us ++ ds) (vs ++ dvs) yl cont E hr I1.env0 (hb s1 us I1.kIn hl2) r2 q) fun r s' hq => ?_)
  cases r with
  | error e => exact False.elim hq
  | ok fl =>
    cases fl with
    | ret u => exact ⟨H1, s1, I1, hq⟩
    | next => exact False.elim hq
    | brk => exact False.elim hq
    | cont => exact False.elim hq
end
end Qk

/-! part G3 -/
set_option Elab.async false
set_option linter.all false
set_option maxRecDepth 100000
set_option maxHeartbeats 2000000
namespace Qk
open PySem PySem.Spec L2 GenW
open PyProof.Rows hiding St
/-! ### name = [a for a, b, c in g(..) if b != c], what the generator raises let through -/
section
variable {M : Model} {A : Around} {E : Value → Shared → Prop} {s : Shared} {env : Env}
/-- behind the block, its value stored at once -/
def cPost (M : Model) (A : Around) (E : Value → Shared → Prop) (u : Value → Sem Unit) (Q : Value → Shared → Prop) (acc : Value) (ce : Env) (r : Result) (s' : Shared) : Prop :=
  match r with
  | .ok _ => wpAny M A (u acc) (fun _ s'' => ∃ m, s''.heap.Ns ce.locals m ∧ ∀ h', Heap.SameBut ce.locals s''.heap h' → Q .none { s'' with heap := h' }) E s'
  | .error x => ∃ m, s'.heap.Ns ce.locals m ∧ ∀ h', Heap.SameBut ce.locals s'.heap h' → wpAny M A (passOn "comprehension.variables-let-go" x ce : Sem Value) (fun _ _ => False) E { s' with heap := h' }
theorem comp_enter {e : Expr} {scope : Scope} {pos : Pos} {newAcc first : Sem Value} {g : Comprehension} {gs : List Comprehension} {cl : List (Str × Addr)} {u : Value → Sem Unit} {Q : Value → Shared → Prop}
    (hcl : clausesOf e = g :: gs) (hs : ∀ x, foldedSetIterable g.iter env x = pure x) (hclos : closureFor scope env = pure cl) (hkind : scope.kind = .function) (hnames : ∀ x ∈ scope.names, x.2 = .local → scope.names.lookup x.1 = some .local)
    (h : wpAny M A first (fun x s₁ => wpAny M A (pyIter x) (fun it s₂ => wpAny M A newAcc (fun acc s₃ => wpAny M A (newFunctionEnv scope env.globals cl [] env.qual none .none (some env)) (fun cenv s₄ =>
      codeAny M A (.compStart e 0 it acc { cenv with scope := relabel scope env }) (cPost M A E u Q acc { cenv with scope := relabel scope env }) s₄) E s₃) E s₂) E s₁) E s) :
    wpAny M A (comprehension e scope env pos newAcc false first (some u)) Q E s := by
  unfold comprehension
  rw [hclos, hcl]
  refine wpAny_bind (wpAny_mono h (fun x s₁ h₁ => ?_) fun _ _ z => z)
  refine wpAny_bind (wpAny_standAt (wpAny_bind (wpAny_of_eq (hs x) (wpAny_bind (wpAny_holding (wpAny_mono h₁ (fun it s₂ h₂ => ?_) fun _ _ z => z))))))
  refine wpAny_standIf (wpAny_bind (wpAny_mono h₂ (fun acc s₃ h₃ => ?_) fun _ _ z => z))
  refine wpAny_bind (wpAny_pure (wpAny_bind (wpAny_mono h₃ (fun cenv s₄ h₄ => ?_) fun _ _ z => z)))
  dsimp only
  have hv : ∀ x ∈ (scope.names.filter fun x => (x.2 == .local || x.2 == .cell) && x.1 != (".0" : Str)).reverse, x.2 = .local → Env.kindOf { cenv with scope := relabel scope env } x.1 = some .local :=
    fun x hx hl => lookup_relabel_local (hnames x (List.mem_filter.mp (List.mem_reverse.mp hx)).1 hl)
  refine wpAny_holding (wpAny_bind (wpAny_attempt (wpAny_holding (wpAny_run (codeAny_mono h₄ fun r s' hr => ?_)))))
  cases r with
  | ok f =>
    refine wpAny_bind (wpAny_rule (wpAny_bind (wpAny_holding (wpAny_mono hr (fun _ s'' ⟨m, hn, hq⟩ => ?_) fun _ _ z => z))))
    refine wpAny_bind (wpAny_comp_letGo (cenv := { cenv with scope := relabel scope env }) hkind _ s'' m (fun x hx hl => ?_) hn fun h' m' _ sb => wpAny_pure (hq h' sb))
    rcases List.mem_append.mp hx with h1 | h1
    · exact hv x (List.mem_of_mem_drop h1) hl
    · exact hv x (List.mem_of_mem_take h1) hl
  | error x =>
    obtain ⟨m, hn, hq⟩ := hr
    exact wpAny_bind (wpAny_holding (wpAny_comp_letGo (cenv := { cenv with scope := relabel scope env }) hkind _ s' m hv hn fun h' m' _ sb => wpAny_mono (hq h' sb) (fun _ _ z => z.elim) fun _ _ z => z))
/-- values that tell apart as data do -/
def scal4 : V → Bool
  | .int _ => true | .str _ => true | _ => false
theorem ne_vals {prog : Program} {w : World} {x y : V} {u v : Value} {Q : Value → Shared → Prop} (hx : scal4 x = true) (hy : scal4 y = true) (rx : RelV x u) (ry : RelV y v) (h : Q (.bool (!decide (x = y))) s) : wpAny (model prog w) A (compareOp .NotEq u v) Q E s := by
  cases x with
  | int i =>
    obtain ⟨t, rfl⟩ := rx
    cases y with
    | int j => obtain ⟨t', rfl⟩ := ry; rw [congrArg not dec_int] at h; exact PyProof.Rows.ne_int h
    | str j => obtain ⟨t', rfl⟩ := ry; exact PySem.EqMixed.ne_int_str (by simpa using h)
    | _ => exact absurd (show false = true from hy) Bool.false_ne_true
  | str i =>
    obtain ⟨t, rfl⟩ := rx
    cases y with
    | int j => obtain ⟨t', rfl⟩ := ry; exact PySem.EqMixed.ne_str_int (by simpa using h)
    | str j => obtain ⟨t', rfl⟩ := ry; rw [congrArg not dec_str] at h; exact PyProof.Rows.ne_str h
    | _ => exact absurd (show false = true from hy) Bool.false_ne_true
  | _ => exact absurd (show false = true from hx) Bool.false_ne_true
end
section
variable {X : Cx} {s s' : Shared} {H H' : Hp} {B : Heap} {W : WX} {pins : List (Addr × Obj)} {σ : St}
/-- an exception that came back, wherever it stands by now, is in our air -/
theorem xe_of_sky (I : Inv X pins σ H s) {a : Addr} {cls : Value} {d : Option Addr} (hok : HOk X.prog X.w H' B) (ub : UB (frs X.stack) H H' s.heap B s'.heap) (st : B.StaysIn s'.heap) (sky : Sky B X.stack a (Zc cls d) X.env.locals s'.heap) (na : H' a = none)
    (os : s'.os = s.os) (ag : AllBare s'.gens) (hW : W cls d σ H') : XE X W (.ref a) s' := by
  obtain ⟨G, g1, g2⟩ := restrict s'.heap fun b => (B.get? b).isSome || decide (b ∈ frs X.stack)
  have gB : ∀ b o, B.get? b = some o → G.get? b = some o := fun b o e => by
    rw [g1 b (by simp [e])]
    exact st b o e
  have gF : ∀ b, b ∈ frs X.stack → G.get? b = s'.heap.get? b := fun b hb => g1 b (by simp [hb])
  have og : ∀ b o, G.get? b = some o → s'.heap.get? b = some o ∧ ((B.get? b).isSome = true ∨ b ∈ frs X.stack) := fun b o e => by
    cases q : ((B.get? b).isSome || decide (b ∈ frs X.stack)) with
    | false => rw [g2 b q] at e; cases e
    | true =>
      rw [g1 b q] at e
      exact ⟨e, by simpa [Bool.or_eq_true] using q⟩
  refine ⟨a, B, { s with heap := G, gens := s'.gens, drawn := s'.drawn, toks := s'.toks }, pins, σ, H', cls, d, rfl, ?_, fun b o e hb => ?_, Heap.UpToSlots.of_keeps fun b o e => (og b o e).1, sky, na, os, ag, hW⟩
  · refine I.call (ch := []) ⟨fun b o e n hb _ => gB b o (ub.keep b o e n hb), fun b o e n hb _ => ?_, fun b o e n _ => ub.free b o e n, fun b o e _ => ?_, ub.tups, ub.frzs, ub.tbls⟩ (hok.kept gB) ag (fun _ z => nomatch z)
    · obtain ⟨sl, q⟩ := ub.slot b o e hb
      exact ⟨sl, by rw [gF b hb]; exact q⟩
    · by_cases hb : b ∈ frs X.stack
      · obtain ⟨sl, q⟩ := ub.slot b o e hb
        exact ⟨_, by rw [gF b hb]; exact q⟩
      · obtain ⟨o', q⟩ := ub.there b o e hb
        exact ⟨o', gB b o' q⟩
  · obtain ⟨e', h⟩ := og b o e
    rcases h with h | h
    · obtain ⟨o', q⟩ := Option.isSome_iff_exists.mp h
      have z := st b o' q
      rw [e'] at z; cases z
      exact q
    · exact absurd h hb
end
end Qk

/-! part G4 -/
set_option Elab.async false
set_option linter.all false
set_option maxRecDepth 100000
set_option maxHeartbeats 2000000
namespace Qk
open PySem PySem.Spec L2 GenW
open PyProof.Rows hiding St
theorem funFrames_same {B h h' : Heap} : ∀ {l : List Env}, h.FunFrames B l → (∀ L ∈ frs l, h'.get? L = h.get? L) → h'.FunFrames B l
  | [], _, _ => trivial
  | env :: l, h, hn => by
    obtain ⟨hk, ⟨L, o, hf, hb, ho, hd⟩, hr⟩ := h
    exact ⟨hk, ⟨L, o, hf, hb, (hn L (List.mem_filterMap.mpr ⟨env, List.mem_cons_self, hf⟩)).trans ho, hd⟩, funFrames_same hr fun b hb => by
      obtain ⟨e, he, q⟩ := List.mem_filterMap.mp hb
      exact hn b (List.mem_filterMap.mpr ⟨e, List.mem_cons_of_mem _ he, q⟩)⟩
section
variable {X : Cx} {sc s1 : Shared} {H1 : Hp} {E : XK} {pins pl : List (Addr × Obj)} {σ : St} {C : Addr} {oC : Obj} {ce : Env} {e : Value}
/-- what a generator raised goes through the block that reads it -/
theorem block_raise {u : Value → Sem Unit} {Q : Value → Shared → Prop} {acc : Value} {g : Nat} (hs : X.stack = X.env :: X.outer) (hf : X.env.frame = some X.env.locals) (tk : Takes X fun cls d _ H => E cls d H)
    (hcf : ce.frame = X.env.frame) (hcl : ce.locals = C) (I : Inv X pins σ H1 sc) (hC : sc.heap.objs.size ≤ C) (c : CX X.prog X.w X.stack H1 sc (Ep E pl) e s1) (hm : (C, oC) ∈ pl) {m : Str → Option Value} (hN : s1.heap.Ns C m) {E' : Value → Shared → Prop} :
    wpAny (model X.prog X.w) X.A (noteFrame e ce) (fun _ s'' => cPost (model X.prog X.w) X.A X.xe u Q acc ce (.error e) s'') E' (s1.setGen g .finished) := by
  have hnf : noteFrame e ce = noteFrame e X.env := by unfold noteFrame PySem.frameOf; rw [hcf]
  rw [hnf]
  obtain ⟨a, B, H', cls, d, rfl, fl, hok, ub, na, os, ag, hE, hpn⟩ := c
  have nC : H' C = none := hpn _ hm
  obtain ⟨B', b1, b2⟩ := restrict B fun b => decide (b ≠ C)
  have eC : B'.get? C = none := b2 C (by simp)
  have eB : ∀ b, b ≠ C → B'.get? b = B.get? b := fun b hb => b1 b (by simp [hb])
  have subB : ∀ b o, B'.get? b = some o → B.get? b = some o := fun b o q => by
    rw [← eB b (fun z => by rw [z, eC] at q; cases q)]; exact q
  have neC : ∀ b o, sc.heap.get? b = some o → b ≠ C := fun b o q z => by
    have := Heap.lt_size q
    rw [z] at this
    exact absurd (Nat.lt_of_lt_of_le this hC) (Nat.lt_irrefl _)
  have frC : ∀ L ∈ frs X.stack, L ≠ C := fun L hL => by
    obtain ⟨_, o, ho, _⟩ := I.stack.mem hL
    exact neC L o ho
  have sub0 : ∀ b, B.get? b = none → B'.get? b = none := fun b q => by
    cases z : B'.get? b with
    | none => rfl
    | some o => rw [subB b o z] at q; cases q
  obtain ⟨k1, k2, k3, oe, vs, T, oT, ts, he, hz, hd, h1, hnT, hTe, hT, hdT, h3⟩ := fl
  have fl' : HandSPX.FlyingZ B' X.stack a (Zc cls d) s1.heap := ⟨fun b o q => k1 b o (subB b o q), sub0 a k2, funFrames_none k3 (fun L hL => sub0 L (k3.mem hL).1), oe, vs, T, oT, ts, he, hz, hd, h1, sub0 T hnT, hTe, hT, hdT, h3⟩
  have hok' : HOk X.prog X.w H' B' := fun b u q => (hok b u q).stay (fun c v hc y => by
    rw [eB c fun z => ?_]; exact y
    rcases hc with w | w
    · rw [← w, z, nC] at q; cases q
    · rw [z, nC] at w; cases w) (fun _ y => y) fun _ _ y => y
  have hfr : X.A.frames = some (X.env :: X.outer) := by rw [I.ok.frames, hs]
  rw [hs] at fl'
  refine HandSPX.looks_onZ (s := s1.setGen g .finished) Zc.steady hfr hf fl' fun h2 hh2 up2 => ?_
  obtain ⟨oN, es, ep, hoN, hdN, rN⟩ := hN
  obtain ⟨sl, e2⟩ := up2 C oN hoN fun vs q => by rw [hdN] at q; cases q
  refine ⟨m, ⟨({ oN with slots := sl } : Obj), es, ep, by rw [hcl]; exact e2, hdN, rN⟩, fun h5 sb => ?_⟩
  rw [hcl] at sb
  obtain ⟨j1, j2, j3, oe2, vs2, T2, oT2, ts2, he2, hz2, hd2, h12, hnT2, hTe2, hT2, hdT2, h32⟩ := hh2
  have aC : a ≠ C := fun z => by
    rw [z] at he2
    have q := he2.symm.trans e2
    cases q
    rw [show ({ oN with slots := sl } : Obj).data = oN.data from rfl, hdN] at hd2
    cases hd2
  have TC : T2 ≠ C := fun z => by
    rw [z] at hT2
    have q := hT2.symm.trans e2
    cases q
    rw [show ({ oN with slots := sl } : Obj).data = oN.data from rfl, hdN] at hdT2
    cases hdT2
  have hh5 : HandSPX.HeldZ B' (X.env :: X.outer) a (Zc cls d) X.env.locals h5 := ⟨fun b o q => (sb.2 b fun z => by rw [z, eC] at q; cases q).trans (j1 b o q), j2, funFrames_same j3 (fun L hL => sb.2 L (frC L (by rw [hs]; exact hL))),
    oe2, vs2, T2, oT2, ts2, (sb.2 a aC).trans he2, hz2, hd2, h12, hnT2, hTe2, (sb.2 T2 TC).trans hT2, hdT2, h32⟩
  unfold PySem.passOn
  refine wpAny_bind (wpAny_field ((sb.2 a aC).trans he2) hd2 h12 ?_)
  rw [if_neg (show ¬ ((Value.ref T2 == Value.none) = true) from by simp)]
  have fin : wpAny (model X.prog X.w) X.A (setFlight (.ref a) ce.frame) (fun _ s4 => wpAny (model X.prog X.w) X.A (throw (.ref a) : Sem Value) (fun _ _ => False) X.xe s4) X.xe { s1.setGen g .finished with heap := h5 } := by
    rw [hcf, hf]
    refine HandSPX.setFlight_onZ (L := X.env.locals) hh5 fun h6 hh6 up6 => wpAny_throw (tk _ _ ?_)
    refine xe_of_sky I hok' ⟨fun b o q n hb => (eB b (neC b o q)).trans (ub.keep b o q n hb), fun b o q hb => ?_, ub.free, fun b o q hb => ?_, ub.tups, ub.frzs, ub.tbls⟩ hh6.1 (.inr (.inr (by rw [hs]; exact hh6))) na os (allBare_setGen ag rfl) hE
    · obtain ⟨_, o', e', hnf'⟩ := I.stack.mem hb
      rw [q] at e'; cases e'
      obtain ⟨sl1, q1⟩ := ub.slot b o q hb
      obtain ⟨sl2, q2⟩ := up2 b _ q1 hnf'
      have q3 := (sb.2 b (neC b o q)).trans q2
      obtain ⟨sl4, q4⟩ := up6 b _ q3 hnf'
      exact ⟨sl4, q4⟩
    · obtain ⟨o', q'⟩ := ub.there b o q hb
      exact ⟨o', (eB b (neC b o q)).trans q'⟩
  first
    | exact wpAny_bind (wpAny_pure (wpAny_bind fin))
    | exact wpAny_bind fin
end
end Qk

/-! part G5 -/
set_option Elab.async false
set_option linter.all false
set_option maxRecDepth 100000
set_option maxHeartbeats 4000000
namespace Qk
open PySem PySem.Spec L2 GenW
open PyProof.Rows hiding St
/-- a namespace's object -/
def NsO (o : Obj) : Prop := ∃ es ep, o.data = .dict es ep ∧ StrKeys es
theorem NsO.of {h : Heap} {C : Addr} {m : Str → Option Value} (x : h.Ns C m) : ∃ o, h.get? C = some o ∧ NsO o := let ⟨o, es, ep, ho, hd, hk, _⟩ := x; ⟨o, ho, es, ep, hd, hk⟩
theorem NsO.ns {h : Heap} {C : Addr} {o : Obj} (x : NsO o) (e : h.get? C = some o) : ∃ m, h.Ns C m := let ⟨es, ep, hd, hk⟩ := x; ⟨_, o, es, ep, e, hd, hk, fun _ => rfl⟩
theorem NsO.nc {o : Obj} (x : NsO o) : ∀ v, o.data ≠ .cell v := fun v q => let ⟨_, _, hd, _⟩ := x; by rw [hd] at q; cases q
/-- the block's own records: its namespace at C, its list at D -/
def TbC (C D : Addr) : Tb := fun _ pl => ∃ oC oD, pl = [(C, oC), (D, oD)] ∧ NsO oC ∧ ∀ v, oD.data ≠ .cell v
theorem tbC_ok (C D : Addr) : TbOk (TbC C D) [C, D] where
  ad := fun ys pl ⟨oC, oD, e, _⟩ => by rw [e]; rfl
  nc := fun ys pl ⟨oC, oD, e, hC, hD⟩ p hp v => by
    rw [e] at hp
    rcases List.mem_cons.mp hp with z | z
    · rw [z]; exact hC.nc v
    · rw [List.mem_singleton.mp z]; exact hD v
/-- what is asked of each item -/
def ylC (accF : Nat → List V) : List V → V → Hp → Prop := fun ys x H' => ∃ a v0 v1 v2, x = .ref a ∧ H' a = some (.tup [v0, v1, v2]) ∧ scal4 v1 = true ∧ scal4 v2 = true ∧ accF (ys.length + 1) = if v1 = v2 then accF ys.length else accF ys.length ++ [v0]
/-- name i = [a for a, b, c in g if b != c] -/
def tSetG (tg : TGenT) (i : Nat) : TS := fun D σ H => ∃ accF : Nat → List V, accF 0 = [] ∧ tg σ H (ylC accF)
  (fun ys H' => ∀ d, H' d = none → D.nx (σ.set i (some (.ref d))) (upd H' d (.lst (accF ys.length))))
theorem ps_setGen {X : Cx} {k i : Nat} {y x0 x1 x2 : Str} {py p0 p1 p2 q0 q1 q2 tp cp : Pos} {iter : Expr} {scope : Scope} {pos spos : Pos} {kk : Nat} {tg : TGenT} {E : XK}
    (hs : X.stack = X.env :: X.outer) (hf : X.env.frame = some X.env.locals) (hc : X.calm = true) (hN : X.N.Nodup) (hy : X.N[i]? = some y) (hyl : X.env.scope.names.lookup y = some .local)
    (hsw : swapsWith (.ListComp (.Name x0 p0) [⟨.Tuple [.Name x0 q0, .Name x1 q1, .Name x2 q2] kk tp, iter, [.Compare (.Name x1 p1) [.NotEq] [.Name x2 p2] cp], 0⟩] scope pos) (some (.Name y py)) spos.line X.env = pure true)
    (hi : PGenT X k iter tg E) (tk : Takes X fun cls d _ H => E cls d H) (hns : NoStop X.K E) (hr : Room (k + 1) X.A)
    (hk : scope.kind = .function) (hloc : ∀ z ∈ scope.names, z.2 = .local ∧ scope.names.lookup z.1 = some .local) (hcf : cloFrom X.env.cells scope.names [] = [])
    (h0 : scope.names.lookup x0 = some .local) (h1 : scope.names.lookup x1 = some .local) (h2 : scope.names.lookup x2 = some .local) (n01 : x0 ≠ x1) (n02 : x0 ≠ x2) (n12 : x1 ≠ x2)
    (g0 : (x0 == ("__debug__" : Str)) = false) (g1 : (x1 == ("__debug__" : Str)) = false) (g2 : (x2 == ("__debug__" : Str)) = false) (hfs : ∀ x, foldedSetIterable iter X.env x = pure x := by intro _; rfl) :
    PS X (.Assign [.Name y py] (.ListComp (.Name x0 p0) [⟨.Tuple [.Name x0 q0, .Name x1 q1, .Name x2 q2] kk tp, iter, [.Compare (.Name x1 p1) [.NotEq] [.Name x2 p2] cp], 0⟩] scope pos) spos) (tSetG tg i) := by
  refine ⟨fun pins s σ H Dn I ht => ?_⟩
  obtain ⟨accF, a0, ht⟩ := ht
  rw [exec_Assign_Name_used _ _ _ _ hsw]
  refine wpAny_bind (wpAny_standAt (wpAny_bind ?_))
  show wpAny _ X.A (do let _ ← comprehension (.ListComp (.Name x0 p0) [⟨.Tuple [.Name x0 q0, .Name x1 q1, .Name x2 q2] kk tp, iter, [.Compare (.Name x1 p1) [.NotEq] [.Name x2 p2] cp], 0⟩] scope pos) scope X.env (firstIterPos [⟨.Tuple [.Name x0 q0, .Name x1 q1, .Name x2 q2] kk tp, iter, [.Compare (.Name x1 p1) [.NotEq] [.Name x2 p2] cp], 0⟩] pos) (newList []) false (eval iter X.env) (some (assign (.Name y py) X.env))) _ _ s
  have ncl : ∀ z ∈ scope.names, z.2 ≠ .cell := fun z hz => by rw [(hloc z hz).1]; exact fun q => by cases q
  have hclo : closureFor scope X.env = pure [] := by
    have q := closure_ok (scope := scope) (env := X.env) fun z hz e => absurd ((hloc z hz).1.symm.trans e) (by decide)
    rw [hcf] at q
    exact q
  refine wpAny_bind (wpAny_mono (Q := fun _ s' => SP X pins Dn .next s') (comp_enter (Q := fun _ s' => SP X pins Dn .next s') rfl hfs hclo hk (fun z hz _ => (hloc z hz).2) (thn (hi.run pins s σ H _ _ I ht) fun u s1 hG => ?_)) (fun _ s' hq => wpAny_pure (wpAny_pure hq)) fun _ _ z => z)
  obtain ⟨H1, sc, I1, a, g, c, eu, za, zb, hg, hgs, os1, ba1, nl1, kp1, wake⟩ := hG
  subst eu
  refine wpAny_pyIter_gen hg ?_
  refine wpAny_newObj_type (wpAny_newFunctionEnv ncl (by intro z hz; simp at hz) (fun h4 hN4 hb4 => ?_) hk) (by show 0 ≤ sizeLine; decide)
  dsimp only at hN4 hb4 ⊢
  have szD : s1.heap.objs.size < (s1.heap.push { cls := .type "list", data := .seq ([] : List Value).toArray }).objs.size := by rw [Heap.size_push]; exact Nat.lt_succ_self _
  generalize hDe : s1.heap.objs.size = D at hN4 hb4 szD ⊢
  generalize hh3 : s1.heap.push { cls := .type "list", dict := none, data := .seq ([] : List Value).toArray } = h3 at hN4 hb4 szD ⊢
  generalize hCe : h3.objs.size = C at hN4 hb4 szD ⊢
  have CD : C ≠ D := Nat.ne_of_gt szD
  have hDsz : s1.heap.objs.size ≤ D := Nat.le_of_eq hDe
  have hCsz : s1.heap.objs.size ≤ C := by rw [hDe]; exact Nat.le_of_lt szD
  have scD : sc.heap.objs.size ≤ D := Nat.le_trans (Nat.le_trans za (Nat.le_of_lt zb)) hDsz
  have scC : sc.heap.objs.size ≤ C := Nat.le_trans (Nat.le_trans za (Nat.le_of_lt zb)) hCsz
  have old : ∀ b o, s1.heap.get? b = some o → b ≠ C ∧ b ≠ D := fun b o q => by
    have := Heap.lt_size q
    exact ⟨Nat.ne_of_lt (Nat.lt_of_lt_of_le this hCsz), Nat.ne_of_lt (Nat.lt_of_lt_of_le this hDsz)⟩
  have kp4 : ∀ b o, s1.heap.get? b = some o → h4.get? b = some o := fun b o q => by
    refine (hb4.2 b (old b o q).1).trans (Heap.get?_push_of_some _ ?_)
    rw [← hh3]
    exact Heap.get?_push_of_some _ q
  have D4 : h4.get? D = some (lstObj #[] 0) := by
    refine (hb4.2 D (Ne.symm CD)).trans (Heap.get?_push_of_some _ ?_)
    rw [← hh3, ← hDe]
    exact Heap.get?_push_size _ rfl
  have hh : X.A.handled = none := I1.ok.hd hc
  generalize hce : compEnvC scope [] C X.env = ce
  show codeAny _ _ (.compStart _ 0 (.ref a) (.ref D) (compEnvC scope [] C X.env)) (cPost (model X.prog X.w) X.A X.xe (assign (.Name y py) X.env) (fun _ s' => SP X pins Dn .next s') (.ref D) (compEnvC scope [] C X.env)) _
  rw [hce]
  have ceL : ce.locals = C := by rw [← hce]; rfl
  have ceF : ce.frame = X.env.frame := by rw [← hce]; rfl
  have ceK : ce.scope.kind = .function := by rw [← hce]; exact hk
  have ceP : (ce.scope.kind == .class || (ce.scope.kind == .module && ce.locals != ce.globals)) = false := by rw [ceK]; rfl
  have k0 : ce.kindOf x0 = some .local := by rw [← hce]; exact lookup_relabel_local h0
  have k1 : ce.kindOf x1 = some .local := by rw [← hce]; exact lookup_relabel_local h1
  have k2 : ce.kindOf x2 = some .local := by rw [← hce]; exact lookup_relabel_local h2
  generalize hQd : (fun (ys : List V) (H' : Hp) => ∀ d, H' d = none → Dn.nx (σ.set i (some (.ref d))) (upd H' d (.lst (accF ys.length)))) = Qd at wake
  have loop : ∀ s4 : Shared, s4.heap = h4 → s4.gens = s1.gens → s4.os = s1.os → codeAny (model X.prog X.w) X.A (.compLoop (.ListComp (.Name x0 p0) [⟨.Tuple [.Name x0 q0, .Name x1 q1, .Name x2 q2] kk tp, iter, [.Compare (.Name x1 p1) [.NotEq] [.Name x2 p2] cp], 0⟩] scope pos) 0 (.ref a) (.ref D) ce)
      (cPost (model X.prog X.w) X.A X.xe (assign (.Name y py) X.env) (fun _ s' => SP X pins Dn .next s') (.ref D) ce) s4 := by
    intro s4 e4h e4g e4o
    have goes : ∀ {gs : GenState} {B : Around} {n : Nat} {r : Resume} {s : Shared}, gs.Goes (model X.prog X.w) B (REndT X.prog X.w X.stack H1 sc (TbC C D) a g Qd E) (YItT X.prog X.w X.stack H1 sc (TbC C D) [C, D] a g (ylC accF)) n r s →
        gs.Goes (model X.prog X.w) B (fun n s₀ r s1 => ((r = .ok (.ret .none) ∨ r = .ok .next) ∧ (∃ H' ys pl, n + ys.length = sizeLine ∧ s1.os = sc.os ∧ AllBare s1.gens ∧ Un (frs X.stack) [] H1 H' sc.heap s1.heap ∧ HOk X.prog X.w H' s1.heap ∧ TbC C D ys pl ∧ (∀ p ∈ pl, s₀.heap.get? p.1 = some p.2 ∧ s1.heap.get? p.1 = some p.2 ∧ H' p.1 = none) ∧ Qd ys H')) ∨
          ∃ e, r = .error e ∧ (∃ ys pl, TbC C D ys pl ∧ (∀ p ∈ pl, s1.heap.get? p.1 = some p.2) ∧ CX X.prog X.w X.stack H1 sc (Ep E pl) e s1 ∧ s1.heap.IsGen a g)) (YItT X.prog X.w X.stack H1 sc (TbC C D) [C, D] a g (ylC accF)) n r s := fun h => h
    refine compLoop_any (fun n s' => ∃ gs j, n + j = sizeLine ∧ s'.gens[g]? = some gs ∧ gs.Goes (model X.prog X.w) X.A.in1 (REndT X.prog X.w X.stack H1 sc (TbC C D) a g Qd E) (YItT X.prog X.w X.stack H1 sc (TbC C D) [C, D] a g (ylC accF)) n (.send .none) (s'.setGen g .running) ∧
      s'.heap.IsGen a g ∧ s'.heap.NoLimit ∧ (∃ m, s'.heap.Ns C m) ∧ ∃ acc c, s'.heap.get? D = some (lstObj acc c) ∧ Vals (accF j) acc.toList ∧ (accF j).length ≤ j) ?_ sizeLine ⟨.fresh c, 0, rfl, by rw [e4g]; exact hgs, ⟨rfl, ?_⟩, by rw [e4h]; exact hg.keeps kp4, by rw [e4h]; exact nl1.keeps kp4, ⟨_, by rw [e4h]; exact hN4⟩, #[], 0, by rw [e4h]; exact D4, by rw [a0]; exact .nil, by rw [a0]; exact Nat.le_refl _⟩
    rotate_left
    · obtain ⟨oC, eC, nC⟩ := NsO.of hN4
      refine wake X.A.in1 (TbC C D) [C, D] (s4.setGen g .running) ⟨hr.hd, ?_, ?_⟩ I1.ok.frames (tbC_ok C D) (fun b hb => ?_) (fun b o q => by show s4.heap.get? b = some o; rw [e4h]; exact kp4 b o q) ⟨[(C, oC), (D, lstObj #[] 0)], ⟨oC, _, rfl, nC, fun v q => by cases q⟩, fun p hp => ?_⟩ (e4o.trans os1) (allBare_setGen (by rw [e4g]; exact ba1) rfl)
      · have := hr.dp
        show X.A.depth + 3 * k + 5 < _
        omega
      · have := hr.un
        show X.A.units + 1 + 16 * k + 200 < _
        omega
      · rcases List.mem_cons.mp hb with z | z
        · rw [z]; exact hCsz
        · rw [List.mem_singleton.mp z]; exact hDsz
      · show s4.heap.get? p.1 = some p.2
        rw [e4h]
        rcases List.mem_cons.mp hp with z | z
        · rw [z]; exact eC
        · rw [List.mem_singleton.mp z]; exact D4
    rintro n s ⟨gs, j, hj, hgs, hgo, hg, hl, hC, acc, cc, hD, hV, hle⟩
    have hgl : g < s.gens.size := (Array.getElem?_eq_some_iff.mp hgs).1
    have hDn : X.A.depth < recursionLimit := by have := hr.dp; omega
    refine wpAny_gsz (n := g + 1) hgl (next_genG (A := X.A) hh hl hDn hg hgs (goes hgo) (fun v s₁ gs' hbare hv => ?_) (fun s₁ hp h' hk' => ?_) fun e s₁ he => ?_)
    · intro hsz
      obtain ⟨ys, x, H', pl, hn, rv, os1', ba1', nl1', hg1, un, hok, ⟨oC, oD, epl, nC, nD⟩, hpl, ⟨ta, v0, v1, v2, ex, hta, s1v, s2v, hacc⟩, hkap⟩ := hv
      subst epl ex
      obtain ⟨pC0, pC1, pC2⟩ := hpl (C, oC) List.mem_cons_self
      obtain ⟨pD0, pD1, pD2⟩ := hpl (D, oD) (List.mem_cons_of_mem _ (List.mem_singleton.mpr rfl))
      have eD : oD = lstObj acc cc := by
        have q : s.heap.get? D = some oD := pD0
        rw [hD] at q; cases q; rfl
      subst eD
      obtain rfl : v = .ref ta := rv
      obtain ⟨m0, hN0⟩ := nC.ns (h := s₁.heap) pC1
      cases n with
      | zero =>
        refine False.elim (hkap s₁ ⟨rfl, ba1', fun b o _ q => q, [(C, oC), (D, lstObj acc cc)], ⟨oC, _, rfl, nC, nD⟩, fun p hp => (hpl p hp).2.1⟩)
      | succ n =>
        have hj' : ys.length = j := by
          have : n + 1 - 1 + 1 + ys.length = sizeLine := hn
          omega
        rw [hj'] at hacc
        have hsz1 : g < s₁.gens.size := by
          have q : (s₁.setGen g gs').gens.size = s₁.gens.size := setGen_size _ _ _
          have hsz' : g + 1 ≤ (s₁.setGen g gs').gens.size := hsz
          omega
        -- one turn's end
        have again : ∀ (h9 : Heap) (tk9 : Nat), (∀ b o, b ≠ C → b ≠ D → s₁.heap.get? b = some o → h9.get? b = some o) → (∃ m, h9.Ns C m) → (∃ acc c, h9.get? D = some (lstObj acc c) ∧ Vals (accF (j + 1)) acc.toList ∧ (accF (j + 1)).length ≤ j + 1) →
            ∃ m, m < n + 1 ∧ ∃ gs j, m + j = sizeLine ∧ ({ s₁.setGen g gs' with heap := h9, toks := tk9 } : Shared).gens[g]? = some gs ∧ gs.Goes (model X.prog X.w) X.A.in1 (REndT X.prog X.w X.stack H1 sc (TbC C D) a g Qd E) (YItT X.prog X.w X.stack H1 sc (TbC C D) [C, D] a g (ylC accF)) m (.send .none) (({ s₁.setGen g gs' with heap := h9, toks := tk9 } : Shared).setGen g .running) ∧
              h9.IsGen a g ∧ h9.NoLimit ∧ (∃ m, h9.Ns C m) ∧ ∃ acc c, h9.get? D = some (lstObj acc c) ∧ Vals (accF j) acc.toList ∧ (accF j).length ≤ j := fun h9 tk9 keep9 ns9 ⟨acc9, c9, d9, v9, l9⟩ => by
          obtain ⟨m9, hm9⟩ := ns9
          obtain ⟨o9, e9, n9⟩ := NsO.of hm9
          have aC : a ≠ C ∧ a ≠ D := by
            obtain ⟨o, nm, qn, ho, _⟩ := hg1
            refine ⟨Nat.ne_of_lt (Nat.lt_of_lt_of_le zb hCsz), Nat.ne_of_lt (Nat.lt_of_lt_of_le zb hDsz)⟩
          refine ⟨n, Nat.lt_succ_self n, gs', j + 1, by omega, setGen_at hsz1, hkap _ ⟨rfl, allBare_setGen (s := { s₁.setGen g gs' with heap := h9, toks := tk9 }) (allBare_setGen ba1' hbare) rfl, fun b o hb q => keep9 b o (fun z => hb (by simp [z])) (fun z => hb (by simp [z])) q,
            [(C, o9), (D, lstObj acc9 c9)], ⟨o9, _, rfl, n9, fun v q => by cases q⟩, fun p hp => ?_⟩, ?_, ?_, ⟨m9, hm9⟩, acc9, c9, d9, v9, l9⟩
          · rcases List.mem_cons.mp hp with z | z
            · rw [z]; exact e9
            · rw [List.mem_singleton.mp z]; exact d9
          · obtain ⟨o, nm, qn, ho, r⟩ := hg1
            exact ⟨o, nm, qn, keep9 a o aC.1 aC.2 ho, r⟩
          · obtain ⟨mc, hns, hnn⟩ := nl1'
            obtain ⟨_, hns0, _⟩ := id nl1
            have hlt := hns0.lt
            exact ⟨mc, hns.at' fun o q => keep9 _ o (Nat.ne_of_lt (Nat.lt_of_lt_of_le hlt hCsz)) (Nat.ne_of_lt (Nat.lt_of_lt_of_le hlt hDsz)) q, hnn⟩
        obtain ⟨tz, its, tr, tob⟩ := hok ta _ hta
        obtain ⟨og, nm, qn, hog, hgc, hgd, hgsl⟩ := id hg1
        show wpAny _ _ (letOwnedTupleGo _ (.ref a) (.ref ta)) _ _ _
        refine go_of (s := s₁.setGen g gs') (n := "generator") hog hgc hgd (by decide) ?_
        cases tr with
        | cons r0 tr =>
        cases tr with
        | cons r1 tr =>
        cases tr with
        | cons r2 tr =>
        cases tr
        rename_i u0 u1 u2
        refine assign_Tuple_tuple (s := s₁.setGen g gs') hh tob rfl rfl fun h5 x5 => ?_
        have kp5 : ∀ b o, s₁.heap.get? b = some o → h5.get? b = some o := fun b o q => x5 b o (Nat.ne_of_lt (Heap.lt_size q)) q
        have hN5 : h5.Ns ce.locals m0 := by
          rw [ceL]
          obtain ⟨o, es, ep, ho, r⟩ := hN0
          exact ⟨o, es, ep, kp5 C o ho, r⟩
        show wpAny _ _ (assignInOrder [assign (.Name x0 q0) ce, assign (.Name x1 q1) ce, assign (.Name x2 q2) ce] [u0, u1, u2]) _ _ _
        refine assignInOrder_cons (wpAny_assign_Name (wpAny_storeName_local k0 hN5 (fun h6 hN6 b6 => ?_) ceP))
        refine assignInOrder_cons (wpAny_assign_Name (wpAny_storeName_local k1 hN6 (fun h7 hN7 b7 => ?_) ceP))
        refine assignInOrder_cons (wpAny_assign_Name (wpAny_storeName_local k2 hN7 (fun h8 hN8 b8 => ?_) ceP))
        refine assignInOrder_nil ?_
        have kp8 : ∀ b o, b ≠ C → s₁.heap.get? b = some o → h8.get? b = some o := fun b o hb q =>
          (b8.2 b (by rw [ceL]; exact hb)).trans ((b7.2 b (by rw [ceL]; exact hb)).trans ((b6.2 b (by rw [ceL]; exact hb)).trans (kp5 b o q)))
        have D8 := kp8 D _ (Ne.symm CD) pD1
        refine wpAny_tests_one (wpAny_isTrue_Compare1 (wpAny_Name (wpAny_loadName_local ceK k1 hN8 (v := u1) (by simp [n12]) ?_) g1) rfl)
        refine wpAny_Name (wpAny_loadName_local ceK k2 hN8 (v := u2) (by simp) ?_) g2
        refine ne_vals s1v s2v r1 r2 (wpAny_truthy_bool ?_)
        by_cases he : v1 = v2
        · rw [show (!decide (v1 = v2)) = false from by simp [he]]
          rw [if_pos he] at hacc
          rw [if_neg Bool.false_ne_true]
          exact again h8 _ (fun b o hb _ q => kp8 b o hb q) ⟨_, by rw [← ceL]; exact hN8⟩ ⟨acc, cc, D8, by rw [hacc]; exact hV, by rw [hacc]; omega⟩
        · rw [show (!decide (v1 = v2)) = true from by simp [he]]
          rw [if_neg he] at hacc
          rw [if_pos rfl]
          refine wpAny_Name (wpAny_loadName_local ceK k0 hN8 (v := u0) (by simp [n01, n02]) ?_) g0
          have asz : acc.size ≤ sizeLine := by
            have e1 := hV.length
            have e2 : acc.toList.length = acc.size := by simp
            omega
          refine append_at (hsz := asz) D8 fun h9 b9 D9 => ?_
          refine again h9 _ (fun b o hb hb2 q => (b9.2 b hb2).trans (kp8 b o hb q)) ⟨_, Heap.Ns.sameBut (by rw [← ceL]; exact hN8) b9 CD⟩ ⟨acc.push u0, cc + 1, D9, ?_, ?_⟩
          · rw [hacc, Array.toList_push]
            exact hV.append (.cons r0 .nil)
          · rw [hacc, List.length_append]
            show _ + 1 ≤ _
            omega
    · intro _
      obtain ⟨H', ys, pl, hn, os1', ba1', un, hok, ⟨oC, oD, epl, nC, nD⟩, hpl, hQ⟩ := hp
      subst epl
      obtain ⟨pC0, pC1, pC2⟩ := hpl (C, oC) List.mem_cons_self
      obtain ⟨pD0, pD1, pD2⟩ := hpl (D, oD) (List.mem_cons_of_mem _ (List.mem_singleton.mpr rfl))
      have eD : oD = lstObj acc cc := by
        have q : s.heap.get? D = some oD := pD0
        rw [hD] at q; cases q; rfl
      subst eD
      have hj' : ys.length = j := by omega
      rw [← hQd] at hQ
      have hQ : ∀ d, H' d = none → Dn.nx (σ.set i (some (.ref d))) (upd H' d (.lst (accF ys.length))) := hQ
      rw [hj'] at hQ
      obtain ⟨mC, hmC⟩ := nC.ns (hk' C oC pC1)
      have I' : Inv X pins σ (upd H' D (.lst (accF j))) { s₁.setGen g .finished with heap := h' } :=
        I1.drained (ex := []) (s' := { s₁.setGen g .finished with heap := h' }) scD (by omega) (hk' D _ pD1) hV .nil os1' (allBare_setGen ba1' rfl) (un.trans (Un.kept hk')) (hok.kept hk') pD2
      show wpAny _ _ (assign (.Name y py) X.env (.ref D)) _ _ _
      refine wpAny_assign_Name (store_ok2 (v := V.ref D) I' hN hy (.inl hyl) rfl (fun s2 I2 ⟨b, sb, ha⟩ => ?_) (.inr hyl))
      have nC' : upd H' D (.lst (accF j)) C = none := by rw [upd_ne CD]; exact pC2
      obtain ⟨f0, f1, f2, f3, f4, f5⟩ := I1.fpOk (H' := upd H' D (.lst (accF j))) scC nC'
      have haC : C ≠ b := by
        rcases ha with z | z
        · rw [z]; exact f1
        · exact fun e => f4 y b z e.symm
      refine ⟨mC, by rw [ceL]; exact hmC.sameBut sb haC, fun h3 sb3 => ?_⟩
      rw [ceL] at sb3
      exact ⟨_, _, I2.turned (t' := s2.toks) (fun b o hb e => (sb3.2 b hb).trans e) f0 f1 f3 f4 f5, hQ D pD2⟩
    · obtain ⟨ys, pl, ⟨oC, oD, epl, nC, nD⟩, hpl, hcx, hg1⟩ := he
      have hm : (C, oC) ∈ pl := by rw [epl]; exact List.mem_cons_self
      have kin : X.K.In s₁.heap := by
        obtain ⟨a, B, H', cls, d, _, fl, _, ub, _⟩ := id hcx
        refine I1.ok.mod.kin.keeps fun b o eb => fl.1 b o (ub.keep b o (I1.bs b o eb).1 (I1.bs b o eb).2 fun hm => ?_)
        rcases List.mem_cons.mp (I1.stkSub b hm) with z | z
        · have h1 := Heap.lt_size eb
          have h2 := Nat.le_trans I1.ok.bsz I1.ok.above
          rw [z] at h1
          exact absurd (Nat.lt_of_lt_of_le h1 h2) (Nat.lt_irrefl _)
        · exact I1.ok.nofr eb z
      refine ⟨hg1, notStop_of (E := Ep E pl) (fun cls d H q => hns cls d H q.1) kin hcx, fun _ => ?_⟩
      obtain ⟨mC, hmC⟩ := nC.ns (hpl (C, oC) hm)
      exact block_raise (g := g) hs hf tk ceF ceL I1 scC hcx hm hmC
  exact codeAny_compStart_list (loop _ rfl rfl rfl) (wpAny_pyIter_gen (hg.keeps kp4) (loop _ rfl rfl rfl))
end Qk

/-! part D6 -/
set_option Elab.async false
set_option linter.all false
set_option maxRecDepth 100000
set_option maxHeartbeats 4000000
namespace Qk
open PySem PySem.Spec L2
open PyProof.Rows hiding St
abbrev sBW : Stmt := top 16
theorem for_enumY {K : PySem.W.Frag} {a : Addr} {xs : List V} {g : TG} {tb : TGn} {D : GEnds} {ta : TA} {zs : List V} {σ : St} {H : Hp} (Pv : Nat → List V → St → Hp → Prop)
    (ha : ta σ H fun vs H1 => vs = [.ref a] ∧ H1 = H) (mono : ∀ Q Q' : List V → Hp → Prop, (∀ vs H1, Q vs H1 → Q' vs H1) → ta σ H Q → ta σ H Q')
    (h0 : Pv 0 zs σ H) (hl : (∀ i zs σ' H', i ≤ xs.length → Pv i zs σ' H' → SqL K H' a xs) ∨ (∀ i zs σ' H', i ≤ xs.length → Pv i zs σ' H' → SqT K H' a xs))
    (hs : ∀ i x zs σ' H' T, xs[i]? = some x → Pv i zs σ' H' → H' T = none → g (.ref T) σ' (upd H' T (.tup [.int (i : Nat), x])) fun σ2 H2 => tb { D with nx := Pv (i + 1), ct := Pv (i + 1), bk := D.nx } zs σ2 H2) (hd : ∀ zs σ' H', Pv xs.length zs σ' H' → D.nx zs σ' H') :
    tYFor (iEnumS K ta) g tb D zs σ H := by
  refine mono _ _ (fun vs H1 z => ?_) ha
  obtain ⟨e1, e2⟩ := z
  subst e1; subst e2
  have go : ∀ (J : It), (∀ i zs σ' H', Pv i zs σ' H' → i < xs.length → J.go i H') → (∀ zs σ' H', Pv xs.length zs σ' H' → J.stop xs.length H') →
      (∀ i zs σ' H' y H'', i < xs.length → Pv i zs σ' H' → J.yld i H' y H'' → ∃ T x, y = .ref T ∧ H' T = none ∧ xs[i]? = some x ∧ H'' = upd H' T (.tup [.int (i : Nat), x])) →
      ∃ W : Nat → Nat → List V → St → Hp → Prop, (∃ m, W 0 m zs σ H1) ∧ ∀ i m zs σ H, W i m zs σ H →
        (J.stop i H ∧ D.nx zs σ H) ∨ (J.go i H ∧ ∃ N : List V → St → Hp → Prop, (∀ zs' σ' H', N zs' σ' H' → ∃ m', m' < m ∧ W (i + 1) m' zs' σ' H') ∧ ∀ x H', J.yld i H x H' → g x σ H' fun σ2 H2 => tb { D with nx := N, ct := N, bk := D.nx } zs σ2 H2) := by
    intro J hgo hstop hyld
    refine ⟨fun i m zs σ H => m = xs.length - i ∧ i ≤ xs.length ∧ Pv i zs σ H, ⟨xs.length, by simp, Nat.zero_le _, h0⟩, ?_⟩
    rintro i m zs' σ' H' ⟨rfl, hi, p⟩
    by_cases hlt : i < xs.length
    · refine .inr ⟨hgo i zs' σ' H' p hlt, Pv (i + 1), fun zs2 σ2 H2 p' => ⟨xs.length - (i + 1), by omega, rfl, hlt, p'⟩, fun y H2 yl => ?_⟩
      obtain ⟨T, x, e1, e2, e3, e4⟩ := hyld i zs' σ' H' y H2 hlt p yl
      subst e1; subst e4
      exact hs i x zs' σ' H' T e3 p e2
    · have e : i = xs.length := by omega
      subst e
      exact .inl ⟨hstop zs' σ' H' p, hd zs' σ' H' p⟩
  refine ⟨a, xs, rfl, ?_⟩
  rcases hl with hl | hl
  · refine .inl ⟨hl 0 zs σ H1 (Nat.zero_le _) h0, go (Ite K a) (fun i zs σ' H' p hlt => ⟨xs, xs[i], hl i zs σ' H' (Nat.le_of_lt hlt) p, by simp [hlt]⟩) (fun zs σ' H' p => ⟨xs, hl _ zs σ' H' (Nat.le_refl _) p, Nat.le_refl _⟩) ?_⟩
    rintro i zs σ' H' y H2 hlt p ⟨T, x, e1, e2, e3, e4⟩
    exact ⟨T, x, e1, e2, e4 xs (hl i zs σ' H' (Nat.le_of_lt hlt) p), e3⟩
  · refine .inr ⟨hl 0 zs σ H1 (Nat.zero_le _) h0, go (Itet K a) (fun i zs σ' H' p hlt => ⟨xs, xs[i], hl i zs σ' H' (Nat.le_of_lt hlt) p, by simp [hlt]⟩) (fun zs σ' H' p => ⟨xs, hl _ zs σ' H' (Nat.le_refl _) p, rfl⟩) ?_⟩
    rintro i zs σ' H' y H2 hlt p ⟨T, x, e1, e2, e3, e4⟩
    exact ⟨T, x, e1, e2, e4 xs (hl i zs σ' H' (Nat.le_of_lt hlt) p), e3⟩
/-- the truth of a value -/
def tTruY (K : PySem.W.Frag) (ta : TE) : TT := fun σ H Q => ta σ H fun x H' => ∃ k, TruV K x H' k ∧ Q k H'
/-- the answers as they stand -/
def AnsAt (H : Hp) (ys : List V) (xs : List (Nat × V × V)) : Prop := Paired (fun y x => ∃ T, y = .ref T ∧ H T = some (.tup [ixV x.1, x.2.1, x.2.2])) ys xs
theorem AnsAt.keep {H H' : Hp} {ys : List V} {xs : List (Nat × V × V)} (h : AnsAt H ys xs) (k : Same H H') : AnsAt H' ys xs := Paired.mapP h fun y x ⟨T, e, q⟩ => ⟨T, e, k _ _ q⟩
theorem AnsAt.keepB {F : List Addr} {H H' : Hp} {ys : List V} {xs : List (Nat × V × V)} (h : AnsAt H ys xs) (k : KB F H H') (hF : ∀ b ∈ F, ∃ kvs, H b = some (.dK kvs)) : AnsAt H' ys xs := Paired.mapP h fun y x ⟨T, e, q⟩ => ⟨T, e, k _ _ q fun hm => by
  obtain ⟨_, z⟩ := hF T hm
  rw [q] at z; cases z⟩
theorem led_okC {S : Sto} {C : Cto} (ok : S.Ok) (sm : S.Sm) (l : Led S C) : C.st.Ok ∧ C.st.Sm ∧ keys C.cp = keys C.st.tg := by
  refine ⟨l.ok ok, ⟨?_, by rw [l.tg]; exact sm.t, by rw [l.rt]; exact sm.r, by rw [l.od]; exact sm.o⟩, by rw [l.tg]; exact l.cp⟩
  have h := congrArg List.length l.ps
  unfold keys at h
  rw [List.length_map, List.length_map] at h
  rw [h]; exact sm.p
/-- both ways' answers -/
abbrev answers (ps : List (Str × V)) (ds : List Dd) (n : Nat) : List (Nat × V × V) := ansAt (Sto.init ps) (Cto.init ps) ds n
def spBW (K : PySem.W.Frag) (CB : Addr) : SpT := fun vs H yl Q E => ∃ (a b : Addr) (ps : List (Str × V)) (ds : List Dd), vs = [.ref a, .ref b] ∧ PlcAt K H a ps ∧ DsAt K H b ds ∧ (keys ps).Nodup ∧ ps.length ≤ 4 ∧ ds.length ≤ 100 ∧
  (∀ i c, ds[i]? = some (.rd c) → Fit (Sto.init ps) ds (i + 1) → ∀ ys T H', Same H H' → AnsAt H' ys (answers ps ds i) → H' T = some (.tup [ixV i, (stAt (Sto.init ps) ds i).val c, (ctAt (Cto.init ps) ds i).val c]) → yl ys (.ref T) H') ∧
  (Fit (Sto.init ps) ds ds.length → ∀ ys H', Same H H' → AnsAt H' ys (answers ps ds ds.length) → Q ys H') ∧
  (∀ i d, ds[i]? = some d → Fit (Sto.init ps) ds i → (stAt (Sto.init ps) ds i).fits d = false → ∀ dd H', Same H H' → H' dd = some (.xd [("at", .int i)]) → E (.ref CB) (some dd) H')
section
variable {P : Program} {w : World} {K : PySem.W.Frag} {mg : Str → Option Value} {base : Heap}
theorem gscBW : GScope ["places", "deeds", "plain", "quick", "at", "deed", "values"] ["places", "deeds"] (defScope sBW) := ⟨rfl, rfl, rfl, by decide +kernel, rfl, by decide +kernel, by decide +kernel⟩
theorem ok_BW {f CA CC CL CB fA fC fP fQ : Addr} {fd dA dC dP dQ : FuncData} (F : Fun K "both_ways" "both_ways" sBW f fd) (NA : NewM P w K mg base (AddrI CA CL) Sto.init fA dA "AddressLoans") (NC : NewM P w K mg base (CopyI CC CL) Cto.init fC dC "CopyLoans")
    (MA : CallM P w K mg base (L2.CX P w) 4 fP dP "do_deed" ["loans", "at", "deed"] (spDo K (AddrI CA CL) CB)) (MC : CallM P w K mg base (L2.CX P w) 4 fP dP "do_deed" ["loans", "at", "deed"] (spDo K (CopyI CC CL) CB)) (gE : mg "enumerate" = none) :
    GFnT P w K mg base 5 f fd ["places", "deeds"] (spBW K CB) := by
  obtain ⟨oc, od, kV, doc, pm, an, cdv, ct, osl, rfl, lk, hcd⟩ := F.ex
  refine gfnT_of lk hcd gscBW (fun n x => by rfl) (fun vs H yl Q E h => ?_) (fun A outer s H vs yl Q E pn hr h => ?_)
  · obtain ⟨a, b, ps, ds, rfl, _⟩ := h
    rfl
  · obtain ⟨a, b, ps, ds, rfl, hP, hD, hnd, hpl, hdl, k1a, k1, k2⟩ := h
    refine ⟨_, yss_cons (ys_ps fun pl => ps_set (i := 2) gscBW.nd rfl (.inl rfl) (by exact (pe_make NA.M NA.G hr rfl NA.g NA.b .nil pass0 (pa_cons (pv 0) pa_nil))))
      (yss_cons (ys_ps fun pl => ps_set (i := 3) gscBW.nd rfl (.inl rfl) (by exact (pe_make NC.M NC.G hr rfl NC.g NC.b .nil pass0 (pa_cons (pv 0) pa_nil))))
      (yss_cons (ys_for (wi := iEnumS K (tCons (tVar 1) tNil)) (tgg := gTup K 2 (gCons (gName 4) (gCons (gName 5) gNil))) (fun pl => passes_of rfl) rfl (fun pl => by exact (pi_enumS (by rfl) gE (pa_cons (pv 1) pa_nil))) (fun pl => by exact pg_tup rfl (pgs_cons (pg_name (i := 4) gscBW.nd rfl (.inl rfl)) (pgs_cons (pg_name (i := 5) gscBW.nd rfl (.inl rfl)) pgs_nil)))
        (yss_cons (ys_ps fun pl => ps_set (i := 6) gscBW.nd rfl (.inl rfl) (by exact (pe_op op_cat
            (by exact (pe_callS (E := WE fun cls d _ H => E cls d H) MA.G hr rfl MA.g MA.kp MA.b (fun σ => L2.passAt (takes_gcxT (pn := pn ++ pl)) σ) (by exact (pa_cons (pv 2) (pa_cons (pv 4) (pa_cons (pv 5) pa_nil))))))
            (by exact (pe_callS (E := WE fun cls d _ H => E cls d H) MC.G hr rfl MC.g MC.kp MC.b (fun σ => L2.passAt (takes_gcxT (pn := pn ++ pl)) σ) (by exact (pa_cons (pv 3) (pa_cons (pv 4) (pa_cons (pv 5) pa_nil)))))))))
        (yss_cons (ys_if (tc := tTruY K (tVar 6)) (fun pl => pt_truth (pv 6) (by intro _; rfl)) (yss_cons (ys_yield (te := tTup (tCons (tVar 4) (tCons (tOp (rIxL K) (tVar 6) (tC (.int 0))) (tCons (tOp (rIxL K) (tVar 6) (tC (.int 1))) tNil)))) fun pl => by exact (pe_tup (by exact (pa_cons (pv 4) (pa_cons (pe_ix ix_list (pv 6) pe_int (fun _ _ => rfl)) (pa_cons (pe_ix ix_list (pv 6) pe_int (fun _ _ => rfl)) pa_nil)))))) yss_nil) yss_nil) yss_nil)))
      yss_nil)), ?_⟩
    obtain ⟨ts, hL, hPd⟩ := hD
    have hl : ts.length = ds.length := Paired.length hPd
    -- plain
    refine ⟨_, rfl, fun x dxx nx ndx nex => ?_⟩
    have s0 : Same H (upd (upd H dxx (.own x)) x (.ins (AddrI CA CL).C dxx [])) := fun b o e => by
      rw [upd_ne (ne_of_none e nx), upd_ne (ne_of_none e ndx)]
      exact e
    refine ⟨x, dxx, a, ps, rfl, upd_same, hP.keep s0, hnd, by omega, fun z H1 ez A1 kb1 fr1 => ⟨rfl, ?_⟩⟩
    subst ez
    have s1 : Same H H1 := fun b o e => kb1 b o (s0 b o e) (by simpa using ne_of_none e nx)
    have frz : ∀ b ∈ z.ads, H b = none := fun b hb => by
      rcases fr1 b hb with e | e
      · rw [e]; exact nx
      · exact none_of_same s0 e
    -- quick
    refine ⟨_, rfl, fun x2 dx2 nx2 ndx2 nex2 => ?_⟩
    have s02 : Same H1 (upd (upd H1 dx2 (.own x2)) x2 (.ins (CopyI CC CL).C dx2 [])) := fun b o e => by
      rw [upd_ne (ne_of_none e nx2), upd_ne (ne_of_none e ndx2)]
      exact e
    refine ⟨x2, dx2, a, ps, rfl, upd_same, (hP.keep s1).keep s02, hnd, by omega, fun z2 H2 ez2 B1 kb2 fr2 => ⟨rfl, ?_⟩⟩
    subst ez2
    have s2 : Same H1 H2 := fun b o e => kb2 b o (s02 b o e) (by simpa using ne_of_none e nx2)
    have frz2 : ∀ b ∈ z2.ads, H1 b = none := fun b hb => by
      rcases fr2 b hb with e | e
      · rw [e]; exact nx2
      · exact none_of_same s02 e
    have d12 : ∀ b ∈ z.ads, b ∉ z2.fp := fun b hb hm => by
      obtain ⟨o, ho⟩ := (AddrI CA CL).live A1 b hb
      rw [frz2 b ((CopyI CC CL).sub B1 b hm)] at ho; cases ho
    have d21 : ∀ b ∈ z2.ads, b ∉ z.fp := fun b hb hm => by
      obtain ⟨o, ho⟩ := (AddrI CA CL).live A1 b ((AddrI CA CL).sub A1 b hm)
      rw [frz2 b hb] at ho; cases ho
    have A2 := LI.same A1 s2
    have toSame : ∀ {H' : Hp}, KB (z.fp ++ z2.fp) H H' → Same H H' := fun {H'} kb => kb.clean fun b hb => by
      rcases List.mem_append.mp hb with hb | hb
      · exact frz b ((AddrI CA CL).sub A1 b hb)
      · exact none_of_same s1 (frz2 b ((CopyI CC CL).sub B1 b hb))
    refine for_enumY (K := K) (a := b) (xs := ts.map V.ref) (fun i zs σ H3 => ∃ o1 o2 o3 : Option V, σ = [some (.ref a), some (.ref b), some (.ref z.p), some (.ref z2.p), o1, o2, o3] ∧ KB (z.fp ++ z2.fp) H H3 ∧
        (AddrI CA CL).At z H3 (stAt (Sto.init ps) ds i) ∧ (CopyI CC CL).At z2 H3 (ctAt (Cto.init ps) ds i) ∧ Fit (Sto.init ps) ds i ∧ AnsAt H3 zs (answers ps ds i))
      (ta_one rfl) ta_mono ⟨none, none, none, rfl, KB.ofSame fun b o e => s2 _ _ (s1 _ _ e), A2, B1, Fit.zero, .nil⟩ ?_ ?_ ?_
    · rcases hL with q | q
      · refine .inl ?_
        rintro i zs σ' H' hi ⟨o1, o2, o3, rfl, kb, _⟩
        exact (toSame kb).seq q
      · refine .inr ?_
        rintro i zs σ' H' hi ⟨o1, o2, o3, rfl, kb, _⟩
        exact sameT (toSame kb) q
    · rintro i y zs σ' H' T hx ⟨o1, o2, o3, rfl, kb, A3, B3, hfit, hans⟩ hT
      rw [List.getElem?_map] at hx
      cases et : ts[i]? with
      | none => rw [et] at hx; cases hx
      | some t =>
        rw [et] at hx
        cases hx
        obtain ⟨d, hd, hTd⟩ := paired_get hPd et
        have hi : i < ds.length := (List.getElem?_eq_some_iff.mp hd).1
        obtain ⟨ok, sm⟩ := run_ok hnd hpl (by omega) (Nat.le_of_lt hi) hfit
        have led := led_run hnd (Nat.le_of_lt hi) hfit
        have sT : Same H' (upd H' T (.tup [.int (i : Nat), .ref t])) := KB.same (KB.refl.new hT)
        have kbT : KB (z.fp ++ z2.fp) H (upd H' T (.tup [.int (i : Nat), .ref t])) := kb.trans (KB.ofSame sT)
        have ansT := hans.keep sT
        refine ⟨T, _, rfl, SqT.of upd_same, rfl, _, _, rfl, _, _, rfl, rfl, ?_⟩
        have A4 := LI.same A3 sT
        have B4 := LI.same B3 sT
        have hTd4 : SqT K (upd H' T (.tup [.int (i : Nat), .ref t])) t d.vs := sameT (toSame kbT) hTd
        generalize upd H' T (.tup [.int (i : Nat), .ref t]) = H4 at kbT ansT A4 B4 hTd4
        have dk1 := (AddrI CA CL).dk A4
        have dk2 := (CopyI CC CL).dk B4
        refine ⟨_, rfl, _, rfl, _, rfl, z, stAt (Sto.init ps) ds i, (i : Nat), t, d, rfl, A4, ⟨ok, sm⟩, hTd4, fun hf p H5 kb5 A5 hp hp5 => ?_, fun hf dd H5 kb5 hdd => k2 i d hd hfit hf dd H5 (toSame (kbT.trans (kb5.mono fun b hb => List.mem_append_left _ hb))) hdd⟩
        have B5 := (CopyI CC CL).keep B4 kb5 d21
        have hTd5 : SqT K H5 t d.vs := (kb5.sq dk1).2 hTd4
        have kbH5 : KB (z.fp ++ z2.fp) H H5 := kbT.trans (kb5.mono fun b hb => List.mem_append_left _ hb)
        have ans5 := ansT.keepB kb5 dk1
        have hf2 : (ctAt (Cto.init ps) ds i).st.fits d = true := by rw [led.fits]; exact hf
        refine ⟨_, rfl, _, rfl, _, rfl, z2, ctAt (Cto.init ps) ds i, (i : Nat), t, d, rfl, B5, led_okC ok sm led, hTd5, fun _ p2 H6 kb6 B6 hp2 hp6 => ?_, fun hf3 => ?_⟩
        · have pz2 : p ∉ z2.fp := fun hm => by
            obtain ⟨o, ho⟩ := dk2 p hm
            rw [hp] at ho; cases ho
          have hp6' : H6 p = some (.lst ((AddrI CA CL).gives (stAt (Sto.init ps) ds i) d)) := kb6 _ _ hp5 pz2
          have A6 := (AddrI CA CL).keep A5 kb6 d12
          have kbH6 : KB (z.fp ++ z2.fp) H H6 := kbH5.trans (kb6.mono fun b hb => List.mem_append_right _ hb)
          have ans6 := ans5.keepB kb6 ((CopyI CC CL).dk B5)
          have hfit' := hfit.next hd hf
          have g1 : ((AddrI CA CL).gives (stAt (Sto.init ps) ds i) d).length ≤ 1 := len_rds
          have g2 : ((CopyI CC CL).gives (ctAt (Cto.init ps) ds i) d).length ≤ 1 := len_rds
          refine ⟨p, p2, _, _, rfl, rfl, hp6', hp6, line_le (m := 1000) (by omega), fun r hr => ?_⟩
          have s7 : Same H6 (upd H6 r (.lst ((AddrI CA CL).gives (stAt (Sto.init ps) ds i) d ++ (CopyI CC CL).gives (ctAt (Cto.init ps) ds i) d))) := KB.same (KB.refl.new hr)
          have hr7 : upd H6 r (.lst ((AddrI CA CL).gives (stAt (Sto.init ps) ds i) d ++ (CopyI CC CL).gives (ctAt (Cto.init ps) ds i) d)) r = some (.lst ((AddrI CA CL).gives (stAt (Sto.init ps) ds i) d ++ (CopyI CC CL).gives (ctAt (Cto.init ps) ds i) d)) := upd_same
          generalize upd H6 r (.lst ((AddrI CA CL).gives (stAt (Sto.init ps) ds i) d ++ (CopyI CC CL).gives (ctAt (Cto.init ps) ds i) d)) = H7 at s7 hr7
          have A7 := LI.same A6 s7
          have B7 := LI.same B6 s7
          have kbH7 : KB (z.fp ++ z2.fp) H H7 := kbH6.trans (KB.ofSame s7)
          have ans7 := ans6.keep s7
          have A7' : (AddrI CA CL).At z H7 (stAt (Sto.init ps) ds (i + 1)) := by rw [stAt_next hd]; exact A7
          have B7' : (CopyI CC CL).At z2 H7 (ctAt (Cto.init ps) ds (i + 1)) := by rw [ctAt_next hd]; exact B7
          refine ⟨_, rfl, !((AddrI CA CL).gives (stAt (Sto.init ps) ds i) d ++ (CopyI CC CL).gives (ctAt (Cto.init ps) ds i) d).isEmpty, .inl ⟨_, SqL.of hr7, rfl⟩, ?_⟩
          cases hrd : d.isRd with
          | false =>
            have e1 : (AddrI CA CL).gives (stAt (Sto.init ps) ds i) d = [] := rds_no hrd
            have e2 : (CopyI CC CL).gives (ctAt (Cto.init ps) ds i) d = [] := rds_no hrd
            refine if_false_of (by rw [e1, e2]; rfl) ?_
            refine ⟨_, _, _, rfl, kbH7, A7', B7', hfit', ?_⟩
            rw [show answers ps ds (i + 1) = _ from ans_next hd, rds_no hrd, List.append_nil]
            exact ans7
          | true =>
            obtain ⟨c, rfl⟩ : ∃ c, d = .rd c := by
              cases d with
              | rd c => exact ⟨c, rfl⟩
              | _ => cases hrd
            have hr8 : H7 r = some (.lst [(stAt (Sto.init ps) ds i).val c, (ctAt (Cto.init ps) ds i).val c]) := hr7
            refine if_true_of rfl ?_
            have hzl : zs.length ≤ i := by
              rw [Paired.length hans]
              exact ans_len
            refine ⟨fits_line (m := 900) (by omega), _, rfl, ?_⟩
            refine ⟨_, rfl, r, _, _, _, rfl, rfl, SqL.of hr8, atI_nat (j := 0) rfl, _, rfl, r, _, _, _, rfl, rfl, SqL.of hr8, atI_nat (j := 1) rfl, line_le (n := 3) (m := 1000) (by decide), fun T2 hT2 => ?_⟩
            have s9 : Same H7 (upd H7 T2 (.tup [ixV i, (stAt (Sto.init ps) ds i).val c, (ctAt (Cto.init ps) ds i).val c])) := KB.same (KB.refl.new hT2)
            refine ⟨k1a i c hd hfit' zs T2 _ (toSame (kbH7.trans (KB.ofSame s9))) (ans7.keep s9) upd_same, ?_⟩
            refine ⟨_, _, _, rfl, kbH7.trans (KB.ofSame s9), LI.same A7' s9, LI.same B7' s9, hfit', ?_⟩
            rw [show answers ps ds (i + 1) = _ from ans_next hd]
            exact paired_app (ans7.keep s9) (.cons ⟨T2, rfl, upd_same⟩ .nil)
        · rw [show (CopyI CC CL).led (ctAt (Cto.init ps) ds i) = (ctAt (Cto.init ps) ds i).st from rfl, hf2] at hf3
          cases hf3
    · rintro zs σ' H' ⟨o1, o2, o3, rfl, kb, A3, B3, hfit, hans⟩
      rw [List.length_map, hl] at hfit hans
      exact k1 hfit zs H' (toSame kb) hans
end
end Qk

/-! part M4 -/
set_option Elab.async false
set_option linter.all false
set_option maxRecDepth 100000
namespace Qk
open PySem PySem.Spec L2
open PyProof.Rows hiding St
/-! ### a property of every value -/
def Dd.has (p : V → Prop) : Dd → Prop
  | .wr _ v => p v
  | _ => True
structure AllV (p : V → Prop) (C : Cto) : Prop where
  a : ∀ x ∈ C.st.ps, p x.2
  b : ∀ x ∈ C.cp, p x.2
theorem all_put {p : V → Prop} {l : List (Str × V)} {c : Str} {v : V} (h : ∀ x ∈ l, p x.2) (hv : p v) : ∀ x ∈ aput l c v, p x.2 := by
  intro x hx
  unfold aput at hx
  split at hx
  · obtain ⟨y, hy, e⟩ := List.mem_map.mp hx
    rw [← e]
    show p (if y.1 = c then v else y.2)
    split
    · exact hv
    · exact h y hy
  · rcases List.mem_append.mp hx with hx | hx
    · exact h x hx
    · rw [List.mem_singleton.mp hx]; exact hv
theorem all_get {p : V → Prop} {l : List (Str × V)} (h : ∀ x ∈ l, p x.2) {c : Str} (hc : c ∈ keys l) : p ((aget l c).getD .non) := by
  obtain ⟨y, e⟩ := aget_of_mem hc
  rw [e]
  exact h _ (aget_pair e)
theorem AllV.val {p : V → Prop} {C : Cto} (h : AllV p C) {c : Str} (hc : c ∈ keys C.st.ps ∨ c ∈ keys C.cp) : p (C.val c) := by
  unfold Cto.val
  by_cases q : c ∈ keys C.cp
  · rw [if_pos q]; exact all_get h.b q
  · rw [if_neg q]; exact all_get h.a (hc.resolve_right q)
theorem AllV.set {p : V → Prop} {C : Cto} (h : AllV p C) {c : Str} {v : V} (hv : p v) : AllV p (C.set c v) := by
  unfold Cto.set
  split
  · exact ⟨h.a, all_put h.b hv⟩
  · exact ⟨all_put h.a hv, h.b⟩
theorem AllV.step {p : V → Prop} {S : Sto} {C : Cto} (ok : S.Ok) (l : Led S C) (h : AllV p C) {d : Dd} (hf : S.fits d = true) (hd : d.has p) : AllV p (C.step d) := by
  cases d with
  | bg k t => exact ⟨h.a, all_put h.b (h.val (l.cell ok (Sto.fits_bg hf).2.2))⟩
  | rd c => exact h
  | wr c v => exact h.set hd
  | ov k =>
    have hk : k ∈ keys C.cp := by
      rw [l.cp]
      unfold Sto.fits at hf
      exact of_decide_eq_true hf
    have hv := all_get h.b hk
    have h2 : AllV p { st := C.st.strike k, cp := adrop C.cp k } := ⟨h.a, fun x hx => h.b x (mem_drop.mp hx).1⟩
    show AllV p (if (aget C.st.tg k).getD k ∈ keys C.st.ps ∨ (aget C.st.tg k).getD k ∈ keys (adrop C.cp k) then Cto.set { st := C.st.strike k, cp := adrop C.cp k } ((aget C.st.tg k).getD k) ((aget C.cp k).getD .non) else { st := C.st.strike k, cp := adrop C.cp k })
    split
    · exact h2.set hv
    · exact h2
theorem all_run {p : V → Prop} {ps : List (Str × V)} {ds : List Dd} (hp : (keys ps).Nodup) (h0 : ∀ x ∈ ps, p x.2) (hq : ∀ d ∈ ds, d.has p) : ∀ {i : Nat}, i ≤ ds.length → Fit (Sto.init ps) ds i → AllV p (ctAt (Cto.init ps) ds i)
  | 0, _, _ => ⟨h0, fun _ z => nomatch z⟩
  | i + 1, hi, hf => by
    obtain ⟨d, e⟩ : ∃ d, ds[i]? = some d := ⟨ds[i], List.getElem?_eq_getElem hi⟩
    rw [ctAt_next e]
    have hf' := hf.mono (Nat.le_succ i)
    have hi' := Nat.le_of_succ_le hi
    exact (all_run hp h0 hq hi' hf').step (stAt_ok (init_ok hp) hi' hf') (led_run hp hi' hf') (hf i d (Nat.lt_succ_self _) e) (hq d (List.mem_of_getElem? e))
/-- the store's own values -/
theorem allS_run {p : V → Prop} {ps : List (Str × V)} {ds : List Dd} (hp : (keys ps).Nodup) (h0 : ∀ x ∈ ps, p x.2) (hq : ∀ d ∈ ds, d.has p) : ∀ {i : Nat}, i ≤ ds.length → Fit (Sto.init ps) ds i → ∀ x ∈ (stAt (Sto.init ps) ds i).ps, p x.2
  | 0, _, _ => h0
  | i + 1, hi, hf => by
    obtain ⟨d, e⟩ : ∃ d, ds[i]? = some d := ⟨ds[i], List.getElem?_eq_getElem hi⟩
    rw [stAt_next e]
    have ih := allS_run hp h0 hq (Nat.le_of_succ_le hi) (hf.mono (Nat.le_succ i))
    cases d with
    | bg k t => exact ih
    | rd c => exact ih
    | wr c v => exact all_put ih (hq _ (List.mem_of_getElem? e))
    | ov k => exact ih
/-- what is read is such a value -/
theorem read_has {p : V → Prop} {ps : List (Str × V)} {ds : List Dd} (hp : (keys ps).Nodup) (h0 : ∀ x ∈ ps, p x.2) (hq : ∀ d ∈ ds, d.has p) {i : Nat} {c : Str} (hd : ds[i]? = some (.rd c)) (hf : Fit (Sto.init ps) ds (i + 1)) :
    p ((stAt (Sto.init ps) ds i).val c) ∧ p ((ctAt (Cto.init ps) ds i).val c) := by
  have hi : i < ds.length := (List.getElem?_eq_some_iff.mp hd).1
  have hf' := hf.mono (Nat.le_succ i)
  have ok := stAt_ok (init_ok hp) (Nat.le_of_lt hi) hf'
  have spot : (stAt (Sto.init ps) ds i).spot c := hf i _ (Nat.lt_succ_self i) hd
  refine ⟨?_, (all_run hp h0 hq (Nat.le_of_lt hi) hf').val ((led_run hp (Nat.le_of_lt hi) hf').cell ok spot)⟩
  exact all_get (allS_run hp h0 hq (Nat.le_of_lt hi) hf') (Sto.rootD_in ok spot)
theorem ans_more {S : Sto} {C : Cto} {ds : List Dd} : ∀ {n m : Nat}, n ≤ m → ∃ r, ansAt S C ds m = ansAt S C ds n ++ r
  | n, m, h => by
    obtain ⟨k, rfl⟩ := Nat.exists_eq_add_of_le h
    induction k with
    | zero => exact ⟨[], by simp⟩
    | succ k ih =>
      obtain ⟨r, e⟩ := ih (Nat.le_add_right _ _)
      refine ⟨r ++ match ds[n + k]? with
        | some d => d.rds fun c => (n + k, (stAt S ds (n + k)).val c, (ctAt C ds (n + k)).val c)
        | none => [], ?_⟩
      rw [← List.append_assoc, ← e]
      rfl
end Qk

/-! part D7 -/
set_option Elab.async false
set_option linter.all false
set_option maxRecDepth 100000
set_option maxHeartbeats 4000000
namespace Qk
open PySem PySem.Spec L2
open PyProof.Rows hiding St
abbrev sPR : Stmt := top 17
def spPR (K : PySem.W.Frag) (CB : Addr) : Sp := fun vs H Q E => ∃ (a b : Addr) (ps : List (Str × V)) (ds : List Dd), vs = [.ref a, .ref b] ∧ PlcAt K H a ps ∧ DsAt K H b ds ∧ (keys ps).Nodup ∧ ps.length ≤ 4 ∧ ds.length ≤ 100 ∧
  (∀ p ∈ ps, scal4 p.2 = true) ∧ (∀ d ∈ ds, d.has fun v => scal4 v = true) ∧
  (Fit (Sto.init ps) ds ds.length → ∀ H', Same H H' → Q (optV (parted (answers ps ds ds.length)).head?) H') ∧
  (∀ i d, ds[i]? = some d → Fit (Sto.init ps) ds i → (stAt (Sto.init ps) ds i).fits d = false → ∀ dd H', Same H H' → H' dd = some (.xd [("at", .int i)]) → E (.ref CB) (some dd) H')
structure GenM (P : Program) (w : World) (K : PySem.W.Frag) (mg : Str → Option Value) (base : Heap) (k : Nat) (f : Addr) (fd : FuncData) (x : Str) (ps : List Str) (sp : SpT) : Prop where
  G : GFnT P w K mg base k f fd ps sp
  b : Binds K fd ps []
  g : mg x = some (.ref f)
  kp : PySem.W.keepIn K (.ref f) = true
section
variable {P : Program} {w : World} {K : PySem.W.Frag} {mg : Str → Option Value} {base : Heap}
theorem scPR : FnScope ["places", "deeds", "parted"] ["places", "deeds"] (defScope sPR) := ⟨rfl, rfl, rfl, by decide +kernel, rfl, by decide +kernel, by decide +kernel⟩
theorem ok_PR {f CB fW : Addr} {fd dW : FuncData} (F : Fun K "parted_read" "parted_read" sPR f fd) (MW : GenM P w K mg base 5 fW dW "both_ways" ["places", "deeds"] (spBW K CB)) (hns : PySem.W.subIn K (.ref CB) (.type "StopIteration") = some false) :
    FnOk P w K mg base (L2.CX P w) 7 f fd ["places", "deeds"] (spPR K CB) := by
  refine F.okX scPR (fun vs H Q E h => ?_) (fun cdv A outer s H vs Q E hr h => ?_)
  · obtain ⟨a, b, ps, ds, rfl, _⟩ := h
    rfl
  · obtain ⟨a, b, ps, ds, rfl, hP, hD, hnd, hpl, hdl, v1, v2, k1, k2⟩ := h
    refine ⟨_, pss_cons (ps_setGen (k := 5) (i := 2) (E := fun cls d H => E cls d H ∧ cls = .ref CB) rfl rfl rfl scPR.nd rfl rfl (sw_true rfl rfl rfl (by decide +kernel))
        (by exact (pgen_callT (E := fun cls d H => E cls d H ∧ cls = .ref CB) MW.G (hr.mono (by decide)) rfl MW.g MW.kp MW.b .nil (by exact (pa_cons (pv 0) (pa_cons (pv 1) pa_nil))))) (Takes.imp (L2.takes_of rfl rfl rfl rfl) fun cls d σ H h => h.1) (fun cls d H h => by rw [h.2]; exact hns) hr
        rfl (by decide +kernel) rfl rfl rfl rfl (by decide) (by decide) (by decide) (by decide) (by decide) (by decide))
      (pss_cons (ps_if (pt_truth (pv 2) (by intro _; rfl)) (pss_one (ps_ret (pe_ix ix_list (pv 2) pe_int (fun _ _ => rfl)))) pss_nil)
      (pss_one (ps_ret pe_non))), ?_⟩
    refine ⟨fun j => (parted ((answers ps ds ds.length).take j)).map ixV, rfl, _, rfl, _, rfl, a, b, ps, ds, rfl, hP, hD, hnd, hpl, hdl, fun i c hd hf ys T H' s1 hans hT => ?_, fun hf ys H' s1 hans => ?_, fun i d hd hf hu dd H' s1 hdd => ⟨k2 i d hd hf hu dd H' s1 hdd, rfl⟩⟩
    · obtain ⟨w1, w2⟩ := read_has (p := fun v => scal4 v = true) hnd v1 v2 hd hf
      refine ⟨T, _, _, _, rfl, hT, w1, w2, ?_⟩
      have hi : i < ds.length := (List.getElem?_eq_some_iff.mp hd).1
      have hl : ys.length = (answers ps ds i).length := Paired.length hans
      obtain ⟨r, er⟩ := ans_more (S := Sto.init ps) (C := Cto.init ps) (ds := ds) (Nat.succ_le_of_lt hi)
      have e1 : answers ps ds (i + 1) = answers ps ds i ++ [(i, (stAt (Sto.init ps) ds i).val c, (ctAt (Cto.init ps) ds i).val c)] := ans_next hd
      have er : answers ps ds ds.length = answers ps ds (i + 1) ++ r := er
      rw [er, e1, hl]
      have t1 : ((answers ps ds i ++ [(i, (stAt (Sto.init ps) ds i).val c, (ctAt (Cto.init ps) ds i).val c)]) ++ r).take (answers ps ds i).length = answers ps ds i := by
        rw [List.append_assoc, List.take_left]
      have t2 : ((answers ps ds i ++ [(i, (stAt (Sto.init ps) ds i).val c, (ctAt (Cto.init ps) ds i).val c)]) ++ r).take ((answers ps ds i).length + 1) = answers ps ds i ++ [(i, (stAt (Sto.init ps) ds i).val c, (ctAt (Cto.init ps) ds i).val c)] := by
        rw [List.take_append_of_le_length (by simp)]
        exact List.take_of_length_le (by simp)
      dsimp only
      rw [t1, t2, parted_app, List.map_append]
      unfold parted
      by_cases he : (stAt (Sto.init ps) ds i).val c = (ctAt (Cto.init ps) ds i).val c
      · simp [he]
      · simp [he]
    · intro d hdn
      have hl : ys.length = (answers ps ds ds.length).length := Paired.length hans
      have et : (parted ((answers ps ds ds.length).take ys.length)).map ixV = (parted (answers ps ds ds.length)).map ixV := by rw [hl, List.take_length]
      have s2 : Same H (upd H' d (.lst ((parted ((answers ps ds ds.length).take ys.length)).map ixV))) := KB.same ((KB.ofSame s1).new hdn)
      have hd2 : upd H' d (.lst ((parted ((answers ps ds ds.length).take ys.length)).map ixV)) d = some (.lst ((parted (answers ps ds ds.length)).map ixV)) := by rw [upd_same, et]
      refine ⟨_, rfl, _, .inl ⟨_, SqL.of hd2, rfl⟩, ?_⟩
      have q := k1 hf _ s2
      cases e : parted (answers ps ds ds.length) with
      | nil =>
        rw [e] at q
        exact if_false_of rfl q
      | cons n r =>
        rw [e] at q hd2
        exact if_true_of rfl ⟨_, rfl, d, _, _, _, rfl, rfl, SqL.of hd2, atI_nat (j := 0) rfl, q⟩
end
end Qk

/-! part W1 -/
set_option Elab.async false
set_option linter.all false
set_option maxRecDepth 100000
set_option maxHeartbeats 4000000
namespace Qk
open PySem PySem.Spec L2
open PyProof.Rows hiding St
/-! ### the law's pool of numbers -/
abbrev sPool : Stmt := top 22
abbrev sMix : Stmt := top 23
abbrev sDraw : Stmt := top 24
/-- the pool: its numbers (at p.2) and its four marks (at p.1) -/
def PoolAt (H : Hp) (p : Addr × Addr) : Prop := ∃ (ns : List Int) (a : Nat) (b c d : Int), H p.1 = some (.lst [.ref p.2, .int a, .int b, .int c, .int d]) ∧ H p.2 = some (.lst (ns.map V.int)) ∧ p.2 ≠ p.1
theorem PoolAt.keep {H H' : Hp} {p : Addr × Addr} (h : PoolAt H p) (k : Same H H') : PoolAt H' p := by
  obtain ⟨ns, a, b, c, d, h1, h2, h3⟩ := h
  exact ⟨ns, a, b, c, d, k _ _ h1, k _ _ h2, h3⟩
theorem PoolAt.keepB {F : List Addr} {H H' : Hp} {p : Addr × Addr} (h : PoolAt H p) (k : KB F H H') (h1 : p.1 ∉ F) (h2 : p.2 ∉ F) : PoolAt H' p := by
  obtain ⟨ns, a, b, c, d, e1, e2, h3⟩ := h
  exact ⟨ns, a, b, c, d, k _ _ e1 h1, k _ _ e2 h2, h3⟩
/-- the pool is changed, all else is kept -/
structure PlS (p : Addr × Addr) (H H' : Hp) : Prop where
  kb : KB [p.1] H H'
  pl : PoolAt H' p
theorem PlS.refl {H : Hp} {p : Addr × Addr} (h : PoolAt H p) : PlS p H H := ⟨KB.refl, h⟩
theorem PlS.trans {H H1 H2 : Hp} {p : Addr × Addr} (a : PlS p H H1) (b : PlS p H1 H2) : PlS p H H2 := ⟨a.kb.trans b.kb, b.pl⟩
theorem PlS.same {H H1 : Hp} {p : Addr × Addr} (h : PoolAt H p) (k : Same H H1) : PlS p H H1 := ⟨KB.ofSame k, h.keep k⟩
theorem PlS.then {H H1 H2 : Hp} {p : Addr × Addr} (a : PlS p H H1) (k : Same H1 H2) : PlS p H H2 := a.trans (.same a.pl k)
def spPool (K : PySem.W.Frag) : Sp := fun vs H Q _ => ∃ (l : Addr) (ns : List Int), vs = [.ref l] ∧ SqL K H l (ns.map V.int) ∧ ∀ (p : Addr × Addr) H', Same H H' → H p.1 = none → H p.2 = none → PoolAt H' p → Q (.ref p.1) H'
def spMix : Sp := fun vs H Q _ => ∃ a b c : Int, vs = [.int a, .int b, .int c] ∧ 0 < c ∧ ∀ r : Int, 0 ≤ r → r < c → Q (.int r) H
def spDraw : Sp := fun vs H Q _ => ∃ (p : Addr × Addr) (c : Int), vs = [.ref p.1, .int c] ∧ PoolAt H p ∧ 0 < c ∧ c < 1000000 ∧ ∀ (r : Int) H', 0 ≤ r → r < c → PlS p H H' → Q (.int r) H'
section
variable {P : Program} {w : World} {K : PySem.W.Frag} {mg : Str → Option Value} {base : Heap}
theorem scPool : FnScope ["_law_script"] ["_law_script"] (defScope sPool) := ⟨rfl, rfl, rfl, by decide +kernel, rfl, by decide +kernel, by decide +kernel⟩
theorem ok_pool {f : Addr} {fd : FuncData} (F : Fun K "_law_pool" "_law_pool" sPool f fd) (gList : mg "list" = none) : FnOk P w K mg base CX0 1 f fd ["_law_script"] (spPool K) := by
  refine F.ok scPool (fun vs H Q E h => ?_) (fun cdv A outer s H vs Q E hr h => ?_)
  · obtain ⟨l, ns, rfl, _⟩ := h
    rfl
  · obtain ⟨l, ns, rfl, hl, k⟩ := h
    refine ⟨_, (pss_one (ps_ret (pe_lst (by exact (pa_cons (pe_callTy call_list_of (by rfl) gList (by decide +kernel) (by exact (pa_cons (pv 0) pa_nil))) (pa_cons pe_int (pa_cons pe_int (pa_cons pe_int (pa_cons pe_int pa_nil))))))))), ?_⟩
    refine ⟨_, rfl, l, _, rfl, .inl hl, fun q hq => ⟨line_le (n := 5) (m := 1000) (by decide), fun p hp => ?_⟩⟩
    have hp0 : H p = none := by
      cases e : H p with
      | none => rfl
      | some o => rw [upd_ne (ne_of_none e hq)] at hp; rw [e] at hp; cases hp
    have qp : q ≠ p := fun e => by rw [← e, upd_same] at hp; cases hp
    exact k (p, q) _ (KB.same ((KB.refl.new hq).new hp)) hp0 hq ⟨ns, 0, 0, 0, 0, upd_same, by rw [upd_ne qp]; exact upd_same, qp⟩
theorem scMix : FnScope ["_law_cell", "_law_turn", "_law_limit", "_law_first", "_law_second", "_law_third"] ["_law_cell", "_law_turn", "_law_limit"] (defScope sMix) := ⟨rfl, rfl, rfl, by decide +kernel, rfl, by decide +kernel, by decide +kernel⟩
theorem ok_mix {f : Addr} {fd : FuncData} (F : Fun K "_law_mixed" "_law_mixed" sMix f fd) (gInt : mg "int" = none) : FnOk P w K mg base CX0 1 f fd ["_law_cell", "_law_turn", "_law_limit"] spMix := by
  refine F.ok scMix (fun vs H Q E h => ?_) (fun cdv A outer s H vs Q E hr h => ?_)
  · obtain ⟨a, b, c, rfl, _⟩ := h
    rfl
  · obtain ⟨a, b, c, rfl, hc, k⟩ := h
    refine ⟨_, (pss_cons (ps_set (i := 3) scMix.nd rfl (.inl rfl) (pe_op op_mod (pe_callTy call_int1 (by rfl) gInt (by decide +kernel) (by exact (pa_cons (pe_op op_add (pe_op op_add (pe_op op_mul (pv 0) pe_int) (pe_op op_mul (pv 1) pe_int)) pe_int) pa_nil))) pe_int))
      (pss_cons (ps_set (i := 4) scMix.nd rfl (.inl rfl) (pe_op op_mod (pe_callTy call_int1 (by rfl) gInt (by decide +kernel) (by exact (pa_cons (pe_op op_add (pe_op op_add (pe_op op_mul (pv 3) pe_int) (pe_op op_mul (pv 0) pe_int)) (pe_op op_mul (pv 1) pe_int)) pa_nil))) pe_int))
      (pss_cons (ps_set (i := 5) scMix.nd rfl (.inl rfl) (pe_op op_mod (pe_callTy call_int1 (by rfl) gInt (by decide +kernel) (by exact (pa_cons (pe_op op_add (pe_op op_mul (pv 4) pe_int) (pe_op op_fdiv (pv 3) pe_int)) pa_nil))) pe_int))
      (pss_one (ps_ret (pe_op op_mod (pe_callTy call_int1 (by rfl) gInt (by decide +kernel) (by exact (pa_cons (pv 5) pa_nil))) (pv 2))))))), ?_⟩
    refine ⟨_, rfl, _, _, rfl, rfl, .inr ⟨by decide, by decide⟩, _, rfl, _, _, rfl, rfl, .inr ⟨by decide, by decide⟩, _, _, rfl, rfl, _, _, rfl, rfl, .inl ⟨_, rfl, _, _, rfl, rfl, (by show (0 : Int) < _; decide), ?_⟩⟩
    refine ⟨_, rfl, _, _, rfl, rfl, .inr ⟨by decide, by decide⟩, _, rfl, _, _, rfl, rfl, .inr ⟨by decide, by decide⟩, _, _, rfl, rfl, _, rfl, _, _, rfl, rfl, .inr ⟨by decide, by decide⟩, _, _, rfl, rfl, .inl ⟨_, rfl, _, _, rfl, rfl, (by show (0 : Int) < _; decide), ?_⟩⟩
    refine ⟨_, rfl, _, _, rfl, rfl, .inr ⟨by decide, by decide⟩, _, rfl, _, _, rfl, rfl, ⟨by decide, by decide⟩, _, _, rfl, rfl, .inl ⟨_, rfl, _, _, rfl, rfl, (by show (0 : Int) < _; decide), ?_⟩⟩
    exact ⟨_, rfl, .inl ⟨_, rfl, _, rfl, _, _, rfl, rfl, hc, k _ (Int.emod_nonneg _ (by omega)) (Int.emod_lt_of_pos _ hc)⟩⟩
theorem scDraw : FnScope ["_law_pool_here", "_law_limit", "_law_digit", "_law_cell"] ["_law_pool_here", "_law_limit"] (defScope sDraw) := ⟨rfl, rfl, rfl, by decide +kernel, rfl, by decide +kernel, by decide +kernel⟩
theorem ok_draw {f fX : Addr} {fd dX : FuncData} (F : Fun K "_law_draw" "_law_draw" sDraw f fd) (MX : CallM P w K mg base CX0 1 fX dX "_law_mixed" ["_law_cell", "_law_turn", "_law_limit"] spMix) (gInt : mg "int" = none) (gLen : mg "len" = none) : FnOk P w K mg base CX0 2 f fd ["_law_pool_here", "_law_limit"] spDraw := by
  refine F.ok scDraw (fun vs H Q E h => ?_) (fun cdv A outer s H vs Q E hr h => ?_)
  · obtain ⟨p, c, rfl, _⟩ := h
    rfl
  · obtain ⟨⟨p, l⟩, c, rfl, ⟨ns, a, b, cc, d, hp, hl, lp⟩, hc, hc2, k⟩ := h
    have hp : H p = some (.lst [.ref l, .int a, .int b, .int cc, .int d]) := hp
    have hl : H l = some (.lst (ns.map V.int)) := hl
    have lp : l ≠ p := lp
    refine ⟨_, (pss_cons (ps_if (pt_cmpR op_gt (pe_ix ix_list (pv 0) pe_int (fun _ _ => rfl)) pe_int (nomark _)) (pss_cons (ps_set (i := 2) scDraw.nd rfl (.inl rfl) (pe_op op_mod (pe_callTy call_int1 (by rfl) gInt (by decide +kernel) (by exact (pa_cons (pe_ix ix_list (pv 0) pe_int (fun _ _ => rfl)) pa_nil))) (pv 1)))
      (pss_cons (ps_asg (pe_op op_fdiv (pe_ix ix_list (pv 0) pe_int (fun _ _ => rfl)) (pv 1)) (by exact (pg_sub (pv 0) pe_int set_list)))
      (pss_one (ps_ret (pv 2))))) pss_nil)
      (pss_cons (ps_if (pt_cmpR op_gt (pe_ix ix_list (pv 0) pe_int (fun _ _ => rfl)) pe_int (nomark _)) (pss_cons (ps_asg (pe_op op_sub (pe_ix ix_list (pv 0) pe_int (fun _ _ => rfl)) pe_int) (by exact (pg_sub (pv 0) pe_int set_list)))
      (pss_one (ps_ret (by exact (pe_call MX.G (hr.mono (by decide)) rfl MX.g MX.kp MX.b .nil pass0 (by exact (pa_cons (pe_ix ix_list (pv 0) pe_int (fun _ _ => rfl)) (pa_cons (pe_ix ix_list (pv 0) pe_int (fun _ _ => rfl)) (pa_cons (pv 1) pa_nil))))))))) pss_nil)
      (pss_cons (ps_if (pt_cmpR op_ge (pe_ix ix_list (pv 0) pe_int (fun _ _ => rfl)) (pe_callB call_len_seq (by rfl) gLen (by decide +kernel) (by exact (pa_cons (pe_ix ix_list (pv 0) pe_int (fun _ _ => rfl)) pa_nil))) (nomark _)) (pss_one (ps_ret pe_int)) pss_nil)
      (pss_cons (ps_set (i := 3) scDraw.nd rfl (.inl rfl) (pe_ix ix_list (pe_ix ix_list (pv 0) pe_int (fun _ _ => rfl)) (pe_ix ix_list (pv 0) pe_int (fun _ _ => rfl)) (fun _ _ => rfl)))
      (pss_cons (ps_asg (pe_op op_add (pe_ix ix_list (pv 0) pe_int (fun _ _ => rfl)) pe_int) (by exact (pg_sub (pv 0) pe_int set_list)))
      (pss_cons (ps_if (pt_cmpR op_lt (pv 3) pe_int (nomark _)) (pss_one (ps_set (i := 3) scDraw.nd rfl (.inl rfl) (pe_op op_sub (pe_un un_neg pe_int) (pv 3)))) pss_nil)
      (pss_cons (ps_if (pt_cmpR op_ge (pv 3) (pe_op op_pow pe_int pe_int) (nomark _)) (pss_cons (ps_asg (pe_op op_fdiv (pv 3) (pv 1)) (by exact (pg_sub (pv 0) pe_int set_list)))
      (pss_one (ps_ret (pe_op op_mod (pe_callTy call_int1 (by rfl) gInt (by decide +kernel) (by exact (pa_cons (pv 3) pa_nil))) (pv 1))))) pss_nil)
      (pss_cons (ps_asg (pv 3) (by exact (pg_sub (pv 0) pe_int set_list)))
      (pss_cons (ps_asg pe_int (by exact (pg_sub (pv 0) pe_int set_list)))
      (pss_one (ps_ret (by exact (pe_call MX.G (hr.mono (by decide)) rfl MX.g MX.kp MX.b .nil pass0 (by exact (pa_cons (pv 3) (pa_cons pe_int (pa_cons (pv 1) pa_nil))))))))))))))))), ?_⟩
    have new : ∀ (a' : Nat) (b' c' d' : Int), PlS (p, l) H (upd H p (.lst [.ref l, .int a', .int b', .int c', .int d'])) := fun a' b' c' d' => ⟨KB.refl.upd (by simp), ns, a', b', c', d', upd_same, by rw [upd_ne lp]; exact hl, lp⟩
    by_cases h1 : 0 < b
    · refine ⟨_, rfl, p, _, _, _, rfl, rfl, SqL.of hp, atI_nat (j := 2) rfl, _, _, rfl, rfl, _, rfl, if_true_of (decide_eq_true h1) ?_⟩
      refine ⟨_, rfl, p, _, _, _, rfl, rfl, SqL.of hp, atI_nat (j := 2) rfl, .inl ⟨_, rfl, _, rfl, _, _, rfl, rfl, hc, ?_⟩⟩
      refine ⟨_, rfl, p, _, _, _, rfl, rfl, SqL.of hp, atI_nat (j := 2) rfl, _, rfl, _, _, rfl, rfl, ⟨hc, by omega⟩, ?_⟩
      refine ⟨_, rfl, p, _, _, _, rfl, rfl, hp, rfl, ?_⟩
      exact ⟨_, rfl, k _ _ (Int.emod_nonneg _ (by omega)) (Int.emod_lt_of_pos _ hc) (new a (b / c) cc d)⟩
    · refine ⟨_, rfl, p, _, _, _, rfl, rfl, SqL.of hp, atI_nat (j := 2) rfl, _, _, rfl, rfl, _, rfl, if_false_of (decide_eq_false h1) ?_⟩
      by_cases h2 : 0 < d
      · refine ⟨_, rfl, p, _, _, _, rfl, rfl, SqL.of hp, atI_nat (j := 4) rfl, _, _, rfl, rfl, _, rfl, if_true_of (decide_eq_true h2) ?_⟩
        refine ⟨_, rfl, p, _, _, _, rfl, rfl, SqL.of hp, atI_nat (j := 4) rfl, _, _, rfl, rfl, ?_⟩
        refine ⟨_, rfl, p, _, _, _, rfl, rfl, hp, rfl, ?_⟩
        refine ⟨_, rfl, p, _, _, _, rfl, rfl, SqL.of upd_same, atI_nat (j := 3) rfl, _, rfl, p, _, _, _, rfl, rfl, SqL.of upd_same, atI_nat (j := 4) rfl, _, rfl, _, _, _, rfl, hc, fun r r0 r1 => ?_⟩
        exact k r _ r0 r1 (new a b cc (d - 1))
      · refine ⟨_, rfl, p, _, _, _, rfl, rfl, SqL.of hp, atI_nat (j := 4) rfl, _, _, rfl, rfl, _, rfl, if_false_of (decide_eq_false h2) ?_⟩
        have newG : ∀ (H' : Hp) (a' : Nat) (b' c' d' : Int), PlS (p, l) H H' → H' l = some (.lst (ns.map V.int)) → PlS (p, l) H (upd H' p (.lst [.ref l, .int a', .int b', .int c', .int d'])) ∧ upd H' p (.lst [.ref l, .int a', .int b', .int c', .int d']) l = some (.lst (ns.map V.int)) := fun H' a' b' c' d' s1 h1 =>
          ⟨⟨s1.kb.upd (by simp), ns, a', b', c', d', upd_same, by rw [upd_ne lp]; exact h1, lp⟩, by rw [upd_ne lp]; exact h1⟩
        have nl : (ns.map V.int).length = ns.length := List.length_map ..
        refine ⟨_, rfl, p, _, _, _, rfl, rfl, SqL.of hp, atI_nat (j := 1) rfl, _, rfl, p, _, _, _, rfl, rfl, SqL.of hp, atI_nat (j := 0) rfl, l, _, rfl, .inl (SqL.of hl), _, _, rfl, rfl, _, rfl, iteB (fun e3 => ?_) (fun e3 => ?_)⟩
        · exact k 0 H (Int.le_refl 0) hc (.refl ⟨ns, a, b, cc, d, hp, hl, lp⟩)
        · have h3 : a < ns.length := by
            have z := of_decide_eq_false e3
            rw [nl] at z
            omega
          have hx : (ns.map V.int)[a]? = some (.int ns[a]) := by simp [h3]
          refine ⟨_, rfl, p, _, _, _, rfl, rfl, SqL.of hp, atI_nat (j := 0) rfl, _, rfl, p, _, _, _, rfl, rfl, SqL.of hp, atI_nat (j := 1) rfl, l, _, _, _, rfl, rfl, SqL.of hl, atI_nat hx, ?_⟩
          refine ⟨_, rfl, p, _, _, _, rfl, rfl, SqL.of hp, atI_nat (j := 1) rfl, _, _, rfl, rfl, _, rfl, p, _, _, _, rfl, rfl, hp, rfl, ?_⟩
          obtain ⟨s1, h1⟩ := newG H (a + 1) b cc d (.refl ⟨ns, a, b, cc, d, hp, hl, lp⟩) hl
          have hp1 : upd H p (.lst [.ref l, .int (a + 1 : Nat), .int b, .int cc, .int d]) p = some (.lst [.ref l, .int (a + 1 : Nat), .int b, .int cc, .int d]) := upd_same
          show tSeq _ _ _ _ (upd H p (.lst [.ref l, .int (a + 1 : Nat), .int b, .int cc, .int d]))
          generalize upd H p (.lst [.ref l, .int (a + 1 : Nat), .int b, .int cc, .int d]) = H1 at s1 h1 hp1 ⊢
          by_cases h4 : ns[a] < 0
          · refine ⟨_, rfl, _, _, rfl, rfl, _, rfl, if_true_of (decide_eq_true h4) ?_⟩
            refine ⟨_, rfl, _, rfl, _, _, rfl, rfl, ?_⟩
            refine ⟨_, rfl, _, _, rfl, rfl, ⟨by decide, by decide, by decide⟩, _, _, rfl, rfl, _, rfl, iteB (fun _ => ?_) (fun _ => ?_)⟩
            · refine ⟨_, rfl, _, rfl, _, _, rfl, rfl, ⟨hc, by omega⟩, _, rfl, p, _, _, _, rfl, rfl, hp1, rfl, ?_⟩
              exact ⟨_, rfl, .inl ⟨_, rfl, _, rfl, _, _, rfl, rfl, hc, k _ _ (Int.emod_nonneg _ (by omega)) (Int.emod_lt_of_pos _ hc) (newG H1 _ _ _ _ s1 h1).1⟩⟩
            · refine ⟨_, rfl, _, rfl, p, _, _, _, rfl, rfl, hp1, rfl, ?_⟩
              obtain ⟨s2, h2⟩ := newG H1 (a + 1) b (-1 - ns[a]) d s1 h1
              refine ⟨_, rfl, p, _, _, _, rfl, rfl, upd_same, rfl, ?_⟩
              exact ⟨_, rfl, _, rfl, _, _, _, rfl, hc, fun r r0 r1 => k r _ r0 r1 (newG _ _ _ _ _ s2 h2).1⟩
          · refine ⟨_, rfl, _, _, rfl, rfl, _, rfl, if_false_of (decide_eq_false h4) ?_⟩
            refine ⟨_, rfl, _, _, rfl, rfl, ⟨by decide, by decide, by decide⟩, _, _, rfl, rfl, _, rfl, iteB (fun _ => ?_) (fun _ => ?_)⟩
            · refine ⟨_, rfl, _, rfl, _, _, rfl, rfl, ⟨hc, by omega⟩, _, rfl, p, _, _, _, rfl, rfl, hp1, rfl, ?_⟩
              exact ⟨_, rfl, .inl ⟨_, rfl, _, rfl, _, _, rfl, rfl, hc, k _ _ (Int.emod_nonneg _ (by omega)) (Int.emod_lt_of_pos _ hc) (newG H1 _ _ _ _ s1 h1).1⟩⟩
            · refine ⟨_, rfl, _, rfl, p, _, _, _, rfl, rfl, hp1, rfl, ?_⟩
              obtain ⟨s2, h2⟩ := newG H1 (a + 1) b ns[a] d s1 h1
              refine ⟨_, rfl, p, _, _, _, rfl, rfl, upd_same, rfl, ?_⟩
              exact ⟨_, rfl, _, rfl, _, _, _, rfl, hc, fun r r0 r1 => k r _ r0 r1 (newG _ _ _ _ _ s2 h2).1⟩
end
end Qk

/-! part W2 -/
set_option Elab.async false
set_option linter.all false
set_option maxRecDepth 100000
set_option maxHeartbeats 4000000
namespace Qk
open PySem PySem.Spec L2
open PyProof.Rows hiding St
/-! ### the law's comparing -/
abbrev sIsI : Stmt := top 26
abbrev sSame : Stmt := top 27
def spIsI : Sp := fun vs H Q _ => ∃ i : Int, vs = [.int i] ∧ Q (.bl true) H
/-- alike as data, down to a depth -/
def Eq0 (x y : V) : Prop := x = y ∧ (x = .non ∨ (∃ i, x = .int i) ∨ ∃ s, x = .str s)
def Eqd (K : PySem.W.Frag) (H : Hp) : Nat → V → V → Prop
  | 0, x, y => Eq0 x y
  | n + 1, x, y => Eq0 x y ∨ ∃ (a b : Addr) (xs ys : List V), x = .ref a ∧ y = .ref b ∧ ((SqL K H a xs ∧ SqL K H b ys) ∨ (SqT K H a xs ∧ SqT K H b ys)) ∧ xs.length ≤ 1000 ∧ Paired (Eqd K H n) xs ys
def spSame (K : PySem.W.Frag) (n : Nat) : Sp := fun vs H Q _ => ∃ (m : Nat) (x y : V), n = m + 1 ∧ vs = [x, y] ∧ Eqd K H m x y ∧ Q (.bl true) H
theorem tyx_l {K : PySem.W.Frag} {H : Hp} {a : Addr} {xs : List V} (h : SqL K H a xs) : TyX K H (.ref a) (.type "list") := by
  rcases h with h | ⟨o, its, n, e, c, _⟩
  · rcases h with h | ⟨o, h⟩
    · exact .base (.lst h)
    · exact .base (.frz h)
  · exact .kList e c
theorem tyx_t {K : PySem.W.Frag} {H : Hp} {a : Addr} {xs : List V} (h : SqT K H a xs) : TyX K H (.ref a) (.type "tuple") := by
  rcases h with h | ⟨o, its, n, e, c, _⟩
  · rcases h with h | ⟨o, h⟩
    · exact .base (.tup h)
    · exact .fTuple h
  · exact .kTuple e c
section
variable {P : Program} {w : World} {K : PySem.W.Frag} {mg : Str → Option Value} {base : Heap}
theorem scIsI : FnScope ["_law_thing"] ["_law_thing"] (defScope sIsI) := ⟨rfl, rfl, rfl, by decide +kernel, rfl, by decide +kernel, by decide +kernel⟩
theorem ok_isI {f : Addr} {fd : FuncData} (F : Fun K "_law_is_int" "_law_is_int" sIsI f fd) (gIsi : mg "isinstance" = none) (gInt : mg "int" = none) (gBool : mg "bool" = none) : FnOk P w K mg base CX0 1 f fd ["_law_thing"] spIsI := by
  refine F.ok scIsI (fun vs H Q E h => ?_) (fun cdv A outer s H vs Q E hr h => ?_)
  · obtain ⟨i, rfl, _⟩ := h
    rfl
  · obtain ⟨i, rfl, k⟩ := h
    refine ⟨_, (pss_one (ps_ret (pe_and (pe_callB call_isi (by rfl) gIsi (by decide +kernel) (by exact (pa_cons (pv 0) (pa_cons (pe_bltn (v := .ty "int") (u := .type "int") (by rfl) gInt (by decide +kernel) rfl) pa_nil)))) (pe_one (pe_not (pe_callB call_isi (by rfl) gIsi (by decide +kernel) (by exact (pa_cons (pv 0) (pa_cons (pe_bltn (v := .ty "bool") (u := .type "bool") (by rfl) gBool (by decide +kernel) rfl) pa_nil))))))))), ?_⟩
    refine ⟨_, rfl, _, _, _, _, true, rfl, .ty _, .base (.int i), kit_ty (by decide +kernel), _, rfl, ?_⟩
    exact ⟨_, rfl, _, _, _, _, false, rfl, .ty _, .base (.int i), kit_ty (by decide +kernel), _, rfl, k⟩
theorem scSame : FnScope ["_law_mine", "_law_due_here", "_law_k"] ["_law_mine", "_law_due_here"] (defScope sSame) := ⟨rfl, rfl, rfl, by decide +kernel, rfl, by decide +kernel, by decide +kernel⟩
/-- the last lines of _law_same -/
theorem same_rest {l : Nat} {a b : Addr} {xs ys : List V} {H : Hp} {Q : VK} {E : XK} (hx : Sq K H a xs) (hy : Sq K H b ys) (hlen : xs.length ≤ 1000) (hl : xs.length = ys.length) (hp : Paired (Eqd K H l) xs ys) (k : Q (.bl true) H) :
    tSeq (tIfS (tTest (tOp rNe (tCB (fun xs H Q => ∃ p ys, xs = [.ref p] ∧ (SqL K H p ys ∨ SqT K H p ys) ∧ Q (.int ys.length) H) (tCons (tVar 0) tNil)) (tCB (fun xs H Q => ∃ p ys, xs = [.ref p] ∧ (SqL K H p ys ∨ SqT K H p ys) ∧ Q (.int ys.length) H) (tCons (tVar 1) tNil)))) (tRet (tC (.bl false))) tNext)
      (tSeq (tFor (iRng1 (tCons (tCB (fun xs H Q => ∃ p ys, xs = [.ref p] ∧ (SqL K H p ys ∨ SqT K H p ys) ∧ Q (.int ys.length) H) (tCons (tVar 1) tNil)) tNil)) (gName 2)
        (tIfS (tNot (tB (tCall (spSame K (l + 1)) [] E (tCons (tOp (rIx K) (tVar 0) (tVar 2)) (tCons (tOp (rIx K) (tVar 1) (tVar 2)) tNil))))) (tRet (tC (.bl false))) tNext))
      (tRet (tC (.bl true)))) { nx := fun _ H' => Q .non H', rt := Q } [some (.ref a), some (.ref b), none] H := by
  refine ⟨_, rfl, a, xs, rfl, hx, _, rfl, b, ys, rfl, hy, rfl, _, rfl, if_false_of (by simp [hl]) ?_⟩
  refine ⟨_, rfl, b, ys, rfl, hy, (ys.length : Int), rfl, by omega, by omega, ?_⟩
  refine for_range (fun i σ' H' => ∃ o, σ' = [some (.ref a), some (.ref b), o] ∧ H' = H) ⟨_, rfl, rfl⟩ (fun i σ' H' hi ⟨o, e1, e2⟩ => ?_) (fun σ' H' ⟨o, e1, e2⟩ => ?_)
  · subst e1 e2
    have hi' : i < ys.length := by
      have z : ((ys.length : Nat) : Int).toNat = ys.length := Int.toNat_natCast _
      rw [z] at hi; exact hi
    have e0 : (0 : Int) + (i : Int) = (i : Int) := Int.zero_add _
    rw [e0]
    obtain ⟨u, hu⟩ : ∃ u, xs[i]? = some u := ⟨xs[i], List.getElem?_eq_getElem (by omega)⟩
    obtain ⟨v, hv, huv⟩ := paired_get hp hu
    exact ⟨_, rfl, _, rfl, ix_sq (n := i) hx hu ⟨_, rfl, _, rfl, ix_sq (n := i) hy hv ⟨l, u, v, rfl, rfl, huv, _, rfl, if_false_of rfl ⟨_, rfl, rfl⟩⟩⟩⟩
  · subst e1 e2
    exact k
theorem ok_same {f fI : Addr} {fd dI : FuncData} (F : Fun K "_law_same" "_law_same" sSame f fd) (MI : CallM P w K mg base CX0 1 fI dI "_law_is_int" ["_law_thing"] spIsI) (b : Binds K fd ["_law_mine", "_law_due_here"] []) (g : mg "_law_same" = some (.ref f))
    (gIsi : mg "isinstance" = none) (gInt : mg "int" = none) (gBool : mg "bool" = none) (gStr : mg "str" = none) (gList : mg "list" = none) (gTuple : mg "tuple" = none) (gLen : mg "len" = none) (gRange : mg "range" = none) : ∀ n, FnOk P w K mg base CX0 (n + 1) f fd ["_law_mine", "_law_due_here"] (spSame K n)
  | 0 => by
    refine F.ok scSame (fun vs H Q E h => ?_) (fun cdv A outer s H vs Q E hr h => ?_)
    · obtain ⟨m, x, y, e, _⟩ := h
      exact absurd e (Nat.succ_ne_zero m).symm
    · obtain ⟨m, x, y, e, _⟩ := h
      exact absurd e (Nat.succ_ne_zero m).symm
  | n + 1 => by
    have MS : CallM P w K mg base CX0 (n + 1) f fd "_law_same" ["_law_mine", "_law_due_here"] (spSame K n) := ⟨ok_same F MI b g gIsi gInt gBool gStr gList gTuple gLen gRange n, b, g, F.kp⟩
    refine F.ok scSame (fun vs H Q E h => ?_) (fun cdv A outer s H vs Q E hr h => ?_)
    · obtain ⟨m, x, y, _, rfl, _⟩ := h
      rfl
    · obtain ⟨m, x, y, e, rfl, he, k⟩ := h
      obtain rfl : n = m := Nat.succ.inj e
      refine ⟨_, (pss_cons (ps_if (pt_cmpR op_isN (pv 1) pe_non (nomark _)) (pss_one (ps_ret (pe_cmpR op_isN (pv 0) pe_non (nomark _)))) pss_nil)
      (pss_cons (ps_if (pt_val (pe_callB call_isi (by rfl) gIsi (by decide +kernel) (by exact (pa_cons (pv 1) (pa_cons (pe_bltn (v := .ty "bool") (u := .type "bool") (by rfl) gBool (by decide +kernel) rfl) pa_nil))))) (pss_one (ps_ret (pe_and (pe_callB call_isi (by rfl) gIsi (by decide +kernel) (by exact (pa_cons (pv 0) (pa_cons (pe_bltn (v := .ty "bool") (u := .type "bool") (by rfl) gBool (by decide +kernel) rfl) pa_nil)))) (pe_one (pe_cmpR op_eq (pv 0) (pv 1) (nomark _)))))) pss_nil)
      (pss_cons (ps_if (pt_val (pe_callB call_isi (by rfl) gIsi (by decide +kernel) (by exact (pa_cons (pv 1) (pa_cons (pe_bltn (v := .ty "int") (u := .type "int") (by rfl) gInt (by decide +kernel) rfl) pa_nil))))) (pss_one (ps_ret (pe_and (by exact (pe_call MI.G (hr.mono (by omega)) rfl MI.g MI.kp MI.b .nil pass0 (by exact (pa_cons (pv 0) pa_nil)))) (pe_one (pe_cmpR op_eq (pv 0) (pv 1) (nomark _)))))) pss_nil)
      (pss_cons (ps_if (pt_val (pe_callB call_isi (by rfl) gIsi (by decide +kernel) (by exact (pa_cons (pv 1) (pa_cons (pe_bltn (v := .ty "str") (u := .type "str") (by rfl) gStr (by decide +kernel) rfl) pa_nil))))) (pss_one (ps_ret (pe_and (pe_callB call_isi (by rfl) gIsi (by decide +kernel) (by exact (pa_cons (pv 0) (pa_cons (pe_bltn (v := .ty "str") (u := .type "str") (by rfl) gStr (by decide +kernel) rfl) pa_nil)))) (pe_one (pe_cmpR op_eq (pv 0) (pv 1) (nomark _)))))) pss_nil)
      (pss_cons (ps_if (PW.pt (pw_and (pt_val (pe_callB call_isi (by rfl) gIsi (by decide +kernel) (by exact (pa_cons (pv 1) (pa_cons (pe_bltn (v := .ty "list") (u := .type "list") (by rfl) gList (by decide +kernel) rfl) pa_nil))))) (pw_and1 (pt_not (pt_val (pe_callB call_isi (by rfl) gIsi (by decide +kernel) (by exact (pa_cons (pv 0) (pa_cons (pe_bltn (v := .ty "list") (u := .type "list") (by rfl) gList (by decide +kernel) rfl) pa_nil))))))))) (pss_one (ps_ret pe_bl)) pss_nil)
      (pss_cons (ps_if (PW.pt (pw_and (pt_val (pe_callB call_isi (by rfl) gIsi (by decide +kernel) (by exact (pa_cons (pv 1) (pa_cons (pe_bltn (v := .ty "tuple") (u := .type "tuple") (by rfl) gTuple (by decide +kernel) rfl) pa_nil))))) (pw_and1 (pt_not (pt_val (pe_callB call_isi (by rfl) gIsi (by decide +kernel) (by exact (pa_cons (pv 0) (pa_cons (pe_bltn (v := .ty "tuple") (u := .type "tuple") (by rfl) gTuple (by decide +kernel) rfl) pa_nil))))))))) (pss_one (ps_ret pe_bl)) pss_nil)
      (pss_cons (ps_if (pt_cmpR op_ne (pe_callB call_len_seq (by rfl) gLen (by decide +kernel) (by exact (pa_cons (pv 0) pa_nil))) (pe_callB call_len_seq (by rfl) gLen (by decide +kernel) (by exact (pa_cons (pv 1) pa_nil))) (nomark _)) (pss_one (ps_ret pe_bl)) pss_nil)
      (pss_cons (ps_for PassesOwn.never rfl (pi_range1 (by rfl) gRange (by exact (pa_cons (pe_callB call_len_seq (by rfl) gLen (by decide +kernel) (by exact (pa_cons (pv 1) pa_nil))) pa_nil))) (pg_name (i := 2) scSame.nd rfl (.inl rfl)) (pss_one (ps_if (pt_not (pt_val (by exact (pe_call MS.G (hr.mono (by omega)) rfl MS.g MS.kp MS.b .nil pass0 (by exact (pa_cons (pe_ix ix_seq (pv 0) (pv 2) (fun _ _ => rfl)) (pa_cons (pe_ix ix_seq (pv 1) (pv 2) (fun _ _ => rfl)) pa_nil))))))) (pss_one (ps_ret pe_bl)) pss_nil)))
      (pss_one (ps_ret pe_bl)))))))))), ?_⟩
      have atoms : Eq0 x y ∨ ∃ l, n = l + 1 ∧ ∃ (a b : Addr) (xs ys : List V), x = .ref a ∧ y = .ref b ∧ ((SqL K H a xs ∧ SqL K H b ys) ∨ (SqT K H a xs ∧ SqT K H b ys)) ∧ xs.length ≤ 1000 ∧ Paired (Eqd K H l) xs ys := by
        cases n with
        | zero => exact .inl he
        | succ l => exact he.imp id fun z => ⟨l, rfl, z⟩
      rcases atoms with ⟨rfl, rfl | ⟨i, rfl⟩ | ⟨z, rfl⟩⟩ | ⟨l, rfl, a, b2, xs, ys, rfl, rfl, hsq, hlen, hp⟩
      · exact ⟨_, rfl, rfl, _, rfl, if_true_of (by simp) ⟨_, rfl, rfl, by simpa using k⟩⟩
      · refine ⟨_, rfl, rfl, _, rfl, if_false_of (by simp) ?_⟩
        refine ⟨_, rfl, _, _, _, _, false, rfl, .ty _, .base (.int i), kit_ty (by decide +kernel), _, rfl, if_false_of rfl ?_⟩
        refine ⟨_, rfl, _, _, _, _, true, rfl, .ty _, .base (.int i), kit_ty (by decide +kernel), _, rfl, if_true_of rfl ?_⟩
        exact ⟨_, rfl, i, rfl, _, rfl, _, rfl, _, rfl, rfl, by simpa using k⟩
      · refine ⟨_, rfl, rfl, _, rfl, if_false_of (by simp) ?_⟩
        refine ⟨_, rfl, _, _, _, _, false, rfl, .ty _, .base (.str z), kit_ty (by decide +kernel), _, rfl, if_false_of rfl ?_⟩
        refine ⟨_, rfl, _, _, _, _, false, rfl, .ty _, .base (.str z), kit_ty (by decide +kernel), _, rfl, if_false_of rfl ?_⟩
        refine ⟨_, rfl, _, _, _, _, true, rfl, .ty _, .base (.str z), kit_ty (by decide +kernel), _, rfl, if_true_of rfl ?_⟩
        exact ⟨_, rfl, _, _, _, _, true, rfl, .ty _, .base (.str z), kit_ty (by decide +kernel), _, rfl, _, rfl, _, rfl, rfl, by simpa using k⟩
      · have hl : xs.length = ys.length := Paired.length hp
        have sx : Sq K H a xs ∧ Sq K H b2 ys := hsq.elim (fun z => ⟨.inl z.1, .inl z.2⟩) fun z => ⟨.inr z.1, .inr z.2⟩
        obtain ⟨T, hx, hy, e1, e2, e3, e4⟩ : ∃ T : String, TyX K H (.ref a) (.type T) ∧ TyX K H (.ref b2) (.type T) ∧ kitB T "bool" = some false ∧ kitB T "int" = some false ∧ kitB T "str" = some false ∧ ((kitB T "list" = some true ∧ kitB T "tuple" = some false) ∨ (kitB T "list" = some false ∧ kitB T "tuple" = some true)) := by
          rcases hsq with z | z
          · exact ⟨"list", tyx_l z.1, tyx_l z.2, by decide +kernel, by decide +kernel, by decide +kernel, .inl ⟨by decide +kernel, by decide +kernel⟩⟩
          · exact ⟨"tuple", tyx_t z.1, tyx_t z.2, by decide +kernel, by decide +kernel, by decide +kernel, .inr ⟨by decide +kernel, by decide +kernel⟩⟩
        refine ⟨_, rfl, rfl, _, rfl, if_false_of (by simp) ?_⟩
        refine ⟨_, rfl, _, _, _, _, false, rfl, .ty _, hy, kit_ty e1, _, rfl, if_false_of rfl ?_⟩
        refine ⟨_, rfl, _, _, _, _, false, rfl, .ty _, hy, kit_ty e2, _, rfl, if_false_of rfl ?_⟩
        refine ⟨_, rfl, _, _, _, _, false, rfl, .ty _, hy, kit_ty e3, _, rfl, if_false_of rfl ?_⟩
        have nx : (((0 : Int)) ≤ 0) := Int.le_refl 0
        rcases e4 with ⟨e4, e5⟩ | ⟨e4, e5⟩
        · refine ⟨_, rfl, _, _, _, _, true, rfl, .ty _, hy, kit_ty e4, _, rfl, if_true_of rfl ⟨_, rfl, _, _, _, _, true, rfl, .ty _, hx, kit_ty e4, _, rfl, if_false_of rfl ?_⟩⟩
          refine ⟨_, rfl, _, _, _, _, false, rfl, .ty _, hy, kit_ty e5, _, rfl, if_false_of rfl (if_false_of rfl ?_)⟩
          exact same_rest sx.1 sx.2 hlen hl hp k
        · refine ⟨_, rfl, _, _, _, _, false, rfl, .ty _, hy, kit_ty e4, _, rfl, if_false_of rfl (if_false_of rfl ?_)⟩
          refine ⟨_, rfl, _, _, _, _, true, rfl, .ty _, hy, kit_ty e5, _, rfl, if_true_of rfl ⟨_, rfl, _, _, _, _, true, rfl, .ty _, hx, kit_ty e5, _, rfl, if_false_of rfl ?_⟩⟩
          exact same_rest sx.1 sx.2 hlen hl hp k
end
end Qk

/-! part W3 -/
set_option Elab.async false
set_option linter.all false
set_option maxRecDepth 100000
set_option maxHeartbeats 4000000
namespace Qk
open PySem PySem.Spec L2
open PyProof.Rows hiding St
/-! ### drawn words, values, places, keys -/
abbrev sWord : Stmt := top 25
abbrev sVal : Stmt := top 28
abbrev sCells : Stmt := top 29
abbrev sKey : Stmt := top 30
def spWord : Sp := fun vs H Q _ => ∃ (p : Addr × Addr) (z y : Str) (m : Int), vs = [.ref p.1, .str z, .str y, .int m] ∧ PoolAt H p ∧ 0 < z.length ∧ 0 < y.length ∧ z.length ≤ 1000 ∧ y.length ≤ 1000 ∧ 0 ≤ m ∧ m ≤ 1000 ∧ ∀ (u : Str) H', PlS p H H' → Q (.str u) H'
def spVal4 : Sp := fun vs H Q _ => ∃ p : Addr × Addr, vs = [.ref p.1] ∧ PoolAt H p ∧ ∀ (v : V) H', PlS p H H' → scal4 v = true → Q v H'
def kz (b : Bool) (n : Int) : Str := if b = true then ("0.1:" : Str) ++ (Str.ofString (toString n)) ++ (".p" : Str) else ("k" : Str) ++ (Str.ofString (toString n))
def spKey : Sp := fun vs H Q _ => ∃ (p : Addr × Addr) (n : Nat), vs = [.ref p.1, .int (n : Int)] ∧ PoolAt H p ∧ n < 30 ∧ ∀ (b : Bool) H', PlS p H H' → Q (.str (kz b n)) H'
/-- the names of the places -/
def pNames : List Str := ["a", "b", "c", "place"]
/-- drawn places -/
structure Plc (ps : List (Str × V)) : Prop where
  n0 : 0 < ps.length
  n4 : ps.length ≤ 4
  nm : keys ps = pNames.take ps.length
  v4 : ∀ p ∈ ps, scal4 p.2 = true
def spCells (K : PySem.W.Frag) : Sp := fun vs H Q _ => ∃ p : Addr × Addr, vs = [.ref p.1] ∧ PoolAt H p ∧ ∀ (a : Addr) (ps : List (Str × V)) H', PlS p H H' → H a = none → Plc ps → PlcAt K H' a ps → Q (.ref a) H'
section
variable {P : Program} {w : World} {K : PySem.W.Frag} {mg : Str → Option Value} {base : Heap}
theorem pl_ne {H : Hp} {p : Addr × Addr} {l : Addr} (h : PoolAt H p) (hl : H l = none) : l ≠ p.1 := by
  obtain ⟨_, _, _, _, _, h1, _⟩ := h
  intro e; rw [e, h1] at hl; cases hl
theorem pl_ne2 {H : Hp} {p : Addr × Addr} {l : Addr} (h : PoolAt H p) (hl : H l = none) : l ≠ p.2 := by
  obtain ⟨_, _, _, _, _, _, h1, _⟩ := h
  intro e; rw [e, h1] at hl; cases hl
theorem PlS.obj {H H' : Hp} {p : Addr × Addr} {b : Addr} {o : HO} (h : PlS p H H') (e : H b = some o) (n : b ≠ p.1) : H' b = some o := h.kb b o e (by simpa using n)
/-- an item of a list at a drawn place -/
theorem draw_ix {xs : List V} {r : Int} (h0 : 0 ≤ r) (h1 : r < xs.length) : ∃ v, v ∈ xs ∧ atI xs r = some v := by
  obtain ⟨n, rfl⟩ := Int.eq_ofNat_of_zero_le h0
  have hn : n < xs.length := by omega
  exact ⟨xs[n], List.getElem_mem hn, atI_nat (by simp [hn])⟩
theorem scWord : FnScope ["_law_pool_here", "_law_first", "_law_signs", "_law_more", "_law_word_here", "_law_k"] ["_law_pool_here", "_law_first", "_law_signs", "_law_more"] (defScope sWord) := ⟨rfl, rfl, rfl, by decide +kernel, rfl, by decide +kernel, by decide +kernel⟩
theorem ok_word {f fD : Addr} {fd dD : FuncData} (F : Fun K "_law_word" "_law_word" sWord f fd) (MD : CallM P w K mg base CX0 2 fD dD "_law_draw" ["_law_pool_here", "_law_limit"] spDraw) (gLen : mg "len" = none) (gRange : mg "range" = none) : FnOk P w K mg base CX0 3 f fd ["_law_pool_here", "_law_first", "_law_signs", "_law_more"] spWord := by
  refine F.ok scWord (fun vs H Q E h => ?_) (fun cdv A outer s H vs Q E hr h => ?_)
  · obtain ⟨p, z, y, m, rfl, _⟩ := h
    rfl
  · obtain ⟨p, z, y, m, rfl, hp, hz, hy, hz2, hy2, hm, hm2, k⟩ := h
    refine ⟨_, (pss_cons (ps_set (i := 4) scWord.nd rfl (.inl rfl) (pe_ix ix_str (pv 1) (by exact (pe_call MD.G (hr.mono (by decide)) rfl MD.g MD.kp MD.b .nil pass0 (by exact (pa_cons (pv 0) (pa_cons (pe_callB call_len_str (by rfl) gLen (by decide +kernel) (by exact (pa_cons (pv 1) pa_nil))) pa_nil))))) (fun _ _ => rfl)))
      (pss_cons (ps_for PassesOwn.never rfl (pi_range1 (by rfl) gRange (by exact (pa_cons (pv 3) pa_nil))) (pg_name (i := 5) scWord.nd rfl (.inl rfl)) (pss_one (ps_set (i := 4) scWord.nd rfl (.inl rfl) (pe_op op_add_str (pv 4) (pe_ix ix_str (pv 2) (by exact (pe_call MD.G (hr.mono (by decide)) rfl MD.g MD.kp MD.b .nil pass0 (by exact (pa_cons (pv 0) (pa_cons (pe_callB call_len_str (by rfl) gLen (by decide +kernel) (by exact (pa_cons (pv 2) pa_nil))) pa_nil))))) (fun _ _ => rfl))))))
      (pss_one (ps_ret (pv 4))))), ?_⟩
    have chr : ∀ (z : Str) (r : Int), 0 ≤ r → r < (z.length : Int) → ∃ c, atI z.cps.toList r = some c := fun z r r0 r1 => by
      obtain ⟨n, rfl⟩ := Int.eq_ofNat_of_zero_le r0
      have hn : n < z.cps.toList.length := by
        have : z.cps.toList.length = z.length := by simp [Str.length]
        omega
      exact ⟨z.cps.toList[n], atI_nat (by simp [hn])⟩
    refine ⟨_, rfl, _, rfl, _, rfl, z, rfl, line_le (m := 1000) hz2, p, (z.length : Int), rfl, hp, by omega, by omega, fun r H1 r0 r1 s1 => ?_⟩
    obtain ⟨c, hc⟩ := chr z r r0 r1
    refine ⟨z, r, c, rfl, rfl, line_le (m := 1000) hz2, hc, ?_⟩
    refine ⟨_, rfl, m, rfl, by omega, by omega, ?_⟩
    refine for_range (fun i σ' H' => ∃ (u : Str) (o : Option V), σ' = [some (.ref p.1), some (.str z), some (.str y), some (.int m), some (.str u), o] ∧ PlS p H H' ∧ u.length ≤ i + 1) ⟨_, _, rfl, s1, by simp [Str.length]⟩ (fun i σ' H' hi ⟨u, o, e1, e2, e3⟩ => ?_) (fun σ' H' ⟨u, o, e1, e2, e3⟩ => ?_)
    · subst e1
      refine ⟨_, rfl, _, rfl, _, rfl, _, rfl, y, rfl, line_le (m := 1000) hy2, p, (y.length : Int), rfl, e2.pl, by omega, by omega, fun r H1 r0 r1 s1 => ?_⟩
      obtain ⟨c, hc⟩ := chr y r r0 r1
      refine ⟨y, r, c, rfl, rfl, line_le (m := 1000) hy2, hc, _, _, rfl, rfl, ?_, ?_⟩
      · have : (⟨#[c]⟩ : Str).length = 1 := rfl
        rw [this]
        have : i < m.toNat := hi
        have h2 : 2000 ≤ sizeLine := by decide
        omega
      · refine ⟨_, _, rfl, e2.trans s1, ?_⟩
        have : (u ++ (⟨#[c]⟩ : Str)).length = u.length + 1 := by
          show (u.cps ++ #[c]).size = u.cps.size + 1
          simp
        rw [this]; omega
    · subst e1
      exact ⟨_, rfl, k u H' e2⟩
theorem scVal : FnScope ["_law_pool_here", "_law_way", "_law_number", "_law_k"] ["_law_pool_here"] (defScope sVal) := ⟨rfl, rfl, rfl, by decide +kernel, rfl, by decide +kernel, by decide +kernel⟩
theorem ok_val {f fD : Addr} {fd dD : FuncData} (F : Fun K "_law_value" "_law_value" sVal f fd) (MD : CallM P w K mg base CX0 2 fD dD "_law_draw" ["_law_pool_here", "_law_limit"] spDraw) (gRange : mg "range" = none) : FnOk P w K mg base CX0 3 f fd ["_law_pool_here"] spVal4 := by
  refine F.ok scVal (fun vs H Q E h => ?_) (fun cdv A outer s H vs Q E hr h => ?_)
  · obtain ⟨p, rfl, _⟩ := h
    rfl
  · obtain ⟨p, rfl, hp, k⟩ := h
    refine ⟨_, (pss_cons (ps_set (i := 1) scVal.nd rfl (.inl rfl) (by exact (pe_call MD.G (hr.mono (by decide)) rfl MD.g MD.kp MD.b .nil pass0 (by exact (pa_cons (pv 0) (pa_cons pe_int pa_nil))))))
      (pss_cons (ps_if (pt_cmpR op_eq (pv 1) pe_int (nomark _)) (pss_one (ps_ret (pe_ix ix_list (pe_lst (by exact (pa_cons pe_int (pa_cons pe_int (pa_cons (pe_un un_neg pe_int) (pa_cons (pe_un un_neg pe_int) (pa_cons (pe_un un_neg pe_int) (pa_cons pe_int (pa_cons pe_int (pa_cons pe_int (pa_cons (pe_un un_neg pe_int) (pa_cons pe_int pa_nil)))))))))))) (by exact (pe_call MD.G (hr.mono (by decide)) rfl MD.g MD.kp MD.b .nil pass0 (by exact (pa_cons (pv 0) (pa_cons pe_int pa_nil))))) (fun _ _ => rfl)))) pss_nil)
      (pss_cons (ps_if (pt_cmpR op_eq (pv 1) pe_int (nomark _)) (pss_one (ps_ret (pe_ix ix_list (pe_lst (by exact (pa_cons pe_str (pa_cons pe_str (pa_cons pe_str (pa_cons pe_str (pa_cons pe_str (pa_cons pe_str (pa_cons pe_str pa_nil))))))))) (by exact (pe_call MD.G (hr.mono (by decide)) rfl MD.g MD.kp MD.b .nil pass0 (by exact (pa_cons (pv 0) (pa_cons pe_int pa_nil))))) (fun _ _ => rfl)))) pss_nil)
      (pss_cons (ps_if (pt_cmpR op_eq (pv 1) pe_int (nomark _)) (pss_one (ps_ret (pe_op op_sub (by exact (pe_call MD.G (hr.mono (by decide)) rfl MD.g MD.kp MD.b .nil pass0 (by exact (pa_cons (pv 0) (pa_cons pe_int pa_nil))))) pe_int))) pss_nil)
      (pss_cons (ps_set (i := 2) scVal.nd rfl (.inl rfl) pe_int)
      (pss_cons (ps_for PassesOwn.never rfl (pi_range1 (by rfl) gRange (by exact (pa_cons (pe_op op_add pe_int (by exact (pe_call MD.G (hr.mono (by decide)) rfl MD.g MD.kp MD.b .nil pass0 (by exact (pa_cons (pv 0) (pa_cons pe_int pa_nil)))))) pa_nil))) (pg_name (i := 3) scVal.nd rfl (.inl rfl)) (pss_one (ps_set (i := 2) scVal.nd rfl (.inl rfl) (pe_op op_add (pe_op op_mul (pv 2) pe_int) (by exact (pe_call MD.G (hr.mono (by decide)) rfl MD.g MD.kp MD.b .nil pass0 (by exact (pa_cons (pv 0) (pa_cons pe_int pa_nil)))))))))
      (pss_cons (ps_if (pt_cmpR op_eq (by exact (pe_call MD.G (hr.mono (by decide)) rfl MD.g MD.kp MD.b .nil pass0 (by exact (pa_cons (pv 0) (pa_cons pe_int pa_nil))))) pe_int (nomark _)) (pss_one (ps_ret (pe_op op_sub pe_int (pv 2)))) pss_nil)
      (pss_one (ps_ret (pv 2)))))))))), ?_⟩
    refine ⟨_, rfl, p, 4, rfl, hp, by decide, by decide, fun r H1 r0 r1 s1 => ?_⟩
    refine ⟨_, rfl, rfl, _, rfl, iteB (fun _ => ?_) (fun _ => ?_)⟩
    · refine ⟨_, rfl, _, rfl, _, rfl, _, rfl, line_le (n := 10) (m := 1000) (by decide), fun l hl => ?_⟩
      have s2 : PlS p H (upd H1 l (.lst [V.int 1, .int 0, .int (-1), .int (-9), .int (-10), .int 2, .int 9, .int 10, .int (-99), .int 99])) := s1.then (KB.same (KB.refl.new hl))
      refine ⟨_, rfl, p, 10, rfl, s2.pl, by decide, by decide, fun r2 H2 q0 q1 s3 => ?_⟩
      obtain ⟨v, hv, ha⟩ := draw_ix (xs := [V.int 1, .int 0, .int (-1), .int (-9), .int (-10), .int 2, .int 9, .int 10, .int (-99), .int 99]) q0 q1
      refine ⟨l, _, _, _, rfl, rfl, SqL.of (s3.obj upd_same (pl_ne s1.pl hl)), ha, k v H2 (s2.trans s3) ?_⟩
      simp only [List.mem_cons, List.not_mem_nil, or_false] at hv
      rcases hv with rfl | rfl | rfl | rfl | rfl | rfl | rfl | rfl | rfl | rfl <;> rfl
    · refine ⟨_, rfl, rfl, _, rfl, iteB (fun _ => ?_) (fun _ => ?_)⟩
      · refine ⟨line_le (n := 7) (m := 1000) (by decide), fun l hl => ?_⟩
        have s2 : PlS p H (upd H1 l (.lst [V.str "a", .str "z", .str "red", .str "abcdef", .str "any", .str "num", .str "bit"])) := s1.then (KB.same (KB.refl.new hl))
        refine ⟨_, rfl, p, 7, rfl, s2.pl, by decide, by decide, fun r2 H2 q0 q1 s3 => ?_⟩
        obtain ⟨v, hv, ha⟩ := draw_ix (xs := [V.str "a", .str "z", .str "red", .str "abcdef", .str "any", .str "num", .str "bit"]) q0 q1
        refine ⟨l, _, _, _, rfl, rfl, SqL.of (s3.obj upd_same (pl_ne s1.pl hl)), ha, k v H2 (s2.trans s3) ?_⟩
        simp only [List.mem_cons, List.not_mem_nil, or_false] at hv
        rcases hv with rfl | rfl | rfl | rfl | rfl | rfl | rfl <;> rfl
      · refine ⟨_, rfl, rfl, _, rfl, iteB (fun _ => ?_) (fun _ => ?_)⟩
        · exact ⟨_, rfl, p, 200, rfl, s1.pl, by decide, by decide, fun r2 H2 q0 q1 s3 => ⟨_, _, rfl, rfl, k _ H2 (s1.trans s3) rfl⟩⟩
        · refine ⟨_, rfl, p, 8, rfl, s1.pl, by decide, by decide, fun r2 H2 q0 q1 s2 => ⟨_, _, rfl, rfl, _, rfl, by omega, by omega, ?_⟩⟩
          refine for_range (fun i σ' H' => ∃ (num : Int) (o : Option V), σ' = [some (.ref p.1), some (.int r), some (.int num), o] ∧ PlS p H H') ⟨0, _, rfl, s1.trans s2⟩ (fun i σ' H' hi ⟨num, o, e1, e2⟩ => ?_) (fun σ' H' ⟨num, o, e1, e2⟩ => ?_)
          · subst e1
            exact ⟨_, rfl, _, _, rfl, rfl, .inr ⟨by decide, by decide⟩, _, rfl, p, 1000, rfl, e2.pl, by decide, by decide, fun r3 H3 _ _ s3 => ⟨_, _, rfl, rfl, _, _, rfl, e2.trans s3⟩⟩
          · subst e1
            exact ⟨_, rfl, p, 2, rfl, e2.pl, by decide, by decide, fun r3 H3 _ _ s3 => ⟨rfl, _, rfl, iteB (fun _ => ⟨_, rfl, _, _, rfl, rfl, k _ H3 (e2.trans s3) rfl⟩) (fun _ => ⟨_, rfl, k _ H3 (e2.trans s3) rfl⟩)⟩⟩
theorem scCells : FnScope ["_law_pool_here", "_law_places", "_law_k"] ["_law_pool_here"] (defScope sCells) := ⟨rfl, rfl, rfl, by decide +kernel, rfl, by decide +kernel, by decide +kernel⟩
theorem ok_cells {f fD fV : Addr} {fd dD dV : FuncData} (F : Fun K "_law_cells" "_law_cells" sCells f fd) (MD : CallM P w K mg base CX0 2 fD dD "_law_draw" ["_law_pool_here", "_law_limit"] spDraw) (MV : CallM P w K mg base CX0 3 fV dV "_law_value" ["_law_pool_here"] spVal4) (gRange : mg "range" = none) : FnOk P w K mg base CX0 4 f fd ["_law_pool_here"] (spCells K) := by
  refine F.ok scCells (fun vs H Q E h => ?_) (fun cdv A outer s H vs Q E hr h => ?_)
  · obtain ⟨p, rfl, _⟩ := h
    rfl
  · obtain ⟨p, rfl, hp, k⟩ := h
    refine ⟨_, (pss_cons (ps_set (i := 1) scCells.nd rfl (.inl rfl) (pe_lst pa_nil))
      (pss_cons (ps_for PassesOwn.never rfl (pi_range1 (by rfl) gRange (by exact (pa_cons (pe_op op_add pe_int (by exact (pe_call MD.G (hr.mono (by decide)) rfl MD.g MD.kp MD.b .nil pass0 (by exact (pa_cons (pv 0) (pa_cons pe_int pa_nil)))))) pa_nil))) (pg_name (i := 2) scCells.nd rfl (.inl rfl)) (pss_one (ps_expr (by exact (pe_bm PySem.F.plainAttrs_list PySem.F.slot_list_append PySem.F.type_list_append mt_append (pv 1) (by exact (pa_cons (pe_tup (by exact (pa_cons (pe_ix ix_list (pe_lst (by exact (pa_cons pe_str (pa_cons pe_str (pa_cons pe_str (pa_cons pe_str pa_nil)))))) (pv 2) (fun _ _ => rfl)) (pa_cons (by exact (pe_call MV.G (hr.mono (by decide)) rfl MV.g MV.kp MV.b .nil pass0 (by exact (pa_cons (pv 0) pa_nil)))) pa_nil)))) pa_nil)))))))
      (pss_one (ps_ret (pv 1))))), ?_⟩
    refine ⟨by simp, fun l hl => ?_⟩
    have lp := pl_ne hp hl
    have s0 : PlS p H (upd H l (.lst [])) := .same hp (KB.same (KB.refl.new hl))
    refine ⟨_, rfl, p, 4, rfl, s0.pl, by decide, by decide, fun r H1 r0 r1 s1 => ⟨_, _, rfl, rfl, _, rfl, by omega, by omega, ?_⟩⟩
    have s1' := s0.trans s1
    refine for_range (fun i σ' H' => ∃ (o : Option V) (ps : List (Str × V)) (rs : List Addr), σ' = [some (.ref p.1), some (.ref l), o] ∧ PlS p H H' ∧ H' l = some (.lst (rs.map V.ref)) ∧ Paired (fun t q => H' t = some (.tup [.str q.1, q.2])) rs ps ∧ ps.length = i ∧ keys ps = pNames.take i ∧ ∀ q ∈ ps, scal4 q.2 = true)
      ⟨_, [], [], rfl, s1', s1.obj upd_same lp, .nil, rfl, rfl, fun q hq => by cases hq⟩ (fun i σ' H' hi ⟨o, ps, rs, e1, e2, e3, e4, e5, e6, e7⟩ => ?_) (fun σ' H' ⟨o, ps, rs, e1, e2, e3, e4, e5, e6, e7⟩ => ?_)
    · subst e1
      have hi4 : i < 4 := by omega
      have e0 : (0 : Int) + (i : Int) = (i : Int) := Int.zero_add _
      rw [e0]
      refine ⟨_, rfl, .inl ⟨rfl, _, SqL.of e3⟩, line_le (n := 4) (m := 1000) (by decide), fun q hq => ?_⟩
      obtain ⟨x, hx, hxi⟩ : ∃ x : Str, (pNames.map V.str)[i]? = some (.str x) ∧ pNames.take (i + 1) = pNames.take i ++ [x] := by
        have : i = 0 ∨ i = 1 ∨ i = 2 ∨ i = 3 := by omega
        rcases this with rfl | rfl | rfl | rfl <;> exact ⟨_, rfl, rfl⟩
      have s3 : PlS p H (upd H' q (.lst (pNames.map V.str))) := e2.then (KB.same (KB.refl.new hq))
      refine ⟨_, rfl, q, pNames.map V.str, _, _, rfl, rfl, SqL.of upd_same, atI_nat hx, _, rfl, p, rfl, s3.pl, fun v H2 s4 hv => ⟨line_le (n := 2) (m := 1000) (by decide), fun T hT => ?_⟩⟩
      have k4 : ∀ b o, H' b = some o → b ≠ p.1 → upd H2 T (.tup [.str x, v]) b = some o := fun b o h n => by
        have h1 : upd H' q (.lst (pNames.map V.str)) b = some o := by rw [upd_ne (ne_of_none h hq)]; exact h
        have h2 := s4.obj h1 n
        rw [upd_ne (ne_of_none h2 hT)]; exact h2
      have hl4 := k4 l _ e3 lp
      refine ⟨l, _, _, rfl, rfl, hl4, ?_, ?_⟩
      · refine fits_line (m := 900) ?_
        rw [List.length_map, Paired.length e4]
        omega
      · have s5 := (s3.trans s4).then (KB.same (KB.refl.new (o := .tup [.str x, v]) hT))
        have nl : ∀ t q, H' t = some (.tup q) → t ≠ l := fun t q h e => by rw [e, e3] at h; cases h
        have np : ∀ t q, H' t = some (.tup q) → t ≠ p.1 := fun t q h e => by
          obtain ⟨_, _, _, _, _, h1, _⟩ := e2.pl
          rw [e, h1] at h; cases h
        have Tl : T ≠ l := fun e => by
          have := s4.obj (show upd H' q (.lst (pNames.map V.str)) l = some _ by rw [upd_ne (ne_of_none e3 hq)]; exact e3) lp
          rw [← e, hT] at this; cases this
        refine ⟨_, ps ++ [(x, v)], rs ++ [T], rfl, ?_, ?_, ?_, by simp [e5], ?_, fun q' hq' => ?_⟩
        · refine ⟨fun b o hb nb => ?_, ?_⟩
          · have h1 := s5.kb b o hb nb
            rw [upd_ne (ne_of_none hb hl)]; exact h1
          · obtain ⟨ns, a, b, c, d, h1, h2, h3⟩ := s5.pl
            exact ⟨ns, a, b, c, d, by rw [upd_ne (Ne.symm lp)]; exact h1, by rw [upd_ne (Ne.symm (pl_ne2 hp hl))]; exact h2, h3⟩
        · rw [upd_same, List.map_append]; rfl
        · refine paired_app (Paired.mapP e4 fun t q' h => ?_) (.cons ?_ .nil)
          · rw [upd_ne (nl t _ h)]; exact k4 t _ h (np t _ h)
          · rw [upd_ne Tl]; exact upd_same
        · rw [keys_app, e6, hxi]; rfl
        · rcases List.mem_append.mp hq' with h | h
          · exact e7 q' h
          · rw [List.mem_singleton.mp h]; exact hv
    · subst e1
      have hn : (1 + r).toNat ≤ 4 ∧ 0 < (1 + r).toNat := by omega
      refine ⟨_, rfl, k l ps H' e2 hl ⟨by omega, by omega, by rw [e5]; exact e6, e7⟩ ⟨rs, SqL.of e3, Paired.mapP e4 fun t q h => SqT.of h⟩⟩
theorem scKey : FnScope ["_law_pool_here", "_law_made"] ["_law_pool_here", "_law_made"] (defScope sKey) := ⟨rfl, rfl, rfl, by decide +kernel, rfl, by decide +kernel, by decide +kernel⟩
theorem ok_key {f fD : Addr} {fd dD : FuncData} (F : Fun K "_law_key" "_law_key" sKey f fd) (MD : CallM P w K mg base CX0 2 fD dD "_law_draw" ["_law_pool_here", "_law_limit"] spDraw) (gStr : mg "str" = none) : FnOk P w K mg base CX0 3 f fd ["_law_pool_here", "_law_made"] spKey := by
  refine F.ok scKey (fun vs H Q E h => ?_) (fun cdv A outer s H vs Q E hr h => ?_)
  · obtain ⟨p, n, rfl, _⟩ := h
    rfl
  · obtain ⟨p, n, rfl, hp, hn, k⟩ := h
    refine ⟨_, (pss_cons (ps_if (pt_cmpR op_eq (by exact (pe_call MD.G (hr.mono (by decide)) rfl MD.g MD.kp MD.b .nil pass0 (by exact (pa_cons (pv 0) (pa_cons pe_int pa_nil))))) pe_int (nomark _)) (pss_one (ps_ret (pe_op op_add_str (pe_op op_add_str pe_str (pe_callTy call_str_int (by rfl) gStr (by decide +kernel) (by exact (pa_cons (pv 1) pa_nil)))) pe_str))) pss_nil)
      (pss_one (ps_ret (pe_op op_add_str pe_str (pe_callTy call_str_int (by rfl) gStr (by decide +kernel) (by exact (pa_cons (pv 1) pa_nil))))))), ?_⟩
    have lg : ((n : Nat) : Int).natAbs.log2 < 1920 := Nat.lt_of_le_of_lt (Nat.log2_le_self _) (by omega)
    have l1 : ∀ m : Fin 30, ("0.1:" : Str).length + (Str.ofString (toString ((m.val : Nat) : Int))).length ≤ 1000 ∧ (("0.1:" : Str) ++ Str.ofString (toString ((m.val : Nat) : Int))).length + (".p" : Str).length ≤ 1000 ∧ ("k" : Str).length + (Str.ofString (toString ((m.val : Nat) : Int))).length ≤ 1000 := by decide +kernel
    obtain ⟨a1, a2, a3⟩ := l1 ⟨n, hn⟩
    refine ⟨_, rfl, p, 2, rfl, hp, by decide, by decide, fun r H' r0 r1 s1 => ⟨rfl, _, rfl, iteB (fun _ => ?_) (fun _ => ?_)⟩⟩
    · exact ⟨_, rfl, _, rfl, lg, _, _, rfl, rfl, line_le a1, _, _, rfl, rfl, line_le a2, k true H' s1⟩
    · exact ⟨_, rfl, _, rfl, lg, _, _, rfl, rfl, line_le a3, k false H' s1⟩
end
end Qk

/-! part W4 -/
set_option Elab.async false
set_option linter.all false
set_option maxRecDepth 100000
set_option maxHeartbeats 4000000
namespace Qk
open PySem PySem.Spec L2
open PyProof.Rows hiding St
/-! ### the law's own store -/
abbrev sStore : Stmt := top 33
abbrev sRoot : Stmt := top 34
abbrev sHeld : Stmt := top 35
abbrev sPut : Stmt := top 36
abbrev sTouch : Stmt := top 39
/-- where it stands -/
structure LS where
  s : Addr
  v : Addr
  h : Addr
  t : Addr
  r : Addr
def LS.fp (z : LS) : List Addr := [z.s, z.v, z.h, z.t, z.r]
structure LS.At (z : LS) (H : Hp) (L : Lw) : Prop where
  ob : ∃ k, H z.s = some (.lst [.ref z.v, .ref z.h, .ref z.t, .ref z.r, .ref k]) ∧ H k = some (.lst (L.ks.map V.str)) ∧ k ≠ z.s
  va : H z.v = some (.dK (kvOf id L.ps))
  hd : H z.h = some (.dK (kvOf id L.hd))
  tg : H z.t = some (.dK (kvOf V.str L.tg))
  rt : H z.r = some (.dK (kvOf V.str L.rt))
  n1 : z.v ≠ z.h
  n2 : z.v ≠ z.t
  n3 : z.v ≠ z.r
  n4 : z.h ≠ z.t
  n5 : z.h ≠ z.r
  n6 : z.t ≠ z.r
theorem LS.At.keep {z : LS} {H H' : Hp} {L : Lw} (A : z.At H L) (k : Same H H') : z.At H' L := by
  obtain ⟨q, h1, h2, h3⟩ := A.ob
  exact ⟨⟨q, k _ _ h1, k _ _ h2, h3⟩, k _ _ A.va, k _ _ A.hd, k _ _ A.tg, k _ _ A.rt, A.n1, A.n2, A.n3, A.n4, A.n5, A.n6⟩
structure Lw.Sm (L : Lw) : Prop where
  p : L.ps.length ≤ 900
  h : L.hd.length ≤ 900
  t : L.tg.length ≤ 900
  r : L.rt.length ≤ 900
  k : L.ks.length ≤ 900
def spStore (K : PySem.W.Frag) : Sp := fun vs H Q _ => ∃ (a : Addr) (ps : List (Str × V)), vs = [.ref a] ∧ PlcAt K H a ps ∧ (keys ps).Nodup ∧ ps.length ≤ 4 ∧ ∀ (z : LS) H', Same H H' → z.At H' (Lw.init ps) → (∀ b ∈ z.fp, H b = none) → Q (.ref z.s) H'
def spRoot : Sp := fun vs H Q _ => ∃ (z : LS) (L : Lw) (c : Str), vs = [.ref z.s, .str c] ∧ z.At H L ∧ (c ∈ keys L.ps ∨ c ∈ keys L.rt) ∧ Q (.str (L.root c)) H
def spHeld : Sp := fun vs H Q _ => ∃ (z : LS) (L : Lw) (c : Str), vs = [.ref z.s, .str c, .bl false] ∧ z.At H L ∧ (c ∈ keys L.ps ∨ c ∈ keys L.rt) ∧ L.root c ∈ keys L.ps ∧ Q (L.val c) H
def spPut : Sp := fun vs H Q _ => ∃ (z : LS) (L : Lw) (c : Str) (v : V), vs = [.ref z.s, .str c, v, .bl false] ∧ z.At H L ∧ L.Sm ∧ (c ∈ keys L.ps ∨ c ∈ keys L.rt) ∧ ∀ H', KB z.fp H H' → z.At H' (L.step (.wr c v)) → Q .non H'
section
variable {P : Program} {w : World} {K : PySem.W.Frag} {mg : Str → Option Value} {base : Heap}
theorem scStore : FnScope ["_law_places", "_law_values", "_law_place"] ["_law_places"] (defScope sStore) := ⟨rfl, rfl, rfl, by decide +kernel, rfl, by decide +kernel, by decide +kernel⟩
theorem ok_store {f : Addr} {fd : FuncData} (F : Fun K "_law_store" "_law_store" sStore f fd) : FnOk P w K mg base CX0 1 f fd ["_law_places"] (spStore K) := by
  refine F.ok scStore (fun vs H Q E h => ?_) (fun cdv A outer s H vs Q E hr h => ?_)
  · obtain ⟨a, ps, rfl, _⟩ := h
    rfl
  · obtain ⟨a, ps, rfl, ⟨rs, hL, hP⟩, hnd, hpl, k⟩ := h
    have hu := hu_of hr
    refine ⟨_, (pss_cons (ps_set (i := 1) scStore.nd rfl (.inl rfl) pe_dnewK)
      (pss_cons (ps_for PassesOwn.never rfl (pi_list (pv 0)) (pg_name (i := 2) scStore.nd rfl (.inl rfl)) (pss_one (ps_dput hu (pv 1) (pe_ix ix_tup (pv 2) pe_int (fun _ _ => rfl)) (pe_ix ix_tup (pv 2) pe_int (fun _ _ => rfl)) rfl)))
      (pss_one (ps_ret (pe_lst (by exact (pa_cons (pv 1) (pa_cons pe_dnewK (pa_cons pe_dnewK (pa_cons pe_dnewK (pa_cons (pe_lst pa_nil) pa_nil))))))))))), ?_⟩
    have hl : rs.length = ps.length := Paired.length hP
    refine fun v hv => ?_
    refine ⟨_, rfl, a, rfl, ⟨_, (KB.same (KB.refl.new hv)).seq hL⟩, ?_⟩
    refine for_list (K := K) (a := a) (xs := rs.map V.ref) (fun i σ H2 => ∃ o : Option V, σ = [some (.ref a), some (.ref v), o] ∧ H2 v = some (.dK (kvOf id (ps.take i))) ∧ KB [v] H H2) ⟨_, rfl, upd_same, KB.refl.upd (by simp)⟩ ?_ ?_ ?_
    · rintro i σ' H' hi ⟨o, rfl, e1, kb⟩
      exact (kb.clean fun b hb => by rw [List.mem_singleton.mp hb]; exact hv).seq hL
    · rintro i x σ' H' hx ⟨o, rfl, e1, kb⟩
      rw [List.getElem?_map] at hx
      cases et : rs[i]? with
      | none => rw [et] at hx; cases hx
      | some t =>
        rw [et] at hx
        cases hx
        obtain ⟨q, hq, hT⟩ := paired_get hP et
        have hi : i < ps.length := (List.getElem?_eq_some_iff.mp hq).1
        have hT' : SqT K H' t [.str q.1, q.2] := sameT (kb.clean fun b hb => by rw [List.mem_singleton.mp hb]; exact hv) hT
        have e2 : aput (ps.take i) q.1 q.2 = ps.take (i + 1) := by
          rw [take_next hq, aput_new]
          intro hm
          have e3 : keys ps = keys (ps.take (i + 1)) ++ keys (ps.drop (i + 1)) := by rw [← keys_app, List.take_append_drop]
          rw [e3, take_next hq, keys_app] at hnd
          have h1 := (List.nodup_append.mp hnd).1
          exact (List.nodup_append.mp h1).2.2 _ hm _ (List.mem_singleton.mpr rfl) rfl
        refine ⟨_, rfl, t, _, _, _, rfl, rfl, hT', atI_nat (j := 1) rfl, _, rfl, _, rfl, t, _, _, _, rfl, rfl, hT', atI_nat (j := 0) rfl, v, _, rfl, DPut.k (k := Sum.inr q.1) e1 (by rw [kv_len, List.length_take]; exact fits_line (m := 900) (by omega)), _, rfl, ?_, kb.upd (by simp)⟩
        rw [upd_same, kv_putId, e2]
    · rintro σ' H' ⟨o, rfl, e1, kb⟩
      rw [List.length_map, hl, List.take_length] at e1
      have s1 : Same H H' := kb.clean fun b hb => by rw [List.mem_singleton.mp hb]; exact hv
      refine ⟨_, rfl, fun h hh t ht r hr' => ⟨by simp, fun q hq => ⟨line_le (n := 5) (m := 1000) (by decide), fun s hs => ?_⟩⟩⟩
      have n1 : v ≠ h := ne_of_none e1 hh
      have ev2 : upd H' h (.dK []) v = some (.dK (kvOf id ps)) := by rw [upd_ne n1]; exact e1
      have n2 : v ≠ t := ne_of_none ev2 ht
      have n4 : h ≠ t := ne_of_none (H := upd H' h (.dK [])) upd_same ht
      have ev3 : upd (upd H' h (.dK [])) t (.dK []) v = some (.dK (kvOf id ps)) := by rw [upd_ne n2]; exact ev2
      have eh3 : upd (upd H' h (.dK [])) t (.dK []) h = some (.dK []) := by rw [upd_ne n4]; exact upd_same
      have n3 : v ≠ r := ne_of_none ev3 hr'
      have n5 : h ≠ r := ne_of_none eh3 hr'
      have n6 : t ≠ r := ne_of_none (H := upd (upd H' h (.dK [])) t (.dK [])) upd_same hr'
      have s4 : Same H (upd (upd (upd H' h (.dK [])) t (.dK [])) r (.dK [])) := KB.same ((((KB.ofSame s1).new hh).new ht).new hr')
      have ev4 : upd (upd (upd H' h (.dK [])) t (.dK [])) r (.dK []) v = some (.dK (kvOf id ps)) := by rw [upd_ne n3]; exact ev3
      have eh4 : upd (upd (upd H' h (.dK [])) t (.dK [])) r (.dK []) h = some (.dK []) := by rw [upd_ne n5]; exact eh3
      have et4 : upd (upd (upd H' h (.dK [])) t (.dK [])) r (.dK []) t = some (.dK []) := by rw [upd_ne n6]; exact upd_same
      have er4 : upd (upd (upd H' h (.dK [])) t (.dK [])) r (.dK []) r = some (.dK []) := upd_same
      have hr0 : H r = none := none_of_same (KB.same (((KB.ofSame s1).new hh).new ht)) hr'
      have ht0 : H t = none := none_of_same (KB.same ((KB.ofSame s1).new hh)) ht
      generalize upd (upd (upd H' h (.dK [])) t (.dK [])) r (.dK []) = H4 at *
      have s6 : Same H4 (upd (upd H4 q (.lst [])) s (.lst [.ref v, .ref h, .ref t, .ref r, .ref q])) := KB.same ((KB.refl.new hq).new hs)
      have nqs : q ≠ s := ne_of_none (H := upd H4 q (.lst [])) upd_same hs
      refine k ⟨s, v, h, t, r⟩ _ (fun b o e => s6 _ _ (s4 _ _ e)) ⟨⟨q, upd_same, by rw [upd_ne nqs]; exact upd_same, nqs⟩, s6 _ _ ev4, s6 _ _ eh4, s6 _ _ et4, s6 _ _ er4, n1, n2, n3, n4, n5, n6⟩ (fun b hb => ?_)
      simp only [LS.fp, List.mem_cons, List.not_mem_nil, or_false] at hb
      rcases hb with rfl | rfl | rfl | rfl | rfl
      · exact none_of_same (KB.same ((KB.ofSame s4).new hq)) hs
      · exact hv
      · exact none_of_same s1 hh
      · exact ht0
      · exact hr0
theorem scRoot : FnScope ["_law_store_here", "_law_spot"] ["_law_store_here", "_law_spot"] (defScope sRoot) := ⟨rfl, rfl, rfl, by decide +kernel, rfl, by decide +kernel, by decide +kernel⟩
theorem ok_root {f : Addr} {fd : FuncData} (F : Fun K "_law_root" "_law_root" sRoot f fd) : FnOk P w K mg base CX0 1 f fd ["_law_store_here", "_law_spot"] spRoot := by
  refine F.ok scRoot (fun vs H Q E h => ?_) (fun cdv A outer s H vs Q E hr h => ?_)
  · obtain ⟨z, L, c, rfl, _⟩ := h
    rfl
  · obtain ⟨z, L, c, rfl, A1, hc, k⟩ := h
    have hu := hu_of hr
    refine ⟨_, (pss_cons (ps_if (pt_cmp (pc_din hu (pv 1) (pe_ix ix_list (pv 0) pe_int (fun _ _ => rfl)))) (pss_one (ps_ret (pv 1))) pss_nil)
      (pss_one (ps_ret (pe_dget hu (pe_ix ix_list (pv 0) pe_int (fun _ _ => rfl)) (pv 1) (fun _ _ => rfl))))), ?_⟩
    obtain ⟨q, ob, _⟩ := A1.ob
    refine ⟨_, rfl, _, rfl, z.s, _, _, _, rfl, rfl, SqL.of ob, atI_nat (j := 0) rfl, z.v, _, rfl, DGet.k (k := Sum.inr c) A1.va, _, rfl, ?_⟩
    rw [kv_val, Option.isSome_map]
    unfold Lw.root at k
    by_cases e : c ∈ keys L.ps
    · rw [if_pos e] at k
      exact if_true_of (aget_isSome.mpr e) ⟨_, rfl, k⟩
    · rw [if_neg e] at k
      obtain ⟨r, er⟩ := aget_of_mem (hc.resolve_left e)
      rw [er] at k
      refine if_false_of (by rw [aget_none_iff.mpr e]; rfl) ?_
      exact ⟨_, rfl, z.s, _, _, _, rfl, rfl, SqL.of ob, atI_nat (j := 3) rfl, _, rfl, z.r, _, rfl, (by have y := DGet.k (k := Sum.inr c) A1.rt; rw [kv_val, er] at y; exact y), k⟩
theorem scHeld : FnScope ["_law_store_here", "_law_spot", "_law_copies"] ["_law_store_here", "_law_spot", "_law_copies"] (defScope sHeld) := ⟨rfl, rfl, rfl, by decide +kernel, rfl, by decide +kernel, by decide +kernel⟩
theorem ok_held {f fR : Addr} {fd dR : FuncData} (F : Fun K "_law_held" "_law_held" sHeld f fd) (MR : CallM P w K mg base CX0 1 fR dR "_law_root" ["_law_store_here", "_law_spot"] spRoot) : FnOk P w K mg base CX0 2 f fd ["_law_store_here", "_law_spot", "_law_copies"] spHeld := by
  refine F.ok scHeld (fun vs H Q E h => ?_) (fun cdv A outer s H vs Q E hr h => ?_)
  · obtain ⟨z, L, c, rfl, _⟩ := h
    rfl
  · obtain ⟨z, L, c, rfl, A1, hc, hroot, k⟩ := h
    have hu := hu_of hr
    refine ⟨_, (pss_cons (ps_if (PW.pt (pw_and (pt_val (pv 2)) (pw_and1 (pt_cmp (pc_din hu (pv 1) (pe_ix ix_list (pv 0) pe_int (fun _ _ => rfl))))))) (pss_one (ps_ret (pe_dget hu (pe_ix ix_list (pv 0) pe_int (fun _ _ => rfl)) (pv 1) (fun _ _ => rfl)))) pss_nil)
      (pss_one (ps_ret (pe_dget hu (pe_ix ix_list (pv 0) pe_int (fun _ _ => rfl)) (by exact (pe_call MR.G (hr.mono (by decide)) rfl MR.g MR.kp MR.b .nil pass0 (by exact (pa_cons (pv 0) (pa_cons (pv 1) pa_nil))))) (fun _ _ => rfl))))), ?_⟩
    obtain ⟨q, ob, _⟩ := A1.ob
    refine ⟨_, rfl, _, rfl, if_false_of rfl (if_false_of rfl ?_)⟩
    obtain ⟨v, ev⟩ := aget_of_mem hroot
    have e : L.val c = v := by unfold Lw.val; rw [ev]; rfl
    rw [e] at k
    exact ⟨_, rfl, z.s, _, _, _, rfl, rfl, SqL.of ob, atI_nat (j := 0) rfl, _, rfl, _, rfl, z, L, c, rfl, A1, hc, z.v, v, rfl, (by have y := DGet.k (k := Sum.inr (L.root c)) A1.va; rw [kv_val, ev] at y; exact y), k⟩
theorem scPut : FnScope ["_law_store_here", "_law_spot", "_law_value_here", "_law_copies", "_law_held_here", "_law_values"] ["_law_store_here", "_law_spot", "_law_value_here", "_law_copies"] (defScope sPut) := ⟨rfl, rfl, rfl, by decide +kernel, rfl, by decide +kernel, by decide +kernel⟩
theorem ok_put {f fR : Addr} {fd dR : FuncData} (F : Fun K "_law_put" "_law_put" sPut f fd) (MR : CallM P w K mg base CX0 1 fR dR "_law_root" ["_law_store_here", "_law_spot"] spRoot) : FnOk P w K mg base CX0 2 f fd ["_law_store_here", "_law_spot", "_law_value_here", "_law_copies"] spPut := by
  refine F.ok scPut (fun vs H Q E h => ?_) (fun cdv A outer s H vs Q E hr h => ?_)
  · obtain ⟨z, L, c, v, rfl, _⟩ := h
    rfl
  · obtain ⟨z, L, c, v, rfl, A1, sm, hc, k⟩ := h
    have hu := hu_of hr
    refine ⟨_, (pss_one (ps_if (PW.pt (pw_and (pt_val (pv 3)) (pw_and1 (pt_cmp (pc_din hu (pv 1) (pe_ix ix_list (pv 0) pe_int (fun _ _ => rfl))))))) (pss_cons (ps_set (i := 4) scPut.nd rfl (.inl rfl) (pe_ix ix_list (pv 0) pe_int (fun _ _ => rfl)))
      (pss_one (ps_dput hu (pv 4) (pv 1) (pv 2) rfl))) (pss_cons (ps_set (i := 5) scPut.nd rfl (.inl rfl) (pe_ix ix_list (pv 0) pe_int (fun _ _ => rfl)))
      (pss_one (ps_dput hu (pv 5) (by exact (pe_call MR.G (hr.mono (by decide)) rfl MR.g MR.kp MR.b .nil pass0 (by exact (pa_cons (pv 0) (pa_cons (pv 1) pa_nil))))) (pv 2) rfl))))), ?_⟩
    obtain ⟨q, ob, okk, oks⟩ := A1.ob
    refine ⟨_, rfl, _, rfl, if_false_of rfl (if_false_of rfl ?_)⟩
    refine ⟨_, rfl, z.s, _, _, _, rfl, rfl, SqL.of ob, atI_nat (j := 0) rfl, ?_⟩
    refine ⟨_, rfl, _, rfl, _, rfl, _, rfl, z, L, c, rfl, A1, hc, z.v, _, rfl, DPut.k (k := Sum.inr (L.root c)) A1.va (by rw [kv_len]; exact fits_line sm.p), ?_⟩
    have es : z.s ≠ z.v := ne_of ob A1.va (by intro y; cases y)
    have ek : q ≠ z.v := ne_of okk A1.va (by intro y; cases y)
    exact k _ (KB.refl.upd (by simp [LS.fp])) ⟨⟨q, by rw [upd_ne es]; exact ob, by rw [upd_ne ek]; exact okk, oks⟩, by rw [upd_same, kv_putId]; rfl, by rw [upd_ne A1.n1.symm]; exact A1.hd, by rw [upd_ne A1.n2.symm]; exact A1.tg, by rw [upd_ne A1.n3.symm]; exact A1.rt, A1.n1, A1.n2, A1.n3, A1.n4, A1.n5, A1.n6⟩
theorem scTouch : FnScope ["_law_deed"] ["_law_deed"] (defScope sTouch) := ⟨rfl, rfl, rfl, by decide +kernel, rfl, by decide +kernel, by decide +kernel⟩
theorem ok_touch {f : Addr} {fd : FuncData} (F : Fun K "_law_touch" "_law_touch" sTouch f fd) : FnOk P w K mg base CX0 1 f fd ["_law_deed"] (spCell K) := by
  refine F.ok scTouch (fun vs H Q E h => ?_) (fun cdv A outer s H vs Q E hr h => ?_)
  · obtain ⟨t, d, rfl, _⟩ := h
    rfl
  · obtain ⟨t, d, rfl, hT, k⟩ := h
    refine ⟨_, (pss_cons (ps_if (pt_cmpR op_eq (pe_ix ix_tup (pv 0) pe_int (fun _ _ => rfl)) pe_str (nomark _)) (pss_one (ps_ret (pe_ix ix_tup (pv 0) pe_int (fun _ _ => rfl)))) pss_nil)
      (pss_one (ps_ret (pe_ix ix_tup (pv 0) pe_int (fun _ _ => rfl))))), ?_⟩
    cases d with
    | bg kk tt =>
      refine ⟨_, rfl, t, _, _, _, rfl, rfl, hT, rfl, rfl, _, rfl, if_true_of (by decide +kernel) ?_⟩
      exact ⟨_, rfl, t, _, _, _, rfl, rfl, hT, rfl, k⟩
    | rd c =>
      refine ⟨_, rfl, t, _, _, _, rfl, rfl, hT, rfl, rfl, _, rfl, if_false_of (by decide +kernel) ?_⟩
      exact ⟨_, rfl, t, _, _, _, rfl, rfl, hT, rfl, k⟩
    | wr c v =>
      refine ⟨_, rfl, t, _, _, _, rfl, rfl, hT, rfl, rfl, _, rfl, if_false_of (by decide +kernel) ?_⟩
      exact ⟨_, rfl, t, _, _, _, rfl, rfl, hT, rfl, k⟩
    | ov c =>
      refine ⟨_, rfl, t, _, _, _, rfl, rfl, hT, rfl, rfl, _, rfl, if_false_of (by decide +kernel) ?_⟩
      exact ⟨_, rfl, t, _, _, _, rfl, rfl, hT, rfl, k⟩
end
end Qk

/-! part W5 -/
set_option Elab.async false
set_option linter.all false
set_option maxRecDepth 100000
set_option maxHeartbeats 4000000
namespace Qk
open PySem PySem.Spec L2
open PyProof.Rows hiding St
abbrev sLDo : Stmt := top 37
abbrev sLOn : Stmt := top 40
/-- the deed can be done in the law's store -/
def LFit (L : Lw) : Dd → Prop
  | .rd c => (c ∈ keys L.ps ∨ c ∈ keys L.rt) ∧ L.root c ∈ keys L.ps
  | .wr c _ => c ∈ keys L.ps ∨ c ∈ keys L.rt
  | .bg _ t => (t ∈ keys L.ps ∨ t ∈ keys L.rt) ∧ L.root t ∈ keys L.ps
  | .ov k => k ∈ keys L.hd ∧ k ∈ keys L.tg
theorem Sim.lfit {S : Sto} {L : Lw} (ok : S.Ok) (s : Sim S L) {d : Dd} (h : S.fits d = true) : LFit L d := by
  have sp : ∀ c, S.spot c → (c ∈ keys L.ps ∨ c ∈ keys L.rt) ∧ L.root c ∈ keys L.ps := fun c hc => by
    refine ⟨?_, by rw [s.root ok hc, s.ps]; exact Sto.rootD_in ok hc⟩
    rcases (Sto.root_some ok).mp hc with h | h
    · rw [s.ps]; exact .inl h
    · refine .inr (aget_isSome.mp ?_)
      rw [s.rt c h]
      exact aget_isSome.mpr (by rw [← ok.same]; exact h)
  cases d with
  | bg k t => exact sp t (Sto.fits_bg h).2.2
  | rd c => exact sp c h
  | wr c v => exact (sp c h).1
  | ov k =>
    have hk : k ∈ keys S.tg := of_decide_eq_true h
    exact ⟨s.hd k hk, aget_isSome.mp (by rw [s.tg k hk]; exact aget_isSome.mpr hk)⟩
theorem none_of_KB {F : List Addr} {H H' : Hp} {p : Addr} (k : KB F H H') (hF : ∀ b ∈ F, H' b ≠ none) (e : H' p = none) : H p = none := by
  cases q : H p with
  | none => rfl
  | some o =>
    have := k p o q fun hm => hF p hm e
    rw [e] at this; cases this
theorem LS.At.live {z : LS} {H : Hp} {L : Lw} (A : z.At H L) : ∀ b ∈ z.fp, H b ≠ none := fun b hb => by
  obtain ⟨q, ob, _⟩ := A.ob
  simp only [LS.fp, List.mem_cons, List.not_mem_nil, or_false] at hb
  rcases hb with rfl | rfl | rfl | rfl | rfl
  · rw [ob]; exact fun z => nomatch z
  · rw [A.va]; exact fun z => nomatch z
  · rw [A.hd]; exact fun z => nomatch z
  · rw [A.tg]; exact fun z => nomatch z
  · rw [A.rt]; exact fun z => nomatch z
theorem sqT_upd {K : PySem.W.Frag} {H : Hp} {t b : Addr} {xs : List V} {o u : HO} (h : SqT K H t xs) (hb : H b = some u) (hu : ∀ ys, u ≠ .tup ys) (hf : ∀ o v, u ≠ .frz o v) : SqT K (upd H b o) t xs := by
  rcases h with (h | ⟨o', h⟩) | h
  · exact .inl (.inl (by rw [upd_ne (ne_of h hb (hu xs).symm)]; exact h))
  · exact .inl (.inr ⟨o', by rw [upd_ne (ne_of h hb (hf o' _).symm)]; exact h⟩)
  · exact .inr h
theorem LS.At.putH {z : LS} {H : Hp} {L : Lw} {x : List (Str × V)} {kvs : List (Key × V)} (A : z.At H L) (e : kvs = kvOf id x) : z.At (upd H z.h (.dK kvs)) { L with hd := x } := by
  obtain ⟨q, ob, ok, oks⟩ := A.ob
  have es : z.s ≠ z.h := ne_of ob A.hd (by intro y; cases y)
  have ek : q ≠ z.h := ne_of ok A.hd (by intro y; cases y)
  exact ⟨⟨q, by rw [upd_ne es]; exact ob, by rw [upd_ne ek]; exact ok, oks⟩, by rw [upd_ne A.n1]; exact A.va, by rw [upd_same, e], by rw [upd_ne A.n4.symm]; exact A.tg, by rw [upd_ne A.n5.symm]; exact A.rt, A.n1, A.n2, A.n3, A.n4, A.n5, A.n6⟩
theorem LS.At.putT {z : LS} {H : Hp} {L : Lw} {x : List (Str × Str)} {kvs : List (Key × V)} (A : z.At H L) (e : kvs = kvOf V.str x) : z.At (upd H z.t (.dK kvs)) { L with tg := x } := by
  obtain ⟨q, ob, ok, oks⟩ := A.ob
  have es : z.s ≠ z.t := ne_of ob A.tg (by intro y; cases y)
  have ek : q ≠ z.t := ne_of ok A.tg (by intro y; cases y)
  exact ⟨⟨q, by rw [upd_ne es]; exact ob, by rw [upd_ne ek]; exact ok, oks⟩, by rw [upd_ne A.n2]; exact A.va, by rw [upd_ne A.n4]; exact A.hd, by rw [upd_same, e], by rw [upd_ne A.n6.symm]; exact A.rt, A.n1, A.n2, A.n3, A.n4, A.n5, A.n6⟩
theorem LS.At.putR {z : LS} {H : Hp} {L : Lw} {x : List (Str × Str)} {kvs : List (Key × V)} (A : z.At H L) (e : kvs = kvOf V.str x) : z.At (upd H z.r (.dK kvs)) { L with rt := x } := by
  obtain ⟨q, ob, ok, oks⟩ := A.ob
  have es : z.s ≠ z.r := ne_of ob A.rt (by intro y; cases y)
  have ek : q ≠ z.r := ne_of ok A.rt (by intro y; cases y)
  exact ⟨⟨q, by rw [upd_ne es]; exact ob, by rw [upd_ne ek]; exact ok, oks⟩, by rw [upd_ne A.n3]; exact A.va, by rw [upd_ne A.n5]; exact A.hd, by rw [upd_ne A.n6]; exact A.tg, by rw [upd_same, e], A.n1, A.n2, A.n3, A.n4, A.n5, A.n6⟩
/-- a new list of keys stands in the store -/
theorem LS.At.putK {z : LS} {H : Hp} {L : Lw} {p : Addr} {x : List Str} (A : z.At H L) (hp : H p = some (.lst (x.map V.str))) (np : p ≠ z.s) : z.At (upd H z.s (.lst [.ref z.v, .ref z.h, .ref z.t, .ref z.r, .ref p])) { L with ks := x } := by
  obtain ⟨q, ob, ok, oks⟩ := A.ob
  exact ⟨⟨p, upd_same, by rw [upd_ne np]; exact hp, np⟩, by rw [upd_ne (ne_of A.va ob (by intro y; cases y))]; exact A.va, by rw [upd_ne (ne_of A.hd ob (by intro y; cases y))]; exact A.hd, by rw [upd_ne (ne_of A.tg ob (by intro y; cases y))]; exact A.tg, by rw [upd_ne (ne_of A.rt ob (by intro y; cases y))]; exact A.rt, A.n1, A.n2, A.n3, A.n4, A.n5, A.n6⟩
def spLDo (K : PySem.W.Frag) : Sp := fun vs H Q _ => ∃ (z : LS) (L : Lw) (t : Addr) (d : Dd), vs = [.ref z.s, .ref t, .bl false] ∧ z.At H L ∧ L.Sm ∧ SqT K H t d.vs ∧ LFit L d ∧
  ∀ p H', KB z.fp H H' → z.At H' (L.step d) → H p = none → H' p = some (.lst (d.rds L.val)) → Q (.ref p) H'
def spLOn : Sp := fun vs H Q _ => ∃ (z : LS) (L : Lw) (c : Str), vs = [.ref z.s, .str c] ∧ z.At H L ∧ L.Sm ∧ (∀ k ∈ L.ks, k ∈ keys L.tg) ∧ ∀ p H', Same H H' → H p = none → H' p = some (.lst ((L.on c).map V.str)) → Q (.ref p) H'
theorem filt_next {α : Type} {l : List α} {f : α → Bool} {i : Nat} {x : α} (h : l[i]? = some x) : (l.take (i + 1)).filter f = (l.take i).filter f ++ if f x = true then [x] else [] := by
  rw [take_next h, List.filter_append]
  congr 1
  by_cases e : f x = true
  · rw [if_pos e, List.filter_cons_of_pos e]; rfl
  · rw [if_neg e, List.filter_cons_of_neg e]; rfl
section
variable {P : Program} {w : World} {K : PySem.W.Frag} {mg : Str → Option Value} {base : Heap}
theorem scLDo : FnScope ["_law_store_here", "_law_deed", "_law_copies", "_law_held_here", "_law_targets", "_law_roots", "_law_value_here", "_law_key_here", "_law_target"] ["_law_store_here", "_law_deed", "_law_copies"] (defScope sLDo) := ⟨rfl, rfl, rfl, by decide +kernel, rfl, by decide +kernel, by decide +kernel⟩
theorem ok_ldo {f fR fH fP : Addr} {fd dR dH dP : FuncData} (F : Fun K "_law_do" "_law_do" sLDo f fd) (MR : CallM P w K mg base CX0 1 fR dR "_law_root" ["_law_store_here", "_law_spot"] spRoot) (MH : CallM P w K mg base CX0 2 fH dH "_law_held" ["_law_store_here", "_law_spot", "_law_copies"] spHeld) (MP : CallM P w K mg base CX0 2 fP dP "_law_put" ["_law_store_here", "_law_spot", "_law_value_here", "_law_copies"] spPut) : FnOk P w K mg base CX0 3 f fd ["_law_store_here", "_law_deed", "_law_copies"] (spLDo K) := by
  refine F.ok scLDo (fun vs H Q E h => ?_) (fun cdv A outer s H vs Q E hr h => ?_)
  · obtain ⟨z, L, t, d, rfl, _⟩ := h
    rfl
  · obtain ⟨z, L, t, d, rfl, A1, sm, hT, hf, k⟩ := h
    have hu := hu_of hr
    refine ⟨_, (pss_cons (ps_if (pt_cmpR op_eq (pe_ix ix_tup (pv 1) pe_int (fun _ _ => rfl)) pe_str (nomark _)) (pss_one (ps_ret (pe_lst (by exact (pa_cons (by exact (pe_call MH.G (hr.mono (by decide)) rfl MH.g MH.kp MH.b .nil pass0 (by exact (pa_cons (pv 0) (pa_cons (pe_ix ix_tup (pv 1) pe_int (fun _ _ => rfl)) (pa_cons (pv 2) pa_nil)))))) pa_nil))))) pss_nil)
      (pss_cons (ps_if (pt_cmpR op_eq (pe_ix ix_tup (pv 1) pe_int (fun _ _ => rfl)) pe_str (nomark _)) (pss_one (ps_expr (by exact (pe_call MP.G (hr.mono (by decide)) rfl MP.g MP.kp MP.b .nil pass0 (by exact (pa_cons (pv 0) (pa_cons (pe_ix ix_tup (pv 1) pe_int (fun _ _ => rfl)) (pa_cons (pe_ix ix_tup (pv 1) pe_int (fun _ _ => rfl)) (pa_cons (pv 2) pa_nil))))))))) (pss_one (ps_if (pt_cmpR op_eq (pe_ix ix_tup (pv 1) pe_int (fun _ _ => rfl)) pe_str (nomark _)) (pss_cons (ps_par3 (i := 3) (j := 4) (l := 5) rfl scLDo.nd rfl rfl rfl (by decide) (by decide) (by decide) rfl rfl rfl (by exact (pa_cons (pe_ix ix_list (pv 0) pe_int (fun _ _ => rfl)) (pa_cons (pe_ix ix_list (pv 0) pe_int (fun _ _ => rfl)) (pa_cons (pe_ix ix_list (pv 0) pe_int (fun _ _ => rfl)) pa_nil)))) rfl)
      (pss_cons (ps_dput hu (pv 3) (pe_ix ix_tup (pv 1) pe_int (fun _ _ => rfl)) (by exact (pe_call MH.G (hr.mono (by decide)) rfl MH.g MH.kp MH.b .nil pass0 (by exact (pa_cons (pv 0) (pa_cons (pe_ix ix_tup (pv 1) pe_int (fun _ _ => rfl)) (pa_cons (pv 2) pa_nil)))))) rfl)
      (pss_cons (ps_dput hu (pv 4) (pe_ix ix_tup (pv 1) pe_int (fun _ _ => rfl)) (pe_ix ix_tup (pv 1) pe_int (fun _ _ => rfl)) rfl)
      (pss_cons (ps_dput hu (pv 5) (pe_ix ix_tup (pv 1) pe_int (fun _ _ => rfl)) (by exact (pe_call MR.G (hr.mono (by decide)) rfl MR.g MR.kp MR.b .nil pass0 (by exact (pa_cons (pv 0) (pa_cons (pe_ix ix_tup (pv 1) pe_int (fun _ _ => rfl)) pa_nil))))) rfl)
      (pss_one (ps_asg (pe_op op_cat (pe_ix ix_list (pv 0) pe_int (fun _ _ => rfl)) (pe_lst (by exact (pa_cons (pe_ix ix_tup (pv 1) pe_int (fun _ _ => rfl)) pa_nil)))) (by exact (pg_sub (pv 0) pe_int set_list)))))))) (pss_cons (ps_set (i := 3) scLDo.nd rfl (.inl rfl) (pe_ix ix_list (pv 0) pe_int (fun _ _ => rfl)))
      (pss_cons (ps_set (i := 6) scLDo.nd rfl (.inl rfl) (pe_dpop1 (pv 3) (pe_ix ix_tup (pv 1) pe_int (fun _ _ => rfl)) ⟨rfl, rfl, rfl, rfl⟩))
      (pss_cons (ps_asg (pe_lc (own := [("_law_key_here", 7)]) (g := gName 7) (tt := tTest (tOp rNe (tVar 7) (tOp (rIxT K) (tVar 1) (tC (.int 1))))) (te := (tVar 7)) rfl scLDo.nd (pi_list (pe_ix ix_list (pv 0) pe_int (fun _ _ => rfl))) (blkOk_by (own := [("_law_key_here", 7)]) (N := ["_law_store_here", "_law_deed", "_law_copies", "_law_held_here", "_law_targets", "_law_roots", "_law_value_here", "_law_key_here", "_law_target"]) (sc := defScope sLDo) (by decide +kernel)) (fun _ _ _ _ _ => (pg_name (i := 7) scLDo.nd rfl (Or.inl rfl) (Or.inr rfl))) (fun _ _ _ _ _ => pts_one (pt_cmpR op_ne (pv 7) (pe_ix ix_tup (pv 1) pe_int (fun _ _ => rfl)) (nomark _))) (fun _ _ _ _ _ => (pv 7))) (by exact (pg_sub (pv 0) pe_int set_list)))
      (pss_cons (ps_set (i := 8) scLDo.nd rfl (.inl rfl) (pe_dget hu (pe_ix ix_list (pv 0) pe_int (fun _ _ => rfl)) (pe_ix ix_tup (pv 1) pe_int (fun _ _ => rfl)) (fun _ _ => rfl)))
      (pss_one (ps_if (PW.pt (pw_and (pt_val (pv 2)) (pw_and1 (PW.pt (pw_or (pt_cmp (pc_din hu (pv 8) (pe_ix ix_list (pv 0) pe_int (fun _ _ => rfl)))) (pw_or1 (pt_cmpR op_in_seq (pv 8) (pe_ix ix_list (pv 0) pe_int (fun _ _ => rfl)) rfl))))))) (pss_one (ps_expr (by exact (pe_call MP.G (hr.mono (by decide)) rfl MP.g MP.kp MP.b .nil pass0 (by exact (pa_cons (pv 0) (pa_cons (pv 8) (pa_cons (pv 6) (pa_cons pe_bl pa_nil))))))))) pss_nil)))))))))
      (pss_one (ps_ret (pe_lst pa_nil))))), ?_⟩
    obtain ⟨q, ob, okk, oks⟩ := A1.ob
    have fin : ∀ {H' : Hp}, KB z.fp H H' → z.At H' (L.step d) → d.rds L.val = [] → ∀ p, H' p = none → Q (.ref p) (upd H' p (.lst [])) := fun {H'} kb A' e p hp =>
      k p _ (kb.new hp) (A'.keep (KB.same (KB.refl.new hp))) (none_of_KB kb A'.live hp) (by rw [e]; exact upd_same)
    cases d with
    | rd c =>
      refine ⟨_, rfl, t, _, _, _, rfl, rfl, hT, rfl, rfl, _, rfl, if_true_of (by decide +kernel) ?_⟩
      exact ⟨_, rfl, _, rfl, t, _, _, _, rfl, rfl, hT, rfl, _, rfl, z, L, c, rfl, A1, hf.1, hf.2, line_le (n := 1) (m := 1000) (by decide), fun p hp => k p _ (KB.refl.new hp) (A1.keep (KB.same (KB.refl.new hp))) hp upd_same⟩
    | wr c v =>
      refine ⟨_, rfl, t, _, _, _, rfl, rfl, hT, rfl, rfl, _, rfl, if_false_of (by decide +kernel) ⟨_, rfl, t, _, _, _, rfl, rfl, hT, rfl, rfl, _, rfl, if_true_of (by decide +kernel) ?_⟩⟩
      exact ⟨_, rfl, _, rfl, t, _, _, _, rfl, rfl, hT, rfl, _, rfl, t, _, _, _, rfl, rfl, hT, rfl, _, rfl, z, L, c, v, rfl, A1, sm, hf, fun H' kb A' => ⟨by simp, fin kb A' rfl⟩⟩
    | bg kk tt =>
      refine ⟨_, rfl, t, _, _, _, rfl, rfl, hT, rfl, rfl, _, rfl, if_false_of (by decide +kernel) ⟨_, rfl, t, _, _, _, rfl, rfl, hT, rfl, rfl, _, rfl, if_false_of (by decide +kernel) ⟨_, rfl, t, _, _, _, rfl, rfl, hT, rfl, rfl, _, rfl, if_true_of (by decide +kernel) ?_⟩⟩⟩
      refine ⟨_, rfl, z.s, _, _, _, rfl, rfl, SqL.of ob, atI_nat (j := 1) rfl, _, rfl, z.s, _, _, _, rfl, rfl, SqL.of ob, atI_nat (j := 2) rfl, _, rfl, z.s, _, _, _, rfl, rfl, SqL.of ob, atI_nat (j := 3) rfl, _, _, _, rfl, ?_⟩
      have s1 : Same H H := fun _ _ e => e
      have A2 := A1
      have hT2 := hT
      refine ⟨_, rfl, _, rfl, t, _, _, _, rfl, rfl, hT2, rfl, _, rfl, z, L, tt, rfl, A2, hf.1, hf.2, _, rfl, _, rfl, t, _, _, _, rfl, rfl, hT2, rfl, z.h, _, rfl, DPut.k (k := Sum.inr kk) A2.hd (by rw [kv_len]; exact fits_line sm.h), ?_⟩
      have A3 := A2.putH (kvs := putK (kvOf id L.hd) (Sum.inr kk) (L.val tt)) kv_putId
      have hT3 : SqT K (upd H z.h (.dK (putK (kvOf id L.hd) (Sum.inr kk) (L.val tt)))) t (Dd.bg kk tt).vs := sqT_upd hT2 A2.hd (fun _ y => nomatch y) (fun _ _ y => nomatch y)
      have kb3 : KB z.fp H (upd H z.h (.dK (putK (kvOf id L.hd) (Sum.inr kk) (L.val tt)))) := (KB.ofSame s1).upd (by simp [LS.fp])
      generalize upd H z.h (.dK (putK (kvOf id L.hd) (Sum.inr kk) (L.val tt))) = H3 at A3 hT3 kb3 ⊢
      refine ⟨_, rfl, t, _, _, _, rfl, rfl, hT3, rfl, _, rfl, _, rfl, t, _, _, _, rfl, rfl, hT3, rfl, z.t, _, rfl, DPut.k (k := Sum.inr kk) A3.tg (by rw [kv_len]; exact fits_line sm.t), ?_⟩
      have A4 := A3.putT (kvs := putK (kvOf V.str L.tg) (Sum.inr kk) (.str tt)) kv_put
      have hT4 : SqT K (upd H3 z.t (.dK (putK (kvOf V.str L.tg) (Sum.inr kk) (.str tt)))) t (Dd.bg kk tt).vs := sqT_upd hT3 A3.tg (fun _ y => nomatch y) (fun _ _ y => nomatch y)
      have kb4 : KB z.fp H (upd H3 z.t (.dK (putK (kvOf V.str L.tg) (Sum.inr kk) (.str tt)))) := kb3.upd (by simp [LS.fp])
      generalize upd H3 z.t (.dK (putK (kvOf V.str L.tg) (Sum.inr kk) (.str tt))) = H4 at A4 hT4 kb4 ⊢
      refine ⟨_, rfl, _, rfl, t, _, _, _, rfl, rfl, hT4, rfl, z, _, tt, rfl, A4, hf.1, _, rfl, _, rfl, t, _, _, _, rfl, rfl, hT4, rfl, z.r, _, rfl, DPut.k (k := Sum.inr kk) A4.rt (by rw [kv_len]; exact fits_line sm.r), ?_⟩
      have A5 := A4.putR (kvs := putK (kvOf V.str L.rt) (Sum.inr kk) (.str (L.root tt))) kv_put
      have hT5 : SqT K (upd H4 z.r (.dK (putK (kvOf V.str L.rt) (Sum.inr kk) (.str (L.root tt))))) t (Dd.bg kk tt).vs := sqT_upd hT4 A4.rt (fun _ y => nomatch y) (fun _ _ y => nomatch y)
      have kb5 : KB z.fp H (upd H4 z.r (.dK (putK (kvOf V.str L.rt) (Sum.inr kk) (.str (L.root tt))))) := kb4.upd (by simp [LS.fp])
      show tSeq _ _ _ _ (upd H4 z.r (.dK (putK (kvOf V.str L.rt) (Sum.inr kk) (.str (L.root tt)))))
      generalize upd H4 z.r (.dK (putK (kvOf V.str L.rt) (Sum.inr kk) (.str (L.root tt)))) = H5 at A5 hT5 kb5 ⊢
      obtain ⟨q5, ob5, ok5, oks5⟩ := A5.ob
      have ok5 : H5 q5 = some (.lst (L.ks.map V.str)) := ok5
      refine ⟨_, rfl, z.s, _, _, _, rfl, rfl, SqL.of ob5, atI_nat (j := 4) rfl, _, rfl, t, _, _, _, rfl, rfl, hT5, rfl, line_le (n := 1) (m := 1000) (by decide), fun m hm => ?_⟩
      have s6 : Same H5 (upd H5 m (.lst [V.str kk])) := KB.same (KB.refl.new hm)
      refine ⟨q5, m, _, _, rfl, rfl, s6 _ _ ok5, upd_same, ?_, fun p hp => ?_⟩
      · rw [List.length_map]
        exact line_le (m := 1000) (by have := sm.k; simp; omega)
      have s7 : Same H5 (upd (upd H5 m (.lst [V.str kk])) p (.lst (L.ks.map V.str ++ [V.str kk]))) := KB.same ((KB.refl.new hm).new hp)
      have A7 := A5.keep s7
      have ob7 := s7 _ _ ob5
      have np : p ≠ z.s := fun e => by
        have := s6 _ _ ob5
        rw [← e, hp] at this; cases this
      have e7 : upd (upd H5 m (.lst [V.str kk])) p (.lst (L.ks.map V.str ++ [V.str kk])) p = some (.lst ((L.ks ++ [kk]).map V.str)) := by rw [upd_same, List.map_append]; rfl
      have kb7 : KB z.fp H (upd (upd H5 m (.lst [V.str kk])) p (.lst (L.ks.map V.str ++ [V.str kk]))) := kb5.trans (KB.ofSame s7)
      generalize upd (upd H5 m (.lst [V.str kk])) p (.lst (L.ks.map V.str ++ [V.str kk])) = H7 at A7 ob7 e7 kb7 ⊢
      refine ⟨_, rfl, z.s, _, _, _, rfl, rfl, ob7, rfl, ?_⟩
      exact ⟨by simp, fin (kb7.upd (by simp [LS.fp])) (A7.putK e7 np) rfl⟩
    | ov kk =>
      refine ⟨_, rfl, t, _, _, _, rfl, rfl, hT, rfl, rfl, _, rfl, if_false_of (by decide +kernel) ⟨_, rfl, t, _, _, _, rfl, rfl, hT, rfl, rfl, _, rfl, if_false_of (by decide +kernel) ⟨_, rfl, t, _, _, _, rfl, rfl, hT, rfl, rfl, _, rfl, if_false_of (by decide +kernel) ?_⟩⟩⟩
      obtain ⟨v, ev⟩ := aget_of_mem hf.1
      obtain ⟨tt, et⟩ := aget_of_mem hf.2
      refine ⟨_, rfl, z.s, _, _, _, rfl, rfl, SqL.of ob, atI_nat (j := 1) rfl, ?_⟩
      refine ⟨_, rfl, z.h, rfl, .inl ⟨_, .inl A1.hd⟩, _, rfl, t, _, _, _, rfl, rfl, hT, rfl, _, Sum.inr kk, v, A1.hd, rfl, (by rw [kv_val, ev]; rfl), ?_⟩
      have A3 := A1.putH (kvs := dropK (kvOf id L.hd) (Sum.inr kk)) kv_drop
      have hT3 : SqT K (upd H z.h (.dK (dropK (kvOf id L.hd) (Sum.inr kk)))) t (Dd.ov kk).vs := sqT_upd hT A1.hd (fun _ y => nomatch y) (fun _ _ y => nomatch y)
      have kb3 : KB z.fp H (upd H z.h (.dK (dropK (kvOf id L.hd) (Sum.inr kk)))) := KB.refl.upd (by simp [LS.fp])
      show tSeq _ _ _ _ (upd H z.h (.dK (dropK (kvOf id L.hd) (Sum.inr kk))))
      generalize upd H z.h (.dK (dropK (kvOf id L.hd) (Sum.inr kk))) = H3 at A3 hT3 kb3 ⊢
      obtain ⟨q3, ob3, ok3, oks3⟩ := A3.ob
      have ok3 : H3 q3 = some (.lst (L.ks.map V.str)) := ok3
      refine ⟨_, rfl, z.s, _, _, _, rfl, rfl, SqL.of ob3, atI_nat (j := 4) rfl, q3, rfl, ⟨_, SqL.of ok3⟩, fun D hD => ?_⟩
      have sD : ∀ {H' : Hp}, KB [D] H3 H' → Same H3 H' := fun {H'} kb => kb.clean fun b hb => by rw [List.mem_singleton.mp hb]; exact hD
      refine lc_list (K := K) (a := q3) (xs := L.ks.map V.str) (fun i H' => H' D = some (.lst (((L.ks.take i).filter fun j => !decide (j = kk)).map V.str)) ∧ KB [D] H3 H') ⟨upd_same, KB.refl.upd (by simp)⟩
        (fun i H' _ h2 => SqL.of (sD h2.2 _ _ ok3)) (fun i x H' hx h2 => ?_) (fun H' h2 => ?_)
      · rw [List.getElem?_map] at hx
        cases ei : L.ks[i]? with
        | none => rw [ei] at hx; cases hx
        | some j =>
          rw [ei] at hx
          cases hx
          have hT' : SqT K H' t (Dd.ov kk).vs := sameT (sD h2.2) hT3
          refine ⟨rfl, _, rfl, _, rfl, t, _, _, _, rfl, rfl, hT', rfl, rfl, _, rfl, ?_⟩
          have fn := filt_next (f := fun j => !decide (j = kk)) ei
          by_cases ej : j = kk
          · refine if_false_of (by simp [ej]) ⟨?_, h2.2⟩
            rw [fn, if_neg (by simp [ej]), List.append_nil]
            exact h2.1
          · refine if_true_of (by simp [ej]) ⟨_, rfl, _, h2.1, ?_, ?_, h2.2.upd (by simp)⟩
            · rw [List.length_map]
              refine fits_line (m := 900) (Nat.le_trans (List.length_filter_le ..) ?_)
              rw [List.length_take]
              have := sm.k
              omega
            · rw [upd_same, fn, if_pos (by simp [ej]), List.map_append]; rfl
      · rw [List.length_map, List.take_length] at h2
        have s4 := sD h2.2
        have A4 := A3.keep s4
        have ob4 := s4 _ _ ob3
        have nD : D ≠ z.s := fun e => by rw [e, ob3] at hD; cases hD
        have kb4 : KB z.fp H H' := kb3.trans (KB.ofSame s4)
        have hT4 := sameT s4 hT3
        refine ⟨_, rfl, z.s, _, _, _, rfl, rfl, ob4, rfl, ?_⟩
        have A5 := A4.putK h2.1 nD
        have hT5 : SqT K (upd H' z.s (.lst [.ref z.v, .ref z.h, .ref z.t, .ref z.r, .ref D])) t (Dd.ov kk).vs := sqT_upd hT4 ob4 (fun _ y => nomatch y) (fun _ _ y => nomatch y)
        have kb5 : KB z.fp H (upd H' z.s (.lst [.ref z.v, .ref z.h, .ref z.t, .ref z.r, .ref D])) := kb4.upd (by simp [LS.fp])
        show tSeq _ _ _ _ (upd H' z.s (.lst [.ref z.v, .ref z.h, .ref z.t, .ref z.r, .ref D]))
        generalize upd H' z.s (.lst [.ref z.v, .ref z.h, .ref z.t, .ref z.r, .ref D]) = H5 at A5 hT5 kb5 ⊢
        obtain ⟨q5, ob5, _⟩ := A5.ob
        refine ⟨_, rfl, z.s, _, _, _, rfl, rfl, SqL.of ob5, atI_nat (j := 2) rfl, _, rfl, t, _, _, _, rfl, rfl, hT5, rfl, z.t, .str tt, rfl, (by have y := DGet.k (k := Sum.inr kk) A5.tg; rw [kv_val, et] at y; exact y), ?_⟩
        exact ⟨_, rfl, _, rfl, if_false_of rfl (if_false_of rfl ⟨by simp, fin kb5 A5 rfl⟩)⟩
theorem scLOn : FnScope ["_law_store_here", "_law_spot", "_law_key_here"] ["_law_store_here", "_law_spot"] (defScope sLOn) := ⟨rfl, rfl, rfl, by decide +kernel, rfl, by decide +kernel, by decide +kernel⟩
theorem ok_lon {f : Addr} {fd : FuncData} (F : Fun K "_law_on" "_law_on" sLOn f fd) : FnOk P w K mg base CX0 1 f fd ["_law_store_here", "_law_spot"] spLOn := by
  refine F.ok scLOn (fun vs H Q E h => ?_) (fun cdv A outer s H vs Q E hr h => ?_)
  · obtain ⟨z, L, c, rfl, _⟩ := h
    rfl
  · obtain ⟨z, L, c, rfl, A1, sm, hk, k⟩ := h
    have hu := hu_of hr
    refine ⟨_, (pss_one (ps_ret (pe_lc (own := [("_law_key_here", 2)]) (g := gName 2) (tt := tTest (tOp rEq (tDGet (tOp (rIxL K) (tVar 0) (tC (.int 2))) (tVar 2)) (tVar 1))) (te := (tVar 2)) rfl scLOn.nd (pi_list (pe_ix ix_list (pv 0) pe_int (fun _ _ => rfl))) (blkOk_by (own := [("_law_key_here", 2)]) (N := ["_law_store_here", "_law_spot", "_law_key_here"]) (sc := defScope sLOn) (by decide +kernel)) (fun _ _ _ _ _ => (pg_name (i := 2) scLOn.nd rfl (Or.inl rfl) (Or.inr rfl))) (fun _ _ _ _ _ => pts_one (pt_cmpR op_eq (pe_dget hu (pe_ix ix_list (pv 0) pe_int (fun _ _ => rfl)) (pv 2) (fun _ _ => rfl)) (pv 1) (nomark _))) (fun _ _ _ _ _ => (pv 2))))), ?_⟩
    obtain ⟨q, ob, okk, oks⟩ := A1.ob
    refine ⟨_, rfl, z.s, _, _, _, rfl, rfl, SqL.of ob, atI_nat (j := 4) rfl, q, rfl, ⟨_, SqL.of okk⟩, fun D hD => ?_⟩
    have sD : ∀ {H' : Hp}, KB [D] H H' → Same H H' := fun {H'} kb => kb.clean fun b hb => by rw [List.mem_singleton.mp hb]; exact hD
    refine lc_list (K := K) (a := q) (xs := L.ks.map V.str) (fun i H' => H' D = some (.lst (((L.ks.take i).filter fun k => decide (aget L.tg k = some c)).map V.str)) ∧ KB [D] H H') ⟨upd_same, KB.refl.upd (by simp)⟩
      (fun i H' _ h2 => SqL.of (sD h2.2 _ _ okk)) (fun i x H' hx h2 => ?_) (fun H' h2 => ?_)
    · rw [List.getElem?_map] at hx
      cases ei : L.ks[i]? with
      | none => rw [ei] at hx; cases hx
      | some j =>
        rw [ei] at hx
        cases hx
        have A2 := A1.keep (sD h2.2)
        obtain ⟨tt, et⟩ := aget_of_mem (hk j (List.mem_of_getElem? ei))
        refine ⟨rfl, _, rfl, z.s, _, _, _, rfl, rfl, SqL.of (sD h2.2 _ _ ob), atI_nat (j := 2) rfl, _, rfl, z.t, .str tt, rfl, (by have y := DGet.k (k := Sum.inr j) A2.tg; rw [kv_val, et] at y; exact y), _, rfl, rfl, _, rfl, ?_⟩
        have fn := filt_next (f := fun k => decide (aget L.tg k = some c)) ei
        by_cases ej : tt = c
        · refine if_true_of (decide_eq_true (congrArg V.str ej)) ⟨_, rfl, _, h2.1, ?_, ?_, h2.2.upd (by simp)⟩
          · rw [List.length_map]
            refine fits_line (m := 900) (Nat.le_trans (List.length_filter_le ..) ?_)
            rw [List.length_take]
            have := sm.k
            omega
          · rw [upd_same, fn, if_pos (by simp [et, ej]), List.map_append]; rfl
        · refine if_false_of (decide_eq_false fun y => ej (V.str.inj y)) ⟨?_, h2.2⟩
          rw [fn, if_neg (by simp [et, ej]), List.append_nil]
          exact h2.1
    · rw [List.length_map, List.take_length] at h2
      exact k D H' (sD h2.2) hD h2.1
end
end Qk

/-! part W6 -/
set_option Elab.async false
set_option linter.all false
set_option maxRecDepth 100000
set_option maxHeartbeats 4000000
namespace Qk
open PySem PySem.Spec L2
open PyProof.Rows hiding St
abbrev sLCE : Stmt := top 41
abbrev sPlayed : Stmt := top 38
abbrev sUnt : Stmt := top 42
/-- its sizes -/
structure Lw.Le (L : Lw) (n : Nat) : Prop where
  p : L.ps.length ≤ 4 + n
  h : L.hd.length ≤ n
  t : L.tg.length ≤ n
  r : L.rt.length ≤ n
  k : L.ks.length ≤ n
theorem Lw.Le.step {L : Lw} {n : Nat} (h : L.Le n) (d : Dd) : (L.step d).Le (n + 1) := by
  obtain ⟨h1, h2, h3, h4, h5⟩ := h
  cases d with
  | rd c => exact ⟨Nat.le_succ_of_le h1, Nat.le_succ_of_le h2, Nat.le_succ_of_le h3, Nat.le_succ_of_le h4, Nat.le_succ_of_le h5⟩
  | wr c v => exact ⟨Nat.le_trans len_aput (Nat.succ_le_succ h1), Nat.le_succ_of_le h2, Nat.le_succ_of_le h3, Nat.le_succ_of_le h4, Nat.le_succ_of_le h5⟩
  | bg k t => exact ⟨Nat.le_succ_of_le h1, Nat.le_trans len_aput (Nat.succ_le_succ h2), Nat.le_trans len_aput (Nat.succ_le_succ h3), Nat.le_trans len_aput (Nat.succ_le_succ h4), by show (L.ks ++ [k]).length ≤ _; rw [List.length_append]; exact Nat.succ_le_succ h5⟩
  | ov k => exact ⟨Nat.le_succ_of_le h1, Nat.le_trans len_adrop (Nat.le_succ_of_le h2), Nat.le_succ_of_le h3, Nat.le_succ_of_le h4, Nat.le_trans (List.length_filter_le ..) (Nat.le_succ_of_le h5)⟩
theorem lw_run {ps : List (Str × V)} {ds : List Dd} (h : ps.length ≤ 4) : ∀ {i : Nat}, i ≤ ds.length → (lwAt (Lw.init ps) ds i).Le i
  | 0, _ => ⟨h, Nat.le_refl _, Nat.le_refl _, Nat.le_refl _, Nat.le_refl _⟩
  | i + 1, hi => by
    obtain ⟨d, e⟩ : ∃ d, ds[i]? = some d := ⟨ds[i], List.getElem?_eq_getElem hi⟩
    rw [lwAt_next e]; exact (lw_run h (Nat.le_of_succ_le hi)).step d
theorem Lw.Le.sm {L : Lw} {n : Nat} (h : L.Le n) (hn : n ≤ 400) : L.Sm := ⟨by have := h.p; omega, by have := h.h; omega, by have := h.t; omega, by have := h.r; omega, by have := h.k; omega⟩
theorem Sim.ktg {S : Sto} {L : Lw} (s : Sim S L) : ∀ k ∈ L.ks, k ∈ keys L.tg := fun k hk => by
  rw [s.ks] at hk
  exact aget_isSome.mp (by rw [s.tg k hk]; exact aget_isSome.mpr hk)
def spLCE : Sp := fun vs H Q _ => ∃ (z : LS) (L : Lw) (S : Sto) (c : Str), vs = [.ref z.s, .str c] ∧ z.At H L ∧ L.Sm ∧ Sim S L ∧ S.Ok ∧ ∀ H', Same H H' → Q (.str (S.endOf c)) H'
def spPlayed (K : PySem.W.Frag) : Sp := fun vs H Q _ => ∃ (a b : Addr) (ps : List (Str × V)) (ds : List Dd), vs = [.ref a, .ref b, .bl false] ∧ PlcAt K H a ps ∧ DlAt K H b ds ∧ (keys ps).Nodup ∧ ps.length ≤ 4 ∧ ds.length ≤ 100 ∧ Fit (Sto.init ps) ds ds.length ∧
  ∀ T u (z : LS) H', Same H H' → H' T = some (.tup [u, .ref z.s]) → z.At H' (lwAt (Lw.init ps) ds ds.length) → Q (.ref T) H'
def spUnt (K : PySem.W.Frag) : Sp := fun vs H Q _ => ∃ (a b : Addr) (ps : List (Str × V)) (ds : List Dd), vs = [.ref a, .ref b] ∧ PlcAt K H a ps ∧ DlAt K H b ds ∧ (keys ps).Nodup ∧ ps.length ≤ 4 ∧ ds.length ≤ 100 ∧ Fit (Sto.init ps) ds ds.length ∧
  ∀ H', Same H H' → Q (optV (firstU (Sto.init ps) ds)) H'
section
variable {P : Program} {w : World} {K : PySem.W.Frag} {mg : Str → Option Value} {base : Heap}
theorem scLCE : FnScope ["_law_store_here", "_law_spot", "_law_k", "_law_on_here"] ["_law_store_here", "_law_spot"] (defScope sLCE) := ⟨rfl, rfl, rfl, by decide +kernel, rfl, by decide +kernel, by decide +kernel⟩
theorem ok_lce {f fO : Addr} {fd dO : FuncData} (F : Fun K "_law_chain_end" "_law_chain_end" sLCE f fd) (MO : CallM P w K mg base CX0 1 fO dO "_law_on" ["_law_store_here", "_law_spot"] spLOn) (gLen : mg "len" = none) (gRange : mg "range" = none) : FnOk P w K mg base CX0 2 f fd ["_law_store_here", "_law_spot"] spLCE := by
  refine F.ok scLCE (fun vs H Q E h => ?_) (fun cdv A outer s H vs Q E hr h => ?_)
  · obtain ⟨z, L, S, c, rfl, _⟩ := h
    rfl
  · obtain ⟨z, L, S, c, rfl, A1, sm, sim, ok, k⟩ := h
    refine ⟨_, (pss_cons (ps_for PassesOwn.never rfl (pi_range1 (by rfl) gRange (by exact (pa_cons (pe_callB call_len_seq (by rfl) gLen (by decide +kernel) (by exact (pa_cons (pe_ix ix_list (pv 0) pe_int (fun _ _ => rfl)) pa_nil))) pa_nil))) (pg_name (i := 2) scLCE.nd rfl (.inl rfl)) (pss_cons (ps_set (i := 3) scLCE.nd rfl (.inl rfl) (by exact (pe_call MO.G (hr.mono (by decide)) rfl MO.g MO.kp MO.b .nil pass0 (by exact (pa_cons (pv 0) (pa_cons (pv 1) pa_nil))))))
      (pss_one (ps_if (pt_cmpR op_gt (pe_callB call_len_seq (by rfl) gLen (by decide +kernel) (by exact (pa_cons (pv 3) pa_nil))) pe_int (nomark _)) (pss_one (ps_set (i := 1) scLCE.nd rfl (.inl rfl) (pe_ix ix_list (pv 3) pe_int (fun _ _ => rfl)))) pss_nil))))
      (pss_one (ps_ret (pv 1)))), ?_⟩
    obtain ⟨q, ob, okk, oks⟩ := A1.ob
    have hlk : L.ks.length ≤ 900 := sm.k
    refine ⟨_, rfl, z.s, _, _, _, rfl, rfl, SqL.of ob, atI_nat (j := 4) rfl, q, _, rfl, .inl (SqL.of okk), ((L.ks.map V.str).length : Int), rfl, by rw [List.length_map]; omega, by rw [List.length_map]; omega, ?_⟩
    refine for_range (fun i σ' H' => ∃ o1 o2 : Option V, σ' = [some (.ref z.s), some (.str (iter S.nxt i c)), o1, o2] ∧ Same H H') ⟨_, _, rfl, fun _ _ e => e⟩ (fun i σ' H' hi ⟨o1, o2, e1, s1⟩ => ?_) (fun σ' H' ⟨o1, o2, e1, s1⟩ => ?_)
    · subst e1
      refine ⟨_, rfl, _, rfl, z, L, iter S.nxt i c, rfl, A1.keep s1, sm, sim.ktg, fun p H2 s2 hp0 hp => ?_⟩
      rw [sim.on ok] at hp
      have le : ((S.on (iter S.nxt i c)).map V.str).length = (S.on (iter S.nxt i c)).length := List.length_map ..
      have s3 : Same H H2 := fun b o e => s2 _ _ (s1 _ _ e)
      refine ⟨_, rfl, p, _, rfl, .inl (SqL.of hp), _, _, rfl, rfl, _, rfl, ?_⟩
      cases en : S.on (iter S.nxt i c) with
      | nil =>
        have this : iter S.nxt (i + 1) c = iter S.nxt i c := nxt_stop en
        exact if_false_of rfl ⟨some (.int (0 + (i : Int))), some (.ref p), by rw [this]; rfl, s3⟩
      | cons x r =>
        rw [en] at hp
        have this : iter S.nxt (i + 1) c = x := nxt_eq en
        refine if_true_of ?_ ⟨_, rfl, p, _, _, _, rfl, rfl, SqL.of hp, atI_nat (j := 0) rfl, some (.int (0 + (i : Int))), some (.ref p), by rw [this]; rfl, s3⟩
        · refine decide_eq_true ?_
          show (0 : Int) < (((x :: r).map V.str).length : Int)
          simp only [List.length_map, List.length_cons]
          omega
    · subst e1
      have e : ((((L.ks.map V.str).length : Nat) : Int)).toNat = S.tg.length := by
        rw [Int.toNat_natCast, List.length_map, sim.ks]
        exact List.length_map ..
      refine ⟨_, rfl, ?_⟩
      have q := k H' s1
      unfold Sto.endOf at q
      rw [← e] at q
      exact q
theorem scPlayed : FnScope ["_law_places", "_law_deeds_here", "_law_copies", "_law_store_here", "_law_found", "_law_deed"] ["_law_places", "_law_deeds_here", "_law_copies"] (defScope sPlayed) := ⟨rfl, rfl, rfl, by decide +kernel, rfl, by decide +kernel, by decide +kernel⟩
theorem ok_played {f fS fD : Addr} {fd dS dD : FuncData} (F : Fun K "_law_played" "_law_played" sPlayed f fd) (MSt : CallM P w K mg base CX0 1 fS dS "_law_store" ["_law_places"] (spStore K)) (MDo : CallM P w K mg base CX0 3 fD dD "_law_do" ["_law_store_here", "_law_deed", "_law_copies"] (spLDo K)) : FnOk P w K mg base CX0 4 f fd ["_law_places", "_law_deeds_here", "_law_copies"] (spPlayed K) := by
  refine F.ok scPlayed (fun vs H Q E h => ?_) (fun cdv A outer s H vs Q E hr h => ?_)
  · obtain ⟨a, b, ps, ds, rfl, _⟩ := h
    rfl
  · obtain ⟨a, b, ps, ds, rfl, hP, ⟨ts, hL, hPd⟩, hnd, hpl, hdl, hfit, k⟩ := h
    refine ⟨_, (pss_cons (ps_set (i := 3) scPlayed.nd rfl (.inl rfl) (by exact (pe_call MSt.G (hr.mono (by decide)) rfl MSt.g MSt.kp MSt.b .nil pass0 (by exact (pa_cons (pv 0) pa_nil)))))
      (pss_cons (ps_set (i := 4) scPlayed.nd rfl (.inl rfl) (pe_lst pa_nil))
      (pss_cons (ps_for PassesOwn.never rfl (pi_list (pv 1)) (pg_name (i := 5) scPlayed.nd rfl (.inl rfl)) (pss_one (ps_set (i := 4) scPlayed.nd rfl (.inl rfl) (pe_op op_cat (pv 4) (by exact (pe_call MDo.G (hr.mono (by decide)) rfl MDo.g MDo.kp MDo.b .nil pass0 (by exact (pa_cons (pv 3) (pa_cons (pv 5) (pa_cons (pv 2) pa_nil))))))))))
      (pss_one (ps_ret (pe_tup (by exact (pa_cons (pv 4) (pa_cons (pv 3) pa_nil))))))))), ?_⟩
    have hl : ts.length = ds.length := Paired.length hPd
    refine ⟨_, rfl, a, ps, rfl, hP, hnd, hpl, fun z H1 s1 A1 frz => ⟨by simp, fun l hl0 => ?_⟩⟩
    have s2 : Same H (upd H1 l (.lst [])) := KB.same ((KB.ofSame s1).new hl0)
    refine ⟨_, rfl, b, rfl, ⟨_, SqL.of (s2 _ _ hL)⟩, ?_⟩
    refine for_list (K := K) (a := b) (xs := ts.map V.ref) (fun i σ H2 => ∃ (o : Option V) (u : Addr) (fs : List V), σ = [some (.ref a), some (.ref b), some (.bl false), some (.ref z.s), some (.ref u), o] ∧ KB z.fp H H2 ∧ z.At H2 (lwAt (Lw.init ps) ds i) ∧ H2 u = some (.lst fs) ∧ fs.length ≤ i ∧ u ∉ z.fp)
      ⟨_, l, [], rfl, KB.ofSame s2, A1.keep (KB.same (KB.refl.new hl0)), upd_same, Nat.le_refl _, fun hm => A1.live l hm hl0⟩ ?_ ?_ ?_
    · rintro i σ' H' hi ⟨o, u, fs, rfl, kb, _⟩
      exact SqL.of ((kb.clean frz) _ _ hL)
    · rintro i x σ' H' hx ⟨o, u, fs, rfl, kb, A2, hu, hf, nu⟩
      rw [List.getElem?_map] at hx
      cases et : ts[i]? with
      | none => rw [et] at hx; cases hx
      | some t =>
        rw [et] at hx
        cases hx
        obtain ⟨d, hd, hT⟩ := paired_get hPd et
        have hi : i < ds.length := (List.getElem?_eq_some_iff.mp hd).1
        have hT' : SqT K H' t d.vs := sameT (kb.clean frz) hT
        have hfi := hfit.mono (Nat.le_of_lt hi)
        have sim := sim_run hnd (Nat.le_of_lt hi) hfi
        have ok := stAt_ok (init_ok hnd) (Nat.le_of_lt hi) hfi
        refine ⟨_, rfl, _, rfl, _, rfl, _, rfl, z, _, t, d, rfl, A2, (lw_run hpl (Nat.le_of_lt hi)).sm (by omega), hT', sim.lfit ok (hfit i d hi hd), fun p H3 kb3 A3 hp0 hp => ?_⟩
        have hu3 := kb3 _ _ hu nu
        refine ⟨u, p, _, _, rfl, rfl, hu3, hp, ?_, fun m hm => ?_⟩
        · have : (d.rds (lwAt (Lw.init ps) ds i).val).length ≤ 1 := len_rds
          exact line_le (m := 1000) (by omega)
        · refine ⟨_, m, _, rfl, (kb.trans kb3).new hm, ?_, upd_same, ?_, ?_⟩
          · rw [lwAt_next hd]
            exact A3.keep (KB.same (KB.refl.new hm))
          · have : (d.rds (lwAt (Lw.init ps) ds i).val).length ≤ 1 := len_rds
            rw [List.length_append]; omega
          · exact fun hm2 => A3.live m hm2 hm
    · rintro σ' H' ⟨o, u, fs, rfl, kb, A2, hu, hf, nu⟩
      rw [List.length_map, hl] at A2
      refine ⟨_, rfl, _, rfl, line_le (n := 2) (m := 1000) (by decide), fun T hT => ?_⟩
      exact k T _ z _ (KB.same ((KB.ofSame (kb.clean frz)).new hT)) upd_same (A2.keep (KB.same (KB.refl.new hT)))
theorem scUnt : FnScope ["_law_places", "_law_deeds_here", "_law_store_here", "_law_at"] ["_law_places", "_law_deeds_here"] (defScope sUnt) := ⟨rfl, rfl, rfl, by decide +kernel, rfl, by decide +kernel, by decide +kernel⟩
theorem ok_unt {f fS fD fO fT : Addr} {fd dS dD dO dT : FuncData} (F : Fun K "_law_untidy" "_law_untidy" sUnt f fd) (MSt : CallM P w K mg base CX0 1 fS dS "_law_store" ["_law_places"] (spStore K)) (MDo : CallM P w K mg base CX0 3 fD dD "_law_do" ["_law_store_here", "_law_deed", "_law_copies"] (spLDo K)) (MO : CallM P w K mg base CX0 1 fO dO "_law_on" ["_law_store_here", "_law_spot"] spLOn) (MT : CallM P w K mg base CX0 1 fT dT "_law_touch" ["_law_deed"] (spCell K)) (gLen : mg "len" = none) (gRange : mg "range" = none) : FnOk P w K mg base CX0 4 f fd ["_law_places", "_law_deeds_here"] (spUnt K) := by
  refine F.ok scUnt (fun vs H Q E h => ?_) (fun cdv A outer s H vs Q E hr h => ?_)
  · obtain ⟨a, b, ps, ds, rfl, _⟩ := h
    rfl
  · obtain ⟨a, b, ps, ds, rfl, hP, ⟨ts, hL, hPd⟩, hnd, hpl, hdl, hfit, k⟩ := h
    refine ⟨_, (pss_cons (ps_set (i := 2) scUnt.nd rfl (.inl rfl) (by exact (pe_call MSt.G (hr.mono (by decide)) rfl MSt.g MSt.kp MSt.b .nil pass0 (by exact (pa_cons (pv 0) pa_nil)))))
      (pss_cons (ps_for PassesOwn.never rfl (pi_range1 (by rfl) gRange (by exact (pa_cons (pe_callB call_len_seq (by rfl) gLen (by decide +kernel) (by exact (pa_cons (pv 1) pa_nil))) pa_nil))) (pg_name (i := 3) scUnt.nd rfl (.inl rfl)) (pss_cons (ps_if (pt_cmpR op_gt (pe_callB call_len_seq (by rfl) gLen (by decide +kernel) (by exact (pa_cons (by exact (pe_call MO.G (hr.mono (by decide)) rfl MO.g MO.kp MO.b .nil pass0 (by exact (pa_cons (pv 2) (pa_cons (by exact (pe_call MT.G (hr.mono (by decide)) rfl MT.g MT.kp MT.b .nil pass0 (by exact (pa_cons (pe_ix ix_list (pv 1) (pv 3) (fun _ _ => rfl)) pa_nil)))) pa_nil))))) pa_nil))) pe_int (nomark _)) (pss_one (ps_ret (pv 3))) pss_nil)
      (pss_one (ps_expr (by exact (pe_call MDo.G (hr.mono (by decide)) rfl MDo.g MDo.kp MDo.b .nil pass0 (by exact (pa_cons (pv 2) (pa_cons (pe_ix ix_list (pv 1) (pv 3) (fun _ _ => rfl)) (pa_cons pe_bl pa_nil))))))))))
      (pss_one (ps_ret pe_non)))), ?_⟩
    have hl : ts.length = ds.length := Paired.length hPd
    refine ⟨_, rfl, a, ps, rfl, hP, hnd, hpl, fun z H1 s1 A1 frz => ?_⟩
    refine ⟨_, rfl, b, _, rfl, .inl (SqL.of (s1 _ _ hL)), ((ts.map V.ref).length : Int), rfl, by rw [List.length_map]; omega, by rw [List.length_map]; omega, ?_⟩
    refine for_range (fun i σ' H' => ∃ o : Option V, σ' = [some (.ref a), some (.ref b), some (.ref z.s), o] ∧ KB z.fp H H' ∧ z.At H' (lwAt (Lw.init ps) ds i) ∧ us (Sto.init ps) ds i = []) ⟨_, rfl, KB.ofSame s1, A1, rfl⟩ (fun i σ' H' hi ⟨o, e1, kb, A2, hus⟩ => ?_) (fun σ' H' ⟨o, e1, kb, A2, hus⟩ => ?_)
    · subst e1
      have hi' : i < ts.length := by
        have z : ((((ts.map V.ref).length : Nat) : Int)).toNat = ts.length := by rw [Int.toNat_natCast, List.length_map]
        rw [z] at hi; exact hi
      have hid : i < ds.length := by omega
      have e0 : (0 : Int) + (i : Int) = (i : Int) := Int.zero_add _
      rw [e0]
      obtain ⟨t, et⟩ : ∃ t, ts[i]? = some t := ⟨ts[i], List.getElem?_eq_getElem hi'⟩
      obtain ⟨d, hd, hT⟩ := paired_get hPd et
      have etv : (ts.map V.ref)[i]? = some (.ref t) := by rw [List.getElem?_map, et]; rfl
      have sH := kb.clean frz
      have hT' : SqT K H' t d.vs := sameT sH hT
      have hfi := hfit.mono (Nat.le_of_lt hid)
      have sim := sim_run hnd (Nat.le_of_lt hid) hfi
      have ok := stAt_ok (init_ok hnd) (Nat.le_of_lt hid) hfi
      have lsm := (lw_run (ds := ds) hpl (Nat.le_of_lt hid)).sm (by omega)
      refine ⟨_, rfl, _, rfl, _, rfl, b, _, _, _, rfl, rfl, SqL.of (sH _ _ hL), atI_nat etv, t, d, rfl, hT', z, _, d.touch, rfl, A2, lsm, sim.ktg, fun p H2 s2 hp0 hp => ?_⟩
      rw [sim.on ok] at hp
      have kb2 : KB z.fp H H2 := kb.trans (KB.ofSame s2)
      have sH2 := kb2.clean frz
      have eb : busyAt (Sto.init ps) ds i = !((stAt (Sto.init ps) ds i).on d.touch).isEmpty := by unfold busyAt; rw [hd]
      refine ⟨p, _, rfl, .inl (SqL.of hp), _, _, rfl, rfl, _, rfl, ?_⟩
      cases en : (stAt (Sto.init ps) ds i).on d.touch with
      | nil =>
        rw [en] at eb
        refine if_false_of rfl ?_
        refine ⟨_, rfl, _, rfl, _, rfl, b, _, _, _, rfl, rfl, SqL.of (sH2 _ _ hL), atI_nat etv, z, _, t, d, rfl, A2.keep s2, lsm, sameT s2 hT', sim.lfit ok (hfit i d hid hd), fun p3 H3 kb3 A3 _ _ => ?_⟩
        refine ⟨_, rfl, kb2.trans kb3, by rw [lwAt_next hd]; exact A3, ?_⟩
        rw [us_next, hus, eb]
        rfl
      | cons x r =>
        rw [en] at eb
        refine if_true_of ?_ ⟨_, rfl, ?_⟩
        · refine decide_eq_true ?_
          show (0 : Int) < (((x :: r).map V.str).length : Int)
          simp only [List.length_map, List.length_cons]
          omega
        · have q := k H2 sH2
          rw [firstU_at hid hus eb] at q
          exact q
    · subst e1
      have e : ((((ts.map V.ref).length : Nat) : Int)).toNat = ds.length := by rw [Int.toNat_natCast, List.length_map, hl]
      rw [e] at hus
      have q := k H' (kb.clean frz)
      rw [firstU_none hus] at q
      exact q
end
end Qk

/-! part W7 -/
set_option Elab.async false
set_option linter.all false
set_option maxRecDepth 100000
set_option maxHeartbeats 4000000
namespace Qk
open PySem PySem.Spec L2
open PyProof.Rows hiding St
abbrev sTold : Stmt := top 43
abbrev sDue : Stmt := top 44
def spDue (K : PySem.W.Frag) : Sp := fun vs H Q _ => ∃ (a b : Addr) (ps : List (Str × V)) (ds : List Dd) (m : V), vs = [.ref a, .ref b, m] ∧ PlcAt K H a ps ∧ DlAt K H b ds ∧ (keys ps).Nodup ∧ ps.length ≤ 4 ∧ ds.length ≤ 100 ∧ Fit (Sto.init ps) ds ds.length ∧
  (firstU (Sto.init ps) ds = none → ∀ H', Same H H' → Q .non H') ∧ (∀ n, firstU (Sto.init ps) ds = some n → ∀ p H', Same H H' → H p = none → DlAt K H' p (surr (Sto.init ps) ds m n) → Q (.ref p) H')
/-- the deeds that are told -/
def tolds (c : Str) (way : Nat) (v : V) (deep : Nat) : List Dd :=
  let spot : Str := if deep = 0 then ("t1" : Str) else c
  [.bg "t1" c, .wr "t1" v, .bg "t2" "t1", .wr "t2" (.int 8), .rd "t2"] ++
    if way = 0 then [.bg "t3" spot, .rd "t3"] else if way = 1 then [.rd spot, .ov "t2"] else if way = 2 then [.wr spot (.int 9), .rd "t1", .rd c] else [.ov "t1", .rd "t2", .rd c]
def spTold (K : PySem.W.Frag) : Sp := fun vs H Q _ => ∃ (c : Str) (way deep : Nat) (v : V), vs = [.str c, .int (way : Int), v, .int (deep : Int)] ∧ way < 4 ∧ deep < 2 ∧ ∀ p H', Same H H' → H p = none → DlAt K H' p (tolds c way v deep) → Q (.ref p) H'
section
variable {P : Program} {w : World} {K : PySem.W.Frag} {mg : Str → Option Value} {base : Heap}
theorem lw_take {ps : List (Str × V)} {ds : List Dd} {n : Nat} : lwAt (Lw.init ps) (ds.take n) (ds.take n).length = lwAt (Lw.init ps) ds n := by
  unfold lwAt; rw [List.take_length]
theorem sl_lst {K : PySem.W.Frag} {H : Hp} {a : Addr} {xs : List V} {n : Nat} {Q : VK} (h : H a = some (.lst xs)) (hn : n ≤ xs.length) (q : ∀ p H', Same H H' → H p = none → H' p = some (.lst (xs.take n)) → Q (.ref p) H') :
    rSlL K (.ref a) none (some (n : Int)) H Q ∨ rSlT K (.ref a) none (some (n : Int)) H Q := by
  refine .inl ⟨a, xs, rfl, SqL.of h, fun p hp => q p _ (KB.same (KB.refl.new hp)) hp ?_⟩
  rw [cut_take xs hn]
  exact upd_same
/-- tuples that were just laid -/
theorem new_tups {H : Hp} {t : Addr} {xs : List V} (h : H t = none) : Same H (upd H t (.tup xs)) := KB.same (KB.refl.new h)
theorem new_list {H : Hp} {t : Addr} {xs : List V} (h : H t = none) : Same H (upd H t (.lst xs)) := KB.same (KB.refl.new h)
theorem scDue : FnScope ["_law_places", "_law_deeds_here", "_law_value_here", "_law_at", "_law_store_here", "_law_deed", "_law_spot", "_law_end"] ["_law_places", "_law_deeds_here", "_law_value_here"] (defScope sDue) := ⟨rfl, rfl, rfl, by decide +kernel, rfl, by decide +kernel, by decide +kernel⟩
theorem ok_due {f fU fP fT fE : Addr} {fd dU dP dT dE : FuncData} (F : Fun K "_law_due" "_law_due" sDue f fd) (MU : CallM P w K mg base CX0 4 fU dU "_law_untidy" ["_law_places", "_law_deeds_here"] (spUnt K)) (MPl : CallM P w K mg base CX0 4 fP dP "_law_played" ["_law_places", "_law_deeds_here", "_law_copies"] (spPlayed K)) (MT : CallM P w K mg base CX0 1 fT dT "_law_touch" ["_law_deed"] (spCell K)) (ME : CallM P w K mg base CX0 2 fE dE "_law_chain_end" ["_law_store_here", "_law_spot"] spLCE) : FnOk P w K mg base CX0 5 f fd ["_law_places", "_law_deeds_here", "_law_value_here"] (spDue K) := by
  refine F.ok scDue (fun vs H Q E h => ?_) (fun cdv A outer s H vs Q E hr h => ?_)
  · obtain ⟨a, b, ps, ds, m, rfl, _⟩ := h
    rfl
  · obtain ⟨a, b, ps, ds, m, rfl, hP, hD, hnd, hpl, hdl, hfit, k0, k1⟩ := h
    have hu := hu_of hr
    refine ⟨_, (pss_cons (ps_set (i := 3) scDue.nd rfl (.inl rfl) (by exact (pe_call MU.G (hr.mono (by decide)) rfl MU.g MU.kp MU.b .nil pass0 (by exact (pa_cons (pv 0) (pa_cons (pv 1) pa_nil))))))
      (pss_cons (ps_if (pt_cmpR op_isN (pv 3) pe_non (nomark _)) (pss_one (ps_ret pe_non)) pss_nil)
      (pss_cons (ps_set (i := 4) scDue.nd rfl (.inl rfl) (pe_ix ix_tup (by exact (pe_call MPl.G (hr.mono (by decide)) rfl MPl.g MPl.kp MPl.b .nil pass0 (by exact (pa_cons (pv 0) (pa_cons (pe_slice (sl_list.or sl_tup) (pv 1) po_none (po_some (pv 3))) (pa_cons pe_bl pa_nil)))))) pe_int (fun _ _ => rfl)))
      (pss_cons (ps_set (i := 5) scDue.nd rfl (.inl rfl) (pe_ix ix_list (pv 1) (pv 3) (fun _ _ => rfl)))
      (pss_cons (ps_set (i := 6) scDue.nd rfl (.inl rfl) (by exact (pe_call MT.G (hr.mono (by decide)) rfl MT.g MT.kp MT.b .nil pass0 (by exact (pa_cons (pv 5) pa_nil)))))
      (pss_cons (ps_set (i := 7) scDue.nd rfl (.inl rfl) (by exact (pe_call ME.G (hr.mono (by decide)) rfl ME.g ME.kp ME.b .nil pass0 (by exact (pa_cons (pv 4) (pa_cons (pv 6) pa_nil))))))
      (pss_cons (ps_if (pt_cmpR op_eq (pe_ix ix_tup (pv 5) pe_int (fun _ _ => rfl)) pe_str (nomark _)) (pss_one (ps_ret (pe_op op_cat (pe_slice (sl_list.or sl_tup) (pv 1) po_none (po_some (pv 3))) (pe_lst (by exact (pa_cons (pe_tup (by exact (pa_cons pe_str (pa_cons (pv 7) (pa_cons (pv 2) pa_nil))))) (pa_cons (pv 5) (pa_cons (pe_tup (by exact (pa_cons pe_str (pa_cons (pe_ix ix_tup (pv 5) pe_int (fun _ _ => rfl)) pa_nil)))) pa_nil)))))))) pss_nil)
      (pss_cons (ps_if (pt_cmpR op_eq (pe_ix ix_tup (pv 5) pe_int (fun _ _ => rfl)) pe_str (nomark _)) (pss_one (ps_ret (pe_op op_cat (pe_slice (sl_list.or sl_tup) (pv 1) po_none (po_some (pv 3))) (pe_lst (by exact (pa_cons (pe_tup (by exact (pa_cons pe_str (pa_cons (pv 7) (pa_cons (pv 2) pa_nil))))) (pa_cons (pv 5) pa_nil))))))) pss_nil)
      (pss_cons (ps_if (pt_cmpR op_eq (pe_ix ix_tup (pv 5) pe_int (fun _ _ => rfl)) pe_str (nomark _)) (pss_one (ps_ret (pe_op op_cat (pe_slice (sl_list.or sl_tup) (pv 1) po_none (po_some (pv 3))) (pe_lst (by exact (pa_cons (pe_tup (by exact (pa_cons pe_str (pa_cons (pv 6) (pa_cons (pv 2) pa_nil))))) (pa_cons (pe_tup (by exact (pa_cons pe_str (pa_cons (pv 7) pa_nil)))) pa_nil))))))) pss_nil)
      (pss_one (ps_ret (pe_op op_cat (pe_slice (sl_list.or sl_tup) (pv 1) po_none (po_some (pv 3))) (pe_lst (by exact (pa_cons (pv 5) (pa_cons (pe_tup (by exact (pa_cons pe_str (pa_cons (pv 7) (pa_cons (pv 2) pa_nil))))) (pa_cons (pe_tup (by exact (pa_cons pe_str (pa_cons (pe_dget hu (pe_ix ix_list (pv 4) pe_int (fun _ _ => rfl)) (pv 6) (fun _ _ => rfl)) pa_nil)))) pa_nil))))))))))))))))), ?_⟩
    refine ⟨_, rfl, _, rfl, a, b, ps, ds, rfl, hP, hD, hnd, hpl, hdl, hfit, fun H1 s1 => ?_⟩
    obtain ⟨ts, hL, hPd⟩ := id hD
    have hlen : ts.length = ds.length := Paired.length hPd
    cases eu : firstU (Sto.init ps) ds with
    | none => exact ⟨_, rfl, rfl, _, rfl, if_true_of rfl (k0 eu H1 s1)⟩
    | some n =>
      obtain ⟨hn, hun, hbusy⟩ := firstU_some eu
      obtain ⟨d, hd⟩ : ∃ d, ds[n]? = some d := ⟨ds[n], List.getElem?_eq_getElem hn⟩
      obtain ⟨t, ht, hT⟩ : ∃ t, ts[n]? = some t ∧ SqT K H t d.vs := by
        obtain ⟨t, ht⟩ : ∃ t, ts[n]? = some t := ⟨ts[n], List.getElem?_eq_getElem (by omega)⟩
        obtain ⟨d', e1, e2⟩ := paired_get hPd ht
        rw [hd] at e1; cases e1
        exact ⟨t, ht, e2⟩
      have htv : (ts.map V.ref)[n]? = some (.ref t) := by rw [List.getElem?_map, ht]; rfl
      have hfn : Fit (Sto.init ps) ds n := hfit.mono (Nat.le_of_lt hn)
      obtain ⟨ok, sm⟩ := run_ok hnd hpl (by omega) (Nat.le_of_lt hn) hfn
      have ff := hfit n d hn hd
      have hroot : ((stAt (Sto.init ps) ds n).root d.touch).isSome = true := by
        cases q : (stAt (Sto.init ps) ds n).root d.touch with
        | some r => rfl
        | none => rw [root_unfit ok q] at ff; cases ff
      have sim := sim_run hnd (Nat.le_of_lt hn) hfn
      have lsm := (lw_run (ds := ds) hpl (Nat.le_of_lt hn)).sm (by omega)
      have hLs : ∀ {H' : Hp}, Same H H' → SqL K H' b (ts.map V.ref) := fun {H'} sh => SqL.of (sh _ _ hL)
      refine ⟨_, rfl, rfl, _, rfl, if_false_of rfl ?_⟩
      have hnl : n ≤ (ts.map V.ref).length := by rw [List.length_map]; omega
      refine ⟨_, rfl, _, rfl, _, rfl, _, rfl, sl_lst (n := n) (s1 _ _ hL) hnl fun p1 H2 s2 hp1 hp12 => ?_⟩
      have s12 : Same H H2 := fun b o e => s2 _ _ (s1 _ _ e)
      have el : (ds.take n).length = n := by rw [List.length_take]; omega
      refine ⟨a, p1, ps, ds.take n, rfl, hP.keep s12, ⟨ts.take n, by rw [List.map_take]; exact hp12, paired_take n (Paired.mapP hPd fun t d y => sameT s12 y)⟩, hnd, hpl, by omega, ?_, fun T u z H3 s3 hT3 A3 => ?_⟩
      · rw [el]
        exact Fit.take (n := n) (by rw [List.take_take, Nat.min_self]) hfn
      rw [lw_take] at A3
      have s13 : Same H H3 := fun b o e => s3 _ _ (s12 _ _ e)
      refine ⟨T, _, _, _, rfl, rfl, SqT.of hT3, atI_nat (j := 1) rfl, ?_⟩
      have hTd := sameT s13 hT
      refine ⟨_, rfl, _, rfl, b, _, _, _, rfl, rfl, hLs s13, atI_nat htv, ?_⟩
      refine ⟨_, rfl, t, d, rfl, hTd, ?_⟩
      refine ⟨_, rfl, _, rfl, z, _, _, d.touch, rfl, A3, lsm, sim, ok, fun H4 s4 => ?_⟩
      have s14 : Same H H4 := fun b o e => s4 _ _ (s13 _ _ e)
      have hT4 := sameT s14 hT
      have A4 := A3.keep s4
      have hb4 : H4 b = some (.lst (ts.map V.ref)) := s14 _ _ hL
      have fin : ∀ (q : Addr) (H5 H' : Hp) (new : List Addr) (dsn : List Dd), Same H4 H5 → Same H5 H' → H5 q = none → H' q = some (.lst ((ts.map V.ref).take n ++ new.map V.ref)) → Paired (fun t d => SqT K H' t d.vs) new dsn → surr (Sto.init ps) ds m n = ds.take n ++ dsn → Q (.ref q) H' := fun q H5 H' new dsn sh0 sh hq hq2 hp3 es => by
        have sA : Same H H' := fun b o e => sh _ _ (sh0 _ _ (s14 _ _ e))
        refine k1 n eu q H' sA (none_of_same (fun b o e => sh0 _ _ (s14 _ _ e)) hq) ?_
        rw [es]
        exact ⟨ts.take n ++ new, by rw [List.map_append, List.map_take]; exact hq2, paired_app (paired_take n (Paired.mapP hPd fun t d y => sameT sA y)) hp3⟩
      have sz : ∀ k : Nat, k ≤ 3 → ((ts.map V.ref).take n).length + k ≤ sizeLine := fun k hk => line_le (m := 900) (by rw [List.length_take, List.length_map]; omega)
      cases d with
      | bg kk tt =>
        refine ⟨_, rfl, t, _, _, _, rfl, rfl, hT4, rfl, rfl, _, rfl, if_true_of (by decide +kernel) ?_⟩
        refine ⟨_, rfl, _, rfl, _, rfl, sl_lst (n := n) hb4 hnl fun p5 H5 s5 hp5 hp52 => ?_⟩
        refine ⟨_, rfl, _, rfl, line_le (m := 3) (Nat.le_refl 3), fun t1 h1 => ⟨_, rfl, _, rfl, t, _, _, _, rfl, rfl, sameT (new_tups h1) (sameT s5 hT4), rfl, line_le (m := 3) (by decide : 2 ≤ 3), fun t2 h2 => ⟨line_le (m := 3) (Nat.le_refl 3), fun l2 hl2 => ?_⟩⟩⟩
        have sA := new_tups (xs := [.str "write", .str ((stAt (Sto.init ps) ds n).endOf tt), m]) h1
        have sB := new_tups (xs := [.str "read", .str kk]) h2
        have sC := new_list (xs := [.ref t1, .ref t, .ref t2]) hl2
        refine ⟨p5, l2, _, _, rfl, rfl, sC _ _ (sB _ _ (sA _ _ hp52)), upd_same, sz 3 (by decide), fun q hq => ?_⟩
        have sD := new_list (xs := (ts.map V.ref).take n ++ [.ref t1, .ref t, .ref t2]) hq
        have sAll : Same H5 _ := fun b o e => sD b o (sC b o (sB b o (sA b o e)))
        refine fin q H5 _ [t1, t, t2] [.wr ((stAt (Sto.init ps) ds n).endOf tt) m, .bg kk tt, .rd kk] s5 sAll (none_of_same sA (none_of_same sB (none_of_same sC hq))) upd_same (.cons (SqT.of (sD _ _ (sC _ _ (sB _ _ upd_same)))) (.cons (sameT sAll (sameT s5 hT4)) (.cons (SqT.of (sD _ _ (sC _ _ upd_same))) .nil))) ?_
        unfold surr; rw [hd]
      | rd c =>
        refine ⟨_, rfl, t, _, _, _, rfl, rfl, hT4, rfl, rfl, _, rfl, if_false_of (by decide +kernel) ⟨_, rfl, t, _, _, _, rfl, rfl, hT4, rfl, rfl, _, rfl, if_true_of (by decide +kernel) ?_⟩⟩
        refine ⟨_, rfl, _, rfl, _, rfl, sl_lst (n := n) hb4 hnl fun p5 H5 s5 hp5 hp52 => ?_⟩
        refine ⟨_, rfl, _, rfl, line_le (m := 3) (Nat.le_refl 3), fun t1 h1 => ⟨_, rfl, line_le (m := 3) (by decide : 2 ≤ 3), fun l2 hl2 => ?_⟩⟩
        have sA := new_tups (xs := [.str "write", .str ((stAt (Sto.init ps) ds n).endOf c), m]) h1
        have sC := new_list (xs := [.ref t1, .ref t]) hl2
        refine ⟨p5, l2, _, _, rfl, rfl, sC _ _ (sA _ _ hp52), upd_same, sz 2 (by decide), fun q hq => ?_⟩
        have sD := new_list (xs := (ts.map V.ref).take n ++ [.ref t1, .ref t]) hq
        have sAll : Same H5 _ := fun b o e => sD b o (sC b o (sA b o e))
        refine fin q H5 _ [t1, t] [.wr ((stAt (Sto.init ps) ds n).endOf c) m, .rd c] s5 sAll (none_of_same sA (none_of_same sC hq)) upd_same (.cons (SqT.of (sD _ _ (sC _ _ upd_same))) (.cons (sameT sAll (sameT s5 hT4)) .nil)) ?_
        unfold surr; rw [hd]
      | wr c v =>
        refine ⟨_, rfl, t, _, _, _, rfl, rfl, hT4, rfl, rfl, _, rfl, if_false_of (by decide +kernel) ⟨_, rfl, t, _, _, _, rfl, rfl, hT4, rfl, rfl, _, rfl, if_false_of (by decide +kernel) ⟨_, rfl, t, _, _, _, rfl, rfl, hT4, rfl, rfl, _, rfl, if_true_of (by decide +kernel) ?_⟩⟩⟩
        refine ⟨_, rfl, _, rfl, _, rfl, sl_lst (n := n) hb4 hnl fun p5 H5 s5 hp5 hp52 => ?_⟩
        refine ⟨_, rfl, _, rfl, line_le (m := 3) (Nat.le_refl 3), fun t1 h1 => ⟨_, rfl, line_le (m := 3) (by decide : 2 ≤ 3), fun t2 h2 => ⟨line_le (m := 3) (by decide : 2 ≤ 3), fun l2 hl2 => ?_⟩⟩⟩
        have sA := new_tups (xs := [.str "write", .str c, m]) h1
        have sB := new_tups (xs := [.str "read", .str ((stAt (Sto.init ps) ds n).endOf c)]) h2
        have sC := new_list (xs := [.ref t1, .ref t2]) hl2
        refine ⟨p5, l2, _, _, rfl, rfl, sC _ _ (sB _ _ (sA _ _ hp52)), upd_same, sz 2 (by decide), fun q hq => ?_⟩
        have sD := new_list (xs := (ts.map V.ref).take n ++ [.ref t1, .ref t2]) hq
        have sAll : Same H5 _ := fun b o e => sD b o (sC b o (sB b o (sA b o e)))
        refine fin q H5 _ [t1, t2] [.wr c m, .rd ((stAt (Sto.init ps) ds n).endOf c)] s5 sAll (none_of_same sA (none_of_same sB (none_of_same sC hq))) upd_same (.cons (SqT.of (sD _ _ (sC _ _ (sB _ _ upd_same)))) (.cons (SqT.of (sD _ _ (sC _ _ upd_same))) .nil)) ?_
        unfold surr; rw [hd]
      | ov c =>
        refine ⟨_, rfl, t, _, _, _, rfl, rfl, hT4, rfl, rfl, _, rfl, if_false_of (by decide +kernel) ⟨_, rfl, t, _, _, _, rfl, rfl, hT4, rfl, rfl, _, rfl, if_false_of (by decide +kernel) ⟨_, rfl, t, _, _, _, rfl, rfl, hT4, rfl, rfl, _, rfl, if_false_of (by decide +kernel) ?_⟩⟩⟩
        have hk : c ∈ keys (stAt (Sto.init ps) ds n).tg := of_decide_eq_true ff
        obtain ⟨tt, ett⟩ := aget_of_mem hk
        have ett2 : aget (lwAt (Lw.init ps) ds n).tg c = some tt := by rw [sim.tg c hk]; exact ett
        refine ⟨_, rfl, _, rfl, _, rfl, sl_lst (n := n) hb4 hnl fun p5 H5 s5 hp5 hp52 => ?_⟩
        refine ⟨_, rfl, _, rfl, _, rfl, line_le (m := 3) (Nat.le_refl 3), fun t1 h1 => ?_⟩
        have sA := new_tups (xs := [.str "write", .str ((stAt (Sto.init ps) ds n).endOf c), m]) h1
        have A6 := (A4.keep s5).keep sA
        obtain ⟨q6, ob6, _⟩ := A6.ob
        refine ⟨_, rfl, z.s, _, _, _, rfl, rfl, SqL.of ob6, atI_nat (j := 2) rfl, _, rfl, z.t, .str tt, rfl, (by have y := DGet.k (k := Sum.inr c) A6.tg; rw [kv_val, ett2] at y; exact y), line_le (m := 3) (by decide : 2 ≤ 3), fun t2 h2 => ⟨line_le (m := 3) (Nat.le_refl 3), fun l2 hl2 => ?_⟩⟩
        have sB := new_tups (xs := [.str "read", .str tt]) h2
        have sC := new_list (xs := [.ref t, .ref t1, .ref t2]) hl2
        refine ⟨p5, l2, _, _, rfl, rfl, sC _ _ (sB _ _ (sA _ _ hp52)), upd_same, sz 3 (by decide), fun q hq => ?_⟩
        have sD := new_list (xs := (ts.map V.ref).take n ++ [.ref t, .ref t1, .ref t2]) hq
        have sAll : Same H5 _ := fun b o e => sD b o (sC b o (sB b o (sA b o e)))
        refine fin q H5 _ [t, t1, t2] [.ov c, .wr ((stAt (Sto.init ps) ds n).endOf c) m, .rd tt] s5 sAll (none_of_same sA (none_of_same sB (none_of_same sC hq))) upd_same (.cons (sameT sAll (sameT s5 hT4)) (.cons (SqT.of (sD _ _ (sC _ _ (sB _ _ upd_same)))) (.cons (SqT.of (sD _ _ (sC _ _ upd_same))) .nil))) ?_
        unfold surr; rw [hd]
        show ds.take n ++ [_, _, .rd ((aget (stAt (Sto.init ps) ds n).tg c).getD c)] = _
        rw [ett]
        rfl
theorem scTold : FnScope ["_law_place", "_law_way", "_law_value_here", "_law_deep", "_law_spot", "_law_found"] ["_law_place", "_law_way", "_law_value_here", "_law_deep"] (defScope sTold) := ⟨rfl, rfl, rfl, by decide +kernel, rfl, by decide +kernel, by decide +kernel⟩
theorem ok_told {f : Addr} {fd : FuncData} (F : Fun K "_law_told" "_law_told" sTold f fd) : FnOk P w K mg base CX0 1 f fd ["_law_place", "_law_way", "_law_value_here", "_law_deep"] (spTold K) := by
  refine F.ok scTold (fun vs H Q E h => ?_) (fun cdv A outer s H vs Q E hr h => ?_)
  · obtain ⟨c, way, deep, v, rfl, _⟩ := h
    rfl
  · obtain ⟨c, way, deep, v, rfl, hw, hdp, k⟩ := h
    refine ⟨_, (pss_cons (ps_set (i := 4) scTold.nd rfl (.inl rfl) (pe_ix ix_list (pe_lst (by exact (pa_cons pe_str (pa_cons (pv 0) pa_nil)))) (pv 3) (fun _ _ => rfl)))
      (pss_cons (ps_set (i := 5) scTold.nd rfl (.inl rfl) (pe_lst (by exact (pa_cons (pe_tup (by exact (pa_cons pe_str (pa_cons pe_str (pa_cons (pv 0) pa_nil))))) (pa_cons (pe_tup (by exact (pa_cons pe_str (pa_cons pe_str (pa_cons (pv 2) pa_nil))))) (pa_cons (pe_tup (by exact (pa_cons pe_str (pa_cons pe_str (pa_cons pe_str pa_nil))))) (pa_cons (pe_tup (by exact (pa_cons pe_str (pa_cons pe_str (pa_cons pe_int pa_nil))))) (pa_cons (pe_tup (by exact (pa_cons pe_str (pa_cons pe_str pa_nil)))) pa_nil))))))))
      (pss_cons (ps_if (pt_cmpR op_eq (pv 1) pe_int (nomark _)) (pss_one (ps_ret (pe_op op_cat (pv 5) (pe_lst (by exact (pa_cons (pe_tup (by exact (pa_cons pe_str (pa_cons pe_str (pa_cons (pv 4) pa_nil))))) (pa_cons (pe_tup (by exact (pa_cons pe_str (pa_cons pe_str pa_nil)))) pa_nil))))))) pss_nil)
      (pss_cons (ps_if (pt_cmpR op_eq (pv 1) pe_int (nomark _)) (pss_one (ps_ret (pe_op op_cat (pv 5) (pe_lst (by exact (pa_cons (pe_tup (by exact (pa_cons pe_str (pa_cons (pv 4) pa_nil)))) (pa_cons (pe_tup (by exact (pa_cons pe_str (pa_cons pe_str pa_nil)))) pa_nil))))))) pss_nil)
      (pss_cons (ps_if (pt_cmpR op_eq (pv 1) pe_int (nomark _)) (pss_one (ps_ret (pe_op op_cat (pv 5) (pe_lst (by exact (pa_cons (pe_tup (by exact (pa_cons pe_str (pa_cons (pv 4) (pa_cons pe_int pa_nil))))) (pa_cons (pe_tup (by exact (pa_cons pe_str (pa_cons pe_str pa_nil)))) (pa_cons (pe_tup (by exact (pa_cons pe_str (pa_cons (pv 0) pa_nil)))) pa_nil)))))))) pss_nil)
      (pss_one (ps_ret (pe_op op_cat (pv 5) (pe_lst (by exact (pa_cons (pe_tup (by exact (pa_cons pe_str (pa_cons pe_str pa_nil)))) (pa_cons (pe_tup (by exact (pa_cons pe_str (pa_cons pe_str pa_nil)))) (pa_cons (pe_tup (by exact (pa_cons pe_str (pa_cons (pv 0) pa_nil)))) pa_nil))))))))))))), ?_⟩
    refine ⟨_, rfl, line_le (n := 2) (m := 1000) (by decide), fun l hl => ⟨_, rfl, l, _, _, .str (if deep = 0 then ("t1" : Str) else c), rfl, rfl, SqL.of upd_same, atI_nat (j := deep) ?_, ?_⟩⟩
    · have : deep = 0 ∨ deep = 1 := by omega
      rcases this with rfl | rfl <;> rfl
    generalize hspot : (if deep = 0 then ("t1" : Str) else c) = spot
    have s0 := new_list (xs := [.str "t1", .str c]) hl
    generalize upd H l (.lst [.str "t1", .str c]) = H0 at s0 ⊢
    refine ⟨_, rfl, line_le (n := 3) (m := 1000) (by decide), fun t1 h1 => ⟨_, rfl, line_le (n := 3) (m := 1000) (by decide), fun t2 h2 => ⟨line_le (n := 3) (m := 1000) (by decide), fun t3 h3 => ⟨line_le (n := 3) (m := 1000) (by decide), fun t4 h4 => ⟨line_le (n := 2) (m := 1000) (by decide), fun t5 h5 => ⟨line_le (n := 5) (m := 1000) (by decide), fun L hL => ?_⟩⟩⟩⟩⟩⟩
    have s1 := new_tups (xs := [.str "begin", .str "t1", .str c]) h1
    have s2 := new_tups (xs := [.str "write", .str "t1", v]) h2
    have s3 := new_tups (xs := [.str "begin", .str "t2", .str "t1"]) h3
    have s4 := new_tups (xs := [.str "write", .str "t2", .int 8]) h4
    have s5 := new_tups (xs := [.str "read", .str "t2"]) h5
    have s6 := new_list (xs := [.ref t1, .ref t2, .ref t3, .ref t4, .ref t5]) hL
    have sA : Same H _ := fun b o e => s6 _ _ (s5 _ _ (s4 _ _ (s3 _ _ (s2 _ _ (s1 _ _ (s0 b o e))))))
    have e1 := s6 _ _ (s5 _ _ (s4 _ _ (s3 _ _ (s2 _ _ upd_same))))
    have e2 := s6 _ _ (s5 _ _ (s4 _ _ (s3 _ _ upd_same)))
    have e3 := s6 _ _ (s5 _ _ (s4 _ _ upd_same))
    have e4 := s6 _ _ (s5 _ _ upd_same)
    have e5 := s6 _ _ upd_same
    have eL : upd (upd (upd (upd (upd (upd H0 t1 (.tup [.str "begin", .str "t1", .str c])) t2 (.tup [.str "write", .str "t1", v])) t3 (.tup [.str "begin", .str "t2", .str "t1"])) t4 (.tup [.str "write", .str "t2", .int 8])) t5 (.tup [.str "read", .str "t2"])) L (.lst [.ref t1, .ref t2, .ref t3, .ref t4, .ref t5]) L = some (.lst [.ref t1, .ref t2, .ref t3, .ref t4, .ref t5]) := upd_same
    show tSeq _ _ _ _ (upd (upd (upd (upd (upd (upd H0 t1 (.tup [.str "begin", .str "t1", .str c])) t2 (.tup [.str "write", .str "t1", v])) t3 (.tup [.str "begin", .str "t2", .str "t1"])) t4 (.tup [.str "write", .str "t2", .int 8])) t5 (.tup [.str "read", .str "t2"])) L (.lst [.ref t1, .ref t2, .ref t3, .ref t4, .ref t5]))
    generalize upd (upd (upd (upd (upd (upd H0 t1 (.tup [.str "begin", .str "t1", .str c])) t2 (.tup [.str "write", .str "t1", v])) t3 (.tup [.str "begin", .str "t2", .str "t1"])) t4 (.tup [.str "write", .str "t2", .int 8])) t5 (.tup [.str "read", .str "t2"])) L (.lst [.ref t1, .ref t2, .ref t3, .ref t4, .ref t5]) = H6 at sA e1 e2 e3 e4 e5 eL ⊢
    have fin : ∀ (q : Addr) (H' : Hp) (new : List Addr) (dsn : List Dd), Same H6 H' → H6 q = none → H' q = some (.lst ([.ref t1, .ref t2, .ref t3, .ref t4, .ref t5] ++ new.map V.ref)) → Paired (fun t d => SqT K H' t d.vs) new dsn →
        tolds c way v deep = [.bg "t1" c, .wr "t1" v, .bg "t2" "t1", .wr "t2" (.int 8), .rd "t2"] ++ dsn → Q (.ref q) H' := fun q H' new dsn sh hq hq2 hp3 es => by
      refine k q H' (fun b o e => sh _ _ (sA _ _ e)) (none_of_same sA hq) ?_
      rw [es]
      exact ⟨[t1, t2, t3, t4, t5] ++ new, hq2, paired_app (.cons (SqT.of (sh _ _ e1)) (.cons (SqT.of (sh _ _ e2)) (.cons (SqT.of (sh _ _ e3)) (.cons (SqT.of (sh _ _ e4)) (.cons (SqT.of (sh _ _ e5)) .nil))))) hp3⟩
    have ne : ∀ j : Nat, way ≠ j → decide (V.int (way : Int) = V.int (j : Int)) = false := fun j hj => decide_eq_false fun z => by
      have := V.int.inj z
      omega
    by_cases w0 : way = 0
    · subst w0
      refine ⟨_, rfl, rfl, _, rfl, if_true_of (by simp) ?_⟩
      refine ⟨_, rfl, _, rfl, line_le (n := 3) (m := 1000) (by decide), fun t6 h6 => ⟨line_le (n := 2) (m := 1000) (by decide), fun t7 h7 => ⟨line_le (n := 2) (m := 1000) (by decide), fun l2 hl2 => ?_⟩⟩⟩
      have r1 := new_tups (xs := [.str "begin", .str "t3", .str spot]) h6
      have r2 := new_tups (xs := [.str "read", .str "t3"]) h7
      have r3 := new_list (xs := [.ref t6, .ref t7]) hl2
      refine ⟨L, l2, _, _, rfl, rfl, r3 _ _ (r2 _ _ (r1 _ _ eL)), upd_same, line_le (n := 7) (m := 1000) (by decide), fun q hq => ?_⟩
      have r4 := new_list (xs := [.ref t1, .ref t2, .ref t3, .ref t4, .ref t5] ++ [.ref t6, .ref t7]) hq
      refine fin q _ [t6, t7] [.bg "t3" spot, .rd "t3"] (fun b o e => r4 _ _ (r3 _ _ (r2 _ _ (r1 _ _ e)))) (none_of_same r1 (none_of_same r2 (none_of_same r3 hq))) upd_same (.cons (SqT.of (r4 _ _ (r3 _ _ (r2 _ _ upd_same)))) (.cons (SqT.of (r4 _ _ (r3 _ _ upd_same))) .nil)) ?_
      unfold tolds; rw [hspot]; rfl
    · refine ⟨_, rfl, rfl, _, rfl, if_false_of (ne 0 w0) ?_⟩
      by_cases w1 : way = 1
      · subst w1
        refine ⟨_, rfl, rfl, _, rfl, if_true_of (by simp) ?_⟩
        refine ⟨_, rfl, _, rfl, line_le (n := 2) (m := 1000) (by decide), fun t6 h6 => ⟨line_le (n := 2) (m := 1000) (by decide), fun t7 h7 => ⟨line_le (n := 2) (m := 1000) (by decide), fun l2 hl2 => ?_⟩⟩⟩
        have r1 := new_tups (xs := [.str "read", .str spot]) h6
        have r2 := new_tups (xs := [.str "over", .str "t2"]) h7
        have r3 := new_list (xs := [.ref t6, .ref t7]) hl2
        refine ⟨L, l2, _, _, rfl, rfl, r3 _ _ (r2 _ _ (r1 _ _ eL)), upd_same, line_le (n := 7) (m := 1000) (by decide), fun q hq => ?_⟩
        have r4 := new_list (xs := [.ref t1, .ref t2, .ref t3, .ref t4, .ref t5] ++ [.ref t6, .ref t7]) hq
        refine fin q _ [t6, t7] [.rd spot, .ov "t2"] (fun b o e => r4 _ _ (r3 _ _ (r2 _ _ (r1 _ _ e)))) (none_of_same r1 (none_of_same r2 (none_of_same r3 hq))) upd_same (.cons (SqT.of (r4 _ _ (r3 _ _ (r2 _ _ upd_same)))) (.cons (SqT.of (r4 _ _ (r3 _ _ upd_same))) .nil)) ?_
        unfold tolds; rw [hspot]; rfl
      · refine ⟨_, rfl, rfl, _, rfl, if_false_of (ne 1 w1) ?_⟩
        by_cases w2 : way = 2
        · subst w2
          refine ⟨_, rfl, rfl, _, rfl, if_true_of (by simp) ?_⟩
          refine ⟨_, rfl, _, rfl, line_le (n := 3) (m := 1000) (by decide), fun t6 h6 => ⟨line_le (n := 2) (m := 1000) (by decide), fun t7 h7 => ⟨_, rfl, line_le (n := 2) (m := 1000) (by decide), fun t8 h8 => ⟨line_le (n := 3) (m := 1000) (by decide), fun l2 hl2 => ?_⟩⟩⟩⟩
          have r1 := new_tups (xs := [.str "write", .str spot, .int 9]) h6
          have r2 := new_tups (xs := [.str "read", .str "t1"]) h7
          have r2' := new_tups (xs := [.str "read", .str c]) h8
          have r3 := new_list (xs := [.ref t6, .ref t7, .ref t8]) hl2
          refine ⟨L, l2, _, _, rfl, rfl, r3 _ _ (r2' _ _ (r2 _ _ (r1 _ _ eL))), upd_same, line_le (n := 8) (m := 1000) (by decide), fun q hq => ?_⟩
          have r4 := new_list (xs := [.ref t1, .ref t2, .ref t3, .ref t4, .ref t5] ++ [.ref t6, .ref t7, .ref t8]) hq
          refine fin q _ [t6, t7, t8] [.wr spot (.int 9), .rd "t1", .rd c] (fun b o e => r4 _ _ (r3 _ _ (r2' _ _ (r2 _ _ (r1 _ _ e))))) (none_of_same r1 (none_of_same r2 (none_of_same r2' (none_of_same r3 hq)))) upd_same (.cons (SqT.of (r4 _ _ (r3 _ _ (r2' _ _ (r2 _ _ upd_same))))) (.cons (SqT.of (r4 _ _ (r3 _ _ (r2' _ _ upd_same)))) (.cons (SqT.of (r4 _ _ (r3 _ _ upd_same))) .nil))) ?_
          unfold tolds; rw [hspot]; rfl
        · refine ⟨_, rfl, rfl, _, rfl, if_false_of (ne 2 w2) ?_⟩
          refine ⟨_, rfl, line_le (n := 2) (m := 1000) (by decide), fun t6 h6 => ⟨line_le (n := 2) (m := 1000) (by decide), fun t7 h7 => ⟨_, rfl, line_le (n := 2) (m := 1000) (by decide), fun t8 h8 => ⟨line_le (n := 3) (m := 1000) (by decide), fun l2 hl2 => ?_⟩⟩⟩⟩
          have r1 := new_tups (xs := [.str "over", .str "t1"]) h6
          have r2 := new_tups (xs := [.str "read", .str "t2"]) h7
          have r2' := new_tups (xs := [.str "read", .str c]) h8
          have r3 := new_list (xs := [.ref t6, .ref t7, .ref t8]) hl2
          refine ⟨L, l2, _, _, rfl, rfl, r3 _ _ (r2' _ _ (r2 _ _ (r1 _ _ eL))), upd_same, line_le (n := 8) (m := 1000) (by decide), fun q hq => ?_⟩
          have r4 := new_list (xs := [.ref t1, .ref t2, .ref t3, .ref t4, .ref t5] ++ [.ref t6, .ref t7, .ref t8]) hq
          refine fin q _ [t6, t7, t8] [.ov "t1", .rd "t2", .rd c] (fun b o e => r4 _ _ (r3 _ _ (r2' _ _ (r2 _ _ (r1 _ _ e))))) (none_of_same r1 (none_of_same r2 (none_of_same r2' (none_of_same r3 hq)))) upd_same (.cons (SqT.of (r4 _ _ (r3 _ _ (r2' _ _ (r2 _ _ upd_same))))) (.cons (SqT.of (r4 _ _ (r3 _ _ (r2' _ _ upd_same)))) (.cons (SqT.of (r4 _ _ (r3 _ _ upd_same))) .nil))) ?_
          unfold tolds; dsimp only; rw [if_neg w0, if_neg w1, if_neg w2]
end
end Qk

/-! part W8 -/
set_option Elab.async false
set_option linter.all false
set_option maxRecDepth 100000
set_option maxHeartbeats 4000000
namespace Qk
open PySem PySem.Spec L2
open PyProof.Rows hiding St
abbrev sUnh : Stmt := top 32
abbrev sMark : Stmt := top 45
/-- the values that deeds write -/
def wvals (ds : List Dd) : List V := ds.filterMap fun d => match d with
  | .wr _ v => some v
  | _ => none
def vals (ps : List (Str × V)) (ds : List Dd) : List V := ps.map Prod.snd ++ wvals ds
theorem wvals_next {ds : List Dd} {i : Nat} {d : Dd} (h : ds[i]? = some d) : wvals (ds.take (i + 1)) = wvals (ds.take i) ++ wvals [d] := by
  unfold wvals; rw [take_next h, List.filterMap_append]
theorem wvals_le {ds : List Dd} : (wvals ds).length ≤ ds.length := List.length_filterMap_le ..
theorem vals_no {ps : List (Str × V)} {ds : List Dd} {m : V} (h : m ∉ vals ps ds) : (∀ p ∈ ps, p.2 ≠ m) ∧ ∀ d ∈ ds, d.quiet m := by
  refine ⟨fun p hp e => h (List.mem_append_left _ (List.mem_map.mpr ⟨p, hp, e⟩)), fun d hd => ?_⟩
  cases d with
  | wr c v => exact fun e => h (List.mem_append_right _ (List.mem_filterMap.mpr ⟨_, hd, by rw [e]⟩))
  | _ => trivial
/-- a short list can't hold so many -/
theorem pigeon {α : Type} [DecidableEq α] : ∀ {l m : List α}, l.Nodup → (∀ x ∈ l, x ∈ m) → l.length ≤ m.length
  | [], _, _, _ => Nat.zero_le _
  | a :: l, m, hn, h => by
    have ha := h a List.mem_cons_self
    have hn' := List.nodup_cons.mp hn
    have ih := pigeon (l := l) (m := m.erase a) hn'.2 fun x hx => (List.mem_erase_of_ne fun e => hn'.1 (by rw [← e]; exact hx)).mpr (h x (List.mem_cons_of_mem _ hx))
    rw [List.length_erase_of_mem ha] at ih
    have : 0 < m.length := List.length_pos_of_mem ha
    show l.length + 1 ≤ _
    omega
theorem eqV4 {x y : V} (hx : scal4 x = true) (hy : scal4 y = true) : eqV y x = decide (y = x) := by
  cases x <;> cases y <;> first | exact absurd hx Bool.false_ne_true | exact absurd hy Bool.false_ne_true | (unfold eqV; rw [Bool.eq_iff_iff]; simp; done) | (unfold eqV; rw [Bool.eq_iff_iff]; simp [eq_comm]; done)
theorem flat4 {x : V} (hx : scal4 x = true) : flatV x = true := by
  cases x <;> first | rfl | cases hx
theorem in4 {x : V} {l : List V} (hx : scal4 x = true) (hl : ∀ y ∈ l, scal4 y = true) : inV x l = decide (x ∈ l) := by
  unfold inV
  rw [Bool.eq_iff_iff, List.any_eq_true, decide_eq_true_iff]
  refine ⟨fun ⟨y, hy, e⟩ => ?_, fun h => ⟨x, h, by rw [eqV4 hx hx]; simp⟩⟩
  rw [eqV4 hx (hl y hy)] at e
  rw [← of_decide_eq_true e]; exact hy
theorem vals4 {ps : List (Str × V)} {ds : List Dd} (h1 : ∀ p ∈ ps, scal4 p.2 = true) (h2 : ∀ d ∈ ds, d.has fun v => scal4 v = true) : ∀ y ∈ vals ps ds, scal4 y = true := fun y hy => by
  rcases List.mem_append.mp hy with h | h
  · obtain ⟨p, hp, e⟩ := List.mem_map.mp h
    rw [← e]; exact h1 p hp
  · obtain ⟨d, hd, e⟩ := List.mem_filterMap.mp h
    cases d with
    | wr c v => cases e; exact h2 _ hd
    | _ => cases e
theorem flats4 {l : List V} (h : ∀ y ∈ l, scal4 y = true) : l.all flatV = true := List.all_eq_true.mpr fun y hy => flat4 (h y hy)
def spUnh (K : PySem.W.Frag) : Sp := fun vs H Q _ => ∃ (a b : Addr) (ps : List (Str × V)) (ds : List Dd), vs = [.ref a, .ref b] ∧ PlcAt K H a ps ∧ DlAt K H b ds ∧ ps.length ≤ 4 ∧ ds.length ≤ 100 ∧ (∀ p ∈ ps, scal4 p.2 = true) ∧ (∀ d ∈ ds, d.has fun v => scal4 v = true) ∧
  ∀ (m : Int) H', Same H H' → V.int m ∉ vals ps ds → Q (.int m) H'
def spMark (K : PySem.W.Frag) : Sp := fun vs H Q _ => ∃ (p : Addr × Addr) (a b : Addr) (ps : List (Str × V)) (ds : List Dd), vs = [.ref p.1, .ref a, .ref b] ∧ PoolAt H p ∧ (a ≠ p.1 ∧ b ≠ p.1) ∧ PlcAt K H a ps ∧ DlAt K H b ds ∧ ps.length ≤ 4 ∧ ds.length ≤ 100 ∧ (∀ p ∈ ps, scal4 p.2 = true) ∧ (∀ d ∈ ds, d.has fun v => scal4 v = true) ∧
  ∀ (m : V) H', PlS p H H' → m ∉ vals ps ds → scal4 m = true → Q m H'
section
variable {P : Program} {w : World} {K : PySem.W.Frag} {mg : Str → Option Value} {base : Heap}
theorem sd {H H' : Hp} {D : Addr} (k : KB [D] H H') (h : H D = none) : Same H H' := k.clean fun b hb => by rw [List.mem_singleton.mp hb]; exact h
theorem scUnh : FnScope ["_law_places", "_law_deeds_here", "_law_values", "_law_place", "_law_deed", "_law_value_here", "_law_k"] ["_law_places", "_law_deeds_here"] (defScope sUnh) := ⟨rfl, rfl, rfl, by decide +kernel, rfl, by decide +kernel, by decide +kernel⟩
theorem ok_unh {f : Addr} {fd : FuncData} (F : Fun K "_law_unheard" "_law_unheard" sUnh f fd) (gLen : mg "len" = none) (gRange : mg "range" = none) : FnOk P w K mg base CX0 1 f fd ["_law_places", "_law_deeds_here"] (spUnh K) := by
  refine F.ok scUnh (fun vs H Q E h => ?_) (fun cdv A outer s H vs Q E hr h => ?_)
  · obtain ⟨a, b, ps, ds, rfl, _⟩ := h
    rfl
  · obtain ⟨a, b, ps, ds, rfl, ⟨rs, hL1, hP1⟩, ⟨ts, hL2, hP2⟩, hpl, hdl, v1, v2, k⟩ := h
    refine ⟨_, (pss_cons (ps_set (i := 2) scUnh.nd rfl (.inl rfl) (pe_op op_cat (pe_lc (own := [("_law_place", 3)]) (g := gName 3) (tt := tYes) (te := (tOp (rIxT K) (tVar 3) (tC (.int 1)))) rfl scUnh.nd (pi_list (pv 0)) (blkOk_by (own := [("_law_place", 3)]) (N := ["_law_places", "_law_deeds_here", "_law_values", "_law_place", "_law_deed", "_law_value_here", "_law_k"]) (sc := defScope sUnh) (by decide +kernel)) (fun _ _ _ _ _ => (pg_name (i := 3) scUnh.nd rfl (Or.inl rfl) (Or.inr rfl))) (fun _ _ _ _ _ => pts_nil) (fun _ _ _ _ _ => (pe_ix ix_tup (pv 3) pe_int (fun _ _ => rfl)))) (pe_lc (own := [("_law_deed", 4)]) (g := gName 4) (tt := tTest (tOp rEq (tOp (rIxT K) (tVar 4) (tC (.int 0))) (tC (.str "write")))) (te := (tOp (rIxT K) (tVar 4) (tC (.int 2)))) rfl scUnh.nd (pi_list (pv 1)) (blkOk_by (own := [("_law_deed", 4)]) (N := ["_law_places", "_law_deeds_here", "_law_values", "_law_place", "_law_deed", "_law_value_here", "_law_k"]) (sc := defScope sUnh) (by decide +kernel)) (fun _ _ _ _ _ => (pg_name (i := 4) scUnh.nd rfl (Or.inl rfl) (Or.inr rfl))) (fun _ _ _ _ _ => pts_one (pt_cmpR op_eq (pe_ix ix_tup (pv 4) pe_int (fun _ _ => rfl)) pe_str (nomark _))) (fun _ _ _ _ _ => (pe_ix ix_tup (pv 4) pe_int (fun _ _ => rfl))))))
      (pss_cons (ps_set (i := 5) scUnh.nd rfl (.inl rfl) pe_int)
      (pss_cons (ps_for PassesOwn.never rfl (pi_range1 (by rfl) gRange (by exact (pa_cons (pe_op op_add (pe_callB call_len_seq (by rfl) gLen (by decide +kernel) (by exact (pa_cons (pv 2) pa_nil))) pe_int) pa_nil))) (pg_name (i := 6) scUnh.nd rfl (.inl rfl)) (pss_cons (ps_if (pt_cmpR op_notIn_seq (pv 5) (pv 2) rfl) (pss_one (ps_ret (pv 5))) pss_nil)
      (pss_one (ps_set (i := 5) scUnh.nd rfl (.inl rfl) (pe_op op_add (pv 5) pe_int)))))
      (pss_one (ps_ret (pv 5)))))), ?_⟩
    have sH : Same H H := fun _ _ e => e
    refine ⟨_, rfl, a, rfl, ⟨_, (sH).seq hL1⟩, fun D1 hD1 => ?_⟩
    refine lc_list (K := K) (a := a) (xs := rs.map V.ref) (fun i H' => H' D1 = some (.lst ((ps.map Prod.snd).take i)) ∧ KB [D1] H H') ⟨upd_same, KB.refl.upd (by simp)⟩
      (fun i H' _ h2 => (sd h2.2 hD1).seq ((sH).seq hL1)) (fun i x H' hx h2 => ?_) (fun H2 h2 => ?_)
    · rw [List.getElem?_map] at hx
      cases ei : rs[i]? with
      | none => rw [ei] at hx; cases hx
      | some r =>
        rw [ei] at hx
        cases hx
        obtain ⟨q, eq, hT⟩ := paired_get hP1 ei
        have hT' : SqT K H' r [.str q.1, q.2] := sameT (sd h2.2 hD1) (sameT sH hT)
        have eq2 : (ps.map Prod.snd)[i]? = some q.2 := by rw [List.getElem?_map, eq]; rfl
        have hi : i < ps.length := (List.getElem?_eq_some_iff.mp eq).1
        refine ⟨rfl, _, rfl, r, _, _, _, rfl, rfl, hT', atI_nat (j := 1) rfl, _, h2.1, ?_, ?_, h2.2.upd (by simp)⟩
        · refine fits_line (m := 900) ?_
          rw [List.length_take, List.length_map]; omega
        · rw [upd_same, take_next eq2]
    have s2 : Same H H2 := sd h2.2 hD1
    have e2 : H2 D1 = some (.lst (ps.map Prod.snd)) := by
      have z := h2.1
      rw [List.length_map, Paired.length hP1, ← List.length_map (f := Prod.snd), List.take_length] at z
      exact z
    have sH2 : Same H H2 := fun b o e => s2 _ _ (sH _ _ e)
    refine ⟨_, rfl, b, rfl, ⟨_, SqL.of (sH2 _ _ hL2)⟩, fun D2 hD2 => ?_⟩
    refine lc_list (K := K) (a := b) (xs := ts.map V.ref) (fun i H' => H' D2 = some (.lst (wvals (ds.take i))) ∧ KB [D2] H2 H') ⟨upd_same, KB.refl.upd (by simp)⟩
      (fun i H' _ h3 => SqL.of ((sd h3.2 hD2) _ _ (sH2 _ _ hL2))) (fun i x H' hx h3 => ?_) (fun H3 h3 => ?_)
    · rw [List.getElem?_map] at hx
      cases ei : ts[i]? with
      | none => rw [ei] at hx; cases hx
      | some t =>
        rw [ei] at hx
        cases hx
        obtain ⟨d, ed, hT⟩ := paired_get hP2 ei
        have hT' : SqT K H' t d.vs := sameT (sd h3.2 hD2) (sameT sH2 hT)
        have ln : (wvals (ds.take i)).length ≤ 900 := Nat.le_trans wvals_le (by rw [List.length_take]; omega)
        have nx := wvals_next ed
        cases d with
        | wr c v =>
          refine ⟨rfl, _, rfl, t, _, _, _, rfl, rfl, hT', rfl, rfl, _, rfl, if_true_of (by decide +kernel) ⟨_, rfl, t, _, _, _, rfl, rfl, hT', atI_nat (j := 2) rfl, _, h3.1, fits_line ln, ?_, h3.2.upd (by simp)⟩⟩
          rw [upd_same, nx]
          rfl
        | bg kk tt =>
          refine ⟨rfl, _, rfl, t, _, _, _, rfl, rfl, hT', rfl, rfl, _, rfl, if_false_of (by decide +kernel) ⟨?_, h3.2⟩⟩
          rw [nx]
          exact h3.1.trans (by rw [show wvals [Dd.bg kk tt] = [] from rfl, List.append_nil])
        | rd c =>
          refine ⟨rfl, _, rfl, t, _, _, _, rfl, rfl, hT', rfl, rfl, _, rfl, if_false_of (by decide +kernel) ⟨?_, h3.2⟩⟩
          rw [nx]
          exact h3.1.trans (by rw [show wvals [Dd.rd c] = [] from rfl, List.append_nil])
        | ov c =>
          refine ⟨rfl, _, rfl, t, _, _, _, rfl, rfl, hT', rfl, rfl, _, rfl, if_false_of (by decide +kernel) ⟨?_, h3.2⟩⟩
          rw [nx]
          exact h3.1.trans (by rw [show wvals [Dd.ov c] = [] from rfl, List.append_nil])
    have s3 : Same H2 H3 := sd h3.2 hD2
    have e3 : H3 D2 = some (.lst (wvals ds)) := by
      have z := h3.1
      rw [List.length_map, Paired.length hP2, List.take_length] at z
      exact z
    have vl : (vals ps ds).length ≤ 900 := by
      unfold vals
      have := wvals_le (ds := ds)
      rw [List.length_append, List.length_map]; omega
    refine ⟨D1, D2, _, _, rfl, rfl, s3 _ _ e2, e3, line_le (m := 900) (by unfold vals at vl; rw [List.length_append] at vl; exact vl), fun l hl => ?_⟩
    have s4 : Same H (upd H3 l (.lst (vals ps ds))) := fun b o e => KB.same (KB.refl.new hl) _ _ (s3 _ _ (s2 _ _ e))
    have e4 : upd H3 l (.lst (vals ps ds)) l = some (.lst (vals ps ds)) := upd_same
    show tSeq _ _ _ _ (upd H3 l (.lst (vals ps ds)))
    generalize upd H3 l (.lst (vals ps ds)) = H4 at s4 e4 ⊢
    have sH4 : Same H H4 := fun b o e => s4 _ _ (sH _ _ e)

    have h4 := vals4 v1 v2
    refine ⟨_, rfl, l, _, rfl, .inl (SqL.of e4), _, _, rfl, rfl, (((vals ps ds).length : Int) + 1), rfl, by omega, by omega, ?_⟩
    refine for_range (fun i σ' H' => ∃ o : Option V, σ' = [some (.ref a), some (.ref b), some (.ref l), none, none, some (.int (1000 + (i : Int))), o] ∧ H' = H4 ∧ ∀ j, j < i → V.int (1000 + (j : Int)) ∈ vals ps ds) ⟨_, rfl, rfl, fun j hj => absurd hj (Nat.not_lt_zero j)⟩ (fun i σ' H' hi ⟨o, e1, e2', hb⟩ => ?_) (fun σ' H' ⟨o, e1, e2', hb⟩ => ?_)
    · subst e1 e2'
      refine ⟨_, rfl, _, rfl, l, _, rfl, .inl (SqL.of e4), rfl, flats4 h4, _, rfl, ?_⟩
      rw [in4 (x := .int (1000 + (i : Int))) rfl h4]
      by_cases hm : V.int (1000 + (i : Int)) ∈ vals ps ds
      · refine if_false_of (by simp [hm]) ?_
        refine ⟨_, rfl, _, _, rfl, rfl, some (.int (0 + (i : Int))), ?_, rfl, fun j hj => ?_⟩
        · have : (1000 : Int) + ((i + 1 : Nat) : Int) = 1000 + (i : Int) + 1 := by omega
          rw [this]
          rfl
        · by_cases e : j = i
          · rw [e]; exact hm
          · exact hb j (by omega)
      · exact if_true_of (by simp [hm]) ⟨_, rfl, k _ _ sH4 hm⟩
    · subst e1 e2'
      exfalso
      have en : (((vals ps ds).length : Int) + 1).toNat = (vals ps ds).length + 1 := by omega
      rw [en] at hb
      have nd : (((List.range ((vals ps ds).length + 1)).map fun j => V.int (1000 + ((j : Nat) : Int)))).Nodup := by
        refine List.Pairwise.map _ (fun x y hxy e => hxy ?_) List.nodup_range
        have := V.int.inj e
        omega
      have z := pigeon (m := vals ps ds) nd fun x hx => by
        obtain ⟨j, hj, e⟩ := List.mem_map.mp hx
        rw [← e]; exact hb j (List.mem_range.mp hj)
      rw [List.length_map, List.length_range] at z
      omega
theorem KB.seqTl {F : List Addr} {H H1 : Hp} {a : Addr} {xs : List V} (k : KB F H H1) (h : SqT K H a xs) (hF : ∀ b ∈ F, ∃ ys, H b = some (.lst ys)) : SqT K H1 a xs := by
  have nf : ∀ o, H a = some o → (∀ ys, o ≠ .lst ys) → a ∉ F := fun o e n hm => by
    obtain ⟨ys, e2⟩ := hF a hm
    rw [e] at e2; cases e2
    exact n ys rfl
  rcases h with (h | ⟨o, h⟩) | h
  · exact .inl (.inl (k _ _ h (nf _ h fun _ z => nomatch z)))
  · exact .inl (.inr ⟨o, k _ _ h (nf _ h fun _ z => nomatch z)⟩)
  · exact .inr h
theorem pool_l {H : Hp} {p : Addr × Addr} (h : PoolAt H p) : ∀ b ∈ [p.1], ∃ ys, H b = some (.lst ys) := fun b hb => by
  obtain ⟨ns, a', b', c, d, h1, _⟩ := h
  rw [List.mem_singleton.mp hb]; exact ⟨_, h1⟩
/-- places and deeds stay while the pool is drawn from -/
theorem PlcAt.pls {H H' : Hp} {p : Addr × Addr} {a : Addr} {ps : List (Str × V)} (h : PlcAt K H a ps) (hp : PoolAt H p) (s : PlS p H H') (n : a ≠ p.1) : PlcAt K H' a ps := by
  obtain ⟨rs, h1, h2⟩ := h
  exact ⟨rs, s.kb.seqL h1 (by simpa using n), Paired.mapP h2 fun r q z => s.kb.seqTl z (pool_l hp)⟩
theorem DlAt.pls {H H' : Hp} {p : Addr × Addr} {b : Addr} {ds : List Dd} (h : DlAt K H b ds) (hp : PoolAt H p) (s : PlS p H H') (n : b ≠ p.1) : DlAt K H' b ds := by
  obtain ⟨ts, h1, h2⟩ := h
  exact ⟨ts, s.kb _ _ h1 (by simpa using n), Paired.mapP h2 fun t d z => s.kb.seqTl z (pool_l hp)⟩
theorem scMark : FnScope ["_law_pool_here", "_law_places", "_law_deeds_here", "_law_letters", "_law_word_here", "_law_values", "_law_place", "_law_deed"] ["_law_pool_here", "_law_places", "_law_deeds_here"] (defScope sMark) := ⟨rfl, rfl, rfl, by decide +kernel, rfl, by decide +kernel, by decide +kernel⟩
theorem ok_mark {f fD fW fN : Addr} {fd dD dW dN : FuncData} (F : Fun K "_law_mark_of" "_law_mark_of" sMark f fd) (MD : CallM P w K mg base CX0 2 fD dD "_law_draw" ["_law_pool_here", "_law_limit"] spDraw) (MW : CallM P w K mg base CX0 3 fW dW "_law_word" ["_law_pool_here", "_law_first", "_law_signs", "_law_more"] spWord) (MN : CallM P w K mg base CX0 1 fN dN "_law_unheard" ["_law_places", "_law_deeds_here"] (spUnh K)) : FnOk P w K mg base CX0 4 f fd ["_law_pool_here", "_law_places", "_law_deeds_here"] (spMark K) := by
  refine F.ok scMark (fun vs H Q E h => ?_) (fun cdv A outer s H vs Q E hr h => ?_)
  · obtain ⟨p, a, b, ps, ds, rfl, _⟩ := h
    rfl
  · obtain ⟨p, a, b, ps, ds, rfl, hp, nab, hPl, hDl, hpl, hdl, v1, v2, k⟩ := h
    refine ⟨_, (pss_cons (ps_set (i := 3) scMark.nd rfl (.inl rfl) pe_str)
      (pss_cons (ps_set (i := 4) scMark.nd rfl (.inl rfl) (by exact (pe_call MW.G (hr.mono (by decide)) rfl MW.g MW.kp MW.b .nil pass0 (by exact (pa_cons (pv 0) (pa_cons (pv 3) (pa_cons (pv 3) (pa_cons (by exact (pe_call MD.G (hr.mono (by decide)) rfl MD.g MD.kp MD.b .nil pass0 (by exact (pa_cons (pv 0) (pa_cons pe_int pa_nil))))) pa_nil))))))))
      (pss_cons (ps_set (i := 5) scMark.nd rfl (.inl rfl) (pe_op op_cat (pe_lc (own := [("_law_place", 6)]) (g := gName 6) (tt := tYes) (te := (tOp (rIxT K) (tVar 6) (tC (.int 1)))) rfl scMark.nd (pi_list (pv 1)) (blkOk_by (own := [("_law_place", 6)]) (N := ["_law_pool_here", "_law_places", "_law_deeds_here", "_law_letters", "_law_word_here", "_law_values", "_law_place", "_law_deed"]) (sc := defScope sMark) (by decide +kernel)) (fun _ _ _ _ _ => (pg_name (i := 6) scMark.nd rfl (Or.inl rfl) (Or.inr rfl))) (fun _ _ _ _ _ => pts_nil) (fun _ _ _ _ _ => (pe_ix ix_tup (pv 6) pe_int (fun _ _ => rfl)))) (pe_lc (own := [("_law_deed", 7)]) (g := gName 7) (tt := tTest (tOp rEq (tOp (rIxT K) (tVar 7) (tC (.int 0))) (tC (.str "write")))) (te := (tOp (rIxT K) (tVar 7) (tC (.int 2)))) rfl scMark.nd (pi_list (pv 2)) (blkOk_by (own := [("_law_deed", 7)]) (N := ["_law_pool_here", "_law_places", "_law_deeds_here", "_law_letters", "_law_word_here", "_law_values", "_law_place", "_law_deed"]) (sc := defScope sMark) (by decide +kernel)) (fun _ _ _ _ _ => (pg_name (i := 7) scMark.nd rfl (Or.inl rfl) (Or.inr rfl))) (fun _ _ _ _ _ => pts_one (pt_cmpR op_eq (pe_ix ix_tup (pv 7) pe_int (fun _ _ => rfl)) pe_str (nomark _))) (fun _ _ _ _ _ => (pe_ix ix_tup (pv 7) pe_int (fun _ _ => rfl))))))
      (pss_cons (ps_if (PW.pt (pw_and (pt_cmpR op_eq (by exact (pe_call MD.G (hr.mono (by decide)) rfl MD.g MD.kp MD.b .nil pass0 (by exact (pa_cons (pv 0) (pa_cons pe_int pa_nil))))) pe_int (nomark _)) (pw_and1 (pt_cmpR op_notIn_seq (pv 4) (pv 5) rfl)))) (pss_one (ps_ret (pv 4))) pss_nil)
      (pss_one (ps_ret (by exact (pe_call MN.G (hr.mono (by decide)) rfl MN.g MN.kp MN.b .nil pass0 (by exact (pa_cons (pv 1) (pa_cons (pv 2) pa_nil))))))))))), ?_⟩
    have lz : 0 < ("abcdefghijklmnopqrstuvwxyz" : Str).length ∧ ("abcdefghijklmnopqrstuvwxyz" : Str).length ≤ 1000 := by decide +kernel
    refine ⟨_, rfl, _, rfl, _, rfl, _, rfl, p, 6, rfl, hp, by decide, by decide, fun r H1 r0 r1 s1 => ⟨p, _, _, r, rfl, s1.pl, lz.1, lz.1, lz.2, lz.2, r0, by omega, fun u Hb s2 => ?_⟩⟩
    have sp := s1.trans s2
    obtain ⟨rs, hL1, hP1⟩ := hPl.pls hp sp nab.1
    obtain ⟨ts, hL2, hP2⟩ := hDl.pls hp sp nab.2
    have sH : Same Hb Hb := fun _ _ e => e
    refine ⟨_, rfl, a, rfl, ⟨_, (sH).seq hL1⟩, fun D1 hD1 => ?_⟩
    refine lc_list (K := K) (a := a) (xs := rs.map V.ref) (fun i H' => H' D1 = some (.lst ((ps.map Prod.snd).take i)) ∧ KB [D1] Hb H') ⟨upd_same, KB.refl.upd (by simp)⟩
      (fun i H' _ h2 => (sd h2.2 hD1).seq ((sH).seq hL1)) (fun i x H' hx h2 => ?_) (fun H2 h2 => ?_)
    · rw [List.getElem?_map] at hx
      cases ei : rs[i]? with
      | none => rw [ei] at hx; cases hx
      | some r =>
        rw [ei] at hx
        cases hx
        obtain ⟨q, eq, hT⟩ := paired_get hP1 ei
        have hT' : SqT K H' r [.str q.1, q.2] := sameT (sd h2.2 hD1) (sameT sH hT)
        have eq2 : (ps.map Prod.snd)[i]? = some q.2 := by rw [List.getElem?_map, eq]; rfl
        have hi : i < ps.length := (List.getElem?_eq_some_iff.mp eq).1
        refine ⟨rfl, _, rfl, r, _, _, _, rfl, rfl, hT', atI_nat (j := 1) rfl, _, h2.1, ?_, ?_, h2.2.upd (by simp)⟩
        · refine fits_line (m := 900) ?_
          rw [List.length_take, List.length_map]; omega
        · rw [upd_same, take_next eq2]
    have s2 : Same Hb H2 := sd h2.2 hD1
    have e2 : H2 D1 = some (.lst (ps.map Prod.snd)) := by
      have z := h2.1
      rw [List.length_map, Paired.length hP1, ← List.length_map (f := Prod.snd), List.take_length] at z
      exact z
    have sH2 : Same Hb H2 := fun b o e => s2 _ _ (sH _ _ e)
    refine ⟨_, rfl, b, rfl, ⟨_, SqL.of (sH2 _ _ hL2)⟩, fun D2 hD2 => ?_⟩
    refine lc_list (K := K) (a := b) (xs := ts.map V.ref) (fun i H' => H' D2 = some (.lst (wvals (ds.take i))) ∧ KB [D2] H2 H') ⟨upd_same, KB.refl.upd (by simp)⟩
      (fun i H' _ h3 => SqL.of ((sd h3.2 hD2) _ _ (sH2 _ _ hL2))) (fun i x H' hx h3 => ?_) (fun H3 h3 => ?_)
    · rw [List.getElem?_map] at hx
      cases ei : ts[i]? with
      | none => rw [ei] at hx; cases hx
      | some t =>
        rw [ei] at hx
        cases hx
        obtain ⟨d, ed, hT⟩ := paired_get hP2 ei
        have hT' : SqT K H' t d.vs := sameT (sd h3.2 hD2) (sameT sH2 hT)
        have ln : (wvals (ds.take i)).length ≤ 900 := Nat.le_trans wvals_le (by rw [List.length_take]; omega)
        have nx := wvals_next ed
        cases d with
        | wr c v =>
          refine ⟨rfl, _, rfl, t, _, _, _, rfl, rfl, hT', rfl, rfl, _, rfl, if_true_of (by decide +kernel) ⟨_, rfl, t, _, _, _, rfl, rfl, hT', atI_nat (j := 2) rfl, _, h3.1, fits_line ln, ?_, h3.2.upd (by simp)⟩⟩
          rw [upd_same, nx]
          rfl
        | bg kk tt =>
          refine ⟨rfl, _, rfl, t, _, _, _, rfl, rfl, hT', rfl, rfl, _, rfl, if_false_of (by decide +kernel) ⟨?_, h3.2⟩⟩
          rw [nx]
          exact h3.1.trans (by rw [show wvals [Dd.bg kk tt] = [] from rfl, List.append_nil])
        | rd c =>
          refine ⟨rfl, _, rfl, t, _, _, _, rfl, rfl, hT', rfl, rfl, _, rfl, if_false_of (by decide +kernel) ⟨?_, h3.2⟩⟩
          rw [nx]
          exact h3.1.trans (by rw [show wvals [Dd.rd c] = [] from rfl, List.append_nil])
        | ov c =>
          refine ⟨rfl, _, rfl, t, _, _, _, rfl, rfl, hT', rfl, rfl, _, rfl, if_false_of (by decide +kernel) ⟨?_, h3.2⟩⟩
          rw [nx]
          exact h3.1.trans (by rw [show wvals [Dd.ov c] = [] from rfl, List.append_nil])
    have s3 : Same H2 H3 := sd h3.2 hD2
    have e3 : H3 D2 = some (.lst (wvals ds)) := by
      have z := h3.1
      rw [List.length_map, Paired.length hP2, List.take_length] at z
      exact z
    have vl : (vals ps ds).length ≤ 900 := by
      unfold vals
      have := wvals_le (ds := ds)
      rw [List.length_append, List.length_map]; omega
    refine ⟨D1, D2, _, _, rfl, rfl, s3 _ _ e2, e3, line_le (m := 900) (by unfold vals at vl; rw [List.length_append] at vl; exact vl), fun l hl => ?_⟩
    have s4 : Same Hb (upd H3 l (.lst (vals ps ds))) := fun b o e => KB.same (KB.refl.new hl) _ _ (s3 _ _ (s2 _ _ e))
    have e4 : upd H3 l (.lst (vals ps ds)) l = some (.lst (vals ps ds)) := upd_same
    show tSeq _ _ _ _ (upd H3 l (.lst (vals ps ds)))
    generalize upd H3 l (.lst (vals ps ds)) = H4 at s4 e4 ⊢
    have sH4 : Same Hb H4 := fun b o e => s4 _ _ (sH _ _ e)

    have h4 := vals4 v1 v2
    have sp4 := sp.then sH4
    refine ⟨_, rfl, p, 3, rfl, sp4.pl, by decide, by decide, fun r2 H5 q0 q1 s5 => ⟨rfl, _, rfl, ?_⟩⟩
    have sp5 := sp4.trans s5
    have nlp : l ≠ p.1 := pl_ne (sp.pl.keep fun b o e => s3 _ _ (s2 _ _ e)) hl
    have e5 : H5 l = some (.lst (vals ps ds)) := s5.obj e4 nlp
    have rest : ∃ Z, Z = H5 := ⟨_, rfl⟩
    have hP5 := hPl.pls hp sp5 nab.1
    have hD5 := hDl.pls hp sp5 nab.2
    refine iteB (fun _ => ?_) (fun _ => if_false_of rfl ?_)
    · refine ⟨_, rfl, _, rfl, l, _, rfl, .inl (SqL.of e5), rfl, flats4 h4, _, rfl, ?_⟩
      rw [in4 (x := .str u) rfl h4]
      by_cases hm : V.str u ∈ vals ps ds
      · refine if_false_of (by simp [hm]) ?_
        exact ⟨_, rfl, _, rfl, a, b, ps, ds, rfl, hP5, hD5, hpl, hdl, v1, v2, fun m H6 s6 hm => k (.int m) H6 (sp5.then s6) hm rfl⟩
      · exact if_true_of (by simp [hm]) ⟨_, rfl, k (.str u) H5 sp5 hm rfl⟩
    · exact ⟨_, rfl, _, rfl, a, b, ps, ds, rfl, hP5, hD5, hpl, hdl, v1, v2, fun m H6 s6 hm => k (.int m) H6 (sp5.then s6) hm rfl⟩
end
end Qk

/-! part W9a -/
set_option Elab.async false
set_option linter.all false
set_option maxRecDepth 100000
set_option maxHeartbeats 4000000
namespace Qk
open PySem PySem.Spec L2
open PyProof.Rows hiding St
/-! ### one more deed -/
theorem st_snoc {S : Sto} {ds : List Dd} {d : Dd} : stAt S (ds ++ [d]) (ds ++ [d]).length = (stAt S ds ds.length).step d := by
  rw [List.length_append]
  show stAt S (ds ++ [d]) (ds.length + 1) = _
  rw [stAt_next (d := d) (by simp), stAt_take (n := ds.length) (es := ds) (by simp) (Nat.le_refl _)]
theorem fit_snoc {S : Sto} {ds : List Dd} {d : Dd} (h : Fit S ds ds.length) (f : (stAt S ds ds.length).fits d = true) : Fit S (ds ++ [d]) (ds ++ [d]).length := fun j e hj he => by
  by_cases hl : j < ds.length
  · rw [stAt_take (n := ds.length) (es := ds) (by simp) (Nat.le_of_lt hl)]
    refine h j e hl ?_
    rw [List.getElem?_append_left hl] at he; exact he
  · have : j = ds.length := by rw [List.length_append] at hj; simp at hj; omega
    subst this
    rw [stAt_take (n := ds.length) (es := ds) (by simp) (Nat.le_refl _)]
    have e1 : (ds ++ [d])[ds.length]? = some d := by simp
    rw [e1] at he; cases he
    exact f
/-- kz's first sign -/
theorem kz_head : ∀ (b : Bool) (n : Fin 30), kz b (n.val : Int) ∉ (["a", "b", "c", "place", "t1", "t2", "t3", "nowhere", "fresh", ""] : List Str) := by decide +kernel
theorem kz_inj : ∀ (b c : Bool) (n m : Fin 30), kz b (n.val : Int) = kz c (m.val : Int) → n = m := by decide +kernel
/-- the loop of _law_deeds -/
structure DnI (p : Addr × Addr) (H H2 : Hp) (nm kA tA dA : Addr) (ps : List (Str × V)) (i : Nat) (ds : List Dd) (ts : List Addr) : Prop where
  pl : PlS p H H2
  hn : H2 nm = some (.lst ((keys ps).map V.str))
  hk : H2 kA = some (.lst ((keys (stAt (Sto.init ps) ds ds.length).tg).map V.str))
  ht : ∃ TG : List (Str × Str), H2 tA = some (.dK (kvOf V.str TG)) ∧ (∀ k ∈ keys (stAt (Sto.init ps) ds ds.length).tg, aget TG k = aget (stAt (Sto.init ps) ds ds.length).tg k) ∧ TG.length ≤ i
  hd : H2 dA = some (.lst (ts.map V.ref))
  hp : Paired (fun t d => H2 t = some (.tup d.vs)) ts ds
  f1 : H nm = none
  f2 : H kA = none
  f3 : H tA = none
  f4 : H dA = none
  n1 : kA ≠ dA
  n2 : kA ≠ nm
  n3 : dA ≠ nm
  fit : Fit (Sto.init ps) ds ds.length
  od : ∀ k ∈ (stAt (Sto.init ps) ds ds.length).od, ∃ (b : Bool) (n : Nat), n < i ∧ k = kz b (n : Int)
  v4 : ∀ d ∈ ds, d.has fun v => scal4 v = true
  len : ds.length = i
theorem DnI.draw {p : Addr × Addr} {H H2 H3 : Hp} {nm kA tA dA : Addr} {ps : List (Str × V)} {i : Nat} {ds : List Dd} {ts : List Addr} (I : DnI p H H2 nm kA tA dA ps i ds ts) (hp : PoolAt H p) (s : PlS p H2 H3) : DnI p H H3 nm kA tA dA ps i ds ts := by
  obtain ⟨TG, t1, t2, t3⟩ := I.ht
  have hp' : Paired (fun t d => H3 t = some (.tup (Dd.vs d))) ts ds := Paired.mapP I.hp fun t d e => s.obj e fun z => by
    obtain ⟨ns, a, b, c, d', h1, _⟩ := I.pl.pl
    rw [← z, e] at h1
    cases h1
  exact ⟨I.pl.trans s, s.obj I.hn (pl_ne hp I.f1), s.obj I.hk (pl_ne hp I.f2), ⟨TG, s.obj t1 (pl_ne hp I.f3), t2, t3⟩, s.obj I.hd (pl_ne hp I.f4), hp', I.f1, I.f2, I.f3, I.f4, I.n1, I.n2, I.n3, I.fit, I.od, I.v4, I.len⟩
theorem DnI.same {p : Addr × Addr} {H H2 H3 : Hp} {nm kA tA dA : Addr} {ps : List (Str × V)} {i : Nat} {ds : List Dd} {ts : List Addr} (I : DnI p H H2 nm kA tA dA ps i ds ts) (hp : PoolAt H p) (s : Same H2 H3) : DnI p H H3 nm kA tA dA ps i ds ts := I.draw hp (.same I.pl.pl s)
/-- the store of the deeds so far -/
theorem DnI.ok {p : Addr × Addr} {H H2 : Hp} {nm kA tA dA : Addr} {ps : List (Str × V)} {i : Nat} {ds : List Dd} {ts : List Addr} (I : DnI p H H2 nm kA tA dA ps i ds ts) (hn : (keys ps).Nodup) : (stAt (Sto.init ps) ds ds.length).Ok ∧ keys (stAt (Sto.init ps) ds ds.length).ps = keys ps :=
  ⟨stAt_ok (init_ok hn) (Nat.le_refl _) I.fit, stAt_keys (init_ok hn) (Nat.le_refl _) I.fit⟩
theorem DnI.spot {p : Addr × Addr} {H H2 : Hp} {nm kA tA dA : Addr} {ps : List (Str × V)} {i : Nat} {ds : List Dd} {ts : List Addr} (I : DnI p H H2 nm kA tA dA ps i ds ts) (hn : (keys ps).Nodup) {c : Str} (h : c ∈ keys ps ∨ c ∈ keys (stAt (Sto.init ps) ds ds.length).tg) : (stAt (Sto.init ps) ds ds.length).spot c := by
  obtain ⟨ok, ek⟩ := I.ok hn
  exact (Sto.root_some ok).mpr (by rw [ek]; exact h)
/-- some spot has no loan on it -/
theorem free_spot {S : Sto} (ok : S.Ok) (h : 0 < S.ps.length) : ∃ c, (c ∈ keys S.ps ∨ c ∈ keys S.tg) ∧ S.on c = [] := by
  obtain ⟨x, hx⟩ : ∃ x, x ∈ keys S.ps := by
    cases e : S.ps with
    | nil => rw [e] at h; exact absurd h (Nat.lt_irrefl _)
    | cons q r => exact ⟨q.1, List.mem_cons_self⟩
  by_cases hx2 : S.on x = []
  · exact ⟨x, .inl hx, hx2⟩
  · exact ⟨S.endOf x, .inr (end_key ok hx2), end_on ok x⟩
end Qk

/-! part W9b -/
set_option Elab.async false
set_option linter.all false
set_option maxRecDepth 100000
set_option maxHeartbeats 4000000
namespace Qk
open PySem PySem.Spec L2
open PyProof.Rows hiding St
/-- a deed's tuple was put behind the list of deeds -/
structure DnA (p : Addr × Addr) (H HY : Hp) (nm kA tA dA : Addr) (ps : List (Str × V)) (i : Nat) (ds : List Dd) (ts : List Addr) (d : Dd) (T : Addr) : Prop where
  pl : PlS p H HY
  hn : HY nm = some (.lst ((keys ps).map V.str))
  hk : HY kA = some (.lst ((keys (stAt (Sto.init ps) ds ds.length).tg).map V.str))
  ht : ∃ TG : List (Str × Str), HY tA = some (.dK (kvOf V.str TG)) ∧ (∀ k ∈ keys (stAt (Sto.init ps) ds ds.length).tg, aget TG k = aget (stAt (Sto.init ps) ds ds.length).tg k) ∧ TG.length ≤ i
  hd : HY dA = some (.lst ((ts ++ [T]).map V.ref))
  hp : Paired (fun t d => HY t = some (.tup d.vs)) (ts ++ [T]) (ds ++ [d])
theorem DnI.app {p : Addr × Addr} {H HX : Hp} {nm kA tA dA : Addr} {ps : List (Str × V)} {i : Nat} {ds : List Dd} {ts : List Addr} {d : Dd} {T : Addr} (I : DnI p H HX nm kA tA dA ps i ds ts) (hp : PoolAt H p) (hT : HX T = none) :
    upd HX T (.tup d.vs) dA = some (.lst (ts.map V.ref)) ∧ DnA p H (upd (upd HX T (.tup d.vs)) dA (.lst (ts.map V.ref ++ [.ref T]))) nm kA tA dA ps i ds ts d T := by
  have s1 : Same HX (upd HX T (.tup d.vs)) := new_tups hT
  have I1 := I.same hp s1
  have hT1 : upd HX T (.tup d.vs) T = some (.tup d.vs) := upd_same
  generalize upd HX T (.tup d.vs) = H1 at *
  obtain ⟨TG, t1, t2, t3⟩ := I1.ht
  have nt : tA ≠ dA := ne_of t1 I1.hd (by intro z; cases z)
  refine ⟨I1.hd, ⟨⟨I1.pl.kb.fresh I.f4, ?_⟩, by rw [upd_ne I.n3.symm]; exact I1.hn, by rw [upd_ne I.n1]; exact I1.hk, ⟨TG, by rw [upd_ne nt]; exact t1, t2, t3⟩, by rw [upd_same, List.map_append]; rfl, ?_⟩⟩
  · obtain ⟨ns, a, b, c, e, h1, h2, h3⟩ := I1.pl.pl
    have e1 : p.1 ≠ dA := (pl_ne hp I.f4).symm
    have e2 : p.2 ≠ dA := (pl_ne2 hp I.f4).symm
    exact ⟨ns, a, b, c, e, by rw [upd_ne e1]; exact h1, by rw [upd_ne e2]; exact h2, h3⟩
  · refine paired_app (Paired.mapP I1.hp fun t e q => ?_) (.cons ?_ .nil)
    · rw [upd_ne (ne_of q I1.hd (by intro z; cases z))]; exact q
    · rw [upd_ne (ne_of hT1 I1.hd (by intro z; cases z))]; exact hT1
/-- reads and writes -/
theorem DnA.plain {p : Addr × Addr} {H HX HY : Hp} {nm kA tA dA : Addr} {ps : List (Str × V)} {i : Nat} {ds : List Dd} {ts : List Addr} {d : Dd} {T : Addr} (A : DnA p H HY nm kA tA dA ps i ds ts d T) (I : DnI p H HX nm kA tA dA ps i ds ts)
    (hf : (stAt (Sto.init ps) ds ds.length).fits d = true) (hv : d.has fun v => scal4 v = true) (et : ((stAt (Sto.init ps) ds ds.length).step d).tg = (stAt (Sto.init ps) ds ds.length).tg) (eo : ((stAt (Sto.init ps) ds ds.length).step d).od = (stAt (Sto.init ps) ds ds.length).od) :
    DnI p H HY nm kA tA dA ps (i + 1) (ds ++ [d]) (ts ++ [T]) := by
  obtain ⟨TG, t1, t2, t3⟩ := A.ht
  refine ⟨A.pl, A.hn, by rw [st_snoc, et]; exact A.hk, ⟨TG, t1, by rw [st_snoc, et]; exact t2, Nat.le_succ_of_le t3⟩, A.hd, A.hp, I.f1, I.f2, I.f3, I.f4, I.n1, I.n2, I.n3, fit_snoc I.fit hf, ?_, fun e he => ?_, by rw [List.length_append, I.len]; rfl⟩
  · rw [st_snoc, eo]
    intro k hk
    obtain ⟨b, n, h1, h2⟩ := I.od k hk
    exact ⟨b, n, Nat.lt_succ_of_lt h1, h2⟩
  · rcases List.mem_append.mp he with h | h
    · exact I.v4 e h
    · rw [List.mem_singleton.mp h]; exact hv
/-- a begin -/
theorem DnA.begin {p : Addr × Addr} {H HX HY : Hp} {nm kA tA dA : Addr} {ps : List (Str × V)} {i : Nat} {ds : List Dd} {ts : List Addr} {kk c : Str} {T : Addr} {bb : Bool} {TG : List (Str × Str)} (A : DnA p H HY nm kA tA dA ps i ds ts (.bg kk c) T) (I : DnI p H HX nm kA tA dA ps i ds ts) (hp : PoolAt H p) (hn : (keys ps).Nodup)
    (hf : (stAt (Sto.init ps) ds ds.length).fits (.bg kk c) = true) (hkk : kk = kz bb (i : Int)) (t1 : HY tA = some (.dK (kvOf V.str TG))) (t2 : ∀ k ∈ keys (stAt (Sto.init ps) ds ds.length).tg, aget TG k = aget (stAt (Sto.init ps) ds ds.length).tg k) (t3 : TG.length ≤ i) :
    DnI p H (upd (upd HY kA (.lst ((keys (stAt (Sto.init ps) ds ds.length).tg).map V.str ++ [.str kk]))) tA (.dK (putK (kvOf V.str TG) (Sum.inr kk) (.str c)))) nm kA tA dA ps (i + 1) (ds ++ [.bg kk c]) (ts ++ [T]) := by
  obtain ⟨ok, _⟩ := I.ok hn
  have es := Sto.enter_eq ok hf
  have nk : kk ∉ keys (stAt (Sto.init ps) ds ds.length).tg := fun z => (Sto.fits_bg hf).2.1 (ok.apart kk z).2
  have etg : ((stAt (Sto.init ps) ds ds.length).step (.bg kk c)).tg = (stAt (Sto.init ps) ds ds.length).tg ++ [(kk, c)] := by
    show ((stAt (Sto.init ps) ds ds.length).enter kk c).tg = _
    rw [es]
  have eod : ((stAt (Sto.init ps) ds ds.length).step (.bg kk c)).od = (stAt (Sto.init ps) ds ds.length).od ++ [kk] := rfl
  have ntk : tA ≠ kA := ne_of t1 A.hk (by intro z; cases z)
  have ntn : nm ≠ tA := ne_of A.hn t1 (by intro z; cases z)
  have ntd : dA ≠ tA := ne_of A.hd t1 (by intro z; cases z)
  refine ⟨⟨(A.pl.kb.fresh I.f2).fresh I.f3, ?_⟩, by rw [upd_ne ntn, upd_ne I.n2.symm]; exact A.hn, ?_, ⟨aput TG kk c, by rw [upd_same, kv_put], fun k hk => ?_, Nat.le_trans len_aput (Nat.succ_le_succ t3)⟩, by rw [upd_ne ntd, upd_ne I.n1.symm]; exact A.hd, ?_, I.f1, I.f2, I.f3, I.f4, I.n1, I.n2, I.n3, fit_snoc I.fit hf, ?_, fun e he => ?_, by rw [List.length_append, I.len]; rfl⟩
  · obtain ⟨ns, a, b, c', e, h1, h2, h3⟩ := A.pl.pl
    exact ⟨ns, a, b, c', e, by rw [upd_ne (pl_ne hp I.f3).symm, upd_ne (pl_ne hp I.f2).symm]; exact h1, by rw [upd_ne (pl_ne2 hp I.f3).symm, upd_ne (pl_ne2 hp I.f2).symm]; exact h2, h3⟩
  · rw [upd_ne ntk.symm, upd_same, st_snoc, etg, keys_app, List.map_append]; rfl
  · rw [st_snoc, etg] at hk ⊢
    rw [aget_put, ← aput_new nk, aget_put]
    by_cases e : k = kk
    · rw [if_pos e, if_pos e]
    · rw [if_neg e, if_neg e]
      refine t2 k ?_
      rw [keys_app] at hk
      exact (List.mem_append.mp hk).resolve_right fun z => e (List.mem_singleton.mp z)
  · refine Paired.mapP A.hp fun t d q => ?_
    rw [upd_ne (ne_of q t1 (by intro z; cases z)), upd_ne (ne_of q A.hk (by intro z; cases z))]; exact q
  · rw [st_snoc, eod]
    intro k hk
    rcases List.mem_append.mp hk with h | h
    · obtain ⟨b, n, h1, h2⟩ := I.od k h
      exact ⟨b, n, Nat.lt_succ_of_lt h1, h2⟩
    · rw [List.mem_singleton.mp h]; exact ⟨bb, i, Nat.lt_succ_self i, hkk⟩
  · rcases List.mem_append.mp he with h | h
    · exact I.v4 e h
    · rw [List.mem_singleton.mp h]; trivial
/-- an over: the keys' list is a new one -/
theorem DnA.over {p : Addr × Addr} {H HX HY HZ : Hp} {nm kA kZ tA dA : Addr} {ps : List (Str × V)} {i : Nat} {ds : List Dd} {ts : List Addr} {c : Str} {T : Addr} (A : DnA p H HY nm kA tA dA ps i ds ts (.ov c) T) (I : DnI p H HX nm kA tA dA ps i ds ts)
    (hf : (stAt (Sto.init ps) ds ds.length).fits (.ov c) = true) (s : Same HY HZ) (hz : HY kZ = none) (ek : HZ kZ = some (.lst (((keys (stAt (Sto.init ps) ds ds.length).tg).filter fun j => !decide (j = c)).map V.str))) :
    DnI p H HZ nm kZ tA dA ps (i + 1) (ds ++ [.ov c]) (ts ++ [T]) := by
  obtain ⟨TG, t1, t2, t3⟩ := A.ht
  have etg : ((stAt (Sto.init ps) ds ds.length).step (.ov c)).tg = adrop (stAt (Sto.init ps) ds ds.length).tg c := rfl
  have hz0 : H kZ = none := none_of_KB A.pl.kb (fun b hb => by
    obtain ⟨ns, a, b', c', e, h1, _⟩ := A.pl.pl
    rw [List.mem_singleton.mp hb, h1]; exact fun z => nomatch z) hz
  refine ⟨A.pl.then s, s _ _ A.hn, ?_, ⟨TG, s _ _ t1, fun k hk => ?_, Nat.le_succ_of_le t3⟩, s _ _ A.hd, Paired.mapP A.hp fun t d q => s _ _ q, I.f1, hz0, I.f3, I.f4, (ne_of_none A.hd hz).symm, (ne_of_none A.hn hz).symm, I.n3, fit_snoc I.fit hf, ?_, fun e he => ?_, by rw [List.length_append, I.len]; rfl⟩
  · rw [ek, st_snoc, etg, keys_drop]
    congr 3
    exact List.filter_congr fun j _ => by simp
  · rw [st_snoc, etg] at hk ⊢
    rw [aget_drop, if_neg (mem_keys_drop.mp hk).2]
    exact t2 k (mem_keys_drop.mp hk).1
  · rw [st_snoc]
    intro k hk
    obtain ⟨b, n, h1, h2⟩ := I.od k hk
    exact ⟨b, n, Nat.lt_succ_of_lt h1, h2⟩
  · rcases List.mem_append.mp he with h | h
    · exact I.v4 e h
    · rw [List.mem_singleton.mp h]; trivial
end Qk

/-! part W9 -/
set_option Elab.async false
set_option linter.all false
set_option maxRecDepth 100000
set_option maxHeartbeats 8000000
namespace Qk
open PySem PySem.Spec L2
open PyProof.Rows hiding St
abbrev sDeeds : Stmt := top 31
/-- drawn deeds -/
structure Drawn (ps : List (Str × V)) (ds : List Dd) : Prop where
  fit : Fit (Sto.init ps) ds ds.length
  v4 : ∀ d ∈ ds, d.has fun v => scal4 v = true
  len : ds.length ≤ 24
  od : ∀ k ∈ (stAt (Sto.init ps) ds ds.length).od, ∃ (b : Bool) (n : Nat), n < 24 ∧ k = kz b (n : Int)
def spDeeds (K : PySem.W.Frag) : Sp := fun vs H Q _ => ∃ (p : Addr × Addr) (a : Addr) (bound : Nat) (tidy : Bool) (ps : List (Str × V)), vs = [.ref p.1, .ref a, .int (bound : Int), .bl tidy] ∧ PoolAt H p ∧ a ≠ p.1 ∧ PlcAt K H a ps ∧ Plc ps ∧ bound ≤ 24 ∧
  ∀ b ds H', PlS p H H' → H b = none → DlAt K H' b ds → Drawn ps ds → Q (.ref b) H'
theorem Plc.nd {ps : List (Str × V)} (h : Plc ps) : (keys ps).Nodup := by
  rw [h.nm]
  exact List.Nodup.sublist (List.take_sublist ..) (by decide +kernel)
theorem kz_place {ps : List (Str × V)} (h : Plc ps) {b : Bool} {n : Nat} (hn : n < 30) : kz b (n : Int) ∉ keys ps := fun hm => by
  rw [h.nm] at hm
  have h1 := List.mem_of_mem_take hm
  refine kz_head b ⟨n, hn⟩ ?_
  have h2 : kz b (n : Int) ∈ (["a", "b", "c", "place"] : List Str) := h1
  exact List.mem_append_left (["t1", "t2", "t3", "nowhere", "fresh", ""] : List Str) h2
theorem begin_fits {p : Addr × Addr} {H H2 : Hp} {nm kA tA dA : Addr} {ps : List (Str × V)} {i : Nat} {ds : List Dd} {ts : List Addr} {bb : Bool} {c : Str} (hn : (keys ps).Nodup) (hps : Plc ps) (I : DnI p H H2 nm kA tA dA ps i ds ts) (hi : i < 30) (hs : (stAt (Sto.init ps) ds ds.length).spot c) :
    (stAt (Sto.init ps) ds ds.length).fits (.bg (kz bb (i : Int)) c) = true := by
  have h1 : kz bb (i : Int) ∉ keys (stAt (Sto.init ps) ds ds.length).ps := by rw [(I.ok hn).2]; exact kz_place hps hi
  have h2 : kz bb (i : Int) ∉ (stAt (Sto.init ps) ds ds.length).od := fun hm => by
    obtain ⟨b2, n, hlt, e⟩ := I.od _ hm
    have := kz_inj bb b2 ⟨i, hi⟩ ⟨n, by omega⟩ e
    have := congrArg Fin.val this
    simp at this
    omega
  unfold Sto.fits
  have hs' : ((stAt (Sto.init ps) ds ds.length).root c).isSome = true := hs
  simp [h1, h2, hs']
section
variable {P : Program} {w : World} {K : PySem.W.Frag} {mg : Str → Option Value} {base : Heap}
theorem scDeeds : FnScope ["_law_pool_here", "_law_places", "_law_bound", "_law_tidy", "_law_names", "_law_place", "_law_keys", "_law_targets", "_law_deeds_here", "_law_k", "_law_spots", "_law_busy", "_law_key_here", "_law_spot", "_law_way"] ["_law_pool_here", "_law_places", "_law_bound", "_law_tidy"] (defScope sDeeds) := ⟨rfl, rfl, rfl, by decide +kernel, rfl, by decide +kernel, by decide +kernel⟩
theorem ok_deeds {f fD fV fK : Addr} {fd dD dV dK : FuncData} (F : Fun K "_law_deeds" "_law_deeds" sDeeds f fd) (MD : CallM P w K mg base CX0 2 fD dD "_law_draw" ["_law_pool_here", "_law_limit"] spDraw) (MV : CallM P w K mg base CX0 3 fV dV "_law_value" ["_law_pool_here"] spVal4) (MK : CallM P w K mg base CX0 3 fK dK "_law_key" ["_law_pool_here", "_law_made"] spKey) (gLen : mg "len" = none) (gRange : mg "range" = none) : FnOk P w K mg base CX0 4 f fd ["_law_pool_here", "_law_places", "_law_bound", "_law_tidy"] (spDeeds K) := by
  refine F.ok scDeeds (fun vs H Q E h => ?_) (fun cdv A outer s H vs Q E hr h => ?_)
  · obtain ⟨p, a, bound, tidy, ps, rfl, _⟩ := h
    rfl
  · obtain ⟨p, a, bound, tidy, ps, rfl, hp, nap, ⟨rs, hL1, hP1⟩, hps, hbd, k⟩ := h
    have hu := hu_of hr
    have hnd := hps.nd
    refine ⟨_, (pss_cons (ps_setLc (i := 4) (own := [("_law_place", 5)]) (g := gName 5) (tt := tYes) (te := (tOp (rIxT K) (tVar 5) (tC (.int 0)))) rfl scDeeds.nd rfl rfl (sw_true rfl rfl rfl (by decide +kernel)) (pi_list (pv 1)) (blkOk_by (own := [("_law_place", 5)]) (N := ["_law_pool_here", "_law_places", "_law_bound", "_law_tidy", "_law_names", "_law_place", "_law_keys", "_law_targets", "_law_deeds_here", "_law_k", "_law_spots", "_law_busy", "_law_key_here", "_law_spot", "_law_way"]) (sc := defScope sDeeds) (by decide +kernel)) (fun _ _ _ _ _ => (pg_name (i := 5) scDeeds.nd rfl (Or.inl rfl) (Or.inr rfl))) (fun _ _ _ _ _ => pts_nil) (fun _ _ _ _ _ => (pe_ix ix_tup (pv 5) pe_int (fun _ _ => rfl))))
      (pss_cons (ps_set (i := 6) scDeeds.nd rfl (.inl rfl) (pe_lst pa_nil))
      (pss_cons (ps_set (i := 7) scDeeds.nd rfl (.inr rfl) pe_dnewK)
      (pss_cons (ps_set (i := 8) scDeeds.nd rfl (.inl rfl) (pe_lst pa_nil))
      (pss_cons (ps_for PassesOwn.never rfl (pi_range1 (by rfl) gRange (by exact (pa_cons (by exact (pe_call MD.G (hr.mono (by decide)) rfl MD.g MD.kp MD.b .nil pass0 (by exact (pa_cons (pv 0) (pa_cons (pe_op op_add (pv 2) pe_int) pa_nil))))) pa_nil))) (pg_name (i := 9) scDeeds.nd rfl (.inl rfl)) (pss_cons (ps_set (i := 10) scDeeds.nd rfl (.inl rfl) (pe_op op_cat (pv 4) (pv 6)))
      (pss_cons (ps_if (pt_val (pv 3)) (pss_cons (ps_set (i := 11) scDeeds.nd rfl (.inr rfl) (pe_lc (own := [("_law_key_here", 12)]) (g := gName 12) (tt := tYes) (te := (tDGet (tVar 7) (tVar 12))) rfl scDeeds.nd (pi_list (pv 6)) (blkOk_by (own := [("_law_key_here", 12)]) (N := ["_law_pool_here", "_law_places", "_law_bound", "_law_tidy", "_law_names", "_law_place", "_law_keys", "_law_targets", "_law_deeds_here", "_law_k", "_law_spots", "_law_busy", "_law_key_here", "_law_spot", "_law_way"]) (sc := defScope sDeeds) (by decide +kernel)) (fun _ _ _ _ _ => (pg_name (i := 12) scDeeds.nd rfl (Or.inl rfl) (Or.inr rfl))) (fun _ _ _ _ _ => pts_nil) (fun _ _ _ _ _ => (pe_dget hu (pv 7) (pv 12) (fun _ _ => rfl)))))
      (pss_one (ps_setLc (i := 10) (own := [("_law_spot", 13)]) (g := gName 13) (tt := tTest (tOp (rIn K true) (tVar 13) (tVar 11))) (te := (tVar 13)) rfl scDeeds.nd rfl rfl (sw_true rfl rfl rfl (by decide +kernel)) (pi_list (pv 10)) (blkOk_by (own := [("_law_spot", 13)]) (N := ["_law_pool_here", "_law_places", "_law_bound", "_law_tidy", "_law_names", "_law_place", "_law_keys", "_law_targets", "_law_deeds_here", "_law_k", "_law_spots", "_law_busy", "_law_key_here", "_law_spot", "_law_way"]) (sc := defScope sDeeds) (by decide +kernel)) (fun _ _ _ _ _ => (pg_name (i := 13) scDeeds.nd rfl (Or.inl rfl) (Or.inr rfl))) (fun _ _ _ _ _ => pts_one (pt_cmpR op_notIn_seq (pv 13) (pv 11) rfl)) (fun _ _ _ _ _ => (pv 13))))) pss_nil)
      (pss_cons (ps_set (i := 13) scDeeds.nd rfl (.inr rfl) (pe_ix ix_list (pv 10) (pe_op op_sub (pe_op op_sub (pe_callB call_len_seq (by rfl) gLen (by decide +kernel) (by exact (pa_cons (pv 10) pa_nil))) pe_int) (by exact (pe_call MD.G (hr.mono (by decide)) rfl MD.g MD.kp MD.b .nil pass0 (by exact (pa_cons (pv 0) (pa_cons (pe_callB call_len_seq (by rfl) gLen (by decide +kernel) (by exact (pa_cons (pv 10) pa_nil))) pa_nil)))))) (fun _ _ => rfl)))
      (pss_cons (ps_set (i := 14) scDeeds.nd rfl (.inl rfl) (by exact (pe_call MD.G (hr.mono (by decide)) rfl MD.g MD.kp MD.b .nil pass0 (by exact (pa_cons (pv 0) (pa_cons pe_int pa_nil))))))
      (pss_one (ps_if (pt_cmpR op_le (pv 14) pe_int (nomark _)) (pss_cons (ps_set (i := 12) scDeeds.nd rfl (.inl rfl) (by exact (pe_call MK.G (hr.mono (by decide)) rfl MK.g MK.kp MK.b .nil pass0 (by exact (pa_cons (pv 0) (pa_cons (pv 9) pa_nil))))))
      (pss_cons (ps_expr (by exact (pe_bm PySem.F.plainAttrs_list PySem.F.slot_list_append PySem.F.type_list_append mt_append (pv 8) (by exact (pa_cons (pe_tup (by exact (pa_cons pe_str (pa_cons (pv 12) (pa_cons (pv 13) pa_nil))))) pa_nil)))))
      (pss_cons (ps_expr (by exact (pe_bm PySem.F.plainAttrs_list PySem.F.slot_list_append PySem.F.type_list_append mt_append (pv 6) (by exact (pa_cons (pv 12) pa_nil)))))
      (pss_one (ps_dput hu (pv 7) (pv 12) (pv 13) rfl))))) (pss_one (ps_if (PW.pt (pw_and (pt_cmpR op_le (pv 14) pe_int (nomark _)) (pw_and (pt_cmpR op_in_seq (pv 13) (pv 6) rfl) (pw_and1 (pt_cmpR op_eq (by exact (pe_call MD.G (hr.mono (by decide)) rfl MD.g MD.kp MD.b .nil pass0 (by exact (pa_cons (pv 0) (pa_cons pe_int pa_nil))))) pe_int (nomark _)))))) (pss_cons (ps_expr (by exact (pe_bm PySem.F.plainAttrs_list PySem.F.slot_list_append PySem.F.type_list_append mt_append (pv 8) (by exact (pa_cons (pe_tup (by exact (pa_cons pe_str (pa_cons (pv 13) pa_nil)))) pa_nil)))))
      (pss_one (ps_setLc (i := 6) (own := [("_law_key_here", 12)]) (g := gName 12) (tt := tTest (tOp rNe (tVar 12) (tVar 13))) (te := (tVar 12)) rfl scDeeds.nd rfl rfl (sw_true rfl rfl rfl (by decide +kernel)) (pi_list (pv 6)) (blkOk_by (own := [("_law_key_here", 12)]) (N := ["_law_pool_here", "_law_places", "_law_bound", "_law_tidy", "_law_names", "_law_place", "_law_keys", "_law_targets", "_law_deeds_here", "_law_k", "_law_spots", "_law_busy", "_law_key_here", "_law_spot", "_law_way"]) (sc := defScope sDeeds) (by decide +kernel)) (fun _ _ _ _ _ => (pg_name (i := 12) scDeeds.nd rfl (Or.inl rfl) (Or.inr rfl))) (fun _ _ _ _ _ => pts_one (pt_cmpR op_ne (pv 12) (pv 13) (nomark _))) (fun _ _ _ _ _ => (pv 12))))) (pss_one (ps_if (pt_cmpR op_in_seq (pv 14) (pe_lst (by exact (pa_cons pe_int (pa_cons pe_int pa_nil)))) rfl) (pss_one (ps_expr (by exact (pe_bm PySem.F.plainAttrs_list PySem.F.slot_list_append PySem.F.type_list_append mt_append (pv 8) (by exact (pa_cons (pe_tup (by exact (pa_cons pe_str (pa_cons (pv 13) (pa_cons (by exact (pe_call MV.G (hr.mono (by decide)) rfl MV.g MV.kp MV.b .nil pass0 (by exact (pa_cons (pv 0) pa_nil)))) pa_nil))))) pa_nil)))))) (pss_one (ps_expr (by exact (pe_bm PySem.F.plainAttrs_list PySem.F.slot_list_append PySem.F.type_list_append mt_append (pv 8) (by exact (pa_cons (pe_tup (by exact (pa_cons pe_str (pa_cons (pv 13) pa_nil)))) pa_nil)))))))))))))))))
      (pss_one (ps_ret (pv 8)))))))), ?_⟩
    refine ⟨_, rfl, a, rfl, ⟨_, hL1⟩, fun nm hnm => ?_⟩
    refine lc_list (K := K) (a := a) (xs := rs.map V.ref) (fun i H' => H' nm = some (.lst (((keys ps).take i).map V.str)) ∧ KB [nm] H H') ⟨upd_same, KB.refl.upd (by simp)⟩
      (fun i H' _ h2 => (sd h2.2 hnm).seq hL1) (fun i x H' hx h2 => ?_) (fun H1 h2 => ?_)
    · rw [List.getElem?_map] at hx
      cases ei : rs[i]? with
      | none => rw [ei] at hx; cases hx
      | some r =>
        rw [ei] at hx
        cases hx
        obtain ⟨q, eq, hT⟩ := paired_get hP1 ei
        have hT' : SqT K H' r [.str q.1, q.2] := sameT (sd h2.2 hnm) hT
        have eq2 : (keys ps)[i]? = some q.1 := by unfold keys; rw [List.getElem?_map, eq]; rfl
        have hi : i < ps.length := (List.getElem?_eq_some_iff.mp eq).1
        have h4 := hps.n4
        refine ⟨rfl, _, rfl, r, _, _, _, rfl, rfl, hT', atI_nat (j := 0) rfl, _, h2.1, ?_, ?_, h2.2.upd (by simp)⟩
        · refine fits_line (m := 900) ?_
          rw [List.length_map, List.length_take]; omega
        · rw [upd_same, take_next eq2, List.map_append]; rfl
    have s1 : Same H H1 := sd h2.2 hnm
    have e1 : H1 nm = some (.lst ((keys ps).map V.str)) := by
      have z := h2.1
      have hl : (rs.map V.ref).length = (keys ps).length := by unfold keys; rw [List.length_map, List.length_map, Paired.length hP1]
      rw [hl, List.take_length] at z
      exact z
    refine ⟨by simp, fun kA hkA tA htA => ⟨by simp, fun dA hdA => ?_⟩⟩
    have f2 : H kA = none := none_of_same s1 hkA
    have s2 : Same H (upd H1 kA (.lst [])) := KB.same ((KB.ofSame s1).new hkA)
    have f3 : H tA = none := none_of_same s2 htA
    have s3 : Same H (upd (upd H1 kA (.lst [])) tA (.dK [])) := KB.same ((KB.ofSame s2).new htA)
    have f4 : H dA = none := none_of_same s3 hdA
    have s4 : Same H (upd (upd (upd H1 kA (.lst [])) tA (.dK [])) dA (.lst [])) := KB.same ((KB.ofSame s3).new hdA)
    have ek2 : upd (upd H1 kA (.lst [])) tA (.dK []) kA = some (.lst []) := by rw [upd_ne (ne_of_none (H := upd H1 kA (.lst [])) upd_same htA)]; exact upd_same
    have en1 : nm ≠ kA := ne_of_none e1 hkA
    have en2 : upd H1 kA (.lst []) nm = some (.lst ((keys ps).map V.str)) := by rw [upd_ne en1]; exact e1
    have en3 : upd (upd H1 kA (.lst [])) tA (.dK []) nm = some (.lst ((keys ps).map V.str)) := by rw [upd_ne (ne_of_none en2 htA)]; exact en2
    have nkd : kA ≠ dA := ne_of_none ek2 hdA
    have nnd : nm ≠ dA := ne_of_none en3 hdA
    have I0 : DnI p H (upd (upd (upd H1 kA (.lst [])) tA (.dK [])) dA (.lst [])) nm kA tA dA ps 0 [] [] :=
      ⟨.same hp s4, by rw [upd_ne nnd]; exact en3, by rw [upd_ne nkd]; exact ek2, ⟨[], by rw [upd_ne (ne_of_none (H := upd (upd H1 kA (.lst [])) tA (.dK [])) upd_same hdA)]; exact upd_same, fun k hk => (List.not_mem_nil hk).elim, Nat.le_refl _⟩, upd_same, .nil, hnm, f2, f3, f4, nkd, en1.symm, nnd.symm, Fit.zero, fun k hk => (List.not_mem_nil hk).elim, fun d hd => (List.not_mem_nil hd).elim, rfl⟩
    generalize upd (upd (upd H1 kA (.lst [])) tA (.dK [])) dA (.lst []) = Hs at I0 ⊢
    refine ⟨_, rfl, _, rfl, _, _, rfl, rfl, p, ((bound : Int) + 1), rfl, I0.pl.pl, by omega, by omega, fun r H2 r0 r1 sr => ⟨r, rfl, by omega, by omega, ?_⟩⟩
    refine for_range (fun i σ' H' => ∃ (kR : Addr) (ds : List Dd) (ts : List Addr) (o5 o9 o10 o11 o12 o13 o14 : Option V), σ' = [some (.ref p.1), some (.ref a), some (.int (bound : Int)), some (.bl tidy), some (.ref nm), o5, some (.ref kR), some (.ref tA), some (.ref dA), o9, o10, o11, o12, o13, o14] ∧ DnI p H H' nm kR tA dA ps i ds ts)
      ⟨kA, [], [], _, _, _, _, _, _, _, rfl, I0.draw hp sr⟩ (fun i σ' H' hi ⟨kR, ds, ts, o5, o9, o10, o11, o12, o13, o14, e1, I⟩ => ?_) (fun σ' H' ⟨kR, ds, ts, o5, o9, o10, o11, o12, o13, o14, e1, I⟩ => ?_)
    · subst e1
      have e0 : (0 : Int) + (i : Int) = (i : Int) := Int.zero_add _
      rw [e0]
      have hi24 : i < 24 := by omega
      have h4 := hps.n4
      have kl : (keys ps).length ≤ 4 := by unfold keys; rw [List.length_map]; exact h4
      obtain ⟨ok, eps⟩ := I.ok hnd
      have tgl : (stAt (Sto.init ps) ds ds.length).tg.length ≤ 24 := by
        have := (le_run (ds := ds) h4 (Nat.le_refl _)).tg
        have := I.len
        omega
      refine ⟨_, rfl, _, rfl, nm, kR, _, _, rfl, rfl, I.hn, I.hk, ?_, fun sA hsA => ?_⟩
      · rw [List.length_map, List.length_map]
        exact line_le (m := 1000) (by unfold keys at kl ⊢; rw [List.length_map] at kl ⊢; rw [List.length_map]; omega)
      have sA' := new_list (xs := (keys ps).map V.str ++ (keys (stAt (Sto.init ps) ds ds.length).tg).map V.str) hsA
      have I3 := I.same hp sA'
      have esA : upd H' sA (.lst ((keys ps).map V.str ++ (keys (stAt (Sto.init ps) ds ds.length).tg).map V.str)) sA = some (.lst ((keys ps ++ keys (stAt (Sto.init ps) ds ds.length).tg).map V.str)) := by rw [upd_same, List.map_append]
      have nsA : sA ≠ p.1 := pl_ne I.pl.pl hsA
      generalize upd H' sA (.lst ((keys ps).map V.str ++ (keys (stAt (Sto.init ps) ds ds.length).tg).map V.str)) = H3 at I3 esA ⊢
      have spl : (keys ps ++ keys (stAt (Sto.init ps) ds ds.length).tg).length ≤ 28 := by
        rw [List.length_append]
        unfold keys at kl ⊢
        rw [List.length_map] at kl ⊢
        rw [List.length_map]
        omega
      obtain ⟨cF, hcF, hcF2⟩ := free_spot ok (by have h1 := hps.n0; have h2 := congrArg List.length eps; unfold keys at h2; rw [List.length_map, List.length_map] at h2; omega)
      rw [eps] at hcF
      have hcF' : cF ∈ keys ps ++ keys (stAt (Sto.init ps) ds ds.length).tg := List.mem_append.mpr hcF
      cases tidy with
      | false =>
        refine ⟨_, rfl, _, rfl, if_false_of rfl ?_⟩
        have hL : ∀ x ∈ keys ps ++ keys (stAt (Sto.init ps) ds ds.length).tg, x ∈ keys ps ∨ x ∈ keys (stAt (Sto.init ps) ds ds.length).tg := fun x hx => List.mem_append.mp hx
        have hne : keys ps ++ keys (stAt (Sto.init ps) ds ds.length).tg ≠ [] := fun e => by rw [e] at hcF'; exact List.not_mem_nil hcF'
        generalize keys ps ++ keys (stAt (Sto.init ps) ds ds.length).tg = L at esA spl hL hne
        have nsp : sA ≠ p.1 := nsA
        have hLv : (L.map V.str).length = L.length := List.length_map ..
        refine ⟨_, rfl, _, rfl, sA, _, rfl, .inl (SqL.of esA), _, _, rfl, rfl, _, rfl, _, rfl, sA, _, rfl, .inl (SqL.of esA), p, ((L.map V.str).length : Int), rfl, I3.pl.pl, by rw [hLv]; have := List.length_pos_iff.mpr hne; omega, by rw [hLv]; omega, fun r4 H8 r40 r41 s8 => ?_⟩
        obtain ⟨v8, hv8, ha8⟩ := draw_ix (xs := L.map V.str) (r := ((L.map V.str).length : Int) - 1 - r4) (by omega) (by omega)
        obtain ⟨cS, hcS, rfl⟩ := List.mem_map.mp hv8
        have hspot := I3.spot hnd (hL cS hcS)
        have I8 := I3.draw hp s8
        refine ⟨_, _, rfl, rfl, sA, _, _, _, rfl, rfl, SqL.of (s8.obj esA nsp), ha8, ?_⟩
        refine ⟨_, rfl, p, 6, rfl, I8.pl.pl, by decide, by decide, fun r5 H9 r50 r51 s9 => ?_⟩
        have I9 := I8.draw hp s9
        have lenT : (ts.map V.ref).length < sizeLine := by
          have e1 := Paired.length I9.hp
          have e2 := I9.len
          rw [List.length_map]
          exact fits_line (m := 900) (by omega)
        have lenK : ((keys (stAt (Sto.init ps) ds ds.length).tg).map V.str).length < sizeLine := by
          rw [List.length_map]
          unfold keys
          rw [List.length_map]
          exact fits_line (m := 900) (by omega)
        refine ⟨_, rfl, _, _, rfl, rfl, _, rfl, iteB (fun _ => ?_) (fun _ => ?_)⟩
        · refine ⟨_, rfl, _, rfl, p, i, rfl, I9.pl.pl, by omega, fun bb H10 s10 => ?_⟩
          have I10 := I9.draw hp s10
          have hf : (stAt (Sto.init ps) ds ds.length).fits (.bg (kz bb (i : Int)) cS) = true := begin_fits hnd hps I10 (by omega) hspot
          refine ⟨_, rfl, .inl ⟨rfl, _, SqL.of I10.hd⟩, _, rfl, _, rfl, line_le (n := 3) (m := 1000) (by decide), fun T hT => ?_⟩
          obtain ⟨h1, A⟩ := I10.app (d := .bg (kz bb (i : Int)) cS) hp hT
          refine ⟨dA, _, _, rfl, rfl, h1, lenT, ?_⟩
          refine ⟨_, rfl, .inl ⟨rfl, _, SqL.of A.hk⟩, _, rfl, kR, _, _, rfl, rfl, A.hk, lenK, ?_⟩
          obtain ⟨TG, t1, t2, t3⟩ := A.ht
          have ntk : tA ≠ kR := ne_of t1 A.hk (by intro z; cases z)
          refine ⟨_, rfl, _, rfl, _, rfl, tA, _, rfl, DPut.k (k := Sum.inr (kz bb (i : Int))) (by rw [upd_ne ntk]; exact t1) (by rw [kv_len]; exact fits_line (m := 900) (by omega)), ?_⟩
          exact ⟨kR, _, _, _, _, _, _, _, _, _, rfl, A.begin I10 hp hnd hf rfl t1 t2 t3⟩
        · refine ⟨_, rfl, _, _, rfl, rfl, _, rfl, iteB (fun _ => ?_) (fun _ => if_false_of rfl (by
            refine ⟨_, rfl, line_le (n := 2) (m := 1000) (by decide), fun wA hwA => ⟨wA, _, rfl, .inl (SqL.of upd_same), rfl, rfl, _, rfl, ?_⟩⟩
            have Iw := I9.same hp (new_list (xs := [.int 2, .int 4]) hwA)
            refine iteB (fun _ => ?_) (fun _ => ?_)
            · refine ⟨_, rfl, .inl ⟨rfl, _, SqL.of Iw.hd⟩, _, rfl, _, rfl, p, rfl, Iw.pl.pl, fun v Hv sv hv => ⟨line_le (n := 3) (m := 1000) (by decide), fun T hT => ?_⟩⟩
              have Iv := Iw.draw hp sv
              obtain ⟨h1, A⟩ := Iv.app (d := .wr cS v) hp hT
              exact ⟨dA, _, _, rfl, rfl, h1, lenT, kR, _, _, _, _, _, _, _, _, _, rfl, A.plain Iv hspot hv rfl rfl⟩
            · refine ⟨_, rfl, .inl ⟨rfl, _, SqL.of Iw.hd⟩, _, rfl, line_le (n := 2) (m := 1000) (by decide), fun T hT => ?_⟩
              obtain ⟨h1, A⟩ := Iw.app (d := .rd cS) hp hT
              exact ⟨dA, _, _, rfl, rfl, h1, lenT, kR, _, _, _, _, _, _, _, _, _, rfl, A.plain Iw hspot trivial rfl rfl⟩))⟩
          refine ⟨_, rfl, _, rfl, kR, _, rfl, .inl (SqL.of I9.hk), rfl, strs_flat, _, rfl, ?_⟩
          rw [strs_in]
          refine iteB (fun ein => ?_) (fun _ => if_false_of rfl (by
            refine ⟨_, rfl, line_le (n := 2) (m := 1000) (by decide), fun wA hwA => ⟨wA, _, rfl, .inl (SqL.of upd_same), rfl, rfl, _, rfl, ?_⟩⟩
            have Iw := I9.same hp (new_list (xs := [.int 2, .int 4]) hwA)
            refine iteB (fun _ => ?_) (fun _ => ?_)
            · refine ⟨_, rfl, .inl ⟨rfl, _, SqL.of Iw.hd⟩, _, rfl, _, rfl, p, rfl, Iw.pl.pl, fun v Hv sv hv => ⟨line_le (n := 3) (m := 1000) (by decide), fun T hT => ?_⟩⟩
              have Iv := Iw.draw hp sv
              obtain ⟨h1, A⟩ := Iv.app (d := .wr cS v) hp hT
              exact ⟨dA, _, _, rfl, rfl, h1, lenT, kR, _, _, _, _, _, _, _, _, _, rfl, A.plain Iv hspot hv rfl rfl⟩
            · refine ⟨_, rfl, .inl ⟨rfl, _, SqL.of Iw.hd⟩, _, rfl, line_le (n := 2) (m := 1000) (by decide), fun T hT => ?_⟩
              obtain ⟨h1, A⟩ := Iw.app (d := .rd cS) hp hT
              exact ⟨dA, _, _, rfl, rfl, h1, lenT, kR, _, _, _, _, _, _, _, _, _, rfl, A.plain Iw hspot trivial rfl rfl⟩))
          have hin : cS ∈ keys (stAt (Sto.init ps) ds ds.length).tg := of_decide_eq_true ein
          refine ⟨_, rfl, p, 2, rfl, I9.pl.pl, by decide, by decide, fun r6 H11 r60 r61 s11 => ⟨rfl, _, rfl, ?_⟩⟩
          have I11 := I9.draw hp s11
          refine iteB (fun _ => ?_) (fun _ => (by
            refine ⟨_, rfl, line_le (n := 2) (m := 1000) (by decide), fun wA hwA => ⟨wA, _, rfl, .inl (SqL.of upd_same), rfl, rfl, _, rfl, ?_⟩⟩
            have Iw := I11.same hp (new_list (xs := [.int 2, .int 4]) hwA)
            refine iteB (fun _ => ?_) (fun _ => ?_)
            · refine ⟨_, rfl, .inl ⟨rfl, _, SqL.of Iw.hd⟩, _, rfl, _, rfl, p, rfl, Iw.pl.pl, fun v Hv sv hv => ⟨line_le (n := 3) (m := 1000) (by decide), fun T hT => ?_⟩⟩
              have Iv := Iw.draw hp sv
              obtain ⟨h1, A⟩ := Iv.app (d := .wr cS v) hp hT
              exact ⟨dA, _, _, rfl, rfl, h1, lenT, kR, _, _, _, _, _, _, _, _, _, rfl, A.plain Iv hspot hv rfl rfl⟩
            · refine ⟨_, rfl, .inl ⟨rfl, _, SqL.of Iw.hd⟩, _, rfl, line_le (n := 2) (m := 1000) (by decide), fun T hT => ?_⟩
              obtain ⟨h1, A⟩ := Iw.app (d := .rd cS) hp hT
              exact ⟨dA, _, _, rfl, rfl, h1, lenT, kR, _, _, _, _, _, _, _, _, _, rfl, A.plain Iw hspot trivial rfl rfl⟩))
          refine ⟨_, rfl, .inl ⟨rfl, _, SqL.of I11.hd⟩, _, rfl, line_le (n := 2) (m := 1000) (by decide), fun T hT => ?_⟩
          obtain ⟨h1, A⟩ := I11.app (d := .ov cS) hp hT
          refine ⟨dA, _, _, rfl, rfl, h1, lenT, ?_⟩
          refine ⟨_, rfl, kR, rfl, ⟨_, SqL.of A.hk⟩, fun kZ hkZ => ?_⟩
          obtain ⟨HY, eHY⟩ : ∃ HY, HY = upd (upd H11 T (.tup (Dd.ov cS).vs)) dA (.lst (ts.map V.ref ++ [.ref T])) := ⟨_, rfl⟩
          have hkZ : HY kZ = none := by rw [eHY]; exact hkZ
          rw [← eHY] at A
          refine lc_list (K := K) (a := kR) (xs := (keys (stAt (Sto.init ps) ds ds.length).tg).map V.str) (fun j H' => H' kZ = some (.lst ((((keys (stAt (Sto.init ps) ds ds.length).tg).take j).filter fun j => !decide (j = cS)).map V.str)) ∧ KB [kZ] HY H') ⟨upd_same, by rw [eHY]; exact KB.refl.upd (List.mem_singleton.mpr rfl)⟩
            (fun j H' _ h2 => SqL.of ((sd h2.2 hkZ) _ _ A.hk)) (fun j x H' hx h2 => ?_) (fun H' h2 => ?_)
          · rw [List.getElem?_map] at hx
            cases ei : (keys (stAt (Sto.init ps) ds ds.length).tg)[j]? with
            | none => rw [ei] at hx; cases hx
            | some y =>
              rw [ei] at hx
              cases hx
              refine ⟨rfl, _, rfl, _, rfl, rfl, _, rfl, ?_⟩
              have fn := filt_next (f := fun j => !decide (j = cS)) ei
              by_cases ej : y = cS
              · refine if_false_of (by simp [ej]) ⟨?_, h2.2⟩
                rw [fn, if_neg (by simp [ej]), List.append_nil]
                exact h2.1
              · refine if_true_of (by simp [ej]) ⟨_, rfl, _, h2.1, ?_, ?_, h2.2.upd (by simp)⟩
                · rw [List.length_map]
                  refine Nat.lt_of_le_of_lt (Nat.le_trans (List.length_filter_le ..) ?_) lenK
                  rw [List.length_take, List.length_map]
                  exact Nat.min_le_right ..
                · rw [upd_same, fn, if_pos (by simp [ej]), List.map_append]; rfl
          · rw [List.length_map, List.take_length] at h2
            exact ⟨kZ, _, _, _, _, _, _, _, _, _, rfl, A.over I11 (decide_eq_true hin) (sd h2.2 hkZ) hkZ h2.1⟩
      | true =>
        refine ⟨_, rfl, _, rfl, if_true_of rfl ?_⟩
        obtain ⟨TG, t1, t2, t3⟩ := I3.ht
        have tgk : ∀ k ∈ keys (stAt (Sto.init ps) ds ds.length).tg, aget TG k = some ((aget (stAt (Sto.init ps) ds ds.length).tg k).getD k) := fun k hk => by
          obtain ⟨v, ev⟩ := aget_of_mem hk
          rw [t2 k hk, ev]; rfl
        have lenK : ((keys (stAt (Sto.init ps) ds ds.length).tg).map V.str).length < sizeLine := by
          rw [List.length_map]
          unfold keys
          rw [List.length_map]
          exact fits_line (m := 900) (by omega)
        refine ⟨_, rfl, kR, rfl, ⟨_, SqL.of I3.hk⟩, fun bA hbA => ?_⟩
        refine lc_list (K := K) (a := kR) (xs := (keys (stAt (Sto.init ps) ds ds.length).tg).map V.str) (fun j H' => H' bA = some (.lst ((((keys (stAt (Sto.init ps) ds ds.length).tg).map fun k => (aget (stAt (Sto.init ps) ds ds.length).tg k).getD k).take j).map V.str)) ∧ KB [bA] H3 H') ⟨upd_same, KB.refl.upd (by simp)⟩
          (fun j H' _ h2 => SqL.of ((sd h2.2 hbA) _ _ I3.hk)) (fun j x H' hx h2 => ?_) (fun H4 h2 => ?_)
        · rw [List.getElem?_map] at hx
          cases ei : (keys (stAt (Sto.init ps) ds ds.length).tg)[j]? with
          | none => rw [ei] at hx; cases hx
          | some y =>
            rw [ei] at hx
            cases hx
            have t1' := (sd h2.2 hbA) _ _ t1
            have ey := tgk y (List.mem_of_getElem? ei)
            have em : ((keys (stAt (Sto.init ps) ds ds.length).tg).map fun k => (aget (stAt (Sto.init ps) ds ds.length).tg k).getD k)[j]? = some ((aget (stAt (Sto.init ps) ds ds.length).tg y).getD y) := by rw [List.getElem?_map, ei]; rfl
            refine ⟨rfl, _, rfl, _, rfl, tA, .str ((aget (stAt (Sto.init ps) ds ds.length).tg y).getD y), rfl, (by have z := DGet.k (k := Sum.inr y) t1'; rw [kv_val, ey] at z; exact z), _, h2.1, ?_, ?_, h2.2.upd (by simp)⟩
            · rw [List.length_map]
              refine Nat.lt_of_le_of_lt ?_ lenK
              rw [List.length_take, List.length_map, List.length_map]
              exact Nat.min_le_right ..
            · rw [upd_same, take_next em, List.map_append]; rfl
        have s4 : Same H3 H4 := sd h2.2 hbA
        have I4 := I3.same hp s4
        have hbA4 : H4 bA = some (.lst (((keys (stAt (Sto.init ps) ds ds.length).tg).map fun k => (aget (stAt (Sto.init ps) ds ds.length).tg k).getD k).map V.str)) := by
          have z := h2.1
          have hl : ((keys (stAt (Sto.init ps) ds ds.length).tg).map V.str).length = ((keys (stAt (Sto.init ps) ds ds.length).tg).map fun k => (aget (stAt (Sto.init ps) ds ds.length).tg k).getD k).length := by rw [List.length_map, List.length_map]
          rw [hl, List.take_length] at z
          exact z
        have hfree : cF ∉ (keys (stAt (Sto.init ps) ds ds.length).tg).map fun k => (aget (stAt (Sto.init ps) ds ds.length).tg k).getD k := fun hm => by
          obtain ⟨y, hy, e⟩ := List.mem_map.mp hm
          obtain ⟨v, ev⟩ := aget_of_mem hy
          rw [ev] at e
          have e : v = cF := e
          rw [e] at ev
          have := mem_on (aget_pair ev)
          rw [hcF2] at this
          exact List.not_mem_nil this
        generalize ((keys (stAt (Sto.init ps) ds ds.length).tg).map fun k => (aget (stAt (Sto.init ps) ds ds.length).tg k).getD k) = busy at hbA4 hfree
        have esA4 := s4 _ _ esA
        refine ⟨_, rfl, sA, rfl, ⟨_, SqL.of esA4⟩, fun fA hfA => ?_⟩
        refine lc_list (K := K) (a := sA) (xs := (keys ps ++ keys (stAt (Sto.init ps) ds ds.length).tg).map V.str) (fun j H' => H' fA = some (.lst ((((keys ps ++ keys (stAt (Sto.init ps) ds ds.length).tg).take j).filter fun x => !decide (x ∈ busy)).map V.str)) ∧ KB [fA] H4 H') ⟨upd_same, KB.refl.upd (by simp)⟩
          (fun j H' _ h2 => SqL.of ((sd h2.2 hfA) _ _ esA4)) (fun j x H' hx h2 => ?_) (fun H5 h3 => ?_)
        · rw [List.getElem?_map] at hx
          cases ei : (keys ps ++ keys (stAt (Sto.init ps) ds ds.length).tg)[j]? with
          | none => rw [ei] at hx; cases hx
          | some y =>
            rw [ei] at hx
            cases hx
            refine ⟨rfl, _, rfl, _, rfl, bA, _, rfl, .inl (SqL.of ((sd h2.2 hfA) _ _ hbA4)), rfl, strs_flat, _, rfl, ?_⟩
            have fn := filt_next (f := fun x => !decide (x ∈ busy)) ei
            rw [strs_in]
            by_cases ej : y ∈ busy
            · refine if_false_of (by simp [ej]) ⟨?_, h2.2⟩
              rw [fn, if_neg (by simp [ej]), List.append_nil]
              exact h2.1
            · refine if_true_of (by simp [ej]) ⟨_, rfl, _, h2.1, ?_, ?_, h2.2.upd (by simp)⟩
              · rw [List.length_map]
                refine fits_line (m := 900) (Nat.le_trans (List.length_filter_le ..) ?_)
                rw [List.length_take]
                omega
              · rw [upd_same, fn, if_pos (by simp [ej]), List.map_append]; rfl
        have s5 : Same H4 H5 := sd h3.2 hfA
        have I5 := I4.same hp s5
        have nfA : fA ≠ p.1 := pl_ne I4.pl.pl hfA
        have hf5 : H5 fA = some (.lst (((keys ps ++ keys (stAt (Sto.init ps) ds ds.length).tg).filter fun x => !decide (x ∈ busy)).map V.str)) := by
          have z := h3.1
          rw [List.length_map, List.take_length] at z
          exact z
        have hL : ∀ x ∈ (keys ps ++ keys (stAt (Sto.init ps) ds ds.length).tg).filter (fun x => !decide (x ∈ busy)), x ∈ keys ps ∨ x ∈ keys (stAt (Sto.init ps) ds ds.length).tg := fun x hx => List.mem_append.mp (List.mem_filter.mp hx).1
        have hne : (keys ps ++ keys (stAt (Sto.init ps) ds ds.length).tg).filter (fun x => !decide (x ∈ busy)) ≠ [] := fun e => by
          have : cF ∈ (keys ps ++ keys (stAt (Sto.init ps) ds ds.length).tg).filter (fun x => !decide (x ∈ busy)) := List.mem_filter.mpr ⟨hcF', by simp [hfree]⟩
          rw [e] at this
          exact List.not_mem_nil this
        have spl : ((keys ps ++ keys (stAt (Sto.init ps) ds ds.length).tg).filter fun x => !decide (x ∈ busy)).length ≤ 28 := Nat.le_trans (List.length_filter_le ..) spl
        generalize ((keys ps ++ keys (stAt (Sto.init ps) ds ds.length).tg).filter fun x => !decide (x ∈ busy)) = L at hf5 spl hL hne
        have nsp : fA ≠ p.1 := nfA
        have hLv : (L.map V.str).length = L.length := List.length_map ..
        refine ⟨_, rfl, _, rfl, fA, _, rfl, .inl (SqL.of hf5), _, _, rfl, rfl, _, rfl, _, rfl, fA, _, rfl, .inl (SqL.of hf5), p, ((L.map V.str).length : Int), rfl, I5.pl.pl, by rw [hLv]; have := List.length_pos_iff.mpr hne; omega, by rw [hLv]; omega, fun r4 H8 r40 r41 s8 => ?_⟩
        obtain ⟨v8, hv8, ha8⟩ := draw_ix (xs := L.map V.str) (r := ((L.map V.str).length : Int) - 1 - r4) (by omega) (by omega)
        obtain ⟨cS, hcS, rfl⟩ := List.mem_map.mp hv8
        have hspot := I5.spot hnd (hL cS hcS)
        have I8 := I5.draw hp s8
        refine ⟨_, _, rfl, rfl, fA, _, _, _, rfl, rfl, SqL.of (s8.obj hf5 nsp), ha8, ?_⟩
        refine ⟨_, rfl, p, 6, rfl, I8.pl.pl, by decide, by decide, fun r5 H9 r50 r51 s9 => ?_⟩
        have I9 := I8.draw hp s9
        have lenT : (ts.map V.ref).length < sizeLine := by
          have e1 := Paired.length I9.hp
          have e2 := I9.len
          rw [List.length_map]
          exact fits_line (m := 900) (by omega)
        have lenK : ((keys (stAt (Sto.init ps) ds ds.length).tg).map V.str).length < sizeLine := by
          rw [List.length_map]
          unfold keys
          rw [List.length_map]
          exact fits_line (m := 900) (by omega)
        refine ⟨_, rfl, _, _, rfl, rfl, _, rfl, iteB (fun _ => ?_) (fun _ => ?_)⟩
        · refine ⟨_, rfl, _, rfl, p, i, rfl, I9.pl.pl, by omega, fun bb H10 s10 => ?_⟩
          have I10 := I9.draw hp s10
          have hf : (stAt (Sto.init ps) ds ds.length).fits (.bg (kz bb (i : Int)) cS) = true := begin_fits hnd hps I10 (by omega) hspot
          refine ⟨_, rfl, .inl ⟨rfl, _, SqL.of I10.hd⟩, _, rfl, _, rfl, line_le (n := 3) (m := 1000) (by decide), fun T hT => ?_⟩
          obtain ⟨h1, A⟩ := I10.app (d := .bg (kz bb (i : Int)) cS) hp hT
          refine ⟨dA, _, _, rfl, rfl, h1, lenT, ?_⟩
          refine ⟨_, rfl, .inl ⟨rfl, _, SqL.of A.hk⟩, _, rfl, kR, _, _, rfl, rfl, A.hk, lenK, ?_⟩
          obtain ⟨TG, t1, t2, t3⟩ := A.ht
          have ntk : tA ≠ kR := ne_of t1 A.hk (by intro z; cases z)
          refine ⟨_, rfl, _, rfl, _, rfl, tA, _, rfl, DPut.k (k := Sum.inr (kz bb (i : Int))) (by rw [upd_ne ntk]; exact t1) (by rw [kv_len]; exact fits_line (m := 900) (by omega)), ?_⟩
          exact ⟨kR, _, _, _, _, _, _, _, _, _, rfl, A.begin I10 hp hnd hf rfl t1 t2 t3⟩
        · refine ⟨_, rfl, _, _, rfl, rfl, _, rfl, iteB (fun _ => ?_) (fun _ => if_false_of rfl (by
            refine ⟨_, rfl, line_le (n := 2) (m := 1000) (by decide), fun wA hwA => ⟨wA, _, rfl, .inl (SqL.of upd_same), rfl, rfl, _, rfl, ?_⟩⟩
            have Iw := I9.same hp (new_list (xs := [.int 2, .int 4]) hwA)
            refine iteB (fun _ => ?_) (fun _ => ?_)
            · refine ⟨_, rfl, .inl ⟨rfl, _, SqL.of Iw.hd⟩, _, rfl, _, rfl, p, rfl, Iw.pl.pl, fun v Hv sv hv => ⟨line_le (n := 3) (m := 1000) (by decide), fun T hT => ?_⟩⟩
              have Iv := Iw.draw hp sv
              obtain ⟨h1, A⟩ := Iv.app (d := .wr cS v) hp hT
              exact ⟨dA, _, _, rfl, rfl, h1, lenT, kR, _, _, _, _, _, _, _, _, _, rfl, A.plain Iv hspot hv rfl rfl⟩
            · refine ⟨_, rfl, .inl ⟨rfl, _, SqL.of Iw.hd⟩, _, rfl, line_le (n := 2) (m := 1000) (by decide), fun T hT => ?_⟩
              obtain ⟨h1, A⟩ := Iw.app (d := .rd cS) hp hT
              exact ⟨dA, _, _, rfl, rfl, h1, lenT, kR, _, _, _, _, _, _, _, _, _, rfl, A.plain Iw hspot trivial rfl rfl⟩))⟩
          refine ⟨_, rfl, _, rfl, kR, _, rfl, .inl (SqL.of I9.hk), rfl, strs_flat, _, rfl, ?_⟩
          rw [strs_in]
          refine iteB (fun ein => ?_) (fun _ => if_false_of rfl (by
            refine ⟨_, rfl, line_le (n := 2) (m := 1000) (by decide), fun wA hwA => ⟨wA, _, rfl, .inl (SqL.of upd_same), rfl, rfl, _, rfl, ?_⟩⟩
            have Iw := I9.same hp (new_list (xs := [.int 2, .int 4]) hwA)
            refine iteB (fun _ => ?_) (fun _ => ?_)
            · refine ⟨_, rfl, .inl ⟨rfl, _, SqL.of Iw.hd⟩, _, rfl, _, rfl, p, rfl, Iw.pl.pl, fun v Hv sv hv => ⟨line_le (n := 3) (m := 1000) (by decide), fun T hT => ?_⟩⟩
              have Iv := Iw.draw hp sv
              obtain ⟨h1, A⟩ := Iv.app (d := .wr cS v) hp hT
              exact ⟨dA, _, _, rfl, rfl, h1, lenT, kR, _, _, _, _, _, _, _, _, _, rfl, A.plain Iv hspot hv rfl rfl⟩
            · refine ⟨_, rfl, .inl ⟨rfl, _, SqL.of Iw.hd⟩, _, rfl, line_le (n := 2) (m := 1000) (by decide), fun T hT => ?_⟩
              obtain ⟨h1, A⟩ := Iw.app (d := .rd cS) hp hT
              exact ⟨dA, _, _, rfl, rfl, h1, lenT, kR, _, _, _, _, _, _, _, _, _, rfl, A.plain Iw hspot trivial rfl rfl⟩))
          have hin : cS ∈ keys (stAt (Sto.init ps) ds ds.length).tg := of_decide_eq_true ein
          refine ⟨_, rfl, p, 2, rfl, I9.pl.pl, by decide, by decide, fun r6 H11 r60 r61 s11 => ⟨rfl, _, rfl, ?_⟩⟩
          have I11 := I9.draw hp s11
          refine iteB (fun _ => ?_) (fun _ => (by
            refine ⟨_, rfl, line_le (n := 2) (m := 1000) (by decide), fun wA hwA => ⟨wA, _, rfl, .inl (SqL.of upd_same), rfl, rfl, _, rfl, ?_⟩⟩
            have Iw := I11.same hp (new_list (xs := [.int 2, .int 4]) hwA)
            refine iteB (fun _ => ?_) (fun _ => ?_)
            · refine ⟨_, rfl, .inl ⟨rfl, _, SqL.of Iw.hd⟩, _, rfl, _, rfl, p, rfl, Iw.pl.pl, fun v Hv sv hv => ⟨line_le (n := 3) (m := 1000) (by decide), fun T hT => ?_⟩⟩
              have Iv := Iw.draw hp sv
              obtain ⟨h1, A⟩ := Iv.app (d := .wr cS v) hp hT
              exact ⟨dA, _, _, rfl, rfl, h1, lenT, kR, _, _, _, _, _, _, _, _, _, rfl, A.plain Iv hspot hv rfl rfl⟩
            · refine ⟨_, rfl, .inl ⟨rfl, _, SqL.of Iw.hd⟩, _, rfl, line_le (n := 2) (m := 1000) (by decide), fun T hT => ?_⟩
              obtain ⟨h1, A⟩ := Iw.app (d := .rd cS) hp hT
              exact ⟨dA, _, _, rfl, rfl, h1, lenT, kR, _, _, _, _, _, _, _, _, _, rfl, A.plain Iw hspot trivial rfl rfl⟩))
          refine ⟨_, rfl, .inl ⟨rfl, _, SqL.of I11.hd⟩, _, rfl, line_le (n := 2) (m := 1000) (by decide), fun T hT => ?_⟩
          obtain ⟨h1, A⟩ := I11.app (d := .ov cS) hp hT
          refine ⟨dA, _, _, rfl, rfl, h1, lenT, ?_⟩
          refine ⟨_, rfl, kR, rfl, ⟨_, SqL.of A.hk⟩, fun kZ hkZ => ?_⟩
          obtain ⟨HY, eHY⟩ : ∃ HY, HY = upd (upd H11 T (.tup (Dd.ov cS).vs)) dA (.lst (ts.map V.ref ++ [.ref T])) := ⟨_, rfl⟩
          have hkZ : HY kZ = none := by rw [eHY]; exact hkZ
          rw [← eHY] at A
          refine lc_list (K := K) (a := kR) (xs := (keys (stAt (Sto.init ps) ds ds.length).tg).map V.str) (fun j H' => H' kZ = some (.lst ((((keys (stAt (Sto.init ps) ds ds.length).tg).take j).filter fun j => !decide (j = cS)).map V.str)) ∧ KB [kZ] HY H') ⟨upd_same, by rw [eHY]; exact KB.refl.upd (List.mem_singleton.mpr rfl)⟩
            (fun j H' _ h2 => SqL.of ((sd h2.2 hkZ) _ _ A.hk)) (fun j x H' hx h2 => ?_) (fun H' h2 => ?_)
          · rw [List.getElem?_map] at hx
            cases ei : (keys (stAt (Sto.init ps) ds ds.length).tg)[j]? with
            | none => rw [ei] at hx; cases hx
            | some y =>
              rw [ei] at hx
              cases hx
              refine ⟨rfl, _, rfl, _, rfl, rfl, _, rfl, ?_⟩
              have fn := filt_next (f := fun j => !decide (j = cS)) ei
              by_cases ej : y = cS
              · refine if_false_of (by simp [ej]) ⟨?_, h2.2⟩
                rw [fn, if_neg (by simp [ej]), List.append_nil]
                exact h2.1
              · refine if_true_of (by simp [ej]) ⟨_, rfl, _, h2.1, ?_, ?_, h2.2.upd (by simp)⟩
                · rw [List.length_map]
                  refine Nat.lt_of_le_of_lt (Nat.le_trans (List.length_filter_le ..) ?_) lenK
                  rw [List.length_take, List.length_map]
                  exact Nat.min_le_right ..
                · rw [upd_same, fn, if_pos (by simp [ej]), List.map_append]; rfl
          · rw [List.length_map, List.take_length] at h2
            exact ⟨kZ, _, _, _, _, _, _, _, _, _, rfl, A.over I11 (decide_eq_true hin) (sd h2.2 hkZ) hkZ h2.1⟩
    · subst e1
      have hr' : r.toNat ≤ 24 := by omega
      refine ⟨_, rfl, k dA ds H' I.pl I.f4 ⟨ts, I.hd, Paired.mapP I.hp fun t d q => SqT.of q⟩ ⟨I.fit, I.v4, by have := I.len; omega, fun k hk => ?_⟩⟩
      obtain ⟨b, n, h1, h2⟩ := I.od k hk
      exact ⟨b, n, by omega, h2⟩
end
end Qk

/-! part W10a -/
set_option Elab.async false
set_option linter.all false
set_option maxRecDepth 100000
set_option maxHeartbeats 4000000
namespace Qk
open PySem PySem.Spec L2
open PyProof.Rows hiding St
/-! ### f(e, .., k = v) that may raise -/
/-- what is promised at a state -/
def tCallNS (n m : Nat) (sp : Sp) (gV : List V → List V → List V) (E : St → XK) (t tk : TA) : TE := fun σ H Q => t σ H fun vs H1 => tk σ H1 fun zs H2 => vs.length = n ∧ zs.length = m ∧ sp (gV vs zs) H2 Q (E σ)
section
variable {X : Cx} {CX : CXT} {k n : Nat} {f : Addr} {fd : FuncData} {ps ks : List Str} {sp : Sp} {E : St → XK} {x : Str} {p pos : Pos} {e : Expr} {es : List Expr} {kws : List Keyword} {t tk : TA} {g : List Value → List Value → List Value} {gV : List V → List V → List V}
theorem pe_callNS (F : FnOk X.prog X.w X.K X.mg X.base CX k f fd ps sp) (hr : Room k X.A) (hg : Gl X x) (hm : X.mg x = some (.ref f)) (hk : PySem.W.keepIn X.K (.ref f) = true) (hb : KBn X.K fd ps n ks g gV) (hx : ∀ σ, PassesAt CX X σ (E σ))
    (ha : PA X (e :: es) t) (hkw : PK X kws tk) (hall : (backToKw pos (keywordEach kws X.env)).all (·.1.isSome) = true := by rfl) (hks : (backToKw pos (keywordEach kws X.env)).filterMap (·.1) = ks := by rfl)
    (hdb : (x == ("__debug__" : Str)) = false := by decide) (he : starEach (e :: es) X.env = (false, eval e X.env) :: starEach es X.env := by rfl)
    (hpl : ((backTo pos (starEach (e :: es) X.env)).any (·.1) || (backToKw pos (keywordEach kws X.env)).any (·.1.isNone)) = false := by rfl) :
    PE X (.Call (.Name x p) (e :: es) kws pos) (tCallNS n ks.length sp gV E t tk) := by
  refine ⟨fun pins s σ H Q I h => ?_⟩
  refine wpAny_Call_Name_kw (ld_glob I hg hm ?_ hdb)
  refine PySem.W.callWith_KW (h₀ := X.base) I.ok.mod.kin hk hall (thn (ha.run pos pins s σ H _ I h) fun us s1 ⟨vs, H1, I1, r, q⟩ => ?_) hpl he
  refine thn (hkw.run pos pins s1 σ H1 _ I1 q) fun ws s2 ⟨zs, H2, I2, rz, l1, l2, q2⟩ => ⟨I2.kIn, ?_⟩
  rw [hks]
  have r2 := hb.rel r rz
  refine wpAny_call (codeAny_mono (F.run X.A X.stack s2 H2 ⟨us, ks.zip ws⟩ (g us ws) (gV vs zs) Q (E σ) hr I2.env0 (hb.to s2 us ws I2.kIn (r.length.symm.trans l1) (rz.length.symm.trans l2)) r2 q2) fun r s' hq => ?_)
  cases r with
  | error e => exact hx σ pins H2 s2 e s' I2 hq
  | ok fl =>
    cases fl with
    | ret u => exact I2.after hq
    | next => exact False.elim hq
    | brk => exact False.elim hq
    | cont => exact False.elim hq
end
theorem kb_mark {K : PySem.W.Frag} {f : Addr} {fd : FuncData} (F : Fun K "surrounded" "surrounded" sSur f fd) : KBn K fd ["places", "deeds", "mark"] 2 ["mark"] (fun us ws => us ++ ws) (fun vs zs => vs ++ zs) := by
  obtain ⟨oc, od, kV, doc, pm, an, cdv, ct, osl, rfl, lk, hcd⟩ := F.ex
  refine ⟨fun s us ws _ l1 l2 => .of_eq ?_, fun r1 r2 => r1.append r2⟩
  match us, ws, l1, l2 with
  | [_, _], [_], _, _ => rfl
end Qk

/-! part W10b -/
set_option Elab.async false
set_option linter.all false
set_option maxRecDepth 100000
set_option maxHeartbeats 4000000
namespace Qk
open PySem PySem.Spec L2
open PyProof.Rows hiding St
/-! ### alike as the law compares -/
theorem eq0_opt {o : Option Nat} : Eq0 (optV o) (optV o) := by
  cases o with
  | none => exact ⟨rfl, .inl rfl⟩
  | some n => exact ⟨rfl, .inr (.inl ⟨_, rfl⟩)⟩
theorem eq0_4 {v : V} (h : scal4 v = true) : Eq0 v v := by
  cases v with
  | int i => exact ⟨rfl, .inr (.inl ⟨i, rfl⟩)⟩
  | str s => exact ⟨rfl, .inr (.inr ⟨s, rfl⟩)⟩
  | _ => exact absurd h Bool.false_ne_true
theorem eqd0 {K : PySem.W.Frag} {H : Hp} {n : Nat} {x y : V} (h : Eq0 x y) : Eqd K H n x y := by
  cases n with
  | zero => exact h
  | succ n => exact .inl h
theorem paired_refl {α : Type} {F : α → α → Prop} : ∀ {l : List α}, (∀ x ∈ l, F x x) → Paired F l l
  | [], _ => .nil
  | x :: l, h => .cons (h x List.mem_cons_self) (paired_refl fun y hy => h y (List.mem_cons_of_mem _ hy))
theorem eqd_deed {K : PySem.W.Frag} {H : Hp} {s t : Addr} {d : Dd} (h1 : SqT K H s d.vs) (h2 : SqT K H t d.vs) (v : d.has fun v => scal4 v = true) : Eqd K H 1 (.ref s) (.ref t) := by
  refine .inr ⟨s, t, d.vs, d.vs, rfl, rfl, .inr ⟨h1, h2⟩, by cases d <;> simp [Dd.vs], paired_refl fun x hx => ?_⟩
  have st : ∀ z : Str, Eq0 (.str z) (.str z) := fun z => eq0_4 rfl
  cases d with
  | bg k c =>
    simp only [Dd.vs, List.mem_cons, List.not_mem_nil, or_false] at hx
    rcases hx with rfl | rfl | rfl <;> exact st _
  | rd c =>
    simp only [Dd.vs, List.mem_cons, List.not_mem_nil, or_false] at hx
    rcases hx with rfl | rfl <;> exact st _
  | wr c w =>
    simp only [Dd.vs, List.mem_cons, List.not_mem_nil, or_false] at hx
    rcases hx with rfl | rfl | rfl
    · exact st _
    · exact st _
    · exact eq0_4 v
  | ov k =>
    simp only [Dd.vs, List.mem_cons, List.not_mem_nil, or_false] at hx
    rcases hx with rfl | rfl <;> exact st _
theorem paired_two {α β γ : Type} {F : α → γ → Prop} {G : β → γ → Prop} {R : α → β → Prop} : ∀ {l : List α} {m : List β} {n : List γ}, Paired F l n → Paired G m n → (∀ a b c, c ∈ n → F a c → G b c → R a b) → Paired R l m
  | _, _, _, .nil, .nil, _ => .nil
  | _, _, _, .cons p q, .cons r s, h => .cons (h _ _ _ List.mem_cons_self p r) (paired_two q s fun a b c hc => h a b c (List.mem_cons_of_mem _ hc))
theorem paired_maps {α β γ δ : Type} {R : γ → δ → Prop} {f : α → γ} {g : β → δ} : ∀ {l : List α} {m : List β}, Paired (fun a b => R (f a) (g b)) l m → Paired R (l.map f) (m.map g)
  | _, _, .nil => .nil
  | _, _, .cons p q => .cons p (paired_maps q)
theorem eqd_deeds {K : PySem.W.Frag} {H : Hp} {a b : Addr} {ds : List Dd} (h1 : DlAt K H a ds) (h2 : DlAt K H b ds) (v : ∀ d ∈ ds, d.has fun v => scal4 v = true) (hl : ds.length ≤ 1000) : Eqd K H 2 (.ref a) (.ref b) := by
  obtain ⟨ts, e1, p1⟩ := h1
  obtain ⟨us, e2, p2⟩ := h2
  refine .inr ⟨a, b, ts.map V.ref, us.map V.ref, rfl, rfl, .inl ⟨SqL.of e1, SqL.of e2⟩, by rw [List.length_map, Paired.length p1]; exact hl, paired_maps (paired_two p1 p2 fun s t d hd q r => eqd_deed q r (v d hd))⟩
theorem surr_v4 {ps : List (Str × V)} {ds : List Dd} {m : V} {n : Nat} (v : ∀ d ∈ ds, d.has fun v => scal4 v = true) (hm : scal4 m = true) : ∀ d ∈ surr (Sto.init ps) ds m n, d.has fun v => scal4 v = true := fun d hd => by
  have tk : ∀ e ∈ ds.take n, e.has fun v => scal4 v = true := fun e he => v e (List.mem_of_mem_take he)
  unfold surr at hd
  split at hd
  all_goals first
    | exact v d hd
    | (rcases List.mem_append.mp hd with h | h
       · exact tk d h
       · simp only [List.mem_cons, List.not_mem_nil, or_false] at h
         rcases h with rfl | rfl | rfl <;> first | trivial | exact hm)
    | (rcases List.mem_append.mp hd with h | h
       · exact tk d h
       · simp only [List.mem_cons, List.not_mem_nil, or_false] at h
         rcases h with rfl | rfl <;> first | trivial | exact hm)
theorem ans_v4 {p : V → Prop} {ps : List (Str × V)} {ds : List Dd} (hp : (keys ps).Nodup) (h0 : ∀ x ∈ ps, p x.2) (hq : ∀ d ∈ ds, d.has p) : ∀ {n : Nat}, n ≤ ds.length → Fit (Sto.init ps) ds n → ∀ x ∈ ansAt (Sto.init ps) (Cto.init ps) ds n, p x.2.1 ∧ p x.2.2
  | 0, _, _, x, hx => nomatch hx
  | n + 1, hn, hf, x, hx => by
    obtain ⟨d, e⟩ : ∃ d, ds[n]? = some d := ⟨ds[n], List.getElem?_eq_getElem hn⟩
    rw [ans_next e] at hx
    rcases List.mem_append.mp hx with hx | hx
    · exact ans_v4 hp h0 hq (Nat.le_of_succ_le hn) (hf.mono (Nat.le_succ n)) x hx
    · cases d with
      | rd c =>
        obtain rfl := List.mem_singleton.mp hx
        exact read_has hp h0 hq e hf
      | _ => exact nomatch hx
end Qk

/-! part W10 -/
set_option Elab.async false
set_option linter.all false
set_option maxRecDepth 100000
set_option maxHeartbeats 8000000
namespace Qk
open PySem PySem.Spec L2
open PyProof.Rows hiding St
abbrev sST : Stmt := top 46
structure KwM (P : Program) (w : World) (K : PySem.W.Frag) (mg : Str → Option Value) (base : Heap) (k : Nat) (f : Addr) (fd : FuncData) (x : Str) (ps : List Str) (sp : Sp) (n : Nat) (ks : List Str) : Prop where
  G : FnOk P w K mg base (L2.CX P w) k f fd ps sp
  kb : KBn K fd ps n ks (fun us ws => us ++ ws) (fun vs zs => vs ++ zs)
  g : mg x = some (.ref f)
  kp : PySem.W.keepIn K (.ref f) = true
def spST (K : PySem.W.Frag) : Sp := fun vs H Q _ => ∃ (a b : Addr) (ps : List (Str × V)) (ds : List Dd) (m : V), vs = [.ref a, .ref b, m] ∧ PlcAt K H a ps ∧ DlAt K H b ds ∧ Plc ps ∧ ds.length ≤ 90 ∧ Fit (Sto.init ps) ds ds.length ∧ (∀ d ∈ ds, d.has fun v => scal4 v = true) ∧ scal4 m = true ∧ m ∉ vals ps ds ∧
  ∀ H', Same H H' → Q (.bl true) H'
theorem scal_44 {u v : V} (h1 : scal4 u = true) (h2 : scal4 v = true) : scal u v = true := by
  cases u <;> first | exact absurd h1 Bool.false_ne_true | (cases v <;> first | exact absurd h2 Bool.false_ne_true | rfl)
section
variable {P : Program} {w : World} {K : PySem.W.Frag} {mg : Str → Option Value} {base : Heap}
theorem scST : FnScope ["_law_places", "_law_deeds_here", "_law_value_here", "_law_due_here", "_law_given", "_law_found", "_law_answers", "_law_last", "_law_deed", "_law_answer", "_law_at", "_law_plain", "_law_quick"] ["_law_places", "_law_deeds_here", "_law_value_here"] (defScope sST) := ⟨rfl, rfl, rfl, by decide +kernel, rfl, by decide +kernel, by decide +kernel⟩
theorem ok_st {CB f fS fF fR fB fU fD fE : Addr} {fd dS dF dR dB dU dD dE : FuncData} (F : Fun K "_law_surrounded_told" "_law_surrounded_told" sST f fd)
    (MS : KwM P w K mg base 6 fS dS "surrounded" ["places", "deeds", "mark"] (spSur K CB) 2 ["mark"]) (MF : CallM P w K mg base (L2.CX P w) 5 fF dF "first_untidy" ["places", "deeds"] (spFU K CB)) (MR : CallM P w K mg base (L2.CX P w) 7 fR dR "parted_read" ["places", "deeds"] (spPR K CB))
    (MB : GenM P w K mg base 5 fB dB "both_ways" ["places", "deeds"] (spBW K CB)) (MU : CallM P w K mg base CX0 4 fU dU "_law_untidy" ["_law_places", "_law_deeds_here"] (spUnt K)) (MDu : CallM P w K mg base CX0 5 fD dD "_law_due" ["_law_places", "_law_deeds_here", "_law_value_here"] (spDue K))
    (MSa : CallM P w K mg base CX0 4 fE dE "_law_same" ["_law_mine", "_law_due_here"] (spSame K 3)) (gLen : mg "len" = none) (gList : mg "list" = none) (gTuple : mg "tuple" = none) :
    FnOk P w K mg base CX0 9 f fd ["_law_places", "_law_deeds_here", "_law_value_here"] (spST K) := by
  refine F.ok scST (fun vs H Q E h => ?_) (fun cdv A outer s H vs Q E hr h => ?_)
  · obtain ⟨a, b, ps, ds, m, rfl, _⟩ := h
    rfl
  · obtain ⟨a, b, ps, ds, m, rfl, hP, hD, hps, hdl, hfit, v4, m4, hm, k⟩ := h
    have hu := hu_of hr
    refine ⟨_, (pss_cons (ps_set (i := 3) scST.nd rfl (.inl rfl) (by exact (pe_call MDu.G (hr.mono (by decide)) rfl MDu.g MDu.kp MDu.b .nil pass0 (by exact (pa_cons (pv 0) (pa_cons (pv 1) (pa_cons (pv 2) pa_nil)))))))
      (pss_cons (ps_set (i := 4) scST.nd rfl (.inl rfl) (pe_callTy call_list_of (by rfl) gList (by decide +kernel) (by exact (pa_cons (pv 1) pa_nil))))
      (pss_cons (ps_set (i := 5) scST.nd rfl (.inl rfl) (by exact (pe_callN MS.G (hr.mono (by decide)) rfl MS.g MS.kp MS.kb passB (by exact (pa_cons (pv 0) (pa_cons (pv 4) pa_nil))) (by exact (pk_cons (pv 2) pk_nil)))))
      (pss_cons (ps_if (pt_not (pt_val (by exact (pe_call MSa.G (hr.mono (by decide)) rfl MSa.g MSa.kp MSa.b .nil pass0 (by exact (pa_cons (by exact (pe_call MF.G (hr.mono (by decide)) rfl MF.g MF.kp MF.b .nil passB (by exact (pa_cons (pv 0) (pa_cons (pe_callTy call_tuple_of (by rfl) gTuple (by decide +kernel) (by exact (pa_cons (pv 1) pa_nil))) pa_nil))))) (pa_cons (by exact (pe_call MU.G (hr.mono (by decide)) rfl MU.g MU.kp MU.b .nil pass0 (by exact (pa_cons (pv 0) (pa_cons (pv 1) pa_nil))))) pa_nil))))))) (pss_one (ps_ret pe_bl)) pss_nil)
      (pss_cons (ps_if (PW.pt (pw_or (pt_not (pt_val (by exact (pe_call MSa.G (hr.mono (by decide)) rfl MSa.g MSa.kp MSa.b .nil pass0 (by exact (pa_cons (pv 5) (pa_cons (pv 3) pa_nil))))))) (pw_or1 (pt_not (pt_val (by exact (pe_call MSa.G (hr.mono (by decide)) rfl MSa.g MSa.kp MSa.b .nil pass0 (by exact (pa_cons (pv 4) (pa_cons (pv 1) pa_nil)))))))))) (pss_one (ps_ret pe_bl)) pss_nil)
      (pss_cons (ps_if (pt_cmpR op_isN (pv 3) pe_non (nomark _)) (pss_one (ps_ret (pe_cmpR op_isN (by exact (pe_call MR.G (hr.mono (by decide)) rfl MR.g MR.kp MR.b .nil passB (by exact (pa_cons (pv 0) (pa_cons (pv 4) pa_nil))))) pe_non (nomark _)))) pss_nil)
      (pss_cons (ps_set (i := 6) scST.nd rfl (.inl rfl) (by exact (pe_listG (k := 5) (E := E0) (PGenT.gen (by exact (pgen_callT (E := E0) MB.G (hr.mono (by decide)) rfl MB.g MB.kp MB.b .nil (by exact (pa_cons (pv 0) (pa_cons (pv 5) pa_nil))))))  passB (fun _ _ _ h => h.elim) (hr.mono (by decide)) (by rfl) gList (by decide +kernel))))
      (pss_cons (ps_set (i := 7) scST.nd rfl (.inl rfl) (pe_op op_sub (pe_callB call_len_seq (by rfl) gLen (by decide +kernel) (by exact (pa_cons (pv 3) pa_nil))) pe_int))
      (pss_cons (ps_if (PW.pt (pw_or (pt_cmpR op_eq (pe_callB call_len_seq (by rfl) gLen (by decide +kernel) (by exact (pa_cons (pv 6) pa_nil))) pe_int (nomark _)) (pw_or1 (pt_cmpR op_ne (pe_callB call_len_seq (by rfl) gLen (by decide +kernel) (by exact (pa_cons (pv 6) pa_nil))) (pe_callB call_len_seq (by rfl) gLen (by decide +kernel) (by exact (pa_cons (pe_lc (own := [("_law_deed", 8)]) (g := gName 8) (tt := tTest (tOp rEq (tOp (rIxT K) (tVar 8) (tC (.int 0))) (tC (.str "read")))) (te := (tVar 8)) rfl scST.nd (pi_list (pv 3)) (blkOk_by (own := [("_law_deed", 8)]) (N := ["_law_places", "_law_deeds_here", "_law_value_here", "_law_due_here", "_law_given", "_law_found", "_law_answers", "_law_last", "_law_deed", "_law_answer", "_law_at", "_law_plain", "_law_quick"]) (sc := defScope sST) (by decide +kernel)) (fun _ _ _ _ _ => (pg_name (i := 8) scST.nd rfl (Or.inl rfl) (Or.inr rfl))) (fun _ _ _ _ _ => pts_one (pt_cmpR op_eq (pe_ix ix_tup (pv 8) pe_int (fun _ _ => rfl)) pe_str (nomark _))) (fun _ _ _ _ _ => (pv 8))) pa_nil))) (nomark _))))) (pss_one (ps_ret pe_bl)) pss_nil)
      (pss_cons (ps_for PassesOwn.never rfl (pi_list (pv 6)) (pg_name (i := 9) scST.nd rfl (.inl rfl)) (pss_one (ps_if (PW.pt (pw_and (pt_cmpR op_ne (pe_ix ix_tup (pv 9) pe_int (fun _ _ => rfl)) (pv 7) (nomark _)) (pw_and1 (pt_not (pt_val (by exact (pe_call MSa.G (hr.mono (by decide)) rfl MSa.g MSa.kp MSa.b .nil pass0 (by exact (pa_cons (pe_ix ix_tup (pv 9) pe_int (fun _ _ => rfl)) (pa_cons (pe_ix ix_tup (pv 9) pe_int (fun _ _ => rfl)) pa_nil)))))))))) (pss_one (ps_ret pe_bl)) pss_nil)))
      (pss_cons (ps_asg (pe_ix ix_list (pv 6) (pe_op op_sub (pe_callB call_len_seq (by rfl) gLen (by decide +kernel) (by exact (pa_cons (pv 6) pa_nil))) pe_int) (fun _ _ => rfl)) (by exact pg_tup rfl (pgs_cons (pg_name (i := 10) scST.nd rfl (.inl rfl)) (pgs_cons (pg_name (i := 11) scST.nd rfl (.inl rfl)) (pgs_cons (pg_name (i := 12) scST.nd rfl (.inl rfl)) pgs_nil)))))
      (pss_cons (ps_if (PW.pt (pw_or (pt_not (pt_val (by exact (pe_call MSa.G (hr.mono (by decide)) rfl MSa.g MSa.kp MSa.b .nil pass0 (by exact (pa_cons (pv 10) (pa_cons (pv 7) pa_nil))))))) (pw_or (pt_not (pt_val (by exact (pe_call MSa.G (hr.mono (by decide)) rfl MSa.g MSa.kp MSa.b .nil pass0 (by exact (pa_cons (pv 11) (pa_cons (pv 2) pa_nil))))))) (pw_or1 (pt_cmpR op_eq (pv 12) (pv 2) (nomark _)))))) (pss_one (ps_ret pe_bl)) pss_nil)
      (pss_cons (ps_if (PW.pt (pw_or (pt_not (pt_val (by exact (pe_call MSa.G (hr.mono (by decide)) rfl MSa.g MSa.kp MSa.b .nil pass0 (by exact (pa_cons (by exact (pe_call MR.G (hr.mono (by decide)) rfl MR.g MR.kp MR.b .nil passB (by exact (pa_cons (pv 0) (pa_cons (pv 5) pa_nil))))) (pa_cons (pv 7) pa_nil))))))) (pw_or1 (pt_cmpR op_gt (pe_callB call_len_seq (by rfl) gLen (by decide +kernel) (by exact (pa_cons (pv 5) pa_nil))) (pe_op op_add (by exact (pe_call MU.G (hr.mono (by decide)) rfl MU.g MU.kp MU.b .nil pass0 (by exact (pa_cons (pv 0) (pa_cons (pv 1) pa_nil))))) pe_int) (nomark _))))) (pss_one (ps_ret pe_bl)) pss_nil)
      (pss_one (ps_ret (by exact (pe_call MSa.G (hr.mono (by decide)) rfl MSa.g MSa.kp MSa.b .nil pass0 (by exact (pa_cons (by exact (pe_callN MS.G (hr.mono (by decide)) rfl MS.g MS.kp MS.kb passB (by exact (pa_cons (pv 0) (pa_cons (pe_callTy call_tuple_of (by rfl) gTuple (by decide +kernel) (by exact (pa_cons (pv 1) pa_nil))) pa_nil))) (by exact (pk_cons (pv 2) pk_nil)))) (pa_cons (pv 3) pa_nil)))))))))))))))))))), ?_⟩
    have hnd := hps.nd
    have h4 := hps.n4
    have vp := hps.v4
    obtain ⟨ts, hL, hPd⟩ := id hD
    have nofail : ∀ {L : List Dd}, Fit (Sto.init ps) L L.length → ∀ (i : Nat) (d : Dd), L[i]? = some d → (stAt (Sto.init ps) L i).fits d = false → False := fun {L} hL i d hd hf => by
      have := hL i d (List.getElem?_eq_some_iff.mp hd).1 hd
      rw [hf] at this; cases this
    refine ⟨_, rfl, _, rfl, _, rfl, a, b, ps, ds, m, rfl, hP, hD, hnd, h4, by omega, hfit, fun eu H1 s1 => ?_, fun n eu q H1 s1 hq hqd => ?_⟩
    · -- tidy
      refine ⟨_, rfl, b, _, rfl, .inl (SqL.of (s1 _ _ hL)), fun g hg => ?_⟩
      have s2 := new_list (xs := ts.map V.ref) hg
      have e2 : upd H1 g (.lst (ts.map V.ref)) g = some (.lst (ts.map V.ref)) := upd_same
      generalize upd H1 g (.lst (ts.map V.ref)) = H2 at s2 e2 ⊢
      have sH2 : Same H H2 := fun b o e => s2 _ _ (s1 _ _ e)
      have hDg : DlAt K H2 g ds := ⟨ts, e2, Paired.mapP hPd fun t d y => sameT sH2 y⟩
      refine ⟨_, rfl, _, rfl, _, rfl, rfl, rfl, a, g, ps, ds, m, rfl, hP.keep sH2, hDg.ds, hnd, h4, by omega, fun _ _ H3 s3 => ?_, fun _ n eu2 => (by rw [eu] at eu2; cases eu2), fun i d hd hf hu => (nofail hfit i d hd hu).elim⟩
      have sH3 : Same H H3 := fun b o e => s3 _ _ (sH2 _ _ e)
      refine ⟨_, rfl, _, rfl, b, _, rfl, .inl ⟨SqL.of (sH3 _ _ hL), fun tp htp => ?_⟩⟩
      have s4 := new_tups (xs := ts.map V.ref) htp
      have e4 : upd H3 tp (.tup (ts.map V.ref)) tp = some (.tup (ts.map V.ref)) := upd_same
      generalize upd H3 tp (.tup (ts.map V.ref)) = H4 at s4 e4 ⊢
      have sH4 : Same H H4 := fun b o e => s4 _ _ (sH3 _ _ e)
      refine ⟨a, tp, ps, ds, rfl, hP.keep sH4, ⟨ts, .inr (SqT.of e4), Paired.mapP hPd fun t d y => sameT sH4 y⟩, hnd, h4, by omega, fun _ H5 s5 => ?_, fun i d hd hf hu => (nofail hfit i d hd hu).elim⟩
      have sH5 : Same H H5 := fun b o e => s5 _ _ (sH4 _ _ e)
      refine ⟨_, rfl, _, rfl, a, b, ps, ds, rfl, hP.keep sH5, hD.keep sH5, hnd, h4, by omega, hfit, fun H6 s6 => ⟨2, _, _, rfl, rfl, eqd0 eq0_opt, _, rfl, if_false_of rfl ?_⟩⟩
      have sH6 : Same H H6 := fun b o e => s6 _ _ (sH5 _ _ e)
      have s26 : Same H2 H6 := fun b o e => s6 _ _ (s5 _ _ (s4 _ _ (s3 _ _ e)))
      refine ⟨_, rfl, _, rfl, 2, _, _, rfl, rfl, eqd0 ⟨rfl, .inl rfl⟩, _, rfl, if_false_of rfl ⟨_, rfl, _, rfl, 2, _, _, rfl, rfl, eqd_deeds (hDg.keep s26) (hD.keep sH6) v4 (by omega), _, rfl, if_false_of rfl ?_⟩⟩
      refine ⟨_, rfl, rfl, _, rfl, if_true_of rfl ?_⟩
      refine ⟨_, rfl, _, rfl, a, g, ps, ds, rfl, hP.keep sH6, (hDg.keep s26).ds, hnd, h4, by omega, vp, v4, fun _ H7 s7 => ⟨rfl, ?_⟩, fun i d hd hf hu => (nofail hfit i d hd hu).elim⟩
      have ep : parted (answers ps ds ds.length) = [] := parted_alike (ans_alike hnd (Nat.le_refl _) hfit (firstU_none_iff eu))
      rw [ep]
      have q := k H7 fun b o e => s7 _ _ (sH6 _ _ e)
      simpa [optV] using q
    · -- untidy
      have hno := vals_no hm
      have PP := surr_parts hnd hfit hno.1 hno.2 eu
      have sv := surr_v4 (ps := ps) (n := n) v4 m4
      have hn : n < ds.length := (firstU_some eu).1
      generalize hLL : surr (Sto.init ps) ds m n = L at hqd PP sv
      have hLl : L.length ≤ 93 := by have := PP.len; omega
      refine ⟨_, rfl, b, _, rfl, .inl (SqL.of (s1 _ _ hL)), fun g hg => ?_⟩
      have s2 := new_list (xs := ts.map V.ref) hg
      have e2 : upd H1 g (.lst (ts.map V.ref)) g = some (.lst (ts.map V.ref)) := upd_same
      generalize upd H1 g (.lst (ts.map V.ref)) = H2 at s2 e2 ⊢
      have sH2 : Same H H2 := fun b o e => s2 _ _ (s1 _ _ e)
      have hDg : DlAt K H2 g ds := ⟨ts, e2, Paired.mapP hPd fun t d y => sameT sH2 y⟩
      refine ⟨_, rfl, _, rfl, _, rfl, rfl, rfl, a, g, ps, ds, m, rfl, hP.keep sH2, hDg.ds, hnd, h4, by omega, fun _ eu2 => (by rw [eu] at eu2; cases eu2), fun _ n2 eu2 p H3 s3 hp hpd => ?_, fun i d hd hf hu => (nofail hfit i d hd hu).elim⟩
      obtain rfl : n = n2 := by rw [eu] at eu2; exact Option.some.inj eu2
      rw [hLL] at hpd
      have sH3 : Same H H3 := fun b o e => s3 _ _ (sH2 _ _ e)
      refine ⟨_, rfl, _, rfl, b, _, rfl, .inl ⟨SqL.of (sH3 _ _ hL), fun tp htp => ?_⟩⟩
      have s4 := new_tups (xs := ts.map V.ref) htp
      have e4 : upd H3 tp (.tup (ts.map V.ref)) tp = some (.tup (ts.map V.ref)) := upd_same
      generalize upd H3 tp (.tup (ts.map V.ref)) = H4 at s4 e4 ⊢
      have sH4 : Same H H4 := fun b o e => s4 _ _ (sH3 _ _ e)
      refine ⟨a, tp, ps, ds, rfl, hP.keep sH4, ⟨ts, .inr (SqT.of e4), Paired.mapP hPd fun t d y => sameT sH4 y⟩, hnd, h4, by omega, fun _ H5 s5 => ?_, fun i d hd hf hu => (nofail hfit i d hd hu).elim⟩
      have sH5 : Same H H5 := fun b o e => s5 _ _ (sH4 _ _ e)
      refine ⟨_, rfl, _, rfl, a, b, ps, ds, rfl, hP.keep sH5, hD.keep sH5, hnd, h4, by omega, hfit, fun H6 s6 => ⟨2, _, _, rfl, rfl, eqd0 eq0_opt, _, rfl, if_false_of rfl ?_⟩⟩
      have sH6 : Same H H6 := fun b o e => s6 _ _ (sH5 _ _ e)
      have s36 : Same H3 H6 := fun b o e => s6 _ _ (s5 _ _ (s4 _ _ e))
      have s26 : Same H2 H6 := fun b o e => s36 _ _ (s3 _ _ e)
      have s16 : Same H1 H6 := fun b o e => s26 _ _ (s2 _ _ e)
      refine ⟨_, rfl, _, rfl, 2, _, _, rfl, rfl, eqd_deeds (hpd.keep s36) (hqd.keep s16) sv (by omega), _, rfl, if_false_of rfl ⟨_, rfl, _, rfl, 2, _, _, rfl, rfl, eqd_deeds (hDg.keep s26) (hD.keep sH6) v4 (by omega), _, rfl, if_false_of rfl ?_⟩⟩
      refine ⟨_, rfl, rfl, _, rfl, if_false_of (by simp) ?_⟩
      -- the answers
      refine ⟨_, rfl, _, rfl, a, p, ps, L, rfl, hP.keep sH6, (hpd.keep s36).ds, hnd, h4, by omega, fun _ _ _ _ _ _ _ _ _ _ => trivial, fun _ ys H7 s7 hans => fun w hw => ?_, fun i d hd hf hu => (nofail PP.fit i d hd hu).elim⟩
      have s8 := new_list (xs := ys) hw
      have e8 : upd H7 w (.lst ys) w = some (.lst ys) := upd_same
      have hans8 := hans.keep s8
      generalize upd H7 w (.lst ys) = H8 at s8 e8 hans8 ⊢
      have s68 : Same H6 H8 := fun b o e => s8 _ _ (s7 _ _ e)
      have sH8 : Same H H8 := fun b o e => s68 _ _ (sH6 _ _ e)
      obtain ⟨tsq, hLq, hPq⟩ := (hqd.keep s16).keep s68
      have hlq : tsq.length = L.length := Paired.length hPq
      refine ⟨_, rfl, q, _, rfl, .inl (SqL.of hLq), _, _, rfl, rfl, ?_⟩
      obtain ⟨qv, hqv, hlast⟩ := PP.last
      have hyl : ys.length = (ansAt (Sto.init ps) (Cto.init ps) ds n).length + 1 := by
        rw [Paired.length hans, show answers ps L L.length = _ from hlast, List.length_append]; rfl
      refine ⟨_, rfl, w, _, rfl, .inl (SqL.of e8), rfl, _, rfl, if_false_of (decide_eq_false fun z => (by have := V.int.inj z; omega)) ?_⟩
      refine ⟨_, rfl, w, _, rfl, .inl (SqL.of e8), _, rfl, q, rfl, ⟨_, SqL.of hLq⟩, fun D1 hD1 => ?_⟩
      refine lc_list (K := K) (a := q) (xs := tsq.map V.ref) (fun i H' => ∃ zs : List V, zs.length = ((L.take i).filter Dd.isRd).length ∧ H' D1 = some (.lst zs) ∧ KB [D1] H8 H') ⟨[], rfl, upd_same, KB.refl.upd (by simp)⟩
        (fun i H' _ ⟨_, _, _, h3⟩ => SqL.of ((sd h3 hD1) _ _ hLq)) (fun i x H' hx h3 => ?_) (fun H9 h9 => ?_)
      · rw [List.getElem?_map] at hx
        cases ei : tsq[i]? with
        | none => rw [ei] at hx; cases hx
        | some t =>
          rw [ei] at hx
          cases hx
          obtain ⟨zs, hz, hzD, h3⟩ := h3
          obtain ⟨d, ed, hT⟩ := paired_get hPq ei
          have hT' : SqT K H' t d.vs := sameT (sd h3 hD1) hT
          have ln : zs.length ≤ 900 := by
            rw [hz]
            have := List.length_filter_le Dd.isRd (L.take i)
            rw [List.length_take] at this
            omega
          have nx : ((L.take (i + 1)).filter Dd.isRd).length = zs.length + (if d.isRd then 1 else 0) := by
            rw [take_next ed, List.filter_append, List.length_append, ← hz]
            cases d <;> rfl
          cases d with
          | rd c => exact ⟨rfl, _, rfl, t, _, _, _, rfl, rfl, hT', rfl, rfl, _, rfl, if_true_of (by decide +kernel) ⟨_, rfl, _, hzD, fits_line ln, _, by rw [nx]; simp [Dd.isRd], upd_same, h3.upd (by simp)⟩⟩
          | wr c v => exact ⟨rfl, _, rfl, t, _, _, _, rfl, rfl, hT', rfl, rfl, _, rfl, if_false_of (by decide +kernel) ⟨zs, nx.symm, hzD, h3⟩⟩
          | bg kk tt => exact ⟨rfl, _, rfl, t, _, _, _, rfl, rfl, hT', rfl, rfl, _, rfl, if_false_of (by decide +kernel) ⟨zs, nx.symm, hzD, h3⟩⟩
          | ov c => exact ⟨rfl, _, rfl, t, _, _, _, rfl, rfl, hT', rfl, rfl, _, rfl, if_false_of (by decide +kernel) ⟨zs, nx.symm, hzD, h3⟩⟩
      obtain ⟨zs, hz, hzD, h9⟩ := h9
      have hzl : zs.length = ys.length := by
        rw [List.length_map, hlq, ← ans_reads (S := Sto.init ps) (C := Cto.init ps) (Nat.le_refl _)] at hz
        rw [hz, hlast, hyl, List.length_append]; rfl
      have s9 : Same H8 H9 := sd h9 hD1
      have s69 : Same H6 H9 := fun b o e => s9 _ _ (s68 _ _ e)
      have sH9 : Same H H9 := fun b o e => s9 _ _ (sH8 _ _ e)
      have hans9 := hans8.keep s9
      refine ⟨D1, _, rfl, .inl (SqL.of hzD), rfl, _, rfl, if_false_of (by rw [hzl]; simp) ?_⟩
      have hwL : SqL K H9 w ys := SqL.of (s9 _ _ e8)
      refine ⟨_, rfl, w, rfl, ⟨_, hwL⟩, ?_⟩
      refine for_list (K := K) (a := w) (xs := ys) (fun i σ H' => (∃ o : Option V, σ = [some (.ref a), some (.ref b), some m, some (.ref q), some (.ref g), some (.ref p), some (.ref w), some (.int ((L.length : Int) - 1)), none, o, none, none, none]) ∧ H' = H9) ?_
        (fun i σ H' _ h => h.2 ▸ hwL) (fun i x σ H' hx h => ?_) (fun σ H' h => ?_)
      · exact ⟨⟨none, by rw [List.length_map, hlq]; rfl⟩, rfl⟩
      · obtain ⟨⟨o, rfl⟩, rfl⟩ := h
        obtain ⟨⟨j, u, v⟩, ex, T, rfl, eT⟩ := paired_get hans9 hx
        have hT : SqT K H' T [ixV j, u, v] := SqT.of eT
        have hL0 : ((L.length : Int) - 1) = ((L.length - 1 : Nat) : Int) := by have := PP.pos; omega
        rw [hL0]
        by_cases hj : j = L.length - 1
        · subst hj
          refine ⟨_, rfl, T, _, _, _, rfl, rfl, hT, rfl, _, rfl, rfl, _, rfl, if_false_of (by simp [ixV]) ⟨⟨some (.ref T), rfl⟩, rfl⟩⟩
        · have hx' : (j, u, v) ∈ ansAt (Sto.init ps) (Cto.init ps) ds n := by
            have hmem := List.mem_of_getElem? ex
            rw [show answers ps L L.length = _ from hlast] at hmem
            rcases List.mem_append.mp hmem with h | h
            · exact h
            · rw [List.mem_singleton] at h
              exact (hj (congrArg Prod.fst h)).elim
          obtain ⟨euv, _⟩ := PP.alike _ hx'
          obtain rfl : u = v := euv
          have u4 : scal4 u = true := (ans_v4 (p := fun v => scal4 v = true) hnd vp v4 (Nat.le_of_lt hn) (hfit.mono (Nat.le_of_lt hn)) _ hx').1
          refine ⟨_, rfl, T, _, _, _, rfl, rfl, hT, rfl, _, rfl, rfl, _, rfl, if_true_of (by simp only [ixV]; exact congrArg not (decide_eq_false fun z => hj (by have := V.int.inj z; omega))) ?_⟩
          exact ⟨_, rfl, T, _, _, _, rfl, rfl, hT, rfl, _, rfl, T, _, _, _, rfl, rfl, hT, rfl, 2, _, _, rfl, rfl, eqd0 (eq0_4 u4), _, rfl, if_false_of rfl ⟨⟨some (.ref T), rfl⟩, rfl⟩⟩
      -- the last answer
      obtain ⟨⟨o, rfl⟩, rfl⟩ := h
      have hL0 : ((L.length : Int) - 1) = ((L.length - 1 : Nat) : Int) := by have := PP.pos; omega
      have hyp : 0 < ys.length := by omega
      obtain ⟨x, hx⟩ : ∃ x, ys[ys.length - 1]? = some x := ⟨ys[ys.length - 1], List.getElem?_eq_getElem (by omega)⟩
      obtain ⟨⟨j, u, v⟩, ex, T, rfl, eT⟩ := paired_get hans9 hx
      have ex2 : (j, u, v) = (L.length - 1, m, qv) := by
        rw [show answers ps L L.length = _ from hlast, hyl, Nat.add_sub_cancel, List.getElem?_append_right (Nat.le_refl _), Nat.sub_self] at ex
        exact (Option.some.inj ex).symm
      cases ex2
      have hT : SqT K H' T [ixV (L.length - 1), m, qv] := SqT.of eT
      have q4 : scal4 qv = true := by
        have hm2 : (L.length - 1, m, qv) ∈ ansAt (Sto.init ps) (Cto.init ps) L L.length := by rw [hlast]; simp
        exact (ans_v4 (p := fun v => scal4 v = true) hnd vp sv (Nat.le_refl _) PP.fit _ hm2).2
      have hyc : ((ys.length : Int) - 1) = ((ys.length - 1 : Nat) : Int) := by omega
      refine ⟨_, rfl, _, rfl, w, _, rfl, .inl hwL, _, _, rfl, rfl, w, _, _, _, rfl, rfl, hwL, by rw [hyc]; exact atI_nat hx, ?_⟩
      refine ⟨T, _, rfl, hT, rfl, _, _, rfl, _, _, rfl, _, _, rfl, rfl, ?_⟩
      refine ⟨_, rfl, _, rfl, 2, _, _, rfl, rfl, eqd0 ⟨by show ixV (L.length - 1) = V.int ((L.length : Int) - 1); rw [hL0]; rfl, .inr (.inl ⟨_, rfl⟩)⟩, _, rfl, if_false_of rfl ?_⟩
      refine ⟨_, rfl, _, rfl, 2, _, _, rfl, rfl, eqd0 (eq0_4 m4), _, rfl, if_false_of rfl ?_⟩
      refine ⟨_, rfl, _, rfl, scal_44 q4 m4, _, rfl, if_false_of (decide_eq_false hqv) ?_⟩
      -- the read at which the ways part
      refine ⟨_, rfl, _, rfl, a, p, ps, L, rfl, hP.keep sH9, ((hpd.keep s36).keep s69).ds, hnd, h4, by omega, vp, sv, fun _ H10 s10 => ?_, fun i d hd hf hu => (nofail PP.fit i d hd hu).elim⟩
      have ep : parted (answers ps L L.length) = [L.length - 1] := by
        rw [show answers ps L L.length = _ from hlast]
        exact parted_last (fun x hx => (PP.alike x hx).1) hqv
      rw [ep]
      refine ⟨_, rfl, 2, _, _, rfl, rfl, eqd0 ⟨by show ixV (L.length - 1) = V.int ((L.length : Int) - 1); rw [hL0]; rfl, .inr (.inl ⟨_, rfl⟩)⟩, _, rfl, if_false_of rfl ?_⟩
      have sH10 : Same H H10 := fun b o e => s10 _ _ (sH9 _ _ e)
      obtain ⟨tsp, hLp, hPp⟩ := ((hpd.keep s36).keep s69).keep s10
      have hlp : (tsp.map V.ref).length = L.length := by rw [List.length_map]; exact Paired.length hPp
      refine ⟨_, rfl, p, _, rfl, .inl (SqL.of hLp), ?_⟩
      refine ⟨_, rfl, _, rfl, a, b, ps, ds, rfl, hP.keep sH10, hD.keep sH10, hnd, h4, by omega, hfit, fun H11 s11 => ?_⟩
      rw [eu]
      refine ⟨_, _, rfl, rfl, _, _, rfl, rfl, _, rfl, if_false_of (decide_eq_false fun z => (by have := PP.len; rw [hlp] at z; omega)) ?_⟩
      have sH11 : Same H H11 := fun b o e => s11 _ _ (sH10 _ _ e)
      refine ⟨_, rfl, _, rfl, b, _, rfl, .inl ⟨SqL.of (sH11 _ _ hL), fun tq htq => ?_⟩⟩
      have s12 := new_tups (xs := ts.map V.ref) htq
      have e12 : upd H11 tq (.tup (ts.map V.ref)) tq = some (.tup (ts.map V.ref)) := upd_same
      generalize upd H11 tq (.tup (ts.map V.ref)) = H12 at s12 e12 ⊢
      have sH12 : Same H H12 := fun b o e => s12 _ _ (sH11 _ _ e)
      refine ⟨_, rfl, rfl, rfl, a, tq, ps, ds, m, rfl, hP.keep sH12, ⟨ts, .inr (SqT.of e12), Paired.mapP hPd fun t d y => sameT sH12 y⟩, hnd, h4, by omega, fun _ eu2 => (by rw [eu] at eu2; cases eu2), fun _ n2 eu2 p2 H13 s13 hp2 hpd2 => ?_, fun i d hd hf hu => (nofail hfit i d hd hu).elim⟩
      obtain rfl : n = n2 := by rw [eu] at eu2; exact Option.some.inj eu2
      rw [hLL] at hpd2
      have s1c : Same H1 H13 := fun b o e => s13 _ _ (s12 _ _ (s11 _ _ (s10 _ _ (s69 _ _ (s16 _ _ e)))))
      exact ⟨_, rfl, 2, _, _, rfl, rfl, eqd_deeds hpd2 (hqd.keep s1c) sv (by omega), k H13 fun b o e => s13 _ _ (sH12 _ _ e)⟩
end
end Qk

/-! part R6 -/
set_option Elab.async false
set_option linter.all false
set_option maxRecDepth 100000
set_option maxHeartbeats 4000000
namespace Qk
open PySem PySem.Spec L2
open PyProof.Rows hiding St
/-! ### defs that raise nothing and walk nothing: called in an except suite, whatever the handled exception's context -/
structure FnZ (P : Program) (w : World) (K : PySem.W.Frag) (mg : Str → Option Value) (base : Heap) (k : Nat) (f : Addr) (fd : FuncData) (ps : List Str) (sp : Sp) : Prop where
  len : ∀ vs H Q E, sp vs H Q E → vs.length = ps.length
  run : ∀ (A : Around) (outer : List Env) (s : Shared) (H : Hp) (args : Args) (us : List Value) (vs : List V) (Q : VK), L2H.RoomH k A → Env0 P w K mg base A outer s H → BindsTo s fd args (ps.zip us) → Vals vs us → sp vs H Q E0 →
    codeAny (model P w) A (.call (.ref f) args) (CR CX0 outer P w H s Q E0) s
abbrev cxZ (P : Program) (w : World) (K : PySem.W.Frag) (mg : Str → Option Value) (base : Heap) (N : List Str) (qual : Str) (scope : Scope) (f : Addr) (cd : Value) (A : Around) (outer : List Env) (s : Shared) (H : Hp) : Cx :=
  { cxOf CX0 P w K mg base N qual scope f cd A outer s H E0 with calm := false }
/-- a state of the calm body is one of the body in the suite -/
theorem inv_loud {P : Program} {w : World} {K : PySem.W.Frag} {mg : Str → Option Value} {base : Heap} {N : List Str} {qual : Str} {scope : Scope} {f : Addr} {cd : Value} {A : Around} {outer : List Env} {s s1 : Shared} {H H' : Hp} {σ : L2.St} {pins : List (Addr × Obj)} (hf : A.frames = some outer)
    (J : Inv (cxOf CX0 P w K mg base N qual scope f cd { A with handled := none } outer s H E0) pins σ H' s1) : Inv (cxZ P w K mg base N qual scope f cd A outer s H) pins σ H' s1 :=
  ⟨⟨J.ok.mod, J.ok.kind, J.ok.glob, J.ok.blt, J.ok.above, J.ok.inj, J.ok.has, J.ok.cab, fun z => (nomatch (show false = true from z)), Around.frames_deeper hf, .inr ⟨rfl, rfl⟩, J.ok.exf, J.ok.bs, J.ok.bsz, J.ok.noex, J.ok.exfs, J.ok.funs, J.ok.frf⟩,
    J.os, J.bare, J.base, J.loc, J.cell, J.free, J.freeC, J.pin, J.hok, J.len⟩
theorem funZ {P : Program} {w : World} {K : PySem.W.Frag} {mg : Str → Option Value} {base : Heap} {x qual : Str} {st : Stmt} {f : Addr} {fd : FuncData} {N ps : List Str} {k : Nat} {sp : Sp} (F : Fun K x qual st f fd) (S : FnScope N ps (defScope st)) (hlen : ∀ vs H Q E, sp vs H Q E → vs.length = ps.length)
    (hbody : ∀ (cdv : Value) (A : Around) (outer : List Env) (s : Shared) (H : Hp) (vs : List V) (Q : VK), L2H.RoomH k (A.deeper (envOfC qual (defScope st) s.heap.objs.size f cdv)) → sp vs H Q E0 →
      ∃ t, PSs (cxZ P w K mg base N qual (defScope st) f cdv A outer s H) (defBody st) t ∧ t { nx := fun _ H' => Q .non H', rt := Q } (L2.start N vs) H) : FnZ P w K mg base (k + 1) f fd ps sp := by
  obtain ⟨oc, od, kV, doc, pm, an, cdv, ct, osl, rfl, lk, hcd⟩ := F.ex
  refine ⟨hlen, fun A outer s H args us vs Q hr e0 hb rv hsp => ?_⟩
  have hk1 : K.In s.heap := e0.mod.kin.keeps fun b o z => (e0.bs b o z).1
  have hl1 : s.heap.NoLimit := e0.mod.nolimit.keeps fun b o z => (e0.bs b o z).1
  refine codeAny_call_function hr.depth (hk1 _ _ lk) rfl S.co S.gen rfl (PySem.W.codeRec_of hk1 hcd) (hb _ _ _ _ ?_)
  refine wpAny_newFunctionEnv_cells S.kind (fun y hy => ?_) fun env he s1 x => ?_
  · rcases S.par y.1 (List.of_mem_zip (show (y.1, y.2) ∈ ps.zip us from hy)).1 with q | q
    · exact .inl q
    · exact .inr ⟨q, PySem.W.cellsFrom_some _ _ _ (.inl q)⟩
  subst he
  refine ⟨hl1.keeps x.toInCall.keep, codeAny_func ?_⟩
  obtain ⟨t, ht, hq⟩ := hbody cdv A outer s H vs Q (hr.deeper _) hsp
  have eA : Env0 P w K mg base { A with handled := none } outer s H := ⟨e0.frames, e0.mod, e0.bs, e0.bsz, e0.funs, e0.frf, e0.hok, e0.bare⟩
  have I := inv_loud e0.frames (inv_start (CX := CX0) (E := E0) S rfl eA (hlen _ _ _ _ hsp) rv x)
  refine wpAny_mono (ht.run [] s1 (L2.start N vs) H _ I hq) (fun fl s' hs => ?_) fun e s' hs => hs
  cases fl with
  | ret u =>
    obtain ⟨v, σ', H', J, r, q⟩ := hs
    exact ⟨v, H', J.os, J.bare, J.base, J.hok, r, q⟩
  | next =>
    obtain ⟨σ', H', J, q⟩ := hs
    exact ⟨V.non, H', J.os, J.bare, J.base, J.hok, rfl, q⟩
  | brk => exact hs.elim fun _ z => z.elim fun _ z => z.2.elim
  | cont => exact hs.elim fun _ z => z.elim fun _ z => z.2.elim
section
variable {X : Cx} {k : Nat} {f : Addr} {fd : FuncData} {ps : List Str} {sp : Sp} {x : Str} {q pos : Pos} {e : Expr} {es : List Expr} {t : TA}
theorem pe_callZ (F : FnZ X.prog X.w X.K X.mg X.base k f fd ps sp) (hr : L2H.RoomH k X.A) (hg : Gl X x) (hm : X.mg x = some (.ref f)) (hk : PySem.W.keepIn X.K (.ref f) = true) (hb : Binds X.K fd ps []) (ha : PA X (e :: es) t) (hdb : (x == ("__debug__" : Str)) = false := by decide)
    (he : starEach (e :: es) X.env = (false, eval e X.env) :: starEach es X.env := by rfl) (hpl : (backTo pos (starEach es X.env)).any (·.1) = false := by rfl) : PE X (.Call (.Name x q) (e :: es) [] pos) (tCall sp [] E0 t) := by
  refine ⟨fun pins s σ H Q I h => wpAny_Call_Name_kw (ld_glob I hg hm ?_ hdb)⟩
  refine PySem.W.callWith_K (h₀ := X.base) I.ok.mod.kin hk (thn (ha.run pos pins s σ H _ I h) fun us s1 ⟨vs, H1, I1, r, z⟩ => ⟨I1.kIn, ?_⟩) he hpl
  have z : sp vs H1 Q E0 := (List.append_nil vs) ▸ z
  have b := hb s1 us I1.kIn (by rw [List.append_nil]; exact r.length.symm.trans (F.len _ _ _ _ z))
  rw [List.append_nil] at b
  refine wpAny_call (codeAny_mono (F.run X.A X.stack s1 H1 ⟨us, []⟩ us vs Q hr I1.env0 b r z) fun r s' hq => ?_)
  cases r with
  | error e => exact hq.elim
  | ok fl =>
    cases fl with
    | ret u => exact I1.after hq
    | _ => exact hq.elim
end
structure CallZ (P : Program) (w : World) (K : PySem.W.Frag) (mg : Str → Option Value) (base : Heap) (k : Nat) (f : Addr) (fd : FuncData) (x : Str) (ps : List Str) (sp : Sp) : Prop where
  G : FnZ P w K mg base k f fd ps sp
  b : Binds K fd ps []
  g : mg x = some (.ref f)
  kp : PySem.W.keepIn K (.ref f) = true
/-! ### the comparing of two whole numbers there -/
def spIs2 : Sp := fun vs H Q _ => ∃ i : Int, vs = [.int i, .int i] ∧ Q (.bl true) H
section
variable {P : Program} {w : World} {K : PySem.W.Frag} {mg : Str → Option Value} {base : Heap}
theorem ok_isIZ {f : Addr} {fd : FuncData} (F : Fun K "_law_is_int" "_law_is_int" sIsI f fd) (gIsi : mg "isinstance" = none) (gInt : mg "int" = none) (gBool : mg "bool" = none) : FnZ P w K mg base 1 f fd ["_law_thing"] spIsI := by
  refine funZ F scIsI (fun vs H Q E h => ?_) (fun cdv A outer s H vs Q hr h => ?_)
  · obtain ⟨i, rfl, _⟩ := h
    rfl
  · obtain ⟨i, rfl, k⟩ := h
    refine ⟨_, (pss_one (ps_ret (pe_and (pe_callB call_isi (by rfl) gIsi (by decide +kernel) (by exact (pa_cons (pv 0) (pa_cons (pe_bltn (v := .ty "int") (u := .type "int") (by rfl) gInt (by decide +kernel) rfl) pa_nil)))) (pe_one (pe_not (pe_callB call_isi (by rfl) gIsi (by decide +kernel) (by exact (pa_cons (pv 0) (pa_cons (pe_bltn (v := .ty "bool") (u := .type "bool") (by rfl) gBool (by decide +kernel) rfl) pa_nil))))))))), ?_⟩
    refine ⟨_, rfl, _, _, _, _, true, rfl, .ty _, .base (.int i), kit_ty (by decide +kernel), _, rfl, ?_⟩
    exact ⟨_, rfl, _, _, _, _, false, rfl, .ty _, .base (.int i), kit_ty (by decide +kernel), _, rfl, k⟩
theorem ok_sameZ {f fI : Addr} {fd dI : FuncData} (F : Fun K "_law_same" "_law_same" sSame f fd) (MI : CallZ P w K mg base 1 fI dI "_law_is_int" ["_law_thing"] spIsI) (gIsi : mg "isinstance" = none) (gInt : mg "int" = none) (gBool : mg "bool" = none) :
    FnZ P w K mg base 2 f fd ["_law_mine", "_law_due_here"] spIs2 := by
  refine funZ F scSame (fun vs H Q E h => ?_) (fun cdv A outer s H vs Q hr h => ?_)
  · obtain ⟨i, rfl, _⟩ := h
    rfl
  · obtain ⟨i, rfl, k⟩ := h
    refine ⟨_, (pss_cons (ps_if (pt_cmpR op_isN (pv 1) pe_non (nomark _)) (pss_one (ps_ret (pe_cmpR op_isN (pv 0) pe_non (nomark _)))) pss_nil)
      (pss_cons (ps_if (pt_val (pe_callB call_isi (by rfl) gIsi (by decide +kernel) (by exact (pa_cons (pv 1) (pa_cons (pe_bltn (v := .ty "bool") (u := .type "bool") (by rfl) gBool (by decide +kernel) rfl) pa_nil))))) (pss_one ps_never) pss_nil)
      (pss_cons (ps_if (pt_val (pe_callB call_isi (by rfl) gIsi (by decide +kernel) (by exact (pa_cons (pv 1) (pa_cons (pe_bltn (v := .ty "int") (u := .type "int") (by rfl) gInt (by decide +kernel) rfl) pa_nil))))) (pss_one (ps_ret (pe_and (by exact (pe_callZ MI.G (hr.mono (by omega)) rfl MI.g MI.kp MI.b (by exact (pa_cons (pv 0) pa_nil)))) (pe_one (pe_cmpR op_eq (pv 0) (pv 1) (nomark _)))))) pss_nil)
      (pss_cons ps_never (pss_cons ps_never (pss_cons ps_never (pss_cons ps_never (pss_cons ps_never (pss_one ps_never))))))))), ?_⟩
    refine ⟨_, rfl, rfl, _, rfl, if_false_of (by simp) ?_⟩
    refine ⟨_, rfl, _, _, _, _, false, rfl, .ty _, .base (.int i), kit_ty (by decide +kernel), _, rfl, if_false_of rfl ?_⟩
    refine ⟨_, rfl, _, _, _, _, true, rfl, .ty _, .base (.int i), kit_ty (by decide +kernel), _, rfl, if_true_of rfl ?_⟩
    exact ⟨_, rfl, i, rfl, _, rfl, _, rfl, _, rfl, rfl, by simpa using k⟩
end
/-! ### isinstance of a caught error with a dict of its own -/
/-- what the class D must say -/
structure ExcD (K : PySem.W.Frag) (D : Addr) : Prop where
  hc : (PySem.W.clsIn K D).isSome = true
  hg : PySem.W.findIn K (.ref D) "__getattribute__" = some (some (.builtin "BaseException.__getattribute__"))
  hk : PySem.W.findIn K (.ref D) "__getattr__" = some none
  hs : PySem.W.subIn K (.ref D) (.type "BaseException") = some true
  ha : PySem.W.findIn K (.ref D) "__class__" = some (some (.builtin "object.__class__"))
  hn : PySem.W.specialIn K (.builtin "object.__class__") "__get__" = some (some (.builtin "getset_descriptor.__get__"))
  ht : PySem.W.takesIn K (.builtin "object.__class__") = some true
  hm : PySem.W.mroIn K D (.type "object") = some true
def rIsX (K : PySem.W.Frag) (D a : Addr) (cls : Value) (d : Option Addr) : List V → Hp → VK → Prop := fun xs H Q => ∃ (c : V) (cv : Value) (b : Bool) (dd : Addr) (fs : List (Str × V)), xs = [.ref a, c] ∧ cls = .ref D ∧ ClsV c cv ∧ d = some dd ∧ H dd = some (.xd fs) ∧ PySem.W.kitOne K (.ref D) cv = some b ∧ Q (.bl b) H
theorem call_isX {X : Cx} {a D : Addr} {oe : Obj} {cls : Value} {d : Option Addr} {pn : List (Addr × Obj)} (C : ExcD X.K D) (hz : Zc cls d oe) (hf : ∃ vs, oe.data = .fields vs) : CallR (X.suite a ((a, oe) :: pn)) (.builtin "isinstance") (rIsX X.K D a cls d) := by
  intro pins s σ H xs us Q I r h
  obtain ⟨c, cv, b, dd, fs, rfl, ec, hcv, ed, hdd, e, q⟩ := h
  subst ec ed
  obtain ⟨u1, u2, rfl, r1, r2⟩ := vals2 r
  obtain rfl := hcv.eq r2
  cases (show u1 = Value.ref a from r1)
  obtain ⟨hget, _⟩ := I.pin (a, oe) (List.mem_append_left _ List.mem_cons_self)
  obtain ⟨vs, hv⟩ := hf
  have hx : ObjOk X.prog X.w H s.heap dd (.xd fs) := I.hok dd _ hdd
  obtain ⟨mA, hns, hr⟩ := hx
  obtain ⟨od, ho, hl⟩ := lookIn_ns hns
  have J : PySem.W.InstAt s.heap a oe D (some od) := ⟨hget, hz.1, by unfold PySem.W.notCls; rw [hv] <;> rfl, by rw [hz.2]; exact ho⟩
  exact PySem.W.kia_one (PySem.W.kitx_exc C.hc C.hg C.hk C.hs C.ha C.hn C.ht C.hm) I.kIn J e (fun z => nomatch z) fun tk => ⟨.bl b, H, I.kept (t' := tk) fun _ _ z => z, rfl, q⟩
end Qk

/-! part W11 -/
set_option Elab.async false
set_option linter.all false
set_option maxRecDepth 100000
set_option maxHeartbeats 8000000
namespace Qk
open PySem PySem.Spec L2
open PyProof.Rows hiding St
abbrev sRf : Stmt := top 47
abbrev sRb : Stmt := top 48
/-- what the error's class is to those that catch it -/
structure CatchB (K : PySem.W.Frag) (mg : Str → Option Value) (CB CQ CN : Addr) : Prop where
  g : mg "BadDeed" = some (.ref CB)
  e1 : PySem.W.exmOne K (.ref CB) (.ref CB) = some true
  e2 : PySem.W.exmOne K (.ref CB) (.ref CQ) = some true
  ed : ExcD K CB
  xf : XfC K CB
  na : PySem.W.findIn K (.ref CB) "at" = some none
  kQ : PySem.W.kitOne K (.ref CB) (.ref CQ) = some true
  kN : PySem.W.kitOne K (.ref CB) (.ref CN) = some false
  kV : PySem.W.kitOne K (.ref CB) (.type "ValueError") = some true
  kB : PySem.W.kitOne K (.ref CB) (.ref CB) = some true
/-- the deeds fit in front of a bad one -/
structure Spoilt (ps : List (Str × V)) (ds : List Dd) (n : Nat) : Prop where
  len : ds.length ≤ 95
  v4 : ∀ d ∈ ds, d.has fun v => scal4 v = true
  fit : Fit (Sto.init ps) ds n
  bad : ∃ d, ds[n]? = some d ∧ (stAt (Sto.init ps) ds n).fits d = false
theorem fit_before {S : Sto} {ds : List Dd} {i n : Nat} {d e : Dd} (f : Fit S ds i) (hd : ds[i]? = some d) (hu : (stAt S ds i).fits d = false) (f2 : Fit S ds n) (he : ds[n]? = some e) (hv : (stAt S ds n).fits e = false) : i = n := by
  rcases Nat.lt_trichotomy i n with h | h | h
  · have := f2 i d h hd
    rw [hu] at this; cases this
  · exact h
  · have := f n e h he
    rw [hv] at this; cases this
theorem Spoilt.at {ps : List (Str × V)} {ds : List Dd} {n i : Nat} {d : Dd} (s : Spoilt ps ds n) (hd : ds[i]? = some d) (f : Fit (Sto.init ps) ds i) (hu : (stAt (Sto.init ps) ds i).fits d = false) : i = n := by
  obtain ⟨e, he, hv⟩ := s.bad
  exact fit_before f hd hu s.fit he hv
theorem Spoilt.not {ps : List (Str × V)} {ds : List Dd} {n : Nat} (s : Spoilt ps ds n) (f : Fit (Sto.init ps) ds ds.length) : False := by
  obtain ⟨e, he, hv⟩ := s.bad
  have := f n e (List.getElem?_eq_some_iff.mp he).1 he
  rw [hv] at this; cases this
def spRf (K : PySem.W.Frag) : Sp := fun vs H Q _ => ∃ (way : Nat) (a b : Addr) (ps : List (Str × V)) (ds : List Dd) (n : Nat), vs = [.int (way : Int), .ref a, .ref b, .int (n : Int)] ∧ PlcAt K H a ps ∧ DlAt K H b ds ∧ Plc ps ∧ Spoilt ps ds n ∧ ∀ H', Same H H' → Q (.bl true) H'
def spRb (K : PySem.W.Frag) : Sp := fun vs H Q _ => ∃ (a b : Addr) (ps : List (Str × V)) (ds : List Dd) (n : Nat), vs = [.ref a, .ref b] ∧ PlcAt K H a ps ∧ DlAt K H b ds ∧ Plc ps ∧ Spoilt ps ds n ∧ ∀ H', Same H H' → Q (.bl true) H'
def tbRf (K : PySem.W.Frag) (CB : Addr) (W : WX) : TS := tIfS (tTest (tOp rEq (tVar 0) (tC (.int 0)))) (tDrop (tCallNS 2 (["mark"] : List Str).length (spSur K CB) (fun vs zs => vs ++ zs) (WE W) (tCons (tVar 1) (tCons (tVar 2) tNil)) (tCons (tC (.int 5)) tNil)))
  (tIfS (tTest (tOp rEq (tVar 0) (tC (.int 1)))) (tDrop (tCallS (spFU K CB) (WE W) (tCons (tVar 1) (tCons (tVar 2) tNil)))) (tDrop (tCallS (spPR K CB) (WE W) (tCons (tVar 1) (tCons (tVar 2) tNil)))))
def tbRb (K : PySem.W.Frag) (CB : Addr) (W : WX) : TS := tDrop (tCallNS 2 (["mark"] : List Str).length (spSur K CB) (fun vs zs => vs ++ zs) (WE W) (tCons (tVar 0) (tCons (tVar 1) tNil)) (tCons (tC (.int 5)) tNil))
def tsRf (K : PySem.W.Frag) (CB CQ CN a : Addr) (cls : Value) (d : Option Addr) : TS := tSeq (tIfS (tOr (tNot (tB (tCB (rIsX K CB a cls d) (tCons (tVar 4) (tCons (tC (.ref CQ)) tNil))))) (tB (tCB (rIsX K CB a cls d) (tCons (tVar 4) (tCons (tC (.ref CN)) tNil))))) (tRet (tC (.bl false))) tNext)
  (tRet (tAndV (tCB (rIsX K CB a cls d) (tCons (tVar 4) (tCons (tC (.ty "ValueError")) tNil))) (tCall spIs2 [] E0 (tCons (tXf a cls d CB "at" (tVar 4)) (tCons (tVar 3) tNil)))))
def tsRb (K : PySem.W.Frag) (CB a : Addr) (cls : Value) (d : Option Addr) : TS := tRet (tCB (rIsX K CB a cls d) (tCons (tVar 2) (tCons (tC (.ref CB)) tNil)))
theorem roomZ {k : Nat} {A : Around} {v : Option Value} (r : Room k A) (h : 2 ≤ k := by decide) : L2H.RoomH 2 (A.mark v) := L2H.RoomH.mono ⟨r.dp, r.un⟩ h
section
variable {P : Program} {w : World} {K : PySem.W.Frag} {mg : Str → Option Value} {base : Heap}
theorem scRf : FnScope ["_law_way", "_law_places", "_law_deeds_here", "_law_at", "e"] ["_law_way", "_law_places", "_law_deeds_here", "_law_at"] (defScope sRf) := ⟨rfl, rfl, rfl, by decide +kernel, rfl, by decide +kernel, by decide +kernel⟩
theorem scRb : FnScope ["_law_places", "_law_deeds_here", "e"] ["_law_places", "_law_deeds_here"] (defScope sRb) := ⟨rfl, rfl, rfl, by decide +kernel, rfl, by decide +kernel, by decide +kernel⟩
theorem ok_rf {CB CQ CN f fS fF fR fZ : Addr} {fd dS dF dR dZ : FuncData} (F : Fun K "_law_refused" "_law_refused" sRf f fd) (B : CatchB K mg CB CQ CN) (gQ : mg "QuickError" = some (.ref CQ)) (gN : mg "NoEntry" = some (.ref CN)) (gVE : mg "ValueError" = none) (gIsi : mg "isinstance" = none)
    (MS : KwM P w K mg base 6 fS dS "surrounded" ["places", "deeds", "mark"] (spSur K CB) 2 ["mark"]) (MF : CallM P w K mg base (L2.CX P w) 5 fF dF "first_untidy" ["places", "deeds"] (spFU K CB)) (MR : CallM P w K mg base (L2.CX P w) 7 fR dR "parted_read" ["places", "deeds"] (spPR K CB))
    (MZ : CallZ P w K mg base 2 fZ dZ "_law_same" ["_law_mine", "_law_due_here"] spIs2) :
    FnOk P w K mg base CX0 9 f fd ["_law_way", "_law_places", "_law_deeds_here", "_law_at"] (spRf K) := by
  refine F.ok scRf (fun vs H Q E h => ?_) (fun cdv A outer s H vs Q E hr h => ?_)
  · obtain ⟨way, a, b, ps, ds, n, rfl, _⟩ := h
    rfl
  · obtain ⟨way, a, b, ps, ds, n, rfl, hP, hD, hps, sp, k⟩ := h
    have hu := hu_of hr
    refine ⟨_, (pss_cons (ps_try_as (i := 4) (c := .ref CB) (tb := tbRf K CB) (ts := tsRf K CB CQ CN) (Wout := fun _ _ _ _ => False) rfl rfl scRf.nd rfl rfl ⟨rfl, by decide, Or.inl B.g⟩ takes0
        (fun W pn xe tk _ => pss_one (ps_if (pt_cmpR op_eq (pv 0) pe_int (nomark _)) (pss_one (ps_expr (by exact (pe_callNS (E := WE W) MS.G (hr.mono (by decide)) rfl MS.g MS.kp MS.kb (fun σ => L2.passAt tk σ) (by exact (pa_cons (pv 1) (pa_cons (pv 2) pa_nil))) (by exact (pk_cons pe_int pk_nil)))))) (pss_one (ps_if (pt_cmpR op_eq (pv 0) pe_int (nomark _)) (pss_one (ps_expr (by exact (pe_callS (E := WE W) MF.G (hr.mono (by decide)) rfl MF.g MF.kp MF.b (fun σ => L2.passAt tk σ) (by exact (pa_cons (pv 1) (pa_cons (pv 2) pa_nil))))))) (pss_one (ps_expr (by exact (pe_callS (E := WE W) MR.G (hr.mono (by decide)) rfl MR.g MR.kp MR.b (fun σ => L2.passAt tk σ) (by exact (pa_cons (pv 1) (pa_cons (pv 2) pa_nil)))))))))))
        (fun a oe cls d pn hz hf => pss_cons (ps_if (PW.pt (pw_or (pt_not (pt_val (pe_callB (call_isX B.ed hz hf) (by rfl) gIsi (by decide +kernel) (by exact (pa_cons (pv 4) (pa_cons (pe_glob (by rfl) gQ rfl) pa_nil)))))) (pw_or1 (pt_val (pe_callB (call_isX B.ed hz hf) (by rfl) gIsi (by decide +kernel) (by exact (pa_cons (pv 4) (pa_cons (pe_glob (by rfl) gN rfl) pa_nil)))))))) (pss_one (ps_ret pe_bl)) pss_nil)
          (pss_one (ps_ret (pe_and (pe_callB (call_isX B.ed hz hf) (by rfl) gIsi (by decide +kernel) (by exact (pa_cons (pv 4) (pa_cons (pe_bltn (v := .ty "ValueError") (u := .type "ValueError") (by rfl) gVE (by decide +kernel) rfl) pa_nil)))) (pe_one (by exact (pe_callZ MZ.G (roomZ hr) rfl MZ.g MZ.kp MZ.b (by exact (pa_cons (pe_xf B.xf B.na hz hf (pv 4)) (pa_cons (pv 3) pa_nil)))))))))))
      (pss_one (ps_ret pe_bl))), ?_⟩
    have hnd := hps.nd
    have h4 := hps.n4
    have hdl : ds.length ≤ 100 := Nat.le_trans sp.len (by decide)
    have bad : ∀ (D : Ends) (i : Nat) (d : Dd), D.rt = Q → ds[i]? = some d → Fit (Sto.init ps) ds i → (stAt (Sto.init ps) ds i).fits d = false → ∀ (dd : Addr) (H' : Hp), Same H H' → H' dd = some (.xd [("at", .int i)]) →
        wAs K (.ref CB) 4 (tsRf K CB CQ CN) (fun _ _ _ _ => False) D (.ref CB) (some dd) [some (.int (way : Int)), some (.ref a), some (.ref b), some (.int (n : Int)), none] H' := fun D i d eD hd hf hu dd H' s1 hdd => by
      obtain rfl := sp.at hd hf hu
      refine ⟨true, B.e1, fun _ x hx => ?_, fun z => nomatch z⟩
      refine ⟨_, rfl, _, _, _, _, _, rfl, rfl, .own CQ, rfl, hdd, B.kQ, _, rfl, ?_⟩
      refine if_false_of rfl ?_
      refine ⟨_, rfl, _, _, _, _, _, rfl, rfl, .own CN, rfl, hdd, B.kN, _, rfl, if_false_of rfl ?_⟩
      refine ⟨_, rfl, _, _, _, _, _, rfl, rfl, .ty _, rfl, hdd, B.kV, _, rfl, ?_⟩
      refine ⟨_, rfl, rfl, rfl, _, _, _, rfl, hdd, rfl, _, rfl, _, rfl, ?_⟩
      show D.rt (.bl true) H'
      rw [eD]
      exact k H' s1
    refine ⟨_, rfl, rfl, _, rfl, ?_⟩
    by_cases w0 : way = 0
    · subst w0
      refine if_true_of rfl ?_
      exact ⟨_, rfl, _, rfl, rfl, rfl, a, b, ps, ds, .int 5, rfl, hP, hD.ds, hnd, h4, hdl, fun hf => (sp.not hf).elim, fun hf => (sp.not hf).elim, fun i d hd hf hu dd H1 s1 hdd => bad _ i d rfl hd hf hu dd H1 s1 hdd⟩
    · refine if_false_of (decide_eq_false fun z => w0 (by have := V.int.inj z; omega)) ?_
      refine ⟨_, rfl, rfl, _, rfl, ?_⟩
      by_cases w1 : way = 1
      · subst w1
        refine if_true_of rfl ?_
        exact ⟨_, rfl, _, rfl, a, b, ps, ds, rfl, hP, hD.ds, hnd, h4, hdl, fun hf => (sp.not hf).elim, fun i d hd hf hu dd H1 s1 hdd => bad _ i d rfl hd hf hu dd H1 s1 hdd⟩
      · refine if_false_of (decide_eq_false fun z => w1 (by have := V.int.inj z; omega)) ?_
        exact ⟨_, rfl, _, rfl, a, b, ps, ds, rfl, hP, hD.ds, hnd, h4, hdl, hps.v4, sp.v4, fun hf => (sp.not hf).elim, fun i d hd hf hu dd H1 s1 hdd => bad _ i d rfl hd hf hu dd H1 s1 hdd⟩
theorem ok_rb {CB CQ CN f fS : Addr} {fd dS : FuncData} (F : Fun K "_law_refused_base" "_law_refused_base" sRb f fd) (B : CatchB K mg CB CQ CN) (gQ : mg "QuickError" = some (.ref CQ)) (gIsi : mg "isinstance" = none)
    (MS : KwM P w K mg base 6 fS dS "surrounded" ["places", "deeds", "mark"] (spSur K CB) 2 ["mark"]) : FnOk P w K mg base CX0 9 f fd ["_law_places", "_law_deeds_here"] (spRb K) := by
  refine F.ok scRb (fun vs H Q E h => ?_) (fun cdv A outer s H vs Q E hr h => ?_)
  · obtain ⟨a, b, ps, ds, n, rfl, _⟩ := h
    rfl
  · obtain ⟨a, b, ps, ds, n, rfl, hP, hD, hps, sp, k⟩ := h
    have hu := hu_of hr
    refine ⟨_, (pss_cons (ps_try_as (i := 2) (c := .ref CQ) (tb := tbRb K CB) (ts := tsRb K CB) (Wout := fun _ _ _ _ => False) rfl rfl scRb.nd rfl rfl ⟨rfl, by decide, Or.inl gQ⟩ takes0
        (fun W pn xe tk _ => pss_one (ps_expr (by exact (pe_callNS (E := WE W) MS.G (hr.mono (by decide)) rfl MS.g MS.kp MS.kb (fun σ => L2.passAt tk σ) (by exact (pa_cons (pv 0) (pa_cons (pv 1) pa_nil))) (by exact (pk_cons pe_int pk_nil))))))
        (fun a oe cls d pn hz hf => pss_one (ps_ret (pe_callB (call_isX B.ed hz hf) (by rfl) gIsi (by decide +kernel) (by exact (pa_cons (pv 2) (pa_cons (pe_glob (by rfl) B.g rfl) pa_nil)))))))
      (pss_one (ps_ret pe_bl))), ?_⟩
    refine ⟨_, rfl, _, rfl, rfl, rfl, a, b, ps, ds, .int 5, rfl, hP, hD.ds, hps.nd, hps.n4, Nat.le_trans sp.len (by decide), fun hf => (sp.not hf).elim, fun hf => (sp.not hf).elim, fun i d hd hf hu dd H1 s1 hdd => ?_⟩
    refine ⟨true, B.e2, fun _ x hx => ?_, fun z => nomatch z⟩
    exact ⟨_, rfl, _, _, _, _, _, rfl, rfl, .own CB, rfl, hdd, B.kB, k H1 s1⟩
end
end Qk

/-! part W12 -/
set_option Elab.async false
set_option linter.all false
set_option maxRecDepth 100000
set_option maxHeartbeats 8000000
namespace Qk
open PySem PySem.Spec L2
open PyProof.Rows hiding St
abbrev sUf : Stmt := top 49
/-! ### a bad deed among fitting ones -/
def bads (c : Str) : List Dd := [.rd "nowhere", .ov c, .bg c c, .wr "nowhere" (.int 5), .ov "nowhere", .bg "fresh" "nowhere", .rd "", .bg c "nowhere"]
theorem fold_od : ∀ {l : List Dd} {S : Sto} {k : Str}, k ∈ S.od → k ∈ (l.foldl Sto.step S).od
  | [], _, _, h => h
  | d :: l, S, k, h => by
    refine fold_od (l := l) (S := S.step d) ?_
    cases d with
    | bg k t => exact List.mem_append_left _ h
    | _ => exact h
theorem od_mono {S : Sto} {ds : List Dd} {n : Nat} {k : Str} (h : k ∈ (stAt S ds n).od) : k ∈ (stAt S ds ds.length).od := by
  have e : stAt S ds ds.length = (ds.drop n).foldl Sto.step (stAt S ds n) := by
    unfold stAt
    rw [← List.foldl_append, List.take_append_drop, List.take_length]
  rw [e]
  exact fold_od h
/-- names that no loan had -/
def Unheld (ps : List (Str × V)) (ds : List Dd) : Prop := ∀ k ∈ (stAt (Sto.init ps) ds ds.length).od, k ≠ "nowhere" ∧ k ≠ ""
theorem no_place {ps : List (Str × V)} (h : Plc ps) : ("nowhere" : Str) ∉ keys ps ∧ ("" : Str) ∉ keys ps := by
  have key : ("nowhere" : Str) ∉ pNames ∧ ("" : Str) ∉ pNames := by decide +kernel
  rw [h.nm]
  exact ⟨fun z => key.1 (List.mem_of_mem_take z), fun z => key.2 (List.mem_of_mem_take z)⟩
theorem spoil {ps : List (Str × V)} {ds : List Dd} {n : Nat} {d : Dd} {c : Str} (hps : Plc ps) (hf : Fit (Sto.init ps) ds ds.length) (hn : n ≤ ds.length) (hc : c ∈ keys ps) (hno : Unheld ps ds) (v4 : ∀ d ∈ ds, d.has fun v => scal4 v = true) (hl : ds.length ≤ 90) (hd : d ∈ bads c) :
    Spoilt ps (ds.take n ++ [d] ++ ds.drop n) n := by
  have lt : (ds.take n).length = n := by rw [List.length_take]; exact Nat.min_eq_left hn
  have tk : ds.take n = (ds.take n ++ [d] ++ ds.drop n).take n := by
    rw [List.append_assoc, List.take_append_of_le_length (by omega), List.take_take, Nat.min_self]
  have hfn := hf.mono hn
  have ok := stAt_ok (init_ok hps.nd) hn hfn
  have ek := stAt_keys (init_ok hps.nd) hn hfn
  have ek : keys (stAt (Sto.init ps) ds n).ps = keys ps := ek
  have nw : ∀ z : Str, z ∉ keys ps → (∀ k ∈ (stAt (Sto.init ps) ds ds.length).od, k ≠ z) → (stAt (Sto.init ps) ds n).root z = none ∧ z ∉ keys (stAt (Sto.init ps) ds n).tg := fun z h1 h2 => by
    have h3 : z ∉ keys (stAt (Sto.init ps) ds n).tg := fun hz => h2 z (od_mono (ok.apart z hz).2) rfl
    refine ⟨?_, h3⟩
    have := Sto.root_some ok (c := z)
    rw [ek] at this
    cases e : (stAt (Sto.init ps) ds n).root z with
    | none => rfl
    | some q => exact absurd (this.mp (by rw [e]; rfl)) fun y => y.elim h1 h3
  have np := no_place hps
  have n1 := nw "nowhere" np.1 fun k hk => (hno k hk).1
  have n2 := nw "" np.2 fun k hk => (hno k hk).2
  have n3 : c ∉ keys (stAt (Sto.init ps) ds n).tg := fun hz => (ok.apart c hz).1 (by rw [ek]; exact hc)
  have hc2 : c ∈ keys (stAt (Sto.init ps) ds n).ps := by rw [ek]; exact hc
  have bad : (stAt (Sto.init ps) ds n).fits d = false := by
    unfold bads at hd
    simp only [List.mem_cons, List.not_mem_nil, or_false] at hd
    rcases hd with rfl | rfl | rfl | rfl | rfl | rfl | rfl | rfl
    all_goals simp only [Sto.fits, n1.1, n2.1, hc2, n3, n1.2, Option.isSome_none, not_true_eq_false, decide_false, Bool.false_and, Bool.and_false]
  have vd : d.has fun v => scal4 v = true := by
    unfold bads at hd
    simp only [List.mem_cons, List.not_mem_nil, or_false] at hd
    rcases hd with rfl | rfl | rfl | rfl | rfl | rfl | rfl | rfl
    all_goals first | trivial | rfl
  refine ⟨?_, fun e he => ?_, Fit.take tk hfn, d, ?_, ?_⟩
  · rw [List.length_append, List.length_append, List.length_drop, lt]
    show n + 1 + _ ≤ 95
    omega
  · rcases List.mem_append.mp he with h | h
    · rcases List.mem_append.mp h with h | h
      · exact v4 e (List.mem_of_mem_take h)
      · rw [List.mem_singleton.mp h]; exact vd
    · exact v4 e (List.mem_of_mem_drop h)
  · rw [List.append_assoc, List.getElem?_append_right (by omega), lt, Nat.sub_self]; rfl
  · rw [← stAt_take tk (Nat.le_refl n)]; exact bad
theorem new_list2 {H : Hp} {t : Addr} {xs : List V} (h : H t = none) : Same H (upd H t (.lst xs)) ∧ upd H t (.lst xs) t = some (.lst xs) := ⟨new_list h, upd_same⟩
theorem cut_drop (xs : List V) {n : Nat} (h : n ≤ xs.length) : cutV xs (some (n : Int)) none = xs.drop n := by
  unfold cutV
  rw [HT.sIx_none, HT.sIx_nat, Nat.min_eq_left h, ← List.length_drop, List.take_length]
theorem sl_lst2 {K : PySem.W.Frag} {H : Hp} {a : Addr} {xs : List V} {n : Nat} {Q : VK} (h : H a = some (.lst xs)) (hn : n ≤ xs.length) (q : ∀ p H', Same H H' → H p = none → H' p = some (.lst (xs.drop n)) → Q (.ref p) H') :
    rSlL K (.ref a) (some (n : Int)) none H Q ∨ rSlT K (.ref a) (some (n : Int)) none H Q := by
  refine .inl ⟨a, xs, rfl, SqL.of h, fun p hp => q p _ (KB.same (KB.refl.new hp)) hp ?_⟩
  rw [cut_drop xs hn]
  exact upd_same
theorem paired_mem {α β : Type} {F : α → β → Prop} {l : List α} {m : List β} (h : Paired F l m) {x : α} (hx : x ∈ l) : ∃ y, y ∈ m ∧ F x y := by
  obtain ⟨i, e⟩ := List.mem_iff_getElem?.mp hx
  obtain ⟨y, e2, f⟩ := paired_get h e
  exact ⟨y, List.mem_of_getElem? e2, f⟩
theorem refs_inj : ∀ {l m : List Addr}, l.map V.ref = m.map V.ref → l = m
  | [], [], _ => rfl
  | [], _ :: _, h => nomatch h
  | _ :: _, [], h => nomatch h
  | x :: l, y :: m, h => by
    have h1 := (List.cons.inj h).1
    have h2 := (List.cons.inj h).2
    rw [V.ref.inj h1, refs_inj h2]
theorem paired_drop {α β : Type} {F : α → β → Prop} : ∀ (n : Nat) {l : List α} {m : List β}, Paired F l m → Paired F (l.drop n) (m.drop n)
  | 0, _, _, h => h
  | n + 1, _, _, .nil => .nil
  | n + 1, _, _, .cons _ t => paired_drop n t
def spUf (K : PySem.W.Frag) : Sp := fun vs H Q _ => ∃ (p : Addr × Addr) (a b : Addr) (ps : List (Str × V)) (ds : List Dd), vs = [.ref p.1, .ref a, .ref b] ∧ PoolAt H p ∧ (a ≠ p.1 ∧ b ≠ p.1) ∧ PlcAt K H a ps ∧ DlAt K H b ds ∧ Plc ps ∧ ds.length ≤ 90 ∧ Fit (Sto.init ps) ds ds.length ∧ (∀ d ∈ ds, d.has fun v => scal4 v = true) ∧ Unheld ps ds ∧
  ∀ H', PlS p H H' → Q (.bl true) H'
section
variable {P : Program} {w : World} {K : PySem.W.Frag} {mg : Str → Option Value} {base : Heap}
theorem scUf : FnScope ["_law_pool_here", "_law_places", "_law_deeds_here", "_law_place", "_law_bad", "_law_deed", "_law_at", "_law_spoilt", "_law_way"] ["_law_pool_here", "_law_places", "_law_deeds_here"] (defScope sUf) := ⟨rfl, rfl, rfl, by decide +kernel, rfl, by decide +kernel, by decide +kernel⟩
theorem ok_uf {f fD fR fB : Addr} {fd dD dR dB : FuncData} (F : Fun K "_law_unfit" "_law_unfit" sUf f fd) (MD : CallM P w K mg base CX0 2 fD dD "_law_draw" ["_law_pool_here", "_law_limit"] spDraw)
    (MRf : CallM P w K mg base CX0 9 fR dR "_law_refused" ["_law_way", "_law_places", "_law_deeds_here", "_law_at"] (spRf K)) (MRb : CallM P w K mg base CX0 9 fB dB "_law_refused_base" ["_law_places", "_law_deeds_here"] (spRb K)) (gLen : mg "len" = none) (gAll : mg "all" = none) (gRange : mg "range" = none) :
    FnOk P w K mg base CX0 10 f fd ["_law_pool_here", "_law_places", "_law_deeds_here"] (spUf K) := by
  refine F.ok scUf (fun vs H Q E h => ?_) (fun cdv A outer s H vs Q E hr h => ?_)
  · obtain ⟨p, a, b, ps, ds, rfl, _⟩ := h
    rfl
  · obtain ⟨p, a, b, ps, ds, rfl, hp, nab, hP, hD, hps, hl, hfit, v4, hno, k⟩ := h
    have hu := hu_of hr
    refine ⟨_, (pss_cons (ps_set (i := 3) scUf.nd rfl (.inl rfl) (pe_ix ix_tup (pe_ix ix_list (pv 1) pe_int (fun _ _ => rfl)) pe_int (fun _ _ => rfl)))
      (pss_cons (ps_set (i := 4) scUf.nd rfl (.inl rfl) (pe_lst (by exact (pa_cons (pe_tup (by exact (pa_cons pe_str (pa_cons pe_str pa_nil)))) (pa_cons (pe_tup (by exact (pa_cons pe_str (pa_cons (pv 3) pa_nil)))) (pa_cons (pe_tup (by exact (pa_cons pe_str (pa_cons (pv 3) (pa_cons (pv 3) pa_nil))))) (pa_cons (pe_tup (by exact (pa_cons pe_str (pa_cons pe_str (pa_cons pe_int pa_nil))))) (pa_cons (pe_tup (by exact (pa_cons pe_str (pa_cons pe_str pa_nil)))) pa_nil))))))))
      (pss_cons (ps_set (i := 4) scUf.nd rfl (.inl rfl) (pe_op op_cat (pv 4) (pe_lst (by exact (pa_cons (pe_tup (by exact (pa_cons pe_str (pa_cons pe_str (pa_cons pe_str pa_nil))))) (pa_cons (pe_tup (by exact (pa_cons pe_str (pa_cons pe_str pa_nil)))) (pa_cons (pe_tup (by exact (pa_cons pe_str (pa_cons (pv 3) (pa_cons pe_str pa_nil))))) pa_nil)))))))
      (pss_cons (ps_set (i := 5) scUf.nd rfl (.inl rfl) (pe_ix ix_list (pv 4) (by exact (pe_call MD.G (hr.mono (by decide)) rfl MD.g MD.kp MD.b .nil pass0 (by exact (pa_cons (pv 0) (pa_cons (pe_callB call_len_seq (by rfl) gLen (by decide +kernel) (by exact (pa_cons (pv 4) pa_nil))) pa_nil))))) (fun _ _ => rfl)))
      (pss_cons (ps_set (i := 6) scUf.nd rfl (.inr rfl) (by exact (pe_call MD.G (hr.mono (by decide)) rfl MD.g MD.kp MD.b .nil pass0 (by exact (pa_cons (pv 0) (pa_cons (pe_op op_add (pe_callB call_len_seq (by rfl) gLen (by decide +kernel) (by exact (pa_cons (pv 2) pa_nil))) pe_int) pa_nil))))))
      (pss_cons (ps_set (i := 7) scUf.nd rfl (.inr rfl) (pe_op op_cat (pe_op op_cat (pe_slice (sl_list.or sl_tup) (pv 2) po_none (po_some (pv 6))) (pe_lst (by exact (pa_cons (pv 5) pa_nil)))) (pe_slice (sl_list.or sl_tup) (pv 2) (po_some (pv 6)) po_none)))
      (pss_one (ps_ret (pe_and (pe_callB (cr_all rfl) (by rfl) gAll (by decide +kernel) (by exact (pa_cons (pe_lc (own := [("_law_way", 8)]) (g := gName 8) (tt := tYes) (te := (tCall (spRf K) [] E0 (tCons (tVar 8) (tCons (tVar 1) (tCons (tVar 7) (tCons (tVar 6) tNil)))))) rfl scUf.nd (pi_range1 (by rfl) gRange (by exact (pa_cons pe_int pa_nil))) (blkOk_by (own := [("_law_way", 8)]) (N := ["_law_pool_here", "_law_places", "_law_deeds_here", "_law_place", "_law_bad", "_law_deed", "_law_at", "_law_spoilt", "_law_way"]) (sc := defScope sUf) (by decide +kernel)) (fun _ _ _ _ _ => (pg_name (i := 8) scUf.nd rfl (Or.inl rfl) (Or.inr rfl))) (fun _ _ _ _ _ => pts_nil) (fun _ _ _ _ _ => (by exact (pe_call MRf.G (hr.mono (by decide)) rfl MRf.g MRf.kp MRf.b .nil pass0 (by exact (pa_cons (pv 8) (pa_cons (pv 1) (pa_cons (pv 7) (pa_cons (pv 6) pa_nil))))))))) pa_nil))) (pe_one (by exact (pe_call MRb.G (hr.mono (by decide)) rfl MRb.g MRb.kp MRb.b .nil pass0 (by exact (pa_cons (pv 1) (pa_cons (pv 7) pa_nil))))))))))))))), ?_⟩
    obtain ⟨rs, hL1, hP1⟩ := id hP
    obtain ⟨ts, hL2, hP2⟩ := id hD
    have hln : rs.length = ps.length := Paired.length hP1
    have hlt : ts.length = ds.length := Paired.length hP2
    obtain ⟨r0, hr0⟩ : ∃ r, rs[0]? = some r := ⟨rs[0]'(by have := hps.n0; omega), List.getElem?_eq_getElem (by have := hps.n0; omega)⟩
    obtain ⟨⟨c, v0⟩, eq, hT0⟩ := paired_get hP1 hr0
    have hc : c ∈ keys ps := List.mem_map.mpr ⟨(c, v0), List.mem_of_getElem? eq, rfl⟩
    have hr1 : (rs.map V.ref)[0]? = some (V.ref r0) := by rw [List.getElem?_map, hr0]; rfl
    refine ⟨_, rfl, a, _, _, _, rfl, rfl, hL1, atI_nat (j := 0) hr1, r0, _, _, _, rfl, rfl, hT0, atI_nat (j := 0) rfl, ?_⟩
    refine ⟨line_le (m := 3) (by decide : 2 ≤ 3), fun t1 h1 => ⟨_, rfl, line_le (m := 3) (by decide : 2 ≤ 3), fun t2 h2 => ⟨_, rfl, _, rfl, line_le (m := 3) (Nat.le_refl 3), fun t3 h3 => ⟨line_le (m := 3) (Nat.le_refl 3), fun t4 h4 => ⟨line_le (m := 3) (by decide : 2 ≤ 3), fun t5 h5 => ⟨line_le (m := 5) (Nat.le_refl 5), fun l1 hl1 => ?_⟩⟩⟩⟩⟩⟩
    refine ⟨_, rfl, line_le (m := 3) (Nat.le_refl 3), fun t6 h6 => ⟨line_le (m := 3) (by decide : 2 ≤ 3), fun t7 h7 => ⟨_, rfl, line_le (m := 3) (Nat.le_refl 3), fun t8 h8 => ⟨line_le (m := 3) (Nat.le_refl 3), fun l2 hl2 => ?_⟩⟩⟩⟩
    have k1 := new_tups (xs := [.str "read", .str "nowhere"]) h1
    have k2 := new_tups (xs := [.str "over", .str c]) h2
    have k3 := new_tups (xs := [.str "begin", .str c, .str c]) h3
    have k4 := new_tups (xs := [.str "write", .str "nowhere", .int 5]) h4
    have k5 := new_tups (xs := [.str "over", .str "nowhere"]) h5
    have kl1 := new_list (xs := [.ref t1, .ref t2, .ref t3, .ref t4, .ref t5]) hl1
    have k6 := new_tups (xs := [.str "begin", .str "fresh", .str "nowhere"]) h6
    have k7 := new_tups (xs := [.str "read", .str ""]) h7
    have k8 := new_tups (xs := [.str "begin", .str c, .str "nowhere"]) h8
    have kl2 := new_list (xs := [.ref t6, .ref t7, .ref t8]) hl2
    refine ⟨l1, l2, _, _, rfl, rfl, kl2 _ _ (k8 _ _ (k7 _ _ (k6 _ _ upd_same))), upd_same, line_le (m := 8) (Nat.le_refl 8), fun l3 hl3 => ?_⟩
    obtain ⟨kl3, e3⟩ := new_list2 (xs := [.ref t1, .ref t2, .ref t3, .ref t4, .ref t5] ++ [.ref t6, .ref t7, .ref t8]) hl3
    have j5 : Same (upd (upd (upd (upd (upd H t1 _) t2 _) t3 _) t4 _) t5 _) _ := fun b o e => kl3 _ _ (kl2 _ _ (k8 _ _ (k7 _ _ (k6 _ _ (kl1 b o e)))))
    have jH : Same H _ := fun b o e => j5 _ _ (k5 _ _ (k4 _ _ (k3 _ _ (k2 _ _ (k1 b o e)))))
    have bT : Paired (fun t d => SqT K _ t (Dd.vs d)) [t1, t2, t3, t4, t5, t6, t7, t8] (bads c) :=
      .cons (SqT.of (j5 _ _ (k5 _ _ (k4 _ _ (k3 _ _ (k2 _ _ upd_same)))))) (.cons (SqT.of (j5 _ _ (k5 _ _ (k4 _ _ (k3 _ _ upd_same))))) (.cons (SqT.of (j5 _ _ (k5 _ _ (k4 _ _ upd_same)))) (.cons (SqT.of (j5 _ _ (k5 _ _ upd_same))) (.cons (SqT.of (j5 _ _ upd_same))
      (.cons (SqT.of (kl3 _ _ (kl2 _ _ (k8 _ _ (k7 _ _ upd_same))))) (.cons (SqT.of (kl3 _ _ (kl2 _ _ (k8 _ _ upd_same)))) (.cons (SqT.of (kl3 _ _ (kl2 _ _ upd_same))) .nil)))))))
    have n3 : H l3 = none := none_of_same (fun b o e => kl2 _ _ (k8 _ _ (k7 _ _ (k6 _ _ (kl1 _ _ (k5 _ _ (k4 _ _ (k3 _ _ (k2 _ _ (k1 b o e)))))))))) hl3
    clear j5
    generalize upd _ l3 (HO.lst _) = HB at kl3 e3 jH bT ⊢
    have e3 : HB l3 = some (.lst ([t1, t2, t3, t4, t5, t6, t7, t8].map V.ref)) := e3
    have jH : Same H HB := fun b o e => jH b o e
    clear kl3 k1 k2 k3 k4 k5 kl1 k6 k7 k8 kl2
    have hpB := hp.keep jH
    refine ⟨_, rfl, _, rfl, _, rfl, l3, _, rfl, .inl (SqL.of e3), p, _, rfl, hpB, (by show (0 : Int) < ((8 : Nat) : Int); decide), (by show ((8 : Nat) : Int) < 1000000; decide), fun r H1 r0 r1 s1 => ?_⟩
    have e31 := s1.obj e3 (pl_ne hp n3)
    obtain ⟨v, hv, eat⟩ := draw_ix (xs := [t1, t2, t3, t4, t5, t6, t7, t8].map V.ref) r0 r1
    obtain ⟨t, ht, rfl⟩ := List.mem_map.mp hv
    obtain ⟨d, hd, hT⟩ := paired_mem bT ht
    have hT1 := s1.kb.seqTl hT (pool_l hpB)
    refine ⟨l3, _, _, _, rfl, rfl, SqL.of e31, eat, ?_⟩
    have s01 : PlS p H H1 := (PlS.same hp jH).trans s1
    have hb1 := s01.obj hL2 nab.2
    refine ⟨_, rfl, _, rfl, b, _, rfl, .inl (SqL.of hb1), _, _, rfl, rfl, p, _, rfl, s1.pl, by rw [List.length_map, hlt]; omega, by rw [List.length_map, hlt]; omega, fun r2 H2 q0 q1 s2 => ?_⟩
    obtain ⟨n, rfl⟩ := Int.eq_ofNat_of_zero_le q0
    have hn : n ≤ ds.length := by rw [List.length_map, hlt] at q1; omega
    have hnt : n ≤ (ts.map V.ref).length := by rw [List.length_map, hlt]; exact hn
    have s02 := s01.trans s2
    have hb2 := s02.obj hL2 nab.2
    have hT2 := s2.kb.seqTl hT1 (pool_l s1.pl)
    have tl : (ts.map V.ref).length ≤ 90 := by rw [List.length_map, hlt]; exact hl
    refine ⟨_, rfl, _, rfl, _, rfl, sl_lst (n := n) hb2 hnt fun u1 H3 s3 hu1 hu12 => ?_⟩
    refine ⟨_, rfl, line_le (m := 1) (Nat.le_refl 1), fun u2 hu2 => ?_⟩
    obtain ⟨s4, e4⟩ := new_list2 (xs := [.ref t]) hu2
    refine ⟨u1, u2, _, _, rfl, rfl, s4 _ _ hu12, e4, line_le (m := 91) (by rw [List.length_take]; show _ + 1 ≤ 91; omega), fun u3 hu3 => ?_⟩
    obtain ⟨s5, e5⟩ := new_list2 (xs := (ts.map V.ref).take n ++ [.ref t]) hu3
    generalize upd _ u3 (HO.lst _) = H5 at s5 e5 ⊢
    have s25 : Same H2 H5 := fun b o e => s5 _ _ (s4 _ _ (s3 _ _ e))
    refine ⟨_, rfl, _, rfl, _, rfl, sl_lst2 (n := n) (s25 _ _ hb2) hnt fun u4 H6 s6 hu4 hu42 => ?_⟩
    refine ⟨u3, u4, _, _, rfl, rfl, s6 _ _ e5, hu42, line_le (m := 200) (by rw [List.length_append, List.length_take, List.length_drop]; show _ + 1 + _ ≤ 200; omega), fun u5 hu5 => ?_⟩
    obtain ⟨s7, e7⟩ := new_list2 (xs := ((ts.map V.ref).take n ++ [.ref t]) ++ (ts.map V.ref).drop n) hu5
    generalize upd _ u5 (HO.lst _) = H7 at s7 e7 ⊢
    have s27 : Same H2 H7 := fun b o e => s7 _ _ (s6 _ _ (s25 _ _ e))
    have s07 := s02.then s27
    have hP7 := hP.pls hp s07 nab.1
    have hD7 : DlAt K H7 u5 (ds.take n ++ [d] ++ ds.drop n) := by
      obtain ⟨ts', hLL, hPP⟩ := hD.pls hp s07 nab.2
      obtain rfl : ts = ts' := by
        have := (s07.obj hL2 nab.2).symm.trans hLL
        exact refs_inj (HO.lst.inj (Option.some.inj this))
      refine ⟨ts.take n ++ [t] ++ ts.drop n, by rw [e7, List.map_append, List.map_append, List.map_take, List.map_drop]; rfl, paired_app (paired_app (paired_take n hPP) (.cons (sameT s27 hT2) .nil)) (paired_drop n hPP)⟩
    have sp := spoil hps hfit hn hc hno v4 hl hd
    refine ⟨3, rfl, by decide, by decide, fun D hD => ?_⟩
    refine lc_range (lo := 0) (n := 3) (fun i H' => H' D = some (.lst ((List.replicate i true).map V.bl)) ∧ KB [D] H7 H') ⟨upd_same, KB.refl.upd (by simp)⟩ (fun i H' hi h2 => ?_) (fun H8 h2 => ?_)
    · have sD : Same H7 H' := sd h2.2 hD
      refine ⟨rfl, _, rfl, _, rfl, _, rfl, _, rfl, i, a, u5, ps, _, n, by rw [Int.zero_add]; rfl, hP7.keep sD, hD7.keep sD, hps, sp, fun H'' s9 => ⟨_, s9 _ _ h2.1, fits_line (m := 3) (by rw [List.length_map, List.length_replicate]; omega), by rw [upd_same, List.replicate_succ', List.map_append]; rfl, ?_⟩⟩
      exact KB.upd (fun b o e nb => s9 _ _ (h2.2 _ _ e nb)) (by simp)
    · have sD : Same H7 H8 := sd h2.2 hD
      refine ⟨D, List.replicate 3 true, rfl, SqL.of h2.1, _, rfl, ?_⟩
      exact ⟨_, rfl, _, rfl, a, u5, ps, _, n, rfl, hP7.keep sD, hD7.keep sD, hps, sp, fun H'' s9 => k H'' (s07.then fun b o e => s9 _ _ (sD _ _ e))⟩
end
end Qk

/-! part W13a -/
set_option Elab.async false
set_option linter.all false
set_option maxRecDepth 100000
set_option maxHeartbeats 4000000
namespace Qk
open PySem PySem.Spec L2
open PyProof.Rows hiding St
/-! ### the told deeds fit -/
def told3 : List Str := ["t1", "t2", "t3"]
theorem fit_cons {S : Sto} {d : Dd} {ds : List Dd} (h : S.fits d = true) (f : Fit (S.step d) ds ds.length) : Fit S (d :: ds) (d :: ds).length := fun i e hi he => by
  cases i with
  | zero =>
    obtain rfl : d = e := Option.some.inj he
    exact h
  | succ i => exact f i e (Nat.lt_of_succ_lt_succ hi) he
theorem st_cons {S : Sto} {d : Dd} {ds : List Dd} : stAt S (d :: ds) (d :: ds).length = stAt (S.step d) ds ds.length := rfl
theorem st_app {S : Sto} {xs ys : List Dd} : stAt S (xs ++ ys) (xs ++ ys).length = stAt (stAt S xs xs.length) ys ys.length := by
  unfold stAt
  rw [List.take_length, List.take_length, List.take_length, List.foldl_append]
theorem fit_app : ∀ {xs ys : List Dd} {S : Sto}, Fit S xs xs.length → Fit (stAt S xs xs.length) ys ys.length → Fit S (xs ++ ys) (xs ++ ys).length
  | [], _, _, _, h => h
  | d :: xs, ys, S, f, g => fit_cons (f 0 d (Nat.succ_pos _) rfl) (fit_app (fun i e hi he => f (i + 1) e (Nat.succ_lt_succ hi) he) g)
structure ToldAt (S : Sto) (c : Str) (od0 on od : List Str) : Prop where
  ok : S.Ok
  c : c ∈ keys S.ps
  t : ∀ x ∈ told3, x ∉ keys S.ps
  on : ∀ k ∈ on, k ∈ keys S.tg
  od : ∀ x ∈ told3, x ∈ S.od → x ∈ od
  od0 : ∀ k ∈ S.od, k ∈ od0 ∨ k ∈ told3
structure ToldGo (S : Sto) (c : Str) (od0 : List Str) (ds : List Dd) : Prop where
  fit : Fit S ds ds.length
  c : c ∈ keys (stAt S ds ds.length).ps
  ok : (stAt S ds ds.length).Ok
  od0 : ∀ k ∈ (stAt S ds ds.length).od, k ∈ od0 ∨ k ∈ told3
section
variable {S : Sto} {c : Str} {od0 on od : List Str} {ds : List Dd}
theorem ToldAt.spot (A : ToldAt S c od0 on od) {x : Str} (h : x = c ∨ x ∈ on) : (S.root x).isSome = true := (Sto.root_some A.ok).mpr (h.imp (fun e => by rw [e]; exact A.c) (A.on x))
theorem go_end (A : ToldAt S c od0 on od) : ToldGo S c od0 [] := ⟨Fit.zero, A.c, A.ok, A.od0⟩
theorem go_step {d : Dd} (h : S.fits d = true) (g : ToldGo (S.step d) c od0 ds) : ToldGo S c od0 (d :: ds) := ⟨fit_cons h g.fit, g.c, g.ok, g.od0⟩
theorem go_rd (A : ToldAt S c od0 on od) {x : Str} (h : x = c ∨ x ∈ on) (g : ToldAt S c od0 on od → ToldGo S c od0 ds) : ToldGo S c od0 (.rd x :: ds) := go_step (d := .rd x) (A.spot h) (g A)
theorem go_wr (A : ToldAt S c od0 on od) {x : Str} {v : V} (h : x = c ∨ x ∈ on) (g : ∀ S', ToldAt S' c od0 on od → ToldGo S' c od0 ds) : ToldGo S c od0 (.wr x v :: ds) := by
  have f : S.fits (.wr x v) = true := A.spot h
  have ek : keys (S.step (.wr x v)).ps = keys S.ps := Sto.keys_step A.ok f
  exact go_step f (g _ ⟨A.ok.step f, by rw [ek]; exact A.c, by rw [ek]; exact A.t, A.on, A.od, A.od0⟩)
theorem go_bg (A : ToldAt S c od0 on od) {k t : Str} (hk : k ∈ told3) (hn : k ∉ od) (h : t = c ∨ t ∈ on) (g : ∀ S', ToldAt S' c od0 (k :: on) (k :: od) → ToldGo S' c od0 ds) : ToldGo S c od0 (.bg k t :: ds) := by
  have f : S.fits (.bg k t) = true := by
    have h1 := A.t k hk
    have h2 : k ∉ S.od := fun z => hn (A.od k hk z)
    have h3 := A.spot h
    simp only [Sto.fits, h1, h2, h3, not_false_eq_true, decide_true, Bool.and_self]
  have es : S.step (.bg k t) = _ := Sto.enter_eq A.ok f
  refine go_step f (g _ ⟨A.ok.step f, A.c, A.t, fun j hj => ?_, fun x hx hm => ?_, fun j hj => ?_⟩)
  · rw [es]
    show j ∈ keys (S.tg ++ [(k, t)])
    rw [keys_app]
    rcases List.mem_cons.mp hj with rfl | hj
    · exact List.mem_append_right _ (List.mem_singleton.mpr rfl)
    · exact List.mem_append_left _ (A.on j hj)
  · have hm : x ∈ S.od ++ [k] := hm
    rcases List.mem_append.mp hm with z | z
    · exact List.mem_cons_of_mem _ (A.od x hx z)
    · rw [List.mem_singleton.mp z]; exact List.mem_cons_self
  · have hj : j ∈ S.od ++ [k] := hj
    rcases List.mem_append.mp hj with z | z
    · exact A.od0 j z
    · rw [List.mem_singleton.mp z]; exact .inr hk
theorem go_ov (A : ToldAt S c od0 on od) {k : Str} (h : k ∈ on) (g : ∀ S', ToldAt S' c od0 (on.filter fun j => decide (j ≠ k)) od → ToldGo S' c od0 ds) : ToldGo S c od0 (.ov k :: ds) := by
  have f : S.fits (.ov k) = true := decide_eq_true (A.on k h)
  refine go_step f (g _ ⟨A.ok.step f, A.c, A.t, fun j hj => ?_, A.od, A.od0⟩)
  obtain ⟨h1, h2⟩ := List.mem_filter.mp hj
  exact mem_keys_drop.mpr ⟨A.on j h1, of_decide_eq_true h2⟩
end
/-- what the law asks the program of: deeds that fit -/
structure Good (ps : List (Str × V)) (ds : List Dd) : Prop where
  len : ds.length ≤ 90
  fit : Fit (Sto.init ps) ds ds.length
  v4 : ∀ d ∈ ds, d.has fun v => scal4 v = true
  no : Unheld ps ds
theorem told_go {S : Sto} {c : Str} {od0 : List Str} (A : ToldAt S c od0 [] []) (v : V) {way deep : Nat} (hw : way < 4) (hd : deep < 2) (r : List Dd) (hr : r = [] ∨ r = [.rd c]) : ToldGo S c od0 (tolds c way v deep ++ r) := by
  have tail : ∀ {S' : Sto} {on od : List Str}, ToldAt S' c od0 on od → ToldGo S' c od0 r := fun B => by
    rcases hr with rfl | rfl
    · exact go_end B
    · exact go_rd B (.inl rfl) go_end
  have m1 : ("t1" : Str) ∈ (["t2", "t1"] : List Str) := by decide
  have m2 : ("t2" : Str) ∈ (["t2", "t1"] : List Str) := by decide
  unfold tolds
  dsimp only
  rw [List.append_assoc]
  refine go_bg A (by decide) (by decide) (.inl rfl) fun S1 A1 => go_wr A1 (.inr (by decide)) fun S2 A2 => go_bg A2 (by decide) (by decide) (.inr (by decide)) fun S3 A3 => go_wr A3 (.inr m2) fun S4 A4 => go_rd A4 (.inr m2) fun A5 => ?_
  have hspot : (if deep = 0 then ("t1" : Str) else c) = c ∨ (if deep = 0 then ("t1" : Str) else c) ∈ (["t2", "t1"] : List Str) := by
    by_cases e : deep = 0
    · rw [if_pos e]; exact .inr m1
    · rw [if_neg e]; exact .inl rfl
  generalize (if deep = 0 then ("t1" : Str) else c) = spot at hspot ⊢
  by_cases w0 : way = 0
  · rw [if_pos w0]
    exact go_bg A5 (by decide) (by decide) hspot fun S6 A6 => go_rd A6 (.inr List.mem_cons_self) fun A7 => tail A7
  · rw [if_neg w0]
    by_cases w1 : way = 1
    · rw [if_pos w1]
      exact go_rd A5 hspot fun A6 => go_ov A6 m2 fun S7 A7 => tail A7
    · rw [if_neg w1]
      by_cases w2 : way = 2
      · rw [if_pos w2]
        exact go_wr A5 hspot fun S6 A6 => go_rd A6 (.inr m1) fun A7 => go_rd A7 (.inl rfl) fun A8 => tail A8
      · rw [if_neg w2]
        exact go_ov A5 m1 fun S6 A6 => go_rd A6 (.inr (by decide)) fun A7 => go_rd A7 (.inl rfl) fun A8 => tail A8
theorem told_v4 {c : Str} {way deep : Nat} {v : V} (h : scal4 v = true) : ∀ d ∈ tolds c way v deep, d.has fun v => scal4 v = true := fun d hd => by
  unfold tolds at hd
  dsimp only at hd
  rcases List.mem_append.mp hd with z | z
  · simp only [List.mem_cons, List.not_mem_nil, or_false] at z
    rcases z with rfl | rfl | rfl | rfl | rfl
    all_goals first | trivial | exact h | rfl
  · split at z
    · simp only [List.mem_cons, List.not_mem_nil, or_false] at z
      rcases z with rfl | rfl
      all_goals first | trivial | exact h | rfl
    · split at z
      · simp only [List.mem_cons, List.not_mem_nil, or_false] at z
        rcases z with rfl | rfl
        all_goals first | trivial | exact h | rfl
      · split at z
        · simp only [List.mem_cons, List.not_mem_nil, or_false] at z
          rcases z with rfl | rfl | rfl
          all_goals first | trivial | exact h | rfl
        · simp only [List.mem_cons, List.not_mem_nil, or_false] at z
          rcases z with rfl | rfl | rfl
          all_goals first | trivial | exact h | rfl
theorem told_len {c : Str} {way deep : Nat} {v : V} : (tolds c way v deep).length ≤ 8 := by
  unfold tolds
  dsimp only
  rw [List.length_append]
  split
  · exact (by decide : 7 ≤ 8)
  · split
    · exact (by decide : 7 ≤ 8)
    · split
      · exact (by decide : 8 ≤ 8)
      · exact (by decide : 8 ≤ 8)
theorem told_place {ps : List (Str × V)} (h : Plc ps) : ∀ x ∈ told3, x ∉ keys ps := fun x hx hm => by
  have key : ∀ x ∈ told3, x ∉ pNames := by decide +kernel
  rw [h.nm] at hm
  exact key x hx (List.mem_of_mem_take hm)
theorem told_names : ∀ x ∈ told3, x ≠ "nowhere" ∧ x ≠ "" := by decide +kernel
theorem kz_names (b : Bool) {n : Nat} (h : n < 30) : kz b (n : Int) ∉ told3 ∧ kz b (n : Int) ≠ "nowhere" ∧ kz b (n : Int) ≠ "" := by
  have key := kz_head b ⟨n, h⟩
  have key : kz b (n : Int) ∉ (["a", "b", "c", "place", "t1", "t2", "t3", "nowhere", "fresh", ""] : List Str) := key
  simp only [List.mem_cons, List.not_mem_nil, or_false, not_or] at key
  obtain ⟨_, _, _, _, h1, h2, h3, h4, _, h5⟩ := key
  refine ⟨?_, h4, h5⟩
  unfold told3
  simp only [List.mem_cons, List.not_mem_nil, or_false, not_or]
  exact ⟨h1, h2, h3⟩
theorem Drawn.good {ps : List (Str × V)} {ds : List Dd} (h : Drawn ps ds) : Good ps ds := by
  refine ⟨Nat.le_trans h.len (by decide), h.fit, h.v4, fun k hk => ?_⟩
  obtain ⟨b, n, hn, e⟩ := h.od k hk
  rw [e]
  exact (kz_names b (by omega)).2
theorem told_good {ps : List (Str × V)} {c : Str} {v : V} {way deep : Nat} (hps : Plc ps) (hc : c ∈ keys ps) (hv : scal4 v = true) (hw : way < 4) (hd : deep < 2) : Good ps (tolds c way v deep) := by
  have A : ToldAt (Sto.init ps) c [] [] [] := ⟨init_ok hps.nd, hc, told_place hps, fun _ z => (nomatch z), fun _ _ z => (nomatch z), fun _ z => (nomatch z)⟩
  have g := told_go A v hw hd [] (.inl rfl)
  rw [List.append_nil] at g
  refine ⟨Nat.le_trans told_len (by decide), g.fit, told_v4 hv, fun k hk => ?_⟩
  rcases g.od0 k hk with z | z
  · exact nomatch z
  · exact told_names k z
theorem front_good {ps : List (Str × V)} {ds : List Dd} {c : Str} {v : V} {way deep : Nat} (hps : Plc ps) (h : Drawn ps ds) (hc : c ∈ keys ps) (hv : scal4 v = true) (hw : way < 4) (hd : deep < 2) : Good ps (ds ++ tolds c way v deep ++ [.rd c]) := by
  have ok := stAt_ok (init_ok hps.nd) (Nat.le_refl _) h.fit
  have ek : keys (stAt (Sto.init ps) ds ds.length).ps = keys ps := stAt_keys (init_ok hps.nd) (Nat.le_refl _) h.fit
  have A : ToldAt (stAt (Sto.init ps) ds ds.length) c (stAt (Sto.init ps) ds ds.length).od [] [] :=
    ⟨ok, by rw [ek]; exact hc, by rw [ek]; exact told_place hps, fun _ z => (nomatch z), fun x hx hm => (by
      obtain ⟨b, n, hn, e⟩ := h.od x hm
      exact absurd (e ▸ hx) (kz_names b (by omega)).1), fun _ z => .inl z⟩
  have g := told_go A v hw hd [.rd c] (.inr rfl)
  rw [List.append_assoc]
  refine ⟨?_, fit_app h.fit g.fit, fun d hm => ?_, fun k hk => ?_⟩
  · rw [List.length_append, List.length_append]
    have := h.len
    have := @told_len c way deep v
    show _ + (_ + 1) ≤ 90
    omega
  · rcases List.mem_append.mp hm with z | z
    · exact h.v4 d z
    · rcases List.mem_append.mp z with z | z
      · exact told_v4 hv d z
      · rw [List.mem_singleton.mp z]; trivial
  · rw [st_app] at hk
    rcases g.od0 k hk with z | z
    · obtain ⟨b, n, hn, e⟩ := h.od k z
      rw [e]
      exact (kz_names b (by omega)).2
    · exact told_names k z
end Qk

/-! part W13 -/
set_option Elab.async false
set_option linter.all false
set_option maxRecDepth 100000
set_option maxHeartbeats 8000000
namespace Qk
open PySem PySem.Spec L2
open PyProof.Rows hiding St
abbrev sLaw : Stmt := top 50
/-- a list of deeds' lists -/
def GoodAt (K : PySem.W.Frag) (p : Addr × Addr) (ps : List (Str × V)) (H : Hp) (a : Addr) : Prop := ∃ L, DlAt K H a L ∧ Good ps L ∧ a ≠ p.1
theorem GoodAt.pls {K : PySem.W.Frag} {p : Addr × Addr} {ps : List (Str × V)} {H H' : Hp} {a : Addr} (h : GoodAt K p ps H a) (hp : PoolAt H p) (s : PlS p H H') : GoodAt K p ps H' a := by
  obtain ⟨L, h1, h2, h3⟩ := h
  exact ⟨L, h1.pls hp s h3, h2, h3⟩
theorem DlAt.lst {K : PySem.W.Frag} {F : List Addr} {H H' : Hp} {b : Addr} {ds : List Dd} (h : DlAt K H b ds) (k : KB F H H') (hF : ∀ c ∈ F, ∃ ys, H c = some (.lst ys)) (n : b ∉ F) : DlAt K H' b ds := by
  obtain ⟨ts, h1, h2⟩ := h
  exact ⟨ts, k _ _ h1 n, Paired.mapP h2 fun t d z => k.seqTl z hF⟩
def spLaw (K : PySem.W.Frag) : Sp := fun vs H Q _ => ∃ (l : Addr) (ns : List Int), vs = [.ref l] ∧ SqL K H l (ns.map V.int) ∧ ∀ H', Q (.bl true) H'
section
variable {P : Program} {w : World} {K : PySem.W.Frag} {mg : Str → Option Value} {base : Heap}
theorem scLaw : FnScope ["_law_script", "_law_pool_here", "_law_places", "_law_place", "_law_deep", "_law_drawn", "_law_value_here", "_law_front", "_law_lists", "_law_way", "_law_deeds_here"] ["_law_script"] (defScope sLaw) := ⟨rfl, rfl, rfl, by decide +kernel, rfl, by decide +kernel, by decide +kernel⟩
theorem ok_law {f f0 f1 f2 f3 f4 f5 f6 f7 f8 f9 : Addr} {fd d0 d1 d2 d3 d4 d5 d6 d7 d8 d9 : FuncData} (F : Fun K "law" "law" sLaw f fd) (MPo : CallM P w K mg base CX0 1 f0 d0 "_law_pool" ["_law_script"] (spPool K))
    (MCe : CallM P w K mg base CX0 4 f1 d1 "_law_cells" ["_law_pool_here"] (spCells K)) (MD : CallM P w K mg base CX0 2 f2 d2 "_law_draw" ["_law_pool_here", "_law_limit"] spDraw)
    (MDe : CallM P w K mg base CX0 4 f3 d3 "_law_deeds" ["_law_pool_here", "_law_places", "_law_bound", "_law_tidy"] (spDeeds K)) (MV : CallM P w K mg base CX0 3 f4 d4 "_law_value" ["_law_pool_here"] spVal4)
    (MTo : CallM P w K mg base CX0 1 f5 d5 "_law_told" ["_law_place", "_law_way", "_law_value_here", "_law_deep"] (spTold K)) (MST : CallM P w K mg base CX0 9 f6 d6 "_law_surrounded_told" ["_law_places", "_law_deeds_here", "_law_value_here"] (spST K))
    (MMk : CallM P w K mg base CX0 4 f7 d7 "_law_mark_of" ["_law_pool_here", "_law_places", "_law_deeds_here"] (spMark K)) (MUf : CallM P w K mg base CX0 10 f8 d8 "_law_unfit" ["_law_pool_here", "_law_places", "_law_deeds_here"] (spUf K))
    (MUn : CallM P w K mg base CX0 1 f9 d9 "_law_unheard" ["_law_places", "_law_deeds_here"] (spUnh K)) (gLen : mg "len" = none) (gRange : mg "range" = none) :
    FnOk P w K mg base CX0 11 f fd ["_law_script"] (spLaw K) := by
  refine F.ok scLaw (fun vs H Q E h => ?_) (fun cdv A outer s H vs Q E hr h => ?_)
  · obtain ⟨l, ns, rfl, _⟩ := h
    rfl
  · obtain ⟨l, ns, rfl, hl, k⟩ := h
    have hu := hu_of hr
    refine ⟨_, (pss_cons (ps_set (i := 1) scLaw.nd rfl (.inl rfl) (by exact (pe_call MPo.G (hr.mono (by decide)) rfl MPo.g MPo.kp MPo.b .nil pass0 (by exact (pa_cons (pv 0) pa_nil)))))
      (pss_cons (ps_set (i := 2) scLaw.nd rfl (.inl rfl) (by exact (pe_call MCe.G (hr.mono (by decide)) rfl MCe.g MCe.kp MCe.b .nil pass0 (by exact (pa_cons (pv 1) pa_nil)))))
      (pss_cons (ps_set (i := 3) scLaw.nd rfl (.inr rfl) (pe_ix ix_tup (pe_ix ix_list (pv 2) (by exact (pe_call MD.G (hr.mono (by decide)) rfl MD.g MD.kp MD.b .nil pass0 (by exact (pa_cons (pv 1) (pa_cons (pe_callB call_len_seq (by rfl) gLen (by decide +kernel) (by exact (pa_cons (pv 2) pa_nil))) pa_nil))))) (fun _ _ => rfl)) pe_int (fun _ _ => rfl)))
      (pss_cons (ps_set (i := 4) scLaw.nd rfl (.inr rfl) (by exact (pe_call MD.G (hr.mono (by decide)) rfl MD.g MD.kp MD.b .nil pass0 (by exact (pa_cons (pv 1) (pa_cons pe_int pa_nil))))))
      (pss_cons (ps_set (i := 5) scLaw.nd rfl (.inl rfl) (by exact (pe_call MDe.G (hr.mono (by decide)) rfl MDe.g MDe.kp MDe.b .nil pass0 (by exact (pa_cons (pv 1) (pa_cons (pv 2) (pa_cons pe_int (pa_cons (pe_cmpR op_eq (by exact (pe_call MD.G (hr.mono (by decide)) rfl MD.g MD.kp MD.b .nil pass0 (by exact (pa_cons (pv 1) (pa_cons pe_int pa_nil))))) pe_int (nomark _)) pa_nil))))))))
      (pss_cons (ps_set (i := 6) scLaw.nd rfl (.inr rfl) (by exact (pe_call MV.G (hr.mono (by decide)) rfl MV.g MV.kp MV.b .nil pass0 (by exact (pa_cons (pv 1) pa_nil)))))
      (pss_cons (ps_set (i := 7) scLaw.nd rfl (.inl rfl) (by exact (pe_call MDe.G (hr.mono (by decide)) rfl MDe.g MDe.kp MDe.b .nil pass0 (by exact (pa_cons (pv 1) (pa_cons (pv 2) (pa_cons pe_int (pa_cons pe_bl pa_nil))))))))
      (pss_cons (ps_set (i := 8) scLaw.nd rfl (.inl rfl) (pe_op op_cat (pe_lst (by exact (pa_cons (pv 5) (pa_cons (pv 7) pa_nil)))) (pe_lc (own := [("_law_way", 9)]) (g := gName 9) (tt := tYes) (te := (tCall (spTold K) [] E0 (tCons (tVar 3) (tCons (tVar 9) (tCons (tVar 6) (tCons (tVar 4) tNil)))))) rfl scLaw.nd (pi_range1 (by rfl) gRange (by exact (pa_cons pe_int pa_nil))) (blkOk_by (own := [("_law_way", 9)]) (N := ["_law_script", "_law_pool_here", "_law_places", "_law_place", "_law_deep", "_law_drawn", "_law_value_here", "_law_front", "_law_lists", "_law_way", "_law_deeds_here"]) (sc := defScope sLaw) (by decide +kernel)) (fun _ _ _ _ _ => (pg_name (i := 9) scLaw.nd rfl (Or.inl rfl) (Or.inr rfl))) (fun _ _ _ _ _ => pts_nil) (fun _ _ _ _ _ => (by exact (pe_call MTo.G (hr.mono (by decide)) rfl MTo.g MTo.kp MTo.b .nil pass0 (by exact (pa_cons (pv 3) (pa_cons (pv 9) (pa_cons (pv 6) (pa_cons (pv 4) pa_nil)))))))))))
      (pss_cons (ps_expr (by exact (pe_bm PySem.F.plainAttrs_list PySem.F.slot_list_append PySem.F.type_list_append mt_append (pv 8) (by exact (pa_cons (pe_op op_cat (pe_op op_cat (pv 7) (by exact (pe_call MTo.G (hr.mono (by decide)) rfl MTo.g MTo.kp MTo.b .nil pass0 (by exact (pa_cons (pv 3) (pa_cons (by exact (pe_call MD.G (hr.mono (by decide)) rfl MD.g MD.kp MD.b .nil pass0 (by exact (pa_cons (pv 1) (pa_cons pe_int pa_nil))))) (pa_cons (pv 6) (pa_cons (pe_op op_sub pe_int (pv 4)) pa_nil)))))))) (pe_lst (by exact (pa_cons (pe_tup (by exact (pa_cons pe_str (pa_cons (pv 3) pa_nil)))) pa_nil)))) pa_nil)))))
      (pss_cons (ps_for PassesOwn.never rfl (pi_list (pv 8)) (pg_name (i := 10) scLaw.nd rfl (.inl rfl)) (pss_cons (ps_if (pt_not (pt_val (by exact (pe_call MST.G (hr.mono (by decide)) rfl MST.g MST.kp MST.b .nil pass0 (by exact (pa_cons (pv 2) (pa_cons (pv 10) (pa_cons (by exact (pe_call MMk.G (hr.mono (by decide)) rfl MMk.g MMk.kp MMk.b .nil pass0 (by exact (pa_cons (pv 1) (pa_cons (pv 2) (pa_cons (pv 10) pa_nil)))))) pa_nil)))))))) (pss_one (ps_ret pe_bl)) pss_nil)
      (pss_one (ps_if (pt_not (pt_val (by exact (pe_call MUf.G (hr.mono (by decide)) rfl MUf.g MUf.kp MUf.b .nil pass0 (by exact (pa_cons (pv 1) (pa_cons (pv 2) (pa_cons (pv 10) pa_nil)))))))) (pss_one (ps_ret pe_bl)) pss_nil))))
      (pss_one (ps_ret (by exact (pe_call MST.G (hr.mono (by decide)) rfl MST.g MST.kp MST.b .nil pass0 (by exact (pa_cons (pv 2) (pa_cons (pv 5) (pa_cons (by exact (pe_call MUn.G (hr.mono (by decide)) rfl MUn.g MUn.kp MUn.b .nil pass0 (by exact (pa_cons (pv 2) (pa_cons (pv 5) pa_nil))))) pa_nil)))))))))))))))))), ?_⟩
    refine ⟨_, rfl, l, ns, rfl, hl, fun p H1 s1 n1 n2 hp => ?_⟩
    refine ⟨_, rfl, p, rfl, hp, fun a ps H2 s2 hna hps hPa => ?_⟩
    have nap := pl_ne hp hna
    have hnd := hps.nd
    have h4 := hps.n4
    obtain ⟨rs, hL, hP1⟩ := id hPa
    have hln : rs.length = ps.length := Paired.length hP1
    refine ⟨_, rfl, _, rfl, _, rfl, a, _, rfl, .inl hL, p, _, rfl, s2.pl, by rw [List.length_map, hln]; have := hps.n0; omega, by rw [List.length_map, hln]; omega, fun r H3 r0 r1 s3 => ?_⟩
    obtain ⟨v0, hv0, eat⟩ := draw_ix (xs := rs.map V.ref) r0 r1
    obtain ⟨t0, ht0, rfl⟩ := List.mem_map.mp hv0
    obtain ⟨⟨c, cv⟩, hq, hT0⟩ := paired_mem hP1 ht0
    have hc : c ∈ keys ps := List.mem_map.mpr ⟨(c, cv), hq, rfl⟩
    refine ⟨a, _, _, _, rfl, rfl, s3.kb.seqL hL (by simpa using nap), eat, t0, _, _, _, rfl, rfl, s3.kb.seqTl hT0 (pool_l s2.pl), atI_nat (j := 0) rfl, ?_⟩
    have hP3 := hPa.pls s2.pl s3 nap
    refine ⟨_, rfl, p, 2, rfl, s3.pl, by decide, by decide, fun rd H4 d0 d1 s4 => ?_⟩
    obtain ⟨deep, rfl⟩ := Int.eq_ofNat_of_zero_le d0
    have hdeep : deep < 2 := by omega
    have hP4 := hP3.pls s3.pl s4 nap
    refine ⟨_, rfl, _, rfl, _, rfl, p, 4, rfl, s4.pl, by decide, by decide, fun r5 H5 _ _ s5 => ⟨rfl, ?_⟩⟩
    have hP5 := hP4.pls s4.pl s5 nap
    refine ⟨p, a, 24, _, ps, rfl, s5.pl, nap, hP5, hps, by decide, fun b ds H6 s6 hb hD hDr => ?_⟩
    have nbp := pl_ne s5.pl hb
    have hP6 := hP5.pls s5.pl s6 nap
    refine ⟨_, rfl, p, rfl, s6.pl, fun v H7 s7 hv => ?_⟩
    have hP7 := hP6.pls s6.pl s7 nap
    have hD7 := hD.pls s6.pl s7 nbp
    refine ⟨_, rfl, _, rfl, p, a, 6, true, ps, rfl, s7.pl, nap, hP7, hps, by decide, fun b2 ds2 H8 s8 hb2 hD2 hDr2 => ?_⟩
    have nb2p := pl_ne s7.pl hb2
    have hP8 := hP7.pls s7.pl s8 nap
    have hD8 := hD7.pls s7.pl s8 nbp
    refine ⟨_, rfl, _, rfl, line_le (m := 2) (Nat.le_refl 2), fun l1 hl1 => ?_⟩
    obtain ⟨s9, e9⟩ := new_list2 (xs := [V.ref b, V.ref b2]) hl1
    generalize upd H8 l1 (HO.lst _) = H9 at s9 e9 ⊢
    have p9 := s8.pl.keep s9
    refine ⟨4, rfl, by decide, by decide, fun D hD => ?_⟩
    refine lc_range (lo := 0) (n := 4) (fun i H' => ∃ as : List Addr, H' D = some (.lst (as.map V.ref)) ∧ as.length = i ∧ (∀ x ∈ as, GoodAt K p ps H' x ∧ x ≠ D) ∧ KB [D] H9 H') ⟨[], upd_same, rfl, fun _ z => (nomatch z), KB.refl.upd (by simp)⟩ (fun i H' hi ⟨as, f1, f2, f3, f4⟩ => ?_) (fun H10 ⟨as, f1, f2, f3, f4⟩ => ?_)
    · have sD : Same H9 H' := sd f4 hD
      refine ⟨rfl, _, rfl, _, rfl, _, rfl, _, rfl, c, i, deep, v, by rw [Int.zero_add]; rfl, hi, hdeep, fun q H'' sq hq hDq => ?_⟩
      refine ⟨_, sq _ _ f1, fits_line (m := 4) (by rw [List.length_map]; omega), as ++ [q], by rw [upd_same, List.map_append]; rfl, by rw [List.length_append, f2]; rfl, fun x hx => ?_, KB.upd (fun b o e nb => sq _ _ (f4 _ _ e nb)) (by simp)⟩
      have hDl : ∀ c ∈ [D], ∃ ys, H'' c = some (.lst ys) := fun c hc => by rw [List.mem_singleton.mp hc]; exact ⟨_, sq _ _ f1⟩
      have kD : KB [D] H'' (upd H'' D (.lst (as.map V.ref ++ [.ref q]))) := KB.refl.upd (by simp)
      rcases List.mem_append.mp hx with z | z
      · obtain ⟨⟨L, g1, g2, g3⟩, g4⟩ := f3 x z
        exact ⟨⟨L, (g1.keep sq).lst kD hDl (by simpa using g4), g2, g3⟩, g4⟩
      · rw [List.mem_singleton.mp z]
        have nq : q ≠ D := (ne_of_none f1 hq).symm
        exact ⟨⟨_, hDq.lst kD hDl (by simpa using nq), told_good hps hc hv hi hdeep, pl_ne (p9.keep sD) hq⟩, nq⟩
    have sD : Same H9 H10 := sd f4 hD
    have p10 := p9.keep sD
    refine ⟨l1, D, _, _, rfl, rfl, sD _ _ e9, f1, line_le (m := 6) (by rw [List.length_map, f2]; exact Nat.le_refl 6), fun l2 hl2 => ?_⟩
    obtain ⟨s11, e11⟩ := new_list2 (xs := [V.ref b, V.ref b2] ++ as.map V.ref) hl2
    generalize upd H10 l2 (HO.lst _) = H11 at s11 e11 ⊢
    have nl2 := pl_ne p10 hl2
    have p11 := p10.keep s11
    have s8b : Same H8 H11 := fun b o e => s11 _ _ (sD _ _ (s9 _ _ e))
    have hD2b := hD2.keep s8b
    -- the last list
    refine ⟨_, rfl, .inl ⟨rfl, _, SqL.of e11⟩, ?_⟩
    refine ⟨_, rfl, _, rfl, _, rfl, p, 4, rfl, p11, by decide, by decide, fun rw_ H12 w0 w1 s12 => ?_⟩
    obtain ⟨way, rfl⟩ := Int.eq_ofNat_of_zero_le w0
    have hway : way < 4 := by omega
    have e1d : (1 : Int) - (deep : Int) = ((1 - deep : Nat) : Int) := by omega
    refine ⟨_, rfl, _, rfl, _, _, rfl, rfl, c, way, 1 - deep, v, by show [V.str c, V.int (way : Int), v, V.int ((1 : Int) - (deep : Int))] = _; rw [e1d], hway, by omega, fun q H13 s13 hq hDq => ?_⟩
    have hD2c := (hD2b.pls p11 s12 nb2p).keep s13
    obtain ⟨ts2, hb2L, hPb2⟩ := id hD2c
    obtain ⟨tsq, hqL, hPq⟩ := id hDq
    have lb2 : ts2.length ≤ 24 := by rw [Paired.length hPb2]; exact hDr2.len
    have lq : tsq.length ≤ 8 := by rw [Paired.length hPq]; exact told_len
    refine ⟨b2, q, _, _, rfl, rfl, hb2L, hqL, line_le (m := 90) (by rw [List.length_map, List.length_map]; omega), fun u hu0 => ?_⟩
    obtain ⟨s14, e14⟩ := new_list2 (xs := ts2.map V.ref ++ tsq.map V.ref) hu0
    generalize upd H13 u (HO.lst _) = H14 at s14 e14 ⊢
    refine ⟨_, rfl, line_le (m := 2) (Nat.le_refl 2), fun t ht => ⟨line_le (m := 2) (by decide : 1 ≤ 2), fun l3 hl3 => ?_⟩⟩
    have s15 := new_tups (xs := [.str "read", .str c]) ht
    have s16 := new_list (xs := [.ref t]) hl3
    refine ⟨u, l3, _, _, rfl, rfl, s16 _ _ (s15 _ _ e14), upd_same, line_le (m := 90) (by rw [List.length_append, List.length_map, List.length_map]; show _ + 1 ≤ 90; omega), fun u2 hu2 => ?_⟩
    obtain ⟨s17, e17⟩ := new_list2 (xs := (ts2.map V.ref ++ tsq.map V.ref) ++ [.ref t]) hu2
    have hTt := SqT.of (K := K) (s17 _ _ (s16 _ _ (upd_same (H := H14) (a := t) (o := .tup [.str "read", .str c]))))
    have s13b : Same H13 _ := fun b o e => s17 _ _ (s16 _ _ (s15 _ _ (s14 b o e)))
    have n13 : H13 u2 = none := none_of_same (fun b o e => s16 _ _ (s15 _ _ (s14 b o e))) hu2
    generalize upd _ u2 (HO.lst _) = H17 at s17 e17 hTt s13b ⊢
    have s13b : Same H13 H17 := fun b o e => s13b b o e
    have hTt : SqT K H17 t [.str "read", .str c] := hTt
    clear s17 s16 s15
    have s11b : PlS p H11 H17 := (s12.then s13).then s13b
    have hl17 : H17 l2 = some (.lst ([V.ref b, V.ref b2] ++ as.map V.ref)) := s11b.obj e11 nl2
    have hDu : DlAt K H17 u2 (ds2 ++ tolds c way v (1 - deep) ++ [.rd c]) :=
      ⟨ts2 ++ tsq ++ [t], by rw [e17, List.map_append, List.map_append]; rfl, paired_app (paired_app (Paired.mapP hPb2 fun t d y => sameT s13b y) (Paired.mapP hPq fun t d y => sameT s13b y)) (.cons hTt .nil)⟩
    have nu2 := pl_ne (s12.pl.keep s13) n13
    have nu2l : u2 ≠ l2 := fun e => (by
      have := s13 _ _ (s12.obj e11 nl2)
      rw [← e, n13] at this; cases this)
    refine ⟨l2, _, _, rfl, rfl, hl17, fits_line (m := 90) (by rw [List.length_append, List.length_map, f2]; exact (by decide : 2 + 4 ≤ 90)), ?_⟩
    have nl22 := pl_ne2 p10 hl2
    have sL0 : KB [p.1] H10 (upd H17 l2 (.lst ([V.ref b, V.ref b2] ++ as.map V.ref ++ [V.ref u2]))) := ((PlS.same p10 s11).trans s11b).kb.fresh hl2
    have pL : PoolAt (upd H17 l2 (.lst ([V.ref b, V.ref b2] ++ as.map V.ref ++ [V.ref u2]))) p := s11b.pl.keepB (F := [l2]) (KB.refl.upd (by simp)) (by simpa using nl2.symm) (by simpa using nl22.symm)
    have hDuL := hDu.lst (F := [l2]) (H' := upd H17 l2 (.lst ([V.ref b, V.ref b2] ++ as.map V.ref ++ [V.ref u2]))) (KB.refl.upd (by simp)) (fun c hc => by rw [List.mem_singleton.mp hc]; exact ⟨_, hl17⟩) (by simpa using nu2l)
    have eL : upd H17 l2 (.lst ([V.ref b, V.ref b2] ++ as.map V.ref ++ [V.ref u2])) l2 = some (.lst (([b, b2] ++ as ++ [u2]).map V.ref)) := by rw [upd_same, List.map_append, List.map_append]; rfl
    generalize upd H17 l2 (.lst ([V.ref b, V.ref b2] ++ as.map V.ref ++ [V.ref u2])) = HL at sL0 pL hDuL eL ⊢
    have sL : PlS p H10 HL := ⟨sL0, pL⟩
    have s810 : Same H8 H10 := fun b o e => sD _ _ (s9 _ _ e)
    have hPL := (hP8.keep s810).pls p10 sL nap
    have hDL := (hD8.keep s810).pls p10 sL nbp
    have hD2L := (hD2.keep s810).pls p10 sL nb2p
    have all : ∀ x ∈ [b, b2] ++ as ++ [u2], GoodAt K p ps HL x := fun x hx => by
      rcases List.mem_append.mp hx with z | z
      · rcases List.mem_append.mp z with z | z
        · simp only [List.mem_cons, List.not_mem_nil, or_false] at z
          rcases z with rfl | rfl
          · exact ⟨ds, hDL, hDr.good, nbp⟩
          · exact ⟨ds2, hD2L, hDr2.good, nb2p⟩
        · exact (f3 x z).1.pls p10 sL
      · rw [List.mem_singleton.mp z]
        exact ⟨_, hDuL, front_good hps hDr2 hc hv hway (by omega), nu2⟩
    refine ⟨_, rfl, l2, rfl, ⟨_, SqL.of eL⟩, ?_⟩
    refine for_list (K := K) (a := l2) (xs := ([b, b2] ++ as ++ [u2]).map V.ref) (fun i σ H' => (∃ o : Option V, σ = [some (.ref l), some (.ref p.1), some (.ref a), some (.str c), some (.int (deep : Int)), some (.ref b), some v, some (.ref b2), some (.ref l2), none, o]) ∧ PlS p HL H') ⟨⟨none, rfl⟩, .refl pL⟩
      (fun i σ H' _ h => SqL.of (h.2.obj eL nl2)) (fun i x σ H' hx h => ?_) (fun σ H' h => ?_)
    · obtain ⟨⟨o, rfl⟩, sH⟩ := h
      obtain ⟨y, hy, rfl⟩ := List.mem_map.mp (List.mem_of_getElem? hx)
      obtain ⟨L, hDy, g, ny⟩ := all y hy
      have hPx := hPL.pls pL sH nap
      have hDx := hDy.pls pL sH ny
      have gl := g.len
      refine ⟨_, rfl, _, rfl, _, rfl, _, rfl, _, rfl, p, a, y, ps, L, rfl, sH.pl, ⟨nap, ny⟩, hPx, hDx, h4, by omega, hps.v4, g.v4, fun m Hm sm hm m4 => ?_⟩
      have hPm := hPx.pls sH.pl sm nap
      have hDm := hDx.pls sH.pl sm ny
      refine ⟨a, y, ps, L, m, rfl, hPm, hDm, hps, gl, g.fit, g.v4, m4, hm, fun Hs ss => ⟨_, rfl, if_false_of rfl ?_⟩⟩
      have sHs := (sH.trans sm).then ss
      refine ⟨_, rfl, _, rfl, _, rfl, p, a, y, ps, L, rfl, sHs.pl, ⟨nap, ny⟩, hPm.keep ss, hDm.keep ss, hps, gl, g.fit, g.v4, g.no, fun Hu su => ⟨_, rfl, if_false_of rfl ⟨⟨_, rfl⟩, sHs.trans su⟩⟩⟩
    · obtain ⟨⟨o, rfl⟩, sH⟩ := h
      have hPx := hPL.pls pL sH nap
      have hDx := hDL.pls pL sH nbp
      have g := hDr.good
      have gl := g.len
      exact ⟨_, rfl, _, rfl, _, rfl, _, rfl, a, b, ps, ds, rfl, hPx, hDx, h4, by omega, hps.v4, g.v4, fun m Hm sm hm => ⟨a, b, ps, ds, .int m, rfl, hPx.keep sm, hDx.keep sm, hps, gl, g.fit, g.v4, rfl, hm, fun Hs ss => k Hs⟩⟩
end
end Qk

/-! part W14 -/
set_option Elab.async false
set_option linter.all false
set_option maxRecDepth 100000
set_option maxHeartbeats 8000000
namespace Qk
open PySem PySem.Spec L2
open PyProof.Rows hiding St
/-! ### all of the program's top -/
abbrev theProg : Program := PySem.W.OpenLaw.prog PySem.Challenge.rw_quickways_k15_whole_untidy_deeds_are_par
theorem noSuper : (theProg.main.scope.names.lookup ("super" : Str)).isSome = false := by decide +kernel
theorem all_mk {w : World} {K : PySem.W.Frag} {h : Heap} {mg : Str → Option Value} {fa CL CA CC CN CB CQ fLI fLE fLS fLR fLK fAI fAB fAV fAS fAO fAR fAL fCI fCG fCV fCS fCO fcell fdo fPL fplay fBW fPR fFU fCE fSur fpool fmix fdraw fword fisI fsame fval fcells fkey fdeeds funh fstore froot fheld fput fldo fplayed ftouch flon flce funt ftold fdue fmark fst frf frb fuf flaw : Addr} (X : K.In h) (G : h.Ns mainGlobals mg) (hfa : mg "law" = some (.ref fa))
    {odLI anLI : Option Addr} {slLI : Array (Option Value)} {ocLI kVLI dcLI pmLI cdLI ctLI : Value}
    {odLE anLE : Option Addr} {slLE : Array (Option Value)} {ocLE kVLE dcLE pmLE cdLE ctLE : Value}
    {odLS anLS : Option Addr} {slLS : Array (Option Value)} {ocLS kVLS dcLS pmLS cdLS ctLS : Value}
    {odLR anLR : Option Addr} {slLR : Array (Option Value)} {ocLR kVLR dcLR pmLR cdLR ctLR : Value}
    {odLK anLK : Option Addr} {slLK : Array (Option Value)} {ocLK kVLK dcLK pmLK cdLK ctLK : Value}
    {odAI anAI : Option Addr} {slAI : Array (Option Value)} {ocAI kVAI dcAI pmAI cdAI ctAI : Value}
    {odAB anAB : Option Addr} {slAB : Array (Option Value)} {ocAB kVAB dcAB pmAB cdAB ctAB : Value}
    {odAV anAV : Option Addr} {slAV : Array (Option Value)} {ocAV kVAV dcAV pmAV cdAV ctAV : Value}
    {odAS anAS : Option Addr} {slAS : Array (Option Value)} {ocAS kVAS dcAS pmAS cdAS ctAS : Value}
    {odAO anAO : Option Addr} {slAO : Array (Option Value)} {ocAO kVAO dcAO pmAO cdAO ctAO : Value}
    {odAR anAR : Option Addr} {slAR : Array (Option Value)} {ocAR kVAR dcAR pmAR cdAR ctAR : Value}
    {odAL anAL : Option Addr} {slAL : Array (Option Value)} {ocAL kVAL dcAL pmAL cdAL ctAL : Value}
    {odCI anCI : Option Addr} {slCI : Array (Option Value)} {ocCI kVCI dcCI pmCI cdCI ctCI : Value}
    {odCG anCG : Option Addr} {slCG : Array (Option Value)} {ocCG kVCG dcCG pmCG cdCG ctCG : Value}
    {odCV anCV : Option Addr} {slCV : Array (Option Value)} {ocCV kVCV dcCV pmCV cdCV ctCV : Value}
    {odCS anCS : Option Addr} {slCS : Array (Option Value)} {ocCS kVCS dcCS pmCS cdCS ctCS : Value}
    {odCO anCO : Option Addr} {slCO : Array (Option Value)} {ocCO kVCO dcCO pmCO cdCO ctCO : Value}
    {odcell ancell : Option Addr} {slcell : Array (Option Value)} {occell kVcell dccell pmcell cdcell ctcell : Value}
    {oddo ando : Option Addr} {sldo : Array (Option Value)} {ocdo kVdo dcdo pmdo cddo ctdo : Value}
    {odPL anPL : Option Addr} {slPL : Array (Option Value)} {ocPL kVPL dcPL pmPL cdPL ctPL : Value}
    {odplay anplay : Option Addr} {slplay : Array (Option Value)} {ocplay kVplay dcplay pmplay cdplay ctplay : Value}
    {odBW anBW : Option Addr} {slBW : Array (Option Value)} {ocBW kVBW dcBW pmBW cdBW ctBW : Value}
    {odPR anPR : Option Addr} {slPR : Array (Option Value)} {ocPR kVPR dcPR pmPR cdPR ctPR : Value}
    {odFU anFU : Option Addr} {slFU : Array (Option Value)} {ocFU kVFU dcFU pmFU cdFU ctFU : Value}
    {odCE anCE : Option Addr} {slCE : Array (Option Value)} {ocCE kVCE dcCE pmCE cdCE ctCE : Value}
    {odSur anSur : Option Addr} {slSur : Array (Option Value)} {ocSur kVSur dcSur pmSur cdSur ctSur : Value}
    {odpool anpool : Option Addr} {slpool : Array (Option Value)} {ocpool kVpool dcpool pmpool cdpool ctpool : Value}
    {odmix anmix : Option Addr} {slmix : Array (Option Value)} {ocmix kVmix dcmix pmmix cdmix ctmix : Value}
    {oddraw andraw : Option Addr} {sldraw : Array (Option Value)} {ocdraw kVdraw dcdraw pmdraw cddraw ctdraw : Value}
    {odword anword : Option Addr} {slword : Array (Option Value)} {ocword kVword dcword pmword cdword ctword : Value}
    {odisI anisI : Option Addr} {slisI : Array (Option Value)} {ocisI kVisI dcisI pmisI cdisI ctisI : Value}
    {odsame ansame : Option Addr} {slsame : Array (Option Value)} {ocsame kVsame dcsame pmsame cdsame ctsame : Value}
    {odval anval : Option Addr} {slval : Array (Option Value)} {ocval kVval dcval pmval cdval ctval : Value}
    {odcells ancells : Option Addr} {slcells : Array (Option Value)} {occells kVcells dccells pmcells cdcells ctcells : Value}
    {odkey ankey : Option Addr} {slkey : Array (Option Value)} {ockey kVkey dckey pmkey cdkey ctkey : Value}
    {oddeeds andeeds : Option Addr} {sldeeds : Array (Option Value)} {ocdeeds kVdeeds dcdeeds pmdeeds cddeeds ctdeeds : Value}
    {odunh anunh : Option Addr} {slunh : Array (Option Value)} {ocunh kVunh dcunh pmunh cdunh ctunh : Value}
    {odstore anstore : Option Addr} {slstore : Array (Option Value)} {ocstore kVstore dcstore pmstore cdstore ctstore : Value}
    {odroot anroot : Option Addr} {slroot : Array (Option Value)} {ocroot kVroot dcroot pmroot cdroot ctroot : Value}
    {odheld anheld : Option Addr} {slheld : Array (Option Value)} {ocheld kVheld dcheld pmheld cdheld ctheld : Value}
    {odput anput : Option Addr} {slput : Array (Option Value)} {ocput kVput dcput pmput cdput ctput : Value}
    {odldo anldo : Option Addr} {slldo : Array (Option Value)} {ocldo kVldo dcldo pmldo cdldo ctldo : Value}
    {odplayed anplayed : Option Addr} {slplayed : Array (Option Value)} {ocplayed kVplayed dcplayed pmplayed cdplayed ctplayed : Value}
    {odtouch antouch : Option Addr} {sltouch : Array (Option Value)} {octouch kVtouch dctouch pmtouch cdtouch cttouch : Value}
    {odlon anlon : Option Addr} {sllon : Array (Option Value)} {oclon kVlon dclon pmlon cdlon ctlon : Value}
    {odlce anlce : Option Addr} {sllce : Array (Option Value)} {oclce kVlce dclce pmlce cdlce ctlce : Value}
    {odunt anunt : Option Addr} {slunt : Array (Option Value)} {ocunt kVunt dcunt pmunt cdunt ctunt : Value}
    {odtold antold : Option Addr} {sltold : Array (Option Value)} {octold kVtold dctold pmtold cdtold cttold : Value}
    {oddue andue : Option Addr} {sldue : Array (Option Value)} {ocdue kVdue dcdue pmdue cddue ctdue : Value}
    {odmark anmark : Option Addr} {slmark : Array (Option Value)} {ocmark kVmark dcmark pmmark cdmark ctmark : Value}
    {odst anst : Option Addr} {slst : Array (Option Value)} {ocst kVst dcst pmst cdst ctst : Value}
    {odrf anrf : Option Addr} {slrf : Array (Option Value)} {ocrf kVrf dcrf pmrf cdrf ctrf : Value}
    {odrb anrb : Option Addr} {slrb : Array (Option Value)} {ocrb kVrb dcrb pmrb cdrb ctrb : Value}
    {oduf anuf : Option Addr} {sluf : Array (Option Value)} {ocuf kVuf dcuf pmuf cduf ctuf : Value}
    {odlaw anlaw : Option Addr} {sllaw : Array (Option Value)} {oclaw kVlaw dclaw pmlaw cdlaw ctlaw : Value}
    {nmCN : Str} {qCN : Str} {NCN : Addr} {bsCN : List Value} {bmCN : List Value} {snCN : List Str} {subCN : List Value} {abCN : Bool} {colCN : Option Bool} {ddCN : Option Addr} {m0CN : Option Value} {m1CN : Option Value} {m2CN : Option Value} {m3CN : Option Value} {m5CN : Option Value} {fiCN : Addr} {xocCN xkVCN xdcCN xpmCN xctCN yccCN yclCN : Value} {xodCN xanCN ycdCN yldCN : Option Addr} {xslCN yvs0CN yslCN : Array (Option Value)} {yvsCN : Array Value} {cdaCN ccCN : Addr} {jCN : Nat} {p1CN p2CN a1CN a2CN a3CN a4CN a5CN a6CN q1CN q2CN q3CN q4CN : Pos} {fileCN : Str} {tfCN : Tok}
    {nmCB : Str} {qCB : Str} {NCB : Addr} {bsCB : List Value} {bmCB : List Value} {snCB : List Str} {subCB : List Value} {abCB : Bool} {colCB : Option Bool} {ddCB : Option Addr} {m0CB : Option Value} {m1CB : Option Value} {m2CB : Option Value} {m3CB : Option Value} {m5CB : Option Value} {fiCB : Addr} {xocCB xkVCB xdcCB xpmCB xctCB yccCB yclCB : Value} {xodCB xanCB ycdCB yldCB : Option Addr} {xslCB yvs0CB yslCB : Array (Option Value)} {yvsCB : Array Value} {cdaCB ccCB : Addr} {jCB : Nat} {p1CB p2CB a1CB a2CB a3CB a4CB a5CB a6CB q1CB q2CB q3CB q4CB : Pos} {fileCB : Str} {tfCB : Tok}
    (aCL : PySem.W.nsIn K mainGlobals "Ledger" = some (some (.ref CL)))
    (aCA : PySem.W.nsIn K mainGlobals "AddressLoans" = some (some (.ref CA)))
    (aCC : PySem.W.nsIn K mainGlobals "CopyLoans" = some (some (.ref CC)))
    (aCN : PySem.W.nsIn K mainGlobals "NoEntry" = some (some (.ref CN)))
    (aCB : PySem.W.nsIn K mainGlobals "BadDeed" = some (some (.ref CB)))
    (aCQ : PySem.W.nsIn K mainGlobals "QuickError" = some (some (.ref CQ)))
    (pgCL : PySem.W.plainGet K CL Str.empty = true)
    (hdCL : PySem.W.hasDictIn K CL = true)
    (poCL : PySem.W.plainOver K CL = true)
    (saCL : PySem.W.findIn K (.ref CL) "__setattr__" = some (some (.builtin "object.__setattr__")))
    (mkCL : PySem.W.makesIn K CL = true)
    (kcCL : PySem.W.keepIn K (.ref CL) = true)
    (n0CL : PySem.W.findIn K (.ref CL) "_places" = some none)
    (n1CL : PySem.W.findIn K (.ref CL) "_targets" = some none)
    (n2CL : PySem.W.findIn K (.ref CL) "_roots" = some none)
    (n3CL : PySem.W.findIn K (.ref CL) "_old" = some none)
    (pgCA : PySem.W.plainGet K CA Str.empty = true)
    (hdCA : PySem.W.hasDictIn K CA = true)
    (poCA : PySem.W.plainOver K CA = true)
    (saCA : PySem.W.findIn K (.ref CA) "__setattr__" = some (some (.builtin "object.__setattr__")))
    (mkCA : PySem.W.makesIn K CA = true)
    (kcCA : PySem.W.keepIn K (.ref CA) = true)
    (n0CA : PySem.W.findIn K (.ref CA) "_ledger" = some none)
    (n1CA : PySem.W.findIn K (.ref CA) "_values" = some none)
    (pgCC : PySem.W.plainGet K CC Str.empty = true)
    (hdCC : PySem.W.hasDictIn K CC = true)
    (poCC : PySem.W.plainOver K CC = true)
    (saCC : PySem.W.findIn K (.ref CC) "__setattr__" = some (some (.builtin "object.__setattr__")))
    (mkCC : PySem.W.makesIn K CC = true)
    (kcCC : PySem.W.keepIn K (.ref CC) = true)
    (n0CC : PySem.W.findIn K (.ref CC) "_ledger" = some none)
    (n1CC : PySem.W.findIn K (.ref CC) "_values" = some none)
    (n2CC : PySem.W.findIn K (.ref CC) "_copies" = some none)
    (aLI : PySem.W.findIn K (.ref CL) "__init__" = some (some (.ref fLI)))
    (iLI : PySem.W.isFn K (.ref fLI) = true)
    (lLI : K.lookup fLI = some ⟨ocLI, odLI, .func (PySem.W.fnOf "__init__" "Ledger.__init__" (defArgs sLI) (defBody sLI) (defScope sLI) .none kVLI dcLI pmLI anLI cdLI ctLI), slLI⟩)
    (cLI : PySem.W.codeIn K cdLI "Ledger.__init__" = true)
    (kLI : PySem.W.keepIn K (.ref fLI) = true)
    (aLE : PySem.W.findIn K (.ref CL) "enter" = some (some (.ref fLE)))
    (iLE : PySem.W.isFn K (.ref fLE) = true)
    (lLE : K.lookup fLE = some ⟨ocLE, odLE, .func (PySem.W.fnOf "enter" "Ledger.enter" (defArgs sLE) (defBody sLE) (defScope sLE) .none kVLE dcLE pmLE anLE cdLE ctLE), slLE⟩)
    (cLE : PySem.W.codeIn K cdLE "Ledger.enter" = true)
    (kLE : PySem.W.keepIn K (.ref fLE) = true)
    (aLS : PySem.W.findIn K (.ref CL) "strike" = some (some (.ref fLS)))
    (iLS : PySem.W.isFn K (.ref fLS) = true)
    (lLS : K.lookup fLS = some ⟨ocLS, odLS, .func (PySem.W.fnOf "strike" "Ledger.strike" (defArgs sLS) (defBody sLS) (defScope sLS) .none kVLS dcLS pmLS anLS cdLS ctLS), slLS⟩)
    (cLS : PySem.W.codeIn K cdLS "Ledger.strike" = true)
    (kLS : PySem.W.keepIn K (.ref fLS) = true)
    (aLR : PySem.W.findIn K (.ref CL) "root_of" = some (some (.ref fLR)))
    (iLR : PySem.W.isFn K (.ref fLR) = true)
    (lLR : K.lookup fLR = some ⟨ocLR, odLR, .func (PySem.W.fnOf "root_of" "Ledger.root_of" (defArgs sLR) (defBody sLR) (defScope sLR) .none kVLR dcLR pmLR anLR cdLR ctLR), slLR⟩)
    (cLR : PySem.W.codeIn K cdLR "Ledger.root_of" = true)
    (kLR : PySem.W.keepIn K (.ref fLR) = true)
    (aLK : PySem.W.findIn K (.ref CL) "keys_on" = some (some (.ref fLK)))
    (iLK : PySem.W.isFn K (.ref fLK) = true)
    (lLK : K.lookup fLK = some ⟨ocLK, odLK, .func (PySem.W.fnOf "keys_on" "Ledger.keys_on" (defArgs sLK) (defBody sLK) (defScope sLK) .none kVLK dcLK pmLK anLK cdLK ctLK), slLK⟩)
    (cLK : PySem.W.codeIn K cdLK "Ledger.keys_on" = true)
    (kLK : PySem.W.keepIn K (.ref fLK) = true)
    (aAI : PySem.W.findIn K (.ref CA) "__init__" = some (some (.ref fAI)))
    (iAI : PySem.W.isFn K (.ref fAI) = true)
    (lAI : K.lookup fAI = some ⟨ocAI, odAI, .func (PySem.W.fnOf "__init__" "AddressLoans.__init__" (defArgs sAI) (defBody sAI) (defScope sAI) .none kVAI dcAI pmAI anAI cdAI ctAI), slAI⟩)
    (cAI : PySem.W.codeIn K cdAI "AddressLoans.__init__" = true)
    (kAI : PySem.W.keepIn K (.ref fAI) = true)
    (aAB : PySem.W.findIn K (.ref CA) "begin" = some (some (.ref fAB)))
    (iAB : PySem.W.isFn K (.ref fAB) = true)
    (lAB : K.lookup fAB = some ⟨ocAB, odAB, .func (PySem.W.fnOf "begin" "AddressLoans.begin" (defArgs sAB) (defBody sAB) (defScope sAB) .none kVAB dcAB pmAB anAB cdAB ctAB), slAB⟩)
    (cAB : PySem.W.codeIn K cdAB "AddressLoans.begin" = true)
    (kAB : PySem.W.keepIn K (.ref fAB) = true)
    (aAV : PySem.W.findIn K (.ref CA) "value_at" = some (some (.ref fAV)))
    (iAV : PySem.W.isFn K (.ref fAV) = true)
    (lAV : K.lookup fAV = some ⟨ocAV, odAV, .func (PySem.W.fnOf "value_at" "AddressLoans.value_at" (defArgs sAV) (defBody sAV) (defScope sAV) .none kVAV dcAV pmAV anAV cdAV ctAV), slAV⟩)
    (cAV : PySem.W.codeIn K cdAV "AddressLoans.value_at" = true)
    (kAV : PySem.W.keepIn K (.ref fAV) = true)
    (aAS : PySem.W.findIn K (.ref CA) "set_at" = some (some (.ref fAS)))
    (iAS : PySem.W.isFn K (.ref fAS) = true)
    (lAS : K.lookup fAS = some ⟨ocAS, odAS, .func (PySem.W.fnOf "set_at" "AddressLoans.set_at" (defArgs sAS) (defBody sAS) (defScope sAS) .none kVAS dcAS pmAS anAS cdAS ctAS), slAS⟩)
    (cAS : PySem.W.codeIn K cdAS "AddressLoans.set_at" = true)
    (kAS : PySem.W.keepIn K (.ref fAS) = true)
    (aAO : PySem.W.findIn K (.ref CA) "over" = some (some (.ref fAO)))
    (iAO : PySem.W.isFn K (.ref fAO) = true)
    (lAO : K.lookup fAO = some ⟨ocAO, odAO, .func (PySem.W.fnOf "over" "AddressLoans.over" (defArgs sAO) (defBody sAO) (defScope sAO) .none kVAO dcAO pmAO anAO cdAO ctAO), slAO⟩)
    (cAO : PySem.W.codeIn K cdAO "AddressLoans.over" = true)
    (kAO : PySem.W.keepIn K (.ref fAO) = true)
    (aAR : PySem.W.findIn K (.ref CA) "root" = some (some (.ref fAR)))
    (iAR : PySem.W.isFn K (.ref fAR) = true)
    (lAR : K.lookup fAR = some ⟨ocAR, odAR, .func (PySem.W.fnOf "root" "AddressLoans.root" (defArgs sAR) (defBody sAR) (defScope sAR) .none kVAR dcAR pmAR anAR cdAR ctAR), slAR⟩)
    (cAR : PySem.W.codeIn K cdAR "AddressLoans.root" = true)
    (kAR : PySem.W.keepIn K (.ref fAR) = true)
    (aAL : PySem.W.findIn K (.ref CA) "loans_on" = some (some (.ref fAL)))
    (iAL : PySem.W.isFn K (.ref fAL) = true)
    (lAL : K.lookup fAL = some ⟨ocAL, odAL, .func (PySem.W.fnOf "loans_on" "AddressLoans.loans_on" (defArgs sAL) (defBody sAL) (defScope sAL) .none kVAL dcAL pmAL anAL cdAL ctAL), slAL⟩)
    (cAL : PySem.W.codeIn K cdAL "AddressLoans.loans_on" = true)
    (kAL : PySem.W.keepIn K (.ref fAL) = true)
    (aCI : PySem.W.findIn K (.ref CC) "__init__" = some (some (.ref fCI)))
    (iCI : PySem.W.isFn K (.ref fCI) = true)
    (lCI : K.lookup fCI = some ⟨ocCI, odCI, .func (PySem.W.fnOf "__init__" "CopyLoans.__init__" (defArgs sCI) (defBody sCI) (defScope sCI) .none kVCI dcCI pmCI anCI cdCI ctCI), slCI⟩)
    (cCI : PySem.W.codeIn K cdCI "CopyLoans.__init__" = true)
    (kCI : PySem.W.keepIn K (.ref fCI) = true)
    (aCG : PySem.W.findIn K (.ref CC) "begin" = some (some (.ref fCG)))
    (iCG : PySem.W.isFn K (.ref fCG) = true)
    (lCG : K.lookup fCG = some ⟨ocCG, odCG, .func (PySem.W.fnOf "begin" "CopyLoans.begin" (defArgs sCB) (defBody sCB) (defScope sCB) .none kVCG dcCG pmCG anCG cdCG ctCG), slCG⟩)
    (cCG : PySem.W.codeIn K cdCG "CopyLoans.begin" = true)
    (kCG : PySem.W.keepIn K (.ref fCG) = true)
    (aCV : PySem.W.findIn K (.ref CC) "value_at" = some (some (.ref fCV)))
    (iCV : PySem.W.isFn K (.ref fCV) = true)
    (lCV : K.lookup fCV = some ⟨ocCV, odCV, .func (PySem.W.fnOf "value_at" "CopyLoans.value_at" (defArgs sCV) (defBody sCV) (defScope sCV) .none kVCV dcCV pmCV anCV cdCV ctCV), slCV⟩)
    (cCV : PySem.W.codeIn K cdCV "CopyLoans.value_at" = true)
    (kCV : PySem.W.keepIn K (.ref fCV) = true)
    (aCS : PySem.W.findIn K (.ref CC) "set_at" = some (some (.ref fCS)))
    (iCS : PySem.W.isFn K (.ref fCS) = true)
    (lCS : K.lookup fCS = some ⟨ocCS, odCS, .func (PySem.W.fnOf "set_at" "CopyLoans.set_at" (defArgs sCS) (defBody sCS) (defScope sCS) .none kVCS dcCS pmCS anCS cdCS ctCS), slCS⟩)
    (cCS : PySem.W.codeIn K cdCS "CopyLoans.set_at" = true)
    (kCS : PySem.W.keepIn K (.ref fCS) = true)
    (aCO : PySem.W.findIn K (.ref CC) "over" = some (some (.ref fCO)))
    (iCO : PySem.W.isFn K (.ref fCO) = true)
    (lCO : K.lookup fCO = some ⟨ocCO, odCO, .func (PySem.W.fnOf "over" "CopyLoans.over" (defArgs sCO) (defBody sCO) (defScope sCO) .none kVCO dcCO pmCO anCO cdCO ctCO), slCO⟩)
    (cCO : PySem.W.codeIn K cdCO "CopyLoans.over" = true)
    (kCO : PySem.W.keepIn K (.ref fCO) = true)
    (acell : PySem.W.nsIn K mainGlobals "cell_of" = some (some (.ref fcell)))
    (lcell : K.lookup fcell = some ⟨occell, odcell, .func (PySem.W.fnOf "cell_of" "cell_of" (defArgs sCell) (defBody sCell) (defScope sCell) .none kVcell dccell pmcell ancell cdcell ctcell), slcell⟩)
    (ccell : PySem.W.codeIn K cdcell "cell_of" = true)
    (kcell : PySem.W.keepIn K (.ref fcell) = true)
    (ado : PySem.W.nsIn K mainGlobals "do_deed" = some (some (.ref fdo)))
    (ldo : K.lookup fdo = some ⟨ocdo, oddo, .func (PySem.W.fnOf "do_deed" "do_deed" (defArgs sDo) (defBody sDo) (defScope sDo) .none kVdo dcdo pmdo ando cddo ctdo), sldo⟩)
    (cdo : PySem.W.codeIn K cddo "do_deed" = true)
    (kdo : PySem.W.keepIn K (.ref fdo) = true)
    (aPL : PySem.W.nsIn K mainGlobals "place_and_loans" = some (some (.ref fPL)))
    (lPL : K.lookup fPL = some ⟨ocPL, odPL, .func (PySem.W.fnOf "place_and_loans" "place_and_loans" (defArgs sPL) (defBody sPL) (defScope sPL) .none kVPL dcPL pmPL anPL cdPL ctPL), slPL⟩)
    (cPL : PySem.W.codeIn K cdPL "place_and_loans" = true)
    (kPL : PySem.W.keepIn K (.ref fPL) = true)
    (aplay : PySem.W.nsIn K mainGlobals "play" = some (some (.ref fplay)))
    (lplay : K.lookup fplay = some ⟨ocplay, odplay, .func (PySem.W.fnOf "play" "play" (defArgs sPlay) (defBody sPlay) (defScope sPlay) .none kVplay dcplay pmplay anplay cdplay ctplay), slplay⟩)
    (cplay : PySem.W.codeIn K cdplay "play" = true)
    (kplay : PySem.W.keepIn K (.ref fplay) = true)
    (aBW : PySem.W.nsIn K mainGlobals "both_ways" = some (some (.ref fBW)))
    (lBW : K.lookup fBW = some ⟨ocBW, odBW, .func (PySem.W.fnOf "both_ways" "both_ways" (defArgs sBW) (defBody sBW) (defScope sBW) .none kVBW dcBW pmBW anBW cdBW ctBW), slBW⟩)
    (cBW : PySem.W.codeIn K cdBW "both_ways" = true)
    (kBW : PySem.W.keepIn K (.ref fBW) = true)
    (aPR : PySem.W.nsIn K mainGlobals "parted_read" = some (some (.ref fPR)))
    (lPR : K.lookup fPR = some ⟨ocPR, odPR, .func (PySem.W.fnOf "parted_read" "parted_read" (defArgs sPR) (defBody sPR) (defScope sPR) .none kVPR dcPR pmPR anPR cdPR ctPR), slPR⟩)
    (cPR : PySem.W.codeIn K cdPR "parted_read" = true)
    (kPR : PySem.W.keepIn K (.ref fPR) = true)
    (aFU : PySem.W.nsIn K mainGlobals "first_untidy" = some (some (.ref fFU)))
    (lFU : K.lookup fFU = some ⟨ocFU, odFU, .func (PySem.W.fnOf "first_untidy" "first_untidy" (defArgs sFU) (defBody sFU) (defScope sFU) .none kVFU dcFU pmFU anFU cdFU ctFU), slFU⟩)
    (cFU : PySem.W.codeIn K cdFU "first_untidy" = true)
    (kFU : PySem.W.keepIn K (.ref fFU) = true)
    (aCE : PySem.W.nsIn K mainGlobals "chain_end" = some (some (.ref fCE)))
    (lCE : K.lookup fCE = some ⟨ocCE, odCE, .func (PySem.W.fnOf "chain_end" "chain_end" (defArgs sCE) (defBody sCE) (defScope sCE) .none kVCE dcCE pmCE anCE cdCE ctCE), slCE⟩)
    (cCE : PySem.W.codeIn K cdCE "chain_end" = true)
    (kCE : PySem.W.keepIn K (.ref fCE) = true)
    (aSur : PySem.W.nsIn K mainGlobals "surrounded" = some (some (.ref fSur)))
    (lSur : K.lookup fSur = some ⟨ocSur, odSur, .func (PySem.W.fnOf "surrounded" "surrounded" (defArgs sSur) (defBody sSur) (defScope sSur) .none kVSur dcSur pmSur anSur cdSur ctSur), slSur⟩)
    (cSur : PySem.W.codeIn K cdSur "surrounded" = true)
    (kSur : PySem.W.keepIn K (.ref fSur) = true)
    (apool : PySem.W.nsIn K mainGlobals "_law_pool" = some (some (.ref fpool)))
    (lpool : K.lookup fpool = some ⟨ocpool, odpool, .func (PySem.W.fnOf "_law_pool" "_law_pool" (defArgs sPool) (defBody sPool) (defScope sPool) .none kVpool dcpool pmpool anpool cdpool ctpool), slpool⟩)
    (cpool : PySem.W.codeIn K cdpool "_law_pool" = true)
    (kpool : PySem.W.keepIn K (.ref fpool) = true)
    (amix : PySem.W.nsIn K mainGlobals "_law_mixed" = some (some (.ref fmix)))
    (lmix : K.lookup fmix = some ⟨ocmix, odmix, .func (PySem.W.fnOf "_law_mixed" "_law_mixed" (defArgs sMix) (defBody sMix) (defScope sMix) .none kVmix dcmix pmmix anmix cdmix ctmix), slmix⟩)
    (cmix : PySem.W.codeIn K cdmix "_law_mixed" = true)
    (kmix : PySem.W.keepIn K (.ref fmix) = true)
    (adraw : PySem.W.nsIn K mainGlobals "_law_draw" = some (some (.ref fdraw)))
    (ldraw : K.lookup fdraw = some ⟨ocdraw, oddraw, .func (PySem.W.fnOf "_law_draw" "_law_draw" (defArgs sDraw) (defBody sDraw) (defScope sDraw) .none kVdraw dcdraw pmdraw andraw cddraw ctdraw), sldraw⟩)
    (cdraw : PySem.W.codeIn K cddraw "_law_draw" = true)
    (kdraw : PySem.W.keepIn K (.ref fdraw) = true)
    (aword : PySem.W.nsIn K mainGlobals "_law_word" = some (some (.ref fword)))
    (lword : K.lookup fword = some ⟨ocword, odword, .func (PySem.W.fnOf "_law_word" "_law_word" (defArgs sWord) (defBody sWord) (defScope sWord) .none kVword dcword pmword anword cdword ctword), slword⟩)
    (cword : PySem.W.codeIn K cdword "_law_word" = true)
    (kword : PySem.W.keepIn K (.ref fword) = true)
    (aisI : PySem.W.nsIn K mainGlobals "_law_is_int" = some (some (.ref fisI)))
    (lisI : K.lookup fisI = some ⟨ocisI, odisI, .func (PySem.W.fnOf "_law_is_int" "_law_is_int" (defArgs sIsI) (defBody sIsI) (defScope sIsI) .none kVisI dcisI pmisI anisI cdisI ctisI), slisI⟩)
    (cisI : PySem.W.codeIn K cdisI "_law_is_int" = true)
    (kisI : PySem.W.keepIn K (.ref fisI) = true)
    (asame : PySem.W.nsIn K mainGlobals "_law_same" = some (some (.ref fsame)))
    (lsame : K.lookup fsame = some ⟨ocsame, odsame, .func (PySem.W.fnOf "_law_same" "_law_same" (defArgs sSame) (defBody sSame) (defScope sSame) .none kVsame dcsame pmsame ansame cdsame ctsame), slsame⟩)
    (csame : PySem.W.codeIn K cdsame "_law_same" = true)
    (ksame : PySem.W.keepIn K (.ref fsame) = true)
    (aval : PySem.W.nsIn K mainGlobals "_law_value" = some (some (.ref fval)))
    (lval : K.lookup fval = some ⟨ocval, odval, .func (PySem.W.fnOf "_law_value" "_law_value" (defArgs sVal) (defBody sVal) (defScope sVal) .none kVval dcval pmval anval cdval ctval), slval⟩)
    (cval : PySem.W.codeIn K cdval "_law_value" = true)
    (kval : PySem.W.keepIn K (.ref fval) = true)
    (acells : PySem.W.nsIn K mainGlobals "_law_cells" = some (some (.ref fcells)))
    (lcells : K.lookup fcells = some ⟨occells, odcells, .func (PySem.W.fnOf "_law_cells" "_law_cells" (defArgs sCells) (defBody sCells) (defScope sCells) .none kVcells dccells pmcells ancells cdcells ctcells), slcells⟩)
    (ccells : PySem.W.codeIn K cdcells "_law_cells" = true)
    (kcells : PySem.W.keepIn K (.ref fcells) = true)
    (akey : PySem.W.nsIn K mainGlobals "_law_key" = some (some (.ref fkey)))
    (lkey : K.lookup fkey = some ⟨ockey, odkey, .func (PySem.W.fnOf "_law_key" "_law_key" (defArgs sKey) (defBody sKey) (defScope sKey) .none kVkey dckey pmkey ankey cdkey ctkey), slkey⟩)
    (ckey : PySem.W.codeIn K cdkey "_law_key" = true)
    (kkey : PySem.W.keepIn K (.ref fkey) = true)
    (adeeds : PySem.W.nsIn K mainGlobals "_law_deeds" = some (some (.ref fdeeds)))
    (ldeeds : K.lookup fdeeds = some ⟨ocdeeds, oddeeds, .func (PySem.W.fnOf "_law_deeds" "_law_deeds" (defArgs sDeeds) (defBody sDeeds) (defScope sDeeds) .none kVdeeds dcdeeds pmdeeds andeeds cddeeds ctdeeds), sldeeds⟩)
    (cdeeds : PySem.W.codeIn K cddeeds "_law_deeds" = true)
    (kdeeds : PySem.W.keepIn K (.ref fdeeds) = true)
    (aunh : PySem.W.nsIn K mainGlobals "_law_unheard" = some (some (.ref funh)))
    (lunh : K.lookup funh = some ⟨ocunh, odunh, .func (PySem.W.fnOf "_law_unheard" "_law_unheard" (defArgs sUnh) (defBody sUnh) (defScope sUnh) .none kVunh dcunh pmunh anunh cdunh ctunh), slunh⟩)
    (cunh : PySem.W.codeIn K cdunh "_law_unheard" = true)
    (kunh : PySem.W.keepIn K (.ref funh) = true)
    (astore : PySem.W.nsIn K mainGlobals "_law_store" = some (some (.ref fstore)))
    (lstore : K.lookup fstore = some ⟨ocstore, odstore, .func (PySem.W.fnOf "_law_store" "_law_store" (defArgs sStore) (defBody sStore) (defScope sStore) .none kVstore dcstore pmstore anstore cdstore ctstore), slstore⟩)
    (cstore : PySem.W.codeIn K cdstore "_law_store" = true)
    (kstore : PySem.W.keepIn K (.ref fstore) = true)
    (aroot : PySem.W.nsIn K mainGlobals "_law_root" = some (some (.ref froot)))
    (lroot : K.lookup froot = some ⟨ocroot, odroot, .func (PySem.W.fnOf "_law_root" "_law_root" (defArgs sRoot) (defBody sRoot) (defScope sRoot) .none kVroot dcroot pmroot anroot cdroot ctroot), slroot⟩)
    (croot : PySem.W.codeIn K cdroot "_law_root" = true)
    (kroot : PySem.W.keepIn K (.ref froot) = true)
    (aheld : PySem.W.nsIn K mainGlobals "_law_held" = some (some (.ref fheld)))
    (lheld : K.lookup fheld = some ⟨ocheld, odheld, .func (PySem.W.fnOf "_law_held" "_law_held" (defArgs sHeld) (defBody sHeld) (defScope sHeld) .none kVheld dcheld pmheld anheld cdheld ctheld), slheld⟩)
    (cheld : PySem.W.codeIn K cdheld "_law_held" = true)
    (kheld : PySem.W.keepIn K (.ref fheld) = true)
    (aput : PySem.W.nsIn K mainGlobals "_law_put" = some (some (.ref fput)))
    (lput : K.lookup fput = some ⟨ocput, odput, .func (PySem.W.fnOf "_law_put" "_law_put" (defArgs sPut) (defBody sPut) (defScope sPut) .none kVput dcput pmput anput cdput ctput), slput⟩)
    (cput : PySem.W.codeIn K cdput "_law_put" = true)
    (kput : PySem.W.keepIn K (.ref fput) = true)
    (aldo : PySem.W.nsIn K mainGlobals "_law_do" = some (some (.ref fldo)))
    (lldo : K.lookup fldo = some ⟨ocldo, odldo, .func (PySem.W.fnOf "_law_do" "_law_do" (defArgs sLDo) (defBody sLDo) (defScope sLDo) .none kVldo dcldo pmldo anldo cdldo ctldo), slldo⟩)
    (cldo : PySem.W.codeIn K cdldo "_law_do" = true)
    (kldo : PySem.W.keepIn K (.ref fldo) = true)
    (aplayed : PySem.W.nsIn K mainGlobals "_law_played" = some (some (.ref fplayed)))
    (lplayed : K.lookup fplayed = some ⟨ocplayed, odplayed, .func (PySem.W.fnOf "_law_played" "_law_played" (defArgs sPlayed) (defBody sPlayed) (defScope sPlayed) .none kVplayed dcplayed pmplayed anplayed cdplayed ctplayed), slplayed⟩)
    (cplayed : PySem.W.codeIn K cdplayed "_law_played" = true)
    (kplayed : PySem.W.keepIn K (.ref fplayed) = true)
    (atouch : PySem.W.nsIn K mainGlobals "_law_touch" = some (some (.ref ftouch)))
    (ltouch : K.lookup ftouch = some ⟨octouch, odtouch, .func (PySem.W.fnOf "_law_touch" "_law_touch" (defArgs sTouch) (defBody sTouch) (defScope sTouch) .none kVtouch dctouch pmtouch antouch cdtouch cttouch), sltouch⟩)
    (ctouch : PySem.W.codeIn K cdtouch "_law_touch" = true)
    (ktouch : PySem.W.keepIn K (.ref ftouch) = true)
    (alon : PySem.W.nsIn K mainGlobals "_law_on" = some (some (.ref flon)))
    (llon : K.lookup flon = some ⟨oclon, odlon, .func (PySem.W.fnOf "_law_on" "_law_on" (defArgs sLOn) (defBody sLOn) (defScope sLOn) .none kVlon dclon pmlon anlon cdlon ctlon), sllon⟩)
    (clon : PySem.W.codeIn K cdlon "_law_on" = true)
    (klon : PySem.W.keepIn K (.ref flon) = true)
    (alce : PySem.W.nsIn K mainGlobals "_law_chain_end" = some (some (.ref flce)))
    (llce : K.lookup flce = some ⟨oclce, odlce, .func (PySem.W.fnOf "_law_chain_end" "_law_chain_end" (defArgs sLCE) (defBody sLCE) (defScope sLCE) .none kVlce dclce pmlce anlce cdlce ctlce), sllce⟩)
    (clce : PySem.W.codeIn K cdlce "_law_chain_end" = true)
    (klce : PySem.W.keepIn K (.ref flce) = true)
    (aunt : PySem.W.nsIn K mainGlobals "_law_untidy" = some (some (.ref funt)))
    (lunt : K.lookup funt = some ⟨ocunt, odunt, .func (PySem.W.fnOf "_law_untidy" "_law_untidy" (defArgs sUnt) (defBody sUnt) (defScope sUnt) .none kVunt dcunt pmunt anunt cdunt ctunt), slunt⟩)
    (cunt : PySem.W.codeIn K cdunt "_law_untidy" = true)
    (kunt : PySem.W.keepIn K (.ref funt) = true)
    (atold : PySem.W.nsIn K mainGlobals "_law_told" = some (some (.ref ftold)))
    (ltold : K.lookup ftold = some ⟨octold, odtold, .func (PySem.W.fnOf "_law_told" "_law_told" (defArgs sTold) (defBody sTold) (defScope sTold) .none kVtold dctold pmtold antold cdtold cttold), sltold⟩)
    (ctold : PySem.W.codeIn K cdtold "_law_told" = true)
    (ktold : PySem.W.keepIn K (.ref ftold) = true)
    (adue : PySem.W.nsIn K mainGlobals "_law_due" = some (some (.ref fdue)))
    (ldue : K.lookup fdue = some ⟨ocdue, oddue, .func (PySem.W.fnOf "_law_due" "_law_due" (defArgs sDue) (defBody sDue) (defScope sDue) .none kVdue dcdue pmdue andue cddue ctdue), sldue⟩)
    (cdue : PySem.W.codeIn K cddue "_law_due" = true)
    (kdue : PySem.W.keepIn K (.ref fdue) = true)
    (amark : PySem.W.nsIn K mainGlobals "_law_mark_of" = some (some (.ref fmark)))
    (lmark : K.lookup fmark = some ⟨ocmark, odmark, .func (PySem.W.fnOf "_law_mark_of" "_law_mark_of" (defArgs sMark) (defBody sMark) (defScope sMark) .none kVmark dcmark pmmark anmark cdmark ctmark), slmark⟩)
    (cmark : PySem.W.codeIn K cdmark "_law_mark_of" = true)
    (kmark : PySem.W.keepIn K (.ref fmark) = true)
    (ast : PySem.W.nsIn K mainGlobals "_law_surrounded_told" = some (some (.ref fst)))
    (lst : K.lookup fst = some ⟨ocst, odst, .func (PySem.W.fnOf "_law_surrounded_told" "_law_surrounded_told" (defArgs sST) (defBody sST) (defScope sST) .none kVst dcst pmst anst cdst ctst), slst⟩)
    (cst : PySem.W.codeIn K cdst "_law_surrounded_told" = true)
    (kst : PySem.W.keepIn K (.ref fst) = true)
    (arf : PySem.W.nsIn K mainGlobals "_law_refused" = some (some (.ref frf)))
    (lrf : K.lookup frf = some ⟨ocrf, odrf, .func (PySem.W.fnOf "_law_refused" "_law_refused" (defArgs sRf) (defBody sRf) (defScope sRf) .none kVrf dcrf pmrf anrf cdrf ctrf), slrf⟩)
    (crf : PySem.W.codeIn K cdrf "_law_refused" = true)
    (krf : PySem.W.keepIn K (.ref frf) = true)
    (arb : PySem.W.nsIn K mainGlobals "_law_refused_base" = some (some (.ref frb)))
    (lrb : K.lookup frb = some ⟨ocrb, odrb, .func (PySem.W.fnOf "_law_refused_base" "_law_refused_base" (defArgs sRb) (defBody sRb) (defScope sRb) .none kVrb dcrb pmrb anrb cdrb ctrb), slrb⟩)
    (crb : PySem.W.codeIn K cdrb "_law_refused_base" = true)
    (krb : PySem.W.keepIn K (.ref frb) = true)
    (auf : PySem.W.nsIn K mainGlobals "_law_unfit" = some (some (.ref fuf)))
    (luf : K.lookup fuf = some ⟨ocuf, oduf, .func (PySem.W.fnOf "_law_unfit" "_law_unfit" (defArgs sUf) (defBody sUf) (defScope sUf) .none kVuf dcuf pmuf anuf cduf ctuf), sluf⟩)
    (cuf : PySem.W.codeIn K cduf "_law_unfit" = true)
    (kuf : PySem.W.keepIn K (.ref fuf) = true)
    (alaw : PySem.W.nsIn K mainGlobals "law" = some (some (.ref flaw)))
    (llaw : K.lookup flaw = some ⟨oclaw, odlaw, .func (PySem.W.fnOf "law" "law" (defArgs sLaw) (defBody sLaw) (defScope sLaw) .none kVlaw dclaw pmlaw anlaw cdlaw ctlaw), sllaw⟩)
    (claw : PySem.W.codeIn K cdlaw "law" = true)
    (klaw : PySem.W.keepIn K (.ref flaw) = true)
    (zlen : PySem.W.nsIn K mainGlobals "len" = some none)
    (zlist : PySem.W.nsIn K mainGlobals "list" = some none)
    (ztuple : PySem.W.nsIn K mainGlobals "tuple" = some none)
    (zrange : PySem.W.nsIn K mainGlobals "range" = some none)
    (zint : PySem.W.nsIn K mainGlobals "int" = some none)
    (zbool : PySem.W.nsIn K mainGlobals "bool" = some none)
    (zstr : PySem.W.nsIn K mainGlobals "str" = some none)
    (zisinstance : PySem.W.nsIn K mainGlobals "isinstance" = some none)
    (zenumerate : PySem.W.nsIn K mainGlobals "enumerate" = some none)
    (zdict : PySem.W.nsIn K mainGlobals "dict" = some none)
    (zsuper : PySem.W.nsIn K mainGlobals "super" = some none)
    (zall : PySem.W.nsIn K mainGlobals "all" = some none)
    (zValueError : PySem.W.nsIn K mainGlobals "ValueError" = some none)
    (x1CN : K.lookup CN = some (excClassObj nmCN qCN CN NCN bsCN bmCN true snCN subCN abCN colCN ddCN m0CN m1CN m2CN m3CN m5CN "ValueError.__new__"))
    (r1CN : PySem.HandSPX.refsVE bmCN = true)
    (x2CN : PySem.W.findIn K (.ref CN) "__setattr__" = some (some (.builtin "object.__setattr__")))
    (x3CN : PySem.W.findIn K (.ref CN) "name" = some none)
    (x4CN : PySem.W.findIn K (.ref CN) "__init__" = some (some (.ref fiCN)))
    (x5CN : PySem.W.typeIn K (.ref fiCN) = some (.type "function"))
    (x6CN : PySem.W.mroIn K CN (.ref CN) = some true)
    (x7CN : PySem.W.ks_superIn K CN CN "__init__" = some (some (.builtin "ValueError.__init__")))
    (x8CN : PySem.W.subIn K (.ref CN) (.type "ValueError") = some true)
    (xaCN : K.lookup fiCN = some ⟨xocCN, xodCN, .func (PySem.W.fnX "__init__" "NoEntry.__init__" (PySem.QkX.iA "name" p1CN p2CN) (PySem.QkX.iB "name" "there is no such entry" jCN a1CN a2CN a3CN a4CN a5CN a6CN q1CN q2CN q3CN q4CN) (PySem.QkX.iS "name") [("__class__", ccCN)] .none xkVCN xdcCN xpmCN xanCN (.ref cdaCN) xctCN), xslCN⟩)
    (xbCN : PySem.W.codeIn K (.ref cdaCN) "NoEntry.__init__" = true)
    (xcCN : K.lookup cdaCN = some ⟨yccCN, ycdCN, .fields yvsCN, yvs0CN⟩)
    (rdCN : yvsCN[2]? = some (.str fileCN tfCN))
    (reCN : ((theProg.main.file : Str) == fileCN) = true)
    (xfCN : K.lookup ccCN = some ⟨yclCN, yldCN, .cell (some (.ref CN)), yslCN⟩)
    (rgCN : PySem.QkX.HeOk "there is no such entry" jCN a1CN a2CN a3CN a4CN a5CN)
    (xhCN : PySem.W.keepIn K (.ref CN) = true)
    (xiCN : PySem.W.subIn K (.ref CN) (.type "BaseException") = some true)
    (xjCN : PySem.W.typeIn K (.ref CN) = some (.type "type"))
    (x1CB : K.lookup CB = some (excClassObj nmCB qCB CB NCB bsCB bmCB true snCB subCB abCB colCB ddCB m0CB m1CB m2CB m3CB m5CB "ValueError.__new__"))
    (r1CB : PySem.HandSPX.refsVE bmCB = true)
    (x2CB : PySem.W.findIn K (.ref CB) "__setattr__" = some (some (.builtin "object.__setattr__")))
    (x3CB : PySem.W.findIn K (.ref CB) "at" = some none)
    (x4CB : PySem.W.findIn K (.ref CB) "__init__" = some (some (.ref fiCB)))
    (x5CB : PySem.W.typeIn K (.ref fiCB) = some (.type "function"))
    (x6CB : PySem.W.mroIn K CB (.ref CB) = some true)
    (x7CB : PySem.W.ks_superIn K CB CB "__init__" = some (some (.builtin "ValueError.__init__")))
    (x8CB : PySem.W.subIn K (.ref CB) (.type "ValueError") = some true)
    (xaCB : K.lookup fiCB = some ⟨xocCB, xodCB, .func (PySem.W.fnX "__init__" "BadDeed.__init__" (PySem.QkX.iA "at" p1CB p2CB) (PySem.QkX.iB "at" "a deed does not fit" jCB a1CB a2CB a3CB a4CB a5CB a6CB q1CB q2CB q3CB q4CB) (PySem.QkX.iS "at") [("__class__", ccCB)] .none xkVCB xdcCB xpmCB xanCB (.ref cdaCB) xctCB), xslCB⟩)
    (xbCB : PySem.W.codeIn K (.ref cdaCB) "BadDeed.__init__" = true)
    (xcCB : K.lookup cdaCB = some ⟨yccCB, ycdCB, .fields yvsCB, yvs0CB⟩)
    (rdCB : yvsCB[2]? = some (.str fileCB tfCB))
    (reCB : ((theProg.main.file : Str) == fileCB) = true)
    (xfCB : K.lookup ccCB = some ⟨yclCB, yldCB, .cell (some (.ref CB)), yslCB⟩)
    (rgCB : PySem.QkX.HeOk "a deed does not fit" jCB a1CB a2CB a3CB a4CB a5CB)
    (xhCB : PySem.W.keepIn K (.ref CB) = true)
    (xiCB : PySem.W.subIn K (.ref CB) (.type "BaseException") = some true)
    (xjCB : PySem.W.typeIn K (.ref CB) = some (.type "type"))
    (x9 : PySem.W.nsIn K cStatics "thirdparty.any" = some none)
    (uNN : PySem.W.subIn K (.ref CN) (.ref CN) = some true)
    (uBB : PySem.W.subIn K (.ref CB) (.ref CB) = some true)
    (uBQ : PySem.W.subIn K (.ref CB) (.ref CQ) = some true)
    (uQE : PySem.W.subIn K (.ref CQ) (.type "BaseException") = some true)
    (tQ : PySem.W.typeIn K (.ref CQ) = some (.type "type"))
    (dhQ : PySem.W.hasDictIn K CQ = true)
    (dhN : PySem.W.hasDictIn K CN = true)
    (hns : PySem.W.subIn K (.ref CB) (.type "StopIteration") = some false)
    (dc : PySem.W.isClsIn K CB = true)
    (dg : PySem.W.findIn K (.ref CB) "__getattribute__" = some (some (.builtin "BaseException.__getattribute__")))
    (dk : PySem.W.findIn K (.ref CB) "__getattr__" = some none)
    (da : PySem.W.findIn K (.ref CB) "__class__" = some (some (.builtin "object.__class__")))
    (dn : PySem.W.specialIn K (.builtin "object.__class__") "__get__" = some (some (.builtin "getset_descriptor.__get__")))
    (dt : PySem.W.takesIn K (.builtin "object.__class__") = some true)
    (dm : PySem.W.mroIn K CB (.type "object") = some true)
    (dh : PySem.W.hasDictIn K CB = true)
    (kQ : PySem.W.kitOne K (.ref CB) (.ref CQ) = some true)
    (kN : PySem.W.kitOne K (.ref CB) (.ref CN) = some false)
    (kV : PySem.W.kitOne K (.ref CB) (.type "ValueError") = some true)
    (kB : PySem.W.kitOne K (.ref CB) (.ref CB) = some true) :
    ∃ fd : FuncData, (∀ (s : Shared) (v : Value), BindsTo s fd ⟨[v], []⟩ [("_law_script", v)]) ∧ ∀ base : Heap, K.In base → base.Ns mainGlobals mg → FnOk theProg w K mg base CX0 11 fa fd ["_law_script"] (spLaw K) := by
  have e := hfa.symm.trans (PySem.W.mg_of X G alaw)
  cases e
  refine ⟨PySem.W.fnOf "law" "law" (defArgs sLaw) (defBody sLaw) (defScope sLaw) .none kVlaw dclaw pmlaw anlaw cdlaw ctlaw, fun s v => .of_eq rfl, fun base _ _ => ?_⟩
  have FLI := fun_mk (st := sLI) lLI cLI kLI
  have bLI := FLI.binds (ps := ["self", "places"]) fun _ _ _ _ _ _ us hl => match us, hl with | [_, _], _ => rfl
  have FLE := fun_mk (st := sLE) lLE cLE kLE
  have bLE := FLE.binds (ps := ["self", "key", "target"]) fun _ _ _ _ _ _ us hl => match us, hl with | [_, _, _], _ => rfl
  have FLS := fun_mk (st := sLS) lLS cLS kLS
  have bLS := FLS.binds (ps := ["self", "key"]) fun _ _ _ _ _ _ us hl => match us, hl with | [_, _], _ => rfl
  have FLR := fun_mk (st := sLR) lLR cLR kLR
  have bLR := FLR.binds (ps := ["self", "cell"]) fun _ _ _ _ _ _ us hl => match us, hl with | [_, _], _ => rfl
  have FLK := fun_mk (st := sLK) lLK cLK kLK
  have bLK := FLK.binds (ps := ["self", "cell"]) fun _ _ _ _ _ _ us hl => match us, hl with | [_, _], _ => rfl
  have FAI := fun_mk (st := sAI) lAI cAI kAI
  have bAI := FAI.binds (ps := ["self", "places"]) fun _ _ _ _ _ _ us hl => match us, hl with | [_, _], _ => rfl
  have FAB := fun_mk (st := sAB) lAB cAB kAB
  have bAB := FAB.binds (ps := ["self", "key", "target"]) fun _ _ _ _ _ _ us hl => match us, hl with | [_, _, _], _ => rfl
  have FAV := fun_mk (st := sAV) lAV cAV kAV
  have bAV := FAV.binds (ps := ["self", "cell"]) fun _ _ _ _ _ _ us hl => match us, hl with | [_, _], _ => rfl
  have FAS := fun_mk (st := sAS) lAS cAS kAS
  have bAS := FAS.binds (ps := ["self", "cell", "value"]) fun _ _ _ _ _ _ us hl => match us, hl with | [_, _, _], _ => rfl
  have FAO := fun_mk (st := sAO) lAO cAO kAO
  have bAO := FAO.binds (ps := ["self", "key"]) fun _ _ _ _ _ _ us hl => match us, hl with | [_, _], _ => rfl
  have FAR := fun_mk (st := sAR) lAR cAR kAR
  have bAR := FAR.binds (ps := ["self", "cell"]) fun _ _ _ _ _ _ us hl => match us, hl with | [_, _], _ => rfl
  have FAL := fun_mk (st := sAL) lAL cAL kAL
  have bAL := FAL.binds (ps := ["self", "cell"]) fun _ _ _ _ _ _ us hl => match us, hl with | [_, _], _ => rfl
  have FCI := fun_mk (st := sCI) lCI cCI kCI
  have bCI := FCI.binds (ps := ["self", "places"]) fun _ _ _ _ _ _ us hl => match us, hl with | [_, _], _ => rfl
  have FCG := fun_mk (st := sCB) lCG cCG kCG
  have bCG := FCG.binds (ps := ["self", "key", "target"]) fun _ _ _ _ _ _ us hl => match us, hl with | [_, _, _], _ => rfl
  have FCV := fun_mk (st := sCV) lCV cCV kCV
  have bCV := FCV.binds (ps := ["self", "cell"]) fun _ _ _ _ _ _ us hl => match us, hl with | [_, _], _ => rfl
  have FCS := fun_mk (st := sCS) lCS cCS kCS
  have bCS := FCS.binds (ps := ["self", "cell", "value"]) fun _ _ _ _ _ _ us hl => match us, hl with | [_, _, _], _ => rfl
  have FCO := fun_mk (st := sCO) lCO cCO kCO
  have bCO := FCO.binds (ps := ["self", "key"]) fun _ _ _ _ _ _ us hl => match us, hl with | [_, _], _ => rfl
  have Fcell := fun_mk (st := sCell) lcell ccell kcell
  have bcell := Fcell.binds (ps := ["deed"]) fun _ _ _ _ _ _ us hl => match us, hl with | [_], _ => rfl
  have gcell := PySem.W.mg_of X G acell
  have Fdo := fun_mk (st := sDo) ldo cdo kdo
  have bdo := Fdo.binds (ps := ["loans", "at", "deed"]) fun _ _ _ _ _ _ us hl => match us, hl with | [_, _, _], _ => rfl
  have gdo := PySem.W.mg_of X G ado
  have FPL := fun_mk (st := sPL) lPL cPL kPL
  have bPL := FPL.binds (ps := ["loans", "at", "cell"]) fun _ _ _ _ _ _ us hl => match us, hl with | [_, _, _], _ => rfl
  have gPL := PySem.W.mg_of X G aPL
  have Fplay := fun_mk (st := sPlay) lplay cplay kplay
  have bplay := Fplay.binds (ps := ["loans", "deeds"]) fun _ _ _ _ _ _ us hl => match us, hl with | [_, _], _ => rfl
  have gplay := PySem.W.mg_of X G aplay
  have FBW := fun_mk (st := sBW) lBW cBW kBW
  have bBW := FBW.binds (ps := ["places", "deeds"]) fun _ _ _ _ _ _ us hl => match us, hl with | [_, _], _ => rfl
  have gBW := PySem.W.mg_of X G aBW
  have FPR := fun_mk (st := sPR) lPR cPR kPR
  have bPR := FPR.binds (ps := ["places", "deeds"]) fun _ _ _ _ _ _ us hl => match us, hl with | [_, _], _ => rfl
  have gPR := PySem.W.mg_of X G aPR
  have FFU := fun_mk (st := sFU) lFU cFU kFU
  have bFU := FFU.binds (ps := ["places", "deeds"]) fun _ _ _ _ _ _ us hl => match us, hl with | [_, _], _ => rfl
  have gFU := PySem.W.mg_of X G aFU
  have FCE := fun_mk (st := sCE) lCE cCE kCE
  have bCE := FCE.binds (ps := ["loans", "cell"]) fun _ _ _ _ _ _ us hl => match us, hl with | [_, _], _ => rfl
  have gCE := PySem.W.mg_of X G aCE
  have FSur := fun_mk (st := sSur) lSur cSur kSur
  have gSur := PySem.W.mg_of X G aSur
  have Fpool := fun_mk (st := sPool) lpool cpool kpool
  have bpool := Fpool.binds (ps := ["_law_script"]) fun _ _ _ _ _ _ us hl => match us, hl with | [_], _ => rfl
  have gpool := PySem.W.mg_of X G apool
  have Fmix := fun_mk (st := sMix) lmix cmix kmix
  have bmix := Fmix.binds (ps := ["_law_cell", "_law_turn", "_law_limit"]) fun _ _ _ _ _ _ us hl => match us, hl with | [_, _, _], _ => rfl
  have gmix := PySem.W.mg_of X G amix
  have Fdraw := fun_mk (st := sDraw) ldraw cdraw kdraw
  have bdraw := Fdraw.binds (ps := ["_law_pool_here", "_law_limit"]) fun _ _ _ _ _ _ us hl => match us, hl with | [_, _], _ => rfl
  have gdraw := PySem.W.mg_of X G adraw
  have Fword := fun_mk (st := sWord) lword cword kword
  have bword := Fword.binds (ps := ["_law_pool_here", "_law_first", "_law_signs", "_law_more"]) fun _ _ _ _ _ _ us hl => match us, hl with | [_, _, _, _], _ => rfl
  have gword := PySem.W.mg_of X G aword
  have FisI := fun_mk (st := sIsI) lisI cisI kisI
  have bisI := FisI.binds (ps := ["_law_thing"]) fun _ _ _ _ _ _ us hl => match us, hl with | [_], _ => rfl
  have gisI := PySem.W.mg_of X G aisI
  have Fsame := fun_mk (st := sSame) lsame csame ksame
  have bsame := Fsame.binds (ps := ["_law_mine", "_law_due_here"]) fun _ _ _ _ _ _ us hl => match us, hl with | [_, _], _ => rfl
  have gsame := PySem.W.mg_of X G asame
  have Fval := fun_mk (st := sVal) lval cval kval
  have bval := Fval.binds (ps := ["_law_pool_here"]) fun _ _ _ _ _ _ us hl => match us, hl with | [_], _ => rfl
  have gval := PySem.W.mg_of X G aval
  have Fcells := fun_mk (st := sCells) lcells ccells kcells
  have bcells := Fcells.binds (ps := ["_law_pool_here"]) fun _ _ _ _ _ _ us hl => match us, hl with | [_], _ => rfl
  have gcells := PySem.W.mg_of X G acells
  have Fkey := fun_mk (st := sKey) lkey ckey kkey
  have bkey := Fkey.binds (ps := ["_law_pool_here", "_law_made"]) fun _ _ _ _ _ _ us hl => match us, hl with | [_, _], _ => rfl
  have gkey := PySem.W.mg_of X G akey
  have Fdeeds := fun_mk (st := sDeeds) ldeeds cdeeds kdeeds
  have bdeeds := Fdeeds.binds (ps := ["_law_pool_here", "_law_places", "_law_bound", "_law_tidy"]) fun _ _ _ _ _ _ us hl => match us, hl with | [_, _, _, _], _ => rfl
  have gdeeds := PySem.W.mg_of X G adeeds
  have Funh := fun_mk (st := sUnh) lunh cunh kunh
  have bunh := Funh.binds (ps := ["_law_places", "_law_deeds_here"]) fun _ _ _ _ _ _ us hl => match us, hl with | [_, _], _ => rfl
  have gunh := PySem.W.mg_of X G aunh
  have Fstore := fun_mk (st := sStore) lstore cstore kstore
  have bstore := Fstore.binds (ps := ["_law_places"]) fun _ _ _ _ _ _ us hl => match us, hl with | [_], _ => rfl
  have gstore := PySem.W.mg_of X G astore
  have Froot := fun_mk (st := sRoot) lroot croot kroot
  have broot := Froot.binds (ps := ["_law_store_here", "_law_spot"]) fun _ _ _ _ _ _ us hl => match us, hl with | [_, _], _ => rfl
  have groot := PySem.W.mg_of X G aroot
  have Fheld := fun_mk (st := sHeld) lheld cheld kheld
  have bheld := Fheld.binds (ps := ["_law_store_here", "_law_spot", "_law_copies"]) fun _ _ _ _ _ _ us hl => match us, hl with | [_, _, _], _ => rfl
  have gheld := PySem.W.mg_of X G aheld
  have Fput := fun_mk (st := sPut) lput cput kput
  have bput := Fput.binds (ps := ["_law_store_here", "_law_spot", "_law_value_here", "_law_copies"]) fun _ _ _ _ _ _ us hl => match us, hl with | [_, _, _, _], _ => rfl
  have gput := PySem.W.mg_of X G aput
  have Fldo := fun_mk (st := sLDo) lldo cldo kldo
  have bldo := Fldo.binds (ps := ["_law_store_here", "_law_deed", "_law_copies"]) fun _ _ _ _ _ _ us hl => match us, hl with | [_, _, _], _ => rfl
  have gldo := PySem.W.mg_of X G aldo
  have Fplayed := fun_mk (st := sPlayed) lplayed cplayed kplayed
  have bplayed := Fplayed.binds (ps := ["_law_places", "_law_deeds_here", "_law_copies"]) fun _ _ _ _ _ _ us hl => match us, hl with | [_, _, _], _ => rfl
  have gplayed := PySem.W.mg_of X G aplayed
  have Ftouch := fun_mk (st := sTouch) ltouch ctouch ktouch
  have btouch := Ftouch.binds (ps := ["_law_deed"]) fun _ _ _ _ _ _ us hl => match us, hl with | [_], _ => rfl
  have gtouch := PySem.W.mg_of X G atouch
  have Flon := fun_mk (st := sLOn) llon clon klon
  have blon := Flon.binds (ps := ["_law_store_here", "_law_spot"]) fun _ _ _ _ _ _ us hl => match us, hl with | [_, _], _ => rfl
  have glon := PySem.W.mg_of X G alon
  have Flce := fun_mk (st := sLCE) llce clce klce
  have blce := Flce.binds (ps := ["_law_store_here", "_law_spot"]) fun _ _ _ _ _ _ us hl => match us, hl with | [_, _], _ => rfl
  have glce := PySem.W.mg_of X G alce
  have Funt := fun_mk (st := sUnt) lunt cunt kunt
  have bunt := Funt.binds (ps := ["_law_places", "_law_deeds_here"]) fun _ _ _ _ _ _ us hl => match us, hl with | [_, _], _ => rfl
  have gunt := PySem.W.mg_of X G aunt
  have Ftold := fun_mk (st := sTold) ltold ctold ktold
  have btold := Ftold.binds (ps := ["_law_place", "_law_way", "_law_value_here", "_law_deep"]) fun _ _ _ _ _ _ us hl => match us, hl with | [_, _, _, _], _ => rfl
  have gtold := PySem.W.mg_of X G atold
  have Fdue := fun_mk (st := sDue) ldue cdue kdue
  have bdue := Fdue.binds (ps := ["_law_places", "_law_deeds_here", "_law_value_here"]) fun _ _ _ _ _ _ us hl => match us, hl with | [_, _, _], _ => rfl
  have gdue := PySem.W.mg_of X G adue
  have Fmark := fun_mk (st := sMark) lmark cmark kmark
  have bmark := Fmark.binds (ps := ["_law_pool_here", "_law_places", "_law_deeds_here"]) fun _ _ _ _ _ _ us hl => match us, hl with | [_, _, _], _ => rfl
  have gmark := PySem.W.mg_of X G amark
  have Fst := fun_mk (st := sST) lst cst kst
  have bst := Fst.binds (ps := ["_law_places", "_law_deeds_here", "_law_value_here"]) fun _ _ _ _ _ _ us hl => match us, hl with | [_, _, _], _ => rfl
  have gst := PySem.W.mg_of X G ast
  have Frf := fun_mk (st := sRf) lrf crf krf
  have brf := Frf.binds (ps := ["_law_way", "_law_places", "_law_deeds_here", "_law_at"]) fun _ _ _ _ _ _ us hl => match us, hl with | [_, _, _, _], _ => rfl
  have grf := PySem.W.mg_of X G arf
  have Frb := fun_mk (st := sRb) lrb crb krb
  have brb := Frb.binds (ps := ["_law_places", "_law_deeds_here"]) fun _ _ _ _ _ _ us hl => match us, hl with | [_, _], _ => rfl
  have grb := PySem.W.mg_of X G arb
  have Fuf := fun_mk (st := sUf) luf cuf kuf
  have buf := Fuf.binds (ps := ["_law_pool_here", "_law_places", "_law_deeds_here"]) fun _ _ _ _ _ _ us hl => match us, hl with | [_, _, _], _ => rfl
  have guf := PySem.W.mg_of X G auf
  have Flaw := fun_mk (st := sLaw) llaw claw klaw
  have blaw := Flaw.binds (ps := ["_law_script"]) fun _ _ _ _ _ _ us hl => match us, hl with | [_], _ => rfl
  have glaw := PySem.W.mg_of X G alaw
  have gCL := PySem.W.mg_of X G aCL
  have gCA := PySem.W.mg_of X G aCA
  have gCC := PySem.W.mg_of X G aCC
  have gCN := PySem.W.mg_of X G aCN
  have gCB := PySem.W.mg_of X G aCB
  have gCQ := PySem.W.mg_of X G aCQ
  have g_len := PySem.W.mg_none_of X G zlen
  have g_list := PySem.W.mg_none_of X G zlist
  have g_tuple := PySem.W.mg_none_of X G ztuple
  have g_range := PySem.W.mg_none_of X G zrange
  have g_int := PySem.W.mg_none_of X G zint
  have g_bool := PySem.W.mg_none_of X G zbool
  have g_str := PySem.W.mg_none_of X G zstr
  have g_isinstance := PySem.W.mg_none_of X G zisinstance
  have g_enumerate := PySem.W.mg_none_of X G zenumerate
  have g_dict := PySem.W.mg_none_of X G zdict
  have g_super := PySem.W.mg_none_of X G zsuper
  have g_all := PySem.W.mg_none_of X G zall
  have g_ValueError := PySem.W.mg_none_of X G zValueError
  have clsCL : Cls K CL := ⟨pgCL, hdCL, poCL, saCL⟩
  have clsCA : Cls K CA := ⟨pgCA, hdCA, poCA, saCA⟩
  have clsCC : Cls K CC := ⟨pgCC, hdCC, poCC, saCC⟩
  have TL : LedT K CL := ⟨clsCL, n0CL, n1CL, n2CL, n3CL⟩
  have TA : AdrT K mg CA CL := ⟨clsCA, n0CA, n1CA, gCL, g_dict⟩
  have TC : CopT K mg CC CL := ⟨clsCC, n0CC, n1CC, n2CC, gCL, g_dict⟩
  have ECN : NoE theProg K mg CN fiCN := ⟨⟨⟨_, _, _, _, _, _, _, _, _, _, _, _, _, _, _, x1CN, r1CN⟩, x2CN, x3CN, x4CN, x5CN, x6CN, x7CN, x8CN, x9, (.inr rfl), ⟨_, _, _, _, _, _, _, _, _, _, _, _, _, _, _, _, _, _, _, _, _, _, _, _, _, _, _, _, _, _, _, _, xaCN, xbCN, xcCN, rdCN, reCN, noSuper, xfCN, rgCN⟩⟩, gCN, g_super, xhCN, xiCN, xjCN⟩
  have ECB : BadE theProg K mg CB fiCB := ⟨⟨⟨_, _, _, _, _, _, _, _, _, _, _, _, _, _, _, x1CB, r1CB⟩, x2CB, x3CB, x4CB, x5CB, x6CB, x7CB, x8CB, x9, (.inl rfl), ⟨_, _, _, _, _, _, _, _, _, _, _, _, _, _, _, _, _, _, _, _, _, _, _, _, _, _, _, _, _, _, _, _, xaCB, xbCB, xcCB, rdCB, reCB, noSuper, xfCB, rgCB⟩⟩, gCB, g_super, xhCB, xiCB, xjCB⟩
  have eN := PySem.W.exm_ref xiCN dhN xjCN uNN
  have eB := PySem.W.exm_ref xiCB dh xjCB uBB
  have eQ := PySem.W.exm_ref uQE dhQ tQ uBQ
  have LM : LedM K CL fLE fLS fLR fLK _ _ _ _ := ⟨FLE, FLS, FLR, FLK, bLE, bLS, bLR, bLK, ⟨aLE, iLE, kLE⟩, ⟨aLS, iLS, kLS⟩, ⟨aLR, iLR, kLR⟩, ⟨aLK, iLK, kLK⟩⟩
  have MkL : Mk K CL fLI := ⟨mkCL, aLI, iLI, kcCL⟩
  have NA : NewM theProg w K mg base (AddrI CA CL) Sto.init fAI _ "AddressLoans" := ⟨ok_AI FAI TA TL FLI bLI MkL, ⟨mkCA, aAI, iAI, kcCA⟩, bAI, gCA⟩
  have NC : NewM theProg w K mg base (CopyI CC CL) Cto.init fCI _ "CopyLoans" := ⟨ok_CI FCI TC TL FLI bLI MkL, ⟨mkCC, aCI, iCI, kcCC⟩, bCI, gCC⟩
  have LA : LoM theProg w K mg base (AddrI CA CL) CN fAB fAV fAS fAO _ _ _ _ := ⟨clsCA, ok_AB FAB TA TL ECN LM, (ok_AV FAV TA TL ECN LM).mono (by decide), (ok_AS FAS TA TL ECN LM).mono (by decide), (ok_AO FAO TA TL ECN LM).mono (by decide), bAB, bAV, bAS, bAO, ⟨aAB, iAB, kAB⟩, ⟨aAV, iAV, kAV⟩, ⟨aAS, iAS, kAS⟩, ⟨aAO, iAO, kAO⟩⟩
  have LC : LoM theProg w K mg base (CopyI CC CL) CN fCG fCV fCS fCO _ _ _ _ := ⟨clsCC, ok_CB FCG TC TL ECN LM FCV bCV ⟨aCV, iCV, kCV⟩, (ok_CV FCV TC TL ECN LM).mono (by decide), (ok_CS FCS TC TL ECN LM).mono (by decide), ok_CO FCO TC TL ECN LM FCS bCS ⟨aCS, iCS, kCS⟩, bCG, bCV, bCS, bCO, ⟨aCG, iCG, kCG⟩, ⟨aCV, iCV, kCV⟩, ⟨aCS, iCS, kCS⟩, ⟨aCO, iCO, kCO⟩⟩
  have PA : PlM theProg w K mg base (AddrI CA CL) CN fAR fAL _ _ := ⟨clsCA, (ok_AR FAR TA TL ECN LM).mono (by decide), ok_AL FAL TA TL ECN LM, bAR, bAL, ⟨aAR, iAR, kAR⟩, ⟨aAL, iAL, kAL⟩⟩
  have Mcell : CallM theProg w K mg base CX0 1 fcell _ "cell_of" ["deed"] (spCell K) := ⟨ok_cell Fcell, bcell, gcell, kcell⟩
  have MdoA : CallM theProg w K mg base (L2.CX theProg w) 4 fdo _ "do_deed" ["loans", "at", "deed"] (spDo K (AddrI CA CL) CB) := ⟨ok_do Fdo ECN ECB eN LA, bdo, gdo, kdo⟩
  have MdoC : CallM theProg w K mg base (L2.CX theProg w) 4 fdo _ "do_deed" ["loans", "at", "deed"] (spDo K (CopyI CC CL) CB) := ⟨ok_do Fdo ECN ECB eN LC, bdo, gdo, kdo⟩
  have MPL : CallM theProg w K mg base (L2.CX theProg w) 4 fPL _ "place_and_loans" ["loans", "at", "cell"] (spPL (AddrI CA CL) CB) := ⟨ok_PL FPL ECN ECB eN PA, bPL, gPL, kPL⟩
  have Mplay : CallM theProg w K mg base (L2.CX theProg w) 5 fplay _ "play" ["loans", "deeds"] (spPlay K CA CL) := ⟨ok_play Fplay MdoA.G kdo bdo gdo g_enumerate, bplay, gplay, kplay⟩
  have MFU : CallM theProg w K mg base (L2.CX theProg w) 5 fFU _ "first_untidy" ["places", "deeds"] (spFU K CB) := ⟨ok_FU FFU NA MPL Mcell MdoA g_enumerate, bFU, gFU, kFU⟩
  have MCE : CallM theProg w K mg base CX0 4 fCE _ "chain_end" ["loans", "cell"] (spCE CA CL) := ⟨ok_CE FCE PA, bCE, gCE, kCE⟩
  have MSur : KwM theProg w K mg base 6 fSur _ "surrounded" ["places", "deeds", "mark"] (spSur K CB) 2 ["mark"] := ⟨ok_Sur FSur NA MFU Mplay Mcell MCE g_list, kb_mark FSur, gSur, kSur⟩
  have MBW : GenM theProg w K mg base 5 fBW _ "both_ways" ["places", "deeds"] (spBW K CB) := ⟨ok_BW (fQ := fdo) (dQ := PySem.W.fnOf "do_deed" "do_deed" (defArgs sDo) (defBody sDo) (defScope sDo) .none kVdo dcdo pmdo ando cddo ctdo) FBW NA NC MdoA MdoC g_enumerate, bBW, gBW, kBW⟩
  have MPR : CallM theProg w K mg base (L2.CX theProg w) 7 fPR _ "parted_read" ["places", "deeds"] (spPR K CB) := ⟨ok_PR FPR MBW hns, bPR, gPR, kPR⟩
  have Mpool : CallM theProg w K mg base CX0 1 fpool _ "_law_pool" ["_law_script"] (spPool K) := ⟨ok_pool Fpool g_list, bpool, gpool, kpool⟩
  have Mmix : CallM theProg w K mg base CX0 1 fmix _ "_law_mixed" ["_law_cell", "_law_turn", "_law_limit"] spMix := ⟨ok_mix Fmix g_int, bmix, gmix, kmix⟩
  have Mdraw : CallM theProg w K mg base CX0 2 fdraw _ "_law_draw" ["_law_pool_here", "_law_limit"] spDraw := ⟨ok_draw Fdraw Mmix g_int g_len, bdraw, gdraw, kdraw⟩
  have MisI : CallM theProg w K mg base CX0 1 fisI _ "_law_is_int" ["_law_thing"] spIsI := ⟨ok_isI FisI g_isinstance g_int g_bool, bisI, gisI, kisI⟩
  have Msame : CallM theProg w K mg base CX0 4 fsame _ "_law_same" ["_law_mine", "_law_due_here"] (spSame K 3) := ⟨ok_same Fsame MisI bsame gsame g_isinstance g_int g_bool g_str g_list g_tuple g_len g_range 3, bsame, gsame, ksame⟩
  have Mword : CallM theProg w K mg base CX0 3 fword _ "_law_word" ["_law_pool_here", "_law_first", "_law_signs", "_law_more"] spWord := ⟨ok_word Fword Mdraw g_len g_range, bword, gword, kword⟩
  have Mval : CallM theProg w K mg base CX0 3 fval _ "_law_value" ["_law_pool_here"] spVal4 := ⟨ok_val Fval Mdraw g_range, bval, gval, kval⟩
  have Mcells : CallM theProg w K mg base CX0 4 fcells _ "_law_cells" ["_law_pool_here"] (spCells K) := ⟨ok_cells Fcells Mdraw Mval g_range, bcells, gcells, kcells⟩
  have Mkey : CallM theProg w K mg base CX0 3 fkey _ "_law_key" ["_law_pool_here", "_law_made"] spKey := ⟨ok_key Fkey Mdraw g_str, bkey, gkey, kkey⟩
  have Mdeeds : CallM theProg w K mg base CX0 4 fdeeds _ "_law_deeds" ["_law_pool_here", "_law_places", "_law_bound", "_law_tidy"] (spDeeds K) := ⟨ok_deeds Fdeeds Mdraw Mval Mkey g_len g_range, bdeeds, gdeeds, kdeeds⟩
  have Munh : CallM theProg w K mg base CX0 1 funh _ "_law_unheard" ["_law_places", "_law_deeds_here"] (spUnh K) := ⟨ok_unh Funh g_len g_range, bunh, gunh, kunh⟩
  have Mstore : CallM theProg w K mg base CX0 1 fstore _ "_law_store" ["_law_places"] (spStore K) := ⟨ok_store Fstore, bstore, gstore, kstore⟩
  have Mroot : CallM theProg w K mg base CX0 1 froot _ "_law_root" ["_law_store_here", "_law_spot"] spRoot := ⟨ok_root Froot, broot, groot, kroot⟩
  have Mheld : CallM theProg w K mg base CX0 2 fheld _ "_law_held" ["_law_store_here", "_law_spot", "_law_copies"] spHeld := ⟨ok_held Fheld Mroot, bheld, gheld, kheld⟩
  have Mput : CallM theProg w K mg base CX0 2 fput _ "_law_put" ["_law_store_here", "_law_spot", "_law_value_here", "_law_copies"] spPut := ⟨ok_put Fput Mroot, bput, gput, kput⟩
  have Mldo : CallM theProg w K mg base CX0 3 fldo _ "_law_do" ["_law_store_here", "_law_deed", "_law_copies"] (spLDo K) := ⟨ok_ldo Fldo Mroot Mheld Mput, bldo, gldo, kldo⟩
  have Mplayed : CallM theProg w K mg base CX0 4 fplayed _ "_law_played" ["_law_places", "_law_deeds_here", "_law_copies"] (spPlayed K) := ⟨ok_played Fplayed Mstore Mldo, bplayed, gplayed, kplayed⟩
  have Mtouch : CallM theProg w K mg base CX0 1 ftouch _ "_law_touch" ["_law_deed"] (spCell K) := ⟨ok_touch Ftouch, btouch, gtouch, ktouch⟩
  have Mlon : CallM theProg w K mg base CX0 1 flon _ "_law_on" ["_law_store_here", "_law_spot"] spLOn := ⟨ok_lon Flon, blon, glon, klon⟩
  have Mlce : CallM theProg w K mg base CX0 2 flce _ "_law_chain_end" ["_law_store_here", "_law_spot"] spLCE := ⟨ok_lce Flce Mlon g_len g_range, blce, glce, klce⟩
  have Munt : CallM theProg w K mg base CX0 4 funt _ "_law_untidy" ["_law_places", "_law_deeds_here"] (spUnt K) := ⟨ok_unt Funt Mstore Mldo Mlon Mtouch g_len g_range, bunt, gunt, kunt⟩
  have Mtold : CallM theProg w K mg base CX0 1 ftold _ "_law_told" ["_law_place", "_law_way", "_law_value_here", "_law_deep"] (spTold K) := ⟨ok_told Ftold, btold, gtold, ktold⟩
  have Mdue : CallM theProg w K mg base CX0 5 fdue _ "_law_due" ["_law_places", "_law_deeds_here", "_law_value_here"] (spDue K) := ⟨ok_due Fdue Munt Mplayed Mtouch Mlce, bdue, gdue, kdue⟩
  have Mmark : CallM theProg w K mg base CX0 4 fmark _ "_law_mark_of" ["_law_pool_here", "_law_places", "_law_deeds_here"] (spMark K) := ⟨ok_mark Fmark Mdraw Mword Munh, bmark, gmark, kmark⟩
  have Mst : CallM theProg w K mg base CX0 9 fst _ "_law_surrounded_told" ["_law_places", "_law_deeds_here", "_law_value_here"] (spST K) := ⟨ok_st Fst MSur MFU MPR MBW Munt Mdue Msame g_len g_list g_tuple, bst, gst, kst⟩
  have ZI : CallZ theProg w K mg base 1 fisI _ "_law_is_int" ["_law_thing"] spIsI := ⟨ok_isIZ FisI g_isinstance g_int g_bool, bisI, gisI, kisI⟩
  have ZS : CallZ theProg w K mg base 2 fsame _ "_law_same" ["_law_mine", "_law_due_here"] spIs2 := ⟨ok_sameZ Fsame ZI g_isinstance g_int g_bool, bsame, gsame, ksame⟩
  have CtB : CatchB K mg CB CQ CN := ⟨gCB, eB, eQ, ⟨dc, dg, dk, xiCB, da, dn, dt, dm⟩, ⟨dg, dk, xiCB, dh⟩, x3CB, kQ, kN, kV, kB⟩
  have Mrf : CallM theProg w K mg base CX0 9 frf _ "_law_refused" ["_law_way", "_law_places", "_law_deeds_here", "_law_at"] (spRf K) := ⟨ok_rf Frf CtB gCQ gCN g_ValueError g_isinstance MSur MFU MPR ZS, brf, grf, krf⟩
  have Mrb : CallM theProg w K mg base CX0 9 frb _ "_law_refused_base" ["_law_places", "_law_deeds_here"] (spRb K) := ⟨ok_rb Frb CtB gCQ g_isinstance MSur, brb, grb, krb⟩
  have Muf : CallM theProg w K mg base CX0 10 fuf _ "_law_unfit" ["_law_pool_here", "_law_places", "_law_deeds_here"] (spUf K) := ⟨ok_uf Fuf Mdraw Mrf Mrb g_len g_all g_range, buf, guf, kuf⟩
  exact ok_law Flaw Mpool Mcells Mdraw Mdeeds Mval Mtold Mst Mmark Muf Munh g_len g_range
end Qk

/-! part W15 -/
set_option Elab.async false
open PySem PySem.W PyProof.Rows
set_option maxRecDepth 100000 in
set_option maxHeartbeats 0 in
theorem PySem.Challenge.cw_quickways_k15_whole_untidy_deeds_are_par_holds : PySem.Challenge.rw_quickways_k15_whole_untidy_deeds_are_par.Holds := by
  w_on; o_law; k_head; (case hw => w_witness2)
  k_fill
  refine L2.walk_ofB (l := PySem.Challenge.rw_quickways_k15_whole_untidy_deeds_are_par) (n := 63) (k := 11) (x := "_law_script") (CX := fun _ => L2.CX0) (sp := fun w => Qk.spLaw _) rfl (by decide) rfl ⟨rfl, by decide, by decide⟩ (fun w h Y => PySem.W.kIn_of Y) ?F (fun _ _ a ns _ _ _ hS => ⟨a, ns, rfl, hS, fun _ => rfl⟩) (fun _ _ _ _ _ z => z)
  case F =>
    intro w mg fa h KX G hmg
    refine' Qk.all_mk KX G hmg ?aCL ?aCA ?aCC ?aCN ?aCB ?aCQ ?pgCL ?hdCL ?poCL ?saCL ?mkCL ?kcCL ?n0CL ?n1CL ?n2CL ?n3CL ?pgCA ?hdCA ?poCA ?saCA ?mkCA ?kcCA ?n0CA ?n1CA ?pgCC ?hdCC ?poCC ?saCC ?mkCC ?kcCC ?n0CC ?n1CC ?n2CC ?aLI ?iLI ?lLI ?cLI ?kLI ?aLE ?iLE ?lLE ?cLE ?kLE ?aLS ?iLS ?lLS ?cLS ?kLS ?aLR ?iLR ?lLR ?cLR ?kLR ?aLK ?iLK ?lLK ?cLK ?kLK ?aAI ?iAI ?lAI ?cAI ?kAI ?aAB ?iAB ?lAB ?cAB ?kAB ?aAV ?iAV ?lAV ?cAV ?kAV ?aAS ?iAS ?lAS ?cAS ?kAS ?aAO ?iAO ?lAO ?cAO ?kAO ?aAR ?iAR ?lAR ?cAR ?kAR ?aAL ?iAL ?lAL ?cAL ?kAL ?aCI ?iCI ?lCI ?cCI ?kCI ?aCG ?iCG ?lCG ?cCG ?kCG ?aCV ?iCV ?lCV ?cCV ?kCV ?aCS ?iCS ?lCS ?cCS ?kCS ?aCO ?iCO ?lCO ?cCO ?kCO ?acell ?lcell ?ccell ?kcell ?ado ?ldo ?cdo ?kdo ?aPL ?lPL ?cPL ?kPL ?aplay ?lplay ?cplay ?kplay ?aBW ?lBW ?cBW ?kBW ?aPR ?lPR ?cPR ?kPR ?aFU ?lFU ?cFU ?kFU ?aCE ?lCE ?cCE ?kCE ?aSur ?lSur ?cSur ?kSur ?apool ?lpool ?cpool ?kpool ?amix ?lmix ?cmix ?kmix ?adraw ?ldraw ?cdraw ?kdraw ?aword ?lword ?cword ?kword ?aisI ?lisI ?cisI ?kisI ?asame ?lsame ?csame ?ksame ?aval ?lval ?cval ?kval ?acells ?lcells ?ccells ?kcells ?akey ?lkey ?ckey ?kkey ?adeeds ?ldeeds ?cdeeds ?kdeeds ?aunh ?lunh ?cunh ?kunh ?astore ?lstore ?cstore ?kstore ?aroot ?lroot ?croot ?kroot ?aheld ?lheld ?cheld ?kheld ?aput ?lput ?cput ?kput ?aldo ?lldo ?cldo ?kldo ?aplayed ?lplayed ?cplayed ?kplayed ?atouch ?ltouch ?ctouch ?ktouch ?alon ?llon ?clon ?klon ?alce ?llce ?clce ?klce ?aunt ?lunt ?cunt ?kunt ?atold ?ltold ?ctold ?ktold ?adue ?ldue ?cdue ?kdue ?amark ?lmark ?cmark ?kmark ?ast ?lst ?cst ?kst ?arf ?lrf ?crf ?krf ?arb ?lrb ?crb ?krb ?auf ?luf ?cuf ?kuf ?alaw ?llaw ?claw ?klaw ?zlen ?zlist ?ztuple ?zrange ?zint ?zbool ?zstr ?zisinstance ?zenumerate ?zdict ?zsuper ?zall ?zValueError ?x1CN ?r1CN ?x2CN ?x3CN ?x4CN ?x5CN ?x6CN ?x7CN ?x8CN ?xaCN ?xbCN ?xcCN ?rdCN ?reCN ?xfCN ?rgCN ?xhCN ?xiCN ?xjCN ?x1CB ?r1CB ?x2CB ?x3CB ?x4CB ?x5CB ?x6CB ?x7CB ?x8CB ?xaCB ?xbCB ?xcCB ?rdCB ?reCB ?xfCB ?rgCB ?xhCB ?xiCB ?xjCB ?x9 ?uNN ?uBB ?uBQ ?uQE ?tQ ?dhQ ?dhN ?hns ?dc ?dg ?dk ?da ?dn ?dt ?dm ?dh ?kQ ?kN ?kV ?kB
    (case aCL => k_is)
    (case aCA => k_is)
    (case aCC => k_is)
    (case aCN => k_is)
    (case aCB => k_is)
    (case aCQ => k_is)
    (case pgCL => k_is)
    (case hdCL => k_is)
    (case poCL => k_is)
    (case saCL => k_is)
    (case mkCL => k_is)
    (case kcCL => k_is)
    (case n0CL => k_is)
    (case n1CL => k_is)
    (case n2CL => k_is)
    (case n3CL => k_is)
    (case pgCA => k_is)
    (case hdCA => k_is)
    (case poCA => k_is)
    (case saCA => k_is)
    (case mkCA => k_is)
    (case kcCA => k_is)
    (case n0CA => k_is)
    (case n1CA => k_is)
    (case pgCC => k_is)
    (case hdCC => k_is)
    (case poCC => k_is)
    (case saCC => k_is)
    (case mkCC => k_is)
    (case kcCC => k_is)
    (case n0CC => k_is)
    (case n1CC => k_is)
    (case n2CC => k_is)
    (case aLI => k_is)
    (case iLI => k_is)
    (case lLI => k_is)
    (case cLI => k_is)
    (case kLI => k_is)
    (case aLE => k_is)
    (case iLE => k_is)
    (case lLE => k_is)
    (case cLE => k_is)
    (case kLE => k_is)
    (case aLS => k_is)
    (case iLS => k_is)
    (case lLS => k_is)
    (case cLS => k_is)
    (case kLS => k_is)
    (case aLR => k_is)
    (case iLR => k_is)
    (case lLR => k_is)
    (case cLR => k_is)
    (case kLR => k_is)
    (case aLK => k_is)
    (case iLK => k_is)
    (case lLK => k_is)
    (case cLK => k_is)
    (case kLK => k_is)
    (case aAI => k_is)
    (case iAI => k_is)
    (case lAI => k_is)
    (case cAI => k_is)
    (case kAI => k_is)
    (case aAB => k_is)
    (case iAB => k_is)
    (case lAB => k_is)
    (case cAB => k_is)
    (case kAB => k_is)
    (case aAV => k_is)
    (case iAV => k_is)
    (case lAV => k_is)
    (case cAV => k_is)
    (case kAV => k_is)
    (case aAS => k_is)
    (case iAS => k_is)
    (case lAS => k_is)
    (case cAS => k_is)
    (case kAS => k_is)
    (case aAO => k_is)
    (case iAO => k_is)
    (case lAO => k_is)
    (case cAO => k_is)
    (case kAO => k_is)
    (case aAR => k_is)
    (case iAR => k_is)
    (case lAR => k_is)
    (case cAR => k_is)
    (case kAR => k_is)
    (case aAL => k_is)
    (case iAL => k_is)
    (case lAL => k_is)
    (case cAL => k_is)
    (case kAL => k_is)
    (case aCI => k_is)
    (case iCI => k_is)
    (case lCI => k_is)
    (case cCI => k_is)
    (case kCI => k_is)
    (case aCG => k_is)
    (case iCG => k_is)
    (case lCG => k_is)
    (case cCG => k_is)
    (case kCG => k_is)
    (case aCV => k_is)
    (case iCV => k_is)
    (case lCV => k_is)
    (case cCV => k_is)
    (case kCV => k_is)
    (case aCS => k_is)
    (case iCS => k_is)
    (case lCS => k_is)
    (case cCS => k_is)
    (case kCS => k_is)
    (case aCO => k_is)
    (case iCO => k_is)
    (case lCO => k_is)
    (case cCO => k_is)
    (case kCO => k_is)
    (case acell => k_is)
    (case lcell => k_is)
    (case ccell => k_is)
    (case kcell => k_is)
    (case ado => k_is)
    (case ldo => k_is)
    (case cdo => k_is)
    (case kdo => k_is)
    (case aPL => k_is)
    (case lPL => k_is)
    (case cPL => k_is)
    (case kPL => k_is)
    (case aplay => k_is)
    (case lplay => k_is)
    (case cplay => k_is)
    (case kplay => k_is)
    (case aBW => k_is)
    (case lBW => k_is)
    (case cBW => k_is)
    (case kBW => k_is)
    (case aPR => k_is)
    (case lPR => k_is)
    (case cPR => k_is)
    (case kPR => k_is)
    (case aFU => k_is)
    (case lFU => k_is)
    (case cFU => k_is)
    (case kFU => k_is)
    (case aCE => k_is)
    (case lCE => k_is)
    (case cCE => k_is)
    (case kCE => k_is)
    (case aSur => k_is)
    (case lSur => k_is)
    (case cSur => k_is)
    (case kSur => k_is)
    (case apool => k_is)
    (case lpool => k_is)
    (case cpool => k_is)
    (case kpool => k_is)
    (case amix => k_is)
    (case lmix => k_is)
    (case cmix => k_is)
    (case kmix => k_is)
    (case adraw => k_is)
    (case ldraw => k_is)
    (case cdraw => k_is)
    (case kdraw => k_is)
    (case aword => k_is)
    (case lword => k_is)
    (case cword => k_is)
    (case kword => k_is)
    (case aisI => k_is)
    (case lisI => k_is)
    (case cisI => k_is)
    (case kisI => k_is)
    (case asame => k_is)
    (case lsame => k_is)
    (case csame => k_is)
    (case ksame => k_is)
    (case aval => k_is)
    (case lval => k_is)
    (case cval => k_is)
    (case kval => k_is)
    (case acells => k_is)
    (case lcells => k_is)
    (case ccells => k_is)
    (case kcells => k_is)
    (case akey => k_is)
    (case lkey => k_is)
    (case ckey => k_is)
    (case kkey => k_is)
    (case adeeds => k_is)
    (case ldeeds => k_is)
    (case cdeeds => k_is)
    (case kdeeds => k_is)
    (case aunh => k_is)
    (case lunh => k_is)
    (case cunh => k_is)
    (case kunh => k_is)
    (case astore => k_is)
    (case lstore => k_is)
    (case cstore => k_is)
    (case kstore => k_is)
    (case aroot => k_is)
    (case lroot => k_is)
    (case croot => k_is)
    (case kroot => k_is)
    (case aheld => k_is)
    (case lheld => k_is)
    (case cheld => k_is)
    (case kheld => k_is)
    (case aput => k_is)
    (case lput => k_is)
    (case cput => k_is)
    (case kput => k_is)
    (case aldo => k_is)
    (case lldo => k_is)
    (case cldo => k_is)
    (case kldo => k_is)
    (case aplayed => k_is)
    (case lplayed => k_is)
    (case cplayed => k_is)
    (case kplayed => k_is)
    (case atouch => k_is)
    (case ltouch => k_is)
    (case ctouch => k_is)
    (case ktouch => k_is)
    (case alon => k_is)
    (case llon => k_is)
    (case clon => k_is)
    (case klon => k_is)
    (case alce => k_is)
    (case llce => k_is)
    (case clce => k_is)
    (case klce => k_is)
    (case aunt => k_is)
    (case lunt => k_is)
    (case cunt => k_is)
    (case kunt => k_is)
    (case atold => k_is)
    (case ltold => k_is)
    (case ctold => k_is)
    (case ktold => k_is)
    (case adue => k_is)
    (case ldue => k_is)
    (case cdue => k_is)
    (case kdue => k_is)
    (case amark => k_is)
    (case lmark => k_is)
    (case cmark => k_is)
    (case kmark => k_is)
    (case ast => k_is)
    (case lst => k_is)
    (case cst => k_is)
    (case kst => k_is)
    (case arf => k_is)
    (case lrf => k_is)
    (case crf => k_is)
    (case krf => k_is)
    (case arb => k_is)
    (case lrb => k_is)
    (case crb => k_is)
    (case krb => k_is)
    (case auf => k_is)
    (case luf => k_is)
    (case cuf => k_is)
    (case kuf => k_is)
    (case alaw => k_is)
    (case llaw => k_is)
    (case claw => k_is)
    (case klaw => k_is)
    (case zlen => k_is)
    (case zlist => k_is)
    (case ztuple => k_is)
    (case zrange => k_is)
    (case zint => k_is)
    (case zbool => k_is)
    (case zstr => k_is)
    (case zisinstance => k_is)
    (case zenumerate => k_is)
    (case zdict => k_is)
    (case zsuper => k_is)
    (case zall => k_is)
    (case zValueError => k_is)
    (case x1CN => k_is)
    (case r1CN => first | k_is | decide +kernel | rfl)
    (case x2CN => k_is)
    (case x3CN => k_is)
    (case x4CN => k_is)
    (case x5CN => k_is)
    (case x6CN => k_is)
    (case x7CN => ks_is)
    (case x8CN => k_is)
    (case xaCN => k_is)
    (case xbCN => k_is)
    (case xcCN => k_is)
    (case rdCN => first | rfl | k_is)
    (case reCN => first | rfl | decide +kernel | k_is)
    (case xfCN => k_is)
    (case rgCN => exact fun _ => rfl)
    (case xhCN => k_is)
    (case xiCN => k_is)
    (case xjCN => k_is)
    (case x1CB => k_is)
    (case r1CB => first | k_is | decide +kernel | rfl)
    (case x2CB => k_is)
    (case x3CB => k_is)
    (case x4CB => k_is)
    (case x5CB => k_is)
    (case x6CB => k_is)
    (case x7CB => ks_is)
    (case x8CB => k_is)
    (case xaCB => k_is)
    (case xbCB => k_is)
    (case xcCB => k_is)
    (case rdCB => first | rfl | k_is)
    (case reCB => first | rfl | decide +kernel | k_is)
    (case xfCB => k_is)
    (case rgCB => exact fun _ => rfl)
    (case xhCB => k_is)
    (case xiCB => k_is)
    (case xjCB => k_is)
    (case x9 => k_is)
    (case uNN => k_is)
    (case uBB => k_is)
    (case uBQ => k_is)
    (case uQE => k_is)
    (case tQ => k_is)
    (case dhQ => k_is)
    (case dhN => k_is)
    (case hns => k_is)
    (case dc => k_is)
    (case dg => k_is)
    (case dk => k_is)
    (case da => k_is)
    (case dn => k_is)
    (case dt => k_is)
    (case dm => k_is)
    (case dh => k_is)
    (case kQ => kit_is)
    (case kN => kit_is)
    (case kV => kit_is)
    (case kB => kit_is)
