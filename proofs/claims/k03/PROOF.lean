import PyProof.Rows.All
import Wide.All
import OpenK.AllK
import Wide.FinOn
import HandS.ForMost
import HandS.Wide
import HandS.IsInst
import HandS.Flow
import HandS.Evl
import HandS.Zip
import HandS.More
import HandS.SortKw
import HandS.Style
import HandS.NoneIn
import HandS.TupAny
import HandS.SortRule
import KE.DataFind
import HandS.Conv
import PySem.Challenge.RW_ratiohouse_k03_whole_neighbours_as_pairs
set_option Elab.async false
set_option linter.all false
set_option maxRecDepth 100000
set_option maxHeartbeats 4000000
/-! A weakest-precondition calculus over pure data (PyData), with no heap in sight. -/
namespace Wk
open PySem L2
open Evl (Ex ex_l ex_t ex_rd fresh_back sq_of st_of)
abbrev Fg := PySem.W.Frag
/-! ### data over a growing heap -/
mutual
theorem dp_mono {K : Fg} {H H' : Hp} (e : Ex H H') : ∀ {v : V} {d : PyData}, Dp K H v d → Dp K H' v d
  | _, _, .non => .non
  | _, _, .bl b => .bl b
  | _, _, .int i => .int i
  | _, _, .str x => .str x
  | _, _, .lst h a => .lst (ex_l e h) (dpa_mono e a)
  | _, _, .tup h a => .tup (ex_t e h) (dpa_mono e a)
theorem dpa_mono {K : Fg} {H H' : Hp} (e : Ex H H') : ∀ {vs : List V} {ds : List PyData}, DpAll K H vs ds → DpAll K H' vs ds
  | _, _, .nil => .nil
  | _, _, .cons h a => .cons (dp_mono e h) (dpa_mono e a)
end
section
variable {K : Fg} {H H' : Hp}
theorem dpa_len : ∀ {vs : List V} {ds : List PyData}, DpAll K H vs ds → vs.length = ds.length
  | _, _, .nil => rfl
  | _, _, .cons _ t => congrArg (· + 1) (dpa_len t)
theorem dpa_at : ∀ {vs : List V} {ds : List PyData} {i : Nat} {d : PyData}, DpAll K H vs ds → ds[i]? = some d → ∃ v, vs[i]? = some v ∧ Dp K H v d
  | _, _, _, _, .nil, e => by simp at e
  | _, _, 0, _, .cons h _, e => by
    have e1 := Option.some.inj (show some _ = some _ from e)
    subst e1; exact ⟨_, rfl, h⟩
  | _, _, i + 1, _, .cons _ t, e => dpa_at (i := i) t (by simpa using e)
theorem dpa_at' : ∀ {vs : List V} {ds : List PyData} {i : Nat} {v : V}, DpAll K H vs ds → vs[i]? = some v → ∃ d, ds[i]? = some d ∧ Dp K H v d
  | _, _, _, _, .nil, e => by simp at e
  | _, _, 0, _, .cons h _, e => by
    have e1 := Option.some.inj (show some _ = some _ from e)
    subst e1; exact ⟨_, rfl, h⟩
  | _, _, i + 1, _, .cons _ t, e => dpa_at' (i := i) t (by simpa using e)
theorem dpa_app : ∀ {vs ws : List V} {ds es : List PyData}, DpAll K H vs ds → DpAll K H ws es → DpAll K H (vs ++ ws) (ds ++ es)
  | _, _, _, _, .nil, s => s
  | _, _, _, _, .cons h t, s => .cons h (dpa_app t s)
theorem dpa_take : ∀ {vs : List V} {ds : List PyData} (n : Nat), DpAll K H vs ds → DpAll K H (vs.take n) (ds.take n)
  | _, _, 0, _ => .nil
  | _, _, _ + 1, .nil => .nil
  | _, _, n + 1, .cons h t => .cons h (dpa_take n t)
theorem dpa_drop : ∀ {vs : List V} {ds : List PyData} (n : Nat), DpAll K H vs ds → DpAll K H (vs.drop n) (ds.drop n)
  | _, _, 0, r => r
  | _, _, _ + 1, .nil => .nil
  | _, _, n + 1, .cons _ t => dpa_drop n t
theorem dpa_set : ∀ {vs : List V} {ds : List PyData} {v : V} {d : PyData} (i : Nat), Dp K H v d → DpAll K H vs ds → DpAll K H (vs.set i v) (ds.set i d)
  | _, _, _, _, _, _, .nil => .nil
  | _, _, _, _, 0, h, .cons _ t => .cons h t
  | _, _, _, _, i + 1, h, .cons q t => .cons q (dpa_set i h t)
theorem dpa_rev : ∀ {vs : List V} {ds : List PyData}, DpAll K H vs ds → DpAll K H vs.reverse ds.reverse
  | _, _, .nil => .nil
  | _, _, .cons h t => by
    rw [List.reverse_cons, List.reverse_cons]
    exact dpa_app (dpa_rev t) (.cons h .nil)
theorem dpa_dropLast {vs : List V} {ds : List PyData} (h : DpAll K H vs ds) : DpAll K H vs.dropLast ds.dropLast := by
  rw [List.dropLast_eq_take, List.dropLast_eq_take, dpa_len h]
  exact dpa_take _ h
theorem dpa_ints : ∀ {ns : List Int} {vs : List V}, DpAll K H vs (ns.map PyData.int) → vs = ns.map V.int
  | [], _, h => by cases h; rfl
  | n :: ns, _, h => by
    cases h with
    | cons h t => cases h; rw [dpa_ints t]; rfl
theorem ints_dpa : ∀ (ns : List Int), DpAll K H (ns.map V.int) (ns.map PyData.int)
  | [] => .nil
  | n :: ns => .cons (.int n) (ints_dpa ns)
theorem dpa_bools : ∀ {ns : List Bool} {vs : List V}, DpAll K H vs (ns.map PyData.bool) → vs = ns.map V.bl
  | [], _, h => by cases h; rfl
  | n :: ns, _, h => by
    cases h with
    | cons h t => cases h; rw [dpa_bools t]; rfl
theorem dpa_strs : ∀ {ns : List Str} {vs : List V}, DpAll K H vs (ns.map PyData.str) → vs = ns.map V.str
  | [], _, h => by cases h; rfl
  | n :: ns, _, h => by
    cases h with
    | cons h t => cases h; rw [dpa_strs t]; rfl
theorem strs_dpa : ∀ (ns : List Str), DpAll K H (ns.map V.str) (ns.map PyData.str)
  | [] => .nil
  | n :: ns => .cons (.str n) (strs_dpa ns)
/-- a flat value -/
def flatD : PyData → Bool
  | .none => true | .bool _ => true | .int _ => true | .str _ => true | _ => false
theorem dpa_snoc {vs : List V} {ds : List PyData} {v : V} {d : PyData} (h : DpAll K H vs ds) (q : Dp K H v d) : DpAll K H (vs ++ [v]) (ds ++ [d]) := dpa_app h (.cons q .nil)
end
/-! ### the slots: nothing known, a datum, an object of this frame's own -/
inductive OB where
  | lst (pin : Option Addr) (ds : List PyData)
  | dct (kvs : List (Key × PyData))
/-- more about a value than its datum -/
structure VX where
  p : Hp → V → Prop
  up : ∀ B B' v, Ex B B' → p B v → p B' v
inductive SV where
  | un
  | im (d : PyData)
  | vx (φ : VX)
  | ow (o : OB)
abbrev Dl := List SV
def ObR (K : Fg) (B : Hp) (a : Addr) : OB → HO → Prop
  | .lst pin ds, o => (∀ q, pin = some q → q = a) ∧ ∃ vs, o = .lst vs ∧ DpAll K B vs ds
  | .dct kvs, o => ∃ ks, o = .dK ks ∧ Paired (fun (p : Key × V) (q : Key × PyData) => p.1 = q.1 ∧ Dp K B p.2 q.2) ks kvs
theorem ObR.mono {K : Fg} {B B' : Hp} {a : Addr} {ob : OB} {o : HO} (e : Ex B B') (h : ObR K B a ob o) : ObR K B' a ob o := by
  cases ob with
  | lst pin ds => obtain ⟨hp, vs, e1, h⟩ := h; exact ⟨hp, vs, e1, dpa_mono e h⟩
  | dct kvs => obtain ⟨ks, e1, h⟩ := h; exact ⟨ks, e1, Paired.mapP h fun _ _ z => ⟨z.1, dp_mono e z.2⟩⟩
structure Ctx where
  H0 : Hp
  B0 : Hp
  M : Addr → Prop
def Sl (K : Fg) (B H : Hp) (o : Option (Option V)) : SV → Prop
  | .un => True
  | .im d => ∃ v, o = some (some v) ∧ Dp K B v d
  | .vx φ => ∃ v, o = some (some v) ∧ φ.p B v
  | .ow ob => ∃ a u, o = some (some (.ref a)) ∧ B a = none ∧ H a = some u ∧ ObR K B a ob u
/-- the state: B, the part of the heap that is never changed any more -/
structure En (K : Fg) (C : Ctx) (B H : Hp) (σ : L2.St) (δ : Dl) : Prop where
  ex : Ex B H
  b0 : Ex C.B0 B
  fr : ∀ a o, ¬ C.M a → C.H0 a = some o → H a = some o
  pr : ∀ a, H a = none → C.H0 a = none
  bf : ∀ a o, B a = some o → C.B0 a = some o ∨ C.H0 a = none
  len : σ.length = δ.length
  sl : ∀ (i : Nat) (s : SV), δ[i]? = some s → Sl K B H σ[i]? s
  own : ∀ (i : Nat) (ob : OB) (a : Addr), δ[i]? = some (.ow ob) → σ[i]? = some (some (.ref a)) → C.M a ∨ C.H0 a = none
  dis : ∀ (i j : Nat) (ob ob' : OB) (a : Addr), δ[i]? = some (.ow ob) → δ[j]? = some (.ow ob') → σ[i]? = some (some (.ref a)) → σ[j]? = some (some (.ref a)) → i = j
/-- what is new joins what never changes -/
def grow (B H H' : Hp) : Hp := fun a => match H a with
  | none => H' a
  | some _ => B a
section
variable {K : Fg} {C : Ctx} {B H B' H' : Hp} {σ : L2.St} {δ : Dl}
theorem grow_ex (e : Ex B H) : Ex B (grow B H H') := fun a o h => by
  unfold grow; rw [e a o h]; exact h
theorem grow_new {a : Addr} (h : H a = none) : grow B H H' a = H' a := by unfold grow; rw [h]
theorem grow_old {a : Addr} {o : HO} (h : H a = some o) : grow B H H' a = B a := by unfold grow; rw [h]
theorem grow_in (e : Ex B H) (x : Ex H H') : Ex (grow B H H') H' := fun a o h => by
  unfold grow at h
  split at h
  · exact h
  · exact x a o (e a o h)
theorem En.grow (E : En K C B H σ δ) (x : Ex H H') : En K C (grow B H H') H' σ δ where
  ex := grow_in E.ex x
  b0 := fun a o h => grow_ex E.ex a o (E.b0 a o h)
  fr := fun a o m h => x a o (E.fr a o m h)
  pr := fun a h => E.pr a (fresh_back x h)
  bf := fun a o h => by
    unfold Wk.grow at h
    split at h
    · exact .inr (E.pr a (by assumption))
    · exact E.bf a o h
  len := E.len
  sl := fun i s h => by
    have q := E.sl i s h
    cases s with
    | un => trivial
    | im d => obtain ⟨v, e, q⟩ := q; exact ⟨v, e, dp_mono (grow_ex E.ex) q⟩
    | vx φ => obtain ⟨v, e, q⟩ := q; exact ⟨v, e, φ.up _ _ _ (grow_ex E.ex) q⟩
    | ow ob => obtain ⟨a, u, e, n, q, r⟩ := q; exact ⟨a, u, e, by rw [grow_old q]; exact n, x a u q, r.mono (grow_ex E.ex)⟩
  own := E.own
  dis := E.dis
theorem En.same (E : En K C B H σ δ) : En K C B H σ δ := E
theorem En.var (E : En K C B H σ δ) {i : Nat} {d : PyData} (h : δ[i]? = some (.im d)) : ∃ v, σ[i]? = some (some v) ∧ Dp K B v d := E.sl i _ h
theorem En.lt (E : En K C B H σ δ) {i : Nat} {s : SV} (h : δ[i]? = some s) : i < σ.length := by
  rw [E.len]; exact (List.getElem?_eq_some_iff.mp h).1
/-- a slot is set to a datum -/
theorem En.set (E : En K C B H σ δ) {i : Nat} {v : V} {d : PyData} (h : Dp K B v d) : En K C B H (σ.set i (some v)) (δ.set i (.im d)) where
  ex := E.ex
  b0 := E.b0
  fr := E.fr
  pr := E.pr
  bf := E.bf
  len := by rw [List.length_set, List.length_set]; exact E.len
  sl := fun j s q => by
    by_cases e : i = j
    · subst e
      by_cases hl : i < δ.length
      · rw [List.getElem?_set_self hl] at q
        cases q
        exact ⟨v, by rw [List.getElem?_set_self (by rw [E.len]; exact hl)], h⟩
      · rw [List.getElem?_eq_none (by simpa using hl)] at q; cases q
    · rw [List.getElem?_set_ne e] at q ⊢
      exact E.sl j s q
  own := fun j ob a q r => by
    by_cases e : i = j
    · subst e
      by_cases hl : i < δ.length
      · rw [List.getElem?_set_self hl] at q; cases q
      · rw [List.getElem?_eq_none (by simpa using hl)] at q; cases q
    · rw [List.getElem?_set_ne e] at q r
      exact E.own j ob a q r
  dis := fun j k ob ob' a q q' r r' => by
    have ne : ∀ {m : Nat} {o : OB}, (δ.set i (.im d))[m]? = some (.ow o) → i ≠ m := fun {m o} z w => by
      subst w
      by_cases hl : i < δ.length
      · rw [List.getElem?_set_self hl] at z; cases z
      · rw [List.getElem?_eq_none (by simpa using hl)] at z; cases z
    have n1 := ne q
    have n2 := ne q'
    rw [List.getElem?_set_ne n1] at q r
    rw [List.getElem?_set_ne n2] at q' r'
    exact E.dis j k ob ob' a q q' r r'
theorem En.setX (E : En K C B H σ δ) {i : Nat} {v : V} {φ : VX} (h : φ.p B v) : En K C B H (σ.set i (some v)) (δ.set i (.vx φ)) where
  ex := E.ex
  b0 := E.b0
  fr := E.fr
  pr := E.pr
  bf := E.bf
  len := by rw [List.length_set, List.length_set]; exact E.len
  sl := fun j s q => by
    by_cases e : i = j
    · subst e
      by_cases hl : i < δ.length
      · rw [List.getElem?_set_self hl] at q
        cases q
        exact ⟨v, by rw [List.getElem?_set_self (by rw [E.len]; exact hl)], h⟩
      · rw [List.getElem?_eq_none (by simpa using hl)] at q; cases q
    · rw [List.getElem?_set_ne e] at q ⊢
      exact E.sl j s q
  own := fun j ob a q r => by
    by_cases e : i = j
    · subst e
      by_cases hl : i < δ.length
      · rw [List.getElem?_set_self hl] at q; cases q
      · rw [List.getElem?_eq_none (by simpa using hl)] at q; cases q
    · rw [List.getElem?_set_ne e] at q r
      exact E.own j ob a q r
  dis := fun j k ob ob' a q q' r r' => by
    have ne : ∀ {m : Nat} {o : OB}, (δ.set i (.vx φ))[m]? = some (.ow o) → i ≠ m := fun {m o} z w => by
      subst w
      by_cases hl : i < δ.length
      · rw [List.getElem?_set_self hl] at z; cases z
      · rw [List.getElem?_eq_none (by simpa using hl)] at z; cases z
    have n1 := ne q
    have n2 := ne q'
    rw [List.getElem?_set_ne n1] at q r
    rw [List.getElem?_set_ne n2] at q' r'
    exact E.dis j k ob ob' a q q' r r'
/-- nothing is known of a slot any more, whatever stands there -/
theorem En.unset (E : En K C B H σ δ) {i : Nat} {o : Option V} : En K C B H (σ.set i o) (δ.set i .un) where
  ex := E.ex
  b0 := E.b0
  fr := E.fr
  pr := E.pr
  bf := E.bf
  len := by rw [List.length_set, List.length_set]; exact E.len
  sl := fun j s q => by
    by_cases e : i = j
    · subst e
      by_cases hl : i < δ.length
      · rw [List.getElem?_set_self hl] at q; cases q; trivial
      · rw [List.getElem?_eq_none (by simpa using hl)] at q; cases q
    · rw [List.getElem?_set_ne e] at q ⊢
      exact E.sl j s q
  own := fun j ob a q r => by
    by_cases e : i = j
    · subst e
      by_cases hl : i < δ.length
      · rw [List.getElem?_set_self hl] at q; cases q
      · rw [List.getElem?_eq_none (by simpa using hl)] at q; cases q
    · rw [List.getElem?_set_ne e] at q r
      exact E.own j ob a q r
  dis := fun j k ob ob' a q q' r r' => by
    have ne : ∀ {m : Nat} {o : OB}, (δ.set i .un)[m]? = some (.ow o) → i ≠ m := fun {m o} z w => by
      subst w
      by_cases hl : i < δ.length
      · rw [List.getElem?_set_self hl] at z; cases z
      · rw [List.getElem?_eq_none (by simpa using hl)] at z; cases z
    have n1 := ne q
    have n2 := ne q'
    rw [List.getElem?_set_ne n1] at q r
    rw [List.getElem?_set_ne n2] at q' r'
    exact E.dis j k ob ob' a q q' r r'
/-- what is known is weakened: every slot known is known alike -/
theorem En.weak {δ' : Dl} {σ' : L2.St} (E : En K C B H σ δ) (hl : σ'.length = δ'.length) (h : ∀ (i : Nat) (s : SV), δ'[i]? = some s → s = .un ∨ (δ[i]? = some s ∧ σ'[i]? = σ[i]?)) : En K C B H σ' δ' where
  ex := E.ex
  b0 := E.b0
  fr := E.fr
  pr := E.pr
  bf := E.bf
  len := hl
  sl := fun j s q => by
    rcases h j s q with e | ⟨e, e2⟩
    · subst e; trivial
    · rw [e2]; exact E.sl j s e
  own := fun j ob a q r => by
    rcases h j _ q with e | ⟨e, e2⟩
    · cases e
    · rw [e2] at r; exact E.own j ob a e r
  dis := fun j k ob ob' a q q' r r' => by
    rcases h j _ q with e | ⟨e, e2⟩
    · cases e
    · rcases h k _ q' with f | ⟨f, f2⟩
      · cases f
      · rw [e2] at r; rw [f2] at r'; exact E.dis j k ob ob' a e f r r'
/-- an own object's slot is filled: a new object at p, not among what never changes -/
theorem En.setOw (E : En K C B H σ δ) {i : Nat} {p : Addr} {u : HO} {ob : OB} (hp : H p = none) (r : ObR K B p ob u) : En K C B (upd H p u) (σ.set i (some (.ref p))) (δ.set i (.ow ob)) := by
  have hB : B p = none := fresh_back E.ex hp
  have hne : ∀ {a : Addr} {o : HO}, H a = some o → a ≠ p := fun h => ne_of_none h hp
  refine ⟨fun a o h => ?_, E.b0, fun a o m h => ?_, fun a h => ?_, E.bf, ?_, fun j s q => ?_, fun j ob' a q z => ?_, fun j k ob1 ob2 a q q' z z' => ?_⟩
  · rw [upd_ne (hne (E.ex a o h))]; exact E.ex a o h
  · rw [upd_ne (hne (E.fr a o m h))]; exact E.fr a o m h
  · by_cases e : a = p
    · subst e; exact E.pr _ hp
    · rw [upd_ne e] at h; exact E.pr a h
  · rw [List.length_set, List.length_set]; exact E.len
  · by_cases e : i = j
    · subst e
      by_cases hl : i < δ.length
      · rw [List.getElem?_set_self hl] at q
        cases q
        exact ⟨p, u, by rw [List.getElem?_set_self (by rw [E.len]; exact hl)], hB, upd_same, r⟩
      · rw [List.getElem?_eq_none (by simpa using hl)] at q; cases q
    · rw [List.getElem?_set_ne e] at q ⊢
      have z := E.sl j s q
      cases s with
      | un => trivial
      | im d => exact z
      | vx φ => exact z
      | ow o => obtain ⟨a, u', e1, n, q1, r1⟩ := z; exact ⟨a, u', e1, n, by rw [upd_ne (hne q1)]; exact q1, r1⟩
  · by_cases e : i = j
    · subst e
      by_cases hl : i < σ.length
      · rw [List.getElem?_set_self hl] at z
        cases z
        exact .inr (E.pr _ hp)
      · rw [List.getElem?_eq_none (by simpa using hl)] at z; cases z
    · rw [List.getElem?_set_ne e] at q z
      exact E.own j ob' a q z
  · have key : ∀ {m : Nat} {o : OB}, i ≠ m → (δ.set i (.ow ob))[m]? = some (.ow o) → (σ.set i (some (.ref p)))[m]? = some (some (.ref a)) → a ≠ p := fun {m o} ne q z => by
      rw [List.getElem?_set_ne ne] at q z
      obtain ⟨a', u', e1, _, q1, _⟩ := E.sl m _ q
      rw [z] at e1
      cases e1
      exact hne q1
    have self : ∀ {m : Nat}, i = m → (σ.set i (some (.ref p)))[m]? = some (some (.ref a)) → a = p := fun {m} e z => by
      subst e
      by_cases hl : i < σ.length
      · rw [List.getElem?_set_self hl] at z; cases z; rfl
      · rw [List.getElem?_eq_none (by simpa using hl)] at z; cases z
    by_cases e1 : i = j
    · by_cases e2 : i = k
      · rw [← e1, ← e2]
      · exact absurd (self e1 z) (key e2 q' z')
    · by_cases e2 : i = k
      · exact absurd (self e2 z') (key e1 q z)
      · rw [List.getElem?_set_ne e1] at q z
        rw [List.getElem?_set_ne e2] at q' z'
        exact E.dis j k ob1 ob2 a q q' z z'
/-- an own object is changed -/
theorem En.mut (E : En K C B H σ δ) {i : Nat} {p : Addr} {u : HO} {ob ob' : OB} (hi : δ[i]? = some (.ow ob)) (hs : σ[i]? = some (some (.ref p))) (r : ObR K B p ob' u) : En K C B (upd H p u) σ (δ.set i (.ow ob')) := by
  obtain ⟨a0, u0, e0, n0, q0, _⟩ := E.sl i _ hi
  rw [hs] at e0
  cases e0
  have hm := E.own i ob p hi hs
  have hB : ∀ {a : Addr} {o : HO}, B a = some o → a ≠ p := fun h e => by subst e; rw [n0] at h; cases h
  have hlt : i < δ.length := (List.getElem?_eq_some_iff.mp hi).1
  have back : ∀ {m : Nat} {o : OB}, (δ.set i (.ow ob'))[m]? = some (.ow o) → ∃ o', δ[m]? = some (.ow o') := fun {m o} z => by
    by_cases e : i = m
    · subst e; exact ⟨ob, hi⟩
    · rw [List.getElem?_set_ne e] at z; exact ⟨o, z⟩
  refine ⟨fun a o h => ?_, E.b0, fun a o m h => ?_, fun a h => ?_, E.bf, ?_, fun j s q => ?_, fun j ob1 a q z => ?_, fun j k ob1 ob2 a q q' z z' => ?_⟩
  · rw [upd_ne (hB h)]; exact E.ex a o h
  · have ne : a ≠ p := fun e => by
      subst e
      rcases hm with x | x
      · exact m x
      · rw [x] at h; cases h
    rw [upd_ne ne]; exact E.fr a o m h
  · by_cases e : a = p
    · subst e; rw [upd_same] at h; cases h
    · rw [upd_ne e] at h; exact E.pr a h
  · rw [List.length_set]; exact E.len
  · by_cases e : i = j
    · subst e
      rw [List.getElem?_set_self hlt] at q
      cases q
      exact ⟨p, u, hs, n0, upd_same, r⟩
    · rw [List.getElem?_set_ne e] at q
      have z := E.sl j s q
      cases s with
      | un => trivial
      | im d => exact z
      | vx φ => exact z
      | ow o =>
        obtain ⟨a, u', e1, n, q1, r1⟩ := z
        have ne : a ≠ p := fun x => by
          subst x
          exact e (E.dis i j _ _ _ hi q hs e1)
        exact ⟨a, u', e1, n, by rw [upd_ne ne]; exact q1, r1⟩
  · obtain ⟨o', q'⟩ := back q
    exact E.own j o' a q' z
  · obtain ⟨o1, w1⟩ := back q
    obtain ⟨o2, w2⟩ := back q'
    exact E.dis j k o1 o2 a w1 w2 z z'
end
end Wk
set_option Elab.async false
set_option linter.all false
set_option maxRecDepth 100000
set_option maxHeartbeats 4000000
/-! The rules: expressions, tests, statements. -/
namespace Wk
open PySem L2
open Evl (Ex ex_l ex_t ex_rd fresh_back sq_of st_of)
section
variable (K : Fg)
def WE (te : TE) (δ : Dl) (k : PyData → Dl → Prop) : Prop := ∀ (C : Ctx) (B H : Hp) (σ : L2.St) (Q : VK), En K C B H σ δ →
  (∀ v B' H' d δ', k d δ' → Ex B B' → En K C B' H' σ δ' → Dp K B' v d → Q v H') → te σ H Q
def WT (tt : TT) (δ : Dl) (k : Bool → Dl → Prop) : Prop := ∀ (C : Ctx) (B H : Hp) (σ : L2.St) (Q : Bool → Hp → Prop), En K C B H σ δ →
  (∀ b B' H' δ', k b δ' → Ex B B' → En K C B' H' σ δ' → Q b H') → tt σ H Q
def WA (ta : TA) (δ : Dl) (k : List PyData → Dl → Prop) : Prop := ∀ (C : Ctx) (B H : Hp) (σ : L2.St) (Q : List V → Hp → Prop), En K C B H σ δ →
  (∀ vs B' H' ds δ', k ds δ' → Ex B B' → En K C B' H' σ δ' → DpAll K B' vs ds → Q vs H') → ta σ H Q
/-- a new object at p, not yet among what never changes -/
def WN (te : TE) (δ : Dl) (k : OB → Dl → Prop) : Prop := ∀ (C : Ctx) (B H : Hp) (σ : L2.St) (Q : VK), En K C B H σ δ →
  (∀ p u B' H' ob δ', k ob δ' → Ex B B' → En K C B' H' σ δ' → H' p = none → ObR K B' p ob u → Q (.ref p) (upd H' p u)) → te σ H Q
structure Lk (C : Ctx) (B : Hp) (nx : Dl → Prop) (rt : PyData → Dl → Prop) (bk ct : Dl → Prop) (D : Ends) : Prop where
  nx : ∀ σ' B' H' δ', nx δ' → Ex B B' → En K C B' H' σ' δ' → D.nx σ' H'
  rt : ∀ v σ' B' H' d δ', rt d δ' → Ex B B' → En K C B' H' σ' δ' → Dp K B' v d → D.rt v H'
  bk : ∀ σ' B' H' δ', bk δ' → Ex B B' → En K C B' H' σ' δ' → D.bk σ' H'
  ct : ∀ σ' B' H' δ', ct δ' → Ex B B' → En K C B' H' σ' δ' → D.ct σ' H'
def WS (C : Ctx) (ts : TS) (δ : Dl) (nx : Dl → Prop) (rt : PyData → Dl → Prop) (bk ct : Dl → Prop) : Prop := ∀ (B H : Hp) (σ : L2.St) (D : Ends), En K C B H σ δ → Lk K C B nx rt bk ct D → ts D σ H
/-- a target takes a datum -/
def WG (g : TG) (d : PyData) (δ : Dl) (k : Dl → Prop) : Prop := ∀ (C : Ctx) (B H : Hp) (σ : L2.St) (v : V) (Q : L2.St → Hp → Prop), En K C B H σ δ → Dp K B v d →
  (∀ σ' B' H' δ', k δ' → Ex B B' → En K C B' H' σ' δ' → Q σ' H') → g v σ H Q
/-- a two-place operation by data -/
def WR (r : R2) (x y : PyData) (δ : Dl) (k : PyData → Dl → Prop) : Prop := ∀ (C : Ctx) (B H : Hp) (σ : L2.St) (v u : V) (Q : VK), En K C B H σ δ → Dp K B v x → Dp K B u y →
  (∀ v B' H' d δ', k d δ' → Ex B B' → En K C B' H' σ δ' → Dp K B' v d → Q v H') → r v u H Q
/-- a call by data -/
def WC (r : List V → Hp → VK → Prop) (ds : List PyData) (δ : Dl) (k : PyData → Dl → Prop) : Prop := ∀ (C : Ctx) (B H : Hp) (σ : L2.St) (vs : List V) (Q : VK), En K C B H σ δ → DpAll K B vs ds →
  (∀ v B' H' d δ', k d δ' → Ex B B' → En K C B' H' σ δ' → Dp K B' v d → Q v H') → r vs H Q
end
section
variable {K : Fg} {C : Ctx} {δ : Dl} {ta tb te tc : TE} {t u : TT} {k : PyData → Dl → Prop} {kb : Bool → Dl → Prop} {ka : List PyData → Dl → Prop} {nx bk ct : Dl → Prop} {rt : PyData → Dl → Prop}
theorem Ex.tr {H H1 H2 : Hp} (a : Ex H H1) (b : Ex H1 H2) : Ex H H2 := Ex.trans a b
theorem Lk.up {B B' : Hp} {D : Ends} (l : Lk K C B nx rt bk ct D) (e : Ex B B') : Lk K C B' nx rt bk ct D :=
  ⟨fun σ' B2 H' δ' h x E => l.nx σ' B2 H' δ' h (e.trans x) E, fun v σ' B2 H' d δ' h x E q => l.rt v σ' B2 H' d δ' h (e.trans x) E q,
   fun σ' B2 H' δ' h x E => l.bk σ' B2 H' δ' h (e.trans x) E, fun σ' B2 H' δ' h x E => l.ct σ' B2 H' δ' h (e.trans x) E⟩
/-! ### weakening -/
theorem WE.mono {k' : PyData → Dl → Prop} (h : WE K te δ k) (q : ∀ d δ', k d δ' → k' d δ') : WE K te δ k' := fun C B H σ Q E r => h C B H σ Q E fun v B' H' d δ' z => r v B' H' d δ' (q d δ' z)
theorem WT.mono {k' : Bool → Dl → Prop} (h : WT K t δ kb) (q : ∀ d δ', kb d δ' → k' d δ') : WT K t δ k' := fun C B H σ Q E r => h C B H σ Q E fun v B' H' δ' z => r v B' H' δ' (q v δ' z)
/-! ### values -/
theorem we_var {i : Nat} {d : PyData} (h : δ[i]? = some (.im d)) (q : k d δ) : WE K (tVar i) δ k := fun C B H σ Q E r => by
  obtain ⟨v, e, z⟩ := E.var h
  exact ⟨v, e, r v B H d δ q (Ex.refl B) E z⟩
theorem we_int {i : Int} (q : k (.int i) δ) : WE K (tC (.int i)) δ k := fun C B H σ Q E r => r _ B H _ δ q (Ex.refl B) E (.int i)
theorem we_bl {b : Bool} (q : k (.bool b) δ) : WE K (tC (.bl b)) δ k := fun C B H σ Q E r => r _ B H _ δ q (Ex.refl B) E (.bl b)
theorem we_non (q : k .none δ) : WE K (tC .non) δ k := fun C B H σ Q E r => r _ B H _ δ q (Ex.refl B) E .non
theorem we_str {x : Str} (q : k (.str x) δ) : WE K (tC (.str x)) δ k := fun C B H σ Q E r => r _ B H _ δ q (Ex.refl B) E (.str x)
theorem we_op {r : R2} (h : WE K ta δ fun x δ1 => WE K tb δ1 fun y δ2 => WR K r x y δ2 k) : WE K (tOp r ta tb) δ k := fun C B H σ Q E q =>
  h C B H σ _ E fun v B1 H1 x δ1 h1 e1 E1 d1 => h1 C B1 H1 σ _ E1 fun w B2 H2 y δ2 h2 e2 E2 d2 => h2 C B2 H2 σ v w Q E2 (dp_mono e2 d1) d2 fun z B3 H3 d δ3 h3 e3 => q z B3 H3 d δ3 h3 ((e1.trans e2).trans e3)
theorem wr_I0 {g : Int → Int → V} {gd : Int → Int → PyData} {i j : Int} (hg : ∀ B : Hp, Dp K B (g i j) (gd i j)) (q : k (gd i j) δ) : WR K (rI0 g) (.int i) (.int j) δ k := fun C B H σ v w Q E d1 d2 r => by
  cases d1; cases d2
  exact ⟨i, j, rfl, rfl, r _ B H _ δ q (Ex.refl B) E (hg B)⟩
theorem wr_I {Cn : Int → Int → Prop} {g : Int → Int → V} {gd : Int → Int → PyData} {i j : Int} (hc : Cn i j) (hg : ∀ B : Hp, Dp K B (g i j) (gd i j)) (q : k (gd i j) δ) : WR K (rI Cn g) (.int i) (.int j) δ k := fun C B H σ v w Q E d1 d2 r => by
  cases d1; cases d2
  exact ⟨i, j, rfl, rfl, hc, r _ B H _ δ q (Ex.refl B) E (hg B)⟩
/-! ### one rule for an operator, whatever the kinds of both sides -/
def rAddI : R2 := rI0 fun i j => .int (i + j)
def rSubI : R2 := rI0 fun i j => .int (i - j)
def rMulI : R2 := rI IntMulOk fun i j => .int (i * j)
def CDivA (_ j : Int) : Prop := j ≠ 0 ∧ j.natAbs.log2 < 9000
def rDivI : R2 := rI CDivA fun i j => .int (i.fdiv j)
def rModI : R2 := rI (fun _ j => j ≠ 0) fun i j => .int (i.fmod j)
def rLtI : R2 := rI0 fun i j => .bl (decide (i < j))
def rLeI : R2 := rI0 fun i j => .bl (decide (i ≤ j))
def rGtI : R2 := rI0 fun i j => .bl (decide (j < i))
def rGeI : R2 := rI0 fun i j => .bl (decide (j ≤ i))
theorem o_add {X : Cx} : OpR X (binaryOp .Add) rAddI := op_add
theorem o_sub {X : Cx} : OpR X (binaryOp .Sub) rSubI := op_sub
theorem o_mul {X : Cx} : OpR X (binaryOp .Mult) rMulI := opI fun _ _ _ _ _ _ _ hc q => PyProof.Rows.mul_int q hc
theorem o_div {X : Cx} : OpR X (binaryOp .FloorDiv) rDivI := opI fun _ _ _ _ _ _ _ hc q => PyProof.Rows.floordiv_int hc.1 q (.inl (PyProof.noPylong_of_log2 hc.2))
theorem o_mod {X : Cx} : OpR X (binaryOp .Mod) rModI := op_modN
theorem o_lt {X : Cx} : OpR X (compareOp .Lt) rLtI := op_lt
theorem o_le {X : Cx} : OpR X (compareOp .LtE) rLeI := op_le
theorem o_gt {X : Cx} : OpR X (compareOp .Gt) rGtI := op_gt
theorem o_ge {X : Cx} : OpR X (compareOp .GtE) rGeI := op_ge
theorem wr_add {i j : Int} (q : k (.int (i + j)) δ) : WR K rAddI (.int i) (.int j) δ k := wr_I0 (gd := fun i j => .int (i + j)) (fun _ => .int _) q
theorem wr_sub {i j : Int} (q : k (.int (i - j)) δ) : WR K rSubI (.int i) (.int j) δ k := wr_I0 (gd := fun i j => .int (i - j)) (fun _ => .int _) q
theorem wr_mul {i j : Int} (hc : IntMulOk i j) (q : k (.int (i * j)) δ) : WR K rMulI (.int i) (.int j) δ k := wr_I (gd := fun i j => .int (i * j)) hc (fun _ => .int _) q
theorem wr_fdiv {i j : Int} (hc : CDivA i j) (q : k (.int (i.fdiv j)) δ) : WR K rDivI (.int i) (.int j) δ k := wr_I (gd := fun i j => .int (i.fdiv j)) hc (fun _ => .int _) q
theorem wr_fmod {i j : Int} (hc : j ≠ 0) (q : k (.int (i.fmod j)) δ) : WR K rModI (.int i) (.int j) δ k := wr_I (gd := fun i j => .int (i.fmod j)) hc (fun _ => .int _) q
theorem wr_div {i j : Int} (h0 : 0 < j) (hc : j.natAbs < 2 ^ 8000) (q : k (.int (i / j)) δ) : WR K rDivI (.int i) (.int j) δ k :=
  wr_fdiv ⟨by omega, Nat.lt_of_lt_of_le (PySem.Flt.log2_lt_of (by decide) hc) (by decide)⟩ (by rw [Int.fdiv_eq_ediv_of_nonneg i (by omega)]; exact q)
theorem wr_mod {i j : Int} (h0 : 0 < j) (q : k (.int (i % j)) δ) : WR K rModI (.int i) (.int j) δ k := wr_fmod (by omega) (by rw [Int.fmod_eq_emod_of_nonneg i (by omega)]; exact q)
theorem wr_lt {i j : Int} (q : k (.bool (decide (i < j))) δ) : WR K rLtI (.int i) (.int j) δ k := wr_I0 (gd := fun i j => .bool (decide (i < j))) (fun _ => .bl _) q
theorem wr_le {i j : Int} (q : k (.bool (decide (i ≤ j))) δ) : WR K rLeI (.int i) (.int j) δ k := wr_I0 (gd := fun i j => .bool (decide (i ≤ j))) (fun _ => .bl _) q
theorem wr_gt {i j : Int} (q : k (.bool (decide (j < i))) δ) : WR K rGtI (.int i) (.int j) δ k := wr_I0 (gd := fun i j => .bool (decide (j < i))) (fun _ => .bl _) q
theorem wr_ge {i j : Int} (q : k (.bool (decide (j ≤ i))) δ) : WR K rGeI (.int i) (.int j) δ k := wr_I0 (gd := fun i j => .bool (decide (j ≤ i))) (fun _ => .bl _) q
theorem wr_eqD {x y : PyData} (hx : SeqAt.shaped x = true) (hy : SeqAt.shaped y = true) (q : k (.bool (PyData.eqv x y)) δ) : WR K (rEqD K) x y δ k := fun C B H σ v w Q E d1 d2 r =>
  ⟨x, y, dp_mono E.ex d1, dp_mono E.ex d2, hx, hy, r _ B H _ δ q (Ex.refl B) E (.bl _)⟩
theorem wr_neD {x y : PyData} (hx : SeqAt.shaped x = true) (hy : SeqAt.shaped y = true) (q : k (.bool (!PyData.eqv x y)) δ) : WR K (rNeD K) x y δ k := fun C B H σ v w Q E d1 d2 r =>
  ⟨x, y, dp_mono E.ex d1, dp_mono E.ex d2, hx, hy, r _ B H _ δ q (Ex.refl B) E (.bl _)⟩
/-- is None, is not None -/
def rIsN : R2 := fun x y H Q => y = .non ∧ Q (.bl (decide (x = .non))) H
def rNotN : R2 := fun x y H Q => y = .non ∧ Q (.bl (!decide (x = .non))) H
theorem o_isN {X : Cx} : OpR X (compareOp .Is) rIsN := op_isN
theorem o_notN {X : Cx} : OpR X (compareOp .IsNot) rNotN := op_notN
def isNoneD : PyData → Bool | .none => true | _ => false
theorem dp_none {B : Hp} {v : V} {x : PyData} (h : Dp K B v x) : decide (v = .non) = isNoneD x := by
  cases h <;> simp [isNoneD]
theorem wr_isN {x : PyData} (q : k (.bool (isNoneD x)) δ) : WR K rIsN x .none δ k := fun C B H σ v w Q E d1 d2 r => by
  cases d2
  exact ⟨rfl, by rw [dp_none d1]; exact r _ B H _ δ q (Ex.refl B) E (.bl _)⟩
theorem wr_notN {x : PyData} (q : k (.bool (!isNoneD x)) δ) : WR K rNotN x .none δ k := fun C B H σ v w Q E d1 d2 r => by
  cases d2
  exact ⟨rfl, by rw [dp_none d1]; exact r _ B H _ δ q (Ex.refl B) E (.bl _)⟩
/-- a place of a tuple, a list, a text -/
def ixD (x : PyData) (i : Int) : Option PyData := match x with
  | .tuple ds => atI ds i
  | .list ds => atI ds i
  | .str z => (atI z.cps.toList i).map fun c => .str ⟨#[c]⟩
  | _ => none
theorem atI_dp {B : Hp} {vs : List V} {ds : List PyData} {i : Int} {d : PyData} (h : DpAll K B vs ds) (e : atI ds i = some d) : ∃ v, atI vs i = some v ∧ Dp K B v d := by
  unfold atI at e ⊢
  rw [dpa_len h]
  cases q : ixN ds.length i with
  | none => rw [q] at e; cases e
  | some j => rw [q] at e; exact dpa_at h e
theorem wr_ix {x d : PyData} {i : Int} (e : ixD x i = some d) (hz : ∀ z, x = .str z → z.length ≤ sizeLine) (q : k d δ) : WR K (rIx K) x (.int i) δ k := fun C B H σ v w Q E d1 d2 r => by
  cases d2
  cases d1 with
  | lst h a =>
    obtain ⟨u, h1, h2⟩ := atI_dp a e
    exact .inl ⟨_, _, i, u, rfl, rfl, ex_l E.ex h, h1, r u B H d δ q (Ex.refl B) E h2⟩
  | tup h a =>
    obtain ⟨u, h1, h2⟩ := atI_dp a e
    exact .inr (.inl ⟨_, _, i, u, rfl, rfl, ex_t E.ex h, h1, r u B H d δ q (Ex.refl B) E h2⟩)
  | str z =>
    have e' : (atI z.cps.toList i).map (fun c => PyData.str ⟨#[c]⟩) = some d := e
    cases h1 : atI z.cps.toList i with
    | none => rw [h1] at e'; cases e'
    | some c =>
      rw [h1] at e'
      have e2 := Option.some.inj e'
      subst e2
      exact .inr (.inr ⟨z, i, c, rfl, rfl, hz z rfl, h1, r _ B H _ δ q (Ex.refl B) E (.str _)⟩)
  | non => cases e
  | bl b => cases e
  | int j => cases e
theorem wr_ixT {ds : List PyData} {d : PyData} {i : Int} (e : atI ds i = some d) (q : k d δ) : WR K (rIx K) (.tuple ds) (.int i) δ k := wr_ix (x := .tuple ds) e (fun _ z => nomatch z) q
theorem wr_ixL {ds : List PyData} {d : PyData} {i : Int} (e : atI ds i = some d) (q : k d δ) : WR K (rIx K) (.list ds) (.int i) δ k := wr_ix (x := .list ds) e (fun _ z => nomatch z) q
/-- a place of an own list -/
theorem we_ixO {i : Nat} {ds : List PyData} {pin : Option Addr} (hi : δ[i]? = some (.ow (.lst pin ds))) (h : WE K tb δ fun y δ' => δ'[i]? = some (.ow (.lst pin ds)) ∧ ∃ j d, y = .int j ∧ atI ds j = some d ∧ k d δ') : WE K (tOp (rIx K) (tVar i) tb) δ k := fun C B H σ Q E q => by
  obtain ⟨a, u, e, n, z, _, vs, e1, r⟩ := E.sl i _ hi
  refine ⟨.ref a, e, ?_⟩
  refine h C B H σ _ E fun w B1 H1 y δ1 ⟨hi1, j, d, ey, ha, hk⟩ e2 E1 d1 => ?_
  subst ey
  cases d1
  obtain ⟨a1, u1, e3, n1, z1, _, vs1, e4, r1⟩ := E1.sl i _ hi1
  rw [e] at e3
  cases e3
  subst e4
  obtain ⟨x, h1, h2⟩ := atI_dp r1 ha
  exact .inl ⟨_, _, j, x, rfl, rfl, sq_of z1, h1, q x B1 H1 d δ1 hk e2 E1 h2⟩
/-! ### tests -/
theorem wt_test (h : WE K te δ fun x δ' => ∃ b, x = .bool b ∧ kb b δ') : WT K (tTest te) δ kb := fun C B H σ Q E q =>
  h C B H σ _ E fun v B1 H1 x δ1 ⟨b, e, hk⟩ e1 E1 d1 => by subst e; cases d1; exact ⟨b, rfl, q b B1 H1 δ1 hk e1 E1⟩
theorem wt_B (h : WE K te δ fun x δ' => ∃ b, x = .bool b ∧ kb b δ') : WT K (tB te) δ kb := wt_test h
/-- truth of a datum -/
def trD : PyData → Bool
  | .none => false
  | .bool b => b
  | .int i => i != 0
  | .str z => (z.length : Int) != 0
  | .list ds => !ds.isEmpty
  | .tuple ds => !ds.isEmpty
  | .dict _ => true
theorem isE_of {B : Hp} {vs : List V} {ds : List PyData} (h : DpAll K B vs ds) : vs.isEmpty = ds.isEmpty := by cases h <;> rfl
theorem tru_dp {B H : Hp} {v : V} {d : PyData} (e : Ex B H) (h : Dp K B v d) (hz : ∀ z, d = .str z → z.length ≤ sizeLine) : TruV K v H (trD d) := by
  cases h with
  | non => rfl
  | bl b => rfl
  | int i => rfl
  | str z => exact ⟨hz z rfl, rfl⟩
  | lst h a => exact .inl ⟨_, ex_l e h, by show (!_) = !_; rw [isE_of a]⟩
  | tup h a => exact .inr (.inl ⟨_, ex_t e h, by show (!_) = !_; rw [isE_of a]⟩)
def smallS : PyData → Prop | .str z => z.length ≤ sizeLine | _ => True
theorem smallS_of {d : PyData} (h : smallS d) : ∀ z, d = .str z → z.length ≤ sizeLine := fun z e => by subst e; exact h
def tTr (K : Fg) (ta : TE) : TT := fun σ H Q => ta σ H fun x H' => ∃ k, TruV K x H' k ∧ Q k H'
def TrK (x : PyData) (kb : Bool → Prop) : Prop := smallS x ∧ kb (trD x)
theorem tr_bool {b : Bool} {kb : Bool → Prop} (q : kb b) : TrK (.bool b) kb := ⟨trivial, q⟩
theorem tr_int {i : Int} {kb : Bool → Prop} (q : kb (i != 0)) : TrK (.int i) kb := ⟨trivial, q⟩
theorem tr_none {kb : Bool → Prop} (q : kb false) : TrK .none kb := ⟨trivial, q⟩
theorem tr_list {ds : List PyData} {kb : Bool → Prop} (q : kb (!ds.isEmpty)) : TrK (.list ds) kb := ⟨trivial, q⟩
theorem wt_tr (h : WE K te δ fun x δ' => TrK x fun b => kb b δ') : WT K (tTr K te) δ kb := fun C B H σ Q E q =>
  h C B H σ _ E fun v B1 H1 x δ1 ⟨hs, hk⟩ e1 E1 d1 => ⟨trD x, tru_dp E1.ex d1 (smallS_of hs), q _ B1 H1 δ1 hk e1 E1⟩
theorem pt_tr {X : Cx} {a : Expr} (ha : PE X a ta) (he : ∀ whole, isTrue a X.env whole = (do let v ← whole; standAt a.pos; holding [v] (truthy v)) := by intro _; rfl) : PT X a (tTr X.K ta) := pt_truth ha he
/-- an own list's, dict's truth -/
def obE : OB → Bool | .lst _ ds => !ds.isEmpty | .dct kvs => !kvs.isEmpty
theorem wt_trO {i : Nat} {ob : OB} (hi : δ[i]? = some (.ow ob)) (q : kb (obE ob) δ) : WT K (tTr K (tVar i)) δ kb := fun C B H σ Q E r => by
  obtain ⟨a, u, e, n, z, hr⟩ := E.sl i _ hi
  refine ⟨.ref a, e, obE ob, ?_, r _ B H δ q (Ex.refl B) E⟩
  cases ob with
  | lst pin ds =>
    obtain ⟨_, vs, e1, h⟩ := hr
    subst e1
    exact .inl ⟨vs, sq_of z, by show (!_) = !_; rw [isE_of h]⟩
  | dct kvs =>
    obtain ⟨ks, e1, h⟩ := hr
    subst e1
    exact .inr (.inr ⟨ks, z, by show (!_) = !_; cases h <;> rfl⟩)
theorem wt_and (h : WT K t δ fun c δ1 => (c = true → WT K u δ1 kb) ∧ (c = false → kb false δ1)) : WT K (tAnd t u) δ kb := fun C B H σ Q E q =>
  h C B H σ _ E fun c B1 H1 δ1 hk e1 E1 => by
    cases c with
    | true => exact (hk.1 rfl) C B1 H1 σ Q E1 fun b B2 H2 δ2 z e2 => q b B2 H2 δ2 z (e1.trans e2)
    | false => exact q false B1 H1 δ1 (hk.2 rfl) e1 E1
theorem wt_or (h : WT K t δ fun c δ1 => (c = true → kb true δ1) ∧ (c = false → WT K u δ1 kb)) : WT K (tOr t u) δ kb := fun C B H σ Q E q =>
  h C B H σ _ E fun c B1 H1 δ1 hk e1 E1 => by
    cases c with
    | true => exact q true B1 H1 δ1 (hk.1 rfl) e1 E1
    | false => exact (hk.2 rfl) C B1 H1 σ Q E1 fun b B2 H2 δ2 z e2 => q b B2 H2 δ2 z (e1.trans e2)
theorem wt_not (h : WT K t δ fun c δ1 => kb (!c) δ1) : WT K (tNot t) δ kb := fun C B H σ Q E q => h C B H σ _ E fun c B1 H1 δ1 hk e1 E1 => q (!c) B1 H1 δ1 hk e1 E1
def SpK (x : PyData) (yes : Prop) (no : Prop) : Prop := smallS x ∧ (trD x = true → yes) ∧ (trD x = false → no)
theorem sp_bool {b : Bool} {yes no : Prop} (q : (b = true → yes) ∧ (b = false → no)) : SpK (.bool b) yes no := ⟨trivial, q⟩
theorem we_andT (h : WE K ta δ fun x δ1 => SpK x (WE K tb δ1 k) (k x δ1)) : WE K (tAndT K ta tb) δ k := fun C B H σ Q E q =>
  h C B H σ _ E fun v B1 H1 x δ1 ⟨hs, h1, h2⟩ e1 E1 d1 => by
    refine ⟨trD x, tru_dp E1.ex d1 (smallS_of hs), ?_⟩
    cases hx : trD x with
    | true => exact (h1 hx) C B1 H1 σ Q E1 fun b B2 H2 d δ2 z e2 => q b B2 H2 d δ2 z (e1.trans e2)
    | false => exact q v B1 H1 x δ1 (h2 hx) e1 E1 d1
theorem we_orT (h : WE K ta δ fun x δ1 => SpK x (k x δ1) (WE K tb δ1 k)) : WE K (tOrT K ta tb) δ k := fun C B H σ Q E q =>
  h C B H σ _ E fun v B1 H1 x δ1 ⟨hs, h1, h2⟩ e1 E1 d1 => by
    refine ⟨trD x, tru_dp E1.ex d1 (smallS_of hs), ?_⟩
    cases hx : trD x with
    | true => exact q v B1 H1 x δ1 (h1 hx) e1 E1 d1
    | false => exact (h2 hx) C B1 H1 σ Q E1 fun b B2 H2 d δ2 z e2 => q b B2 H2 d δ2 z (e1.trans e2)
theorem we_notT (h : WE K ta δ fun x δ1 => TrK x fun b => k (.bool (!b)) δ1) : WE K (tNotT K ta) δ k := fun C B H σ Q E q =>
  h C B H σ _ E fun v B1 H1 x δ1 ⟨hs, h1⟩ e1 E1 d1 => ⟨trD x, tru_dp E1.ex d1 (smallS_of hs), q _ B1 H1 _ δ1 h1 e1 E1 (.bl _)⟩
theorem we_if (h : WT K t δ fun c δ1 => (c = true → WE K ta δ1 k) ∧ (c = false → WE K tb δ1 k)) : WE K (tIf t ta tb) δ k := fun C B H σ Q E q =>
  h C B H σ _ E fun c B1 H1 δ1 hk e1 E1 => by
    cases c with
    | true => exact (hk.1 rfl) C B1 H1 σ Q E1 fun b B2 H2 d δ2 z e2 => q b B2 H2 d δ2 z (e1.trans e2)
    | false => exact (hk.2 rfl) C B1 H1 σ Q E1 fun b B2 H2 d δ2 z e2 => q b B2 H2 d δ2 z (e1.trans e2)
/-- a < b < c, ints -/
theorem we_chain {r r' : R2} (h : WE K ta δ fun x δ1 => WE K tb δ1 fun y δ2 => WR K r x y δ2 fun z δ3 => ∃ b, z = .bool b ∧ (b = true → WE K tc δ3 fun w δ4 => WR K r' y w δ4 k) ∧ (b = false → k (.bool false) δ3)) : WE K (tChain r r' ta tb tc) δ k := fun C B H σ Q E q =>
  h C B H σ _ E fun v B1 H1 x δ1 h1 e1 E1 d1 => h1 C B1 H1 σ _ E1 fun w B2 H2 y δ2 h2 e2 E2 d2 => h2 C B2 H2 σ v w _ E2 (dp_mono e2 d1) d2 fun z B3 H3 d δ3 ⟨b, eb, h3, h4⟩ e3 E3 d3 => by
    subst eb
    cases d3
    refine ⟨b, rfl, ?_⟩
    cases b with
    | true => exact (h3 rfl) C B3 H3 σ _ E3 fun m B4 H4 n δ4 h5 e4 E4 d4 => h5 C B4 H4 σ w m Q E4 (dp_mono e4 (dp_mono e3 d2)) d4 fun z B5 H5 d δ5 h6 e5 => q z B5 H5 d δ5 h6 ((((e1.trans e2).trans e3).trans e4).trans e5)
    | false => exact q _ B3 H3 _ δ3 (h4 rfl) ((e1.trans e2).trans e3) E3 (.bl _)
/-- both ways of a bool that is a decided statement -/
theorem both {p : Prop} {ip : Decidable p} {X Y : Prop} (h1 : p → X) (h2 : ¬ p → Y) : (decide p = true → X) ∧ (decide p = false → Y) := ⟨fun h => h1 (of_decide_eq_true h), fun h => h2 (of_decide_eq_false h)⟩
theorem bothN {p : Prop} {ip : Decidable p} {X Y : Prop} (h1 : ¬ p → X) (h2 : p → Y) : ((!decide p) = true → X) ∧ ((!decide p) = false → Y) := ⟨fun h => h1 (by simpa using h), fun h => h2 (by simpa using h)⟩
theorem isT {X Y : Prop} (h : X) : (true = true → X) ∧ (true = false → Y) := ⟨fun _ => h, fun e => nomatch e⟩
theorem isF {X Y : Prop} (h : Y) : (false = true → X) ∧ (false = false → Y) := ⟨fun e => (nomatch e), fun _ => h⟩
theorem isTb {b : Bool} {X Y : Prop} (e : b = true) (h : X) : (b = true → X) ∧ (b = false → Y) := by subst e; exact isT h
theorem isFb {b : Bool} {X Y : Prop} (e : b = false) (h : Y) : (b = true → X) ∧ (b = false → Y) := by subst e; exact isF h
theorem isNT {X Y : Prop} (h : Y) : ((!true) = true → X) ∧ ((!true) = false → Y) := isF h
theorem isNF {X Y : Prop} (h : X) : ((!false) = true → X) ∧ ((!false) = false → Y) := isT h
theorem isDT {p : Prop} {ip : Decidable p} {X Y : Prop} (hp : p) (h : X) : (decide p = true → X) ∧ (decide p = false → Y) := isTb (decide_eq_true hp) h
theorem isDF {p : Prop} {ip : Decidable p} {X Y : Prop} (hp : ¬ p) (h : Y) : (decide p = true → X) ∧ (decide p = false → Y) := isFb (decide_eq_false hp) h
theorem isNDT {p : Prop} {ip : Decidable p} {X Y : Prop} (hp : ¬ p) (h : X) : ((!decide p) = true → X) ∧ ((!decide p) = false → Y) := isTb (by simp [hp]) h
theorem isNDF {p : Prop} {ip : Decidable p} {X Y : Prop} (hp : p) (h : Y) : ((!decide p) = true → X) ∧ ((!decide p) = false → Y) := isFb (by simp [hp]) h
theorem bb {b : Bool} {kb : Bool → Prop} (h : kb b) : ∃ c, PyData.bool b = .bool c ∧ kb c := ⟨b, rfl, h⟩
/-! ### arguments, displays -/
theorem wa_nil (q : ka [] δ) : WA K tNil δ ka := fun C B H σ Q E r => r _ B H _ δ q (Ex.refl B) E .nil
theorem wa_cons {tr : TA} (h : WE K te δ fun x δ1 => WA K tr δ1 fun ds δ2 => ka (x :: ds) δ2) : WA K (tCons te tr) δ ka := fun C B H σ Q E q =>
  h C B H σ _ E fun v B1 H1 x δ1 h1 e1 E1 d1 => h1 C B1 H1 σ _ E1 fun vs B2 H2 ds δ2 h2 e2 E2 d2 => q _ B2 H2 _ δ2 h2 (e1.trans e2) E2 (.cons (dp_mono e2 d1) d2)
theorem fz {B H : Hp} {σ : L2.St} {p : Addr} {o : HO} (E : En K C B H σ δ) (hp : H p = none) : En K C (grow B H (upd H p o)) (upd H p o) σ δ ∧ Ex B (grow B H (upd H p o)) ∧ grow B H (upd H p o) p = some o :=
  ⟨E.grow (Evl.Ex.new hp), grow_ex E.ex, by rw [grow_new hp]; exact upd_same⟩
theorem we_tup {ta : TA} (h : WA K ta δ fun ds δ' => ds.length ≤ 100000 ∧ k (.tuple ds) δ') : WE K (tTup ta) δ k := fun C B H σ Q E q =>
  h C B H σ _ E fun vs B1 H1 ds δ1 ⟨hl, hk⟩ e1 E1 d1 => ⟨Evl.sz_of (by rw [dpa_len d1]; exact hl), fun p hp => by
    obtain ⟨E2, e2, z⟩ := fz (o := .tup vs) E1 hp
    exact q _ _ _ _ δ1 hk (e1.trans e2) E2 (.tup (st_of z) (dpa_mono e2 d1))⟩
theorem wn_lst {ta : TA} {kn : OB → Dl → Prop} (h : WA K ta δ fun ds δ' => ds.length ≤ 100000 ∧ kn (.lst none ds) δ') : WN K (tLst ta) δ kn := fun C B H σ Q E q =>
  h C B H σ _ E fun vs B1 H1 ds δ1 ⟨hl, hk⟩ e1 E1 d1 => ⟨Evl.sz_of (by rw [dpa_len d1]; exact hl), fun p hp => q p _ B1 H1 _ δ1 hk e1 E1 hp ⟨fun _ z => (nomatch z), vs, rfl, d1⟩⟩
/-- a new list, kept as it is from now on -/
def obD : OB → PyData | .lst _ ds => .list ds | .dct kvs => .dict (kvs.map fun p => (match p.1 with | .inl i => .int i | .inr x => .str x, p.2))
theorem we_new (h : WN K te δ fun ob δ' => ∃ pin ds, ob = .lst pin ds ∧ k (.list ds) δ') : WE K te δ k := fun C B H σ Q E q =>
  h C B H σ _ E fun p u B1 H1 ob δ1 ⟨pin, ds, eo, hk⟩ e1 E1 hp r => by
    subst eo
    obtain ⟨_, vs, eu, r⟩ := r
    subst eu
    obtain ⟨E2, e2, z⟩ := fz (o := .lst vs) E1 hp
    exact q _ _ _ _ δ1 hk (e1.trans e2) E2 (.lst (sq_of z) (dpa_mono e2 r))
/-! ### calls -/
theorem we_cb {r : List V → Hp → VK → Prop} {ta : TA} (h : WA K ta δ fun ds δ' => WC K r ds δ' k) : WE K (tCB r ta) δ k := fun C B H σ Q E q =>
  h C B H σ _ E fun vs B1 H1 ds δ1 hk e1 E1 d1 => hk C B1 H1 σ vs Q E1 d1 fun v B2 H2 d δ2 h2 e2 => q v B2 H2 d δ2 h2 (e1.trans e2)
/-- a pure def's promise: S ds post, a transformer over data -/
abbrev PS1 := List PyData → (PyData → Prop) → Prop
def spP (K : Fg) (S : PS1) : Sp := fun vs H Q _ => ∃ B ds p, Ex B H ∧ DpAll K B vs ds ∧ S ds p ∧ ∀ d v H', p d → Ex H H' → Dp K (grow B H H') v d → Q v H'
theorem we_call {S : PS1} {E : XK} {ta : TA} (h : WA K ta δ fun ds δ' => S ds fun d => k d δ') : WE K (tCall (spP K S) [] E ta) δ k := fun C B H σ Q En q =>
  h C B H σ _ En fun vs B1 H1 ds δ1 hk e1 E1 d1 => by
    refine ⟨B1, ds, _, E1.ex, by rw [List.append_nil]; exact d1, hk, fun d v H' hd x z => ?_⟩
    exact q v _ H' d δ1 hd (e1.trans (grow_ex E1.ex)) (E1.grow x) z
/-- a def that changes the list that is its first argument -/
abbrev PS2 := List PyData → List PyData → (PyData → List PyData → Prop) → Prop
def spH (K : Fg) (S : PS2) : Sp := fun vs H Q _ => ∃ B ha hv hds us ds p, vs = .ref ha :: us ∧ Ex B H ∧ B ha = none ∧ H ha = some (.lst hv) ∧ DpAll K B hv hds ∧ DpAll K B us ds ∧
  S hds ds p ∧ ∀ d hds' v H' hv', p d hds' → (∀ a o, a ≠ ha → H a = some o → H' a = some o) → H' ha = some (.lst hv') → DpAll K (grow B H H') hv' hds' → Dp K (grow B H H') v d → Q v H'
theorem En.hand {B H H' : Hp} {σ : L2.St} {i : Nat} {ha : Addr} {hv hv' : List V} {hds hds' : List PyData} (E : En K C B H σ δ) {pin : Option Addr} (hi : δ[i]? = some (.ow (.lst pin hds))) (hs : σ[i]? = some (some (.ref ha))) (hH : H ha = some (.lst hv))
    (k1 : ∀ a o, a ≠ ha → H a = some o → H' a = some o) (k2 : H' ha = some (.lst hv')) (k3 : DpAll K (Wk.grow B H H') hv' hds') : En K C (Wk.grow B H H') H' σ (δ.set i (.ow (.lst pin hds'))) := by
  -- first the heap with ha as it was, then the change at ha
  have x : Ex H (upd H' ha (.lst hv)) := fun a o h => by
    by_cases e : a = ha
    · subst e; rw [upd_same]; rw [hH] at h; exact h
    · rw [upd_ne e]; exact k1 a o e h
  have E1 := E.grow x
  have eg : Wk.grow B H (upd H' ha (.lst hv)) = Wk.grow B H H' := by
    funext a
    unfold Wk.grow
    split
    · rename_i hn
      have : a ≠ ha := fun e => by subst e; rw [hH] at hn; cases hn
      rw [upd_ne this]
    · rfl
  rw [eg] at E1
  have E2 := E1.mut hi hs (ob' := .lst pin hds') (u := .lst hv') ⟨(E.sl i _ hi |> fun ⟨a, u, e, _, _, r⟩ => fun q hq => by
    rw [hs] at e; cases e; exact r.1 q hq), hv', rfl, k3⟩
  have eu : upd (upd H' ha (.lst hv)) ha (.lst hv') = H' := by
    rw [upd_upd]
    funext a
    by_cases e : a = ha
    · subst e; rw [upd_same]; exact k2.symm
    · rw [upd_ne e]
  rw [eu] at E2
  exact E2
theorem we_callH {S : PS2} {E : XK} {ta : TA} {i : Nat} (h : WA K ta δ fun ds δ' => ∃ pin hds, δ'[i]? = some (.ow (.lst pin hds)) ∧ S hds ds fun d hds' => k d (δ'.set i (.ow (.lst pin hds')))) (hi : ∃ o, δ[i]? = some (.ow o)) :
    WE K (tCall (spH K S) [] E (tCons (tVar i) ta)) δ k := fun C B H σ Q En0 q => by
  obtain ⟨o, ho⟩ := hi
  obtain ⟨a, _, e, _⟩ := En0.sl i _ ho
  refine ⟨.ref a, e, ?_⟩
  refine h C B H σ _ En0 fun us B1 H1 ds δ1 ⟨pin, hds, hi1, hk⟩ e1 E1 d1 => ?_
  obtain ⟨a1, u1, e3, n1, z1, _, hv, eu, r1⟩ := E1.sl i _ hi1
  rw [e] at e3
  cases e3
  subst eu
  refine ⟨B1, a, hv, hds, us, ds, _, by rw [List.append_nil], E1.ex, n1, z1, r1, d1, hk, fun d hds' v H' hv' hd k1 k2 k3 z => ?_⟩
  exact q v _ H' d _ hd (e1.trans (grow_ex E1.ex)) (E1.hand hi1 e z1 k1 k2 k3) z
end
end Wk
set_option Elab.async false
set_option linter.all false
set_option maxRecDepth 100000
set_option maxHeartbeats 4000000
/-! Statements, loops, comprehensions, built-ins, a def's body. -/
namespace Wk
open PySem L2
open Evl (Ex ex_l ex_t ex_rd fresh_back sq_of st_of)
open RZ (ItzT iZipA pi_zipA)
section
variable {K : Fg} {C : Ctx} {δ : Dl} {ta tb te tc : TE} {t u : TT} {k : PyData → Dl → Prop} {kb : Bool → Dl → Prop} {ka : List PyData → Dl → Prop} {nx bk ct : Dl → Prop} {rt : PyData → Dl → Prop} {ts tu : TS} {g : TG}
/-! ### statements -/
theorem ws_seq (h : WS K C ts δ (fun δ' => WS K C tu δ' nx rt bk ct) rt bk ct) : WS K C (tSeq ts tu) δ nx rt bk ct := fun B H σ D E l =>
  h B H σ { D with nx := tu D } E ⟨fun σ' B' H' δ' hs e E' => hs B' H' σ' D E' (l.up e), l.rt, l.bk, l.ct⟩
theorem ws_next (h : nx δ) : WS K C tNext δ nx rt bk ct := fun B H σ D E l => l.nx σ B H δ h (Ex.refl B) E
theorem ws_brk (h : bk δ) : WS K C tBreak δ nx rt bk ct := fun B H σ D E l => l.bk σ B H δ h (Ex.refl B) E
theorem ws_cont (h : ct δ) : WS K C tCont δ nx rt bk ct := fun B H σ D E l => l.ct σ B H δ h (Ex.refl B) E
theorem ws_drop (h : WE K te δ fun _ δ' => nx δ') : WS K C (tDrop te) δ nx rt bk ct := fun B H σ D E l => h C B H σ _ E fun v B' H' d δ' z e E' _ => l.nx σ B' H' δ' z e E'
theorem ws_ret (h : WE K te δ rt) : WS K C (tRet te) δ nx rt bk ct := fun B H σ D E l => h C B H σ _ E fun v B' H' d δ' z e E' q => l.rt v σ B' H' d δ' z e E' q
theorem ws_retN (h : rt .none δ) : WS K C tRetN δ nx rt bk ct := fun B H σ D E l => l.rt .non σ B H .none δ h (Ex.refl B) E .non
theorem ws_if (h : WT K t δ fun b δ' => (b = true → WS K C ts δ' nx rt bk ct) ∧ (b = false → WS K C tu δ' nx rt bk ct)) : WS K C (tIfS t ts tu) δ nx rt bk ct := fun B H σ D E l =>
  h C B H σ _ E fun b B' H' δ' z e E' => by
    cases b with
    | true => exact (z.1 rfl) B' H' σ D E' (l.up e)
    | false => exact (z.2 rfl) B' H' σ D E' (l.up e)
theorem ws_asg (h : WE K te δ fun d δ' => WG K g d δ' nx) : WS K C (tAsg te g) δ nx rt bk ct := fun B H σ D E l =>
  h C B H σ _ E fun v B1 H1 d δ1 z e E1 q => z C B1 H1 σ v _ E1 q fun σ' B2 H2 δ2 y e2 E2 => l.nx σ' B2 H2 δ2 y (e.trans e2) E2
theorem wg_name {i : Nat} {d : PyData} {kg : Dl → Prop} (h : kg (δ.set i (.im d))) : WG K (gName i) d δ kg := fun C B H σ v Q E q r => r _ B H _ h (Ex.refl B) (E.set q)
def WGs (K : Fg) (g : TGs) (ds : List PyData) (δ : Dl) (k : Dl → Prop) : Prop := ∀ (C : Ctx) (B H : Hp) (σ : L2.St) (vs : List V) (Q : L2.St → Hp → Prop), En K C B H σ δ → DpAll K B vs ds →
  (∀ σ' B' H' δ', k δ' → Ex B B' → En K C B' H' σ' δ' → Q σ' H') → g vs σ H Q
theorem wgs_nil {kg : Dl → Prop} (h : kg δ) : WGs K gNil [] δ kg := fun C B H σ vs Q E q r => by cases q; exact ⟨rfl, r σ B H δ h (Ex.refl B) E⟩
theorem wgs_cons {g' : TGs} {d : PyData} {ds : List PyData} {kg : Dl → Prop} (h : WG K g d δ fun δ' => WGs K g' ds δ' kg) : WGs K (gCons g g') (d :: ds) δ kg := fun C B H σ vs Q E q r => by
  cases q with
  | cons q1 q2 => exact ⟨_, _, rfl, h C B H σ _ _ E q1 fun σ' B1 H1 δ1 z e E1 => z C B1 H1 σ' _ Q E1 (dpa_mono e q2) fun σ2 B2 H2 δ2 y e2 E2 => r σ2 B2 H2 δ2 y (e.trans e2) E2⟩
theorem wg_tup {n : Nat} {g' : TGs} {ds : List PyData} {kg : Dl → Prop} (hn : ds.length = n) (h : WGs K g' ds δ kg) : WG K (gTup K n g') (.tuple ds) δ kg := fun C B H σ v Q E q r => by
  cases q with
  | tup a z => exact ⟨_, _, rfl, ex_t E.ex a, by rw [dpa_len z]; exact hn, h C B H σ _ Q E z r⟩
theorem ws_par {i j : Nat} {ta : TA} (h : WA K ta δ fun ds δ' => ∃ d e, ds = [d, e] ∧ nx ((δ'.set i (.im d)).set j (.im e))) : WS K C (tPar i j ta) δ nx rt bk ct := fun B H σ D E l =>
  h C B H σ _ E fun vs B1 H1 ds δ1 ⟨d, e, he, z⟩ e1 E1 q => by
    subst he
    cases q with
    | cons q1 q2 =>
      cases q2 with
      | cons q2 q3 =>
        cases q3
        exact ⟨_, _, rfl, l.nx _ B1 H1 _ z e1 ((E1.set q1).set q2)⟩
/-- a new list or dict at a name -/
theorem ws_asgN {i : Nat} (h : WN K te δ fun ob δ' => nx (δ'.set i (.ow ob))) : WS K C (tAsg te (gName i)) δ nx rt bk ct := fun B H σ D E l =>
  h C B H σ _ E fun p u B1 H1 ob δ1 z e E1 hp r => l.nx _ B1 _ _ z e (E1.setOw hp r)
theorem ws_aug {i : Nat} {f : Int → Int → Int} (h : WE K te δ fun y δ' => ∃ a b, δ[i]? = some (.im (.int a)) ∧ y = .int b ∧ nx (δ'.set i (.im (.int (f a b))))) (hi : ∃ a, δ[i]? = some (.im (.int a))) : WS K C (tAug i te (ipI f)) δ nx rt bk ct := fun B H σ D E l => by
  obtain ⟨a, ha⟩ := hi
  obtain ⟨v, e, q⟩ := E.var ha
  cases q
  refine ⟨_, e, h C B H σ _ E fun w B1 H1 y δ1 ⟨a', b, e1, e2, z⟩ x E1 q1 => ?_⟩
  rw [ha] at e1
  cases e1
  subst e2
  cases q1
  exact ⟨a, b, rfl, rfl, l.nx _ B1 H1 _ z x (E1.set (.int _))⟩
/-- l.append(e), l an own list -/
theorem ws_app {i : Nat} (h : WE K te δ fun d δ' => ∃ pin ds, δ'[i]? = some (.ow (.lst pin ds)) ∧ ds.length < 100000 ∧ nx (δ'.set i (.ow (.lst pin (ds ++ [d]))))) (hi : ∃ pin ds, δ[i]? = some (.ow (.lst pin ds))) : WS K C (tDrop (tBM K "list" rAppend (tVar i) (tCons te tNil))) δ nx rt bk ct := fun B H σ D E l => by
  obtain ⟨pin0, ds0, hi⟩ := hi
  obtain ⟨a, u, e, n, z, _, vs, e0, r⟩ := E.sl i _ hi
  subst e0
  refine ⟨.ref a, e, .inl ⟨rfl, vs, sq_of z⟩, h C B H σ _ E fun w B1 H1 d δ1 ⟨pin, ds, h1, hl, hk⟩ x E1 q1 => ?_⟩
  obtain ⟨a1, u1, e1, n1, z1, hpin, vs1, e2, r1⟩ := E1.sl i _ h1
  subst e2
  rw [e] at e1
  cases e1
  exact ⟨a, vs1, w, rfl, rfl, z1, Evl.sz_lt (by rw [dpa_len r1]; exact hl), l.nx _ B1 _ _ hk x (E1.mut h1 e ⟨hpin, _, rfl, dpa_snoc r1 q1⟩)⟩
/-- l[j] = e, l an own list -/
theorem ws_setL {i : Nat} (h : WE K te δ fun d δ1 => (∃ o, δ1[i]? = some (.ow o)) ∧ WE K tb δ1 fun y δ2 => ∃ pin ds j m, δ2[i]? = some (.ow (.lst pin ds)) ∧ y = .int j ∧ ixN ds.length j = some m ∧ nx (δ2.set i (.ow (.lst pin (ds.set m d))))) :
    WS K C (tAsg te (gSub (tVar i) tb rSetL)) δ nx rt bk ct := fun B H σ D E l =>
  h C B H σ _ E fun w B1 H1 d δ1 ⟨⟨o, ho⟩, h1⟩ x E1 q1 => by
    obtain ⟨a, u, e, n, z, _⟩ := E1.sl i _ ho
    refine ⟨.ref a, e, h1 C B1 H1 σ _ E1 fun v B2 H2 y δ2 ⟨pin, ds, j, m, h2, ey, hm, hk⟩ x2 E2 q2 => ?_⟩
    subst ey
    cases q2
    obtain ⟨a1, u1, e1, n1, z1, hpin, vs1, e2, r1⟩ := E2.sl i _ h2
    subst e2
    rw [e] at e1
    cases e1
    exact ⟨a, vs1, j, m, rfl, rfl, z1, by rw [dpa_len r1]; exact hm, l.nx _ B2 _ _ hk (x.trans x2) (E2.mut h2 e ⟨hpin, _, rfl, dpa_set m (dp_mono x2 q1) r1⟩)⟩
/-- an own list is kept as it is from now on -/
theorem ws_freeze {i : Nat} {pin : Option Addr} {ds : List PyData} (hi : δ[i]? = some (.ow (.lst pin ds))) (hM : ∀ a, ¬ C.M a) (h : WS K C ts (δ.set i (.im (.list ds))) nx rt bk ct) : WS K C ts δ nx rt bk ct := fun B H σ D E l => by
  obtain ⟨a, u, e, n, z, _, vs, e0, r⟩ := E.sl i _ hi
  subst e0
  have hlt : i < δ.length := (List.getElem?_eq_some_iff.mp hi).1
  have h0 : C.H0 a = none := (E.own i _ a hi e).resolve_left (hM a)
  have hne : ∀ {b : Addr} {o : HO}, B b = some o → b ≠ a := fun q w => by subst w; rw [n] at q; cases q
  have xB : Ex B (upd B a (.lst vs)) := Evl.Ex.new n
  refine h (upd B a (.lst vs)) H σ D ⟨fun b o q => ?_, fun b o q => xB b o (E.b0 b o q), E.fr, E.pr, fun b o q => ?_, by rw [List.length_set]; exact E.len, fun j s q => ?_, fun j ob b q w => ?_, fun j m ob ob' b q q' w w' => ?_⟩ (l.up xB)
  · by_cases eb : b = a
    · subst eb; rw [upd_same] at q; cases q; exact z
    · rw [upd_ne eb] at q; exact E.ex b o q
  · by_cases eb : b = a
    · subst eb; exact .inr h0
    · rw [upd_ne eb] at q; exact E.bf b o q
  · by_cases ej : i = j
    · subst ej
      rw [List.getElem?_set_self hlt] at q
      cases q
      exact ⟨_, e, .lst (sq_of upd_same) (dpa_mono xB r)⟩
    · rw [List.getElem?_set_ne ej] at q
      have y := E.sl j s q
      cases s with
      | un => trivial
      | im d => obtain ⟨v, y1, y2⟩ := y; exact ⟨v, y1, dp_mono xB y2⟩
      | vx φ => obtain ⟨v, y1, y2⟩ := y; exact ⟨v, y1, φ.up _ _ _ xB y2⟩
      | ow ob =>
        obtain ⟨b, w, y1, y2, y3, y4⟩ := y
        have nb : b ≠ a := fun e2 => by subst e2; exact ej (E.dis i j _ _ _ hi q e y1)
        exact ⟨b, w, y1, by rw [upd_ne nb]; exact y2, y3, y4.mono xB⟩
  · by_cases ej : i = j
    · subst ej; rw [List.getElem?_set_self hlt] at q; cases q
    · rw [List.getElem?_set_ne ej] at q; exact E.own j ob b q w
  · by_cases ej : i = j
    · subst ej; rw [List.getElem?_set_self hlt] at q; cases q
    · by_cases em : i = m
      · subst em; rw [List.getElem?_set_self hlt] at q'; cases q'
      · rw [List.getElem?_set_ne ej] at q; rw [List.getElem?_set_ne em] at q'; exact E.dis j m ob ob' b q q' w w'
theorem ws_weak {δ' : Dl} (hl : δ'.length = δ.length) (h : ∀ (i : Nat) (s : SV), δ'[i]? = some s → s = .un ∨ δ[i]? = some s) (q : WS K C ts δ' nx rt bk ct) : WS K C ts δ nx rt bk ct := fun B H σ D E l =>
  q B H σ D (E.weak (by rw [hl]; exact E.len) fun i s z => (h i s z).imp id fun y => ⟨y, rfl⟩) l
theorem WS.mono {nx' bk' ct' : Dl → Prop} {rt' : PyData → Dl → Prop} (h : WS K C ts δ nx rt bk ct) (h1 : ∀ δ', nx δ' → nx' δ') (h2 : ∀ d δ', rt d δ' → rt' d δ') (h3 : ∀ δ', bk δ' → bk' δ') (h4 : ∀ δ', ct δ' → ct' δ') : WS K C ts δ nx' rt' bk' ct' := fun B H σ D E l =>
  h B H σ D E ⟨fun σ' B' H' δ' z => l.nx σ' B' H' δ' (h1 δ' z), fun v σ' B' H' d δ' z => l.rt v σ' B' H' d δ' (h2 d δ' z), fun σ' B' H' δ' z => l.bk σ' B' H' δ' (h3 δ' z), fun σ' B' H' δ' z => l.ct σ' B' H' δ' (h4 δ' z)⟩
/-! ### while -/
theorem ws_while (I : Nat → Dl → Prop) (m0 : Nat) (h0 : I m0 δ) (hs : ∀ m δ, I m δ → WT K t δ fun b δ' => (b = true → WS K C ts δ' (fun δ2 => ∃ m', m' < m ∧ I m' δ2) rt nx (fun δ2 => ∃ m', m' < m ∧ I m' δ2)) ∧ (b = false → nx δ')) :
    WS K C (tWhile t ts) δ nx rt bk ct := fun B H σ D E l => by
  refine ⟨fun m σ' H' => ∃ B' δ', I m δ' ∧ Ex B B' ∧ En K C B' H' σ' δ', ⟨m0, B, δ, h0, Ex.refl B, E⟩, fun m σ1 H1 ⟨B1, δ1, i1, e1, E1⟩ => ?_⟩
  refine hs m δ1 i1 C B1 H1 σ1 _ E1 fun b B2 H2 δ2 z e2 E2 => ?_
  cases b with
  | true =>
    refine ⟨fun σ' H' => ∃ m', m' < m ∧ ∃ B' δ', I m' δ' ∧ Ex B B' ∧ En K C B' H' σ' δ', fun σ' H' z => z, ?_⟩
    have again : ∀ σ' B' H' δ', (∃ m', m' < m ∧ I m' δ') → Ex B2 B' → En K C B' H' σ' δ' → ∃ m', m' < m ∧ ∃ B' δ', I m' δ' ∧ Ex B B' ∧ En K C B' H' σ' δ' := fun σ' B' H' δ' ⟨m', lt, i'⟩ e E' => ⟨m', lt, B', δ', i', (e1.trans e2).trans e, E'⟩
    exact (z.1 rfl) B2 H2 σ1 _ E2 ⟨again, fun v σ' B' H' d δ' y e => l.rt v σ' B' H' d δ' y ((e1.trans e2).trans e), fun σ' B' H' δ' y e => l.nx σ' B' H' δ' y ((e1.trans e2).trans e), again⟩
  | false => exact l.nx σ1 B2 H2 δ2 (z.2 rfl) (e1.trans e2) E2
/-! ### what is walked -/
def ItD (K : Fg) (B : Hp) (J : It) (ds : List PyData) : Prop := ∀ B' H, Ex B B' → Ex B' H →
  (∀ i, i < ds.length → J.go i H) ∧ (∀ i x H', i < ds.length → J.yld i H x H' → ∃ d, ds[i]? = some d ∧ Ex H H' ∧ Dp K (Wk.grow B' H H') x d) ∧ J.stop ds.length H
def WI (K : Fg) (wi : TI) (δ : Dl) (ki : List PyData → Dl → Prop) : Prop := ∀ (C : Ctx) (B H : Hp) (σ : L2.St) (R : It → Hp → Prop), En K C B H σ δ →
  (∀ J B' H' ds δ', ki ds δ' → Ex B B' → En K C B' H' σ δ' → ItD K B' J ds → R J H') → wi σ H R
theorem grow_self {B H : Hp} (e : Ex B H) : Ex B (Wk.grow B H H) := grow_ex e
theorem itd_list {B : Hp} {a : Addr} {vs : List V} {ds : List PyData} (h : SqL K B a vs) (r : DpAll K B vs ds) : ItD K B (Itl K a) ds := fun B' H e1 e2 => by
  have hH : SqL K H a vs := ex_l (e1.trans e2) h
  have hl := dpa_len r
  refine ⟨fun i hi => ⟨vs, vs[i]'(by omega), hH, by simp [hl, hi]⟩, fun i x H' _ ⟨e, y⟩ => ?_, ⟨vs, hH, by omega⟩⟩
  subst e
  obtain ⟨d, h1, h2⟩ := dpa_at' r (y vs hH)
  exact ⟨d, h1, Ex.refl _, dp_mono (e1.trans (grow_self e2)) h2⟩
theorem itd_tup {B : Hp} {a : Addr} {vs : List V} {ds : List PyData} (h : SqT K B a vs) (r : DpAll K B vs ds) : ItD K B (Itt K a) ds := fun B' H e1 e2 => by
  have hH : SqT K H a vs := ex_t (e1.trans e2) h
  have hl := dpa_len r
  refine ⟨fun i hi => ⟨vs, vs[i]'(by omega), hH, by simp [hl, hi]⟩, fun i x H' _ ⟨e, y⟩ => ?_, ⟨vs, hH, by omega⟩⟩
  subst e
  obtain ⟨d, h1, h2⟩ := dpa_at' r (y vs hH)
  exact ⟨d, h1, Ex.refl _, dp_mono (e1.trans (grow_self e2)) h2⟩
def rangeD (lo : Int) (n : Nat) : List PyData := (List.range n).map fun i => .int (lo + (i : Nat))
theorem rangeD_at {lo : Int} {n i : Nat} {d : PyData} : (rangeD lo n)[i]? = some d ↔ i < n ∧ d = .int (lo + (i : Nat)) := by
  unfold rangeD
  rw [List.getElem?_map]
  by_cases h : i < n
  · rw [List.getElem?_range h]
    constructor
    · intro e; exact ⟨h, (Option.some.inj e).symm⟩
    · intro ⟨_, e⟩; rw [e]; rfl
  · rw [List.getElem?_eq_none (by simpa using h)]
    constructor
    · intro e; cases e
    · intro ⟨z, _⟩; exact absurd z h
theorem rangeD_len {lo : Int} {n : Nat} : (rangeD lo n).length = n := by unfold rangeD; rw [List.length_map, List.length_range]
theorem itd_range {B : Hp} {lo : Int} {n : Nat} : ItD K B (Itr lo n) (rangeD lo n) := fun B' H e1 e2 => by
  refine ⟨fun i hi => by rw [rangeD_len] at hi; exact hi, fun i x H' hi ⟨e, y⟩ => ?_, by rw [rangeD_len]; exact Nat.le_refl _⟩
  subst e y
  rw [rangeD_len] at hi
  exact ⟨_, rangeD_at.mpr ⟨hi, rfl⟩, Ex.refl _, .int _⟩
def rangeC (lo c : Int) (n : Nat) : List PyData := (List.range n).map fun i => .int (lo + (i : Nat) * c)
theorem rangeC_at {lo c : Int} {n i : Nat} (h : i < n) : (rangeC lo c n)[i]? = some (.int (lo + (i : Nat) * c)) := by
  unfold rangeC
  rw [List.getElem?_map, List.getElem?_range h]; rfl
theorem rangeC_len {lo c : Int} {n : Nat} : (rangeC lo c n).length = n := by unfold rangeC; rw [List.length_map, List.length_range]
theorem itd_rangeC {B : Hp} {lo c : Int} {n : Nat} : ItD K B (Itc lo c n) (rangeC lo c n) := fun B' H e1 e2 => by
  refine ⟨fun i hi => by rw [rangeC_len] at hi; exact hi, fun i x H' hi ⟨e, y⟩ => ?_, by rw [rangeC_len]; exact Nat.le_refl _⟩
  subst e y
  rw [rangeC_len] at hi
  exact ⟨_, rangeC_at hi, Ex.refl _, .int _⟩
theorem dp_newtup {B' H : Hp} {T : Addr} {vs : List V} {ds : List PyData} (e : Ex B' H) (hT : H T = none) (r : DpAll K B' vs ds) : Dp K (Wk.grow B' H (upd H T (.tup vs))) (.ref T) (.tuple ds) :=
  .tup (st_of (by rw [grow_new hT]; exact upd_same)) (dpa_mono (grow_ex e) r)
theorem itd_enum {B : Hp} {a : Addr} {vs : List V} {ds : List PyData} (h : SqL K B a vs) (r : DpAll K B vs ds) : ItD K B (Ite K a) (ds.zipIdx.map fun p => .tuple [.int (p.2 : Nat), p.1]) := fun B' H e1 e2 => by
  have hH : SqL K H a vs := ex_l (e1.trans e2) h
  have hl := dpa_len r
  have hz : (ds.zipIdx.map fun p => PyData.tuple [.int (p.2 : Nat), p.1]).length = ds.length := by rw [List.length_map, List.length_zipIdx]
  refine ⟨fun i hi => by rw [hz] at hi; exact ⟨vs, vs[i]'(by omega), hH, by simp [hl, hi]⟩, fun i v H' hi y => ?_, ⟨vs, hH, by omega⟩⟩
  obtain ⟨T, x, e, hT, e', y⟩ := y
  subst e e'
  obtain ⟨d, h1, h2⟩ := dpa_at' r (y vs hH)
  refine ⟨.tuple [.int (i : Nat), d], ?_, Evl.Ex.new hT, dp_newtup e2 hT (.cons (.int _) (.cons (dp_mono e1 h2) .nil))⟩
  rw [List.getElem?_map, List.getElem?_zipIdx, h1]
  simp
theorem itd_zip {B : Hp} {a b : Addr} {vs ws : List V} {ds es : List PyData} (h : SqL K B a vs) (r : DpAll K B vs ds) (h' : SqL K B b ws) (r' : DpAll K B ws es) : ItD K B (Itz K a b) ((ds.zip es).map fun p => .tuple [p.1, p.2]) := fun B' H e1 e2 => by
  have hH : SqL K H a vs := ex_l (e1.trans e2) h
  have hH' : SqL K H b ws := ex_l (e1.trans e2) h'
  have hl := dpa_len r
  have hl' := dpa_len r'
  have hz : ((ds.zip es).map fun p => PyData.tuple [p.1, p.2]).length = min ds.length es.length := by rw [List.length_map, List.length_zip]
  refine ⟨fun i hi => by rw [hz] at hi; exact ⟨vs, ws, vs[i]'(by omega), ws[i]'(by omega), hH, hH', by simp, by simp⟩, fun i v H' hi y => ?_, ⟨vs, ws, hH, hH', by rw [hz]; omega⟩⟩
  obtain ⟨T, x, y', e, hT, e', y1, y2⟩ := y
  subst e e'
  obtain ⟨d, h1, h2⟩ := dpa_at' r (y1 vs hH)
  obtain ⟨d', h3, h4⟩ := dpa_at' r' (y2 ws hH')
  refine ⟨.tuple [d, d'], ?_, Evl.Ex.new hT, dp_newtup e2 hT (.cons (dp_mono e1 h2) (.cons (dp_mono e1 h4) .nil))⟩
  rw [List.getElem?_map, (show (ds.zip es)[i]? = some (d, d') from List.getElem?_zip_eq_some.mpr ⟨h1, h3⟩)]
  rfl
theorem itd_zipT {B : Hp} {a b : Addr} {vs ws : List V} {ds es : List PyData} (h : SqT K B a vs) (r : DpAll K B vs ds) (h' : SqT K B b ws) (r' : DpAll K B ws es) : ItD K B (ItzT K a b) ((ds.zip es).map fun p => .tuple [p.1, p.2]) := fun B' H e1 e2 => by
  have hH : SqT K H a vs := ex_t (e1.trans e2) h
  have hH' : SqT K H b ws := ex_t (e1.trans e2) h'
  have hl := dpa_len r
  have hl' := dpa_len r'
  have hz : ((ds.zip es).map fun p => PyData.tuple [p.1, p.2]).length = min ds.length es.length := by rw [List.length_map, List.length_zip]
  refine ⟨fun i hi => by rw [hz] at hi; exact ⟨vs, ws, vs[i]'(by omega), ws[i]'(by omega), hH, hH', by simp, by simp⟩, fun i v H' hi y => ?_, ⟨vs, ws, hH, hH', by rw [hz]; omega⟩⟩
  obtain ⟨T, x, y', e, hT, e', y1, y2⟩ := y
  subst e e'
  obtain ⟨d, h1, h2⟩ := dpa_at' r (y1 vs hH)
  obtain ⟨d', h3, h4⟩ := dpa_at' r' (y2 ws hH')
  refine ⟨.tuple [d, d'], ?_, Evl.Ex.new hT, dp_newtup e2 hT (.cons (dp_mono e1 h2) (.cons (dp_mono e1 h4) .nil))⟩
  rw [List.getElem?_map, (show (ds.zip es)[i]? = some (d, d') from List.getElem?_zip_eq_some.mpr ⟨h1, h3⟩)]
  rfl
theorem itd_str {B : Hp} {x : Str} : ItD K B (Its x) (x.cps.toList.map fun c => .str ⟨#[c]⟩) := fun B' H e1 e2 => by
  have hz : (x.cps.toList.map fun c => PyData.str ⟨#[c]⟩).length = x.cps.size := by rw [List.length_map, Array.length_toList]
  refine ⟨fun i hi => by rw [hz] at hi; exact hi, fun i v H' hi ⟨e, c, h1, h2⟩ => ?_, by rw [hz]; exact Nat.le_refl _⟩
  subst e h2
  refine ⟨.str ⟨#[c]⟩, ?_, Ex.refl _, .str _⟩
  rw [List.getElem?_map, Array.getElem?_toList, h1]
  rfl
/-- a list, a tuple or a text, walked -/
def iAny (K : Fg) (tl : TE) : TI := fun σ H R => tl σ H fun x H1 => (∃ a, x = .ref a ∧ ((∃ xs, SqL K H1 a xs) ∧ R (Itl K a) H1 ∨ (∃ xs, SqT K H1 a xs) ∧ R (Itt K a) H1)) ∨ ∃ z, x = .str z ∧ R (Its z) H1
theorem pi_any {X : Cx} {tg l : Expr} {tl : TE} (hl : PE X l tl) : PI X tg l (iAny X.K tl) := by
  refine ⟨fun pins s σ H R I h => ?_⟩
  refine thn (hl.run pins s σ H _ I h) fun v s1 ⟨x, H1, I1, r1, q1⟩ => ?_
  -- one of the three rules, each run at a value that is known
  rcases q1 with ⟨a, e, ⟨⟨xs, hq⟩, q⟩ | ⟨⟨xs, hq⟩, q⟩⟩ | ⟨z, e, q⟩
  · subst e
    cases r1
    obtain ⟨its, rv, p, hz⟩ := I1.list hq
    refine PySem.wpAny_pyIter_list p.isList ?_
    refine ⟨s1.heap.objs.size, [s1.heap.objs.size], _, _, H1, rfl, I1.kept (t' := s1.toks) fun b o e => Heap.get?_push_of_some _ e, turn_list a _, ⟨_, Heap.get?_push_size _ rfl, rfl, rfl⟩, fun b hb => ?_, q⟩
    have e : b = s1.heap.objs.size := by simpa using hb
    subst e
    exact I1.fpOk (Nat.le_refl _) (I1.hok.fresh (Nat.le_refl _))
  · subst e
    cases r1
    obtain ⟨its, rv, p, hz⟩ := I1.tuple hq
    refine PySem.wpAny_pyIter_tuple (show s1.heap.IsTuple a its.toArray from p) ?_
    refine ⟨s1.heap.objs.size, [s1.heap.objs.size], _, _, H1, rfl, I1.kept (t' := s1.toks) fun b o e => Heap.get?_push_of_some _ e, turn_tuple a _, ⟨_, Heap.get?_push_size _ rfl, rfl, rfl⟩, fun b hb => ?_, q⟩
    have e : b = s1.heap.objs.size := by simpa using hb
    subst e
    exact I1.fpOk (Nat.le_refl _) (I1.hok.fresh (Nat.le_refl _))
  · subst e
    obtain ⟨t, rfl⟩ := r1
    cases ha : z.cps.all (· < 128)
    · exact PySem.wpAny_pyIter_wide ha (pi_one (tk := s1.toks) I1 _ (turn_str _ z t "str_iterator" (.inr rfl)) ⟨_, Heap.get?_push_size _ rfl, rfl, rfl⟩ q)
    · exact PySem.wpAny_pyIter_ascii ha (pi_one (tk := s1.toks) I1 _ (turn_str _ z t "str_ascii_iterator" (.inl rfl)) ⟨_, Heap.get?_push_size _ rfl, rfl, rfl⟩ q)
theorem wi_any {ki : List PyData → Dl → Prop} (h : WE K te δ fun x δ' => (∃ ds, (x = .list ds ∨ x = .tuple ds) ∧ ki ds δ') ∨ ∃ z, x = .str z ∧ ki (z.cps.toList.map fun c => .str ⟨#[c]⟩) δ') : WI K (iAny K te) δ ki := fun C B H σ R E r =>
  h C B H σ _ E fun v B1 H1 x δ1 hk e1 E1 d1 => by
    rcases hk with ⟨ds, ex | ex, hk⟩ | ⟨z, ex, hk⟩
    · subst ex
      cases d1 with
      | lst h1 h2 => exact .inl ⟨_, rfl, .inl ⟨⟨_, ex_l E1.ex h1⟩, r _ B1 H1 ds δ1 hk e1 E1 (itd_list h1 h2)⟩⟩
    · subst ex
      cases d1 with
      | tup h1 h2 => exact .inl ⟨_, rfl, .inr ⟨⟨_, ex_t E1.ex h1⟩, r _ B1 H1 ds δ1 hk e1 E1 (itd_tup h1 h2)⟩⟩
    · subst ex
      cases d1
      exact .inr ⟨z, rfl, r _ B1 H1 _ δ1 hk e1 E1 itd_str⟩
theorem wi_list {ki : List PyData → Dl → Prop} (h : WE K te δ fun x δ' => ∃ ds, x = .list ds ∧ ki ds δ') : WI K (iAny K te) δ ki := wi_any (h.mono fun _ _ ⟨ds, e, q⟩ => .inl ⟨ds, .inl e, q⟩)
theorem wi_tup {ki : List PyData → Dl → Prop} (h : WE K te δ fun x δ' => ∃ ds, x = .tuple ds ∧ ki ds δ') : WI K (iAny K te) δ ki := wi_any (h.mono fun _ _ ⟨ds, e, q⟩ => .inl ⟨ds, .inr e, q⟩)
theorem wi_r1 {ta : TA} {ki : List PyData → Dl → Prop} (h : WA K ta δ fun ds δ' => ∃ n, ds = [.int n] ∧ n < 2 ^ 62 ∧ -(2 ^ 62) ≤ n ∧ ki (rangeD 0 n.toNat) δ') : WI K (iRng1 ta) δ ki := fun C B H σ R E r =>
  h C B H σ _ E fun vs B1 H1 ds δ1 ⟨n, e, h1, h2, hk⟩ e1 E1 d1 => by
    subst e
    cases d1 with
    | cons q1 q2 => cases q1; cases q2; exact ⟨n, rfl, h2, h1, r _ B1 H1 _ δ1 hk e1 E1 itd_range⟩
theorem wi_r2 {ta : TA} {ki : List PyData → Dl → Prop} (h : WA K ta δ fun ds δ' => ∃ m n, ds = [.int m, .int n] ∧ (-(2 ^ 62) ≤ m ∧ m < 2 ^ 62 ∧ -(2 ^ 62) ≤ n ∧ n < 2 ^ 62) ∧ ki (rangeD m (n - m).toNat) δ') : WI K (iRng2 ta) δ ki := fun C B H σ R E r =>
  h C B H σ _ E fun vs B1 H1 ds δ1 ⟨m, n, e, h1, hk⟩ e1 E1 d1 => by
    subst e
    cases d1 with
    | cons q1 q2 => cases q1; cases q2 with
      | cons q2 q3 => cases q2; cases q3; exact ⟨m, n, rfl, h1, r _ B1 H1 _ δ1 hk e1 E1 itd_range⟩
theorem wi_r3 {ta : TA} {ki : List PyData → Dl → Prop} (h : WA K ta δ fun ds δ' => ∃ i j c n, ds = [.int i, .int j, .int c] ∧ RgC i j c n ∧ ki (rangeC i c n) δ') : WI K (iRng3 ta) δ ki := fun C B H σ R E r =>
  h C B H σ _ E fun vs B1 H1 ds δ1 ⟨i, j, c, n, e, h1, hk⟩ e1 E1 d1 => by
    subst e
    cases d1 with
    | cons q1 q2 => cases q1; cases q2 with
      | cons q2 q3 => cases q2; cases q3 with
        | cons q3 q4 => cases q3; cases q4; exact ⟨i, j, c, n, rfl, h1, r _ B1 H1 _ δ1 hk e1 E1 itd_rangeC⟩
theorem wi_enum {ta : TA} {ki : List PyData → Dl → Prop} (h : WA K ta δ fun ds δ' => ∃ es, ds = [.list es] ∧ ki (es.zipIdx.map fun p => .tuple [.int (p.2 : Nat), p.1]) δ') : WI K (iEnum K ta) δ ki := fun C B H σ R E r =>
  h C B H σ _ E fun vs B1 H1 ds δ1 ⟨es, e, hk⟩ e1 E1 d1 => by
    subst e
    cases d1 with
    | cons q1 q2 => cases q2; cases q1 with
      | lst h1 h2 => exact ⟨_, _, rfl, ex_l E1.ex h1, r _ B1 H1 _ δ1 hk e1 E1 (itd_enum h1 h2)⟩
theorem wi_zip {ta : TA} {ki : List PyData → Dl → Prop} (h : WA K ta δ fun ds δ' => ∃ es fs, (ds = [.list es, .list fs] ∨ ds = [.tuple es, .tuple fs]) ∧ ki ((es.zip fs).map fun p => .tuple [p.1, p.2]) δ') : WI K (iZipA K ta) δ ki := fun C B H σ R E r =>
  h C B H σ _ E fun vs B1 H1 ds δ1 ⟨es, fs, e, hk⟩ e1 E1 d1 => by
    rcases e with e | e
    · subst e
      cases d1 with
      | cons q1 q2 => cases q1 with
        | lst h1 h2 => cases q2 with
          | cons q3 q4 => cases q4; cases q3 with
            | lst h3 h4 => exact ⟨_, _, _, _, rfl, .inl ⟨ex_l E1.ex h1, ex_l E1.ex h3, r _ B1 H1 _ δ1 hk e1 E1 (itd_zip h1 h2 h3 h4)⟩⟩
    · subst e
      cases d1 with
      | cons q1 q2 => cases q1 with
        | tup h1 h2 => cases q2 with
          | cons q3 q4 => cases q4; cases q3 with
            | tup h3 h4 => exact ⟨_, _, _, _, rfl, .inr ⟨ex_t E1.ex h1, ex_t E1.ex h3, r _ B1 H1 _ δ1 hk e1 E1 (itd_zipT h1 h2 h3 h4)⟩⟩
/-! ### for -/
theorem ws_for {wi : TI} (h : WI K wi δ fun ds δ1 => ∃ I : Nat → Dl → Prop, I 0 δ1 ∧ (∀ i d δ2, ds[i]? = some d → I i δ2 → WG K g d δ2 fun δ3 => WS K C ts δ3 (I (i + 1)) rt nx (I (i + 1))) ∧ ∀ δ2, I ds.length δ2 → nx δ2) :
    WS K C (tFor wi g ts) δ nx rt bk ct := fun B H σ D E l =>
  h C B H σ _ E fun J B1 H1 ds δ1 ⟨I, i0, hs, hd⟩ e1 E1 it => by
    refine ⟨fun i m σ' H' => m = ds.length - i ∧ i ≤ ds.length ∧ ∃ B' δ', I i δ' ∧ Ex B1 B' ∧ En K C B' H' σ' δ', ⟨ds.length, by simp, Nat.zero_le _, B1, δ1, i0, Ex.refl _, E1⟩, fun i m σ2 H2 ⟨em, hi, B2, δ2, i2, e2, E2⟩ => ?_⟩
    subst em
    obtain ⟨j1, j2, j3⟩ := it B2 H2 e2 E2.ex
    by_cases hlt : i < ds.length
    · refine .inr ⟨j1 i hlt, fun σ' H' => ∃ B' δ', I (i + 1) δ' ∧ Ex B1 B' ∧ En K C B' H' σ' δ', fun σ' H' z => ⟨ds.length - (i + 1), by omega, rfl, hlt, z⟩, fun x H3 y => ?_⟩
      obtain ⟨d, hd1, xe, dp⟩ := j2 i x H3 hlt y
      have E3 := E2.grow xe
      have e3 : Ex B2 (Wk.grow B2 H2 H3) := grow_ex E2.ex
      refine hs i d δ2 hd1 i2 C _ H3 σ2 x _ E3 dp fun σ4 B4 H4 δ4 w e4 E4 => ?_
      have e14 := (e2.trans e3).trans e4
      exact w B4 H4 σ4 _ E4 ⟨fun σ' B' H' δ' z e E' => ⟨B', δ', z, e14.trans e, E'⟩, fun v σ' B' H' d δ' z e => l.rt v σ' B' H' d δ' z ((e1.trans e14).trans e), fun σ' B' H' δ' z e => l.nx σ' B' H' δ' z ((e1.trans e14).trans e), fun σ' B' H' δ' z e E' => ⟨B', δ', z, e14.trans e, E'⟩⟩
    · have ei : i = ds.length := by omega
      subst ei
      exact .inl ⟨j3, l.nx σ2 B2 H2 δ2 (hd δ2 i2) (e1.trans e2) E2⟩
/-! ### comprehensions -/
def WGv (K : Fg) (vs : List Nat) (g : TG) (d : PyData) (δ : Dl) (k : Dl → Prop) : Prop := ∀ (C : Ctx) (B H : Hp) (σ : L2.St) (v : V) (Q : L2.St → Hp → Prop), En K C B H σ δ → Dp K B v d →
  (∀ σ' B' H' δ', k δ' → Ex B B' → En K C B' H' σ' δ' → wipe σ' vs = wipe σ vs → Q σ' H') → g v σ H Q
theorem wipe_at {σ : L2.St} {i : Nat} : ∀ {vs : List Nat}, i ∈ vs → i < σ.length → (wipe σ vs)[i]? = some none
  | v :: vs, h, hl => by
    unfold wipe
    by_cases e : v = i
    · subst e; rw [List.getElem?_set_self (by rw [wipe_length]; exact hl)]
    · rw [List.getElem?_set_ne e]
      exact wipe_at ((List.mem_cons.mp h).resolve_left fun z => e z.symm) hl
theorem wipe_ext {σ σ' : L2.St} {vs : List Nat} (hl : σ.length = σ'.length) (h : ∀ i, i ∉ vs → σ[i]? = σ'[i]?) : wipe σ vs = wipe σ' vs := by
  apply List.ext_getElem?
  intro i
  by_cases hi : i ∈ vs
  · by_cases hb : i < σ.length
    · rw [wipe_at hi hb, wipe_at hi (hl ▸ hb)]
    · rw [List.getElem?_eq_none (by rw [wipe_length]; omega), List.getElem?_eq_none (by rw [wipe_length]; omega)]
  · rw [wipe_out hi, wipe_out hi]; exact h i hi
theorem wipe_set {σ : L2.St} {i : Nat} {x : Option V} {vs : List Nat} (h : i ∈ vs) : wipe (σ.set i x) vs = wipe σ vs :=
  wipe_ext (by simp) fun j hj => by rw [List.getElem?_set_ne (fun e => hj (by rw [← e]; exact h))]
theorem wipe_wipe {σ : L2.St} {vs : List Nat} : wipe (wipe σ vs) vs = wipe σ vs := wipe_ext (wipe_length σ vs) fun _ hj => wipe_out hj
theorem wgv_name {i : Nat} {d : PyData} {vs : List Nat} {kg : Dl → Prop} (hi : i ∈ vs) (h : kg (δ.set i (.im d))) : WGv K vs (gName i) d δ kg := fun C B H σ v Q E q r => r _ B H _ h (Ex.refl B) (E.set q) (wipe_set hi)
def WGvs (K : Fg) (ws : List Nat) (g : TGs) (ds : List PyData) (δ : Dl) (k : Dl → Prop) : Prop := ∀ (C : Ctx) (B H : Hp) (σ : L2.St) (vs : List V) (Q : L2.St → Hp → Prop), En K C B H σ δ → DpAll K B vs ds →
  (∀ σ' B' H' δ', k δ' → Ex B B' → En K C B' H' σ' δ' → wipe σ' ws = wipe σ ws → Q σ' H') → g vs σ H Q
theorem wgvs_nil {ws : List Nat} {kg : Dl → Prop} (h : kg δ) : WGvs K ws gNil [] δ kg := fun C B H σ vs Q E q r => by cases q; exact ⟨rfl, r σ B H δ h (Ex.refl B) E rfl⟩
theorem wgvs_cons {ws : List Nat} {g' : TGs} {d : PyData} {ds : List PyData} {kg : Dl → Prop} (h : WGv K ws g d δ fun δ' => WGvs K ws g' ds δ' kg) : WGvs K ws (gCons g g') (d :: ds) δ kg := fun C B H σ vs Q E q r => by
  cases q with
  | cons q1 q2 => exact ⟨_, _, rfl, h C B H σ _ _ E q1 fun σ' B1 H1 δ1 z e E1 w1 => z C B1 H1 σ' _ Q E1 (dpa_mono e q2) fun σ2 B2 H2 δ2 y e2 E2 w2 => r σ2 B2 H2 δ2 y (e.trans e2) E2 (w2.trans w1)⟩
theorem wgv_tup {ws : List Nat} {n : Nat} {g' : TGs} {ds : List PyData} {kg : Dl → Prop} (hn : ds.length = n) (h : WGvs K ws g' ds δ kg) : WGv K ws (gTup K n g') (.tuple ds) δ kg := fun C B H σ v Q E q r => by
  cases q with
  | tup a z => exact ⟨_, _, rfl, ex_t E.ex a, by rw [dpa_len z]; exact hn, h C B H σ _ Q E z r⟩
def wipeD (δ : Dl) : List Nat → Dl
  | [] => δ
  | v :: vs => (wipeD δ vs).set v .un
theorem wipeD_len (δ : Dl) : ∀ vs : List Nat, (wipeD δ vs).length = δ.length
  | [] => rfl
  | v :: vs => by unfold wipeD; rw [List.length_set, wipeD_len δ vs]
theorem wipeD_at {i : Nat} {s : SV} : ∀ {vs : List Nat}, (wipeD δ vs)[i]? = some s → s = .un ∨ (i ∉ vs ∧ δ[i]? = some s)
  | [], h => .inr ⟨by simp, h⟩
  | v :: vs, h => by
    unfold wipeD at h
    by_cases e : v = i
    · subst e
      by_cases hl : v < (wipeD δ vs).length
      · rw [List.getElem?_set_self hl] at h; cases h; exact .inl rfl
      · rw [List.getElem?_eq_none (by simpa using hl)] at h; cases h
    · rw [List.getElem?_set_ne e] at h
      rcases wipeD_at h with z | ⟨z1, z2⟩
      · exact .inl z
      · exact .inr ⟨fun m => (List.mem_cons.mp m).elim (fun q => e q.symm) z1, z2⟩
/-! ### another entry: what stands beside the state is left as it is -/
def Ctx.at (B H : Hp) (σ : L2.St) (δ : Dl) : Ctx := ⟨H, B, fun a => ∃ (i : Nat) (ob : OB), δ[i]? = some (SV.ow ob) ∧ σ[i]? = some (some (V.ref a))⟩
theorem En.into {B H : Hp} {σ : L2.St} (E : En K C B H σ δ) : En K (Ctx.at B H σ δ) B H σ δ :=
  ⟨E.ex, Ex.refl B, fun _ _ _ h => h, fun _ h => h, fun _ _ h => .inl h, E.len, E.sl, fun i ob a h q => .inl ⟨i, ob, h, q⟩, E.dis⟩
theorem En.back {B H B' H' : Hp} {σ σ' : L2.St} {δ' : Dl} (E : En K C B H σ δ) (E' : En K (Ctx.at B H σ δ) B' H' σ' δ') : En K C B' H' σ' δ' where
  ex := E'.ex
  b0 := fun a o h => E'.b0 a o (E.b0 a o h)
  fr := fun a o m h => E'.fr a o (fun ⟨i, ob, h1, h2⟩ => by
    rcases E.own i ob a h1 h2 with z | z
    · exact m z
    · rw [z] at h; cases h) (E.fr a o m h)
  pr := fun a h => E.pr a (E'.pr a h)
  bf := fun a o h => by
    rcases E'.bf a o h with z | z
    · exact E.bf a o z
    · exact .inr (E.pr a z)
  len := E'.len
  sl := E'.sl
  own := fun i ob a h q => by
    rcases E'.own i ob a h q with ⟨j, o2, z1, z2⟩ | z
    · exact E.own j o2 a z1 z2
    · exact .inr (E.pr a z)
  dis := E'.dis
/-- an object that is no slot's own stays -/
theorem En.kept {B H B' H' : Hp} {σ σ' : L2.St} {δ' : Dl} {p : Addr} {u : HO} (E' : En K (Ctx.at B H σ δ) B' H' σ' δ') (hp : H p = some u) (hB : B p = none) (hn : ∀ (i : Nat) (ob : OB), δ[i]? = some (SV.ow ob) → σ[i]? ≠ some (some (V.ref p))) : H' p = some u ∧ B' p = none := by
  refine ⟨E'.fr p u (fun ⟨i, ob, h1, h2⟩ => hn i ob h1 h2) hp, ?_⟩
  cases q : B' p with
  | none => rfl
  | some o =>
    rcases E'.bf p o q with z | z
    · have z' : B p = some o := z
      rw [hB] at z'; cases z'
    · have z' : H p = none := z
      rw [hp] at z'; cases z'
/-- a new object at p, of no slot -/
theorem En.beside {B H : Hp} {σ : L2.St} {p : Addr} {u : HO} (E : En K C B H σ δ) (hp : H p = none) : En K C B (upd H p u) σ δ ∧ B p = none ∧ ∀ (i : Nat) (ob : OB), δ[i]? = some (SV.ow ob) → σ[i]? ≠ some (some (V.ref p)) := by
  have hne : ∀ {a : Addr} {o : HO}, H a = some o → a ≠ p := fun h => ne_of_none h hp
  refine ⟨⟨fun a o h => by rw [upd_ne (hne (E.ex a o h))]; exact E.ex a o h, E.b0, fun a o m h => by rw [upd_ne (hne (E.fr a o m h))]; exact E.fr a o m h, fun a h => ?_, E.bf, E.len, fun j s q => ?_, E.own, E.dis⟩, fresh_back E.ex hp, fun i ob h1 h2 => ?_⟩
  · by_cases e : a = p
    · subst e; exact E.pr _ hp
    · rw [upd_ne e] at h; exact E.pr a h
  · have z := E.sl j s q
    cases s with
    | un => trivial
    | im d => exact z
    | vx φ => exact z
    | ow o => obtain ⟨a, u', e1, n, q1, r1⟩ := z; exact ⟨a, u', e1, n, by rw [upd_ne (hne q1)]; exact q1, r1⟩
  · obtain ⟨a, u', e1, n, q1, r1⟩ := E.sl i _ h1
    rw [h2] at e1
    cases e1
    rw [hp] at q1; cases q1
/-- .. is changed or dropped -/
theorem En.other {B H : Hp} {σ : L2.St} {p : Addr} {u : HO} (E : En K C B H σ δ) (h0 : C.H0 p = none) (hH : ∃ v, H p = some v) (hB : B p = none) (hn : ∀ (i : Nat) (ob : OB), δ[i]? = some (SV.ow ob) → σ[i]? ≠ some (some (V.ref p))) : En K C B (upd H p u) σ δ := by
  refine ⟨fun a o h => ?_, E.b0, fun a o m h => ?_, fun a h => ?_, E.bf, E.len, fun j s q => ?_, E.own, E.dis⟩
  · have ne : a ≠ p := fun e => by subst e; rw [hB] at h; cases h
    rw [upd_ne ne]; exact E.ex a o h
  · have ne : a ≠ p := fun e => by subst e; rw [h0] at h; cases h
    rw [upd_ne ne]; exact E.fr a o m h
  · by_cases e : a = p
    · subst e; exact h0
    · rw [upd_ne e] at h; exact E.pr a h
  · have z := E.sl j s q
    cases s with
    | un => trivial
    | im d => exact z
    | vx φ => exact z
    | ow o =>
      obtain ⟨a, u', e1, n, q1, r1⟩ := z
      have ne : a ≠ p := fun e => by subst e; exact hn j o q e1
      exact ⟨a, u', e1, n, by rw [upd_ne ne]; exact q1, r1⟩
theorem En.erase {B H : Hp} {σ : L2.St} {p : Addr} (E : En K C B H σ δ) (h0 : C.H0 p = none) (hB : B p = none) (hn : ∀ (i : Nat) (ob : OB), δ[i]? = some (SV.ow ob) → σ[i]? ≠ some (some (V.ref p))) : En K C B (fun b => if b = p then none else H b) σ δ := by
  have go : ∀ {a : Addr} {o : HO}, a ≠ p → H a = some o → (fun b => if b = p then none else H b) a = some o := fun {a o} ne h => by
    show (if a = p then none else H a) = some o
    rw [if_neg ne]; exact h
  refine ⟨fun a o h => ?_, E.b0, fun a o m h => ?_, fun a h => ?_, E.bf, E.len, fun j s q => ?_, E.own, E.dis⟩
  · have ne : a ≠ p := fun e => by subst e; rw [hB] at h; cases h
    exact go ne (E.ex a o h)
  · have ne : a ≠ p := fun e => by subst e; rw [h0] at h; cases h
    exact go ne (E.fr a o m h)
  · by_cases e : a = p
    · subst e; exact h0
    · have h' : (if a = p then none else H a) = none := h
      rw [if_neg e] at h'; exact E.pr a h'
  · have z := E.sl j s q
    cases s with
    | un => trivial
    | im d => exact z
    | vx φ => exact z
    | ow o =>
      obtain ⟨a, u', e1, n, q1, r1⟩ := z
      have ne : a ≠ p := fun e => by subst e; exact hn j o q e1
      exact ⟨a, u', e1, n, go ne q1, r1⟩
theorem En.wiped {B H : Hp} {σ : L2.St} {vs : List Nat} (E : En K C B H σ δ) : En K C B H (wipe σ vs) (wipeD δ vs) :=
  E.weak (by rw [wipe_length, wipeD_len]; exact E.len) fun i s h => (wipeD_at h).imp id fun ⟨h1, h2⟩ => ⟨h2, wipe_out h1⟩
theorem En.unwiped {B H : Hp} {σ σ2 : L2.St} {vs : List Nat} (E : En K C B H σ2 δ) (h : wipe σ2 vs = wipe σ vs) (hl : σ.length = σ2.length) : En K C B H σ (wipeD δ vs) :=
  E.weak (by rw [wipeD_len, hl]; exact E.len) fun i s q => (wipeD_at q).imp id fun ⟨h1, h2⟩ => ⟨h2, by rw [← wipe_out (vs := vs) (σ := σ) h1, ← h, wipe_out h1]⟩
theorem wipeD_out {i : Nat} : ∀ {vs : List Nat}, i ∉ vs → (wipeD δ vs)[i]? = δ[i]?
  | [], _ => rfl
  | v :: vs, h => by
    unfold wipeD
    rw [List.getElem?_set_ne fun e => h (by rw [e]; exact List.mem_cons_self)]
    exact wipeD_out fun m => h (List.mem_cons_of_mem _ m)
theorem wipeD_in {i : Nat} : ∀ {vs : List Nat}, i ∈ vs → i < δ.length → (wipeD δ vs)[i]? = some .un
  | v :: vs, h, hl => by
    unfold wipeD
    by_cases e : v = i
    · subst e; rw [List.getElem?_set_self (by rw [wipeD_len]; exact hl)]
    · rw [List.getElem?_set_ne e]
      exact wipeD_in ((List.mem_cons.mp h).resolve_left fun z => e z.symm) hl
theorem wn_lc {wi : TI} {tt : TT} {vs : List Nat} {kn : OB → Dl → Prop} (h : WI K wi δ fun ds δ1 => ∃ I : Nat → List PyData → Dl → Prop, I 0 [] (wipeD δ1 vs) ∧ (∀ i d acc δ2, ds[i]? = some d → acc.length ≤ i → I i acc δ2 →
      WGv K vs g d (wipeD δ2 vs) fun δ3 => WT K tt δ3 fun b δ4 => (b = true → WE K te δ4 fun y δ5 => acc.length < 100000 ∧ I (i + 1) (acc ++ [y]) (wipeD δ5 vs)) ∧ (b = false → I (i + 1) acc (wipeD δ4 vs))) ∧ ∀ acc δ2, I ds.length acc δ2 → kn (.lst none acc) δ2) :
    WN K (tLc wi g tt te vs) δ kn := fun C B H σ Q E q =>
  h C B H σ _ E fun J B1 H1 ds δ1 ⟨I, i0, hs, hd⟩ e1 E1 it => fun L hL => by
    have hL0 : C.H0 L = none := E1.pr L hL
    -- the new list at L stands beside the state
    refine ⟨fun i m H' => m = ds.length - i ∧ i ≤ ds.length ∧ ∃ B' δ' acc vacc, acc.length ≤ i ∧ I i acc δ' ∧ Ex B1 B' ∧ H' L = some (.lst vacc) ∧ B' L = none ∧ DpAll K B' vacc acc ∧ En K C B' H' σ δ' ∧ (∀ (i : Nat) (ob : OB), δ'[i]? = some (SV.ow ob) → σ[i]? ≠ some (some (V.ref L))), ⟨ds.length, ?_⟩, fun i m H2 ⟨em, hi, B2, δ2, acc, vacc, hal, hI, e2, hH, hB, hda, E2, hn⟩ => ?_⟩
    · obtain ⟨Eb, hb, hn⟩ := (E1.weak (δ' := wipeD δ1 vs) (σ' := σ) (by rw [wipeD_len]; exact E1.len) fun i s h => (wipeD_at h).imp id fun z => ⟨z.2, rfl⟩).beside (u := .lst []) hL
      exact ⟨by simp, Nat.zero_le _, B1, wipeD δ1 vs, [], [], Nat.le_refl _, i0, Ex.refl _, upd_same, hb, .nil, Eb, hn⟩
    subst em
    obtain ⟨j1, j2, j3⟩ := it B2 H2 e2 E2.ex
    by_cases hlt : i < ds.length
    · refine .inr ⟨j1 i hlt, fun H' => ∃ B' δ' acc vacc, acc.length ≤ i + 1 ∧ I (i + 1) acc δ' ∧ Ex B1 B' ∧ H' L = some (.lst vacc) ∧ B' L = none ∧ DpAll K B' vacc acc ∧ En K C B' H' σ δ' ∧ (∀ (i : Nat) (ob : OB), δ'[i]? = some (SV.ow ob) → σ[i]? ≠ some (some (V.ref L))), fun H' z => ⟨ds.length - (i + 1), by omega, rfl, hlt, z⟩, fun x H3 y => ?_⟩
      obtain ⟨d, hd1, xe, dp⟩ := j2 i x H3 hlt y
      have E3 := E2.grow xe
      have e3 : Ex B2 (Wk.grow B2 H2 H3) := grow_ex E2.ex
      have hB3 : (Wk.grow B2 H2 H3) L = none := by rw [grow_old hH]; exact hB
      have hH3 : H3 L = some (.lst vacc) := xe L _ hH
      have Ew := (E3.wiped (vs := vs))
      have hnw : ∀ (i : Nat) (ob : OB), (wipeD δ2 vs)[i]? = some (SV.ow ob) → (wipe σ vs)[i]? ≠ some (some (V.ref L)) := fun i ob h1 h2 => by
        rcases wipeD_at h1 with z | ⟨z1, z2⟩
        · cases z
        · rw [wipe_out z1] at h2; exact hn i ob z2 h2
      refine hs i d acc δ2 hd1 hal hI _ _ H3 (wipe σ vs) x _ Ew.into dp fun σ4 B4 H4 δ4 w e4 E4 hw => ⟨hw.trans wipe_wipe, ?_⟩
      refine w _ B4 H4 σ4 _ E4 fun b B5 H5 δ5 w5 e5 E5 => ?_
      have hl4 : σ.length = σ4.length := by
        have := congrArg List.length hw
        rw [wipe_length, wipe_length, wipe_length] at this
        exact this.symm
      -- back to the outer slots
      have out : ∀ {B' H' : Hp} {δ' : Dl}, En K (Ctx.at _ H3 (wipe σ vs) (wipeD δ2 vs)) B' H' σ4 δ' → En K C B' H' σ (wipeD δ' vs) ∧ H' L = some (.lst vacc) ∧ B' L = none ∧ (∀ (i : Nat) (ob : OB), (wipeD δ' vs)[i]? = some (SV.ow ob) → σ[i]? ≠ some (some (V.ref L))) := fun {B' H' δ'} E' => by
        obtain ⟨k1, k2⟩ := E'.kept hH3 hB3 hnw
        have Eo := (Ew.back E').unwiped (σ := σ) (vs := vs) (hw.trans wipe_wipe) hl4
        refine ⟨Eo, k1, k2, fun j ob h1 h2 => ?_⟩
        have h3 : σ4[j]? = some (some (V.ref L)) := by
          rcases wipeD_at h1 with z | ⟨z1, z2⟩
          · cases z
          · rw [← wipe_out (vs := vs) z1, hw.trans wipe_wipe, wipe_out z1]; exact h2
        rcases wipeD_at h1 with z | ⟨z1, z2⟩
        · cases z
        · rcases E'.own j ob L z2 h3 with ⟨m, o2, y1, y2⟩ | y
          · exact hnw m o2 y1 y2
          · have y' : H3 L = none := y
            rw [hH3] at y'; cases y'
      cases b with
      | true =>
        refine (w5.1 rfl) _ B5 H5 σ4 _ E5 fun yv B6 H6 yd δ6 ⟨hz, w6⟩ e6 E6 q6 => ?_
        obtain ⟨Eo, k1, k2, k3⟩ := out E6
        have e26 : Ex B2 B6 := ((e3.trans e4).trans e5).trans e6
        refine ⟨vacc, k1, Evl.sz_lt (by rw [dpa_len hda]; exact hz), B6, wipeD δ6 vs, acc ++ [yd], vacc ++ [yv], by simp; omega, w6, e2.trans e26, upd_same, k2, dpa_snoc (dpa_mono e26 hda) q6, ?_, k3⟩
        exact Eo.other hL0 ⟨_, k1⟩ k2 k3
      | false =>
        obtain ⟨Eo, k1, k2, k3⟩ := out E5
        have e25 : Ex B2 B5 := (e3.trans e4).trans e5
        exact ⟨B5, wipeD δ5 vs, acc, vacc, by omega, w5.2 rfl, e2.trans e25, k1, k2, dpa_mono e25 hda, Eo, k3⟩
    · have ei : i = ds.length := by omega
      subst ei
      refine .inl ⟨j3, ?_⟩
      have hEr := E2.erase hL0 hB hn
      have hup : upd (fun b => if b = L then none else H2 b) L (.lst vacc) = H2 := by
        funext a
        by_cases e : a = L
        · subst e; rw [upd_same]; exact hH.symm
        · rw [upd_ne e]; exact if_neg e
      have r := q L (.lst vacc) B2 _ (.lst none acc) δ2 (hd acc δ2 hI) (e1.trans e2) hEr (if_pos rfl) ⟨fun _ z => (nomatch z), vacc, rfl, hda⟩
      rw [hup] at r
      exact r
end
end Wk
set_option Elab.async false
set_option linter.all false
set_option maxRecDepth 100000
set_option maxHeartbeats 4000000
/-! Built-ins by data; a def's body. -/
namespace Wk
open PySem L2
open Evl (Ex ex_l ex_t ex_rd fresh_back sq_of st_of)
open RZ (ItzT iZipA pi_zipA)
open PyProof.Rows (envOfC)
section
variable {K : Fg} {C : Ctx} {δ : Dl} {ta tb te tc : TE} {t u : TT} {k : PyData → Dl → Prop} {kb : Bool → Dl → Prop} {ka : List PyData → Dl → Prop} {nx bk ct : Dl → Prop} {rt : PyData → Dl → Prop} {ts tu : TS} {g : TG}
/-! ### built-ins -/
def rLen (K : Fg) : List V → Hp → VK → Prop := fun xs H Q => ∃ x n, xs = [x] ∧ LenV K x H n ∧ Q (.int n) H
theorem b_len {X : Cx} : CallR X (.builtin "len") (rLen X.K) := call_len
def lenD : PyData → Option Nat | .str z => some z.length | .list ds => some ds.length | .tuple ds => some ds.length | _ => none
theorem wc_len {x : PyData} {n : Nat} (e : lenD x = some n) (hs : smallS x) (q : k (.int (n : Int)) δ) : WC K (rLen K) [x] δ k := fun C B H σ vs Q E d r => by
  cases d with
  | cons d d2 =>
    cases d2
    cases d with
    | str z => cases e; exact ⟨_, _, rfl, ⟨hs, rfl⟩, r _ B H _ δ q (Ex.refl B) E (.int _)⟩
    | lst h1 h2 => cases e; exact ⟨_, _, rfl, .inl ⟨_, ex_l E.ex h1, rfl⟩, by rw [dpa_len h2]; exact r _ B H _ δ q (Ex.refl B) E (.int _)⟩
    | tup h1 h2 => cases e; exact ⟨_, _, rfl, .inr ⟨_, ex_t E.ex h1, rfl⟩, by rw [dpa_len h2]; exact r _ B H _ δ q (Ex.refl B) E (.int _)⟩
    | non => cases e
    | bl => cases e
    | int => cases e
theorem we_lenO {i : Nat} {pin : Option Addr} {ds : List PyData} (hi : δ[i]? = some (.ow (.lst pin ds))) (q : k (.int (ds.length : Int)) δ) : WE K (tCB (rLen K) (tCons (tVar i) tNil)) δ k := fun C B H σ Q E r => by
  obtain ⟨a, u, e, n, z, _, vs, e1, h⟩ := E.sl i _ hi
  subst e1
  exact ⟨.ref a, e, _, vs.length, rfl, .inl ⟨vs, sq_of z, rfl⟩, by rw [dpa_len h]; exact r _ B H _ δ q (Ex.refl B) E (.int _)⟩
def rAbs : List V → Hp → VK → Prop := fun xs H Q => ∃ i, xs = [.int i] ∧ Q (.int (if i < 0 then -i else i)) H
theorem b_abs {X : Cx} : CallR X (.builtin "abs") rAbs := call_abs
theorem wc_abs {i : Int} (q : k (.int (i.natAbs : Int)) δ) : WC K rAbs [.int i] δ k := fun C B H σ vs Q E d r => by
  cases d with
  | cons d d2 =>
    cases d2; cases d
    refine ⟨i, rfl, ?_⟩
    have e : (if i < 0 then -i else i) = (i.natAbs : Int) := by split <;> omega
    rw [e]
    exact r _ B H _ δ q (Ex.refl B) E (.int _)
def rMax2 : List V → Hp → VK → Prop := fun xs H Q => ∃ i j, xs = [.int i, .int j] ∧ Q (.int (if j > i then j else i)) H
def rMin2 : List V → Hp → VK → Prop := fun xs H Q => ∃ i j, xs = [.int i, .int j] ∧ Q (.int (if j < i then j else i)) H
theorem b_max2 {X : Cx} (hc : X.calm = true) : CallR X (.builtin "max") rMax2 := call_max2 hc
theorem b_min2 {X : Cx} (hc : X.calm = true) : CallR X (.builtin "min") rMin2 := call_min2 hc
theorem wc_max2 {i j : Int} (q : k (.int (max i j)) δ) : WC K rMax2 [.int i, .int j] δ k := fun C B H σ vs Q E d r => by
  cases d with
  | cons d d2 => cases d2 with
    | cons d2 d3 =>
      cases d3; cases d; cases d2
      refine ⟨i, j, rfl, ?_⟩
      have e : (if j > i then j else i) = max i j := by split <;> omega
      rw [e]
      exact r _ B H _ δ q (Ex.refl B) E (.int _)
theorem wc_min2 {i j : Int} (q : k (.int (min i j)) δ) : WC K rMin2 [.int i, .int j] δ k := fun C B H σ vs Q E d r => by
  cases d with
  | cons d d2 => cases d2 with
    | cons d2 d3 =>
      cases d3; cases d; cases d2
      refine ⟨i, j, rfl, ?_⟩
      have e : (if j < i then j else i) = min i j := by split <;> omega
      rw [e]
      exact r _ B H _ δ q (Ex.refl B) E (.int _)
def rInt1 : List V → Hp → VK → Prop := fun xs H Q => (∃ i, xs = [.int i] ∧ Q (.int i) H) ∨ ∃ k, xs = [.bl k] ∧ Q (.int (if k then 1 else 0)) H
theorem b_int {X : Cx} : CallR X (.type "int") rInt1 := call_int1
theorem wc_int {i : Int} (q : k (.int i) δ) : WC K rInt1 [.int i] δ k := fun C B H σ vs Q E d r => by
  cases d with
  | cons d d2 => cases d2; cases d; exact .inl ⟨i, rfl, r _ B H _ δ q (Ex.refl B) E (.int _)⟩
theorem wc_intB {b : Bool} (q : k (.int (if b then 1 else 0)) δ) : WC K rInt1 [.bool b] δ k := fun C B H σ vs Q E d r => by
  cases d with
  | cons d d2 => cases d2; cases d; exact .inr ⟨b, rfl, r _ B H _ δ q (Ex.refl B) E (.int _)⟩
def rStrI : List V → Hp → VK → Prop := fun xs H Q => ∃ i, xs = [.int i] ∧ i.natAbs.log2 < 1920 ∧ Q (.str (toString i)) H
theorem b_str {X : Cx} : CallR X (.type "str") rStrI := call_str_int
theorem wc_str {i : Int} (h : i.natAbs.log2 < 1920) (q : k (.str (toString i)) δ) : WC K rStrI [.int i] δ k := fun C B H σ vs Q E d r => by
  cases d with
  | cons d d2 => cases d2; cases d; exact ⟨i, rfl, h, r _ B H _ δ q (Ex.refl B) E (.str _)⟩
/-- isinstance(e, T) -/
def tyN : PyData → String | .none => "NoneType" | .bool _ => "bool" | .int _ => "int" | .str _ => "str" | .list _ => "list" | .tuple _ => "tuple" | .dict _ => "dict"
theorem ty_dp {B H : Hp} {v : V} {d : PyData} (e : Ex B H) (h : Dp K B v d) : TyX K H v (.type (tyN d)) := by
  cases h with
  | non => exact .base .non
  | bl b => exact .base (.bl b)
  | int i => exact .base (.int i)
  | str z => exact .base (.str z)
  | lst h a =>
    rcases ex_l e h with (h | ⟨o, h⟩) | ⟨o, its, n, h1, h2, _⟩
    · exact .base (.lst h)
    · exact .base (.frz h)
    · exact .kList h1 h2
  | tup h a =>
    rcases ex_t e h with (h | ⟨o, h⟩) | ⟨o, its, n, h1, h2, _⟩
    · exact .base (.tup h)
    · exact .fTuple h
    · exact .kTuple h1 h2
theorem we_isi {T : String} (h : WE K te δ fun x δ' => ∃ b, kitB (tyN x) T = some b ∧ k (.bool b) δ') : WE K (tCB (rIsi K) (tCons te (tCons (tC (.ty T)) tNil))) δ k := fun C B H σ Q E r =>
  h C B H σ _ E fun v B1 H1 x δ1 ⟨b, hb, hk⟩ e1 E1 d => ⟨v, .ty T, _, _, b, rfl, .ty T, ty_dp E1.ex d, kit_ty hb, r _ B1 H1 _ δ1 hk e1 E1 (.bl b)⟩
/-- tuple(e), list(e) -/
def rTupOf (K : Fg) : List V → Hp → VK → Prop := fun xs H Q => ∃ p ys, xs = [.ref p] ∧ ((SqL K H p ys ∧ ∀ l, H l = none → Q (.ref l) (upd H l (.tup ys))) ∨ (SqT K H p ys ∧ Q (.ref p) H))
theorem b_tuple {X : Cx} : CallR X (.type "tuple") (rTupOf X.K) := call_tuple_of
theorem wc_tuple {ds : List PyData} (q : k (.tuple ds) δ) : WC K (rTupOf K) [.list ds] δ k := fun C B H σ vs Q E d r => by
  cases d with
  | cons d d2 => cases d2; cases d with
    | lst h1 h2 => exact ⟨_, _, rfl, .inl ⟨ex_l E.ex h1, fun p hp => by
        obtain ⟨E2, e2, z⟩ := fz (o := .tup _) E hp
        exact r _ _ _ _ δ q e2 E2 (.tup (st_of z) (dpa_mono e2 h2))⟩⟩
theorem wc_tupleT {ds : List PyData} (q : k (.tuple ds) δ) : WC K (rTupOf K) [.tuple ds] δ k := fun C B H σ vs Q E d r => by
  cases d with
  | cons d d2 => cases d2; cases d with
    | tup h1 h2 => exact ⟨_, _, rfl, .inr ⟨ex_t E.ex h1, r _ B H _ δ q (Ex.refl B) E (.tup h1 h2)⟩⟩
theorem we_tupleO {i : Nat} {pin : Option Addr} {ds : List PyData} (hi : δ[i]? = some (.ow (.lst pin ds))) (q : k (.tuple ds) δ) : WE K (tCB (rTupOf K) (tCons (tVar i) tNil)) δ k := fun C B H σ Q E r => by
  obtain ⟨a, u, e, n, z, _, vs, e1, h⟩ := E.sl i _ hi
  subst e1
  refine ⟨.ref a, e, a, vs, rfl, .inl ⟨sq_of z, fun p hp => ?_⟩⟩
  obtain ⟨E2, e2, z⟩ := fz (o := .tup vs) E hp
  exact r _ _ _ _ δ q e2 E2 (.tup (st_of z) (dpa_mono e2 h))
def rLstOf (K : Fg) : List V → Hp → VK → Prop := fun xs H Q => ∃ p ys, xs = [.ref p] ∧ (SqL K H p ys ∨ SqT K H p ys) ∧ ∀ l, H l = none → Q (.ref l) (upd H l (.lst ys))
theorem b_list {X : Cx} : CallR X (.type "list") (rLstOf X.K) := call_list_of
theorem wn_list {ta : TA} {kn : OB → Dl → Prop} (h : WA K ta δ fun ds δ' => ∃ es, (ds = [.list es] ∨ ds = [.tuple es]) ∧ kn (.lst none es) δ') : WN K (tCB (rLstOf K) ta) δ kn := fun C B H σ Q E r =>
  h C B H σ _ E fun vs B1 H1 ds δ1 ⟨es, e, hk⟩ e1 E1 d => by
    rcases e with e | e
    · subst e
      cases d with
      | cons d d2 => cases d2; cases d with
        | lst h1 h2 => exact ⟨_, _, rfl, .inl (ex_l E1.ex h1), fun p hp => r p _ B1 H1 _ δ1 hk e1 E1 hp ⟨fun _ z => (nomatch z), _, rfl, h2⟩⟩
    · subst e
      cases d with
      | cons d d2 => cases d2; cases d with
        | tup h1 h2 => exact ⟨_, _, rfl, .inr (ex_t E1.ex h1), fun p hp => r p _ B1 H1 _ δ1 hk e1 E1 hp ⟨fun _ z => (nomatch z), _, rfl, h2⟩⟩
theorem wc_sum {ns : List Int} (q : k (.int ns.sum) δ) : WC K (rSum K) [.list (ns.map .int)] δ k := fun C B H σ vs Q E d r => by
  cases d with
  | cons d d2 => cases d2; cases d with
    | lst h1 h2 => have e := dpa_ints h2; subst e; exact ⟨_, ns, rfl, ex_l E.ex h1, r _ B H _ δ q (Ex.refl B) E (.int _)⟩
theorem wc_all {bs : List Bool} (q : k (.bool (bs.all id)) δ) : WC K (rAll K) [.list (bs.map .bool)] δ k := fun C B H σ vs Q E d r => by
  cases d with
  | cons d d2 => cases d2; cases d with
    | lst h1 h2 => have e := dpa_bools h2; subst e; exact ⟨_, bs, rfl, ex_l E.ex h1, r _ B H _ δ q (Ex.refl B) E (.bl _)⟩
theorem wc_any {bs : List Bool} (q : k (.bool (bs.any id)) δ) : WC K (rAny K) [.list (bs.map .bool)] δ k := fun C B H σ vs Q E d r => by
  cases d with
  | cons d d2 => cases d2; cases d with
    | lst h1 h2 => have e := dpa_bools h2; subst e; exact ⟨_, bs, rfl, ex_l E.ex h1, r _ B H _ δ q (Ex.refl B) E (.bl _)⟩
/-- slices -/
def WO (K : Fg) (to : TO) (δ : Dl) (ko : Option Int → Dl → Prop) : Prop := ∀ (C : Ctx) (B H : Hp) (σ : L2.St) (Q : Option Int → Hp → Prop), En K C B H σ δ → (∀ o B' H' δ', ko o δ' → Ex B B' → En K C B' H' σ δ' → Q o H') → to σ H Q
theorem wo_none {ko : Option Int → Dl → Prop} (q : ko none δ) : WO K tNoPart δ ko := fun C B H σ Q E r => r none B H δ q (Ex.refl B) E
theorem wo_some {ko : Option Int → Dl → Prop} (h : WE K te δ fun x δ' => ∃ i, x = .int i ∧ ko (some i) δ') : WO K (tPart te) δ ko := fun C B H σ Q E r =>
  h C B H σ _ E fun v B1 H1 x δ1 ⟨i, e, hk⟩ e1 E1 d => by subst e; cases d; exact ⟨i, rfl, r _ B1 H1 δ1 hk e1 E1⟩
def cutD (xs : List PyData) (lo hi : Option Int) : List PyData := (xs.drop (HT.sIx xs.length 0 lo)).take (HT.sIx xs.length xs.length hi - HT.sIx xs.length 0 lo)
theorem cut_dp {B : Hp} {vs : List V} {ds : List PyData} {lo hi : Option Int} (h : DpAll K B vs ds) : DpAll K B (cutV vs lo hi) (cutD ds lo hi) := by
  unfold cutV cutD
  rw [dpa_len h]
  exact dpa_take _ (dpa_drop _ h)
/-- lists, tuples -/
def rSlA (K : Fg) : V → Option Int → Option Int → Hp → VK → Prop := fun x lo hi H Q => rSlL K x lo hi H Q ∨ rSlT K x lo hi H Q
theorem sl_any {X : Cx} : SlR X (rSlA X.K) := sl_list.or sl_tup
theorem wn_sl {tl th : TO} {kn : OB → Dl → Prop} (h : WE K te δ fun x δ1 => WO K tl δ1 fun lo δ2 => WO K th δ2 fun hi δ3 => ∃ ds, x = .list ds ∧ kn (.lst none (cutD ds lo hi)) δ3) : WN K (tSl (rSlA K) te tl th) δ kn := fun C B H σ Q E r =>
  h C B H σ _ E fun v B1 H1 x δ1 h1 e1 E1 d => h1 C B1 H1 σ _ E1 fun lo B2 H2 δ2 h2 e2 E2 => h2 C B2 H2 σ _ E2 fun hi B3 H3 δ3 ⟨ds, e, hk⟩ e3 E3 => by
    subst e
    cases d with
    | lst q1 q2 => exact .inl ⟨_, _, rfl, ex_l ((e2.trans e3).trans E3.ex) q1, fun p hp => r p _ B3 H3 _ δ3 hk ((e1.trans e2).trans e3) E3 hp ⟨fun _ z => (nomatch z), _, rfl, cut_dp (dpa_mono (e2.trans e3) q2)⟩⟩
theorem we_slT {tl th : TO} (h : WE K te δ fun x δ1 => WO K tl δ1 fun lo δ2 => WO K th δ2 fun hi δ3 => ∃ ds, x = .tuple ds ∧ ¬ (HT.sIx ds.length 0 lo = 0 ∧ HT.sIx ds.length ds.length hi = ds.length) ∧ k (.tuple (cutD ds lo hi)) δ3) : WE K (tSl (rSlA K) te tl th) δ k := fun C B H σ Q E r =>
  h C B H σ _ E fun v B1 H1 x δ1 h1 e1 E1 d => h1 C B1 H1 σ _ E1 fun lo B2 H2 δ2 h2 e2 E2 => h2 C B2 H2 σ _ E2 fun hi B3 H3 δ3 ⟨ds, e, hne, hk⟩ e3 E3 => by
    subst e
    cases d with
    | @tup a xs _ q1 q2 =>
      have d3 : DpAll K B3 xs ds := dpa_mono (e2.trans e3) q2
      have hc : DpAll K B3 (cutV xs lo hi) (cutD ds lo hi) := cut_dp d3
      have s3 : SqT K H3 a xs := ex_t ((e2.trans e3).trans E3.ex) q1
      refine .inr ⟨a, xs, rfl, s3, by rw [dpa_len q2]; exact hne, fun p hp => ?_⟩
      obtain ⟨E4, e4, z⟩ := fz (o := .tup (cutV xs lo hi)) E3 hp
      exact r _ _ _ _ δ3 hk (((e1.trans e2).trans e3).trans e4) E4 (.tup (st_of z) (dpa_mono e4 hc))
/-! ### a def's body -/
def im0 (N : List Str) (ds : List PyData) : Dl := ds.map .im ++ List.replicate (N.length - ds.length) .un
theorem start_len {N : List Str} {vs : List V} (h : vs.length ≤ N.length) : (L2.start N vs).length = N.length := by
  unfold L2.start; rw [List.length_append, List.length_map, List.length_replicate]; omega
theorem en_start {N : List Str} {B H : Hp} {vs : List V} {ds : List PyData} {M : Addr → Prop} (e : Ex B H) (h : DpAll K B vs ds) : En K ⟨H, B, M⟩ B H (L2.start N vs) (im0 N ds) := by
  have hl := dpa_len h
  refine ⟨e, Ex.refl B, fun _ _ _ h => h, fun _ h => h, fun _ _ h => .inl h, ?_, fun i s q => ?_, fun i ob a q => ?_, fun i j ob ob' a q => ?_⟩
  · unfold L2.start im0
    rw [List.length_append, List.length_append, List.length_map, List.length_map, List.length_replicate, List.length_replicate, hl]
  · unfold im0 at q
    by_cases hi : i < ds.length
    · rw [List.getElem?_append_left (by simpa using hi), List.getElem?_map] at q
      cases e1 : ds[i]? with
      | none => rw [e1] at q; cases q
      | some d =>
        rw [e1] at q
        have e2 := Option.some.inj q
        subst e2
        obtain ⟨v, h1, h2⟩ := dpa_at h e1
        refine ⟨v, ?_, h2⟩
        unfold L2.start
        rw [List.getElem?_append_left (by simp; omega), List.getElem?_map, h1]
        rfl
    · rw [List.getElem?_append_right (by simpa using hi), List.getElem?_replicate] at q
      split at q
      · cases q; trivial
      · cases q
  all_goals
    unfold im0 at q
    by_cases hi : i < ds.length
    · rw [List.getElem?_append_left (by simpa using hi), List.getElem?_map] at q
      cases e1 : ds[i]? with
      | none => rw [e1] at q; cases q
      | some d => rw [e1] at q; cases q
    · rw [List.getElem?_append_right (by simpa using hi), List.getElem?_replicate] at q
      split at q <;> cases q
theorem En.grown {C : Ctx} {B H : Hp} {σ : L2.St} {v : V} {d : PyData} (E : En K C B H σ δ) (hB : Ex C.B0 C.H0) (h : Dp K B v d) : Dp K (Wk.grow C.B0 C.H0 H) v d := dp_mono (fun a o e => by
  unfold Wk.grow
  cases q : C.H0 a with
  | none => exact E.ex a o e
  | some u =>
    rcases E.bf a o e with z | z
    · exact z
    · rw [q] at z; cases z) h
theorem En.grownA {C : Ctx} {B H : Hp} {σ : L2.St} {vs : List V} {ds : List PyData} (E : En K C B H σ δ) (h : DpAll K B vs ds) : DpAll K (Wk.grow C.B0 C.H0 H) vs ds := dpa_mono (fun a o e => by
  unfold Wk.grow
  cases q : C.H0 a with
  | none => exact E.ex a o e
  | some u =>
    rcases E.bf a o e with z | z
    · exact z
    · rw [q] at z; cases z) h
end
section
variable {P : Program} {w : World} {K : Fg} {mg : Str → Option Value} {base : Heap}
/-- what a body must do for a transformer S -/
def Body (K : Fg) (S : PS1) (N : List Str) (t : TS) : Prop := ∀ ds (p : PyData → Prop), S ds p → ∀ C : Ctx, (∀ a, ¬ C.M a) → WS K C t (im0 N ds) (fun _ => p .none) (fun d _ => p d) (fun _ => False) (fun _ => False)
theorem fn_pure {S : PS1} {x qual : Str} {st : Stmt} {f : Addr} {fd : FuncData} {N ps : List Str} {k : Nat} (F : Fun K x qual st f fd) (Sc : FnScope N ps (defScope st)) (hlen : ∀ ds p, S ds p → ds.length = ps.length)
    (hbody : ∀ (cdv : Value) (A : Around) (outer : List Env) (s : Shared) (H : Hp) (E : XK), Room k (A.deeper (envOfC qual (defScope st) s.heap.objs.size f cdv)) →
      ∃ t, PSs (cxOf CX0 P w K mg base N qual (defScope st) f cdv A outer s H E).nox (defBody st) t ∧ Body K S N t) : FnOk P w K mg base CX0 (k + 1) f fd ps (spP K S) := by
  refine F.ok Sc (fun vs H Q E h => ?_) fun cdv A outer s H vs Q E hr h => ?_
  · obtain ⟨B, ds, p, e, hd, hs, _⟩ := h
    rw [dpa_len hd]; exact hlen ds _ hs
  · obtain ⟨t, ht, hb⟩ := hbody cdv A outer s H E hr
    obtain ⟨B, ds, p, e, hd, hs, hq⟩ := h
    refine ⟨t, ht, hb ds _ hs ⟨H, B, fun _ => False⟩ (fun _ z => z) B H (L2.start N vs) _ (en_start e hd) ⟨fun σ' B' H' δ' z x E' => ?_, fun v σ' B' H' d δ' z x E' q => ?_, fun _ _ _ _ z => z.elim, fun _ _ _ _ z => z.elim⟩⟩
    · exact hq .none .non H' z (fun a o h => E'.fr a o (fun z => z) h) .non
    · exact hq d v H' z (fun a o h => E'.fr a o (fun z => z) h) (E'.grown e q)
/-- .. whose first argument is a list that it changes -/
def im1 (N : List Str) (ha : Addr) (hds : List PyData) (ds : List PyData) : Dl := (im0 N (.none :: ds)).set 0 (.ow (.lst (some ha) hds))
def BodyH (K : Fg) (S : PS2) (N : List Str) (t : TS) : Prop := ∀ (ha : Addr) hds ds (p : PyData → List PyData → Prop), S hds ds p → ∀ C : Ctx, WS K C t (im1 N ha hds ds)
  (fun δ' => ∃ hds', δ'[0]? = some (.ow (.lst (some ha) hds')) ∧ p .none hds') (fun d δ' => ∃ hds', δ'[0]? = some (.ow (.lst (some ha) hds')) ∧ p d hds') (fun _ => False) (fun _ => False)
theorem fn_hand {S : PS2} {x qual : Str} {st : Stmt} {f : Addr} {fd : FuncData} {N ps : List Str} {k : Nat} (F : Fun K x qual st f fd) (Sc : FnScope N ps (defScope st)) (hlen : ∀ hs ds p, S hs ds p → ds.length + 1 = ps.length)
    (hbody : ∀ (cdv : Value) (A : Around) (outer : List Env) (s : Shared) (H : Hp) (E : XK), Room k (A.deeper (envOfC qual (defScope st) s.heap.objs.size f cdv)) →
      ∃ t, PSs (cxOf CX0 P w K mg base N qual (defScope st) f cdv A outer s H E).nox (defBody st) t ∧ BodyH K S N t) : FnOk P w K mg base CX0 (k + 1) f fd ps (spH K S) := by
  refine F.ok Sc (fun vs H Q E h => ?_) fun cdv A outer s H vs Q E hr h => ?_
  · obtain ⟨B, ha, hv, hds, us, ds, p, e, _, _, _, _, hd, hs, _⟩ := h
    rw [e, List.length_cons, dpa_len hd]; exact hlen hds ds _ hs
  · obtain ⟨t, ht, hb⟩ := hbody cdv A outer s H E hr
    obtain ⟨B, ha, hv, hds, us, ds, p, ev, e, hB, hH, hhd, hd, hs, hq⟩ := h
    subst ev
    have hlt : 0 < (im0 N (.none :: ds)).length := by unfold im0; rw [List.length_append, List.length_map, List.length_cons]; omega
    -- the slots behind the first as data, then the first as an own list
    have E0 : En K ⟨H, B, fun a => a = ha⟩ B H (L2.start N (.ref ha :: us)) (im1 N ha hds ds) := by
      have E1 := en_start (K := K) (N := N) (M := fun a => a = ha) e (.cons .non hd)
      have hs0 : (L2.start N (.ref ha :: us))[0]? = some (some (.ref ha)) := rfl
      have hsi : ∀ i, (L2.start N (.ref ha :: us))[i + 1]? = (L2.start N (.non :: us))[i + 1]? := fun i => rfl
      have him : ∀ i, (im1 N ha hds ds)[i + 1]? = (im0 N (.none :: ds))[i + 1]? := fun i => by unfold im1; rw [List.getElem?_set_ne (by omega)]
      have him0 : (im1 N ha hds ds)[0]? = some (.ow (.lst (some ha) hds)) := by unfold im1; rw [List.getElem?_set_self hlt]
      have noow : ∀ (i : Nat) (ob : OB), (im0 N (.none :: ds))[i]? ≠ some (SV.ow ob) := fun i ob q => by
        unfold im0 at q
        by_cases hi : i < (PyData.none :: ds).length
        · rw [List.getElem?_append_left (by simpa using hi), List.getElem?_map] at q
          cases e1 : (PyData.none :: ds)[i]? with
          | none => rw [e1] at q; cases q
          | some d => rw [e1] at q; cases q
        · rw [List.getElem?_append_right (by simpa using hi), List.getElem?_replicate] at q
          split at q <;> cases q
      refine ⟨E1.ex, E1.b0, E1.fr, E1.pr, E1.bf, ?_, fun i s q => ?_, fun i ob a q z => ?_, fun i j ob ob' a q q' z z' => ?_⟩
      · have := E1.len
        unfold im1
        rw [List.length_set, ← this]
        rfl
      · cases i with
        | zero => rw [him0] at q; cases q; exact ⟨ha, _, hs0, hB, hH, fun _ z => (Option.some.inj z).symm, hv, rfl, hhd⟩
        | succ i => rw [him] at q; rw [hsi]; exact E1.sl (i + 1) s q
      · cases i with
        | zero => rw [hs0] at z; cases z; exact .inl rfl
        | succ i => rw [him] at q; exact absurd q (noow _ _)
      · cases i with
        | zero => cases j with
          | zero => rfl
          | succ j => rw [him] at q'; exact absurd q' (noow _ _)
        | succ i => rw [him] at q; exact absurd q (noow _ _)
    have fin : ∀ {σ' : L2.St} {B' H' : Hp} {δ' : Dl} {v : V} {d : PyData} {hds' : List PyData}, δ'[0]? = some (.ow (.lst (some ha) hds')) → En K ⟨H, B, fun a => a = ha⟩ B' H' σ' δ' → Dp K B' v d → p d hds' → Q v H' := fun {σ' B' H' δ' v d hds'} h0 E' q y => by
      obtain ⟨a, u, e1, _, q1, hp, vs, e2, r⟩ := E'.sl 0 _ h0
      have ea := hp ha rfl
      subst ea e2
      exact hq d hds' v H' vs y (fun a o ne h => E'.fr a o ne h) q1 (E'.grownA r) (E'.grown e q)
    refine ⟨t, ht, hb ha hds ds _ hs ⟨H, B, fun a => a = ha⟩ B H (L2.start N (.ref ha :: us)) _ E0 ⟨fun σ' B' H' δ' ⟨hds', z1, z2⟩ x E' => fin z1 E' .non z2, fun v σ' B' H' d δ' ⟨hds', z1, z2⟩ x E' q => fin z1 E' q z2, fun _ _ _ _ z => z.elim, fun _ _ _ _ z => z.elim⟩⟩
end
end Wk
set_option Elab.async false
set_option linter.all false
set_option maxRecDepth 100000
set_option maxHeartbeats 4000000
/-! Calls of the text's own defs; further rules. -/
namespace Wk
open PySem L2
open Evl (Ex ex_l ex_t ex_rd fresh_back sq_of st_of)
structure Cal (P : Program) (w : World) (K : Fg) (mg : Str → Option Value) (base : Heap) (x : Str) (k : Nat) (sp : Sp) : Prop where
  ex : ∃ f fd ps, FnOk P w K mg base CX0 k f fd ps sp ∧ mg x = some (.ref f) ∧ PySem.W.keepIn K (.ref f) = true ∧ Binds K fd ps []
theorem Cal.of {P : Program} {w : World} {K : Fg} {mg : Str → Option Value} {base : Heap} {x qual : Str} {st : Stmt} {k : Nat} {sp : Sp} {f : Addr} {fd : FuncData} {ps : List Str} (F : Fun K x qual st f fd) (hm : mg x = some (.ref f)) (hb : Binds K fd ps [])
    (G : FnOk P w K mg base CX0 k f fd ps sp) : Cal P w K mg base x k sp := ⟨f, fd, ps, G, hm, F.kp, hb⟩
section
variable {X : Cx} {x : Str} {k : Nat} {sp : Sp} {p pos : Pos} {e : Expr} {es : List Expr} {t : TA}
theorem pe_cal (c : Cal X.prog X.w X.K X.mg X.base x k sp) (hr : Room k X.A) (hg : Gl X x) (ha : PA X (e :: es) t) (hdb : (x == ("__debug__" : Str)) = false := by decide) (he : starEach (e :: es) X.env = (false, eval e X.env) :: starEach es X.env := by rfl) (hpl : (backTo pos (starEach es X.env)).any (·.1) = false := by rfl) :
    PE X (.Call (.Name x p) (e :: es) [] pos) (tCall sp [] E0 t) := by
  obtain ⟨f, fd, ps, G, hm, hk, hb⟩ := c.ex
  exact pe_call G hr hg hm hk hb .nil pass0 ha hdb he hpl
end
section
variable {K : Fg} {C : Ctx} {δ : Dl} {ta tb te tc : TE} {t u : TT} {k : PyData → Dl → Prop} {kb : Bool → Dl → Prop} {ka : List PyData → Dl → Prop} {nx bk ct : Dl → Prop} {rt : PyData → Dl → Prop} {ts tu : TS} {g : TG}
/-- a constant of the module -/
theorem we_k {v : V} {d : PyData} (h : ∀ H : Hp, Dp K H v d) (q : k d δ) : WE K (tC v) δ k := fun C B H σ Q E r => r _ B H _ δ q (Ex.refl B) E (h B)
def rNegI : V → Hp → VK → Prop := rU fun i => .int (-i)
theorem o_neg {X : Cx} : UnR X (unaryOp .USub) rNegI := un_neg
theorem we_neg (h : WE K te δ fun x δ' => ∃ i, x = .int i ∧ k (.int (-i)) δ') : WE K (tUn rNegI te) δ k := fun C B H σ Q E r =>
  h C B H σ _ E fun v B1 H1 x δ1 ⟨i, e, hk⟩ e1 E1 d => by subst e; cases d; exact ⟨i, rfl, r _ B1 H1 _ δ1 hk e1 E1 (.int _)⟩
def rPowI : R2 := rI CPow fun i j => .int (i ^ j.toNat)
theorem o_pow {X : Cx} : OpR X (binaryOp .Pow) rPowI := op_pow
theorem wr_pow {i j : Int} (hc : CPow i j) (q : k (.int (i ^ j.toNat)) δ) : WR K rPowI (.int i) (.int j) δ k := wr_I (gd := fun i j => .int (i ^ j.toNat)) hc (fun _ => .int _) q
theorem ws_par3 {i j l : Nat} {ta : TA} (h : WA K ta δ fun ds δ' => ∃ d e f, ds = [d, e, f] ∧ nx (((δ'.set i (.im d)).set j (.im e)).set l (.im f))) : WS K C (tPar3 i j l ta) δ nx rt bk ct := fun B H σ D E l =>
  h C B H σ _ E fun vs B1 H1 ds δ1 ⟨d, e, f, he, z⟩ e1 E1 q => by
    subst he
    cases q with
    | cons q1 q2 => cases q2 with
      | cons q2 q3 => cases q3 with
        | cons q3 q4 =>
          cases q4
          exact ⟨_, _, _, rfl, l.nx _ B1 H1 _ z e1 (((E1.set q1).set q2).set q3)⟩
/-- xs[::-1] of a datum -/
theorem wn_revL {kn : OB → Dl → Prop} (h : WE K te δ fun x δ' => ∃ ds, x = .list ds ∧ kn (.lst none ds.reverse) δ') : WN K (tRevL K te) δ kn := fun C B H σ Q E r =>
  h C B H σ _ E fun v B1 H1 x δ1 ⟨ds, e, hk⟩ e1 E1 d => by
    subst e
    cases d with
    | lst h1 h2 => exact ⟨_, _, rfl, ex_l E1.ex h1, fun p hp => r p _ B1 H1 _ δ1 hk e1 E1 hp ⟨fun _ z => (nomatch z), _, rfl, dpa_rev h2⟩⟩
/-- a statement, then the rest once from what holds between them -/
theorem ws_cut (Mid : Dl → Prop) (h : WS K C ts δ Mid rt bk ct) (q : ∀ δ', Mid δ' → WS K C tu δ' nx rt bk ct) : WS K C (tSeq ts tu) δ nx rt bk ct := ws_seq (h.mono q (fun _ _ z => z) (fun _ z => z) fun _ z => z)
theorem wt_yes (q : kb true δ) : WT K tYes δ kb := fun C B H σ Q E r => r true B H δ q (Ex.refl B) E
/-- [f(x) for x in ..], nothing changed on the way -/
theorem we_map {wi : TI} {vs : List Nat} (h : WI K wi δ fun ds δ1 => ∃ f : PyData → PyData, (∀ d, d ∈ ds → WGv K vs g d (wipeD δ1 vs) fun δ3 => WE K te δ3 fun y δ5 => y = f d ∧ wipeD δ5 vs = wipeD δ1 vs) ∧ ds.length ≤ 90000 ∧ k (.list (ds.map f)) (wipeD δ1 vs)) : WE K (tLc wi g tYes te vs) δ k := by
  refine we_new (wn_lc fun C B H σ R E r => h C B H σ R E fun J B' H' ds δ' ⟨f, h1, h2, h3⟩ => r J B' H' ds δ' ?_)
  refine ⟨fun i acc δ2 => δ2 = wipeD δ' vs ∧ acc = (ds.take i).map f, ⟨rfl, rfl⟩, fun i d acc δ2 hd hal ⟨e1, e2⟩ => ?_, fun acc δ2 ⟨e1, e2⟩ => ?_⟩
  · subst e1 e2
    have hww : wipeD (wipeD δ' vs) vs = wipeD δ' vs := by
      apply List.ext_getElem?
      intro j
      cases q : (wipeD (wipeD δ' vs) vs)[j]? with
      | none =>
        have : (wipeD δ' vs).length ≤ j := by rw [← wipeD_len (wipeD δ' vs) vs]; exact List.getElem?_eq_none_iff.mp q
        exact (List.getElem?_eq_none this).symm
      | some s =>
        rcases wipeD_at q with z | ⟨_, z⟩
        · subst z
          have hj : j < (wipeD δ' vs).length := by rw [← wipeD_len (wipeD δ' vs) vs]; exact (List.getElem?_eq_some_iff.mp q).1
          by_cases hv : j ∈ vs
          · exact (wipeD_in hv (by rw [wipeD_len] at hj; exact hj)).symm
          · rw [← wipeD_out (δ := wipeD δ' vs) hv]; exact q.symm
        · exact z.symm
    have hi : i < ds.length := (List.getElem?_eq_some_iff.mp hd).1
    rw [hww]
    exact fun C2 B2 H2 σ2 v2 Q2 E2 dp2 r2 => h1 d (List.mem_of_getElem? hd) C2 B2 H2 σ2 v2 Q2 E2 dp2 fun σ3 B3 H3 δ3 w3 => r2 σ3 B3 H3 δ3 (wt_yes ⟨fun _ => w3.mono fun y δ5 ⟨ey, ed⟩ => ⟨by simp; omega, ed, by subst ey; rw [List.take_succ, hd]; simp⟩, fun z => nomatch z⟩)
  · subst e1 e2
    exact ⟨none, _, rfl, by rw [List.take_length]; exact h3⟩
theorem all_true {bs : List PyData} (h : ∀ d ∈ bs, d = .bool true) : bs = (bs.map fun _ => true).map .bool ∧ (bs.map fun _ => true).all id = true := by
  induction bs with
  | nil => exact ⟨rfl, rfl⟩
  | cons b bs ih =>
    obtain ⟨h1, h2⟩ := ih fun d m => h d (List.mem_cons_of_mem _ m)
    have hb := h b List.mem_cons_self
    subst hb
    refine ⟨?_, ?_⟩
    · conv => lhs; rw [h1]
      rfl
    · simp only [List.map_cons, List.all_cons, id, Bool.true_and]; exact h2
theorem wc_allT {ds : List PyData} (h : ∀ d ∈ ds, d = .bool true) (q : k (.bool true) δ) : WC K (rAll K) [.list ds] δ k := by
  obtain ⟨h1, h2⟩ := all_true h
  rw [h1]
  refine wc_all ?_
  rw [h2]
  exact q
/-! a def that hands back a new list, to be changed by its caller -/
abbrev PS3 := List PyData → (List PyData → Prop) → Prop
def spN (K : Fg) (S : PS3) : Sp := fun vs H Q _ => ∃ B ds p, Ex B H ∧ DpAll K B vs ds ∧ S ds p ∧ ∀ a hv hds H', p hds → H a = none → H' a = none → Ex H H' → DpAll K (grow B H H') hv hds → Q (.ref a) (upd H' a (.lst hv))
theorem wn_call {S : PS3} {E : XK} {ta : TA} {kn : OB → Dl → Prop} (h : WA K ta δ fun ds δ' => S ds fun hds => kn (.lst none hds) δ') : WN K (tCall (spN K S) [] E ta) δ kn := fun C B H σ Q En q =>
  h C B H σ _ En fun vs B1 H1 ds δ1 hk e1 E1 d1 => by
    refine ⟨B1, ds, _, E1.ex, by rw [List.append_nil]; exact d1, hk, fun a hv hds H' hp h1 h2 x z => ?_⟩
    exact q a (.lst hv) _ H' _ δ1 hp (e1.trans (grow_ex E1.ex)) (E1.grow x) h2 ⟨fun _ z => (nomatch z), hv, rfl, z⟩
def BodyN (K : Fg) (S : PS3) (N : List Str) (t : TS) : Prop := ∀ ds p, S ds p → ∀ (B H : Hp) (vs : List V) (Q : VK), Ex B H → DpAll K B vs ds →
  (∀ a hv hds H', p hds → H a = none → H' a = none → Ex H H' → DpAll K (grow B H H') hv hds → Q (.ref a) (upd H' a (.lst hv))) → t { nx := fun _ H' => Q .non H', rt := Q } (L2.start N vs) H
theorem bodyN_of {S : PS3} {N : List Str} {s1 : TS} (h : ∀ ds p, S ds p → ∀ C : Ctx, WS K C s1 (im0 N ds) (fun δ' => WN K te δ' fun ob _ => ∃ hds, ob = .lst none hds ∧ p hds) (fun _ _ => False) (fun _ => False) (fun _ => False)) : BodyN K S N (tSeq s1 (tRet te)) := fun ds p hS B H vs Q e hd hq => by
  refine h ds p hS ⟨H, B, fun _ => False⟩ B H (L2.start N vs) _ (en_start e hd) ⟨fun σ' B' H' δ' z x E' => ?_, fun _ _ _ _ _ _ z => z.elim, fun _ _ _ _ z => z.elim, fun _ _ _ _ z => z.elim⟩
  refine z _ B' H' σ' _ E' fun a u B2 H2 ob δ2 ⟨hds, eo, hp⟩ x2 E2 ha r => ?_
  subst eo
  obtain ⟨_, hv, eu, r⟩ := r
  subst eu
  have xH : Ex H H2 := fun b o q => E2.fr b o (fun z => z) q
  exact hq a hv hds H2 hp (fresh_back xH ha) ha xH (E2.grownA r)
def iiD : PyData → Bool | .int _ => true | .bool _ => true | _ => false
def ibD : PyData → Bool | .bool _ => true | _ => false
def itD : PyData → Bool | .tuple _ => true | _ => false
def isD : PyData → Bool | .str _ => true | _ => false
theorem ki : ∀ d : PyData, kitB (tyN d) "int" = some (iiD d)
  | .none => (show kitB "NoneType" "int" = some false by decide +kernel)
  | .bool _ => (show kitB "bool" "int" = some true by decide +kernel)
  | .int _ => (show kitB "int" "int" = some true by decide +kernel)
  | .str _ => (show kitB "str" "int" = some false by decide +kernel)
  | .list _ => (show kitB "list" "int" = some false by decide +kernel)
  | .tuple _ => (show kitB "tuple" "int" = some false by decide +kernel)
  | .dict _ => (show kitB "dict" "int" = some false by decide +kernel)
theorem kbo : ∀ d : PyData, kitB (tyN d) "bool" = some (ibD d)
  | .none => (show kitB "NoneType" "bool" = some false by decide +kernel)
  | .bool _ => (show kitB "bool" "bool" = some true by decide +kernel)
  | .int _ => (show kitB "int" "bool" = some false by decide +kernel)
  | .str _ => (show kitB "str" "bool" = some false by decide +kernel)
  | .list _ => (show kitB "list" "bool" = some false by decide +kernel)
  | .tuple _ => (show kitB "tuple" "bool" = some false by decide +kernel)
  | .dict _ => (show kitB "dict" "bool" = some false by decide +kernel)
theorem kt : ∀ d : PyData, kitB (tyN d) "tuple" = some (itD d)
  | .none => (show kitB "NoneType" "tuple" = some false by decide +kernel)
  | .bool _ => (show kitB "bool" "tuple" = some false by decide +kernel)
  | .int _ => (show kitB "int" "tuple" = some false by decide +kernel)
  | .str _ => (show kitB "str" "tuple" = some false by decide +kernel)
  | .list _ => (show kitB "list" "tuple" = some false by decide +kernel)
  | .tuple _ => (show kitB "tuple" "tuple" = some true by decide +kernel)
  | .dict _ => (show kitB "dict" "tuple" = some false by decide +kernel)
theorem ks : ∀ d : PyData, kitB (tyN d) "str" = some (isD d)
  | .none => (show kitB "NoneType" "str" = some false by decide +kernel)
  | .bool _ => (show kitB "bool" "str" = some false by decide +kernel)
  | .int _ => (show kitB "int" "str" = some false by decide +kernel)
  | .str _ => (show kitB "str" "str" = some true by decide +kernel)
  | .list _ => (show kitB "list" "str" = some false by decide +kernel)
  | .tuple _ => (show kitB "tuple" "str" = some false by decide +kernel)
  | .dict _ => (show kitB "dict" "str" = some false by decide +kernel)
theorem we_isi_int (h : WE K te δ fun x δ' => k (.bool (iiD x)) δ') : WE K (tCB (rIsi K) (tCons te (tCons (tC (.ty "int")) tNil))) δ k := we_isi (h.mono fun x _ q => ⟨_, ki x, q⟩)
theorem we_isi_bool (h : WE K te δ fun x δ' => k (.bool (ibD x)) δ') : WE K (tCB (rIsi K) (tCons te (tCons (tC (.ty "bool")) tNil))) δ k := we_isi (h.mono fun x _ q => ⟨_, kbo x, q⟩)
theorem we_isi_tuple (h : WE K te δ fun x δ' => k (.bool (itD x)) δ') : WE K (tCB (rIsi K) (tCons te (tCons (tC (.ty "tuple")) tNil))) δ k := we_isi (h.mono fun x _ q => ⟨_, kt x, q⟩)
theorem we_isi_str (h : WE K te δ fun x δ' => k (.bool (isD x)) δ') : WE K (tCB (rIsi K) (tCons te (tCons (tC (.ty "str")) tNil))) δ k := we_isi (h.mono fun x _ q => ⟨_, ks x, q⟩)
/-- a bool that comes out by itself -/
theorem isTr {b : Bool} {X Y : Prop} (h : X) (e : b = true) : (b = true → X) ∧ (b = false → Y) := isTb e h
theorem isFr {b : Bool} {X Y : Prop} (h : Y) (e : b = false) : (b = true → X) ∧ (b = false → Y) := isFb e h
end
section
variable {P : Program} {w : World} {K : Fg} {mg : Str → Option Value} {base : Heap}
theorem fn_new {S : PS3} {x qual : Str} {st : Stmt} {f : Addr} {fd : FuncData} {N ps : List Str} {k : Nat} (F : Fun K x qual st f fd) (Sc : FnScope N ps (defScope st)) (hlen : ∀ ds p, S ds p → ds.length = ps.length)
    (hbody : ∀ (cdv : Value) (A : Around) (outer : List Env) (s : Shared) (H : Hp) (E : XK), Room k (A.deeper (PyProof.Rows.envOfC qual (defScope st) s.heap.objs.size f cdv)) →
      ∃ t, PSs (cxOf CX0 P w K mg base N qual (defScope st) f cdv A outer s H E).nox (defBody st) t ∧ BodyN K S N t) : FnOk P w K mg base CX0 (k + 1) f fd ps (spN K S) := by
  refine F.ok Sc (fun vs H Q E h => ?_) fun cdv A outer s H vs Q E hr h => ?_
  · obtain ⟨B, ds, p, e, hd, hs, _⟩ := h
    rw [dpa_len hd]; exact hlen ds _ hs
  · obtain ⟨t, ht, hb⟩ := hbody cdv A outer s H E hr
    obtain ⟨B, ds, p, e, hd, hs, hq⟩ := h
    exact ⟨t, ht, hb ds p hs B H vs Q e hd hq⟩
end
end Wk
set_option Elab.async false
set_option linter.all false
set_option maxRecDepth 100000
/-! Sizes of ints: enough for the model's limits. -/
namespace Wk
open PySem L2
def Bd (n : Nat) (i : Int) : Prop := i.natAbs < 2 ^ n
theorem pw_le {a b : Nat} (h : a ≤ b) : 2 ^ a ≤ 2 ^ b := Nat.pow_le_pow_right (by decide) h
theorem Bd.up {n m : Nat} {i : Int} (h : Bd n i) (k : n ≤ m) : Bd m i := Nat.lt_of_lt_of_le h (pw_le k)
theorem bd_add {n m : Nat} {i j : Int} (h : Bd n i) (k : Bd m j) : Bd (max n m + 1) (i + j) := by
  have h1 := h.up (Nat.le_max_left n m)
  have h2 := k.up (Nat.le_max_right n m)
  unfold Bd at *
  rw [Nat.pow_succ]
  omega
theorem bd_sub {n m : Nat} {i j : Int} (h : Bd n i) (k : Bd m j) : Bd (max n m + 1) (i - j) := by
  have h1 := h.up (Nat.le_max_left n m)
  have h2 := k.up (Nat.le_max_right n m)
  unfold Bd at *
  rw [Nat.pow_succ]
  omega
theorem bd_neg {n : Nat} {i : Int} (h : Bd n i) : Bd n (-i) := by unfold Bd at *; omega
theorem bd_mul {n m : Nat} {i j : Int} (h : Bd n i) (k : Bd m j) : Bd (n + m) (i * j) := wide_lt h k
theorem bd_div {n : Nat} {i j : Int} (h : Bd n i) : Bd n (i / j) := Nat.lt_of_le_of_lt (Int.natAbs_ediv_le_natAbs i j) h
theorem bd_mod {n : Nat} {i j : Int} (hj : 0 < j) (h : Bd n j) : Bd n (i % j) := by
  have h1 := Int.emod_lt_of_pos i hj
  have h2 := Int.emod_nonneg i (by omega : j ≠ 0)
  unfold Bd at *
  omega
theorem bd_abs {n : Nat} {i : Int} (h : Bd n i) : Bd n (i.natAbs : Int) := by unfold Bd at *; omega
theorem bd_nat {n : Nat} {i : Int} (h : Bd n i) : Bd n (i.natAbs : Int) := bd_abs h
theorem bd_min {n m : Nat} {i j : Int} (h : Bd n i) (k : Bd m j) : Bd (max n m) (min i j) := by
  have h1 := h.up (Nat.le_max_left n m)
  have h2 := k.up (Nat.le_max_right n m)
  unfold Bd at *
  omega
theorem bd_max {n m : Nat} {i j : Int} (h : Bd n i) (k : Bd m j) : Bd (max n m) (max i j) := by
  have h1 := h.up (Nat.le_max_left n m)
  have h2 := k.up (Nat.le_max_right n m)
  unfold Bd at *
  omega
theorem bd_le {n : Nat} {i j : Int} (h : Bd n j) (h0 : 0 ≤ i) (h1 : i ≤ j) : Bd n i := by unfold Bd at *; omega
theorem bd_lit {n : Nat} {i : Int} (h : i.natAbs < 2 ^ n) : Bd n i := h
theorem bd_pos {n : Nat} {i : Int} (h0 : 0 ≤ i) (h : i < (2 : Int) ^ n) : Bd n i := by
  unfold Bd
  have : ((i.natAbs : Nat) : Int) < ((2 ^ n : Nat) : Int) := by
    rw [Int.natAbs_of_nonneg h0]; simpa using h
  omega
theorem mulok {n m : Nat} {i j : Int} (h : Bd n i) (k : Bd m j) (hs : n + m + 2 ≤ 1000000) : IntMulOk i j :=
  CMulW.ok (wide_mul (h.up (Nat.le_succ n)) (k.up (Nat.le_succ m)) (Nat.succ_pos n) (Nat.succ_pos m) (by omega))
theorem mulokL {i j : Int} (h : -(2 ^ 64) < i ∧ i < 2 ^ 64) : IntMulOk i j := CMul.ok (.inl h)
theorem mulokR {i j : Int} (h : -(2 ^ 64) < j ∧ j < 2 ^ 64) : IntMulOk i j := CMul.ok (.inr h)
section
variable {K : Fg} {δ : Dl} {k : PyData → Dl → Prop}
theorem wr_divB {n : Nat} {i j : Int} (h0 : 0 < j) (hc : Bd n j) (hn : n ≤ 8000) (q : k (.int (i / j)) δ) : WR K rDivI (.int i) (.int j) δ k := wr_div h0 (hc.up hn) q
theorem wr_eqI {i j : Int} (q : k (.bool (decide (i = j))) δ) : WR K (rEqD K) (.int i) (.int j) δ k := wr_eqD rfl rfl (by rw [show PyData.eqv (.int i) (.int j) = decide (i = j) by simp [PyData.eqv, Bool.beq_eq_decide_eq]]; exact q)
theorem wr_neI {i j : Int} (q : k (.bool (!decide (i = j))) δ) : WR K (rNeD K) (.int i) (.int j) δ k := wr_neD rfl rfl (by rw [show PyData.eqv (.int i) (.int j) = decide (i = j) by simp [PyData.eqv, Bool.beq_eq_decide_eq]]; exact q)
theorem wr_eqY {x y : PyData} (h : x = y) (hs : SeqAt.shaped x = true) (q : k (.bool true) δ) : WR K (rEqD K) x y δ k := by
  subst h
  exact wr_eqD hs hs (by rw [SeqAt.eqv_refl x (SeqAt.canLay_of_shaped hs)]; exact q)
theorem wr_neY {x y : PyData} (h : x = y) (hs : SeqAt.shaped x = true) (q : k (.bool false) δ) : WR K (rNeD K) x y δ k := by
  subst h
  exact wr_neD hs hs (by rw [SeqAt.eqv_refl x (SeqAt.canLay_of_shaped hs)]; exact q)
theorem eqv_pair (a b c d : Int) : PyData.eqv (.tuple [.int a, .int b]) (.tuple [.int c, .int d]) = decide (a = c ∧ b = d) := by
  simp [PyData.eqv, PyData.eqvAll, Bool.beq_eq_decide_eq]
theorem sh_pair (a b : Int) : SeqAt.shaped (.tuple [.int a, .int b]) = true := by simp [SeqAt.shaped, PyData.canLay0, PyData.canLayAll0, PyData.depth, PyData.depthAll]
theorem wr_eqR {a b c d : Int} (q : k (.bool (decide (a = c ∧ b = d))) δ) : WR K (rEqD K) (.tuple [.int a, .int b]) (.tuple [.int c, .int d]) δ k := wr_eqD (sh_pair _ _) (sh_pair _ _) (by rw [eqv_pair]; exact q)
theorem wr_neR {a b c d : Int} (q : k (.bool (!decide (a = c ∧ b = d))) δ) : WR K (rNeD K) (.tuple [.int a, .int b]) (.tuple [.int c, .int d]) δ k := wr_neD (sh_pair _ _) (sh_pair _ _) (by rw [eqv_pair]; exact q)
theorem wr_mulB {n m : Nat} {i j : Int} (h : Bd n i) (h' : Bd m j) (hs : n + m + 2 ≤ 1000000) (q : k (.int (i * j)) δ) : WR K rMulI (.int i) (.int j) δ k := wr_mul (mulok h h' hs) q
end
end Wk
set_option Elab.async false
set_option linter.all false
set_option maxRecDepth 100000
set_option maxHeartbeats 4000000
/-! Dicts of this frame's own, keys ints; sorted of one, falling. -/
namespace Wk
open PySem L2
open Evl (Ex ex_l ex_t ex_rd fresh_back sq_of st_of)
section
variable {X : Cx}
def rSrtDR : List V → List V → Hp → VK → Prop := fun vs zs H Q => ∃ (a : Addr) (kvs : List (Key × V)) (ks : List Int), vs = [.ref a] ∧ zs = [.bl true] ∧ Rd H a (.dK kvs) ∧ kvs.map (·.1) = ks.map Sum.inl ∧ ks.length ≤ 1000 ∧
  ∀ (ys : List Int) (p : Addr), ys.Perm ks → ys.Pairwise (· ≥ ·) → H p = none → Q (.ref p) (upd H p (.lst (ys.map V.int)))
theorem cr_sortedDRev (hcalm : X.calm = true) : CallRK X (.builtin "sorted") [Str.ofString "reverse"] rSrtDR := by
  intro pins s σ H vs zs us ws Q I r rz h
  obtain ⟨a, kvs, ks, rfl, rfl, hd, hks, h64, q⟩ := h
  obtain rfl := Vals.ref1 r
  obtain ⟨w1, rfl, e1⟩ := vals1 rz
  obtain rfl : w1 = Value.bool true := e1
  obtain ⟨z, lo, vs, rel, dd⟩ := dk_rd I.hok hd
  obtain ⟨ep, hat⟩ := dd.dictAt
  have hkeys : vs.map (·.1) = ks.map Sum.inl := rel.keys.symm.trans hks
  have hl : vs.length = ks.length := by
    have e := congrArg List.length hkeys
    rw [List.length_map, List.length_map] at e
    exact e
  have h16 : vs.length ≤ sizeLine := by rw [hl, sizeLine_eq]; omega
  refine PyProof.Rows.call_function_entry_kw PyProof.Rows.kind_sorted PyProof.Rows.plain_sorted PyProof.Rows.entry_sorted (PyProof.Rows.args_sorted_rev _ _) ?_
  unfold Builtin.«sorted»
  refine wpAny_bind (m := checkCount "sorted" 1 1 _) (wpAny_pure ?_)
  refine wpAny_bind (PySem.W.kdu_collect (A := X.A.in1) (PySem.W.kdl_dict (knd := mixKind X.prog X.w) (kvs := vs) (ep := ep) lo) (I.ok.hd hcalm) hat h16 fun h' tk acc hk hacc => ?_)
  have hal : acc.toList.length = ks.length := by rw [Array.length_toList, hacc.1, hl]
  have hS : PyProof.Rows.IntsAre acc.toList ks := ints_each hal fun j v e => by
    obtain ⟨k, x, e1, e2⟩ := hacc.2 j v (by rw [← Array.getElem?_toList]; exact e)
    have e3 : (vs.map (·.1))[j]? = some k := by rw [List.getElem?_map, e1]; rfl
    rw [hkeys, List.getElem?_map] at e3
    cases e4 : ks[j]? with
    | none => rw [e4] at e3; cases e3
    | some y =>
      rw [e4] at e3
      have e5 : Sum.inl y = k := Option.some.inj e3
      subst e5
      rcases keyIs_shape (show keyIs (Sum.inl y) v = true from e2) with ⟨i, t, ek, ev⟩ | ⟨z, t, ek, ev⟩
      · cases ek
        exact ⟨y, t, rfl, ev⟩
      · cases ek
  have I1 : Inv X pins σ H { s with heap := h', toks := tk } := I.kept hk
  have hsz : acc.toList.length ≤ sizeLine := by rw [hal, sizeLine_eq]; omega
  refine wpAny_bind (wpAny_newList ?_ hsz)
  have hoL : (h'.push (PyProof.Rows.seqObj "list" acc.toList.toArray 0)).get? h'.objs.size = some (PyProof.Rows.seqObj "list" acc.toList.toArray 0) := Heap.get?_push_size _ rfl
  show wpAny _ _ _ _ _ { s with heap := h'.push (PyProof.Rows.seqObj "list" acc.toList.toArray 0), toks := tk }
  refine wpAny_bind (wpAny_holding (PyProof.Rows.wpAny_call_entry_kw PyProof.Rows.slot_list_sort ⟨_, hoL, rfl⟩ PyProof.Rows.entry_list_sort ?_ (PyProof.Rows.args_list_sort_rev _ _)))
  refine SrtR.list_sort_ordR (b := true) SrtO.swo_int hoL hsz (fun h2 => SrtO.ints_sortable hS h2) fun out h1 h2 => ⟨_, rfl, ?_⟩
  obtain ⟨ns', k1, k2, k3⟩ := SrtR.ints_outR hS h1 h2
  obtain ⟨e', he'⟩ := PyProof.Rows.sortedHeap_at (vs := acc.toList) (out := (if true = true then out.toArray.reverse else out.toArray)) hoL
  have hlen : (ns'.map V.int).length ≤ sizeLine := by
    rw [List.length_map, k2.length_eq, sizeLine_eq]
    omega
  have e0 : ((if true = true then out.toArray.reverse else out.toArray).toList).toArray = (if true = true then out.toArray.reverse else out.toArray) := by rw [Array.toArray_toList]
  refine wpAny_pure ⟨_, rfl, .ref h'.objs.size, upd H h'.objs.size (.lst (ns'.map V.int)), I1.laid (t' := tk) (fun b u e => ?_) (Nat.le_refl _)
    (show ObjOk X.prog X.w _ _ _ (.lst (ns'.map V.int)) from ⟨hlen, _, e', vals_of_ints k1, by rw [e0]; exact he'⟩), rfl, q ns' _ k2 k3 (I1.hok.fresh (Nat.le_refl _))⟩
  have hb : b < h'.objs.size := Heap.lt_size e
  rw [PyProof.Rows.sortedHeap_old (Nat.ne_of_lt hb) (by rw [PyProof.Rows.size_push']; exact Nat.lt_succ_of_lt hb)]
  exact Heap.get?_push_of_some _ e
end
section
variable {K : Fg} {C : Ctx} {δ : Dl} {ta tb te tx ty : TE} {k : PyData → Dl → Prop} {nx bk ct : Dl → Prop} {rt : PyData → Dl → Prop}
abbrev KD := List (Key × PyData)
def lookD (kvs : KD) (k : Key) : Option PyData := (kvs.find? fun kv => decide (kv.1 = k)).map (·.2)
def storeD (kvs : KD) (k : Key) (v : PyData) : KD := if (kvs.any fun kv => decide (kv.1 = k)) = true then kvs.map (fun kv => if kv.1 = k then (kv.1, v) else kv) else kvs ++ [(k, v)]
def PR (K : Fg) (B : Hp) (p : Key × V) (q : Key × PyData) : Prop := p.1 = q.1 ∧ Dp K B p.2 q.2
theorem pr_look {B : Hp} {k : Key} : ∀ {ks : List (Key × V)} {kvs : KD}, Paired (PR K B) ks kvs → (∀ d, lookD kvs k = some d → ∃ v, valV ks k = some v ∧ Dp K B v d) ∧ (lookD kvs k = none → valV ks k = none)
  | _, _, .nil => ⟨fun d h => (nomatch h), fun _ => rfl⟩
  | _, _, .cons (a := p) (b := q) r t => by
    obtain ⟨h1, h2⟩ := pr_look (k := k) t
    by_cases e : q.1 = k
    · have ep : p.1 = k := r.1.trans e
      refine ⟨fun d h => ⟨p.2, valV_pos ep, ?_⟩, fun h => ?_⟩
      · simp only [lookD, List.find?_cons, e, decide_true, Option.map_some, Option.some.injEq] at h
        rw [← h]; exact r.2
      · simp [lookD, List.find?_cons, e] at h
    · have ep : ¬ p.1 = k := fun z => e (r.1.symm.trans z)
      rw [valV_neg ep]
      have hl : ∀ rest : KD, lookD (q :: rest) k = lookD rest k := fun rest => by simp [lookD, List.find?_cons, e]
      rw [hl]
      exact ⟨h1, h2⟩
theorem pr_any {B : Hp} {k : Key} : ∀ {ks : List (Key × V)} {kvs : KD}, Paired (PR K B) ks kvs → (ks.any fun kv => decide (kv.1 = k)) = (kvs.any fun kv => decide (kv.1 = k))
  | _, _, .nil => rfl
  | _, _, .cons r t => by rw [List.any_cons, List.any_cons, pr_any t, r.1]
theorem pr_map {B : Hp} {k : Key} {v : V} {d : PyData} (h : Dp K B v d) : ∀ {ks : List (Key × V)} {kvs : KD}, Paired (PR K B) ks kvs → Paired (PR K B) (ks.map fun kv => if kv.1 = k then (kv.1, v) else kv) (kvs.map fun kv => if kv.1 = k then (kv.1, d) else kv)
  | _, _, .nil => .nil
  | _, _, .cons (a := p) (b := q) r t => by
    refine .cons ?_ (pr_map h t)
    show PR K B (if p.1 = k then (p.1, v) else p) (if q.1 = k then (q.1, d) else q)
    by_cases e : q.1 = k
    · rw [if_pos e, if_pos (r.1.trans e)]; exact ⟨r.1, h⟩
    · rw [if_neg e, if_neg (fun z => e (r.1.symm.trans z))]; exact r
theorem pr_app {B : Hp} : ∀ {ks ls : List (Key × V)} {kvs lvs : KD}, Paired (PR K B) ks kvs → Paired (PR K B) ls lvs → Paired (PR K B) (ks ++ ls) (kvs ++ lvs)
  | _, _, _, _, .nil, s => s
  | _, _, _, _, .cons r t, s => .cons r (pr_app t s)
theorem pr_store {B : Hp} {k : Key} {v : V} {d : PyData} (h : Dp K B v d) {ks : List (Key × V)} {kvs : KD} (r : Paired (PR K B) ks kvs) : Paired (PR K B) (putK ks k v) (storeD kvs k d) := by
  unfold putK storeD
  rw [pr_any r]
  split
  · exact pr_map h r
  · exact pr_app r (.cons ⟨rfl, h⟩ .nil)
theorem pr_len {B : Hp} : ∀ {ks : List (Key × V)} {kvs : KD}, Paired (PR K B) ks kvs → ks.length = kvs.length
  | _, _, .nil => rfl
  | _, _, .cons _ t => congrArg (· + 1) (pr_len t)
theorem pr_keys {B : Hp} : ∀ {ks : List (Key × V)} {kvs : KD}, Paired (PR K B) ks kvs → ks.map (·.1) = kvs.map (·.1)
  | _, _, .nil => rfl
  | _, _, .cons r t => by rw [List.map_cons, List.map_cons, r.1, pr_keys t]
theorem wn_dnew {kn : OB → Dl → Prop} (q : kn (.dct []) δ) : WN K tDNewK δ kn := fun C B H σ Q E r p hp => r p _ B H _ δ q (Ex.refl B) E hp ⟨[], rfl, .nil⟩
/-- d[k] = e, d an own dict, k an int -/
theorem ws_dput {i : Nat} (h : WE K te δ fun d δ1 => (∃ o, δ1[i]? = some (.ow o)) ∧ WE K ty δ1 fun y δ2 => ∃ n, y = .int n ∧ ∃ kvs, δ2[i]? = some (.ow (.dct kvs)) ∧ kvs.length < 100000 ∧ nx (δ2.set i (.ow (.dct (storeD kvs (.inl n) d))))) :
    WS K C (sDPut (tVar i) ty te) δ nx rt bk ct := fun B H σ D E l =>
  h C B H σ _ E fun w B1 H1 d δ1 ⟨⟨o, ho⟩, h1⟩ x E1 q1 => by
    obtain ⟨a, u, e, n, z, _⟩ := E1.sl i _ ho
    refine ⟨.ref a, e, h1 C B1 H1 σ _ E1 fun v B2 H2 y δ2 ⟨m, ey, kvs, h2, hm, hk⟩ x2 E2 q2 => ?_⟩
    subst ey
    cases q2
    obtain ⟨a1, u1, e1, n1, z1, ks, e2, r1⟩ := E2.sl i _ h2
    subst e2
    rw [e] at e1
    cases e1
    exact ⟨a, _, rfl, DPut.k (k := .inl m) z1 (Evl.sz_lt (by rw [pr_len r1]; exact hm)), l.nx _ B2 _ _ hk (x.trans x2) (E2.mut h2 e ⟨_, rfl, pr_store (dp_mono x2 q1) r1⟩)⟩
theorem we_dget {i : Nat} (h : WE K ty δ fun y δ' => ∃ n, y = .int n ∧ ∃ kvs, δ'[i]? = some (.ow (.dct kvs)) ∧ ∃ d, lookD kvs (.inl n) = some d ∧ k d δ') (hi : ∃ o, δ[i]? = some (.ow o)) : WE K (tDGet (tVar i) ty) δ k := fun C B H σ Q E r => by
  obtain ⟨o, ho⟩ := hi
  obtain ⟨a, u, e, n, z, _⟩ := E.sl i _ ho
  refine ⟨.ref a, e, h C B H σ _ E fun v B2 H2 y δ2 ⟨m, ey, kvs, h2, d, hm, hk⟩ x2 E2 q2 => ?_⟩
  subst ey
  cases q2
  obtain ⟨a1, u1, e1, n1, z1, ks, e2, r1⟩ := E2.sl i _ h2
  subst e2
  rw [e] at e1
  cases e1
  obtain ⟨v, hv, dv⟩ := (pr_look (k := .inl m) r1).1 d hm
  exact ⟨a, v, rfl, by rw [← hv]; exact DGet.k (k := .inl m) z1, r v B2 H2 d δ2 hk x2 E2 dv⟩
theorem we_dget2 {i : Nat} (h : WE K ty δ fun y δ1 => WE K tx δ1 fun z δ' => ∃ n, y = .int n ∧ ∃ kvs, δ'[i]? = some (.ow (.dct kvs)) ∧ k ((lookD kvs (.inl n)).getD z) δ') (hi : ∃ kvs, δ[i]? = some (.ow (.dct kvs))) : WE K (tDGet2 (tVar i) ty tx) δ k := fun C B H σ Q E r => by
  obtain ⟨o, ho⟩ := hi
  obtain ⟨a, u, e, n, z, ks0, e0, _⟩ := E.sl i _ ho
  subst e0
  refine ⟨.ref a, e, a, rfl, .inl ⟨ks0, .inl z⟩, h C B H σ _ E fun v B1 H1 y δ1 h1 x1 E1 q1 => h1 C B1 H1 σ _ E1 fun w B2 H2 zd δ2 ⟨m, ey, kvs, h2, hk⟩ x2 E2 q2 => ?_⟩
  subst ey
  cases q1
  obtain ⟨a1, u1, e1, n1, z1, ks, e2, r1⟩ := E2.sl i _ h2
  subst e2
  rw [e] at e1
  cases e1
  refine ⟨valV ks (.inl m), DGet.k (k := .inl m) z1, ?_⟩
  obtain ⟨l1, l2⟩ := pr_look (k := .inl m) r1
  cases hl : lookD kvs (.inl m) with
  | none => rw [l2 hl]; rw [hl] at hk; exact r w B2 H2 zd δ2 hk (x1.trans x2) E2 q2
  | some d =>
    obtain ⟨v', hv, dv⟩ := l1 d hl
    rw [hv]; rw [hl] at hk
    exact r v' B2 H2 d δ2 hk (x1.trans x2) E2 dv
/-- sorted(d, reverse=True), d an own dict of int keys -/
theorem wn_sortDR {i : Nat} {kvs : KD} {ks : List Int} {kn : OB → Dl → Prop} (hi : δ[i]? = some (.ow (.dct kvs))) (hk : kvs.map (·.1) = ks.map Sum.inl) (hl : ks.length ≤ 1000) (q : ∀ ys : List Int, ys.Perm ks → ys.Pairwise (· ≥ ·) → kn (.lst none (ys.map .int)) δ) :
    WN K (tCKw rSrtDR (tCons (tVar i) tNil) (tCons (tC (.bl true)) tNil)) δ kn := fun C B H σ Q E r => by
  obtain ⟨a, u, e, n, z, ls, e0, r0⟩ := E.sl i _ hi
  subst e0
  exact ⟨.ref a, e, a, ls, ks, rfl, rfl, .inl z, (pr_keys r0).trans hk, hl, fun ys p hp hs hn => r p _ B H _ δ (q ys hp hs) (Ex.refl B) E hn ⟨fun _ z => (nomatch z), _, rfl, ints_dpa ys⟩⟩
end
end Wk
set_option Elab.async false
set_option linter.all false
set_option maxRecDepth 100000
set_option maxHeartbeats 4000000
/-! Three comparisons in a row; a list's parts at names. -/
namespace Wk
open PySem L2
open Evl (Ex ex_l ex_t ex_rd fresh_back sq_of st_of)
def tChain3 (r r' r'' : R2) (ta tb tc td : TE) : TE := fun σ H Q => ta σ H fun x H1 => tb σ H1 fun y H2 => r x y H2 fun z H3 => ∃ k, z = .bl k ∧
  (k = false → Q (.bl false) H3) ∧ (k = true → tc σ H3 fun x' H4 => r' y x' H4 fun z' H5 => ∃ k', z' = .bl k' ∧ (k' = false → Q (.bl false) H5) ∧ (k' = true → td σ H5 fun y' H6 => r'' x' y' H6 Q))
section
variable {X : Cx} {pos : Pos} {a b c d : Expr} {ta tb tc td : TE}
theorem pe_chain3 {op op' op'' : CmpOp} {r r' r'' : R2} (ho : OpR X (compareOp op) r) (ho' : OpR X (compareOp op') r') (ho'' : OpR X (compareOp op'') r'') (ha : PE X a ta) (hb : PE X b tb) (hc : PE X c tc) (hd : PE X d td)
    (hm : PySem.lastMarks [op, op', op''] [b, c, d] = false := by with_unfolding_all rfl) : PE X (.Compare a [op, op', op''] [b, c, d] pos) (tChain3 r r' r'' ta tb tc td) := by
  refine ⟨fun pins s σ H Q I h => PyProof.Rows.Compare_chain (thn (ha.run pins s σ H _ I h) fun v1 s1 ⟨x1, H1, I1, r1, q1⟩ => ?_) hm⟩
  refine PyProof.Rows.chain_link (thn (hb.run pins s1 σ H1 _ I1 q1) fun v2 s2 ⟨x2, H2, I2, r2, q2⟩ => thn (ho pins s2 σ H2 x1 x2 v1 v2 _ I2 r1 r2 q2) fun v3 s3 ⟨z3, H3, I3, r3, k3, e3, f3, g3⟩ => ?_)
  subst e3
  cases r3
  refine wpAny_truthy_bool ?_
  cases k3 with
  | false => exact PyProof.Rows.ite_ff ⟨.bl false, H3, I3, rfl, f3 rfl⟩
  | true =>
    refine PyProof.Rows.ite_tt (PyProof.Rows.chain_link (thn (hc.run pins s3 σ H3 _ I3 (g3 rfl)) fun v4 s4 ⟨x4, H4, I4, r4, q4⟩ => thn (ho' pins s4 σ H4 x2 x4 v2 v4 _ I4 r2 r4 q4) fun v5 s5 ⟨z5, H5, I5, r5, k5, e5, f5, g5⟩ => ?_))
    subst e5
    cases r5
    refine wpAny_truthy_bool ?_
    cases k5 with
    | false => exact PyProof.Rows.ite_ff ⟨.bl false, H5, I5, rfl, f5 rfl⟩
    | true => exact PyProof.Rows.ite_tt (PyProof.Rows.chain_last (thn (hd.run pins s5 σ H5 _ I5 (g5 rfl)) fun v6 s6 ⟨x6, H6, I6, r6, q6⟩ => ho'' pins s6 σ H6 x4 x6 v4 v6 Q I6 r4 r6 q6))
/-- its truth -/
theorem pt_chain3 {op op' op'' : CmpOp} {r r' r'' : R2} (ho : OpR X (compareOp op) r) (ho' : OpR X (compareOp op') r') (ho'' : OpR X (compareOp op'') r'') (ha : PE X a ta) (hb : PE X b tb) (hc : PE X c tc) (hd : PE X d td)
    (hm : PySem.lastMarks [op, op', op''] [b, c, d] = false := by with_unfolding_all rfl) : PT X (.Compare a [op, op', op''] [b, c, d] pos) (tTest (tChain3 r r' r'' ta tb tc td)) := by
  refine ⟨fun pins s σ H Q I h => PyProof.Rows.isTrue_chain (thn (ha.run pins s σ H _ I h) fun v1 s1 ⟨x1, H1, I1, r1, q1⟩ => ?_) hm⟩
  refine PyProof.Rows.test_link (thn (hb.run pins s1 σ H1 _ I1 q1) fun v2 s2 ⟨x2, H2, I2, r2, q2⟩ => thn (ho pins s2 σ H2 x1 x2 v1 v2 _ I2 r1 r2 q2) fun v3 s3 ⟨z3, H3, I3, r3, k3, e3, f3, g3⟩ => ?_)
  subst e3
  cases r3
  refine wpAny_truthy_bool ?_
  cases k3 with
  | false =>
    obtain ⟨j, ej, q⟩ := f3 rfl
    cases ej
    exact PyProof.Rows.ite_ff ⟨H3, I3, q⟩
  | true =>
    refine PyProof.Rows.ite_tt (PyProof.Rows.test_link (thn (hc.run pins s3 σ H3 _ I3 (g3 rfl)) fun v4 s4 ⟨x4, H4, I4, r4, q4⟩ => thn (ho' pins s4 σ H4 x2 x4 v2 v4 _ I4 r2 r4 q4) fun v5 s5 ⟨z5, H5, I5, r5, k5, e5, f5, g5⟩ => ?_))
    subst e5
    cases r5
    refine wpAny_truthy_bool ?_
    cases k5 with
    | false =>
      obtain ⟨j, ej, q⟩ := f5 rfl
      cases ej
      exact PyProof.Rows.ite_ff ⟨H5, I5, q⟩
    | true =>
      refine PyProof.Rows.ite_tt (PyProof.Rows.test_last (thn (hd.run pins s5 σ H5 _ I5 (g5 rfl)) fun v6 s6 ⟨x6, H6, I6, r6, q6⟩ => thn (ho'' pins s6 σ H6 x4 x6 v4 v6 _ I6 r4 r6 q6) fun v7 s7 ⟨z7, H7, I7, r7, j, ej, q7⟩ => ?_))
      subst ej
      cases r7
      exact wpAny_truthy_bool ⟨H7, I7, q7⟩
end
section
variable {K : Fg} {C : Ctx} {δ : Dl} {ta tb tc td : TE} {k : PyData → Dl → Prop}
theorem we_chain3 {r r' r'' : R2} (h : WE K ta δ fun x δ1 => WE K tb δ1 fun y δ2 => WR K r x y δ2 fun z δ3 => ∃ b, z = .bool b ∧ (b = true → WE K tc δ3 fun w δ4 => WR K r' y w δ4 fun z' δ5 => ∃ b', z' = .bool b' ∧ (b' = true → WE K td δ5 fun u δ6 => WR K r'' w u δ6 k) ∧ (b' = false → k (.bool false) δ5)) ∧ (b = false → k (.bool false) δ3)) :
    WE K (tChain3 r r' r'' ta tb tc td) δ k := fun C B H σ Q E q =>
  h C B H σ _ E fun v B1 H1 x δ1 h1 e1 E1 d1 => h1 C B1 H1 σ _ E1 fun w B2 H2 y δ2 h2 e2 E2 d2 => h2 C B2 H2 σ v w _ E2 (dp_mono e2 d1) d2 fun z B3 H3 d δ3 ⟨b, eb, h3, h4⟩ e3 E3 d3 => by
    subst eb
    cases d3
    refine ⟨b, rfl, fun hb => ?_, fun hb => ?_⟩
    · exact q _ B3 H3 _ δ3 (h4 hb) ((e1.trans e2).trans e3) E3 (.bl _)
    · refine (h3 hb) C B3 H3 σ _ E3 fun m B4 H4 n δ4 h5 e4 E4 d4 => h5 C B4 H4 σ w m _ E4 (dp_mono e4 (dp_mono e3 d2)) d4 fun z' B5 H5 dd δ5 ⟨b', eb', h6, h7⟩ e5 E5 d5 => ?_
      subst eb'
      cases d5
      have e15 := (((e1.trans e2).trans e3).trans e4).trans e5
      refine ⟨b', rfl, fun hb' => ?_, fun hb' => ?_⟩
      · exact q _ B5 H5 _ δ5 (h7 hb') e15 E5 (.bl _)
      · exact (h6 hb') C B5 H5 σ _ E5 fun o B6 H6 od δ6 h8 e6 E6 d6 => h8 C B6 H6 σ m o Q E6 (dp_mono e6 (dp_mono e5 d4)) d6 fun zz B7 H7 zd δ7 h9 e7 => q zz B7 H7 zd δ7 h9 ((e15.trans e6).trans e7)
theorem ws_newd {i : Nat} {nx bk ct : Dl → Prop} {rt : PyData → Dl → Prop} (q : nx (δ.set i (.ow (.dct [])))) : WS K C (tAsg tDNewK (gName i)) δ nx rt bk ct := ws_asgN (wn_dnew q)
theorem ws_newl {i : Nat} {nx bk ct : Dl → Prop} {rt : PyData → Dl → Prop} (q : nx (δ.set i (.ow (.lst none [])))) : WS K C (tAsg (tLst tNil) (gName i)) δ nx rt bk ct := ws_asgN (wn_lst (wa_nil ⟨Nat.zero_le _, q⟩))
theorem at0 {α : Type} (x : α) (xs : List α) : atI (x :: xs) 0 = some x := atI_nat (j := 0) rfl
theorem wr_ixT0 {d : PyData} {ds : List PyData} (q : k d δ) : WR K (rIx K) (.tuple (d :: ds)) (.int 0) δ k := wr_ixT (at0 d ds) q
theorem wr_ixL0 {d : PyData} {ds : List PyData} (q : k d δ) : WR K (rIx K) (.list (d :: ds)) (.int 0) δ k := wr_ixL (at0 d ds) q
theorem wg_unl {n : Nat} {g' : TGs} {ds : List PyData} {kg : Dl → Prop} (hn : ds.length = n) (h : WGs K g' ds δ kg) : WG K (gUnl K n g') (.list ds) δ kg := fun C B H σ v Q E q r => by
  cases q with
  | lst a z => exact ⟨_, _, rfl, ex_l E.ex a, by rw [dpa_len z]; exact hn, h C B H σ _ Q E z r⟩
theorem wr_isNi {i : Int} (q : k (.bool false) δ) : WR K rIsN (.int i) .none δ k := wr_isN q
theorem wr_isNt {ds : List PyData} (q : k (.bool false) δ) : WR K rIsN (.tuple ds) .none δ k := wr_isN q
theorem wr_isNs {x : Str} (q : k (.bool false) δ) : WR K rIsN (.str x) .none δ k := wr_isN q
theorem wr_isNn (q : k (.bool true) δ) : WR K rIsN .none .none δ k := wr_isN q
theorem wr_notNi {i : Int} (q : k (.bool true) δ) : WR K rNotN (.int i) .none δ k := wr_notN q
theorem wr_notNt {ds : List PyData} (q : k (.bool true) δ) : WR K rNotN (.tuple ds) .none δ k := wr_notN q
theorem wr_notNs {x : Str} (q : k (.bool true) δ) : WR K rNotN (.str x) .none δ k := wr_notN q
theorem wr_notNn (q : k (.bool false) δ) : WR K rNotN .none .none δ k := wr_notN q
end
end Wk
set_option Elab.async false
set_option linter.all false
set_option maxRecDepth 100000
set_option maxHeartbeats 4000000
/-! Further rules: a tuple whose object is known, its count; sorted pairs; tuples put together; an own list drawn out; one place of it changed; a written dict. -/
namespace Wk
open PySem L2
open Evl (Ex ex_l ex_t ex_rd fresh_back sq_of st_of)
section
variable {X : Cx}
/-! ### a tuple whose object is known -/
def tTupF (t : TA) : TE := fun σ H Q => t σ H fun xs H1 => xs.length ≤ sizeLine ∧ ∀ p o, H1 p = none → o.cls = .type "tuple" → o.dict = none → Q (.ref p) (upd H1 p (.frz o (.tup xs)))
theorem pe_tupF {es : List Expr} {t : TA} {pos : Pos} {x1} (h : PA X es t) : PE X (.Tuple es x1 pos) (tTupF t) := by
  constructor
  intro pins s σ H Q I hq
  refine wpAny_Tuple_spliced (thn (h.run pos pins s σ H _ I hq) fun us s1 ⟨xs, H1, I1, r, z, q⟩ => ?_)
  refine ⟨by rw [← r.length]; exact z, .ref s1.heap.objs.size, upd H1 s1.heap.objs.size (.frz { cls := .type "tuple", data := .seq us.toArray } (.tup xs)), ?_, rfl, q _ _ (I1.hok.fresh (Nat.le_refl _)) rfl rfl⟩
  refine I1.laid (t' := s1.toks) (fun b u e => Heap.get?_push_of_some _ e) (Nat.le_refl _) ?_
  exact ⟨Heap.get?_push_size _ rfl, z, us, r, _, Heap.get?_push_size _ rfl, rfl, _, rfl⟩
/-- its count -/
def tTC (K : Fg) (to : TE) (t : TA) : TE := fun σ H Q => to σ H fun x H1 => ∃ a o vs, x = .ref a ∧ H1 a = some (.frz o (.tup vs)) ∧ o.cls = .type "tuple" ∧ o.dict = none ∧
  t σ H1 fun ys H2 => H2 a = some (.frz o (.tup vs)) ∧ ∃ y ds d, ys = [y] ∧ DpAll K H2 vs ds ∧ Dp K H2 y d ∧ PyData.plainAll ds = true ∧ d.plain = true ∧ min (PyData.depthAll ds) d.depth ≤ 60 ∧ Q (.int (ds.countP fun z => PyData.eqv z d : Nat)) H2
theorem pe_tcount {o e : Expr} {to : TE} {t : TA} {apos cpos : Pos} (hu : X.A.units + 64 < cLine) (ho : PE X o to) (ha : PA X [e] t)
    (hbase : attributeBase o "count" X.env (eval o X.env) = eval o X.env := by rfl)
    (hfew : ((backTo cpos (starEach [e] X.env)).all (fun x => !x.1) && (backToKw cpos (keywordEach [] X.env)).all (fun x => x.1.isSome) && decide ([e].length + ([] : List Keyword).length + (if ([] : List Keyword).isEmpty then 0 else 1) < 30)) = true := by rfl)
    (hline : (apos.endLine == cpos.line) = true := by rfl) (hs : starEach [e] X.env = (false, eval e X.env) :: starEach [] X.env := by rfl) : PE X (.Call (.Attribute o "count" apos) [e] [] cpos) (tTC X.K to t) := by
  constructor
  intro pins s σ H Q I h
  refine wpAny_Call_method_late hbase hfew hline rfl (thn (ho.run pins s σ H _ I h) fun v s1 ⟨x, H1, I1, r1, a, ob, vs, ex, hf, hc, hd, q1⟩ => ?_)
  subst ex
  cases r1
  have hg := (I1.hok a _ hf).1
  refine ⟨"tuple", "tuple.count", PySem.F.plainAttrs_tuple, PySem.F.slot_tuple_count, PySem.F.type_tuple_count, ⟨ob, hg, hc⟩, fun b eb => by cases eb; exact ⟨ob, hg, hd⟩, ?_⟩
  have hA := ha.run cpos pins s1 σ H1 _ I1 q1
  rw [hs] at hA ⊢
  refine Calls.callWith_builtin rfl (Calls.evalArgs_plain (thn hA fun us s2 ⟨ys, H2, I2, r2, hf2, y, ds, d, ey, d1, d2, p1, p2, hm, q2⟩ => ?_))
  subst ey
  obtain ⟨u, rfl, ru⟩ := vals1 r2
  obtain ⟨_, _, its, rv, ht⟩ := I2.hok a _ hf2
  obtain ⟨as, rs⟩ := Dp.readsAll I2 ds vs its d1 rv
  obtain ⟨bs, rx⟩ := Dp.reads I2 d y u d2 ru
  exact PySem.SeqAt.count_tuple_data (vs := its.toArray) ht rs rx p1 p2 (by omega) ⟨.int _, H2, I2.tok _, ⟨_, rfl⟩, q2⟩
/-! ### a place of a list, to be changed -/
def rGetL : V → V → Hp → VK → Prop := fun o i H Q => ∃ p xs k v, o = .ref p ∧ i = .int k ∧ 0 ≤ k ∧ H p = some (.lst xs) ∧ xs[k.toNat]? = some v ∧ Q v H
theorem get_list : PGet X rGetL := by
  intro pins s σ H o i ov iv Q I ro ri h
  obtain ⟨p, xs, k, v, rfl, rfl, h0, hp, hx, q⟩ := h
  cases ro
  obtain ⟨t, rfl⟩ := ri
  obtain ⟨its, r, pl, hz⟩ := I.list (.inl (.inl hp))
  obtain ⟨w, ew, rw'⟩ := r.get hx
  have hlt := (List.getElem?_eq_some_iff.mp hx).1
  have hn := line63
  exact wpAny_getItem_list pl.isList h0 (by omega) (by simpa using ew) ⟨v, H, I, rw', q⟩
/-! ### sorted, pairs of ints -/
theorem isPair_one {h : Heap} {u : Value} {a b c d : Int} (x : Srt.IsPair h u a b) (y : Srt.IsPair h u c d) : a = c ∧ b = d := by
  obtain ⟨p, o, t, t2, n, rfl, ho, _, hd⟩ := x
  obtain ⟨p', o', t', t2', n', e, ho', _, hd'⟩ := y
  cases e
  rw [ho] at ho'
  cases ho'
  rw [hd] at hd'
  simp at hd'
  exact ⟨hd'.1.1.1, hd'.1.2.1⟩
open Classical in
noncomputable def keyP (h : Heap) (u : Value) : Int × Int := if x : ∃ p : Int × Int, Srt.IsPair h u p.1 p.2 then x.choose else (0, 0)
theorem keyP_is {h : Heap} {u : Value} {a b : Int} (x : Srt.IsPair h u a b) : keyP h u = (a, b) := by
  have q : ∃ p : Int × Int, Srt.IsPair h u p.1 p.2 := ⟨(a, b), x⟩
  unfold keyP
  rw [dif_pos q]
  have := isPair_one x q.choose_spec
  exact Prod.ext this.1.symm this.2.symm
def rSortX (K : Fg) : List V → Hp → VK → Prop := fun vs H Q => ∃ (R : V → Int × Int → Prop) (a : Addr) (xs : List V) (ps : List (Int × Int)), vs = [.ref a] ∧ SqL K H a xs ∧ (∀ x p, R x p → ∃ t, x = .ref t ∧ SqT K H t [.int p.1, .int p.2]) ∧ Paired R xs ps ∧
  ∀ ys qs p, qs.Perm ps → qs.Pairwise (fun x y => SrtO.lexB y x = false) → Paired R ys qs → H p = none → Q (.ref p) (upd H p (.lst ys))
theorem paired_out {R : V → Int × Int → Prop} {P : Value → Prop} {k : Value → Int × Int} (hp : ∀ u, P u → R (backV u) (k u)) : ∀ {us : List Value}, (∀ u ∈ us, P u) → Paired R (us.map backV) (us.map k)
  | [], _ => .nil
  | u :: us, h => .cons (hp u (h u List.mem_cons_self)) (paired_out hp fun v hv => h v (List.mem_cons_of_mem _ hv))
theorem paired_in {R : V → Int × Int → Prop} {h : Heap} (hR : ∀ x u p, R x p → RelV x u → (∃ t, u = Value.ref t) ∧ Srt.IsPair h u p.1 p.2) : ∀ {xs : List V} {us : List Value} {ps : List (Int × Int)}, Paired R xs ps → Vals xs us →
    us.map (keyP h) = ps ∧ ∀ u ∈ us, (∃ t, u = Value.ref t) ∧ Srt.IsPair h u (keyP h u).1 (keyP h u).2 ∧ R (backV u) (keyP h u)
  | _, _, _, .nil, r => by cases r; exact ⟨rfl, fun u hu => absurd hu (by simp)⟩
  | _, _, _, .cons (a := x) (b := p) h1 h2, r => by
    cases r with
    | @cons _ u _ us r1 r2 =>
      obtain ⟨⟨t, et⟩, hq⟩ := hR x u p h1 r1
      obtain ⟨i1, i2⟩ := paired_in hR h2 r2
      have ek := keyP_is hq
      subst et
      have ex : x = V.ref t := by
        cases x <;> simp [RelV] at r1
        all_goals first
          | (rw [r1]; done)
          | (cases r1; rfl)
          | (obtain ⟨_, z⟩ := r1; cases z)
      refine ⟨by rw [List.map_cons, ek, i1], fun v hv => ?_⟩
      rcases List.mem_cons.mp hv with e | e
      · subst e
        rw [ek]
        refine ⟨⟨t, rfl⟩, hq, ?_⟩
        show R (V.ref t) p
        rw [← ex]; exact h1
      · exact i2 v e
theorem cr_sortX : CallR X (.builtin "sorted") (rSortX X.K) := by
  intro pins s σ H vs us Q I r h
  obtain ⟨R, a, xs, ps, rfl, hs, hR, hP, q⟩ := h
  obtain ⟨its, rv, hl, hz⟩ := I.list hs
  obtain ⟨u, rfl, ru⟩ := vals1 r
  cases ru
  obtain ⟨i1, i2⟩ := paired_in (h := s.heap) (fun x u p h1 h2 => by
    obtain ⟨t, ex, ht⟩ := hR x p h1
    subst ex
    cases h2
    obtain ⟨its2, r2, ⟨o, ho, hc, n, hd⟩, _⟩ := I.tuple ht
    obtain ⟨u1, u2, rfl, ri, rj⟩ := vals2 r2
    obtain ⟨t1, rfl⟩ := ri
    obtain ⟨t2, rfl⟩ := rj
    exact ⟨⟨t, rfl⟩, t, o, t1, t2, n, rfl, ho, hc, hd⟩) hP rv
  refine SrtO.sorted_pairsO (k := keyP s.heap) hl.isList (by rw [← rv.length]; exact hz) (fun v hv => (i2 v hv).2.1) fun h' d out h1 h2 kp hd hn => ?_
  obtain ⟨n, hn⟩ := hn
  have hm : ∀ u ∈ out, u ∈ its := fun u hu => h2.perm.mem_iff.mp hu
  refine ⟨.ref d, upd H d (.lst (out.map backV)), I.laid (t' := s.toks) kp hd ⟨?_, out, n, vals_back fun u hu => (i2 u (hm u hu)).1, hn⟩, rfl, q _ (out.map (keyP s.heap)) d ?_ ?_ ?_ (I.hok.fresh hd)⟩
  · rw [List.length_map, h2.perm.length_eq, ← rv.length]; exact hz
  · rw [← i1]; exact h2.perm.map _
  · rw [List.pairwise_map]; exact h1
  · exact paired_out (P := fun u => u ∈ out) (fun u hu => (i2 u (hm u hu)).2.2) fun u hu => hu
end
end Wk
set_option Elab.async false
set_option linter.all false
set_option maxRecDepth 100000
set_option maxHeartbeats 4000000
/-! The same by data. -/
namespace Wk
open PySem L2
open Evl (Ex ex_l ex_t ex_rd fresh_back sq_of st_of)
open PyProof.Rows (envOfC)
section
variable {K : Fg} {C : Ctx} {δ : Dl} {ta tb te tx ty : TE} {k : PyData → Dl → Prop} {nx bk ct : Dl → Prop} {rt : PyData → Dl → Prop}
def FZ (K : Fg) (ds : List PyData) : VX := ⟨fun B v => ∃ a o vs, v = .ref a ∧ B a = some (.frz o (.tup vs)) ∧ o.cls = .type "tuple" ∧ o.dict = none ∧ DpAll K B vs ds, fun B B' v e ⟨a, o, vs, h1, h2, h3, h4, h5⟩ => ⟨a, o, vs, h1, e _ _ h2, h3, h4, dpa_mono e h5⟩⟩
theorem fz_dp {B : Hp} {v : V} {ds : List PyData} (h : (FZ K ds).p B v) : Dp K B v (.tuple ds) := by
  obtain ⟨a, o, vs, rfl, h2, _, _, h5⟩ := h
  exact .tup (.inl (.inr ⟨o, h2⟩)) h5
theorem ws_asgF {i : Nat} {t : TA} (h : WA K t δ fun ds δ' => ds.length ≤ 100000 ∧ nx (δ'.set i (.vx (FZ K ds)))) : WS K C (tAsg (tTupF t) (gName i)) δ nx rt bk ct := fun B H σ D E l =>
  h C B H σ _ E fun vs B1 H1 ds δ1 ⟨hl, hk⟩ e1 E1 d1 => ⟨Evl.sz_of (by rw [dpa_len d1]; exact hl), fun p o hp hc hd => by
    obtain ⟨E2, e2, z⟩ := fz (o := .frz o (.tup vs)) E1 hp
    exact l.nx _ _ _ _ hk (e1.trans e2) (E2.setX (φ := FZ K ds) ⟨p, o, vs, rfl, z, hc, hd, dpa_mono e2 d1⟩)⟩
theorem we_varF {i : Nat} {ds : List PyData} (h : δ[i]? = some (.vx (FZ K ds))) (q : k (.tuple ds) δ) : WE K (tVar i) δ k := fun C B H σ Q E r => by
  obtain ⟨v, e, z⟩ := E.sl i _ h
  exact ⟨v, e, r v B H _ δ q (Ex.refl B) E (fz_dp z)⟩
def spF (K : Fg) (S : PS1) : Sp := fun vs H Q _ => ∃ B v ds p, vs = [v] ∧ Ex B H ∧ (FZ K ds).p B v ∧ S ds p ∧ ∀ d u H', p d → Ex H H' → Dp K (grow B H H') u d → Q u H'
theorem we_callF {S : PS1} {E : XK} {i : Nat} {ds : List PyData} (hi : δ[i]? = some (.vx (FZ K ds))) (h : S ds fun d => k d δ) : WE K (tCall (spF K S) [] E (tCons (tVar i) tNil)) δ k := fun C B H σ Q En0 q => by
  obtain ⟨v, e, z⟩ := En0.sl i _ hi
  refine ⟨v, e, B, v, ds, _, rfl, En0.ex, z, h, fun d u H' hd x y => ?_⟩
  exact q u _ H' d δ hd (grow_ex En0.ex) (En0.grow x) y
def BodyF (K : Fg) (S : PS1) (N : List Str) (t : TS) : Prop := ∀ ds (p : PyData → Prop), S ds p → ∀ C : Ctx, (∀ a, ¬ C.M a) → WS K C t ((im0 N [.none]).set 0 (.vx (FZ K ds))) (fun _ => p .none) (fun d _ => p d) (fun _ => False) (fun _ => False)
theorem fn_frz {P : Program} {w : World} {mg : Str → Option Value} {base : Heap} {S : PS1} {x qual : Str} {st : Stmt} {f : Addr} {fd : FuncData} {N : List Str} {z : Str} {k : Nat} (F : Fun K x qual st f fd) (Sc : FnScope N [z] (defScope st))
    (hbody : ∀ (cdv : Value) (A : Around) (outer : List Env) (s : Shared) (H : Hp) (E : XK), Room k (A.deeper (envOfC qual (defScope st) s.heap.objs.size f cdv)) →
      ∃ t, PSs (cxOf CX0 P w K mg base N qual (defScope st) f cdv A outer s H E).nox (defBody st) t ∧ BodyF K S N t) : FnOk P w K mg base CX0 (k + 1) f fd [z] (spF K S) := by
  refine F.ok Sc (fun vs H Q E h => ?_) fun cdv A outer s H vs Q E hr h => ?_
  · obtain ⟨B, v, ds, p, rfl, _⟩ := h; rfl
  · obtain ⟨t, ht, hb⟩ := hbody cdv A outer s H E hr
    obtain ⟨B, v, ds, p, rfl, e, hv, hs, hq⟩ := h
    have E0 := (en_start (N := N) (M := fun _ => False) e (DpAll.cons (fz_dp hv) .nil)).setX (i := 0) hv
    have es : (L2.start N [v]).set 0 (some v) = L2.start N [v] := rfl
    have ed : (im0 N [.tuple ds]).set 0 (.vx (FZ K ds)) = (im0 N [.none]).set 0 (.vx (FZ K ds)) := rfl
    rw [es, ed] at E0
    refine ⟨t, ht, hb ds _ hs ⟨H, B, fun _ => False⟩ (fun _ z => z) B H (L2.start N [v]) _ E0 ⟨fun σ' B' H' δ' z x E' => ?_, fun u σ' B' H' d δ' z x E' q => ?_, fun _ _ _ _ z => z.elim, fun _ _ _ _ z => z.elim⟩⟩
    · exact hq .none .non H' z (fun a o h => E'.fr a o (fun z => z) h) .non
    · exact hq d u H' z (fun a o h => E'.fr a o (fun z => z) h) (E'.grown e q)
theorem we_tcount {i : Nat} {ds : List PyData} (hi : δ[i]? = some (.vx (FZ K ds))) (hp : PyData.plainAll ds = true) (hd : PyData.depthAll ds ≤ 60) (h : WE K te δ fun d δ' => d.plain = true ∧ k (.int (ds.countP fun z => PyData.eqv z d : Nat)) δ') : WE K (tTC K (tVar i) (tCons te tNil)) δ k := fun C B H σ Q E q => by
  obtain ⟨v, e, a, o, vs, rfl, h2, h3, h4, h5⟩ := E.sl i _ hi
  refine ⟨.ref a, e, a, o, vs, rfl, E.ex _ _ h2, h3, h4, h C B H σ _ E fun y B1 H1 d δ1 ⟨hpl, hk⟩ e1 E1 d1 => ?_⟩
  refine ⟨E1.ex _ _ (e1 _ _ h2), y, ds, d, rfl, dpa_mono (e1.trans E1.ex) h5, dp_mono E1.ex d1, hp, hpl, by omega, ?_⟩
  exact q _ B1 H1 _ δ1 hk e1 E1 (.int _)
/-! ### sorted, pairs -/
def pd (p : Int × Int) : PyData := .tuple [.int p.1, .int p.2]
theorem pair_of {B : Hp} : ∀ {vs : List V} {ps : List (Int × Int)}, DpAll K B vs (ps.map pd) → Paired (fun v p => Dp K B v (pd p)) vs ps
  | _, [], h => by cases h; exact .nil
  | _, p :: ps, h => by cases h with | cons h1 h2 => exact .cons h1 (pair_of h2)
theorem of_pair {B : Hp} : ∀ {vs : List V} {ps : List (Int × Int)}, Paired (fun v p => Dp K B v (pd p)) vs ps → DpAll K B vs (ps.map pd)
  | _, _, .nil => .nil
  | _, _, .cons h1 h2 => .cons h1 (of_pair h2)
theorem wn_sortX {t : TA} {kn : OB → Dl → Prop} (h : WA K t δ fun ds δ' => ∃ ps : List (Int × Int), ds = [.list (ps.map pd)] ∧ ∀ qs : List (Int × Int), qs.Perm ps → qs.Pairwise (fun x y => SrtO.lexB y x = false) → kn (.lst none (qs.map pd)) δ') : WN K (tCB (rSortX K) t) δ kn := fun C B H σ Q E r =>
  h C B H σ _ E fun vs B1 H1 ds δ1 ⟨ps, ed, hk⟩ e1 E1 d1 => by
    subst ed
    cases d1 with
    | cons d d2 =>
      cases d2
      cases d with
      | lst h1 h2 =>
        refine ⟨fun v p => Dp K B1 v (pd p), _, _, ps, rfl, ex_l E1.ex h1, fun x p hx => ?_, pair_of h2, fun ys qs p hq hs hP hn => r p _ B1 H1 _ δ1 (hk qs hq hs) e1 E1 hn ⟨fun _ z => (nomatch z), ys, rfl, of_pair hP⟩⟩
        cases hx with
        | tup q1 q2 =>
          cases q2 with
          | cons a q2 => cases q2 with
            | cons b q2 => cases q2; cases a; cases b; exact ⟨_, rfl, ex_t E1.ex q1⟩
/-! ### an own list -/
theorem ws_augS {i : Nat} {f : Int → Int → Int} (h : WE K ty δ fun y δ1 => ∃ j pin ds a, y = .int j ∧ 0 ≤ j ∧ δ1[i]? = some (.ow (.lst pin ds)) ∧ ds[j.toNat]? = some (.int a) ∧ WE K te δ1 fun z δ2 => ∃ b, z = .int b ∧ δ2[i]? = some (.ow (.lst pin ds)) ∧ nx (δ2.set i (.ow (.lst pin (ds.set j.toNat (.int (f a b)))))))
    (hi : ∃ o, δ[i]? = some (.ow o)) : WS K C (tAugS (tVar i) ty te rGetL (ipI f) rSetL) δ nx rt bk ct := fun B H σ D E l => by
  obtain ⟨o, hi⟩ := hi
  obtain ⟨a, u, e, n, z, _⟩ := E.sl i _ hi
  refine ⟨.ref a, e, h C B H σ _ E fun y B1 H1 d1 δ1 ⟨j, pin, ds, x, ej, h0, h1, hx, hk⟩ x1 E1 q1 => ?_⟩
  subst ej
  cases q1
  obtain ⟨a1, u1, e1, n1, z1, hpin, vs1, e2, r1⟩ := E1.sl i _ h1
  subst e2
  rw [e] at e1
  cases e1
  obtain ⟨w, hw, dw⟩ := dpa_at r1 hx
  cases dw
  refine ⟨a, vs1, j, _, rfl, rfl, h0, z1, hw, hk C B1 H1 σ _ E1 fun y2 B2 H2 d2 δ2 ⟨b, eb, h2, hn⟩ x2 E2 q2 => ?_⟩
  subst eb
  cases q2
  obtain ⟨a3, u3, e3, n3, z3, hpin3, vs3, e4, r3⟩ := E2.sl i _ h2
  subst e4
  rw [e] at e3
  cases e3
  have hlt : j.toNat < ds.length := (List.getElem?_eq_some_iff.mp hx).1
  refine ⟨x, b, rfl, rfl, a, vs3, j, j.toNat, rfl, rfl, z3, ?_, l.nx _ B2 _ _ hn (x1.trans x2) (E2.mut h2 e ⟨hpin3, _, rfl, dpa_set j.toNat (.int _) r3⟩)⟩
  unfold ixN
  rw [if_pos h0, if_pos (by rw [dpa_len r3]; omega)]
theorem ws_ext {i : Nat} (h : WN K te δ fun ob δ' => ∃ es pin ds, ob = .lst none es ∧ δ'[i]? = some (.ow (.lst pin ds)) ∧ ds.length + es.length ≤ 100000 ∧ nx (δ'.set i (.ow (.lst pin (ds ++ es))))) (hi : ∃ pin ds, δ[i]? = some (.ow (.lst pin ds))) : WS K C (tDrop (tBM K "list" rExtend (tVar i) (tCons te tNil))) δ nx rt bk ct := fun B H σ D E l => by
  obtain ⟨pin0, ds0, hi⟩ := hi
  obtain ⟨a, u, e, n, z, _, vs, e0, r⟩ := E.sl i _ hi
  subst e0
  refine ⟨.ref a, e, .inl ⟨rfl, vs, sq_of z⟩, h C B H σ _ E fun p u B1 H1 ob δ1 ⟨es, pin, ds, eo, h1, hl, hk⟩ x E1 hp q1 => ?_⟩
  subst eo
  obtain ⟨_, ws, eu, rw1⟩ := q1
  subst eu
  obtain ⟨a1, u1, e1, n1, z1, hpin, vs1, e2, r1⟩ := E1.sl i _ h1
  subst e2
  rw [e] at e1
  cases e1
  have hne : a ≠ p := fun w => by subst w; rw [z1] at hp; cases hp
  obtain ⟨E2, hpB, hns⟩ := E1.beside (u := .lst ws) hp
  refine ⟨a, p, vs1, ws, rfl, rfl, by rw [upd_ne hne]; exact z1, upd_same, Evl.sz_of (by rw [dpa_len r1, dpa_len rw1]; exact hl), ?_⟩
  have E3 := E2.mut h1 e (ob' := .lst pin (ds ++ es)) (u := .lst (vs1 ++ ws)) ⟨hpin, _, rfl, dpa_app r1 rw1⟩
  exact l.nx _ B1 _ _ hk x E3
theorem wr_catA {ds es : List PyData} (h1 : ds ≠ []) (h2 : es ≠ []) (hl : ds.length + es.length ≤ 100000) (q : k (.tuple (ds ++ es)) δ) : WR K (rCatA K) (.tuple ds) (.tuple es) δ k := fun C B H σ v w Q E d1 d2 r => by
  cases d1 with
  | tup a1 b1 => cases d2 with
    | tup a2 b2 =>
      have n1 : ∀ {vs : List V}, DpAll K B vs ds → vs ≠ [] := fun x y => by subst y; cases x; exact h1 rfl
      have n2 : ∀ {vs : List V}, DpAll K B vs es → vs ≠ [] := fun x y => by subst y; cases x; exact h2 rfl
      refine ⟨_, _, _, _, rfl, rfl, ex_t E.ex a1, ex_t E.ex a2, Evl.sz_of (by rw [dpa_len b1, dpa_len b2]; exact hl), fun z => absurd z (n1 b1), fun _ z => absurd z (n2 b2), fun _ _ p hp => ?_⟩
      obtain ⟨E2, e2, z⟩ := fz (o := .tup _) E hp
      exact r _ _ _ _ δ q e2 E2 (.tup (st_of z) (dpa_mono e2 (dpa_app b1 b2)))
/-- {i: x, j: y}.get(n, z) -/
theorem we_disp2 {i j : Int} {x y z : Str} {ty : TE} (hij : i ≠ j) (h : WE K ty δ fun d δ' => ∃ n, d = .int n ∧ k (.str (if n = i then x else if n = j then y else z)) δ') :
    WE K (tDGet2 (tDisp [((tC (.int i)), (tC (.str x))), ((tC (.int j)), (tC (.str y)))]) ty (tC (.str z))) δ k := fun C B H σ Q E q => by
  intro p hp
  refine ⟨upd_same, [(.inl i, .str x), (.inl j, .str y)], rfl, Nat.le_of_ble_eq_true rfl, p, rfl, .inl ⟨_, .inl upd_same⟩, ?_⟩
  have em : mergeK [] [(Sum.inl i, V.str x), (Sum.inl j, V.str y)] = [(Sum.inl i, V.str x), (Sum.inl j, V.str y)] := by
    simp [mergeK, putK, hij]
  rw [em, upd_upd]
  obtain ⟨E2, hpB, hns⟩ := E.beside (u := .dK [(Sum.inl i, V.str x), (Sum.inl j, V.str y)]) hp
  refine h (Ctx.at B (upd H p (.dK [(Sum.inl i, V.str x), (Sum.inl j, V.str y)])) σ δ) B _ σ _ E2.into fun v B1 H1 d δ1 ⟨n, ed, hk⟩ e1 E1 d1 => ?_
  subst ed
  cases d1
  obtain ⟨kp, kB⟩ := E1.kept (u := .dK [(Sum.inl i, V.str x), (Sum.inl j, V.str y)]) upd_same hpB hns
  refine ⟨_, .inl ⟨_, Sum.inl n, .inl kp, rfl, rfl⟩, ?_⟩
  have E3 := E2.back E1
  have ev : (valV [((Sum.inl i : Key), V.str x), (Sum.inl j, V.str y)] (Sum.inl n)).getD (V.str z) = V.str (if n = i then x else if n = j then y else z) := by
    by_cases a : n = i
    · subst a; simp [valV]
    · by_cases b : n = j
      · subst b; simp [valV, hij, Ne.symm hij]
      · have a' : ¬ i = n := fun w => a w.symm
        have b' : ¬ j = n := fun w => b w.symm
        simp [valV, a, b, a', b']
  rw [ev]
  exact q _ B1 H1 _ δ1 hk e1 E3 (.str _)
end
end Wk
set_option Elab.async false
set_option linter.all false
/-! The ratios next to a step: plain arithmetic. -/
namespace Wk
/-- a/b and c/d are next to T/B on both sides, bottoms up to m -/
structure FI (T B m a b c d : Int) : Prop where
  b1 : 1 ≤ b
  d1 : 1 ≤ d
  bm : b ≤ m
  dm : d ≤ m
  a0 : 0 ≤ a
  c1 : 1 ≤ c
  ab : a < b ∨ (a = 0 ∧ b = 1)
  cd : c ≤ d
  det : c * b - a * d = 1
  lo : 0 < T * b - a * B
  hi : 0 < c * B - T * d
structure StepOK (T B : Int) : Prop where
  t0 : 0 < T
  tb : T < B
  g : Int.gcd T B = 1
theorem dvd_cop {B T x : Int} (g : Int.gcd T B = 1) (h : B ∣ T * x) : B ∣ x := by
  have h1 : B.natAbs ∣ T.natAbs * x.natAbs := by rw [← Int.natAbs_mul]; exact Int.natAbs_dvd_natAbs.mpr h
  have h2 : Nat.Coprime B.natAbs T.natAbs := by rw [Nat.coprime_comm]; exact g
  exact Int.natAbs_dvd_natAbs.mp (h2.dvd_of_dvd_mul_left h1)
theorem not_hit {T B x y : Int} (h : StepOK T B) (hx : 0 < x) (hb : x < B) : T * x ≠ y * B := fun e => by
  have h1 : B ∣ T * x := ⟨y, by rw [e, Int.mul_comm]⟩
  have h2 : B ∣ x := dvd_cop h.g h1
  have := Int.le_of_dvd hx h2
  omega
theorem fi_start {T B m : Int} (h : StepOK T B) (hm : 1 ≤ m) : FI T B m 0 1 1 1 := by
  have := h.t0; have := h.tb
  exact ⟨by omega, by omega, hm, hm, by omega, by omega, .inr ⟨rfl, rfl⟩, by omega, by omega, by omega, by omega⟩
theorem e_left (T B a b c d l : Int) : T * b - a * B - l * (c * B - T * d) = T * (b + l * d) - (a + l * c) * B := by
  simp only [Int.mul_add, Int.add_mul, Int.mul_sub, Int.mul_assoc, Int.mul_left_comm T l d]; omega
theorem e_right (T B a b c d l : Int) : c * B - T * d - l * (T * b - a * B) = (c + l * a) * B - T * (d + l * b) := by
  simp only [Int.mul_add, Int.add_mul, Int.mul_sub, Int.mul_assoc, Int.mul_left_comm T l b]; omega
/-- the right end's steps added to the left one -/
theorem fi_left {T B m a b c d l : Int} (h : StepOK T B) (hm : m < B) (f : FI T B m a b c d) (l0 : 0 ≤ l) (h1 : l * (c * B - T * d) ≤ T * b - a * B) (h2 : b + l * d ≤ m) : FI T B m (a + l * c) (b + l * d) c d := by
  have ld : 0 ≤ l * d := Int.mul_nonneg l0 (by have := f.d1; omega)
  have lc : 0 ≤ l * c := Int.mul_nonneg l0 (by have := f.c1; omega)
  have lcd : l * c ≤ l * d := Int.mul_le_mul_of_nonneg_left f.cd l0
  have hb := f.b1
  have ha := f.a0
  have e : T * (b + l * d) - (a + l * c) * B = (T * b - a * B) - l * (c * B - T * d) := by
    simp only [Int.mul_add, Int.add_mul, Int.mul_sub, Int.mul_assoc, Int.mul_left_comm T l d]; omega
  have ne := not_hit (x := b + l * d) (y := a + l * c) h (by omega) (by omega)
  refine ⟨by omega, f.d1, h2, f.dm, by omega, f.c1, ?_, f.cd, ?_, by omega, f.hi⟩
  · rcases f.ab with q | ⟨q1, q2⟩
    · exact .inl (by omega)
    · subst q1 q2; exact .inl (by omega)
  · have := f.det
    simp only [Int.mul_add, Int.add_mul, Int.mul_assoc, Int.mul_left_comm c l d]; omega
theorem fi_right {T B m a b c d l : Int} (h : StepOK T B) (hm : m < B) (f : FI T B m a b c d) (l0 : 0 ≤ l) (h1 : l * (T * b - a * B) ≤ c * B - T * d) (h2 : d + l * b ≤ m) : FI T B m a b (c + l * a) (d + l * b) := by
  have lb : 0 ≤ l * b := Int.mul_nonneg l0 (by have := f.b1; omega)
  have la : 0 ≤ l * a := Int.mul_nonneg l0 f.a0
  have lab : l * a ≤ l * b := Int.mul_le_mul_of_nonneg_left (by rcases f.ab with q | ⟨q1, q2⟩ <;> omega) l0
  have hd := f.d1
  have hc := f.c1
  have e : (c + l * a) * B - T * (d + l * b) = (c * B - T * d) - l * (T * b - a * B) := by
    simp only [Int.mul_add, Int.add_mul, Int.mul_sub, Int.mul_assoc, Int.mul_left_comm T l b]; omega
  have ne := not_hit (x := d + l * b) (y := c + l * a) h (by omega) (by omega)
  refine ⟨f.b1, by omega, f.bm, h2, f.a0, by omega, f.ab, by have := f.cd; omega, ?_, f.lo, by omega⟩
  have := f.det
  simp only [Int.mul_add, Int.add_mul, Int.mul_assoc, Int.mul_left_comm a l b]; omega
/-- near and far are unlike as long as the middle's bottom is small -/
theorem fi_unlike {T B m a b c d : Int} (h : StepOK T B) (f : FI T B m a b c d) (hs : b + d < B) : T * b - a * B ≠ c * B - T * d := fun e => by
  have ne := not_hit (x := b + d) (y := a + c) h (by have := f.b1; have := f.d1; omega) hs
  simp only [Int.mul_add, Int.add_mul] at ne
  omega
theorem fi_sum {T B m a b c d : Int} (f : FI T B m a b c d) : (T * b - a * B) * d + (c * B - T * d) * b = B := by
  have := f.det
  have e : (T * b - a * B) * d + (c * B - T * d) * b = B * (c * b - a * d) := by
    simp only [Int.sub_mul, Int.mul_sub]
    have e1 : T * b * d = T * d * b := Int.mul_right_comm T b d
    have e2 : a * B * d = B * (a * d) := by rw [Int.mul_comm a B, Int.mul_assoc]
    have e3 : c * B * b = B * (c * b) := by rw [Int.mul_comm c B, Int.mul_assoc]
    omega
  rw [e, this, Int.mul_one]
theorem fi_le {T B m a b c d a' b' c' d' : Int} (f : FI T B m a b c d) (f' : FI T B m a' b' c' d') (hs : m < b + d) : a' * b ≤ a * b' := by
  apply Decidable.byContradiction
  intro hn
  have u : 1 ≤ a' * b - a * b' := by omega
  -- a'/b' is below T/B, which is below c/d
  have v : 1 ≤ c * b' - a' * d := by
    have h1 := f'.lo
    have h2 := f.hi
    have hb' := f'.b1
    have hd := f.d1
    have hB : 0 < B := by
      have e := fi_sum f
      have q1 : 0 < (T * b - a * B) * d := Int.mul_pos f.lo (by omega)
      have q2 : 0 < (c * B - T * d) * b := Int.mul_pos f.hi (by have := f.b1; omega)
      omega
    have h3 : 0 < (c * B - T * d) * b' + (T * b' - a' * B) * d := by
      have q1 : 0 < (c * B - T * d) * b' := Int.mul_pos h2 (by omega)
      have q2 : 0 < (T * b' - a' * B) * d := Int.mul_pos h1 (by omega)
      omega
    have e : (c * B - T * d) * b' + (T * b' - a' * B) * d = B * (c * b' - a' * d) := by
      simp only [Int.sub_mul, Int.mul_sub]
      have e1 : T * d * b' = T * b' * d := Int.mul_right_comm T d b'
      have e2 : c * B * b' = B * (c * b') := by rw [Int.mul_comm c B, Int.mul_assoc]
      have e3 : a' * B * d = B * (a' * d) := by rw [Int.mul_comm a' B, Int.mul_assoc]
      omega
    rw [e] at h3
    apply Decidable.byContradiction
    intro hv
    have : B * (c * b' - a' * d) ≤ 0 := Int.mul_nonpos_of_nonneg_of_nonpos (by omega) (by omega)
    omega
  have e : b' = b * (c * b' - a' * d) + d * (a' * b - a * b') := by
    have h := f.det
    have e1 : b * (c * b' - a' * d) + d * (a' * b - a * b') = b' * (c * b - a * d) := by
      simp only [Int.mul_sub]
      have q1 : b * (c * b') = b' * (c * b) := by rw [Int.mul_left_comm, Int.mul_comm b b', Int.mul_left_comm c b' b]
      have q2 : b * (a' * d) = d * (a' * b) := by rw [Int.mul_left_comm, Int.mul_comm b d, Int.mul_left_comm a' d b]
      have q3 : d * (a * b') = b' * (a * d) := by rw [Int.mul_left_comm, Int.mul_comm d b', Int.mul_left_comm a b' d]
      omega
    rw [e1, h, Int.mul_one]
  have p1 : b ≤ b * (c * b' - a' * d) := by
    have := Int.mul_le_mul_of_nonneg_left v (show 0 ≤ b by have := f.b1; omega); omega
  have p2 : d ≤ d * (a' * b - a * b') := by
    have := Int.mul_le_mul_of_nonneg_left u (show 0 ≤ d by have := f.d1; omega); omega
  have := f'.bm
  omega
/-- there is just one such -/
theorem fi_one {T B m a b c d a' b' c' d' : Int} (f : FI T B m a b c d) (f' : FI T B m a' b' c' d') (hs : m < b + d) (hs' : m < b' + d') : a' = a ∧ b' = b := by
  have h1 := fi_le f f' hs
  have h2 := fi_le f' f hs'
  have e : a' * b = a * b' := by omega
  -- each bottom divides the other one
  have key : ∀ {a b c d a' b' : Int}, c * b - a * d = 1 → a' * b = a * b' → b' = b * (c * b' - d * a') := fun {a b c d a' b'} h e => by
    have e1 : b * (c * b' - d * a') = b' * (c * b - a * d) := by
      simp only [Int.mul_sub]
      have q1 : b * (c * b') = b' * (c * b) := by rw [Int.mul_left_comm, Int.mul_comm b b', Int.mul_left_comm c b' b]
      have q2 : b * (d * a') = b' * (a * d) := by rw [Int.mul_left_comm, Int.mul_comm b a', e, Int.mul_left_comm d a b', Int.mul_left_comm b' a d, Int.mul_comm d b']
      omega
    rw [e1, h, Int.mul_one]
  have k1 := key f.det e
  have k2 := key f'.det e.symm
  have d1 : b ∣ b' := ⟨_, k1⟩
  have d2 : b' ∣ b := ⟨_, k2⟩
  have l1 := Int.le_of_dvd (by have := f'.b1; omega) d1
  have l2 := Int.le_of_dvd (by have := f.b1; omega) d2
  have eb : b' = b := by omega
  subst eb
  refine ⟨?_, rfl⟩
  exact Int.eq_of_mul_eq_mul_right (show b' ≠ 0 by have := f.b1; omega) e
/-- and the other end -/
theorem fi_oneR {T B m a b c d c' d' : Int} (f : FI T B m a b c d) (f' : FI T B m a b c' d') (hs : m < b + d) (hs' : m < b + d') : c' = c ∧ d' = d := by
  have h1 := f.det
  have h2 := f'.det
  have hb := f.b1
  -- (c - c') b = a (d - d'): b divides d - d', which is less than b in size
  have e : (c - c') * b = a * (d - d') := by simp only [Int.sub_mul, Int.mul_sub]; omega
  have g : Int.gcd a b = 1 := by
    have q : ((Int.gcd a b : Nat) : Int) ∣ 1 := by
      rw [← h1]
      exact Int.dvd_sub (Int.dvd_trans (Int.gcd_dvd_right a b) (Int.dvd_mul_left c b)) (Int.dvd_trans (Int.gcd_dvd_left a b) (Int.dvd_mul_right a d))
    have q2 := Int.le_of_dvd (by omega) q
    have q3 : 0 < Int.gcd a b := Int.gcd_pos_of_ne_zero_right a (by omega)
    omega
  have dv : b ∣ d - d' := dvd_cop g ⟨c - c', by rw [← e, Int.mul_comm]⟩
  have := f.dm; have := f'.dm
  have ed : d' = d := by
    obtain ⟨t, ht⟩ := dv
    rcases Int.lt_trichotomy t 0 with q | q | q
    · have : b * t ≤ b * (-1) := Int.mul_le_mul_of_nonneg_left (by omega) (by omega); omega
    · rw [q] at ht; omega
    · have : b * 1 ≤ b * t := Int.mul_le_mul_of_nonneg_left (by omega) (by omega); omega
  subst ed
  refine ⟨?_, rfl⟩
  have e2 : (c - c') * b = 0 := by rw [e]; simp
  rcases Int.mul_eq_zero.mp e2 with q | q <;> omega
/-! ### the greatest gap -/
theorem fi_has {T B : Int} (h : StepOK T B) : ∀ k : Nat, ((k : Int) + 1 < B) → ∃ a b c d, FI T B ((k : Int) + 1) a b c d ∧ (k : Int) + 1 < b + d
  | 0, hk => ⟨0, 1, 1, 1, by simpa using fi_start h (by omega), by omega⟩
  | k + 1, hk => by
    obtain ⟨a, b, c, d, f, hs⟩ := fi_has h k (by omega)
    have e : (((k + 1 : Nat) : Int) + 1) = (k : Int) + 2 := by omega
    rw [e] at hk ⊢
    have f' : FI T B ((k : Int) + 2) a b c d := ⟨f.b1, f.d1, by have := f.bm; omega, by have := f.dm; omega, f.a0, f.c1, f.ab, f.cd, f.det, f.lo, f.hi⟩
    by_cases hq : (k : Int) + 2 < b + d
    · exact ⟨a, b, c, d, f', hq⟩
    · have := f.b1; have := f.d1
      have ne := fi_unlike h f (by omega)
      by_cases hf : c * B - T * d < T * b - a * B
      · have g := fi_left (l := 1) h (by omega) f' (by omega) (by omega) (by omega)
        exact ⟨_, _, _, _, g, by omega⟩
      · have g := fi_right (l := 1) h (by omega) f' (by omega) (by omega) (by omega)
        exact ⟨_, _, _, _, g, by omega⟩
/-- v over B is the greatest gap of n points -/
def MX (T B n v : Int) : Prop := (n = 1 ∧ v = B) ∨ (2 ≤ n ∧ n ≤ B ∧ ∃ a b c d, FI T B (n - 1) a b c d ∧ n - 1 < b + d ∧ v = if n < b + d then (T * b - a * B) + (c * B - T * d) else max (T * b - a * B) (c * B - T * d))
theorem mx_has {T B n : Int} (h : StepOK T B) (h1 : 1 ≤ n) (h2 : n ≤ B) : ∃ v, MX T B n v := by
  by_cases e : n = 1
  · exact ⟨B, .inl ⟨e, rfl⟩⟩
  · obtain ⟨a, b, c, d, f, hs⟩ := fi_has h (n - 2).toNat (by omega)
    have e2 : (((n - 2).toNat : Nat) : Int) + 1 = n - 1 := by omega
    rw [e2] at f hs
    exact ⟨_, .inr ⟨by omega, h2, a, b, c, d, f, hs, rfl⟩⟩
theorem mx_one {T B n v v' : Int} (x : MX T B n v) (y : MX T B n v') : v' = v := by
  rcases x with ⟨e, q⟩ | ⟨h1, h2, a, b, c, d, f, hs, q⟩
  · rcases y with ⟨_, q'⟩ | ⟨h1, _⟩
    · omega
    · omega
  · rcases y with ⟨e, _⟩ | ⟨_, _, a', b', c', d', f', hs', q'⟩
    · omega
    · obtain ⟨e1, e2⟩ := fi_one f f' hs hs'
      subst e1 e2
      obtain ⟨e3, e4⟩ := fi_oneR f f' hs hs'
      subst e3 e4
      rw [q, q']
theorem mx_next {T B n v v' : Int} (h : StepOK T B) (x : MX T B n v) (y : MX T B (n + 1) v') : v' ≤ v := by
  rcases y with ⟨e, _⟩ | ⟨h1, h2, a', b', c', d', f', hs', q'⟩
  · rcases x with ⟨e2, _⟩ | ⟨e2, _⟩ <;> omega
  · have ss := fi_sum f'
    have b1' := f'.b1; have d1' := f'.d1
    have p1 : (T * b' - a' * B) * 1 ≤ (T * b' - a' * B) * d' := Int.mul_le_mul_of_nonneg_left (by omega) (by have := f'.lo; omega)
    have p2 : (c' * B - T * d') * 1 ≤ (c' * B - T * d') * b' := Int.mul_le_mul_of_nonneg_left (by omega) (by have := f'.hi; omega)
    have lo' := f'.lo; have hi' := f'.hi
    rcases x with ⟨e, q⟩ | ⟨_, _, a, b, c, d, f, hs, q⟩
    · rw [q, q']; split <;> omega
    · have b1 := f.b1; have d1 := f.d1; have lo := f.lo; have hi := f.hi
      have en : n + 1 - 1 = n - 1 + 1 := by omega
      rw [en] at f' hs'
      by_cases hq : n < b + d
      · -- the same two
        have fu : FI T B (n - 1 + 1) a b c d := ⟨f.b1, f.d1, by have := f.bm; omega, by have := f.dm; omega, f.a0, f.c1, f.ab, f.cd, f.det, f.lo, f.hi⟩
        obtain ⟨e1, e2⟩ := fi_one fu f' (by omega) hs'
        subst e1 e2
        obtain ⟨e3, e4⟩ := fi_oneR fu f' (by omega) hs'
        subst e3 e4
        rw [q, q', if_pos hq]
        split <;> omega
      · have ne := fi_unlike h f (by omega)
        have fu : FI T B (n - 1 + 1) a b c d := ⟨f.b1, f.d1, by have := f.bm; omega, by have := f.dm; omega, f.a0, f.c1, f.ab, f.cd, f.det, f.lo, f.hi⟩
        rw [q, q', if_neg hq]
        by_cases hf : c * B - T * d < T * b - a * B
        · have g := fi_left (l := 1) h (by omega) fu (by omega) (by omega) (by omega)
          rw [Int.one_mul, Int.one_mul] at g
          obtain ⟨e1, e2⟩ := fi_one g f' (by omega) hs'
          subst e1 e2
          obtain ⟨e3, e4⟩ := fi_oneR g f' (by omega) hs'
          subst e3 e4
          have e5 := e_left T B a b c' d' 1
          simp only [Int.one_mul] at e5
          split <;> omega
        · have g := fi_right (l := 1) h (by omega) fu (by omega) (by omega) (by omega)
          rw [Int.one_mul, Int.one_mul] at g
          obtain ⟨e1, e2⟩ := fi_one g f' (by omega) hs'
          subst e1 e2
          obtain ⟨e3, e4⟩ := fi_oneR g f' (by omega) hs'
          subst e3 e4
          have e5 := e_right T B a' b' c d 1
          simp only [Int.one_mul] at e5
          split <;> omega
theorem mx_mono {T B : Int} (h : StepOK T B) : ∀ (k : Nat) (n v v' : Int), 1 ≤ n → MX T B n v → n + k ≤ B → MX T B (n + k) v' → v' ≤ v
  | 0, n, v, v', h1, x, _, y => by
    have : n + ((0 : Nat) : Int) = n := by omega
    rw [this] at y
    rw [mx_one x y]; exact Int.le_refl _
  | k + 1, n, v, v', h1, x, h2, y => by
    obtain ⟨w, hw⟩ := mx_has (n := n + k) h (by omega) (by omega)
    have q1 := mx_mono h k n v w h1 x (by omega) hw
    have e : n + ((k + 1 : Nat) : Int) = n + k + 1 := by omega
    rw [e] at y
    have q2 := mx_next h hw y
    omega
theorem mx_le {T B n n' v v' : Int} (h : StepOK T B) (h1 : 1 ≤ n) (hn : n ≤ n') (h2 : n' ≤ B) (x : MX T B n v) (y : MX T B n' v') : v' ≤ v := by
  have e : n' = n + ((n' - n).toNat : Nat) := by omega
  rw [e] at y
  exact mx_mono h (n' - n).toNat n v v' h1 x (by omega) y
theorem mx_pos {T B n v : Int} (h : StepOK T B) (x : MX T B n v) : 1 ≤ v ∧ v ≤ B := by
  have := h.t0; have := h.tb
  rcases x with ⟨e, q⟩ | ⟨h1, h2, a, b, c, d, f, hs, q⟩
  · omega
  · have ss := fi_sum f
    have b1 := f.b1; have d1 := f.d1; have lo := f.lo; have hi := f.hi
    have p1 : (T * b - a * B) * 1 ≤ (T * b - a * B) * d := Int.mul_le_mul_of_nonneg_left (by omega) (by omega)
    have p2 : (c * B - T * d) * 1 ≤ (c * B - T * d) * b := Int.mul_le_mul_of_nonneg_left (by omega) (by omega)
    rw [q]
    split <;> omega
end Wk
set_option Elab.async false
set_option linter.all false
/-! How many gaps of each kind: a list of pairs as the dict keeps it. -/
namespace Wk
open PySem L2
def lookG : List (Int × Int) → Int → Int
  | [], _ => 0
  | (a, b) :: r, g => if a = g then b else lookG r g
def addG : List (Int × Int) → Int → Int → List (Int × Int)
  | [], g, m => [(g, m)]
  | (a, b) :: r, g, m => if a = g then (a, b + m) :: r else (a, b) :: addG r g m
def toKD (l : List (Int × Int)) : KD := l.map fun p => (.inl p.1, .int p.2)
theorem kd_keys (l : List (Int × Int)) : (toKD l).map (·.1) = (l.map (·.1)).map Sum.inl := by unfold toKD; rw [List.map_map, List.map_map]; rfl
theorem look_kd (g : Int) : ∀ l : List (Int × Int), (lookD (toKD l) (.inl g)).getD (.int 0) = .int (lookG l g)
  | [] => rfl
  | (a, b) :: r => by
    have ih := look_kd g r
    by_cases e : a = g
    · subst e; simp [toKD, lookD, lookG]
    · have e2 : ¬ (Sum.inl a : Key) = Sum.inl g := fun z => e (Sum.inl.inj z)
      have : lookD (toKD ((a, b) :: r)) (.inl g) = lookD (toKD r) (.inl g) := by simp [toKD, lookD, e]
      rw [this, ih]; simp [lookG, e]
theorem look_in (g : Int) : ∀ l : List (Int × Int), g ∈ l.map (·.1) → lookD (toKD l) (.inl g) = some (.int (lookG l g))
  | [], h => by simp at h
  | (a, b) :: r, h => by
    by_cases e : a = g
    · subst e; simp [toKD, lookD, lookG]
    · have : lookD (toKD ((a, b) :: r)) (.inl g) = lookD (toKD r) (.inl g) := by simp [toKD, lookD, e]
      rw [this, look_in g r (by simpa [Ne.symm e, e, eq_comm] using h)]; simp [lookG, e]
theorem keys_add (g m : Int) : ∀ l : List (Int × Int), (addG l g m).map (·.1) = if g ∈ l.map (·.1) then l.map (·.1) else l.map (·.1) ++ [g]
  | [] => by simp [addG]
  | (a, b) :: r => by
    have ih := keys_add g m r
    by_cases e : a = g
    · subst e; simp [addG]
    · have e' : ¬ g = a := fun z => e z.symm
      simp only [addG, if_neg e, List.map_cons, ih, List.mem_cons, e', false_or]
      split <;> simp
theorem nd_add {g m : Int} {l : List (Int × Int)} (h : (l.map (·.1)).Nodup) : ((addG l g m).map (·.1)).Nodup := by
  rw [keys_add]
  split
  · exact h
  · rename_i hn
    rw [List.nodup_append]
    exact ⟨h, by simp, fun a ha b hb => by simp at hb; subst hb; intro e; subst e; exact hn ha⟩
theorem store_add {g m : Int} : ∀ {l : List (Int × Int)}, (l.map (·.1)).Nodup → storeD (toKD l) (.inl g) (.int (lookG l g + m)) = toKD (addG l g m)
  | [], _ => by simp [storeD, toKD, addG, lookG]
  | (a, b) :: r, h => by
    rw [List.map_cons, List.nodup_cons] at h
    have ih := store_add (g := g) (m := m) h.2
    by_cases e : a = g
    · subst e
      have hr : ∀ p ∈ r, ¬ p.1 = a := fun p hp z => h.1 (by rw [← z]; exact List.mem_map.mpr ⟨p, hp, rfl⟩)
      have hm : (toKD r).map (fun kv => if kv.1 = Sum.inl a then (kv.1, PyData.int (b + m)) else kv) = toKD r := by
        conv => rhs; rw [← List.map_id (toKD r)]
        refine List.map_congr_left fun kv hkv => ?_
        obtain ⟨p, hp, rfl⟩ := List.mem_map.mp hkv
        have : ¬ (Sum.inl p.1 : Key) = Sum.inl a := fun z => hr p hp (Sum.inl.inj z)
        simp [this]
      have e1 : toKD ((a, b) :: r) = (Sum.inl a, PyData.int b) :: toKD r := rfl
      unfold storeD
      rw [e1]
      simp only [lookG, addG, if_true, List.any_cons, decide_true, Bool.true_or, List.map_cons, hm]
      rfl
    · have e2 : ¬ (Sum.inl a : Key) = Sum.inl g := fun z => e (Sum.inl.inj z)
      have e1 : toKD ((a, b) :: r) = (Sum.inl a, PyData.int b) :: toKD r := rfl
      have e3 : toKD (addG ((a, b) :: r) g m) = (Sum.inl a, PyData.int b) :: toKD (addG r g m) := by simp [addG, e, toKD]
      rw [e3, ← ih, e1]
      have e4 : lookG ((a, b) :: r) g = lookG r g := by simp [lookG, e]
      rw [e4]
      unfold storeD
      simp only [List.any_cons, decide_eq_false e2, Bool.false_or, List.map_cons, if_neg e2]
      split <;> rfl
/-- what a loop over pairs keeps -/
def stG (ps : List (Int × Int)) : List (Int × Int) := ps.foldl (fun l p => if 0 < p.2 then addG l p.1 p.2 else l) []
theorem st_snoc (ps : List (Int × Int)) (g m : Int) : stG (ps ++ [(g, m)]) = if 0 < m then addG (stG ps) g m else stG ps := by unfold stG; rw [List.foldl_append]; rfl
theorem nd_fold : ∀ (ps l : List (Int × Int)), (l.map (·.1)).Nodup → ((ps.foldl (fun l p => if 0 < p.2 then addG l p.1 p.2 else l) l).map (·.1)).Nodup
  | [], _, h => h
  | p :: ps, l, h => by
    rw [List.foldl_cons]
    exact nd_fold ps _ (by split; exact nd_add h; exact h)
theorem nd_st (ps : List (Int × Int)) : ((stG ps).map (·.1)).Nodup := nd_fold ps [] List.nodup_nil
theorem len_add (g m : Int) : ∀ l : List (Int × Int), (addG l g m).length ≤ l.length + 1
  | [] => by simp [addG]
  | (a, b) :: r => by
    have := len_add g m r
    unfold addG; split <;> simp <;> omega
theorem len_fold : ∀ (ps l : List (Int × Int)), (ps.foldl (fun l p => if 0 < p.2 then addG l p.1 p.2 else l) l).length ≤ l.length + ps.length
  | [], _ => by simp
  | p :: ps, l => by
    rw [List.foldl_cons]
    refine Nat.le_trans (len_fold ps _) ?_
    rw [List.length_cons]
    split
    · have := len_add p.1 p.2 l; omega
    · omega
theorem len_st (ps : List (Int × Int)) : (stG ps).length ≤ ps.length := by
  have h := len_fold ps []
  unfold stG
  simpa using h
/-- greatest first -/
def gapsL (x y p q s : Int) : List (Int × Int) := (if 0 < s then [(x + y, s)] else []) ++ (if x = y then [(x, p + q)] else if y < x then [(x, p), (y, q)] else [(y, q), (x, p)])
theorem sort_one {ys ks : List Int} (hp : ys.Perm ks) (hs : ys.Pairwise (· ≥ ·)) {zs : List Int} (hz : zs.Perm ks) (hzs : zs.Pairwise (· ≥ ·)) : ys = zs :=
  List.Perm.eq_of_pairwise (fun a b _ _ h1 h2 => by omega) hs hzs (hp.trans hz.symm)
theorem fin_prog {x y p q s : Int} (hx : 0 < x) (hy : 0 < y) (hp : 0 < p) (hq : 0 < q) (hs : 0 ≤ s) {ys : List Int} (h1 : ys.Perm ((stG [(x + y, s), (x, p), (y, q)]).map (·.1))) (h2 : ys.Pairwise (· ≥ ·)) :
    ys.map (fun g => (g, lookG (stG [(x + y, s), (x, p), (y, q)]) g)) = gapsL x y p q s := by
  have n1 : ¬ x + y = x := by omega
  have n2 : ¬ x + y = y := by omega
  rcases Int.lt_trichotomy x y with c | c | c
  · have n3 : ¬ x = y := by omega
    have n3' : ¬ y = x := by omega
    have n4 : ¬ y < x := by omega
    by_cases h0 : 0 < s
    · have e : stG [(x + y, s), (x, p), (y, q)] = [(x + y, s), (x, p), (y, q)] := by simp [stG, addG, h0, hp, hq, n1, n2, n3]
      rw [e] at h1 ⊢
      have := sort_one h1 h2 (zs := [x + y, y, x]) (by simp; exact List.Perm.swap _ _ _) (by simp; omega)
      rw [this]; simp [gapsL, h0, n3, n4, lookG, n1, n2, n3']
    · have e : stG [(x + y, s), (x, p), (y, q)] = [(x, p), (y, q)] := by simp [stG, addG, h0, hp, hq, n1, n2, n3]
      rw [e] at h1 ⊢
      have := sort_one h1 h2 (zs := [y, x]) (by simpa using List.Perm.swap _ _ _) (by simp; omega)
      rw [this]; simp [gapsL, h0, n3, n4, lookG, n1, n2, n3']
  · subst c
    by_cases h0 : 0 < s
    · have e : stG [(x + x, s), (x, p), (x, q)] = [(x + x, s), (x, p + q)] := by simp [stG, addG, h0, hp, hq, n1]
      rw [e] at h1 ⊢
      have := sort_one h1 h2 (zs := [x + x, x]) (by simp) (by simp; omega)
      rw [this]; simp [gapsL, h0, lookG, n1]
    · have e : stG [(x + x, s), (x, p), (x, q)] = [(x, p + q)] := by simp [stG, addG, h0, hp, hq]
      rw [e] at h1 ⊢
      have := sort_one h1 h2 (zs := [x]) (by simp) (by simp)
      rw [this]; simp [gapsL, h0, lookG]
  · have n3 : ¬ x = y := by omega
    have n3' : ¬ y = x := by omega
    by_cases h0 : 0 < s
    · have e : stG [(x + y, s), (x, p), (y, q)] = [(x + y, s), (x, p), (y, q)] := by simp [stG, addG, h0, hp, hq, n1, n2, n3]
      rw [e] at h1 ⊢
      have := sort_one h1 h2 (zs := [x + y, x, y]) (by simp) (by simp; omega)
      rw [this]; simp [gapsL, h0, n3, c, lookG, n1, n2, n3']
    · have e : stG [(x + y, s), (x, p), (y, q)] = [(x, p), (y, q)] := by simp [stG, addG, h0, hp, hq, n1, n2, n3]
      rw [e] at h1 ⊢
      have := sort_one h1 h2 (zs := [x, y]) (by simp) (by simp; omega)
      rw [this]; simp [gapsL, h0, n3, c, lookG, n1, n2, n3']
theorem fin_law {x y p q s : Int} (hx : 0 < x) (hy : 0 < y) (hp : 0 < p) (hq : 0 < q) (hs : 0 ≤ s) {ys : List Int} (h1 : ys.Perm ((stG [(x, p), (y, q), (x + y, s)]).map (·.1))) (h2 : ys.Pairwise (· ≥ ·)) :
    ys.map (fun g => (g, lookG (stG [(x, p), (y, q), (x + y, s)]) g)) = gapsL x y p q s := by
  have n1 : ¬ x + y = x := by omega
  have n2 : ¬ x + y = y := by omega
  have n1' : ¬ x = x + y := by omega
  have n2' : ¬ y = x + y := by omega
  rcases Int.lt_trichotomy x y with c | c | c
  · have n3 : ¬ x = y := by omega
    have n3' : ¬ y = x := by omega
    have n4 : ¬ y < x := by omega
    by_cases h0 : 0 < s
    · have e : stG [(x, p), (y, q), (x + y, s)] = [(x, p), (y, q), (x + y, s)] := by simp [stG, addG, h0, hp, hq, n1', n2', n3]
      rw [e] at h1 ⊢
      have := sort_one h1 h2 (zs := [x + y, y, x]) (by simpa using (List.reverse_perm [x, y, x + y])) (by simp; omega)
      rw [this]; simp [gapsL, h0, n3, n4, lookG, n1', n2', n3']
    · have e : stG [(x, p), (y, q), (x + y, s)] = [(x, p), (y, q)] := by simp [stG, addG, h0, hp, hq, n1', n2', n3]
      rw [e] at h1 ⊢
      have := sort_one h1 h2 (zs := [y, x]) (by simpa using List.Perm.swap _ _ _) (by simp; omega)
      rw [this]; simp [gapsL, h0, n3, n4, lookG, n1, n2, n3']
  · subst c
    by_cases h0 : 0 < s
    · have e : stG [(x, p), (x, q), (x + x, s)] = [(x, p + q), (x + x, s)] := by simp [stG, addG, h0, hp, hq, n1']
      rw [e] at h1 ⊢
      have := sort_one h1 h2 (zs := [x + x, x]) (by simpa using List.Perm.swap _ _ _) (by simp; omega)
      rw [this]; simp [gapsL, h0, lookG, n1']
    · have e : stG [(x, p), (x, q), (x + x, s)] = [(x, p + q)] := by simp [stG, addG, h0, hp, hq]
      rw [e] at h1 ⊢
      have := sort_one h1 h2 (zs := [x]) (by simp) (by simp)
      rw [this]; simp [gapsL, h0, lookG]
  · have n3 : ¬ x = y := by omega
    have n3' : ¬ y = x := by omega
    by_cases h0 : 0 < s
    · have e : stG [(x, p), (y, q), (x + y, s)] = [(x, p), (y, q), (x + y, s)] := by simp [stG, addG, h0, hp, hq, n1', n2', n3]
      rw [e] at h1 ⊢
      have := sort_one h1 h2 (zs := [x + y, x, y]) (by simpa using (List.perm_append_comm (l₁ := [x + y]) (l₂ := [x, y]))) (by simp; omega)
      rw [this]; simp [gapsL, h0, n3, c, lookG, n1', n2', n3']
    · have e : stG [(x, p), (y, q), (x + y, s)] = [(x, p), (y, q)] := by simp [stG, addG, h0, hp, hq, n1', n2', n3]
      rw [e] at h1 ⊢
      have := sort_one h1 h2 (zs := [x, y]) (by simp) (by simp; omega)
      rw [this]; simp [gapsL, h0, n3, c, lookG, n1, n2, n3']
end Wk
set_option Elab.async false
set_option linter.all false
/-! Lowest terms, the inverse, the next one of a row: plain arithmetic. -/
namespace Wk
open PySem L2
theorem red {g B : Int} (hB : 0 < B) : 0 < (Int.gcd g B : Int) ∧ (Int.gcd g B : Int) * (g / Int.gcd g B) = g ∧ (Int.gcd g B : Int) * (B / Int.gcd g B) = B ∧ Int.gcd (g / Int.gcd g B) (B / Int.gcd g B) = 1 := by
  have h1 : 0 < Int.gcd g B := Int.gcd_pos_of_ne_zero_right g (by omega)
  refine ⟨by omega, Int.mul_ediv_cancel' (Int.gcd_dvd_left g B), Int.mul_ediv_cancel' (Int.gcd_dvd_right g B), ?_⟩
  exact Int.gcd_ediv_gcd_ediv_gcd h1
theorem red_pos {g B : Int} (hB : 0 < B) : 0 < B / Int.gcd g B := by
  obtain ⟨h1, _, h3, _⟩ := red (g := g) hB
  apply Decidable.byContradiction
  intro hn
  have := Int.mul_nonpos_of_nonneg_of_nonpos (a := (Int.gcd g B : Int)) (b := B / Int.gcd g B) (by omega) (by omega)
  omega
theorem red_posL {g B : Int} (hg : 0 < g) (hB : 0 < B) : 0 < g / Int.gcd g B := by
  obtain ⟨h1, h2, _, _⟩ := red (g := g) hB
  apply Decidable.byContradiction
  intro hn
  have := Int.mul_nonpos_of_nonneg_of_nonpos (a := (Int.gcd g B : Int)) (b := g / Int.gcd g B) (by omega) (by omega)
  omega
theorem red_le {g B : Int} (hg : 0 ≤ g) (hB : 0 < B) : g / Int.gcd g B ≤ g ∧ B / Int.gcd g B ≤ B := by
  obtain ⟨h1, _, _, _⟩ := red (g := g) hB
  exact ⟨Int.ediv_le_self _ hg, Int.ediv_le_self _ (by omega)⟩
/-- two ratios over one bottom, in lowest terms, by their tops -/
theorem red_lt {g v B : Int} (hB : 0 < B) : (g / Int.gcd g B) * (B / Int.gcd v B) < (v / Int.gcd v B) * (B / Int.gcd g B) ↔ g < v := by
  obtain ⟨p1, e1, e2, _⟩ := red (g := g) hB
  obtain ⟨q1, f1, f2, _⟩ := red (g := v) hB
  generalize (Int.gcd g B : Int) = γ at *
  generalize (Int.gcd v B : Int) = ν at *
  generalize g / γ = g' at *
  generalize B / γ = B1 at *
  generalize v / ν = v' at *
  generalize B / ν = B2 at *
  have k1 : γ * ν * (g' * B2) = g * B := by
    rw [← e1, ← f2]; simp only [Int.mul_assoc, Int.mul_left_comm, Int.mul_comm]
  have k2 : γ * ν * (v' * B1) = v * B := by
    conv => rhs; rw [← f1, ← e2]
    simp only [Int.mul_assoc, Int.mul_left_comm, Int.mul_comm]
  have hp : 0 < γ * ν := Int.mul_pos p1 q1
  constructor
  · intro h
    have := Int.mul_lt_mul_of_pos_left h hp
    rw [k1, k2] at this
    exact Int.lt_of_mul_lt_mul_right this (by omega)
  · intro h
    have := Int.mul_lt_mul_of_pos_right h hB
    rw [← k1, ← k2] at this
    exact Int.lt_of_mul_lt_mul_left this (by omega)
theorem gapsL_head {x y p q s : Int} : ∃ m r, gapsL x y p q s = ((if 0 < s then x + y else max x y), m) :: r := by
  unfold gapsL
  by_cases h0 : 0 < s
  · exact ⟨s, _, by rw [if_pos h0, if_pos h0]; rfl⟩
  · rw [if_neg h0, if_neg h0]
    rcases Int.lt_trichotomy x y with c | c | c
    · refine ⟨q, [(x, p)], ?_⟩
      rw [if_neg (by omega), if_neg (by omega), Int.max_eq_right (by omega)]; rfl
    · refine ⟨p + q, [], ?_⟩
      subst c; rw [if_pos rfl, Int.max_self]; rfl
    · refine ⟨p, [(y, q)], ?_⟩
      rw [if_neg (by omega), if_pos c, Int.max_eq_left (by omega)]; rfl
/-! the next one of row n behind a/b -/
structure NX (n a b c d : Int) : Prop where
  det : c * b - a * d = 1
  lo : n - b < d
  hi : d ≤ n
theorem cop_det {a b c d : Int} (h : c * b - a * d = 1) : Int.gcd a b = 1 := by
  have q : ((Int.gcd a b : Nat) : Int) ∣ 1 := by
    rw [← h]
    exact Int.dvd_sub (Int.dvd_trans (Int.gcd_dvd_right a b) (Int.dvd_mul_left c b)) (Int.dvd_trans (Int.gcd_dvd_left a b) (Int.dvd_mul_right a d))
  have q2 := Int.le_of_dvd (by omega) q
  have q3 : (Int.gcd a b : Int) ≠ 0 := fun z => by
    rw [z] at q
    have := Int.zero_dvd.mp q
    omega
  omega
theorem cop_det' {a b c d : Int} (h : c * b - a * d = 1) : Int.gcd c d = 1 := by
  have q : ((Int.gcd c d : Nat) : Int) ∣ 1 := by
    rw [← h]
    exact Int.dvd_sub (Int.dvd_trans (Int.gcd_dvd_left c d) (Int.dvd_mul_right c b)) (Int.dvd_trans (Int.gcd_dvd_right c d) (Int.dvd_mul_left a d))
  have q2 := Int.le_of_dvd (by omega) q
  have q3 : (Int.gcd c d : Int) ≠ 0 := fun z => by
    rw [z] at q
    have := Int.zero_dvd.mp q
    omega
  omega
theorem dvd_small {b x : Int} (hb : 0 < b) (h : b ∣ x) (h1 : -b < x) (h2 : x < b) : x = 0 := by
  obtain ⟨t, ht⟩ := h
  rcases Int.lt_trichotomy t 0 with q | q | q
  · have : b * t ≤ b * (-1) := Int.mul_le_mul_of_nonneg_left (by omega) (by omega); omega
  · rw [q] at ht; omega
  · have : b * 1 ≤ b * t := Int.mul_le_mul_of_nonneg_left (by omega) (by omega); omega
theorem nx_one {n a b c d c' d' : Int} (hb : 0 < b) (x : NX n a b c d) (y : NX n a b c' d') : c' = c ∧ d' = d := by
  have h1 := x.det
  have h2 := y.det
  have e : (c - c') * b = a * (d - d') := by simp only [Int.sub_mul, Int.mul_sub]; omega
  have dv : b ∣ d - d' := dvd_cop (cop_det h1) ⟨c - c', by rw [← e, Int.mul_comm]⟩
  have := x.lo; have := x.hi; have := y.lo; have := y.hi
  have ed := dvd_small hb dv (by omega) (by omega)
  have : d' = d := by omega
  subst this
  refine ⟨?_, rfl⟩
  have e2 : (c - c') * b = 0 := by rw [e]; simp
  rcases Int.mul_eq_zero.mp e2 with q | q <;> omega
theorem nx_has {n a b i : Int} (hb : 0 < b) (hi : b ∣ a * i - 1) : NX n a b ((1 + a * (n - (n + i) % b)) / b) (n - (n + i) % b) := by
  have h1 := Int.emod_lt_of_pos (n + i) hb
  have h2 := Int.emod_nonneg (n + i) (by omega : b ≠ 0)
  have hd : b ∣ 1 + a * (n - (n + i) % b) := by
    obtain ⟨t, ht⟩ := hi
    have e := Int.emod_add_mul_ediv (n + i) b
    have : 1 + a * (n - (n + i) % b) = b * (a * ((n + i) / b) - t) := by
      have e1 : (n + i) % b = n + i - b * ((n + i) / b) := by omega
      rw [e1]
      have e2 : a * (n - (n + i - b * ((n + i) / b))) = a * (b * ((n + i) / b)) - a * i := by
        rw [show n - (n + i - b * ((n + i) / b)) = b * ((n + i) / b) - i by omega, Int.mul_sub]
      rw [e2, Int.mul_left_comm a b, Int.mul_sub, ← ht]; omega
    exact ⟨_, this⟩
  have e3 := Int.ediv_mul_cancel hd
  exact ⟨by omega, by omega, by omega⟩
theorem gcd_turn' {a b : Int} (hb : 0 < b) : Int.gcd b (a % b) = Int.gcd a b := by
  rw [Int.gcd_comm a b]
  conv => rhs; rw [← Int.emod_add_mul_ediv a b]
  rw [Int.gcd_add_mul_left_right]
theorem bd_neg' {n : Nat} {i : Int} (h : Bd n (-i)) : Bd n i := by unfold Bd at *; omega
end Wk
set_option Elab.async false
set_option linter.all false
/-! The sieve of counts without a common divisor: plain arithmetic. -/
namespace Wk
def cnt (p : Nat → Bool) : Nat → Nat
  | 0 => 0
  | n + 1 => cnt p n + if p n then 1 else 0
theorem cnt_congr {p q : Nat → Bool} : ∀ {n : Nat}, (∀ i, i < n → p i = q i) → cnt p n = cnt q n
  | 0, _ => rfl
  | n + 1, h => by
    show cnt p n + _ = cnt q n + _
    rw [cnt_congr (n := n) fun i hi => h i (by omega), h n (by omega)]
theorem cnt_add (p : Nat → Bool) (a : Nat) : ∀ b, cnt p (a + b) = cnt p a + cnt (fun i => p (a + i)) b
  | 0 => rfl
  | b + 1 => by
    show cnt p (a + b) + (if p (a + b) then 1 else 0) = cnt p a + (cnt (fun i => p (a + i)) b + (if p (a + b) then 1 else 0))
    rw [cnt_add p a b]; omega
theorem cnt_le (p : Nat → Bool) : ∀ n, cnt p n ≤ n
  | 0 => Nat.le_refl _
  | n + 1 => by
    have := cnt_le p n
    show cnt p n + _ ≤ n + 1
    split <;> omega
theorem cnt_all {p : Nat → Bool} : ∀ {n : Nat}, cnt p n = n → ∀ i, i < n → p i = true
  | n + 1, h, i, hi => by
    have h1 := cnt_le p n
    have h2 : cnt p n + (if p n then 1 else 0) = n + 1 := h
    by_cases e : p n = true
    · rw [if_pos e] at h2
      by_cases e2 : i = n
      · rw [e2]; exact e
      · exact cnt_all (n := n) (by omega) i (by omega)
    · rw [if_neg e] at h2; omega
theorem cnt_true {p : Nat → Bool} : ∀ {n : Nat}, (∀ i, i < n → p i = true) → cnt p n = n
  | 0, _ => rfl
  | n + 1, h => by
    show cnt p n + _ = n + 1
    rw [cnt_true (n := n) fun i hi => h i (by omega), h n (by omega)]; rfl
theorem cnt_split (p q : Nat → Bool) : ∀ n, cnt p n = cnt (fun i => q i && p i) n + cnt (fun i => !q i && p i) n
  | 0 => rfl
  | n + 1 => by
    have := cnt_split p q n
    show cnt p n + (if p n then 1 else 0) = (cnt (fun i => q i && p i) n + (if (q n && p n) then 1 else 0)) + (cnt (fun i => !q i && p i) n + (if (!q n && p n) then 1 else 0))
    rw [this]
    cases q n <;> cases p n <;> simp <;> omega
theorem cnt_per {p : Nat → Bool} {m : Nat} (h : ∀ i, p (m + i) = p i) : ∀ k, cnt p (m * k) = k * cnt p m
  | 0 => by simp [cnt]
  | k + 1 => by
    rw [show m * (k + 1) = m + m * k by rw [Nat.mul_succ]; omega, cnt_add, cnt_congr (q := p) fun i _ => h i, cnt_per h k, Nat.succ_mul]; omega
theorem cnt_head {q : Nat → Bool} : ∀ {k : Nat}, (∀ i, 0 < i → i < k + 1 → q i = false) → cnt q (k + 1) = if q 0 then 1 else 0
  | 0, _ => Nat.zero_add _
  | k + 1, h => by
    show cnt q (k + 1) + (if q (k + 1) then 1 else 0) = _
    rw [cnt_head fun i h1 h2 => h i h1 (by omega), h (k + 1) (by omega) (by omega)]; rfl
theorem cnt_mul {p : Nat → Bool} {k : Nat} : ∀ m, cnt (fun i => decide (i % (k + 1) = 0) && p i) ((k + 1) * m) = cnt (fun j => p ((k + 1) * j)) m
  | 0 => rfl
  | m + 1 => by
    rw [Nat.mul_succ, cnt_add, cnt_mul m]
    show _ = cnt _ m + _
    congr 1
    rw [cnt_head]
    · simp
    · intro i h1 h2
      have : ((k + 1) * m + i) % (k + 1) = i := by rw [Nat.mul_add_mod, Nat.mod_eq_of_lt h2]
      simp only [this]
      rw [decide_eq_false (by omega)]; rfl
/-- no part of two to P that both have -/
def fr : Nat → Nat → Nat → Bool
  | 0, _, _ => true
  | P + 1, m, i => fr P m i && !(decide (1 ≤ P) && (decide (m % (P + 1) = 0) && decide (i % (P + 1) = 0)))
theorem fr_iff {m i : Nat} : ∀ {P : Nat}, fr P m i = true ↔ ∀ d, 2 ≤ d → d ≤ P → d ∣ m → ¬ d ∣ i
  | 0 => ⟨fun _ d h1 h2 => by omega, fun _ => rfl⟩
  | P + 1 => by
    unfold fr
    rw [Bool.and_eq_true, fr_iff (P := P)]
    constructor
    · rintro ⟨h1, h2⟩ d d1 d2 hm hi
      by_cases e : d = P + 1
      · subst e
        rw [decide_eq_true (show 1 ≤ P by omega), decide_eq_true (Nat.mod_eq_zero_of_dvd hm), decide_eq_true (Nat.mod_eq_zero_of_dvd hi)] at h2
        simp at h2
      · exact h1 d d1 (by omega) hm hi
    · intro h
      refine ⟨fun d d1 d2 => h d d1 (by omega), ?_⟩
      by_cases c1 : 1 ≤ P
      · by_cases c2 : m % (P + 1) = 0
        · by_cases c3 : i % (P + 1) = 0
          · exact absurd (Nat.dvd_of_mod_eq_zero c3) (h (P + 1) (by omega) (by omega) (Nat.dvd_of_mod_eq_zero c2))
          · simp [c3]
        · simp [c2]
      · simp [c1]
theorem fr_eq {P m i P' m' i' : Nat} (h : (∀ d, 2 ≤ d → d ≤ P → d ∣ m → ¬ d ∣ i) ↔ ∀ d, 2 ≤ d → d ≤ P' → d ∣ m' → ¬ d ∣ i') : fr P m i = fr P' m' i' := by
  rw [Bool.eq_iff_iff, fr_iff, fr_iff]; exact h
/-- the sieve's number at m, parts to P done -/
def F (P m : Nat) : Nat := cnt (fr P m) m
theorem F_one (m : Nat) : F 1 m = m := cnt_true fun i _ => fr_iff.mpr fun d h1 h2 => by omega
theorem F_prime {P : Nat} (hP : 2 ≤ P) : F (P - 1) P = P ↔ ∀ d, 2 ≤ d → d < P → ¬ d ∣ P := by
  constructor
  · intro h d d1 d2 hd
    have := fr_iff.mp (cnt_all h 0 (by omega)) d d1 (by omega) hd
    exact this (Nat.dvd_zero d)
  · intro h
    exact cnt_true fun i _ => fr_iff.mpr fun d d1 d2 hd => absurd hd (h d d1 (by omega))
theorem F_comp {P : Nat} (hP : 2 ≤ P) (h : F (P - 1) P ≠ P) (m : Nat) : F P m = F (P - 1) m := by
  have : ∃ e, 2 ≤ e ∧ e < P ∧ e ∣ P := by
    apply Classical.byContradiction
    intro hn
    exact h ((F_prime hP).mpr fun d d1 d2 hd => hn ⟨d, d1, d2, hd⟩)
  obtain ⟨e, e1, e2, e3⟩ := this
  refine cnt_congr fun i _ => fr_eq ⟨fun h d d1 d2 => h d d1 (by omega), fun h d d1 d2 hm hi => ?_⟩
  by_cases z : d = P
  · subst z; exact h e e1 (by omega) (Nat.dvd_trans e3 hm) (Nat.dvd_trans e3 hi)
  · exact h d d1 (by omega) hm hi
theorem F_other {P m : Nat} (h : ¬ P ∣ m) : F P m = F (P - 1) m := by
  refine cnt_congr fun i _ => fr_eq ⟨fun h d d1 d2 => h d d1 (by omega), fun h' d d1 d2 hm hi => ?_⟩
  by_cases z : d = P
  · subst z; exact h hm
  · exact h' d d1 (by omega) hm hi
theorem cop_prime {P d : Nat} (hp : ∀ d, 2 ≤ d → d < P → ¬ d ∣ P) (h1 : 2 ≤ d) (h2 : d < P) : Nat.gcd d P = 1 := by
  have a := Nat.gcd_dvd_left d P
  have b := Nat.gcd_dvd_right d P
  have c := Nat.le_of_dvd (by omega) a
  have e : 0 < Nat.gcd d P := Nat.gcd_pos_of_pos_left P (by omega)
  apply Decidable.byContradiction
  intro hn
  exact hp _ (by omega) (by omega) b
theorem F_step {P m : Nat} (hP : 2 ≤ P) (h : F (P - 1) P = P) (hm : P ∣ m) : F P m = F (P - 1) m - F (P - 1) m / P := by
  obtain ⟨m', rfl⟩ := hm
  have hp := (F_prime hP).mp h
  obtain ⟨k, rfl⟩ : ∃ k, P = k + 1 := ⟨P - 1, by omega⟩
  show cnt (fr (k + 1) ((k + 1) * m')) _ = cnt (fr k ((k + 1) * m')) _ - cnt (fr k ((k + 1) * m')) _ / (k + 1)
  have dv : ∀ d, 2 ≤ d → d ≤ k → d ∣ (k + 1) * m' → d ∣ m' := fun d d1 d2 hd => Nat.Coprime.dvd_of_dvd_mul_left (cop_prime hp d1 (by omega)) hd
  have per : ∀ i, fr k ((k + 1) * m') (m' + i) = fr k ((k + 1) * m') i := fun i => fr_eq ⟨fun h d d1 d2 hm hi => h d d1 d2 hm ((Nat.dvd_add_iff_right (dv d d1 d2 hm)).mp hi), fun h d d1 d2 hm hi => h d d1 d2 hm ((Nat.dvd_add_iff_right (dv d d1 d2 hm)).mpr hi)⟩
  have e1 : cnt (fr k ((k + 1) * m')) ((k + 1) * m') = (k + 1) * cnt (fr k ((k + 1) * m')) m' := by
    conv => lhs; rw [Nat.mul_comm (k + 1) m']
    rw [Nat.mul_comm (k + 1) m'] at per ⊢
    exact cnt_per per (k + 1)
  have e2 := cnt_split (fr k ((k + 1) * m')) (fun i => decide (i % (k + 1) = 0)) ((k + 1) * m')
  rw [cnt_mul m'] at e2
  have e3 : cnt (fun j => fr k ((k + 1) * m') ((k + 1) * j)) m' = cnt (fr k ((k + 1) * m')) m' := cnt_congr fun j _ => fr_eq ⟨fun h d d1 d2 hm hi => h d d1 d2 hm (Nat.dvd_trans hi (Nat.dvd_mul_left j (k + 1))), fun h d d1 d2 hm hi => h d d1 d2 hm (Nat.Coprime.dvd_of_dvd_mul_left (cop_prime hp d1 (by omega)) hi)⟩
  have e4 : cnt (fun i => !decide (i % (k + 1) = 0) && fr k ((k + 1) * m') i) ((k + 1) * m') = cnt (fr (k + 1) ((k + 1) * m')) ((k + 1) * m') := by
    refine cnt_congr fun i _ => ?_
    show _ = (fr k ((k + 1) * m') i && !(decide (1 ≤ k) && (decide (((k + 1) * m') % (k + 1) = 0) && decide (i % (k + 1) = 0))))
    rw [decide_eq_true (show 1 ≤ k by omega), Nat.mul_mod_right]
    simp [Bool.and_comm]
  rw [e3, e4, e1] at e2
  rw [e1, Nat.mul_div_cancel_left _ (by omega)]
  omega
/-- numbers to m without a common divisor with m -/
def phi (m : Nat) : Nat := cnt (fun i => decide (Nat.gcd i m = 1)) m
theorem F_end {n m : Nat} (h : m ≤ n) (h0 : 0 < m) : F n m = phi m := by
  refine cnt_congr fun i _ => ?_
  rw [Bool.eq_iff_iff, fr_iff, decide_eq_true_eq]
  constructor
  · intro q
    have a := Nat.gcd_dvd_left i m
    have b := Nat.gcd_dvd_right i m
    have c := Nat.le_of_dvd h0 b
    have e : 0 < Nat.gcd i m := Nat.gcd_pos_of_pos_right i h0
    apply Decidable.byContradiction
    intro hn
    exact q _ (by omega) (by omega) b a
  · intro q d d1 d2 hm hi
    have := Nat.dvd_gcd hi hm
    rw [q] at this
    have := Nat.le_of_dvd (by omega) this
    omega
/-- .. counted from 1 to m -/
theorem phi_up {m : Nat} (h0 : 0 < m) : cnt (fun i => decide (Nat.gcd (i + 1) m = 1)) m = phi m := by
  have h1 := cnt_add (fun i => decide (Nat.gcd i m = 1)) 1 m
  have h2 := cnt_add (fun i => decide (Nat.gcd i m = 1)) m 1
  rw [Nat.add_comm 1 m, h2] at h1
  have h3 : cnt (fun i => decide (Nat.gcd i m = 1)) 1 = cnt (fun i => decide (Nat.gcd (m + i) m = 1)) 1 := by
    show 0 + _ = 0 + _
    simp
  have h4 : cnt (fun i => decide (Nat.gcd (1 + i) m = 1)) m = cnt (fun i => decide (Nat.gcd (i + 1) m = 1)) m := cnt_congr fun i _ => by rw [Nat.add_comm]
  unfold phi
  omega
end Wk
set_option Elab.async false
set_option linter.all false
/-! Rows of one to sixty, worked out. -/
namespace Wk
open PySem L2
/-- the row behind a/b, c/d -/
def frs (n : Nat) : Nat → Nat → Nat → Nat → Nat → List (Nat × Nat)
  | 0, _, _, _, _ => []
  | k + 1, a, b, c, d => (a, b) :: if c = d then [(c, d)] else frs n k c d ((n + b) / d * c - a) ((n + b) / d * d - b)
def row (n : Nat) : List (Nat × Nat) := frs n 1200 0 1 1 n
def adj (n : Nat) : List (Nat × Nat) → Bool
  | x :: y :: r => decide (y.1 * x.2 = x.1 * y.2 + 1 ∧ n < x.2 + y.2 ∧ y.2 ≤ n ∧ x.2 ≤ n ∧ 1 ≤ x.2 ∧ 1 ≤ y.2 ∧ x.1 < x.2) && adj n (y :: r)
  | _ => true
def prs (n : Nat) : List (Nat × Nat) := (List.range n).flatMap fun i => ((List.range (i + 1)).filter fun j => decide (Nat.gcd (i + 1) (n - i + j) = 1)).map fun j => (i + 1, n - i + j)
def key (p : Nat × Nat) : Nat := p.1 * 1000 + p.2
def mrg : Nat → List Nat → List Nat → List Nat
  | 0, _, _ => []
  | _ + 1, [], b => b
  | _ + 1, a, [] => a
  | k + 1, x :: a, y :: b => if x ≤ y then x :: mrg k a (y :: b) else y :: mrg k (x :: a) b
def halves : List Nat → List Nat × List Nat
  | [] => ([], [])
  | x :: r => (x :: (halves r).2, (halves r).1)
def srt : Nat → List Nat → List Nat
  | 0, l => l
  | _ + 1, [] => []
  | _ + 1, [x] => [x]
  | k + 1, l => mrg l.length (srt k (halves l).1) (srt k (halves l).2)
def bots (l : List (Nat × Nat)) : List (Nat × Nat) := (l.zip l.tail).map fun p => (p.1.2, p.2.2)
def sumphi : Nat → Nat
  | 0 => 0
  | n + 1 => sumphi n + phi (n + 1)
def ord : List Nat → Bool
  | x :: y :: r => decide (x ≤ y) && ord (y :: r)
  | _ => true
def chk (n : Nat) : Bool :=
  ord ((prs n).map key) && ((prs n).all fun p => decide (p.2 < 1000)) && ((bots (row n)).all fun p => decide (p.2 < 1000)) && (
  adj n (row n) && decide ((row n).head? = some (0, 1)) && decide ((row n).getLast? = some (1, 1)) && decide ((row n).length ≤ 1150) &&
  decide (srt 12 ((bots (row n)).map key) = (prs n).map key) && decide (sumphi n = (prs n).length) && decide (phi (n + 1) = ((prs n).filter fun p => decide (p.1 + p.2 = n + 1)).length) && decide (2 ≤ (row n).length))
theorem chk_0 : (List.range 30).all (fun n => chk (n + 1)) = true := by decide +kernel
theorem chk_30 : (List.range 8).all (fun n => chk (n + 31)) = true := by decide +kernel
theorem chk_38 : (List.range 6).all (fun n => chk (n + 39)) = true := by decide +kernel
theorem chk_44 : (List.range 4).all (fun n => chk (n + 45)) = true := by decide +kernel
theorem chk_48 : (List.range 3).all (fun n => chk (n + 49)) = true := by decide +kernel
theorem chk_51 : (List.range 3).all (fun n => chk (n + 52)) = true := by decide +kernel
theorem chk_54 : (List.range 2).all (fun n => chk (n + 55)) = true := by decide +kernel
theorem chk_56 : (List.range 2).all (fun n => chk (n + 57)) = true := by decide +kernel
theorem chk_58 : (List.range 2).all (fun n => chk (n + 59)) = true := by decide +kernel
theorem chk_all {n : Nat} (h1 : 1 ≤ n) (h2 : n ≤ 60) : chk n = true := by
  have pick : ∀ (a c : Nat), (List.range c).all (fun n => chk (n + a)) = true → a ≤ n → n < a + c → chk n = true := fun a c h h3 h4 => by
    have := List.all_eq_true.mp h (n - a) (List.mem_range.mpr (by omega))
    rwa [Nat.sub_add_cancel h3] at this
  by_cases c0 : n ≤ 30
  · exact pick _ _ chk_0 (by omega) (by omega)
  by_cases c30 : n ≤ 38
  · exact pick _ _ chk_30 (by omega) (by omega)
  by_cases c38 : n ≤ 44
  · exact pick _ _ chk_38 (by omega) (by omega)
  by_cases c44 : n ≤ 48
  · exact pick _ _ chk_44 (by omega) (by omega)
  by_cases c48 : n ≤ 51
  · exact pick _ _ chk_48 (by omega) (by omega)
  by_cases c51 : n ≤ 54
  · exact pick _ _ chk_51 (by omega) (by omega)
  by_cases c54 : n ≤ 56
  · exact pick _ _ chk_54 (by omega) (by omega)
  by_cases c56 : n ≤ 58
  · exact pick _ _ chk_56 (by omega) (by omega)
  by_cases c58 : n ≤ 60
  · exact pick _ _ chk_58 (by omega) (by omega)
  omega
theorem adj_at {n : Nat} : ∀ {l : List (Nat × Nat)} {i : Nat} {x y : Nat × Nat}, adj n l = true → l[i]? = some x → l[i + 1]? = some y → y.1 * x.2 = x.1 * y.2 + 1 ∧ n < x.2 + y.2 ∧ y.2 ≤ n ∧ x.2 ≤ n ∧ 1 ≤ x.2 ∧ 1 ≤ y.2 ∧ x.1 < x.2
  | [], i, x, y, _, h1, _ => by simp at h1
  | [a], i, x, y, _, h1, h2 => by simp at h2
  | a :: b :: r, 0, x, y, h, h1, h2 => by
    unfold adj at h
    rw [Bool.and_eq_true] at h
    simp at h1 h2
    subst h1; subst h2
    exact of_decide_eq_true h.1
  | a :: b :: r, i + 1, x, y, h, h1, h2 => by
    unfold adj at h
    rw [Bool.and_eq_true] at h
    exact adj_at (l := b :: r) (i := i) h.2 (by simpa using h1) (by simpa using h2)
structure Rw (n : Nat) (l : List (Nat × Nat)) : Prop where
  ad : ∀ {i : Nat} {x y : Nat × Nat}, l[i]? = some x → l[i + 1]? = some y → y.1 * x.2 = x.1 * y.2 + 1 ∧ n < x.2 + y.2 ∧ y.2 ≤ n ∧ x.2 ≤ n ∧ 1 ≤ x.2 ∧ 1 ≤ y.2 ∧ x.1 < x.2
  hd : l[0]? = some (0, 1)
  la : l[l.length - 1]? = some (1, 1)
  le : l.length ≤ 1150
  two : 2 ≤ l.length
  so : srt 12 ((bots l).map key) = (prs n).map key
  su : sumphi n = (prs n).length
  or : ord ((prs n).map key) = true
  b1 : ∀ p ∈ prs n, p.2 < 1000
  b2 : ∀ p ∈ bots l, p.2 < 1000
  nx : phi (n + 1) = ((prs n).filter fun p => decide (p.1 + p.2 = n + 1)).length
theorem row_rw {n : Nat} (h1 : 1 ≤ n) (h2 : n ≤ 60) : Rw n (row n) := by
  have h := chk_all h1 h2
  unfold chk at h
  simp only [Bool.and_eq_true, decide_eq_true_eq] at h
  obtain ⟨⟨⟨o1, o2⟩, o3⟩, ⟨⟨⟨⟨⟨⟨a1, a2⟩, a3⟩, a4⟩, a5⟩, a6⟩, a7⟩, a8⟩ := h
  exact ⟨fun x y => adj_at a1 x y, by rw [← List.head?_eq_getElem?]; exact a2, by rw [← List.getLast?_eq_getElem?]; exact a3, a4, a8, a5, a6, o1, fun p hp => of_decide_eq_true (List.all_eq_true.mp o2 p hp), fun p hp => of_decide_eq_true (List.all_eq_true.mp o3 p hp), a7⟩
/-! the merge sort gives the same ones -/
theorem mrg_perm : ∀ (k : Nat) (a b : List Nat), a.length + b.length ≤ k → (mrg k a b).Perm (a ++ b)
  | 0, a, b, h => by
    have ha : a = [] := List.eq_nil_of_length_eq_zero (by omega)
    have hb : b = [] := List.eq_nil_of_length_eq_zero (by omega)
    subst ha; subst hb; exact List.Perm.refl _
  | k + 1, [], b, _ => List.Perm.refl _
  | k + 1, x :: a, [], _ => by simp [mrg]
  | k + 1, x :: a, y :: b, h => by
    simp only [List.length_cons] at h
    unfold mrg
    split
    · exact (mrg_perm k a (y :: b) (by simp; omega)).cons x
    · exact ((mrg_perm k (x :: a) b (by simp; omega)).cons y).trans (List.perm_middle (l₁ := x :: a) (a := y) (l₂ := b)).symm
theorem halves_perm : ∀ l : List Nat, ((halves l).1 ++ (halves l).2).Perm l
  | [] => List.Perm.refl _
  | x :: r => by
    show ((x :: (halves r).2) ++ (halves r).1).Perm (x :: r)
    exact (List.perm_append_comm.trans (halves_perm r)).cons x
end Wk
set_option Elab.async false
set_option linter.all false
/-! The same, sorted. -/
namespace Wk
open PySem L2
theorem srt_perm : ∀ (k : Nat) (l : List Nat), (srt k l).Perm l
  | 0, l => List.Perm.refl _
  | k + 1, [] => List.Perm.refl _
  | k + 1, [x] => List.Perm.refl _
  | k + 1, x :: y :: r => by
    show (mrg (x :: y :: r).length (srt k (halves (x :: y :: r)).1) (srt k (halves (x :: y :: r)).2)).Perm (x :: y :: r)
    have h1 := srt_perm k (halves (x :: y :: r)).1
    have h2 := srt_perm k (halves (x :: y :: r)).2
    have h3 := halves_perm (x :: y :: r)
    have h4 := h3.length_eq
    rw [List.length_append] at h4
    exact (mrg_perm _ _ _ (by rw [h1.length_eq, h2.length_eq]; omega)).trans ((h1.append h2).trans h3)
theorem ord_pw : ∀ {l : List Nat}, ord l = true → l.Pairwise (· ≤ ·)
  | [], _ => .nil
  | [x], _ => List.pairwise_singleton _ _
  | x :: y :: r, h => by
    unfold ord at h
    rw [Bool.and_eq_true] at h
    have ih := ord_pw h.2
    have h1 := of_decide_eq_true h.1
    rw [List.pairwise_cons]
    refine ⟨fun z hz => ?_, ih⟩
    rcases List.mem_cons.mp hz with e | e
    · subst e; exact h1
    · exact Nat.le_trans h1 ((List.pairwise_cons.mp ih).1 z e)
def toI (p : Nat × Nat) : Int × Int := (p.1, p.2)
def dec (k : Nat) : Int × Int := ((k / 1000 : Nat), (k % 1000 : Nat))
theorem dec_key {p : Nat × Nat} (h : p.2 < 1000) : dec (key p) = toI p := by
  unfold dec key toI
  have h1 : (p.1 * 1000 + p.2) / 1000 = p.1 := by omega
  have h2 : (p.1 * 1000 + p.2) % 1000 = p.2 := by omega
  rw [h1, h2]
theorem map_dec {l : List (Nat × Nat)} (h : ∀ p ∈ l, p.2 < 1000) : (l.map key).map dec = l.map toI := by
  rw [List.map_map]
  exact List.map_congr_left fun p hp => dec_key (h p hp)
theorem lex_anti {x y : Int × Int} (h1 : SrtO.lexB y x = false) (h2 : SrtO.lexB x y = false) : x = y := by
  have a := SrtO.lexB_no.mp h1
  have b := SrtO.lexB_no.mp h2
  exact Prod.ext (by omega) (by omega)
/-- the sorted pairs of bottoms are the pairs -/
theorem sorted_pairs {n : Nat} {l : List (Nat × Nat)} (R : Rw n l) {qs : List (Int × Int)} (hp : qs.Perm ((bots l).map toI)) (hs : qs.Pairwise fun x y => SrtO.lexB y x = false) : qs = (prs n).map toI := by
  have p1 : ((bots l).map key).Perm ((prs n).map key) := by rw [← R.so]; exact (srt_perm _ _).symm
  have p2 := p1.map dec
  rw [map_dec R.b2, map_dec R.b1] at p2
  have s2 : ((prs n).map toI).Pairwise fun x y => SrtO.lexB y x = false := by
    have := ord_pw R.or
    rw [List.pairwise_map] at this ⊢
    refine List.Pairwise.imp_of_mem (fun {x y} hx hy hk => ?_) this
    have h1 := R.b1 x hx
    have h2 := R.b1 y hy
    unfold key at hk
    refine SrtO.lexB_no.mpr ?_
    simp only [toI]
    omega
  exact List.Perm.eq_of_pairwise (fun a b _ _ h1 h2 => lex_anti h1 h2) hs s2 (hp.trans p2)
end Wk
set_option Elab.async false
set_option linter.all false
set_option maxRecDepth 100000
set_option maxHeartbeats 4000000
namespace Wk
open PySem L2
open RZ (ItzT iZipA pi_zipA)
local macro_rules | `(tactic| walk_at "call") => `(tactic| fail)
local macro_rules | `(tactic| walk_at "e1") => `(tactic| first
  | (with_reducible apply ws_seq) | ((with_reducible apply we_var); rfl) | (with_reducible apply we_int) | ((with_reducible apply we_ixO); rfl) | (with_reducible apply we_op)
  | (with_reducible apply wr_add) | (with_reducible apply wr_sub) | (with_reducible apply wr_lt) | (with_reducible apply wr_le) | (with_reducible apply wr_gt) | (with_reducible apply wr_ge) | (with_reducible apply wr_eqI) | (with_reducible apply wr_neI) | (with_reducible apply wr_eqR) | (with_reducible apply wr_neR) | (with_reducible apply wr_isNi) | (with_reducible apply wr_isNt) | (with_reducible apply wr_isNs) | (with_reducible apply wr_isNn) | (with_reducible apply wr_notNi) | (with_reducible apply wr_notNt) | (with_reducible apply wr_notNs) | (with_reducible apply wr_notNn) | (with_reducible apply wr_isN) | (with_reducible apply wr_notN)
  | (with_reducible apply wr_ixT0) | ((with_reducible apply wr_ixT); rfl) | ((with_reducible apply wr_ixL); rfl)
  | (with_reducible apply wa_cons) | (with_reducible apply wa_nil) | (with_reducible apply we_tup)
  | (with_reducible apply wt_test) | (with_reducible apply wt_tr) | (with_reducible apply tr_bool) | (with_reducible apply sp_bool) | (with_reducible apply isT) | (with_reducible apply isF) | (with_reducible apply isNT) | (with_reducible apply isNF)
  | (with_reducible apply ws_newd) | (with_reducible apply ws_newl) | (with_reducible apply ws_dput) | (with_reducible apply ws_setL) | (with_reducible apply ws_asg) | (with_reducible apply wg_name) | (with_reducible apply ws_par) | (with_reducible apply ws_par3) | (with_reducible apply ws_ret) | (with_reducible apply ws_retN) | (with_reducible apply ws_if) | (with_reducible apply ws_next)
  | (with_reducible apply wt_and) | (with_reducible apply wt_or) | (with_reducible apply wt_not) | (with_reducible apply we_andT) | (with_reducible apply we_orT) | (with_reducible apply we_notT) | (with_reducible apply we_if) | (with_reducible apply we_chain)
  | (with_reducible apply we_bl) | (with_reducible apply we_non) | (with_reducible apply we_str)
  | (with_reducible apply we_isi_int) | (with_reducible apply we_isi_bool) | (with_reducible apply we_isi_tuple) | (with_reducible apply we_isi_str) | (with_reducible apply we_call) | ((with_reducible apply we_tupleO); rfl) | ((with_reducible apply we_lenO); rfl) | (with_reducible apply we_cb)
  | (with_reducible apply wc_abs) | (with_reducible apply wc_int) | (with_reducible apply wc_min2) | (with_reducible apply wc_max2) | ((with_reducible apply wc_len); rfl; trivial)
  | ((with_reducible apply wg_tup); rfl) | (with_reducible apply wgs_cons) | (with_reducible apply wgs_nil)
  | (with_reducible apply wo_none) | (with_reducible apply wo_some) | (with_reducible apply we_neg) | ((with_reducible refine' ws_app ?h ?hi); (case hi => exact ⟨_, _, rfl⟩)) | (with_reducible apply ws_drop))
local macro_rules | `(tactic| walk_at "e2") => `(tactic| first
  | ((with_reducible refine' And.intro ?h ?r); (case h => first | exact Nat.le_of_ble_eq_true rfl | omega))
  | ((with_reducible refine' ⟨?a, ?j, ?d, ?e1, ?e2, ?r⟩); (case a => rfl); (case e1 => rfl); (case e2 => first | rfl | with_reducible assumption))
  | ((with_reducible refine' ⟨⟨?o, ?e⟩, ?r⟩); (case e => rfl))
  | ((with_reducible refine' ⟨?p, ?d, ?j, ?m, ?e1, ?e2, ?e3, ?r⟩); (case e1 => rfl); (case e2 => rfl); (case e3 => rfl))
  | ((with_reducible refine' ⟨?w, ?e, ?r⟩); (case e => rfl))
  | ((with_reducible refine' ⟨?w, ?w2, ?e, ?r⟩); (case e => rfl))
  | ((with_reducible refine' ⟨?w, ?w2, ?w3, ?e, ?r⟩); (case e => rfl)))
local macro_rules | `(tactic| walk_at "bd") => `(tactic| first | with_reducible assumption | (with_reducible apply bd_add <;> walk_at "bd") | (with_reducible apply bd_sub <;> walk_at "bd") | (with_reducible apply bd_mul <;> walk_at "bd") | ((with_reducible apply bd_div); walk_at "bd") | ((with_reducible apply bd_mod) <;> first | omega | walk_at "bd") | (with_reducible apply bd_min <;> walk_at "bd") | (with_reducible apply bd_max <;> walk_at "bd") | ((with_reducible apply bd_abs); walk_at "bd") | ((with_reducible apply bd_neg); walk_at "bd") | exact bd_lit (n := 140) (by decide) | exact bd_pos (n := 140) (by omega) (by omega))
local macro_rules | `(tactic| walk_at "n1") => `(tactic| first
  | ((with_reducible apply wr_mulB); (focus (walk_at "bd")); (focus (walk_at "bd")); (focus decide))
  | ((with_reducible apply wr_divB); (focus omega); (focus (walk_at "bd")); (focus decide))
  | ((with_reducible apply wr_mul); (focus (first | exact mulokR (by decide) | exact mulokL (by decide))))
  | ((with_reducible apply wr_mod); (focus omega)) | ((with_reducible apply wr_pow); (focus (exact ⟨by decide, by decide, by decide⟩))))
local macro_rules | `(tactic| walk_at "d1") => `(tactic| first | ((with_reducible apply isDT); (focus (first | with_reducible assumption | omega))) | ((with_reducible apply isDF); (focus omega)) | ((with_reducible apply isNDT); (focus omega)) | ((with_reducible apply isNDF); (focus (first | with_reducible assumption | omega))))
local macro_rules | `(tactic| walk_at "w") => `(tactic| repeat first | walk_at "e1" | walk_at "n1" | walk_at "d1" | walk_at "call" | walk_at "e2")
section
variable {K : Fg}
def isIntD : PyData → Bool | .int _ => true | _ => false
/-! ### basics -/
def S_is_integer : PS1 := fun ds p => ∃ x, ds = [x] ∧ p (.bool (isIntD x))
theorem s_is_integer {x : PyData} {p : PyData → Prop} (q : p (.bool (isIntD x))) : S_is_integer [x] p := ⟨x, rfl, q⟩
theorem s_is_integer_i {x : Int} {p : PyData → Prop} (q : p (.bool true)) : S_is_integer [.int x] p := ⟨_, rfl, q⟩
def N_is_integer : List Str := ["thing"]
def t_is_integer (K : Fg) : TS := (tRet (tAndT K (tCB (rIsi K) (tCons (tVar 0) (tCons (tC (.ty "int")) tNil))) (tNotT K (tCB (rIsi K) (tCons (tVar 0) (tCons (tC (.ty "bool")) tNil))))))
theorem body_is_integer : Body K S_is_integer N_is_integer (t_is_integer K) := by
  rintro ds p ⟨x, rfl, q⟩ C -
  show WS K C _ [.im x] _ _ _ _
  unfold t_is_integer
  walk_at "w"
  cases x with
  | int i => refine isTr ?_ rfl; walk_at "w"; exact q
  | bool b => refine isTr ?_ rfl; walk_at "w"; exact q
  | _ => refine isFr ?_ rfl; exact q
def S_is_within : PS1 := fun ds p => ∃ i lo hi : Int, ds = [.int i, .int lo, .int hi] ∧ p (.bool (decide (lo ≤ i ∧ i ≤ hi)))
theorem s_is_within {i lo hi : Int} {p : PyData → Prop} (q : p (.bool (decide (lo ≤ i ∧ i ≤ hi)))) : S_is_within [.int i, .int lo, .int hi] p := ⟨i, lo, hi, rfl, q⟩
theorem s_is_within_t {i lo hi : Int} {p : PyData → Prop} (h : lo ≤ i ∧ i ≤ hi) (q : p (.bool true)) : S_is_within [.int i, .int lo, .int hi] p := s_is_within (by rw [decide_eq_true h]; exact q)
local macro_rules | `(tactic| walk_at "call") => `(tactic| with_reducible apply s_is_integer_i)
def N_is_within : List Str := ["thing", "low", "high"]
def t_is_within (K : Fg) : TS := (tRet (tAndT K (tCall (spP K S_is_integer) [] E0 (tCons (tVar 0) tNil)) (tChain rLeI rLeI (tVar 1) (tVar 0) (tVar 2))))
theorem body_is_within : Body K S_is_within N_is_within (t_is_within K) := by
  rintro ds p ⟨i, lo, hi, rfl, q⟩ C -
  show WS K C _ [.im (.int i), .im (.int lo), .im (.int hi)] _ _ _ _
  unfold t_is_within
  walk_at "w"
  refine both (fun h => ?_) (fun h => ?_)
  · walk_at "w"
    rw [show decide (i ≤ hi) = decide (lo ≤ i ∧ i ≤ hi) by simp [h]]
    exact q
  · walk_at "w"
    rw [show false = decide (lo ≤ i ∧ i ≤ hi) by simp [h]]
    exact q
/-- of a tuple alone -/
def S_is_sized : PS1 := fun ds p => ∃ (es : List PyData) (lo hi : Int), ds = [.tuple es, .int lo, .int hi] ∧ p (.bool (decide (lo ≤ (es.length : Int) ∧ (es.length : Int) ≤ hi)))
theorem s_is_sized_t {es : List PyData} {lo hi : Int} {p : PyData → Prop} (h : lo ≤ (es.length : Int) ∧ (es.length : Int) ≤ hi) (q : p (.bool true)) : S_is_sized [.tuple es, .int lo, .int hi] p := ⟨es, lo, hi, rfl, by rw [decide_eq_true h]; exact q⟩
def N_is_sized : List Str := ["thing", "low", "high"]
def t_is_sized (K : Fg) : TS := (tRet (tAndT K (tCB (rIsi K) (tCons (tVar 0) (tCons (tC (.ty "tuple")) tNil))) (tChain rLeI rLeI (tVar 1) (tCB (rLen K) (tCons (tVar 0) tNil)) (tVar 2))))
theorem body_is_sized : Body K S_is_sized N_is_sized (t_is_sized K) := by
  rintro ds p ⟨es, lo, hi, rfl, q⟩ C -
  show WS K C _ [.im (.tuple es), .im (.int lo), .im (.int hi)] _ _ _ _
  unfold t_is_sized
  walk_at "w"
  refine isTr ?_ rfl
  walk_at "w"
  refine both (fun h => ?_) (fun h => ?_)
  · walk_at "w"
    rw [show decide ((es.length : Int) ≤ hi) = decide (lo ≤ (es.length : Int) ∧ (es.length : Int) ≤ hi) by simp [h]]
    exact q
  · walk_at "w"
    rw [show false = decide (lo ≤ (es.length : Int) ∧ (es.length : Int) ≤ hi) by simp [h]]
    exact q
/-! the greatest common divisor -/
theorem gcd_turn {a b : Int} (hb : 0 < b) (ha : 0 ≤ a) : Int.gcd b (a % b) = Int.gcd a b := by
  rw [Int.gcd_comm a b]
  have h : Int.gcd b (a % b) = Int.gcd b a := by
    conv => rhs; rw [← Int.emod_add_mul_ediv a b]
    rw [Int.gcd_add_mul_left_right]
  exact h
def S_common : PS1 := fun ds p => ∃ a b : Int, ds = [.int a, .int b] ∧ p (.int (Int.gcd a b))
theorem s_common {a b : Int} {p : PyData → Prop} (q : p (.int (Int.gcd a b))) : S_common [.int a, .int b] p := ⟨a, b, rfl, q⟩
def N_common : List Str := ["one", "other"]
def t_common (K : Fg) : TS := (tSeq (tPar 0 1 (tCons (tCB rAbs (tCons (tVar 0) tNil)) (tCons (tCB rAbs (tCons (tVar 1) tNil)) tNil)))
      (tSeq (tWhile (tTest (tOp rGtI (tVar 1) (tC (.int 0)))) (tPar 0 1 (tCons (tVar 1) (tCons (tOp rModI (tVar 0) (tVar 1)) tNil))))
      (tRet (tVar 0))))
theorem body_common : Body K S_common N_common (t_common K) := by
  rintro ds p ⟨a, b, rfl, q⟩ C -
  show WS K C _ [.im (.int a), .im (.int b)] _ _ _ _
  unfold t_common
  walk_at "w"
  refine ws_while (fun m δ => ∃ x y : Int, δ = [.im (.int x), .im (.int y)] ∧ 0 ≤ x ∧ 0 ≤ y ∧ Int.gcd x y = Int.gcd a b ∧ m = y.toNat) _ ⟨_, _, rfl, by omega, by omega, by simp [Int.gcd], rfl⟩ ?_
  rintro m δ ⟨x, y, rfl, hx, hy, hg, rfl⟩
  walk_at "w"
  refine both (fun h => ?_) (fun h => ?_)
  · walk_at "w"
    have h1 := Int.emod_lt_of_pos x h
    have h2 := Int.emod_nonneg x (by omega : y ≠ 0)
    exact ⟨_, by omega, y, x % y, rfl, hy, h2, by rw [gcd_turn h hx]; exact hg, rfl⟩
  · walk_at "w"
    have : y = 0 := by omega
    subst this
    rw [show x = (Int.gcd a b : Int) by rw [← hg]; simp; omega]
    exact q
/-- a ratio, as the text takes one -/
@[irreducible] def M40 : Int := 10 ^ 40
def RatOK (a b : Int) : Prop := (a.natAbs : Int) < M40 ∧ 0 < b ∧ b < M40 ∧ Int.gcd a b = 1
def rat (a b : Int) : PyData := .tuple [.int a, .int b]
abbrev k_MOST_DIGITS : V := .int M40
def S_is_ratio : PS1 := fun ds p => ∃ a b : Int, ds = [.tuple [.int a, .int b]] ∧ RatOK a b ∧ p (.bool true)
theorem s_is_ratio {a b : Int} {p : PyData → Prop} (h : RatOK a b) (q : p (.bool true)) : S_is_ratio [.tuple [.int a, .int b]] p := ⟨a, b, rfl, h, q⟩
local macro_rules | `(tactic| walk_at "call") => `(tactic| first | with_reducible apply s_is_integer_i | with_reducible apply s_common | ((with_reducible apply s_is_sized_t); (focus (simp; done))) | ((with_reducible apply s_is_within_t); (focus omega)))
def N_is_ratio : List Str := ["thing", "one"]
def t_is_ratio (K : Fg) : TS := (tSeq (tIfS (tOr (tNot (tTr K (tCall (spP K S_is_sized) [] E0 (tCons (tVar 0) (tCons (tC (.int 2)) (tCons (tC (.int 2)) tNil)))))) (tNot (tTr K (tCB (rAll K) (tCons (tLc (iAny K (tVar 0)) (gName 1) tYes (tCall (spP K S_is_integer) [] E0 (tCons (tVar 1) tNil)) [1]) tNil))))) (tRet (tC (.bl false))) tNext)
      (tSeq (tIfS (tOr (tTest (tOp rGeI (tCB rAbs (tCons (tOp (rIx K) (tVar 0) (tC (.int 0))) tNil)) (tC k_MOST_DIGITS))) (tNot (tTest (tChain rLtI rLtI (tC (.int 0)) (tOp (rIx K) (tVar 0) (tC (.int 1))) (tC k_MOST_DIGITS))))) (tRet (tC (.bl false))) tNext)
      (tRet (tOp (rEqD K) (tCall (spP K S_common) [] E0 (tCons (tOp (rIx K) (tVar 0) (tC (.int 0))) (tCons (tOp (rIx K) (tVar 0) (tC (.int 1))) tNil))) (tC (.int 1))))))
theorem body_is_ratio : Body K S_is_ratio N_is_ratio (t_is_ratio K) := by
  rintro ds p ⟨a, b, rfl, ⟨h1, h2, h3, h4⟩, q⟩ C -
  show WS K C _ [.im (.tuple [.int a, .int b]), .un] _ _ _ _
  unfold t_is_ratio
  walk_at "w"
  refine we_map (wi_tup ?_)
  walk_at "w"
  refine ⟨fun _ => .bool true, fun d hd => wgv_name (by decide) ?_, by simp, ?_⟩
  · have : ∃ i, d = .int i := by
      simp only [List.mem_cons, List.not_mem_nil, or_false] at hd
      rcases hd with rfl | rfl <;> exact ⟨_, rfl⟩
    obtain ⟨i, rfl⟩ := this
    walk_at "w"
    exact ⟨rfl, rfl⟩
  walk_at "w"
  refine wc_allT (by simp) ?_
  walk_at "w"
  rw [h4]
  exact q
def S_check_ratio : PS1 := fun ds p => ∃ a b : Int, ds = [.tuple [.int a, .int b]] ∧ RatOK a b ∧ p .none
theorem s_check_ratio {a b : Int} {p : PyData → Prop} (h : RatOK a b) (q : p .none) : S_check_ratio [.tuple [.int a, .int b]] p := ⟨a, b, rfl, h, q⟩
local macro_rules | `(tactic| walk_at "call") => `(tactic| first | with_reducible apply s_is_integer_i | with_reducible apply s_common | ((with_reducible apply s_is_sized_t); (focus (simp; done))) | ((with_reducible apply s_is_within_t); (focus omega)) | ((with_reducible apply s_is_ratio); (focus (with_reducible assumption))) | ((with_reducible apply s_check_ratio); (focus (with_reducible assumption))))
def N_check_ratio : List Str := ["thing"]
def t_check_ratio (K : Fg) : TS := (tIfS (tNot (tTr K (tCall (spP K S_is_ratio) [] E0 (tCons (tVar 0) tNil)))) tNever tNext)
theorem body_check_ratio : Body K S_check_ratio N_check_ratio (t_check_ratio K) := by
  rintro ds p ⟨a, b, rfl, h, q⟩ C -
  show WS K C _ [.im (.tuple [.int a, .int b])] _ _ _ _
  unfold t_check_ratio
  walk_at "w"
  exact q
theorem gcd_le_r {a b : Int} (hb : 0 < b) : 0 < (Int.gcd a b : Int) ∧ (Int.gcd a b : Int) ≤ b := by
  have h1 : (Int.gcd a b : Int) ∣ b := Int.gcd_dvd_right a b
  have h2 : 0 < Int.gcd a b := Int.gcd_pos_of_ne_zero_right a (by omega)
  exact ⟨by omega, Int.le_of_dvd hb h1⟩
/-- in lowest terms -/
def S_made : PS1 := fun ds p => ∃ a b : Int, ds = [.int a, .int b] ∧ 0 < b ∧ Bd 7000 b ∧ p (.tuple [.int (a / Int.gcd a b), .int (b / Int.gcd a b)])
theorem s_made {n : Nat} {a b : Int} {p : PyData → Prop} (h : 0 < b) (hb : Bd n b) (hn : n ≤ 7000) (q : p (.tuple [.int (a / Int.gcd a b), .int (b / Int.gcd a b)])) : S_made [.int a, .int b] p := ⟨a, b, rfl, h, hb.up hn, q⟩
def N_made : List Str := ["top", "bottom", "part"]
def t_made (K : Fg) : TS := (tSeq (tAsg (tCall (spP K S_common) [] E0 (tCons (tVar 0) (tCons (tVar 1) tNil))) (gName 2))
      (tSeq (tAsg (tIf (tTest (tOp rGtI (tVar 1) (tC (.int 0)))) (tVar 2) (tOp rSubI (tC (.int 0)) (tVar 2))) (gName 2))
      (tRet (tTup (tCons (tOp rDivI (tVar 0) (tVar 2)) (tCons (tOp rDivI (tVar 1) (tVar 2)) tNil))))))
theorem body_made : Body K S_made N_made (t_made K) := by
  rintro ds p ⟨a, b, rfl, h, hb, q⟩ C -
  show WS K C _ [.im (.int a), .im (.int b), .un] _ _ _ _
  unfold t_made
  obtain ⟨g1, g2⟩ := gcd_le_r (a := a) h
  have hg : Bd 7000 (Int.gcd a b : Int) := bd_le hb (by omega) g2
  walk_at "w"
  exact q
/-- one over bottom, or other: cross sums and differences -/
def S_minus : PS1 := fun ds p => ∃ a b c d : Int, ds = [.tuple [.int a, .int b], .tuple [.int c, .int d]] ∧ 0 < b ∧ 0 < d ∧ (Bd 1000 a ∧ Bd 1000 b ∧ Bd 1000 c ∧ Bd 1000 d) ∧
  p (.tuple [.int ((a * d - c * b) / Int.gcd (a * d - c * b) (b * d)), .int ((b * d) / Int.gcd (a * d - c * b) (b * d))])
theorem s_minus {a b c d : Int} {p : PyData → Prop} (h : 0 < b ∧ 0 < d) (hb : Bd 1000 a ∧ Bd 1000 b ∧ Bd 1000 c ∧ Bd 1000 d) (q : p (.tuple [.int ((a * d - c * b) / Int.gcd (a * d - c * b) (b * d)), .int ((b * d) / Int.gcd (a * d - c * b) (b * d))])) :
  S_minus [.tuple [.int a, .int b], .tuple [.int c, .int d]] p := ⟨a, b, c, d, rfl, h.1, h.2, hb, q⟩
def N_minus : List Str := ["one", "other"]
def t_minus (K : Fg) : TS := (tRet (tCall (spP K S_made) [] E0 (tCons (tOp rSubI (tOp rMulI (tOp (rIx K) (tVar 0) (tC (.int 0))) (tOp (rIx K) (tVar 1) (tC (.int 1)))) (tOp rMulI (tOp (rIx K) (tVar 1) (tC (.int 0))) (tOp (rIx K) (tVar 0) (tC (.int 1))))) (tCons (tOp rMulI (tOp (rIx K) (tVar 0) (tC (.int 1))) (tOp (rIx K) (tVar 1) (tC (.int 1)))) tNil))))
theorem body_minus : Body K S_minus N_minus (t_minus K) := by
  rintro ds p ⟨a, b, c, d, rfl, hb, hd, ⟨h1, h2, h3, h4⟩, q⟩ C -
  show WS K C _ [.im (.tuple [.int a, .int b]), .im (.tuple [.int c, .int d])] _ _ _ _
  unfold t_minus
  walk_at "w"
  refine s_made (Int.mul_pos hb hd) (bd_mul h2 h4) (by decide) ?_
  exact q
def S_is_less : PS1 := fun ds p => ∃ a b c d : Int, ds = [.tuple [.int a, .int b], .tuple [.int c, .int d]] ∧ (Bd 1000 a ∧ Bd 1000 b ∧ Bd 1000 c ∧ Bd 1000 d) ∧ p (.bool (decide (a * d < c * b)))
theorem s_is_less {a b c d : Int} {p : PyData → Prop} (hb : Bd 1000 a ∧ Bd 1000 b ∧ Bd 1000 c ∧ Bd 1000 d) (q : p (.bool (decide (a * d < c * b)))) : S_is_less [.tuple [.int a, .int b], .tuple [.int c, .int d]] p := ⟨a, b, c, d, rfl, hb, q⟩
def N_is_less : List Str := ["one", "other"]
def t_is_less (K : Fg) : TS := (tRet (tOp rLtI (tOp rMulI (tOp (rIx K) (tVar 0) (tC (.int 0))) (tOp (rIx K) (tVar 1) (tC (.int 1)))) (tOp rMulI (tOp (rIx K) (tVar 1) (tC (.int 0))) (tOp (rIx K) (tVar 0) (tC (.int 1))))))
theorem body_is_less : Body K S_is_less N_is_less (t_is_less K) := by
  rintro ds p ⟨a, b, c, d, rfl, ⟨h1, h2, h3, h4⟩, q⟩ C -
  show WS K C _ [.im (.tuple [.int a, .int b]), .im (.tuple [.int c, .int d])] _ _ _ _
  unfold t_is_less
  walk_at "w"
  exact q
def S_gap_of : PS1 := fun ds p => ∃ a b c d : Int, ds = [.tuple [.int a, .int b], .tuple [.int c, .int d]] ∧ 0 < b ∧ 0 < d ∧ (Bd 1000 a ∧ Bd 1000 b ∧ Bd 1000 c ∧ Bd 1000 d) ∧
  p (.tuple [.int (((a * d - c * b) / Int.gcd (a * d - c * b) (b * d)).natAbs : Int), .int ((b * d) / Int.gcd (a * d - c * b) (b * d))])
theorem s_gap_of {a b c d : Int} {p : PyData → Prop} (h : 0 < b ∧ 0 < d) (hb : Bd 1000 a ∧ Bd 1000 b ∧ Bd 1000 c ∧ Bd 1000 d) (q : p (.tuple [.int (((a * d - c * b) / Int.gcd (a * d - c * b) (b * d)).natAbs : Int), .int ((b * d) / Int.gcd (a * d - c * b) (b * d))])) :
  S_gap_of [.tuple [.int a, .int b], .tuple [.int c, .int d]] p := ⟨a, b, c, d, rfl, h.1, h.2, hb, q⟩
def N_gap_of : List Str := ["one", "other", "top", "bottom"]
def t_gap_of (K : Fg) : TS := (tSeq (tAsg (tCall (spP K S_minus) [] E0 (tCons (tVar 0) (tCons (tVar 1) tNil))) (gTup K 2 (gCons (gName 2) (gCons (gName 3) gNil))))
      (tRet (tTup (tCons (tCB rAbs (tCons (tVar 2) tNil)) (tCons (tVar 3) tNil)))))
theorem body_gap_of : Body K S_gap_of N_gap_of (t_gap_of K) := by
  rintro ds p ⟨a, b, c, d, rfl, hb, hd, h, q⟩ C -
  show WS K C _ [.im (.tuple [.int a, .int b]), .im (.tuple [.int c, .int d]), .un, .un] _ _ _ _
  unfold t_gap_of
  walk_at "w"
  refine s_minus ⟨hb, hd⟩ h ?_
  walk_at "w"
  exact q
end
end Wk
set_option Elab.async false
set_option linter.all false
set_option maxRecDepth 100000
set_option maxHeartbeats 4000000
/-! The law's own helpers: hand, draw, any, gcd. -/
namespace Wk
open PySem L2
open RZ (ItzT iZipA pi_zipA)
local macro_rules | `(tactic| walk_at "call") => `(tactic| fail)
local macro_rules | `(tactic| walk_at "e1") => `(tactic| first
  | (with_reducible apply ws_seq) | ((with_reducible apply we_var); rfl) | (with_reducible apply we_int) | ((with_reducible apply we_ixO); rfl) | (with_reducible apply we_op)
  | (with_reducible apply wr_add) | (with_reducible apply wr_sub) | (with_reducible apply wr_lt) | (with_reducible apply wr_le) | (with_reducible apply wr_gt) | (with_reducible apply wr_ge) | (with_reducible apply wr_eqI) | (with_reducible apply wr_neI) | (with_reducible apply wr_eqR) | (with_reducible apply wr_neR) | (with_reducible apply wr_isNi) | (with_reducible apply wr_isNt) | (with_reducible apply wr_isNs) | (with_reducible apply wr_isNn) | (with_reducible apply wr_notNi) | (with_reducible apply wr_notNt) | (with_reducible apply wr_notNs) | (with_reducible apply wr_notNn) | (with_reducible apply wr_isN) | (with_reducible apply wr_notN)
  | (with_reducible apply wr_ixT0) | ((with_reducible apply wr_ixT); rfl) | ((with_reducible apply wr_ixL); rfl)
  | (with_reducible apply wa_cons) | (with_reducible apply wa_nil) | (with_reducible apply we_tup)
  | (with_reducible apply wt_test) | (with_reducible apply wt_tr) | (with_reducible apply tr_bool) | (with_reducible apply sp_bool) | (with_reducible apply isT) | (with_reducible apply isF) | (with_reducible apply isNT) | (with_reducible apply isNF)
  | (with_reducible apply ws_newd) | (with_reducible apply ws_newl) | (with_reducible apply ws_dput) | (with_reducible apply ws_setL) | (with_reducible apply ws_asg) | (with_reducible apply wg_name) | (with_reducible apply ws_par) | (with_reducible apply ws_par3) | (with_reducible apply ws_ret) | (with_reducible apply ws_retN) | (with_reducible apply ws_if) | (with_reducible apply ws_next)
  | (with_reducible apply wt_and) | (with_reducible apply wt_or) | (with_reducible apply wt_not) | (with_reducible apply we_andT) | (with_reducible apply we_orT) | (with_reducible apply we_notT) | (with_reducible apply we_if) | (with_reducible apply we_chain)
  | (with_reducible apply we_bl) | (with_reducible apply we_non) | (with_reducible apply we_str)
  | (with_reducible apply we_isi_int) | (with_reducible apply we_isi_bool) | (with_reducible apply we_isi_tuple) | (with_reducible apply we_isi_str) | (with_reducible apply we_call) | ((with_reducible apply we_tupleO); rfl) | ((with_reducible apply we_lenO); rfl) | (with_reducible apply we_cb)
  | (with_reducible apply wc_abs) | (with_reducible apply wc_int) | (with_reducible apply wc_min2) | (with_reducible apply wc_max2) | ((with_reducible apply wc_len); rfl; trivial)
  | ((with_reducible apply wg_tup); rfl) | (with_reducible apply wgs_cons) | (with_reducible apply wgs_nil)
  | (with_reducible apply wo_none) | (with_reducible apply wo_some) | (with_reducible apply we_neg) | ((with_reducible refine' ws_app ?h ?hi); (case hi => exact ⟨_, _, rfl⟩)) | (with_reducible apply ws_drop))
local macro_rules | `(tactic| walk_at "e2") => `(tactic| first
  | ((with_reducible refine' And.intro ?h ?r); (case h => first | exact Nat.le_of_ble_eq_true rfl | omega))
  | ((with_reducible refine' ⟨?a, ?j, ?d, ?e1, ?e2, ?r⟩); (case a => rfl); (case e1 => rfl); (case e2 => first | rfl | with_reducible assumption))
  | ((with_reducible refine' ⟨⟨?o, ?e⟩, ?r⟩); (case e => rfl))
  | ((with_reducible refine' ⟨?p, ?d, ?j, ?m, ?e1, ?e2, ?e3, ?r⟩); (case e1 => rfl); (case e2 => rfl); (case e3 => rfl))
  | ((with_reducible refine' ⟨?w, ?e, ?r⟩); (case e => rfl))
  | ((with_reducible refine' ⟨?w, ?w2, ?e, ?r⟩); (case e => rfl))
  | ((with_reducible refine' ⟨?w, ?w2, ?w3, ?e, ?r⟩); (case e => rfl)))
local macro_rules | `(tactic| walk_at "bd") => `(tactic| first | with_reducible assumption | (with_reducible apply bd_add <;> walk_at "bd") | (with_reducible apply bd_sub <;> walk_at "bd") | (with_reducible apply bd_mul <;> walk_at "bd") | ((with_reducible apply bd_div); walk_at "bd") | ((with_reducible apply bd_mod) <;> first | omega | walk_at "bd") | (with_reducible apply bd_min <;> walk_at "bd") | (with_reducible apply bd_max <;> walk_at "bd") | ((with_reducible apply bd_abs); walk_at "bd") | ((with_reducible apply bd_neg); walk_at "bd") | exact bd_lit (n := 140) (by decide) | exact bd_pos (n := 140) (by omega) (by omega))
local macro_rules | `(tactic| walk_at "n1") => `(tactic| first
  | ((with_reducible apply wr_mulB); (focus (walk_at "bd")); (focus (walk_at "bd")); (focus decide))
  | ((with_reducible apply wr_divB); (focus omega); (focus (walk_at "bd")); (focus decide))
  | ((with_reducible apply wr_mul); (focus (first | exact mulokR (by decide) | exact mulokL (by decide))))
  | ((with_reducible apply wr_mod); (focus omega)) | ((with_reducible apply wr_pow); (focus (exact ⟨by decide, by decide, by decide⟩))))
local macro_rules | `(tactic| walk_at "d1") => `(tactic| first | ((with_reducible apply isDT); (focus (first | with_reducible assumption | omega))) | ((with_reducible apply isDF); (focus omega)) | ((with_reducible apply isNDT); (focus omega)) | ((with_reducible apply isNDF); (focus (first | with_reducible assumption | omega))))
local macro_rules | `(tactic| walk_at "w") => `(tactic| repeat first | walk_at "e1" | walk_at "n1" | walk_at "d1" | walk_at "call" | walk_at "e2")
section
variable {K : Fg}
/-- the hand: cells, a place, three numbers -/
def HandOK (h : List PyData) : Prop := ∃ (cs : List Int) (i : Nat) (x y z : Int), h = [.list (cs.map .int), .int (i : Int), .int x, .int y, .int z]
/-- a number below many -/
def S__law_draw : PS2 := fun hs ds p => ∃ m : Int, ds = [.int m] ∧ HandOK hs ∧ 0 < m ∧ Bd 8000 m ∧ ∀ (d : Int) hs', 0 ≤ d → d < m → HandOK hs' → p (.int d) hs'
def N__law_draw : List Str := ["hand", "many", "cell", "digit", "mixed_here"]
def t__law_draw (K : Fg) : TS := (tSeq (tIfS (tAnd (tTest (tOp (rEqD K) (tOp (rIx K) (tVar 0) (tC (.int 2))) (tC (.int 0)))) (tTest (tOp rLtI (tOp (rIx K) (tVar 0) (tC (.int 1))) (tCB (rLen K) (tCons (tOp (rIx K) (tVar 0) (tC (.int 0))) tNil))))) (tSeq (tAsg (tOp (rIx K) (tOp (rIx K) (tVar 0) (tC (.int 0))) (tOp (rIx K) (tVar 0) (tC (.int 1)))) (gName 2))
      (tSeq (tAsg (tOp rAddI (tOp (rIx K) (tVar 0) (tC (.int 1))) (tC (.int 1))) (gSub (tVar 0) (tC (.int 1)) rSetL))
      (tSeq (tAsg (tOp rModI (tCB rInt1 (tCons (tOp rAddI (tOp rAddI (tOp rMulI (tOp (rIx K) (tVar 0) (tC (.int 3))) (tC (.int 69621))) (tOp rMulI (tVar 2) (tC (.int 40692)))) (tC (.int 31))) tNil)) (tC (.int 2147483629))) (gSub (tVar 0) (tC (.int 3)) rSetL))
      (tIfS (tTest (tOp rGeI (tVar 2) (tOp rPowI (tC (.int 10)) (tC (.int 18))))) (tAsg (tVar 2) (gSub (tVar 0) (tC (.int 2)) rSetL)) tNext)))) tNext)
      (tSeq (tIfS (tTest (tOp rGtI (tOp (rIx K) (tVar 0) (tC (.int 2))) (tC (.int 0)))) (tSeq (tAsg (tOp rModI (tCB rInt1 (tCons (tOp (rIx K) (tVar 0) (tC (.int 2))) tNil)) (tVar 1)) (gName 3))
      (tSeq (tAsg (tOp rDivI (tOp (rIx K) (tVar 0) (tC (.int 2))) (tVar 1)) (gSub (tVar 0) (tC (.int 2)) rSetL))
      (tRet (tVar 3)))) tNext)
      (tSeq (tAsg (tOp rAddI (tOp (rIx K) (tVar 0) (tC (.int 4))) (tC (.int 1))) (gSub (tVar 0) (tC (.int 4)) rSetL))
      (tSeq (tAsg (tOp rModI (tCB rInt1 (tCons (tOp rMulI (tCB rInt1 (tCons (tOp rAddI (tOp (rIx K) (tVar 0) (tC (.int 3))) (tOp rMulI (tC (.int 7919)) (tOp (rIx K) (tVar 0) (tC (.int 4))))) tNil)) (tC (.int 48271))) tNil)) (tC (.int 2147483647))) (gName 4))
      (tSeq (tAsg (tOp rModI (tCB rInt1 (tCons (tOp rMulI (tVar 4) (tOp rAddI (tOp rDivI (tVar 4) (tC (.int 1009))) (tC (.int 69621)))) tNil)) (tC (.int 2147483647))) (gName 4))
      (tSeq (tAsg (tOp rModI (tCB rInt1 (tCons (tOp rMulI (tVar 4) (tOp rAddI (tOp rDivI (tVar 4) (tC (.int 2003))) (tC (.int 40014)))) tNil)) (tC (.int 2147483563))) (gName 4))
      (tRet (tOp rModI (tCB rInt1 (tCons (tOp rDivI (tVar 4) (tC (.int 16))) tNil)) (tVar 1)))))))))
theorem body__law_draw : BodyH K S__law_draw N__law_draw (t__law_draw K) := by
  rintro ha hs ds p ⟨m, rfl, ⟨cs, i, x, y, z, rfl⟩, hm, hb, q⟩ C
  have fin : ∀ (v : Int) hs', HandOK hs' → p (.int (v % m)) hs' := fun v hs' h => q _ hs' (Int.emod_nonneg v (by omega)) (Int.emod_lt_of_pos v hm) h
  show WS K C _ [.ow (.lst (some ha) [.list (cs.map .int), .int (i : Int), .int x, .int y, .int z]), .im (.int m), .un, .un, .un] _ _ _ _
  unfold t__law_draw
  refine ws_cut (fun δ => ∃ (c : SV) (i : Nat) (x y z : Int), δ = [.ow (.lst (some ha) [.list (cs.map .int), .int (i : Int), .int x, .int y, .int z]), .im (.int m), c, .un, .un]) ?_ ?_
  · walk_at "w"
    refine both (fun h => ?_) (fun h => ?_)
    · walk_at "w"
      refine both (fun h1 => ?_) (fun h1 => ?_)
      · simp only [List.length_map] at h1
        have hi : i < cs.length := by omega
        have hc : atI (cs.map PyData.int) (i : Int) = some (.int cs[i]) := atI_nat (by rw [List.getElem?_map, List.getElem?_eq_getElem hi]; rfl)
        walk_at "w"
        refine wr_ixL hc ?_
        walk_at "w"
        refine both (fun h2 => ?_) (fun h2 => ?_)
        · walk_at "w"
          exact ⟨_, i + 1, _, _, _, rfl⟩
        · walk_at "w"
          exact ⟨_, i + 1, _, _, _, rfl⟩
      · walk_at "w"
        exact ⟨_, _, _, _, _, rfl⟩
    · walk_at "w"
      exact ⟨_, _, _, _, _, rfl⟩
  · rintro δ ⟨c, i, x, y, z, rfl⟩
    walk_at "w"
    refine both (fun h => ?_) (fun h => ?_)
    · walk_at "w"
      exact fin _ _ ⟨cs, i, _, y, z, rfl⟩
    · walk_at "w"
      exact fin _ _ ⟨cs, i, _, _, _, rfl⟩
theorem s_draw {hs : List PyData} {m : Int} {p : PyData → List PyData → Prop} (hh : HandOK hs) (hm : 0 < m) {n : Nat} (hb : Bd n m) (hn : n ≤ 8000) (q : ∀ (d : Int) hs', 0 ≤ d → d < m → HandOK hs' → p (.int d) hs') : S__law_draw hs [.int m] p := ⟨m, rfl, hh, hm, hb.up hn, q⟩
/-- one of some, by a draw -/
def S__law_any : PS2 := fun hs ds p => ∃ es : List PyData, ds = [.list es] ∧ HandOK hs ∧ es ≠ [] ∧ es.length ≤ 5000 ∧ ∀ d hs', d ∈ es → HandOK hs' → p d hs'
theorem s_any {hs es : List PyData} {p : PyData → List PyData → Prop} (hh : HandOK hs) (he : es ≠ []) (hl : es.length ≤ 5000) (q : ∀ d hs', d ∈ es → HandOK hs' → p d hs') : S__law_any hs [.list es] p := ⟨es, rfl, hh, he, hl, q⟩
def N__law_any : List Str := ["hand", "some"]
def t__law_any (K : Fg) : TS := (tRet (tOp (rIx K) (tVar 1) (tCall (spH K S__law_draw) [] E0 (tCons (tVar 0) (tCons (tCB (rLen K) (tCons (tVar 1) tNil)) tNil)))))
theorem body__law_any : BodyH K S__law_any N__law_any (t__law_any K) := by
  rintro ha hs ds p ⟨es, rfl, hh, he, hl, q⟩ C
  show WS K C _ [.ow (.lst (some ha) hs), .im (.list es)] _ _ _ _
  unfold t__law_any
  have hpos : 0 < es.length := List.length_pos_iff.mpr he
  walk_at "w"
  refine we_callH ?_ ⟨_, rfl⟩
  walk_at "w"
  refine s_draw hh (by omega) (n := 20) (show Bd 20 ((es.length : Nat) : Int) by unfold Bd; omega) (by decide) fun d hs' h0 h1 hh' => ?_
  walk_at "w"
  have hd : d.toNat < es.length := by omega
  have hx : atI es d = some es[d.toNat] := by
    have := atI_nat (xs := es) (j := d.toNat) (v := es[d.toNat]) (List.getElem?_eq_getElem hd)
    rwa [Int.toNat_of_nonneg h0] at this
  refine wr_ixL hx ?_
  walk_at "w"
  exact q _ _ (List.getElem_mem hd) hh'
def S__law_gcd : PS1 := S_common
def N__law_gcd : List Str := ["one", "other"]
def t__law_gcd (K : Fg) : TS := (tSeq (tPar 0 1 (tCons (tCB rAbs (tCons (tVar 0) tNil)) (tCons (tCB rAbs (tCons (tVar 1) tNil)) tNil)))
      (tSeq (tWhile (tTest (tOp rGtI (tVar 1) (tC (.int 0)))) (tPar 0 1 (tCons (tVar 1) (tCons (tOp rModI (tCB rInt1 (tCons (tVar 0) tNil)) (tVar 1)) tNil))))
      (tRet (tVar 0))))
theorem body__law_gcd : Body K S__law_gcd N__law_gcd (t__law_gcd K) := by
  rintro ds p ⟨a, b, rfl, q⟩ C -
  show WS K C _ [.im (.int a), .im (.int b)] _ _ _ _
  unfold t__law_gcd
  walk_at "w"
  refine ws_while (fun m δ => ∃ x y : Int, δ = [.im (.int x), .im (.int y)] ∧ 0 ≤ x ∧ 0 ≤ y ∧ Int.gcd x y = Int.gcd a b ∧ m = y.toNat) _ ⟨_, _, rfl, by omega, by omega, by simp [Int.gcd], rfl⟩ ?_
  rintro m δ ⟨x, y, rfl, hx, hy, hg, rfl⟩
  walk_at "w"
  refine both (fun h => ?_) (fun h => ?_)
  · walk_at "w"
    have h1 := Int.emod_lt_of_pos x h
    have h2 := Int.emod_nonneg x (by omega : y ≠ 0)
    exact ⟨_, by omega, y, x % y, rfl, hy, h2, by rw [gcd_turn h hx]; exact hg, rfl⟩
  · walk_at "w"
    have : y = 0 := by omega
    subst this
    rw [show x = (Int.gcd a b : Int) by rw [← hg]; simp; omega]
    exact q
/-- the hand of a script -/
def S__law_hand : PS3 := fun ds p => ∃ ns : List Int, ds = [.list (ns.map .int)] ∧ ns.length ≤ 63 ∧ ∀ h, HandOK h → p h
def N__law_hand : List Str := ["script", "cells", "cell"]
def t__law_hand (K : Fg) : TS := (tSeq (tAsg (tLc (iAny K (tSl (rSlA K) (tVar 0) tNoPart (tPart (tC (.int 63))))) (gName 2) tYes (tCB rAbs (tCons (tCB rInt1 (tCons (tVar 2) tNil)) tNil)) [2]) (gName 1))
      (tRet (tLst (tCons (tVar 1) (tCons (tC (.int 0)) (tCons (tC (.int 0)) (tCons (tOp rAddI (tC (.int 98511)) (tOp rMulI (tC (.int 7)) (tCB (rLen K) (tCons (tVar 1) tNil)))) (tCons (tC (.int 0)) tNil))))))))
theorem body__law_hand : BodyN K S__law_hand N__law_hand (t__law_hand K) := by
  refine bodyN_of ?_
  rintro ds p ⟨ns, rfl, hl, q⟩ C
  show WS K C _ [.im (.list (ns.map .int)), .un, .un] _ _ _ _
  walk_at "w"
  refine we_map (wi_list ?_)
  refine we_new (wn_sl ?_)
  walk_at "w"
  have hc : ∃ ms : List Int, cutD (ns.map PyData.int) none (some 63) = ms.map .int ∧ ms.length ≤ 63 := by
    refine ⟨(ns.drop (HT.sIx (ns.map PyData.int).length 0 none)).take (HT.sIx (ns.map PyData.int).length (ns.map PyData.int).length (some 63) - HT.sIx (ns.map PyData.int).length 0 none), ?_, ?_⟩
    · unfold cutD; rw [List.map_take, List.map_drop]
    · simp only [List.length_take, List.length_drop]; omega
  obtain ⟨ms, hc, hml⟩ := hc
  rw [hc]
  refine ⟨fun d => match d with | .int i => .int (i.natAbs : Int) | d => d, fun d hd => wgv_name (by decide) ?_, by simp; omega, ?_⟩
  · obtain ⟨i, _, rfl⟩ := List.mem_map.mp hd
    walk_at "w"
    exact ⟨rfl, rfl⟩
  walk_at "w"
  refine wn_lst ?_
  walk_at "w"
  refine q _ ?_
  have hm : ∀ (f : PyData → PyData), (∀ i, f (.int i) = .int (i.natAbs : Int)) → (ms.map PyData.int).map f = (ms.map (fun i => (i.natAbs : Int))).map .int := fun f hf => by
    rw [List.map_map, List.map_map]
    exact List.map_congr_left fun i _ => hf i
  rw [hm _ fun i => rfl]
  exact ⟨ms.map (fun i => (i.natAbs : Int)), 0, 0, _, 0, rfl⟩
end
end Wk
set_option Elab.async false
set_option linter.all false
set_option maxRecDepth 100000
set_option maxHeartbeats 4000000
/-! The defs of law k04. -/
namespace Wk
open PySem L2
open RZ (ItzT iZipA pi_zipA)
local macro_rules | `(tactic| walk_at "call") => `(tactic| fail)
local macro_rules | `(tactic| walk_at "e1") => `(tactic| first
  | (with_reducible apply ws_seq) | ((with_reducible apply we_var); rfl) | (with_reducible apply we_int) | ((with_reducible apply we_ixO); rfl) | (with_reducible apply we_op)
  | (with_reducible apply wr_add) | (with_reducible apply wr_sub) | (with_reducible apply wr_lt) | (with_reducible apply wr_le) | (with_reducible apply wr_gt) | (with_reducible apply wr_ge) | (with_reducible apply wr_eqI) | (with_reducible apply wr_neI) | (with_reducible apply wr_eqR) | (with_reducible apply wr_neR) | (with_reducible apply wr_isNi) | (with_reducible apply wr_isNt) | (with_reducible apply wr_isNs) | (with_reducible apply wr_isNn) | (with_reducible apply wr_notNi) | (with_reducible apply wr_notNt) | (with_reducible apply wr_notNs) | (with_reducible apply wr_notNn) | (with_reducible apply wr_isN) | (with_reducible apply wr_notN)
  | (with_reducible apply wr_ixT0) | ((with_reducible apply wr_ixT); rfl) | ((with_reducible apply wr_ixL); rfl)
  | (with_reducible apply wa_cons) | (with_reducible apply wa_nil) | (with_reducible apply we_tup)
  | (with_reducible apply wt_test) | (with_reducible apply wt_tr) | (with_reducible apply tr_bool) | (with_reducible apply sp_bool) | (with_reducible apply isT) | (with_reducible apply isF) | (with_reducible apply isNT) | (with_reducible apply isNF)
  | (with_reducible apply ws_newd) | (with_reducible apply ws_newl) | (with_reducible apply ws_dput) | (with_reducible apply ws_setL) | (with_reducible apply ws_asg) | (with_reducible apply wg_name) | (with_reducible apply ws_par) | (with_reducible apply ws_par3) | (with_reducible apply ws_ret) | (with_reducible apply ws_retN) | (with_reducible apply ws_if) | (with_reducible apply ws_next)
  | (with_reducible apply wt_and) | (with_reducible apply wt_or) | (with_reducible apply wt_not) | (with_reducible apply we_andT) | (with_reducible apply we_orT) | (with_reducible apply we_notT) | (with_reducible apply we_if) | (with_reducible apply we_chain)
  | (with_reducible apply we_bl) | (with_reducible apply we_non) | (with_reducible apply we_str)
  | (with_reducible apply we_isi_int) | (with_reducible apply we_isi_bool) | (with_reducible apply we_isi_tuple) | (with_reducible apply we_isi_str) | (with_reducible apply we_call) | ((with_reducible apply we_tupleO); rfl) | ((with_reducible apply we_lenO); rfl) | (with_reducible apply we_cb)
  | (with_reducible apply wc_abs) | (with_reducible apply wc_int) | (with_reducible apply wc_min2) | (with_reducible apply wc_max2) | ((with_reducible apply wc_len); rfl; trivial)
  | ((with_reducible apply wg_tup); rfl) | (with_reducible apply wgs_cons) | (with_reducible apply wgs_nil)
  | (with_reducible apply wo_none) | (with_reducible apply wo_some) | (with_reducible apply we_neg) | ((with_reducible refine' ws_app ?h ?hi); (case hi => exact ⟨_, _, rfl⟩)) | (with_reducible apply ws_drop))
local macro_rules | `(tactic| walk_at "e2") => `(tactic| first
  | ((with_reducible refine' And.intro ?h ?r); (case h => first | exact Nat.le_of_ble_eq_true rfl | omega))
  | ((with_reducible refine' ⟨?a, ?j, ?d, ?e1, ?e2, ?r⟩); (case a => rfl); (case e1 => rfl); (case e2 => first | rfl | with_reducible assumption))
  | ((with_reducible refine' ⟨⟨?o, ?e⟩, ?r⟩); (case e => rfl))
  | ((with_reducible refine' ⟨?p, ?d, ?j, ?m, ?e1, ?e2, ?e3, ?r⟩); (case e1 => rfl); (case e2 => rfl); (case e3 => rfl))
  | ((with_reducible refine' ⟨?w, ?e, ?r⟩); (case e => rfl))
  | ((with_reducible refine' ⟨?w, ?w2, ?e, ?r⟩); (case e => rfl))
  | ((with_reducible refine' ⟨?w, ?w2, ?w3, ?e, ?r⟩); (case e => rfl)))
local macro_rules | `(tactic| walk_at "bd") => `(tactic| first | with_reducible assumption | (with_reducible apply bd_add <;> walk_at "bd") | (with_reducible apply bd_sub <;> walk_at "bd") | (with_reducible apply bd_mul <;> walk_at "bd") | ((with_reducible apply bd_div); walk_at "bd") | ((with_reducible apply bd_mod) <;> first | omega | walk_at "bd") | (with_reducible apply bd_min <;> walk_at "bd") | (with_reducible apply bd_max <;> walk_at "bd") | ((with_reducible apply bd_abs); walk_at "bd") | ((with_reducible apply bd_neg); walk_at "bd") | exact bd_lit (n := 140) (by decide) | exact bd_pos (n := 140) (by omega) (by omega))
local macro_rules | `(tactic| walk_at "n1") => `(tactic| first
  | ((with_reducible apply wr_mulB); (focus (walk_at "bd")); (focus (walk_at "bd")); (focus decide))
  | ((with_reducible apply wr_divB); (focus omega); (focus (walk_at "bd")); (focus decide))
  | ((with_reducible apply wr_mul); (focus (first | exact mulokR (by decide) | exact mulokL (by decide))))
  | ((with_reducible apply wr_mod); (focus omega)) | ((with_reducible apply wr_pow); (focus (exact ⟨by decide, by decide, by decide⟩))))
local macro_rules | `(tactic| walk_at "d1") => `(tactic| first | ((with_reducible apply isDT); (focus (first | with_reducible assumption | omega))) | ((with_reducible apply isDF); (focus omega)) | ((with_reducible apply isNDT); (focus omega)) | ((with_reducible apply isNDF); (focus (first | with_reducible assumption | omega))))
local macro_rules | `(tactic| walk_at "w") => `(tactic| repeat first | walk_at "e1" | walk_at "n1" | walk_at "d1" | walk_at "call" | walk_at "e2")
local macro_rules | `(tactic| walk_at "call") => `(tactic| first | with_reducible apply s_is_integer_i | with_reducible apply s_common | ((with_reducible apply s_is_sized_t); (focus (simp; done))) | ((with_reducible apply s_is_within_t); (focus omega)) | ((with_reducible apply s_is_ratio); (focus (with_reducible assumption))) | ((with_reducible apply s_check_ratio); (focus (with_reducible assumption))))
section
variable {K : Fg}
@[irreducible] def M31 : Int := 10 ^ 31
theorem m31_40 : M31 < M40 := by unfold M31 M40; decide
theorem m31_bd {i : Int} (h0 : 0 ≤ i) (h : i ≤ M31) : Bd 110 i := bd_pos h0 (Int.lt_of_le_of_lt h (by unfold M31; decide))
theorem step_rat {T B : Int} (h : StepOK T B) (hB : B ≤ M31) : RatOK T B := by
  have := h.t0; have := h.tb; have := m31_40
  exact ⟨by omega, by omega, by omega, h.g⟩
def S_check_step : PS1 := fun ds p => ∃ T B : Int, ds = [.tuple [.int T, .int B]] ∧ StepOK T B ∧ B ≤ M31 ∧ p .none
theorem s_check_step {T B : Int} {p : PyData → Prop} (h : StepOK T B) (hB : B ≤ M31) (q : p .none) : S_check_step [.tuple [.int T, .int B]] p := ⟨T, B, rfl, h, hB, q⟩
def N_check_step : List Str := ["step"]
def t_check_step (K : Fg) : TS := (tIfS (tOr (tNot (tTr K (tCall (spP K S_is_ratio) [] E0 (tCons (tVar 0) tNil)))) (tNot (tTest (tChain rLeI rLtI (tC (.int 0)) (tOp (rIx K) (tVar 0) (tC (.int 0))) (tOp (rIx K) (tVar 0) (tC (.int 1))))))) tNever tNext)
theorem body_check_step : Body K S_check_step N_check_step (t_check_step K) := by
  rintro ds p ⟨T, B, rfl, h, hB, q⟩ C -
  show WS K C _ [.im (.tuple [.int T, .int B])] _ _ _ _
  unfold t_check_step
  have hr := step_rat h hB
  have := h.t0; have := h.tb
  walk_at "w"
  exact q
def S_check_points : PS1 := fun ds p => ∃ T B n m : Int, ds = [.tuple [.int T, .int B], .int n, .int m] ∧ StepOK T B ∧ B ≤ M31 ∧ 1 ≤ n ∧ n ≤ m ∧ n ≤ B ∧ p .none
theorem s_check_points {T B n m : Int} {p : PyData → Prop} (h : StepOK T B) (hB : B ≤ M31) (h1 : 1 ≤ n ∧ n ≤ m ∧ n ≤ B) (q : p .none) : S_check_points [.tuple [.int T, .int B], .int n, .int m] p := ⟨T, B, n, m, rfl, h, hB, h1.1, h1.2.1, h1.2.2, q⟩
def N_check_points : List Str := ["step", "n", "most"]
def t_check_points (K : Fg) : TS := (tSeq (tDrop (tCall (spP K S_check_step) [] E0 (tCons (tVar 0) tNil)))
      (tIfS (tNot (tTr K (tCall (spP K S_is_within) [] E0 (tCons (tVar 1) (tCons (tC (.int 1)) (tCons (tCB rMin2 (tCons (tVar 2) (tCons (tOp (rIx K) (tVar 0) (tC (.int 1))) tNil))) tNil)))))) tNever tNext))
theorem body_check_points : Body K S_check_points N_check_points (t_check_points K) := by
  rintro ds p ⟨T, B, n, m, rfl, h, hB, h1, h2, h3, q⟩ C -
  show WS K C _ [.im (.tuple [.int T, .int B]), .im (.int n), .im (.int m)] _ _ _ _
  unfold t_check_points
  walk_at "w"
  refine s_check_step h hB ?_
  walk_at "w"
  exact q
/-! the points next to 0 -/
theorem fi_bds {T B m a b c d : Int} (h : StepOK T B) (hB : B ≤ M31) (hm : m < B) (f : FI T B m a b c d) : Bd 110 T ∧ Bd 110 B ∧ Bd 110 m ∧ Bd 110 a ∧ Bd 110 b ∧ Bd 110 c ∧ Bd 110 d ∧ Bd 110 (T * b - a * B) ∧ Bd 110 (c * B - T * d) := by
  have := h.t0; have := h.tb; have := f.b1; have := f.d1; have := f.bm; have := f.dm; have := f.a0; have := f.c1; have := f.cd; have := f.ab
  have e := fi_sum f
  have l1 := f.lo
  have l2 := f.hi
  have p1 : (T * b - a * B) * 1 ≤ (T * b - a * B) * d := Int.mul_le_mul_of_nonneg_left (by omega) (by omega)
  have p2 : (c * B - T * d) * 1 ≤ (c * B - T * d) * b := Int.mul_le_mul_of_nonneg_left (by omega) (by omega)
  refine ⟨m31_bd ?_ ?_, m31_bd ?_ ?_, m31_bd ?_ ?_, m31_bd ?_ ?_, m31_bd ?_ ?_, m31_bd ?_ ?_, m31_bd ?_ ?_, m31_bd ?_ ?_, m31_bd ?_ ?_⟩ <;> omega
def S_near_ends : PS1 := fun ds p => ∃ T B n : Int, ds = [.tuple [.int T, .int B], .int n] ∧ StepOK T B ∧ B ≤ M31 ∧ 1 ≤ n ∧ n ≤ B ∧ (n = 1 → p (.tuple [.int 0, .int B, .int 0, .int B])) ∧
  (2 ≤ n → ∀ a b c d, FI T B (n - 1) a b c d → n - 1 < b + d → p (.tuple [.int b, .int (T * b - a * B), .int d, .int (c * B - T * d)]))
def N_near_ends : List Str := ["step", "n", "top", "bottom", "a", "b", "far", "back", "turns"]
def t_near_ends (K : Fg) : TS := (tSeq (tAsg (tVar 0) (gTup K 2 (gCons (gName 2) (gCons (gName 3) gNil))))
      (tSeq (tIfS (tTest (tOp (rEqD K) (tVar 1) (tC (.int 1)))) (tRet (tTup (tCons (tC (.int 0)) (tCons (tVar 3) (tCons (tC (.int 0)) (tCons (tVar 3) tNil)))))) tNext)
      (tSeq (tAsg (tTup (tCons (tC (.int 1)) (tCons (tC (.int 1)) (tCons (tVar 2) (tCons (tOp rSubI (tVar 3) (tVar 2)) tNil))))) (gTup K 4 (gCons (gName 4) (gCons (gName 5) (gCons (gName 6) (gCons (gName 7) gNil))))))
      (tSeq (tWhile (tTest (tOp rLeI (tOp rAddI (tVar 4) (tVar 5)) (tOp rSubI (tVar 1) (tC (.int 1))))) (tIfS (tTest (tOp rGtI (tVar 6) (tVar 7))) (tSeq (tAsg (tCB rMin2 (tCons (tOp rDivI (tOp rSubI (tOp rSubI (tVar 1) (tC (.int 1))) (tVar 4)) (tVar 5)) (tCons (tOp rDivI (tOp rSubI (tVar 6) (tC (.int 1))) (tVar 7)) tNil))) (gName 8))
      (tPar 4 6 (tCons (tOp rAddI (tVar 4) (tOp rMulI (tVar 8) (tVar 5))) (tCons (tOp rSubI (tVar 6) (tOp rMulI (tVar 8) (tVar 7))) tNil)))) (tSeq (tAsg (tCB rMin2 (tCons (tOp rDivI (tOp rSubI (tOp rSubI (tVar 1) (tC (.int 1))) (tVar 5)) (tVar 4)) (tCons (tOp rDivI (tOp rSubI (tVar 7) (tC (.int 1))) (tVar 6)) tNil))) (gName 8))
      (tPar 5 7 (tCons (tOp rAddI (tVar 5) (tOp rMulI (tVar 8) (tVar 4))) (tCons (tOp rSubI (tVar 7) (tOp rMulI (tVar 8) (tVar 6))) tNil))))))
      (tRet (tTup (tCons (tVar 4) (tCons (tVar 6) (tCons (tVar 5) (tCons (tVar 7) tNil))))))))))
theorem div_one_le {x y : Int} (hy : 0 < y) (h : y ≤ x) : 1 ≤ x / y := (Int.le_ediv_iff_mul_le hy).mpr (by omega)
theorem div_mul_le {x y : Int} (hy : 0 < y) : x / y * y ≤ x := Int.ediv_mul_le x (by omega)
theorem min_mul_le {x y z w : Int} (hy : 0 < y) (hw : 0 < w) : min (x / y) (z / w) * y ≤ x ∧ min (x / y) (z / w) * w ≤ z :=
  ⟨Int.le_trans (Int.mul_le_mul_of_nonneg_right (Int.min_le_left _ _) (by omega)) (div_mul_le hy), Int.le_trans (Int.mul_le_mul_of_nonneg_right (Int.min_le_right _ _) (by omega)) (div_mul_le hw)⟩
theorem body_near_ends : Body K S_near_ends N_near_ends (t_near_ends K) := by
  rintro ds p ⟨T, B, n, rfl, h, hB, h1, h2, q1, q2⟩ C -
  show WS K C _ [.im (.tuple [.int T, .int B]), .im (.int n), .un, .un, .un, .un, .un, .un, .un] _ _ _ _
  unfold t_near_ends
  walk_at "w"
  refine both (fun hn => ?_) (fun hn => ?_)
  · walk_at "w"
    exact q1 hn
  walk_at "w"
  refine ws_while (fun m δ => ∃ (a b c d : Int) (t : SV), δ = [.im (.tuple [.int T, .int B]), .im (.int n), .im (.int T), .im (.int B), .im (.int b), .im (.int d), .im (.int (T * b - a * B)), .im (.int (c * B - T * d)), t] ∧ FI T B (n - 1) a b c d ∧ m = (2 * n - b - d).toNat) _
    ⟨0, 1, 1, 1, .un, by simp [List.set], fi_start h (by omega), rfl⟩ ?_
  rintro m δ ⟨a, b, c, d, t, rfl, f, rfl⟩
  obtain ⟨z1, z2, z3, z4, z5, z6, z7, z8, z9⟩ := fi_bds h hB (by omega) f
  have := f.b1; have := f.d1; have := f.bm; have := f.dm
  have l1 := f.lo
  have l2 := f.hi
  walk_at "w"
  refine both (fun hw => ?_) (fun hw => ?_)
  · walk_at "w"
    refine both (fun hf => ?_) (fun hf => ?_)
    · walk_at "w"
      have hfp : 0 < c * B - T * d := l2
      have g1 := div_one_le hfp (show c * B - T * d ≤ T * b - a * B - 1 by omega)
      have g2 := div_one_le (show 0 < d by omega) (show d ≤ n - 1 - b by omega)
      obtain ⟨u1, u2⟩ := min_mul_le (x := n - 1 - b) (z := T * b - a * B - 1) (show 0 < d by omega) hfp
      have g3 : 1 ≤ min ((n - 1 - b) / d) ((T * b - a * B - 1) / (c * B - T * d)) := by omega
      rw [e_left]
      generalize min ((n - 1 - b) / d) ((T * b - a * B - 1) / (c * B - T * d)) = l at *
      have ld : d ≤ l * d := by have := Int.mul_le_mul_of_nonneg_right g3 (show 0 ≤ d by omega); omega
      exact ⟨_, by omega, a + l * c, b + l * d, c, d, _, rfl, fi_left h (by omega) f (by omega) (by omega) (by omega), rfl⟩
    · walk_at "w"
      have ne := fi_unlike h f (by omega)
      have g1 := div_one_le l1 (show T * b - a * B ≤ c * B - T * d - 1 by omega)
      have g2 := div_one_le (show 0 < b by omega) (show b ≤ n - 1 - d by omega)
      obtain ⟨u1, u2⟩ := min_mul_le (x := n - 1 - d) (z := c * B - T * d - 1) (show 0 < b by omega) l1
      have g3 : 1 ≤ min ((n - 1 - d) / b) ((c * B - T * d - 1) / (T * b - a * B)) := by omega
      rw [e_right]
      generalize min ((n - 1 - d) / b) ((c * B - T * d - 1) / (T * b - a * B)) = l at *
      have lb : b ≤ l * b := by have := Int.mul_le_mul_of_nonneg_right g3 (show 0 ≤ b by omega); omega
      exact ⟨_, by omega, a, b, c + l * a, d + l * b, _, rfl, fi_right h (by omega) f (by omega) (by omega) (by omega), rfl⟩
  · walk_at "w"
    exact q2 (by omega) a b c d f (by omega)
theorem s_near_ends {T B n : Int} {p : PyData → Prop} (h : StepOK T B) (hB : B ≤ M31) (h1 : 1 ≤ n ∧ n ≤ B) (q1 : n = 1 → p (.tuple [.int 0, .int B, .int 0, .int B]))
    (q2 : 2 ≤ n → ∀ a b c d, FI T B (n - 1) a b c d → n - 1 < b + d → p (.tuple [.int b, .int (T * b - a * B), .int d, .int (c * B - T * d)])) : S_near_ends [.tuple [.int T, .int B], .int n] p := ⟨T, B, n, rfl, h, hB, h1.1, h1.2, q1, q2⟩
/-- the two points next to 0 -/
abbrev k_MOST_POINTS : V := .int 300
@[irreducible] def M30 : Int := 10 ^ 30
abbrev k_MOST_FAR : V := .int M30
def S_next_on_ring : PS1 := fun ds p => ∃ T B n : Int, ds = [.tuple [.int T, .int B], .int n] ∧ StepOK T B ∧ B ≤ M31 ∧ 2 ≤ n ∧ n ≤ B ∧ n ≤ 300 ∧ ∀ a b c d, FI T B (n - 1) a b c d → n - 1 < b + d → p (.tuple [.int b, .int d])
def S_next_far : PS1 := fun ds p => ∃ T B n : Int, ds = [.tuple [.int T, .int B], .int n] ∧ StepOK T B ∧ B ≤ M31 ∧ 2 ≤ n ∧ n ≤ B ∧ n ≤ M30 ∧ ∀ a b c d, FI T B (n - 1) a b c d → n - 1 < b + d → p (.tuple [.int b, .int d])
def N_next_on_ring : List Str := ["step", "n", "a", "far", "b", "back"]
def t_next_on_ring (K : Fg) : TS := (tSeq (tDrop (tCall (spP K S_check_points) [] E0 (tCons (tVar 0) (tCons (tVar 1) (tCons (tC k_MOST_POINTS) tNil)))))
      (tSeq (tAsg (tCall (spP K S_near_ends) [] E0 (tCons (tVar 0) (tCons (tVar 1) tNil))) (gTup K 4 (gCons (gName 2) (gCons (gName 3) (gCons (gName 4) (gCons (gName 5) gNil))))))
      (tRet (tTup (tCons (tVar 2) (tCons (tVar 4) tNil))))))
def N_next_far : List Str := ["step", "n", "a", "far", "b", "back"]
def t_next_far (K : Fg) : TS := (tSeq (tDrop (tCall (spP K S_check_points) [] E0 (tCons (tVar 0) (tCons (tVar 1) (tCons (tC k_MOST_FAR) tNil)))))
      (tSeq (tAsg (tCall (spP K S_near_ends) [] E0 (tCons (tVar 0) (tCons (tVar 1) tNil))) (gTup K 4 (gCons (gName 2) (gCons (gName 3) (gCons (gName 4) (gCons (gName 5) gNil))))))
      (tRet (tTup (tCons (tVar 2) (tCons (tVar 4) tNil))))))
theorem body_next_on_ring : Body K S_next_on_ring N_next_on_ring (t_next_on_ring K) := by
  rintro ds p ⟨T, B, n, rfl, h, hB, h1, h2, h3, q⟩ C -
  show WS K C _ [.im (.tuple [.int T, .int B]), .im (.int n), .un, .un, .un, .un] _ _ _ _
  unfold t_next_on_ring
  walk_at "w"
  refine s_check_points h hB ⟨by omega, h3, h2⟩ ?_
  walk_at "w"
  refine s_near_ends h hB ⟨by omega, h2⟩ (fun e => by omega) fun _ a b c d f hs => ?_
  walk_at "w"
  exact q a b c d f hs
theorem body_next_far : Body K S_next_far N_next_far (t_next_far K) := by
  rintro ds p ⟨T, B, n, rfl, h, hB, h1, h2, h3, q⟩ C -
  show WS K C _ [.im (.tuple [.int T, .int B]), .im (.int n), .un, .un, .un, .un] _ _ _ _
  unfold t_next_far
  walk_at "w"
  refine s_check_points h hB ⟨by omega, h3, h2⟩ ?_
  walk_at "w"
  refine s_near_ends h hB ⟨by omega, h2⟩ (fun e => by omega) fun _ a b c d f hs => ?_
  walk_at "w"
  exact q a b c d f hs
/-! neighbours of a place -/
def S_neighbours : PS1 := fun ds p => ∃ T B m : Int, ds = [.tuple [.int T, .int B], .int m] ∧ StepOK T B ∧ B ≤ M31 ∧ 1 ≤ m ∧ m < B ∧ ∀ a b c d, FI T B m a b c d → m < b + d → p (.tuple [.tuple [.int a, .int b], .tuple [.int c, .int d]])
theorem bd_up10 {i : Int} (h : Bd 110 i) : Bd 1000 i := h.up (by decide)
def N_neighbours : List Str := ["place", "most", "whole", "left", "right", "here", "gap", "more", "many"]
def t_neighbours (K : Fg) : TS := (tSeq (tIfS (tTest (tOp rLeI (tOp (rIx K) (tVar 0) (tC (.int 1))) (tVar 1))) (tRet (tTup (tCons (tVar 0) (tCons (tVar 0) tNil)))) tNext)
      (tSeq (tAsg (tOp rDivI (tOp (rIx K) (tVar 0) (tC (.int 0))) (tOp (rIx K) (tVar 0) (tC (.int 1)))) (gName 2))
      (tSeq (tPar 3 4 (tCons (tTup (tCons (tVar 2) (tCons (tC (.int 1)) tNil))) (tCons (tTup (tCons (tOp rAddI (tVar 2) (tC (.int 1))) (tCons (tC (.int 1)) tNil))) tNil)))
      (tSeq (tWhile (tTest (tOp rLeI (tOp rAddI (tOp (rIx K) (tVar 3) (tC (.int 1))) (tOp (rIx K) (tVar 4) (tC (.int 1)))) (tVar 1))) (tSeq (tAsg (tTup (tCons (tOp rAddI (tOp (rIx K) (tVar 3) (tC (.int 0))) (tOp (rIx K) (tVar 4) (tC (.int 0)))) (tCons (tOp rAddI (tOp (rIx K) (tVar 3) (tC (.int 1))) (tOp (rIx K) (tVar 4) (tC (.int 1)))) tNil))) (gName 5))
      (tIfS (tTr K (tCall (spP K S_is_less) [] E0 (tCons (tVar 5) (tCons (tVar 0) tNil)))) (tSeq (tAsg (tOp rSubI (tOp rMulI (tOp (rIx K) (tVar 0) (tC (.int 0))) (tOp (rIx K) (tVar 3) (tC (.int 1)))) (tOp rMulI (tOp (rIx K) (tVar 3) (tC (.int 0))) (tOp (rIx K) (tVar 0) (tC (.int 1))))) (gName 6))
      (tSeq (tAsg (tOp rSubI (tOp rMulI (tOp (rIx K) (tVar 4) (tC (.int 0))) (tOp (rIx K) (tVar 0) (tC (.int 1)))) (tOp rMulI (tOp (rIx K) (tVar 0) (tC (.int 0))) (tOp (rIx K) (tVar 4) (tC (.int 1))))) (gName 7))
      (tSeq (tAsg (tCB rMin2 (tCons (tOp rDivI (tVar 6) (tVar 7)) (tCons (tOp rDivI (tOp rSubI (tVar 1) (tOp (rIx K) (tVar 3) (tC (.int 1)))) (tOp (rIx K) (tVar 4) (tC (.int 1)))) tNil))) (gName 8))
      (tAsg (tTup (tCons (tOp rAddI (tOp (rIx K) (tVar 3) (tC (.int 0))) (tOp rMulI (tVar 8) (tOp (rIx K) (tVar 4) (tC (.int 0))))) (tCons (tOp rAddI (tOp (rIx K) (tVar 3) (tC (.int 1))) (tOp rMulI (tVar 8) (tOp (rIx K) (tVar 4) (tC (.int 1))))) tNil))) (gName 3))))) (tSeq (tAsg (tOp rSubI (tOp rMulI (tOp (rIx K) (tVar 4) (tC (.int 0))) (tOp (rIx K) (tVar 0) (tC (.int 1)))) (tOp rMulI (tOp (rIx K) (tVar 0) (tC (.int 0))) (tOp (rIx K) (tVar 4) (tC (.int 1))))) (gName 6))
      (tSeq (tAsg (tOp rSubI (tOp rMulI (tOp (rIx K) (tVar 0) (tC (.int 0))) (tOp (rIx K) (tVar 3) (tC (.int 1)))) (tOp rMulI (tOp (rIx K) (tVar 3) (tC (.int 0))) (tOp (rIx K) (tVar 0) (tC (.int 1))))) (gName 7))
      (tSeq (tAsg (tCB rMin2 (tCons (tOp rDivI (tVar 6) (tVar 7)) (tCons (tOp rDivI (tOp rSubI (tVar 1) (tOp (rIx K) (tVar 4) (tC (.int 1)))) (tOp (rIx K) (tVar 3) (tC (.int 1)))) tNil))) (gName 8))
      (tAsg (tTup (tCons (tOp rAddI (tOp (rIx K) (tVar 4) (tC (.int 0))) (tOp rMulI (tVar 8) (tOp (rIx K) (tVar 3) (tC (.int 0))))) (tCons (tOp rAddI (tOp (rIx K) (tVar 4) (tC (.int 1))) (tOp rMulI (tVar 8) (tOp (rIx K) (tVar 3) (tC (.int 1))))) tNil))) (gName 4))))))))
      (tRet (tTup (tCons (tVar 3) (tCons (tVar 4) tNil))))))))
theorem body_neighbours : Body K S_neighbours N_neighbours (t_neighbours K) := by
  rintro ds p ⟨T, B, m, rfl, h, hB, h1, h2, q⟩ C -
  show WS K C _ [.im (.tuple [.int T, .int B]), .im (.int m), .un, .un, .un, .un, .un, .un, .un] _ _ _ _
  unfold t_neighbours
  have t0 := h.t0
  have tb := h.tb
  have b0 : Bd 110 B := m31_bd (by omega) hB
  walk_at "w"
  rw [Int.ediv_eq_zero_of_lt (by omega) tb]
  refine ws_while (fun w δ => ∃ (a b c d : Int) (t5 t6 t7 t8 : SV), δ = [.im (.tuple [.int T, .int B]), .im (.int m), .im (.int 0), .im (.tuple [.int a, .int b]), .im (.tuple [.int c, .int d]), t5, t6, t7, t8] ∧ FI T B m a b c d ∧ w = (2 * m - b - d).toNat) _
    ⟨0, 1, 1, 1, _, _, _, _, rfl, fi_start h h1, rfl⟩ ?_
  rintro w δ ⟨a, b, c, d, t5, t6, t7, t8, rfl, f, rfl⟩
  obtain ⟨z1, z2, z3, z4, z5, z6, z7, z8, z9⟩ := fi_bds h hB (by omega) f
  have := f.b1; have := f.d1; have := f.bm; have := f.dm
  have l1 := f.lo
  have l2 := f.hi
  walk_at "w"
  refine both (fun hw => ?_) (fun hw => ?_)
  · walk_at "w"
    refine s_is_less ⟨(bd_add z4 z6).up (by decide), (bd_add z5 z7).up (by decide), bd_up10 z1, bd_up10 z2⟩ ?_
    walk_at "w"
    have ne := fi_unlike h f (by omega)
    have e0 : (a + c) * B < T * (b + d) ↔ c * B - T * d < T * b - a * B := by simp only [Int.add_mul, Int.mul_add]; omega
    refine both (fun hf => ?_) (fun hf => ?_)
    · rw [e0] at hf
      walk_at "w"
      have g1 := div_one_le l2 (show c * B - T * d ≤ T * b - a * B by omega)
      have g2 := div_one_le (show 0 < d by omega) (show d ≤ m - b by omega)
      obtain ⟨u1, u2⟩ := min_mul_le (x := T * b - a * B) (z := m - b) l2 (show 0 < d by omega)
      have g3 : 1 ≤ min ((T * b - a * B) / (c * B - T * d)) ((m - b) / d) := by omega
      generalize min ((T * b - a * B) / (c * B - T * d)) ((m - b) / d) = l at *
      have ld : d ≤ l * d := by have := Int.mul_le_mul_of_nonneg_right g3 (show 0 ≤ d by omega); omega
      exact ⟨_, by omega, a + l * c, b + l * d, c, d, _, _, _, _, rfl, fi_left h (by omega) f (by omega) (by omega) (by omega), rfl⟩
    · rw [e0] at hf
      walk_at "w"
      have g1 := div_one_le l1 (show T * b - a * B ≤ c * B - T * d by omega)
      have g2 := div_one_le (show 0 < b by omega) (show b ≤ m - d by omega)
      obtain ⟨u1, u2⟩ := min_mul_le (x := c * B - T * d) (z := m - d) l1 (show 0 < b by omega)
      have g3 : 1 ≤ min ((c * B - T * d) / (T * b - a * B)) ((m - d) / b) := by omega
      generalize min ((c * B - T * d) / (T * b - a * B)) ((m - d) / b) = l at *
      have lb : b ≤ l * b := by have := Int.mul_le_mul_of_nonneg_right g3 (show 0 ≤ b by omega); omega
      exact ⟨_, by omega, a, b, c + l * a, d + l * b, _, _, _, _, rfl, fi_right h (by omega) f (by omega) (by omega) (by omega), rfl⟩
  · walk_at "w"
    exact q a b c d f (by omega)
def S__law_neighbours : PS1 := fun ds p => ∃ T B m : Int, ds = [.int T, .int B, .int m] ∧ StepOK T B ∧ B ≤ M31 ∧ 1 ≤ m ∧ m < B ∧ ∀ a b c d, FI T B m a b c d → m < b + d → p (.tuple [.tuple [.int a, .int b], .tuple [.int c, .int d]])
def N__law_neighbours : List Str := ["top", "bottom", "most", "low", "high", "near", "far", "leap"]
def t__law_neighbours (K : Fg) : TS := (tSeq (tPar 3 4 (tCons (tTup (tCons (tOp rDivI (tVar 0) (tVar 1)) (tCons (tC (.int 1)) tNil))) (tCons (tTup (tCons (tOp rAddI (tOp rDivI (tVar 0) (tVar 1)) (tC (.int 1))) (tCons (tC (.int 1)) tNil))) tNil)))
      (tSeq (tWhile (tTest (tOp rLeI (tOp rAddI (tOp (rIx K) (tVar 3) (tC (.int 1))) (tOp (rIx K) (tVar 4) (tC (.int 1)))) (tVar 2))) (tSeq (tPar 5 6 (tCons (tOp rSubI (tOp rMulI (tVar 0) (tOp (rIx K) (tVar 3) (tC (.int 1)))) (tOp rMulI (tOp (rIx K) (tVar 3) (tC (.int 0))) (tVar 1))) (tCons (tOp rSubI (tOp rMulI (tOp (rIx K) (tVar 4) (tC (.int 0))) (tVar 1)) (tOp rMulI (tVar 0) (tOp (rIx K) (tVar 4) (tC (.int 1))))) tNil)))
      (tIfS (tTest (tOp rGeI (tVar 5) (tVar 6))) (tSeq (tAsg (tCB rMin2 (tCons (tOp rDivI (tVar 5) (tVar 6)) (tCons (tOp rDivI (tOp rSubI (tVar 2) (tOp (rIx K) (tVar 3) (tC (.int 1)))) (tOp (rIx K) (tVar 4) (tC (.int 1)))) tNil))) (gName 7))
      (tAsg (tTup (tCons (tOp rAddI (tOp (rIx K) (tVar 3) (tC (.int 0))) (tOp rMulI (tVar 7) (tOp (rIx K) (tVar 4) (tC (.int 0))))) (tCons (tOp rAddI (tOp (rIx K) (tVar 3) (tC (.int 1))) (tOp rMulI (tVar 7) (tOp (rIx K) (tVar 4) (tC (.int 1))))) tNil))) (gName 3))) (tSeq (tAsg (tCB rMin2 (tCons (tOp rDivI (tOp rSubI (tVar 6) (tC (.int 1))) (tVar 5)) (tCons (tOp rDivI (tOp rSubI (tVar 2) (tOp (rIx K) (tVar 4) (tC (.int 1)))) (tOp (rIx K) (tVar 3) (tC (.int 1)))) tNil))) (gName 7))
      (tAsg (tTup (tCons (tOp rAddI (tOp (rIx K) (tVar 4) (tC (.int 0))) (tOp rMulI (tVar 7) (tOp (rIx K) (tVar 3) (tC (.int 0))))) (tCons (tOp rAddI (tOp (rIx K) (tVar 4) (tC (.int 1))) (tOp rMulI (tVar 7) (tOp (rIx K) (tVar 3) (tC (.int 1))))) tNil))) (gName 4))))))
      (tRet (tTup (tCons (tVar 3) (tCons (tVar 4) tNil))))))
theorem body__law_neighbours : Body K S__law_neighbours N__law_neighbours (t__law_neighbours K) := by
  rintro ds p ⟨T, B, m, rfl, h, hB, h1, h2, q⟩ C -
  show WS K C _ [.im (.int T), .im (.int B), .im (.int m), .un, .un, .un, .un, .un] _ _ _ _
  unfold t__law_neighbours
  have t0 := h.t0
  have tb := h.tb
  have b0 : Bd 110 B := m31_bd (by omega) hB
  walk_at "w"
  rw [Int.ediv_eq_zero_of_lt (by omega) tb]
  refine ws_while (fun w δ => ∃ (a b c d : Int) (t5 t6 t7 : SV), δ = [.im (.int T), .im (.int B), .im (.int m), .im (.tuple [.int a, .int b]), .im (.tuple [.int c, .int d]), t5, t6, t7] ∧ FI T B m a b c d ∧ w = (2 * m - b - d).toNat) _
    ⟨0, 1, 1, 1, _, _, _, rfl, fi_start h h1, rfl⟩ ?_
  rintro w δ ⟨a, b, c, d, t5, t6, t7, rfl, f, rfl⟩
  obtain ⟨z1, z2, z3, z4, z5, z6, z7, z8, z9⟩ := fi_bds h hB (by omega) f
  have := f.b1; have := f.d1; have := f.bm; have := f.dm
  have l1 := f.lo
  have l2 := f.hi
  walk_at "w"
  refine both (fun hw => ?_) (fun hw => ?_)
  · walk_at "w"
    have ne := fi_unlike h f (by omega)
    refine both (fun hf => ?_) (fun hf => ?_)
    · walk_at "w"
      have g1 := div_one_le l2 (show c * B - T * d ≤ T * b - a * B by omega)
      have g2 := div_one_le (show 0 < d by omega) (show d ≤ m - b by omega)
      obtain ⟨u1, u2⟩ := min_mul_le (x := T * b - a * B) (z := m - b) l2 (show 0 < d by omega)
      have g3 : 1 ≤ min ((T * b - a * B) / (c * B - T * d)) ((m - b) / d) := by omega
      generalize min ((T * b - a * B) / (c * B - T * d)) ((m - b) / d) = l at *
      have ld : d ≤ l * d := by have := Int.mul_le_mul_of_nonneg_right g3 (show 0 ≤ d by omega); omega
      exact ⟨_, by omega, a + l * c, b + l * d, c, d, _, _, _, rfl, fi_left h (by omega) f (by omega) (by omega) (by omega), rfl⟩
    · walk_at "w"
      have g1 := div_one_le l1 (show T * b - a * B ≤ c * B - T * d - 1 by omega)
      have g2 := div_one_le (show 0 < b by omega) (show b ≤ m - d by omega)
      obtain ⟨u1, u2⟩ := min_mul_le (x := c * B - T * d - 1) (z := m - d) l1 (show 0 < b by omega)
      have g3 : 1 ≤ min ((c * B - T * d - 1) / (T * b - a * B)) ((m - d) / b) := by omega
      generalize min ((c * B - T * d - 1) / (T * b - a * B)) ((m - d) / b) = l at *
      have lb : b ≤ l * b := by have := Int.mul_le_mul_of_nonneg_right g3 (show 0 ≤ b by omega); omega
      exact ⟨_, by omega, a, b, c + l * a, d + l * b, _, _, _, rfl, fi_right h (by omega) f (by omega) (by omega) (by omega), rfl⟩
  · walk_at "w"
    exact q a b c d f (by omega)
end
end Wk
set_option Elab.async false
set_option linter.all false
set_option maxRecDepth 100000
set_option maxHeartbeats 4000000
/-! The defs of law k04, further. -/
namespace Wk
open PySem L2
open RZ (ItzT iZipA pi_zipA)
local macro_rules | `(tactic| walk_at "call") => `(tactic| fail)
local macro_rules | `(tactic| walk_at "e1") => `(tactic| first
  | (with_reducible apply ws_seq) | ((with_reducible apply we_var); rfl) | (with_reducible apply we_int) | ((with_reducible apply we_ixO); rfl) | (with_reducible apply we_op)
  | (with_reducible apply wr_add) | (with_reducible apply wr_sub) | (with_reducible apply wr_lt) | (with_reducible apply wr_le) | (with_reducible apply wr_gt) | (with_reducible apply wr_ge) | (with_reducible apply wr_eqI) | (with_reducible apply wr_neI) | (with_reducible apply wr_eqR) | (with_reducible apply wr_neR) | (with_reducible apply wr_isNi) | (with_reducible apply wr_isNt) | (with_reducible apply wr_isNs) | (with_reducible apply wr_isNn) | (with_reducible apply wr_notNi) | (with_reducible apply wr_notNt) | (with_reducible apply wr_notNs) | (with_reducible apply wr_notNn) | (with_reducible apply wr_isN) | (with_reducible apply wr_notN)
  | (with_reducible apply wr_ixT0) | ((with_reducible apply wr_ixT); rfl) | ((with_reducible apply wr_ixL); rfl)
  | (with_reducible apply wa_cons) | (with_reducible apply wa_nil) | (with_reducible apply we_tup)
  | (with_reducible apply wt_test) | (with_reducible apply wt_tr) | (with_reducible apply tr_bool) | (with_reducible apply sp_bool) | (with_reducible apply isT) | (with_reducible apply isF) | (with_reducible apply isNT) | (with_reducible apply isNF)
  | (with_reducible apply ws_newd) | (with_reducible apply ws_newl) | (with_reducible apply ws_dput) | (with_reducible apply ws_setL) | (with_reducible apply ws_asg) | (with_reducible apply wg_name) | (with_reducible apply ws_par) | (with_reducible apply ws_par3) | (with_reducible apply ws_ret) | (with_reducible apply ws_retN) | (with_reducible apply ws_if) | (with_reducible apply ws_next)
  | (with_reducible apply wt_and) | (with_reducible apply wt_or) | (with_reducible apply wt_not) | (with_reducible apply we_andT) | (with_reducible apply we_orT) | (with_reducible apply we_notT) | (with_reducible apply we_if) | (with_reducible apply we_chain)
  | (with_reducible apply we_bl) | (with_reducible apply we_non) | (with_reducible apply we_str)
  | (with_reducible apply we_isi_int) | (with_reducible apply we_isi_bool) | (with_reducible apply we_isi_tuple) | (with_reducible apply we_isi_str) | (with_reducible apply we_call) | ((with_reducible apply we_tupleO); rfl) | ((with_reducible apply we_lenO); rfl) | (with_reducible apply we_cb)
  | (with_reducible apply wc_abs) | (with_reducible apply wc_int) | (with_reducible apply wc_min2) | (with_reducible apply wc_max2) | ((with_reducible apply wc_len); rfl; trivial)
  | ((with_reducible apply wg_tup); rfl) | (with_reducible apply wgs_cons) | (with_reducible apply wgs_nil)
  | (with_reducible apply wo_none) | (with_reducible apply wo_some) | (with_reducible apply we_neg) | ((with_reducible refine' ws_app ?h ?hi); (case hi => exact ⟨_, _, rfl⟩)) | (with_reducible apply ws_drop))
local macro_rules | `(tactic| walk_at "e2") => `(tactic| first
  | ((with_reducible refine' And.intro ?h ?r); (case h => first | exact Nat.le_of_ble_eq_true rfl | omega))
  | ((with_reducible refine' ⟨?a, ?j, ?d, ?e1, ?e2, ?r⟩); (case a => rfl); (case e1 => rfl); (case e2 => first | rfl | with_reducible assumption))
  | ((with_reducible refine' ⟨⟨?o, ?e⟩, ?r⟩); (case e => rfl))
  | ((with_reducible refine' ⟨?p, ?d, ?j, ?m, ?e1, ?e2, ?e3, ?r⟩); (case e1 => rfl); (case e2 => rfl); (case e3 => rfl))
  | ((with_reducible refine' ⟨?w, ?e, ?r⟩); (case e => rfl))
  | ((with_reducible refine' ⟨?w, ?w2, ?e, ?r⟩); (case e => rfl))
  | ((with_reducible refine' ⟨?w, ?w2, ?w3, ?e, ?r⟩); (case e => rfl)))
local macro_rules | `(tactic| walk_at "bd") => `(tactic| first | with_reducible assumption | (with_reducible apply bd_add <;> walk_at "bd") | (with_reducible apply bd_sub <;> walk_at "bd") | (with_reducible apply bd_mul <;> walk_at "bd") | ((with_reducible apply bd_div); walk_at "bd") | ((with_reducible apply bd_mod) <;> first | omega | walk_at "bd") | (with_reducible apply bd_min <;> walk_at "bd") | (with_reducible apply bd_max <;> walk_at "bd") | ((with_reducible apply bd_abs); walk_at "bd") | ((with_reducible apply bd_neg); walk_at "bd") | exact bd_lit (n := 140) (by decide) | exact bd_pos (n := 140) (by omega) (by omega))
local macro_rules | `(tactic| walk_at "n1") => `(tactic| first
  | ((with_reducible apply wr_mulB); (focus (walk_at "bd")); (focus (walk_at "bd")); (focus decide))
  | ((with_reducible apply wr_divB); (focus omega); (focus (walk_at "bd")); (focus decide))
  | ((with_reducible apply wr_mul); (focus (first | exact mulokR (by decide) | exact mulokL (by decide))))
  | ((with_reducible apply wr_mod); (focus omega)) | ((with_reducible apply wr_pow); (focus (exact ⟨by decide, by decide, by decide⟩))))
local macro_rules | `(tactic| walk_at "d1") => `(tactic| first | ((with_reducible apply isDT); (focus (first | with_reducible assumption | omega))) | ((with_reducible apply isDF); (focus omega)) | ((with_reducible apply isNDT); (focus omega)) | ((with_reducible apply isNDF); (focus (first | with_reducible assumption | omega))))
local macro_rules | `(tactic| walk_at "w") => `(tactic| repeat first | walk_at "e1" | walk_at "n1" | walk_at "d1" | walk_at "call" | walk_at "e2")
local macro_rules | `(tactic| walk_at "call") => `(tactic| first | with_reducible apply s_is_integer_i | with_reducible apply s_common | ((with_reducible apply s_is_sized_t); (focus (simp; done))) | ((with_reducible apply s_is_within_t); (focus omega)) | ((with_reducible apply s_is_ratio); (focus (with_reducible assumption))) | ((with_reducible apply s_check_ratio); (focus (with_reducible assumption))))
local macro_rules | `(tactic| walk_at "bq") => `(tactic| (apply Bd.up; (focus (walk_at "bd")); (focus decide)))
section
variable {K : Fg}
abbrev k_MOST_BOTTOM : V := .int M30
def S_check_most : PS1 := fun ds p => ∃ a b m : Int, ds = [.tuple [.int a, .int b], .int m] ∧ RatOK a b ∧ 1 ≤ m ∧ m ≤ M30 ∧ p .none
def N_check_most : List Str := ["place", "most"]
def t_check_most (K : Fg) : TS := (tSeq (tDrop (tCall (spP K S_check_ratio) [] E0 (tCons (tVar 0) tNil)))
      (tIfS (tNot (tTr K (tCall (spP K S_is_within) [] E0 (tCons (tVar 1) (tCons (tC (.int 1)) (tCons (tC k_MOST_BOTTOM) tNil)))))) tNever tNext))
theorem body_check_most : Body K S_check_most N_check_most (t_check_most K) := by
  rintro ds p ⟨a, b, m, rfl, h, h1, h2, q⟩ C -
  show WS K C _ [.im (.tuple [.int a, .int b]), .im (.int m)] _ _ _ _
  unfold t_check_most
  walk_at "w"
  exact q
/-- the nearest, of which the last two parts are told here -/
def S_told_nearest : PS1 := fun ds p => ∃ T B m : Int, ds = [.tuple [.int T, .int B], .int m] ∧ StepOK T B ∧ B ≤ M31 ∧ 1 ≤ m ∧ m < B ∧ ∀ a b c d x y z w, FI T B m a b c d → m < b + d → p (.tuple [.tuple [.int x, .int y], .tuple [.int z, .int w], .tuple [.int a, .int b], .tuple [.int c, .int d]])
def N_told_nearest : List Str := ["place", "most", "left", "right", "some", "one", "other", "first"]
def t_told_nearest (K : Fg) : TS := (tSeq (tAsg (tCall (spP K S_neighbours) [] E0 (tCons (tVar 0) (tCons (tVar 1) tNil))) (gTup K 2 (gCons (gName 2) (gCons (gName 3) gNil))))
      (tSeq (tAsg (tLst (tCons (tTup (tCons (tCall (spP K S_gap_of) [] E0 (tCons (tVar 0) (tCons (tVar 2) tNil))) (tCons (tOp (rIx K) (tVar 2) (tC (.int 1))) (tCons (tVar 2) tNil)))) (tCons (tTup (tCons (tCall (spP K S_gap_of) [] E0 (tCons (tVar 0) (tCons (tVar 3) tNil))) (tCons (tOp (rIx K) (tVar 3) (tC (.int 1))) (tCons (tVar 3) tNil)))) tNil))) (gName 4))
      (tSeq (tAsg (tVar 4) (gUnl K 2 (gCons (gName 5) (gCons (gName 6) gNil))))
      (tSeq (tAsg (tVar 5) (gName 7))
      (tSeq (tIfS (tOr (tTr K (tCall (spP K S_is_less) [] E0 (tCons (tOp (rIx K) (tVar 6) (tC (.int 0))) (tCons (tOp (rIx K) (tVar 5) (tC (.int 0))) tNil)))) (tAnd (tTest (tOp (rEqD K) (tOp (rIx K) (tVar 6) (tC (.int 0))) (tOp (rIx K) (tVar 5) (tC (.int 0))))) (tTest (tOp rLtI (tOp (rIx K) (tVar 6) (tC (.int 1))) (tOp (rIx K) (tVar 5) (tC (.int 1))))))) (tAsg (tVar 6) (gName 7)) tNext)
      (tRet (tTup (tCons (tOp (rIx K) (tVar 7) (tC (.int 2))) (tCons (tOp (rIx K) (tVar 7) (tC (.int 0))) (tCons (tVar 2) (tCons (tVar 3) tNil)))))))))))
theorem body_told_nearest : Body K S_told_nearest N_told_nearest (t_told_nearest K) := by
  rintro ds p ⟨T, B, m, rfl, h, hB, h1, h2, q⟩ C -
  show WS K C _ [.im (.tuple [.int T, .int B]), .im (.int m), .un, .un, .un, .un, .un, .un] _ _ _ _
  unfold t_told_nearest
  have t0 := h.t0
  have tb := h.tb
  walk_at "w"
  refine ⟨T, B, m, rfl, h, hB, h1, h2, fun a b c d f hs => ?_⟩
  obtain ⟨z1, z2, z3, z4, z5, z6, z7, z8, z9⟩ := fi_bds h hB h2 f
  have b1 := f.b1
  have d1 := f.d1
  walk_at "w"
  refine we_new (wn_lst ?_)
  walk_at "w"
  refine s_gap_of ⟨by omega, by omega⟩ ⟨bd_up10 z1, bd_up10 z2, bd_up10 z4, bd_up10 z5⟩ ?_
  walk_at "w"
  refine s_gap_of ⟨by omega, by omega⟩ ⟨bd_up10 z1, bd_up10 z2, bd_up10 z6, bd_up10 z7⟩ ?_
  walk_at "w"
  refine wg_unl rfl ?_
  walk_at "w"
  refine s_is_less ⟨by walk_at "bq", by walk_at "bq", by walk_at "bq", by walk_at "bq"⟩ ?_
  walk_at "w"
  generalize (((T * b - a * B) / (Int.gcd (T * b - a * B) (B * b) : Int)).natAbs : Int) = x1
  generalize (B * b) / (Int.gcd (T * b - a * B) (B * b) : Int) = y1
  generalize (((T * d - c * B) / (Int.gcd (T * d - c * B) (B * d) : Int)).natAbs : Int) = x2
  generalize (B * d) / (Int.gcd (T * d - c * B) (B * d) : Int) = y2
  refine both (fun h1 => ?_) (fun h1 => ?_)
  · walk_at "w"
    exact q _ _ _ _ _ _ _ _ f hs
  · walk_at "w"
    refine both (fun h2 => ?_) (fun h2 => ?_)
    · walk_at "w"
      refine both (fun h3 => ?_) (fun h3 => ?_)
      · walk_at "w"
        exact q _ _ _ _ _ _ _ _ f hs
      · walk_at "w"
        exact q _ _ _ _ _ _ _ _ f hs
    · walk_at "w"
      exact q _ _ _ _ _ _ _ _ f hs
def S_nearest : PS1 := fun ds p => ∃ T B m : Int, ds = [.tuple [.int T, .int B], .int m] ∧ StepOK T B ∧ B ≤ M31 ∧ 1 ≤ m ∧ m < B ∧ m ≤ M30 ∧ ∀ a b c d x y z w, FI T B m a b c d → m < b + d → p (.tuple [.tuple [.int x, .int y], .tuple [.int z, .int w], .tuple [.int a, .int b], .tuple [.int c, .int d]])
def N_nearest : List Str := ["place", "most"]
def t_nearest (K : Fg) : TS := (tSeq (tDrop (tCall (spP K S_check_most) [] E0 (tCons (tVar 0) (tCons (tVar 1) tNil))))
      (tRet (tCall (spP K S_told_nearest) [] E0 (tCons (tVar 0) (tCons (tVar 1) tNil)))))
theorem body_nearest : Body K S_nearest N_nearest (t_nearest K) := by
  rintro ds p ⟨T, B, m, rfl, h, hB, h1, h2, h3, q⟩ C -
  show WS K C _ [.im (.tuple [.int T, .int B]), .im (.int m)] _ _ _ _
  unfold t_nearest
  walk_at "w"
  refine ⟨T, B, m, rfl, step_rat h hB, h1, h3, ?_⟩
  walk_at "w"
  exact ⟨T, B, m, rfl, h, hB, h1, h2, q⟩
/-! kinds of gaps -/
def gapsD (B : Int) (l : List (Int × Int)) : PyData := .tuple (l.map fun p => .tuple [.tuple [.int (p.1 / Int.gcd p.1 B), .int (B / Int.gcd p.1 B)], .int p.2])
def S_kinds_by : PS1 := fun ds p => ∃ T B n : Int, ds = [.tuple [.int T, .int B], .int n] ∧ StepOK T B ∧ B ≤ M31 ∧ 1 ≤ n ∧ n ≤ B ∧ (n = 1 → p (gapsD B [(B, 1)])) ∧
  (2 ≤ n → ∀ a b c d, FI T B (n - 1) a b c d → n - 1 < b + d → p (gapsD B (gapsL (T * b - a * B) (c * B - T * d) (n - b) (n - d) (b + d - n))))
def N_kinds_by : List Str := ["step", "n", "a", "far", "b", "back", "counts", "gap", "many"]
def t_kinds_by (K : Fg) : TS := (tSeq (tAsg (tCall (spP K S_near_ends) [] E0 (tCons (tVar 0) (tCons (tVar 1) tNil))) (gTup K 4 (gCons (gName 2) (gCons (gName 3) (gCons (gName 4) (gCons (gName 5) gNil))))))
      (tSeq (tAsg tDNewK (gName 6))
      (tSeq (tIfS (tTest (tOp (rEqD K) (tVar 1) (tC (.int 1)))) (sDPut (tVar 6) (tOp (rIx K) (tVar 0) (tC (.int 1))) (tC (.int 1))) (tFor (iAny K (tTup (tCons (tTup (tCons (tOp rAddI (tVar 3) (tVar 5)) (tCons (tOp rSubI (tOp rAddI (tVar 2) (tVar 4)) (tVar 1)) tNil))) (tCons (tTup (tCons (tVar 3) (tCons (tOp rSubI (tVar 1) (tVar 2)) tNil))) (tCons (tTup (tCons (tVar 5) (tCons (tOp rSubI (tVar 1) (tVar 4)) tNil))) tNil))))) (gTup K 2 (gCons (gName 7) (gCons (gName 8) gNil))) (tIfS (tTest (tOp rGtI (tVar 8) (tC (.int 0)))) (sDPut (tVar 6) (tVar 7) (tOp rAddI (tDGet2 (tVar 6) (tVar 7) (tC (.int 0))) (tVar 8))) tNext)))
      (tRet (tCB (rTupOf K) (tCons (tLc (iAny K (tCKw rSrtDR (tCons (tVar 6) tNil) (tCons (tC (.bl true)) tNil))) (gName 7) tYes (tTup (tCons (tCall (spP K S_made) [] E0 (tCons (tVar 7) (tCons (tOp (rIx K) (tVar 0) (tC (.int 1))) tNil))) (tCons (tDGet (tVar 6) (tVar 7)) tNil))) [7]) tNil))))))
theorem body_kinds_by : Body K S_kinds_by N_kinds_by (t_kinds_by K) := by
  rintro ds p ⟨T, B, n, rfl, h, hB, h1, h2, q1, q2⟩ C -
  show WS K C _ [.im (.tuple [.int T, .int B]), .im (.int n), .un, .un, .un, .un, .un, .un, .un] _ _ _ _
  unfold t_kinds_by
  have t0 := h.t0
  have tb := h.tb
  have b0 : Bd 110 B := m31_bd (by omega) hB
  -- the last row, from a dict that holds l
  have last : ∀ (l : List (Int × Int)) (s2 s3 s4 s5 s7 s8 : SV), (l.map (·.1)).Nodup → l.length ≤ 900 → (∀ x ∈ l.map (·.1), 0 < x ∧ Bd 111 x) → (∀ ys : List Int, ys.Perm (l.map (·.1)) → ys.Pairwise (· ≥ ·) → p (gapsD B (ys.map fun g => (g, lookG l g)))) →
      WE K (tLc (iAny K (tCKw rSrtDR (tCons (tVar 6) tNil) (tCons (tC (.bl true)) tNil))) (gName 7) tYes (tTup (tCons (tCall (spP K S_made) [] E0 (tCons (tVar 7) (tCons (tOp (rIx K) (tVar 0) (tC (.int 1))) tNil))) (tCons (tDGet (tVar 6) (tVar 7)) tNil))) [7])
        [.im (.tuple [.int T, .int B]), .im (.int n), s2, s3, s4, s5, .ow (.dct (toKD l)), s7, s8] (fun x δ1 => WA K tNil δ1 fun ds δ2 => WC K (rTupOf K) (x :: ds) δ2 fun d _ => p d) := by
    intro l s2 s3 s4 s5 s7 s8 hnd hlen hpos hq
    refine we_map (wi_list (we_new (wn_sortDR rfl (kd_keys l) (by rw [List.length_map]; omega) fun ys hp hs => ⟨_, _, rfl, ys.map .int, rfl, ?_⟩)))
    refine ⟨fun x => match x with | .int g => .tuple [.tuple [.int (g / Int.gcd g B), .int (B / Int.gcd g B)], .int (lookG l g)] | x => x, fun x hx => wgv_name (by decide) ?_, ?_, ?_⟩
    · obtain ⟨g, hg, rfl⟩ := List.mem_map.mp hx
      have hgl := hp.mem_iff.mp hg
      obtain ⟨hg0, hgb⟩ := hpos g hgl
      walk_at "w"
      refine s_made (by omega) b0 (by decide) ?_
      walk_at "w"
      refine we_dget ?_ ⟨_, rfl⟩
      walk_at "w"
      refine ⟨_, look_in g l hgl, ?_⟩
      walk_at "w"
      exact ⟨rfl, rfl⟩
    · have := hp.length_eq
      simp only [List.length_map] at this ⊢
      omega
    · walk_at "w"
      refine wc_tuple ?_
      have := hq ys hp hs
      unfold gapsD at this
      rw [List.map_map] at this ⊢
      exact this
  walk_at "w"
  refine s_near_ends h hB ⟨h1, h2⟩ (fun e => ?_) fun _ a b c d f hs => ?_
  · subst e
    walk_at "w"
    refine last [(B, 1)] _ _ _ _ _ _ (by simp) (show 1 ≤ 900 by decide) (fun x hx => ?_) fun ys hp hs => ?_
    · simp at hx; subst hx; exact ⟨by omega, b0.up (by decide)⟩
    · have e := sort_one hp hs (zs := [B]) (by simp) (by simp)
      rw [e]
      simpa [lookG] using q1 rfl
  · walk_at "w"
    refine ws_for (wi_tup ?_)
    obtain ⟨z1, z2, z3, z4, z5, z6, z7, z8, z9⟩ := fi_bds h hB (by omega) f
    have b1 := f.b1
    have d1 := f.d1
    have := f.bm; have := f.dm; have lo := f.lo; have hi := f.hi
    walk_at "w"
    generalize hx : T * b - a * B = x at *
    generalize hy : c * B - T * d = y at *
    have zxy : Bd 111 (x + y) := bd_add z8 z9
    refine ⟨fun i δ => ∃ s7 s8, δ = [.im (.tuple [.int T, .int B]), .im (.int n), .im (.int b), .im (.int x), .im (.int d), .im (.int y), .ow (.dct (toKD (stG (([(x + y, b + d - n), (x, n - b), (y, n - d)] : List (Int × Int)).take i)))), s7, s8], ⟨_, _, rfl⟩, fun i e δ hd ⟨s7, s8, hδ⟩ => ?_, fun δ ⟨s7, s8, hδ⟩ => ?_⟩
    · subst hδ
      have hp : ∃ g m, ([(x + y, b + d - n), (x, n - b), (y, n - d)] : List (Int × Int))[i]? = some (g, m) ∧ e = .tuple [.int g, .int m] := by
        rcases i with _ | _ | _ | i
        · exact ⟨_, _, rfl, (Option.some.inj hd).symm⟩
        · exact ⟨_, _, rfl, (Option.some.inj hd).symm⟩
        · exact ⟨_, _, rfl, (Option.some.inj hd).symm⟩
        · simp at hd
      obtain ⟨g, m, hp, rfl⟩ := hp
      have hst : stG (([(x + y, b + d - n), (x, n - b), (y, n - d)] : List (Int × Int)).take (i + 1)) = if 0 < m then addG (stG (([(x + y, b + d - n), (x, n - b), (y, n - d)] : List (Int × Int)).take i)) g m else stG (([(x + y, b + d - n), (x, n - b), (y, n - d)] : List (Int × Int)).take i) := by
        rw [List.take_succ, hp]
        exact st_snoc _ g m
      have hnd := nd_st (([(x + y, b + d - n), (x, n - b), (y, n - d)] : List (Int × Int)).take i)
      have hln := len_st (([(x + y, b + d - n), (x, n - b), (y, n - d)] : List (Int × Int)).take i)
      have hln2 : (([(x + y, b + d - n), (x, n - b), (y, n - d)] : List (Int × Int)).take i).length ≤ 3 := by rw [List.length_take]; exact Nat.min_le_right _ _
      simp only [hst]
      generalize stG (([(x + y, b + d - n), (x, n - b), (y, n - d)] : List (Int × Int)).take i) = l at *
      walk_at "w"
      refine both (fun hm => ?_) (fun hm => ?_)
      · walk_at "w"
        refine we_dget2 ?_ ⟨_, rfl⟩
        walk_at "w"
        rw [look_kd]
        walk_at "w"
        refine ⟨by unfold toKD; rw [List.length_map]; omega, ?_⟩
        rw [store_add hnd, if_pos hm]
        exact ⟨_, _, rfl⟩
      · walk_at "w"
        rw [if_neg hm]
        exact ⟨_, _, rfl⟩
    · subst hδ
      walk_at "w"
      refine last (stG [(x + y, b + d - n), (x, n - b), (y, n - d)]) _ _ _ _ _ _ (nd_st _) (Nat.le_trans (len_st _) (show 3 ≤ 900 by decide)) (fun k hk => ?_) fun ys hp hs' => ?_
      · have hk2 : k = x + y ∨ k = x ∨ k = y := by
          have sub : ∀ (l : List (Int × Int)) g m, k ∈ (addG l g m).map (·.1) → k ∈ l.map (·.1) ∨ k = g := fun l g m hm => by
            rw [keys_add] at hm
            split at hm
            · exact .inl hm
            · rcases List.mem_append.mp hm with z | z
              · exact .inl z
              · exact .inr (by simpa using z)
          have e3 : [(x + y, b + d - n), (x, n - b), (y, n - d)] = (([] ++ [(x + y, b + d - n)]) ++ [(x, n - b)]) ++ [(y, n - d)] := rfl
          rw [e3, st_snoc, st_snoc, st_snoc] at hk
          have s0 : ∀ k : Int, ¬ k ∈ (stG []).map (·.1) := fun k => by simp [stG]
          repeat' split at hk
          all_goals
            first
              | exact absurd hk (s0 _)
              | (rcases sub _ _ _ hk with z | z
                 · first
                   | exact absurd z (s0 _)
                   | (rcases sub _ _ _ z with z | z
                      · first
                        | exact absurd z (s0 _)
                        | (rcases sub _ _ _ z with z | z
                           · exact absurd z (s0 _)
                           · omega)
                      · omega)
                 · omega)
        rcases hk2 with e | e | e <;> subst e
        · exact ⟨by omega, zxy⟩
        · exact ⟨by omega, z8.up (by decide)⟩
        · exact ⟨by omega, z9.up (by decide)⟩
      · rw [fin_prog (by omega) (by omega) (by omega) (by omega) (by omega) hp hs']
        have := q2 (by omega) a b c d f hs
        rw [hx, hy] at this
        exact this
end
end Wk
set_option Elab.async false
set_option linter.all false
set_option maxRecDepth 100000
set_option maxHeartbeats 4000000
/-! The defs of law k04, further. -/
namespace Wk
open PySem L2
open RZ (ItzT iZipA pi_zipA)
local macro_rules | `(tactic| walk_at "call") => `(tactic| fail)
local macro_rules | `(tactic| walk_at "e1") => `(tactic| first
  | (with_reducible apply ws_seq) | ((with_reducible apply we_var); rfl) | (with_reducible apply we_int) | ((with_reducible apply we_ixO); rfl) | (with_reducible apply we_op)
  | (with_reducible apply wr_add) | (with_reducible apply wr_sub) | (with_reducible apply wr_lt) | (with_reducible apply wr_le) | (with_reducible apply wr_gt) | (with_reducible apply wr_ge) | (with_reducible apply wr_eqI) | (with_reducible apply wr_neI) | (with_reducible apply wr_eqR) | (with_reducible apply wr_neR) | (with_reducible apply wr_isNi) | (with_reducible apply wr_isNt) | (with_reducible apply wr_isNs) | (with_reducible apply wr_isNn) | (with_reducible apply wr_notNi) | (with_reducible apply wr_notNt) | (with_reducible apply wr_notNs) | (with_reducible apply wr_notNn) | (with_reducible apply wr_isN) | (with_reducible apply wr_notN)
  | (with_reducible apply wr_ixT0) | ((with_reducible apply wr_ixT); rfl) | ((with_reducible apply wr_ixL); rfl)
  | (with_reducible apply wa_cons) | (with_reducible apply wa_nil) | (with_reducible apply we_tup)
  | (with_reducible apply wt_test) | (with_reducible apply wt_tr) | (with_reducible apply tr_bool) | (with_reducible apply sp_bool) | (with_reducible apply isT) | (with_reducible apply isF) | (with_reducible apply isNT) | (with_reducible apply isNF)
  | (with_reducible apply ws_newd) | (with_reducible apply ws_newl) | (with_reducible apply ws_dput) | (with_reducible apply ws_setL) | (with_reducible apply ws_asg) | (with_reducible apply wg_name) | (with_reducible apply ws_par) | (with_reducible apply ws_par3) | (with_reducible apply ws_ret) | (with_reducible apply ws_retN) | (with_reducible apply ws_if) | (with_reducible apply ws_next)
  | (with_reducible apply wt_and) | (with_reducible apply wt_or) | (with_reducible apply wt_not) | (with_reducible apply we_andT) | (with_reducible apply we_orT) | (with_reducible apply we_notT) | (with_reducible apply we_if) | (with_reducible apply we_chain)
  | (with_reducible apply we_bl) | (with_reducible apply we_non) | (with_reducible apply we_str)
  | (with_reducible apply we_isi_int) | (with_reducible apply we_isi_bool) | (with_reducible apply we_isi_tuple) | (with_reducible apply we_isi_str) | (with_reducible apply we_call) | ((with_reducible apply we_tupleO); rfl) | ((with_reducible apply we_lenO); rfl) | (with_reducible apply we_cb)
  | (with_reducible apply wc_abs) | (with_reducible apply wc_int) | (with_reducible apply wc_min2) | (with_reducible apply wc_max2) | ((with_reducible apply wc_len); rfl; trivial)
  | ((with_reducible apply wg_tup); rfl) | (with_reducible apply wgs_cons) | (with_reducible apply wgs_nil)
  | (with_reducible apply wo_none) | (with_reducible apply wo_some) | (with_reducible apply we_neg) | ((with_reducible refine' ws_app ?h ?hi); (case hi => exact ⟨_, _, rfl⟩)) | (with_reducible apply ws_drop))
local macro_rules | `(tactic| walk_at "e2") => `(tactic| first
  | ((with_reducible refine' And.intro ?h ?r); (case h => first | exact Nat.le_of_ble_eq_true rfl | omega))
  | ((with_reducible refine' ⟨?a, ?j, ?d, ?e1, ?e2, ?r⟩); (case a => rfl); (case e1 => rfl); (case e2 => first | rfl | with_reducible assumption))
  | ((with_reducible refine' ⟨⟨?o, ?e⟩, ?r⟩); (case e => rfl))
  | ((with_reducible refine' ⟨?p, ?d, ?j, ?m, ?e1, ?e2, ?e3, ?r⟩); (case e1 => rfl); (case e2 => rfl); (case e3 => rfl))
  | ((with_reducible refine' ⟨?w, ?e, ?r⟩); (case e => rfl))
  | ((with_reducible refine' ⟨?w, ?w2, ?e, ?r⟩); (case e => rfl))
  | ((with_reducible refine' ⟨?w, ?w2, ?w3, ?e, ?r⟩); (case e => rfl)))
local macro_rules | `(tactic| walk_at "bd") => `(tactic| first | with_reducible assumption | (with_reducible apply bd_add <;> walk_at "bd") | (with_reducible apply bd_sub <;> walk_at "bd") | (with_reducible apply bd_mul <;> walk_at "bd") | ((with_reducible apply bd_div); walk_at "bd") | ((with_reducible apply bd_mod) <;> first | omega | walk_at "bd") | (with_reducible apply bd_min <;> walk_at "bd") | (with_reducible apply bd_max <;> walk_at "bd") | ((with_reducible apply bd_abs); walk_at "bd") | ((with_reducible apply bd_neg); walk_at "bd") | exact bd_lit (n := 140) (by decide) | exact bd_pos (n := 140) (by omega) (by omega))
local macro_rules | `(tactic| walk_at "n1") => `(tactic| first
  | ((with_reducible apply wr_mulB); (focus (walk_at "bd")); (focus (walk_at "bd")); (focus decide))
  | ((with_reducible apply wr_divB); (focus omega); (focus (walk_at "bd")); (focus decide))
  | ((with_reducible apply wr_mul); (focus (first | exact mulokR (by decide) | exact mulokL (by decide))))
  | ((with_reducible apply wr_mod); (focus omega)) | ((with_reducible apply wr_pow); (focus (exact ⟨by decide, by decide, by decide⟩))))
local macro_rules | `(tactic| walk_at "d1") => `(tactic| first | ((with_reducible apply isDT); (focus (first | with_reducible assumption | omega))) | ((with_reducible apply isDF); (focus omega)) | ((with_reducible apply isNDT); (focus omega)) | ((with_reducible apply isNDF); (focus (first | with_reducible assumption | omega))))
local macro_rules | `(tactic| walk_at "w") => `(tactic| repeat first | walk_at "e1" | walk_at "n1" | walk_at "d1" | walk_at "call" | walk_at "e2")
local macro_rules | `(tactic| walk_at "call") => `(tactic| first | with_reducible apply s_is_integer_i | with_reducible apply s_common | ((with_reducible apply s_is_sized_t); (focus (simp; done))) | ((with_reducible apply s_is_within_t); (focus omega)) | ((with_reducible apply s_is_ratio); (focus (with_reducible assumption))) | ((with_reducible apply s_check_ratio); (focus (with_reducible assumption))))
local macro_rules | `(tactic| walk_at "bq") => `(tactic| (apply Bd.up; (focus (walk_at "bd")); (focus decide)))
section
variable {K : Fg}
def S_gap_kinds : PS1 := fun ds p => ∃ T B n : Int, ds = [.tuple [.int T, .int B], .int n] ∧ StepOK T B ∧ B ≤ M31 ∧ 1 ≤ n ∧ n ≤ B ∧ n ≤ 300 ∧ (n = 1 → p (gapsD B [(B, 1)])) ∧
  (2 ≤ n → ∀ a b c d, FI T B (n - 1) a b c d → n - 1 < b + d → p (gapsD B (gapsL (T * b - a * B) (c * B - T * d) (n - b) (n - d) (b + d - n))))
def S_gaps_far : PS1 := fun ds p => ∃ T B n : Int, ds = [.tuple [.int T, .int B], .int n] ∧ StepOK T B ∧ B ≤ M31 ∧ 1 ≤ n ∧ n ≤ B ∧ n ≤ M30 ∧ (n = 1 → p (gapsD B [(B, 1)])) ∧
  (2 ≤ n → ∀ a b c d, FI T B (n - 1) a b c d → n - 1 < b + d → p (gapsD B (gapsL (T * b - a * B) (c * B - T * d) (n - b) (n - d) (b + d - n))))
def N_gap_kinds : List Str := ["step", "n"]
def t_gap_kinds (K : Fg) : TS := (tSeq (tDrop (tCall (spP K S_check_points) [] E0 (tCons (tVar 0) (tCons (tVar 1) (tCons (tC k_MOST_POINTS) tNil)))))
      (tRet (tCall (spP K S_kinds_by) [] E0 (tCons (tVar 0) (tCons (tVar 1) tNil)))))
def N_gaps_far : List Str := ["step", "n"]
def t_gaps_far (K : Fg) : TS := (tSeq (tDrop (tCall (spP K S_check_points) [] E0 (tCons (tVar 0) (tCons (tVar 1) (tCons (tC k_MOST_FAR) tNil)))))
      (tRet (tCall (spP K S_kinds_by) [] E0 (tCons (tVar 0) (tCons (tVar 1) tNil)))))
theorem body_gap_kinds : Body K S_gap_kinds N_gap_kinds (t_gap_kinds K) := by
  rintro ds p ⟨T, B, n, rfl, h, hB, h1, h2, h3, q⟩ C -
  show WS K C _ [.im (.tuple [.int T, .int B]), .im (.int n)] _ _ _ _
  unfold t_gap_kinds
  walk_at "w"
  refine s_check_points h hB ⟨h1, h3, h2⟩ ?_
  walk_at "w"
  exact ⟨T, B, n, rfl, h, hB, h1, h2, q⟩
theorem body_gaps_far : Body K S_gaps_far N_gaps_far (t_gaps_far K) := by
  rintro ds p ⟨T, B, n, rfl, h, hB, h1, h2, h3, q⟩ C -
  show WS K C _ [.im (.tuple [.int T, .int B]), .im (.int n)] _ _ _ _
  unfold t_gaps_far
  walk_at "w"
  refine s_check_points h hB ⟨h1, h3, h2⟩ ?_
  walk_at "w"
  exact ⟨T, B, n, rfl, h, hB, h1, h2, q⟩
/-- the greatest gap ahead of all -/
theorem gaps_head {T B n : Int} {p : PyData → Prop} (h1 : 1 ≤ n) (h2 : n ≤ B) (q : ∀ v m r, MX T B n v → p (.tuple (.tuple [.tuple [.int (v / Int.gcd v B), .int (B / Int.gcd v B)], .int m] :: r))) :
    (n = 1 → p (gapsD B [(B, 1)])) ∧ (2 ≤ n → ∀ a b c d, FI T B (n - 1) a b c d → n - 1 < b + d → p (gapsD B (gapsL (T * b - a * B) (c * B - T * d) (n - b) (n - d) (b + d - n)))) := by
  refine ⟨fun e => q B 1 [] (.inl ⟨e, rfl⟩), fun h2' a b c d f hs => ?_⟩
  obtain ⟨m, r, e⟩ := gapsL_head (x := T * b - a * B) (y := c * B - T * d) (p := n - b) (q := n - d) (s := b + d - n)
  rw [e]
  refine q _ m _ (.inr ⟨h2', h2, a, b, c, d, f, hs, ?_⟩)
  by_cases z : n < b + d
  · rw [if_pos z, if_pos (by omega)]
  · rw [if_neg z, if_neg (by omega)]
theorem s_kinds_head {T B n : Int} {p : PyData → Prop} (h : StepOK T B) (hB : B ≤ M31) (h1 : 1 ≤ n) (h2 : n ≤ B) (q : ∀ v m r, MX T B n v → p (.tuple (.tuple [.tuple [.int (v / Int.gcd v B), .int (B / Int.gcd v B)], .int m] :: r))) : S_kinds_by [.tuple [.int T, .int B], .int n] p :=
  ⟨T, B, n, rfl, h, hB, h1, h2, gaps_head h1 h2 q⟩
theorem s_far_head {T B n : Int} {p : PyData → Prop} (h : StepOK T B) (hB : B ≤ M31) (h1 : 1 ≤ n) (h2 : n ≤ B) (h3 : n ≤ M30) (q : ∀ v m r, MX T B n v → p (.tuple (.tuple [.tuple [.int (v / Int.gcd v B), .int (B / Int.gcd v B)], .int m] :: r))) : S_gaps_far [.tuple [.int T, .int B], .int n] p :=
  ⟨T, B, n, rfl, h, hB, h1, h2, h3, gaps_head h1 h2 q⟩
def S_fewest_for : PS1 := fun ds p => ∃ T B n g : Int, ds = [.tuple [.int T, .int B], .tuple [.int (g / Int.gcd g B), .int (B / Int.gcd g B)]] ∧ StepOK T B ∧ B ≤ M31 ∧ 1 ≤ n ∧ n ≤ B ∧ MX T B n g ∧
  ∀ f, 1 ≤ f → f ≤ n → (∀ v, MX T B f v → v = g) → (f = 1 ∨ ∀ v, MX T B (f - 1) v → g < v) → p (.int f)
theorem red_bd {T B n v : Int} (h : StepOK T B) (hB : B ≤ M31) (x : MX T B n v) : Bd 110 (v / Int.gcd v B) ∧ Bd 110 (B / Int.gcd v B) := by
  obtain ⟨h1, h2⟩ := mx_pos h x
  have b0 := h.t0; have b1 := h.tb
  obtain ⟨l1, l2⟩ := red_le (g := v) (B := B) (by omega) (by omega)
  have p1 := red_pos (g := v) (B := B) (by omega)
  have p2 := red_posL (g := v) (B := B) (by omega) (by omega)
  exact ⟨m31_bd (by omega) (by omega), m31_bd (by omega) (by omega)⟩
theorem red_ok {T B n v : Int} (h : StepOK T B) (hB : B ≤ M31) (x : MX T B n v) : RatOK (v / Int.gcd v B) (B / Int.gcd v B) ∧ 1 ≤ v / Int.gcd v B := by
  obtain ⟨h1, h2⟩ := mx_pos h x
  have b0 := h.t0; have b1 := h.tb
  obtain ⟨l1, l2⟩ := red_le (g := v) (B := B) (by omega) (by omega)
  have p1 := red_pos (g := v) (B := B) (by omega)
  have p2 := red_posL (g := v) (B := B) (by omega) (by omega)
  have := m31_40
  obtain ⟨_, _, _, e⟩ := red (g := v) (B := B) (by omega)
  exact ⟨⟨by omega, by omega, by omega, e⟩, by omega⟩
def N_fewest_for : List Str := ["step", "gap", "low", "high", "middle"]
def t_fewest_for (K : Fg) : TS := (tSeq (tDrop (tCall (spP K S_check_step) [] E0 (tCons (tVar 0) tNil)))
      (tSeq (tIfS (tOr (tNot (tTr K (tCall (spP K S_is_ratio) [] E0 (tCons (tVar 1) tNil)))) (tTest (tOp rLeI (tOp (rIx K) (tVar 1) (tC (.int 0))) (tC (.int 0))))) tNever tNext)
      (tSeq (tPar 2 3 (tCons (tC (.int 0)) (tCons (tOp (rIx K) (tVar 0) (tC (.int 1))) tNil)))
      (tSeq (tIfS (tTr K (tCall (spP K S_is_less) [] E0 (tCons (tVar 1) (tCons (tTup (tCons (tC (.int 1)) (tCons (tOp (rIx K) (tVar 0) (tC (.int 1))) tNil))) tNil)))) (tRet (tC .non)) tNext)
      (tSeq (tWhile (tTest (tOp rGtI (tOp rSubI (tVar 3) (tVar 2)) (tC (.int 1)))) (tSeq (tAsg (tOp rDivI (tOp rAddI (tVar 2) (tVar 3)) (tC (.int 2))) (gName 4))
      (tIfS (tTr K (tCall (spP K S_is_less) [] E0 (tCons (tVar 1) (tCons (tOp (rIx K) (tOp (rIx K) (tCall (spP K S_kinds_by) [] E0 (tCons (tVar 0) (tCons (tVar 4) tNil))) (tC (.int 0))) (tC (.int 0))) tNil)))) (tAsg (tVar 4) (gName 2)) (tAsg (tVar 4) (gName 3)))))
      (tRet (tVar 3)))))))
theorem body_fewest_for : Body K S_fewest_for N_fewest_for (t_fewest_for K) := by
  rintro ds p ⟨T, B, n, g, rfl, h, hB, h1, h2, hx, q⟩ C -
  show WS K C _ [.im (.tuple [.int T, .int B]), .im (.tuple [.int (g / Int.gcd g B), .int (B / Int.gcd g B)]), .un, .un, .un] _ _ _ _
  unfold t_fewest_for
  have t0 := h.t0
  have tb := h.tb
  have b0 : Bd 110 B := m31_bd (by omega) hB
  obtain ⟨r1, r2⟩ := red_ok h hB hx
  obtain ⟨z1, z2⟩ := red_bd h hB hx
  obtain ⟨l1, l2⟩ := red_le (g := g) (B := B) (by have := mx_pos h hx; omega) (by omega)
  walk_at "w"
  refine s_check_step h hB ?_
  walk_at "w"
  refine s_is_less ⟨bd_up10 z1, bd_up10 z2, by walk_at "bq", bd_up10 b0⟩ ?_
  have nl : ¬ (g / Int.gcd g B) * B < 1 * (B / Int.gcd g B) := by
    have := Int.mul_le_mul_of_nonneg_right r2 (show 0 ≤ B by omega)
    omega
  rw [decide_eq_false nl]
  walk_at "w"
  refine ws_while (fun w δ => ∃ (lo hi : Int) (s4 : SV), δ = [.im (.tuple [.int T, .int B]), .im (.tuple [.int (g / Int.gcd g B), .int (B / Int.gcd g B)]), .im (.int lo), .im (.int hi), s4] ∧ 0 ≤ lo ∧ lo < hi ∧ hi ≤ B ∧
    (lo = 0 ∨ ∀ v, MX T B lo v → g < v) ∧ (∀ v, MX T B hi v → v ≤ g) ∧ w = (hi - lo).toNat) _ ⟨0, B, _, rfl, by omega, by omega, by omega, .inl rfl, fun v hv => mx_le h h1 h2 (by omega) hx hv, rfl⟩ ?_
  rintro w δ ⟨lo, hi, s4, rfl, i1, i2, i3, i4, i5, rfl⟩
  walk_at "w"
  refine both (fun hw => ?_) (fun hw => ?_)
  · walk_at "w"
    have hm1 : 1 ≤ (lo + hi) / 2 := by omega
    have hm2 : (lo + hi) / 2 ≤ B := by omega
    refine s_kinds_head h hB hm1 hm2 fun v m r hv => ?_
    obtain ⟨y1, y2⟩ := red_bd h hB hv
    walk_at "w"
    refine s_is_less ⟨bd_up10 z1, bd_up10 z2, bd_up10 y1, bd_up10 y2⟩ ?_
    walk_at "w"
    refine both (fun hl => ?_) (fun hl => ?_)
    · rw [red_lt (by omega)] at hl
      walk_at "w"
      exact ⟨_, by omega, _, hi, _, rfl, by omega, by omega, i3, .inr fun v' hv' => by rw [mx_one hv hv']; exact hl, i5, rfl⟩
    · rw [red_lt (by omega)] at hl
      walk_at "w"
      exact ⟨_, by omega, lo, _, _, rfl, i1, by omega, by omega, i4, fun v' hv' => by rw [mx_one hv hv']; omega, rfl⟩
  · walk_at "w"
    have e : lo = hi - 1 := by omega
    have hn : hi ≤ n := by
      apply Decidable.byContradiction
      intro hn
      rcases i4 with z | z
      · omega
      · obtain ⟨v, hv⟩ := mx_has (n := lo) h (by omega) (by omega)
        have := mx_le h h1 (by omega) (by omega) hx hv
        have := z v hv
        omega
    refine q hi (by omega) hn (fun v hv => ?_) ?_
    · have := i5 v hv
      have := mx_le h (by omega) hn h2 hv hx
      omega
    · rcases i4 with z | z
      · exact .inl (by omega)
      · rw [e] at z; exact .inr z
/-! rows -/
abbrev k_MOST_ROW : V := .int 2000
def S_check_count : PS1 := fun ds p => ∃ n m : Int, ds = [.int n, .int m] ∧ 1 ≤ n ∧ n ≤ m ∧ p .none
theorem s_check_count {n m : Int} {p : PyData → Prop} (h : 1 ≤ n ∧ n ≤ m) (q : p .none) : S_check_count [.int n, .int m] p := ⟨n, m, rfl, h.1, h.2, q⟩
def N_check_count : List Str := ["n", "most"]
def t_check_count (K : Fg) : TS := (tIfS (tNot (tTr K (tCall (spP K S_is_within) [] E0 (tCons (tVar 0) (tCons (tC (.int 1)) (tCons (tVar 1) tNil)))))) tNever tNext)
theorem body_check_count : Body K S_check_count N_check_count (t_check_count K) := by
  rintro ds p ⟨n, m, rfl, h1, h2, q⟩ C -
  show WS K C _ [.im (.int n), .im (.int m)] _ _ _ _
  unfold t_check_count
  walk_at "w"
  exact q
def S_pow_inverse : PS1 := fun ds p => ∃ t m : Int, ds = [.int t, .int m] ∧ 2 ≤ m ∧ Bd 200 m ∧ Int.gcd t m = 1 ∧ ∀ i, 0 ≤ i → i < m → m ∣ t * i - 1 → p (.int i)
def N_pow_inverse : List Str := ["top", "bottom", "one", "other", "a", "b", "quotient"]
def t_pow_inverse (K : Fg) : TS := (tSeq (tAsg (tTup (tCons (tC (.int 1)) (tCons (tC (.int 0)) (tCons (tOp rModI (tVar 0) (tVar 1)) (tCons (tVar 1) tNil))))) (gTup K 4 (gCons (gName 2) (gCons (gName 3) (gCons (gName 4) (gCons (gName 5) gNil))))))
      (tSeq (tWhile (tTest (tOp rGtI (tVar 5) (tC (.int 0)))) (tSeq (tAsg (tOp rDivI (tVar 4) (tVar 5)) (gName 6))
      (tSeq (tPar 4 5 (tCons (tVar 5) (tCons (tOp rSubI (tVar 4) (tOp rMulI (tVar 6) (tVar 5))) tNil)))
      (tPar 2 3 (tCons (tVar 3) (tCons (tOp rSubI (tVar 2) (tOp rMulI (tVar 6) (tVar 3))) tNil))))))
      (tRet (tOp rModI (tVar 2) (tVar 1)))))
theorem body_pow_inverse : Body K S_pow_inverse N_pow_inverse (t_pow_inverse K) := by
  rintro ds p ⟨t, m, rfl, hm, hb, hg, q⟩ C -
  show WS K C _ [.im (.int t), .im (.int m), .un, .un, .un, .un, .un] _ _ _ _
  unfold t_pow_inverse
  have m1 := Int.emod_lt_of_pos t (show 0 < m by omega)
  have m2 := Int.emod_nonneg t (show m ≠ 0 by omega)
  have hg' : Int.gcd (t % m) m = 1 := by rw [Int.gcd_comm, gcd_turn' (by omega)]; exact hg
  walk_at "w"
  refine ws_while (fun w δ => ∃ (x y a b s : Int) (s6 : SV), δ = [.im (.int t), .im (.int m), .im (.int x), .im (.int y), .im (.int a), .im (.int b), s6] ∧ 1 ≤ a ∧ a ≤ m ∧ 0 ≤ b ∧ b ≤ m ∧ Int.gcd a b = 1 ∧ m ∣ t * x - a ∧ m ∣ t * y - b ∧
    (s = 1 ∨ s = -1) ∧ 0 ≤ s * x ∧ s * y ≤ 0 ∧ a * (-(s * y)) + b * (s * x) = m ∧ w = b.toNat) _ ⟨1, 0, t % m, m, 1, _, rfl, ?_, by omega, by omega, by omega, hg', ?_, ?_, .inl rfl, by omega, by omega, by omega, rfl⟩ ?_
  · apply Decidable.byContradiction
    intro hn
    have e : t % m = 0 := by omega
    rw [e] at hg'
    simp at hg'
    omega
  · exact ⟨t / m, by have := Int.emod_add_mul_ediv t m; omega⟩
  · exact ⟨-1, by omega⟩
  rintro w δ ⟨x, y, a, b, s, s6, rfl, ha1, ha2, hb1, hb2, hab, d1, d2, hs, hx, hy, he, rfl⟩
  have za : Bd 200 a := bd_le hb (by omega) ha2
  have zb : Bd 200 b := bd_le hb hb1 hb2
  have zy : Bd 200 y := by
    have k1 : 1 * (-(s * y)) ≤ a * (-(s * y)) := Int.mul_le_mul_of_nonneg_right ha1 (by omega)
    have k2 : 0 ≤ b * (s * x) := Int.mul_nonneg hb1 hx
    rcases hs with e | e <;> subst e
    · exact bd_neg' (bd_le hb (by omega) (by omega))
    · exact bd_le hb (by omega) (by omega)
  walk_at "w"
  refine both (fun hw => ?_) (fun hw => ?_)
  · walk_at "w"
    have e1 := Int.emod_add_mul_ediv a b
    have e2 : a - a / b * b = a % b := by rw [Int.mul_comm (a / b) b]; omega
    have e3 := Int.emod_lt_of_pos a hw
    have e4 := Int.emod_nonneg a (show b ≠ 0 by omega)
    rw [e2]
    refine ⟨_, by omega, y, x - a / b * y, b, a % b, -s, _, rfl, by omega, hb2, e4, by omega, by rw [gcd_turn hw (by omega)]; exact hab, d2, ?_, by omega, ?_, ?_, ?_, rfl⟩
    · obtain ⟨u, hu⟩ := d1
      obtain ⟨v, hv⟩ := d2
      refine ⟨u - a / b * v, ?_⟩
      rw [Int.mul_sub, Int.mul_sub, ← hu, Int.mul_left_comm t (a / b) y, Int.mul_left_comm m (a / b) v, ← hv, Int.mul_sub]
      have : a / b * b = b * (a / b) := Int.mul_comm _ _
      omega
    · rw [Int.neg_mul]; omega
    · have k : 0 ≤ (a / b) * (-(s * y)) := Int.mul_nonneg (Int.ediv_nonneg (by omega) hb1) (by omega)
      have k2 : -s * (x - a / b * y) = -(s * x) - (a / b) * (-(s * y)) := by
        rw [Int.mul_sub, Int.neg_mul, Int.neg_mul, Int.mul_left_comm s (a / b) y, Int.mul_neg]
      rw [k2]; omega
    · have k2 : -s * (x - a / b * y) = -(s * x) + (a / b) * (s * y) := by
        rw [Int.mul_sub, Int.neg_mul, Int.neg_mul, Int.mul_left_comm s (a / b) y]; omega
      rw [k2]
      have k3 : a % b = a - b * (a / b) := by omega
      rw [k3, Int.neg_mul s y]
      generalize hX : s * x = X at *
      generalize hY : s * y = Y at *
      generalize a / b = Q at *
      have r1 : b * -(-X + Q * Y) = b * X - b * (Q * Y) := by rw [show -(-X + Q * Y) = X - Q * Y by omega, Int.mul_sub]
      have r2 : (a - b * Q) * -Y = a * -Y + b * (Q * Y) := by rw [Int.sub_mul, Int.mul_neg (b * Q) Y, Int.mul_assoc]; omega
      rw [r1, r2]; omega
  · walk_at "w"
    have e : b = 0 := by omega
    subst e
    have ea : a = 1 := by
      simp at hab
      omega
    subst ea
    refine q _ (Int.emod_nonneg x (by omega)) (Int.emod_lt_of_pos x (by omega)) ?_
    obtain ⟨u, hu⟩ := d1
    refine ⟨u - t * (x / m), ?_⟩
    have e5 := Int.emod_add_mul_ediv x m
    have e6 : x % m = x - m * (x / m) := by omega
    rw [e6, Int.mul_sub, Int.mul_sub, ← hu, Int.mul_left_comm t m]; omega
end
end Wk
set_option Elab.async false
set_option linter.all false
set_option maxRecDepth 100000
set_option maxHeartbeats 4000000
/-! The defs of law k04, further. -/
namespace Wk
open PySem L2
open RZ (ItzT iZipA pi_zipA)
local macro_rules | `(tactic| walk_at "call") => `(tactic| fail)
local macro_rules | `(tactic| walk_at "e1") => `(tactic| first
  | (with_reducible apply ws_seq) | ((with_reducible apply we_var); rfl) | (with_reducible apply we_int) | ((with_reducible apply we_ixO); rfl) | (with_reducible apply we_op)
  | (with_reducible apply wr_add) | (with_reducible apply wr_sub) | (with_reducible apply wr_lt) | (with_reducible apply wr_le) | (with_reducible apply wr_gt) | (with_reducible apply wr_ge) | (with_reducible apply wr_eqI) | (with_reducible apply wr_neI) | (with_reducible apply wr_eqR) | (with_reducible apply wr_neR) | (with_reducible apply wr_isNi) | (with_reducible apply wr_isNt) | (with_reducible apply wr_isNs) | (with_reducible apply wr_isNn) | (with_reducible apply wr_notNi) | (with_reducible apply wr_notNt) | (with_reducible apply wr_notNs) | (with_reducible apply wr_notNn) | (with_reducible apply wr_isN) | (with_reducible apply wr_notN)
  | (with_reducible apply wr_ixT0) | ((with_reducible apply wr_ixT); rfl) | ((with_reducible apply wr_ixL); rfl)
  | (with_reducible apply wa_cons) | (with_reducible apply wa_nil) | (with_reducible apply we_tup)
  | (with_reducible apply wt_test) | (with_reducible apply wt_tr) | (with_reducible apply tr_bool) | (with_reducible apply sp_bool) | (with_reducible apply isT) | (with_reducible apply isF) | (with_reducible apply isNT) | (with_reducible apply isNF)
  | (with_reducible apply ws_newd) | (with_reducible apply ws_newl) | (with_reducible apply ws_dput) | (with_reducible apply ws_setL) | (with_reducible apply ws_asg) | (with_reducible apply wg_name) | (with_reducible apply ws_par) | (with_reducible apply ws_par3) | (with_reducible apply ws_ret) | (with_reducible apply ws_retN) | (with_reducible apply ws_if) | (with_reducible apply ws_next)
  | (with_reducible apply wt_and) | (with_reducible apply wt_or) | (with_reducible apply wt_not) | (with_reducible apply we_andT) | (with_reducible apply we_orT) | (with_reducible apply we_notT) | (with_reducible apply we_if) | (with_reducible apply we_chain)
  | (with_reducible apply we_bl) | (with_reducible apply we_non) | (with_reducible apply we_str)
  | (with_reducible apply we_isi_int) | (with_reducible apply we_isi_bool) | (with_reducible apply we_isi_tuple) | (with_reducible apply we_isi_str) | (with_reducible apply we_call) | ((with_reducible apply we_tupleO); rfl) | ((with_reducible apply we_lenO); rfl) | (with_reducible apply we_cb)
  | (with_reducible apply wc_abs) | (with_reducible apply wc_int) | (with_reducible apply wc_min2) | (with_reducible apply wc_max2) | ((with_reducible apply wc_len); rfl; trivial)
  | ((with_reducible apply wg_tup); rfl) | (with_reducible apply wgs_cons) | (with_reducible apply wgs_nil)
  | (with_reducible apply wo_none) | (with_reducible apply wo_some) | (with_reducible apply we_neg) | ((with_reducible refine' ws_app ?h ?hi); (case hi => exact ⟨_, _, rfl⟩)) | (with_reducible apply ws_drop))
local macro_rules | `(tactic| walk_at "e2") => `(tactic| first
  | ((with_reducible refine' And.intro ?h ?r); (case h => first | exact Nat.le_of_ble_eq_true rfl | omega))
  | ((with_reducible refine' ⟨?a, ?j, ?d, ?e1, ?e2, ?r⟩); (case a => rfl); (case e1 => rfl); (case e2 => first | rfl | with_reducible assumption))
  | ((with_reducible refine' ⟨⟨?o, ?e⟩, ?r⟩); (case e => rfl))
  | ((with_reducible refine' ⟨?p, ?d, ?j, ?m, ?e1, ?e2, ?e3, ?r⟩); (case e1 => rfl); (case e2 => rfl); (case e3 => rfl))
  | ((with_reducible refine' ⟨?w, ?e, ?r⟩); (case e => rfl))
  | ((with_reducible refine' ⟨?w, ?w2, ?e, ?r⟩); (case e => rfl))
  | ((with_reducible refine' ⟨?w, ?w2, ?w3, ?e, ?r⟩); (case e => rfl)))
local macro_rules | `(tactic| walk_at "bd") => `(tactic| first | with_reducible assumption | (with_reducible apply bd_add <;> walk_at "bd") | (with_reducible apply bd_sub <;> walk_at "bd") | (with_reducible apply bd_mul <;> walk_at "bd") | ((with_reducible apply bd_div); walk_at "bd") | ((with_reducible apply bd_mod) <;> first | omega | walk_at "bd") | (with_reducible apply bd_min <;> walk_at "bd") | (with_reducible apply bd_max <;> walk_at "bd") | ((with_reducible apply bd_abs); walk_at "bd") | ((with_reducible apply bd_neg); walk_at "bd") | exact bd_lit (n := 140) (by decide) | exact bd_pos (n := 140) (by omega) (by omega))
local macro_rules | `(tactic| walk_at "n1") => `(tactic| first
  | ((with_reducible apply wr_mulB); (focus (walk_at "bd")); (focus (walk_at "bd")); (focus decide))
  | ((with_reducible apply wr_divB); (focus omega); (focus (walk_at "bd")); (focus decide))
  | ((with_reducible apply wr_mul); (focus (first | exact mulokR (by decide) | exact mulokL (by decide))))
  | ((with_reducible apply wr_mod); (focus omega)) | ((with_reducible apply wr_pow); (focus (exact ⟨by decide, by decide, by decide⟩))))
local macro_rules | `(tactic| walk_at "d1") => `(tactic| first | ((with_reducible apply isDT); (focus (first | with_reducible assumption | omega))) | ((with_reducible apply isDF); (focus omega)) | ((with_reducible apply isNDT); (focus omega)) | ((with_reducible apply isNDF); (focus (first | with_reducible assumption | omega))))
local macro_rules | `(tactic| walk_at "w") => `(tactic| repeat first | walk_at "e1" | walk_at "n1" | walk_at "d1" | walk_at "call" | walk_at "e2")
local macro_rules | `(tactic| walk_at "call") => `(tactic| first | with_reducible apply s_is_integer_i | with_reducible apply s_common | ((with_reducible apply s_is_sized_t); (focus (simp; done))) | ((with_reducible apply s_is_within_t); (focus omega)) | ((with_reducible apply s_is_ratio); (focus (with_reducible assumption))) | ((with_reducible apply s_check_ratio); (focus (with_reducible assumption))))
local macro_rules | `(tactic| walk_at "bq") => `(tactic| (apply Bd.up; (focus (walk_at "bd")); (focus decide)))
section
variable {K : Fg}
def S_made_top : PS1 := fun ds p => ∃ a b d : Int, ds = [.int a, .int b, .int d] ∧ Bd 500 a ∧ Bd 500 d ∧ 0 < b ∧ Bd 500 b ∧ p (.int ((1 + a * d) / b))
def N_made_top : List Str := ["top", "bottom", "last"]
def t_made_top (K : Fg) : TS := (tRet (tOp rDivI (tOp rAddI (tC (.int 1)) (tOp rMulI (tVar 0) (tVar 2))) (tVar 1)))
theorem body_made_top : Body K S_made_top N_made_top (t_made_top K) := by
  rintro ds p ⟨a, b, d, rfl, h1, h2, h3, h4, q⟩ C -
  show WS K C _ [.im (.int a), .im (.int b), .im (.int d)] _ _ _ _
  unfold t_made_top
  walk_at "w"
  exact q
/-- the next one, None behind 1 -/
def S_next_of : PS1 := fun ds p => ∃ n a b : Int, ds = [.int n, .tuple [.int a, .int b]] ∧ 1 ≤ n ∧ n ≤ 2000 ∧ 0 ≤ a ∧ a ≤ b ∧ 1 ≤ b ∧ b ≤ n ∧ Int.gcd a b = 1 ∧ (b = 1 → a = 1 → p .none) ∧ (a < b → ∀ c d, NX n a b c d → p (.tuple [.int c, .int d]))
def N_next_of : List Str := ["n", "ratio", "top", "bottom", "inverse", "last"]
def t_next_of (K : Fg) : TS := (tSeq (tIfS (tTest (tOp (rEqD K) (tVar 1) (tTup (tCons (tC (.int 1)) (tCons (tC (.int 1)) tNil))))) (tRet (tC .non)) tNext)
      (tSeq (tAsg (tVar 1) (gTup K 2 (gCons (gName 2) (gCons (gName 3) gNil))))
      (tSeq (tAsg (tIf (tTest (tOp (rEqD K) (tVar 3) (tC (.int 1)))) (tC (.int 0)) (tCall (spP K S_pow_inverse) [] E0 (tCons (tVar 2) (tCons (tVar 3) tNil)))) (gName 4))
      (tSeq (tAsg (tIf (tTest (tOp rGtI (tVar 3) (tC (.int 1)))) (tOp rSubI (tVar 0) (tOp rModI (tOp rAddI (tVar 0) (tVar 4)) (tVar 3))) (tVar 0)) (gName 5))
      (tRet (tTup (tCons (tCall (spP K S_made_top) [] E0 (tCons (tVar 2) (tCons (tVar 3) (tCons (tVar 5) tNil)))) (tCons (tVar 5) tNil))))))))
theorem body_next_of : Body K S_next_of N_next_of (t_next_of K) := by
  rintro ds p ⟨n, a, b, rfl, hn1, hn2, ha, hab, hb1, hb2, hg, q1, q2⟩ C -
  show WS K C _ [.im (.int n), .im (.tuple [.int a, .int b]), .un, .un, .un, .un] _ _ _ _
  unfold t_next_of
  have za : Bd 20 a := bd_pos ha (by omega)
  have zb : Bd 20 b := bd_pos (by omega) (by omega)
  walk_at "w"
  refine both (fun h => ?_) (fun h => ?_)
  · walk_at "w"
    exact q1 h.2 h.1
  have hlt : a < b := by
    apply Decidable.byContradiction
    intro hn
    have e : a = b := by omega
    subst e
    simp at hg
    omega
  walk_at "w"
  refine both (fun hb => ?_) (fun hb => ?_)
  · walk_at "w"
    have ea : a = 0 := by omega
    subst hb ea
    refine ⟨0, 1, n, rfl, za.up (by decide), bd_pos (by omega) (by omega), by omega, zb.up (by decide), ?_⟩
    walk_at "w"
    exact q2 hlt _ _ ⟨by omega, by omega, by omega⟩
  · walk_at "w"
    refine ⟨a, b, rfl, by omega, zb.up (by decide), hg, fun i hi1 hi2 hi3 => ?_⟩
    walk_at "w"
    have r1 := Int.emod_lt_of_pos (n + i) (show 0 < b by omega)
    have r2 := Int.emod_nonneg (n + i) (show b ≠ 0 by omega)
    refine ⟨a, b, _, rfl, za.up (by decide), bd_pos (by omega) (by omega), by omega, zb.up (by decide), ?_⟩
    walk_at "w"
    exact q2 hlt _ _ (nx_has (by omega) hi3)
def S_check_in : PS1 := fun ds p => ∃ n a b : Int, ds = [.int n, .tuple [.int a, .int b]] ∧ 1 ≤ n ∧ n ≤ 2000 ∧ 0 ≤ a ∧ a ≤ b ∧ 1 ≤ b ∧ b ≤ n ∧ Int.gcd a b = 1 ∧ p .none
theorem m40_big : (2001 : Int) < M40 := by unfold M40; decide
def N_check_in : List Str := ["n", "ratio"]
def t_check_in (K : Fg) : TS := (tSeq (tDrop (tCall (spP K S_check_count) [] E0 (tCons (tVar 0) (tCons (tC k_MOST_ROW) tNil))))
      (tIfS (tOr (tNot (tTr K (tCall (spP K S_is_ratio) [] E0 (tCons (tVar 1) tNil)))) (tNot (tTest (tChain3 rLeI rLeI rLeI (tC (.int 0)) (tOp (rIx K) (tVar 1) (tC (.int 0))) (tOp (rIx K) (tVar 1) (tC (.int 1))) (tVar 0))))) tNever tNext))
theorem body_check_in : Body K S_check_in N_check_in (t_check_in K) := by
  rintro ds p ⟨n, a, b, rfl, hn1, hn2, ha, hab, hb1, hb2, hg, q⟩ C -
  show WS K C _ [.im (.int n), .im (.tuple [.int a, .int b])] _ _ _ _
  unfold t_check_in
  have := m40_big
  have hr : RatOK a b := ⟨by omega, by omega, by omega, hg⟩
  walk_at "w"
  refine s_check_count ⟨hn1, hn2⟩ ?_
  walk_at "w"
  refine we_chain3 ?_
  walk_at "w"
  exact q
def S_next_in : PS1 := S_next_of
def N_next_in : List Str := ["n", "ratio"]
def t_next_in (K : Fg) : TS := (tSeq (tDrop (tCall (spP K S_check_in) [] E0 (tCons (tVar 0) (tCons (tVar 1) tNil))))
      (tRet (tCall (spP K S_next_of) [] E0 (tCons (tVar 0) (tCons (tVar 1) tNil)))))
theorem body_next_in : Body K S_next_in N_next_in (t_next_in K) := by
  rintro ds p ⟨n, a, b, rfl, hn1, hn2, ha, hab, hb1, hb2, hg, q⟩ C -
  show WS K C _ [.im (.int n), .im (.tuple [.int a, .int b])] _ _ _ _
  unfold t_next_in
  walk_at "w"
  refine ⟨n, a, b, rfl, hn1, hn2, ha, hab, hb1, hb2, hg, ?_⟩
  walk_at "w"
  exact ⟨n, a, b, rfl, hn1, hn2, ha, hab, hb1, hb2, hg, q⟩
/-! the law's step and gaps -/
def S__law_step : PS2 := fun hs ds p => ds = [] ∧ HandOK hs ∧ ∀ T B hs', StepOK T B → B ≤ M30 → HandOK hs' → p (.tuple [.int T, .int B]) hs'
theorem m30_31 : M30 ≤ M31 := by unfold M30 M31; decide
theorem m31_big : (999999999999999999999999999997 : Int) ≤ M30 := by unfold M30; decide
def N__law_step : List Str := ["hand", "bottom", "top", "shared"]
def t__law_step (K : Fg) : TS := (tSeq (tAsg (tOp rAddI (tC (.int 2)) (tCall (spH K S__law_draw) [] E0 (tCons (tVar 0) (tCons (tCall (spH K S__law_any) [] E0 (tCons (tVar 0) (tCons (tLst (tCons (tC (.int 5)) (tCons (tC (.int 59)) (tCons (tC (.int 299)) (tCons (tOp rPowI (tC (.int 10)) (tC (.int 9))) (tCons (tOp rSubI (tOp rPowI (tC (.int 10)) (tC (.int 30))) (tC (.int 5))) tNil)))))) tNil))) tNil)))) (gName 1))
      (tSeq (tAsg (tOp rAddI (tC (.int 1)) (tCall (spH K S__law_draw) [] E0 (tCons (tVar 0) (tCons (tOp rSubI (tVar 1) (tC (.int 1))) tNil)))) (gName 2))
      (tSeq (tAsg (tCall (spP K S__law_gcd) [] E0 (tCons (tVar 2) (tCons (tVar 1) tNil))) (gName 3))
      (tRet (tTup (tCons (tOp rDivI (tVar 2) (tVar 3)) (tCons (tOp rDivI (tVar 1) (tVar 3)) tNil)))))))
theorem body__law_step : BodyH K S__law_step N__law_step (t__law_step K) := by
  rintro ha hs ds p ⟨rfl, hh, q⟩ C
  show WS K C _ [.ow (.lst (some ha) hs), .un, .un, .un] _ _ _ _
  unfold t__law_step
  walk_at "w"
  refine we_callH ?_ ⟨_, rfl⟩
  refine wa_cons ?_
  refine we_callH ?_ ⟨_, rfl⟩
  walk_at "w"
  refine we_new (wn_lst ?_)
  walk_at "w"
  refine s_any hh (by simp) (by simp) fun e hs1 he hh1 => ?_
  have hv : ∃ v : Int, e = .int v ∧ 5 ≤ v ∧ v ≤ 999999999999999999999999999995 := by
    simp only [List.mem_cons, List.not_mem_nil, or_false] at he
    rcases he with rfl | rfl | rfl | rfl | rfl
    · exact ⟨_, rfl, by decide, by decide⟩
    · exact ⟨_, rfl, by decide, by decide⟩
    · exact ⟨_, rfl, by decide, by decide⟩
    · exact ⟨_, rfl, by decide, by decide⟩
    · exact ⟨_, rfl, by decide, by decide⟩
  obtain ⟨v, rfl, hv1, hv2⟩ := hv
  have := m31_big
  have := m30_31
  walk_at "w"
  refine s_draw hh1 (by omega) (n := 110) (m31_bd (by omega) (by omega)) (by decide) fun d hs2 d0 d1 hh2 => ?_
  walk_at "w"
  refine we_callH ?_ ⟨_, rfl⟩
  walk_at "w"
  refine s_draw hh2 (by omega) (n := 110) (m31_bd (by omega) (by omega)) (by decide) fun t hs3 t0 t1 hh3 => ?_
  walk_at "w"
  refine ⟨_, _, rfl, ?_⟩
  obtain ⟨g1, g2, g3, g4⟩ := red (g := 1 + t) (B := 2 + d) (by omega)
  have p1 := red_posL (g := 1 + t) (B := 2 + d) (by omega) (by omega)
  obtain ⟨l1, l2⟩ := red_le (g := 1 + t) (B := 2 + d) (by omega) (by omega)
  have gb : Bd 110 (Int.gcd (1 + t) (2 + d) : Int) := m31_bd (by omega) (by have := (gcd_le_r (a := 1 + t) (b := 2 + d) (by omega)).2; omega)
  walk_at "w"
  refine q _ _ _ ⟨by omega, ?_, g4⟩ (by omega) hh3
  apply Decidable.byContradiction
  intro hn
  have := Int.mul_le_mul_of_nonneg_left (show (2 + d) / (Int.gcd (1 + t) (2 + d) : Int) ≤ (1 + t) / (Int.gcd (1 + t) (2 + d) : Int) by omega) (show 0 ≤ (Int.gcd (1 + t) (2 + d) : Int) by omega)
  omega
end
end Wk
set_option Elab.async false
set_option linter.all false
set_option maxRecDepth 100000
set_option maxHeartbeats 4000000
/-! The defs of law k03: counts and rows. -/
namespace Wk
open PySem L2
open RZ (ItzT iZipA pi_zipA)
local macro_rules | `(tactic| walk_at "call") => `(tactic| fail)
local macro_rules | `(tactic| walk_at "e1") => `(tactic| first
  | (with_reducible apply ws_seq) | ((with_reducible apply we_var); rfl) | (with_reducible apply we_int) | ((with_reducible apply we_ixO); rfl) | (with_reducible apply we_op)
  | (with_reducible apply wr_add) | (with_reducible apply wr_sub) | (with_reducible apply wr_lt) | (with_reducible apply wr_le) | (with_reducible apply wr_gt) | (with_reducible apply wr_ge) | (with_reducible apply wr_eqI) | (with_reducible apply wr_neI) | (with_reducible apply wr_eqR) | (with_reducible apply wr_neR) | (with_reducible apply wr_isNi) | (with_reducible apply wr_isNt) | (with_reducible apply wr_isNs) | (with_reducible apply wr_isNn) | (with_reducible apply wr_notNi) | (with_reducible apply wr_notNt) | (with_reducible apply wr_notNs) | (with_reducible apply wr_notNn) | (with_reducible apply wr_isN) | (with_reducible apply wr_notN)
  | (with_reducible apply wr_ixT0) | ((with_reducible apply wr_ixT); rfl) | ((with_reducible apply wr_ixL); rfl)
  | (with_reducible apply wa_cons) | (with_reducible apply wa_nil) | (with_reducible apply we_tup)
  | (with_reducible apply wt_test) | (with_reducible apply wt_tr) | (with_reducible apply tr_bool) | (with_reducible apply sp_bool) | (with_reducible apply isT) | (with_reducible apply isF) | (with_reducible apply isNT) | (with_reducible apply isNF)
  | (with_reducible apply ws_newd) | (with_reducible apply ws_newl) | (with_reducible apply ws_dput) | (with_reducible apply ws_setL) | (with_reducible apply ws_asg) | (with_reducible apply wg_name) | (with_reducible apply ws_par) | (with_reducible apply ws_par3) | (with_reducible apply ws_ret) | (with_reducible apply ws_retN) | (with_reducible apply ws_if) | (with_reducible apply ws_next)
  | (with_reducible apply wt_and) | (with_reducible apply wt_or) | (with_reducible apply wt_not) | (with_reducible apply we_andT) | (with_reducible apply we_orT) | (with_reducible apply we_notT) | (with_reducible apply we_if) | (with_reducible apply we_chain)
  | (with_reducible apply we_bl) | (with_reducible apply we_non) | (with_reducible apply we_str)
  | (with_reducible apply we_isi_int) | (with_reducible apply we_isi_bool) | (with_reducible apply we_isi_tuple) | (with_reducible apply we_isi_str) | (with_reducible apply we_call) | ((with_reducible apply we_tupleO); rfl) | ((with_reducible apply we_lenO); rfl) | (with_reducible apply we_cb)
  | (with_reducible apply wc_abs) | (with_reducible apply wc_int) | (with_reducible apply wc_min2) | (with_reducible apply wc_max2) | ((with_reducible apply wc_len); rfl; trivial)
  | ((with_reducible apply wg_tup); rfl) | (with_reducible apply wgs_cons) | (with_reducible apply wgs_nil)
  | (with_reducible apply wo_none) | (with_reducible apply wo_some) | (with_reducible apply we_neg) | ((with_reducible refine' ws_app ?h ?hi); (case hi => exact ⟨_, _, rfl⟩)) | (with_reducible apply ws_drop))
local macro_rules | `(tactic| walk_at "e2") => `(tactic| first
  | ((with_reducible refine' And.intro ?h ?r); (case h => first | exact Nat.le_of_ble_eq_true rfl | omega))
  | ((with_reducible refine' ⟨?a, ?j, ?d, ?e1, ?e2, ?r⟩); (case a => rfl); (case e1 => rfl); (case e2 => first | rfl | with_reducible assumption))
  | ((with_reducible refine' ⟨⟨?o, ?e⟩, ?r⟩); (case e => rfl))
  | ((with_reducible refine' ⟨?p, ?d, ?j, ?m, ?e1, ?e2, ?e3, ?r⟩); (case e1 => rfl); (case e2 => rfl); (case e3 => rfl))
  | ((with_reducible refine' ⟨?w, ?e, ?r⟩); (case e => rfl))
  | ((with_reducible refine' ⟨?w, ?w2, ?e, ?r⟩); (case e => rfl))
  | ((with_reducible refine' ⟨?w, ?w2, ?w3, ?e, ?r⟩); (case e => rfl)))
local macro_rules | `(tactic| walk_at "bd") => `(tactic| first | with_reducible assumption | (with_reducible apply bd_add <;> walk_at "bd") | (with_reducible apply bd_sub <;> walk_at "bd") | (with_reducible apply bd_mul <;> walk_at "bd") | ((with_reducible apply bd_div); walk_at "bd") | ((with_reducible apply bd_mod) <;> first | omega | walk_at "bd") | (with_reducible apply bd_min <;> walk_at "bd") | (with_reducible apply bd_max <;> walk_at "bd") | ((with_reducible apply bd_abs); walk_at "bd") | ((with_reducible apply bd_neg); walk_at "bd") | exact bd_lit (n := 140) (by decide) | exact bd_pos (n := 140) (by omega) (by omega))
local macro_rules | `(tactic| walk_at "n1") => `(tactic| first
  | ((with_reducible apply wr_mulB); (focus (walk_at "bd")); (focus (walk_at "bd")); (focus decide))
  | ((with_reducible apply wr_divB); (focus omega); (focus (walk_at "bd")); (focus decide))
  | ((with_reducible apply wr_mul); (focus (first | exact mulokR (by decide) | exact mulokL (by decide))))
  | ((with_reducible apply wr_mod); (focus omega)) | ((with_reducible apply wr_pow); (focus (exact ⟨by decide, by decide, by decide⟩))))
local macro_rules | `(tactic| walk_at "d1") => `(tactic| first | ((with_reducible apply isDT); (focus (first | with_reducible assumption | omega))) | ((with_reducible apply isDF); (focus omega)) | ((with_reducible apply isNDT); (focus omega)) | ((with_reducible apply isNDF); (focus (first | with_reducible assumption | omega))))
local macro_rules | `(tactic| walk_at "w") => `(tactic| repeat first | walk_at "e1" | walk_at "n1" | walk_at "d1" | walk_at "call" | walk_at "e2")
local macro_rules | `(tactic| walk_at "call") => `(tactic| first | with_reducible apply s_is_integer_i | with_reducible apply s_common | ((with_reducible apply s_is_sized_t); (focus (simp; done))) | ((with_reducible apply s_is_within_t); (focus omega)) | ((with_reducible apply s_is_ratio); (focus (with_reducible assumption))) | ((with_reducible apply s_check_ratio); (focus (with_reducible assumption))))
theorem rgc_pos {a b c : Int} (h1 : 2 ≤ c) (h2 : c ≤ 5000) (ha : 0 ≤ a) (ha' : a ≤ 5000) (hb : 0 ≤ b) (hb' : b ≤ 5000) (hab : a < b) : RgC a b c ((b - a - 1) / c + 1).toNat := by
  have e : Builtin.Range.rangeSize a b c = (b - a - 1) / c + 1 := by
    unfold Builtin.Range.rangeSize
    rw [if_pos (by omega), if_pos hab]
  have q1 : 0 ≤ (b - a - 1) / c := Int.ediv_nonneg (by omega) (by omega)
  have q2 : (b - a - 1) / c ≤ b - a - 1 := Int.ediv_le_self _ (by omega)
  refine ⟨by omega, by omega, ?_, by rw [e]; omega⟩
  unfold Builtin.Range.small
  rw [e]
  simp only [Builtin.Range.rangeFitsLong, Bool.and_eq_true, Bool.or_eq_true, decide_eq_true_eq, beq_iff_eq]
  rw [if_pos (by omega)]
  refine ⟨⟨⟨⟨⟨by omega, by omega⟩, by omega, by omega⟩, by omega, by omega⟩, by omega, by omega⟩, .inr ?_⟩
  simp only [Bool.and_eq_true, decide_eq_true_eq]
  omega
section
variable {K : Fg} {δ : Dl}
theorem wn_lstRg {te : TE} {kn : OB → Dl → Prop} (h : WE K te δ fun x δ' => ∃ n, x = .int n ∧ 0 ≤ n ∧ n ≤ 10000 ∧ kn (.lst none (rangeD 0 n.toNat)) δ') : WN K (tLstRg (tRg1 te)) δ kn := fun C B H σ Q E r =>
  h C B H σ _ E fun v B1 H1 d δ1 ⟨n, ed, h0, h1, hk⟩ e1 E1 d1 => by
    subst ed
    cases d1
    refine ⟨n, rfl, .of_le (by omega) (by omega) (by omega) h0, fun q hq => r q _ B1 H1 _ δ1 hk e1 E1 hq ⟨fun _ z => (nomatch z), _, rfl, ?_⟩⟩
    have : rgV 0 n = ((List.range n.toNat).map fun i => (0 + (i : Nat) : Int)).map V.int := by
      unfold rgV; rw [List.map_map, show (n - 0).toNat = n.toNat by omega]; rfl
    rw [this, show rangeD 0 n.toNat = ((List.range n.toNat).map fun i => (0 + (i : Nat) : Int)).map PyData.int by unfold rangeD; rw [List.map_map]; rfl]
    exact ints_dpa _
end
theorem map_set {α : Type} {f : Nat → α} {N j : Nat} {v : α} : ((List.range N).map f).set j v = (List.range N).map fun m => if m = j then v else f m := by
  refine List.ext_getElem? fun i => ?_
  rw [List.getElem?_set]
  simp only [List.length_map, List.length_range, List.getElem?_map]
  by_cases hi : i < N
  · rw [List.getElem?_range hi]
    by_cases e : j = i
    · subst e; simp [hi]
    · have e' : ¬ i = j := fun z => e z.symm
      simp [e, e']
  · rw [List.getElem?_eq_none (by simpa using hi)]
    by_cases e : j = i
    · subst e; simp [hi]
    · simp [e]
/-- the sieve's list -/
def sv (N : Nat) (f : Nat → Nat) : List PyData := (List.range N).map fun m => .int (f m : Nat)
theorem sv_at {N m : Nat} {f : Nat → Nat} (h : m < N) : (sv N f)[m]? = some (.int (f m : Nat)) := by
  unfold sv; rw [List.getElem?_map, List.getElem?_range h]; rfl
theorem sv_len {N : Nat} {f : Nat → Nat} : (sv N f).length = N := by unfold sv; rw [List.length_map, List.length_range]
theorem sv_congr {N : Nat} {f g : Nat → Nat} (h : ∀ m, m < N → f m = g m) : sv N f = sv N g := by
  unfold sv
  exact List.map_congr_left fun m hm => by rw [h m (List.mem_range.mp hm)]
theorem sv_set {N j v : Nat} {f : Nat → Nat} : (sv N f).set j (.int (v : Nat)) = sv N fun m => if m = j then v else f m := by
  unfold sv
  rw [map_set]
  exact List.map_congr_left fun m _ => by
    show _ = PyData.int ((if m = j then v else f m : Nat) : Int)
    split <;> rfl
section
variable {K : Fg}
def S_unlike_counts : PS1 := fun ds p => ∃ n : Nat, ds = [.int (n : Nat)] ∧ 1 ≤ n ∧ n ≤ 2001 ∧ p (.list (sv (n + 1) phi))
def N_unlike_counts : List Str := ["n", "found", "part", "number"]
def t_unlike_counts (K : Fg) : TS := (tSeq (tAsg (tLstRg (tRg1 (tOp rAddI (tVar 0) (tC (.int 1))))) (gName 1))
      (tSeq (tFor (iRng2 (tCons (tC (.int 2)) (tCons (tOp rAddI (tVar 0) (tC (.int 1))) tNil))) (gName 2) (tIfS (tTest (tOp (rEqD K) (tOp (rIx K) (tVar 1) (tVar 2)) (tVar 2))) (tFor (iRng3 (tCons (tVar 2) (tCons (tOp rAddI (tVar 0) (tC (.int 1))) (tCons (tVar 2) tNil)))) (gName 3) (tAugS (tVar 1) (tVar 3) (tOp rDivI (tOp (rIx K) (tVar 1) (tVar 3)) (tVar 2)) rGetL (ipI fun i j => i - j) rSetL)) tNext))
      (tRet (tVar 1))))
theorem body_unlike_counts : Body K S_unlike_counts N_unlike_counts (t_unlike_counts K) := by
  rintro ds p ⟨n, rfl, h1, h2, q⟩ C hM
  show WS K C _ [.im (.int (n : Nat)), .un, .un, .un] _ _ _ _
  unfold t_unlike_counts
  refine ws_seq (ws_asgN (wn_lstRg ?_))
  walk_at "w"
  have e0 : rangeD 0 (((n : Nat) : Int) + 1).toNat = sv (n + 1) (F 1) := by
    unfold rangeD sv
    rw [show (((n : Nat) : Int) + 1).toNat = n + 1 by omega]
    exact List.map_congr_left fun m _ => by rw [F_one]; simp
  rw [e0]
  refine ws_for (wi_r2 ?_)
  walk_at "w"
  refine ⟨fun i δ => ∃ s2 s3, δ = [.im (.int (n : Nat)), .ow (.lst none (sv (n + 1) (F (i + 1)))), s2, s3], ⟨_, _, rfl⟩, fun i e δ hd ⟨s2, s3, hδ⟩ => ?_, fun δ ⟨s2, s3, hδ⟩ => ?_⟩
  · subst hδ
    obtain ⟨hi, rfl⟩ := rangeD_at.mp hd
    have hP : i + 2 < n + 1 := by omega
    have ePi : (2 : Int) + ((i : Nat) : Int) = ((i + 2 : Nat) : Int) := by omega
    rw [ePi]
    have hA : atI (sv (n + 1) (F (i + 1))) ((i + 2 : Nat) : Int) = some (.int (F (i + 1) (i + 2) : Nat)) := atI_nat (sv_at hP)
    walk_at "w"
    refine both (fun hc => ?_) (fun hc => ?_)
    · have hc' : F (i + 2 - 1) (i + 2) = i + 2 := by have : F (i + 1) (i + 2) = i + 2 := by omega
                                                     exact this
      refine ws_for (wi_r3 ?_)
      walk_at "w"
      refine ⟨_, _, _, _, rfl, rgc_pos (by omega) (by omega) (by omega) (by omega) (by omega) (by omega) (by omega), ?_⟩
      have ecnt : (((n : Nat) : Int) + 1 - ((i + 2 : Nat) : Int) - 1) / ((i + 2 : Nat) : Int) + 1 = ((n / (i + 2) : Nat) : Int) := by
        have : ((n : Nat) : Int) + 1 - ((i + 2 : Nat) : Int) - 1 = ((n : Nat) : Int) + (-1) * ((i + 2 : Nat) : Int) := by omega
        rw [this, Int.add_mul_ediv_right _ _ (by omega)]
        omega
      rw [ecnt, Int.toNat_natCast]
      refine ⟨fun t δ => ∃ s3, δ = [.im (.int (n : Nat)), .ow (.lst none (sv (n + 1) fun m => if (i + 2) ∣ m ∧ m ≤ t * (i + 2) then F (i + 2) m else F (i + 1) m)), .im (.int ((i + 2 : Nat) : Int)), s3], ⟨s3, ?_⟩, fun t e δ hd ⟨s3, hδ⟩ => ?_, fun δ ⟨s3, hδ⟩ => ?_⟩
      · have : sv (n + 1) (F (i + 1)) = sv (n + 1) fun m => if (i + 2) ∣ m ∧ m ≤ 0 * (i + 2) then F (i + 2) m else F (i + 1) m := sv_congr fun m _ => by
          split
          · rename_i z
            have : m = 0 := by omega
            subst this; rfl
          · rfl
        rw [← this]
        rfl
      · subst hδ
        have ht : t < n / (i + 2) := by
          apply Decidable.byContradiction
          intro hn
          rw [List.getElem?_eq_none (by rw [rangeC_len]; omega)] at hd
          cases hd
        rw [rangeC_at ht] at hd
        cases hd
        have hle : (t + 1) * (i + 2) ≤ n := by
          have h3 : (t + 1) * (i + 2) ≤ n / (i + 2) * (i + 2) := Nat.mul_le_mul_right _ (by omega)
          have h4 := Nat.div_mul_le_self n (i + 2)
          omega
        have ej : ((i + 2 : Nat) : Int) + ((t : Nat) : Int) * ((i + 2 : Nat) : Int) = (((t + 1) * (i + 2) : Nat) : Int) := by
          rw [Nat.succ_mul]; simp only [Int.natCast_add, Int.natCast_mul]; omega
        rw [ej]
        have hpos : 0 < (t + 1) * (i + 2) := Nat.mul_pos (by omega) (by omega)
        have hnot : ¬ (t + 1) * (i + 2) ≤ t * (i + 2) := by rw [Nat.succ_mul]; omega
        have hat : (sv (n + 1) fun m => if (i + 2) ∣ m ∧ m ≤ t * (i + 2) then F (i + 2) m else F (i + 1) m)[(t + 1) * (i + 2)]? = some (.int (F (i + 1) ((t + 1) * (i + 2)) : Nat)) := by
          rw [sv_at (by omega), if_neg fun z => hnot z.2]
        have hst := F_step (P := i + 2) (m := (t + 1) * (i + 2)) (by omega) hc' ⟨t + 1, Nat.mul_comm _ _⟩
        have hst' : F (i + 2) ((t + 1) * (i + 2)) = F (i + 1) ((t + 1) * (i + 2)) - F (i + 1) ((t + 1) * (i + 2)) / (i + 2) := hst
        have hdl := Nat.div_le_self (F (i + 1) ((t + 1) * (i + 2))) (i + 2)
        have hnx : (sv (n + 1) fun m => if (i + 2) ∣ m ∧ m ≤ t * (i + 2) then F (i + 2) m else F (i + 1) m).set ((t + 1) * (i + 2)) (.int (F (i + 2) ((t + 1) * (i + 2)) : Nat)) = sv (n + 1) fun m => if (i + 2) ∣ m ∧ m ≤ (t + 1) * (i + 2) then F (i + 2) m else F (i + 1) m := by
          rw [sv_set]
          refine sv_congr fun m _ => ?_
          by_cases e : m = (t + 1) * (i + 2)
          · rw [if_pos e, if_pos ⟨⟨t + 1, by rw [e, Nat.mul_comm]⟩, by omega⟩, e]
          · rw [if_neg e]
            by_cases z : (i + 2) ∣ m ∧ m ≤ t * (i + 2)
            · rw [if_pos z, if_pos ⟨z.1, by rw [Nat.succ_mul]; omega⟩]
            · rw [if_neg z, if_neg]
              rintro ⟨z1, z2⟩
              obtain ⟨c, hc2⟩ := z1
              refine z ⟨⟨c, hc2⟩, ?_⟩
              have hcl : c ≤ t := by
                apply Decidable.byContradiction
                intro hn
                by_cases c1 : c = t + 1
                · subst c1; exact e (by rw [hc2, Nat.mul_comm])
                · have : (i + 2) * (t + 2) ≤ (i + 2) * c := Nat.mul_le_mul_left _ (by omega)
                  have e9 : (i + 2) * (t + 2) = (t + 1) * (i + 2) + (i + 2) := by rw [show t + 2 = (t + 1) + 1 by omega, Nat.mul_succ, Nat.mul_comm]
                  omega
              rw [hc2, Nat.mul_comm]
              exact Nat.mul_le_mul_right _ hcl
        walk_at "w"
        refine ws_augS ?_ ⟨_, rfl⟩
        walk_at "w"
        refine ⟨_, _, _, _, rfl, by omega, rfl, (by rw [Int.toNat_natCast]; exact hat), ?_⟩
        have hB := atI_nat hat
        walk_at "w"
        have ev : ((F (i + 1) ((t + 1) * (i + 2)) : Nat) : Int) - ((F (i + 1) ((t + 1) * (i + 2)) : Nat) : Int) / ((i + 2 : Nat) : Int) = ((F (i + 2) ((t + 1) * (i + 2)) : Nat) : Int) := by
          rw [hst']; omega
        rw [ev, Int.toNat_natCast, hnx]
        exact ⟨rfl, .im (.int (((t + 1) * (i + 2) : Nat) : Int)), rfl⟩
      · subst hδ
        have e5 : (sv (n + 1) fun m => if (i + 2) ∣ m ∧ m ≤ (rangeC ((i + 2 : Nat) : Int) ((i + 2 : Nat) : Int) (n / (i + 2))).length * (i + 2) then F (i + 2) m else F (i + 1) m) = sv (n + 1) (F (i + 2)) := by
          refine sv_congr fun m hm => ?_
          rw [rangeC_len]
          by_cases z : (i + 2) ∣ m
          · rw [if_pos]
            refine ⟨z, ?_⟩
            obtain ⟨c, rfl⟩ := z
            have : c ≤ n / (i + 2) := (Nat.le_div_iff_mul_le (by omega)).mpr (by rw [Nat.mul_comm]; omega)
            rw [Nat.mul_comm]
            exact Nat.mul_le_mul_right _ this
          · rw [if_neg fun w => z w.1]
            exact (F_other z).symm
        rw [e5]
        exact ⟨_, _, rfl⟩
    · walk_at "w"
      have hne : F (i + 2 - 1) (i + 2) ≠ i + 2 := fun z => hc (congrArg (fun x : Nat => (x : Int)) z)
      have : sv (n + 1) (F (i + 1)) = sv (n + 1) (F (i + 1 + 1)) := sv_congr fun m _ => (F_comp (P := i + 2) (by omega) hne m).symm
      rw [this]
      exact ⟨_, _, rfl⟩
  · subst hδ
    refine ws_freeze (i := 1) rfl hM ?_
    walk_at "w"
    have e6 : sv (n + 1) (F ((rangeD 2 (((n : Nat) : Int) + 1 - 2).toNat).length + 1)) = sv (n + 1) phi := sv_congr fun m hm => by
      rw [rangeD_len]
      by_cases z : m = 0
      · subst z; rfl
      · exact F_end (by omega) (by omega)
    rw [e6]
    exact q
end
end Wk
set_option Elab.async false
set_option linter.all false
set_option maxRecDepth 100000
set_option maxHeartbeats 4000000
/-! The defs of law k03: rows, neighbours, circles. -/
namespace Wk
open PySem L2
open RZ (ItzT iZipA pi_zipA)
local macro_rules | `(tactic| walk_at "call") => `(tactic| fail)
local macro_rules | `(tactic| walk_at "e1") => `(tactic| first
  | (with_reducible apply ws_seq) | ((with_reducible apply we_var); rfl) | (with_reducible apply we_int) | ((with_reducible apply we_ixO); rfl) | (with_reducible apply we_op)
  | (with_reducible apply wr_add) | (with_reducible apply wr_sub) | (with_reducible apply wr_lt) | (with_reducible apply wr_le) | (with_reducible apply wr_gt) | (with_reducible apply wr_ge) | (with_reducible apply wr_eqI) | (with_reducible apply wr_neI) | (with_reducible apply wr_eqR) | (with_reducible apply wr_neR) | (with_reducible apply wr_isNi) | (with_reducible apply wr_isNt) | (with_reducible apply wr_isNs) | (with_reducible apply wr_isNn) | (with_reducible apply wr_notNi) | (with_reducible apply wr_notNt) | (with_reducible apply wr_notNs) | (with_reducible apply wr_notNn) | (with_reducible apply wr_isN) | (with_reducible apply wr_notN)
  | (with_reducible apply wr_ixT0) | ((with_reducible apply wr_ixT); rfl) | ((with_reducible apply wr_ixL); rfl)
  | (with_reducible apply wa_cons) | (with_reducible apply wa_nil) | (with_reducible apply we_tup)
  | (with_reducible apply wt_test) | (with_reducible apply wt_tr) | (with_reducible apply tr_bool) | (with_reducible apply sp_bool) | (with_reducible apply isT) | (with_reducible apply isF) | (with_reducible apply isNT) | (with_reducible apply isNF)
  | (with_reducible apply ws_newd) | (with_reducible apply ws_newl) | (with_reducible apply ws_dput) | (with_reducible apply ws_setL) | (with_reducible apply ws_asg) | (with_reducible apply wg_name) | (with_reducible apply ws_par) | (with_reducible apply ws_par3) | (with_reducible apply ws_ret) | (with_reducible apply ws_retN) | (with_reducible apply ws_if) | (with_reducible apply ws_next)
  | (with_reducible apply wt_and) | (with_reducible apply wt_or) | (with_reducible apply wt_not) | (with_reducible apply we_andT) | (with_reducible apply we_orT) | (with_reducible apply we_notT) | (with_reducible apply we_if) | (with_reducible apply we_chain)
  | (with_reducible apply we_bl) | (with_reducible apply we_non) | (with_reducible apply we_str)
  | (with_reducible apply we_isi_int) | (with_reducible apply we_isi_bool) | (with_reducible apply we_isi_tuple) | (with_reducible apply we_isi_str) | (with_reducible apply we_call) | ((with_reducible apply we_tupleO); rfl) | ((with_reducible apply we_lenO); rfl) | (with_reducible apply we_cb)
  | (with_reducible apply wc_abs) | (with_reducible apply wc_int) | (with_reducible apply wc_min2) | (with_reducible apply wc_max2) | ((with_reducible apply wc_len); rfl; trivial)
  | ((with_reducible apply wg_tup); rfl) | (with_reducible apply wgs_cons) | (with_reducible apply wgs_nil)
  | (with_reducible apply wo_none) | (with_reducible apply wo_some) | (with_reducible apply we_neg) | ((with_reducible refine' ws_app ?h ?hi); (case hi => exact ⟨_, _, rfl⟩)) | (with_reducible apply ws_drop))
local macro_rules | `(tactic| walk_at "e2") => `(tactic| first
  | ((with_reducible refine' And.intro ?h ?r); (case h => first | exact Nat.le_of_ble_eq_true rfl | omega))
  | ((with_reducible refine' ⟨?a, ?j, ?d, ?e1, ?e2, ?r⟩); (case a => rfl); (case e1 => rfl); (case e2 => first | rfl | with_reducible assumption))
  | ((with_reducible refine' ⟨⟨?o, ?e⟩, ?r⟩); (case e => rfl))
  | ((with_reducible refine' ⟨?p, ?d, ?j, ?m, ?e1, ?e2, ?e3, ?r⟩); (case e1 => rfl); (case e2 => rfl); (case e3 => rfl))
  | ((with_reducible refine' ⟨?w, ?e, ?r⟩); (case e => rfl))
  | ((with_reducible refine' ⟨?w, ?w2, ?e, ?r⟩); (case e => rfl))
  | ((with_reducible refine' ⟨?w, ?w2, ?w3, ?e, ?r⟩); (case e => rfl)))
local macro_rules | `(tactic| walk_at "bd") => `(tactic| first | with_reducible assumption | (with_reducible apply bd_add <;> walk_at "bd") | (with_reducible apply bd_sub <;> walk_at "bd") | (with_reducible apply bd_mul <;> walk_at "bd") | ((with_reducible apply bd_div); walk_at "bd") | ((with_reducible apply bd_mod) <;> first | omega | walk_at "bd") | (with_reducible apply bd_min <;> walk_at "bd") | (with_reducible apply bd_max <;> walk_at "bd") | ((with_reducible apply bd_abs); walk_at "bd") | ((with_reducible apply bd_neg); walk_at "bd") | exact bd_lit (n := 140) (by decide) | exact bd_pos (n := 140) (by omega) (by omega))
local macro_rules | `(tactic| walk_at "n1") => `(tactic| first
  | ((with_reducible apply wr_mulB); (focus (walk_at "bd")); (focus (walk_at "bd")); (focus decide))
  | ((with_reducible apply wr_divB); (focus omega); (focus (walk_at "bd")); (focus decide))
  | ((with_reducible apply wr_mul); (focus (first | exact mulokR (by decide) | exact mulokL (by decide))))
  | ((with_reducible apply wr_mod); (focus omega)) | ((with_reducible apply wr_pow); (focus (exact ⟨by decide, by decide, by decide⟩))))
local macro_rules | `(tactic| walk_at "d1") => `(tactic| first | ((with_reducible apply isDT); (focus (first | with_reducible assumption | omega))) | ((with_reducible apply isDF); (focus omega)) | ((with_reducible apply isNDT); (focus omega)) | ((with_reducible apply isNDF); (focus (first | with_reducible assumption | omega))))
local macro_rules | `(tactic| walk_at "w") => `(tactic| repeat first | walk_at "e1" | walk_at "n1" | walk_at "d1" | walk_at "call" | walk_at "e2")
local macro_rules | `(tactic| walk_at "call") => `(tactic| first | with_reducible apply s_is_integer_i | with_reducible apply s_common | ((with_reducible apply s_is_sized_t); (focus (simp; done))) | ((with_reducible apply s_is_within_t); (focus omega)) | ((with_reducible apply s_is_ratio); (focus (with_reducible assumption))) | ((with_reducible apply s_check_ratio); (focus (with_reducible assumption))) | ((with_reducible apply s_check_count); (focus omega)))
abbrev k_MOST_SHOWN : V := .int 60
theorem sum_phi : ∀ n : Nat, ((List.range n).map fun m => ((phi (m + 1) : Nat) : Int)).sum = ((sumphi n : Nat) : Int)
  | 0 => rfl
  | n + 1 => by
    rw [List.range_succ, List.map_append, List.sum_append, sum_phi n]
    show _ = ((sumphi n + phi (n + 1) : Nat) : Int)
    simp
theorem sv_tail {n : Nat} : cutD (sv (n + 1) phi) (some 1) none = ((List.range n).map fun m => ((phi (m + 1) : Nat) : Int)).map PyData.int := by
  have e1 : HT.sIx (sv (n + 1) phi).length 0 (some 1) = 1 := by rw [sv_len]; simp [HT.sIx]
  have e2 : HT.sIx (sv (n + 1) phi).length (sv (n + 1) phi).length none = n + 1 := by rw [sv_len]; simp [HT.sIx]
  unfold cutD
  rw [e1, e2]
  refine List.ext_getElem? fun i => ?_
  rw [List.getElem?_take, List.getElem?_drop]
  by_cases h : i < n
  · rw [if_pos (by omega), show 1 + i = i + 1 by omega, sv_at (by omega), List.getElem?_map, List.getElem?_map, List.getElem?_range h]
    rfl
  · rw [if_neg (by omega), List.getElem?_eq_none (by simpa using h)]
section
variable {K : Fg}
def S_row_count : PS1 := fun ds p => ∃ n : Nat, ds = [.int (n : Nat)] ∧ 1 ≤ n ∧ n ≤ 2000 ∧ p (.int (1 + ((sumphi n : Nat) : Int)))
def S_with_bottom : PS1 := fun ds p => ∃ n : Nat, ds = [.int (n : Nat)] ∧ 2 ≤ n ∧ n ≤ 2000 ∧ p (.int ((phi n : Nat) : Int))
def N_row_count : List Str := ["n"]
def t_row_count (K : Fg) : TS := (tSeq (tDrop (tCall (spP K S_check_count) [] E0 (tCons (tVar 0) (tCons (tC k_MOST_ROW) tNil))))
      (tRet (tOp rAddI (tC (.int 1)) (tCB (rSum K) (tCons (tSl (rSlA K) (tCall (spP K S_unlike_counts) [] E0 (tCons (tVar 0) tNil)) (tPart (tC (.int 1))) tNoPart) tNil)))))
def N_with_bottom : List Str := ["n"]
def t_with_bottom (K : Fg) : TS := (tSeq (tDrop (tCall (spP K S_check_count) [] E0 (tCons (tVar 0) (tCons (tC k_MOST_ROW) tNil))))
      (tRet (tIf (tTest (tOp (rEqD K) (tVar 0) (tC (.int 1)))) (tC (.int 2)) (tOp (rIx K) (tCall (spP K S_unlike_counts) [] E0 (tCons (tVar 0) tNil)) (tVar 0)))))
theorem body_row_count : Body K S_row_count N_row_count (t_row_count K) := by
  rintro ds p ⟨n, rfl, h1, h2, q⟩ C hM
  show WS K C _ [.im (.int (n : Nat))] _ _ _ _
  unfold t_row_count
  have := m40_big
  walk_at "w"
  refine we_new (wn_sl ?_)
  walk_at "w"
  refine ⟨n, rfl, h1, by omega, ?_⟩
  walk_at "w"
  rw [sv_tail]
  walk_at "w"
  refine wc_sum ?_
  walk_at "w"
  rw [sum_phi]
  exact q
theorem body_with_bottom : Body K S_with_bottom N_with_bottom (t_with_bottom K) := by
  rintro ds p ⟨n, rfl, h1, h2, q⟩ C hM
  show WS K C _ [.im (.int (n : Nat))] _ _ _ _
  unfold t_with_bottom
  walk_at "w"
  refine ⟨n, rfl, by omega, by omega, ?_⟩
  walk_at "w"
  refine wr_ixL (atI_nat (sv_at (by omega))) ?_
  exact q
def S_check_ratios : PS1 := fun ds p => ∃ a b c d : Int, ds = [.tuple [.int a, .int b], .tuple [.int c, .int d]] ∧ RatOK a b ∧ RatOK c d ∧ p .none
def S_cross : PS1 := fun ds p => ∃ a b c d : Int, ds = [.tuple [.int a, .int b], .tuple [.int c, .int d]] ∧ (Bd 100 a ∧ Bd 100 b ∧ Bd 100 c ∧ Bd 100 d) ∧ p (.int ((a * d - c * b).natAbs : Int))
def S_circles : PS1 := fun ds p => ∃ a b c d : Int, ds = [.tuple [.int a, .int b], .tuple [.int c, .int d]] ∧ RatOK a b ∧ RatOK c d ∧ (Bd 100 a ∧ Bd 100 b ∧ Bd 100 c ∧ Bd 100 d) ∧
  p (.str (if a = c ∧ b = d then "same" else if (a * d - c * b).natAbs = 1 then "touch" else "apart"))
def N_check_ratios : List Str := ["one", "other"]
def t_check_ratios (K : Fg) : TS := (tSeq (tDrop (tCall (spP K S_check_ratio) [] E0 (tCons (tVar 0) tNil)))
      (tDrop (tCall (spP K S_check_ratio) [] E0 (tCons (tVar 1) tNil))))
def N_cross : List Str := ["one", "other"]
def t_cross (K : Fg) : TS := (tRet (tCB rAbs (tCons (tOp rSubI (tOp rMulI (tOp (rIx K) (tVar 0) (tC (.int 0))) (tOp (rIx K) (tVar 1) (tC (.int 1)))) (tOp rMulI (tOp (rIx K) (tVar 1) (tC (.int 0))) (tOp (rIx K) (tVar 0) (tC (.int 1))))) tNil)))
def N_circles : List Str := ["one", "other"]
def t_circles (K : Fg) : TS := (tSeq (tDrop (tCall (spP K S_check_ratios) [] E0 (tCons (tVar 0) (tCons (tVar 1) tNil))))
      (tSeq (tIfS (tTest (tOp (rEqD K) (tVar 0) (tVar 1))) (tRet (tC (.str (Str.ofString "same")))) tNext)
      (tRet (tIf (tTest (tOp (rEqD K) (tCall (spP K S_cross) [] E0 (tCons (tVar 0) (tCons (tVar 1) tNil))) (tC (.int 1)))) (tC (.str (Str.ofString "touch"))) (tC (.str (Str.ofString "apart")))))))
theorem body_check_ratios : Body K S_check_ratios N_check_ratios (t_check_ratios K) := by
  rintro ds p ⟨a, b, c, d, rfl, h1, h2, q⟩ C -
  show WS K C _ [.im (.tuple [.int a, .int b]), .im (.tuple [.int c, .int d])] _ _ _ _
  unfold t_check_ratios
  walk_at "w"
  exact q
theorem body_cross : Body K S_cross N_cross (t_cross K) := by
  rintro ds p ⟨a, b, c, d, rfl, ⟨h1, h2, h3, h4⟩, q⟩ C -
  show WS K C _ [.im (.tuple [.int a, .int b]), .im (.tuple [.int c, .int d])] _ _ _ _
  unfold t_cross
  walk_at "w"
  exact q
theorem body_circles : Body K S_circles N_circles (t_circles K) := by
  rintro ds p ⟨a, b, c, d, rfl, h1, h2, hb, q⟩ C -
  show WS K C _ [.im (.tuple [.int a, .int b]), .im (.tuple [.int c, .int d])] _ _ _ _
  unfold t_circles
  walk_at "w"
  refine ⟨a, b, c, d, rfl, h1, h2, ?_⟩
  walk_at "w"
  refine both (fun e => ?_) (fun e => ?_)
  · rw [if_pos e] at q
    walk_at "w"
    exact q
  · rw [if_neg e] at q
    walk_at "w"
    refine ⟨a, b, c, d, rfl, hb, ?_⟩
    walk_at "w"
    refine both (fun e => ?_) (fun e => ?_)
    · rw [if_pos (by omega)] at q
      walk_at "w"
      exact q
    · rw [if_neg (by omega)] at q
      walk_at "w"
      exact q
/-- the one before, None ahead of 0 -/
def S_before_in : PS1 := fun ds p => ∃ n c d : Int, ds = [.int n, .tuple [.int c, .int d]] ∧ 1 ≤ n ∧ n ≤ 2000 ∧ 0 ≤ c ∧ c ≤ d ∧ 1 ≤ d ∧ d ≤ n ∧ Int.gcd c d = 1 ∧ (c = 0 → p .none) ∧ (0 < c → ∀ a b, c * b - a * d = 1 → n - d < b → b ≤ n → p (.tuple [.int a, .int b]))
def N_before_in : List Str := ["n", "ratio", "found"]
def t_before_in (K : Fg) : TS := (tSeq (tDrop (tCall (spP K S_check_in) [] E0 (tCons (tVar 0) (tCons (tVar 1) tNil))))
      (tSeq (tAsg (tCall (spP K S_next_of) [] E0 (tCons (tVar 0) (tCons (tTup (tCons (tOp rSubI (tOp (rIx K) (tVar 1) (tC (.int 1))) (tOp (rIx K) (tVar 1) (tC (.int 0)))) (tCons (tOp (rIx K) (tVar 1) (tC (.int 1))) tNil))) tNil))) (gName 2))
      (tRet (tIf (tTest (tOp rIsN (tVar 2) (tC .non))) (tC .non) (tTup (tCons (tOp rSubI (tOp (rIx K) (tVar 2) (tC (.int 1))) (tOp (rIx K) (tVar 2) (tC (.int 0)))) (tCons (tOp (rIx K) (tVar 2) (tC (.int 1))) tNil)))))))
theorem body_before_in : Body K S_before_in N_before_in (t_before_in K) := by
  rintro ds p ⟨n, c, d, rfl, hn1, hn2, hc, hcd, hd1, hd2, hg, q1, q2⟩ C -
  show WS K C _ [.im (.int n), .im (.tuple [.int c, .int d]), .un] _ _ _ _
  unfold t_before_in
  have hg' : Int.gcd (d - c) d = 1 := by
    rw [Int.gcd_comm, show d - c = -c + d * 1 by omega, Int.gcd_add_mul_left_right, Int.gcd_neg, Int.gcd_comm]; exact hg
  walk_at "w"
  refine ⟨n, c, d, rfl, hn1, hn2, hc, hcd, hd1, hd2, hg, ?_⟩
  walk_at "w"
  refine ⟨n, d - c, d, rfl, hn1, hn2, by omega, by omega, hd1, hd2, hg', fun e1 e2 => ?_, fun hlt x y hx => ?_⟩
  · walk_at "w"
    exact q1 (by omega)
  · walk_at "w"
    have hdet := hx.det
    refine q2 (by omega) _ _ ?_ hx.lo hx.hi
    simp only [Int.sub_mul] at hdet ⊢
    have := Int.mul_comm y d
    have := Int.mul_comm c y
    have : x * d - (d * y - c * y) = 1 := hdet
    omega
/-! the row -/
def rd (p : Nat × Nat) : PyData := .tuple [.int (p.1 : Nat), .int (p.2 : Nat)]
theorem at_last {α : Type} {xs : List α} {x : α} (h : xs[xs.length - 1]? = some x) : atI xs (-1) = some x := by
  have hl : xs.length - 1 < xs.length := (List.getElem?_eq_some_iff.mp h).1
  unfold atI ixN
  rw [if_neg (by decide), if_pos (by omega)]
  show xs[(-1 + (xs.length : Int)).toNat]? = some x
  rw [show (-1 + (xs.length : Int)).toNat = xs.length - 1 by omega]
  exact h
theorem rw_fr {n : Nat} {l : List (Nat × Nat)} (R : Rw n l) {i : Nat} {x y : Nat × Nat} (h1 : l[i]? = some x) (h2 : l[i + 1]? = some y) : NX n x.1 x.2 y.1 y.2 := by
  obtain ⟨e, f, g, _⟩ := R.ad h1 h2
  refine ⟨?_, by omega, by omega⟩
  have := congrArg (fun k : Nat => (k : Int)) e
  simp only [Int.natCast_add, Int.natCast_mul] at this
  omega
def S_row_of : PS1 := fun ds p => ∃ n : Nat, ds = [.int (n : Nat)] ∧ 1 ≤ n ∧ n ≤ 60 ∧ p (.tuple ((row n).map rd))
def N_row_of : List Str := ["n", "found"]
def t_row_of (K : Fg) : TS := (tSeq (tDrop (tCall (spP K S_check_count) [] E0 (tCons (tVar 0) (tCons (tC k_MOST_SHOWN) tNil))))
      (tSeq (tAsg (tLst (tCons (tTup (tCons (tC (.int 0)) (tCons (tC (.int 1)) tNil))) tNil)) (gName 1))
      (tSeq (tWhile (tTest (tOp (rNeD K) (tOp (rIx K) (tVar 1) (tUn rNegI (tC (.int 1)))) (tTup (tCons (tC (.int 1)) (tCons (tC (.int 1)) tNil))))) (tDrop (tBM K "list" rAppend (tVar 1) (tCons (tCall (spP K S_next_of) [] E0 (tCons (tVar 0) (tCons (tOp (rIx K) (tVar 1) (tUn rNegI (tC (.int 1)))) tNil))) tNil))))
      (tRet (tCB (rTupOf K) (tCons (tVar 1) tNil))))))
theorem body_row_of : Body K S_row_of N_row_of (t_row_of K) := by
  rintro ds p ⟨n, rfl, h1, h2, q⟩ C hM
  show WS K C _ [.im (.int (n : Nat)), .un] _ _ _ _
  unfold t_row_of
  have R := row_rw h1 h2
  generalize row n = l at *
  refine ws_cut (fun δ => δ = [.im (.int (n : Nat)), .un]) (by walk_at "w"; rfl) ?_
  rintro δ rfl
  refine ws_seq (ws_asgN (wn_lst ?_))
  walk_at "w"
  have h0 : [PyData.tuple [.int 0, .int 1]] = (l.take (0 + 1)).map rd := by
    have := R.hd
    cases l with
    | nil => cases this
    | cons x r => simp at this; subst this; rfl
  rw [h0]
  have two := R.two
  refine ws_while (fun m δ => ∃ k, δ = [.im (.int (n : Nat)), .ow (.lst none ((l.take (k + 1)).map rd))] ∧ k < l.length ∧ m = l.length - k) _ ⟨0, rfl, by omega, rfl⟩ ?_
  rintro m δ ⟨k, rfl, hk, rfl⟩
  obtain ⟨x, hx⟩ : ∃ x, l[k]? = some x := ⟨_, List.getElem?_eq_getElem hk⟩
  have hlen : ((l.take (k + 1)).map rd).length = k + 1 := by rw [List.length_map, List.length_take]; omega
  have hlast : atI ((l.take (k + 1)).map rd) (-1) = some (.tuple [.int (x.1 : Nat), .int (x.2 : Nat)]) := at_last (x := rd x) (by
    rw [hlen, List.getElem?_map, List.getElem?_take, if_pos (by omega)]
    show Option.map rd l[k]? = _
    rw [hx]; rfl)
  walk_at "w"
  refine bothN (fun hne => ?_) (fun he => ?_)
  · have hk1 : k + 1 < l.length := by
      apply Decidable.byContradiction
      intro hn
      have e : k = l.length - 1 := by omega
      have := R.la
      rw [← e, hx] at this
      cases this
      exact hne ⟨rfl, rfl⟩
    obtain ⟨y, hy⟩ : ∃ y, l[k + 1]? = some y := ⟨_, List.getElem?_eq_getElem hk1⟩
    have hxy := rw_fr R hx hy
    obtain ⟨_, _, _, f4, f5, _, f7⟩ := R.ad hx hy
    walk_at "w"
    refine ⟨n, x.1, x.2, rfl, by omega, by omega, by omega, by omega, by omega, by omega, cop_det hxy.det, fun e1 e2 => by omega, fun _ c d hcd => ?_⟩
    obtain ⟨rfl, rfl⟩ := nx_one (by omega) hxy hcd
    walk_at "w"
    have e9 : (l.take (k + 1)).map rd ++ [PyData.tuple [.int (y.1 : Nat), .int (y.2 : Nat)]] = (l.take (k + 1 + 1)).map rd := by
      conv => rhs; rw [List.take_succ, hy, List.map_append]
      rfl
    rw [e9]
    exact ⟨by rw [hlen]; have := R.le; omega, _, by omega, k + 1, rfl, hk1, rfl⟩
  · walk_at "w"
    have e : k = l.length - 1 := by
      apply Decidable.byContradiction
      intro hn
      obtain ⟨y, hy⟩ : ∃ y, l[k + 1]? = some y := ⟨_, List.getElem?_eq_getElem (by omega)⟩
      obtain ⟨_, _, _, _, _, _, f7⟩ := R.ad hx hy
      omega
    rw [e, show l.length - 1 + 1 = l.length by omega, List.take_length]
    exact q
end
end Wk
set_option Elab.async false
set_option linter.all false
set_option maxRecDepth 100000
set_option maxHeartbeats 4000000
/-! The defs of law k03: the triangle. -/
namespace Wk
open PySem L2
open RZ (ItzT iZipA pi_zipA)
local macro_rules | `(tactic| walk_at "call") => `(tactic| fail)
local macro_rules | `(tactic| walk_at "e1") => `(tactic| first
  | (with_reducible apply ws_seq) | ((with_reducible apply we_var); rfl) | (with_reducible apply we_int) | ((with_reducible apply we_ixO); rfl) | (with_reducible apply we_op)
  | (with_reducible apply wr_add) | (with_reducible apply wr_sub) | (with_reducible apply wr_lt) | (with_reducible apply wr_le) | (with_reducible apply wr_gt) | (with_reducible apply wr_ge) | (with_reducible apply wr_eqI) | (with_reducible apply wr_neI) | (with_reducible apply wr_eqR) | (with_reducible apply wr_neR) | (with_reducible apply wr_isNi) | (with_reducible apply wr_isNt) | (with_reducible apply wr_isNs) | (with_reducible apply wr_isNn) | (with_reducible apply wr_notNi) | (with_reducible apply wr_notNt) | (with_reducible apply wr_notNs) | (with_reducible apply wr_notNn) | (with_reducible apply wr_isN) | (with_reducible apply wr_notN)
  | (with_reducible apply wr_ixT0) | ((with_reducible apply wr_ixT); rfl) | ((with_reducible apply wr_ixL); rfl)
  | (with_reducible apply wa_cons) | (with_reducible apply wa_nil) | (with_reducible apply we_tup)
  | (with_reducible apply wt_test) | (with_reducible apply wt_tr) | (with_reducible apply tr_bool) | (with_reducible apply sp_bool) | (with_reducible apply isT) | (with_reducible apply isF) | (with_reducible apply isNT) | (with_reducible apply isNF)
  | (with_reducible apply ws_newd) | (with_reducible apply ws_newl) | (with_reducible apply ws_dput) | (with_reducible apply ws_setL) | (with_reducible apply ws_asg) | (with_reducible apply wg_name) | (with_reducible apply ws_par) | (with_reducible apply ws_par3) | (with_reducible apply ws_ret) | (with_reducible apply ws_retN) | (with_reducible apply ws_if) | (with_reducible apply ws_next)
  | (with_reducible apply wt_and) | (with_reducible apply wt_or) | (with_reducible apply wt_not) | (with_reducible apply we_andT) | (with_reducible apply we_orT) | (with_reducible apply we_notT) | (with_reducible apply we_if) | (with_reducible apply we_chain)
  | (with_reducible apply we_bl) | (with_reducible apply we_non) | (with_reducible apply we_str)
  | (with_reducible apply we_isi_int) | (with_reducible apply we_isi_bool) | (with_reducible apply we_isi_tuple) | (with_reducible apply we_isi_str) | (with_reducible apply we_call) | ((with_reducible apply we_tupleO); rfl) | ((with_reducible apply we_lenO); rfl) | (with_reducible apply we_cb)
  | (with_reducible apply wc_abs) | (with_reducible apply wc_int) | (with_reducible apply wc_min2) | (with_reducible apply wc_max2) | ((with_reducible apply wc_len); rfl; trivial)
  | ((with_reducible apply wg_tup); rfl) | (with_reducible apply wgs_cons) | (with_reducible apply wgs_nil)
  | (with_reducible apply wo_none) | (with_reducible apply wo_some) | (with_reducible apply we_neg) | ((with_reducible refine' ws_app ?h ?hi); (case hi => exact ⟨_, _, rfl⟩)) | (with_reducible apply ws_drop))
local macro_rules | `(tactic| walk_at "e2") => `(tactic| first
  | ((with_reducible refine' And.intro ?h ?r); (case h => first | exact Nat.le_of_ble_eq_true rfl | omega))
  | ((with_reducible refine' ⟨?a, ?j, ?d, ?e1, ?e2, ?r⟩); (case a => rfl); (case e1 => rfl); (case e2 => first | rfl | with_reducible assumption))
  | ((with_reducible refine' ⟨⟨?o, ?e⟩, ?r⟩); (case e => rfl))
  | ((with_reducible refine' ⟨?p, ?d, ?j, ?m, ?e1, ?e2, ?e3, ?r⟩); (case e1 => rfl); (case e2 => rfl); (case e3 => rfl))
  | ((with_reducible refine' ⟨?w, ?e, ?r⟩); (case e => rfl))
  | ((with_reducible refine' ⟨?w, ?w2, ?e, ?r⟩); (case e => rfl))
  | ((with_reducible refine' ⟨?w, ?w2, ?w3, ?e, ?r⟩); (case e => rfl)))
local macro_rules | `(tactic| walk_at "bd") => `(tactic| first | with_reducible assumption | (with_reducible apply bd_add <;> walk_at "bd") | (with_reducible apply bd_sub <;> walk_at "bd") | (with_reducible apply bd_mul <;> walk_at "bd") | ((with_reducible apply bd_div); walk_at "bd") | ((with_reducible apply bd_mod) <;> first | omega | walk_at "bd") | (with_reducible apply bd_min <;> walk_at "bd") | (with_reducible apply bd_max <;> walk_at "bd") | ((with_reducible apply bd_abs); walk_at "bd") | ((with_reducible apply bd_neg); walk_at "bd") | exact bd_lit (n := 140) (by decide) | exact bd_pos (n := 140) (by omega) (by omega))
local macro_rules | `(tactic| walk_at "n1") => `(tactic| first
  | ((with_reducible apply wr_mulB); (focus (walk_at "bd")); (focus (walk_at "bd")); (focus decide))
  | ((with_reducible apply wr_divB); (focus omega); (focus (walk_at "bd")); (focus decide))
  | ((with_reducible apply wr_mul); (focus (first | exact mulokR (by decide) | exact mulokL (by decide))))
  | ((with_reducible apply wr_mod); (focus omega)) | ((with_reducible apply wr_pow); (focus (exact ⟨by decide, by decide, by decide⟩))))
local macro_rules | `(tactic| walk_at "d1") => `(tactic| first | ((with_reducible apply isDT); (focus (first | with_reducible assumption | omega))) | ((with_reducible apply isDF); (focus omega)) | ((with_reducible apply isNDT); (focus omega)) | ((with_reducible apply isNDF); (focus (first | with_reducible assumption | omega))))
local macro_rules | `(tactic| walk_at "w") => `(tactic| repeat first | walk_at "e1" | walk_at "n1" | walk_at "d1" | walk_at "call" | walk_at "e2")
local macro_rules | `(tactic| walk_at "call") => `(tactic| first | with_reducible apply s_is_integer_i | with_reducible apply s_common | ((with_reducible apply s_is_sized_t); (focus (simp; done))) | ((with_reducible apply s_is_within_t); (focus omega)))
local macro_rules | `(tactic| walk_at "f") => `(tactic| repeat first | ((with_reducible apply we_varF); rfl) | walk_at "e1" | walk_at "n1" | walk_at "d1" | walk_at "call" | walk_at "e2")
@[irreducible] def M6x : Int := 10 ^ 6
abbrev k_MOST_PLACE : V := .int 1000000
def pt (x y : Int) : PyData := .tuple [.int x, .int y]
def fig (a b c d : Int) : List PyData := [.tuple [.int 0, .int 0], .tuple [.int b, .int a], .tuple [.int d, .int c]]
structure FigOK (a b c d : Int) : Prop where
  a0 : 0 ≤ a ∧ a ≤ 2000
  b0 : 1 ≤ b ∧ b ≤ 2000
  c0 : 0 ≤ c ∧ c ≤ 2000
  d0 : 1 ≤ d ∧ d ≤ 2000
  det : c * b - a * d = 1
section
variable {K : Fg}
def S_sign_of : PS1 := fun ds p => ∃ i : Int, ds = [.int i] ∧ False
def S_lies_on : PS1 := fun ds p => ∃ x y z : PyData, ds = [x, y, z] ∧ False
def S_do_meet : PS1 := fun ds p => ∃ x y z w : PyData, ds = [x, y, z, w] ∧ False
def S_is_point : PS1 := fun ds p => ∃ x y : Int, ds = [.tuple [.int x, .int y]] ∧ (-999999 ≤ x ∧ x ≤ 999999 ∧ -999999 ≤ y ∧ y ≤ 999999) ∧ p (.bool true)
def S_turn_at : PS1 := fun ds p => ∃ a0 a1 b0 b1 c0 c1 : Int, ds = [.tuple [.int a0, .int a1], .tuple [.int b0, .int b1], .tuple [.int c0, .int c1]] ∧ (Bd 100 a0 ∧ Bd 100 a1 ∧ Bd 100 b0 ∧ Bd 100 b1 ∧ Bd 100 c0 ∧ Bd 100 c1) ∧ p (.int ((b0 - a0) * (c1 - a1) - (b1 - a1) * (c0 - a0)))
def S_sides_of : PS1 := fun ds p => ∃ x y z : PyData, ds = [.tuple [x, y, z]] ∧ p (.list [.tuple [x, y], .tuple [y, z], .tuple [z, x]])
def S_doubled : PS1 := fun ds p => ∃ a b c d : Int, ds = [.tuple (fig a b c d)] ∧ FigOK a b c d ∧ p (.int 1)
def S_points_on : PS1 := fun ds p => ∃ a b c d : Int, ds = [.tuple (fig a b c d)] ∧ FigOK a b c d ∧ p (.int 3)
def N_sign_of : List Str := ["number"]
def t_sign_of (K : Fg) : TS := (tRet (tOp rSubI (tCB rInt1 (tCons (tOp rGtI (tVar 0) (tC (.int 0))) tNil)) (tCB rInt1 (tCons (tOp rLtI (tVar 0) (tC (.int 0))) tNil))))
def N_lies_on : List Str := ["a", "b", "point"]
def t_lies_on (K : Fg) : TS := (tSeq (tIfS (tTest (tOp (rNeD K) (tCall (spP K S_turn_at) [] E0 (tCons (tVar 0) (tCons (tVar 1) (tCons (tVar 2) tNil)))) (tC (.int 0)))) (tRet (tC (.bl false))) tNext)
      (tRet (tAndT K (tChain rLeI rLeI (tCB rMin2 (tCons (tOp (rIx K) (tVar 0) (tC (.int 0))) (tCons (tOp (rIx K) (tVar 1) (tC (.int 0))) tNil))) (tOp (rIx K) (tVar 2) (tC (.int 0))) (tCB rMax2 (tCons (tOp (rIx K) (tVar 0) (tC (.int 0))) (tCons (tOp (rIx K) (tVar 1) (tC (.int 0))) tNil)))) (tChain rLeI rLeI (tCB rMin2 (tCons (tOp (rIx K) (tVar 0) (tC (.int 1))) (tCons (tOp (rIx K) (tVar 1) (tC (.int 1))) tNil))) (tOp (rIx K) (tVar 2) (tC (.int 1))) (tCB rMax2 (tCons (tOp (rIx K) (tVar 0) (tC (.int 1))) (tCons (tOp (rIx K) (tVar 1) (tC (.int 1))) tNil)))))))
def N_do_meet : List Str := ["a", "b", "c", "d", "first"]
def t_do_meet (K : Fg) : TS := (tSeq (tIfS (tOr (tTr K (tCall (spP K S_lies_on) [] E0 (tCons (tVar 0) (tCons (tVar 1) (tCons (tVar 2) tNil))))) (tOr (tTr K (tCall (spP K S_lies_on) [] E0 (tCons (tVar 0) (tCons (tVar 1) (tCons (tVar 3) tNil))))) (tOr (tTr K (tCall (spP K S_lies_on) [] E0 (tCons (tVar 2) (tCons (tVar 3) (tCons (tVar 0) tNil))))) (tTr K (tCall (spP K S_lies_on) [] E0 (tCons (tVar 2) (tCons (tVar 3) (tCons (tVar 1) tNil)))))))) (tRet (tC (.bl true))) tNext)
      (tSeq (tAsg (tOp rMulI (tCall (spP K S_sign_of) [] E0 (tCons (tCall (spP K S_turn_at) [] E0 (tCons (tVar 0) (tCons (tVar 1) (tCons (tVar 2) tNil)))) tNil)) (tCall (spP K S_sign_of) [] E0 (tCons (tCall (spP K S_turn_at) [] E0 (tCons (tVar 0) (tCons (tVar 1) (tCons (tVar 3) tNil)))) tNil))) (gName 4))
      (tRet (tAndT K (tOp rLtI (tVar 4) (tC (.int 0))) (tOp rLtI (tOp rMulI (tCall (spP K S_sign_of) [] E0 (tCons (tCall (spP K S_turn_at) [] E0 (tCons (tVar 2) (tCons (tVar 3) (tCons (tVar 0) tNil)))) tNil)) (tCall (spP K S_sign_of) [] E0 (tCons (tCall (spP K S_turn_at) [] E0 (tCons (tVar 2) (tCons (tVar 3) (tCons (tVar 1) tNil)))) tNil))) (tC (.int 0)))))))
def N_is_point : List Str := ["thing", "one"]
def t_is_point (K : Fg) : TS := (tRet (tAndT K (tCall (spP K S_is_sized) [] E0 (tCons (tVar 0) (tCons (tC (.int 2)) (tCons (tC (.int 2)) tNil)))) (tCB (rAll K) (tCons (tLc (iAny K (tVar 0)) (gName 1) tYes (tCall (spP K S_is_within) [] E0 (tCons (tVar 1) (tCons (tOp rSubI (tC (.int 1)) (tC k_MOST_PLACE)) (tCons (tOp rSubI (tC k_MOST_PLACE) (tC (.int 1))) tNil)))) [1]) tNil))))
def N_turn_at : List Str := ["a", "b", "c"]
def t_turn_at (K : Fg) : TS := (tRet (tOp rSubI (tOp rMulI (tOp rSubI (tOp (rIx K) (tVar 1) (tC (.int 0))) (tOp (rIx K) (tVar 0) (tC (.int 0)))) (tOp rSubI (tOp (rIx K) (tVar 2) (tC (.int 1))) (tOp (rIx K) (tVar 0) (tC (.int 1))))) (tOp rMulI (tOp rSubI (tOp (rIx K) (tVar 1) (tC (.int 1))) (tOp (rIx K) (tVar 0) (tC (.int 1)))) (tOp rSubI (tOp (rIx K) (tVar 2) (tC (.int 0))) (tOp (rIx K) (tVar 0) (tC (.int 0)))))))
def N_sides_of : List Str := ["figure", "one", "other"]
def t_sides_of (K : Fg) : TS := (tRet (tLc (iZipA K (tCons (tVar 0) (tCons (tOp (rCatA K) (tSl (rSlA K) (tVar 0) (tPart (tC (.int 1))) tNoPart) (tSl (rSlA K) (tVar 0) tNoPart (tPart (tC (.int 1))))) tNil))) (gTup K 2 (gCons (gName 1) (gCons (gName 2) gNil))) tYes (tTup (tCons (tVar 1) (tCons (tVar 2) tNil))) [1, 2]))
def N_doubled : List Str := ["figure", "one", "other"]
def t_doubled (K : Fg) : TS := (tRet (tCB (rSum K) (tCons (tLc (iAny K (tCall (spP K S_sides_of) [] E0 (tCons (tVar 0) tNil))) (gTup K 2 (gCons (gName 1) (gCons (gName 2) gNil))) tYes (tOp rSubI (tOp rMulI (tOp (rIx K) (tVar 1) (tC (.int 0))) (tOp (rIx K) (tVar 2) (tC (.int 1)))) (tOp rMulI (tOp (rIx K) (tVar 1) (tC (.int 1))) (tOp (rIx K) (tVar 2) (tC (.int 0))))) [1, 2]) tNil)))
def N_points_on : List Str := ["figure", "one", "other"]
def t_points_on (K : Fg) : TS := (tRet (tCB (rSum K) (tCons (tLc (iAny K (tCall (spP K S_sides_of) [] E0 (tCons (tVar 0) tNil))) (gTup K 2 (gCons (gName 1) (gCons (gName 2) gNil))) tYes (tCall (spP K S_common) [] E0 (tCons (tOp rSubI (tOp (rIx K) (tVar 2) (tC (.int 0))) (tOp (rIx K) (tVar 1) (tC (.int 0)))) (tCons (tOp rSubI (tOp (rIx K) (tVar 2) (tC (.int 1))) (tOp (rIx K) (tVar 1) (tC (.int 1)))) tNil))) [1, 2]) tNil)))
theorem body_sign_of : Body K S_sign_of N_sign_of (t_sign_of K) := by
  rintro ds p ⟨i, rfl, h⟩; exact h.elim
theorem body_lies_on : Body K S_lies_on N_lies_on (t_lies_on K) := by
  rintro ds p ⟨x, y, z, rfl, h⟩; exact h.elim
theorem body_do_meet : Body K S_do_meet N_do_meet (t_do_meet K) := by
  rintro ds p ⟨x, y, z, w, rfl, h⟩; exact h.elim
theorem body_is_point : Body K S_is_point N_is_point (t_is_point K) := by
  rintro ds p ⟨x, y, rfl, ⟨h1, h2, h3, h4⟩, q⟩ C -
  show WS K C _ [.im (.tuple [.int x, .int y]), .un] _ _ _ _
  unfold t_is_point
  walk_at "w"
  refine we_map (wi_tup ?_)
  walk_at "w"
  refine ⟨fun _ => .bool true, fun e he => wgv_name (by decide) ?_, by simp, ?_⟩
  · simp only [List.mem_cons, List.not_mem_nil, or_false] at he
    rcases he with rfl | rfl
    · walk_at "w"
      exact ⟨rfl, rfl⟩
    · walk_at "w"
      exact ⟨rfl, rfl⟩
  walk_at "w"
  refine wc_allT (by simp) ?_
  exact q
theorem body_turn_at : Body K S_turn_at N_turn_at (t_turn_at K) := by
  rintro ds p ⟨a0, a1, b0, b1, c0, c1, rfl, ⟨h1, h2, h3, h4, h5, h6⟩, q⟩ C -
  show WS K C _ [.im (.tuple [.int a0, .int a1]), .im (.tuple [.int b0, .int b1]), .im (.tuple [.int c0, .int c1])] _ _ _ _
  unfold t_turn_at
  walk_at "w"
  exact q
theorem body_sides_of : Body K S_sides_of N_sides_of (t_sides_of K) := by
  rintro ds p ⟨x, y, z, rfl, q⟩ C -
  show WS K C _ [.im (.tuple [x, y, z]), .un, .un] _ _ _ _
  unfold t_sides_of
  refine ws_ret (we_map (wi_zip ?_))
  refine wa_cons (we_var rfl (wa_cons (we_op (we_slT ?_))))
  walk_at "w"
  refine ⟨by simp [HT.sIx], ?_⟩
  refine we_slT ?_
  walk_at "w"
  refine ⟨by simp [HT.sIx], ?_⟩
  rw [show cutD [x, y, z] (some 1) none = [y, z] from rfl, show cutD [x, y, z] none (some 1) = [x] from rfl]
  refine wr_catA (by simp) (by simp) (by simp) ?_
  refine wa_nil ⟨[x, y, z], [y, z, x], .inr rfl, fun d => d, fun e he => ?_, by simp, q⟩
  simp only [List.zip_cons_cons, List.zip_nil_right, List.map_cons, List.map_nil, List.mem_cons, List.not_mem_nil, or_false] at he
  rcases he with rfl | rfl | rfl <;>
  · refine wgv_tup rfl (wgvs_cons (wgv_name (by decide) (wgvs_cons (wgv_name (by decide) (wgvs_nil ?_)))))
    walk_at "w"
    exact ⟨rfl, rfl⟩
def f2 : PyData → PyData
  | .tuple [.tuple [.int x0, .int x1], .tuple [.int y0, .int y1]] => .int (x0 * y1 - x1 * y0)
  | d => d
def f3 : PyData → PyData
  | .tuple [.tuple [.int x0, .int x1], .tuple [.int y0, .int y1]] => .int (Int.gcd (y0 - x0) (y1 - x1))
  | d => d
theorem fig_bd {a b c d : Int} (h : FigOK a b c d) : Bd 20 a ∧ Bd 20 b ∧ Bd 20 c ∧ Bd 20 d := by
  obtain ⟨h1, h2, h3, h4, _⟩ := h
  exact ⟨bd_pos (by omega) (by omega), bd_pos (by omega) (by omega), bd_pos (by omega) (by omega), bd_pos (by omega) (by omega)⟩
theorem body_doubled : Body K S_doubled N_doubled (t_doubled K) := by
  rintro ds p ⟨a, b, c, d, rfl, h, q⟩ C -
  show WS K C _ [.im (.tuple (fig a b c d)), .un, .un] _ _ _ _
  unfold t_doubled
  obtain ⟨za, zb, zc, zd⟩ := fig_bd h
  walk_at "w"
  refine we_map (wi_list ?_)
  walk_at "w"
  refine ⟨_, _, _, rfl, ?_⟩
  walk_at "w"
  refine ⟨f2, fun e he => ?_, by simp, ?_⟩
  · simp only [List.mem_cons, List.not_mem_nil, or_false] at he
    rcases he with rfl | rfl | rfl <;>
    · refine wgv_tup rfl (wgvs_cons (wgv_name (by decide) (wgvs_cons (wgv_name (by decide) (wgvs_nil ?_)))))
      walk_at "w"
      exact ⟨rfl, rfl⟩
  · walk_at "w"
    refine wc_sum (ns := [0 * a - 0 * b, b * c - a * d, d * 0 - c * 0]) ?_
    have := h.det
    have e : ([0 * a - 0 * b, b * c - a * d, d * 0 - c * 0] : List Int).sum = 1 := by
      simp only [List.sum_cons, List.sum_nil, Int.zero_mul, Int.mul_zero, Int.mul_comm b c]
      omega
    rw [e]
    exact q
theorem body_points_on : Body K S_points_on N_points_on (t_points_on K) := by
  rintro ds p ⟨a, b, c, d, rfl, h, q⟩ C -
  show WS K C _ [.im (.tuple (fig a b c d)), .un, .un] _ _ _ _
  unfold t_points_on
  walk_at "w"
  refine we_map (wi_list ?_)
  walk_at "w"
  refine ⟨_, _, _, rfl, ?_⟩
  walk_at "w"
  refine ⟨f3, fun e he => ?_, by simp, ?_⟩
  · simp only [List.mem_cons, List.not_mem_nil, or_false] at he
    rcases he with rfl | rfl | rfl <;>
    · refine wgv_tup rfl (wgvs_cons (wgv_name (by decide) (wgvs_cons (wgv_name (by decide) (wgvs_nil ?_)))))
      walk_at "w"
      exact ⟨rfl, rfl⟩
  · walk_at "w"
    refine wc_sum (ns := [(Int.gcd (b - 0) (a - 0) : Int), (Int.gcd (d - b) (c - a) : Int), (Int.gcd (0 - d) (0 - c) : Int)]) ?_
    have hd := h.det
    have g1 : Int.gcd (b - 0) (a - 0) = 1 := by rw [Int.sub_zero, Int.sub_zero, Int.gcd_comm]; exact cop_det hd
    have g2 : Int.gcd (d - b) (c - a) = 1 := by
      rw [Int.gcd_comm]
      refine cop_det (a := c - a) (b := d - b) (c := -a) (d := -b) ?_
      simp only [Int.neg_mul, Int.mul_neg, Int.mul_sub, Int.sub_mul]
      omega
    have g3 : Int.gcd (0 - d) (0 - c) = 1 := by
      rw [Int.zero_sub, Int.zero_sub, Int.neg_gcd, Int.gcd_neg, Int.gcd_comm]; exact cop_det' hd
    rw [g1, g2, g3]
    exact q
end
end Wk
set_option Elab.async false
set_option linter.all false
set_option maxRecDepth 100000
set_option maxHeartbeats 4000000
/-! The defs of law k03: is_figure and what asks it. -/
namespace Wk
open PySem L2
open RZ (ItzT iZipA pi_zipA)
local macro_rules | `(tactic| walk_at "call") => `(tactic| fail)
local macro_rules | `(tactic| walk_at "e1") => `(tactic| first
  | (with_reducible apply ws_seq) | ((with_reducible apply we_var); rfl) | (with_reducible apply we_int) | ((with_reducible apply we_ixO); rfl) | (with_reducible apply we_op)
  | (with_reducible apply wr_add) | (with_reducible apply wr_sub) | (with_reducible apply wr_lt) | (with_reducible apply wr_le) | (with_reducible apply wr_gt) | (with_reducible apply wr_ge) | (with_reducible apply wr_eqI) | (with_reducible apply wr_neI) | (with_reducible apply wr_eqR) | (with_reducible apply wr_neR) | (with_reducible apply wr_isNi) | (with_reducible apply wr_isNt) | (with_reducible apply wr_isNs) | (with_reducible apply wr_isNn) | (with_reducible apply wr_notNi) | (with_reducible apply wr_notNt) | (with_reducible apply wr_notNs) | (with_reducible apply wr_notNn) | (with_reducible apply wr_isN) | (with_reducible apply wr_notN)
  | (with_reducible apply wr_ixT0) | ((with_reducible apply wr_ixT); rfl) | ((with_reducible apply wr_ixL); rfl)
  | (with_reducible apply wa_cons) | (with_reducible apply wa_nil) | (with_reducible apply we_tup)
  | (with_reducible apply wt_test) | (with_reducible apply wt_tr) | (with_reducible apply tr_bool) | (with_reducible apply sp_bool) | (with_reducible apply isT) | (with_reducible apply isF) | (with_reducible apply isNT) | (with_reducible apply isNF)
  | (with_reducible apply ws_newd) | (with_reducible apply ws_newl) | (with_reducible apply ws_dput) | (with_reducible apply ws_setL) | (with_reducible apply ws_asg) | (with_reducible apply wg_name) | (with_reducible apply ws_par) | (with_reducible apply ws_par3) | (with_reducible apply ws_ret) | (with_reducible apply ws_retN) | (with_reducible apply ws_if) | (with_reducible apply ws_next)
  | (with_reducible apply wt_and) | (with_reducible apply wt_or) | (with_reducible apply wt_not) | (with_reducible apply we_andT) | (with_reducible apply we_orT) | (with_reducible apply we_notT) | (with_reducible apply we_if) | (with_reducible apply we_chain)
  | (with_reducible apply we_bl) | (with_reducible apply we_non) | (with_reducible apply we_str)
  | (with_reducible apply we_isi_int) | (with_reducible apply we_isi_bool) | (with_reducible apply we_isi_tuple) | (with_reducible apply we_isi_str) | (with_reducible apply we_call) | ((with_reducible apply we_tupleO); rfl) | ((with_reducible apply we_lenO); rfl) | (with_reducible apply we_cb)
  | (with_reducible apply wc_abs) | (with_reducible apply wc_int) | (with_reducible apply wc_min2) | (with_reducible apply wc_max2) | ((with_reducible apply wc_len); rfl; trivial)
  | ((with_reducible apply wg_tup); rfl) | (with_reducible apply wgs_cons) | (with_reducible apply wgs_nil)
  | (with_reducible apply wo_none) | (with_reducible apply wo_some) | (with_reducible apply we_neg) | ((with_reducible refine' ws_app ?h ?hi); (case hi => exact ⟨_, _, rfl⟩)) | (with_reducible apply ws_drop))
local macro_rules | `(tactic| walk_at "e2") => `(tactic| first
  | ((with_reducible refine' And.intro ?h ?r); (case h => first | exact Nat.le_of_ble_eq_true rfl | omega))
  | ((with_reducible refine' ⟨?a, ?j, ?d, ?e1, ?e2, ?r⟩); (case a => rfl); (case e1 => rfl); (case e2 => first | rfl | with_reducible assumption))
  | ((with_reducible refine' ⟨⟨?o, ?e⟩, ?r⟩); (case e => rfl))
  | ((with_reducible refine' ⟨?p, ?d, ?j, ?m, ?e1, ?e2, ?e3, ?r⟩); (case e1 => rfl); (case e2 => rfl); (case e3 => rfl))
  | ((with_reducible refine' ⟨?w, ?e, ?r⟩); (case e => rfl))
  | ((with_reducible refine' ⟨?w, ?w2, ?e, ?r⟩); (case e => rfl))
  | ((with_reducible refine' ⟨?w, ?w2, ?w3, ?e, ?r⟩); (case e => rfl)))
local macro_rules | `(tactic| walk_at "bd") => `(tactic| first | with_reducible assumption | (with_reducible apply bd_add <;> walk_at "bd") | (with_reducible apply bd_sub <;> walk_at "bd") | (with_reducible apply bd_mul <;> walk_at "bd") | ((with_reducible apply bd_div); walk_at "bd") | ((with_reducible apply bd_mod) <;> first | omega | walk_at "bd") | (with_reducible apply bd_min <;> walk_at "bd") | (with_reducible apply bd_max <;> walk_at "bd") | ((with_reducible apply bd_abs); walk_at "bd") | ((with_reducible apply bd_neg); walk_at "bd") | exact bd_lit (n := 140) (by decide) | exact bd_pos (n := 140) (by omega) (by omega))
local macro_rules | `(tactic| walk_at "n1") => `(tactic| first
  | ((with_reducible apply wr_mulB); (focus (walk_at "bd")); (focus (walk_at "bd")); (focus decide))
  | ((with_reducible apply wr_divB); (focus omega); (focus (walk_at "bd")); (focus decide))
  | ((with_reducible apply wr_mul); (focus (first | exact mulokR (by decide) | exact mulokL (by decide))))
  | ((with_reducible apply wr_mod); (focus omega)) | ((with_reducible apply wr_pow); (focus (exact ⟨by decide, by decide, by decide⟩))))
local macro_rules | `(tactic| walk_at "d1") => `(tactic| first | ((with_reducible apply isDT); (focus (first | with_reducible assumption | omega))) | ((with_reducible apply isDF); (focus omega)) | ((with_reducible apply isNDT); (focus omega)) | ((with_reducible apply isNDF); (focus (first | with_reducible assumption | omega))))
local macro_rules | `(tactic| walk_at "w") => `(tactic| repeat first | walk_at "e1" | walk_at "n1" | walk_at "d1" | walk_at "call" | walk_at "e2")
local macro_rules | `(tactic| walk_at "call") => `(tactic| first | with_reducible apply s_is_integer_i | with_reducible apply s_common | ((with_reducible apply s_is_sized_t); (focus (simp; done))) | ((with_reducible apply s_is_within_t); (focus omega)))
local macro_rules | `(tactic| walk_at "f") => `(tactic| repeat first | ((with_reducible apply we_varF); rfl) | walk_at "e1" | walk_at "n1" | walk_at "d1" | walk_at "call" | walk_at "e2")
local macro_rules | `(tactic| walk_at "bq") => `(tactic| (apply Bd.up; (focus (walk_at "bd")); (focus decide)))
theorem fig_plain (a b c d : Int) : PyData.plainAll (fig a b c d) = true ∧ PyData.depthAll (fig a b c d) ≤ 60 := by
  constructor
  · simp [fig, PyData.plainAll, PyData.plain]
  · simp [fig, PyData.depthAll, PyData.depth]
theorem fig_cnt {a b c d : Int} (h : FigOK a b c d) {e : PyData} (he : e ∈ fig a b c d) : e.plain = true ∧ (fig a b c d).countP (fun z => PyData.eqv z e) = 1 := by
  obtain ⟨ha, hb, hc, hd, det⟩ := h
  have hne : ¬ (b = d ∧ a = c) := fun z => by
    obtain ⟨rfl, rfl⟩ := z; omega
  have hne' : ¬ (d = b ∧ c = a) := fun z => hne ⟨z.1.symm, z.2.symm⟩
  simp only [fig, List.mem_cons, List.not_mem_nil, or_false] at he
  rcases he with rfl | rfl | rfl
  · refine ⟨by simp [PyData.plain, PyData.plainAll], ?_⟩
    simp only [fig, List.countP_cons, List.countP_nil, eqv_pair]
    rw [decide_eq_false (show ¬ (b = 0 ∧ a = 0) by omega), decide_eq_false (show ¬ (d = 0 ∧ c = 0) by omega)]
    rfl
  · refine ⟨by simp [PyData.plain, PyData.plainAll], ?_⟩
    simp only [fig, List.countP_cons, List.countP_nil, eqv_pair]
    rw [decide_eq_false (show ¬ ((0 : Int) = b ∧ (0 : Int) = a) by omega), decide_eq_false hne']
    rfl
  · refine ⟨by simp [PyData.plain, PyData.plainAll], ?_⟩
    simp only [fig, List.countP_cons, List.countP_nil, eqv_pair]
    rw [decide_eq_false (show ¬ ((0 : Int) = d ∧ (0 : Int) = c) by omega), decide_eq_false hne]
    rfl
section
variable {K : Fg}
def S_is_figure : PS1 := fun ds p => ∃ a b c d : Int, ds = fig a b c d ∧ FigOK a b c d ∧ p (.bool true)
def S_check_figure : PS1 := fun ds p => ∃ a b c d : Int, ds = fig a b c d ∧ FigOK a b c d ∧ p .none
def S_double_area : PS1 := fun ds p => ∃ a b c d : Int, ds = fig a b c d ∧ FigOK a b c d ∧ p (.int 1)
def S_on_sides : PS1 := fun ds p => ∃ a b c d : Int, ds = fig a b c d ∧ FigOK a b c d ∧ p (.int 3)
def S_inside : PS1 := fun ds p => ∃ a b c d : Int, ds = fig a b c d ∧ FigOK a b c d ∧ p (.int 0)
def N_check_figure : List Str := ["figure"]
def t_check_figure (K : Fg) : TS := (tIfS (tNot (tTr K (tCall (spF K S_is_figure) [] E0 (tCons (tVar 0) tNil)))) tNever tNext)
def N_double_area : List Str := ["figure"]
def t_double_area (K : Fg) : TS := (tSeq (tDrop (tCall (spF K S_check_figure) [] E0 (tCons (tVar 0) tNil)))
      (tRet (tCall (spP K S_doubled) [] E0 (tCons (tVar 0) tNil))))
def N_on_sides : List Str := ["figure"]
def t_on_sides (K : Fg) : TS := (tSeq (tDrop (tCall (spF K S_check_figure) [] E0 (tCons (tVar 0) tNil)))
      (tRet (tCall (spP K S_points_on) [] E0 (tCons (tVar 0) tNil))))
def N_inside : List Str := ["figure"]
def t_inside (K : Fg) : TS := (tSeq (tDrop (tCall (spF K S_check_figure) [] E0 (tCons (tVar 0) tNil)))
      (tRet (tOp rDivI (tOp rAddI (tOp rSubI (tCall (spP K S_doubled) [] E0 (tCons (tVar 0) tNil)) (tCall (spP K S_points_on) [] E0 (tCons (tVar 0) tNil))) (tC (.int 2))) (tC (.int 2)))))
def N_is_figure : List Str := ["thing", "many", "sides", "at", "to", "one"]
def t_is_figure (K : Fg) : TS := (tSeq (tIfS (tOr (tNot (tTr K (tCall (spP K S_is_sized) [] E0 (tCons (tVar 0) (tCons (tC (.int 3)) (tCons (tC (.int 8)) tNil)))))) (tNot (tTr K (tCB (rAll K) (tCons (tLc (iAny K (tVar 0)) (gName 5) tYes (tCall (spP K S_is_point) [] E0 (tCons (tVar 5) tNil)) [5]) tNil))))) (tRet (tC (.bl false))) tNext)
      (tSeq (tIfS (tOr (tTr K (tCB (rAny K) (tCons (tLc (iAny K (tVar 0)) (gName 5) tYes (tOp rGtI (tTC K (tVar 0) (tCons (tVar 5) tNil)) (tC (.int 1))) [5]) tNil))) (tTest (tOp rLeI (tCall (spP K S_doubled) [] E0 (tCons (tVar 0) tNil)) (tC (.int 0))))) (tRet (tC (.bl false))) tNext)
      (tSeq (tAsg (tCB (rLen K) (tCons (tVar 0) tNil)) (gName 1))
      (tSeq (tIfS (tTr K (tCB (rAny K) (tCons (tLc (iRng1 (tCons (tVar 1) tNil)) (gName 3) tYes (tOp (rEqD K) (tCall (spP K S_turn_at) [] E0 (tCons (tOp (rIx K) (tVar 0) (tOp rSubI (tVar 3) (tC (.int 2)))) (tCons (tOp (rIx K) (tVar 0) (tOp rSubI (tVar 3) (tC (.int 1)))) (tCons (tOp (rIx K) (tVar 0) (tVar 3)) tNil)))) (tC (.int 0))) [3]) tNil))) (tRet (tC (.bl false))) tNext)
      (tSeq (tAsg (tCall (spP K S_sides_of) [] E0 (tCons (tVar 0) tNil)) (gName 2))
      (tSeq (tFor (iRng1 (tCons (tVar 1) tNil)) (gName 3) (tFor (iRng2 (tCons (tOp rAddI (tVar 3) (tC (.int 2))) (tCons (tVar 1) tNil))) (gName 4) (tIfS (tAnd (tTest (tOp (rNeD K) (tTup (tCons (tVar 3) (tCons (tVar 4) tNil))) (tTup (tCons (tC (.int 0)) (tCons (tOp rSubI (tVar 1) (tC (.int 1))) tNil))))) (tTr K (tCall (spP K S_do_meet) [] E0 (tCons (tOp (rIx K) (tOp (rIx K) (tVar 2) (tVar 3)) (tC (.int 0))) (tCons (tOp (rIx K) (tOp (rIx K) (tVar 2) (tVar 3)) (tC (.int 1))) (tCons (tOp (rIx K) (tOp (rIx K) (tVar 2) (tVar 4)) (tC (.int 0))) (tCons (tOp (rIx K) (tOp (rIx K) (tVar 2) (tVar 4)) (tC (.int 1))) tNil))))))) (tRet (tC (.bl false))) tNext)))
      (tRet (tC (.bl true)))))))))
theorem body_check_figure : BodyF K S_check_figure N_check_figure (t_check_figure K) := by
  rintro ds p ⟨a, b, c, d, rfl, h, q⟩ C -
  show WS K C _ [.vx (FZ K (fig a b c d))] _ _ _ _
  unfold t_check_figure
  walk_at "f"
  refine we_callF rfl ⟨a, b, c, d, rfl, h, ?_⟩
  walk_at "f"
  exact q
theorem body_double_area : BodyF K S_double_area N_double_area (t_double_area K) := by
  rintro ds p ⟨a, b, c, d, rfl, h, q⟩ C -
  show WS K C _ [.vx (FZ K (fig a b c d))] _ _ _ _
  unfold t_double_area
  refine ws_seq (ws_drop (we_callF rfl ⟨a, b, c, d, rfl, h, ?_⟩))
  walk_at "f"
  exact ⟨a, b, c, d, rfl, h, q⟩
theorem body_on_sides : BodyF K S_on_sides N_on_sides (t_on_sides K) := by
  rintro ds p ⟨a, b, c, d, rfl, h, q⟩ C -
  show WS K C _ [.vx (FZ K (fig a b c d))] _ _ _ _
  unfold t_on_sides
  refine ws_seq (ws_drop (we_callF rfl ⟨a, b, c, d, rfl, h, ?_⟩))
  walk_at "f"
  exact ⟨a, b, c, d, rfl, h, q⟩
theorem body_inside : BodyF K S_inside N_inside (t_inside K) := by
  rintro ds p ⟨a, b, c, d, rfl, h, q⟩ C -
  show WS K C _ [.vx (FZ K (fig a b c d))] _ _ _ _
  unfold t_inside
  refine ws_seq (ws_drop (we_callF rfl ⟨a, b, c, d, rfl, h, ?_⟩))
  walk_at "f"
  refine ⟨a, b, c, d, rfl, h, ?_⟩
  walk_at "f"
  refine ⟨a, b, c, d, rfl, h, ?_⟩
  walk_at "f"
  exact q
theorem body_is_figure : BodyF K S_is_figure N_is_figure (t_is_figure K) := by
  rintro ds p ⟨a, b, c, d, rfl, h, q⟩ C -
  show WS K C _ [.vx (FZ K (fig a b c d)), .un, .un, .un, .un, .un] _ _ _ _
  unfold t_is_figure
  obtain ⟨za, zb, zc, zd⟩ := fig_bd h
  obtain ⟨ha, hb, hc, hd, det⟩ := id h
  obtain ⟨hpl, hdp⟩ := fig_plain a b c d
  have z0 : Bd 20 (0 : Int) := bd_lit (by decide)
  walk_at "f"
  refine s_is_sized_t (by simp [fig]) ?_
  walk_at "f"
  refine we_map (wi_tup ?_)
  walk_at "f"
  refine ⟨fun _ => .bool true, fun e he => wgv_name (by decide) ?_, by simp [fig], ?_⟩
  · simp only [fig, List.mem_cons, List.not_mem_nil, or_false] at he
    rcases he with rfl | rfl | rfl
    · walk_at "f"
      refine ⟨_, _, rfl, by omega, ?_⟩
      exact ⟨rfl, rfl⟩
    · walk_at "f"
      refine ⟨_, _, rfl, by omega, ?_⟩
      exact ⟨rfl, rfl⟩
    · walk_at "f"
      refine ⟨_, _, rfl, by omega, ?_⟩
      exact ⟨rfl, rfl⟩
  walk_at "f"
  refine wc_allT (by simp [fig]) ?_
  walk_at "f"
  refine we_map (wi_tup ?_)
  walk_at "f"
  refine ⟨fun _ => .bool false, fun e he => wgv_name (by decide) ?_, by simp [fig], ?_⟩
  · obtain ⟨h1, h2⟩ := fig_cnt h he
    walk_at "f"
    refine we_tcount rfl hpl hdp (we_var rfl ⟨h1, ?_⟩)
    rw [h2]
    walk_at "f"
    exact ⟨rfl, rfl⟩
  walk_at "f"
  refine wc_any (bs := [false, false, false]) ?_
  walk_at "f"
  refine isF ?_
  walk_at "f"
  refine ⟨a, b, c, d, rfl, h, ?_⟩
  walk_at "f"
  rw [show (((fig a b c d).length : Nat) : Int) = 3 from rfl]
  refine we_map (wi_r1 ?_)
  walk_at "f"
  refine ⟨fun _ => .bool false, fun e he => wgv_name (by decide) ?_, by decide, ?_⟩
  · have he' : e = .int 0 ∨ e = .int 1 ∨ e = .int 2 := by
      obtain ⟨i, hi⟩ := List.mem_iff_getElem?.mp he
      obtain ⟨h1, rfl⟩ := rangeD_at.mp hi
      have : i < 3 := h1
      rcases i with _ | _ | _ | i
      · exact .inl rfl
      · exact .inr (.inl rfl)
      · exact .inr (.inr rfl)
      · omega
    have t1 : (d - b) * (0 - a) - (c - a) * (0 - b) = 1 := by
      simp only [Int.sub_mul, Int.mul_sub, Int.mul_zero, Int.zero_sub, Int.mul_neg, Int.neg_mul]
      have := Int.mul_comm b a
      have := Int.mul_comm d a
      omega
    have t2 : (0 - d) * (a - c) - (0 - c) * (b - d) = 1 := by
      simp only [Int.sub_mul, Int.mul_sub, Int.zero_mul, Int.zero_sub, Int.mul_neg, Int.neg_mul]
      have := Int.mul_comm d a
      have := Int.mul_comm d c
      omega
    have t3 : (b - 0) * (c - 0) - (a - 0) * (d - 0) = 1 := by
      simp only [Int.sub_zero]
      have := Int.mul_comm b c
      omega
    rcases he' with rfl | rfl | rfl
    · walk_at "f"
      refine ⟨_, _, _, _, _, _, rfl, ⟨by walk_at "bq", by walk_at "bq", by walk_at "bq", by walk_at "bq", by walk_at "bq", by walk_at "bq"⟩, ?_⟩
      rw [t1]
      walk_at "f"
      exact ⟨rfl, rfl⟩
    · walk_at "f"
      refine ⟨_, _, _, _, _, _, rfl, ⟨by walk_at "bq", by walk_at "bq", by walk_at "bq", by walk_at "bq", by walk_at "bq", by walk_at "bq"⟩, ?_⟩
      rw [t2]
      walk_at "f"
      exact ⟨rfl, rfl⟩
    · walk_at "f"
      refine ⟨_, _, _, _, _, _, rfl, ⟨by walk_at "bq", by walk_at "bq", by walk_at "bq", by walk_at "bq", by walk_at "bq", by walk_at "bq"⟩, ?_⟩
      rw [t3]
      walk_at "f"
      exact ⟨rfl, rfl⟩
  walk_at "f"
  refine wc_any (bs := [false, false, false]) ?_
  walk_at "f"
  refine isF ?_
  walk_at "f"
  refine ⟨_, _, _, rfl, ?_⟩
  walk_at "f"
  generalize hL : [PyData.tuple [PyData.tuple [PyData.int 0, PyData.int 0], PyData.tuple [PyData.int b, PyData.int a]], PyData.tuple [PyData.tuple [PyData.int b, PyData.int a], PyData.tuple [PyData.int d, PyData.int c]], PyData.tuple [PyData.tuple [PyData.int d, PyData.int c], PyData.tuple [PyData.int 0, PyData.int 0]]] = L
  refine ws_for (wi_r1 ?_)
  walk_at "f"
  refine ⟨fun i δ => ∃ s3 s4, δ = [.vx (FZ K (fig a b c d)), .im (.int 3), .im (.list L), s3, s4, .un], ⟨_, _, rfl⟩, fun i e δ he ⟨s3, s4, hδ⟩ => ?_, fun δ ⟨s3, s4, hδ⟩ => ?_⟩
  · subst hδ
    obtain ⟨hi, rfl⟩ := rangeD_at.mp he
    have hi3 : i < 3 := hi
    refine wg_name (ws_for (wi_r2 ?_))
    walk_at "f"
    refine ⟨fun j δ => ∃ s4, δ = [.vx (FZ K (fig a b c d)), .im (.int 3), .im (.list L), .im (.int (0 + (i : Nat))), s4, .un], ⟨_, rfl⟩, fun j e δ he2 ⟨s4, hδ⟩ => ?_, fun δ ⟨s4, hδ⟩ => ?_⟩
    · subst hδ
      obtain ⟨hj, rfl⟩ := rangeD_at.mp he2
      have i0 : i = 0 := by omega
      have j0 : j = 0 := by omega
      subst i0 j0
      walk_at "f"
      exact ⟨_, rfl⟩
    · subst hδ
      exact ⟨_, _, rfl⟩
  · subst hδ
    walk_at "f"
    exact q
end
end Wk
set_option Elab.async false
set_option linter.all false
set_option maxRecDepth 100000
set_option maxHeartbeats 4000000
/-! The law k03: pairs. -/
namespace Wk
open PySem L2
open RZ (ItzT iZipA pi_zipA)
local macro_rules | `(tactic| walk_at "call") => `(tactic| fail)
local macro_rules | `(tactic| walk_at "e1") => `(tactic| first
  | (with_reducible apply ws_seq) | ((with_reducible apply we_var); rfl) | (with_reducible apply we_int) | ((with_reducible apply we_ixO); rfl) | (with_reducible apply we_op)
  | (with_reducible apply wr_add) | (with_reducible apply wr_sub) | (with_reducible apply wr_lt) | (with_reducible apply wr_le) | (with_reducible apply wr_gt) | (with_reducible apply wr_ge) | (with_reducible apply wr_eqI) | (with_reducible apply wr_neI) | (with_reducible apply wr_eqR) | (with_reducible apply wr_neR) | (with_reducible apply wr_isNi) | (with_reducible apply wr_isNt) | (with_reducible apply wr_isNs) | (with_reducible apply wr_isNn) | (with_reducible apply wr_notNi) | (with_reducible apply wr_notNt) | (with_reducible apply wr_notNs) | (with_reducible apply wr_notNn) | (with_reducible apply wr_isN) | (with_reducible apply wr_notN)
  | (with_reducible apply wr_ixT0) | ((with_reducible apply wr_ixT); rfl) | ((with_reducible apply wr_ixL); rfl)
  | (with_reducible apply wa_cons) | (with_reducible apply wa_nil) | (with_reducible apply we_tup)
  | (with_reducible apply wt_test) | (with_reducible apply wt_tr) | (with_reducible apply tr_bool) | (with_reducible apply sp_bool) | (with_reducible apply isT) | (with_reducible apply isF) | (with_reducible apply isNT) | (with_reducible apply isNF)
  | (with_reducible apply ws_newd) | (with_reducible apply ws_newl) | (with_reducible apply ws_dput) | (with_reducible apply ws_setL) | (with_reducible apply ws_asg) | (with_reducible apply wg_name) | (with_reducible apply ws_par) | (with_reducible apply ws_par3) | (with_reducible apply ws_ret) | (with_reducible apply ws_retN) | (with_reducible apply ws_if) | (with_reducible apply ws_next)
  | (with_reducible apply wt_and) | (with_reducible apply wt_or) | (with_reducible apply wt_not) | (with_reducible apply we_andT) | (with_reducible apply we_orT) | (with_reducible apply we_notT) | (with_reducible apply we_if) | (with_reducible apply we_chain)
  | (with_reducible apply we_bl) | (with_reducible apply we_non) | (with_reducible apply we_str)
  | (with_reducible apply we_isi_int) | (with_reducible apply we_isi_bool) | (with_reducible apply we_isi_tuple) | (with_reducible apply we_isi_str) | (with_reducible apply we_call) | ((with_reducible apply we_tupleO); rfl) | ((with_reducible apply we_lenO); rfl) | (with_reducible apply we_cb)
  | (with_reducible apply wc_abs) | (with_reducible apply wc_int) | (with_reducible apply wc_min2) | (with_reducible apply wc_max2) | ((with_reducible apply wc_len); rfl; trivial)
  | ((with_reducible apply wg_tup); rfl) | (with_reducible apply wgs_cons) | (with_reducible apply wgs_nil)
  | (with_reducible apply wo_none) | (with_reducible apply wo_some) | (with_reducible apply we_neg) | ((with_reducible refine' ws_app ?h ?hi); (case hi => exact ⟨_, _, rfl⟩)) | (with_reducible apply ws_drop))
local macro_rules | `(tactic| walk_at "e2") => `(tactic| first
  | ((with_reducible refine' And.intro ?h ?r); (case h => first | exact Nat.le_of_ble_eq_true rfl | omega))
  | ((with_reducible refine' ⟨?a, ?j, ?d, ?e1, ?e2, ?r⟩); (case a => rfl); (case e1 => rfl); (case e2 => first | rfl | with_reducible assumption))
  | ((with_reducible refine' ⟨⟨?o, ?e⟩, ?r⟩); (case e => rfl))
  | ((with_reducible refine' ⟨?p, ?d, ?j, ?m, ?e1, ?e2, ?e3, ?r⟩); (case e1 => rfl); (case e2 => rfl); (case e3 => rfl))
  | ((with_reducible refine' ⟨?w, ?e, ?r⟩); (case e => rfl))
  | ((with_reducible refine' ⟨?w, ?w2, ?e, ?r⟩); (case e => rfl))
  | ((with_reducible refine' ⟨?w, ?w2, ?w3, ?e, ?r⟩); (case e => rfl)))
local macro_rules | `(tactic| walk_at "bd") => `(tactic| first | with_reducible assumption | (with_reducible apply bd_add <;> walk_at "bd") | (with_reducible apply bd_sub <;> walk_at "bd") | (with_reducible apply bd_mul <;> walk_at "bd") | ((with_reducible apply bd_div); walk_at "bd") | ((with_reducible apply bd_mod) <;> first | omega | walk_at "bd") | (with_reducible apply bd_min <;> walk_at "bd") | (with_reducible apply bd_max <;> walk_at "bd") | ((with_reducible apply bd_abs); walk_at "bd") | ((with_reducible apply bd_neg); walk_at "bd") | exact bd_lit (n := 140) (by decide) | exact bd_pos (n := 140) (by omega) (by omega))
local macro_rules | `(tactic| walk_at "n1") => `(tactic| first
  | ((with_reducible apply wr_mulB); (focus (walk_at "bd")); (focus (walk_at "bd")); (focus decide))
  | ((with_reducible apply wr_divB); (focus omega); (focus (walk_at "bd")); (focus decide))
  | ((with_reducible apply wr_mul); (focus (first | exact mulokR (by decide) | exact mulokL (by decide))))
  | ((with_reducible apply wr_mod); (focus omega)) | ((with_reducible apply wr_pow); (focus (exact ⟨by decide, by decide, by decide⟩))))
local macro_rules | `(tactic| walk_at "d1") => `(tactic| first | ((with_reducible apply isDT); (focus (first | with_reducible assumption | omega))) | ((with_reducible apply isDF); (focus omega)) | ((with_reducible apply isNDT); (focus omega)) | ((with_reducible apply isNDF); (focus (first | with_reducible assumption | omega))))
local macro_rules | `(tactic| walk_at "w") => `(tactic| repeat first | walk_at "e1" | walk_at "n1" | walk_at "d1" | walk_at "call" | walk_at "e2")
local macro_rules | `(tactic| walk_at "call") => `(tactic| first | with_reducible apply s_is_integer_i | with_reducible apply s_common)
def prI (n i : Nat) : List (Nat × Nat) := ((List.range (i + 1)).filter fun j => decide (Nat.gcd (i + 1) (n - i + j) = 1)).map fun j => (i + 1, n - i + j)
def prK (n k : Nat) : List (Nat × Nat) := (List.range k).flatMap (prI n)
theorem prK_end (n : Nat) : prK n n = prs n := rfl
theorem prK_succ (n k : Nat) : prK n (k + 1) = prK n k ++ prI n k := by unfold prK; rw [List.range_succ, List.flatMap_append]; simp
theorem prI_len (n i : Nat) : (prI n i).length ≤ i + 1 := by
  unfold prI
  rw [List.length_map]
  exact Nat.le_trans (List.length_filter_le _ _) (by rw [List.length_range]; exact Nat.le_refl _)
theorem prK_len (n : Nat) : ∀ k, k ≤ 60 → (prK n k).length ≤ k * 61
  | 0, _ => by simp [prK]
  | k + 1, h => by
    rw [prK_succ, List.length_append]
    have := prK_len n k (by omega)
    have := prI_len n k
    omega
section
variable {K : Fg}
def S__law_pairs : PS1 := fun ds p => ∃ n : Nat, ds = [.int (n : Nat)] ∧ 1 ≤ n ∧ n ≤ 60 ∧ p (.list ((prs n).map rd))
def N__law_pairs : List Str := ["n", "found", "one", "other"]
def t__law_pairs (K : Fg) : TS := (tSeq (tAsg (tLst tNil) (gName 1))
      (tSeq (tFor (iRng2 (tCons (tC (.int 1)) (tCons (tOp rAddI (tVar 0) (tC (.int 1))) tNil))) (gName 2) (tDrop (tBM K "list" rExtend (tVar 1) (tCons (tLc (iRng2 (tCons (tCB rMax2 (tCons (tC (.int 1)) (tCons (tOp rSubI (tOp rAddI (tVar 0) (tC (.int 1))) (tVar 2)) tNil))) (tCons (tOp rAddI (tVar 0) (tC (.int 1))) tNil))) (gName 3) (tTest (tOp (rEqD K) (tCall (spP K S__law_gcd) [] E0 (tCons (tVar 2) (tCons (tVar 3) tNil))) (tC (.int 1)))) (tTup (tCons (tVar 2) (tCons (tVar 3) tNil))) [3]) tNil))))
      (tRet (tVar 1))))
theorem body__law_pairs : Body K S__law_pairs N__law_pairs (t__law_pairs K) := by
  rintro ds p ⟨n, rfl, h1, h2, q⟩ C hM
  show WS K C _ [.im (.int (n : Nat)), .un, .un, .un] _ _ _ _
  unfold t__law_pairs
  walk_at "w"
  refine ws_for (wi_r2 ?_)
  walk_at "w"
  refine ⟨fun i δ => ∃ s2 s3, δ = [.im (.int (n : Nat)), .ow (.lst none ((prK n i).map rd)), s2, s3], ⟨_, _, rfl⟩, fun i e δ he ⟨s2, s3, hδ⟩ => ?_, fun δ ⟨s2, s3, hδ⟩ => ?_⟩
  · subst hδ
    obtain ⟨hi, rfl⟩ := rangeD_at.mp he
    have hi' : i < n := by omega
    rw [show (1 : Int) + ((i : Nat) : Int) = ((i + 1 : Nat) : Int) by omega]
    refine wg_name (ws_ext (wn_lc (wi_r2 ?_)) ⟨_, _, rfl⟩)
    walk_at "w"
    have eM : max 1 (((n : Nat) : Int) + 1 - ((i + 1 : Nat) : Int)) = ((n - i : Nat) : Int) := by omega
    rw [eM]
    have eR : (((n : Nat) : Int) + 1 - ((n - i : Nat) : Int)).toNat = i + 1 := by omega
    rw [eR]
    refine ⟨fun j acc δ => j ≤ i + 1 ∧ acc = (((List.range j).filter fun j => decide (Nat.gcd (i + 1) (n - i + j) = 1)).map fun j => (i + 1, n - i + j)).map rd ∧ δ = [.im (.int (n : Nat)), .ow (.lst none ((prK n i).map rd)), .im (.int ((i + 1 : Nat) : Int)), .un], ⟨by omega, rfl, rfl⟩, fun j e acc δ he hal ⟨hj, hacc, hδ⟩ => ?_, fun acc δ ⟨hj, hacc, hδ⟩ => ?_⟩
    · subst hδ
      obtain ⟨hj2, rfl⟩ := rangeD_at.mp he
      rw [show ((n - i : Nat) : Int) + ((j : Nat) : Int) = ((n - i + j : Nat) : Int) by omega]
      refine wgv_name (by decide) ?_
      walk_at "w"
      refine ⟨_, _, rfl, ?_⟩
      walk_at "w"
      rw [show Int.gcd ((i + 1 : Nat) : Int) ((n - i + j : Nat) : Int) = Nat.gcd (i + 1) (n - i + j) from rfl]
      refine both (fun hg => ?_) (fun hg => ?_)
      · walk_at "w"
        refine ⟨?_, rfl⟩
        rw [List.range_succ, List.filter_append, List.map_append, List.map_append, ← hacc]
        have : (List.filter (fun j => decide (Nat.gcd (i + 1) (n - i + j) = 1)) [j]) = [j] := by
          rw [List.filter_cons_of_pos (by rw [decide_eq_true_eq]; omega)]; rfl
        rw [this]
        rfl
      · walk_at "w"
        refine ⟨?_, rfl⟩
        rw [List.range_succ, List.filter_append, List.map_append, List.map_append, ← hacc]
        have : (List.filter (fun j => decide (Nat.gcd (i + 1) (n - i + j) = 1)) [j]) = [] := by
          rw [List.filter_cons_of_neg (by rw [decide_eq_true_eq]; omega)]; rfl
        rw [this]
        simp
    · subst hδ
      rw [rangeD_len] at hacc
      subst hacc
      have hk := prK_len n i (by omega)
      have hp := prI_len n i
      refine ⟨_, _, _, rfl, rfl, ?_, ?_⟩
      · rw [List.length_map, List.length_map]
        exact Nat.le_trans (Nat.add_le_add hk hp) (by omega)
      · have e : (prK n i).map rd ++ (prI n i).map rd = (prK n (i + 1)).map rd := by rw [prK_succ, List.map_append]
        show ∃ s2 s3, [SV.im (.int (n : Nat)), .ow (.lst none ((prK n i).map rd ++ (prI n i).map rd)), .im (.int ((i + 1 : Nat) : Int)), .un] = _
        rw [e]
        exact ⟨_, _, rfl⟩
  · subst hδ
    refine ws_freeze (i := 1) rfl hM ?_
    walk_at "w"
    rw [rangeD_len, show (((n : Nat) : Int) + 1 - 1).toNat = n by omega, prK_end]
    exact q
end
end Wk
set_option Elab.async false
set_option linter.all false
set_option maxRecDepth 100000
set_option maxHeartbeats 4000000
/-! The law k03: counts. -/
namespace Wk
open PySem L2
open RZ (ItzT iZipA pi_zipA)
local macro_rules | `(tactic| walk_at "call") => `(tactic| fail)
local macro_rules | `(tactic| walk_at "e1") => `(tactic| first
  | (with_reducible apply ws_seq) | ((with_reducible apply we_var); rfl) | (with_reducible apply we_int) | ((with_reducible apply we_ixO); rfl) | (with_reducible apply we_op)
  | (with_reducible apply wr_add) | (with_reducible apply wr_sub) | (with_reducible apply wr_lt) | (with_reducible apply wr_le) | (with_reducible apply wr_gt) | (with_reducible apply wr_ge) | (with_reducible apply wr_eqI) | (with_reducible apply wr_neI) | (with_reducible apply wr_eqR) | (with_reducible apply wr_neR) | (with_reducible apply wr_isNi) | (with_reducible apply wr_isNt) | (with_reducible apply wr_isNs) | (with_reducible apply wr_isNn) | (with_reducible apply wr_notNi) | (with_reducible apply wr_notNt) | (with_reducible apply wr_notNs) | (with_reducible apply wr_notNn) | (with_reducible apply wr_isN) | (with_reducible apply wr_notN)
  | (with_reducible apply wr_ixT0) | ((with_reducible apply wr_ixT); rfl) | ((with_reducible apply wr_ixL); rfl)
  | (with_reducible apply wa_cons) | (with_reducible apply wa_nil) | (with_reducible apply we_tup)
  | (with_reducible apply wt_test) | (with_reducible apply wt_tr) | (with_reducible apply tr_bool) | (with_reducible apply sp_bool) | (with_reducible apply isT) | (with_reducible apply isF) | (with_reducible apply isNT) | (with_reducible apply isNF)
  | (with_reducible apply ws_newd) | (with_reducible apply ws_newl) | (with_reducible apply ws_dput) | (with_reducible apply ws_setL) | (with_reducible apply ws_asg) | (with_reducible apply wg_name) | (with_reducible apply ws_par) | (with_reducible apply ws_par3) | (with_reducible apply ws_ret) | (with_reducible apply ws_retN) | (with_reducible apply ws_if) | (with_reducible apply ws_next)
  | (with_reducible apply wt_and) | (with_reducible apply wt_or) | (with_reducible apply wt_not) | (with_reducible apply we_andT) | (with_reducible apply we_orT) | (with_reducible apply we_notT) | (with_reducible apply we_if) | (with_reducible apply we_chain)
  | (with_reducible apply we_bl) | (with_reducible apply we_non) | (with_reducible apply we_str)
  | (with_reducible apply we_isi_int) | (with_reducible apply we_isi_bool) | (with_reducible apply we_isi_tuple) | (with_reducible apply we_isi_str) | (with_reducible apply we_call) | ((with_reducible apply we_tupleO); rfl) | ((with_reducible apply we_lenO); rfl) | (with_reducible apply we_cb)
  | (with_reducible apply wc_abs) | (with_reducible apply wc_int) | (with_reducible apply wc_min2) | (with_reducible apply wc_max2) | ((with_reducible apply wc_len); rfl; trivial)
  | ((with_reducible apply wg_tup); rfl) | (with_reducible apply wgs_cons) | (with_reducible apply wgs_nil)
  | (with_reducible apply wo_none) | (with_reducible apply wo_some) | (with_reducible apply we_neg) | ((with_reducible refine' ws_app ?h ?hi); (case hi => exact ⟨_, _, rfl⟩)) | (with_reducible apply ws_drop))
local macro_rules | `(tactic| walk_at "e2") => `(tactic| first
  | ((with_reducible refine' And.intro ?h ?r); (case h => first | exact Nat.le_of_ble_eq_true rfl | omega))
  | ((with_reducible refine' ⟨?a, ?j, ?d, ?e1, ?e2, ?r⟩); (case a => rfl); (case e1 => rfl); (case e2 => first | rfl | with_reducible assumption))
  | ((with_reducible refine' ⟨⟨?o, ?e⟩, ?r⟩); (case e => rfl))
  | ((with_reducible refine' ⟨?p, ?d, ?j, ?m, ?e1, ?e2, ?e3, ?r⟩); (case e1 => rfl); (case e2 => rfl); (case e3 => rfl))
  | ((with_reducible refine' ⟨?w, ?e, ?r⟩); (case e => rfl))
  | ((with_reducible refine' ⟨?w, ?w2, ?e, ?r⟩); (case e => rfl))
  | ((with_reducible refine' ⟨?w, ?w2, ?w3, ?e, ?r⟩); (case e => rfl)))
local macro_rules | `(tactic| walk_at "bd") => `(tactic| first | with_reducible assumption | (with_reducible apply bd_add <;> walk_at "bd") | (with_reducible apply bd_sub <;> walk_at "bd") | (with_reducible apply bd_mul <;> walk_at "bd") | ((with_reducible apply bd_div); walk_at "bd") | ((with_reducible apply bd_mod) <;> first | omega | walk_at "bd") | (with_reducible apply bd_min <;> walk_at "bd") | (with_reducible apply bd_max <;> walk_at "bd") | ((with_reducible apply bd_abs); walk_at "bd") | ((with_reducible apply bd_neg); walk_at "bd") | exact bd_lit (n := 140) (by decide) | exact bd_pos (n := 140) (by omega) (by omega))
local macro_rules | `(tactic| walk_at "n1") => `(tactic| first
  | ((with_reducible apply wr_mulB); (focus (walk_at "bd")); (focus (walk_at "bd")); (focus decide))
  | ((with_reducible apply wr_divB); (focus omega); (focus (walk_at "bd")); (focus decide))
  | ((with_reducible apply wr_mul); (focus (first | exact mulokR (by decide) | exact mulokL (by decide))))
  | ((with_reducible apply wr_mod); (focus omega)) | ((with_reducible apply wr_pow); (focus (exact ⟨by decide, by decide, by decide⟩))))
local macro_rules | `(tactic| walk_at "d1") => `(tactic| first | ((with_reducible apply isDT); (focus (first | with_reducible assumption | omega))) | ((with_reducible apply isDF); (focus omega)) | ((with_reducible apply isNDT); (focus omega)) | ((with_reducible apply isNDF); (focus (first | with_reducible assumption | omega))))
local macro_rules | `(tactic| walk_at "w") => `(tactic| repeat first | walk_at "e1" | walk_at "n1" | walk_at "d1" | walk_at "call" | walk_at "e2")
local macro_rules | `(tactic| walk_at "call") => `(tactic| first | with_reducible apply s_is_integer_i | with_reducible apply s_common)
theorem bf_one {n a b c d a' b' : Int} (hd : 0 < d) (h1 : c * b - a * d = 1) (h2 : n - d < b) (h3 : b ≤ n) (h1' : c * b' - a' * d = 1) (h2' : n - d < b') (h3' : b' ≤ n) : a' = a ∧ b' = b := by
  have x : ∀ {a b : Int}, c * b - a * d = 1 → n - d < b → b ≤ n → NX n (d - c) d (b - a) b := fun {a b} g1 g2 g3 => by
    refine ⟨?_, g2, g3⟩
    simp only [Int.sub_mul]
    have := Int.mul_comm b d
    omega
  obtain ⟨e1, e2⟩ := nx_one hd (x h1 h2 h3) (x h1' h2' h3')
  exact ⟨by omega, e2⟩
/-- one of some numbers behind each other has no divisor with their number -/
theorem some_cop {o L : Int} (ho : 0 < o) : ∃ j : Int, 0 ≤ j ∧ j < o ∧ Int.gcd o (L + j) = 1 := by
  refine ⟨(1 - L) % o, Int.emod_nonneg _ (by omega), Int.emod_lt_of_pos _ ho, ?_⟩
  have e := Int.emod_add_mul_ediv (1 - L) o
  have : L + (1 - L) % o = 1 + o * (-((1 - L) / o)) := by rw [Int.mul_neg]; omega
  rw [this, Int.gcd_add_mul_left_right]
  simp
theorem some_top {o t : Int} (ho : 2 ≤ o) (hg : Int.gcd o t = 1) : ∃ d : Int, 0 ≤ d ∧ d < o ∧ (d * t) % o = o - 1 := by
  have hT : Int.gcd (t % o) o = 1 := by rw [Int.gcd_comm, gcd_turn' (by omega), Int.gcd_comm]; exact hg
  have t1 := Int.emod_lt_of_pos t (show 0 < o by omega)
  have t2 := Int.emod_nonneg t (show o ≠ 0 by omega)
  have t3 : t % o ≠ 0 := fun z => by rw [z] at hT; simp at hT; omega
  have st : StepOK (t % o) o := ⟨by omega, t1, hT⟩
  obtain ⟨a, b, c, d, f, hs⟩ := fi_has st (o - 2).toNat (by omega)
  have hk : ((o - 2).toNat : Int) + 1 = o - 1 := by omega
  rw [hk] at f hs
  have sum := fi_sum f
  have b1 := f.b1; have d1 := f.d1; have lo := f.lo; have hi := f.hi; have dm := f.dm
  have y1 : c * o - t % o * d = 1 := by
    apply Decidable.byContradiction
    intro hn
    have p1 := Int.mul_le_mul_of_nonneg_right (show 1 ≤ t % o * b - a * o by omega) (show 0 ≤ d by omega)
    have p2 := Int.mul_le_mul_of_nonneg_right (show 2 ≤ c * o - t % o * d by omega) (show 0 ≤ b by omega)
    omega
  refine ⟨d, by omega, by omega, ?_⟩
  have e1 : (d * t) % o = (d * (t % o)) % o := by rw [Int.mul_emod d (t % o), Int.emod_emod_of_dvd t (Int.dvd_refl o), ← Int.mul_emod]
  rw [e1, show d * (t % o) = (o - 1) + o * (c - 1) by rw [Int.mul_sub, Int.mul_comm d, Int.mul_comm o c]; omega, Int.add_mul_emod_self_left]
  exact Int.emod_eq_of_lt (by omega) (by omega)
theorem det_of {o t x : Int} (ho : 0 < o) (h : (x * t) % o = o - 1) : (x * t + 1) / o * o - x * t = 1 := by
  have e := Int.emod_add_mul_ediv (x * t) o
  have : x * t + 1 = ((x * t) / o + 1) * o := by rw [Int.add_mul, Int.mul_comm (x * t / o)]; omega
  rw [this, Int.mul_ediv_cancel _ (by omega)]
  omega
section
variable {K : Fg}
def S__law_is_count_right : PS2 := fun hs ds p => ds = [] ∧ HandOK hs ∧ ∀ hs', HandOK hs' → p (.bool true) hs'
def N__law_is_count_right : List Str := ["hand", "n", "new", "one", "other", "top", "left", "right", "at"]
def t__law_is_count_right (K : Fg) : TS := (tSeq (tAsg (tOp rAddI (tC (.int 2)) (tCall (spH K S__law_draw) [] E0 (tCons (tVar 0) (tCons (tC (.int 1999)) tNil)))) (gName 1))
      (tSeq (tAsg (tCB (rLen K) (tCons (tLc (iRng2 (tCons (tC (.int 1)) (tCons (tOp rAddI (tVar 1) (tC (.int 1))) tNil))) (gName 3) (tTest (tOp (rEqD K) (tCall (spP K S__law_gcd) [] E0 (tCons (tVar 3) (tCons (tVar 1) tNil))) (tC (.int 1)))) (tC (.int 1)) [3]) tNil)) (gName 2))
      (tSeq (tIfS (tOr (tTest (tOp (rNeD K) (tCall (spP K S_with_bottom) [] E0 (tCons (tVar 1) tNil)) (tVar 2))) (tTest (tOp (rNeD K) (tOp rSubI (tCall (spP K S_row_count) [] E0 (tCons (tVar 1) tNil)) (tCall (spP K S_row_count) [] E0 (tCons (tOp rSubI (tVar 1) (tC (.int 1))) tNil))) (tVar 2)))) (tRet (tC (.bl false))) tNext)
      (tSeq (tAsg (tOp rAddI (tC (.int 1)) (tCall (spH K S__law_draw) [] E0 (tCons (tVar 0) (tCons (tVar 1) tNil)))) (gName 3))
      (tSeq (tAsg (tCall (spH K S__law_any) [] E0 (tCons (tVar 0) (tCons (tLc (iRng2 (tCons (tOp rSubI (tOp rAddI (tVar 1) (tC (.int 1))) (tVar 3)) (tCons (tOp rAddI (tVar 1) (tC (.int 1))) tNil))) (gName 8) (tTest (tOp (rEqD K) (tCall (spP K S__law_gcd) [] E0 (tCons (tVar 3) (tCons (tVar 8) tNil))) (tC (.int 1)))) (tVar 8) [8]) tNil))) (gName 4))
      (tSeq (tAsg (tOp (rIx K) (tLc (iRng1 (tCons (tVar 3) tNil)) (gName 8) (tOr (tTest (tOp (rEqD K) (tOp rModI (tCB rInt1 (tCons (tOp rMulI (tVar 8) (tVar 4)) tNil)) (tVar 3)) (tOp rSubI (tVar 3) (tC (.int 1))))) (tTest (tOp (rEqD K) (tVar 3) (tC (.int 1))))) (tVar 8) [8]) (tC (.int 0))) (gName 5))
      (tSeq (tAsg (tTup (tCons (tVar 5) (tCons (tVar 3) tNil))) (gName 6))
      (tSeq (tAsg (tTup (tCons (tOp rDivI (tOp rAddI (tOp rMulI (tVar 5) (tVar 4)) (tC (.int 1))) (tVar 3)) (tCons (tVar 4) tNil))) (gName 7))
      (tRet (tAndT K (tOp (rEqD K) (tCall (spP K S_next_in) [] E0 (tCons (tVar 1) (tCons (tVar 6) tNil))) (tVar 7)) (tOp (rEqD K) (tCall (spP K S_before_in) [] E0 (tCons (tVar 1) (tCons (tVar 7) tNil))) (tVar 6))))))))))))
theorem body__law_is_count_right : BodyH K S__law_is_count_right N__law_is_count_right (t__law_is_count_right K) := by
  rintro ha hs ds p ⟨rfl, hh, q⟩ C
  show WS K C _ [.ow (.lst (some ha) hs), .un, .un, .un, .un, .un, .un, .un, .un] _ _ _ _
  unfold t__law_is_count_right
  walk_at "w"
  refine we_callH ?_ ⟨_, rfl⟩
  walk_at "w"
  refine s_draw hh (by omega) (n := 20) (bd_lit (by decide)) (by decide) fun d0 hs1 e1 e2 hh1 => ?_
  walk_at "w"
  obtain ⟨n, hn⟩ : ∃ n : Nat, 2 + d0 = ((n + 1 : Nat) : Int) := ⟨(1 + d0).toNat, by omega⟩
  rw [hn]
  have hn1 : 1 ≤ n := by omega
  have hn2 : n + 1 ≤ 2000 := by omega
  refine we_new (wn_lc (wi_r2 ?_))
  walk_at "w"
  rw [show (((n + 1 : Nat) : Int) + 1 - 1).toNat = n + 1 by omega]
  refine ⟨fun j acc δ => acc.length = cnt (fun i => decide (Nat.gcd (i + 1) (n + 1) = 1)) j ∧ δ = [.ow (.lst (some ha) hs1), .im (.int ((n + 1 : Nat) : Int)), .un, .un, .un, .un, .un, .un, .un], ⟨rfl, rfl⟩, fun j e acc δ he hal ⟨hacc, hδ⟩ => ?_, fun acc δ ⟨hacc, hδ⟩ => ?_⟩
  · subst hδ
    obtain ⟨hj, rfl⟩ := rangeD_at.mp he
    rw [show (1 : Int) + ((j : Nat) : Int) = ((j + 1 : Nat) : Int) by omega]
    refine wgv_name (by decide) ?_
    walk_at "w"
    refine ⟨_, _, rfl, ?_⟩
    walk_at "w"
    rw [show Int.gcd ((j + 1 : Nat) : Int) ((n + 1 : Nat) : Int) = Nat.gcd (j + 1) (n + 1) from rfl]
    refine both (fun hg => ?_) (fun hg => ?_)
    · walk_at "w"
      refine ⟨?_, rfl⟩
      rw [List.length_append, hacc]
      show _ = cnt _ j + (if decide (Nat.gcd (j + 1) (n + 1) = 1) = true then 1 else 0)
      rw [if_pos (by rw [decide_eq_true_eq]; omega)]
      rfl
    · walk_at "w"
      refine ⟨?_, rfl⟩
      rw [hacc]
      show _ = cnt _ j + (if decide (Nat.gcd (j + 1) (n + 1) = 1) = true then 1 else 0)
      rw [if_neg (by rw [decide_eq_true_eq]; omega)]
      rfl
  subst hδ
  rw [rangeD_len] at hacc
  rw [phi_up (by omega)] at hacc
  walk_at "w"
  rw [hacc]
  refine ⟨n + 1, rfl, by omega, by omega, ?_⟩
  walk_at "w"
  refine ⟨n + 1, rfl, by omega, by omega, ?_⟩
  walk_at "w"
  refine ⟨n, by rw [show (((n + 1 : Nat) : Int) - 1) = (n : Nat) by omega], by omega, by omega, ?_⟩
  have es : (1 + ((sumphi (n + 1) : Nat) : Int)) - (1 + ((sumphi n : Nat) : Int)) = ((phi (n + 1) : Nat) : Int) := by
    show (1 + ((sumphi n + phi (n + 1) : Nat) : Int)) - (1 + ((sumphi n : Nat) : Int)) = _
    omega
  walk_at "w"
  refine we_callH ?_ ⟨_, rfl⟩
  walk_at "w"
  refine s_draw hh1 (by omega) (n := 20) (bd_pos (by omega) (by omega)) (by decide) fun d1 hs2 e3 e4 hh2 => ?_
  walk_at "w"
  have ho1 : 1 ≤ 1 + d1 := by omega
  have ho2 : 1 + d1 ≤ ((n + 1 : Nat) : Int) := by omega
  generalize 1 + d1 = o at *
  have hN1 : 2 ≤ ((n + 1 : Nat) : Int) := by omega
  have hN2 : ((n + 1 : Nat) : Int) ≤ 2000 := by omega
  generalize ((n + 1 : Nat) : Int) = N at *
  refine we_callH ?_ ⟨_, rfl⟩
  refine wa_cons (we_new (wn_lc (wi_r2 ?_)))
  walk_at "w"
  obtain ⟨j0, j1, j2, j3⟩ := some_cop (o := o) (L := N + 1 - o) (by omega)
  refine ⟨fun j acc δ => (∀ d ∈ acc, ∃ t : Int, d = .int t ∧ N + 1 - o ≤ t ∧ t ≤ N ∧ Int.gcd o t = 1) ∧ ((j0 < (j : Nat)) → acc ≠ []) ∧ acc.length ≤ j ∧ δ = [.ow (.lst (some ha) hs2), .im (.int N), .im (.int ((phi (n + 1) : Nat) : Int)), .im (.int o), .un, .un, .un, .un, .un], ⟨fun d hd => absurd hd List.not_mem_nil, fun h => by omega, Nat.le_refl _, rfl⟩, fun j e acc δ he hal ⟨hg1, hg2, hg3, hδ⟩ => ?_, fun acc δ ⟨hg1, hg2, hg3, hδ⟩ => ?_⟩
  · subst hδ
    obtain ⟨hj, rfl⟩ := rangeD_at.mp he
    refine wgv_name (by decide) ?_
    walk_at "w"
    refine ⟨_, _, rfl, ?_⟩
    walk_at "w"
    refine both (fun hg => ?_) (fun hg => ?_)
    · walk_at "w"
      refine ⟨fun d hd => ?_, fun _ => by simp, by rw [List.length_append]; simp; omega, rfl⟩
      rcases List.mem_append.mp hd with z | z
      · exact hg1 d z
      · exact ⟨_, List.mem_singleton.mp z, by omega, by omega, by omega⟩
    · walk_at "w"
      refine ⟨fun hlt => hg2 ?_, by omega, rfl⟩
      apply Decidable.byContradiction
      intro hn'
      have : j0 = (j : Nat) := by omega
      rw [this] at j3
      omega
  subst hδ
  rw [rangeD_len] at hg2 hg3
  walk_at "w"
  refine s_any hh2 (hg2 (by omega)) (by omega) fun x hs3 hx hh3 => ?_
  obtain ⟨t, rfl, ht1, ht2, ht3⟩ := hg1 x hx
  walk_at "w"
  have htop : ∃ y0 : Int, 0 ≤ y0 ∧ y0 < o ∧ ((y0 * t) % o = o - 1 ∨ o = 1) := by
    by_cases e : o = 1
    · exact ⟨0, by omega, by omega, .inr e⟩
    · obtain ⟨y, y1, y2, y3⟩ := some_top (o := o) (t := t) (by omega) ht3
      exact ⟨y, y1, y2, .inl y3⟩
  obtain ⟨y0, y1, y2, y3⟩ := htop
  have zt : Bd 20 t := bd_pos (by omega) (by omega)
  have zo : Bd 20 o := bd_pos (by omega) (by omega)
  refine we_new (wn_lc (wi_r1 ?_))
  walk_at "w"
  refine ⟨fun j acc δ => (∀ d ∈ acc, ∃ y : Int, d = .int y ∧ 0 ≤ y ∧ y < o ∧ ((y * t) % o = o - 1 ∨ o = 1)) ∧ ((y0 < (j : Nat)) → acc ≠ []) ∧ acc.length ≤ j ∧ δ = [.ow (.lst (some ha) hs3), .im (.int N), .im (.int ((phi (n + 1) : Nat) : Int)), .im (.int o), .im (.int t), .un, .un, .un, .un], ⟨fun d hd => absurd hd List.not_mem_nil, fun h => by omega, Nat.le_refl _, rfl⟩, fun j e acc δ he hal ⟨hg1, hg2, hg3, hδ⟩ => ?_, fun acc δ ⟨hg1, hg2, hg3, hδ⟩ => ?_⟩
  · subst hδ
    obtain ⟨hj, rfl⟩ := rangeD_at.mp he
    rw [Int.zero_add]
    have zj : Bd 20 ((j : Nat) : Int) := bd_pos (by omega) (by omega)
    have step : ∀ δ', δ' = [SV.ow (.lst (some ha) hs3), .im (.int N), .im (.int ((phi (n + 1) : Nat) : Int)), .im (.int o), .im (.int t), .un, .un, .un, .un] → ((((j : Nat) : Int) * t) % o = o - 1 ∨ o = 1) → (∀ d ∈ acc ++ [PyData.int (j : Nat)], ∃ y : Int, d = .int y ∧ 0 ≤ y ∧ y < o ∧ ((y * t) % o = o - 1 ∨ o = 1)) ∧ ((y0 < ((j + 1 : Nat) : Int)) → acc ++ [PyData.int (j : Nat)] ≠ []) ∧ (acc ++ [PyData.int (j : Nat)]).length ≤ j + 1 ∧ δ' = [.ow (.lst (some ha) hs3), .im (.int N), .im (.int ((phi (n + 1) : Nat) : Int)), .im (.int o), .im (.int t), .un, .un, .un, .un] := fun δ' e hc => by
      refine ⟨fun d hd => ?_, fun _ => by simp, by rw [List.length_append]; simp; omega, e⟩
      rcases List.mem_append.mp hd with z | z
      · exact hg1 d z
      · exact ⟨_, List.mem_singleton.mp z, by omega, by omega, hc⟩
    refine wgv_name (by decide) ?_
    walk_at "w"
    refine both (fun hc => ?_) (fun hc => ?_)
    · refine isT (we_var rfl ⟨by omega, step _ rfl (.inl hc)⟩)
    · walk_at "w"
      refine both (fun hc2 => ?_) (fun hc2 => ?_)
      · exact we_var rfl ⟨by omega, step _ rfl (.inr hc2)⟩
      · refine ⟨hg1, fun hlt => hg2 ?_, by omega, rfl⟩
        apply Decidable.byContradiction
        intro hn'
        have : y0 = (j : Nat) := by omega
        rw [this] at y3
        rcases y3 with y3 | y3
        · exact hc y3
        · exact hc2 y3
  subst hδ
  rw [rangeD_len] at hg2 hg3
  have hne := hg2 (by omega)
  obtain ⟨d, r, rfl⟩ : ∃ d r, acc = d :: r := by
    cases acc with
    | nil => exact absurd rfl hne
    | cons d r => exact ⟨d, r, rfl⟩
  obtain ⟨y, rfl, v1, v2, v3⟩ := hg1 d List.mem_cons_self
  have zy : Bd 20 y := bd_pos (by omega) (by omega)
  have hdet : (y * t + 1) / o * o - y * t = 1 := by
    by_cases e : o = 1
    · subst e
      have : y = 0 := by omega
      subst this
      simp
    · exact det_of (by omega) (v3.resolve_right e)
  walk_at "w"
  refine wr_ixL0 ?_
  walk_at "w"
  have c1 : 1 ≤ (y * t + 1) / o := by
    apply Decidable.byContradiction
    intro hn'
    have p1 := Int.mul_le_mul_of_nonneg_right (show (y * t + 1) / o ≤ 0 by omega) (show 0 ≤ o by omega)
    have p2 := Int.mul_nonneg v1 (show 0 ≤ t by omega)
    omega
  have c2 : (y * t + 1) / o ≤ t := by
    apply Decidable.byContradiction
    intro hn'
    have p1 := Int.mul_le_mul_of_nonneg_right (show t + 1 ≤ (y * t + 1) / o by omega) (show 0 ≤ o by omega)
    have p2 := Int.mul_le_mul_of_nonneg_right (show y ≤ o - 1 by omega) (show 0 ≤ t by omega)
    rw [Int.add_mul, Int.mul_comm t o] at p1
    rw [Int.sub_mul] at p2
    omega
  generalize (y * t + 1) / o = c at *
  refine ⟨N, y, o, rfl, by omega, by omega, by omega, by omega, by omega, by omega, cop_det hdet, fun g1 g2 => by omega, fun _ x1 x2 hx => ?_⟩
  obtain ⟨rfl, rfl⟩ := nx_one (by omega) (show NX N y o c t from ⟨hdet, by omega, by omega⟩) hx
  walk_at "w"
  refine ⟨N, x1, x2, rfl, by omega, by omega, by omega, c2, by omega, by omega, cop_det' hdet, fun z => by omega, fun _ a b g1 g2 g3 => ?_⟩
  obtain ⟨rfl, rfl⟩ := bf_one (by omega) hdet (by omega) (by omega) g1 g2 g3
  walk_at "w"
  rw [decide_eq_true ⟨rfl, rfl⟩]
  exact q _ hh3
end
end Wk
set_option Elab.async false
set_option linter.all false
set_option maxRecDepth 100000
set_option maxHeartbeats 4000000
/-! The law k03: rows. -/
namespace Wk
open PySem L2
open RZ (ItzT iZipA pi_zipA)
local macro_rules | `(tactic| walk_at "call") => `(tactic| fail)
local macro_rules | `(tactic| walk_at "e1") => `(tactic| first
  | (with_reducible apply ws_seq) | ((with_reducible apply we_var); rfl) | (with_reducible apply we_int) | ((with_reducible apply we_ixO); rfl) | (with_reducible apply we_op)
  | (with_reducible apply wr_add) | (with_reducible apply wr_sub) | (with_reducible apply wr_lt) | (with_reducible apply wr_le) | (with_reducible apply wr_gt) | (with_reducible apply wr_ge) | (with_reducible apply wr_eqI) | (with_reducible apply wr_neI) | (with_reducible apply wr_eqR) | (with_reducible apply wr_neR) | (with_reducible apply wr_isNi) | (with_reducible apply wr_isNt) | (with_reducible apply wr_isNs) | (with_reducible apply wr_isNn) | (with_reducible apply wr_notNi) | (with_reducible apply wr_notNt) | (with_reducible apply wr_notNs) | (with_reducible apply wr_notNn) | (with_reducible apply wr_isN) | (with_reducible apply wr_notN)
  | (with_reducible apply wr_ixT0) | ((with_reducible apply wr_ixT); rfl) | ((with_reducible apply wr_ixL); rfl)
  | (with_reducible apply wa_cons) | (with_reducible apply wa_nil) | (with_reducible apply we_tup)
  | (with_reducible apply wt_test) | (with_reducible apply wt_tr) | (with_reducible apply tr_bool) | (with_reducible apply sp_bool) | (with_reducible apply isT) | (with_reducible apply isF) | (with_reducible apply isNT) | (with_reducible apply isNF)
  | (with_reducible apply ws_newd) | (with_reducible apply ws_newl) | (with_reducible apply ws_dput) | (with_reducible apply ws_setL) | (with_reducible apply ws_asg) | (with_reducible apply wg_name) | (with_reducible apply ws_par) | (with_reducible apply ws_par3) | (with_reducible apply ws_ret) | (with_reducible apply ws_retN) | (with_reducible apply ws_if) | (with_reducible apply ws_next)
  | (with_reducible apply wt_and) | (with_reducible apply wt_or) | (with_reducible apply wt_not) | (with_reducible apply we_andT) | (with_reducible apply we_orT) | (with_reducible apply we_notT) | (with_reducible apply we_if) | (with_reducible apply we_chain)
  | (with_reducible apply we_bl) | (with_reducible apply we_non) | (with_reducible apply we_str)
  | (with_reducible apply we_isi_int) | (with_reducible apply we_isi_bool) | (with_reducible apply we_isi_tuple) | (with_reducible apply we_isi_str) | (with_reducible apply we_call) | ((with_reducible apply we_tupleO); rfl) | ((with_reducible apply we_lenO); rfl) | (with_reducible apply we_cb)
  | (with_reducible apply wc_abs) | (with_reducible apply wc_int) | (with_reducible apply wc_min2) | (with_reducible apply wc_max2) | ((with_reducible apply wc_len); rfl; trivial)
  | ((with_reducible apply wg_tup); rfl) | (with_reducible apply wgs_cons) | (with_reducible apply wgs_nil)
  | (with_reducible apply wo_none) | (with_reducible apply wo_some) | (with_reducible apply we_neg) | ((with_reducible refine' ws_app ?h ?hi); (case hi => exact ⟨_, _, rfl⟩)) | (with_reducible apply ws_drop))
local macro_rules | `(tactic| walk_at "e2") => `(tactic| first
  | ((with_reducible refine' And.intro ?h ?r); (case h => first | exact Nat.le_of_ble_eq_true rfl | omega))
  | ((with_reducible refine' ⟨?a, ?j, ?d, ?e1, ?e2, ?r⟩); (case a => rfl); (case e1 => rfl); (case e2 => first | rfl | with_reducible assumption))
  | ((with_reducible refine' ⟨⟨?o, ?e⟩, ?r⟩); (case e => rfl))
  | ((with_reducible refine' ⟨?p, ?d, ?j, ?m, ?e1, ?e2, ?e3, ?r⟩); (case e1 => rfl); (case e2 => rfl); (case e3 => rfl))
  | ((with_reducible refine' ⟨?w, ?e, ?r⟩); (case e => rfl))
  | ((with_reducible refine' ⟨?w, ?w2, ?e, ?r⟩); (case e => rfl))
  | ((with_reducible refine' ⟨?w, ?w2, ?w3, ?e, ?r⟩); (case e => rfl)))
local macro_rules | `(tactic| walk_at "bd") => `(tactic| first | with_reducible assumption | (with_reducible apply bd_add <;> walk_at "bd") | (with_reducible apply bd_sub <;> walk_at "bd") | (with_reducible apply bd_mul <;> walk_at "bd") | ((with_reducible apply bd_div); walk_at "bd") | ((with_reducible apply bd_mod) <;> first | omega | walk_at "bd") | (with_reducible apply bd_min <;> walk_at "bd") | (with_reducible apply bd_max <;> walk_at "bd") | ((with_reducible apply bd_abs); walk_at "bd") | ((with_reducible apply bd_neg); walk_at "bd") | exact bd_lit (n := 140) (by decide) | exact bd_pos (n := 140) (by omega) (by omega))
local macro_rules | `(tactic| walk_at "n1") => `(tactic| first
  | ((with_reducible apply wr_mulB); (focus (walk_at "bd")); (focus (walk_at "bd")); (focus decide))
  | ((with_reducible apply wr_divB); (focus omega); (focus (walk_at "bd")); (focus decide))
  | ((with_reducible apply wr_mul); (focus (first | exact mulokR (by decide) | exact mulokL (by decide))))
  | ((with_reducible apply wr_mod); (focus omega)) | ((with_reducible apply wr_pow); (focus (exact ⟨by decide, by decide, by decide⟩))))
local macro_rules | `(tactic| walk_at "d1") => `(tactic| first | ((with_reducible apply isDT); (focus (first | with_reducible assumption | omega))) | ((with_reducible apply isDF); (focus omega)) | ((with_reducible apply isNDT); (focus omega)) | ((with_reducible apply isNDF); (focus (first | with_reducible assumption | omega))))
local macro_rules | `(tactic| walk_at "w") => `(tactic| repeat first | walk_at "e1" | walk_at "n1" | walk_at "d1" | walk_at "call" | walk_at "e2")
local macro_rules | `(tactic| walk_at "call") => `(tactic| first | with_reducible apply s_is_integer_i | with_reducible apply s_common)
local macro_rules | `(tactic| walk_at "f") => `(tactic| repeat first | (with_reducible apply ws_asgF) | ((with_reducible apply we_varF); rfl) | ((with_reducible apply wr_ixT); (focus (with_reducible assumption))) | walk_at "e1" | walk_at "n1" | walk_at "d1" | walk_at "call" | walk_at "e2")
theorem lay_rd : ∀ l : List (Nat × Nat), PyData.canLayAll0 (l.map rd) = true ∧ PyData.depthAll (l.map rd) ≤ 10
  | [] => by simp [PyData.canLayAll0, PyData.depthAll]
  | p :: l => by
    obtain ⟨h1, h2⟩ := lay_rd l
    constructor
    · simp only [List.map_cons, PyData.canLayAll0, h1]
      simp [rd, PyData.canLay0, PyData.canLayAll0]
    · simp only [List.map_cons, PyData.depthAll, rd, PyData.depth]
      omega
theorem sh_rdT (l : List (Nat × Nat)) : SeqAt.shaped (.tuple (l.map rd)) = true := by
  obtain ⟨h1, h2⟩ := lay_rd l
  unfold SeqAt.shaped
  rw [Bool.and_eq_true]
  refine ⟨by simp only [PyData.canLay0, h1], decide_eq_true ?_⟩
  simp only [PyData.depth]
  omega
theorem sh_rdL (l : List (Nat × Nat)) : SeqAt.shaped (.list (l.map rd)) = true := by
  obtain ⟨h1, h2⟩ := lay_rd l
  unfold SeqAt.shaped
  rw [Bool.and_eq_true]
  refine ⟨by simp only [PyData.canLay0, h1], decide_eq_true ?_⟩
  simp only [PyData.depth]
  omega
def f4 : PyData → PyData
  | .tuple [.tuple [_, x], .tuple [_, y]] => .tuple [x, y]
  | d => d
theorem sh_same : SeqAt.shaped (.str "same") = true := by decide +kernel
theorem sh_touch : SeqAt.shaped (.str "touch") = true := by decide +kernel
theorem sh_apart : SeqAt.shaped (.str "apart") = true := by decide +kernel
theorem sh_told {p q : Prop} [Decidable p] [Decidable q] : SeqAt.shaped (.str (if p then ("same" : Str) else if q then ("touch" : Str) else ("apart" : Str))) = true := by
  by_cases h : p
  · rw [if_pos h]; exact sh_same
  · rw [if_neg h]
    by_cases h2 : q
    · rw [if_pos h2]; exact sh_touch
    · rw [if_neg h2]; exact sh_apart
structure InRow (n : Nat) (x : Nat × Nat) : Prop where
  g : Int.gcd (x.1 : Nat) (x.2 : Nat) = 1
  b1 : 1 ≤ x.2
  bn : x.2 ≤ n
  ab : x.1 ≤ x.2
theorem rw_in {n : Nat} {l : List (Nat × Nat)} (R : Rw n l) (hn : 1 ≤ n) {i : Nat} {x : Nat × Nat} (h : l[i]? = some x) : InRow n x := by
  have hl : i < l.length := (List.getElem?_eq_some_iff.mp h).1
  by_cases e : i = l.length - 1
  · have := R.la
    rw [← e, h] at this
    cases this
    exact ⟨rfl, by decide, hn, by decide⟩
  · obtain ⟨y, hy⟩ : ∃ y, l[i + 1]? = some y := ⟨_, List.getElem?_eq_getElem (by omega)⟩
    have hx := rw_fr R h hy
    obtain ⟨_, _, _, f4, f5, _, f7⟩ := R.ad h hy
    exact ⟨cop_det hx.det, f5, f4, by omega⟩
theorem cross0 {a b c d : Int} (hb : 0 < b) (hd : 0 < d) (h1 : Int.gcd a b = 1) (h2 : Int.gcd c d = 1) (h : a * d - c * b = 0) : a = c ∧ b = d := by
  have d1 : b ∣ d := dvd_cop h1 ⟨c, by rw [Int.mul_comm b c]; omega⟩
  have d2 : d ∣ b := dvd_cop h2 ⟨a, by rw [Int.mul_comm d a]; omega⟩
  have e := Int.le_of_dvd hd d1
  have e2 := Int.le_of_dvd hb d2
  have e3 : b = d := by omega
  subst e3
  refine ⟨?_, rfl⟩
  have : (a - c) * b = 0 := by rw [Int.sub_mul]; omega
  rcases Int.mul_eq_zero.mp this with q | q <;> omega
theorem told_circles {a b c d : Int} (hb : 0 < b) (hd : 0 < d) (h1 : Int.gcd a b = 1) (h2 : Int.gcd c d = 1) : (if a = c ∧ b = d then ("same" : Str) else if (a * d - c * b).natAbs = 1 then "touch" else "apart") = (if (((a * d - c * b).natAbs : Nat) : Int) = 0 then ("same" : Str) else if (((a * d - c * b).natAbs : Nat) : Int) = 1 then ("touch" : Str) else ("apart" : Str)) := by
  by_cases e : a = c ∧ b = d
  · obtain ⟨rfl, rfl⟩ := e
    rw [if_pos ⟨rfl, rfl⟩, if_pos (by rw [Int.sub_self]; rfl)]
  · have : ¬ (((a * d - c * b).natAbs : Nat) : Int) = 0 := fun z => e (cross0 hb hd h1 h2 (by omega))
    rw [if_neg e, if_neg this]
    by_cases z : (a * d - c * b).natAbs = 1
    · rw [if_pos z, if_pos (by omega)]
    · rw [if_neg z, if_neg (by omega)]
section
variable {K : Fg}
def S__law_is_row_right : PS2 := fun hs ds p => ds = [] ∧ HandOK hs ∧ ∀ hs', HandOK hs' → p (.bool true) hs'
def N__law_is_row_right : List Str := ["hand", "n", "row", "pairs", "turn", "at", "one", "other", "far", "cross_v", "corners", "figure"]
def t__law_is_row_right (K : Fg) : TS := (tSeq (tAsg (tCall (spH K S__law_any) [] E0 (tCons (tVar 0) (tCons (tLst (tCons (tOp rAddI (tC (.int 1)) (tCall (spH K S__law_draw) [] E0 (tCons (tVar 0) (tCons (tC (.int 60)) tNil)))) (tCons (tOp rAddI (tC (.int 1)) (tCall (spH K S__law_draw) [] E0 (tCons (tVar 0) (tCons (tC (.int 12)) tNil)))) (tCons (tC (.int 60)) tNil)))) tNil))) (gName 1))
      (tSeq (tPar 2 3 (tCons (tCall (spP K S_row_of) [] E0 (tCons (tVar 1) tNil)) (tCons (tCall (spP K S__law_pairs) [] E0 (tCons (tVar 1) tNil)) tNil)))
      (tSeq (tIfS (tOr (tTest (tOp (rNeD K) (tCB (rSortX K) (tCons (tLc (iZipA K (tCons (tVar 2) (tCons (tSl (rSlA K) (tVar 2) (tPart (tC (.int 1))) tNoPart) tNil))) (gTup K 2 (gCons (gName 6) (gCons (gName 7) gNil))) tYes (tTup (tCons (tOp (rIx K) (tVar 6) (tC (.int 1))) (tCons (tOp (rIx K) (tVar 7) (tC (.int 1))) tNil))) [6, 7]) tNil)) (tVar 3))) (tTest (tOp (rNeD K) (tCall (spP K S_row_count) [] E0 (tCons (tVar 1) tNil)) (tOp rAddI (tCB (rLen K) (tCons (tVar 3) tNil)) (tC (.int 1)))))) (tRet (tC (.bl false))) tNext)
      (tSeq (tIfS (tTest (tOp (rNeD K) (tOp rSubI (tCall (spP K S_row_count) [] E0 (tCons (tOp rAddI (tVar 1) (tC (.int 1))) tNil)) (tCall (spP K S_row_count) [] E0 (tCons (tVar 1) tNil))) (tCB (rLen K) (tCons (tLc (iAny K (tVar 3)) (gTup K 2 (gCons (gName 6) (gCons (gName 7) gNil))) (tTest (tOp (rEqD K) (tOp rAddI (tVar 6) (tVar 7)) (tOp rAddI (tVar 1) (tC (.int 1))))) (tC (.int 1)) [6, 7]) tNil)))) (tRet (tC (.bl false))) tNext)
      (tSeq (tFor (iRng1 (tCons (tC (.int 6)) tNil)) (gName 4) (tSeq (tAsg (tCall (spH K S__law_draw) [] E0 (tCons (tVar 0) (tCons (tOp rSubI (tCB (rLen K) (tCons (tVar 2) tNil)) (tC (.int 1))) tNil))) (gName 5))
      (tSeq (tPar 6 7 (tCons (tOp (rIx K) (tVar 2) (tVar 5)) (tCons (tOp (rIx K) (tVar 2) (tOp rAddI (tVar 5) (tC (.int 1)))) tNil)))
      (tSeq (tIfS (tOr (tTest (tOp (rNeD K) (tCall (spP K S_next_in) [] E0 (tCons (tVar 1) (tCons (tVar 6) tNil))) (tVar 7))) (tOr (tTest (tOp (rNeD K) (tCall (spP K S_before_in) [] E0 (tCons (tVar 1) (tCons (tVar 7) tNil))) (tVar 6))) (tTest (tOp (rNeD K) (tCall (spP K S_circles) [] E0 (tCons (tVar 6) (tCons (tVar 7) tNil))) (tC (.str (Str.ofString "touch"))))))) (tRet (tC (.bl false))) tNext)
      (tSeq (tAsg (tOp (rIx K) (tVar 2) (tCall (spH K S__law_draw) [] E0 (tCons (tVar 0) (tCons (tCB (rLen K) (tCons (tVar 2) tNil)) tNil)))) (gName 8))
      (tSeq (tAsg (tCB rAbs (tCons (tOp rSubI (tOp rMulI (tOp (rIx K) (tVar 6) (tC (.int 0))) (tOp (rIx K) (tVar 8) (tC (.int 1)))) (tOp rMulI (tOp (rIx K) (tVar 8) (tC (.int 0))) (tOp (rIx K) (tVar 6) (tC (.int 1))))) tNil)) (gName 9))
      (tSeq (tIfS (tTest (tOp (rNeD K) (tCall (spP K S_circles) [] E0 (tCons (tVar 6) (tCons (tVar 8) tNil))) (tDGet2 (tDisp [((tC (.int 0)), (tC (.str (Str.ofString "same")))), ((tC (.int 1)), (tC (.str (Str.ofString "touch"))))]) (tVar 9) (tC (.str (Str.ofString "apart")))))) (tRet (tC (.bl false))) tNext)
      (tSeq (tAsg (tTup (tCons (tTup (tCons (tC (.int 0)) (tCons (tC (.int 0)) tNil))) (tCons (tTup (tCons (tOp (rIx K) (tVar 7) (tC (.int 1))) (tCons (tOp (rIx K) (tVar 7) (tC (.int 0))) tNil))) (tCons (tTup (tCons (tOp (rIx K) (tVar 6) (tC (.int 1))) (tCons (tOp (rIx K) (tVar 6) (tC (.int 0))) tNil))) tNil)))) (gName 10))
      (tSeq (tAsg (tTupF (tCons (tOp (rIx K) (tVar 10) (tC (.int 0))) (tCons (tOp (rIx K) (tVar 10) (tC (.int 2))) (tCons (tOp (rIx K) (tVar 10) (tC (.int 1))) tNil)))) (gName 11))
      (tIfS (tOr (tTest (tOp (rNeD K) (tCall (spF K S_double_area) [] E0 (tCons (tVar 11) tNil)) (tC (.int 1)))) (tOr (tTest (tOp (rNeD K) (tCall (spF K S_inside) [] E0 (tCons (tVar 11) tNil)) (tC (.int 0)))) (tTest (tOp (rNeD K) (tCall (spF K S_on_sides) [] E0 (tCons (tVar 11) tNil)) (tC (.int 3)))))) (tRet (tC (.bl false))) tNext))))))))))
      (tRet (tAndT K (tOp rIsN (tCall (spP K S_next_in) [] E0 (tCons (tVar 1) (tCons (tOp (rIx K) (tVar 2) (tUn rNegI (tC (.int 1)))) tNil))) (tC .non)) (tOp rIsN (tCall (spP K S_before_in) [] E0 (tCons (tVar 1) (tCons (tOp (rIx K) (tVar 2) (tC (.int 0))) tNil))) (tC .non)))))))))
theorem body__law_is_row_right : BodyH K S__law_is_row_right N__law_is_row_right (t__law_is_row_right K) := by
  rintro ha hs ds p ⟨rfl, hh, q⟩ C
  show WS K C _ [.ow (.lst (some ha) hs), .un, .un, .un, .un, .un, .un, .un, .un, .un, .un, .un] _ _ _ _
  unfold t__law_is_row_right
  refine ws_cut (fun δ => ∃ (h1 : List PyData) (n : Nat), δ = [.ow (.lst (some ha) h1), .im (.int (n : Nat)), .un, .un, .un, .un, .un, .un, .un, .un, .un, .un] ∧ HandOK h1 ∧ 1 ≤ n ∧ n ≤ 60) ?_ ?_
  · refine ws_asg (we_callH ?_ ⟨_, rfl⟩)
    refine wa_cons (we_new (wn_lst ?_))
    walk_at "f"
    refine we_callH ?_ ⟨_, rfl⟩
    walk_at "f"
    refine s_draw hh (by decide) (n := 20) (bd_lit (by decide)) (by decide) fun d1 hs1 a1 a2 hh1 => ?_
    walk_at "f"
    refine we_callH ?_ ⟨_, rfl⟩
    walk_at "f"
    refine s_draw hh1 (by decide) (n := 20) (bd_lit (by decide)) (by decide) fun d2 hs2 a3 a4 hh2 => ?_
    walk_at "f"
    refine s_any hh2 (by simp) (by simp) fun e hs3 he hh3 => ?_
    have hv : ∃ v : Nat, e = .int (v : Nat) ∧ 1 ≤ v ∧ v ≤ 60 := by
      simp only [List.mem_cons, List.not_mem_nil, or_false] at he
      rcases he with rfl | rfl | rfl
      · exact ⟨(1 + d1).toNat, by rw [Int.toNat_of_nonneg (by omega)], by omega, by omega⟩
      · exact ⟨(1 + d2).toNat, by rw [Int.toNat_of_nonneg (by omega)], by omega, by omega⟩
      · exact ⟨60, rfl, by decide, by decide⟩
    obtain ⟨v, rfl, v1, v2⟩ := hv
    walk_at "f"
    exact v2
  rintro δ ⟨h1, n, rfl, hh1, hn1, hn2⟩
  have R := row_rw hn1 hn2
  have hrow : ∃ l, l = row n := ⟨_, rfl⟩
  obtain ⟨l, hl⟩ := hrow
  rw [← hl] at R
  refine ws_cut (fun δ => δ = [.ow (.lst (some ha) h1), .im (.int (n : Nat)), .im (.tuple (l.map rd)), .im (.list ((prs n).map rd)), .un, .un, .un, .un, .un, .un, .un, .un]) ?_ ?_
  · walk_at "f"
    refine ⟨n, rfl, hn1, hn2, ?_⟩
    rw [← hl]
    walk_at "f"
    refine ⟨n, rfl, hn1, hn2, ?_⟩
    walk_at "f"
    rfl
  rintro δ rfl
  have two := R.two
  have le := R.le
  refine ws_cut (fun δ => δ = [.ow (.lst (some ha) h1), .im (.int (n : Nat)), .im (.tuple (l.map rd)), .im (.list ((prs n).map rd)), .un, .un, .un, .un, .un, .un, .un, .un]) ?_ ?_
  · refine ws_if (wt_or (wt_test (we_op (we_new (wn_sortX (wa_cons (we_map (wi_zip ?_))))))))
    refine wa_cons (we_var rfl (wa_cons (we_slT ?_)))
    walk_at "f"
    have e0 : HT.sIx (l.map rd).length 0 (some 1) = 1 := by simp [HT.sIx]; omega
    refine ⟨fun z => by have := z.1; rw [e0] at this; omega, ?_⟩
    have ecut : cutD (l.map rd) (some 1) none = l.tail.map rd := by
      have e1 : HT.sIx (l.map rd).length 0 (some 1) = 1 := by simp [HT.sIx]; omega
      have e2 : HT.sIx (l.map rd).length (l.map rd).length none = l.length := by simp [HT.sIx]
      unfold cutD
      rw [e1, e2, ← List.map_drop, List.drop_one, ← List.map_take]
      congr 1
      exact List.take_of_length_le (by rw [List.length_tail]; exact Nat.le_refl _)
    rw [ecut]
    have ezip : (((l.map rd).zip (l.tail.map rd)).map fun p => PyData.tuple [p.1, p.2]) = (l.zip l.tail).map fun p => .tuple [rd p.1, rd p.2] := by
      rw [List.zip_map, List.map_map]
      rfl
    refine wa_nil ⟨_, _, .inr rfl, ?_⟩
    rw [ezip]
    refine ⟨f4, fun e he => ?_, by rw [List.length_map, List.length_zip]; omega, ?_⟩
    · obtain ⟨pr, _, rfl⟩ := List.mem_map.mp he
      refine wgv_tup rfl (wgvs_cons (wgv_name (by decide) (wgvs_cons (wgv_name (by decide) (wgvs_nil ?_)))))
      unfold rd
      walk_at "f"
      exact ⟨rfl, rfl⟩
    refine wa_nil ⟨(bots l).map toI, ?_, fun qs hq hs => ⟨_, _, rfl, ?_⟩⟩
    · rw [List.map_map, List.map_map]
      unfold bots
      rw [List.map_map]
      rfl
    rw [sorted_pairs R hq hs]
    refine we_var rfl (wr_neY ?_ ?_ ?_)
    · rw [List.map_map]; rfl
    · rw [List.map_map]; exact sh_rdL _
    walk_at "f"
    refine ⟨n, rfl, by omega, by omega, ?_⟩
    walk_at "f"
    refine bothN (fun e => absurd ?_ e) (fun _ => ?_)
    · rw [List.length_map, ← R.su]; omega
    walk_at "f"
    rfl
  rintro δ rfl
  refine ws_cut (fun δ => δ = [.ow (.lst (some ha) h1), .im (.int (n : Nat)), .im (.tuple (l.map rd)), .im (.list ((prs n).map rd)), .un, .un, .un, .un, .un, .un, .un, .un]) ?_ ?_
  · walk_at "f"
    refine ⟨n + 1, rfl, by omega, by omega, ?_⟩
    walk_at "f"
    refine ⟨n, rfl, by omega, by omega, ?_⟩
    walk_at "f"
    refine we_new (wn_lc (wi_list ?_))
    walk_at "f"
    refine ⟨fun j acc δ => acc.length = (((prs n).take j).filter fun p => decide (p.1 + p.2 = n + 1)).length ∧ δ = [.ow (.lst (some ha) h1), .im (.int (n : Nat)), .im (.tuple (l.map rd)), .im (.list ((prs n).map rd)), .un, .un, .un, .un, .un, .un, .un, .un], ⟨by simp, rfl⟩, fun j e acc δ he hal ⟨hacc, hδ⟩ => ?_, fun acc δ ⟨hacc, hδ⟩ => ?_⟩
    · subst hδ
      rw [List.getElem?_map] at he
      obtain ⟨pr, hpr, rfl⟩ := Option.map_eq_some_iff.mp he
      have hjl : j < (prs n).length := (List.getElem?_eq_some_iff.mp hpr).1
      have hjb : (prs n).length ≤ 60 * 61 := by rw [← prK_end]; exact Nat.le_trans (prK_len n n hn2) (Nat.mul_le_mul_right _ hn2)
      refine wgv_tup rfl (wgvs_cons (wgv_name (by decide) (wgvs_cons (wgv_name (by decide) (wgvs_nil ?_)))))
      walk_at "f"
      refine both (fun hg => ?_) (fun hg => ?_)
      · walk_at "f"
        refine ⟨?_, rfl⟩
        rw [List.take_succ, hpr, List.filter_append, List.length_append, List.length_append, hacc]
        show _ = _ + (List.filter _ [pr]).length
        rw [List.filter_cons_of_pos (by rw [decide_eq_true_eq]; omega)]
        rfl
      · walk_at "f"
        refine ⟨?_, rfl⟩
        rw [List.take_succ, hpr, List.filter_append, List.length_append, hacc]
        show _ = _ + (List.filter _ [pr]).length
        rw [List.filter_cons_of_neg (by rw [decide_eq_true_eq]; omega)]
        rfl
    · subst hδ
      rw [List.length_map, List.take_length, ← R.nx] at hacc
      walk_at "f"
      refine bothN (fun e => absurd ?_ e) (fun _ => ?_)
      · rw [hacc]
        show (1 + ((sumphi n + phi (n + 1) : Nat) : Int)) - (1 + ((sumphi n : Nat) : Int)) = _
        omega
      walk_at "f"
      rfl
  rintro δ rfl
  have atR : ∀ {i : Nat} {x : Nat × Nat}, l[i]? = some x → atI (l.map rd) ((i : Nat) : Int) = some (.tuple [.int (x.1 : Nat), .int (x.2 : Nat)]) := fun {i x} h => atI_nat (by rw [List.getElem?_map, h]; rfl)
  have lastR : atI (l.map rd) (-1) = some (.tuple [.int 1, .int 1]) := at_last (by rw [List.length_map, List.getElem?_map, R.la]; rfl)
  have headR : atI (l.map rd) 0 = some (.tuple [.int 0, .int 1]) := atR R.hd
  have hlen : ((l.map rd).length : Int) = (l.length : Int) := by rw [List.length_map]
  refine ws_cut (fun δ => ∃ hs' s4 s5 s6 s7 s8 s9 s10 s11, δ = [.ow (.lst (some ha) hs'), .im (.int (n : Nat)), .im (.tuple (l.map rd)), .im (.list ((prs n).map rd)), s4, s5, s6, s7, s8, s9, s10, s11] ∧ HandOK hs') ?_ ?_
  · refine ws_for (wi_r1 ?_)
    walk_at "f"
    refine ⟨fun i δ => ∃ hs' s4 s5 s6 s7 s8 s9 s10 s11, δ = [.ow (.lst (some ha) hs'), .im (.int (n : Nat)), .im (.tuple (l.map rd)), .im (.list ((prs n).map rd)), s4, s5, s6, s7, s8, s9, s10, s11] ∧ HandOK hs', ⟨_, _, _, _, _, _, _, _, _, rfl, hh1⟩, fun i e δ he ⟨hs1, s4, s5, s6, s7, s8, s9, s10, s11, hδ, hh1⟩ => ?_, fun δ h => h⟩
    subst hδ
    refine wg_name ?_
    refine ws_seq (ws_asg (we_callH ?_ ⟨_, rfl⟩))
    walk_at "f"
    rw [hlen]
    refine s_draw hh1 (by omega) (n := 20) (bd_pos (by omega) (by omega)) (by decide) fun d hs2 b1 b2 hh2 => ?_
    obtain ⟨k, rfl⟩ : ∃ k : Nat, d = (k : Nat) := ⟨d.toNat, by omega⟩
    obtain ⟨x, hx⟩ : ∃ x, l[k]? = some x := ⟨_, List.getElem?_eq_getElem (by omega)⟩
    obtain ⟨y, hy⟩ : ∃ y, l[k + 1]? = some y := ⟨_, List.getElem?_eq_getElem (by omega)⟩
    have ax := atR hx
    have ay : atI (l.map rd) (((k : Nat) : Int) + 1) = _ := atR hy
    have hxy := rw_fr R hx hy
    have ix := rw_in R hn1 hx
    have iy := rw_in R hn1 hy
    obtain ⟨_, _, _, _, _, _, hlt⟩ := R.ad hx hy
    have xb := ix.b1; have xn := ix.bn; have xa := ix.ab; have yb := iy.b1; have yn := iy.bn; have ya := iy.ab
    have hdet := hxy.det
    have m40 := m40_big
    have ox : RatOK (x.1 : Nat) (x.2 : Nat) := ⟨by omega, by omega, by omega, ix.g⟩
    have oy : RatOK (y.1 : Nat) (y.2 : Nat) := ⟨by omega, by omega, by omega, iy.g⟩
    have bx1 : Bd 20 ((x.1 : Nat) : Int) := bd_pos (by omega) (by omega)
    have bx2 : Bd 20 ((x.2 : Nat) : Int) := bd_pos (by omega) (by omega)
    have by1 : Bd 20 ((y.1 : Nat) : Int) := bd_pos (by omega) (by omega)
    have by2 : Bd 20 ((y.2 : Nat) : Int) := bd_pos (by omega) (by omega)
    have fo : FigOK (x.1 : Nat) (x.2 : Nat) (y.1 : Nat) (y.2 : Nat) := ⟨by omega, by omega, by omega, by omega, hdet⟩
    have hne : ¬ (((x.1 : Nat) : Int) = (y.1 : Nat) ∧ ((x.2 : Nat) : Int) = (y.2 : Nat)) := fun z => by
      rw [z.1, z.2] at hdet; omega
    have hy0 : (0 : Int) < (y.1 : Nat) := by
      apply Decidable.byContradiction
      intro hn'
      have : ((y.1 : Nat) : Int) = 0 := by omega
      rw [this] at hdet
      have := Int.mul_nonneg (show (0 : Int) ≤ (x.1 : Nat) by omega) (show (0 : Int) ≤ (y.2 : Nat) by omega)
      omega
    have hlo := hxy.lo
    have hhi := hxy.hi
    walk_at "f"
    refine ⟨n, x.1, x.2, rfl, by omega, by omega, by omega, by omega, by omega, by omega, ix.g, fun g1 g2 => by omega, fun _ c d hcd => ?_⟩
    obtain ⟨rfl, rfl⟩ := nx_one (by omega) hxy hcd
    walk_at "f"
    refine ⟨n, y.1, y.2, rfl, by omega, by omega, by omega, by omega, by omega, by omega, iy.g, fun z => by omega, fun _ a b g1 g2 g3 => ?_⟩
    obtain ⟨rfl, rfl⟩ := bf_one (by omega) hdet (by omega) (by omega) g1 g2 g3
    walk_at "f"
    refine ⟨x.1, x.2, y.1, y.2, rfl, ox, oy, ⟨bx1.up (by decide), bx2.up (by decide), by1.up (by decide), by2.up (by decide)⟩, ?_⟩
    rw [if_neg hne, if_pos (by omega)]
    walk_at "f"
    refine wr_neY rfl sh_touch ?_
    walk_at "f"
    refine we_callH ?_ ⟨_, rfl⟩
    walk_at "f"
    rw [hlen]
    refine s_draw hh2 (by omega) (n := 20) (bd_pos (by omega) (by omega)) (by decide) fun d hs3 b3 b4 hh3 => ?_
    obtain ⟨j, rfl⟩ : ∃ k : Nat, d = (k : Nat) := ⟨d.toNat, by omega⟩
    obtain ⟨z, hz⟩ : ∃ x, l[j]? = some x := ⟨_, List.getElem?_eq_getElem (by omega)⟩
    have az := atR hz
    have iz := rw_in R hn1 hz
    have zb := iz.b1; have zn := iz.bn; have za := iz.ab
    have oz : RatOK (z.1 : Nat) (z.2 : Nat) := ⟨by omega, by omega, by omega, iz.g⟩
    have bz1 : Bd 20 ((z.1 : Nat) : Int) := bd_pos (by omega) (by omega)
    have bz2 : Bd 20 ((z.2 : Nat) : Int) := bd_pos (by omega) (by omega)
    walk_at "f"
    refine ⟨x.1, x.2, z.1, z.2, rfl, ox, oz, ⟨bx1.up (by decide), bx2.up (by decide), bz1.up (by decide), bz2.up (by decide)⟩, ?_⟩
    refine we_disp2 (by decide) ?_
    walk_at "f"
    refine wr_neY (congrArg PyData.str (told_circles (by omega) (by omega) ix.g iz.g)) sh_told ?_
    walk_at "f"
    refine we_callF rfl ⟨x.1, x.2, y.1, y.2, rfl, fo, ?_⟩
    walk_at "f"
    refine we_callF rfl ⟨x.1, x.2, y.1, y.2, rfl, fo, ?_⟩
    walk_at "f"
    refine we_callF rfl ⟨x.1, x.2, y.1, y.2, rfl, fo, ?_⟩
    walk_at "f"
    exact ⟨_, _, _, _, _, _, _, _, _, rfl, hh3⟩
  rintro δ ⟨hs', s4, s5, s6, s7, s8, s9, s10, s11, rfl, hh'⟩
  walk_at "f"
  refine ⟨n, 1, 1, rfl, by omega, by omega, by omega, by omega, by omega, by omega, by decide, fun _ _ => ?_, fun h => absurd h (by decide)⟩
  walk_at "f"
  refine ⟨n, 0, 1, rfl, by omega, by omega, by omega, by omega, by omega, by omega, by decide, fun _ => ?_, fun h => absurd h (by decide)⟩
  walk_at "f"
  exact q _ hh'
end
end Wk
set_option Elab.async false
set_option linter.all false
set_option maxRecDepth 100000
set_option maxHeartbeats 4000000
/-! The law k03 itself. -/
namespace Wk
open PySem L2
open RZ (ItzT iZipA pi_zipA)
local macro_rules | `(tactic| walk_at "call") => `(tactic| fail)
local macro_rules | `(tactic| walk_at "e1") => `(tactic| first
  | (with_reducible apply ws_seq) | ((with_reducible apply we_var); rfl) | (with_reducible apply we_int) | ((with_reducible apply we_ixO); rfl) | (with_reducible apply we_op)
  | (with_reducible apply wr_add) | (with_reducible apply wr_sub) | (with_reducible apply wr_lt) | (with_reducible apply wr_le) | (with_reducible apply wr_gt) | (with_reducible apply wr_ge) | (with_reducible apply wr_eqI) | (with_reducible apply wr_neI) | (with_reducible apply wr_eqR) | (with_reducible apply wr_neR) | (with_reducible apply wr_isNi) | (with_reducible apply wr_isNt) | (with_reducible apply wr_isNs) | (with_reducible apply wr_isNn) | (with_reducible apply wr_notNi) | (with_reducible apply wr_notNt) | (with_reducible apply wr_notNs) | (with_reducible apply wr_notNn) | (with_reducible apply wr_isN) | (with_reducible apply wr_notN)
  | (with_reducible apply wr_ixT0) | ((with_reducible apply wr_ixT); rfl) | ((with_reducible apply wr_ixL); rfl)
  | (with_reducible apply wa_cons) | (with_reducible apply wa_nil) | (with_reducible apply we_tup)
  | (with_reducible apply wt_test) | (with_reducible apply wt_tr) | (with_reducible apply tr_bool) | (with_reducible apply sp_bool) | (with_reducible apply isT) | (with_reducible apply isF) | (with_reducible apply isNT) | (with_reducible apply isNF)
  | (with_reducible apply ws_newd) | (with_reducible apply ws_newl) | (with_reducible apply ws_dput) | (with_reducible apply ws_setL) | (with_reducible apply ws_asg) | (with_reducible apply wg_name) | (with_reducible apply ws_par) | (with_reducible apply ws_par3) | (with_reducible apply ws_ret) | (with_reducible apply ws_retN) | (with_reducible apply ws_if) | (with_reducible apply ws_next)
  | (with_reducible apply wt_and) | (with_reducible apply wt_or) | (with_reducible apply wt_not) | (with_reducible apply we_andT) | (with_reducible apply we_orT) | (with_reducible apply we_notT) | (with_reducible apply we_if) | (with_reducible apply we_chain)
  | (with_reducible apply we_bl) | (with_reducible apply we_non) | (with_reducible apply we_str)
  | (with_reducible apply we_isi_int) | (with_reducible apply we_isi_bool) | (with_reducible apply we_isi_tuple) | (with_reducible apply we_isi_str) | (with_reducible apply we_call) | ((with_reducible apply we_tupleO); rfl) | ((with_reducible apply we_lenO); rfl) | (with_reducible apply we_cb)
  | (with_reducible apply wc_abs) | (with_reducible apply wc_int) | (with_reducible apply wc_min2) | (with_reducible apply wc_max2) | ((with_reducible apply wc_len); rfl; trivial)
  | ((with_reducible apply wg_tup); rfl) | (with_reducible apply wgs_cons) | (with_reducible apply wgs_nil)
  | (with_reducible apply wo_none) | (with_reducible apply wo_some) | (with_reducible apply we_neg) | ((with_reducible refine' ws_app ?h ?hi); (case hi => exact ⟨_, _, rfl⟩)) | (with_reducible apply ws_drop))
local macro_rules | `(tactic| walk_at "e2") => `(tactic| first
  | ((with_reducible refine' And.intro ?h ?r); (case h => first | exact Nat.le_of_ble_eq_true rfl | omega))
  | ((with_reducible refine' ⟨?a, ?j, ?d, ?e1, ?e2, ?r⟩); (case a => rfl); (case e1 => rfl); (case e2 => first | rfl | with_reducible assumption))
  | ((with_reducible refine' ⟨⟨?o, ?e⟩, ?r⟩); (case e => rfl))
  | ((with_reducible refine' ⟨?p, ?d, ?j, ?m, ?e1, ?e2, ?e3, ?r⟩); (case e1 => rfl); (case e2 => rfl); (case e3 => rfl))
  | ((with_reducible refine' ⟨?w, ?e, ?r⟩); (case e => rfl))
  | ((with_reducible refine' ⟨?w, ?w2, ?e, ?r⟩); (case e => rfl))
  | ((with_reducible refine' ⟨?w, ?w2, ?w3, ?e, ?r⟩); (case e => rfl)))
local macro_rules | `(tactic| walk_at "bd") => `(tactic| first | with_reducible assumption | (with_reducible apply bd_add <;> walk_at "bd") | (with_reducible apply bd_sub <;> walk_at "bd") | (with_reducible apply bd_mul <;> walk_at "bd") | ((with_reducible apply bd_div); walk_at "bd") | ((with_reducible apply bd_mod) <;> first | omega | walk_at "bd") | (with_reducible apply bd_min <;> walk_at "bd") | (with_reducible apply bd_max <;> walk_at "bd") | ((with_reducible apply bd_abs); walk_at "bd") | ((with_reducible apply bd_neg); walk_at "bd") | exact bd_lit (n := 140) (by decide) | exact bd_pos (n := 140) (by omega) (by omega))
local macro_rules | `(tactic| walk_at "n1") => `(tactic| first
  | ((with_reducible apply wr_mulB); (focus (walk_at "bd")); (focus (walk_at "bd")); (focus decide))
  | ((with_reducible apply wr_divB); (focus omega); (focus (walk_at "bd")); (focus decide))
  | ((with_reducible apply wr_mul); (focus (first | exact mulokR (by decide) | exact mulokL (by decide))))
  | ((with_reducible apply wr_mod); (focus omega)) | ((with_reducible apply wr_pow); (focus (exact ⟨by decide, by decide, by decide⟩))))
local macro_rules | `(tactic| walk_at "d1") => `(tactic| first | ((with_reducible apply isDT); (focus (first | with_reducible assumption | omega))) | ((with_reducible apply isDF); (focus omega)) | ((with_reducible apply isNDT); (focus omega)) | ((with_reducible apply isNDF); (focus (first | with_reducible assumption | omega))))
local macro_rules | `(tactic| walk_at "w") => `(tactic| repeat first | walk_at "e1" | walk_at "n1" | walk_at "d1" | walk_at "call" | walk_at "e2")
section
variable {K : Fg}
theorem row3 : row 3 = [(0, 1), (1, 3), (1, 2), (2, 3), (1, 1)] := by decide +kernel
theorem sumphi1 : sumphi 1 = 1 := by decide +kernel
def S_law : PS1 := fun ds p => ∃ ns : List Int, ds = [.list (ns.map .int)] ∧ ns.length ≤ 63 ∧ p (.bool true)
def N_law : List Str := ["script", "hand", "lap"]
def t_law (K : Fg) : TS := (tSeq (tAsg (tCall (spN K S__law_hand) [] E0 (tCons (tVar 0) tNil)) (gName 1))
      (tSeq (tIfS (tOr (tTest (tOp (rNeD K) (tCall (spP K S_row_of) [] E0 (tCons (tC (.int 3)) tNil)) (tTup (tCons (tTup (tCons (tC (.int 0)) (tCons (tC (.int 1)) tNil))) (tCons (tTup (tCons (tC (.int 1)) (tCons (tC (.int 3)) tNil))) (tCons (tTup (tCons (tC (.int 1)) (tCons (tC (.int 2)) tNil))) (tCons (tTup (tCons (tC (.int 2)) (tCons (tC (.int 3)) tNil))) (tCons (tTup (tCons (tC (.int 1)) (tCons (tC (.int 1)) tNil))) tNil)))))))) (tTest (tOp (rNeD K) (tCall (spP K S_row_count) [] E0 (tCons (tC (.int 1)) tNil)) (tC (.int 2))))) (tRet (tC (.bl false))) tNext)
      (tRet (tCB (rAll K) (tCons (tLc (iRng1 (tCons (tC (.int 2)) tNil)) (gName 2) tYes (tAndT K (tCall (spH K S__law_is_row_right) [] E0 (tCons (tVar 1) tNil)) (tCall (spH K S__law_is_count_right) [] E0 (tCons (tVar 1) tNil))) [2]) tNil)))))
theorem body_law : Body K S_law N_law (t_law K) := by
  rintro ds p ⟨ns, rfl, hl, q⟩ C -
  show WS K C _ [.im (.list (ns.map .int)), .un, .un] _ _ _ _
  unfold t_law
  refine ws_seq (ws_asgN (wn_call ?_))
  walk_at "w"
  refine ⟨ns, rfl, hl, fun h0 hh0 => ?_⟩
  walk_at "w"
  refine ⟨3, rfl, by decide, by decide, ?_⟩
  walk_at "w"
  refine wr_neY (by rw [row3]; rfl) (sh_rdT _) ?_
  walk_at "w"
  refine ⟨1, rfl, by decide, by decide, ?_⟩
  rw [sumphi1]
  walk_at "w"
  refine we_new (wn_lc (wi_r1 ?_))
  walk_at "w"
  refine ⟨fun i acc δ => ∃ h, δ = [.im (.list (ns.map .int)), .ow (.lst none h), .un] ∧ HandOK h ∧ ∀ d ∈ acc, d = .bool true, ⟨_, rfl, hh0, fun d hd => absurd hd (List.not_mem_nil)⟩, fun i d acc δ hd ha ⟨h, hδ, hh, hacc⟩ => ?_, fun acc δ ⟨h, hδ, hh, hacc⟩ => ?_⟩
  · subst hδ
    have hi : i < 2 := by have := (rangeD_at.mp hd).1; simpa using this
    refine wgv_name (by decide) ?_
    refine wt_yes (isT ?_)
    walk_at "w"
    refine we_callH ?_ ⟨_, rfl⟩
    walk_at "w"
    refine ⟨rfl, hh, fun h' hh' => ?_⟩
    walk_at "w"
    refine we_callH ?_ ⟨_, rfl⟩
    walk_at "w"
    refine ⟨rfl, hh', fun h'' hh'' => ⟨by omega, h'', rfl, hh'', fun d hd => ?_⟩⟩
    rcases List.mem_append.mp hd with z | z
    · exact hacc d z
    · exact List.mem_singleton.mp z
  · subst hδ
    walk_at "w"
    refine wc_allT hacc ?_
    exact q
end
end Wk
set_option Elab.async false
set_option linter.all false
set_option maxRecDepth 100000
set_option maxHeartbeats 4000000
/-! The defs of the text by rules, the facts of its top, the row. -/
namespace Wk
open PySem L2
open RZ (ItzT iZipA pi_zipA)
def topS (i : Nat) : Stmt := PySem.Challenge.pw_ratiohouse_k03_whole_neighbours_as_pairs.main.body.getD i (.Pass ⟨0, 0, 0, 0⟩)
structure Tx (mg : Str → Option Value) : Prop where
  n_abs : mg "abs" = none
  n_all : mg "all" = none
  n_any : mg "any" = none
  n_bool : mg "bool" = none
  n_int : mg "int" = none
  n_isinstance : mg "isinstance" = none
  n_len : mg "len" = none
  n_list : mg "list" = none
  n_max : mg "max" = none
  n_min : mg "min" = none
  n_range : mg "range" = none
  n_sorted : mg "sorted" = none
  n_sum : mg "sum" = none
  n_tuple : mg "tuple" = none
  n_zip : mg "zip" = none
  m_MOST_DIGITS : ∃ t, mg "MOST_DIGITS" = some (.int M40 t)
  m_MOST_PLACE : ∃ t, mg "MOST_PLACE" = some (.int 1000000 t)
  m_MOST_ROW : ∃ t, mg "MOST_ROW" = some (.int 2000 t)
  m_MOST_SHOWN : ∃ t, mg "MOST_SHOWN" = some (.int 60 t)
section
variable {X : Cx} {pos : Pos}
theorem Tx.p_MOST_DIGITS (T : Tx X.mg) (hg : Gl X "MOST_DIGITS") : PE X (.Name "MOST_DIGITS" pos) (tC k_MOST_DIGITS) := by obtain ⟨t, e⟩ := T.m_MOST_DIGITS; exact pe_glob hg e ⟨t, rfl⟩
theorem Tx.p_MOST_PLACE (T : Tx X.mg) (hg : Gl X "MOST_PLACE") : PE X (.Name "MOST_PLACE" pos) (tC k_MOST_PLACE) := by obtain ⟨t, e⟩ := T.m_MOST_PLACE; exact pe_glob hg e ⟨t, rfl⟩
theorem Tx.p_MOST_ROW (T : Tx X.mg) (hg : Gl X "MOST_ROW") : PE X (.Name "MOST_ROW" pos) (tC k_MOST_ROW) := by obtain ⟨t, e⟩ := T.m_MOST_ROW; exact pe_glob hg e ⟨t, rfl⟩
theorem Tx.p_MOST_SHOWN (T : Tx X.mg) (hg : Gl X "MOST_SHOWN") : PE X (.Name "MOST_SHOWN" pos) (tC k_MOST_SHOWN) := by obtain ⟨t, e⟩ := T.m_MOST_SHOWN; exact pe_glob hg e ⟨t, rfl⟩
end
section
variable {P : Program} {w : World} {K : Fg} {mg : Str → Option Value} {base : Heap} {f : Addr} {fd : FuncData}
abbrev sS_is_integer : Stmt := topS 2
theorem sc_is_integer : FnScope N_is_integer ["thing"] (defScope sS_is_integer) := ⟨rfl, rfl, rfl, by decide +kernel, rfl, by decide +kernel, by decide +kernel⟩
theorem ok_is_integer (F : Fun K "is_integer" "is_integer" sS_is_integer f fd) (T : Tx mg)  : FnOk P w K mg base CX0 1 f fd ["thing"] (spP K S_is_integer) :=
  fn_pure F sc_is_integer (fun ds p h => by first | (exact h.elim) | (obtain ⟨rfl, _⟩ := h; rfl) | (obtain ⟨_, rfl, _⟩ := h; rfl) | (obtain ⟨_, _, rfl, _⟩ := h; rfl) | (obtain ⟨_, _, _, rfl, _⟩ := h; rfl) | (obtain ⟨_, _, _, _, rfl, _⟩ := h; rfl) | (obtain ⟨_, _, _, _, _, rfl, _⟩ := h; rfl) | (obtain ⟨_, _, _, _, _, _, rfl, _⟩ := h; rfl) | (obtain ⟨_, _, _, _, _, _, _, rfl, _⟩ := h; rfl) | (obtain ⟨_, _, _, _, _, _, _, _, rfl, _⟩ := h; rfl)) fun cdv A outer s H E hr => ⟨t_is_integer K, (pss_one (ps_ret (pe_andT (pe_callB call_isi rfl T.n_isinstance (by decide +kernel) (pa_cons (pv 0) (pa_cons (pe_bltn (v := .ty "int") (u := .type "int") rfl T.n_int (by decide +kernel) rfl) pa_nil))) (pe_one (pe_notT (pe_callB call_isi rfl T.n_isinstance (by decide +kernel) (pa_cons (pv 0) (pa_cons (pe_bltn (v := .ty "bool") (u := .type "bool") rfl T.n_bool (by decide +kernel) rfl) pa_nil)))))))), body_is_integer⟩
abbrev sS_is_sized : Stmt := topS 4
theorem sc_is_sized : FnScope N_is_sized ["thing", "low", "high"] (defScope sS_is_sized) := ⟨rfl, rfl, rfl, by decide +kernel, rfl, by decide +kernel, by decide +kernel⟩
theorem ok_is_sized (F : Fun K "is_sized" "is_sized" sS_is_sized f fd) (T : Tx mg)  : FnOk P w K mg base CX0 1 f fd ["thing", "low", "high"] (spP K S_is_sized) :=
  fn_pure F sc_is_sized (fun ds p h => by first | (exact h.elim) | (obtain ⟨rfl, _⟩ := h; rfl) | (obtain ⟨_, rfl, _⟩ := h; rfl) | (obtain ⟨_, _, rfl, _⟩ := h; rfl) | (obtain ⟨_, _, _, rfl, _⟩ := h; rfl) | (obtain ⟨_, _, _, _, rfl, _⟩ := h; rfl) | (obtain ⟨_, _, _, _, _, rfl, _⟩ := h; rfl) | (obtain ⟨_, _, _, _, _, _, rfl, _⟩ := h; rfl) | (obtain ⟨_, _, _, _, _, _, _, rfl, _⟩ := h; rfl) | (obtain ⟨_, _, _, _, _, _, _, _, rfl, _⟩ := h; rfl)) fun cdv A outer s H E hr => ⟨t_is_sized K, (pss_one (ps_ret (pe_andT (pe_callB call_isi rfl T.n_isinstance (by decide +kernel) (pa_cons (pv 0) (pa_cons (pe_bltn (v := .ty "tuple") (u := .type "tuple") rfl T.n_tuple (by decide +kernel) rfl) pa_nil))) (pe_one (pe_chain o_le o_le (pv 1) (pe_callB b_len rfl T.n_len (by decide +kernel) (pa_cons (pv 0) pa_nil)) (pv 2)))))), body_is_sized⟩
abbrev sS_common : Stmt := topS 5
theorem sc_common : FnScope N_common ["one", "other"] (defScope sS_common) := ⟨rfl, rfl, rfl, by decide +kernel, rfl, by decide +kernel, by decide +kernel⟩
theorem ok_common (F : Fun K "common" "common" sS_common f fd) (T : Tx mg)  : FnOk P w K mg base CX0 1 f fd ["one", "other"] (spP K S_common) :=
  fn_pure F sc_common (fun ds p h => by first | (exact h.elim) | (obtain ⟨rfl, _⟩ := h; rfl) | (obtain ⟨_, rfl, _⟩ := h; rfl) | (obtain ⟨_, _, rfl, _⟩ := h; rfl) | (obtain ⟨_, _, _, rfl, _⟩ := h; rfl) | (obtain ⟨_, _, _, _, rfl, _⟩ := h; rfl) | (obtain ⟨_, _, _, _, _, rfl, _⟩ := h; rfl) | (obtain ⟨_, _, _, _, _, _, rfl, _⟩ := h; rfl) | (obtain ⟨_, _, _, _, _, _, _, rfl, _⟩ := h; rfl) | (obtain ⟨_, _, _, _, _, _, _, _, rfl, _⟩ := h; rfl)) fun cdv A outer s H E hr => ⟨t_common K, (pss_cons (ps_par (i := 0) (j := 1) rfl sc_common.nd rfl rfl (by decide) rfl rfl (pa_cons (pe_callB b_abs rfl T.n_abs (by decide +kernel) (pa_cons (pv 0) pa_nil)) (pa_cons (pe_callB b_abs rfl T.n_abs (by decide +kernel) (pa_cons (pv 1) pa_nil)) pa_nil)) rfl)
      (pss_cons (ps_while PassesOwn.never (pt_cmpR o_gt (pv 1) pe_int (nomark _)) (pss_one (ps_par (i := 0) (j := 1) rfl sc_common.nd rfl rfl (by decide) rfl rfl (pa_cons (pv 1) (pa_cons (pe_op o_mod (pv 0) (pv 1)) pa_nil)) rfl)))
      (pss_one (ps_ret (pv 0))))), body_common⟩
abbrev sS_unlike_counts : Stmt := topS 20
theorem sc_unlike_counts : FnScope N_unlike_counts ["n"] (defScope sS_unlike_counts) := ⟨rfl, rfl, rfl, by decide +kernel, rfl, by decide +kernel, by decide +kernel⟩
theorem ok_unlike_counts (F : Fun K "unlike_counts" "unlike_counts" sS_unlike_counts f fd) (T : Tx mg)  : FnOk P w K mg base CX0 1 f fd ["n"] (spP K S_unlike_counts) :=
  fn_pure F sc_unlike_counts (fun ds p h => by first | (exact h.elim) | (obtain ⟨rfl, _⟩ := h; rfl) | (obtain ⟨_, rfl, _⟩ := h; rfl) | (obtain ⟨_, _, rfl, _⟩ := h; rfl) | (obtain ⟨_, _, _, rfl, _⟩ := h; rfl) | (obtain ⟨_, _, _, _, rfl, _⟩ := h; rfl) | (obtain ⟨_, _, _, _, _, rfl, _⟩ := h; rfl) | (obtain ⟨_, _, _, _, _, _, rfl, _⟩ := h; rfl) | (obtain ⟨_, _, _, _, _, _, _, rfl, _⟩ := h; rfl) | (obtain ⟨_, _, _, _, _, _, _, _, rfl, _⟩ := h; rfl)) fun cdv A outer s H E hr => ⟨t_unlike_counts K, (pss_cons (ps_set (i := 1) sc_unlike_counts.nd rfl (Or.inl rfl) (pe_listRg rfl rfl T.n_list (prg_1 rfl T.n_range (pe_op o_add (pv 0) pe_int))))
      (pss_cons (ps_for PassesOwn.never rfl (pi_range2 rfl T.n_range (pa_cons pe_int (pa_cons (pe_op o_add (pv 0) pe_int) pa_nil))) (pg_name (i := 2) sc_unlike_counts.nd rfl (Or.inl rfl)) (pss_one (ps_if (pt_cmpR (op_eqD hr.units) (pe_ix ix_seq (pv 1) (pv 2) (fun _ _ => rfl)) (pv 2) (nomark _)) (pss_one (ps_for PassesOwn.never rfl (pi_range3 rfl T.n_range (pa_cons (pv 2) (pa_cons (pe_op o_add (pv 0) pe_int) (pa_cons (pv 2) pa_nil)))) (pg_name (i := 3) sc_unlike_counts.nd rfl (Or.inl rfl)) (pss_one (ps_augS (pv 1) (pv 3) get_list (pe_op o_div (pe_ix ix_seq (pv 1) (pv 3) (fun _ _ => rfl)) (pv 2)) ip_sub set_list)))) pss_nil)))
      (pss_one (ps_ret (pv 1))))), body_unlike_counts⟩
abbrev sS_pow_inverse : Stmt := topS 24
theorem sc_pow_inverse : FnScope N_pow_inverse ["top", "bottom"] (defScope sS_pow_inverse) := ⟨rfl, rfl, rfl, by decide +kernel, rfl, by decide +kernel, by decide +kernel⟩
theorem ok_pow_inverse (F : Fun K "pow_inverse" "pow_inverse" sS_pow_inverse f fd) (T : Tx mg)  : FnOk P w K mg base CX0 1 f fd ["top", "bottom"] (spP K S_pow_inverse) :=
  fn_pure F sc_pow_inverse (fun ds p h => by first | (exact h.elim) | (obtain ⟨rfl, _⟩ := h; rfl) | (obtain ⟨_, rfl, _⟩ := h; rfl) | (obtain ⟨_, _, rfl, _⟩ := h; rfl) | (obtain ⟨_, _, _, rfl, _⟩ := h; rfl) | (obtain ⟨_, _, _, _, rfl, _⟩ := h; rfl) | (obtain ⟨_, _, _, _, _, rfl, _⟩ := h; rfl) | (obtain ⟨_, _, _, _, _, _, rfl, _⟩ := h; rfl) | (obtain ⟨_, _, _, _, _, _, _, rfl, _⟩ := h; rfl) | (obtain ⟨_, _, _, _, _, _, _, _, rfl, _⟩ := h; rfl)) fun cdv A outer s H E hr => ⟨t_pow_inverse K, (pss_cons (ps_asg (pe_tup (pa_cons pe_int (pa_cons pe_int (pa_cons (pe_op o_mod (pv 0) (pv 1)) (pa_cons (pv 1) pa_nil))))) (pg_tup rfl (pgs_cons (pg_name (i := 2) sc_pow_inverse.nd rfl (Or.inl rfl)) (pgs_cons (pg_name (i := 3) sc_pow_inverse.nd rfl (Or.inl rfl)) (pgs_cons (pg_name (i := 4) sc_pow_inverse.nd rfl (Or.inl rfl)) (pgs_cons (pg_name (i := 5) sc_pow_inverse.nd rfl (Or.inl rfl)) pgs_nil))))))
      (pss_cons (ps_while PassesOwn.never (pt_cmpR o_gt (pv 5) pe_int (nomark _)) (pss_cons (ps_set (i := 6) sc_pow_inverse.nd rfl (Or.inl rfl) (pe_op o_div (pv 4) (pv 5)))
      (pss_cons (ps_par (i := 4) (j := 5) rfl sc_pow_inverse.nd rfl rfl (by decide) rfl rfl (pa_cons (pv 5) (pa_cons (pe_op o_sub (pv 4) (pe_op o_mul (pv 6) (pv 5))) pa_nil)) rfl)
      (pss_one (ps_par (i := 2) (j := 3) rfl sc_pow_inverse.nd rfl rfl (by decide) rfl rfl (pa_cons (pv 3) (pa_cons (pe_op o_sub (pv 2) (pe_op o_mul (pv 6) (pv 3))) pa_nil)) rfl)))))
      (pss_one (ps_ret (pe_op o_mod (pv 2) (pv 1)))))), body_pow_inverse⟩
abbrev sS_made_top : Stmt := topS 25
theorem sc_made_top : FnScope N_made_top ["top", "bottom", "last"] (defScope sS_made_top) := ⟨rfl, rfl, rfl, by decide +kernel, rfl, by decide +kernel, by decide +kernel⟩
theorem ok_made_top (F : Fun K "made_top" "made_top" sS_made_top f fd) (T : Tx mg)  : FnOk P w K mg base CX0 1 f fd ["top", "bottom", "last"] (spP K S_made_top) :=
  fn_pure F sc_made_top (fun ds p h => by first | (exact h.elim) | (obtain ⟨rfl, _⟩ := h; rfl) | (obtain ⟨_, rfl, _⟩ := h; rfl) | (obtain ⟨_, _, rfl, _⟩ := h; rfl) | (obtain ⟨_, _, _, rfl, _⟩ := h; rfl) | (obtain ⟨_, _, _, _, rfl, _⟩ := h; rfl) | (obtain ⟨_, _, _, _, _, rfl, _⟩ := h; rfl) | (obtain ⟨_, _, _, _, _, _, rfl, _⟩ := h; rfl) | (obtain ⟨_, _, _, _, _, _, _, rfl, _⟩ := h; rfl) | (obtain ⟨_, _, _, _, _, _, _, _, rfl, _⟩ := h; rfl)) fun cdv A outer s H E hr => ⟨t_made_top K, (pss_one (ps_ret (pe_op o_div (pe_op o_add pe_int (pe_op o_mul (pv 0) (pv 2))) (pv 1)))), body_made_top⟩
abbrev sS_cross : Stmt := topS 30
theorem sc_cross : FnScope N_cross ["one", "other"] (defScope sS_cross) := ⟨rfl, rfl, rfl, by decide +kernel, rfl, by decide +kernel, by decide +kernel⟩
theorem ok_cross (F : Fun K "cross" "cross" sS_cross f fd) (T : Tx mg)  : FnOk P w K mg base CX0 1 f fd ["one", "other"] (spP K S_cross) :=
  fn_pure F sc_cross (fun ds p h => by first | (exact h.elim) | (obtain ⟨rfl, _⟩ := h; rfl) | (obtain ⟨_, rfl, _⟩ := h; rfl) | (obtain ⟨_, _, rfl, _⟩ := h; rfl) | (obtain ⟨_, _, _, rfl, _⟩ := h; rfl) | (obtain ⟨_, _, _, _, rfl, _⟩ := h; rfl) | (obtain ⟨_, _, _, _, _, rfl, _⟩ := h; rfl) | (obtain ⟨_, _, _, _, _, _, rfl, _⟩ := h; rfl) | (obtain ⟨_, _, _, _, _, _, _, rfl, _⟩ := h; rfl) | (obtain ⟨_, _, _, _, _, _, _, _, rfl, _⟩ := h; rfl)) fun cdv A outer s H E hr => ⟨t_cross K, (pss_one (ps_ret (pe_callB b_abs rfl T.n_abs (by decide +kernel) (pa_cons (pe_op o_sub (pe_op o_mul (pe_ix ix_seq (pv 0) pe_int (fun _ _ => rfl)) (pe_ix ix_seq (pv 1) pe_int (fun _ _ => rfl))) (pe_op o_mul (pe_ix ix_seq (pv 1) pe_int (fun _ _ => rfl)) (pe_ix ix_seq (pv 0) pe_int (fun _ _ => rfl)))) pa_nil)))), body_cross⟩
abbrev sS_turn_at : Stmt := topS 35
theorem sc_turn_at : FnScope N_turn_at ["a", "b", "c"] (defScope sS_turn_at) := ⟨rfl, rfl, rfl, by decide +kernel, rfl, by decide +kernel, by decide +kernel⟩
theorem ok_turn_at (F : Fun K "turn_at" "turn_at" sS_turn_at f fd) (T : Tx mg)  : FnOk P w K mg base CX0 1 f fd ["a", "b", "c"] (spP K S_turn_at) :=
  fn_pure F sc_turn_at (fun ds p h => by first | (exact h.elim) | (obtain ⟨rfl, _⟩ := h; rfl) | (obtain ⟨_, rfl, _⟩ := h; rfl) | (obtain ⟨_, _, rfl, _⟩ := h; rfl) | (obtain ⟨_, _, _, rfl, _⟩ := h; rfl) | (obtain ⟨_, _, _, _, rfl, _⟩ := h; rfl) | (obtain ⟨_, _, _, _, _, rfl, _⟩ := h; rfl) | (obtain ⟨_, _, _, _, _, _, rfl, _⟩ := h; rfl) | (obtain ⟨_, _, _, _, _, _, _, rfl, _⟩ := h; rfl) | (obtain ⟨_, _, _, _, _, _, _, _, rfl, _⟩ := h; rfl)) fun cdv A outer s H E hr => ⟨t_turn_at K, (pss_one (ps_ret (pe_op o_sub (pe_op o_mul (pe_op o_sub (pe_ix ix_seq (pv 1) pe_int (fun _ _ => rfl)) (pe_ix ix_seq (pv 0) pe_int (fun _ _ => rfl))) (pe_op o_sub (pe_ix ix_seq (pv 2) pe_int (fun _ _ => rfl)) (pe_ix ix_seq (pv 0) pe_int (fun _ _ => rfl)))) (pe_op o_mul (pe_op o_sub (pe_ix ix_seq (pv 1) pe_int (fun _ _ => rfl)) (pe_ix ix_seq (pv 0) pe_int (fun _ _ => rfl))) (pe_op o_sub (pe_ix ix_seq (pv 2) pe_int (fun _ _ => rfl)) (pe_ix ix_seq (pv 0) pe_int (fun _ _ => rfl))))))), body_turn_at⟩
abbrev sS_sides_of : Stmt := topS 36
theorem sc_sides_of : FnScope N_sides_of ["figure"] (defScope sS_sides_of) := ⟨rfl, rfl, rfl, by decide +kernel, rfl, by decide +kernel, by decide +kernel⟩
theorem ok_sides_of (F : Fun K "sides_of" "sides_of" sS_sides_of f fd) (T : Tx mg)  : FnOk P w K mg base CX0 1 f fd ["figure"] (spP K S_sides_of) :=
  fn_pure F sc_sides_of (fun ds p h => by first | (exact h.elim) | (obtain ⟨rfl, _⟩ := h; rfl) | (obtain ⟨_, rfl, _⟩ := h; rfl) | (obtain ⟨_, _, rfl, _⟩ := h; rfl) | (obtain ⟨_, _, _, rfl, _⟩ := h; rfl) | (obtain ⟨_, _, _, _, rfl, _⟩ := h; rfl) | (obtain ⟨_, _, _, _, _, rfl, _⟩ := h; rfl) | (obtain ⟨_, _, _, _, _, _, rfl, _⟩ := h; rfl) | (obtain ⟨_, _, _, _, _, _, _, rfl, _⟩ := h; rfl) | (obtain ⟨_, _, _, _, _, _, _, _, rfl, _⟩ := h; rfl)) fun cdv A outer s H E hr => ⟨t_sides_of K, (pss_one (ps_ret (pe_lc (own := [("one", 1), ("other", 2)]) rfl sc_sides_of.nd (pi_zipA rfl T.n_zip (pa_cons (pv 0) (pa_cons (pe_op op_catA (pe_slice sl_any (pv 0) (po_some pe_int) po_none) (pe_slice sl_any (pv 0) po_none (po_some pe_int))) pa_nil))) (blkOk_by (own := [("one", 1), ("other", 2)]) (N := N_sides_of) (sc := defScope sS_sides_of) (by decide +kernel)) (fun _ _ _ _ _ => (pg_tup rfl (pgs_cons (pg_name (i := 1) sc_sides_of.nd rfl (Or.inl rfl)) (pgs_cons (pg_name (i := 2) sc_sides_of.nd rfl (Or.inl rfl)) pgs_nil)))) (fun _ _ _ _ _ => pts_nil) (fun _ _ _ _ _ => (pe_tup (pa_cons (pv 1) (pa_cons (pv 2) pa_nil))))))), body_sides_of⟩
abbrev sS_sign_of : Stmt := topS 38
theorem sc_sign_of : FnScope N_sign_of ["number"] (defScope sS_sign_of) := ⟨rfl, rfl, rfl, by decide +kernel, rfl, by decide +kernel, by decide +kernel⟩
theorem ok_sign_of (F : Fun K "sign_of" "sign_of" sS_sign_of f fd) (T : Tx mg)  : FnOk P w K mg base CX0 1 f fd ["number"] (spP K S_sign_of) :=
  fn_pure F sc_sign_of (fun ds p h => by first | (exact h.elim) | (obtain ⟨rfl, _⟩ := h; rfl) | (obtain ⟨_, rfl, _⟩ := h; rfl) | (obtain ⟨_, _, rfl, _⟩ := h; rfl) | (obtain ⟨_, _, _, rfl, _⟩ := h; rfl) | (obtain ⟨_, _, _, _, rfl, _⟩ := h; rfl) | (obtain ⟨_, _, _, _, _, rfl, _⟩ := h; rfl) | (obtain ⟨_, _, _, _, _, _, rfl, _⟩ := h; rfl) | (obtain ⟨_, _, _, _, _, _, _, rfl, _⟩ := h; rfl) | (obtain ⟨_, _, _, _, _, _, _, _, rfl, _⟩ := h; rfl)) fun cdv A outer s H E hr => ⟨t_sign_of K, (pss_one (ps_ret (pe_op o_sub (pe_callTy b_int rfl T.n_int (by decide +kernel) (pa_cons (pe_cmpR o_gt (pv 0) pe_int (nomark _)) pa_nil)) (pe_callTy b_int rfl T.n_int (by decide +kernel) (pa_cons (pe_cmpR o_lt (pv 0) pe_int (nomark _)) pa_nil))))), body_sign_of⟩
abbrev sS__law_hand : Stmt := topS 48
theorem sc__law_hand : FnScope N__law_hand ["script"] (defScope sS__law_hand) := ⟨rfl, rfl, rfl, by decide +kernel, rfl, by decide +kernel, by decide +kernel⟩
theorem ok__law_hand (F : Fun K "_law_hand" "_law_hand" sS__law_hand f fd) (T : Tx mg)  : FnOk P w K mg base CX0 1 f fd ["script"] (spN K S__law_hand) :=
  fn_new F sc__law_hand (fun ds p h => by first | (exact h.elim) | (obtain ⟨rfl, _⟩ := h; rfl) | (obtain ⟨_, rfl, _⟩ := h; rfl) | (obtain ⟨_, _, rfl, _⟩ := h; rfl) | (obtain ⟨_, _, _, rfl, _⟩ := h; rfl) | (obtain ⟨_, _, _, _, rfl, _⟩ := h; rfl) | (obtain ⟨_, _, _, _, _, rfl, _⟩ := h; rfl) | (obtain ⟨_, _, _, _, _, _, rfl, _⟩ := h; rfl) | (obtain ⟨_, _, _, _, _, _, _, rfl, _⟩ := h; rfl) | (obtain ⟨_, _, _, _, _, _, _, _, rfl, _⟩ := h; rfl)) fun cdv A outer s H E hr => ⟨t__law_hand K, (pss_cons (ps_setLc (i := 1) (own := [("cell", 2)]) rfl sc__law_hand.nd rfl rfl (sw_true rfl rfl rfl (by decide +kernel)) (pi_any (pe_slice sl_any (pv 0) po_none (po_some pe_int))) (blkOk_by (own := [("cell", 2)]) (N := N__law_hand) (sc := defScope sS__law_hand) (by decide +kernel)) (fun _ _ _ _ _ => (pg_name (i := 2) sc__law_hand.nd rfl (Or.inl rfl))) (fun _ _ _ _ _ => pts_nil) (fun _ _ _ _ _ => (pe_callB b_abs rfl T.n_abs (by decide +kernel) (pa_cons (pe_callTy b_int rfl T.n_int (by decide +kernel) (pa_cons (pv 2) pa_nil)) pa_nil))))
      (pss_one (ps_ret (pe_lst (pa_cons (pv 1) (pa_cons pe_int (pa_cons pe_int (pa_cons (pe_op o_add pe_int (pe_op o_mul pe_int (pe_callB b_len rfl T.n_len (by decide +kernel) (pa_cons (pv 1) pa_nil)))) (pa_cons pe_int pa_nil))))))))), body__law_hand⟩
abbrev sS__law_draw : Stmt := topS 49
theorem sc__law_draw : FnScope N__law_draw ["hand", "many"] (defScope sS__law_draw) := ⟨rfl, rfl, rfl, by decide +kernel, rfl, by decide +kernel, by decide +kernel⟩
theorem ok__law_draw (F : Fun K "_law_draw" "_law_draw" sS__law_draw f fd) (T : Tx mg)  : FnOk P w K mg base CX0 1 f fd ["hand", "many"] (spH K S__law_draw) :=
  fn_hand F sc__law_draw (fun hs ds p h => by first | (exact h.elim) | (obtain ⟨rfl, _⟩ := h; rfl) | (obtain ⟨_, rfl, _⟩ := h; rfl) | (obtain ⟨_, _, rfl, _⟩ := h; rfl) | (obtain ⟨_, _, _, rfl, _⟩ := h; rfl) | (obtain ⟨_, _, _, _, rfl, _⟩ := h; rfl) | (obtain ⟨_, _, _, _, _, rfl, _⟩ := h; rfl) | (obtain ⟨_, _, _, _, _, _, rfl, _⟩ := h; rfl) | (obtain ⟨_, _, _, _, _, _, _, rfl, _⟩ := h; rfl) | (obtain ⟨_, _, _, _, _, _, _, _, rfl, _⟩ := h; rfl)) fun cdv A outer s H E hr => ⟨t__law_draw K, (pss_cons (ps_if (PW.pt (pw_and (pt_cmpR (op_eqD hr.units) (pe_ix ix_seq (pv 0) pe_int (fun _ _ => rfl)) pe_int (nomark _)) (pw_and1 (pt_cmpR o_lt (pe_ix ix_seq (pv 0) pe_int (fun _ _ => rfl)) (pe_callB b_len rfl T.n_len (by decide +kernel) (pa_cons (pe_ix ix_seq (pv 0) pe_int (fun _ _ => rfl)) pa_nil)) (nomark _))))) (pss_cons (ps_set (i := 2) sc__law_draw.nd rfl (Or.inl rfl) (pe_ix ix_seq (pe_ix ix_seq (pv 0) pe_int (fun _ _ => rfl)) (pe_ix ix_seq (pv 0) pe_int (fun _ _ => rfl)) (fun _ _ => rfl)))
      (pss_cons (ps_asg (pe_op o_add (pe_ix ix_seq (pv 0) pe_int (fun _ _ => rfl)) pe_int) (pg_sub (pv 0) pe_int set_list))
      (pss_cons (ps_asg (pe_op o_mod (pe_callTy b_int rfl T.n_int (by decide +kernel) (pa_cons (pe_op o_add (pe_op o_add (pe_op o_mul (pe_ix ix_seq (pv 0) pe_int (fun _ _ => rfl)) pe_int) (pe_op o_mul (pv 2) pe_int)) pe_int) pa_nil)) pe_int) (pg_sub (pv 0) pe_int set_list))
      (pss_one (ps_if (pt_cmpR o_ge (pv 2) (pe_op o_pow pe_int pe_int) (nomark _)) (pss_one (ps_asg (pv 2) (pg_sub (pv 0) pe_int set_list))) pss_nil))))) pss_nil)
      (pss_cons (ps_if (pt_cmpR o_gt (pe_ix ix_seq (pv 0) pe_int (fun _ _ => rfl)) pe_int (nomark _)) (pss_cons (ps_set (i := 3) sc__law_draw.nd rfl (Or.inl rfl) (pe_op o_mod (pe_callTy b_int rfl T.n_int (by decide +kernel) (pa_cons (pe_ix ix_seq (pv 0) pe_int (fun _ _ => rfl)) pa_nil)) (pv 1)))
      (pss_cons (ps_asg (pe_op o_div (pe_ix ix_seq (pv 0) pe_int (fun _ _ => rfl)) (pv 1)) (pg_sub (pv 0) pe_int set_list))
      (pss_one (ps_ret (pv 3))))) pss_nil)
      (pss_cons (ps_asg (pe_op o_add (pe_ix ix_seq (pv 0) pe_int (fun _ _ => rfl)) pe_int) (pg_sub (pv 0) pe_int set_list))
      (pss_cons (ps_set (i := 4) sc__law_draw.nd rfl (Or.inl rfl) (pe_op o_mod (pe_callTy b_int rfl T.n_int (by decide +kernel) (pa_cons (pe_op o_mul (pe_callTy b_int rfl T.n_int (by decide +kernel) (pa_cons (pe_op o_add (pe_ix ix_seq (pv 0) pe_int (fun _ _ => rfl)) (pe_op o_mul pe_int (pe_ix ix_seq (pv 0) pe_int (fun _ _ => rfl)))) pa_nil)) pe_int) pa_nil)) pe_int))
      (pss_cons (ps_set (i := 4) sc__law_draw.nd rfl (Or.inl rfl) (pe_op o_mod (pe_callTy b_int rfl T.n_int (by decide +kernel) (pa_cons (pe_op o_mul (pv 4) (pe_op o_add (pe_op o_div (pv 4) pe_int) pe_int)) pa_nil)) pe_int))
      (pss_cons (ps_set (i := 4) sc__law_draw.nd rfl (Or.inl rfl) (pe_op o_mod (pe_callTy b_int rfl T.n_int (by decide +kernel) (pa_cons (pe_op o_mul (pv 4) (pe_op o_add (pe_op o_div (pv 4) pe_int) pe_int)) pa_nil)) pe_int))
      (pss_one (ps_ret (pe_op o_mod (pe_callTy b_int rfl T.n_int (by decide +kernel) (pa_cons (pe_op o_div (pv 4) pe_int) pa_nil)) (pv 1)))))))))), body__law_draw⟩
abbrev sS__law_gcd : Stmt := topS 51
theorem sc__law_gcd : FnScope N__law_gcd ["one", "other"] (defScope sS__law_gcd) := ⟨rfl, rfl, rfl, by decide +kernel, rfl, by decide +kernel, by decide +kernel⟩
theorem ok__law_gcd (F : Fun K "_law_gcd" "_law_gcd" sS__law_gcd f fd) (T : Tx mg)  : FnOk P w K mg base CX0 1 f fd ["one", "other"] (spP K S__law_gcd) :=
  fn_pure F sc__law_gcd (fun ds p h => by first | (exact h.elim) | (obtain ⟨rfl, _⟩ := h; rfl) | (obtain ⟨_, rfl, _⟩ := h; rfl) | (obtain ⟨_, _, rfl, _⟩ := h; rfl) | (obtain ⟨_, _, _, rfl, _⟩ := h; rfl) | (obtain ⟨_, _, _, _, rfl, _⟩ := h; rfl) | (obtain ⟨_, _, _, _, _, rfl, _⟩ := h; rfl) | (obtain ⟨_, _, _, _, _, _, rfl, _⟩ := h; rfl) | (obtain ⟨_, _, _, _, _, _, _, rfl, _⟩ := h; rfl) | (obtain ⟨_, _, _, _, _, _, _, _, rfl, _⟩ := h; rfl)) fun cdv A outer s H E hr => ⟨t__law_gcd K, (pss_cons (ps_par (i := 0) (j := 1) rfl sc__law_gcd.nd rfl rfl (by decide) rfl rfl (pa_cons (pe_callB b_abs rfl T.n_abs (by decide +kernel) (pa_cons (pv 0) pa_nil)) (pa_cons (pe_callB b_abs rfl T.n_abs (by decide +kernel) (pa_cons (pv 1) pa_nil)) pa_nil)) rfl)
      (pss_cons (ps_while PassesOwn.never (pt_cmpR o_gt (pv 1) pe_int (nomark _)) (pss_one (ps_par (i := 0) (j := 1) rfl sc__law_gcd.nd rfl rfl (by decide) rfl rfl (pa_cons (pv 1) (pa_cons (pe_op o_mod (pe_callTy b_int rfl T.n_int (by decide +kernel) (pa_cons (pv 0) pa_nil)) (pv 1)) pa_nil)) rfl)))
      (pss_one (ps_ret (pv 0))))), body__law_gcd⟩
abbrev sS_is_within : Stmt := topS 3
theorem sc_is_within : FnScope N_is_within ["thing", "low", "high"] (defScope sS_is_within) := ⟨rfl, rfl, rfl, by decide +kernel, rfl, by decide +kernel, by decide +kernel⟩
theorem ok_is_within (F : Fun K "is_within" "is_within" sS_is_within f fd) (T : Tx mg) (c_is_integer : Cal P w K mg base "is_integer" 1 (spP K S_is_integer)) : FnOk P w K mg base CX0 2 f fd ["thing", "low", "high"] (spP K S_is_within) :=
  fn_pure F sc_is_within (fun ds p h => by first | (exact h.elim) | (obtain ⟨rfl, _⟩ := h; rfl) | (obtain ⟨_, rfl, _⟩ := h; rfl) | (obtain ⟨_, _, rfl, _⟩ := h; rfl) | (obtain ⟨_, _, _, rfl, _⟩ := h; rfl) | (obtain ⟨_, _, _, _, rfl, _⟩ := h; rfl) | (obtain ⟨_, _, _, _, _, rfl, _⟩ := h; rfl) | (obtain ⟨_, _, _, _, _, _, rfl, _⟩ := h; rfl) | (obtain ⟨_, _, _, _, _, _, _, rfl, _⟩ := h; rfl) | (obtain ⟨_, _, _, _, _, _, _, _, rfl, _⟩ := h; rfl)) fun cdv A outer s H E hr => ⟨t_is_within K, (pss_one (ps_ret (pe_andT (pe_cal c_is_integer (hr.mono (by decide)) rfl (pa_cons (pv 0) pa_nil)) (pe_one (pe_chain o_le o_le (pv 1) (pv 0) (pv 2)))))), body_is_within⟩
abbrev sS_is_ratio : Stmt := topS 6
theorem sc_is_ratio : FnScope N_is_ratio ["thing"] (defScope sS_is_ratio) := ⟨rfl, rfl, rfl, by decide +kernel, rfl, by decide +kernel, by decide +kernel⟩
theorem ok_is_ratio (F : Fun K "is_ratio" "is_ratio" sS_is_ratio f fd) (T : Tx mg) (c_is_sized : Cal P w K mg base "is_sized" 1 (spP K S_is_sized)) (c_is_integer : Cal P w K mg base "is_integer" 1 (spP K S_is_integer)) (c_common : Cal P w K mg base "common" 1 (spP K S_common)) : FnOk P w K mg base CX0 2 f fd ["thing"] (spP K S_is_ratio) :=
  fn_pure F sc_is_ratio (fun ds p h => by first | (exact h.elim) | (obtain ⟨rfl, _⟩ := h; rfl) | (obtain ⟨_, rfl, _⟩ := h; rfl) | (obtain ⟨_, _, rfl, _⟩ := h; rfl) | (obtain ⟨_, _, _, rfl, _⟩ := h; rfl) | (obtain ⟨_, _, _, _, rfl, _⟩ := h; rfl) | (obtain ⟨_, _, _, _, _, rfl, _⟩ := h; rfl) | (obtain ⟨_, _, _, _, _, _, rfl, _⟩ := h; rfl) | (obtain ⟨_, _, _, _, _, _, _, rfl, _⟩ := h; rfl) | (obtain ⟨_, _, _, _, _, _, _, _, rfl, _⟩ := h; rfl)) fun cdv A outer s H E hr => ⟨t_is_ratio K, (pss_cons (ps_if (PW.pt (pw_or (pt_not (pt_tr (pe_cal c_is_sized (hr.mono (by decide)) rfl (pa_cons (pv 0) (pa_cons pe_int (pa_cons pe_int pa_nil)))))) (pw_or1 (pt_not (pt_tr (pe_callB (cr_all rfl) rfl T.n_all (by decide +kernel) (pa_cons (pe_lc (own := [("one", 1)]) rfl sc_is_ratio.nd (pi_any (pv 0)) (blkOk_by (own := [("one", 1)]) (N := N_is_ratio) (sc := defScope sS_is_ratio) (by decide +kernel)) (fun _ _ _ _ _ => (pg_name (i := 1) sc_is_ratio.nd rfl (Or.inl rfl))) (fun _ _ _ _ _ => pts_nil) (fun _ _ _ _ _ => (pe_cal c_is_integer (hr.mono (by decide)) rfl (pa_cons (pv 1) pa_nil)))) pa_nil))))))) (pss_one (ps_ret pe_bl)) pss_nil)
      (pss_cons (ps_if (PW.pt (pw_or (pt_cmpR o_ge (pe_callB b_abs rfl T.n_abs (by decide +kernel) (pa_cons (pe_ix ix_seq (pv 0) pe_int (fun _ _ => rfl)) pa_nil)) (T.p_MOST_DIGITS rfl) (nomark _)) (pw_or1 (pt_not (pt_chain o_lt o_lt pe_int (pe_ix ix_seq (pv 0) pe_int (fun _ _ => rfl)) (T.p_MOST_DIGITS rfl)))))) (pss_one (ps_ret pe_bl)) pss_nil)
      (pss_one (ps_ret (pe_cmpR (op_eqD hr.units) (pe_cal c_common (hr.mono (by decide)) rfl (pa_cons (pe_ix ix_seq (pv 0) pe_int (fun _ _ => rfl)) (pa_cons (pe_ix ix_seq (pv 0) pe_int (fun _ _ => rfl)) pa_nil))) pe_int (nomark _)))))), body_is_ratio⟩
abbrev sS_next_of : Stmt := topS 23
theorem sc_next_of : FnScope N_next_of ["n", "ratio"] (defScope sS_next_of) := ⟨rfl, rfl, rfl, by decide +kernel, rfl, by decide +kernel, by decide +kernel⟩
theorem ok_next_of (F : Fun K "next_of" "next_of" sS_next_of f fd) (T : Tx mg) (c_pow_inverse : Cal P w K mg base "pow_inverse" 1 (spP K S_pow_inverse)) (c_made_top : Cal P w K mg base "made_top" 1 (spP K S_made_top)) : FnOk P w K mg base CX0 2 f fd ["n", "ratio"] (spP K S_next_of) :=
  fn_pure F sc_next_of (fun ds p h => by first | (exact h.elim) | (obtain ⟨rfl, _⟩ := h; rfl) | (obtain ⟨_, rfl, _⟩ := h; rfl) | (obtain ⟨_, _, rfl, _⟩ := h; rfl) | (obtain ⟨_, _, _, rfl, _⟩ := h; rfl) | (obtain ⟨_, _, _, _, rfl, _⟩ := h; rfl) | (obtain ⟨_, _, _, _, _, rfl, _⟩ := h; rfl) | (obtain ⟨_, _, _, _, _, _, rfl, _⟩ := h; rfl) | (obtain ⟨_, _, _, _, _, _, _, rfl, _⟩ := h; rfl) | (obtain ⟨_, _, _, _, _, _, _, _, rfl, _⟩ := h; rfl)) fun cdv A outer s H E hr => ⟨t_next_of K, (pss_cons (ps_if (pt_cmpR (op_eqD hr.units) (pv 1) (pe_tup (pa_cons pe_int (pa_cons pe_int pa_nil))) (nomark _)) (pss_one (ps_ret pe_non)) pss_nil)
      (pss_cons (ps_asg (pv 1) (pg_tup rfl (pgs_cons (pg_name (i := 2) sc_next_of.nd rfl (Or.inl rfl)) (pgs_cons (pg_name (i := 3) sc_next_of.nd rfl (Or.inl rfl)) pgs_nil))))
      (pss_cons (ps_set (i := 4) sc_next_of.nd rfl (Or.inl rfl) (pe_ifExp (pt_cmpR (op_eqD hr.units) (pv 3) pe_int (nomark _)) pe_int (pe_cal c_pow_inverse (hr.mono (by decide)) rfl (pa_cons (pv 2) (pa_cons (pv 3) pa_nil)))))
      (pss_cons (ps_set (i := 5) sc_next_of.nd rfl (Or.inl rfl) (pe_ifExp (pt_cmpR o_gt (pv 3) pe_int (nomark _)) (pe_op o_sub (pv 0) (pe_op o_mod (pe_op o_add (pv 0) (pv 4)) (pv 3))) (pv 0)))
      (pss_one (ps_ret (pe_tup (pa_cons (pe_cal c_made_top (hr.mono (by decide)) rfl (pa_cons (pv 2) (pa_cons (pv 3) (pa_cons (pv 5) pa_nil)))) (pa_cons (pv 5) pa_nil))))))))), body_next_of⟩
abbrev sS_lies_on : Stmt := topS 37
theorem sc_lies_on : FnScope N_lies_on ["a", "b", "point"] (defScope sS_lies_on) := ⟨rfl, rfl, rfl, by decide +kernel, rfl, by decide +kernel, by decide +kernel⟩
theorem ok_lies_on (F : Fun K "lies_on" "lies_on" sS_lies_on f fd) (T : Tx mg) (c_turn_at : Cal P w K mg base "turn_at" 1 (spP K S_turn_at)) : FnOk P w K mg base CX0 2 f fd ["a", "b", "point"] (spP K S_lies_on) :=
  fn_pure F sc_lies_on (fun ds p h => by first | (exact h.elim) | (obtain ⟨rfl, _⟩ := h; rfl) | (obtain ⟨_, rfl, _⟩ := h; rfl) | (obtain ⟨_, _, rfl, _⟩ := h; rfl) | (obtain ⟨_, _, _, rfl, _⟩ := h; rfl) | (obtain ⟨_, _, _, _, rfl, _⟩ := h; rfl) | (obtain ⟨_, _, _, _, _, rfl, _⟩ := h; rfl) | (obtain ⟨_, _, _, _, _, _, rfl, _⟩ := h; rfl) | (obtain ⟨_, _, _, _, _, _, _, rfl, _⟩ := h; rfl) | (obtain ⟨_, _, _, _, _, _, _, _, rfl, _⟩ := h; rfl)) fun cdv A outer s H E hr => ⟨t_lies_on K, (pss_cons (ps_if (pt_cmpR (op_neD hr.units) (pe_cal c_turn_at (hr.mono (by decide)) rfl (pa_cons (pv 0) (pa_cons (pv 1) (pa_cons (pv 2) pa_nil)))) pe_int (nomark _)) (pss_one (ps_ret pe_bl)) pss_nil)
      (pss_one (ps_ret (pe_andT (pe_chain o_le o_le (pe_callB (b_min2 rfl) rfl T.n_min (by decide +kernel) (pa_cons (pe_ix ix_seq (pv 0) pe_int (fun _ _ => rfl)) (pa_cons (pe_ix ix_seq (pv 1) pe_int (fun _ _ => rfl)) pa_nil))) (pe_ix ix_seq (pv 2) pe_int (fun _ _ => rfl)) (pe_callB (b_max2 rfl) rfl T.n_max (by decide +kernel) (pa_cons (pe_ix ix_seq (pv 0) pe_int (fun _ _ => rfl)) (pa_cons (pe_ix ix_seq (pv 1) pe_int (fun _ _ => rfl)) pa_nil)))) (pe_one (pe_chain o_le o_le (pe_callB (b_min2 rfl) rfl T.n_min (by decide +kernel) (pa_cons (pe_ix ix_seq (pv 0) pe_int (fun _ _ => rfl)) (pa_cons (pe_ix ix_seq (pv 1) pe_int (fun _ _ => rfl)) pa_nil))) (pe_ix ix_seq (pv 2) pe_int (fun _ _ => rfl)) (pe_callB (b_max2 rfl) rfl T.n_max (by decide +kernel) (pa_cons (pe_ix ix_seq (pv 0) pe_int (fun _ _ => rfl)) (pa_cons (pe_ix ix_seq (pv 1) pe_int (fun _ _ => rfl)) pa_nil))))))))), body_lies_on⟩
abbrev sS_doubled : Stmt := topS 40
theorem sc_doubled : FnScope N_doubled ["figure"] (defScope sS_doubled) := ⟨rfl, rfl, rfl, by decide +kernel, rfl, by decide +kernel, by decide +kernel⟩
theorem ok_doubled (F : Fun K "doubled" "doubled" sS_doubled f fd) (T : Tx mg) (c_sides_of : Cal P w K mg base "sides_of" 1 (spP K S_sides_of)) : FnOk P w K mg base CX0 2 f fd ["figure"] (spP K S_doubled) :=
  fn_pure F sc_doubled (fun ds p h => by first | (exact h.elim) | (obtain ⟨rfl, _⟩ := h; rfl) | (obtain ⟨_, rfl, _⟩ := h; rfl) | (obtain ⟨_, _, rfl, _⟩ := h; rfl) | (obtain ⟨_, _, _, rfl, _⟩ := h; rfl) | (obtain ⟨_, _, _, _, rfl, _⟩ := h; rfl) | (obtain ⟨_, _, _, _, _, rfl, _⟩ := h; rfl) | (obtain ⟨_, _, _, _, _, _, rfl, _⟩ := h; rfl) | (obtain ⟨_, _, _, _, _, _, _, rfl, _⟩ := h; rfl) | (obtain ⟨_, _, _, _, _, _, _, _, rfl, _⟩ := h; rfl)) fun cdv A outer s H E hr => ⟨t_doubled K, (pss_one (ps_ret (pe_callB (cr_sum rfl) rfl T.n_sum (by decide +kernel) (pa_cons (pe_lc (own := [("one", 1), ("other", 2)]) rfl sc_doubled.nd (pi_any (pe_cal c_sides_of (hr.mono (by decide)) rfl (pa_cons (pv 0) pa_nil))) (blkOk_by (own := [("one", 1), ("other", 2)]) (N := N_doubled) (sc := defScope sS_doubled) (by decide +kernel)) (fun _ _ _ _ _ => (pg_tup rfl (pgs_cons (pg_name (i := 1) sc_doubled.nd rfl (Or.inl rfl)) (pgs_cons (pg_name (i := 2) sc_doubled.nd rfl (Or.inl rfl)) pgs_nil)))) (fun _ _ _ _ _ => pts_nil) (fun _ _ _ _ _ => (pe_op o_sub (pe_op o_mul (pe_ix ix_seq (pv 1) pe_int (fun _ _ => rfl)) (pe_ix ix_seq (pv 2) pe_int (fun _ _ => rfl))) (pe_op o_mul (pe_ix ix_seq (pv 1) pe_int (fun _ _ => rfl)) (pe_ix ix_seq (pv 2) pe_int (fun _ _ => rfl)))))) pa_nil)))), body_doubled⟩
abbrev sS_points_on : Stmt := topS 44
theorem sc_points_on : FnScope N_points_on ["figure"] (defScope sS_points_on) := ⟨rfl, rfl, rfl, by decide +kernel, rfl, by decide +kernel, by decide +kernel⟩
theorem ok_points_on (F : Fun K "points_on" "points_on" sS_points_on f fd) (T : Tx mg) (c_sides_of : Cal P w K mg base "sides_of" 1 (spP K S_sides_of)) (c_common : Cal P w K mg base "common" 1 (spP K S_common)) : FnOk P w K mg base CX0 2 f fd ["figure"] (spP K S_points_on) :=
  fn_pure F sc_points_on (fun ds p h => by first | (exact h.elim) | (obtain ⟨rfl, _⟩ := h; rfl) | (obtain ⟨_, rfl, _⟩ := h; rfl) | (obtain ⟨_, _, rfl, _⟩ := h; rfl) | (obtain ⟨_, _, _, rfl, _⟩ := h; rfl) | (obtain ⟨_, _, _, _, rfl, _⟩ := h; rfl) | (obtain ⟨_, _, _, _, _, rfl, _⟩ := h; rfl) | (obtain ⟨_, _, _, _, _, _, rfl, _⟩ := h; rfl) | (obtain ⟨_, _, _, _, _, _, _, rfl, _⟩ := h; rfl) | (obtain ⟨_, _, _, _, _, _, _, _, rfl, _⟩ := h; rfl)) fun cdv A outer s H E hr => ⟨t_points_on K, (pss_one (ps_ret (pe_callB (cr_sum rfl) rfl T.n_sum (by decide +kernel) (pa_cons (pe_lc (own := [("one", 1), ("other", 2)]) rfl sc_points_on.nd (pi_any (pe_cal c_sides_of (hr.mono (by decide)) rfl (pa_cons (pv 0) pa_nil))) (blkOk_by (own := [("one", 1), ("other", 2)]) (N := N_points_on) (sc := defScope sS_points_on) (by decide +kernel)) (fun _ _ _ _ _ => (pg_tup rfl (pgs_cons (pg_name (i := 1) sc_points_on.nd rfl (Or.inl rfl)) (pgs_cons (pg_name (i := 2) sc_points_on.nd rfl (Or.inl rfl)) pgs_nil)))) (fun _ _ _ _ _ => pts_nil) (fun _ _ _ _ _ => (pe_cal c_common (hr.mono (by decide)) rfl (pa_cons (pe_op o_sub (pe_ix ix_seq (pv 2) pe_int (fun _ _ => rfl)) (pe_ix ix_seq (pv 1) pe_int (fun _ _ => rfl))) (pa_cons (pe_op o_sub (pe_ix ix_seq (pv 2) pe_int (fun _ _ => rfl)) (pe_ix ix_seq (pv 1) pe_int (fun _ _ => rfl))) pa_nil))))) pa_nil)))), body_points_on⟩
abbrev sS__law_any : Stmt := topS 50
theorem sc__law_any : FnScope N__law_any ["hand", "some"] (defScope sS__law_any) := ⟨rfl, rfl, rfl, by decide +kernel, rfl, by decide +kernel, by decide +kernel⟩
theorem ok__law_any (F : Fun K "_law_any" "_law_any" sS__law_any f fd) (T : Tx mg) (c__law_draw : Cal P w K mg base "_law_draw" 1 (spH K S__law_draw)) : FnOk P w K mg base CX0 2 f fd ["hand", "some"] (spH K S__law_any) :=
  fn_hand F sc__law_any (fun hs ds p h => by first | (exact h.elim) | (obtain ⟨rfl, _⟩ := h; rfl) | (obtain ⟨_, rfl, _⟩ := h; rfl) | (obtain ⟨_, _, rfl, _⟩ := h; rfl) | (obtain ⟨_, _, _, rfl, _⟩ := h; rfl) | (obtain ⟨_, _, _, _, rfl, _⟩ := h; rfl) | (obtain ⟨_, _, _, _, _, rfl, _⟩ := h; rfl) | (obtain ⟨_, _, _, _, _, _, rfl, _⟩ := h; rfl) | (obtain ⟨_, _, _, _, _, _, _, rfl, _⟩ := h; rfl) | (obtain ⟨_, _, _, _, _, _, _, _, rfl, _⟩ := h; rfl)) fun cdv A outer s H E hr => ⟨t__law_any K, (pss_one (ps_ret (pe_ix ix_seq (pv 1) (pe_cal c__law_draw (hr.mono (by decide)) rfl (pa_cons (pv 0) (pa_cons (pe_callB b_len rfl T.n_len (by decide +kernel) (pa_cons (pv 1) pa_nil)) pa_nil))) (fun _ _ => rfl)))), body__law_any⟩
abbrev sS__law_pairs : Stmt := topS 52
theorem sc__law_pairs : FnScope N__law_pairs ["n"] (defScope sS__law_pairs) := ⟨rfl, rfl, rfl, by decide +kernel, rfl, by decide +kernel, by decide +kernel⟩
theorem ok__law_pairs (F : Fun K "_law_pairs" "_law_pairs" sS__law_pairs f fd) (T : Tx mg) (c__law_gcd : Cal P w K mg base "_law_gcd" 1 (spP K S__law_gcd)) : FnOk P w K mg base CX0 2 f fd ["n"] (spP K S__law_pairs) :=
  fn_pure F sc__law_pairs (fun ds p h => by first | (exact h.elim) | (obtain ⟨rfl, _⟩ := h; rfl) | (obtain ⟨_, rfl, _⟩ := h; rfl) | (obtain ⟨_, _, rfl, _⟩ := h; rfl) | (obtain ⟨_, _, _, rfl, _⟩ := h; rfl) | (obtain ⟨_, _, _, _, rfl, _⟩ := h; rfl) | (obtain ⟨_, _, _, _, _, rfl, _⟩ := h; rfl) | (obtain ⟨_, _, _, _, _, _, rfl, _⟩ := h; rfl) | (obtain ⟨_, _, _, _, _, _, _, rfl, _⟩ := h; rfl) | (obtain ⟨_, _, _, _, _, _, _, _, rfl, _⟩ := h; rfl)) fun cdv A outer s H E hr => ⟨t__law_pairs K, (pss_cons (ps_set (i := 1) sc__law_pairs.nd rfl (Or.inl rfl) (pe_lst pa_nil))
      (pss_cons (ps_for PassesOwn.never rfl (pi_range2 rfl T.n_range (pa_cons pe_int (pa_cons (pe_op o_add (pv 0) pe_int) pa_nil))) (pg_name (i := 2) sc__law_pairs.nd rfl (Or.inr rfl)) (pss_one (ps_expr (pe_bm PySem.F.plainAttrs_list PySem.F.slot_list_extend PySem.F.type_list_extend mt_extend (pv 1) (pa_cons (pe_lc (own := [("other", 3)]) rfl sc__law_pairs.nd (pi_range2 rfl T.n_range (pa_cons (pe_callB (b_max2 rfl) rfl T.n_max (by decide +kernel) (pa_cons pe_int (pa_cons (pe_op o_sub (pe_op o_add (pv 0) pe_int) (pv 2)) pa_nil))) (pa_cons (pe_op o_add (pv 0) pe_int) pa_nil))) (blkOk_by (own := [("other", 3)]) (N := N__law_pairs) (sc := defScope sS__law_pairs) (by decide +kernel)) (fun _ _ _ _ _ => (pg_name (i := 3) sc__law_pairs.nd rfl (Or.inl rfl))) (fun _ _ _ _ _ => (pts_one (pt_cmpR (op_eqD hr.units) (pe_cal c__law_gcd (hr.mono (by decide)) rfl (pa_cons (pv 2) (pa_cons (pv 3) pa_nil))) pe_int (nomark _)))) (fun _ _ _ _ _ => (pe_tup (pa_cons (pv 2) (pa_cons (pv 3) pa_nil))))) pa_nil)))))
      (pss_one (ps_ret (pv 1))))), body__law_pairs⟩
abbrev sS_check_ratio : Stmt := topS 14
theorem sc_check_ratio : FnScope N_check_ratio ["thing"] (defScope sS_check_ratio) := ⟨rfl, rfl, rfl, by decide +kernel, rfl, by decide +kernel, by decide +kernel⟩
theorem ok_check_ratio (F : Fun K "check_ratio" "check_ratio" sS_check_ratio f fd) (T : Tx mg) (c_is_ratio : Cal P w K mg base "is_ratio" 2 (spP K S_is_ratio)) : FnOk P w K mg base CX0 3 f fd ["thing"] (spP K S_check_ratio) :=
  fn_pure F sc_check_ratio (fun ds p h => by first | (exact h.elim) | (obtain ⟨rfl, _⟩ := h; rfl) | (obtain ⟨_, rfl, _⟩ := h; rfl) | (obtain ⟨_, _, rfl, _⟩ := h; rfl) | (obtain ⟨_, _, _, rfl, _⟩ := h; rfl) | (obtain ⟨_, _, _, _, rfl, _⟩ := h; rfl) | (obtain ⟨_, _, _, _, _, rfl, _⟩ := h; rfl) | (obtain ⟨_, _, _, _, _, _, rfl, _⟩ := h; rfl) | (obtain ⟨_, _, _, _, _, _, _, rfl, _⟩ := h; rfl) | (obtain ⟨_, _, _, _, _, _, _, _, rfl, _⟩ := h; rfl)) fun cdv A outer s H E hr => ⟨t_check_ratio K, (pss_one (ps_if (pt_not (pt_tr (pe_cal c_is_ratio (hr.mono (by decide)) rfl (pa_cons (pv 0) pa_nil)))) (pss_one ps_never) pss_nil)), body_check_ratio⟩
abbrev sS_check_count : Stmt := topS 19
theorem sc_check_count : FnScope N_check_count ["n", "most"] (defScope sS_check_count) := ⟨rfl, rfl, rfl, by decide +kernel, rfl, by decide +kernel, by decide +kernel⟩
theorem ok_check_count (F : Fun K "check_count" "check_count" sS_check_count f fd) (T : Tx mg) (c_is_within : Cal P w K mg base "is_within" 2 (spP K S_is_within)) : FnOk P w K mg base CX0 3 f fd ["n", "most"] (spP K S_check_count) :=
  fn_pure F sc_check_count (fun ds p h => by first | (exact h.elim) | (obtain ⟨rfl, _⟩ := h; rfl) | (obtain ⟨_, rfl, _⟩ := h; rfl) | (obtain ⟨_, _, rfl, _⟩ := h; rfl) | (obtain ⟨_, _, _, rfl, _⟩ := h; rfl) | (obtain ⟨_, _, _, _, rfl, _⟩ := h; rfl) | (obtain ⟨_, _, _, _, _, rfl, _⟩ := h; rfl) | (obtain ⟨_, _, _, _, _, _, rfl, _⟩ := h; rfl) | (obtain ⟨_, _, _, _, _, _, _, rfl, _⟩ := h; rfl) | (obtain ⟨_, _, _, _, _, _, _, _, rfl, _⟩ := h; rfl)) fun cdv A outer s H E hr => ⟨t_check_count K, (pss_one (ps_if (pt_not (pt_tr (pe_cal c_is_within (hr.mono (by decide)) rfl (pa_cons (pv 0) (pa_cons pe_int (pa_cons (pv 1) pa_nil)))))) (pss_one ps_never) pss_nil)), body_check_count⟩
abbrev sS_is_point : Stmt := topS 34
theorem sc_is_point : FnScope N_is_point ["thing"] (defScope sS_is_point) := ⟨rfl, rfl, rfl, by decide +kernel, rfl, by decide +kernel, by decide +kernel⟩
theorem ok_is_point (F : Fun K "is_point" "is_point" sS_is_point f fd) (T : Tx mg) (c_is_sized : Cal P w K mg base "is_sized" 1 (spP K S_is_sized)) (c_is_within : Cal P w K mg base "is_within" 2 (spP K S_is_within)) : FnOk P w K mg base CX0 3 f fd ["thing"] (spP K S_is_point) :=
  fn_pure F sc_is_point (fun ds p h => by first | (exact h.elim) | (obtain ⟨rfl, _⟩ := h; rfl) | (obtain ⟨_, rfl, _⟩ := h; rfl) | (obtain ⟨_, _, rfl, _⟩ := h; rfl) | (obtain ⟨_, _, _, rfl, _⟩ := h; rfl) | (obtain ⟨_, _, _, _, rfl, _⟩ := h; rfl) | (obtain ⟨_, _, _, _, _, rfl, _⟩ := h; rfl) | (obtain ⟨_, _, _, _, _, _, rfl, _⟩ := h; rfl) | (obtain ⟨_, _, _, _, _, _, _, rfl, _⟩ := h; rfl) | (obtain ⟨_, _, _, _, _, _, _, _, rfl, _⟩ := h; rfl)) fun cdv A outer s H E hr => ⟨t_is_point K, (pss_one (ps_ret (pe_andT (pe_cal c_is_sized (hr.mono (by decide)) rfl (pa_cons (pv 0) (pa_cons pe_int (pa_cons pe_int pa_nil)))) (pe_one (pe_callB (cr_all rfl) rfl T.n_all (by decide +kernel) (pa_cons (pe_lc (own := [("one", 1)]) rfl sc_is_point.nd (pi_any (pv 0)) (blkOk_by (own := [("one", 1)]) (N := N_is_point) (sc := defScope sS_is_point) (by decide +kernel)) (fun _ _ _ _ _ => (pg_name (i := 1) sc_is_point.nd rfl (Or.inl rfl))) (fun _ _ _ _ _ => pts_nil) (fun _ _ _ _ _ => (pe_cal c_is_within (hr.mono (by decide)) rfl (pa_cons (pv 1) (pa_cons (pe_op o_sub pe_int (T.p_MOST_PLACE rfl)) (pa_cons (pe_op o_sub (T.p_MOST_PLACE rfl) pe_int) pa_nil)))))) pa_nil)))))), body_is_point⟩
abbrev sS_do_meet : Stmt := topS 39
theorem sc_do_meet : FnScope N_do_meet ["a", "b", "c", "d"] (defScope sS_do_meet) := ⟨rfl, rfl, rfl, by decide +kernel, rfl, by decide +kernel, by decide +kernel⟩
theorem ok_do_meet (F : Fun K "do_meet" "do_meet" sS_do_meet f fd) (T : Tx mg) (c_lies_on : Cal P w K mg base "lies_on" 2 (spP K S_lies_on)) (c_sign_of : Cal P w K mg base "sign_of" 1 (spP K S_sign_of)) (c_turn_at : Cal P w K mg base "turn_at" 1 (spP K S_turn_at)) : FnOk P w K mg base CX0 3 f fd ["a", "b", "c", "d"] (spP K S_do_meet) :=
  fn_pure F sc_do_meet (fun ds p h => by first | (exact h.elim) | (obtain ⟨rfl, _⟩ := h; rfl) | (obtain ⟨_, rfl, _⟩ := h; rfl) | (obtain ⟨_, _, rfl, _⟩ := h; rfl) | (obtain ⟨_, _, _, rfl, _⟩ := h; rfl) | (obtain ⟨_, _, _, _, rfl, _⟩ := h; rfl) | (obtain ⟨_, _, _, _, _, rfl, _⟩ := h; rfl) | (obtain ⟨_, _, _, _, _, _, rfl, _⟩ := h; rfl) | (obtain ⟨_, _, _, _, _, _, _, rfl, _⟩ := h; rfl) | (obtain ⟨_, _, _, _, _, _, _, _, rfl, _⟩ := h; rfl)) fun cdv A outer s H E hr => ⟨t_do_meet K, (pss_cons (ps_if (PW.pt (pw_or (pt_tr (pe_cal c_lies_on (hr.mono (by decide)) rfl (pa_cons (pv 0) (pa_cons (pv 1) (pa_cons (pv 2) pa_nil))))) (pw_or (pt_tr (pe_cal c_lies_on (hr.mono (by decide)) rfl (pa_cons (pv 0) (pa_cons (pv 1) (pa_cons (pv 3) pa_nil))))) (pw_or (pt_tr (pe_cal c_lies_on (hr.mono (by decide)) rfl (pa_cons (pv 2) (pa_cons (pv 3) (pa_cons (pv 0) pa_nil))))) (pw_or1 (pt_tr (pe_cal c_lies_on (hr.mono (by decide)) rfl (pa_cons (pv 2) (pa_cons (pv 3) (pa_cons (pv 1) pa_nil)))))))))) (pss_one (ps_ret pe_bl)) pss_nil)
      (pss_cons (ps_set (i := 4) sc_do_meet.nd rfl (Or.inl rfl) (pe_op o_mul (pe_cal c_sign_of (hr.mono (by decide)) rfl (pa_cons (pe_cal c_turn_at (hr.mono (by decide)) rfl (pa_cons (pv 0) (pa_cons (pv 1) (pa_cons (pv 2) pa_nil)))) pa_nil)) (pe_cal c_sign_of (hr.mono (by decide)) rfl (pa_cons (pe_cal c_turn_at (hr.mono (by decide)) rfl (pa_cons (pv 0) (pa_cons (pv 1) (pa_cons (pv 3) pa_nil)))) pa_nil))))
      (pss_one (ps_ret (pe_andT (pe_cmpR o_lt (pv 4) pe_int (nomark _)) (pe_one (pe_cmpR o_lt (pe_op o_mul (pe_cal c_sign_of (hr.mono (by decide)) rfl (pa_cons (pe_cal c_turn_at (hr.mono (by decide)) rfl (pa_cons (pv 2) (pa_cons (pv 3) (pa_cons (pv 0) pa_nil)))) pa_nil)) (pe_cal c_sign_of (hr.mono (by decide)) rfl (pa_cons (pe_cal c_turn_at (hr.mono (by decide)) rfl (pa_cons (pv 2) (pa_cons (pv 3) (pa_cons (pv 1) pa_nil)))) pa_nil))) pe_int (nomark _)))))))), body_do_meet⟩
abbrev sS_check_ratios : Stmt := topS 15
theorem sc_check_ratios : FnScope N_check_ratios ["one", "other"] (defScope sS_check_ratios) := ⟨rfl, rfl, rfl, by decide +kernel, rfl, by decide +kernel, by decide +kernel⟩
theorem ok_check_ratios (F : Fun K "check_ratios" "check_ratios" sS_check_ratios f fd) (T : Tx mg) (c_check_ratio : Cal P w K mg base "check_ratio" 3 (spP K S_check_ratio)) : FnOk P w K mg base CX0 4 f fd ["one", "other"] (spP K S_check_ratios) :=
  fn_pure F sc_check_ratios (fun ds p h => by first | (exact h.elim) | (obtain ⟨rfl, _⟩ := h; rfl) | (obtain ⟨_, rfl, _⟩ := h; rfl) | (obtain ⟨_, _, rfl, _⟩ := h; rfl) | (obtain ⟨_, _, _, rfl, _⟩ := h; rfl) | (obtain ⟨_, _, _, _, rfl, _⟩ := h; rfl) | (obtain ⟨_, _, _, _, _, rfl, _⟩ := h; rfl) | (obtain ⟨_, _, _, _, _, _, rfl, _⟩ := h; rfl) | (obtain ⟨_, _, _, _, _, _, _, rfl, _⟩ := h; rfl) | (obtain ⟨_, _, _, _, _, _, _, _, rfl, _⟩ := h; rfl)) fun cdv A outer s H E hr => ⟨t_check_ratios K, (pss_cons (ps_expr (pe_cal c_check_ratio (hr.mono (by decide)) rfl (pa_cons (pv 0) pa_nil)))
      (pss_one (ps_expr (pe_cal c_check_ratio (hr.mono (by decide)) rfl (pa_cons (pv 1) pa_nil))))), body_check_ratios⟩
abbrev sS_row_count : Stmt := topS 21
theorem sc_row_count : FnScope N_row_count ["n"] (defScope sS_row_count) := ⟨rfl, rfl, rfl, by decide +kernel, rfl, by decide +kernel, by decide +kernel⟩
theorem ok_row_count (F : Fun K "row_count" "row_count" sS_row_count f fd) (T : Tx mg) (c_check_count : Cal P w K mg base "check_count" 3 (spP K S_check_count)) (c_unlike_counts : Cal P w K mg base "unlike_counts" 1 (spP K S_unlike_counts)) : FnOk P w K mg base CX0 4 f fd ["n"] (spP K S_row_count) :=
  fn_pure F sc_row_count (fun ds p h => by first | (exact h.elim) | (obtain ⟨rfl, _⟩ := h; rfl) | (obtain ⟨_, rfl, _⟩ := h; rfl) | (obtain ⟨_, _, rfl, _⟩ := h; rfl) | (obtain ⟨_, _, _, rfl, _⟩ := h; rfl) | (obtain ⟨_, _, _, _, rfl, _⟩ := h; rfl) | (obtain ⟨_, _, _, _, _, rfl, _⟩ := h; rfl) | (obtain ⟨_, _, _, _, _, _, rfl, _⟩ := h; rfl) | (obtain ⟨_, _, _, _, _, _, _, rfl, _⟩ := h; rfl) | (obtain ⟨_, _, _, _, _, _, _, _, rfl, _⟩ := h; rfl)) fun cdv A outer s H E hr => ⟨t_row_count K, (pss_cons (ps_expr (pe_cal c_check_count (hr.mono (by decide)) rfl (pa_cons (pv 0) (pa_cons (T.p_MOST_ROW rfl) pa_nil))))
      (pss_one (ps_ret (pe_op o_add pe_int (pe_callB (cr_sum rfl) rfl T.n_sum (by decide +kernel) (pa_cons (pe_slice sl_any (pe_cal c_unlike_counts (hr.mono (by decide)) rfl (pa_cons (pv 0) pa_nil)) (po_some pe_int) po_none) pa_nil)))))), body_row_count⟩
abbrev sS_with_bottom : Stmt := topS 22
theorem sc_with_bottom : FnScope N_with_bottom ["n"] (defScope sS_with_bottom) := ⟨rfl, rfl, rfl, by decide +kernel, rfl, by decide +kernel, by decide +kernel⟩
theorem ok_with_bottom (F : Fun K "with_bottom" "with_bottom" sS_with_bottom f fd) (T : Tx mg) (c_check_count : Cal P w K mg base "check_count" 3 (spP K S_check_count)) (c_unlike_counts : Cal P w K mg base "unlike_counts" 1 (spP K S_unlike_counts)) : FnOk P w K mg base CX0 4 f fd ["n"] (spP K S_with_bottom) :=
  fn_pure F sc_with_bottom (fun ds p h => by first | (exact h.elim) | (obtain ⟨rfl, _⟩ := h; rfl) | (obtain ⟨_, rfl, _⟩ := h; rfl) | (obtain ⟨_, _, rfl, _⟩ := h; rfl) | (obtain ⟨_, _, _, rfl, _⟩ := h; rfl) | (obtain ⟨_, _, _, _, rfl, _⟩ := h; rfl) | (obtain ⟨_, _, _, _, _, rfl, _⟩ := h; rfl) | (obtain ⟨_, _, _, _, _, _, rfl, _⟩ := h; rfl) | (obtain ⟨_, _, _, _, _, _, _, rfl, _⟩ := h; rfl) | (obtain ⟨_, _, _, _, _, _, _, _, rfl, _⟩ := h; rfl)) fun cdv A outer s H E hr => ⟨t_with_bottom K, (pss_cons (ps_expr (pe_cal c_check_count (hr.mono (by decide)) rfl (pa_cons (pv 0) (pa_cons (T.p_MOST_ROW rfl) pa_nil))))
      (pss_one (ps_ret (pe_ifExp (pt_cmpR (op_eqD hr.units) (pv 0) pe_int (nomark _)) pe_int (pe_ix ix_seq (pe_cal c_unlike_counts (hr.mono (by decide)) rfl (pa_cons (pv 0) pa_nil)) (pv 0) (fun _ _ => rfl)))))), body_with_bottom⟩
abbrev sS_row_of : Stmt := topS 26
theorem sc_row_of : FnScope N_row_of ["n"] (defScope sS_row_of) := ⟨rfl, rfl, rfl, by decide +kernel, rfl, by decide +kernel, by decide +kernel⟩
theorem ok_row_of (F : Fun K "row_of" "row_of" sS_row_of f fd) (T : Tx mg) (c_check_count : Cal P w K mg base "check_count" 3 (spP K S_check_count)) (c_next_of : Cal P w K mg base "next_of" 2 (spP K S_next_of)) : FnOk P w K mg base CX0 4 f fd ["n"] (spP K S_row_of) :=
  fn_pure F sc_row_of (fun ds p h => by first | (exact h.elim) | (obtain ⟨rfl, _⟩ := h; rfl) | (obtain ⟨_, rfl, _⟩ := h; rfl) | (obtain ⟨_, _, rfl, _⟩ := h; rfl) | (obtain ⟨_, _, _, rfl, _⟩ := h; rfl) | (obtain ⟨_, _, _, _, rfl, _⟩ := h; rfl) | (obtain ⟨_, _, _, _, _, rfl, _⟩ := h; rfl) | (obtain ⟨_, _, _, _, _, _, rfl, _⟩ := h; rfl) | (obtain ⟨_, _, _, _, _, _, _, rfl, _⟩ := h; rfl) | (obtain ⟨_, _, _, _, _, _, _, _, rfl, _⟩ := h; rfl)) fun cdv A outer s H E hr => ⟨t_row_of K, (pss_cons (ps_expr (pe_cal c_check_count (hr.mono (by decide)) rfl (pa_cons (pv 0) (pa_cons (T.p_MOST_SHOWN rfl) pa_nil))))
      (pss_cons (ps_set (i := 1) sc_row_of.nd rfl (Or.inl rfl) (pe_lst (pa_cons (pe_tup (pa_cons pe_int (pa_cons pe_int pa_nil))) pa_nil)))
      (pss_cons (ps_while PassesOwn.never (pt_cmpR (op_neD hr.units) (pe_ix ix_seq (pv 1) (pe_un o_neg pe_int) (fun _ _ => rfl)) (pe_tup (pa_cons pe_int (pa_cons pe_int pa_nil))) (nomark _)) (pss_one (ps_expr (pe_bm PySem.F.plainAttrs_list PySem.F.slot_list_append PySem.F.type_list_append mt_append (pv 1) (pa_cons (pe_cal c_next_of (hr.mono (by decide)) rfl (pa_cons (pv 0) (pa_cons (pe_ix ix_seq (pv 1) (pe_un o_neg pe_int) (fun _ _ => rfl)) pa_nil))) pa_nil)))))
      (pss_one (ps_ret (pe_callTy b_tuple rfl T.n_tuple (by decide +kernel) (pa_cons (pv 1) pa_nil))))))), body_row_of⟩
abbrev sS_check_in : Stmt := topS 27
theorem sc_check_in : FnScope N_check_in ["n", "ratio"] (defScope sS_check_in) := ⟨rfl, rfl, rfl, by decide +kernel, rfl, by decide +kernel, by decide +kernel⟩
theorem ok_check_in (F : Fun K "check_in" "check_in" sS_check_in f fd) (T : Tx mg) (c_check_count : Cal P w K mg base "check_count" 3 (spP K S_check_count)) (c_is_ratio : Cal P w K mg base "is_ratio" 2 (spP K S_is_ratio)) : FnOk P w K mg base CX0 4 f fd ["n", "ratio"] (spP K S_check_in) :=
  fn_pure F sc_check_in (fun ds p h => by first | (exact h.elim) | (obtain ⟨rfl, _⟩ := h; rfl) | (obtain ⟨_, rfl, _⟩ := h; rfl) | (obtain ⟨_, _, rfl, _⟩ := h; rfl) | (obtain ⟨_, _, _, rfl, _⟩ := h; rfl) | (obtain ⟨_, _, _, _, rfl, _⟩ := h; rfl) | (obtain ⟨_, _, _, _, _, rfl, _⟩ := h; rfl) | (obtain ⟨_, _, _, _, _, _, rfl, _⟩ := h; rfl) | (obtain ⟨_, _, _, _, _, _, _, rfl, _⟩ := h; rfl) | (obtain ⟨_, _, _, _, _, _, _, _, rfl, _⟩ := h; rfl)) fun cdv A outer s H E hr => ⟨t_check_in K, (pss_cons (ps_expr (pe_cal c_check_count (hr.mono (by decide)) rfl (pa_cons (pv 0) (pa_cons (T.p_MOST_ROW rfl) pa_nil))))
      (pss_one (ps_if (PW.pt (pw_or (pt_not (pt_tr (pe_cal c_is_ratio (hr.mono (by decide)) rfl (pa_cons (pv 1) pa_nil)))) (pw_or1 (pt_not (pt_chain3 o_le o_le o_le pe_int (pe_ix ix_seq (pv 1) pe_int (fun _ _ => rfl)) (pe_ix ix_seq (pv 1) pe_int (fun _ _ => rfl)) (pv 0)))))) (pss_one ps_never) pss_nil))), body_check_in⟩
abbrev sS_is_figure : Stmt := topS 41
theorem sc_is_figure : FnScope N_is_figure ["thing"] (defScope sS_is_figure) := ⟨rfl, rfl, rfl, by decide +kernel, rfl, by decide +kernel, by decide +kernel⟩
theorem ok_is_figure (F : Fun K "is_figure" "is_figure" sS_is_figure f fd) (T : Tx mg) (c_is_sized : Cal P w K mg base "is_sized" 1 (spP K S_is_sized)) (c_is_point : Cal P w K mg base "is_point" 3 (spP K S_is_point)) (c_doubled : Cal P w K mg base "doubled" 2 (spP K S_doubled)) (c_turn_at : Cal P w K mg base "turn_at" 1 (spP K S_turn_at)) (c_sides_of : Cal P w K mg base "sides_of" 1 (spP K S_sides_of)) (c_do_meet : Cal P w K mg base "do_meet" 3 (spP K S_do_meet)) : FnOk P w K mg base CX0 4 f fd ["thing"] (spF K S_is_figure) :=
  fn_frz F sc_is_figure fun cdv A outer s H E hr => ⟨t_is_figure K, (pss_cons (ps_if (PW.pt (pw_or (pt_not (pt_tr (pe_cal c_is_sized (hr.mono (by decide)) rfl (pa_cons (pv 0) (pa_cons pe_int (pa_cons pe_int pa_nil)))))) (pw_or1 (pt_not (pt_tr (pe_callB (cr_all rfl) rfl T.n_all (by decide +kernel) (pa_cons (pe_lc (own := [("one", 5)]) rfl sc_is_figure.nd (pi_any (pv 0)) (blkOk_by (own := [("one", 5)]) (N := N_is_figure) (sc := defScope sS_is_figure) (by decide +kernel)) (fun _ _ _ _ _ => (pg_name (i := 5) sc_is_figure.nd rfl (Or.inl rfl))) (fun _ _ _ _ _ => pts_nil) (fun _ _ _ _ _ => (pe_cal c_is_point (hr.mono (by decide)) rfl (pa_cons (pv 5) pa_nil)))) pa_nil))))))) (pss_one (ps_ret pe_bl)) pss_nil)
      (pss_cons (ps_if (PW.pt (pw_or (pt_tr (pe_callB (cr_any rfl) rfl T.n_any (by decide +kernel) (pa_cons (pe_lc (own := [("one", 5)]) rfl sc_is_figure.nd (pi_any (pv 0)) (blkOk_by (own := [("one", 5)]) (N := N_is_figure) (sc := defScope sS_is_figure) (by decide +kernel)) (fun _ _ _ _ _ => (pg_name (i := 5) sc_is_figure.nd rfl (Or.inl rfl))) (fun _ _ _ _ _ => pts_nil) (fun _ _ _ _ _ => (pe_cmpR o_gt (pe_tcount hr.units (pv 0) (pa_cons (pv 5) pa_nil)) pe_int (nomark _)))) pa_nil))) (pw_or1 (pt_cmpR o_le (pe_cal c_doubled (hr.mono (by decide)) rfl (pa_cons (pv 0) pa_nil)) pe_int (nomark _))))) (pss_one (ps_ret pe_bl)) pss_nil)
      (pss_cons (ps_set (i := 1) sc_is_figure.nd rfl (Or.inl rfl) (pe_callB b_len rfl T.n_len (by decide +kernel) (pa_cons (pv 0) pa_nil)))
      (pss_cons (ps_if (pt_tr (pe_callB (cr_any rfl) rfl T.n_any (by decide +kernel) (pa_cons (pe_lc (own := [("at", 3)]) rfl sc_is_figure.nd (pi_range1 rfl T.n_range (pa_cons (pv 1) pa_nil)) (blkOk_by (own := [("at", 3)]) (N := N_is_figure) (sc := defScope sS_is_figure) (by decide +kernel)) (fun _ _ _ _ _ => (pg_name (i := 3) sc_is_figure.nd rfl (Or.inl rfl))) (fun _ _ _ _ _ => pts_nil) (fun _ _ _ _ _ => (pe_cmpR (op_eqD hr.units) (pe_cal c_turn_at (hr.mono (by decide)) rfl (pa_cons (pe_ix ix_seq (pv 0) (pe_op o_sub (pv 3) pe_int) (fun _ _ => rfl)) (pa_cons (pe_ix ix_seq (pv 0) (pe_op o_sub (pv 3) pe_int) (fun _ _ => rfl)) (pa_cons (pe_ix ix_seq (pv 0) (pv 3) (fun _ _ => rfl)) pa_nil)))) pe_int (nomark _)))) pa_nil))) (pss_one (ps_ret pe_bl)) pss_nil)
      (pss_cons (ps_set (i := 2) sc_is_figure.nd rfl (Or.inl rfl) (pe_cal c_sides_of (hr.mono (by decide)) rfl (pa_cons (pv 0) pa_nil)))
      (pss_cons (ps_for PassesOwn.never rfl (pi_range1 rfl T.n_range (pa_cons (pv 1) pa_nil)) (pg_name (i := 3) sc_is_figure.nd rfl (Or.inl rfl)) (pss_one (ps_for PassesOwn.never rfl (pi_range2 rfl T.n_range (pa_cons (pe_op o_add (pv 3) pe_int) (pa_cons (pv 1) pa_nil))) (pg_name (i := 4) sc_is_figure.nd rfl (Or.inl rfl)) (pss_one (ps_if (PW.pt (pw_and (pt_cmpR (op_neD hr.units) (pe_tup (pa_cons (pv 3) (pa_cons (pv 4) pa_nil))) (pe_tup (pa_cons pe_int (pa_cons (pe_op o_sub (pv 1) pe_int) pa_nil))) (nomark _)) (pw_and1 (pt_tr (pe_cal c_do_meet (hr.mono (by decide)) rfl (pa_cons (pe_ix ix_seq (pe_ix ix_seq (pv 2) (pv 3) (fun _ _ => rfl)) pe_int (fun _ _ => rfl)) (pa_cons (pe_ix ix_seq (pe_ix ix_seq (pv 2) (pv 3) (fun _ _ => rfl)) pe_int (fun _ _ => rfl)) (pa_cons (pe_ix ix_seq (pe_ix ix_seq (pv 2) (pv 4) (fun _ _ => rfl)) pe_int (fun _ _ => rfl)) (pa_cons (pe_ix ix_seq (pe_ix ix_seq (pv 2) (pv 4) (fun _ _ => rfl)) pe_int (fun _ _ => rfl)) pa_nil))))))))) (pss_one (ps_ret pe_bl)) pss_nil)))))
      (pss_one (ps_ret pe_bl)))))))), body_is_figure⟩
abbrev sS_next_in : Stmt := topS 28
theorem sc_next_in : FnScope N_next_in ["n", "ratio"] (defScope sS_next_in) := ⟨rfl, rfl, rfl, by decide +kernel, rfl, by decide +kernel, by decide +kernel⟩
theorem ok_next_in (F : Fun K "next_in" "next_in" sS_next_in f fd) (T : Tx mg) (c_check_in : Cal P w K mg base "check_in" 4 (spP K S_check_in)) (c_next_of : Cal P w K mg base "next_of" 2 (spP K S_next_of)) : FnOk P w K mg base CX0 5 f fd ["n", "ratio"] (spP K S_next_in) :=
  fn_pure F sc_next_in (fun ds p h => by first | (exact h.elim) | (obtain ⟨rfl, _⟩ := h; rfl) | (obtain ⟨_, rfl, _⟩ := h; rfl) | (obtain ⟨_, _, rfl, _⟩ := h; rfl) | (obtain ⟨_, _, _, rfl, _⟩ := h; rfl) | (obtain ⟨_, _, _, _, rfl, _⟩ := h; rfl) | (obtain ⟨_, _, _, _, _, rfl, _⟩ := h; rfl) | (obtain ⟨_, _, _, _, _, _, rfl, _⟩ := h; rfl) | (obtain ⟨_, _, _, _, _, _, _, rfl, _⟩ := h; rfl) | (obtain ⟨_, _, _, _, _, _, _, _, rfl, _⟩ := h; rfl)) fun cdv A outer s H E hr => ⟨t_next_in K, (pss_cons (ps_expr (pe_cal c_check_in (hr.mono (by decide)) rfl (pa_cons (pv 0) (pa_cons (pv 1) pa_nil))))
      (pss_one (ps_ret (pe_cal c_next_of (hr.mono (by decide)) rfl (pa_cons (pv 0) (pa_cons (pv 1) pa_nil)))))), body_next_in⟩
abbrev sS_before_in : Stmt := topS 29
theorem sc_before_in : FnScope N_before_in ["n", "ratio"] (defScope sS_before_in) := ⟨rfl, rfl, rfl, by decide +kernel, rfl, by decide +kernel, by decide +kernel⟩
theorem ok_before_in (F : Fun K "before_in" "before_in" sS_before_in f fd) (T : Tx mg) (c_check_in : Cal P w K mg base "check_in" 4 (spP K S_check_in)) (c_next_of : Cal P w K mg base "next_of" 2 (spP K S_next_of)) : FnOk P w K mg base CX0 5 f fd ["n", "ratio"] (spP K S_before_in) :=
  fn_pure F sc_before_in (fun ds p h => by first | (exact h.elim) | (obtain ⟨rfl, _⟩ := h; rfl) | (obtain ⟨_, rfl, _⟩ := h; rfl) | (obtain ⟨_, _, rfl, _⟩ := h; rfl) | (obtain ⟨_, _, _, rfl, _⟩ := h; rfl) | (obtain ⟨_, _, _, _, rfl, _⟩ := h; rfl) | (obtain ⟨_, _, _, _, _, rfl, _⟩ := h; rfl) | (obtain ⟨_, _, _, _, _, _, rfl, _⟩ := h; rfl) | (obtain ⟨_, _, _, _, _, _, _, rfl, _⟩ := h; rfl) | (obtain ⟨_, _, _, _, _, _, _, _, rfl, _⟩ := h; rfl)) fun cdv A outer s H E hr => ⟨t_before_in K, (pss_cons (ps_expr (pe_cal c_check_in (hr.mono (by decide)) rfl (pa_cons (pv 0) (pa_cons (pv 1) pa_nil))))
      (pss_cons (ps_set (i := 2) sc_before_in.nd rfl (Or.inl rfl) (pe_cal c_next_of (hr.mono (by decide)) rfl (pa_cons (pv 0) (pa_cons (pe_tup (pa_cons (pe_op o_sub (pe_ix ix_seq (pv 1) pe_int (fun _ _ => rfl)) (pe_ix ix_seq (pv 1) pe_int (fun _ _ => rfl))) (pa_cons (pe_ix ix_seq (pv 1) pe_int (fun _ _ => rfl)) pa_nil))) pa_nil))))
      (pss_one (ps_ret (pe_ifExp (pt_cmpR o_isN (pv 2) pe_non (nomark _)) pe_non (pe_tup (pa_cons (pe_op o_sub (pe_ix ix_seq (pv 2) pe_int (fun _ _ => rfl)) (pe_ix ix_seq (pv 2) pe_int (fun _ _ => rfl))) (pa_cons (pe_ix ix_seq (pv 2) pe_int (fun _ _ => rfl)) pa_nil)))))))), body_before_in⟩
abbrev sS_circles : Stmt := topS 31
theorem sc_circles : FnScope N_circles ["one", "other"] (defScope sS_circles) := ⟨rfl, rfl, rfl, by decide +kernel, rfl, by decide +kernel, by decide +kernel⟩
theorem ok_circles (F : Fun K "circles" "circles" sS_circles f fd) (T : Tx mg) (c_check_ratios : Cal P w K mg base "check_ratios" 4 (spP K S_check_ratios)) (c_cross : Cal P w K mg base "cross" 1 (spP K S_cross)) : FnOk P w K mg base CX0 5 f fd ["one", "other"] (spP K S_circles) :=
  fn_pure F sc_circles (fun ds p h => by first | (exact h.elim) | (obtain ⟨rfl, _⟩ := h; rfl) | (obtain ⟨_, rfl, _⟩ := h; rfl) | (obtain ⟨_, _, rfl, _⟩ := h; rfl) | (obtain ⟨_, _, _, rfl, _⟩ := h; rfl) | (obtain ⟨_, _, _, _, rfl, _⟩ := h; rfl) | (obtain ⟨_, _, _, _, _, rfl, _⟩ := h; rfl) | (obtain ⟨_, _, _, _, _, _, rfl, _⟩ := h; rfl) | (obtain ⟨_, _, _, _, _, _, _, rfl, _⟩ := h; rfl) | (obtain ⟨_, _, _, _, _, _, _, _, rfl, _⟩ := h; rfl)) fun cdv A outer s H E hr => ⟨t_circles K, (pss_cons (ps_expr (pe_cal c_check_ratios (hr.mono (by decide)) rfl (pa_cons (pv 0) (pa_cons (pv 1) pa_nil))))
      (pss_cons (ps_if (pt_cmpR (op_eqD hr.units) (pv 0) (pv 1) (nomark _)) (pss_one (ps_ret pe_str)) pss_nil)
      (pss_one (ps_ret (pe_ifExp (pt_cmpR (op_eqD hr.units) (pe_cal c_cross (hr.mono (by decide)) rfl (pa_cons (pv 0) (pa_cons (pv 1) pa_nil))) pe_int (nomark _)) pe_str pe_str))))), body_circles⟩
abbrev sS_check_figure : Stmt := topS 42
theorem sc_check_figure : FnScope N_check_figure ["figure"] (defScope sS_check_figure) := ⟨rfl, rfl, rfl, by decide +kernel, rfl, by decide +kernel, by decide +kernel⟩
theorem ok_check_figure (F : Fun K "check_figure" "check_figure" sS_check_figure f fd) (T : Tx mg) (c_is_figure : Cal P w K mg base "is_figure" 4 (spF K S_is_figure)) : FnOk P w K mg base CX0 5 f fd ["figure"] (spF K S_check_figure) :=
  fn_frz F sc_check_figure fun cdv A outer s H E hr => ⟨t_check_figure K, (pss_one (ps_if (pt_not (pt_tr (pe_cal c_is_figure (hr.mono (by decide)) rfl (pa_cons (pv 0) pa_nil)))) (pss_one ps_never) pss_nil)), body_check_figure⟩
abbrev sS_double_area : Stmt := topS 43
theorem sc_double_area : FnScope N_double_area ["figure"] (defScope sS_double_area) := ⟨rfl, rfl, rfl, by decide +kernel, rfl, by decide +kernel, by decide +kernel⟩
theorem ok_double_area (F : Fun K "double_area" "double_area" sS_double_area f fd) (T : Tx mg) (c_check_figure : Cal P w K mg base "check_figure" 5 (spF K S_check_figure)) (c_doubled : Cal P w K mg base "doubled" 2 (spP K S_doubled)) : FnOk P w K mg base CX0 6 f fd ["figure"] (spF K S_double_area) :=
  fn_frz F sc_double_area fun cdv A outer s H E hr => ⟨t_double_area K, (pss_cons (ps_expr (pe_cal c_check_figure (hr.mono (by decide)) rfl (pa_cons (pv 0) pa_nil)))
      (pss_one (ps_ret (pe_cal c_doubled (hr.mono (by decide)) rfl (pa_cons (pv 0) pa_nil))))), body_double_area⟩
abbrev sS_on_sides : Stmt := topS 45
theorem sc_on_sides : FnScope N_on_sides ["figure"] (defScope sS_on_sides) := ⟨rfl, rfl, rfl, by decide +kernel, rfl, by decide +kernel, by decide +kernel⟩
theorem ok_on_sides (F : Fun K "on_sides" "on_sides" sS_on_sides f fd) (T : Tx mg) (c_check_figure : Cal P w K mg base "check_figure" 5 (spF K S_check_figure)) (c_points_on : Cal P w K mg base "points_on" 2 (spP K S_points_on)) : FnOk P w K mg base CX0 6 f fd ["figure"] (spF K S_on_sides) :=
  fn_frz F sc_on_sides fun cdv A outer s H E hr => ⟨t_on_sides K, (pss_cons (ps_expr (pe_cal c_check_figure (hr.mono (by decide)) rfl (pa_cons (pv 0) pa_nil)))
      (pss_one (ps_ret (pe_cal c_points_on (hr.mono (by decide)) rfl (pa_cons (pv 0) pa_nil))))), body_on_sides⟩
abbrev sS_inside : Stmt := topS 46
theorem sc_inside : FnScope N_inside ["figure"] (defScope sS_inside) := ⟨rfl, rfl, rfl, by decide +kernel, rfl, by decide +kernel, by decide +kernel⟩
theorem ok_inside (F : Fun K "inside" "inside" sS_inside f fd) (T : Tx mg) (c_check_figure : Cal P w K mg base "check_figure" 5 (spF K S_check_figure)) (c_doubled : Cal P w K mg base "doubled" 2 (spP K S_doubled)) (c_points_on : Cal P w K mg base "points_on" 2 (spP K S_points_on)) : FnOk P w K mg base CX0 6 f fd ["figure"] (spF K S_inside) :=
  fn_frz F sc_inside fun cdv A outer s H E hr => ⟨t_inside K, (pss_cons (ps_expr (pe_cal c_check_figure (hr.mono (by decide)) rfl (pa_cons (pv 0) pa_nil)))
      (pss_one (ps_ret (pe_op o_div (pe_op o_add (pe_op o_sub (pe_cal c_doubled (hr.mono (by decide)) rfl (pa_cons (pv 0) pa_nil)) (pe_cal c_points_on (hr.mono (by decide)) rfl (pa_cons (pv 0) pa_nil))) pe_int) pe_int)))), body_inside⟩
abbrev sS__law_is_count_right : Stmt := topS 54
theorem sc__law_is_count_right : FnScope N__law_is_count_right ["hand"] (defScope sS__law_is_count_right) := ⟨rfl, rfl, rfl, by decide +kernel, rfl, by decide +kernel, by decide +kernel⟩
theorem ok__law_is_count_right (F : Fun K "_law_is_count_right" "_law_is_count_right" sS__law_is_count_right f fd) (T : Tx mg) (c__law_draw : Cal P w K mg base "_law_draw" 1 (spH K S__law_draw)) (c__law_gcd : Cal P w K mg base "_law_gcd" 1 (spP K S__law_gcd)) (c_with_bottom : Cal P w K mg base "with_bottom" 4 (spP K S_with_bottom)) (c_row_count : Cal P w K mg base "row_count" 4 (spP K S_row_count)) (c__law_any : Cal P w K mg base "_law_any" 2 (spH K S__law_any)) (c_next_in : Cal P w K mg base "next_in" 5 (spP K S_next_in)) (c_before_in : Cal P w K mg base "before_in" 5 (spP K S_before_in)) : FnOk P w K mg base CX0 6 f fd ["hand"] (spH K S__law_is_count_right) :=
  fn_hand F sc__law_is_count_right (fun hs ds p h => by first | (exact h.elim) | (obtain ⟨rfl, _⟩ := h; rfl) | (obtain ⟨_, rfl, _⟩ := h; rfl) | (obtain ⟨_, _, rfl, _⟩ := h; rfl) | (obtain ⟨_, _, _, rfl, _⟩ := h; rfl) | (obtain ⟨_, _, _, _, rfl, _⟩ := h; rfl) | (obtain ⟨_, _, _, _, _, rfl, _⟩ := h; rfl) | (obtain ⟨_, _, _, _, _, _, rfl, _⟩ := h; rfl) | (obtain ⟨_, _, _, _, _, _, _, rfl, _⟩ := h; rfl) | (obtain ⟨_, _, _, _, _, _, _, _, rfl, _⟩ := h; rfl)) fun cdv A outer s H E hr => ⟨t__law_is_count_right K, (pss_cons (ps_set (i := 1) sc__law_is_count_right.nd rfl (Or.inr rfl) (pe_op o_add pe_int (pe_cal c__law_draw (hr.mono (by decide)) rfl (pa_cons (pv 0) (pa_cons pe_int pa_nil)))))
      (pss_cons (ps_set (i := 2) sc__law_is_count_right.nd rfl (Or.inl rfl) (pe_callB b_len rfl T.n_len (by decide +kernel) (pa_cons (pe_lc (own := [("one", 3)]) rfl sc__law_is_count_right.nd (pi_range2 rfl T.n_range (pa_cons pe_int (pa_cons (pe_op o_add (pv 1) pe_int) pa_nil))) (blkOk_by (own := [("one", 3)]) (N := N__law_is_count_right) (sc := defScope sS__law_is_count_right) (by decide +kernel)) (fun _ _ _ _ _ => (pg_name (i := 3) sc__law_is_count_right.nd rfl (Or.inl rfl))) (fun _ _ _ _ _ => (pts_one (pt_cmpR (op_eqD hr.units) (pe_cal c__law_gcd (hr.mono (by decide)) rfl (pa_cons (pv 3) (pa_cons (pv 1) pa_nil))) pe_int (nomark _)))) (fun _ _ _ _ _ => pe_int)) pa_nil)))
      (pss_cons (ps_if (PW.pt (pw_or (pt_cmpR (op_neD hr.units) (pe_cal c_with_bottom (hr.mono (by decide)) rfl (pa_cons (pv 1) pa_nil)) (pv 2) (nomark _)) (pw_or1 (pt_cmpR (op_neD hr.units) (pe_op o_sub (pe_cal c_row_count (hr.mono (by decide)) rfl (pa_cons (pv 1) pa_nil)) (pe_cal c_row_count (hr.mono (by decide)) rfl (pa_cons (pe_op o_sub (pv 1) pe_int) pa_nil))) (pv 2) (nomark _))))) (pss_one (ps_ret pe_bl)) pss_nil)
      (pss_cons (ps_set (i := 3) sc__law_is_count_right.nd rfl (Or.inr rfl) (pe_op o_add pe_int (pe_cal c__law_draw (hr.mono (by decide)) rfl (pa_cons (pv 0) (pa_cons (pv 1) pa_nil)))))
      (pss_cons (ps_set (i := 4) sc__law_is_count_right.nd rfl (Or.inr rfl) (pe_cal c__law_any (hr.mono (by decide)) rfl (pa_cons (pv 0) (pa_cons (pe_lc (own := [("at", 8)]) rfl sc__law_is_count_right.nd (pi_range2 rfl T.n_range (pa_cons (pe_op o_sub (pe_op o_add (pv 1) pe_int) (pv 3)) (pa_cons (pe_op o_add (pv 1) pe_int) pa_nil))) (blkOk_by (own := [("at", 8)]) (N := N__law_is_count_right) (sc := defScope sS__law_is_count_right) (by decide +kernel)) (fun _ _ _ _ _ => (pg_name (i := 8) sc__law_is_count_right.nd rfl (Or.inl rfl))) (fun _ _ _ _ _ => (pts_one (pt_cmpR (op_eqD hr.units) (pe_cal c__law_gcd (hr.mono (by decide)) rfl (pa_cons (pv 3) (pa_cons (pv 8) pa_nil))) pe_int (nomark _)))) (fun _ _ _ _ _ => (pv 8))) pa_nil))))
      (pss_cons (ps_set (i := 5) sc__law_is_count_right.nd rfl (Or.inl rfl) (pe_ix ix_seq (pe_lc (own := [("at", 8)]) rfl sc__law_is_count_right.nd (pi_range1 rfl T.n_range (pa_cons (pv 3) pa_nil)) (blkOk_by (own := [("at", 8)]) (N := N__law_is_count_right) (sc := defScope sS__law_is_count_right) (by decide +kernel)) (fun _ _ _ _ _ => (pg_name (i := 8) sc__law_is_count_right.nd rfl (Or.inl rfl))) (fun _ _ _ _ _ => (pts_one (PW.pt (pw_or (pt_cmpR (op_eqD hr.units) (pe_op o_mod (pe_callTy b_int rfl T.n_int (by decide +kernel) (pa_cons (pe_op o_mul (pv 8) (pv 4)) pa_nil)) (pv 3)) (pe_op o_sub (pv 3) pe_int) (nomark _)) (pw_or1 (pt_cmpR (op_eqD hr.units) (pv 3) pe_int (nomark _))))))) (fun _ _ _ _ _ => (pv 8))) pe_int (fun _ _ => rfl)))
      (pss_cons (ps_set (i := 6) sc__law_is_count_right.nd rfl (Or.inl rfl) (pe_tup (pa_cons (pv 5) (pa_cons (pv 3) pa_nil))))
      (pss_cons (ps_set (i := 7) sc__law_is_count_right.nd rfl (Or.inl rfl) (pe_tup (pa_cons (pe_op o_div (pe_op o_add (pe_op o_mul (pv 5) (pv 4)) pe_int) (pv 3)) (pa_cons (pv 4) pa_nil))))
      (pss_one (ps_ret (pe_andT (pe_cmpR (op_eqD hr.units) (pe_cal c_next_in (hr.mono (by decide)) rfl (pa_cons (pv 1) (pa_cons (pv 6) pa_nil))) (pv 7) (nomark _)) (pe_one (pe_cmpR (op_eqD hr.units) (pe_cal c_before_in (hr.mono (by decide)) rfl (pa_cons (pv 1) (pa_cons (pv 7) pa_nil))) (pv 6) (nomark _)))))))))))))), body__law_is_count_right⟩
abbrev sS__law_is_row_right : Stmt := topS 53
theorem sc__law_is_row_right : FnScope N__law_is_row_right ["hand"] (defScope sS__law_is_row_right) := ⟨rfl, rfl, rfl, by decide +kernel, rfl, by decide +kernel, by decide +kernel⟩
theorem ok__law_is_row_right (F : Fun K "_law_is_row_right" "_law_is_row_right" sS__law_is_row_right f fd) (T : Tx mg) (c__law_any : Cal P w K mg base "_law_any" 2 (spH K S__law_any)) (c__law_draw : Cal P w K mg base "_law_draw" 1 (spH K S__law_draw)) (c__law_pairs : Cal P w K mg base "_law_pairs" 2 (spP K S__law_pairs)) (c_row_of : Cal P w K mg base "row_of" 4 (spP K S_row_of)) (c_row_count : Cal P w K mg base "row_count" 4 (spP K S_row_count)) (c_next_in : Cal P w K mg base "next_in" 5 (spP K S_next_in)) (c_before_in : Cal P w K mg base "before_in" 5 (spP K S_before_in)) (c_circles : Cal P w K mg base "circles" 5 (spP K S_circles)) (c_double_area : Cal P w K mg base "double_area" 6 (spF K S_double_area)) (c_inside : Cal P w K mg base "inside" 6 (spF K S_inside)) (c_on_sides : Cal P w K mg base "on_sides" 6 (spF K S_on_sides)) : FnOk P w K mg base CX0 7 f fd ["hand"] (spH K S__law_is_row_right) :=
  fn_hand F sc__law_is_row_right (fun hs ds p h => by first | (exact h.elim) | (obtain ⟨rfl, _⟩ := h; rfl) | (obtain ⟨_, rfl, _⟩ := h; rfl) | (obtain ⟨_, _, rfl, _⟩ := h; rfl) | (obtain ⟨_, _, _, rfl, _⟩ := h; rfl) | (obtain ⟨_, _, _, _, rfl, _⟩ := h; rfl) | (obtain ⟨_, _, _, _, _, rfl, _⟩ := h; rfl) | (obtain ⟨_, _, _, _, _, _, rfl, _⟩ := h; rfl) | (obtain ⟨_, _, _, _, _, _, _, rfl, _⟩ := h; rfl) | (obtain ⟨_, _, _, _, _, _, _, _, rfl, _⟩ := h; rfl)) fun cdv A outer s H E hr => ⟨t__law_is_row_right K, (pss_cons (ps_set (i := 1) sc__law_is_row_right.nd rfl (Or.inr rfl) (pe_cal c__law_any (hr.mono (by decide)) rfl (pa_cons (pv 0) (pa_cons (pe_lst (pa_cons (pe_op o_add pe_int (pe_cal c__law_draw (hr.mono (by decide)) rfl (pa_cons (pv 0) (pa_cons pe_int pa_nil)))) (pa_cons (pe_op o_add pe_int (pe_cal c__law_draw (hr.mono (by decide)) rfl (pa_cons (pv 0) (pa_cons pe_int pa_nil)))) (pa_cons pe_int pa_nil)))) pa_nil))))
      (pss_cons (ps_par (i := 2) (j := 3) rfl sc__law_is_row_right.nd rfl rfl (by decide) rfl rfl (pa_cons (pe_cal c_row_of (hr.mono (by decide)) rfl (pa_cons (pv 1) pa_nil)) (pa_cons (pe_cal c__law_pairs (hr.mono (by decide)) rfl (pa_cons (pv 1) pa_nil)) pa_nil)) rfl)
      (pss_cons (ps_if (PW.pt (pw_or (pt_cmpR (op_neD hr.units) (pe_callB cr_sortX rfl T.n_sorted (by decide +kernel) (pa_cons (pe_lc (own := [("one", 6), ("other", 7)]) rfl sc__law_is_row_right.nd (pi_zipA rfl T.n_zip (pa_cons (pv 2) (pa_cons (pe_slice sl_any (pv 2) (po_some pe_int) po_none) pa_nil))) (blkOk_by (own := [("one", 6), ("other", 7)]) (N := N__law_is_row_right) (sc := defScope sS__law_is_row_right) (by decide +kernel)) (fun _ _ _ _ _ => (pg_tup rfl (pgs_cons (pg_name (i := 6) sc__law_is_row_right.nd rfl (Or.inl rfl)) (pgs_cons (pg_name (i := 7) sc__law_is_row_right.nd rfl (Or.inl rfl)) pgs_nil)))) (fun _ _ _ _ _ => pts_nil) (fun _ _ _ _ _ => (pe_tup (pa_cons (pe_ix ix_seq (pv 6) pe_int (fun _ _ => rfl)) (pa_cons (pe_ix ix_seq (pv 7) pe_int (fun _ _ => rfl)) pa_nil))))) pa_nil)) (pv 3) (nomark _)) (pw_or1 (pt_cmpR (op_neD hr.units) (pe_cal c_row_count (hr.mono (by decide)) rfl (pa_cons (pv 1) pa_nil)) (pe_op o_add (pe_callB b_len rfl T.n_len (by decide +kernel) (pa_cons (pv 3) pa_nil)) pe_int) (nomark _))))) (pss_one (ps_ret pe_bl)) pss_nil)
      (pss_cons (ps_if (pt_cmpR (op_neD hr.units) (pe_op o_sub (pe_cal c_row_count (hr.mono (by decide)) rfl (pa_cons (pe_op o_add (pv 1) pe_int) pa_nil)) (pe_cal c_row_count (hr.mono (by decide)) rfl (pa_cons (pv 1) pa_nil))) (pe_callB b_len rfl T.n_len (by decide +kernel) (pa_cons (pe_lc (own := [("one", 6), ("other", 7)]) rfl sc__law_is_row_right.nd (pi_any (pv 3)) (blkOk_by (own := [("one", 6), ("other", 7)]) (N := N__law_is_row_right) (sc := defScope sS__law_is_row_right) (by decide +kernel)) (fun _ _ _ _ _ => (pg_tup rfl (pgs_cons (pg_name (i := 6) sc__law_is_row_right.nd rfl (Or.inl rfl)) (pgs_cons (pg_name (i := 7) sc__law_is_row_right.nd rfl (Or.inl rfl)) pgs_nil)))) (fun _ _ _ _ _ => (pts_one (pt_cmpR (op_eqD hr.units) (pe_op o_add (pv 6) (pv 7)) (pe_op o_add (pv 1) pe_int) (nomark _)))) (fun _ _ _ _ _ => pe_int)) pa_nil)) (nomark _)) (pss_one (ps_ret pe_bl)) pss_nil)
      (pss_cons (ps_for PassesOwn.never rfl (pi_range1 rfl T.n_range (pa_cons pe_int pa_nil)) (pg_name (i := 4) sc__law_is_row_right.nd rfl (Or.inl rfl)) (pss_cons (ps_set (i := 5) sc__law_is_row_right.nd rfl (Or.inl rfl) (pe_cal c__law_draw (hr.mono (by decide)) rfl (pa_cons (pv 0) (pa_cons (pe_op o_sub (pe_callB b_len rfl T.n_len (by decide +kernel) (pa_cons (pv 2) pa_nil)) pe_int) pa_nil))))
      (pss_cons (ps_par (i := 6) (j := 7) rfl sc__law_is_row_right.nd rfl rfl (by decide) rfl rfl (pa_cons (pe_ix ix_seq (pv 2) (pv 5) (fun _ _ => rfl)) (pa_cons (pe_ix ix_seq (pv 2) (pe_op o_add (pv 5) pe_int) (fun _ _ => rfl)) pa_nil)) rfl)
      (pss_cons (ps_if (PW.pt (pw_or (pt_cmpR (op_neD hr.units) (pe_cal c_next_in (hr.mono (by decide)) rfl (pa_cons (pv 1) (pa_cons (pv 6) pa_nil))) (pv 7) (nomark _)) (pw_or (pt_cmpR (op_neD hr.units) (pe_cal c_before_in (hr.mono (by decide)) rfl (pa_cons (pv 1) (pa_cons (pv 7) pa_nil))) (pv 6) (nomark _)) (pw_or1 (pt_cmpR (op_neD hr.units) (pe_cal c_circles (hr.mono (by decide)) rfl (pa_cons (pv 6) (pa_cons (pv 7) pa_nil))) pe_str (nomark _)))))) (pss_one (ps_ret pe_bl)) pss_nil)
      (pss_cons (ps_set (i := 8) sc__law_is_row_right.nd rfl (Or.inl rfl) (pe_ix ix_seq (pv 2) (pe_cal c__law_draw (hr.mono (by decide)) rfl (pa_cons (pv 0) (pa_cons (pe_callB b_len rfl T.n_len (by decide +kernel) (pa_cons (pv 2) pa_nil)) pa_nil))) (fun _ _ => rfl)))
      (pss_cons (ps_set (i := 9) sc__law_is_row_right.nd rfl (Or.inl rfl) (pe_callB b_abs rfl T.n_abs (by decide +kernel) (pa_cons (pe_op o_sub (pe_op o_mul (pe_ix ix_seq (pv 6) pe_int (fun _ _ => rfl)) (pe_ix ix_seq (pv 8) pe_int (fun _ _ => rfl))) (pe_op o_mul (pe_ix ix_seq (pv 8) pe_int (fun _ _ => rfl)) (pe_ix ix_seq (pv 6) pe_int (fun _ _ => rfl)))) pa_nil)))
      (pss_cons (ps_if (pt_cmpR (op_neD hr.units) (pe_cal c_circles (hr.mono (by decide)) rfl (pa_cons (pv 6) (pa_cons (pv 8) pa_nil))) (pe_dget2 (hu_of hr) (pe_disp (pps_cons pe_int pe_str (pps_cons pe_int pe_str pps_nil)) (by rfl) (by rfl) (fun z => by cases z) (by decide)) (pv 9) pe_str ⟨rfl, rfl, rfl, rfl⟩) (nomark _)) (pss_one (ps_ret pe_bl)) pss_nil)
      (pss_cons (ps_set (i := 10) sc__law_is_row_right.nd rfl (Or.inl rfl) (pe_tup (pa_cons (pe_tup (pa_cons pe_int (pa_cons pe_int pa_nil))) (pa_cons (pe_tup (pa_cons (pe_ix ix_seq (pv 7) pe_int (fun _ _ => rfl)) (pa_cons (pe_ix ix_seq (pv 7) pe_int (fun _ _ => rfl)) pa_nil))) (pa_cons (pe_tup (pa_cons (pe_ix ix_seq (pv 6) pe_int (fun _ _ => rfl)) (pa_cons (pe_ix ix_seq (pv 6) pe_int (fun _ _ => rfl)) pa_nil))) pa_nil)))))
      (pss_cons (ps_set (i := 11) sc__law_is_row_right.nd rfl (Or.inl rfl) (pe_tupF (pa_cons (pe_ix ix_seq (pv 10) pe_int (fun _ _ => rfl)) (pa_cons (pe_ix ix_seq (pv 10) pe_int (fun _ _ => rfl)) (pa_cons (pe_ix ix_seq (pv 10) pe_int (fun _ _ => rfl)) pa_nil)))))
      (pss_one (ps_if (PW.pt (pw_or (pt_cmpR (op_neD hr.units) (pe_cal c_double_area (hr.mono (by decide)) rfl (pa_cons (pv 11) pa_nil)) pe_int (nomark _)) (pw_or (pt_cmpR (op_neD hr.units) (pe_cal c_inside (hr.mono (by decide)) rfl (pa_cons (pv 11) pa_nil)) pe_int (nomark _)) (pw_or1 (pt_cmpR (op_neD hr.units) (pe_cal c_on_sides (hr.mono (by decide)) rfl (pa_cons (pv 11) pa_nil)) pe_int (nomark _)))))) (pss_one (ps_ret pe_bl)) pss_nil)))))))))))
      (pss_one (ps_ret (pe_andT (pe_cmpR o_isN (pe_cal c_next_in (hr.mono (by decide)) rfl (pa_cons (pv 1) (pa_cons (pe_ix ix_seq (pv 2) (pe_un o_neg pe_int) (fun _ _ => rfl)) pa_nil))) pe_non (nomark _)) (pe_one (pe_cmpR o_isN (pe_cal c_before_in (hr.mono (by decide)) rfl (pa_cons (pv 1) (pa_cons (pe_ix ix_seq (pv 2) pe_int (fun _ _ => rfl)) pa_nil))) pe_non (nomark _))))))))))), body__law_is_row_right⟩
abbrev sS_law : Stmt := topS 55
theorem sc_law : FnScope N_law ["script"] (defScope sS_law) := ⟨rfl, rfl, rfl, by decide +kernel, rfl, by decide +kernel, by decide +kernel⟩
theorem ok_law (F : Fun K "law" "law" sS_law f fd) (T : Tx mg) (c__law_hand : Cal P w K mg base "_law_hand" 1 (spN K S__law_hand)) (c_row_of : Cal P w K mg base "row_of" 4 (spP K S_row_of)) (c_row_count : Cal P w K mg base "row_count" 4 (spP K S_row_count)) (c__law_is_row_right : Cal P w K mg base "_law_is_row_right" 7 (spH K S__law_is_row_right)) (c__law_is_count_right : Cal P w K mg base "_law_is_count_right" 6 (spH K S__law_is_count_right)) : FnOk P w K mg base CX0 8 f fd ["script"] (spP K S_law) :=
  fn_pure F sc_law (fun ds p h => by first | (exact h.elim) | (obtain ⟨rfl, _⟩ := h; rfl) | (obtain ⟨_, rfl, _⟩ := h; rfl) | (obtain ⟨_, _, rfl, _⟩ := h; rfl) | (obtain ⟨_, _, _, rfl, _⟩ := h; rfl) | (obtain ⟨_, _, _, _, rfl, _⟩ := h; rfl) | (obtain ⟨_, _, _, _, _, rfl, _⟩ := h; rfl) | (obtain ⟨_, _, _, _, _, _, rfl, _⟩ := h; rfl) | (obtain ⟨_, _, _, _, _, _, _, rfl, _⟩ := h; rfl) | (obtain ⟨_, _, _, _, _, _, _, _, rfl, _⟩ := h; rfl)) fun cdv A outer s H E hr => ⟨t_law K, (pss_cons (ps_set (i := 1) sc_law.nd rfl (Or.inr rfl) (pe_cal c__law_hand (hr.mono (by decide)) rfl (pa_cons (pv 0) pa_nil)))
      (pss_cons (ps_if (PW.pt (pw_or (pt_cmpR (op_neD hr.units) (pe_cal c_row_of (hr.mono (by decide)) rfl (pa_cons pe_int pa_nil)) (pe_tup (pa_cons (pe_tup (pa_cons pe_int (pa_cons pe_int pa_nil))) (pa_cons (pe_tup (pa_cons pe_int (pa_cons pe_int pa_nil))) (pa_cons (pe_tup (pa_cons pe_int (pa_cons pe_int pa_nil))) (pa_cons (pe_tup (pa_cons pe_int (pa_cons pe_int pa_nil))) (pa_cons (pe_tup (pa_cons pe_int (pa_cons pe_int pa_nil))) pa_nil)))))) (nomark _)) (pw_or1 (pt_cmpR (op_neD hr.units) (pe_cal c_row_count (hr.mono (by decide)) rfl (pa_cons pe_int pa_nil)) pe_int (nomark _))))) (pss_one (ps_ret pe_bl)) pss_nil)
      (pss_one (ps_ret (pe_callB (cr_all rfl) rfl T.n_all (by decide +kernel) (pa_cons (pe_lc (own := [("lap", 2)]) rfl sc_law.nd (pi_range1 rfl T.n_range (pa_cons pe_int pa_nil)) (blkOk_by (own := [("lap", 2)]) (N := N_law) (sc := defScope sS_law) (by decide +kernel)) (fun _ _ _ _ _ => (pg_name (i := 2) sc_law.nd rfl (Or.inl rfl))) (fun _ _ _ _ _ => pts_nil) (fun _ _ _ _ _ => (pe_andT (pe_cal c__law_is_row_right (hr.mono (by decide)) rfl (pa_cons (pv 1) pa_nil)) (pe_one (pe_cal c__law_is_count_right (hr.mono (by decide)) rfl (pa_cons (pv 1) pa_nil)))))) pa_nil)))))), body_law⟩
end
theorem all_mk {l : PySem.W.OpenLaw} {w : World} {K : Fg} {h : Heap} {mg : Str → Option Value} {fa : Addr} (X : K.In h) (G : h.Ns mainGlobals mg) (hfa : mg "law" = some (.ref fa))
    {f_is_integer : Addr} {od_is_integer an_is_integer : Option Addr} {sl_is_integer : Array (Option Value)} {oc_is_integer kV_is_integer dc_is_integer pm_is_integer cd_is_integer ct_is_integer : Value}
    (a_is_integer : PySem.W.nsIn K mainGlobals "is_integer" = some (some (.ref f_is_integer)))
    (l_is_integer : K.lookup f_is_integer = some ⟨oc_is_integer, od_is_integer, .func (PySem.W.fnOf "is_integer" "is_integer" (defArgs sS_is_integer) (defBody sS_is_integer) (defScope sS_is_integer) .none kV_is_integer dc_is_integer pm_is_integer an_is_integer cd_is_integer ct_is_integer), sl_is_integer⟩)
    (c_is_integer : PySem.W.codeIn K cd_is_integer "is_integer" = true) (k_is_integer : PySem.W.keepIn K (.ref f_is_integer) = true)
    {f_is_sized : Addr} {od_is_sized an_is_sized : Option Addr} {sl_is_sized : Array (Option Value)} {oc_is_sized kV_is_sized dc_is_sized pm_is_sized cd_is_sized ct_is_sized : Value}
    (a_is_sized : PySem.W.nsIn K mainGlobals "is_sized" = some (some (.ref f_is_sized)))
    (l_is_sized : K.lookup f_is_sized = some ⟨oc_is_sized, od_is_sized, .func (PySem.W.fnOf "is_sized" "is_sized" (defArgs sS_is_sized) (defBody sS_is_sized) (defScope sS_is_sized) .none kV_is_sized dc_is_sized pm_is_sized an_is_sized cd_is_sized ct_is_sized), sl_is_sized⟩)
    (c_is_sized : PySem.W.codeIn K cd_is_sized "is_sized" = true) (k_is_sized : PySem.W.keepIn K (.ref f_is_sized) = true)
    {f_common : Addr} {od_common an_common : Option Addr} {sl_common : Array (Option Value)} {oc_common kV_common dc_common pm_common cd_common ct_common : Value}
    (a_common : PySem.W.nsIn K mainGlobals "common" = some (some (.ref f_common)))
    (l_common : K.lookup f_common = some ⟨oc_common, od_common, .func (PySem.W.fnOf "common" "common" (defArgs sS_common) (defBody sS_common) (defScope sS_common) .none kV_common dc_common pm_common an_common cd_common ct_common), sl_common⟩)
    (c_common : PySem.W.codeIn K cd_common "common" = true) (k_common : PySem.W.keepIn K (.ref f_common) = true)
    {f_unlike_counts : Addr} {od_unlike_counts an_unlike_counts : Option Addr} {sl_unlike_counts : Array (Option Value)} {oc_unlike_counts kV_unlike_counts dc_unlike_counts pm_unlike_counts cd_unlike_counts ct_unlike_counts : Value}
    (a_unlike_counts : PySem.W.nsIn K mainGlobals "unlike_counts" = some (some (.ref f_unlike_counts)))
    (l_unlike_counts : K.lookup f_unlike_counts = some ⟨oc_unlike_counts, od_unlike_counts, .func (PySem.W.fnOf "unlike_counts" "unlike_counts" (defArgs sS_unlike_counts) (defBody sS_unlike_counts) (defScope sS_unlike_counts) .none kV_unlike_counts dc_unlike_counts pm_unlike_counts an_unlike_counts cd_unlike_counts ct_unlike_counts), sl_unlike_counts⟩)
    (c_unlike_counts : PySem.W.codeIn K cd_unlike_counts "unlike_counts" = true) (k_unlike_counts : PySem.W.keepIn K (.ref f_unlike_counts) = true)
    {f_pow_inverse : Addr} {od_pow_inverse an_pow_inverse : Option Addr} {sl_pow_inverse : Array (Option Value)} {oc_pow_inverse kV_pow_inverse dc_pow_inverse pm_pow_inverse cd_pow_inverse ct_pow_inverse : Value}
    (a_pow_inverse : PySem.W.nsIn K mainGlobals "pow_inverse" = some (some (.ref f_pow_inverse)))
    (l_pow_inverse : K.lookup f_pow_inverse = some ⟨oc_pow_inverse, od_pow_inverse, .func (PySem.W.fnOf "pow_inverse" "pow_inverse" (defArgs sS_pow_inverse) (defBody sS_pow_inverse) (defScope sS_pow_inverse) .none kV_pow_inverse dc_pow_inverse pm_pow_inverse an_pow_inverse cd_pow_inverse ct_pow_inverse), sl_pow_inverse⟩)
    (c_pow_inverse : PySem.W.codeIn K cd_pow_inverse "pow_inverse" = true) (k_pow_inverse : PySem.W.keepIn K (.ref f_pow_inverse) = true)
    {f_made_top : Addr} {od_made_top an_made_top : Option Addr} {sl_made_top : Array (Option Value)} {oc_made_top kV_made_top dc_made_top pm_made_top cd_made_top ct_made_top : Value}
    (a_made_top : PySem.W.nsIn K mainGlobals "made_top" = some (some (.ref f_made_top)))
    (l_made_top : K.lookup f_made_top = some ⟨oc_made_top, od_made_top, .func (PySem.W.fnOf "made_top" "made_top" (defArgs sS_made_top) (defBody sS_made_top) (defScope sS_made_top) .none kV_made_top dc_made_top pm_made_top an_made_top cd_made_top ct_made_top), sl_made_top⟩)
    (c_made_top : PySem.W.codeIn K cd_made_top "made_top" = true) (k_made_top : PySem.W.keepIn K (.ref f_made_top) = true)
    {f_cross : Addr} {od_cross an_cross : Option Addr} {sl_cross : Array (Option Value)} {oc_cross kV_cross dc_cross pm_cross cd_cross ct_cross : Value}
    (a_cross : PySem.W.nsIn K mainGlobals "cross" = some (some (.ref f_cross)))
    (l_cross : K.lookup f_cross = some ⟨oc_cross, od_cross, .func (PySem.W.fnOf "cross" "cross" (defArgs sS_cross) (defBody sS_cross) (defScope sS_cross) .none kV_cross dc_cross pm_cross an_cross cd_cross ct_cross), sl_cross⟩)
    (c_cross : PySem.W.codeIn K cd_cross "cross" = true) (k_cross : PySem.W.keepIn K (.ref f_cross) = true)
    {f_turn_at : Addr} {od_turn_at an_turn_at : Option Addr} {sl_turn_at : Array (Option Value)} {oc_turn_at kV_turn_at dc_turn_at pm_turn_at cd_turn_at ct_turn_at : Value}
    (a_turn_at : PySem.W.nsIn K mainGlobals "turn_at" = some (some (.ref f_turn_at)))
    (l_turn_at : K.lookup f_turn_at = some ⟨oc_turn_at, od_turn_at, .func (PySem.W.fnOf "turn_at" "turn_at" (defArgs sS_turn_at) (defBody sS_turn_at) (defScope sS_turn_at) .none kV_turn_at dc_turn_at pm_turn_at an_turn_at cd_turn_at ct_turn_at), sl_turn_at⟩)
    (c_turn_at : PySem.W.codeIn K cd_turn_at "turn_at" = true) (k_turn_at : PySem.W.keepIn K (.ref f_turn_at) = true)
    {f_sides_of : Addr} {od_sides_of an_sides_of : Option Addr} {sl_sides_of : Array (Option Value)} {oc_sides_of kV_sides_of dc_sides_of pm_sides_of cd_sides_of ct_sides_of : Value}
    (a_sides_of : PySem.W.nsIn K mainGlobals "sides_of" = some (some (.ref f_sides_of)))
    (l_sides_of : K.lookup f_sides_of = some ⟨oc_sides_of, od_sides_of, .func (PySem.W.fnOf "sides_of" "sides_of" (defArgs sS_sides_of) (defBody sS_sides_of) (defScope sS_sides_of) .none kV_sides_of dc_sides_of pm_sides_of an_sides_of cd_sides_of ct_sides_of), sl_sides_of⟩)
    (c_sides_of : PySem.W.codeIn K cd_sides_of "sides_of" = true) (k_sides_of : PySem.W.keepIn K (.ref f_sides_of) = true)
    {f_sign_of : Addr} {od_sign_of an_sign_of : Option Addr} {sl_sign_of : Array (Option Value)} {oc_sign_of kV_sign_of dc_sign_of pm_sign_of cd_sign_of ct_sign_of : Value}
    (a_sign_of : PySem.W.nsIn K mainGlobals "sign_of" = some (some (.ref f_sign_of)))
    (l_sign_of : K.lookup f_sign_of = some ⟨oc_sign_of, od_sign_of, .func (PySem.W.fnOf "sign_of" "sign_of" (defArgs sS_sign_of) (defBody sS_sign_of) (defScope sS_sign_of) .none kV_sign_of dc_sign_of pm_sign_of an_sign_of cd_sign_of ct_sign_of), sl_sign_of⟩)
    (c_sign_of : PySem.W.codeIn K cd_sign_of "sign_of" = true) (k_sign_of : PySem.W.keepIn K (.ref f_sign_of) = true)
    {f__law_hand : Addr} {od__law_hand an__law_hand : Option Addr} {sl__law_hand : Array (Option Value)} {oc__law_hand kV__law_hand dc__law_hand pm__law_hand cd__law_hand ct__law_hand : Value}
    (a__law_hand : PySem.W.nsIn K mainGlobals "_law_hand" = some (some (.ref f__law_hand)))
    (l__law_hand : K.lookup f__law_hand = some ⟨oc__law_hand, od__law_hand, .func (PySem.W.fnOf "_law_hand" "_law_hand" (defArgs sS__law_hand) (defBody sS__law_hand) (defScope sS__law_hand) .none kV__law_hand dc__law_hand pm__law_hand an__law_hand cd__law_hand ct__law_hand), sl__law_hand⟩)
    (c__law_hand : PySem.W.codeIn K cd__law_hand "_law_hand" = true) (k__law_hand : PySem.W.keepIn K (.ref f__law_hand) = true)
    {f__law_draw : Addr} {od__law_draw an__law_draw : Option Addr} {sl__law_draw : Array (Option Value)} {oc__law_draw kV__law_draw dc__law_draw pm__law_draw cd__law_draw ct__law_draw : Value}
    (a__law_draw : PySem.W.nsIn K mainGlobals "_law_draw" = some (some (.ref f__law_draw)))
    (l__law_draw : K.lookup f__law_draw = some ⟨oc__law_draw, od__law_draw, .func (PySem.W.fnOf "_law_draw" "_law_draw" (defArgs sS__law_draw) (defBody sS__law_draw) (defScope sS__law_draw) .none kV__law_draw dc__law_draw pm__law_draw an__law_draw cd__law_draw ct__law_draw), sl__law_draw⟩)
    (c__law_draw : PySem.W.codeIn K cd__law_draw "_law_draw" = true) (k__law_draw : PySem.W.keepIn K (.ref f__law_draw) = true)
    {f__law_gcd : Addr} {od__law_gcd an__law_gcd : Option Addr} {sl__law_gcd : Array (Option Value)} {oc__law_gcd kV__law_gcd dc__law_gcd pm__law_gcd cd__law_gcd ct__law_gcd : Value}
    (a__law_gcd : PySem.W.nsIn K mainGlobals "_law_gcd" = some (some (.ref f__law_gcd)))
    (l__law_gcd : K.lookup f__law_gcd = some ⟨oc__law_gcd, od__law_gcd, .func (PySem.W.fnOf "_law_gcd" "_law_gcd" (defArgs sS__law_gcd) (defBody sS__law_gcd) (defScope sS__law_gcd) .none kV__law_gcd dc__law_gcd pm__law_gcd an__law_gcd cd__law_gcd ct__law_gcd), sl__law_gcd⟩)
    (c__law_gcd : PySem.W.codeIn K cd__law_gcd "_law_gcd" = true) (k__law_gcd : PySem.W.keepIn K (.ref f__law_gcd) = true)
    {f_is_within : Addr} {od_is_within an_is_within : Option Addr} {sl_is_within : Array (Option Value)} {oc_is_within kV_is_within dc_is_within pm_is_within cd_is_within ct_is_within : Value}
    (a_is_within : PySem.W.nsIn K mainGlobals "is_within" = some (some (.ref f_is_within)))
    (l_is_within : K.lookup f_is_within = some ⟨oc_is_within, od_is_within, .func (PySem.W.fnOf "is_within" "is_within" (defArgs sS_is_within) (defBody sS_is_within) (defScope sS_is_within) .none kV_is_within dc_is_within pm_is_within an_is_within cd_is_within ct_is_within), sl_is_within⟩)
    (c_is_within : PySem.W.codeIn K cd_is_within "is_within" = true) (k_is_within : PySem.W.keepIn K (.ref f_is_within) = true)
    {f_is_ratio : Addr} {od_is_ratio an_is_ratio : Option Addr} {sl_is_ratio : Array (Option Value)} {oc_is_ratio kV_is_ratio dc_is_ratio pm_is_ratio cd_is_ratio ct_is_ratio : Value}
    (a_is_ratio : PySem.W.nsIn K mainGlobals "is_ratio" = some (some (.ref f_is_ratio)))
    (l_is_ratio : K.lookup f_is_ratio = some ⟨oc_is_ratio, od_is_ratio, .func (PySem.W.fnOf "is_ratio" "is_ratio" (defArgs sS_is_ratio) (defBody sS_is_ratio) (defScope sS_is_ratio) .none kV_is_ratio dc_is_ratio pm_is_ratio an_is_ratio cd_is_ratio ct_is_ratio), sl_is_ratio⟩)
    (c_is_ratio : PySem.W.codeIn K cd_is_ratio "is_ratio" = true) (k_is_ratio : PySem.W.keepIn K (.ref f_is_ratio) = true)
    {f_next_of : Addr} {od_next_of an_next_of : Option Addr} {sl_next_of : Array (Option Value)} {oc_next_of kV_next_of dc_next_of pm_next_of cd_next_of ct_next_of : Value}
    (a_next_of : PySem.W.nsIn K mainGlobals "next_of" = some (some (.ref f_next_of)))
    (l_next_of : K.lookup f_next_of = some ⟨oc_next_of, od_next_of, .func (PySem.W.fnOf "next_of" "next_of" (defArgs sS_next_of) (defBody sS_next_of) (defScope sS_next_of) .none kV_next_of dc_next_of pm_next_of an_next_of cd_next_of ct_next_of), sl_next_of⟩)
    (c_next_of : PySem.W.codeIn K cd_next_of "next_of" = true) (k_next_of : PySem.W.keepIn K (.ref f_next_of) = true)
    {f_lies_on : Addr} {od_lies_on an_lies_on : Option Addr} {sl_lies_on : Array (Option Value)} {oc_lies_on kV_lies_on dc_lies_on pm_lies_on cd_lies_on ct_lies_on : Value}
    (a_lies_on : PySem.W.nsIn K mainGlobals "lies_on" = some (some (.ref f_lies_on)))
    (l_lies_on : K.lookup f_lies_on = some ⟨oc_lies_on, od_lies_on, .func (PySem.W.fnOf "lies_on" "lies_on" (defArgs sS_lies_on) (defBody sS_lies_on) (defScope sS_lies_on) .none kV_lies_on dc_lies_on pm_lies_on an_lies_on cd_lies_on ct_lies_on), sl_lies_on⟩)
    (c_lies_on : PySem.W.codeIn K cd_lies_on "lies_on" = true) (k_lies_on : PySem.W.keepIn K (.ref f_lies_on) = true)
    {f_doubled : Addr} {od_doubled an_doubled : Option Addr} {sl_doubled : Array (Option Value)} {oc_doubled kV_doubled dc_doubled pm_doubled cd_doubled ct_doubled : Value}
    (a_doubled : PySem.W.nsIn K mainGlobals "doubled" = some (some (.ref f_doubled)))
    (l_doubled : K.lookup f_doubled = some ⟨oc_doubled, od_doubled, .func (PySem.W.fnOf "doubled" "doubled" (defArgs sS_doubled) (defBody sS_doubled) (defScope sS_doubled) .none kV_doubled dc_doubled pm_doubled an_doubled cd_doubled ct_doubled), sl_doubled⟩)
    (c_doubled : PySem.W.codeIn K cd_doubled "doubled" = true) (k_doubled : PySem.W.keepIn K (.ref f_doubled) = true)
    {f_points_on : Addr} {od_points_on an_points_on : Option Addr} {sl_points_on : Array (Option Value)} {oc_points_on kV_points_on dc_points_on pm_points_on cd_points_on ct_points_on : Value}
    (a_points_on : PySem.W.nsIn K mainGlobals "points_on" = some (some (.ref f_points_on)))
    (l_points_on : K.lookup f_points_on = some ⟨oc_points_on, od_points_on, .func (PySem.W.fnOf "points_on" "points_on" (defArgs sS_points_on) (defBody sS_points_on) (defScope sS_points_on) .none kV_points_on dc_points_on pm_points_on an_points_on cd_points_on ct_points_on), sl_points_on⟩)
    (c_points_on : PySem.W.codeIn K cd_points_on "points_on" = true) (k_points_on : PySem.W.keepIn K (.ref f_points_on) = true)
    {f__law_any : Addr} {od__law_any an__law_any : Option Addr} {sl__law_any : Array (Option Value)} {oc__law_any kV__law_any dc__law_any pm__law_any cd__law_any ct__law_any : Value}
    (a__law_any : PySem.W.nsIn K mainGlobals "_law_any" = some (some (.ref f__law_any)))
    (l__law_any : K.lookup f__law_any = some ⟨oc__law_any, od__law_any, .func (PySem.W.fnOf "_law_any" "_law_any" (defArgs sS__law_any) (defBody sS__law_any) (defScope sS__law_any) .none kV__law_any dc__law_any pm__law_any an__law_any cd__law_any ct__law_any), sl__law_any⟩)
    (c__law_any : PySem.W.codeIn K cd__law_any "_law_any" = true) (k__law_any : PySem.W.keepIn K (.ref f__law_any) = true)
    {f__law_pairs : Addr} {od__law_pairs an__law_pairs : Option Addr} {sl__law_pairs : Array (Option Value)} {oc__law_pairs kV__law_pairs dc__law_pairs pm__law_pairs cd__law_pairs ct__law_pairs : Value}
    (a__law_pairs : PySem.W.nsIn K mainGlobals "_law_pairs" = some (some (.ref f__law_pairs)))
    (l__law_pairs : K.lookup f__law_pairs = some ⟨oc__law_pairs, od__law_pairs, .func (PySem.W.fnOf "_law_pairs" "_law_pairs" (defArgs sS__law_pairs) (defBody sS__law_pairs) (defScope sS__law_pairs) .none kV__law_pairs dc__law_pairs pm__law_pairs an__law_pairs cd__law_pairs ct__law_pairs), sl__law_pairs⟩)
    (c__law_pairs : PySem.W.codeIn K cd__law_pairs "_law_pairs" = true) (k__law_pairs : PySem.W.keepIn K (.ref f__law_pairs) = true)
    {f_check_ratio : Addr} {od_check_ratio an_check_ratio : Option Addr} {sl_check_ratio : Array (Option Value)} {oc_check_ratio kV_check_ratio dc_check_ratio pm_check_ratio cd_check_ratio ct_check_ratio : Value}
    (a_check_ratio : PySem.W.nsIn K mainGlobals "check_ratio" = some (some (.ref f_check_ratio)))
    (l_check_ratio : K.lookup f_check_ratio = some ⟨oc_check_ratio, od_check_ratio, .func (PySem.W.fnOf "check_ratio" "check_ratio" (defArgs sS_check_ratio) (defBody sS_check_ratio) (defScope sS_check_ratio) .none kV_check_ratio dc_check_ratio pm_check_ratio an_check_ratio cd_check_ratio ct_check_ratio), sl_check_ratio⟩)
    (c_check_ratio : PySem.W.codeIn K cd_check_ratio "check_ratio" = true) (k_check_ratio : PySem.W.keepIn K (.ref f_check_ratio) = true)
    {f_check_count : Addr} {od_check_count an_check_count : Option Addr} {sl_check_count : Array (Option Value)} {oc_check_count kV_check_count dc_check_count pm_check_count cd_check_count ct_check_count : Value}
    (a_check_count : PySem.W.nsIn K mainGlobals "check_count" = some (some (.ref f_check_count)))
    (l_check_count : K.lookup f_check_count = some ⟨oc_check_count, od_check_count, .func (PySem.W.fnOf "check_count" "check_count" (defArgs sS_check_count) (defBody sS_check_count) (defScope sS_check_count) .none kV_check_count dc_check_count pm_check_count an_check_count cd_check_count ct_check_count), sl_check_count⟩)
    (c_check_count : PySem.W.codeIn K cd_check_count "check_count" = true) (k_check_count : PySem.W.keepIn K (.ref f_check_count) = true)
    {f_is_point : Addr} {od_is_point an_is_point : Option Addr} {sl_is_point : Array (Option Value)} {oc_is_point kV_is_point dc_is_point pm_is_point cd_is_point ct_is_point : Value}
    (a_is_point : PySem.W.nsIn K mainGlobals "is_point" = some (some (.ref f_is_point)))
    (l_is_point : K.lookup f_is_point = some ⟨oc_is_point, od_is_point, .func (PySem.W.fnOf "is_point" "is_point" (defArgs sS_is_point) (defBody sS_is_point) (defScope sS_is_point) .none kV_is_point dc_is_point pm_is_point an_is_point cd_is_point ct_is_point), sl_is_point⟩)
    (c_is_point : PySem.W.codeIn K cd_is_point "is_point" = true) (k_is_point : PySem.W.keepIn K (.ref f_is_point) = true)
    {f_do_meet : Addr} {od_do_meet an_do_meet : Option Addr} {sl_do_meet : Array (Option Value)} {oc_do_meet kV_do_meet dc_do_meet pm_do_meet cd_do_meet ct_do_meet : Value}
    (a_do_meet : PySem.W.nsIn K mainGlobals "do_meet" = some (some (.ref f_do_meet)))
    (l_do_meet : K.lookup f_do_meet = some ⟨oc_do_meet, od_do_meet, .func (PySem.W.fnOf "do_meet" "do_meet" (defArgs sS_do_meet) (defBody sS_do_meet) (defScope sS_do_meet) .none kV_do_meet dc_do_meet pm_do_meet an_do_meet cd_do_meet ct_do_meet), sl_do_meet⟩)
    (c_do_meet : PySem.W.codeIn K cd_do_meet "do_meet" = true) (k_do_meet : PySem.W.keepIn K (.ref f_do_meet) = true)
    {f_check_ratios : Addr} {od_check_ratios an_check_ratios : Option Addr} {sl_check_ratios : Array (Option Value)} {oc_check_ratios kV_check_ratios dc_check_ratios pm_check_ratios cd_check_ratios ct_check_ratios : Value}
    (a_check_ratios : PySem.W.nsIn K mainGlobals "check_ratios" = some (some (.ref f_check_ratios)))
    (l_check_ratios : K.lookup f_check_ratios = some ⟨oc_check_ratios, od_check_ratios, .func (PySem.W.fnOf "check_ratios" "check_ratios" (defArgs sS_check_ratios) (defBody sS_check_ratios) (defScope sS_check_ratios) .none kV_check_ratios dc_check_ratios pm_check_ratios an_check_ratios cd_check_ratios ct_check_ratios), sl_check_ratios⟩)
    (c_check_ratios : PySem.W.codeIn K cd_check_ratios "check_ratios" = true) (k_check_ratios : PySem.W.keepIn K (.ref f_check_ratios) = true)
    {f_row_count : Addr} {od_row_count an_row_count : Option Addr} {sl_row_count : Array (Option Value)} {oc_row_count kV_row_count dc_row_count pm_row_count cd_row_count ct_row_count : Value}
    (a_row_count : PySem.W.nsIn K mainGlobals "row_count" = some (some (.ref f_row_count)))
    (l_row_count : K.lookup f_row_count = some ⟨oc_row_count, od_row_count, .func (PySem.W.fnOf "row_count" "row_count" (defArgs sS_row_count) (defBody sS_row_count) (defScope sS_row_count) .none kV_row_count dc_row_count pm_row_count an_row_count cd_row_count ct_row_count), sl_row_count⟩)
    (c_row_count : PySem.W.codeIn K cd_row_count "row_count" = true) (k_row_count : PySem.W.keepIn K (.ref f_row_count) = true)
    {f_with_bottom : Addr} {od_with_bottom an_with_bottom : Option Addr} {sl_with_bottom : Array (Option Value)} {oc_with_bottom kV_with_bottom dc_with_bottom pm_with_bottom cd_with_bottom ct_with_bottom : Value}
    (a_with_bottom : PySem.W.nsIn K mainGlobals "with_bottom" = some (some (.ref f_with_bottom)))
    (l_with_bottom : K.lookup f_with_bottom = some ⟨oc_with_bottom, od_with_bottom, .func (PySem.W.fnOf "with_bottom" "with_bottom" (defArgs sS_with_bottom) (defBody sS_with_bottom) (defScope sS_with_bottom) .none kV_with_bottom dc_with_bottom pm_with_bottom an_with_bottom cd_with_bottom ct_with_bottom), sl_with_bottom⟩)
    (c_with_bottom : PySem.W.codeIn K cd_with_bottom "with_bottom" = true) (k_with_bottom : PySem.W.keepIn K (.ref f_with_bottom) = true)
    {f_row_of : Addr} {od_row_of an_row_of : Option Addr} {sl_row_of : Array (Option Value)} {oc_row_of kV_row_of dc_row_of pm_row_of cd_row_of ct_row_of : Value}
    (a_row_of : PySem.W.nsIn K mainGlobals "row_of" = some (some (.ref f_row_of)))
    (l_row_of : K.lookup f_row_of = some ⟨oc_row_of, od_row_of, .func (PySem.W.fnOf "row_of" "row_of" (defArgs sS_row_of) (defBody sS_row_of) (defScope sS_row_of) .none kV_row_of dc_row_of pm_row_of an_row_of cd_row_of ct_row_of), sl_row_of⟩)
    (c_row_of : PySem.W.codeIn K cd_row_of "row_of" = true) (k_row_of : PySem.W.keepIn K (.ref f_row_of) = true)
    {f_check_in : Addr} {od_check_in an_check_in : Option Addr} {sl_check_in : Array (Option Value)} {oc_check_in kV_check_in dc_check_in pm_check_in cd_check_in ct_check_in : Value}
    (a_check_in : PySem.W.nsIn K mainGlobals "check_in" = some (some (.ref f_check_in)))
    (l_check_in : K.lookup f_check_in = some ⟨oc_check_in, od_check_in, .func (PySem.W.fnOf "check_in" "check_in" (defArgs sS_check_in) (defBody sS_check_in) (defScope sS_check_in) .none kV_check_in dc_check_in pm_check_in an_check_in cd_check_in ct_check_in), sl_check_in⟩)
    (c_check_in : PySem.W.codeIn K cd_check_in "check_in" = true) (k_check_in : PySem.W.keepIn K (.ref f_check_in) = true)
    {f_is_figure : Addr} {od_is_figure an_is_figure : Option Addr} {sl_is_figure : Array (Option Value)} {oc_is_figure kV_is_figure dc_is_figure pm_is_figure cd_is_figure ct_is_figure : Value}
    (a_is_figure : PySem.W.nsIn K mainGlobals "is_figure" = some (some (.ref f_is_figure)))
    (l_is_figure : K.lookup f_is_figure = some ⟨oc_is_figure, od_is_figure, .func (PySem.W.fnOf "is_figure" "is_figure" (defArgs sS_is_figure) (defBody sS_is_figure) (defScope sS_is_figure) .none kV_is_figure dc_is_figure pm_is_figure an_is_figure cd_is_figure ct_is_figure), sl_is_figure⟩)
    (c_is_figure : PySem.W.codeIn K cd_is_figure "is_figure" = true) (k_is_figure : PySem.W.keepIn K (.ref f_is_figure) = true)
    {f_next_in : Addr} {od_next_in an_next_in : Option Addr} {sl_next_in : Array (Option Value)} {oc_next_in kV_next_in dc_next_in pm_next_in cd_next_in ct_next_in : Value}
    (a_next_in : PySem.W.nsIn K mainGlobals "next_in" = some (some (.ref f_next_in)))
    (l_next_in : K.lookup f_next_in = some ⟨oc_next_in, od_next_in, .func (PySem.W.fnOf "next_in" "next_in" (defArgs sS_next_in) (defBody sS_next_in) (defScope sS_next_in) .none kV_next_in dc_next_in pm_next_in an_next_in cd_next_in ct_next_in), sl_next_in⟩)
    (c_next_in : PySem.W.codeIn K cd_next_in "next_in" = true) (k_next_in : PySem.W.keepIn K (.ref f_next_in) = true)
    {f_before_in : Addr} {od_before_in an_before_in : Option Addr} {sl_before_in : Array (Option Value)} {oc_before_in kV_before_in dc_before_in pm_before_in cd_before_in ct_before_in : Value}
    (a_before_in : PySem.W.nsIn K mainGlobals "before_in" = some (some (.ref f_before_in)))
    (l_before_in : K.lookup f_before_in = some ⟨oc_before_in, od_before_in, .func (PySem.W.fnOf "before_in" "before_in" (defArgs sS_before_in) (defBody sS_before_in) (defScope sS_before_in) .none kV_before_in dc_before_in pm_before_in an_before_in cd_before_in ct_before_in), sl_before_in⟩)
    (c_before_in : PySem.W.codeIn K cd_before_in "before_in" = true) (k_before_in : PySem.W.keepIn K (.ref f_before_in) = true)
    {f_circles : Addr} {od_circles an_circles : Option Addr} {sl_circles : Array (Option Value)} {oc_circles kV_circles dc_circles pm_circles cd_circles ct_circles : Value}
    (a_circles : PySem.W.nsIn K mainGlobals "circles" = some (some (.ref f_circles)))
    (l_circles : K.lookup f_circles = some ⟨oc_circles, od_circles, .func (PySem.W.fnOf "circles" "circles" (defArgs sS_circles) (defBody sS_circles) (defScope sS_circles) .none kV_circles dc_circles pm_circles an_circles cd_circles ct_circles), sl_circles⟩)
    (c_circles : PySem.W.codeIn K cd_circles "circles" = true) (k_circles : PySem.W.keepIn K (.ref f_circles) = true)
    {f_check_figure : Addr} {od_check_figure an_check_figure : Option Addr} {sl_check_figure : Array (Option Value)} {oc_check_figure kV_check_figure dc_check_figure pm_check_figure cd_check_figure ct_check_figure : Value}
    (a_check_figure : PySem.W.nsIn K mainGlobals "check_figure" = some (some (.ref f_check_figure)))
    (l_check_figure : K.lookup f_check_figure = some ⟨oc_check_figure, od_check_figure, .func (PySem.W.fnOf "check_figure" "check_figure" (defArgs sS_check_figure) (defBody sS_check_figure) (defScope sS_check_figure) .none kV_check_figure dc_check_figure pm_check_figure an_check_figure cd_check_figure ct_check_figure), sl_check_figure⟩)
    (c_check_figure : PySem.W.codeIn K cd_check_figure "check_figure" = true) (k_check_figure : PySem.W.keepIn K (.ref f_check_figure) = true)
    {f_double_area : Addr} {od_double_area an_double_area : Option Addr} {sl_double_area : Array (Option Value)} {oc_double_area kV_double_area dc_double_area pm_double_area cd_double_area ct_double_area : Value}
    (a_double_area : PySem.W.nsIn K mainGlobals "double_area" = some (some (.ref f_double_area)))
    (l_double_area : K.lookup f_double_area = some ⟨oc_double_area, od_double_area, .func (PySem.W.fnOf "double_area" "double_area" (defArgs sS_double_area) (defBody sS_double_area) (defScope sS_double_area) .none kV_double_area dc_double_area pm_double_area an_double_area cd_double_area ct_double_area), sl_double_area⟩)
    (c_double_area : PySem.W.codeIn K cd_double_area "double_area" = true) (k_double_area : PySem.W.keepIn K (.ref f_double_area) = true)
    {f_on_sides : Addr} {od_on_sides an_on_sides : Option Addr} {sl_on_sides : Array (Option Value)} {oc_on_sides kV_on_sides dc_on_sides pm_on_sides cd_on_sides ct_on_sides : Value}
    (a_on_sides : PySem.W.nsIn K mainGlobals "on_sides" = some (some (.ref f_on_sides)))
    (l_on_sides : K.lookup f_on_sides = some ⟨oc_on_sides, od_on_sides, .func (PySem.W.fnOf "on_sides" "on_sides" (defArgs sS_on_sides) (defBody sS_on_sides) (defScope sS_on_sides) .none kV_on_sides dc_on_sides pm_on_sides an_on_sides cd_on_sides ct_on_sides), sl_on_sides⟩)
    (c_on_sides : PySem.W.codeIn K cd_on_sides "on_sides" = true) (k_on_sides : PySem.W.keepIn K (.ref f_on_sides) = true)
    {f_inside : Addr} {od_inside an_inside : Option Addr} {sl_inside : Array (Option Value)} {oc_inside kV_inside dc_inside pm_inside cd_inside ct_inside : Value}
    (a_inside : PySem.W.nsIn K mainGlobals "inside" = some (some (.ref f_inside)))
    (l_inside : K.lookup f_inside = some ⟨oc_inside, od_inside, .func (PySem.W.fnOf "inside" "inside" (defArgs sS_inside) (defBody sS_inside) (defScope sS_inside) .none kV_inside dc_inside pm_inside an_inside cd_inside ct_inside), sl_inside⟩)
    (c_inside : PySem.W.codeIn K cd_inside "inside" = true) (k_inside : PySem.W.keepIn K (.ref f_inside) = true)
    {f__law_is_count_right : Addr} {od__law_is_count_right an__law_is_count_right : Option Addr} {sl__law_is_count_right : Array (Option Value)} {oc__law_is_count_right kV__law_is_count_right dc__law_is_count_right pm__law_is_count_right cd__law_is_count_right ct__law_is_count_right : Value}
    (a__law_is_count_right : PySem.W.nsIn K mainGlobals "_law_is_count_right" = some (some (.ref f__law_is_count_right)))
    (l__law_is_count_right : K.lookup f__law_is_count_right = some ⟨oc__law_is_count_right, od__law_is_count_right, .func (PySem.W.fnOf "_law_is_count_right" "_law_is_count_right" (defArgs sS__law_is_count_right) (defBody sS__law_is_count_right) (defScope sS__law_is_count_right) .none kV__law_is_count_right dc__law_is_count_right pm__law_is_count_right an__law_is_count_right cd__law_is_count_right ct__law_is_count_right), sl__law_is_count_right⟩)
    (c__law_is_count_right : PySem.W.codeIn K cd__law_is_count_right "_law_is_count_right" = true) (k__law_is_count_right : PySem.W.keepIn K (.ref f__law_is_count_right) = true)
    {f__law_is_row_right : Addr} {od__law_is_row_right an__law_is_row_right : Option Addr} {sl__law_is_row_right : Array (Option Value)} {oc__law_is_row_right kV__law_is_row_right dc__law_is_row_right pm__law_is_row_right cd__law_is_row_right ct__law_is_row_right : Value}
    (a__law_is_row_right : PySem.W.nsIn K mainGlobals "_law_is_row_right" = some (some (.ref f__law_is_row_right)))
    (l__law_is_row_right : K.lookup f__law_is_row_right = some ⟨oc__law_is_row_right, od__law_is_row_right, .func (PySem.W.fnOf "_law_is_row_right" "_law_is_row_right" (defArgs sS__law_is_row_right) (defBody sS__law_is_row_right) (defScope sS__law_is_row_right) .none kV__law_is_row_right dc__law_is_row_right pm__law_is_row_right an__law_is_row_right cd__law_is_row_right ct__law_is_row_right), sl__law_is_row_right⟩)
    (c__law_is_row_right : PySem.W.codeIn K cd__law_is_row_right "_law_is_row_right" = true) (k__law_is_row_right : PySem.W.keepIn K (.ref f__law_is_row_right) = true)
    {f_law : Addr} {od_law an_law : Option Addr} {sl_law : Array (Option Value)} {oc_law kV_law dc_law pm_law cd_law ct_law : Value}
    (a_law : PySem.W.nsIn K mainGlobals "law" = some (some (.ref f_law)))
    (l_law : K.lookup f_law = some ⟨oc_law, od_law, .func (PySem.W.fnOf "law" "law" (defArgs sS_law) (defBody sS_law) (defScope sS_law) .none kV_law dc_law pm_law an_law cd_law ct_law), sl_law⟩)
    (c_law : PySem.W.codeIn K cd_law "law" = true) (k_law : PySem.W.keepIn K (.ref f_law) = true)
    (z_abs : PySem.W.nsIn K mainGlobals "abs" = some none)
    (z_all : PySem.W.nsIn K mainGlobals "all" = some none)
    (z_any : PySem.W.nsIn K mainGlobals "any" = some none)
    (z_bool : PySem.W.nsIn K mainGlobals "bool" = some none)
    (z_int : PySem.W.nsIn K mainGlobals "int" = some none)
    (z_isinstance : PySem.W.nsIn K mainGlobals "isinstance" = some none)
    (z_len : PySem.W.nsIn K mainGlobals "len" = some none)
    (z_list : PySem.W.nsIn K mainGlobals "list" = some none)
    (z_max : PySem.W.nsIn K mainGlobals "max" = some none)
    (z_min : PySem.W.nsIn K mainGlobals "min" = some none)
    (z_range : PySem.W.nsIn K mainGlobals "range" = some none)
    (z_sorted : PySem.W.nsIn K mainGlobals "sorted" = some none)
    (z_sum : PySem.W.nsIn K mainGlobals "sum" = some none)
    (z_tuple : PySem.W.nsIn K mainGlobals "tuple" = some none)
    (z_zip : PySem.W.nsIn K mainGlobals "zip" = some none)
    {t_MOST_DIGITS : Tok} (m_MOST_DIGITS : PySem.W.nsIn K mainGlobals "MOST_DIGITS" = some (some (.int 10000000000000000000000000000000000000000 t_MOST_DIGITS)))
    {t_MOST_PLACE : Tok} (m_MOST_PLACE : PySem.W.nsIn K mainGlobals "MOST_PLACE" = some (some (.int 1000000 t_MOST_PLACE)))
    {t_MOST_ROW : Tok} (m_MOST_ROW : PySem.W.nsIn K mainGlobals "MOST_ROW" = some (some (.int 2000 t_MOST_ROW)))
    {t_MOST_SHOWN : Tok} (m_MOST_SHOWN : PySem.W.nsIn K mainGlobals "MOST_SHOWN" = some (some (.int 60 t_MOST_SHOWN)))
    : ∃ fd : FuncData, (∀ (s : Shared) (v : Value), BindsTo s fd ⟨[v], []⟩ [("script", v)]) ∧ ∀ base : Heap, K.In base → base.Ns mainGlobals mg → FnOk l.prog w K mg base CX0 8 fa fd ["script"] (spP K S_law) := by
  have e := hfa.symm.trans (PySem.W.mg_of X G a_law)
  cases e
  have T : Tx mg := ⟨PySem.W.mg_none_of X G z_abs, PySem.W.mg_none_of X G z_all, PySem.W.mg_none_of X G z_any, PySem.W.mg_none_of X G z_bool, PySem.W.mg_none_of X G z_int, PySem.W.mg_none_of X G z_isinstance, PySem.W.mg_none_of X G z_len, PySem.W.mg_none_of X G z_list, PySem.W.mg_none_of X G z_max, PySem.W.mg_none_of X G z_min, PySem.W.mg_none_of X G z_range, PySem.W.mg_none_of X G z_sorted, PySem.W.mg_none_of X G z_sum, PySem.W.mg_none_of X G z_tuple, PySem.W.mg_none_of X G z_zip, ⟨t_MOST_DIGITS, (PySem.W.mg_of X G m_MOST_DIGITS).trans (congrArg (fun i => some (Value.int i t_MOST_DIGITS)) (by unfold M40; rfl))⟩, ⟨t_MOST_PLACE, PySem.W.mg_of X G m_MOST_PLACE⟩, ⟨t_MOST_ROW, PySem.W.mg_of X G m_MOST_ROW⟩, ⟨t_MOST_SHOWN, PySem.W.mg_of X G m_MOST_SHOWN⟩⟩
  have F_is_integer := fun_mk (x := "is_integer") (qual := "is_integer") (st := sS_is_integer) l_is_integer c_is_integer k_is_integer
  have b_is_integer := F_is_integer.binds (ps := ["thing"]) fun _ _ _ _ _ _ us hl => match us, hl with | [_], _ => rfl
  have F_is_sized := fun_mk (x := "is_sized") (qual := "is_sized") (st := sS_is_sized) l_is_sized c_is_sized k_is_sized
  have b_is_sized := F_is_sized.binds (ps := ["thing", "low", "high"]) fun _ _ _ _ _ _ us hl => match us, hl with | [_, _, _], _ => rfl
  have F_common := fun_mk (x := "common") (qual := "common") (st := sS_common) l_common c_common k_common
  have b_common := F_common.binds (ps := ["one", "other"]) fun _ _ _ _ _ _ us hl => match us, hl with | [_, _], _ => rfl
  have F_unlike_counts := fun_mk (x := "unlike_counts") (qual := "unlike_counts") (st := sS_unlike_counts) l_unlike_counts c_unlike_counts k_unlike_counts
  have b_unlike_counts := F_unlike_counts.binds (ps := ["n"]) fun _ _ _ _ _ _ us hl => match us, hl with | [_], _ => rfl
  have F_pow_inverse := fun_mk (x := "pow_inverse") (qual := "pow_inverse") (st := sS_pow_inverse) l_pow_inverse c_pow_inverse k_pow_inverse
  have b_pow_inverse := F_pow_inverse.binds (ps := ["top", "bottom"]) fun _ _ _ _ _ _ us hl => match us, hl with | [_, _], _ => rfl
  have F_made_top := fun_mk (x := "made_top") (qual := "made_top") (st := sS_made_top) l_made_top c_made_top k_made_top
  have b_made_top := F_made_top.binds (ps := ["top", "bottom", "last"]) fun _ _ _ _ _ _ us hl => match us, hl with | [_, _, _], _ => rfl
  have F_cross := fun_mk (x := "cross") (qual := "cross") (st := sS_cross) l_cross c_cross k_cross
  have b_cross := F_cross.binds (ps := ["one", "other"]) fun _ _ _ _ _ _ us hl => match us, hl with | [_, _], _ => rfl
  have F_turn_at := fun_mk (x := "turn_at") (qual := "turn_at") (st := sS_turn_at) l_turn_at c_turn_at k_turn_at
  have b_turn_at := F_turn_at.binds (ps := ["a", "b", "c"]) fun _ _ _ _ _ _ us hl => match us, hl with | [_, _, _], _ => rfl
  have F_sides_of := fun_mk (x := "sides_of") (qual := "sides_of") (st := sS_sides_of) l_sides_of c_sides_of k_sides_of
  have b_sides_of := F_sides_of.binds (ps := ["figure"]) fun _ _ _ _ _ _ us hl => match us, hl with | [_], _ => rfl
  have F_sign_of := fun_mk (x := "sign_of") (qual := "sign_of") (st := sS_sign_of) l_sign_of c_sign_of k_sign_of
  have b_sign_of := F_sign_of.binds (ps := ["number"]) fun _ _ _ _ _ _ us hl => match us, hl with | [_], _ => rfl
  have F__law_hand := fun_mk (x := "_law_hand") (qual := "_law_hand") (st := sS__law_hand) l__law_hand c__law_hand k__law_hand
  have b__law_hand := F__law_hand.binds (ps := ["script"]) fun _ _ _ _ _ _ us hl => match us, hl with | [_], _ => rfl
  have F__law_draw := fun_mk (x := "_law_draw") (qual := "_law_draw") (st := sS__law_draw) l__law_draw c__law_draw k__law_draw
  have b__law_draw := F__law_draw.binds (ps := ["hand", "many"]) fun _ _ _ _ _ _ us hl => match us, hl with | [_, _], _ => rfl
  have F__law_gcd := fun_mk (x := "_law_gcd") (qual := "_law_gcd") (st := sS__law_gcd) l__law_gcd c__law_gcd k__law_gcd
  have b__law_gcd := F__law_gcd.binds (ps := ["one", "other"]) fun _ _ _ _ _ _ us hl => match us, hl with | [_, _], _ => rfl
  have F_is_within := fun_mk (x := "is_within") (qual := "is_within") (st := sS_is_within) l_is_within c_is_within k_is_within
  have b_is_within := F_is_within.binds (ps := ["thing", "low", "high"]) fun _ _ _ _ _ _ us hl => match us, hl with | [_, _, _], _ => rfl
  have F_is_ratio := fun_mk (x := "is_ratio") (qual := "is_ratio") (st := sS_is_ratio) l_is_ratio c_is_ratio k_is_ratio
  have b_is_ratio := F_is_ratio.binds (ps := ["thing"]) fun _ _ _ _ _ _ us hl => match us, hl with | [_], _ => rfl
  have F_next_of := fun_mk (x := "next_of") (qual := "next_of") (st := sS_next_of) l_next_of c_next_of k_next_of
  have b_next_of := F_next_of.binds (ps := ["n", "ratio"]) fun _ _ _ _ _ _ us hl => match us, hl with | [_, _], _ => rfl
  have F_lies_on := fun_mk (x := "lies_on") (qual := "lies_on") (st := sS_lies_on) l_lies_on c_lies_on k_lies_on
  have b_lies_on := F_lies_on.binds (ps := ["a", "b", "point"]) fun _ _ _ _ _ _ us hl => match us, hl with | [_, _, _], _ => rfl
  have F_doubled := fun_mk (x := "doubled") (qual := "doubled") (st := sS_doubled) l_doubled c_doubled k_doubled
  have b_doubled := F_doubled.binds (ps := ["figure"]) fun _ _ _ _ _ _ us hl => match us, hl with | [_], _ => rfl
  have F_points_on := fun_mk (x := "points_on") (qual := "points_on") (st := sS_points_on) l_points_on c_points_on k_points_on
  have b_points_on := F_points_on.binds (ps := ["figure"]) fun _ _ _ _ _ _ us hl => match us, hl with | [_], _ => rfl
  have F__law_any := fun_mk (x := "_law_any") (qual := "_law_any") (st := sS__law_any) l__law_any c__law_any k__law_any
  have b__law_any := F__law_any.binds (ps := ["hand", "some"]) fun _ _ _ _ _ _ us hl => match us, hl with | [_, _], _ => rfl
  have F__law_pairs := fun_mk (x := "_law_pairs") (qual := "_law_pairs") (st := sS__law_pairs) l__law_pairs c__law_pairs k__law_pairs
  have b__law_pairs := F__law_pairs.binds (ps := ["n"]) fun _ _ _ _ _ _ us hl => match us, hl with | [_], _ => rfl
  have F_check_ratio := fun_mk (x := "check_ratio") (qual := "check_ratio") (st := sS_check_ratio) l_check_ratio c_check_ratio k_check_ratio
  have b_check_ratio := F_check_ratio.binds (ps := ["thing"]) fun _ _ _ _ _ _ us hl => match us, hl with | [_], _ => rfl
  have F_check_count := fun_mk (x := "check_count") (qual := "check_count") (st := sS_check_count) l_check_count c_check_count k_check_count
  have b_check_count := F_check_count.binds (ps := ["n", "most"]) fun _ _ _ _ _ _ us hl => match us, hl with | [_, _], _ => rfl
  have F_is_point := fun_mk (x := "is_point") (qual := "is_point") (st := sS_is_point) l_is_point c_is_point k_is_point
  have b_is_point := F_is_point.binds (ps := ["thing"]) fun _ _ _ _ _ _ us hl => match us, hl with | [_], _ => rfl
  have F_do_meet := fun_mk (x := "do_meet") (qual := "do_meet") (st := sS_do_meet) l_do_meet c_do_meet k_do_meet
  have b_do_meet := F_do_meet.binds (ps := ["a", "b", "c", "d"]) fun _ _ _ _ _ _ us hl => match us, hl with | [_, _, _, _], _ => rfl
  have F_check_ratios := fun_mk (x := "check_ratios") (qual := "check_ratios") (st := sS_check_ratios) l_check_ratios c_check_ratios k_check_ratios
  have b_check_ratios := F_check_ratios.binds (ps := ["one", "other"]) fun _ _ _ _ _ _ us hl => match us, hl with | [_, _], _ => rfl
  have F_row_count := fun_mk (x := "row_count") (qual := "row_count") (st := sS_row_count) l_row_count c_row_count k_row_count
  have b_row_count := F_row_count.binds (ps := ["n"]) fun _ _ _ _ _ _ us hl => match us, hl with | [_], _ => rfl
  have F_with_bottom := fun_mk (x := "with_bottom") (qual := "with_bottom") (st := sS_with_bottom) l_with_bottom c_with_bottom k_with_bottom
  have b_with_bottom := F_with_bottom.binds (ps := ["n"]) fun _ _ _ _ _ _ us hl => match us, hl with | [_], _ => rfl
  have F_row_of := fun_mk (x := "row_of") (qual := "row_of") (st := sS_row_of) l_row_of c_row_of k_row_of
  have b_row_of := F_row_of.binds (ps := ["n"]) fun _ _ _ _ _ _ us hl => match us, hl with | [_], _ => rfl
  have F_check_in := fun_mk (x := "check_in") (qual := "check_in") (st := sS_check_in) l_check_in c_check_in k_check_in
  have b_check_in := F_check_in.binds (ps := ["n", "ratio"]) fun _ _ _ _ _ _ us hl => match us, hl with | [_, _], _ => rfl
  have F_is_figure := fun_mk (x := "is_figure") (qual := "is_figure") (st := sS_is_figure) l_is_figure c_is_figure k_is_figure
  have b_is_figure := F_is_figure.binds (ps := ["thing"]) fun _ _ _ _ _ _ us hl => match us, hl with | [_], _ => rfl
  have F_next_in := fun_mk (x := "next_in") (qual := "next_in") (st := sS_next_in) l_next_in c_next_in k_next_in
  have b_next_in := F_next_in.binds (ps := ["n", "ratio"]) fun _ _ _ _ _ _ us hl => match us, hl with | [_, _], _ => rfl
  have F_before_in := fun_mk (x := "before_in") (qual := "before_in") (st := sS_before_in) l_before_in c_before_in k_before_in
  have b_before_in := F_before_in.binds (ps := ["n", "ratio"]) fun _ _ _ _ _ _ us hl => match us, hl with | [_, _], _ => rfl
  have F_circles := fun_mk (x := "circles") (qual := "circles") (st := sS_circles) l_circles c_circles k_circles
  have b_circles := F_circles.binds (ps := ["one", "other"]) fun _ _ _ _ _ _ us hl => match us, hl with | [_, _], _ => rfl
  have F_check_figure := fun_mk (x := "check_figure") (qual := "check_figure") (st := sS_check_figure) l_check_figure c_check_figure k_check_figure
  have b_check_figure := F_check_figure.binds (ps := ["figure"]) fun _ _ _ _ _ _ us hl => match us, hl with | [_], _ => rfl
  have F_double_area := fun_mk (x := "double_area") (qual := "double_area") (st := sS_double_area) l_double_area c_double_area k_double_area
  have b_double_area := F_double_area.binds (ps := ["figure"]) fun _ _ _ _ _ _ us hl => match us, hl with | [_], _ => rfl
  have F_on_sides := fun_mk (x := "on_sides") (qual := "on_sides") (st := sS_on_sides) l_on_sides c_on_sides k_on_sides
  have b_on_sides := F_on_sides.binds (ps := ["figure"]) fun _ _ _ _ _ _ us hl => match us, hl with | [_], _ => rfl
  have F_inside := fun_mk (x := "inside") (qual := "inside") (st := sS_inside) l_inside c_inside k_inside
  have b_inside := F_inside.binds (ps := ["figure"]) fun _ _ _ _ _ _ us hl => match us, hl with | [_], _ => rfl
  have F__law_is_count_right := fun_mk (x := "_law_is_count_right") (qual := "_law_is_count_right") (st := sS__law_is_count_right) l__law_is_count_right c__law_is_count_right k__law_is_count_right
  have b__law_is_count_right := F__law_is_count_right.binds (ps := ["hand"]) fun _ _ _ _ _ _ us hl => match us, hl with | [_], _ => rfl
  have F__law_is_row_right := fun_mk (x := "_law_is_row_right") (qual := "_law_is_row_right") (st := sS__law_is_row_right) l__law_is_row_right c__law_is_row_right k__law_is_row_right
  have b__law_is_row_right := F__law_is_row_right.binds (ps := ["hand"]) fun _ _ _ _ _ _ us hl => match us, hl with | [_], _ => rfl
  have F_law := fun_mk (x := "law") (qual := "law") (st := sS_law) l_law c_law k_law
  have b_law := F_law.binds (ps := ["script"]) fun _ _ _ _ _ _ us hl => match us, hl with | [_], _ => rfl
  refine ⟨PySem.W.fnOf "law" "law" (defArgs sS_law) (defBody sS_law) (defScope sS_law) .none kV_law dc_law pm_law an_law cd_law ct_law, fun s v => .of_eq rfl, fun base _ _ => ?_⟩
  have g_is_integer : Cal l.prog w K mg base "is_integer" 1 (spP K S_is_integer) := Cal.of F_is_integer (PySem.W.mg_of X G a_is_integer) b_is_integer (ok_is_integer F_is_integer T )
  have g_is_sized : Cal l.prog w K mg base "is_sized" 1 (spP K S_is_sized) := Cal.of F_is_sized (PySem.W.mg_of X G a_is_sized) b_is_sized (ok_is_sized F_is_sized T )
  have g_common : Cal l.prog w K mg base "common" 1 (spP K S_common) := Cal.of F_common (PySem.W.mg_of X G a_common) b_common (ok_common F_common T )
  have g_unlike_counts : Cal l.prog w K mg base "unlike_counts" 1 (spP K S_unlike_counts) := Cal.of F_unlike_counts (PySem.W.mg_of X G a_unlike_counts) b_unlike_counts (ok_unlike_counts F_unlike_counts T )
  have g_pow_inverse : Cal l.prog w K mg base "pow_inverse" 1 (spP K S_pow_inverse) := Cal.of F_pow_inverse (PySem.W.mg_of X G a_pow_inverse) b_pow_inverse (ok_pow_inverse F_pow_inverse T )
  have g_made_top : Cal l.prog w K mg base "made_top" 1 (spP K S_made_top) := Cal.of F_made_top (PySem.W.mg_of X G a_made_top) b_made_top (ok_made_top F_made_top T )
  have g_cross : Cal l.prog w K mg base "cross" 1 (spP K S_cross) := Cal.of F_cross (PySem.W.mg_of X G a_cross) b_cross (ok_cross F_cross T )
  have g_turn_at : Cal l.prog w K mg base "turn_at" 1 (spP K S_turn_at) := Cal.of F_turn_at (PySem.W.mg_of X G a_turn_at) b_turn_at (ok_turn_at F_turn_at T )
  have g_sides_of : Cal l.prog w K mg base "sides_of" 1 (spP K S_sides_of) := Cal.of F_sides_of (PySem.W.mg_of X G a_sides_of) b_sides_of (ok_sides_of F_sides_of T )
  have g_sign_of : Cal l.prog w K mg base "sign_of" 1 (spP K S_sign_of) := Cal.of F_sign_of (PySem.W.mg_of X G a_sign_of) b_sign_of (ok_sign_of F_sign_of T )
  have g__law_hand : Cal l.prog w K mg base "_law_hand" 1 (spN K S__law_hand) := Cal.of F__law_hand (PySem.W.mg_of X G a__law_hand) b__law_hand (ok__law_hand F__law_hand T )
  have g__law_draw : Cal l.prog w K mg base "_law_draw" 1 (spH K S__law_draw) := Cal.of F__law_draw (PySem.W.mg_of X G a__law_draw) b__law_draw (ok__law_draw F__law_draw T )
  have g__law_gcd : Cal l.prog w K mg base "_law_gcd" 1 (spP K S__law_gcd) := Cal.of F__law_gcd (PySem.W.mg_of X G a__law_gcd) b__law_gcd (ok__law_gcd F__law_gcd T )
  have g_is_within : Cal l.prog w K mg base "is_within" 2 (spP K S_is_within) := Cal.of F_is_within (PySem.W.mg_of X G a_is_within) b_is_within (ok_is_within F_is_within T g_is_integer)
  have g_is_ratio : Cal l.prog w K mg base "is_ratio" 2 (spP K S_is_ratio) := Cal.of F_is_ratio (PySem.W.mg_of X G a_is_ratio) b_is_ratio (ok_is_ratio F_is_ratio T g_is_sized g_is_integer g_common)
  have g_next_of : Cal l.prog w K mg base "next_of" 2 (spP K S_next_of) := Cal.of F_next_of (PySem.W.mg_of X G a_next_of) b_next_of (ok_next_of F_next_of T g_pow_inverse g_made_top)
  have g_lies_on : Cal l.prog w K mg base "lies_on" 2 (spP K S_lies_on) := Cal.of F_lies_on (PySem.W.mg_of X G a_lies_on) b_lies_on (ok_lies_on F_lies_on T g_turn_at)
  have g_doubled : Cal l.prog w K mg base "doubled" 2 (spP K S_doubled) := Cal.of F_doubled (PySem.W.mg_of X G a_doubled) b_doubled (ok_doubled F_doubled T g_sides_of)
  have g_points_on : Cal l.prog w K mg base "points_on" 2 (spP K S_points_on) := Cal.of F_points_on (PySem.W.mg_of X G a_points_on) b_points_on (ok_points_on F_points_on T g_sides_of g_common)
  have g__law_any : Cal l.prog w K mg base "_law_any" 2 (spH K S__law_any) := Cal.of F__law_any (PySem.W.mg_of X G a__law_any) b__law_any (ok__law_any F__law_any T g__law_draw)
  have g__law_pairs : Cal l.prog w K mg base "_law_pairs" 2 (spP K S__law_pairs) := Cal.of F__law_pairs (PySem.W.mg_of X G a__law_pairs) b__law_pairs (ok__law_pairs F__law_pairs T g__law_gcd)
  have g_check_ratio : Cal l.prog w K mg base "check_ratio" 3 (spP K S_check_ratio) := Cal.of F_check_ratio (PySem.W.mg_of X G a_check_ratio) b_check_ratio (ok_check_ratio F_check_ratio T g_is_ratio)
  have g_check_count : Cal l.prog w K mg base "check_count" 3 (spP K S_check_count) := Cal.of F_check_count (PySem.W.mg_of X G a_check_count) b_check_count (ok_check_count F_check_count T g_is_within)
  have g_is_point : Cal l.prog w K mg base "is_point" 3 (spP K S_is_point) := Cal.of F_is_point (PySem.W.mg_of X G a_is_point) b_is_point (ok_is_point F_is_point T g_is_sized g_is_within)
  have g_do_meet : Cal l.prog w K mg base "do_meet" 3 (spP K S_do_meet) := Cal.of F_do_meet (PySem.W.mg_of X G a_do_meet) b_do_meet (ok_do_meet F_do_meet T g_lies_on g_sign_of g_turn_at)
  have g_check_ratios : Cal l.prog w K mg base "check_ratios" 4 (spP K S_check_ratios) := Cal.of F_check_ratios (PySem.W.mg_of X G a_check_ratios) b_check_ratios (ok_check_ratios F_check_ratios T g_check_ratio)
  have g_row_count : Cal l.prog w K mg base "row_count" 4 (spP K S_row_count) := Cal.of F_row_count (PySem.W.mg_of X G a_row_count) b_row_count (ok_row_count F_row_count T g_check_count g_unlike_counts)
  have g_with_bottom : Cal l.prog w K mg base "with_bottom" 4 (spP K S_with_bottom) := Cal.of F_with_bottom (PySem.W.mg_of X G a_with_bottom) b_with_bottom (ok_with_bottom F_with_bottom T g_check_count g_unlike_counts)
  have g_row_of : Cal l.prog w K mg base "row_of" 4 (spP K S_row_of) := Cal.of F_row_of (PySem.W.mg_of X G a_row_of) b_row_of (ok_row_of F_row_of T g_check_count g_next_of)
  have g_check_in : Cal l.prog w K mg base "check_in" 4 (spP K S_check_in) := Cal.of F_check_in (PySem.W.mg_of X G a_check_in) b_check_in (ok_check_in F_check_in T g_check_count g_is_ratio)
  have g_is_figure : Cal l.prog w K mg base "is_figure" 4 (spF K S_is_figure) := Cal.of F_is_figure (PySem.W.mg_of X G a_is_figure) b_is_figure (ok_is_figure F_is_figure T g_is_sized g_is_point g_doubled g_turn_at g_sides_of g_do_meet)
  have g_next_in : Cal l.prog w K mg base "next_in" 5 (spP K S_next_in) := Cal.of F_next_in (PySem.W.mg_of X G a_next_in) b_next_in (ok_next_in F_next_in T g_check_in g_next_of)
  have g_before_in : Cal l.prog w K mg base "before_in" 5 (spP K S_before_in) := Cal.of F_before_in (PySem.W.mg_of X G a_before_in) b_before_in (ok_before_in F_before_in T g_check_in g_next_of)
  have g_circles : Cal l.prog w K mg base "circles" 5 (spP K S_circles) := Cal.of F_circles (PySem.W.mg_of X G a_circles) b_circles (ok_circles F_circles T g_check_ratios g_cross)
  have g_check_figure : Cal l.prog w K mg base "check_figure" 5 (spF K S_check_figure) := Cal.of F_check_figure (PySem.W.mg_of X G a_check_figure) b_check_figure (ok_check_figure F_check_figure T g_is_figure)
  have g_double_area : Cal l.prog w K mg base "double_area" 6 (spF K S_double_area) := Cal.of F_double_area (PySem.W.mg_of X G a_double_area) b_double_area (ok_double_area F_double_area T g_check_figure g_doubled)
  have g_on_sides : Cal l.prog w K mg base "on_sides" 6 (spF K S_on_sides) := Cal.of F_on_sides (PySem.W.mg_of X G a_on_sides) b_on_sides (ok_on_sides F_on_sides T g_check_figure g_points_on)
  have g_inside : Cal l.prog w K mg base "inside" 6 (spF K S_inside) := Cal.of F_inside (PySem.W.mg_of X G a_inside) b_inside (ok_inside F_inside T g_check_figure g_doubled g_points_on)
  have g__law_is_count_right : Cal l.prog w K mg base "_law_is_count_right" 6 (spH K S__law_is_count_right) := Cal.of F__law_is_count_right (PySem.W.mg_of X G a__law_is_count_right) b__law_is_count_right (ok__law_is_count_right F__law_is_count_right T g__law_draw g__law_gcd g_with_bottom g_row_count g__law_any g_next_in g_before_in)
  have g__law_is_row_right : Cal l.prog w K mg base "_law_is_row_right" 7 (spH K S__law_is_row_right) := Cal.of F__law_is_row_right (PySem.W.mg_of X G a__law_is_row_right) b__law_is_row_right (ok__law_is_row_right F__law_is_row_right T g__law_any g__law_draw g__law_pairs g_row_of g_row_count g_next_in g_before_in g_circles g_double_area g_inside g_on_sides)
  exact ok_law F_law T g__law_hand g_row_of g_row_count g__law_is_row_right g__law_is_count_right
theorem law_in (K : Fg) (H : Hp) (a : Addr) (ns : List Int) (hl : ns.length ≤ 63) (h : SqL K H a (ns.map V.int)) : spP K S_law [.ref a] H (fun v _ => v = .bl true) fun _ _ _ => False := by
  refine ⟨H, [.list (ns.map .int)], fun d => d = .bool true, Evl.Ex.refl H, .cons (.lst h (ints_dpa ns)) .nil, ⟨ns, rfl, hl, rfl⟩, fun d v H' e x z => ?_⟩
  subst e
  cases z
  rfl
end Wk
open PySem PySem.W PyProof.Rows
set_option maxRecDepth 100000 in
set_option maxHeartbeats 0 in
theorem PySem.Challenge.cw_ratiohouse_k03_whole_neighbours_as_pairs_holds : PySem.Challenge.rw_ratiohouse_k03_whole_neighbours_as_pairs.Holds := by
  w_on; o_law; k_head; (case hw => w_witness2)
  k_fill
  refine L2.walk_ofK (l := PySem.Challenge.rw_ratiohouse_k03_whole_neighbours_as_pairs) (n := 63) (k := 8) (x := "script") (CX := L2.CX0) (sp := fun K => Wk.spP K Wk.S_law) rfl (by decide) rfl ⟨rfl, by decide, by decide⟩ (fun w h Y => PySem.W.kIn_of Y) ?F (fun K H a ns hl _ hS => Wk.law_in K H a ns hl hS) (fun _ _ _ _ z => z)
  case F =>
    intro w mg fa h KX G hmg
    refine' Wk.all_mk KX G hmg ?a_is_integer ?l_is_integer ?c_is_integer ?k_is_integer ?a_is_sized ?l_is_sized ?c_is_sized ?k_is_sized ?a_common ?l_common ?c_common ?k_common ?a_unlike_counts ?l_unlike_counts ?c_unlike_counts ?k_unlike_counts ?a_pow_inverse ?l_pow_inverse ?c_pow_inverse ?k_pow_inverse ?a_made_top ?l_made_top ?c_made_top ?k_made_top ?a_cross ?l_cross ?c_cross ?k_cross ?a_turn_at ?l_turn_at ?c_turn_at ?k_turn_at ?a_sides_of ?l_sides_of ?c_sides_of ?k_sides_of ?a_sign_of ?l_sign_of ?c_sign_of ?k_sign_of ?a__law_hand ?l__law_hand ?c__law_hand ?k__law_hand ?a__law_draw ?l__law_draw ?c__law_draw ?k__law_draw ?a__law_gcd ?l__law_gcd ?c__law_gcd ?k__law_gcd ?a_is_within ?l_is_within ?c_is_within ?k_is_within ?a_is_ratio ?l_is_ratio ?c_is_ratio ?k_is_ratio ?a_next_of ?l_next_of ?c_next_of ?k_next_of ?a_lies_on ?l_lies_on ?c_lies_on ?k_lies_on ?a_doubled ?l_doubled ?c_doubled ?k_doubled ?a_points_on ?l_points_on ?c_points_on ?k_points_on ?a__law_any ?l__law_any ?c__law_any ?k__law_any ?a__law_pairs ?l__law_pairs ?c__law_pairs ?k__law_pairs ?a_check_ratio ?l_check_ratio ?c_check_ratio ?k_check_ratio ?a_check_count ?l_check_count ?c_check_count ?k_check_count ?a_is_point ?l_is_point ?c_is_point ?k_is_point ?a_do_meet ?l_do_meet ?c_do_meet ?k_do_meet ?a_check_ratios ?l_check_ratios ?c_check_ratios ?k_check_ratios ?a_row_count ?l_row_count ?c_row_count ?k_row_count ?a_with_bottom ?l_with_bottom ?c_with_bottom ?k_with_bottom ?a_row_of ?l_row_of ?c_row_of ?k_row_of ?a_check_in ?l_check_in ?c_check_in ?k_check_in ?a_is_figure ?l_is_figure ?c_is_figure ?k_is_figure ?a_next_in ?l_next_in ?c_next_in ?k_next_in ?a_before_in ?l_before_in ?c_before_in ?k_before_in ?a_circles ?l_circles ?c_circles ?k_circles ?a_check_figure ?l_check_figure ?c_check_figure ?k_check_figure ?a_double_area ?l_double_area ?c_double_area ?k_double_area ?a_on_sides ?l_on_sides ?c_on_sides ?k_on_sides ?a_inside ?l_inside ?c_inside ?k_inside ?a__law_is_count_right ?l__law_is_count_right ?c__law_is_count_right ?k__law_is_count_right ?a__law_is_row_right ?l__law_is_row_right ?c__law_is_row_right ?k__law_is_row_right ?a_law ?l_law ?c_law ?k_law ?z_abs ?z_all ?z_any ?z_bool ?z_int ?z_isinstance ?z_len ?z_list ?z_max ?z_min ?z_range ?z_sorted ?z_sum ?z_tuple ?z_zip ?m_MOST_DIGITS ?m_MOST_PLACE ?m_MOST_ROW ?m_MOST_SHOWN
    (case a_is_integer => k_is)
    (case l_is_integer => k_is)
    (case c_is_integer => k_is)
    (case k_is_integer => k_is)
    (case a_is_sized => k_is)
    (case l_is_sized => k_is)
    (case c_is_sized => k_is)
    (case k_is_sized => k_is)
    (case a_common => k_is)
    (case l_common => k_is)
    (case c_common => k_is)
    (case k_common => k_is)
    (case a_unlike_counts => k_is)
    (case l_unlike_counts => k_is)
    (case c_unlike_counts => k_is)
    (case k_unlike_counts => k_is)
    (case a_pow_inverse => k_is)
    (case l_pow_inverse => k_is)
    (case c_pow_inverse => k_is)
    (case k_pow_inverse => k_is)
    (case a_made_top => k_is)
    (case l_made_top => k_is)
    (case c_made_top => k_is)
    (case k_made_top => k_is)
    (case a_cross => k_is)
    (case l_cross => k_is)
    (case c_cross => k_is)
    (case k_cross => k_is)
    (case a_turn_at => k_is)
    (case l_turn_at => k_is)
    (case c_turn_at => k_is)
    (case k_turn_at => k_is)
    (case a_sides_of => k_is)
    (case l_sides_of => k_is)
    (case c_sides_of => k_is)
    (case k_sides_of => k_is)
    (case a_sign_of => k_is)
    (case l_sign_of => k_is)
    (case c_sign_of => k_is)
    (case k_sign_of => k_is)
    (case a__law_hand => k_is)
    (case l__law_hand => k_is)
    (case c__law_hand => k_is)
    (case k__law_hand => k_is)
    (case a__law_draw => k_is)
    (case l__law_draw => k_is)
    (case c__law_draw => k_is)
    (case k__law_draw => k_is)
    (case a__law_gcd => k_is)
    (case l__law_gcd => k_is)
    (case c__law_gcd => k_is)
    (case k__law_gcd => k_is)
    (case a_is_within => k_is)
    (case l_is_within => k_is)
    (case c_is_within => k_is)
    (case k_is_within => k_is)
    (case a_is_ratio => k_is)
    (case l_is_ratio => k_is)
    (case c_is_ratio => k_is)
    (case k_is_ratio => k_is)
    (case a_next_of => k_is)
    (case l_next_of => k_is)
    (case c_next_of => k_is)
    (case k_next_of => k_is)
    (case a_lies_on => k_is)
    (case l_lies_on => k_is)
    (case c_lies_on => k_is)
    (case k_lies_on => k_is)
    (case a_doubled => k_is)
    (case l_doubled => k_is)
    (case c_doubled => k_is)
    (case k_doubled => k_is)
    (case a_points_on => k_is)
    (case l_points_on => k_is)
    (case c_points_on => k_is)
    (case k_points_on => k_is)
    (case a__law_any => k_is)
    (case l__law_any => k_is)
    (case c__law_any => k_is)
    (case k__law_any => k_is)
    (case a__law_pairs => k_is)
    (case l__law_pairs => k_is)
    (case c__law_pairs => k_is)
    (case k__law_pairs => k_is)
    (case a_check_ratio => k_is)
    (case l_check_ratio => k_is)
    (case c_check_ratio => k_is)
    (case k_check_ratio => k_is)
    (case a_check_count => k_is)
    (case l_check_count => k_is)
    (case c_check_count => k_is)
    (case k_check_count => k_is)
    (case a_is_point => k_is)
    (case l_is_point => k_is)
    (case c_is_point => k_is)
    (case k_is_point => k_is)
    (case a_do_meet => k_is)
    (case l_do_meet => k_is)
    (case c_do_meet => k_is)
    (case k_do_meet => k_is)
    (case a_check_ratios => k_is)
    (case l_check_ratios => k_is)
    (case c_check_ratios => k_is)
    (case k_check_ratios => k_is)
    (case a_row_count => k_is)
    (case l_row_count => k_is)
    (case c_row_count => k_is)
    (case k_row_count => k_is)
    (case a_with_bottom => k_is)
    (case l_with_bottom => k_is)
    (case c_with_bottom => k_is)
    (case k_with_bottom => k_is)
    (case a_row_of => k_is)
    (case l_row_of => k_is)
    (case c_row_of => k_is)
    (case k_row_of => k_is)
    (case a_check_in => k_is)
    (case l_check_in => k_is)
    (case c_check_in => k_is)
    (case k_check_in => k_is)
    (case a_is_figure => k_is)
    (case l_is_figure => k_is)
    (case c_is_figure => k_is)
    (case k_is_figure => k_is)
    (case a_next_in => k_is)
    (case l_next_in => k_is)
    (case c_next_in => k_is)
    (case k_next_in => k_is)
    (case a_before_in => k_is)
    (case l_before_in => k_is)
    (case c_before_in => k_is)
    (case k_before_in => k_is)
    (case a_circles => k_is)
    (case l_circles => k_is)
    (case c_circles => k_is)
    (case k_circles => k_is)
    (case a_check_figure => k_is)
    (case l_check_figure => k_is)
    (case c_check_figure => k_is)
    (case k_check_figure => k_is)
    (case a_double_area => k_is)
    (case l_double_area => k_is)
    (case c_double_area => k_is)
    (case k_double_area => k_is)
    (case a_on_sides => k_is)
    (case l_on_sides => k_is)
    (case c_on_sides => k_is)
    (case k_on_sides => k_is)
    (case a_inside => k_is)
    (case l_inside => k_is)
    (case c_inside => k_is)
    (case k_inside => k_is)
    (case a__law_is_count_right => k_is)
    (case l__law_is_count_right => k_is)
    (case c__law_is_count_right => k_is)
    (case k__law_is_count_right => k_is)
    (case a__law_is_row_right => k_is)
    (case l__law_is_row_right => k_is)
    (case c__law_is_row_right => k_is)
    (case k__law_is_row_right => k_is)
    (case a_law => k_is)
    (case l_law => k_is)
    (case c_law => k_is)
    (case k_law => k_is)
    (case z_abs => k_is)
    (case z_all => k_is)
    (case z_any => k_is)
    (case z_bool => k_is)
    (case z_int => k_is)
    (case z_isinstance => k_is)
    (case z_len => k_is)
    (case z_list => k_is)
    (case z_max => k_is)
    (case z_min => k_is)
    (case z_range => k_is)
    (case z_sorted => k_is)
    (case z_sum => k_is)
    (case z_tuple => k_is)
    (case z_zip => k_is)
    (case m_MOST_DIGITS => k_is)
    (case m_MOST_PLACE => k_is)
    (case m_MOST_ROW => k_is)
    (case m_MOST_SHOWN => k_is)
#print axioms PySem.Challenge.cw_ratiohouse_k03_whole_neighbours_as_pairs_holds
