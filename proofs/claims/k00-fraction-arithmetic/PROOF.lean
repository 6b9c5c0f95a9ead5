import PyProof.Rows.All
import HandS.ForMost
import HandS.ForExc
import HandS.IsInst
import HandS.Gcd
import HandS.Wide
import HandS.Defaults
import HandS.Style
import HandS.Zip
import HandS.ExcInit
import HandS.ExcField
import HandS.CallSlots
import HandS.HotCalls
import KE.KExcIs
import HandS.HeadHook4
import HandS.Head3
import HandS.HeadEnd
import PySem.Challenge.RW_marketscleared_k00_fraction_arithmetic
set_option Elab.async false
set_option linter.all false
set_option maxRecDepth 100000
set_option maxHeartbeats 4000000
set_option autoImplicit false
/-! DL: a layer of pure data over HandS: slots hold data (ints, bools, texts, tuples, lists, instances); heaps are not seen by the prover. -/
namespace DL
open PySem PySem.Spec PyProof.Rows L2

/-! ### data -/
inductive Dt where
  | non | bl (b : Bool) | int (i : Int) | str (x : Str) | ref (a : Addr) | ty (n : String)
  | tup (ds : List Dt) | lst (ds : List Dt) | ins (C : Addr) (fs : List (Str × Dt)) | exc (a C dd : Addr) (fs : List (Str × Dt))
mutual
def Rep (K : PySem.W.Frag) (G : Hp) : Dt → V → Prop
  | .non, v => v = .non
  | .bl b, v => v = .bl b
  | .int b, v => v = .int b
  | .str b, v => v = .str b
  | .ref b, v => v = .ref b
  | .ty b, v => v = .ty b
  | .tup ds, v => ∃ a xs, v = .ref a ∧ SqT K G a xs ∧ Reps K G ds xs
  | .lst ds, v => ∃ a xs, v = .ref a ∧ SqL K G a xs ∧ Reps K G ds xs
  | .ins C fs, v => ∃ a dx xs, v = .ref a ∧ G a = some (.ins C dx xs) ∧ RepF K G fs xs
  | .exc a _ dd fs, v => v = .ref a ∧ ∃ xs, G dd = some (.xd xs) ∧ RepF K G fs xs
def Reps (K : PySem.W.Frag) (G : Hp) : List Dt → List V → Prop
  | [], vs => vs = []
  | d :: ds, vs => ∃ v r, vs = v :: r ∧ Rep K G d v ∧ Reps K G ds r
def RepF (K : PySem.W.Frag) (G : Hp) : List (Str × Dt) → List (Str × V) → Prop
  | [], vs => vs = []
  | (x, d) :: ds, vs => ∃ v r, vs = (x, v) :: r ∧ Rep K G d v ∧ RepF K G ds r
end
section
variable {K : PySem.W.Frag} {G G' : Hp}
theorem Same.seqT {H H' : Hp} {a : Addr} {xs : List V} (e : Same H H') (h : SqT K H a xs) : SqT K H' a xs := by
  rcases h with (h | ⟨o, h⟩) | h
  · exact .inl (.inl (e _ _ h))
  · exact .inl (.inr ⟨o, e _ _ h⟩)
  · exact .inr h
mutual
theorem Rep.mono (e : Same G G') : ∀ (d : Dt) (v : V), Rep K G d v → Rep K G' d v
  | .non, _, h => h
  | .bl b, _, h => h
  | .int b, _, h => h
  | .str b, _, h => h
  | .ref b, _, h => h
  | .ty b, _, h => h
  | .tup ds, _, h => by
    obtain ⟨a, xs, h1, h2, h3⟩ := h
    exact ⟨a, xs, h1, Same.seqT e h2, Reps.mono e ds xs h3⟩
  | .lst ds, _, h => by
    obtain ⟨a, xs, h1, h2, h3⟩ := h
    exact ⟨a, xs, h1, e.seq h2, Reps.mono e ds xs h3⟩
  | .ins C fs, _, h => by
    obtain ⟨a, dx, xs, h1, h2, h3⟩ := h
    exact ⟨a, dx, xs, h1, e _ _ h2, RepF.mono e fs xs h3⟩
  | .exc _ _ dd fs, _, h => by
    obtain ⟨h1, xs, h2, h3⟩ := h
    exact ⟨h1, xs, e _ _ h2, RepF.mono e fs xs h3⟩
theorem Reps.mono (e : Same G G') : ∀ (ds : List Dt) (vs : List V), Reps K G ds vs → Reps K G' ds vs
  | [], _, h => h
  | d :: ds, _, h => by
    obtain ⟨v, r, h1, h2, h3⟩ := h
    exact ⟨v, r, h1, Rep.mono e d v h2, Reps.mono e ds r h3⟩
theorem RepF.mono (e : Same G G') : ∀ (ds : List (Str × Dt)) (vs : List (Str × V)), RepF K G ds vs → RepF K G' ds vs
  | [], _, h => h
  | (x, d) :: ds, _, h => by
    obtain ⟨v, r, h1, h2, h3⟩ := h
    exact ⟨v, r, h1, Rep.mono e d v h2, RepF.mono e ds r h3⟩
end
theorem Reps.length : ∀ {ds : List Dt} {vs : List V}, Reps K G ds vs → vs.length = ds.length
  | [], _, h => by rw [show _ = [] from h]; rfl
  | d :: ds, _, h => by
    obtain ⟨v, r, rfl, _, h3⟩ := h
    rw [List.length_cons, List.length_cons, Reps.length h3]
theorem Reps.get : ∀ {ds : List Dt} {vs : List V} {i : Nat} {d : Dt}, Reps K G ds vs → ds[i]? = some d → ∃ v, vs[i]? = some v ∧ Rep K G d v
  | [], _, _, _, _, e => by simp at e
  | d :: ds, _, 0, _, h, e => by
    obtain ⟨v, r, rfl, h2, _⟩ := h
    have e1 : d = _ := Option.some.inj e
    subst e1
    exact ⟨v, rfl, h2⟩
  | d :: ds, _, i + 1, _, h, e => by
    obtain ⟨v, r, rfl, _, h3⟩ := h
    exact Reps.get (i := i) h3 e
theorem Reps.get' : ∀ {ds : List Dt} {vs : List V} {i : Nat} {v : V}, Reps K G ds vs → vs[i]? = some v → ∃ d, ds[i]? = some d ∧ Rep K G d v
  | [], _, _, _, h, e => by rw [show _ = [] from h] at e; simp at e
  | d :: ds, _, 0, _, h, e => by
    obtain ⟨v, r, rfl, h2, _⟩ := h
    have e1 : v = _ := Option.some.inj e
    subst e1
    exact ⟨d, rfl, h2⟩
  | d :: ds, _, i + 1, _, h, e => by
    obtain ⟨v, r, rfl, _, h3⟩ := h
    exact Reps.get' (i := i) h3 e
theorem Reps.append : ∀ {ds es : List Dt} {vs ws : List V}, Reps K G ds vs → Reps K G es ws → Reps K G (ds ++ es) (vs ++ ws)
  | [], _, _, _, h, q => by rw [show _ = [] from h]; exact q
  | d :: ds, _, _, _, h, q => by
    obtain ⟨v, r, rfl, h2, h3⟩ := h
    exact ⟨v, r ++ _, rfl, h2, Reps.append h3 q⟩
theorem Reps.one {d : Dt} {v : V} (h : Rep K G d v) : Reps K G [d] [v] := ⟨v, [], rfl, h, rfl⟩
theorem Reps.take : ∀ {ds : List Dt} {vs : List V} (n : Nat), Reps K G ds vs → Reps K G (ds.take n) (vs.take n)
  | _, _, 0, _ => rfl
  | [], _, n + 1, h => by rw [show _ = [] from h]; rfl
  | d :: ds, _, n + 1, h => by
    obtain ⟨v, r, rfl, h2, h3⟩ := h
    exact ⟨v, r.take n, rfl, h2, Reps.take n h3⟩
theorem Reps.drop : ∀ {ds : List Dt} {vs : List V} (n : Nat), Reps K G ds vs → Reps K G (ds.drop n) (vs.drop n)
  | _, _, 0, h => h
  | [], _, n + 1, h => by rw [show _ = [] from h]; rfl
  | d :: ds, _, n + 1, h => by
    obtain ⟨v, r, rfl, h2, h3⟩ := h
    exact Reps.drop n h3
theorem Reps.set : ∀ {ds : List Dt} {vs : List V} (i : Nat) {d : Dt} {v : V}, Reps K G ds vs → Rep K G d v → Reps K G (ds.set i d) (vs.set i v)
  | [], _, i, _, _, h, _ => by rw [show _ = [] from h]; rfl
  | e :: ds, _, 0, _, _, h, q => by
    obtain ⟨v, r, rfl, h2, h3⟩ := h
    exact ⟨_, r, rfl, q, h3⟩
  | e :: ds, _, i + 1, _, _, h, q => by
    obtain ⟨v, r, rfl, h2, h3⟩ := h
    exact ⟨v, r.set i _, rfl, h2, Reps.set i h3 q⟩
theorem Reps.rep {d : Dt} {v : V} (h : Rep K G d v) : ∀ n : Nat, Reps K G (List.replicate n d) (List.replicate n v)
  | 0 => rfl
  | n + 1 => ⟨v, List.replicate n v, rfl, h, Reps.rep h n⟩
theorem RepF.look : ∀ {ds : List (Str × Dt)} {vs : List (Str × V)} {f : Str} {d : Dt}, RepF K G ds vs → ds.lookup f = some d → ∃ v, vs.lookup f = some v ∧ Rep K G d v
  | [], _, _, _, _, e => by simp at e
  | (x, d) :: ds, _, f, _, h, e => by
    obtain ⟨v, r, rfl, h2, h3⟩ := h
    rw [List.lookup_cons] at e ⊢
    cases hb : f == x with
    | true =>
      rw [hb] at e
      have e1 : d = _ := Option.some.inj e
      subst e1
      exact ⟨v, rfl, h2⟩
    | false =>
      rw [hb] at e
      exact RepF.look h3 e
/-- a list of ints -/
theorem reps_ints : ∀ {ns : List Int} {vs : List V}, Reps K G (ns.map Dt.int) vs → vs = ns.map V.int
  | [], _, h => h
  | n :: ns, _, h => by
    obtain ⟨v, r, rfl, h2, h3⟩ := h
    rw [show v = .int n from h2, reps_ints h3]
    rfl
theorem reps_of_ints : ∀ (ns : List Int), Reps K G (ns.map Dt.int) (ns.map V.int)
  | [] => rfl
  | n :: ns => ⟨_, _, rfl, rfl, reps_of_ints ns⟩
theorem reps_bls : ∀ {ns : List Bool} {vs : List V}, Reps K G (ns.map Dt.bl) vs → vs = ns.map V.bl
  | [], _, h => h
  | n :: ns, _, h => by
    obtain ⟨v, r, rfl, h2, h3⟩ := h
    rw [show v = .bl n from h2, reps_bls h3]
    rfl
end

/-! ### what is hidden: lists that a def owns -/
def hid (O : List Addr) (H : Hp) : Hp := fun a => if a ∈ O then none else H a
section
variable {O O' : List Addr} {H H' : Hp} {p : Addr} {o : HO}
theorem hid_in (h : p ∈ O) : hid O H p = none := by unfold hid; rw [if_pos h]
theorem hid_out (h : p ∉ O) : hid O H p = H p := by unfold hid; rw [if_neg h]
theorem hid_le : Same (hid O H) H := fun a o e => by
  by_cases h : a ∈ O
  · rw [hid_in h] at e; cases e
  · rw [hid_out h] at e; exact e
theorem hid_mono (s : Same H H') : Same (hid O H) (hid O H') := fun a o e => by
  by_cases h : a ∈ O
  · rw [hid_in h] at e; cases e
  · rw [hid_out h] at e ⊢; exact s a o e
theorem hid_sub (s : ∀ p ∈ O', p ∈ O) : Same (hid O H) (hid O' H) := fun a o e => by
  by_cases h : a ∈ O
  · rw [hid_in h] at e; cases e
  · rw [hid_out h] at e
    rw [hid_out fun z => h (s a z)]
    exact e
theorem same_upd (h : H p = none) : Same H (upd H p o) := fun b x e => by
  rw [upd_ne (ne_of_none e h)]
  exact e
/-- a hidden thing changes -/
theorem hid_upd (h : p ∈ O) : hid O (upd H p o) = hid O H := by
  funext a
  by_cases ha : a ∈ O
  · rw [hid_in ha, hid_in ha]
  · rw [hid_out ha, hid_out ha, upd_ne fun e => ha (by rw [e]; exact h)]
theorem same_mut {B : Hp} (s : Same B H) (h : B p = none) : Same B (upd H p o) := fun b x e => by
  rw [upd_ne (ne_of_none e h)]
  exact s b x e
end

/-! ### slots -/
inductive Sl where
  | any | dat (d : Dt) | own (ds : List Dt)
abbrev PEnv := List Sl
def SlOk (K : PySem.W.Frag) (O0 O : List Addr) (H : Hp) : Sl → Option (Option V) → Prop
  | .any, _ => True
  | .dat d, x => ∃ v, x = some (some v) ∧ Rep K (hid (O0 ++ O) H) d v
  | .own ds, x => ∃ p xs, x = some (some (.ref p)) ∧ p ∈ O ∧ H p = some (.lst xs) ∧ Reps K (hid (O0 ++ O) H) ds xs
structure OkH (O0 : List Addr) (B : Hp) (O : List Addr) (H : Hp) : Prop where
  dom : ∀ p ∈ O0 ++ O, H p ≠ none
  ext : Same B H
  fr : ∀ p ∈ O, B p = none
  no0 : ∀ p ∈ O, p ∉ O0
structure Ok (K : PySem.W.Frag) (O0 : List Addr) (B : Hp) (O : List Addr) (σ : L2.St) (ρ : PEnv) (H : Hp) : Prop where
  h : OkH O0 B O H
  len : ρ.length = σ.length
  sl : ∀ (i : Nat) (s : Sl), ρ[i]? = some s → SlOk K O0 O H s σ[i]?
  dis : ∀ (i j : Nat) (ds es : List Dt) (p : Addr), ρ[i]? = some (.own ds) → ρ[j]? = some (.own es) → σ[i]? = some (some (.ref p)) → σ[j]? = some (some (.ref p)) → i = j
section
variable {K : PySem.W.Frag} {O0 O : List Addr} {B B' H H' : Hp} {σ : L2.St} {ρ : PEnv}
theorem OkH.mono (k : OkH O0 B O H) (s : Same H H') : OkH O0 B O H' :=
  ⟨fun p hp e => k.dom p hp (s.free e), k.ext.trans s, k.fr, k.no0⟩
theorem OkH.out (k : OkH O0 B O H) {p : Addr} (h : H p = none) : p ∉ O0 ++ O := fun z => k.dom p z h
theorem OkH.base (k : OkH O0 B' O H) (s : Same B B') : OkH O0 B O H := ⟨k.dom, s.trans k.ext, fun p hp => s.free (k.fr p hp), k.no0⟩
/-- all that is not owned is kept from here on -/
theorem OkH.deep (k : OkH O0 B O H) : OkH O0 (hid O H) O H := ⟨k.dom, hid_le, fun p hp => hid_in hp, k.no0⟩
theorem OkH.deepS (k : OkH O0 B O H) : Same B (hid O H) := fun a o e => by
  rw [hid_out fun z => by rw [k.fr a z] at e; cases e]
  exact k.ext a o e
theorem SlOk.mono {s : Sl} {x : Option (Option V)} (h : SlOk K O0 O H s x) (e : Same H H') : SlOk K O0 O H' s x := by
  cases s with
  | any => exact True.intro
  | dat d =>
    obtain ⟨v, h1, h2⟩ := h
    exact ⟨v, h1, Rep.mono (hid_mono e) d v h2⟩
  | own ds =>
    obtain ⟨p, xs, h1, h2, h3, h4⟩ := h
    exact ⟨p, xs, h1, h2, e _ _ h3, Reps.mono (hid_mono e) ds xs h4⟩
theorem Ok.mono (k : Ok K O0 B O σ ρ H) (e : Same H H') : Ok K O0 B O σ ρ H' := ⟨k.h.mono e, k.len, fun i s hs => (k.sl i s hs).mono e, k.dis⟩
theorem Ok.base (k : Ok K O0 B' O σ ρ H) (s : Same B B') : Ok K O0 B O σ ρ H := ⟨k.h.base s, k.len, k.sl, k.dis⟩
theorem Ok.deep (k : Ok K O0 B O σ ρ H) : Ok K O0 (hid O H) O σ ρ H := ⟨k.h.deep, k.len, k.sl, k.dis⟩
/-- what was known of unowned things stays known -/
theorem OkH.know {O1 : List Addr} {H1 : Hp} (k : OkH O0 (hid O H) O1 H1) : Same (hid (O0 ++ O) H) (hid (O0 ++ O1) H1) := fun a o e => by
  have ha : a ∉ O0 ++ O := fun z => by rw [hid_in z] at e; cases e
  rw [hid_out ha] at e
  have h1 : hid O H a = some o := by
    rw [hid_out fun z => ha (List.mem_append_right _ z)]
    exact e
  have h2 : a ∉ O1 := fun z => by
    rw [k.fr a z] at h1
    cases h1
  rw [hid_out fun z => (List.mem_append.mp z).elim (fun z => ha (List.mem_append_left _ z)) h2]
  exact k.ext a o h1
theorem Ok.set (k : Ok K O0 B O σ ρ H) {i : Nat} {d : Dt} {v : V} (r : Rep K (hid (O0 ++ O) H) d v) : Ok K O0 B O (σ.set i (some v)) (ρ.set i (.dat d)) H := by
  refine ⟨k.h, by rw [List.length_set, List.length_set]; exact k.len, fun j s hs => ?_, fun a b ds es p h1 h2 h3 h4 => ?_⟩
  · by_cases e : i = j
    · subst e
      by_cases hi : i < ρ.length
      · rw [List.getElem?_set_self hi] at hs
        cases hs
        exact ⟨v, List.getElem?_set_self (by rw [← k.len]; exact hi), r⟩
      · rw [List.getElem?_eq_none (by rw [List.length_set]; omega)] at hs
        cases hs
    · rw [List.getElem?_set_ne e] at hs ⊢
      exact k.sl j s hs
  · have na : i ≠ a := fun e => by
      subst e
      by_cases hi : i < ρ.length
      · rw [List.getElem?_set_self hi] at h1; cases h1
      · rw [List.getElem?_eq_none (by rw [List.length_set]; omega)] at h1; cases h1
    have nb : i ≠ b := fun e => by
      subst e
      by_cases hi : i < ρ.length
      · rw [List.getElem?_set_self hi] at h2; cases h2
      · rw [List.getElem?_eq_none (by rw [List.length_set]; omega)] at h2; cases h2
    rw [List.getElem?_set_ne na] at h1 h3
    rw [List.getElem?_set_ne nb] at h2 h4
    exact k.dis a b ds es p h1 h2 h3 h4
/-- a new list is given to a slot that owns it -/
theorem Ok.setOwn (k : Ok K O0 B O σ ρ H) {i : Nat} {ds : List Dt} {p : Addr} {xs : List V} (hB : H p = none) {H' : Hp} (e : Same H H') (hp : H' p = some (.lst xs)) (r : Reps K (hid (O0 ++ (p :: O)) H') ds xs) :
    Ok K O0 B (p :: O) (σ.set i (some (.ref p))) (ρ.set i (.own ds)) H' := by
  have hx : p ∉ O0 ++ O := k.h.out hB
  have hr : ∀ a o, hid (O0 ++ O) H a = some o → hid (O0 ++ (p :: O)) H' a = some o := fun a o q => by
    have ha : a ∉ O0 ++ O := fun z => by rw [hid_in z] at q; cases q
    rw [hid_out ha] at q
    have hap : a ≠ p := fun z => by rw [z, hB] at q; cases q
    rw [hid_out fun z => ?_]
    · exact e a o q
    · rcases List.mem_append.mp z with z | z
      · exact ha (List.mem_append_left _ z)
      · rcases List.mem_cons.mp z with z | z
        · exact hap z
        · exact ha (List.mem_append_right _ z)
  have oldp : ∀ j : Nat, σ[j]? = some (some (.ref p)) → ∀ es, ρ[j]? = some (.own es) → False := fun j hj es he => by
    obtain ⟨q, ys, h1, h2, h3, _⟩ := k.sl j _ he
    rw [h1] at hj
    have : q = p := by injection (Option.some.inj (Option.some.inj hj))
    subst this
    rw [hB] at h3; cases h3
  refine ⟨⟨fun q hq z => ?_, k.h.ext.trans e, fun q hq => ?_, fun q hq => ?_⟩, by rw [List.length_set, List.length_set]; exact k.len, fun j s hs => ?_, fun a b es fs q h1 h2 h3 h4 => ?_⟩
  · rcases List.mem_append.mp hq with hq | hq
    · exact k.h.dom q (List.mem_append_left _ hq) (e.free z)
    · rcases List.mem_cons.mp hq with hq | hq
      · rw [hq, hp] at z; cases z
      · exact k.h.dom q (List.mem_append_right _ hq) (e.free z)
  · rcases List.mem_cons.mp hq with hq | hq
    · rw [hq]; exact k.h.ext.free hB
    · exact k.h.fr q hq
  · rcases List.mem_cons.mp hq with hq | hq
    · rw [hq]; exact fun z => hx (List.mem_append_left _ z)
    · exact k.h.no0 q hq
  · by_cases ej : i = j
    · subst ej
      by_cases hi : i < ρ.length
      · rw [List.getElem?_set_self hi] at hs
        cases hs
        exact ⟨p, xs, List.getElem?_set_self (by rw [← k.len]; exact hi), List.mem_cons_self, hp, r⟩
      · rw [List.getElem?_eq_none (by rw [List.length_set]; omega)] at hs
        cases hs
    · rw [List.getElem?_set_ne ej] at hs ⊢
      have z := k.sl j s hs
      cases s with
      | any => exact True.intro
      | dat d =>
        obtain ⟨v, h1, h2⟩ := z
        exact ⟨v, h1, Rep.mono hr d v h2⟩
      | own es =>
        obtain ⟨q, ys, h1, h2, h3, h4⟩ := z
        exact ⟨q, ys, h1, List.mem_cons_of_mem _ h2, e _ _ h3, Reps.mono hr es ys h4⟩
  · by_cases ea : i = a
    · subst ea
      by_cases eb : i = b
      · exact eb
      · rw [List.getElem?_set_ne eb] at h2 h4
        by_cases hi : i < ρ.length
        · rw [List.getElem?_set_self (by rw [← k.len]; exact hi)] at h3
          have : p = q := by injection (Option.some.inj (Option.some.inj h3))
          subst this
          exact (oldp b h4 fs h2).elim
        · rw [List.getElem?_eq_none (by rw [List.length_set]; omega)] at h1; cases h1
    · rw [List.getElem?_set_ne ea] at h1 h3
      by_cases eb : i = b
      · subst eb
        by_cases hi : i < ρ.length
        · rw [List.getElem?_set_self (by rw [← k.len]; exact hi)] at h4
          have : p = q := by injection (Option.some.inj (Option.some.inj h4))
          subst this
          exact (oldp a h3 es h1).elim
        · rw [List.getElem?_eq_none (by rw [List.length_set]; omega)] at h2; cases h2
      · rw [List.getElem?_set_ne eb] at h2 h4
        exact k.dis a b es fs q h1 h2 h3 h4
/-- an owned list is changed -/
theorem Ok.mut (k : Ok K O0 B O σ ρ H) {i : Nat} {ds es : List Dt} {p : Addr} {ys : List V} (hi : ρ[i]? = some (.own ds)) (hp : σ[i]? = some (some (.ref p))) (r : Reps K (hid (O0 ++ O) H) es ys) (ho : p ∈ O) :
    Ok K O0 B O σ (ρ.set i (.own es)) (upd H p (.lst ys)) := by
  have hpo : p ∈ O0 ++ O := List.mem_append_right _ ho
  refine ⟨⟨fun q hq z => ?_, same_mut k.h.ext (k.h.fr p ho), k.h.fr, k.h.no0⟩, by rw [List.length_set]; exact k.len, fun j s hs => ?_, fun a b fs gs q h1 h2 h3 h4 => ?_⟩
  · by_cases e : q = p
    · subst e
      rw [upd_same] at z; cases z
    · rw [upd_ne e] at z
      exact k.h.dom q hq z
  · have hu : hid (O0 ++ O) (upd H p (.lst ys)) = hid (O0 ++ O) H := hid_upd hpo
    by_cases ej : i = j
    · subst ej
      rw [List.getElem?_set_self (List.getElem?_eq_some_iff.mp hi).1] at hs
      cases hs
      exact ⟨p, ys, hp, ho, upd_same, by rw [hu]; exact r⟩
    · rw [List.getElem?_set_ne ej] at hs
      have z := k.sl j s hs
      cases s with
      | any => exact True.intro
      | dat d =>
        obtain ⟨v, h1, h2⟩ := z
        exact ⟨v, h1, by rw [hu]; exact h2⟩
      | own fs =>
        obtain ⟨q, zs, h1, h2, h3, h4⟩ := z
        refine ⟨q, zs, h1, h2, ?_, by rw [hu]; exact h4⟩
        rw [upd_ne fun e => ej (k.dis i j _ _ p hi hs hp (by rw [h1, e]))]
        exact h3
  · have own_of : ∀ (c : Nat) (hs : List Dt), (ρ.set i (.own es))[c]? = some (.own hs) → ∃ gs, ρ[c]? = some (.own gs) := fun c hs hc => by
      by_cases e : i = c
      · subst e
        exact ⟨ds, hi⟩
      · rw [List.getElem?_set_ne e] at hc
        exact ⟨hs, hc⟩
    obtain ⟨fs', h1'⟩ := own_of a fs h1
    obtain ⟨gs', h2'⟩ := own_of b gs h2
    exact k.dis a b _ _ q h1' h2' h3 h4
end

/-! ### weaker environments: a slot forgotten, an owned list given free -/
def WkS : Sl → Sl → Prop := fun a b => b = .any ∨ a = b ∨ ∃ ds, a = .own ds ∧ b = .dat (.lst ds)
def Wk : PEnv → PEnv → Prop
  | [], [] => True
  | a :: r, b :: s => WkS a b ∧ Wk r s
  | _, _ => False
theorem Wk.refl : ∀ ρ : PEnv, Wk ρ ρ
  | [] => True.intro
  | a :: r => ⟨.inr (.inl rfl), Wk.refl r⟩
theorem Wk.length : ∀ {ρ τ : PEnv}, Wk ρ τ → ρ.length = τ.length
  | [], [], _ => rfl
  | a :: r, b :: s, h => by rw [List.length_cons, List.length_cons, Wk.length h.2]
theorem Wk.get : ∀ {ρ τ : PEnv} {i : Nat} {b : Sl}, Wk ρ τ → τ[i]? = some b → ∃ a, ρ[i]? = some a ∧ WkS a b
  | [], [], _, _, _, e => by simp at e
  | a :: r, b :: s, 0, _, h, e => by
    have e1 : b = _ := Option.some.inj e
    subst e1
    exact ⟨a, rfl, h.1⟩
  | a :: r, b :: s, i + 1, _, h, e => Wk.get (i := i) h.2 e
section
variable {K : PySem.W.Frag} {O0 O : List Addr} {B H : Hp} {σ : L2.St} {ρ τ : PEnv}
open Classical in
theorem Ok.weak (k : Ok K O0 B O σ ρ H) (w : Wk ρ τ) : ∃ O', Ok K O0 B O' σ τ H := by
  refine ⟨O.filter fun p => decide (∃ (i : Nat) (ds : List Dt), τ[i]? = some (.own ds) ∧ σ[i]? = some (some (.ref p))), ?_⟩
  have sub : ∀ p ∈ O.filter (fun p => decide (∃ (i : Nat) (ds : List Dt), τ[i]? = some (.own ds) ∧ σ[i]? = some (some (.ref p)))), p ∈ O := fun p hp => (List.mem_filter.mp hp).1
  have sub2 : ∀ p ∈ O0 ++ O.filter (fun p => decide (∃ (i : Nat) (ds : List Dt), τ[i]? = some (.own ds) ∧ σ[i]? = some (some (.ref p)))), p ∈ O0 ++ O := fun p hp =>
    (List.mem_append.mp hp).elim (fun z => List.mem_append_left _ z) fun z => List.mem_append_right _ (sub p z)
  have sm := hid_sub (H := H) sub2
  have ownw : ∀ (i : Nat) (ds : List Dt), τ[i]? = some (.own ds) → ρ[i]? = some (.own ds) := fun i ds h => by
    obtain ⟨a, h1, h2⟩ := w.get h
    rcases h2 with z | z | ⟨_, _, z⟩
    · cases z
    · rw [h1, z]
    · cases z
  refine ⟨⟨fun p hp => k.h.dom p (sub2 p hp), k.h.ext, fun p hp => k.h.fr p (sub p hp), fun p hp => k.h.no0 p (sub p hp)⟩, w.length.symm.trans k.len, fun i s hs => ?_, fun i j ds es p h1 h2 h3 h4 => k.dis i j ds es p (ownw i ds h1) (ownw j es h2) h3 h4⟩
  obtain ⟨a, h1, h2⟩ := w.get hs
  have z := k.sl i a h1
  rcases h2 with e | e | ⟨ds, e1, e2⟩
  · subst e; exact True.intro
  · subst e
    cases a with
    | any => exact True.intro
    | dat d =>
      obtain ⟨v, q1, q2⟩ := z
      exact ⟨v, q1, Rep.mono sm d v q2⟩
    | own ds =>
      obtain ⟨p, xs, q1, q2, q3, q4⟩ := z
      exact ⟨p, xs, q1, List.mem_filter.mpr ⟨q2, decide_eq_true ⟨i, ds, hs, q1⟩⟩, q3, Reps.mono sm ds xs q4⟩
  · subst e1 e2
    obtain ⟨p, xs, q1, q2, q3, q4⟩ := z
    refine ⟨.ref p, q1, p, xs, rfl, .inl (.inl ?_), Reps.mono sm ds xs q4⟩
    rw [hid_out]
    · exact q3
    · intro hp
      rcases List.mem_append.mp hp with hp | hp
      · exact k.h.no0 p q2 hp
      · obtain ⟨j, es, h3, h4⟩ := of_decide_eq_true (List.mem_filter.mp hp).2
        have e := k.dis i j _ _ p h1 (ownw j es h3) q1 h4
        subst e
        rw [hs] at h3; cases h3
end
end DL

/-! DL2: what expressions and tests come to, as data. -/
namespace DL
open PySem PySem.Spec PyProof.Rows L2

section
variable (K : PySem.W.Frag)
/-- an expression comes to d -/
structure DE (te : TE) (ρ : PEnv) (d : Dt) : Prop where
  run : ∀ (O0 : List Addr) (B : Hp) (O : List Addr) (σ : L2.St) (H : Hp) (Q : VK), Ok K O0 B O σ ρ H → (∀ v H', Same H H' → Rep K (hid (O0 ++ O) H') d v → Q v H') → te σ H Q
/-- an expression comes to a new list of ds -/
structure DL (te : TE) (ρ : PEnv) (ds : List Dt) : Prop where
  run : ∀ (O0 : List Addr) (B : Hp) (O : List Addr) (σ : L2.St) (H : Hp) (Q : VK), Ok K O0 B O σ ρ H →
  (∀ p xs H', Same H H' → H p = none → H' p = some (.lst xs) → Reps K (hid (O0 ++ (p :: O)) H') ds xs → Q (.ref p) H') → te σ H Q
structure DT (tt : TT) (ρ : PEnv) (b : Bool) : Prop where
  run : ∀ (O0 : List Addr) (B : Hp) (O : List Addr) (σ : L2.St) (H : Hp) (Q : Bool → Hp → Prop), Ok K O0 B O σ ρ H → (∀ H', Same H H' → Q b H') → tt σ H Q
structure DA (ta : TA) (ρ : PEnv) (ds : List Dt) : Prop where
  run : ∀ (O0 : List Addr) (B : Hp) (O : List Addr) (σ : L2.St) (H : Hp) (Q : List V → Hp → Prop), Ok K O0 B O σ ρ H → (∀ vs H', Same H H' → Reps K (hid (O0 ++ O) H') ds vs → Q vs H') → ta σ H Q
structure DO (to : TO) (ρ : PEnv) (o : Option Int) : Prop where
  run : ∀ (O0 : List Addr) (B : Hp) (O : List Addr) (σ : L2.St) (H : Hp) (Q : Option Int → Hp → Prop), Ok K O0 B O σ ρ H → (∀ H', Same H H' → Q o H') → to σ H Q
/-- an expression raises C with the fields fs -/
structure DR (W : WX) (te : TE) (ρ : PEnv) (C : Addr) (fs : List (Str × Dt)) : Prop where
  run : ∀ (O0 : List Addr) (B : Hp) (O : List Addr) (σ : L2.St) (H : Hp) (Q : VK), Ok K O0 B O σ ρ H →
  (∀ dd xs H', Same H H' → H dd = none → H' dd = some (.xd xs) → RepF K (hid (O0 ++ O) H') fs xs → W (.ref C) (some dd) σ H') → te σ H Q
end
section
variable {K : PySem.W.Frag} {ρ : PEnv} {ta tb te tc : TE} {t u : TT} {x y z d e : Dt}
theorem reps_out {O0 O : List Addr} {H H' : Hp} {p : Addr} {ds : List Dt} {xs : List V} (hp : p ∉ O0 ++ O) (r : Reps K (hid (O0 ++ (p :: O)) H') ds xs) : Reps K (hid (O0 ++ O) H') ds xs := by
  refine Reps.mono (hid_sub fun q hq => ?_) ds xs r
  rcases List.mem_append.mp hq with z | z
  · exact List.mem_append_left _ z
  · exact List.mem_append_right _ (List.mem_cons_of_mem _ z)
/-- laying a new thing at p, hidden or not, keeps what is known -/
theorem reps_new {O0 O : List Addr} {H H' : Hp} {p : Addr} {ds : List Dt} {xs : List V} (s : Same H H') (hp : H p = none) (r : Reps K (hid (O0 ++ O) H) ds xs) : Reps K (hid (O0 ++ (p :: O)) H') ds xs := by
  refine Reps.mono (fun a o e => ?_) ds xs r
  have ha : a ∉ O0 ++ O := fun z => by rw [hid_in z] at e; cases e
  rw [hid_out ha] at e
  rw [hid_out fun z => ?_]
  · exact s a o e
  · rcases List.mem_append.mp z with z | z
    · exact ha (List.mem_append_left _ z)
    · rcases List.mem_cons.mp z with z | z
      · rw [z, hp] at e; cases e
      · exact ha (List.mem_append_right _ z)
theorem de_is (h : DE K te ρ d) (q : d = e) : DE K te ρ e := by rw [← q]; exact h
theorem dt_is {a b : Bool} (h : DT K t ρ a) (q : a = b) : DT K t ρ b := by rw [← q]; exact h
theorem dl_is {ds es : List Dt} (h : DL K te ρ ds) (q : ds = es) : DL K te ρ es := by rw [← q]; exact h
theorem da_is {ta : TA} {ds es : List Dt} (h : DA K ta ρ ds) (q : ds = es) : DA K ta ρ es := by rw [← q]; exact h
theorem DL.de {ds : List Dt} (h : DL K te ρ ds) : DE K te ρ (.lst ds) := .mk fun O0 B O σ H Q k q =>
  h.run O0 B O σ H Q k fun p xs H' s hp e r => q _ H' s ⟨p, xs, rfl, .inl (.inl (by rw [hid_out (k.h.out hp)]; exact e)), reps_out (H := H) (k.h.out hp) r⟩
theorem de_var {i : Nat} (h : ρ[i]? = some (.dat d)) : DE K (tVar i) ρ d := .mk fun O0 B O σ H Q k q => by
  obtain ⟨v, h1, h2⟩ := k.sl i _ h
  exact ⟨v, h1, q v H (Same.refl H) h2⟩
/-- an owned list read as it stands (its value must not be kept) -/
theorem de_int {i : Int} : DE K (tC (.int i)) ρ (.int i) := .mk fun _ _ _ _ H _ _ q => q _ H (Same.refl H) rfl
theorem de_bl {i : Bool} : DE K (tC (.bl i)) ρ (.bl i) := .mk fun _ _ _ _ H _ _ q => q _ H (Same.refl H) rfl
theorem de_str {i : Str} : DE K (tC (.str i)) ρ (.str i) := .mk fun _ _ _ _ H _ _ q => q _ H (Same.refl H) rfl
theorem de_non : DE K (tC .non) ρ .non := .mk fun _ _ _ _ H _ _ q => q _ H (Same.refl H) rfl
theorem de_ty {n : String} : DE K (tC (.ty n)) ρ (.ty n) := .mk fun _ _ _ _ H _ _ q => q _ H (Same.refl H) rfl
theorem de_ref {a : Addr} : DE K (tC (.ref a)) ρ (.ref a) := .mk fun _ _ _ _ H _ _ q => q _ H (Same.refl H) rfl
/-- a constant of the module: data of the written part -/
def KRep (K : PySem.W.Frag) (d : Dt) (v : V) : Prop := Rep K (fun _ => none) d v
theorem KRep.at {G : Hp} {v : V} (h : KRep K d v) : Rep K G d v := Rep.mono (fun _ _ e => by cases e) d v h
theorem de_const {v : V} (h : KRep K d v) : DE K (tC v) ρ d := .mk fun _ _ _ _ H _ _ q => q _ H (Same.refl H) h.at

/-- two operands -/
theorem bin2 {O0 : List Addr} {B : Hp} {O : List Addr} {σ : L2.St} {H : Hp} {R : V → V → Hp → Prop} (k : Ok K O0 B O σ ρ H) (ha : DE K ta ρ x) (hb : DE K tb ρ y)
    (h : ∀ v w H', Same H H' → Rep K (hid (O0 ++ O) H') x v → Rep K (hid (O0 ++ O) H') y w → R v w H') : ta σ H fun v H1 => tb σ H1 fun w H2 => R v w H2 :=
  ha.run O0 B O σ H _ k fun v H1 s1 r1 => hb.run O0 B O σ H1 _ (k.mono s1) fun w H2 s2 r2 => h v w H2 (s1.trans s2) (Rep.mono (hid_mono s2) x v r1) r2

/-! ### rules by values -/
variable (K) in
structure RD2 (r : R2) (x y d : Dt) : Prop where
  run : ∀ (O0 : List Addr) (B : Hp) (O : List Addr) (H : Hp) (v w : V) (Q : VK), OkH O0 B O H → Rep K (hid (O0 ++ O) H) x v → Rep K (hid (O0 ++ O) H) y w → (∀ u H', Same H H' → Rep K (hid (O0 ++ O) H') d u → Q u H') → r v w H Q
variable (K) in
structure RDL2 (r : R2) (x y : Dt) (ds : List Dt) : Prop where
  run : ∀ (O0 : List Addr) (B : Hp) (O : List Addr) (H : Hp) (v w : V) (Q : VK), OkH O0 B O H → Rep K (hid (O0 ++ O) H) x v → Rep K (hid (O0 ++ O) H) y w →
  (∀ p xs H', Same H H' → H p = none → H' p = some (.lst xs) → Reps K (hid (O0 ++ (p :: O)) H') ds xs → Q (.ref p) H') → r v w H Q
variable (K) in
structure RDU (r : V → Hp → VK → Prop) (x d : Dt) : Prop where
  run : ∀ (O0 : List Addr) (B : Hp) (O : List Addr) (H : Hp) (v : V) (Q : VK), OkH O0 B O H → Rep K (hid (O0 ++ O) H) x v → (∀ u H', Same H H' → Rep K (hid (O0 ++ O) H') d u → Q u H') → r v H Q
variable (K) in
structure RDC (r : List V → Hp → VK → Prop) (ds : List Dt) (d : Dt) : Prop where
  run : ∀ (O0 : List Addr) (B : Hp) (O : List Addr) (H : Hp) (vs : List V) (Q : VK), OkH O0 B O H → Reps K (hid (O0 ++ O) H) ds vs → (∀ u H', Same H H' → Rep K (hid (O0 ++ O) H') d u → Q u H') → r vs H Q
variable (K) in
structure RDLC (r : List V → Hp → VK → Prop) (ds es : List Dt) : Prop where
  run : ∀ (O0 : List Addr) (B : Hp) (O : List Addr) (H : Hp) (vs : List V) (Q : VK), OkH O0 B O H → Reps K (hid (O0 ++ O) H) ds vs →
  (∀ p xs H', Same H H' → H p = none → H' p = some (.lst xs) → Reps K (hid (O0 ++ (p :: O)) H') es xs → Q (.ref p) H') → r vs H Q
theorem de_op {r : R2} (ha : DE K ta ρ x) (hb : DE K tb ρ y) (hr : RD2 K r x y d) : DE K (tOp r ta tb) ρ d := .mk fun O0 B O σ H Q k q =>
  bin2 k ha hb fun v w H' s r1 r2 => hr.run O0 B O H' v w Q (k.h.mono s) r1 r2 fun u H2 s2 r3 => q u H2 (s.trans s2) r3
theorem dl_op {r : R2} {ds : List Dt} (ha : DE K ta ρ x) (hb : DE K tb ρ y) (hr : RDL2 K r x y ds) : DL K (tOp r ta tb) ρ ds := .mk fun O0 B O σ H Q k q =>
  bin2 k ha hb fun v w H' s r1 r2 => hr.run O0 B O H' v w Q (k.h.mono s) r1 r2 fun p xs H2 s2 np ep r3 => q p xs H2 (s.trans s2) (s.free np) ep r3
theorem de_un {r : V → Hp → VK → Prop} (ha : DE K ta ρ x) (hr : RDU K r x d) : DE K (tUn r ta) ρ d := .mk fun O0 B O σ H Q k q =>
  ha.run O0 B O σ H _ k fun v H' s r1 => hr.run O0 B O H' v Q (k.h.mono s) r1 fun u H2 s2 r3 => q u H2 (s.trans s2) r3
theorem de_cb {r : List V → Hp → VK → Prop} {ta : TA} {ds : List Dt} (ha : DA K ta ρ ds) (hr : RDC K r ds d) : DE K (tCB r ta) ρ d := .mk fun O0 B O σ H Q k q =>
  ha.run O0 B O σ H _ k fun v H' s r1 => hr.run O0 B O H' v Q (k.h.mono s) r1 fun u H2 s2 r3 => q u H2 (s.trans s2) r3
theorem dl_cb {r : List V → Hp → VK → Prop} {ta : TA} {ds es : List Dt} (ha : DA K ta ρ ds) (hr : RDLC K r ds es) : DL K (tCB r ta) ρ es := .mk fun O0 B O σ H Q k q =>
  ha.run O0 B O σ H _ k fun v H' s r1 => hr.run O0 B O H' v Q (k.h.mono s) r1 fun p xs H2 s2 np ep r3 => q p xs H2 (s.trans s2) (s.free np) ep r3
theorem RD2.l {r r' : R2} (h : RD2 K r x y d) : RD2 K (fun x y H Q => r x y H Q ∨ r' x y H Q) x y d := .mk fun O0 B O H v w Q k a b q => .inl (h.run O0 B O H v w Q k a b q)
theorem RD2.r {r r' : R2} (h : RD2 K r' x y d) : RD2 K (fun x y H Q => r x y H Q ∨ r' x y H Q) x y d := .mk fun O0 B O H v w Q k a b q => .inr (h.run O0 B O H v w Q k a b q)
theorem RDL2.l {r r' : R2} {ds : List Dt} (h : RDL2 K r x y ds) : RDL2 K (fun x y H Q => r x y H Q ∨ r' x y H Q) x y ds := .mk fun O0 B O H v w Q k a b q => .inl (h.run O0 B O H v w Q k a b q)
theorem RDL2.r {r r' : R2} {ds : List Dt} (h : RDL2 K r' x y ds) : RDL2 K (fun x y H Q => r x y H Q ∨ r' x y H Q) x y ds := .mk fun O0 B O H v w Q k a b q => .inr (h.run O0 B O H v w Q k a b q)
theorem RDC.l {r r' : List V → Hp → VK → Prop} {ds : List Dt} (h : RDC K r ds d) : RDC K (fun xs H Q => r xs H Q ∨ r' xs H Q) ds d := .mk fun O0 B O H v Q k a q => .inl (h.run O0 B O H v Q k a q)
theorem RDC.r {r r' : List V → Hp → VK → Prop} {ds : List Dt} (h : RDC K r' ds d) : RDC K (fun xs H Q => r xs H Q ∨ r' xs H Q) ds d := .mk fun O0 B O H v Q k a q => .inr (h.run O0 B O H v Q k a q)
theorem RDLC.l {r r' : List V → Hp → VK → Prop} {ds es : List Dt} (h : RDLC K r ds es) : RDLC K (fun xs H Q => r xs H Q ∨ r' xs H Q) ds es := .mk fun O0 B O H v Q k a q => .inl (h.run O0 B O H v Q k a q)
theorem RDLC.r {r r' : List V → Hp → VK → Prop} {ds es : List Dt} (h : RDLC K r' ds es) : RDLC K (fun xs H Q => r xs H Q ∨ r' xs H Q) ds es := .mk fun O0 B O H v Q k a q => .inr (h.run O0 B O H v Q k a q)
-- ints
theorem rd_int {f : Int → Int → Int} {i j : Int} : RD2 K (rI0 fun i j => .int (f i j)) (.int i) (.int j) (.int (f i j)) := .mk fun _ _ _ H _ _ _ _ a b q => ⟨i, j, a, b, q _ H (Same.refl H) rfl⟩
theorem rd_intB {f : Int → Int → Bool} {i j : Int} : RD2 K (rI0 fun i j => .bl (f i j)) (.int i) (.int j) (.bl (f i j)) := .mk fun _ _ _ H _ _ _ _ a b q => ⟨i, j, a, b, q _ H (Same.refl H) rfl⟩
theorem rd_intC {C : Int → Int → Prop} {f : Int → Int → Int} {i j : Int} (hc : C i j) : RD2 K (rI C fun i j => .int (f i j)) (.int i) (.int j) (.int (f i j)) := .mk fun _ _ _ H _ _ _ _ a b q => ⟨i, j, a, b, hc, q _ H (Same.refl H) rfl⟩
theorem ru_int {f : Int → Int} {i : Int} : RDU K (rU fun i => .int (f i)) (.int i) (.int (f i)) := .mk fun _ _ _ H _ _ _ a q => ⟨i, a, q _ H (Same.refl H) rfl⟩
-- == of flat things
def fV : Dt → Option V
  | .non => some .non | .bl b => some (.bl b) | .int i => some (.int i) | .str s => some (.str s) | _ => none
theorem fV_rep {G : Hp} {d : Dt} {f v : V} (h : fV d = some f) (r : Rep K G d v) : v = f := by
  cases d <;> first | cases h | skip
  all_goals exact r
theorem rd_eqF {f g : V} {b : Bool} (hx : fV x = some f) (hy : fV y = some g) (hs : scal f g = true) (hb : decide (f = g) = b) : RD2 K rEq x y (.bl b) := .mk fun _ _ _ H v w _ _ a b q => by
  obtain rfl := fV_rep hx a
  obtain rfl := fV_rep hy b
  exact ⟨hs, q _ H (Same.refl H) (by rw [hb]; rfl)⟩
theorem rd_neF {f g : V} {b : Bool} (hx : fV x = some f) (hy : fV y = some g) (hs : scal f g = true) (hb : (!decide (f = g)) = b) : RD2 K rNe x y (.bl b) := .mk fun _ _ _ H v w _ _ a b q => by
  obtain rfl := fV_rep hx a
  obtain rfl := fV_rep hy b
  exact ⟨hs, q _ H (Same.refl H) (by rw [hb]; rfl)⟩
theorem decV_int {i j : Int} : decide (V.int i = V.int j) = decide (i = j) := by
  by_cases h : i = j
  · rw [decide_eq_true h, decide_eq_true (by rw [h])]
  · rw [decide_eq_false h, decide_eq_false fun e => h (V.int.inj e)]
theorem decV_bl {i j : Bool} : decide (V.bl i = V.bl j) = decide (i = j) := by
  by_cases h : i = j
  · rw [decide_eq_true h, decide_eq_true (by rw [h])]
  · rw [decide_eq_false h, decide_eq_false fun e => h (V.bl.inj e)]
theorem decV_str {i j : Str} : decide (V.str i = V.str j) = decide (i = j) := by
  by_cases h : i = j
  · rw [decide_eq_true h, decide_eq_true (by rw [h])]
  · rw [decide_eq_false h, decide_eq_false fun e => h (V.str.inj e)]
theorem rd_eqI {i j : Int} : RD2 K rEq (.int i) (.int j) (.bl (decide (i = j))) := rd_eqF rfl rfl rfl decV_int
theorem rd_eqB {i j : Bool} : RD2 K rEq (.bl i) (.bl j) (.bl (decide (i = j))) := rd_eqF rfl rfl rfl decV_bl
theorem rd_eqS {i j : Str} : RD2 K rEq (.str i) (.str j) (.bl (decide (i = j))) := rd_eqF rfl rfl rfl decV_str
theorem rd_neI {i j : Int} : RD2 K rNe (.int i) (.int j) (.bl (!decide (i = j))) := rd_neF rfl rfl rfl (by rw [decV_int])
theorem rd_neB {i j : Bool} : RD2 K rNe (.bl i) (.bl j) (.bl (!decide (i = j))) := rd_neF rfl rfl rfl (by rw [decV_bl])
theorem rd_neS {i j : Str} : RD2 K rNe (.str i) (.str j) (.bl (!decide (i = j))) := rd_neF rfl rfl rfl (by rw [decV_str])
-- == of data
mutual
def toPy : Dt → Option PyData
  | .non => some .none | .bl b => some (.bool b) | .int i => some (.int i) | .str s => some (.str s)
  | .tup ds => (toPys ds).map .tuple
  | .lst ds => (toPys ds).map .list
  | _ => none
def toPys : List Dt → Option (List PyData)
  | [] => some []
  | d :: ds => (toPy d).bind fun p => (toPys ds).map fun r => p :: r
end
mutual
theorem dp_of {G : Hp} : ∀ (d : Dt) (v : V) (p : PyData), toPy d = some p → Rep K G d v → Dp K G v p
  | .non, _, _, h, r => by cases h; rw [show _ = _ from r]; exact .non
  | .bl b, _, _, h, r => by cases h; rw [show _ = _ from r]; exact .bl b
  | .int b, _, _, h, r => by cases h; rw [show _ = _ from r]; exact .int b
  | .str b, _, _, h, r => by cases h; rw [show _ = _ from r]; exact .str b
  | .tup ds, _, _, h, r => by
    obtain ⟨q, h1, h2⟩ := Option.map_eq_some_iff.mp h
    subst h2
    obtain ⟨a, xs, rfl, h3, h4⟩ := r
    exact .tup h3 (dps_of ds xs q h1 h4)
  | .lst ds, _, _, h, r => by
    obtain ⟨q, h1, h2⟩ := Option.map_eq_some_iff.mp h
    subst h2
    obtain ⟨a, xs, rfl, h3, h4⟩ := r
    exact .lst h3 (dps_of ds xs q h1 h4)
  | .ref _, _, _, h, _ => by cases h
  | .ty _, _, _, h, _ => by cases h
  | .ins _ _, _, _, h, _ => by cases h
  | .exc _ _ _ _, _, _, h, _ => by cases h
theorem dps_of {G : Hp} : ∀ (ds : List Dt) (vs : List V) (ps : List PyData), toPys ds = some ps → Reps K G ds vs → DpAll K G vs ps
  | [], _, _, h, r => by cases h; rw [show _ = _ from r]; exact .nil
  | d :: ds, _, _, h, r => by
    obtain ⟨p, h1, h2⟩ := Option.bind_eq_some_iff.mp h
    obtain ⟨q, h3, h4⟩ := Option.map_eq_some_iff.mp h2
    subst h4
    obtain ⟨v, w, rfl, h5, h6⟩ := r
    exact .cons (dp_of d v p h1 h5) (dps_of ds w q h3 h6)
end
theorem rd_eqD {p q : PyData} {b : Bool} (hx : toPy x = some p) (hy : toPy y = some q) (sp : SeqAt.shaped p = true) (sq : SeqAt.shaped q = true) (hb : PyData.eqv p q = b) : RD2 K (rEqD K) x y (.bl b) := .mk fun O0 _ O H v w _ _ r1 r2 k =>
  ⟨p, q, dp_of x v p hx (Rep.mono hid_le x v r1), dp_of y w q hy (Rep.mono hid_le y w r2), sp, sq, k _ H (Same.refl H) (by rw [hb]; rfl)⟩
theorem rd_neD {p q : PyData} {b : Bool} (hx : toPy x = some p) (hy : toPy y = some q) (sp : SeqAt.shaped p = true) (sq : SeqAt.shaped q = true) (hb : (!PyData.eqv p q) = b) : RD2 K (rNeD K) x y (.bl b) := .mk fun O0 _ O H v w _ _ r1 r2 k =>
  ⟨p, q, dp_of x v p hx (Rep.mono hid_le x v r1), dp_of y w q hy (Rep.mono hid_le y w r2), sp, sq, k _ H (Same.refl H) (by rw [hb]; rfl)⟩
-- items
theorem rd_ixT {ds : List Dt} {i : Int} (h : atI ds i = some d) : RD2 K (rIxT K) (.tup ds) (.int i) d := .mk fun O0 _ O H v w _ _ r1 r2 k => by
  obtain ⟨a, xs, rfl, h1, h2⟩ := r1
  unfold atI at h
  obtain ⟨j, h3, h4⟩ := Option.bind_eq_some_iff.mp h
  obtain ⟨u, h5, h6⟩ := h2.get h4
  exact ⟨a, xs, i, u, rfl, r2, Same.seqT hid_le h1, by unfold atI; rw [h2.length, h3]; exact h5, k u H (Same.refl H) h6⟩
theorem rd_ixL {ds : List Dt} {i : Int} (h : atI ds i = some d) : RD2 K (rIxL K) (.lst ds) (.int i) d := .mk fun O0 _ O H v w _ _ r1 r2 k => by
  obtain ⟨a, xs, rfl, h1, h2⟩ := r1
  unfold atI at h
  obtain ⟨j, h3, h4⟩ := Option.bind_eq_some_iff.mp h
  obtain ⟨u, h5, h6⟩ := h2.get h4
  exact ⟨a, xs, i, u, rfl, r2, hid_le.seq h1, by unfold atI; rw [h2.length, h3]; exact h5, k u H (Same.refl H) h6⟩
theorem rd_ixS {z : Str} {i : Int} {c : Nat} (hz : z.length ≤ sizeLine) (h : atI z.cps.toList i = some c) : RD2 K rIxS (.str z) (.int i) (.str ⟨#[c]⟩) := .mk fun O0 _ O H v w _ _ r1 r2 k =>
  ⟨z, i, c, r1, r2, hz, h, k _ H (Same.refl H) rfl⟩
-- arguments
theorem da_nil : DA K tNil ρ [] := .mk fun _ _ _ _ H _ _ q => q [] H (Same.refl H) rfl
theorem da_cons {tr : TA} {ds : List Dt} (ha : DE K te ρ d) (hr : DA K tr ρ ds) : DA K (tCons te tr) ρ (d :: ds) := .mk fun O0 B O σ H Q k q =>
  ha.run O0 B O σ H _ k fun v H1 s1 r1 => hr.run O0 B O σ H1 _ (k.mono s1) fun vs H2 s2 r2 => q _ H2 (s1.trans s2) ⟨v, vs, rfl, Rep.mono (hid_mono s2) d v r1, r2⟩
-- displays
theorem de_tup {ta : TA} {ds : List Dt} (ha : DA K ta ρ ds) (hl : ds.length ≤ sizeLine) : DE K (tTup ta) ρ (.tup ds) := .mk fun O0 B O σ H Q k q =>
  ha.run O0 B O σ H _ k fun vs H1 s1 r1 => ⟨by rw [r1.length]; exact hl, fun p hp => q _ _ (s1.trans (same_upd hp)) ⟨p, vs, rfl, .inl (.inl (by rw [hid_out ((k.h.mono s1).out hp)]; exact upd_same)), Reps.mono (hid_mono (same_upd hp)) ds vs r1⟩⟩
theorem dl_lst {ta : TA} {ds : List Dt} (ha : DA K ta ρ ds) (hl : ds.length ≤ sizeLine) : DL K (tLst ta) ρ ds := .mk fun O0 B O σ H Q k q =>
  ha.run O0 B O σ H _ k fun vs H1 s1 r1 => ⟨by rw [r1.length]; exact hl, fun p hp => q _ vs _ (s1.trans (same_upd hp)) (s1.free hp) upd_same (reps_new (same_upd hp) hp r1)⟩
-- built-in calls
theorem rc_len {ds : List Dt} {n : Nat} (h : ds.length = n) : RDC K (fun xs H Q => ∃ p ys, xs = [.ref p] ∧ (SqL K H p ys ∨ SqT K H p ys) ∧ Q (.int ys.length) H) [.lst ds] (.int n) := .mk fun O0 _ O H vs _ _ r k => by
  obtain ⟨v, w, rfl, ⟨a, xs, rfl, h1, h2⟩, h3⟩ := r
  obtain rfl : w = [] := h3
  exact ⟨a, xs, rfl, .inl (hid_le.seq h1), k _ H (Same.refl H) (by rw [h2.length, h]; rfl)⟩
theorem rc_lenT {ds : List Dt} {n : Nat} (h : ds.length = n) : RDC K (fun xs H Q => ∃ p ys, xs = [.ref p] ∧ (SqL K H p ys ∨ SqT K H p ys) ∧ Q (.int ys.length) H) [.tup ds] (.int n) := .mk fun O0 _ O H vs _ _ r k => by
  obtain ⟨v, w, rfl, ⟨a, xs, rfl, h1, h2⟩, h3⟩ := r
  obtain rfl : w = [] := h3
  exact ⟨a, xs, rfl, .inr (Same.seqT hid_le h1), k _ H (Same.refl H) (by rw [h2.length, h]; rfl)⟩
theorem rc_lenS {z : Str} (h : z.length ≤ sizeLine) : RDC K (fun xs H Q => ∃ z : Str, xs = [.str z] ∧ z.length ≤ sizeLine ∧ Q (.int z.length) H) [.str z] (.int z.length) := .mk fun O0 _ O H vs _ _ r k => by
  obtain ⟨v, w, rfl, h1, h3⟩ := r
  obtain rfl : w = [] := h3
  obtain rfl : v = .str z := h1
  exact ⟨z, rfl, h, k _ H (Same.refl H) rfl⟩
theorem rc_list {ds : List Dt} : RDLC K (fun xs H Q => ∃ p ys, xs = [.ref p] ∧ (SqL K H p ys ∨ SqT K H p ys) ∧ ∀ l, H l = none → Q (.ref l) (upd H l (.lst ys))) [.lst ds] ds := .mk fun O0 _ O H vs _ hk r k => by
  obtain ⟨v, w, rfl, ⟨a, xs, rfl, h1, h2⟩, h3⟩ := r
  obtain rfl : w = [] := h3
  exact ⟨a, xs, rfl, .inl (hid_le.seq h1), fun l hl => k l xs _ (same_upd hl) hl upd_same (reps_new (same_upd hl) hl h2)⟩
theorem rc_listT {ds : List Dt} : RDLC K (fun xs H Q => ∃ p ys, xs = [.ref p] ∧ (SqL K H p ys ∨ SqT K H p ys) ∧ ∀ l, H l = none → Q (.ref l) (upd H l (.lst ys))) [.tup ds] ds := .mk fun O0 _ O H vs _ hk r k => by
  obtain ⟨v, w, rfl, ⟨a, xs, rfl, h1, h2⟩, h3⟩ := r
  obtain rfl : w = [] := h3
  exact ⟨a, xs, rfl, .inr (Same.seqT hid_le h1), fun l hl => k l xs _ (same_upd hl) hl upd_same (reps_new (same_upd hl) hl h2)⟩
theorem rc_tuple {ds : List Dt} : RDC K (fun xs H Q => ∃ a ys, xs = [V.ref a] ∧ ((SqL K H a ys ∧ ∀ l, H l = none → Q (.ref l) (upd H l (.tup ys))) ∨ (SqT K H a ys ∧ Q (.ref a) H))) [.lst ds] (.tup ds) := .mk fun O0 _ O H vs _ hk r k => by
  obtain ⟨v, w, rfl, ⟨a, xs, rfl, h1, h2⟩, h3⟩ := r
  obtain rfl : w = [] := h3
  exact ⟨a, xs, rfl, .inl ⟨hid_le.seq h1, fun l hl => k _ _ (same_upd hl) ⟨l, xs, rfl, .inl (.inl (by rw [hid_out (hk.out hl)]; exact upd_same)), Reps.mono (hid_mono (same_upd hl)) ds xs h2⟩⟩⟩
theorem rc_tupleT {ds : List Dt} : RDC K (fun xs H Q => ∃ a ys, xs = [V.ref a] ∧ ((SqL K H a ys ∧ ∀ l, H l = none → Q (.ref l) (upd H l (.tup ys))) ∨ (SqT K H a ys ∧ Q (.ref a) H))) [.tup ds] (.tup ds) := .mk fun O0 _ O H vs _ hk r k => by
  obtain ⟨v, w, rfl, ⟨a, xs, rfl, h1, h2⟩, h3⟩ := r
  obtain rfl : w = [] := h3
  exact ⟨a, xs, rfl, .inr ⟨Same.seqT hid_le h1, k _ H (Same.refl H) ⟨a, xs, rfl, h1, h2⟩⟩⟩
theorem rc_gcd {a b : Int} : RDC K rGcd [.int a, .int b] (.int ((Nat.gcd a.natAbs b.natAbs : Nat) : Int)) := .mk fun O0 _ O H vs _ hk r k => by
  obtain ⟨v, w, rfl, h1, v2, w2, rfl, h2, h3⟩ := r
  obtain rfl : w2 = [] := h3
  exact ⟨a, b, by rw [show v = _ from h1, show v2 = _ from h2], k _ H (Same.refl H) rfl⟩
theorem rc_abs {i : Int} : RDC K (fun xs H Q => ∃ i, xs = [V.int i] ∧ Q (.int (if i < 0 then -i else i)) H) [.int i] (.int i.natAbs) := .mk fun O0 _ O H vs _ hk r k => by
  obtain ⟨v, w, rfl, h1, h3⟩ := r
  obtain rfl : w = [] := h3
  refine ⟨i, by rw [show v = _ from h1], k _ H (Same.refl H) ?_⟩
  show V.int _ = V.int _
  congr 1
  split <;> omega
theorem rc_int {i : Int} : RDC K (fun xs H Q => (∃ i, xs = [V.int i] ∧ Q (.int i) H) ∨ ∃ k, xs = [V.bl k] ∧ Q (.int (if k then 1 else 0)) H) [.int i] (.int i) := .mk fun O0 _ O H vs _ hk r k => by
  obtain ⟨v, w, rfl, h1, h3⟩ := r
  obtain rfl : w = [] := h3
  exact .inl ⟨i, by rw [show v = _ from h1], k _ H (Same.refl H) rfl⟩
theorem rc_max2 {i j : Int} : RDC K (fun xs H Q => ∃ i j, xs = [V.int i, V.int j] ∧ Q (.int (if j > i then j else i)) H) [.int i, .int j] (.int (max i j)) := .mk fun O0 _ O H vs _ hk r k => by
  obtain ⟨v, w, rfl, h1, v2, w2, rfl, h2, h3⟩ := r
  obtain rfl : w2 = [] := h3
  refine ⟨i, j, by rw [show v = _ from h1, show v2 = _ from h2], k _ H (Same.refl H) ?_⟩
  show V.int _ = V.int _
  congr 1
  split <;> omega
theorem rc_min2 {i j : Int} : RDC K (fun xs H Q => ∃ i j, xs = [V.int i, V.int j] ∧ Q (.int (if j < i then j else i)) H) [.int i, .int j] (.int (min i j)) := .mk fun O0 _ O H vs _ hk r k => by
  obtain ⟨v, w, rfl, h1, v2, w2, rfl, h2, h3⟩ := r
  obtain rfl : w2 = [] := h3
  refine ⟨i, j, by rw [show v = _ from h1, show v2 = _ from h2], k _ H (Same.refl H) ?_⟩
  show V.int _ = V.int _
  congr 1
  split <;> omega
theorem rc_sum {ns : List Int} : RDC K (rSum K) [.lst (ns.map Dt.int)] (.int ns.sum) := .mk fun O0 _ O H vs _ hk r k => by
  obtain ⟨v, w, rfl, ⟨a, xs, rfl, h1, h2⟩, h3⟩ := r
  obtain rfl : w = [] := h3
  obtain rfl := reps_ints h2
  exact ⟨a, ns, rfl, hid_le.seq h1, k _ H (Same.refl H) rfl⟩
theorem rc_any {ns : List Bool} : RDC K (rAny K) [.lst (ns.map Dt.bl)] (.bl (ns.any id)) := .mk fun O0 _ O H vs _ hk r k => by
  obtain ⟨v, w, rfl, ⟨a, xs, rfl, h1, h2⟩, h3⟩ := r
  obtain rfl : w = [] := h3
  obtain rfl := reps_bls h2
  exact ⟨a, ns, rfl, hid_le.seq h1, k _ H (Same.refl H) rfl⟩
theorem rc_all {ns : List Bool} : RDC K (rAll K) [.lst (ns.map Dt.bl)] (.bl (ns.all id)) := .mk fun O0 _ O H vs _ hk r k => by
  obtain ⟨v, w, rfl, ⟨a, xs, rfl, h1, h2⟩, h3⟩ := r
  obtain rfl : w = [] := h3
  obtain rfl := reps_bls h2
  exact ⟨a, ns, rfl, hid_le.seq h1, k _ H (Same.refl H) rfl⟩
-- isinstance against a built-in class
def tyD : Dt → Option String
  | .non => some "NoneType" | .bl _ => some "bool" | .int _ => some "int" | .str _ => some "str" | .tup _ => some "tuple" | .lst _ => some "list" | _ => none
theorem tyX_of {G : Hp} : ∀ {d : Dt} {v : V} {T : String}, tyD d = some T → Rep K G d v → TyX K G v (.type T)
  | .non, _, _, h, r => by cases h; rw [show _ = _ from r]; exact .base .non
  | .bl b, _, _, h, r => by cases h; rw [show _ = _ from r]; exact .base (.bl b)
  | .int b, _, _, h, r => by cases h; rw [show _ = _ from r]; exact .base (.int b)
  | .str b, _, _, h, r => by cases h; rw [show _ = _ from r]; exact .base (.str b)
  | .tup ds, _, _, h, r => by
    cases h
    obtain ⟨a, xs, rfl, h3, h4⟩ := r
    rcases h3 with (h | ⟨o, h⟩) | ⟨o, its, n, h1, h2, _⟩
    · exact .base (.tup h)
    · exact .fTuple h
    · exact .kTuple h1 h2
  | .lst ds, _, _, h, r => by
    cases h
    obtain ⟨a, xs, rfl, h3, h4⟩ := r
    rcases h3 with (h | ⟨o, h⟩) | ⟨o, its, n, h1, h2, _⟩
    · exact .base (.lst h)
    · exact .base (.frz h)
    · exact .kList h1 h2
  | .ref _, _, _, h, _ => by cases h
  | .ty _, _, _, h, _ => by cases h
  | .ins _ _, _, _, h, _ => by cases h
  | .exc _ _ _ _, _, _, h, _ => by cases h
theorem rc_isi {T U : String} {b : Bool} (h : tyD d = some T) (e : kitB T U = some b) : RDC K (rIsi K) [d, .ty U] (.bl b) := .mk fun O0 _ O H vs _ hk r k => by
  obtain ⟨v, w, rfl, h1, v2, w2, rfl, h2, h3⟩ := r
  obtain rfl : w2 = [] := h3
  obtain rfl : v2 = .ty U := h2
  exact ⟨v, .ty U, .type T, .type U, b, rfl, .ty U, tyX_of h (Rep.mono hid_le d v h1), kit_ty e, k _ H (Same.refl H) rfl⟩
/-! ### tests -/
theorem dt_test {b : Bool} (h : DE K te ρ (.bl b)) : DT K (tTest te) ρ b := .mk fun O0 B O σ H Q k q => h.run O0 B O σ H _ k fun v H' s r => ⟨b, r, q H' s⟩
theorem dt_B {b : Bool} (h : DE K te ρ (.bl b)) : DT K (tB te) ρ b := .mk fun O0 B O σ H Q k q => h.run O0 B O σ H _ k fun v H' s r => ⟨b, r, q H' s⟩
theorem dt_and {a b : Bool} (h1 : DT K t ρ a) (h2 : a = true → DT K u ρ b) : DT K (tAnd t u) ρ (a && b) := .mk fun O0 B O σ H Q k q => h1.run O0 B O σ H _ k fun H1 s1 => by
  cases a with
  | true => exact (h2 rfl).run O0 B O σ H1 _ (k.mono s1) fun H2 s2 => q H2 (s1.trans s2)
  | false => exact q H1 s1
theorem dt_or {a b : Bool} (h1 : DT K t ρ a) (h2 : a = false → DT K u ρ b) : DT K (tOr t u) ρ (a || b) := .mk fun O0 B O σ H Q k q => h1.run O0 B O σ H _ k fun H1 s1 => by
  cases a with
  | true => exact q H1 s1
  | false => exact (h2 rfl).run O0 B O σ H1 _ (k.mono s1) fun H2 s2 => q H2 (s1.trans s2)
theorem dt_not {a : Bool} (h1 : DT K t ρ a) : DT K (tNot t) ρ (!a) := .mk fun O0 B O σ H Q k q => h1.run O0 B O σ H _ k fun H1 s1 => q H1 s1
theorem de_andV {a : Bool} (h1 : DE K ta ρ (.bl a)) (h2 : a = true → DE K tb ρ d) (h3 : a = false → d = .bl false) : DE K (tAndV ta tb) ρ d := .mk fun O0 B O σ H Q k q => h1.run O0 B O σ H _ k fun v H1 s1 r1 => ⟨a, r1, by
  cases a with
  | true => exact (h2 rfl).run O0 B O σ H1 _ (k.mono s1) fun w H2 s2 r2 => q w H2 (s1.trans s2) r2
  | false => rw [if_neg Bool.false_ne_true]; exact q _ H1 s1 (by rw [h3 rfl]; rfl)⟩
theorem de_orV {a : Bool} (h1 : DE K ta ρ (.bl a)) (h2 : a = false → DE K tb ρ d) (h3 : a = true → d = .bl true) : DE K (tOrV ta tb) ρ d := .mk fun O0 B O σ H Q k q => h1.run O0 B O σ H _ k fun v H1 s1 r1 => ⟨a, r1, by
  cases a with
  | false => exact (h2 rfl).run O0 B O σ H1 _ (k.mono s1) fun w H2 s2 r2 => q w H2 (s1.trans s2) r2
  | true => rw [if_pos rfl]; exact q _ H1 s1 (by rw [h3 rfl]; rfl)⟩
theorem de_andB {a b : Bool} (h1 : DE K ta ρ (.bl a)) (h2 : a = true → DE K tb ρ (.bl b)) : DE K (tAndV ta tb) ρ (.bl (a && b)) := by
  cases a with
  | true => exact de_andV h1 (fun _ => h2 rfl) fun e => by cases e
  | false => exact de_andV h1 (fun e => by cases e) fun _ => rfl
theorem de_orB {a b : Bool} (h1 : DE K ta ρ (.bl a)) (h2 : a = false → DE K tb ρ (.bl b)) : DE K (tOrV ta tb) ρ (.bl (a || b)) := by
  cases a with
  | false => exact de_orV h1 (fun _ => h2 rfl) fun e => by cases e
  | true => exact de_orV h1 (fun e => by cases e) fun _ => rfl
theorem de_notV {a : Bool} (h1 : DE K ta ρ (.bl a)) : DE K (tNotV ta) ρ (.bl (!a)) := .mk fun O0 B O σ H Q k q => h1.run O0 B O σ H _ k fun v H1 s1 r1 => ⟨a, r1, q _ H1 s1 rfl⟩
theorem de_if {b : Bool} (h : DT K t ρ b) (h1 : b = true → DE K ta ρ d) (h2 : b = false → DE K tb ρ d) : DE K (tIf t ta tb) ρ d := .mk fun O0 B O σ H Q k q => h.run O0 B O σ H _ k fun H1 s1 => by
  cases b with
  | true => exact (h1 rfl).run O0 B O σ H1 _ (k.mono s1) fun w H2 s2 r2 => q w H2 (s1.trans s2) r2
  | false => exact (h2 rfl).run O0 B O σ H1 _ (k.mono s1) fun w H2 s2 r2 => q w H2 (s1.trans s2) r2
theorem de_isN (h : DE K ta ρ d) : DE K (tIsN ta) ρ (.bl (match d with | .non => true | _ => false)) := .mk fun O0 B O σ H Q k q => h.run O0 B O σ H _ k fun v H1 s1 r1 => q _ H1 s1 (by
  cases d with
  | non => rw [show v = _ from r1]; rfl
  | bl _ => rw [show v = _ from r1]; rfl
  | int _ => rw [show v = _ from r1]; rfl
  | str _ => rw [show v = _ from r1]; rfl
  | ref _ => rw [show v = _ from r1]; rfl
  | ty _ => rw [show v = _ from r1]; rfl
  | tup _ => obtain ⟨_, _, e, _⟩ := r1; rw [e]; rfl
  | lst _ => obtain ⟨_, _, e, _⟩ := r1; rw [e]; rfl
  | ins _ _ => obtain ⟨_, _, _, e, _⟩ := r1; rw [e]; rfl
  | exc _ _ _ _ => obtain ⟨e, _⟩ := r1; rw [e]; rfl)
theorem de_notN (h : DE K ta ρ d) : DE K (tNotN ta) ρ (.bl (match d with | .non => false | _ => true)) := .mk fun O0 B O σ H Q k q => h.run O0 B O σ H _ k fun v H1 s1 r1 => q _ H1 s1 (by
  cases d with
  | non => rw [show v = _ from r1]; rfl
  | bl _ => rw [show v = _ from r1]; rfl
  | int _ => rw [show v = _ from r1]; rfl
  | str _ => rw [show v = _ from r1]; rfl
  | ref _ => rw [show v = _ from r1]; rfl
  | ty _ => rw [show v = _ from r1]; rfl
  | tup _ => obtain ⟨_, _, e, _⟩ := r1; rw [e]; rfl
  | lst _ => obtain ⟨_, _, e, _⟩ := r1; rw [e]; rfl
  | ins _ _ => obtain ⟨_, _, _, e, _⟩ := r1; rw [e]; rfl
  | exc _ _ _ _ => obtain ⟨e, _⟩ := r1; rw [e]; rfl)
-- slices
theorem do_none : DO K tNoPart ρ none := .mk fun _ _ _ _ H _ _ q => q H (Same.refl H)
theorem do_some {i : Int} (h : DE K te ρ (.int i)) : DO K (tPart te) ρ (some i) := .mk fun O0 B O σ H Q k q => h.run O0 B O σ H _ k fun v H1 s1 r1 => ⟨i, r1, q H1 s1⟩
def cutD {α : Type} (xs : List α) (lo hi : Option Int) : List α := (xs.drop (HT.sIx xs.length 0 lo)).take (HT.sIx xs.length xs.length hi - HT.sIx xs.length 0 lo)
theorem reps_cut {G : Hp} {ds : List Dt} {xs : List V} (r : Reps K G ds xs) (lo hi : Option Int) : Reps K G (cutD ds lo hi) (cutV xs lo hi) := by
  unfold cutD cutV
  rw [r.length]
  exact (r.drop _).take _
theorem dl_sl {tl th : TO} {ds : List Dt} {lo hi : Option Int} (h : DE K te ρ (.lst ds)) (h1 : DO K tl ρ lo) (h2 : DO K th ρ hi) : DL K (tSl (rSlL K) te tl th) ρ (cutD ds lo hi) := .mk fun O0 B O σ H Q k q =>
  h.run O0 B O σ H _ k fun v H1 s1 r1 => h1.run O0 B O σ H1 _ (k.mono s1) fun H2 s2 => h2.run O0 B O σ H2 _ (k.mono (s1.trans s2)) fun H3 s3 => by
    obtain ⟨a, xs, rfl, e1, e2⟩ := r1
    exact ⟨a, xs, rfl, (hid_le.trans (s2.trans s3)).seq e1, fun p hp => q p _ _ (((s1.trans s2).trans s3).trans (same_upd hp)) (((s1.trans s2).trans s3).free hp) upd_same
      (reps_new (same_upd hp) hp (reps_cut (Reps.mono (hid_mono (s2.trans s3)) ds xs e2) lo hi))⟩
end
end DL

/-! DL3: statements, loops, comprehensions, defs over data. -/
namespace DL
open PySem PySem.Spec PyProof.Rows L2

/-- what is wanted behind a statement, of data alone -/
structure DEnds where
  nx : PEnv → Prop
  rt : Dt → Prop
  bk : PEnv → Prop := fun _ => False
  ct : PEnv → Prop := fun _ => False
  ex : Addr → List (Str × Dt) → PEnv → Prop := fun _ _ _ => False
structure Real (K : PySem.W.Frag) (W : WX) (O0 : List Addr) (B : Hp) (D : DEnds) (G : Ends) : Prop where
  nx : ∀ ρ O σ H, D.nx ρ → Ok K O0 B O σ ρ H → G.nx σ H
  bk : ∀ ρ O σ H, D.bk ρ → Ok K O0 B O σ ρ H → G.bk σ H
  ct : ∀ ρ O σ H, D.ct ρ → Ok K O0 B O σ ρ H → G.ct σ H
  rt : ∀ d O v H, D.rt d → OkH O0 B O H → Rep K (hid (O0 ++ O) H) d v → G.rt v H
  ex : ∀ C fs ρ O σ H dd xs, D.ex C fs ρ → Ok K O0 B O σ ρ H → B dd = none → hid (O0 ++ O) H dd = some (.xd xs) → RepF K (hid (O0 ++ O) H) fs xs → W (.ref C) (some dd) σ H
structure ES (K : PySem.W.Frag) (W : WX) (ts : TS) (ρ : PEnv) (D : DEnds) : Prop where
  run : ∀ (O0 : List Addr) (B : Hp) (O : List Addr) (σ : L2.St) (H : Hp) (G : Ends), Ok K O0 B O σ ρ H → Real K W O0 B D G → ts G σ H
section
variable {K : PySem.W.Frag} {W : WX} {ρ : PEnv} {ta tb te tc tl : TE} {t u : TT} {x y z d e : Dt} {ts tu : TS} {D : DEnds}
theorem Real.deep {O0 : List Addr} {B B' : Hp} {G : Ends} (r : Real K W O0 B D G) (s : Same B B') : Real K W O0 B' D G :=
  ⟨fun ρ O σ H h k => r.nx ρ O σ H h (k.base s), fun ρ O σ H h k => r.bk ρ O σ H h (k.base s), fun ρ O σ H h k => r.ct ρ O σ H h (k.base s), fun d O v H h k q => r.rt d O v H h (k.base s) q,
    fun C fs ρ O σ H dd xs h k n a b => r.ex C fs ρ O σ H dd xs h (k.base s) (s.free n) a b⟩
theorem es_seq (h : ES K W ts ρ { D with nx := fun ρ' => ES K W tu ρ' D }) : ES K W (tSeq ts tu) ρ D := .mk fun O0 B O σ H G k r =>
  h.run O0 B O σ H _ k ⟨fun ρ' O' σ' H' q k' => q.run O0 B O' σ' H' G k' r, r.bk, r.ct, r.rt, r.ex⟩
/-- .. with what holds between said -/
theorem es_cut (R : PEnv → Prop) (h : ES K W ts ρ { D with nx := R }) (h2 : ∀ ρ', R ρ' → ES K W tu ρ' D) : ES K W (tSeq ts tu) ρ D := .mk fun O0 B O σ H G k r =>
  h.run O0 B O σ H _ k ⟨fun ρ' O' σ' H' q k' => (h2 ρ' q).run O0 B O' σ' H' G k' r, r.bk, r.ct, r.rt, r.ex⟩
theorem es_weak {τ : PEnv} (w : Wk ρ τ) (h : ES K W ts τ D) : ES K W ts ρ D := .mk fun O0 B O σ H G k r => by
  obtain ⟨O', k'⟩ := k.weak w
  exact h.run O0 B O' σ H G k' r
theorem es_imp {D' : DEnds} (h : ES K W ts ρ D') (h1 : ∀ ρ', D'.nx ρ' → D.nx ρ') (h2 : ∀ d, D'.rt d → D.rt d) (h3 : ∀ ρ', D'.bk ρ' → D.bk ρ') (h4 : ∀ ρ', D'.ct ρ' → D.ct ρ') (h5 : ∀ C fs ρ', D'.ex C fs ρ' → D.ex C fs ρ') : ES K W ts ρ D := .mk fun O0 B O σ H G k r =>
  h.run O0 B O σ H G k ⟨fun ρ O σ H q => r.nx ρ O σ H (h1 ρ q), fun ρ O σ H q => r.bk ρ O σ H (h3 ρ q), fun ρ O σ H q => r.ct ρ O σ H (h4 ρ q), fun d O v H q => r.rt d O v H (h2 d q), fun C fs ρ O σ H dd xs q => r.ex C fs ρ O σ H dd xs (h5 C fs ρ q)⟩
theorem es_next (h : D.nx ρ) : ES K W tNext ρ D := .mk fun O0 B O σ H G k r => r.nx ρ O σ H h k
theorem es_break (h : D.bk ρ) : ES K W tBreak ρ D := .mk fun O0 B O σ H G k r => r.bk ρ O σ H h k
theorem es_cont (h : D.ct ρ) : ES K W tCont ρ D := .mk fun O0 B O σ H G k r => r.ct ρ O σ H h k
theorem es_drop (h : DE K te ρ d) (q : D.nx ρ) : ES K W (tDrop te) ρ D := .mk fun O0 B O σ H G k r => h.run O0 B O σ H _ k fun v H' s _ => r.nx ρ O σ H' q (k.mono s)
theorem es_ret (h : DE K te ρ d) (q : D.rt d) : ES K W (tRet te) ρ D := .mk fun O0 B O σ H G k r => h.run O0 B O σ H _ k fun v H' s rv => r.rt d O v H' q (k.h.mono s) rv
theorem es_retN (q : D.rt .non) : ES K W tRetN ρ D := .mk fun O0 B O σ H G k r => r.rt .non O .non H q k.h rfl
theorem es_set {i : Nat} (h : DE K te ρ d) (q : D.nx (ρ.set i (.dat d))) : ES K W (tAsg te (gName i)) ρ D := .mk fun O0 B O σ H G k r =>
  h.run O0 B O σ H _ k fun v H' s rv => r.nx _ O _ H' q ((k.mono s).set rv)
theorem es_setOwn {i : Nat} {ds : List Dt} (h : DL K te ρ ds) (q : D.nx (ρ.set i (.own ds))) : ES K W (tAsg te (gName i)) ρ D := .mk fun O0 B O σ H G k r =>
  h.run O0 B O σ H _ k fun p xs H' s hp e rv => r.nx _ (p :: O) _ H' q (k.setOwn hp s e rv)
theorem es_never (h : False) : ES K W ts ρ D := h.elim
theorem es_if {b : Bool} (h : DT K t ρ b) (h1 : b = true → ES K W ts ρ D) (h2 : b = false → ES K W tu ρ D) : ES K W (tIfS t ts tu) ρ D := .mk fun O0 B O σ H G k r => h.run O0 B O σ H _ k fun H1 s1 => by
  cases b with
  | true => exact (h1 rfl).run O0 B O σ H1 G (k.mono s1) r
  | false => exact (h2 rfl).run O0 B O σ H1 G (k.mono s1) r
theorem es_ifT (h : DT K t ρ true) (h1 : ES K W ts ρ D) : ES K W (tIfS t ts tu) ρ D := es_if h (fun _ => h1) fun e => by cases e
theorem es_ifF (h : DT K t ρ false) (h1 : ES K W tu ρ D) : ES K W (tIfS t ts tu) ρ D := es_if h (fun e => by cases e) fun _ => h1
/-- name op= e -/
theorem es_augI {i : Nat} {f : Int → Int → Int} {a b : Int} (hx : ρ[i]? = some (.dat (.int a))) (h : DE K te ρ (.int b)) (q : D.nx (ρ.set i (.dat (.int (f a b))))) : ES K W (tAug i te (ipI f)) ρ D := .mk fun O0 B O σ H G k r => by
  obtain ⟨v, h1, h2⟩ := k.sl i _ hx
  obtain rfl : v = .int a := h2
  exact ⟨.int a, h1, h.run O0 B O σ H _ k fun w H' s rv => ⟨a, b, rfl, rv, r.nx _ O _ H' q ((k.mono s).set rfl)⟩⟩
/-- targets -/
structure DG (K : PySem.W.Frag) (g : TG) (d : Dt) (ρ ρ' : PEnv) : Prop where
  run : ∀ (O0 : List Addr) (B : Hp) (O : List Addr) (σ : L2.St) (H : Hp) (v : V) (Q : L2.St → Hp → Prop), Ok K O0 B O σ ρ H → Rep K (hid (O0 ++ O) H) d v →
  (∀ σ' H', Same H H' → Ok K O0 B O σ' ρ' H' → Q σ' H') → g v σ H Q
structure DGs (K : PySem.W.Frag) (g : TGs) (ds : List Dt) (ρ ρ' : PEnv) : Prop where
  run : ∀ (O0 : List Addr) (B : Hp) (O : List Addr) (σ : L2.St) (H : Hp) (vs : List V) (Q : L2.St → Hp → Prop), Ok K O0 B O σ ρ H → Reps K (hid (O0 ++ O) H) ds vs →
  (∀ σ' H', Same H H' → Ok K O0 B O σ' ρ' H' → Q σ' H') → g vs σ H Q
theorem dg_name {i : Nat} : DG K (gName i) d ρ (ρ.set i (.dat d)) := .mk fun O0 B O σ H v Q k r q => q _ H (Same.refl H) (k.set r)
theorem dgs_nil : DGs K gNil [] ρ ρ := .mk fun O0 B O σ H v Q k r q => ⟨r, q σ H (Same.refl H) k⟩
theorem dgs_cons {g : TG} {gs : TGs} {ds : List Dt} {ρ1 ρ2 : PEnv} (h : DG K g d ρ ρ1) (h2 : DGs K gs ds ρ1 ρ2) : DGs K (gCons g gs) (d :: ds) ρ ρ2 := .mk fun O0 B O σ H vs Q k r q => by
  obtain ⟨v, w, rfl, r1, r2⟩ := r
  exact ⟨v, w, rfl, h.run O0 B O σ H v _ k r1 fun σ1 H1 s1 k1 => h2.run O0 B O σ1 H1 w Q k1 (Reps.mono (hid_mono s1) ds w r2) fun σ2 H2 s2 k2 => q σ2 H2 (s1.trans s2) k2⟩
theorem dg_tup {gs : TGs} {ds : List Dt} {n : Nat} {ρ1 : PEnv} (h : DGs K gs ds ρ ρ1) (hn : ds.length = n) : DG K (gTup K n gs) (.tup ds) ρ ρ1 := .mk fun O0 B O σ H v Q k r q => by
  obtain ⟨a, xs, rfl, h1, h2⟩ := r
  exact ⟨a, xs, rfl, Same.seqT hid_le h1, h2.length.trans hn, h.run O0 B O σ H xs Q k h2 q⟩
theorem es_asg {g : TG} {ρ1 : PEnv} (h : DE K te ρ d) (hg : DG K g d ρ ρ1) (q : D.nx ρ1) : ES K W (tAsg te g) ρ D := .mk fun O0 B O σ H G k r =>
  h.run O0 B O σ H _ k fun v H1 s1 rv => hg.run O0 B O σ H1 v _ (k.mono s1) rv fun σ2 H2 s2 k2 => r.nx _ O σ2 H2 q k2
/-- a, b = x, y -/
theorem es_par {i j : Nat} {ta : TA} (h : DA K ta ρ [x, y]) (q : D.nx ((ρ.set i (.dat x)).set j (.dat y))) : ES K W (tPar i j ta) ρ D := .mk fun O0 B O σ H G k r =>
  h.run O0 B O σ H _ k fun vs H1 s1 rv => by
    obtain ⟨v, w, rfl, r1, v2, w2, rfl, r2, r3⟩ := rv
    obtain rfl : w2 = [] := r3
    exact ⟨v, v2, rfl, r.nx _ O _ H1 q (((k.mono s1).set r1).set r2)⟩
/-! ### owned lists -/
theorem ownAt {O0 O : List Addr} {B H : Hp} {σ : L2.St} {i : Nat} {ds : List Dt} (k : Ok K O0 B O σ ρ H) (h : ρ[i]? = some (.own ds)) : ∃ p xs, σ[i]? = some (some (.ref p)) ∧ p ∈ O ∧ H p = some (.lst xs) ∧ Reps K (hid (O0 ++ O) H) ds xs := k.sl i _ h
/-- xs.append(e) -/
theorem es_append {i : Nat} {ds : List Dt} (h : ρ[i]? = some (.own ds)) (he : DE K te ρ d) (hl : ds.length < sizeLine) (q : D.nx (ρ.set i (.own (ds ++ [d])))) : ES K W (tDrop (tBM K "list" rAppend (tVar i) (tCons te tNil))) ρ D := .mk fun O0 B O σ H G k r => by
  obtain ⟨p, xs, h1, h2, h3, h4⟩ := ownAt k h
  refine ⟨.ref p, h1, .inl ⟨rfl, xs, .inl (.inl h3)⟩, he.run O0 B O σ H _ k fun v H1 s1 r1 => ⟨p, xs, v, rfl, rfl, s1 _ _ h3, by rw [h4.length]; exact hl, ?_⟩⟩
  exact r.nx _ O _ _ q ((k.mono s1).mut h h1 ((Reps.mono (hid_mono s1) ds xs h4).append (Reps.one r1)) h2)
/-- xs[i] = e -/
theorem es_setIx {i : Nat} {ds : List Dt} {n : Int} {j : Nat} (h : ρ[i]? = some (.own ds)) (he : DE K te ρ d) (hi : DE K ta ρ (.int n)) (hj : ixN ds.length n = some j) (q : D.nx (ρ.set i (.own (ds.set j d)))) : ES K W (tAsg te (gSub (tVar i) ta rSetL)) ρ D := .mk fun O0 B O σ H G k r => by
  obtain ⟨p, xs, h1, h2, h3, h4⟩ := ownAt k h
  refine he.run O0 B O σ H _ k fun v H1 s1 r1 => ⟨.ref p, h1, hi.run O0 B O σ H1 _ (k.mono s1) fun w H2 s2 r2 => ⟨p, xs, n, j, rfl, r2, s2 _ _ (s1 _ _ h3), by rw [h4.length]; exact hj, ?_⟩⟩
  exact r.nx _ O _ _ q ((k.mono (s1.trans s2)).mut h h1 ((Reps.mono (hid_mono (s1.trans s2)) ds xs h4).set j (Rep.mono (hid_mono s2) d v r1)) h2)
/-- an item of an owned list -/
theorem de_ixOwn {i : Nat} {ds : List Dt} {n : Int} (h : ρ[i]? = some (.own ds)) (hi : DE K ta ρ (.int n)) (ha : atI ds n = some d) : DE K (tOp (rIxL K) (tVar i) ta) ρ d := .mk fun O0 B O σ H Q k q => by
  obtain ⟨p, xs, h1, h2, h3, h4⟩ := ownAt k h
  refine ⟨.ref p, h1, hi.run O0 B O σ H _ k fun v H1 s1 r1 => ?_⟩
  unfold atI at ha
  obtain ⟨j, h5, h6⟩ := Option.bind_eq_some_iff.mp ha
  obtain ⟨u, h7, h8⟩ := h4.get h6
  exact ⟨p, xs, n, u, rfl, r1, .inl (.inl (s1 _ _ h3)), by unfold atI; rw [h4.length, h5]; exact h7, q u H1 s1 (Rep.mono (hid_mono s1) d u h8)⟩
theorem de_ixOwnS {i : Nat} {ds : List Dt} {n : Int} (h : ρ[i]? = some (.own ds)) (hi : DE K ta ρ (.int n)) (ha : atI ds n = some d) : DE K (tOp (rIx K) (tVar i) ta) ρ d := .mk fun O0 B O σ H Q k q => by
  obtain ⟨p, xs, h1, h2, h3, h4⟩ := ownAt k h
  refine ⟨.ref p, h1, hi.run O0 B O σ H _ k fun v H1 s1 r1 => .inl ?_⟩
  unfold atI at ha
  obtain ⟨j, h5, h6⟩ := Option.bind_eq_some_iff.mp ha
  obtain ⟨u, h7, h8⟩ := h4.get h6
  exact ⟨p, xs, n, u, rfl, r1, .inl (.inl (s1 _ _ h3)), by unfold atI; rw [h4.length, h5]; exact h7, q u H1 s1 (Rep.mono (hid_mono s1) d u h8)⟩
/-- its length -/
def rLenQ (K : PySem.W.Frag) : List V → Hp → VK → Prop := fun xs H Q => ∃ p ys, xs = [.ref p] ∧ (SqL K H p ys ∨ SqT K H p ys) ∧ Q (.int ys.length) H
theorem de_lenOwn {i : Nat} {ds : List Dt} {n : Nat} (h : ρ[i]? = some (.own ds)) (hn : ds.length = n) : DE K (tCB (fun xs H Q => ∃ p ys, xs = [V.ref p] ∧ (SqL K H p ys ∨ SqT K H p ys) ∧ Q (.int ys.length) H) (tCons (tVar i) tNil)) ρ (.int n) := .mk fun O0 B O σ H Q k q => by
  obtain ⟨p, xs, h1, h2, h3, h4⟩ := ownAt k h
  exact ⟨.ref p, h1, p, xs, rfl, .inl (.inl (.inl h3)), q _ H (Same.refl H) (by rw [h4.length, hn]; rfl)⟩
/-- a copy of it as a tuple -/
theorem de_tupOwn {i : Nat} {ds : List Dt} (h : ρ[i]? = some (.own ds)) : DE K (tCB (fun xs H Q => ∃ a ys, xs = [V.ref a] ∧ ((SqL K H a ys ∧ ∀ l, H l = none → Q (.ref l) (upd H l (.tup ys))) ∨ (SqT K H a ys ∧ Q (.ref a) H))) (tCons (tVar i) tNil)) ρ (.tup ds) := .mk fun O0 B O σ H Q k q => by
  obtain ⟨p, xs, h1, h2, h3, h4⟩ := ownAt k h
  refine ⟨.ref p, h1, p, xs, rfl, .inl ⟨.inl (.inl h3), fun l hl => q _ _ (same_upd hl) ⟨l, xs, rfl, .inl (.inl ?_), Reps.mono (hid_mono (same_upd hl)) ds xs h4⟩⟩⟩
  rw [hid_out (k.h.out hl)]
  exact upd_same

/-! ### loops. inv: the environment ahead of the turn i -/
/-- what a walk yields as data, while what stands in a heap that is kept stands -/
structure DIt (K : PySem.W.Frag) (J : It) (O0 O : List Addr) (H0 : Hp) (ds : List Dt) : Prop where
  step : ∀ (i : Nat) (d : Dt) (Z O1 : List Addr) (H : Hp), (∀ p ∈ Z, p ∈ O0 ∨ H0 p = none) → ds[i]? = some d → Same (hid O H0) H → OkH Z (hid O H0) O1 H → J.go i H ∧ ∀ x H', J.yld i H x H' → Same H H' ∧ Rep K (hid (Z ++ O1) H') d x
  stop : ∀ (H : Hp), Same (hid O H0) H → J.stop ds.length H
theorem know2 {O0 O Z O1 : List Addr} {H H1 : Hp} (k : OkH Z (hid O H) O1 H1) (hz : ∀ p ∈ Z, p ∈ O0 ∨ H p = none) : Same (hid (O0 ++ O) H) (hid (Z ++ O1) H1) := fun a o e => by
  have ha : a ∉ O0 ++ O := fun z => by rw [hid_in z] at e; cases e
  rw [hid_out ha] at e
  have h1 : hid O H a = some o := by
    rw [hid_out fun z => ha (List.mem_append_right _ z)]
    exact e
  have h2 : a ∉ O1 := fun z => by
    rw [k.fr a z] at h1
    cases h1
  have h3 : a ∉ Z := fun z => by
    rcases hz a z with q | q
    · exact ha (List.mem_append_left _ q)
    · rw [e] at q; cases q
  rw [hid_out fun z => (List.mem_append.mp z).elim h3 h2]
  exact k.ext a o h1
structure DI (K : PySem.W.Frag) (ti : TI) (ρ : PEnv) (ds : List Dt) : Prop where
  run : ∀ (O0 : List Addr) (B : Hp) (O : List Addr) (σ : L2.St) (H : Hp) (R : It → Hp → Prop), Ok K O0 B O σ ρ H →
  (∀ J H', Same H H' → DIt K J O0 O H' ds → R J H') → ti σ H R
theorem di_list {ds : List Dt} (h : DE K tl ρ (.lst ds)) : DI K (iList K tl) ρ ds := .mk fun O0 B O σ H R k q => h.run O0 B O σ H _ k fun v H1 s1 r1 => by
  obtain ⟨a, xs, rfl, h1, h2⟩ := r1
  have nx : hid (O0 ++ O) H1 = hid O0 (hid O H1) := by
    funext b
    by_cases h3 : b ∈ O
    · rw [hid_in (List.mem_append_right _ h3)]
      by_cases h4 : b ∈ O0
      · rw [hid_in h4]
      · rw [hid_out h4, hid_in h3]
    · by_cases h4 : b ∈ O0
      · rw [hid_in (List.mem_append_left _ h4), hid_in h4]
      · rw [hid_out (fun z => (List.mem_append.mp z).elim h4 h3), hid_out h4, hid_out h3]
  have h1' : SqL K (hid O H1) a xs := by rw [nx] at h1; exact hid_le.seq h1
  refine ⟨a, rfl, ⟨xs, hid_le.seq h1⟩, q _ H1 s1 ⟨fun i d Z O1 H hz hd s k1 => ?_, fun H s => ⟨xs, s.seq h1', by rw [h2.length]; exact Nat.le_refl _⟩⟩⟩
  obtain ⟨x, h5, h6⟩ := h2.get hd
  refine ⟨⟨xs, x, s.seq h1', h5⟩, fun y H' hy => ?_⟩
  obtain ⟨e, hy⟩ := hy
  subst e
  have e2 : y = x := Option.some.inj ((hy xs (s.seq h1')).symm.trans h5)
  subst e2
  exact ⟨Same.refl _, Rep.mono (know2 k1 hz) d y h6⟩
theorem di_tup {ds : List Dt} (h : DE K tl ρ (.tup ds)) : DI K (iTup K tl) ρ ds := .mk fun O0 B O σ H R k q => h.run O0 B O σ H _ k fun v H1 s1 r1 => by
  obtain ⟨a, xs, rfl, h1, h2⟩ := r1
  have nx : hid (O0 ++ O) H1 = hid O0 (hid O H1) := by
    funext b
    by_cases h3 : b ∈ O
    · rw [hid_in (List.mem_append_right _ h3)]
      by_cases h4 : b ∈ O0
      · rw [hid_in h4]
      · rw [hid_out h4, hid_in h3]
    · by_cases h4 : b ∈ O0
      · rw [hid_in (List.mem_append_left _ h4), hid_in h4]
      · rw [hid_out (fun z => (List.mem_append.mp z).elim h4 h3), hid_out h4, hid_out h3]
  have h1' : SqT K (hid O H1) a xs := by rw [nx] at h1; exact Same.seqT hid_le h1
  refine ⟨a, rfl, ⟨xs, Same.seqT hid_le h1⟩, q _ H1 s1 ⟨fun i d Z O1 H hz hd s k1 => ?_, fun H s => ⟨xs, Same.seqT s h1', by rw [h2.length]; exact Nat.le_refl _⟩⟩⟩
  obtain ⟨x, h5, h6⟩ := h2.get hd
  refine ⟨⟨xs, x, Same.seqT s h1', h5⟩, fun y H' hy => ?_⟩
  obtain ⟨e, hy⟩ := hy
  subst e
  have e2 : y = x := Option.some.inj ((hy xs (Same.seqT s h1')).symm.trans h5)
  subst e2
  exact ⟨Same.refl _, Rep.mono (know2 k1 hz) d y h6⟩
def rangeD (lo : Int) (n : Nat) : List Dt := (List.range n).map fun k => .int (lo + (k : Nat))
theorem rangeD_get {lo : Int} {n i : Nat} (h : i < n) : (rangeD lo n)[i]? = some (.int (lo + (i : Nat))) := by
  unfold rangeD
  rw [List.getElem?_map, List.getElem?_range h]
  rfl
theorem rangeD_len {lo : Int} {n : Nat} : (rangeD lo n).length = n := by
  unfold rangeD
  rw [List.length_map, List.length_range]
theorem dit_range {lo : Int} {n : Nat} {O0 O : List Addr} {H1 : Hp} : DIt K (Itr lo n) O0 O H1 (rangeD lo n) :=
  ⟨fun i d Z O1 H hz hd s k1 => by
    have hi : i < n := by
      have := (List.getElem?_eq_some_iff.mp hd).1
      rw [rangeD_len] at this
      exact this
    rw [rangeD_get hi] at hd
    cases hd
    refine ⟨hi, fun x H' hy => ?_⟩
    obtain ⟨e, hy⟩ := hy
    subst e hy
    exact ⟨Same.refl _, rfl⟩, fun H s => by
    rw [rangeD_len]
    exact Nat.le_refl _⟩
def rangeN (n : Nat) : List Dt := (List.range n).map fun k => .int (k : Nat)
theorem rangeN_eq (n : Nat) : rangeD 0 n = rangeN n := by
  unfold rangeD rangeN
  congr 1
  funext k
  rw [Int.zero_add]
theorem rangeN_get {n i : Nat} (h : i < n) : (rangeN n)[i]? = some (.int (i : Nat)) := by
  rw [← rangeN_eq, rangeD_get h, Int.zero_add]
theorem rangeN_len {n : Nat} : (rangeN n).length = n := by rw [← rangeN_eq, rangeD_len]
theorem di_range1 {ta : TA} {n : Int} (h : DA K ta ρ [.int n]) (h0 : -(2 ^ 62) ≤ n) (h1 : n < 2 ^ 62) : DI K (iRng1 ta) ρ (rangeN n.toNat) := .mk fun O0 B O σ H R k q => h.run O0 B O σ H _ k fun vs H1 s1 r1 => by
  obtain ⟨v, w, rfl, r2, r3⟩ := r1
  obtain rfl : w = [] := r3
  obtain rfl : v = .int n := r2
  rw [← rangeN_eq] at q
  exact ⟨n, rfl, h0, h1, q _ H1 s1 dit_range⟩
theorem di_range2 {ta : TA} {m n : Int} (h : DA K ta ρ [.int m, .int n]) (h0 : -(2 ^ 62) ≤ m) (h1 : m < 2 ^ 62) (h2 : -(2 ^ 62) ≤ n) (h3 : n < 2 ^ 62) : DI K (iRng2 ta) ρ (rangeD m (n - m).toNat) := .mk fun O0 B O σ H R k q => h.run O0 B O σ H _ k fun vs H1 s1 r1 => by
  obtain ⟨v, w, rfl, r2, v2, w2, rfl, r3, r4⟩ := r1
  obtain rfl : w2 = [] := r4
  obtain rfl : v = .int m := r2
  obtain rfl : v2 = .int n := r3
  exact ⟨m, n, rfl, ⟨h0, h1, h2, h3⟩, q _ H1 s1 dit_range⟩
/-- the loop: inv i is the environment ahead of turn i -/
theorem es_for {ti : TI} {g : TG} {ds : List Dt} (hi : DI K ti ρ ds) (inv : Nat → PEnv → Prop) (h0 : ∃ τ, Wk ρ τ ∧ inv 0 τ)
    (hs : ∀ i d τ, ds[i]? = some d → inv i τ → ∃ τ1, DG K g d τ τ1 ∧ ES K W ts τ1 { D with nx := fun ρ' => ∃ τ', Wk ρ' τ' ∧ inv (i + 1) τ', ct := fun ρ' => ∃ τ', Wk ρ' τ' ∧ inv (i + 1) τ', bk := D.nx })
    (hd : ∀ τ, inv ds.length τ → D.nx τ) : ES K W (tFor ti g ts) ρ D := .mk fun O0 B O σ H G k r => hi.run O0 B O σ H _ k fun J H1 s1 it => by
  have k1 := k.mono s1
  refine ⟨fun i m σ' H' => m + i = ds.length ∧ Same (hid O H1) H' ∧ ∃ τ O', inv i τ ∧ Ok K O0 (hid O H1) O' σ' τ H', ⟨ds.length, ?_⟩, ?_⟩
  · obtain ⟨τ, w, q⟩ := h0
    obtain ⟨O', k'⟩ := k1.deep.weak w
    exact ⟨rfl, hid_le, τ, O', q, k'⟩
  · rintro i m σ' H' ⟨em, sm, τ, O', q, k'⟩
    have bs : Same B (hid O H1) := k1.h.deepS
    by_cases hlt : i < ds.length
    · obtain ⟨go, yl⟩ := it.step i ds[i] O0 O' H' (fun _ h => .inl h) (List.getElem?_eq_getElem hlt) sm k'.h
      refine .inr ⟨go, fun σ2 H2 => Same (hid O H1) H2 ∧ ∃ τ O', inv (i + 1) τ ∧ Ok K O0 (hid O H1) O' σ2 τ H2, fun σ2 H2 hN => ⟨m - 1, by omega, by omega, hN⟩, fun x H2 hy => ?_⟩
      obtain ⟨s2, rx⟩ := yl x H2 hy
      obtain ⟨τ1, hg, hb⟩ := hs i ds[i] τ (List.getElem?_eq_getElem hlt) q
      refine hg.run O0 (hid O H1) O' σ' H2 x _ (k'.mono s2) rx fun σ3 H3 s3 k3 => hb.run O0 (hid O H1) O' σ3 H3 _ k3 ?_
      have rd := r.deep bs
      refine ⟨fun ρ4 O4 σ4 H4 q4 k4 => ?_, fun ρ4 O4 σ4 H4 q4 k4 => rd.nx ρ4 O4 σ4 H4 q4 k4, fun ρ4 O4 σ4 H4 q4 k4 => ?_, rd.rt, rd.ex⟩
      · obtain ⟨τ', w, q5⟩ := q4
        obtain ⟨O5, k5⟩ := k4.weak w
        exact ⟨k5.h.ext, τ', O5, q5, k5⟩
      · obtain ⟨τ', w, q5⟩ := q4
        obtain ⟨O5, k5⟩ := k4.weak w
        exact ⟨k5.h.ext, τ', O5, q5, k5⟩
    · have e : i = ds.length := by omega
      subst e
      exact .inl ⟨it.stop H' sm, r.nx τ O' σ' H' (hd τ q) (k'.base bs)⟩
/-- while, by a measure of the environment -/
theorem es_while (inv : Nat → PEnv → Prop) {m0 : Nat} (h0 : ∃ τ, Wk ρ τ ∧ inv m0 τ)
    (hs : ∀ m τ, inv m τ → ∃ b, DT K t τ b ∧ (b = true → ES K W ts τ { D with nx := fun ρ' => ∃ m' τ', m' < m ∧ Wk ρ' τ' ∧ inv m' τ', ct := fun ρ' => ∃ m' τ', m' < m ∧ Wk ρ' τ' ∧ inv m' τ', bk := D.nx }) ∧ (b = false → D.nx τ)) : ES K W (tWhile t ts) ρ D := .mk fun O0 B O σ H G k r => by
  refine ⟨fun m σ' H' => ∃ τ O', inv m τ ∧ Ok K O0 B O' σ' τ H', ⟨m0, ?_⟩, ?_⟩
  · obtain ⟨τ, w, q⟩ := h0
    obtain ⟨O', k'⟩ := k.weak w
    exact ⟨τ, O', q, k'⟩
  · rintro m σ' H' ⟨τ, O', q, k'⟩
    obtain ⟨b, ht, h1, h2⟩ := hs m τ q
    refine ht.run O0 B O' σ' H' _ k' fun H1 s1 => ?_
    cases b with
    | false => exact r.nx τ O' σ' H1 (h2 rfl) (k'.mono s1)
    | true =>
      refine ⟨fun σ2 H2 => ∃ m' , m' < m ∧ ∃ τ O', inv m' τ ∧ Ok K O0 B O' σ2 τ H2, fun σ2 H2 ⟨m', a, b⟩ => ⟨m', a, b⟩, (h1 rfl).run O0 B O' σ' H1 _ (k'.mono s1) ⟨fun ρ4 O4 σ4 H4 q4 k4 => ?_, fun ρ4 O4 σ4 H4 q4 k4 => r.nx ρ4 O4 σ4 H4 q4 k4, fun ρ4 O4 σ4 H4 q4 k4 => ?_, r.rt, r.ex⟩⟩
      · obtain ⟨m', τ', a, w, q5⟩ := q4
        obtain ⟨O5, k5⟩ := k4.weak w
        exact ⟨m', a, τ', O5, q5, k5⟩
      · obtain ⟨m', τ', a, w, q5⟩ := q4
        obtain ⟨O5, k5⟩ := k4.weak w
        exact ⟨m', a, τ', O5, q5, k5⟩

/-! ### comprehensions -/
def wipeE (ρ : PEnv) : List Nat → PEnv
  | [] => ρ
  | v :: vs => (wipeE ρ vs).set v .any
def NoOwn (ρ : PEnv) (vs : List Nat) : Prop := ∀ v ∈ vs, ∀ ds, ρ[v]? ≠ some (.own ds)
theorem Ok.forget {O0 O : List Addr} {B H : Hp} {σ : L2.St} (k : Ok K O0 B O σ ρ H) (i : Nat) : Ok K O0 B O (σ.set i none) (ρ.set i .any) H := by
  have ne : ∀ (c : Nat) (es : List Dt), (ρ.set i .any)[c]? = some (.own es) → i ≠ c := fun c es hc e => by
    subst e
    by_cases hi : i < ρ.length
    · rw [List.getElem?_set_self hi] at hc; cases hc
    · rw [List.getElem?_eq_none (by rw [List.length_set]; omega)] at hc; cases hc
  refine ⟨k.h, by rw [List.length_set, List.length_set]; exact k.len, fun j s hs => ?_, fun a b ds es p h1 h2 h3 h4 => ?_⟩
  · by_cases e : i = j
    · subst e
      by_cases hi : i < ρ.length
      · rw [List.getElem?_set_self hi] at hs
        cases hs
        exact True.intro
      · rw [List.getElem?_eq_none (by rw [List.length_set]; omega)] at hs
        cases hs
    · rw [List.getElem?_set_ne e] at hs ⊢
      exact k.sl j s hs
  · have na := ne a _ h1
    have nb := ne b _ h2
    rw [List.getElem?_set_ne na] at h1 h3
    rw [List.getElem?_set_ne nb] at h2 h4
    exact k.dis a b ds es p h1 h2 h3 h4
theorem Ok.wipe {O0 O : List Addr} {B H : Hp} {σ : L2.St} (k : Ok K O0 B O σ ρ H) : ∀ (vs : List Nat), Ok K O0 B O (L2.wipe σ vs) (wipeE ρ vs) H
  | [] => k
  | v :: vs => (Ok.wipe k vs).forget v
theorem Ok.addHid {O0 O : List Addr} {B H H' : Hp} {σ : L2.St} {p : Addr} (k : Ok K O0 B O σ ρ H) (hp : H p = none) (s : Same H H') (hq : H' p ≠ none) : Ok K (p :: O0) B O σ ρ H' := by
  have sm : Same (hid (O0 ++ O) H) (hid ((p :: O0) ++ O) H') := fun a o e => by
    have ha : a ∉ O0 ++ O := fun z => by rw [hid_in z] at e; cases e
    rw [hid_out ha] at e
    rw [hid_out fun z => ?_]
    · exact s a o e
    · rcases List.mem_cons.mp z with z | z
      · rw [z, hp] at e; cases e
      · exact ha z
  refine ⟨⟨fun q hz e => ?_, k.h.ext.trans s, k.h.fr, fun q hz e => ?_⟩, k.len, fun i sl hs => ?_, k.dis⟩
  · rcases List.mem_cons.mp hz with z | z
    · exact hq (by rw [← z]; exact e)
    · exact k.h.dom q z (s.free e)
  · rcases List.mem_cons.mp e with z | z
    · exact k.h.dom q (List.mem_append_right _ hz) (by rw [z]; exact hp)
    · exact k.h.no0 q hz z
  · have z := k.sl i sl hs
    cases sl with
    | any => exact True.intro
    | dat d =>
      obtain ⟨v, h1, h2⟩ := z
      exact ⟨v, h1, Rep.mono sm d v h2⟩
    | own ds =>
      obtain ⟨q, xs, h1, h2, h3, h4⟩ := z
      exact ⟨q, xs, h1, h2, s _ _ h3, Reps.mono sm ds xs h4⟩
/-- a target that stores into the slots vs alone -/
structure DGW (K : PySem.W.Frag) (vs : List Nat) (g : TG) (d : Dt) (ρ ρ' : PEnv) : Prop where
  run : ∀ (O0 : List Addr) (B : Hp) (O : List Addr) (σ : L2.St) (H : Hp) (v : V) (Q : L2.St → Hp → Prop), Ok K O0 B O σ ρ H → Rep K (hid (O0 ++ O) H) d v →
  (∀ σ' H', L2.wipe σ' vs = L2.wipe σ vs → Same H H' → Ok K O0 B O σ' ρ' H' → Q σ' H') → g v σ H Q
structure DGWs (K : PySem.W.Frag) (vs : List Nat) (g : TGs) (ds : List Dt) (ρ ρ' : PEnv) : Prop where
  run : ∀ (O0 : List Addr) (B : Hp) (O : List Addr) (σ : L2.St) (H : Hp) (ws : List V) (Q : L2.St → Hp → Prop), Ok K O0 B O σ ρ H → Reps K (hid (O0 ++ O) H) ds ws →
  (∀ σ' H', L2.wipe σ' vs = L2.wipe σ vs → Same H H' → Ok K O0 B O σ' ρ' H' → Q σ' H') → g ws σ H Q
theorem wipe_in {σ : L2.St} {j : Nat} : ∀ {vs : List Nat}, j ∈ vs → j < σ.length → (L2.wipe σ vs)[j]? = some none
  | [], h, _ => by cases h
  | v :: vs, h, hl => by
    show ((L2.wipe σ vs).set v none)[j]? = some none
    by_cases e : v = j
    · subst e
      exact List.getElem?_set_self (by rw [wipe_length]; exact hl)
    · rw [List.getElem?_set_ne e]
      rcases List.mem_cons.mp h with z | z
      · exact absurd z.symm e
      · exact wipe_in z hl
theorem wipe_set {σ : L2.St} {i : Nat} {x : Option V} {vs : List Nat} (h : i ∈ vs) : L2.wipe (σ.set i x) vs = L2.wipe σ vs := by
  refine List.ext_getElem? fun j => ?_
  by_cases hj : j < σ.length
  · by_cases hv : j ∈ vs
    · rw [wipe_in hv (by rw [List.length_set]; exact hj), wipe_in hv hj]
    · rw [wipe_out hv, wipe_out hv, List.getElem?_set_ne fun e => hv (by rw [← e]; exact h)]
  · rw [List.getElem?_eq_none (by rw [wipe_length, List.length_set]; omega), List.getElem?_eq_none (by rw [wipe_length]; omega)]
theorem dgw_name {vs : List Nat} {i : Nat} (h : i ∈ vs) : DGW K vs (gName i) d ρ (ρ.set i (.dat d)) := .mk fun O0 B O σ H v Q k r q => q _ H (wipe_set h) (Same.refl H) (k.set r)
theorem dgws_nil {vs : List Nat} : DGWs K vs gNil [] ρ ρ := .mk fun O0 B O σ H v Q k r q => ⟨r, q σ H rfl (Same.refl H) k⟩
theorem dgws_cons {vs : List Nat} {g : TG} {gs : TGs} {ds : List Dt} {ρ1 ρ2 : PEnv} (h : DGW K vs g d ρ ρ1) (h2 : DGWs K vs gs ds ρ1 ρ2) : DGWs K vs (gCons g gs) (d :: ds) ρ ρ2 := .mk fun O0 B O σ H ws Q k r q => by
  obtain ⟨v, w, rfl, r1, r2⟩ := r
  exact ⟨v, w, rfl, h.run O0 B O σ H v _ k r1 fun σ1 H1 e1 s1 k1 => h2.run O0 B O σ1 H1 w Q k1 (Reps.mono (hid_mono s1) ds w r2) fun σ2 H2 e2 s2 k2 => q σ2 H2 (e2.trans e1) (s1.trans s2) k2⟩
theorem dgw_tup {vs : List Nat} {gs : TGs} {ds : List Dt} {n : Nat} {ρ1 : PEnv} (h : DGWs K vs gs ds ρ ρ1) (hn : ds.length = n) : DGW K vs (gTup K n gs) (.tup ds) ρ ρ1 := .mk fun O0 B O σ H v Q k r q => by
  obtain ⟨a, xs, rfl, h1, h2⟩ := r
  exact ⟨a, xs, rfl, Same.seqT hid_le h1, h2.length.trans hn, h.run O0 B O σ H xs Q k h2 q⟩
theorem wipe_wipe {σ : L2.St} {vs : List Nat} : L2.wipe (L2.wipe σ vs) vs = L2.wipe σ vs := by
  refine List.ext_getElem? fun j => ?_
  by_cases hj : j < σ.length
  · by_cases hv : j ∈ vs
    · rw [wipe_in hv (by rw [wipe_length]; exact hj), wipe_in hv hj]
    · rw [wipe_out hv]
  · rw [List.getElem?_eq_none (by rw [wipe_length, wipe_length]; omega), List.getElem?_eq_none (by rw [wipe_length]; omega)]
theorem reps_swap {O0 O : List Addr} {D : Addr} {H : Hp} {ds : List Dt} {xs : List V} (r : Reps K (hid ((D :: O0) ++ O) H) ds xs) : Reps K (hid (O0 ++ (D :: O)) H) ds xs := by
  refine Reps.mono (hid_sub fun p hp => ?_) ds xs r
  rcases List.mem_append.mp hp with z | z
  · exact List.mem_append_left _ (List.mem_cons_of_mem _ z)
  · rcases List.mem_cons.mp z with z | z
    · rw [z]; exact List.mem_append_left _ List.mem_cons_self
    · exact List.mem_append_right _ z
/-- [elt for target in iter if test]: sel tells which items stay, G what they come to -/
theorem dl_lc {α : Type} {ti : TI} {g : TG} {vs : List Nat} (qs : List α) (F G : α → Dt) (sel : α → Bool) (hi : DI K ti ρ (qs.map F)) (hl : qs.length < sizeLine)
    (hs : ∀ (i : Nat) (q : α), qs[i]? = some q → ∃ τ, DGW K vs g (F q) (wipeE ρ vs) τ ∧ DT K t τ (sel q) ∧ (sel q = true → DE K te τ (G q))) : DL K (tLc ti g t te vs) ρ ((qs.filter sel).map G) := .mk fun O0 B O σ H Q k q => hi.run O0 B O σ H _ k fun J H1 s1 it => by
  intro D hD
  have k1 := (k.mono s1).deep.wipe vs
  have k2 := k1.addHid (H' := upd H1 D (.lst [])) hD (same_upd hD) (by rw [upd_same]; exact fun z => nomatch z)
  have ez : ∀ p ∈ (D :: O0), p ∈ O0 ∨ H1 p = none := fun p hp => (List.mem_cons.mp hp).elim (fun z => .inr (by rw [z]; exact hD)) .inl
  have base : Same H H1 := s1
  refine ⟨fun i m H' => m + i = qs.length ∧ Ok K (D :: O0) (hid O H1) O (L2.wipe σ vs) (wipeE ρ vs) H' ∧ Same H1 (fun a => if a = D then none else H' a) ∧ ∃ acc, H' D = some (.lst acc) ∧ Reps K (hid ((D :: O0) ++ O) H') (((qs.take i).filter sel).map G) acc, ⟨qs.length, rfl, k2, fun a o e => ?_, [], upd_same, rfl⟩, ?_⟩
  · have ha : a ≠ D := fun z => by rw [z, hD] at e; cases e
    show (if a = D then none else upd H1 D (.lst []) a) = some o
    rw [if_neg ha, upd_ne ha]
    exact e
  · rintro i m H' ⟨em, k3, sm, acc, ha, hr⟩
    by_cases hlt : i < qs.length
    · have e1 : (qs.map F)[i]? = some (F qs[i]) := by rw [List.getElem?_map, List.getElem?_eq_getElem hlt]; rfl
      obtain ⟨go, yl⟩ := it.step i _ (D :: O0) O H' ez e1 k3.h.ext k3.h
      refine .inr ⟨go, fun H2 => Ok K (D :: O0) (hid O H1) O (L2.wipe σ vs) (wipeE ρ vs) H2 ∧ Same H1 (fun a => if a = D then none else H2 a) ∧ ∃ acc, H2 D = some (.lst acc) ∧ Reps K (hid ((D :: O0) ++ O) H2) (((qs.take (i + 1)).filter sel).map G) acc, fun H2 hN => ⟨m - 1, by omega, by omega, hN⟩, fun x H2 hy => ?_⟩
      obtain ⟨s2, rx⟩ := yl x H2 hy
      obtain ⟨τ, hg, ht, he⟩ := hs i qs[i] (List.getElem?_eq_getElem hlt)
      refine hg.run (D :: O0) (hid O H1) O _ H2 x _ (k3.mono s2) rx fun σ3 H3 ew s3 k4 => ⟨ew.trans wipe_wipe, ht.run (D :: O0) (hid O H1) O σ3 H3 _ k4 fun H4 s4 => ?_⟩
      have tk : qs.take (i + 1) = qs.take i ++ [qs[i]] := by rw [List.take_add_one, List.getElem?_eq_getElem hlt]; rfl
      have sm4 : ∀ {H5 : Hp}, Same H' H5 → Same H1 (fun a => if a = D then none else H5 a) := fun {H5} s5 a o e => by
        have z := sm a o e
        dsimp only at z ⊢
        by_cases hb : a = D
        · rw [if_pos hb] at z; cases z
        · rw [if_neg hb] at z ⊢; exact s5 a o z
      cases hb : sel qs[i] with
      | false =>
        rw [if_neg Bool.false_ne_true]
        have s5 := (s2.trans s3).trans s4
        refine ⟨k3.mono s5, sm4 s5, acc, s5 _ _ ha, ?_⟩
        rw [tk, List.filter_append, List.filter_cons, hb, if_neg Bool.false_ne_true, List.filter_nil, List.append_nil]
        exact Reps.mono (hid_mono s5) _ _ hr
      | true =>
        rw [if_pos rfl]
        refine (he hb).run (D :: O0) (hid O H1) O σ3 H4 _ (k4.mono s4) fun y H5 s5 ry => ?_
        have s6 := ((s2.trans s3).trans s4).trans s5
        have lacc : acc.length < sizeLine := by
          rw [hr.length, List.length_map]
          exact Nat.lt_of_le_of_lt (Nat.le_trans (List.length_filter_le _ _) (List.length_take_le _ _)) (Nat.lt_of_le_of_lt (Nat.le_of_lt hlt) hl)
        have hu : hid ((D :: O0) ++ O) (upd H5 D (.lst (acc ++ [y]))) = hid ((D :: O0) ++ O) H5 := hid_upd List.mem_cons_self
        have nO : ∀ a ∈ O, a ≠ D := fun a ha' z => k3.h.no0 a ha' (by rw [z]; exact List.mem_cons_self)
        refine ⟨acc, s6 _ _ ha, lacc, ?_, ?_, acc ++ [y], upd_same, ?_⟩
        · have k6 := k3.mono s6
          refine ⟨⟨fun p hp z => ?_, same_mut k6.h.ext (by
            by_cases hz : D ∈ O
            · exact hid_in hz
            · rw [hid_out hz]; exact hD), k6.h.fr, k6.h.no0⟩, k6.len, fun j sl hj => ?_, k6.dis⟩
          · by_cases hpd : p = D
            · rw [hpd, upd_same] at z; cases z
            · rw [upd_ne hpd] at z; exact k6.h.dom p hp z
          · have z := k6.sl j sl hj
            cases sl with
            | any => exact True.intro
            | dat d =>
              obtain ⟨v, z1, z2⟩ := z
              exact ⟨v, z1, by rw [hu]; exact z2⟩
            | own ds =>
              obtain ⟨p, xs, z1, z2, z3, z4⟩ := z
              exact ⟨p, xs, z1, z2, by rw [upd_ne (nO p z2)]; exact z3, by rw [hu]; exact z4⟩
        · intro a o e
          have z := sm4 s6 a o e
          dsimp only at z ⊢
          by_cases hb : a = D
          · rw [if_pos hb] at z; cases z
          · rw [if_neg hb] at z ⊢; rw [upd_ne hb]; exact z
        · rw [hu, tk, List.filter_append, List.filter_cons, hb, if_pos rfl, List.filter_nil, List.map_append]
          exact (Reps.mono (hid_mono s6) _ _ hr).append (Reps.one ry)
    · have e : i = qs.length := by omega
      subst e
      refine .inl ⟨by
        have z := it.stop H' k3.h.ext
        rw [List.length_map] at z
        exact z, q D acc H' ?_ (s1.free hD) ha (reps_swap (by rw [List.take_length] at hr; exact hr))⟩
      intro a o e
      have z := sm a o (s1 a o e)
      dsimp only at z
      by_cases hb : a = D
      · rw [if_pos hb] at z; cases z
      · rw [if_neg hb] at z; exact z
theorem dt_yes : DT K tYes ρ true := .mk fun O0 B O σ H Q k q => q H (Same.refl H)
/-- .. without a test -/
theorem dl_lcA {α : Type} {ti : TI} {g : TG} {vs : List Nat} (qs : List α) (F G : α → Dt) (hi : DI K ti ρ (qs.map F)) (hl : qs.length < sizeLine)
    (hs : ∀ (i : Nat) (q : α), qs[i]? = some q → ∃ τ, DGW K vs g (F q) (wipeE ρ vs) τ ∧ DE K te τ (G q)) : DL K (tLc ti g tYes te vs) ρ (qs.map G) := by
  have h := dl_lc (t := tYes) (te := te) (vs := vs) (g := g) qs F G (fun _ => true) hi hl fun i q e => by
    obtain ⟨τ, h1, h2⟩ := hs i q e
    exact ⟨τ, h1, dt_yes, fun _ => h2⟩
  rw [List.filter_eq_self.mpr fun _ _ => rfl] at h
  exact h

/-! ### defs -/
/-- a def's promise over data: of arguments ds it hands back d where R ds d -/
def spD (K : PySem.W.Frag) (R : List Dt → Dt → Prop) : Sp := fun vs H Q _ => ∃ (O : List Addr) (ds : List Dt) (d : Dt), (∀ p ∈ O, H p ≠ none) ∧ Reps K (hid O H) ds vs ∧ R ds d ∧ ∀ v H', Same H H' → Rep K (hid O H') d v → Q v H'
/-- .. where it raises C with the fields fs -/
def spR (K : PySem.W.Frag) (R : List Dt → Addr → List (Str × Dt) → Prop) : Sp := fun vs H _ E => ∃ (O : List Addr) (ds : List Dt) (C : Addr) (fs : List (Str × Dt)), (∀ p ∈ O, H p ≠ none) ∧ Reps K (hid O H) ds vs ∧ R ds C fs ∧
  ∀ dd xs H', Same H H' → H dd = none → H' dd = some (.xd xs) → RepF K (hid O H') fs xs → E (.ref C) (some dd) H'
theorem de_call {R : List Dt → Dt → Prop} {dvs : List V} {dds ds : List Dt} {E : XK} {ta : TA} (ha : DA K ta ρ ds) (hd : ∀ G, Reps K G dds dvs) (hr : R (ds ++ dds) d) : DE K (tCall (spD K R) dvs E ta) ρ d := .mk fun O0 B O σ H Q k q =>
  ha.run O0 B O σ H _ k fun vs H1 s1 r1 => ⟨O0 ++ O, ds ++ dds, d, fun p hp z => k.h.dom p hp (s1.free z), r1.append (hd _), hr, fun v H' s2 r2 => q v H' (s1.trans s2) r2⟩
theorem de_call0 {R : List Dt → Dt → Prop} {ds : List Dt} {E : XK} {ta : TA} (ha : DA K ta ρ ds) (hr : R ds d) : DE K (tCall (spD K R) [] E ta) ρ d := de_call (dds := []) ha (fun _ => rfl) (by rw [List.append_nil]; exact hr)
def startE (ds : List Dt) (n : Nat) : PEnv := ds.map .dat ++ List.replicate n .any
theorem reps_sl {G : Hp} : ∀ {ds : List Dt} {vs : List V} {i : Nat} {d : Dt}, Reps K G ds vs → ds[i]? = some d → ∃ v, (vs.map some)[i]? = some (some v) ∧ Rep K G d v := fun {ds vs i d} r h => by
  obtain ⟨v, h1, h2⟩ := r.get h
  exact ⟨v, by rw [List.getElem?_map, h1]; rfl, h2⟩
theorem ok_start {N : List Str} {O : List Addr} {H : Hp} {ds : List Dt} {vs : List V} (hO : ∀ p ∈ O, H p ≠ none) (r : Reps K (hid O H) ds vs) : Ok K O H [] (L2.start N vs) (startE ds (N.length - ds.length)) H := by
  have hl := r.length
  have own : ∀ (i : Nat) (es : List Dt), (startE ds (N.length - ds.length))[i]? ≠ some (.own es) := fun i es h => by
    unfold startE at h
    by_cases hi : i < ds.length
    · rw [List.getElem?_append_left (by rw [List.length_map]; exact hi), List.getElem?_map, List.getElem?_eq_getElem hi] at h
      cases h
    · rw [List.getElem?_append_right (by rw [List.length_map]; omega), List.getElem?_replicate] at h
      split at h <;> cases h
  refine ⟨⟨fun p hp => ?_, Same.refl H, fun p hp => (List.not_mem_nil hp).elim, fun p hp => (List.not_mem_nil hp).elim⟩, ?_, fun i s hs => ?_, fun i j es fs p h => (own i es h).elim⟩
  · rw [List.append_nil] at hp
    exact hO p hp
  · unfold startE L2.start
    rw [List.length_append, List.length_append, List.length_map, List.length_map, List.length_replicate, List.length_replicate, hl]
  · cases s with
    | any => exact True.intro
    | own es => exact (own i es hs).elim
    | dat d =>
      unfold startE at hs
      by_cases hi : i < ds.length
      · rw [List.getElem?_append_left (by rw [List.length_map]; exact hi), List.getElem?_map, List.getElem?_eq_getElem hi] at hs
        have e : ds[i] = d := by injection (Option.some.inj hs)
        obtain ⟨v, h1, h2⟩ := reps_sl (i := i) r (by rw [List.getElem?_eq_getElem hi, e])
        refine ⟨v, ?_, by rw [List.append_nil]; exact h2⟩
        unfold L2.start
        rw [List.getElem?_append_left (by rw [List.length_map, hl]; exact hi)]
        exact h1
      · rw [List.getElem?_append_right (by rw [List.length_map]; omega), List.getElem?_replicate] at hs
        split at hs <;> cases hs
/-- what a body must do: from its arguments to its value -/
def Body (K : PySem.W.Frag) (W : WX) (t : TS) (N : List Str) (ds : List Dt) (d : Dt) : Prop := ES K W t (startE ds (N.length - ds.length)) { nx := fun _ => d = .non, rt := fun e => e = d }
theorem body_ok {N : List Str} {R : List Dt → Dt → Prop} {vs : List V} {H : Hp} {Q : VK} {E : XK} (h : spD K R vs H Q E) (hb : ∀ ds d, R ds d → Body K (fun _ _ _ _ => False) ts N ds d) : ts { nx := fun _ H' => Q .non H', rt := Q } (L2.start N vs) H := by
  obtain ⟨O, ds, d, hO, r, hR, q⟩ := h
  refine (hb ds d hR).run O H [] _ H _ (ok_start hO r) ⟨fun ρ O1 σ1 H1 e k => ?_, fun _ _ _ _ e => e.elim, fun _ _ _ _ e => e.elim, fun e O1 v H1 he k rv => ?_, fun _ _ _ _ _ _ _ _ e => e.elim⟩
  · refine q .non H1 k.h.ext ?_
    rw [show d = .non from e]
    exact rfl
  · subst he
    refine q v H1 k.ext (Rep.mono (hid_sub fun p hp => List.mem_append_left _ hp) e v rv)
def BodyR (K : PySem.W.Frag) (W : WX) (t : TS) (N : List Str) (ds : List Dt) (C : Addr) (fs : List (Str × Dt)) : Prop := ES K W t (startE ds (N.length - ds.length)) { nx := fun _ => False, rt := fun _ => False, ex := fun C' fs' _ => C' = C ∧ fs' = fs }
theorem body_okR {N : List Str} {R : List Dt → Addr → List (Str × Dt) → Prop} {vs : List V} {H : Hp} {Q : VK} {E : XK} (h : spR K R vs H Q E) (hb : ∀ ds C fs, R ds C fs → BodyR K (fun c d _ H' => E c d H') ts N ds C fs) : ts { nx := fun _ H' => Q .non H', rt := Q } (L2.start N vs) H := by
  obtain ⟨O, ds, C, fs, hO, r, hR, q⟩ := h
  refine (hb ds C fs hR).run O H [] _ H _ (ok_start hO r) ⟨fun _ _ _ _ e => e.elim, fun _ _ _ _ e => e.elim, fun _ _ _ _ e => e.elim, fun _ _ _ _ e => e.elim, fun C' fs' ρ O1 σ1 H1 dd xs e k n a b => ?_⟩
  obtain ⟨rfl, rfl⟩ := e
  exact q dd xs H1 k.h.ext n (hid_le _ _ a) (RepF.mono (hid_sub fun p hp => List.mem_append_left _ hp) fs' xs b)
end
end DL

/-! DL4: the operators as the generator writes them; steps for the walk. -/
namespace DL
open PySem PySem.Spec PyProof.Rows L2
section
variable {X : Cx}
theorem op_addG : OpR X (binaryOp .Add) (fun x y H Q => rI0 (fun i j => .int (i + j)) x y H Q ∨ ((∃ i j, x = .str i ∧ y = .str j ∧ i.length + j.length ≤ sizeLine ∧ Q (.str (i ++ j)) H) ∨ (rCat x y H Q ∨ rCatT X.K x y H Q))) := op_add.or (op_add_str.or (op_cat.or op_catT))
theorem op_mulG : OpR X (binaryOp .Mult) (fun x y H Q => rI CMul (fun i j => .int (i * j)) x y H Q ∨ (rI CMulW (fun i j => .int (i * j)) x y H Q ∨ rRep x y H Q)) := op_mul.or (op_mulW.or op_rep)
theorem op_eqG (hu : X.A.units + 64 < cLine) : OpR X (compareOp .Eq) (fun x y H Q => rEq x y H Q ∨ rEqD X.K x y H Q) := op_eq.or (op_eqD hu)
theorem op_neG (hu : X.A.units + 64 < cLine) : OpR X (compareOp .NotEq) (fun x y H Q => rNe x y H Q ∨ rNeD X.K x y H Q) := op_ne.or (op_neD hu)
theorem call_lenG : CallR X (.builtin "len") (fun xs H Q => (∃ p ys, xs = [V.ref p] ∧ (SqL X.K H p ys ∨ SqT X.K H p ys) ∧ Q (.int ys.length) H) ∨ (∃ z : Str, xs = [.str z] ∧ z.length ≤ sizeLine ∧ Q (.int z.length) H)) := call_len_seq.or call_len_str
variable {K : PySem.W.Frag}
/-! .. with the written part named: for blocks whose context is not this one -/
theorem ix_seqK (h : X.K = K) : IxR X (rIx K) := by subst h; exact ix_seq
theorem op_addK (h : X.K = K) : OpR X (binaryOp .Add) (fun x y H Q => rI0 (fun i j => .int (i + j)) x y H Q ∨ ((∃ i j, x = .str i ∧ y = .str j ∧ i.length + j.length ≤ sizeLine ∧ Q (.str (i ++ j)) H) ∨ (rCat x y H Q ∨ rCatT K x y H Q))) := by subst h; exact op_addG
theorem op_eqK (h : X.K = K) (hu : X.A.units + 64 < cLine) : OpR X (compareOp .Eq) (fun x y H Q => rEq x y H Q ∨ rEqD K x y H Q) := by subst h; exact op_eqG hu
theorem op_neK (h : X.K = K) (hu : X.A.units + 64 < cLine) : OpR X (compareOp .NotEq) (fun x y H Q => rNe x y H Q ∨ rNeD K x y H Q) := by subst h; exact op_neG hu
theorem call_lenK (h : X.K = K) : CallR X (.builtin "len") (fun xs H Q => (∃ p ys, xs = [V.ref p] ∧ (SqL K H p ys ∨ SqT K H p ys) ∧ Q (.int ys.length) H) ∨ (∃ z : Str, xs = [.str z] ∧ z.length ≤ sizeLine ∧ Q (.int z.length) H)) := by subst h; exact call_lenG
theorem call_isiK (h : X.K = K) : CallR X (.builtin "isinstance") (rIsi K) := by subst h; exact call_isi
theorem call_tupleK (h : X.K = K) : CallR X (.type "tuple") (fun xs H Q => ∃ a ys, xs = [V.ref a] ∧ ((SqL K H a ys ∧ ∀ l, H l = none → Q (.ref l) (upd H l (.tup ys))) ∨ (SqT K H a ys ∧ Q (.ref a) H))) := by subst h; exact call_tuple_of
theorem call_listK (h : X.K = K) : CallR X (.type "list") (fun xs H Q => ∃ p ys, xs = [V.ref p] ∧ (SqL K H p ys ∨ SqT K H p ys) ∧ ∀ l, H l = none → Q (.ref l) (upd H l (.lst ys))) := by subst h; exact call_list_of
theorem cr_sumK (h : X.K = K) (hc : X.calm = true) : CallR X (.builtin "sum") (rSum K) := by subst h; exact cr_sum hc
theorem cr_anyK (h : X.K = K) (hc : X.calm = true) : CallR X (.builtin "any") (rAny K) := by subst h; exact cr_any hc
theorem cr_allK (h : X.K = K) (hc : X.calm = true) : CallR X (.builtin "all") (rAll K) := by subst h; exact cr_all hc
theorem sl_listK (h : X.K = K) : SlR X (rSlL K) := by subst h; exact sl_list
theorem sl_tupK (h : X.K = K) : SlR X (rSlT K) := by subst h; exact sl_tup
variable {tg l : Expr} {tl : TE}
theorem pi_listK (h : X.K = K) (hl : PE X l tl) : PI X tg l (iList K tl) := by subst h; exact pi_list hl
theorem pi_tupK (h : X.K = K) (hl : PE X l tl) : PI X tg l (iTup K tl) := by subst h; exact pi_tup hl
end
section
variable {K : PySem.W.Frag} {ρ : PEnv} {ta tb te tc tl : TE} {t u : TT} {x y z d e : Dt}
theorem de_lenOwnG {i : Nat} {ds : List Dt} {n : Nat} {r' : List V → Hp → VK → Prop} (h : ρ[i]? = some (.own ds)) (hn : ds.length = n) : DE K (tCB (fun xs H Q => (∃ p ys, xs = [V.ref p] ∧ (SqL K H p ys ∨ SqT K H p ys) ∧ Q (.int ys.length) H) ∨ r' xs H Q) (tCons (tVar i) tNil)) ρ (.int n) := .mk fun O0 B O σ H Q k q => by
  obtain ⟨p, xs, h1, h2, h3, h4⟩ := ownAt k h
  exact ⟨.ref p, h1, .inl ⟨p, xs, rfl, .inl (.inl (.inl h3)), q _ H (Same.refl H) (by rw [h4.length, hn]; rfl)⟩⟩
theorem rd_isB {a b : Bool} : RD2 K rIsB (.bl a) (.bl b) (.bl (decide (a = b))) := .mk fun _ _ _ H v w _ _ r1 r2 q => ⟨a, b, r1, r2, q _ H (Same.refl H) rfl⟩
theorem rd_notB {a b : Bool} : RD2 K rNotB (.bl a) (.bl b) (.bl (!decide (a = b))) := .mk fun _ _ _ H v w _ _ r1 r2 q => ⟨a, b, r1, r2, q _ H (Same.refl H) rfl⟩
theorem rd_ixTG {ds : List Dt} {i : Int} (h : atI ds i = some d) : RD2 K (rIx K) (.tup ds) (.int i) d := ⟨fun O0 B O H v w Q k a b q => .inr (.inl ((rd_ixT h).run O0 B O H v w Q k a b q))⟩
theorem rd_ixLG {ds : List Dt} {i : Int} (h : atI ds i = some d) : RD2 K (rIx K) (.lst ds) (.int i) d := ⟨fun O0 B O H v w Q k a b q => .inl ((rd_ixL h).run O0 B O H v w Q k a b q)⟩
theorem rd_ixSG {z : Str} {i : Int} {c : Nat} (hz : z.length ≤ sizeLine) (h : atI z.cps.toList i = some c) : RD2 K (rIx K) (.str z) (.int i) (.str ⟨#[c]⟩) := ⟨fun O0 B O H v w Q k a b q => .inr (.inr ((rd_ixS hz h).run O0 B O H v w Q k a b q))⟩
theorem sz_of100 {n : Nat} (h : n ≤ 100) : n ≤ sizeLine := Nat.le_trans h (by decide)
theorem CMul.lit {i j : Int} (h : -(2 ^ 64) < j ∧ j < 2 ^ 64) : CMul i j := .inr h
theorem CMul.litL {i j : Int} (h : -(2 ^ 64) < i ∧ i < 2 ^ 64) : CMul i j := .inl h
theorem cdiv_lit {i j : Int} (h : 0 < j) (h2 : j < 2 ^ 64) : CDivW i j := ⟨h, Nat.lt_of_lt_of_le (PySem.Flt.log2_lt_of (k := 64) (by decide) (by omega)) (by decide)⟩

variable {W : WX} {ts tu tw : TS} {D : DEnds}
/-- statements ahead of a rest -/
theorem s_set {i : Nat} (h : DE K te ρ d) (q : ES K W tu (ρ.set i (.dat d)) D) : ES K W (tSeq (tAsg te (gName i)) tu) ρ D := es_seq (es_set h q)
theorem s_setOwn {i : Nat} {ds : List Dt} (h : DL K te ρ ds) (q : ES K W tu (ρ.set i (.own ds)) D) : ES K W (tSeq (tAsg te (gName i)) tu) ρ D := es_seq (es_setOwn h q)
theorem s_asg {g : TG} {ρ1 : PEnv} (h : DE K te ρ d) (hg : DG K g d ρ ρ1) (q : ES K W tu ρ1 D) : ES K W (tSeq (tAsg te g) tu) ρ D := es_seq (es_asg h hg q)
theorem s_drop (h : DE K te ρ d) (q : ES K W tu ρ D) : ES K W (tSeq (tDrop te) tu) ρ D := es_seq (es_drop h q)
theorem s_append {i : Nat} {ds : List Dt} (h : ρ[i]? = some (.own ds)) (he : DE K te ρ d) (hl : ds.length < sizeLine) (q : ES K W tu (ρ.set i (.own (ds ++ [d]))) D) : ES K W (tSeq (tDrop (tBM K "list" rAppend (tVar i) (tCons te tNil))) tu) ρ D := es_seq (es_append h he hl q)
theorem s_setIx {i : Nat} {ds : List Dt} {n : Int} {j : Nat} (h : ρ[i]? = some (.own ds)) (he : DE K te ρ d) (hi : DE K ta ρ (.int n)) (hj : ixN ds.length n = some j) (q : ES K W tu (ρ.set i (.own (ds.set j d))) D) : ES K W (tSeq (tAsg te (gSub (tVar i) ta rSetL)) tu) ρ D := es_seq (es_setIx h he hi hj q)
theorem s_augI {i : Nat} {f : Int → Int → Int} {a b : Int} (hx : ρ[i]? = some (.dat (.int a))) (h : DE K te ρ (.int b)) (q : ES K W tu (ρ.set i (.dat (.int (f a b)))) D) : ES K W (tSeq (tAug i te (ipI f)) tu) ρ D := es_seq (es_augI hx h q)
theorem s_par {i j : Nat} {ta : TA} (h : DA K ta ρ [x, y]) (q : ES K W tu ((ρ.set i (.dat x)).set j (.dat y)) D) : ES K W (tSeq (tPar i j ta) tu) ρ D := es_seq (es_par h q)
theorem s_if {b : Bool} (h : DT K t ρ b) (h1 : b = true → ES K W ts ρ { D with nx := fun ρ' => ES K W tw ρ' D }) (h2 : b = false → ES K W tu ρ { D with nx := fun ρ' => ES K W tw ρ' D }) : ES K W (tSeq (tIfS t ts tu) tw) ρ D := es_seq (es_if h h1 h2)
theorem s_ifT (h : DT K t ρ true) (h1 : ES K W ts ρ { D with nx := fun ρ' => ES K W tw ρ' D }) : ES K W (tSeq (tIfS t ts tu) tw) ρ D := es_seq (es_ifT h h1)
theorem s_ifF (h : DT K t ρ false) (h1 : ES K W tu ρ { D with nx := fun ρ' => ES K W tw ρ' D }) : ES K W (tSeq (tIfS t ts tu) tw) ρ D := es_seq (es_ifF h h1)
/-- an if whose two ways meet in one environment -/
theorem s_ifJ {b : Bool} (τ : PEnv) (h : DT K t ρ b) (h1 : b = true → ES K W ts ρ { D with nx := fun ρ' => Wk ρ' τ }) (h2 : b = false → ES K W tu ρ { D with nx := fun ρ' => Wk ρ' τ }) (h3 : ES K W tw τ D) : ES K W (tSeq (tIfS t ts tu) tw) ρ D :=
  es_cut (fun ρ' => Wk ρ' τ) (es_if h h1 h2) fun _ w => es_weak w h3
theorem s_for {ti : TI} {g : TG} {ds : List Dt} (hi : DI K ti ρ ds) (inv : Nat → PEnv → Prop) (h0 : ∃ τ, Wk ρ τ ∧ inv 0 τ)
    (hs : ∀ i d τ, ds[i]? = some d → inv i τ → ∃ τ1, DG K g d τ τ1 ∧ ES K W ts τ1 { D with nx := fun ρ' => ∃ τ', Wk ρ' τ' ∧ inv (i + 1) τ', ct := fun ρ' => ∃ τ', Wk ρ' τ' ∧ inv (i + 1) τ', bk := fun ρ' => ES K W tu ρ' D })
    (hd : ∀ τ, inv ds.length τ → ES K W tu τ D) : ES K W (tSeq (tFor ti g ts) tu) ρ D := es_seq (es_for hi inv h0 hs hd)
theorem es_next' (h : ES K W tu ρ D) : ES K W tNext ρ { D with nx := fun ρ' => ES K W tu ρ' D } := es_next h
theorem body_mk {t : TS} {N : List Str} {ds : List Dt} {ρ : PEnv} (h : startE ds (N.length - ds.length) = ρ) (q : ES K W t ρ { nx := fun _ => d = .non, rt := fun e => e = d }) : Body K W t N ds d := by
  unfold Body
  rw [h]
  exact q
end
end DL

/-! DL5: walks over two things, enumerate; more built-ins. -/
namespace DL
open PySem PySem.Spec PyProof.Rows L2
section
variable {K : PySem.W.Frag} {ρ : PEnv} {ta tb te tc tl : TE} {t u : TT} {x y z d e : Dt}
theorem nxEq {O0 O : List Addr} {H1 : Hp} : hid (O0 ++ O) H1 = hid O0 (hid O H1) := by
  funext b
  by_cases h3 : b ∈ O
  · rw [hid_in (List.mem_append_right _ h3)]
    by_cases h4 : b ∈ O0
    · rw [hid_in h4]
    · rw [hid_out h4, hid_in h3]
  · by_cases h4 : b ∈ O0
    · rw [hid_in (List.mem_append_left _ h4), hid_in h4]
    · rw [hid_out (fun z => (List.mem_append.mp z).elim h4 h3), hid_out h4, hid_out h3]
/-- a new pair -/
theorem pair_rep {Z O1 : List Addr} {B H : Hp} {T : Addr} {v w : V} {d e : Dt} (k : OkH Z B O1 H) (hT : H T = none) (r1 : Rep K (hid (Z ++ O1) H) d v) (r2 : Rep K (hid (Z ++ O1) H) e w) :
    Rep K (hid (Z ++ O1) (upd H T (.tup [v, w]))) (.tup [d, e]) (.ref T) :=
  ⟨T, [v, w], rfl, .inl (.inl (by rw [hid_out (k.out hT)]; exact upd_same)), v, [w], rfl, Rep.mono (hid_mono (same_upd hT)) d v r1, w, [], rfl, Rep.mono (hid_mono (same_upd hT)) e w r2, rfl⟩
def zipD (ds es : List Dt) : List Dt := List.zipWith (fun d e => .tup [d, e]) ds es
theorem di_zip {ta : TA} {ds es : List Dt} (h : DA K ta ρ [.lst ds, .lst es]) : DI K (RZ.iZipA K ta) ρ (zipD ds es) := .mk fun O0 B O σ H R k q => h.run O0 B O σ H _ k fun vs H1 s1 r1 => by
  obtain ⟨v, w, rfl, ⟨a, xs, rfl, h1, h2⟩, v2, w2, rfl, ⟨b, ys, rfl, h3, h4⟩, h5⟩ := r1
  obtain rfl : w2 = [] := h5
  have h1' : SqL K (hid O H1) a xs := by rw [nxEq] at h1; exact hid_le.seq h1
  have h3' : SqL K (hid O H1) b ys := by rw [nxEq] at h3; exact hid_le.seq h3
  refine ⟨a, b, xs, ys, rfl, .inl ⟨hid_le.seq h1, hid_le.seq h3, q _ H1 s1 ⟨fun i d Z O1 H hz hd s k1 => ?_, fun H s => ⟨xs, ys, s.seq h1', s.seq h3', ?_⟩⟩⟩⟩
  · unfold zipD at hd
    rw [List.getElem?_zipWith_eq_some] at hd
    obtain ⟨d1, e1, g1, g2, rfl⟩ := hd
    obtain ⟨x, g3, g4⟩ := h2.get g1
    obtain ⟨y, g5, g6⟩ := h4.get g2
    refine ⟨⟨xs, ys, x, y, s.seq h1', s.seq h3', g3, g5⟩, fun v H' hy => ?_⟩
    obtain ⟨T, x2, y2, rfl, hT, rfl, f1, f2⟩ := hy
    have e2 : x2 = x := Option.some.inj ((f1 xs (s.seq h1')).symm.trans g3)
    have e3 : y2 = y := Option.some.inj ((f2 ys (s.seq h3')).symm.trans g5)
    subst e2 e3
    exact ⟨same_upd hT, pair_rep k1 hT (Rep.mono (know2 k1 hz) _ _ g4) (Rep.mono (know2 k1 hz) _ _ g6)⟩
  · unfold zipD
    rw [List.length_zipWith, h2.length, h4.length]
    omega
theorem di_zipT {ta : TA} {ds es : List Dt} (h : DA K ta ρ [.tup ds, .tup es]) : DI K (RZ.iZipA K ta) ρ (zipD ds es) := .mk fun O0 B O σ H R k q => h.run O0 B O σ H _ k fun vs H1 s1 r1 => by
  obtain ⟨v, w, rfl, ⟨a, xs, rfl, h1, h2⟩, v2, w2, rfl, ⟨b, ys, rfl, h3, h4⟩, h5⟩ := r1
  obtain rfl : w2 = [] := h5
  have h1' : SqT K (hid O H1) a xs := by rw [nxEq] at h1; exact Same.seqT hid_le h1
  have h3' : SqT K (hid O H1) b ys := by rw [nxEq] at h3; exact Same.seqT hid_le h3
  refine ⟨a, b, xs, ys, rfl, .inr ⟨Same.seqT hid_le h1, Same.seqT hid_le h3, q _ H1 s1 ⟨fun i d Z O1 H hz hd s k1 => ?_, fun H s => ⟨xs, ys, Same.seqT s h1', Same.seqT s h3', ?_⟩⟩⟩⟩
  · unfold zipD at hd
    rw [List.getElem?_zipWith_eq_some] at hd
    obtain ⟨d1, e1, g1, g2, rfl⟩ := hd
    obtain ⟨x, g3, g4⟩ := h2.get g1
    obtain ⟨y, g5, g6⟩ := h4.get g2
    refine ⟨⟨xs, ys, x, y, Same.seqT s h1', Same.seqT s h3', g3, g5⟩, fun v H' hy => ?_⟩
    obtain ⟨T, x2, y2, rfl, hT, rfl, f1, f2⟩ := hy
    have e2 : x2 = x := Option.some.inj ((f1 xs (Same.seqT s h1')).symm.trans g3)
    have e3 : y2 = y := Option.some.inj ((f2 ys (Same.seqT s h3')).symm.trans g5)
    subst e2 e3
    exact ⟨same_upd hT, pair_rep k1 hT (Rep.mono (know2 k1 hz) _ _ g4) (Rep.mono (know2 k1 hz) _ _ g6)⟩
  · unfold zipD
    rw [List.length_zipWith, h2.length, h4.length]
    omega
def enumD (ds : List Dt) : List Dt := ds.mapIdx fun i d => .tup [.int (i : Nat), d]
theorem di_enum {ta : TA} {ds : List Dt} (h : DA K ta ρ [.lst ds]) : DI K (iEnum K ta) ρ (enumD ds) := .mk fun O0 B O σ H R k q => h.run O0 B O σ H _ k fun vs H1 s1 r1 => by
  obtain ⟨v, w, rfl, ⟨a, xs, rfl, h1, h2⟩, h5⟩ := r1
  obtain rfl : w = [] := h5
  have h1' : SqL K (hid O H1) a xs := by rw [nxEq] at h1; exact hid_le.seq h1
  refine ⟨a, xs, rfl, hid_le.seq h1, q _ H1 s1 ⟨fun i d Z O1 H hz hd s k1 => ?_, fun H s => ⟨xs, s.seq h1', ?_⟩⟩⟩
  · unfold enumD at hd
    rw [List.getElem?_mapIdx] at hd
    obtain ⟨d1, g1, rfl⟩ := Option.map_eq_some_iff.mp hd
    obtain ⟨x, g3, g4⟩ := h2.get g1
    refine ⟨⟨xs, x, s.seq h1', g3⟩, fun v H' hy => ?_⟩
    obtain ⟨T, x2, rfl, hT, rfl, f1⟩ := hy
    have e2 : x2 = x := Option.some.inj ((f1 xs (s.seq h1')).symm.trans g3)
    subst e2
    exact ⟨same_upd hT, pair_rep k1 hT rfl (Rep.mono (know2 k1 hz) _ _ g4)⟩
  · unfold enumD
    rw [List.length_mapIdx, h2.length]
    exact Nat.le_refl _
theorem zipD_map {α : Type} (F G : α → Dt) (qs rs : List α) : zipD (qs.map F) (rs.map G) = (List.zip qs rs).map fun p => .tup [F p.1, G p.2] := by
  unfold zipD List.zip
  rw [List.zipWith_map, List.map_zipWith]
theorem atI_map {α β : Type} {f : α → β} {xs : List α} {i : Int} {x : α} (h : atI xs i = some x) : atI (xs.map f) i = some (f x) := by
  unfold atI at h ⊢
  obtain ⟨j, h1, h2⟩ := Option.bind_eq_some_iff.mp h
  rw [List.length_map, h1]
  show (xs.map f)[j]? = _
  rw [List.getElem?_map, h2]
  rfl
theorem Wk.nil : Wk [] [] := True.intro
theorem Wk.any {a : Sl} {r s : PEnv} (h : Wk r s) : Wk (a :: r) (.any :: s) := ⟨.inl rfl, h⟩
theorem Wk.same {a : Sl} {r s : PEnv} (h : Wk r s) : Wk (a :: r) (a :: s) := ⟨.inr (.inl rfl), h⟩
theorem Wk.give {ds : List Dt} {r s : PEnv} (h : Wk r s) : Wk (.own ds :: r) (.dat (.lst ds) :: s) := ⟨.inr (.inr ⟨ds, rfl, rfl⟩), h⟩
theorem atI_head {α : Type} {x : α} {xs : List α} : atI (x :: xs) 0 = some x := atI_nat (j := 0) rfl
theorem atI_natL {α : Type} {xs : List α} {j : Nat} (h : j < xs.length) : atI xs (j : Int) = some xs[j] := atI_nat (List.getElem?_eq_getElem h)
end
end DL

/-! Fr: fractions as data, what the program's fraction functions come to. -/
namespace DL
open PySem L2
def fq (q : Rat) : Dt := .tup [.int q.num, .int (q.den : Int)]
def pd (p : Int × Int) : Dt := .tup [.int p.1, .int p.2]
theorem fq_pd (q : Rat) : fq q = pd (q.num, (q.den : Int)) := rfl
/-- num and den stay below 2 ^ n -/
structure Bd (n : Nat) (q : Rat) : Prop where
  nu : q.num.natAbs < 2 ^ n
  de : q.den < 2 ^ n
theorem Bd.mono {m n : Nat} {q : Rat} (h : Bd m q) (l : m ≤ n) : Bd n q :=
  ⟨Nat.lt_of_lt_of_le h.nu (Nat.pow_le_pow_right (by decide) l), Nat.lt_of_lt_of_le h.de (Nat.pow_le_pow_right (by decide) l)⟩
/-- the lowest terms by a gcd -/
theorem low_pos (a : Int) (b : Nat) (h : b ≠ 0) : (Rat.divInt a b).num = a / ((Nat.gcd a.natAbs b : Nat) : Int) ∧ ((Rat.divInt a b).den : Int) = (b : Int) / ((Nat.gcd a.natAbs b : Nat) : Int) := by
  have e : Rat.divInt a (b : Int) = mkRat a b := rfl
  rw [e, mkRat, dif_neg h, Rat.normalize_eq]
  exact ⟨rfl, by simp⟩
theorem low_any (a b : Int) (h : 0 < b) : fq (Rat.divInt a b) = .tup [.int (a / ((Nat.gcd a.natAbs b.natAbs : Nat) : Int)), .int (b / ((Nat.gcd a.natAbs b.natAbs : Nat) : Int))] := by
  obtain ⟨n, rfl⟩ : ∃ n : Nat, b = (n : Int) := ⟨b.toNat, by omega⟩
  obtain ⟨h1, h2⟩ := low_pos a n (by omega)
  unfold fq
  rw [h1, h2]
  simp
theorem gcd_pos {a b : Int} (h : b ≠ 0) : 0 < ((Nat.gcd a.natAbs b.natAbs : Nat) : Int) := by
  have := Nat.gcd_pos_of_pos_right a.natAbs (Int.natAbs_pos.mpr h)
  omega
theorem cdiv_of {i j : Int} (h : 0 < j) (h2 : j.natAbs < 2 ^ 9000) : CDivW i j := wide_div h h2 (by decide) (Nat.le_refl _)
theorem gcd_div {a b i : Int} (h : b ≠ 0) (hb : b.natAbs < 2 ^ 9000) : CDivW i ((Nat.gcd a.natAbs b.natAbs : Nat) : Int) := by
  refine cdiv_of (gcd_pos h) ?_
  have := Nat.gcd_le_right a.natAbs (Int.natAbs_pos.mpr h)
  rw [Int.natAbs_natCast]
  exact Nat.lt_of_le_of_lt this hb
theorem cmul_of {i j : Int} {n : Nat} (h1 : i.natAbs < 2 ^ n) (h2 : j.natAbs < 2 ^ n) (hn : 0 < n) (h : n ≤ 500000) : CMulW i j := wide_mul h1 h2 hn hn (by omega)
theorem pow_le_of {a m n : Nat} (h : a < 2 ^ m) (l : m ≤ n) : a < 2 ^ n := Nat.lt_of_lt_of_le h (Nat.pow_le_pow_right (by decide) l)
theorem mul_lt_pow {a b m n : Nat} (ha : a < 2 ^ m) (hb : b < 2 ^ n) : a * b < 2 ^ (m + n) := by
  rw [Nat.pow_add]
  exact Nat.mul_lt_mul'' ha hb
/-! what the defs come to -/
inductive R_fraction : List Dt → Dt → Prop
  | mk (a b : Int) : b ≠ 0 → b.natAbs < 2 ^ 9000 → R_fraction [.int a, .int b] (fq (Rat.divInt a b))
inductive R_add : List Dt → Dt → Prop
  | mk (a b : Rat) : Bd 4000 a → Bd 4000 b → R_add [fq a, fq b] (fq (a + b))
inductive R_subtract : List Dt → Dt → Prop
  | mk (a b : Rat) : Bd 4000 a → Bd 4000 b → R_subtract [fq a, fq b] (fq (a - b))
inductive R_multiply : List Dt → Dt → Prop
  | mk (a b : Rat) : Bd 4000 a → Bd 4000 b → R_multiply [fq a, fq b] (fq (a * b))
inductive R_divide : List Dt → Dt → Prop
  | mk (a b : Rat) : Bd 4000 a → Bd 4000 b → b ≠ 0 → R_divide [fq a, fq b] (fq (a / b))
inductive R_less : List Dt → Dt → Prop
  | mk (a b : Rat) : Bd 4000 a → Bd 4000 b → R_less [fq a, fq b] (.bl (decide (a < b)))
def rsum (qs : List Rat) : Rat := qs.foldl (· + ·) 0
theorem rsum_snoc (qs : List Rat) (q : Rat) : rsum (qs ++ [q]) = rsum qs + q := by unfold rsum; rw [List.foldl_append]; rfl
inductive R_total : List Dt → Dt → Prop
  | mk (qs : List Rat) : (∀ q ∈ qs, Bd 4000 q) → (∀ i, i ≤ qs.length → Bd 4000 (rsum (qs.take i))) → R_total [.lst (qs.map fq)] (fq (rsum qs))
inductive R_dot : List Dt → Dt → Prop
  | mk (qs rs : List Rat) : qs.length = rs.length → qs.length ≤ 1000 → (∀ q ∈ qs, Bd 1000 q) → (∀ q ∈ rs, Bd 1000 q) → (∀ i, i ≤ qs.length → Bd 4000 (rsum ((List.zipWith (· * ·) qs rs).take i))) → R_dot [.lst (qs.map fq), .lst (rs.map fq)] (fq (rsum (List.zipWith (· * ·) qs rs)))
def rmax (q : Rat) (qs : List Rat) : Rat := qs.foldl (fun b v => if b < v then v else b) q
def rmin (q : Rat) (qs : List Rat) : Rat := qs.foldl (fun b v => if v < b then v else b) q
inductive R_largest : List Dt → Dt → Prop
  | mk (q : Rat) (qs : List Rat) : (∀ r ∈ q :: qs, Bd 4000 r) → R_largest [.lst ((q :: qs).map fq)] (fq (rmax q (q :: qs)))
inductive R_smallest : List Dt → Dt → Prop
  | mk (q : Rat) (qs : List Rat) : (∀ r ∈ q :: qs, Bd 4000 r) → R_smallest [.lst ((q :: qs).map fq)] (fq (rmin q (q :: qs)))
/-! ways to the rationals -/
theorem divInt_self' (q : Rat) : Rat.divInt q.num (q.den : Int) = q := by
  have := Rat.num_divInt_den q
  exact this
theorem den_pos (q : Rat) : (0 : Int) < (q.den : Int) := by
  have := q.den_pos
  omega
theorem den_ne (q : Rat) : (q.den : Int) ≠ 0 := by
  have := den_pos q
  omega
theorem add_divInt (a b : Rat) : Rat.divInt (a.num * b.den + b.num * a.den) (a.den * b.den) = a + b := by
  rw [← Rat.divInt_add_divInt _ _ (den_ne a) (den_ne b), divInt_self', divInt_self']
theorem sub_divInt (a b : Rat) : Rat.divInt (a.num * b.den - b.num * a.den) (a.den * b.den) = a - b := by
  rw [← Rat.divInt_sub_divInt _ _ (den_ne a) (den_ne b), divInt_self', divInt_self']
theorem mul_divInt (a b : Rat) : Rat.divInt (a.num * b.num) (a.den * b.den) = a * b := by
  rw [← Rat.divInt_mul_divInt, divInt_self', divInt_self']
theorem div_divInt (a b : Rat) : Rat.divInt (a.num * b.den) (a.den * b.num) = a / b := by
  rw [Rat.div_def, ← Rat.divInt_mul_divInt, divInt_self']
  congr 1
  conv => rhs; rw [← divInt_self' b]
  rw [Rat.inv_divInt]
end DL
namespace DL
open PySem L2
theorem low_num {a b : Int} (h : 0 < b) : (Rat.divInt a b).num = a / ((Nat.gcd a.natAbs b.natAbs : Nat) : Int) ∧ ((Rat.divInt a b).den : Int) = b / ((Nat.gcd a.natAbs b.natAbs : Nat) : Int) := by
  obtain ⟨n, rfl⟩ : ∃ n : Nat, b = (n : Int) := ⟨b.toNat, by omega⟩
  exact low_pos a n (by omega)
theorem low_bd {a b : Int} {n : Nat} (h : 0 < b) (ha : a.natAbs < 2 ^ n) (hb : b.natAbs < 2 ^ n) : Bd n (Rat.divInt a b) := by
  obtain ⟨h1, h2⟩ := low_num (a := a) h
  have g0 : 0 < Nat.gcd a.natAbs b.natAbs := Nat.gcd_pos_of_pos_right _ (Int.natAbs_pos.mpr (by omega))
  constructor
  · rw [h1, Int.natAbs_ediv_of_dvd (Int.ofNat_dvd_left.mpr (Nat.gcd_dvd_left _ _)), Int.natAbs_natCast]
    exact Nat.lt_of_le_of_lt (Nat.div_le_self _ _) ha
  · have : (Rat.divInt a b).den = b.natAbs / Nat.gcd a.natAbs b.natAbs := by
      have e : ((Rat.divInt a b).den : Int).natAbs = (b / ((Nat.gcd a.natAbs b.natAbs : Nat) : Int)).natAbs := by rw [h2]
      rw [Int.natAbs_natCast, Int.natAbs_ediv_of_dvd (Int.ofNat_dvd_left.mpr (Nat.gcd_dvd_right _ _)), Int.natAbs_natCast] at e
      exact e
    rw [this]
    exact Nat.lt_of_le_of_lt (Nat.div_le_self _ _) hb
theorem fq_eq {a b : Rat} (h : a = b) : fq a = fq b := by rw [h]
theorem fq_inj {a b : Rat} : (a.num = b.num ∧ a.den = b.den) ↔ a = b := by
  constructor
  · intro h
    exact Rat.ext h.1 h.2
  · intro h
    rw [h]
    exact ⟨rfl, rfl⟩
end DL

/-! Law0: what the laws' common helpers come to. -/
namespace DL
open PySem L2
inductive R_cell : List Dt → Dt → Prop
  | mk (ns : List Int) (k : Nat) : ns.length ≤ 63 → R_cell [.lst (ns.map .int), .int (k : Int)] (.int (ns.getD k 0))
/-- the digits of a cell: after i turns, the row so far and the rest -/
def dst (c b : Int) : Nat → List Int × Int
  | 0 => ([], c)
  | i + 1 => if (10 : Int) ^ (18 : Int).toNat ≤ c then ((dst c b i).1 ++ [(dst c b i).2 % b], (dst c b i).2 / b) else
      (((dst c b i).1 ++ [((((((dst c b i).2 * 48271 + 69621 * (i : Nat) + 1009) % 2147483647) * 16807 + 40014 * (i : Nat) + 7) % 2147483629) / 11) % b]),
        ((((dst c b i).2 * 48271 + 69621 * (i : Nat) + 1009) % 2147483647) * 16807 + 40014 * (i : Nat) + 7) % 2147483629)
theorem dst_yes {c b : Int} (h : (10 : Int) ^ (18 : Int).toNat ≤ c) (i : Nat) : dst c b (i + 1) = ((dst c b i).1 ++ [(dst c b i).2 % b], (dst c b i).2 / b) := by
  show (if _ then _ else _) = _
  rw [if_pos h]
theorem dst_no {c b : Int} (h : ¬ (10 : Int) ^ (18 : Int).toNat ≤ c) (i : Nat) : dst c b (i + 1) = (((dst c b i).1 ++ [((((((dst c b i).2 * 48271 + 69621 * (i : Nat) + 1009) % 2147483647) * 16807 + 40014 * (i : Nat) + 7) % 2147483629) / 11) % b]),
        ((((dst c b i).2 * 48271 + 69621 * (i : Nat) + 1009) % 2147483647) * 16807 + 40014 * (i : Nat) + 7) % 2147483629) := by
  show (if _ then _ else _) = _
  rw [if_neg h]
theorem dst_len (c b : Int) : ∀ i, (dst c b i).1.length = i
  | 0 => rfl
  | i + 1 => by
    unfold dst
    split <;> simp [dst_len c b i]
theorem dst_in (c b : Int) (hb : 0 < b) : ∀ i, ∀ x ∈ (dst c b i).1, 0 ≤ x ∧ x < b
  | 0 => fun _ h => by cases h
  | i + 1 => by
    unfold dst
    split
    · intro x hx
      rcases List.mem_append.mp hx with h | h
      · exact dst_in c b hb i x h
      · rw [List.mem_singleton.mp h]
        exact ⟨Int.emod_nonneg _ (by omega), Int.emod_lt_of_pos _ hb⟩
    · intro x hx
      rcases List.mem_append.mp hx with h | h
      · exact dst_in c b hb i x h
      · rw [List.mem_singleton.mp h]
        exact ⟨Int.emod_nonneg _ (by omega), Int.emod_lt_of_pos _ hb⟩
inductive R_digits : List Dt → Dt → Prop
  | mk (c b : Int) (n : Nat) : 0 < b → b < 2 ^ 30 → n ≤ 1000 → R_digits [.int c, .int b, .int (n : Int)] (.lst ((dst c b n).1.map .int))
inductive R_gcd : List Dt → Dt → Prop
  | mk (a b : Nat) : b < 2 ^ 900 → R_gcd [.int (a : Int), .int (b : Int)] (.int ((Nat.gcd a b : Nat) : Int))
inductive R_lowest : List Dt → Dt → Prop
  | mk (a b : Int) : 0 < b → b.natAbs < 2 ^ 900 → R_lowest [.int a, .int b] (fq (Rat.divInt a b))
inductive R_isint : List Dt → Dt → Prop
  | mk (a : Int) : R_isint [.int a] (.bl true)
inductive R_same : List Dt → Dt → Prop
  | mk (a b : Rat) : R_same [fq a, fq b] (.bl (decide (a = b)))
inductive R_flag : List Dt → Dt → Prop
  | mk (a b : Bool) : R_flag [.bl a, .bl b] (.bl (decide (a = b)))
/-! Euclid's way ends in time -/
/-- a turn's pair -/
def eu (a b : Nat) : Nat → Nat × Nat
  | 0 => (a, b)
  | i + 1 => ((eu a b i).2, (eu a b i).1 % (eu a b i).2)
theorem mod_half {a b : Nat} (h : b ≤ a) (hb : 0 < b) : 2 * (a % b) ≤ a := by
  have h1 := Nat.mod_lt a hb
  have h2 := Nat.div_add_mod a b
  have h3 : 1 ≤ a / b := (Nat.one_le_div_iff hb).mpr h
  have h4 : b * 1 ≤ b * (a / b) := Nat.mul_le_mul_left b h3
  omega
theorem eu_gcd (a b : Nat) : ∀ i, Nat.gcd (eu a b i).1 (eu a b i).2 = Nat.gcd a b
  | 0 => rfl
  | i + 1 => by
    show Nat.gcd (eu a b i).2 ((eu a b i).1 % (eu a b i).2) = _
    rw [Nat.gcd_comm, ← Nat.gcd_rec, Nat.gcd_comm, eu_gcd a b i]
theorem eu_lt (a b : Nat) : ∀ i, (eu a b i).2 ≠ 0 → (eu a b (i + 1)).2 < (eu a b (i + 1)).1 := fun i h => Nat.mod_lt _ (Nat.pos_of_ne_zero h)
theorem eu_small (a b : Nat) {m : Nat} (hb : b < 2 ^ m) : ∀ i, (∀ j, j ≤ i → (eu a b j).2 ≠ 0) → (eu a b (i + 1)).1 * (eu a b (i + 1)).2 * 2 ^ i < 2 ^ (m + m)
  | 0, h => by
    show b * (a % b) * 1 < _
    have h1 : a % b < 2 ^ m := Nat.lt_trans (Nat.mod_lt _ (Nat.pos_of_ne_zero (h 0 (Nat.le_refl _)))) hb
    rw [Nat.mul_one, Nat.pow_add]
    exact Nat.mul_lt_mul'' hb h1
  | i + 1, h => by
    have ih := eu_small a b hb i fun j hj => h j (by omega)
    have h2 := eu_lt a b i (h i (by omega))
    have h3 := mod_half (Nat.le_of_lt h2) (Nat.pos_of_ne_zero (h (i + 1) (Nat.le_refl _)))
    show (eu a b (i + 1)).2 * ((eu a b (i + 1)).1 % (eu a b (i + 1)).2) * 2 ^ (i + 1) < _
    refine Nat.lt_of_le_of_lt ?_ ih
    rw [Nat.pow_succ, ← Nat.mul_assoc, Nat.mul_comm _ 2, ← Nat.mul_assoc]
    refine Nat.mul_le_mul_right _ ?_
    rw [← Nat.mul_assoc, Nat.mul_comm 2, Nat.mul_assoc, Nat.mul_comm (eu a b (i + 1)).1]
    exact Nat.mul_le_mul_left _ h3
/-- before 2 m + 2 turns are through the second number is zero -/
theorem eu_ends (a b : Nat) {m : Nat} (hb : b < 2 ^ m) : ∃ j, j ≤ m + m + 1 ∧ (eu a b j).2 = 0 := by
  apply Classical.byContradiction
  intro hn
  have all : ∀ j, j ≤ m + m + 1 → (eu a b j).2 ≠ 0 := fun j hj z => hn ⟨j, hj, z⟩
  have h := eu_small a b hb (m + m) fun j hj => all j (by omega)
  have h1 : 0 < (eu a b (m + m + 1)).1 * (eu a b (m + m + 1)).2 := Nat.mul_pos (Nat.pos_of_ne_zero (all (m + m) (by omega))) (Nat.pos_of_ne_zero (all (m + m + 1) (Nat.le_refl _)))
  have h2 : 1 * 2 ^ (m + m) ≤ (eu a b (m + m + 1)).1 * (eu a b (m + m + 1)).2 * 2 ^ (m + m) := Nat.mul_le_mul_right _ h1
  omega
/-! drawn pairs -/
def pr (c : Int) (w : Bool) : Int × Int :=
  let a := fun i => (dst c 1000000 4).1.getD i 0
  let n := if w = true then a 0 + 1000000 * a 1 else a 0 % 13
  let d := if w = true then max 1 (a 2 + 1000000 * a 3) else 1 + a 2 % 6
  (if a 3 % 3 = 1 then -n else n, d)
theorem dst4 (c b : Int) (hb : 0 < b) : ∃ x0 x1 x2 x3, (dst c b 4).1 = [x0, x1, x2, x3] ∧ (0 ≤ x0 ∧ x0 < b) ∧ (0 ≤ x1 ∧ x1 < b) ∧ (0 ≤ x2 ∧ x2 < b) ∧ (0 ≤ x3 ∧ x3 < b) := by
  have h := dst_len c b 4
  have hi := dst_in c b hb 4
  match e : (dst c b 4).1, h with
  | [x0, x1, x2, x3], _ =>
    rw [e] at hi
    exact ⟨x0, x1, x2, x3, rfl, hi _ (by simp), hi _ (by simp), hi _ (by simp), hi _ (by simp)⟩
theorem pr_ok (c : Int) (w : Bool) : 0 < (pr c w).2 ∧ (pr c w).2 < 2 ^ 40 ∧ (pr c w).1.natAbs < 2 ^ 40 := by
  obtain ⟨x0, x1, x2, x3, e, h0, h1, h2, h3⟩ := dst4 c 1000000 (by decide)
  unfold pr
  rw [e]
  simp only [List.getD_cons_zero, List.getD_cons_succ]
  cases w
  · simp only [Bool.false_eq_true, if_false]
    split <;> omega
  · simp only [if_true]
    split <;> omega
inductive R_pair : List Dt → Dt → Prop
  | mk (c : Int) (w : Bool) : R_pair [.int c, .bl w] (pd (pr c w))

inductive R_two : List Dt → Dt → Prop
  | mk (a b : Rat) : Bd 60 a → Bd 60 b → R_two [fq a, fq b] (.bl true)
/-- the sum of pairs, not in lowest terms -/
def usm (ps : List (Int × Int)) : Int × Int := ps.foldl (fun s p => (s.1 * p.2 + p.1 * s.2, s.2 * p.2)) (0, 1)
theorem usm_snoc (ps : List (Int × Int)) (p : Int × Int) : usm (ps ++ [p]) = ((usm ps).1 * p.2 + p.1 * (usm ps).2, (usm ps).2 * p.2) := by
  unfold usm
  rw [List.foldl_append]
  rfl
def Pok (m : Nat) (p : Int × Int) : Prop := 0 < p.2 ∧ p.2.natAbs < 2 ^ m ∧ p.1.natAbs < 2 ^ m
theorem usm_ok {m : Nat} (ps : List (Int × Int)) (h : ∀ p ∈ ps, Pok m p) : ∀ i, i ≤ ps.length → Pok ((m + 1) * i + 1) (usm (ps.take i)) ∧ Rat.divInt (usm (ps.take i)).1 (usm (ps.take i)).2 = rsum ((ps.take i).map fun p => Rat.divInt p.1 p.2)
  | 0, _ => ⟨⟨by show (0 : Int) < 1; decide, by show 1 < 2 ^ ((m + 1) * 0 + 1); rw [Nat.mul_zero]; decide, by show 0 < 2 ^ ((m + 1) * 0 + 1); exact Nat.pow_pos (by decide)⟩, by show Rat.divInt 0 1 = (0 : Rat); simp⟩
  | i + 1, hi => by
    have hlt : i < ps.length := by omega
    have e : ps.take (i + 1) = ps.take i ++ [ps[i]] := by rw [List.take_add_one, List.getElem?_eq_getElem hlt]; rfl
    obtain ⟨⟨i1, i2, i3⟩, i4⟩ := usm_ok ps h i (by omega)
    obtain ⟨p1, p2, p3⟩ := h ps[i] (List.getElem_mem hlt)
    rw [e, usm_snoc, List.map_append]
    generalize usm (ps.take i) = s at *
    generalize ps[i] = p at *
    refine ⟨⟨Int.mul_pos i1 p1, ?_, ?_⟩, ?_⟩
    · show (s.2 * p.2).natAbs < _
      rw [Int.natAbs_mul]
      exact pow_le_of (mul_lt_pow i2 p2) (by rw [Nat.mul_add]; omega)
    · show (s.1 * p.2 + p.1 * s.2).natAbs < _
      have a1 := mul_lt_pow i3 p2
      have a2 := mul_lt_pow p3 i2
      rw [← Int.natAbs_mul] at a1 a2
      have a3 := Int.natAbs_add_le (s.1 * p.2) (p.1 * s.2)
      have a4 : 2 ^ ((m + 1) * (i + 1) + 1) = 2 ^ ((m + 1) * i + 1 + m) + 2 ^ ((m + 1) * i + 1 + m) := by
        rw [← Nat.two_mul, Nat.mul_comm 2, ← Nat.pow_succ]
        congr 1
        rw [Nat.mul_add]
        omega
      rw [Nat.add_comm m] at a2
      omega
    · show Rat.divInt (s.1 * p.2 + p.1 * s.2) (s.2 * p.2) = rsum ((ps.take i).map _ ++ [Rat.divInt p.1 p.2])
      rw [rsum_snoc, ← i4, Rat.divInt_add_divInt _ _ (by omega) (by omega)]
inductive R_sum : List Dt → Dt → Prop
  | mk (ps : List (Int × Int)) : ps.length ≤ 8 → (∀ p ∈ ps, Pok 100 p) → R_sum [.lst (ps.map pd)] (fq (rsum (ps.map fun p => Rat.divInt p.1 p.2)))
inductive R_ends : List Dt → Dt → Prop
  | mk (q : Rat) (qs : List Rat) : (∀ r ∈ q :: qs, Bd 4000 r) → R_ends [.lst ((q :: qs).map fq)] (.lst [fq (rmin q (q :: qs)), fq (rmax q (q :: qs))])
/-! bounds -/
theorem add_bd {a b : Rat} {m n : Nat} (ha : Bd m a) (hb : Bd n b) : Bd (m + n + 1) (a + b) := by
  rw [← add_divInt]
  have h1 := mul_lt_pow ha.nu hb.de
  have h2 := mul_lt_pow hb.nu ha.de
  have h3 := mul_lt_pow ha.de hb.de
  refine low_bd (Int.mul_pos (den_pos a) (den_pos b)) ?_ ?_
  · have a3 := Int.natAbs_add_le (a.num * b.den) (b.num * a.den)
    rw [Int.natAbs_mul, Int.natAbs_mul, Int.natAbs_natCast, Int.natAbs_natCast] at a3
    rw [Nat.add_comm n] at h2
    rw [Nat.pow_succ]
    omega
  · rw [Int.natAbs_mul, Int.natAbs_natCast, Int.natAbs_natCast]
    exact pow_le_of h3 (by omega)
theorem mul_bd {a b : Rat} {m n : Nat} (ha : Bd m a) (hb : Bd n b) : Bd (m + n) (a * b) := by
  rw [← mul_divInt]
  refine low_bd (Int.mul_pos (den_pos a) (den_pos b)) ?_ ?_
  · rw [Int.natAbs_mul]
    exact mul_lt_pow ha.nu hb.nu
  · rw [Int.natAbs_mul, Int.natAbs_natCast, Int.natAbs_natCast]
    exact mul_lt_pow ha.de hb.de
theorem rsum_bd {m : Nat} (qs : List Rat) (h : ∀ q ∈ qs, Bd m q) : ∀ i, i ≤ qs.length → Bd ((m + 1) * i + 1) (rsum (qs.take i))
  | 0, _ => ⟨by show 0 < 2 ^ ((m + 1) * 0 + 1); exact Nat.pow_pos (by decide), by show 1 < 2 ^ ((m + 1) * 0 + 1); rw [Nat.mul_zero]; decide⟩
  | i + 1, hi => by
    have hlt : i < qs.length := by omega
    rw [List.take_add_one, List.getElem?_eq_getElem hlt]
    show Bd _ (rsum (qs.take i ++ [qs[i]]))
    rw [rsum_snoc]
    exact (add_bd (rsum_bd qs h i (by omega)) (h _ (List.getElem_mem hlt))).mono (by rw [Nat.mul_add]; omega)

inductive R_zden : List Dt → Dt → Prop
  | mk (a : Int) : R_zden [.int a] (.bl true)
inductive R_zdiv : List Dt → Dt → Prop
  | mk (q : Rat) : R_zdiv [fq q] (.bl true)
inductive R_law : List Dt → Dt → Prop
  | mk (ns : List Int) : ns.length ≤ 63 → R_law [.lst (ns.map .int)] (.bl true)

inductive RX_fraction (B : Addr) : List Dt → Addr → List (Str × Dt) → Prop
  | mk (a : Int) : RX_fraction B [.int a, .int 0] B [("place", .str "denominator")]
inductive RX_divide (B : Addr) : List Dt → Addr → List (Str × Dt) → Prop
  | mk (q : Rat) : RX_divide B [fq q, fq 0] B [("place", .str "divisor")]
end DL

/-! Law1: data compared as a whole; lists cut. -/
namespace DL
open PySem L2
def pq (q : Rat) : PyData := .tuple [.int q.num, .int (q.den : Int)]
theorem toPy_fq (q : Rat) : toPy (fq q) = some (pq q) := rfl
theorem toPys_fqs : ∀ qs : List Rat, toPys (qs.map fq) = some (qs.map pq)
  | [] => rfl
  | q :: qs => by
    show (toPy (fq q)).bind (fun p => (toPys (qs.map fq)).map fun r => p :: r) = _
    rw [toPys_fqs qs]
    rfl
theorem toPy_fqs (qs : List Rat) : toPy (.lst (qs.map fq)) = some (.list (qs.map pq)) := by
  show (toPys (qs.map fq)).map PyData.list = _
  rw [toPys_fqs]
  rfl
theorem canLay_pqs : ∀ qs : List Rat, PyData.canLayAll0 (qs.map pq) = true
  | [] => by simp [PyData.canLayAll0]
  | q :: qs => by
    have := canLay_pqs qs
    simp [PyData.canLayAll0, pq, PyData.canLay0, this]
theorem depth_pqs : ∀ qs : List Rat, PyData.depthAll (qs.map pq) ≤ 2
  | [] => by simp [PyData.depthAll]
  | q :: qs => by
    have := depth_pqs qs
    simp only [List.map_cons, PyData.depthAll, pq, PyData.depth]
    omega
theorem shaped_pqs (qs : List Rat) : SeqAt.shaped (.list (qs.map pq)) = true := by
  unfold SeqAt.shaped
  have h1 := canLay_pqs qs
  have h2 := depth_pqs qs
  rw [show PyData.canLay0 (.list (qs.map pq)) = true by simpa [PyData.canLay0] using h1, Bool.true_and]
  refine decide_eq_true ?_
  show PyData.depth (.list (qs.map pq)) ≤ 64
  simp only [PyData.depth]
  omega
theorem eqv_pqs (qs : List Rat) : PyData.eqv (.list (qs.map pq)) (.list (qs.map pq)) = true := SeqAt.eqv_refl _ (SeqAt.canLay_of_shaped (shaped_pqs qs))
theorem rd_eqFqs {K : PySem.W.Frag} {r : R2} (qs : List Rat) : RD2 K (fun x y H Q => r x y H Q ∨ rEqD K x y H Q) (.lst (qs.map fq)) (.lst (qs.map fq)) (.bl true) :=
  RD2.r (rd_eqD (toPy_fqs qs) (toPy_fqs qs) (shaped_pqs qs) (shaped_pqs qs) (eqv_pqs qs))
theorem cut_to {α : Type} (xs : List α) (m : Nat) : cutD xs none (some (m : Int)) = xs.take m := by
  unfold cutD
  rw [HT.sIx_nat, HT.sIx_none, List.drop_zero, Nat.sub_zero]
  rcases Nat.le_total m xs.length with h | h
  · rw [Nat.min_eq_left h]
  · rw [Nat.min_eq_right h, List.take_length, List.take_of_length_le h]
theorem range_map_take {α : Type} (f : Nat → α) (n m : Nat) (h : m ≤ n) : ((List.range n).map f).take m = (List.range m).map f := by
  rw [← List.map_take, List.take_range, Nat.min_eq_left h]
theorem atI_range {α : Type} (f : Nat → α) {n k : Nat} {i : Int} (h : k < n) (e : i = (k : Int)) : atI ((List.range n).map f) i = some (f k) := by
  subst e
  refine atI_nat ?_
  rw [List.getElem?_map, List.getElem?_range h]
  rfl
theorem zip_range (f g : Nat → Rat) (m : Nat) : List.zipWith (· * ·) ((List.range m).map f) ((List.range m).map g) = (List.range m).map fun k => f k * g k := by
  rw [List.zipWith_map, List.zipWith_self]
theorem range_mem {n i k : Nat} (h : (List.range n)[i]? = some k) : k = i ∧ k < n := by
  have hi := (List.getElem?_eq_some_iff.mp h).1
  rw [List.length_range] at hi
  rw [List.getElem?_range hi] at h
  cases h
  exact ⟨rfl, hi⟩
end DL

/-! DL6: errors over data: own classes with an __init__, raise, try, what a suite does with the error. -/
namespace DL
open PySem PySem.Spec PyProof.Rows L2
/-! ### making and raising -/
/-- __init__(self, f): self.f = f -/
def spI1 (C : Addr) (f : Str) : Sp := fun vs H Q _ => ∃ a v, vs = [.ref a, v] ∧ H a = some (exo a C none) ∧ ∀ dx, H dx = none → dx ≠ a → Q .non (upd (upd H dx (exd dx [(f, v)])) a (exo a C (some dx)))
/-- what the top says of such a class -/
structure ExcT (K : PySem.W.Frag) (C fI : Addr) : Prop where
  o : OexC K C
  iC : PySem.W.findIn K (.ref C) "__init__" = some (some (.ref fI))
  tI : PySem.W.typeIn K (.ref fI) = some (.type "function")
  cl : (PySem.W.clsIn K C).isSome = true
  ga : PySem.W.findIn K (.ref C) "__getattribute__" = some (some (.builtin "BaseException.__getattribute__"))
  gg : PySem.W.findIn K (.ref C) "__getattr__" = some none
  hd : PySem.W.hasDictIn K C = true
  ca : PySem.W.findIn K (.ref C) "__class__" = some (some (.builtin "object.__class__"))
  cg : PySem.W.specialIn K (.builtin "object.__class__") "__get__" = some (some (.builtin "getset_descriptor.__get__"))
  ct : PySem.W.takesIn K (.builtin "object.__class__") = some true
  cm : PySem.W.mroIn K C (.type "object") = some true
section
variable {K : PySem.W.Frag} {W : WX} {ρ : PEnv} {ta tb te tc tl : TE} {t u : TT} {x y z d e : Dt} {ts tu : TS} {D : DEnds} {aa : TA}
/-- the reading of raise C(e) -/
def tRz (C : Addr) (f : Str) (W : WX) (aa : TA) : TS := fun _ σ H => tMkO C (spI1 C f) [] aa σ H fun cls dd H' => W cls dd σ H'
theorem es_raise {C : Addr} {f : Str} (ha : DA K aa ρ [d]) (q : D.ex C [(f, d)] ρ) : ES K W (tRz C f W aa) ρ D := .mk fun O0 B O σ H G k r =>
  ha.run O0 B O σ H _ k fun vs H1 s1 r1 => by
    obtain ⟨v, w, rfl, r2, r3⟩ := r1
    obtain rfl : w = [] := r3
    refine ⟨by show 1 ≤ 1000; decide, fun a na => ⟨a, v, rfl, upd_same, fun dx nx ne => ⟨rfl, dx, [(f, v)], upd_same, ?_, ?_, ?_⟩⟩⟩
    · rw [upd_ne ne, upd_same]
    · rw [upd_ne ne] at nx
      exact nx
    · have nx' : H1 dx = none := by
        rw [upd_ne ne] at nx
        exact nx
      have sm : Same H1 (upd (del (upd (upd (upd H1 a (exo a C none)) dx (exd dx [(f, v)])) a (exo a C (some dx))) a) dx (.xd [(f, v)])) := fun b o e => by
        have h1 : b ≠ dx := ne_of_none e nx'
        have h2 : b ≠ a := ne_of_none e na
        rw [upd_ne h1, del_ne h2, upd_ne h2, upd_ne h1, upd_ne h2]
        exact e
      have k2 := (k.mono s1).mono sm
      refine r.ex C [(f, d)] ρ O σ _ dx [(f, v)] q k2 ((k.h.ext.trans s1).free nx') ?_ ⟨v, [], rfl, Rep.mono (hid_mono sm) d v r2, rfl⟩
      rw [hid_out ((k.mono s1).h.out nx')]
      exact upd_same
/-- a call that raises -/
def tRaises (R : List Dt → Addr → List (Str × Dt) → Prop) (K : PySem.W.Frag) (dvs : List V) (W : WX) (aa : TA) : TE := tCallSD (spR K R) dvs (fun σ c d H => W c d σ H) aa
theorem dr_call {R : List Dt → Addr → List (Str × Dt) → Prop} {dvs : List V} {dds ds : List Dt} {C : Addr} {fs : List (Str × Dt)} (ha : DA K aa ρ ds) (hd : ∀ G, Reps K G dds dvs) (hr : R (ds ++ dds) C fs) : DR K W (tRaises R K dvs W aa) ρ C fs := .mk fun O0 B O σ H Q k q =>
  ha.run O0 B O σ H _ k fun vs H1 s1 r1 => ⟨O0 ++ O, ds ++ dds, C, fs, fun p hp z => k.h.dom p hp (s1.free z), r1.append (hd _), hr, fun dd xs H' s2 nd e r => q dd xs H' (s1.trans s2) (s1.free nd) e r⟩
theorem real_ex {C : Addr} {fs : List (Str × Dt)} {O0 O : List Addr} {B H H' : Hp} {σ : L2.St} {G : Ends} {dd : Addr} {xs : List (Str × V)} (q : D.ex C fs ρ) (k : Ok K O0 B O σ ρ H) (r : Real K W O0 B D G) (s : Same H H') (n : H dd = none) (e : H' dd = some (.xd xs)) (rf : RepF K (hid (O0 ++ O) H') fs xs) : W (.ref C) (some dd) σ H' :=
  r.ex C fs ρ O σ H' dd xs q (k.mono s) (k.h.ext.free n) (by rw [hid_out (k.h.out n)]; exact e) rf
theorem es_dropR {C : Addr} {fs : List (Str × Dt)} (h : DR K W te ρ C fs) (q : D.ex C fs ρ) : ES K W (tDrop te) ρ D := .mk fun O0 B O σ H G k r => h.run O0 B O σ H _ k fun dd xs H' s n e rf => real_ex q k r s n e rf
theorem es_retR {C : Addr} {fs : List (Str × Dt)} (h : DR K W te ρ C fs) (q : D.ex C fs ρ) : ES K W (tRet te) ρ D := .mk fun O0 B O σ H G k r => h.run O0 B O σ H _ k fun dd xs H' s n e rf => real_ex q k r s n e rf
theorem es_setR {C : Addr} {fs : List (Str × Dt)} {g : TG} (h : DR K W te ρ C fs) (q : D.ex C fs ρ) : ES K W (tAsg te g) ρ D := .mk fun O0 B O σ H G k r => h.run O0 B O σ H _ k fun dd xs H' s n e rf => real_ex q k r s n e rf
/-- the reading of a try with one clause -/
def tTry (K : PySem.W.Frag) (c : Value) (i : Nat) (tb : WX → TS) (ss : Addr → Value → Option Addr → TS) (Wout : WX) : TS := fun G σ H => tb (wAs K c i ss Wout G) G σ H
theorem ps_tryD {X : Cx} {x n : Str} {c : Value} {i : Nat} {body suite : List Stmt} {b₀ : Stmt} {np pos pos' : Pos} {tb : WX → TS} {ss : Addr → Value → Option Addr → TS} {Wout : WX} (hK : X.K = K) (h1 : X.stack = X.env :: X.outer) (h2 : X.env.frame = some X.env.locals) (h3 : X.N.Nodup) (h4 : X.N[i]? = some n) (h5 : X.env.kindOf n = some .local) (h6 : Names X x c) (tk : Takes X Wout)
    (hb : ∀ (W : WX) (pn : List (Addr × Obj)) (xe : Value → Shared → Prop), Takes (X.tr pn xe) W → PassesOwn (model X.prog X.w) X.A X.env xe → PSs (X.tr pn xe) body (tb W))
    (hs : ∀ (a : Addr) (oe : Obj) (cls : Value) (d : Option Addr) (pn : List (Addr × Obj)), Zc cls d oe → (∃ vs, oe.data = .fields vs) → PSs (X.suite a ((a, oe) :: pn)) (b₀ :: suite) (ss a cls d)) :
    PS X (.Try body [.ExceptHandler (some (.Name x np)) (some n) (b₀ :: suite) pos'] [] [] pos) (tTry K c i tb ss Wout) := by
  subst hK
  exact ps_try_as h1 h2 h3 h4 h5 h6 tk hb hs
/-- try .. except c as n (slot i): every error of the body is caught -/
theorem es_try {c : Value} {i : Nat} {tb : WX → TS} {ss : Addr → Value → Option Addr → TS} {Wout : WX} (hb : ∀ W', ES K W' (tb W') ρ { D with ex := fun C fs ρ' => PySem.W.exmOne K (.ref C) c = some true ∧ ∀ a dd, ES K (fun _ _ _ _ => False) (ss a (.ref C) (some dd)) (ρ'.set i (.dat (.exc a C dd fs))) { nx := fun ρ2 => D.nx (ρ2.set i .any), rt := D.rt, bk := fun ρ2 => D.bk (ρ2.set i .any), ct := fun ρ2 => D.ct (ρ2.set i .any) } }) :
    ES K W (tTry K c i tb ss Wout) ρ D := .mk fun O0 B O σ H G k r =>
  (hb _).run O0 B O σ H G k ⟨r.nx, r.bk, r.ct, r.rt, fun C fs ρ1 O1 σ1 H1 dd xs q k1 n e rf => by
    obtain ⟨h1, h2⟩ := q
    refine ⟨true, h1, fun _ a na => ?_, fun z => Bool.noConfusion z⟩
    refine (h2 a dd).run O0 B O1 (σ1.set i (some (.ref a))) H1 _ (k1.set (d := .exc a C dd fs) (v := .ref a) ⟨rfl, xs, e, rf⟩) ⟨fun ρ2 O2 σ2 H2 q2 k2 => ?_, fun ρ2 O2 σ2 H2 q2 k2 => ?_, fun ρ2 O2 σ2 H2 q2 k2 => ?_, r.rt, fun _ _ _ _ _ _ _ _ z => z.elim⟩
    · exact r.nx _ O2 _ H2 q2 (k2.forget i)
    · exact r.bk _ O2 _ H2 q2 (k2.forget i)
    · exact r.ct _ O2 _ H2 q2 (k2.forget i)⟩

/-! ### in the suite: the error stands pinned -/
variable {X : Cx} {a C dd : Addr} {oe : Obj}
theorem pin_inst {pins : List (Addr × Obj)} {σ : L2.St} {H : Hp} {s : Shared} (I : Inv X pins σ H s) (hp : (a, oe) ∈ X.pn) (hz : Zc (.ref C) (some dd) oe) (hf : ∃ vs, oe.data = .fields vs) {xs : List (Str × V)} (hx : H dd = some (.xd xs)) :
    ∃ od, PySem.W.InstAt s.heap a oe C (some od) ∧ ∀ n v, xs.lookup n = some v → ∃ u, PySem.W.lookIn n od = some (some u) ∧ RelV v u := by
  have h1 : ObjOk X.prog X.w H s.heap dd (.xd xs) := I.hok dd _ hx
  obtain ⟨mA, hn, hr⟩ := h1
  obtain ⟨od, ho, hl⟩ := lookIn_ns hn
  obtain ⟨vs, hv⟩ := hf
  have hg := (I.pin (a, oe) (List.mem_append_left _ hp)).1
  refine ⟨od, ⟨hg, hz.1, ?_, ?_⟩, fun n v e => ?_⟩
  · unfold PySem.W.notCls
    rw [hv]
  · rw [hz.2]
    exact ho
  · have q := hr n
    rw [e] at q
    obtain ⟨u, hu, ru⟩ := RelO.some_of q
    exact ⟨u, by rw [hl, hu], ru⟩
/-- isinstance(e, c): cls the error's class, dx its dict -/
def rIsX (K : PySem.W.Frag) (a : Addr) (cls : Value) (dx : Option Addr) : List V → Hp → VK → Prop := fun xs H Q => ∃ (C dd fI : Addr) (c : V) (cv : Value) (b : Bool) (fs : List (Str × V)), cls = .ref C ∧ dx = some dd ∧ ExcT K C fI ∧ xs = [.ref a, c] ∧ ClsV c cv ∧ H dd = some (.xd fs) ∧ PySem.W.kitOne K (.ref C) cv = some b ∧ Q (.bl b) H
theorem call_isX {cls : Value} {dx : Option Addr} (hK : X.K = K) (hp : (a, oe) ∈ X.pn) (hz : Zc cls dx oe) (hf : ∃ vs, oe.data = .fields vs) : CallR X (.builtin "isinstance") (rIsX K a cls dx) := by
  subst hK
  intro pins s σ H xs us Q I r h
  obtain ⟨C, dd, fI, c, cv, b, fs, rfl, rfl, T, rfl, k, hx, e, q⟩ := h
  obtain ⟨u1, u2, rfl, r1, r2⟩ := vals2 r
  have e2 := k.eq r2
  subst e2
  obtain rfl : u1 = Value.ref a := r1
  obtain ⟨od, J, _⟩ := pin_inst I hp hz hf hx
  exact PySem.W.kia_one (PySem.W.kitx_exc T.cl T.ga T.gg T.o.exC T.ca T.cg T.ct T.cm) I.kIn J e (fun z => nomatch z) fun tk => ⟨.bl b, H, I.tok tk, rfl, q⟩
theorem rc_isX {fI : Addr} {fs : List (Str × Dt)} {c : Addr} {b : Bool} (T : ExcT K C fI) (e : PySem.W.kitOne K (.ref C) (.ref c) = some b) : RDC K (rIsX K a (.ref C) (some dd)) [.exc a C dd fs, .ref c] (.bl b) := .mk fun O0 _ O H vs _ hk r k => by
  obtain ⟨v, w, rfl, ⟨h1, xs, h2, h3⟩, v2, w2, rfl, h4, h5⟩ := r
  obtain rfl : w2 = [] := h5
  obtain rfl : v = .ref a := h1
  obtain rfl : v2 = .ref c := h4
  exact ⟨C, dd, fI, .ref c, .ref c, b, xs, rfl, rfl, T, rfl, .own c, hid_le _ _ h2, e, k _ H (Same.refl H) rfl⟩
theorem rc_isXty {fI : Addr} {fs : List (Str × Dt)} {c : String} {b : Bool} (T : ExcT K C fI) (e : PySem.W.kitOne K (.ref C) (.type c) = some b) : RDC K (rIsX K a (.ref C) (some dd)) [.exc a C dd fs, .ty c] (.bl b) := .mk fun O0 _ O H vs _ hk r k => by
  obtain ⟨v, w, rfl, ⟨h1, xs, h2, h3⟩, v2, w2, rfl, h4, h5⟩ := r
  obtain rfl : w2 = [] := h5
  obtain rfl : v = .ref a := h1
  obtain rfl : v2 = .ty c := h4
  exact ⟨C, dd, fI, .ty c, .type c, b, xs, rfl, rfl, T, rfl, .ty c, hid_le _ _ h2, e, k _ H (Same.refl H) rfl⟩
/-- e.f -/
def tXg (K : PySem.W.Frag) (a : Addr) (cls : Value) (dx : Option Addr) (f : Str) (te : TE) : TE := fun σ H Q => te σ H fun x H1 => x = .ref a ∧ ∃ (C dd fI : Addr) (fs : List (Str × V)) (v : V), cls = .ref C ∧ dx = some dd ∧ ExcT K C fI ∧ PySem.W.findIn K (.ref C) f = some none ∧ H1 dd = some (.xd fs) ∧ fs.lookup f = some v ∧ Q v H1
theorem pe_xg {cls : Value} {dx : Option Addr} {ex : Expr} {pos : Pos} {f : Str} (hK : X.K = K) (hp : (a, oe) ∈ X.pn) (hz : Zc cls dx oe) (hf : ∃ vs, oe.data = .fields vs) (he : PE X ex te)
    (hb : attributeBase ex f X.env (eval ex X.env) = eval ex X.env := by rfl) : PE X (.Attribute ex f pos) (tXg K a cls dx f te) := by
  subst hK
  refine ⟨fun pins s σ H Q I h => attr_of hb (thn (he.run pins s σ H _ I h) fun u s1 hh => ?_)⟩
  obtain ⟨x, H1, I1, rx, rfl, C, dd, fI, fs, v, rfl, rfl, T, hno, hx, hl, q⟩ := hh
  obtain rfl : u = Value.ref a := rx
  obtain ⟨od, J, lk⟩ := pin_inst I1 hp hz hf hx
  obtain ⟨u, hu, ru⟩ := lk f v hl
  exact HandSPX.exc_get I1.kIn J T.ga T.gg T.o.exC (PySem.W.findObj_own T.hd hno rfl hu) (handed_of ru) ⟨v, H1, I1.tok _, ru, q⟩
theorem de_xg {fI : Addr} {f : Str} {fs : List (Str × Dt)} (T : ExcT K C fI) (hno : PySem.W.findIn K (.ref C) f = some none) (h : DE K te ρ (.exc a C dd fs)) (hl : fs.lookup f = some d) : DE K (tXg K a (.ref C) (some dd) f te) ρ d := .mk fun O0 B O σ H Q k q => h.run O0 B O σ H _ k fun v H1 s1 r1 => by
  obtain ⟨rfl, xs, h2, h3⟩ := r1
  obtain ⟨w, h4, h5⟩ := h3.look hl
  exact ⟨rfl, C, dd, fI, xs, w, rfl, rfl, T, hno, hid_le _ _ h2, h4, q w H1 s1 h5⟩
end
end DL

/-! DL7: a def called with a caught error as its argument; the __init__ of an error. -/
namespace DL
open PySem PySem.Spec PyProof.Rows L2
section
variable {P : Program} {w : World} {K : PySem.W.Frag} {mg : Str → Option Value} {base : Heap}
/-- self.f = f -/
theorem init_ok {x qual : Str} {params : Arguments} {body : List Stmt} {scope : Scope} {f : Addr} {fd : FuncData} {N ps : List Str} {C : Addr} {fl : Str} (F : FunD K x qual params body scope [] [] f fd) (S : FnScope N ps scope) (hl : ps.length = 2) (T : OexC K C) (hno : PySem.W.findIn K (.ref C) fl = some none)
    (hb : ∀ (cdv : Value) (A : Around) (outer : List Env) (s : Shared) (H : Hp) (E : XK), PSs (cxOf CX0 P w K mg base N qual scope f cdv A outer s H E) body (tOst K fl (tVar 0) (tVar 1))) : FnOk P w K mg base CX0 1 f fd ps (spI1 C fl) := by
  refine F.ok S (fun vs H Q E h => ?_) fun cdv A outer s H vs Q E hr h => ⟨_, hb cdv A outer s H E, ?_⟩
  · obtain ⟨a, v, rfl, _⟩ := h
    rw [hl]
    rfl
  · obtain ⟨a, v, rfl, ha, q⟩ := h
    exact ⟨v, rfl, .ref a, rfl, a, C, rfl, T, hno, .inl ⟨ha, fun dx nx ne => q dx nx ne⟩⟩
/-- what the pinned error's def promises: the one parameter is the error -/
theorem run_exc {name qual : Str} {params : Arguments} {body : List Stmt} {scope : Scope} {f : Addr} {fd : FuncData} {N : List Str} {x : Str} {k : Nat} {A : Around} {outer : List Env} {s : Shared} {H : Hp} {args : Args} {Q : VK} {E : XK} {p : Addr × Obj} {t : TS}
    (F : FunD K name qual params body scope [] [] f fd) (S : FnScope N [x] scope) (hr : L2H.RoomH (k + 1) A) (hpin : L2H.PinOk outer H s p) (e0 : Env0 P w K mg base A outer s H) (hb : BindsTo s fd args [(x, .ref p.1)])
    (hd : ∀ cdv, L2H.RoomH k (A.deeper (envOfC qual scope s.heap.objs.size f cdv)) → PSs (L2H.cxH CX0 P w K mg base N qual scope f cdv A outer s H E p) body t) (hq : t { nx := fun _ H' => Q .non H', rt := Q } (L2.start N [.ref p.1]) H) :
    codeAny (model P w) A (.call (.ref f) args) (CR CX0 outer P w H s Q E) s := by
  obtain ⟨oc, od, dV, kV, doc, pm, an, cdv, ct, osl, rfl, lk, hcd, _, _⟩ := F.ex
  have kin : K.In s.heap := e0.mod.kin.keeps fun b o z => (e0.bs b o z).1
  have nl : s.heap.NoLimit := e0.mod.nolimit.keeps fun b o z => (e0.bs b o z).1
  have one : ∀ y ∈ ([(x, Value.ref p.1)] : List (Str × Value)), scope.names.lookup y.1 = some .local ∨ (scope.names.lookup y.1 = some .cell ∧ ((cellsFrom (s.heap.objs.size + 1) scope.names []).lookup y.1).isSome = true) := by
    intro y hy
    rw [List.mem_singleton] at hy
    subst hy
    rcases S.par x List.mem_cons_self with z | z
    · exact Or.inl z
    · exact Or.inr ⟨z, PySem.W.cellsFrom_some _ _ _ (Or.inl z)⟩
  refine codeAny_call_function hr.depth (kin _ _ lk) rfl S.co S.gen rfl (PySem.W.codeRec_of kin hcd) (hb _ _ _ _ (wpAny_newFunctionEnv_cells S.kind one fun env he s1 ic => ?_))
  subst he
  refine ⟨nl.keeps ic.toInCall.keep, codeAny_func ?_⟩
  have J := L2H.inv_startH (CX := CX0) (E := E) (vs := [.ref p.1]) (us := [.ref p.1]) (ps := [x]) S hpin e0 rfl (.cons rfl .nil) ic
  refine wpAny_mono ((hd cdv (hr.deeper _)).run [] s1 _ H { nx := fun _ H' => Q .non H', rt := Q } J hq) (fun fl s' z => ?_) fun _ _ z => z
  cases fl with
  | next =>
    obtain ⟨σ', H', J', q⟩ := z
    exact ⟨.non, H', J'.os, J'.bare, J'.base, J'.hok, rfl, q⟩
  | ret u =>
    obtain ⟨v, σ', H', J', rv, q⟩ := z
    exact ⟨v, H', J'.os, J'.bare, J'.base, J'.hok, rv, q⟩
  | brk =>
    obtain ⟨_, _, _, q⟩ := z
    exact q.elim
  | cont =>
    obtain ⟨_, _, _, q⟩ := z
    exact q.elim
end
/-- f(e) in a suite, e the pinned error at a -/
def tCallE (a : Addr) (N : List Str) (t : TS) (aa : TA) : TE := fun σ H Q => aa σ H fun vs H1 => vs = [.ref a] ∧ t { nx := fun _ H' => Q .non H', rt := Q } (L2.start N [.ref a]) H1
theorem pe_callE {X : Cx} {name x qual : Str} {params : Arguments} {body : List Stmt} {scope : Scope} {f a : Addr} {oe : Obj} {fd : FuncData} {N : List Str} {k : Nat} {t : TS} {arg : Expr} {aa : TA} {p pos : Pos} (F : FunD X.K name qual params body scope [] [] f fd) (S : FnScope N [x] scope)
    (hr : L2H.RoomH (k + 1) X.A) (hp : (a, oe) ∈ X.pn) (hg : Gl X name) (hm : X.mg name = some (.ref f)) (hb : Binds X.K fd [x] [])
    (hd : ∀ (cdv : Value) (s : Shared) (H : Hp) (E : XK), L2H.RoomH k (X.A.deeper (envOfC qual scope s.heap.objs.size f cdv)) → PSs (L2H.cxH CX0 X.prog X.w X.K X.mg X.base N qual scope f cdv X.A X.stack s H E (a, oe)) body t)
    (ha : PA X [arg] aa) (hdb : (name == ("__debug__" : Str)) = false := by decide) (he : starEach (arg :: []) X.env = (false, eval arg X.env) :: starEach [] X.env := by rfl) (hpl : (backTo pos (starEach [] X.env)).any (·.1) = false := by rfl) :
    PE X (.Call (.Name name p) [arg] [] pos) (tCallE a N t aa) := by
  refine ⟨fun pins s σ H Q I h => wpAny_Call_Name_kw (ld_glob I hg hm ?_ hdb)⟩
  refine PySem.W.callWith_K (h₀ := X.base) I.ok.mod.kin F.kp (thn (ha.run pos pins s σ H _ I h) fun us s1 z => ?_) he hpl
  obtain ⟨vs, H1, I1, r, rfl, q⟩ := z
  refine ⟨I1.kIn, ?_⟩
  obtain ⟨u, rfl, ru⟩ := vals1 r
  obtain rfl : u = Value.ref a := ru
  have P1 := I1.pin (a, oe) (List.mem_append_left _ hp)
  have hpin : L2H.PinOk X.stack H1 s1 (a, oe) := ⟨P1.1, P1.2.1, fun z => (List.mem_cons.mp (I1.stkSub a z)).elim P1.2.2.1 P1.2.2.2.1, P1.2.2.2.2⟩
  have bt := hb s1 [.ref a] I1.kIn rfl
  refine wpAny_call (codeAny_mono (run_exc (E := E0) (Q := Q) F S hr hpin I1.env0 bt (fun cdv rm => hd cdv s1 H1 E0 rm) q) fun rs s' hq => ?_)
  cases rs with
  | error e => exact False.elim hq
  | ok fl =>
    cases fl with
    | ret u => exact I1.after hq
    | next => exact False.elim hq
    | brk => exact False.elim hq
    | cont => exact False.elim hq
theorem de_callE {K : PySem.W.Frag} {ρ : PEnv} {d : Dt} {a C dd : Addr} {fs : List (Str × Dt)} {N : List Str} {t : TS} {aa : TA} (ha : DA K aa ρ [.exc a C dd fs]) (hb : Body K (fun _ _ _ _ => False) t N [.exc a C dd fs] d) : DE K (tCallE a N t aa) ρ d := .mk fun O0 B O σ H Q k q =>
  ha.run O0 B O σ H _ k fun vs H1 s1 r1 => by
    obtain ⟨v, w, rfl, r2, r3⟩ := r1
    obtain rfl : w = [] := r3
    obtain rfl : v = .ref a := r2.1
    have k1 := k.mono s1
    refine ⟨rfl, ?_⟩
    have hO : ∀ p ∈ O0 ++ O, H1 p ≠ none := k1.h.dom
    refine hb.run (O0 ++ O) H1 [] _ H1 _ (ok_start hO ⟨.ref a, [], rfl, r2, rfl⟩) ⟨fun ρ2 O2 σ2 H2 e k2 => ?_, fun _ _ _ _ e => e.elim, fun _ _ _ _ e => e.elim, fun e O2 v2 H2 he k2 rv => ?_, fun _ _ _ _ _ _ _ _ e => e.elim⟩
    · have e' : d = .non := e
      rw [e'] at q
      exact q .non H2 (s1.trans k2.h.ext) rfl
    · have he' : e = d := he
      rw [he'] at rv
      exact q v2 H2 (s1.trans k2.ext) (Rep.mono (hid_sub fun p hp => List.mem_append_left _ hp) _ _ rv)
end DL
namespace DL
open PySem PySem.Spec PyProof.Rows L2
theorem roomS {A : Around} {j k : Nat} (h : Room j A) (l : k ≤ j) (m : Option Value) : L2H.RoomH k (A.mark m) := L2H.RoomH.mono ⟨h.dp, h.un⟩ l
section
variable {X : Cx} {C fI : Addr} {x f : Str} {fd : FuncData} {ps : List Str} {e : Expr} {aa : TA} {W : WX} {p pos pos2 : Pos}
/-- raise C(e) -/
theorem ps_raise1 (hc : X.calm = true) (tk : Takes X W) (T : ExcT X.K C fI) (F1 : FnOk X.prog X.w X.K X.mg X.base CX0 1 fI fd ps (spI1 C f)) (hr : Room 2 X.A) (hb : Binds X.K fd ps []) (hg : Gl X x) (hm : X.mg x = some (.ref C)) (ha : PA X [e] aa)
    (hdb : (x == ("__debug__" : Str)) = false := by decide) (he : starEach (e :: []) X.env = (false, eval e X.env) :: starEach [] X.env := by rfl) (hpl : (backTo pos (starEach [] X.env)).any (·.1) = false := by rfl) :
    PS X (.Raise (some (.Call (.Name x p) [e] [] pos)) none pos2) (tRz C f W aa) :=
  ps_raise hc tk (pmk_oex T.o T.iC T.tI F1 hr hb .nil (fun _ _ _ _ _ _ _ z => z.elim) hg hm ha hdb he hpl)
/-- a call that raises, in a try or in a def that lets it out -/
theorem pe_callR {K : PySem.W.Frag} {R : List Dt → Addr → List (Str × Dt) → Prop} {k : Nat} {g : Addr} {dvs : List V} {ds : List Value} {es : List Expr} (hK : X.K = K) (tk : Takes X W) (F : FnOk X.prog X.w X.K X.mg X.base (L2.CX X.prog X.w) k g fd ps (spR K R)) (hr : Room k X.A) (hg : Gl X x) (hm : X.mg x = some (.ref g)) (hk : PySem.W.keepIn X.K (.ref g) = true) (hb : Binds X.K fd ps ds) (hd : Vals dvs ds)
    (ha : PA X (e :: es) aa) (hdb : (x == ("__debug__" : Str)) = false := by decide) (he : starEach (e :: es) X.env = (false, eval e X.env) :: starEach es X.env := by rfl) (hpl : (backTo pos (starEach es X.env)).any (·.1) = false := by rfl) :
    PE X (.Call (.Name x p) (e :: es) [] pos) (tRaises R K dvs W aa) :=
  pe_callSD (E := fun σ c d H => W c d σ H) F hr hg hm hk hb hd (fun σ => passAt tk σ) ha hdb he hpl
end
/-! ### what the top says, as Bools -/
def oexB (K : PySem.W.Frag) (C : Addr) : Bool := match K.lookup C with
  | some ⟨.type t, _, .cls cd, sl⟩ => decide (t = "type") && (match cd.mro, sl.toList with
    | .ref C' :: bm, [_, _, _, _, some (.builtin n), _] => decide (C' = C) && (decide (n = "ValueError.__new__") && (!cd.hasDel && (cd.hasDict && PySem.HandSPX.refsVE bm)))
    | _, _ => false)
  | _ => false
theorem oexB_ok {K : PySem.W.Frag} {C : Addr} (h : oexB K C = true) : ∃ nm q N bs bm sn sub ab col dd k0 k1 k2 k3 k5, K.lookup C = some (excClassObj nm q C N bs bm true sn sub ab col dd k0 k1 k2 k3 k5 "ValueError.__new__") ∧ PySem.HandSPX.refsVE bm = true := by
  unfold oexB at h
  split at h
  · rename_i t dd cd sl ho
    have z := He.ba h
    clear h
    obtain ⟨h0, h⟩ := z
    have h0 := of_decide_eq_true h0
    subst h0
    split at h
    · rename_i C' bm k0 k1 k2 k3 n k5 hm hs
      obtain ⟨h1, h⟩ := He.ba h
      obtain ⟨h2, h⟩ := He.ba h
      obtain ⟨h3, h⟩ := He.ba h
      obtain ⟨h4, h5⟩ := He.ba h
      have h1 := of_decide_eq_true h1
      have h2 := of_decide_eq_true h2
      subst h1 h2
      obtain ⟨c1, c2, c3, c4, c5, c6, c7, c8, c9, c10, c11⟩ := cd
      simp only [Bool.not_eq_true'] at h3
      dsimp only at hm h3 h4
      subst hm h3 h4
      obtain ⟨l⟩ := sl
      have hs : l = _ := hs
      subst hs
      exact ⟨c1, c5, c4, c2, bm, c7, c8, c9, c10, dd, k0, k1, k2, k3, k5, ho, h5⟩
    · cases h
  · cases h
def exB (K : PySem.W.Frag) (C : Addr) : Bool := oexB K C && (decide (PySem.W.findIn K (.ref C) "__setattr__" = some (some (.builtin "object.__setattr__"))) && (decide (PySem.W.subIn K (.ref C) (.type "BaseException") = some true) && (decide (PySem.W.typeIn K (.ref C) = some (.type "type")) && (PySem.W.keepIn K (.ref C) &&
  (decide (PySem.W.findIn K (.ref C) "__init__" = some (some (.ref (He.ma K C "__init__")))) && (decide (PySem.W.typeIn K (.ref (He.ma K C "__init__")) = some (.type "function")) && ((PySem.W.clsIn K C).isSome && (decide (PySem.W.findIn K (.ref C) "__getattribute__" = some (some (.builtin "BaseException.__getattribute__"))) &&
  (decide (PySem.W.findIn K (.ref C) "__getattr__" = some none) && (PySem.W.hasDictIn K C && (decide (PySem.W.findIn K (.ref C) "__class__" = some (some (.builtin "object.__class__"))) && (decide (PySem.W.specialIn K (.builtin "object.__class__") "__get__" = some (some (.builtin "getset_descriptor.__get__"))) &&
  (decide (PySem.W.takesIn K (.builtin "object.__class__") = some true) && decide (PySem.W.mroIn K C (.type "object") = some true))))))))))))))
theorem exB_ok {K : PySem.W.Frag} {C : Addr} (h : exB K C = true) : ExcT K C (He.ma K C "__init__") := by
  unfold exB at h
  obtain ⟨a1, h⟩ := He.ba h
  obtain ⟨a2, h⟩ := He.ba h
  obtain ⟨a3, h⟩ := He.ba h
  obtain ⟨a4, h⟩ := He.ba h
  obtain ⟨a5, h⟩ := He.ba h
  obtain ⟨a6, h⟩ := He.ba h
  obtain ⟨a7, h⟩ := He.ba h
  obtain ⟨a8, h⟩ := He.ba h
  obtain ⟨a9, h⟩ := He.ba h
  obtain ⟨b1, h⟩ := He.ba h
  obtain ⟨b2, h⟩ := He.ba h
  obtain ⟨b3, h⟩ := He.ba h
  obtain ⟨b4, h⟩ := He.ba h
  obtain ⟨b5, b6⟩ := He.ba h
  exact ⟨⟨oexB_ok a1, of_decide_eq_true a2, of_decide_eq_true a3, of_decide_eq_true a4, a5⟩, of_decide_eq_true a6, of_decide_eq_true a7, a8, of_decide_eq_true a9, of_decide_eq_true b1, b2, of_decide_eq_true b3, of_decide_eq_true b4, of_decide_eq_true b5, of_decide_eq_true b6⟩
end DL

/-! DL8: the functions that the head shows, by address; a law's promise over data. -/
namespace DL
open PySem PySem.Spec PyProof.Rows L2
/-- the function object at a -/
def fdAt (K : PySem.W.Frag) (a : Addr) : FuncData := match K.lookup a with
  | some ⟨_, _, .func fd, _⟩ => fd
  | _ => default
theorem fdAt_of {K : PySem.W.Frag} {x qual : Str} {params : Arguments} {body : List Stmt} {scope : Scope} {dvs : List V} {kws : List (Str × V)} {f : Addr} {fd : FuncData} (F : FunD K x qual params body scope dvs kws f fd) : fdAt K f = fd := by
  obtain ⟨oc, od, dV, kV, doc, pm, an, cdv, ct, osl, e, lk, _⟩ := F.ex
  unfold fdAt
  rw [lk]
theorem funAt {K : PySem.W.Frag} {x qual : Str} {params : Arguments} {body : List Stmt} {scope : Scope} {dvs : List V} {kws : List (Str × V)} {f : Addr} (h : ∃ fd, FunD K x qual params body scope dvs kws f fd) : FunD K x qual params body scope dvs kws f (fdAt K f) := by
  obtain ⟨fd, F⟩ := h
  rw [fdAt_of F]
  exact F
/-- the law's promise at a script -/
theorem law_sp {K : PySem.W.Frag} {R : List Dt → Dt → Prop} {n : Nat} (hR : ∀ ns : List Int, ns.length ≤ n → R [.lst (ns.map .int)] (.bl true)) (H : Hp) (a : Addr) (ns : List Int) (hl : ns.length ≤ n) (hS : SqL K H a (ns.map V.int)) : spD K R [.ref a] H (fun v _ => v = .bl true) fun _ _ _ => False := by
  have e : hid [] H = H := funext fun p => hid_out (List.not_mem_nil)
  refine ⟨[], [.lst (ns.map .int)], .bl true, fun p hp => absurd hp List.not_mem_nil, ?_, hR ns hl, fun v H' _ r => r⟩
  rw [e]
  exact ⟨.ref a, [], rfl, ⟨a, ns.map V.int, rfl, hS, reps_of_ints ns⟩, rfl⟩
end DL

namespace DL
open PySem PySem.Spec PyProof.Rows L2
local macro_rules | `(tactic| walk_at "sz") => `(tactic| (simp only [List.length_cons, List.length_nil]; exact sz_of100 (by decide)))
local macro_rules | `(tactic| walk_at "side") => `(tactic| first | assumption | omega | decide)
local macro_rules | `(tactic| walk_at "ix") => `(tactic| first | rfl | exact atI_head | assumption | walk_at "side")
local macro_rules | `(tactic| walk_at "rd") => `(tactic| first
  | exact RD2.l rd_int
  | exact rd_int | exact rd_intB
  | exact RD2.l rd_eqI | exact RD2.l rd_eqB | exact RD2.l rd_eqS
  | exact RD2.l rd_neI | exact RD2.l rd_neB | exact RD2.l rd_neS
  | exact rd_isB | exact rd_notB
  | (apply rd_ixTG; (· walk_at "ix"))
  | (apply rd_ixLG; (· walk_at "ix"))
  | (refine' RD2.l (rd_intC (CMul.lit ?_)); with_reducible decide)
  | (refine' RD2.l (rd_intC (CMul.litL ?_)); with_reducible decide)
  | exact rd_intC ⟨by decide, by decide, by decide⟩
  | exact rd_intC (cdiv_lit (by omega) (by omega))
  | (refine' RD2.r (RD2.l (rd_intC ?_)); walk_at "side")
  | (apply rd_intC; walk_at "side"))
local macro_rules | `(tactic| walk_at "rc") => `(tactic| first
  | exact rc_gcd | exact rc_abs | exact rc_int | exact rc_max2 | exact rc_min2 | exact rc_tuple | exact rc_tupleT
  | exact rc_isi (b := true) rfl (by decide +kernel) | exact rc_isi (b := false) rfl (by decide +kernel)
  | exact RDC.l (rc_len rfl) | exact RDC.l (rc_lenT rfl))
local macro_rules | `(tactic| walk_at "call") => `(tactic| (constructor <;> walk_at "side"))
local macro_rules | `(tactic| walk_at "da") => `(tactic| first
  | exact da_nil
  | (apply da_cons; (· walk_at "de"); (· walk_at "da")))
local macro_rules | `(tactic| walk_at "de") => `(tactic| first
  | exact de_int | exact de_bl | exact de_str | exact de_non | exact de_ty | exact de_ref
  | exact de_var rfl
  | (apply de_ixOwnS; (· rfl); (· walk_at "de"); (· walk_at "ix"))
  | (apply de_op; (· walk_at "de"); (· walk_at "de"); (· walk_at "rd"))
  | (apply de_un; (· walk_at "de"); (· exact ru_int))
  | exact de_lenOwnG rfl rfl
  | exact de_tupOwn rfl
  | (apply de_cb; (· walk_at "da"); (· walk_at "rc"))
  | (apply de_tup; (· walk_at "da"); (· walk_at "sz"))
  | (apply de_call0; (· walk_at "da"); (· walk_at "call"))
  | (apply de_andB; (· walk_at "de"); (· (intro _; walk_at "de")))
  | (apply de_orB; (· walk_at "de"); (· (intro _; walk_at "de")))
  | (apply de_notV; walk_at "de")
  | (apply de_isN; walk_at "de")
  | (apply de_notN; walk_at "de")
  | (apply DL.de; walk_at "dl"))
local macro_rules | `(tactic| walk_at "dl") => `(tactic| first
  | (apply dl_lst; (· walk_at "da"); (· walk_at "sz"))
  | (apply dl_sl; (· walk_at "de"); (· walk_at "do"); (· walk_at "do"))
  | (apply dl_cb; (· walk_at "da"); (· first | exact rc_list | exact rc_listT)))
local macro_rules | `(tactic| walk_at "do") => `(tactic| first
  | exact do_none
  | (apply do_some; walk_at "de"))
local macro_rules | `(tactic| walk_at "dt") => `(tactic| first
  | (apply dt_test; walk_at "de")
  | (apply dt_B; walk_at "de")
  | (apply dt_and; (· walk_at "dt"); (· (intro _; walk_at "dt")))
  | (apply dt_or; (· walk_at "dt"); (· (intro _; walk_at "dt")))
  | (apply dt_not; walk_at "dt"))
local macro_rules | `(tactic| walk_at "norm") => `(tactic| try dsimp only [List.set_cons_zero, List.set_cons_succ, List.nil_append, List.append_nil])
local macro_rules | `(tactic| walk_at "s") => `(tactic| first
  | (apply s_set; (· walk_at "de"); walk_at "norm")
  | (apply s_append; (· rfl); (· walk_at "de"); (· walk_at "side"); walk_at "norm")
  | (apply s_setIx; (· rfl); (· walk_at "de"); (· walk_at "de"); (· walk_at "ix"); walk_at "norm")
  | (apply s_augI; (· rfl); (· walk_at "de"); walk_at "norm")
  | (apply s_drop; (· walk_at "de"); walk_at "norm")
  | (apply s_par; (· walk_at "da"); walk_at "norm"))
local macro_rules | `(tactic| walk_at "own") => `(tactic| (apply s_setOwn; (· walk_at "dl"); walk_at "norm"))
local macro_rules | `(tactic| walk_at "e") => `(tactic| first
  | (apply es_set; (· walk_at "de"); walk_at "norm")
  | (apply es_append; (· rfl); (· walk_at "de"); (· walk_at "side"); walk_at "norm")
  | (apply es_setIx; (· rfl); (· walk_at "de"); (· walk_at "de"); (· walk_at "ix"); walk_at "norm")
  | (apply es_augI; (· rfl); (· walk_at "de"); walk_at "norm")
  | (apply es_par; (· walk_at "da"); walk_at "norm")
  | (apply es_ret; (· walk_at "de"))
  | apply es_next)
local macro_rules | `(tactic| walk_at "if") => `(tactic| (apply s_if; (· walk_at "dt")))
local macro_rules | `(tactic| walk_at "wk") => `(tactic| repeat (first | exact Wk.nil | apply Wk.any | apply Wk.same | apply Wk.give))
def topS (i : Nat) : Stmt := PySem.Challenge.pw_marketscleared_k00_fraction_arithmetic.main.body.getD i (.Pass ⟨0, 0, 0, 0⟩)
abbrev s_fraction : Stmt := topS 6
abbrev N_fraction : List Str := ["num", "den", "common"]
theorem sc_fraction : FnScope N_fraction ["num", "den"] (defScope s_fraction) := ⟨rfl, rfl, rfl, by decide +kernel, rfl, by decide +kernel, by decide +kernel⟩
abbrev s_add : Stmt := topS 7
abbrev N_add : List Str := ["first", "second"]
theorem sc_add : FnScope N_add ["first", "second"] (defScope s_add) := ⟨rfl, rfl, rfl, by decide +kernel, rfl, by decide +kernel, by decide +kernel⟩
abbrev s_subtract : Stmt := topS 8
abbrev N_subtract : List Str := ["first", "second"]
theorem sc_subtract : FnScope N_subtract ["first", "second"] (defScope s_subtract) := ⟨rfl, rfl, rfl, by decide +kernel, rfl, by decide +kernel, by decide +kernel⟩
abbrev s_multiply : Stmt := topS 9
abbrev N_multiply : List Str := ["first", "second"]
theorem sc_multiply : FnScope N_multiply ["first", "second"] (defScope s_multiply) := ⟨rfl, rfl, rfl, by decide +kernel, rfl, by decide +kernel, by decide +kernel⟩
abbrev s_divide : Stmt := topS 10
abbrev N_divide : List Str := ["first", "second"]
theorem sc_divide : FnScope N_divide ["first", "second"] (defScope s_divide) := ⟨rfl, rfl, rfl, by decide +kernel, rfl, by decide +kernel, by decide +kernel⟩
abbrev s_less : Stmt := topS 11
abbrev N_less : List Str := ["first", "second"]
theorem sc_less : FnScope N_less ["first", "second"] (defScope s_less) := ⟨rfl, rfl, rfl, by decide +kernel, rfl, by decide +kernel, by decide +kernel⟩
abbrev s_total : Stmt := topS 12
abbrev N_total : List Str := ["values", "num", "den", "value", "common"]
theorem sc_total : FnScope N_total ["values"] (defScope s_total) := ⟨rfl, rfl, rfl, by decide +kernel, rfl, by decide +kernel, by decide +kernel⟩
abbrev s_dot : Stmt := topS 13
abbrev N_dot : List Str := ["first", "second", "a", "b"]
theorem sc_dot : FnScope N_dot ["first", "second"] (defScope s_dot) := ⟨rfl, rfl, rfl, by decide +kernel, rfl, by decide +kernel, by decide +kernel⟩
abbrev s_largest : Stmt := topS 14
abbrev N_largest : List Str := ["values", "best", "value"]
theorem sc_largest : FnScope N_largest ["values"] (defScope s_largest) := ⟨rfl, rfl, rfl, by decide +kernel, rfl, by decide +kernel, by decide +kernel⟩
abbrev s_smallest : Stmt := topS 15
abbrev N_smallest : List Str := ["values", "best", "value"]
theorem sc_smallest : FnScope N_smallest ["values"] (defScope s_smallest) := ⟨rfl, rfl, rfl, by decide +kernel, rfl, by decide +kernel, by decide +kernel⟩
abbrev s__law_cell : Stmt := topS 17
abbrev N__law_cell : List Str := ["script", "k"]
theorem sc__law_cell : FnScope N__law_cell ["script", "k"] (defScope s__law_cell) := ⟨rfl, rfl, rfl, by decide +kernel, rfl, by decide +kernel, by decide +kernel⟩
abbrev s__law_digits : Stmt := topS 18
abbrev N__law_digits : List Str := ["cell", "base", "count", "row", "rest", "t"]
theorem sc__law_digits : FnScope N__law_digits ["cell", "base", "count"] (defScope s__law_digits) := ⟨rfl, rfl, rfl, by decide +kernel, rfl, by decide +kernel, by decide +kernel⟩
abbrev s__law_gcd : Stmt := topS 19
abbrev N__law_gcd : List Str := ["first", "second", "k", "rest"]
theorem sc__law_gcd : FnScope N__law_gcd ["first", "second"] (defScope s__law_gcd) := ⟨rfl, rfl, rfl, by decide +kernel, rfl, by decide +kernel, by decide +kernel⟩
abbrev s__law_lowest : Stmt := topS 20
abbrev N__law_lowest : List Str := ["num", "den", "common"]
theorem sc__law_lowest : FnScope N__law_lowest ["num", "den"] (defScope s__law_lowest) := ⟨rfl, rfl, rfl, by decide +kernel, rfl, by decide +kernel, by decide +kernel⟩
abbrev s__law_is_integer : Stmt := topS 21
abbrev N__law_is_integer : List Str := ["value"]
theorem sc__law_is_integer : FnScope N__law_is_integer ["value"] (defScope s__law_is_integer) := ⟨rfl, rfl, rfl, by decide +kernel, rfl, by decide +kernel, by decide +kernel⟩
abbrev s__law_same : Stmt := topS 22
abbrev N__law_same : List Str := ["value", "due"]
theorem sc__law_same : FnScope N__law_same ["value", "due"] (defScope s__law_same) := ⟨rfl, rfl, rfl, by decide +kernel, rfl, by decide +kernel, by decide +kernel⟩
abbrev s__law_pair : Stmt := topS 23
abbrev N__law_pair : List Str := ["cell", "wide", "row", "num", "den"]
theorem sc__law_pair : FnScope N__law_pair ["cell", "wide"] (defScope s__law_pair) := ⟨rfl, rfl, rfl, by decide +kernel, rfl, by decide +kernel, by decide +kernel⟩
abbrev s__law_place : Stmt := topS 24
abbrev N__law_place : List Str := ["error"]
theorem sc__law_place : FnScope N__law_place ["error"] (defScope s__law_place) := ⟨rfl, rfl, rfl, by decide +kernel, rfl, by decide +kernel, by decide +kernel⟩
abbrev s__law_zero_denominator : Stmt := topS 25
abbrev N__law_zero_denominator : List Str := ["num", "e"]
theorem sc__law_zero_denominator : FnScope N__law_zero_denominator ["num"] (defScope s__law_zero_denominator) := ⟨rfl, rfl, rfl, by decide +kernel, rfl, by decide +kernel, by decide +kernel⟩
abbrev s__law_zero_divisor : Stmt := topS 26
abbrev N__law_zero_divisor : List Str := ["value", "e"]
theorem sc__law_zero_divisor : FnScope N__law_zero_divisor ["value"] (defScope s__law_zero_divisor) := ⟨rfl, rfl, rfl, by decide +kernel, rfl, by decide +kernel, by decide +kernel⟩
abbrev s__law_flag : Stmt := topS 27
abbrev N__law_flag : List Str := ["value", "due"]
theorem sc__law_flag : FnScope N__law_flag ["value", "due"] (defScope s__law_flag) := ⟨rfl, rfl, rfl, by decide +kernel, rfl, by decide +kernel, by decide +kernel⟩
abbrev s__law_two : Stmt := topS 28
abbrev N__law_two : List Str := ["first", "second", "due", "num", "den", "below", "above"]
theorem sc__law_two : FnScope N__law_two ["first", "second"] (defScope s__law_two) := ⟨rfl, rfl, rfl, by decide +kernel, rfl, by decide +kernel, by decide +kernel⟩
abbrev s__law_sum : Stmt := topS 29
abbrev N__law_sum : List Str := ["values", "num", "den", "value"]
theorem sc__law_sum : FnScope N__law_sum ["values"] (defScope s__law_sum) := ⟨rfl, rfl, rfl, by decide +kernel, rfl, by decide +kernel, by decide +kernel⟩
abbrev s__law_ends : Stmt := topS 30
abbrev N__law_ends : List Str := ["values", "low", "high", "value"]
theorem sc__law_ends : FnScope N__law_ends ["values"] (defScope s__law_ends) := ⟨rfl, rfl, rfl, by decide +kernel, rfl, by decide +kernel, by decide +kernel⟩
abbrev s_law : Stmt := topS 31
abbrev N_law : List Str := ["script", "wide", "pairs", "k", "own", "pair", "num", "den", "size", "values", "others", "products", "ends"]
theorem sc_law : FnScope N_law ["script"] (defScope s_law) := ⟨rfl, rfl, rfl, by decide +kernel, rfl, by decide +kernel, by decide +kernel⟩
abbrev si_BadNumber : Stmt := inClass (topS 3) 0
theorem sci_BadNumber : FnScope ["self", "place"] ["self", "place"] (defScope si_BadNumber) := ⟨rfl, rfl, rfl, by decide +kernel, rfl, by decide +kernel, by decide +kernel⟩
structure Txt (K : PySem.W.Frag) (mg : Str → Option Value) : Prop where
  g_fraction : mg "fraction" = some (.ref (He.ga K "fraction"))
  F_fraction : FunD K "fraction" "fraction" (defArgs s_fraction) (defBody s_fraction) (defScope s_fraction) [.int 1] [] (He.ga K "fraction") (fdAt K (He.ga K "fraction"))
  g_add : mg "add" = some (.ref (He.ga K "add"))
  F_add : FunD K "add" "add" (defArgs s_add) (defBody s_add) (defScope s_add) [] [] (He.ga K "add") (fdAt K (He.ga K "add"))
  g_subtract : mg "subtract" = some (.ref (He.ga K "subtract"))
  F_subtract : FunD K "subtract" "subtract" (defArgs s_subtract) (defBody s_subtract) (defScope s_subtract) [] [] (He.ga K "subtract") (fdAt K (He.ga K "subtract"))
  g_multiply : mg "multiply" = some (.ref (He.ga K "multiply"))
  F_multiply : FunD K "multiply" "multiply" (defArgs s_multiply) (defBody s_multiply) (defScope s_multiply) [] [] (He.ga K "multiply") (fdAt K (He.ga K "multiply"))
  g_divide : mg "divide" = some (.ref (He.ga K "divide"))
  F_divide : FunD K "divide" "divide" (defArgs s_divide) (defBody s_divide) (defScope s_divide) [] [] (He.ga K "divide") (fdAt K (He.ga K "divide"))
  g_less : mg "less" = some (.ref (He.ga K "less"))
  F_less : FunD K "less" "less" (defArgs s_less) (defBody s_less) (defScope s_less) [] [] (He.ga K "less") (fdAt K (He.ga K "less"))
  g_total : mg "total" = some (.ref (He.ga K "total"))
  F_total : FunD K "total" "total" (defArgs s_total) (defBody s_total) (defScope s_total) [] [] (He.ga K "total") (fdAt K (He.ga K "total"))
  g_dot : mg "dot" = some (.ref (He.ga K "dot"))
  F_dot : FunD K "dot" "dot" (defArgs s_dot) (defBody s_dot) (defScope s_dot) [] [] (He.ga K "dot") (fdAt K (He.ga K "dot"))
  g_largest : mg "largest" = some (.ref (He.ga K "largest"))
  F_largest : FunD K "largest" "largest" (defArgs s_largest) (defBody s_largest) (defScope s_largest) [] [] (He.ga K "largest") (fdAt K (He.ga K "largest"))
  g_smallest : mg "smallest" = some (.ref (He.ga K "smallest"))
  F_smallest : FunD K "smallest" "smallest" (defArgs s_smallest) (defBody s_smallest) (defScope s_smallest) [] [] (He.ga K "smallest") (fdAt K (He.ga K "smallest"))
  g__law_cell : mg "_law_cell" = some (.ref (He.ga K "_law_cell"))
  F__law_cell : FunD K "_law_cell" "_law_cell" (defArgs s__law_cell) (defBody s__law_cell) (defScope s__law_cell) [] [] (He.ga K "_law_cell") (fdAt K (He.ga K "_law_cell"))
  g__law_digits : mg "_law_digits" = some (.ref (He.ga K "_law_digits"))
  F__law_digits : FunD K "_law_digits" "_law_digits" (defArgs s__law_digits) (defBody s__law_digits) (defScope s__law_digits) [] [] (He.ga K "_law_digits") (fdAt K (He.ga K "_law_digits"))
  g__law_gcd : mg "_law_gcd" = some (.ref (He.ga K "_law_gcd"))
  F__law_gcd : FunD K "_law_gcd" "_law_gcd" (defArgs s__law_gcd) (defBody s__law_gcd) (defScope s__law_gcd) [] [] (He.ga K "_law_gcd") (fdAt K (He.ga K "_law_gcd"))
  g__law_lowest : mg "_law_lowest" = some (.ref (He.ga K "_law_lowest"))
  F__law_lowest : FunD K "_law_lowest" "_law_lowest" (defArgs s__law_lowest) (defBody s__law_lowest) (defScope s__law_lowest) [] [] (He.ga K "_law_lowest") (fdAt K (He.ga K "_law_lowest"))
  g__law_is_integer : mg "_law_is_integer" = some (.ref (He.ga K "_law_is_integer"))
  F__law_is_integer : FunD K "_law_is_integer" "_law_is_integer" (defArgs s__law_is_integer) (defBody s__law_is_integer) (defScope s__law_is_integer) [] [] (He.ga K "_law_is_integer") (fdAt K (He.ga K "_law_is_integer"))
  g__law_same : mg "_law_same" = some (.ref (He.ga K "_law_same"))
  F__law_same : FunD K "_law_same" "_law_same" (defArgs s__law_same) (defBody s__law_same) (defScope s__law_same) [] [] (He.ga K "_law_same") (fdAt K (He.ga K "_law_same"))
  g__law_pair : mg "_law_pair" = some (.ref (He.ga K "_law_pair"))
  F__law_pair : FunD K "_law_pair" "_law_pair" (defArgs s__law_pair) (defBody s__law_pair) (defScope s__law_pair) [] [] (He.ga K "_law_pair") (fdAt K (He.ga K "_law_pair"))
  g__law_place : mg "_law_place" = some (.ref (He.ga K "_law_place"))
  F__law_place : FunD K "_law_place" "_law_place" (defArgs s__law_place) (defBody s__law_place) (defScope s__law_place) [] [] (He.ga K "_law_place") (fdAt K (He.ga K "_law_place"))
  g__law_zero_denominator : mg "_law_zero_denominator" = some (.ref (He.ga K "_law_zero_denominator"))
  F__law_zero_denominator : FunD K "_law_zero_denominator" "_law_zero_denominator" (defArgs s__law_zero_denominator) (defBody s__law_zero_denominator) (defScope s__law_zero_denominator) [] [] (He.ga K "_law_zero_denominator") (fdAt K (He.ga K "_law_zero_denominator"))
  g__law_zero_divisor : mg "_law_zero_divisor" = some (.ref (He.ga K "_law_zero_divisor"))
  F__law_zero_divisor : FunD K "_law_zero_divisor" "_law_zero_divisor" (defArgs s__law_zero_divisor) (defBody s__law_zero_divisor) (defScope s__law_zero_divisor) [] [] (He.ga K "_law_zero_divisor") (fdAt K (He.ga K "_law_zero_divisor"))
  g__law_flag : mg "_law_flag" = some (.ref (He.ga K "_law_flag"))
  F__law_flag : FunD K "_law_flag" "_law_flag" (defArgs s__law_flag) (defBody s__law_flag) (defScope s__law_flag) [] [] (He.ga K "_law_flag") (fdAt K (He.ga K "_law_flag"))
  g__law_two : mg "_law_two" = some (.ref (He.ga K "_law_two"))
  F__law_two : FunD K "_law_two" "_law_two" (defArgs s__law_two) (defBody s__law_two) (defScope s__law_two) [] [] (He.ga K "_law_two") (fdAt K (He.ga K "_law_two"))
  g__law_sum : mg "_law_sum" = some (.ref (He.ga K "_law_sum"))
  F__law_sum : FunD K "_law_sum" "_law_sum" (defArgs s__law_sum) (defBody s__law_sum) (defScope s__law_sum) [] [] (He.ga K "_law_sum") (fdAt K (He.ga K "_law_sum"))
  g__law_ends : mg "_law_ends" = some (.ref (He.ga K "_law_ends"))
  F__law_ends : FunD K "_law_ends" "_law_ends" (defArgs s__law_ends) (defBody s__law_ends) (defScope s__law_ends) [] [] (He.ga K "_law_ends") (fdAt K (He.ga K "_law_ends"))
  g_law : mg "law" = some (.ref (He.ga K "law"))
  F_law : FunD K "law" "law" (defArgs s_law) (defBody s_law) (defScope s_law) [] [] (He.ga K "law") (fdAt K (He.ga K "law"))
  g_MarketError : mg "MarketError" = some (.ref (He.ga K "MarketError"))
  g_BadNumber : mg "BadNumber" = some (.ref (He.ga K "BadNumber"))
  g_BadShape : mg "BadShape" = some (.ref (He.ga K "BadShape"))
  z_ValueError : mg "ValueError" = none
  z_abs : mg "abs" = none
  z_bool : mg "bool" = none
  z_int : mg "int" = none
  z_isinstance : mg "isinstance" = none
  z_len : mg "len" = none
  z_list : mg "list" = none
  z_max : mg "max" = none
  z_range : mg "range" = none
  z_tuple : mg "tuple" = none
  z_zip : mg "zip" = none
  m_gcd : mg "gcd" = some (.builtin "math.gcd")
  x_BadNumber : ExcT K (He.ga K "BadNumber") (He.ma K (He.ga K "BadNumber") "__init__")
  FI_BadNumber : FunD K "__init__" "BadNumber.__init__" (defArgs si_BadNumber) (defBody si_BadNumber) (defScope si_BadNumber) [] [] (He.ma K (He.ga K "BadNumber") "__init__") (fdAt K (He.ma K (He.ga K "BadNumber") "__init__"))
  n_BadNumber_place : PySem.W.findIn K (.ref (He.ga K "BadNumber")) "place" = some none
  k_BadNumber_MarketError : PySem.W.kitOne K (.ref (He.ga K "BadNumber")) (.ref (He.ga K "MarketError")) = some true
  k_BadNumber_ValueError : PySem.W.kitOne K (.ref (He.ga K "BadNumber")) (.type "ValueError") = some true
  k_BadNumber_BadShape : PySem.W.kitOne K (.ref (He.ga K "BadNumber")) (.ref (He.ga K "BadShape")) = some false
  e_BadNumber_BadNumber : PySem.W.exmOne K (.ref (He.ga K "BadNumber")) (.ref (He.ga K "BadNumber")) = some true

section
variable {P : Program} {w : World} {K : PySem.W.Frag} {mg : Str → Option Value} {base : Heap}
theorem b0_fraction (T : Txt K mg) : ∃ ds, Vals (([.int 1] : List V).drop 1) ds ∧ Binds K (fdAt K (He.ga K "fraction")) ["num", "den"] ds := T.F_fraction.binds1 2 1 (List.cons_ne_nil _ _) rfl fun _ _ _ _ _ _ _ us its h1 h2 => match us, its, h1, h2 with | [_, _], [_], _, _ => ⟨_, rfl, rfl⟩
theorem b1_fraction (T : Txt K mg) : ∃ ds, Vals (([.int 1] : List V).drop 0) ds ∧ Binds K (fdAt K (He.ga K "fraction")) ["num", "den"] ds := T.F_fraction.binds1 1 0 (List.cons_ne_nil _ _) rfl fun _ _ _ _ _ _ _ us its h1 h2 => match us, its, h1, h2 with | [_], [_], _, _ => ⟨_, rfl, rfl⟩
theorem b_add (T : Txt K mg) : Binds K (fdAt K (He.ga K "add")) ["first", "second"] [] := T.F_add.bindsN fun _ _ _ _ _ _ us hl => match us, hl with | [_, _], _ => rfl
theorem b_subtract (T : Txt K mg) : Binds K (fdAt K (He.ga K "subtract")) ["first", "second"] [] := T.F_subtract.bindsN fun _ _ _ _ _ _ us hl => match us, hl with | [_, _], _ => rfl
theorem b_multiply (T : Txt K mg) : Binds K (fdAt K (He.ga K "multiply")) ["first", "second"] [] := T.F_multiply.bindsN fun _ _ _ _ _ _ us hl => match us, hl with | [_, _], _ => rfl
theorem b_divide (T : Txt K mg) : Binds K (fdAt K (He.ga K "divide")) ["first", "second"] [] := T.F_divide.bindsN fun _ _ _ _ _ _ us hl => match us, hl with | [_, _], _ => rfl
theorem b_less (T : Txt K mg) : Binds K (fdAt K (He.ga K "less")) ["first", "second"] [] := T.F_less.bindsN fun _ _ _ _ _ _ us hl => match us, hl with | [_, _], _ => rfl
theorem b_total (T : Txt K mg) : Binds K (fdAt K (He.ga K "total")) ["values"] [] := T.F_total.bindsN fun _ _ _ _ _ _ us hl => match us, hl with | [_], _ => rfl
theorem b_dot (T : Txt K mg) : Binds K (fdAt K (He.ga K "dot")) ["first", "second"] [] := T.F_dot.bindsN fun _ _ _ _ _ _ us hl => match us, hl with | [_, _], _ => rfl
theorem b_largest (T : Txt K mg) : Binds K (fdAt K (He.ga K "largest")) ["values"] [] := T.F_largest.bindsN fun _ _ _ _ _ _ us hl => match us, hl with | [_], _ => rfl
theorem b_smallest (T : Txt K mg) : Binds K (fdAt K (He.ga K "smallest")) ["values"] [] := T.F_smallest.bindsN fun _ _ _ _ _ _ us hl => match us, hl with | [_], _ => rfl
theorem b__law_cell (T : Txt K mg) : Binds K (fdAt K (He.ga K "_law_cell")) ["script", "k"] [] := T.F__law_cell.bindsN fun _ _ _ _ _ _ us hl => match us, hl with | [_, _], _ => rfl
theorem b__law_digits (T : Txt K mg) : Binds K (fdAt K (He.ga K "_law_digits")) ["cell", "base", "count"] [] := T.F__law_digits.bindsN fun _ _ _ _ _ _ us hl => match us, hl with | [_, _, _], _ => rfl
theorem b__law_gcd (T : Txt K mg) : Binds K (fdAt K (He.ga K "_law_gcd")) ["first", "second"] [] := T.F__law_gcd.bindsN fun _ _ _ _ _ _ us hl => match us, hl with | [_, _], _ => rfl
theorem b__law_lowest (T : Txt K mg) : Binds K (fdAt K (He.ga K "_law_lowest")) ["num", "den"] [] := T.F__law_lowest.bindsN fun _ _ _ _ _ _ us hl => match us, hl with | [_, _], _ => rfl
theorem b__law_is_integer (T : Txt K mg) : Binds K (fdAt K (He.ga K "_law_is_integer")) ["value"] [] := T.F__law_is_integer.bindsN fun _ _ _ _ _ _ us hl => match us, hl with | [_], _ => rfl
theorem b__law_same (T : Txt K mg) : Binds K (fdAt K (He.ga K "_law_same")) ["value", "due"] [] := T.F__law_same.bindsN fun _ _ _ _ _ _ us hl => match us, hl with | [_, _], _ => rfl
theorem b__law_pair (T : Txt K mg) : Binds K (fdAt K (He.ga K "_law_pair")) ["cell", "wide"] [] := T.F__law_pair.bindsN fun _ _ _ _ _ _ us hl => match us, hl with | [_, _], _ => rfl
theorem b__law_place (T : Txt K mg) : Binds K (fdAt K (He.ga K "_law_place")) ["error"] [] := T.F__law_place.bindsN fun _ _ _ _ _ _ us hl => match us, hl with | [_], _ => rfl
theorem b__law_zero_denominator (T : Txt K mg) : Binds K (fdAt K (He.ga K "_law_zero_denominator")) ["num"] [] := T.F__law_zero_denominator.bindsN fun _ _ _ _ _ _ us hl => match us, hl with | [_], _ => rfl
theorem b__law_zero_divisor (T : Txt K mg) : Binds K (fdAt K (He.ga K "_law_zero_divisor")) ["value"] [] := T.F__law_zero_divisor.bindsN fun _ _ _ _ _ _ us hl => match us, hl with | [_], _ => rfl
theorem b__law_flag (T : Txt K mg) : Binds K (fdAt K (He.ga K "_law_flag")) ["value", "due"] [] := T.F__law_flag.bindsN fun _ _ _ _ _ _ us hl => match us, hl with | [_, _], _ => rfl
theorem b__law_two (T : Txt K mg) : Binds K (fdAt K (He.ga K "_law_two")) ["first", "second"] [] := T.F__law_two.bindsN fun _ _ _ _ _ _ us hl => match us, hl with | [_, _], _ => rfl
theorem b__law_sum (T : Txt K mg) : Binds K (fdAt K (He.ga K "_law_sum")) ["values"] [] := T.F__law_sum.bindsN fun _ _ _ _ _ _ us hl => match us, hl with | [_], _ => rfl
theorem b__law_ends (T : Txt K mg) : Binds K (fdAt K (He.ga K "_law_ends")) ["values"] [] := T.F__law_ends.bindsN fun _ _ _ _ _ _ us hl => match us, hl with | [_], _ => rfl
theorem b_law (T : Txt K mg) : Binds K (fdAt K (He.ga K "law")) ["script"] [] := T.F_law.bindsN fun _ _ _ _ _ _ us hl => match us, hl with | [_], _ => rfl
theorem bi_BadNumber (T : Txt K mg) : Binds K (fdAt K (He.ma K (He.ga K "BadNumber") "__init__")) ["self", "place"] [] := T.FI_BadNumber.bindsN fun _ _ _ _ _ _ us hl => match us, hl with | [_, _], _ => rfl
theorem init_BadNumber (T : Txt K mg) : FnOk P w K mg base CX0 1 (He.ma K (He.ga K "BadNumber") "__init__") (fdAt K (He.ma K (He.ga K "BadNumber") "__init__")) ["self", "place"] (spI1 (He.ga K "BadNumber") "place") := init_ok T.FI_BadNumber sci_BadNumber rfl T.x_BadNumber.o T.n_BadNumber_place fun _ _ _ _ _ _ => pss_one (ps_ost (pv 0) (pv 1))
theorem okR_fraction (T : Txt K mg) : FnOk P w K mg base (L2.CX P w) 3 (He.ga K "fraction") (fdAt K (He.ga K "fraction")) ["num", "den"] (spR K (RX_fraction (He.ga K "BadNumber"))) := by
  refine T.F_fraction.ok sc_fraction (fun vs H Q E h => ?_) (fun cdv A outer s H vs Q E hr h => ?_)
  · obtain ⟨_, _, _, _, _, r, hR, _⟩ := h
    exact r.length.trans (by cases hR; rfl)
  · refine ⟨_, (pss_cons (ps_if (pt_cmpR (op_eqK (K := K) rfl hr.units) (pv 1) pe_int (nomark _)) (pss_one (ps_raise1 rfl (takes_of rfl rfl rfl rfl) T.x_BadNumber (init_BadNumber T) (hr.mono (by decide)) (bi_BadNumber T) (by rfl) T.g_BadNumber (pa_cons pe_str pa_nil))) pss_nil)
    (pss_cons (ps_if (pt_cmpR op_lt (pv 1) pe_int (nomark _)) (pss_cons (ps_set (i := 0) sc_fraction.nd rfl (by first | exact Or.inl rfl | exact Or.inr rfl) (pe_un un_neg (pv 0)))
    (pss_one (ps_set (i := 1) sc_fraction.nd rfl (by first | exact Or.inl rfl | exact Or.inr rfl) (pe_un un_neg (pv 1))))) pss_nil)
    (pss_cons (ps_set (i := 2) sc_fraction.nd rfl (by first | exact Or.inl rfl | exact Or.inr rfl) (pe_callBfun cr_gcd (by rfl) T.m_gcd (pa_cons (pv 0) (pa_cons (pv 1) pa_nil))))
    (pss_one (ps_ret (pe_tup (pa_cons (pe_op op_fdivW (pv 0) (pv 2)) (pa_cons (pe_op op_fdivW (pv 1) (pv 2)) pa_nil)))))))), body_okR h fun ds C fs hR => ?_⟩
    obtain ⟨a⟩ := hR
    show ES K _ _ [.dat (.int a), .dat (.int 0), .any] _
    apply es_seq
    refine es_ifT (dt_is (b := true) (by walk_at "dt") (by rfl)) ?_
    apply es_raise
    · walk_at "da"
    · exact ⟨rfl, rfl⟩
theorem ok_fraction (T : Txt K mg) : FnOk P w K mg base CX0 1 (He.ga K "fraction") (fdAt K (He.ga K "fraction")) ["num", "den"] (spD K R_fraction) := by
  refine T.F_fraction.ok sc_fraction (fun vs H Q E h => ?_) (fun cdv A outer s H vs Q E hr h => ?_)
  · obtain ⟨_, _, _, _, r, hR, _⟩ := h
    exact r.length.trans (by cases hR; rfl)
  · refine ⟨_, PSs.nox (pss_cons (ps_if (pt_cmpR (op_eqK (K := K) rfl hr.units) (pv 1) pe_int (nomark _)) (pss_one ps_never) pss_nil)
    (pss_cons (ps_if (pt_cmpR op_lt (pv 1) pe_int (nomark _)) (pss_cons (ps_set (i := 0) sc_fraction.nd rfl (by first | exact Or.inl rfl | exact Or.inr rfl) (pe_un un_neg (pv 0)))
    (pss_one (ps_set (i := 1) sc_fraction.nd rfl (by first | exact Or.inl rfl | exact Or.inr rfl) (pe_un un_neg (pv 1))))) pss_nil)
    (pss_cons (ps_set (i := 2) sc_fraction.nd rfl (by first | exact Or.inl rfl | exact Or.inr rfl) (pe_callBfun cr_gcd (by rfl) T.m_gcd (pa_cons (pv 0) (pa_cons (pv 1) pa_nil))))
    (pss_one (ps_ret (pe_tup (pa_cons (pe_op op_fdivW (pv 0) (pv 2)) (pa_cons (pe_op op_fdivW (pv 1) (pv 2)) pa_nil)))))))), body_ok h fun ds d hR => ?_⟩
    obtain ⟨a, b, h0, hb⟩ := hR
    refine body_mk (ρ := [.dat (.int a), .dat (.int b), .any]) rfl ?_
    refine s_ifF (dt_is (b := false) (by walk_at "dt") (decide_eq_false h0)) (es_next' ?_)
    refine s_ifJ [.dat (.int (if b < 0 then -a else a)), .dat (.int (if b < 0 then -b else b)), .any] (by walk_at "dt") (fun hb => ?_) (fun hb => ?_) ?_
    · have hb' := of_decide_eq_true hb
      walk_at "s"
      walk_at "e"
      rw [if_pos hb', if_pos hb']
      exact Wk.refl _
    · have hb' := of_decide_eq_false hb
      walk_at "e"
      rw [if_neg hb', if_neg hb']
      exact Wk.refl _
    have hp : 0 < (if b < 0 then -b else b) := by split <;> omega
    have hs : (if b < 0 then -b else b).natAbs < 2 ^ 9000 := by
      split
      · rw [Int.natAbs_neg]; exact hb
      · exact hb
    have hg := fun i => gcd_div (a := if b < 0 then -a else a) (b := if b < 0 then -b else b) (i := i) (by omega) hs
    walk_at "s"
    refine es_ret (de_is (by
      apply de_tup
      · apply da_cons
        · apply de_op
          · walk_at "de"
          · walk_at "de"
          · exact rd_intC (hg _)
        · apply da_cons
          · apply de_op
            · walk_at "de"
            · walk_at "de"
            · exact rd_intC (hg _)
          · exact da_nil
      · walk_at "sz") ?_) rfl
    rw [← low_any _ _ hp]
    split
    · rw [Rat.divInt_neg', Int.neg_neg] <;> rfl
    · rfl
theorem ok_add (T : Txt K mg) : FnOk P w K mg base CX0 2 (He.ga K "add") (fdAt K (He.ga K "add")) ["first", "second"] (spD K R_add) := by
  refine T.F_add.ok sc_add (fun vs H Q E h => ?_) (fun cdv A outer s H vs Q E hr h => ?_)
  · obtain ⟨_, _, _, _, r, hR, _⟩ := h
    exact r.length.trans (by cases hR; rfl)
  · obtain ⟨_, v0_fraction, b0_fraction⟩ := b0_fraction T
    refine ⟨_, PSs.nox (pss_one (ps_ret (pe_call (ok_fraction T) (hr.mono (by decide)) (by rfl) T.g_fraction T.F_fraction.kp b0_fraction v0_fraction pass0 (pa_cons (pe_op (op_addK (K := K) rfl) (pe_op op_mulG (pe_ix (ix_seqK (K := K) rfl) (pv 0) pe_int (fun _ _ => rfl)) (pe_ix (ix_seqK (K := K) rfl) (pv 1) pe_int (fun _ _ => rfl))) (pe_op op_mulG (pe_ix (ix_seqK (K := K) rfl) (pv 1) pe_int (fun _ _ => rfl)) (pe_ix (ix_seqK (K := K) rfl) (pv 0) pe_int (fun _ _ => rfl)))) (pa_cons (pe_op op_mulG (pe_ix (ix_seqK (K := K) rfl) (pv 0) pe_int (fun _ _ => rfl)) (pe_ix (ix_seqK (K := K) rfl) (pv 1) pe_int (fun _ _ => rfl))) pa_nil))))), body_ok h fun ds d hR => ?_⟩
    obtain ⟨a, b, ha, hb⟩ := hR
    refine body_mk (ρ := [.dat (fq a), .dat (fq b)]) rfl ?_
    have h1 := cmul_of (i := a.num) (j := (b.den : Int)) (n := 4000) ha.nu (by rw [Int.natAbs_natCast]; exact hb.de) (by decide) (by decide)
    have h2 := cmul_of (i := b.num) (j := (a.den : Int)) (n := 4000) hb.nu (by rw [Int.natAbs_natCast]; exact ha.de) (by decide) (by decide)
    have h3 := cmul_of (i := (a.den : Int)) (j := (b.den : Int)) (n := 4000) (by rw [Int.natAbs_natCast]; exact ha.de) (by rw [Int.natAbs_natCast]; exact hb.de) (by decide) (by decide)
    have h4 := cmul_of (i := a.num) (j := b.num) (n := 4000) ha.nu hb.nu (by decide) (by decide)
    have h5 : ((a.den : Int) * (b.den : Int)).natAbs < 2 ^ 9000 := by
      rw [Int.natAbs_mul, Int.natAbs_natCast, Int.natAbs_natCast]
      exact pow_le_of (mul_lt_pow ha.de hb.de) (by decide)
    have h6 : (a.den : Int) * (b.den : Int) ≠ 0 := Int.mul_ne_zero (den_ne a) (den_ne b)
    
    refine es_ret (de_is (by
      apply de_call0
      · walk_at "da"
      · exact R_fraction.mk _ _ h6 h5) ?_) rfl
    rw [add_divInt]
theorem ok_subtract (T : Txt K mg) : FnOk P w K mg base CX0 2 (He.ga K "subtract") (fdAt K (He.ga K "subtract")) ["first", "second"] (spD K R_subtract) := by
  refine T.F_subtract.ok sc_subtract (fun vs H Q E h => ?_) (fun cdv A outer s H vs Q E hr h => ?_)
  · obtain ⟨_, _, _, _, r, hR, _⟩ := h
    exact r.length.trans (by cases hR; rfl)
  · obtain ⟨_, v0_fraction, b0_fraction⟩ := b0_fraction T
    refine ⟨_, PSs.nox (pss_one (ps_ret (pe_call (ok_fraction T) (hr.mono (by decide)) (by rfl) T.g_fraction T.F_fraction.kp b0_fraction v0_fraction pass0 (pa_cons (pe_op op_sub (pe_op op_mulG (pe_ix (ix_seqK (K := K) rfl) (pv 0) pe_int (fun _ _ => rfl)) (pe_ix (ix_seqK (K := K) rfl) (pv 1) pe_int (fun _ _ => rfl))) (pe_op op_mulG (pe_ix (ix_seqK (K := K) rfl) (pv 1) pe_int (fun _ _ => rfl)) (pe_ix (ix_seqK (K := K) rfl) (pv 0) pe_int (fun _ _ => rfl)))) (pa_cons (pe_op op_mulG (pe_ix (ix_seqK (K := K) rfl) (pv 0) pe_int (fun _ _ => rfl)) (pe_ix (ix_seqK (K := K) rfl) (pv 1) pe_int (fun _ _ => rfl))) pa_nil))))), body_ok h fun ds d hR => ?_⟩
    obtain ⟨a, b, ha, hb⟩ := hR
    refine body_mk (ρ := [.dat (fq a), .dat (fq b)]) rfl ?_
    have h1 := cmul_of (i := a.num) (j := (b.den : Int)) (n := 4000) ha.nu (by rw [Int.natAbs_natCast]; exact hb.de) (by decide) (by decide)
    have h2 := cmul_of (i := b.num) (j := (a.den : Int)) (n := 4000) hb.nu (by rw [Int.natAbs_natCast]; exact ha.de) (by decide) (by decide)
    have h3 := cmul_of (i := (a.den : Int)) (j := (b.den : Int)) (n := 4000) (by rw [Int.natAbs_natCast]; exact ha.de) (by rw [Int.natAbs_natCast]; exact hb.de) (by decide) (by decide)
    have h4 := cmul_of (i := a.num) (j := b.num) (n := 4000) ha.nu hb.nu (by decide) (by decide)
    have h5 : ((a.den : Int) * (b.den : Int)).natAbs < 2 ^ 9000 := by
      rw [Int.natAbs_mul, Int.natAbs_natCast, Int.natAbs_natCast]
      exact pow_le_of (mul_lt_pow ha.de hb.de) (by decide)
    have h6 : (a.den : Int) * (b.den : Int) ≠ 0 := Int.mul_ne_zero (den_ne a) (den_ne b)
    
    refine es_ret (de_is (by
      apply de_call0
      · walk_at "da"
      · exact R_fraction.mk _ _ h6 h5) ?_) rfl
    rw [sub_divInt]
theorem ok_multiply (T : Txt K mg) : FnOk P w K mg base CX0 2 (He.ga K "multiply") (fdAt K (He.ga K "multiply")) ["first", "second"] (spD K R_multiply) := by
  refine T.F_multiply.ok sc_multiply (fun vs H Q E h => ?_) (fun cdv A outer s H vs Q E hr h => ?_)
  · obtain ⟨_, _, _, _, r, hR, _⟩ := h
    exact r.length.trans (by cases hR; rfl)
  · obtain ⟨_, v0_fraction, b0_fraction⟩ := b0_fraction T
    refine ⟨_, PSs.nox (pss_one (ps_ret (pe_call (ok_fraction T) (hr.mono (by decide)) (by rfl) T.g_fraction T.F_fraction.kp b0_fraction v0_fraction pass0 (pa_cons (pe_op op_mulG (pe_ix (ix_seqK (K := K) rfl) (pv 0) pe_int (fun _ _ => rfl)) (pe_ix (ix_seqK (K := K) rfl) (pv 1) pe_int (fun _ _ => rfl))) (pa_cons (pe_op op_mulG (pe_ix (ix_seqK (K := K) rfl) (pv 0) pe_int (fun _ _ => rfl)) (pe_ix (ix_seqK (K := K) rfl) (pv 1) pe_int (fun _ _ => rfl))) pa_nil))))), body_ok h fun ds d hR => ?_⟩
    obtain ⟨a, b, ha, hb⟩ := hR
    refine body_mk (ρ := [.dat (fq a), .dat (fq b)]) rfl ?_
    have h1 := cmul_of (i := a.num) (j := (b.den : Int)) (n := 4000) ha.nu (by rw [Int.natAbs_natCast]; exact hb.de) (by decide) (by decide)
    have h2 := cmul_of (i := b.num) (j := (a.den : Int)) (n := 4000) hb.nu (by rw [Int.natAbs_natCast]; exact ha.de) (by decide) (by decide)
    have h3 := cmul_of (i := (a.den : Int)) (j := (b.den : Int)) (n := 4000) (by rw [Int.natAbs_natCast]; exact ha.de) (by rw [Int.natAbs_natCast]; exact hb.de) (by decide) (by decide)
    have h4 := cmul_of (i := a.num) (j := b.num) (n := 4000) ha.nu hb.nu (by decide) (by decide)
    have h5 : ((a.den : Int) * (b.den : Int)).natAbs < 2 ^ 9000 := by
      rw [Int.natAbs_mul, Int.natAbs_natCast, Int.natAbs_natCast]
      exact pow_le_of (mul_lt_pow ha.de hb.de) (by decide)
    have h6 : (a.den : Int) * (b.den : Int) ≠ 0 := Int.mul_ne_zero (den_ne a) (den_ne b)
    
    refine es_ret (de_is (by
      apply de_call0
      · walk_at "da"
      · exact R_fraction.mk _ _ h6 h5) ?_) rfl
    rw [mul_divInt]
theorem okR_divide (T : Txt K mg) : FnOk P w K mg base (L2.CX P w) 3 (He.ga K "divide") (fdAt K (He.ga K "divide")) ["first", "second"] (spR K (RX_divide (He.ga K "BadNumber"))) := by
  refine T.F_divide.ok sc_divide (fun vs H Q E h => ?_) (fun cdv A outer s H vs Q E hr h => ?_)
  · obtain ⟨_, _, _, _, _, r, hR, _⟩ := h
    exact r.length.trans (by cases hR; rfl)
  · obtain ⟨_, v0_fraction, b0_fraction⟩ := b0_fraction T
    refine ⟨_, (pss_cons (ps_if (pt_cmpR (op_eqK (K := K) rfl hr.units) (pe_ix (ix_seqK (K := K) rfl) (pv 1) pe_int (fun _ _ => rfl)) pe_int (nomark _)) (pss_one (ps_raise1 rfl (takes_of rfl rfl rfl rfl) T.x_BadNumber (init_BadNumber T) (hr.mono (by decide)) (bi_BadNumber T) (by rfl) T.g_BadNumber (pa_cons pe_str pa_nil))) pss_nil)
    (pss_one (ps_ret (pe_call (ok_fraction T) (hr.mono (by decide)) (by rfl) T.g_fraction T.F_fraction.kp b0_fraction v0_fraction pass0 (pa_cons (pe_op op_mulG (pe_ix (ix_seqK (K := K) rfl) (pv 0) pe_int (fun _ _ => rfl)) (pe_ix (ix_seqK (K := K) rfl) (pv 1) pe_int (fun _ _ => rfl))) (pa_cons (pe_op op_mulG (pe_ix (ix_seqK (K := K) rfl) (pv 0) pe_int (fun _ _ => rfl)) (pe_ix (ix_seqK (K := K) rfl) (pv 1) pe_int (fun _ _ => rfl))) pa_nil)))))), body_okR h fun ds C fs hR => ?_⟩
    obtain ⟨q⟩ := hR
    show ES K _ _ [.dat (fq q), .dat (fq 0)] _
    apply es_seq
    refine es_ifT (dt_is (b := true) (by walk_at "dt") (by rfl)) ?_
    apply es_raise
    · walk_at "da"
    · exact ⟨rfl, rfl⟩
theorem ok_divide (T : Txt K mg) : FnOk P w K mg base CX0 2 (He.ga K "divide") (fdAt K (He.ga K "divide")) ["first", "second"] (spD K R_divide) := by
  refine T.F_divide.ok sc_divide (fun vs H Q E h => ?_) (fun cdv A outer s H vs Q E hr h => ?_)
  · obtain ⟨_, _, _, _, r, hR, _⟩ := h
    exact r.length.trans (by cases hR; rfl)
  · obtain ⟨_, v0_fraction, b0_fraction⟩ := b0_fraction T
    refine ⟨_, PSs.nox (pss_cons (ps_if (pt_cmpR (op_eqK (K := K) rfl hr.units) (pe_ix (ix_seqK (K := K) rfl) (pv 1) pe_int (fun _ _ => rfl)) pe_int (nomark _)) (pss_one ps_never) pss_nil)
    (pss_one (ps_ret (pe_call (ok_fraction T) (hr.mono (by decide)) (by rfl) T.g_fraction T.F_fraction.kp b0_fraction v0_fraction pass0 (pa_cons (pe_op op_mulG (pe_ix (ix_seqK (K := K) rfl) (pv 0) pe_int (fun _ _ => rfl)) (pe_ix (ix_seqK (K := K) rfl) (pv 1) pe_int (fun _ _ => rfl))) (pa_cons (pe_op op_mulG (pe_ix (ix_seqK (K := K) rfl) (pv 0) pe_int (fun _ _ => rfl)) (pe_ix (ix_seqK (K := K) rfl) (pv 1) pe_int (fun _ _ => rfl))) pa_nil)))))), body_ok h fun ds d hR => ?_⟩
    obtain ⟨a, b, ha, hb, h0⟩ := hR
    refine body_mk (ρ := [.dat (fq a), .dat (fq b)]) rfl ?_
    have h1 := cmul_of (i := a.num) (j := (b.den : Int)) (n := 4000) ha.nu (by rw [Int.natAbs_natCast]; exact hb.de) (by decide) (by decide)
    have h2 := cmul_of (i := b.num) (j := (a.den : Int)) (n := 4000) hb.nu (by rw [Int.natAbs_natCast]; exact ha.de) (by decide) (by decide)
    have h3 := cmul_of (i := (a.den : Int)) (j := (b.den : Int)) (n := 4000) (by rw [Int.natAbs_natCast]; exact ha.de) (by rw [Int.natAbs_natCast]; exact hb.de) (by decide) (by decide)
    have h4 := cmul_of (i := a.num) (j := b.num) (n := 4000) ha.nu hb.nu (by decide) (by decide)
    have h5 : ((a.den : Int) * (b.den : Int)).natAbs < 2 ^ 9000 := by
      rw [Int.natAbs_mul, Int.natAbs_natCast, Int.natAbs_natCast]
      exact pow_le_of (mul_lt_pow ha.de hb.de) (by decide)
    have h6 : (a.den : Int) * (b.den : Int) ≠ 0 := Int.mul_ne_zero (den_ne a) (den_ne b)
    
    have hn : b.num ≠ 0 := fun z => h0 (Rat.num_eq_zero.mp z)
    refine s_ifF (dt_is (b := false) (by walk_at "dt") (decide_eq_false hn)) (es_next' ?_)
    have h7 := cmul_of (i := (a.den : Int)) (j := b.num) (n := 4000) (by rw [Int.natAbs_natCast]; exact ha.de) hb.nu (by decide) (by decide)
    have h8 : ((a.den : Int) * b.num).natAbs < 2 ^ 9000 := by
      rw [Int.natAbs_mul, Int.natAbs_natCast]
      exact pow_le_of (mul_lt_pow ha.de hb.nu) (by decide)
    refine es_ret (de_is (by
      apply de_call0
      · walk_at "da"
      · exact R_fraction.mk _ _ (Int.mul_ne_zero (den_ne a) hn) h8) ?_) rfl
    rw [div_divInt]
theorem ok_less (T : Txt K mg) : FnOk P w K mg base CX0 1 (He.ga K "less") (fdAt K (He.ga K "less")) ["first", "second"] (spD K R_less) := by
  refine T.F_less.ok sc_less (fun vs H Q E h => ?_) (fun cdv A outer s H vs Q E hr h => ?_)
  · obtain ⟨_, _, _, _, r, hR, _⟩ := h
    exact r.length.trans (by cases hR; rfl)
  · refine ⟨_, PSs.nox (pss_one (ps_ret (pe_cmpR op_lt (pe_op op_mulG (pe_ix (ix_seqK (K := K) rfl) (pv 0) pe_int (fun _ _ => rfl)) (pe_ix (ix_seqK (K := K) rfl) (pv 1) pe_int (fun _ _ => rfl))) (pe_op op_mulG (pe_ix (ix_seqK (K := K) rfl) (pv 1) pe_int (fun _ _ => rfl)) (pe_ix (ix_seqK (K := K) rfl) (pv 0) pe_int (fun _ _ => rfl))) (nomark _)))), body_ok h fun ds d hR => ?_⟩
    obtain ⟨a, b, ha, hb⟩ := hR
    refine body_mk (ρ := [.dat (fq a), .dat (fq b)]) rfl ?_
    have h1 := cmul_of (i := a.num) (j := (b.den : Int)) (n := 4000) ha.nu (by rw [Int.natAbs_natCast]; exact hb.de) (by decide) (by decide)
    have h2 := cmul_of (i := b.num) (j := (a.den : Int)) (n := 4000) hb.nu (by rw [Int.natAbs_natCast]; exact ha.de) (by decide) (by decide)
    have h3 := cmul_of (i := (a.den : Int)) (j := (b.den : Int)) (n := 4000) (by rw [Int.natAbs_natCast]; exact ha.de) (by rw [Int.natAbs_natCast]; exact hb.de) (by decide) (by decide)
    have h4 := cmul_of (i := a.num) (j := b.num) (n := 4000) ha.nu hb.nu (by decide) (by decide)
    have h5 : ((a.den : Int) * (b.den : Int)).natAbs < 2 ^ 9000 := by
      rw [Int.natAbs_mul, Int.natAbs_natCast, Int.natAbs_natCast]
      exact pow_le_of (mul_lt_pow ha.de hb.de) (by decide)
    have h6 : (a.den : Int) * (b.den : Int) ≠ 0 := Int.mul_ne_zero (den_ne a) (den_ne b)
    
    refine es_ret (de_is (by walk_at "de") ?_) rfl
    congr 1
    exact decide_eq_decide.mpr (Rat.lt_iff a b).symm
theorem ok_total (T : Txt K mg) : FnOk P w K mg base CX0 1 (He.ga K "total") (fdAt K (He.ga K "total")) ["values"] (spD K R_total) := by
  refine T.F_total.ok sc_total (fun vs H Q E h => ?_) (fun cdv A outer s H vs Q E hr h => ?_)
  · obtain ⟨_, _, _, _, r, hR, _⟩ := h
    exact r.length.trans (by cases hR; rfl)
  · refine ⟨_, PSs.nox (pss_cons (ps_set (i := 1) sc_total.nd rfl (by first | exact Or.inl rfl | exact Or.inr rfl) pe_int)
    (pss_cons (ps_set (i := 2) sc_total.nd rfl (by first | exact Or.inl rfl | exact Or.inr rfl) pe_int)
    (pss_cons (ps_for PassesOwn.never rfl (pi_listK (K := K) rfl (pv 0)) (pg_name (i := 3) sc_total.nd rfl (by first | exact Or.inl rfl | exact Or.inr rfl)) (pss_cons (ps_set (i := 1) sc_total.nd rfl (by first | exact Or.inl rfl | exact Or.inr rfl) (pe_op (op_addK (K := K) rfl) (pe_op op_mulG (pv 1) (pe_ix (ix_seqK (K := K) rfl) (pv 3) pe_int (fun _ _ => rfl))) (pe_op op_mulG (pe_ix (ix_seqK (K := K) rfl) (pv 3) pe_int (fun _ _ => rfl)) (pv 2))))
    (pss_cons (ps_set (i := 2) sc_total.nd rfl (by first | exact Or.inl rfl | exact Or.inr rfl) (pe_op op_mulG (pv 2) (pe_ix (ix_seqK (K := K) rfl) (pv 3) pe_int (fun _ _ => rfl))))
    (pss_cons (ps_set (i := 4) sc_total.nd rfl (by first | exact Or.inl rfl | exact Or.inr rfl) (pe_callBfun cr_gcd (by rfl) T.m_gcd (pa_cons (pv 1) (pa_cons (pv 2) pa_nil))))
    (pss_cons (ps_set (i := 1) sc_total.nd rfl (by first | exact Or.inl rfl | exact Or.inr rfl) (pe_op op_fdivW (pv 1) (pv 4)))
    (pss_one (ps_set (i := 2) sc_total.nd rfl (by first | exact Or.inl rfl | exact Or.inr rfl) (pe_op op_fdivW (pv 2) (pv 4)))))))))
    (pss_one (ps_ret (pe_tup (pa_cons (pv 1) (pa_cons (pv 2) pa_nil)))))))), body_ok h fun ds d hR => ?_⟩
    obtain ⟨qs, hq, hs⟩ := hR
    refine body_mk (ρ := [.dat (.lst (qs.map fq)), .any, .any, .any, .any]) rfl ?_
    walk_at "s"
    walk_at "s"
    refine s_for (di_list (de_var rfl)) (fun i τ => τ = [.dat (.lst (qs.map fq)), .dat (.int (rsum (qs.take i)).num), .dat (.int (rsum (qs.take i)).den), .any, .any]) ⟨_, by walk_at "wk", rfl⟩ (fun i d τ hd hτ => ?_) (fun τ hτ => ?_)
    · subst hτ
      rw [List.getElem?_map] at hd
      obtain ⟨q, hq1, rfl⟩ := Option.map_eq_some_iff.mp hd
      have hi := (List.getElem?_eq_some_iff.mp hq1).1
      have bs := hs i (by omega)
      have bq := hq q (List.mem_of_getElem? hq1)
      have es : rsum (qs.take (i + 1)) = rsum (qs.take i) + q := by
        rw [List.take_add_one, hq1]
        exact rsum_snoc _ _
      generalize rsum (qs.take i) = s at bs es
      have h1 := cmul_of (i := s.num) (j := (q.den : Int)) (n := 4000) bs.nu (by rw [Int.natAbs_natCast]; exact bq.de) (by decide) (by decide)
      have h2 := cmul_of (i := q.num) (j := (s.den : Int)) (n := 4000) bq.nu (by rw [Int.natAbs_natCast]; exact bs.de) (by decide) (by decide)
      have h3 := cmul_of (i := (s.den : Int)) (j := (q.den : Int)) (n := 4000) (by rw [Int.natAbs_natCast]; exact bs.de) (by rw [Int.natAbs_natCast]; exact bq.de) (by decide) (by decide)
      have h5 : ((s.den : Int) * (q.den : Int)).natAbs < 2 ^ 9000 := by
        rw [Int.natAbs_mul, Int.natAbs_natCast, Int.natAbs_natCast]
        exact pow_le_of (mul_lt_pow bs.de bq.de) (by decide)
      have h6 : (0 : Int) < (s.den : Int) * (q.den : Int) := Int.mul_pos (den_pos s) (den_pos q)
      have hg := fun k => gcd_div (a := s.num * q.den + q.num * s.den) (b := (s.den : Int) * (q.den : Int)) (i := k) (by omega) h5
      obtain ⟨l1, l2⟩ := low_num (a := s.num * q.den + q.num * s.den) h6
      rw [add_divInt] at l1 l2
      refine ⟨_, dg_name, ?_⟩
      walk_at "norm"
      walk_at "s"
      walk_at "s"
      walk_at "s"
      apply s_set
      · apply de_op
        · walk_at "de"
        · walk_at "de"
        · exact rd_intC (hg _)
      walk_at "norm"
      apply es_set
      · apply de_op
        · walk_at "de"
        · walk_at "de"
        · exact rd_intC (hg _)
      walk_at "norm"
      refine ⟨_, ?_, rfl⟩
      rw [es, ← l1, ← l2]
      walk_at "wk"
    · subst hτ
      rw [List.length_map, List.take_length]
      refine es_ret (de_is (by walk_at "de") ?_) rfl
      rfl
theorem ok_dot (T : Txt K mg) : FnOk P w K mg base CX0 3 (He.ga K "dot") (fdAt K (He.ga K "dot")) ["first", "second"] (spD K R_dot) := by
  refine T.F_dot.ok sc_dot (fun vs H Q E h => ?_) (fun cdv A outer s H vs Q E hr h => ?_)
  · obtain ⟨_, _, _, _, r, hR, _⟩ := h
    exact r.length.trans (by cases hR; rfl)
  · refine ⟨_, PSs.nox (pss_one (ps_ret (pe_call (ok_total T) (hr.mono (by decide)) (by rfl) T.g_total T.F_total.kp (b_total T) .nil pass0 (pa_cons (pe_lc (own := [("a", 2), ("b", 3)]) (g := gTup K 2 (gCons (gName 2) (gCons (gName 3) gNil))) (tt := tYes) rfl sc_dot.nd (RZ.pi_zipA (by rfl) T.z_zip (pa_cons (pv 0) (pa_cons (pv 1) pa_nil))) (blkOk_by (N := N_dot) (sc := defScope s_dot) (by decide +kernel)) (fun _ _ _ _ _ => pg_tup rfl (pgs_cons (pg_name (i := 2) sc_dot.nd rfl (by first | exact Or.inl rfl | exact Or.inr rfl)) (pgs_cons (pg_name (i := 3) sc_dot.nd rfl (by first | exact Or.inl rfl | exact Or.inr rfl)) pgs_nil))) (fun _ _ _ _ _ => pts_nil) (fun _ _ _ _ _ => (pe_call (ok_multiply T) (hr.mono (by decide)) (by rfl) T.g_multiply T.F_multiply.kp (b_multiply T) .nil pass0 (pa_cons (pv 2) (pa_cons (pv 3) pa_nil))))) pa_nil)))), body_ok h fun ds d hR => ?_⟩
    obtain ⟨qs, rs, hl, hle, hq, hr', hs⟩ := hR
    refine body_mk (ρ := [.dat (.lst (qs.map fq)), .dat (.lst (rs.map fq)), .any, .any]) rfl ?_
    have hlen : (List.zip qs rs).length < sizeLine := by
      rw [List.length_zip]
      exact Nat.lt_of_le_of_lt (Nat.min_le_left _ _) (Nat.lt_of_le_of_lt hle (by decide))
    have e : (List.zip qs rs).map (fun p => fq (p.1 * p.2)) = (List.zipWith (· * ·) qs rs).map fq := by
      rw [List.map_zipWith, List.zip, List.map_zipWith]
    apply es_ret
    · apply de_call0
      · apply da_cons
        · refine DL.de (dl_is (dl_lcA (List.zip qs rs) (fun p => .tup [fq p.1, fq p.2]) (fun p => fq (p.1 * p.2)) ?_ hlen ?_) e)
          · rw [← zipD_map fq fq]
            apply di_zip
            walk_at "da"
          · intro i p hp
            have m := List.mem_of_getElem? hp
            have b1 := hq p.1 (List.of_mem_zip m).1
            have b2 := hr' p.2 (List.of_mem_zip m).2
            refine ⟨_, dgw_tup (dgws_cons (dgw_name (by decide)) (dgws_cons (dgw_name (by decide)) dgws_nil)) rfl, ?_⟩
            apply de_call0
            · walk_at "da"
            · exact R_multiply.mk _ _ (b1.mono (by decide)) (b2.mono (by decide))
        · exact da_nil
      · refine R_total.mk _ (fun q hq' => ?_) (fun i hi => hs i (by
          rw [List.length_zipWith] at hi
          omega))
        rw [← List.map_uncurry_zip_eq_zipWith] at hq'
        obtain ⟨p, hp, rfl⟩ := List.mem_map.mp hq'
        exact (mul_bd (hq p.1 (List.of_mem_zip hp).1) (hr' p.2 (List.of_mem_zip hp).2)).mono (by decide)
    · rfl
theorem ok_largest (T : Txt K mg) : FnOk P w K mg base CX0 2 (He.ga K "largest") (fdAt K (He.ga K "largest")) ["values"] (spD K R_largest) := by
  refine T.F_largest.ok sc_largest (fun vs H Q E h => ?_) (fun cdv A outer s H vs Q E hr h => ?_)
  · obtain ⟨_, _, _, _, r, hR, _⟩ := h
    exact r.length.trans (by cases hR; rfl)
  · refine ⟨_, PSs.nox (pss_cons (ps_set (i := 1) sc_largest.nd rfl (by first | exact Or.inl rfl | exact Or.inr rfl) (pe_ix (ix_seqK (K := K) rfl) (pv 0) pe_int (fun _ _ => rfl)))
    (pss_cons (ps_for PassesOwn.never rfl (pi_listK (K := K) rfl (pv 0)) (pg_name (i := 2) sc_largest.nd rfl (by first | exact Or.inl rfl | exact Or.inr rfl)) (pss_one (ps_if (pt_val (pe_call (ok_less T) (hr.mono (by decide)) (by rfl) T.g_less T.F_less.kp (b_less T) .nil pass0 (pa_cons (pv 1) (pa_cons (pv 2) pa_nil)))) (pss_one (ps_set (i := 1) sc_largest.nd rfl (by first | exact Or.inl rfl | exact Or.inr rfl) (pv 2))) pss_nil)))
    (pss_one (ps_ret (pv 1))))), body_ok h fun ds d hR => ?_⟩
    obtain ⟨q, qs, hq⟩ := hR
    refine body_mk (ρ := [.dat (.lst ((q :: qs).map fq)), .any, .any]) rfl ?_
    walk_at "s"
    have hb : ∀ i, Bd 4000 (rmax q ((q :: qs).take i)) := fun i => by
      have : ∀ (l : List Rat) (c : Rat), Bd 4000 c → (∀ r ∈ l, Bd 4000 r) → Bd 4000 (rmax c l) := by
        intro l
        induction l with
        | nil => exact fun c h _ => h
        | cons a l ih =>
          intro c h1 h2
          refine ih _ ?_ fun r hr => h2 r (List.mem_cons_of_mem _ hr)
          show Bd 4000 (if _ then a else c)
          split
          · exact h2 a List.mem_cons_self
          · exact h1
      exact this _ _ (hq q List.mem_cons_self) fun r hr => hq r (List.mem_of_mem_take hr)
    refine s_for (di_list (de_var rfl)) (fun i τ => τ = [.dat (.lst ((q :: qs).map fq)), .dat (fq (rmax q ((q :: qs).take i))), .any]) ⟨_, by walk_at "wk", rfl⟩ (fun i d τ hd hτ => ?_) (fun τ hτ => ?_)
    · subst hτ
      rw [List.getElem?_map] at hd
      obtain ⟨v, hq1, rfl⟩ := Option.map_eq_some_iff.mp hd
      have bq := hq v (List.mem_of_getElem? hq1)
      have bb := hb i
      have es : rmax q ((q :: qs).take (i + 1)) = if rmax q ((q :: qs).take i) < v then v else rmax q ((q :: qs).take i) := by
        rw [List.take_add_one, hq1]
        unfold rmax
        rw [List.foldl_append]
        rfl
      generalize rmax q ((q :: qs).take i) = b at bb es
      refine ⟨_, dg_name, ?_⟩
      walk_at "norm"
      refine es_if (b := decide (b < v)) (by
        apply dt_B
        apply de_call0
        · walk_at "da"
        · exact R_less.mk _ _ (by assumption) (by assumption)) (fun h => ?_) (fun h => ?_)
      · have h := of_decide_eq_true h
        walk_at "e"
        refine ⟨_, ?_, rfl⟩
        rw [es, if_pos h]
        walk_at "wk"
      · have h := of_decide_eq_false h
        walk_at "e"
        refine ⟨_, ?_, rfl⟩
        rw [es, if_neg h]
        walk_at "wk"
    · subst hτ
      rw [List.length_map, List.take_length]
      apply es_ret
      · walk_at "de"
      · rfl
theorem ok_smallest (T : Txt K mg) : FnOk P w K mg base CX0 2 (He.ga K "smallest") (fdAt K (He.ga K "smallest")) ["values"] (spD K R_smallest) := by
  refine T.F_smallest.ok sc_smallest (fun vs H Q E h => ?_) (fun cdv A outer s H vs Q E hr h => ?_)
  · obtain ⟨_, _, _, _, r, hR, _⟩ := h
    exact r.length.trans (by cases hR; rfl)
  · refine ⟨_, PSs.nox (pss_cons (ps_set (i := 1) sc_smallest.nd rfl (by first | exact Or.inl rfl | exact Or.inr rfl) (pe_ix (ix_seqK (K := K) rfl) (pv 0) pe_int (fun _ _ => rfl)))
    (pss_cons (ps_for PassesOwn.never rfl (pi_listK (K := K) rfl (pv 0)) (pg_name (i := 2) sc_smallest.nd rfl (by first | exact Or.inl rfl | exact Or.inr rfl)) (pss_one (ps_if (pt_val (pe_call (ok_less T) (hr.mono (by decide)) (by rfl) T.g_less T.F_less.kp (b_less T) .nil pass0 (pa_cons (pv 2) (pa_cons (pv 1) pa_nil)))) (pss_one (ps_set (i := 1) sc_smallest.nd rfl (by first | exact Or.inl rfl | exact Or.inr rfl) (pv 2))) pss_nil)))
    (pss_one (ps_ret (pv 1))))), body_ok h fun ds d hR => ?_⟩
    obtain ⟨q, qs, hq⟩ := hR
    refine body_mk (ρ := [.dat (.lst ((q :: qs).map fq)), .any, .any]) rfl ?_
    walk_at "s"
    have hb : ∀ i, Bd 4000 (rmin q ((q :: qs).take i)) := fun i => by
      have : ∀ (l : List Rat) (c : Rat), Bd 4000 c → (∀ r ∈ l, Bd 4000 r) → Bd 4000 (rmin c l) := by
        intro l
        induction l with
        | nil => exact fun c h _ => h
        | cons a l ih =>
          intro c h1 h2
          refine ih _ ?_ fun r hr => h2 r (List.mem_cons_of_mem _ hr)
          show Bd 4000 (if _ then a else c)
          split
          · exact h2 a List.mem_cons_self
          · exact h1
      exact this _ _ (hq q List.mem_cons_self) fun r hr => hq r (List.mem_of_mem_take hr)
    refine s_for (di_list (de_var rfl)) (fun i τ => τ = [.dat (.lst ((q :: qs).map fq)), .dat (fq (rmin q ((q :: qs).take i))), .any]) ⟨_, by walk_at "wk", rfl⟩ (fun i d τ hd hτ => ?_) (fun τ hτ => ?_)
    · subst hτ
      rw [List.getElem?_map] at hd
      obtain ⟨v, hq1, rfl⟩ := Option.map_eq_some_iff.mp hd
      have bq := hq v (List.mem_of_getElem? hq1)
      have bb := hb i
      have es : rmin q ((q :: qs).take (i + 1)) = if v < rmin q ((q :: qs).take i) then v else rmin q ((q :: qs).take i) := by
        rw [List.take_add_one, hq1]
        unfold rmin
        rw [List.foldl_append]
        rfl
      generalize rmin q ((q :: qs).take i) = b at bb es
      refine ⟨_, dg_name, ?_⟩
      walk_at "norm"
      refine es_if (b := decide (v < b)) (by
        apply dt_B
        apply de_call0
        · walk_at "da"
        · exact R_less.mk _ _ (by assumption) (by assumption)) (fun h => ?_) (fun h => ?_)
      · have h := of_decide_eq_true h
        walk_at "e"
        refine ⟨_, ?_, rfl⟩
        rw [es, if_pos h]
        walk_at "wk"
      · have h := of_decide_eq_false h
        walk_at "e"
        refine ⟨_, ?_, rfl⟩
        rw [es, if_neg h]
        walk_at "wk"
    · subst hτ
      rw [List.length_map, List.take_length]
      apply es_ret
      · walk_at "de"
      · rfl
theorem ok__law_cell (T : Txt K mg) : FnOk P w K mg base CX0 1 (He.ga K "_law_cell") (fdAt K (He.ga K "_law_cell")) ["script", "k"] (spD K R_cell) := by
  refine T.F__law_cell.ok sc__law_cell (fun vs H Q E h => ?_) (fun cdv A outer s H vs Q E hr h => ?_)
  · obtain ⟨_, _, _, _, r, hR, _⟩ := h
    exact r.length.trans (by cases hR; rfl)
  · refine ⟨_, PSs.nox (pss_cons (ps_if (pt_cmpR op_lt (pv 1) (pe_callB (call_lenK (K := K) rfl) (by rfl) T.z_len (by decide +kernel) (pa_cons (pv 0) pa_nil)) (nomark _)) (pss_one (ps_ret (pe_ix (ix_seqK (K := K) rfl) (pv 0) (pv 1) (fun _ _ => rfl)))) pss_nil)
    (pss_one (ps_ret pe_int))), body_ok h fun ds d hR => ?_⟩
    obtain ⟨ns, k, hl⟩ := hR
    refine body_mk (ρ := [.dat (.lst (ns.map .int)), .dat (.int (k : Int))]) rfl ?_
    refine s_if (b := decide ((k : Int) < ((ns.map Dt.int).length : Nat))) (by walk_at "dt") (fun h => ?_) (fun h => ?_)
    · have h := of_decide_eq_true h
      rw [List.length_map] at h
      have h2 : k < ns.length := by omega
      apply es_ret
      · apply de_op
        · walk_at "de"
        · walk_at "de"
        · apply rd_ixLG
          exact atI_map (atI_natL h2)
      · show Dt.int _ = Dt.int _
        congr 1
        rw [List.getD_eq_getElem?_getD, List.getElem?_eq_getElem h2]
        rfl
    · have h := of_decide_eq_false h
      rw [List.length_map] at h
      refine es_next' ?_
      apply es_ret
      · walk_at "de"
      · show Dt.int _ = Dt.int _
        congr 1
        rw [List.getD_eq_getElem?_getD, List.getElem?_eq_none (by omega)]
        rfl
theorem ok__law_digits (T : Txt K mg) : FnOk P w K mg base CX0 1 (He.ga K "_law_digits") (fdAt K (He.ga K "_law_digits")) ["cell", "base", "count"] (spD K R_digits) := by
  refine T.F__law_digits.ok sc__law_digits (fun vs H Q E h => ?_) (fun cdv A outer s H vs Q E hr h => ?_)
  · obtain ⟨_, _, _, _, r, hR, _⟩ := h
    exact r.length.trans (by cases hR; rfl)
  · refine ⟨_, PSs.nox (pss_cons (ps_set (i := 3) sc__law_digits.nd rfl (by first | exact Or.inl rfl | exact Or.inr rfl) (pe_lst pa_nil))
    (pss_cons (ps_set (i := 4) sc__law_digits.nd rfl (by first | exact Or.inl rfl | exact Or.inr rfl) (pv 0))
    (pss_cons (ps_for PassesOwn.never rfl (pi_range1 (by rfl) T.z_range (pa_cons (pv 2) pa_nil)) (pg_name (i := 5) sc__law_digits.nd rfl (by first | exact Or.inl rfl | exact Or.inr rfl)) (pss_one (ps_if (pt_cmpR op_ge (pv 0) (pe_op op_pow pe_int pe_int) (nomark _)) (pss_cons (ps_expr (pe_bm PySem.F.plainAttrs_list PySem.F.slot_list_append PySem.F.type_list_append mt_append (pv 3) (pa_cons (pe_op op_mod (pe_callTy (call_int1) (by rfl) T.z_int (by decide +kernel) (pa_cons (pv 4) pa_nil)) (pv 1)) pa_nil)))
    (pss_one (ps_set (i := 4) sc__law_digits.nd rfl (by first | exact Or.inl rfl | exact Or.inr rfl) (pe_op op_fdivW (pv 4) (pv 1))))) (pss_cons (ps_set (i := 4) sc__law_digits.nd rfl (by first | exact Or.inl rfl | exact Or.inr rfl) (pe_op op_mod (pe_op (op_addK (K := K) rfl) (pe_op (op_addK (K := K) rfl) (pe_op op_mulG (pe_callTy (call_int1) (by rfl) T.z_int (by decide +kernel) (pa_cons (pv 4) pa_nil)) pe_int) (pe_op op_mulG pe_int (pv 5))) pe_int) pe_int))
    (pss_cons (ps_set (i := 4) sc__law_digits.nd rfl (by first | exact Or.inl rfl | exact Or.inr rfl) (pe_op op_mod (pe_op (op_addK (K := K) rfl) (pe_op (op_addK (K := K) rfl) (pe_op op_mulG (pe_callTy (call_int1) (by rfl) T.z_int (by decide +kernel) (pa_cons (pv 4) pa_nil)) pe_int) (pe_op op_mulG pe_int (pv 5))) pe_int) pe_int))
    (pss_one (ps_expr (pe_bm PySem.F.plainAttrs_list PySem.F.slot_list_append PySem.F.type_list_append mt_append (pv 3) (pa_cons (pe_op op_mod (pe_callTy (call_int1) (by rfl) T.z_int (by decide +kernel) (pa_cons (pe_op op_fdivW (pv 4) pe_int) pa_nil)) (pv 1)) pa_nil)))))))))
    (pss_one (ps_ret (pv 3)))))), body_ok h fun ds d hR => ?_⟩
    obtain ⟨c, b, n, h0, h1, hn⟩ := hR
    refine body_mk (ρ := [.dat (.int c), .dat (.int b), .dat (.int (n : Int)), .any, .any, .any]) rfl ?_
    walk_at "own"
    walk_at "s"
    have hrow : ∀ i, i < n → ((dst c b i).1.map Dt.int).length < sizeLine := fun i hi => by
      rw [List.length_map, dst_len]
      exact Nat.lt_of_lt_of_le (by omega : i < 1000) (by decide)
    refine s_for (di_range1 (n := (n : Int)) (by walk_at "da") (by omega) (by omega)) (fun i τ => τ = [.dat (.int c), .dat (.int b), .dat (.int (n : Int)), .own ((dst c b i).1.map Dt.int), .dat (.int (dst c b i).2), .any]) ⟨_, by walk_at "wk", rfl⟩ (fun i d τ hd hτ => ?_) (fun τ hτ => ?_)
    · subst hτ
      have hi : i < n := by
        have := (List.getElem?_eq_some_iff.mp hd).1
        rw [rangeN_len] at this
        omega
      rw [rangeN_get (by omega)] at hd
      cases hd
      have hr1 := hrow i hi
      refine ⟨_, dg_name, ?_⟩
      walk_at "norm"
      refine es_if (b := decide ((10 : Int) ^ (18 : Int).toNat ≤ c)) (by walk_at "dt") (fun h => ?_) (fun h => ?_)
      · have h := of_decide_eq_true h
        walk_at "s"
        walk_at "e"
        refine ⟨_, ?_, rfl⟩
        rw [dst_yes h, List.map_append]
        walk_at "wk"
      · have h := of_decide_eq_false h
        walk_at "s"
        walk_at "s"
        walk_at "e"
        refine ⟨_, ?_, rfl⟩
        rw [dst_no h, List.map_append]
        walk_at "wk"
    · subst hτ
      rw [rangeN_len, Int.toNat_natCast]
      refine es_weak (τ := [.dat (.int c), .dat (.int b), .dat (.int (n : Int)), .dat (.lst ((dst c b n).1.map Dt.int)), .any, .any]) (by walk_at "wk") ?_
      apply es_ret
      · walk_at "de"
      · rfl
theorem ok__law_gcd (T : Txt K mg) : FnOk P w K mg base CX0 1 (He.ga K "_law_gcd") (fdAt K (He.ga K "_law_gcd")) ["first", "second"] (spD K R_gcd) := by
  refine T.F__law_gcd.ok sc__law_gcd (fun vs H Q E h => ?_) (fun cdv A outer s H vs Q E hr h => ?_)
  · obtain ⟨_, _, _, _, r, hR, _⟩ := h
    exact r.length.trans (by cases hR; rfl)
  · refine ⟨_, PSs.nox (pss_cons (ps_for PassesOwn.never rfl (pi_range1 (by rfl) T.z_range (pa_cons pe_int pa_nil)) (pg_name (i := 2) sc__law_gcd.nd rfl (by first | exact Or.inl rfl | exact Or.inr rfl)) (pss_cons (ps_if (pt_cmpR (op_eqK (K := K) rfl hr.units) (pv 1) pe_int (nomark _)) (pss_one ps_break) pss_nil)
    (pss_cons (ps_set (i := 3) sc__law_gcd.nd rfl (by first | exact Or.inl rfl | exact Or.inr rfl) (pe_op op_mod (pe_callTy (call_int1) (by rfl) T.z_int (by decide +kernel) (pa_cons (pv 0) pa_nil)) (pv 1)))
    (pss_cons (ps_set (i := 0) sc__law_gcd.nd rfl (by first | exact Or.inl rfl | exact Or.inr rfl) (pv 1))
    (pss_one (ps_set (i := 1) sc__law_gcd.nd rfl (by first | exact Or.inl rfl | exact Or.inr rfl) (pv 3)))))))
    (pss_one (ps_ret (pv 0)))), body_ok h fun ds d hR => ?_⟩
    obtain ⟨a, b, hb⟩ := hR
    refine body_mk (ρ := [.dat (.int (a : Int)), .dat (.int (b : Int)), .any, .any]) rfl ?_
    have fin : ∀ i, (eu a b i).2 = 0 → (eu a b i).1 = Nat.gcd a b := fun i h => by
      rw [← eu_gcd a b i, h, Nat.gcd_zero_right]
    have done : ∀ i : Nat, ∀ x y : Sl, (eu a b i).2 = 0 → ES K (fun _ _ _ _ => False) (tRet (tVar 0)) [.dat (.int ((eu a b i).1 : Int)), .dat (.int ((eu a b i).2 : Int)), x, y] { nx := fun _ => Dt.int ((Nat.gcd a b : Nat) : Int) = .non, rt := fun e => e = Dt.int ((Nat.gcd a b : Nat) : Int) } := fun i x y h => by
      apply es_ret
      · walk_at "de"
      · rw [fin i h]
    refine s_for (di_range1 (n := 2000) (by walk_at "da") (by decide) (by decide)) (fun i τ => τ = [.dat (.int ((eu a b i).1 : Int)), .dat (.int ((eu a b i).2 : Int)), .any, .any] ∧ ∀ j, j < i → (eu a b j).2 ≠ 0) ⟨_, by walk_at "wk", rfl, fun j hj => absurd hj (Nat.not_lt_zero _)⟩ (fun i d τ hd hτ => ?_) (fun τ hτ => ?_)
    · obtain ⟨rfl, hz⟩ := hτ
      refine ⟨_, dg_name, ?_⟩
      walk_at "norm"
      refine s_if (b := decide (((eu a b i).2 : Int) = 0)) (by walk_at "dt") (fun h => ?_) (fun h => ?_)
      · have h := of_decide_eq_true h
        apply es_break
        exact done i _ _ (by omega)
      · have h := of_decide_eq_false h
        refine es_next' ?_
        have hp : (0 : Int) < ((eu a b i).2 : Int) := by omega
        walk_at "s"
        walk_at "s"
        walk_at "e"
        refine ⟨_, ?_, rfl, fun j hj => ?_⟩
        · show Wk _ [.dat (.int ((eu a b i).2 : Int)), .dat (.int (((eu a b i).1 % (eu a b i).2 : Nat) : Int)), .any, .any]
          rw [Int.natCast_emod]
          walk_at "wk"
        · rcases Nat.lt_or_ge j i with h2 | h2
          · exact hz j h2
          · have : j = i := by omega
            subst this
            omega
    · obtain ⟨rfl, hz⟩ := hτ
      obtain ⟨j, hj, h0⟩ := eu_ends a b hb
      rw [rangeN_len] at hz
      exact absurd h0 (hz j (by show j < 2000; omega))
theorem ok__law_lowest (T : Txt K mg) : FnOk P w K mg base CX0 2 (He.ga K "_law_lowest") (fdAt K (He.ga K "_law_lowest")) ["num", "den"] (spD K R_lowest) := by
  refine T.F__law_lowest.ok sc__law_lowest (fun vs H Q E h => ?_) (fun cdv A outer s H vs Q E hr h => ?_)
  · obtain ⟨_, _, _, _, r, hR, _⟩ := h
    exact r.length.trans (by cases hR; rfl)
  · refine ⟨_, PSs.nox (pss_cons (ps_set (i := 2) sc__law_lowest.nd rfl (by first | exact Or.inl rfl | exact Or.inr rfl) (pe_call (ok__law_gcd T) (hr.mono (by decide)) (by rfl) T.g__law_gcd T.F__law_gcd.kp (b__law_gcd T) .nil pass0 (pa_cons (pe_callB (call_abs) (by rfl) T.z_abs (by decide +kernel) (pa_cons (pv 0) pa_nil)) (pa_cons (pv 1) pa_nil))))
    (pss_one (ps_ret (pe_tup (pa_cons (pe_op op_fdivW (pv 0) (pv 2)) (pa_cons (pe_op op_fdivW (pv 1) (pv 2)) pa_nil)))))), body_ok h fun ds d hR => ?_⟩
    obtain ⟨a, b, h0, hb⟩ := hR
    refine body_mk (ρ := [.dat (.int a), .dat (.int b), .any]) rfl ?_
    have hg := fun i => gcd_div (a := a) (b := b) (i := i) (by omega) (pow_le_of hb (by decide))
    obtain ⟨n, rfl⟩ : ∃ n : Nat, b = (n : Int) := ⟨b.toNat, by omega⟩
    apply s_set
    · apply de_call0
      · walk_at "da"
      · exact R_gcd.mk a.natAbs n (by rw [Int.natAbs_natCast] at hb; exact hb)
    walk_at "norm"
    rw [Int.natAbs_natCast] at hg
    apply es_ret
    · apply de_tup
      · apply da_cons
        · apply de_op
          · walk_at "de"
          · walk_at "de"
          · exact rd_intC (hg _)
        · apply da_cons
          · apply de_op
            · walk_at "de"
            · walk_at "de"
            · exact rd_intC (hg _)
          · exact da_nil
      · walk_at "sz"
    · have h := low_any a (n : Int) h0
      rw [Int.natAbs_natCast] at h
      exact h.symm
theorem ok__law_is_integer (T : Txt K mg) : FnOk P w K mg base CX0 1 (He.ga K "_law_is_integer") (fdAt K (He.ga K "_law_is_integer")) ["value"] (spD K R_isint) := by
  refine T.F__law_is_integer.ok sc__law_is_integer (fun vs H Q E h => ?_) (fun cdv A outer s H vs Q E hr h => ?_)
  · obtain ⟨_, _, _, _, r, hR, _⟩ := h
    exact r.length.trans (by cases hR; rfl)
  · refine ⟨_, PSs.nox (pss_one (ps_ret (pe_and (pe_callB (call_isiK (K := K) rfl) (by rfl) T.z_isinstance (by decide +kernel) (pa_cons (pv 0) (pa_cons (pe_bltn (v := .ty "int") (by rfl) T.z_int (by decide +kernel) rfl) pa_nil))) (pe_one (pe_not (pe_callB (call_isiK (K := K) rfl) (by rfl) T.z_isinstance (by decide +kernel) (pa_cons (pv 0) (pa_cons (pe_bltn (v := .ty "bool") (by rfl) T.z_bool (by decide +kernel) rfl) pa_nil)))))))), body_ok h fun ds d hR => ?_⟩
    obtain ⟨a⟩ := hR
    refine body_mk (ρ := [.dat (.int a)]) rfl ?_
    refine es_ret (de_is (by walk_at "de") ?_) rfl
    rfl
theorem ok__law_same (T : Txt K mg) : FnOk P w K mg base CX0 2 (He.ga K "_law_same") (fdAt K (He.ga K "_law_same")) ["value", "due"] (spD K R_same) := by
  refine T.F__law_same.ok sc__law_same (fun vs H Q E h => ?_) (fun cdv A outer s H vs Q E hr h => ?_)
  · obtain ⟨_, _, _, _, r, hR, _⟩ := h
    exact r.length.trans (by cases hR; rfl)
  · refine ⟨_, PSs.nox (pss_cons (ps_if (PW.pt (pw_or (pt_not (pt_val (pe_callB (call_isiK (K := K) rfl) (by rfl) T.z_isinstance (by decide +kernel) (pa_cons (pv 0) (pa_cons (pe_bltn (v := .ty "tuple") (by rfl) T.z_tuple (by decide +kernel) rfl) pa_nil))))) (pw_or1 (pt_cmpR (op_neK (K := K) rfl hr.units) (pe_callB (call_lenK (K := K) rfl) (by rfl) T.z_len (by decide +kernel) (pa_cons (pv 0) pa_nil)) pe_int (nomark _))))) (pss_one (ps_ret pe_bl)) pss_nil)
    (pss_cons (ps_if (PW.pt (pw_or (pt_not (pt_val (pe_call (ok__law_is_integer T) (hr.mono (by decide)) (by rfl) T.g__law_is_integer T.F__law_is_integer.kp (b__law_is_integer T) .nil pass0 (pa_cons (pe_ix (ix_seqK (K := K) rfl) (pv 0) pe_int (fun _ _ => rfl)) pa_nil)))) (pw_or1 (pt_not (pt_val (pe_call (ok__law_is_integer T) (hr.mono (by decide)) (by rfl) T.g__law_is_integer T.F__law_is_integer.kp (b__law_is_integer T) .nil pass0 (pa_cons (pe_ix (ix_seqK (K := K) rfl) (pv 0) pe_int (fun _ _ => rfl)) pa_nil))))))) (pss_one (ps_ret pe_bl)) pss_nil)
    (pss_one (ps_ret (pe_and (pe_cmpR (op_eqK (K := K) rfl hr.units) (pe_ix (ix_seqK (K := K) rfl) (pv 0) pe_int (fun _ _ => rfl)) (pe_ix (ix_seqK (K := K) rfl) (pv 1) pe_int (fun _ _ => rfl)) (nomark _)) (pe_one (pe_cmpR (op_eqK (K := K) rfl hr.units) (pe_ix (ix_seqK (K := K) rfl) (pv 0) pe_int (fun _ _ => rfl)) (pe_ix (ix_seqK (K := K) rfl) (pv 1) pe_int (fun _ _ => rfl)) (nomark _)))))))), body_ok h fun ds d hR => ?_⟩
    obtain ⟨a, b⟩ := hR
    refine body_mk (ρ := [.dat (fq a), .dat (fq b)]) rfl ?_
    refine s_ifF (dt_is (b := false) (by walk_at "dt") (by rfl)) (es_next' ?_)
    refine s_ifF (dt_is (b := false) (by walk_at "dt") (by rfl)) (es_next' ?_)
    refine es_ret (de_is (by walk_at "de") ?_) rfl
    congr 1
    rw [← Bool.decide_and]
    refine decide_eq_decide.mpr ?_
    rw [← fq_inj (a := a) (b := b)]
    constructor
    · intro h; exact ⟨h.1, by omega⟩
    · intro h; exact ⟨h.1, by omega⟩
theorem ok__law_pair (T : Txt K mg) : FnOk P w K mg base CX0 2 (He.ga K "_law_pair") (fdAt K (He.ga K "_law_pair")) ["cell", "wide"] (spD K R_pair) := by
  refine T.F__law_pair.ok sc__law_pair (fun vs H Q E h => ?_) (fun cdv A outer s H vs Q E hr h => ?_)
  · obtain ⟨_, _, _, _, r, hR, _⟩ := h
    exact r.length.trans (by cases hR; rfl)
  · refine ⟨_, PSs.nox (pss_cons (ps_set (i := 2) sc__law_pair.nd rfl (by first | exact Or.inl rfl | exact Or.inr rfl) (pe_call (ok__law_digits T) (hr.mono (by decide)) (by rfl) T.g__law_digits T.F__law_digits.kp (b__law_digits T) .nil pass0 (pa_cons (pv 0) (pa_cons pe_int (pa_cons pe_int pa_nil)))))
    (pss_cons (ps_set (i := 3) sc__law_pair.nd rfl (by first | exact Or.inl rfl | exact Or.inr rfl) (pe_op (op_addK (K := K) rfl) (pe_ix (ix_seqK (K := K) rfl) (pv 2) pe_int (fun _ _ => rfl)) (pe_op op_mulG pe_int (pe_ix (ix_seqK (K := K) rfl) (pv 2) pe_int (fun _ _ => rfl)))))
    (pss_cons (ps_set (i := 4) sc__law_pair.nd rfl (by first | exact Or.inl rfl | exact Or.inr rfl) (pe_callB (call_max2 rfl) (by rfl) T.z_max (by decide +kernel) (pa_cons pe_int (pa_cons (pe_op (op_addK (K := K) rfl) (pe_ix (ix_seqK (K := K) rfl) (pv 2) pe_int (fun _ _ => rfl)) (pe_op op_mulG pe_int (pe_ix (ix_seqK (K := K) rfl) (pv 2) pe_int (fun _ _ => rfl)))) pa_nil))))
    (pss_cons (ps_if (pt_not (pt_val (pv 1))) (pss_cons (ps_set (i := 3) sc__law_pair.nd rfl (by first | exact Or.inl rfl | exact Or.inr rfl) (pe_op op_mod (pe_callTy (call_int1) (by rfl) T.z_int (by decide +kernel) (pa_cons (pe_ix (ix_seqK (K := K) rfl) (pv 2) pe_int (fun _ _ => rfl)) pa_nil)) pe_int))
    (pss_one (ps_set (i := 4) sc__law_pair.nd rfl (by first | exact Or.inl rfl | exact Or.inr rfl) (pe_op (op_addK (K := K) rfl) pe_int (pe_op op_mod (pe_callTy (call_int1) (by rfl) T.z_int (by decide +kernel) (pa_cons (pe_ix (ix_seqK (K := K) rfl) (pv 2) pe_int (fun _ _ => rfl)) pa_nil)) pe_int))))) pss_nil)
    (pss_cons (ps_if (pt_cmpR (op_eqK (K := K) rfl hr.units) (pe_op op_mod (pe_callTy (call_int1) (by rfl) T.z_int (by decide +kernel) (pa_cons (pe_ix (ix_seqK (K := K) rfl) (pv 2) pe_int (fun _ _ => rfl)) pa_nil)) pe_int) pe_int (nomark _)) (pss_one (ps_set (i := 3) sc__law_pair.nd rfl (by first | exact Or.inl rfl | exact Or.inr rfl) (pe_un un_neg (pv 3)))) pss_nil)
    (pss_one (ps_ret (pe_tup (pa_cons (pv 3) (pa_cons (pv 4) pa_nil)))))))))), body_ok h fun ds d hR => ?_⟩
    obtain ⟨c, w⟩ := hR
    refine body_mk (ρ := [.dat (.int c), .dat (.bl w), .any, .any, .any]) rfl ?_
    obtain ⟨x0, x1, x2, x3, e, h0, h1, h2, h3⟩ := dst4 c 1000000 (by decide)
    apply s_set
    · refine de_is (e := .lst [.int x0, .int x1, .int x2, .int x3]) (by
        apply de_call0
        · walk_at "da"
        · exact R_digits.mk c 1000000 4 (by decide) (by decide) (by decide)) ?_
      rw [e]
      rfl
    walk_at "norm"
    walk_at "s"
    walk_at "s"
    have ep : pr c w = (if x3 % 3 = 1 then -(if w = true then x0 + 1000000 * x1 else x0 % 13) else (if w = true then x0 + 1000000 * x1 else x0 % 13), if w = true then max 1 (x2 + 1000000 * x3) else 1 + x2 % 6) := by
      unfold pr
      rw [e]
      rfl
    rw [ep]
    refine s_ifJ [.dat (.int c), .dat (.bl w), .dat (.lst [.int x0, .int x1, .int x2, .int x3]), .dat (.int (if w = true then x0 + 1000000 * x1 else x0 % 13)), .dat (.int (if w = true then max 1 (x2 + 1000000 * x3) else 1 + x2 % 6))] (by walk_at "dt") (fun h => ?_) (fun h => ?_) ?_
    · cases w
      · walk_at "s"
        walk_at "e"
        walk_at "wk"
      · cases h
    · cases w
      · cases h
      · walk_at "e"
        walk_at "wk"
    refine s_ifJ [.dat (.int c), .dat (.bl w), .dat (.lst [.int x0, .int x1, .int x2, .int x3]), .dat (.int (if x3 % 3 = 1 then -(if w = true then x0 + 1000000 * x1 else x0 % 13) else (if w = true then x0 + 1000000 * x1 else x0 % 13))), .dat (.int (if w = true then max 1 (x2 + 1000000 * x3) else 1 + x2 % 6))] (by walk_at "dt") (fun h => ?_) (fun h => ?_) ?_
    · have h := of_decide_eq_true h
      walk_at "e"
      rw [if_pos h]
      walk_at "wk"
    · have h := of_decide_eq_false h
      walk_at "e"
      rw [if_neg h]
      walk_at "wk"
    apply es_ret
    · walk_at "de"
    · rfl
theorem ok__law_zero_denominator (T : Txt K mg) : FnOk P w K mg base CX0 4 (He.ga K "_law_zero_denominator") (fdAt K (He.ga K "_law_zero_denominator")) ["num"] (spD K R_zden) := by
  refine T.F__law_zero_denominator.ok sc__law_zero_denominator (fun vs H Q E h => ?_) (fun cdv A outer s H vs Q E hr h => ?_)
  · obtain ⟨_, _, _, _, r, hR, _⟩ := h
    exact r.length.trans (by cases hR; rfl)
  · obtain ⟨_, v0_fraction, b0_fraction⟩ := b0_fraction T
    refine ⟨_, PSs.nox (pss_cons (ps_tryD (K := K) (i := 1) rfl rfl rfl sc__law_zero_denominator.nd rfl rfl ⟨rfl, by decide, .inl T.g_BadNumber⟩ takes0 (fun W pn xe tk _ => (pss_one (ps_expr (pe_callR (K := K) rfl tk (okR_fraction T) (hr.mono (by decide)) (by rfl) T.g_fraction T.F_fraction.kp b0_fraction v0_fraction (pa_cons (pv 0) (pa_cons pe_int pa_nil)))))) (fun a oe cls d pn hz hf => (pss_one (ps_ret (pe_cmpR (op_eqK (K := K) rfl hr.units) (pe_callE (k := 0) (x := "error") T.F__law_place sc__law_place (roomS hr (by decide) _) List.mem_cons_self (by rfl) T.g__law_place (b__law_place T) (fun cdv s H E rm => (pss_cons (ps_if (PW.pt (pw_or (pt_not (pt_val (pe_callB (call_isX (K := K) rfl List.mem_cons_self hz hf) (by rfl) T.z_isinstance (by decide +kernel) (pa_cons (pv 0) (pa_cons (pe_glob (v := .ref (He.ga K "MarketError")) (by rfl) T.g_MarketError rfl) pa_nil))))) (pw_or (pt_not (pt_val (pe_callB (call_isX (K := K) rfl List.mem_cons_self hz hf) (by rfl) T.z_isinstance (by decide +kernel) (pa_cons (pv 0) (pa_cons (pe_bltn (v := .ty "ValueError") (by rfl) T.z_ValueError (by decide +kernel) rfl) pa_nil))))) (pw_or1 (pt_val (pe_callB (call_isX (K := K) rfl List.mem_cons_self hz hf) (by rfl) T.z_isinstance (by decide +kernel) (pa_cons (pv 0) (pa_cons (pe_glob (v := .ref (He.ga K "BadShape")) (by rfl) T.g_BadShape rfl) pa_nil)))))))) (pss_one (ps_ret pe_str)) pss_nil)
    (pss_one (ps_ret (pe_xg (K := K) rfl List.mem_cons_self hz hf (pv 0)))))) (pa_cons (pv 1) pa_nil)) pe_str (nomark _))))))
    (pss_one (ps_ret pe_bl))), body_ok h fun ds d hR => ?_⟩
    obtain ⟨x⟩ := hR
    refine body_mk (ρ := [.dat (.int x), .any]) rfl ?_
    apply es_seq
    refine es_try fun W' => ?_
    apply es_dropR
    · exact dr_call (dds := []) (ds := [.int x, .int 0]) (by walk_at "da") (fun _ => rfl) (RX_fraction.mk x)
    refine ⟨T.e_BadNumber_BadNumber, fun a dd => ?_⟩
    walk_at "norm"
    apply es_ret
    · apply de_op
      · apply de_callE
        · walk_at "da"
        · refine body_mk (d := .str "denominator") (ρ := [.dat (.exc a (He.ga K "BadNumber") dd [("place", .str "denominator")])]) rfl ?_
          refine s_ifF (dt_is (b := false) (by
            apply dt_or
            · apply dt_not
              apply dt_B
              exact de_cb (da_cons (de_var rfl) (da_cons de_ref da_nil)) (rc_isX T.x_BadNumber T.k_BadNumber_MarketError)
            · intro _
              apply dt_or
              · apply dt_not
                apply dt_B
                exact de_cb (da_cons (de_var rfl) (da_cons de_ty da_nil)) (rc_isXty T.x_BadNumber T.k_BadNumber_ValueError)
              · intro _
                apply dt_B
                exact de_cb (da_cons (de_var rfl) (da_cons de_ref da_nil)) (rc_isX T.x_BadNumber T.k_BadNumber_BadShape)) (by rfl)) (es_next' ?_)
          exact es_ret (de_xg T.x_BadNumber T.n_BadNumber_place (de_var rfl) rfl) rfl
      · walk_at "de"
      · walk_at "rd"
    · rfl
theorem ok__law_zero_divisor (T : Txt K mg) : FnOk P w K mg base CX0 4 (He.ga K "_law_zero_divisor") (fdAt K (He.ga K "_law_zero_divisor")) ["value"] (spD K R_zdiv) := by
  refine T.F__law_zero_divisor.ok sc__law_zero_divisor (fun vs H Q E h => ?_) (fun cdv A outer s H vs Q E hr h => ?_)
  · obtain ⟨_, _, _, _, r, hR, _⟩ := h
    exact r.length.trans (by cases hR; rfl)
  · refine ⟨_, PSs.nox (pss_cons (ps_tryD (K := K) (i := 1) rfl rfl rfl sc__law_zero_divisor.nd rfl rfl ⟨rfl, by decide, .inl T.g_BadNumber⟩ takes0 (fun W pn xe tk _ => (pss_one (ps_expr (pe_callR (K := K) rfl tk (okR_divide T) (hr.mono (by decide)) (by rfl) T.g_divide T.F_divide.kp (b_divide T) .nil (pa_cons (pv 0) (pa_cons (pe_tup (pa_cons pe_int (pa_cons pe_int pa_nil))) pa_nil)))))) (fun a oe cls d pn hz hf => (pss_one (ps_ret (pe_cmpR (op_eqK (K := K) rfl hr.units) (pe_callE (k := 0) (x := "error") T.F__law_place sc__law_place (roomS hr (by decide) _) List.mem_cons_self (by rfl) T.g__law_place (b__law_place T) (fun cdv s H E rm => (pss_cons (ps_if (PW.pt (pw_or (pt_not (pt_val (pe_callB (call_isX (K := K) rfl List.mem_cons_self hz hf) (by rfl) T.z_isinstance (by decide +kernel) (pa_cons (pv 0) (pa_cons (pe_glob (v := .ref (He.ga K "MarketError")) (by rfl) T.g_MarketError rfl) pa_nil))))) (pw_or (pt_not (pt_val (pe_callB (call_isX (K := K) rfl List.mem_cons_self hz hf) (by rfl) T.z_isinstance (by decide +kernel) (pa_cons (pv 0) (pa_cons (pe_bltn (v := .ty "ValueError") (by rfl) T.z_ValueError (by decide +kernel) rfl) pa_nil))))) (pw_or1 (pt_val (pe_callB (call_isX (K := K) rfl List.mem_cons_self hz hf) (by rfl) T.z_isinstance (by decide +kernel) (pa_cons (pv 0) (pa_cons (pe_glob (v := .ref (He.ga K "BadShape")) (by rfl) T.g_BadShape rfl) pa_nil)))))))) (pss_one (ps_ret pe_str)) pss_nil)
    (pss_one (ps_ret (pe_xg (K := K) rfl List.mem_cons_self hz hf (pv 0)))))) (pa_cons (pv 1) pa_nil)) pe_str (nomark _))))))
    (pss_one (ps_ret pe_bl))), body_ok h fun ds d hR => ?_⟩
    obtain ⟨q⟩ := hR
    refine body_mk (ρ := [.dat (fq q), .any]) rfl ?_
    apply es_seq
    refine es_try fun W' => ?_
    apply es_dropR
    · exact dr_call (dds := []) (ds := [fq q, fq 0]) (by walk_at "da") (fun _ => rfl) (RX_divide.mk q)
    refine ⟨T.e_BadNumber_BadNumber, fun a dd => ?_⟩
    walk_at "norm"
    apply es_ret
    · apply de_op
      · apply de_callE
        · walk_at "da"
        · refine body_mk (d := .str "divisor") (ρ := [.dat (.exc a (He.ga K "BadNumber") dd [("place", .str "divisor")])]) rfl ?_
          refine s_ifF (dt_is (b := false) (by
            apply dt_or
            · apply dt_not
              apply dt_B
              exact de_cb (da_cons (de_var rfl) (da_cons de_ref da_nil)) (rc_isX T.x_BadNumber T.k_BadNumber_MarketError)
            · intro _
              apply dt_or
              · apply dt_not
                apply dt_B
                exact de_cb (da_cons (de_var rfl) (da_cons de_ty da_nil)) (rc_isXty T.x_BadNumber T.k_BadNumber_ValueError)
              · intro _
                apply dt_B
                exact de_cb (da_cons (de_var rfl) (da_cons de_ref da_nil)) (rc_isX T.x_BadNumber T.k_BadNumber_BadShape)) (by rfl)) (es_next' ?_)
          exact es_ret (de_xg T.x_BadNumber T.n_BadNumber_place (de_var rfl) rfl) rfl
      · walk_at "de"
      · walk_at "rd"
    · rfl
theorem ok__law_flag (T : Txt K mg) : FnOk P w K mg base CX0 1 (He.ga K "_law_flag") (fdAt K (He.ga K "_law_flag")) ["value", "due"] (spD K R_flag) := by
  refine T.F__law_flag.ok sc__law_flag (fun vs H Q E h => ?_) (fun cdv A outer s H vs Q E hr h => ?_)
  · obtain ⟨_, _, _, _, r, hR, _⟩ := h
    exact r.length.trans (by cases hR; rfl)
  · refine ⟨_, PSs.nox (pss_one (ps_ret (pe_and (pe_callB (call_isiK (K := K) rfl) (by rfl) T.z_isinstance (by decide +kernel) (pa_cons (pv 0) (pa_cons (pe_bltn (v := .ty "bool") (by rfl) T.z_bool (by decide +kernel) rfl) pa_nil))) (pe_one (pe_cmpR (op_eqK (K := K) rfl hr.units) (pv 0) (pv 1) (nomark _)))))), body_ok h fun ds d hR => ?_⟩
    obtain ⟨a, b⟩ := hR
    refine body_mk (ρ := [.dat (.bl a), .dat (.bl b)]) rfl ?_
    refine es_ret (de_is (by walk_at "de") ?_) rfl
    rfl
theorem ok__law_two (T : Txt K mg) : FnOk P w K mg base CX0 3 (He.ga K "_law_two") (fdAt K (He.ga K "_law_two")) ["first", "second"] (spD K R_two) := by
  refine T.F__law_two.ok sc__law_two (fun vs H Q E h => ?_) (fun cdv A outer s H vs Q E hr h => ?_)
  · obtain ⟨_, _, _, _, r, hR, _⟩ := h
    exact r.length.trans (by cases hR; rfl)
  · refine ⟨_, PSs.nox (pss_cons (ps_if (pt_not (pt_val (pe_call (ok__law_same T) (hr.mono (by decide)) (by rfl) T.g__law_same T.F__law_same.kp (b__law_same T) .nil pass0 (pa_cons (pe_call (ok_add T) (hr.mono (by decide)) (by rfl) T.g_add T.F_add.kp (b_add T) .nil pass0 (pa_cons (pv 0) (pa_cons (pv 1) pa_nil))) (pa_cons (pe_call (ok__law_lowest T) (hr.mono (by decide)) (by rfl) T.g__law_lowest T.F__law_lowest.kp (b__law_lowest T) .nil pass0 (pa_cons (pe_op (op_addK (K := K) rfl) (pe_op op_mulG (pe_ix (ix_seqK (K := K) rfl) (pv 0) pe_int (fun _ _ => rfl)) (pe_ix (ix_seqK (K := K) rfl) (pv 1) pe_int (fun _ _ => rfl))) (pe_op op_mulG (pe_ix (ix_seqK (K := K) rfl) (pv 1) pe_int (fun _ _ => rfl)) (pe_ix (ix_seqK (K := K) rfl) (pv 0) pe_int (fun _ _ => rfl)))) (pa_cons (pe_op op_mulG (pe_ix (ix_seqK (K := K) rfl) (pv 0) pe_int (fun _ _ => rfl)) (pe_ix (ix_seqK (K := K) rfl) (pv 1) pe_int (fun _ _ => rfl))) pa_nil))) pa_nil))))) (pss_one (ps_ret pe_bl)) pss_nil)
    (pss_cons (ps_set (i := 2) sc__law_two.nd rfl (by first | exact Or.inl rfl | exact Or.inr rfl) (pe_call (ok__law_lowest T) (hr.mono (by decide)) (by rfl) T.g__law_lowest T.F__law_lowest.kp (b__law_lowest T) .nil pass0 (pa_cons (pe_op op_sub (pe_op op_mulG (pe_ix (ix_seqK (K := K) rfl) (pv 0) pe_int (fun _ _ => rfl)) (pe_ix (ix_seqK (K := K) rfl) (pv 1) pe_int (fun _ _ => rfl))) (pe_op op_mulG (pe_ix (ix_seqK (K := K) rfl) (pv 1) pe_int (fun _ _ => rfl)) (pe_ix (ix_seqK (K := K) rfl) (pv 0) pe_int (fun _ _ => rfl)))) (pa_cons (pe_op op_mulG (pe_ix (ix_seqK (K := K) rfl) (pv 0) pe_int (fun _ _ => rfl)) (pe_ix (ix_seqK (K := K) rfl) (pv 1) pe_int (fun _ _ => rfl))) pa_nil))))
    (pss_cons (ps_if (pt_not (pt_val (pe_call (ok__law_same T) (hr.mono (by decide)) (by rfl) T.g__law_same T.F__law_same.kp (b__law_same T) .nil pass0 (pa_cons (pe_call (ok_subtract T) (hr.mono (by decide)) (by rfl) T.g_subtract T.F_subtract.kp (b_subtract T) .nil pass0 (pa_cons (pv 0) (pa_cons (pv 1) pa_nil))) (pa_cons (pv 2) pa_nil))))) (pss_one (ps_ret pe_bl)) pss_nil)
    (pss_cons (ps_if (pt_not (pt_val (pe_call (ok__law_same T) (hr.mono (by decide)) (by rfl) T.g__law_same T.F__law_same.kp (b__law_same T) .nil pass0 (pa_cons (pe_call (ok_multiply T) (hr.mono (by decide)) (by rfl) T.g_multiply T.F_multiply.kp (b_multiply T) .nil pass0 (pa_cons (pv 0) (pa_cons (pv 1) pa_nil))) (pa_cons (pe_call (ok__law_lowest T) (hr.mono (by decide)) (by rfl) T.g__law_lowest T.F__law_lowest.kp (b__law_lowest T) .nil pass0 (pa_cons (pe_op op_mulG (pe_ix (ix_seqK (K := K) rfl) (pv 0) pe_int (fun _ _ => rfl)) (pe_ix (ix_seqK (K := K) rfl) (pv 1) pe_int (fun _ _ => rfl))) (pa_cons (pe_op op_mulG (pe_ix (ix_seqK (K := K) rfl) (pv 0) pe_int (fun _ _ => rfl)) (pe_ix (ix_seqK (K := K) rfl) (pv 1) pe_int (fun _ _ => rfl))) pa_nil))) pa_nil))))) (pss_one (ps_ret pe_bl)) pss_nil)
    (pss_cons (ps_if (pt_cmpR (op_neK (K := K) rfl hr.units) (pe_ix (ix_seqK (K := K) rfl) (pv 1) pe_int (fun _ _ => rfl)) pe_int (nomark _)) (pss_cons (ps_set (i := 3) sc__law_two.nd rfl (by first | exact Or.inl rfl | exact Or.inr rfl) (pe_op op_mulG (pe_ix (ix_seqK (K := K) rfl) (pv 0) pe_int (fun _ _ => rfl)) (pe_ix (ix_seqK (K := K) rfl) (pv 1) pe_int (fun _ _ => rfl))))
    (pss_cons (ps_set (i := 4) sc__law_two.nd rfl (by first | exact Or.inl rfl | exact Or.inr rfl) (pe_op op_mulG (pe_ix (ix_seqK (K := K) rfl) (pv 0) pe_int (fun _ _ => rfl)) (pe_ix (ix_seqK (K := K) rfl) (pv 1) pe_int (fun _ _ => rfl))))
    (pss_cons (ps_if (pt_cmpR op_lt (pv 4) pe_int (nomark _)) (pss_cons (ps_set (i := 3) sc__law_two.nd rfl (by first | exact Or.inl rfl | exact Or.inr rfl) (pe_un un_neg (pv 3)))
    (pss_one (ps_set (i := 4) sc__law_two.nd rfl (by first | exact Or.inl rfl | exact Or.inr rfl) (pe_un un_neg (pv 4))))) pss_nil)
    (pss_one (ps_if (pt_not (pt_val (pe_call (ok__law_same T) (hr.mono (by decide)) (by rfl) T.g__law_same T.F__law_same.kp (b__law_same T) .nil pass0 (pa_cons (pe_call (ok_divide T) (hr.mono (by decide)) (by rfl) T.g_divide T.F_divide.kp (b_divide T) .nil pass0 (pa_cons (pv 0) (pa_cons (pv 1) pa_nil))) (pa_cons (pe_call (ok__law_lowest T) (hr.mono (by decide)) (by rfl) T.g__law_lowest T.F__law_lowest.kp (b__law_lowest T) .nil pass0 (pa_cons (pv 3) (pa_cons (pv 4) pa_nil))) pa_nil))))) (pss_one (ps_ret pe_bl)) pss_nil))))) pss_nil)
    (pss_cons (ps_set (i := 5) sc__law_two.nd rfl (by first | exact Or.inl rfl | exact Or.inr rfl) (pe_cmpR op_lt (pe_op op_mulG (pe_ix (ix_seqK (K := K) rfl) (pv 0) pe_int (fun _ _ => rfl)) (pe_ix (ix_seqK (K := K) rfl) (pv 1) pe_int (fun _ _ => rfl))) (pe_op op_mulG (pe_ix (ix_seqK (K := K) rfl) (pv 1) pe_int (fun _ _ => rfl)) (pe_ix (ix_seqK (K := K) rfl) (pv 0) pe_int (fun _ _ => rfl))) (nomark _)))
    (pss_cons (ps_set (i := 6) sc__law_two.nd rfl (by first | exact Or.inl rfl | exact Or.inr rfl) (pe_cmpR op_lt (pe_op op_mulG (pe_ix (ix_seqK (K := K) rfl) (pv 1) pe_int (fun _ _ => rfl)) (pe_ix (ix_seqK (K := K) rfl) (pv 0) pe_int (fun _ _ => rfl))) (pe_op op_mulG (pe_ix (ix_seqK (K := K) rfl) (pv 0) pe_int (fun _ _ => rfl)) (pe_ix (ix_seqK (K := K) rfl) (pv 1) pe_int (fun _ _ => rfl))) (nomark _)))
    (pss_cons (ps_if (PW.pt (pw_or (pt_not (pt_val (pe_call (ok__law_flag T) (hr.mono (by decide)) (by rfl) T.g__law_flag T.F__law_flag.kp (b__law_flag T) .nil pass0 (pa_cons (pe_call (ok_less T) (hr.mono (by decide)) (by rfl) T.g_less T.F_less.kp (b_less T) .nil pass0 (pa_cons (pv 0) (pa_cons (pv 1) pa_nil))) (pa_cons (pv 5) pa_nil))))) (pw_or1 (pt_not (pt_val (pe_call (ok__law_flag T) (hr.mono (by decide)) (by rfl) T.g__law_flag T.F__law_flag.kp (b__law_flag T) .nil pass0 (pa_cons (pe_call (ok_less T) (hr.mono (by decide)) (by rfl) T.g_less T.F_less.kp (b_less T) .nil pass0 (pa_cons (pv 1) (pa_cons (pv 0) pa_nil))) (pa_cons (pv 6) pa_nil)))))))) (pss_one (ps_ret pe_bl)) pss_nil)
    (pss_one (ps_ret (pe_cmpR op_isBl (pe_call (ok_less T) (hr.mono (by decide)) (by rfl) T.g_less T.F_less.kp (b_less T) .nil pass0 (pa_cons (pv 0) (pa_cons (pv 0) pa_nil))) pe_bl (nomark _)))))))))))), body_ok h fun ds d hR => ?_⟩
    obtain ⟨a, b, ha, hb⟩ := hR
    refine body_mk (ρ := [.dat (fq a), .dat (fq b), .any, .any, .any, .any, .any]) rfl ?_
    have ha' := ha.mono (n := 4000) (by decide)
    have hb' := hb.mono (n := 4000) (by decide)
    have h1 := cmul_of (i := a.num) (j := (b.den : Int)) (n := 4000) ha'.nu (by rw [Int.natAbs_natCast]; exact hb'.de) (by decide) (by decide)
    have h2 := cmul_of (i := b.num) (j := (a.den : Int)) (n := 4000) hb'.nu (by rw [Int.natAbs_natCast]; exact ha'.de) (by decide) (by decide)
    have h3 := cmul_of (i := (a.den : Int)) (j := (b.den : Int)) (n := 4000) (by rw [Int.natAbs_natCast]; exact ha'.de) (by rw [Int.natAbs_natCast]; exact hb'.de) (by decide) (by decide)
    have h4 := cmul_of (i := a.num) (j := b.num) (n := 4000) ha'.nu hb'.nu (by decide) (by decide)
    have h4' := cmul_of (i := (a.den : Int)) (j := b.num) (n := 4000) (by rw [Int.natAbs_natCast]; exact ha'.de) hb'.nu (by decide) (by decide)
    have h5 : ((a.den : Int) * (b.den : Int)).natAbs < 2 ^ 900 := by
      rw [Int.natAbs_mul, Int.natAbs_natCast, Int.natAbs_natCast]
      exact pow_le_of (mul_lt_pow ha.de hb.de) (by decide)
    have h6 : 0 < (a.den : Int) * (b.den : Int) := Int.mul_pos (den_pos a) (den_pos b)
    
    refine s_ifF (dt_is (b := false) (by
      apply dt_not
      apply dt_B
      apply de_call0
      · apply da_cons
        · apply de_call0
          · walk_at "da"
          · exact R_add.mk _ _ ha' hb'
        · apply da_cons
          · apply de_call0
            · walk_at "da"
            · exact R_lowest.mk _ _ h6 h5
          · exact da_nil
      · exact R_same.mk _ _) (by rw [add_divInt, decide_eq_true rfl]; rfl)) (es_next' ?_)
    
    apply s_set
    · apply de_call0
      · walk_at "da"
      · exact R_lowest.mk _ _ h6 h5
    walk_at "norm"
    rw [sub_divInt]
    refine s_ifF (dt_is (b := false) (by
      apply dt_not
      apply dt_B
      apply de_call0
      · apply da_cons
        · apply de_call0
          · walk_at "da"
          · exact R_subtract.mk _ _ ha' hb'
        · walk_at "da"
      · exact R_same.mk _ _) (by rw [decide_eq_true rfl]; rfl)) (es_next' ?_)
    
    refine s_ifF (dt_is (b := false) (by
      apply dt_not
      apply dt_B
      apply de_call0
      · apply da_cons
        · apply de_call0
          · walk_at "da"
          · exact R_multiply.mk _ _ ha' hb'
        · apply da_cons
          · apply de_call0
            · walk_at "da"
            · exact R_lowest.mk _ _ h6 h5
          · exact da_nil
      · exact R_same.mk _ _) (by rw [mul_divInt, decide_eq_true rfl]; rfl)) (es_next' ?_)
    
    refine s_ifJ [.dat (fq a), .dat (fq b), .dat (fq (a - b)), .any, .any, .any, .any] (by walk_at "dt") (fun h => ?_) (fun h => ?_) ?_
    · have hz : b.num ≠ 0 := fun z => by rw [z] at h; exact Bool.noConfusion h
      have hb0 : b ≠ 0 := fun z => hz (by rw [z]; rfl)
      walk_at "s"
      walk_at "s"
      refine s_ifJ [.dat (fq a), .dat (fq b), .dat (fq (a - b)), .dat (.int (if (a.den : Int) * b.num < 0 then -(a.num * b.den) else a.num * b.den)), .dat (.int (if (a.den : Int) * b.num < 0 then -((a.den : Int) * b.num) else (a.den : Int) * b.num)), .any, .any] (by walk_at "dt") (fun h => ?_) (fun h => ?_) ?_
      · have h := of_decide_eq_true h
        walk_at "s"
        walk_at "e"
        rw [if_pos h, if_pos h]
        walk_at "wk"
      · have h := of_decide_eq_false h
        walk_at "e"
        rw [if_neg h, if_neg h]
        walk_at "wk"
      have hne : (a.den : Int) * b.num ≠ 0 := Int.mul_ne_zero (den_ne a) hz
      have h7 : ((a.den : Int) * b.num).natAbs < 2 ^ 900 := by
        rw [Int.natAbs_mul, Int.natAbs_natCast]
        exact pow_le_of (mul_lt_pow ha.de hb.nu) (by decide)
      have h8 : 0 < (if (a.den : Int) * b.num < 0 then -((a.den : Int) * b.num) else (a.den : Int) * b.num) := by split <;> omega
      have h9 : (if (a.den : Int) * b.num < 0 then -((a.den : Int) * b.num) else (a.den : Int) * b.num).natAbs < 2 ^ 900 := by
        split
        · rw [Int.natAbs_neg]; exact h7
        · exact h7
      have h10 : Rat.divInt (if (a.den : Int) * b.num < 0 then -(a.num * b.den) else a.num * b.den) (if (a.den : Int) * b.num < 0 then -((a.den : Int) * b.num) else (a.den : Int) * b.num) = a / b := by
        rw [← div_divInt]
        split
        · rw [Rat.divInt_neg', Int.neg_neg]
        · rfl
      refine es_ifF (dt_is (b := false) (by
        apply dt_not
        apply dt_B
        apply de_call0
        · apply da_cons
          · apply de_call0
            · walk_at "da"
            · exact R_divide.mk _ _ ha' hb' hb0
          · apply da_cons
            · apply de_call0
              · walk_at "da"
              · exact R_lowest.mk _ _ h8 h9
            · exact da_nil
        · exact R_same.mk _ _) (by rw [h10, decide_eq_true rfl]; rfl)) (es_next ?_)
      walk_at "wk"
    · apply es_next
      walk_at "wk"
    apply s_set
    · walk_at "de"
    walk_at "norm"
    apply s_set
    · walk_at "de"
    walk_at "norm"
    refine s_ifF (dt_is (b := false) (by
      apply dt_or
      · apply dt_not
        apply dt_B
        apply de_call0
        · apply da_cons
          · apply de_call0
            · walk_at "da"
            · exact R_less.mk _ _ ha' hb'
          · walk_at "da"
        · exact R_flag.mk _ _
      · intro _
        apply dt_not
        apply dt_B
        apply de_call0
        · apply da_cons
          · apply de_call0
            · walk_at "da"
            · exact R_less.mk _ _ hb' ha'
          · walk_at "da"
        · exact R_flag.mk _ _) (by
      rw [decide_eq_decide.mpr (Rat.lt_iff a b), decide_eq_decide.mpr (Rat.lt_iff b a), decide_eq_true rfl, decide_eq_true rfl]
      rfl)) (es_next' ?_)
    refine es_ret (de_is (by
      apply de_op
      · apply de_call0
        · walk_at "da"
        · exact R_less.mk _ _ ha' ha'
      · walk_at "de"
      · walk_at "rd") ?_) rfl
    have e : decide (a < a) = false := decide_eq_false (by rw [Rat.lt_iff]; exact Int.lt_irrefl _)
    rw [e]
    rfl
theorem ok__law_sum (T : Txt K mg) : FnOk P w K mg base CX0 3 (He.ga K "_law_sum") (fdAt K (He.ga K "_law_sum")) ["values"] (spD K R_sum) := by
  refine T.F__law_sum.ok sc__law_sum (fun vs H Q E h => ?_) (fun cdv A outer s H vs Q E hr h => ?_)
  · obtain ⟨_, _, _, _, r, hR, _⟩ := h
    exact r.length.trans (by cases hR; rfl)
  · refine ⟨_, PSs.nox (pss_cons (ps_set (i := 1) sc__law_sum.nd rfl (by first | exact Or.inl rfl | exact Or.inr rfl) pe_int)
    (pss_cons (ps_set (i := 2) sc__law_sum.nd rfl (by first | exact Or.inl rfl | exact Or.inr rfl) pe_int)
    (pss_cons (ps_for PassesOwn.never rfl (pi_listK (K := K) rfl (pv 0)) (pg_name (i := 3) sc__law_sum.nd rfl (by first | exact Or.inl rfl | exact Or.inr rfl)) (pss_cons (ps_set (i := 1) sc__law_sum.nd rfl (by first | exact Or.inl rfl | exact Or.inr rfl) (pe_op (op_addK (K := K) rfl) (pe_op op_mulG (pv 1) (pe_ix (ix_seqK (K := K) rfl) (pv 3) pe_int (fun _ _ => rfl))) (pe_op op_mulG (pe_ix (ix_seqK (K := K) rfl) (pv 3) pe_int (fun _ _ => rfl)) (pv 2))))
    (pss_one (ps_set (i := 2) sc__law_sum.nd rfl (by first | exact Or.inl rfl | exact Or.inr rfl) (pe_op op_mulG (pv 2) (pe_ix (ix_seqK (K := K) rfl) (pv 3) pe_int (fun _ _ => rfl)))))))
    (pss_one (ps_ret (pe_call (ok__law_lowest T) (hr.mono (by decide)) (by rfl) T.g__law_lowest T.F__law_lowest.kp (b__law_lowest T) .nil pass0 (pa_cons (pv 1) (pa_cons (pv 2) pa_nil)))))))), body_ok h fun ds d hR => ?_⟩
    obtain ⟨ps, hl, hp⟩ := hR
    refine body_mk (ρ := [.dat (.lst (ps.map pd)), .any, .any, .any]) rfl ?_
    have hu := usm_ok ps hp
    walk_at "s"
    walk_at "s"
    refine s_for (di_list (de_var rfl)) (fun i τ => τ = [.dat (.lst (ps.map pd)), .dat (.int (usm (ps.take i)).1), .dat (.int (usm (ps.take i)).2), .any]) ⟨_, by walk_at "wk", rfl⟩ (fun i d τ hd hτ => ?_) (fun τ hτ => ?_)
    · subst hτ
      rw [List.getElem?_map] at hd
      obtain ⟨p, hq1, rfl⟩ := Option.map_eq_some_iff.mp hd
      have hi := (List.getElem?_eq_some_iff.mp hq1).1
      have es : usm (ps.take (i + 1)) = ((usm (ps.take i)).1 * p.2 + p.1 * (usm (ps.take i)).2, (usm (ps.take i)).2 * p.2) := by
        rw [List.take_add_one, hq1]
        exact usm_snoc _ _
      obtain ⟨⟨i1, i2, i3⟩, _⟩ := hu i (by omega)
      obtain ⟨p1, p2, p3⟩ := hp p (List.mem_of_getElem? hq1)
      have hn : (100 + 1) * i + 1 ≤ 1000 := by omega
      have i2 := pow_le_of i2 hn
      have i3 := pow_le_of i3 hn
      have p2 := pow_le_of p2 (by decide : 100 ≤ 1000)
      have p3 := pow_le_of p3 (by decide : 100 ≤ 1000)
      generalize usm (ps.take i) = s at *
      have h1 := cmul_of i3 p2 (by decide) (by decide)
      have h2 := cmul_of p3 i2 (by decide) (by decide)
      have h3 := cmul_of i2 p2 (by decide) (by decide)
      refine ⟨_, dg_name, ?_⟩
      walk_at "norm"
      walk_at "s"
      walk_at "e"
      refine ⟨_, ?_, rfl⟩
      rw [es]
      walk_at "wk"
    · subst hτ
      obtain ⟨⟨i1, i2, i3⟩, i4⟩ := hu ps.length (Nat.le_refl _)
      rw [List.length_map]
      rw [List.take_length] at *
      apply es_ret
      · apply de_call0
        · walk_at "da"
        · exact R_lowest.mk _ _ i1 (pow_le_of i2 (by omega))
      · exact fq_eq i4
theorem ok__law_ends (T : Txt K mg) : FnOk P w K mg base CX0 1 (He.ga K "_law_ends") (fdAt K (He.ga K "_law_ends")) ["values"] (spD K R_ends) := by
  refine T.F__law_ends.ok sc__law_ends (fun vs H Q E h => ?_) (fun cdv A outer s H vs Q E hr h => ?_)
  · obtain ⟨_, _, _, _, r, hR, _⟩ := h
    exact r.length.trans (by cases hR; rfl)
  · refine ⟨_, PSs.nox (pss_cons (ps_set (i := 1) sc__law_ends.nd rfl (by first | exact Or.inl rfl | exact Or.inr rfl) (pe_ix (ix_seqK (K := K) rfl) (pv 0) pe_int (fun _ _ => rfl)))
    (pss_cons (ps_set (i := 2) sc__law_ends.nd rfl (by first | exact Or.inl rfl | exact Or.inr rfl) (pe_ix (ix_seqK (K := K) rfl) (pv 0) pe_int (fun _ _ => rfl)))
    (pss_cons (ps_for PassesOwn.never rfl (pi_listK (K := K) rfl (pv 0)) (pg_name (i := 3) sc__law_ends.nd rfl (by first | exact Or.inl rfl | exact Or.inr rfl)) (pss_cons (ps_if (pt_cmpR op_lt (pe_op op_mulG (pe_ix (ix_seqK (K := K) rfl) (pv 3) pe_int (fun _ _ => rfl)) (pe_ix (ix_seqK (K := K) rfl) (pv 1) pe_int (fun _ _ => rfl))) (pe_op op_mulG (pe_ix (ix_seqK (K := K) rfl) (pv 1) pe_int (fun _ _ => rfl)) (pe_ix (ix_seqK (K := K) rfl) (pv 3) pe_int (fun _ _ => rfl))) (nomark _)) (pss_one (ps_set (i := 1) sc__law_ends.nd rfl (by first | exact Or.inl rfl | exact Or.inr rfl) (pv 3))) pss_nil)
    (pss_one (ps_if (pt_cmpR op_lt (pe_op op_mulG (pe_ix (ix_seqK (K := K) rfl) (pv 2) pe_int (fun _ _ => rfl)) (pe_ix (ix_seqK (K := K) rfl) (pv 3) pe_int (fun _ _ => rfl))) (pe_op op_mulG (pe_ix (ix_seqK (K := K) rfl) (pv 3) pe_int (fun _ _ => rfl)) (pe_ix (ix_seqK (K := K) rfl) (pv 2) pe_int (fun _ _ => rfl))) (nomark _)) (pss_one (ps_set (i := 2) sc__law_ends.nd rfl (by first | exact Or.inl rfl | exact Or.inr rfl) (pv 3))) pss_nil))))
    (pss_one (ps_ret (pe_lst (pa_cons (pv 1) (pa_cons (pv 2) pa_nil)))))))), body_ok h fun ds d hR => ?_⟩
    obtain ⟨q, qs, hq⟩ := hR
    refine body_mk (ρ := [.dat (.lst ((q :: qs).map fq)), .any, .any, .any]) rfl ?_
    walk_at "s"
    walk_at "s"
    have hm : ∀ (P : Rat → Rat → Prop) [DecidableRel P] (l : List Rat) (c : Rat), Bd 4000 c → (∀ r ∈ l, Bd 4000 r) → Bd 4000 (l.foldl (fun b v => if P b v then v else b) c) := by
      intro P _ l
      induction l with
      | nil => exact fun c h _ => h
      | cons a l ih =>
        intro c h1 h2
        refine ih _ ?_ fun r hr => h2 r (List.mem_cons_of_mem _ hr)
        show Bd 4000 (if _ then a else c)
        split
        · exact h2 a List.mem_cons_self
        · exact h1
    have b1 : ∀ i, Bd 4000 (rmin q ((q :: qs).take i)) := fun i => hm (fun b v => v < b) _ _ (hq q List.mem_cons_self) fun r hr => hq r (List.mem_of_mem_take hr)
    have b2 : ∀ i, Bd 4000 (rmax q ((q :: qs).take i)) := fun i => hm (fun b v => b < v) _ _ (hq q List.mem_cons_self) fun r hr => hq r (List.mem_of_mem_take hr)
    refine s_for (di_list (de_var rfl)) (fun i τ => τ = [.dat (.lst ((q :: qs).map fq)), .dat (fq (rmin q ((q :: qs).take i))), .dat (fq (rmax q ((q :: qs).take i))), .any]) ⟨_, by walk_at "wk", rfl⟩ (fun i d τ hd hτ => ?_) (fun τ hτ => ?_)
    · subst hτ
      rw [List.getElem?_map] at hd
      obtain ⟨v, hq1, rfl⟩ := Option.map_eq_some_iff.mp hd
      have bv := hq v (List.mem_of_getElem? hq1)
      have e1 : rmin q ((q :: qs).take (i + 1)) = if v < rmin q ((q :: qs).take i) then v else rmin q ((q :: qs).take i) := by
        rw [List.take_add_one, hq1]
        unfold rmin
        rw [List.foldl_append]
        rfl
      have e2 : rmax q ((q :: qs).take (i + 1)) = if rmax q ((q :: qs).take i) < v then v else rmax q ((q :: qs).take i) := by
        rw [List.take_add_one, hq1]
        unfold rmax
        rw [List.foldl_append]
        rfl
      have bl := b1 i
      have bh := b2 i
      generalize rmin q ((q :: qs).take i) = lo at *
      generalize rmax q ((q :: qs).take i) = hi at *
      have m1 := cmul_of (i := v.num) (j := (lo.den : Int)) (n := 4000) bv.nu (by rw [Int.natAbs_natCast]; exact bl.de) (by decide) (by decide)
      have m2 := cmul_of (i := lo.num) (j := (v.den : Int)) (n := 4000) bl.nu (by rw [Int.natAbs_natCast]; exact bv.de) (by decide) (by decide)
      have m3 := cmul_of (i := hi.num) (j := (v.den : Int)) (n := 4000) bh.nu (by rw [Int.natAbs_natCast]; exact bv.de) (by decide) (by decide)
      have m4 := cmul_of (i := v.num) (j := (hi.den : Int)) (n := 4000) bv.nu (by rw [Int.natAbs_natCast]; exact bh.de) (by decide) (by decide)
      refine ⟨_, dg_name, ?_⟩
      walk_at "norm"
      refine s_ifJ [.dat (.lst ((q :: qs).map fq)), .dat (fq (if v < lo then v else lo)), .dat (fq hi), .dat (fq v)] (by walk_at "dt") (fun h => ?_) (fun h => ?_) ?_
      · have h := (Rat.lt_iff _ _).mpr (of_decide_eq_true h)
        walk_at "e"
        rw [if_pos h]
        walk_at "wk"
      · have h := fun z => of_decide_eq_false h ((Rat.lt_iff _ _).mp z)
        walk_at "e"
        rw [if_neg h]
        walk_at "wk"
      apply es_if
      · walk_at "dt"
      · intro h
        have h := (Rat.lt_iff _ _).mpr (of_decide_eq_true h)
        walk_at "e"
        refine ⟨_, ?_, rfl⟩
        rw [e1, e2, if_pos h]
        walk_at "wk"
      · intro h
        have h := fun z => of_decide_eq_false h ((Rat.lt_iff _ _).mp z)
        walk_at "e"
        refine ⟨_, ?_, rfl⟩
        rw [e1, e2, if_neg h]
        walk_at "wk"
    · subst hτ
      rw [List.length_map, List.take_length]
      apply es_ret
      · walk_at "de"
      · rfl
theorem ok_law (T : Txt K mg) : FnOk P w K mg base CX0 5 (He.ga K "law") (fdAt K (He.ga K "law")) ["script"] (spD K R_law) := by
  refine T.F_law.ok sc_law (fun vs H Q E h => ?_) (fun cdv A outer s H vs Q E hr h => ?_)
  · obtain ⟨_, _, _, _, r, hR, _⟩ := h
    exact r.length.trans (by cases hR; rfl)
  · obtain ⟨_, v0_fraction, b0_fraction⟩ := b0_fraction T
    obtain ⟨_, v1_fraction, b1_fraction⟩ := b1_fraction T
    refine ⟨_, PSs.nox (pss_cons (ps_set (i := 1) sc_law.nd rfl (by first | exact Or.inl rfl | exact Or.inr rfl) (pe_cmpR (op_eqK (K := K) rfl hr.units) (pe_op op_mod (pe_callTy (call_int1) (by rfl) T.z_int (by decide +kernel) (pa_cons (pe_call (ok__law_cell T) (hr.mono (by decide)) (by rfl) T.g__law_cell T.F__law_cell.kp (b__law_cell T) .nil pass0 (pa_cons (pv 0) (pa_cons pe_int pa_nil))) pa_nil)) pe_int) pe_int (nomark _)))
    (pss_cons (ps_setLc (i := 2) (own := [("k", 3)]) (g := gName 3) (tt := tYes) rfl sc_law.nd rfl rfl (sw_true rfl rfl rfl (by decide +kernel)) (pi_range1 (by rfl) T.z_range (pa_cons pe_int pa_nil)) (blkOk_by (N := N_law) (sc := defScope s_law) (by decide +kernel)) (fun _ _ _ _ _ => pg_name (i := 3) sc_law.nd rfl (by first | exact Or.inl rfl | exact Or.inr rfl)) (fun _ _ _ _ _ => pts_nil) (fun _ _ _ _ _ => (pe_call (ok__law_pair T) (hr.mono (by decide)) (by rfl) T.g__law_pair T.F__law_pair.kp (b__law_pair T) .nil pass0 (pa_cons (pe_call (ok__law_cell T) (hr.mono (by decide)) (by rfl) T.g__law_cell T.F__law_cell.kp (b__law_cell T) .nil pass0 (pa_cons (pv 0) (pa_cons (pe_op (op_addK (K := K) rfl) pe_int (pv 3)) pa_nil))) (pa_cons (pv 1) pa_nil)))))
    (pss_cons (ps_set (i := 4) sc_law.nd rfl (by first | exact Or.inl rfl | exact Or.inr rfl) (pe_lc (own := [("pair", 5)]) (g := gName 5) (tt := tYes) rfl sc_law.nd (pi_listK (K := K) rfl (pv 2)) (blkOk_by (N := N_law) (sc := defScope s_law) (by decide +kernel)) (fun _ _ _ _ _ => pg_name (i := 5) sc_law.nd rfl (by first | exact Or.inl rfl | exact Or.inr rfl)) (fun _ _ _ _ _ => pts_nil) (fun _ _ _ _ _ => (pe_call (ok__law_lowest T) (hr.mono (by decide)) (by rfl) T.g__law_lowest T.F__law_lowest.kp (b__law_lowest T) .nil pass0 (pa_cons (pe_ix (ix_seqK (K := K) rfl) (pv 5) pe_int (fun _ _ => rfl)) (pa_cons (pe_ix (ix_seqK (K := K) rfl) (pv 5) pe_int (fun _ _ => rfl)) pa_nil))))))
    (pss_cons (ps_for PassesOwn.never rfl (pi_range1 (by rfl) T.z_range (pa_cons pe_int pa_nil)) (pg_name (i := 3) sc_law.nd rfl (by first | exact Or.inl rfl | exact Or.inr rfl)) (pss_cons (ps_set (i := 6) sc_law.nd rfl (by first | exact Or.inl rfl | exact Or.inr rfl) (pe_ix (ix_seqK (K := K) rfl) (pe_ix (ix_seqK (K := K) rfl) (pv 2) (pv 3) (fun _ _ => rfl)) pe_int (fun _ _ => rfl)))
    (pss_cons (ps_set (i := 7) sc_law.nd rfl (by first | exact Or.inl rfl | exact Or.inr rfl) (pe_ix (ix_seqK (K := K) rfl) (pe_ix (ix_seqK (K := K) rfl) (pv 2) (pv 3) (fun _ _ => rfl)) pe_int (fun _ _ => rfl)))
    (pss_cons (ps_if (PW.pt (pw_or (pt_not (pt_val (pe_call (ok__law_same T) (hr.mono (by decide)) (by rfl) T.g__law_same T.F__law_same.kp (b__law_same T) .nil pass0 (pa_cons (pe_call (ok_fraction T) (hr.mono (by decide)) (by rfl) T.g_fraction T.F_fraction.kp b0_fraction v0_fraction pass0 (pa_cons (pv 6) (pa_cons (pv 7) pa_nil))) (pa_cons (pe_ix (ix_seqK (K := K) rfl) (pv 4) (pv 3) (fun _ _ => rfl)) pa_nil))))) (pw_or1 (pt_not (pt_val (pe_call (ok__law_same T) (hr.mono (by decide)) (by rfl) T.g__law_same T.F__law_same.kp (b__law_same T) .nil pass0 (pa_cons (pe_call (ok_fraction T) (hr.mono (by decide)) (by rfl) T.g_fraction T.F_fraction.kp b0_fraction v0_fraction pass0 (pa_cons (pe_un un_neg (pv 6)) (pa_cons (pe_un un_neg (pv 7)) pa_nil))) (pa_cons (pe_ix (ix_seqK (K := K) rfl) (pv 4) (pv 3) (fun _ _ => rfl)) pa_nil)))))))) (pss_one (ps_ret pe_bl)) pss_nil)
    (pss_cons (ps_if (pt_not (pt_val (pe_call (ok__law_same T) (hr.mono (by decide)) (by rfl) T.g__law_same T.F__law_same.kp (b__law_same T) .nil pass0 (pa_cons (pe_call (ok_fraction T) (hr.mono (by decide)) (by rfl) T.g_fraction T.F_fraction.kp b1_fraction v1_fraction pass0 (pa_cons (pv 6) pa_nil)) (pa_cons (pe_tup (pa_cons (pv 6) (pa_cons pe_int pa_nil))) pa_nil))))) (pss_one (ps_ret pe_bl)) pss_nil)
    (pss_one (ps_if (pt_not (pt_val (pe_call (ok__law_two T) (hr.mono (by decide)) (by rfl) T.g__law_two T.F__law_two.kp (b__law_two T) .nil pass0 (pa_cons (pe_ix (ix_seqK (K := K) rfl) (pv 4) (pv 3) (fun _ _ => rfl)) (pa_cons (pe_ix (ix_seqK (K := K) rfl) (pv 4) (pe_op op_mod (pe_callTy (call_int1) (by rfl) T.z_int (by decide +kernel) (pa_cons (pe_op (op_addK (K := K) rfl) (pe_op op_mulG (pv 3) pe_int) pe_int) pa_nil)) pe_int) (fun _ _ => rfl)) pa_nil))))) (pss_one (ps_ret pe_bl)) pss_nil)))))))
    (pss_cons (ps_if (PW.pt (pw_or (pt_not (pt_val (pe_call (ok__law_zero_denominator T) (hr.mono (by decide)) (by rfl) T.g__law_zero_denominator T.F__law_zero_denominator.kp (b__law_zero_denominator T) .nil pass0 (pa_cons (pe_ix (ix_seqK (K := K) rfl) (pe_ix (ix_seqK (K := K) rfl) (pv 2) pe_int (fun _ _ => rfl)) pe_int (fun _ _ => rfl)) pa_nil)))) (pw_or1 (pt_not (pt_val (pe_call (ok__law_zero_divisor T) (hr.mono (by decide)) (by rfl) T.g__law_zero_divisor T.F__law_zero_divisor.kp (b__law_zero_divisor T) .nil pass0 (pa_cons (pe_ix (ix_seqK (K := K) rfl) (pv 4) pe_int (fun _ _ => rfl)) pa_nil))))))) (pss_one (ps_ret pe_bl)) pss_nil)
    (pss_cons (ps_set (i := 8) sc_law.nd rfl (by first | exact Or.inl rfl | exact Or.inr rfl) (pe_op op_mod (pe_callTy (call_int1) (by rfl) T.z_int (by decide +kernel) (pa_cons (pe_call (ok__law_cell T) (hr.mono (by decide)) (by rfl) T.g__law_cell T.F__law_cell.kp (b__law_cell T) .nil pass0 (pa_cons (pv 0) (pa_cons pe_int pa_nil))) pa_nil)) pe_int))
    (pss_cons (ps_set (i := 9) sc_law.nd rfl (by first | exact Or.inl rfl | exact Or.inr rfl) (pe_callTy (call_listK (K := K) rfl) (by rfl) T.z_list (by decide +kernel) (pa_cons (pe_slice (sl_listK (K := K) rfl) (pv 4) po_none (po_some (pv 8))) pa_nil)))
    (pss_cons (ps_if (pt_not (pt_val (pe_call (ok__law_same T) (hr.mono (by decide)) (by rfl) T.g__law_same T.F__law_same.kp (b__law_same T) .nil pass0 (pa_cons (pe_call (ok_total T) (hr.mono (by decide)) (by rfl) T.g_total T.F_total.kp (b_total T) .nil pass0 (pa_cons (pv 9) pa_nil)) (pa_cons (pe_call (ok__law_sum T) (hr.mono (by decide)) (by rfl) T.g__law_sum T.F__law_sum.kp (b__law_sum T) .nil pass0 (pa_cons (pe_slice (sl_listK (K := K) rfl) (pv 4) po_none (po_some (pv 8))) pa_nil)) pa_nil))))) (pss_one (ps_ret pe_bl)) pss_nil)
    (pss_cons (ps_setLc (i := 10) (own := [("k", 3)]) (g := gName 3) (tt := tYes) rfl sc_law.nd rfl rfl (sw_true rfl rfl rfl (by decide +kernel)) (pi_range1 (by rfl) T.z_range (pa_cons (pv 8) pa_nil)) (blkOk_by (N := N_law) (sc := defScope s_law) (by decide +kernel)) (fun _ _ _ _ _ => pg_name (i := 3) sc_law.nd rfl (by first | exact Or.inl rfl | exact Or.inr rfl)) (fun _ _ _ _ _ => pts_nil) (fun _ _ _ _ _ => (pe_ix (ix_seqK (K := K) rfl) (pv 4) (pe_op op_sub pe_int (pv 3)) (fun _ _ => rfl))))
    (pss_cons (ps_setLc (i := 11) (own := [("k", 3)]) (g := gName 3) (tt := tYes) rfl sc_law.nd rfl rfl (sw_true rfl rfl rfl (by decide +kernel)) (pi_range1 (by rfl) T.z_range (pa_cons (pv 8) pa_nil)) (blkOk_by (N := N_law) (sc := defScope s_law) (by decide +kernel)) (fun _ _ _ _ _ => pg_name (i := 3) sc_law.nd rfl (by first | exact Or.inl rfl | exact Or.inr rfl)) (fun _ _ _ _ _ => pts_nil) (fun _ _ _ _ _ => (pe_tup (pa_cons (pe_op op_mulG (pe_ix (ix_seqK (K := K) rfl) (pe_ix (ix_seqK (K := K) rfl) (pv 4) (pv 3) (fun _ _ => rfl)) pe_int (fun _ _ => rfl)) (pe_ix (ix_seqK (K := K) rfl) (pe_ix (ix_seqK (K := K) rfl) (pv 4) (pe_op op_sub pe_int (pv 3)) (fun _ _ => rfl)) pe_int (fun _ _ => rfl))) (pa_cons (pe_op op_mulG (pe_ix (ix_seqK (K := K) rfl) (pe_ix (ix_seqK (K := K) rfl) (pv 4) (pv 3) (fun _ _ => rfl)) pe_int (fun _ _ => rfl)) (pe_ix (ix_seqK (K := K) rfl) (pe_ix (ix_seqK (K := K) rfl) (pv 4) (pe_op op_sub pe_int (pv 3)) (fun _ _ => rfl)) pe_int (fun _ _ => rfl))) pa_nil)))))
    (pss_cons (ps_if (pt_not (pt_val (pe_call (ok__law_same T) (hr.mono (by decide)) (by rfl) T.g__law_same T.F__law_same.kp (b__law_same T) .nil pass0 (pa_cons (pe_call (ok_dot T) (hr.mono (by decide)) (by rfl) T.g_dot T.F_dot.kp (b_dot T) .nil pass0 (pa_cons (pv 9) (pa_cons (pv 10) pa_nil))) (pa_cons (pe_call (ok__law_sum T) (hr.mono (by decide)) (by rfl) T.g__law_sum T.F__law_sum.kp (b__law_sum T) .nil pass0 (pa_cons (pv 11) pa_nil)) pa_nil))))) (pss_one (ps_ret pe_bl)) pss_nil)
    (pss_cons (ps_if (pt_cmpR op_gt (pv 8) pe_int (nomark _)) (pss_cons (ps_set (i := 12) sc_law.nd rfl (by first | exact Or.inl rfl | exact Or.inr rfl) (pe_call (ok__law_ends T) (hr.mono (by decide)) (by rfl) T.g__law_ends T.F__law_ends.kp (b__law_ends T) .nil pass0 (pa_cons (pe_slice (sl_listK (K := K) rfl) (pv 4) po_none (po_some (pv 8))) pa_nil)))
    (pss_one (ps_if (PW.pt (pw_or (pt_not (pt_val (pe_call (ok__law_same T) (hr.mono (by decide)) (by rfl) T.g__law_same T.F__law_same.kp (b__law_same T) .nil pass0 (pa_cons (pe_call (ok_smallest T) (hr.mono (by decide)) (by rfl) T.g_smallest T.F_smallest.kp (b_smallest T) .nil pass0 (pa_cons (pv 9) pa_nil)) (pa_cons (pe_ix (ix_seqK (K := K) rfl) (pv 12) pe_int (fun _ _ => rfl)) pa_nil))))) (pw_or1 (pt_not (pt_val (pe_call (ok__law_same T) (hr.mono (by decide)) (by rfl) T.g__law_same T.F__law_same.kp (b__law_same T) .nil pass0 (pa_cons (pe_call (ok_largest T) (hr.mono (by decide)) (by rfl) T.g_largest T.F_largest.kp (b_largest T) .nil pass0 (pa_cons (pv 9) pa_nil)) (pa_cons (pe_ix (ix_seqK (K := K) rfl) (pv 12) pe_int (fun _ _ => rfl)) pa_nil)))))))) (pss_one (ps_ret pe_bl)) pss_nil))) pss_nil)
    (pss_one (ps_ret (pe_and (pe_cmpR (op_eqK (K := K) rfl hr.units) (pv 9) (pe_slice (sl_listK (K := K) rfl) (pv 4) po_none (po_some (pv 8))) (nomark _)) (pe_one (pe_cmpR (op_eqK (K := K) rfl hr.units) (pv 10) (pe_lc (own := [("k", 3)]) (g := gName 3) (tt := tYes) rfl sc_law.nd (pi_range1 (by rfl) T.z_range (pa_cons (pv 8) pa_nil)) (blkOk_by (N := N_law) (sc := defScope s_law) (by decide +kernel)) (fun _ _ _ _ _ => pg_name (i := 3) sc_law.nd rfl (by first | exact Or.inl rfl | exact Or.inr rfl)) (fun _ _ _ _ _ => pts_nil) (fun _ _ _ _ _ => (pe_ix (ix_seqK (K := K) rfl) (pv 4) (pe_op op_sub pe_int (pv 3)) (fun _ _ => rfl)))) (nomark _)))))))))))))))))), body_ok h fun ds d hR => ?_⟩
    obtain ⟨ns, hl⟩ := hR
    refine body_mk (ρ := [.dat (.lst (ns.map .int)), .any, .any, .any, .any, .any, .any, .any, .any, .any, .any, .any, .any]) rfl ?_
    apply s_set
    · apply de_op
      · apply de_op
        · apply de_cb
          · apply da_cons
            · apply de_call0
              · walk_at "da"
              · exact R_cell.mk ns 0 hl
            · exact da_nil
          · exact rc_int
        · walk_at "de"
        · walk_at "rd"
      · walk_at "de"
      · walk_at "rd"
    walk_at "norm"
    generalize (decide (ns.getD 0 0 % 3 = 1)) = w
    obtain ⟨P, hP⟩ : ∃ P : Nat → Int × Int, ∀ k, pr (ns.getD (1 + k) 0) w = P k := ⟨fun k => pr (ns.getD (1 + k) 0) w, fun _ => rfl⟩
    have hPk : ∀ k, 0 < (P k).2 ∧ (P k).2 < 2 ^ 40 ∧ (P k).1.natAbs < 2 ^ 40 := fun k => by rw [← hP]; exact pr_ok _ _
    obtain ⟨Qf, hQ⟩ : ∃ Qf : Nat → Rat, ∀ k, Rat.divInt (P k).1 (P k).2 = Qf k := ⟨fun k => Rat.divInt (P k).1 (P k).2, fun _ => rfl⟩
    have hd9 : ∀ k, (P k).2.natAbs < 2 ^ 40 := fun k => by have := hPk k; omega
    have hB : ∀ k, Bd 40 (Qf k) := fun k => by rw [← hQ]; exact low_bd (hPk k).1 (hPk k).2.2 (hd9 k)
    -- pairs
    apply s_set
    · refine DL.de (dl_lcA (List.range 8) (fun k => .int (k : Nat)) (fun k => pd (P k)) (di_range1 (n := 8) (by walk_at "da") (by decide) (by decide)) (by rw [List.length_range]; decide) ?_)
      intro i k hk
      refine ⟨_, dgw_name (by decide), ?_⟩
      dsimp only [List.map, wipeE, List.set_cons_zero, List.set_cons_succ]
      apply de_call0
      · apply da_cons
        · apply de_call0
          · walk_at "da"
          · have z := R_cell.mk ns (1 + k) hl
            rw [Int.natCast_add] at z
            exact z
        · walk_at "da"
      · rw [← hP]
        exact R_pair.mk _ _
    walk_at "norm"
    -- own
    apply s_set
    · refine DL.de (dl_lcA (List.range 8) (fun k => pd (P k)) (fun k => fq (Qf k)) (di_list (de_var rfl)) (by rw [List.length_range]; decide) ?_)
      intro i k hk
      refine ⟨_, dgw_name (by decide), ?_⟩
      dsimp only [List.map, wipeE, List.set_cons_zero, List.set_cons_succ]
      apply de_call0
      · walk_at "da"
      · rw [← hQ]
        exact R_lowest.mk _ _ (hPk k).1 (pow_le_of (hd9 k) (by decide))
    walk_at "norm"
    have own8 : ∀ k : Nat, k < 8 → ∀ i : Int, i = (k : Int) → atI ((List.range 8).map fun k : Nat => fq (Qf k)) i = some (fq (Qf k)) := fun k hk i hi => atI_range _ hk hi
    have pair8 : ∀ k : Nat, k < 8 → ∀ i : Int, i = (k : Int) → atI ((List.range 8).map fun k : Nat => pd (P k)) i = some (pd (P k)) := fun k hk i hi => atI_range _ hk hi
    refine s_for (di_range1 (n := 8) (by walk_at "da") (by decide) (by decide)) (fun i τ => τ = [.dat (.lst (ns.map .int)), .dat (.bl w), .dat (.lst ((List.range 8).map fun k : Nat => pd (P k))), .any, .dat (.lst ((List.range 8).map fun k : Nat => fq (Qf k))), .any, .any, .any, .any, .any, .any, .any, .any]) ⟨_, by walk_at "wk", rfl⟩ (fun i d τ hd hτ => ?_) (fun τ hτ => ?_)
    · subst hτ
      have hi : i < 8 := by
        have := (List.getElem?_eq_some_iff.mp hd).1
        rw [rangeN_len] at this
        exact this
      rw [rangeN_get (by exact hi)] at hd
      cases hd
      have p8 := pair8 i hi i rfl
      have o8 := own8 i hi i rfl
      have o8' := own8 ((i * 3 + 1) % 8) (Nat.mod_lt _ (by decide)) ((((i : Nat) : Int) * 3 + 1) % 8) (by omega)
      obtain ⟨hp1, hp2, hp3⟩ := hPk i
      refine ⟨_, dg_name, ?_⟩
      walk_at "norm"
      apply s_set
      · apply de_op
        · apply de_op
          · walk_at "de"
          · walk_at "de"
          · exact rd_ixLG p8
        · walk_at "de"
        · walk_at "rd"
      walk_at "norm"
      apply s_set
      · apply de_op
        · apply de_op
          · walk_at "de"
          · walk_at "de"
          · exact rd_ixLG p8
        · walk_at "de"
        · walk_at "rd"
      walk_at "norm"
      have h9 := pow_le_of (hd9 i) (by decide : 40 ≤ 9000)
      refine s_ifF (dt_is (b := false) (by
        apply dt_or
        · apply dt_not
          apply dt_B
          apply de_call0
          · apply da_cons
            · apply de_call0
              · walk_at "da"
              · exact R_fraction.mk _ _ (by omega) h9
            · apply da_cons
              · apply de_op
                · walk_at "de"
                · walk_at "de"
                · exact rd_ixLG o8
              · exact da_nil
          · exact R_same.mk _ _
        · intro _
          apply dt_not
          apply dt_B
          apply de_call0
          · apply da_cons
            · apply de_call0
              · walk_at "da"
              · exact R_fraction.mk _ _ (by omega) (by rw [Int.natAbs_neg]; exact h9)
            · apply da_cons
              · apply de_op
                · walk_at "de"
                · walk_at "de"
                · exact rd_ixLG o8
              · exact da_nil
          · exact R_same.mk _ _) (by
        rw [Rat.divInt_neg', Int.neg_neg, hQ, decide_eq_true rfl]
        rfl)) (es_next' ?_)
      refine s_ifF (dt_is (b := false) (by
        apply dt_not
        apply dt_B
        apply de_call0
        · apply da_cons
          · refine de_call (dds := [.int 1]) (by walk_at "da") (fun _ => ⟨_, _, rfl, rfl, rfl⟩) (R_fraction.mk (P i).1 1 (by decide) (by decide))
          · walk_at "da"
        · exact R_same.mk (Rat.divInt (P i).1 1) ((P i).1 : Rat)) (by
        rw [show Rat.divInt (P i).1 1 = ((P i).1 : Rat) from divInt_self' ((P i).1 : Rat), decide_eq_true rfl]
        rfl)) (es_next' ?_)
      apply es_ifF
      · refine dt_is (b := false) (by
          apply dt_not
          apply dt_B
          apply de_call0
          · apply da_cons
            · apply de_op
              · walk_at "de"
              · walk_at "de"
              · exact rd_ixLG o8
            · apply da_cons
              · apply de_op
                · walk_at "de"
                · walk_at "de"
                · exact rd_ixLG o8'
              · exact da_nil
          · exact R_two.mk _ _ ((hB _).mono (by decide)) ((hB _).mono (by decide))) (by rfl)
      apply es_next
      exact ⟨_, by walk_at "wk", rfl⟩
    subst hτ
    refine s_ifF (dt_is (b := false) (by
      apply dt_or
      · apply dt_not
        apply dt_B
        apply de_call0
        · apply da_cons
          · apply de_op
            · apply de_op
              · walk_at "de"
              · walk_at "de"
              · exact rd_ixLG (pair8 0 (by decide) 0 rfl)
            · walk_at "de"
            · walk_at "rd"
          · exact da_nil
        · exact R_zden.mk _
      · intro _
        apply dt_not
        apply dt_B
        apply de_call0
        · apply da_cons
          · apply de_op
            · walk_at "de"
            · walk_at "de"
            · exact rd_ixLG (own8 1 (by decide) 1 rfl)
          · exact da_nil
        · exact R_zdiv.mk _) (by rfl)) (es_next' ?_)
    obtain ⟨m, hm, hm9⟩ : ∃ m : Nat, m ≤ 8 ∧ ns.getD 9 0 % 9 = (m : Int) := ⟨(ns.getD 9 0 % 9).toNat, by omega, by omega⟩
    apply s_set
    · refine de_is (e := .int (m : Int)) (by
        apply de_op
        · apply de_cb
          · apply da_cons
            · apply de_call0
              · walk_at "da"
              · exact R_cell.mk ns 9 hl
            · exact da_nil
          · exact rc_int
        · walk_at "de"
        · walk_at "rd") (by rw [hm9])
    walk_at "norm"
    have eo : ((List.range 8).map fun k : Nat => fq (Qf k)) = ((List.range 8).map Qf).map fq := by rw [List.map_map]; rfl
    have ec : cutD ((List.range 8).map fun k : Nat => fq (Qf k)) none (some (m : Int)) = ((List.range m).map Qf).map fq := by
      rw [cut_to, eo, ← List.map_take, range_map_take _ _ _ hm]
    have lv : ((List.range m).map Qf).length = m := by rw [List.length_map, List.length_range]
    have bv : ∀ q ∈ (List.range m).map Qf, Bd 40 q := fun q hq => by
      obtain ⟨k, _, rfl⟩ := List.mem_map.mp hq
      exact hB k
    have cut : ∀ ρ : PEnv, ρ[4]? = some (.dat (.lst ((List.range 8).map fun k : Nat => fq (Qf k)))) → ρ[8]? = some (.dat (.int (m : Int))) → DE K (tSl (rSlL K) (tVar 4) tNoPart (tPart (tVar 8))) ρ (.lst (((List.range m).map Qf).map fq)) := fun ρ h1 h2 =>
      DL.de (dl_is (dl_sl (de_var h1) do_none (do_some (de_var h2))) ec)
    apply s_set
    · refine DL.de (dl_cb (da_cons (cut _ rfl rfl) da_nil) rc_list)
    walk_at "norm"
    have b1 : ∀ i, i ≤ ((List.range m).map Qf).length → Bd 4000 (rsum (((List.range m).map Qf).take i)) := fun i hi => (rsum_bd _ bv i hi).mono (by rw [lv] at hi; omega)
    have b0 : ∀ q ∈ (List.range m).map Qf, Bd 4000 q := fun q hq => (bv q hq).mono (by decide)
    have es : ((List.range m).map Qf).map fq = (((List.range m).map Qf).map fun q => (q.num, (q.den : Int))).map pd := by symm; exact List.map_map
    have es2 : rsum ((((List.range m).map Qf).map fun q => (q.num, (q.den : Int))).map fun p => Rat.divInt p.1 p.2) = rsum ((List.range m).map Qf) := by
      rw [List.map_map]
      congr 1
      conv => rhs; rw [← List.map_id ((List.range m).map Qf)]
      exact List.map_congr_left fun q _ => divInt_self' q
    have rs : R_sum [.lst (((List.range m).map Qf).map fq)] (fq (rsum ((List.range m).map Qf))) := by
      rw [es, ← es2]
      refine R_sum.mk _ (by rw [List.length_map, lv]; exact hm) fun p hp => ?_
      obtain ⟨q, hq, rfl⟩ := List.mem_map.mp hp
      have z := (bv q hq).mono (by decide : 40 ≤ 100)
      exact ⟨den_pos q, by rw [Int.natAbs_natCast]; exact z.de, z.nu⟩
    refine s_ifF (dt_is (b := false) (by
      apply dt_not
      apply dt_B
      apply de_call0
      · apply da_cons
        · apply de_call0
          · walk_at "da"
          · exact R_total.mk _ b0 b1
        · apply da_cons
          · apply de_call0
            · apply da_cons
              · exact cut _ rfl rfl
              · exact da_nil
            · exact rs
          · exact da_nil
      · exact R_same.mk _ _) (by rw [decide_eq_true rfl]; rfl)) (es_next' ?_)
    -- others
    have oth : ∀ ρ : PEnv, ρ.length = 13 → ρ[4]? = some (.dat (.lst ((List.range 8).map fun k : Nat => fq (Qf k)))) → ρ[8]? = some (.dat (.int (m : Int))) →
        DL K (tLc (iRng1 (tCons (tVar 8) tNil)) (gName 3) tYes (tOp (rIx K) (tVar 4) (tOp (rI0 fun i j => .int (i - j)) (tC (.int 7)) (tVar 3))) [3]) ρ (((List.range m).map fun k => Qf (7 - k)).map fq) := fun ρ hρ h1 h2 => by
      refine dl_is (dl_lcA (List.range m) (fun k => .int (k : Nat)) (fun k => fq (Qf (7 - k))) (di_range1 (n := (m : Int)) (da_cons (de_var h2) da_nil) (by omega) (by omega)) (by rw [List.length_range]; exact Nat.lt_of_le_of_lt hm (by decide)) ?_) (by rw [List.map_map]; rfl)
      intro i k hk
      obtain ⟨rfl, hk⟩ := range_mem hk
      refine ⟨_, dgw_name (by decide), ?_⟩
      apply de_op
      · refine de_var (d := .lst ((List.range 8).map fun k : Nat => fq (Qf k))) ?_
        show (((ρ.set 3 .any).set 3 (.dat (.int (k : Nat)))) : List Sl)[4]? = _
        rw [List.getElem?_set_ne (by decide), List.getElem?_set_ne (by decide)]
        exact h1
      · apply de_op
        · exact de_int
        · refine de_var (d := .int (k : Nat)) ?_
          show (((ρ.set 3 .any).set 3 (.dat (.int (k : Nat)))) : List Sl)[3]? = _
          rw [List.getElem?_set_self (by rw [List.length_set, hρ]; decide)]
        · exact rd_int
      · exact rd_ixLG (own8 (7 - k) (by omega) _ (by omega))
    apply s_set
    · exact DL.de (oth _ rfl rfl rfl)
    walk_at "norm"
    -- products
    apply s_set
    · refine DL.de (dl_lcA (List.range m) (fun k => .int (k : Nat)) (fun k => pd ((Qf k).num * (Qf (7 - k)).num, ((Qf k).den : Int) * ((Qf (7 - k)).den : Int))) (di_range1 (n := (m : Int)) (by walk_at "da") (by omega) (by omega)) (by rw [List.length_range]; exact Nat.lt_of_le_of_lt hm (by decide)) ?_)
      intro i k hk
      obtain ⟨rfl, hk⟩ := range_mem hk
      refine ⟨_, dgw_name (by decide), ?_⟩
      dsimp only [List.map, wipeE, List.set_cons_zero, List.set_cons_succ]
      have a1 := own8 k (by omega) (k : Int) rfl
      have a2 := own8 (7 - k) (by omega) (7 - (k : Int)) (by omega)
      have c1 := (hB k).mono (by decide : 40 ≤ 4000)
      have c2 := (hB (7 - k)).mono (by decide : 40 ≤ 4000)
      have m1 := cmul_of (i := (Qf k).num) (j := (Qf (7 - k)).num) (n := 4000) c1.nu c2.nu (by decide) (by decide)
      have m2 := cmul_of (i := ((Qf k).den : Int)) (j := ((Qf (7 - k)).den : Int)) (n := 4000) (by rw [Int.natAbs_natCast]; exact c1.de) (by rw [Int.natAbs_natCast]; exact c2.de) (by decide) (by decide)
      have e1 : ∀ (ρ : PEnv) (j : Int) (d : Dt), ρ[4]? = some (.dat (.lst ((List.range 8).map fun k : Nat => fq (Qf k)))) → ρ[3]? = some (.dat (.int (k : Nat))) → atI [Dt.int (Qf k).num, Dt.int ((Qf k).den : Int)] j = some d → DE K (tOp (rIx K) (tOp (rIx K) (tVar 4) (tVar 3)) (tC (.int j))) ρ d := fun ρ j d h1 h2 h3 =>
        de_op (de_op (de_var h1) (de_var h2) (rd_ixLG a1)) de_int (rd_ixTG h3)
      have e2 : ∀ (ρ : PEnv) (j : Int) (d : Dt), ρ[4]? = some (.dat (.lst ((List.range 8).map fun k : Nat => fq (Qf k)))) → ρ[3]? = some (.dat (.int (k : Nat))) → atI [Dt.int (Qf (7 - k)).num, Dt.int ((Qf (7 - k)).den : Int)] j = some d → DE K (tOp (rIx K) (tOp (rIx K) (tVar 4) (tOp (rI0 fun i j => .int (i - j)) (tC (.int 7)) (tVar 3))) (tC (.int j))) ρ d := fun ρ j d h1 h2 h3 =>
        de_op (de_op (de_var h1) (de_op de_int (de_var h2) rd_int) (rd_ixLG a2)) de_int (rd_ixTG h3)
      refine de_is (e := .tup [.int _, .int _]) (de_tup (da_cons (de_op (e1 _ 0 _ rfl rfl rfl) (e2 _ 0 _ rfl rfl rfl) (RD2.r (RD2.l (rd_intC m1)))) (da_cons (de_op (e1 _ 1 _ rfl rfl rfl) (e2 _ 1 _ rfl rfl rfl) (RD2.r (RD2.l (rd_intC m2)))) da_nil)) (by walk_at "sz")) rfl
    walk_at "norm"
    have bo : ∀ q ∈ (List.range m).map fun k => Qf (7 - k), Bd 1000 q := fun q hq => by
      obtain ⟨k, _, rfl⟩ := List.mem_map.mp hq
      exact (hB _).mono (by decide)
    have ez : List.zipWith (· * ·) ((List.range m).map Qf) ((List.range m).map fun k => Qf (7 - k)) = (List.range m).map fun k => Qf k * Qf (7 - k) := zip_range _ _ m
    have bz : ∀ q ∈ (List.range m).map fun k => Qf k * Qf (7 - k), Bd 80 q := fun q hq => by
      obtain ⟨k, _, rfl⟩ := List.mem_map.mp hq
      exact mul_bd (hB _) (hB _)
    have rp : R_sum [.lst ((List.range m).map fun k => pd ((Qf k).num * (Qf (7 - k)).num, ((Qf k).den : Int) * ((Qf (7 - k)).den : Int)))] (fq (rsum ((List.range m).map fun k => Qf k * Qf (7 - k)))) := by
      have q1 : ((List.range m).map fun k => pd ((Qf k).num * (Qf (7 - k)).num, ((Qf k).den : Int) * ((Qf (7 - k)).den : Int))) = ((List.range m).map fun k => ((Qf k).num * (Qf (7 - k)).num, ((Qf k).den : Int) * ((Qf (7 - k)).den : Int))).map pd := by rw [List.map_map]; rfl
      have q2 : ((List.range m).map fun k => Qf k * Qf (7 - k)) = (((List.range m).map fun k => ((Qf k).num * (Qf (7 - k)).num, ((Qf k).den : Int) * ((Qf (7 - k)).den : Int))).map fun p => Rat.divInt p.1 p.2) := by
        rw [List.map_map]
        exact List.map_congr_left fun k _ => (mul_divInt _ _).symm
      rw [q1, q2]
      refine R_sum.mk _ (by rw [List.length_map, List.length_range]; exact hm) fun p hp => ?_
      obtain ⟨k, hk, rfl⟩ := List.mem_map.mp hp
      refine ⟨Int.mul_pos (den_pos _) (den_pos _), ?_, ?_⟩
      · rw [Int.natAbs_mul, Int.natAbs_natCast, Int.natAbs_natCast]
        exact pow_le_of (mul_lt_pow (hB k).de (hB (7 - k)).de) (by decide)
      · rw [Int.natAbs_mul]
        exact pow_le_of (mul_lt_pow (hB k).nu (hB (7 - k)).nu) (by decide)
    refine s_ifF (dt_is (b := false) (by
      apply dt_not
      apply dt_B
      apply de_call0
      · apply da_cons
        · apply de_call0
          · walk_at "da"
          · refine R_dot.mk _ _ (by rw [lv, List.length_map, List.length_range]) (by rw [lv]; omega) (fun q hq => (bv q hq).mono (by decide)) bo (fun i hi => ?_)
            rw [ez]
            have l2 : ((List.range m).map fun k => Qf k * Qf (7 - k)).length = m := by rw [List.length_map, List.length_range]
            rw [lv] at hi
            exact (rsum_bd _ bz i (by rw [l2]; exact hi)).mono (by omega)
        · apply da_cons
          · apply de_call0
            · walk_at "da"
            · exact rp
          · exact da_nil
      · exact R_same.mk _ _) (by rw [ez, decide_eq_true rfl]; rfl)) (es_next' ?_)
    refine s_ifJ [.dat (.lst (ns.map .int)), .dat (.bl w), .any, .any, .dat (.lst ((List.range 8).map fun k : Nat => fq (Qf k))), .any, .any, .any, .dat (.int (m : Int)), .dat (.lst (((List.range m).map Qf).map fq)), .dat (.lst (((List.range m).map fun k => Qf (7 - k)).map fq)), .any, .any] (by walk_at "dt") (fun h => ?_) (fun h => ?_) ?_
    · have h := of_decide_eq_true h
      obtain ⟨q, qs, eq⟩ : ∃ q qs, (List.range m).map Qf = q :: qs := by
        match e : (List.range m).map Qf, lv with
        | q :: qs, _ => exact ⟨q, qs, rfl⟩
        | [], z => exact absurd z (by show ¬ (0 = m); omega)
      rw [eq] at cut b0 ⊢
      apply s_set
      · apply de_call0
        · exact da_cons (cut _ rfl rfl) da_nil
        · exact R_ends.mk q qs b0
      walk_at "norm"
      apply es_ifF
      · refine dt_is (b := false) (by
          apply dt_or
          · apply dt_not
            apply dt_B
            apply de_call0
            · apply da_cons
              · apply de_call0
                · walk_at "da"
                · exact R_smallest.mk _ _ b0
              · walk_at "da"
            · exact R_same.mk _ _
          · intro _
            apply dt_not
            apply dt_B
            apply de_call0
            · apply da_cons
              · apply de_call0
                · walk_at "da"
                · exact R_largest.mk _ _ b0
              · walk_at "da"
            · exact R_same.mk _ _) (by rw [decide_eq_true rfl, decide_eq_true rfl]; rfl)
      apply es_next
      walk_at "wk"
    · apply es_next
      walk_at "wk"
    apply es_ret
    · apply de_andB
      · apply de_op
        · walk_at "de"
        · exact cut _ rfl rfl
        · exact rd_eqFqs _
      · intro _
        apply de_op
        · walk_at "de"
        · exact DL.de (oth _ rfl rfl rfl)
        · exact rd_eqFqs _
    · rfl
end
def fa0 : List He.Fa := [.glo "fraction",
  .glo "add",
  .glo "subtract",
  .glo "multiply",
  .glo "divide",
  .glo "less",
  .glo "total",
  .glo "dot",
  .glo "largest",
  .glo "smallest",
  .glo "_law_cell",
  .glo "_law_digits",
  .glo "_law_gcd",
  .glo "_law_lowest",
  .glo "_law_is_integer",
  .glo "_law_same",
  .glo "_law_pair",
  .glo "_law_place",
  .glo "_law_zero_denominator",
  .glo "_law_zero_divisor",
  .glo "_law_flag",
  .glo "_law_two",
  .glo "_law_sum",
  .glo "_law_ends",
  .glo "law",
  .glo "MarketError",
  .glo "BadNumber",
  .glo "BadShape",
  .free "ValueError",
  .free "abs"]
def fa1 : List He.Fa := [.free "bool",
  .free "int",
  .free "isinstance",
  .free "len",
  .free "list",
  .free "max",
  .free "range",
  .free "tuple",
  .free "zip"]
def fa : List He.Fa := fa0 ++ fa1
def fn0 : List He.DefD := [⟨("fraction", none), "fraction", "fraction", defArgs s_fraction, defBody s_fraction, defScope s_fraction, [.int 1], []⟩,
  ⟨("add", none), "add", "add", defArgs s_add, defBody s_add, defScope s_add, [], []⟩,
  ⟨("subtract", none), "subtract", "subtract", defArgs s_subtract, defBody s_subtract, defScope s_subtract, [], []⟩,
  ⟨("multiply", none), "multiply", "multiply", defArgs s_multiply, defBody s_multiply, defScope s_multiply, [], []⟩,
  ⟨("divide", none), "divide", "divide", defArgs s_divide, defBody s_divide, defScope s_divide, [], []⟩,
  ⟨("less", none), "less", "less", defArgs s_less, defBody s_less, defScope s_less, [], []⟩,
  ⟨("total", none), "total", "total", defArgs s_total, defBody s_total, defScope s_total, [], []⟩,
  ⟨("dot", none), "dot", "dot", defArgs s_dot, defBody s_dot, defScope s_dot, [], []⟩,
  ⟨("largest", none), "largest", "largest", defArgs s_largest, defBody s_largest, defScope s_largest, [], []⟩,
  ⟨("smallest", none), "smallest", "smallest", defArgs s_smallest, defBody s_smallest, defScope s_smallest, [], []⟩,
  ⟨("_law_cell", none), "_law_cell", "_law_cell", defArgs s__law_cell, defBody s__law_cell, defScope s__law_cell, [], []⟩,
  ⟨("_law_digits", none), "_law_digits", "_law_digits", defArgs s__law_digits, defBody s__law_digits, defScope s__law_digits, [], []⟩,
  ⟨("_law_gcd", none), "_law_gcd", "_law_gcd", defArgs s__law_gcd, defBody s__law_gcd, defScope s__law_gcd, [], []⟩,
  ⟨("_law_lowest", none), "_law_lowest", "_law_lowest", defArgs s__law_lowest, defBody s__law_lowest, defScope s__law_lowest, [], []⟩,
  ⟨("_law_is_integer", none), "_law_is_integer", "_law_is_integer", defArgs s__law_is_integer, defBody s__law_is_integer, defScope s__law_is_integer, [], []⟩,
  ⟨("_law_same", none), "_law_same", "_law_same", defArgs s__law_same, defBody s__law_same, defScope s__law_same, [], []⟩,
  ⟨("_law_pair", none), "_law_pair", "_law_pair", defArgs s__law_pair, defBody s__law_pair, defScope s__law_pair, [], []⟩,
  ⟨("_law_place", none), "_law_place", "_law_place", defArgs s__law_place, defBody s__law_place, defScope s__law_place, [], []⟩,
  ⟨("_law_zero_denominator", none), "_law_zero_denominator", "_law_zero_denominator", defArgs s__law_zero_denominator, defBody s__law_zero_denominator, defScope s__law_zero_denominator, [], []⟩,
  ⟨("_law_zero_divisor", none), "_law_zero_divisor", "_law_zero_divisor", defArgs s__law_zero_divisor, defBody s__law_zero_divisor, defScope s__law_zero_divisor, [], []⟩,
  ⟨("_law_flag", none), "_law_flag", "_law_flag", defArgs s__law_flag, defBody s__law_flag, defScope s__law_flag, [], []⟩,
  ⟨("_law_two", none), "_law_two", "_law_two", defArgs s__law_two, defBody s__law_two, defScope s__law_two, [], []⟩,
  ⟨("_law_sum", none), "_law_sum", "_law_sum", defArgs s__law_sum, defBody s__law_sum, defScope s__law_sum, [], []⟩,
  ⟨("_law_ends", none), "_law_ends", "_law_ends", defArgs s__law_ends, defBody s__law_ends, defScope s__law_ends, [], []⟩,
  ⟨("law", none), "law", "law", defArgs s_law, defBody s_law, defScope s_law, [], []⟩,
  ⟨("BadNumber", some "__init__"), "__init__", "BadNumber.__init__", defArgs si_BadNumber, defBody si_BadNumber, defScope si_BadNumber, [], []⟩]
def fn : List He.DefD := fn0
def exF (K : PySem.W.Frag) : Bool := (decide (PySem.W.nsIn K mainGlobals "gcd" = some (some (.builtin "math.gcd"))) && (exB K (He.ga K "BadNumber") && (decide (PySem.W.findIn K (.ref (He.ga K "BadNumber")) "place" = some none) && (decide (PySem.W.kitOne K (.ref (He.ga K "BadNumber")) (.ref (He.ga K "MarketError")) = some true) && (decide (PySem.W.kitOne K (.ref (He.ga K "BadNumber")) (.type "ValueError") = some true) && (decide (PySem.W.kitOne K (.ref (He.ga K "BadNumber")) (.ref (He.ga K "BadShape")) = some false) && (decide (PySem.W.exmOne K (.ref (He.ga K "BadNumber")) (.ref (He.ga K "BadNumber")) = some true) && true)))))))
def lo0 : List PySem.Str := ["MarketError",
  "BadNumber",
  "BadShape",
  "fraction",
  "add",
  "subtract",
  "multiply",
  "divide",
  "less",
  "total",
  "dot",
  "largest",
  "smallest",
  "_law_cell",
  "_law_digits",
  "_law_gcd",
  "_law_lowest",
  "_law_is_integer",
  "_law_same",
  "_law_pair",
  "_law_place",
  "_law_zero_denominator",
  "_law_zero_divisor",
  "_law_flag",
  "_law_two",
  "_law_sum",
  "_law_ends"]
def lo : List PySem.Str := lo0
abbrev RO : PySem.W.OpenRow := PySem.W.OpenLaw.row PySem.Challenge.rw_marketscleared_k00_fraction_arithmetic
abbrev hk : PySem.W.Hook := He.hookX 5 fa fn [] [] exF
def ob (s : PySem.W.SharedT) : He.AlX := He.obsX 5 fa fn [] [] exF (HandSHeadRun.getT s)
theorem ob_eq (s : PySem.W.SharedT) : ob s = hk.obs s.abs := He.obsX_eq (HandSHeadRun.getT_eq s)
theorem run (w : World) : HandSHeadRun.RunEqI RO (PySem.W.view RO.prog [0, 31]) hk ob 3000 lo w := by
  unfold HandSHeadRun.RunEqI
  kernel_rfl
theorem txt {w : World} {K : PySem.W.Frag} {h : Heap} {mg : Str → Option Value} (X : K.In h) (G : h.Ns mainGlobals mg) (c : He.SaysX fa fn [] [] exF w h K) : Txt K mg := by
  have e : exF K = true := c.more
  obtain ⟨e0, e⟩ := He.ba e
  obtain ⟨e1, e⟩ := He.ba e
  obtain ⟨e2, e⟩ := He.ba e
  obtain ⟨e3, e⟩ := He.ba e
  obtain ⟨e4, e⟩ := He.ba e
  obtain ⟨e5, e⟩ := He.ba e
  obtain ⟨e6, e⟩ := He.ba e
  exact {
    g_fraction := He.glo_ok X G (c.t.d.fact 0 rfl),
    F_fraction := funAt (c.t.d.def_ 0 rfl),
    g_add := He.glo_ok X G (c.t.d.fact 1 rfl),
    F_add := funAt (c.t.d.def_ 1 rfl),
    g_subtract := He.glo_ok X G (c.t.d.fact 2 rfl),
    F_subtract := funAt (c.t.d.def_ 2 rfl),
    g_multiply := He.glo_ok X G (c.t.d.fact 3 rfl),
    F_multiply := funAt (c.t.d.def_ 3 rfl),
    g_divide := He.glo_ok X G (c.t.d.fact 4 rfl),
    F_divide := funAt (c.t.d.def_ 4 rfl),
    g_less := He.glo_ok X G (c.t.d.fact 5 rfl),
    F_less := funAt (c.t.d.def_ 5 rfl),
    g_total := He.glo_ok X G (c.t.d.fact 6 rfl),
    F_total := funAt (c.t.d.def_ 6 rfl),
    g_dot := He.glo_ok X G (c.t.d.fact 7 rfl),
    F_dot := funAt (c.t.d.def_ 7 rfl),
    g_largest := He.glo_ok X G (c.t.d.fact 8 rfl),
    F_largest := funAt (c.t.d.def_ 8 rfl),
    g_smallest := He.glo_ok X G (c.t.d.fact 9 rfl),
    F_smallest := funAt (c.t.d.def_ 9 rfl),
    g__law_cell := He.glo_ok X G (c.t.d.fact 10 rfl),
    F__law_cell := funAt (c.t.d.def_ 10 rfl),
    g__law_digits := He.glo_ok X G (c.t.d.fact 11 rfl),
    F__law_digits := funAt (c.t.d.def_ 11 rfl),
    g__law_gcd := He.glo_ok X G (c.t.d.fact 12 rfl),
    F__law_gcd := funAt (c.t.d.def_ 12 rfl),
    g__law_lowest := He.glo_ok X G (c.t.d.fact 13 rfl),
    F__law_lowest := funAt (c.t.d.def_ 13 rfl),
    g__law_is_integer := He.glo_ok X G (c.t.d.fact 14 rfl),
    F__law_is_integer := funAt (c.t.d.def_ 14 rfl),
    g__law_same := He.glo_ok X G (c.t.d.fact 15 rfl),
    F__law_same := funAt (c.t.d.def_ 15 rfl),
    g__law_pair := He.glo_ok X G (c.t.d.fact 16 rfl),
    F__law_pair := funAt (c.t.d.def_ 16 rfl),
    g__law_place := He.glo_ok X G (c.t.d.fact 17 rfl),
    F__law_place := funAt (c.t.d.def_ 17 rfl),
    g__law_zero_denominator := He.glo_ok X G (c.t.d.fact 18 rfl),
    F__law_zero_denominator := funAt (c.t.d.def_ 18 rfl),
    g__law_zero_divisor := He.glo_ok X G (c.t.d.fact 19 rfl),
    F__law_zero_divisor := funAt (c.t.d.def_ 19 rfl),
    g__law_flag := He.glo_ok X G (c.t.d.fact 20 rfl),
    F__law_flag := funAt (c.t.d.def_ 20 rfl),
    g__law_two := He.glo_ok X G (c.t.d.fact 21 rfl),
    F__law_two := funAt (c.t.d.def_ 21 rfl),
    g__law_sum := He.glo_ok X G (c.t.d.fact 22 rfl),
    F__law_sum := funAt (c.t.d.def_ 22 rfl),
    g__law_ends := He.glo_ok X G (c.t.d.fact 23 rfl),
    F__law_ends := funAt (c.t.d.def_ 23 rfl),
    g_law := He.glo_ok X G (c.t.d.fact 24 rfl),
    F_law := funAt (c.t.d.def_ 24 rfl),
    g_MarketError := He.glo_ok X G (c.t.d.fact 25 rfl),
    g_BadNumber := He.glo_ok X G (c.t.d.fact 26 rfl),
    g_BadShape := He.glo_ok X G (c.t.d.fact 27 rfl),
    z_ValueError := He.free_ok X G (c.t.d.fact 28 rfl),
    z_abs := He.free_ok X G (c.t.d.fact 29 rfl),
    z_bool := He.free_ok X G (c.t.d.fact 30 rfl),
    z_int := He.free_ok X G (c.t.d.fact 31 rfl),
    z_isinstance := He.free_ok X G (c.t.d.fact 32 rfl),
    z_len := He.free_ok X G (c.t.d.fact 33 rfl),
    z_list := He.free_ok X G (c.t.d.fact 34 rfl),
    z_max := He.free_ok X G (c.t.d.fact 35 rfl),
    z_range := He.free_ok X G (c.t.d.fact 36 rfl),
    z_tuple := He.free_ok X G (c.t.d.fact 37 rfl),
    z_zip := He.free_ok X G (c.t.d.fact 38 rfl),
    FI_BadNumber := funAt (c.t.d.def_ 25 rfl),
    m_gcd := PySem.W.mg_of X G (of_decide_eq_true e0),
    x_BadNumber := exB_ok e1,
    n_BadNumber_place := of_decide_eq_true e2,
    k_BadNumber_MarketError := of_decide_eq_true e3,
    k_BadNumber_ValueError := of_decide_eq_true e4,
    k_BadNumber_BadShape := of_decide_eq_true e5,
    e_BadNumber_BadNumber := of_decide_eq_true e6 }
theorem facts {P : Program} {w : World} {K : PySem.W.Frag} {h : Heap} {mg : Str → Option Value} {f : Addr} (X : K.In h) (G : h.Ns mainGlobals mg) (hfa : mg ("law" : Str) = some (.ref f)) (c : He.SaysX fa fn [] [] exF w h K) :
    ∃ fd : FuncData, (∀ (s : Shared) (v : Value), BindsTo s fd ⟨[v], []⟩ [("script", v)]) ∧ ∀ base : Heap, K.In base → base.Ns mainGlobals mg → FnOk P w K mg base CX0 5 f fd ["script"] (spD K R_law) := by
  have T : Txt K mg := txt X G c
  have e := hfa.symm.trans T.g_law
  cases e
  have b := FunD.bindsA (ps := ["script"]) T.F_law fun _ _ _ _ _ _ us hl => match us, hl with | [_], _ => rfl
  exact ⟨_, fun s v => b s [v] rfl, fun base _ _ => ok_law T⟩
end DL
open PySem PySem.W PySem.Calls PyProof.Rows
theorem PySem.Challenge.cw_marketscleared_k00_fraction_arithmetic_holds : PySem.Challenge.rw_marketscleared_k00_fraction_arithmetic.Holds := by
  w_on; o_law
  refine HandSHeadRun.head_imp (r := DL.RO) (q := (PySem.W.view DL.RO.prog [0, 31])) (H := DL.hk) (ob := DL.ob) (M := 3000) (loose := DL.lo) (d := HandSHeadRun.topDef DL.RO.prog 31) (kwd := []) DL.ob_eq
    DL.run (by kernel_rfl) (by kernel_rfl) (by kernel_rfl) (by rfl) (by first | assumption | decide +kernel) (by decide +kernel) ⟨rfl, rfl, rfl, rfl, rfl, by decide +kernel⟩ ?hw ?hc
  case hw => w_witness2
  case hc =>
    refine L2.walk_ofE (l := PySem.Challenge.rw_marketscleared_k00_fraction_arithmetic) (n := 63) (k := 5) (x := "script") (CX := L2.CX0) rfl (by decide) (by kernel_rfl) ⟨rfl, by decide, by decide⟩ ?F (fun _ _ _ _ z => z)
    intro w mg fa h Y G hmg0
    obtain ⟨K, KX, c⟩ := Y
    have hmg : mg ("law" : PySem.Str) = some (.ref fa) := by
      have e : (HandSHeadRun.topDef DL.RO.prog 31).name = ("law" : PySem.Str) := by kernel_rfl
      rw [← e]
      exact hmg0
    obtain ⟨fd, hb, hF⟩ := DL.facts (P := (PySem.Challenge.rw_marketscleared_k00_fraction_arithmetic).prog) (w := w) KX G hmg c
    exact ⟨K, fd, DL.spD K DL.R_law, KX, hb, fun H a ns hl _ hS => DL.law_sp (fun ns hl => DL.R_law.mk ns hl) H a ns hl hS, hF⟩
