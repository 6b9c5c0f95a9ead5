import PyProof.Rows.All
import HandS.ForMost
import HandS.ForExc
import HandS.IsInst
import HandS.Gcd
import HandS.Wide
import HandS.Defaults
import HandS.Style
import HandS.Zip
import HandS.ExcInit
import HandS.ExcField
import HandS.CallSlots
import HandS.HotCalls
import KE.KExcIs
import HandS.HeadHook4
import HandS.Head3
import HandS.HeadEnd
import KE.GoesEnum
import PySem.Challenge.RW_marketscleared_k57_envies_and_short_ones
set_option Elab.async false
set_option linter.all false
set_option maxRecDepth 100000
set_option maxHeartbeats 4000000
set_option autoImplicit false
/-! DL: a layer of pure data over HandS: slots hold data (ints, bools, texts, tuples, lists, instances); heaps are not seen by the prover. -/
namespace DL
open PySem PySem.Spec PyProof.Rows L2

/-! ### data -/
inductive Dt where
  | non | bl (b : Bool) | int (i : Int) | str (x : Str) | ref (a : Addr) | ty (n : String)
  | tup (ds : List Dt) | lst (ds : List Dt) | ins (C : Addr) (fs : List (Str × Dt)) | exc (a C dd : Addr) (fs : List (Str × Dt))
mutual
def Rep (K : PySem.W.Frag) (G : Hp) : Dt → V → Prop
  | .non, v => v = .non
  | .bl b, v => v = .bl b
  | .int b, v => v = .int b
  | .str b, v => v = .str b
  | .ref b, v => v = .ref b
  | .ty b, v => v = .ty b
  | .tup ds, v => ∃ a xs, v = .ref a ∧ SqT K G a xs ∧ Reps K G ds xs
  | .lst ds, v => ∃ a xs, v = .ref a ∧ SqL K G a xs ∧ Reps K G ds xs
  | .ins C fs, v => ∃ a dx xs, v = .ref a ∧ G a = some (.ins C dx xs) ∧ RepF K G fs xs
  | .exc a _ dd fs, v => v = .ref a ∧ ∃ xs, G dd = some (.xd xs) ∧ RepF K G fs xs
def Reps (K : PySem.W.Frag) (G : Hp) : List Dt → List V → Prop
  | [], vs => vs = []
  | d :: ds, vs => ∃ v r, vs = v :: r ∧ Rep K G d v ∧ Reps K G ds r
def RepF (K : PySem.W.Frag) (G : Hp) : List (Str × Dt) → List (Str × V) → Prop
  | [], vs => vs = []
  | (x, d) :: ds, vs => ∃ v r, vs = (x, v) :: r ∧ Rep K G d v ∧ RepF K G ds r
end
section
variable {K : PySem.W.Frag} {G G' : Hp}
theorem Same.seqT {H H' : Hp} {a : Addr} {xs : List V} (e : Same H H') (h : SqT K H a xs) : SqT K H' a xs := by
  rcases h with (h | ⟨o, h⟩) | h
  · exact .inl (.inl (e _ _ h))
  · exact .inl (.inr ⟨o, e _ _ h⟩)
  · exact .inr h
mutual
theorem Rep.mono (e : Same G G') : ∀ (d : Dt) (v : V), Rep K G d v → Rep K G' d v
  | .non, _, h => h
  | .bl b, _, h => h
  | .int b, _, h => h
  | .str b, _, h => h
  | .ref b, _, h => h
  | .ty b, _, h => h
  | .tup ds, _, h => by
    obtain ⟨a, xs, h1, h2, h3⟩ := h
    exact ⟨a, xs, h1, Same.seqT e h2, Reps.mono e ds xs h3⟩
  | .lst ds, _, h => by
    obtain ⟨a, xs, h1, h2, h3⟩ := h
    exact ⟨a, xs, h1, e.seq h2, Reps.mono e ds xs h3⟩
  | .ins C fs, _, h => by
    obtain ⟨a, dx, xs, h1, h2, h3⟩ := h
    exact ⟨a, dx, xs, h1, e _ _ h2, RepF.mono e fs xs h3⟩
  | .exc _ _ dd fs, _, h => by
    obtain ⟨h1, xs, h2, h3⟩ := h
    exact ⟨h1, xs, e _ _ h2, RepF.mono e fs xs h3⟩
theorem Reps.mono (e : Same G G') : ∀ (ds : List Dt) (vs : List V), Reps K G ds vs → Reps K G' ds vs
  | [], _, h => h
  | d :: ds, _, h => by
    obtain ⟨v, r, h1, h2, h3⟩ := h
    exact ⟨v, r, h1, Rep.mono e d v h2, Reps.mono e ds r h3⟩
theorem RepF.mono (e : Same G G') : ∀ (ds : List (Str × Dt)) (vs : List (Str × V)), RepF K G ds vs → RepF K G' ds vs
  | [], _, h => h
  | (x, d) :: ds, _, h => by
    obtain ⟨v, r, h1, h2, h3⟩ := h
    exact ⟨v, r, h1, Rep.mono e d v h2, RepF.mono e ds r h3⟩
end
theorem Reps.length : ∀ {ds : List Dt} {vs : List V}, Reps K G ds vs → vs.length = ds.length
  | [], _, h => by rw [show _ = [] from h]; rfl
  | d :: ds, _, h => by
    obtain ⟨v, r, rfl, _, h3⟩ := h
    rw [List.length_cons, List.length_cons, Reps.length h3]
theorem Reps.get : ∀ {ds : List Dt} {vs : List V} {i : Nat} {d : Dt}, Reps K G ds vs → ds[i]? = some d → ∃ v, vs[i]? = some v ∧ Rep K G d v
  | [], _, _, _, _, e => by simp at e
  | d :: ds, _, 0, _, h, e => by
    obtain ⟨v, r, rfl, h2, _⟩ := h
    have e1 : d = _ := Option.some.inj e
    subst e1
    exact ⟨v, rfl, h2⟩
  | d :: ds, _, i + 1, _, h, e => by
    obtain ⟨v, r, rfl, _, h3⟩ := h
    exact Reps.get (i := i) h3 e
theorem Reps.get' : ∀ {ds : List Dt} {vs : List V} {i : Nat} {v : V}, Reps K G ds vs → vs[i]? = some v → ∃ d, ds[i]? = some d ∧ Rep K G d v
  | [], _, _, _, h, e => by rw [show _ = [] from h] at e; simp at e
  | d :: ds, _, 0, _, h, e => by
    obtain ⟨v, r, rfl, h2, _⟩ := h
    have e1 : v = _ := Option.some.inj e
    subst e1
    exact ⟨d, rfl, h2⟩
  | d :: ds, _, i + 1, _, h, e => by
    obtain ⟨v, r, rfl, _, h3⟩ := h
    exact Reps.get' (i := i) h3 e
theorem Reps.append : ∀ {ds es : List Dt} {vs ws : List V}, Reps K G ds vs → Reps K G es ws → Reps K G (ds ++ es) (vs ++ ws)
  | [], _, _, _, h, q => by rw [show _ = [] from h]; exact q
  | d :: ds, _, _, _, h, q => by
    obtain ⟨v, r, rfl, h2, h3⟩ := h
    exact ⟨v, r ++ _, rfl, h2, Reps.append h3 q⟩
theorem Reps.one {d : Dt} {v : V} (h : Rep K G d v) : Reps K G [d] [v] := ⟨v, [], rfl, h, rfl⟩
theorem Reps.take : ∀ {ds : List Dt} {vs : List V} (n : Nat), Reps K G ds vs → Reps K G (ds.take n) (vs.take n)
  | _, _, 0, _ => rfl
  | [], _, n + 1, h => by rw [show _ = [] from h]; rfl
  | d :: ds, _, n + 1, h => by
    obtain ⟨v, r, rfl, h2, h3⟩ := h
    exact ⟨v, r.take n, rfl, h2, Reps.take n h3⟩
theorem Reps.drop : ∀ {ds : List Dt} {vs : List V} (n : Nat), Reps K G ds vs → Reps K G (ds.drop n) (vs.drop n)
  | _, _, 0, h => h
  | [], _, n + 1, h => by rw [show _ = [] from h]; rfl
  | d :: ds, _, n + 1, h => by
    obtain ⟨v, r, rfl, h2, h3⟩ := h
    exact Reps.drop n h3
theorem Reps.set : ∀ {ds : List Dt} {vs : List V} (i : Nat) {d : Dt} {v : V}, Reps K G ds vs → Rep K G d v → Reps K G (ds.set i d) (vs.set i v)
  | [], _, i, _, _, h, _ => by rw [show _ = [] from h]; rfl
  | e :: ds, _, 0, _, _, h, q => by
    obtain ⟨v, r, rfl, h2, h3⟩ := h
    exact ⟨_, r, rfl, q, h3⟩
  | e :: ds, _, i + 1, _, _, h, q => by
    obtain ⟨v, r, rfl, h2, h3⟩ := h
    exact ⟨v, r.set i _, rfl, h2, Reps.set i h3 q⟩
theorem Reps.rep {d : Dt} {v : V} (h : Rep K G d v) : ∀ n : Nat, Reps K G (List.replicate n d) (List.replicate n v)
  | 0 => rfl
  | n + 1 => ⟨v, List.replicate n v, rfl, h, Reps.rep h n⟩
theorem RepF.look : ∀ {ds : List (Str × Dt)} {vs : List (Str × V)} {f : Str} {d : Dt}, RepF K G ds vs → ds.lookup f = some d → ∃ v, vs.lookup f = some v ∧ Rep K G d v
  | [], _, _, _, _, e => by simp at e
  | (x, d) :: ds, _, f, _, h, e => by
    obtain ⟨v, r, rfl, h2, h3⟩ := h
    rw [List.lookup_cons] at e ⊢
    cases hb : f == x with
    | true =>
      rw [hb] at e
      have e1 : d = _ := Option.some.inj e
      subst e1
      exact ⟨v, rfl, h2⟩
    | false =>
      rw [hb] at e
      exact RepF.look h3 e
/-- a list of ints -/
theorem reps_ints : ∀ {ns : List Int} {vs : List V}, Reps K G (ns.map Dt.int) vs → vs = ns.map V.int
  | [], _, h => h
  | n :: ns, _, h => by
    obtain ⟨v, r, rfl, h2, h3⟩ := h
    rw [show v = .int n from h2, reps_ints h3]
    rfl
theorem reps_of_ints : ∀ (ns : List Int), Reps K G (ns.map Dt.int) (ns.map V.int)
  | [] => rfl
  | n :: ns => ⟨_, _, rfl, rfl, reps_of_ints ns⟩
theorem reps_bls : ∀ {ns : List Bool} {vs : List V}, Reps K G (ns.map Dt.bl) vs → vs = ns.map V.bl
  | [], _, h => h
  | n :: ns, _, h => by
    obtain ⟨v, r, rfl, h2, h3⟩ := h
    rw [show v = .bl n from h2, reps_bls h3]
    rfl
end

/-! ### what is hidden: lists that a def owns -/
def hid (O : List Addr) (H : Hp) : Hp := fun a => if a ∈ O then none else H a
section
variable {O O' : List Addr} {H H' : Hp} {p : Addr} {o : HO}
theorem hid_in (h : p ∈ O) : hid O H p = none := by unfold hid; rw [if_pos h]
theorem hid_out (h : p ∉ O) : hid O H p = H p := by unfold hid; rw [if_neg h]
theorem hid_le : Same (hid O H) H := fun a o e => by
  by_cases h : a ∈ O
  · rw [hid_in h] at e; cases e
  · rw [hid_out h] at e; exact e
theorem hid_mono (s : Same H H') : Same (hid O H) (hid O H') := fun a o e => by
  by_cases h : a ∈ O
  · rw [hid_in h] at e; cases e
  · rw [hid_out h] at e ⊢; exact s a o e
theorem hid_sub (s : ∀ p ∈ O', p ∈ O) : Same (hid O H) (hid O' H) := fun a o e => by
  by_cases h : a ∈ O
  · rw [hid_in h] at e; cases e
  · rw [hid_out h] at e
    rw [hid_out fun z => h (s a z)]
    exact e
theorem same_upd (h : H p = none) : Same H (upd H p o) := fun b x e => by
  rw [upd_ne (ne_of_none e h)]
  exact e
/-- a hidden thing changes -/
theorem hid_upd (h : p ∈ O) : hid O (upd H p o) = hid O H := by
  funext a
  by_cases ha : a ∈ O
  · rw [hid_in ha, hid_in ha]
  · rw [hid_out ha, hid_out ha, upd_ne fun e => ha (by rw [e]; exact h)]
theorem same_mut {B : Hp} (s : Same B H) (h : B p = none) : Same B (upd H p o) := fun b x e => by
  rw [upd_ne (ne_of_none e h)]
  exact s b x e
end

/-! ### slots -/
inductive Sl where
  | any | dat (d : Dt) | own (ds : List Dt) | own2 (rows : List (List Dt))
abbrev PEnv := List Sl
/-- the lists at the addresses as hold the rows -/
def Rows (K : PySem.W.Frag) (G : Hp) (O : List Addr) (H : Hp) : List (List Dt) → List Addr → Prop
  | [], as => as = []
  | ds :: rs, as => ∃ a r ys, as = a :: r ∧ a ∈ O ∧ H a = some (.lst ys) ∧ Reps K G ds ys ∧ Rows K G O H rs r
def SlOk (K : PySem.W.Frag) (O0 O : List Addr) (H : Hp) : Sl → Option (Option V) → Prop
  | .any, _ => True
  | .dat d, x => ∃ v, x = some (some v) ∧ Rep K (hid (O0 ++ O) H) d v
  | .own ds, x => ∃ p xs, x = some (some (.ref p)) ∧ p ∈ O ∧ H p = some (.lst xs) ∧ Reps K (hid (O0 ++ O) H) ds xs
  | .own2 rows, x => ∃ p as, x = some (some (.ref p)) ∧ p ∈ O ∧ H p = some (.lst (as.map V.ref)) ∧ (p :: as).Nodup ∧ Rows K (hid (O0 ++ O) H) O H rows as
/-- what a slot owns -/
def Owns (H : Hp) : Sl → Option (Option V) → Addr → Prop
  | .own _, x, q => x = some (some (.ref q))
  | .own2 _, x, q => ∃ p as, x = some (some (.ref p)) ∧ H p = some (.lst (as.map V.ref)) ∧ q ∈ p :: as
  | _, _, _ => False
structure OkH (O0 : List Addr) (B : Hp) (O : List Addr) (H : Hp) : Prop where
  dom : ∀ p ∈ O0 ++ O, H p ≠ none
  ext : Same B H
  fr : ∀ p ∈ O, B p = none
  no0 : ∀ p ∈ O, p ∉ O0
structure Ok (K : PySem.W.Frag) (O0 : List Addr) (B : Hp) (O : List Addr) (σ : L2.St) (ρ : PEnv) (H : Hp) : Prop where
  h : OkH O0 B O H
  len : ρ.length = σ.length
  sl : ∀ (i : Nat) (s : Sl), ρ[i]? = some s → SlOk K O0 O H s σ[i]?
  dis : ∀ (i j : Nat) (a b : Sl) (p : Addr), ρ[i]? = some a → ρ[j]? = some b → Owns H a σ[i]? p → Owns H b σ[j]? p → i = j
section
variable {K : PySem.W.Frag} {O0 O0' O O' : List Addr} {H H' G G' : Hp} {s : Sl} {x : Option (Option V)} {q : Addr}
theorem Rows.imp (hG : Same G G') : ∀ {rows : List (List Dt)} {as : List Addr}, Rows K G O H rows as → (∀ a ∈ as, a ∈ O → a ∈ O' ∧ ∀ o, H a = some o → H' a = some o) → Rows K G' O' H' rows as
  | [], _, h, _ => h
  | ds :: rs, _, ⟨a, r, ys, e, ha, hy, hr, ht⟩, k => by
    subst e
    obtain ⟨k1, k2⟩ := k a List.mem_cons_self ha
    exact ⟨a, r, ys, rfl, k1, k2 _ hy, Reps.mono hG ds ys hr, Rows.imp hG ht fun b hb => k b (List.mem_cons_of_mem _ hb)⟩
theorem Rows.mem : ∀ {rows : List (List Dt)} {as : List Addr} {a : Addr}, Rows K G O H rows as → a ∈ as → a ∈ O ∧ H a ≠ none
  | [], _, _, h, m => by
    have h' : _ = [] := h
    subst h'
    cases m
  | ds :: rs, _, b, ⟨a, r, ys, e, ha, hy, hr, ht⟩, m => by
    subst e
    rcases List.mem_cons.mp m with z | z
    · rw [z]
      exact ⟨ha, by rw [hy]; exact fun z => nomatch z⟩
    · exact Rows.mem ht z
theorem Owns.inO (z : SlOk K O0 O H s x) (h : Owns H s x q) : q ∈ O ∧ H q ≠ none := by
  cases s with
  | any => exact h.elim
  | dat d => exact h.elim
  | own ds =>
    obtain ⟨p, xs, h1, h2, h3, h4⟩ := z
    have h' : x = some (some (.ref q)) := h
    rw [h1] at h'
    have e : p = q := by injection (Option.some.inj (Option.some.inj h'))
    subst e
    exact ⟨h2, by rw [h3]; exact fun z => nomatch z⟩
  | own2 rows =>
    obtain ⟨p, as, h1, h2, h3, h4, h5⟩ := z
    obtain ⟨p', as', g1, g2, g3⟩ := h
    rw [h1] at g1
    have e : p = p' := by injection (Option.some.inj (Option.some.inj g1))
    subst e
    rw [h3] at g2
    have e2 : as.map V.ref = as'.map V.ref := by injection (Option.some.inj g2)
    have e3 : as = as' := List.map_inj_right (fun _ _ z => by injection z) |>.mp e2
    subst e3
    rcases List.mem_cons.mp g3 with z | z
    · rw [z]
      exact ⟨h2, by rw [h3]; exact fun z => nomatch z⟩
    · exact h5.mem z
theorem SlOk.imp (z : SlOk K O0 O H s x) (hG : Same (hid (O0 ++ O) H) (hid (O0' ++ O') H')) (hH : ∀ p, p ∈ O → Owns H s x p → p ∈ O' ∧ ∀ o, H p = some o → H' p = some o) : SlOk K O0' O' H' s x := by
  cases s with
  | any => exact True.intro
  | dat d =>
    obtain ⟨v, h1, h2⟩ := z
    exact ⟨v, h1, Rep.mono hG d v h2⟩
  | own ds =>
    obtain ⟨p, xs, h1, h2, h3, h4⟩ := z
    obtain ⟨k1, k2⟩ := hH p h2 h1
    exact ⟨p, xs, h1, k1, k2 _ h3, Reps.mono hG ds xs h4⟩
  | own2 rows =>
    obtain ⟨p, as, h1, h2, h3, h4, h5⟩ := z
    have ow : ∀ q ∈ p :: as, Owns H (.own2 rows) x q := fun q hq => ⟨p, as, h1, h3, hq⟩
    obtain ⟨k1, k2⟩ := hH p h2 (ow p List.mem_cons_self)
    exact ⟨p, as, h1, k1, k2 _ h3, h4, h5.imp hG fun a ha hO => hH a hO (ow a (List.mem_cons_of_mem _ ha))⟩
theorem Owns.back (z : SlOk K O0 O H s x) (hH : ∀ p, p ∈ O → Owns H s x p → ∀ o, H p = some o → H' p = some o) (h : Owns H' s x q) : Owns H s x q := by
  cases s with
  | any => exact h
  | dat d => exact h
  | own ds => exact h
  | own2 rows =>
    obtain ⟨p, as, h1, h2, h3, h4, h5⟩ := z
    obtain ⟨p', as', g1, g2, g3⟩ := h
    have e1 := g1
    rw [h1] at e1
    have e : p = p' := by injection (Option.some.inj (Option.some.inj e1))
    subst e
    have k := hH p h2 ⟨p, as, h1, h3, List.mem_cons_self⟩ _ h3
    rw [g2] at k
    exact ⟨p, as', g1, by rw [h3, ← k], g3⟩
end
section
variable {K : PySem.W.Frag} {O0 O : List Addr} {B B' H H' : Hp} {σ : L2.St} {ρ : PEnv}
theorem OkH.mono (k : OkH O0 B O H) (s : Same H H') : OkH O0 B O H' :=
  ⟨fun p hp e => k.dom p hp (s.free e), k.ext.trans s, k.fr, k.no0⟩
theorem OkH.out (k : OkH O0 B O H) {p : Addr} (h : H p = none) : p ∉ O0 ++ O := fun z => k.dom p z h
theorem OkH.base (k : OkH O0 B' O H) (s : Same B B') : OkH O0 B O H := ⟨k.dom, s.trans k.ext, fun p hp => s.free (k.fr p hp), k.no0⟩
/-- all that is not owned is kept from here on -/
theorem OkH.deep (k : OkH O0 B O H) : OkH O0 (hid O H) O H := ⟨k.dom, hid_le, fun p hp => hid_in hp, k.no0⟩
theorem OkH.deepS (k : OkH O0 B O H) : Same B (hid O H) := fun a o e => by
  rw [hid_out fun z => by rw [k.fr a z] at e; cases e]
  exact k.ext a o e
theorem SlOk.mono {s : Sl} {x : Option (Option V)} (h : SlOk K O0 O H s x) (e : Same H H') : SlOk K O0 O H' s x := h.imp (hid_mono e) fun p hp _ => ⟨hp, fun o q => e _ _ q⟩
theorem Ok.mono (k : Ok K O0 B O σ ρ H) (e : Same H H') : Ok K O0 B O σ ρ H' := ⟨k.h.mono e, k.len, fun i s hs => (k.sl i s hs).mono e, fun i j a b p h1 h2 h3 h4 => k.dis i j a b p h1 h2 (h3.back (k.sl i a h1) fun p _ _ o q => e _ _ q) (h4.back (k.sl j b h2) fun p _ _ o q => e _ _ q)⟩
theorem Ok.base (k : Ok K O0 B' O σ ρ H) (s : Same B B') : Ok K O0 B O σ ρ H := ⟨k.h.base s, k.len, k.sl, k.dis⟩
theorem Ok.deep (k : Ok K O0 B O σ ρ H) : Ok K O0 (hid O H) O σ ρ H := ⟨k.h.deep, k.len, k.sl, k.dis⟩
/-- what was known of unowned things stays known -/
theorem OkH.know {O1 : List Addr} {H1 : Hp} (k : OkH O0 (hid O H) O1 H1) : Same (hid (O0 ++ O) H) (hid (O0 ++ O1) H1) := fun a o e => by
  have ha : a ∉ O0 ++ O := fun z => by rw [hid_in z] at e; cases e
  rw [hid_out ha] at e
  have h1 : hid O H a = some o := by
    rw [hid_out fun z => ha (List.mem_append_right _ z)]
    exact e
  have h2 : a ∉ O1 := fun z => by
    rw [k.fr a z] at h1
    cases h1
  rw [hid_out fun z => (List.mem_append.mp z).elim (fun z => ha (List.mem_append_left _ z)) h2]
  exact k.ext a o h1
/-- a slot set to what owns nothing -/
theorem dis_set {i : Nat} {t : Sl} {y : Option V} (k : Ok K O0 B O σ ρ H) (ht : ∀ x q, ¬ Owns H t x q) (a b : Nat) (sa sb : Sl) (p : Addr) (h1 : (ρ.set i t)[a]? = some sa) (h2 : (ρ.set i t)[b]? = some sb) (h3 : Owns H sa (σ.set i y)[a]? p) (h4 : Owns H sb (σ.set i y)[b]? p) : a = b := by
  have ne : ∀ (c : Nat) (sc : Sl), (ρ.set i t)[c]? = some sc → Owns H sc (σ.set i y)[c]? p → i ≠ c := fun c sc hc ho e => by
    subst e
    by_cases hi : i < ρ.length
    · rw [List.getElem?_set_self hi] at hc
      cases hc
      exact ht _ _ ho
    · rw [List.getElem?_eq_none (by rw [List.length_set]; omega)] at hc
      cases hc
  have na := ne a sa h1 h3
  have nb := ne b sb h2 h4
  rw [List.getElem?_set_ne na] at h1 h3
  rw [List.getElem?_set_ne nb] at h2 h4
  exact k.dis a b sa sb p h1 h2 h3 h4
theorem Ok.set (k : Ok K O0 B O σ ρ H) {i : Nat} {d : Dt} {v : V} (r : Rep K (hid (O0 ++ O) H) d v) : Ok K O0 B O (σ.set i (some v)) (ρ.set i (.dat d)) H := by
  refine ⟨k.h, by rw [List.length_set, List.length_set]; exact k.len, fun j s hs => ?_, dis_set k fun _ _ z => z⟩
  by_cases e : i = j
  · subst e
    by_cases hi : i < ρ.length
    · rw [List.getElem?_set_self hi] at hs
      cases hs
      exact ⟨v, List.getElem?_set_self (by rw [← k.len]; exact hi), r⟩
    · rw [List.getElem?_eq_none (by rw [List.length_set]; omega)] at hs
      cases hs
  · rw [List.getElem?_set_ne e] at hs ⊢
    exact k.sl j s hs
/-- new things are given to a slot that owns them -/
theorem Ok.give (k : Ok K O0 B O σ ρ H) {i : Nat} {t : Sl} {y : Option V} {N : List Addr} (hB : ∀ p ∈ N, H p = none) {H' : Hp} (e : Same H H') (hN : ∀ p ∈ N, H' p ≠ none) (ht : i < σ.length → SlOk K O0 (N ++ O) H' t (some y)) (ho : ∀ q, Owns H' t (some y) q → q ∈ N) :
    Ok K O0 B (N ++ O) (σ.set i y) (ρ.set i t) H' := by
  have hx : ∀ p ∈ N, p ∉ O0 ++ O := fun p hp => k.h.out (hB p hp)
  have hr : Same (hid (O0 ++ O) H) (hid (O0 ++ (N ++ O)) H') := fun a o q => by
    have ha : a ∉ O0 ++ O := fun z => by rw [hid_in z] at q; cases q
    rw [hid_out ha] at q
    rw [hid_out fun z => ?_]
    · exact e a o q
    · rcases List.mem_append.mp z with z | z
      · exact ha (List.mem_append_left _ z)
      · rcases List.mem_append.mp z with z | z
        · rw [hB a z] at q; cases q
        · exact ha (List.mem_append_right _ z)
  have old : ∀ (c : Nat) (sc : Sl), ρ[c]? = some sc → SlOk K O0 (N ++ O) H' sc σ[c]? := fun c sc hc => (k.sl c sc hc).imp hr fun p hp _ => ⟨List.mem_append_right _ hp, fun o q => e _ _ q⟩
  have bk : ∀ (c : Nat) (sc : Sl) (q : Addr), ρ[c]? = some sc → Owns H' sc σ[c]? q → Owns H sc σ[c]? q := fun c sc q hc ho' => ho'.back (k.sl c sc hc) fun p _ _ o q => e _ _ q
  have atI' : ∀ (sc : Sl), (ρ.set i t)[i]? = some sc → sc = t ∧ i < σ.length := fun sc hc => by
    by_cases hi : i < ρ.length
    · rw [List.getElem?_set_self hi] at hc
      cases hc
      exact ⟨rfl, by rw [← k.len]; exact hi⟩
    · rw [List.getElem?_eq_none (by rw [List.length_set]; omega)] at hc
      cases hc
  have no : ∀ (c : Nat) (sc : Sl) (q : Addr), q ∈ N → ρ[c]? = some sc → Owns H' sc σ[c]? q → False := fun c sc q hq hc ho' => ((bk c sc q hc ho').inO (k.sl c sc hc)).2 (hB q hq)
  refine ⟨⟨fun q hq z => ?_, k.h.ext.trans e, fun q hq => ?_, fun q hq => ?_⟩, by rw [List.length_set, List.length_set]; exact k.len, fun j s hs => ?_, fun a b sa sb q h1 h2 h3 h4 => ?_⟩
  · rcases List.mem_append.mp hq with hq | hq
    · exact k.h.dom q (List.mem_append_left _ hq) (e.free z)
    · rcases List.mem_append.mp hq with hq | hq
      · exact hN q hq z
      · exact k.h.dom q (List.mem_append_right _ hq) (e.free z)
  · rcases List.mem_append.mp hq with hq | hq
    · exact k.h.ext.free (hB q hq)
    · exact k.h.fr q hq
  · rcases List.mem_append.mp hq with hq | hq
    · exact fun z => hx q hq (List.mem_append_left _ z)
    · exact k.h.no0 q hq
  · by_cases ej : i = j
    · subst ej
      obtain ⟨rfl, hi⟩ := atI' s hs
      rw [List.getElem?_set_self hi]
      exact ht hi
    · rw [List.getElem?_set_ne ej] at hs ⊢
      exact old j s hs
  · by_cases ea : i = a
    · subst ea
      by_cases eb : i = b
      · exact eb
      · rw [List.getElem?_set_ne eb] at h2 h4
        obtain ⟨rfl, hi⟩ := atI' sa h1
        rw [List.getElem?_set_self hi] at h3
        exact (no b sb q (ho q h3) h2 h4).elim
    · rw [List.getElem?_set_ne ea] at h1 h3
      by_cases eb : i = b
      · subst eb
        obtain ⟨rfl, hi⟩ := atI' sb h2
        rw [List.getElem?_set_self hi] at h4
        exact (no a sa q (ho q h4) h1 h3).elim
      · rw [List.getElem?_set_ne eb] at h2 h4
        exact k.dis a b sa sb q h1 h2 (bk a sa q h1 h3) (bk b sb q h2 h4)
theorem Ok.setOwn (k : Ok K O0 B O σ ρ H) {i : Nat} {ds : List Dt} {p : Addr} {xs : List V} (hB : H p = none) {H' : Hp} (e : Same H H') (hp : H' p = some (.lst xs)) (r : Reps K (hid (O0 ++ (p :: O)) H') ds xs) :
    Ok K O0 B (p :: O) (σ.set i (some (.ref p))) (ρ.set i (.own ds)) H' :=
  k.give (N := [p]) (fun q hq => by rw [List.mem_singleton.mp hq]; exact hB) e (fun q hq => by rw [List.mem_singleton.mp hq, hp]; exact fun z => nomatch z) (fun _ => ⟨p, xs, rfl, List.mem_cons_self, hp, r⟩) fun q hq => by
    have h' : some (some (V.ref p)) = some (some (.ref q)) := hq
    have z : p = q := by injection (Option.some.inj (Option.some.inj h'))
    rw [z]
    exact List.mem_singleton.mpr rfl
/-- an owned thing is changed: one address of the slot i -/
theorem Ok.mutG (k : Ok K O0 B O σ ρ H) {i : Nat} {s t : Sl} {p : Addr} {o : HO} (hi : ρ[i]? = some s) (hw : Owns H s σ[i]? p) (ho : p ∈ O) (ht : SlOk K O0 O (upd H p o) t σ[i]?) (hb : ∀ q, Owns (upd H p o) t σ[i]? q → Owns H s σ[i]? q) :
    Ok K O0 B O σ (ρ.set i t) (upd H p o) := by
  have hpo : p ∈ O0 ++ O := List.mem_append_right _ ho
  have hu : hid (O0 ++ O) (upd H p o) = hid (O0 ++ O) H := hid_upd hpo
  have oth : ∀ (c : Nat) (sc : Sl), i ≠ c → ρ[c]? = some sc → ∀ q, Owns H sc σ[c]? q → ∀ u, H q = some u → upd H p o q = some u := fun c sc hc h1 q hq u e => by
    rw [upd_ne fun z => hc (k.dis i c s sc p hi h1 hw (by rw [← z]; exact hq))]
    exact e
  refine ⟨⟨fun q hq z => ?_, same_mut k.h.ext (k.h.fr p ho), k.h.fr, k.h.no0⟩, by rw [List.length_set]; exact k.len, fun j sj hs => ?_, fun a b fa fb q h1 h2 h3 h4 => ?_⟩
  · by_cases e : q = p
    · subst e
      rw [upd_same] at z; cases z
    · rw [upd_ne e] at z
      exact k.h.dom q hq z
  · by_cases ej : i = j
    · subst ej
      rw [List.getElem?_set_self (List.getElem?_eq_some_iff.mp hi).1] at hs
      cases hs
      exact ht
    · rw [List.getElem?_set_ne ej] at hs
      exact (k.sl j sj hs).imp (fun a u e => by rw [hu]; exact e) fun q hq hw' => ⟨hq, oth j sj ej hs q hw'⟩
  · have own_of : ∀ (c : Nat) (fc : Sl), (ρ.set i t)[c]? = some fc → Owns (upd H p o) fc σ[c]? q → ∃ g, ρ[c]? = some g ∧ Owns H g σ[c]? q := fun c fc hc hw' => by
      by_cases e : i = c
      · subst e
        rw [List.getElem?_set_self (List.getElem?_eq_some_iff.mp hi).1] at hc
        cases hc
        exact ⟨s, hi, hb q hw'⟩
      · rw [List.getElem?_set_ne e] at hc
        exact ⟨fc, hc, hw'.back (k.sl c fc hc) fun q' _ hw'' => oth c fc e hc q' hw''⟩
    obtain ⟨ga, h1', h3'⟩ := own_of a fa h1 h3
    obtain ⟨gb, h2', h4'⟩ := own_of b fb h2 h4
    exact k.dis a b ga gb q h1' h2' h3' h4'
/-- an owned list is changed -/
theorem Ok.mut (k : Ok K O0 B O σ ρ H) {i : Nat} {ds es : List Dt} {p : Addr} {ys : List V} (hi : ρ[i]? = some (.own ds)) (hp : σ[i]? = some (some (.ref p))) (r : Reps K (hid (O0 ++ O) H) es ys) (ho : p ∈ O) :
    Ok K O0 B O σ (ρ.set i (.own es)) (upd H p (.lst ys)) :=
  k.mutG hi (s := .own ds) (t := .own es) hp ho ⟨p, ys, hp, ho, upd_same, by rw [hid_upd (List.mem_append_right _ ho)]; exact r⟩ fun q h => h
end

/-! ### weaker environments: a slot forgotten, an owned list given free -/
def WkS : Sl → Sl → Prop := fun a b => b = .any ∨ a = b ∨ (∃ ds, a = .own ds ∧ b = .dat (.lst ds)) ∨ (∃ rs, a = .own2 rs ∧ (b = .dat (.lst (rs.map Dt.lst)) ∨ b = .own (rs.map Dt.lst)))
def Wk : PEnv → PEnv → Prop
  | [], [] => True
  | a :: r, b :: s => WkS a b ∧ Wk r s
  | _, _ => False
theorem Wk.refl : ∀ ρ : PEnv, Wk ρ ρ
  | [] => True.intro
  | a :: r => ⟨.inr (.inl rfl), Wk.refl r⟩
theorem Wk.length : ∀ {ρ τ : PEnv}, Wk ρ τ → ρ.length = τ.length
  | [], [], _ => rfl
  | a :: r, b :: s, h => by rw [List.length_cons, List.length_cons, Wk.length h.2]
theorem Wk.get : ∀ {ρ τ : PEnv} {i : Nat} {b : Sl}, Wk ρ τ → τ[i]? = some b → ∃ a, ρ[i]? = some a ∧ WkS a b
  | [], [], _, _, _, e => by simp at e
  | a :: r, b :: s, 0, _, h, e => by
    have e1 : b = _ := Option.some.inj e
    subst e1
    exact ⟨a, rfl, h.1⟩
  | a :: r, b :: s, i + 1, _, h, e => Wk.get (i := i) h.2 e
section
variable {K : PySem.W.Frag} {O0 O : List Addr} {B H : Hp} {σ : L2.St} {ρ τ : PEnv}
theorem rows_reps {G : Hp} : ∀ {rows : List (List Dt)} {as : List Addr}, Rows K (hid (O0 ++ O) H) O H rows as → (∀ a ∈ as, ∀ o, H a = some o → G a = some o) → Same (hid (O0 ++ O) H) G → Reps K G (rows.map Dt.lst) (as.map V.ref)
  | [], _, h, _, _ => by
    have h' : _ = [] := h
    subst h'
    rfl
  | ds :: rs, _, ⟨a, r, ys, e, ha, hy, hr, ht⟩, k, s => by
    subst e
    exact ⟨.ref a, r.map V.ref, rfl, ⟨a, ys, rfl, .inl (.inl (k a List.mem_cons_self _ hy)), Reps.mono s ds ys hr⟩, rows_reps ht (fun b hb => k b (List.mem_cons_of_mem _ hb)) s⟩
open Classical in
theorem Ok.weak (k : Ok K O0 B O σ ρ H) (w : Wk ρ τ) : ∃ O', Ok K O0 B O' σ τ H := by
  refine ⟨O.filter fun p => decide (∃ (i : Nat) (b : Sl), τ[i]? = some b ∧ Owns H b σ[i]? p), ?_⟩
  generalize hO' : (O.filter fun p => decide (∃ (i : Nat) (b : Sl), τ[i]? = some b ∧ Owns H b σ[i]? p)) = O'
  have inO' : ∀ p, p ∈ O' ↔ p ∈ O ∧ ∃ (i : Nat) (b : Sl), τ[i]? = some b ∧ Owns H b σ[i]? p := fun p => by
    rw [← hO', List.mem_filter, decide_eq_true_iff]
  clear hO'
  have sub2 : ∀ p ∈ O0 ++ O', p ∈ O0 ++ O := fun p hp => (List.mem_append.mp hp).elim (fun z => List.mem_append_left _ z) fun z => List.mem_append_right _ ((inO' p).mp z).1
  have sm := hid_sub (H := H) sub2
  -- what a slot of τ owns, ρ's slot owns
  have ownw : ∀ (i : Nat) (b : Sl) (q : Addr), τ[i]? = some b → Owns H b σ[i]? q → ∃ a, ρ[i]? = some a ∧ Owns H a σ[i]? q := fun i b q h ho => by
    obtain ⟨a, h1, h2⟩ := w.get h
    refine ⟨a, h1, ?_⟩
    rcases h2 with e | e | ⟨ds, e1, e2⟩ | ⟨rs, e1, e2 | e2⟩
    · subst e; exact ho.elim
    · subst e; exact ho
    · subst e2; exact ho.elim
    · subst e2; exact ho.elim
    · subst e1 e2
      obtain ⟨p, as, q1, q2, q3, q4, q5⟩ := k.sl i _ h1
      have h' : σ[i]? = some (some (.ref q)) := ho
      rw [q1] at h'
      have e : p = q := by injection (Option.some.inj (Option.some.inj h'))
      subst e
      exact ⟨p, as, q1, q3, List.mem_cons_self⟩
  -- a thing of ρ's slot i that τ's slot i does not own is free
  have out : ∀ (i : Nat) (a b : Sl) (q : Addr), ρ[i]? = some a → τ[i]? = some b → Owns H a σ[i]? q → ¬ Owns H b σ[i]? q → q ∉ O0 ++ O' := fun i a b q h1 h2 h3 h4 hq => by
    have qO := (h3.inO (k.sl i a h1)).1
    rcases List.mem_append.mp hq with z | z
    · exact k.h.no0 q qO z
    · obtain ⟨_, j, c, g1, g2⟩ := (inO' q).mp z
      obtain ⟨d, g3, g4⟩ := ownw j c q g1 g2
      have e := k.dis i j a d q h1 g3 h3 g4
      subst e
      rw [h2] at g1
      cases g1
      exact h4 g2
  refine ⟨⟨fun p hp => k.h.dom p (sub2 p hp), k.h.ext, fun p hp => k.h.fr p ((inO' p).mp hp).1, fun p hp => k.h.no0 p ((inO' p).mp hp).1⟩, w.length.symm.trans k.len, fun i s hs => ?_, fun i j a b p h1 h2 h3 h4 => ?_⟩
  · obtain ⟨a, h1, h2⟩ := w.get hs
    have z := k.sl i a h1
    rcases h2 with e | e | ⟨ds, e1, e2⟩ | ⟨rs, e1, e2 | e2⟩
    · subst e; exact True.intro
    · subst e
      exact z.imp sm fun p hp ho => ⟨(inO' p).mpr ⟨hp, i, a, hs, ho⟩, fun o q => q⟩
    · subst e1 e2
      obtain ⟨p, xs, q1, q2, q3, q4⟩ := z
      refine ⟨.ref p, q1, p, xs, rfl, .inl (.inl ?_), Reps.mono sm ds xs q4⟩
      rw [hid_out (out i _ _ p h1 hs q1 fun z => z)]
      exact q3
    · subst e1 e2
      obtain ⟨p, as, q1, q2, q3, q4, q5⟩ := z
      have ow : ∀ q ∈ p :: as, Owns H (.own2 rs) σ[i]? q := fun q hq => ⟨p, as, q1, q3, hq⟩
      have fr : ∀ q ∈ p :: as, ∀ o, H q = some o → hid (O0 ++ O') H q = some o := fun q hq o e => by
        rw [hid_out (out i _ _ q h1 hs (ow q hq) fun z => z)]
        exact e
      exact ⟨.ref p, q1, p, as.map V.ref, rfl, .inl (.inl (fr p List.mem_cons_self _ q3)), rows_reps q5 (fun a ha => fr a (List.mem_cons_of_mem _ ha)) sm⟩
    · subst e1 e2
      obtain ⟨p, as, q1, q2, q3, q4, q5⟩ := z
      have fr : ∀ q ∈ as, ∀ o, H q = some o → hid (O0 ++ O') H q = some o := fun q hq o e => by
        rw [hid_out (out i _ _ q h1 hs ⟨p, as, q1, q3, List.mem_cons_of_mem _ hq⟩ fun z => ?_)]
        · exact e
        · have h' : σ[i]? = some (some (.ref q)) := z
          rw [q1] at h'
          have e : p = q := by injection (Option.some.inj (Option.some.inj h'))
          rw [e] at q4
          exact (List.nodup_cons.mp q4).1 hq
      exact ⟨p, as.map V.ref, q1, (inO' p).mpr ⟨q2, i, _, hs, q1⟩, q3, rows_reps q5 fr sm⟩
  · obtain ⟨c, g1, g2⟩ := ownw i a p h1 h3
    obtain ⟨d, g3, g4⟩ := ownw j b p h2 h4
    exact k.dis i j c d p g1 g3 g2 g4
end
end DL

/-! DL2: what expressions and tests come to, as data. -/
namespace DL
open PySem PySem.Spec PyProof.Rows L2

section
variable (K : PySem.W.Frag)
/-- an expression comes to d -/
structure DE (te : TE) (ρ : PEnv) (d : Dt) : Prop where
  run : ∀ (O0 : List Addr) (B : Hp) (O : List Addr) (σ : L2.St) (H : Hp) (Q : VK), Ok K O0 B O σ ρ H → (∀ v H', Same H H' → Rep K (hid (O0 ++ O) H') d v → Q v H') → te σ H Q
/-- an expression comes to a new list of ds -/
structure DL (te : TE) (ρ : PEnv) (ds : List Dt) : Prop where
  run : ∀ (O0 : List Addr) (B : Hp) (O : List Addr) (σ : L2.St) (H : Hp) (Q : VK), Ok K O0 B O σ ρ H →
  (∀ p xs H', Same H H' → H p = none → H' p = some (.lst xs) → Reps K (hid (O0 ++ (p :: O)) H') ds xs → Q (.ref p) H') → te σ H Q
structure DT (tt : TT) (ρ : PEnv) (b : Bool) : Prop where
  run : ∀ (O0 : List Addr) (B : Hp) (O : List Addr) (σ : L2.St) (H : Hp) (Q : Bool → Hp → Prop), Ok K O0 B O σ ρ H → (∀ H', Same H H' → Q b H') → tt σ H Q
structure DA (ta : TA) (ρ : PEnv) (ds : List Dt) : Prop where
  run : ∀ (O0 : List Addr) (B : Hp) (O : List Addr) (σ : L2.St) (H : Hp) (Q : List V → Hp → Prop), Ok K O0 B O σ ρ H → (∀ vs H', Same H H' → Reps K (hid (O0 ++ O) H') ds vs → Q vs H') → ta σ H Q
structure DO (to : TO) (ρ : PEnv) (o : Option Int) : Prop where
  run : ∀ (O0 : List Addr) (B : Hp) (O : List Addr) (σ : L2.St) (H : Hp) (Q : Option Int → Hp → Prop), Ok K O0 B O σ ρ H → (∀ H', Same H H' → Q o H') → to σ H Q
/-- an expression raises C with the fields fs -/
structure DR (W : WX) (te : TE) (ρ : PEnv) (C : Addr) (fs : List (Str × Dt)) : Prop where
  run : ∀ (O0 : List Addr) (B : Hp) (O : List Addr) (σ : L2.St) (H : Hp) (Q : VK), Ok K O0 B O σ ρ H →
  (∀ dd xs H', Same H H' → H dd = none → H' dd = some (.xd xs) → RepF K (hid (O0 ++ O) H') fs xs → W (.ref C) (some dd) σ H') → te σ H Q
end
section
variable {K : PySem.W.Frag} {ρ : PEnv} {ta tb te tc : TE} {t u : TT} {x y z d e : Dt}
theorem reps_out {O0 O : List Addr} {H H' : Hp} {p : Addr} {ds : List Dt} {xs : List V} (hp : p ∉ O0 ++ O) (r : Reps K (hid (O0 ++ (p :: O)) H') ds xs) : Reps K (hid (O0 ++ O) H') ds xs := by
  refine Reps.mono (hid_sub fun q hq => ?_) ds xs r
  rcases List.mem_append.mp hq with z | z
  · exact List.mem_append_left _ z
  · exact List.mem_append_right _ (List.mem_cons_of_mem _ z)
/-- laying a new thing at p, hidden or not, keeps what is known -/
theorem reps_new {O0 O : List Addr} {H H' : Hp} {p : Addr} {ds : List Dt} {xs : List V} (s : Same H H') (hp : H p = none) (r : Reps K (hid (O0 ++ O) H) ds xs) : Reps K (hid (O0 ++ (p :: O)) H') ds xs := by
  refine Reps.mono (fun a o e => ?_) ds xs r
  have ha : a ∉ O0 ++ O := fun z => by rw [hid_in z] at e; cases e
  rw [hid_out ha] at e
  rw [hid_out fun z => ?_]
  · exact s a o e
  · rcases List.mem_append.mp z with z | z
    · exact ha (List.mem_append_left _ z)
    · rcases List.mem_cons.mp z with z | z
      · rw [z, hp] at e; cases e
      · exact ha (List.mem_append_right _ z)
theorem de_is (h : DE K te ρ d) (q : d = e) : DE K te ρ e := by rw [← q]; exact h
theorem dt_is {a b : Bool} (h : DT K t ρ a) (q : a = b) : DT K t ρ b := by rw [← q]; exact h
theorem dl_is {ds es : List Dt} (h : DL K te ρ ds) (q : ds = es) : DL K te ρ es := by rw [← q]; exact h
theorem da_is {ta : TA} {ds es : List Dt} (h : DA K ta ρ ds) (q : ds = es) : DA K ta ρ es := by rw [← q]; exact h
theorem DL.de {ds : List Dt} (h : DL K te ρ ds) : DE K te ρ (.lst ds) := .mk fun O0 B O σ H Q k q =>
  h.run O0 B O σ H Q k fun p xs H' s hp e r => q _ H' s ⟨p, xs, rfl, .inl (.inl (by rw [hid_out (k.h.out hp)]; exact e)), reps_out (H := H) (k.h.out hp) r⟩
theorem de_var {i : Nat} (h : ρ[i]? = some (.dat d)) : DE K (tVar i) ρ d := .mk fun O0 B O σ H Q k q => by
  obtain ⟨v, h1, h2⟩ := k.sl i _ h
  exact ⟨v, h1, q v H (Same.refl H) h2⟩
/-- an owned list read as it stands (its value must not be kept) -/
theorem de_int {i : Int} : DE K (tC (.int i)) ρ (.int i) := .mk fun _ _ _ _ H _ _ q => q _ H (Same.refl H) rfl
theorem de_bl {i : Bool} : DE K (tC (.bl i)) ρ (.bl i) := .mk fun _ _ _ _ H _ _ q => q _ H (Same.refl H) rfl
theorem de_str {i : Str} : DE K (tC (.str i)) ρ (.str i) := .mk fun _ _ _ _ H _ _ q => q _ H (Same.refl H) rfl
theorem de_non : DE K (tC .non) ρ .non := .mk fun _ _ _ _ H _ _ q => q _ H (Same.refl H) rfl
theorem de_ty {n : String} : DE K (tC (.ty n)) ρ (.ty n) := .mk fun _ _ _ _ H _ _ q => q _ H (Same.refl H) rfl
theorem de_ref {a : Addr} : DE K (tC (.ref a)) ρ (.ref a) := .mk fun _ _ _ _ H _ _ q => q _ H (Same.refl H) rfl
/-- a constant of the module: data of the written part -/
def KRep (K : PySem.W.Frag) (d : Dt) (v : V) : Prop := Rep K (fun _ => none) d v
theorem KRep.at {G : Hp} {v : V} (h : KRep K d v) : Rep K G d v := Rep.mono (fun _ _ e => by cases e) d v h
theorem de_const {v : V} (h : KRep K d v) : DE K (tC v) ρ d := .mk fun _ _ _ _ H _ _ q => q _ H (Same.refl H) h.at

/-- two operands -/
theorem bin2 {O0 : List Addr} {B : Hp} {O : List Addr} {σ : L2.St} {H : Hp} {R : V → V → Hp → Prop} (k : Ok K O0 B O σ ρ H) (ha : DE K ta ρ x) (hb : DE K tb ρ y)
    (h : ∀ v w H', Same H H' → Rep K (hid (O0 ++ O) H') x v → Rep K (hid (O0 ++ O) H') y w → R v w H') : ta σ H fun v H1 => tb σ H1 fun w H2 => R v w H2 :=
  ha.run O0 B O σ H _ k fun v H1 s1 r1 => hb.run O0 B O σ H1 _ (k.mono s1) fun w H2 s2 r2 => h v w H2 (s1.trans s2) (Rep.mono (hid_mono s2) x v r1) r2

/-! ### rules by values -/
variable (K) in
structure RD2 (r : R2) (x y d : Dt) : Prop where
  run : ∀ (O0 : List Addr) (B : Hp) (O : List Addr) (H : Hp) (v w : V) (Q : VK), OkH O0 B O H → Rep K (hid (O0 ++ O) H) x v → Rep K (hid (O0 ++ O) H) y w → (∀ u H', Same H H' → Rep K (hid (O0 ++ O) H') d u → Q u H') → r v w H Q
variable (K) in
structure RDL2 (r : R2) (x y : Dt) (ds : List Dt) : Prop where
  run : ∀ (O0 : List Addr) (B : Hp) (O : List Addr) (H : Hp) (v w : V) (Q : VK), OkH O0 B O H → Rep K (hid (O0 ++ O) H) x v → Rep K (hid (O0 ++ O) H) y w →
  (∀ p xs H', Same H H' → H p = none → H' p = some (.lst xs) → Reps K (hid (O0 ++ (p :: O)) H') ds xs → Q (.ref p) H') → r v w H Q
variable (K) in
structure RDU (r : V → Hp → VK → Prop) (x d : Dt) : Prop where
  run : ∀ (O0 : List Addr) (B : Hp) (O : List Addr) (H : Hp) (v : V) (Q : VK), OkH O0 B O H → Rep K (hid (O0 ++ O) H) x v → (∀ u H', Same H H' → Rep K (hid (O0 ++ O) H') d u → Q u H') → r v H Q
variable (K) in
structure RDC (r : List V → Hp → VK → Prop) (ds : List Dt) (d : Dt) : Prop where
  run : ∀ (O0 : List Addr) (B : Hp) (O : List Addr) (H : Hp) (vs : List V) (Q : VK), OkH O0 B O H → Reps K (hid (O0 ++ O) H) ds vs → (∀ u H', Same H H' → Rep K (hid (O0 ++ O) H') d u → Q u H') → r vs H Q
variable (K) in
structure RDLC (r : List V → Hp → VK → Prop) (ds es : List Dt) : Prop where
  run : ∀ (O0 : List Addr) (B : Hp) (O : List Addr) (H : Hp) (vs : List V) (Q : VK), OkH O0 B O H → Reps K (hid (O0 ++ O) H) ds vs →
  (∀ p xs H', Same H H' → H p = none → H' p = some (.lst xs) → Reps K (hid (O0 ++ (p :: O)) H') es xs → Q (.ref p) H') → r vs H Q
theorem de_op {r : R2} (ha : DE K ta ρ x) (hb : DE K tb ρ y) (hr : RD2 K r x y d) : DE K (tOp r ta tb) ρ d := .mk fun O0 B O σ H Q k q =>
  bin2 k ha hb fun v w H' s r1 r2 => hr.run O0 B O H' v w Q (k.h.mono s) r1 r2 fun u H2 s2 r3 => q u H2 (s.trans s2) r3
theorem dl_op {r : R2} {ds : List Dt} (ha : DE K ta ρ x) (hb : DE K tb ρ y) (hr : RDL2 K r x y ds) : DL K (tOp r ta tb) ρ ds := .mk fun O0 B O σ H Q k q =>
  bin2 k ha hb fun v w H' s r1 r2 => hr.run O0 B O H' v w Q (k.h.mono s) r1 r2 fun p xs H2 s2 np ep r3 => q p xs H2 (s.trans s2) (s.free np) ep r3
theorem de_un {r : V → Hp → VK → Prop} (ha : DE K ta ρ x) (hr : RDU K r x d) : DE K (tUn r ta) ρ d := .mk fun O0 B O σ H Q k q =>
  ha.run O0 B O σ H _ k fun v H' s r1 => hr.run O0 B O H' v Q (k.h.mono s) r1 fun u H2 s2 r3 => q u H2 (s.trans s2) r3
theorem de_cb {r : List V → Hp → VK → Prop} {ta : TA} {ds : List Dt} (ha : DA K ta ρ ds) (hr : RDC K r ds d) : DE K (tCB r ta) ρ d := .mk fun O0 B O σ H Q k q =>
  ha.run O0 B O σ H _ k fun v H' s r1 => hr.run O0 B O H' v Q (k.h.mono s) r1 fun u H2 s2 r3 => q u H2 (s.trans s2) r3
theorem dl_cb {r : List V → Hp → VK → Prop} {ta : TA} {ds es : List Dt} (ha : DA K ta ρ ds) (hr : RDLC K r ds es) : DL K (tCB r ta) ρ es := .mk fun O0 B O σ H Q k q =>
  ha.run O0 B O σ H _ k fun v H' s r1 => hr.run O0 B O H' v Q (k.h.mono s) r1 fun p xs H2 s2 np ep r3 => q p xs H2 (s.trans s2) (s.free np) ep r3
theorem RD2.l {r r' : R2} (h : RD2 K r x y d) : RD2 K (fun x y H Q => r x y H Q ∨ r' x y H Q) x y d := .mk fun O0 B O H v w Q k a b q => .inl (h.run O0 B O H v w Q k a b q)
theorem RD2.r {r r' : R2} (h : RD2 K r' x y d) : RD2 K (fun x y H Q => r x y H Q ∨ r' x y H Q) x y d := .mk fun O0 B O H v w Q k a b q => .inr (h.run O0 B O H v w Q k a b q)
theorem RDL2.l {r r' : R2} {ds : List Dt} (h : RDL2 K r x y ds) : RDL2 K (fun x y H Q => r x y H Q ∨ r' x y H Q) x y ds := .mk fun O0 B O H v w Q k a b q => .inl (h.run O0 B O H v w Q k a b q)
theorem RDL2.r {r r' : R2} {ds : List Dt} (h : RDL2 K r' x y ds) : RDL2 K (fun x y H Q => r x y H Q ∨ r' x y H Q) x y ds := .mk fun O0 B O H v w Q k a b q => .inr (h.run O0 B O H v w Q k a b q)
theorem RDC.l {r r' : List V → Hp → VK → Prop} {ds : List Dt} (h : RDC K r ds d) : RDC K (fun xs H Q => r xs H Q ∨ r' xs H Q) ds d := .mk fun O0 B O H v Q k a q => .inl (h.run O0 B O H v Q k a q)
theorem RDC.r {r r' : List V → Hp → VK → Prop} {ds : List Dt} (h : RDC K r' ds d) : RDC K (fun xs H Q => r xs H Q ∨ r' xs H Q) ds d := .mk fun O0 B O H v Q k a q => .inr (h.run O0 B O H v Q k a q)
theorem RDLC.l {r r' : List V → Hp → VK → Prop} {ds es : List Dt} (h : RDLC K r ds es) : RDLC K (fun xs H Q => r xs H Q ∨ r' xs H Q) ds es := .mk fun O0 B O H v Q k a q => .inl (h.run O0 B O H v Q k a q)
theorem RDLC.r {r r' : List V → Hp → VK → Prop} {ds es : List Dt} (h : RDLC K r' ds es) : RDLC K (fun xs H Q => r xs H Q ∨ r' xs H Q) ds es := .mk fun O0 B O H v Q k a q => .inr (h.run O0 B O H v Q k a q)
-- ints
theorem rd_int {f : Int → Int → Int} {i j : Int} : RD2 K (rI0 fun i j => .int (f i j)) (.int i) (.int j) (.int (f i j)) := .mk fun _ _ _ H _ _ _ _ a b q => ⟨i, j, a, b, q _ H (Same.refl H) rfl⟩
theorem rd_intB {f : Int → Int → Bool} {i j : Int} : RD2 K (rI0 fun i j => .bl (f i j)) (.int i) (.int j) (.bl (f i j)) := .mk fun _ _ _ H _ _ _ _ a b q => ⟨i, j, a, b, q _ H (Same.refl H) rfl⟩
theorem rd_intC {C : Int → Int → Prop} {f : Int → Int → Int} {i j : Int} (hc : C i j) : RD2 K (rI C fun i j => .int (f i j)) (.int i) (.int j) (.int (f i j)) := .mk fun _ _ _ H _ _ _ _ a b q => ⟨i, j, a, b, hc, q _ H (Same.refl H) rfl⟩
theorem ru_int {f : Int → Int} {i : Int} : RDU K (rU fun i => .int (f i)) (.int i) (.int (f i)) := .mk fun _ _ _ H _ _ _ a q => ⟨i, a, q _ H (Same.refl H) rfl⟩
-- == of flat things
def fV : Dt → Option V
  | .non => some .non | .bl b => some (.bl b) | .int i => some (.int i) | .str s => some (.str s) | _ => none
theorem fV_rep {G : Hp} {d : Dt} {f v : V} (h : fV d = some f) (r : Rep K G d v) : v = f := by
  cases d <;> first | cases h | skip
  all_goals exact r
theorem rd_eqF {f g : V} {b : Bool} (hx : fV x = some f) (hy : fV y = some g) (hs : scal f g = true) (hb : decide (f = g) = b) : RD2 K rEq x y (.bl b) := .mk fun _ _ _ H v w _ _ a b q => by
  obtain rfl := fV_rep hx a
  obtain rfl := fV_rep hy b
  exact ⟨hs, q _ H (Same.refl H) (by rw [hb]; rfl)⟩
theorem rd_neF {f g : V} {b : Bool} (hx : fV x = some f) (hy : fV y = some g) (hs : scal f g = true) (hb : (!decide (f = g)) = b) : RD2 K rNe x y (.bl b) := .mk fun _ _ _ H v w _ _ a b q => by
  obtain rfl := fV_rep hx a
  obtain rfl := fV_rep hy b
  exact ⟨hs, q _ H (Same.refl H) (by rw [hb]; rfl)⟩
theorem decV_int {i j : Int} : decide (V.int i = V.int j) = decide (i = j) := by
  by_cases h : i = j
  · rw [decide_eq_true h, decide_eq_true (by rw [h])]
  · rw [decide_eq_false h, decide_eq_false fun e => h (V.int.inj e)]
theorem decV_bl {i j : Bool} : decide (V.bl i = V.bl j) = decide (i = j) := by
  by_cases h : i = j
  · rw [decide_eq_true h, decide_eq_true (by rw [h])]
  · rw [decide_eq_false h, decide_eq_false fun e => h (V.bl.inj e)]
theorem decV_str {i j : Str} : decide (V.str i = V.str j) = decide (i = j) := by
  by_cases h : i = j
  · rw [decide_eq_true h, decide_eq_true (by rw [h])]
  · rw [decide_eq_false h, decide_eq_false fun e => h (V.str.inj e)]
theorem rd_eqI {i j : Int} : RD2 K rEq (.int i) (.int j) (.bl (decide (i = j))) := rd_eqF rfl rfl rfl decV_int
theorem rd_eqB {i j : Bool} : RD2 K rEq (.bl i) (.bl j) (.bl (decide (i = j))) := rd_eqF rfl rfl rfl decV_bl
theorem rd_eqS {i j : Str} : RD2 K rEq (.str i) (.str j) (.bl (decide (i = j))) := rd_eqF rfl rfl rfl decV_str
theorem rd_neI {i j : Int} : RD2 K rNe (.int i) (.int j) (.bl (!decide (i = j))) := rd_neF rfl rfl rfl (by rw [decV_int])
theorem rd_neB {i j : Bool} : RD2 K rNe (.bl i) (.bl j) (.bl (!decide (i = j))) := rd_neF rfl rfl rfl (by rw [decV_bl])
theorem rd_neS {i j : Str} : RD2 K rNe (.str i) (.str j) (.bl (!decide (i = j))) := rd_neF rfl rfl rfl (by rw [decV_str])
-- == of data
mutual
def toPy : Dt → Option PyData
  | .non => some .none | .bl b => some (.bool b) | .int i => some (.int i) | .str s => some (.str s)
  | .tup ds => (toPys ds).map .tuple
  | .lst ds => (toPys ds).map .list
  | _ => none
def toPys : List Dt → Option (List PyData)
  | [] => some []
  | d :: ds => (toPy d).bind fun p => (toPys ds).map fun r => p :: r
end
mutual
theorem dp_of {G : Hp} : ∀ (d : Dt) (v : V) (p : PyData), toPy d = some p → Rep K G d v → Dp K G v p
  | .non, _, _, h, r => by cases h; rw [show _ = _ from r]; exact .non
  | .bl b, _, _, h, r => by cases h; rw [show _ = _ from r]; exact .bl b
  | .int b, _, _, h, r => by cases h; rw [show _ = _ from r]; exact .int b
  | .str b, _, _, h, r => by cases h; rw [show _ = _ from r]; exact .str b
  | .tup ds, _, _, h, r => by
    obtain ⟨q, h1, h2⟩ := Option.map_eq_some_iff.mp h
    subst h2
    obtain ⟨a, xs, rfl, h3, h4⟩ := r
    exact .tup h3 (dps_of ds xs q h1 h4)
  | .lst ds, _, _, h, r => by
    obtain ⟨q, h1, h2⟩ := Option.map_eq_some_iff.mp h
    subst h2
    obtain ⟨a, xs, rfl, h3, h4⟩ := r
    exact .lst h3 (dps_of ds xs q h1 h4)
  | .ref _, _, _, h, _ => by cases h
  | .ty _, _, _, h, _ => by cases h
  | .ins _ _, _, _, h, _ => by cases h
  | .exc _ _ _ _, _, _, h, _ => by cases h
theorem dps_of {G : Hp} : ∀ (ds : List Dt) (vs : List V) (ps : List PyData), toPys ds = some ps → Reps K G ds vs → DpAll K G vs ps
  | [], _, _, h, r => by cases h; rw [show _ = _ from r]; exact .nil
  | d :: ds, _, _, h, r => by
    obtain ⟨p, h1, h2⟩ := Option.bind_eq_some_iff.mp h
    obtain ⟨q, h3, h4⟩ := Option.map_eq_some_iff.mp h2
    subst h4
    obtain ⟨v, w, rfl, h5, h6⟩ := r
    exact .cons (dp_of d v p h1 h5) (dps_of ds w q h3 h6)
end
theorem rd_eqD {p q : PyData} {b : Bool} (hx : toPy x = some p) (hy : toPy y = some q) (sp : SeqAt.shaped p = true) (sq : SeqAt.shaped q = true) (hb : PyData.eqv p q = b) : RD2 K (rEqD K) x y (.bl b) := .mk fun O0 _ O H v w _ _ r1 r2 k =>
  ⟨p, q, dp_of x v p hx (Rep.mono hid_le x v r1), dp_of y w q hy (Rep.mono hid_le y w r2), sp, sq, k _ H (Same.refl H) (by rw [hb]; rfl)⟩
theorem rd_neD {p q : PyData} {b : Bool} (hx : toPy x = some p) (hy : toPy y = some q) (sp : SeqAt.shaped p = true) (sq : SeqAt.shaped q = true) (hb : (!PyData.eqv p q) = b) : RD2 K (rNeD K) x y (.bl b) := .mk fun O0 _ O H v w _ _ r1 r2 k =>
  ⟨p, q, dp_of x v p hx (Rep.mono hid_le x v r1), dp_of y w q hy (Rep.mono hid_le y w r2), sp, sq, k _ H (Same.refl H) (by rw [hb]; rfl)⟩
-- items
theorem rd_ixT {ds : List Dt} {i : Int} (h : atI ds i = some d) : RD2 K (rIxT K) (.tup ds) (.int i) d := .mk fun O0 _ O H v w _ _ r1 r2 k => by
  obtain ⟨a, xs, rfl, h1, h2⟩ := r1
  unfold atI at h
  obtain ⟨j, h3, h4⟩ := Option.bind_eq_some_iff.mp h
  obtain ⟨u, h5, h6⟩ := h2.get h4
  exact ⟨a, xs, i, u, rfl, r2, Same.seqT hid_le h1, by unfold atI; rw [h2.length, h3]; exact h5, k u H (Same.refl H) h6⟩
theorem rd_ixL {ds : List Dt} {i : Int} (h : atI ds i = some d) : RD2 K (rIxL K) (.lst ds) (.int i) d := .mk fun O0 _ O H v w _ _ r1 r2 k => by
  obtain ⟨a, xs, rfl, h1, h2⟩ := r1
  unfold atI at h
  obtain ⟨j, h3, h4⟩ := Option.bind_eq_some_iff.mp h
  obtain ⟨u, h5, h6⟩ := h2.get h4
  exact ⟨a, xs, i, u, rfl, r2, hid_le.seq h1, by unfold atI; rw [h2.length, h3]; exact h5, k u H (Same.refl H) h6⟩
theorem rd_ixS {z : Str} {i : Int} {c : Nat} (hz : z.length ≤ sizeLine) (h : atI z.cps.toList i = some c) : RD2 K rIxS (.str z) (.int i) (.str ⟨#[c]⟩) := .mk fun O0 _ O H v w _ _ r1 r2 k =>
  ⟨z, i, c, r1, r2, hz, h, k _ H (Same.refl H) rfl⟩
-- arguments
theorem da_nil : DA K tNil ρ [] := .mk fun _ _ _ _ H _ _ q => q [] H (Same.refl H) rfl
theorem da_cons {tr : TA} {ds : List Dt} (ha : DE K te ρ d) (hr : DA K tr ρ ds) : DA K (tCons te tr) ρ (d :: ds) := .mk fun O0 B O σ H Q k q =>
  ha.run O0 B O σ H _ k fun v H1 s1 r1 => hr.run O0 B O σ H1 _ (k.mono s1) fun vs H2 s2 r2 => q _ H2 (s1.trans s2) ⟨v, vs, rfl, Rep.mono (hid_mono s2) d v r1, r2⟩
-- displays
theorem de_tup {ta : TA} {ds : List Dt} (ha : DA K ta ρ ds) (hl : ds.length ≤ sizeLine) : DE K (tTup ta) ρ (.tup ds) := .mk fun O0 B O σ H Q k q =>
  ha.run O0 B O σ H _ k fun vs H1 s1 r1 => ⟨by rw [r1.length]; exact hl, fun p hp => q _ _ (s1.trans (same_upd hp)) ⟨p, vs, rfl, .inl (.inl (by rw [hid_out ((k.h.mono s1).out hp)]; exact upd_same)), Reps.mono (hid_mono (same_upd hp)) ds vs r1⟩⟩
theorem dl_lst {ta : TA} {ds : List Dt} (ha : DA K ta ρ ds) (hl : ds.length ≤ sizeLine) : DL K (tLst ta) ρ ds := .mk fun O0 B O σ H Q k q =>
  ha.run O0 B O σ H _ k fun vs H1 s1 r1 => ⟨by rw [r1.length]; exact hl, fun p hp => q _ vs _ (s1.trans (same_upd hp)) (s1.free hp) upd_same (reps_new (same_upd hp) hp r1)⟩
-- built-in calls
theorem rc_len {ds : List Dt} {n : Nat} (h : ds.length = n) : RDC K (fun xs H Q => ∃ p ys, xs = [.ref p] ∧ (SqL K H p ys ∨ SqT K H p ys) ∧ Q (.int ys.length) H) [.lst ds] (.int n) := .mk fun O0 _ O H vs _ _ r k => by
  obtain ⟨v, w, rfl, ⟨a, xs, rfl, h1, h2⟩, h3⟩ := r
  obtain rfl : w = [] := h3
  exact ⟨a, xs, rfl, .inl (hid_le.seq h1), k _ H (Same.refl H) (by rw [h2.length, h]; rfl)⟩
theorem rc_lenT {ds : List Dt} {n : Nat} (h : ds.length = n) : RDC K (fun xs H Q => ∃ p ys, xs = [.ref p] ∧ (SqL K H p ys ∨ SqT K H p ys) ∧ Q (.int ys.length) H) [.tup ds] (.int n) := .mk fun O0 _ O H vs _ _ r k => by
  obtain ⟨v, w, rfl, ⟨a, xs, rfl, h1, h2⟩, h3⟩ := r
  obtain rfl : w = [] := h3
  exact ⟨a, xs, rfl, .inr (Same.seqT hid_le h1), k _ H (Same.refl H) (by rw [h2.length, h]; rfl)⟩
theorem rc_lenS {z : Str} (h : z.length ≤ sizeLine) : RDC K (fun xs H Q => ∃ z : Str, xs = [.str z] ∧ z.length ≤ sizeLine ∧ Q (.int z.length) H) [.str z] (.int z.length) := .mk fun O0 _ O H vs _ _ r k => by
  obtain ⟨v, w, rfl, h1, h3⟩ := r
  obtain rfl : w = [] := h3
  obtain rfl : v = .str z := h1
  exact ⟨z, rfl, h, k _ H (Same.refl H) rfl⟩
theorem rc_list {ds : List Dt} : RDLC K (fun xs H Q => ∃ p ys, xs = [.ref p] ∧ (SqL K H p ys ∨ SqT K H p ys) ∧ ∀ l, H l = none → Q (.ref l) (upd H l (.lst ys))) [.lst ds] ds := .mk fun O0 _ O H vs _ hk r k => by
  obtain ⟨v, w, rfl, ⟨a, xs, rfl, h1, h2⟩, h3⟩ := r
  obtain rfl : w = [] := h3
  exact ⟨a, xs, rfl, .inl (hid_le.seq h1), fun l hl => k l xs _ (same_upd hl) hl upd_same (reps_new (same_upd hl) hl h2)⟩
theorem rc_listT {ds : List Dt} : RDLC K (fun xs H Q => ∃ p ys, xs = [.ref p] ∧ (SqL K H p ys ∨ SqT K H p ys) ∧ ∀ l, H l = none → Q (.ref l) (upd H l (.lst ys))) [.tup ds] ds := .mk fun O0 _ O H vs _ hk r k => by
  obtain ⟨v, w, rfl, ⟨a, xs, rfl, h1, h2⟩, h3⟩ := r
  obtain rfl : w = [] := h3
  exact ⟨a, xs, rfl, .inr (Same.seqT hid_le h1), fun l hl => k l xs _ (same_upd hl) hl upd_same (reps_new (same_upd hl) hl h2)⟩
theorem rc_tuple {ds : List Dt} : RDC K (fun xs H Q => ∃ a ys, xs = [V.ref a] ∧ ((SqL K H a ys ∧ ∀ l, H l = none → Q (.ref l) (upd H l (.tup ys))) ∨ (SqT K H a ys ∧ Q (.ref a) H))) [.lst ds] (.tup ds) := .mk fun O0 _ O H vs _ hk r k => by
  obtain ⟨v, w, rfl, ⟨a, xs, rfl, h1, h2⟩, h3⟩ := r
  obtain rfl : w = [] := h3
  exact ⟨a, xs, rfl, .inl ⟨hid_le.seq h1, fun l hl => k _ _ (same_upd hl) ⟨l, xs, rfl, .inl (.inl (by rw [hid_out (hk.out hl)]; exact upd_same)), Reps.mono (hid_mono (same_upd hl)) ds xs h2⟩⟩⟩
theorem rc_tupleT {ds : List Dt} : RDC K (fun xs H Q => ∃ a ys, xs = [V.ref a] ∧ ((SqL K H a ys ∧ ∀ l, H l = none → Q (.ref l) (upd H l (.tup ys))) ∨ (SqT K H a ys ∧ Q (.ref a) H))) [.tup ds] (.tup ds) := .mk fun O0 _ O H vs _ hk r k => by
  obtain ⟨v, w, rfl, ⟨a, xs, rfl, h1, h2⟩, h3⟩ := r
  obtain rfl : w = [] := h3
  exact ⟨a, xs, rfl, .inr ⟨Same.seqT hid_le h1, k _ H (Same.refl H) ⟨a, xs, rfl, h1, h2⟩⟩⟩
theorem rc_gcd {a b : Int} : RDC K rGcd [.int a, .int b] (.int ((Nat.gcd a.natAbs b.natAbs : Nat) : Int)) := .mk fun O0 _ O H vs _ hk r k => by
  obtain ⟨v, w, rfl, h1, v2, w2, rfl, h2, h3⟩ := r
  obtain rfl : w2 = [] := h3
  exact ⟨a, b, by rw [show v = _ from h1, show v2 = _ from h2], k _ H (Same.refl H) rfl⟩
theorem rc_abs {i : Int} : RDC K (fun xs H Q => ∃ i, xs = [V.int i] ∧ Q (.int (if i < 0 then -i else i)) H) [.int i] (.int i.natAbs) := .mk fun O0 _ O H vs _ hk r k => by
  obtain ⟨v, w, rfl, h1, h3⟩ := r
  obtain rfl : w = [] := h3
  refine ⟨i, by rw [show v = _ from h1], k _ H (Same.refl H) ?_⟩
  show V.int _ = V.int _
  congr 1
  split <;> omega
theorem rc_int {i : Int} : RDC K (fun xs H Q => (∃ i, xs = [V.int i] ∧ Q (.int i) H) ∨ ∃ k, xs = [V.bl k] ∧ Q (.int (if k then 1 else 0)) H) [.int i] (.int i) := .mk fun O0 _ O H vs _ hk r k => by
  obtain ⟨v, w, rfl, h1, h3⟩ := r
  obtain rfl : w = [] := h3
  exact .inl ⟨i, by rw [show v = _ from h1], k _ H (Same.refl H) rfl⟩
theorem rc_max2 {i j : Int} : RDC K (fun xs H Q => ∃ i j, xs = [V.int i, V.int j] ∧ Q (.int (if j > i then j else i)) H) [.int i, .int j] (.int (max i j)) := .mk fun O0 _ O H vs _ hk r k => by
  obtain ⟨v, w, rfl, h1, v2, w2, rfl, h2, h3⟩ := r
  obtain rfl : w2 = [] := h3
  refine ⟨i, j, by rw [show v = _ from h1, show v2 = _ from h2], k _ H (Same.refl H) ?_⟩
  show V.int _ = V.int _
  congr 1
  split <;> omega
theorem rc_min2 {i j : Int} : RDC K (fun xs H Q => ∃ i j, xs = [V.int i, V.int j] ∧ Q (.int (if j < i then j else i)) H) [.int i, .int j] (.int (min i j)) := .mk fun O0 _ O H vs _ hk r k => by
  obtain ⟨v, w, rfl, h1, v2, w2, rfl, h2, h3⟩ := r
  obtain rfl : w2 = [] := h3
  refine ⟨i, j, by rw [show v = _ from h1, show v2 = _ from h2], k _ H (Same.refl H) ?_⟩
  show V.int _ = V.int _
  congr 1
  split <;> omega
theorem rc_sum {ns : List Int} : RDC K (rSum K) [.lst (ns.map Dt.int)] (.int ns.sum) := .mk fun O0 _ O H vs _ hk r k => by
  obtain ⟨v, w, rfl, ⟨a, xs, rfl, h1, h2⟩, h3⟩ := r
  obtain rfl : w = [] := h3
  obtain rfl := reps_ints h2
  exact ⟨a, ns, rfl, hid_le.seq h1, k _ H (Same.refl H) rfl⟩
theorem rc_any {ns : List Bool} : RDC K (rAny K) [.lst (ns.map Dt.bl)] (.bl (ns.any id)) := .mk fun O0 _ O H vs _ hk r k => by
  obtain ⟨v, w, rfl, ⟨a, xs, rfl, h1, h2⟩, h3⟩ := r
  obtain rfl : w = [] := h3
  obtain rfl := reps_bls h2
  exact ⟨a, ns, rfl, hid_le.seq h1, k _ H (Same.refl H) rfl⟩
theorem rc_all {ns : List Bool} : RDC K (rAll K) [.lst (ns.map Dt.bl)] (.bl (ns.all id)) := .mk fun O0 _ O H vs _ hk r k => by
  obtain ⟨v, w, rfl, ⟨a, xs, rfl, h1, h2⟩, h3⟩ := r
  obtain rfl : w = [] := h3
  obtain rfl := reps_bls h2
  exact ⟨a, ns, rfl, hid_le.seq h1, k _ H (Same.refl H) rfl⟩
-- isinstance against a built-in class
def tyD : Dt → Option String
  | .non => some "NoneType" | .bl _ => some "bool" | .int _ => some "int" | .str _ => some "str" | .tup _ => some "tuple" | .lst _ => some "list" | _ => none
theorem tyX_of {G : Hp} : ∀ {d : Dt} {v : V} {T : String}, tyD d = some T → Rep K G d v → TyX K G v (.type T)
  | .non, _, _, h, r => by cases h; rw [show _ = _ from r]; exact .base .non
  | .bl b, _, _, h, r => by cases h; rw [show _ = _ from r]; exact .base (.bl b)
  | .int b, _, _, h, r => by cases h; rw [show _ = _ from r]; exact .base (.int b)
  | .str b, _, _, h, r => by cases h; rw [show _ = _ from r]; exact .base (.str b)
  | .tup ds, _, _, h, r => by
    cases h
    obtain ⟨a, xs, rfl, h3, h4⟩ := r
    rcases h3 with (h | ⟨o, h⟩) | ⟨o, its, n, h1, h2, _⟩
    · exact .base (.tup h)
    · exact .fTuple h
    · exact .kTuple h1 h2
  | .lst ds, _, _, h, r => by
    cases h
    obtain ⟨a, xs, rfl, h3, h4⟩ := r
    rcases h3 with (h | ⟨o, h⟩) | ⟨o, its, n, h1, h2, _⟩
    · exact .base (.lst h)
    · exact .base (.frz h)
    · exact .kList h1 h2
  | .ref _, _, _, h, _ => by cases h
  | .ty _, _, _, h, _ => by cases h
  | .ins _ _, _, _, h, _ => by cases h
  | .exc _ _ _ _, _, _, h, _ => by cases h
theorem rc_isi {T U : String} {b : Bool} (h : tyD d = some T) (e : kitB T U = some b) : RDC K (rIsi K) [d, .ty U] (.bl b) := .mk fun O0 _ O H vs _ hk r k => by
  obtain ⟨v, w, rfl, h1, v2, w2, rfl, h2, h3⟩ := r
  obtain rfl : w2 = [] := h3
  obtain rfl : v2 = .ty U := h2
  exact ⟨v, .ty U, .type T, .type U, b, rfl, .ty U, tyX_of h (Rep.mono hid_le d v h1), kit_ty e, k _ H (Same.refl H) rfl⟩
/-! ### tests -/
theorem dt_test {b : Bool} (h : DE K te ρ (.bl b)) : DT K (tTest te) ρ b := .mk fun O0 B O σ H Q k q => h.run O0 B O σ H _ k fun v H' s r => ⟨b, r, q H' s⟩
theorem dt_B {b : Bool} (h : DE K te ρ (.bl b)) : DT K (tB te) ρ b := .mk fun O0 B O σ H Q k q => h.run O0 B O σ H _ k fun v H' s r => ⟨b, r, q H' s⟩
theorem dt_and {a b : Bool} (h1 : DT K t ρ a) (h2 : a = true → DT K u ρ b) : DT K (tAnd t u) ρ (a && b) := .mk fun O0 B O σ H Q k q => h1.run O0 B O σ H _ k fun H1 s1 => by
  cases a with
  | true => exact (h2 rfl).run O0 B O σ H1 _ (k.mono s1) fun H2 s2 => q H2 (s1.trans s2)
  | false => exact q H1 s1
theorem dt_or {a b : Bool} (h1 : DT K t ρ a) (h2 : a = false → DT K u ρ b) : DT K (tOr t u) ρ (a || b) := .mk fun O0 B O σ H Q k q => h1.run O0 B O σ H _ k fun H1 s1 => by
  cases a with
  | true => exact q H1 s1
  | false => exact (h2 rfl).run O0 B O σ H1 _ (k.mono s1) fun H2 s2 => q H2 (s1.trans s2)
theorem dt_not {a : Bool} (h1 : DT K t ρ a) : DT K (tNot t) ρ (!a) := .mk fun O0 B O σ H Q k q => h1.run O0 B O σ H _ k fun H1 s1 => q H1 s1
theorem de_andV {a : Bool} (h1 : DE K ta ρ (.bl a)) (h2 : a = true → DE K tb ρ d) (h3 : a = false → d = .bl false) : DE K (tAndV ta tb) ρ d := .mk fun O0 B O σ H Q k q => h1.run O0 B O σ H _ k fun v H1 s1 r1 => ⟨a, r1, by
  cases a with
  | true => exact (h2 rfl).run O0 B O σ H1 _ (k.mono s1) fun w H2 s2 r2 => q w H2 (s1.trans s2) r2
  | false => rw [if_neg Bool.false_ne_true]; exact q _ H1 s1 (by rw [h3 rfl]; rfl)⟩
theorem de_orV {a : Bool} (h1 : DE K ta ρ (.bl a)) (h2 : a = false → DE K tb ρ d) (h3 : a = true → d = .bl true) : DE K (tOrV ta tb) ρ d := .mk fun O0 B O σ H Q k q => h1.run O0 B O σ H _ k fun v H1 s1 r1 => ⟨a, r1, by
  cases a with
  | false => exact (h2 rfl).run O0 B O σ H1 _ (k.mono s1) fun w H2 s2 r2 => q w H2 (s1.trans s2) r2
  | true => rw [if_pos rfl]; exact q _ H1 s1 (by rw [h3 rfl]; rfl)⟩
theorem de_andB {a b : Bool} (h1 : DE K ta ρ (.bl a)) (h2 : a = true → DE K tb ρ (.bl b)) : DE K (tAndV ta tb) ρ (.bl (a && b)) := by
  cases a with
  | true => exact de_andV h1 (fun _ => h2 rfl) fun e => by cases e
  | false => exact de_andV h1 (fun e => by cases e) fun _ => rfl
theorem de_orB {a b : Bool} (h1 : DE K ta ρ (.bl a)) (h2 : a = false → DE K tb ρ (.bl b)) : DE K (tOrV ta tb) ρ (.bl (a || b)) := by
  cases a with
  | false => exact de_orV h1 (fun _ => h2 rfl) fun e => by cases e
  | true => exact de_orV h1 (fun e => by cases e) fun _ => rfl
theorem de_notV {a : Bool} (h1 : DE K ta ρ (.bl a)) : DE K (tNotV ta) ρ (.bl (!a)) := .mk fun O0 B O σ H Q k q => h1.run O0 B O σ H _ k fun v H1 s1 r1 => ⟨a, r1, q _ H1 s1 rfl⟩
theorem de_if {b : Bool} (h : DT K t ρ b) (h1 : b = true → DE K ta ρ d) (h2 : b = false → DE K tb ρ d) : DE K (tIf t ta tb) ρ d := .mk fun O0 B O σ H Q k q => h.run O0 B O σ H _ k fun H1 s1 => by
  cases b with
  | true => exact (h1 rfl).run O0 B O σ H1 _ (k.mono s1) fun w H2 s2 r2 => q w H2 (s1.trans s2) r2
  | false => exact (h2 rfl).run O0 B O σ H1 _ (k.mono s1) fun w H2 s2 r2 => q w H2 (s1.trans s2) r2
theorem de_isN (h : DE K ta ρ d) : DE K (tIsN ta) ρ (.bl (match d with | .non => true | _ => false)) := .mk fun O0 B O σ H Q k q => h.run O0 B O σ H _ k fun v H1 s1 r1 => q _ H1 s1 (by
  cases d with
  | non => rw [show v = _ from r1]; rfl
  | bl _ => rw [show v = _ from r1]; rfl
  | int _ => rw [show v = _ from r1]; rfl
  | str _ => rw [show v = _ from r1]; rfl
  | ref _ => rw [show v = _ from r1]; rfl
  | ty _ => rw [show v = _ from r1]; rfl
  | tup _ => obtain ⟨_, _, e, _⟩ := r1; rw [e]; rfl
  | lst _ => obtain ⟨_, _, e, _⟩ := r1; rw [e]; rfl
  | ins _ _ => obtain ⟨_, _, _, e, _⟩ := r1; rw [e]; rfl
  | exc _ _ _ _ => obtain ⟨e, _⟩ := r1; rw [e]; rfl)
theorem de_notN (h : DE K ta ρ d) : DE K (tNotN ta) ρ (.bl (match d with | .non => false | _ => true)) := .mk fun O0 B O σ H Q k q => h.run O0 B O σ H _ k fun v H1 s1 r1 => q _ H1 s1 (by
  cases d with
  | non => rw [show v = _ from r1]; rfl
  | bl _ => rw [show v = _ from r1]; rfl
  | int _ => rw [show v = _ from r1]; rfl
  | str _ => rw [show v = _ from r1]; rfl
  | ref _ => rw [show v = _ from r1]; rfl
  | ty _ => rw [show v = _ from r1]; rfl
  | tup _ => obtain ⟨_, _, e, _⟩ := r1; rw [e]; rfl
  | lst _ => obtain ⟨_, _, e, _⟩ := r1; rw [e]; rfl
  | ins _ _ => obtain ⟨_, _, _, e, _⟩ := r1; rw [e]; rfl
  | exc _ _ _ _ => obtain ⟨e, _⟩ := r1; rw [e]; rfl)
-- slices
theorem do_none : DO K tNoPart ρ none := .mk fun _ _ _ _ H _ _ q => q H (Same.refl H)
theorem do_some {i : Int} (h : DE K te ρ (.int i)) : DO K (tPart te) ρ (some i) := .mk fun O0 B O σ H Q k q => h.run O0 B O σ H _ k fun v H1 s1 r1 => ⟨i, r1, q H1 s1⟩
def cutD {α : Type} (xs : List α) (lo hi : Option Int) : List α := (xs.drop (HT.sIx xs.length 0 lo)).take (HT.sIx xs.length xs.length hi - HT.sIx xs.length 0 lo)
theorem reps_cut {G : Hp} {ds : List Dt} {xs : List V} (r : Reps K G ds xs) (lo hi : Option Int) : Reps K G (cutD ds lo hi) (cutV xs lo hi) := by
  unfold cutD cutV
  rw [r.length]
  exact (r.drop _).take _
theorem dl_sl {tl th : TO} {ds : List Dt} {lo hi : Option Int} (h : DE K te ρ (.lst ds)) (h1 : DO K tl ρ lo) (h2 : DO K th ρ hi) : DL K (tSl (rSlL K) te tl th) ρ (cutD ds lo hi) := .mk fun O0 B O σ H Q k q =>
  h.run O0 B O σ H _ k fun v H1 s1 r1 => h1.run O0 B O σ H1 _ (k.mono s1) fun H2 s2 => h2.run O0 B O σ H2 _ (k.mono (s1.trans s2)) fun H3 s3 => by
    obtain ⟨a, xs, rfl, e1, e2⟩ := r1
    exact ⟨a, xs, rfl, (hid_le.trans (s2.trans s3)).seq e1, fun p hp => q p _ _ (((s1.trans s2).trans s3).trans (same_upd hp)) (((s1.trans s2).trans s3).free hp) upd_same
      (reps_new (same_upd hp) hp (reps_cut (Reps.mono (hid_mono (s2.trans s3)) ds xs e2) lo hi))⟩
end
end DL

/-! DL3: statements, loops, comprehensions, defs over data. -/
namespace DL
open PySem PySem.Spec PyProof.Rows L2

/-- what is wanted behind a statement, of data alone -/
structure DEnds where
  nx : PEnv → Prop
  rt : Dt → Prop
  bk : PEnv → Prop := fun _ => False
  ct : PEnv → Prop := fun _ => False
  ex : Addr → List (Str × Dt) → PEnv → Prop := fun _ _ _ => False
structure Real (K : PySem.W.Frag) (W : WX) (O0 : List Addr) (B : Hp) (D : DEnds) (G : Ends) : Prop where
  nx : ∀ ρ O σ H, D.nx ρ → Ok K O0 B O σ ρ H → G.nx σ H
  bk : ∀ ρ O σ H, D.bk ρ → Ok K O0 B O σ ρ H → G.bk σ H
  ct : ∀ ρ O σ H, D.ct ρ → Ok K O0 B O σ ρ H → G.ct σ H
  rt : ∀ d O v H, D.rt d → OkH O0 B O H → Rep K (hid (O0 ++ O) H) d v → G.rt v H
  ex : ∀ C fs ρ O σ H dd xs, D.ex C fs ρ → Ok K O0 B O σ ρ H → B dd = none → hid (O0 ++ O) H dd = some (.xd xs) → RepF K (hid (O0 ++ O) H) fs xs → W (.ref C) (some dd) σ H
structure ES (K : PySem.W.Frag) (W : WX) (ts : TS) (ρ : PEnv) (D : DEnds) : Prop where
  run : ∀ (O0 : List Addr) (B : Hp) (O : List Addr) (σ : L2.St) (H : Hp) (G : Ends), Ok K O0 B O σ ρ H → Real K W O0 B D G → ts G σ H
section
variable {K : PySem.W.Frag} {W : WX} {ρ : PEnv} {ta tb te tc tl : TE} {t u : TT} {x y z d e : Dt} {ts tu : TS} {D : DEnds}
theorem Real.deep {O0 : List Addr} {B B' : Hp} {G : Ends} (r : Real K W O0 B D G) (s : Same B B') : Real K W O0 B' D G :=
  ⟨fun ρ O σ H h k => r.nx ρ O σ H h (k.base s), fun ρ O σ H h k => r.bk ρ O σ H h (k.base s), fun ρ O σ H h k => r.ct ρ O σ H h (k.base s), fun d O v H h k q => r.rt d O v H h (k.base s) q,
    fun C fs ρ O σ H dd xs h k n a b => r.ex C fs ρ O σ H dd xs h (k.base s) (s.free n) a b⟩
theorem es_seq (h : ES K W ts ρ { D with nx := fun ρ' => ES K W tu ρ' D }) : ES K W (tSeq ts tu) ρ D := .mk fun O0 B O σ H G k r =>
  h.run O0 B O σ H _ k ⟨fun ρ' O' σ' H' q k' => q.run O0 B O' σ' H' G k' r, r.bk, r.ct, r.rt, r.ex⟩
/-- .. with what holds between said -/
theorem es_cut (R : PEnv → Prop) (h : ES K W ts ρ { D with nx := R }) (h2 : ∀ ρ', R ρ' → ES K W tu ρ' D) : ES K W (tSeq ts tu) ρ D := .mk fun O0 B O σ H G k r =>
  h.run O0 B O σ H _ k ⟨fun ρ' O' σ' H' q k' => (h2 ρ' q).run O0 B O' σ' H' G k' r, r.bk, r.ct, r.rt, r.ex⟩
theorem es_weak {τ : PEnv} (w : Wk ρ τ) (h : ES K W ts τ D) : ES K W ts ρ D := .mk fun O0 B O σ H G k r => by
  obtain ⟨O', k'⟩ := k.weak w
  exact h.run O0 B O' σ H G k' r
theorem es_imp {D' : DEnds} (h : ES K W ts ρ D') (h1 : ∀ ρ', D'.nx ρ' → D.nx ρ') (h2 : ∀ d, D'.rt d → D.rt d) (h3 : ∀ ρ', D'.bk ρ' → D.bk ρ') (h4 : ∀ ρ', D'.ct ρ' → D.ct ρ') (h5 : ∀ C fs ρ', D'.ex C fs ρ' → D.ex C fs ρ') : ES K W ts ρ D := .mk fun O0 B O σ H G k r =>
  h.run O0 B O σ H G k ⟨fun ρ O σ H q => r.nx ρ O σ H (h1 ρ q), fun ρ O σ H q => r.bk ρ O σ H (h3 ρ q), fun ρ O σ H q => r.ct ρ O σ H (h4 ρ q), fun d O v H q => r.rt d O v H (h2 d q), fun C fs ρ O σ H dd xs q => r.ex C fs ρ O σ H dd xs (h5 C fs ρ q)⟩
theorem es_next (h : D.nx ρ) : ES K W tNext ρ D := .mk fun O0 B O σ H G k r => r.nx ρ O σ H h k
theorem es_break (h : D.bk ρ) : ES K W tBreak ρ D := .mk fun O0 B O σ H G k r => r.bk ρ O σ H h k
theorem es_cont (h : D.ct ρ) : ES K W tCont ρ D := .mk fun O0 B O σ H G k r => r.ct ρ O σ H h k
theorem es_drop (h : DE K te ρ d) (q : D.nx ρ) : ES K W (tDrop te) ρ D := .mk fun O0 B O σ H G k r => h.run O0 B O σ H _ k fun v H' s _ => r.nx ρ O σ H' q (k.mono s)
theorem es_ret (h : DE K te ρ d) (q : D.rt d) : ES K W (tRet te) ρ D := .mk fun O0 B O σ H G k r => h.run O0 B O σ H _ k fun v H' s rv => r.rt d O v H' q (k.h.mono s) rv
theorem es_retN (q : D.rt .non) : ES K W tRetN ρ D := .mk fun O0 B O σ H G k r => r.rt .non O .non H q k.h rfl
theorem es_set {i : Nat} (h : DE K te ρ d) (q : D.nx (ρ.set i (.dat d))) : ES K W (tAsg te (gName i)) ρ D := .mk fun O0 B O σ H G k r =>
  h.run O0 B O σ H _ k fun v H' s rv => r.nx _ O _ H' q ((k.mono s).set rv)
theorem es_setOwn {i : Nat} {ds : List Dt} (h : DL K te ρ ds) (q : D.nx (ρ.set i (.own ds))) : ES K W (tAsg te (gName i)) ρ D := .mk fun O0 B O σ H G k r =>
  h.run O0 B O σ H _ k fun p xs H' s hp e rv => r.nx _ (p :: O) _ H' q (k.setOwn hp s e rv)
theorem es_never (h : False) : ES K W ts ρ D := h.elim
theorem es_if {b : Bool} (h : DT K t ρ b) (h1 : b = true → ES K W ts ρ D) (h2 : b = false → ES K W tu ρ D) : ES K W (tIfS t ts tu) ρ D := .mk fun O0 B O σ H G k r => h.run O0 B O σ H _ k fun H1 s1 => by
  cases b with
  | true => exact (h1 rfl).run O0 B O σ H1 G (k.mono s1) r
  | false => exact (h2 rfl).run O0 B O σ H1 G (k.mono s1) r
theorem es_ifT (h : DT K t ρ true) (h1 : ES K W ts ρ D) : ES K W (tIfS t ts tu) ρ D := es_if h (fun _ => h1) fun e => by cases e
theorem es_ifF (h : DT K t ρ false) (h1 : ES K W tu ρ D) : ES K W (tIfS t ts tu) ρ D := es_if h (fun e => by cases e) fun _ => h1
/-- name op= e -/
theorem es_augI {i : Nat} {f : Int → Int → Int} {a b : Int} (hx : ρ[i]? = some (.dat (.int a))) (h : DE K te ρ (.int b)) (q : D.nx (ρ.set i (.dat (.int (f a b))))) : ES K W (tAug i te (ipI f)) ρ D := .mk fun O0 B O σ H G k r => by
  obtain ⟨v, h1, h2⟩ := k.sl i _ hx
  obtain rfl : v = .int a := h2
  exact ⟨.int a, h1, h.run O0 B O σ H _ k fun w H' s rv => ⟨a, b, rfl, rv, r.nx _ O _ H' q ((k.mono s).set rfl)⟩⟩
/-- targets -/
structure DG (K : PySem.W.Frag) (g : TG) (d : Dt) (ρ ρ' : PEnv) : Prop where
  run : ∀ (O0 : List Addr) (B : Hp) (O : List Addr) (σ : L2.St) (H : Hp) (v : V) (Q : L2.St → Hp → Prop), Ok K O0 B O σ ρ H → Rep K (hid (O0 ++ O) H) d v →
  (∀ σ' H', Same H H' → Ok K O0 B O σ' ρ' H' → Q σ' H') → g v σ H Q
structure DGs (K : PySem.W.Frag) (g : TGs) (ds : List Dt) (ρ ρ' : PEnv) : Prop where
  run : ∀ (O0 : List Addr) (B : Hp) (O : List Addr) (σ : L2.St) (H : Hp) (vs : List V) (Q : L2.St → Hp → Prop), Ok K O0 B O σ ρ H → Reps K (hid (O0 ++ O) H) ds vs →
  (∀ σ' H', Same H H' → Ok K O0 B O σ' ρ' H' → Q σ' H') → g vs σ H Q
theorem dg_name {i : Nat} : DG K (gName i) d ρ (ρ.set i (.dat d)) := .mk fun O0 B O σ H v Q k r q => q _ H (Same.refl H) (k.set r)
theorem dgs_nil : DGs K gNil [] ρ ρ := .mk fun O0 B O σ H v Q k r q => ⟨r, q σ H (Same.refl H) k⟩
theorem dgs_cons {g : TG} {gs : TGs} {ds : List Dt} {ρ1 ρ2 : PEnv} (h : DG K g d ρ ρ1) (h2 : DGs K gs ds ρ1 ρ2) : DGs K (gCons g gs) (d :: ds) ρ ρ2 := .mk fun O0 B O σ H vs Q k r q => by
  obtain ⟨v, w, rfl, r1, r2⟩ := r
  exact ⟨v, w, rfl, h.run O0 B O σ H v _ k r1 fun σ1 H1 s1 k1 => h2.run O0 B O σ1 H1 w Q k1 (Reps.mono (hid_mono s1) ds w r2) fun σ2 H2 s2 k2 => q σ2 H2 (s1.trans s2) k2⟩
theorem dg_tup {gs : TGs} {ds : List Dt} {n : Nat} {ρ1 : PEnv} (h : DGs K gs ds ρ ρ1) (hn : ds.length = n) : DG K (gTup K n gs) (.tup ds) ρ ρ1 := .mk fun O0 B O σ H v Q k r q => by
  obtain ⟨a, xs, rfl, h1, h2⟩ := r
  exact ⟨a, xs, rfl, Same.seqT hid_le h1, h2.length.trans hn, h.run O0 B O σ H xs Q k h2 q⟩
theorem es_asg {g : TG} {ρ1 : PEnv} (h : DE K te ρ d) (hg : DG K g d ρ ρ1) (q : D.nx ρ1) : ES K W (tAsg te g) ρ D := .mk fun O0 B O σ H G k r =>
  h.run O0 B O σ H _ k fun v H1 s1 rv => hg.run O0 B O σ H1 v _ (k.mono s1) rv fun σ2 H2 s2 k2 => r.nx _ O σ2 H2 q k2
/-- a, b = x, y -/
theorem es_par {i j : Nat} {ta : TA} (h : DA K ta ρ [x, y]) (q : D.nx ((ρ.set i (.dat x)).set j (.dat y))) : ES K W (tPar i j ta) ρ D := .mk fun O0 B O σ H G k r =>
  h.run O0 B O σ H _ k fun vs H1 s1 rv => by
    obtain ⟨v, w, rfl, r1, v2, w2, rfl, r2, r3⟩ := rv
    obtain rfl : w2 = [] := r3
    exact ⟨v, v2, rfl, r.nx _ O _ H1 q (((k.mono s1).set r1).set r2)⟩
/-! ### owned lists -/
theorem ownAt {O0 O : List Addr} {B H : Hp} {σ : L2.St} {i : Nat} {ds : List Dt} (k : Ok K O0 B O σ ρ H) (h : ρ[i]? = some (.own ds)) : ∃ p xs, σ[i]? = some (some (.ref p)) ∧ p ∈ O ∧ H p = some (.lst xs) ∧ Reps K (hid (O0 ++ O) H) ds xs := k.sl i _ h
/-- xs.append(e) -/
theorem es_append {i : Nat} {ds : List Dt} (h : ρ[i]? = some (.own ds)) (he : DE K te ρ d) (hl : ds.length < sizeLine) (q : D.nx (ρ.set i (.own (ds ++ [d])))) : ES K W (tDrop (tBM K "list" rAppend (tVar i) (tCons te tNil))) ρ D := .mk fun O0 B O σ H G k r => by
  obtain ⟨p, xs, h1, h2, h3, h4⟩ := ownAt k h
  refine ⟨.ref p, h1, .inl ⟨rfl, xs, .inl (.inl h3)⟩, he.run O0 B O σ H _ k fun v H1 s1 r1 => ⟨p, xs, v, rfl, rfl, s1 _ _ h3, by rw [h4.length]; exact hl, ?_⟩⟩
  exact r.nx _ O _ _ q ((k.mono s1).mut h h1 ((Reps.mono (hid_mono s1) ds xs h4).append (Reps.one r1)) h2)
/-- xs[i] = e -/
theorem es_setIx {i : Nat} {ds : List Dt} {n : Int} {j : Nat} (h : ρ[i]? = some (.own ds)) (he : DE K te ρ d) (hi : DE K ta ρ (.int n)) (hj : ixN ds.length n = some j) (q : D.nx (ρ.set i (.own (ds.set j d)))) : ES K W (tAsg te (gSub (tVar i) ta rSetL)) ρ D := .mk fun O0 B O σ H G k r => by
  obtain ⟨p, xs, h1, h2, h3, h4⟩ := ownAt k h
  refine he.run O0 B O σ H _ k fun v H1 s1 r1 => ⟨.ref p, h1, hi.run O0 B O σ H1 _ (k.mono s1) fun w H2 s2 r2 => ⟨p, xs, n, j, rfl, r2, s2 _ _ (s1 _ _ h3), by rw [h4.length]; exact hj, ?_⟩⟩
  exact r.nx _ O _ _ q ((k.mono (s1.trans s2)).mut h h1 ((Reps.mono (hid_mono (s1.trans s2)) ds xs h4).set j (Rep.mono (hid_mono s2) d v r1)) h2)
/-- an item of an owned list -/
theorem de_ixOwn {i : Nat} {ds : List Dt} {n : Int} (h : ρ[i]? = some (.own ds)) (hi : DE K ta ρ (.int n)) (ha : atI ds n = some d) : DE K (tOp (rIxL K) (tVar i) ta) ρ d := .mk fun O0 B O σ H Q k q => by
  obtain ⟨p, xs, h1, h2, h3, h4⟩ := ownAt k h
  refine ⟨.ref p, h1, hi.run O0 B O σ H _ k fun v H1 s1 r1 => ?_⟩
  unfold atI at ha
  obtain ⟨j, h5, h6⟩ := Option.bind_eq_some_iff.mp ha
  obtain ⟨u, h7, h8⟩ := h4.get h6
  exact ⟨p, xs, n, u, rfl, r1, .inl (.inl (s1 _ _ h3)), by unfold atI; rw [h4.length, h5]; exact h7, q u H1 s1 (Rep.mono (hid_mono s1) d u h8)⟩
theorem de_ixOwnS {i : Nat} {ds : List Dt} {n : Int} (h : ρ[i]? = some (.own ds)) (hi : DE K ta ρ (.int n)) (ha : atI ds n = some d) : DE K (tOp (rIx K) (tVar i) ta) ρ d := .mk fun O0 B O σ H Q k q => by
  obtain ⟨p, xs, h1, h2, h3, h4⟩ := ownAt k h
  refine ⟨.ref p, h1, hi.run O0 B O σ H _ k fun v H1 s1 r1 => .inl ?_⟩
  unfold atI at ha
  obtain ⟨j, h5, h6⟩ := Option.bind_eq_some_iff.mp ha
  obtain ⟨u, h7, h8⟩ := h4.get h6
  exact ⟨p, xs, n, u, rfl, r1, .inl (.inl (s1 _ _ h3)), by unfold atI; rw [h4.length, h5]; exact h7, q u H1 s1 (Rep.mono (hid_mono s1) d u h8)⟩
/-- its length -/
def rLenQ (K : PySem.W.Frag) : List V → Hp → VK → Prop := fun xs H Q => ∃ p ys, xs = [.ref p] ∧ (SqL K H p ys ∨ SqT K H p ys) ∧ Q (.int ys.length) H
theorem de_lenOwn {i : Nat} {ds : List Dt} {n : Nat} (h : ρ[i]? = some (.own ds)) (hn : ds.length = n) : DE K (tCB (fun xs H Q => ∃ p ys, xs = [V.ref p] ∧ (SqL K H p ys ∨ SqT K H p ys) ∧ Q (.int ys.length) H) (tCons (tVar i) tNil)) ρ (.int n) := .mk fun O0 B O σ H Q k q => by
  obtain ⟨p, xs, h1, h2, h3, h4⟩ := ownAt k h
  exact ⟨.ref p, h1, p, xs, rfl, .inl (.inl (.inl h3)), q _ H (Same.refl H) (by rw [h4.length, hn]; rfl)⟩
/-- a copy of it as a tuple -/
theorem de_tupOwn {i : Nat} {ds : List Dt} (h : ρ[i]? = some (.own ds)) : DE K (tCB (fun xs H Q => ∃ a ys, xs = [V.ref a] ∧ ((SqL K H a ys ∧ ∀ l, H l = none → Q (.ref l) (upd H l (.tup ys))) ∨ (SqT K H a ys ∧ Q (.ref a) H))) (tCons (tVar i) tNil)) ρ (.tup ds) := .mk fun O0 B O σ H Q k q => by
  obtain ⟨p, xs, h1, h2, h3, h4⟩ := ownAt k h
  refine ⟨.ref p, h1, p, xs, rfl, .inl ⟨.inl (.inl h3), fun l hl => q _ _ (same_upd hl) ⟨l, xs, rfl, .inl (.inl ?_), Reps.mono (hid_mono (same_upd hl)) ds xs h4⟩⟩⟩
  rw [hid_out (k.h.out hl)]
  exact upd_same

/-! ### loops. inv: the environment ahead of the turn i -/
/-- what a walk yields as data, while what stands in a heap that is kept stands -/
structure DIt (K : PySem.W.Frag) (J : It) (O0 O : List Addr) (H0 : Hp) (ds : List Dt) : Prop where
  step : ∀ (i : Nat) (d : Dt) (Z O1 : List Addr) (H : Hp), (∀ p ∈ Z, p ∈ O0 ∨ H0 p = none) → ds[i]? = some d → Same (hid O H0) H → OkH Z (hid O H0) O1 H → J.go i H ∧ ∀ x H', J.yld i H x H' → Same H H' ∧ Rep K (hid (Z ++ O1) H') d x
  stop : ∀ (H : Hp), Same (hid O H0) H → J.stop ds.length H
theorem know2 {O0 O Z O1 : List Addr} {H H1 : Hp} (k : OkH Z (hid O H) O1 H1) (hz : ∀ p ∈ Z, p ∈ O0 ∨ H p = none) : Same (hid (O0 ++ O) H) (hid (Z ++ O1) H1) := fun a o e => by
  have ha : a ∉ O0 ++ O := fun z => by rw [hid_in z] at e; cases e
  rw [hid_out ha] at e
  have h1 : hid O H a = some o := by
    rw [hid_out fun z => ha (List.mem_append_right _ z)]
    exact e
  have h2 : a ∉ O1 := fun z => by
    rw [k.fr a z] at h1
    cases h1
  have h3 : a ∉ Z := fun z => by
    rcases hz a z with q | q
    · exact ha (List.mem_append_left _ q)
    · rw [e] at q; cases q
  rw [hid_out fun z => (List.mem_append.mp z).elim h3 h2]
  exact k.ext a o h1
structure DI (K : PySem.W.Frag) (ti : TI) (ρ : PEnv) (ds : List Dt) : Prop where
  run : ∀ (O0 : List Addr) (B : Hp) (O : List Addr) (σ : L2.St) (H : Hp) (R : It → Hp → Prop), Ok K O0 B O σ ρ H →
  (∀ J H', Same H H' → DIt K J O0 O H' ds → R J H') → ti σ H R
theorem di_list {ds : List Dt} (h : DE K tl ρ (.lst ds)) : DI K (iList K tl) ρ ds := .mk fun O0 B O σ H R k q => h.run O0 B O σ H _ k fun v H1 s1 r1 => by
  obtain ⟨a, xs, rfl, h1, h2⟩ := r1
  have nx : hid (O0 ++ O) H1 = hid O0 (hid O H1) := by
    funext b
    by_cases h3 : b ∈ O
    · rw [hid_in (List.mem_append_right _ h3)]
      by_cases h4 : b ∈ O0
      · rw [hid_in h4]
      · rw [hid_out h4, hid_in h3]
    · by_cases h4 : b ∈ O0
      · rw [hid_in (List.mem_append_left _ h4), hid_in h4]
      · rw [hid_out (fun z => (List.mem_append.mp z).elim h4 h3), hid_out h4, hid_out h3]
  have h1' : SqL K (hid O H1) a xs := by rw [nx] at h1; exact hid_le.seq h1
  refine ⟨a, rfl, ⟨xs, hid_le.seq h1⟩, q _ H1 s1 ⟨fun i d Z O1 H hz hd s k1 => ?_, fun H s => ⟨xs, s.seq h1', by rw [h2.length]; exact Nat.le_refl _⟩⟩⟩
  obtain ⟨x, h5, h6⟩ := h2.get hd
  refine ⟨⟨xs, x, s.seq h1', h5⟩, fun y H' hy => ?_⟩
  obtain ⟨e, hy⟩ := hy
  subst e
  have e2 : y = x := Option.some.inj ((hy xs (s.seq h1')).symm.trans h5)
  subst e2
  exact ⟨Same.refl _, Rep.mono (know2 k1 hz) d y h6⟩
theorem di_tup {ds : List Dt} (h : DE K tl ρ (.tup ds)) : DI K (iTup K tl) ρ ds := .mk fun O0 B O σ H R k q => h.run O0 B O σ H _ k fun v H1 s1 r1 => by
  obtain ⟨a, xs, rfl, h1, h2⟩ := r1
  have nx : hid (O0 ++ O) H1 = hid O0 (hid O H1) := by
    funext b
    by_cases h3 : b ∈ O
    · rw [hid_in (List.mem_append_right _ h3)]
      by_cases h4 : b ∈ O0
      · rw [hid_in h4]
      · rw [hid_out h4, hid_in h3]
    · by_cases h4 : b ∈ O0
      · rw [hid_in (List.mem_append_left _ h4), hid_in h4]
      · rw [hid_out (fun z => (List.mem_append.mp z).elim h4 h3), hid_out h4, hid_out h3]
  have h1' : SqT K (hid O H1) a xs := by rw [nx] at h1; exact Same.seqT hid_le h1
  refine ⟨a, rfl, ⟨xs, Same.seqT hid_le h1⟩, q _ H1 s1 ⟨fun i d Z O1 H hz hd s k1 => ?_, fun H s => ⟨xs, Same.seqT s h1', by rw [h2.length]; exact Nat.le_refl _⟩⟩⟩
  obtain ⟨x, h5, h6⟩ := h2.get hd
  refine ⟨⟨xs, x, Same.seqT s h1', h5⟩, fun y H' hy => ?_⟩
  obtain ⟨e, hy⟩ := hy
  subst e
  have e2 : y = x := Option.some.inj ((hy xs (Same.seqT s h1')).symm.trans h5)
  subst e2
  exact ⟨Same.refl _, Rep.mono (know2 k1 hz) d y h6⟩
def rangeD (lo : Int) (n : Nat) : List Dt := (List.range n).map fun k => .int (lo + (k : Nat))
theorem rangeD_get {lo : Int} {n i : Nat} (h : i < n) : (rangeD lo n)[i]? = some (.int (lo + (i : Nat))) := by
  unfold rangeD
  rw [List.getElem?_map, List.getElem?_range h]
  rfl
theorem rangeD_len {lo : Int} {n : Nat} : (rangeD lo n).length = n := by
  unfold rangeD
  rw [List.length_map, List.length_range]
theorem dit_range {lo : Int} {n : Nat} {O0 O : List Addr} {H1 : Hp} : DIt K (Itr lo n) O0 O H1 (rangeD lo n) :=
  ⟨fun i d Z O1 H hz hd s k1 => by
    have hi : i < n := by
      have := (List.getElem?_eq_some_iff.mp hd).1
      rw [rangeD_len] at this
      exact this
    rw [rangeD_get hi] at hd
    cases hd
    refine ⟨hi, fun x H' hy => ?_⟩
    obtain ⟨e, hy⟩ := hy
    subst e hy
    exact ⟨Same.refl _, rfl⟩, fun H s => by
    rw [rangeD_len]
    exact Nat.le_refl _⟩
def rangeN (n : Nat) : List Dt := (List.range n).map fun k => .int (k : Nat)
theorem rangeN_eq (n : Nat) : rangeD 0 n = rangeN n := by
  unfold rangeD rangeN
  congr 1
  funext k
  rw [Int.zero_add]
theorem rangeN_get {n i : Nat} (h : i < n) : (rangeN n)[i]? = some (.int (i : Nat)) := by
  rw [← rangeN_eq, rangeD_get h, Int.zero_add]
theorem rangeN_len {n : Nat} : (rangeN n).length = n := by rw [← rangeN_eq, rangeD_len]
theorem di_range1 {ta : TA} {n : Int} (h : DA K ta ρ [.int n]) (h0 : -(2 ^ 62) ≤ n) (h1 : n < 2 ^ 62) : DI K (iRng1 ta) ρ (rangeN n.toNat) := .mk fun O0 B O σ H R k q => h.run O0 B O σ H _ k fun vs H1 s1 r1 => by
  obtain ⟨v, w, rfl, r2, r3⟩ := r1
  obtain rfl : w = [] := r3
  obtain rfl : v = .int n := r2
  rw [← rangeN_eq] at q
  exact ⟨n, rfl, h0, h1, q _ H1 s1 dit_range⟩
theorem di_range2 {ta : TA} {m n : Int} (h : DA K ta ρ [.int m, .int n]) (h0 : -(2 ^ 62) ≤ m) (h1 : m < 2 ^ 62) (h2 : -(2 ^ 62) ≤ n) (h3 : n < 2 ^ 62) : DI K (iRng2 ta) ρ (rangeD m (n - m).toNat) := .mk fun O0 B O σ H R k q => h.run O0 B O σ H _ k fun vs H1 s1 r1 => by
  obtain ⟨v, w, rfl, r2, v2, w2, rfl, r3, r4⟩ := r1
  obtain rfl : w2 = [] := r4
  obtain rfl : v = .int m := r2
  obtain rfl : v2 = .int n := r3
  exact ⟨m, n, rfl, ⟨h0, h1, h2, h3⟩, q _ H1 s1 dit_range⟩
/-- the loop: inv i is the environment ahead of turn i -/
theorem es_for {ti : TI} {g : TG} {ds : List Dt} (hi : DI K ti ρ ds) (inv : Nat → PEnv → Prop) (h0 : ∃ τ, Wk ρ τ ∧ inv 0 τ)
    (hs : ∀ i d τ, ds[i]? = some d → inv i τ → ∃ τ1, DG K g d τ τ1 ∧ ES K W ts τ1 { D with nx := fun ρ' => ∃ τ', Wk ρ' τ' ∧ inv (i + 1) τ', ct := fun ρ' => ∃ τ', Wk ρ' τ' ∧ inv (i + 1) τ', bk := D.nx })
    (hd : ∀ τ, inv ds.length τ → D.nx τ) : ES K W (tFor ti g ts) ρ D := .mk fun O0 B O σ H G k r => hi.run O0 B O σ H _ k fun J H1 s1 it => by
  have k1 := k.mono s1
  refine ⟨fun i m σ' H' => m + i = ds.length ∧ Same (hid O H1) H' ∧ ∃ τ O', inv i τ ∧ Ok K O0 (hid O H1) O' σ' τ H', ⟨ds.length, ?_⟩, ?_⟩
  · obtain ⟨τ, w, q⟩ := h0
    obtain ⟨O', k'⟩ := k1.deep.weak w
    exact ⟨rfl, hid_le, τ, O', q, k'⟩
  · rintro i m σ' H' ⟨em, sm, τ, O', q, k'⟩
    have bs : Same B (hid O H1) := k1.h.deepS
    by_cases hlt : i < ds.length
    · obtain ⟨go, yl⟩ := it.step i ds[i] O0 O' H' (fun _ h => .inl h) (List.getElem?_eq_getElem hlt) sm k'.h
      refine .inr ⟨go, fun σ2 H2 => Same (hid O H1) H2 ∧ ∃ τ O', inv (i + 1) τ ∧ Ok K O0 (hid O H1) O' σ2 τ H2, fun σ2 H2 hN => ⟨m - 1, by omega, by omega, hN⟩, fun x H2 hy => ?_⟩
      obtain ⟨s2, rx⟩ := yl x H2 hy
      obtain ⟨τ1, hg, hb⟩ := hs i ds[i] τ (List.getElem?_eq_getElem hlt) q
      refine hg.run O0 (hid O H1) O' σ' H2 x _ (k'.mono s2) rx fun σ3 H3 s3 k3 => hb.run O0 (hid O H1) O' σ3 H3 _ k3 ?_
      have rd := r.deep bs
      refine ⟨fun ρ4 O4 σ4 H4 q4 k4 => ?_, fun ρ4 O4 σ4 H4 q4 k4 => rd.nx ρ4 O4 σ4 H4 q4 k4, fun ρ4 O4 σ4 H4 q4 k4 => ?_, rd.rt, rd.ex⟩
      · obtain ⟨τ', w, q5⟩ := q4
        obtain ⟨O5, k5⟩ := k4.weak w
        exact ⟨k5.h.ext, τ', O5, q5, k5⟩
      · obtain ⟨τ', w, q5⟩ := q4
        obtain ⟨O5, k5⟩ := k4.weak w
        exact ⟨k5.h.ext, τ', O5, q5, k5⟩
    · have e : i = ds.length := by omega
      subst e
      exact .inl ⟨it.stop H' sm, r.nx τ O' σ' H' (hd τ q) (k'.base bs)⟩
/-- while, by a measure of the environment -/
theorem es_while (inv : Nat → PEnv → Prop) {m0 : Nat} (h0 : ∃ τ, Wk ρ τ ∧ inv m0 τ)
    (hs : ∀ m τ, inv m τ → ∃ b, DT K t τ b ∧ (b = true → ES K W ts τ { D with nx := fun ρ' => ∃ m' τ', m' < m ∧ Wk ρ' τ' ∧ inv m' τ', ct := fun ρ' => ∃ m' τ', m' < m ∧ Wk ρ' τ' ∧ inv m' τ', bk := D.nx }) ∧ (b = false → D.nx τ)) : ES K W (tWhile t ts) ρ D := .mk fun O0 B O σ H G k r => by
  refine ⟨fun m σ' H' => ∃ τ O', inv m τ ∧ Ok K O0 B O' σ' τ H', ⟨m0, ?_⟩, ?_⟩
  · obtain ⟨τ, w, q⟩ := h0
    obtain ⟨O', k'⟩ := k.weak w
    exact ⟨τ, O', q, k'⟩
  · rintro m σ' H' ⟨τ, O', q, k'⟩
    obtain ⟨b, ht, h1, h2⟩ := hs m τ q
    refine ht.run O0 B O' σ' H' _ k' fun H1 s1 => ?_
    cases b with
    | false => exact r.nx τ O' σ' H1 (h2 rfl) (k'.mono s1)
    | true =>
      refine ⟨fun σ2 H2 => ∃ m' , m' < m ∧ ∃ τ O', inv m' τ ∧ Ok K O0 B O' σ2 τ H2, fun σ2 H2 ⟨m', a, b⟩ => ⟨m', a, b⟩, (h1 rfl).run O0 B O' σ' H1 _ (k'.mono s1) ⟨fun ρ4 O4 σ4 H4 q4 k4 => ?_, fun ρ4 O4 σ4 H4 q4 k4 => r.nx ρ4 O4 σ4 H4 q4 k4, fun ρ4 O4 σ4 H4 q4 k4 => ?_, r.rt, r.ex⟩⟩
      · obtain ⟨m', τ', a, w, q5⟩ := q4
        obtain ⟨O5, k5⟩ := k4.weak w
        exact ⟨m', a, τ', O5, q5, k5⟩
      · obtain ⟨m', τ', a, w, q5⟩ := q4
        obtain ⟨O5, k5⟩ := k4.weak w
        exact ⟨m', a, τ', O5, q5, k5⟩

/-! ### comprehensions -/
def wipeE (ρ : PEnv) : List Nat → PEnv
  | [] => ρ
  | v :: vs => (wipeE ρ vs).set v .any
def NoOwn (ρ : PEnv) (vs : List Nat) : Prop := ∀ v ∈ vs, ∀ ds, ρ[v]? ≠ some (.own ds)
theorem Ok.forget {O0 O : List Addr} {B H : Hp} {σ : L2.St} (k : Ok K O0 B O σ ρ H) (i : Nat) : Ok K O0 B O (σ.set i none) (ρ.set i .any) H := by
  refine ⟨k.h, by rw [List.length_set, List.length_set]; exact k.len, fun j s hs => ?_, dis_set k fun _ _ z => z⟩
  by_cases e : i = j
  · subst e
    by_cases hi : i < ρ.length
    · rw [List.getElem?_set_self hi] at hs
      cases hs
      exact True.intro
    · rw [List.getElem?_eq_none (by rw [List.length_set]; omega)] at hs
      cases hs
  · rw [List.getElem?_set_ne e] at hs ⊢
    exact k.sl j s hs
theorem Ok.wipe {O0 O : List Addr} {B H : Hp} {σ : L2.St} (k : Ok K O0 B O σ ρ H) : ∀ (vs : List Nat), Ok K O0 B O (L2.wipe σ vs) (wipeE ρ vs) H
  | [] => k
  | v :: vs => (Ok.wipe k vs).forget v
theorem Ok.addHid {O0 O : List Addr} {B H H' : Hp} {σ : L2.St} {p : Addr} (k : Ok K O0 B O σ ρ H) (hp : H p = none) (s : Same H H') (hq : H' p ≠ none) : Ok K (p :: O0) B O σ ρ H' := by
  have sm : Same (hid (O0 ++ O) H) (hid ((p :: O0) ++ O) H') := fun a o e => by
    have ha : a ∉ O0 ++ O := fun z => by rw [hid_in z] at e; cases e
    rw [hid_out ha] at e
    rw [hid_out fun z => ?_]
    · exact s a o e
    · rcases List.mem_cons.mp z with z | z
      · rw [z, hp] at e; cases e
      · exact ha z
  refine ⟨⟨fun q hz e => ?_, k.h.ext.trans s, k.h.fr, fun q hz e => ?_⟩, k.len, fun i sl hs => (k.sl i sl hs).imp sm fun q hq _ => ⟨hq, fun o e => s _ _ e⟩, fun i j a b q h1 h2 h3 h4 => k.dis i j a b q h1 h2 (h3.back (k.sl i a h1) fun p _ _ o q => s _ _ q) (h4.back (k.sl j b h2) fun p _ _ o q => s _ _ q)⟩
  · rcases List.mem_cons.mp hz with z | z
    · exact hq (by rw [← z]; exact e)
    · exact k.h.dom q z (s.free e)
  · rcases List.mem_cons.mp e with z | z
    · exact k.h.dom q (List.mem_append_right _ hz) (by rw [z]; exact hp)
    · exact k.h.no0 q hz z
/-- a target that stores into the slots vs alone -/
structure DGW (K : PySem.W.Frag) (vs : List Nat) (g : TG) (d : Dt) (ρ ρ' : PEnv) : Prop where
  run : ∀ (O0 : List Addr) (B : Hp) (O : List Addr) (σ : L2.St) (H : Hp) (v : V) (Q : L2.St → Hp → Prop), Ok K O0 B O σ ρ H → Rep K (hid (O0 ++ O) H) d v →
  (∀ σ' H', L2.wipe σ' vs = L2.wipe σ vs → Same H H' → Ok K O0 B O σ' ρ' H' → Q σ' H') → g v σ H Q
structure DGWs (K : PySem.W.Frag) (vs : List Nat) (g : TGs) (ds : List Dt) (ρ ρ' : PEnv) : Prop where
  run : ∀ (O0 : List Addr) (B : Hp) (O : List Addr) (σ : L2.St) (H : Hp) (ws : List V) (Q : L2.St → Hp → Prop), Ok K O0 B O σ ρ H → Reps K (hid (O0 ++ O) H) ds ws →
  (∀ σ' H', L2.wipe σ' vs = L2.wipe σ vs → Same H H' → Ok K O0 B O σ' ρ' H' → Q σ' H') → g ws σ H Q
theorem wipe_in {σ : L2.St} {j : Nat} : ∀ {vs : List Nat}, j ∈ vs → j < σ.length → (L2.wipe σ vs)[j]? = some none
  | [], h, _ => by cases h
  | v :: vs, h, hl => by
    show ((L2.wipe σ vs).set v none)[j]? = some none
    by_cases e : v = j
    · subst e
      exact List.getElem?_set_self (by rw [wipe_length]; exact hl)
    · rw [List.getElem?_set_ne e]
      rcases List.mem_cons.mp h with z | z
      · exact absurd z.symm e
      · exact wipe_in z hl
theorem wipe_set {σ : L2.St} {i : Nat} {x : Option V} {vs : List Nat} (h : i ∈ vs) : L2.wipe (σ.set i x) vs = L2.wipe σ vs := by
  refine List.ext_getElem? fun j => ?_
  by_cases hj : j < σ.length
  · by_cases hv : j ∈ vs
    · rw [wipe_in hv (by rw [List.length_set]; exact hj), wipe_in hv hj]
    · rw [wipe_out hv, wipe_out hv, List.getElem?_set_ne fun e => hv (by rw [← e]; exact h)]
  · rw [List.getElem?_eq_none (by rw [wipe_length, List.length_set]; omega), List.getElem?_eq_none (by rw [wipe_length]; omega)]
theorem dgw_name {vs : List Nat} {i : Nat} (h : i ∈ vs) : DGW K vs (gName i) d ρ (ρ.set i (.dat d)) := .mk fun O0 B O σ H v Q k r q => q _ H (wipe_set h) (Same.refl H) (k.set r)
theorem dgws_nil {vs : List Nat} : DGWs K vs gNil [] ρ ρ := .mk fun O0 B O σ H v Q k r q => ⟨r, q σ H rfl (Same.refl H) k⟩
theorem dgws_cons {vs : List Nat} {g : TG} {gs : TGs} {ds : List Dt} {ρ1 ρ2 : PEnv} (h : DGW K vs g d ρ ρ1) (h2 : DGWs K vs gs ds ρ1 ρ2) : DGWs K vs (gCons g gs) (d :: ds) ρ ρ2 := .mk fun O0 B O σ H ws Q k r q => by
  obtain ⟨v, w, rfl, r1, r2⟩ := r
  exact ⟨v, w, rfl, h.run O0 B O σ H v _ k r1 fun σ1 H1 e1 s1 k1 => h2.run O0 B O σ1 H1 w Q k1 (Reps.mono (hid_mono s1) ds w r2) fun σ2 H2 e2 s2 k2 => q σ2 H2 (e2.trans e1) (s1.trans s2) k2⟩
theorem dgw_tup {vs : List Nat} {gs : TGs} {ds : List Dt} {n : Nat} {ρ1 : PEnv} (h : DGWs K vs gs ds ρ ρ1) (hn : ds.length = n) : DGW K vs (gTup K n gs) (.tup ds) ρ ρ1 := .mk fun O0 B O σ H v Q k r q => by
  obtain ⟨a, xs, rfl, h1, h2⟩ := r
  exact ⟨a, xs, rfl, Same.seqT hid_le h1, h2.length.trans hn, h.run O0 B O σ H xs Q k h2 q⟩
theorem wipe_wipe {σ : L2.St} {vs : List Nat} : L2.wipe (L2.wipe σ vs) vs = L2.wipe σ vs := by
  refine List.ext_getElem? fun j => ?_
  by_cases hj : j < σ.length
  · by_cases hv : j ∈ vs
    · rw [wipe_in hv (by rw [wipe_length]; exact hj), wipe_in hv hj]
    · rw [wipe_out hv]
  · rw [List.getElem?_eq_none (by rw [wipe_length, wipe_length]; omega), List.getElem?_eq_none (by rw [wipe_length]; omega)]
theorem reps_swap {O0 O : List Addr} {D : Addr} {H : Hp} {ds : List Dt} {xs : List V} (r : Reps K (hid ((D :: O0) ++ O) H) ds xs) : Reps K (hid (O0 ++ (D :: O)) H) ds xs := by
  refine Reps.mono (hid_sub fun p hp => ?_) ds xs r
  rcases List.mem_append.mp hp with z | z
  · exact List.mem_append_left _ (List.mem_cons_of_mem _ z)
  · rcases List.mem_cons.mp z with z | z
    · rw [z]; exact List.mem_append_left _ List.mem_cons_self
    · exact List.mem_append_right _ z
/-- [elt for target in iter if test]: sel tells which items stay, G what they come to -/
theorem dl_lc {α : Type} {ti : TI} {g : TG} {vs : List Nat} (qs : List α) (F G : α → Dt) (sel : α → Bool) (hi : DI K ti ρ (qs.map F)) (hl : qs.length < sizeLine)
    (hs : ∀ (i : Nat) (q : α), qs[i]? = some q → ∃ τ, DGW K vs g (F q) (wipeE ρ vs) τ ∧ DT K t τ (sel q) ∧ (sel q = true → DE K te τ (G q))) : DL K (tLc ti g t te vs) ρ ((qs.filter sel).map G) := .mk fun O0 B O σ H Q k q => hi.run O0 B O σ H _ k fun J H1 s1 it => by
  intro D hD
  have k1 := (k.mono s1).deep.wipe vs
  have k2 := k1.addHid (H' := upd H1 D (.lst [])) hD (same_upd hD) (by rw [upd_same]; exact fun z => nomatch z)
  have ez : ∀ p ∈ (D :: O0), p ∈ O0 ∨ H1 p = none := fun p hp => (List.mem_cons.mp hp).elim (fun z => .inr (by rw [z]; exact hD)) .inl
  have base : Same H H1 := s1
  refine ⟨fun i m H' => m + i = qs.length ∧ Ok K (D :: O0) (hid O H1) O (L2.wipe σ vs) (wipeE ρ vs) H' ∧ Same H1 (fun a => if a = D then none else H' a) ∧ ∃ acc, H' D = some (.lst acc) ∧ Reps K (hid ((D :: O0) ++ O) H') (((qs.take i).filter sel).map G) acc, ⟨qs.length, rfl, k2, fun a o e => ?_, [], upd_same, rfl⟩, ?_⟩
  · have ha : a ≠ D := fun z => by rw [z, hD] at e; cases e
    show (if a = D then none else upd H1 D (.lst []) a) = some o
    rw [if_neg ha, upd_ne ha]
    exact e
  · rintro i m H' ⟨em, k3, sm, acc, ha, hr⟩
    by_cases hlt : i < qs.length
    · have e1 : (qs.map F)[i]? = some (F qs[i]) := by rw [List.getElem?_map, List.getElem?_eq_getElem hlt]; rfl
      obtain ⟨go, yl⟩ := it.step i _ (D :: O0) O H' ez e1 k3.h.ext k3.h
      refine .inr ⟨go, fun H2 => Ok K (D :: O0) (hid O H1) O (L2.wipe σ vs) (wipeE ρ vs) H2 ∧ Same H1 (fun a => if a = D then none else H2 a) ∧ ∃ acc, H2 D = some (.lst acc) ∧ Reps K (hid ((D :: O0) ++ O) H2) (((qs.take (i + 1)).filter sel).map G) acc, fun H2 hN => ⟨m - 1, by omega, by omega, hN⟩, fun x H2 hy => ?_⟩
      obtain ⟨s2, rx⟩ := yl x H2 hy
      obtain ⟨τ, hg, ht, he⟩ := hs i qs[i] (List.getElem?_eq_getElem hlt)
      refine hg.run (D :: O0) (hid O H1) O _ H2 x _ (k3.mono s2) rx fun σ3 H3 ew s3 k4 => ⟨ew.trans wipe_wipe, ht.run (D :: O0) (hid O H1) O σ3 H3 _ k4 fun H4 s4 => ?_⟩
      have tk : qs.take (i + 1) = qs.take i ++ [qs[i]] := by rw [List.take_add_one, List.getElem?_eq_getElem hlt]; rfl
      have sm4 : ∀ {H5 : Hp}, Same H' H5 → Same H1 (fun a => if a = D then none else H5 a) := fun {H5} s5 a o e => by
        have z := sm a o e
        dsimp only at z ⊢
        by_cases hb : a = D
        · rw [if_pos hb] at z; cases z
        · rw [if_neg hb] at z ⊢; exact s5 a o z
      cases hb : sel qs[i] with
      | false =>
        rw [if_neg Bool.false_ne_true]
        have s5 := (s2.trans s3).trans s4
        refine ⟨k3.mono s5, sm4 s5, acc, s5 _ _ ha, ?_⟩
        rw [tk, List.filter_append, List.filter_cons, hb, if_neg Bool.false_ne_true, List.filter_nil, List.append_nil]
        exact Reps.mono (hid_mono s5) _ _ hr
      | true =>
        rw [if_pos rfl]
        refine (he hb).run (D :: O0) (hid O H1) O σ3 H4 _ (k4.mono s4) fun y H5 s5 ry => ?_
        have s6 := ((s2.trans s3).trans s4).trans s5
        have lacc : acc.length < sizeLine := by
          rw [hr.length, List.length_map]
          exact Nat.lt_of_le_of_lt (Nat.le_trans (List.length_filter_le _ _) (List.length_take_le _ _)) (Nat.lt_of_le_of_lt (Nat.le_of_lt hlt) hl)
        have hu : hid ((D :: O0) ++ O) (upd H5 D (.lst (acc ++ [y]))) = hid ((D :: O0) ++ O) H5 := hid_upd List.mem_cons_self
        have nO : ∀ a ∈ O, a ≠ D := fun a ha' z => k3.h.no0 a ha' (by rw [z]; exact List.mem_cons_self)
        refine ⟨acc, s6 _ _ ha, lacc, ?_, ?_, acc ++ [y], upd_same, ?_⟩
        · have k6 := k3.mono s6
          have keep : ∀ q, q ∈ O → ∀ o, H5 q = some o → upd H5 D (.lst (acc ++ [y])) q = some o := fun q hq o e => by
            rw [upd_ne (nO q hq)]
            exact e
          refine ⟨⟨fun p hp z => ?_, same_mut k6.h.ext (by
            by_cases hz : D ∈ O
            · exact hid_in hz
            · rw [hid_out hz]; exact hD), k6.h.fr, k6.h.no0⟩, k6.len, fun j sl hj => (k6.sl j sl hj).imp (fun a o e => by rw [hu]; exact e) fun q hq _ => ⟨hq, keep q hq⟩, fun i j a b q h1 h2 h3 h4 => k6.dis i j a b q h1 h2 (h3.back (k6.sl i a h1) fun p hp _ => keep p hp) (h4.back (k6.sl j b h2) fun p hp _ => keep p hp)⟩
          · by_cases hpd : p = D
            · rw [hpd, upd_same] at z; cases z
            · rw [upd_ne hpd] at z; exact k6.h.dom p hp z
        · intro a o e
          have z := sm4 s6 a o e
          dsimp only at z ⊢
          by_cases hb : a = D
          · rw [if_pos hb] at z; cases z
          · rw [if_neg hb] at z ⊢; rw [upd_ne hb]; exact z
        · rw [hu, tk, List.filter_append, List.filter_cons, hb, if_pos rfl, List.filter_nil, List.map_append]
          exact (Reps.mono (hid_mono s6) _ _ hr).append (Reps.one ry)
    · have e : i = qs.length := by omega
      subst e
      refine .inl ⟨by
        have z := it.stop H' k3.h.ext
        rw [List.length_map] at z
        exact z, q D acc H' ?_ (s1.free hD) ha (reps_swap (by rw [List.take_length] at hr; exact hr))⟩
      intro a o e
      have z := sm a o (s1 a o e)
      dsimp only at z
      by_cases hb : a = D
      · rw [if_pos hb] at z; cases z
      · rw [if_neg hb] at z; exact z
theorem dt_yes : DT K tYes ρ true := .mk fun O0 B O σ H Q k q => q H (Same.refl H)
/-- .. without a test -/
theorem dl_lcA {α : Type} {ti : TI} {g : TG} {vs : List Nat} (qs : List α) (F G : α → Dt) (hi : DI K ti ρ (qs.map F)) (hl : qs.length < sizeLine)
    (hs : ∀ (i : Nat) (q : α), qs[i]? = some q → ∃ τ, DGW K vs g (F q) (wipeE ρ vs) τ ∧ DE K te τ (G q)) : DL K (tLc ti g tYes te vs) ρ (qs.map G) := by
  have h := dl_lc (t := tYes) (te := te) (vs := vs) (g := g) qs F G (fun _ => true) hi hl fun i q e => by
    obtain ⟨τ, h1, h2⟩ := hs i q e
    exact ⟨τ, h1, dt_yes, fun _ => h2⟩
  rw [List.filter_eq_self.mpr fun _ _ => rfl] at h
  exact h

/-! ### defs -/
/-- a def's promise over data: of arguments ds it hands back d where R ds d -/
def spD (K : PySem.W.Frag) (R : List Dt → Dt → Prop) : Sp := fun vs H Q _ => ∃ (O : List Addr) (ds : List Dt) (d : Dt), (∀ p ∈ O, H p ≠ none) ∧ Reps K (hid O H) ds vs ∧ R ds d ∧ ∀ v H', Same H H' → Rep K (hid O H') d v → Q v H'
/-- .. where it raises C with the fields fs -/
def spR (K : PySem.W.Frag) (R : List Dt → Addr → List (Str × Dt) → Prop) : Sp := fun vs H _ E => ∃ (O : List Addr) (ds : List Dt) (C : Addr) (fs : List (Str × Dt)), (∀ p ∈ O, H p ≠ none) ∧ Reps K (hid O H) ds vs ∧ R ds C fs ∧
  ∀ dd xs H', Same H H' → H dd = none → H' dd = some (.xd xs) → RepF K (hid O H') fs xs → E (.ref C) (some dd) H'
theorem de_call {R : List Dt → Dt → Prop} {dvs : List V} {dds ds : List Dt} {E : XK} {ta : TA} (ha : DA K ta ρ ds) (hd : ∀ G, Reps K G dds dvs) (hr : R (ds ++ dds) d) : DE K (tCall (spD K R) dvs E ta) ρ d := .mk fun O0 B O σ H Q k q =>
  ha.run O0 B O σ H _ k fun vs H1 s1 r1 => ⟨O0 ++ O, ds ++ dds, d, fun p hp z => k.h.dom p hp (s1.free z), r1.append (hd _), hr, fun v H' s2 r2 => q v H' (s1.trans s2) r2⟩
theorem de_call0 {R : List Dt → Dt → Prop} {ds : List Dt} {E : XK} {ta : TA} (ha : DA K ta ρ ds) (hr : R ds d) : DE K (tCall (spD K R) [] E ta) ρ d := de_call (dds := []) ha (fun _ => rfl) (by rw [List.append_nil]; exact hr)
def startE (ds : List Dt) (n : Nat) : PEnv := ds.map .dat ++ List.replicate n .any
theorem reps_sl {G : Hp} : ∀ {ds : List Dt} {vs : List V} {i : Nat} {d : Dt}, Reps K G ds vs → ds[i]? = some d → ∃ v, (vs.map some)[i]? = some (some v) ∧ Rep K G d v := fun {ds vs i d} r h => by
  obtain ⟨v, h1, h2⟩ := r.get h
  exact ⟨v, by rw [List.getElem?_map, h1]; rfl, h2⟩
theorem ok_start {N : List Str} {O : List Addr} {H : Hp} {ds : List Dt} {vs : List V} (hO : ∀ p ∈ O, H p ≠ none) (r : Reps K (hid O H) ds vs) : Ok K O H [] (L2.start N vs) (startE ds (N.length - ds.length)) H := by
  have hl := r.length
  have own : ∀ (i : Nat) (t : Sl), (startE ds (N.length - ds.length))[i]? = some t → t = .any ∨ ∃ d, t = .dat d := fun i t h => by
    unfold startE at h
    by_cases hi : i < ds.length
    · rw [List.getElem?_append_left (by rw [List.length_map]; exact hi), List.getElem?_map, List.getElem?_eq_getElem hi] at h
      cases h
      exact .inr ⟨_, rfl⟩
    · rw [List.getElem?_append_right (by rw [List.length_map]; omega), List.getElem?_replicate] at h
      split at h
      · cases h
        exact .inl rfl
      · cases h
  have noOwn : ∀ (i : Nat) (t : Sl) (x : Option (Option V)) (q : Addr), (startE ds (N.length - ds.length))[i]? = some t → ¬ Owns H t x q := fun i t x q h ho => by
    rcases own i t h with z | ⟨d, z⟩
    · subst z; exact ho
    · subst z; exact ho
  refine ⟨⟨fun p hp => ?_, Same.refl H, fun p hp => (List.not_mem_nil hp).elim, fun p hp => (List.not_mem_nil hp).elim⟩, ?_, fun i s hs => ?_, fun i j a b p h _ h3 _ => (noOwn i a _ p h h3).elim⟩
  · rw [List.append_nil] at hp
    exact hO p hp
  · unfold startE L2.start
    rw [List.length_append, List.length_append, List.length_map, List.length_map, List.length_replicate, List.length_replicate, hl]
  · cases s with
    | any => exact True.intro
    | own es => rcases own i _ hs with z | ⟨_, z⟩ <;> cases z
    | own2 es => rcases own i _ hs with z | ⟨_, z⟩ <;> cases z
    | dat d =>
      unfold startE at hs
      by_cases hi : i < ds.length
      · rw [List.getElem?_append_left (by rw [List.length_map]; exact hi), List.getElem?_map, List.getElem?_eq_getElem hi] at hs
        have e : ds[i] = d := by injection (Option.some.inj hs)
        obtain ⟨v, h1, h2⟩ := reps_sl (i := i) r (by rw [List.getElem?_eq_getElem hi, e])
        refine ⟨v, ?_, by rw [List.append_nil]; exact h2⟩
        unfold L2.start
        rw [List.getElem?_append_left (by rw [List.length_map, hl]; exact hi)]
        exact h1
      · rw [List.getElem?_append_right (by rw [List.length_map]; omega), List.getElem?_replicate] at hs
        split at hs <;> cases hs
/-- what a body must do: from its arguments to its value -/
def Body (K : PySem.W.Frag) (W : WX) (t : TS) (N : List Str) (ds : List Dt) (d : Dt) : Prop := ES K W t (startE ds (N.length - ds.length)) { nx := fun _ => d = .non, rt := fun e => e = d }
theorem body_ok {N : List Str} {R : List Dt → Dt → Prop} {vs : List V} {H : Hp} {Q : VK} {E : XK} (h : spD K R vs H Q E) (hb : ∀ ds d, R ds d → Body K (fun _ _ _ _ => False) ts N ds d) : ts { nx := fun _ H' => Q .non H', rt := Q } (L2.start N vs) H := by
  obtain ⟨O, ds, d, hO, r, hR, q⟩ := h
  refine (hb ds d hR).run O H [] _ H _ (ok_start hO r) ⟨fun ρ O1 σ1 H1 e k => ?_, fun _ _ _ _ e => e.elim, fun _ _ _ _ e => e.elim, fun e O1 v H1 he k rv => ?_, fun _ _ _ _ _ _ _ _ e => e.elim⟩
  · refine q .non H1 k.h.ext ?_
    rw [show d = .non from e]
    exact rfl
  · subst he
    refine q v H1 k.ext (Rep.mono (hid_sub fun p hp => List.mem_append_left _ hp) e v rv)
def BodyR (K : PySem.W.Frag) (W : WX) (t : TS) (N : List Str) (ds : List Dt) (C : Addr) (fs : List (Str × Dt)) : Prop := ES K W t (startE ds (N.length - ds.length)) { nx := fun _ => False, rt := fun _ => False, ex := fun C' fs' _ => C' = C ∧ fs' = fs }
theorem body_okR {N : List Str} {R : List Dt → Addr → List (Str × Dt) → Prop} {vs : List V} {H : Hp} {Q : VK} {E : XK} (h : spR K R vs H Q E) (hb : ∀ ds C fs, R ds C fs → BodyR K (fun c d _ H' => E c d H') ts N ds C fs) : ts { nx := fun _ H' => Q .non H', rt := Q } (L2.start N vs) H := by
  obtain ⟨O, ds, C, fs, hO, r, hR, q⟩ := h
  refine (hb ds C fs hR).run O H [] _ H _ (ok_start hO r) ⟨fun _ _ _ _ e => e.elim, fun _ _ _ _ e => e.elim, fun _ _ _ _ e => e.elim, fun _ _ _ _ e => e.elim, fun C' fs' ρ O1 σ1 H1 dd xs e k n a b => ?_⟩
  obtain ⟨rfl, rfl⟩ := e
  exact q dd xs H1 k.h.ext n (hid_le _ _ a) (RepF.mono (hid_sub fun p hp => List.mem_append_left _ hp) fs' xs b)
end
end DL

/-! DL4: the operators as the generator writes them; steps for the walk. -/
namespace DL
open PySem PySem.Spec PyProof.Rows L2
section
variable {X : Cx}
theorem op_addG : OpR X (binaryOp .Add) (fun x y H Q => rI0 (fun i j => .int (i + j)) x y H Q ∨ ((∃ i j, x = .str i ∧ y = .str j ∧ i.length + j.length ≤ sizeLine ∧ Q (.str (i ++ j)) H) ∨ (rCat x y H Q ∨ rCatT X.K x y H Q))) := op_add.or (op_add_str.or (op_cat.or op_catT))
theorem op_mulG : OpR X (binaryOp .Mult) (fun x y H Q => rI CMul (fun i j => .int (i * j)) x y H Q ∨ (rI CMulW (fun i j => .int (i * j)) x y H Q ∨ rRep x y H Q)) := op_mul.or (op_mulW.or op_rep)
theorem op_eqG (hu : X.A.units + 64 < cLine) : OpR X (compareOp .Eq) (fun x y H Q => rEq x y H Q ∨ rEqD X.K x y H Q) := op_eq.or (op_eqD hu)
theorem op_neG (hu : X.A.units + 64 < cLine) : OpR X (compareOp .NotEq) (fun x y H Q => rNe x y H Q ∨ rNeD X.K x y H Q) := op_ne.or (op_neD hu)
theorem call_lenG : CallR X (.builtin "len") (fun xs H Q => (∃ p ys, xs = [V.ref p] ∧ (SqL X.K H p ys ∨ SqT X.K H p ys) ∧ Q (.int ys.length) H) ∨ (∃ z : Str, xs = [.str z] ∧ z.length ≤ sizeLine ∧ Q (.int z.length) H)) := call_len_seq.or call_len_str
variable {K : PySem.W.Frag}
/-! .. with the written part named: for blocks whose context is not this one -/
theorem ix_seqK (h : X.K = K) : IxR X (rIx K) := by subst h; exact ix_seq
theorem op_addK (h : X.K = K) : OpR X (binaryOp .Add) (fun x y H Q => rI0 (fun i j => .int (i + j)) x y H Q ∨ ((∃ i j, x = .str i ∧ y = .str j ∧ i.length + j.length ≤ sizeLine ∧ Q (.str (i ++ j)) H) ∨ (rCat x y H Q ∨ rCatT K x y H Q))) := by subst h; exact op_addG
theorem op_eqK (h : X.K = K) (hu : X.A.units + 64 < cLine) : OpR X (compareOp .Eq) (fun x y H Q => rEq x y H Q ∨ rEqD K x y H Q) := by subst h; exact op_eqG hu
theorem op_neK (h : X.K = K) (hu : X.A.units + 64 < cLine) : OpR X (compareOp .NotEq) (fun x y H Q => rNe x y H Q ∨ rNeD K x y H Q) := by subst h; exact op_neG hu
theorem call_lenK (h : X.K = K) : CallR X (.builtin "len") (fun xs H Q => (∃ p ys, xs = [V.ref p] ∧ (SqL K H p ys ∨ SqT K H p ys) ∧ Q (.int ys.length) H) ∨ (∃ z : Str, xs = [.str z] ∧ z.length ≤ sizeLine ∧ Q (.int z.length) H)) := by subst h; exact call_lenG
theorem call_isiK (h : X.K = K) : CallR X (.builtin "isinstance") (rIsi K) := by subst h; exact call_isi
theorem call_tupleK (h : X.K = K) : CallR X (.type "tuple") (fun xs H Q => ∃ a ys, xs = [V.ref a] ∧ ((SqL K H a ys ∧ ∀ l, H l = none → Q (.ref l) (upd H l (.tup ys))) ∨ (SqT K H a ys ∧ Q (.ref a) H))) := by subst h; exact call_tuple_of
theorem call_listK (h : X.K = K) : CallR X (.type "list") (fun xs H Q => ∃ p ys, xs = [V.ref p] ∧ (SqL K H p ys ∨ SqT K H p ys) ∧ ∀ l, H l = none → Q (.ref l) (upd H l (.lst ys))) := by subst h; exact call_list_of
theorem cr_sumK (h : X.K = K) (hc : X.calm = true) : CallR X (.builtin "sum") (rSum K) := by subst h; exact cr_sum hc
theorem cr_anyK (h : X.K = K) (hc : X.calm = true) : CallR X (.builtin "any") (rAny K) := by subst h; exact cr_any hc
theorem cr_allK (h : X.K = K) (hc : X.calm = true) : CallR X (.builtin "all") (rAll K) := by subst h; exact cr_all hc
theorem sl_listK (h : X.K = K) : SlR X (rSlL K) := by subst h; exact sl_list
theorem sl_tupK (h : X.K = K) : SlR X (rSlT K) := by subst h; exact sl_tup
variable {tg l : Expr} {tl : TE}
theorem pi_listK (h : X.K = K) (hl : PE X l tl) : PI X tg l (iList K tl) := by subst h; exact pi_list hl
theorem pi_tupK (h : X.K = K) (hl : PE X l tl) : PI X tg l (iTup K tl) := by subst h; exact pi_tup hl
end
section
variable {K : PySem.W.Frag} {ρ : PEnv} {ta tb te tc tl : TE} {t u : TT} {x y z d e : Dt}
theorem de_lenOwnG {i : Nat} {ds : List Dt} {n : Nat} {r' : List V → Hp → VK → Prop} (h : ρ[i]? = some (.own ds)) (hn : ds.length = n) : DE K (tCB (fun xs H Q => (∃ p ys, xs = [V.ref p] ∧ (SqL K H p ys ∨ SqT K H p ys) ∧ Q (.int ys.length) H) ∨ r' xs H Q) (tCons (tVar i) tNil)) ρ (.int n) := .mk fun O0 B O σ H Q k q => by
  obtain ⟨p, xs, h1, h2, h3, h4⟩ := ownAt k h
  exact ⟨.ref p, h1, .inl ⟨p, xs, rfl, .inl (.inl (.inl h3)), q _ H (Same.refl H) (by rw [h4.length, hn]; rfl)⟩⟩
theorem rd_isB {a b : Bool} : RD2 K rIsB (.bl a) (.bl b) (.bl (decide (a = b))) := .mk fun _ _ _ H v w _ _ r1 r2 q => ⟨a, b, r1, r2, q _ H (Same.refl H) rfl⟩
theorem rd_notB {a b : Bool} : RD2 K rNotB (.bl a) (.bl b) (.bl (!decide (a = b))) := .mk fun _ _ _ H v w _ _ r1 r2 q => ⟨a, b, r1, r2, q _ H (Same.refl H) rfl⟩
theorem rd_ixTG {ds : List Dt} {i : Int} (h : atI ds i = some d) : RD2 K (rIx K) (.tup ds) (.int i) d := ⟨fun O0 B O H v w Q k a b q => .inr (.inl ((rd_ixT h).run O0 B O H v w Q k a b q))⟩
theorem rd_ixLG {ds : List Dt} {i : Int} (h : atI ds i = some d) : RD2 K (rIx K) (.lst ds) (.int i) d := ⟨fun O0 B O H v w Q k a b q => .inl ((rd_ixL h).run O0 B O H v w Q k a b q)⟩
theorem rd_ixSG {z : Str} {i : Int} {c : Nat} (hz : z.length ≤ sizeLine) (h : atI z.cps.toList i = some c) : RD2 K (rIx K) (.str z) (.int i) (.str ⟨#[c]⟩) := ⟨fun O0 B O H v w Q k a b q => .inr (.inr ((rd_ixS hz h).run O0 B O H v w Q k a b q))⟩
theorem sz_of100 {n : Nat} (h : n ≤ 100) : n ≤ sizeLine := Nat.le_trans h (by decide)
theorem CMul.lit {i j : Int} (h : -(2 ^ 64) < j ∧ j < 2 ^ 64) : CMul i j := .inr h
theorem CMul.litL {i j : Int} (h : -(2 ^ 64) < i ∧ i < 2 ^ 64) : CMul i j := .inl h
theorem cdiv_lit {i j : Int} (h : 0 < j) (h2 : j < 2 ^ 64) : CDivW i j := ⟨h, Nat.lt_of_lt_of_le (PySem.Flt.log2_lt_of (k := 64) (by decide) (by omega)) (by decide)⟩

variable {W : WX} {ts tu tw : TS} {D : DEnds}
/-- statements ahead of a rest -/
theorem s_set {i : Nat} (h : DE K te ρ d) (q : ES K W tu (ρ.set i (.dat d)) D) : ES K W (tSeq (tAsg te (gName i)) tu) ρ D := es_seq (es_set h q)
theorem s_setOwn {i : Nat} {ds : List Dt} (h : DL K te ρ ds) (q : ES K W tu (ρ.set i (.own ds)) D) : ES K W (tSeq (tAsg te (gName i)) tu) ρ D := es_seq (es_setOwn h q)
theorem s_asg {g : TG} {ρ1 : PEnv} (h : DE K te ρ d) (hg : DG K g d ρ ρ1) (q : ES K W tu ρ1 D) : ES K W (tSeq (tAsg te g) tu) ρ D := es_seq (es_asg h hg q)
theorem s_drop (h : DE K te ρ d) (q : ES K W tu ρ D) : ES K W (tSeq (tDrop te) tu) ρ D := es_seq (es_drop h q)
theorem s_append {i : Nat} {ds : List Dt} (h : ρ[i]? = some (.own ds)) (he : DE K te ρ d) (hl : ds.length < sizeLine) (q : ES K W tu (ρ.set i (.own (ds ++ [d]))) D) : ES K W (tSeq (tDrop (tBM K "list" rAppend (tVar i) (tCons te tNil))) tu) ρ D := es_seq (es_append h he hl q)
theorem s_setIx {i : Nat} {ds : List Dt} {n : Int} {j : Nat} (h : ρ[i]? = some (.own ds)) (he : DE K te ρ d) (hi : DE K ta ρ (.int n)) (hj : ixN ds.length n = some j) (q : ES K W tu (ρ.set i (.own (ds.set j d))) D) : ES K W (tSeq (tAsg te (gSub (tVar i) ta rSetL)) tu) ρ D := es_seq (es_setIx h he hi hj q)
theorem s_augI {i : Nat} {f : Int → Int → Int} {a b : Int} (hx : ρ[i]? = some (.dat (.int a))) (h : DE K te ρ (.int b)) (q : ES K W tu (ρ.set i (.dat (.int (f a b)))) D) : ES K W (tSeq (tAug i te (ipI f)) tu) ρ D := es_seq (es_augI hx h q)
theorem s_par {i j : Nat} {ta : TA} (h : DA K ta ρ [x, y]) (q : ES K W tu ((ρ.set i (.dat x)).set j (.dat y)) D) : ES K W (tSeq (tPar i j ta) tu) ρ D := es_seq (es_par h q)
theorem s_if {b : Bool} (h : DT K t ρ b) (h1 : b = true → ES K W ts ρ { D with nx := fun ρ' => ES K W tw ρ' D }) (h2 : b = false → ES K W tu ρ { D with nx := fun ρ' => ES K W tw ρ' D }) : ES K W (tSeq (tIfS t ts tu) tw) ρ D := es_seq (es_if h h1 h2)
theorem s_ifT (h : DT K t ρ true) (h1 : ES K W ts ρ { D with nx := fun ρ' => ES K W tw ρ' D }) : ES K W (tSeq (tIfS t ts tu) tw) ρ D := es_seq (es_ifT h h1)
theorem s_ifF (h : DT K t ρ false) (h1 : ES K W tu ρ { D with nx := fun ρ' => ES K W tw ρ' D }) : ES K W (tSeq (tIfS t ts tu) tw) ρ D := es_seq (es_ifF h h1)
/-- an if whose two ways meet in one environment -/
theorem s_ifJ {b : Bool} (τ : PEnv) (h : DT K t ρ b) (h1 : b = true → ES K W ts ρ { D with nx := fun ρ' => Wk ρ' τ }) (h2 : b = false → ES K W tu ρ { D with nx := fun ρ' => Wk ρ' τ }) (h3 : ES K W tw τ D) : ES K W (tSeq (tIfS t ts tu) tw) ρ D :=
  es_cut (fun ρ' => Wk ρ' τ) (es_if h h1 h2) fun _ w => es_weak w h3
theorem s_for {ti : TI} {g : TG} {ds : List Dt} (hi : DI K ti ρ ds) (inv : Nat → PEnv → Prop) (h0 : ∃ τ, Wk ρ τ ∧ inv 0 τ)
    (hs : ∀ i d τ, ds[i]? = some d → inv i τ → ∃ τ1, DG K g d τ τ1 ∧ ES K W ts τ1 { D with nx := fun ρ' => ∃ τ', Wk ρ' τ' ∧ inv (i + 1) τ', ct := fun ρ' => ∃ τ', Wk ρ' τ' ∧ inv (i + 1) τ', bk := fun ρ' => ES K W tu ρ' D })
    (hd : ∀ τ, inv ds.length τ → ES K W tu τ D) : ES K W (tSeq (tFor ti g ts) tu) ρ D := es_seq (es_for hi inv h0 hs hd)
theorem es_next' (h : ES K W tu ρ D) : ES K W tNext ρ { D with nx := fun ρ' => ES K W tu ρ' D } := es_next h
theorem body_mk {t : TS} {N : List Str} {ds : List Dt} {ρ : PEnv} (h : startE ds (N.length - ds.length) = ρ) (q : ES K W t ρ { nx := fun _ => d = .non, rt := fun e => e = d }) : Body K W t N ds d := by
  unfold Body
  rw [h]
  exact q
end
end DL

/-! DL5: walks over two things, enumerate; more built-ins. -/
namespace DL
open PySem PySem.Spec PyProof.Rows L2
section
variable {K : PySem.W.Frag} {ρ : PEnv} {ta tb te tc tl : TE} {t u : TT} {x y z d e : Dt}
theorem nxEq {O0 O : List Addr} {H1 : Hp} : hid (O0 ++ O) H1 = hid O0 (hid O H1) := by
  funext b
  by_cases h3 : b ∈ O
  · rw [hid_in (List.mem_append_right _ h3)]
    by_cases h4 : b ∈ O0
    · rw [hid_in h4]
    · rw [hid_out h4, hid_in h3]
  · by_cases h4 : b ∈ O0
    · rw [hid_in (List.mem_append_left _ h4), hid_in h4]
    · rw [hid_out (fun z => (List.mem_append.mp z).elim h4 h3), hid_out h4, hid_out h3]
/-- a new pair -/
theorem pair_rep {Z O1 : List Addr} {B H : Hp} {T : Addr} {v w : V} {d e : Dt} (k : OkH Z B O1 H) (hT : H T = none) (r1 : Rep K (hid (Z ++ O1) H) d v) (r2 : Rep K (hid (Z ++ O1) H) e w) :
    Rep K (hid (Z ++ O1) (upd H T (.tup [v, w]))) (.tup [d, e]) (.ref T) :=
  ⟨T, [v, w], rfl, .inl (.inl (by rw [hid_out (k.out hT)]; exact upd_same)), v, [w], rfl, Rep.mono (hid_mono (same_upd hT)) d v r1, w, [], rfl, Rep.mono (hid_mono (same_upd hT)) e w r2, rfl⟩
def zipD (ds es : List Dt) : List Dt := List.zipWith (fun d e => .tup [d, e]) ds es
theorem di_zip {ta : TA} {ds es : List Dt} (h : DA K ta ρ [.lst ds, .lst es]) : DI K (RZ.iZipA K ta) ρ (zipD ds es) := .mk fun O0 B O σ H R k q => h.run O0 B O σ H _ k fun vs H1 s1 r1 => by
  obtain ⟨v, w, rfl, ⟨a, xs, rfl, h1, h2⟩, v2, w2, rfl, ⟨b, ys, rfl, h3, h4⟩, h5⟩ := r1
  obtain rfl : w2 = [] := h5
  have h1' : SqL K (hid O H1) a xs := by rw [nxEq] at h1; exact hid_le.seq h1
  have h3' : SqL K (hid O H1) b ys := by rw [nxEq] at h3; exact hid_le.seq h3
  refine ⟨a, b, xs, ys, rfl, .inl ⟨hid_le.seq h1, hid_le.seq h3, q _ H1 s1 ⟨fun i d Z O1 H hz hd s k1 => ?_, fun H s => ⟨xs, ys, s.seq h1', s.seq h3', ?_⟩⟩⟩⟩
  · unfold zipD at hd
    rw [List.getElem?_zipWith_eq_some] at hd
    obtain ⟨d1, e1, g1, g2, rfl⟩ := hd
    obtain ⟨x, g3, g4⟩ := h2.get g1
    obtain ⟨y, g5, g6⟩ := h4.get g2
    refine ⟨⟨xs, ys, x, y, s.seq h1', s.seq h3', g3, g5⟩, fun v H' hy => ?_⟩
    obtain ⟨T, x2, y2, rfl, hT, rfl, f1, f2⟩ := hy
    have e2 : x2 = x := Option.some.inj ((f1 xs (s.seq h1')).symm.trans g3)
    have e3 : y2 = y := Option.some.inj ((f2 ys (s.seq h3')).symm.trans g5)
    subst e2 e3
    exact ⟨same_upd hT, pair_rep k1 hT (Rep.mono (know2 k1 hz) _ _ g4) (Rep.mono (know2 k1 hz) _ _ g6)⟩
  · unfold zipD
    rw [List.length_zipWith, h2.length, h4.length]
    omega
theorem di_zipT {ta : TA} {ds es : List Dt} (h : DA K ta ρ [.tup ds, .tup es]) : DI K (RZ.iZipA K ta) ρ (zipD ds es) := .mk fun O0 B O σ H R k q => h.run O0 B O σ H _ k fun vs H1 s1 r1 => by
  obtain ⟨v, w, rfl, ⟨a, xs, rfl, h1, h2⟩, v2, w2, rfl, ⟨b, ys, rfl, h3, h4⟩, h5⟩ := r1
  obtain rfl : w2 = [] := h5
  have h1' : SqT K (hid O H1) a xs := by rw [nxEq] at h1; exact Same.seqT hid_le h1
  have h3' : SqT K (hid O H1) b ys := by rw [nxEq] at h3; exact Same.seqT hid_le h3
  refine ⟨a, b, xs, ys, rfl, .inr ⟨Same.seqT hid_le h1, Same.seqT hid_le h3, q _ H1 s1 ⟨fun i d Z O1 H hz hd s k1 => ?_, fun H s => ⟨xs, ys, Same.seqT s h1', Same.seqT s h3', ?_⟩⟩⟩⟩
  · unfold zipD at hd
    rw [List.getElem?_zipWith_eq_some] at hd
    obtain ⟨d1, e1, g1, g2, rfl⟩ := hd
    obtain ⟨x, g3, g4⟩ := h2.get g1
    obtain ⟨y, g5, g6⟩ := h4.get g2
    refine ⟨⟨xs, ys, x, y, Same.seqT s h1', Same.seqT s h3', g3, g5⟩, fun v H' hy => ?_⟩
    obtain ⟨T, x2, y2, rfl, hT, rfl, f1, f2⟩ := hy
    have e2 : x2 = x := Option.some.inj ((f1 xs (Same.seqT s h1')).symm.trans g3)
    have e3 : y2 = y := Option.some.inj ((f2 ys (Same.seqT s h3')).symm.trans g5)
    subst e2 e3
    exact ⟨same_upd hT, pair_rep k1 hT (Rep.mono (know2 k1 hz) _ _ g4) (Rep.mono (know2 k1 hz) _ _ g6)⟩
  · unfold zipD
    rw [List.length_zipWith, h2.length, h4.length]
    omega
def enumD (ds : List Dt) : List Dt := ds.mapIdx fun i d => .tup [.int (i : Nat), d]
theorem di_enum {ta : TA} {ds : List Dt} (h : DA K ta ρ [.lst ds]) : DI K (iEnum K ta) ρ (enumD ds) := .mk fun O0 B O σ H R k q => h.run O0 B O σ H _ k fun vs H1 s1 r1 => by
  obtain ⟨v, w, rfl, ⟨a, xs, rfl, h1, h2⟩, h5⟩ := r1
  obtain rfl : w = [] := h5
  have h1' : SqL K (hid O H1) a xs := by rw [nxEq] at h1; exact hid_le.seq h1
  refine ⟨a, xs, rfl, hid_le.seq h1, q _ H1 s1 ⟨fun i d Z O1 H hz hd s k1 => ?_, fun H s => ⟨xs, s.seq h1', ?_⟩⟩⟩
  · unfold enumD at hd
    rw [List.getElem?_mapIdx] at hd
    obtain ⟨d1, g1, rfl⟩ := Option.map_eq_some_iff.mp hd
    obtain ⟨x, g3, g4⟩ := h2.get g1
    refine ⟨⟨xs, x, s.seq h1', g3⟩, fun v H' hy => ?_⟩
    obtain ⟨T, x2, rfl, hT, rfl, f1⟩ := hy
    have e2 : x2 = x := Option.some.inj ((f1 xs (s.seq h1')).symm.trans g3)
    subst e2
    exact ⟨same_upd hT, pair_rep k1 hT rfl (Rep.mono (know2 k1 hz) _ _ g4)⟩
  · unfold enumD
    rw [List.length_mapIdx, h2.length]
    exact Nat.le_refl _
theorem zipD_map {α : Type} (F G : α → Dt) (qs rs : List α) : zipD (qs.map F) (rs.map G) = (List.zip qs rs).map fun p => .tup [F p.1, G p.2] := by
  unfold zipD List.zip
  rw [List.zipWith_map, List.map_zipWith]
theorem atI_map {α β : Type} {f : α → β} {xs : List α} {i : Int} {x : α} (h : atI xs i = some x) : atI (xs.map f) i = some (f x) := by
  unfold atI at h ⊢
  obtain ⟨j, h1, h2⟩ := Option.bind_eq_some_iff.mp h
  rw [List.length_map, h1]
  show (xs.map f)[j]? = _
  rw [List.getElem?_map, h2]
  rfl
theorem Wk.nil : Wk [] [] := True.intro
theorem Wk.any {a : Sl} {r s : PEnv} (h : Wk r s) : Wk (a :: r) (.any :: s) := ⟨.inl rfl, h⟩
theorem Wk.same {a : Sl} {r s : PEnv} (h : Wk r s) : Wk (a :: r) (a :: s) := ⟨.inr (.inl rfl), h⟩
theorem Wk.give {ds : List Dt} {r s : PEnv} (h : Wk r s) : Wk (.own ds :: r) (.dat (.lst ds) :: s) := ⟨.inr (.inr (.inl ⟨ds, rfl, rfl⟩)), h⟩
theorem Wk.give2 {rs : List (List Dt)} {r s : PEnv} (h : Wk r s) : Wk (.own2 rs :: r) (.dat (.lst (rs.map Dt.lst)) :: s) := ⟨.inr (.inr (.inr ⟨rs, rfl, .inl rfl⟩)), h⟩
theorem Wk.flat {rs : List (List Dt)} {r s : PEnv} (h : Wk r s) : Wk (.own2 rs :: r) (.own (rs.map Dt.lst) :: s) := ⟨.inr (.inr (.inr ⟨rs, rfl, .inr rfl⟩)), h⟩
theorem atI_head {α : Type} {x : α} {xs : List α} : atI (x :: xs) 0 = some x := atI_nat (j := 0) rfl
theorem atI_natL {α : Type} {xs : List α} {j : Nat} (h : j < xs.length) : atI xs (j : Int) = some xs[j] := atI_nat (List.getElem?_eq_getElem h)
end
end DL

/-! Fr: fractions as data, what the program's fraction functions come to. -/
namespace DL
open PySem L2
def fq (q : Rat) : Dt := .tup [.int q.num, .int (q.den : Int)]
def pd (p : Int × Int) : Dt := .tup [.int p.1, .int p.2]
theorem fq_pd (q : Rat) : fq q = pd (q.num, (q.den : Int)) := rfl
/-- num and den stay below 2 ^ n -/
structure Bd (n : Nat) (q : Rat) : Prop where
  nu : q.num.natAbs < 2 ^ n
  de : q.den < 2 ^ n
theorem Bd.mono {m n : Nat} {q : Rat} (h : Bd m q) (l : m ≤ n) : Bd n q :=
  ⟨Nat.lt_of_lt_of_le h.nu (Nat.pow_le_pow_right (by decide) l), Nat.lt_of_lt_of_le h.de (Nat.pow_le_pow_right (by decide) l)⟩
/-- the lowest terms by a gcd -/
theorem low_pos (a : Int) (b : Nat) (h : b ≠ 0) : (Rat.divInt a b).num = a / ((Nat.gcd a.natAbs b : Nat) : Int) ∧ ((Rat.divInt a b).den : Int) = (b : Int) / ((Nat.gcd a.natAbs b : Nat) : Int) := by
  have e : Rat.divInt a (b : Int) = mkRat a b := rfl
  rw [e, mkRat, dif_neg h, Rat.normalize_eq]
  exact ⟨rfl, by simp⟩
theorem low_any (a b : Int) (h : 0 < b) : fq (Rat.divInt a b) = .tup [.int (a / ((Nat.gcd a.natAbs b.natAbs : Nat) : Int)), .int (b / ((Nat.gcd a.natAbs b.natAbs : Nat) : Int))] := by
  obtain ⟨n, rfl⟩ : ∃ n : Nat, b = (n : Int) := ⟨b.toNat, by omega⟩
  obtain ⟨h1, h2⟩ := low_pos a n (by omega)
  unfold fq
  rw [h1, h2]
  simp
theorem gcd_pos {a b : Int} (h : b ≠ 0) : 0 < ((Nat.gcd a.natAbs b.natAbs : Nat) : Int) := by
  have := Nat.gcd_pos_of_pos_right a.natAbs (Int.natAbs_pos.mpr h)
  omega
theorem cdiv_of {i j : Int} (h : 0 < j) (h2 : j.natAbs < 2 ^ 9000) : CDivW i j := wide_div h h2 (by decide) (Nat.le_refl _)
theorem gcd_div {a b i : Int} (h : b ≠ 0) (hb : b.natAbs < 2 ^ 9000) : CDivW i ((Nat.gcd a.natAbs b.natAbs : Nat) : Int) := by
  refine cdiv_of (gcd_pos h) ?_
  have := Nat.gcd_le_right a.natAbs (Int.natAbs_pos.mpr h)
  rw [Int.natAbs_natCast]
  exact Nat.lt_of_le_of_lt this hb
theorem cmul_of {i j : Int} {n : Nat} (h1 : i.natAbs < 2 ^ n) (h2 : j.natAbs < 2 ^ n) (hn : 0 < n) (h : n ≤ 500000) : CMulW i j := wide_mul h1 h2 hn hn (by omega)
theorem pow_le_of {a m n : Nat} (h : a < 2 ^ m) (l : m ≤ n) : a < 2 ^ n := Nat.lt_of_lt_of_le h (Nat.pow_le_pow_right (by decide) l)
theorem mul_lt_pow {a b m n : Nat} (ha : a < 2 ^ m) (hb : b < 2 ^ n) : a * b < 2 ^ (m + n) := by
  rw [Nat.pow_add]
  exact Nat.mul_lt_mul'' ha hb
/-! what the defs come to -/
inductive R_fraction : List Dt → Dt → Prop
  | mk (a b : Int) : b ≠ 0 → b.natAbs < 2 ^ 9000 → R_fraction [.int a, .int b] (fq (Rat.divInt a b))
inductive R_add : List Dt → Dt → Prop
  | mk (a b : Rat) : Bd 4000 a → Bd 4000 b → R_add [fq a, fq b] (fq (a + b))
inductive R_subtract : List Dt → Dt → Prop
  | mk (a b : Rat) : Bd 4000 a → Bd 4000 b → R_subtract [fq a, fq b] (fq (a - b))
inductive R_multiply : List Dt → Dt → Prop
  | mk (a b : Rat) : Bd 4000 a → Bd 4000 b → R_multiply [fq a, fq b] (fq (a * b))
inductive R_divide : List Dt → Dt → Prop
  | mk (a b : Rat) : Bd 4000 a → Bd 4000 b → b ≠ 0 → R_divide [fq a, fq b] (fq (a / b))
inductive R_less : List Dt → Dt → Prop
  | mk (a b : Rat) : Bd 4000 a → Bd 4000 b → R_less [fq a, fq b] (.bl (decide (a < b)))
def rsum (qs : List Rat) : Rat := qs.foldl (· + ·) 0
theorem rsum_snoc (qs : List Rat) (q : Rat) : rsum (qs ++ [q]) = rsum qs + q := by unfold rsum; rw [List.foldl_append]; rfl
inductive R_total : List Dt → Dt → Prop
  | mk (qs : List Rat) : (∀ q ∈ qs, Bd 4000 q) → (∀ i, i ≤ qs.length → Bd 4000 (rsum (qs.take i))) → R_total [.lst (qs.map fq)] (fq (rsum qs))
inductive R_dot : List Dt → Dt → Prop
  | mk (qs rs : List Rat) : qs.length = rs.length → qs.length ≤ 1000 → (∀ q ∈ qs, Bd 1000 q) → (∀ q ∈ rs, Bd 1000 q) → (∀ i, i ≤ qs.length → Bd 4000 (rsum ((List.zipWith (· * ·) qs rs).take i))) → R_dot [.lst (qs.map fq), .lst (rs.map fq)] (fq (rsum (List.zipWith (· * ·) qs rs)))
def rmax (q : Rat) (qs : List Rat) : Rat := qs.foldl (fun b v => if b < v then v else b) q
def rmin (q : Rat) (qs : List Rat) : Rat := qs.foldl (fun b v => if v < b then v else b) q
inductive R_largest : List Dt → Dt → Prop
  | mk (q : Rat) (qs : List Rat) : (∀ r ∈ q :: qs, Bd 4000 r) → R_largest [.lst ((q :: qs).map fq)] (fq (rmax q (q :: qs)))
inductive R_smallest : List Dt → Dt → Prop
  | mk (q : Rat) (qs : List Rat) : (∀ r ∈ q :: qs, Bd 4000 r) → R_smallest [.lst ((q :: qs).map fq)] (fq (rmin q (q :: qs)))
/-! ways to the rationals -/
theorem divInt_self' (q : Rat) : Rat.divInt q.num (q.den : Int) = q := by
  have := Rat.num_divInt_den q
  exact this
theorem den_pos (q : Rat) : (0 : Int) < (q.den : Int) := by
  have := q.den_pos
  omega
theorem den_ne (q : Rat) : (q.den : Int) ≠ 0 := by
  have := den_pos q
  omega
theorem add_divInt (a b : Rat) : Rat.divInt (a.num * b.den + b.num * a.den) (a.den * b.den) = a + b := by
  rw [← Rat.divInt_add_divInt _ _ (den_ne a) (den_ne b), divInt_self', divInt_self']
theorem sub_divInt (a b : Rat) : Rat.divInt (a.num * b.den - b.num * a.den) (a.den * b.den) = a - b := by
  rw [← Rat.divInt_sub_divInt _ _ (den_ne a) (den_ne b), divInt_self', divInt_self']
theorem mul_divInt (a b : Rat) : Rat.divInt (a.num * b.num) (a.den * b.den) = a * b := by
  rw [← Rat.divInt_mul_divInt, divInt_self', divInt_self']
theorem div_divInt (a b : Rat) : Rat.divInt (a.num * b.den) (a.den * b.num) = a / b := by
  rw [Rat.div_def, ← Rat.divInt_mul_divInt, divInt_self']
  congr 1
  conv => rhs; rw [← divInt_self' b]
  rw [Rat.inv_divInt]
end DL
namespace DL
open PySem L2
theorem low_num {a b : Int} (h : 0 < b) : (Rat.divInt a b).num = a / ((Nat.gcd a.natAbs b.natAbs : Nat) : Int) ∧ ((Rat.divInt a b).den : Int) = b / ((Nat.gcd a.natAbs b.natAbs : Nat) : Int) := by
  obtain ⟨n, rfl⟩ : ∃ n : Nat, b = (n : Int) := ⟨b.toNat, by omega⟩
  exact low_pos a n (by omega)
theorem low_bd {a b : Int} {n : Nat} (h : 0 < b) (ha : a.natAbs < 2 ^ n) (hb : b.natAbs < 2 ^ n) : Bd n (Rat.divInt a b) := by
  obtain ⟨h1, h2⟩ := low_num (a := a) h
  have g0 : 0 < Nat.gcd a.natAbs b.natAbs := Nat.gcd_pos_of_pos_right _ (Int.natAbs_pos.mpr (by omega))
  constructor
  · rw [h1, Int.natAbs_ediv_of_dvd (Int.ofNat_dvd_left.mpr (Nat.gcd_dvd_left _ _)), Int.natAbs_natCast]
    exact Nat.lt_of_le_of_lt (Nat.div_le_self _ _) ha
  · have : (Rat.divInt a b).den = b.natAbs / Nat.gcd a.natAbs b.natAbs := by
      have e : ((Rat.divInt a b).den : Int).natAbs = (b / ((Nat.gcd a.natAbs b.natAbs : Nat) : Int)).natAbs := by rw [h2]
      rw [Int.natAbs_natCast, Int.natAbs_ediv_of_dvd (Int.ofNat_dvd_left.mpr (Nat.gcd_dvd_right _ _)), Int.natAbs_natCast] at e
      exact e
    rw [this]
    exact Nat.lt_of_le_of_lt (Nat.div_le_self _ _) hb
theorem fq_eq {a b : Rat} (h : a = b) : fq a = fq b := by rw [h]
theorem fq_inj {a b : Rat} : (a.num = b.num ∧ a.den = b.den) ↔ a = b := by
  constructor
  · intro h
    exact Rat.ext h.1 h.2
  · intro h
    rw [h]
    exact ⟨rfl, rfl⟩
end DL

/-! Law0: what the laws' common helpers come to. -/
namespace DL
open PySem L2
inductive R_cell : List Dt → Dt → Prop
  | mk (ns : List Int) (k : Nat) : ns.length ≤ 63 → R_cell [.lst (ns.map .int), .int (k : Int)] (.int (ns.getD k 0))
/-- the digits of a cell: after i turns, the row so far and the rest -/
def dst (c b : Int) : Nat → List Int × Int
  | 0 => ([], c)
  | i + 1 => if (10 : Int) ^ (18 : Int).toNat ≤ c then ((dst c b i).1 ++ [(dst c b i).2 % b], (dst c b i).2 / b) else
      (((dst c b i).1 ++ [((((((dst c b i).2 * 48271 + 69621 * (i : Nat) + 1009) % 2147483647) * 16807 + 40014 * (i : Nat) + 7) % 2147483629) / 11) % b]),
        ((((dst c b i).2 * 48271 + 69621 * (i : Nat) + 1009) % 2147483647) * 16807 + 40014 * (i : Nat) + 7) % 2147483629)
theorem dst_yes {c b : Int} (h : (10 : Int) ^ (18 : Int).toNat ≤ c) (i : Nat) : dst c b (i + 1) = ((dst c b i).1 ++ [(dst c b i).2 % b], (dst c b i).2 / b) := by
  show (if _ then _ else _) = _
  rw [if_pos h]
theorem dst_no {c b : Int} (h : ¬ (10 : Int) ^ (18 : Int).toNat ≤ c) (i : Nat) : dst c b (i + 1) = (((dst c b i).1 ++ [((((((dst c b i).2 * 48271 + 69621 * (i : Nat) + 1009) % 2147483647) * 16807 + 40014 * (i : Nat) + 7) % 2147483629) / 11) % b]),
        ((((dst c b i).2 * 48271 + 69621 * (i : Nat) + 1009) % 2147483647) * 16807 + 40014 * (i : Nat) + 7) % 2147483629) := by
  show (if _ then _ else _) = _
  rw [if_neg h]
theorem dst_len (c b : Int) : ∀ i, (dst c b i).1.length = i
  | 0 => rfl
  | i + 1 => by
    unfold dst
    split <;> simp [dst_len c b i]
theorem dst_in (c b : Int) (hb : 0 < b) : ∀ i, ∀ x ∈ (dst c b i).1, 0 ≤ x ∧ x < b
  | 0 => fun _ h => by cases h
  | i + 1 => by
    unfold dst
    split
    · intro x hx
      rcases List.mem_append.mp hx with h | h
      · exact dst_in c b hb i x h
      · rw [List.mem_singleton.mp h]
        exact ⟨Int.emod_nonneg _ (by omega), Int.emod_lt_of_pos _ hb⟩
    · intro x hx
      rcases List.mem_append.mp hx with h | h
      · exact dst_in c b hb i x h
      · rw [List.mem_singleton.mp h]
        exact ⟨Int.emod_nonneg _ (by omega), Int.emod_lt_of_pos _ hb⟩
inductive R_digits : List Dt → Dt → Prop
  | mk (c b : Int) (n : Nat) : 0 < b → b < 2 ^ 30 → n ≤ 1000 → R_digits [.int c, .int b, .int (n : Int)] (.lst ((dst c b n).1.map .int))
inductive R_gcd : List Dt → Dt → Prop
  | mk (a b : Nat) : b < 2 ^ 900 → R_gcd [.int (a : Int), .int (b : Int)] (.int ((Nat.gcd a b : Nat) : Int))
inductive R_lowest : List Dt → Dt → Prop
  | mk (a b : Int) : 0 < b → b.natAbs < 2 ^ 900 → R_lowest [.int a, .int b] (fq (Rat.divInt a b))
inductive R_isint : List Dt → Dt → Prop
  | mk (a : Int) : R_isint [.int a] (.bl true)
inductive R_same : List Dt → Dt → Prop
  | mk (a b : Rat) : R_same [fq a, fq b] (.bl (decide (a = b)))
inductive R_flag : List Dt → Dt → Prop
  | mk (a b : Bool) : R_flag [.bl a, .bl b] (.bl (decide (a = b)))
/-! Euclid's way ends in time -/
/-- a turn's pair -/
def eu (a b : Nat) : Nat → Nat × Nat
  | 0 => (a, b)
  | i + 1 => ((eu a b i).2, (eu a b i).1 % (eu a b i).2)
theorem mod_half {a b : Nat} (h : b ≤ a) (hb : 0 < b) : 2 * (a % b) ≤ a := by
  have h1 := Nat.mod_lt a hb
  have h2 := Nat.div_add_mod a b
  have h3 : 1 ≤ a / b := (Nat.one_le_div_iff hb).mpr h
  have h4 : b * 1 ≤ b * (a / b) := Nat.mul_le_mul_left b h3
  omega
theorem eu_gcd (a b : Nat) : ∀ i, Nat.gcd (eu a b i).1 (eu a b i).2 = Nat.gcd a b
  | 0 => rfl
  | i + 1 => by
    show Nat.gcd (eu a b i).2 ((eu a b i).1 % (eu a b i).2) = _
    rw [Nat.gcd_comm, ← Nat.gcd_rec, Nat.gcd_comm, eu_gcd a b i]
theorem eu_lt (a b : Nat) : ∀ i, (eu a b i).2 ≠ 0 → (eu a b (i + 1)).2 < (eu a b (i + 1)).1 := fun i h => Nat.mod_lt _ (Nat.pos_of_ne_zero h)
theorem eu_small (a b : Nat) {m : Nat} (hb : b < 2 ^ m) : ∀ i, (∀ j, j ≤ i → (eu a b j).2 ≠ 0) → (eu a b (i + 1)).1 * (eu a b (i + 1)).2 * 2 ^ i < 2 ^ (m + m)
  | 0, h => by
    show b * (a % b) * 1 < _
    have h1 : a % b < 2 ^ m := Nat.lt_trans (Nat.mod_lt _ (Nat.pos_of_ne_zero (h 0 (Nat.le_refl _)))) hb
    rw [Nat.mul_one, Nat.pow_add]
    exact Nat.mul_lt_mul'' hb h1
  | i + 1, h => by
    have ih := eu_small a b hb i fun j hj => h j (by omega)
    have h2 := eu_lt a b i (h i (by omega))
    have h3 := mod_half (Nat.le_of_lt h2) (Nat.pos_of_ne_zero (h (i + 1) (Nat.le_refl _)))
    show (eu a b (i + 1)).2 * ((eu a b (i + 1)).1 % (eu a b (i + 1)).2) * 2 ^ (i + 1) < _
    refine Nat.lt_of_le_of_lt ?_ ih
    rw [Nat.pow_succ, ← Nat.mul_assoc, Nat.mul_comm _ 2, ← Nat.mul_assoc]
    refine Nat.mul_le_mul_right _ ?_
    rw [← Nat.mul_assoc, Nat.mul_comm 2, Nat.mul_assoc, Nat.mul_comm (eu a b (i + 1)).1]
    exact Nat.mul_le_mul_left _ h3
/-- before 2 m + 2 turns are through the second number is zero -/
theorem eu_ends (a b : Nat) {m : Nat} (hb : b < 2 ^ m) : ∃ j, j ≤ m + m + 1 ∧ (eu a b j).2 = 0 := by
  apply Classical.byContradiction
  intro hn
  have all : ∀ j, j ≤ m + m + 1 → (eu a b j).2 ≠ 0 := fun j hj z => hn ⟨j, hj, z⟩
  have h := eu_small a b hb (m + m) fun j hj => all j (by omega)
  have h1 : 0 < (eu a b (m + m + 1)).1 * (eu a b (m + m + 1)).2 := Nat.mul_pos (Nat.pos_of_ne_zero (all (m + m) (by omega))) (Nat.pos_of_ne_zero (all (m + m + 1) (Nat.le_refl _)))
  have h2 : 1 * 2 ^ (m + m) ≤ (eu a b (m + m + 1)).1 * (eu a b (m + m + 1)).2 * 2 ^ (m + m) := Nat.mul_le_mul_right _ h1
  omega
/-! drawn pairs -/
def pr (c : Int) (w : Bool) : Int × Int :=
  let a := fun i => (dst c 1000000 4).1.getD i 0
  let n := if w = true then a 0 + 1000000 * a 1 else a 0 % 13
  let d := if w = true then max 1 (a 2 + 1000000 * a 3) else 1 + a 2 % 6
  (if a 3 % 3 = 1 then -n else n, d)
theorem dst4 (c b : Int) (hb : 0 < b) : ∃ x0 x1 x2 x3, (dst c b 4).1 = [x0, x1, x2, x3] ∧ (0 ≤ x0 ∧ x0 < b) ∧ (0 ≤ x1 ∧ x1 < b) ∧ (0 ≤ x2 ∧ x2 < b) ∧ (0 ≤ x3 ∧ x3 < b) := by
  have h := dst_len c b 4
  have hi := dst_in c b hb 4
  match e : (dst c b 4).1, h with
  | [x0, x1, x2, x3], _ =>
    rw [e] at hi
    exact ⟨x0, x1, x2, x3, rfl, hi _ (by simp), hi _ (by simp), hi _ (by simp), hi _ (by simp)⟩
theorem pr_ok (c : Int) (w : Bool) : 0 < (pr c w).2 ∧ (pr c w).2 < 2 ^ 40 ∧ (pr c w).1.natAbs < 2 ^ 40 := by
  obtain ⟨x0, x1, x2, x3, e, h0, h1, h2, h3⟩ := dst4 c 1000000 (by decide)
  unfold pr
  rw [e]
  simp only [List.getD_cons_zero, List.getD_cons_succ]
  cases w
  · simp only [Bool.false_eq_true, if_false]
    split <;> omega
  · simp only [if_true]
    split <;> omega
inductive R_pair : List Dt → Dt → Prop
  | mk (c : Int) (w : Bool) : R_pair [.int c, .bl w] (pd (pr c w))

inductive R_two : List Dt → Dt → Prop
  | mk (a b : Rat) : Bd 60 a → Bd 60 b → R_two [fq a, fq b] (.bl true)
/-- the sum of pairs, not in lowest terms -/
def usm (ps : List (Int × Int)) : Int × Int := ps.foldl (fun s p => (s.1 * p.2 + p.1 * s.2, s.2 * p.2)) (0, 1)
theorem usm_snoc (ps : List (Int × Int)) (p : Int × Int) : usm (ps ++ [p]) = ((usm ps).1 * p.2 + p.1 * (usm ps).2, (usm ps).2 * p.2) := by
  unfold usm
  rw [List.foldl_append]
  rfl
def Pok (m : Nat) (p : Int × Int) : Prop := 0 < p.2 ∧ p.2.natAbs < 2 ^ m ∧ p.1.natAbs < 2 ^ m
theorem usm_ok {m : Nat} (ps : List (Int × Int)) (h : ∀ p ∈ ps, Pok m p) : ∀ i, i ≤ ps.length → Pok ((m + 1) * i + 1) (usm (ps.take i)) ∧ Rat.divInt (usm (ps.take i)).1 (usm (ps.take i)).2 = rsum ((ps.take i).map fun p => Rat.divInt p.1 p.2)
  | 0, _ => ⟨⟨by show (0 : Int) < 1; decide, by show 1 < 2 ^ ((m + 1) * 0 + 1); rw [Nat.mul_zero]; decide, by show 0 < 2 ^ ((m + 1) * 0 + 1); exact Nat.pow_pos (by decide)⟩, by show Rat.divInt 0 1 = (0 : Rat); simp⟩
  | i + 1, hi => by
    have hlt : i < ps.length := by omega
    have e : ps.take (i + 1) = ps.take i ++ [ps[i]] := by rw [List.take_add_one, List.getElem?_eq_getElem hlt]; rfl
    obtain ⟨⟨i1, i2, i3⟩, i4⟩ := usm_ok ps h i (by omega)
    obtain ⟨p1, p2, p3⟩ := h ps[i] (List.getElem_mem hlt)
    rw [e, usm_snoc, List.map_append]
    generalize usm (ps.take i) = s at *
    generalize ps[i] = p at *
    refine ⟨⟨Int.mul_pos i1 p1, ?_, ?_⟩, ?_⟩
    · show (s.2 * p.2).natAbs < _
      rw [Int.natAbs_mul]
      exact pow_le_of (mul_lt_pow i2 p2) (by rw [Nat.mul_add]; omega)
    · show (s.1 * p.2 + p.1 * s.2).natAbs < _
      have a1 := mul_lt_pow i3 p2
      have a2 := mul_lt_pow p3 i2
      rw [← Int.natAbs_mul] at a1 a2
      have a3 := Int.natAbs_add_le (s.1 * p.2) (p.1 * s.2)
      have a4 : 2 ^ ((m + 1) * (i + 1) + 1) = 2 ^ ((m + 1) * i + 1 + m) + 2 ^ ((m + 1) * i + 1 + m) := by
        rw [← Nat.two_mul, Nat.mul_comm 2, ← Nat.pow_succ]
        congr 1
        rw [Nat.mul_add]
        omega
      rw [Nat.add_comm m] at a2
      omega
    · show Rat.divInt (s.1 * p.2 + p.1 * s.2) (s.2 * p.2) = rsum ((ps.take i).map _ ++ [Rat.divInt p.1 p.2])
      rw [rsum_snoc, ← i4, Rat.divInt_add_divInt _ _ (by omega) (by omega)]
inductive R_sum : List Dt → Dt → Prop
  | mk (ps : List (Int × Int)) : ps.length ≤ 8 → (∀ p ∈ ps, Pok 100 p) → R_sum [.lst (ps.map pd)] (fq (rsum (ps.map fun p => Rat.divInt p.1 p.2)))
inductive R_ends : List Dt → Dt → Prop
  | mk (q : Rat) (qs : List Rat) : (∀ r ∈ q :: qs, Bd 4000 r) → R_ends [.lst ((q :: qs).map fq)] (.lst [fq (rmin q (q :: qs)), fq (rmax q (q :: qs))])
/-! bounds -/
theorem add_bd {a b : Rat} {m n : Nat} (ha : Bd m a) (hb : Bd n b) : Bd (m + n + 1) (a + b) := by
  rw [← add_divInt]
  have h1 := mul_lt_pow ha.nu hb.de
  have h2 := mul_lt_pow hb.nu ha.de
  have h3 := mul_lt_pow ha.de hb.de
  refine low_bd (Int.mul_pos (den_pos a) (den_pos b)) ?_ ?_
  · have a3 := Int.natAbs_add_le (a.num * b.den) (b.num * a.den)
    rw [Int.natAbs_mul, Int.natAbs_mul, Int.natAbs_natCast, Int.natAbs_natCast] at a3
    rw [Nat.add_comm n] at h2
    rw [Nat.pow_succ]
    omega
  · rw [Int.natAbs_mul, Int.natAbs_natCast, Int.natAbs_natCast]
    exact pow_le_of h3 (by omega)
theorem mul_bd {a b : Rat} {m n : Nat} (ha : Bd m a) (hb : Bd n b) : Bd (m + n) (a * b) := by
  rw [← mul_divInt]
  refine low_bd (Int.mul_pos (den_pos a) (den_pos b)) ?_ ?_
  · rw [Int.natAbs_mul]
    exact mul_lt_pow ha.nu hb.nu
  · rw [Int.natAbs_mul, Int.natAbs_natCast, Int.natAbs_natCast]
    exact mul_lt_pow ha.de hb.de
theorem rsum_bd {m : Nat} (qs : List Rat) (h : ∀ q ∈ qs, Bd m q) : ∀ i, i ≤ qs.length → Bd ((m + 1) * i + 1) (rsum (qs.take i))
  | 0, _ => ⟨by show 0 < 2 ^ ((m + 1) * 0 + 1); exact Nat.pow_pos (by decide), by show 1 < 2 ^ ((m + 1) * 0 + 1); rw [Nat.mul_zero]; decide⟩
  | i + 1, hi => by
    have hlt : i < qs.length := by omega
    rw [List.take_add_one, List.getElem?_eq_getElem hlt]
    show Bd _ (rsum (qs.take i ++ [qs[i]]))
    rw [rsum_snoc]
    exact (add_bd (rsum_bd qs h i (by omega)) (h _ (List.getElem_mem hlt))).mono (by rw [Nat.mul_add]; omega)

inductive R_zden : List Dt → Dt → Prop
  | mk (a : Int) : R_zden [.int a] (.bl true)
inductive R_zdiv : List Dt → Dt → Prop
  | mk (q : Rat) : R_zdiv [fq q] (.bl true)
inductive R_law : List Dt → Dt → Prop
  | mk (ns : List Int) : ns.length ≤ 63 → R_law [.lst (ns.map .int)] (.bl true)

inductive RX_fraction (B : Addr) : List Dt → Addr → List (Str × Dt) → Prop
  | mk (a : Int) : RX_fraction B [.int a, .int 0] B [("place", .str "denominator")]
inductive RX_divide (B : Addr) : List Dt → Addr → List (Str × Dt) → Prop
  | mk (q : Rat) : RX_divide B [fq q, fq 0] B [("place", .str "divisor")]
end DL

/-! Law1: data compared as a whole; lists cut. -/
namespace DL
open PySem L2
def pq (q : Rat) : PyData := .tuple [.int q.num, .int (q.den : Int)]
theorem toPy_fq (q : Rat) : toPy (fq q) = some (pq q) := rfl
theorem toPys_fqs : ∀ qs : List Rat, toPys (qs.map fq) = some (qs.map pq)
  | [] => rfl
  | q :: qs => by
    show (toPy (fq q)).bind (fun p => (toPys (qs.map fq)).map fun r => p :: r) = _
    rw [toPys_fqs qs]
    rfl
theorem toPy_fqs (qs : List Rat) : toPy (.lst (qs.map fq)) = some (.list (qs.map pq)) := by
  show (toPys (qs.map fq)).map PyData.list = _
  rw [toPys_fqs]
  rfl
theorem canLay_pqs : ∀ qs : List Rat, PyData.canLayAll0 (qs.map pq) = true
  | [] => by simp [PyData.canLayAll0]
  | q :: qs => by
    have := canLay_pqs qs
    simp [PyData.canLayAll0, pq, PyData.canLay0, this]
theorem depth_pqs : ∀ qs : List Rat, PyData.depthAll (qs.map pq) ≤ 2
  | [] => by simp [PyData.depthAll]
  | q :: qs => by
    have := depth_pqs qs
    simp only [List.map_cons, PyData.depthAll, pq, PyData.depth]
    omega
theorem shaped_pqs (qs : List Rat) : SeqAt.shaped (.list (qs.map pq)) = true := by
  unfold SeqAt.shaped
  have h1 := canLay_pqs qs
  have h2 := depth_pqs qs
  rw [show PyData.canLay0 (.list (qs.map pq)) = true by simpa [PyData.canLay0] using h1, Bool.true_and]
  refine decide_eq_true ?_
  show PyData.depth (.list (qs.map pq)) ≤ 64
  simp only [PyData.depth]
  omega
theorem eqv_pqs (qs : List Rat) : PyData.eqv (.list (qs.map pq)) (.list (qs.map pq)) = true := SeqAt.eqv_refl _ (SeqAt.canLay_of_shaped (shaped_pqs qs))
theorem rd_eqFqs {K : PySem.W.Frag} {r : R2} (qs : List Rat) : RD2 K (fun x y H Q => r x y H Q ∨ rEqD K x y H Q) (.lst (qs.map fq)) (.lst (qs.map fq)) (.bl true) :=
  RD2.r (rd_eqD (toPy_fqs qs) (toPy_fqs qs) (shaped_pqs qs) (shaped_pqs qs) (eqv_pqs qs))
theorem cut_to {α : Type} (xs : List α) (m : Nat) : cutD xs none (some (m : Int)) = xs.take m := by
  unfold cutD
  rw [HT.sIx_nat, HT.sIx_none, List.drop_zero, Nat.sub_zero]
  rcases Nat.le_total m xs.length with h | h
  · rw [Nat.min_eq_left h]
  · rw [Nat.min_eq_right h, List.take_length, List.take_of_length_le h]
theorem range_map_take {α : Type} (f : Nat → α) (n m : Nat) (h : m ≤ n) : ((List.range n).map f).take m = (List.range m).map f := by
  rw [← List.map_take, List.take_range, Nat.min_eq_left h]
theorem atI_range {α : Type} (f : Nat → α) {n k : Nat} {i : Int} (h : k < n) (e : i = (k : Int)) : atI ((List.range n).map f) i = some (f k) := by
  subst e
  refine atI_nat ?_
  rw [List.getElem?_map, List.getElem?_range h]
  rfl
theorem zip_range (f g : Nat → Rat) (m : Nat) : List.zipWith (· * ·) ((List.range m).map f) ((List.range m).map g) = (List.range m).map fun k => f k * g k := by
  rw [List.zipWith_map, List.zipWith_self]
theorem range_mem {n i k : Nat} (h : (List.range n)[i]? = some k) : k = i ∧ k < n := by
  have hi := (List.getElem?_eq_some_iff.mp h).1
  rw [List.length_range] at hi
  rw [List.getElem?_range hi] at h
  cases h
  exact ⟨rfl, hi⟩
end DL

/-! DL6: errors over data: own classes with an __init__, raise, try, what a suite does with the error. -/
namespace DL
open PySem PySem.Spec PyProof.Rows L2
/-! ### making and raising -/
/-- __init__(self, f): self.f = f -/
def spI1 (C : Addr) (f : Str) : Sp := fun vs H Q _ => ∃ a v, vs = [.ref a, v] ∧ H a = some (exo a C none) ∧ ∀ dx, H dx = none → dx ≠ a → Q .non (upd (upd H dx (exd dx [(f, v)])) a (exo a C (some dx)))
/-- what the top says of such a class -/
structure ExcT (K : PySem.W.Frag) (C fI : Addr) : Prop where
  o : OexC K C
  iC : PySem.W.findIn K (.ref C) "__init__" = some (some (.ref fI))
  tI : PySem.W.typeIn K (.ref fI) = some (.type "function")
  cl : (PySem.W.clsIn K C).isSome = true
  ga : PySem.W.findIn K (.ref C) "__getattribute__" = some (some (.builtin "BaseException.__getattribute__"))
  gg : PySem.W.findIn K (.ref C) "__getattr__" = some none
  hd : PySem.W.hasDictIn K C = true
  ca : PySem.W.findIn K (.ref C) "__class__" = some (some (.builtin "object.__class__"))
  cg : PySem.W.specialIn K (.builtin "object.__class__") "__get__" = some (some (.builtin "getset_descriptor.__get__"))
  ct : PySem.W.takesIn K (.builtin "object.__class__") = some true
  cm : PySem.W.mroIn K C (.type "object") = some true
section
variable {K : PySem.W.Frag} {W : WX} {ρ : PEnv} {ta tb te tc tl : TE} {t u : TT} {x y z d e : Dt} {ts tu : TS} {D : DEnds} {aa : TA}
/-- the reading of raise C(e) -/
def tRz (C : Addr) (f : Str) (W : WX) (aa : TA) : TS := fun _ σ H => tMkO C (spI1 C f) [] aa σ H fun cls dd H' => W cls dd σ H'
theorem es_raise {C : Addr} {f : Str} (ha : DA K aa ρ [d]) (q : D.ex C [(f, d)] ρ) : ES K W (tRz C f W aa) ρ D := .mk fun O0 B O σ H G k r =>
  ha.run O0 B O σ H _ k fun vs H1 s1 r1 => by
    obtain ⟨v, w, rfl, r2, r3⟩ := r1
    obtain rfl : w = [] := r3
    refine ⟨by show 1 ≤ 1000; decide, fun a na => ⟨a, v, rfl, upd_same, fun dx nx ne => ⟨rfl, dx, [(f, v)], upd_same, ?_, ?_, ?_⟩⟩⟩
    · rw [upd_ne ne, upd_same]
    · rw [upd_ne ne] at nx
      exact nx
    · have nx' : H1 dx = none := by
        rw [upd_ne ne] at nx
        exact nx
      have sm : Same H1 (upd (del (upd (upd (upd H1 a (exo a C none)) dx (exd dx [(f, v)])) a (exo a C (some dx))) a) dx (.xd [(f, v)])) := fun b o e => by
        have h1 : b ≠ dx := ne_of_none e nx'
        have h2 : b ≠ a := ne_of_none e na
        rw [upd_ne h1, del_ne h2, upd_ne h2, upd_ne h1, upd_ne h2]
        exact e
      have k2 := (k.mono s1).mono sm
      refine r.ex C [(f, d)] ρ O σ _ dx [(f, v)] q k2 ((k.h.ext.trans s1).free nx') ?_ ⟨v, [], rfl, Rep.mono (hid_mono sm) d v r2, rfl⟩
      rw [hid_out ((k.mono s1).h.out nx')]
      exact upd_same
/-- a call that raises -/
def tRaises (R : List Dt → Addr → List (Str × Dt) → Prop) (K : PySem.W.Frag) (dvs : List V) (W : WX) (aa : TA) : TE := tCallSD (spR K R) dvs (fun σ c d H => W c d σ H) aa
theorem dr_call {R : List Dt → Addr → List (Str × Dt) → Prop} {dvs : List V} {dds ds : List Dt} {C : Addr} {fs : List (Str × Dt)} (ha : DA K aa ρ ds) (hd : ∀ G, Reps K G dds dvs) (hr : R (ds ++ dds) C fs) : DR K W (tRaises R K dvs W aa) ρ C fs := .mk fun O0 B O σ H Q k q =>
  ha.run O0 B O σ H _ k fun vs H1 s1 r1 => ⟨O0 ++ O, ds ++ dds, C, fs, fun p hp z => k.h.dom p hp (s1.free z), r1.append (hd _), hr, fun dd xs H' s2 nd e r => q dd xs H' (s1.trans s2) (s1.free nd) e r⟩
theorem real_ex {C : Addr} {fs : List (Str × Dt)} {O0 O : List Addr} {B H H' : Hp} {σ : L2.St} {G : Ends} {dd : Addr} {xs : List (Str × V)} (q : D.ex C fs ρ) (k : Ok K O0 B O σ ρ H) (r : Real K W O0 B D G) (s : Same H H') (n : H dd = none) (e : H' dd = some (.xd xs)) (rf : RepF K (hid (O0 ++ O) H') fs xs) : W (.ref C) (some dd) σ H' :=
  r.ex C fs ρ O σ H' dd xs q (k.mono s) (k.h.ext.free n) (by rw [hid_out (k.h.out n)]; exact e) rf
theorem es_dropR {C : Addr} {fs : List (Str × Dt)} (h : DR K W te ρ C fs) (q : D.ex C fs ρ) : ES K W (tDrop te) ρ D := .mk fun O0 B O σ H G k r => h.run O0 B O σ H _ k fun dd xs H' s n e rf => real_ex q k r s n e rf
theorem es_retR {C : Addr} {fs : List (Str × Dt)} (h : DR K W te ρ C fs) (q : D.ex C fs ρ) : ES K W (tRet te) ρ D := .mk fun O0 B O σ H G k r => h.run O0 B O σ H _ k fun dd xs H' s n e rf => real_ex q k r s n e rf
theorem es_setR {C : Addr} {fs : List (Str × Dt)} {g : TG} (h : DR K W te ρ C fs) (q : D.ex C fs ρ) : ES K W (tAsg te g) ρ D := .mk fun O0 B O σ H G k r => h.run O0 B O σ H _ k fun dd xs H' s n e rf => real_ex q k r s n e rf
/-- the reading of a try with one clause -/
def tTry (K : PySem.W.Frag) (c : Value) (i : Nat) (tb : WX → TS) (ss : Addr → Value → Option Addr → TS) (Wout : WX) : TS := fun G σ H => tb (wAs K c i ss Wout G) G σ H
theorem ps_tryD {X : Cx} {x n : Str} {c : Value} {i : Nat} {body suite : List Stmt} {b₀ : Stmt} {np pos pos' : Pos} {tb : WX → TS} {ss : Addr → Value → Option Addr → TS} {Wout : WX} (hK : X.K = K) (h1 : X.stack = X.env :: X.outer) (h2 : X.env.frame = some X.env.locals) (h3 : X.N.Nodup) (h4 : X.N[i]? = some n) (h5 : X.env.kindOf n = some .local) (h6 : Names X x c) (tk : Takes X Wout)
    (hb : ∀ (W : WX) (pn : List (Addr × Obj)) (xe : Value → Shared → Prop), Takes (X.tr pn xe) W → PassesOwn (model X.prog X.w) X.A X.env xe → PSs (X.tr pn xe) body (tb W))
    (hs : ∀ (a : Addr) (oe : Obj) (cls : Value) (d : Option Addr) (pn : List (Addr × Obj)), Zc cls d oe → (∃ vs, oe.data = .fields vs) → PSs (X.suite a ((a, oe) :: pn)) (b₀ :: suite) (ss a cls d)) :
    PS X (.Try body [.ExceptHandler (some (.Name x np)) (some n) (b₀ :: suite) pos'] [] [] pos) (tTry K c i tb ss Wout) := by
  subst hK
  exact ps_try_as h1 h2 h3 h4 h5 h6 tk hb hs
/-- try .. except c as n (slot i): every error of the body is caught -/
theorem es_try {c : Value} {i : Nat} {tb : WX → TS} {ss : Addr → Value → Option Addr → TS} {Wout : WX} (hb : ∀ W', ES K W' (tb W') ρ { D with ex := fun C fs ρ' => PySem.W.exmOne K (.ref C) c = some true ∧ ∀ a dd, ES K (fun _ _ _ _ => False) (ss a (.ref C) (some dd)) (ρ'.set i (.dat (.exc a C dd fs))) { nx := fun ρ2 => D.nx (ρ2.set i .any), rt := D.rt, bk := fun ρ2 => D.bk (ρ2.set i .any), ct := fun ρ2 => D.ct (ρ2.set i .any) } }) :
    ES K W (tTry K c i tb ss Wout) ρ D := .mk fun O0 B O σ H G k r =>
  (hb _).run O0 B O σ H G k ⟨r.nx, r.bk, r.ct, r.rt, fun C fs ρ1 O1 σ1 H1 dd xs q k1 n e rf => by
    obtain ⟨h1, h2⟩ := q
    refine ⟨true, h1, fun _ a na => ?_, fun z => Bool.noConfusion z⟩
    refine (h2 a dd).run O0 B O1 (σ1.set i (some (.ref a))) H1 _ (k1.set (d := .exc a C dd fs) (v := .ref a) ⟨rfl, xs, e, rf⟩) ⟨fun ρ2 O2 σ2 H2 q2 k2 => ?_, fun ρ2 O2 σ2 H2 q2 k2 => ?_, fun ρ2 O2 σ2 H2 q2 k2 => ?_, r.rt, fun _ _ _ _ _ _ _ _ z => z.elim⟩
    · exact r.nx _ O2 _ H2 q2 (k2.forget i)
    · exact r.bk _ O2 _ H2 q2 (k2.forget i)
    · exact r.ct _ O2 _ H2 q2 (k2.forget i)⟩

/-! ### in the suite: the error stands pinned -/
variable {X : Cx} {a C dd : Addr} {oe : Obj}
theorem pin_inst {pins : List (Addr × Obj)} {σ : L2.St} {H : Hp} {s : Shared} (I : Inv X pins σ H s) (hp : (a, oe) ∈ X.pn) (hz : Zc (.ref C) (some dd) oe) (hf : ∃ vs, oe.data = .fields vs) {xs : List (Str × V)} (hx : H dd = some (.xd xs)) :
    ∃ od, PySem.W.InstAt s.heap a oe C (some od) ∧ ∀ n v, xs.lookup n = some v → ∃ u, PySem.W.lookIn n od = some (some u) ∧ RelV v u := by
  have h1 : ObjOk X.prog X.w H s.heap dd (.xd xs) := I.hok dd _ hx
  obtain ⟨mA, hn, hr⟩ := h1
  obtain ⟨od, ho, hl⟩ := lookIn_ns hn
  obtain ⟨vs, hv⟩ := hf
  have hg := (I.pin (a, oe) (List.mem_append_left _ hp)).1
  refine ⟨od, ⟨hg, hz.1, ?_, ?_⟩, fun n v e => ?_⟩
  · unfold PySem.W.notCls
    rw [hv]
  · rw [hz.2]
    exact ho
  · have q := hr n
    rw [e] at q
    obtain ⟨u, hu, ru⟩ := RelO.some_of q
    exact ⟨u, by rw [hl, hu], ru⟩
/-- isinstance(e, c): cls the error's class, dx its dict -/
def rIsX (K : PySem.W.Frag) (a : Addr) (cls : Value) (dx : Option Addr) : List V → Hp → VK → Prop := fun xs H Q => ∃ (C dd fI : Addr) (c : V) (cv : Value) (b : Bool) (fs : List (Str × V)), cls = .ref C ∧ dx = some dd ∧ ExcT K C fI ∧ xs = [.ref a, c] ∧ ClsV c cv ∧ H dd = some (.xd fs) ∧ PySem.W.kitOne K (.ref C) cv = some b ∧ Q (.bl b) H
theorem call_isX {cls : Value} {dx : Option Addr} (hK : X.K = K) (hp : (a, oe) ∈ X.pn) (hz : Zc cls dx oe) (hf : ∃ vs, oe.data = .fields vs) : CallR X (.builtin "isinstance") (rIsX K a cls dx) := by
  subst hK
  intro pins s σ H xs us Q I r h
  obtain ⟨C, dd, fI, c, cv, b, fs, rfl, rfl, T, rfl, k, hx, e, q⟩ := h
  obtain ⟨u1, u2, rfl, r1, r2⟩ := vals2 r
  have e2 := k.eq r2
  subst e2
  obtain rfl : u1 = Value.ref a := r1
  obtain ⟨od, J, _⟩ := pin_inst I hp hz hf hx
  exact PySem.W.kia_one (PySem.W.kitx_exc T.cl T.ga T.gg T.o.exC T.ca T.cg T.ct T.cm) I.kIn J e (fun z => nomatch z) fun tk => ⟨.bl b, H, I.tok tk, rfl, q⟩
theorem rc_isX {fI : Addr} {fs : List (Str × Dt)} {c : Addr} {b : Bool} (T : ExcT K C fI) (e : PySem.W.kitOne K (.ref C) (.ref c) = some b) : RDC K (rIsX K a (.ref C) (some dd)) [.exc a C dd fs, .ref c] (.bl b) := .mk fun O0 _ O H vs _ hk r k => by
  obtain ⟨v, w, rfl, ⟨h1, xs, h2, h3⟩, v2, w2, rfl, h4, h5⟩ := r
  obtain rfl : w2 = [] := h5
  obtain rfl : v = .ref a := h1
  obtain rfl : v2 = .ref c := h4
  exact ⟨C, dd, fI, .ref c, .ref c, b, xs, rfl, rfl, T, rfl, .own c, hid_le _ _ h2, e, k _ H (Same.refl H) rfl⟩
theorem rc_isXty {fI : Addr} {fs : List (Str × Dt)} {c : String} {b : Bool} (T : ExcT K C fI) (e : PySem.W.kitOne K (.ref C) (.type c) = some b) : RDC K (rIsX K a (.ref C) (some dd)) [.exc a C dd fs, .ty c] (.bl b) := .mk fun O0 _ O H vs _ hk r k => by
  obtain ⟨v, w, rfl, ⟨h1, xs, h2, h3⟩, v2, w2, rfl, h4, h5⟩ := r
  obtain rfl : w2 = [] := h5
  obtain rfl : v = .ref a := h1
  obtain rfl : v2 = .ty c := h4
  exact ⟨C, dd, fI, .ty c, .type c, b, xs, rfl, rfl, T, rfl, .ty c, hid_le _ _ h2, e, k _ H (Same.refl H) rfl⟩
/-- e.f -/
def tXg (K : PySem.W.Frag) (a : Addr) (cls : Value) (dx : Option Addr) (f : Str) (te : TE) : TE := fun σ H Q => te σ H fun x H1 => x = .ref a ∧ ∃ (C dd fI : Addr) (fs : List (Str × V)) (v : V), cls = .ref C ∧ dx = some dd ∧ ExcT K C fI ∧ PySem.W.findIn K (.ref C) f = some none ∧ H1 dd = some (.xd fs) ∧ fs.lookup f = some v ∧ Q v H1
theorem pe_xg {cls : Value} {dx : Option Addr} {ex : Expr} {pos : Pos} {f : Str} (hK : X.K = K) (hp : (a, oe) ∈ X.pn) (hz : Zc cls dx oe) (hf : ∃ vs, oe.data = .fields vs) (he : PE X ex te)
    (hb : attributeBase ex f X.env (eval ex X.env) = eval ex X.env := by rfl) : PE X (.Attribute ex f pos) (tXg K a cls dx f te) := by
  subst hK
  refine ⟨fun pins s σ H Q I h => attr_of hb (thn (he.run pins s σ H _ I h) fun u s1 hh => ?_)⟩
  obtain ⟨x, H1, I1, rx, rfl, C, dd, fI, fs, v, rfl, rfl, T, hno, hx, hl, q⟩ := hh
  obtain rfl : u = Value.ref a := rx
  obtain ⟨od, J, lk⟩ := pin_inst I1 hp hz hf hx
  obtain ⟨u, hu, ru⟩ := lk f v hl
  exact HandSPX.exc_get I1.kIn J T.ga T.gg T.o.exC (PySem.W.findObj_own T.hd hno rfl hu) (handed_of ru) ⟨v, H1, I1.tok _, ru, q⟩
theorem de_xg {fI : Addr} {f : Str} {fs : List (Str × Dt)} (T : ExcT K C fI) (hno : PySem.W.findIn K (.ref C) f = some none) (h : DE K te ρ (.exc a C dd fs)) (hl : fs.lookup f = some d) : DE K (tXg K a (.ref C) (some dd) f te) ρ d := .mk fun O0 B O σ H Q k q => h.run O0 B O σ H _ k fun v H1 s1 r1 => by
  obtain ⟨rfl, xs, h2, h3⟩ := r1
  obtain ⟨w, h4, h5⟩ := h3.look hl
  exact ⟨rfl, C, dd, fI, xs, w, rfl, rfl, T, hno, hid_le _ _ h2, h4, q w H1 s1 h5⟩
end
end DL

/-! DL7: a def called with a caught error as its argument; the __init__ of an error. -/
namespace DL
open PySem PySem.Spec PyProof.Rows L2
section
variable {P : Program} {w : World} {K : PySem.W.Frag} {mg : Str → Option Value} {base : Heap}
/-- self.f = f -/
theorem init_ok {x qual : Str} {params : Arguments} {body : List Stmt} {scope : Scope} {f : Addr} {fd : FuncData} {N ps : List Str} {C : Addr} {fl : Str} (F : FunD K x qual params body scope [] [] f fd) (S : FnScope N ps scope) (hl : ps.length = 2) (T : OexC K C) (hno : PySem.W.findIn K (.ref C) fl = some none)
    (hb : ∀ (cdv : Value) (A : Around) (outer : List Env) (s : Shared) (H : Hp) (E : XK), PSs (cxOf CX0 P w K mg base N qual scope f cdv A outer s H E) body (tOst K fl (tVar 0) (tVar 1))) : FnOk P w K mg base CX0 1 f fd ps (spI1 C fl) := by
  refine F.ok S (fun vs H Q E h => ?_) fun cdv A outer s H vs Q E hr h => ⟨_, hb cdv A outer s H E, ?_⟩
  · obtain ⟨a, v, rfl, _⟩ := h
    rw [hl]
    rfl
  · obtain ⟨a, v, rfl, ha, q⟩ := h
    exact ⟨v, rfl, .ref a, rfl, a, C, rfl, T, hno, .inl ⟨ha, fun dx nx ne => q dx nx ne⟩⟩
/-- what the pinned error's def promises: the one parameter is the error -/
theorem run_exc {name qual : Str} {params : Arguments} {body : List Stmt} {scope : Scope} {f : Addr} {fd : FuncData} {N : List Str} {x : Str} {k : Nat} {A : Around} {outer : List Env} {s : Shared} {H : Hp} {args : Args} {Q : VK} {E : XK} {p : Addr × Obj} {t : TS}
    (F : FunD K name qual params body scope [] [] f fd) (S : FnScope N [x] scope) (hr : L2H.RoomH (k + 1) A) (hpin : L2H.PinOk outer H s p) (e0 : Env0 P w K mg base A outer s H) (hb : BindsTo s fd args [(x, .ref p.1)])
    (hd : ∀ cdv, L2H.RoomH k (A.deeper (envOfC qual scope s.heap.objs.size f cdv)) → PSs (L2H.cxH CX0 P w K mg base N qual scope f cdv A outer s H E p) body t) (hq : t { nx := fun _ H' => Q .non H', rt := Q } (L2.start N [.ref p.1]) H) :
    codeAny (model P w) A (.call (.ref f) args) (CR CX0 outer P w H s Q E) s := by
  obtain ⟨oc, od, dV, kV, doc, pm, an, cdv, ct, osl, rfl, lk, hcd, _, _⟩ := F.ex
  have kin : K.In s.heap := e0.mod.kin.keeps fun b o z => (e0.bs b o z).1
  have nl : s.heap.NoLimit := e0.mod.nolimit.keeps fun b o z => (e0.bs b o z).1
  have one : ∀ y ∈ ([(x, Value.ref p.1)] : List (Str × Value)), scope.names.lookup y.1 = some .local ∨ (scope.names.lookup y.1 = some .cell ∧ ((cellsFrom (s.heap.objs.size + 1) scope.names []).lookup y.1).isSome = true) := by
    intro y hy
    rw [List.mem_singleton] at hy
    subst hy
    rcases S.par x List.mem_cons_self with z | z
    · exact Or.inl z
    · exact Or.inr ⟨z, PySem.W.cellsFrom_some _ _ _ (Or.inl z)⟩
  refine codeAny_call_function hr.depth (kin _ _ lk) rfl S.co S.gen rfl (PySem.W.codeRec_of kin hcd) (hb _ _ _ _ (wpAny_newFunctionEnv_cells S.kind one fun env he s1 ic => ?_))
  subst he
  refine ⟨nl.keeps ic.toInCall.keep, codeAny_func ?_⟩
  have J := L2H.inv_startH (CX := CX0) (E := E) (vs := [.ref p.1]) (us := [.ref p.1]) (ps := [x]) S hpin e0 rfl (.cons rfl .nil) ic
  refine wpAny_mono ((hd cdv (hr.deeper _)).run [] s1 _ H { nx := fun _ H' => Q .non H', rt := Q } J hq) (fun fl s' z => ?_) fun _ _ z => z
  cases fl with
  | next =>
    obtain ⟨σ', H', J', q⟩ := z
    exact ⟨.non, H', J'.os, J'.bare, J'.base, J'.hok, rfl, q⟩
  | ret u =>
    obtain ⟨v, σ', H', J', rv, q⟩ := z
    exact ⟨v, H', J'.os, J'.bare, J'.base, J'.hok, rv, q⟩
  | brk =>
    obtain ⟨_, _, _, q⟩ := z
    exact q.elim
  | cont =>
    obtain ⟨_, _, _, q⟩ := z
    exact q.elim
end
/-- f(e) in a suite, e the pinned error at a -/
def tCallE (a : Addr) (N : List Str) (t : TS) (aa : TA) : TE := fun σ H Q => aa σ H fun vs H1 => vs = [.ref a] ∧ t { nx := fun _ H' => Q .non H', rt := Q } (L2.start N [.ref a]) H1
theorem pe_callE {X : Cx} {name x qual : Str} {params : Arguments} {body : List Stmt} {scope : Scope} {f a : Addr} {oe : Obj} {fd : FuncData} {N : List Str} {k : Nat} {t : TS} {arg : Expr} {aa : TA} {p pos : Pos} (F : FunD X.K name qual params body scope [] [] f fd) (S : FnScope N [x] scope)
    (hr : L2H.RoomH (k + 1) X.A) (hp : (a, oe) ∈ X.pn) (hg : Gl X name) (hm : X.mg name = some (.ref f)) (hb : Binds X.K fd [x] [])
    (hd : ∀ (cdv : Value) (s : Shared) (H : Hp) (E : XK), L2H.RoomH k (X.A.deeper (envOfC qual scope s.heap.objs.size f cdv)) → PSs (L2H.cxH CX0 X.prog X.w X.K X.mg X.base N qual scope f cdv X.A X.stack s H E (a, oe)) body t)
    (ha : PA X [arg] aa) (hdb : (name == ("__debug__" : Str)) = false := by decide) (he : starEach (arg :: []) X.env = (false, eval arg X.env) :: starEach [] X.env := by rfl) (hpl : (backTo pos (starEach [] X.env)).any (·.1) = false := by rfl) :
    PE X (.Call (.Name name p) [arg] [] pos) (tCallE a N t aa) := by
  refine ⟨fun pins s σ H Q I h => wpAny_Call_Name_kw (ld_glob I hg hm ?_ hdb)⟩
  refine PySem.W.callWith_K (h₀ := X.base) I.ok.mod.kin F.kp (thn (ha.run pos pins s σ H _ I h) fun us s1 z => ?_) he hpl
  obtain ⟨vs, H1, I1, r, rfl, q⟩ := z
  refine ⟨I1.kIn, ?_⟩
  obtain ⟨u, rfl, ru⟩ := vals1 r
  obtain rfl : u = Value.ref a := ru
  have P1 := I1.pin (a, oe) (List.mem_append_left _ hp)
  have hpin : L2H.PinOk X.stack H1 s1 (a, oe) := ⟨P1.1, P1.2.1, fun z => (List.mem_cons.mp (I1.stkSub a z)).elim P1.2.2.1 P1.2.2.2.1, P1.2.2.2.2⟩
  have bt := hb s1 [.ref a] I1.kIn rfl
  refine wpAny_call (codeAny_mono (run_exc (E := E0) (Q := Q) F S hr hpin I1.env0 bt (fun cdv rm => hd cdv s1 H1 E0 rm) q) fun rs s' hq => ?_)
  cases rs with
  | error e => exact False.elim hq
  | ok fl =>
    cases fl with
    | ret u => exact I1.after hq
    | next => exact False.elim hq
    | brk => exact False.elim hq
    | cont => exact False.elim hq
theorem de_callE {K : PySem.W.Frag} {ρ : PEnv} {d : Dt} {a C dd : Addr} {fs : List (Str × Dt)} {N : List Str} {t : TS} {aa : TA} (ha : DA K aa ρ [.exc a C dd fs]) (hb : Body K (fun _ _ _ _ => False) t N [.exc a C dd fs] d) : DE K (tCallE a N t aa) ρ d := .mk fun O0 B O σ H Q k q =>
  ha.run O0 B O σ H _ k fun vs H1 s1 r1 => by
    obtain ⟨v, w, rfl, r2, r3⟩ := r1
    obtain rfl : w = [] := r3
    obtain rfl : v = .ref a := r2.1
    have k1 := k.mono s1
    refine ⟨rfl, ?_⟩
    have hO : ∀ p ∈ O0 ++ O, H1 p ≠ none := k1.h.dom
    refine hb.run (O0 ++ O) H1 [] _ H1 _ (ok_start hO ⟨.ref a, [], rfl, r2, rfl⟩) ⟨fun ρ2 O2 σ2 H2 e k2 => ?_, fun _ _ _ _ e => e.elim, fun _ _ _ _ e => e.elim, fun e O2 v2 H2 he k2 rv => ?_, fun _ _ _ _ _ _ _ _ e => e.elim⟩
    · have e' : d = .non := e
      rw [e'] at q
      exact q .non H2 (s1.trans k2.h.ext) rfl
    · have he' : e = d := he
      rw [he'] at rv
      exact q v2 H2 (s1.trans k2.ext) (Rep.mono (hid_sub fun p hp => List.mem_append_left _ hp) _ _ rv)
end DL
namespace DL
open PySem PySem.Spec PyProof.Rows L2
theorem roomS {A : Around} {j k : Nat} (h : Room j A) (l : k ≤ j) (m : Option Value) : L2H.RoomH k (A.mark m) := L2H.RoomH.mono ⟨h.dp, h.un⟩ l
section
variable {X : Cx} {C fI : Addr} {x f : Str} {fd : FuncData} {ps : List Str} {e : Expr} {aa : TA} {W : WX} {p pos pos2 : Pos}
/-- raise C(e) -/
theorem ps_raise1 (hc : X.calm = true) (tk : Takes X W) (T : ExcT X.K C fI) (F1 : FnOk X.prog X.w X.K X.mg X.base CX0 1 fI fd ps (spI1 C f)) (hr : Room 2 X.A) (hb : Binds X.K fd ps []) (hg : Gl X x) (hm : X.mg x = some (.ref C)) (ha : PA X [e] aa)
    (hdb : (x == ("__debug__" : Str)) = false := by decide) (he : starEach (e :: []) X.env = (false, eval e X.env) :: starEach [] X.env := by rfl) (hpl : (backTo pos (starEach [] X.env)).any (·.1) = false := by rfl) :
    PS X (.Raise (some (.Call (.Name x p) [e] [] pos)) none pos2) (tRz C f W aa) :=
  ps_raise hc tk (pmk_oex T.o T.iC T.tI F1 hr hb .nil (fun _ _ _ _ _ _ _ z => z.elim) hg hm ha hdb he hpl)
/-- a call that raises, in a try or in a def that lets it out -/
theorem pe_callR {K : PySem.W.Frag} {R : List Dt → Addr → List (Str × Dt) → Prop} {k : Nat} {g : Addr} {dvs : List V} {ds : List Value} {es : List Expr} (hK : X.K = K) (tk : Takes X W) (F : FnOk X.prog X.w X.K X.mg X.base (L2.CX X.prog X.w) k g fd ps (spR K R)) (hr : Room k X.A) (hg : Gl X x) (hm : X.mg x = some (.ref g)) (hk : PySem.W.keepIn X.K (.ref g) = true) (hb : Binds X.K fd ps ds) (hd : Vals dvs ds)
    (ha : PA X (e :: es) aa) (hdb : (x == ("__debug__" : Str)) = false := by decide) (he : starEach (e :: es) X.env = (false, eval e X.env) :: starEach es X.env := by rfl) (hpl : (backTo pos (starEach es X.env)).any (·.1) = false := by rfl) :
    PE X (.Call (.Name x p) (e :: es) [] pos) (tRaises R K dvs W aa) :=
  pe_callSD (E := fun σ c d H => W c d σ H) F hr hg hm hk hb hd (fun σ => passAt tk σ) ha hdb he hpl
end
/-! ### what the top says, as Bools -/
def oexB (K : PySem.W.Frag) (C : Addr) : Bool := match K.lookup C with
  | some ⟨.type t, _, .cls cd, sl⟩ => decide (t = "type") && (match cd.mro, sl.toList with
    | .ref C' :: bm, [_, _, _, _, some (.builtin n), _] => decide (C' = C) && (decide (n = "ValueError.__new__") && (!cd.hasDel && (cd.hasDict && PySem.HandSPX.refsVE bm)))
    | _, _ => false)
  | _ => false
theorem oexB_ok {K : PySem.W.Frag} {C : Addr} (h : oexB K C = true) : ∃ nm q N bs bm sn sub ab col dd k0 k1 k2 k3 k5, K.lookup C = some (excClassObj nm q C N bs bm true sn sub ab col dd k0 k1 k2 k3 k5 "ValueError.__new__") ∧ PySem.HandSPX.refsVE bm = true := by
  unfold oexB at h
  split at h
  · rename_i t dd cd sl ho
    have z := He.ba h
    clear h
    obtain ⟨h0, h⟩ := z
    have h0 := of_decide_eq_true h0
    subst h0
    split at h
    · rename_i C' bm k0 k1 k2 k3 n k5 hm hs
      obtain ⟨h1, h⟩ := He.ba h
      obtain ⟨h2, h⟩ := He.ba h
      obtain ⟨h3, h⟩ := He.ba h
      obtain ⟨h4, h5⟩ := He.ba h
      have h1 := of_decide_eq_true h1
      have h2 := of_decide_eq_true h2
      subst h1 h2
      obtain ⟨c1, c2, c3, c4, c5, c6, c7, c8, c9, c10, c11⟩ := cd
      simp only [Bool.not_eq_true'] at h3
      dsimp only at hm h3 h4
      subst hm h3 h4
      obtain ⟨l⟩ := sl
      have hs : l = _ := hs
      subst hs
      exact ⟨c1, c5, c4, c2, bm, c7, c8, c9, c10, dd, k0, k1, k2, k3, k5, ho, h5⟩
    · cases h
  · cases h
def exB (K : PySem.W.Frag) (C : Addr) : Bool := oexB K C && (decide (PySem.W.findIn K (.ref C) "__setattr__" = some (some (.builtin "object.__setattr__"))) && (decide (PySem.W.subIn K (.ref C) (.type "BaseException") = some true) && (decide (PySem.W.typeIn K (.ref C) = some (.type "type")) && (PySem.W.keepIn K (.ref C) &&
  (decide (PySem.W.findIn K (.ref C) "__init__" = some (some (.ref (He.ma K C "__init__")))) && (decide (PySem.W.typeIn K (.ref (He.ma K C "__init__")) = some (.type "function")) && ((PySem.W.clsIn K C).isSome && (decide (PySem.W.findIn K (.ref C) "__getattribute__" = some (some (.builtin "BaseException.__getattribute__"))) &&
  (decide (PySem.W.findIn K (.ref C) "__getattr__" = some none) && (PySem.W.hasDictIn K C && (decide (PySem.W.findIn K (.ref C) "__class__" = some (some (.builtin "object.__class__"))) && (decide (PySem.W.specialIn K (.builtin "object.__class__") "__get__" = some (some (.builtin "getset_descriptor.__get__"))) &&
  (decide (PySem.W.takesIn K (.builtin "object.__class__") = some true) && decide (PySem.W.mroIn K C (.type "object") = some true))))))))))))))
theorem exB_ok {K : PySem.W.Frag} {C : Addr} (h : exB K C = true) : ExcT K C (He.ma K C "__init__") := by
  unfold exB at h
  obtain ⟨a1, h⟩ := He.ba h
  obtain ⟨a2, h⟩ := He.ba h
  obtain ⟨a3, h⟩ := He.ba h
  obtain ⟨a4, h⟩ := He.ba h
  obtain ⟨a5, h⟩ := He.ba h
  obtain ⟨a6, h⟩ := He.ba h
  obtain ⟨a7, h⟩ := He.ba h
  obtain ⟨a8, h⟩ := He.ba h
  obtain ⟨a9, h⟩ := He.ba h
  obtain ⟨b1, h⟩ := He.ba h
  obtain ⟨b2, h⟩ := He.ba h
  obtain ⟨b3, h⟩ := He.ba h
  obtain ⟨b4, h⟩ := He.ba h
  obtain ⟨b5, b6⟩ := He.ba h
  exact ⟨⟨oexB_ok a1, of_decide_eq_true a2, of_decide_eq_true a3, of_decide_eq_true a4, a5⟩, of_decide_eq_true a6, of_decide_eq_true a7, a8, of_decide_eq_true a9, of_decide_eq_true b1, b2, of_decide_eq_true b3, of_decide_eq_true b4, of_decide_eq_true b5, of_decide_eq_true b6⟩
end DL

/-! DL8: the functions that the head shows, by address; a law's promise over data. -/
namespace DL
open PySem PySem.Spec PyProof.Rows L2
/-- the function object at a -/
def fdAt (K : PySem.W.Frag) (a : Addr) : FuncData := match K.lookup a with
  | some ⟨_, _, .func fd, _⟩ => fd
  | _ => default
theorem fdAt_of {K : PySem.W.Frag} {x qual : Str} {params : Arguments} {body : List Stmt} {scope : Scope} {dvs : List V} {kws : List (Str × V)} {f : Addr} {fd : FuncData} (F : FunD K x qual params body scope dvs kws f fd) : fdAt K f = fd := by
  obtain ⟨oc, od, dV, kV, doc, pm, an, cdv, ct, osl, e, lk, _⟩ := F.ex
  unfold fdAt
  rw [lk]
theorem funAt {K : PySem.W.Frag} {x qual : Str} {params : Arguments} {body : List Stmt} {scope : Scope} {dvs : List V} {kws : List (Str × V)} {f : Addr} (h : ∃ fd, FunD K x qual params body scope dvs kws f fd) : FunD K x qual params body scope dvs kws f (fdAt K f) := by
  obtain ⟨fd, F⟩ := h
  rw [fdAt_of F]
  exact F
/-- the law's promise at a script -/
theorem law_sp {K : PySem.W.Frag} {R : List Dt → Dt → Prop} {n : Nat} (hR : ∀ ns : List Int, ns.length ≤ n → R [.lst (ns.map .int)] (.bl true)) (H : Hp) (a : Addr) (ns : List Int) (hl : ns.length ≤ n) (hS : SqL K H a (ns.map V.int)) : spD K R [.ref a] H (fun v _ => v = .bl true) fun _ _ _ => False := by
  have e : hid [] H = H := funext fun p => hid_out (List.not_mem_nil)
  refine ⟨[], [.lst (ns.map .int)], .bl true, fun p hp => absurd hp List.not_mem_nil, ?_, hR ns hl, fun v H' _ r => r⟩
  rw [e]
  exact ⟨.ref a, [], rfl, ⟨a, ns.map V.int, rfl, hS, reps_of_ints ns⟩, rfl⟩
end DL

/-! DL9: enumerate over a list or a tuple. -/
namespace DL
open PySem PySem.Spec PyProof.Rows L2
/-- enumerate(v), where iter(v) is one new object -/
theorem meets_enum1 {v : Value} {ob : Obj} {St0 : Heap → Prop} (Bg : Begins v ob St0) :
    Meets (Builtin.«enumerate.__new__» ⟨[.type "enumerate", v], []⟩) (fun _ R s => St0 s.heap ∧ R (.ok (.ret (.ref (s.heap.push ob).objs.size))) { s with heap := (s.heap.push ob).push { cls := .type "enumerate", data := .fields #[.none, .bool false, .ref s.heap.objs.size, rawInt 0, .none, .none] } }) :=
  .of_wp fun prog w A R s hh => by
    obtain ⟨hp, gg, dd, tk, os⟩ := s
    obtain ⟨h1, hh⟩ := hh
    have hsub1 := sub_enumerate
    have qi : ∀ {A' : Around} {E' : Value → Shared → Prop} {Q' : Value → Shared → Prop}, Q' (.ref hp.objs.size) ⟨hp.push ob, gg, dd, tk, os⟩ → wpAny (model prog w) A' (pyIter v) Q' E' ⟨hp, gg, dd, tk, os⟩ := fun q => Bg.iter prog w _ _ ⟨hp, gg, dd, tk, os⟩ _ h1 q
    wp_walk using qi
    refine wpAny_stack_any fun stk => wpAny_pure ?_
    split
    · rename_i c _ _ _ _ _
      cases (c == Value.type "enumerate")
      · wp_walk using qi
        exact ⟨_, rfl, hh⟩
      · wp_walk using qi
        exact ⟨_, rfl, hh⟩
    · wp_walk using qi
      exact ⟨_, rfl, hh⟩
section
variable {prog : Program} {w : World} {A : Around} {E : Value → Shared → Prop} {s : Shared}
theorem call_enum1 {v : Value} {ob : Obj} {St0 : Heap → Prop} {Q : Value → Shared → Prop} (Bg : Begins v ob St0) (h1 : St0 s.heap)
    (hq : ∀ g, IsEnum g (s.heap.objs.size + 1) s.heap.objs.size 0 .none → g.get? s.heap.objs.size = some ob → g.objs.size = s.heap.objs.size + 2 → (∀ b o, s.heap.get? b = some o → g.get? b = some o) → Q (.ref (s.heap.objs.size + 1)) { s with heap := g }) :
    wpAny (model prog w) A (call (.type "enumerate") [v]) Q E s := by
  refine callType_new F.called_enumerate (by decide) (F.typeCall_enumerate_1 _) (F.newCall_enumerate_1 _) (fun nw => F.args_object_init_2 nw _) F.entry_enumerate_new (meets_enum1 Bg) ⟨h1, ?_⟩
  have sz : (s.heap.push ob).objs.size = s.heap.objs.size + 1 := Heap.size_push ..
  show _ ∧ _
  rw [sz]
  have isE : IsEnum ((s.heap.push ob).push { cls := .type "enumerate", data := .fields #[.none, .bool false, .ref s.heap.objs.size, rawInt 0, .none, .none] }) (s.heap.objs.size + 1) s.heap.objs.size 0 .none := by
    have z := Heap.get?_push_size (s.heap.push ob) (o := { cls := .type "enumerate", data := .fields #[.none, .bool false, .ref s.heap.objs.size, rawInt 0, .none, .none] }) rfl
    rw [sz] at z
    exact z
  exact ⟨⟨_, isE, rfl⟩, hq _ isE (Heap.get?_push_of_some _ (Heap.get?_push_size _ Bg.free)) (by rw [Heap.size_push, sz]) fun b o z => Heap.get?_push_of_some _ (Heap.get?_push_of_some _ z)⟩
end
/-- the tuple at a as it stands at each turn, each item in a new pair -/
def IteT (K : PySem.W.Frag) (a : Addr) : It :=
  ⟨fun i H => ∃ (xs : List V) (x : V), SqT K H a xs ∧ xs[i]? = some x, fun i H v H' => ∃ T x, v = .ref T ∧ H T = none ∧ H' = upd H T (.tup [.int (i : Nat), x]) ∧ ∀ xs, SqT K H a xs → xs[i]? = some x, fun i H => ∃ xs : List V, SqT K H a xs ∧ xs.length ≤ i⟩
theorem turn_enumT {P : Program} {w : World} {K : PySem.W.Frag} {elts : List Expr} {kk : Nat} {tpos : Pos} (a e it : Addr) :
    Turn P w K (.Tuple elts kk tpos) (IteT K a) [e, it] e (fun i g => (∃ old, IsEnum g e it ((i : Nat) : Int) old) ∧ g.IsTupleIter it a i ∧ e ≠ it) where
  mem := by simp
  obj := fun i g st b hb => by
    obtain ⟨⟨old, he⟩, ⟨o, ho, hc, hd⟩, _⟩ := st
    rcases (by simpa using hb : b = e ∨ b = it) with z | z
    · rw [z]
      exact ⟨_, he, fun v q => nomatch q⟩
    · rw [z]
      exact ⟨o, ho, fun v q => by rw [hd] at q; cases q⟩
  keep := fun i g g' st k => by
    obtain ⟨⟨old, he⟩, hi, hne⟩ := st
    exact ⟨⟨old, k e (by simp) _ he⟩, hi.at fun o q => k it (by simp) o q, hne⟩
  item := by
    intro X hP hw hK hc i pins s σ H E I hf st hg
    subst hP hw hK
    obtain ⟨⟨old, he⟩, hit, hne⟩ := st
    obtain ⟨xs, x, hq, hx⟩ := hg
    obtain ⟨its, rv, p, _⟩ := I.tuple hq
    obtain ⟨u, hu, ru⟩ := rv.get hx
    have hel : e < s.heap.objs.size := Heap.lt_size he
    have hil : it < s.heap.objs.size := by
      obtain ⟨_, q, _⟩ := hit
      exact Heap.lt_size q
    have hlen : i < its.length := (List.getElem?_eq_some_iff.mp hu).1
    have ne2 : a ≠ it := fun z => by
      obtain ⟨o, ho, hc2, _⟩ := hit
      obtain ⟨o2, ho2, hc3, _⟩ := p
      rw [z, ho] at ho2
      cases ho2
      rw [hc2] at hc3
      exact absurd (Value.type.inj hc3) (by decide)
    have nea : e ≠ a := fun z => by
      obtain ⟨o2, ho2, hc3, _⟩ := p
      have he2 := he
      unfold IsEnum at he2
      rw [z, ho2] at he2
      cases he2
      exact absurd (Value.type.inj hc3) (by decide)
    have D := (Draws.tuple (prog := X.prog) (w := X.w) (A := X.A.in1) (I.ok.hd hc) it a ne2 its.toArray)
    refine wpAny_pyNext_enum_itemC (c := (i : Int)) D he ⟨hit, p⟩ (by simpa using hlen) hne (by simp [hne, nea]) fun x' g tk hP ho hit' hT hsz hk => ?_
    have ex : x' = u := by
      have z : its[i]? = some x' := by simpa using hP
      exact Option.some.inj (z.symm.trans hu)
    subst ex
    refine ⟨_, rfl, wpAny_letOwnedTupleGo_enum (s := { s with heap := g, toks := tk + 1 }) ho fun g2 he' sb => ?_⟩
    have hT2 : g2.get? s.heap.objs.size = some { cls := .type "tuple", data := .seq #[.int i tk, x'] } := (sb.2 _ (Nat.ne_of_gt hel)).trans hT
    have fresh : ObjOk X.prog X.w (upd H s.heap.objs.size (.tup [.int (i : Nat), x])) g2 s.heap.objs.size (.tup [.int (i : Nat), x]) := ⟨by show 2 ≤ sizeLine; decide, [.int i tk, x'], .cons ⟨_, rfl⟩ (.cons ru .nil), ⟨_, hT2, rfl, _, rfl⟩⟩
    have I1 : Inv X pins σ (upd H s.heap.objs.size (.tup [.int (i : Nat), x])) { s with heap := g2, toks := tk + 1 } :=
      I.turnedNew (ch := [e, it]) (fun b ob hb q => (sb.2 b (fun z => hb (by simp [z]))).trans (hk b ob (fun z => hb (by simp [z])) (fun z => hb (by simp [z])) q)) hf (Nat.le_refl _) fresh
    refine ⟨.ref s.heap.objs.size, _, I1, rfl, ⟨_, x, rfl, I.hok.fresh (Nat.le_refl _), rfl, fun ys hy => by rw [I.tuple_inj hy hq]; exact hx⟩, ⟨⟨x', ?_⟩, hit'.1.at fun o q => (sb.2 it (Ne.symm hne)).trans q, hne⟩, fun b hb => ?_⟩
    · have e1 : ((i + 1 : Nat) : Int) = (i : Int) + 1 := by omega
      rw [e1]
      exact he'
    · have hb' : b < s.heap.objs.size := by
        rcases (by simpa using hb : b = e ∨ b = it) with z | z
        · rw [z]; exact hel
        · rw [z]; exact hil
      rw [upd_ne (Nat.ne_of_lt hb')]
      exact (hf b hb).1
  done := by
    intro X hP hw hK hc i pins s σ H E I hf st hg
    subst hP hw hK
    obtain ⟨⟨old, he⟩, hit, hne⟩ := st
    obtain ⟨xs, hq, hx⟩ := hg
    obtain ⟨its, rv, p, _⟩ := I.tuple hq
    have hl := rv.length
    have ne2 : a ≠ it := fun z => by
      obtain ⟨o, ho, hc2, _⟩ := hit
      obtain ⟨o2, ho2, hc3, _⟩ := p
      rw [z, ho] at ho2
      cases ho2
      rw [hc2] at hc3
      exact absurd (Value.type.inj hc3) (by decide)
    have hT : s.TypeIs (.ref e) "enumerate" := ⟨_, he, rfl⟩
    unfold pyNext
    refine wpAny_bind (wpAny_attempt (wpAny_callSpecial?_slot (name := Str.ofString "__next__") hT F.slot_enumerate_next (wpAny_call_entry F.slot_enumerate_next hT F.entry_enumerate_next ?_ (F.args_enumerate_next_1 _))))
    show wpAny _ _ (field (.ref e) 2 >>= _) _ _ _
    refine wpAny_bind (wpAny_field he rfl (x := .ref it) rfl ?_)
    have iend : its.toArray[i]? = none := by simp; omega
    refine wpAny_bind (wpAny_nextOf_tuple_end (A := X.A.in1) (I.ok.hd hc) hit p iend fun g xe hg2 hx2 => ?_)
    obtain ⟨o, ho, hcl⟩ := hx2
    refine wpAny_bind (wpAny_isInstance (T := "StopIteration") (b := true) ⟨o, ho, hcl⟩ isSubtype_stop ?_)
    exact wpAny_pure ⟨rfl, I.turnedL (t' := s.toks) (ch := [e, it]) (fun b o hb q => hg2 b o (fun z => hb (by simp [z])) q) hf⟩
  self := fun A i s Q E st hQ => by
    obtain ⟨⟨_, he⟩, _⟩ := st
    exact wpAny_pyIter_enum he hQ
def iEnumA (K : PySem.W.Frag) (ta : TA) : TI := fun σ H R => ta σ H fun vs H1 => ∃ a, vs = [.ref a] ∧ ((∃ xs, SqL K H1 a xs ∧ R (Ite K a) H1) ∨ (∃ xs, SqT K H1 a xs ∧ R (IteT K a) H1))
theorem pi_enumA {X : Cx} {e : Expr} {ta : TA} {p pos tpos : Pos} {elts : List Expr} {kk : Nat} (hg : Gl X "enumerate") (hm : X.mg "enumerate" = none) (ha : PA X [e] ta) (hs : starEach [e] X.env = [(false, eval e X.env)] := by rfl) :
    PI X (.Tuple elts kk tpos) (.Call (.Name "enumerate" p) [e] [] pos) (iEnumA X.K ta) := by
  refine ⟨fun pins s σ H R I h => ?_⟩
  refine Call_ (ld_blt I hg hm boot_enumerate (PyProof.Rows.callWith_type1 (thn (ha.run pos pins s σ H _ I h) fun us s1 ⟨vs, H1, I1, r1, q1⟩ => ?_) hs rfl))
  obtain ⟨a, ex, q1⟩ := q1
  subst ex
  cases r1 with
  | cons r rr =>
    cases rr
    cases r
    have fp2 : ∀ b, b ∈ [s1.heap.objs.size + 1, s1.heap.objs.size] → FpOk X pins H1 b := fun b hb => by
      have hle : s1.heap.objs.size ≤ b := by
        rcases (by simpa using hb : b = s1.heap.objs.size + 1 ∨ b = s1.heap.objs.size) with z | z <;> omega
      exact I1.fpOk hle (I1.hok.fresh hle)
    rcases q1 with ⟨xs, hq, q⟩ | ⟨xs, hq, q⟩
    · obtain ⟨its, rv, p', _⟩ := I1.list hq
      refine call_enumerate_list p'.isList fun g he hit hsz hk => wpAny_pyIter_enum he ?_
      exact ⟨s1.heap.objs.size + 1, [s1.heap.objs.size + 1, s1.heap.objs.size], _, _, H1, rfl, I1.kept (t' := s1.toks) hk, turn_enum a (s1.heap.objs.size + 1) s1.heap.objs.size, ⟨⟨.none, he⟩, hit, Nat.succ_ne_self _⟩, fp2, q⟩
    · obtain ⟨its, rv, p', _⟩ := I1.tuple hq
      refine call_enum1 (begins_tuple a its.toArray) p' fun g he hit hsz hk => wpAny_pyIter_enum he ?_
      exact ⟨s1.heap.objs.size + 1, [s1.heap.objs.size + 1, s1.heap.objs.size], _, _, H1, rfl, I1.kept (t' := s1.toks) hk, turn_enumT a (s1.heap.objs.size + 1) s1.heap.objs.size, ⟨⟨.none, he⟩, ⟨_, hit, rfl, rfl⟩, Nat.succ_ne_self _⟩, fp2, q⟩
theorem pi_enumK {X : Cx} {K : PySem.W.Frag} (hK : X.K = K) {e : Expr} {ta : TA} {p pos tpos : Pos} {elts : List Expr} {kk : Nat} (hg : Gl X "enumerate") (hm : X.mg "enumerate" = none) (ha : PA X [e] ta) (hs : starEach [e] X.env = [(false, eval e X.env)] := by rfl) :
    PI X (.Tuple elts kk tpos) (.Call (.Name "enumerate" p) [e] [] pos) (iEnumA K ta) := by
  subst hK
  exact pi_enumA hg hm ha hs
section
variable {K : PySem.W.Frag} {ρ : PEnv}
theorem di_enumL {ta : TA} {ds : List Dt} (h : DA K ta ρ [.lst ds]) : DI K (iEnumA K ta) ρ (enumD ds) := .mk fun O0 B O σ H R k q => h.run O0 B O σ H _ k fun vs H1 s1 r1 => by
  obtain ⟨v, w, rfl, ⟨a, xs, rfl, h1, h2⟩, h5⟩ := r1
  obtain rfl : w = [] := h5
  have h1' : SqL K (hid O H1) a xs := by rw [nxEq] at h1; exact hid_le.seq h1
  refine ⟨a, rfl, .inl ⟨xs, hid_le.seq h1, q _ H1 s1 ⟨fun i d Z O1 H hz hd s k1 => ?_, fun H s => ⟨xs, s.seq h1', ?_⟩⟩⟩⟩
  · unfold enumD at hd
    rw [List.getElem?_mapIdx] at hd
    obtain ⟨d1, g1, rfl⟩ := Option.map_eq_some_iff.mp hd
    obtain ⟨x, g3, g4⟩ := h2.get g1
    refine ⟨⟨xs, x, s.seq h1', g3⟩, fun v H' hy => ?_⟩
    obtain ⟨T, x2, rfl, hT, rfl, f1⟩ := hy
    have e2 : x2 = x := Option.some.inj ((f1 xs (s.seq h1')).symm.trans g3)
    subst e2
    exact ⟨same_upd hT, pair_rep k1 hT rfl (Rep.mono (know2 k1 hz) _ _ g4)⟩
  · unfold enumD
    rw [List.length_mapIdx, h2.length]
    exact Nat.le_refl _
theorem di_enumT {ta : TA} {ds : List Dt} (h : DA K ta ρ [.tup ds]) : DI K (iEnumA K ta) ρ (enumD ds) := .mk fun O0 B O σ H R k q => h.run O0 B O σ H _ k fun vs H1 s1 r1 => by
  obtain ⟨v, w, rfl, ⟨a, xs, rfl, h1, h2⟩, h5⟩ := r1
  obtain rfl : w = [] := h5
  have h1' : SqT K (hid O H1) a xs := by rw [nxEq] at h1; exact Same.seqT hid_le h1
  refine ⟨a, rfl, .inr ⟨xs, Same.seqT hid_le h1, q _ H1 s1 ⟨fun i d Z O1 H hz hd s k1 => ?_, fun H s => ⟨xs, Same.seqT s h1', ?_⟩⟩⟩⟩
  · unfold enumD at hd
    rw [List.getElem?_mapIdx] at hd
    obtain ⟨d1, g1, rfl⟩ := Option.map_eq_some_iff.mp hd
    obtain ⟨x, g3, g4⟩ := h2.get g1
    refine ⟨⟨xs, x, Same.seqT s h1', g3⟩, fun v H' hy => ?_⟩
    obtain ⟨T, x2, rfl, hT, rfl, f1⟩ := hy
    have e2 : x2 = x := Option.some.inj ((f1 xs (Same.seqT s h1')).symm.trans g3)
    subst e2
    exact ⟨same_upd hT, pair_rep k1 hT rfl (Rep.mono (know2 k1 hz) _ _ g4)⟩
  · unfold enumD
    rw [List.length_mapIdx, h2.length]
    exact Nat.le_refl _
end
end DL

/-! DL10: lists of owned lists: made by a comprehension, an inner item set. -/
namespace DL
open PySem PySem.Spec PyProof.Rows L2
section
variable {K : PySem.W.Frag} {O0 O : List Addr} {H G : Hp}
theorem Rows.length : ∀ {rows : List (List Dt)} {as : List Addr}, Rows K G O H rows as → rows.length = as.length
  | [], _, h => by
    have h' : _ = [] := h
    subst h'
    rfl
  | ds :: rs, _, ⟨a, r, ys, e, _, _, _, ht⟩ => by
    subst e
    rw [List.length_cons, List.length_cons, Rows.length ht]
theorem Rows.get : ∀ {rows : List (List Dt)} {as : List Addr} {j : Nat} {ds : List Dt}, Rows K G O H rows as → rows[j]? = some ds → ∃ a ys, as[j]? = some a ∧ a ∈ O ∧ H a = some (.lst ys) ∧ Reps K G ds ys
  | [], _, j, _, _, e => by simp at e
  | ds :: rs, _, 0, _, ⟨a, r, ys, e, h1, h2, h3, _⟩, e2 => by
    subst e
    have e3 : ds = _ := Option.some.inj e2
    subst e3
    exact ⟨a, ys, rfl, h1, h2, h3⟩
  | ds :: rs, _, j + 1, _, ⟨a, r, ys, e, _, _, _, ht⟩, e2 => by
    subst e
    exact Rows.get (j := j) ht e2
theorem Rows.snoc : ∀ {rows : List (List Dt)} {as : List Addr} {a : Addr} {ds : List Dt} {ys : List V}, Rows K G O H rows as → a ∈ O → H a = some (.lst ys) → Reps K G ds ys → Rows K G O H (rows ++ [ds]) (as ++ [a])
  | [], _, a, ds, ys, h, h1, h2, h3 => by
    have h' : _ = [] := h
    subst h'
    exact ⟨a, [], ys, rfl, h1, h2, h3, rfl⟩
  | es :: rs, _, a, ds, ys, ⟨b, r, zs, e, g1, g2, g3, ht⟩, h1, h2, h3 => by
    subst e
    exact ⟨b, r ++ [a], zs, rfl, g1, g2, g3, Rows.snoc ht h1 h2 h3⟩
theorem Rows.upd {a : Addr} {es : List Dt} {zs : List V} : ∀ {rows : List (List Dt)} {as : List Addr} {j : Nat}, Rows K G O H rows as → as[j]? = some a → as.Nodup → Reps K G es zs → Rows K G O (L2.upd H a (.lst zs)) (rows.set j es) as
  | [], _, j, h, e, _, _ => by
    have h' : _ = [] := h
    subst h'
    simp at e
  | ds :: rs, _, 0, ⟨b, r, ys, e, h1, h2, h3, ht⟩, e2, nd, hr => by
    subst e
    have e3 : b = a := Option.some.inj e2
    subst e3
    refine ⟨b, r, zs, rfl, h1, upd_same, hr, ht.imp (Same.refl G) fun c hc hO => ⟨hO, fun o q => ?_⟩⟩
    rw [upd_ne fun z => (List.nodup_cons.mp nd).1 (by rw [← z]; exact hc)]
    exact q
  | ds :: rs, _, j + 1, ⟨b, r, ys, e, h1, h2, h3, ht⟩, e2, nd, hr => by
    subst e
    have e3 : r[j]? = some a := e2
    refine ⟨b, r, ys, rfl, h1, ?_, h3, Rows.upd (j := j) ht e3 (List.nodup_cons.mp nd).2 hr⟩
    rw [upd_ne fun z => (List.nodup_cons.mp nd).1 (by rw [z]; exact List.mem_of_getElem? e3)]
    exact h2
end
section
variable {K : PySem.W.Frag} {ρ : PEnv} {ta tb te : TE} {d : Dt} {W : WX} {D : DEnds} {tu : TS}
/-- a new list of new lists -/
structure DM (K : PySem.W.Frag) (te : TE) (ρ : PEnv) (rows : List (List Dt)) : Prop where
  run : ∀ (O0 : List Addr) (B : Hp) (O : List Addr) (σ : L2.St) (H : Hp) (Q : VK), Ok K O0 B O σ ρ H →
  (∀ p as H', Same H H' → (∀ a ∈ p :: as, H a = none) → H' p = some (.lst (as.map V.ref)) → (p :: as).Nodup → Rows K (hid (O0 ++ ((p :: as) ++ O)) H') as H' rows as → Q (.ref p) H') → te σ H Q
theorem dm_is {rows rows' : List (List Dt)} (h : DM K te ρ rows) (e : rows = rows') : DM K te ρ rows' := by rw [← e]; exact h
theorem es_setOwn2 {i : Nat} {rows : List (List Dt)} (h : DM K te ρ rows) (q : D.nx (ρ.set i (.own2 rows))) : ES K W (tAsg te (gName i)) ρ D := .mk fun O0 B O σ H G k r =>
  h.run O0 B O σ H _ k fun p as H' s hn hp nd hr => r.nx _ ((p :: as) ++ O) _ H' q (k.give (N := p :: as) hn s (fun b hb => by
    rcases List.mem_cons.mp hb with z | z
    · rw [z, hp]; exact fun z => nomatch z
    · exact (hr.mem z).2) (fun _ => ⟨p, as, rfl, List.mem_cons_self, hp, nd, hr.imp (Same.refl _) fun a ha _ => ⟨List.mem_append_left _ (List.mem_cons_of_mem _ ha), fun o q => q⟩⟩) fun b hb => by
    obtain ⟨p', as', e1, e2, e3⟩ := hb
    have e : p = p' := by injection (Option.some.inj (Option.some.inj e1))
    subst e
    rw [hp] at e2
    have e4 : as.map V.ref = as'.map V.ref := by injection (Option.some.inj e2)
    have e5 : as = as' := List.map_inj_right (fun _ _ z => by injection z) |>.mp e4
    rw [e5]
    exact e3)
theorem s_setOwn2 {i : Nat} {rows : List (List Dt)} (h : DM K te ρ rows) (q : ES K W tu (ρ.set i (.own2 rows)) D) : ES K W (tSeq (tAsg te (gName i)) tu) ρ D := es_seq (es_setOwn2 h q)
/-- x[n][m] = e -/
theorem es_setIx2 {i : Nat} {rows : List (List Dt)} {ds : List Dt} {n m : Int} {j l : Nat} (h : ρ[i]? = some (.own2 rows)) (he : DE K te ρ d) (ha : DE K ta ρ (.int n)) (hb : DE K tb ρ (.int m)) (hj : ixN rows.length n = some j) (hd : rows[j]? = some ds) (hl : ixN ds.length m = some l)
    (q : D.nx (ρ.set i (.own2 (rows.set j (ds.set l d))))) : ES K W (tAsg te (gSub (tOp (rIx K) (tVar i) ta) tb rSetL)) ρ D := .mk fun O0 B O σ H G k r => by
  obtain ⟨p, as, h1, h2, h3, h4, h5⟩ := k.sl i _ h
  refine he.run O0 B O σ H _ k fun v H1 s1 r1 => ⟨.ref p, h1, ha.run O0 B O σ H1 _ (k.mono s1) fun w H2 s2 r2 => .inl ?_⟩
  obtain ⟨a, ys, g1, g2, g3, g4⟩ := h5.get hd
  have s12 := s1.trans s2
  refine ⟨p, as.map V.ref, n, .ref a, rfl, r2, .inl (.inl (s12 _ _ h3)), by
    unfold atI
    rw [List.length_map, ← h5.length, hj]
    show (as.map V.ref)[j]? = _
    rw [List.getElem?_map, g1]
    rfl, ?_⟩
  refine hb.run O0 B O σ H2 _ (k.mono s12) fun w2 H3 s3 r3 => ⟨a, ys, m, l, rfl, r3, (s12.trans s3) _ _ g3, by rw [g4.length]; exact hl, ?_⟩
  have sA := s12.trans s3
  have kA := k.mono sA
  have eu : hid (O0 ++ O) (L2.upd H3 a (.lst (ys.set l v))) = hid (O0 ++ O) H3 := hid_upd (List.mem_append_right _ g2)
  have hpa : p ≠ a := fun z => (List.nodup_cons.mp h4).1 (by rw [z]; exact List.mem_of_getElem? g1)
  have rows3 : Rows K (hid (O0 ++ O) H3) O H3 rows as := h5.imp (hid_mono sA) fun b _ hO => ⟨hO, fun o q => sA _ _ q⟩
  refine r.nx _ O _ _ q (kA.mutG h (s := .own2 rows) (t := .own2 (rows.set j (ds.set l d))) ⟨p, as, h1, sA _ _ h3, List.mem_cons_of_mem _ (List.mem_of_getElem? g1)⟩ g2 ⟨p, as, h1, h2, by rw [upd_ne hpa]; exact sA _ _ h3, h4, ?_⟩ fun b hb => ?_)
  · rw [eu]
    exact rows3.upd g1 (List.nodup_cons.mp h4).2 ((Reps.mono (hid_mono sA) _ _ g4).set l (Rep.mono (hid_mono (s2.trans s3)) d v r1))
  · obtain ⟨p', as', e1, e2, e3⟩ := hb
    have e := e1
    rw [h1] at e
    have e' : p = p' := by injection (Option.some.inj (Option.some.inj e))
    subst e'
    rw [upd_ne hpa] at e2
    exact ⟨p, as', h1, e2, e3⟩
theorem s_setIx2 {i : Nat} {rows : List (List Dt)} {ds : List Dt} {n m : Int} {j l : Nat} (h : ρ[i]? = some (.own2 rows)) (he : DE K te ρ d) (ha : DE K ta ρ (.int n)) (hb : DE K tb ρ (.int m)) (hj : ixN rows.length n = some j) (hd : rows[j]? = some ds) (hl : ixN ds.length m = some l)
    (q : ES K W tu (ρ.set i (.own2 (rows.set j (ds.set l d)))) D) : ES K W (tSeq (tAsg te (gSub (tOp (rIx K) (tVar i) ta) tb rSetL)) tu) ρ D := es_seq (es_setIx2 h he ha hb hj hd hl q)
/-- x[n][m], read -/
theorem de_ix2 {i : Nat} {rows : List (List Dt)} {ds : List Dt} {n m : Int} (h : ρ[i]? = some (.own2 rows)) (ha : DE K ta ρ (.int n)) (hb : DE K tb ρ (.int m)) (hj : atI rows n = some ds) (hl : atI ds m = some d) : DE K (tOp (rIx K) (tOp (rIx K) (tVar i) ta) tb) ρ d := .mk fun O0 B O σ H Q k q => by
  obtain ⟨p, as, h1, h2, h3, h4, h5⟩ := k.sl i _ h
  unfold atI at hj hl
  obtain ⟨j, j1, j2⟩ := Option.bind_eq_some_iff.mp hj
  obtain ⟨l, l1, l2⟩ := Option.bind_eq_some_iff.mp hl
  obtain ⟨a, ys, g1, g2, g3, g4⟩ := h5.get j2
  obtain ⟨u, u1, u2⟩ := g4.get l2
  refine ⟨.ref p, h1, ha.run O0 B O σ H _ k fun v H1 s1 r1 => .inl ?_⟩
  refine ⟨p, as.map V.ref, n, .ref a, rfl, r1, .inl (.inl (s1 _ _ h3)), by
    unfold atI
    rw [List.length_map, ← h5.length, j1]
    show (as.map V.ref)[j]? = _
    rw [List.getElem?_map, g1]
    rfl, ?_⟩
  refine hb.run O0 B O σ H1 _ (k.mono s1) fun w H2 s2 r2 => .inl ⟨a, ys, m, u, rfl, r2, .inl (.inl ((s1.trans s2) _ _ g3)), by
    unfold atI
    rw [g4.length, l1]
    exact u1, q u H2 (s1.trans s2) (Rep.mono (hid_mono (s1.trans s2)) d u u2)⟩
theorem Wk.give2e {rs : List (List Dt)} {r s : PEnv} {e : Dt} (he : Dt.lst (rs.map Dt.lst) = e) (h : Wk r s) : Wk (.own2 rs :: r) (.dat e :: s) := by
  subst he
  exact Wk.give2 h
theorem Ok.hidUpd {O0 O : List Addr} {B H : Hp} {σ : L2.St} {p : Addr} {o : HO} (k : Ok K O0 B O σ ρ H) (hp : p ∈ O0) (hB : B p = none) : Ok K O0 B O σ ρ (L2.upd H p o) := by
  have hu : hid (O0 ++ O) (L2.upd H p o) = hid (O0 ++ O) H := hid_upd (List.mem_append_left _ hp)
  have keep : ∀ q, q ∈ O → ∀ u, H q = some u → L2.upd H p o q = some u := fun q hq u e => by
    rw [upd_ne fun z => k.h.no0 q hq (by rw [z]; exact hp)]
    exact e
  refine ⟨⟨fun q hq z => ?_, same_mut k.h.ext hB, k.h.fr, k.h.no0⟩, k.len, fun j sl hj => (k.sl j sl hj).imp (fun a u e => by rw [hu]; exact e) fun q hq _ => ⟨hq, keep q hq⟩, fun i j a b q h1 h2 h3 h4 => k.dis i j a b q h1 h2 (h3.back (k.sl i a h1) fun p hp _ => keep p hp) (h4.back (k.sl j b h2) fun p hp _ => keep p hp)⟩
  by_cases e : q = p
  · subst e
    rw [upd_same] at z; cases z
  · rw [upd_ne e] at z
    exact k.h.dom q hq z
/-- [a new list for target in iter] -/
theorem dm_lcA {α : Type} {ti : TI} {g : TG} {vs : List Nat} (qs : List α) (F : α → Dt) (G : α → List Dt) (hi : DI K ti ρ (qs.map F)) (hl : qs.length < sizeLine)
    (hs : ∀ (i : Nat) (q : α), qs[i]? = some q → ∃ τ, DGW K vs g (F q) (wipeE ρ vs) τ ∧ DL K te τ (G q)) : DM K (tLc ti g tYes te vs) ρ (qs.map G) := .mk fun O0 B O σ H Q k q => hi.run O0 B O σ H _ k fun J H1 s1 it => by
  intro D hD
  have k1 := (k.mono s1).deep.wipe vs
  have k2 := k1.addHid (H' := L2.upd H1 D (.lst [])) hD (same_upd hD) (by rw [upd_same]; exact fun z => nomatch z)
  refine ⟨fun i m H' => m + i = qs.length ∧ ∃ as Z, (∀ p, p ∈ Z ↔ p ∈ as ∨ p = D ∨ p ∈ O0) ∧ Ok K Z (hid O H1) O (L2.wipe σ vs) (wipeE ρ vs) H' ∧ Same H1 (fun a => if a = D then none else H' a) ∧ H' D = some (.lst (as.map V.ref)) ∧ (D :: as).Nodup ∧ (∀ a ∈ as, H1 a = none) ∧ Rows K (hid (Z ++ O) H') as H' ((qs.take i).map G) as,
    ⟨qs.length, rfl, [], D :: O0, fun p => by simp, k2, fun a o e => ?_, upd_same, by simp, (fun a ha => absurd ha List.not_mem_nil), rfl⟩, ?_⟩
  · have ha : a ≠ D := fun z => by rw [z, hD] at e; cases e
    show (if a = D then none else L2.upd H1 D (.lst []) a) = some o
    rw [if_neg ha, upd_ne ha]
    exact e
  · rintro i m H' ⟨em, as, Z, hZ, k3, sm, ha, nd, hf, hr⟩
    have zD : D ∈ Z := (hZ D).mpr (.inr (.inl rfl))
    have ez : ∀ p ∈ Z, p ∈ O0 ∨ H1 p = none := fun p hp => by
      rcases (hZ p).mp hp with z | z | z
      · exact .inr (hf p z)
      · exact .inr (by rw [z]; exact hD)
      · exact .inl z
    by_cases hlt : i < qs.length
    · have e1 : (qs.map F)[i]? = some (F qs[i]) := by rw [List.getElem?_map, List.getElem?_eq_getElem hlt]; rfl
      obtain ⟨go, yl⟩ := it.step i _ Z O H' ez e1 k3.h.ext k3.h
      refine .inr ⟨go, fun H2 => ∃ as Z, (∀ p, p ∈ Z ↔ p ∈ as ∨ p = D ∨ p ∈ O0) ∧ Ok K Z (hid O H1) O (L2.wipe σ vs) (wipeE ρ vs) H2 ∧ Same H1 (fun a => if a = D then none else H2 a) ∧ H2 D = some (.lst (as.map V.ref)) ∧ (D :: as).Nodup ∧ (∀ a ∈ as, H1 a = none) ∧ Rows K (hid (Z ++ O) H2) as H2 ((qs.take (i + 1)).map G) as, fun H2 hN => ⟨m - 1, by omega, by omega, hN⟩, fun x H2 hy => ?_⟩
      obtain ⟨s2, rx⟩ := yl x H2 hy
      obtain ⟨τ, hg, he⟩ := hs i qs[i] (List.getElem?_eq_getElem hlt)
      refine hg.run Z (hid O H1) O _ H2 x _ (k3.mono s2) rx fun σ3 H3 ew s3 k4 => ⟨ew.trans wipe_wipe, dt_yes.run Z (hid O H1) O σ3 H3 _ k4 fun H4 s4 => ?_⟩
      rw [if_pos rfl]
      have sB : Same H' H4 := (s2.trans s3).trans s4
      have kB := k3.mono sB
      refine he.run Z (hid O H1) O σ3 H4 _ (k4.mono s4) fun a ys H5 s5 hna hya ry => ?_
      have s6 := sB.trans s5
      have dom : ∀ b ∈ Z, H4 b ≠ none := fun b hb => kB.h.dom b (List.mem_append_left _ hb)
      have aD : a ≠ D := fun z => dom D zD (by rw [← z]; exact hna)
      have aas : a ∉ as := fun z => dom a ((hZ a).mpr (.inl z)) hna
      have smx : ∀ {H6 : Hp}, Same H' H6 → Same H1 (fun a => if a = D then none else H6 a) := fun {H6} s7 b o e => by
        have z := sm b o e
        dsimp only at z ⊢
        by_cases hb : b = D
        · rw [if_pos hb] at z; cases z
        · rw [if_neg hb] at z ⊢; exact s7 b o z
      have a1 : H1 a = none := by
        have z := smx sB
        refine z.free ?_
        show (if a = D then none else H4 a) = none
        rw [if_neg aD]
        exact hna
      have hO1 : hid O H1 D = none := by
        by_cases hz : D ∈ O
        · exact hid_in hz
        · rw [hid_out hz]; exact hD
      have k7 := (kB.addHid (p := a) hna s5 (by rw [hya]; exact fun z => nomatch z)).hidUpd (p := D) (o := .lst (as.map V.ref ++ [.ref a])) (List.mem_cons_of_mem _ zD) hO1
      have lacc : (as.map V.ref).length < sizeLine := by
        rw [List.length_map, ← hr.length, List.length_map]
        exact Nat.lt_of_le_of_lt (List.length_take_le _ _) (Nat.lt_of_le_of_lt (Nat.le_of_lt hlt) hl)
      refine ⟨as.map V.ref, s6 _ _ ha, lacc, as ++ [a], a :: Z, fun p => ?_, k7, fun b o e => ?_, ?_, ?_, fun b hb => ?_, ?_⟩
      · constructor
        · intro hp
          rcases List.mem_cons.mp hp with z | z
          · exact .inl (by rw [z]; simp)
          · rcases (hZ p).mp z with z | z | z
            · exact .inl (List.mem_append_left _ z)
            · exact .inr (.inl z)
            · exact .inr (.inr z)
        · rintro (z | z | z)
          · rcases List.mem_append.mp z with z | z
            · exact List.mem_cons_of_mem _ ((hZ p).mpr (.inl z))
            · rw [List.mem_singleton.mp z]; exact List.mem_cons_self
          · exact List.mem_cons_of_mem _ ((hZ p).mpr (.inr (.inl z)))
          · exact List.mem_cons_of_mem _ ((hZ p).mpr (.inr (.inr z)))
      · have z := smx s6 b o e
        dsimp only at z ⊢
        by_cases hb : b = D
        · rw [if_pos hb] at z; cases z
        · rw [if_neg hb] at z ⊢; rw [upd_ne hb]; exact z
      · rw [upd_same, List.map_append]
        rfl
      · obtain ⟨n1, n2⟩ := List.nodup_cons.mp nd
        refine List.nodup_cons.mpr ⟨fun z => ?_, List.nodup_append.mpr ⟨n2, by simp, fun b hb c hc => ?_⟩⟩
        · rcases List.mem_append.mp z with z | z
          · exact n1 z
          · exact aD (List.mem_singleton.mp z).symm
        · rw [List.mem_singleton.mp hc]
          exact fun z => aas (by rw [← z]; exact hb)
      · rcases List.mem_append.mp hb with z | z
        · exact hf b z
        · rw [List.mem_singleton.mp z]; exact a1
      · have hu : hid ((a :: Z) ++ O) (L2.upd H5 D (.lst (as.map V.ref ++ [.ref a]))) = hid ((a :: Z) ++ O) H5 := hid_upd (List.mem_append_left _ (List.mem_cons_of_mem _ zD))
        rw [hu, show qs.take (i + 1) = qs.take i ++ [qs[i]] by rw [List.take_add_one, List.getElem?_eq_getElem hlt]; rfl, List.map_append]
        have nDas : D ∉ as := (List.nodup_cons.mp nd).1
        refine Rows.snoc (hr.imp (fun b o e => ?_) fun b hb _ => ⟨List.mem_append_left _ hb, fun o e => ?_⟩) (by simp) (by rw [upd_ne aD]; exact hya) (Reps.mono (hid_sub fun p hp => ?_) _ _ ry)
        · have hb : b ∉ Z ++ O := fun z => by rw [hid_in z] at e; cases e
          rw [hid_out hb] at e
          have e4 := sB _ _ e
          rw [hid_out fun z => ?_]
          · exact s5 _ _ e4
          · rcases List.mem_append.mp z with z | z
            · rcases List.mem_cons.mp z with z | z
              · rw [z, hna] at e4; cases e4
              · exact hb (List.mem_append_left _ z)
            · exact hb (List.mem_append_right _ z)
        · rw [upd_ne fun z => nDas (by rw [← z]; exact hb)]
          exact s6 _ _ e
        · rcases List.mem_append.mp hp with z | z
          · rcases List.mem_cons.mp z with z | z
            · rw [z]; exact List.mem_append_right _ List.mem_cons_self
            · exact List.mem_append_left _ z
          · exact List.mem_append_right _ (List.mem_cons_of_mem _ z)
    · have e : i = qs.length := by omega
      subst e
      rw [List.take_length] at hr
      refine .inl ⟨by
        have z := it.stop H' k3.h.ext
        rw [List.length_map] at z
        exact z, q D as H' (fun a o e => ?_) (fun b hb => ?_) ha nd (hr.imp (hid_sub fun p hp => ?_) fun b hb _ => ⟨hb, fun o q => q⟩)⟩
      · have z := sm a o (s1 a o e)
        dsimp only at z
        by_cases hb : a = D
        · rw [if_pos hb] at z; cases z
        · rw [if_neg hb] at z; exact z
      · rcases List.mem_cons.mp hb with z | z
        · rw [z]; exact s1.free hD
        · exact s1.free (hf b z)
      · rcases List.mem_append.mp hp with z | z
        · exact List.mem_append_left _ ((hZ p).mpr (.inr (.inr z)))
        · rcases List.mem_append.mp z with z | z
          · rcases List.mem_cons.mp z with z | z
            · exact List.mem_append_left _ ((hZ p).mpr (.inr (.inl z)))
            · exact List.mem_append_left _ ((hZ p).mpr (.inl z))
          · exact List.mem_append_right _ z
end
end DL

/-! Law2: rows and tables of fractions; envies. -/
namespace DL
open PySem L2
def vec (n : Nat) (f : Nat → Rat) : Dt := .lst ((List.range n).map fun i => fq (f i))
def mat (p g : Nat) (J : Nat → Nat → Rat) : Dt := .lst ((List.range p).map fun i => vec g (J i))
def rs (n : Nat) (f : Nat → Rat) : Rat := rsum ((List.range n).map f)
theorem rs_zero (f : Nat → Rat) : rs 0 f = 0 := rfl
theorem rs_succ (n : Nat) (f : Nat → Rat) : rs (n + 1) f = rs n f + f n := by
  unfold rs
  rw [List.range_succ, List.map_append]
  exact rsum_snoc _ _
theorem vec_map (n : Nat) (f : Nat → Rat) : vec n f = .lst (((List.range n).map f).map fq) := by
  unfold vec
  rw [List.map_map]
  rfl
theorem range_mem' {n : Nat} {α : Type} {f : Nat → α} {P : α → Prop} (h : ∀ k, k < n → P (f k)) : ∀ q ∈ (List.range n).map f, P q := fun q hq => by
  obtain ⟨k, hk, rfl⟩ := List.mem_map.mp hq
  exact h k (List.mem_range.mp hk)
theorem rs_bd {m n : Nat} {f : Nat → Rat} (h : ∀ k, k < n → Bd m (f k)) : Bd ((m + 1) * n + 1) (rs n f) := by
  have z := rsum_bd ((List.range n).map f) (range_mem' h) n (by simp)
  rw [List.take_of_length_le (by simp)] at z
  exact z
theorem tot_vec {m n : Nat} {f : Nat → Rat} (h : ∀ k, k < n → Bd m (f k)) (hm : (m + 1) * n + 1 ≤ 4000) (hm2 : m ≤ 4000) : R_total [vec n f] (fq (rs n f)) := by
  rw [vec_map]
  refine R_total.mk _ (range_mem' fun k hk => (h k hk).mono hm2) fun i hi => ?_
  rw [List.length_map, List.length_range] at hi
  refine (rsum_bd ((List.range n).map f) (range_mem' h) i (by simpa using hi)).mono ?_
  have := Nat.mul_le_mul_left (m + 1) hi
  omega
theorem dot_vec {a b n : Nat} {f g : Nat → Rat} (ha : ∀ k, k < n → Bd a (f k)) (hb : ∀ k, k < n → Bd b (g k)) (h1 : a ≤ 1000) (h2 : b ≤ 1000) (hm : (a + b + 1) * n + 1 ≤ 4000) (hn : n ≤ 1000) : R_dot [vec n f, vec n g] (fq (rs n fun k => f k * g k)) := by
  rw [vec_map, vec_map]
  have e : List.zipWith (· * ·) ((List.range n).map f) ((List.range n).map g) = (List.range n).map fun k => f k * g k := zip_range f g n
  unfold rs
  rw [← e]
  refine R_dot.mk _ _ (by simp) (by simpa using hn) (range_mem' fun k hk => (ha k hk).mono h1) (range_mem' fun k hk => (hb k hk).mono h2) fun i hi => ?_
  rw [List.length_map, List.length_range] at hi
  rw [e]
  refine (rsum_bd ((List.range n).map fun k => f k * g k) (range_mem' (P := Bd (a + b)) fun k hk => mul_bd (ha k hk) (hb k hk)) i (by simpa using hi)).mono ?_
  have := Nat.mul_le_mul_left (a + b + 1) hi
  omega
theorem num_pos' {q : Rat} : 0 < q.num ↔ 0 < q := by
  rw [Rat.lt_iff]
  simp
theorem inv_bd {b : Rat} {n : Nat} (hb : Bd n b) (h0 : 0 < b) : Bd n b⁻¹ := by
  have e : b⁻¹ = Rat.divInt (b.den : Int) b.num := by
    conv => lhs; rw [← divInt_self' b]
    rw [Rat.inv_divInt]
  have hn : 0 < b.num := num_pos'.mpr h0
  rw [e]
  exact low_bd hn (by rw [Int.natAbs_natCast]; exact hb.de) hb.nu
theorem div_bd {a b : Rat} {m n : Nat} (ha : Bd m a) (hb : Bd n b) (h0 : 0 < b) : Bd (m + n) (a / b) := by
  rw [Rat.div_def]
  exact mul_bd ha (inv_bd hb h0)
theorem bd_zero : Bd 1 (0 : Rat) := ⟨by decide, by decide⟩
theorem rs_mul (n : Nat) (f : Nat → Rat) (c : Rat) : rs n (fun k => f k * c) = rs n f * c := by
  induction n with
  | zero => rw [rs_zero, rs_zero, Rat.zero_mul]
  | succ n ih => rw [rs_succ, rs_succ, ih, Rat.add_mul]
theorem rs_congr {n : Nat} {f g : Nat → Rat} (h : ∀ k, k < n → f k = g k) : rs n f = rs n g := by
  induction n with
  | zero => rfl
  | succ n ih => rw [rs_succ, rs_succ, ih fun k hk => h k (by omega), h n (by omega)]
theorem rs_pos {n : Nat} {f : Nat → Rat} (hn : 0 < n) (h : ∀ k, k < n → 0 < f k) : 0 < rs n f := by
  have nn : ∀ m, m ≤ n → 0 ≤ rs m f := fun m hm => by
    induction m with
    | zero => rw [rs_zero]; exact Rat.le_refl
    | succ m ih =>
      rw [rs_succ]
      exact Rat.add_nonneg (ih (by omega)) (Rat.le_of_lt (h m (by omega)))
  obtain ⟨m, rfl⟩ : ∃ m, n = m + 1 := ⟨n - 1, by omega⟩
  rw [rs_succ]
  have a := nn m (by omega)
  have b := h m (by omega)
  exact Rat.not_le.mp fun hc => Rat.not_le.mpr b (Rat.le_trans (by
    have := Rat.add_le_add_right (c := f m) |>.mpr a
    rw [Rat.zero_add] at this
    exact this) hc)
theorem set_range {α : Type} (f : Nat → α) (p k : Nat) (v : α) : ((List.range p).map f).set k v = (List.range p).map fun a => if a = k then v else f a := by
  apply List.ext_getElem?
  intro i
  rw [List.getElem?_set, List.getElem?_map, List.getElem?_map, List.length_map, List.length_range]
  by_cases h : k = i
  · subst h
    by_cases hk : k < p
    · simp [hk]
    · simp [hk]
  · rw [if_neg h]
    by_cases hi : i < p
    · simp [hi, Ne.symm h]
    · simp [hi]
/-! ### the fractions' own helpers, with 20000 turns -/
inductive R_gcdW : List Dt → Dt → Prop
  | mk (a b : Nat) : b < 2 ^ 9000 → R_gcdW [.int (a : Int), .int (b : Int)] (.int ((Nat.gcd a b : Nat) : Int))
inductive R_lowW : List Dt → Dt → Prop
  | mk (a b : Int) : 0 < b → b.natAbs < 2 ^ 9000 → R_lowW [.int a, .int b] (fq (Rat.divInt a b))
inductive R_over : List Dt → Dt → Prop
  | mk (a b : Rat) : Bd 4000 a → Bd 4000 b → 0 < b → R_over [fq a, fq b] (fq (a / b))
inductive R_joy : List Dt → Dt → Prop
  | mk (g : Nat) (f h : Nat → Rat) : g ≤ 6 → (∀ j, j < g → Bd 40 (f j)) → (∀ j, j < g → Bd 300 (h j)) → R_joy [vec g f, vec g h] (fq (rs g fun j => f j * h j))
def jo (g : Nat) (J S : Nat → Nat → Rat) (i k : Nat) : Rat := rs g fun j => J i j * S k j
structure Mk (p g : Nat) (D : Nat → Rat) (J S : Nat → Nat → Rat) : Prop where
  p1 : 1 ≤ p
  p6 : p ≤ 6
  g1 : 1 ≤ g
  g6 : g ≤ 6
  d : ∀ i, i < p → 0 < D i ∧ Bd 40 (D i)
  j : ∀ i, i < p → ∀ j, j < g → Bd 40 (J i j)
  s : ∀ i, i < p → ∀ j, j < g → Bd 300 (S i j)
theorem Mk.jo {p g : Nat} {D : Nat → Rat} {J S : Nat → Nat → Rat} (m : Mk p g D J S) {i k : Nat} (hi : i < p) (hk : k < p) : Bd 2100 (jo g J S i k) := by
  refine (rs_bd (m := 340) fun j hj => mul_bd (m.j i hi j hj) (m.s k hk j hj)).mono ?_
  have := Nat.mul_le_mul_left (340 + 1) m.g6
  omega
theorem Mk.w {p g : Nat} {D : Nat → Rat} {J S : Nat → Nat → Rat} (m : Mk p g D J S) : 0 < rs p D ∧ Bd 250 (rs p D) := by
  refine ⟨rs_pos m.p1 fun k hk => (m.d k hk).1, (rs_bd (m := 40) fun j hj => (m.d j hj).2).mono ?_⟩
  have := Nat.mul_le_mul_left (40 + 1) m.p6
  omega
theorem Mk.jr {p g : Nat} {D : Nat → Rat} {J S : Nat → Nat → Rat} (m : Mk p g D J S) {i : Nat} (hi : i < p) : Bd 250 (rs g (J i)) := by
  refine (rs_bd (m := 40) fun j hj => m.j i hi j hj).mono ?_
  have := Nat.mul_le_mul_left (40 + 1) m.g6
  omega
inductive R_reached : List Dt → Dt → Prop
  | mk (p g : Nat) (D : Nat → Rat) (J S : Nat → Nat → Rat) : Mk p g D J S → R_reached [mat p g J, mat p g S] (.tup ((List.range p).map fun i => fq (jo g J S i i)))
def cE (g : Nat) (D : Nat → Rat) (J S : Nat → Nat → Rat) (i k : Nat) : Bool := decide (jo g J S i i / D i < jo g J S i k / D k)
def cS (p g : Nat) (D : Nat → Rat) (J S : Nat → Nat → Rat) (i : Nat) : Bool := decide (jo g J S i i < D i / rs p D * rs g (J i))
def erow (c : Nat → Bool) (i m : Nat) : List (List Int) := ((List.range m).filter c).map fun (k : Nat) => [(i : Int), (k : Int)]
theorem erow_succ (c : Nat → Bool) (i m : Nat) : erow c i (m + 1) = erow c i m ++ (if c m = true then [[(i : Int), (m : Int)]] else []) := by
  unfold erow
  rw [List.range_succ, List.filter_append, List.map_append]
  congr 1
  by_cases h : c m = true
  · simp [h]
  · simp [h]
def eall (c : Nat → Nat → Bool) (p : Nat) : Nat → List (List Int)
  | 0 => []
  | n + 1 => eall c p n ++ erow (c n) n p
theorem erow_len (c : Nat → Bool) (i m : Nat) : (erow c i m).length ≤ m := by
  unfold erow
  rw [List.length_map]
  exact Nat.le_trans (List.length_filter_le _ _) (by simp)
theorem eall_len (c : Nat → Nat → Bool) (p : Nat) : ∀ n, (eall c p n).length ≤ n * p
  | 0 => Nat.zero_le _
  | n + 1 => by
    show (eall c p n ++ erow (c n) n p).length ≤ _
    rw [List.length_append]
    have a := eall_len c p n
    have b := erow_len (c n) n p
    rw [Nat.add_mul]
    omega
def srow (c : Nat → Bool) (m : Nat) : List Int := ((List.range m).filter c).map fun (k : Nat) => (k : Int)
theorem srow_succ (c : Nat → Bool) (m : Nat) : srow c (m + 1) = srow c m ++ (if c m = true then [(m : Int)] else []) := by
  unfold srow
  rw [List.range_succ, List.filter_append, List.map_append]
  congr 1
  by_cases h : c m = true
  · simp [h]
  · simp [h]
theorem srow_len (c : Nat → Bool) (m : Nat) : (srow c m).length ≤ m := by
  unfold srow
  rw [List.length_map]
  exact Nat.le_trans (List.length_filter_le _ _) (by simp)
def pi (xs : List Int) : Dt := .tup (xs.map .int)
inductive R_envies : List Dt → Dt → Prop
  | mk (p g : Nat) (D : Nat → Rat) (J S : Nat → Nat → Rat) : Mk p g D J S → R_envies [vec p D, mat p g J, mat p g S] (.tup ((eall (cE g D J S) p p).map pi))
inductive R_envied : List Dt → Dt → Prop
  | mk (p g : Nat) (D : Nat → Rat) (J S : Nat → Nat → Rat) : Mk p g D J S → R_envied [vec p D, mat p g J, mat p g S] (.lst ((eall (cE g D J S) p p).map pi))
inductive R_even : List Dt → Dt → Prop
  | mk (p g : Nat) (D : Nat → Rat) (J S : Nat → Nat → Rat) : Mk p g D J S → R_even [vec p D, mat p g J, mat p g S] (.tup ((srow (cS p g D J S) p).map .int))
inductive R_short : List Dt → Dt → Prop
  | mk (p g : Nat) (D : Nat → Rat) (J S : Nat → Nat → Rat) : Mk p g D J S → R_short [vec p D, mat p g J, mat p g S] (.lst ((srow (cS p g D J S) p).map .int))
inductive R_numbers : List Dt → Dt → Prop
  | l (xs : List Int) : xs.length ≤ 1000 → R_numbers [.tup (xs.map .int), .lst (xs.map .int)] (.bl true)
  | t (xs : List Int) : xs.length ≤ 1000 → R_numbers [pi xs, pi xs] (.bl true)
inductive R_pairs : List Dt → Dt → Prop
  | mk (ps : List (List Int)) : ps.length ≤ 1000 → (∀ p ∈ ps, p.length ≤ 1000) → R_pairs [.tup (ps.map pi), .lst (ps.map pi)] (.bl true)
inductive R_asked : List Dt → Dt → Prop
  | mk (p g : Nat) (D : Nat → Rat) (J S : Nat → Nat → Rat) : Mk p g D J S → R_asked [vec p D, mat p g J, mat p g S] (.bl true)
theorem eall_el (c : Nat → Nat → Bool) (p : Nat) : ∀ n, ∀ x ∈ eall c p n, x.length ≤ 1000
  | 0 => fun _ h => by cases h
  | n + 1 => fun x h => by
    rcases List.mem_append.mp h with h | h
    · exact eall_el c p n x h
    · unfold erow at h
      obtain ⟨k, _, rfl⟩ := List.mem_map.mp h
      show 2 ≤ 1000
      decide
/-! ### drawn -/
def nm (x y : Int) (a : Nat) (z w : Bool) : Rat := if z = true ∧ y % 4 = 3 then 0 else if w = true then Rat.divInt (1 + x * 999983) (1 + y) else Rat.divInt (1 + (x + a) % 6) (1 + y % 3)
theorem divInt_pos' {a b : Int} (ha : 0 < a) (hb : 0 < b) : 0 < Rat.divInt a b := by
  have : (Rat.divInt a b).num > 0 := by
    have h := low_num (a := a) hb
    rw [h.1]
    have g1 : (Nat.gcd a.natAbs b.natAbs : Int) ∣ a := Int.ofNat_dvd_left.mpr (Nat.gcd_dvd_left _ _)
    exact Int.ediv_pos_of_pos_of_dvd ha (Int.natCast_nonneg _) g1
  exact num_pos'.mp this
theorem nm_ok {x y : Int} {a : Nat} (z w : Bool) (hx : 0 ≤ x ∧ x < 1000000) (hy : 0 ≤ y ∧ y < 1000000) : Bd 40 (nm x y a z w) ∧ (z = false → 0 < nm x y a z w) := by
  unfold nm
  split
  · rename_i h
    exact ⟨bd_zero.mono (by decide), fun e => by rw [e] at h; exact absurd h.1 (by decide)⟩
  · split
    · refine ⟨low_bd (by omega) ?_ ?_, fun _ => divInt_pos' (by omega) (by omega)⟩
      · have : (2 : Nat) ^ 40 = 1099511627776 := by decide
        rw [this]; omega
      · have : (2 : Nat) ^ 40 = 1099511627776 := by decide
        rw [this]; omega
    · refine ⟨low_bd (by omega) ?_ ?_, fun _ => divInt_pos' (by omega) (by omega)⟩
      · have : (2 : Nat) ^ 40 = 1099511627776 := by decide
        rw [this]; omega
      · have : (2 : Nat) ^ 40 = 1099511627776 := by decide
        rw [this]; omega
inductive R_number : List Dt → Dt → Prop
  | mk (ds : List Int) (a : Nat) (z w : Bool) : a ≤ 100 → 2 * a + 1 < ds.length → (∀ x ∈ ds, 0 ≤ x ∧ x < 1000000) → R_number [.lst (ds.map .int), .int (a : Int), .bl z, .bl w] (fq (nm (ds.getD (2 * a) 0) (ds.getD (2 * a + 1) 0) a z w))
def dg (ns : List Int) (k : Nat) (b : Int) (n : Nat) : List Int := (dst (ns.getD k 0) b n).1
def J57 (ns : List Int) (g : Nat) (w : Bool) (i j : Nat) : Rat := nm ((dg ns (2 + i) 1000000 (2 * g)).getD (2 * j) 0) ((dg ns (2 + i) 1000000 (2 * g)).getD (2 * j + 1) 0) j true w
inductive R_joys : List Dt → Dt → Prop
  | mk (ns : List Int) (p g : Nat) (w : Bool) : ns.length ≤ 63 → p ≤ 6 → g ≤ 6 → R_joys [.lst (ns.map .int), .int (p : Int), .int (g : Int), .bl w] (mat p g (J57 ns g w))
/-- the weights of a good -/
def wt0 (ns : List Int) (p j : Nat) : List Int := (List.range p).map fun i => max 0 (((dg ns (8 + j) 1000 p).getD i 0 + i + j) % 5 - 1)
def wts (ns : List Int) (p j : Nat) : List Int := if (wt0 ns p j).sum = 0 then (wt0 ns p j).set ((dg ns (8 + j) 1000 p).getD 0 0 % p).toNat 1 else wt0 ns p j
def S57 (ns : List Int) (p : Nat) (i j : Nat) : Rat := Rat.divInt ((wts ns p j).getD i 0) (wts ns p j).sum
inductive R_weighted : List Dt → Dt → Prop
  | mk (ns : List Int) (p g : Nat) : ns.length ≤ 63 → 1 ≤ p → p ≤ 6 → g ≤ 6 → R_weighted [.lst (ns.map .int), .int (p : Int), .int (g : Int)] (mat p g (S57 ns p))
theorem sum_bounds : ∀ (l : List Int), (∀ x ∈ l, 0 ≤ x ∧ x ≤ 3) → 0 ≤ l.sum ∧ l.sum ≤ 3 * l.length ∧ (l.sum = 0 → ∀ x ∈ l, x = 0)
  | [], _ => by simp
  | a :: l, h => by
    obtain ⟨h1, h2, h3⟩ := sum_bounds l fun x hx => h x (List.mem_cons_of_mem _ hx)
    obtain ⟨a1, a2⟩ := h a List.mem_cons_self
    rw [List.sum_cons, List.length_cons]
    refine ⟨by omega, by omega, fun e x hx => ?_⟩
    rcases List.mem_cons.mp hx with q | q
    · omega
    · exact h3 (by omega) x q
theorem wt0_in (ns : List Int) (p j : Nat) : ∀ x ∈ wt0 ns p j, 0 ≤ x ∧ x ≤ 3 := by
  intro x hx
  obtain ⟨i, _, rfl⟩ := List.mem_map.mp hx
  show 0 ≤ max (0 : Int) _ ∧ max (0 : Int) _ ≤ 3
  omega
theorem wts_in (ns : List Int) (p j : Nat) : ∀ x ∈ wts ns p j, 0 ≤ x ∧ x ≤ 3 := by
  unfold wts
  split
  · intro x hx
    rcases List.mem_or_eq_of_mem_set hx with h | h
    · exact wt0_in ns p j x h
    · omega
  · exact wt0_in ns p j
theorem wts_len (ns : List Int) (p j : Nat) : (wts ns p j).length = p := by
  unfold wts
  split
  · rw [List.length_set]; simp [wt0]
  · simp [wt0]
theorem wts_pos (ns : List Int) (p j : Nat) (hp : 1 ≤ p) : 0 < (wts ns p j).sum := by
  have b := sum_bounds _ (wts_in ns p j)
  by_cases h : (wts ns p j).sum = 0
  · exfalso
    have hz := b.2.2 h
    unfold wts at h hz
    by_cases h0 : (wt0 ns p j).sum = 0
    · rw [if_pos h0] at hz
      have m : (1 : Int) ∈ (wt0 ns p j).set ((dg ns (8 + j) 1000 p).getD 0 0 % p).toNat 1 := by
        apply List.mem_set
        have : (wt0 ns p j).length = p := by simp [wt0]
        rw [this]
        have h1 := Int.emod_nonneg ((dg ns (8 + j) 1000 p).getD 0 0) (b := (p : Int)) (by omega)
        have h2 := Int.emod_lt_of_pos ((dg ns (8 + j) 1000 p).getD 0 0) (b := (p : Int)) (by omega)
        omega
      exact absurd (hz 1 m) (by decide)
    · rw [if_neg h0] at h
      exact h0 h
  · omega
theorem S57_bd (ns : List Int) (p : Nat) (hp : 1 ≤ p) (h6 : p ≤ 6) (i j : Nat) : Bd 10 (S57 ns p i j) := by
  have b := sum_bounds _ (wts_in ns p j)
  have h := wts_pos ns p j hp
  have hl := wts_len ns p j
  have he : 0 ≤ (wts ns p j).getD i 0 ∧ (wts ns p j).getD i 0 ≤ 3 := by
    rw [List.getD_eq_getElem?_getD]
    cases e : (wts ns p j)[i]? with
    | none => decide
    | some x => exact wts_in ns p j x (List.mem_of_getElem? e)
  refine low_bd h ?_ ?_
  · have : (2 : Nat) ^ 10 = 1024 := by decide
    rw [this]; omega
  · have : (2 : Nat) ^ 10 = 1024 := by decide
    rw [this]; omega
/-- one share changed -/
def stp (b : Int) (v : Rat) : Rat := if b % 2 = 1 ∧ ¬ v < Rat.divInt 1 1000 then Rat.divInt (-1) 1000 else Rat.divInt 1 1000
def chg (S : Nat → Nat → Rat) (a j : Nat) (b : Int) : Nat → Nat → Rat := fun i k => if i = a then (if k = j then S a j + stp b (S a j) else S i k) else S i k
inductive R_changed : List Dt → Dt → Prop
  | mk (x y : Int) (a p g : Nat) (S : Nat → Nat → Rat) : a < p → p ≤ 6 → 1 ≤ g → g ≤ 6 → Bd 289 (S a (x % g).toNat) → R_changed [.lst [.int x, .int y], .int (a : Int), mat p g S] (mat p g (chg S a (x % g).toNat y))
theorem stp_bd (b : Int) (v : Rat) : Bd 10 (stp b v) := by
  unfold stp
  split
  · exact low_bd (by decide) (by decide) (by decide)
  · exact low_bd (by decide) (by decide) (by decide)
theorem chg_bd {S : Nat → Nat → Rat} {p g a j m : Nat} {b : Int} (hs : ∀ i, i < p → ∀ k, k < g → Bd m (S i k)) (ha : a < p) (hj : j < g) : ∀ i, i < p → ∀ k, k < g → Bd (m + 11) (chg S a j b i k) := by
  intro i hi k hk
  unfold chg
  split
  · split
    · exact add_bd (hs a ha j hj) (stp_bd _ _)
    · exact (hs i hi k hk).mono (by omega)
  · exact (hs i hi k hk).mono (by omega)
/-! ### the even shares -/
theorem even_E {p g : Nat} {D : Nat → Rat} {J : Nat → Nat → Rat} (hd : ∀ i, i < p → 0 < D i) {W : Rat} {i k : Nat} (hi : i < p) (hk : k < p) : cE g D J (fun i _ => D i / W) i k = false := by
  have e : ∀ c, c < p → jo g J (fun i _ => D i / W) i c / D c = rs g (J i) * W⁻¹ := fun c hc => by
    unfold jo
    rw [rs_mul, Rat.div_def (D c), Rat.div_def, Rat.mul_assoc, Rat.mul_comm (D c) W⁻¹, Rat.mul_assoc, Rat.mul_inv_cancel _ (fun z => by have := hd c hc; rw [z] at this; exact absurd this (Rat.lt_irrefl)), Rat.mul_one]
  unfold cE
  rw [e i hi, e k hk]
  exact decide_eq_false Rat.lt_irrefl
theorem even_S {p g : Nat} {D : Nat → Rat} {J : Nat → Nat → Rat} {i : Nat} : cS p g D J (fun i _ => D i / rs p D) i = false := by
  unfold cS jo
  rw [rs_mul, Rat.mul_comm]
  exact decide_eq_false Rat.lt_irrefl
theorem erow_none {c : Nat → Bool} {i m : Nat} (h : ∀ k, k < m → c k = false) : erow c i m = [] := by
  unfold erow
  have : (List.range m).filter c = [] := List.filter_eq_nil_iff.mpr fun k hk => by rw [h k (List.mem_range.mp hk)]; decide
  rw [this]
  rfl
theorem eall_none {c : Nat → Nat → Bool} {p : Nat} : ∀ n, (∀ i, i < n → ∀ k, k < p → c i k = false) → eall c p n = []
  | 0, _ => rfl
  | n + 1, h => by
    show eall c p n ++ erow (c n) n p = []
    rw [eall_none n fun i hi => h i (by omega), erow_none (h n (by omega))]
    rfl
theorem srow_none {c : Nat → Bool} {m : Nat} (h : ∀ k, k < m → c k = false) : srow c m = [] := by
  unfold srow
  have : (List.range m).filter c = [] := List.filter_eq_nil_iff.mpr fun k hk => by rw [h k (List.mem_range.mp hk)]; decide
  rw [this]
  rfl
theorem rngN_get {p i : Nat} {d : Dt} (h : (rangeN (Int.toNat (p : Int)))[i]? = some d) : i < p ∧ d = .int (i : Nat) := by
  have hi := (List.getElem?_eq_some_iff.mp h).1
  rw [rangeN_len, Int.toNat_natCast] at hi
  rw [rangeN_get (by rw [Int.toNat_natCast]; exact hi)] at h
  cases h
  exact ⟨hi, rfl⟩
theorem rngN_len {p : Nat} : (rangeN (Int.toNat (p : Int))).length = p := by rw [rangeN_len, Int.toNat_natCast]
theorem enum_get {f : Nat → Dt} {p i : Nat} {d : Dt} (h : (enumD ((List.range p).map f))[i]? = some d) : i < p ∧ d = .tup [.int (i : Nat), f i] := by
  unfold enumD at h
  rw [List.getElem?_mapIdx, List.getElem?_map] at h
  obtain ⟨a, h1, rfl⟩ := Option.map_eq_some_iff.mp h
  obtain ⟨b, h2, rfl⟩ := Option.map_eq_some_iff.mp h1
  obtain ⟨rfl, h3⟩ := range_mem h2
  exact ⟨h3, rfl⟩
theorem enum_len {f : Nat → Dt} {p : Nat} : (enumD ((List.range p).map f)).length = p := by
  unfold enumD
  simp
section
variable {K : PySem.W.Frag} {ρ : PEnv}
theorem di_rangeN {ta : TA} {p : Nat} (hp : p ≤ 1000) (h : DA K ta ρ [.int (p : Int)]) : DI K (iRng1 ta) ρ (rangeN (Int.toNat (p : Int))) := di_range1 h (by omega) (by omega)
theorem de_lenL {te : TE} {ds : List Dt} {n : Nat} {r' : List V → Hp → VK → Prop} (h : DE K te ρ (.lst ds)) (hn : ds.length = n) : DE K (tCB (fun xs H Q => (∃ p ys, xs = [V.ref p] ∧ (SqL K H p ys ∨ SqT K H p ys) ∧ Q (.int ys.length) H) ∨ r' xs H Q) (tCons te tNil)) ρ (.int (n : Nat)) := de_cb (da_cons h da_nil) (RDC.l (rc_len hn))
theorem len_vec {n : Nat} {f : Nat → Dt} : ((List.range n).map f).length = n := by simp
theorem lt_line {n : Nat} (h : n ≤ 1000) : n < sizeLine := Nat.lt_of_le_of_lt h (by decide)
end
section
variable {K : PySem.W.Frag} {ρ τ : PEnv} {te : TE} {d : Dt}
theorem de_lenT {ds : List Dt} {n : Nat} {r' : List V → Hp → VK → Prop} (h : DE K te ρ (.tup ds)) (hn : ds.length = n) : DE K (tCB (fun xs H Q => (∃ p ys, xs = [V.ref p] ∧ (SqL K H p ys ∨ SqT K H p ys) ∧ Q (.int ys.length) H) ∨ r' xs H Q) (tCons te tNil)) ρ (.int (n : Nat)) := de_cb (da_cons h da_nil) (RDC.l (rc_lenT hn))
theorem de_I {i j : Int} (h : DE K te ρ (.int i)) (e : i = j) : DE K te ρ (.int j) := by rw [← e]; exact h
theorem atI_getD {ds : List Int} {k : Nat} {i : Int} (h : k < ds.length) (e : i = (k : Int)) : atI (ds.map Dt.int) i = some (.int (ds.getD k 0)) := by
  subst e
  refine atI_map (atI_nat ?_)
  rw [List.getD_eq_getElem?_getD, List.getElem?_eq_getElem h]
  rfl
/-- data without a heap of its own -/
def scl : Dt → Bool
  | .non | .bl _ | .int _ | .str _ | .ref _ | .ty _ => true
  | _ => false
/-- owned lists read for a scalar -/
theorem de_give (w : Wk ρ τ) (h : DE K te τ d) (hs : scl d = true) : DE K te ρ d := .mk fun O0 B O σ H Q k q => by
  obtain ⟨O', k'⟩ := k.weak w
  refine h.run O0 B O' σ H Q k' fun v H' s r => q v H' s ?_
  cases d <;> first | exact r | cases hs
/-! data that may be compared whole -/
def Pyd (n : Nat) (d : Dt) : Prop := ∃ p, toPy d = some p ∧ PyData.canLay0 p = true ∧ PyData.depth p ≤ n
theorem pyds {n : Nat} : ∀ ds : List Dt, (∀ d ∈ ds, Pyd n d) → ∃ ps, toPys ds = some ps ∧ PyData.canLayAll0 ps = true ∧ PyData.depthAll ps ≤ n
  | [], _ => ⟨[], rfl, by simp [PyData.canLayAll0], by simp [PyData.depthAll]⟩
  | d :: ds, h => by
    obtain ⟨p, h1, h2, h3⟩ := h d List.mem_cons_self
    obtain ⟨ps, g1, g2, g3⟩ := pyds ds fun e he => h e (List.mem_cons_of_mem _ he)
    refine ⟨p :: ps, ?_, by simp [PyData.canLayAll0, h2, g2], by simp only [PyData.depthAll]; omega⟩
    show (toPy d).bind (fun p => (toPys ds).map fun r => p :: r) = _
    rw [h1, g1]
    rfl
theorem pyd_lst {n : Nat} {ds : List Dt} (h : ∀ d ∈ ds, Pyd n d) : Pyd (n + 1) (.lst ds) := by
  obtain ⟨ps, h1, h2, h3⟩ := pyds ds h
  refine ⟨.list ps, ?_, by simpa [PyData.canLay0] using h2, by simp only [PyData.depth]; omega⟩
  show (toPys ds).map PyData.list = _
  rw [h1]
  rfl
theorem pyd_tup {n : Nat} {ds : List Dt} (h : ∀ d ∈ ds, Pyd n d) : Pyd (n + 1) (.tup ds) := by
  obtain ⟨ps, h1, h2, h3⟩ := pyds ds h
  refine ⟨.tuple ps, ?_, by simpa [PyData.canLay0] using h2, by simp only [PyData.depth]; omega⟩
  show (toPys ds).map PyData.tuple = _
  rw [h1]
  rfl
theorem pyd_int (i : Int) : Pyd 0 (.int i) := ⟨.int i, rfl, by simp [PyData.canLay0], by simp [PyData.depth]⟩
theorem Pyd.mono {m n : Nat} (h : Pyd m d) (l : m ≤ n) : Pyd n d := by
  obtain ⟨p, h1, h2, h3⟩ := h
  exact ⟨p, h1, h2, Nat.le_trans h3 l⟩
theorem pyd_fq (q : Rat) : Pyd 1 (fq q) := pyd_tup fun d hd => by
  rcases List.mem_cons.mp hd with rfl | hd
  · exact pyd_int _
  · rw [List.mem_singleton.mp hd]
    exact pyd_int _
theorem pyd_vec (n : Nat) (f : Nat → Rat) : Pyd 2 (vec n f) := pyd_lst fun d hd => by
  obtain ⟨k, _, rfl⟩ := List.mem_map.mp hd
  exact pyd_fq _
theorem pyd_mat (p g : Nat) (J : Nat → Nat → Rat) : Pyd 3 (mat p g J) := pyd_lst fun d hd => by
  obtain ⟨k, _, rfl⟩ := List.mem_map.mp hd
  exact pyd_vec _ _
theorem rd_eqPy {n : Nat} {r : R2} (h : Pyd n d) (hn : n ≤ 64) : RD2 K (fun x y H Q => r x y H Q ∨ rEqD K x y H Q) d d (.bl true) := by
  obtain ⟨p, h1, h2, h3⟩ := h
  have sh : SeqAt.shaped p = true := by
    unfold SeqAt.shaped
    rw [h2, Bool.true_and]
    exact decide_eq_true (Nat.le_trans h3 hn)
  exact RD2.r (rd_eqD h1 h1 sh sh (SeqAt.eqv_refl _ (SeqAt.canLay_of_shaped sh)))
end
section
variable {K : PySem.W.Frag} {ρ : PEnv} {ta tb : TE}
theorem reps_rep {G : Hp} {ds : List Dt} {xs : List V} (r : Reps K G ds xs) : ∀ n : Nat, Reps K G (List.replicate n ds).flatten (List.replicate n xs).flatten
  | 0 => rfl
  | n + 1 => by
    rw [List.replicate_succ, List.replicate_succ, List.flatten_cons, List.flatten_cons]
    exact r.append (reps_rep r n)
/-- a new list times an int -/
theorem dl_rep {r1 r2 : R2} {ds : List Dt} {n : Int} (ha : DL K ta ρ ds) (hb : DE K tb ρ (.int n)) (h0 : 0 ≤ n) (h1 : ds.length * n.toNat ≤ sizeLine) (h2 : n < 2 ^ 62) : DL K (tOp (fun x y H Q => r1 x y H Q ∨ (r2 x y H Q ∨ rRep x y H Q)) ta tb) ρ (List.replicate n.toNat ds).flatten :=
  .mk fun O0 B O σ H Q k q => ha.run O0 B O σ H _ k fun p xs H1 s1 hp e1 r1 => hb.run O0 B O σ H1 _ (k.mono s1) fun v H2 s2 rv => by
    obtain rfl : v = .int n := rv
    refine .inr (.inr ⟨p, n, xs, rfl, rfl, s2 _ _ e1, by omega, by omega, by rw [r1.length]; exact h1, fun p2 hp2 => q p2 _ _ ((s1.trans s2).trans (same_upd hp2)) ((s1.trans s2).free hp2) upd_same ?_⟩)
    exact reps_rep (reps_new (same_upd hp2) hp2 (Reps.mono (hid_mono s2) _ _ (reps_out (H := H) (k.h.out hp) r1))) _
theorem rep_one {p : Nat} {d : Dt} : (List.replicate (Int.toNat (p : Int)) [d]).flatten = (List.range p).map fun _ => d := by
  rw [Int.toNat_natCast, List.flatten_replicate_singleton]
  apply List.ext_getElem <;> simp
end
theorem ixN_of {n k : Nat} {i : Int} (e : i = (k : Int)) (h : k < n) : ixN n i = some k := by
  unfold ixN
  subst e
  rw [if_pos (by omega), if_pos (by omega), Int.toNat_natCast]
theorem atI_mapD {f : Int → Dt} {xs : List Int} {k : Nat} {i : Int} (h : k < xs.length) (e : i = (k : Int)) : atI (xs.map f) i = some (f (xs.getD k 0)) := by
  subst e
  refine atI_map (atI_nat ?_)
  rw [List.getD_eq_getElem?_getD, List.getElem?_eq_getElem h]
  rfl
theorem pick6 {a b c d e f : Int} {x : Int} (h : ∀ y ∈ [a, b, c, d, e, f], 1 ≤ y ∧ y ≤ 6) : ∃ p : Nat, 1 ≤ p ∧ p ≤ 6 ∧ atI [Dt.int a, .int b, .int c, .int d, .int e, .int f] (x % 6) = some (.int (p : Int)) := by
  have h1 := Int.emod_nonneg x (b := 6) (by decide)
  have h2 := Int.emod_lt_of_pos x (b := 6) (by decide)
  have key : ∀ y ∈ [a, b, c, d, e, f], ∀ k : Nat, atI [Dt.int a, .int b, .int c, .int d, .int e, .int f] (k : Int) = some (.int y) → x % 6 = (k : Int) → ∃ p : Nat, 1 ≤ p ∧ p ≤ 6 ∧ atI [Dt.int a, .int b, .int c, .int d, .int e, .int f] (x % 6) = some (.int (p : Int)) := fun y hy k hk e => by
    obtain ⟨y1, y2⟩ := h y hy
    refine ⟨y.toNat, by omega, by omega, ?_⟩
    rw [e, hk, Int.toNat_of_nonneg (by omega)]
  have hc : x % 6 = 0 ∨ x % 6 = 1 ∨ x % 6 = 2 ∨ x % 6 = 3 ∨ x % 6 = 4 ∨ x % 6 = 5 := by omega
  rcases hc with q | q | q | q | q | q
  · exact key a (by simp) 0 rfl q
  · exact key b (by simp) 1 rfl q
  · exact key c (by simp) 2 rfl q
  · exact key d (by simp) 3 rfl q
  · exact key e (by simp) 4 rfl q
  · exact key f (by simp) 5 rfl q
end DL

namespace DL
open PySem PySem.Spec PyProof.Rows L2
local macro_rules | `(tactic| walk_at "sz") => `(tactic| (simp only [List.length_cons, List.length_nil]; exact sz_of100 (by decide)))
local macro_rules | `(tactic| walk_at "side") => `(tactic| first | assumption | omega | decide)
local macro_rules | `(tactic| walk_at "ix") => `(tactic| first | rfl | exact atI_head | assumption | walk_at "side")
local macro_rules | `(tactic| walk_at "rd") => `(tactic| first
  | exact RD2.l rd_int
  | exact rd_int | exact rd_intB
  | exact RD2.l rd_eqI | exact RD2.l rd_eqB | exact RD2.l rd_eqS
  | exact RD2.l rd_neI | exact RD2.l rd_neB | exact RD2.l rd_neS
  | exact rd_isB | exact rd_notB
  | (apply rd_ixTG; (· walk_at "ix"))
  | (apply rd_ixLG; (· walk_at "ix"))
  | (refine' RD2.l (rd_intC (CMul.lit ?_)); with_reducible decide)
  | (refine' RD2.l (rd_intC (CMul.litL ?_)); with_reducible decide)
  | exact rd_intC ⟨by decide, by decide, by decide⟩
  | exact rd_intC (cdiv_lit (by omega) (by omega))
  | (refine' RD2.r (RD2.l (rd_intC ?_)); walk_at "side")
  | (apply rd_intC; walk_at "side"))
local macro_rules | `(tactic| walk_at "rc") => `(tactic| first
  | exact rc_gcd | exact rc_abs | exact rc_int | exact rc_max2 | exact rc_min2 | exact rc_tuple | exact rc_tupleT
  | exact rc_isi (b := true) rfl (by decide +kernel) | exact rc_isi (b := false) rfl (by decide +kernel)
  | exact RDC.l (rc_len rfl) | exact RDC.l (rc_lenT rfl))
local macro_rules | `(tactic| walk_at "call") => `(tactic| (constructor <;> walk_at "side"))
local macro_rules | `(tactic| walk_at "da") => `(tactic| first
  | exact da_nil
  | (apply da_cons; (· walk_at "de"); (· walk_at "da")))
local macro_rules | `(tactic| walk_at "de") => `(tactic| first
  | exact de_int | exact de_bl | exact de_str | exact de_non | exact de_ty | exact de_ref
  | exact de_var rfl
  | (apply de_ixOwnS; (· rfl); (· walk_at "de"); (· walk_at "ix"))
  | (apply de_op; (· walk_at "de"); (· walk_at "de"); (· walk_at "rd"))
  | (apply de_un; (· walk_at "de"); (· exact ru_int))
  | exact de_lenOwnG rfl rfl
  | exact de_tupOwn rfl
  | (apply de_cb; (· walk_at "da"); (· walk_at "rc"))
  | (apply de_tup; (· walk_at "da"); (· walk_at "sz"))
  | (apply de_call0; (· walk_at "da"); (· walk_at "call"))
  | (apply de_andB; (· walk_at "de"); (· (intro _; walk_at "de")))
  | (apply de_orB; (· walk_at "de"); (· (intro _; walk_at "de")))
  | (apply de_notV; walk_at "de")
  | (apply de_isN; walk_at "de")
  | (apply de_notN; walk_at "de")
  | (apply DL.de; walk_at "dl"))
local macro_rules | `(tactic| walk_at "dl") => `(tactic| first
  | (apply dl_lst; (· walk_at "da"); (· walk_at "sz"))
  | (apply dl_sl; (· walk_at "de"); (· walk_at "do"); (· walk_at "do"))
  | (apply dl_cb; (· walk_at "da"); (· first | exact rc_list | exact rc_listT)))
local macro_rules | `(tactic| walk_at "do") => `(tactic| first
  | exact do_none
  | (apply do_some; walk_at "de"))
local macro_rules | `(tactic| walk_at "dt") => `(tactic| first
  | (apply dt_test; walk_at "de")
  | (apply dt_B; walk_at "de")
  | (apply dt_and; (· walk_at "dt"); (· (intro _; walk_at "dt")))
  | (apply dt_or; (· walk_at "dt"); (· (intro _; walk_at "dt")))
  | (apply dt_not; walk_at "dt"))
local macro_rules | `(tactic| walk_at "norm") => `(tactic| try dsimp only [List.set_cons_zero, List.set_cons_succ, List.nil_append, List.append_nil])
local macro_rules | `(tactic| walk_at "s") => `(tactic| first
  | (apply s_set; (· walk_at "de"); walk_at "norm")
  | (apply s_append; (· rfl); (· walk_at "de"); (· walk_at "side"); walk_at "norm")
  | (apply s_setIx; (· rfl); (· walk_at "de"); (· walk_at "de"); (· walk_at "ix"); walk_at "norm")
  | (apply s_augI; (· rfl); (· walk_at "de"); walk_at "norm")
  | (apply s_drop; (· walk_at "de"); walk_at "norm")
  | (apply s_par; (· walk_at "da"); walk_at "norm"))
local macro_rules | `(tactic| walk_at "own") => `(tactic| (apply s_setOwn; (· walk_at "dl"); walk_at "norm"))
local macro_rules | `(tactic| walk_at "e") => `(tactic| first
  | (apply es_set; (· walk_at "de"); walk_at "norm")
  | (apply es_append; (· rfl); (· walk_at "de"); (· walk_at "side"); walk_at "norm")
  | (apply es_setIx; (· rfl); (· walk_at "de"); (· walk_at "de"); (· walk_at "ix"); walk_at "norm")
  | (apply es_augI; (· rfl); (· walk_at "de"); walk_at "norm")
  | (apply es_par; (· walk_at "da"); walk_at "norm")
  | (apply es_ret; (· walk_at "de"))
  | apply es_next)
local macro_rules | `(tactic| walk_at "if") => `(tactic| (apply s_if; (· walk_at "dt")))
local macro_rules | `(tactic| walk_at "wk") => `(tactic| repeat (first | exact Wk.nil | apply Wk.any | apply Wk.same | apply Wk.give))
def topS (i : Nat) : Stmt := PySem.Challenge.pw_marketscleared_k57_envies_and_short_ones.main.body.getD i (.Pass ⟨0, 0, 0, 0⟩)
abbrev s_fraction : Stmt := topS 5
abbrev N_fraction : List Str := ["num", "den", "common"]
theorem sc_fraction : FnScope N_fraction ["num", "den"] (defScope s_fraction) := ⟨rfl, rfl, rfl, by decide +kernel, rfl, by decide +kernel, by decide +kernel⟩
abbrev s_multiply : Stmt := topS 6
abbrev N_multiply : List Str := ["first", "second"]
theorem sc_multiply : FnScope N_multiply ["first", "second"] (defScope s_multiply) := ⟨rfl, rfl, rfl, by decide +kernel, rfl, by decide +kernel, by decide +kernel⟩
abbrev s_divide : Stmt := topS 7
abbrev N_divide : List Str := ["first", "second"]
theorem sc_divide : FnScope N_divide ["first", "second"] (defScope s_divide) := ⟨rfl, rfl, rfl, by decide +kernel, rfl, by decide +kernel, by decide +kernel⟩
abbrev s_less : Stmt := topS 8
abbrev N_less : List Str := ["first", "second"]
theorem sc_less : FnScope N_less ["first", "second"] (defScope s_less) := ⟨rfl, rfl, rfl, by decide +kernel, rfl, by decide +kernel, by decide +kernel⟩
abbrev s_total : Stmt := topS 9
abbrev N_total : List Str := ["values", "num", "den", "value", "common"]
theorem sc_total : FnScope N_total ["values"] (defScope s_total) := ⟨rfl, rfl, rfl, by decide +kernel, rfl, by decide +kernel, by decide +kernel⟩
abbrev s_dot : Stmt := topS 10
abbrev N_dot : List Str := ["first", "second", "a", "b"]
theorem sc_dot : FnScope N_dot ["first", "second"] (defScope s_dot) := ⟨rfl, rfl, rfl, by decide +kernel, rfl, by decide +kernel, by decide +kernel⟩
abbrev s_joys_reached : Stmt := topS 12
abbrev N_joys_reached : List Str := ["joys", "sharing", "i"]
theorem sc_joys_reached : FnScope N_joys_reached ["joys", "sharing"] (defScope s_joys_reached) := ⟨rfl, rfl, rfl, by decide +kernel, rfl, by decide +kernel, by decide +kernel⟩
abbrev s_envies : Stmt := topS 14
abbrev N_envies : List Str := ["dues", "joys", "sharing", "pairs", "i", "own", "k", "row"]
theorem sc_envies : FnScope N_envies ["dues", "joys", "sharing"] (defScope s_envies) := ⟨rfl, rfl, rfl, by decide +kernel, rfl, by decide +kernel, by decide +kernel⟩
abbrev s_even_short : Stmt := topS 15
abbrev N_even_short : List Str := ["dues", "joys", "sharing", "whole", "short", "i", "own", "part"]
theorem sc_even_short : FnScope N_even_short ["dues", "joys", "sharing"] (defScope s_even_short) := ⟨rfl, rfl, rfl, by decide +kernel, rfl, by decide +kernel, by decide +kernel⟩
abbrev s__law_cell : Stmt := topS 17
abbrev N__law_cell : List Str := ["script", "k"]
theorem sc__law_cell : FnScope N__law_cell ["script", "k"] (defScope s__law_cell) := ⟨rfl, rfl, rfl, by decide +kernel, rfl, by decide +kernel, by decide +kernel⟩
abbrev s__law_digits : Stmt := topS 18
abbrev N__law_digits : List Str := ["cell", "base", "count", "row", "rest", "t"]
theorem sc__law_digits : FnScope N__law_digits ["cell", "base", "count"] (defScope s__law_digits) := ⟨rfl, rfl, rfl, by decide +kernel, rfl, by decide +kernel, by decide +kernel⟩
abbrev s__law_gcd : Stmt := topS 19
abbrev N__law_gcd : List Str := ["first", "second", "k", "rest"]
theorem sc__law_gcd : FnScope N__law_gcd ["first", "second"] (defScope s__law_gcd) := ⟨rfl, rfl, rfl, by decide +kernel, rfl, by decide +kernel, by decide +kernel⟩
abbrev s__law_lowest : Stmt := topS 20
abbrev N__law_lowest : List Str := ["num", "den", "common"]
theorem sc__law_lowest : FnScope N__law_lowest ["num", "den"] (defScope s__law_lowest) := ⟨rfl, rfl, rfl, by decide +kernel, rfl, by decide +kernel, by decide +kernel⟩
abbrev s__law_is_integer : Stmt := topS 21
abbrev N__law_is_integer : List Str := ["value"]
theorem sc__law_is_integer : FnScope N__law_is_integer ["value"] (defScope s__law_is_integer) := ⟨rfl, rfl, rfl, by decide +kernel, rfl, by decide +kernel, by decide +kernel⟩
abbrev s__law_times : Stmt := topS 23
abbrev N__law_times : List Str := ["first", "second"]
theorem sc__law_times : FnScope N__law_times ["first", "second"] (defScope s__law_times) := ⟨rfl, rfl, rfl, by decide +kernel, rfl, by decide +kernel, by decide +kernel⟩
abbrev s__law_over : Stmt := topS 24
abbrev N__law_over : List Str := ["first", "second"]
theorem sc__law_over : FnScope N__law_over ["first", "second"] (defScope s__law_over) := ⟨rfl, rfl, rfl, by decide +kernel, rfl, by decide +kernel, by decide +kernel⟩
abbrev s__law_plus : Stmt := topS 25
abbrev N__law_plus : List Str := ["first", "second"]
theorem sc__law_plus : FnScope N__law_plus ["first", "second"] (defScope s__law_plus) := ⟨rfl, rfl, rfl, by decide +kernel, rfl, by decide +kernel, by decide +kernel⟩
abbrev s__law_less : Stmt := topS 27
abbrev N__law_less : List Str := ["first", "second"]
theorem sc__law_less : FnScope N__law_less ["first", "second"] (defScope s__law_less) := ⟨rfl, rfl, rfl, by decide +kernel, rfl, by decide +kernel, by decide +kernel⟩
abbrev s__law_sum : Stmt := topS 28
abbrev N__law_sum : List Str := ["values", "result", "value"]
theorem sc__law_sum : FnScope N__law_sum ["values"] (defScope s__law_sum) := ⟨rfl, rfl, rfl, by decide +kernel, rfl, by decide +kernel, by decide +kernel⟩
abbrev s__law_numbers : Stmt := topS 29
abbrev N__law_numbers : List Str := ["value", "due", "k"]
theorem sc__law_numbers : FnScope N__law_numbers ["value", "due"] (defScope s__law_numbers) := ⟨rfl, rfl, rfl, by decide +kernel, rfl, by decide +kernel, by decide +kernel⟩
abbrev s__law_pairs : Stmt := topS 30
abbrev N__law_pairs : List Str := ["value", "due", "k"]
theorem sc__law_pairs : FnScope N__law_pairs ["value", "due"] (defScope s__law_pairs) := ⟨rfl, rfl, rfl, by decide +kernel, rfl, by decide +kernel, by decide +kernel⟩
abbrev s__law_number : Stmt := topS 31
abbrev N__law_number : List Str := ["digits", "at", "zero", "wide", "first", "second"]
theorem sc__law_number : FnScope N__law_number ["digits", "at", "zero", "wide"] (defScope s__law_number) := ⟨rfl, rfl, rfl, by decide +kernel, rfl, by decide +kernel, by decide +kernel⟩
abbrev s__law_joys : Stmt := topS 32
abbrev N__law_joys : List Str := ["script", "people", "goods", "wide", "joys", "i", "digits", "j"]
theorem sc__law_joys : FnScope N__law_joys ["script", "people", "goods", "wide"] (defScope s__law_joys) := ⟨rfl, rfl, rfl, by decide +kernel, rfl, by decide +kernel, by decide +kernel⟩
abbrev s__law_weighted : Stmt := topS 33
abbrev N__law_weighted : List Str := ["script", "people", "goods", "columns", "j", "digits", "weights", "i", "weight"]
theorem sc__law_weighted : FnScope N__law_weighted ["script", "people", "goods"] (defScope s__law_weighted) := ⟨rfl, rfl, rfl, by decide +kernel, rfl, by decide +kernel, by decide +kernel⟩
abbrev s__law_joy : Stmt := topS 34
abbrev N__law_joy : List Str := ["joys", "row", "j"]
theorem sc__law_joy : FnScope N__law_joy ["joys", "row"] (defScope s__law_joy) := ⟨rfl, rfl, rfl, by decide +kernel, rfl, by decide +kernel, by decide +kernel⟩
abbrev s__law_envied : Stmt := topS 35
abbrev N__law_envied : List Str := ["dues", "joys", "sharing", "pairs", "i", "own", "k"]
theorem sc__law_envied : FnScope N__law_envied ["dues", "joys", "sharing"] (defScope s__law_envied) := ⟨rfl, rfl, rfl, by decide +kernel, rfl, by decide +kernel, by decide +kernel⟩
abbrev s__law_short : Stmt := topS 36
abbrev N__law_short : List Str := ["dues", "joys", "sharing", "whole", "short", "i", "part"]
theorem sc__law_short : FnScope N__law_short ["dues", "joys", "sharing"] (defScope s__law_short) := ⟨rfl, rfl, rfl, by decide +kernel, rfl, by decide +kernel, by decide +kernel⟩
abbrev s__law_asked : Stmt := topS 37
abbrev N__law_asked : List Str := ["dues", "joys", "sharing", "pairs", "short", "passed", "row"]
theorem sc__law_asked : FnScope N__law_asked ["dues", "joys", "sharing"] (defScope s__law_asked) := ⟨rfl, rfl, rfl, by decide +kernel, rfl, by decide +kernel, by decide +kernel⟩
abbrev s__law_changed : Stmt := topS 38
abbrev N__law_changed : List Str := ["digits", "at", "sharing", "rows", "row", "j", "step"]
theorem sc__law_changed : FnScope N__law_changed ["digits", "at", "sharing"] (defScope s__law_changed) := ⟨rfl, rfl, rfl, by decide +kernel, rfl, by decide +kernel, by decide +kernel⟩
abbrev s_law : Stmt := topS 39
abbrev N_law : List Str := ["script", "kinds", "people", "goods", "wide", "head", "dues", "i", "joys", "sharing", "digits", "k", "tied", "row", "share", "whole", "even", "j", "due"]
theorem sc_law : FnScope N_law ["script"] (defScope s_law) := ⟨rfl, rfl, rfl, by decide +kernel, rfl, by decide +kernel, by decide +kernel⟩
structure Txt (K : PySem.W.Frag) (mg : Str → Option Value) : Prop where
  g_fraction : mg "fraction" = some (.ref (He.ga K "fraction"))
  F_fraction : FunD K "fraction" "fraction" (defArgs s_fraction) (defBody s_fraction) (defScope s_fraction) [.int 1] [] (He.ga K "fraction") (fdAt K (He.ga K "fraction"))
  g_multiply : mg "multiply" = some (.ref (He.ga K "multiply"))
  F_multiply : FunD K "multiply" "multiply" (defArgs s_multiply) (defBody s_multiply) (defScope s_multiply) [] [] (He.ga K "multiply") (fdAt K (He.ga K "multiply"))
  g_divide : mg "divide" = some (.ref (He.ga K "divide"))
  F_divide : FunD K "divide" "divide" (defArgs s_divide) (defBody s_divide) (defScope s_divide) [] [] (He.ga K "divide") (fdAt K (He.ga K "divide"))
  g_less : mg "less" = some (.ref (He.ga K "less"))
  F_less : FunD K "less" "less" (defArgs s_less) (defBody s_less) (defScope s_less) [] [] (He.ga K "less") (fdAt K (He.ga K "less"))
  g_total : mg "total" = some (.ref (He.ga K "total"))
  F_total : FunD K "total" "total" (defArgs s_total) (defBody s_total) (defScope s_total) [] [] (He.ga K "total") (fdAt K (He.ga K "total"))
  g_dot : mg "dot" = some (.ref (He.ga K "dot"))
  F_dot : FunD K "dot" "dot" (defArgs s_dot) (defBody s_dot) (defScope s_dot) [] [] (He.ga K "dot") (fdAt K (He.ga K "dot"))
  g_joys_reached : mg "joys_reached" = some (.ref (He.ga K "joys_reached"))
  F_joys_reached : FunD K "joys_reached" "joys_reached" (defArgs s_joys_reached) (defBody s_joys_reached) (defScope s_joys_reached) [] [] (He.ga K "joys_reached") (fdAt K (He.ga K "joys_reached"))
  g_envies : mg "envies" = some (.ref (He.ga K "envies"))
  F_envies : FunD K "envies" "envies" (defArgs s_envies) (defBody s_envies) (defScope s_envies) [] [] (He.ga K "envies") (fdAt K (He.ga K "envies"))
  g_even_short : mg "even_short" = some (.ref (He.ga K "even_short"))
  F_even_short : FunD K "even_short" "even_short" (defArgs s_even_short) (defBody s_even_short) (defScope s_even_short) [] [] (He.ga K "even_short") (fdAt K (He.ga K "even_short"))
  g__law_cell : mg "_law_cell" = some (.ref (He.ga K "_law_cell"))
  F__law_cell : FunD K "_law_cell" "_law_cell" (defArgs s__law_cell) (defBody s__law_cell) (defScope s__law_cell) [] [] (He.ga K "_law_cell") (fdAt K (He.ga K "_law_cell"))
  g__law_digits : mg "_law_digits" = some (.ref (He.ga K "_law_digits"))
  F__law_digits : FunD K "_law_digits" "_law_digits" (defArgs s__law_digits) (defBody s__law_digits) (defScope s__law_digits) [] [] (He.ga K "_law_digits") (fdAt K (He.ga K "_law_digits"))
  g__law_gcd : mg "_law_gcd" = some (.ref (He.ga K "_law_gcd"))
  F__law_gcd : FunD K "_law_gcd" "_law_gcd" (defArgs s__law_gcd) (defBody s__law_gcd) (defScope s__law_gcd) [] [] (He.ga K "_law_gcd") (fdAt K (He.ga K "_law_gcd"))
  g__law_lowest : mg "_law_lowest" = some (.ref (He.ga K "_law_lowest"))
  F__law_lowest : FunD K "_law_lowest" "_law_lowest" (defArgs s__law_lowest) (defBody s__law_lowest) (defScope s__law_lowest) [] [] (He.ga K "_law_lowest") (fdAt K (He.ga K "_law_lowest"))
  g__law_is_integer : mg "_law_is_integer" = some (.ref (He.ga K "_law_is_integer"))
  F__law_is_integer : FunD K "_law_is_integer" "_law_is_integer" (defArgs s__law_is_integer) (defBody s__law_is_integer) (defScope s__law_is_integer) [] [] (He.ga K "_law_is_integer") (fdAt K (He.ga K "_law_is_integer"))
  g__law_times : mg "_law_times" = some (.ref (He.ga K "_law_times"))
  F__law_times : FunD K "_law_times" "_law_times" (defArgs s__law_times) (defBody s__law_times) (defScope s__law_times) [] [] (He.ga K "_law_times") (fdAt K (He.ga K "_law_times"))
  g__law_over : mg "_law_over" = some (.ref (He.ga K "_law_over"))
  F__law_over : FunD K "_law_over" "_law_over" (defArgs s__law_over) (defBody s__law_over) (defScope s__law_over) [] [] (He.ga K "_law_over") (fdAt K (He.ga K "_law_over"))
  g__law_plus : mg "_law_plus" = some (.ref (He.ga K "_law_plus"))
  F__law_plus : FunD K "_law_plus" "_law_plus" (defArgs s__law_plus) (defBody s__law_plus) (defScope s__law_plus) [] [] (He.ga K "_law_plus") (fdAt K (He.ga K "_law_plus"))
  g__law_less : mg "_law_less" = some (.ref (He.ga K "_law_less"))
  F__law_less : FunD K "_law_less" "_law_less" (defArgs s__law_less) (defBody s__law_less) (defScope s__law_less) [] [] (He.ga K "_law_less") (fdAt K (He.ga K "_law_less"))
  g__law_sum : mg "_law_sum" = some (.ref (He.ga K "_law_sum"))
  F__law_sum : FunD K "_law_sum" "_law_sum" (defArgs s__law_sum) (defBody s__law_sum) (defScope s__law_sum) [] [] (He.ga K "_law_sum") (fdAt K (He.ga K "_law_sum"))
  g__law_numbers : mg "_law_numbers" = some (.ref (He.ga K "_law_numbers"))
  F__law_numbers : FunD K "_law_numbers" "_law_numbers" (defArgs s__law_numbers) (defBody s__law_numbers) (defScope s__law_numbers) [] [] (He.ga K "_law_numbers") (fdAt K (He.ga K "_law_numbers"))
  g__law_pairs : mg "_law_pairs" = some (.ref (He.ga K "_law_pairs"))
  F__law_pairs : FunD K "_law_pairs" "_law_pairs" (defArgs s__law_pairs) (defBody s__law_pairs) (defScope s__law_pairs) [] [] (He.ga K "_law_pairs") (fdAt K (He.ga K "_law_pairs"))
  g__law_number : mg "_law_number" = some (.ref (He.ga K "_law_number"))
  F__law_number : FunD K "_law_number" "_law_number" (defArgs s__law_number) (defBody s__law_number) (defScope s__law_number) [] [] (He.ga K "_law_number") (fdAt K (He.ga K "_law_number"))
  g__law_joys : mg "_law_joys" = some (.ref (He.ga K "_law_joys"))
  F__law_joys : FunD K "_law_joys" "_law_joys" (defArgs s__law_joys) (defBody s__law_joys) (defScope s__law_joys) [] [] (He.ga K "_law_joys") (fdAt K (He.ga K "_law_joys"))
  g__law_weighted : mg "_law_weighted" = some (.ref (He.ga K "_law_weighted"))
  F__law_weighted : FunD K "_law_weighted" "_law_weighted" (defArgs s__law_weighted) (defBody s__law_weighted) (defScope s__law_weighted) [] [] (He.ga K "_law_weighted") (fdAt K (He.ga K "_law_weighted"))
  g__law_joy : mg "_law_joy" = some (.ref (He.ga K "_law_joy"))
  F__law_joy : FunD K "_law_joy" "_law_joy" (defArgs s__law_joy) (defBody s__law_joy) (defScope s__law_joy) [] [] (He.ga K "_law_joy") (fdAt K (He.ga K "_law_joy"))
  g__law_envied : mg "_law_envied" = some (.ref (He.ga K "_law_envied"))
  F__law_envied : FunD K "_law_envied" "_law_envied" (defArgs s__law_envied) (defBody s__law_envied) (defScope s__law_envied) [] [] (He.ga K "_law_envied") (fdAt K (He.ga K "_law_envied"))
  g__law_short : mg "_law_short" = some (.ref (He.ga K "_law_short"))
  F__law_short : FunD K "_law_short" "_law_short" (defArgs s__law_short) (defBody s__law_short) (defScope s__law_short) [] [] (He.ga K "_law_short") (fdAt K (He.ga K "_law_short"))
  g__law_asked : mg "_law_asked" = some (.ref (He.ga K "_law_asked"))
  F__law_asked : FunD K "_law_asked" "_law_asked" (defArgs s__law_asked) (defBody s__law_asked) (defScope s__law_asked) [] [] (He.ga K "_law_asked") (fdAt K (He.ga K "_law_asked"))
  g__law_changed : mg "_law_changed" = some (.ref (He.ga K "_law_changed"))
  F__law_changed : FunD K "_law_changed" "_law_changed" (defArgs s__law_changed) (defBody s__law_changed) (defScope s__law_changed) [] [] (He.ga K "_law_changed") (fdAt K (He.ga K "_law_changed"))
  g_law : mg "law" = some (.ref (He.ga K "law"))
  F_law : FunD K "law" "law" (defArgs s_law) (defBody s_law) (defScope s_law) [] [] (He.ga K "law") (fdAt K (He.ga K "law"))
  g_MarketError : mg "MarketError" = some (.ref (He.ga K "MarketError"))
  g_BadNumber : mg "BadNumber" = some (.ref (He.ga K "BadNumber"))
  z_abs : mg "abs" = none
  z_bool : mg "bool" = none
  z_enumerate : mg "enumerate" = none
  z_int : mg "int" = none
  z_isinstance : mg "isinstance" = none
  z_len : mg "len" = none
  z_list : mg "list" = none
  z_max : mg "max" = none
  z_range : mg "range" = none
  z_sum : mg "sum" = none
  z_tuple : mg "tuple" = none
  z_zip : mg "zip" = none
  m_gcd : mg "gcd" = some (.builtin "math.gcd")

section
variable {P : Program} {w : World} {K : PySem.W.Frag} {mg : Str → Option Value} {base : Heap}
theorem b0_fraction (T : Txt K mg) : ∃ ds, Vals (([.int 1] : List V).drop 1) ds ∧ Binds K (fdAt K (He.ga K "fraction")) ["num", "den"] ds := T.F_fraction.binds1 2 1 (List.cons_ne_nil _ _) rfl fun _ _ _ _ _ _ _ us its h1 h2 => match us, its, h1, h2 with | [_, _], [_], _, _ => ⟨_, rfl, rfl⟩
theorem b1_fraction (T : Txt K mg) : ∃ ds, Vals (([.int 1] : List V).drop 0) ds ∧ Binds K (fdAt K (He.ga K "fraction")) ["num", "den"] ds := T.F_fraction.binds1 1 0 (List.cons_ne_nil _ _) rfl fun _ _ _ _ _ _ _ us its h1 h2 => match us, its, h1, h2 with | [_], [_], _, _ => ⟨_, rfl, rfl⟩
theorem b_multiply (T : Txt K mg) : Binds K (fdAt K (He.ga K "multiply")) ["first", "second"] [] := T.F_multiply.bindsN fun _ _ _ _ _ _ us hl => match us, hl with | [_, _], _ => rfl
theorem b_divide (T : Txt K mg) : Binds K (fdAt K (He.ga K "divide")) ["first", "second"] [] := T.F_divide.bindsN fun _ _ _ _ _ _ us hl => match us, hl with | [_, _], _ => rfl
theorem b_less (T : Txt K mg) : Binds K (fdAt K (He.ga K "less")) ["first", "second"] [] := T.F_less.bindsN fun _ _ _ _ _ _ us hl => match us, hl with | [_, _], _ => rfl
theorem b_total (T : Txt K mg) : Binds K (fdAt K (He.ga K "total")) ["values"] [] := T.F_total.bindsN fun _ _ _ _ _ _ us hl => match us, hl with | [_], _ => rfl
theorem b_dot (T : Txt K mg) : Binds K (fdAt K (He.ga K "dot")) ["first", "second"] [] := T.F_dot.bindsN fun _ _ _ _ _ _ us hl => match us, hl with | [_, _], _ => rfl
theorem b_joys_reached (T : Txt K mg) : Binds K (fdAt K (He.ga K "joys_reached")) ["joys", "sharing"] [] := T.F_joys_reached.bindsN fun _ _ _ _ _ _ us hl => match us, hl with | [_, _], _ => rfl
theorem b_envies (T : Txt K mg) : Binds K (fdAt K (He.ga K "envies")) ["dues", "joys", "sharing"] [] := T.F_envies.bindsN fun _ _ _ _ _ _ us hl => match us, hl with | [_, _, _], _ => rfl
theorem b_even_short (T : Txt K mg) : Binds K (fdAt K (He.ga K "even_short")) ["dues", "joys", "sharing"] [] := T.F_even_short.bindsN fun _ _ _ _ _ _ us hl => match us, hl with | [_, _, _], _ => rfl
theorem b__law_cell (T : Txt K mg) : Binds K (fdAt K (He.ga K "_law_cell")) ["script", "k"] [] := T.F__law_cell.bindsN fun _ _ _ _ _ _ us hl => match us, hl with | [_, _], _ => rfl
theorem b__law_digits (T : Txt K mg) : Binds K (fdAt K (He.ga K "_law_digits")) ["cell", "base", "count"] [] := T.F__law_digits.bindsN fun _ _ _ _ _ _ us hl => match us, hl with | [_, _, _], _ => rfl
theorem b__law_gcd (T : Txt K mg) : Binds K (fdAt K (He.ga K "_law_gcd")) ["first", "second"] [] := T.F__law_gcd.bindsN fun _ _ _ _ _ _ us hl => match us, hl with | [_, _], _ => rfl
theorem b__law_lowest (T : Txt K mg) : Binds K (fdAt K (He.ga K "_law_lowest")) ["num", "den"] [] := T.F__law_lowest.bindsN fun _ _ _ _ _ _ us hl => match us, hl with | [_, _], _ => rfl
theorem b__law_is_integer (T : Txt K mg) : Binds K (fdAt K (He.ga K "_law_is_integer")) ["value"] [] := T.F__law_is_integer.bindsN fun _ _ _ _ _ _ us hl => match us, hl with | [_], _ => rfl
theorem b__law_times (T : Txt K mg) : Binds K (fdAt K (He.ga K "_law_times")) ["first", "second"] [] := T.F__law_times.bindsN fun _ _ _ _ _ _ us hl => match us, hl with | [_, _], _ => rfl
theorem b__law_over (T : Txt K mg) : Binds K (fdAt K (He.ga K "_law_over")) ["first", "second"] [] := T.F__law_over.bindsN fun _ _ _ _ _ _ us hl => match us, hl with | [_, _], _ => rfl
theorem b__law_plus (T : Txt K mg) : Binds K (fdAt K (He.ga K "_law_plus")) ["first", "second"] [] := T.F__law_plus.bindsN fun _ _ _ _ _ _ us hl => match us, hl with | [_, _], _ => rfl
theorem b__law_less (T : Txt K mg) : Binds K (fdAt K (He.ga K "_law_less")) ["first", "second"] [] := T.F__law_less.bindsN fun _ _ _ _ _ _ us hl => match us, hl with | [_, _], _ => rfl
theorem b__law_sum (T : Txt K mg) : Binds K (fdAt K (He.ga K "_law_sum")) ["values"] [] := T.F__law_sum.bindsN fun _ _ _ _ _ _ us hl => match us, hl with | [_], _ => rfl
theorem b__law_numbers (T : Txt K mg) : Binds K (fdAt K (He.ga K "_law_numbers")) ["value", "due"] [] := T.F__law_numbers.bindsN fun _ _ _ _ _ _ us hl => match us, hl with | [_, _], _ => rfl
theorem b__law_pairs (T : Txt K mg) : Binds K (fdAt K (He.ga K "_law_pairs")) ["value", "due"] [] := T.F__law_pairs.bindsN fun _ _ _ _ _ _ us hl => match us, hl with | [_, _], _ => rfl
theorem b__law_number (T : Txt K mg) : Binds K (fdAt K (He.ga K "_law_number")) ["digits", "at", "zero", "wide"] [] := T.F__law_number.bindsN fun _ _ _ _ _ _ us hl => match us, hl with | [_, _, _, _], _ => rfl
theorem b__law_joys (T : Txt K mg) : Binds K (fdAt K (He.ga K "_law_joys")) ["script", "people", "goods", "wide"] [] := T.F__law_joys.bindsN fun _ _ _ _ _ _ us hl => match us, hl with | [_, _, _, _], _ => rfl
theorem b__law_weighted (T : Txt K mg) : Binds K (fdAt K (He.ga K "_law_weighted")) ["script", "people", "goods"] [] := T.F__law_weighted.bindsN fun _ _ _ _ _ _ us hl => match us, hl with | [_, _, _], _ => rfl
theorem b__law_joy (T : Txt K mg) : Binds K (fdAt K (He.ga K "_law_joy")) ["joys", "row"] [] := T.F__law_joy.bindsN fun _ _ _ _ _ _ us hl => match us, hl with | [_, _], _ => rfl
theorem b__law_envied (T : Txt K mg) : Binds K (fdAt K (He.ga K "_law_envied")) ["dues", "joys", "sharing"] [] := T.F__law_envied.bindsN fun _ _ _ _ _ _ us hl => match us, hl with | [_, _, _], _ => rfl
theorem b__law_short (T : Txt K mg) : Binds K (fdAt K (He.ga K "_law_short")) ["dues", "joys", "sharing"] [] := T.F__law_short.bindsN fun _ _ _ _ _ _ us hl => match us, hl with | [_, _, _], _ => rfl
theorem b__law_asked (T : Txt K mg) : Binds K (fdAt K (He.ga K "_law_asked")) ["dues", "joys", "sharing"] [] := T.F__law_asked.bindsN fun _ _ _ _ _ _ us hl => match us, hl with | [_, _, _], _ => rfl
theorem b__law_changed (T : Txt K mg) : Binds K (fdAt K (He.ga K "_law_changed")) ["digits", "at", "sharing"] [] := T.F__law_changed.bindsN fun _ _ _ _ _ _ us hl => match us, hl with | [_, _, _], _ => rfl
theorem b_law (T : Txt K mg) : Binds K (fdAt K (He.ga K "law")) ["script"] [] := T.F_law.bindsN fun _ _ _ _ _ _ us hl => match us, hl with | [_], _ => rfl
theorem ok_fraction (T : Txt K mg) : FnOk P w K mg base CX0 1 (He.ga K "fraction") (fdAt K (He.ga K "fraction")) ["num", "den"] (spD K R_fraction) := by
  refine T.F_fraction.ok sc_fraction (fun vs H Q E h => ?_) (fun cdv A outer s H vs Q E hr h => ?_)
  · obtain ⟨_, _, _, _, r, hR, _⟩ := h
    exact r.length.trans (by cases hR; rfl)
  · refine ⟨_, PSs.nox (pss_cons (ps_if (pt_cmpR (op_eqK (K := K) rfl hr.units) (pv 1) pe_int (nomark _)) (pss_one ps_never) pss_nil)
    (pss_cons (ps_if (pt_cmpR op_lt (pv 1) pe_int (nomark _)) (pss_cons (ps_set (i := 0) sc_fraction.nd rfl (by first | exact Or.inl rfl | exact Or.inr rfl) (pe_un un_neg (pv 0)))
    (pss_one (ps_set (i := 1) sc_fraction.nd rfl (by first | exact Or.inl rfl | exact Or.inr rfl) (pe_un un_neg (pv 1))))) pss_nil)
    (pss_cons (ps_set (i := 2) sc_fraction.nd rfl (by first | exact Or.inl rfl | exact Or.inr rfl) (pe_callBfun cr_gcd (by rfl) T.m_gcd (pa_cons (pv 0) (pa_cons (pv 1) pa_nil))))
    (pss_one (ps_ret (pe_tup (pa_cons (pe_op op_fdivW (pv 0) (pv 2)) (pa_cons (pe_op op_fdivW (pv 1) (pv 2)) pa_nil)))))))), body_ok h fun ds d hR => ?_⟩
    obtain ⟨a, b, h0, hb⟩ := hR
    refine body_mk (ρ := [.dat (.int a), .dat (.int b), .any]) rfl ?_
    refine s_ifF (dt_is (b := false) (by walk_at "dt") (decide_eq_false h0)) (es_next' ?_)
    refine s_ifJ [.dat (.int (if b < 0 then -a else a)), .dat (.int (if b < 0 then -b else b)), .any] (by walk_at "dt") (fun hb => ?_) (fun hb => ?_) ?_
    · have hb' := of_decide_eq_true hb
      walk_at "s"
      walk_at "e"
      rw [if_pos hb', if_pos hb']
      exact Wk.refl _
    · have hb' := of_decide_eq_false hb
      walk_at "e"
      rw [if_neg hb', if_neg hb']
      exact Wk.refl _
    have hp : 0 < (if b < 0 then -b else b) := by split <;> omega
    have hs : (if b < 0 then -b else b).natAbs < 2 ^ 9000 := by
      split
      · rw [Int.natAbs_neg]; exact hb
      · exact hb
    have hg := fun i => gcd_div (a := if b < 0 then -a else a) (b := if b < 0 then -b else b) (i := i) (by omega) hs
    walk_at "s"
    refine es_ret (de_is (by
      apply de_tup
      · apply da_cons
        · apply de_op
          · walk_at "de"
          · walk_at "de"
          · exact rd_intC (hg _)
        · apply da_cons
          · apply de_op
            · walk_at "de"
            · walk_at "de"
            · exact rd_intC (hg _)
          · exact da_nil
      · walk_at "sz") ?_) rfl
    rw [← low_any _ _ hp]
    split
    · rw [Rat.divInt_neg', Int.neg_neg] <;> rfl
    · rfl
theorem ok_multiply (T : Txt K mg) : FnOk P w K mg base CX0 2 (He.ga K "multiply") (fdAt K (He.ga K "multiply")) ["first", "second"] (spD K R_multiply) := by
  refine T.F_multiply.ok sc_multiply (fun vs H Q E h => ?_) (fun cdv A outer s H vs Q E hr h => ?_)
  · obtain ⟨_, _, _, _, r, hR, _⟩ := h
    exact r.length.trans (by cases hR; rfl)
  · obtain ⟨_, v0_fraction, b0_fraction⟩ := b0_fraction T
    refine ⟨_, PSs.nox (pss_one (ps_ret (pe_call (ok_fraction T) (hr.mono (by decide)) (by rfl) T.g_fraction T.F_fraction.kp b0_fraction v0_fraction pass0 (pa_cons (pe_op op_mulG (pe_ix (ix_seqK (K := K) rfl) (pv 0) pe_int (fun _ _ => rfl)) (pe_ix (ix_seqK (K := K) rfl) (pv 1) pe_int (fun _ _ => rfl))) (pa_cons (pe_op op_mulG (pe_ix (ix_seqK (K := K) rfl) (pv 0) pe_int (fun _ _ => rfl)) (pe_ix (ix_seqK (K := K) rfl) (pv 1) pe_int (fun _ _ => rfl))) pa_nil))))), body_ok h fun ds d hR => ?_⟩
    obtain ⟨a, b, ha, hb⟩ := hR
    refine body_mk (ρ := [.dat (fq a), .dat (fq b)]) rfl ?_
    have h1 := cmul_of (i := a.num) (j := (b.den : Int)) (n := 4000) ha.nu (by rw [Int.natAbs_natCast]; exact hb.de) (by decide) (by decide)
    have h2 := cmul_of (i := b.num) (j := (a.den : Int)) (n := 4000) hb.nu (by rw [Int.natAbs_natCast]; exact ha.de) (by decide) (by decide)
    have h3 := cmul_of (i := (a.den : Int)) (j := (b.den : Int)) (n := 4000) (by rw [Int.natAbs_natCast]; exact ha.de) (by rw [Int.natAbs_natCast]; exact hb.de) (by decide) (by decide)
    have h4 := cmul_of (i := a.num) (j := b.num) (n := 4000) ha.nu hb.nu (by decide) (by decide)
    have h5 : ((a.den : Int) * (b.den : Int)).natAbs < 2 ^ 9000 := by
      rw [Int.natAbs_mul, Int.natAbs_natCast, Int.natAbs_natCast]
      exact pow_le_of (mul_lt_pow ha.de hb.de) (by decide)
    have h6 : (a.den : Int) * (b.den : Int) ≠ 0 := Int.mul_ne_zero (den_ne a) (den_ne b)
    
    refine es_ret (de_is (by
      apply de_call0
      · walk_at "da"
      · exact R_fraction.mk _ _ h6 h5) ?_) rfl
    rw [mul_divInt]
theorem ok_divide (T : Txt K mg) : FnOk P w K mg base CX0 2 (He.ga K "divide") (fdAt K (He.ga K "divide")) ["first", "second"] (spD K R_divide) := by
  refine T.F_divide.ok sc_divide (fun vs H Q E h => ?_) (fun cdv A outer s H vs Q E hr h => ?_)
  · obtain ⟨_, _, _, _, r, hR, _⟩ := h
    exact r.length.trans (by cases hR; rfl)
  · obtain ⟨_, v0_fraction, b0_fraction⟩ := b0_fraction T
    refine ⟨_, PSs.nox (pss_cons (ps_if (pt_cmpR (op_eqK (K := K) rfl hr.units) (pe_ix (ix_seqK (K := K) rfl) (pv 1) pe_int (fun _ _ => rfl)) pe_int (nomark _)) (pss_one ps_never) pss_nil)
    (pss_one (ps_ret (pe_call (ok_fraction T) (hr.mono (by decide)) (by rfl) T.g_fraction T.F_fraction.kp b0_fraction v0_fraction pass0 (pa_cons (pe_op op_mulG (pe_ix (ix_seqK (K := K) rfl) (pv 0) pe_int (fun _ _ => rfl)) (pe_ix (ix_seqK (K := K) rfl) (pv 1) pe_int (fun _ _ => rfl))) (pa_cons (pe_op op_mulG (pe_ix (ix_seqK (K := K) rfl) (pv 0) pe_int (fun _ _ => rfl)) (pe_ix (ix_seqK (K := K) rfl) (pv 1) pe_int (fun _ _ => rfl))) pa_nil)))))), body_ok h fun ds d hR => ?_⟩
    obtain ⟨a, b, ha, hb, h0⟩ := hR
    refine body_mk (ρ := [.dat (fq a), .dat (fq b)]) rfl ?_
    have h1 := cmul_of (i := a.num) (j := (b.den : Int)) (n := 4000) ha.nu (by rw [Int.natAbs_natCast]; exact hb.de) (by decide) (by decide)
    have h2 := cmul_of (i := b.num) (j := (a.den : Int)) (n := 4000) hb.nu (by rw [Int.natAbs_natCast]; exact ha.de) (by decide) (by decide)
    have h3 := cmul_of (i := (a.den : Int)) (j := (b.den : Int)) (n := 4000) (by rw [Int.natAbs_natCast]; exact ha.de) (by rw [Int.natAbs_natCast]; exact hb.de) (by decide) (by decide)
    have h4 := cmul_of (i := a.num) (j := b.num) (n := 4000) ha.nu hb.nu (by decide) (by decide)
    have h5 : ((a.den : Int) * (b.den : Int)).natAbs < 2 ^ 9000 := by
      rw [Int.natAbs_mul, Int.natAbs_natCast, Int.natAbs_natCast]
      exact pow_le_of (mul_lt_pow ha.de hb.de) (by decide)
    have h6 : (a.den : Int) * (b.den : Int) ≠ 0 := Int.mul_ne_zero (den_ne a) (den_ne b)
    
    have hn : b.num ≠ 0 := fun z => h0 (Rat.num_eq_zero.mp z)
    refine s_ifF (dt_is (b := false) (by walk_at "dt") (decide_eq_false hn)) (es_next' ?_)
    have h7 := cmul_of (i := (a.den : Int)) (j := b.num) (n := 4000) (by rw [Int.natAbs_natCast]; exact ha.de) hb.nu (by decide) (by decide)
    have h8 : ((a.den : Int) * b.num).natAbs < 2 ^ 9000 := by
      rw [Int.natAbs_mul, Int.natAbs_natCast]
      exact pow_le_of (mul_lt_pow ha.de hb.nu) (by decide)
    refine es_ret (de_is (by
      apply de_call0
      · walk_at "da"
      · exact R_fraction.mk _ _ (Int.mul_ne_zero (den_ne a) hn) h8) ?_) rfl
    rw [div_divInt]
theorem ok_less (T : Txt K mg) : FnOk P w K mg base CX0 1 (He.ga K "less") (fdAt K (He.ga K "less")) ["first", "second"] (spD K R_less) := by
  refine T.F_less.ok sc_less (fun vs H Q E h => ?_) (fun cdv A outer s H vs Q E hr h => ?_)
  · obtain ⟨_, _, _, _, r, hR, _⟩ := h
    exact r.length.trans (by cases hR; rfl)
  · refine ⟨_, PSs.nox (pss_one (ps_ret (pe_cmpR op_lt (pe_op op_mulG (pe_ix (ix_seqK (K := K) rfl) (pv 0) pe_int (fun _ _ => rfl)) (pe_ix (ix_seqK (K := K) rfl) (pv 1) pe_int (fun _ _ => rfl))) (pe_op op_mulG (pe_ix (ix_seqK (K := K) rfl) (pv 1) pe_int (fun _ _ => rfl)) (pe_ix (ix_seqK (K := K) rfl) (pv 0) pe_int (fun _ _ => rfl))) (nomark _)))), body_ok h fun ds d hR => ?_⟩
    obtain ⟨a, b, ha, hb⟩ := hR
    refine body_mk (ρ := [.dat (fq a), .dat (fq b)]) rfl ?_
    have h1 := cmul_of (i := a.num) (j := (b.den : Int)) (n := 4000) ha.nu (by rw [Int.natAbs_natCast]; exact hb.de) (by decide) (by decide)
    have h2 := cmul_of (i := b.num) (j := (a.den : Int)) (n := 4000) hb.nu (by rw [Int.natAbs_natCast]; exact ha.de) (by decide) (by decide)
    have h3 := cmul_of (i := (a.den : Int)) (j := (b.den : Int)) (n := 4000) (by rw [Int.natAbs_natCast]; exact ha.de) (by rw [Int.natAbs_natCast]; exact hb.de) (by decide) (by decide)
    have h4 := cmul_of (i := a.num) (j := b.num) (n := 4000) ha.nu hb.nu (by decide) (by decide)
    have h5 : ((a.den : Int) * (b.den : Int)).natAbs < 2 ^ 9000 := by
      rw [Int.natAbs_mul, Int.natAbs_natCast, Int.natAbs_natCast]
      exact pow_le_of (mul_lt_pow ha.de hb.de) (by decide)
    have h6 : (a.den : Int) * (b.den : Int) ≠ 0 := Int.mul_ne_zero (den_ne a) (den_ne b)
    
    refine es_ret (de_is (by walk_at "de") ?_) rfl
    congr 1
    exact decide_eq_decide.mpr (Rat.lt_iff a b).symm
theorem ok_total (T : Txt K mg) : FnOk P w K mg base CX0 1 (He.ga K "total") (fdAt K (He.ga K "total")) ["values"] (spD K R_total) := by
  refine T.F_total.ok sc_total (fun vs H Q E h => ?_) (fun cdv A outer s H vs Q E hr h => ?_)
  · obtain ⟨_, _, _, _, r, hR, _⟩ := h
    exact r.length.trans (by cases hR; rfl)
  · refine ⟨_, PSs.nox (pss_cons (ps_set (i := 1) sc_total.nd rfl (by first | exact Or.inl rfl | exact Or.inr rfl) pe_int)
    (pss_cons (ps_set (i := 2) sc_total.nd rfl (by first | exact Or.inl rfl | exact Or.inr rfl) pe_int)
    (pss_cons (ps_for PassesOwn.never rfl (pi_listK (K := K) rfl (pv 0)) (pg_name (i := 3) sc_total.nd rfl (by first | exact Or.inl rfl | exact Or.inr rfl)) (pss_cons (ps_set (i := 1) sc_total.nd rfl (by first | exact Or.inl rfl | exact Or.inr rfl) (pe_op (op_addK (K := K) rfl) (pe_op op_mulG (pv 1) (pe_ix (ix_seqK (K := K) rfl) (pv 3) pe_int (fun _ _ => rfl))) (pe_op op_mulG (pe_ix (ix_seqK (K := K) rfl) (pv 3) pe_int (fun _ _ => rfl)) (pv 2))))
    (pss_cons (ps_set (i := 2) sc_total.nd rfl (by first | exact Or.inl rfl | exact Or.inr rfl) (pe_op op_mulG (pv 2) (pe_ix (ix_seqK (K := K) rfl) (pv 3) pe_int (fun _ _ => rfl))))
    (pss_cons (ps_set (i := 4) sc_total.nd rfl (by first | exact Or.inl rfl | exact Or.inr rfl) (pe_callBfun cr_gcd (by rfl) T.m_gcd (pa_cons (pv 1) (pa_cons (pv 2) pa_nil))))
    (pss_cons (ps_set (i := 1) sc_total.nd rfl (by first | exact Or.inl rfl | exact Or.inr rfl) (pe_op op_fdivW (pv 1) (pv 4)))
    (pss_one (ps_set (i := 2) sc_total.nd rfl (by first | exact Or.inl rfl | exact Or.inr rfl) (pe_op op_fdivW (pv 2) (pv 4)))))))))
    (pss_one (ps_ret (pe_tup (pa_cons (pv 1) (pa_cons (pv 2) pa_nil)))))))), body_ok h fun ds d hR => ?_⟩
    obtain ⟨qs, hq, hs⟩ := hR
    refine body_mk (ρ := [.dat (.lst (qs.map fq)), .any, .any, .any, .any]) rfl ?_
    walk_at "s"
    walk_at "s"
    refine s_for (di_list (de_var rfl)) (fun i τ => τ = [.dat (.lst (qs.map fq)), .dat (.int (rsum (qs.take i)).num), .dat (.int (rsum (qs.take i)).den), .any, .any]) ⟨_, by walk_at "wk", rfl⟩ (fun i d τ hd hτ => ?_) (fun τ hτ => ?_)
    · subst hτ
      rw [List.getElem?_map] at hd
      obtain ⟨q, hq1, rfl⟩ := Option.map_eq_some_iff.mp hd
      have hi := (List.getElem?_eq_some_iff.mp hq1).1
      have bs := hs i (by omega)
      have bq := hq q (List.mem_of_getElem? hq1)
      have es : rsum (qs.take (i + 1)) = rsum (qs.take i) + q := by
        rw [List.take_add_one, hq1]
        exact rsum_snoc _ _
      generalize rsum (qs.take i) = s at bs es
      have h1 := cmul_of (i := s.num) (j := (q.den : Int)) (n := 4000) bs.nu (by rw [Int.natAbs_natCast]; exact bq.de) (by decide) (by decide)
      have h2 := cmul_of (i := q.num) (j := (s.den : Int)) (n := 4000) bq.nu (by rw [Int.natAbs_natCast]; exact bs.de) (by decide) (by decide)
      have h3 := cmul_of (i := (s.den : Int)) (j := (q.den : Int)) (n := 4000) (by rw [Int.natAbs_natCast]; exact bs.de) (by rw [Int.natAbs_natCast]; exact bq.de) (by decide) (by decide)
      have h5 : ((s.den : Int) * (q.den : Int)).natAbs < 2 ^ 9000 := by
        rw [Int.natAbs_mul, Int.natAbs_natCast, Int.natAbs_natCast]
        exact pow_le_of (mul_lt_pow bs.de bq.de) (by decide)
      have h6 : (0 : Int) < (s.den : Int) * (q.den : Int) := Int.mul_pos (den_pos s) (den_pos q)
      have hg := fun k => gcd_div (a := s.num * q.den + q.num * s.den) (b := (s.den : Int) * (q.den : Int)) (i := k) (by omega) h5
      obtain ⟨l1, l2⟩ := low_num (a := s.num * q.den + q.num * s.den) h6
      rw [add_divInt] at l1 l2
      refine ⟨_, dg_name, ?_⟩
      walk_at "norm"
      walk_at "s"
      walk_at "s"
      walk_at "s"
      apply s_set
      · apply de_op
        · walk_at "de"
        · walk_at "de"
        · exact rd_intC (hg _)
      walk_at "norm"
      apply es_set
      · apply de_op
        · walk_at "de"
        · walk_at "de"
        · exact rd_intC (hg _)
      walk_at "norm"
      refine ⟨_, ?_, rfl⟩
      rw [es, ← l1, ← l2]
      walk_at "wk"
    · subst hτ
      rw [List.length_map, List.take_length]
      refine es_ret (de_is (by walk_at "de") ?_) rfl
      rfl
theorem ok_dot (T : Txt K mg) : FnOk P w K mg base CX0 3 (He.ga K "dot") (fdAt K (He.ga K "dot")) ["first", "second"] (spD K R_dot) := by
  refine T.F_dot.ok sc_dot (fun vs H Q E h => ?_) (fun cdv A outer s H vs Q E hr h => ?_)
  · obtain ⟨_, _, _, _, r, hR, _⟩ := h
    exact r.length.trans (by cases hR; rfl)
  · refine ⟨_, PSs.nox (pss_one (ps_ret (pe_call (ok_total T) (hr.mono (by decide)) (by rfl) T.g_total T.F_total.kp (b_total T) .nil pass0 (pa_cons (pe_lc (own := [("a", 2), ("b", 3)]) (g := gTup K 2 (gCons (gName 2) (gCons (gName 3) gNil))) (tt := tYes) rfl sc_dot.nd (RZ.pi_zipA (by rfl) T.z_zip (pa_cons (pv 0) (pa_cons (pv 1) pa_nil))) (blkOk_by (N := N_dot) (sc := defScope s_dot) (by first | decide +kernel | kernel_rfl)) (fun _ _ _ _ _ => pg_tup rfl (pgs_cons (pg_name (i := 2) sc_dot.nd rfl (by first | exact Or.inl rfl | exact Or.inr rfl)) (pgs_cons (pg_name (i := 3) sc_dot.nd rfl (by first | exact Or.inl rfl | exact Or.inr rfl)) pgs_nil))) (fun _ _ _ _ _ => pts_nil) (fun _ _ _ _ _ => (pe_call (ok_multiply T) (hr.mono (by decide)) (by rfl) T.g_multiply T.F_multiply.kp (b_multiply T) .nil pass0 (pa_cons (pv 2) (pa_cons (pv 3) pa_nil))))) pa_nil)))), body_ok h fun ds d hR => ?_⟩
    obtain ⟨qs, rs, hl, hle, hq, hr', hs⟩ := hR
    refine body_mk (ρ := [.dat (.lst (qs.map fq)), .dat (.lst (rs.map fq)), .any, .any]) rfl ?_
    have hlen : (List.zip qs rs).length < sizeLine := by
      rw [List.length_zip]
      exact Nat.lt_of_le_of_lt (Nat.min_le_left _ _) (Nat.lt_of_le_of_lt hle (by decide))
    have e : (List.zip qs rs).map (fun p => fq (p.1 * p.2)) = (List.zipWith (· * ·) qs rs).map fq := by
      rw [List.map_zipWith, List.zip, List.map_zipWith]
    apply es_ret
    · apply de_call0
      · apply da_cons
        · refine DL.de (dl_is (dl_lcA (List.zip qs rs) (fun p => .tup [fq p.1, fq p.2]) (fun p => fq (p.1 * p.2)) ?_ hlen ?_) e)
          · rw [← zipD_map fq fq]
            apply di_zip
            walk_at "da"
          · intro i p hp
            have m := List.mem_of_getElem? hp
            have b1 := hq p.1 (List.of_mem_zip m).1
            have b2 := hr' p.2 (List.of_mem_zip m).2
            refine ⟨_, dgw_tup (dgws_cons (dgw_name (by decide)) (dgws_cons (dgw_name (by decide)) dgws_nil)) rfl, ?_⟩
            apply de_call0
            · walk_at "da"
            · exact R_multiply.mk _ _ (b1.mono (by decide)) (b2.mono (by decide))
        · exact da_nil
      · refine R_total.mk _ (fun q hq' => ?_) (fun i hi => hs i (by
          rw [List.length_zipWith] at hi
          omega))
        rw [← List.map_uncurry_zip_eq_zipWith] at hq'
        obtain ⟨p, hp, rfl⟩ := List.mem_map.mp hq'
        exact (mul_bd (hq p.1 (List.of_mem_zip hp).1) (hr' p.2 (List.of_mem_zip hp).2)).mono (by decide)
    · rfl
theorem ok_joys_reached (T : Txt K mg) : FnOk P w K mg base CX0 4 (He.ga K "joys_reached") (fdAt K (He.ga K "joys_reached")) ["joys", "sharing"] (spD K R_reached) := by
  refine T.F_joys_reached.ok sc_joys_reached (fun vs H Q E h => ?_) (fun cdv A outer s H vs Q E hr h => ?_)
  · obtain ⟨_, _, _, _, r, hR, _⟩ := h
    exact r.length.trans (by cases hR; rfl)
  · refine ⟨_, PSs.nox (pss_one (ps_ret (pe_callTy (call_tupleK (K := K) rfl) (by rfl) T.z_tuple (by decide +kernel) (pa_cons (pe_lc (own := [("i", 2)]) (g := gName 2) (tt := tYes) rfl sc_joys_reached.nd (pi_range1 (by rfl) T.z_range (pa_cons (pe_callB (call_lenK (K := K) rfl) (by rfl) T.z_len (by decide +kernel) (pa_cons (pv 0) pa_nil)) pa_nil)) (blkOk_by (N := N_joys_reached) (sc := defScope s_joys_reached) (by first | decide +kernel | kernel_rfl)) (fun _ _ _ _ _ => pg_name (i := 2) sc_joys_reached.nd rfl (by first | exact Or.inl rfl | exact Or.inr rfl)) (fun _ _ _ _ _ => pts_nil) (fun _ _ _ _ _ => (pe_call (ok_dot T) (hr.mono (by decide)) (by rfl) T.g_dot T.F_dot.kp (b_dot T) .nil pass0 (pa_cons (pe_ix (ix_seqK (K := K) rfl) (pv 0) (pv 2) (fun _ _ => rfl)) (pa_cons (pe_ix (ix_seqK (K := K) rfl) (pv 1) (pv 2) (fun _ _ => rfl)) pa_nil))))) pa_nil)))), body_ok h fun ds d hR => ?_⟩
    obtain ⟨p, g, D, J, S, m⟩ := hR
    refine body_mk (ρ := [.dat (mat p g J), .dat (mat p g S), .any]) rfl ?_
    have m6 := m.p6
    refine es_ret (de_is (by
      apply de_cb
      · apply da_cons
        · refine DL.de (dl_lcA (List.range p) (fun i => .int (i : Nat)) (fun i => fq (jo g J S i i)) (di_range1 (n := (p : Int)) (by
            apply da_cons
            · refine de_cb (da_cons (de_var rfl) da_nil) (RDC.l (rc_len (n := p) (by simp)))
            · exact da_nil) (by omega) (by omega)) (by rw [List.length_range]; exact Nat.lt_of_le_of_lt m6 (by decide)) ?_)
          intro i k hk
          obtain ⟨rfl, hkp⟩ := range_mem hk
          refine ⟨_, dgw_name (by decide), ?_⟩
          dsimp only [List.map, wipeE, List.set_cons_zero, List.set_cons_succ]
          apply de_call0
          · apply da_cons
            · exact de_op (de_var rfl) (de_var rfl) (rd_ixLG (atI_range (fun i => vec g (J i)) hkp rfl))
            · apply da_cons
              · exact de_op (de_var rfl) (de_var rfl) (rd_ixLG (atI_range (fun i => vec g (S i)) hkp rfl))
              · exact da_nil
          · have := Nat.mul_le_mul_left (40 + 300 + 1) m.g6
            exact dot_vec (a := 40) (b := 300) (m.j k hkp) (m.s k hkp) (by decide) (by decide) (by omega) (Nat.le_trans m.g6 (by decide))
        · exact da_nil
      · exact rc_tuple) rfl) rfl
theorem ok_envies (T : Txt K mg) : FnOk P w K mg base CX0 5 (He.ga K "envies") (fdAt K (He.ga K "envies")) ["dues", "joys", "sharing"] (spD K R_envies) := by
  refine T.F_envies.ok sc_envies (fun vs H Q E h => ?_) (fun cdv A outer s H vs Q E hr h => ?_)
  · obtain ⟨_, _, _, _, r, hR, _⟩ := h
    exact r.length.trans (by cases hR; rfl)
  · refine ⟨_, PSs.nox (pss_cons (ps_set (i := 3) sc_envies.nd rfl (by first | exact Or.inl rfl | exact Or.inr rfl) (pe_lst pa_nil))
    (pss_cons (ps_for PassesOwn.never rfl (pi_enumK (K := K) rfl (by rfl) T.z_enumerate (pa_cons (pe_call (ok_joys_reached T) (hr.mono (by decide)) (by rfl) T.g_joys_reached T.F_joys_reached.kp (b_joys_reached T) .nil pass0 (pa_cons (pv 1) (pa_cons (pv 2) pa_nil))) pa_nil)) (pg_tup rfl (pgs_cons (pg_name (i := 4) sc_envies.nd rfl (by first | exact Or.inl rfl | exact Or.inr rfl)) (pgs_cons (pg_name (i := 5) sc_envies.nd rfl (by first | exact Or.inl rfl | exact Or.inr rfl)) pgs_nil))) (pss_one (ps_for PassesOwn.never rfl (pi_enumK (K := K) rfl (by rfl) T.z_enumerate (pa_cons (pv 2) pa_nil)) (pg_tup rfl (pgs_cons (pg_name (i := 6) sc_envies.nd rfl (by first | exact Or.inl rfl | exact Or.inr rfl)) (pgs_cons (pg_name (i := 7) sc_envies.nd rfl (by first | exact Or.inl rfl | exact Or.inr rfl)) pgs_nil))) (pss_one (ps_if (pt_val (pe_call (ok_less T) (hr.mono (by decide)) (by rfl) T.g_less T.F_less.kp (b_less T) .nil pass0 (pa_cons (pe_call (ok_divide T) (hr.mono (by decide)) (by rfl) T.g_divide T.F_divide.kp (b_divide T) .nil pass0 (pa_cons (pv 5) (pa_cons (pe_ix (ix_seqK (K := K) rfl) (pv 0) (pv 4) (fun _ _ => rfl)) pa_nil))) (pa_cons (pe_call (ok_divide T) (hr.mono (by decide)) (by rfl) T.g_divide T.F_divide.kp (b_divide T) .nil pass0 (pa_cons (pe_call (ok_dot T) (hr.mono (by decide)) (by rfl) T.g_dot T.F_dot.kp (b_dot T) .nil pass0 (pa_cons (pe_ix (ix_seqK (K := K) rfl) (pv 1) (pv 4) (fun _ _ => rfl)) (pa_cons (pv 7) pa_nil))) (pa_cons (pe_ix (ix_seqK (K := K) rfl) (pv 0) (pv 6) (fun _ _ => rfl)) pa_nil))) pa_nil)))) (pss_one (ps_expr (pe_bm PySem.F.plainAttrs_list PySem.F.slot_list_append PySem.F.type_list_append mt_append (pv 3) (pa_cons (pe_tup (pa_cons (pv 4) (pa_cons (pv 6) pa_nil))) pa_nil)))) pss_nil)))))
    (pss_one (ps_ret (pe_callTy (call_tupleK (K := K) rfl) (by rfl) T.z_tuple (by decide +kernel) (pa_cons (pv 3) pa_nil)))))), body_ok h fun ds d hR => ?_⟩
    obtain ⟨p, g, D, J, S, m⟩ := hR
    have m6 := m.p6
    have g6 := m.g6
    have hmul := Nat.mul_le_mul_left (40 + 300 + 1) m.g6
    refine body_mk (ρ := [.dat (vec p D), .dat (mat p g J), .dat (mat p g S), .any, .any, .any, .any, .any]) rfl ?_
    walk_at "own"
    refine s_for (di_enumT (ds := (List.range p).map fun i => fq (jo g J S i i)) (da_cons (de_call0 (by walk_at "da") (R_reached.mk p g D J S m)) da_nil)) (fun i τ => τ = [.dat (vec p D), .dat (mat p g J), .dat (mat p g S), .own ((eall (cE g D J S) p i).map pi), .any, .any, .any, .any]) ⟨_, by walk_at "wk", rfl⟩ (fun i d τ hd hτ => ?_) (fun τ hτ => ?_)
    · subst hτ
      obtain ⟨hi, rfl⟩ := enum_get hd
      refine ⟨_, dg_tup (dgs_cons dg_name (dgs_cons dg_name dgs_nil)) rfl, ?_⟩
      walk_at "norm"
      refine es_for (di_enumL (ds := (List.range p).map fun i => vec g (S i)) (da_cons (de_var rfl) da_nil)) (fun k τ => τ = [.dat (vec p D), .dat (mat p g J), .dat (mat p g S), .own ((eall (cE g D J S) p i ++ erow (cE g D J S i) i k).map pi), .dat (.int (i : Nat)), .dat (fq (jo g J S i i)), .any, .any]) ⟨_, ?_, rfl⟩ (fun k d τ hd hτ => ?_) (fun τ hτ => ?_)
      · show Wk _ [.dat (vec p D), .dat (mat p g J), .dat (mat p g S), .own ((eall (cE g D J S) p i ++ []).map pi), .dat (.int (i : Nat)), .dat (fq (jo g J S i i)), .any, .any]
        rw [List.append_nil]
        walk_at "wk"
      · subst hτ
        obtain ⟨hk, rfl⟩ := enum_get hd
        refine ⟨_, dg_tup (dgs_cons dg_name (dgs_cons dg_name dgs_nil)) rfl, ?_⟩
        walk_at "norm"
        have b1 := m.jo hi hi
        have b2 := m.jo hi hk
        have d1 := m.d i hi
        have d2 := m.d k hk
        have hsz : ((eall (cE g D J S) p i ++ erow (cE g D J S i) i k).map pi).length < sizeLine := by
          rw [List.length_map, List.length_append]
          have a1 := eall_len (cE g D J S) p i
          have a2 := erow_len (cE g D J S i) i k
          have a3 := Nat.mul_le_mul (show i ≤ 6 by omega) m6
          exact lt_line (by omega)
        refine es_if (b := cE g D J S i k) (by
          apply dt_B
          apply de_call0
          · apply da_cons
            · apply de_call0
              · apply da_cons
                · exact de_var rfl
                · apply da_cons
                  · exact de_op (de_var rfl) (de_var rfl) (rd_ixLG (atI_range (fun i => fq (D i)) hi rfl))
                  · exact da_nil
              · exact R_divide.mk _ _ (b1.mono (by decide)) (d1.2.mono (by decide)) (Rat.ne_of_gt d1.1)
            · apply da_cons
              · apply de_call0
                · apply da_cons
                  · apply de_call0
                    · apply da_cons
                      · exact de_op (de_var rfl) (de_var rfl) (rd_ixLG (atI_range (fun i => vec g (J i)) hi rfl))
                      · walk_at "da"
                    · exact dot_vec (a := 40) (b := 300) (m.j i hi) (m.s k hk) (by decide) (by decide) (by omega) (Nat.le_trans g6 (by decide))
                  · apply da_cons
                    · exact de_op (de_var rfl) (de_var rfl) (rd_ixLG (atI_range (fun i => fq (D i)) hk rfl))
                    · exact da_nil
                · exact R_divide.mk _ _ (b2.mono (by decide)) (d2.2.mono (by decide)) (Rat.ne_of_gt d2.1)
              · exact da_nil
          · exact R_less.mk _ _ ((div_bd b1 d1.2 d1.1).mono (by decide)) ((div_bd b2 d2.2 d2.1).mono (by decide))) (fun h => ?_) (fun h => ?_)
        · apply es_append
          · rfl
          · walk_at "de"
          · exact hsz
          walk_at "norm"
          refine ⟨_, ?_, rfl⟩
          rw [show (eall (cE g D J S) p i ++ erow (cE g D J S i) i (k + 1)).map pi = (eall (cE g D J S) p i ++ erow (cE g D J S i) i k).map pi ++ [Dt.tup [.int (i : Nat), .int (k : Nat)]] by rw [erow_succ, if_pos h, ← List.append_assoc]; exact List.map_append]
          walk_at "wk"
        · walk_at "e"
          refine ⟨_, ?_, rfl⟩
          rw [erow_succ, if_neg (by rw [h]; decide), List.append_nil]
          walk_at "wk"
      · subst hτ
        rw [enum_len]
        exact ⟨_, by walk_at "wk", rfl⟩
    · subst hτ
      rw [enum_len]
      apply es_ret
      · walk_at "de"
      · rfl
theorem ok_even_short (T : Txt K mg) : FnOk P w K mg base CX0 5 (He.ga K "even_short") (fdAt K (He.ga K "even_short")) ["dues", "joys", "sharing"] (spD K R_even) := by
  refine T.F_even_short.ok sc_even_short (fun vs H Q E h => ?_) (fun cdv A outer s H vs Q E hr h => ?_)
  · obtain ⟨_, _, _, _, r, hR, _⟩ := h
    exact r.length.trans (by cases hR; rfl)
  · refine ⟨_, PSs.nox (pss_cons (ps_set (i := 3) sc_even_short.nd rfl (by first | exact Or.inl rfl | exact Or.inr rfl) (pe_call (ok_total T) (hr.mono (by decide)) (by rfl) T.g_total T.F_total.kp (b_total T) .nil pass0 (pa_cons (pv 0) pa_nil)))
    (pss_cons (ps_set (i := 4) sc_even_short.nd rfl (by first | exact Or.inl rfl | exact Or.inr rfl) (pe_lst pa_nil))
    (pss_cons (ps_for PassesOwn.never rfl (pi_enumK (K := K) rfl (by rfl) T.z_enumerate (pa_cons (pe_call (ok_joys_reached T) (hr.mono (by decide)) (by rfl) T.g_joys_reached T.F_joys_reached.kp (b_joys_reached T) .nil pass0 (pa_cons (pv 1) (pa_cons (pv 2) pa_nil))) pa_nil)) (pg_tup rfl (pgs_cons (pg_name (i := 5) sc_even_short.nd rfl (by first | exact Or.inl rfl | exact Or.inr rfl)) (pgs_cons (pg_name (i := 6) sc_even_short.nd rfl (by first | exact Or.inl rfl | exact Or.inr rfl)) pgs_nil))) (pss_cons (ps_set (i := 7) sc_even_short.nd rfl (by first | exact Or.inl rfl | exact Or.inr rfl) (pe_call (ok_multiply T) (hr.mono (by decide)) (by rfl) T.g_multiply T.F_multiply.kp (b_multiply T) .nil pass0 (pa_cons (pe_call (ok_divide T) (hr.mono (by decide)) (by rfl) T.g_divide T.F_divide.kp (b_divide T) .nil pass0 (pa_cons (pe_ix (ix_seqK (K := K) rfl) (pv 0) (pv 5) (fun _ _ => rfl)) (pa_cons (pv 3) pa_nil))) (pa_cons (pe_call (ok_total T) (hr.mono (by decide)) (by rfl) T.g_total T.F_total.kp (b_total T) .nil pass0 (pa_cons (pe_ix (ix_seqK (K := K) rfl) (pv 1) (pv 5) (fun _ _ => rfl)) pa_nil)) pa_nil))))
    (pss_one (ps_if (pt_val (pe_call (ok_less T) (hr.mono (by decide)) (by rfl) T.g_less T.F_less.kp (b_less T) .nil pass0 (pa_cons (pv 6) (pa_cons (pv 7) pa_nil)))) (pss_one (ps_expr (pe_bm PySem.F.plainAttrs_list PySem.F.slot_list_append PySem.F.type_list_append mt_append (pv 4) (pa_cons (pv 5) pa_nil)))) pss_nil))))
    (pss_one (ps_ret (pe_callTy (call_tupleK (K := K) rfl) (by rfl) T.z_tuple (by decide +kernel) (pa_cons (pv 4) pa_nil))))))), body_ok h fun ds d hR => ?_⟩
    obtain ⟨p, g, D, J, S, m⟩ := hR
    have m6 := m.p6
    have g6 := m.g6
    refine body_mk (ρ := [.dat (vec p D), .dat (mat p g J), .dat (mat p g S), .any, .any, .any, .any, .any]) rfl ?_
    apply s_set
    · apply de_call0
      · walk_at "da"
      · exact tot_vec (m := 40) (fun k hk => (m.d k hk).2) (by have := Nat.mul_le_mul_left (40 + 1) m6; omega) (by decide)
    walk_at "norm"
    walk_at "own"
    refine s_for (di_enumT (ds := (List.range p).map fun i => fq (jo g J S i i)) (da_cons (de_call0 (by walk_at "da") (R_reached.mk p g D J S m)) da_nil)) (fun i τ => τ = [.dat (vec p D), .dat (mat p g J), .dat (mat p g S), .dat (fq (rs p D)), .own ((srow (cS p g D J S) i).map .int), .any, .any, .any]) ⟨_, by walk_at "wk", rfl⟩ (fun i d τ hd hτ => ?_) (fun τ hτ => ?_)
    · subst hτ
      obtain ⟨hi, rfl⟩ := enum_get hd
      refine ⟨_, dg_tup (dgs_cons dg_name (dgs_cons dg_name dgs_nil)) rfl, ?_⟩
      walk_at "norm"
      have w := m.w
      have d1 := m.d i hi
      have q1 := div_bd d1.2 w.2 w.1
      have q2 := m.jr hi
      apply s_set
      · apply de_call0
        · apply da_cons
          · apply de_call0
            · apply da_cons
              · exact de_op (de_var rfl) (de_var rfl) (rd_ixLG (atI_range (fun i => fq (D i)) hi rfl))
              · walk_at "da"
            · exact R_divide.mk _ _ (d1.2.mono (by decide)) (w.2.mono (by decide)) (Rat.ne_of_gt w.1)
          · apply da_cons
            · apply de_call0
              · apply da_cons
                · exact de_op (de_var rfl) (de_var rfl) (rd_ixLG (atI_range (fun i => vec g (J i)) hi rfl))
                · exact da_nil
              · exact tot_vec (m := 40) (m.j i hi) (by have := Nat.mul_le_mul_left (40 + 1) g6; omega) (by decide)
            · exact da_nil
        · exact R_multiply.mk _ _ (q1.mono (by decide)) (q2.mono (by decide))
      walk_at "norm"
      refine es_if (b := cS p g D J S i) (by
        apply dt_B
        apply de_call0
        · walk_at "da"
        · exact R_less.mk _ _ ((m.jo hi hi).mono (by decide)) ((mul_bd q1 q2).mono (by decide))) (fun h => ?_) (fun h => ?_)
      · apply es_append
        · rfl
        · walk_at "de"
        · rw [List.length_map]
          have := srow_len (cS p g D J S) i
          exact lt_line (by omega)
        walk_at "norm"
        refine ⟨_, ?_, rfl⟩
        rw [show (srow (cS p g D J S) (i + 1)).map Dt.int = (srow (cS p g D J S) i).map Dt.int ++ [Dt.int (i : Nat)] by rw [srow_succ, if_pos h]; exact List.map_append]
        walk_at "wk"
      · walk_at "e"
        refine ⟨_, ?_, rfl⟩
        rw [srow_succ, if_neg (by rw [h]; decide), List.append_nil]
        walk_at "wk"
    · subst hτ
      rw [enum_len]
      apply es_ret
      · walk_at "de"
      · rfl
theorem ok__law_cell (T : Txt K mg) : FnOk P w K mg base CX0 1 (He.ga K "_law_cell") (fdAt K (He.ga K "_law_cell")) ["script", "k"] (spD K R_cell) := by
  refine T.F__law_cell.ok sc__law_cell (fun vs H Q E h => ?_) (fun cdv A outer s H vs Q E hr h => ?_)
  · obtain ⟨_, _, _, _, r, hR, _⟩ := h
    exact r.length.trans (by cases hR; rfl)
  · refine ⟨_, PSs.nox (pss_cons (ps_if (pt_cmpR op_lt (pv 1) (pe_callB (call_lenK (K := K) rfl) (by rfl) T.z_len (by decide +kernel) (pa_cons (pv 0) pa_nil)) (nomark _)) (pss_one (ps_ret (pe_ix (ix_seqK (K := K) rfl) (pv 0) (pv 1) (fun _ _ => rfl)))) pss_nil)
    (pss_one (ps_ret pe_int))), body_ok h fun ds d hR => ?_⟩
    obtain ⟨ns, k, hl⟩ := hR
    refine body_mk (ρ := [.dat (.lst (ns.map .int)), .dat (.int (k : Int))]) rfl ?_
    refine s_if (b := decide ((k : Int) < ((ns.map Dt.int).length : Nat))) (by walk_at "dt") (fun h => ?_) (fun h => ?_)
    · have h := of_decide_eq_true h
      rw [List.length_map] at h
      have h2 : k < ns.length := by omega
      apply es_ret
      · apply de_op
        · walk_at "de"
        · walk_at "de"
        · apply rd_ixLG
          exact atI_map (atI_natL h2)
      · show Dt.int _ = Dt.int _
        congr 1
        rw [List.getD_eq_getElem?_getD, List.getElem?_eq_getElem h2]
        rfl
    · have h := of_decide_eq_false h
      rw [List.length_map] at h
      refine es_next' ?_
      apply es_ret
      · walk_at "de"
      · show Dt.int _ = Dt.int _
        congr 1
        rw [List.getD_eq_getElem?_getD, List.getElem?_eq_none (by omega)]
        rfl
theorem ok__law_digits (T : Txt K mg) : FnOk P w K mg base CX0 1 (He.ga K "_law_digits") (fdAt K (He.ga K "_law_digits")) ["cell", "base", "count"] (spD K R_digits) := by
  refine T.F__law_digits.ok sc__law_digits (fun vs H Q E h => ?_) (fun cdv A outer s H vs Q E hr h => ?_)
  · obtain ⟨_, _, _, _, r, hR, _⟩ := h
    exact r.length.trans (by cases hR; rfl)
  · refine ⟨_, PSs.nox (pss_cons (ps_set (i := 3) sc__law_digits.nd rfl (by first | exact Or.inl rfl | exact Or.inr rfl) (pe_lst pa_nil))
    (pss_cons (ps_set (i := 4) sc__law_digits.nd rfl (by first | exact Or.inl rfl | exact Or.inr rfl) (pv 0))
    (pss_cons (ps_for PassesOwn.never rfl (pi_range1 (by rfl) T.z_range (pa_cons (pv 2) pa_nil)) (pg_name (i := 5) sc__law_digits.nd rfl (by first | exact Or.inl rfl | exact Or.inr rfl)) (pss_one (ps_if (pt_cmpR op_ge (pv 0) (pe_op op_pow pe_int pe_int) (nomark _)) (pss_cons (ps_expr (pe_bm PySem.F.plainAttrs_list PySem.F.slot_list_append PySem.F.type_list_append mt_append (pv 3) (pa_cons (pe_op op_mod (pe_callTy (call_int1) (by rfl) T.z_int (by decide +kernel) (pa_cons (pv 4) pa_nil)) (pv 1)) pa_nil)))
    (pss_one (ps_set (i := 4) sc__law_digits.nd rfl (by first | exact Or.inl rfl | exact Or.inr rfl) (pe_op op_fdivW (pv 4) (pv 1))))) (pss_cons (ps_set (i := 4) sc__law_digits.nd rfl (by first | exact Or.inl rfl | exact Or.inr rfl) (pe_op op_mod (pe_op (op_addK (K := K) rfl) (pe_op (op_addK (K := K) rfl) (pe_op op_mulG (pe_callTy (call_int1) (by rfl) T.z_int (by decide +kernel) (pa_cons (pv 4) pa_nil)) pe_int) (pe_op op_mulG pe_int (pv 5))) pe_int) pe_int))
    (pss_cons (ps_set (i := 4) sc__law_digits.nd rfl (by first | exact Or.inl rfl | exact Or.inr rfl) (pe_op op_mod (pe_op (op_addK (K := K) rfl) (pe_op (op_addK (K := K) rfl) (pe_op op_mulG (pe_callTy (call_int1) (by rfl) T.z_int (by decide +kernel) (pa_cons (pv 4) pa_nil)) pe_int) (pe_op op_mulG pe_int (pv 5))) pe_int) pe_int))
    (pss_one (ps_expr (pe_bm PySem.F.plainAttrs_list PySem.F.slot_list_append PySem.F.type_list_append mt_append (pv 3) (pa_cons (pe_op op_mod (pe_callTy (call_int1) (by rfl) T.z_int (by decide +kernel) (pa_cons (pe_op op_fdivW (pv 4) pe_int) pa_nil)) (pv 1)) pa_nil)))))))))
    (pss_one (ps_ret (pv 3)))))), body_ok h fun ds d hR => ?_⟩
    obtain ⟨c, b, n, h0, h1, hn⟩ := hR
    refine body_mk (ρ := [.dat (.int c), .dat (.int b), .dat (.int (n : Int)), .any, .any, .any]) rfl ?_
    walk_at "own"
    walk_at "s"
    have hrow : ∀ i, i < n → ((dst c b i).1.map Dt.int).length < sizeLine := fun i hi => by
      rw [List.length_map, dst_len]
      exact Nat.lt_of_lt_of_le (by omega : i < 1000) (by decide)
    refine s_for (di_range1 (n := (n : Int)) (by walk_at "da") (by omega) (by omega)) (fun i τ => τ = [.dat (.int c), .dat (.int b), .dat (.int (n : Int)), .own ((dst c b i).1.map Dt.int), .dat (.int (dst c b i).2), .any]) ⟨_, by walk_at "wk", rfl⟩ (fun i d τ hd hτ => ?_) (fun τ hτ => ?_)
    · subst hτ
      have hi : i < n := by
        have := (List.getElem?_eq_some_iff.mp hd).1
        rw [rangeN_len] at this
        omega
      rw [rangeN_get (by omega)] at hd
      cases hd
      have hr1 := hrow i hi
      refine ⟨_, dg_name, ?_⟩
      walk_at "norm"
      refine es_if (b := decide ((10 : Int) ^ (18 : Int).toNat ≤ c)) (by walk_at "dt") (fun h => ?_) (fun h => ?_)
      · have h := of_decide_eq_true h
        walk_at "s"
        walk_at "e"
        refine ⟨_, ?_, rfl⟩
        rw [dst_yes h, List.map_append]
        walk_at "wk"
      · have h := of_decide_eq_false h
        walk_at "s"
        walk_at "s"
        walk_at "e"
        refine ⟨_, ?_, rfl⟩
        rw [dst_no h, List.map_append]
        walk_at "wk"
    · subst hτ
      rw [rangeN_len, Int.toNat_natCast]
      refine es_weak (τ := [.dat (.int c), .dat (.int b), .dat (.int (n : Int)), .dat (.lst ((dst c b n).1.map Dt.int)), .any, .any]) (by walk_at "wk") ?_
      apply es_ret
      · walk_at "de"
      · rfl
theorem ok__law_gcd (T : Txt K mg) : FnOk P w K mg base CX0 1 (He.ga K "_law_gcd") (fdAt K (He.ga K "_law_gcd")) ["first", "second"] (spD K R_gcdW) := by
  refine T.F__law_gcd.ok sc__law_gcd (fun vs H Q E h => ?_) (fun cdv A outer s H vs Q E hr h => ?_)
  · obtain ⟨_, _, _, _, r, hR, _⟩ := h
    exact r.length.trans (by cases hR; rfl)
  · refine ⟨_, PSs.nox (pss_cons (ps_for PassesOwn.never rfl (pi_range1 (by rfl) T.z_range (pa_cons pe_int pa_nil)) (pg_name (i := 2) sc__law_gcd.nd rfl (by first | exact Or.inl rfl | exact Or.inr rfl)) (pss_cons (ps_if (pt_cmpR (op_eqK (K := K) rfl hr.units) (pv 1) pe_int (nomark _)) (pss_one ps_break) pss_nil)
    (pss_cons (ps_set (i := 3) sc__law_gcd.nd rfl (by first | exact Or.inl rfl | exact Or.inr rfl) (pe_op op_mod (pe_callTy (call_int1) (by rfl) T.z_int (by decide +kernel) (pa_cons (pv 0) pa_nil)) (pv 1)))
    (pss_cons (ps_set (i := 0) sc__law_gcd.nd rfl (by first | exact Or.inl rfl | exact Or.inr rfl) (pv 1))
    (pss_one (ps_set (i := 1) sc__law_gcd.nd rfl (by first | exact Or.inl rfl | exact Or.inr rfl) (pv 3)))))))
    (pss_one (ps_ret (pv 0)))), body_ok h fun ds d hR => ?_⟩
    obtain ⟨a, b, hb⟩ := hR
    refine body_mk (ρ := [.dat (.int (a : Int)), .dat (.int (b : Int)), .any, .any]) rfl ?_
    have fin : ∀ i, (eu a b i).2 = 0 → (eu a b i).1 = Nat.gcd a b := fun i h => by
      rw [← eu_gcd a b i, h, Nat.gcd_zero_right]
    have done : ∀ i : Nat, ∀ x y : Sl, (eu a b i).2 = 0 → ES K (fun _ _ _ _ => False) (tRet (tVar 0)) [.dat (.int ((eu a b i).1 : Int)), .dat (.int ((eu a b i).2 : Int)), x, y] { nx := fun _ => Dt.int ((Nat.gcd a b : Nat) : Int) = .non, rt := fun e => e = Dt.int ((Nat.gcd a b : Nat) : Int) } := fun i x y h => by
      apply es_ret
      · walk_at "de"
      · rw [fin i h]
    refine s_for (di_range1 (n := 20000) (by walk_at "da") (by decide) (by decide)) (fun i τ => τ = [.dat (.int ((eu a b i).1 : Int)), .dat (.int ((eu a b i).2 : Int)), .any, .any] ∧ ∀ j, j < i → (eu a b j).2 ≠ 0) ⟨_, by walk_at "wk", rfl, fun j hj => absurd hj (Nat.not_lt_zero _)⟩ (fun i d τ hd hτ => ?_) (fun τ hτ => ?_)
    · obtain ⟨rfl, hz⟩ := hτ
      refine ⟨_, dg_name, ?_⟩
      walk_at "norm"
      refine s_if (b := decide (((eu a b i).2 : Int) = 0)) (by walk_at "dt") (fun h => ?_) (fun h => ?_)
      · have h := of_decide_eq_true h
        apply es_break
        exact done i _ _ (by omega)
      · have h := of_decide_eq_false h
        refine es_next' ?_
        have hp : (0 : Int) < ((eu a b i).2 : Int) := by omega
        walk_at "s"
        walk_at "s"
        walk_at "e"
        refine ⟨_, ?_, rfl, fun j hj => ?_⟩
        · show Wk _ [.dat (.int ((eu a b i).2 : Int)), .dat (.int (((eu a b i).1 % (eu a b i).2 : Nat) : Int)), .any, .any]
          rw [Int.natCast_emod]
          walk_at "wk"
        · rcases Nat.lt_or_ge j i with h2 | h2
          · exact hz j h2
          · have : j = i := by omega
            subst this
            omega
    · obtain ⟨rfl, hz⟩ := hτ
      obtain ⟨j, hj, h0⟩ := eu_ends a b hb
      rw [rangeN_len] at hz
      exact absurd h0 (hz j (by show j < 20000; omega))
theorem ok__law_lowest (T : Txt K mg) : FnOk P w K mg base CX0 2 (He.ga K "_law_lowest") (fdAt K (He.ga K "_law_lowest")) ["num", "den"] (spD K R_lowW) := by
  refine T.F__law_lowest.ok sc__law_lowest (fun vs H Q E h => ?_) (fun cdv A outer s H vs Q E hr h => ?_)
  · obtain ⟨_, _, _, _, r, hR, _⟩ := h
    exact r.length.trans (by cases hR; rfl)
  · refine ⟨_, PSs.nox (pss_cons (ps_set (i := 2) sc__law_lowest.nd rfl (by first | exact Or.inl rfl | exact Or.inr rfl) (pe_call (ok__law_gcd T) (hr.mono (by decide)) (by rfl) T.g__law_gcd T.F__law_gcd.kp (b__law_gcd T) .nil pass0 (pa_cons (pe_callB (call_abs) (by rfl) T.z_abs (by decide +kernel) (pa_cons (pv 0) pa_nil)) (pa_cons (pv 1) pa_nil))))
    (pss_one (ps_ret (pe_tup (pa_cons (pe_op op_fdivW (pv 0) (pv 2)) (pa_cons (pe_op op_fdivW (pv 1) (pv 2)) pa_nil)))))), body_ok h fun ds d hR => ?_⟩
    obtain ⟨a, b, h0, hb⟩ := hR
    refine body_mk (ρ := [.dat (.int a), .dat (.int b), .any]) rfl ?_
    have hg := fun i => gcd_div (a := a) (b := b) (i := i) (by omega) (pow_le_of hb (by decide))
    obtain ⟨n, rfl⟩ : ∃ n : Nat, b = (n : Int) := ⟨b.toNat, by omega⟩
    apply s_set
    · apply de_call0
      · walk_at "da"
      · exact R_gcdW.mk a.natAbs n (by rw [Int.natAbs_natCast] at hb; exact hb)
    walk_at "norm"
    rw [Int.natAbs_natCast] at hg
    apply es_ret
    · apply de_tup
      · apply da_cons
        · apply de_op
          · walk_at "de"
          · walk_at "de"
          · exact rd_intC (hg _)
        · apply da_cons
          · apply de_op
            · walk_at "de"
            · walk_at "de"
            · exact rd_intC (hg _)
          · exact da_nil
      · walk_at "sz"
    · have h := low_any a (n : Int) h0
      rw [Int.natAbs_natCast] at h
      exact h.symm
theorem ok__law_is_integer (T : Txt K mg) : FnOk P w K mg base CX0 1 (He.ga K "_law_is_integer") (fdAt K (He.ga K "_law_is_integer")) ["value"] (spD K R_isint) := by
  refine T.F__law_is_integer.ok sc__law_is_integer (fun vs H Q E h => ?_) (fun cdv A outer s H vs Q E hr h => ?_)
  · obtain ⟨_, _, _, _, r, hR, _⟩ := h
    exact r.length.trans (by cases hR; rfl)
  · refine ⟨_, PSs.nox (pss_one (ps_ret (pe_and (pe_callB (call_isiK (K := K) rfl) (by rfl) T.z_isinstance (by decide +kernel) (pa_cons (pv 0) (pa_cons (pe_bltn (v := .ty "int") (by rfl) T.z_int (by decide +kernel) rfl) pa_nil))) (pe_one (pe_not (pe_callB (call_isiK (K := K) rfl) (by rfl) T.z_isinstance (by decide +kernel) (pa_cons (pv 0) (pa_cons (pe_bltn (v := .ty "bool") (by rfl) T.z_bool (by decide +kernel) rfl) pa_nil)))))))), body_ok h fun ds d hR => ?_⟩
    obtain ⟨a⟩ := hR
    refine body_mk (ρ := [.dat (.int a)]) rfl ?_
    refine es_ret (de_is (by walk_at "de") ?_) rfl
    rfl
theorem ok__law_times (T : Txt K mg) : FnOk P w K mg base CX0 3 (He.ga K "_law_times") (fdAt K (He.ga K "_law_times")) ["first", "second"] (spD K R_multiply) := by
  refine T.F__law_times.ok sc__law_times (fun vs H Q E h => ?_) (fun cdv A outer s H vs Q E hr h => ?_)
  · obtain ⟨_, _, _, _, r, hR, _⟩ := h
    exact r.length.trans (by cases hR; rfl)
  · refine ⟨_, PSs.nox (pss_one (ps_ret (pe_call (ok__law_lowest T) (hr.mono (by decide)) (by rfl) T.g__law_lowest T.F__law_lowest.kp (b__law_lowest T) .nil pass0 (pa_cons (pe_op op_mulG (pe_ix (ix_seqK (K := K) rfl) (pv 0) pe_int (fun _ _ => rfl)) (pe_ix (ix_seqK (K := K) rfl) (pv 1) pe_int (fun _ _ => rfl))) (pa_cons (pe_op op_mulG (pe_ix (ix_seqK (K := K) rfl) (pv 0) pe_int (fun _ _ => rfl)) (pe_ix (ix_seqK (K := K) rfl) (pv 1) pe_int (fun _ _ => rfl))) pa_nil))))), body_ok h fun ds d hR => ?_⟩
    obtain ⟨a, b, ha, hb⟩ := hR
    refine body_mk (ρ := [.dat (fq a), .dat (fq b)]) rfl ?_
    have h1 := cmul_of (i := a.num) (j := (b.den : Int)) (n := 4000) ha.nu (by rw [Int.natAbs_natCast]; exact hb.de) (by decide) (by decide)
    have h2 := cmul_of (i := b.num) (j := (a.den : Int)) (n := 4000) hb.nu (by rw [Int.natAbs_natCast]; exact ha.de) (by decide) (by decide)
    have h3 := cmul_of (i := (a.den : Int)) (j := (b.den : Int)) (n := 4000) (by rw [Int.natAbs_natCast]; exact ha.de) (by rw [Int.natAbs_natCast]; exact hb.de) (by decide) (by decide)
    have h4 := cmul_of (i := a.num) (j := b.num) (n := 4000) ha.nu hb.nu (by decide) (by decide)
    have h5 : ((a.den : Int) * (b.den : Int)).natAbs < 2 ^ 9000 := by
      rw [Int.natAbs_mul, Int.natAbs_natCast, Int.natAbs_natCast]
      exact pow_le_of (mul_lt_pow ha.de hb.de) (by decide)
    have h6 : 0 < (a.den : Int) * (b.den : Int) := Int.mul_pos (den_pos a) (den_pos b)
    
    refine es_ret (de_is (by
      apply de_call0
      · walk_at "da"
      · exact R_lowW.mk _ _ h6 h5) ?_) rfl
    rw [mul_divInt]
theorem ok__law_over (T : Txt K mg) : FnOk P w K mg base CX0 3 (He.ga K "_law_over") (fdAt K (He.ga K "_law_over")) ["first", "second"] (spD K R_over) := by
  refine T.F__law_over.ok sc__law_over (fun vs H Q E h => ?_) (fun cdv A outer s H vs Q E hr h => ?_)
  · obtain ⟨_, _, _, _, r, hR, _⟩ := h
    exact r.length.trans (by cases hR; rfl)
  · refine ⟨_, PSs.nox (pss_one (ps_ret (pe_call (ok__law_lowest T) (hr.mono (by decide)) (by rfl) T.g__law_lowest T.F__law_lowest.kp (b__law_lowest T) .nil pass0 (pa_cons (pe_op op_mulG (pe_ix (ix_seqK (K := K) rfl) (pv 0) pe_int (fun _ _ => rfl)) (pe_ix (ix_seqK (K := K) rfl) (pv 1) pe_int (fun _ _ => rfl))) (pa_cons (pe_op op_mulG (pe_ix (ix_seqK (K := K) rfl) (pv 0) pe_int (fun _ _ => rfl)) (pe_ix (ix_seqK (K := K) rfl) (pv 1) pe_int (fun _ _ => rfl))) pa_nil))))), body_ok h fun ds d hR => ?_⟩
    obtain ⟨a, b, ha, hb, h0⟩ := hR
    refine body_mk (ρ := [.dat (fq a), .dat (fq b)]) rfl ?_
    have h1 := cmul_of (i := a.num) (j := (b.den : Int)) (n := 4000) ha.nu (by rw [Int.natAbs_natCast]; exact hb.de) (by decide) (by decide)
    have h2 := cmul_of (i := b.num) (j := (a.den : Int)) (n := 4000) hb.nu (by rw [Int.natAbs_natCast]; exact ha.de) (by decide) (by decide)
    have h3 := cmul_of (i := (a.den : Int)) (j := (b.den : Int)) (n := 4000) (by rw [Int.natAbs_natCast]; exact ha.de) (by rw [Int.natAbs_natCast]; exact hb.de) (by decide) (by decide)
    have h4 := cmul_of (i := a.num) (j := b.num) (n := 4000) ha.nu hb.nu (by decide) (by decide)
    have h5 : ((a.den : Int) * (b.den : Int)).natAbs < 2 ^ 9000 := by
      rw [Int.natAbs_mul, Int.natAbs_natCast, Int.natAbs_natCast]
      exact pow_le_of (mul_lt_pow ha.de hb.de) (by decide)
    have h6 : 0 < (a.den : Int) * (b.den : Int) := Int.mul_pos (den_pos a) (den_pos b)
    
    have hn : 0 < b.num := num_pos'.mpr h0
    have h7 := cmul_of (i := (a.den : Int)) (j := b.num) (n := 4000) (by rw [Int.natAbs_natCast]; exact ha.de) hb.nu (by decide) (by decide)
    have h8 : ((a.den : Int) * b.num).natAbs < 2 ^ 9000 := by
      rw [Int.natAbs_mul, Int.natAbs_natCast]
      exact pow_le_of (mul_lt_pow ha.de hb.nu) (by decide)
    
    refine es_ret (de_is (by
      apply de_call0
      · walk_at "da"
      · exact R_lowW.mk _ _ (Int.mul_pos (den_pos a) hn) h8) ?_) rfl
    rw [div_divInt]
theorem ok__law_plus (T : Txt K mg) : FnOk P w K mg base CX0 3 (He.ga K "_law_plus") (fdAt K (He.ga K "_law_plus")) ["first", "second"] (spD K R_add) := by
  refine T.F__law_plus.ok sc__law_plus (fun vs H Q E h => ?_) (fun cdv A outer s H vs Q E hr h => ?_)
  · obtain ⟨_, _, _, _, r, hR, _⟩ := h
    exact r.length.trans (by cases hR; rfl)
  · refine ⟨_, PSs.nox (pss_one (ps_ret (pe_call (ok__law_lowest T) (hr.mono (by decide)) (by rfl) T.g__law_lowest T.F__law_lowest.kp (b__law_lowest T) .nil pass0 (pa_cons (pe_op (op_addK (K := K) rfl) (pe_op op_mulG (pe_ix (ix_seqK (K := K) rfl) (pv 0) pe_int (fun _ _ => rfl)) (pe_ix (ix_seqK (K := K) rfl) (pv 1) pe_int (fun _ _ => rfl))) (pe_op op_mulG (pe_ix (ix_seqK (K := K) rfl) (pv 1) pe_int (fun _ _ => rfl)) (pe_ix (ix_seqK (K := K) rfl) (pv 0) pe_int (fun _ _ => rfl)))) (pa_cons (pe_op op_mulG (pe_ix (ix_seqK (K := K) rfl) (pv 0) pe_int (fun _ _ => rfl)) (pe_ix (ix_seqK (K := K) rfl) (pv 1) pe_int (fun _ _ => rfl))) pa_nil))))), body_ok h fun ds d hR => ?_⟩
    obtain ⟨a, b, ha, hb⟩ := hR
    refine body_mk (ρ := [.dat (fq a), .dat (fq b)]) rfl ?_
    have h1 := cmul_of (i := a.num) (j := (b.den : Int)) (n := 4000) ha.nu (by rw [Int.natAbs_natCast]; exact hb.de) (by decide) (by decide)
    have h2 := cmul_of (i := b.num) (j := (a.den : Int)) (n := 4000) hb.nu (by rw [Int.natAbs_natCast]; exact ha.de) (by decide) (by decide)
    have h3 := cmul_of (i := (a.den : Int)) (j := (b.den : Int)) (n := 4000) (by rw [Int.natAbs_natCast]; exact ha.de) (by rw [Int.natAbs_natCast]; exact hb.de) (by decide) (by decide)
    have h4 := cmul_of (i := a.num) (j := b.num) (n := 4000) ha.nu hb.nu (by decide) (by decide)
    have h5 : ((a.den : Int) * (b.den : Int)).natAbs < 2 ^ 9000 := by
      rw [Int.natAbs_mul, Int.natAbs_natCast, Int.natAbs_natCast]
      exact pow_le_of (mul_lt_pow ha.de hb.de) (by decide)
    have h6 : 0 < (a.den : Int) * (b.den : Int) := Int.mul_pos (den_pos a) (den_pos b)
    
    refine es_ret (de_is (by
      apply de_call0
      · walk_at "da"
      · exact R_lowW.mk _ _ h6 h5) ?_) rfl
    rw [add_divInt]
theorem ok__law_less (T : Txt K mg) : FnOk P w K mg base CX0 1 (He.ga K "_law_less") (fdAt K (He.ga K "_law_less")) ["first", "second"] (spD K R_less) := by
  refine T.F__law_less.ok sc__law_less (fun vs H Q E h => ?_) (fun cdv A outer s H vs Q E hr h => ?_)
  · obtain ⟨_, _, _, _, r, hR, _⟩ := h
    exact r.length.trans (by cases hR; rfl)
  · refine ⟨_, PSs.nox (pss_one (ps_ret (pe_cmpR op_lt (pe_op op_mulG (pe_ix (ix_seqK (K := K) rfl) (pv 0) pe_int (fun _ _ => rfl)) (pe_ix (ix_seqK (K := K) rfl) (pv 1) pe_int (fun _ _ => rfl))) (pe_op op_mulG (pe_ix (ix_seqK (K := K) rfl) (pv 1) pe_int (fun _ _ => rfl)) (pe_ix (ix_seqK (K := K) rfl) (pv 0) pe_int (fun _ _ => rfl))) (nomark _)))), body_ok h fun ds d hR => ?_⟩
    obtain ⟨a, b, ha, hb⟩ := hR
    refine body_mk (ρ := [.dat (fq a), .dat (fq b)]) rfl ?_
    have h1 := cmul_of (i := a.num) (j := (b.den : Int)) (n := 4000) ha.nu (by rw [Int.natAbs_natCast]; exact hb.de) (by decide) (by decide)
    have h2 := cmul_of (i := b.num) (j := (a.den : Int)) (n := 4000) hb.nu (by rw [Int.natAbs_natCast]; exact ha.de) (by decide) (by decide)
    have h3 := cmul_of (i := (a.den : Int)) (j := (b.den : Int)) (n := 4000) (by rw [Int.natAbs_natCast]; exact ha.de) (by rw [Int.natAbs_natCast]; exact hb.de) (by decide) (by decide)
    have h4 := cmul_of (i := a.num) (j := b.num) (n := 4000) ha.nu hb.nu (by decide) (by decide)
    have h5 : ((a.den : Int) * (b.den : Int)).natAbs < 2 ^ 9000 := by
      rw [Int.natAbs_mul, Int.natAbs_natCast, Int.natAbs_natCast]
      exact pow_le_of (mul_lt_pow ha.de hb.de) (by decide)
    have h6 : (a.den : Int) * (b.den : Int) ≠ 0 := Int.mul_ne_zero (den_ne a) (den_ne b)
    
    refine es_ret (de_is (by walk_at "de") ?_) rfl
    congr 1
    exact decide_eq_decide.mpr (Rat.lt_iff a b).symm
theorem ok__law_sum (T : Txt K mg) : FnOk P w K mg base CX0 4 (He.ga K "_law_sum") (fdAt K (He.ga K "_law_sum")) ["values"] (spD K R_total) := by
  refine T.F__law_sum.ok sc__law_sum (fun vs H Q E h => ?_) (fun cdv A outer s H vs Q E hr h => ?_)
  · obtain ⟨_, _, _, _, r, hR, _⟩ := h
    exact r.length.trans (by cases hR; rfl)
  · refine ⟨_, PSs.nox (pss_cons (ps_set (i := 1) sc__law_sum.nd rfl (by first | exact Or.inl rfl | exact Or.inr rfl) (pe_tup (pa_cons pe_int (pa_cons pe_int pa_nil))))
    (pss_cons (ps_for PassesOwn.never rfl (pi_listK (K := K) rfl (pv 0)) (pg_name (i := 2) sc__law_sum.nd rfl (by first | exact Or.inl rfl | exact Or.inr rfl)) (pss_one (ps_set (i := 1) sc__law_sum.nd rfl (by first | exact Or.inl rfl | exact Or.inr rfl) (pe_call (ok__law_plus T) (hr.mono (by decide)) (by rfl) T.g__law_plus T.F__law_plus.kp (b__law_plus T) .nil pass0 (pa_cons (pv 1) (pa_cons (pv 2) pa_nil))))))
    (pss_one (ps_ret (pv 1))))), body_ok h fun ds d hR => ?_⟩
    obtain ⟨qs, hq, hs⟩ := hR
    refine body_mk (ρ := [.dat (.lst (qs.map fq)), .any, .any]) rfl ?_
    walk_at "s"
    refine s_for (di_list (de_var rfl)) (fun i τ => τ = [.dat (.lst (qs.map fq)), .dat (fq (rsum (qs.take i))), .any]) ⟨_, by walk_at "wk", rfl⟩ (fun i d τ hd hτ => ?_) (fun τ hτ => ?_)
    · subst hτ
      rw [List.getElem?_map] at hd
      obtain ⟨q, hq1, rfl⟩ := Option.map_eq_some_iff.mp hd
      have hi := (List.getElem?_eq_some_iff.mp hq1).1
      have bs := hs i (by omega)
      have bq := hq q (List.mem_of_getElem? hq1)
      have es : rsum (qs.take (i + 1)) = rsum (qs.take i) + q := by
        rw [List.take_add_one, hq1]
        exact rsum_snoc _ _
      refine ⟨_, dg_name, ?_⟩
      walk_at "norm"
      apply es_set
      · apply de_call0
        · walk_at "da"
        · exact R_add.mk _ _ bs bq
      walk_at "norm"
      refine ⟨_, ?_, rfl⟩
      rw [es]
      walk_at "wk"
    · subst hτ
      rw [List.length_map, List.take_length]
      refine es_ret (de_is (by walk_at "de") ?_) rfl
      rfl
theorem ok__law_numbers (T : Txt K mg) : FnOk P w K mg base CX0 2 (He.ga K "_law_numbers") (fdAt K (He.ga K "_law_numbers")) ["value", "due"] (spD K R_numbers) := by
  refine T.F__law_numbers.ok sc__law_numbers (fun vs H Q E h => ?_) (fun cdv A outer s H vs Q E hr h => ?_)
  · obtain ⟨_, _, _, _, r, hR, _⟩ := h
    exact r.length.trans (by cases hR <;> rfl)
  · refine ⟨_, PSs.nox (pss_cons (ps_if (PW.pt (pw_or (pt_not (pt_val (pe_callB (call_isiK (K := K) rfl) (by rfl) T.z_isinstance (by decide +kernel) (pa_cons (pv 0) (pa_cons (pe_bltn (v := .ty "tuple") (by rfl) T.z_tuple (by decide +kernel) rfl) pa_nil))))) (pw_or1 (pt_cmpR (op_neK (K := K) rfl hr.units) (pe_callB (call_lenK (K := K) rfl) (by rfl) T.z_len (by decide +kernel) (pa_cons (pv 0) pa_nil)) (pe_callB (call_lenK (K := K) rfl) (by rfl) T.z_len (by decide +kernel) (pa_cons (pv 1) pa_nil)) (nomark _))))) (pss_one (ps_ret pe_bl)) pss_nil)
    (pss_cons (ps_for PassesOwn.never rfl (pi_range1 (by rfl) T.z_range (pa_cons (pe_callB (call_lenK (K := K) rfl) (by rfl) T.z_len (by decide +kernel) (pa_cons (pv 1) pa_nil)) pa_nil)) (pg_name (i := 2) sc__law_numbers.nd rfl (by first | exact Or.inl rfl | exact Or.inr rfl)) (pss_one (ps_if (PW.pt (pw_or (pt_not (pt_val (pe_call (ok__law_is_integer T) (hr.mono (by decide)) (by rfl) T.g__law_is_integer T.F__law_is_integer.kp (b__law_is_integer T) .nil pass0 (pa_cons (pe_ix (ix_seqK (K := K) rfl) (pv 0) (pv 2) (fun _ _ => rfl)) pa_nil)))) (pw_or1 (pt_cmpR (op_neK (K := K) rfl hr.units) (pe_ix (ix_seqK (K := K) rfl) (pv 0) (pv 2) (fun _ _ => rfl)) (pe_ix (ix_seqK (K := K) rfl) (pv 1) (pv 2) (fun _ _ => rfl)) (nomark _))))) (pss_one (ps_ret pe_bl)) pss_nil)))
    (pss_one (ps_ret pe_bl)))), body_ok h fun ds d hR => ?_⟩
    rcases hR with ⟨xs, hl⟩ | ⟨xs, hl⟩
    · refine body_mk (ρ := [.dat (.tup (xs.map .int)), .dat (.lst (xs.map .int)), .any]) rfl ?_
      have hn : (xs.map Dt.int).length = xs.length := by simp
      refine s_ifF (dt_is (b := false) (by
        apply dt_or
        · apply dt_not
          apply dt_B
          exact de_cb (da_cons (de_var rfl) (da_cons de_ty da_nil)) (rc_isi (b := true) rfl (by decide +kernel))
        · intro _
          apply dt_B
          exact de_op (de_lenT (de_var rfl) hn) (de_lenL (de_var rfl) hn) (RD2.l rd_neI)) (by simp)) (es_next' ?_)
      refine s_for (di_rangeN hl (da_cons (de_lenL (de_var rfl) hn) da_nil)) (fun i τ => τ = [.dat (.tup (xs.map .int)), .dat (.lst (xs.map .int)), .any]) ⟨_, by walk_at "wk", rfl⟩ (fun i d τ hd hτ => ?_) (fun τ hτ => ?_)
      · subst hτ
        obtain ⟨hi, rfl⟩ := rngN_get hd
        refine ⟨_, dg_name, ?_⟩
        walk_at "norm"
        have a := atI_getD (ds := xs) (i := (i : Int)) hi rfl
        apply es_ifF
        · refine dt_is (b := false) (by
            apply dt_or
            · apply dt_not
              apply dt_B
              exact de_call0 (da_cons (de_op (de_var rfl) (de_var rfl) (rd_ixTG a)) da_nil) (R_isint.mk _)
            · intro _
              apply dt_B
              exact de_op (de_op (de_var rfl) (de_var rfl) (rd_ixTG a)) (de_op (de_var rfl) (de_var rfl) (rd_ixLG a)) (RD2.l rd_neI)) (by simp)
        apply es_next
        exact ⟨_, by walk_at "wk", rfl⟩
      · subst hτ
        apply es_ret
        · walk_at "de"
        · rfl
    · refine body_mk (ρ := [.dat (.tup (xs.map .int)), .dat (.tup (xs.map .int)), .any]) rfl ?_
      have hn : (xs.map Dt.int).length = xs.length := by simp
      refine s_ifF (dt_is (b := false) (by
        apply dt_or
        · apply dt_not
          apply dt_B
          exact de_cb (da_cons (de_var rfl) (da_cons de_ty da_nil)) (rc_isi (b := true) rfl (by decide +kernel))
        · intro _
          apply dt_B
          exact de_op (de_lenT (de_var rfl) hn) (de_lenT (de_var rfl) hn) (RD2.l rd_neI)) (by simp)) (es_next' ?_)
      refine s_for (di_rangeN hl (da_cons (de_lenT (de_var rfl) hn) da_nil)) (fun i τ => τ = [.dat (.tup (xs.map .int)), .dat (.tup (xs.map .int)), .any]) ⟨_, by walk_at "wk", rfl⟩ (fun i d τ hd hτ => ?_) (fun τ hτ => ?_)
      · subst hτ
        obtain ⟨hi, rfl⟩ := rngN_get hd
        refine ⟨_, dg_name, ?_⟩
        walk_at "norm"
        have a := atI_getD (ds := xs) (i := (i : Int)) hi rfl
        apply es_ifF
        · refine dt_is (b := false) (by
            apply dt_or
            · apply dt_not
              apply dt_B
              exact de_call0 (da_cons (de_op (de_var rfl) (de_var rfl) (rd_ixTG a)) da_nil) (R_isint.mk _)
            · intro _
              apply dt_B
              exact de_op (de_op (de_var rfl) (de_var rfl) (rd_ixTG a)) (de_op (de_var rfl) (de_var rfl) (rd_ixTG a)) (RD2.l rd_neI)) (by simp)
        apply es_next
        exact ⟨_, by walk_at "wk", rfl⟩
      · subst hτ
        apply es_ret
        · walk_at "de"
        · rfl
theorem ok__law_pairs (T : Txt K mg) : FnOk P w K mg base CX0 3 (He.ga K "_law_pairs") (fdAt K (He.ga K "_law_pairs")) ["value", "due"] (spD K R_pairs) := by
  refine T.F__law_pairs.ok sc__law_pairs (fun vs H Q E h => ?_) (fun cdv A outer s H vs Q E hr h => ?_)
  · obtain ⟨_, _, _, _, r, hR, _⟩ := h
    exact r.length.trans (by cases hR; rfl)
  · refine ⟨_, PSs.nox (pss_cons (ps_if (PW.pt (pw_or (pt_not (pt_val (pe_callB (call_isiK (K := K) rfl) (by rfl) T.z_isinstance (by decide +kernel) (pa_cons (pv 0) (pa_cons (pe_bltn (v := .ty "tuple") (by rfl) T.z_tuple (by decide +kernel) rfl) pa_nil))))) (pw_or1 (pt_cmpR (op_neK (K := K) rfl hr.units) (pe_callB (call_lenK (K := K) rfl) (by rfl) T.z_len (by decide +kernel) (pa_cons (pv 0) pa_nil)) (pe_callB (call_lenK (K := K) rfl) (by rfl) T.z_len (by decide +kernel) (pa_cons (pv 1) pa_nil)) (nomark _))))) (pss_one (ps_ret pe_bl)) pss_nil)
    (pss_cons (ps_for PassesOwn.never rfl (pi_range1 (by rfl) T.z_range (pa_cons (pe_callB (call_lenK (K := K) rfl) (by rfl) T.z_len (by decide +kernel) (pa_cons (pv 1) pa_nil)) pa_nil)) (pg_name (i := 2) sc__law_pairs.nd rfl (by first | exact Or.inl rfl | exact Or.inr rfl)) (pss_one (ps_if (pt_not (pt_val (pe_call (ok__law_numbers T) (hr.mono (by decide)) (by rfl) T.g__law_numbers T.F__law_numbers.kp (b__law_numbers T) .nil pass0 (pa_cons (pe_ix (ix_seqK (K := K) rfl) (pv 0) (pv 2) (fun _ _ => rfl)) (pa_cons (pe_ix (ix_seqK (K := K) rfl) (pv 1) (pv 2) (fun _ _ => rfl)) pa_nil))))) (pss_one (ps_ret pe_bl)) pss_nil)))
    (pss_one (ps_ret pe_bl)))), body_ok h fun ds d hR => ?_⟩
    obtain ⟨ps, hl, he⟩ := hR
    refine body_mk (ρ := [.dat (.tup (ps.map pi)), .dat (.lst (ps.map pi)), .any]) rfl ?_
    have hn : (ps.map pi).length = ps.length := by simp
    refine s_ifF (dt_is (b := false) (by
      apply dt_or
      · apply dt_not
        apply dt_B
        exact de_cb (da_cons (de_var rfl) (da_cons de_ty da_nil)) (rc_isi (b := true) rfl (by decide +kernel))
      · intro _
        apply dt_B
        exact de_op (de_lenT (de_var rfl) hn) (de_lenL (de_var rfl) hn) (RD2.l rd_neI)) (by simp)) (es_next' ?_)
    refine s_for (di_rangeN hl (da_cons (de_lenL (de_var rfl) hn) da_nil)) (fun i τ => τ = [.dat (.tup (ps.map pi)), .dat (.lst (ps.map pi)), .any]) ⟨_, by walk_at "wk", rfl⟩ (fun i d τ hd hτ => ?_) (fun τ hτ => ?_)
    · subst hτ
      obtain ⟨hi, rfl⟩ := rngN_get hd
      refine ⟨_, dg_name, ?_⟩
      walk_at "norm"
      have a : atI (ps.map pi) (i : Int) = some (pi ps[i]) := atI_map (atI_natL hi)
      apply es_ifF
      · refine dt_is (b := false) (by
          apply dt_not
          apply dt_B
          exact de_call0 (da_cons (de_op (de_var rfl) (de_var rfl) (rd_ixTG a)) (da_cons (de_op (de_var rfl) (de_var rfl) (rd_ixLG a)) da_nil)) (R_numbers.t _ (he _ (List.getElem_mem hi)))) (by rfl)
      apply es_next
      exact ⟨_, by walk_at "wk", rfl⟩
    · subst hτ
      apply es_ret
      · walk_at "de"
      · rfl
theorem ok__law_number (T : Txt K mg) : FnOk P w K mg base CX0 3 (He.ga K "_law_number") (fdAt K (He.ga K "_law_number")) ["digits", "at", "zero", "wide"] (spD K R_number) := by
  refine T.F__law_number.ok sc__law_number (fun vs H Q E h => ?_) (fun cdv A outer s H vs Q E hr h => ?_)
  · obtain ⟨_, _, _, _, r, hR, _⟩ := h
    exact r.length.trans (by cases hR; rfl)
  · refine ⟨_, PSs.nox (pss_cons (ps_set (i := 4) sc__law_number.nd rfl (by first | exact Or.inl rfl | exact Or.inr rfl) (pe_ix (ix_seqK (K := K) rfl) (pv 0) (pe_op op_mulG pe_int (pv 1)) (fun _ _ => rfl)))
    (pss_cons (ps_set (i := 5) sc__law_number.nd rfl (by first | exact Or.inl rfl | exact Or.inr rfl) (pe_ix (ix_seqK (K := K) rfl) (pv 0) (pe_op (op_addK (K := K) rfl) (pe_op op_mulG pe_int (pv 1)) pe_int) (fun _ _ => rfl)))
    (pss_cons (ps_if (PW.pt (pw_and (pt_val (pv 2)) (pw_and1 (pt_cmpR (op_eqK (K := K) rfl hr.units) (pe_op op_mod (pe_callTy (call_int1) (by rfl) T.z_int (by decide +kernel) (pa_cons (pv 5) pa_nil)) pe_int) pe_int (nomark _))))) (pss_one (ps_ret (pe_tup (pa_cons pe_int (pa_cons pe_int pa_nil))))) pss_nil)
    (pss_cons (ps_if (pt_val (pv 3)) (pss_one (ps_ret (pe_call (ok__law_lowest T) (hr.mono (by decide)) (by rfl) T.g__law_lowest T.F__law_lowest.kp (b__law_lowest T) .nil pass0 (pa_cons (pe_op (op_addK (K := K) rfl) pe_int (pe_op op_mulG (pv 4) pe_int)) (pa_cons (pe_op (op_addK (K := K) rfl) pe_int (pv 5)) pa_nil))))) pss_nil)
    (pss_one (ps_ret (pe_call (ok__law_lowest T) (hr.mono (by decide)) (by rfl) T.g__law_lowest T.F__law_lowest.kp (b__law_lowest T) .nil pass0 (pa_cons (pe_op (op_addK (K := K) rfl) pe_int (pe_op op_mod (pe_callTy (call_int1) (by rfl) T.z_int (by decide +kernel) (pa_cons (pe_op (op_addK (K := K) rfl) (pv 4) (pv 1)) pa_nil)) pe_int)) (pa_cons (pe_op (op_addK (K := K) rfl) pe_int (pe_op op_mod (pe_callTy (call_int1) (by rfl) T.z_int (by decide +kernel) (pa_cons (pv 5) pa_nil)) pe_int)) pa_nil))))))))), body_ok h fun ds d hR => ?_⟩
    obtain ⟨ds, a, z, w, ha, hl, hx⟩ := hR
    refine body_mk (ρ := [.dat (.lst (ds.map .int)), .dat (.int (a : Int)), .dat (.bl z), .dat (.bl w), .any, .any]) rfl ?_
    have m0 : ds.getD (2 * a) 0 ∈ ds := by rw [List.getD_eq_getElem?_getD, List.getElem?_eq_getElem (by omega)]; exact List.getElem_mem _
    have m1 : ds.getD (2 * a + 1) 0 ∈ ds := by rw [List.getD_eq_getElem?_getD, List.getElem?_eq_getElem hl]; exact List.getElem_mem _
    have e0 := hx _ m0
    have e1 := hx _ m1
    apply s_set
    · apply de_op
      · exact de_var rfl
      · walk_at "de"
      · exact rd_ixLG (atI_getD (k := 2 * a) (by omega) (by omega))
    walk_at "norm"
    apply s_set
    · apply de_op
      · exact de_var rfl
      · walk_at "de"
      · exact rd_ixLG (atI_getD (k := 2 * a + 1) hl (by omega))
    walk_at "norm"
    generalize ds.getD (2 * a) 0 = x at *
    generalize ds.getD (2 * a + 1) 0 = y at *
    refine s_if (b := z && decide (y % 4 = 3)) (by walk_at "dt") (fun h => ?_) (fun h => ?_)
    · have h := Bool.and_eq_true_iff.mp h
      refine es_ret (de_is (by walk_at "de") ?_) rfl
      unfold nm
      rw [if_pos ⟨h.1, of_decide_eq_true h.2⟩]
      rfl
    refine es_next' ?_
    have hnz : ¬ (z = true ∧ y % 4 = 3) := fun q => by
      rw [q.1, decide_eq_true q.2] at h
      cases h
    refine s_if (b := w) (by walk_at "dt") (fun h => ?_) (fun h => ?_)
    · refine es_ret (de_is (by
        apply de_call0
        · walk_at "da"
        · refine R_lowW.mk _ _ (by omega) (pow_le_of (m := 40) (by have : (2 : Nat) ^ 40 = 1099511627776 := by decide
                                                                   omega) (by decide))) ?_) rfl
      unfold nm
      rw [if_neg hnz, if_pos h]
    · refine es_next' ?_
      refine es_ret (de_is (by
        apply de_call0
        · walk_at "da"
        · refine R_lowW.mk _ _ (by omega) (pow_le_of (m := 40) (by have : (2 : Nat) ^ 40 = 1099511627776 := by decide
                                                                   omega) (by decide))) ?_) rfl
      unfold nm
      rw [if_neg hnz, if_neg (by rw [h]; decide)]
theorem ok__law_joys (T : Txt K mg) : FnOk P w K mg base CX0 4 (He.ga K "_law_joys") (fdAt K (He.ga K "_law_joys")) ["script", "people", "goods", "wide"] (spD K R_joys) := by
  refine T.F__law_joys.ok sc__law_joys (fun vs H Q E h => ?_) (fun cdv A outer s H vs Q E hr h => ?_)
  · obtain ⟨_, _, _, _, r, hR, _⟩ := h
    exact r.length.trans (by cases hR; rfl)
  · refine ⟨_, PSs.nox (pss_cons (ps_set (i := 4) sc__law_joys.nd rfl (by first | exact Or.inl rfl | exact Or.inr rfl) (pe_lst pa_nil))
    (pss_cons (ps_for PassesOwn.never rfl (pi_range1 (by rfl) T.z_range (pa_cons (pv 1) pa_nil)) (pg_name (i := 5) sc__law_joys.nd rfl (by first | exact Or.inl rfl | exact Or.inr rfl)) (pss_cons (ps_set (i := 6) sc__law_joys.nd rfl (by first | exact Or.inl rfl | exact Or.inr rfl) (pe_call (ok__law_digits T) (hr.mono (by decide)) (by rfl) T.g__law_digits T.F__law_digits.kp (b__law_digits T) .nil pass0 (pa_cons (pe_call (ok__law_cell T) (hr.mono (by decide)) (by rfl) T.g__law_cell T.F__law_cell.kp (b__law_cell T) .nil pass0 (pa_cons (pv 0) (pa_cons (pe_op (op_addK (K := K) rfl) pe_int (pv 5)) pa_nil))) (pa_cons pe_int (pa_cons (pe_op op_mulG pe_int (pv 2)) pa_nil)))))
    (pss_one (ps_expr (pe_bm PySem.F.plainAttrs_list PySem.F.slot_list_append PySem.F.type_list_append mt_append (pv 4) (pa_cons (pe_lc (own := [("j", 7)]) (g := gName 7) (tt := tYes) rfl sc__law_joys.nd (pi_range1 (by rfl) T.z_range (pa_cons (pv 2) pa_nil)) (blkOk_by (N := N__law_joys) (sc := defScope s__law_joys) (by first | decide +kernel | kernel_rfl)) (fun _ _ _ _ _ => pg_name (i := 7) sc__law_joys.nd rfl (by first | exact Or.inl rfl | exact Or.inr rfl)) (fun _ _ _ _ _ => pts_nil) (fun _ _ _ _ _ => (pe_call (ok__law_number T) (hr.mono (by decide)) (by rfl) T.g__law_number T.F__law_number.kp (b__law_number T) .nil pass0 (pa_cons (pv 6) (pa_cons (pv 7) (pa_cons pe_bl (pa_cons (pv 3) pa_nil))))))) pa_nil))))))
    (pss_one (ps_ret (pv 4))))), body_ok h fun ds d hR => ?_⟩
    obtain ⟨ns, p, g, w, hl, p6, g6⟩ := hR
    refine body_mk (ρ := [.dat (.lst (ns.map .int)), .dat (.int (p : Int)), .dat (.int (g : Int)), .dat (.bl w), .any, .any, .any, .any]) rfl ?_
    walk_at "own"
    refine s_for (di_rangeN (p := p) (by omega) (by walk_at "da")) (fun i τ => τ = [.dat (.lst (ns.map .int)), .dat (.int (p : Int)), .dat (.int (g : Int)), .dat (.bl w), .own ((List.range i).map fun i => vec g (J57 ns g w i)), .any, .any, .any]) ⟨_, by walk_at "wk", rfl⟩ (fun i d τ hd hτ => ?_) (fun τ hτ => ?_)
    · subst hτ
      obtain ⟨hi, rfl⟩ := rngN_get hd
      refine ⟨_, dg_name, ?_⟩
      walk_at "norm"
      have ln : (dg ns (2 + i) 1000000 (2 * g)).length = 2 * g := dst_len _ _ _
      have bn : ∀ x ∈ dg ns (2 + i) 1000000 (2 * g), 0 ≤ x ∧ x < 1000000 := dst_in _ _ (by decide) _
      apply s_set (d := .lst ((dg ns (2 + i) 1000000 (2 * g)).map .int))
      · apply de_call0
        · apply da_cons
          · apply de_call0
            · apply da_cons
              · walk_at "de"
              · apply da_cons
                · exact de_I (by walk_at "de") (show (2 : Int) + (i : Int) = ((2 + i : Nat) : Int) by omega)
                · exact da_nil
            · exact R_cell.mk ns (2 + i) hl
          · apply da_cons
            · walk_at "de"
            · apply da_cons
              · exact de_I (by walk_at "de") (show (2 : Int) * (g : Int) = ((2 * g : Nat) : Int) by omega)
              · exact da_nil
        · exact R_digits.mk _ 1000000 (2 * g) (by decide) (by decide) (by omega)
      walk_at "norm"
      apply es_append
      · rfl
      · refine DL.de (dl_lcA (List.range g) (fun i => .int (i : Nat)) (fun j => fq (J57 ns g w i j)) (di_rangeN (p := g) (by omega) (by walk_at "da")) (by rw [List.length_range]; exact lt_line (by omega)) ?_)
        intro j k hk
        obtain ⟨rfl, hkp⟩ := range_mem hk
        refine ⟨_, dgw_name (by decide), ?_⟩
        dsimp only [List.map, wipeE, List.set_cons_zero, List.set_cons_succ]
        apply de_call0
        · walk_at "da"
        · exact R_number.mk (dg ns (2 + i) 1000000 (2 * g)) k true w (by omega) (by omega) bn
      · rw [List.length_map, List.length_range]
        exact lt_line (by omega)
      walk_at "norm"
      refine ⟨_, ?_, rfl⟩
      rw [show ((List.range (i + 1)).map fun i => vec g (J57 ns g w i)) = ((List.range i).map fun i => vec g (J57 ns g w i)) ++ [vec g (J57 ns g w i)] by rw [List.range_succ]; exact List.map_append]
      walk_at "wk"
    · subst hτ
      rw [rngN_len]
      refine es_weak (τ := [.any, .any, .any, .any, .dat (mat p g (J57 ns g w)), .any, .any, .any]) (by walk_at "wk") ?_
      apply es_ret
      · walk_at "de"
      · rfl
theorem ok__law_weighted (T : Txt K mg) : FnOk P w K mg base CX0 3 (He.ga K "_law_weighted") (fdAt K (He.ga K "_law_weighted")) ["script", "people", "goods"] (spD K R_weighted) := by
  refine T.F__law_weighted.ok sc__law_weighted (fun vs H Q E h => ?_) (fun cdv A outer s H vs Q E hr h => ?_)
  · obtain ⟨_, _, _, _, r, hR, _⟩ := h
    exact r.length.trans (by cases hR; rfl)
  · refine ⟨_, PSs.nox (pss_cons (ps_set (i := 3) sc__law_weighted.nd rfl (by first | exact Or.inl rfl | exact Or.inr rfl) (pe_lst pa_nil))
    (pss_cons (ps_for PassesOwn.never rfl (pi_range1 (by rfl) T.z_range (pa_cons (pv 2) pa_nil)) (pg_name (i := 4) sc__law_weighted.nd rfl (by first | exact Or.inl rfl | exact Or.inr rfl)) (pss_cons (ps_set (i := 5) sc__law_weighted.nd rfl (by first | exact Or.inl rfl | exact Or.inr rfl) (pe_call (ok__law_digits T) (hr.mono (by decide)) (by rfl) T.g__law_digits T.F__law_digits.kp (b__law_digits T) .nil pass0 (pa_cons (pe_call (ok__law_cell T) (hr.mono (by decide)) (by rfl) T.g__law_cell T.F__law_cell.kp (b__law_cell T) .nil pass0 (pa_cons (pv 0) (pa_cons (pe_op (op_addK (K := K) rfl) pe_int (pv 4)) pa_nil))) (pa_cons pe_int (pa_cons (pv 1) pa_nil)))))
    (pss_cons (ps_set (i := 6) sc__law_weighted.nd rfl (by first | exact Or.inl rfl | exact Or.inr rfl) (pe_lc (own := [("i", 7)]) (g := gName 7) (tt := tYes) rfl sc__law_weighted.nd (pi_range1 (by rfl) T.z_range (pa_cons (pv 1) pa_nil)) (blkOk_by (N := N__law_weighted) (sc := defScope s__law_weighted) (by first | decide +kernel | kernel_rfl)) (fun _ _ _ _ _ => pg_name (i := 7) sc__law_weighted.nd rfl (by first | exact Or.inl rfl | exact Or.inr rfl)) (fun _ _ _ _ _ => pts_nil) (fun _ _ _ _ _ => (pe_callB (call_max2 rfl) (by rfl) T.z_max (by decide +kernel) (pa_cons pe_int (pa_cons (pe_op op_sub (pe_op op_mod (pe_callTy (call_int1) (by rfl) T.z_int (by decide +kernel) (pa_cons (pe_op (op_addK (K := K) rfl) (pe_op (op_addK (K := K) rfl) (pe_ix (ix_seqK (K := K) rfl) (pv 5) (pv 7) (fun _ _ => rfl)) (pv 7)) (pv 4)) pa_nil)) pe_int) pe_int) pa_nil))))))
    (pss_cons (ps_if (pt_cmpR (op_eqK (K := K) rfl hr.units) (pe_callB (cr_sumK (K := K) rfl rfl) (by rfl) T.z_sum (by decide +kernel) (pa_cons (pv 6) pa_nil)) pe_int (nomark _)) (pss_one (ps_asg pe_int (pg_sub (pv 6) (pe_op op_mod (pe_callTy (call_int1) (by rfl) T.z_int (by decide +kernel) (pa_cons (pe_ix (ix_seqK (K := K) rfl) (pv 5) pe_int (fun _ _ => rfl)) pa_nil)) (pv 1)) set_list))) pss_nil)
    (pss_one (ps_expr (pe_bm PySem.F.plainAttrs_list PySem.F.slot_list_append PySem.F.type_list_append mt_append (pv 3) (pa_cons (pe_lc (own := [("weight", 8)]) (g := gName 8) (tt := tYes) rfl sc__law_weighted.nd (pi_listK (K := K) rfl (pv 6)) (blkOk_by (N := N__law_weighted) (sc := defScope s__law_weighted) (by first | decide +kernel | kernel_rfl)) (fun _ _ _ _ _ => pg_name (i := 8) sc__law_weighted.nd rfl (by first | exact Or.inl rfl | exact Or.inr rfl)) (fun _ _ _ _ _ => pts_nil) (fun _ _ _ _ _ => (pe_call (ok__law_lowest T) (hr.mono (by decide)) (by rfl) T.g__law_lowest T.F__law_lowest.kp (b__law_lowest T) .nil pass0 (pa_cons (pv 8) (pa_cons (pe_callB (cr_sumK (K := K) rfl rfl) (by rfl) T.z_sum (by decide +kernel) (pa_cons (pv 6) pa_nil)) pa_nil))))) pa_nil))))))))
    (pss_one (ps_ret (pe_lc (own := [("i", 7)]) (g := gName 7) (tt := tYes) rfl sc__law_weighted.nd (pi_range1 (by rfl) T.z_range (pa_cons (pv 1) pa_nil)) (blkOk_by (N := N__law_weighted) (sc := defScope s__law_weighted) (by first | decide +kernel | kernel_rfl)) (fun _ _ _ _ _ => pg_name (i := 7) sc__law_weighted.nd rfl (by first | exact Or.inl rfl | exact Or.inr rfl)) (fun _ _ _ _ _ => pts_nil) (fun _ _ _ _ _ => (pe_lc (own := [("j", 4)]) (g := gName 4) (tt := tYes) rfl sc__law_weighted.nd (pi_range1 (by rfl) T.z_range (pa_cons (pv 2) pa_nil)) (blkOk_by (N := N__law_weighted) (sc := ⟨_, _, _, _, _⟩) (by first | decide +kernel | kernel_rfl)) (fun _ _ _ _ _ => pg_name (i := 4) sc__law_weighted.nd rfl (by first | exact Or.inl rfl | exact Or.inr rfl)) (fun _ _ _ _ _ => pts_nil) (fun _ _ _ _ _ => (pe_ix (ix_seqK (K := K) rfl) (pe_ix (ix_seqK (K := K) rfl) (pv 3) (pv 4) (fun _ _ => rfl)) (pv 7) (fun _ _ => rfl)))))))))), body_ok h fun ds d hR => ?_⟩
    obtain ⟨ns, p, g, hl, p1, p6, g6⟩ := hR
    refine body_mk (ρ := [.dat (.lst (ns.map .int)), .dat (.int (p : Int)), .dat (.int (g : Int)), .any, .any, .any, .any, .any, .any]) rfl ?_
    walk_at "own"
    refine s_for (di_rangeN (p := g) (by omega) (by walk_at "da")) (fun j τ => τ = [.dat (.lst (ns.map .int)), .dat (.int (p : Int)), .dat (.int (g : Int)), .own ((List.range j).map fun j => Dt.lst ((wts ns p j).map fun w => fq (Rat.divInt w (wts ns p j).sum))), .any, .any, .any, .any, .any]) ⟨_, by walk_at "wk", rfl⟩ (fun j d τ hd hτ => ?_) (fun τ hτ => ?_)
    · subst hτ
      obtain ⟨hj, rfl⟩ := rngN_get hd
      refine ⟨_, dg_name, ?_⟩
      walk_at "norm"
      have ln : (dg ns (8 + j) 1000 p).length = p := dst_len _ _ _
      have bn : ∀ x ∈ dg ns (8 + j) 1000 p, 0 ≤ x ∧ x < 1000 := dst_in _ _ (by decide) _
      apply s_set (d := .lst ((dg ns (8 + j) 1000 p).map .int))
      · apply de_call0
        · apply da_cons
          · apply de_call0
            · apply da_cons
              · walk_at "de"
              · apply da_cons
                · exact de_I (by walk_at "de") (show (8 : Int) + (j : Int) = ((8 + j : Nat) : Int) by omega)
                · exact da_nil
            · exact R_cell.mk ns (8 + j) hl
          · walk_at "da"
        · exact R_digits.mk _ 1000 p (by decide) (by decide) (by omega)
      walk_at "norm"
      have w0 : ((wt0 ns p j).map Dt.int) = (List.range p).map fun i : Nat => Dt.int (max 0 (((dg ns (8 + j) 1000 p).getD i 0 + i + j) % 5 - 1)) := List.map_map
      have wl : (wt0 ns p j).length = p := by simp [wt0]
      apply s_setOwn (ds := (wt0 ns p j).map Dt.int)
      · rw [w0]
        refine dl_lcA (List.range p) (fun i => .int (i : Nat)) (fun i : Nat => Dt.int (max 0 (((dg ns (8 + j) 1000 p).getD i 0 + i + j) % 5 - 1))) (di_rangeN (p := p) (by omega) (by walk_at "da")) (by rw [List.length_range]; exact lt_line (by omega)) ?_
        intro i k hk
        obtain ⟨rfl, hkp⟩ := range_mem hk
        refine ⟨_, dgw_name (by decide), ?_⟩
        dsimp only [List.map, wipeE, List.set_cons_zero, List.set_cons_succ]
        have a := atI_getD (ds := dg ns (8 + j) 1000 p) (k := k) (i := (k : Int)) (by omega) rfl
        walk_at "de"
      walk_at "norm"
      have hset : ∀ c : Bool, ((wt0 ns p j).sum = 0 ↔ c = true) → (if c = true then ((wt0 ns p j).map Dt.int).set ((dg ns (8 + j) 1000 p).getD 0 0 % p).toNat (.int 1) else (wt0 ns p j).map Dt.int) = (wts ns p j).map Dt.int := fun c hc => by
        unfold wts
        by_cases z : (wt0 ns p j).sum = 0
        · rw [if_pos z, if_pos (hc.mp z), List.map_set]
        · rw [if_neg z, if_neg fun q => z (hc.mpr q)]
      refine s_ifJ (b := decide ((wt0 ns p j).sum = 0)) [.dat (.lst (ns.map .int)), .dat (.int (p : Int)), .dat (.int (g : Int)), .own ((List.range j).map fun j => Dt.lst ((wts ns p j).map fun w => fq (Rat.divInt w (wts ns p j).sum))), .dat (.int (j : Nat)), .any, .dat (.lst ((wts ns p j).map .int)), .any, .any] (by
        apply dt_B
        apply de_op
        · exact de_give (τ := [.any, .any, .any, .any, .any, .any, .dat (.lst ((wt0 ns p j).map .int)), .any, .any]) (by walk_at "wk") (de_cb (da_cons (de_var rfl) da_nil) rc_sum) rfl
        · walk_at "de"
        · walk_at "rd") (fun h => ?_) (fun h => ?_) ?_
      · have h := of_decide_eq_true h
        have e1 := Int.emod_nonneg ((dg ns (8 + j) 1000 p).getD 0 0) (b := (p : Int)) (by omega)
        have e2 := Int.emod_lt_of_pos ((dg ns (8 + j) 1000 p).getD 0 0) (b := (p : Int)) (by omega)
        have a := atI_getD (ds := dg ns (8 + j) 1000 p) (k := 0) (i := 0) (by omega) rfl
        apply es_setIx (n := (dg ns (8 + j) 1000 p).getD 0 0 % p) (j := ((dg ns (8 + j) 1000 p).getD 0 0 % p).toNat)
        · rfl
        · walk_at "de"
        · have hpos : (0 : Int) < (p : Int) := by omega
          walk_at "de"
        · exact ixN_of (by omega) (by rw [List.length_map, wl]; omega)
        walk_at "norm"
        rw [← hset true ⟨fun _ => rfl, fun _ => h⟩, if_pos rfl]
        walk_at "wk"
      · have h := of_decide_eq_false h
        apply es_next
        rw [← hset false ⟨fun q => absurd q h, fun q => by cases q⟩, if_neg (by decide)]
        walk_at "wk"
      have sp := wts_pos ns p j p1
      have sl := wts_len ns p j
      have sb := sum_bounds _ (wts_in ns p j)
      apply es_append
      · rfl
      · refine DL.de (dl_lcA (wts ns p j) (fun w => .int w) (fun w => fq (Rat.divInt w (wts ns p j).sum)) (di_list (de_var rfl)) (by rw [sl]; exact lt_line (by omega)) ?_)
        intro i w hw
        refine ⟨_, dgw_name (by decide), ?_⟩
        dsimp only [List.map, wipeE, List.set_cons_zero, List.set_cons_succ]
        apply de_call0
        · apply da_cons
          · exact de_var rfl
          · apply da_cons
            · exact de_cb (da_cons (de_var rfl) da_nil) rc_sum
            · exact da_nil
        · exact R_lowW.mk _ _ sp (pow_le_of (m := 10) (by
            have : (2 : Nat) ^ 10 = 1024 := by decide
            rw [this]; omega) (by decide))
      · rw [List.length_map, List.length_range]
        exact lt_line (by omega)
      walk_at "norm"
      refine ⟨_, ?_, rfl⟩
      rw [List.range_succ, List.map_append]
      walk_at "wk"
    · subst hτ
      rw [rngN_len]
      refine es_weak (τ := [.any, .dat (.int (p : Int)), .dat (.int (g : Int)), .dat (.lst ((List.range g).map fun j => Dt.lst ((wts ns p j).map fun w => fq (Rat.divInt w (wts ns p j).sum)))), .any, .any, .any, .any, .any]) (by walk_at "wk") ?_
      apply es_ret
      · refine DL.de (dl_lcA (List.range p) (fun i => .int (i : Nat)) (fun i => vec g (S57 ns p i)) (di_rangeN (p := p) (by omega) (by walk_at "da")) (by rw [List.length_range]; exact lt_line (by omega)) ?_)
        intro i k hk
        obtain ⟨rfl, hkp⟩ := range_mem hk
        refine ⟨_, dgw_name (by decide), ?_⟩
        dsimp only [List.map, wipeE, List.set_cons_zero, List.set_cons_succ]
        refine DL.de (dl_lcA (List.range g) (fun i => .int (i : Nat)) (fun j => fq (S57 ns p k j)) (di_rangeN (p := g) (by omega) (by walk_at "da")) (by rw [List.length_range]; exact lt_line (by omega)) ?_)
        intro a j hj
        obtain ⟨rfl, hjp⟩ := range_mem hj
        refine ⟨_, dgw_name (by decide), ?_⟩
        dsimp only [List.map, wipeE, List.set_cons_zero, List.set_cons_succ]
        apply de_op
        · exact de_op (de_var rfl) (de_var rfl) (rd_ixLG (atI_range (fun j => Dt.lst ((wts ns p j).map fun w => fq (Rat.divInt w (wts ns p j).sum))) hjp rfl))
        · exact de_var rfl
        · exact rd_ixLG (atI_mapD (f := fun w => fq (Rat.divInt w (wts ns p j).sum)) (k := k) (by rw [wts_len]; exact hkp) rfl)
      · rfl
theorem ok__law_joy (T : Txt K mg) : FnOk P w K mg base CX0 5 (He.ga K "_law_joy") (fdAt K (He.ga K "_law_joy")) ["joys", "row"] (spD K R_joy) := by
  refine T.F__law_joy.ok sc__law_joy (fun vs H Q E h => ?_) (fun cdv A outer s H vs Q E hr h => ?_)
  · obtain ⟨_, _, _, _, r, hR, _⟩ := h
    exact r.length.trans (by cases hR; rfl)
  · refine ⟨_, PSs.nox (pss_one (ps_ret (pe_call (ok__law_sum T) (hr.mono (by decide)) (by rfl) T.g__law_sum T.F__law_sum.kp (b__law_sum T) .nil pass0 (pa_cons (pe_lc (own := [("j", 2)]) (g := gName 2) (tt := tYes) rfl sc__law_joy.nd (pi_range1 (by rfl) T.z_range (pa_cons (pe_callB (call_lenK (K := K) rfl) (by rfl) T.z_len (by decide +kernel) (pa_cons (pv 0) pa_nil)) pa_nil)) (blkOk_by (N := N__law_joy) (sc := defScope s__law_joy) (by first | decide +kernel | kernel_rfl)) (fun _ _ _ _ _ => pg_name (i := 2) sc__law_joy.nd rfl (by first | exact Or.inl rfl | exact Or.inr rfl)) (fun _ _ _ _ _ => pts_nil) (fun _ _ _ _ _ => (pe_call (ok__law_times T) (hr.mono (by decide)) (by rfl) T.g__law_times T.F__law_times.kp (b__law_times T) .nil pass0 (pa_cons (pe_ix (ix_seqK (K := K) rfl) (pv 0) (pv 2) (fun _ _ => rfl)) (pa_cons (pe_ix (ix_seqK (K := K) rfl) (pv 1) (pv 2) (fun _ _ => rfl)) pa_nil))))) pa_nil)))), body_ok h fun ds d hR => ?_⟩
    obtain ⟨g, f, h, g6, hf, hh⟩ := hR
    refine body_mk (ρ := [.dat (vec g f), .dat (vec g h), .any]) rfl ?_
    apply es_ret
    · apply de_call0
      · apply da_cons
        · refine DL.de (dl_lcA (List.range g) (fun i => .int (i : Nat)) (fun j => fq (f j * h j)) (di_rangeN (p := g) (by omega) (da_cons (de_lenL (de_var rfl) len_vec) da_nil)) (by rw [List.length_range]; exact lt_line (by omega)) ?_)
          intro i k hk
          obtain ⟨rfl, hkp⟩ := range_mem hk
          refine ⟨_, dgw_name (by decide), ?_⟩
          dsimp only [List.map, wipeE, List.set_cons_zero, List.set_cons_succ]
          apply de_call0
          · apply da_cons
            · exact de_op (de_var rfl) (de_var rfl) (rd_ixLG (atI_range (fun i => fq (f i)) hkp rfl))
            · apply da_cons
              · exact de_op (de_var rfl) (de_var rfl) (rd_ixLG (atI_range (fun i => fq (h i)) hkp rfl))
              · exact da_nil
          · exact R_multiply.mk _ _ ((hf _ hkp).mono (by decide)) ((hh _ hkp).mono (by decide))
        · exact da_nil
      · have := Nat.mul_le_mul_left (340 + 1) g6
        exact tot_vec (m := 340) (f := fun j => f j * h j) (fun k hk => mul_bd (hf k hk) (hh k hk)) (by omega) (by decide)
    · rfl
theorem ok__law_envied (T : Txt K mg) : FnOk P w K mg base CX0 6 (He.ga K "_law_envied") (fdAt K (He.ga K "_law_envied")) ["dues", "joys", "sharing"] (spD K R_envied) := by
  refine T.F__law_envied.ok sc__law_envied (fun vs H Q E h => ?_) (fun cdv A outer s H vs Q E hr h => ?_)
  · obtain ⟨_, _, _, _, r, hR, _⟩ := h
    exact r.length.trans (by cases hR; rfl)
  · refine ⟨_, PSs.nox (pss_cons (ps_set (i := 3) sc__law_envied.nd rfl (by first | exact Or.inl rfl | exact Or.inr rfl) (pe_lst pa_nil))
    (pss_cons (ps_for PassesOwn.never rfl (pi_range1 (by rfl) T.z_range (pa_cons (pe_callB (call_lenK (K := K) rfl) (by rfl) T.z_len (by decide +kernel) (pa_cons (pv 0) pa_nil)) pa_nil)) (pg_name (i := 4) sc__law_envied.nd rfl (by first | exact Or.inl rfl | exact Or.inr rfl)) (pss_cons (ps_set (i := 5) sc__law_envied.nd rfl (by first | exact Or.inl rfl | exact Or.inr rfl) (pe_call (ok__law_over T) (hr.mono (by decide)) (by rfl) T.g__law_over T.F__law_over.kp (b__law_over T) .nil pass0 (pa_cons (pe_call (ok__law_joy T) (hr.mono (by decide)) (by rfl) T.g__law_joy T.F__law_joy.kp (b__law_joy T) .nil pass0 (pa_cons (pe_ix (ix_seqK (K := K) rfl) (pv 1) (pv 4) (fun _ _ => rfl)) (pa_cons (pe_ix (ix_seqK (K := K) rfl) (pv 2) (pv 4) (fun _ _ => rfl)) pa_nil))) (pa_cons (pe_ix (ix_seqK (K := K) rfl) (pv 0) (pv 4) (fun _ _ => rfl)) pa_nil))))
    (pss_one (ps_for PassesOwn.never rfl (pi_range1 (by rfl) T.z_range (pa_cons (pe_callB (call_lenK (K := K) rfl) (by rfl) T.z_len (by decide +kernel) (pa_cons (pv 0) pa_nil)) pa_nil)) (pg_name (i := 6) sc__law_envied.nd rfl (by first | exact Or.inl rfl | exact Or.inr rfl)) (pss_one (ps_if (pt_val (pe_call (ok__law_less T) (hr.mono (by decide)) (by rfl) T.g__law_less T.F__law_less.kp (b__law_less T) .nil pass0 (pa_cons (pv 5) (pa_cons (pe_call (ok__law_over T) (hr.mono (by decide)) (by rfl) T.g__law_over T.F__law_over.kp (b__law_over T) .nil pass0 (pa_cons (pe_call (ok__law_joy T) (hr.mono (by decide)) (by rfl) T.g__law_joy T.F__law_joy.kp (b__law_joy T) .nil pass0 (pa_cons (pe_ix (ix_seqK (K := K) rfl) (pv 1) (pv 4) (fun _ _ => rfl)) (pa_cons (pe_ix (ix_seqK (K := K) rfl) (pv 2) (pv 6) (fun _ _ => rfl)) pa_nil))) (pa_cons (pe_ix (ix_seqK (K := K) rfl) (pv 0) (pv 6) (fun _ _ => rfl)) pa_nil))) pa_nil)))) (pss_one (ps_expr (pe_bm PySem.F.plainAttrs_list PySem.F.slot_list_append PySem.F.type_list_append mt_append (pv 3) (pa_cons (pe_tup (pa_cons (pv 4) (pa_cons (pv 6) pa_nil))) pa_nil)))) pss_nil))))))
    (pss_one (ps_ret (pv 3))))), body_ok h fun ds d hR => ?_⟩
    obtain ⟨p, g, D, J, S, m⟩ := hR
    have m6 := m.p6
    have g6 := m.g6
    refine body_mk (ρ := [.dat (vec p D), .dat (mat p g J), .dat (mat p g S), .any, .any, .any, .any]) rfl ?_
    walk_at "own"
    have hj : ∀ (ρ : PEnv) (i k : Nat) (ti tk : TE), i < p → k < p → ρ[1]? = some (.dat (mat p g J)) → ρ[2]? = some (.dat (mat p g S)) → ρ[0]? = some (.dat (vec p D)) → DE K ti ρ (.int (i : Nat)) → DE K tk ρ (.int (k : Nat)) →
        DE K (tCall (spD K R_over) [] E0 (tCons (tCall (spD K R_joy) [] E0 (tCons (tOp (rIx K) (tVar 1) ti) (tCons (tOp (rIx K) (tVar 2) tk) tNil))) (tCons (tOp (rIx K) (tVar 0) tk) tNil))) ρ (fq (jo g J S i k / D k)) := fun ρ i k ti tk hi hk h1 h2 h0 hti htk => by
      apply de_call0
      · apply da_cons
        · apply de_call0
          · apply da_cons
            · exact de_op (de_var h1) hti (rd_ixLG (atI_range (fun i => vec g (J i)) hi rfl))
            · apply da_cons
              · exact de_op (de_var h2) htk (rd_ixLG (atI_range (fun i => vec g (S i)) hk rfl))
              · exact da_nil
          · exact R_joy.mk g (J i) (S k) g6 (m.j i hi) (m.s k hk)
        · apply da_cons
          · exact de_op (de_var h0) htk (rd_ixLG (atI_range (fun i => fq (D i)) hk rfl))
          · exact da_nil
      · exact R_over.mk _ _ ((m.jo hi hk).mono (by decide)) ((m.d k hk).2.mono (by decide)) (m.d k hk).1
    refine s_for (di_rangeN (by omega) (da_cons (de_lenL (de_var rfl) len_vec) da_nil)) (fun i τ => τ = [.dat (vec p D), .dat (mat p g J), .dat (mat p g S), .own ((eall (cE g D J S) p i).map pi), .any, .any, .any]) ⟨_, by walk_at "wk", rfl⟩ (fun i d τ hd hτ => ?_) (fun τ hτ => ?_)
    · subst hτ
      obtain ⟨hi, rfl⟩ := rngN_get hd
      refine ⟨_, dg_name, ?_⟩
      walk_at "norm"
      apply s_set
      · exact hj _ i i _ _ hi hi rfl rfl rfl (de_var rfl) (de_var rfl)
      walk_at "norm"
      refine es_for (di_rangeN (by omega) (da_cons (de_lenL (de_var rfl) len_vec) da_nil)) (fun k τ => τ = [.dat (vec p D), .dat (mat p g J), .dat (mat p g S), .own ((eall (cE g D J S) p i ++ erow (cE g D J S i) i k).map pi), .dat (.int (i : Nat)), .dat (fq (jo g J S i i / D i)), .any]) ⟨_, ?_, rfl⟩ (fun k d τ hd hτ => ?_) (fun τ hτ => ?_)
      · show Wk _ [.dat (vec p D), .dat (mat p g J), .dat (mat p g S), .own ((eall (cE g D J S) p i ++ []).map pi), .dat (.int (i : Nat)), .dat (fq (jo g J S i i / D i)), .any]
        rw [List.append_nil]
        walk_at "wk"
      · subst hτ
        obtain ⟨hk, rfl⟩ := rngN_get hd
        refine ⟨_, dg_name, ?_⟩
        walk_at "norm"
        have hsz : ((eall (cE g D J S) p i ++ erow (cE g D J S i) i k).map pi).length < sizeLine := by
          rw [List.length_map, List.length_append]
          have a1 := eall_len (cE g D J S) p i
          have a2 := erow_len (cE g D J S i) i k
          have a3 := Nat.mul_le_mul (show i ≤ 6 by omega) m6
          exact lt_line (by omega)
        refine es_if (b := cE g D J S i k) (by
          apply dt_B
          apply de_call0
          · apply da_cons
            · exact de_var rfl
            · apply da_cons
              · exact hj _ i k _ _ hi hk rfl rfl rfl (de_var rfl) (de_var rfl)
              · exact da_nil
          · exact R_less.mk _ _ ((div_bd (m.jo hi hi) (m.d i hi).2 (m.d i hi).1).mono (by decide)) ((div_bd (m.jo hi hk) (m.d k hk).2 (m.d k hk).1).mono (by decide))) (fun h => ?_) (fun h => ?_)
        · apply es_append
          · rfl
          · walk_at "de"
          · exact hsz
          walk_at "norm"
          refine ⟨_, ?_, rfl⟩
          rw [show (eall (cE g D J S) p i ++ erow (cE g D J S i) i (k + 1)).map pi = (eall (cE g D J S) p i ++ erow (cE g D J S i) i k).map pi ++ [Dt.tup [.int (i : Nat), .int (k : Nat)]] by rw [erow_succ, if_pos h, ← List.append_assoc]; exact List.map_append]
          walk_at "wk"
        · walk_at "e"
          refine ⟨_, ?_, rfl⟩
          rw [erow_succ, if_neg (by rw [h]; decide), List.append_nil]
          walk_at "wk"
      · subst hτ
        rw [rngN_len]
        exact ⟨_, by walk_at "wk", rfl⟩
    · subst hτ
      rw [rngN_len]
      refine es_weak (τ := [.dat (vec p D), .dat (mat p g J), .dat (mat p g S), .dat (.lst ((eall (cE g D J S) p p).map pi)), .any, .any, .any]) (by walk_at "wk") ?_
      apply es_ret
      · walk_at "de"
      · rfl
theorem ok__law_short (T : Txt K mg) : FnOk P w K mg base CX0 6 (He.ga K "_law_short") (fdAt K (He.ga K "_law_short")) ["dues", "joys", "sharing"] (spD K R_short) := by
  refine T.F__law_short.ok sc__law_short (fun vs H Q E h => ?_) (fun cdv A outer s H vs Q E hr h => ?_)
  · obtain ⟨_, _, _, _, r, hR, _⟩ := h
    exact r.length.trans (by cases hR; rfl)
  · refine ⟨_, PSs.nox (pss_cons (ps_set (i := 3) sc__law_short.nd rfl (by first | exact Or.inl rfl | exact Or.inr rfl) (pe_call (ok__law_sum T) (hr.mono (by decide)) (by rfl) T.g__law_sum T.F__law_sum.kp (b__law_sum T) .nil pass0 (pa_cons (pv 0) pa_nil)))
    (pss_cons (ps_set (i := 4) sc__law_short.nd rfl (by first | exact Or.inl rfl | exact Or.inr rfl) (pe_lst pa_nil))
    (pss_cons (ps_for PassesOwn.never rfl (pi_range1 (by rfl) T.z_range (pa_cons (pe_callB (call_lenK (K := K) rfl) (by rfl) T.z_len (by decide +kernel) (pa_cons (pv 0) pa_nil)) pa_nil)) (pg_name (i := 5) sc__law_short.nd rfl (by first | exact Or.inl rfl | exact Or.inr rfl)) (pss_cons (ps_set (i := 6) sc__law_short.nd rfl (by first | exact Or.inl rfl | exact Or.inr rfl) (pe_call (ok__law_times T) (hr.mono (by decide)) (by rfl) T.g__law_times T.F__law_times.kp (b__law_times T) .nil pass0 (pa_cons (pe_call (ok__law_over T) (hr.mono (by decide)) (by rfl) T.g__law_over T.F__law_over.kp (b__law_over T) .nil pass0 (pa_cons (pe_ix (ix_seqK (K := K) rfl) (pv 0) (pv 5) (fun _ _ => rfl)) (pa_cons (pv 3) pa_nil))) (pa_cons (pe_call (ok__law_sum T) (hr.mono (by decide)) (by rfl) T.g__law_sum T.F__law_sum.kp (b__law_sum T) .nil pass0 (pa_cons (pe_ix (ix_seqK (K := K) rfl) (pv 1) (pv 5) (fun _ _ => rfl)) pa_nil)) pa_nil))))
    (pss_one (ps_if (pt_val (pe_call (ok__law_less T) (hr.mono (by decide)) (by rfl) T.g__law_less T.F__law_less.kp (b__law_less T) .nil pass0 (pa_cons (pe_call (ok__law_joy T) (hr.mono (by decide)) (by rfl) T.g__law_joy T.F__law_joy.kp (b__law_joy T) .nil pass0 (pa_cons (pe_ix (ix_seqK (K := K) rfl) (pv 1) (pv 5) (fun _ _ => rfl)) (pa_cons (pe_ix (ix_seqK (K := K) rfl) (pv 2) (pv 5) (fun _ _ => rfl)) pa_nil))) (pa_cons (pv 6) pa_nil)))) (pss_one (ps_expr (pe_bm PySem.F.plainAttrs_list PySem.F.slot_list_append PySem.F.type_list_append mt_append (pv 4) (pa_cons (pv 5) pa_nil)))) pss_nil))))
    (pss_one (ps_ret (pv 4)))))), body_ok h fun ds d hR => ?_⟩
    obtain ⟨p, g, D, J, S, m⟩ := hR
    have m6 := m.p6
    have g6 := m.g6
    refine body_mk (ρ := [.dat (vec p D), .dat (mat p g J), .dat (mat p g S), .any, .any, .any, .any]) rfl ?_
    apply s_set
    · apply de_call0
      · walk_at "da"
      · exact tot_vec (m := 40) (fun k hk => (m.d k hk).2) (by have := Nat.mul_le_mul_left (40 + 1) m6; omega) (by decide)
    walk_at "norm"
    walk_at "own"
    refine s_for (di_rangeN (by omega) (da_cons (de_lenL (de_var rfl) len_vec) da_nil)) (fun i τ => τ = [.dat (vec p D), .dat (mat p g J), .dat (mat p g S), .dat (fq (rs p D)), .own ((srow (cS p g D J S) i).map .int), .any, .any]) ⟨_, by walk_at "wk", rfl⟩ (fun i d τ hd hτ => ?_) (fun τ hτ => ?_)
    · subst hτ
      obtain ⟨hi, rfl⟩ := rngN_get hd
      refine ⟨_, dg_name, ?_⟩
      walk_at "norm"
      have w := m.w
      have d1 := m.d i hi
      have q1 := div_bd d1.2 w.2 w.1
      have q2 := m.jr hi
      apply s_set
      · apply de_call0
        · apply da_cons
          · apply de_call0
            · apply da_cons
              · exact de_op (de_var rfl) (de_var rfl) (rd_ixLG (atI_range (fun i => fq (D i)) hi rfl))
              · walk_at "da"
            · exact R_over.mk _ _ (d1.2.mono (by decide)) (w.2.mono (by decide)) w.1
          · apply da_cons
            · apply de_call0
              · apply da_cons
                · exact de_op (de_var rfl) (de_var rfl) (rd_ixLG (atI_range (fun i => vec g (J i)) hi rfl))
                · exact da_nil
              · exact tot_vec (m := 40) (m.j i hi) (by have := Nat.mul_le_mul_left (40 + 1) g6; omega) (by decide)
            · exact da_nil
        · exact R_multiply.mk _ _ (q1.mono (by decide)) (q2.mono (by decide))
      walk_at "norm"
      refine es_if (b := cS p g D J S i) (by
        apply dt_B
        apply de_call0
        · apply da_cons
          · apply de_call0
            · apply da_cons
              · exact de_op (de_var rfl) (de_var rfl) (rd_ixLG (atI_range (fun i => vec g (J i)) hi rfl))
              · apply da_cons
                · exact de_op (de_var rfl) (de_var rfl) (rd_ixLG (atI_range (fun i => vec g (S i)) hi rfl))
                · exact da_nil
            · exact R_joy.mk g (J i) (S i) g6 (m.j i hi) (m.s i hi)
          · walk_at "da"
        · exact R_less.mk _ _ ((m.jo hi hi).mono (by decide)) ((mul_bd q1 q2).mono (by decide))) (fun h => ?_) (fun h => ?_)
      · apply es_append
        · rfl
        · walk_at "de"
        · rw [List.length_map]
          have := srow_len (cS p g D J S) i
          exact lt_line (by omega)
        walk_at "norm"
        refine ⟨_, ?_, rfl⟩
        rw [show (srow (cS p g D J S) (i + 1)).map Dt.int = (srow (cS p g D J S) i).map Dt.int ++ [Dt.int (i : Nat)] by rw [srow_succ, if_pos h]; exact List.map_append]
        walk_at "wk"
      · walk_at "e"
        refine ⟨_, ?_, rfl⟩
        rw [srow_succ, if_neg (by rw [h]; decide), List.append_nil]
        walk_at "wk"
    · subst hτ
      rw [rngN_len]
      refine es_weak (τ := [.dat (vec p D), .dat (mat p g J), .dat (mat p g S), .any, .dat (.lst ((srow (cS p g D J S) p).map .int)), .any, .any]) (by walk_at "wk") ?_
      apply es_ret
      · walk_at "de"
      · rfl
theorem ok__law_asked (T : Txt K mg) : FnOk P w K mg base CX0 7 (He.ga K "_law_asked") (fdAt K (He.ga K "_law_asked")) ["dues", "joys", "sharing"] (spD K R_asked) := by
  refine T.F__law_asked.ok sc__law_asked (fun vs H Q E h => ?_) (fun cdv A outer s H vs Q E hr h => ?_)
  · obtain ⟨_, _, _, _, r, hR, _⟩ := h
    exact r.length.trans (by cases hR; rfl)
  · refine ⟨_, PSs.nox (pss_cons (ps_set (i := 3) sc__law_asked.nd rfl (by first | exact Or.inl rfl | exact Or.inr rfl) (pe_call (ok__law_envied T) (hr.mono (by decide)) (by rfl) T.g__law_envied T.F__law_envied.kp (b__law_envied T) .nil pass0 (pa_cons (pv 0) (pa_cons (pv 1) (pa_cons (pv 2) pa_nil)))))
    (pss_cons (ps_set (i := 4) sc__law_asked.nd rfl (by first | exact Or.inl rfl | exact Or.inr rfl) (pe_call (ok__law_short T) (hr.mono (by decide)) (by rfl) T.g__law_short T.F__law_short.kp (b__law_short T) .nil pass0 (pa_cons (pv 0) (pa_cons (pv 1) (pa_cons (pv 2) pa_nil)))))
    (pss_cons (ps_set (i := 5) sc__law_asked.nd rfl (by first | exact Or.inl rfl | exact Or.inr rfl) (pe_lst (pa_cons (pe_callTy (call_listK (K := K) rfl) (by rfl) T.z_list (by decide +kernel) (pa_cons (pv 0) pa_nil)) (pa_cons (pe_lc (own := [("row", 6)]) (g := gName 6) (tt := tYes) rfl sc__law_asked.nd (pi_listK (K := K) rfl (pv 1)) (blkOk_by (N := N__law_asked) (sc := defScope s__law_asked) (by first | decide +kernel | kernel_rfl)) (fun _ _ _ _ _ => pg_name (i := 6) sc__law_asked.nd rfl (by first | exact Or.inl rfl | exact Or.inr rfl)) (fun _ _ _ _ _ => pts_nil) (fun _ _ _ _ _ => (pe_callTy (call_listK (K := K) rfl) (by rfl) T.z_list (by decide +kernel) (pa_cons (pv 6) pa_nil)))) (pa_cons (pe_lc (own := [("row", 6)]) (g := gName 6) (tt := tYes) rfl sc__law_asked.nd (pi_listK (K := K) rfl (pv 2)) (blkOk_by (N := N__law_asked) (sc := defScope s__law_asked) (by first | decide +kernel | kernel_rfl)) (fun _ _ _ _ _ => pg_name (i := 6) sc__law_asked.nd rfl (by first | exact Or.inl rfl | exact Or.inr rfl)) (fun _ _ _ _ _ => pts_nil) (fun _ _ _ _ _ => (pe_callTy (call_listK (K := K) rfl) (by rfl) T.z_list (by decide +kernel) (pa_cons (pv 6) pa_nil)))) pa_nil)))))
    (pss_cons (ps_if (pt_not (pt_val (pe_call (ok__law_pairs T) (hr.mono (by decide)) (by rfl) T.g__law_pairs T.F__law_pairs.kp (b__law_pairs T) .nil pass0 (pa_cons (pe_call (ok_envies T) (hr.mono (by decide)) (by rfl) T.g_envies T.F_envies.kp (b_envies T) .nil pass0 (pa_cons (pe_ix (ix_seqK (K := K) rfl) (pv 5) pe_int (fun _ _ => rfl)) (pa_cons (pe_ix (ix_seqK (K := K) rfl) (pv 5) pe_int (fun _ _ => rfl)) (pa_cons (pe_ix (ix_seqK (K := K) rfl) (pv 5) pe_int (fun _ _ => rfl)) pa_nil)))) (pa_cons (pv 3) pa_nil))))) (pss_one (ps_ret pe_bl)) pss_nil)
    (pss_cons (ps_if (pt_not (pt_val (pe_call (ok__law_numbers T) (hr.mono (by decide)) (by rfl) T.g__law_numbers T.F__law_numbers.kp (b__law_numbers T) .nil pass0 (pa_cons (pe_call (ok_even_short T) (hr.mono (by decide)) (by rfl) T.g_even_short T.F_even_short.kp (b_even_short T) .nil pass0 (pa_cons (pe_ix (ix_seqK (K := K) rfl) (pv 5) pe_int (fun _ _ => rfl)) (pa_cons (pe_ix (ix_seqK (K := K) rfl) (pv 5) pe_int (fun _ _ => rfl)) (pa_cons (pe_ix (ix_seqK (K := K) rfl) (pv 5) pe_int (fun _ _ => rfl)) pa_nil)))) (pa_cons (pv 4) pa_nil))))) (pss_one (ps_ret pe_bl)) pss_nil)
    (pss_one (ps_ret (pe_cmpR (op_eqK (K := K) rfl hr.units) (pv 5) (pe_lst (pa_cons (pv 0) (pa_cons (pv 1) (pa_cons (pv 2) pa_nil)))) (nomark _))))))))), body_ok h fun ds d hR => ?_⟩
    obtain ⟨p, g, D, J, S, m⟩ := hR
    have m6 := m.p6
    have g6 := m.g6
    refine body_mk (ρ := [.dat (vec p D), .dat (mat p g J), .dat (mat p g S), .any, .any, .any, .any]) rfl ?_
    apply s_set
    · apply de_call0
      · walk_at "da"
      · exact R_envied.mk p g D J S m
    walk_at "norm"
    apply s_set
    · apply de_call0
      · walk_at "da"
      · exact R_short.mk p g D J S m
    walk_at "norm"
    apply s_set (d := .lst [vec p D, mat p g J, mat p g S])
    · refine DL.de (dl_lst ?_ (sz_of100 (by simp)))
      apply da_cons
      · exact DL.de (dl_cb (ds := [vec p D]) (da_cons (de_var rfl) da_nil) rc_list)
      · apply da_cons
        · refine DL.de (dl_lcA (List.range p) (fun i => vec g (J i)) (fun i => vec g (J i)) (di_list (ds := (List.range p).map fun i => vec g (J i)) (de_var rfl)) (by rw [List.length_range]; exact lt_line (by omega)) ?_)
          intro i k hk
          refine ⟨_, dgw_name (by decide), ?_⟩
          dsimp only [List.map, wipeE, List.set_cons_zero, List.set_cons_succ]
          exact DL.de (dl_cb (ds := [vec g (J k)]) (da_cons (de_var rfl) da_nil) rc_list)
        · apply da_cons
          · refine DL.de (dl_lcA (List.range p) (fun i => vec g (S i)) (fun i => vec g (S i)) (di_list (ds := (List.range p).map fun i => vec g (S i)) (de_var rfl)) (by rw [List.length_range]; exact lt_line (by omega)) ?_)
            intro i k hk
            refine ⟨_, dgw_name (by decide), ?_⟩
            dsimp only [List.map, wipeE, List.set_cons_zero, List.set_cons_succ]
            exact DL.de (dl_cb (ds := [vec g (S k)]) (da_cons (de_var rfl) da_nil) rc_list)
          · exact da_nil
    walk_at "norm"
    have ip : ∀ (ρ : PEnv) (j : Int) (d : Dt), ρ[5]? = some (.dat (.lst [vec p D, mat p g J, mat p g S])) → atI [vec p D, mat p g J, mat p g S] j = some d → DE K (tOp (rIx K) (tVar 5) (tC (.int j))) ρ d := fun ρ j d h1 h2 => de_op (de_var h1) de_int (rd_ixLG h2)
    have da3 : ∀ (ρ : PEnv), ρ[5]? = some (.dat (.lst [vec p D, mat p g J, mat p g S])) → DA K (tCons (tOp (rIx K) (tVar 5) (tC (.int 0))) (tCons (tOp (rIx K) (tVar 5) (tC (.int 1))) (tCons (tOp (rIx K) (tVar 5) (tC (.int 2))) tNil))) ρ [vec p D, mat p g J, mat p g S] := fun ρ h => da_cons (ip ρ 0 _ h rfl) (da_cons (ip ρ 1 _ h rfl) (da_cons (ip ρ 2 _ h rfl) da_nil))
    refine s_ifF (dt_is (b := false) (by
      apply dt_not
      apply dt_B
      apply de_call0
      · apply da_cons
        · exact de_call0 (da3 _ rfl) (R_envies.mk p g D J S m)
        · walk_at "da"
      · have a1 := eall_len (cE g D J S) p p
        have a3 := Nat.mul_le_mul m6 m6
        exact R_pairs.mk _ (by omega) (eall_el _ _ _)) (by rfl)) (es_next' ?_)
    refine s_ifF (dt_is (b := false) (by
      apply dt_not
      apply dt_B
      apply de_call0
      · apply da_cons
        · exact de_call0 (da3 _ rfl) (R_even.mk p g D J S m)
        · walk_at "da"
      · have a1 := srow_len (cS p g D J S) p
        exact R_numbers.l _ (by omega)) (by rfl)) (es_next' ?_)
    apply es_ret
    · apply de_op
      · exact de_var rfl
      · exact DL.de (dl_lst (da_cons (de_var rfl) (da_cons (de_var rfl) (da_cons (de_var rfl) da_nil))) (sz_of100 (by simp)))
      · exact rd_eqPy (n := 4) (pyd_lst fun d hd => by
          simp only [List.mem_cons, List.not_mem_nil, or_false] at hd
          rcases hd with rfl | rfl | rfl
          · exact (pyd_vec _ _).mono (by decide)
          · exact pyd_mat _ _ _
          · exact pyd_mat _ _ _) (by decide)
    · rfl
theorem ok__law_changed (T : Txt K mg) : FnOk P w K mg base CX0 4 (He.ga K "_law_changed") (fdAt K (He.ga K "_law_changed")) ["digits", "at", "sharing"] (spD K R_changed) := by
  refine T.F__law_changed.ok sc__law_changed (fun vs H Q E h => ?_) (fun cdv A outer s H vs Q E hr h => ?_)
  · obtain ⟨_, _, _, _, r, hR, _⟩ := h
    exact r.length.trans (by cases hR; rfl)
  · refine ⟨_, PSs.nox (pss_cons (ps_setLc (i := 3) (own := [("row", 4)]) (g := gName 4) (tt := tYes) rfl sc__law_changed.nd rfl rfl (sw_true rfl rfl rfl (by decide +kernel)) (pi_listK (K := K) rfl (pv 2)) (blkOk_by (N := N__law_changed) (sc := defScope s__law_changed) (by first | decide +kernel | kernel_rfl)) (fun _ _ _ _ _ => pg_name (i := 4) sc__law_changed.nd rfl (by first | exact Or.inl rfl | exact Or.inr rfl)) (fun _ _ _ _ _ => pts_nil) (fun _ _ _ _ _ => (pe_callTy (call_listK (K := K) rfl) (by rfl) T.z_list (by decide +kernel) (pa_cons (pv 4) pa_nil))))
    (pss_cons (ps_set (i := 5) sc__law_changed.nd rfl (by first | exact Or.inl rfl | exact Or.inr rfl) (pe_op op_mod (pe_callTy (call_int1) (by rfl) T.z_int (by decide +kernel) (pa_cons (pe_ix (ix_seqK (K := K) rfl) (pv 0) pe_int (fun _ _ => rfl)) pa_nil)) (pe_callB (call_lenK (K := K) rfl) (by rfl) T.z_len (by decide +kernel) (pa_cons (pe_ix (ix_seqK (K := K) rfl) (pv 3) (pv 1) (fun _ _ => rfl)) pa_nil))))
    (pss_cons (ps_set (i := 6) sc__law_changed.nd rfl (by first | exact Or.inl rfl | exact Or.inr rfl) (pe_tup (pa_cons pe_int (pa_cons pe_int pa_nil))))
    (pss_cons (ps_if (PW.pt (pw_and (pt_cmpR (op_eqK (K := K) rfl hr.units) (pe_op op_mod (pe_callTy (call_int1) (by rfl) T.z_int (by decide +kernel) (pa_cons (pe_ix (ix_seqK (K := K) rfl) (pv 0) pe_int (fun _ _ => rfl)) pa_nil)) pe_int) pe_int (nomark _)) (pw_and1 (pt_not (pt_val (pe_call (ok__law_less T) (hr.mono (by decide)) (by rfl) T.g__law_less T.F__law_less.kp (b__law_less T) .nil pass0 (pa_cons (pe_ix (ix_seqK (K := K) rfl) (pe_ix (ix_seqK (K := K) rfl) (pv 3) (pv 1) (fun _ _ => rfl)) (pv 5) (fun _ _ => rfl)) (pa_cons (pv 6) pa_nil)))))))) (pss_one (ps_set (i := 6) sc__law_changed.nd rfl (by first | exact Or.inl rfl | exact Or.inr rfl) (pe_tup (pa_cons (pe_un un_neg pe_int) (pa_cons pe_int pa_nil))))) pss_nil)
    (pss_cons (ps_asg (pe_call (ok__law_plus T) (hr.mono (by decide)) (by rfl) T.g__law_plus T.F__law_plus.kp (b__law_plus T) .nil pass0 (pa_cons (pe_ix (ix_seqK (K := K) rfl) (pe_ix (ix_seqK (K := K) rfl) (pv 3) (pv 1) (fun _ _ => rfl)) (pv 5) (fun _ _ => rfl)) (pa_cons (pv 6) pa_nil))) (pg_sub (pe_ix (ix_seqK (K := K) rfl) (pv 3) (pv 1) (fun _ _ => rfl)) (pv 5) set_list))
    (pss_one (ps_ret (pv 3)))))))), body_ok h fun ds d hR => ?_⟩
    obtain ⟨x, y, a, p, g, S, ha, p6, g1, g6, hB⟩ := hR
    refine body_mk (ρ := [.dat (.lst [.int x, .int y]), .dat (.int (a : Int)), .dat (mat p g S), .any, .any, .any, .any]) rfl ?_
    obtain ⟨RW, hRW⟩ : ∃ RW : List (List Dt), RW = (List.range p).map fun i => (List.range g).map fun j => fq (S i j) := ⟨_, rfl⟩
    have eM : Dt.lst (RW.map Dt.lst) = mat p g S := by
      rw [hRW, List.map_map]
      rfl
    have aR : atI RW (a : Int) = some ((List.range g).map fun j => fq (S a j)) := by
      rw [hRW]
      exact atI_range (fun i => (List.range g).map fun j => fq (S i j)) ha rfl
    have hg : (0 : Int) < (g : Int) := by omega
    have e1 := Int.emod_nonneg x (b := (g : Int)) (by omega)
    have e2 := Int.emod_lt_of_pos x hg
    obtain ⟨j, hj⟩ : ∃ j : Nat, (x % (g : Int)).toNat = j := ⟨_, rfl⟩
    have jg : j < g := by omega
    have ej : x % (g : Int) = (j : Int) := by omega
    rw [hj] at hB ⊢
    apply s_setOwn2 (rows := RW)
    · rw [hRW]
      refine dm_lcA (List.range p) (fun i => vec g (S i)) (fun i => (List.range g).map fun j => fq (S i j)) (di_list (ds := (List.range p).map fun i => vec g (S i)) (de_var rfl)) (by rw [List.length_range]; exact lt_line (by omega)) ?_
      intro i k hk
      refine ⟨_, dgw_name (by decide), ?_⟩
      dsimp only [List.map, wipeE, List.set_cons_zero, List.set_cons_succ]
      exact dl_cb (ds := [vec g (S k)]) (da_cons (de_var rfl) da_nil) rc_list
    walk_at "norm"
    apply s_set (d := .int (j : Int))
    · refine de_I (de_give (τ := [.dat (.lst [.int x, .int y]), .dat (.int (a : Int)), .any, .dat (mat p g S), .any, .any, .any]) (Wk.same (Wk.same (Wk.any (Wk.give2e eM (Wk.any (Wk.any (Wk.any Wk.nil))))))) (d := .int (x % (g : Int))) ?_ rfl) ej
      apply de_op
      · walk_at "de"
      · exact de_lenL (de_op (de_var rfl) (de_var rfl) (rd_ixLG (atI_range (fun i => vec g (S i)) ha rfl))) len_vec
      · walk_at "rd"
    walk_at "norm"
    have q1 : fq (Rat.divInt 1 1000) = .tup [.int 1, .int 1000] := by
      rw [low_any 1 1000 (by decide)]
      rfl
    have q2 : fq (Rat.divInt (-1) 1000) = .tup [.int (-1), .int 1000] := by
      rw [low_any (-1) 1000 (by decide)]
      rfl
    apply s_set (d := fq (Rat.divInt 1 1000))
    · exact de_is (by walk_at "de") q1.symm
    walk_at "norm"
    have item : ∀ (ρ : PEnv), ρ[3]? = some (.own2 RW) → ρ[1]? = some (.dat (.int (a : Int))) → ρ[5]? = some (.dat (.int (j : Int))) → DE K (tOp (rIx K) (tOp (rIx K) (tVar 3) (tVar 1)) (tVar 5)) ρ (fq (S a j)) := fun ρ h3 h1 h5 => de_ix2 h3 (de_var h1) (de_var h5) aR (atI_range (fun j => fq (S a j)) jg rfl)
    have st0 : Bd 10 (Rat.divInt 1 1000) := low_bd (by decide) (by decide) (by decide)
    refine s_ifJ (b := decide (y % 2 = 1) && !decide (S a j < Rat.divInt 1 1000)) [.dat (.lst [.int x, .int y]), .dat (.int (a : Int)), .any, .own2 RW, .any, .dat (.int (j : Int)), .dat (fq (stp y (S a j)))] (by
      apply dt_and
      · apply dt_B
        walk_at "de"
      · intro _
        apply dt_not
        apply dt_B
        apply de_call0
        · exact da_cons (item _ rfl rfl rfl) (da_cons (de_var rfl) da_nil)
        · exact R_less.mk _ _ (hB.mono (by decide)) (st0.mono (by decide))) (fun h => ?_) (fun h => ?_) ?_
    · obtain ⟨h1, h2⟩ := Bool.and_eq_true_iff.mp h
      apply es_set (d := fq (stp y (S a j)))
      · refine de_is (by walk_at "de") (Eq.trans q2.symm ?_)
        unfold stp
        rw [if_pos ⟨of_decide_eq_true h1, fun z => by rw [decide_eq_true z] at h2; cases h2⟩]
      walk_at "norm"
      walk_at "wk"
    · apply es_next
      have e : stp y (S a j) = Rat.divInt 1 1000 := by
        unfold stp
        rw [if_neg fun z => by
          rw [decide_eq_true z.1, decide_eq_false z.2] at h
          cases h]
      rw [e]
      walk_at "wk"
    have hn : (RW.set a (((List.range g).map fun j => fq (S a j)).set j (fq (S a j + stp y (S a j))))) = (List.range p).map fun i => (List.range g).map fun k => fq (chg S a j y i k) := by
      rw [hRW, set_range, set_range]
      refine List.map_congr_left fun i _ => ?_
      by_cases h : i = a
      · rw [if_pos h]
        refine List.map_congr_left fun k _ => ?_
        subst h
        by_cases h2 : k = j
        · rw [if_pos h2]
          unfold chg
          rw [if_pos rfl, if_pos h2]
        · rw [if_neg h2]
          unfold chg
          rw [if_pos rfl, if_neg h2]
      · rw [if_neg h]
        refine List.map_congr_left fun k _ => ?_
        unfold chg
        rw [if_neg h]
    apply s_setIx2 (d := fq (S a j + stp y (S a j))) (rows := RW) (ds := (List.range g).map fun j => fq (S a j)) (n := (a : Int)) (m := (j : Int)) (j := a) (l := j)
    · rfl
    · apply de_call0
      · exact da_cons (item _ rfl rfl rfl) (da_cons (de_var rfl) da_nil)
      · exact R_add.mk _ _ (hB.mono (by decide)) ((stp_bd _ _).mono (by decide))
    · exact de_var rfl
    · exact de_var rfl
    · exact ixN_of rfl (by rw [hRW, List.length_map, List.length_range]; exact ha)
    · rw [hRW, List.getElem?_map, List.getElem?_range ha]
      rfl
    · exact ixN_of rfl (by rw [List.length_map, List.length_range]; exact jg)
    walk_at "norm"
    rw [hn]
    refine es_weak (τ := [.any, .any, .any, .dat (mat p g (chg S a j y)), .any, .any, .any]) (Wk.any (Wk.any (Wk.any (Wk.give2e (by rw [List.map_map]; rfl) (Wk.any (Wk.any (Wk.any Wk.nil))))))) ?_
    apply es_ret
    · walk_at "de"
    · rfl
theorem ok_law (T : Txt K mg) : FnOk P w K mg base CX0 8 (He.ga K "law") (fdAt K (He.ga K "law")) ["script"] (spD K R_law) := by
  refine T.F_law.ok sc_law (fun vs H Q E h => ?_) (fun cdv A outer s H vs Q E hr h => ?_)
  · obtain ⟨_, _, _, _, r, hR, _⟩ := h
    exact r.length.trans (by cases hR; rfl)
  · refine ⟨_, PSs.nox (pss_cons (ps_set (i := 1) sc_law.nd rfl (by first | exact Or.inl rfl | exact Or.inr rfl) (pe_call (ok__law_digits T) (hr.mono (by decide)) (by rfl) T.g__law_digits T.F__law_digits.kp (b__law_digits T) .nil pass0 (pa_cons (pe_call (ok__law_cell T) (hr.mono (by decide)) (by rfl) T.g__law_cell T.F__law_cell.kp (b__law_cell T) .nil pass0 (pa_cons (pv 0) (pa_cons pe_int pa_nil))) (pa_cons pe_int (pa_cons pe_int pa_nil)))))
    (pss_cons (ps_set (i := 2) sc_law.nd rfl (by first | exact Or.inl rfl | exact Or.inr rfl) (pe_ix (ix_seqK (K := K) rfl) (pe_lst (pa_cons pe_int (pa_cons pe_int (pa_cons pe_int (pa_cons pe_int (pa_cons pe_int (pa_cons pe_int pa_nil))))))) (pe_op op_mod (pe_callTy (call_int1) (by rfl) T.z_int (by decide +kernel) (pa_cons (pe_ix (ix_seqK (K := K) rfl) (pv 1) pe_int (fun _ _ => rfl)) pa_nil)) pe_int) (fun _ _ => rfl)))
    (pss_cons (ps_set (i := 3) sc_law.nd rfl (by first | exact Or.inl rfl | exact Or.inr rfl) (pe_ix (ix_seqK (K := K) rfl) (pe_lst (pa_cons pe_int (pa_cons pe_int (pa_cons pe_int (pa_cons pe_int (pa_cons pe_int (pa_cons pe_int pa_nil))))))) (pe_op op_mod (pe_callTy (call_int1) (by rfl) T.z_int (by decide +kernel) (pa_cons (pe_ix (ix_seqK (K := K) rfl) (pv 1) pe_int (fun _ _ => rfl)) pa_nil)) pe_int) (fun _ _ => rfl)))
    (pss_cons (ps_set (i := 4) sc_law.nd rfl (by first | exact Or.inl rfl | exact Or.inr rfl) (pe_cmpR (op_eqK (K := K) rfl hr.units) (pe_op op_mod (pe_callTy (call_int1) (by rfl) T.z_int (by decide +kernel) (pa_cons (pe_ix (ix_seqK (K := K) rfl) (pv 1) pe_int (fun _ _ => rfl)) pa_nil)) pe_int) pe_int (nomark _)))
    (pss_cons (ps_set (i := 5) sc_law.nd rfl (by first | exact Or.inl rfl | exact Or.inr rfl) (pe_call (ok__law_digits T) (hr.mono (by decide)) (by rfl) T.g__law_digits T.F__law_digits.kp (b__law_digits T) .nil pass0 (pa_cons (pe_call (ok__law_cell T) (hr.mono (by decide)) (by rfl) T.g__law_cell T.F__law_cell.kp (b__law_cell T) .nil pass0 (pa_cons (pv 0) (pa_cons pe_int pa_nil))) (pa_cons pe_int (pa_cons pe_int pa_nil)))))
    (pss_cons (ps_set (i := 6) sc_law.nd rfl (by first | exact Or.inl rfl | exact Or.inr rfl) (pe_lc (own := [("i", 7)]) (g := gName 7) (tt := tYes) rfl sc_law.nd (pi_range1 (by rfl) T.z_range (pa_cons (pv 2) pa_nil)) (blkOk_by (N := N_law) (sc := defScope s_law) (by first | decide +kernel | kernel_rfl)) (fun _ _ _ _ _ => pg_name (i := 7) sc_law.nd rfl (by first | exact Or.inl rfl | exact Or.inr rfl)) (fun _ _ _ _ _ => pts_nil) (fun _ _ _ _ _ => (pe_call (ok__law_number T) (hr.mono (by decide)) (by rfl) T.g__law_number T.F__law_number.kp (b__law_number T) .nil pass0 (pa_cons (pv 5) (pa_cons (pv 7) (pa_cons pe_bl (pa_cons (pv 4) pa_nil))))))))
    (pss_cons (ps_set (i := 8) sc_law.nd rfl (by first | exact Or.inl rfl | exact Or.inr rfl) (pe_call (ok__law_joys T) (hr.mono (by decide)) (by rfl) T.g__law_joys T.F__law_joys.kp (b__law_joys T) .nil pass0 (pa_cons (pv 0) (pa_cons (pv 2) (pa_cons (pv 3) (pa_cons (pv 4) pa_nil))))))
    (pss_cons (ps_set (i := 9) sc_law.nd rfl (by first | exact Or.inl rfl | exact Or.inr rfl) (pe_call (ok__law_weighted T) (hr.mono (by decide)) (by rfl) T.g__law_weighted T.F__law_weighted.kp (b__law_weighted T) .nil pass0 (pa_cons (pv 0) (pa_cons (pv 2) (pa_cons (pv 3) pa_nil)))))
    (pss_cons (ps_if (pt_not (pt_val (pe_call (ok__law_asked T) (hr.mono (by decide)) (by rfl) T.g__law_asked T.F__law_asked.kp (b__law_asked T) .nil pass0 (pa_cons (pv 6) (pa_cons (pv 8) (pa_cons (pv 9) pa_nil)))))) (pss_one (ps_ret pe_bl)) pss_nil)
    (pss_cons (ps_set (i := 10) sc_law.nd rfl (by first | exact Or.inl rfl | exact Or.inr rfl) (pe_call (ok__law_digits T) (hr.mono (by decide)) (by rfl) T.g__law_digits T.F__law_digits.kp (b__law_digits T) .nil pass0 (pa_cons (pe_call (ok__law_cell T) (hr.mono (by decide)) (by rfl) T.g__law_cell T.F__law_cell.kp (b__law_cell T) .nil pass0 (pa_cons (pv 0) (pa_cons pe_int pa_nil))) (pa_cons pe_int (pa_cons pe_int pa_nil)))))
    (pss_cons (ps_set (i := 7) sc_law.nd rfl (by first | exact Or.inl rfl | exact Or.inr rfl) (pe_op op_mod (pe_callTy (call_int1) (by rfl) T.z_int (by decide +kernel) (pa_cons (pe_ix (ix_seqK (K := K) rfl) (pv 10) pe_int (fun _ _ => rfl)) pa_nil)) (pv 2)))
    (pss_cons (ps_set (i := 11) sc_law.nd rfl (by first | exact Or.inl rfl | exact Or.inr rfl) (pe_op op_mod (pe_callTy (call_int1) (by rfl) T.z_int (by decide +kernel) (pa_cons (pe_op (op_addK (K := K) rfl) (pe_op (op_addK (K := K) rfl) (pv 7) pe_int) (pe_op op_mod (pe_callTy (call_int1) (by rfl) T.z_int (by decide +kernel) (pa_cons (pe_ix (ix_seqK (K := K) rfl) (pv 10) pe_int (fun _ _ => rfl)) pa_nil)) (pe_callB (call_max2 rfl) (by rfl) T.z_max (by decide +kernel) (pa_cons pe_int (pa_cons (pe_op op_sub (pv 2) pe_int) pa_nil))))) pa_nil)) (pv 2)))
    (pss_cons (ps_setLc (i := 12) (own := [("row", 13)]) (g := gName 13) (tt := tYes) rfl sc_law.nd rfl rfl (sw_true rfl rfl rfl (by decide +kernel)) (pi_listK (K := K) rfl (pv 9)) (blkOk_by (N := N_law) (sc := defScope s_law) (by first | decide +kernel | kernel_rfl)) (fun _ _ _ _ _ => pg_name (i := 13) sc_law.nd rfl (by first | exact Or.inl rfl | exact Or.inr rfl)) (fun _ _ _ _ _ => pts_nil) (fun _ _ _ _ _ => (pe_callTy (call_listK (K := K) rfl) (by rfl) T.z_list (by decide +kernel) (pa_cons (pv 13) pa_nil))))
    (pss_cons (ps_asg (pe_lc (own := [("share", 14)]) (g := gName 14) (tt := tYes) rfl sc_law.nd (pi_listK (K := K) rfl (pe_ix (ix_seqK (K := K) rfl) (pv 9) (pv 7) (fun _ _ => rfl))) (blkOk_by (N := N_law) (sc := defScope s_law) (by first | decide +kernel | kernel_rfl)) (fun _ _ _ _ _ => pg_name (i := 14) sc_law.nd rfl (by first | exact Or.inl rfl | exact Or.inr rfl)) (fun _ _ _ _ _ => pts_nil) (fun _ _ _ _ _ => (pe_call (ok__law_times T) (hr.mono (by decide)) (by rfl) T.g__law_times T.F__law_times.kp (b__law_times T) .nil pass0 (pa_cons (pv 14) (pa_cons (pe_call (ok__law_over T) (hr.mono (by decide)) (by rfl) T.g__law_over T.F__law_over.kp (b__law_over T) .nil pass0 (pa_cons (pe_ix (ix_seqK (K := K) rfl) (pv 6) (pv 11) (fun _ _ => rfl)) (pa_cons (pe_ix (ix_seqK (K := K) rfl) (pv 6) (pv 7) (fun _ _ => rfl)) pa_nil))) pa_nil))))) (pg_sub (pv 12) (pv 11) set_list))
    (pss_cons (ps_if (PW.pt (pw_or (pt_not (pt_val (pe_call (ok__law_asked T) (hr.mono (by decide)) (by rfl) T.g__law_asked T.F__law_asked.kp (b__law_asked T) .nil pass0 (pa_cons (pv 6) (pa_cons (pv 8) (pa_cons (pv 12) pa_nil)))))) (pw_or1 (pt_not (pt_val (pe_call (ok__law_asked T) (hr.mono (by decide)) (by rfl) T.g__law_asked T.F__law_asked.kp (b__law_asked T) .nil pass0 (pa_cons (pv 6) (pa_cons (pv 8) (pa_cons (pe_call (ok__law_changed T) (hr.mono (by decide)) (by rfl) T.g__law_changed T.F__law_changed.kp (b__law_changed T) .nil pass0 (pa_cons (pe_slice (sl_listK (K := K) rfl) (pv 10) (po_some pe_int) (po_some pe_int)) (pa_cons (pv 11) (pa_cons (pv 12) pa_nil)))) pa_nil))))))))) (pss_one (ps_ret pe_bl)) pss_nil)
    (pss_cons (ps_if (pt_not (pt_val (pe_call (ok__law_asked T) (hr.mono (by decide)) (by rfl) T.g__law_asked T.F__law_asked.kp (b__law_asked T) .nil pass0 (pa_cons (pe_op op_mulG (pe_lst (pa_cons (pe_tup (pa_cons pe_int (pa_cons pe_int pa_nil))) pa_nil)) (pv 2)) (pa_cons (pv 8) (pa_cons (pv 12) pa_nil)))))) (pss_one (ps_ret pe_bl)) pss_nil)
    (pss_cons (ps_set (i := 15) sc_law.nd rfl (by first | exact Or.inl rfl | exact Or.inr rfl) (pe_call (ok__law_sum T) (hr.mono (by decide)) (by rfl) T.g__law_sum T.F__law_sum.kp (b__law_sum T) .nil pass0 (pa_cons (pv 6) pa_nil)))
    (pss_cons (ps_setLc (i := 16) (own := [("due", 18)]) (g := gName 18) (tt := tYes) rfl sc_law.nd rfl rfl (sw_true rfl rfl rfl (by decide +kernel)) (pi_listK (K := K) rfl (pv 6)) (blkOk_by (N := N_law) (sc := defScope s_law) (by first | decide +kernel | kernel_rfl)) (fun _ _ _ _ _ => pg_name (i := 18) sc_law.nd rfl (by first | exact Or.inl rfl | exact Or.inr rfl)) (fun _ _ _ _ _ => pts_nil) (fun _ _ _ _ _ => (pe_lc (own := [("j", 17)]) (g := gName 17) (tt := tYes) rfl sc_law.nd (pi_range1 (by rfl) T.z_range (pa_cons (pv 3) pa_nil)) (blkOk_by (N := N_law) (sc := ⟨_, _, _, _, _⟩) (by first | decide +kernel | kernel_rfl)) (fun _ _ _ _ _ => pg_name (i := 17) sc_law.nd rfl (by first | exact Or.inl rfl | exact Or.inr rfl)) (fun _ _ _ _ _ => pts_nil) (fun _ _ _ _ _ => (pe_call (ok__law_over T) (hr.mono (by decide)) (by rfl) T.g__law_over T.F__law_over.kp (b__law_over T) .nil pass0 (pa_cons (pv 18) (pa_cons (pv 15) pa_nil)))))))
    (pss_cons (ps_if (pt_cmpR op_gt (pe_op (op_addK (K := K) rfl) (pe_callB (call_lenK (K := K) rfl) (by rfl) T.z_len (by decide +kernel) (pa_cons (pe_call (ok__law_envied T) (hr.mono (by decide)) (by rfl) T.g__law_envied T.F__law_envied.kp (b__law_envied T) .nil pass0 (pa_cons (pv 6) (pa_cons (pv 8) (pa_cons (pv 16) pa_nil)))) pa_nil)) (pe_callB (call_lenK (K := K) rfl) (by rfl) T.z_len (by decide +kernel) (pa_cons (pe_call (ok__law_short T) (hr.mono (by decide)) (by rfl) T.g__law_short T.F__law_short.kp (b__law_short T) .nil pass0 (pa_cons (pv 6) (pa_cons (pv 8) (pa_cons (pv 16) pa_nil)))) pa_nil))) pe_int (nomark _)) (pss_one (ps_ret pe_bl)) pss_nil)
    (pss_cons (ps_if (PW.pt (pw_or (pt_not (pt_val (pe_call (ok__law_asked T) (hr.mono (by decide)) (by rfl) T.g__law_asked T.F__law_asked.kp (b__law_asked T) .nil pass0 (pa_cons (pv 6) (pa_cons (pv 8) (pa_cons (pv 16) pa_nil)))))) (pw_or1 (pt_not (pt_val (pe_call (ok__law_asked T) (hr.mono (by decide)) (by rfl) T.g__law_asked T.F__law_asked.kp (b__law_asked T) .nil pass0 (pa_cons (pv 6) (pa_cons (pv 8) (pa_cons (pe_call (ok__law_changed T) (hr.mono (by decide)) (by rfl) T.g__law_changed T.F__law_changed.kp (b__law_changed T) .nil pass0 (pa_cons (pe_slice (sl_listK (K := K) rfl) (pv 10) (po_some pe_int) (po_some pe_int)) (pa_cons (pv 7) (pa_cons (pv 16) pa_nil)))) pa_nil))))))))) (pss_one (ps_ret pe_bl)) pss_nil)
    (pss_one (ps_ret (pe_call (ok__law_asked T) (hr.mono (by decide)) (by rfl) T.g__law_asked T.F__law_asked.kp (b__law_asked T) .nil pass0 (pa_cons (pv 6) (pa_cons (pv 8) (pa_cons (pv 9) pa_nil)))))))))))))))))))))))))), body_ok h fun ds d hR => ?_⟩
    obtain ⟨ns, hl⟩ := hR
    refine body_mk (ρ := [.dat (.lst (ns.map .int)), .any, .any, .any, .any, .any, .any, .any, .any, .any, .any, .any, .any, .any, .any, .any, .any, .any, .any]) rfl ?_
    have cell : ∀ (ρ : PEnv) (k : Nat), ρ[0]? = some (.dat (.lst (ns.map .int))) → DE K (tCall (spD K R_cell) [] E0 (tCons (tVar 0) (tCons (tC (.int (k : Int))) tNil))) ρ (.int (ns.getD k 0)) := fun ρ k h => de_call0 (da_cons (de_var h) (da_cons de_int da_nil)) (R_cell.mk ns k hl)
    have ln : ∀ (k : Nat) (b : Int) (n : Nat), (dg ns k b n).length = n := fun k b n => dst_len _ _ _
    have bn : ∀ (k : Nat) (b : Int) (n : Nat), 0 < b → ∀ x ∈ dg ns k b n, 0 ≤ x ∧ x < b := fun k b n hb => dst_in _ _ hb _
    have gi : ∀ (k : Nat) (b : Int) (n j : Nat), j < n → ∀ i : Int, i = (j : Int) → atI ((dg ns k b n).map Dt.int) i = some (.int ((dg ns k b n).getD j 0)) := fun k b n j hj i e => atI_getD (by rw [ln]; exact hj) e
    apply s_set (d := .lst ((dg ns 0 1000 3).map .int))
    · apply de_call0
      · exact da_cons (cell _ 0 rfl) (da_cons de_int (da_cons de_int da_nil))
      · exact R_digits.mk _ 1000 3 (by decide) (by decide) (by decide)
    walk_at "norm"
    obtain ⟨p, p1, p6, hp⟩ := pick6 (a := 2) (b := 4) (c := 3) (d := 6) (e := 1) (f := 5) (x := (dg ns 0 1000 3).getD 0 0) (by decide)
    obtain ⟨g, g1, g6, hg⟩ := pick6 (a := 3) (b := 6) (c := 1) (d := 4) (e := 5) (f := 2) (x := (dg ns 0 1000 3).getD 1 0) (by decide)
    have k0 := gi 0 1000 3 0 (by decide) 0 rfl
    have k1 := gi 0 1000 3 1 (by decide) 1 rfl
    have k2 := gi 0 1000 3 2 (by decide) 2 rfl
    apply s_set (d := .int (p : Int))
    · apply de_op
      · walk_at "de"
      · walk_at "de"
      · exact rd_ixLG hp
    walk_at "norm"
    apply s_set (d := .int (g : Int))
    · apply de_op
      · walk_at "de"
      · walk_at "de"
      · exact rd_ixLG hg
    walk_at "norm"
    apply s_set (d := .bl (decide ((dg ns 0 1000 3).getD 2 0 % 4 = 3)))
    · walk_at "de"
    walk_at "norm"
    generalize decide ((dg ns 0 1000 3).getD 2 0 % 4 = 3) = w
    apply s_set (d := .lst ((dg ns 1 1000000 12).map .int))
    · apply de_call0
      · exact da_cons (cell _ 1 rfl) (da_cons de_int (da_cons de_int da_nil))
      · exact R_digits.mk _ 1000000 12 (by decide) (by decide) (by decide)
    walk_at "norm"
    obtain ⟨D, hD⟩ : ∃ D : Nat → Rat, D = fun i => nm ((dg ns 1 1000000 12).getD (2 * i) 0) ((dg ns 1 1000000 12).getD (2 * i + 1) 0) i false w := ⟨_, rfl⟩
    have inn : ∀ k n j, j < n → 0 ≤ (dg ns k 1000000 n).getD j 0 ∧ (dg ns k 1000000 n).getD j 0 < 1000000 := fun k n j hj => by
      rw [List.getD_eq_getElem?_getD, List.getElem?_eq_getElem (by rw [ln]; exact hj)]
      exact bn k 1000000 n (by decide) _ (List.getElem_mem _)
    have okD : ∀ i, i < p → 0 < D i ∧ Bd 40 (D i) := fun i hi => by
      rw [hD]
      have z := nm_ok (a := i) false w (inn 1 12 (2 * i) (by omega)) (inn 1 12 (2 * i + 1) (by omega))
      exact ⟨z.2 rfl, z.1⟩
    apply s_set (d := vec p D)
    · refine DL.de (dl_lcA (List.range p) (fun i => .int (i : Nat)) (fun i => fq (D i)) (di_rangeN (p := p) (by omega) (by walk_at "da")) (by rw [List.length_range]; exact lt_line (by omega)) ?_)
      intro i k hk
      obtain ⟨rfl, hkp⟩ := range_mem hk
      refine ⟨_, dgw_name (by decide), ?_⟩
      dsimp only [List.map, wipeE, List.set_cons_zero, List.set_cons_succ]
      rw [hD]
      apply de_call0
      · walk_at "da"
      · exact R_number.mk (dg ns 1 1000000 12) k false w (by omega) (by rw [ln]; omega) (bn _ _ _ (by decide))
    walk_at "norm"
    obtain ⟨J, hJ⟩ : ∃ J : Nat → Nat → Rat, J = J57 ns g w := ⟨_, rfl⟩
    have okJ : ∀ i, i < p → ∀ j, j < g → Bd 40 (J i j) := fun i hi j hj => by
      rw [hJ]
      exact (nm_ok true w (inn (2 + i) (2 * g) (2 * j) (by omega)) (inn (2 + i) (2 * g) (2 * j + 1) (by omega))).1
    apply s_set (d := mat p g J)
    · rw [hJ]
      apply de_call0
      · walk_at "da"
      · exact R_joys.mk ns p g w hl p6 g6
    walk_at "norm"
    obtain ⟨S, hS⟩ : ∃ S : Nat → Nat → Rat, S = S57 ns p := ⟨_, rfl⟩
    have okS : ∀ i, i < p → ∀ j, j < g → Bd 10 (S i j) := fun i hi j hj => by
      rw [hS]
      exact S57_bd ns p p1 p6 i j
    apply s_set (d := mat p g S)
    · rw [hS]
      apply de_call0
      · walk_at "da"
      · exact R_weighted.mk ns p g hl p1 p6 g6
    walk_at "norm"
    clear hD hJ hS
    have mk : ∀ S' : Nat → Nat → Rat, (∀ i, i < p → ∀ j, j < g → Bd 300 (S' i j)) → Mk p g D J S' := fun S' h => ⟨p1, p6, g1, g6, okD, okJ, h⟩
    have mS : Mk p g D J S := mk S fun i hi j hj => (okS i hi j hj).mono (by decide)
    refine s_ifF (dt_is (b := false) (by
      apply dt_not
      apply dt_B
      apply de_call0
      · walk_at "da"
      · exact R_asked.mk p g D J S mS) (by rfl)) (es_next' ?_)
    apply s_set (d := .lst ((dg ns 14 1000 8).map .int))
    · apply de_call0
      · exact da_cons (cell _ 14 rfl) (da_cons de_int (da_cons de_int da_nil))
      · exact R_digits.mk _ 1000 8 (by decide) (by decide) (by decide)
    walk_at "norm"
    have d0 := gi 14 1000 8 0 (by decide) 0 rfl
    have d1 := gi 14 1000 8 1 (by decide) 1 rfl
    have hpp : (0 : Int) < (p : Int) := by omega
    obtain ⟨i, hi, ei⟩ : ∃ i : Nat, i < p ∧ (dg ns 14 1000 8).getD 0 0 % (p : Int) = (i : Int) := by
      have e1 := Int.emod_nonneg ((dg ns 14 1000 8).getD 0 0) (b := (p : Int)) (by omega)
      have e2 := Int.emod_lt_of_pos ((dg ns 14 1000 8).getD 0 0) hpp
      exact ⟨((dg ns 14 1000 8).getD 0 0 % (p : Int)).toNat, by omega, by omega⟩
    apply s_set (d := .int (i : Int))
    · exact de_I (by walk_at "de") ei
    walk_at "norm"
    have hmx : (0 : Int) < max 1 ((p : Int) - 1) := by omega
    obtain ⟨k, hk, ek⟩ : ∃ k : Nat, k < p ∧ ((i : Int) + 1 + (dg ns 14 1000 8).getD 1 0 % max 1 ((p : Int) - 1)) % (p : Int) = (k : Int) := by
      generalize (i : Int) + 1 + (dg ns 14 1000 8).getD 1 0 % max 1 ((p : Int) - 1) = z
      have e1 := Int.emod_nonneg z (b := (p : Int)) (by omega)
      have e2 := Int.emod_lt_of_pos z hpp
      exact ⟨(z % (p : Int)).toNat, by omega, by omega⟩
    apply s_set (d := .int (k : Int))
    · exact de_I (by walk_at "de") ek
    walk_at "norm"
    apply s_setOwn (ds := (List.range p).map fun i => vec g (S i))
    · refine dl_lcA (List.range p) (fun i => vec g (S i)) (fun i => vec g (S i)) (di_list (ds := (List.range p).map fun i => vec g (S i)) (de_var rfl)) (by rw [List.length_range]; exact lt_line (by omega)) ?_
      intro a b hb
      refine ⟨_, dgw_name (by decide), ?_⟩
      dsimp only [List.map, wipeE, List.set_cons_zero, List.set_cons_succ]
      exact DL.de (dl_cb (ds := [vec g (S b)]) (da_cons (de_var rfl) da_nil) rc_list)
    walk_at "norm"
    obtain ⟨Z, hZ⟩ : ∃ Z : Nat → Nat → Rat, Z = fun a j => if a = k then S i j * (D k / D i) else S a j := ⟨_, rfl⟩
    have okZ : ∀ i, i < p → ∀ j, j < g → Bd 100 (Z i j) := fun a ha j hj => by
      rw [hZ]
      show Bd 100 (if a = k then _ else _)
      split
      · exact (mul_bd (okS i hi j hj) (div_bd (okD k hk).2 (okD i hi).2 (okD i hi).1)).mono (by decide)
      · exact (okS a ha j hj).mono (by decide)
    have eZ : (((List.range p).map fun i => vec g (S i)).set k (vec g fun j => S i j * (D k / D i))) = (List.range p).map fun i => vec g (Z i) := by
      rw [set_range]
      refine List.map_congr_left fun a _ => ?_
      rw [hZ]
      by_cases h : a = k
      · rw [if_pos h]
        simp only [if_pos h]
      · rw [if_neg h]
        simp only [if_neg h]
    apply s_setIx (n := (k : Int)) (j := k) (d := vec g fun j => S i j * (D k / D i))
    · rfl
    · refine DL.de (dl_lcA (List.range g) (fun j => fq (S i j)) (fun j => fq (S i j * (D k / D i))) (di_list (ds := (List.range g).map fun j => fq (S i j)) (de_op (de_var rfl) (de_var rfl) (rd_ixLG (atI_range (fun i => vec g (S i)) hi rfl)))) (by rw [List.length_range]; exact lt_line (by omega)) ?_)
      intro a j hj
      obtain ⟨rfl, hjp⟩ := range_mem hj
      refine ⟨_, dgw_name (by decide), ?_⟩
      dsimp only [List.map, wipeE, List.set_cons_zero, List.set_cons_succ]
      apply de_call0
      · apply da_cons
        · exact de_var rfl
        · apply da_cons
          · apply de_call0
            · apply da_cons
              · exact de_op (de_var rfl) (de_var rfl) (rd_ixLG (atI_range (fun i => fq (D i)) hk rfl))
              · apply da_cons
                · exact de_op (de_var rfl) (de_var rfl) (rd_ixLG (atI_range (fun i => fq (D i)) hi rfl))
                · exact da_nil
            · exact R_over.mk _ _ ((okD k hk).2.mono (by decide)) ((okD i hi).2.mono (by decide)) (okD i hi).1
          · exact da_nil
      · exact R_multiply.mk _ _ ((okS i hi _ hjp).mono (by decide)) ((div_bd (okD k hk).2 (okD i hi).2 (okD i hi).1).mono (by decide))
    · exact de_var rfl
    · exact ixN_of rfl (by rw [List.length_map, List.length_range]; exact hk)
    walk_at "norm"
    rw [eZ]
    clear hZ eZ
    refine es_weak (τ := [.dat (.lst (ns.map .int)), .any, .dat (.int (p : Int)), .dat (.int (g : Int)), .any, .any, .dat (vec p D), .dat (.int (i : Int)), .dat (mat p g J), .dat (mat p g S), .dat (.lst ((dg ns 14 1000 8).map .int)), .dat (.int (k : Int)), .dat (mat p g Z), .any, .any, .any, .any, .any, .any]) (by walk_at "wk") ?_
    obtain ⟨x0, x1, x2, x3, x4, x5, x6, x7, ex⟩ : ∃ x0 x1 x2 x3 x4 x5 x6 x7 : Int, dg ns 14 1000 8 = [x0, x1, x2, x3, x4, x5, x6, x7] := by
      have h := ln 14 1000 8
      match e : dg ns 14 1000 8, h with
      | [x0, x1, x2, x3, x4, x5, x6, x7], _ => exact ⟨x0, x1, x2, x3, x4, x5, x6, x7, rfl⟩
    have c1 : cutD ((dg ns 14 1000 8).map Dt.int) (some 2) (some 4) = [.int x2, .int x3] := by rw [ex]; rfl
    have c2 : cutD ((dg ns 14 1000 8).map Dt.int) (some 4) (some 6) = [.int x4, .int x5] := by rw [ex]; rfl
    have lt2 : (x2 % (g : Int)).toNat < g := by
      have e1 := Int.emod_nonneg x2 (b := (g : Int)) (by omega)
      have e2 := Int.emod_lt_of_pos x2 (b := (g : Int)) (by omega)
      omega
    have lt4 : (x4 % (g : Int)).toNat < g := by
      have e1 := Int.emod_nonneg x4 (b := (g : Int)) (by omega)
      have e2 := Int.emod_lt_of_pos x4 (b := (g : Int)) (by omega)
      omega
    refine s_ifF (dt_is (b := false) (by
      apply dt_or
      · apply dt_not
        apply dt_B
        apply de_call0
        · walk_at "da"
        · exact R_asked.mk p g D J Z (mk Z fun i hi j hj => (okZ i hi j hj).mono (by decide))
      · intro _
        apply dt_not
        apply dt_B
        apply de_call0
        · apply da_cons
          · exact de_var rfl
          · apply da_cons
            · exact de_var rfl
            · apply da_cons
              · apply de_call0
                · apply da_cons
                  · exact DL.de (dl_is (dl_sl (de_var rfl) (do_some de_int) (do_some de_int)) c1)
                  · walk_at "da"
                · exact R_changed.mk x2 x3 k p g Z hk p6 g1 g6 ((okZ k hk _ lt2).mono (by decide))
              · exact da_nil
        · exact R_asked.mk p g D J (chg Z k (x2 % (g : Int)).toNat x3) (mk _ fun a ha j hj => (chg_bd okZ hk lt2 a ha j hj).mono (by decide))) (by rfl)) (es_next' ?_)
    have e1 : ∀ i, i < p → 0 < (fun _ : Nat => (1 : Rat)) i ∧ Bd 40 ((fun _ : Nat => (1 : Rat)) i) := fun i _ => by
      show 0 < (1 : Rat) ∧ Bd 40 (1 : Rat)
      exact ⟨by decide, by decide, by decide⟩
    refine s_ifF (dt_is (b := false) (by
      apply dt_not
      apply dt_B
      apply de_call0
      · apply da_cons
        · refine DL.de (dl_is (dl_rep (ds := [fq 1]) (n := (p : Int)) (dl_lst (da_cons (de_is (e := fq 1) (by walk_at "de") rfl) da_nil) (sz_of100 (by simp))) (de_var rfl) (by omega) ?_ (by omega)) rep_one)
          show 1 * (Int.toNat (p : Int)) ≤ sizeLine
          exact sz_of100 (by omega)
        · walk_at "da"
      · exact R_asked.mk p g (fun _ => 1) J Z ⟨p1, p6, g1, g6, e1, okJ, fun i hi j hj => (okZ i hi j hj).mono (by decide)⟩) (by rfl)) (es_next' ?_)
    have wW := mS.w
    apply s_set (d := fq (rs p D))
    · apply de_call0
      · walk_at "da"
      · exact tot_vec (m := 40) (fun k hk => (okD k hk).2) (by have := Nat.mul_le_mul_left (40 + 1) p6; omega) (by decide)
    walk_at "norm"
    obtain ⟨E, hE⟩ : ∃ E : Nat → Nat → Rat, E = fun i _ => D i / rs p D := ⟨_, rfl⟩
    have okE : ∀ i, i < p → ∀ j, j < g → Bd 289 (E i j) := fun a ha j hj => by
      rw [hE]
      have w6 : Bd 247 (rs p D) := (rs_bd (m := 40) fun j hj => (okD j hj).2).mono (by have := Nat.mul_le_mul_left (40 + 1) p6; omega)
      exact (div_bd (okD a ha).2 w6 wW.1).mono (by decide)
    apply s_set (d := mat p g E)
    · refine DL.de (dl_lcA (List.range p) (fun i => fq (D i)) (fun i => vec g (E i)) (di_list (ds := (List.range p).map fun i => fq (D i)) (de_var rfl)) (by rw [List.length_range]; exact lt_line (by omega)) ?_)
      intro a b hb
      obtain ⟨rfl, hbp⟩ := range_mem hb
      refine ⟨_, dgw_name (by decide), ?_⟩
      dsimp only [List.map, wipeE, List.set_cons_zero, List.set_cons_succ]
      refine DL.de (dl_lcA (List.range g) (fun i => .int (i : Nat)) (fun j => fq (E b j)) (di_rangeN (p := g) (by omega) (by walk_at "da")) (by rw [List.length_range]; exact lt_line (by omega)) ?_)
      intro a j hj
      refine ⟨_, dgw_name (by decide), ?_⟩
      dsimp only [List.map, wipeE, List.set_cons_zero, List.set_cons_succ]
      rw [hE]
      apply de_call0
      · walk_at "da"
      · exact R_over.mk _ _ ((okD b hbp).2.mono (by decide)) (wW.2.mono (by decide)) wW.1
    walk_at "norm"
    have mE : Mk p g D J E := mk E fun i hi j hj => (okE i hi j hj).mono (by decide)
    have n1 : eall (cE g D J E) p p = [] := eall_none p fun i hi k hk => by rw [hE]; exact even_E (p := p) (fun i hi => (okD i hi).1) hi hk
    have n2 : srow (cS p g D J E) p = [] := srow_none fun k hk => by rw [hE]; exact even_S
    clear hE
    refine s_ifF (dt_is (b := decide ((0 : Int) + 0 > 0)) (by
      apply dt_B
      apply de_op
      · apply de_op
        · refine de_lenL (n := 0) (ds := []) (de_is (de_call0 (by walk_at "da") (R_envied.mk p g D J E mE)) (by rw [n1]; rfl)) rfl
        · refine de_lenL (n := 0) (ds := []) (de_is (de_call0 (by walk_at "da") (R_short.mk p g D J E mE)) (by rw [n2]; rfl)) rfl
        · walk_at "rd"
      · walk_at "de"
      · walk_at "rd") (by rfl)) (es_next' ?_)
    refine s_ifF (dt_is (b := false) (by
      apply dt_or
      · apply dt_not
        apply dt_B
        apply de_call0
        · walk_at "da"
        · exact R_asked.mk p g D J E mE
      · intro _
        apply dt_not
        apply dt_B
        apply de_call0
        · apply da_cons
          · exact de_var rfl
          · apply da_cons
            · exact de_var rfl
            · apply da_cons
              · apply de_call0
                · apply da_cons
                  · exact DL.de (dl_is (dl_sl (de_var rfl) (do_some de_int) (do_some de_int)) c2)
                  · walk_at "da"
                · exact R_changed.mk x4 x5 i p g E hi p6 g1 g6 (okE i hi _ lt4)
              · exact da_nil
        · exact R_asked.mk p g D J (chg E i (x4 % (g : Int)).toNat x5) (mk _ fun a ha j hj => (chg_bd okE hi lt4 a ha j hj).mono (by decide))) (by rfl)) (es_next' ?_)
    apply es_ret
    · apply de_call0
      · walk_at "da"
      · exact R_asked.mk p g D J S mS
    · rfl
end
def fa0 : List He.Fa := [.glo "fraction",
  .glo "multiply",
  .glo "divide",
  .glo "less",
  .glo "total",
  .glo "dot",
  .glo "joys_reached",
  .glo "envies",
  .glo "even_short",
  .glo "_law_cell",
  .glo "_law_digits",
  .glo "_law_gcd",
  .glo "_law_lowest",
  .glo "_law_is_integer",
  .glo "_law_times",
  .glo "_law_over",
  .glo "_law_plus",
  .glo "_law_less",
  .glo "_law_sum",
  .glo "_law_numbers",
  .glo "_law_pairs",
  .glo "_law_number",
  .glo "_law_joys",
  .glo "_law_weighted",
  .glo "_law_joy",
  .glo "_law_envied",
  .glo "_law_short",
  .glo "_law_asked",
  .glo "_law_changed",
  .glo "law"]
def fa1 : List He.Fa := [.glo "MarketError",
  .glo "BadNumber",
  .free "abs",
  .free "bool",
  .free "enumerate",
  .free "int",
  .free "isinstance",
  .free "len",
  .free "list",
  .free "max",
  .free "range",
  .free "sum",
  .free "tuple",
  .free "zip"]
def fa : List He.Fa := fa0 ++ fa1
def fn0 : List He.DefD := [⟨("fraction", none), "fraction", "fraction", defArgs s_fraction, defBody s_fraction, defScope s_fraction, [.int 1], []⟩,
  ⟨("multiply", none), "multiply", "multiply", defArgs s_multiply, defBody s_multiply, defScope s_multiply, [], []⟩,
  ⟨("divide", none), "divide", "divide", defArgs s_divide, defBody s_divide, defScope s_divide, [], []⟩,
  ⟨("less", none), "less", "less", defArgs s_less, defBody s_less, defScope s_less, [], []⟩,
  ⟨("total", none), "total", "total", defArgs s_total, defBody s_total, defScope s_total, [], []⟩,
  ⟨("dot", none), "dot", "dot", defArgs s_dot, defBody s_dot, defScope s_dot, [], []⟩,
  ⟨("joys_reached", none), "joys_reached", "joys_reached", defArgs s_joys_reached, defBody s_joys_reached, defScope s_joys_reached, [], []⟩,
  ⟨("envies", none), "envies", "envies", defArgs s_envies, defBody s_envies, defScope s_envies, [], []⟩,
  ⟨("even_short", none), "even_short", "even_short", defArgs s_even_short, defBody s_even_short, defScope s_even_short, [], []⟩,
  ⟨("_law_cell", none), "_law_cell", "_law_cell", defArgs s__law_cell, defBody s__law_cell, defScope s__law_cell, [], []⟩,
  ⟨("_law_digits", none), "_law_digits", "_law_digits", defArgs s__law_digits, defBody s__law_digits, defScope s__law_digits, [], []⟩,
  ⟨("_law_gcd", none), "_law_gcd", "_law_gcd", defArgs s__law_gcd, defBody s__law_gcd, defScope s__law_gcd, [], []⟩,
  ⟨("_law_lowest", none), "_law_lowest", "_law_lowest", defArgs s__law_lowest, defBody s__law_lowest, defScope s__law_lowest, [], []⟩,
  ⟨("_law_is_integer", none), "_law_is_integer", "_law_is_integer", defArgs s__law_is_integer, defBody s__law_is_integer, defScope s__law_is_integer, [], []⟩,
  ⟨("_law_times", none), "_law_times", "_law_times", defArgs s__law_times, defBody s__law_times, defScope s__law_times, [], []⟩,
  ⟨("_law_over", none), "_law_over", "_law_over", defArgs s__law_over, defBody s__law_over, defScope s__law_over, [], []⟩,
  ⟨("_law_plus", none), "_law_plus", "_law_plus", defArgs s__law_plus, defBody s__law_plus, defScope s__law_plus, [], []⟩,
  ⟨("_law_less", none), "_law_less", "_law_less", defArgs s__law_less, defBody s__law_less, defScope s__law_less, [], []⟩,
  ⟨("_law_sum", none), "_law_sum", "_law_sum", defArgs s__law_sum, defBody s__law_sum, defScope s__law_sum, [], []⟩,
  ⟨("_law_numbers", none), "_law_numbers", "_law_numbers", defArgs s__law_numbers, defBody s__law_numbers, defScope s__law_numbers, [], []⟩,
  ⟨("_law_pairs", none), "_law_pairs", "_law_pairs", defArgs s__law_pairs, defBody s__law_pairs, defScope s__law_pairs, [], []⟩,
  ⟨("_law_number", none), "_law_number", "_law_number", defArgs s__law_number, defBody s__law_number, defScope s__law_number, [], []⟩,
  ⟨("_law_joys", none), "_law_joys", "_law_joys", defArgs s__law_joys, defBody s__law_joys, defScope s__law_joys, [], []⟩,
  ⟨("_law_weighted", none), "_law_weighted", "_law_weighted", defArgs s__law_weighted, defBody s__law_weighted, defScope s__law_weighted, [], []⟩,
  ⟨("_law_joy", none), "_law_joy", "_law_joy", defArgs s__law_joy, defBody s__law_joy, defScope s__law_joy, [], []⟩,
  ⟨("_law_envied", none), "_law_envied", "_law_envied", defArgs s__law_envied, defBody s__law_envied, defScope s__law_envied, [], []⟩,
  ⟨("_law_short", none), "_law_short", "_law_short", defArgs s__law_short, defBody s__law_short, defScope s__law_short, [], []⟩,
  ⟨("_law_asked", none), "_law_asked", "_law_asked", defArgs s__law_asked, defBody s__law_asked, defScope s__law_asked, [], []⟩,
  ⟨("_law_changed", none), "_law_changed", "_law_changed", defArgs s__law_changed, defBody s__law_changed, defScope s__law_changed, [], []⟩,
  ⟨("law", none), "law", "law", defArgs s_law, defBody s_law, defScope s_law, [], []⟩]
def fn : List He.DefD := fn0
def exF (K : PySem.W.Frag) : Bool := (decide (PySem.W.nsIn K mainGlobals "gcd" = some (some (.builtin "math.gcd"))) && true)
def lo0 : List PySem.Str := ["MarketError",
  "BadNumber",
  "fraction",
  "multiply",
  "divide",
  "less",
  "total",
  "dot",
  "joys_reached",
  "envies",
  "even_short",
  "_law_cell",
  "_law_digits",
  "_law_gcd",
  "_law_lowest",
  "_law_is_integer",
  "_law_same",
  "_law_times",
  "_law_over",
  "_law_plus",
  "_law_minus",
  "_law_less",
  "_law_sum",
  "_law_numbers",
  "_law_pairs",
  "_law_number",
  "_law_joys",
  "_law_weighted",
  "_law_joy",
  "_law_envied"]
def lo1 : List PySem.Str := ["_law_short",
  "_law_asked",
  "_law_changed"]
def lo : List PySem.Str := lo0 ++ lo1
abbrev RO : PySem.W.OpenRow := PySem.W.OpenLaw.row PySem.Challenge.rw_marketscleared_k57_envies_and_short_ones
abbrev hk : PySem.W.Hook := He.hookX 5 fa fn [] [] exF
def ob (s : PySem.W.SharedT) : He.AlX := He.obsX 5 fa fn [] [] exF (HandSHeadRun.getT s)
theorem ob_eq (s : PySem.W.SharedT) : ob s = hk.obs s.abs := He.obsX_eq (HandSHeadRun.getT_eq s)
theorem run (w : World) : HandSHeadRun.RunEqI RO (PySem.W.view RO.prog [0, 39]) hk ob 3000 lo w := by
  unfold HandSHeadRun.RunEqI
  kernel_rfl
theorem txt {w : World} {K : PySem.W.Frag} {h : Heap} {mg : Str → Option Value} (X : K.In h) (G : h.Ns mainGlobals mg) (c : He.SaysX fa fn [] [] exF w h K) : Txt K mg := by
  have e : exF K = true := c.more
  obtain ⟨e0, e⟩ := He.ba e
  exact {
    g_fraction := He.glo_ok X G (c.t.d.fact 0 rfl),
    F_fraction := funAt (c.t.d.def_ 0 rfl),
    g_multiply := He.glo_ok X G (c.t.d.fact 1 rfl),
    F_multiply := funAt (c.t.d.def_ 1 rfl),
    g_divide := He.glo_ok X G (c.t.d.fact 2 rfl),
    F_divide := funAt (c.t.d.def_ 2 rfl),
    g_less := He.glo_ok X G (c.t.d.fact 3 rfl),
    F_less := funAt (c.t.d.def_ 3 rfl),
    g_total := He.glo_ok X G (c.t.d.fact 4 rfl),
    F_total := funAt (c.t.d.def_ 4 rfl),
    g_dot := He.glo_ok X G (c.t.d.fact 5 rfl),
    F_dot := funAt (c.t.d.def_ 5 rfl),
    g_joys_reached := He.glo_ok X G (c.t.d.fact 6 rfl),
    F_joys_reached := funAt (c.t.d.def_ 6 rfl),
    g_envies := He.glo_ok X G (c.t.d.fact 7 rfl),
    F_envies := funAt (c.t.d.def_ 7 rfl),
    g_even_short := He.glo_ok X G (c.t.d.fact 8 rfl),
    F_even_short := funAt (c.t.d.def_ 8 rfl),
    g__law_cell := He.glo_ok X G (c.t.d.fact 9 rfl),
    F__law_cell := funAt (c.t.d.def_ 9 rfl),
    g__law_digits := He.glo_ok X G (c.t.d.fact 10 rfl),
    F__law_digits := funAt (c.t.d.def_ 10 rfl),
    g__law_gcd := He.glo_ok X G (c.t.d.fact 11 rfl),
    F__law_gcd := funAt (c.t.d.def_ 11 rfl),
    g__law_lowest := He.glo_ok X G (c.t.d.fact 12 rfl),
    F__law_lowest := funAt (c.t.d.def_ 12 rfl),
    g__law_is_integer := He.glo_ok X G (c.t.d.fact 13 rfl),
    F__law_is_integer := funAt (c.t.d.def_ 13 rfl),
    g__law_times := He.glo_ok X G (c.t.d.fact 14 rfl),
    F__law_times := funAt (c.t.d.def_ 14 rfl),
    g__law_over := He.glo_ok X G (c.t.d.fact 15 rfl),
    F__law_over := funAt (c.t.d.def_ 15 rfl),
    g__law_plus := He.glo_ok X G (c.t.d.fact 16 rfl),
    F__law_plus := funAt (c.t.d.def_ 16 rfl),
    g__law_less := He.glo_ok X G (c.t.d.fact 17 rfl),
    F__law_less := funAt (c.t.d.def_ 17 rfl),
    g__law_sum := He.glo_ok X G (c.t.d.fact 18 rfl),
    F__law_sum := funAt (c.t.d.def_ 18 rfl),
    g__law_numbers := He.glo_ok X G (c.t.d.fact 19 rfl),
    F__law_numbers := funAt (c.t.d.def_ 19 rfl),
    g__law_pairs := He.glo_ok X G (c.t.d.fact 20 rfl),
    F__law_pairs := funAt (c.t.d.def_ 20 rfl),
    g__law_number := He.glo_ok X G (c.t.d.fact 21 rfl),
    F__law_number := funAt (c.t.d.def_ 21 rfl),
    g__law_joys := He.glo_ok X G (c.t.d.fact 22 rfl),
    F__law_joys := funAt (c.t.d.def_ 22 rfl),
    g__law_weighted := He.glo_ok X G (c.t.d.fact 23 rfl),
    F__law_weighted := funAt (c.t.d.def_ 23 rfl),
    g__law_joy := He.glo_ok X G (c.t.d.fact 24 rfl),
    F__law_joy := funAt (c.t.d.def_ 24 rfl),
    g__law_envied := He.glo_ok X G (c.t.d.fact 25 rfl),
    F__law_envied := funAt (c.t.d.def_ 25 rfl),
    g__law_short := He.glo_ok X G (c.t.d.fact 26 rfl),
    F__law_short := funAt (c.t.d.def_ 26 rfl),
    g__law_asked := He.glo_ok X G (c.t.d.fact 27 rfl),
    F__law_asked := funAt (c.t.d.def_ 27 rfl),
    g__law_changed := He.glo_ok X G (c.t.d.fact 28 rfl),
    F__law_changed := funAt (c.t.d.def_ 28 rfl),
    g_law := He.glo_ok X G (c.t.d.fact 29 rfl),
    F_law := funAt (c.t.d.def_ 29 rfl),
    g_MarketError := He.glo_ok X G (c.t.d.fact 30 rfl),
    g_BadNumber := He.glo_ok X G (c.t.d.fact 31 rfl),
    z_abs := He.free_ok X G (c.t.d.fact 32 rfl),
    z_bool := He.free_ok X G (c.t.d.fact 33 rfl),
    z_enumerate := He.free_ok X G (c.t.d.fact 34 rfl),
    z_int := He.free_ok X G (c.t.d.fact 35 rfl),
    z_isinstance := He.free_ok X G (c.t.d.fact 36 rfl),
    z_len := He.free_ok X G (c.t.d.fact 37 rfl),
    z_list := He.free_ok X G (c.t.d.fact 38 rfl),
    z_max := He.free_ok X G (c.t.d.fact 39 rfl),
    z_range := He.free_ok X G (c.t.d.fact 40 rfl),
    z_sum := He.free_ok X G (c.t.d.fact 41 rfl),
    z_tuple := He.free_ok X G (c.t.d.fact 42 rfl),
    z_zip := He.free_ok X G (c.t.d.fact 43 rfl),
    m_gcd := PySem.W.mg_of X G (of_decide_eq_true e0) }
theorem facts {P : Program} {w : World} {K : PySem.W.Frag} {h : Heap} {mg : Str → Option Value} {f : Addr} (X : K.In h) (G : h.Ns mainGlobals mg) (hfa : mg ("law" : Str) = some (.ref f)) (c : He.SaysX fa fn [] [] exF w h K) :
    ∃ fd : FuncData, (∀ (s : Shared) (v : Value), BindsTo s fd ⟨[v], []⟩ [("script", v)]) ∧ ∀ base : Heap, K.In base → base.Ns mainGlobals mg → FnOk P w K mg base CX0 8 f fd ["script"] (spD K R_law) := by
  have T : Txt K mg := txt X G c
  have e := hfa.symm.trans T.g_law
  cases e
  have b := FunD.bindsA (ps := ["script"]) T.F_law fun _ _ _ _ _ _ us hl => match us, hl with | [_], _ => rfl
  exact ⟨_, fun s v => b s [v] rfl, fun base _ _ => ok_law T⟩
end DL
open PySem PySem.W PySem.Calls PyProof.Rows
theorem PySem.Challenge.cw_marketscleared_k57_envies_and_short_ones_holds : PySem.Challenge.rw_marketscleared_k57_envies_and_short_ones.Holds := by
  w_on; o_law
  refine HandSHeadRun.head_imp (r := DL.RO) (q := (PySem.W.view DL.RO.prog [0, 39])) (H := DL.hk) (ob := DL.ob) (M := 3000) (loose := DL.lo) (d := HandSHeadRun.topDef DL.RO.prog 39) (kwd := []) DL.ob_eq
    DL.run (by kernel_rfl) (by kernel_rfl) (by kernel_rfl) (by rfl) (by first | assumption | decide +kernel) (by decide +kernel) ⟨rfl, rfl, rfl, rfl, rfl, by decide +kernel⟩ ?hw ?hc
  case hw => w_witness2
  case hc =>
    refine L2.walk_ofE (l := PySem.Challenge.rw_marketscleared_k57_envies_and_short_ones) (n := 63) (k := 8) (x := "script") (CX := L2.CX0) rfl (by decide) (by kernel_rfl) ⟨rfl, by decide, by decide⟩ ?F (fun _ _ _ _ z => z)
    intro w mg fa h Y G hmg0
    obtain ⟨K, KX, c⟩ := Y
    have hmg : mg ("law" : PySem.Str) = some (.ref fa) := by
      have e : (HandSHeadRun.topDef DL.RO.prog 39).name = ("law" : PySem.Str) := by kernel_rfl
      rw [← e]
      exact hmg0
    obtain ⟨fd, hb, hF⟩ := DL.facts (P := (PySem.Challenge.rw_marketscleared_k57_envies_and_short_ones).prog) (w := w) KX G hmg c
    exact ⟨K, fd, DL.spD K DL.R_law, KX, hb, fun H a ns hl _ hS => DL.law_sp (fun ns hl => DL.R_law.mk ns hl) H a ns hl hS, hF⟩
