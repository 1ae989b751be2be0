import PyProof.Rows.All
import Wide.All
import OpenK.AllK
import Wide.FinOn
import HandS.ForExc
import HandS.ForMost
import HandS.Wide
import HandS.SortInts
import HandS.TryOnly
import HandS.ExcIs
import HandS.IsInst
import HandS.Iter
import HandS.TupLen
import KE.KDictWalk
import HandS.Style
import PySem.Challenge.RW_paironce_k82_whole_classes
set_option Elab.async false
set_option linter.all false
set_option maxRecDepth 100000
set_option maxHeartbeats 1000000
/-! The data layer: what the defs do, said of plain data; the heap stays behind. -/
namespace DL
open PySem PySem.Spec L2
/-! ### data -/
inductive D where
  | non | bl (b : Bool) | int (i : Int) | str (x : Str) | lst (l : List D) | tup (l : List D)
  | dK (ks : List Key) (vs : List D) | dT (ks : List (List Key)) (vs : List D)
  /-- the script as it was handed in -/
  | src (l : List Int)
  /-- locked dicts -/
  | fK (ks : List Key) (vs : List D) | fT (ks : List (List Key)) (vs : List D)
abbrev D.ints (l : List Int) : D := .lst (l.map D.int)
abbrev D.tints (l : List Int) : D := .tup (l.map D.int)
mutual
inductive Rp (K : PySem.W.Frag) (H : Hp) : V → D → Prop
  | non : Rp K H .non .non
  | bl (b : Bool) : Rp K H (.bl b) (.bl b)
  | int (i : Int) : Rp K H (.int i) (.int i)
  | str (x : Str) : Rp K H (.str x) (.str x)
  | lst {a : Addr} {xs : List V} {ds : List D} : H a = some (.lst xs) → Rps K H xs ds → Rp K H (.ref a) (.lst ds)
  | tup {a : Addr} {xs : List V} {ds : List D} : H a = some (.tup xs) → Rps K H xs ds → Rp K H (.ref a) (.tup ds)
  | dK {a : Addr} {kvs : List (Key × V)} {ds : List D} : Rd H a (.dK kvs) → Rps K H (kvs.map (·.2)) ds → Rp K H (.ref a) (.dK (kvs.map (·.1)) ds)
  | dT {a : Addr} {kvs : List (List Key × V)} {ds : List D} : Rd H a (.dT kvs) → Rps K H (kvs.map (·.2)) ds → Rp K H (.ref a) (.dT (kvs.map (·.1)) ds)
  | src {a : Addr} {ns : List Int} : SqL K H a (ns.map V.int) → Rp K H (.ref a) (.src ns)
  | fK {a : Addr} {o : Obj} {kvs : List (Key × V)} {ds : List D} : H a = some (.frz o (.dK kvs)) → Rps K H (kvs.map (·.2)) ds → Rp K H (.ref a) (.fK (kvs.map (·.1)) ds)
  | fT {a : Addr} {o : Obj} {kvs : List (List Key × V)} {ds : List D} : H a = some (.frz o (.dT kvs)) → Rps K H (kvs.map (·.2)) ds → Rp K H (.ref a) (.fT (kvs.map (·.1)) ds)
inductive Rps (K : PySem.W.Frag) (H : Hp) : List V → List D → Prop
  | nil : Rps K H [] []
  | cons {v : V} {vs : List V} {d : D} {ds : List D} : Rp K H v d → Rps K H vs ds → Rps K H (v :: vs) (d :: ds)
end
section
variable {K : PySem.W.Frag} {H H' : Hp}
theorem Rd.mono {a : Addr} {u : HO} (s : Same H H') (h : Rd H a u) : Rd H' a u := h.imp (fun e => s _ _ e) fun ⟨o, e⟩ => ⟨o, s _ _ e⟩
mutual
theorem Rp.mono (s : Same H H') : ∀ {d : D} {v : V}, Rp K H v d → Rp K H' v d
  | .non, _, .non => .non
  | .bl _, _, .bl b => .bl b
  | .int _, _, .int i => .int i
  | .str _, _, .str i => .str i
  | .lst _, _, .lst h r => .lst (s _ _ h) (Rps.mono s r)
  | .tup _, _, .tup h r => .tup (s _ _ h) (Rps.mono s r)
  | .dK _ _, _, .dK h r => .dK (Rd.mono s h) (Rps.mono s r)
  | .dT _ _, _, .dT h r => .dT (Rd.mono s h) (Rps.mono s r)
  | .src _, _, .src h => .src (s.seq h)
  | .fK _ _, _, .fK h r => .fK (s _ _ h) (Rps.mono s r)
  | .fT _ _, _, .fT h r => .fT (s _ _ h) (Rps.mono s r)
theorem Rps.mono (s : Same H H') : ∀ {ds : List D} {vs : List V}, Rps K H vs ds → Rps K H' vs ds
  | [], _, .nil => .nil
  | _ :: _, _, .cons r t => .cons (Rp.mono s r) (Rps.mono s t)
end
theorem Rps.length : ∀ {ds : List D} {vs : List V}, Rps K H vs ds → vs.length = ds.length
  | [], _, .nil => rfl
  | _ :: _, _, .cons _ t => congrArg (· + 1) (Rps.length t)
theorem Rps.get : ∀ {ds : List D} {vs : List V} {i : Nat} {d : D}, Rps K H vs ds → ds[i]? = some d → ∃ v, vs[i]? = some v ∧ Rp K H v d
  | [], _, _, _, .nil, e => by simp at e
  | _ :: _, _, 0, _, .cons r _, e => by simp at e; subst e; exact ⟨_, rfl, r⟩
  | _ :: _, _, i + 1, _, .cons _ t, e => by
    obtain ⟨v, h1, h2⟩ := Rps.get (i := i) t (by simpa using e)
    exact ⟨v, by simpa using h1, h2⟩
theorem Rps.get' : ∀ {ds : List D} {vs : List V} {i : Nat} {v : V}, Rps K H vs ds → vs[i]? = some v → ∃ d, ds[i]? = some d ∧ Rp K H v d
  | [], _, _, _, .nil, e => by simp at e
  | _ :: _, _, 0, _, .cons r _, e => by simp at e; subst e; exact ⟨_, rfl, r⟩
  | _ :: _, _, i + 1, _, .cons _ t, e => by
    obtain ⟨v, h1, h2⟩ := Rps.get' (i := i) t (by simpa using e)
    exact ⟨v, by simpa using h1, h2⟩
theorem Rps.append : ∀ {ds es : List D} {vs us : List V}, Rps K H vs ds → Rps K H us es → Rps K H (vs ++ us) (ds ++ es)
  | [], _, _, _, .nil, s => s
  | _ :: _, _, _, _, .cons r t, s => .cons r (Rps.append t s)
theorem Rps.one {v : V} {d : D} (r : Rp K H v d) : Rps K H [v] [d] := .cons r .nil
theorem Rps.take : ∀ {ds : List D} {vs : List V} (n : Nat), Rps K H vs ds → Rps K H (vs.take n) (ds.take n)
  | _, _, 0, _ => .nil
  | [], _, n + 1, .nil => .nil
  | _ :: _, _, n + 1, .cons r t => .cons r (Rps.take n t)
theorem Rps.drop : ∀ {ds : List D} {vs : List V} (n : Nat), Rps K H vs ds → Rps K H (vs.drop n) (ds.drop n)
  | _, _, 0, r => r
  | [], _, n + 1, .nil => .nil
  | _ :: _, _, n + 1, .cons r t => Rps.drop n t
theorem Rps.set {v : V} {d : D} (r : Rp K H v d) : ∀ {ds : List D} {vs : List V} (i : Nat), Rps K H vs ds → Rps K H (vs.set i v) (ds.set i d)
  | [], _, _, .nil => .nil
  | _ :: _, _, 0, .cons _ t => .cons r t
  | _ :: _, _, i + 1, .cons q t => .cons q (Rps.set r i t)
theorem Rps.reverse : ∀ {ds : List D} {vs : List V}, Rps K H vs ds → Rps K H vs.reverse ds.reverse
  | [], _, .nil => .nil
  | _ :: _, _, .cons r t => by rw [List.reverse_cons, List.reverse_cons]; exact Rps.append (Rps.reverse t) (.one r)
theorem Rps.ints : ∀ {ns : List Int} {vs : List V}, Rps K H vs (ns.map D.int) → vs = ns.map V.int
  | [], _, .nil => rfl
  | _ :: _, _, .cons (.int i) t => by rw [Rps.ints t]; rfl
theorem Rps.of_ints : ∀ (ns : List Int), Rps K H (ns.map V.int) (ns.map D.int)
  | [] => .nil
  | n :: r => .cons (.int n) (Rps.of_ints r)
theorem Rps.bls : ∀ {ns : List Bool} {vs : List V}, Rps K H vs (ns.map D.bl) → vs = ns.map V.bl
  | [], _, .nil => rfl
  | _ :: _, _, .cons (.bl i) t => by rw [Rps.bls t]; rfl
theorem Rps.strs : ∀ {ns : List Str} {vs : List V}, Rps K H vs (ns.map D.str) → vs = ns.map V.str
  | [], _, .nil => rfl
  | _ :: _, _, .cons (.str i) t => by rw [Rps.strs t]; rfl
theorem Rps.of_strs : ∀ (ns : List Str), Rps K H (ns.map V.str) (ns.map D.str)
  | [] => .nil
  | n :: r => .cons (.str n) (Rps.of_strs r)
end
/-! ### heaps: H0 what never changes any more, H all that is tracked -/
structure Ext (H0 H H0' H' : Hp) : Prop where
  s0 : Same H0 H0'
  s : Same H H'
  sub : Same H0' H'
  fr : ∀ a o, H0 a = none → H0' a = some o → H a = none ∨ ∃ xs, H a = some (.tup xs)
theorem Ext.refl {H0 H : Hp} (h : Same H0 H) : Ext H0 H H0 H := ⟨.refl _, .refl _, h, fun a o e e' => by rw [e] at e'; cases e'⟩
theorem Ext.trans {H0 H H1 H' H2 H'' : Hp} (a : Ext H0 H H1 H') (b : Ext H1 H' H2 H'') : Ext H0 H H2 H'' := by
  refine ⟨a.s0.trans b.s0, a.s.trans b.s, b.sub, fun c o e e' => ?_⟩
  cases q : H1 c with
  | some u => exact a.fr c u e q
  | none =>
    rcases b.fr c o q e' with z | ⟨xs, z⟩
    · exact .inl (a.s.free z)
    · cases w : H c with
      | none => exact .inl rfl
      | some u =>
        have := a.s _ _ w
        rw [z] at this
        cases this
        exact .inr ⟨_, rfl⟩
/-- a new thing, of the still part -/
theorem Ext.new {H0 H : Hp} {p : Addr} {o : HO} (h : Same H0 H) (np : H p = none) : Ext H0 H (upd H0 p o) (upd H p o) := by
  have n0 : H0 p = none := h.free np
  refine ⟨fun b u e => by rw [upd_ne (ne_of_none e n0)]; exact e, fun b u e => by rw [upd_ne (ne_of_none e np)]; exact e, fun b u e => ?_, fun a u e e' => ?_⟩
  · by_cases hb : b = p
    · subst hb; rw [upd_same] at e ⊢; exact e
    · rw [upd_ne hb] at e ⊢; exact h _ _ e
  · by_cases hb : a = p
    · subst hb; exact .inl np
    · rw [upd_ne hb] at e'; rw [e] at e'; cases e'
/-- a new thing, of one's own -/
theorem Ext.own {H0 H : Hp} {p : Addr} {o : HO} (h : Same H0 H) (np : H p = none) : Ext H0 H H0 (upd H p o) :=
  ⟨.refl _, fun b u e => by rw [upd_ne (ne_of_none e np)]; exact e, fun b u e => by rw [upd_ne (ne_of_none (h _ _ e) np)]; exact h _ _ e, fun a u e e' => by rw [e] at e'; cases e'⟩
/-! ### slots -/
inductive Sl where
  | no | ref (a : Addr) | dat (d : D) | own (ds : List D) | oK (ks : List Key) (vs : List D) | oT (ks : List (List Key)) (vs : List D)
def Sl.isOwn : Sl → Bool
  | .own _ | .oK _ _ | .oT _ _ => true
  | _ => false
/-- a slot with data -/
def Sl.ok : Sl → Bool
  | .no | .ref _ => false
  | _ => true
def Sl.still : Sl → D
  | .no => .non | .ref _ => .non | .dat d => d | .own ds => .lst ds | .oK ks vs => .dK ks vs | .oT ks vs => .dT ks vs
abbrev Rho := List Sl
/-- what stands at an address of one's own -/
def OwnAt (K : PySem.W.Frag) (H0 H : Hp) (a : Addr) : Sl → Prop
  | .own ds => ∃ xs, H a = some (.lst xs) ∧ Rps K H0 xs ds
  | .oK ks vs => ∃ kvs, H a = some (.dK kvs) ∧ kvs.map (·.1) = ks ∧ Rps K H0 (kvs.map (·.2)) vs
  | .oT ks vs => ∃ kvs, H a = some (.dT kvs) ∧ kvs.map (·.1) = ks ∧ Rps K H0 (kvs.map (·.2)) vs
  | _ => False
def RpS (K : PySem.W.Frag) (H0 H : Hp) (v : V) (s : Sl) : Prop :=
  match s with
  | .no => True
  | .ref a => v = .ref a
  | .dat d => Rp K H0 v d
  | s => ∃ a, v = .ref a ∧ H0 a = none ∧ OwnAt K H0 H a s
theorem OwnAt.ext {K : PySem.W.Frag} {H0 H H0' H' : Hp} {a : Addr} {s : Sl} (e : Ext H0 H H0' H') (h : OwnAt K H0 H a s) : OwnAt K H0' H' a s := by
  cases s with
  | no => exact h
  | ref c => exact h
  | dat d => exact h
  | own ds => obtain ⟨xs, h1, h2⟩ := h; exact ⟨xs, e.s _ _ h1, h2.mono e.s0⟩
  | oK ks vs => obtain ⟨xs, h1, h2, h3⟩ := h; exact ⟨xs, e.s _ _ h1, h2, h3.mono e.s0⟩
  | oT ks vs => obtain ⟨xs, h1, h2, h3⟩ := h; exact ⟨xs, e.s _ _ h1, h2, h3.mono e.s0⟩
theorem OwnAt.there {K : PySem.W.Frag} {H0 H : Hp} {a : Addr} {s : Sl} (h : OwnAt K H0 H a s) : ∃ o, H a = some o ∧ ∀ xs, o ≠ .tup xs := by
  cases s with
  | no => exact h.elim
  | ref c => exact h.elim
  | dat d => exact h.elim
  | own ds => obtain ⟨xs, h1, h2⟩ := h; exact ⟨_, h1, fun _ z => by cases z⟩
  | oK ks vs => obtain ⟨xs, h1, h2, h3⟩ := h; exact ⟨_, h1, fun _ z => by cases z⟩
  | oT ks vs => obtain ⟨xs, h1, h2, h3⟩ := h; exact ⟨_, h1, fun _ z => by cases z⟩
theorem Ext.none {H0 H H0' H' : Hp} {a : Addr} {o : HO} (e : Ext H0 H H0' H') (h0 : H0 a = none) (h : H a = some o) (nt : ∀ xs, o ≠ .tup xs := by intro xs z; cases z) : H0' a = none := by
  cases q : H0' a with
  | none => rfl
  | some u =>
    rcases e.fr a u h0 q with z | ⟨xs, z⟩
    · rw [h] at z; cases z
    · rw [h] at z; cases z; exact absurd rfl (nt xs)
theorem RpS.ext {K : PySem.W.Frag} {H0 H H0' H' : Hp} {v : V} {s : Sl} (e : Ext H0 H H0' H') (h : RpS K H0 H v s) : RpS K H0' H' v s := by
  cases s with
  | no => trivial
  | ref c => exact h
  | dat d => exact Rp.mono e.s0 h
  | own ds =>
    obtain ⟨a, h1, h2, h3⟩ := h
    obtain ⟨o, ho, nt⟩ := h3.there
    exact ⟨a, h1, e.none h2 ho nt, h3.ext e⟩
  | oK ks vs =>
    obtain ⟨a, h1, h2, h3⟩ := h
    obtain ⟨o, ho, nt⟩ := h3.there
    exact ⟨a, h1, e.none h2 ho nt, h3.ext e⟩
  | oT ks vs =>
    obtain ⟨a, h1, h2, h3⟩ := h
    obtain ⟨o, ho, nt⟩ := h3.there
    exact ⟨a, h1, e.none h2 ho nt, h3.ext e⟩
/-- the address that an own value has is nobody's from before -/
def NewAt (He : Hp) (v : V) (s : Sl) : Prop := s.isOwn = true → ∀ a, v = .ref a → He a = none
structure StOk (K : PySem.W.Frag) (He0 He : Hp) (σ : St) (H0 H : Hp) (ρ : Rho) : Prop where
  e : Ext He0 He H0 H
  len : σ.length = ρ.length
  sl : ∀ (i : Nat) (s : Sl), ρ[i]? = some s → s ≠ .no → ∃ v, σ[i]? = some (some v) ∧ RpS K H0 H v s ∧ NewAt He v s
  ap : ∀ (i j : Nat) (s t : Sl) (a : Addr), i ≠ j → ρ[i]? = some s → ρ[j]? = some t → s.isOwn = true → t.isOwn = true → σ[i]? = some (some (.ref a)) → σ[j]? ≠ some (some (.ref a))
section
variable {K : PySem.W.Frag} {He0 He : Hp} {σ : St} {H0 H H0' H' : Hp} {ρ : Rho}
theorem StOk.sub (S : StOk K He0 He σ H0 H ρ) : Same H0 H := S.e.sub
theorem StOk.ext (S : StOk K He0 He σ H0 H ρ) (e : Ext H0 H H0' H') : StOk K He0 He σ H0' H' ρ :=
  ⟨S.e.trans e, S.len, fun i s h n => by obtain ⟨v, h1, h2, h3⟩ := S.sl i s h n; exact ⟨v, h1, h2.ext e, h3⟩, S.ap⟩
theorem StOk.dat (S : StOk K He0 He σ H0 H ρ) {i : Nat} {d : D} (h : ρ[i]? = some (.dat d)) : ∃ v, σ[i]? = some (some v) ∧ Rp K H0 v d := by
  obtain ⟨v, h1, h2, _⟩ := S.sl i _ h (by intro z; cases z)
  exact ⟨v, h1, h2⟩
/-- a slot is set to a value -/
theorem StOk.set (S : StOk K He0 He σ H0 H ρ) (i : Nat) {v : V} {s : Sl} (r : RpS K H0 H v s) (n : NewAt He v s)
    (ap : s.isOwn = true → ∀ a, v = .ref a → ∀ (j : Nat) (t : Sl), j ≠ i → ρ[j]? = some t → t.isOwn = true → σ[j]? ≠ some (some (.ref a))) : StOk K He0 He (σ.set i (some v)) H0 H (ρ.set i s) := by
  refine ⟨S.e, by rw [List.length_set, List.length_set]; exact S.len, fun j t h hn => ?_, fun j k t u a hjk hj hk ht hu e => ?_⟩
  · by_cases hj : i = j
    · subst hj
      have hl : i < ρ.length := by
        have := (List.getElem?_eq_some_iff.mp h).1
        rwa [List.length_set] at this
      rw [List.getElem?_set_self hl] at h
      cases h
      exact ⟨v, List.getElem?_set_self (by rw [S.len]; exact hl), r, n⟩
    · rw [List.getElem?_set_ne hj] at h ⊢
      exact S.sl j t h hn
  · have get : ∀ {j : Nat} {t : Sl}, i ≠ j → (ρ.set i s)[j]? = some t → ρ[j]? = some t := fun {j t} h q => by rwa [List.getElem?_set_ne h] at q
    have gets : ∀ {j : Nat}, i ≠ j → (σ.set i (some v))[j]? = σ[j]? := fun {j} h => List.getElem?_set_ne h
    have at_i : ∀ {t : Sl}, (ρ.set i s)[i]? = some t → t = s ∧ (σ.set i (some v))[i]? = some (some v) := fun {t} q => by
      have hl : i < ρ.length := by
        have := (List.getElem?_eq_some_iff.mp q).1
        rwa [List.length_set] at this
      rw [List.getElem?_set_self hl] at q
      cases q
      exact ⟨rfl, List.getElem?_set_self (by rw [S.len]; exact hl)⟩
    by_cases h1 : i = j
    · subst h1
      obtain ⟨rfl, q⟩ := at_i hj
      rw [q] at e
      have e' : v = .ref a := Option.some.inj (Option.some.inj e)
      rw [gets hjk]
      exact ap ht a e' k u (Ne.symm hjk) (get hjk hk) hu
    · by_cases h2 : i = k
      · subst h2
        obtain ⟨rfl, q⟩ := at_i hk
        rw [q]
        intro z
        have e' : v = .ref a := Option.some.inj (Option.some.inj z)
        rw [gets h1] at e
        exact ap hu a e' j t (Ne.symm h1) (get h1 hj) ht e
      · rw [gets h1] at e
        rw [gets h2]
        exact S.ap j k t u a hjk (get h1 hj) (get h2 hk) ht hu e
theorem StOk.setD (S : StOk K He0 He σ H0 H ρ) (i : Nat) {v : V} {d : D} (r : Rp K H0 v d) : StOk K He0 He (σ.set i (some v)) H0 H (ρ.set i (.dat d)) :=
  S.set i (s := .dat d) r (fun z => by cases z) (fun z => by cases z)
/-- slots forgotten -/
theorem StOk.wipe1 (S : StOk K He0 He σ H0 H ρ) (i : Nat) : StOk K He0 He (σ.set i none) H0 H (ρ.set i .no) := by
  have get : ∀ {j : Nat} {t : Sl}, t ≠ .no → (ρ.set i .no)[j]? = some t → i ≠ j ∧ ρ[j]? = some t := fun {j t} h q => by
    by_cases hj : i = j
    · subst hj
      have hl : i < ρ.length := by
        have := (List.getElem?_eq_some_iff.mp q).1
        rwa [List.length_set] at this
      rw [List.getElem?_set_self hl] at q
      cases q
      exact absurd rfl h
    · rw [List.getElem?_set_ne hj] at q
      exact ⟨hj, q⟩
  refine ⟨S.e, by rw [List.length_set, List.length_set]; exact S.len, fun j t h hn => ?_, fun j k t u a hjk hj hk ht hu e => ?_⟩
  · obtain ⟨h1, h2⟩ := get hn h
    rw [List.getElem?_set_ne h1]
    exact S.sl j t h2 hn
  · obtain ⟨h1, h2⟩ := get (by intro z; rw [z] at ht; cases ht) hj
    obtain ⟨h3, h4⟩ := get (by intro z; rw [z] at hu; cases hu) hk
    rw [List.getElem?_set_ne h1] at e
    rw [List.getElem?_set_ne h3]
    exact S.ap j k t u a hjk h2 h4 ht hu e
/-- forgetting slots at the level of data alone -/
theorem StOk.forget (S : StOk K He0 He σ H0 H ρ) (i : Nat) : StOk K He0 He σ H0 H (ρ.set i .no) := by
  have get : ∀ {j : Nat} {t : Sl}, t ≠ .no → (ρ.set i .no)[j]? = some t → ρ[j]? = some t := fun {j t} h q => by
    by_cases hj : i = j
    · subst hj
      have hl : i < ρ.length := by
        have := (List.getElem?_eq_some_iff.mp q).1
        rwa [List.length_set] at this
      rw [List.getElem?_set_self hl] at q
      cases q
      exact absurd rfl h
    · rwa [List.getElem?_set_ne hj] at q
  exact ⟨S.e, by rw [List.length_set]; exact S.len, fun j t h hn => S.sl j t (get hn h) hn, fun j k t u a hjk hj hk ht hu e =>
    S.ap j k t u a hjk (get (by intro z; rw [z] at ht; cases ht) hj) (get (by intro z; rw [z] at hu; cases hu) hk) ht hu e⟩
theorem still_of {v : V} {s : Sl} {a : Addr} (o : OwnAt K H0 H a s) : ∃ u : HO, H a = some u ∧ ∀ G : Hp, Same H0 G → G a = some u → Rp K G (.ref a) s.still := by
  cases s with
  | no => exact o.elim
  | ref c => exact o.elim
  | dat d => exact o.elim
  | own ds => obtain ⟨xs, h1, h2⟩ := o; exact ⟨_, h1, fun G g e => .lst e (h2.mono g)⟩
  | oK ks vs => obtain ⟨xs, h1, rfl, h2⟩ := o; exact ⟨_, h1, fun G g e => .dK (.inl e) (h2.mono g)⟩
  | oT ks vs => obtain ⟨xs, h1, rfl, h2⟩ := o; exact ⟨_, h1, fun G g e => .dT (.inl e) (h2.mono g)⟩
theorem own_of {s : Sl} {v : V} (ho : s.isOwn = true) (r : RpS K H0 H v s) : ∃ a, v = .ref a ∧ H0 a = none ∧ OwnAt K H0 H a s := by
  cases s with
  | no => cases ho
  | ref c => cases ho
  | dat d => cases ho
  | own ds => exact r
  | oK ks vs => exact r
  | oT ks vs => exact r
/-- what is one's own becomes still -/
theorem StOk.freeze (S : StOk K He0 He σ H0 H ρ) {i : Nat} {s : Sl} (h : ρ[i]? = some s) (ho : s.isOwn = true) : ∃ H1, Same H0 H1 ∧ StOk K He0 He σ H1 H (ρ.set i (.dat s.still)) := by
  obtain ⟨v, h1, h2, h3⟩ := S.sl i s h (by intro z; rw [z] at ho; cases ho)
  obtain ⟨a, rfl, n0, oa⟩ := own_of ho h2
  obtain ⟨u, hu, mk⟩ := still_of (v := .ref a) oa
  have s01 : Same H0 (upd H0 a u) := fun b o e => by rw [upd_ne (ne_of_none e n0)]; exact e
  have sub1 : Same (upd H0 a u) H := fun b o e => by
    by_cases hb : b = a
    · subst hb; rw [upd_same] at e; cases e; exact hu
    · rw [upd_ne hb] at e; exact S.sub _ _ e
  have he : He a = none := h3 ho a rfl
  have il : i < ρ.length := (List.getElem?_eq_some_iff.mp h).1
  refine ⟨upd H0 a u, s01, ⟨⟨S.e.s0.trans s01, S.e.s, sub1, fun b o e e' => ?_⟩, by rw [List.length_set]; exact S.len, fun j t hj hn => ?_, fun j k t w b hjk hj hk ht hw e => ?_⟩⟩
  · by_cases hb : b = a
    · subst hb; exact .inl he
    · rw [upd_ne hb] at e'; exact S.e.fr b o e e'
  · by_cases hji : i = j
    · subst hji
      rw [List.getElem?_set_self il] at hj
      cases hj
      exact ⟨.ref a, h1, mk _ s01 upd_same, fun z => by cases z⟩
    · rw [List.getElem?_set_ne hji] at hj
      obtain ⟨v', g1, g2, g3⟩ := S.sl j t hj hn
      refine ⟨v', g1, ?_, g3⟩
      by_cases hto : t.isOwn = true
      · obtain ⟨b, rfl, nb, ob⟩ := own_of hto g2
        have hba : b ≠ a := fun z => by
          subst z
          exact S.ap i j s t b hji h hj ho hto h1 g1
        have nb' : upd H0 a u b = none := by rw [upd_ne hba]; exact nb
        have ob' : OwnAt K (upd H0 a u) H b t := by
          cases t with
          | no => exact ob
          | ref c => exact ob
          | dat d => exact ob
          | own ds => obtain ⟨xs, q1, q2⟩ := ob; exact ⟨xs, q1, q2.mono s01⟩
          | oK ks vs => obtain ⟨xs, q1, q2, q3⟩ := ob; exact ⟨xs, q1, q2, q3.mono s01⟩
          | oT ks vs => obtain ⟨xs, q1, q2, q3⟩ := ob; exact ⟨xs, q1, q2, q3.mono s01⟩
        cases t with
        | no => cases hto
        | ref c => cases hto
        | dat d => cases hto
        | own ds => exact ⟨b, rfl, nb', ob'⟩
        | oK ks vs => exact ⟨b, rfl, nb', ob'⟩
        | oT ks vs => exact ⟨b, rfl, nb', ob'⟩
      · cases t with
        | no => trivial
        | ref c => exact g2
        | dat d => exact Rp.mono s01 g2
        | own ds => exact absurd rfl hto
        | oK ks vs => exact absurd rfl hto
        | oT ks vs => exact absurd rfl hto
  · have get : ∀ {j : Nat} {t : Sl}, t.isOwn = true → (ρ.set i (.dat s.still))[j]? = some t → ρ[j]? = some t := fun {j t} ht q => by
      by_cases hj : i = j
      · subst hj
        rw [List.getElem?_set_self il] at q
        cases q
        cases ht
      · rwa [List.getElem?_set_ne hj] at q
    exact S.ap j k t w b hjk (get ht hj) (get hw hk) ht hw e
end
end DL

set_option maxRecDepth 100000
set_option maxHeartbeats 1000000
namespace DL
open PySem PySem.Spec L2
/-! ### exceptions -/
structure Exn where
  C : Addr
  arg : Option (Str × D)
def ExnRep (K : PySem.W.Frag) (H0 H : Hp) (x : Exn) (cls : Value) (od : Option Addr) : Prop :=
  cls = .ref x.C ∧ (x.arg = none → od = none) ∧ ∀ f d, x.arg = some (f, d) → ∃ dd v, od = some dd ∧ H dd = some (.xd [(f, v)]) ∧ Rp K H0 v d
theorem ExnRep.ext {K : PySem.W.Frag} {H0 H H0' H' : Hp} {x : Exn} {cls : Value} {od : Option Addr} (e : Ext H0 H H0' H') (h : ExnRep K H0 H x cls od) : ExnRep K H0' H' x cls od :=
  ⟨h.1, h.2.1, fun f d q => by obtain ⟨dd, v, h1, h2, h3⟩ := h.2.2 f d q; exact ⟨dd, v, h1, e.s _ _ h2, h3.mono e.s0⟩⟩
/-! ### judgements -/
/-- what is wanted of an exception that leaves an expression -/
def Exs (K : PySem.W.Frag) (He0 He : Hp) (W : WX) (σ : St) (ρ : Rho) (X : Exn → Prop) : Prop :=
  ∀ x cls od H0 H, X x → StOk K He0 He σ H0 H ρ → ExnRep K H0 H x cls od → W cls od σ H
def EvP (K : PySem.W.Frag) (W : WX) (te : TE) (ρ : Rho) (P : D → Prop) (X : Exn → Prop) : Prop :=
  ∀ (He0 He : Hp) (σ : St) (H0 H : Hp) (Q : VK), StOk K He0 He σ H0 H ρ → Exs K He0 He W σ ρ X →
    (∀ v d H0' H', P d → StOk K He0 He σ H0' H' ρ → Ext H0 H H0' H' → Rp K H0' v d → Q v H') → te σ H Q
def EvO (K : PySem.W.Frag) (W : WX) (te : TE) (ρ : Rho) (P : Sl → Prop) (X : Exn → Prop) : Prop :=
  ∀ (He0 He : Hp) (σ : St) (H0 H : Hp) (Q : VK), StOk K He0 He σ H0 H ρ → Exs K He0 He W σ ρ X →
    (∀ v s H0' H', P s → StOk K He0 He σ H0' H' ρ → Ext H0 H H0' H' → RpS K H0' H' v s → NewAt H v s → Q v H') → te σ H Q
def BvP (K : PySem.W.Frag) (W : WX) (tt : TT) (ρ : Rho) (P : Bool → Prop) (X : Exn → Prop) : Prop :=
  ∀ (He0 He : Hp) (σ : St) (H0 H : Hp) (Q : Bool → Hp → Prop), StOk K He0 He σ H0 H ρ → Exs K He0 He W σ ρ X →
    (∀ b H0' H', P b → StOk K He0 He σ H0' H' ρ → Ext H0 H H0' H' → Q b H') → tt σ H Q
def AvP (K : PySem.W.Frag) (W : WX) (ta : TA) (ρ : Rho) (P : List D → Prop) (X : Exn → Prop) : Prop :=
  ∀ (He0 He : Hp) (σ : St) (H0 H : Hp) (Q : List V → Hp → Prop), StOk K He0 He σ H0 H ρ → Exs K He0 He W σ ρ X →
    (∀ vs ds H0' H', P ds → StOk K He0 He σ H0' H' ρ → Ext H0 H H0' H' → Rps K H0' vs ds → Q vs H') → ta σ H Q
/-- an operator by values -/
def OpD (K : PySem.W.Frag) (r : R2) (x y : D) (P : D → Prop) : Prop :=
  ∀ (H0 H : Hp) (v u : V) (Q : VK), Same H0 H → Rp K H0 v x → Rp K H0 u y → (∀ z d H0' H', P d → Ext H0 H H0' H' → Rp K H0' z d → Q z H') → r v u H Q
def UnD (K : PySem.W.Frag) (r : V → Hp → VK → Prop) (x : D) (P : D → Prop) : Prop :=
  ∀ (H0 H : Hp) (v : V) (Q : VK), Same H0 H → Rp K H0 v x → (∀ z d H0' H', P d → Ext H0 H H0' H' → Rp K H0' z d → Q z H') → r v H Q
/-- a built-in's call by values -/
def CbD (K : PySem.W.Frag) (r : List V → Hp → VK → Prop) (xs : List D) (P : D → Prop) : Prop :=
  ∀ (H0 H : Hp) (vs : List V) (Q : VK), Same H0 H → Rps K H0 vs xs → (∀ z d H0' H', P d → Ext H0 H H0' H' → Rp K H0' z d → Q z H') → r vs H Q
/-- a method's call by values -/
def MtD (K : PySem.W.Frag) (r : V → List V → Hp → VK → Prop) (x : D) (xs : List D) (P : D → Prop) : Prop :=
  ∀ (H0 H : Hp) (v : V) (vs : List V) (Q : VK), Same H0 H → Rp K H0 v x → Rps K H0 vs xs → (∀ z d H0' H', P d → Ext H0 H H0' H' → Rp K H0' z d → Q z H') → r v vs H Q
structure En where
  nx : Rho → Prop
  rt : Sl → Prop
  bk : Rho → Prop := fun _ => False
  ct : Rho → Prop := fun _ => False
  ex : Exn → Rho → Prop := fun _ _ => False
structure EndsOk (K : PySem.W.Frag) (He0 He : Hp) (W : WX) (E : En) (D : Ends) : Prop where
  nx : ∀ ρ σ H0 H, E.nx ρ → StOk K He0 He σ H0 H ρ → D.nx σ H
  rt : ∀ s v H0 H, E.rt s → Ext He0 He H0 H → RpS K H0 H v s → NewAt He v s → D.rt v H
  bk : ∀ ρ σ H0 H, E.bk ρ → StOk K He0 He σ H0 H ρ → D.bk σ H
  ct : ∀ ρ σ H0 H, E.ct ρ → StOk K He0 He σ H0 H ρ → D.ct σ H
  ex : ∀ x ρ σ H0 H cls od, E.ex x ρ → StOk K He0 He σ H0 H ρ → ExnRep K H0 H x cls od → W cls od σ H
def WS (K : PySem.W.Frag) (W : WX) (ts : TS) (ρ : Rho) (E : En) : Prop :=
  ∀ (He0 He : Hp) (σ : St) (H0 H : Hp) (D : Ends), StOk K He0 He σ H0 H ρ → EndsOk K He0 He W E D → ts D σ H
theorem EndsOk.exs {K : PySem.W.Frag} {He0 He : Hp} {W : WX} {E : En} {D : Ends} (e : EndsOk K He0 He W E D) (σ : St) (ρ : Rho) : Exs K He0 He W σ ρ fun x => E.ex x ρ :=
  fun x cls od H0 H h S r => e.ex x ρ σ H0 H cls od h S r
section
variable {K : PySem.W.Frag} {W : WX} {te ta tb tc : TE} {tt tu : TT} {ts tr : TS} {tas : TA} {ρ : Rho} {P : D → Prop} {PB : Bool → Prop} {PS : Sl → Prop} {PA : List D → Prop} {X : Exn → Prop} {E : En} {r r' : R2}
/-! ### consequences -/
theorem EvP.imp {P' : D → Prop} (h : EvP K W te ρ P X) (f : ∀ d, P d → P' d) : EvP K W te ρ P' X := fun He0 He σ H0 H Q S x k => h He0 He σ H0 H Q S x fun v d H0' H' p => k v d H0' H' (f d p)
theorem BvP.imp {P' : Bool → Prop} (h : BvP K W tt ρ PB X) (f : ∀ d, PB d → P' d) : BvP K W tt ρ P' X := fun He0 He σ H0 H Q S x k => h He0 He σ H0 H Q S x fun v H0' H' p => k v H0' H' (f v p)
theorem WS.imp {E' : En} (h : WS K W ts ρ E) (h1 : ∀ ρ, E.nx ρ → E'.nx ρ) (h2 : ∀ s, E.rt s → E'.rt s) (h3 : ∀ ρ, E.bk ρ → E'.bk ρ) (h4 : ∀ ρ, E.ct ρ → E'.ct ρ) (h5 : ∀ x ρ, E.ex x ρ → E'.ex x ρ) : WS K W ts ρ E' :=
  fun He0 He σ H0 H D S e => h He0 He σ H0 H D S ⟨fun ρ σ H0 H q => e.nx ρ σ H0 H (h1 _ q), fun s v H0 H q => e.rt s v H0 H (h2 _ q), fun ρ σ H0 H q => e.bk ρ σ H0 H (h3 _ q), fun ρ σ H0 H q => e.ct ρ σ H0 H (h4 _ q), fun x ρ σ H0 H c o q => e.ex x ρ σ H0 H c o (h5 _ _ q)⟩
theorem EvO.dat (h : EvP K W te ρ (fun d => PS (.dat d)) X) : EvO K W te ρ PS X := fun He0 He σ H0 H Q S x k => h He0 He σ H0 H Q S x fun v d H0' H' p S' e q => k v (.dat d) H0' H' p S' e q (fun z => by cases z)
/-! ### names and constants -/
theorem ev_var {i : Nat} {d : D} (h : ρ[i]? = some (.dat d)) (p : P d) : EvP K W (tVar i) ρ P X := fun He0 He σ H0 H Q S x k => by
  obtain ⟨v, h1, h2⟩ := S.dat h
  exact ⟨v, h1, k v d H0 H p S (.refl S.sub) h2⟩
theorem ev_int {i : Int} (p : P (.int i)) : EvP K W (tC (.int i)) ρ P X := fun He0 He σ H0 H Q S x k => k _ _ H0 H p S (.refl S.sub) (.int i)
theorem ev_bl {i : Bool} (p : P (.bl i)) : EvP K W (tC (.bl i)) ρ P X := fun He0 He σ H0 H Q S x k => k _ _ H0 H p S (.refl S.sub) (.bl i)
theorem ev_str {i : Str} (p : P (.str i)) : EvP K W (tC (.str i)) ρ P X := fun He0 He σ H0 H Q S x k => k _ _ H0 H p S (.refl S.sub) (.str i)
theorem ev_non (p : P .non) : EvP K W (tC .non) ρ P X := fun He0 He σ H0 H Q S x k => k _ _ H0 H p S (.refl S.sub) .non
/-! ### operators -/
theorem ev_op (h : EvP K W ta ρ (fun x => EvP K W tb ρ (fun y => OpD K r x y P) X) X) : EvP K W (tOp r ta tb) ρ P X := fun He0 He σ H0 H Q S x k => by
  refine h He0 He σ H0 H _ S x fun v d H1 H1' p S1 e1 r1 => ?_
  refine p He0 He σ H1 H1' _ S1 x fun u e H2 H2' p2 S2 e2 r2 => ?_
  exact p2 H2 H2' v u Q S2.sub (r1.mono e2.s0) r2 fun z w H3 H3' p3 e3 r3 => k z w H3 H3' p3 (S2.ext e3) (e1.trans (e2.trans e3)) r3
theorem ev_un {ru : V → Hp → VK → Prop} (h : EvP K W ta ρ (fun x => UnD K ru x P) X) : EvP K W (tUn ru ta) ρ P X := fun He0 He σ H0 H Q S x k => by
  refine h He0 He σ H0 H _ S x fun v d H1 H1' p S1 e1 r1 => ?_
  exact p H1 H1' v Q S1.sub r1 fun z w H3 H3' p3 e3 r3 => k z w H3 H3' p3 (S1.ext e3) (e1.trans e3) r3
theorem ev_cb {rc : List V → Hp → VK → Prop} (h : AvP K W tas ρ (fun xs => CbD K rc xs P) X) : EvP K W (tCB rc tas) ρ P X := fun He0 He σ H0 H Q S x k => by
  refine h He0 He σ H0 H _ S x fun v d H1 H1' p S1 e1 r1 => ?_
  exact p H1 H1' v Q S1.sub r1 fun z w H3 H3' p3 e3 r3 => k z w H3 H3' p3 (S1.ext e3) (e1.trans e3) r3
theorem av_nil (p : PA []) : AvP K W tNil ρ PA X := fun He0 He σ H0 H Q S x k => k [] [] H0 H p S (.refl S.sub) .nil
theorem av_cons (h : EvP K W te ρ (fun d => AvP K W tas ρ (fun ds => PA (d :: ds)) X) X) : AvP K W (tCons te tas) ρ PA X := fun He0 He σ H0 H Q S x k => by
  refine h He0 He σ H0 H _ S x fun v d H1 H1' p S1 e1 r1 => ?_
  exact p He0 He σ H1 H1' _ S1 x fun vs ds H2 H2' p2 S2 e2 r2 => k (v :: vs) (d :: ds) H2 H2' p2 S2 (e1.trans e2) (.cons (r1.mono e2.s0) r2)
theorem OpD.inl {x y : D} (h : OpD K r x y P) : OpD K (fun v u H Q => r v u H Q ∨ r' v u H Q) x y P := fun H0 H v u Q s a b k => .inl (h H0 H v u Q s a b k)
theorem OpD.inr {x y : D} (h : OpD K r' x y P) : OpD K (fun v u H Q => r v u H Q ∨ r' v u H Q) x y P := fun H0 H v u Q s a b k => .inr (h H0 H v u Q s a b k)
theorem od_int0 {g : Int → Int → Int} {i j : Int} (p : P (.int (g i j))) : OpD K (rI0 fun i j => .int (g i j)) (.int i) (.int j) P := fun H0 H v u Q s a b k => by
  cases a; cases b
  exact ⟨i, j, rfl, rfl, k _ _ H0 H p (.refl s) (.int _)⟩
theorem od_intb {g : Int → Int → Bool} {i j : Int} (p : P (.bl (g i j))) : OpD K (rI0 fun i j => .bl (g i j)) (.int i) (.int j) P := fun H0 H v u Q s a b k => by
  cases a; cases b
  exact ⟨i, j, rfl, rfl, k _ _ H0 H p (.refl s) (.bl _)⟩
theorem od_intC {C : Int → Int → Prop} {g : Int → Int → Int} {i j : Int} (c : C i j) (p : P (.int (g i j))) : OpD K (rI C fun i j => .int (g i j)) (.int i) (.int j) P := fun H0 H v u Q s a b k => by
  cases a; cases b
  exact ⟨i, j, rfl, rfl, c, k _ _ H0 H p (.refl s) (.int _)⟩
theorem ud_int {g : Int → Int} {i : Int} (p : P (.int (g i))) : UnD K (rU fun i => .int (g i)) (.int i) P := fun H0 H v Q s a k => by
  cases a
  exact ⟨i, rfl, k _ _ H0 H p (.refl s) (.int _)⟩
/-- == of ints, bools, texts, None -/
def D.scal : D → D → Bool
  | .int _, .int _ | .bl _, .bl _ | .str _, .str _ | .non, .non => true
  | _, _ => false
theorem od_eqI {i j : Int} (p : P (.bl (decide (i = j)))) : OpD K rEq (.int i) (.int j) P := fun H0 H v u Q s a b k => by
  cases a; cases b
  refine ⟨rfl, ?_⟩
  have q := k (.bl (decide (i = j))) _ H0 H p (.refl s) (.bl _)
  rw [show decide (V.int i = V.int j) = decide (i = j) from by simp]
  exact q
theorem od_neI {i j : Int} (p : P (.bl (decide (i ≠ j)))) : OpD K rNe (.int i) (.int j) P := fun H0 H v u Q s a b k => by
  cases a; cases b
  refine ⟨rfl, ?_⟩
  have q := k (.bl (decide (i ≠ j))) _ H0 H p (.refl s) (.bl _)
  rw [show (!decide (V.int i = V.int j)) = decide (i ≠ j) from by simp]
  exact q
theorem od_eqB {i j : Bool} (p : P (.bl (decide (i = j)))) : OpD K rEq (.bl i) (.bl j) P := fun H0 H v u Q s a b k => by
  cases a; cases b
  refine ⟨rfl, ?_⟩
  have q := k (.bl (decide (i = j))) _ H0 H p (.refl s) (.bl _)
  rw [show decide (V.bl i = V.bl j) = decide (i = j) from by simp]
  exact q
theorem od_neB {i j : Bool} (p : P (.bl (decide (i ≠ j)))) : OpD K rNe (.bl i) (.bl j) P := fun H0 H v u Q s a b k => by
  cases a; cases b
  refine ⟨rfl, ?_⟩
  have q := k (.bl (decide (i ≠ j))) _ H0 H p (.refl s) (.bl _)
  rw [show (!decide (V.bl i = V.bl j)) = decide (i ≠ j) from by simp]
  exact q
theorem od_eqS {i j : Str} (p : P (.bl (decide (i = j)))) : OpD K rEq (.str i) (.str j) P := fun H0 H v u Q s a b k => by
  cases a; cases b
  refine ⟨rfl, ?_⟩
  have q := k (.bl (decide (i = j))) _ H0 H p (.refl s) (.bl _)
  rw [show decide (V.str i = V.str j) = decide (i = j) from by simp]
  exact q
theorem od_neS {i j : Str} (p : P (.bl (decide (i ≠ j)))) : OpD K rNe (.str i) (.str j) P := fun H0 H v u Q s a b k => by
  cases a; cases b
  refine ⟨rfl, ?_⟩
  have q := k (.bl (decide (i ≠ j))) _ H0 H p (.refl s) (.bl _)
  rw [show (!decide (V.str i = V.str j)) = decide (i ≠ j) from by simp]
  exact q
/-! ### tests -/
theorem bv_test (h : EvP K W te ρ (fun d => ∃ b, d = .bl b ∧ PB b) X) : BvP K W (tTest te) ρ PB X := fun He0 He σ H0 H Q S x k => by
  refine h He0 He σ H0 H _ S x fun v d H1 H1' p S1 e1 r1 => ?_
  obtain ⟨b, rfl, pb⟩ := p
  cases r1
  exact ⟨b, rfl, k b H1 H1' pb S1 e1⟩
theorem bv_val (h : EvP K W te ρ (fun d => ∃ b, d = .bl b ∧ PB b) X) : BvP K W (tB te) ρ PB X := fun He0 He σ H0 H Q S x k => by
  refine h He0 He σ H0 H _ S x fun v d H1 H1' p S1 e1 r1 => ?_
  obtain ⟨b, rfl, pb⟩ := p
  cases r1
  exact ⟨b, rfl, k b H1 H1' pb S1 e1⟩
theorem bv_and (h : BvP K W tt ρ (fun c => if c = true then BvP K W tu ρ PB X else PB false) X) : BvP K W (tAnd tt tu) ρ PB X := fun He0 He σ H0 H Q S x k => by
  refine h He0 He σ H0 H _ S x fun c H1 H1' p S1 e1 => ?_
  cases c with
  | true =>
    rw [if_pos rfl] at p ⊢
    exact p He0 He σ H1 H1' _ S1 x fun b H2 H2' q S2 e2 => k b H2 H2' q S2 (e1.trans e2)
  | false =>
    rw [if_neg Bool.false_ne_true] at p ⊢
    exact k false H1 H1' p S1 e1
theorem bv_or (h : BvP K W tt ρ (fun c => if c = true then PB true else BvP K W tu ρ PB X) X) : BvP K W (tOr tt tu) ρ PB X := fun He0 He σ H0 H Q S x k => by
  refine h He0 He σ H0 H _ S x fun c H1 H1' p S1 e1 => ?_
  cases c with
  | true =>
    rw [if_pos rfl] at p ⊢
    exact k true H1 H1' p S1 e1
  | false =>
    rw [if_neg Bool.false_ne_true] at p ⊢
    exact p He0 He σ H1 H1' _ S1 x fun b H2 H2' q S2 e2 => k b H2 H2' q S2 (e1.trans e2)
theorem bv_not (h : BvP K W tt ρ (fun c => PB (!c)) X) : BvP K W (tNot tt) ρ PB X := fun He0 He σ H0 H Q S x k =>
  h He0 He σ H0 H _ S x fun c H1 H1' p S1 e1 => k _ H1 H1' p S1 e1
theorem ev_andV (h : EvP K W ta ρ (fun d => ∃ c, d = .bl c ∧ if c = true then EvP K W tb ρ P X else P (.bl false)) X) : EvP K W (tAndV ta tb) ρ P X := fun He0 He σ H0 H Q S x k => by
  refine h He0 He σ H0 H _ S x fun v d H1 H1' p S1 e1 r1 => ?_
  obtain ⟨c, rfl, p⟩ := p
  cases r1
  refine ⟨c, rfl, ?_⟩
  cases c with
  | true =>
    rw [if_pos rfl] at p ⊢
    exact p He0 He σ H1 H1' _ S1 x fun v d H2 H2' q S2 e2 r2 => k v d H2 H2' q S2 (e1.trans e2) r2
  | false =>
    rw [if_neg Bool.false_ne_true] at p ⊢
    exact k _ _ H1 H1' p S1 e1 (.bl false)
theorem ev_orV (h : EvP K W ta ρ (fun d => ∃ c, d = .bl c ∧ if c = true then P (.bl true) else EvP K W tb ρ P X) X) : EvP K W (tOrV ta tb) ρ P X := fun He0 He σ H0 H Q S x k => by
  refine h He0 He σ H0 H _ S x fun v d H1 H1' p S1 e1 r1 => ?_
  obtain ⟨c, rfl, p⟩ := p
  cases r1
  refine ⟨c, rfl, ?_⟩
  cases c with
  | true =>
    rw [if_pos rfl] at p ⊢
    exact k _ _ H1 H1' p S1 e1 (.bl true)
  | false =>
    rw [if_neg Bool.false_ne_true] at p ⊢
    exact p He0 He σ H1 H1' _ S1 x fun v d H2 H2' q S2 e2 r2 => k v d H2 H2' q S2 (e1.trans e2) r2
theorem ev_notV (h : EvP K W ta ρ (fun d => ∃ c, d = .bl c ∧ P (.bl (!c))) X) : EvP K W (tNotV ta) ρ P X := fun He0 He σ H0 H Q S x k => by
  refine h He0 He σ H0 H _ S x fun v d H1 H1' p S1 e1 r1 => ?_
  obtain ⟨c, rfl, p⟩ := p
  cases r1
  exact ⟨c, rfl, k _ _ H1 H1' p S1 e1 (.bl _)⟩
theorem ev_if (h : BvP K W tt ρ (fun c => if c = true then EvP K W ta ρ P X else EvP K W tb ρ P X) X) : EvP K W (tIf tt ta tb) ρ P X := fun He0 He σ H0 H Q S x k => by
  refine h He0 He σ H0 H _ S x fun c H1 H1' p S1 e1 => ?_
  cases c with
  | true =>
    rw [if_pos rfl] at p ⊢
    exact p He0 He σ H1 H1' _ S1 x fun v d H2 H2' q S2 e2 r2 => k v d H2 H2' q S2 (e1.trans e2) r2
  | false =>
    rw [if_neg Bool.false_ne_true] at p ⊢
    exact p He0 He σ H1 H1' _ S1 x fun v d H2 H2' q S2 e2 r2 => k v d H2 H2' q S2 (e1.trans e2) r2
theorem ev_chain (h : EvP K W ta ρ (fun x => EvP K W tb ρ (fun y => OpD K r x y fun z => ∃ k, z = .bl k ∧ if k = true then EvP K W tc ρ (fun w => OpD K r' y w P) X else P (.bl false)) X) X) :
    EvP K W (tChain r r' ta tb tc) ρ P X := fun He0 He σ H0 H Q S x k => by
  refine h He0 He σ H0 H _ S x fun v d H1 H1' p S1 e1 r1 => ?_
  refine p He0 He σ H1 H1' _ S1 x fun u e H2 H2' p2 S2 e2 r2 => ?_
  refine p2 H2 H2' v u _ S2.sub (r1.mono e2.s0) r2 fun z w H3 H3' p3 e3 r3 => ?_
  obtain ⟨c, rfl, p3⟩ := p3
  cases r3
  refine ⟨c, rfl, ?_⟩
  have S3 := S2.ext e3
  cases c with
  | true =>
    rw [if_pos rfl] at p3 ⊢
    refine p3 He0 He σ H3 H3' _ S3 x fun u' e' H4 H4' p4 S4 e4 r4 => ?_
    exact p4 H4 H4' u u' Q S4.sub (r2.mono (e3.trans e4).s0) r4 fun z w H5 H5' p5 e5 r5 => k z w H5 H5' p5 (S4.ext e5) (e1.trans (e2.trans (e3.trans (e4.trans e5)))) r5
  | false =>
    rw [if_neg Bool.false_ne_true] at p3 ⊢
    exact k _ _ H3 H3' p3 S3 (e1.trans (e2.trans e3)) (.bl false)
/-! ### new tuples and lists -/
theorem ev_tup (h : AvP K W tas ρ (fun ds => ds.length ≤ sizeLine ∧ P (.tup ds)) X) : EvP K W (tTup tas) ρ P X := fun He0 He σ H0 H Q S x k => by
  refine h He0 He σ H0 H _ S x fun vs ds H1 H1' p S1 e1 r1 => ⟨by rw [r1.length]; exact p.1, fun a na => ?_⟩
  have e2 : Ext H1 H1' (upd H1 a (.tup vs)) (upd H1' a (.tup vs)) := .new S1.sub na
  exact k _ _ _ _ p.2 (S1.ext e2) (e1.trans e2) (.tup upd_same (r1.mono e2.s0))
theorem ev_lst (h : AvP K W tas ρ (fun ds => ds.length ≤ sizeLine ∧ P (.lst ds)) X) : EvP K W (tLst tas) ρ P X := fun He0 He σ H0 H Q S x k => by
  refine h He0 He σ H0 H _ S x fun vs ds H1 H1' p S1 e1 r1 => ⟨by rw [r1.length]; exact p.1, fun a na => ?_⟩
  have e2 : Ext H1 H1' (upd H1 a (.lst vs)) (upd H1' a (.lst vs)) := .new S1.sub na
  exact k _ _ _ _ p.2 (S1.ext e2) (e1.trans e2) (.lst upd_same (r1.mono e2.s0))
theorem eo_lst (h : AvP K W tas ρ (fun ds => ds.length ≤ sizeLine ∧ PS (.own ds)) X) : EvO K W (tLst tas) ρ PS X := fun He0 He σ H0 H Q S x k => by
  refine h He0 He σ H0 H _ S x fun vs ds H1 H1' p S1 e1 r1 => ⟨by rw [r1.length]; exact p.1, fun a na => ?_⟩
  have e2 : Ext H1 H1' H1 (upd H1' a (.lst vs)) := .own S1.sub na
  refine k _ _ _ _ p.2 (S1.ext e2) (e1.trans e2) ⟨a, rfl, S1.sub.free na, vs, upd_same, r1⟩ fun _ b e => ?_
  cases e
  exact e1.s.free na
theorem eo_dK (p : PS (.oK [] [])) : EvO K W tDNewK ρ PS X := fun He0 He σ H0 H Q S x k a na => by
  have e2 : Ext H0 H H0 (upd H a (.dK [])) := .own S.sub na
  refine k _ _ _ _ p (S.ext e2) e2 ⟨a, rfl, S.sub.free na, [], upd_same, rfl, .nil⟩ fun _ b e => ?_
  cases e
  exact na
theorem eo_dT (p : PS (.oT [] [])) : EvO K W tDNewT ρ PS X := fun He0 He σ H0 H Q S x k a na => by
  have e2 : Ext H0 H H0 (upd H a (.dT [])) := .own S.sub na
  refine k _ _ _ _ p (S.ext e2) e2 ⟨a, rfl, S.sub.free na, [], upd_same, rfl, .nil⟩ fun _ b e => ?_
  cases e
  exact na
/-! ### statements -/
theorem ws_seq (h : WS K W ts ρ { E with nx := fun ρ' => WS K W tr ρ' E }) : WS K W (tSeq ts tr) ρ E := fun He0 He σ H0 H D S e =>
  h He0 He σ H0 H { D with nx := tr D } S ⟨fun ρ' σ' H0' H' q S' => q He0 He σ' H0' H' D S' e, e.rt, e.bk, e.ct, e.ex⟩
theorem ws_next (h : E.nx ρ) : WS K W tNext ρ E := fun He0 He σ H0 H D S e => e.nx ρ σ H0 H h S
theorem ws_break (h : E.bk ρ) : WS K W tBreak ρ E := fun He0 He σ H0 H D S e => e.bk ρ σ H0 H h S
theorem ws_cont (h : E.ct ρ) : WS K W tCont ρ E := fun He0 He σ H0 H D S e => e.ct ρ σ H0 H h S
theorem ws_retN (h : E.rt (.dat .non)) : WS K W tRetN ρ E := fun He0 He σ H0 H D S e => e.rt (.dat .non) .non H0 H h S.e .non (fun z => by cases z)
theorem ws_drop (h : EvP K W te ρ (fun _ => E.nx ρ) (fun x => E.ex x ρ)) : WS K W (tDrop te) ρ E := fun He0 He σ H0 H D S e =>
  h He0 He σ H0 H _ S (e.exs σ ρ) fun v d H1 H1' p S1 e1 r1 => e.nx ρ σ H1 H1' p S1
theorem ws_ret (h : EvP K W te ρ (fun d => E.rt (.dat d)) (fun x => E.ex x ρ)) : WS K W (tRet te) ρ E := fun He0 He σ H0 H D S e =>
  h He0 He σ H0 H _ S (e.exs σ ρ) fun v d H1 H1' p S1 e1 r1 => e.rt (.dat d) v H1 H1' p S1.e r1 (fun z => by cases z)
theorem NewAt.mono {He H : Hp} {v : V} {s : Sl} (h : Same He H) (n : NewAt H v s) : NewAt He v s := fun o a e => h.free (n o a e)
theorem ws_retO (h : EvO K W te ρ E.rt (fun x => E.ex x ρ)) : WS K W (tRet te) ρ E := fun He0 He σ H0 H D S e =>
  h He0 He σ H0 H _ S (e.exs σ ρ) fun v d H1 H1' p S1 e1 r1 n => e.rt d v H1 H1' p S1.e r1 (n.mono S.e.s)
/-- a slot of one's own handed back -/
theorem ws_retv {i : Nat} {s : Sl} (h : ρ[i]? = some s) (n : s ≠ .no) (p : E.rt s) : WS K W (tRet (tVar i)) ρ E := fun He0 He σ H0 H D S e => by
  obtain ⟨v, h1, h2, h3⟩ := S.sl i s h n
  exact ⟨v, h1, e.rt s v H0 H p S.e h2 h3⟩
theorem ws_if (h : BvP K W tt ρ (fun c => if c = true then WS K W ts ρ E else WS K W tr ρ E) (fun x => E.ex x ρ)) : WS K W (tIfS tt ts tr) ρ E := fun He0 He σ H0 H D S e =>
  h He0 He σ H0 H _ S (e.exs σ ρ) fun c H1 H1' p S1 e1 => by
    cases c with
    | true => exact (show WS K W ts ρ E from p) He0 He σ H1 H1' D S1 e
    | false => exact (show WS K W tr ρ E from p) He0 He σ H1 H1' D S1 e
theorem ws_set {i : Nat} (h : EvP K W te ρ (fun d => E.nx (ρ.set i (.dat d))) (fun x => E.ex x ρ)) : WS K W (tAsg te (gName i)) ρ E := fun He0 He σ H0 H D S e =>
  h He0 He σ H0 H _ S (e.exs σ ρ) fun v d H1 H1' p S1 e1 r1 => e.nx _ _ H1 H1' p (S1.setD i r1)
theorem ap_new {He0 He : Hp} {σ : St} {H0 H : Hp} (S : StOk K He0 He σ H0 H ρ) {v : V} {s : Sl} (n : NewAt H v s) : s.isOwn = true → ∀ a, v = .ref a → ∀ (j : Nat) (t : Sl), ρ[j]? = some t → t.isOwn = true → σ[j]? ≠ some (some (.ref a)) := fun o a ea j t hj ht e => by
  obtain ⟨v', h1, h2, h3⟩ := S.sl j t hj (by intro z; rw [z] at ht; cases ht)
  obtain ⟨b, rfl, n0, ob⟩ := own_of ht h2
  rw [h1] at e
  cases e
  obtain ⟨u, hu, _⟩ := ob.there
  rw [n o a ea] at hu
  cases hu
theorem ws_setO {i : Nat} (h : EvO K W te ρ (fun s => E.nx (ρ.set i s)) (fun x => E.ex x ρ)) : WS K W (tAsg te (gName i)) ρ E := fun He0 He σ H0 H D S e =>
  h He0 He σ H0 H _ S (e.exs σ ρ) fun v s H1 H1' p S1 e1 r1 n => e.nx _ _ H1 H1' p (S1.set i r1 (n.mono S.e.s) fun o a ea j t hj => ap_new S n o a ea j t)
theorem ws_freeze {i : Nat} {s : Sl} (h : ρ[i]? = some s) (ho : s.isOwn = true) (w : WS K W ts (ρ.set i (.dat s.still)) E) : WS K W ts ρ E := fun He0 He σ H0 H D S e => by
  obtain ⟨H1, s1, S1⟩ := S.freeze h ho
  exact w He0 He σ H1 H D S1 e
theorem ws_forget (i : Nat) (w : WS K W ts (ρ.set i .no) E) : WS K W ts ρ E := fun He0 He σ H0 H D S e => w He0 He σ H0 H D (S.forget i) e
theorem ws_aug {i : Nat} {d : D} {ti : TIp} (h : ρ[i]? = some (.dat d)) (w : EvP K W te ρ (fun y => OpD K ti d y fun z => E.nx (ρ.set i (.dat z))) (fun x => E.ex x ρ)) : WS K W (tAug i te ti) ρ E := fun He0 He σ H0 H D S e => by
  obtain ⟨v, h1, h2⟩ := S.dat h
  refine ⟨v, h1, w He0 He σ H0 H _ S (e.exs σ ρ) fun u y H1 H1' p S1 e1 r1 => ?_⟩
  exact p H1 H1' v u _ S1.sub (h2.mono e1.s0) r1 fun z w H3 H3' p3 e3 r3 => e.nx _ _ H3 H3' p3 ((S1.ext e3).setD i r3)
/-- x.append(e), x one's own list -/
theorem ws_append {i : Nat} {ds : List D} (h : ρ[i]? = some (.own ds)) (w : EvP K W te ρ (fun y => ds.length < sizeLine ∧ E.nx (ρ.set i (.own (ds ++ [y])))) (fun x => E.ex x ρ)) :
    WS K W (tDrop (tBM K "list" rAppend (tVar i) (tCons te tNil))) ρ E := fun He0 He σ H0 H D S e => by
  obtain ⟨v, h1, h2, h3⟩ := S.sl i _ h (by intro z; cases z)
  obtain ⟨a, rfl, n0, xs, ha, rs⟩ := h2
  refine ⟨_, h1, .inl ⟨rfl, _, .inl (.inl ha)⟩, w He0 He σ H0 H _ S (e.exs σ ρ) fun u y H1 H1' p S1 e1 r1 => ?_⟩
  have ha1 := e1.s _ _ ha
  have n1 : H1 a = none := e1.none n0 ha
  refine ⟨a, xs, u, rfl, rfl, ha1, by rw [rs.length]; exact p.1, ?_⟩
  refine e.nx _ σ H1 _ p.2 ?_
  have il : i < ρ.length := (List.getElem?_eq_some_iff.mp h).1
  have sub2 : Same H1 (upd H1' a (.lst (xs ++ [u]))) := fun b o q => by rw [upd_ne (ne_of_none q n1)]; exact S1.sub _ _ q
  refine ⟨⟨S1.e.s0, fun b o q => ?_, sub2, S1.e.fr⟩, by rw [List.length_set]; exact S1.len, fun j t hj hn => ?_, fun j k t w b hjk hj hk ht hw q => ?_⟩
  · rw [upd_ne (ne_of_none q (h3 rfl a rfl))]; exact S1.e.s _ _ q
  · by_cases hji : i = j
    · subst hji
      rw [List.getElem?_set_self il] at hj
      cases hj
      exact ⟨.ref a, h1, ⟨a, rfl, n1, _, upd_same, (rs.mono e1.s0).append (.one r1)⟩, fun _ b e => h3 rfl b e⟩
    · rw [List.getElem?_set_ne hji] at hj
      obtain ⟨v', g1, g2, g3⟩ := S1.sl j t hj hn
      refine ⟨v', g1, ?_, g3⟩
      by_cases hto : t.isOwn = true
      · obtain ⟨b, rfl, nb, ob⟩ := own_of hto g2
        have hba : b ≠ a := fun z => by
          subst z
          exact S.ap i j (.own ds) t b hji h hj rfl hto h1 g1
        have ob' : OwnAt K H1 (upd H1' a (.lst (xs ++ [u]))) b t := by
          cases t with
          | no => exact ob
          | ref c => exact ob
          | dat d => exact ob
          | own ds => obtain ⟨xs, q1, q2⟩ := ob; exact ⟨xs, by rw [upd_ne hba]; exact q1, q2⟩
          | oK ks vs => obtain ⟨xs, q1, q2, q3⟩ := ob; exact ⟨xs, by rw [upd_ne hba]; exact q1, q2, q3⟩
          | oT ks vs => obtain ⟨xs, q1, q2, q3⟩ := ob; exact ⟨xs, by rw [upd_ne hba]; exact q1, q2, q3⟩
        cases t with
        | no => cases hto
        | ref c => cases hto
        | dat d => cases hto
        | own ds => exact ⟨b, rfl, nb, ob'⟩
        | oK ks vs => exact ⟨b, rfl, nb, ob'⟩
        | oT ks vs => exact ⟨b, rfl, nb, ob'⟩
      · cases t with
        | no => trivial
        | ref c => exact g2
        | dat d => exact g2
        | own ds => exact absurd rfl hto
        | oK ks vs => exact absurd rfl hto
        | oT ks vs => exact absurd rfl hto
  · have get : ∀ {j : Nat} {t : Sl}, t.isOwn = true → (ρ.set i (.own (ds ++ [y])))[j]? = some t → ∃ t', t'.isOwn = true ∧ ρ[j]? = some t' := fun {j t} ht q => by
      by_cases hj : i = j
      · subst hj
        exact ⟨_, rfl, h⟩
      · rw [List.getElem?_set_ne hj] at q
        exact ⟨t, ht, q⟩
    obtain ⟨t', q1, q2⟩ := get ht hj
    obtain ⟨w', q3, q4⟩ := get hw hk
    exact S.ap j k t' w' b hjk q2 q4 q1 q3 q
end
end DL

set_option maxRecDepth 100000
set_option maxHeartbeats 1000000
namespace DL
open PySem PySem.Spec L2
section
variable {K : PySem.W.Frag} {W : WX} {te ta tb tc tl : TE} {tt tu : TT} {ts tr : TS} {tas : TA} {ρ : Rho} {P : D → Prop} {PB : Bool → Prop} {PS : Sl → Prop} {PA : List D → Prop} {X : Exn → Prop} {E : En} {r r' : R2} {g : TG} {u : TGs}
/-! ### targets -/
def GvP (K : PySem.W.Frag) (g : TG) (d : D) (ρ : Rho) (P : Rho → Prop) : Prop :=
  ∀ (He0 He : Hp) (σ : St) (H0 H : Hp) (v : V) (Q : St → Hp → Prop), StOk K He0 He σ H0 H ρ → Rp K H0 v d → (∀ ρ' σ', P ρ' → StOk K He0 He σ' H0 H ρ' → Q σ' H) → g v σ H Q
def GvsP (K : PySem.W.Frag) (g : TGs) (ds : List D) (ρ : Rho) (P : Rho → Prop) : Prop :=
  ∀ (He0 He : Hp) (σ : St) (H0 H : Hp) (vs : List V) (Q : St → Hp → Prop), StOk K He0 He σ H0 H ρ → Rps K H0 vs ds → (∀ ρ' σ', P ρ' → StOk K He0 He σ' H0 H ρ' → Q σ' H) → g vs σ H Q
variable {PR : Rho → Prop} {d : D} {ds : List D}
theorem gv_name {i : Nat} (p : PR (ρ.set i (.dat d))) : GvP K (gName i) d ρ PR := fun He0 He σ H0 H v Q S r k => k _ _ p (S.setD i r)
theorem gv_tup {n : Nat} (hn : ds.length = n) (h : GvsP K u ds ρ PR) : GvP K (gTup K n u) (.tup ds) ρ PR := fun He0 He σ H0 H v Q S r k => by
  cases r with
  | tup ha rs => exact ⟨_, _, rfl, .inl (.inl (S.sub _ _ ha)), by rw [rs.length]; exact hn, h He0 He σ H0 H _ Q S rs k⟩
theorem gv_lst {n : Nat} (hn : ds.length = n) (h : GvsP K u ds ρ PR) : GvP K (gLst K n u) (.lst ds) ρ PR := fun He0 He σ H0 H v Q S r k => by
  cases r with
  | lst ha rs => exact ⟨_, _, rfl, .inl (.inl (S.sub _ _ ha)), by rw [rs.length]; exact hn, h He0 He σ H0 H _ Q S rs k⟩
theorem gvs_nil (p : PR ρ) : GvsP K gNil [] ρ PR := fun He0 He σ H0 H v Q S r k => by
  cases r with
  | nil => exact ⟨rfl, k ρ σ p S⟩
theorem gvs_cons (h : GvP K g d ρ fun ρ' => GvsP K u ds ρ' PR) : GvsP K (gCons g u) (d :: ds) ρ PR := fun He0 He σ H0 H v Q S r k => by
  cases r with
  | cons r1 r2 => exact ⟨_, _, rfl, h He0 He σ H0 H _ _ S r1 fun ρ' σ' q S' => q He0 He σ' H0 H _ Q S' r2 k⟩
theorem ws_asg (h : EvP K W te ρ (fun d => GvP K g d ρ E.nx) (fun x => E.ex x ρ)) : WS K W (tAsg te g) ρ E := fun He0 He σ H0 H D S e =>
  h He0 He σ H0 H _ S (e.exs σ ρ) fun v d H1 H1' p S1 e1 r1 => p He0 He σ H1 H1' v _ S1 r1 fun ρ' σ' q S' => e.nx ρ' σ' H1 H1' q S'
/-! ### another ground -/
theorem StOk.base {He0 He H1 : Hp} {σ : St} {H0 H : Hp} (S : StOk K He0 He σ H0 H ρ) (s1 : Same He0 H1) (s0 : Same H1 H0) : StOk K H1 He σ H0 H ρ :=
  ⟨⟨s0, S.e.s, S.e.sub, fun a o n e => S.e.fr a o (s1.free n) e⟩, S.len, S.sl, S.ap⟩
theorem Ext.unbase {He0 He H1 H1' H0 H : Hp} (e1 : Ext He0 He H1 H1') (e : Ext H1 He H0 H) : Ext He0 He H0 H :=
  ⟨e1.s0.trans e.s0, e.s, e.sub, fun a o n q => by
    cases z : H1 a with
    | none => exact e.fr a o z q
    | some u => exact e1.fr a u n z⟩
theorem StOk.unbase {He0 He H1 H1' : Hp} {σ : St} {H0 H : Hp} (e1 : Ext He0 He H1 H1') (S : StOk K H1 He σ H0 H ρ) : StOk K He0 He σ H0 H ρ := ⟨e1.unbase S.e, S.len, S.sl, S.ap⟩
/-- a loop's body over the ground at the loop's entry -/
theorem EndsOk.loop {He0 He H1 H1' : Hp} {D : Ends} {I : Rho → Prop} {N : St → Hp → Prop} (e : EndsOk K He0 He W E D) (e1 : Ext He0 He H1 H1')
    (hN : ∀ ρ σ H0 H, I ρ → StOk K H1 He σ H0 H ρ → N σ H) : EndsOk K H1 He W { nx := I, ct := I, bk := E.nx, rt := E.rt, ex := E.ex } { D with nx := N, ct := N, bk := D.nx } :=
  ⟨hN, fun s v H0 H q x => e.rt s v H0 H q (e1.unbase x), fun ρ σ H0 H q S => e.nx ρ σ H0 H q (S.unbase e1), hN, fun x ρ σ H0 H c o q S => e.ex x ρ σ H0 H c o q (S.unbase e1)⟩
/-! ### loops -/
/-- one turn of a loop with the item x, from the state ρ' to I -/
def Turn1 (K : PySem.W.Frag) (W : WX) (g : TG) (tb : TS) (E : En) (x : D) (ρ' : Rho) (I : Rho → Prop) : Prop := GvP K g x ρ' fun ρ'' => WS K W tb ρ'' { nx := I, ct := I, bk := E.nx, rt := E.rt, ex := E.ex }
theorem ws_for_list {tb : TS} (h : EvP K W tl ρ (fun d => ∃ (ds : List D) (I : Nat → Rho → Prop), d = .lst ds ∧ I 0 ρ ∧ (∀ i x ρ', ds[i]? = some x → I i ρ' → Turn1 K W g tb E x ρ' (I (i + 1))) ∧ ∀ ρ', I ds.length ρ' → E.nx ρ') (fun x => E.ex x ρ)) :
    WS K W (tFor (iList K tl) g tb) ρ E := fun He0 He σ H0 H D S e => by
  refine h He0 He σ H0 H _ S (e.exs σ ρ) fun v d H1 H1' p S1 e1 r1 => ?_
  obtain ⟨ds, I, rfl, i0, turn, fin⟩ := p
  cases r1 with
  | lst ha rs =>
    rename_i a xs
    refine ⟨a, rfl, ⟨xs, .inl (.inl (S1.sub _ _ ha))⟩, ?_⟩
    refine for_list (K := K) (a := a) (xs := xs) (fun i σ H => ∃ ρ' G, I i ρ' ∧ StOk K H1 He σ G H ρ') ⟨ρ, H1, i0, S1.base S1.e.s0 (.refl _)⟩ (fun i σ H _ ⟨ρ', G, _, S'⟩ => .inl (.inl (S'.e.sub _ _ (S'.e.s0 _ _ ha)))) ?_ ?_
    · rintro i x σ' H' hx ⟨ρ', G, hI, S'⟩
      obtain ⟨dx, hdx, rx⟩ := rs.get' hx
      exact turn i dx ρ' hdx hI H1 He σ' G H' x _ S' (rx.mono S'.e.s0) fun ρ'' σ'' w S'' => w H1 He σ'' G H' _ S'' (e.loop S1.e fun ρ3 σ3 G3 H3 q3 S3 => ⟨ρ3, G3, q3, S3⟩)
    · rintro σ' H' ⟨ρ', G, hI, S'⟩
      rw [rs.length] at hI
      exact e.nx ρ' σ' G H' (fin ρ' hI) (S'.unbase S1.e)
theorem ws_for_tup {tb : TS} (h : EvP K W tl ρ (fun d => ∃ (ds : List D) (I : Nat → Rho → Prop), d = .tup ds ∧ I 0 ρ ∧ (∀ i x ρ', ds[i]? = some x → I i ρ' → Turn1 K W g tb E x ρ' (I (i + 1))) ∧ ∀ ρ', I ds.length ρ' → E.nx ρ') (fun x => E.ex x ρ)) :
    WS K W (tFor (iTup K tl) g tb) ρ E := fun He0 He σ H0 H D S e => by
  refine h He0 He σ H0 H _ S (e.exs σ ρ) fun v d H1 H1' p S1 e1 r1 => ?_
  obtain ⟨ds, I, rfl, i0, turn, fin⟩ := p
  cases r1 with
  | tup ha rs =>
    rename_i a xs
    refine ⟨a, rfl, ⟨xs, .inl (.inl (S1.sub _ _ ha))⟩, ?_⟩
    refine for_tup (K := K) (a := a) (xs := xs) (fun i σ H => ∃ ρ' G, I i ρ' ∧ StOk K H1 He σ G H ρ') ⟨ρ, H1, i0, S1.base S1.e.s0 (.refl _)⟩ (fun i σ H _ ⟨ρ', G, _, S'⟩ => .inl (.inl (S'.e.sub _ _ (S'.e.s0 _ _ ha)))) ?_ ?_
    · rintro i x σ' H' hx ⟨ρ', G, hI, S'⟩
      obtain ⟨dx, hdx, rx⟩ := rs.get' hx
      exact turn i dx ρ' hdx hI H1 He σ' G H' x _ S' (rx.mono S'.e.s0) fun ρ'' σ'' w S'' => w H1 He σ'' G H' _ S'' (e.loop S1.e fun ρ3 σ3 G3 H3 q3 S3 => ⟨ρ3, G3, q3, S3⟩)
    · rintro σ' H' ⟨ρ', G, hI, S'⟩
      rw [rs.length] at hI
      exact e.nx ρ' σ' G H' (fin ρ' hI) (S'.unbase S1.e)
theorem ws_range_core {tb : TS} {lo : Int} {n : Nat} {He0 He : Hp} {σ : St} {H1 H1' : Hp} {D : Ends} (S1 : StOk K He0 He σ H1 H1' ρ) (e : EndsOk K He0 He W E D) (I : Nat → Rho → Prop) (i0 : I 0 ρ)
    (turn : ∀ i ρ', i < n → I i ρ' → Turn1 K W g tb E (.int (lo + i)) ρ' (I (i + 1))) (fin : ∀ ρ', I n ρ' → E.nx ρ') :
    ∃ W' : Nat → Nat → St → Hp → Prop, (∃ m, W' 0 m σ H1') ∧ ∀ i m σ H, W' i m σ H →
      ((Itr lo n).stop i H ∧ D.nx σ H) ∨ ((Itr lo n).go i H ∧ ∃ N : St → Hp → Prop, (∀ σ' H', N σ' H' → ∃ m', m' < m ∧ W' (i + 1) m' σ' H') ∧ ∀ x H', (Itr lo n).yld i H x H' → g x σ H' fun σ2 H2 => tb { D with nx := N, ct := N, bk := D.nx } σ2 H2) := by
  refine for_range (lo := lo) (n := n) (fun i σ H => ∃ ρ' G, I i ρ' ∧ StOk K H1 He σ G H ρ') ⟨ρ, H1, i0, S1.base S1.e.s0 (.refl _)⟩ ?_ ?_
  · rintro i σ' H' hx ⟨ρ', G, hI, S'⟩
    exact turn i ρ' hx hI H1 He σ' G H' _ _ S' (.int _) fun ρ'' σ'' w S'' => w H1 He σ'' G H' _ S'' (e.loop S1.e fun ρ3 σ3 G3 H3 q3 S3 => ⟨ρ3, G3, q3, S3⟩)
  · rintro σ' H' ⟨ρ', G, hI, S'⟩
    exact e.nx ρ' σ' G H' (fin ρ' hI) (S'.unbase S1.e)
theorem ws_for_range1 {tb : TS} (h : AvP K W tas ρ (fun ds => ∃ (j : Int) (I : Nat → Rho → Prop), ds = [.int j] ∧ -(2 ^ 62) ≤ j ∧ j < 2 ^ 62 ∧ I 0 ρ ∧ (∀ i ρ', i < j.toNat → I i ρ' → Turn1 K W g tb E (.int (0 + i)) ρ' (I (i + 1))) ∧ ∀ ρ', I j.toNat ρ' → E.nx ρ') (fun x => E.ex x ρ)) :
    WS K W (tFor (iRng1 tas) g tb) ρ E := fun He0 He σ H0 H D S e => by
  refine h He0 He σ H0 H _ S (e.exs σ ρ) fun v d H1 H1' p S1 e1 r1 => ?_
  obtain ⟨j, I, rfl, b1, b2, i0, turn, fin⟩ := p
  cases r1 with
  | cons q1 q2 =>
    cases q1
    cases q2
    exact ⟨j, rfl, b1, b2, ws_range_core S1 e I i0 turn fin⟩
theorem ws_for_range2 {tb : TS} (h : AvP K W tas ρ (fun ds => ∃ (lo j : Int) (I : Nat → Rho → Prop), ds = [.int lo, .int j] ∧ (-(2 ^ 62) ≤ lo ∧ lo < 2 ^ 62 ∧ -(2 ^ 62) ≤ j ∧ j < 2 ^ 62) ∧ I 0 ρ ∧ (∀ i ρ', i < (j - lo).toNat → I i ρ' → Turn1 K W g tb E (.int (lo + i)) ρ' (I (i + 1))) ∧ ∀ ρ', I (j - lo).toNat ρ' → E.nx ρ') (fun x => E.ex x ρ)) :
    WS K W (tFor (iRng2 tas) g tb) ρ E := fun He0 He σ H0 H D S e => by
  refine h He0 He σ H0 H _ S (e.exs σ ρ) fun v d H1 H1' p S1 e1 r1 => ?_
  obtain ⟨lo, j, I, rfl, b1, i0, turn, fin⟩ := p
  cases r1 with
  | cons q1 q2 =>
    cases q1
    cases q2 with
    | cons q3 q4 =>
      cases q3
      cases q4
      exact ⟨lo, j, rfl, b1, ws_range_core S1 e I i0 turn fin⟩
theorem ws_while {tb : TS} (I : Nat → Rho → Prop) (i0 : ∃ m, I m ρ) (turn : ∀ m ρ', I m ρ' → BvP K W tt ρ' (fun b => if b = true then
      WS K W tb ρ' { nx := fun ρ'' => ∃ m', m' < m ∧ I m' ρ'', ct := fun ρ'' => ∃ m', m' < m ∧ I m' ρ'', bk := E.nx, rt := E.rt, ex := E.ex } else E.nx ρ') (fun x => E.ex x ρ')) :
    WS K W (tWhile tt tb) ρ E := fun He0 He σ H0 H D S e => by
  obtain ⟨m0, i0⟩ := i0
  refine ⟨fun m σ H => ∃ ρ' G, I m ρ' ∧ StOk K He0 He σ G H ρ', ⟨m0, ρ, H0, i0, S⟩, ?_⟩
  rintro m σ' H' ⟨ρ', G, hI, S'⟩
  refine turn m ρ' hI He0 He σ' G H' _ S' (e.exs σ' ρ') fun b G1 H1 p S1 e1 => ?_
  cases b with
  | true =>
    rw [if_pos rfl] at p ⊢
    refine ⟨fun σ H => ∃ m' ρ' G, m' < m ∧ I m' ρ' ∧ StOk K He0 He σ G H ρ', fun σ2 H2 ⟨m', ρ2, G2, hm, hI2, S2⟩ => ⟨m', hm, ρ2, G2, hI2, S2⟩, ?_⟩
    refine p He0 He σ' G1 H1 _ S1 ⟨?_, e.rt, e.nx, ?_, e.ex⟩
    · rintro ρ2 σ2 G2 H2 ⟨m', hm, q⟩ S2
      exact ⟨m', ρ2, G2, hm, q, S2⟩
    · rintro ρ2 σ2 G2 H2 ⟨m', hm, q⟩ S2
      exact ⟨m', ρ2, G2, hm, q, S2⟩
  | false =>
    rw [if_neg Bool.false_ne_true] at p ⊢
    exact e.nx ρ' σ' G1 H1 p S1
/-! ### comprehensions -/
def wipeR (ρ : Rho) : List Nat → Rho
  | [] => ρ
  | v :: vs => (wipeR ρ vs).set v .no
theorem StOk.wipe {He0 He : Hp} {σ : St} {H0 H : Hp} (S : StOk K He0 He σ H0 H ρ) : ∀ vs : List Nat, StOk K He0 He (wipe σ vs) H0 H (wipeR ρ vs)
  | [] => S
  | v :: vs => (S.wipe vs).wipe1 v
/-- the target stays within the slots vs -/
def GIn (g : TG) (vs : List Nat) : Prop := ∀ (v : V) (σ : St) (H : Hp) (Q : St → Hp → Prop), g v σ H Q → g v σ H fun σ' H' => L2.wipe σ' vs = L2.wipe σ vs ∧ Q σ' H'
def GsIn (g : TGs) (vs : List Nat) : Prop := ∀ (us : List V) (σ : St) (H : Hp) (Q : St → Hp → Prop), g us σ H Q → g us σ H fun σ' H' => L2.wipe σ' vs = L2.wipe σ vs ∧ Q σ' H'
theorem wipe_none {σ : St} {i : Nat} : ∀ {vs : List Nat}, i ∈ vs → (L2.wipe σ vs).set i none = L2.wipe σ vs
  | [], h => by simp at h
  | v :: vs, h => by
    unfold L2.wipe
    by_cases e : v = i
    · subst e
      rw [List.set_set]
    · have h' : i ∈ vs := by
        rcases List.mem_cons.mp h with z | z
        · exact absurd z.symm e
        · exact z
      rw [List.set_comm _ _ e, wipe_none h']
theorem wipe_set {σ : St} {i : Nat} {x : Option V} : ∀ {vs : List Nat}, i ∈ vs → L2.wipe (σ.set i x) vs = L2.wipe σ vs
  | [], h => by simp at h
  | v :: vs, h => by
    unfold L2.wipe
    by_cases e : i ∈ vs
    · rw [wipe_set e]
    · have e2 : i = v := by
        rcases List.mem_cons.mp h with z | z
        · exact z
        · exact absurd z e
      subst e2
      have go : ∀ (ws : List Nat), i ∉ ws → L2.wipe (σ.set i x) ws = (L2.wipe σ ws).set i x := by
        intro ws
        induction ws with
        | nil => intro _; rfl
        | cons w ws ih =>
          intro hw
          have hw1 : i ≠ w := fun z => hw (by rw [z]; exact List.mem_cons_self)
          unfold L2.wipe
          rw [ih fun z => hw (List.mem_cons_of_mem _ z), List.set_comm _ _ hw1]
      rw [go vs e, List.set_set]
theorem wipe_wipe {σ : St} {vs : List Nat} : L2.wipe (L2.wipe σ vs) vs = L2.wipe σ vs := by
  have go : ∀ ws : List Nat, (∀ i ∈ ws, i ∈ vs) → L2.wipe (L2.wipe σ vs) ws = L2.wipe σ vs := by
    intro ws
    induction ws with
    | nil => intro _; rfl
    | cons w ws ih =>
      intro h
      show (L2.wipe (L2.wipe σ vs) ws).set w none = _
      rw [ih fun i z => h i (List.mem_cons_of_mem _ z), wipe_none (h w List.mem_cons_self)]
  exact go vs fun _ h => h
theorem gin_name {i : Nat} {vs : List Nat} (h : i ∈ vs) : GIn (gName i) vs := fun v σ H Q q => ⟨wipe_set h, q⟩
theorem gin_tup {n : Nat} {vs : List Nat} (h : GsIn u vs) : GIn (gTup K n u) vs := fun v σ H Q ⟨a, xs, h1, h2, h3, h4⟩ => ⟨a, xs, h1, h2, h3, h _ _ _ _ h4⟩
theorem gsin_nil {vs : List Nat} : GsIn gNil vs := fun us σ H Q ⟨h1, h2⟩ => ⟨h1, rfl, h2⟩
/-- a target asks of its end no more than what it says (for the ones met) -/
def GMono (g : TG) : Prop := ∀ (v : V) (σ : St) (H : Hp) (Q Q' : St → Hp → Prop), (∀ σ' H', Q σ' H' → Q' σ' H') → g v σ H Q → g v σ H Q'
def GsMono (g : TGs) : Prop := ∀ (v : List V) (σ : St) (H : Hp) (Q Q' : St → Hp → Prop), (∀ σ' H', Q σ' H' → Q' σ' H') → g v σ H Q → g v σ H Q'
theorem gmono_name {i : Nat} : GMono (gName i) := fun v σ H Q Q' f q => f _ _ q
theorem gmono_nil : GsMono gNil := fun v σ H Q Q' f ⟨h1, h2⟩ => ⟨h1, f _ _ h2⟩
theorem gmono_cons (h1 : GMono g) (h2 : GsMono u) : GsMono (gCons g u) := fun v σ H Q Q' f ⟨x, r, e, q⟩ => ⟨x, r, e, h1 _ _ _ _ _ (fun σ' H' q' => h2 _ _ _ _ _ f q') q⟩
theorem gmono_tup {n : Nat} (h : GsMono u) : GMono (gTup K n u) := fun v σ H Q Q' f ⟨a, xs, h1, h2, h3, h4⟩ => ⟨a, xs, h1, h2, h3, h _ _ _ _ _ f h4⟩
theorem gsin_cons {vs : List Nat} (m : GMono g) (mu : GsMono u) (h1 : GIn g vs) (h2 : GsIn u vs) : GsIn (gCons g u) vs := fun us σ H Q ⟨x, r, e, q⟩ =>
  ⟨x, r, e, m _ _ _ _ _ (fun σ' H' ⟨w1, q'⟩ => mu _ _ _ _ _ (fun σ2 H2 ⟨w2, q2⟩ => ⟨w2.trans w1, q2⟩) (h2 _ _ _ _ q')) (h1 _ _ _ _ q)⟩
abbrev W0 : WX := fun _ _ _ _ => False
abbrev X0 : Exn → Prop := fun _ => False
/-- one turn of a comprehension: the item x, the list so far acc, to J -/
def Turn2 (K : PySem.W.Frag) (g : TG) (tt : TT) (te : TE) (x : D) (ρ' : Rho) (acc : List D) (J : List D → Prop) : Prop :=
  GvP K g x ρ' fun ρ'' => BvP K W0 tt ρ'' (fun b => if b = true then EvP K W0 te ρ'' (fun y => acc.length < sizeLine ∧ J (acc ++ [y])) X0 else J acc) X0
/-- a write at an address that no slot owns -/
theorem StOk.writeO {He0 He : Hp} {σ : St} {H0 H : Hp} {a : Addr} {o : HO} (S : StOk K He0 He σ H0 H ρ) (n0 : H0 a = none) (ne : He a = none) (ap : ∀ (j : Nat) (t : Sl), ρ[j]? = some t → t.isOwn = true → σ[j]? ≠ some (some (.ref a))) :
    StOk K He0 He σ H0 (upd H a o) ρ := by
  refine ⟨⟨S.e.s0, fun b u q => by rw [upd_ne (ne_of_none q ne)]; exact S.e.s _ _ q, fun b u q => by rw [upd_ne (ne_of_none q n0)]; exact S.e.sub _ _ q, S.e.fr⟩, S.len, fun j t hj hn => ?_, S.ap⟩
  obtain ⟨v', g1, g2, g3⟩ := S.sl j t hj hn
  refine ⟨v', g1, ?_, g3⟩
  by_cases hto : t.isOwn = true
  · obtain ⟨b, rfl, nb, ob⟩ := own_of hto g2
    have hba : b ≠ a := fun z => by
      subst z
      exact ap j t hj hto g1
    have ob' : OwnAt K H0 (upd H a o) b t := by
      cases t with
      | no => exact ob
      | ref c => exact ob
      | dat d => exact ob
      | own ds => obtain ⟨xs, q1, q2⟩ := ob; exact ⟨xs, by rw [upd_ne hba]; exact q1, q2⟩
      | oK ks vs => obtain ⟨xs, q1, q2, q3⟩ := ob; exact ⟨xs, by rw [upd_ne hba]; exact q1, q2, q3⟩
      | oT ks vs => obtain ⟨xs, q1, q2, q3⟩ := ob; exact ⟨xs, by rw [upd_ne hba]; exact q1, q2, q3⟩
    cases t with
    | no => cases hto
    | ref c => cases hto
    | dat d => cases hto
    | own ds => exact ⟨b, rfl, nb, ob'⟩
    | oK ks vs => exact ⟨b, rfl, nb, ob'⟩
    | oT ks vs => exact ⟨b, rfl, nb, ob'⟩
  · cases t with
    | no => trivial
    | ref c => exact g2
    | dat d => exact g2
    | own ds => exact absurd rfl hto
    | oK ks vs => exact absurd rfl hto
    | oT ks vs => exact absurd rfl hto
theorem Ext.writeO {H0 H H0' H' : Hp} {a : Addr} {o : HO} (e : Ext H0 H H0' H') (n : H a = Option.none) (n0 : H0' a = Option.none) : Ext H0 H H0' (upd H' a o) :=
  ⟨e.s0, fun b u q => by rw [upd_ne (ne_of_none q n)]; exact e.s _ _ q, fun b u q => by rw [upd_ne (ne_of_none q n0)]; exact e.sub _ _ q, e.fr⟩
/-- what stands between two turns of a comprehension: its list at D -/
structure CompAt (K : PySem.W.Frag) (He0 He : Hp) (σ : St) (ρ : Rho) (Hs0 Hs : Hp) (L : Addr) (acc : List D) (G H : Hp) : Prop where
  S : StOk K He0 He σ G H ρ
  e : Ext Hs0 Hs G H
  at_ : ∃ xs, H L = some (.lst xs) ∧ Rps K G xs acc
  n0 : G L = none
theorem lc_turn {vs : List Nat} {He0 He : Hp} {σ : St} {Hs0 Hs : Hp} {L : Addr} {acc : List D} {J : List D → Prop} {G H : Hp} {x : D} {v : V} (gi : GIn g vs) (nL : Hs L = none) (sHs : Same He Hs)
    (ap : ∀ (j : Nat) (t : Sl), (wipeR ρ vs)[j]? = some t → t.isOwn = true → (L2.wipe σ vs)[j]? ≠ some (some (.ref L)))
    (C : CompAt K He0 He (L2.wipe σ vs) (wipeR ρ vs) Hs0 Hs L acc G H) (rx : Rp K G v x) (t : Turn2 K g tt te x (wipeR ρ vs) acc J) {Nx : Hp → Prop}
    (hN : ∀ acc' G' H', J acc' → CompAt K He0 He (L2.wipe σ vs) (wipeR ρ vs) Hs0 Hs L acc' G' H' → Nx H') :
    g v (L2.wipe σ vs) H fun σ2 H2 => L2.wipe σ2 vs = L2.wipe σ vs ∧ tt σ2 H2 fun b H3 =>
      if b = true then te σ2 H3 fun y H4 => ∃ acc', H4 L = some (.lst acc') ∧ acc'.length < sizeLine ∧ Nx (upd H4 L (.lst (acc' ++ [y]))) else Nx H3 := by
  have q1 := gi v (L2.wipe σ vs) H _ (t He0 He (L2.wipe σ vs) G H v (fun σ2 H2 => tt σ2 H2 fun b H3 =>
      if b = true then te σ2 H3 fun y H4 => ∃ acc', H4 L = some (.lst acc') ∧ acc'.length < sizeLine ∧ Nx (upd H4 L (.lst (acc' ++ [y]))) else Nx H3) C.S rx fun ρ2 σ2 bv S2 => ?_)
  · rw [wipe_wipe] at q1
    exact q1
  · refine bv He0 He σ2 G H _ S2 (fun _ _ _ _ _ z => z.elim) fun b G3 H3 p3 S3 e3 => ?_
    obtain ⟨xs, hL, rs⟩ := C.at_
    cases b with
    | false =>
      rw [if_neg Bool.false_ne_true] at p3 ⊢
      exact hN acc G3 H3 p3 ⟨C.S.ext e3, C.e.trans e3, ⟨xs, e3.s _ _ hL, rs.mono e3.s0⟩, e3.none C.n0 hL⟩
    | true =>
      rw [if_pos rfl] at p3 ⊢
      refine p3 He0 He σ2 G3 H3 _ S3 (fun _ _ _ _ _ z => z.elim) fun y dy G4 H4 p4 S4 e4 r4 => ?_
      have e34 := e3.trans e4
      have hL4 := e34.s _ _ hL
      have n4 := e34.none C.n0 hL
      refine ⟨xs, hL4, by rw [rs.length]; exact p4.1, hN (acc ++ [dy]) G4 _ p4.2 ⟨?_, ?_, ?_, n4⟩⟩
      · exact (C.S.ext e34).writeO n4 (sHs.free nL) ap
      · exact (C.e.trans e34).writeO nL n4
      · exact ⟨xs ++ [y], upd_same, (rs.mono e34.s0).append (.one r4)⟩
/-- the list at its end becomes still -/
theorem CompAt.fin {vs : List Nat} {He0 He : Hp} {σ : St} {Hs0 Hs : Hp} {L : Addr} {acc : List D} {G H : Hp} (S : StOk K He0 He σ Hs0 Hs ρ) (nL : Hs L = none)
    (C : CompAt K He0 He (L2.wipe σ vs) (wipeR ρ vs) Hs0 Hs L acc G H) : ∃ G', StOk K He0 He σ G' H ρ ∧ Ext Hs0 Hs G' H ∧ Rp K G' (.ref L) (.lst acc) := by
  obtain ⟨xs, hL, rs⟩ := C.at_
  have s1 : Same G (upd G L (.lst xs)) := fun b o e => by rw [upd_ne (ne_of_none e C.n0)]; exact e
  have e1 : Ext Hs0 Hs (upd G L (.lst xs)) H := ⟨C.e.s0.trans s1, C.e.s, fun b o q => by
    by_cases hb : b = L
    · subst hb; rw [upd_same] at q; cases q; exact hL
    · rw [upd_ne hb] at q; exact C.e.sub _ _ q, fun b o n q => by
    by_cases hb : b = L
    · subst hb; exact .inl nL
    · rw [upd_ne hb] at q; exact C.e.fr b o n q⟩
  exact ⟨_, S.ext e1, e1, .lst upd_same (rs.mono s1)⟩
theorem CompAt.finO {vs : List Nat} {He0 He : Hp} {σ : St} {Hs0 Hs : Hp} {L : Addr} {acc : List D} {G H : Hp} (S : StOk K He0 He σ Hs0 Hs ρ) (nL : Hs L = none)
    (C : CompAt K He0 He (L2.wipe σ vs) (wipeR ρ vs) Hs0 Hs L acc G H) : StOk K He0 He σ G H ρ ∧ Ext Hs0 Hs G H ∧ RpS K G H (.ref L) (.own acc) := by
  obtain ⟨xs, hL, rs⟩ := C.at_
  exact ⟨S.ext C.e, C.e, L, rfl, C.n0, xs, hL, rs⟩
theorem CompAt.start {vs : List Nat} {He0 He : Hp} {σ : St} {Hs0 Hs : Hp} {L : Addr} (S : StOk K He0 He σ Hs0 Hs ρ) (nL : Hs L = none) :
    CompAt K He0 He (L2.wipe σ vs) (wipeR ρ vs) Hs0 Hs L [] Hs0 (upd Hs L (.lst [])) ∧ ∀ (j : Nat) (t : Sl), (wipeR ρ vs)[j]? = some t → t.isOwn = true → (L2.wipe σ vs)[j]? ≠ some (some (.ref L)) := by
  have S' := S.wipe vs
  have e : Ext Hs0 Hs Hs0 (upd Hs L (.lst [])) := .own S.sub nL
  refine ⟨⟨S'.ext e, e, ⟨[], upd_same, .nil⟩, S.sub.free nL⟩, fun j t hj ht q => ?_⟩
  obtain ⟨v', g1, g2, g3⟩ := S'.sl j t hj (by intro z; rw [z] at ht; cases ht)
  obtain ⟨b, rfl, nb, ob⟩ := own_of ht g2
  rw [g1] at q
  cases q
  obtain ⟨u, hu, _⟩ := ob.there
  rw [nL] at hu
  cases hu
/-- the end of a comprehension's reading, as still data or as one's own -/
def LcEnd (K : PySem.W.Frag) (He0 He : Hp) (σ : St) (ρ : Rho) (Hs0 Hs : Hp) (P : Sl → Prop) (Q : VK) : Prop :=
  ∀ v s H0' H', P s → StOk K He0 He σ H0' H' ρ → Ext Hs0 Hs H0' H' → RpS K H0' H' v s → NewAt Hs v s → Q v H'
theorem lc_range_core {vs : List Nat} {lo : Int} {n : Nat} {He0 He : Hp} {σ : St} {H1 H1' : Hp} {Q : VK} (gi : GIn g vs) (S1 : StOk K He0 He σ H1 H1' ρ) (J : Nat → List D → Prop) (j0 : J 0 [])
    (turn : ∀ i acc, i < n → J i acc → Turn2 K g tt te (.int (lo + i)) (wipeR ρ vs) acc (J (i + 1))) (fin : ∀ acc, J n acc → PS (.own acc)) (k : LcEnd K He0 He σ ρ H1 H1' PS Q) :
    ∀ L, H1' L = none → ∃ W' : Nat → Nat → Hp → Prop, (∃ m, W' 0 m (upd H1' L (.lst []))) ∧ ∀ i m H, W' i m H →
      ((Itr lo n).stop i H ∧ Q (.ref L) H) ∨ ((Itr lo n).go i H ∧ ∃ Nx : Hp → Prop, (∀ H', Nx H' → ∃ m', m' < m ∧ W' (i + 1) m' H') ∧ ∀ x H', (Itr lo n).yld i H x H' → g x (L2.wipe σ vs) H' fun σ2 H2 => L2.wipe σ2 vs = L2.wipe σ vs ∧ tt σ2 H2 fun b H3 =>
        if b = true then te σ2 H3 fun y H4 => ∃ acc, H4 L = some (.lst acc) ∧ acc.length < sizeLine ∧ Nx (upd H4 L (.lst (acc ++ [y]))) else Nx H3) := fun L nL => by
  obtain ⟨c0, ap⟩ := CompAt.start (vs := vs) S1 nL
  refine lc_range (Qd := fun H => Q (.ref L) H) (fun i H => ∃ acc G, J i acc ∧ CompAt K He0 He (L2.wipe σ vs) (wipeR ρ vs) H1 H1' L acc G H) ⟨[], H1, j0, c0⟩ ?_ ?_
  · rintro i H hi ⟨acc, G, hj, C⟩
    exact lc_turn gi nL S1.e.s ap C (.int _) (turn i acc hi hj) fun acc' G' H' j' C' => ⟨acc', G', j', C'⟩
  · rintro H ⟨acc, G, hj, C⟩
    obtain ⟨f1, f2, f3⟩ := C.finO S1 nL
    exact k _ _ G H (fin acc hj) f1 f2 f3 fun _ a e => by cases e; exact nL
theorem lc_list_core {vs : List Nat} {He0 He : Hp} {σ : St} {H1 H1' : Hp} {Q : VK} {a : Addr} {xs : List V} {ds : List D} (gi : GIn g vs) (S1 : StOk K He0 He σ H1 H1' ρ) (ha : H1 a = some (.lst xs)) (rs : Rps K H1 xs ds) (J : Nat → List D → Prop) (j0 : J 0 [])
    (turn : ∀ i x acc, ds[i]? = some x → J i acc → Turn2 K g tt te x (wipeR ρ vs) acc (J (i + 1))) (fin : ∀ acc, J ds.length acc → PS (.own acc)) (k : LcEnd K He0 He σ ρ H1 H1' PS Q) :
    ∀ L, H1' L = none → ∃ W' : Nat → Nat → Hp → Prop, (∃ m, W' 0 m (upd H1' L (.lst []))) ∧ ∀ i m H, W' i m H →
      ((Itl K a).stop i H ∧ Q (.ref L) H) ∨ ((Itl K a).go i H ∧ ∃ Nx : Hp → Prop, (∀ H', Nx H' → ∃ m', m' < m ∧ W' (i + 1) m' H') ∧ ∀ x H', (Itl K a).yld i H x H' → g x (L2.wipe σ vs) H' fun σ2 H2 => L2.wipe σ2 vs = L2.wipe σ vs ∧ tt σ2 H2 fun b H3 =>
        if b = true then te σ2 H3 fun y H4 => ∃ acc, H4 L = some (.lst acc) ∧ acc.length < sizeLine ∧ Nx (upd H4 L (.lst (acc ++ [y]))) else Nx H3) := fun L nL => by
  obtain ⟨c0, ap⟩ := CompAt.start (vs := vs) S1 nL
  refine lc_list (K := K) (a := a) (xs := xs) (Qd := fun H => Q (.ref L) H) (fun i H => ∃ acc G, J i acc ∧ CompAt K He0 He (L2.wipe σ vs) (wipeR ρ vs) H1 H1' L acc G H) ⟨[], H1, j0, c0⟩ (fun i H _ ⟨acc, G, _, C⟩ => .inl (.inl (C.e.sub _ _ (C.e.s0 _ _ ha)))) ?_ ?_
  · rintro i x H hx ⟨acc, G, hj, C⟩
    obtain ⟨dx, hdx, rx⟩ := rs.get' hx
    exact lc_turn gi nL S1.e.s ap C (rx.mono C.e.s0) (turn i dx acc hdx hj) fun acc' G' H' j' C' => ⟨acc', G', j', C'⟩
  · rintro H ⟨acc, G, hj, C⟩
    rw [rs.length] at hj
    obtain ⟨f1, f2, f3⟩ := C.finO S1 nL
    exact k _ _ G H (fin acc hj) f1 f2 f3 fun _ a e => by cases e; exact nL
theorem lc_tup_core {vs : List Nat} {He0 He : Hp} {σ : St} {H1 H1' : Hp} {Q : VK} {a : Addr} {xs : List V} {ds : List D} (gi : GIn g vs) (S1 : StOk K He0 He σ H1 H1' ρ) (ha : H1 a = some (.tup xs)) (rs : Rps K H1 xs ds) (J : Nat → List D → Prop) (j0 : J 0 [])
    (turn : ∀ i x acc, ds[i]? = some x → J i acc → Turn2 K g tt te x (wipeR ρ vs) acc (J (i + 1))) (fin : ∀ acc, J ds.length acc → PS (.own acc)) (k : LcEnd K He0 He σ ρ H1 H1' PS Q) :
    ∀ L, H1' L = none → ∃ W' : Nat → Nat → Hp → Prop, (∃ m, W' 0 m (upd H1' L (.lst []))) ∧ ∀ i m H, W' i m H →
      ((Itt K a).stop i H ∧ Q (.ref L) H) ∨ ((Itt K a).go i H ∧ ∃ Nx : Hp → Prop, (∀ H', Nx H' → ∃ m', m' < m ∧ W' (i + 1) m' H') ∧ ∀ x H', (Itt K a).yld i H x H' → g x (L2.wipe σ vs) H' fun σ2 H2 => L2.wipe σ2 vs = L2.wipe σ vs ∧ tt σ2 H2 fun b H3 =>
        if b = true then te σ2 H3 fun y H4 => ∃ acc, H4 L = some (.lst acc) ∧ acc.length < sizeLine ∧ Nx (upd H4 L (.lst (acc ++ [y]))) else Nx H3) := fun L nL => by
  obtain ⟨c0, ap⟩ := CompAt.start (vs := vs) S1 nL
  refine lc_tup (K := K) (a := a) (xs := xs) (Qd := fun H => Q (.ref L) H) (fun i H => ∃ acc G, J i acc ∧ CompAt K He0 He (L2.wipe σ vs) (wipeR ρ vs) H1 H1' L acc G H) ⟨[], H1, j0, c0⟩ (fun i H _ ⟨acc, G, _, C⟩ => .inl (.inl (C.e.sub _ _ (C.e.s0 _ _ ha)))) ?_ ?_
  · rintro i x H hx ⟨acc, G, hj, C⟩
    obtain ⟨dx, hdx, rx⟩ := rs.get' hx
    exact lc_turn gi nL S1.e.s ap C (rx.mono C.e.s0) (turn i dx acc hdx hj) fun acc' G' H' j' C' => ⟨acc', G', j', C'⟩
  · rintro H ⟨acc, G, hj, C⟩
    rw [rs.length] at hj
    obtain ⟨f1, f2, f3⟩ := C.finO S1 nL
    exact k _ _ G H (fin acc hj) f1 f2 f3 fun _ a e => by cases e; exact nL
theorem eo_lc_list {vs : List Nat} (gi : GIn g vs) (h : EvP K W tl ρ (fun d => ∃ (ds : List D) (J : Nat → List D → Prop), d = .lst ds ∧ J 0 [] ∧ (∀ i x acc, ds[i]? = some x → J i acc → Turn2 K g tt te x (wipeR ρ vs) acc (J (i + 1))) ∧ ∀ acc, J ds.length acc → PS (.own acc)) X) :
    EvO K W (tLc (iList K tl) g tt te vs) ρ PS X := fun He0 He σ H0 H Q S x k => by
  refine h He0 He σ H0 H _ S x fun v d H1 H1' p S1 e1 r1 => ?_
  obtain ⟨ds, J, rfl, j0, turn, fin⟩ := p
  cases r1 with
  | lst ha rs => exact ⟨_, rfl, ⟨_, .inl (.inl (S1.sub _ _ ha))⟩, lc_list_core gi S1 ha rs J j0 turn fin fun v s G H p S' e r n => k v s G H p S' (e1.trans e) r (n.mono e1.s)⟩
theorem eo_lc_tup {vs : List Nat} (gi : GIn g vs) (h : EvP K W tl ρ (fun d => ∃ (ds : List D) (J : Nat → List D → Prop), d = .tup ds ∧ J 0 [] ∧ (∀ i x acc, ds[i]? = some x → J i acc → Turn2 K g tt te x (wipeR ρ vs) acc (J (i + 1))) ∧ ∀ acc, J ds.length acc → PS (.own acc)) X) :
    EvO K W (tLc (iTup K tl) g tt te vs) ρ PS X := fun He0 He σ H0 H Q S x k => by
  refine h He0 He σ H0 H _ S x fun v d H1 H1' p S1 e1 r1 => ?_
  obtain ⟨ds, J, rfl, j0, turn, fin⟩ := p
  cases r1 with
  | tup ha rs => exact ⟨_, rfl, ⟨_, .inl (.inl (S1.sub _ _ ha))⟩, lc_tup_core gi S1 ha rs J j0 turn fin fun v s G H p S' e r n => k v s G H p S' (e1.trans e) r (n.mono e1.s)⟩
theorem eo_lc_range1 {vs : List Nat} (gi : GIn g vs) (h : AvP K W tas ρ (fun ds => ∃ (j : Int) (J : Nat → List D → Prop), ds = [.int j] ∧ -(2 ^ 62) ≤ j ∧ j < 2 ^ 62 ∧ J 0 [] ∧ (∀ i acc, i < j.toNat → J i acc → Turn2 K g tt te (.int (0 + i)) (wipeR ρ vs) acc (J (i + 1))) ∧ ∀ acc, J j.toNat acc → PS (.own acc)) X) :
    EvO K W (tLc (iRng1 tas) g tt te vs) ρ PS X := fun He0 He σ H0 H Q S x k => by
  refine h He0 He σ H0 H _ S x fun v d H1 H1' p S1 e1 r1 => ?_
  obtain ⟨j, J, rfl, b1, b2, j0, turn, fin⟩ := p
  cases r1 with
  | cons q1 q2 =>
    cases q1
    cases q2
    exact ⟨j, rfl, b1, b2, lc_range_core gi S1 J j0 turn fin fun v s G H p S' e r n => k v s G H p S' (e1.trans e) r (n.mono e1.s)⟩
theorem eo_lc_range2 {vs : List Nat} (gi : GIn g vs) (h : AvP K W tas ρ (fun ds => ∃ (lo j : Int) (J : Nat → List D → Prop), ds = [.int lo, .int j] ∧ (-(2 ^ 62) ≤ lo ∧ lo < 2 ^ 62 ∧ -(2 ^ 62) ≤ j ∧ j < 2 ^ 62) ∧ J 0 [] ∧ (∀ i acc, i < (j - lo).toNat → J i acc → Turn2 K g tt te (.int (lo + i)) (wipeR ρ vs) acc (J (i + 1))) ∧ ∀ acc, J (j - lo).toNat acc → PS (.own acc)) X) :
    EvO K W (tLc (iRng2 tas) g tt te vs) ρ PS X := fun He0 He σ H0 H Q S x k => by
  refine h He0 He σ H0 H _ S x fun v d H1 H1' p S1 e1 r1 => ?_
  obtain ⟨lo, j, J, rfl, b, j0, turn, fin⟩ := p
  cases r1 with
  | cons q1 q2 =>
    cases q1
    cases q2 with
    | cons q3 q4 =>
      cases q3
      cases q4
      exact ⟨lo, j, rfl, b, lc_range_core gi S1 J j0 turn fin fun v s G H p S' e r n => k v s G H p S' (e1.trans e) r (n.mono e1.s)⟩
theorem Ext.still {H0 H H0' H' : Hp} {a : Addr} {o : HO} (e : Ext H0 H H0' H') (n : H a = Option.none) (h : H' a = some o) : Ext H0 H (upd H0' a o) H' := by
  have n0 : H0' a = Option.none ∨ H0' a = some o := by
    cases q : H0' a with
    | none => exact .inl rfl
    | some u => right; rw [← h]; exact (e.sub _ _ q).symm
  refine ⟨fun b u q => ?_, e.s, fun b u q => ?_, fun b u n' q => ?_⟩
  · by_cases hb : b = a
    · subst hb
      have z := e.s0 _ _ q
      rcases n0 with n0 | n0
      · rw [n0] at z; cases z
      · rw [upd_same, ← z, n0]
    · rw [upd_ne hb]; exact e.s0 _ _ q
  · by_cases hb : b = a
    · subst hb; rw [upd_same] at q; cases q; exact h
    · rw [upd_ne hb] at q; exact e.sub _ _ q
  · by_cases hb : b = a
    · subst hb; exact .inl n
    · rw [upd_ne hb] at q; exact e.fr b u n' q
theorem still_up {H0 H H0' H' : Hp} {v : V} {s : Sl} (e : Ext H0 H H0' H') (r : RpS K H0' H' v s) (n : NewAt H v s) (hn : s.ok = true) : ∃ G, Ext H0 H G H' ∧ Rp K G v s.still := by
  by_cases ho : s.isOwn = true
  · obtain ⟨a, rfl, n0, oa⟩ := own_of ho r
    obtain ⟨u, hu, mk⟩ := still_of (v := .ref a) oa
    have s1 : Same H0' (upd H0' a u) := fun b o q => by rw [upd_ne (ne_of_none q n0)]; exact q
    exact ⟨_, e.still (n ho a rfl) hu, mk _ s1 upd_same⟩
  · cases s with
    | no => cases hn
    | ref c => cases hn
    | dat d => exact ⟨H0', e, r⟩
    | own ds => exact absurd rfl ho
    | oK ks vs => exact absurd rfl ho
    | oT ks vs => exact absurd rfl ho
theorem EvO.still (h : EvO K W te ρ (fun s : Sl => s.ok = true ∧ P s.still) X) : EvP K W te ρ P X := fun He0 He σ H0 H Q S x k => by
  refine h He0 He σ H0 H Q S x fun v s H0' H' p S' e r n => ?_
  obtain ⟨G, e', r'⟩ := still_up e r n p.1
  exact k v _ G H' p.2 (S.ext e') e' r'
theorem EvO.own (h : EvO K W te ρ (fun s : Sl => ∃ ds, s = .own ds ∧ P (.lst ds)) X) : EvP K W te ρ P X := EvO.still fun He0 He σ H0 H Q S x k =>
  h He0 He σ H0 H Q S x fun v s H0' H' ⟨ds, e, p⟩ => k v s H0' H' (by subst e; exact ⟨rfl, p⟩)
/-! ### promises -/
def spD (K : PySem.W.Frag) (pre : List D → Prop) (post : List D → Sl → Prop) (exn : List D → Exn → Prop) : Sp := fun vs H Q E => ∃ (ds : List D) (H0 : Hp), Same H0 H ∧ Rps K H0 vs ds ∧ pre ds ∧
  (∀ v s H0' H', post ds s → Ext H0 H H0' H' → RpS K H0' H' v s → NewAt H v s → Q v H') ∧ ∀ x cls od H0' H', exn ds x → Ext H0 H H0' H' → ExnRep K H0' H' x cls od → E cls od H'
variable {pre : List D → Prop} {post : List D → Sl → Prop} {exn : List D → Exn → Prop}
theorem eo_call (h : AvP K W tas ρ (fun ds => pre ds ∧ (∀ s, post ds s → PS s) ∧ ∀ x, exn ds x → X x) X) : EvO K W (tCallS (spD K pre post exn) (WE W) tas) ρ PS X := fun He0 He σ H0 H Q S x k => by
  refine h He0 He σ H0 H _ S x fun vs ds H1 H1' p S1 e1 r1 => ⟨ds, H1, S1.sub, r1, p.1, ?_, ?_⟩
  · intro v s H2 H2' q e2 r2 n2
    exact k v s H2 H2' (p.2.1 s q) (S1.ext e2) (e1.trans e2) r2 (n2.mono e1.s)
  · intro y cls od H2 H2' q e2 r2
    exact x y cls od H2 H2' (p.2.2 y q) (S1.ext e2) r2
theorem ev_call (h : AvP K W tas ρ (fun ds => pre ds ∧ (∀ s, post ds s → s.ok = true ∧ P s.still) ∧ ∀ x, exn ds x → X x) X) : EvP K W (tCallS (spD K pre post exn) (WE W) tas) ρ P X := (eo_call h).still
/-- a def's entry -/
def startR (n : Nat) (ds : List D) : Rho := ds.map Sl.dat ++ List.replicate (n - ds.length) .no
theorem start_ok {N : List Str} {H0 H : Hp} {vs : List V} {ds : List D} (s : Same H0 H) (r : Rps K H0 vs ds) : StOk K H0 H (L2.start N vs) H0 H (startR N.length ds) := by
  have hl := r.length
  refine ⟨.refl s, ?_, fun i t h hn => ?_, fun i j t u a hij hi hj ht hu e => ?_⟩
  · unfold L2.start startR
    rw [List.length_append, List.length_append, List.length_map, List.length_map, List.length_replicate, List.length_replicate, hl]
  · unfold startR at h
    by_cases hi : i < ds.length
    · rw [List.getElem?_append_left (by rw [List.length_map]; exact hi), List.getElem?_map] at h
      cases q : ds[i]? with
      | none => rw [q] at h; cases h
      | some d =>
        rw [q] at h
        cases h
        obtain ⟨v, h1, h2⟩ := r.get q
        refine ⟨v, ?_, h2, fun z => by cases z⟩
        unfold L2.start
        rw [List.getElem?_append_left (by rw [List.length_map, hl]; exact hi), List.getElem?_map, h1] <;> rfl
    · rw [List.getElem?_append_right (by rw [List.length_map]; omega)] at h
      have := List.mem_of_getElem? h
      rw [List.mem_replicate] at this
      exact absurd this.2 hn
  · unfold startR at hi
    have := List.mem_of_getElem? hi
    rcases List.mem_append.mp this with z | z
    · obtain ⟨d, _, rfl⟩ := List.mem_map.mp z
      cases ht
    · rw [List.mem_replicate] at z
      rw [z.2] at ht
      cases ht
abbrev WD (E : XK) : WX := fun cls d _ H => E cls d H
/-- THE RULE for a def -/
theorem fn_ws {P : Program} {w : World} {mg : Str → Option Value} {base : Heap} {x qual : Str} {st : Stmt} {f : Addr} {fd : FuncData} {N ps : List Str} {k : Nat} (F : Fun K x qual st f fd) (S : FnScope N ps (defScope st)) (len : ∀ ds, pre ds → ds.length = ps.length)
    (hbody : ∀ (cdv : Value) (A : Around) (outer : List PySem.Env) (s : Shared) (H : Hp) (E : XK), Room k (A.deeper (PyProof.Rows.envOfC qual (defScope st) s.heap.objs.size f cdv)) →
      ∃ t, PSs (cxOf (L2.CX P w) P w K mg base N qual (defScope st) f cdv A outer s H E) (defBody st) t ∧
        ∀ ds, pre ds → WS K (WD E) t (startR N.length ds) { nx := fun _ => post ds (.dat .non), rt := post ds, ex := fun x _ => exn ds x }) :
    FnOk P w K mg base (L2.CX P w) (k + 1) f fd ps (spD K pre post exn) := by
  refine F.okX S (fun vs H Q E h => ?_) (fun cdv A outer s H vs Q E hr h => ?_)
  · obtain ⟨ds, H0, _, r, p, _⟩ := h
    rw [r.length]
    exact len ds p
  · obtain ⟨ds, H0, sub, r, p, kq, ke⟩ := h
    obtain ⟨t, h1, h2⟩ := hbody cdv A outer s H E hr
    refine ⟨t, h1, h2 ds p H0 H (L2.start N vs) H0 H _ (start_ok sub r) ⟨fun ρ σ G H' q S' => kq .non (.dat .non) G H' q S'.e .non (fun z => by cases z), fun s' v G H' q e' r' n' => kq v s' G H' q e' r' n', fun _ _ _ _ z => z.elim, fun _ _ _ _ z => z.elim, fun x ρ σ G H' c o q S' r' => ke x c o G H' q S'.e r'⟩⟩
/-! ### raise, try -/
theorem ws_raise0 {C : Addr} (h : E.ex ⟨C, none⟩ ρ) : WS K W (fun _ σ H => (fun (_ : St) (H : Hp) (Q : XK) => Q (.ref C) none H) σ H fun cls d H' => W cls d σ H') ρ E := fun He0 He σ H0 H D S e =>
  e.ex ⟨C, none⟩ ρ σ H0 H (.ref C) none h S ⟨rfl, fun _ => rfl, fun f d z => by cases z⟩
theorem ws_try_only {c : Value} {tb : WX → TS} {tsu : Addr → Value → Option Addr → TS} (h : ∀ W', WS K W' (tb W') ρ { E with ex := fun x ρ' => ∃ b, PySem.W.exmOne K (.ref x.C) c = some b ∧ (b = true → ∀ a od, WS K W0 (tsu a (.ref x.C) od) ρ' { nx := E.nx, rt := E.rt, bk := E.bk, ct := E.ct }) ∧ (b = false → E.ex x ρ') }) :
    WS K W (fun D σ H => tb (wOnly K c tsu W D) D σ H) ρ E := fun He0 He σ H0 H D S e => by
  refine h (wOnly K c tsu W D) He0 He σ H0 H D S ⟨e.nx, e.rt, e.bk, e.ct, ?_⟩
  rintro x ρ' σ' H1 H1' cls od ⟨b, hb, yes, no⟩ S' r
  obtain ⟨rfl, r2, r3⟩ := r
  exact ⟨b, hb, fun bt a na => yes bt a od He0 He σ' H1 H1' D S' ⟨e.nx, e.rt, e.bk, e.ct, fun _ _ _ _ _ _ _ z => z.elim⟩, fun bf => e.ex x ρ' σ' H1 H1' _ od (no bf) S' ⟨rfl, r2, r3⟩⟩
end
end DL

set_option maxRecDepth 100000
set_option maxHeartbeats 1000000
namespace PyProof.Rows
open PySem
section
variable {prog : Program} {w : World} {A : Around} {E : Value → Shared → Prop} {s : Shared}
theorem collect_tupleDL {l : Addr} {vs : List Value} {Q : List Value → Shared → Prop} (hl : s.heap.IsTuple l vs.toArray)
    (h : Q vs { s with heap := (s.heap.push (seqObj "list" #[] 0)).update s.heap.objs.size (Obj.mapSeq (· ++ vs.toArray)) }) (hsz : vs.length ≤ sizeLine := by size_fits) :
    wpAny (model prog w) A (collect (.ref l)) Q E s := by
  obtain ⟨o, ho, hc, n, hd⟩ := id hl
  unfold collect
  refine wpAny_bind (wpAny_runValue (codeAny_builtin entry_proto_collect' ?_))
  show wpAny _ _ (do again (.builtin "list.__iadd__" ⟨[← newList [], .ref l], []⟩)) _ _ s
  refine wpAny_bind (wpAny_newList (wpAny_pure ⟨Code.quiet_builtin _ (by decide +kernel), codeAny_builtin entry_list_iadd' ?_⟩))
  show wpAny _ _ (Builtin.List.listExtendWith (.ref s.heap.objs.size) (.ref l) (.ref s.heap.objs.size)) _ _ { s with heap := s.heap.push (seqObj "list" #[] 0) }
  unfold Builtin.List.listExtendWith
  have ho' : (s.heap.push (seqObj "list" #[] 0)).get? l = some o := Heap.get?_push_of_some _ ho
  refine wpAny_bind (wpAny_typeOf (T := "tuple") ⟨o, ho', hc⟩ ?_)
  have ht : (Value.type "tuple" == Value.type "tuple") = true := by rfl
  rw [if_pos (by rw [ht]; simp)]
  refine wpAny_bind (listItems_at ho' hd ?_)
  refine wpAny_bind (listItems_at (xs := #[]) (n := 0) (Heap.get?_push_size _ rfl) rfl ?_)
  rw [if_neg (by simp)]
  refine wpAny_bind (listUpdate_at (xs := #[]) (n := 0) (Heap.get?_push_size _ rfl) rfl ?_ (Nat.zero_le _) (by show (#[] ++ vs.toArray).size ≤ sizeLine + 1; simp only [Array.size_append, List.size_toArray, List.length_nil]; omega))
  refine wpAny_pure ?_
  show wpAny (model prog w) A (do
      let o ← load s.heap.objs.size
      match o.data with
      | .seq xs _ => pure xs.toList
      | _ => unsupported "internal:collect") Q E { s with heap := (s.heap.push (seqObj "list" #[] 0)).update s.heap.objs.size (Obj.mapSeq (· ++ vs.toArray)) }
  refine wpAny_bind (wpAny_load (get?_update_seq (Heap.get?_push_size _ rfl) _) ?_)
  show wpAny _ _ (pure ((#[] : Array Value) ++ vs.toArray).toList) Q E _
  rw [show ((#[] : Array Value) ++ vs.toArray).toList = vs by simp]
  exact wpAny_pure h
end
end PyProof.Rows
namespace SrtO
open PySem PyProof.Rows
section
variable {prog : Program} {w : World} {A : Around} {E : Value → Shared → Prop} {s : Shared}
theorem sorted_ordT {l : Addr} {vs : List Value} {ltv : Value → Value → Bool} {Q : Value → Shared → Prop} (O : Swo ltv) (hl : s.heap.IsTuple l vs.toArray) (hz : vs.length ≤ sizeLine)
    (hS : 2 ≤ vs.length → ∀ (h₁ : Heap) (a : Addr), h₁.get? a = some (seqObj "list" vs.toArray 0) → (∀ b o, s.heap.get? b = some o → b ≠ a ∧ h₁.get? b = some o) → SortableO prog w A.in1.in1 { s with heap := h₁ } a vs ltv)
    (h : ∀ out : List Value, Srtd ltv out → Stb ltv out vs → Q (.ref (s.heap.objs.size + 1)) { s with heap := sortedAll s.heap vs out.toArray }) :
    wpAny (model prog w) A (call (.builtin "sorted") [.ref l]) Q E s := by
  refine Calls.call_function_entry kind_sorted plain_sorted entry_sorted (args_sorted1 _) ?_
  unfold Builtin.«sorted»
  refine wpAny_bind (m := checkCount "sorted" 1 1 _) (wpAny_pure ?_)
  refine wpAny_bind (collect_tupleDL hl ?_ hz)
  refine wpAny_bind (wpAny_newList ?_ hz)
  have hsz : ((s.heap.push (seqObj "list" #[] 0)).update s.heap.objs.size (Obj.mapSeq (· ++ vs.toArray))).objs.size = s.heap.objs.size + 1 := by
    rw [Heap.size_update, size_push']
  have hoL : (((s.heap.push (seqObj "list" #[] 0)).update s.heap.objs.size (Obj.mapSeq (· ++ vs.toArray))).push (seqObj "list" vs.toArray 0)).get? (s.heap.objs.size + 1) = some (seqObj "list" vs.toArray 0) := by
    rw [← hsz]; exact Heap.get?_push_size _ rfl
  have keep : ∀ b o, s.heap.get? b = some o → b ≠ s.heap.objs.size + 1 ∧ (((s.heap.push (seqObj "list" #[] 0)).update s.heap.objs.size (Obj.mapSeq (· ++ vs.toArray))).push (seqObj "list" vs.toArray 0)).get? b = some o := fun b o q => by
    have hlt : b < s.heap.objs.size := Heap.lt_size q
    refine ⟨Nat.ne_of_lt (Nat.lt_succ_of_lt hlt), Heap.get?_push_of_some _ ?_⟩
    rw [Heap.get?_update_ne _ _ _ _ (Nat.ne_of_lt hlt)]
    exact Heap.get?_push_of_some _ q
  show wpAny _ _ _ _ _ { s with heap := ((s.heap.push (seqObj "list" #[] 0)).update s.heap.objs.size (Obj.mapSeq (· ++ vs.toArray))).push (seqObj "list" vs.toArray 0) }
  rw [hsz]
  refine wpAny_bind (wpAny_holding (wpAny_call_entry slot_list_sort ⟨_, hoL, rfl⟩ entry_list_sort (list_sort_ord O hoL hz (fun h2 => hS h2 _ _ hoL keep) fun out hs hb => ⟨_, rfl, ?_⟩) (args_list_sort _)))
  exact wpAny_pure ⟨_, rfl, h out hs hb⟩
end
end SrtO
namespace DL
open PySem PySem.Spec L2
/-- sorted of a tuple of ints -/
def rSortedTI (K : PySem.W.Frag) : List V → Hp → VK → Prop := fun vs H Q => ∃ (a : Addr) (ns : List Int), vs = [V.ref a] ∧ SqT K H a (ns.map V.int) ∧
  ∀ (ns' : List Int) (p : Addr), ns'.Perm ns → ns'.Pairwise (· ≤ ·) → H p = none → Q (.ref p) (upd H p (.lst (ns'.map V.int)))
section
variable {X : Cx}
theorem cr_sortedTI : CallR X (.builtin "sorted") (rSortedTI X.K) := by
  intro pins s σ H vs us Q I r h
  obtain ⟨a, ns, rfl, hs, q⟩ := h
  obtain ⟨its, rv, hl, hz⟩ := I.tuple hs
  rw [Vals.ref1 r]
  have hi := rv.ints
  refine SrtO.sorted_ordT SrtO.swo_int (show s.heap.IsTuple a its.toArray from hl) (by rw [← rv.length]; exact hz) (fun h2 h₁ a' _ _ => SrtO.ints_sortable hi h2) fun out h1 h2 => ?_
  obtain ⟨k1, k2, k3⟩ := SrtO.ints_out hi h1 h2
  obtain ⟨ep, he'⟩ := PyProof.Rows.sortedAll_at s.heap its out.toArray
  have hlen : ((out.map SrtO.iv).map V.int).length ≤ sizeLine := by
    rw [List.length_map, k2.length_eq]
    rw [List.length_map] at hz
    exact hz
  exact ⟨.ref _, upd H (s.heap.objs.size + 1) (.lst ((out.map SrtO.iv).map V.int)), I.laid (t' := s.toks) (fun _ _ => PyProof.Rows.sortedAll_old) (Nat.le_succ _) ⟨hlen, out, ep, vals_of_ints k1, he'⟩, rfl, q _ _ k2 k3 (I.hok.fresh (Nat.le_succ _))⟩
/-! ### rules of several kinds in one -/
theorem SqT.ofH {K : PySem.W.Frag} {H : Hp} {a : Addr} {xs : List V} (h : H a = some (.tup xs)) : SqT K H a xs := .inl (.inl h)
abbrev rAddS : R2 := fun x y H Q => ∃ i j, x = .str i ∧ y = .str j ∧ i.length + j.length ≤ sizeLine ∧ Q (.str (i ++ j)) H
def rAdd (K : PySem.W.Frag) : R2 := fun x y H Q => (((rI0 fun i j => .int (i + j)) x y H Q ∨ rAddS x y H Q) ∨ rCat x y H Q) ∨ rCatT K x y H Q
theorem op_addA : OpR X (binaryOp .Add) (rAdd X.K) := ((op_add.or op_add_str).or op_cat).or op_catT
def rMulA : R2 := fun x y H Q => ((rI CMul fun i j => .int (i * j)) x y H Q ∨ (rI CMulW fun i j => .int (i * j)) x y H Q) ∨ rRep x y H Q
theorem op_mulA : OpR X (binaryOp .Mult) rMulA := (op_mul.or op_mulW).or op_rep
def rDivA : R2 := fun x y H Q => (rI CDiv fun i j => .int (i / j)) x y H Q ∨ (rI CDivW fun i j => .int (i / j)) x y H Q
theorem op_divA : OpR X (binaryOp .FloorDiv) rDivA := op_fdiv.or op_fdivW
def rEqA (K : PySem.W.Frag) : R2 := fun x y H Q => rEq x y H Q ∨ rEqD K x y H Q
def rNeA (K : PySem.W.Frag) : R2 := fun x y H Q => rNe x y H Q ∨ rNeD K x y H Q
theorem op_eqA (hu : X.A.units + 64 < cLine) : OpR X (compareOp .Eq) (rEqA X.K) := op_eq.or (op_eqD hu)
theorem op_neA (hu : X.A.units + 64 < cLine) : OpR X (compareOp .NotEq) (rNeA X.K) := op_ne.or (op_neD hu)
def rSortedA (K : PySem.W.Frag) : List V → Hp → VK → Prop := fun vs H Q => rSortedI K vs H Q ∨ rSortedTI K vs H Q
theorem cr_sortedA : CallR X (.builtin "sorted") (rSortedA X.K) := cr_sortedI.or cr_sortedTI
theorem pe_globI {x : Str} {n : Int} {pos : Pos} (hg : Gl X x) (hm : ∃ t, X.mg x = some (.int n t)) (hd : (x == ("__debug__" : Str)) = false := by decide) : PE X (.Name x pos) (tC (.int n)) := by
  obtain ⟨t, h⟩ := hm
  exact pe_glob hg h ⟨_, rfl⟩ hd
theorem pe_globS {x : Str} {n : Str} {pos : Pos} (hg : Gl X x) (hm : ∃ t, X.mg x = some (.str n t)) (hd : (x == ("__debug__" : Str)) = false := by decide) : PE X (.Name x pos) (tC (.str n)) := by
  obtain ⟨t, h⟩ := hm
  exact pe_glob hg h ⟨_, rfl⟩ hd
end
section
variable {K : PySem.W.Frag} {P : D → Prop} {r r' : R2}
/-! ### .. by data -/
theorem od_addI {i j : Int} (p : P (.int (i + j))) : OpD K (rAdd K) (.int i) (.int j) P := fun H0 H v u Q s a b k => .inl (.inl (.inl (od_int0 (K := K) (g := fun i j => i + j) p H0 H v u Q s a b k)))
theorem od_addS {i j : Str} (hz : i.length + j.length ≤ sizeLine) (p : P (.str (i ++ j))) : OpD K (rAdd K) (.str i) (.str j) P := fun H0 H v u Q s a b k => by
  cases a; cases b
  exact .inl (.inl (.inr ⟨i, j, rfl, rfl, hz, k _ _ H0 H p (.refl s) (.str _)⟩))
theorem od_addL {i j : List D} (hz : i.length + j.length ≤ sizeLine) (p : P (.lst (i ++ j))) : OpD K (rAdd K) (.lst i) (.lst j) P := fun H0 H v u Q s a b k => by
  cases a with
  | lst ha ra =>
    cases b with
    | lst hb rb =>
      refine .inl (.inr ⟨_, _, _, _, rfl, rfl, s _ _ ha, s _ _ hb, by rw [ra.length, rb.length]; exact hz, fun q nq => ?_⟩)
      refine k _ _ _ _ p (.new s nq) (.lst upd_same ((ra.mono (Ext.new s nq).s0).append (rb.mono (Ext.new s nq).s0)))
theorem od_subI {i j : Int} (p : P (.int (i - j))) : OpD K (rI0 fun i j => .int (i - j)) (.int i) (.int j) P := od_int0 (g := fun i j => i - j) p
theorem od_mulI {i j : Int} (c : CMul i j ∨ CMulW i j) (p : P (.int (i * j))) : OpD K rMulA (.int i) (.int j) P := fun H0 H v u Q s a b k => by
  rcases c with c | c
  · exact .inl (.inl (od_intC (K := K) (g := fun i j => i * j) c p H0 H v u Q s a b k))
  · exact .inl (.inr (od_intC (K := K) (g := fun i j => i * j) c p H0 H v u Q s a b k))
theorem od_mulL {j : Int} {i : List D} (c : 0 ≤ j ∧ j < 2 ^ 63 ∧ i.length * j.toNat ≤ sizeLine) (p : P (.lst (List.replicate j.toNat i).flatten)) : OpD K rMulA (.lst i) (.int j) P := fun H0 H v u Q s a b k => by
  cases a with
  | lst ha ra =>
    cases b
    refine .inr ⟨_, _, _, rfl, rfl, s _ _ ha, by omega, c.2.1, by rw [ra.length]; exact c.2.2, fun q nq => ?_⟩
    have rep : ∀ (n : Nat) (xs : List V) (G : Hp), Rps K G xs i → Rps K G (List.replicate n xs).flatten (List.replicate n i).flatten := fun n xs G hx => by
      induction n with
      | zero => exact .nil
      | succ n ih => rw [List.replicate_succ, List.replicate_succ, List.flatten_cons, List.flatten_cons]; exact hx.append ih
    exact k _ _ _ _ p (.new s nq) (.lst upd_same (rep _ _ _ (ra.mono (Ext.new s nq).s0)))
theorem od_divI {i j : Int} (h0 : 0 < j) (c : j < 1073741824 ∨ j.natAbs.log2 < 9000) (p : P (.int (i / j))) : OpD K rDivA (.int i) (.int j) P := fun H0 H v u Q s a b k => by
  rcases c with c | c
  · exact .inl (od_intC (K := K) (C := CDiv) (g := fun i j => i / j) ⟨h0, c⟩ p H0 H v u Q s a b k)
  · exact .inr (od_intC (K := K) (C := CDivW) (g := fun i j => i / j) ⟨h0, c⟩ p H0 H v u Q s a b k)
theorem od_modI {i j : Int} (h0 : 0 < j) (p : P (.int (i % j))) : OpD K (rI (fun _ j => 0 < j) fun i j => .int (i % j)) (.int i) (.int j) P := od_intC (C := fun _ j => 0 < j) (g := fun i j => i % j) h0 p
theorem od_powI {i j : Int} (c : 0 ≤ j ∧ j ≤ 1000000 ∧ i.natAbs < 2 ^ 64) (p : P (.int (i ^ j.toNat))) : OpD K (rI CPow fun i j => .int (i ^ j.toNat)) (.int i) (.int j) P := od_intC (C := CPow) (g := fun i j => i ^ j.toNat) c p
theorem od_xorI {i j : Int} (p : P (.int (Builtin.bitXor i j))) : OpD K (rI0 fun i j => .int (Builtin.bitXor i j)) (.int i) (.int j) P := od_int0 (g := fun i j => Builtin.bitXor i j) p
/-! ### == of data -/
mutual
def D.py : D → PyData
  | .non => .none | .bl b => .bool b | .int i => .int i | .str x => .str x | .lst l => .list (D.pys l) | .tup l => .tuple (D.pys l) | .dK _ _ => .none | .dT _ _ => .none | .src _ => .none | .fK _ _ => .none | .fT _ _ => .none
def D.pys : List D → List PyData
  | [] => []
  | d :: l => D.py d :: D.pys l
end
/-- data of depth below n, without dicts -/
def Shp : Nat → D → Prop
  | _, .non | _, .bl _ | _, .int _ => True
  | _, .str x => PyData.strOk x = true
  | n + 1, .lst l | n + 1, .tup l => ∀ d ∈ l, Shp n d
  | _, _ => False
mutual
theorem Rp.dp {H : Hp} : ∀ {d : D} {v : V} {n : Nat}, Shp n d → Rp K H v d → Dp K H v d.py
  | .non, _, _, _, .non => .non
  | .bl _, _, _, _, .bl b => .bl b
  | .int _, _, _, _, .int i => .int i
  | .str _, _, _, _, .str i => .str i
  | .lst _, _, n + 1, h, .lst ha rs => .lst (.inl (.inl ha)) (Rps.dp (n := n) h rs)
  | .lst _, _, 0, h, _ => h.elim
  | .tup _, _, n + 1, h, .tup ha rs => .tup (.inl (.inl ha)) (Rps.dp (n := n) h rs)
  | .tup _, _, 0, h, _ => h.elim
  | .dK _ _, _, 0, h, _ => h.elim
  | .dK _ _, _, n + 1, h, _ => h.elim
  | .dT _ _, _, 0, h, _ => h.elim
  | .dT _ _, _, n + 1, h, _ => h.elim
  | .src _, _, 0, h, _ => h.elim
  | .src _, _, n + 1, h, _ => h.elim
  | .fK _ _, _, 0, h, _ => h.elim
  | .fK _ _, _, n + 1, h, _ => h.elim
  | .fT _ _, _, 0, h, _ => h.elim
  | .fT _ _, _, n + 1, h, _ => h.elim
theorem Rps.dp {H : Hp} : ∀ {ds : List D} {vs : List V} {n : Nat}, (∀ d ∈ ds, Shp n d) → Rps K H vs ds → DpAll K H vs (D.pys ds)
  | [], _, _, _, .nil => .nil
  | d :: ds, _, n, h, .cons r t => .cons (Rp.dp (h d List.mem_cons_self) r) (Rps.dp (fun x hx => h x (List.mem_cons_of_mem _ hx)) t)
end
mutual
theorem Shp.lay : ∀ {d : D} {n : Nat}, Shp n d → d.py.canLay0 = true ∧ d.py.depth ≤ n
  | .non, n, _ => ⟨rfl, Nat.zero_le _⟩
  | .bl _, n, _ => ⟨rfl, Nat.zero_le _⟩
  | .int _, n, _ => ⟨rfl, Nat.zero_le _⟩
  | .str x, n, h => ⟨by simp only [D.py, PyData.canLay0]; cases n <;> (unfold Shp at h; exact h), Nat.zero_le _⟩
  | .lst l, n + 1, h => by
    obtain ⟨h1, h2⟩ := Shp.lays (n := n) (ds := l) h
    exact ⟨by simp only [D.py, PyData.canLay0]; exact h1, by simp only [D.py, PyData.depth]; omega⟩
  | .tup l, n + 1, h => by
    obtain ⟨h1, h2⟩ := Shp.lays (n := n) (ds := l) h
    exact ⟨by simp only [D.py, PyData.canLay0]; exact h1, by simp only [D.py, PyData.depth]; omega⟩
  | .lst _, 0, h => h.elim
  | .tup _, 0, h => h.elim
  | .dK _ _, 0, h => h.elim
  | .dK _ _, n + 1, h => h.elim
  | .dT _ _, 0, h => h.elim
  | .dT _ _, n + 1, h => h.elim
  | .src _, 0, h => h.elim
  | .src _, n + 1, h => h.elim
  | .fK _ _, 0, h => h.elim
  | .fK _ _, n + 1, h => h.elim
  | .fT _ _, 0, h => h.elim
  | .fT _ _, n + 1, h => h.elim
theorem Shp.lays : ∀ {ds : List D} {n : Nat}, (∀ d ∈ ds, Shp n d) → PyData.canLayAll0 (D.pys ds) = true ∧ PyData.depthAll (D.pys ds) ≤ n
  | [], n, _ => ⟨rfl, Nat.zero_le _⟩
  | d :: ds, n, h => by
    obtain ⟨a1, a2⟩ := Shp.lay (h d List.mem_cons_self)
    obtain ⟨b1, b2⟩ := Shp.lays (ds := ds) (n := n) (fun x hx => h x (List.mem_cons_of_mem _ hx))
    refine ⟨by simp only [D.pys, PyData.canLayAll0, a1, b1, Bool.and_self], ?_⟩
    simp only [D.pys, PyData.depthAll]
    omega
end
theorem Shp.shaped {d : D} {n : Nat} (h : Shp n d) (hn : n ≤ 64 := by decide) : SeqAt.shaped d.py = true := by
  obtain ⟨h1, h2⟩ := h.lay
  unfold SeqAt.shaped
  rw [h1, Bool.true_and]
  exact decide_eq_true (by omega)
/-- as Python's ==, where no bool meets an int -/
def D.eqb (d e : D) : Bool := PyData.eqv d.py e.py
theorem od_eqD {d e : D} {n m : Nat} (h1 : Shp n d) (h2 : Shp m e) (p : P (.bl (D.eqb d e))) (hn : n ≤ 64 := by decide) (hm : m ≤ 64 := by decide) : OpD K (rEqA K) d e P := fun H0 H v u Q s a b k =>
  .inr ⟨d.py, e.py, (a.mono s).dp h1, (b.mono s).dp h2, h1.shaped hn, h2.shaped hm, k _ _ H0 H p (.refl s) (.bl _)⟩
theorem od_neD {d e : D} {n m : Nat} (h1 : Shp n d) (h2 : Shp m e) (p : P (.bl (!D.eqb d e))) (hn : n ≤ 64 := by decide) (hm : m ≤ 64 := by decide) : OpD K (rNeA K) d e P := fun H0 H v u Q s a b k =>
  .inr ⟨d.py, e.py, (a.mono s).dp h1, (b.mono s).dp h2, h1.shaped hn, h2.shaped hm, k _ _ H0 H p (.refl s) (.bl _)⟩
theorem od_eqAI {i j : Int} (p : P (.bl (decide (i = j)))) : OpD K (rEqA K) (.int i) (.int j) P := fun H0 H v u Q s a b k => .inl (od_eqI (K := K) p H0 H v u Q s a b k)
theorem od_neAI {i j : Int} (p : P (.bl (decide (i ≠ j)))) : OpD K (rNeA K) (.int i) (.int j) P := fun H0 H v u Q s a b k => .inl (od_neI (K := K) p H0 H v u Q s a b k)
theorem od_eqAS {i j : Str} (p : P (.bl (decide (i = j)))) : OpD K (rEqA K) (.str i) (.str j) P := fun H0 H v u Q s a b k => .inl (od_eqS (K := K) p H0 H v u Q s a b k)
theorem od_neAS {i j : Str} (p : P (.bl (decide (i ≠ j)))) : OpD K (rNeA K) (.str i) (.str j) P := fun H0 H v u Q s a b k => .inl (od_neS (K := K) p H0 H v u Q s a b k)
theorem od_eqAB {i j : Bool} (p : P (.bl (decide (i = j)))) : OpD K (rEqA K) (.bl i) (.bl j) P := fun H0 H v u Q s a b k => .inl (od_eqB (K := K) p H0 H v u Q s a b k)
theorem od_neAB {i j : Bool} (p : P (.bl (decide (i ≠ j)))) : OpD K (rNeA K) (.bl i) (.bl j) P := fun H0 H v u Q s a b k => .inl (od_neB (K := K) p H0 H v u Q s a b k)
mutual
theorem eqv_self : ∀ {d : D} {n : Nat}, Shp n d → PyData.eqv d.py d.py = true
  | .non, _, _ => rfl
  | .bl b, _, _ => by simp [D.py, PyData.eqv]
  | .int i, _, _ => by simp [D.py, PyData.eqv]
  | .str x, _, _ => by simp [D.py, PyData.eqv]
  | .lst l, n + 1, h => by simp only [D.py, PyData.eqv]; exact eqvs_self (n := n) h
  | .tup l, n + 1, h => by simp only [D.py, PyData.eqv]; exact eqvs_self (n := n) h
  | .lst _, 0, h => h.elim
  | .tup _, 0, h => h.elim
  | .dK _ _, 0, h => h.elim
  | .dK _ _, n + 1, h => h.elim
  | .dT _ _, 0, h => h.elim
  | .dT _ _, n + 1, h => h.elim
  | .src _, 0, h => h.elim
  | .src _, n + 1, h => h.elim
  | .fK _ _, 0, h => h.elim
  | .fK _ _, n + 1, h => h.elim
  | .fT _ _, 0, h => h.elim
  | .fT _ _, n + 1, h => h.elim
theorem eqvs_self : ∀ {ds : List D} {n : Nat}, (∀ d ∈ ds, Shp n d) → PyData.eqvAll (D.pys ds) (D.pys ds) = true
  | [], _, _ => rfl
  | d :: ds, n, h => by
    simp only [D.pys, PyData.eqvAll, eqv_self (h d List.mem_cons_self), eqvs_self (ds := ds) (n := n) (fun x hx => h x (List.mem_cons_of_mem _ hx)), Bool.and_self]
end
theorem D.eqb_self {d : D} {n : Nat} (h : Shp n d) : D.eqb d d = true := eqv_self h
/-! ### built-ins -/
theorem cd_abs {i : Int} (p : P (.int (if i < 0 then -i else i))) : CbD K (fun xs H Q => ∃ i, xs = [.int i] ∧ Q (.int (if i < 0 then -i else i)) H) [.int i] P := fun H0 H vs Q s r k => by
  cases r with
  | cons r1 r2 => cases r1; cases r2; exact ⟨i, rfl, k _ _ H0 H p (.refl s) (.int _)⟩
theorem cd_max2 {i j : Int} (p : P (.int (if j > i then j else i))) : CbD K (fun xs H Q => ∃ i j, xs = [.int i, .int j] ∧ Q (.int (if j > i then j else i)) H) [.int i, .int j] P := fun H0 H vs Q s r k => by
  cases r with
  | cons r1 r2 =>
    cases r1
    cases r2 with
    | cons r3 r4 => cases r3; cases r4; exact ⟨i, j, rfl, k _ _ H0 H p (.refl s) (.int _)⟩
theorem cd_min2 {i j : Int} (p : P (.int (if j < i then j else i))) : CbD K (fun xs H Q => ∃ i j, xs = [.int i, .int j] ∧ Q (.int (if j < i then j else i)) H) [.int i, .int j] P := fun H0 H vs Q s r k => by
  cases r with
  | cons r1 r2 =>
    cases r1
    cases r2 with
    | cons r3 r4 => cases r3; cases r4; exact ⟨i, j, rfl, k _ _ H0 H p (.refl s) (.int _)⟩
abbrev rInt1 : List V → Hp → VK → Prop := fun xs H Q => (∃ i, xs = [.int i] ∧ Q (.int i) H) ∨ ∃ k, xs = [.bl k] ∧ Q (.int (if k then 1 else 0)) H
theorem cd_int {i : Int} (p : P (.int i)) : CbD K rInt1 [.int i] P := fun H0 H vs Q s r k => by
  cases r with
  | cons r1 r2 => cases r1; cases r2; exact .inl ⟨i, rfl, k _ _ H0 H p (.refl s) (.int _)⟩
theorem cd_intB {i : Bool} (p : P (.int (if i then 1 else 0))) : CbD K rInt1 [.bl i] P := fun H0 H vs Q s r k => by
  cases r with
  | cons r1 r2 => cases r1; cases r2; exact .inr ⟨i, rfl, k _ _ H0 H p (.refl s) (.int _)⟩
abbrev rLen (K : PySem.W.Frag) : List V → Hp → VK → Prop := fun xs H Q => ∃ x n, xs = [x] ∧ LenV K x H n ∧ Q (.int n) H
theorem cd_lenL {l : List D} (p : P (.int l.length)) : CbD K (rLen K) [.lst l] P := fun H0 H vs Q s r k => by
  cases r with
  | cons r1 r2 =>
    cases r2
    cases r1 with
    | lst ha rs => exact ⟨_, l.length, rfl, .inl ⟨_, .inl (.inl (s _ _ ha)), rs.length.symm⟩, k _ _ H0 H p (.refl s) (.int _)⟩
theorem cd_lenT {l : List D} (p : P (.int l.length)) : CbD K (rLen K) [.tup l] P := fun H0 H vs Q s r k => by
  cases r with
  | cons r1 r2 =>
    cases r2
    cases r1 with
    | tup ha rs => exact ⟨_, l.length, rfl, .inr ⟨_, .inl (.inl (s _ _ ha)), rs.length.symm⟩, k _ _ H0 H p (.refl s) (.int _)⟩
theorem cd_lenS {l : Str} (h : l.length ≤ sizeLine) (p : P (.int l.length)) : CbD K (rLen K) [.str l] P := fun H0 H vs Q s r k => by
  cases r with
  | cons r1 r2 =>
    cases r2
    cases r1
    exact ⟨_, l.length, rfl, ⟨h, rfl⟩, k _ _ H0 H p (.refl s) (.int _)⟩
theorem cd_sortedT {l : List Int} (p : ∀ l' : List Int, l'.Perm l → l'.Pairwise (· ≤ ·) → P (.lst (l'.map D.int))) : CbD K (rSortedA K) [.tup (l.map D.int)] P := fun H0 H vs Q s r k => by
  cases r with
  | cons r1 r2 =>
    cases r2
    cases r1 with
    | tup ha rs =>
      have e := rs.ints
      subst e
      refine .inr ⟨_, l, rfl, .inl (.inl (s _ _ ha)), fun l' q pm pw nq => ?_⟩
      have e : Ext H0 H (upd H0 q (.lst (l'.map V.int))) (upd H q (.lst (l'.map V.int))) := .new s nq
      exact k _ _ _ _ (p l' pm pw) e (.lst upd_same (.of_ints _))
theorem cd_sortedL {l : List Int} (p : ∀ l' : List Int, l'.Perm l → l'.Pairwise (· ≤ ·) → P (.lst (l'.map D.int))) : CbD K (rSortedA K) [.lst (l.map D.int)] P := fun H0 H vs Q s r k => by
  cases r with
  | cons r1 r2 =>
    cases r2
    cases r1 with
    | lst ha rs =>
      have e := rs.ints
      subst e
      refine .inl ⟨_, l, rfl, .inl (.inl (s _ _ ha)), fun l' q pm pw nq => ?_⟩
      have e : Ext H0 H (upd H0 q (.lst (l'.map V.int))) (upd H q (.lst (l'.map V.int))) := .new s nq
      exact k _ _ _ _ (p l' pm pw) e (.lst upd_same (.of_ints _))
abbrev rTupleOf (K : PySem.W.Frag) : List V → Hp → VK → Prop := fun xs H Q => ∃ p ys, xs = [.ref p] ∧ ((SqL K H p ys ∧ ∀ l, H l = none → Q (.ref l) (upd H l (.tup ys))) ∨ (SqT K H p ys ∧ Q (.ref p) H))
theorem cd_tupleL {l : List D} (p : P (.tup l)) : CbD K (rTupleOf K) [.lst l] P := fun H0 H vs Q s r k => by
  cases r with
  | cons r1 r2 =>
    cases r2
    cases r1 with
    | lst ha rs =>
      refine ⟨_, _, rfl, .inl ⟨.inl (.inl (s _ _ ha)), fun q nq => ?_⟩⟩
      exact k _ _ _ _ p (.new s nq) (.tup upd_same (rs.mono (Ext.new s nq).s0))
theorem cd_tupleT {l : List D} (p : P (.tup l)) : CbD K (rTupleOf K) [.tup l] P := fun H0 H vs Q s r k => by
  cases r with
  | cons r1 r2 =>
    cases r2
    cases r1 with
    | tup ha rs => exact ⟨_, _, rfl, .inr ⟨.inl (.inl (s _ _ ha)), k _ _ H0 H p (.refl s) (.tup ha rs)⟩⟩
theorem cd_all {l : List Bool} (p : P (.bl (l.all id))) : CbD K (rAll K) [.lst (l.map D.bl)] P := fun H0 H vs Q s r k => by
  cases r with
  | cons r1 r2 =>
    cases r2
    cases r1 with
    | lst ha rs =>
      have e := rs.bls
      subst e
      exact ⟨_, l, rfl, .inl (.inl (s _ _ ha)), k _ _ H0 H p (.refl s) (.bl _)⟩
theorem cd_any {l : List Bool} (p : P (.bl (l.any id))) : CbD K (rAny K) [.lst (l.map D.bl)] P := fun H0 H vs Q s r k => by
  cases r with
  | cons r1 r2 =>
    cases r2
    cases r1 with
    | lst ha rs =>
      have e := rs.bls
      subst e
      exact ⟨_, l, rfl, .inl (.inl (s _ _ ha)), k _ _ H0 H p (.refl s) (.bl _)⟩
theorem cd_sum {l : List Int} (p : P (.int l.sum)) : CbD K (rSum K) [.lst (l.map D.int)] P := fun H0 H vs Q s r k => by
  cases r with
  | cons r1 r2 =>
    cases r2
    cases r1 with
    | lst ha rs =>
      have e := rs.ints
      subst e
      exact ⟨_, l, rfl, .inl (.inl (s _ _ ha)), k _ _ H0 H p (.refl s) (.int _)⟩
/-! ### subscripts -/
theorem od_ixL {l : List D} {i : Int} {d : D} (h : atI l i = some d) (p : P d) : OpD K (rIx K) (.lst l) (.int i) P := fun H0 H v u Q s a b k => by
  cases b
  cases a with
  | lst ha rs =>
    rename_i a xs
    obtain ⟨j, h1, h2, _, _, _⟩ := atI_get h
    obtain ⟨x, h3, h4⟩ := rs.get h2
    refine .inl ⟨a, xs, i, x, rfl, rfl, .inl (.inl (s _ _ ha)), ?_, k _ _ H0 H p (.refl s) h4⟩
    unfold atI at h ⊢
    rw [rs.length]
    cases e : ixN l.length i with
    | none => rw [e] at h; cases h
    | some j' =>
      rw [e] at h
      have h' : l[j']? = some d := h
      have hj : j' = j := by
        have := ixN_seq e
        rw [h1] at this
        exact (Option.some.inj this.1).symm
      subst hj
      exact h3
theorem od_ixT {l : List D} {i : Int} {d : D} (h : atI l i = some d) (p : P d) : OpD K (rIx K) (.tup l) (.int i) P := fun H0 H v u Q s a b k => by
  cases b
  cases a with
  | tup ha rs =>
    rename_i a xs
    obtain ⟨j, h1, h2, _, _, _⟩ := atI_get h
    obtain ⟨x, h3, h4⟩ := rs.get h2
    refine .inr (.inl ⟨a, xs, i, x, rfl, rfl, .inl (.inl (s _ _ ha)), ?_, k _ _ H0 H p (.refl s) h4⟩)
    unfold atI at h ⊢
    rw [rs.length]
    cases e : ixN l.length i with
    | none => rw [e] at h; cases h
    | some j' =>
      rw [e] at h
      have h' : l[j']? = some d := h
      have hj : j' = j := by
        have := ixN_seq e
        rw [h1] at this
        exact (Option.some.inj this.1).symm
      subst hj
      exact h3
theorem od_ixS {l : Str} {i : Int} {c : Nat} (hz : l.length ≤ sizeLine) (h : atI l.cps.toList i = some c) (p : P (.str ⟨#[c]⟩)) : OpD K (rIx K) (.str l) (.int i) P := fun H0 H v u Q s a b k => by
  cases b
  cases a
  exact .inr (.inr ⟨l, i, c, rfl, rfl, hz, h, k _ _ H0 H p (.refl s) (.str _)⟩)
end
end DL

set_option maxRecDepth 100000
set_option maxHeartbeats 1000000
namespace DL
open PySem PySem.Spec L2
abbrev rAbs : List V → Hp → VK → Prop := fun xs H Q => ∃ i, xs = [.int i] ∧ Q (.int (if i < 0 then -i else i)) H
abbrev rMax2 : List V → Hp → VK → Prop := fun xs H Q => ∃ i j, xs = [.int i, .int j] ∧ Q (.int (if j > i then j else i)) H
abbrev rMin2 : List V → Hp → VK → Prop := fun xs H Q => ∃ i j, xs = [.int i, .int j] ∧ Q (.int (if j < i then j else i)) H
abbrev rIsN : R2 := fun x y H Q => y = .non ∧ Q (.bl (decide (x = .non))) H
abbrev rNotN : R2 := fun x y H Q => y = .non ∧ Q (.bl (!decide (x = .non))) H
def tTru (K : PySem.W.Frag) (ta : TE) : TT := fun σ H Q => ta σ H fun x H' => ∃ k, TruV K x H' k ∧ Q k H'
def tRaise0 (C : Addr) (W : WX) : TS := fun _ σ H => (fun (_ : St) (H : Hp) (Q : XK) => Q (.ref C) none H) σ H fun cls d H' => W cls d σ H'
def tTryOnly (K : PySem.W.Frag) (c : Value) (W : WX) (tb : WX → TS) (ts : Addr → Value → Option Addr → TS) : TS := fun D σ H => tb (wOnly K c ts W D) D σ H
def tTryAs (K : PySem.W.Frag) (i : Nat) (c : Value) (W : WX) (tb : WX → TS) (ts : Addr → Value → Option Addr → TS) : TS := fun D σ H => tb (wAs K c i ts W D) D σ H
/-- isinstance(e, c), e what the suite holds -/
def rIsX (K : PySem.W.Frag) (cls : Value) (od : Option Addr) (a : Addr) : List V → Hp → VK → Prop := fun xs H Q => ∃ D, cls = .ref D ∧ od = none ∧ ExcC K D ∧ rIsE K D a xs H Q
def tIsX (K : PySem.W.Frag) (cls : Value) (od : Option Addr) (a : Addr) (i : Nat) (tc : TE) : TE := tCB (rIsX K cls od a) (tCons (tVar i) (tCons tc tNil))
theorem call_isX {X : Cx} {a : Addr} {cls : Value} {od : Option Addr} {oe : Obj} {pn : List (Addr × Obj)} (hz : Zc cls od oe) (hf : ∃ vs, oe.data = .fields vs) : CallR (X.suite a ((a, oe) :: pn)) (.builtin "isinstance") (rIsX X.K cls od a) := by
  intro pins s σ H xs us Q I r h
  obtain ⟨D, rfl, rfl, C, h⟩ := h
  exact call_isE C hz hf pins s σ H xs us Q I r h
def rIAdd (K : PySem.W.Frag) : R2 := fun x y H Q => (rI0 fun i j => .int (i + j)) x y H Q ∨ rAddS x y H Q
theorem iop_addA {X : Cx} : OpR X (inplaceOp .Add) (rIAdd X.K) := iop_add.or iop_add_str
theorem iop_divA {X : Cx} : OpR X (inplaceOp .FloorDiv) rDivA := by
  intro pins s σ H x y v u Q I rx ry q
  rcases q with q | q
  · exact iop_fdiv pins s σ H x y v u Q I rx ry q
  · obtain ⟨i, j, rfl, rfl, hc, q⟩ := q
    obtain ⟨t, rfl⟩ := rx
    obtain ⟨t', rfl⟩ := ry
    have h1 : (0 : Int) < j := hc.1
    exact PyProof.Rows.ifloordiv_int (by omega) (by rw [Int.fdiv_eq_ediv_of_nonneg i (by omega)]; exact ⟨.int _, H, I.tok _, ⟨_, rfl⟩, q⟩) (.inl (PyProof.noPylong_of_log2 hc.2))
def rIMulA : R2 := fun x y H Q => (rI CMul fun i j => .int (i * j)) x y H Q ∨ (rI CMulW fun i j => .int (i * j)) x y H Q
theorem iop_mulA {X : Cx} : OpR X (inplaceOp .Mult) rIMulA := by
  refine iop_mul.or ?_
  exact opI fun _ _ _ _ _ _ _ hc q => PyProof.Rows.imul_int q hc.ok
section
variable {K : PySem.W.Frag} {W : WX} {te ta tb tc tl : TE} {tt tu : TT} {ts tr : TS} {tas : TA} {to : TO} {ρ : Rho} {P : D → Prop} {PB : Bool → Prop} {PS : Sl → Prop} {PA : List D → Prop} {X : Exn → Prop} {E : En} {r r' : R2} {g : TG} {u : TGs}
theorem ws_raise {C : Addr} (h : E.ex ⟨C, none⟩ ρ) : WS K W (tRaise0 C W) ρ E := ws_raise0 h
theorem ws_try_only' {c : Value} {tb : WX → TS} {tsu : Addr → Value → Option Addr → TS} (h : ∀ W', WS K W' (tb W') ρ { E with ex := fun x ρ' => ∃ b, PySem.W.exmOne K (.ref x.C) c = some b ∧ (b = true → ∀ a od, WS K W0 (tsu a (.ref x.C) od) ρ' { nx := E.nx, rt := E.rt, bk := E.bk, ct := E.ct }) ∧ (b = false → E.ex x ρ') }) :
    WS K W (tTryOnly K c W tb tsu) ρ E := ws_try_only h
theorem ws_try_as {i : Nat} {c : Value} {tb : WX → TS} {tsu : Addr → Value → Option Addr → TS} (h : ∀ W', WS K W' (tb W') ρ { E with ex := fun x ρ' => ∃ b, PySem.W.exmOne K (.ref x.C) c = some b ∧
      (b = true → ∀ a od, (x.arg = none → od = none) → WS K W0 (tsu a (.ref x.C) od) (ρ'.set i (.ref a)) { nx := fun ρ'' => E.nx (ρ''.set i .no), rt := E.rt, bk := fun ρ'' => E.bk (ρ''.set i .no), ct := fun ρ'' => E.ct (ρ''.set i .no) }) ∧ (b = false → E.ex x ρ') }) :
    WS K W (tTryAs K i c W tb tsu) ρ E := fun He0 He σ H0 H D S e => by
  refine h (wAs K c i tsu W D) He0 He σ H0 H D S ⟨e.nx, e.rt, e.bk, e.ct, ?_⟩
  rintro x ρ' σ' H1 H1' cls od ⟨b, hb, yes, no⟩ S' r
  obtain ⟨rfl, r2, r3⟩ := r
  refine ⟨b, hb, fun bt a na => ?_, fun bf => e.ex x ρ' σ' H1 H1' _ od (no bf) S' ⟨rfl, r2, r3⟩⟩
  refine yes bt a od r2 He0 He _ H1 H1' _ (S'.set i (s := .ref a) (v := .ref a) rfl (fun z => by cases z) (fun z => by cases z)) ⟨fun ρ'' σ'' G G' q S'' => ?_, e.rt, fun ρ'' σ'' G G' q S'' => ?_, fun ρ'' σ'' G G' q S'' => ?_, fun _ _ _ _ _ _ _ z => z.elim⟩
  · exact e.nx _ _ G G' q (S''.wipe1 i)
  · exact e.bk _ _ G G' q (S''.wipe1 i)
  · exact e.ct _ _ G G' q (S''.wipe1 i)
theorem ev_isX {i : Nat} {a D : Addr} {c : V} {cv : Value} {b : Bool} (h : ρ[i]? = some (.ref a)) (C : ExcC K D) (hc : ∀ u, RelV c u → u = cv) (hk : PySem.W.kitOne K (.ref D) cv = some b) (p : P (.bl b)) : EvP K W (tIsX K (.ref D) none a i (tC c)) ρ P X := fun He0 He σ H0 H Q S x k => by
  obtain ⟨v, h1, h2, _⟩ := S.sl i _ h (by intro z; cases z)
  have e : v = .ref a := h2
  subst e
  exact ⟨.ref a, h1, D, rfl, rfl, C, c, cv, b, rfl, hc, hk, k _ _ H0 H p S (.refl S.sub) (.bl b)⟩
/-- truth -/
inductive TruD : D → Bool → Prop
  | non : TruD .non false
  | bl (b : Bool) : TruD (.bl b) b
  | int (i : Int) : TruD (.int i) (i != 0)
  | str (x : Str) (h : x.length ≤ sizeLine) : TruD (.str x) ((x.length : Int) != 0)
  | lst (l : List D) : TruD (.lst l) (!l.isEmpty)
  | tup (l : List D) : TruD (.tup l) (!l.isEmpty)
theorem isEmpty_len {α β : Type} : ∀ {l : List α} {m : List β}, l.length = m.length → l.isEmpty = m.isEmpty
  | [], [], _ => rfl
  | _ :: _, _ :: _, _ => rfl
  | [], _ :: _, h => by cases h
  | _ :: _, [], h => by cases h
theorem bv_tru (h : EvP K W ta ρ (fun d => ∃ b, TruD d b ∧ PB b) X) : BvP K W (tTru K ta) ρ PB X := fun He0 He σ H0 H Q S x k => by
  refine h He0 He σ H0 H _ S x fun v d H1 H1' p S1 e1 r1 => ?_
  obtain ⟨b, t, p⟩ := p
  refine ⟨b, ?_, k b H1 H1' p S1 e1⟩
  cases t with
  | non => cases r1; rfl
  | bl b => cases r1; rfl
  | int i => cases r1; rfl
  | str y hy => cases r1; exact ⟨hy, rfl⟩
  | lst l =>
    cases r1 with
    | lst ha rs => exact .inl ⟨_, .inl (.inl (S1.sub _ _ ha)), by rw [isEmpty_len rs.length]⟩
  | tup l =>
    cases r1 with
    | tup ha rs => exact .inr (.inl ⟨_, .inl (.inl (S1.sub _ _ ha)), by rw [isEmpty_len rs.length]⟩)
/-! ### slices -/
def OvP (K : PySem.W.Frag) (W : WX) (to : TO) (ρ : Rho) (P : Option Int → Prop) (X : Exn → Prop) : Prop :=
  ∀ (He0 He : Hp) (σ : St) (H0 H : Hp) (Q : Option Int → Hp → Prop), StOk K He0 He σ H0 H ρ → Exs K He0 He W σ ρ X →
    (∀ b H0' H', P b → StOk K He0 He σ H0' H' ρ → Ext H0 H H0' H' → Q b H') → to σ H Q
variable {tlo thi : TO} {PO : Option Int → Prop}
theorem ov_none (p : PO none) : OvP K W tNoPart ρ PO X := fun He0 He σ H0 H Q S x k => k none H0 H p S (.refl S.sub)
theorem ov_some (h : EvP K W te ρ (fun d => ∃ i, d = .int i ∧ PO (some i)) X) : OvP K W (tPart te) ρ PO X := fun He0 He σ H0 H Q S x k => by
  refine h He0 He σ H0 H _ S x fun v d H1 H1' p S1 e1 r1 => ?_
  obtain ⟨i, rfl, p⟩ := p
  cases r1
  exact ⟨i, rfl, k _ H1 H1' p S1 e1⟩
def cutD (xs : List D) (lo hi : Option Int) : List D := (xs.drop (HT.sIx xs.length 0 lo)).take (HT.sIx xs.length xs.length hi - HT.sIx xs.length 0 lo)
theorem Rps.cut {H : Hp} {vs : List V} {ds : List D} (r : Rps K H vs ds) (lo hi : Option Int) : Rps K H (cutV vs lo hi) (cutD ds lo hi) := by
  unfold cutV cutD
  rw [r.length]
  exact (r.drop _).take _
/-- what a slice of x is asked for -/
def SlD (K : PySem.W.Frag) (r : V → Option Int → Option Int → Hp → VK → Prop) (x : D) (lo hi : Option Int) (P : D → Prop) : Prop :=
  ∀ (H0 H : Hp) (v : V) (Q : VK), Same H0 H → Rp K H0 v x → (∀ z d H0' H', P d → Ext H0 H H0' H' → Rp K H0' z d → Q z H') → r v lo hi H Q
theorem ev_sl {rs : V → Option Int → Option Int → Hp → VK → Prop} (h : EvP K W te ρ (fun d => OvP K W tlo ρ (fun lo => OvP K W thi ρ (fun hi => SlD K rs d lo hi P) X) X) X) : EvP K W (tSl rs te tlo thi) ρ P X := fun He0 He σ H0 H Q S x k => by
  refine h He0 He σ H0 H _ S x fun v d H1 H1' p S1 e1 r1 => ?_
  refine p He0 He σ H1 H1' _ S1 x fun lo H2 H2' p2 S2 e2 => ?_
  refine p2 He0 He σ H2 H2' _ S2 x fun hi H3 H3' p3 S3 e3 => ?_
  exact p3 H3 H3' v Q S3.sub (r1.mono (e2.trans e3).s0) fun z d H4 H4' p4 e4 r4 => k z d H4 H4' p4 (S3.ext e4) (e1.trans (e2.trans (e3.trans e4))) r4
theorem sd_lst {l : List D} {lo hi : Option Int} (p : P (.lst (cutD l lo hi))) : SlD K (rSlL K) (.lst l) lo hi P := fun H0 H v Q s a k => by
  cases a with
  | lst ha ra =>
    refine ⟨_, _, rfl, .inl (.inl (s _ _ ha)), fun q nq => ?_⟩
    exact k _ _ _ _ p (.new s nq) (.lst upd_same ((ra.mono (Ext.new s nq).s0).cut lo hi))
theorem sd_src {l : List Int} {lo hi : Option Int} (p : P (.lst (cutD (l.map D.int) lo hi))) : SlD K (rSlL K) (.src l) lo hi P := fun H0 H v Q s a k => by
  cases a with
  | src ha =>
    refine ⟨_, _, rfl, s.seq ha, fun q nq => ?_⟩
    exact k _ _ _ _ p (.new s nq) (.lst upd_same ((Rps.of_ints l).cut lo hi))
theorem cutD_take (xs : List D) (n : Nat) : cutD xs none (some (n : Int)) = xs.take n := by
  unfold cutD
  rw [HT.sIx_none, HT.sIx_nat, List.drop_zero, Nat.sub_zero]
  by_cases h : n ≤ xs.length
  · rw [Nat.min_eq_left h]
  · rw [Nat.min_eq_right (by omega), List.take_of_length_le (Nat.le_refl _), List.take_of_length_le (by omega)]
theorem cutD_drop (xs : List D) (n : Nat) : cutD xs (some (n : Int)) none = xs.drop n := by
  unfold cutD
  rw [HT.sIx_none, HT.sIx_nat]
  by_cases h : n ≤ xs.length
  · rw [Nat.min_eq_left h, List.take_of_length_le (by rw [List.length_drop]; omega)]
  · rw [Nat.min_eq_right (by omega), List.drop_eq_nil_of_le (by omega), List.drop_eq_nil_of_le (by omega)]; simp
/-! ### in -/
def D.flat : D → Bool
  | .non | .bl _ | .int _ | .str _ => true
  | _ => false
theorem flat_V {H : Hp} {v : V} {d : D} (h : d.flat = true) (r : Rp K H v d) : flatV v = true := by
  cases r <;> first | rfl | cases h
theorem flats_V {H : Hp} : ∀ {ds : List D} {vs : List V}, ds.all D.flat = true → Rps K H vs ds → vs.all flatV = true
  | [], _, _, .nil => rfl
  | d :: ds, _, h, .cons r t => by
    rw [List.all_cons, Bool.and_eq_true] at h
    rw [List.all_cons, flat_V h.1 r, flats_V h.2 t] <;> rfl
theorem inV_ints (x : Int) : ∀ l : List Int, inV (.int x) (l.map V.int) = decide (x ∈ l)
  | [] => rfl
  | y :: l => by
    have ih := inV_ints x l
    unfold inV at ih ⊢
    rw [List.map_cons, List.any_cons, ih]
    by_cases e : x = y
    · subst e; simp [eqV]
    · have e' : ¬ y = x := fun z => e z.symm
      simp [eqV, e, e']
theorem od_inI {x : Int} {l : List Int} (p : P (.bl (decide (x ∈ l)))) : OpD K (rIn K false) (.int x) (.lst (l.map D.int)) P := fun H0 H v u Q s a b k => by
  cases a
  cases b with
  | lst ha rs =>
    have e := rs.ints
    subst e
    refine ⟨_, _, rfl, .inl (.inl (.inl (s _ _ ha))), rfl, flats_V (by simp [D.flat]) rs, ?_⟩
    rw [if_neg Bool.false_ne_true, inV_ints]
    exact k _ _ H0 H p (.refl s) (.bl _)
theorem od_inIT {x : Int} {l : List Int} (p : P (.bl (decide (x ∈ l)))) : OpD K (rIn K false) (.int x) (.tup (l.map D.int)) P := fun H0 H v u Q s a b k => by
  cases a
  cases b with
  | tup ha rs =>
    have e := rs.ints
    subst e
    refine ⟨_, _, rfl, .inr (.inl (.inl (s _ _ ha))), rfl, flats_V (by simp [D.flat]) rs, ?_⟩
    rw [if_neg Bool.false_ne_true, inV_ints]
    exact k _ _ H0 H p (.refl s) (.bl _)
theorem od_notinI {x : Int} {l : List Int} (p : P (.bl (!decide (x ∈ l)))) : OpD K (rIn K true) (.int x) (.lst (l.map D.int)) P := fun H0 H v u Q s a b k => by
  cases a
  cases b with
  | lst ha rs =>
    have e := rs.ints
    subst e
    refine ⟨_, _, rfl, .inl (.inl (.inl (s _ _ ha))), rfl, flats_V (by simp [D.flat]) rs, ?_⟩
    rw [if_pos rfl, inV_ints]
    exact k _ _ H0 H p (.refl s) (.bl _)
theorem od_notinIT {x : Int} {l : List Int} (p : P (.bl (!decide (x ∈ l)))) : OpD K (rIn K true) (.int x) (.tup (l.map D.int)) P := fun H0 H v u Q s a b k => by
  cases a
  cases b with
  | tup ha rs =>
    have e := rs.ints
    subst e
    refine ⟨_, _, rfl, .inr (.inl (.inl (s _ _ ha))), rfl, flats_V (by simp [D.flat]) rs, ?_⟩
    rw [if_pos rfl, inV_ints]
    exact k _ _ H0 H p (.refl s) (.bl _)
theorem od_isN {d : D} (hd : d ≠ .non) (p : P (.bl false)) : OpD K rIsN d .non P := fun H0 H v u Q s a b k => by
  cases b
  refine ⟨rfl, ?_⟩
  have : decide (v = V.non) = false := decide_eq_false (fun z => by subst z; cases a; exact hd rfl)
  rw [this]
  exact k _ _ H0 H p (.refl s) (.bl _)
theorem od_isNN (p : P (.bl true)) : OpD K rIsN .non .non P := fun H0 H v u Q s a b k => by
  cases a
  cases b
  exact ⟨rfl, k _ _ H0 H p (.refl s) (.bl _)⟩
theorem od_notN {d : D} (hd : d ≠ .non) (p : P (.bl true)) : OpD K rNotN d .non P := fun H0 H v u Q s a b k => by
  cases b
  refine ⟨rfl, ?_⟩
  have : decide (v = V.non) = false := decide_eq_false (fun z => by subst z; cases a; exact hd rfl)
  rw [this]
  exact k _ _ H0 H p (.refl s) (.bl _)
theorem od_notNN (p : P (.bl false)) : OpD K rNotN .non .non P := fun H0 H v u Q s a b k => by
  cases a
  cases b
  exact ⟨rfl, k _ _ H0 H p (.refl s) (.bl _)⟩
theorem od_iaddI {i j : Int} (p : P (.int (i + j))) : OpD K (rIAdd K) (.int i) (.int j) P := fun H0 H v u Q s a b k => .inl (od_int0 (K := K) (g := fun i j => i + j) p H0 H v u Q s a b k)
theorem od_imulI {i j : Int} (c : CMul i j ∨ CMulW i j) (p : P (.int (i * j))) : OpD K rIMulA (.int i) (.int j) P := fun H0 H v u Q s a b k => by
  rcases c with c | c
  · exact .inl (od_intC (K := K) (C := CMul) (g := fun i j => i * j) c p H0 H v u Q s a b k)
  · exact .inr (od_intC (K := K) (C := CMulW) (g := fun i j => i * j) c p H0 H v u Q s a b k)
/-- name, name = e, e -/
theorem ws_par {i j : Nat} (h : AvP K W tas ρ (fun ds => ∃ x y, ds = [x, y] ∧ E.nx ((ρ.set i (.dat x)).set j (.dat y))) (fun x => E.ex x ρ)) : WS K W (tPar i j tas) ρ E := fun He0 He σ H0 H D S e =>
  h He0 He σ H0 H _ S (e.exs σ ρ) fun vs ds H1 H1' p S1 e1 r1 => by
    obtain ⟨x, y, rfl, p⟩ := p
    cases r1 with
    | cons q1 q2 =>
      cases q2 with
      | cons q3 q4 =>
        cases q4
        exact ⟨_, _, rfl, e.nx _ _ H1 H1' p ((S1.setD i q1).setD j q3)⟩
end
theorem kit_own {K : PySem.W.Frag} {t : Value} {C : Addr} (h : PySem.W.subIn K t (.ref C) = some true) (hd : PySem.W.hasDictIn K C = true) (ht : PySem.W.typeIn K (.ref C) = some (.type "type")) : PySem.W.kitOne K t (.ref C) = some true := by
  obtain ⟨cd, hc, _⟩ := PySem.W.any_some hd
  have e2 : ((PySem.W.clsIn K C).isSome && PySem.W.typeIn K (.ref C) == some (.type "type")) = true := by rw [hc, ht] <;> rfl
  unfold PySem.W.kitOne
  split
  · rfl
  · show (if ((PySem.W.clsIn K C).isSome && PySem.W.typeIn K (.ref C) == some (.type "type")) = true then PySem.W.subIn K t (.ref C) else none) = some true
    rw [if_pos e2]
    exact h
theorem kit_blt {K : PySem.W.Frag} {t : Value} {T : String} (h : PySem.W.subIn K t (.type T) = some true) (ht : PySem.W.kitMeta T = true) : PySem.W.kitOne K t (.type T) = some true := by
  unfold PySem.W.kitOne
  split
  · rfl
  · show (if PySem.W.kitMeta T = true then PySem.W.subIn K t (.type T) else none) = some true
    rw [if_pos ht]
    exact h
/-! ### the end -/
theorem walkD {l : PySem.W.OpenLaw} {k : Nat} {x : Str} {q : Program} {loose : List Str} {XP : (Str → Option Value) → Heap → Prop} {YP : World → Heap → Prop} {d : DefRec} {K : Params → PySem.W.Frag} (hn : l.most = some 63) (hdf : d.params.defaults = []) (hr : Room k callerA)
    (hY : ∀ (w : World) (h : Heap), YP w h → (K w.params).In h)
    (F : ∀ (w : World) (mg : Str → Option Value) (fa : Addr) (h : Heap), (K w.params).In h → h.Ns mainGlobals mg → mg d.name = some (.ref fa) →
      ∃ fd : FuncData, (∀ (s : Shared) (u : Value), BindsTo s fd ⟨[u], []⟩ [(x, u)]) ∧ ∀ base : Heap, (K w.params).In base → base.Ns mainGlobals mg →
        FnOk l.prog w (K w.params) mg base (L2.CX l.prog w) k fa fd [x] (spD (K w.params) (fun ds => ∃ ns : List Int, ds = [.src ns] ∧ ns.length ≤ 63) (fun _ s => s = .dat (.bl true)) (fun _ _ => False))) :
    PySem.W.WalkO q loose XP YP l.row.toRowW d [] (fun f vs => PySem.call f vs) :=
  L2.walk_of (n := 63) (k := k) (x := x) (CX := fun w => L2.CX l.prog w) (sp := fun w => spD (K w.params) (fun ds => ∃ ns : List Int, ds = [.src ns] ∧ ns.length ≤ 63) (fun _ s => s = .dat (.bl true)) (fun _ _ => False)) hn (by decide) hdf hr hY F
    (fun w H a ns hl _ hS => ⟨[.src ns], H, .refl H, .cons (.src hS) .nil, ⟨ns, rfl, hl⟩, fun v s H0' H' e _ r _ => by subst e; cases r; rfl, fun _ _ _ _ _ z => z.elim⟩)
    fun w H s e s' ⟨_, _, _, _, _, _, _, _, _, _, _, _, z⟩ => z
end DL

set_option maxRecDepth 100000
set_option maxHeartbeats 1000000
namespace DL
open PySem PySem.Spec L2
theorem still_dat (d : D) : (Sl.dat d).still = d := rfl
theorem still_own (l : List D) : (Sl.own l).still = .lst l := rfl
theorem still_oK (k : List Key) (l : List D) : (Sl.oK k l).still = .dK k l := rfl
theorem still_oT (k : List (List Key)) (l : List D) : (Sl.oT k l).still = .dT k l := rfl
theorem iteD {c A B : Prop} [Decidable c] (h1 : c → A) (h2 : ¬ c → B) : if decide c = true then A else B := by
  by_cases h : c
  · rw [if_pos (decide_eq_true h)]; exact h1 h
  · rw [if_neg (by rw [decide_eq_false h]; exact Bool.false_ne_true)]; exact h2 h
theorem iteN {c A B : Prop} [Decidable c] (h1 : ¬ c → A) (h2 : c → B) : if (!decide c) = true then A else B := by
  by_cases h : c
  · rw [if_neg (by rw [decide_eq_true h]; exact Bool.false_ne_true)]; exact h2 h
  · rw [if_pos (by rw [decide_eq_false h]; rfl)]; exact h1 h
theorem iteB {b : Bool} {A B : Prop} (h1 : b = true → A) (h2 : b = false → B) : if b = true then A else B := by
  cases b with
  | true => exact h1 rfl
  | false => exact h2 rfl
theorem iteTT {A B : Prop} (h : A) : if true = true then A else B := h
theorem iteFF {A B : Prop} (h : B) : if false = true then A else B := h
theorem iteNF {A B : Prop} (h : A) : if (!false) = true then A else B := h
theorem iteNT {A B : Prop} (h : B) : if (!true) = true then A else B := h
section
variable {K : PySem.W.Frag} {W : WX} {te ta tb tc tl : TE} {tt tu : TT} {ts tr : TS} {tas : TA} {to : TO} {ρ : Rho} {P : D → Prop} {PB : Bool → Prop} {PS : Sl → Prop} {PA : List D → Prop} {X : Exn → Prop} {E : En} {r r' : R2} {g : TG} {u : TGs}
theorem od_mulRI {i j : Int} (c : -18446744073709551616 < j ∧ j < 18446744073709551616) (p : P (.int (i * j))) : OpD K rMulA (.int i) (.int j) P := od_mulI (.inl (.inr ⟨by omega, by omega⟩)) p
theorem od_mulLI {i j : Int} (c : -18446744073709551616 < i ∧ i < 18446744073709551616) (p : P (.int (i * j))) : OpD K rMulA (.int i) (.int j) P := od_mulI (.inl (.inl ⟨by omega, by omega⟩)) p
theorem od_imulRI {i j : Int} (c : -18446744073709551616 < j ∧ j < 18446744073709551616) (p : P (.int (i * j))) : OpD K rIMulA (.int i) (.int j) P := od_imulI (.inl (.inr ⟨by omega, by omega⟩)) p
theorem od_divSI {i j : Int} (c : 0 < j ∧ j < 1073741824) (p : P (.int (i / j))) : OpD K rDivA (.int i) (.int j) P := od_divI c.1 (.inl c.2) p
theorem sort2 {a b : Int} {l : List Int} (hp : l.Perm [a, b]) (hw : l.Pairwise (· ≤ ·)) : l = [min a b, max a b] := by
  have h2 : ([min a b, max a b] : List Int).Perm [a, b] := by
    by_cases h : a ≤ b
    · rw [Int.min_eq_left h, Int.max_eq_right h]
    · rw [Int.min_eq_right (by omega), Int.max_eq_left (by omega)]
      exact List.Perm.swap _ _ _
  have w2 : ([min a b, max a b] : List Int).Pairwise (· ≤ ·) := by
    refine List.pairwise_cons.mpr ⟨fun x hx => ?_, List.pairwise_singleton _ _⟩
    rw [List.mem_singleton] at hx
    subst hx
    omega
  exact List.Perm.eq_of_pairwise (fun x y _ _ h1 h2 => Int.le_antisymm h1 h2) hw w2 (hp.trans h2.symm)
theorem cd_sorted2T {a b : Int} (p : P (.lst [.int (min a b), .int (max a b)])) : CbD K (rSortedA K) [.tup [.int a, .int b]] P := cd_sortedT (l := [a, b]) fun l' hp hw => by rw [sort2 hp hw]; exact p
theorem cd_sorted2L {a b : Int} (p : P (.lst [.int (min a b), .int (max a b)])) : CbD K (rSortedA K) [.lst [.int a, .int b]] P := cd_sortedL (l := [a, b]) fun l' hp hw => by rw [sort2 hp hw]; exact p
theorem od_mulB {i j : Int} (hi : 0 ≤ i ∧ i < 2 ^ 400) (hj : 0 ≤ j ∧ j < 2 ^ 400) (p : P (.int (i * j))) : OpD K rMulA (.int i) (.int j) P :=
  od_mulI (.inr (wide_mul (a := 400) (b := 400) (by omega) (by omega) (by decide) (by decide) (by decide))) p
theorem od_divB {i j : Int} (h0 : 0 < j) (hj : j < 2 ^ 400) (p : P (.int (i / j))) : OpD K rDivA (.int i) (.int j) P := od_divI h0 (.inr (wide_div (i := i) h0 (b := 400) (by omega) (by decide) (by decide)).2) p
/-- len of one's own list -/
theorem ev_lenO {i : Nat} {ds : List D} (h : ρ[i]? = some (.own ds)) (p : P (.int ds.length)) : EvP K W (tCB (rLen K) (tCons (tVar i) tNil)) ρ P X := fun He0 He σ H0 H Q S x k => by
  obtain ⟨v, h1, h2, _⟩ := S.sl i _ h (by intro z; cases z)
  obtain ⟨a, rfl, n0, xs, ha, rs⟩ := h2
  exact ⟨.ref a, h1, .ref a, ds.length, rfl, .inl ⟨xs, .inl (.inl ha), rs.length.symm⟩, k _ _ H0 H p S (.refl S.sub) (.int _)⟩
/-- an item of one's own list -/
theorem ev_ixO {i : Nat} {ds : List D} (h : ρ[i]? = some (.own ds)) (w : EvP K W tb ρ (fun y => ∃ j d, y = .int j ∧ atI ds j = some d ∧ P d) X) : EvP K W (tOp (rIx K) (tVar i) tb) ρ P X := fun He0 He σ H0 H Q S x k => by
  obtain ⟨v, h1, h2, _⟩ := S.sl i _ h (by intro z; cases z)
  obtain ⟨a, rfl, n0, xs, ha, rs⟩ := h2
  refine ⟨.ref a, h1, w He0 He σ H0 H _ S x fun u y H1 H1' p S1 e1 r1 => ?_⟩
  obtain ⟨j, d, rfl, hd, p⟩ := p
  cases r1
  obtain ⟨n, q1, q2, _, _, _⟩ := atI_get hd
  obtain ⟨z, q3, q4⟩ := rs.get q2
  refine .inl ⟨a, xs, j, z, rfl, rfl, .inl (.inl (e1.s _ _ ha)), ?_, k z d H1 H1' p S1 e1 (q4.mono e1.s0)⟩
  unfold atI at hd ⊢
  rw [rs.length]
  cases e : ixN ds.length j with
  | none => rw [e] at hd; cases hd
  | some j' =>
    have := ixN_seq e
    rw [q1] at this
    have hj : n = j' := Option.some.inj this.1
    subst hj
    exact q3
theorem small_sz {n : Nat} (h : n ≤ 1000000) : n ≤ sizeLine := Nat.le_trans h (by decide)
theorem small_lt {n : Nat} (h : n ≤ 1000000) : n < sizeLine := Nat.lt_of_le_of_lt h (by decide)
theorem cut_own {ds : List D} (n : Nat) : cutD ds none (some (n : Int)) = ds.take n := cutD_take ds n
end
/-! ### numbers drawn from the script -/
def Nums (l : List Int) (m : Nat) : Prop := l.length = m ∧ ∀ x ∈ l, 0 ≤ x ∧ x < 1009
theorem Nums.get {l : List Int} {m : Nat} (h : Nums l m) {i : Nat} (hi : i < m) : ∃ x, l[i]? = some x ∧ 0 ≤ x ∧ x < 1009 := by
  have hl : i < l.length := by rw [h.1]; exact hi
  exact ⟨l[i], List.getElem?_eq_getElem hl, h.2 _ (List.getElem_mem hl)⟩
theorem Nums.at_ {l : List Int} {m : Nat} (h : Nums l m) {i : Int} (h0 : 0 ≤ i) (hi : i < m) : ∃ x, atI (l.map D.int) i = some (.int x) ∧ 0 ≤ x ∧ x < 1009 := by
  obtain ⟨n, rfl⟩ : ∃ n : Nat, i = n := ⟨i.toNat, by omega⟩
  obtain ⟨x, h1, h2⟩ := h.get (i := n) (by omega)
  exact ⟨x, atI_nat (by rw [List.getElem?_map, h1] <;> rfl), h2⟩
theorem Nums.snoc {l : List Int} {m : Nat} {x : Int} (h : Nums l m) (h0 : 0 ≤ x) (h1 : x < 1009) : Nums (l ++ [x]) (m + 1) := ⟨by rw [List.length_append, h.1]; rfl, fun y hy => by
  rcases List.mem_append.mp hy with z | z
  · exact h.2 y z
  · rw [List.mem_singleton] at z; subst z; exact ⟨h0, h1⟩⟩
theorem Nums.take {l : List Int} {m k : Nat} (h : Nums l m) (hk : k ≤ m) : Nums (l.take k) k := ⟨by rw [List.length_take, h.1]; omega, fun y hy => h.2 y (List.mem_of_mem_take hy)⟩
theorem map_get {l : List Int} {i : Nat} {x : D} (h : (l.map D.int)[i]? = some x) : ∃ y, l[i]? = some y ∧ x = .int y := by
  rw [List.getElem?_map] at h
  cases e : l[i]? with
  | none => rw [e] at h; cases h
  | some y => rw [e] at h; exact ⟨y, rfl, (Option.some.inj h).symm⟩
end DL

set_option maxRecDepth 100000
set_option maxHeartbeats 1000000
namespace DL
open PySem PySem.Spec L2
/-! ### dicts by keys and values -/
section
variable {κ : Type} [DecidableEq κ]
def vget : List κ → List D → κ → Option D
  | k' :: ks, d :: vs, k => if k' = k then some d else vget ks vs k
  | _, _, _ => none
def kput (ks : List κ) (k : κ) : List κ := if k ∈ ks then ks else ks ++ [k]
def vrep : List κ → List D → κ → D → List D
  | k' :: ks, d :: vs, k, v => (if k' = k then v else d) :: vrep ks vs k v
  | _, _, _, _ => []
def vput (ks : List κ) (vs : List D) (k : κ) (v : D) : List D := if k ∈ ks then vrep ks vs k v else vs ++ [v]
theorem vget_mem : ∀ {ks : List κ} {vs : List D} {k : κ}, ks.length = vs.length → ((vget ks vs k).isSome = true ↔ k ∈ ks)
  | [], _, k, _ => by simp [vget]
  | k' :: ks, [], k, h => by simp at h
  | k' :: ks, d :: vs, k, h => by
    unfold vget
    by_cases e : k' = k
    · rw [if_pos e]; simp [e]
    · rw [if_neg e, vget_mem (by simpa using h)]
      simp only [List.mem_cons]
      exact ⟨.inr, fun z => z.elim (fun q => absurd q.symm e) id⟩
theorem vget_rep {k j : κ} {v : D} : ∀ {ks : List κ} {vs : List D}, ks.length = vs.length → k ∈ ks → vget ks (vrep ks vs k v) j = if j = k then some v else vget ks vs j
  | [], _, _, h => by simp at h
  | k' :: ks, [], h, _ => by simp at h
  | k' :: ks, d :: vs, h, hm => by
    unfold vrep vget
    by_cases e : k' = j
    · rw [if_pos e, if_pos e]
      by_cases e2 : k' = k
      · rw [if_pos e2, if_pos (e.symm.trans e2)]
      · rw [if_neg e2, if_neg (fun z => e2 (e.trans z))]
    · rw [if_neg e, if_neg e]
      by_cases e2 : k ∈ ks
      · exact vget_rep (by simpa using h) e2
      · have hk : k' = k := by
          rcases List.mem_cons.mp hm with z | z
          · exact z.symm
          · exact absurd z e2
        have hj : j ≠ k := fun z => e (hk.trans z.symm)
        rw [if_neg hj]
        have go : ∀ (ks : List κ) (vs : List D), k ∉ ks → ks.length = vs.length → vget ks (vrep ks vs k v) j = vget ks vs j := by
          intro ks
          induction ks with
          | nil => intro vs _ _; simp [vget]
          | cons a ks ih =>
            intro vs hn hl
            cases vs with
            | nil => simp at hl
            | cons d vs =>
              show (if a = j then some (if a = k then v else d) else vget ks (vrep ks vs k v) j) = if a = j then some d else vget ks vs j
              rw [if_neg (fun z : a = k => hn (by rw [z]; exact List.mem_cons_self)), ih vs (fun z => hn (List.mem_cons_of_mem _ z)) (by simpa using hl)]
        exact go ks vs e2 (by simpa using h)
theorem vget_snoc {k j : κ} {v : D} : ∀ {ks : List κ} {vs : List D}, ks.length = vs.length → k ∉ ks → vget (ks ++ [k]) (vs ++ [v]) j = if j = k then some v else vget ks vs j
  | [], [], _, _ => by
    show vget [k] [v] j = _
    unfold vget
    by_cases e : k = j
    · rw [if_pos e, if_pos e.symm]
    · rw [if_neg e, if_neg (Ne.symm e)]
      simp [vget]
  | [], _ :: _, h, _ => by simp at h
  | k' :: ks, [], h, _ => by simp at h
  | k' :: ks, d :: vs, h, hn => by
    show vget (k' :: (ks ++ [k])) (d :: (vs ++ [v])) j = _
    unfold vget
    by_cases e : k' = j
    · rw [if_pos e, if_pos e, if_neg (fun z => hn (by rw [← z, e]; exact List.mem_cons_self))]
    · rw [if_neg e, if_neg e, vget_snoc (by simpa using h) (fun z => hn (List.mem_cons_of_mem _ z))]
theorem vget_put {ks : List κ} {vs : List D} {k j : κ} {v : D} (h : ks.length = vs.length) : vget (kput ks k) (vput ks vs k v) j = if j = k then some v else vget ks vs j := by
  unfold kput vput
  by_cases e : k ∈ ks
  · rw [if_pos e, if_pos e]; exact vget_rep h e
  · rw [if_neg e, if_neg e]; exact vget_snoc h e
def kmem (ks : List κ) (k : κ) : Bool := decide (k ∈ ks)
theorem kmem_t {ks : List κ} {k : κ} : kmem ks k = true ↔ k ∈ ks := by unfold kmem; exact decide_eq_true_iff
theorem kmem_f {ks : List κ} {k : κ} : kmem ks k = false ↔ k ∉ ks := by unfold kmem; exact decide_eq_false_iff_not
theorem vrep_len {k : κ} {v : D} : ∀ {ks : List κ} {vs : List D}, ks.length = vs.length → (vrep ks vs k v).length = ks.length
  | [], _, _ => by simp [vrep]
  | k' :: ks, [], h => by simp at h
  | k' :: ks, d :: vs, h => by unfold vrep; rw [List.length_cons, List.length_cons, vrep_len (by simpa using h)]
theorem vput_len {ks : List κ} {vs : List D} {k : κ} {v : D} (h : ks.length = vs.length) : (kput ks k).length = (vput ks vs k v).length := by
  unfold kput vput
  by_cases e : k ∈ ks
  · rw [if_pos e, if_pos e, vrep_len h]
  · rw [if_neg e, if_neg e, List.length_append, List.length_append, h]; rfl
theorem kput_len (ks : List κ) (k : κ) : (kput ks k).length ≤ ks.length + 1 := by
  unfold kput
  split
  · omega
  · rw [List.length_append]; simp
theorem kput_nodup {ks : List κ} {k : κ} (h : ks.Nodup) : (kput ks k).Nodup := by
  unfold kput
  split
  · exact h
  · rename_i hn
    rw [List.nodup_append]
    exact ⟨h, List.nodup_cons.mpr ⟨by simp, List.nodup_nil⟩, fun a ha b hb => by
      rw [List.mem_singleton] at hb
      subst hb
      exact fun z => hn (z ▸ ha)⟩
theorem kput_mem {ks : List κ} {k j : κ} : j ∈ kput ks k ↔ j = k ∨ j ∈ ks := by
  unfold kput
  split
  · rename_i hm
    exact ⟨.inr, fun z => z.elim (fun q => q ▸ hm) id⟩
  · rw [List.mem_append, List.mem_singleton]
    exact ⟨fun z => z.elim .inr .inl, fun z => z.elim .inr .inl⟩
theorem vget_at {ks : List κ} {vs : List D} (h : ks.length = vs.length) (hn : ks.Nodup) : ∀ {i : Nat} {k : κ}, ks[i]? = some k → ∃ d, vs[i]? = some d ∧ vget ks vs k = some d := by
  induction ks generalizing vs with
  | nil => intro i k e; simp at e
  | cons a ks ih =>
    intro i k e
    cases vs with
    | nil => simp at h
    | cons d vs =>
      cases i with
      | zero => simp at e; subst e; exact ⟨d, rfl, by simp [vget]⟩
      | succ i =>
        have e' : ks[i]? = some k := by simpa using e
        obtain ⟨d', h1, h2⟩ := ih (vs := vs) (by simpa using h) (List.nodup_cons.mp hn).2 e'
        refine ⟨d', by simpa using h1, ?_⟩
        unfold vget
        rw [if_neg (fun z => (List.nodup_cons.mp hn).1 (by rw [z]; exact List.mem_of_getElem? e')), h2]
/-- what stands in the heap -/
theorem valV_rep {K : PySem.W.Frag} {H : Hp} {k : κ} : ∀ {kvs : List (κ × V)} {vs : List D}, Rps K H (kvs.map (·.2)) vs → (valV kvs k = none ∧ vget (kvs.map (·.1)) vs k = none) ∨ ∃ v d, valV kvs k = some v ∧ vget (kvs.map (·.1)) vs k = some d ∧ Rp K H v d
  | [], _, _ => .inl ⟨rfl, by simp [vget]⟩
  | p :: kvs, d :: vs, .cons r t => by
    by_cases e : p.1 = k
    · exact .inr ⟨p.2, d, valV_pos e, by show vget (p.1 :: _) _ _ = _; unfold vget; rw [if_pos e], r⟩
    · rw [valV_neg e]
      rcases valV_rep (k := k) t with ⟨h1, h2⟩ | ⟨v, d', h1, h2, h3⟩
      · exact .inl ⟨h1, by show vget (p.1 :: _) _ _ = _; unfold vget; rw [if_neg e]; exact h2⟩
      · exact .inr ⟨v, d', h1, by show vget (p.1 :: _) _ _ = _; unfold vget; rw [if_neg e]; exact h2, h3⟩
theorem putK_rep {K : PySem.W.Frag} {H : Hp} {k : κ} {v : V} {d : D} {kvs : List (κ × V)} {vs : List D} (r : Rps K H (kvs.map (·.2)) vs) (rv : Rp K H v d) :
    (putK kvs k v).map (·.1) = kput (kvs.map (·.1)) k ∧ Rps K H ((putK kvs k v).map (·.2)) (vput (kvs.map (·.1)) vs k d) := by
  have ha : (kvs.any fun kv => decide (kv.1 = k)) = true ↔ k ∈ kvs.map (·.1) := by
    rw [List.any_eq_true, List.mem_map]
    exact ⟨fun ⟨x, h1, h2⟩ => ⟨x, h1, of_decide_eq_true h2⟩, fun ⟨x, h1, h2⟩ => ⟨x, h1, decide_eq_true h2⟩⟩
  unfold putK kput vput
  by_cases e : k ∈ kvs.map (·.1)
  · rw [if_pos (ha.mpr e), if_pos e, if_pos e]
    refine ⟨?_, ?_⟩
    · rw [List.map_map]
      exact List.map_congr_left fun p _ => by
        show (if p.1 = k then (p.1, v) else p).1 = p.1
        split <;> rfl
    · rw [List.map_map]
      clear ha e
      induction kvs generalizing vs with
      | nil => cases r; exact .nil
      | cons p kvs ih =>
        cases r with
        | cons r1 r2 =>
          rename_i d' ds
          show Rps K H ((if p.1 = k then (p.1, v) else p).2 :: _) ((if p.1 = k then d else d') :: vrep (kvs.map (·.1)) ds k d)
          refine .cons ?_ (ih r2)
          by_cases e : p.1 = k
          · rw [if_pos e, if_pos e]; exact rv
          · rw [if_neg e, if_neg e]; exact r1
  · rw [if_neg (fun z => e (ha.mp z)), if_neg e, if_neg e, List.map_append, List.map_append]
    exact ⟨rfl, r.append (.one rv)⟩
end
/-- a key as data -/
def kD : Key → D
  | .inl i => .int i
  | .inr x => .str x
def tD (k : List Key) : D := .tup (k.map kD)
theorem Rp.kD {K : PySem.W.Frag} {H : Hp} {k : Key} {v : V} (r : Rp K H v (DL.kD k)) : v = kV k := by
  cases k with
  | inl i => cases r; rfl
  | inr i => cases r; rfl
theorem Rp.of_kD {K : PySem.W.Frag} {H : Hp} (k : Key) : Rp K H (kV k) (DL.kD k) := by
  cases k with
  | inl i => exact .int i
  | inr i => exact .str i
theorem Rps.kDs {K : PySem.W.Frag} {H : Hp} : ∀ {ks : List Key} {vs : List V}, Rps K H vs (ks.map DL.kD) → vs = ks.map kV
  | [], _, .nil => rfl
  | _ :: _, _, .cons r t => by rw [r.kD, Rps.kDs t]; rfl
theorem Rps.of_kDs {K : PySem.W.Frag} {H : Hp} : ∀ (ks : List Key), Rps K H (ks.map kV) (ks.map DL.kD)
  | [] => .nil
  | k :: ks => .cons (.of_kD k) (Rps.of_kDs ks)
/-- a dict as data -/
inductive IsDT : D → List (List Key) → List D → Prop
  | d {ks vs} : IsDT (.dT ks vs) ks vs
  | f {ks vs} : IsDT (.fT ks vs) ks vs
inductive IsDK : D → List Key → List D → Prop
  | d {ks vs} : IsDK (.dK ks vs) ks vs
  | f {ks vs} : IsDK (.fK ks vs) ks vs
section
variable {K : PySem.W.Frag} {W : WX} {te ta tb tc tl td ty tx tv : TE} {tt tu : TT} {ts tr : TS} {tas : TA} {ρ : Rho} {P : D → Prop} {PB : Bool → Prop} {PS : Sl → Prop} {PA PL : List D → Prop} {X : Exn → Prop} {E : En} {r r' : R2} {g : TG} {u : TGs}
theorem IsDT.at_ {H0 : Hp} {v : V} {d : D} {ks vs} (t : IsDT d ks vs) (h : Rp K H0 v d) : ∃ a kvs, v = .ref a ∧ Rd H0 a (.dT kvs) ∧ kvs.map (·.1) = ks ∧ Rps K H0 (kvs.map (·.2)) vs := by
  cases t with
  | d => cases h with | dT ha rs => exact ⟨_, _, rfl, ha, rfl, rs⟩
  | f => cases h with | fT ha rs => exact ⟨_, _, rfl, .inr ⟨_, ha⟩, rfl, rs⟩
theorem IsDK.at_ {H0 : Hp} {v : V} {d : D} {ks vs} (t : IsDK d ks vs) (h : Rp K H0 v d) : ∃ a kvs, v = .ref a ∧ Rd H0 a (.dK kvs) ∧ kvs.map (·.1) = ks ∧ Rps K H0 (kvs.map (·.2)) vs := by
  cases t with
  | d => cases h with | dK ha rs => exact ⟨_, _, rfl, ha, rfl, rs⟩
  | f => cases h with | fK ha rs => exact ⟨_, _, rfl, .inr ⟨_, ha⟩, rfl, rs⟩
/-! ### a slot with a dict, still or one's own -/
def DictT (ρ : Rho) (i : Nat) (ks : List (List Key)) (vs : List D) : Prop := ρ[i]? = some (.oT ks vs) ∨ ∃ d, ρ[i]? = some (.dat d) ∧ IsDT d ks vs
def DictK (ρ : Rho) (i : Nat) (ks : List Key) (vs : List D) : Prop := ρ[i]? = some (.oK ks vs) ∨ ∃ d, ρ[i]? = some (.dat d) ∧ IsDK d ks vs
theorem DictT.at_ {He0 He : Hp} {σ : St} {H0 H : Hp} (S : StOk K He0 He σ H0 H ρ) {i : Nat} {ks : List (List Key)} {vs} (h : DictT ρ i ks vs) : ∃ a, σ[i]? = some (some (.ref a)) ∧ ∃ kvs, Rd H a (.dT kvs) ∧ kvs.map (·.1) = ks ∧ Rps K H0 (kvs.map (·.2)) vs := by
  rcases h with h | ⟨d, h, t⟩
  · obtain ⟨v, h1, h2, h3⟩ := S.sl i _ h (by intro z; cases z)
    obtain ⟨a, rfl, n0, kvs, ha, e, rs⟩ := h2
    exact ⟨a, h1, kvs, .inl ha, e, rs⟩
  · obtain ⟨v, h1, h2⟩ := S.dat h
    obtain ⟨a, kvs, rfl, ha, e, rs⟩ := t.at_ h2
    exact ⟨a, h1, kvs, Rd.mono S.sub ha, e, rs⟩
theorem DictK.at_ {He0 He : Hp} {σ : St} {H0 H : Hp} (S : StOk K He0 He σ H0 H ρ) {i : Nat} {ks : List Key} {vs} (h : DictK ρ i ks vs) : ∃ a, σ[i]? = some (some (.ref a)) ∧ ∃ kvs, Rd H a (.dK kvs) ∧ kvs.map (·.1) = ks ∧ Rps K H0 (kvs.map (·.2)) vs := by
  rcases h with h | ⟨d, h, t⟩
  · obtain ⟨v, h1, h2, h3⟩ := S.sl i _ h (by intro z; cases z)
    obtain ⟨a, rfl, n0, kvs, ha, e, rs⟩ := h2
    exact ⟨a, h1, kvs, .inl ha, e, rs⟩
  · obtain ⟨v, h1, h2⟩ := S.dat h
    obtain ⟨a, kvs, rfl, ha, e, rs⟩ := t.at_ h2
    exact ⟨a, h1, kvs, Rd.mono S.sub ha, e, rs⟩
theorem tup_at {H0 : Hp} {v : V} {k : List Key} (h : Rp K H0 v (tD k)) : ∃ b, v = .ref b ∧ H0 b = some (.tup (k.map kV)) := by
  cases h with
  | tup ha rs => exact ⟨_, rfl, by rw [← rs.kDs]; exact ha⟩
theorem ev_dgetT {i : Nat} {ks : List (List Key)} {vs} (h : DictT ρ i ks vs) (w : EvP K W ty ρ (fun y => ∃ k d, y = tD k ∧ vget ks vs k = some d ∧ P d) X) : EvP K W (tDGet (tVar i) ty) ρ P X := fun He0 He σ H0 H Q S x kk => by
  obtain ⟨a, h1, _⟩ := h.at_ S
  refine ⟨_, h1, w He0 He σ H0 H _ S x fun v y H1 H1' p S1 e1 r1 => ?_⟩
  obtain ⟨k, d, rfl, hv, p⟩ := p
  obtain ⟨b, rfl, hb⟩ := tup_at r1
  obtain ⟨a', h1', kvs, ha, ek, rs⟩ := h.at_ S1
  rw [h1] at h1'
  cases h1'
  rcases valV_rep (k := k) rs with ⟨_, q2⟩ | ⟨v, d', q1, q2, q3⟩
  · rw [ek, hv] at q2; cases q2
  · rw [ek, hv] at q2
    cases q2
    exact ⟨a, v, rfl, .inr ⟨kvs, k, b, ha, rfl, S1.sub _ _ hb, q1.symm⟩, kk v d H1 H1' p S1 e1 q3⟩
theorem ev_dgetK {i : Nat} {ks : List Key} {vs} (h : DictK ρ i ks vs) (w : EvP K W ty ρ (fun y => ∃ k d, y = kD k ∧ vget ks vs k = some d ∧ P d) X) : EvP K W (tDGet (tVar i) ty) ρ P X := fun He0 He σ H0 H Q S x kk => by
  obtain ⟨a, h1, _⟩ := h.at_ S
  refine ⟨_, h1, w He0 He σ H0 H _ S x fun v y H1 H1' p S1 e1 r1 => ?_⟩
  obtain ⟨k, d, rfl, hv, p⟩ := p
  obtain rfl := r1.kD
  obtain ⟨a', h1', kvs, ha, ek, rs⟩ := h.at_ S1
  rw [h1] at h1'
  cases h1'
  rcases valV_rep (k := k) rs with ⟨_, q2⟩ | ⟨v, d', q1, q2, q3⟩
  · rw [ek, hv] at q2; cases q2
  · rw [ek, hv] at q2
    cases q2
    exact ⟨a, v, rfl, .inl ⟨kvs, k, ha, rfl, q1.symm⟩, kk v d H1 H1' p S1 e1 q3⟩
theorem ev_dgetT2 {i : Nat} {ks : List (List Key)} {vs} (h : DictT ρ i ks vs) (w : EvP K W ty ρ (fun y => EvP K W tx ρ (fun z => ∃ k, y = tD k ∧ P ((vget ks vs k).getD z)) X) X) : EvP K W (tDGet2 (tVar i) ty tx) ρ P X := fun He0 He σ H0 H Q S x kk => by
  obtain ⟨a, h1, kvs0, ha0, _⟩ := h.at_ S
  refine ⟨_, h1, a, rfl, .inr ⟨_, ha0⟩, w He0 He σ H0 H _ S x fun v y H1 H1' p S1 e1 r1 => ?_⟩
  refine p He0 He σ H1 H1' _ S1 x fun u z H2 H2' p2 S2 e2 r2 => ?_
  obtain ⟨k, rfl, p2⟩ := p2
  obtain ⟨b, rfl, hb⟩ := tup_at (r1.mono e2.s0)
  obtain ⟨a', h1', kvs, ha, ek, rs⟩ := h.at_ S2
  rw [h1] at h1'
  cases h1'
  refine ⟨valV kvs k, .inr ⟨kvs, k, b, ha, rfl, S2.sub _ _ hb, rfl⟩, ?_⟩
  rcases valV_rep (k := k) rs with ⟨q1, q2⟩ | ⟨v, d', q1, q2, q3⟩
  · rw [ek] at q2
    rw [q2] at p2
    rw [q1]
    exact kk _ _ H2 H2' p2 S2 (e1.trans e2) r2
  · rw [ek] at q2
    rw [q2] at p2
    rw [q1]
    exact kk _ _ H2 H2' p2 S2 (e1.trans e2) q3
theorem ev_dgetK2 {i : Nat} {ks : List Key} {vs} (h : DictK ρ i ks vs) (w : EvP K W ty ρ (fun y => EvP K W tx ρ (fun z => ∃ k, y = kD k ∧ P ((vget ks vs k).getD z)) X) X) : EvP K W (tDGet2 (tVar i) ty tx) ρ P X := fun He0 He σ H0 H Q S x kk => by
  obtain ⟨a, h1, kvs0, ha0, _⟩ := h.at_ S
  refine ⟨_, h1, a, rfl, .inl ⟨_, ha0⟩, w He0 He σ H0 H _ S x fun v y H1 H1' p S1 e1 r1 => ?_⟩
  refine p He0 He σ H1 H1' _ S1 x fun u z H2 H2' p2 S2 e2 r2 => ?_
  obtain ⟨k, rfl, p2⟩ := p2
  obtain rfl := r1.kD
  obtain ⟨a', h1', kvs, ha, ek, rs⟩ := h.at_ S2
  rw [h1] at h1'
  cases h1'
  refine ⟨valV kvs k, .inl ⟨kvs, k, ha, rfl, rfl⟩, ?_⟩
  rcases valV_rep (k := k) rs with ⟨q1, q2⟩ | ⟨v, d', q1, q2, q3⟩
  · rw [ek] at q2
    rw [q2] at p2
    rw [q1]
    exact kk _ _ H2 H2' p2 S2 (e1.trans e2) r2
  · rw [ek] at q2
    rw [q2] at p2
    rw [q1]
    exact kk _ _ H2 H2' p2 S2 (e1.trans e2) q3
theorem in_some {κ : Type} [DecidableEq κ] {H : Hp} {k : κ} {kvs : List (κ × V)} {vs : List D} (rs : Rps K H (kvs.map (·.2)) vs) : (valV kvs k).isSome = kmem (kvs.map (·.1)) k := by
  unfold kmem
  have hl : (kvs.map (·.1)).length = vs.length := by
    have := rs.length
    rw [List.length_map] at this ⊢
    exact this
  have := vget_mem (k := k) hl
  rcases valV_rep (k := k) rs with ⟨q1, q2⟩ | ⟨v, d', q1, q2, q3⟩
  · rw [q1]
    rw [q2] at this
    have hn : k ∉ kvs.map (·.1) := fun z => by have := this.mpr z; simp at this
    rw [decide_eq_false hn]; rfl
  · rw [q1]
    rw [q2] at this
    rw [decide_eq_true (this.mp rfl)]; rfl
theorem ev_dinT {i : Nat} {ks : List (List Key)} {vs} (h : DictT ρ i ks vs) (w : EvP K W ty ρ (fun y => ∃ k : List Key, y = tD k ∧ P (.bl (kmem ks k))) X) : EvP K W (tDIn ty (tVar i)) ρ P X := fun He0 He σ H0 H Q S x kk => by
  refine w He0 He σ H0 H _ S x fun v y H1 H1' p S1 e1 r1 => ?_
  obtain ⟨k, rfl, p⟩ := p
  obtain ⟨b, rfl, hb⟩ := tup_at r1
  obtain ⟨a, h1, kvs, ha, ek, rs⟩ := h.at_ S1
  refine ⟨_, h1, a, valV kvs k, rfl, .inr ⟨kvs, k, b, ha, rfl, S1.sub _ _ hb, rfl⟩, ?_⟩
  rw [in_some rs, ek]
  exact kk _ _ H1 H1' p S1 e1 (.bl _)
theorem ev_dninT {i : Nat} {ks : List (List Key)} {vs} (h : DictT ρ i ks vs) (w : EvP K W ty ρ (fun y => ∃ k : List Key, y = tD k ∧ P (.bl (!kmem ks k))) X) : EvP K W (tDNotIn ty (tVar i)) ρ P X := fun He0 He σ H0 H Q S x kk => by
  refine w He0 He σ H0 H _ S x fun v y H1 H1' p S1 e1 r1 => ?_
  obtain ⟨k, rfl, p⟩ := p
  obtain ⟨b, rfl, hb⟩ := tup_at r1
  obtain ⟨a, h1, kvs, ha, ek, rs⟩ := h.at_ S1
  refine ⟨_, h1, a, valV kvs k, rfl, .inr ⟨kvs, k, b, ha, rfl, S1.sub _ _ hb, rfl⟩, ?_⟩
  rw [in_some rs, ek]
  exact kk _ _ H1 H1' p S1 e1 (.bl _)
theorem ev_dinK {i : Nat} {ks : List Key} {vs} (h : DictK ρ i ks vs) (w : EvP K W ty ρ (fun y => ∃ k : Key, y = kD k ∧ P (.bl (kmem ks k))) X) : EvP K W (tDIn ty (tVar i)) ρ P X := fun He0 He σ H0 H Q S x kk => by
  refine w He0 He σ H0 H _ S x fun v y H1 H1' p S1 e1 r1 => ?_
  obtain ⟨k, rfl, p⟩ := p
  obtain rfl := r1.kD
  obtain ⟨a, h1, kvs, ha, ek, rs⟩ := h.at_ S1
  refine ⟨_, h1, a, valV kvs k, rfl, .inl ⟨kvs, k, ha, rfl, rfl⟩, ?_⟩
  rw [in_some rs, ek]
  exact kk _ _ H1 H1' p S1 e1 (.bl _)
theorem ev_dninK {i : Nat} {ks : List Key} {vs} (h : DictK ρ i ks vs) (w : EvP K W ty ρ (fun y => ∃ k : Key, y = kD k ∧ P (.bl (!kmem ks k))) X) : EvP K W (tDNotIn ty (tVar i)) ρ P X := fun He0 He σ H0 H Q S x kk => by
  refine w He0 He σ H0 H _ S x fun v y H1 H1' p S1 e1 r1 => ?_
  obtain ⟨k, rfl, p⟩ := p
  obtain rfl := r1.kD
  obtain ⟨a, h1, kvs, ha, ek, rs⟩ := h.at_ S1
  refine ⟨_, h1, a, valV kvs k, rfl, .inl ⟨kvs, k, ha, rfl, rfl⟩, ?_⟩
  rw [in_some rs, ek]
  exact kk _ _ H1 H1' p S1 e1 (.bl _)
/-- an own thing is written: the slot's content changes -/
theorem StOk.writeAt {He0 He : Hp} {σ : St} {H0 H : Hp} (S : StOk K He0 He σ H0 H ρ) {i : Nat} {s s' : Sl} {a : Addr} {o : HO} (h : ρ[i]? = some s) (hs : s.isOwn = true) (hs' : s'.isOwn = true) (e : σ[i]? = some (some (.ref a)))
    (n : OwnAt K H0 (upd H a o) a s') : StOk K He0 He σ H0 (upd H a o) (ρ.set i s') := by
  obtain ⟨v, h1, h2, h3⟩ := S.sl i s h (by intro z; rw [z] at hs; cases hs)
  obtain ⟨a', rfl, n0, _⟩ := own_of hs h2
  rw [h1] at e
  cases e
  have il : i < ρ.length := (List.getElem?_eq_some_iff.mp h).1
  refine ⟨⟨S.e.s0, fun b u q => by rw [upd_ne (ne_of_none q (h3 hs a rfl))]; exact S.e.s _ _ q, fun b u q => by rw [upd_ne (ne_of_none q n0)]; exact S.e.sub _ _ q, S.e.fr⟩, by rw [List.length_set]; exact S.len, fun j t hj hn => ?_, fun j k t w b hjk hj hk ht hw q => ?_⟩
  · by_cases hji : i = j
    · subst hji
      rw [List.getElem?_set_self il] at hj
      cases hj
      refine ⟨.ref a, h1, ?_, fun _ b q => h3 hs b q⟩
      cases s' with
      | no => cases hs'
      | ref c => cases hs'
      | dat d => cases hs'
      | own ds => exact ⟨a, rfl, n0, n⟩
      | oK ks vs => exact ⟨a, rfl, n0, n⟩
      | oT ks vs => exact ⟨a, rfl, n0, n⟩
    · rw [List.getElem?_set_ne hji] at hj
      obtain ⟨v', g1, g2, g3⟩ := S.sl j t hj hn
      refine ⟨v', g1, ?_, g3⟩
      by_cases hto : t.isOwn = true
      · obtain ⟨b, rfl, nb, ob⟩ := own_of hto g2
        have hba : b ≠ a := fun z => by
          subst z
          exact S.ap i j s t b hji h hj hs hto h1 g1
        have ob' : OwnAt K H0 (upd H a o) b t := by
          cases t with
          | no => exact ob
          | ref c => exact ob
          | dat d => exact ob
          | own ds => obtain ⟨xs, q1, q2⟩ := ob; exact ⟨xs, by rw [upd_ne hba]; exact q1, q2⟩
          | oK ks vs => obtain ⟨xs, q1, q2, q3⟩ := ob; exact ⟨xs, by rw [upd_ne hba]; exact q1, q2, q3⟩
          | oT ks vs => obtain ⟨xs, q1, q2, q3⟩ := ob; exact ⟨xs, by rw [upd_ne hba]; exact q1, q2, q3⟩
        cases t with
        | no => cases hto
        | ref c => cases hto
        | dat d => cases hto
        | own ds => exact ⟨b, rfl, nb, ob'⟩
        | oK ks vs => exact ⟨b, rfl, nb, ob'⟩
        | oT ks vs => exact ⟨b, rfl, nb, ob'⟩
      · cases t with
        | no => trivial
        | ref c => exact g2
        | dat d => exact g2
        | own ds => exact absurd rfl hto
        | oK ks vs => exact absurd rfl hto
        | oT ks vs => exact absurd rfl hto
  · have get : ∀ {j : Nat} {t : Sl}, t.isOwn = true → (ρ.set i s')[j]? = some t → ∃ t', t'.isOwn = true ∧ ρ[j]? = some t' := fun {j t} ht q => by
      by_cases hj : i = j
      · subst hj
        exact ⟨_, hs, h⟩
      · rw [List.getElem?_set_ne hj] at q
        exact ⟨t, ht, q⟩
    obtain ⟨t', q1, q2⟩ := get ht hj
    obtain ⟨w', q3, q4⟩ := get hw hk
    exact S.ap j k t' w' b hjk q2 q4 q1 q3 q
theorem ws_dputT {i : Nat} {ks vs} (h : ρ[i]? = some (.oT ks vs)) (w : EvP K W tv ρ (fun v => EvP K W ty ρ (fun y => ∃ k, y = tD k ∧ ks.length < sizeLine ∧ E.nx (ρ.set i (.oT (kput ks k) (vput ks vs k v)))) (fun x => E.ex x ρ)) (fun x => E.ex x ρ)) :
    WS K W (sDPut (tVar i) ty tv) ρ E := fun He0 He σ H0 H D S e => by
  refine w He0 He σ H0 H _ S (e.exs σ ρ) fun v d H1 H1' p S1 e1 r1 => ?_
  obtain ⟨a, h1, _⟩ := DictT.at_ S1 (.inl h)
  refine ⟨_, h1, p He0 He σ H1 H1' _ S1 (e.exs σ ρ) fun u y H2 H2' p2 S2 e2 r2 => ?_⟩
  obtain ⟨k, rfl, hz, p2⟩ := p2
  obtain ⟨b, rfl, hb⟩ := tup_at r2
  obtain ⟨v', g1, g2, g3⟩ := S2.sl i _ h (by intro z; cases z)
  obtain ⟨a', rfl, n0, kvs, ha, ek, rs⟩ := g2
  rw [h1] at g1
  cases g1
  obtain ⟨q1, q2⟩ := putK_rep (k := k) rs (r1.mono e2.s0)
  rw [ek] at q1 q2
  refine ⟨a, _, rfl, .inr ⟨kvs, k, b, ha, rfl, S2.sub _ _ hb, by rw [← ek, List.length_map] at hz; exact hz, rfl⟩, ?_⟩
  exact e.nx _ σ H2 _ p2 (S2.writeAt h rfl rfl h1 ⟨_, upd_same, q1, q2⟩)
theorem ws_dputK {i : Nat} {ks vs} (h : ρ[i]? = some (.oK ks vs)) (w : EvP K W tv ρ (fun v => EvP K W ty ρ (fun y => ∃ k, y = kD k ∧ ks.length < sizeLine ∧ E.nx (ρ.set i (.oK (kput ks k) (vput ks vs k v)))) (fun x => E.ex x ρ)) (fun x => E.ex x ρ)) :
    WS K W (sDPut (tVar i) ty tv) ρ E := fun He0 He σ H0 H D S e => by
  refine w He0 He σ H0 H _ S (e.exs σ ρ) fun v d H1 H1' p S1 e1 r1 => ?_
  obtain ⟨a, h1, _⟩ := DictK.at_ S1 (.inl h)
  refine ⟨_, h1, p He0 He σ H1 H1' _ S1 (e.exs σ ρ) fun u y H2 H2' p2 S2 e2 r2 => ?_⟩
  obtain ⟨k, rfl, hz, p2⟩ := p2
  obtain rfl := r2.kD
  obtain ⟨v', g1, g2, g3⟩ := S2.sl i _ h (by intro z; cases z)
  obtain ⟨a', rfl, n0, kvs, ha, ek, rs⟩ := g2
  rw [h1] at g1
  cases g1
  obtain ⟨q1, q2⟩ := putK_rep (k := k) rs (r1.mono e2.s0)
  rw [ek] at q1 q2
  refine ⟨a, _, rfl, .inl ⟨kvs, k, ha, rfl, by rw [← ek, List.length_map] at hz; exact hz, rfl⟩, ?_⟩
  exact e.nx _ σ H2 _ p2 (S2.writeAt h rfl rfl h1 ⟨_, upd_same, q1, q2⟩)
/-- len of a dict -/
def rLenD : List V → Hp → VK → Prop := fun xs H Q => ∃ p, xs = [V.ref p] ∧ ((∃ kvs, Rd H p (.dK kvs) ∧ Q (.int ((kvs.length : Nat) : Int)) H) ∨ ∃ kvs, Rd H p (.dT kvs) ∧ Q (.int ((kvs.length : Nat) : Int)) H)
theorem call_lenDD {X : Cx} : CallR X (.builtin "len") rLenD := by
  intro pins s σ H xs us Q I r h
  obtain ⟨p, rfl, h⟩ := h
  obtain ⟨u, rfl, rx⟩ := vals1 r
  obtain rfl : u = .ref p := rx
  rcases h with ⟨kvs, ha, q⟩ | ⟨kvs, ha, q⟩
  · exact d_len I ha fun t s' I' => ⟨.int kvs.length, H, I', ⟨t, rfl⟩, q⟩
  · obtain ⟨z, hd, ys, rel, dd⟩ := dt_rd I.hok ha
    have hl : kvs.length = ys.length := Paired.length rel
    refine call_len_dictH hd dd (by rw [← hl]; rw [sizeLine_eq] at z; omega) ?_
    rw [← hl]
    exact ⟨.int ((kvs.length : Nat) : Int), H, I.tok _, ⟨_, rfl⟩, q⟩
theorem ev_lenT {i : Nat} {ks : List (List Key)} {vs} (h : DictT ρ i ks vs) (p : P (.int ks.length)) : EvP K W (tCB rLenD (tCons (tVar i) tNil)) ρ P X := fun He0 He σ H0 H Q S x k => by
  obtain ⟨a, h1, kvs, ha, ek, rs⟩ := h.at_ S
  refine ⟨_, h1, a, rfl, .inr ⟨kvs, ha, ?_⟩⟩
  have e : kvs.length = ks.length := by rw [← ek, List.length_map]
  rw [e]
  exact k _ _ H0 H p S (.refl S.sub) (.int _)
theorem ev_lenK {i : Nat} {ks : List Key} {vs} (h : DictK ρ i ks vs) (p : P (.int ks.length)) : EvP K W (tCB rLenD (tCons (tVar i) tNil)) ρ P X := fun He0 He σ H0 H Q S x k => by
  obtain ⟨a, h1, kvs, ha, ek, rs⟩ := h.at_ S
  refine ⟨_, h1, a, rfl, .inl ⟨kvs, ha, ?_⟩⟩
  have e : kvs.length = ks.length := by rw [← ek, List.length_map]
  rw [e]
  exact k _ _ H0 H p S (.refl S.sub) (.int _)
/-! ### a dict of one's own, locked for good -/
def tLockF (t : TS) : TS := fun D σ H => ∃ d u, H d = some u ∧ Mut (some u) ∧ ∀ od, t D σ (upd H d (.frz od u))
theorem ps_lockF {X : Cx} {st : Stmt} {t : TS} (h : L2.PS X st t) : L2.PS X st (tLockF t) := by
  refine ⟨fun pins s σ H D I hw => ?_⟩
  obtain ⟨d, u, hd, mu, hw⟩ := hw
  obtain ⟨od, I1⟩ := I.lock hd mu
  exact h.run pins s σ _ _ I1 (hw od)
/-- an own thing leaves: the slot is still data, and the address holds o -/
theorem StOk.leave {He0 He : Hp} {σ : St} {H0 H : Hp} (S : StOk K He0 He σ H0 H ρ) {i : Nat} {s : Sl} {a : Addr} {o : HO} {d : D} (h : ρ[i]? = some s) (hs : s.isOwn = true) (e : σ[i]? = some (some (.ref a)))
    (n : ∀ G, Same H0 G → G a = some o → Rp K G (.ref a) d) : ∃ H1, Same H0 H1 ∧ StOk K He0 He σ H1 (upd H a o) (ρ.set i (.dat d)) := by
  obtain ⟨v, h1, h2, h3⟩ := S.sl i s h (by intro z; rw [z] at hs; cases hs)
  obtain ⟨a', rfl, n0, _⟩ := own_of hs h2
  rw [h1] at e
  cases e
  have il : i < ρ.length := (List.getElem?_eq_some_iff.mp h).1
  have s01 : Same H0 (upd H0 a o) := fun b u q => by rw [upd_ne (ne_of_none q n0)]; exact q
  have he := h3 hs a rfl
  refine ⟨_, s01, ⟨⟨S.e.s0.trans s01, fun b u q => by rw [upd_ne (ne_of_none q he)]; exact S.e.s _ _ q, fun b u q => ?_, fun b u q q' => ?_⟩, by rw [List.length_set]; exact S.len, fun j t hj hn => ?_, fun j k t w b hjk hj hk ht hw q => ?_⟩⟩
  · by_cases hb : b = a
    · subst hb; rw [upd_same] at q ⊢; exact q
    · rw [upd_ne hb] at q ⊢; exact S.e.sub _ _ q
  · by_cases hb : b = a
    · subst hb; exact .inl he
    · rw [upd_ne hb] at q'; exact S.e.fr b u q q'
  · by_cases hji : i = j
    · subst hji
      rw [List.getElem?_set_self il] at hj
      cases hj
      exact ⟨.ref a, h1, n _ s01 upd_same, fun z => by cases z⟩
    · rw [List.getElem?_set_ne hji] at hj
      obtain ⟨v', g1, g2, g3⟩ := S.sl j t hj hn
      refine ⟨v', g1, ?_, g3⟩
      by_cases hto : t.isOwn = true
      · obtain ⟨b, rfl, nb, ob⟩ := own_of hto g2
        have hba : b ≠ a := fun z => by
          subst z
          exact S.ap i j s t b hji h hj hs hto h1 g1
        have nb' : upd H0 a o b = none := by rw [upd_ne hba]; exact nb
        have ob' : OwnAt K (upd H0 a o) (upd H a o) b t := by
          cases t with
          | no => exact ob
          | ref c => exact ob
          | dat d => exact ob
          | own ds => obtain ⟨xs, q1, q2⟩ := ob; exact ⟨xs, by rw [upd_ne hba]; exact q1, q2.mono s01⟩
          | oK ks vs => obtain ⟨xs, q1, q2, q3⟩ := ob; exact ⟨xs, by rw [upd_ne hba]; exact q1, q2, q3.mono s01⟩
          | oT ks vs => obtain ⟨xs, q1, q2, q3⟩ := ob; exact ⟨xs, by rw [upd_ne hba]; exact q1, q2, q3.mono s01⟩
        cases t with
        | no => cases hto
        | ref c => cases hto
        | dat d => cases hto
        | own ds => exact ⟨b, rfl, nb', ob'⟩
        | oK ks vs => exact ⟨b, rfl, nb', ob'⟩
        | oT ks vs => exact ⟨b, rfl, nb', ob'⟩
      · cases t with
        | no => trivial
        | ref c => exact g2
        | dat d => exact Rp.mono s01 g2
        | own ds => exact absurd rfl hto
        | oK ks vs => exact absurd rfl hto
        | oT ks vs => exact absurd rfl hto
  · have get : ∀ {j : Nat} {t : Sl}, t.isOwn = true → (ρ.set i (.dat d))[j]? = some t → ρ[j]? = some t := fun {j t} ht q => by
      by_cases hj : i = j
      · subst hj
        rw [List.getElem?_set_self il] at q
        cases q
        cases ht
      · rwa [List.getElem?_set_ne hj] at q
    exact S.ap j k t w b hjk (get ht hj) (get hw hk) ht hw q
theorem ws_lockT {i : Nat} {ks vs} (h : ρ[i]? = some (.oT ks vs)) (w : WS K W ts (ρ.set i (.dat (.fT ks vs))) E) : WS K W (tLockF ts) ρ E := fun He0 He σ H0 H D S e => by
  obtain ⟨v', g1, g2, g3⟩ := S.sl i _ h (by intro z; cases z)
  obtain ⟨a, rfl, n0, kvs, ha, rfl, rs⟩ := g2
  refine ⟨a, _, ha, trivial, fun od => ?_⟩
  obtain ⟨H1, s1, S1⟩ := S.leave (o := .frz od (.dT kvs)) h rfl g1 fun G s q => .fT q (rs.mono s)
  exact w He0 He σ H1 _ D S1 e
theorem ws_lockK {i : Nat} {ks vs} (h : ρ[i]? = some (.oK ks vs)) (w : WS K W ts (ρ.set i (.dat (.fK ks vs))) E) : WS K W (tLockF ts) ρ E := fun He0 He σ H0 H D S e => by
  obtain ⟨v', g1, g2, g3⟩ := S.sl i _ h (by intro z; cases z)
  obtain ⟨a, rfl, n0, kvs, ha, rfl, rs⟩ := g2
  refine ⟨a, _, ha, trivial, fun od => ?_⟩
  obtain ⟨H1, s1, S1⟩ := S.leave (o := .frz od (.dK kvs)) h rfl g1 fun G s q => .fK q (rs.mono s)
  exact w He0 He σ H1 _ D S1 e
end
end DL

set_option maxRecDepth 100000
set_option maxHeartbeats 1000000
/-! walks of all kinds by the data they yield -/
namespace L2
open PySem PySem.Spec PyProof.Rows
/-- the values of the locked dict of tuple keys at d -/
def Itdt (d : Addr) (o : Obj) (kvs : List (List Key × V)) : It :=
  ⟨fun i H => H d = some (.frz o (.dT kvs)) ∧ i < kvs.length, fun i H x H' => H' = H ∧ ∃ k, kvs[i]? = some (k, x), fun i H => H d = some (.frz o (.dT kvs)) ∧ kvs.length ≤ i⟩
section
variable {X : Cx} {pins : List (Addr × Obj)} {σ : St} {H : Hp} {s : Shared} {d : Addr} {o : Obj}
theorem Inv.frzTV {kvs : List (List Key × V)} (I : Inv X pins σ H s) (h : H d = some (.frz o (.dT kvs))) :
    (d == sysModules) = false ∧ ∃ (es : Array DictEntry) (ep : Nat), s.heap.DictRaw d es ep ∧ o.data = .dict es ep ∧ es.size = kvs.length ∧
      ∀ (i : Nat) (k : List Key) (v : V), kvs[i]? = some (k, v) → ∃ (en : DictEntry), es[i]? = some en ∧ RelV v en.val := by
  obtain ⟨hd, z, hs, xs, pr, o', es, ep, ho, hx, hdt, he, _⟩ := I.hok d _ h
  rw [hd] at ho
  cases ho
  refine ⟨hs, es, ep, ⟨o, hd, hx, hdt⟩, hdt, ?_, fun i k v e => ?_⟩
  · have l1 : es.size = xs.length := by rw [← Array.length_toList, he, List.length_map]
    have l2 : kvs.length = xs.length := Paired.length pr
    omega
  · obtain ⟨b, hb, e1, e2, e3⟩ := paired_get pr e
    have q := entry_at he i
    rw [hb] at q
    exact ⟨_, q, e3⟩
end
section
variable {P : Program} {w : World} {K : PySem.W.Frag} {tg : Expr} {d : Addr} {o : Obj} {es : Array DictEntry} {ep : Nat}
theorem turn_valsT {kvs : List (List Key × V)} (it : Addr) (hod : o.data = .dict es ep) : Turn P w K tg (Itdt d o kvs) [it] it (fun i h => h.IsValIter it d i kvs.length ep) where
  mem := by simp
  obj := fun i h st b hb => by
    have e : b = it := by simpa using hb
    subst e
    obtain ⟨oi, e, c, dd⟩ := st
    exact ⟨oi, e, fun v z => by rw [dd] at z; cases z⟩
  keep := fun i h h' st k => st.at fun oi e => k it (by simp) oi e
  item := by
    intro X hP hw hK hc i pins s σ H E I hf st hg
    subst hP hw hK
    obtain ⟨hd, hi⟩ := hg
    obtain ⟨f0, f1, f2, f3, f4, f5⟩ := hf it (by simp)
    obtain ⟨hs, es', ep', raw, hdt, hsz, ent⟩ := I.frzTV hd
    obtain ⟨rfl, rfl⟩ := dict_ep hod hdt
    obtain ⟨⟨k, v⟩, hkv⟩ : ∃ p, kvs[i]? = some p := ⟨kvs[i], List.getElem?_eq_getElem hi⟩
    obtain ⟨en, hen, ru⟩ := ent i k v hkv
    rw [← hsz] at st hi
    have hen' : es'[i] = en := by
      rw [Array.getElem?_eq_getElem hi] at hen
      exact Option.some.inj hen
    refine wpAny_pyNext_values_item_raw st raw hi fun h' st' sb => ?_
    have I1 : Inv X pins σ H { s with heap := h' } := I.turned (t' := s.toks) (fun b ob hb e => (sb.2 b hb).trans e) f0 f1 f3 f4 f5
    obtain ⟨oi, e, c, dd⟩ := id st'
    refine ⟨_, rfl, go_of (s := { s with heap := h' }) e c dd (by decide) ⟨v, H, I1, by rw [hen']; exact ru, ⟨rfl, k, hkv⟩, ?_, fun b hb => (hf b hb).1⟩⟩
    show h'.IsValIter it d (i + 1) kvs.length _
    rw [← hsz]
    exact st'
  done := by
    intro X hP hw hK hc i pins s σ H E I hf st hg
    subst hP hw hK
    obtain ⟨hd, hi⟩ := hg
    obtain ⟨f0, f1, f2, f3, f4, f5⟩ := hf it (by simp)
    obtain ⟨hs, es', ep', raw, hdt, hsz, ent⟩ := I.frzTV hd
    obtain ⟨rfl, rfl⟩ := dict_ep hod hdt
    rw [← hsz] at st hi
    exact wpAny_pyNext_values_end_raw (I.ok.hd hc) st raw hi fun h' eb => ⟨rfl, I.turned (t' := s.toks) (fun b ob hb e => eb b ob hb e) f0 f1 f3 f4 f5⟩
  self := fun A i s Q E st h => wpAny_pyIter_valiter st h
end
/-- locked already, or locked here for good -/
def iValsT (td : TE) : TI := fun σ H R => td σ H fun x H1 => ∃ d kvs, x = .ref d ∧ ((∃ o, H1 d = some (.frz o (.dT kvs)) ∧ R (Itdt d o kvs) H1) ∨ (H1 d = some (.dT kvs) ∧ ∀ o, R (Itdt d o kvs) (upd H1 d (.frz o (.dT kvs)))))
section
variable {X : Cx} {tg e : Expr} {td : TE} {apos cpos : Pos}
theorem pi_valuesT (he : PE X e td) (hbase : attributeBase e "values" X.env (eval e X.env) = eval e X.env := by rfl) (hline : (apos.endLine == cpos.line) = true := by rfl) : PI X tg (.Call (.Attribute e "values" apos) [] [] cpos) (iValsT td) := by
  refine ⟨fun pins s σ H R I h => ?_⟩
  refine wpAny_Call_method (T := "dict") (id := "dict.values") hbase rfl hline F.plainAttrs_dict F.slot_dict_values F.type_dict_values (thn (he.run pins s σ H _ I h) fun u s1 ⟨x, H1, I1, rx, d, kvs, ex, q⟩ => ?_)
  subst ex
  obtain rfl : u = Value.ref d := rx
  have go : ∀ o H2, Inv X pins σ H2 s1 → H2 d = some (.frz o (.dT kvs)) → R (Itdt d o kvs) H2 → s1.TypeIs (.ref d) "dict" ∧ (∀ b, Value.ref d = .ref b → ∃ ob, s1.heap.get? b = some ob ∧ ob.dict = none) ∧
      wpAny (model X.prog X.w) X.A (callWith cpos (.builtin "dict.values") [.ref d] [] []) (fun v s' => wpAny (model X.prog X.w) X.A (pyIter v) (PIE X pins σ tg R) X.xe s') X.xe s1 := by
    intro o H2 I2 hd q
    obtain ⟨hs, es, ep, raw, hdt, hsz, ent⟩ := I2.frzTV hd
    refine ⟨raw.typeIs, fun b q => ?_, ?_⟩
    · cases q
      obtain ⟨ob, h1, h2, _⟩ := raw
      exact ⟨ob, h1, h2.2.1⟩
    have I3 : Inv X pins σ H2 { s1 with heap := s1.heap.push { cls := .type "dict_values", data := .fields #[.ref d] } } := I2.kept (t' := s1.toks) fun b ob q => Heap.get?_push_of_some _ q
    have raw' : (s1.heap.push { cls := .type "dict_values", data := .fields #[.ref d] }).DictRaw d es ep := raw.at fun ob q => Heap.get?_push_of_some _ q
    have fin : wpAny (model X.prog X.w) X.A (pyIter (.ref s1.heap.objs.size)) (PIE X pins σ tg R) X.xe { s1 with heap := s1.heap.push { cls := .type "dict_values", data := .fields #[.ref d] } } := by
      refine wpAny_pyIter_values_raw (d := d) ⟨_, Heap.get?_push_size _ rfl, rfl, rfl⟩ raw' (pi_one (tk := s1.toks) I3 _ (turn_valsT _ hdt) ⟨_, Heap.get?_push_size _ rfl, rfl, ?_⟩ q)
      rw [hsz] <;> rfl
    exact method_meetsIn F.slot_dict_values F.entry_dict_values rfl (PySem.evalArgs_none ⟨rfl, raw.typeIs, F.args_dict_values_1 _, _, meets_dict_values_raw d hs, ⟨es, ep, raw⟩, fin⟩)
  rcases q with ⟨o, hd, q⟩ | ⟨hd, q⟩
  · exact go o H1 I1 hd q
  · obtain ⟨od, I2⟩ := I1.lock hd trivial
    exact go od _ I2 upd_same (q od)
end
end L2
namespace DL
open PySem PySem.Spec L2
section
variable {K : PySem.W.Frag} {W : WX} {te ta tb tc tl td ty tx tv : TE} {tt tu : TT} {ts tr : TS} {tas : TA} {ti : TI} {ρ : Rho} {P : D → Prop} {PB : Bool → Prop} {PS : Sl → Prop} {PA PL : List D → Prop} {X : Exn → Prop} {E : En} {r r' : R2} {g : TG} {u : TGs}
theorem ws_par3 {i j l : Nat} (h : AvP K W tas ρ (fun ds => ∃ x y z, ds = [x, y, z] ∧ E.nx (((ρ.set i (.dat x)).set j (.dat y)).set l (.dat z))) (fun x => E.ex x ρ)) : WS K W (tPar3 i j l tas) ρ E := fun He0 He σ H0 H D S e =>
  h He0 He σ H0 H _ S (e.exs σ ρ) fun vs ds H1 H1' p S1 e1 r1 => by
    obtain ⟨x, y, z, rfl, p⟩ := p
    cases r1 with
    | cons q1 r1 =>
      cases r1 with
      | cons q2 r1 =>
        cases r1 with
        | cons q3 r1 =>
          cases r1
          exact ⟨_, _, _, rfl, e.nx _ _ H1 H1' p (((S1.setD i q1).setD j q2).setD l q3)⟩
theorem DictT.own {i : Nat} {ks : List (List Key)} {vs : List D} (h : ρ[i]? = some (.oT ks vs)) : DictT ρ i ks vs := .inl h
theorem DictT.still {i : Nat} {ks : List (List Key)} {vs : List D} (h : ρ[i]? = some (.dat (.dT ks vs))) : DictT ρ i ks vs := .inr ⟨_, h, .d⟩
theorem DictT.lock {i : Nat} {ks : List (List Key)} {vs : List D} (h : ρ[i]? = some (.dat (.fT ks vs))) : DictT ρ i ks vs := .inr ⟨_, h, .f⟩
theorem DictK.own {i : Nat} {ks : List Key} {vs : List D} (h : ρ[i]? = some (.oK ks vs)) : DictK ρ i ks vs := .inl h
theorem DictK.still {i : Nat} {ks : List Key} {vs : List D} (h : ρ[i]? = some (.dat (.dK ks vs))) : DictK ρ i ks vs := .inr ⟨_, h, .d⟩
theorem DictK.lock {i : Nat} {ks : List Key} {vs : List D} (h : ρ[i]? = some (.dat (.fK ks vs))) : DictK ρ i ks vs := .inr ⟨_, h, .f⟩
theorem bv_yes (p : PB true) : BvP K W tYes ρ PB X := fun He0 He σ H0 H Q S x k => k true H0 H p S (.refl S.sub)
/-- a seam: what holds between the two -/
theorem ws_mid (M : Rho → Prop) (h1 : WS K W ts ρ { E with nx := M }) (h2 : ∀ ρ', M ρ' → WS K W tr ρ' E) : WS K W (tSeq ts tr) ρ E :=
  ws_seq (h1.imp (fun ρ' q => h2 ρ' q) (fun _ q => q) (fun _ q => q) (fun _ q => q) (fun _ _ q => q))
theorem ws_seam (M : Rho → Prop) (h1 : WS K W ts ρ { E with nx := M }) (h2 : ∀ ρ', M ρ' → E.nx ρ') : WS K W ts ρ E :=
  h1.imp (fun ρ' q => h2 ρ' q) (fun _ q => q) (fun _ q => q) (fun _ q => q) (fun _ _ q => q)
/-- a walk yields xs -/
structure ItD (K : PySem.W.Frag) (G0 : Hp) (J : It) (xs : List D) : Prop where
  go : ∀ i H, i < xs.length → Same G0 H → J.go i H
  stop : ∀ H, Same G0 H → J.stop xs.length H
  yld : ∀ i H x H' G, i < xs.length → Same G0 G → Same G H → J.yld i H x H' → ∃ G' d, Ext G H G' H' ∧ xs[i]? = some d ∧ Rp K G' x d
def IvP (K : PySem.W.Frag) (W : WX) (ti : TI) (ρ : Rho) (P : List D → Prop) (X : Exn → Prop) : Prop :=
  ∀ (He0 He : Hp) (σ : St) (H0 H : Hp) (R : It → Hp → Prop), StOk K He0 He σ H0 H ρ → Exs K He0 He W σ ρ X →
    (∀ J xs H0' H', P xs → StOk K He0 He σ H0' H' ρ → Ext H0 H H0' H' → ItD K H0' J xs → R J H') → ti σ H R
theorem ws_forD {tb : TS} (h : IvP K W ti ρ (fun xs => ∃ I : Nat → Rho → Prop, I 0 ρ ∧ (∀ i x ρ', xs[i]? = some x → I i ρ' → Turn1 K W g tb E x ρ' (I (i + 1))) ∧ ∀ ρ', I xs.length ρ' → E.nx ρ') (fun x => E.ex x ρ)) :
    WS K W (tFor ti g tb) ρ E := fun He0 He σ H0 H D S e => by
  refine h He0 He σ H0 H _ S (e.exs σ ρ) fun J xs H1 H1' p S1 e1 itd => ?_
  obtain ⟨I, i0, turn, fin⟩ := p
  refine ⟨fun i m σ H => m = xs.length - i ∧ i ≤ xs.length ∧ ∃ ρ' G, I i ρ' ∧ StOk K H1 He σ G H ρ', ⟨_, rfl, Nat.zero_le _, ρ, H1, i0, S1.base S1.e.s0 (.refl _)⟩, ?_⟩
  rintro i m σ' H' ⟨rfl, hi, ρ', G, hI, S'⟩
  by_cases hlt : i < xs.length
  · refine .inr ⟨itd.go i H' hlt (S'.e.s0.trans S'.e.sub), fun σ H => ∃ ρ' G, I (i + 1) ρ' ∧ StOk K H1 He σ G H ρ', fun σ2 H2 q => ⟨xs.length - (i + 1), by omega, rfl, by omega, q⟩, fun x H2 hy => ?_⟩
    obtain ⟨G', d, e2, hd, rx⟩ := itd.yld i H' x H2 G hlt S'.e.s0 S'.e.sub hy
    exact turn i d ρ' hd hI H1 He σ' G' H2 x _ (S'.ext e2) rx fun ρ'' σ'' w S'' => w H1 He σ'' G' H2 _ S'' (e.loop S1.e fun ρ3 σ3 G3 H3 q3 S3 => ⟨ρ3, G3, q3, S3⟩)
  · obtain rfl : i = xs.length := by omega
    exact .inl ⟨itd.stop H' (S'.e.s0.trans S'.e.sub), e.nx ρ' σ' G H' (fin ρ' hI) (S'.unbase S1.e)⟩
theorem eo_lcD {vs : List Nat} (gi : GIn g vs) (h : IvP K W ti ρ (fun xs => ∃ J : Nat → List D → Prop, J 0 [] ∧ (∀ i x acc, xs[i]? = some x → J i acc → Turn2 K g tt te x (wipeR ρ vs) acc (J (i + 1))) ∧ ∀ acc, J xs.length acc → PS (.own acc)) X) :
    EvO K W (tLc ti g tt te vs) ρ PS X := fun He0 He σ H0 H Q S x k => by
  refine h He0 He σ H0 H _ S x fun It xs H1 H1' p S1 e1 itd L nL => ?_
  obtain ⟨J, j0, turn, fin⟩ := p
  obtain ⟨c0, ap⟩ := CompAt.start (vs := vs) S1 nL
  refine ⟨fun i m H => m = xs.length - i ∧ i ≤ xs.length ∧ ∃ acc G, J i acc ∧ CompAt K He0 He (L2.wipe σ vs) (wipeR ρ vs) H1 H1' L acc G H, ⟨_, rfl, Nat.zero_le _, [], H1, j0, c0⟩, ?_⟩
  rintro i m H ⟨rfl, hi, acc, G, hj, C⟩
  by_cases hlt : i < xs.length
  · refine .inr ⟨itd.go i H hlt (C.e.s0.trans C.e.sub), fun H => ∃ acc G, J (i + 1) acc ∧ CompAt K He0 He (L2.wipe σ vs) (wipeR ρ vs) H1 H1' L acc G H, fun H2 q => ⟨xs.length - (i + 1), by omega, rfl, by omega, q⟩, fun x H2 hy => ?_⟩
    obtain ⟨G', d, e2, hd, rx⟩ := itd.yld i H x H2 G hlt C.e.s0 C.e.sub hy
    have C2 : CompAt K He0 He (L2.wipe σ vs) (wipeR ρ vs) H1 H1' L acc G' H2 := by
      obtain ⟨ys, hL, rs⟩ := C.at_
      exact ⟨C.S.ext e2, C.e.trans e2, ⟨ys, e2.s _ _ hL, rs.mono e2.s0⟩, e2.none C.n0 hL⟩
    exact lc_turn gi nL S1.e.s ap C2 rx (turn i d acc hd hj) fun acc' G' H' j' C' => ⟨acc', G', j', C'⟩
  · obtain rfl : i = xs.length := by omega
    refine .inl ⟨itd.stop H (C.e.s0.trans C.e.sub), ?_⟩
    obtain ⟨f1, f2, f3⟩ := C.finO S1 nL
    exact k _ _ G H (fin acc hj) f1 (e1.trans f2) f3 fun _ a e => by cases e; exact e1.s.free nL
/-! ### the walks -/
theorem itd_list {H0 : Hp} {a : Addr} {xs : List V} {ds : List D} (ha : H0 a = some (.lst xs)) (rs : Rps K H0 xs ds) : ItD K H0 (Itl K a) ds where
  go := fun i H hi s => ⟨xs, xs[i]'(by rw [rs.length]; exact hi), .inl (.inl (s _ _ ha)), List.getElem?_eq_getElem _⟩
  stop := fun H s => ⟨xs, .inl (.inl (s _ _ ha)), by rw [rs.length]; exact Nat.le_refl _⟩
  yld := fun i H x H' G hi s s' hy => by
    obtain ⟨rfl, hy⟩ := hy
    have hx := hy xs (.inl (.inl (s' _ _ (s _ _ ha))))
    obtain ⟨d, hd, rx⟩ := rs.get' hx
    exact ⟨G, d, .refl s', hd, rx.mono s⟩
theorem iv_list (h : EvP K W tl ρ (fun d => ∃ ds, d = .lst ds ∧ PL ds) X) : IvP K W (iList K tl) ρ PL X := fun He0 He σ H0 H R S x k => by
  refine h He0 He σ H0 H _ S x fun v d H1 H1' p S1 e1 r1 => ?_
  obtain ⟨ds, rfl, p⟩ := p
  cases r1 with
  | lst ha rs => exact ⟨_, rfl, ⟨_, .inl (.inl (S1.sub _ _ ha))⟩, k _ _ H1 H1' p S1 e1 (itd_list ha rs)⟩
theorem itd_tup {H0 : Hp} {a : Addr} {xs : List V} {ds : List D} (ha : H0 a = some (.tup xs)) (rs : Rps K H0 xs ds) : ItD K H0 (Itt K a) ds where
  go := fun i H hi s => ⟨xs, xs[i]'(by rw [rs.length]; exact hi), .inl (.inl (s _ _ ha)), List.getElem?_eq_getElem _⟩
  stop := fun H s => ⟨xs, .inl (.inl (s _ _ ha)), by rw [rs.length]; exact Nat.le_refl _⟩
  yld := fun i H x H' G hi s s' hy => by
    obtain ⟨rfl, hy⟩ := hy
    have hx := hy xs (.inl (.inl (s' _ _ (s _ _ ha))))
    obtain ⟨d, hd, rx⟩ := rs.get' hx
    exact ⟨G, d, .refl s', hd, rx.mono s⟩
theorem iv_tup (h : EvP K W tl ρ (fun d => ∃ ds, d = .tup ds ∧ PL ds) X) : IvP K W (iTup K tl) ρ PL X := fun He0 He σ H0 H R S x k => by
  refine h He0 He σ H0 H _ S x fun v d H1 H1' p S1 e1 r1 => ?_
  obtain ⟨ds, rfl, p⟩ := p
  cases r1 with
  | tup ha rs => exact ⟨_, rfl, ⟨_, .inl (.inl (S1.sub _ _ ha))⟩, k _ _ H1 H1' p S1 e1 (itd_tup ha rs)⟩
/-- lo, lo + c, .. -/
def stepD (lo c : Int) (n : Nat) : List D := (List.range n).map fun i => .int (lo + ((i : Nat) : Int) * c)
theorem stepD_get {lo c : Int} {n i : Nat} (h : i < n) : (stepD lo c n)[i]? = some (.int (lo + ((i : Nat) : Int) * c)) := by
  unfold stepD
  rw [List.getElem?_map, List.getElem?_range h]; rfl
theorem stepD_len {lo c : Int} {n : Nat} : (stepD lo c n).length = n := by unfold stepD; rw [List.length_map, List.length_range]
theorem itd_step {H0 : Hp} (lo c : Int) (n : Nat) : ItD K H0 (Itc lo c n) (stepD lo c n) where
  go := fun i H hi s => by rw [stepD_len] at hi; exact hi
  stop := fun H s => by rw [stepD_len]; exact Nat.le_refl _
  yld := fun i H x H' G hi s s' hy => by
    rw [stepD_len] at hi
    obtain ⟨rfl, rfl⟩ := hy
    exact ⟨G, _, .refl s', stepD_get hi, .int _⟩
/-- range(i, j, -1) -/
theorem iv_down (h : AvP K W tas ρ (fun ds => ∃ i j : Int, ds = [.int i, .int j, .int (-1)] ∧ (-(2 ^ 62) ≤ i ∧ i < 2 ^ 62 ∧ -(2 ^ 62) ≤ j ∧ j < 2 ^ 62) ∧ PL (stepD i (-1) (i - j).toNat)) X) : IvP K W (iRng3 tas) ρ PL X := fun He0 He σ H0 H R S x k => by
  refine h He0 He σ H0 H _ S x fun vs ds H1 H1' p S1 e1 r1 => ?_
  obtain ⟨i, j, rfl, ⟨b1, b2, b3, b4⟩, p⟩ := p
  cases r1 with
  | cons q1 r1 =>
    cases q1
    cases r1 with
    | cons q2 r1 =>
      cases q2
      cases r1 with
      | cons q3 r1 =>
        cases q3
        cases r1
        exact ⟨i, j, -1, _, rfl, .neg b1 b2 b3 b4, k _ _ H1 H1' p S1 e1 (itd_step _ _ _)⟩
theorem itd_enum {H0 : Hp} {a : Addr} {xs : List V} {ds : List D} (ha : SqL K H0 a xs) (rs : Rps K H0 xs ds) : ItD K H0 (Ite K a) ((List.range ds.length).zipWith (fun i d => .tup [.int ((i : Nat) : Int), d]) ds) where
  go := fun i H hi s => by
    have hi' : i < ds.length := by simpa using hi
    exact ⟨xs, xs[i]'(by rw [rs.length]; exact hi'), s.seq ha, List.getElem?_eq_getElem _⟩
  stop := fun H s => ⟨xs, s.seq ha, by rw [rs.length]; simp⟩
  yld := fun i H x H' G hi s s' hy => by
    have hi' : i < ds.length := by simpa using hi
    obtain ⟨T, y, rfl, hT, rfl, hy⟩ := hy
    have hx := hy xs ((s.trans s').seq ha)
    obtain ⟨d, hd, rx⟩ := rs.get' hx
    refine ⟨upd G T (.tup [.int ((i : Nat) : Int), y]), .tup [.int ((i : Nat) : Int), d], .new s' hT, ?_, .tup upd_same (.cons (.int _) (.one (rx.mono (s.trans fun b o q => by rw [upd_ne (ne_of_none q (s'.free hT))]; exact q))))⟩
    rw [List.getElem?_zipWith, List.getElem?_range hi', hd]
def enumD (ds : List D) : List D := (List.range ds.length).zipWith (fun i d => .tup [.int ((i : Nat) : Int), d]) ds
theorem enumD_len {ds : List D} : (enumD ds).length = ds.length := by simp [enumD]
theorem enumD_get {ds : List D} {i : Nat} {x : D} (h : (enumD ds)[i]? = some x) : ∃ d, ds[i]? = some d ∧ x = .tup [.int ((i : Nat) : Int), d] := by
  unfold enumD at h
  rw [List.getElem?_zipWith] at h
  cases q : ds[i]? with
  | none => rw [q] at h; cases hh : (List.range ds.length)[i]? <;> rw [hh] at h <;> simp at h
  | some d =>
    have hi : i < ds.length := (List.getElem?_eq_some_iff.mp q).1
    rw [List.getElem?_range hi, q] at h
    exact ⟨d, rfl, by simpa using h.symm⟩
theorem iv_enum (h : EvP K W tl ρ (fun d => ∃ ds, d = .lst ds ∧ PL (enumD ds)) X) : IvP K W (iEnum K (tCons tl tNil)) ρ PL X := fun He0 He σ H0 H R S x k => by
  refine h He0 He σ H0 H _ S x fun v d H1 H1' p S1 e1 r1 => ?_
  obtain ⟨ds, rfl, p⟩ := p
  cases r1 with
  | lst ha rs => exact ⟨_, _, rfl, .inl (.inl (S1.sub _ _ ha)), k _ _ H1 H1' p S1 e1 (itd_enum (.inl (.inl ha)) rs)⟩
theorem itd_vals {H0 : Hp} {d : Addr} {o : Obj} {kvs : List (List Key × V)} {ds : List D} (ha : H0 d = some (.frz o (.dT kvs))) (rs : Rps K H0 (kvs.map (·.2)) ds) : ItD K H0 (Itdt d o kvs) ds where
  go := fun i H hi s => ⟨s _ _ ha, by have := rs.length; rw [List.length_map] at this; omega⟩
  stop := fun H s => ⟨s _ _ ha, by have := rs.length; rw [List.length_map] at this; omega⟩
  yld := fun i H x H' G hi s s' hy => by
    obtain ⟨rfl, k, hk⟩ := hy
    obtain ⟨d, hd, rx⟩ := rs.get' (i := i) (v := x) (by rw [List.getElem?_map, hk]; rfl)
    exact ⟨G, d, .refl s', hd, rx.mono s⟩
/-- the values of a dict of tuple keys that nobody else holds -/
theorem iv_valsN (h : EvO K W td ρ (fun s => ∃ ks vs, s = .oT ks vs ∧ PL vs) X) : IvP K W (iValsT td) ρ PL X := fun He0 He σ H0 H R S x k => by
  refine h He0 He σ H0 H _ S x fun v s H1 H1' p S1 e1 r1 n1 => ?_
  obtain ⟨ks, vs, rfl, p⟩ := p
  obtain ⟨a, rfl, n0, kvs, ha, rfl, rs⟩ := r1
  refine ⟨a, kvs, rfl, .inr ⟨ha, fun o => ?_⟩⟩
  have na := n1 rfl a rfl
  have ap : ∀ (j : Nat) (t : Sl), ρ[j]? = some t → t.isOwn = true → σ[j]? ≠ some (some (.ref a)) := fun j t hj ht e => by
    obtain ⟨v', h1, h2, h3⟩ := S.sl j t hj (by intro z; rw [z] at ht; cases ht)
    obtain ⟨b, rfl, n0', ob⟩ := own_of ht h2
    rw [h1] at e
    cases e
    obtain ⟨u, hu, _⟩ := ob.there
    rw [na] at hu
    cases hu
  have s01 : Same H1 (upd H1 a (.frz o (.dT kvs))) := fun b u q => by rw [upd_ne (ne_of_none q n0)]; exact q
  have ew := e1.writeO (o := .frz o (.dT kvs)) na n0
  have e2 := ew.still na upd_same
  exact k _ vs _ _ p (S.ext e2) e2 (itd_vals upd_same (rs.mono s01))
theorem iv_valsT {i : Nat} {ks vs} (h : ρ[i]? = some (.dat (.fT ks vs))) (p : PL vs) : IvP K W (iValsT (tVar i)) ρ PL X := fun He0 He σ H0 H R S x k => by
  obtain ⟨v, h1, h2⟩ := S.dat h
  cases h2 with
  | fT ha rs => exact ⟨_, h1, _, _, rfl, .inl ⟨_, S.sub _ _ ha, k _ _ H0 H p S (.refl S.sub) (itd_vals ha rs)⟩⟩
theorem itd_keysT {H0 : Hp} {d : Addr} {o : Obj} {kvs : List (List Key × V)} (ha : H0 d = some (.frz o (.dT kvs))) : ItD K H0 (Itkt d o kvs) ((kvs.map (·.1)).map tD) where
  go := fun i H hi s => ⟨s _ _ ha, by simpa using hi⟩
  stop := fun H s => ⟨s _ _ ha, by simp⟩
  yld := fun i H x H' G hi s s' hy => by
    obtain ⟨rfl, kk, v, q, hk, rfl, hq⟩ := hy
    have hg : ((kvs.map (·.1)).map tD)[i]? = some (tD kk) := by rw [List.getElem?_map, List.getElem?_map, hk]; rfl
    cases hG : G q with
    | some u =>
      have hu : u = .tup (kk.map kV) := by
        have z := s' _ _ hG
        rw [hq] at z
        exact (Option.some.inj z).symm
      exact ⟨G, _, .refl s', hg, .tup (by rw [hG, hu]) (Rps.of_kDs kk)⟩
    | none =>
      refine ⟨upd G q (.tup (kk.map kV)), _, ⟨fun b u z => by rw [upd_ne (ne_of_none z hG)]; exact z, .refl _, fun b u z => ?_, fun b u z z' => ?_⟩, hg, .tup upd_same (Rps.of_kDs kk)⟩
      · by_cases hb : b = q
        · subst hb; rw [upd_same] at z; cases z; exact hq
        · rw [upd_ne hb] at z; exact s' _ _ z
      · by_cases hb : b = q
        · subst hb; exact .inr ⟨_, hq⟩
        · rw [upd_ne hb] at z'; rw [z] at z'; cases z'
theorem itd_keysK {H0 : Hp} {d : Addr} {o : Obj} {kvs : List (Key × V)} (ha : H0 d = some (.frz o (.dK kvs))) : ItD K H0 (Itk d o kvs) ((kvs.map (·.1)).map kD) where
  go := fun i H hi s => ⟨s _ _ ha, by simpa using hi⟩
  stop := fun H s => ⟨s _ _ ha, by simp⟩
  yld := fun i H x H' G hi s s' hy => by
    obtain ⟨rfl, kk, v, hk, rfl⟩ := hy
    exact ⟨G, kD kk, .refl s', by rw [List.getElem?_map, List.getElem?_map, hk]; rfl, .of_kD kk⟩
theorem iv_keysT {i : Nat} {ks vs} (h : ρ[i]? = some (.dat (.fT ks vs))) (p : PL (ks.map tD)) : IvP K W (iKeys (tVar i)) ρ PL X := fun He0 He σ H0 H R S x k => by
  obtain ⟨v, h1, h2⟩ := S.dat h
  cases h2 with
  | fT ha rs => exact ⟨_, h1, _, _, rfl, .inr ⟨_, S.sub _ _ ha, k _ _ H0 H p S (.refl S.sub) (itd_keysT ha)⟩⟩
theorem iv_keysK {i : Nat} {ks vs} (h : ρ[i]? = some (.dat (.fK ks vs))) (p : PL (ks.map kD)) : IvP K W (iKeys (tVar i)) ρ PL X := fun He0 He σ H0 H R S x k => by
  obtain ⟨v, h1, h2⟩ := S.dat h
  cases h2 with
  | fK ha rs => exact ⟨_, h1, _, _, rfl, .inl ⟨_, S.sub _ _ ha, k _ _ H0 H p S (.refl S.sub) (itd_keysK ha)⟩⟩
end
end DL

set_option maxRecDepth 100000
set_option maxHeartbeats 1000000
namespace DL
open PySem PySem.Spec L2
theorem atI_nn {α : Type} {xs : List α} {i : Int} {n : Nat} {x : α} (e : i = n) (h : xs[n]? = some x) : atI xs i = some x := by
  subst e
  exact atI_nat h
/-! ### integers, ascending -/
def srt (l : List Int) : List Int := l.mergeSort fun a b => decide (a ≤ b)
theorem srt_perm (l : List Int) : (srt l).Perm l := List.mergeSort_perm _ _
theorem srt_up (l : List Int) : (srt l).Pairwise (· ≤ ·) := by
  have := List.pairwise_mergeSort (le := fun a b : Int => decide (a ≤ b)) (fun a b c h1 h2 => by simp only [decide_eq_true_eq] at *; omega) (fun a b => by simp only [Bool.or_eq_true, decide_eq_true_eq]; omega) l
  exact this.imp fun h => of_decide_eq_true h
theorem srt_is {l l' : List Int} (hp : l'.Perm l) (hw : l'.Pairwise (· ≤ ·)) : l' = srt l :=
  List.Perm.eq_of_pairwise (fun _ _ _ _ a b => Int.le_antisymm a b) hw (srt_up l) (hp.trans (srt_perm l).symm)
theorem srt_eq {l l' : List Int} (hp : l'.Perm l) : srt l' = srt l := srt_is ((srt_perm l').trans hp) (srt_up l')
theorem srt_mem {l : List Int} {x : Int} : x ∈ srt l ↔ x ∈ l := (srt_perm l).mem_iff
theorem srt_len {l : List Int} : (srt l).length = l.length := (srt_perm l).length_eq
theorem srt_fix {l : List Int} (h : l.Pairwise (· ≤ ·)) : srt l = l := (srt_is (.refl l) h).symm
section
variable {K : PySem.W.Frag} {W : WX} {P : D → Prop}
theorem cd_srtT {l : List Int} (p : P (.lst ((srt l).map D.int))) : CbD K (rSortedA K) [.tup (l.map D.int)] P := cd_sortedT fun l' hp hw => by rw [srt_is hp hw]; exact p
theorem cd_srtL {l : List Int} (p : P (.lst ((srt l).map D.int))) : CbD K (rSortedA K) [.lst (l.map D.int)] P := cd_sortedL fun l' hp hw => by rw [srt_is hp hw]; exact p
end
end DL

set_option maxRecDepth 100000
set_option maxHeartbeats 4000000
namespace K82
open PySem PySem.Spec L2 DL

def topS (i : Nat) : Stmt := PySem.Challenge.pw_paironce_k82_whole_classes.main.body.getD i (.Pass ⟨0, 0, 0, 0⟩)
abbrev s_size_of : Stmt := topS 6
theorem sc_size_of : FnScope ["figures", "size", "_"] ["figures"] (defScope s_size_of) := ⟨rfl, rfl, rfl, by decide +kernel, rfl, by decide +kernel, by decide +kernel⟩
abbrev s_check_point : Stmt := topS 7
theorem sc_check_point : FnScope ["size", "point"] ["size", "point"] (defScope s_check_point) := ⟨rfl, rfl, rfl, by decide +kernel, rfl, by decide +kernel, by decide +kernel⟩
abbrev s_mixed : Stmt := topS 8
theorem sc_mixed : FnScope ["one", "other", "sign", "found", "step"] ["one", "other", "sign"] (defScope s_mixed) := ⟨rfl, rfl, rfl, by decide +kernel, rfl, by decide +kernel, by decide +kernel⟩
abbrev s_class_count : Stmt := topS 9
theorem sc_class_count : FnScope ["figures"] ["figures"] (defScope s_class_count) := ⟨rfl, rfl, rfl, by decide +kernel, rfl, by decide +kernel, by decide +kernel⟩
abbrev s_first_power : Stmt := topS 10
theorem sc_first_power : FnScope ["direction", "step"] ["direction"] (defScope s_first_power) := ⟨rfl, rfl, rfl, by decide +kernel, rfl, by decide +kernel, by decide +kernel⟩
abbrev s_class_of : Stmt := topS 11
theorem sc_class_of : FnScope ["figures", "a", "b", "size", "direction", "step"] ["figures", "a", "b"] (defScope s_class_of) := ⟨rfl, rfl, rfl, by decide +kernel, rfl, by decide +kernel, by decide +kernel⟩
abbrev s_direction_of : Stmt := topS 12
theorem sc_direction_of : FnScope ["figures", "number", "step"] ["figures", "number"] (defScope s_direction_of) := ⟨rfl, rfl, rfl, by decide +kernel, rfl, by decide +kernel, by decide +kernel⟩
abbrev s_line_through : Stmt := topS 13
theorem sc_line_through : FnScope ["figures", "number", "point", "size", "direction"] ["figures", "number", "point"] (defScope s_line_through) := ⟨rfl, rfl, rfl, by decide +kernel, rfl, by decide +kernel, by decide +kernel⟩
abbrev s_law_row : Stmt := topS 15
theorem sc_law_row : FnScope ["_law_cell", "_law_many", "_law_row_here", "_law_rest", "_law_mixed", "_law_k"] ["_law_cell", "_law_many"] (defScope s_law_row) := ⟨rfl, rfl, rfl, by decide +kernel, rfl, by decide +kernel, by decide +kernel⟩
abbrev s_law_numbers : Stmt := topS 16
theorem sc_law_numbers : FnScope ["_law_script", "_law_many", "_law_cells", "_law_each", "_law_numbers_here", "_law_cell", "_law_number"] ["_law_script", "_law_many"] (defScope s_law_numbers) := ⟨rfl, rfl, rfl, by decide +kernel, rfl, by decide +kernel, by decide +kernel⟩
abbrev s_law_pick : Stmt := topS 17
theorem sc_law_pick : FnScope ["_law_numbers_here", "_law_at", "_law_most"] ["_law_numbers_here", "_law_at", "_law_most"] (defScope s_law_pick) := ⟨rfl, rfl, rfl, by decide +kernel, rfl, by decide +kernel, by decide +kernel⟩
abbrev s_law_figures : Stmt := topS 18
theorem sc_law_figures : FnScope ["_law_value", "_law_many", "_law_found", "_law_k"] ["_law_value", "_law_many"] (defScope s_law_figures) := ⟨rfl, rfl, rfl, by decide +kernel, rfl, by decide +kernel, by decide +kernel⟩
abbrev s_law_point : Stmt := topS 19
theorem sc_law_point : FnScope ["_law_figures_here", "_law_value", "_law_k"] ["_law_figures_here"] (defScope s_law_point) := ⟨rfl, rfl, rfl, by decide +kernel, rfl, by decide +kernel, by decide +kernel⟩
abbrev s_law : Stmt := topS 20
theorem sc_law : FnScope ["_law_script", "_law_numbers_here", "_law_many", "_law_a", "_law_b", "_law_c", "_law_number", "_law_first", "_law_second", "_law_third", "_law_three", "_law_other", "_law_k", "_law_point_here"] ["_law_script"] (defScope s_law) := ⟨rfl, rfl, rfl, by decide +kernel, rfl, by decide +kernel, by decide +kernel⟩
/-- where things stand -/
structure Ad where
  f_size_of : Addr
  d_size_of : FuncData
  f_check_point : Addr
  d_check_point : FuncData
  f_mixed : Addr
  d_mixed : FuncData
  f_class_count : Addr
  d_class_count : FuncData
  f_first_power : Addr
  d_first_power : FuncData
  f_class_of : Addr
  d_class_of : FuncData
  f_direction_of : Addr
  d_direction_of : FuncData
  f_line_through : Addr
  d_line_through : FuncData
  f_law_row : Addr
  d_law_row : FuncData
  f_law_numbers : Addr
  d_law_numbers : FuncData
  f_law_pick : Addr
  d_law_pick : FuncData
  f_law_figures : Addr
  d_law_figures : FuncData
  f_law_point : Addr
  d_law_point : FuncData
  f_law : Addr
  d_law : FuncData
structure Txt (K : PySem.W.Frag) (mg : Str → Option Value) (A : Ad) : Prop where
  F_size_of : Fun K "size_of" "size_of" s_size_of A.f_size_of A.d_size_of
  g_size_of : mg "size_of" = some (.ref A.f_size_of)
  b_size_of : Binds K A.d_size_of ["figures"] []
  F_check_point : Fun K "check_point" "check_point" s_check_point A.f_check_point A.d_check_point
  g_check_point : mg "check_point" = some (.ref A.f_check_point)
  b_check_point : Binds K A.d_check_point ["size", "point"] []
  F_mixed : Fun K "mixed" "mixed" s_mixed A.f_mixed A.d_mixed
  g_mixed : mg "mixed" = some (.ref A.f_mixed)
  b_mixed : Binds K A.d_mixed ["one", "other", "sign"] []
  F_class_count : Fun K "class_count" "class_count" s_class_count A.f_class_count A.d_class_count
  g_class_count : mg "class_count" = some (.ref A.f_class_count)
  b_class_count : Binds K A.d_class_count ["figures"] []
  F_first_power : Fun K "first_power" "first_power" s_first_power A.f_first_power A.d_first_power
  g_first_power : mg "first_power" = some (.ref A.f_first_power)
  b_first_power : Binds K A.d_first_power ["direction"] []
  F_class_of : Fun K "class_of" "class_of" s_class_of A.f_class_of A.d_class_of
  g_class_of : mg "class_of" = some (.ref A.f_class_of)
  b_class_of : Binds K A.d_class_of ["figures", "a", "b"] []
  F_direction_of : Fun K "direction_of" "direction_of" s_direction_of A.f_direction_of A.d_direction_of
  g_direction_of : mg "direction_of" = some (.ref A.f_direction_of)
  b_direction_of : Binds K A.d_direction_of ["figures", "number"] []
  F_line_through : Fun K "line_through" "line_through" s_line_through A.f_line_through A.d_line_through
  g_line_through : mg "line_through" = some (.ref A.f_line_through)
  b_line_through : Binds K A.d_line_through ["figures", "number", "point"] []
  F_law_row : Fun K "_law_row" "_law_row" s_law_row A.f_law_row A.d_law_row
  g_law_row : mg "_law_row" = some (.ref A.f_law_row)
  b_law_row : Binds K A.d_law_row ["_law_cell", "_law_many"] []
  F_law_numbers : Fun K "_law_numbers" "_law_numbers" s_law_numbers A.f_law_numbers A.d_law_numbers
  g_law_numbers : mg "_law_numbers" = some (.ref A.f_law_numbers)
  b_law_numbers : Binds K A.d_law_numbers ["_law_script", "_law_many"] []
  F_law_pick : Fun K "_law_pick" "_law_pick" s_law_pick A.f_law_pick A.d_law_pick
  g_law_pick : mg "_law_pick" = some (.ref A.f_law_pick)
  b_law_pick : Binds K A.d_law_pick ["_law_numbers_here", "_law_at", "_law_most"] []
  F_law_figures : Fun K "_law_figures" "_law_figures" s_law_figures A.f_law_figures A.d_law_figures
  g_law_figures : mg "_law_figures" = some (.ref A.f_law_figures)
  b_law_figures : Binds K A.d_law_figures ["_law_value", "_law_many"] []
  F_law_point : Fun K "_law_point" "_law_point" s_law_point A.f_law_point A.d_law_point
  g_law_point : mg "_law_point" = some (.ref A.f_law_point)
  b_law_point : Binds K A.d_law_point ["_law_figures_here"] []
  F_law : Fun K "law" "law" s_law A.f_law A.d_law
  g_law : mg "law" = some (.ref A.f_law)
  b_law : Binds K A.d_law ["_law_script"] []
  z_abs : mg "abs" = none
  z_int : mg "int" = none
  z_len : mg "len" = none
  z_max : mg "max" = none
  z_range : mg "range" = none
  z_sorted : mg "sorted" = none
  z_tuple : mg "tuple" = none
  c_MOST_FIGURES : ∃ t, mg "MOST_FIGURES" = some (.int 60 t)
end K82

set_option maxRecDepth 100000
set_option maxHeartbeats 4000000
namespace K82
/-! figures to the base 3, the lowest first -/
def num : List Nat → Nat
  | [] => 0
  | d :: ds => d + 3 * num ds
def Ok3 (u : List Nat) : Prop := ∀ d ∈ u, d < 3
theorem Ok3.tail {d : Nat} {u : List Nat} (h : Ok3 (d :: u)) : Ok3 u := fun x hx => h x (List.mem_cons_of_mem _ hx)
theorem Ok3.head {d : Nat} {u : List Nat} (h : Ok3 (d :: u)) : d < 3 := h d List.mem_cons_self
theorem num_lt : ∀ {u : List Nat}, Ok3 u → num u < 3 ^ u.length
  | [], _ => by simp [num]
  | d :: u, h => by
    have := num_lt h.tail
    have := h.head
    simp only [num, List.length_cons, Nat.pow_succ]
    omega
theorem num_inj : ∀ {u v : List Nat}, Ok3 u → Ok3 v → u.length = v.length → num u = num v → u = v
  | [], [], _, _, _, _ => rfl
  | [], _ :: _, _, _, h, _ => by simp at h
  | _ :: _, [], _, _, h, _ => by simp at h
  | d :: u, e :: v, h1, h2, h3, h4 => by
    have := h1.head
    have := h2.head
    simp only [num] at h4
    have e1 : d = e := by omega
    have e2 : num u = num v := by omega
    rw [e1, num_inj h1.tail h2.tail (by simpa using h3) e2]
/-- the figures of a number -/
def figs : Nat → Nat → List Nat
  | 0, _ => []
  | n + 1, v => v % 3 :: figs n (v / 3)
theorem figs_ok : ∀ (n v : Nat), Ok3 (figs n v)
  | 0, _ => fun _ h => by simp [figs] at h
  | n + 1, v => fun d h => by
    rcases List.mem_cons.mp h with z | z
    · omega
    · exact figs_ok n _ d z
theorem figs_len : ∀ (n v : Nat), (figs n v).length = n
  | 0, _ => rfl
  | n + 1, v => by simp [figs, figs_len n]
theorem num_figs : ∀ (n v : Nat), v < 3 ^ n → num (figs n v) = v
  | 0, v, h => by simp at h; simp [figs, num, h]
  | n + 1, v, h => by
    simp only [figs, num]
    rw [num_figs n _ (by rw [Nat.pow_succ] at h; omega)]
    omega
/-- x + s y, figure by figure -/
def cmb (s : Nat) : List Nat → List Nat → List Nat
  | x :: u, y :: v => (x + s * y) % 3 :: cmb s u v
  | _, _ => []
theorem cmb_ok (s : Nat) : ∀ (u v : List Nat), Ok3 (cmb s u v)
  | [], _ => fun _ h => by simp [cmb] at h
  | _ :: _, [] => fun _ h => by simp [cmb] at h
  | x :: u, y :: v => fun d h => by
    rcases List.mem_cons.mp h with z | z
    · omega
    · exact cmb_ok s u v d z
theorem cmb_len (s : Nat) : ∀ {u v : List Nat}, u.length = v.length → (cmb s u v).length = u.length
  | [], [], _ => rfl
  | [], _ :: _, h => by simp at h
  | _ :: _, [], h => by simp at h
  | x :: u, y :: v, h => by simp [cmb, cmb_len s (u := u) (v := v) (by simpa using h)]
/-- what the loop of mixed makes -/
def mx (s : Nat) : Nat → Nat → Nat → Nat
  | 0, _, _ => 0
  | n + 1, a, b => if a = 0 ∧ b = 0 then 0 else (a + s * b) % 3 + 3 * mx s n (a / 3) (b / 3)
theorem mx_num (s : Nat) : ∀ {u v : List Nat}, Ok3 u → Ok3 v → u.length = v.length → mx s u.length (num u) (num v) = num (cmb s u v)
  | [], [], _, _, _ => rfl
  | [], _ :: _, _, _, h => by simp at h
  | _ :: _, [], _, _, h => by simp at h
  | x :: u, y :: v, h1, h2, h => by
    have a1 := h1.head
    have a2 := h2.head
    have ih := mx_num s h1.tail h2.tail (by simpa using h)
    have e1 : (x + 3 * num u) / 3 = num u := by omega
    have e2 : (y + 3 * num v) / 3 = num v := by omega
    have e3 : (x + 3 * num u + s * (y + 3 * num v)) % 3 = (x + s * y) % 3 := by
      rw [Nat.mul_add, show s * (3 * num v) = 3 * (s * num v) from by rw [Nat.mul_left_comm]]
      omega
    simp only [List.length_cons, mx, num, cmb]
    rw [e1, e2, e3, ih]
    split
    · rename_i hz
      have x0 : x = 0 := by omega
      have y0 : y = 0 := by omega
      have nu : num u = 0 := by omega
      have nv : num v = 0 := by omega
      subst x0 y0
      have : num (cmb s u v) = 0 := by
        rw [← ih, nu, nv]
        cases u.length <;> simp [mx]
      simp [this]
    · rfl
def zer (n : Nat) : List Nat := List.replicate n 0
def neg (u : List Nat) : List Nat := cmb 2 (zer u.length) u
/-- the third point -/
def thd (u v : List Nat) : List Nat := cmb 2 (cmb 2 (zer u.length) u) v
theorem neg_len {u : List Nat} : (neg u).length = u.length := by unfold neg; rw [cmb_len 2 (by simp [zer])]; simp [zer]
theorem neg_ok {u : List Nat} : Ok3 (neg u) := cmb_ok _ _ _
theorem neg_cons {x : Nat} {u : List Nat} : neg (x :: u) = 2 * x % 3 :: neg u := by
  show (0 + 2 * x) % 3 :: neg u = _
  rw [Nat.zero_add]
theorem thd_cons {x y : Nat} {u v : List Nat} : thd (x :: u) (y :: v) = (2 * x % 3 + 2 * y) % 3 :: thd u v := by
  show ((0 + 2 * x) % 3 + 2 * y) % 3 :: thd u v = _
  rw [Nat.zero_add]
/-- an identity that holds for figures holds for lists of them -/
theorem ext2 {f g : List Nat → List Nat → List Nat} {F G : Nat → Nat → Nat} (f0 : f [] [] = []) (g0 : g [] [] = []) (fc : ∀ x u y v, f (x :: u) (y :: v) = F x y :: f u v) (gc : ∀ x u y v, g (x :: u) (y :: v) = G x y :: g u v)
    (h : ∀ x y, x < 3 → y < 3 → F x y = G x y) : ∀ {u v : List Nat}, Ok3 u → Ok3 v → u.length = v.length → f u v = g u v
  | [], [], _, _, _ => by rw [f0, g0]
  | [], _ :: _, _, _, h => by simp at h
  | _ :: _, [], _, _, h => by simp at h
  | x :: u, y :: v, h1, h2, hl => by
    rw [fc, gc, h x y h1.head h2.head, ext2 f0 g0 fc gc h h1.tail h2.tail (by simpa using hl)]
theorem dig3 {P : Nat → Nat → Prop} (h : P 0 0 ∧ P 0 1 ∧ P 0 2 ∧ P 1 0 ∧ P 1 1 ∧ P 1 2 ∧ P 2 0 ∧ P 2 1 ∧ P 2 2) : ∀ x y, x < 3 → y < 3 → P x y := by
  intro x y hx hy
  have e1 : x = 0 ∨ x = 1 ∨ x = 2 := by omega
  have e2 : y = 0 ∨ y = 1 ∨ y = 2 := by omega
  rcases e1 with rfl | rfl | rfl <;> rcases e2 with rfl | rfl | rfl <;> simp only [h]
section
variable {u v : List Nat} (hu : Ok3 u) (hv : Ok3 v) (hl : u.length = v.length)
include hu hv hl
/-- with e = u - v: u + e is the third, u + 2 e is v; .. -/
theorem L1 : cmb 1 u (cmb 2 u v) = thd u v :=
  ext2 (f := fun u v => cmb 1 u (cmb 2 u v)) (g := thd) (F := fun x y => (x + 1 * ((x + 2 * y) % 3)) % 3) (G := fun x y => (2 * x % 3 + 2 * y) % 3) rfl rfl (fun _ _ _ _ => rfl) (fun _ _ _ _ => thd_cons) (dig3 (by decide)) hu hv hl
theorem L2 : cmb 2 u (cmb 2 u v) = v :=
  ext2 (f := fun u v => cmb 2 u (cmb 2 u v)) (g := fun _ v => v) (F := fun x y => (x + 2 * ((x + 2 * y) % 3)) % 3) (G := fun x y => y) rfl rfl (fun _ _ _ _ => rfl) (fun _ _ _ _ => rfl) (dig3 (by decide)) hu hv hl
theorem L3 : cmb 1 u (neg (cmb 2 u v)) = v :=
  ext2 (f := fun u v => cmb 1 u (neg (cmb 2 u v))) (g := fun _ v => v) (F := fun x y => (x + 1 * (2 * ((x + 2 * y) % 3) % 3)) % 3) (G := fun x y => y) rfl rfl (fun _ _ _ _ => by simp only [cmb, neg_cons]) (fun _ _ _ _ => rfl) (dig3 (by decide)) hu hv hl
theorem L4 : cmb 2 u (neg (cmb 2 u v)) = thd u v :=
  ext2 (f := fun u v => cmb 2 u (neg (cmb 2 u v))) (g := thd) (F := fun x y => (x + 2 * (2 * ((x + 2 * y) % 3) % 3)) % 3) (G := fun x y => (2 * x % 3 + 2 * y) % 3) rfl rfl (fun _ _ _ _ => by simp only [cmb, neg_cons]) (fun _ _ _ _ => thd_cons) (dig3 (by decide)) hu hv hl
/-- u less the third is v less u; the third less v is v less u -/
theorem L5 : cmb 2 u (thd u v) = neg (cmb 2 u v) :=
  ext2 (f := fun u v => cmb 2 u (thd u v)) (g := fun u v => neg (cmb 2 u v)) (F := fun x y => (x + 2 * ((2 * x % 3 + 2 * y) % 3)) % 3) (G := fun x y => 2 * ((x + 2 * y) % 3) % 3) rfl rfl (fun _ _ _ _ => by simp only [cmb, thd_cons]) (fun _ _ _ _ => by simp only [cmb, neg_cons]) (dig3 (by decide)) hu hv hl
theorem L6 : cmb 2 (thd u v) v = neg (cmb 2 u v) :=
  ext2 (f := fun u v => cmb 2 (thd u v) v) (g := fun u v => neg (cmb 2 u v)) (F := fun x y => ((2 * x % 3 + 2 * y) % 3 + 2 * y) % 3) (G := fun x y => 2 * ((x + 2 * y) % 3) % 3) rfl rfl (fun _ _ _ _ => by simp only [cmb, thd_cons]) (fun _ _ _ _ => by simp only [cmb, neg_cons]) (dig3 (by decide)) hu hv hl
theorem L7 : neg (neg u) = u :=
  ext2 (f := fun u _ => neg (neg u)) (g := fun u _ => u) (F := fun x _ => 2 * (2 * x % 3) % 3) (G := fun x y => x) rfl rfl (fun _ _ _ _ => by simp only [neg_cons]) (fun _ _ _ _ => rfl) (dig3 (by decide)) hu hv hl
/-- with the point u and the direction v: u less (u + v) is - v; u less (u + 2 v) is v; (u + v) less (u + 2 v) is - v .. -/
theorem L8 : cmb 2 u (cmb 1 u v) = neg v :=
  ext2 (f := fun u v => cmb 2 u (cmb 1 u v)) (g := fun _ v => neg v) (F := fun x y => (x + 2 * ((x + 1 * y) % 3)) % 3) (G := fun x y => 2 * y % 3) rfl rfl (fun _ _ _ _ => by simp only [cmb]) (fun _ _ _ _ => by simp only [neg_cons]) (dig3 (by decide)) hu hv hl
theorem L9 : cmb 2 u (cmb 2 u v) = v := L2 hu hv hl
theorem L10 : cmb 2 (cmb 1 u v) (cmb 2 u v) = neg v :=
  ext2 (f := fun u v => cmb 2 (cmb 1 u v) (cmb 2 u v)) (g := fun _ v => neg v) (F := fun x y => ((x + 1 * y) % 3 + 2 * ((x + 2 * y) % 3)) % 3) (G := fun x y => 2 * y % 3) rfl rfl (fun _ _ _ _ => by simp only [cmb]) (fun _ _ _ _ => by simp only [neg_cons]) (dig3 (by decide)) hu hv hl
theorem L11 : cmb 2 (cmb 1 u v) u = v :=
  ext2 (f := fun u v => cmb 2 (cmb 1 u v) u) (g := fun _ v => v) (F := fun x y => ((x + 1 * y) % 3 + 2 * x) % 3) (G := fun x y => y) rfl rfl (fun _ _ _ _ => by simp only [cmb]) (fun _ _ _ _ => rfl) (dig3 (by decide)) hu hv hl
theorem L12 : cmb 2 (cmb 2 u v) u = neg v :=
  ext2 (f := fun u v => cmb 2 (cmb 2 u v) u) (g := fun _ v => neg v) (F := fun x y => ((x + 2 * y) % 3 + 2 * x) % 3) (G := fun x y => 2 * y % 3) rfl rfl (fun _ _ _ _ => by simp only [cmb]) (fun _ _ _ _ => by simp only [neg_cons]) (dig3 (by decide)) hu hv hl
theorem L13 : cmb 2 (cmb 2 u v) (cmb 1 u v) = v :=
  ext2 (f := fun u v => cmb 2 (cmb 2 u v) (cmb 1 u v)) (g := fun _ v => v) (F := fun x y => ((x + 2 * y) % 3 + 2 * ((x + 1 * y) % 3)) % 3) (G := fun x y => y) rfl rfl (fun _ _ _ _ => by simp only [cmb]) (fun _ _ _ _ => rfl) (dig3 (by decide)) hu hv hl
/-- steps on a line -/
theorem L14 : cmb 1 (cmb 1 u v) v = cmb 2 u v :=
  ext2 (f := fun u v => cmb 1 (cmb 1 u v) v) (g := fun u v => cmb 2 u v) (F := fun x y => ((x + 1 * y) % 3 + 1 * y) % 3) (G := fun x y => (x + 2 * y) % 3) rfl rfl (fun _ _ _ _ => by simp only [cmb]) (fun _ _ _ _ => by simp only [cmb]) (dig3 (by decide)) hu hv hl
theorem L15 : cmb 2 (cmb 1 u v) v = u :=
  ext2 (f := fun u v => cmb 2 (cmb 1 u v) v) (g := fun u _ => u) (F := fun x y => ((x + 1 * y) % 3 + 2 * y) % 3) (G := fun x y => x) rfl rfl (fun _ _ _ _ => by simp only [cmb]) (fun _ _ _ _ => rfl) (dig3 (by decide)) hu hv hl
theorem L16 : cmb 1 (cmb 2 u v) v = u :=
  ext2 (f := fun u v => cmb 1 (cmb 2 u v) v) (g := fun u _ => u) (F := fun x y => ((x + 2 * y) % 3 + 1 * y) % 3) (G := fun x y => x) rfl rfl (fun _ _ _ _ => by simp only [cmb]) (fun _ _ _ _ => rfl) (dig3 (by decide)) hu hv hl
theorem L17 : cmb 2 (cmb 2 u v) v = cmb 1 u v :=
  ext2 (f := fun u v => cmb 2 (cmb 2 u v) v) (g := fun u v => cmb 1 u v) (F := fun x y => ((x + 2 * y) % 3 + 2 * y) % 3) (G := fun x y => (x + 1 * y) % 3) rfl rfl (fun _ _ _ _ => by simp only [cmb]) (fun _ _ _ _ => by simp only [cmb]) (dig3 (by decide)) hu hv hl
theorem L18 : cmb 1 (thd u v) (cmb 2 u v) = v :=
  ext2 (f := fun u v => cmb 1 (thd u v) (cmb 2 u v)) (g := fun _ v => v) (F := fun x y => ((2 * x % 3 + 2 * y) % 3 + 1 * ((x + 2 * y) % 3)) % 3) (G := fun x y => y) rfl rfl (fun _ _ _ _ => by simp only [cmb, thd_cons]) (fun _ _ _ _ => rfl) (dig3 (by decide)) hu hv hl
theorem L19 : cmb 2 (thd u v) (cmb 2 u v) = u :=
  ext2 (f := fun u v => cmb 2 (thd u v) (cmb 2 u v)) (g := fun u _ => u) (F := fun x y => ((2 * x % 3 + 2 * y) % 3 + 2 * ((x + 2 * y) % 3)) % 3) (G := fun x y => x) rfl rfl (fun _ _ _ _ => by simp only [cmb, thd_cons]) (fun _ _ _ _ => rfl) (dig3 (by decide)) hu hv hl
theorem L20 : cmb 1 (thd u v) (neg (cmb 2 u v)) = u :=
  ext2 (f := fun u v => cmb 1 (thd u v) (neg (cmb 2 u v))) (g := fun u _ => u) (F := fun x y => ((2 * x % 3 + 2 * y) % 3 + 1 * (2 * ((x + 2 * y) % 3) % 3)) % 3) (G := fun x y => x) rfl rfl (fun _ _ _ _ => by simp only [cmb, thd_cons, neg_cons]) (fun _ _ _ _ => rfl) (dig3 (by decide)) hu hv hl
theorem L21 : cmb 2 (thd u v) (neg (cmb 2 u v)) = v :=
  ext2 (f := fun u v => cmb 2 (thd u v) (neg (cmb 2 u v))) (g := fun _ v => v) (F := fun x y => ((2 * x % 3 + 2 * y) % 3 + 2 * (2 * ((x + 2 * y) % 3) % 3)) % 3) (G := fun x y => y) rfl rfl (fun _ _ _ _ => by simp only [cmb, thd_cons, neg_cons]) (fun _ _ _ _ => rfl) (dig3 (by decide)) hu hv hl
theorem thd_ok : Ok3 (thd u v) := cmb_ok _ _ _
theorem thd_len : (thd u v).length = u.length := by
  unfold thd
  rw [cmb_len 2 (by rw [cmb_len 2 (by simp [zer])]; simp [zer, hl]), cmb_len 2 (by simp [zer])]; simp [zer]
end
/-! the highest figure -/
def lead : List Nat → Nat
  | [] => 0
  | d :: ds => if lead ds = 0 then d else lead ds
def ex3 : List Nat → Nat
  | [] => 0
  | _ :: ds => if lead ds = 0 then 0 else ex3 ds + 1
theorem lead_lt : ∀ {u : List Nat}, Ok3 u → lead u < 3
  | [], _ => by simp [lead]
  | d :: u, h => by
    have := lead_lt h.tail
    have := h.head
    simp only [lead]
    split <;> omega
theorem lead_num : ∀ {u : List Nat}, Ok3 u → (lead u = 0 ↔ num u = 0)
  | [], _ => by simp [lead, num]
  | d :: u, h => by
    have ih := lead_num h.tail
    have := h.head
    simp only [lead, num]
    split
    · have := ih.mp (by assumption); omega
    · have : num u ≠ 0 := fun z => by have := ih.mpr z; contradiction
      omega
theorem lead_pw : ∀ {u : List Nat}, Ok3 u → lead u ≠ 0 → (lead u = 1 → 3 ^ ex3 u ≤ num u ∧ num u < 2 * 3 ^ ex3 u) ∧ (lead u = 2 → 2 * 3 ^ ex3 u ≤ num u ∧ num u < 3 * 3 ^ ex3 u)
  | [], _, h => by simp [lead] at h
  | d :: u, h, hn => by
    have h0 := h.head
    have hz := lead_num h.tail
    simp only [lead, num, ex3] at hn ⊢
    by_cases e : lead u = 0
    · have := hz.mp e
      rw [if_pos e] at hn ⊢
      rw [if_pos e]
      simp only [Nat.pow_zero]
      omega
    · rw [if_neg e] at hn ⊢
      rw [if_neg e]
      have ih := lead_pw h.tail e
      rw [Nat.pow_succ]
      omega
theorem ex3_lt : ∀ {u : List Nat}, Ok3 u → lead u ≠ 0 → ex3 u < u.length
  | [], _, h => by simp [lead] at h
  | d :: u, h, hn => by
    simp only [lead, ex3, List.length_cons] at hn ⊢
    by_cases e : lead u = 0
    · rw [if_pos e]; omega
    · rw [if_neg e]
      have := ex3_lt h.tail e
      omega
theorem neg_lead : ∀ {u : List Nat}, Ok3 u → lead (neg u) = 2 * lead u % 3 ∧ ex3 (neg u) = ex3 u
  | [], _ => ⟨rfl, rfl⟩
  | d :: u, h => by
    have ih := neg_lead h.tail
    have hl := lead_lt h.tail
    rw [neg_cons]
    simp only [lead, ex3]
    rw [ih.1, ih.2]
    by_cases e : lead u = 0
    · rw [if_pos e, if_pos e, if_pos (by omega), if_pos (by omega)]; exact ⟨rfl, rfl⟩
    · rw [if_neg e, if_neg e, if_neg (by omega), if_neg (by omega)]; exact ⟨rfl, rfl⟩
/-- the direction, its highest figure 1 -/
def norm (u : List Nat) : List Nat := if lead u = 2 then neg u else u
theorem norm_ok {u : List Nat} (h : Ok3 u) : Ok3 (norm u) := by unfold norm; split; exact neg_ok; exact h
theorem norm_len {u : List Nat} : (norm u).length = u.length := by unfold norm; split; exact neg_len; rfl
theorem norm_lead {u : List Nat} (h : Ok3 u) (hn : lead u ≠ 0) : lead (norm u) = 1 ∧ ex3 (norm u) = ex3 u := by
  have h1 := lead_lt h
  have h2 := neg_lead h
  unfold norm
  split
  · omega
  · omega
theorem norm_neg {u : List Nat} (h : Ok3 u) (hn : lead u ≠ 0) : norm (neg u) = norm u := by
  have h1 := lead_lt h
  have h2 := neg_lead h
  unfold norm
  by_cases e : lead u = 2
  · rw [if_pos e, if_neg (by omega)]
  · rw [if_neg e, if_pos (by omega), L7 h h rfl]
/-- 1 + 3 + .. -/
def s3 : Nat → Nat
  | 0 => 0
  | n + 1 => s3 n + 3 ^ n
theorem s3_eq : ∀ n, 2 * s3 n + 1 = 3 ^ n
  | 0 => rfl
  | n + 1 => by
    have := s3_eq n
    simp only [s3, Nat.pow_succ]
    omega
theorem s3_mono {m n : Nat} (h : m ≤ n) : s3 m ≤ s3 n := by
  have := s3_eq m
  have := s3_eq n
  have : 3 ^ m ≤ 3 ^ n := Nat.pow_le_pow_right (by omega) h
  omega
/-- the number of a class -/
def cls (u : List Nat) : Nat := s3 (ex3 u) + (num (norm u) - 3 ^ ex3 u)
theorem cls_lt {u : List Nat} (h : Ok3 u) (hn : lead u ≠ 0) : cls u < s3 u.length := by
  have h1 := norm_lead h hn
  have h2 := (lead_pw (norm_ok h) (by omega)).1 h1.1
  rw [h1.2] at h2
  have h3 := ex3_lt h hn
  have h4 := s3_mono (show ex3 u + 1 ≤ u.length from h3)
  simp only [s3] at h4
  unfold cls
  omega
theorem cls_neg {u : List Nat} (h : Ok3 u) (hn : lead u ≠ 0) : cls (neg u) = cls u := by
  unfold cls
  rw [norm_neg h hn, (neg_lead h).2]
theorem cls_norm {u : List Nat} (h : Ok3 u) (hn : lead u ≠ 0) : cls (norm u) = cls u := by
  unfold norm
  split
  · exact cls_neg h hn
  · rfl

theorem mx_fuel (s : Nat) : ∀ {n m a b : Nat}, a < 3 ^ n → b < 3 ^ n → n ≤ m → mx s m a b = mx s n a b
  | 0, m, a, b, ha, hb, _ => by
    have : a = 0 := by simpa using ha
    have : b = 0 := by simpa using hb
    subst a b
    cases m <;> simp [mx]
  | n + 1, 0, _, _, _, _, h => by omega
  | n + 1, m + 1, a, b, ha, hb, h => by
    rw [Nat.pow_succ] at ha hb
    simp only [mx]
    rw [mx_fuel s (n := n) (m := m) (a := a / 3) (b := b / 3) (by omega) (by omega) (by omega)]
theorem mx60 (s : Nat) {u v : List Nat} (hu : Ok3 u) (hv : Ok3 v) (hl : u.length = v.length) (h : u.length ≤ 60) : mx s 60 (num u) (num v) = num (cmb s u v) := by
  rw [mx_fuel s (num_lt hu) (by rw [hl]; exact num_lt hv) h, mx_num s hu hv hl]
theorem num_zer : ∀ n, num (zer n) = 0
  | 0 => rfl
  | n + 1 => by
    show 0 + 3 * num (zer n) = 0
    rw [num_zer n]
theorem zer_ok (n : Nat) : Ok3 (zer n) := fun d h => by
  have := (List.mem_replicate.mp h).2
  omega
theorem zer_len (n : Nat) : (zer n).length = n := by simp [zer]
theorem cmb_zer : ∀ {u : List Nat}, Ok3 u → cmb 2 u (zer u.length) = u
  | [], _ => rfl
  | x :: u, h => by
    show (x + 2 * 0) % 3 :: cmb 2 u (zer u.length) = _
    rw [cmb_zer h.tail]
    have := h.head
    rw [show (x + 2 * 0) % 3 = x from by omega]
theorem dif_ne {u v : List Nat} (hu : Ok3 u) (hv : Ok3 v) (hl : u.length = v.length) : u ≠ v ↔ lead (cmb 2 u v) ≠ 0 := by
  refine ⟨fun h z => h ?_, fun h z => h ?_⟩
  · have h1 := (lead_num (cmb_ok 2 u v)).mp z
    have h2 : cmb 2 u v = zer u.length := num_inj (cmb_ok _ _ _) (zer_ok _) (by rw [cmb_len 2 hl, zer_len]) (by rw [h1, num_zer])
    have h3 := L2 hu hv hl
    rw [h2, cmb_zer hu] at h3
    exact h3
  · subst z
    refine (lead_num (cmb_ok 2 u u)).mpr ?_
    have : cmb 2 u u = zer u.length := ext2 (f := fun u _ => cmb 2 u u) (g := fun u _ => zer u.length) (F := fun x _ => (x + 2 * x) % 3) (G := fun _ _ => 0) rfl rfl (fun _ _ _ _ => by simp only [cmb]) (fun _ _ _ _ => rfl) (dig3 (by decide)) hu hu rfl
    rw [this, num_zer]
theorem figs_num {u : List Nat} (h : Ok3 u) : figs u.length (num u) = u := num_inj (figs_ok _ _) h (figs_len _ _) (num_figs _ _ (num_lt h))
theorem cls_inj {w w' : List Nat} (h : Ok3 w) (h' : Ok3 w') (hn : lead w ≠ 0) (hn' : lead w' ≠ 0) (e : cls w = cls w') : num (norm w) = num (norm w') := by
  have a1 := norm_lead h hn
  have a2 := (lead_pw (norm_ok h) (by omega)).1 a1.1
  have b1 := norm_lead h' hn'
  have b2 := (lead_pw (norm_ok h') (by omega)).1 b1.1
  rw [a1.2] at a2
  rw [b1.2] at b2
  unfold cls at e
  have hj : ex3 w = ex3 w' := by
    rcases Nat.lt_trichotomy (ex3 w) (ex3 w') with z | z | z
    · have := s3_mono (show ex3 w + 1 ≤ ex3 w' from z)
      simp only [s3] at this
      omega
    · exact z
    · have := s3_mono (show ex3 w' + 1 ≤ ex3 w from z)
      simp only [s3] at this
      omega
  rw [hj] at e a2
  omega
/-- the points of a line -/
def ln (C N : List Nat) : List (List Nat) := [C, cmb 1 C N, cmb 2 C N]
section
variable {C N : List Nat} (hC : Ok3 C) (hN : Ok3 N) (hl : C.length = N.length)
include hC hN hl
theorem ln_ok : ∀ x ∈ ln C N, Ok3 x ∧ x.length = C.length := by
  intro x hx
  simp only [ln, List.mem_cons, List.not_mem_nil, or_false] at hx
  rcases hx with rfl | rfl | rfl
  · exact ⟨hC, rfl⟩
  · exact ⟨cmb_ok _ _ _, cmb_len 1 hl⟩
  · exact ⟨cmb_ok _ _ _, cmb_len 2 hl⟩
theorem ln_step1 {x : List Nat} (h : x ∈ ln C N) : cmb 1 x N ∈ ln C N := by
  simp only [ln, List.mem_cons, List.not_mem_nil, or_false] at h ⊢
  rcases h with rfl | rfl | rfl
  · exact .inr (.inl rfl)
  · exact .inr (.inr (L14 hC hN hl))
  · exact .inl (L16 hC hN hl)
theorem ln_step2 {x : List Nat} (h : x ∈ ln C N) : cmb 2 x N ∈ ln C N := by
  simp only [ln, List.mem_cons, List.not_mem_nil, or_false] at h ⊢
  rcases h with rfl | rfl | rfl
  · exact .inr (.inr rfl)
  · exact .inl (L15 hC hN hl)
  · exact .inr (.inl (L17 hC hN hl))
theorem ln_cls (hz : lead N ≠ 0) {x y : List Nat} (hx : x ∈ ln C N) (hy : y ∈ ln C N) (hne : x ≠ y) : cls (cmb 2 x y) = cls N := by
  have e := cls_neg hN hz
  simp only [ln, List.mem_cons, List.not_mem_nil, or_false] at hx hy
  rcases hx with rfl | rfl | rfl <;> rcases hy with rfl | rfl | rfl
  · exact absurd rfl hne
  · rw [L8 hC hN hl, e]
  · rw [L9 hC hN hl]
  · rw [L11 hC hN hl]
  · exact absurd rfl hne
  · rw [L10 hC hN hl, e]
  · rw [L12 hC hN hl, e]
  · rw [L13 hC hN hl]
  · exact absurd rfl hne
theorem ln_nodup (hz : lead N ≠ 0) : (ln C N).Nodup := by
  have h1 : C ≠ cmb 1 C N := (dif_ne hC (cmb_ok _ _ _) (cmb_len 1 hl).symm).mpr (by rw [L8 hC hN hl, (neg_lead hN).1]; have := lead_lt hN; omega)
  have h2 : C ≠ cmb 2 C N := (dif_ne hC (cmb_ok _ _ _) (cmb_len 2 hl).symm).mpr (by rw [L9 hC hN hl]; exact hz)
  have h3 : cmb 1 C N ≠ cmb 2 C N := (dif_ne (cmb_ok _ _ _) (cmb_ok _ _ _) (by rw [cmb_len 1 hl, cmb_len 2 hl])).mpr (by rw [L10 hC hN hl, (neg_lead hN).1]; have := lead_lt hN; omega)
  simp [ln, h1, h2, h3]
end
/-- the line through u, v -/
theorem ln_three {u v : List Nat} (hu : Ok3 u) (hv : Ok3 v) (hl : u.length = v.length) : (ln u (norm (cmb 2 u v))).Perm [u, v, thd u v] ∧ (ln (thd u v) (norm (cmb 2 u v))).Perm [u, v, thd u v] := by
  unfold norm ln
  split
  · rw [L3 hu hv hl, L4 hu hv hl, L20 hu hv hl, L21 hu hv hl]
    exact ⟨.refl _, (List.Perm.swap _ _ _).trans (.cons _ (.swap _ _ _))⟩
  · rw [L1 hu hv hl, L2 hu hv hl, L18 hu hv hl, L19 hu hv hl]
    refine ⟨.cons _ (.swap _ _ _), ?_⟩
    exact (List.Perm.cons _ (.swap _ _ _)).trans ((List.Perm.swap _ _ _).trans (.cons _ (.swap _ _ _)))
theorem thd_get : ∀ {u v : List Nat} {i x y : Nat}, u[i]? = some x → v[i]? = some y → (thd u v)[i]? = some ((2 * x % 3 + 2 * y) % 3)
  | [], _, _, _, _, h, _ => by simp at h
  | _ :: _, [], _, _, _, _, h => by simp at h
  | a :: u, b :: v, 0, x, y, h1, h2 => by
    simp at h1 h2
    subst h1 h2
    rw [thd_cons]; rfl
  | a :: u, b :: v, i + 1, x, y, h1, h2 => by
    rw [thd_cons]
    simpa using thd_get (u := u) (v := v) (by simpa using h1) (by simpa using h2)
end K82

set_option maxRecDepth 100000
set_option maxHeartbeats 4000000
namespace K82
open PySem PySem.Spec L2 DL
abbrev pr_law_row (ds : List D) : Prop := match ds with | [.int _, .int m] => 0 ≤ m ∧ m ≤ 2000 | _ => False
abbrev po_law_row (ds : List D) (s : Sl) : Prop := match ds with | [.int _, .int m] => ∃ l, s = .own (l.map D.int) ∧ Nums l m.toNat | _ => False
abbrev sp_law_row (K : PySem.W.Frag) (A : Ad) : Sp := spD K pr_law_row po_law_row (fun _ _ => False)
theorem len_law_row (A : Ad) : ∀ ds : List D, pr_law_row ds → ds.length = 2
  | [.int _, .int _], _ => rfl
abbrev pr_law_numbers (ds : List D) : Prop := match ds with | [.src ns, .int m] => ns.length ≤ 63 ∧ 0 ≤ m ∧ m ≤ 1000 | _ => False
abbrev po_law_numbers (ds : List D) (s : Sl) : Prop := match ds with | [.src _, .int m] => ∃ l, s = .dat (.lst (l.map D.int)) ∧ Nums l m.toNat | _ => False
abbrev sp_law_numbers (K : PySem.W.Frag) (A : Ad) : Sp := spD K pr_law_numbers po_law_numbers (fun _ _ => False)
theorem len_law_numbers (A : Ad) : ∀ ds : List D, pr_law_numbers ds → ds.length = 2
  | [.src _, .int _], _ => rfl
abbrev pr_law_pick (ds : List D) : Prop := match ds with | [.lst ls, .int i, .int m] => ∃ (l : List Int) (k : Nat), ls = l.map D.int ∧ Nums l k ∧ 0 ≤ i ∧ i < k ∧ 0 < m | _ => False
abbrev po_law_pick (ds : List D) (s : Sl) : Prop := match ds with | [.lst _, .int _, .int m] => ∃ z : Int, s = .dat (.int z) ∧ 0 ≤ z ∧ z < m | _ => False
abbrev sp_law_pick (K : PySem.W.Frag) (A : Ad) : Sp := spD K pr_law_pick po_law_pick (fun _ _ => False)
theorem len_law_pick (A : Ad) : ∀ ds : List D, pr_law_pick ds → ds.length = 3
  | [.lst _, .int _, .int _], _ => rfl
abbrev pr_law (ds : List D) : Prop := ∃ ns : List Int, ds = [.src ns] ∧ ns.length ≤ 63
abbrev sp_law (K : PySem.W.Frag) (A : Ad) : Sp := spD K pr_law (fun _ s => s = .dat (.bl true)) (fun _ _ => False)
theorem len_law (A : Ad) : ∀ ds : List D, pr_law ds → ds.length = 1 := fun ds ⟨_, e, _⟩ => by subst e; rfl
abbrev nD (d : Nat) : D := .int (d : Int)
abbrev pr_size_of (ds : List D) : Prop := match ds with | [.int f] => 1 ≤ f ∧ f ≤ 60 | _ => False
abbrev po_size_of (ds : List D) (s : Sl) : Prop := match ds with | [.int f] => s = .dat (nD (3 ^ f.toNat)) | _ => False
abbrev sp_size_of (K : PySem.W.Frag) (A : Ad) : Sp := spD K pr_size_of po_size_of (fun _ _ => False)
theorem len_size_of (A : Ad) : ∀ ds : List D, pr_size_of ds → ds.length = 1
  | [.int _], _ => rfl
abbrev pr_check_point (ds : List D) : Prop := match ds with | [.int n, .int p] => 0 ≤ p ∧ p < n | _ => False
abbrev po_check_point (_ : List D) (s : Sl) : Prop := s = .dat .non
abbrev sp_check_point (K : PySem.W.Frag) (A : Ad) : Sp := spD K pr_check_point po_check_point (fun _ _ => False)
theorem len_check_point (A : Ad) : ∀ ds : List D, pr_check_point ds → ds.length = 2
  | [.int _, .int _], _ => rfl
abbrev pr_mixed (ds : List D) : Prop := match ds with | [.int a, .int b, .int s] => (0 ≤ a ∧ a < 3 ^ 60) ∧ (0 ≤ b ∧ b < 3 ^ 60) ∧ 1 ≤ s ∧ s ≤ 2 | _ => False
abbrev po_mixed (ds : List D) (s : Sl) : Prop := match ds with | [.int a, .int b, .int t] => s = .dat (nD (mx t.toNat 60 a.toNat b.toNat)) | _ => False
abbrev sp_mixed (K : PySem.W.Frag) (A : Ad) : Sp := spD K pr_mixed po_mixed (fun _ _ => False)
theorem len_mixed (A : Ad) : ∀ ds : List D, pr_mixed ds → ds.length = 3
  | [.int _, .int _, .int _], _ => rfl
abbrev po_class_count (ds : List D) (s : Sl) : Prop := match ds with | [.int f] => s = .dat (nD (s3 f.toNat)) | _ => False
abbrev sp_class_count (K : PySem.W.Frag) (A : Ad) : Sp := spD K pr_size_of po_class_count (fun _ _ => False)
theorem len_class_count (A : Ad) : ∀ ds : List D, pr_size_of ds → ds.length = 1 := len_size_of A
abbrev pr_first_power (ds : List D) : Prop := match ds with | [.int d] => ∃ j : Nat, j ≤ 60 ∧ 3 ^ j ≤ d ∧ d < 3 ^ (j + 1) | _ => False
abbrev po_first_power (ds : List D) (s : Sl) : Prop := match ds with | [.int d] => ∃ j : Nat, 3 ^ j ≤ d ∧ d < 3 ^ (j + 1) ∧ s = .dat (nD (3 ^ j)) | _ => False
abbrev sp_first_power (K : PySem.W.Frag) (A : Ad) : Sp := spD K pr_first_power po_first_power (fun _ _ => False)
theorem len_first_power (A : Ad) : ∀ ds : List D, pr_first_power ds → ds.length = 1
  | [.int _], _ => rfl
abbrev pr_class_of (ds : List D) : Prop := match ds with | [.int f, .int a, .int b] => ∃ u v : List Nat, Ok3 u ∧ Ok3 v ∧ u ≠ v ∧ (u.length : Int) = f ∧ (v.length : Int) = f ∧ 1 ≤ f ∧ f ≤ 60 ∧ a = (num u : Int) ∧ b = (num v : Int) | _ => False
abbrev po_class_of (ds : List D) (s : Sl) : Prop := match ds with | [.int f, .int a, .int b] => s = .dat (nD (cls (cmb 2 (figs f.toNat a.toNat) (figs f.toNat b.toNat)))) | _ => False
abbrev sp_class_of (K : PySem.W.Frag) (A : Ad) : Sp := spD K pr_class_of po_class_of (fun _ _ => False)
theorem len_class_of (A : Ad) : ∀ ds : List D, pr_class_of ds → ds.length = 3
  | [.int _, .int _, .int _], _ => rfl
def Dir (f n : Int) (w : List Nat) : Prop := Ok3 w ∧ (w.length : Int) = f ∧ lead w ≠ 0 ∧ n = (cls w : Int)
abbrev pr_direction_of (ds : List D) : Prop := match ds with | [.int f, .int n] => 1 ≤ f ∧ f ≤ 60 ∧ ∃ w, Dir f n w | _ => False
abbrev po_direction_of (ds : List D) (s : Sl) : Prop := match ds with | [.int f, .int n] => ∀ w, Dir f n w → s = .dat (nD (num (norm w))) | _ => False
abbrev sp_direction_of (K : PySem.W.Frag) (A : Ad) : Sp := spD K pr_direction_of (fun ds s => s.ok = true ∧ po_direction_of ds s) (fun _ _ => False)
theorem len_direction_of (A : Ad) : ∀ ds : List D, pr_direction_of ds → ds.length = 2
  | [.int _, .int _], _ => rfl
abbrev pr_line_through (ds : List D) : Prop := match ds with | [.int f, .int n, .int p] => 1 ≤ f ∧ f ≤ 60 ∧ (∃ w, Dir f n w) ∧ ∃ c : List Nat, Ok3 c ∧ (c.length : Int) = f ∧ p = (num c : Int) | _ => False
/-- the points of a line as numbers -/
def lnI (l : List (List Nat)) : List Int := l.map fun u => ((num u : Nat) : Int)
abbrev po_line_through (ds : List D) (s : Sl) : Prop := match ds with | [.int f, .int n, .int p] => ∃ l : List Int, s = .dat (.tup (l.map D.int)) ∧ ∀ w c, Dir f n w → Ok3 c → (c.length : Int) = f → p = (num c : Int) → l = srt (lnI (ln c (norm w))) | _ => False
abbrev sp_line_through (K : PySem.W.Frag) (A : Ad) : Sp := spD K pr_line_through po_line_through (fun _ _ => False)
theorem len_line_through (A : Ad) : ∀ ds : List D, pr_line_through ds → ds.length = 3
  | [.int _, .int _, .int _], _ => rfl
abbrev pr_law_figures (ds : List D) : Prop := match ds with | [.int v, .int m] => 0 ≤ v ∧ 0 ≤ m ∧ m ≤ 60 | _ => False
abbrev po_law_figures (ds : List D) (s : Sl) : Prop := match ds with | [.int v, .int m] => s = .own ((figs m.toNat v.toNat).map nD) | _ => False
abbrev sp_law_figures (K : PySem.W.Frag) (A : Ad) : Sp := spD K pr_law_figures po_law_figures (fun _ _ => False)
theorem len_law_figures (A : Ad) : ∀ ds : List D, pr_law_figures ds → ds.length = 2
  | [.int _, .int _], _ => rfl
/-- the number that figures tell -/
def dnum : List D → Int
  | [] => 0
  | .int d :: l => d + 3 * dnum l
  | _ :: l => 3 * dnum l
theorem dnum_nD : ∀ u : List Nat, dnum (u.map nD) = (num u : Int)
  | [] => rfl
  | d :: u => by
    show (d : Int) + 3 * dnum (u.map nD) = _
    rw [dnum_nD u]
    simp only [num]
    omega
abbrev pr_law_point (ds : List D) : Prop := match ds with | [.lst l] => ∃ u : List Nat, Ok3 u ∧ u.length ≤ 60 ∧ l = u.map nD | _ => False
abbrev po_law_point (ds : List D) (s : Sl) : Prop := match ds with | [.lst l] => s = .dat (.int (dnum l)) | _ => False
abbrev sp_law_point (K : PySem.W.Frag) (A : Ad) : Sp := spD K pr_law_point po_law_point (fun _ _ => False)
theorem len_law_point (A : Ad) : ∀ ds : List D, pr_law_point ds → ds.length = 1
  | [.lst _], _ => rfl
end K82

set_option maxRecDepth 100000
set_option maxHeartbeats 4000000
namespace K82
open PySem PySem.Spec L2 DL

/-- size_of: 0 figures, 1 size, 2 _ -/
def t_size_of (K : PySem.W.Frag) (A : Ad) (W : WX) : TS :=
  (tSeq (tIfS (tNot (tTest (tChain (rI0 fun i j => .bl (decide (i ≤ j))) (rI0 fun i j => .bl (decide (i ≤ j))) (tC (.int 1)) (tVar 0) (tC (.int 60))))) tNever tNext)
  (tSeq (tAsg (tC (.int 1)) (gName 1))
  (tSeq (tFor (iRng1 (tCons (tVar 0) tNil)) (gName 2) (tAug 1 (tC (.int 3)) rIMulA))
  (tRet (tVar 1)))))
/-- check_point: 0 size, 1 point -/
def t_check_point (K : PySem.W.Frag) (A : Ad) (W : WX) : TS :=
  (tIfS (tNot (tTest (tChain (rI0 fun i j => .bl (decide (i ≤ j))) (rI0 fun i j => .bl (decide (i < j))) (tC (.int 0)) (tVar 1) (tVar 0)))) tNever tNext)
/-- mixed: 0 one, 1 other, 2 sign, 3 found, 4 step -/
def t_mixed (K : PySem.W.Frag) (A : Ad) (W : WX) : TS :=
  (tSeq (tAsg (tC (.int 0)) (gName 3))
  (tSeq (tAsg (tC (.int 1)) (gName 4))
  (tSeq (tWhile (tOr (tTest (tOp (rI0 fun i j => .bl (decide (j < i))) (tVar 0) (tC (.int 0)))) (tTest (tOp (rI0 fun i j => .bl (decide (j < i))) (tVar 1) (tC (.int 0))))) (tSeq (tAug 3 (tOp rMulA (tOp (rI (fun _ j => 0 < j) fun i j => .int (i % j)) (tOp (rAdd K) (tVar 0) (tOp rMulA (tVar 2) (tVar 1))) (tC (.int 3))) (tVar 4)) (rIAdd K))
  (tPar3 0 1 4 (tCons (tOp rDivA (tVar 0) (tC (.int 3))) (tCons (tOp rDivA (tVar 1) (tC (.int 3))) (tCons (tOp rMulA (tVar 4) (tC (.int 3))) tNil))))))
  (tRet (tVar 3)))))
/-- class_count: 0 figures -/
def t_class_count (K : PySem.W.Frag) (A : Ad) (W : WX) : TS :=
  (tRet (tOp rDivA (tOp (rI0 fun i j => .int (i - j)) (tCallS (sp_size_of K A) (WE W) (tCons (tVar 0) tNil)) (tC (.int 1))) (tC (.int 2))))
/-- first_power: 0 direction, 1 step -/
def t_first_power (K : PySem.W.Frag) (A : Ad) (W : WX) : TS :=
  (tSeq (tAsg (tC (.int 1)) (gName 1))
  (tSeq (tWhile (tTest (tOp (rI0 fun i j => .bl (decide (i ≤ j))) (tOp rMulA (tVar 1) (tC (.int 3))) (tVar 0))) (tAug 1 (tC (.int 3)) rIMulA))
  (tRet (tVar 1))))
/-- class_of: 0 figures, 1 a, 2 b, 3 size, 4 direction, 5 step -/
def t_class_of (K : PySem.W.Frag) (A : Ad) (W : WX) : TS :=
  (tSeq (tAsg (tCallS (sp_size_of K A) (WE W) (tCons (tVar 0) tNil)) (gName 3))
  (tSeq (tDrop (tCallS (sp_check_point K A) (WE W) (tCons (tVar 3) (tCons (tVar 1) tNil))))
  (tSeq (tDrop (tCallS (sp_check_point K A) (WE W) (tCons (tVar 3) (tCons (tVar 2) tNil))))
  (tSeq (tIfS (tTest (tOp (rEqA K) (tVar 1) (tVar 2))) tNever tNext)
  (tSeq (tAsg (tCallS (sp_mixed K A) (WE W) (tCons (tVar 1) (tCons (tVar 2) (tCons (tC (.int 2)) tNil)))) (gName 4))
  (tSeq (tAsg (tCallS (sp_first_power K A) (WE W) (tCons (tVar 4) tNil)) (gName 5))
  (tSeq (tIfS (tTest (tOp (rI0 fun i j => .bl (decide (j ≤ i))) (tVar 4) (tOp rMulA (tC (.int 2)) (tVar 5)))) (tAsg (tCallS (sp_mixed K A) (WE W) (tCons (tC (.int 0)) (tCons (tVar 4) (tCons (tC (.int 2)) tNil)))) (gName 4)) tNext)
  (tRet (tOp (rI0 fun i j => .int (i - j)) (tOp (rAdd K) (tOp rDivA (tOp (rI0 fun i j => .int (i - j)) (tVar 5) (tC (.int 1))) (tC (.int 2))) (tVar 4)) (tVar 5))))))))))
/-- direction_of: 0 figures, 1 number, 2 step -/
def t_direction_of (K : PySem.W.Frag) (A : Ad) (W : WX) : TS :=
  (tSeq (tIfS (tNot (tTest (tChain (rI0 fun i j => .bl (decide (i ≤ j))) (rI0 fun i j => .bl (decide (i < j))) (tC (.int 0)) (tVar 1) (tCallS (sp_class_count K A) (WE W) (tCons (tVar 0) tNil))))) tNever tNext)
  (tSeq (tAsg (tC (.int 1)) (gName 2))
  (tSeq (tWhile (tTest (tOp (rI0 fun i j => .bl (decide (j ≤ i))) (tVar 1) (tVar 2))) (tSeq (tAug 1 (tVar 2) (rI0 fun i j => .int (i - j)))
  (tAug 2 (tC (.int 3)) rIMulA)))
  (tRet (tOp (rAdd K) (tVar 2) (tVar 1))))))
/-- line_through: 0 figures, 1 number, 2 point, 3 size, 4 direction -/
def t_line_through (K : PySem.W.Frag) (A : Ad) (W : WX) : TS :=
  (tSeq (tAsg (tCallS (sp_size_of K A) (WE W) (tCons (tVar 0) tNil)) (gName 3))
  (tSeq (tAsg (tCallS (sp_direction_of K A) (WE W) (tCons (tVar 0) (tCons (tVar 1) tNil))) (gName 4))
  (tSeq (tDrop (tCallS (sp_check_point K A) (WE W) (tCons (tVar 3) (tCons (tVar 2) tNil))))
  (tRet (tCB (rTupleOf K) (tCons (tCB (rSortedA K) (tCons (tTup (tCons (tVar 2) (tCons (tCallS (sp_mixed K A) (WE W) (tCons (tVar 2) (tCons (tVar 4) (tCons (tC (.int 1)) tNil)))) (tCons (tCallS (sp_mixed K A) (WE W) (tCons (tVar 2) (tCons (tVar 4) (tCons (tC (.int 2)) tNil)))) tNil)))) tNil)) tNil))))))
/-- _law_row: 0 _law_cell, 1 _law_many, 2 _law_row_here, 3 _law_rest, 4 _law_mixed, 5 _law_k -/
def t_law_row (K : PySem.W.Frag) (A : Ad) (W : WX) : TS :=
  (tSeq (tAsg (tLst tNil) (gName 2))
  (tSeq (tAsg (tCB rAbs (tCons (tVar 0) tNil)) (gName 3))
  (tSeq (tAsg (tOp (rI (fun _ j => 0 < j) fun i j => .int (i % j)) (tCB rInt1 (tCons (tOp (rAdd K) (tOp rMulA (tVar 3) (tC (.int 48271))) (tC (.int 69621))) tNil)) (tC (.int 2147483647))) (gName 4))
  (tSeq (tFor (iRng1 (tCons (tVar 1) tNil)) (gName 5) (tSeq (tAsg (tOp (rI (fun _ j => 0 < j) fun i j => .int (i % j)) (tCB rInt1 (tCons (tOp (rAdd K) (tOp rMulA (tVar 4) (tC (.int 16807))) (tOp rMulA (tC (.int 271)) (tOp (rAdd K) (tVar 5) (tC (.int 3))))) tNil)) (tC (.int 2147483629))) (gName 4))
  (tIfS (tTest (tOp (rI0 fun i j => .bl (decide (j ≤ i))) (tCB rAbs (tCons (tVar 0) tNil)) (tOp (rI CPow fun i j => .int (i ^ j.toNat)) (tC (.int 10)) (tC (.int 18))))) (tSeq (tDrop (tBM K "list" rAppend (tVar 2) (tCons (tOp (rI (fun _ j => 0 < j) fun i j => .int (i % j)) (tCB rInt1 (tCons (tVar 3) tNil)) (tC (.int 1009))) tNil)))
  (tAsg (tOp rDivA (tVar 3) (tC (.int 1009))) (gName 3))) (tDrop (tBM K "list" rAppend (tVar 2) (tCons (tOp (rI (fun _ j => 0 < j) fun i j => .int (i % j)) (tCB rInt1 (tCons (tOp rDivA (tVar 4) (tC (.int 7))) tNil)) (tC (.int 1009))) tNil))))))
  (tRet (tVar 2))))))
/-- _law_numbers: 0 _law_script, 1 _law_many, 2 _law_cells, 3 _law_each, 4 _law_numbers_here, 5 _law_cell, 6 _law_number -/
def t_law_numbers (K : PySem.W.Frag) (A : Ad) (W : WX) : TS :=
  (tSeq (tAsg (tSl (rSlL K) (tVar 0) tNoPart (tPart (tC (.int 63)))) (gName 2))
  (tSeq (tAsg (tOp (rAdd K) (tC (.int 1)) (tOp rDivA (tVar 1) (tCB rMax2 (tCons (tC (.int 1)) (tCons (tCB (rLen K) (tCons (tVar 2) tNil)) tNil))))) (gName 3))
  (tSeq (tAsg (tLst tNil) (gName 4))
  (tSeq (tFor (iList K (tVar 2)) (gName 5) (tFor (iList K (tCallS (sp_law_row K A) (WE W) (tCons (tVar 5) (tCons (tVar 3) tNil)))) (gName 6) (tDrop (tBM K "list" rAppend (tVar 4) (tCons (tVar 6) tNil)))))
  (tSeq (tWhile (tTest (tOp (rI0 fun i j => .bl (decide (i < j))) (tCB (rLen K) (tCons (tVar 4) tNil)) (tVar 1))) (tDrop (tBM K "list" rAppend (tVar 4) (tCons (tC (.int 0)) tNil))))
  (tRet (tSl (rSlL K) (tVar 4) tNoPart (tPart (tVar 1)))))))))
/-- _law_pick: 0 _law_numbers_here, 1 _law_at, 2 _law_most -/
def t_law_pick (K : PySem.W.Frag) (A : Ad) (W : WX) : TS :=
  (tRet (tOp (rI (fun _ j => 0 < j) fun i j => .int (i % j)) (tCB rInt1 (tCons (tOp (rIx K) (tVar 0) (tVar 1)) tNil)) (tVar 2)))
/-- _law_figures: 0 _law_value, 1 _law_many, 2 _law_found, 3 _law_k -/
def t_law_figures (K : PySem.W.Frag) (A : Ad) (W : WX) : TS :=
  (tSeq (tAsg (tLst tNil) (gName 2))
  (tSeq (tFor (iRng1 (tCons (tVar 1) tNil)) (gName 3) (tSeq (tDrop (tBM K "list" rAppend (tVar 2) (tCons (tOp (rI (fun _ j => 0 < j) fun i j => .int (i % j)) (tCB rInt1 (tCons (tVar 0) tNil)) (tC (.int 3))) tNil)))
  (tAsg (tOp rDivA (tVar 0) (tC (.int 3))) (gName 0))))
  (tRet (tVar 2))))
/-- _law_point: 0 _law_figures_here, 1 _law_value, 2 _law_k -/
def t_law_point (K : PySem.W.Frag) (A : Ad) (W : WX) : TS :=
  (tSeq (tAsg (tC (.int 0)) (gName 1))
  (tSeq (tFor (iRng1 (tCons (tCB (rLen K) (tCons (tVar 0) tNil)) tNil)) (gName 2) (tAsg (tOp (rAdd K) (tOp rMulA (tVar 1) (tC (.int 3))) (tOp (rIx K) (tVar 0) (tOp (rI0 fun i j => .int (i - j)) (tOp (rI0 fun i j => .int (i - j)) (tCB (rLen K) (tCons (tVar 0) tNil)) (tC (.int 1))) (tVar 2)))) (gName 1)))
  (tRet (tVar 1))))
/-- law: 0 _law_script, 1 _law_numbers_here, 2 _law_many, 3 _law_a, 4 _law_b, 5 _law_c, 6 _law_number, 7 _law_first, 8 _law_second, 9 _law_third, 10 _law_three, 11 _law_other, 12 _law_k, 13 _law_point_here -/
def t_law (K : PySem.W.Frag) (A : Ad) (W : WX) : TS :=
  (tSeq (tAsg (tCallS (sp_law_numbers K A) (WE W) (tCons (tVar 0) (tCons (tC (.int 160)) tNil))) (gName 1))
  (tSeq (tAsg (tOp (rAdd K) (tC (.int 5)) (tCallS (sp_law_pick K A) (WE W) (tCons (tVar 1) (tCons (tC (.int 0)) (tCons (tC (.int 56)) tNil))))) (gName 2))
  (tSeq (tAsg (tCallS (sp_law_point K A) (WE W) (tCons (tLc (iRng1 (tCons (tVar 2) tNil)) (gName 12) tYes (tCallS (sp_law_pick K A) (WE W0) (tCons (tVar 1) (tCons (tOp (rAdd K) (tC (.int 1)) (tVar 12)) (tCons (tC (.int 3)) tNil)))) [12]) tNil)) (gName 3))
  (tSeq (tAsg (tCallS (sp_law_point K A) (WE W) (tCons (tLc (iRng1 (tCons (tVar 2) tNil)) (gName 12) tYes (tOp (rI (fun _ j => 0 < j) fun i j => .int (i % j)) (tCB rInt1 (tCons (tOp rDivA (tOp (rIx K) (tVar 1) (tOp (rAdd K) (tC (.int 1)) (tVar 12))) (tC (.int 3))) tNil)) (tC (.int 3))) [12]) tNil)) (gName 4))
  (tSeq (tAsg (tCallS (sp_law_point K A) (WE W) (tCons (tLc (iRng1 (tCons (tVar 2) tNil)) (gName 12) tYes (tOp (rI (fun _ j => 0 < j) fun i j => .int (i % j)) (tCB rInt1 (tCons (tOp rDivA (tOp (rIx K) (tVar 1) (tOp (rAdd K) (tC (.int 1)) (tVar 12))) (tC (.int 9))) tNil)) (tC (.int 3))) [12]) tNil)) (gName 5))
  (tSeq (tIfS (tTest (tOp (rEqA K) (tVar 3) (tVar 4))) (tAsg (tOp (rI0 fun i j => .int (i - j)) (tOp (rAdd K) (tOp (rI (fun _ j => 0 < j) fun i j => .int (i % j)) (tCB rInt1 (tCons (tOp (rAdd K) (tVar 3) (tC (.int 1))) tNil)) (tC (.int 3))) (tVar 3)) (tOp (rI (fun _ j => 0 < j) fun i j => .int (i % j)) (tCB rInt1 (tCons (tVar 3) tNil)) (tC (.int 3)))) (gName 4)) tNext)
  (tSeq (tAsg (tCallS (sp_class_of K A) (WE W) (tCons (tVar 2) (tCons (tVar 3) (tCons (tVar 4) tNil)))) (gName 6))
  (tSeq (tIfS (tNot (tTest (tChain (rI0 fun i j => .bl (decide (i ≤ j))) (rI0 fun i j => .bl (decide (i < j))) (tC (.int 0)) (tVar 6) (tCallS (sp_class_count K A) (WE W) (tCons (tVar 2) tNil))))) (tRet (tC (.bl false))) tNext)
  (tSeq (tAsg (tCallS (sp_law_figures K A) (WE W) (tCons (tVar 3) (tCons (tVar 2) tNil))) (gName 7))
  (tSeq (tAsg (tCallS (sp_law_figures K A) (WE W) (tCons (tVar 4) (tCons (tVar 2) tNil))) (gName 8))
  (tSeq (tAsg (tCallS (sp_law_point K A) (WE W) (tCons (tLc (iRng1 (tCons (tVar 2) tNil)) (gName 12) tYes (tOp (rI (fun _ j => 0 < j) fun i j => .int (i % j)) (tCB rInt1 (tCons (tOp (rI0 fun i j => .int (i - j)) (tOp (rI0 fun i j => .int (i - j)) (tC (.int 0)) (tOp (rIx K) (tVar 7) (tVar 12))) (tOp (rIx K) (tVar 8) (tVar 12))) tNil)) (tC (.int 3))) [12]) tNil)) (gName 9))
  (tSeq (tAsg (tCB (rTupleOf K) (tCons (tCB (rSortedA K) (tCons (tLst (tCons (tVar 3) (tCons (tVar 4) (tCons (tVar 9) tNil)))) tNil)) tNil)) (gName 10))
  (tSeq (tIfS (tOr (tTest (tOp (rNeA K) (tCallS (sp_line_through K A) (WE W) (tCons (tVar 2) (tCons (tVar 6) (tCons (tVar 3) tNil)))) (tVar 10))) (tTest (tOp (rNeA K) (tCallS (sp_line_through K A) (WE W) (tCons (tVar 2) (tCons (tVar 6) (tCons (tVar 9) tNil)))) (tVar 10)))) (tRet (tC (.bl false))) tNext)
  (tSeq (tIfS (tOr (tTest (tOp (rNeA K) (tCallS (sp_class_of K A) (WE W) (tCons (tVar 2) (tCons (tVar 3) (tCons (tVar 9) tNil)))) (tVar 6))) (tTest (tOp (rNeA K) (tCallS (sp_class_of K A) (WE W) (tCons (tVar 2) (tCons (tVar 9) (tCons (tVar 4) tNil)))) (tVar 6)))) (tRet (tC (.bl false))) tNext)
  (tSeq (tAsg (tCallS (sp_line_through K A) (WE W) (tCons (tVar 2) (tCons (tVar 6) (tCons (tVar 5) tNil)))) (gName 11))
  (tSeq (tIfS (tOr (tTest (tOp (rIn K true) (tVar 5) (tVar 11))) (tTest (tOp (rIn K true) (tCB (rLen K) (tCons (tLc (iTup K (tVar 11)) (gName 13) (tTest (tOp (rIn K false) (tVar 13) (tVar 10))) (tVar 13) [13]) tNil)) (tLst (tCons (tC (.int 0)) (tCons (tC (.int 3)) tNil)))))) (tRet (tC (.bl false))) tNext)
  (tRet (tOp (rEqA K) (tCallS (sp_class_of K A) (WE W) (tCons (tVar 2) (tCons (tOp (rIx K) (tVar 11) (tC (.int 0))) (tCons (tOp (rIx K) (tVar 11) (tC (.int 2))) tNil)))) (tVar 6)))))))))))))))))))
end K82

set_option maxRecDepth 100000
set_option maxHeartbeats 4000000
namespace K82
open PySem PySem.Spec L2 DL
local macro_rules | `(tactic| walk_at "ev1") => `(tactic| first
  | (with_reducible refine ws_seq ?_)
  | (with_reducible refine ws_append (by with_unfolding_all rfl) ?_)
  | (with_reducible refine ws_setO (eo_lst ?_))
  | (with_reducible refine ws_setO (eo_dT ?_))
  | (with_reducible refine ws_setO (eo_dK ?_))
  | (with_reducible refine ws_set ?_)
  | (with_reducible refine ev_var (by with_unfolding_all rfl) ?_)
  | (with_reducible refine ev_int ?_)
  | (with_reducible refine av_cons ?_)
  | (with_reducible refine av_nil ?_)
  | (with_reducible refine ev_ixO (by with_unfolding_all rfl) ?_)
  | (with_reducible refine ev_op ?_)
  | (with_reducible refine od_addI ?_)
  | (with_reducible refine od_subI ?_)
  | (with_reducible refine od_mulRI (by omega) ?_)
  | (with_reducible refine od_mulLI (by omega) ?_)
  | (with_reducible refine od_imulRI (by omega) ?_)
  | (with_reducible refine od_divSI (by omega) ?_)
  | (with_reducible refine od_modI (by omega) ?_)
  | (with_reducible refine ev_sl ?_)
  | (with_reducible refine ov_none ?_)
  | (with_reducible refine ov_some ?_)
  | (with_reducible refine sd_lst ?_)
  | (with_reducible refine sd_src ?_)
  | (with_reducible refine od_powI (by decide) ?_)
  | (with_reducible refine od_iaddI ?_)
  | (with_reducible refine od_eqAI ?_)
  | (with_reducible refine od_neAI ?_)
  | (with_reducible refine od_intb ?_)
  | (with_reducible refine od_eqAS ?_)
  | (with_reducible refine od_neAS ?_)
  | (with_reducible refine ev_lenO (by with_unfolding_all rfl) ?_)
  | (with_reducible refine ev_lenT (DictT.own (by with_unfolding_all rfl)) ?_)
  | (with_reducible refine ev_lenT (DictT.still (by with_unfolding_all rfl)) ?_)
  | (with_reducible refine ev_lenT (DictT.lock (by with_unfolding_all rfl)) ?_)
  | (with_reducible refine ev_lenK (DictK.own (by with_unfolding_all rfl)) ?_)
  | (with_reducible refine ev_lenK (DictK.still (by with_unfolding_all rfl)) ?_)
  | (with_reducible refine ev_lenK (DictK.lock (by with_unfolding_all rfl)) ?_)
  | (with_reducible refine ev_dgetT (DictT.own (by with_unfolding_all rfl)) ?_)
  | (with_reducible refine ev_dgetT (DictT.still (by with_unfolding_all rfl)) ?_)
  | (with_reducible refine ev_dgetT (DictT.lock (by with_unfolding_all rfl)) ?_)
  | (with_reducible refine ev_dgetK (DictK.own (by with_unfolding_all rfl)) ?_)
  | (with_reducible refine ev_dgetK (DictK.still (by with_unfolding_all rfl)) ?_)
  | (with_reducible refine ev_dgetK (DictK.lock (by with_unfolding_all rfl)) ?_)
  | (with_reducible refine ev_dgetT2 (DictT.own (by with_unfolding_all rfl)) ?_)
  | (with_reducible refine ev_dgetT2 (DictT.still (by with_unfolding_all rfl)) ?_)
  | (with_reducible refine ev_dgetT2 (DictT.lock (by with_unfolding_all rfl)) ?_)
  | (with_reducible refine ev_dgetK2 (DictK.own (by with_unfolding_all rfl)) ?_)
  | (with_reducible refine ev_dgetK2 (DictK.still (by with_unfolding_all rfl)) ?_)
  | (with_reducible refine ev_dgetK2 (DictK.lock (by with_unfolding_all rfl)) ?_)
  | (with_reducible refine ev_dinT (DictT.own (by with_unfolding_all rfl)) ?_)
  | (with_reducible refine ev_dinT (DictT.still (by with_unfolding_all rfl)) ?_)
  | (with_reducible refine ev_dinT (DictT.lock (by with_unfolding_all rfl)) ?_)
  | (with_reducible refine ev_dinK (DictK.own (by with_unfolding_all rfl)) ?_)
  | (with_reducible refine ev_dinK (DictK.still (by with_unfolding_all rfl)) ?_)
  | (with_reducible refine ev_dinK (DictK.lock (by with_unfolding_all rfl)) ?_)
  | (with_reducible refine ev_dninT (DictT.own (by with_unfolding_all rfl)) ?_)
  | (with_reducible refine ev_dninT (DictT.still (by with_unfolding_all rfl)) ?_)
  | (with_reducible refine ev_dninT (DictT.lock (by with_unfolding_all rfl)) ?_)
  | (with_reducible refine ev_dninK (DictK.own (by with_unfolding_all rfl)) ?_)
  | (with_reducible refine ev_dninK (DictK.still (by with_unfolding_all rfl)) ?_)
  | (with_reducible refine ev_dninK (DictK.lock (by with_unfolding_all rfl)) ?_)
  | (with_reducible refine ws_dputT (by with_unfolding_all rfl) ?_)
  | (with_reducible refine ws_dputK (by with_unfolding_all rfl) ?_)
  | (with_reducible refine ev_call ?_)
  | (with_reducible refine ev_cb ?_)
  | (with_reducible refine cd_abs ?_)
  | (with_reducible refine cd_int ?_)
  | (with_reducible refine cd_max2 ?_)
  | (with_reducible refine cd_min2 ?_)
  | (with_reducible refine cd_sorted2T ?_)
  | (with_reducible refine cd_sorted2L ?_)
  | (with_reducible refine cd_lenL ?_)
  | (with_reducible refine cd_lenT ?_)
  | (with_reducible refine cd_tupleL ?_)
  | (with_reducible refine bv_test ?_)
  | (with_reducible refine bv_yes ?_)
  | (with_reducible refine bv_not ?_)
  | (with_reducible refine bv_and ?_)
  | (with_reducible refine bv_or ?_)
  | (with_reducible refine ev_chain ?_)
  | (with_reducible refine ev_if ?_)
  | (with_reducible refine ev_andV ?_)
  | (with_reducible refine ev_orV ?_)
  | (with_reducible refine ev_notV ?_)
  | (with_reducible refine ev_un ?_)
  | (with_reducible refine ud_int ?_)
  | (with_reducible refine ev_bl ?_)
  | (with_reducible refine ev_str ?_)
  | (with_reducible refine ev_non ?_)
  | (with_reducible refine ev_tup ?_)
  | (with_reducible refine ev_lst ?_)
  | (with_reducible refine od_inI ?_)
  | (with_reducible refine ws_next ?_)
  | (with_reducible refine ws_ret ?_)
  | (with_reducible refine ws_drop ?_)
  | (with_reducible refine ws_if ?_)
  | (with_reducible refine iteTT ?_)
  | (with_reducible refine iteFF ?_)
  | (with_reducible refine iteNF ?_)
  | (with_reducible refine iteNT ?_)
  | (with_reducible refine ⟨_, rfl, ?_⟩)
  | (with_reducible refine ⟨small_sz (by decide), ?_⟩)
  | (with_reducible refine ws_aug (by with_unfolding_all rfl) ?_))
local macro_rules | `(tactic| walk_at "ev") => `(tactic| repeat (first | walk_at "ev1" | dsimp only [still_dat, still_own, still_oK, still_oT, startR, List.map, List.replicate, List.length, List.set, List.append, List.cons_append, List.nil_append, Nat.reduceSub, Nat.reduceAdd, Int.reduceToNat, Int.reducePow]))
section
variable {K : PySem.W.Frag} {mg : Str → Option Value} {A : Ad}
/-- what a def's reading is to show -/
abbrev Keeps (K : PySem.W.Frag) (W : WX) (t : TS) (n : Nat) (ds : List D) (po : List D → Sl → Prop) (ex : List D → Exn → Prop) : Prop :=
  WS K W t (startR n ds) { nx := fun _ => po ds (.dat .non), rt := po ds, ex := fun x _ => ex ds x }
theorem ws_law_row (T : Txt K mg A) (W : WX) : ∀ ds, pr_law_row ds → Keeps K W (t_law_row K A W) 6 ds po_law_row (fun _ _ => False)
  | [.int c, .int m], h => by
    have hm : 0 ≤ m ∧ m ≤ 2000 := h
    unfold t_law_row
    walk_at "ev"
    refine ws_for_range1 ?_
    walk_at "ev"
    refine ⟨m, fun i ρ => ∃ l r x k, ρ = [.dat (.int c), .dat (.int m), .own (l.map D.int), .dat (.int r), .dat (.int x), k] ∧ Nums l i, rfl, by omega, by omega, ⟨[], _, _, _, rfl, rfl, by simp⟩, ?_, ?_⟩
    · rintro i ρ' hi ⟨l, r, x, k, rfl, hl⟩
      have hil : l.length ≤ 2000 := by rw [hl.1]; omega
      refine gv_name ?_
      walk_at "ev"
      refine iteD (fun hc => ?_) (fun hc => ?_)
      · walk_at "ev"
        refine ⟨small_lt (by rw [List.length_map]; omega), ?_⟩
        walk_at "ev"
        exact ⟨l ++ [r % 1009], _, _, _, by rw [List.map_append]; rfl, hl.snoc (by omega) (by omega)⟩
      · walk_at "ev"
        refine ⟨small_lt (by rw [List.length_map]; omega), ?_⟩
        exact ⟨l ++ [_ / 7 % 1009], _, _, _, by rw [List.map_append]; rfl, hl.snoc (by omega) (by omega)⟩
    · rintro ρ' ⟨l, r, x, k, rfl, hl⟩
      exact ws_retv (i := 2) rfl (by intro z; cases z) ⟨l, rfl, hl⟩
theorem ws_law_numbers (T : Txt K mg A) (W : WX) : ∀ ds, pr_law_numbers ds → Keeps K W (t_law_numbers K A W) 7 ds po_law_numbers (fun _ _ => False)
  | [.src ns, .int m], h => by
    have hm : ns.length ≤ 63 ∧ 0 ≤ m ∧ m ≤ 1000 := h
    unfold t_law_numbers
    walk_at "ev"
    have ecut : cutD (ns.map D.int) none (some 63) = (ns.take 63).map D.int := by rw [List.map_take]; exact cutD_take _ 63
    rw [ecut]
    have hlen : ((ns.take 63).map D.int).length ≤ 63 := by rw [List.length_map, List.length_take]; omega
    generalize hq : (if (((ns.take 63).map D.int).length : Int) > 1 then (((ns.take 63).map D.int).length : Int) else 1) = q
    have hq1 : 1 ≤ q ∧ q ≤ 63 := by subst hq; split <;> omega
    walk_at "ev"
    have hd : 0 ≤ m / q ∧ m / q ≤ 1000 := ⟨Int.ediv_nonneg (by omega) (by omega), Int.le_trans (Int.ediv_le_self _ (by omega)) (by omega)⟩
    generalize he : m / q = e at hd
    refine ws_for_list ?_
    walk_at "ev"
    refine ⟨_, fun i ρ => ∃ l y z, ρ = [.dat (.src ns), .dat (.int m), .dat (.lst ((ns.take 63).map D.int)), .dat (.int (1 + e)), .own (l.map D.int), y, z] ∧ Nums l (i * (1 + e).toNat), rfl, ⟨[], _, _, rfl, by simp [Nums]⟩, ?_, ?_⟩
    · rintro i x ρ' hi ⟨l, y, z, rfl, hl⟩
      obtain ⟨c, hc, rfl⟩ := map_get hi
      have hi63 : i < 63 := by
        have := (List.getElem?_eq_some_iff.mp hi).1
        omega
      refine gv_name ?_
      walk_at "ev"
      refine ws_for_list (ev_call ?_)
      walk_at "ev"
      refine ⟨by omega, ?_, fun _ z => z.elim⟩
      rintro s ⟨r, rfl, hr⟩
      refine ⟨rfl, _, fun j ρ => ∃ l' y, ρ = [.dat (.src ns), .dat (.int m), .dat (.lst ((ns.take 63).map D.int)), .dat (.int (1 + e)), .own (l'.map D.int), .dat (.int c), y] ∧ Nums l' (i * (1 + e).toNat + j), rfl, ⟨l, _, rfl, hl⟩, ?_, ?_⟩
      · rintro j x ρ' hj ⟨l', y, rfl, hl'⟩
        obtain ⟨c', hc', rfl⟩ := map_get hj
        have hjr : j < (1 + e).toNat := by
          have := (List.getElem?_eq_some_iff.mp hc').1
          rw [hr.1] at this
          exact this
        refine gv_name ?_
        walk_at "ev"
        have hmul : i * (1 + e).toNat ≤ 63 * 1001 := Nat.mul_le_mul (by omega) (by omega)
        refine ⟨small_lt (by rw [List.length_map, hl'.1]; omega), ?_⟩
        have := hr.2 c' (List.mem_of_getElem? hc')
        exact ⟨l' ++ [c'], _, by rw [List.map_append]; rfl, hl'.snoc this.1 this.2⟩
      · rintro ρ' ⟨l', y, rfl, hl'⟩
        rw [List.length_map, hr.1] at hl'
        exact ⟨l', _, _, rfl, by rw [Nat.add_mul, Nat.one_mul]; exact hl'⟩
    · rintro ρ' ⟨l, y, z, rfl, hl⟩
      walk_at "ev"
      have hmul : ((ns.take 63).map D.int).length * (1 + e).toNat ≤ 63 * 1001 := Nat.mul_le_mul (by omega) (by omega)
      refine ws_while (fun n ρ => ∃ l', ρ = [.dat (.src ns), .dat (.int m), .dat (.lst ((ns.take 63).map D.int)), .dat (.int (1 + e)), .own (l'.map D.int), y, z] ∧ Nums l' l'.length ∧ l'.length ≤ 100000 ∧ n = m.toNat - l'.length) ⟨_, l, rfl, ⟨rfl, hl.2⟩, by rw [hl.1]; omega, rfl⟩ ?_
      rintro n ρ' ⟨l', rfl, hl', hz, rfl⟩
      walk_at "ev"
      rw [List.length_map]
      refine iteD (fun h1 => ?_) (fun h1 => ?_)
      · walk_at "ev"
        refine ⟨small_lt (by rw [List.length_map]; omega), _, ?_, l' ++ [0], by rw [List.map_append]; rfl, ?_, ?_, rfl⟩
        · rw [List.length_append]; simp only [List.length_singleton]; omega
        · have := hl'.snoc (x := 0) (by omega) (by omega)
          rw [List.length_append]; exact this
        · rw [List.length_append]; simp only [List.length_singleton]; omega
      · refine ws_freeze (i := 4) rfl rfl (ws_ret ?_)
        walk_at "ev"
        have ecut2 : cutD (l'.map D.int) none (some m) = (l'.take m.toNat).map D.int := by
          have em : m = ((m.toNat : Nat) : Int) := by omega
          rw [List.map_take, em, Int.toNat_natCast]; exact cutD_take _ _
        exact ⟨l'.take m.toNat, by rw [ecut2], hl'.take (by omega)⟩
theorem ws_law_pick (T : Txt K mg A) (W : WX) : ∀ ds, pr_law_pick ds → Keeps K W (t_law_pick K A W) 3 ds po_law_pick (fun _ _ => False)
  | [.lst ls, .int i, .int m], h => by
    obtain ⟨l, k, rfl, hl, h0, h1, h2⟩ : ∃ (l : List Int) (k : Nat), ls = l.map D.int ∧ Nums l k ∧ 0 ≤ i ∧ i < k ∧ 0 < m := h
    obtain ⟨a, ha, a0, a1⟩ := hl.at_ (i := i) h0 h1
    unfold t_law_pick
    walk_at "ev"
    refine od_ixL ha ?_
    walk_at "ev"
    exact ⟨Int.emod_nonneg _ (by omega), Int.emod_lt_of_pos _ h2⟩
theorem pw_le {n : Nat} (h : n ≤ 60) : 3 ^ n ≤ 42391158275216203514294433201 := Nat.le_trans (Nat.pow_le_pow_right (by decide) h) (by decide)
theorem ws_size_of (T : Txt K mg A) (W : WX) : ∀ ds, pr_size_of ds → Keeps K W (t_size_of K A W) 3 ds po_size_of (fun _ _ => False)
  | [.int f], h => by
    have hf : 1 ≤ f ∧ f ≤ 60 := h
    unfold t_size_of
    walk_at "ev"
    refine iteD (fun h1 => ?_) (fun h1 => absurd hf.1 h1)
    walk_at "ev"
    refine iteN (fun h2 => absurd hf.2 h2) (fun h2 => ?_)
    walk_at "ev"
    refine ws_for_range1 ?_
    walk_at "ev"
    refine ⟨f, fun i ρ => ∃ k, ρ = [.dat (.int f), .dat (nD (3 ^ i)), k], rfl, by omega, by omega, ⟨_, rfl⟩, ?_, ?_⟩
    · rintro i ρ' hi ⟨k, rfl⟩
      refine gv_name ?_
      walk_at "ev"
      refine ⟨.dat (.int (0 + (i : Int))), ?_⟩
      rw [show nD (3 ^ (i + 1)) = D.int (((3 ^ i : Nat) : Int) * 3) from by unfold nD; rw [Nat.pow_succ]; push_cast; rfl]
    · rintro ρ' ⟨k, rfl⟩
      walk_at "ev"
      rfl
theorem ws_check_point (T : Txt K mg A) (W : WX) : ∀ ds, pr_check_point ds → Keeps K W (t_check_point K A W) 2 ds po_check_point (fun _ _ => False)
  | [.int n, .int p], h => by
    have hf : 0 ≤ p ∧ p < n := h
    unfold t_check_point
    walk_at "ev"
    refine iteD (fun h1 => ?_) (fun h1 => absurd hf.1 h1)
    walk_at "ev"
    refine iteN (fun h2 => absurd hf.2 h2) (fun h2 => ?_)
    walk_at "ev"
    rfl
theorem ws_mixed (T : Txt K mg A) (W : WX) : ∀ ds, pr_mixed ds → Keeps K W (t_mixed K A W) 5 ds po_mixed (fun _ _ => False)
  | [.int a, .int b, .int t], h => by
    obtain ⟨⟨a0, a1⟩, ⟨b0, b1⟩, t0, t1⟩ : (0 ≤ a ∧ a < 3 ^ 60) ∧ (0 ≤ b ∧ b < 3 ^ 60) ∧ 1 ≤ t ∧ t ≤ 2 := h
    obtain ⟨a, rfl⟩ := Int.eq_ofNat_of_zero_le a0
    obtain ⟨b, rfl⟩ := Int.eq_ofNat_of_zero_le b0
    obtain ⟨t, rfl⟩ := Int.eq_ofNat_of_zero_le (show 0 ≤ t by omega)
    unfold t_mixed
    walk_at "ev"
    refine ws_while (fun k ρ => ∃ x y z : Nat, ρ = [.dat (nD x), .dat (nD y), .dat (nD t), .dat (nD z), .dat (nD (3 ^ (60 - k)))] ∧ k ≤ 60 ∧ x < 3 ^ k ∧ y < 3 ^ k ∧ z + 3 ^ (60 - k) * mx t k x y = mx t 60 a b) ⟨60, a, b, 0, rfl, by omega, by omega, by omega, by simp⟩ ?_
    rintro k ρ' ⟨x, y, z, rfl, hk, hx, hy, hz⟩
    have body : ∀ hne : ¬ (x = 0 ∧ y = 0), WS K W (tSeq (tAug 3 (tOp rMulA (tOp (rI (fun _ j => 0 < j) fun i j => .int (i % j)) (tOp (rAdd K) (tVar 0) (tOp rMulA (tVar 2) (tVar 1))) (tC (.int 3))) (tVar 4)) (rIAdd K))
        (tPar3 0 1 4 (tCons (tOp rDivA (tVar 0) (tC (.int 3))) (tCons (tOp rDivA (tVar 1) (tC (.int 3))) (tCons (tOp rMulA (tVar 4) (tC (.int 3))) tNil)))))
        [.dat (nD x), .dat (nD y), .dat (nD t), .dat (nD z), .dat (nD (3 ^ (60 - k)))]
        { nx := fun ρ'' => ∃ m', m' < k ∧ (fun k ρ => ∃ x y z : Nat, ρ = [.dat (nD x), .dat (nD y), .dat (nD t), .dat (nD z), .dat (nD (3 ^ (60 - k)))] ∧ k ≤ 60 ∧ x < 3 ^ k ∧ y < 3 ^ k ∧ z + 3 ^ (60 - k) * mx t k x y = mx t 60 a b) m' ρ'',
          ct := fun ρ'' => ∃ m', m' < k ∧ (fun k ρ => ∃ x y z : Nat, ρ = [.dat (nD x), .dat (nD y), .dat (nD t), .dat (nD z), .dat (nD (3 ^ (60 - k)))] ∧ k ≤ 60 ∧ x < 3 ^ k ∧ y < 3 ^ k ∧ z + 3 ^ (60 - k) * mx t k x y = mx t 60 a b) m' ρ'',
          bk := fun ρ => WS K W (tRet (tVar 3)) ρ { nx := fun _ => po_mixed [.int a, .int b, .int t] (.dat .non), rt := po_mixed [.int a, .int b, .int t], ex := fun _ _ => False }, rt := po_mixed [.int a, .int b, .int t], ex := fun _ _ => False } := fun hne => by
      cases k with
      | zero => exact absurd ⟨by simpa using hx, by simpa using hy⟩ hne
      | succ k =>
        refine ws_seq (ws_aug (by with_unfolding_all rfl) ?_)
        walk_at "ev"
        refine ws_par3 ?_
        walk_at "ev"
        refine ⟨_, _, _, rfl, k, by omega, x / 3, y / 3, z + (x + t * y) % 3 * 3 ^ (60 - (k + 1)), ?_, by omega, by rw [Nat.pow_succ] at hx; omega, by rw [Nat.pow_succ] at hy; omega, ?_⟩
        · have e1 : 3 ^ (60 - k) = 3 ^ (60 - (k + 1)) * 3 := by rw [← Nat.pow_succ]; congr 1; omega
          rw [e1]
          unfold nD
          push_cast
          rfl
        · rw [← hz]
          simp only [mx]
          rw [if_neg hne]
          have e1 : 3 ^ (60 - k) = 3 ^ (60 - (k + 1)) * 3 := by rw [← Nat.pow_succ]; congr 1; omega
          rw [e1, Nat.mul_add, Nat.mul_comm (3 ^ (60 - (k + 1))) ((x + t * y) % 3), Nat.mul_assoc]
          omega
    walk_at "ev"
    refine iteD (fun q1 => ?_) (fun q1 => ?_)
    · refine iteTT ?_
      exact body (by omega)
    · walk_at "ev"
      refine iteD (fun q2 => ?_) (fun q2 => ?_)
      · exact body (by omega)
      · walk_at "ev"
        have x0 : x = 0 := by omega
        have y0 : y = 0 := by omega
        subst x0 y0
        have : mx t k 0 0 = 0 := by cases k <;> simp [mx]
        rw [this, Nat.mul_zero, Nat.add_zero] at hz
        show Sl.dat (nD z) = _
        rw [hz]; rfl
theorem ws_class_count (T : Txt K mg A) (W : WX) : ∀ ds, pr_size_of ds → Keeps K W (t_class_count K A W) 1 ds po_class_count (fun _ _ => False)
  | [.int f], h => by
    have hf : 1 ≤ f ∧ f ≤ 60 := h
    unfold t_class_count
    walk_at "ev"
    refine ⟨hf, ?_, fun _ z => z.elim⟩
    rintro s rfl
    refine ⟨rfl, ?_⟩
    walk_at "ev"
    have := s3_eq f.toNat
    show Sl.dat (.int (((3 ^ f.toNat : Nat) - 1 : Int) / 2)) = .dat (.int (s3 f.toNat : Nat))
    rw [show ((3 ^ f.toNat : Nat) - 1 : Int) / 2 = (s3 f.toNat : Nat) from by omega]
theorem ws_first_power (T : Txt K mg A) (W : WX) : ∀ ds, pr_first_power ds → Keeps K W (t_first_power K A W) 2 ds po_first_power (fun _ _ => False)
  | [.int d], h => by
    obtain ⟨j, hj, h1, h2⟩ : ∃ j : Nat, j ≤ 60 ∧ 3 ^ j ≤ d ∧ d < 3 ^ (j + 1) := h
    unfold t_first_power
    walk_at "ev"
    refine ws_while (fun k ρ => ρ = [.dat (.int d), .dat (nD (3 ^ (j - k)))] ∧ k ≤ j) ⟨j, by rw [Nat.sub_self]; exact ⟨rfl, Nat.le_refl _⟩⟩ ?_
    rintro k ρ' ⟨rfl, hk⟩
    walk_at "ev"
    refine iteD (fun q => ?_) (fun q => ?_)
    · walk_at "ev"
      cases k with
      | zero =>
        rw [Nat.sub_zero] at q
        rw [Int.pow_succ] at h2
        push_cast at q
        omega
      | succ k =>
        refine ⟨k, by omega, ?_, by omega⟩
        rw [show 3 ^ (j - k) = 3 ^ (j - (k + 1)) * 3 from by rw [← Nat.pow_succ]; congr 1; omega]
        unfold nD
        push_cast
        rfl
    · walk_at "ev"
      cases k with
      | zero => exact ⟨j, h1, h2, by rw [Nat.sub_zero]⟩
      | succ k =>
        exfalso
        have e : 3 ^ (j - k) = 3 ^ (j - (k + 1)) * 3 := by rw [← Nat.pow_succ]; congr 1; omega
        have l1 : 3 ^ (j - k) ≤ 3 ^ j := Nat.pow_le_pow_right (by omega) (by omega)
        have l2 : ((3 ^ j : Nat) : Int) ≤ d := by push_cast; exact h1
        omega
theorem ws_class_of (T : Txt K mg A) (W : WX) : ∀ ds, pr_class_of ds → Keeps K W (t_class_of K A W) 6 ds po_class_of (fun _ _ => False)
  | [.int f, .int a, .int b], h => by
    obtain ⟨u, v, hu, hv, hne, lu, lv, f0, f1, rfl, rfl⟩ : ∃ u v : List Nat, Ok3 u ∧ Ok3 v ∧ u ≠ v ∧ (u.length : Int) = f ∧ (v.length : Int) = f ∧ 1 ≤ f ∧ f ≤ 60 ∧ a = (num u : Int) ∧ b = (num v : Int) := h
    have hl : u.length = v.length := by omega
    have fu : f.toNat = u.length := by omega
    have nu := num_lt hu
    have nv := num_lt hv
    rw [← hl] at nv
    have hp := pw_le (n := u.length) (by omega)
    have hw := cmb_ok 2 u v
    have hz := (dif_ne hu hv hl).mp hne
    have lw := cmb_len 2 hl
    have nw := num_lt hw
    rw [lw] at nw
    have hm := mx60 2 hu hv hl (by omega)
    have hj := ex3_lt hw hz
    rw [lw] at hj
    have pl := lead_pw hw hz
    have hlt := lead_lt hw
    have fin : po_class_of [.int f, .int (num u : Int), .int (num v : Int)] (.dat (nD (cls (cmb 2 u v)))) := by
      show Sl.dat _ = Sl.dat _
      rw [Int.toNat_natCast, Int.toNat_natCast, fu, figs_num hu, show figs u.length (num v) = v from by rw [hl]; exact figs_num hv]
    unfold t_class_of
    walk_at "ev"
    refine ⟨⟨f0, f1⟩, ?_, fun _ z => z.elim⟩
    rintro s rfl
    refine ⟨rfl, ?_⟩
    rw [fu]
    walk_at "ev"
    refine ⟨⟨by omega, by omega⟩, ?_, fun _ z => z.elim⟩
    rintro s rfl
    refine ⟨rfl, ?_⟩
    walk_at "ev"
    refine ⟨⟨by omega, by omega⟩, ?_, fun _ z => z.elim⟩
    rintro s rfl
    refine ⟨rfl, ?_⟩
    walk_at "ev"
    refine iteD (fun q => absurd (num_inj hu hv hl (by omega)) hne) (fun q => ?_)
    walk_at "ev"
    refine ⟨⟨⟨by omega, by omega⟩, ⟨by omega, by omega⟩, by omega, by omega⟩, ?_, fun _ z => z.elim⟩
    rintro s rfl
    refine ⟨rfl, ?_⟩
    rw [show (2 : Int).toNat = 2 from rfl, Int.toNat_natCast, Int.toNat_natCast, hm]
    walk_at "ev"
    generalize hW : cmb 2 u v = w at *
    have e3 : 3 ^ (ex3 w + 1) = 3 * 3 ^ ex3 w := by rw [Nat.pow_succ, Nat.mul_comm]
    have b1 : 3 ^ ex3 w ≤ num w ∧ num w < 3 ^ (ex3 w + 1) := by omega
    refine ⟨⟨ex3 w, by omega, by exact_mod_cast b1.1, by exact_mod_cast b1.2⟩, ?_, fun _ z => z.elim⟩
    rintro s ⟨j, j1, j2, rfl⟩
    have j1' : 3 ^ j ≤ num w := by exact_mod_cast j1
    have j2' : num w < 3 ^ (j + 1) := by exact_mod_cast j2
    have ej : j = ex3 w := by
      rcases Nat.lt_trichotomy j (ex3 w) with z | z | z
      · have : 3 ^ (j + 1) ≤ 3 ^ ex3 w := Nat.pow_le_pow_right (by omega) z
        omega
      · exact z
      · have : 3 ^ (ex3 w + 1) ≤ 3 ^ j := Nat.pow_le_pow_right (by omega) z
        omega
    subst ej
    refine ⟨rfl, ?_⟩
    walk_at "ev"
    have hs3 := s3_eq (ex3 w)
    refine iteD (fun q => ?_) (fun q => ?_)
    · walk_at "ev"
      have e2 : lead w = 2 := by omega
      refine ⟨⟨⟨by omega, by omega⟩, ⟨by omega, by omega⟩, by omega, by omega⟩, ?_, fun _ z => z.elim⟩
      rintro s rfl
      refine ⟨rfl, ?_⟩
      have hm2 := mx60 2 (zer_ok w.length) hw (zer_len _) (by rw [zer_len]; omega)
      rw [num_zer] at hm2
      rw [show (2 : Int).toNat = 2 from rfl, show (0 : Int).toNat = 0 from rfl, Int.toNat_natCast, hm2, show cmb 2 (zer w.length) w = norm w from by unfold norm; rw [if_pos e2]; rfl]
      walk_at "ev"
      have hn := norm_lead hw hz
      have hp2 := (lead_pw (norm_ok hw) (by omega)).1 hn.1
      rw [hn.2] at hp2
      have ec : (cls w : Int) = (((3 ^ ex3 w : Nat) : Int) - 1) / 2 + (num (norm w) : Int) - ((3 ^ ex3 w : Nat) : Int) := by unfold cls; omega
      rw [← ec]
      exact fin
    · walk_at "ev"
      have e2 : lead w ≠ 2 := by omega
      have hn : norm w = w := by unfold norm; rw [if_neg e2]
      have ec : (cls w : Int) = (((3 ^ ex3 w : Nat) : Int) - 1) / 2 + (num w : Int) - ((3 ^ ex3 w : Nat) : Int) := by unfold cls; rw [hn]; omega
      rw [← ec]
      exact fin
theorem ws_direction_of (T : Txt K mg A) (W : WX) : ∀ ds, pr_direction_of ds → Keeps K W (t_direction_of K A W) 3 ds (fun ds s => s.ok = true ∧ po_direction_of ds s) (fun _ _ => False)
  | [.int f, .int n], h => by
    obtain ⟨f0, f1, w, hw, lw, hz, rfl⟩ : 1 ≤ f ∧ f ≤ 60 ∧ ∃ w, Dir f n w := h
    have hn := norm_lead hw hz
    have hp2 := (lead_pw (norm_ok hw) (by omega)).1 hn.1
    rw [hn.2] at hp2
    have hc := cls_lt hw hz
    have hj := ex3_lt hw hz
    have hs := s3_eq (ex3 w)
    have hpl := pw_le (n := ex3 w) (by omega)
    have hcls : cls w = s3 (ex3 w) + (num (norm w) - 3 ^ ex3 w) := rfl
    unfold t_direction_of
    walk_at "ev"
    refine iteD (fun q => ?_) (fun q => absurd (by omega) q)
    walk_at "ev"
    refine ⟨⟨f0, f1⟩, ?_, fun _ z => z.elim⟩
    rintro s rfl
    refine ⟨rfl, ?_⟩
    walk_at "ev"
    rw [show f.toNat = w.length from by omega]
    refine iteN (fun q => absurd (by omega) q) (fun q => ?_)
    walk_at "ev"
    refine ws_while (fun k ρ => k ≤ ex3 w ∧ ∃ m : Nat, ρ = [.dat (.int f), .dat (nD m), .dat (nD (3 ^ (ex3 w - k)))] ∧ m + s3 (ex3 w - k) = cls w) ⟨ex3 w, Nat.le_refl _, cls w, by rw [Nat.sub_self]; exact ⟨rfl, rfl⟩⟩ ?_
    rintro k ρ' ⟨hk, m, rfl, hm⟩
    walk_at "ev"
    refine iteD (fun q => ?_) (fun q => ?_)
    · walk_at "ev"
      cases k with
      | zero => rw [Nat.sub_zero] at q hm; omega
      | succ k =>
        have e1 : ex3 w - k = ex3 w - (k + 1) + 1 := by omega
        refine ⟨k, by omega, by omega, m - 3 ^ (ex3 w - (k + 1)), ?_, ?_⟩
        · rw [e1, Nat.pow_succ]
          unfold nD
          rw [show ((m - 3 ^ (ex3 w - (k + 1)) : Nat) : Int) = (m : Int) - ((3 ^ (ex3 w - (k + 1)) : Nat) : Int) from by omega]
          push_cast
          rfl
        · rw [e1]
          simp only [s3]
          omega
    · walk_at "ev"
      refine ⟨rfl, fun w' hd => ?_⟩
      obtain ⟨hw', lw', hz', e'⟩ := hd
      rw [← cls_inj hw hw' hz hz' (by omega)]
      cases k with
      | zero =>
        rw [Nat.sub_zero] at hm q ⊢
        rw [show num (norm w) = 3 ^ ex3 w + m from by omega]
        unfold nD
        push_cast
        rfl
      | succ k =>
        exfalso
        have e1 : ex3 w - k = ex3 w - (k + 1) + 1 := by omega
        have h1 := s3_mono (show ex3 w - k ≤ ex3 w by omega)
        rw [e1] at h1
        simp only [s3] at h1
        omega
theorem ws_line_through (T : Txt K mg A) (W : WX) : ∀ ds, pr_line_through ds → Keeps K W (t_line_through K A W) 5 ds po_line_through (fun _ _ => False)
  | [.int f, .int n, .int p], h => by
    obtain ⟨f0, f1, ⟨w, hd⟩, c, hc, lc, rfl⟩ : 1 ≤ f ∧ f ≤ 60 ∧ (∃ w, Dir f n w) ∧ ∃ c : List Nat, Ok3 c ∧ (c.length : Int) = f ∧ p = (num c : Int) := h
    obtain ⟨hw, lw, hz, hn⟩ := id hd
    have nc := num_lt hc
    have hpl := pw_le (n := c.length) (by omega)
    have hN := norm_ok hw
    have hl : c.length = (norm w).length := by rw [norm_len]; omega
    have nn := num_lt hN
    rw [← hl] at nn
    unfold t_line_through
    walk_at "ev"
    refine ⟨⟨f0, f1⟩, ?_, fun _ z => z.elim⟩
    rintro s rfl
    refine ⟨rfl, ?_⟩
    rw [show f.toNat = c.length from by omega]
    walk_at "ev"
    refine ⟨⟨f0, f1, w, hd⟩, ?_, fun _ z => z.elim⟩
    rintro s ⟨hok, hs⟩
    refine ⟨hok, ?_⟩
    obtain rfl := hs w hd
    walk_at "ev"
    refine ⟨⟨by omega, by omega⟩, ?_, fun _ z => z.elim⟩
    rintro s rfl
    refine ⟨rfl, ?_⟩
    walk_at "ev"
    refine ⟨⟨⟨by omega, by omega⟩, ⟨by omega, by omega⟩, by omega, by omega⟩, ?_, fun _ z => z.elim⟩
    rintro s rfl
    refine ⟨rfl, ?_⟩
    walk_at "ev"
    refine ⟨⟨⟨by omega, by omega⟩, ⟨by omega, by omega⟩, by omega, by omega⟩, ?_, fun _ z => z.elim⟩
    rintro s rfl
    refine ⟨rfl, ?_⟩
    simp only [Int.toNat_natCast, Int.reduceToNat]
    rw [mx60 1 hc hN hl (by omega), mx60 2 hc hN hl (by omega)]
    walk_at "ev"
    refine cd_srtT (l := lnI (ln c (norm w))) ?_
    walk_at "ev"
    intro w' c' hd' hc' lc' e
    obtain rfl : c = c' := num_inj hc hc' (by omega) (by omega)
    obtain ⟨hw', lw', hz', hn'⟩ := hd'
    have : norm w = norm w' := num_inj hN (norm_ok hw') (by rw [norm_len, norm_len]; omega) (cls_inj hw hw' hz hz' (by omega))
    rw [this]
theorem ws_law_figures (T : Txt K mg A) (W : WX) : ∀ ds, pr_law_figures ds → Keeps K W (t_law_figures K A W) 4 ds po_law_figures (fun _ _ => False)
  | [.int v, .int m], h => by
    obtain ⟨v0, m0, m1⟩ : 0 ≤ v ∧ 0 ≤ m ∧ m ≤ 60 := h
    obtain ⟨v, rfl⟩ := Int.eq_ofNat_of_zero_le v0
    unfold t_law_figures
    walk_at "ev"
    refine ws_for_range1 ?_
    walk_at "ev"
    refine ⟨m, fun i ρ => ∃ x k, ρ = [.dat (nD x), .dat (.int m), .own ((figs i v).map nD), k] ∧ ∀ n, figs (i + n) v = figs i v ++ figs n x, rfl, by omega, by omega, ⟨v, _, rfl, fun n => by rw [Nat.zero_add]; rfl⟩, ?_, ?_⟩
    · rintro i ρ' hi ⟨x, k, rfl, hx⟩
      refine gv_name ?_
      walk_at "ev"
      refine ⟨small_lt (by rw [List.length_map, figs_len]; omega), ?_⟩
      walk_at "ev"
      refine ⟨x / 3, .dat (.int (0 + (i : Int))), ?_, fun n => ?_⟩
      · rw [hx 1, List.map_append]
        simp only [figs, List.map, nD]
        push_cast
        rfl
      · have := hx (n + 1)
        rw [show i + 1 + n = i + (n + 1) from by omega, this, hx 1, List.append_assoc]
        rfl
    · rintro ρ' ⟨x, k, rfl, hx⟩
      exact ws_retv (i := 2) rfl (by intro z; cases z) rfl
theorem ws_law_point (T : Txt K mg A) (W : WX) : ∀ ds, pr_law_point ds → Keeps K W (t_law_point K A W) 3 ds po_law_point (fun _ _ => False)
  | [.lst l], h => by
    obtain ⟨u, hu, hl, rfl⟩ : ∃ u : List Nat, Ok3 u ∧ u.length ≤ 60 ∧ l = u.map nD := h
    unfold t_law_point
    walk_at "ev"
    refine ws_for_range1 ?_
    walk_at "ev"
    rw [List.length_map]
    refine ⟨u.length, fun i ρ => ∃ k, ρ = [.dat (.lst (u.map nD)), .dat (nD (num (u.drop (u.length - i)))), k], rfl, by omega, by omega, ⟨_, by rw [Nat.sub_zero, List.drop_length]; rfl⟩, ?_, ?_⟩
    · rintro i ρ' hi ⟨k, rfl⟩
      have hi' : i < u.length := by omega
      refine gv_name ?_
      walk_at "ev"
      rw [List.length_map]
      have hg : u[u.length - (i + 1)]? = some (u[u.length - (i + 1)]'(by omega)) := List.getElem?_eq_getElem _
      generalize hd : u[u.length - (i + 1)]'(by omega) = d at hg
      refine od_ixL (d := nD d) ?_ ?_
      · exact atI_nn (n := u.length - (i + 1)) (by omega) (by rw [List.getElem?_map, hg]; rfl)
      · walk_at "ev"
        refine ⟨.dat (.int (0 + (i : Int))), ?_⟩
        have hdrop : u.drop (u.length - (i + 1)) = d :: u.drop (u.length - i) := by
          rw [List.drop_eq_getElem_cons (by omega), hd, show u.length - (i + 1) + 1 = u.length - i from by omega]
        rw [hdrop]
        simp only [num, nD]
        push_cast
        rw [Int.mul_comm 3, Int.add_comm]
    · rintro ρ' ⟨k, rfl⟩
      walk_at "ev"
      show Sl.dat _ = Sl.dat _
      rw [dnum_nD, Int.toNat_natCast, Nat.sub_self]
      rfl
/-- the figures of a drawn point -/
theorem Nums.fig {l : List Int} {m : Nat} (h : Nums l m) {i : Nat} (hi : i < m) : ∃ x : Nat, l[i]? = some (x : Int) ∧ x < 1009 := by
  obtain ⟨x, h1, h2, h3⟩ := h.get hi
  exact ⟨x.toNat, by rw [h1, show ((x.toNat : Nat) : Int) = x from by omega], by omega⟩
theorem lnI_perm {l l' : List (List Nat)} (h : l.Perm l') : (lnI l).Perm (lnI l') := h.map _
theorem snoc3 {u : List Nat} {x : Nat} (h : Ok3 u) (hx : x < 3) : Ok3 (u ++ [x]) := fun d hd => by
  rcases List.mem_append.mp hd with z | z
  · exact h d z
  · rw [List.mem_singleton] at z; omega
theorem ws_law (T : Txt K mg A) (W : WX) : ∀ ds, pr_law ds → Keeps K W (t_law K A W) 14 ds (fun _ s => s = .dat (.bl true)) (fun _ _ => False) := by
  rintro _ ⟨ns, rfl, hns⟩
  unfold t_law
  walk_at "ev"
  refine ⟨⟨hns, by omega, by omega⟩, ?_, fun _ z => z.elim⟩
  rintro s ⟨l, rfl, hl⟩
  refine ⟨rfl, ?_⟩
  walk_at "ev"
  refine ⟨⟨l, _, rfl, hl, by omega, by decide, by omega⟩, ?_, fun _ z => z.elim⟩
  rintro s ⟨z0, rfl, h00, h01⟩
  refine ⟨rfl, ?_⟩
  walk_at "ev"
  have hf : 5 ≤ 5 + z0 ∧ 5 + z0 ≤ 60 := by omega
  generalize 5 + z0 = f at hf
  obtain ⟨n, rfl⟩ := Int.eq_ofNat_of_zero_le (show 0 ≤ f by omega)
  have hl' : Nums l 160 := hl
  refine EvO.own (eo_lc_range1 (gin_name (by simp)) ?_)
  walk_at "ev"
  refine ⟨n, fun i acc => ∃ x : List Nat, acc = x.map nD ∧ Ok3 x ∧ x.length = i, rfl, by omega, by omega, ⟨[], rfl, fun _ h => by simp at h, rfl⟩, ?_, ?_⟩
  · rintro i acc hi ⟨x, rfl, hx, lx⟩
    refine gv_name (bv_yes (iteTT ?_))
    · have _ := hi
      walk_at "ev"
      refine ⟨⟨l, _, rfl, hl', by omega, by omega, by omega⟩, ?_, fun _ z => z.elim⟩
      rintro s ⟨z, rfl, g0, g1⟩
      refine ⟨rfl, small_lt (by rw [List.length_map]; omega), x ++ [z.toNat], ?_, snoc3 hx (by omega), by rw [List.length_append, lx]; rfl⟩
      rw [List.map_append]
      show _ = _ ++ [D.int ((z.toNat : Nat) : Int)]
      rw [show ((z.toNat : Nat) : Int) = z from by omega]
      rfl
  rintro acc ⟨u, rfl, hu, lu⟩
  refine ⟨_, rfl, ?_⟩
  walk_at "ev"
  refine ⟨⟨u, hu, by omega, rfl⟩, ?_, fun _ z => z.elim⟩
  rintro s rfl
  refine ⟨rfl, ?_⟩
  rw [dnum_nD]
  walk_at "ev"
  refine EvO.own (eo_lc_range1 (gin_name (by simp)) ?_)
  walk_at "ev"
  refine ⟨n, fun i acc => ∃ x : List Nat, acc = x.map nD ∧ Ok3 x ∧ x.length = i, rfl, by omega, by omega, ⟨[], rfl, fun _ h => by simp at h, rfl⟩, ?_, ?_⟩
  · rintro i acc hi ⟨x, rfl, hx, lx⟩
    refine gv_name (bv_yes (iteTT ?_))
    · have _ := hi
      obtain ⟨y, hy, hy2⟩ := Nums.fig hl' (i := 1 + i) (by omega)
      walk_at "ev"
      refine od_ixL (d := nD y) (atI_nn (n := 1 + i) (by omega) (by rw [List.getElem?_map, hy]; rfl)) ?_
      walk_at "ev"
      refine ⟨small_lt (by rw [List.length_map]; omega), x ++ [y / 3 % 3], ?_, snoc3 hx (by omega), by rw [List.length_append, lx]; rfl⟩
      rw [List.map_append]
      show _ = _ ++ [D.int ((y / 3 % 3 : Nat) : Int)]
      rw [show ((y / 3 % 3 : Nat) : Int) = (y : Int) / 3 % 3 from by omega]
  rintro acc ⟨v, rfl, hv, lv⟩
  refine ⟨_, rfl, ?_⟩
  walk_at "ev"
  refine ⟨⟨v, hv, by omega, rfl⟩, ?_, fun _ z => z.elim⟩
  rintro s rfl
  refine ⟨rfl, ?_⟩
  rw [dnum_nD]
  walk_at "ev"
  refine EvO.own (eo_lc_range1 (gin_name (by simp)) ?_)
  walk_at "ev"
  refine ⟨n, fun i acc => ∃ x : List Nat, acc = x.map nD ∧ Ok3 x ∧ x.length = i, rfl, by omega, by omega, ⟨[], rfl, fun _ h => by simp at h, rfl⟩, ?_, ?_⟩
  · rintro i acc hi ⟨x, rfl, hx, lx⟩
    refine gv_name (bv_yes (iteTT ?_))
    · have _ := hi
      obtain ⟨y, hy, hy2⟩ := Nums.fig hl' (i := 1 + i) (by omega)
      walk_at "ev"
      refine od_ixL (d := nD y) (atI_nn (n := 1 + i) (by omega) (by rw [List.getElem?_map, hy]; rfl)) ?_
      walk_at "ev"
      refine ⟨small_lt (by rw [List.length_map]; omega), x ++ [y / 9 % 3], ?_, snoc3 hx (by omega), by rw [List.length_append, lx]; rfl⟩
      rw [List.map_append]
      show _ = _ ++ [D.int ((y / 9 % 3 : Nat) : Int)]
      rw [show ((y / 9 % 3 : Nat) : Int) = (y : Int) / 9 % 3 from by omega]
  rintro acc ⟨c, rfl, hc, lc⟩
  refine ⟨_, rfl, ?_⟩
  walk_at "ev"
  refine ⟨⟨c, hc, by omega, rfl⟩, ?_, fun _ z => z.elim⟩
  rintro s rfl
  refine ⟨rfl, ?_⟩
  rw [dnum_nD]
  dsimp only [still_dat, startR, List.map, List.replicate, List.length, List.set, List.append, List.cons_append, List.nil_append, Nat.reduceSub, Nat.reduceAdd]
  -- two points
  refine ws_mid (fun ρ => ∃ v : List Nat, ρ = [.dat (.src ns), .dat (.lst (l.map D.int)), .dat (nD n), .dat (nD (num u)), .dat (nD (num v)), .dat (nD (num c)), .no, .no, .no, .no, .no, .no, .no, .no] ∧ Ok3 v ∧ v.length = n ∧ u ≠ v) ?_ ?_
  · walk_at "ev"
    refine iteD (fun q => ?_) (fun q => ?_)
    · walk_at "ev"
      cases u with
      | nil => simp at lu; omega
      | cons d u =>
        have hd := hu.head
        refine ⟨(d + 1) % 3 :: u, ?_, fun x hx => ?_, lu, fun z => ?_⟩
        · rw [show (((num (d :: u) : Nat) : Int) + 1) % 3 + ((num (d :: u) : Nat) : Int) - ((num (d :: u) : Nat) : Int) % 3 = ((num ((d + 1) % 3 :: u) : Nat) : Int) from by simp only [num]; omega]
        · rcases List.mem_cons.mp hx with z | z
          · omega
          · exact hu.tail x z
        · have := (List.cons.inj z).1
          omega
    · walk_at "ev"
      exact ⟨hv, lv, fun z => q (by rw [z])⟩
  clear hv lv
  rintro ρ' ⟨v, rfl, hv, lv, hne⟩
  simp only [Int.toNat_natCast] at lu lc
  have hlen : u.length = v.length := by omega
  have hw := cmb_ok 2 u v
  have lw := cmb_len 2 hlen
  have hz := (dif_ne hu hv hlen).mp hne
  have hN := norm_ok hw
  have hzN : lead (norm (cmb 2 u v)) ≠ 0 := by rw [(norm_lead hw hz).1]; decide
  have eN := cls_norm hw hz
  have three := ln_three hu hv hlen
  have hct := cls_lt hw hz
  have lnw : ∀ c : List Nat, c.length = n → c.length = (norm (cmb 2 u v)).length := fun c h => by rw [norm_len]; omega
  have ht := thd_ok hu hv hlen
  have lt := thd_len hu hv hlen
  have hdir : Dir n (cls (cmb 2 u v)) (cmb 2 u v) := ⟨hw, by omega, hz, rfl⟩
  have fgs : ∀ x : List Nat, Ok3 x → x.length = n → figs n (num x) = x := fun x h1 h2 => by rw [← h2]; exact figs_num h1
  have n5 : figs n (num u) = u := fgs u hu lu
  have n6 : figs n (num v) = v := fgs v hv lv
  have hneg := neg_lead hw
  have hneg0 : lead (neg (cmb 2 u v)) ≠ 0 := by have := lead_lt hw; omega
  have une : u ≠ thd u v := (dif_ne hu ht lt.symm).mpr (by rw [L5 hu hv hlen]; exact hneg0)
  have tne : thd u v ≠ v := (dif_ne ht hv (by omega)).mpr (by rw [L6 hu hv hlen]; exact hneg0)
  have bnd : ∀ x : List Nat, Ok3 x → x.length = n → num x < 42391158275216203514294433201 := fun x h1 h2 => by
    have := num_lt h1
    have := pw_le (n := x.length) (by omega)
    omega
  walk_at "ev"
  refine ⟨⟨u, v, hu, hv, hne, by omega, by omega, by omega, by omega, rfl, rfl⟩, ?_, fun _ z => z.elim⟩
  rintro s rfl
  refine ⟨rfl, ?_⟩
  simp only [Int.toNat_natCast]
  rw [n5, n6]
  walk_at "ev"
  refine iteD (fun q => ?_) (fun q => absurd (by omega) q)
  walk_at "ev"
  refine ⟨⟨by omega, by omega⟩, ?_, fun _ z => z.elim⟩
  rintro s rfl
  refine ⟨rfl, ?_⟩
  walk_at "ev"
  simp only [Int.toNat_natCast]
  rw [lw, lu] at hct
  refine iteN (fun q => absurd (show ((cls (cmb 2 u v) : Nat) : Int) < ((s3 n : Nat) : Int) by omega) q) (fun q => ?_)
  walk_at "ev"
  refine ⟨⟨by omega, by omega, by omega⟩, ?_, fun _ z => z.elim⟩
  rintro s rfl
  refine ⟨rfl, ?_⟩
  simp only [Int.toNat_natCast]
  rw [n5]
  walk_at "ev"
  refine ⟨⟨by omega, by omega, by omega⟩, ?_, fun _ z => z.elim⟩
  rintro s rfl
  refine ⟨rfl, ?_⟩
  simp only [Int.toNat_natCast]
  rw [n6]
  walk_at "ev"
  -- the third point
  refine EvO.own (eo_lc_range1 (gin_name (by simp)) ?_)
  walk_at "ev"
  refine ⟨n, fun i acc => acc = ((thd u v).take i).map nD, rfl, by omega, by omega, rfl, ?_, ?_⟩
  · rintro i acc hi rfl
    have hi' : i < n := by omega
    have g1 : u[i]? = some (u[i]'(by omega)) := List.getElem?_eq_getElem _
    have g2 : v[i]? = some (v[i]'(by omega)) := List.getElem?_eq_getElem _
    have x3 := hu (u[i]'(by omega)) (List.getElem_mem _)
    have y3 := hv (v[i]'(by omega)) (List.getElem_mem _)
    generalize u[i]'(by omega) = x at g1 x3
    generalize v[i]'(by omega) = y at g2 y3
    have g3 := thd_get g1 g2
    refine gv_name (bv_yes (iteTT ?_))
    walk_at "ev"
    refine od_ixL (d := nD x) (atI_nn (n := i) (by omega) (by rw [List.getElem?_map, g1]; rfl)) ?_
    walk_at "ev"
    refine od_ixL (d := nD y) (atI_nn (n := i) (by omega) (by rw [List.getElem?_map, g2]; rfl)) ?_
    walk_at "ev"
    refine ⟨small_lt (by rw [List.length_map, List.length_take]; omega), ?_⟩
    rw [List.take_add_one, g3, List.map_append]
    show _ = _ ++ [D.int (((2 * x % 3 + 2 * y) % 3 : Nat) : Int)]
    rw [show (((2 * x % 3 + 2 * y) % 3 : Nat) : Int) = (0 - (x : Int) - (y : Int)) % 3 from by omega]
  rintro acc rfl
  refine ⟨_, rfl, ?_⟩
  rw [List.take_of_length_le (by omega)]
  walk_at "ev"
  refine ⟨⟨thd u v, ht, by omega, rfl⟩, ?_, fun _ z => z.elim⟩
  rintro s rfl
  refine ⟨rfl, ?_⟩
  rw [dnum_nD]
  walk_at "ev"
  refine cd_srtL (l := lnI [u, v, thd u v]) ?_
  walk_at "ev"
  have shp : ∀ l : List Int, Shp 1 (.tup (l.map D.int)) := fun l d hd => by
    obtain ⟨x, _, rfl⟩ := List.mem_map.mp hd
    trivial
  -- the line through the first
  refine ⟨⟨by omega, by omega, ⟨_, hdir⟩, u, hu, by omega, rfl⟩, ?_, fun _ z => z.elim⟩
  rintro s ⟨l1, rfl, hl1⟩
  refine ⟨rfl, ?_⟩
  have e1 := hl1 _ u hdir hu (by omega) rfl
  rw [srt_eq (lnI_perm three.1)] at e1
  subst e1
  walk_at "ev"
  refine od_neD (n := 1) (m := 1) (shp _) (shp _) ?_
  rw [D.eqb_self (n := 1) (shp _)]
  walk_at "ev"
  refine ⟨⟨by omega, by omega, ⟨_, hdir⟩, thd u v, ht, by omega, rfl⟩, ?_, fun _ z => z.elim⟩
  rintro s ⟨l1, rfl, hl1⟩
  refine ⟨rfl, ?_⟩
  have e1 := hl1 _ (thd u v) hdir ht (by omega) rfl
  rw [srt_eq (lnI_perm three.2)] at e1
  subst e1
  walk_at "ev"
  refine od_neD (n := 1) (m := 1) (shp _) (shp _) ?_
  rw [D.eqb_self (n := 1) (shp _)]
  walk_at "ev"
  -- the classes of the other pairs
  have n7 := fgs _ ht (by omega)
  have eneg := cls_neg hw hz
  refine ⟨⟨u, thd u v, hu, ht, une, by omega, by omega, by omega, by omega, rfl, rfl⟩, ?_, fun _ z => z.elim⟩
  rintro s rfl
  refine ⟨rfl, ?_⟩
  simp only [Int.toNat_natCast]
  rw [n5, n7, L5 hu hv hlen, eneg]
  walk_at "ev"
  refine iteD (fun h => absurd rfl h) (fun h => ?_)
  walk_at "ev"
  refine ⟨⟨thd u v, v, ht, hv, tne, by omega, by omega, by omega, by omega, rfl, rfl⟩, ?_, fun _ z => z.elim⟩
  rintro s rfl
  refine ⟨rfl, ?_⟩
  simp only [Int.toNat_natCast]
  rw [n6, n7, L6 hu hv hlen, eneg]
  walk_at "ev"
  refine iteD (fun h => absurd rfl h) (fun h => ?_)
  walk_at "ev"
  -- the other line
  refine ⟨⟨by omega, by omega, ⟨_, hdir⟩, c, hc, by omega, rfl⟩, ?_, fun _ z => z.elim⟩
  rintro s ⟨l1, rfl, hl1⟩
  refine ⟨rfl, ?_⟩
  have e1 := hl1 _ c hdir hc (by omega) rfl
  clear hl1
  subst e1
  have hcN := lnw c lc
  have mem : ∀ {z : Int}, z ∈ srt (lnI (ln c (norm (cmb 2 u v)))) ↔ ∃ x ∈ ln c (norm (cmb 2 u v)), z = (num x : Int) := fun {z} => by
    rw [srt_mem]
    unfold lnI
    rw [List.mem_map]
    exact ⟨fun ⟨x, a, b⟩ => ⟨x, a, b.symm⟩, fun ⟨x, a, b⟩ => ⟨x, a, b.symm⟩⟩
  have lok := ln_ok hc hN hcN
  walk_at "ev"
  refine od_notinIT ?_
  refine ⟨_, rfl, ?_⟩
  rw [decide_eq_true (mem.mpr ⟨c, List.mem_cons_self, rfl⟩)]
  walk_at "ev"
  have all : ∀ x ∈ ln c (norm (cmb 2 u v)), (((num x : Nat) : Int) ∈ srt (lnI [u, v, thd u v]) ↔ c ∈ ln u (norm (cmb 2 u v))) := by
    have uN := lnw u lu
    have uok := ln_ok hu hN uN
    have m3 : ∀ x : List Nat, Ok3 x → x.length = n → (((num x : Nat) : Int) ∈ srt (lnI [u, v, thd u v]) ↔ x ∈ ln u (norm (cmb 2 u v))) := fun x h1 h2 => by
      rw [← srt_eq (lnI_perm three.1), srt_mem]
      unfold lnI
      rw [List.mem_map]
      refine ⟨fun ⟨y, a, b⟩ => ?_, fun a => ⟨x, a, rfl⟩⟩
      have := uok y a
      rw [num_inj h1 this.1 (by omega) (by omega)]
      exact a
    intro x hx
    rw [m3 x (lok x hx).1 (by rw [(lok x hx).2]; exact lc)]
    simp only [ln, List.mem_cons, List.not_mem_nil, or_false] at hx
    rcases hx with rfl | rfl | rfl
    · exact Iff.rfl
    · refine ⟨fun z => ?_, fun z => ln_step1 hu hN uN z⟩
      have := ln_step2 hu hN uN z
      rwa [L15 hc hN hcN] at this
    · refine ⟨fun z => ?_, fun z => ln_step2 hu hN uN z⟩
      have := ln_step1 hu hN uN z
      rwa [L16 hc hN hcN] at this
  have olen : (srt (lnI (ln c (norm (cmb 2 u v))))).length = 3 := by rw [srt_len]; rfl
  have ond : (srt (lnI (ln c (norm (cmb 2 u v))))).Nodup := by
    refine (srt_perm _).nodup_iff.mpr ?_
    have := ln_nodup hc hN hcN hzN
    unfold lnI
    rw [List.Nodup, List.pairwise_map]
    refine List.Pairwise.imp_of_mem (fun {x y} a b h z => h ?_) this
    exact num_inj (lok x a).1 (lok y b).1 (by rw [(lok x a).2, (lok y b).2]) (by omega)
  generalize hO : srt (lnI (ln c (norm (cmb 2 u v)))) = O at *
  generalize hT : srt (lnI [u, v, thd u v]) = T3 at *
  refine EvO.own (eo_lc_tup (gin_name (by simp)) ?_)
  walk_at "ev"
  refine ⟨_, fun i acc => acc = ((O.take i).filter fun x => decide (x ∈ T3)).map D.int, rfl, rfl, ?_, ?_⟩
  · rintro i x acc hx rfl
    obtain ⟨y, hy, rfl⟩ := map_get hx
    refine gv_name (bv_test ?_)
    walk_at "ev"
    refine od_inIT ?_
    refine ⟨_, rfl, ?_⟩
    rw [List.take_add_one, hy]
    show if decide (y ∈ T3) = true then _ else _
    have ef : ((O.take i ++ (some y).toList).filter fun x => decide (x ∈ T3)) = (O.take i).filter (fun x => decide (x ∈ T3)) ++ if decide (y ∈ T3) = true then [y] else [] := by
      rw [List.filter_append]
      show _ ++ [y].filter _ = _
      rw [List.filter_cons]
      rfl
    refine iteD (fun q => ?_) (fun q => ?_)
    · walk_at "ev"
      have : ((O.take i).filter fun x => decide (x ∈ T3)).length ≤ 3 := by
        have := List.length_filter_le (fun x => decide (x ∈ T3)) (O.take i)
        have := List.length_take_le' i O
        omega
      refine ⟨small_lt (by rw [List.length_map]; omega), ?_⟩
      rw [ef, if_pos (decide_eq_true q), List.map_append]
      rfl
    · rw [ef, if_neg (by simpa using q), List.append_nil]
  rintro acc rfl
  refine ⟨_, rfl, ?_⟩
  rw [List.length_map, List.take_of_length_le (Nat.le_refl _)]
  walk_at "ev"
  have hcnt : ((O.filter fun x => decide (x ∈ T3)).map D.int).length = 0 ∨ ((O.filter fun x => decide (x ∈ T3)).map D.int).length = 3 := by
    rw [List.length_map]
    by_cases q : c ∈ ln u (norm (cmb 2 u v))
    · right
      rw [List.filter_eq_self.mpr (fun z hz => ?_), olen]
      obtain ⟨x, a, rfl⟩ := mem.mp hz
      exact decide_eq_true ((all x a).mpr q)
    · left
      rw [List.filter_eq_nil_iff.mpr (fun z hz => ?_)]
      · rfl
      obtain ⟨x, a, rfl⟩ := mem.mp hz
      intro w
      exact q ((all x a).mp (of_decide_eq_true w))
  refine od_notinI (l := [0, 3]) ?_
  refine ⟨_, rfl, ?_⟩
  rw [decide_eq_true (show (((O.filter fun x => decide (x ∈ T3)).map D.int).length : Int) ∈ [(0 : Int), 3] by simp only [List.mem_cons, List.not_mem_nil, or_false]; omega)]
  walk_at "ev"
  -- the ends of the other line
  have g0 : O[0]? = some (O[0]'(by omega)) := List.getElem?_eq_getElem _
  have g2 : O[2]? = some (O[2]'(by omega)) := List.getElem?_eq_getElem _
  have gne : O[0]'(by omega) ≠ O[2]'(by omega) := List.pairwise_iff_getElem.mp ond 0 2 (by omega) (by omega) (by omega)
  have m0 := List.mem_of_getElem? g0
  have m2 := List.mem_of_getElem? g2
  generalize O[0]'(by omega) = x0 at *
  generalize O[2]'(by omega) = x2 at *
  obtain ⟨X0, a0, rfl⟩ := mem.mp m0
  obtain ⟨X2, a2, rfl⟩ := mem.mp m2
  refine od_ixT (d := nD (num X0)) (atI_nn (n := 0) rfl (by rw [List.getElem?_map, g0]; rfl)) ?_
  walk_at "ev"
  refine od_ixT (d := nD (num X2)) (atI_nn (n := 2) rfl (by rw [List.getElem?_map, g2]; rfl)) ?_
  walk_at "ev"
  have k0 := lok X0 a0
  have k2 := lok X2 a2
  have kne : X0 ≠ X2 := fun z => gne (by rw [z])
  refine ⟨⟨X0, X2, k0.1, k2.1, kne, by omega, by omega, by omega, by omega, rfl, rfl⟩, ?_, fun _ z => z.elim⟩
  rintro s rfl
  refine ⟨rfl, ?_⟩
  simp only [Int.toNat_natCast]
  rw [fgs X0 k0.1 (by omega), fgs X2 k2.1 (by omega), ln_cls hc hN hcN hzN a0 a2 kne, eN]
  walk_at "ev"
  exact congrArg (fun b => Sl.dat (.bl b)) (decide_eq_true rfl)
end
end K82

set_option maxRecDepth 100000
set_option maxHeartbeats 4000000
namespace K82
open PySem PySem.Spec L2 DL

section
variable {P : Program} {w : World} {K : PySem.W.Frag} {mg : Str → Option Value} {base : Heap} {A : Ad}
theorem ok_size_of (T : Txt K mg A) : FnOk P w K mg base (L2.CX P w) 1 A.f_size_of A.d_size_of ["figures"] (sp_size_of K A) :=
  fn_ws T.F_size_of sc_size_of (fun ds h => len_size_of A ds h) (fun cdv Ao outer s H E hr => ⟨t_size_of K A (WD E), (pss_cons (ps_if (pt_not (pt_chain op_le op_le pe_int (pv 0) (pe_globI rfl T.c_MOST_FIGURES))) (pss_one ps_never) pss_nil)
    (pss_cons (ps_set (i := 1) sc_size_of.nd rfl (Or.inl rfl) pe_int)
    (pss_cons (ps_for (passes_of rfl) rfl (pi_range1 (by rfl) T.z_range (pa_cons (pv 0) pa_nil)) (pg_name (i := 2) sc_size_of.nd rfl (Or.inl rfl)) (pss_one (ps_aug (i := 1) sc_size_of.nd rfl (Or.inl rfl) pe_int iop_mulA)))
    (pss_one (ps_ret (pv 1)))))), fun ds h => ws_size_of (K := K) (A := A) T (WD E) ds h⟩)
theorem ok_check_point (T : Txt K mg A) : FnOk P w K mg base (L2.CX P w) 1 A.f_check_point A.d_check_point ["size", "point"] (sp_check_point K A) :=
  fn_ws T.F_check_point sc_check_point (fun ds h => len_check_point A ds h) (fun cdv Ao outer s H E hr => ⟨t_check_point K A (WD E), (pss_one (ps_if (pt_not (pt_chain op_le op_lt pe_int (pv 1) (pv 0))) (pss_one ps_never) pss_nil)), fun ds h => ws_check_point (K := K) (A := A) T (WD E) ds h⟩)
theorem ok_mixed (T : Txt K mg A) : FnOk P w K mg base (L2.CX P w) 1 A.f_mixed A.d_mixed ["one", "other", "sign"] (sp_mixed K A) :=
  fn_ws T.F_mixed sc_mixed (fun ds h => len_mixed A ds h) (fun cdv Ao outer s H E hr => ⟨t_mixed K A (WD E), (pss_cons (ps_set (i := 3) sc_mixed.nd rfl (Or.inl rfl) pe_int)
    (pss_cons (ps_set (i := 4) sc_mixed.nd rfl (Or.inl rfl) pe_int)
    (pss_cons (ps_while (passes_of rfl) (PW.pt (pw_or (pt_cmpR op_gt (pv 0) pe_int (by first | exact nomark _ | rfl)) (pw_or1 (pt_cmpR op_gt (pv 1) pe_int (by first | exact nomark _ | rfl))))) (pss_cons (ps_aug (i := 3) sc_mixed.nd rfl (Or.inl rfl) (pe_op op_mulA (pe_op op_mod (pe_op op_addA (pv 0) (pe_op op_mulA (pv 2) (pv 1))) pe_int) (pv 4)) iop_addA)
    (pss_one (ps_par3 (i := 0) (j := 1) (l := 4) rfl sc_mixed.nd rfl rfl rfl (by decide) (by decide) (by decide) rfl rfl rfl (pa_cons (pe_op op_divA (pv 0) pe_int) (pa_cons (pe_op op_divA (pv 1) pe_int) (pa_cons (pe_op op_mulA (pv 4) pe_int) pa_nil))) (by rfl)))))
    (pss_one (ps_ret (pv 3)))))), fun ds h => ws_mixed (K := K) (A := A) T (WD E) ds h⟩)
theorem ok_class_count (T : Txt K mg A) : FnOk P w K mg base (L2.CX P w) 2 A.f_class_count A.d_class_count ["figures"] (sp_class_count K A) :=
  fn_ws T.F_class_count sc_class_count (fun ds h => len_class_count A ds h) (fun cdv Ao outer s H E hr => ⟨t_class_count K A (WD E), (pss_one (ps_ret (pe_op op_divA (pe_op op_sub (pe_callS (ok_size_of T) (hr.mono (by decide)) rfl T.g_size_of T.F_size_of.kp T.b_size_of (fun _ => passAt (takes_of rfl rfl rfl rfl) _) (pa_cons (pv 0) pa_nil)) pe_int) pe_int))), fun ds h => ws_class_count (K := K) (A := A) T (WD E) ds h⟩)
theorem ok_first_power (T : Txt K mg A) : FnOk P w K mg base (L2.CX P w) 1 A.f_first_power A.d_first_power ["direction"] (sp_first_power K A) :=
  fn_ws T.F_first_power sc_first_power (fun ds h => len_first_power A ds h) (fun cdv Ao outer s H E hr => ⟨t_first_power K A (WD E), (pss_cons (ps_set (i := 1) sc_first_power.nd rfl (Or.inl rfl) pe_int)
    (pss_cons (ps_while (passes_of rfl) (pt_cmpR op_le (pe_op op_mulA (pv 1) pe_int) (pv 0) (by first | exact nomark _ | rfl)) (pss_one (ps_aug (i := 1) sc_first_power.nd rfl (Or.inl rfl) pe_int iop_mulA)))
    (pss_one (ps_ret (pv 1))))), fun ds h => ws_first_power (K := K) (A := A) T (WD E) ds h⟩)
theorem ok_class_of (T : Txt K mg A) : FnOk P w K mg base (L2.CX P w) 2 A.f_class_of A.d_class_of ["figures", "a", "b"] (sp_class_of K A) :=
  fn_ws T.F_class_of sc_class_of (fun ds h => len_class_of A ds h) (fun cdv Ao outer s H E hr => ⟨t_class_of K A (WD E), (pss_cons (ps_set (i := 3) sc_class_of.nd rfl (Or.inl rfl) (pe_callS (ok_size_of T) (hr.mono (by decide)) rfl T.g_size_of T.F_size_of.kp T.b_size_of (fun _ => passAt (takes_of rfl rfl rfl rfl) _) (pa_cons (pv 0) pa_nil)))
    (pss_cons (ps_expr (pe_callS (ok_check_point T) (hr.mono (by decide)) rfl T.g_check_point T.F_check_point.kp T.b_check_point (fun _ => passAt (takes_of rfl rfl rfl rfl) _) (pa_cons (pv 3) (pa_cons (pv 1) pa_nil))))
    (pss_cons (ps_expr (pe_callS (ok_check_point T) (hr.mono (by decide)) rfl T.g_check_point T.F_check_point.kp T.b_check_point (fun _ => passAt (takes_of rfl rfl rfl rfl) _) (pa_cons (pv 3) (pa_cons (pv 2) pa_nil))))
    (pss_cons (ps_if (pt_cmpR (op_eqA hr.units) (pv 1) (pv 2) (by first | exact nomark _ | rfl)) (pss_one ps_never) pss_nil)
    (pss_cons (ps_set (i := 4) sc_class_of.nd rfl (Or.inl rfl) (pe_callS (ok_mixed T) (hr.mono (by decide)) rfl T.g_mixed T.F_mixed.kp T.b_mixed (fun _ => passAt (takes_of rfl rfl rfl rfl) _) (pa_cons (pv 1) (pa_cons (pv 2) (pa_cons pe_int pa_nil)))))
    (pss_cons (ps_set (i := 5) sc_class_of.nd rfl (Or.inl rfl) (pe_callS (ok_first_power T) (hr.mono (by decide)) rfl T.g_first_power T.F_first_power.kp T.b_first_power (fun _ => passAt (takes_of rfl rfl rfl rfl) _) (pa_cons (pv 4) pa_nil)))
    (pss_cons (ps_if (pt_cmpR op_ge (pv 4) (pe_op op_mulA pe_int (pv 5)) (by first | exact nomark _ | rfl)) (pss_one (ps_set (i := 4) sc_class_of.nd rfl (Or.inl rfl) (pe_callS (ok_mixed T) (hr.mono (by decide)) rfl T.g_mixed T.F_mixed.kp T.b_mixed (fun _ => passAt (takes_of rfl rfl rfl rfl) _) (pa_cons pe_int (pa_cons (pv 4) (pa_cons pe_int pa_nil)))))) pss_nil)
    (pss_one (ps_ret (pe_op op_sub (pe_op op_addA (pe_op op_divA (pe_op op_sub (pv 5) pe_int) pe_int) (pv 4)) (pv 5))))))))))), fun ds h => ws_class_of (K := K) (A := A) T (WD E) ds h⟩)
theorem ok_direction_of (T : Txt K mg A) : FnOk P w K mg base (L2.CX P w) 3 A.f_direction_of A.d_direction_of ["figures", "number"] (sp_direction_of K A) :=
  fn_ws T.F_direction_of sc_direction_of (fun ds h => len_direction_of A ds h) (fun cdv Ao outer s H E hr => ⟨t_direction_of K A (WD E), (pss_cons (ps_if (pt_not (pt_chain op_le op_lt pe_int (pv 1) (pe_callS (ok_class_count T) (hr.mono (by decide)) rfl T.g_class_count T.F_class_count.kp T.b_class_count (fun _ => passAt (takes_of rfl rfl rfl rfl) _) (pa_cons (pv 0) pa_nil)))) (pss_one ps_never) pss_nil)
    (pss_cons (ps_set (i := 2) sc_direction_of.nd rfl (Or.inl rfl) pe_int)
    (pss_cons (ps_while (passes_of rfl) (pt_cmpR op_ge (pv 1) (pv 2) (by first | exact nomark _ | rfl)) (pss_cons (ps_aug (i := 1) sc_direction_of.nd rfl (Or.inl rfl) (pv 2) iop_sub)
    (pss_one (ps_aug (i := 2) sc_direction_of.nd rfl (Or.inl rfl) pe_int iop_mulA))))
    (pss_one (ps_ret (pe_op op_addA (pv 2) (pv 1))))))), fun ds h => ws_direction_of (K := K) (A := A) T (WD E) ds h⟩)
theorem ok_line_through (T : Txt K mg A) : FnOk P w K mg base (L2.CX P w) 4 A.f_line_through A.d_line_through ["figures", "number", "point"] (sp_line_through K A) :=
  fn_ws T.F_line_through sc_line_through (fun ds h => len_line_through A ds h) (fun cdv Ao outer s H E hr => ⟨t_line_through K A (WD E), (pss_cons (ps_set (i := 3) sc_line_through.nd rfl (Or.inl rfl) (pe_callS (ok_size_of T) (hr.mono (by decide)) rfl T.g_size_of T.F_size_of.kp T.b_size_of (fun _ => passAt (takes_of rfl rfl rfl rfl) _) (pa_cons (pv 0) pa_nil)))
    (pss_cons (ps_set (i := 4) sc_line_through.nd rfl (Or.inl rfl) (pe_callS (ok_direction_of T) (hr.mono (by decide)) rfl T.g_direction_of T.F_direction_of.kp T.b_direction_of (fun _ => passAt (takes_of rfl rfl rfl rfl) _) (pa_cons (pv 0) (pa_cons (pv 1) pa_nil))))
    (pss_cons (ps_expr (pe_callS (ok_check_point T) (hr.mono (by decide)) rfl T.g_check_point T.F_check_point.kp T.b_check_point (fun _ => passAt (takes_of rfl rfl rfl rfl) _) (pa_cons (pv 3) (pa_cons (pv 2) pa_nil))))
    (pss_one (ps_ret (pe_callTy call_tuple_of (by rfl) T.z_tuple (by decide +kernel) (pa_cons (pe_callB cr_sortedA (by rfl) T.z_sorted (by decide +kernel) (pa_cons (pe_tup (pa_cons (pv 2) (pa_cons (pe_callS (ok_mixed T) (hr.mono (by decide)) rfl T.g_mixed T.F_mixed.kp T.b_mixed (fun _ => passAt (takes_of rfl rfl rfl rfl) _) (pa_cons (pv 2) (pa_cons (pv 4) (pa_cons pe_int pa_nil)))) (pa_cons (pe_callS (ok_mixed T) (hr.mono (by decide)) rfl T.g_mixed T.F_mixed.kp T.b_mixed (fun _ => passAt (takes_of rfl rfl rfl rfl) _) (pa_cons (pv 2) (pa_cons (pv 4) (pa_cons pe_int pa_nil)))) pa_nil)))) pa_nil)) pa_nil))))))), fun ds h => ws_line_through (K := K) (A := A) T (WD E) ds h⟩)
theorem ok_law_row (T : Txt K mg A) : FnOk P w K mg base (L2.CX P w) 1 A.f_law_row A.d_law_row ["_law_cell", "_law_many"] (sp_law_row K A) :=
  fn_ws T.F_law_row sc_law_row (fun ds h => len_law_row A ds h) (fun cdv Ao outer s H E hr => ⟨t_law_row K A (WD E), (pss_cons (ps_set (i := 2) sc_law_row.nd rfl (Or.inl rfl) (pe_lst pa_nil))
    (pss_cons (ps_set (i := 3) sc_law_row.nd rfl (Or.inl rfl) (pe_callB call_abs (by rfl) T.z_abs (by decide +kernel) (pa_cons (pv 0) pa_nil)))
    (pss_cons (ps_set (i := 4) sc_law_row.nd rfl (Or.inl rfl) (pe_op op_mod (pe_callTy call_int1 (by rfl) T.z_int (by decide +kernel) (pa_cons (pe_op op_addA (pe_op op_mulA (pv 3) pe_int) pe_int) pa_nil)) pe_int))
    (pss_cons (ps_for (passes_of rfl) rfl (pi_range1 (by rfl) T.z_range (pa_cons (pv 1) pa_nil)) (pg_name (i := 5) sc_law_row.nd rfl (Or.inl rfl)) (pss_cons (ps_set (i := 4) sc_law_row.nd rfl (Or.inl rfl) (pe_op op_mod (pe_callTy call_int1 (by rfl) T.z_int (by decide +kernel) (pa_cons (pe_op op_addA (pe_op op_mulA (pv 4) pe_int) (pe_op op_mulA pe_int (pe_op op_addA (pv 5) pe_int))) pa_nil)) pe_int))
    (pss_one (ps_if (pt_cmpR op_ge (pe_callB call_abs (by rfl) T.z_abs (by decide +kernel) (pa_cons (pv 0) pa_nil)) (pe_op op_pow pe_int pe_int) (by first | exact nomark _ | rfl)) (pss_cons (ps_expr (pe_bm PySem.F.plainAttrs_list PySem.F.slot_list_append PySem.F.type_list_append mt_append (pv 2) (pa_cons (pe_op op_mod (pe_callTy call_int1 (by rfl) T.z_int (by decide +kernel) (pa_cons (pv 3) pa_nil)) pe_int) pa_nil)))
    (pss_one (ps_set (i := 3) sc_law_row.nd rfl (Or.inl rfl) (pe_op op_divA (pv 3) pe_int)))) (pss_one (ps_expr (pe_bm PySem.F.plainAttrs_list PySem.F.slot_list_append PySem.F.type_list_append mt_append (pv 2) (pa_cons (pe_op op_mod (pe_callTy call_int1 (by rfl) T.z_int (by decide +kernel) (pa_cons (pe_op op_divA (pv 4) pe_int) pa_nil)) pe_int) pa_nil))))))))
    (pss_one (ps_ret (pv 2))))))), fun ds h => ws_law_row (K := K) (A := A) T (WD E) ds h⟩)
theorem ok_law_numbers (T : Txt K mg A) : FnOk P w K mg base (L2.CX P w) 2 A.f_law_numbers A.d_law_numbers ["_law_script", "_law_many"] (sp_law_numbers K A) :=
  fn_ws T.F_law_numbers sc_law_numbers (fun ds h => len_law_numbers A ds h) (fun cdv Ao outer s H E hr => ⟨t_law_numbers K A (WD E), (pss_cons (ps_set (i := 2) sc_law_numbers.nd rfl (Or.inl rfl) (pe_slice sl_list (pv 0) po_none (po_some pe_int)))
    (pss_cons (ps_set (i := 3) sc_law_numbers.nd rfl (Or.inl rfl) (pe_op op_addA pe_int (pe_op op_divA (pv 1) (pe_callB (call_max2 rfl) (by rfl) T.z_max (by decide +kernel) (pa_cons pe_int (pa_cons (pe_callB call_len (by rfl) T.z_len (by decide +kernel) (pa_cons (pv 2) pa_nil)) pa_nil))))))
    (pss_cons (ps_set (i := 4) sc_law_numbers.nd rfl (Or.inl rfl) (pe_lst pa_nil))
    (pss_cons (ps_for (passes_of rfl) rfl (pi_list (pv 2)) (pg_name (i := 5) sc_law_numbers.nd rfl (Or.inl rfl)) (pss_one (ps_for (passes_of rfl) rfl (pi_list (pe_callS (ok_law_row T) (hr.mono (by decide)) rfl T.g_law_row T.F_law_row.kp T.b_law_row (fun _ => passAt (takes_of rfl rfl rfl rfl) _) (pa_cons (pv 5) (pa_cons (pv 3) pa_nil)))) (pg_name (i := 6) sc_law_numbers.nd rfl (Or.inl rfl)) (pss_one (ps_expr (pe_bm PySem.F.plainAttrs_list PySem.F.slot_list_append PySem.F.type_list_append mt_append (pv 4) (pa_cons (pv 6) pa_nil)))))))
    (pss_cons (ps_while (passes_of rfl) (pt_cmpR op_lt (pe_callB call_len (by rfl) T.z_len (by decide +kernel) (pa_cons (pv 4) pa_nil)) (pv 1) (by first | exact nomark _ | rfl)) (pss_one (ps_expr (pe_bm PySem.F.plainAttrs_list PySem.F.slot_list_append PySem.F.type_list_append mt_append (pv 4) (pa_cons pe_int pa_nil)))))
    (pss_one (ps_ret (pe_slice sl_list (pv 4) po_none (po_some (pv 1)))))))))), fun ds h => ws_law_numbers (K := K) (A := A) T (WD E) ds h⟩)
theorem ok_law_pick (T : Txt K mg A) : FnOk P w K mg base (L2.CX P w) 1 A.f_law_pick A.d_law_pick ["_law_numbers_here", "_law_at", "_law_most"] (sp_law_pick K A) :=
  fn_ws T.F_law_pick sc_law_pick (fun ds h => len_law_pick A ds h) (fun cdv Ao outer s H E hr => ⟨t_law_pick K A (WD E), (pss_one (ps_ret (pe_op op_mod (pe_callTy call_int1 (by rfl) T.z_int (by decide +kernel) (pa_cons (pe_ix ix_seq (pv 0) (pv 1) (fun _ _ => rfl)) pa_nil)) (pv 2)))), fun ds h => ws_law_pick (K := K) (A := A) T (WD E) ds h⟩)
theorem ok_law_figures (T : Txt K mg A) : FnOk P w K mg base (L2.CX P w) 1 A.f_law_figures A.d_law_figures ["_law_value", "_law_many"] (sp_law_figures K A) :=
  fn_ws T.F_law_figures sc_law_figures (fun ds h => len_law_figures A ds h) (fun cdv Ao outer s H E hr => ⟨t_law_figures K A (WD E), (pss_cons (ps_set (i := 2) sc_law_figures.nd rfl (Or.inl rfl) (pe_lst pa_nil))
    (pss_cons (ps_for (passes_of rfl) rfl (pi_range1 (by rfl) T.z_range (pa_cons (pv 1) pa_nil)) (pg_name (i := 3) sc_law_figures.nd rfl (Or.inl rfl)) (pss_cons (ps_expr (pe_bm PySem.F.plainAttrs_list PySem.F.slot_list_append PySem.F.type_list_append mt_append (pv 2) (pa_cons (pe_op op_mod (pe_callTy call_int1 (by rfl) T.z_int (by decide +kernel) (pa_cons (pv 0) pa_nil)) pe_int) pa_nil)))
    (pss_one (ps_set (i := 0) sc_law_figures.nd rfl (Or.inl rfl) (pe_op op_divA (pv 0) pe_int)))))
    (pss_one (ps_ret (pv 2))))), fun ds h => ws_law_figures (K := K) (A := A) T (WD E) ds h⟩)
theorem ok_law_point (T : Txt K mg A) : FnOk P w K mg base (L2.CX P w) 1 A.f_law_point A.d_law_point ["_law_figures_here"] (sp_law_point K A) :=
  fn_ws T.F_law_point sc_law_point (fun ds h => len_law_point A ds h) (fun cdv Ao outer s H E hr => ⟨t_law_point K A (WD E), (pss_cons (ps_set (i := 1) sc_law_point.nd rfl (Or.inl rfl) pe_int)
    (pss_cons (ps_for (passes_of rfl) rfl (pi_range1 (by rfl) T.z_range (pa_cons (pe_callB call_len (by rfl) T.z_len (by decide +kernel) (pa_cons (pv 0) pa_nil)) pa_nil)) (pg_name (i := 2) sc_law_point.nd rfl (Or.inl rfl)) (pss_one (ps_set (i := 1) sc_law_point.nd rfl (Or.inl rfl) (pe_op op_addA (pe_op op_mulA (pv 1) pe_int) (pe_ix ix_seq (pv 0) (pe_op op_sub (pe_op op_sub (pe_callB call_len (by rfl) T.z_len (by decide +kernel) (pa_cons (pv 0) pa_nil)) pe_int) (pv 2)) (fun _ _ => rfl))))))
    (pss_one (ps_ret (pv 1))))), fun ds h => ws_law_point (K := K) (A := A) T (WD E) ds h⟩)
theorem ok_law (T : Txt K mg A) : FnOk P w K mg base (L2.CX P w) 5 A.f_law A.d_law ["_law_script"] (sp_law K A) :=
  fn_ws T.F_law sc_law (fun ds h => len_law A ds h) (fun cdv Ao outer s H E hr => ⟨t_law K A (WD E), (pss_cons (ps_set (i := 1) sc_law.nd rfl (Or.inr rfl) (pe_callS (ok_law_numbers T) (hr.mono (by decide)) rfl T.g_law_numbers T.F_law_numbers.kp T.b_law_numbers (fun _ => passAt (takes_of rfl rfl rfl rfl) _) (pa_cons (pv 0) (pa_cons pe_int pa_nil))))
    (pss_cons (ps_set (i := 2) sc_law.nd rfl (Or.inl rfl) (pe_op op_addA pe_int (pe_callS (ok_law_pick T) (hr.mono (by decide)) rfl T.g_law_pick T.F_law_pick.kp T.b_law_pick (fun _ => passAt (takes_of rfl rfl rfl rfl) _) (pa_cons (pv 1) (pa_cons pe_int (pa_cons pe_int pa_nil))))))
    (pss_cons (ps_set (i := 3) sc_law.nd rfl (Or.inl rfl) (pe_callS (ok_law_point T) (hr.mono (by decide)) rfl T.g_law_point T.F_law_point.kp T.b_law_point (fun _ => passAt (takes_of rfl rfl rfl rfl) _) (pa_cons (pe_lc (own := [("_law_k", 12)]) (g := (gName 12)) rfl sc_law.nd (pi_range1 (by rfl) T.z_range (pa_cons (pv 2) pa_nil)) (blkOk_by (own := [("_law_k", 12)]) (N := ["_law_script", "_law_numbers_here", "_law_many", "_law_a", "_law_b", "_law_c", "_law_number", "_law_first", "_law_second", "_law_third", "_law_three", "_law_other", "_law_k", "_law_point_here"]) (sc := defScope s_law) (by decide +kernel)) (fun _ _ _ _ _ => (pg_name (i := 12) sc_law.nd rfl (Or.inl rfl))) (fun _ _ _ _ _ => pts_nil) (fun _ _ _ _ _ => (pe_callS (ok_law_pick T) (hr.mono (by decide)) rfl T.g_law_pick T.F_law_pick.kp T.b_law_pick (fun _ => passAt takes0 _) (pa_cons (pv 1) (pa_cons (pe_op op_addA pe_int (pv 12)) (pa_cons pe_int pa_nil)))))) pa_nil)))
    (pss_cons (ps_set (i := 4) sc_law.nd rfl (Or.inl rfl) (pe_callS (ok_law_point T) (hr.mono (by decide)) rfl T.g_law_point T.F_law_point.kp T.b_law_point (fun _ => passAt (takes_of rfl rfl rfl rfl) _) (pa_cons (pe_lc (own := [("_law_k", 12)]) (g := (gName 12)) rfl sc_law.nd (pi_range1 (by rfl) T.z_range (pa_cons (pv 2) pa_nil)) (blkOk_by (own := [("_law_k", 12)]) (N := ["_law_script", "_law_numbers_here", "_law_many", "_law_a", "_law_b", "_law_c", "_law_number", "_law_first", "_law_second", "_law_third", "_law_three", "_law_other", "_law_k", "_law_point_here"]) (sc := defScope s_law) (by decide +kernel)) (fun _ _ _ _ _ => (pg_name (i := 12) sc_law.nd rfl (Or.inl rfl))) (fun _ _ _ _ _ => pts_nil) (fun _ _ _ _ _ => (pe_op op_mod (pe_callTy call_int1 (by rfl) T.z_int (by decide +kernel) (pa_cons (pe_op op_divA (pe_ix ix_seq (pv 1) (pe_op op_addA pe_int (pv 12)) (fun _ _ => rfl)) pe_int) pa_nil)) pe_int))) pa_nil)))
    (pss_cons (ps_set (i := 5) sc_law.nd rfl (Or.inl rfl) (pe_callS (ok_law_point T) (hr.mono (by decide)) rfl T.g_law_point T.F_law_point.kp T.b_law_point (fun _ => passAt (takes_of rfl rfl rfl rfl) _) (pa_cons (pe_lc (own := [("_law_k", 12)]) (g := (gName 12)) rfl sc_law.nd (pi_range1 (by rfl) T.z_range (pa_cons (pv 2) pa_nil)) (blkOk_by (own := [("_law_k", 12)]) (N := ["_law_script", "_law_numbers_here", "_law_many", "_law_a", "_law_b", "_law_c", "_law_number", "_law_first", "_law_second", "_law_third", "_law_three", "_law_other", "_law_k", "_law_point_here"]) (sc := defScope s_law) (by decide +kernel)) (fun _ _ _ _ _ => (pg_name (i := 12) sc_law.nd rfl (Or.inl rfl))) (fun _ _ _ _ _ => pts_nil) (fun _ _ _ _ _ => (pe_op op_mod (pe_callTy call_int1 (by rfl) T.z_int (by decide +kernel) (pa_cons (pe_op op_divA (pe_ix ix_seq (pv 1) (pe_op op_addA pe_int (pv 12)) (fun _ _ => rfl)) pe_int) pa_nil)) pe_int))) pa_nil)))
    (pss_cons (ps_if (pt_cmpR (op_eqA hr.units) (pv 3) (pv 4) (by first | exact nomark _ | rfl)) (pss_one (ps_set (i := 4) sc_law.nd rfl (Or.inl rfl) (pe_op op_sub (pe_op op_addA (pe_op op_mod (pe_callTy call_int1 (by rfl) T.z_int (by decide +kernel) (pa_cons (pe_op op_addA (pv 3) pe_int) pa_nil)) pe_int) (pv 3)) (pe_op op_mod (pe_callTy call_int1 (by rfl) T.z_int (by decide +kernel) (pa_cons (pv 3) pa_nil)) pe_int)))) pss_nil)
    (pss_cons (ps_set (i := 6) sc_law.nd rfl (Or.inl rfl) (pe_callS (ok_class_of T) (hr.mono (by decide)) rfl T.g_class_of T.F_class_of.kp T.b_class_of (fun _ => passAt (takes_of rfl rfl rfl rfl) _) (pa_cons (pv 2) (pa_cons (pv 3) (pa_cons (pv 4) pa_nil)))))
    (pss_cons (ps_if (pt_not (pt_chain op_le op_lt pe_int (pv 6) (pe_callS (ok_class_count T) (hr.mono (by decide)) rfl T.g_class_count T.F_class_count.kp T.b_class_count (fun _ => passAt (takes_of rfl rfl rfl rfl) _) (pa_cons (pv 2) pa_nil)))) (pss_one (ps_ret pe_bl)) pss_nil)
    (pss_cons (ps_set (i := 7) sc_law.nd rfl (Or.inr rfl) (pe_callS (ok_law_figures T) (hr.mono (by decide)) rfl T.g_law_figures T.F_law_figures.kp T.b_law_figures (fun _ => passAt (takes_of rfl rfl rfl rfl) _) (pa_cons (pv 3) (pa_cons (pv 2) pa_nil))))
    (pss_cons (ps_set (i := 8) sc_law.nd rfl (Or.inr rfl) (pe_callS (ok_law_figures T) (hr.mono (by decide)) rfl T.g_law_figures T.F_law_figures.kp T.b_law_figures (fun _ => passAt (takes_of rfl rfl rfl rfl) _) (pa_cons (pv 4) (pa_cons (pv 2) pa_nil))))
    (pss_cons (ps_set (i := 9) sc_law.nd rfl (Or.inl rfl) (pe_callS (ok_law_point T) (hr.mono (by decide)) rfl T.g_law_point T.F_law_point.kp T.b_law_point (fun _ => passAt (takes_of rfl rfl rfl rfl) _) (pa_cons (pe_lc (own := [("_law_k", 12)]) (g := (gName 12)) rfl sc_law.nd (pi_range1 (by rfl) T.z_range (pa_cons (pv 2) pa_nil)) (blkOk_by (own := [("_law_k", 12)]) (N := ["_law_script", "_law_numbers_here", "_law_many", "_law_a", "_law_b", "_law_c", "_law_number", "_law_first", "_law_second", "_law_third", "_law_three", "_law_other", "_law_k", "_law_point_here"]) (sc := defScope s_law) (by decide +kernel)) (fun _ _ _ _ _ => (pg_name (i := 12) sc_law.nd rfl (Or.inl rfl))) (fun _ _ _ _ _ => pts_nil) (fun _ _ _ _ _ => (pe_op op_mod (pe_callTy call_int1 (by rfl) T.z_int (by decide +kernel) (pa_cons (pe_op op_sub (pe_op op_sub pe_int (pe_ix ix_seq (pv 7) (pv 12) (fun _ _ => rfl))) (pe_ix ix_seq (pv 8) (pv 12) (fun _ _ => rfl))) pa_nil)) pe_int))) pa_nil)))
    (pss_cons (ps_set (i := 10) sc_law.nd rfl (Or.inr rfl) (pe_callTy call_tuple_of (by rfl) T.z_tuple (by decide +kernel) (pa_cons (pe_callB cr_sortedA (by rfl) T.z_sorted (by decide +kernel) (pa_cons (pe_lst (pa_cons (pv 3) (pa_cons (pv 4) (pa_cons (pv 9) pa_nil)))) pa_nil)) pa_nil)))
    (pss_cons (ps_if (PW.pt (pw_or (pt_cmpR (op_neA hr.units) (pe_callS (ok_line_through T) (hr.mono (by decide)) rfl T.g_line_through T.F_line_through.kp T.b_line_through (fun _ => passAt (takes_of rfl rfl rfl rfl) _) (pa_cons (pv 2) (pa_cons (pv 6) (pa_cons (pv 3) pa_nil)))) (pv 10) (by first | exact nomark _ | rfl)) (pw_or1 (pt_cmpR (op_neA hr.units) (pe_callS (ok_line_through T) (hr.mono (by decide)) rfl T.g_line_through T.F_line_through.kp T.b_line_through (fun _ => passAt (takes_of rfl rfl rfl rfl) _) (pa_cons (pv 2) (pa_cons (pv 6) (pa_cons (pv 9) pa_nil)))) (pv 10) (by first | exact nomark _ | rfl))))) (pss_one (ps_ret pe_bl)) pss_nil)
    (pss_cons (ps_if (PW.pt (pw_or (pt_cmpR (op_neA hr.units) (pe_callS (ok_class_of T) (hr.mono (by decide)) rfl T.g_class_of T.F_class_of.kp T.b_class_of (fun _ => passAt (takes_of rfl rfl rfl rfl) _) (pa_cons (pv 2) (pa_cons (pv 3) (pa_cons (pv 9) pa_nil)))) (pv 6) (by first | exact nomark _ | rfl)) (pw_or1 (pt_cmpR (op_neA hr.units) (pe_callS (ok_class_of T) (hr.mono (by decide)) rfl T.g_class_of T.F_class_of.kp T.b_class_of (fun _ => passAt (takes_of rfl rfl rfl rfl) _) (pa_cons (pv 2) (pa_cons (pv 9) (pa_cons (pv 4) pa_nil)))) (pv 6) (by first | exact nomark _ | rfl))))) (pss_one (ps_ret pe_bl)) pss_nil)
    (pss_cons (ps_set (i := 11) sc_law.nd rfl (Or.inl rfl) (pe_callS (ok_line_through T) (hr.mono (by decide)) rfl T.g_line_through T.F_line_through.kp T.b_line_through (fun _ => passAt (takes_of rfl rfl rfl rfl) _) (pa_cons (pv 2) (pa_cons (pv 6) (pa_cons (pv 5) pa_nil)))))
    (pss_cons (ps_if (PW.pt (pw_or (pt_cmpR op_notIn_seq (pv 5) (pv 11) (by first | exact nomark _ | rfl)) (pw_or1 (pt_cmpR op_notIn_seq (pe_callB call_len (by rfl) T.z_len (by decide +kernel) (pa_cons (pe_lc (own := [("_law_point_here", 13)]) (g := (gName 13)) rfl sc_law.nd (pi_tup (pv 11)) (blkOk_by (own := [("_law_point_here", 13)]) (N := ["_law_script", "_law_numbers_here", "_law_many", "_law_a", "_law_b", "_law_c", "_law_number", "_law_first", "_law_second", "_law_third", "_law_three", "_law_other", "_law_k", "_law_point_here"]) (sc := defScope s_law) (by decide +kernel)) (fun _ _ _ _ _ => (pg_name (i := 13) sc_law.nd rfl (Or.inl rfl))) (fun _ _ _ _ _ => (pts_one (pt_cmpR op_in_seq (pv 13) (pv 10) (by first | exact nomark _ | rfl)))) (fun _ _ _ _ _ => (pv 13))) pa_nil)) (pe_lst (pa_cons pe_int (pa_cons pe_int pa_nil))) (by first | exact nomark _ | rfl))))) (pss_one (ps_ret pe_bl)) pss_nil)
    (pss_one (ps_ret (pe_cmpR (op_eqA hr.units) (pe_callS (ok_class_of T) (hr.mono (by decide)) rfl T.g_class_of T.F_class_of.kp T.b_class_of (fun _ => passAt (takes_of rfl rfl rfl rfl) _) (pa_cons (pv 2) (pa_cons (pe_ix ix_seq (pv 11) pe_int (fun _ _ => rfl)) (pa_cons (pe_ix ix_seq (pv 11) pe_int (fun _ _ => rfl)) pa_nil)))) (pv 6) (by first | exact nomark _ | rfl)))))))))))))))))))), fun ds h => ws_law (K := K) (A := A) T (WD E) ds h⟩)
end
theorem all_mk {l : PySem.W.OpenLaw} {w : World} {K : PySem.W.Frag} {h : Heap} {mg : Str → Option Value} {fa : Addr} (X : K.In h) (G : h.Ns mainGlobals mg) (hfa : mg "law" = some (.ref fa))
    {f1 : Addr} {od1 an1 : Option Addr} {sl1 : Array (Option Value)} {oc1 kV1 dc1 pm1 cd1 ct1 : Value}
    {f2 : Addr} {od2 an2 : Option Addr} {sl2 : Array (Option Value)} {oc2 kV2 dc2 pm2 cd2 ct2 : Value}
    {f3 : Addr} {od3 an3 : Option Addr} {sl3 : Array (Option Value)} {oc3 kV3 dc3 pm3 cd3 ct3 : Value}
    {f4 : Addr} {od4 an4 : Option Addr} {sl4 : Array (Option Value)} {oc4 kV4 dc4 pm4 cd4 ct4 : Value}
    {f5 : Addr} {od5 an5 : Option Addr} {sl5 : Array (Option Value)} {oc5 kV5 dc5 pm5 cd5 ct5 : Value}
    {f6 : Addr} {od6 an6 : Option Addr} {sl6 : Array (Option Value)} {oc6 kV6 dc6 pm6 cd6 ct6 : Value}
    {f7 : Addr} {od7 an7 : Option Addr} {sl7 : Array (Option Value)} {oc7 kV7 dc7 pm7 cd7 ct7 : Value}
    {f8 : Addr} {od8 an8 : Option Addr} {sl8 : Array (Option Value)} {oc8 kV8 dc8 pm8 cd8 ct8 : Value}
    {f9 : Addr} {od9 an9 : Option Addr} {sl9 : Array (Option Value)} {oc9 kV9 dc9 pm9 cd9 ct9 : Value}
    {f10 : Addr} {od10 an10 : Option Addr} {sl10 : Array (Option Value)} {oc10 kV10 dc10 pm10 cd10 ct10 : Value}
    {f11 : Addr} {od11 an11 : Option Addr} {sl11 : Array (Option Value)} {oc11 kV11 dc11 pm11 cd11 ct11 : Value}
    {f12 : Addr} {od12 an12 : Option Addr} {sl12 : Array (Option Value)} {oc12 kV12 dc12 pm12 cd12 ct12 : Value}
    {f13 : Addr} {od13 an13 : Option Addr} {sl13 : Array (Option Value)} {oc13 kV13 dc13 pm13 cd13 ct13 : Value}
    {f14 : Addr} {od14 an14 : Option Addr} {sl14 : Array (Option Value)} {oc14 kV14 dc14 pm14 cd14 ct14 : Value}
    {tk_MOST_FIGURES : Tok}
    (a1 : PySem.W.nsIn K mainGlobals "size_of" = some (some (.ref f1)))
    (l1 : K.lookup f1 = some ⟨oc1, od1, .func (PySem.W.fnOf "size_of" "size_of" (defArgs s_size_of) (defBody s_size_of) (defScope s_size_of) .none kV1 dc1 pm1 an1 cd1 ct1), sl1⟩)
    (c1 : PySem.W.codeIn K cd1 "size_of" = true)
    (k1 : PySem.W.keepIn K (.ref f1) = true)
    (a2 : PySem.W.nsIn K mainGlobals "check_point" = some (some (.ref f2)))
    (l2 : K.lookup f2 = some ⟨oc2, od2, .func (PySem.W.fnOf "check_point" "check_point" (defArgs s_check_point) (defBody s_check_point) (defScope s_check_point) .none kV2 dc2 pm2 an2 cd2 ct2), sl2⟩)
    (c2 : PySem.W.codeIn K cd2 "check_point" = true)
    (k2 : PySem.W.keepIn K (.ref f2) = true)
    (a3 : PySem.W.nsIn K mainGlobals "mixed" = some (some (.ref f3)))
    (l3 : K.lookup f3 = some ⟨oc3, od3, .func (PySem.W.fnOf "mixed" "mixed" (defArgs s_mixed) (defBody s_mixed) (defScope s_mixed) .none kV3 dc3 pm3 an3 cd3 ct3), sl3⟩)
    (c3 : PySem.W.codeIn K cd3 "mixed" = true)
    (k3 : PySem.W.keepIn K (.ref f3) = true)
    (a4 : PySem.W.nsIn K mainGlobals "class_count" = some (some (.ref f4)))
    (l4 : K.lookup f4 = some ⟨oc4, od4, .func (PySem.W.fnOf "class_count" "class_count" (defArgs s_class_count) (defBody s_class_count) (defScope s_class_count) .none kV4 dc4 pm4 an4 cd4 ct4), sl4⟩)
    (c4 : PySem.W.codeIn K cd4 "class_count" = true)
    (k4 : PySem.W.keepIn K (.ref f4) = true)
    (a5 : PySem.W.nsIn K mainGlobals "first_power" = some (some (.ref f5)))
    (l5 : K.lookup f5 = some ⟨oc5, od5, .func (PySem.W.fnOf "first_power" "first_power" (defArgs s_first_power) (defBody s_first_power) (defScope s_first_power) .none kV5 dc5 pm5 an5 cd5 ct5), sl5⟩)
    (c5 : PySem.W.codeIn K cd5 "first_power" = true)
    (k5 : PySem.W.keepIn K (.ref f5) = true)
    (a6 : PySem.W.nsIn K mainGlobals "class_of" = some (some (.ref f6)))
    (l6 : K.lookup f6 = some ⟨oc6, od6, .func (PySem.W.fnOf "class_of" "class_of" (defArgs s_class_of) (defBody s_class_of) (defScope s_class_of) .none kV6 dc6 pm6 an6 cd6 ct6), sl6⟩)
    (c6 : PySem.W.codeIn K cd6 "class_of" = true)
    (k6 : PySem.W.keepIn K (.ref f6) = true)
    (a7 : PySem.W.nsIn K mainGlobals "direction_of" = some (some (.ref f7)))
    (l7 : K.lookup f7 = some ⟨oc7, od7, .func (PySem.W.fnOf "direction_of" "direction_of" (defArgs s_direction_of) (defBody s_direction_of) (defScope s_direction_of) .none kV7 dc7 pm7 an7 cd7 ct7), sl7⟩)
    (c7 : PySem.W.codeIn K cd7 "direction_of" = true)
    (k7 : PySem.W.keepIn K (.ref f7) = true)
    (a8 : PySem.W.nsIn K mainGlobals "line_through" = some (some (.ref f8)))
    (l8 : K.lookup f8 = some ⟨oc8, od8, .func (PySem.W.fnOf "line_through" "line_through" (defArgs s_line_through) (defBody s_line_through) (defScope s_line_through) .none kV8 dc8 pm8 an8 cd8 ct8), sl8⟩)
    (c8 : PySem.W.codeIn K cd8 "line_through" = true)
    (k8 : PySem.W.keepIn K (.ref f8) = true)
    (a9 : PySem.W.nsIn K mainGlobals "_law_row" = some (some (.ref f9)))
    (l9 : K.lookup f9 = some ⟨oc9, od9, .func (PySem.W.fnOf "_law_row" "_law_row" (defArgs s_law_row) (defBody s_law_row) (defScope s_law_row) .none kV9 dc9 pm9 an9 cd9 ct9), sl9⟩)
    (c9 : PySem.W.codeIn K cd9 "_law_row" = true)
    (k9 : PySem.W.keepIn K (.ref f9) = true)
    (a10 : PySem.W.nsIn K mainGlobals "_law_numbers" = some (some (.ref f10)))
    (l10 : K.lookup f10 = some ⟨oc10, od10, .func (PySem.W.fnOf "_law_numbers" "_law_numbers" (defArgs s_law_numbers) (defBody s_law_numbers) (defScope s_law_numbers) .none kV10 dc10 pm10 an10 cd10 ct10), sl10⟩)
    (c10 : PySem.W.codeIn K cd10 "_law_numbers" = true)
    (k10 : PySem.W.keepIn K (.ref f10) = true)
    (a11 : PySem.W.nsIn K mainGlobals "_law_pick" = some (some (.ref f11)))
    (l11 : K.lookup f11 = some ⟨oc11, od11, .func (PySem.W.fnOf "_law_pick" "_law_pick" (defArgs s_law_pick) (defBody s_law_pick) (defScope s_law_pick) .none kV11 dc11 pm11 an11 cd11 ct11), sl11⟩)
    (c11 : PySem.W.codeIn K cd11 "_law_pick" = true)
    (k11 : PySem.W.keepIn K (.ref f11) = true)
    (a12 : PySem.W.nsIn K mainGlobals "_law_figures" = some (some (.ref f12)))
    (l12 : K.lookup f12 = some ⟨oc12, od12, .func (PySem.W.fnOf "_law_figures" "_law_figures" (defArgs s_law_figures) (defBody s_law_figures) (defScope s_law_figures) .none kV12 dc12 pm12 an12 cd12 ct12), sl12⟩)
    (c12 : PySem.W.codeIn K cd12 "_law_figures" = true)
    (k12 : PySem.W.keepIn K (.ref f12) = true)
    (a13 : PySem.W.nsIn K mainGlobals "_law_point" = some (some (.ref f13)))
    (l13 : K.lookup f13 = some ⟨oc13, od13, .func (PySem.W.fnOf "_law_point" "_law_point" (defArgs s_law_point) (defBody s_law_point) (defScope s_law_point) .none kV13 dc13 pm13 an13 cd13 ct13), sl13⟩)
    (c13 : PySem.W.codeIn K cd13 "_law_point" = true)
    (k13 : PySem.W.keepIn K (.ref f13) = true)
    (a14 : PySem.W.nsIn K mainGlobals "law" = some (some (.ref f14)))
    (l14 : K.lookup f14 = some ⟨oc14, od14, .func (PySem.W.fnOf "law" "law" (defArgs s_law) (defBody s_law) (defScope s_law) .none kV14 dc14 pm14 an14 cd14 ct14), sl14⟩)
    (c14 : PySem.W.codeIn K cd14 "law" = true)
    (k14 : PySem.W.keepIn K (.ref f14) = true)
    (z_abs : PySem.W.nsIn K mainGlobals "abs" = some none)
    (z_int : PySem.W.nsIn K mainGlobals "int" = some none)
    (z_len : PySem.W.nsIn K mainGlobals "len" = some none)
    (z_max : PySem.W.nsIn K mainGlobals "max" = some none)
    (z_range : PySem.W.nsIn K mainGlobals "range" = some none)
    (z_sorted : PySem.W.nsIn K mainGlobals "sorted" = some none)
    (z_tuple : PySem.W.nsIn K mainGlobals "tuple" = some none)
    (v_MOST_FIGURES : PySem.W.nsIn K mainGlobals "MOST_FIGURES" = some (some (.int 60 tk_MOST_FIGURES))) :
    ∃ fd : FuncData, (∀ (s : Shared) (v : Value), BindsTo s fd ⟨[v], []⟩ [("_law_script", v)]) ∧ ∀ base : Heap, K.In base → base.Ns mainGlobals mg → FnOk l.prog w K mg base (L2.CX l.prog w) 5 fa fd ["_law_script"] (spD K (fun ds => ∃ ns : List Int, ds = [.src ns] ∧ ns.length ≤ 63) (fun _ s => s = .dat (.bl true)) (fun _ _ => False)) := by
  have e := hfa.symm.trans (PySem.W.mg_of X G a14)
  cases e
  have F1 := fun_mk (st := s_size_of) l1 c1 k1
  have b1 := F1.binds (ps := ["figures"]) fun _ _ _ _ _ _ us hl => match us, hl with | [_], _ => rfl
  have F2 := fun_mk (st := s_check_point) l2 c2 k2
  have b2 := F2.binds (ps := ["size", "point"]) fun _ _ _ _ _ _ us hl => match us, hl with | [_, _], _ => rfl
  have F3 := fun_mk (st := s_mixed) l3 c3 k3
  have b3 := F3.binds (ps := ["one", "other", "sign"]) fun _ _ _ _ _ _ us hl => match us, hl with | [_, _, _], _ => rfl
  have F4 := fun_mk (st := s_class_count) l4 c4 k4
  have b4 := F4.binds (ps := ["figures"]) fun _ _ _ _ _ _ us hl => match us, hl with | [_], _ => rfl
  have F5 := fun_mk (st := s_first_power) l5 c5 k5
  have b5 := F5.binds (ps := ["direction"]) fun _ _ _ _ _ _ us hl => match us, hl with | [_], _ => rfl
  have F6 := fun_mk (st := s_class_of) l6 c6 k6
  have b6 := F6.binds (ps := ["figures", "a", "b"]) fun _ _ _ _ _ _ us hl => match us, hl with | [_, _, _], _ => rfl
  have F7 := fun_mk (st := s_direction_of) l7 c7 k7
  have b7 := F7.binds (ps := ["figures", "number"]) fun _ _ _ _ _ _ us hl => match us, hl with | [_, _], _ => rfl
  have F8 := fun_mk (st := s_line_through) l8 c8 k8
  have b8 := F8.binds (ps := ["figures", "number", "point"]) fun _ _ _ _ _ _ us hl => match us, hl with | [_, _, _], _ => rfl
  have F9 := fun_mk (st := s_law_row) l9 c9 k9
  have b9 := F9.binds (ps := ["_law_cell", "_law_many"]) fun _ _ _ _ _ _ us hl => match us, hl with | [_, _], _ => rfl
  have F10 := fun_mk (st := s_law_numbers) l10 c10 k10
  have b10 := F10.binds (ps := ["_law_script", "_law_many"]) fun _ _ _ _ _ _ us hl => match us, hl with | [_, _], _ => rfl
  have F11 := fun_mk (st := s_law_pick) l11 c11 k11
  have b11 := F11.binds (ps := ["_law_numbers_here", "_law_at", "_law_most"]) fun _ _ _ _ _ _ us hl => match us, hl with | [_, _, _], _ => rfl
  have F12 := fun_mk (st := s_law_figures) l12 c12 k12
  have b12 := F12.binds (ps := ["_law_value", "_law_many"]) fun _ _ _ _ _ _ us hl => match us, hl with | [_, _], _ => rfl
  have F13 := fun_mk (st := s_law_point) l13 c13 k13
  have b13 := F13.binds (ps := ["_law_figures_here"]) fun _ _ _ _ _ _ us hl => match us, hl with | [_], _ => rfl
  have F14 := fun_mk (st := s_law) l14 c14 k14
  have b14 := F14.binds (ps := ["_law_script"]) fun _ _ _ _ _ _ us hl => match us, hl with | [_], _ => rfl
  have T : Txt K mg { f_size_of := f1, d_size_of := _, f_check_point := f2, d_check_point := _, f_mixed := f3, d_mixed := _, f_class_count := f4, d_class_count := _, f_first_power := f5, d_first_power := _, f_class_of := f6, d_class_of := _, f_direction_of := f7, d_direction_of := _, f_line_through := f8, d_line_through := _, f_law_row := f9, d_law_row := _, f_law_numbers := f10, d_law_numbers := _, f_law_pick := f11, d_law_pick := _, f_law_figures := f12, d_law_figures := _, f_law_point := f13, d_law_point := _, f_law := fa, d_law := _ } := { F_size_of := F1, g_size_of := PySem.W.mg_of X G a1, b_size_of := b1, F_check_point := F2, g_check_point := PySem.W.mg_of X G a2, b_check_point := b2, F_mixed := F3, g_mixed := PySem.W.mg_of X G a3, b_mixed := b3, F_class_count := F4, g_class_count := PySem.W.mg_of X G a4, b_class_count := b4, F_first_power := F5, g_first_power := PySem.W.mg_of X G a5, b_first_power := b5, F_class_of := F6, g_class_of := PySem.W.mg_of X G a6, b_class_of := b6, F_direction_of := F7, g_direction_of := PySem.W.mg_of X G a7, b_direction_of := b7, F_line_through := F8, g_line_through := PySem.W.mg_of X G a8, b_line_through := b8, F_law_row := F9, g_law_row := PySem.W.mg_of X G a9, b_law_row := b9, F_law_numbers := F10, g_law_numbers := PySem.W.mg_of X G a10, b_law_numbers := b10, F_law_pick := F11, g_law_pick := PySem.W.mg_of X G a11, b_law_pick := b11, F_law_figures := F12, g_law_figures := PySem.W.mg_of X G a12, b_law_figures := b12, F_law_point := F13, g_law_point := PySem.W.mg_of X G a13, b_law_point := b13, F_law := F14, g_law := PySem.W.mg_of X G a14, b_law := b14, z_abs := PySem.W.mg_none_of X G z_abs, z_int := PySem.W.mg_none_of X G z_int, z_len := PySem.W.mg_none_of X G z_len, z_max := PySem.W.mg_none_of X G z_max, z_range := PySem.W.mg_none_of X G z_range, z_sorted := PySem.W.mg_none_of X G z_sorted, z_tuple := PySem.W.mg_none_of X G z_tuple, c_MOST_FIGURES := ⟨_, PySem.W.mg_of X G v_MOST_FIGURES⟩ }
  exact ⟨_, fun s v => .of_eq rfl, fun base _ _ => ok_law T⟩
end K82
open PySem PySem.W PyProof.Rows
set_option maxRecDepth 100000 in
set_option maxHeartbeats 0 in
theorem PySem.Challenge.cw_paironce_k82_whole_classes_holds : PySem.Challenge.rw_paironce_k82_whole_classes.Holds := by
  w_on; o_law; k_head; (case hw => w_witness2)
  k_fill
  refine DL.walkD (l := PySem.Challenge.rw_paironce_k82_whole_classes) (k := 5) (x := "_law_script") rfl rfl ⟨rfl, by decide, by decide⟩ (fun w h Y => PySem.W.kIn_of Y) ?F
  case F =>
    intro w mg fa h KX G hmg
    refine' K82.all_mk KX G hmg ?a1 ?l1 ?c1 ?k1 ?a2 ?l2 ?c2 ?k2 ?a3 ?l3 ?c3 ?k3 ?a4 ?l4 ?c4 ?k4 ?a5 ?l5 ?c5 ?k5 ?a6 ?l6 ?c6 ?k6 ?a7 ?l7 ?c7 ?k7 ?a8 ?l8 ?c8 ?k8 ?a9 ?l9 ?c9 ?k9 ?a10 ?l10 ?c10 ?k10 ?a11 ?l11 ?c11 ?k11 ?a12 ?l12 ?c12 ?k12 ?a13 ?l13 ?c13 ?k13 ?a14 ?l14 ?c14 ?k14 ?z_abs ?z_int ?z_len ?z_max ?z_range ?z_sorted ?z_tuple ?v_MOST_FIGURES
    (case a1 => k_is)
    (case l1 => k_is)
    (case c1 => k_is)
    (case k1 => k_is)
    (case a2 => k_is)
    (case l2 => k_is)
    (case c2 => k_is)
    (case k2 => k_is)
    (case a3 => k_is)
    (case l3 => k_is)
    (case c3 => k_is)
    (case k3 => k_is)
    (case a4 => k_is)
    (case l4 => k_is)
    (case c4 => k_is)
    (case k4 => k_is)
    (case a5 => k_is)
    (case l5 => k_is)
    (case c5 => k_is)
    (case k5 => k_is)
    (case a6 => k_is)
    (case l6 => k_is)
    (case c6 => k_is)
    (case k6 => k_is)
    (case a7 => k_is)
    (case l7 => k_is)
    (case c7 => k_is)
    (case k7 => k_is)
    (case a8 => k_is)
    (case l8 => k_is)
    (case c8 => k_is)
    (case k8 => k_is)
    (case a9 => k_is)
    (case l9 => k_is)
    (case c9 => k_is)
    (case k9 => k_is)
    (case a10 => k_is)
    (case l10 => k_is)
    (case c10 => k_is)
    (case k10 => k_is)
    (case a11 => k_is)
    (case l11 => k_is)
    (case c11 => k_is)
    (case k11 => k_is)
    (case a12 => k_is)
    (case l12 => k_is)
    (case c12 => k_is)
    (case k12 => k_is)
    (case a13 => k_is)
    (case l13 => k_is)
    (case c13 => k_is)
    (case k13 => k_is)
    (case a14 => k_is)
    (case l14 => k_is)
    (case c14 => k_is)
    (case k14 => k_is)
    (case z_abs => k_is)
    (case z_int => k_is)
    (case z_len => k_is)
    (case z_max => k_is)
    (case z_range => k_is)
    (case z_sorted => k_is)
    (case z_tuple => k_is)
    (case v_MOST_FIGURES => k_is)
#print axioms PySem.Challenge.cw_paironce_k82_whole_classes_holds

