import PyProof.Rows.All
import Wide.All
import OpenK.AllK
import Wide.FinOn
import HandS.ForExc
import HandS.ForMost
import HandS.Wide
import HandS.SortInts
import HandS.TryOnly
import HandS.TupAny
import HandS.ExcIs
import HandS.IsInst
import HandS.Iter
import HandS.TupLen
import KE.KDictWalk
import HandS.Style
import HandS.TupSets
import HandS.Conv
import HandS.More
import HandS.ExcInit
import HandS.ExcField
import HandS.Nested
import KE.KExcSuper
import HandS.CallSlots
import HandS.Defaults
import HandS.Star
import HandS.Deep
import OpenK.KTop
import KE.KTupSum
import HandS.DictComp
import HandS.TryMany
import KE.KSortTupAny
import HandS.NamedTupSort
import KE.DataMinMax
import PyProof.ReprRoads
import PyProof.CallFns
import KE.LtData
import PyProof.ReprLen
import PyProof.FitsInt
import HandS.FStr
import HandS.Text
import HandS.RaiseMore
import PyProof.P3In
import KE.DataCmp
import PyProof.StrOps2
import PySem.Challenge.RW_paironce_k79_places
set_option Elab.async false
set_option linter.all false
set_option maxRecDepth 100000
set_option maxHeartbeats 1000000
/-! The data layer: what the defs do, said of plain data; the heap stays behind. -/
namespace DL
open PySem PySem.Spec L2
/-! ### data -/
inductive D where
  | non | bl (b : Bool) | int (i : Int) | str (x : Str) | lst (l : List D) | tup (l : List D)
  | dK (ks : List Key) (vs : List D) | dT (ks : List (List Key)) (vs : List D)
  /-- the script as it was handed in -/
  | src (l : List Int)
  /-- locked dicts -/
  | fK (ks : List Key) (vs : List D) | fT (ks : List (List Key)) (vs : List D)
  /-- an instance that stays: its class's name, its fields -/
  | ins (cn : Str) (ns : List Str) (ds : List D)
abbrev D.ints (l : List Int) : D := .lst (l.map D.int)
mutual
inductive Rp (K : PySem.W.Frag) (H : Hp) : V → D → Prop
  | non : Rp K H .non .non
  | bl (b : Bool) : Rp K H (.bl b) (.bl b)
  | int (i : Int) : Rp K H (.int i) (.int i)
  | str (x : Str) : Rp K H (.str x) (.str x)
  | lst {a : Addr} {xs : List V} {ds : List D} : H a = some (.lst xs) → Rps K H xs ds → Rp K H (.ref a) (.lst ds)
  | tup {a : Addr} {xs : List V} {ds : List D} : H a = some (.tup xs) → Rps K H xs ds → Rp K H (.ref a) (.tup ds)
  | dK {a : Addr} {kvs : List (Key × V)} {ds : List D} : Rd H a (.dK kvs) → Rps K H (kvs.map (·.2)) ds → Rp K H (.ref a) (.dK (kvs.map (·.1)) ds)
  | dT {a : Addr} {kvs : List (List Key × V)} {ds : List D} : Rd H a (.dT kvs) → Rps K H (kvs.map (·.2)) ds → Rp K H (.ref a) (.dT (kvs.map (·.1)) ds)
  | src {a : Addr} {ns : List Int} : SqL K H a (ns.map V.int) → Rp K H (.ref a) (.src ns)
  | fK {a : Addr} {o : Obj} {kvs : List (Key × V)} {ds : List D} : H a = some (.frz o (.dK kvs)) → Rps K H (kvs.map (·.2)) ds → Rp K H (.ref a) (.fK (kvs.map (·.1)) ds)
  | fT {a : Addr} {o : Obj} {kvs : List (List Key × V)} {ds : List D} : H a = some (.frz o (.dT kvs)) → Rps K H (kvs.map (·.2)) ds → Rp K H (.ref a) (.fT (kvs.map (·.1)) ds)
  | ins {a C dx : Addr} {cn : Str} {fs : List (Str × V)} {ds : List D} : PySem.W.nsIn K mainGlobals cn = some (some (.ref C)) → H a = some (.ins C dx fs) → Rps K H (fs.map (·.2)) ds → Rp K H (.ref a) (.ins cn (fs.map (·.1)) ds)
inductive Rps (K : PySem.W.Frag) (H : Hp) : List V → List D → Prop
  | nil : Rps K H [] []
  | cons {v : V} {vs : List V} {d : D} {ds : List D} : Rp K H v d → Rps K H vs ds → Rps K H (v :: vs) (d :: ds)
end
section
variable {K : PySem.W.Frag} {H H' : Hp}
theorem Rd.mono {a : Addr} {u : HO} (s : Same H H') (h : Rd H a u) : Rd H' a u := h.imp (fun e => s _ _ e) fun ⟨o, e⟩ => ⟨o, s _ _ e⟩
mutual
theorem Rp.mono (s : Same H H') : ∀ {d : D} {v : V}, Rp K H v d → Rp K H' v d
  | .non, _, .non => .non
  | .bl _, _, .bl b => .bl b
  | .int _, _, .int i => .int i
  | .str _, _, .str i => .str i
  | .lst _, _, .lst h r => .lst (s _ _ h) (Rps.mono s r)
  | .tup _, _, .tup h r => .tup (s _ _ h) (Rps.mono s r)
  | .dK _ _, _, .dK h r => .dK (Rd.mono s h) (Rps.mono s r)
  | .dT _ _, _, .dT h r => .dT (Rd.mono s h) (Rps.mono s r)
  | .src _, _, .src h => .src (s.seq h)
  | .fK _ _, _, .fK h r => .fK (s _ _ h) (Rps.mono s r)
  | .fT _ _, _, .fT h r => .fT (s _ _ h) (Rps.mono s r)
  | .ins _ _ _, _, .ins c h r => .ins c (s _ _ h) (Rps.mono s r)
theorem Rps.mono (s : Same H H') : ∀ {ds : List D} {vs : List V}, Rps K H vs ds → Rps K H' vs ds
  | [], _, .nil => .nil
  | _ :: _, _, .cons r t => .cons (Rp.mono s r) (Rps.mono s t)
end
theorem Rps.length : ∀ {ds : List D} {vs : List V}, Rps K H vs ds → vs.length = ds.length
  | [], _, .nil => rfl
  | _ :: _, _, .cons _ t => congrArg (· + 1) (Rps.length t)
theorem Rps.get : ∀ {ds : List D} {vs : List V} {i : Nat} {d : D}, Rps K H vs ds → ds[i]? = some d → ∃ v, vs[i]? = some v ∧ Rp K H v d
  | [], _, _, _, .nil, e => by simp at e
  | _ :: _, _, 0, _, .cons r _, e => by simp at e; subst e; exact ⟨_, rfl, r⟩
  | _ :: _, _, i + 1, _, .cons _ t, e => by
    obtain ⟨v, h1, h2⟩ := Rps.get (i := i) t (by simpa using e)
    exact ⟨v, by simpa using h1, h2⟩
theorem Rps.get' : ∀ {ds : List D} {vs : List V} {i : Nat} {v : V}, Rps K H vs ds → vs[i]? = some v → ∃ d, ds[i]? = some d ∧ Rp K H v d
  | [], _, _, _, .nil, e => by simp at e
  | _ :: _, _, 0, _, .cons r _, e => by simp at e; subst e; exact ⟨_, rfl, r⟩
  | _ :: _, _, i + 1, _, .cons _ t, e => by
    obtain ⟨v, h1, h2⟩ := Rps.get' (i := i) t (by simpa using e)
    exact ⟨v, by simpa using h1, h2⟩
theorem Rps.append : ∀ {ds es : List D} {vs us : List V}, Rps K H vs ds → Rps K H us es → Rps K H (vs ++ us) (ds ++ es)
  | [], _, _, _, .nil, s => s
  | _ :: _, _, _, _, .cons r t, s => .cons r (Rps.append t s)
theorem Rps.one {v : V} {d : D} (r : Rp K H v d) : Rps K H [v] [d] := .cons r .nil
theorem Rps.take : ∀ {ds : List D} {vs : List V} (n : Nat), Rps K H vs ds → Rps K H (vs.take n) (ds.take n)
  | _, _, 0, _ => .nil
  | [], _, n + 1, .nil => .nil
  | _ :: _, _, n + 1, .cons r t => .cons r (Rps.take n t)
theorem Rps.drop : ∀ {ds : List D} {vs : List V} (n : Nat), Rps K H vs ds → Rps K H (vs.drop n) (ds.drop n)
  | _, _, 0, r => r
  | [], _, n + 1, .nil => .nil
  | _ :: _, _, n + 1, .cons r t => Rps.drop n t
theorem Rps.set {v : V} {d : D} (r : Rp K H v d) : ∀ {ds : List D} {vs : List V} (i : Nat), Rps K H vs ds → Rps K H (vs.set i v) (ds.set i d)
  | [], _, _, .nil => .nil
  | _ :: _, _, 0, .cons _ t => .cons r t
  | _ :: _, _, i + 1, .cons q t => .cons q (Rps.set r i t)
theorem Rps.reverse : ∀ {ds : List D} {vs : List V}, Rps K H vs ds → Rps K H vs.reverse ds.reverse
  | [], _, .nil => .nil
  | _ :: _, _, .cons r t => by rw [List.reverse_cons, List.reverse_cons]; exact Rps.append (Rps.reverse t) (.one r)
theorem Rps.ints : ∀ {ns : List Int} {vs : List V}, Rps K H vs (ns.map D.int) → vs = ns.map V.int
  | [], _, .nil => rfl
  | _ :: _, _, .cons (.int i) t => by rw [Rps.ints t]; rfl
theorem Rps.of_ints : ∀ (ns : List Int), Rps K H (ns.map V.int) (ns.map D.int)
  | [] => .nil
  | n :: r => .cons (.int n) (Rps.of_ints r)
theorem Rps.bls : ∀ {ns : List Bool} {vs : List V}, Rps K H vs (ns.map D.bl) → vs = ns.map V.bl
  | [], _, .nil => rfl
  | _ :: _, _, .cons (.bl i) t => by rw [Rps.bls t]; rfl
end
/-! ### heaps: H0 what never changes any more, H all that is tracked -/
structure Ext (H0 H H0' H' : Hp) : Prop where
  s0 : Same H0 H0'
  s : Same H H'
  sub : Same H0' H'
  fr : ∀ a o, H0 a = none → H0' a = some o → H a = none ∨ ∃ xs, H a = some (.tup xs)
theorem Ext.refl {H0 H : Hp} (h : Same H0 H) : Ext H0 H H0 H := ⟨.refl _, .refl _, h, fun a o e e' => by rw [e] at e'; cases e'⟩
theorem Ext.trans {H0 H H1 H' H2 H'' : Hp} (a : Ext H0 H H1 H') (b : Ext H1 H' H2 H'') : Ext H0 H H2 H'' := by
  refine ⟨a.s0.trans b.s0, a.s.trans b.s, b.sub, fun c o e e' => ?_⟩
  cases q : H1 c with
  | some u => exact a.fr c u e q
  | none =>
    rcases b.fr c o q e' with z | ⟨xs, z⟩
    · exact .inl (a.s.free z)
    · cases w : H c with
      | none => exact .inl rfl
      | some u =>
        have := a.s _ _ w
        rw [z] at this
        cases this
        exact .inr ⟨_, rfl⟩
/-- a new thing, of the still part -/
theorem Ext.new {H0 H : Hp} {p : Addr} {o : HO} (h : Same H0 H) (np : H p = none) : Ext H0 H (upd H0 p o) (upd H p o) := by
  have n0 : H0 p = none := h.free np
  refine ⟨fun b u e => by rw [upd_ne (ne_of_none e n0)]; exact e, fun b u e => by rw [upd_ne (ne_of_none e np)]; exact e, fun b u e => ?_, fun a u e e' => ?_⟩
  · by_cases hb : b = p
    · subst hb; rw [upd_same] at e ⊢; exact e
    · rw [upd_ne hb] at e ⊢; exact h _ _ e
  · by_cases hb : a = p
    · subst hb; exact .inl np
    · rw [upd_ne hb] at e'; rw [e] at e'; cases e'
/-- a new thing, of one's own -/
theorem Ext.own {H0 H : Hp} {p : Addr} {o : HO} (h : Same H0 H) (np : H p = none) : Ext H0 H H0 (upd H p o) :=
  ⟨.refl _, fun b u e => by rw [upd_ne (ne_of_none e np)]; exact e, fun b u e => by rw [upd_ne (ne_of_none (h _ _ e) np)]; exact h _ _ e, fun a u e e' => by rw [e] at e'; cases e'⟩
/-! ### slots -/
inductive Sl where
  | no | ref (a : Addr) | exc (a : Addr) (o : Option Addr) (x : Option (Str × D)) | dat (d : D) | own (ds : List D) | oK (ks : List Key) (vs : List D) | oT (ks : List (List Key)) (vs : List D)
def Sl.isOwn : Sl → Bool
  | .own _ | .oK _ _ | .oT _ _ => true
  | _ => false
/-- a slot with data -/
def Sl.ok : Sl → Bool
  | .no | .ref _ | .exc _ _ _ => false
  | _ => true
def Sl.still : Sl → D
  | .no => .non | .ref _ => .non | .exc _ _ _ => .non | .dat d => d | .own ds => .lst ds | .oK ks vs => .dK ks vs | .oT ks vs => .dT ks vs
abbrev Rho := List Sl
/-- what stands at an address of one's own -/
def OwnAt (K : PySem.W.Frag) (H0 H : Hp) (a : Addr) : Sl → Prop
  | .own ds => ∃ xs, H a = some (.lst xs) ∧ Rps K H0 xs ds
  | .oK ks vs => ∃ kvs, H a = some (.dK kvs) ∧ kvs.map (·.1) = ks ∧ Rps K H0 (kvs.map (·.2)) vs
  | .oT ks vs => ∃ kvs, H a = some (.dT kvs) ∧ kvs.map (·.1) = ks ∧ Rps K H0 (kvs.map (·.2)) vs
  | _ => False
def RpS (K : PySem.W.Frag) (H0 H : Hp) (v : V) (s : Sl) : Prop :=
  match s with
  | .no => True
  | .ref a => v = .ref a
  | .exc a o x => v = .ref a ∧ (x = none → o = none) ∧ ∀ f d, x = some (f, d) → ∃ dd u, o = some dd ∧ H0 dd = some (.xd [(f, u)]) ∧ Rp K H0 u d
  | .dat d => Rp K H0 v d
  | s => ∃ a, v = .ref a ∧ H0 a = none ∧ OwnAt K H0 H a s
theorem OwnAt.ext {K : PySem.W.Frag} {H0 H H0' H' : Hp} {a : Addr} {s : Sl} (e : Ext H0 H H0' H') (h : OwnAt K H0 H a s) : OwnAt K H0' H' a s := by
  cases s with
  | no => exact h
  | ref c => exact h
  | exc c o x => exact h
  | dat d => exact h
  | own ds => obtain ⟨xs, h1, h2⟩ := h; exact ⟨xs, e.s _ _ h1, h2.mono e.s0⟩
  | oK ks vs => obtain ⟨xs, h1, h2, h3⟩ := h; exact ⟨xs, e.s _ _ h1, h2, h3.mono e.s0⟩
  | oT ks vs => obtain ⟨xs, h1, h2, h3⟩ := h; exact ⟨xs, e.s _ _ h1, h2, h3.mono e.s0⟩
theorem OwnAt.there {K : PySem.W.Frag} {H0 H : Hp} {a : Addr} {s : Sl} (h : OwnAt K H0 H a s) : ∃ o, H a = some o ∧ ∀ xs, o ≠ .tup xs := by
  cases s with
  | no => exact h.elim
  | ref c => exact h.elim
  | exc c o x => exact h.elim
  | dat d => exact h.elim
  | own ds => obtain ⟨xs, h1, h2⟩ := h; exact ⟨_, h1, fun _ z => by cases z⟩
  | oK ks vs => obtain ⟨xs, h1, h2, h3⟩ := h; exact ⟨_, h1, fun _ z => by cases z⟩
  | oT ks vs => obtain ⟨xs, h1, h2, h3⟩ := h; exact ⟨_, h1, fun _ z => by cases z⟩
theorem Ext.none {H0 H H0' H' : Hp} {a : Addr} {o : HO} (e : Ext H0 H H0' H') (h0 : H0 a = none) (h : H a = some o) (nt : ∀ xs, o ≠ .tup xs := by intro xs z; cases z) : H0' a = none := by
  cases q : H0' a with
  | none => rfl
  | some u =>
    rcases e.fr a u h0 q with z | ⟨xs, z⟩
    · rw [h] at z; cases z
    · rw [h] at z; cases z; exact absurd rfl (nt xs)
theorem RpS.ext {K : PySem.W.Frag} {H0 H H0' H' : Hp} {v : V} {s : Sl} (e : Ext H0 H H0' H') (h : RpS K H0 H v s) : RpS K H0' H' v s := by
  cases s with
  | no => trivial
  | ref c => exact h
  | exc c o x => exact ⟨h.1, h.2.1, fun f d q => by obtain ⟨dd, u, h1, h2, h3⟩ := h.2.2 f d q; exact ⟨dd, u, h1, e.s0 _ _ h2, Rp.mono e.s0 h3⟩⟩
  | dat d => exact Rp.mono e.s0 h
  | own ds =>
    obtain ⟨a, h1, h2, h3⟩ := h
    obtain ⟨o, ho, nt⟩ := h3.there
    exact ⟨a, h1, e.none h2 ho nt, h3.ext e⟩
  | oK ks vs =>
    obtain ⟨a, h1, h2, h3⟩ := h
    obtain ⟨o, ho, nt⟩ := h3.there
    exact ⟨a, h1, e.none h2 ho nt, h3.ext e⟩
  | oT ks vs =>
    obtain ⟨a, h1, h2, h3⟩ := h
    obtain ⟨o, ho, nt⟩ := h3.there
    exact ⟨a, h1, e.none h2 ho nt, h3.ext e⟩
/-- the address that an own value has is nobody's from before -/
def NewAt (He : Hp) (v : V) (s : Sl) : Prop := s.isOwn = true → ∀ a, v = .ref a → He a = none
structure StOk (K : PySem.W.Frag) (He0 He : Hp) (σ : St) (H0 H : Hp) (ρ : Rho) : Prop where
  e : Ext He0 He H0 H
  len : σ.length = ρ.length
  sl : ∀ (i : Nat) (s : Sl), ρ[i]? = some s → s ≠ .no → ∃ v, σ[i]? = some (some v) ∧ RpS K H0 H v s ∧ NewAt He v s
  ap : ∀ (i j : Nat) (s t : Sl) (a : Addr), i ≠ j → ρ[i]? = some s → ρ[j]? = some t → s.isOwn = true → t.isOwn = true → σ[i]? = some (some (.ref a)) → σ[j]? ≠ some (some (.ref a))
section
variable {K : PySem.W.Frag} {He0 He : Hp} {σ : St} {H0 H H0' H' : Hp} {ρ : Rho}
theorem StOk.sub (S : StOk K He0 He σ H0 H ρ) : Same H0 H := S.e.sub
theorem StOk.ext (S : StOk K He0 He σ H0 H ρ) (e : Ext H0 H H0' H') : StOk K He0 He σ H0' H' ρ :=
  ⟨S.e.trans e, S.len, fun i s h n => by obtain ⟨v, h1, h2, h3⟩ := S.sl i s h n; exact ⟨v, h1, h2.ext e, h3⟩, S.ap⟩
theorem StOk.dat (S : StOk K He0 He σ H0 H ρ) {i : Nat} {d : D} (h : ρ[i]? = some (.dat d)) : ∃ v, σ[i]? = some (some v) ∧ Rp K H0 v d := by
  obtain ⟨v, h1, h2, _⟩ := S.sl i _ h (by intro z; cases z)
  exact ⟨v, h1, h2⟩
/-- a slot is set to a value -/
theorem StOk.set (S : StOk K He0 He σ H0 H ρ) (i : Nat) {v : V} {s : Sl} (r : RpS K H0 H v s) (n : NewAt He v s)
    (ap : s.isOwn = true → ∀ a, v = .ref a → ∀ (j : Nat) (t : Sl), j ≠ i → ρ[j]? = some t → t.isOwn = true → σ[j]? ≠ some (some (.ref a))) : StOk K He0 He (σ.set i (some v)) H0 H (ρ.set i s) := by
  refine ⟨S.e, by rw [List.length_set, List.length_set]; exact S.len, fun j t h hn => ?_, fun j k t u a hjk hj hk ht hu e => ?_⟩
  · by_cases hj : i = j
    · subst hj
      have hl : i < ρ.length := by
        have := (List.getElem?_eq_some_iff.mp h).1
        rwa [List.length_set] at this
      rw [List.getElem?_set_self hl] at h
      cases h
      exact ⟨v, List.getElem?_set_self (by rw [S.len]; exact hl), r, n⟩
    · rw [List.getElem?_set_ne hj] at h ⊢
      exact S.sl j t h hn
  · have get : ∀ {j : Nat} {t : Sl}, i ≠ j → (ρ.set i s)[j]? = some t → ρ[j]? = some t := fun {j t} h q => by rwa [List.getElem?_set_ne h] at q
    have gets : ∀ {j : Nat}, i ≠ j → (σ.set i (some v))[j]? = σ[j]? := fun {j} h => List.getElem?_set_ne h
    have at_i : ∀ {t : Sl}, (ρ.set i s)[i]? = some t → t = s ∧ (σ.set i (some v))[i]? = some (some v) := fun {t} q => by
      have hl : i < ρ.length := by
        have := (List.getElem?_eq_some_iff.mp q).1
        rwa [List.length_set] at this
      rw [List.getElem?_set_self hl] at q
      cases q
      exact ⟨rfl, List.getElem?_set_self (by rw [S.len]; exact hl)⟩
    by_cases h1 : i = j
    · subst h1
      obtain ⟨rfl, q⟩ := at_i hj
      rw [q] at e
      have e' : v = .ref a := Option.some.inj (Option.some.inj e)
      rw [gets hjk]
      exact ap ht a e' k u (Ne.symm hjk) (get hjk hk) hu
    · by_cases h2 : i = k
      · subst h2
        obtain ⟨rfl, q⟩ := at_i hk
        rw [q]
        intro z
        have e' : v = .ref a := Option.some.inj (Option.some.inj z)
        rw [gets h1] at e
        exact ap hu a e' j t (Ne.symm h1) (get h1 hj) ht e
      · rw [gets h1] at e
        rw [gets h2]
        exact S.ap j k t u a hjk (get h1 hj) (get h2 hk) ht hu e
theorem StOk.setD (S : StOk K He0 He σ H0 H ρ) (i : Nat) {v : V} {d : D} (r : Rp K H0 v d) : StOk K He0 He (σ.set i (some v)) H0 H (ρ.set i (.dat d)) :=
  S.set i (s := .dat d) r (fun z => by cases z) (fun z => by cases z)
/-- slots forgotten -/
theorem StOk.wipe1 (S : StOk K He0 He σ H0 H ρ) (i : Nat) : StOk K He0 He (σ.set i none) H0 H (ρ.set i .no) := by
  have get : ∀ {j : Nat} {t : Sl}, t ≠ .no → (ρ.set i .no)[j]? = some t → i ≠ j ∧ ρ[j]? = some t := fun {j t} h q => by
    by_cases hj : i = j
    · subst hj
      have hl : i < ρ.length := by
        have := (List.getElem?_eq_some_iff.mp q).1
        rwa [List.length_set] at this
      rw [List.getElem?_set_self hl] at q
      cases q
      exact absurd rfl h
    · rw [List.getElem?_set_ne hj] at q
      exact ⟨hj, q⟩
  refine ⟨S.e, by rw [List.length_set, List.length_set]; exact S.len, fun j t h hn => ?_, fun j k t u a hjk hj hk ht hu e => ?_⟩
  · obtain ⟨h1, h2⟩ := get hn h
    rw [List.getElem?_set_ne h1]
    exact S.sl j t h2 hn
  · obtain ⟨h1, h2⟩ := get (by intro z; rw [z] at ht; cases ht) hj
    obtain ⟨h3, h4⟩ := get (by intro z; rw [z] at hu; cases hu) hk
    rw [List.getElem?_set_ne h1] at e
    rw [List.getElem?_set_ne h3]
    exact S.ap j k t u a hjk h2 h4 ht hu e
/-- forgetting slots at the level of data alone -/
theorem StOk.forget (S : StOk K He0 He σ H0 H ρ) (i : Nat) : StOk K He0 He σ H0 H (ρ.set i .no) := by
  have get : ∀ {j : Nat} {t : Sl}, t ≠ .no → (ρ.set i .no)[j]? = some t → ρ[j]? = some t := fun {j t} h q => by
    by_cases hj : i = j
    · subst hj
      have hl : i < ρ.length := by
        have := (List.getElem?_eq_some_iff.mp q).1
        rwa [List.length_set] at this
      rw [List.getElem?_set_self hl] at q
      cases q
      exact absurd rfl h
    · rwa [List.getElem?_set_ne hj] at q
  exact ⟨S.e, by rw [List.length_set]; exact S.len, fun j t h hn => S.sl j t (get hn h) hn, fun j k t u a hjk hj hk ht hu e =>
    S.ap j k t u a hjk (get (by intro z; rw [z] at ht; cases ht) hj) (get (by intro z; rw [z] at hu; cases hu) hk) ht hu e⟩
theorem still_of {v : V} {s : Sl} {a : Addr} (o : OwnAt K H0 H a s) : ∃ u : HO, H a = some u ∧ ∀ G : Hp, Same H0 G → G a = some u → Rp K G (.ref a) s.still := by
  cases s with
  | no => exact o.elim
  | ref c => exact o.elim
  | exc c o x => exact o.elim
  | dat d => exact o.elim
  | own ds => obtain ⟨xs, h1, h2⟩ := o; exact ⟨_, h1, fun G g e => .lst e (h2.mono g)⟩
  | oK ks vs => obtain ⟨xs, h1, rfl, h2⟩ := o; exact ⟨_, h1, fun G g e => .dK (.inl e) (h2.mono g)⟩
  | oT ks vs => obtain ⟨xs, h1, rfl, h2⟩ := o; exact ⟨_, h1, fun G g e => .dT (.inl e) (h2.mono g)⟩
theorem own_of {s : Sl} {v : V} (ho : s.isOwn = true) (r : RpS K H0 H v s) : ∃ a, v = .ref a ∧ H0 a = none ∧ OwnAt K H0 H a s := by
  cases s with
  | no => cases ho
  | ref c => cases ho
  | exc c o x => cases ho
  | dat d => cases ho
  | own ds => exact r
  | oK ks vs => exact r
  | oT ks vs => exact r
/-- what is one's own becomes still -/
theorem StOk.freeze (S : StOk K He0 He σ H0 H ρ) {i : Nat} {s : Sl} (h : ρ[i]? = some s) (ho : s.isOwn = true) : ∃ H1, Same H0 H1 ∧ StOk K He0 He σ H1 H (ρ.set i (.dat s.still)) := by
  obtain ⟨v, h1, h2, h3⟩ := S.sl i s h (by intro z; rw [z] at ho; cases ho)
  obtain ⟨a, rfl, n0, oa⟩ := own_of ho h2
  obtain ⟨u, hu, mk⟩ := still_of (v := .ref a) oa
  have s01 : Same H0 (upd H0 a u) := fun b o e => by rw [upd_ne (ne_of_none e n0)]; exact e
  have sub1 : Same (upd H0 a u) H := fun b o e => by
    by_cases hb : b = a
    · subst hb; rw [upd_same] at e; cases e; exact hu
    · rw [upd_ne hb] at e; exact S.sub _ _ e
  have he : He a = none := h3 ho a rfl
  have il : i < ρ.length := (List.getElem?_eq_some_iff.mp h).1
  refine ⟨upd H0 a u, s01, ⟨⟨S.e.s0.trans s01, S.e.s, sub1, fun b o e e' => ?_⟩, by rw [List.length_set]; exact S.len, fun j t hj hn => ?_, fun j k t w b hjk hj hk ht hw e => ?_⟩⟩
  · by_cases hb : b = a
    · subst hb; exact .inl he
    · rw [upd_ne hb] at e'; exact S.e.fr b o e e'
  · by_cases hji : i = j
    · subst hji
      rw [List.getElem?_set_self il] at hj
      cases hj
      exact ⟨.ref a, h1, mk _ s01 upd_same, fun z => by cases z⟩
    · rw [List.getElem?_set_ne hji] at hj
      obtain ⟨v', g1, g2, g3⟩ := S.sl j t hj hn
      refine ⟨v', g1, ?_, g3⟩
      by_cases hto : t.isOwn = true
      · obtain ⟨b, rfl, nb, ob⟩ := own_of hto g2
        have hba : b ≠ a := fun z => by
          subst z
          exact S.ap i j s t b hji h hj ho hto h1 g1
        have nb' : upd H0 a u b = none := by rw [upd_ne hba]; exact nb
        have ob' : OwnAt K (upd H0 a u) H b t := by
          cases t with
          | no => exact ob
          | ref c => exact ob
          | exc c o x => exact ob
          | dat d => exact ob
          | own ds => obtain ⟨xs, q1, q2⟩ := ob; exact ⟨xs, q1, q2.mono s01⟩
          | oK ks vs => obtain ⟨xs, q1, q2, q3⟩ := ob; exact ⟨xs, q1, q2, q3.mono s01⟩
          | oT ks vs => obtain ⟨xs, q1, q2, q3⟩ := ob; exact ⟨xs, q1, q2, q3.mono s01⟩
        cases t with
        | no => cases hto
        | ref c => cases hto
        | exc c o x => cases hto
        | dat d => cases hto
        | own ds => exact ⟨b, rfl, nb', ob'⟩
        | oK ks vs => exact ⟨b, rfl, nb', ob'⟩
        | oT ks vs => exact ⟨b, rfl, nb', ob'⟩
      · cases t with
        | no => trivial
        | ref c => exact g2
        | exc c o x => exact ⟨g2.1, g2.2.1, fun f d q => by obtain ⟨dd, u, h1, h2, h3⟩ := g2.2.2 f d q; exact ⟨dd, u, h1, s01 _ _ h2, h3.mono s01⟩⟩
        | dat d => exact Rp.mono s01 g2
        | own ds => exact absurd rfl hto
        | oK ks vs => exact absurd rfl hto
        | oT ks vs => exact absurd rfl hto
  · have get : ∀ {j : Nat} {t : Sl}, t.isOwn = true → (ρ.set i (.dat s.still))[j]? = some t → ρ[j]? = some t := fun {j t} ht q => by
      by_cases hj : i = j
      · subst hj
        rw [List.getElem?_set_self il] at q
        cases q
        cases ht
      · rwa [List.getElem?_set_ne hj] at q
    exact S.ap j k t w b hjk (get ht hj) (get hw hk) ht hw e
end
end DL

set_option maxRecDepth 100000
set_option maxHeartbeats 1000000
namespace DL
open PySem PySem.Spec L2
/-! ### exceptions -/
structure Exn where
  C : Addr
  arg : Option (Str × D)
def ExnRep (K : PySem.W.Frag) (H0 H : Hp) (x : Exn) (cls : Value) (od : Option Addr) : Prop :=
  cls = .ref x.C ∧ (x.arg = none → od = none) ∧ ∀ f d, x.arg = some (f, d) → ∃ dd v, od = some dd ∧ H0 dd = some (.xd [(f, v)]) ∧ Rp K H0 v d
theorem ExnRep.ext {K : PySem.W.Frag} {H0 H H0' H' : Hp} {x : Exn} {cls : Value} {od : Option Addr} (e : Ext H0 H H0' H') (h : ExnRep K H0 H x cls od) : ExnRep K H0' H' x cls od :=
  ⟨h.1, h.2.1, fun f d q => by obtain ⟨dd, v, h1, h2, h3⟩ := h.2.2 f d q; exact ⟨dd, v, h1, e.s0 _ _ h2, h3.mono e.s0⟩⟩
/-! ### judgements -/
/-- what is wanted of an exception that leaves an expression -/
def Exs (K : PySem.W.Frag) (He0 He : Hp) (W : WX) (σ : St) (ρ : Rho) (X : Exn → Prop) : Prop :=
  ∀ x cls od H0 H, X x → StOk K He0 He σ H0 H ρ → ExnRep K H0 H x cls od → W cls od σ H
def EvP (K : PySem.W.Frag) (W : WX) (te : TE) (ρ : Rho) (P : D → Prop) (X : Exn → Prop) : Prop :=
  ∀ (He0 He : Hp) (σ : St) (H0 H : Hp) (Q : VK), StOk K He0 He σ H0 H ρ → Exs K He0 He W σ ρ X →
    (∀ v d H0' H', P d → StOk K He0 He σ H0' H' ρ → Ext H0 H H0' H' → Rp K H0' v d → Q v H') → te σ H Q
def EvO (K : PySem.W.Frag) (W : WX) (te : TE) (ρ : Rho) (P : Sl → Prop) (X : Exn → Prop) : Prop :=
  ∀ (He0 He : Hp) (σ : St) (H0 H : Hp) (Q : VK), StOk K He0 He σ H0 H ρ → Exs K He0 He W σ ρ X →
    (∀ v s H0' H', P s → StOk K He0 He σ H0' H' ρ → Ext H0 H H0' H' → RpS K H0' H' v s → NewAt H v s → Q v H') → te σ H Q
def BvP (K : PySem.W.Frag) (W : WX) (tt : TT) (ρ : Rho) (P : Bool → Prop) (X : Exn → Prop) : Prop :=
  ∀ (He0 He : Hp) (σ : St) (H0 H : Hp) (Q : Bool → Hp → Prop), StOk K He0 He σ H0 H ρ → Exs K He0 He W σ ρ X →
    (∀ b H0' H', P b → StOk K He0 He σ H0' H' ρ → Ext H0 H H0' H' → Q b H') → tt σ H Q
def AvP (K : PySem.W.Frag) (W : WX) (ta : TA) (ρ : Rho) (P : List D → Prop) (X : Exn → Prop) : Prop :=
  ∀ (He0 He : Hp) (σ : St) (H0 H : Hp) (Q : List V → Hp → Prop), StOk K He0 He σ H0 H ρ → Exs K He0 He W σ ρ X →
    (∀ vs ds H0' H', P ds → StOk K He0 He σ H0' H' ρ → Ext H0 H H0' H' → Rps K H0' vs ds → Q vs H') → ta σ H Q
/-- an operator by values -/
def OpD (K : PySem.W.Frag) (r : R2) (x y : D) (P : D → Prop) : Prop :=
  ∀ (H0 H : Hp) (v u : V) (Q : VK), Same H0 H → Rp K H0 v x → Rp K H0 u y → (∀ z d H0' H', P d → Ext H0 H H0' H' → Rp K H0' z d → Q z H') → r v u H Q
def UnD (K : PySem.W.Frag) (r : V → Hp → VK → Prop) (x : D) (P : D → Prop) : Prop :=
  ∀ (H0 H : Hp) (v : V) (Q : VK), Same H0 H → Rp K H0 v x → (∀ z d H0' H', P d → Ext H0 H H0' H' → Rp K H0' z d → Q z H') → r v H Q
/-- a built-in's call by values -/
def CbD (K : PySem.W.Frag) (r : List V → Hp → VK → Prop) (xs : List D) (P : D → Prop) : Prop :=
  ∀ (H0 H : Hp) (vs : List V) (Q : VK), Same H0 H → Rps K H0 vs xs → (∀ z d H0' H', P d → Ext H0 H H0' H' → Rp K H0' z d → Q z H') → r vs H Q
structure En where
  nx : Rho → Prop
  rt : Sl → Prop
  bk : Rho → Prop := fun _ => False
  ct : Rho → Prop := fun _ => False
  ex : Exn → Rho → Prop := fun _ _ => False
structure EndsOk (K : PySem.W.Frag) (He0 He : Hp) (W : WX) (E : En) (D : Ends) : Prop where
  nx : ∀ ρ σ H0 H, E.nx ρ → StOk K He0 He σ H0 H ρ → D.nx σ H
  rt : ∀ s v H0 H, E.rt s → Ext He0 He H0 H → RpS K H0 H v s → NewAt He v s → D.rt v H
  bk : ∀ ρ σ H0 H, E.bk ρ → StOk K He0 He σ H0 H ρ → D.bk σ H
  ct : ∀ ρ σ H0 H, E.ct ρ → StOk K He0 He σ H0 H ρ → D.ct σ H
  ex : ∀ x ρ σ H0 H cls od, E.ex x ρ → StOk K He0 He σ H0 H ρ → ExnRep K H0 H x cls od → W cls od σ H
def WS (K : PySem.W.Frag) (W : WX) (ts : TS) (ρ : Rho) (E : En) : Prop :=
  ∀ (He0 He : Hp) (σ : St) (H0 H : Hp) (D : Ends), StOk K He0 He σ H0 H ρ → EndsOk K He0 He W E D → ts D σ H
theorem EndsOk.exs {K : PySem.W.Frag} {He0 He : Hp} {W : WX} {E : En} {D : Ends} (e : EndsOk K He0 He W E D) (σ : St) (ρ : Rho) : Exs K He0 He W σ ρ fun x => E.ex x ρ :=
  fun x cls od H0 H h S r => e.ex x ρ σ H0 H cls od h S r
section
variable {K : PySem.W.Frag} {W : WX} {te ta tb tc : TE} {tt tu : TT} {ts tr : TS} {tas : TA} {ρ : Rho} {P : D → Prop} {PB : Bool → Prop} {PS : Sl → Prop} {PA : List D → Prop} {X : Exn → Prop} {E : En} {r r' : R2}
/-! ### consequences -/
theorem EvP.imp {P' : D → Prop} (h : EvP K W te ρ P X) (f : ∀ d, P d → P' d) : EvP K W te ρ P' X := fun He0 He σ H0 H Q S x k => h He0 He σ H0 H Q S x fun v d H0' H' p => k v d H0' H' (f d p)
theorem BvP.imp {P' : Bool → Prop} (h : BvP K W tt ρ PB X) (f : ∀ d, PB d → P' d) : BvP K W tt ρ P' X := fun He0 He σ H0 H Q S x k => h He0 He σ H0 H Q S x fun v H0' H' p => k v H0' H' (f v p)
theorem WS.imp {E' : En} (h : WS K W ts ρ E) (h1 : ∀ ρ, E.nx ρ → E'.nx ρ) (h2 : ∀ s, E.rt s → E'.rt s) (h3 : ∀ ρ, E.bk ρ → E'.bk ρ) (h4 : ∀ ρ, E.ct ρ → E'.ct ρ) (h5 : ∀ x ρ, E.ex x ρ → E'.ex x ρ) : WS K W ts ρ E' :=
  fun He0 He σ H0 H D S e => h He0 He σ H0 H D S ⟨fun ρ σ H0 H q => e.nx ρ σ H0 H (h1 _ q), fun s v H0 H q => e.rt s v H0 H (h2 _ q), fun ρ σ H0 H q => e.bk ρ σ H0 H (h3 _ q), fun ρ σ H0 H q => e.ct ρ σ H0 H (h4 _ q), fun x ρ σ H0 H c o q => e.ex x ρ σ H0 H c o (h5 _ _ q)⟩
theorem EvO.dat (h : EvP K W te ρ (fun d => PS (.dat d)) X) : EvO K W te ρ PS X := fun He0 He σ H0 H Q S x k => h He0 He σ H0 H Q S x fun v d H0' H' p S' e q => k v (.dat d) H0' H' p S' e q (fun z => by cases z)
/-! ### names and constants -/
theorem ev_var {i : Nat} {d : D} (h : ρ[i]? = some (.dat d)) (p : P d) : EvP K W (tVar i) ρ P X := fun He0 He σ H0 H Q S x k => by
  obtain ⟨v, h1, h2⟩ := S.dat h
  exact ⟨v, h1, k v d H0 H p S (.refl S.sub) h2⟩
theorem ev_int {i : Int} (p : P (.int i)) : EvP K W (tC (.int i)) ρ P X := fun He0 He σ H0 H Q S x k => k _ _ H0 H p S (.refl S.sub) (.int i)
theorem ev_bl {i : Bool} (p : P (.bl i)) : EvP K W (tC (.bl i)) ρ P X := fun He0 He σ H0 H Q S x k => k _ _ H0 H p S (.refl S.sub) (.bl i)
theorem ev_str {i : Str} (p : P (.str i)) : EvP K W (tC (.str i)) ρ P X := fun He0 He σ H0 H Q S x k => k _ _ H0 H p S (.refl S.sub) (.str i)
/-! ### operators -/
theorem ev_op (h : EvP K W ta ρ (fun x => EvP K W tb ρ (fun y => OpD K r x y P) X) X) : EvP K W (tOp r ta tb) ρ P X := fun He0 He σ H0 H Q S x k => by
  refine h He0 He σ H0 H _ S x fun v d H1 H1' p S1 e1 r1 => ?_
  refine p He0 He σ H1 H1' _ S1 x fun u e H2 H2' p2 S2 e2 r2 => ?_
  exact p2 H2 H2' v u Q S2.sub (r1.mono e2.s0) r2 fun z w H3 H3' p3 e3 r3 => k z w H3 H3' p3 (S2.ext e3) (e1.trans (e2.trans e3)) r3
theorem ev_cb {rc : List V → Hp → VK → Prop} (h : AvP K W tas ρ (fun xs => CbD K rc xs P) X) : EvP K W (tCB rc tas) ρ P X := fun He0 He σ H0 H Q S x k => by
  refine h He0 He σ H0 H _ S x fun v d H1 H1' p S1 e1 r1 => ?_
  exact p H1 H1' v Q S1.sub r1 fun z w H3 H3' p3 e3 r3 => k z w H3 H3' p3 (S1.ext e3) (e1.trans e3) r3
theorem av_nil (p : PA []) : AvP K W tNil ρ PA X := fun He0 He σ H0 H Q S x k => k [] [] H0 H p S (.refl S.sub) .nil
theorem av_cons (h : EvP K W te ρ (fun d => AvP K W tas ρ (fun ds => PA (d :: ds)) X) X) : AvP K W (tCons te tas) ρ PA X := fun He0 He σ H0 H Q S x k => by
  refine h He0 He σ H0 H _ S x fun v d H1 H1' p S1 e1 r1 => ?_
  exact p He0 He σ H1 H1' _ S1 x fun vs ds H2 H2' p2 S2 e2 r2 => k (v :: vs) (d :: ds) H2 H2' p2 S2 (e1.trans e2) (.cons (r1.mono e2.s0) r2)
theorem OpD.inl {x y : D} (h : OpD K r x y P) : OpD K (fun v u H Q => r v u H Q ∨ r' v u H Q) x y P := fun H0 H v u Q s a b k => .inl (h H0 H v u Q s a b k)
theorem OpD.inr {x y : D} (h : OpD K r' x y P) : OpD K (fun v u H Q => r v u H Q ∨ r' v u H Q) x y P := fun H0 H v u Q s a b k => .inr (h H0 H v u Q s a b k)
theorem od_int0 {g : Int → Int → Int} {i j : Int} (p : P (.int (g i j))) : OpD K (rI0 fun i j => .int (g i j)) (.int i) (.int j) P := fun H0 H v u Q s a b k => by
  cases a; cases b
  exact ⟨i, j, rfl, rfl, k _ _ H0 H p (.refl s) (.int _)⟩
theorem od_intb {g : Int → Int → Bool} {i j : Int} (p : P (.bl (g i j))) : OpD K (rI0 fun i j => .bl (g i j)) (.int i) (.int j) P := fun H0 H v u Q s a b k => by
  cases a; cases b
  exact ⟨i, j, rfl, rfl, k _ _ H0 H p (.refl s) (.bl _)⟩
theorem od_intC {C : Int → Int → Prop} {g : Int → Int → Int} {i j : Int} (c : C i j) (p : P (.int (g i j))) : OpD K (rI C fun i j => .int (g i j)) (.int i) (.int j) P := fun H0 H v u Q s a b k => by
  cases a; cases b
  exact ⟨i, j, rfl, rfl, c, k _ _ H0 H p (.refl s) (.int _)⟩
theorem od_eqI {i j : Int} (p : P (.bl (decide (i = j)))) : OpD K rEq (.int i) (.int j) P := fun H0 H v u Q s a b k => by
  cases a; cases b
  refine ⟨rfl, ?_⟩
  have q := k (.bl (decide (i = j))) _ H0 H p (.refl s) (.bl _)
  rw [show decide (V.int i = V.int j) = decide (i = j) from by simp]
  exact q
theorem od_neI {i j : Int} (p : P (.bl (decide (i ≠ j)))) : OpD K rNe (.int i) (.int j) P := fun H0 H v u Q s a b k => by
  cases a; cases b
  refine ⟨rfl, ?_⟩
  have q := k (.bl (decide (i ≠ j))) _ H0 H p (.refl s) (.bl _)
  rw [show (!decide (V.int i = V.int j)) = decide (i ≠ j) from by simp]
  exact q
theorem od_eqB {i j : Bool} (p : P (.bl (decide (i = j)))) : OpD K rEq (.bl i) (.bl j) P := fun H0 H v u Q s a b k => by
  cases a; cases b
  refine ⟨rfl, ?_⟩
  have q := k (.bl (decide (i = j))) _ H0 H p (.refl s) (.bl _)
  rw [show decide (V.bl i = V.bl j) = decide (i = j) from by simp]
  exact q
theorem od_neB {i j : Bool} (p : P (.bl (decide (i ≠ j)))) : OpD K rNe (.bl i) (.bl j) P := fun H0 H v u Q s a b k => by
  cases a; cases b
  refine ⟨rfl, ?_⟩
  have q := k (.bl (decide (i ≠ j))) _ H0 H p (.refl s) (.bl _)
  rw [show (!decide (V.bl i = V.bl j)) = decide (i ≠ j) from by simp]
  exact q
theorem od_eqS {i j : Str} (p : P (.bl (decide (i = j)))) : OpD K rEq (.str i) (.str j) P := fun H0 H v u Q s a b k => by
  cases a; cases b
  refine ⟨rfl, ?_⟩
  have q := k (.bl (decide (i = j))) _ H0 H p (.refl s) (.bl _)
  rw [show decide (V.str i = V.str j) = decide (i = j) from by simp]
  exact q
theorem od_neS {i j : Str} (p : P (.bl (decide (i ≠ j)))) : OpD K rNe (.str i) (.str j) P := fun H0 H v u Q s a b k => by
  cases a; cases b
  refine ⟨rfl, ?_⟩
  have q := k (.bl (decide (i ≠ j))) _ H0 H p (.refl s) (.bl _)
  rw [show (!decide (V.str i = V.str j)) = decide (i ≠ j) from by simp]
  exact q
/-! ### tests -/
theorem bv_test (h : EvP K W te ρ (fun d => ∃ b, d = .bl b ∧ PB b) X) : BvP K W (tTest te) ρ PB X := fun He0 He σ H0 H Q S x k => by
  refine h He0 He σ H0 H _ S x fun v d H1 H1' p S1 e1 r1 => ?_
  obtain ⟨b, rfl, pb⟩ := p
  cases r1
  exact ⟨b, rfl, k b H1 H1' pb S1 e1⟩
theorem bv_or (h : BvP K W tt ρ (fun c => if c = true then PB true else BvP K W tu ρ PB X) X) : BvP K W (tOr tt tu) ρ PB X := fun He0 He σ H0 H Q S x k => by
  refine h He0 He σ H0 H _ S x fun c H1 H1' p S1 e1 => ?_
  cases c with
  | true =>
    rw [if_pos rfl] at p ⊢
    exact k true H1 H1' p S1 e1
  | false =>
    rw [if_neg Bool.false_ne_true] at p ⊢
    exact p He0 He σ H1 H1' _ S1 x fun b H2 H2' q S2 e2 => k b H2 H2' q S2 (e1.trans e2)
theorem bv_not (h : BvP K W tt ρ (fun c => PB (!c)) X) : BvP K W (tNot tt) ρ PB X := fun He0 He σ H0 H Q S x k =>
  h He0 He σ H0 H _ S x fun c H1 H1' p S1 e1 => k _ H1 H1' p S1 e1
theorem ev_if (h : BvP K W tt ρ (fun c => if c = true then EvP K W ta ρ P X else EvP K W tb ρ P X) X) : EvP K W (tIf tt ta tb) ρ P X := fun He0 He σ H0 H Q S x k => by
  refine h He0 He σ H0 H _ S x fun c H1 H1' p S1 e1 => ?_
  cases c with
  | true =>
    rw [if_pos rfl] at p ⊢
    exact p He0 He σ H1 H1' _ S1 x fun v d H2 H2' q S2 e2 r2 => k v d H2 H2' q S2 (e1.trans e2) r2
  | false =>
    rw [if_neg Bool.false_ne_true] at p ⊢
    exact p He0 He σ H1 H1' _ S1 x fun v d H2 H2' q S2 e2 r2 => k v d H2 H2' q S2 (e1.trans e2) r2
theorem ev_chain (h : EvP K W ta ρ (fun x => EvP K W tb ρ (fun y => OpD K r x y fun z => ∃ k, z = .bl k ∧ if k = true then EvP K W tc ρ (fun w => OpD K r' y w P) X else P (.bl false)) X) X) :
    EvP K W (tChain r r' ta tb tc) ρ P X := fun He0 He σ H0 H Q S x k => by
  refine h He0 He σ H0 H _ S x fun v d H1 H1' p S1 e1 r1 => ?_
  refine p He0 He σ H1 H1' _ S1 x fun u e H2 H2' p2 S2 e2 r2 => ?_
  refine p2 H2 H2' v u _ S2.sub (r1.mono e2.s0) r2 fun z w H3 H3' p3 e3 r3 => ?_
  obtain ⟨c, rfl, p3⟩ := p3
  cases r3
  refine ⟨c, rfl, ?_⟩
  have S3 := S2.ext e3
  cases c with
  | true =>
    rw [if_pos rfl] at p3 ⊢
    refine p3 He0 He σ H3 H3' _ S3 x fun u' e' H4 H4' p4 S4 e4 r4 => ?_
    exact p4 H4 H4' u u' Q S4.sub (r2.mono (e3.trans e4).s0) r4 fun z w H5 H5' p5 e5 r5 => k z w H5 H5' p5 (S4.ext e5) (e1.trans (e2.trans (e3.trans (e4.trans e5)))) r5
  | false =>
    rw [if_neg Bool.false_ne_true] at p3 ⊢
    exact k _ _ H3 H3' p3 S3 (e1.trans (e2.trans e3)) (.bl false)
/-! ### new tuples and lists -/
theorem ev_tup (h : AvP K W tas ρ (fun ds => ds.length ≤ sizeLine ∧ P (.tup ds)) X) : EvP K W (tTup tas) ρ P X := fun He0 He σ H0 H Q S x k => by
  refine h He0 He σ H0 H _ S x fun vs ds H1 H1' p S1 e1 r1 => ⟨by rw [r1.length]; exact p.1, fun a na => ?_⟩
  have e2 : Ext H1 H1' (upd H1 a (.tup vs)) (upd H1' a (.tup vs)) := .new S1.sub na
  exact k _ _ _ _ p.2 (S1.ext e2) (e1.trans e2) (.tup upd_same (r1.mono e2.s0))
theorem eo_lst (h : AvP K W tas ρ (fun ds => ds.length ≤ sizeLine ∧ PS (.own ds)) X) : EvO K W (tLst tas) ρ PS X := fun He0 He σ H0 H Q S x k => by
  refine h He0 He σ H0 H _ S x fun vs ds H1 H1' p S1 e1 r1 => ⟨by rw [r1.length]; exact p.1, fun a na => ?_⟩
  have e2 : Ext H1 H1' H1 (upd H1' a (.lst vs)) := .own S1.sub na
  refine k _ _ _ _ p.2 (S1.ext e2) (e1.trans e2) ⟨a, rfl, S1.sub.free na, vs, upd_same, r1⟩ fun _ b e => ?_
  cases e
  exact e1.s.free na
/-! ### statements -/
theorem ws_seq (h : WS K W ts ρ { E with nx := fun ρ' => WS K W tr ρ' E }) : WS K W (tSeq ts tr) ρ E := fun He0 He σ H0 H D S e =>
  h He0 He σ H0 H { D with nx := tr D } S ⟨fun ρ' σ' H0' H' q S' => q He0 He σ' H0' H' D S' e, e.rt, e.bk, e.ct, e.ex⟩
theorem ws_next (h : E.nx ρ) : WS K W tNext ρ E := fun He0 He σ H0 H D S e => e.nx ρ σ H0 H h S
theorem ws_drop (h : EvP K W te ρ (fun _ => E.nx ρ) (fun x => E.ex x ρ)) : WS K W (tDrop te) ρ E := fun He0 He σ H0 H D S e =>
  h He0 He σ H0 H _ S (e.exs σ ρ) fun v d H1 H1' p S1 e1 r1 => e.nx ρ σ H1 H1' p S1
theorem ws_ret (h : EvP K W te ρ (fun d => E.rt (.dat d)) (fun x => E.ex x ρ)) : WS K W (tRet te) ρ E := fun He0 He σ H0 H D S e =>
  h He0 He σ H0 H _ S (e.exs σ ρ) fun v d H1 H1' p S1 e1 r1 => e.rt (.dat d) v H1 H1' p S1.e r1 (fun z => by cases z)
theorem NewAt.mono {He H : Hp} {v : V} {s : Sl} (h : Same He H) (n : NewAt H v s) : NewAt He v s := fun o a e => h.free (n o a e)
theorem ws_retO (h : EvO K W te ρ E.rt (fun x => E.ex x ρ)) : WS K W (tRet te) ρ E := fun He0 He σ H0 H D S e =>
  h He0 He σ H0 H _ S (e.exs σ ρ) fun v d H1 H1' p S1 e1 r1 n => e.rt d v H1 H1' p S1.e r1 (n.mono S.e.s)
/-- a slot of one's own handed back -/
theorem ws_retv {i : Nat} {s : Sl} (h : ρ[i]? = some s) (n : s ≠ .no) (p : E.rt s) : WS K W (tRet (tVar i)) ρ E := fun He0 He σ H0 H D S e => by
  obtain ⟨v, h1, h2, h3⟩ := S.sl i s h n
  exact ⟨v, h1, e.rt s v H0 H p S.e h2 h3⟩
theorem ws_if (h : BvP K W tt ρ (fun c => if c = true then WS K W ts ρ E else WS K W tr ρ E) (fun x => E.ex x ρ)) : WS K W (tIfS tt ts tr) ρ E := fun He0 He σ H0 H D S e =>
  h He0 He σ H0 H _ S (e.exs σ ρ) fun c H1 H1' p S1 e1 => by
    cases c with
    | true => exact (show WS K W ts ρ E from p) He0 He σ H1 H1' D S1 e
    | false => exact (show WS K W tr ρ E from p) He0 He σ H1 H1' D S1 e
theorem ws_set {i : Nat} (h : EvP K W te ρ (fun d => E.nx (ρ.set i (.dat d))) (fun x => E.ex x ρ)) : WS K W (tAsg te (gName i)) ρ E := fun He0 He σ H0 H D S e =>
  h He0 He σ H0 H _ S (e.exs σ ρ) fun v d H1 H1' p S1 e1 r1 => e.nx _ _ H1 H1' p (S1.setD i r1)
theorem ap_new {He0 He : Hp} {σ : St} {H0 H : Hp} (S : StOk K He0 He σ H0 H ρ) {v : V} {s : Sl} (n : NewAt H v s) : s.isOwn = true → ∀ a, v = .ref a → ∀ (j : Nat) (t : Sl), ρ[j]? = some t → t.isOwn = true → σ[j]? ≠ some (some (.ref a)) := fun o a ea j t hj ht e => by
  obtain ⟨v', h1, h2, h3⟩ := S.sl j t hj (by intro z; rw [z] at ht; cases ht)
  obtain ⟨b, rfl, n0, ob⟩ := own_of ht h2
  rw [h1] at e
  cases e
  obtain ⟨u, hu, _⟩ := ob.there
  rw [n o a ea] at hu
  cases hu
theorem ws_setO {i : Nat} (h : EvO K W te ρ (fun s => E.nx (ρ.set i s)) (fun x => E.ex x ρ)) : WS K W (tAsg te (gName i)) ρ E := fun He0 He σ H0 H D S e =>
  h He0 He σ H0 H _ S (e.exs σ ρ) fun v s H1 H1' p S1 e1 r1 n => e.nx _ _ H1 H1' p (S1.set i r1 (n.mono S.e.s) fun o a ea j t hj => ap_new S n o a ea j t)
theorem ws_freeze {i : Nat} {s : Sl} (h : ρ[i]? = some s) (ho : s.isOwn = true) (w : WS K W ts (ρ.set i (.dat s.still)) E) : WS K W ts ρ E := fun He0 He σ H0 H D S e => by
  obtain ⟨H1, s1, S1⟩ := S.freeze h ho
  exact w He0 He σ H1 H D S1 e
/-- x.append(e), x one's own list -/
theorem ws_append {i : Nat} {ds : List D} (h : ρ[i]? = some (.own ds)) (w : EvP K W te ρ (fun y => ds.length < sizeLine ∧ E.nx (ρ.set i (.own (ds ++ [y])))) (fun x => E.ex x ρ)) :
    WS K W (tDrop (tBM K "list" rAppend (tVar i) (tCons te tNil))) ρ E := fun He0 He σ H0 H D S e => by
  obtain ⟨v, h1, h2, h3⟩ := S.sl i _ h (by intro z; cases z)
  obtain ⟨a, rfl, n0, xs, ha, rs⟩ := h2
  refine ⟨_, h1, .inl ⟨rfl, _, .inl (.inl ha)⟩, w He0 He σ H0 H _ S (e.exs σ ρ) fun u y H1 H1' p S1 e1 r1 => ?_⟩
  have ha1 := e1.s _ _ ha
  have n1 : H1 a = none := e1.none n0 ha
  refine ⟨a, xs, u, rfl, rfl, ha1, by rw [rs.length]; exact p.1, ?_⟩
  refine e.nx _ σ H1 _ p.2 ?_
  have il : i < ρ.length := (List.getElem?_eq_some_iff.mp h).1
  have sub2 : Same H1 (upd H1' a (.lst (xs ++ [u]))) := fun b o q => by rw [upd_ne (ne_of_none q n1)]; exact S1.sub _ _ q
  refine ⟨⟨S1.e.s0, fun b o q => ?_, sub2, S1.e.fr⟩, by rw [List.length_set]; exact S1.len, fun j t hj hn => ?_, fun j k t w b hjk hj hk ht hw q => ?_⟩
  · rw [upd_ne (ne_of_none q (h3 rfl a rfl))]; exact S1.e.s _ _ q
  · by_cases hji : i = j
    · subst hji
      rw [List.getElem?_set_self il] at hj
      cases hj
      exact ⟨.ref a, h1, ⟨a, rfl, n1, _, upd_same, (rs.mono e1.s0).append (.one r1)⟩, fun _ b e => h3 rfl b e⟩
    · rw [List.getElem?_set_ne hji] at hj
      obtain ⟨v', g1, g2, g3⟩ := S1.sl j t hj hn
      refine ⟨v', g1, ?_, g3⟩
      by_cases hto : t.isOwn = true
      · obtain ⟨b, rfl, nb, ob⟩ := own_of hto g2
        have hba : b ≠ a := fun z => by
          subst z
          exact S.ap i j (.own ds) t b hji h hj rfl hto h1 g1
        have ob' : OwnAt K H1 (upd H1' a (.lst (xs ++ [u]))) b t := by
          cases t with
          | no => exact ob
          | ref c => exact ob
          | exc c o x => exact ob
          | dat d => exact ob
          | own ds => obtain ⟨xs, q1, q2⟩ := ob; exact ⟨xs, by rw [upd_ne hba]; exact q1, q2⟩
          | oK ks vs => obtain ⟨xs, q1, q2, q3⟩ := ob; exact ⟨xs, by rw [upd_ne hba]; exact q1, q2, q3⟩
          | oT ks vs => obtain ⟨xs, q1, q2, q3⟩ := ob; exact ⟨xs, by rw [upd_ne hba]; exact q1, q2, q3⟩
        cases t with
        | no => cases hto
        | ref c => cases hto
        | exc c o x => cases hto
        | dat d => cases hto
        | own ds => exact ⟨b, rfl, nb, ob'⟩
        | oK ks vs => exact ⟨b, rfl, nb, ob'⟩
        | oT ks vs => exact ⟨b, rfl, nb, ob'⟩
      · cases t with
        | no => trivial
        | ref c => exact g2
        | exc c o x => exact g2
        | dat d => exact g2
        | own ds => exact absurd rfl hto
        | oK ks vs => exact absurd rfl hto
        | oT ks vs => exact absurd rfl hto
  · have get : ∀ {j : Nat} {t : Sl}, t.isOwn = true → (ρ.set i (.own (ds ++ [y])))[j]? = some t → ∃ t', t'.isOwn = true ∧ ρ[j]? = some t' := fun {j t} ht q => by
      by_cases hj : i = j
      · subst hj
        exact ⟨_, rfl, h⟩
      · rw [List.getElem?_set_ne hj] at q
        exact ⟨t, ht, q⟩
    obtain ⟨t', q1, q2⟩ := get ht hj
    obtain ⟨w', q3, q4⟩ := get hw hk
    exact S.ap j k t' w' b hjk q2 q4 q1 q3 q
end
end DL

set_option maxRecDepth 100000
set_option maxHeartbeats 1000000
namespace DL
open PySem PySem.Spec L2
section
variable {K : PySem.W.Frag} {W : WX} {te ta tb tc tl : TE} {tt tu : TT} {ts tr : TS} {tas : TA} {ρ : Rho} {P : D → Prop} {PB : Bool → Prop} {PS : Sl → Prop} {PA : List D → Prop} {X : Exn → Prop} {E : En} {r r' : R2} {g : TG} {u : TGs}
/-! ### targets -/
def GvP (K : PySem.W.Frag) (g : TG) (d : D) (ρ : Rho) (P : Rho → Prop) : Prop :=
  ∀ (He0 He : Hp) (σ : St) (H0 H : Hp) (v : V) (Q : St → Hp → Prop), StOk K He0 He σ H0 H ρ → Rp K H0 v d → (∀ ρ' σ', P ρ' → StOk K He0 He σ' H0 H ρ' → Q σ' H) → g v σ H Q
variable {PR : Rho → Prop} {d : D} {ds : List D}
theorem gv_name {i : Nat} (p : PR (ρ.set i (.dat d))) : GvP K (gName i) d ρ PR := fun He0 He σ H0 H v Q S r k => k _ _ p (S.setD i r)
/-! ### another ground -/
theorem StOk.base {He0 He H1 : Hp} {σ : St} {H0 H : Hp} (S : StOk K He0 He σ H0 H ρ) (s1 : Same He0 H1) (s0 : Same H1 H0) : StOk K H1 He σ H0 H ρ :=
  ⟨⟨s0, S.e.s, S.e.sub, fun a o n e => S.e.fr a o (s1.free n) e⟩, S.len, S.sl, S.ap⟩
theorem Ext.unbase {He0 He H1 H1' H0 H : Hp} (e1 : Ext He0 He H1 H1') (e : Ext H1 He H0 H) : Ext He0 He H0 H :=
  ⟨e1.s0.trans e.s0, e.s, e.sub, fun a o n q => by
    cases z : H1 a with
    | none => exact e.fr a o z q
    | some u => exact e1.fr a u n z⟩
theorem StOk.unbase {He0 He H1 H1' : Hp} {σ : St} {H0 H : Hp} (e1 : Ext He0 He H1 H1') (S : StOk K H1 He σ H0 H ρ) : StOk K He0 He σ H0 H ρ := ⟨e1.unbase S.e, S.len, S.sl, S.ap⟩
/-- a loop's body over the ground at the loop's entry -/
theorem EndsOk.loop {He0 He H1 H1' : Hp} {D : Ends} {I : Rho → Prop} {N : St → Hp → Prop} (e : EndsOk K He0 He W E D) (e1 : Ext He0 He H1 H1')
    (hN : ∀ ρ σ H0 H, I ρ → StOk K H1 He σ H0 H ρ → N σ H) : EndsOk K H1 He W { nx := I, ct := I, bk := E.nx, rt := E.rt, ex := E.ex } { D with nx := N, ct := N, bk := D.nx } :=
  ⟨hN, fun s v H0 H q x => e.rt s v H0 H q (e1.unbase x), fun ρ σ H0 H q S => e.nx ρ σ H0 H q (S.unbase e1), hN, fun x ρ σ H0 H c o q S => e.ex x ρ σ H0 H c o q (S.unbase e1)⟩
/-! ### loops -/
/-- one turn of a loop with the item x, from the state ρ' to I -/
def Turn1 (K : PySem.W.Frag) (W : WX) (g : TG) (tb : TS) (E : En) (x : D) (ρ' : Rho) (I : Rho → Prop) : Prop := GvP K g x ρ' fun ρ'' => WS K W tb ρ'' { nx := I, ct := I, bk := E.nx, rt := E.rt, ex := E.ex }
theorem ws_while {tb : TS} (I : Nat → Rho → Prop) (i0 : ∃ m, I m ρ) (turn : ∀ m ρ', I m ρ' → BvP K W tt ρ' (fun b => if b = true then
      WS K W tb ρ' { nx := fun ρ'' => ∃ m', m' < m ∧ I m' ρ'', ct := fun ρ'' => ∃ m', m' < m ∧ I m' ρ'', bk := E.nx, rt := E.rt, ex := E.ex } else E.nx ρ') (fun x => E.ex x ρ')) :
    WS K W (tWhile tt tb) ρ E := fun He0 He σ H0 H D S e => by
  obtain ⟨m0, i0⟩ := i0
  refine ⟨fun m σ H => ∃ ρ' G, I m ρ' ∧ StOk K He0 He σ G H ρ', ⟨m0, ρ, H0, i0, S⟩, ?_⟩
  rintro m σ' H' ⟨ρ', G, hI, S'⟩
  refine turn m ρ' hI He0 He σ' G H' _ S' (e.exs σ' ρ') fun b G1 H1 p S1 e1 => ?_
  cases b with
  | true =>
    rw [if_pos rfl] at p ⊢
    refine ⟨fun σ H => ∃ m' ρ' G, m' < m ∧ I m' ρ' ∧ StOk K He0 He σ G H ρ', fun σ2 H2 ⟨m', ρ2, G2, hm, hI2, S2⟩ => ⟨m', hm, ρ2, G2, hI2, S2⟩, ?_⟩
    refine p He0 He σ' G1 H1 _ S1 ⟨?_, e.rt, e.nx, ?_, e.ex⟩
    · rintro ρ2 σ2 G2 H2 ⟨m', hm, q⟩ S2
      exact ⟨m', ρ2, G2, hm, q, S2⟩
    · rintro ρ2 σ2 G2 H2 ⟨m', hm, q⟩ S2
      exact ⟨m', ρ2, G2, hm, q, S2⟩
  | false =>
    rw [if_neg Bool.false_ne_true] at p ⊢
    exact e.nx ρ' σ' G1 H1 p S1
/-! ### comprehensions -/
def wipeR (ρ : Rho) : List Nat → Rho
  | [] => ρ
  | v :: vs => (wipeR ρ vs).set v .no
theorem StOk.wipe {He0 He : Hp} {σ : St} {H0 H : Hp} (S : StOk K He0 He σ H0 H ρ) : ∀ vs : List Nat, StOk K He0 He (wipe σ vs) H0 H (wipeR ρ vs)
  | [] => S
  | v :: vs => (S.wipe vs).wipe1 v
/-- the target stays within the slots vs -/
def GIn (g : TG) (vs : List Nat) : Prop := ∀ (v : V) (σ : St) (H : Hp) (Q : St → Hp → Prop), g v σ H Q → g v σ H fun σ' H' => L2.wipe σ' vs = L2.wipe σ vs ∧ Q σ' H'
theorem wipe_none {σ : St} {i : Nat} : ∀ {vs : List Nat}, i ∈ vs → (L2.wipe σ vs).set i none = L2.wipe σ vs
  | [], h => by simp at h
  | v :: vs, h => by
    unfold L2.wipe
    by_cases e : v = i
    · subst e
      rw [List.set_set]
    · have h' : i ∈ vs := by
        rcases List.mem_cons.mp h with z | z
        · exact absurd z.symm e
        · exact z
      rw [List.set_comm _ _ e, wipe_none h']
theorem wipe_set {σ : St} {i : Nat} {x : Option V} : ∀ {vs : List Nat}, i ∈ vs → L2.wipe (σ.set i x) vs = L2.wipe σ vs
  | [], h => by simp at h
  | v :: vs, h => by
    unfold L2.wipe
    by_cases e : i ∈ vs
    · rw [wipe_set e]
    · have e2 : i = v := by
        rcases List.mem_cons.mp h with z | z
        · exact z
        · exact absurd z e
      subst e2
      have go : ∀ (ws : List Nat), i ∉ ws → L2.wipe (σ.set i x) ws = (L2.wipe σ ws).set i x := by
        intro ws
        induction ws with
        | nil => intro _; rfl
        | cons w ws ih =>
          intro hw
          have hw1 : i ≠ w := fun z => hw (by rw [z]; exact List.mem_cons_self)
          unfold L2.wipe
          rw [ih fun z => hw (List.mem_cons_of_mem _ z), List.set_comm _ _ hw1]
      rw [go vs e, List.set_set]
theorem wipe_wipe {σ : St} {vs : List Nat} : L2.wipe (L2.wipe σ vs) vs = L2.wipe σ vs := by
  have go : ∀ ws : List Nat, (∀ i ∈ ws, i ∈ vs) → L2.wipe (L2.wipe σ vs) ws = L2.wipe σ vs := by
    intro ws
    induction ws with
    | nil => intro _; rfl
    | cons w ws ih =>
      intro h
      show (L2.wipe (L2.wipe σ vs) ws).set w none = _
      rw [ih fun i z => h i (List.mem_cons_of_mem _ z), wipe_none (h w List.mem_cons_self)]
  exact go vs fun _ h => h
theorem gin_name {i : Nat} {vs : List Nat} (h : i ∈ vs) : GIn (gName i) vs := fun v σ H Q q => ⟨wipe_set h, q⟩
abbrev W0 : WX := fun _ _ _ _ => False
abbrev X0 : Exn → Prop := fun _ => False
/-- one turn of a comprehension: the item x, the list so far acc, to J -/
def Turn2 (K : PySem.W.Frag) (g : TG) (tt : TT) (te : TE) (x : D) (ρ' : Rho) (acc : List D) (J : List D → Prop) : Prop :=
  GvP K g x ρ' fun ρ'' => BvP K W0 tt ρ'' (fun b => if b = true then EvP K W0 te ρ'' (fun y => acc.length < sizeLine ∧ J (acc ++ [y])) X0 else J acc) X0
/-- a write at an address that no slot owns -/
theorem StOk.writeO {He0 He : Hp} {σ : St} {H0 H : Hp} {a : Addr} {o : HO} (S : StOk K He0 He σ H0 H ρ) (n0 : H0 a = none) (ne : He a = none) (ap : ∀ (j : Nat) (t : Sl), ρ[j]? = some t → t.isOwn = true → σ[j]? ≠ some (some (.ref a))) :
    StOk K He0 He σ H0 (upd H a o) ρ := by
  refine ⟨⟨S.e.s0, fun b u q => by rw [upd_ne (ne_of_none q ne)]; exact S.e.s _ _ q, fun b u q => by rw [upd_ne (ne_of_none q n0)]; exact S.e.sub _ _ q, S.e.fr⟩, S.len, fun j t hj hn => ?_, S.ap⟩
  obtain ⟨v', g1, g2, g3⟩ := S.sl j t hj hn
  refine ⟨v', g1, ?_, g3⟩
  by_cases hto : t.isOwn = true
  · obtain ⟨b, rfl, nb, ob⟩ := own_of hto g2
    have hba : b ≠ a := fun z => by
      subst z
      exact ap j t hj hto g1
    have ob' : OwnAt K H0 (upd H a o) b t := by
      cases t with
      | no => exact ob
      | ref c => exact ob
      | exc c o x => exact ob
      | dat d => exact ob
      | own ds => obtain ⟨xs, q1, q2⟩ := ob; exact ⟨xs, by rw [upd_ne hba]; exact q1, q2⟩
      | oK ks vs => obtain ⟨xs, q1, q2, q3⟩ := ob; exact ⟨xs, by rw [upd_ne hba]; exact q1, q2, q3⟩
      | oT ks vs => obtain ⟨xs, q1, q2, q3⟩ := ob; exact ⟨xs, by rw [upd_ne hba]; exact q1, q2, q3⟩
    cases t with
    | no => cases hto
    | ref c => cases hto
    | exc c o x => cases hto
    | dat d => cases hto
    | own ds => exact ⟨b, rfl, nb, ob'⟩
    | oK ks vs => exact ⟨b, rfl, nb, ob'⟩
    | oT ks vs => exact ⟨b, rfl, nb, ob'⟩
  · cases t with
    | no => trivial
    | ref c => exact g2
    | exc c o x => exact g2
    | dat d => exact g2
    | own ds => exact absurd rfl hto
    | oK ks vs => exact absurd rfl hto
    | oT ks vs => exact absurd rfl hto
theorem Ext.writeO {H0 H H0' H' : Hp} {a : Addr} {o : HO} (e : Ext H0 H H0' H') (n : H a = Option.none) (n0 : H0' a = Option.none) : Ext H0 H H0' (upd H' a o) :=
  ⟨e.s0, fun b u q => by rw [upd_ne (ne_of_none q n)]; exact e.s _ _ q, fun b u q => by rw [upd_ne (ne_of_none q n0)]; exact e.sub _ _ q, e.fr⟩
/-- what stands between two turns of a comprehension: its list at D -/
structure CompAt (K : PySem.W.Frag) (He0 He : Hp) (σ : St) (ρ : Rho) (Hs0 Hs : Hp) (L : Addr) (acc : List D) (G H : Hp) : Prop where
  S : StOk K He0 He σ G H ρ
  e : Ext Hs0 Hs G H
  at_ : ∃ xs, H L = some (.lst xs) ∧ Rps K G xs acc
  n0 : G L = none
theorem lc_turn {vs : List Nat} {He0 He : Hp} {σ : St} {Hs0 Hs : Hp} {L : Addr} {acc : List D} {J : List D → Prop} {G H : Hp} {x : D} {v : V} (gi : GIn g vs) (nL : Hs L = none) (sHs : Same He Hs)
    (ap : ∀ (j : Nat) (t : Sl), (wipeR ρ vs)[j]? = some t → t.isOwn = true → (L2.wipe σ vs)[j]? ≠ some (some (.ref L)))
    (C : CompAt K He0 He (L2.wipe σ vs) (wipeR ρ vs) Hs0 Hs L acc G H) (rx : Rp K G v x) (t : Turn2 K g tt te x (wipeR ρ vs) acc J) {Nx : Hp → Prop}
    (hN : ∀ acc' G' H', J acc' → CompAt K He0 He (L2.wipe σ vs) (wipeR ρ vs) Hs0 Hs L acc' G' H' → Nx H') :
    g v (L2.wipe σ vs) H fun σ2 H2 => L2.wipe σ2 vs = L2.wipe σ vs ∧ tt σ2 H2 fun b H3 =>
      if b = true then te σ2 H3 fun y H4 => ∃ acc', H4 L = some (.lst acc') ∧ acc'.length < sizeLine ∧ Nx (upd H4 L (.lst (acc' ++ [y]))) else Nx H3 := by
  have q1 := gi v (L2.wipe σ vs) H _ (t He0 He (L2.wipe σ vs) G H v (fun σ2 H2 => tt σ2 H2 fun b H3 =>
      if b = true then te σ2 H3 fun y H4 => ∃ acc', H4 L = some (.lst acc') ∧ acc'.length < sizeLine ∧ Nx (upd H4 L (.lst (acc' ++ [y]))) else Nx H3) C.S rx fun ρ2 σ2 bv S2 => ?_)
  · rw [wipe_wipe] at q1
    exact q1
  · refine bv He0 He σ2 G H _ S2 (fun _ _ _ _ _ z => z.elim) fun b G3 H3 p3 S3 e3 => ?_
    obtain ⟨xs, hL, rs⟩ := C.at_
    cases b with
    | false =>
      rw [if_neg Bool.false_ne_true] at p3 ⊢
      exact hN acc G3 H3 p3 ⟨C.S.ext e3, C.e.trans e3, ⟨xs, e3.s _ _ hL, rs.mono e3.s0⟩, e3.none C.n0 hL⟩
    | true =>
      rw [if_pos rfl] at p3 ⊢
      refine p3 He0 He σ2 G3 H3 _ S3 (fun _ _ _ _ _ z => z.elim) fun y dy G4 H4 p4 S4 e4 r4 => ?_
      have e34 := e3.trans e4
      have hL4 := e34.s _ _ hL
      have n4 := e34.none C.n0 hL
      refine ⟨xs, hL4, by rw [rs.length]; exact p4.1, hN (acc ++ [dy]) G4 _ p4.2 ⟨?_, ?_, ?_, n4⟩⟩
      · exact (C.S.ext e34).writeO n4 (sHs.free nL) ap
      · exact (C.e.trans e34).writeO nL n4
      · exact ⟨xs ++ [y], upd_same, (rs.mono e34.s0).append (.one r4)⟩
/-- the list at its end becomes still -/
theorem CompAt.fin {vs : List Nat} {He0 He : Hp} {σ : St} {Hs0 Hs : Hp} {L : Addr} {acc : List D} {G H : Hp} (S : StOk K He0 He σ Hs0 Hs ρ) (nL : Hs L = none)
    (C : CompAt K He0 He (L2.wipe σ vs) (wipeR ρ vs) Hs0 Hs L acc G H) : ∃ G', StOk K He0 He σ G' H ρ ∧ Ext Hs0 Hs G' H ∧ Rp K G' (.ref L) (.lst acc) := by
  obtain ⟨xs, hL, rs⟩ := C.at_
  have s1 : Same G (upd G L (.lst xs)) := fun b o e => by rw [upd_ne (ne_of_none e C.n0)]; exact e
  have e1 : Ext Hs0 Hs (upd G L (.lst xs)) H := ⟨C.e.s0.trans s1, C.e.s, fun b o q => by
    by_cases hb : b = L
    · subst hb; rw [upd_same] at q; cases q; exact hL
    · rw [upd_ne hb] at q; exact C.e.sub _ _ q, fun b o n q => by
    by_cases hb : b = L
    · subst hb; exact .inl nL
    · rw [upd_ne hb] at q; exact C.e.fr b o n q⟩
  exact ⟨_, S.ext e1, e1, .lst upd_same (rs.mono s1)⟩
theorem CompAt.finO {vs : List Nat} {He0 He : Hp} {σ : St} {Hs0 Hs : Hp} {L : Addr} {acc : List D} {G H : Hp} (S : StOk K He0 He σ Hs0 Hs ρ) (nL : Hs L = none)
    (C : CompAt K He0 He (L2.wipe σ vs) (wipeR ρ vs) Hs0 Hs L acc G H) : StOk K He0 He σ G H ρ ∧ Ext Hs0 Hs G H ∧ RpS K G H (.ref L) (.own acc) := by
  obtain ⟨xs, hL, rs⟩ := C.at_
  exact ⟨S.ext C.e, C.e, L, rfl, C.n0, xs, hL, rs⟩
theorem CompAt.start {vs : List Nat} {He0 He : Hp} {σ : St} {Hs0 Hs : Hp} {L : Addr} (S : StOk K He0 He σ Hs0 Hs ρ) (nL : Hs L = none) :
    CompAt K He0 He (L2.wipe σ vs) (wipeR ρ vs) Hs0 Hs L [] Hs0 (upd Hs L (.lst [])) ∧ ∀ (j : Nat) (t : Sl), (wipeR ρ vs)[j]? = some t → t.isOwn = true → (L2.wipe σ vs)[j]? ≠ some (some (.ref L)) := by
  have S' := S.wipe vs
  have e : Ext Hs0 Hs Hs0 (upd Hs L (.lst [])) := .own S.sub nL
  refine ⟨⟨S'.ext e, e, ⟨[], upd_same, .nil⟩, S.sub.free nL⟩, fun j t hj ht q => ?_⟩
  obtain ⟨v', g1, g2, g3⟩ := S'.sl j t hj (by intro z; rw [z] at ht; cases ht)
  obtain ⟨b, rfl, nb, ob⟩ := own_of ht g2
  rw [g1] at q
  cases q
  obtain ⟨u, hu, _⟩ := ob.there
  rw [nL] at hu
  cases hu
theorem Ext.still {H0 H H0' H' : Hp} {a : Addr} {o : HO} (e : Ext H0 H H0' H') (n : H a = Option.none) (h : H' a = some o) : Ext H0 H (upd H0' a o) H' := by
  have n0 : H0' a = Option.none ∨ H0' a = some o := by
    cases q : H0' a with
    | none => exact .inl rfl
    | some u => right; rw [← h]; exact (e.sub _ _ q).symm
  refine ⟨fun b u q => ?_, e.s, fun b u q => ?_, fun b u n' q => ?_⟩
  · by_cases hb : b = a
    · subst hb
      have z := e.s0 _ _ q
      rcases n0 with n0 | n0
      · rw [n0] at z; cases z
      · rw [upd_same, ← z, n0]
    · rw [upd_ne hb]; exact e.s0 _ _ q
  · by_cases hb : b = a
    · subst hb; rw [upd_same] at q; cases q; exact h
    · rw [upd_ne hb] at q; exact e.sub _ _ q
  · by_cases hb : b = a
    · subst hb; exact .inl n
    · rw [upd_ne hb] at q; exact e.fr b u n' q
theorem still_up {H0 H H0' H' : Hp} {v : V} {s : Sl} (e : Ext H0 H H0' H') (r : RpS K H0' H' v s) (n : NewAt H v s) (hn : s.ok = true) : ∃ G, Ext H0 H G H' ∧ Rp K G v s.still := by
  by_cases ho : s.isOwn = true
  · obtain ⟨a, rfl, n0, oa⟩ := own_of ho r
    obtain ⟨u, hu, mk⟩ := still_of (v := .ref a) oa
    have s1 : Same H0' (upd H0' a u) := fun b o q => by rw [upd_ne (ne_of_none q n0)]; exact q
    exact ⟨_, e.still (n ho a rfl) hu, mk _ s1 upd_same⟩
  · cases s with
    | no => cases hn
    | ref c => cases hn
    | exc c o x => cases hn
    | dat d => exact ⟨H0', e, r⟩
    | own ds => exact absurd rfl ho
    | oK ks vs => exact absurd rfl ho
    | oT ks vs => exact absurd rfl ho
theorem EvO.still (h : EvO K W te ρ (fun s : Sl => s.ok = true ∧ P s.still) X) : EvP K W te ρ P X := fun He0 He σ H0 H Q S x k => by
  refine h He0 He σ H0 H Q S x fun v s H0' H' p S' e r n => ?_
  obtain ⟨G, e', r'⟩ := still_up e r n p.1
  exact k v _ G H' p.2 (S.ext e') e' r'
theorem EvO.own (h : EvO K W te ρ (fun s : Sl => ∃ ds, s = .own ds ∧ P (.lst ds)) X) : EvP K W te ρ P X := EvO.still fun He0 He σ H0 H Q S x k =>
  h He0 He σ H0 H Q S x fun v s H0' H' ⟨ds, e, p⟩ => k v s H0' H' (by subst e; exact ⟨rfl, p⟩)
/-! ### promises -/
def spD (K : PySem.W.Frag) (pre : List D → Prop) (post : List D → Sl → Prop) (exn : List D → Exn → Prop) : Sp := fun vs H Q E => ∃ (ds : List D) (H0 : Hp), Same H0 H ∧ Rps K H0 vs ds ∧ pre ds ∧
  (∀ v s H0' H', post ds s → Ext H0 H H0' H' → RpS K H0' H' v s → NewAt H v s → Q v H') ∧ ∀ x cls od H0' H', exn ds x → Ext H0 H H0' H' → ExnRep K H0' H' x cls od → E cls od H'
variable {pre : List D → Prop} {post : List D → Sl → Prop} {exn : List D → Exn → Prop}
theorem eo_call (h : AvP K W tas ρ (fun ds => pre ds ∧ (∀ s, post ds s → PS s) ∧ ∀ x, exn ds x → X x) X) : EvO K W (tCallS (spD K pre post exn) (WE W) tas) ρ PS X := fun He0 He σ H0 H Q S x k => by
  refine h He0 He σ H0 H _ S x fun vs ds H1 H1' p S1 e1 r1 => ⟨ds, H1, S1.sub, r1, p.1, ?_, ?_⟩
  · intro v s H2 H2' q e2 r2 n2
    exact k v s H2 H2' (p.2.1 s q) (S1.ext e2) (e1.trans e2) r2 (n2.mono e1.s)
  · intro y cls od H2 H2' q e2 r2
    exact x y cls od H2 H2' (p.2.2 y q) (S1.ext e2) r2
/-- a def's entry -/
def startR (n : Nat) (ds : List D) : Rho := ds.map Sl.dat ++ List.replicate (n - ds.length) .no
theorem start_ok {N : List Str} {H0 H : Hp} {vs : List V} {ds : List D} (s : Same H0 H) (r : Rps K H0 vs ds) : StOk K H0 H (L2.start N vs) H0 H (startR N.length ds) := by
  have hl := r.length
  refine ⟨.refl s, ?_, fun i t h hn => ?_, fun i j t u a hij hi hj ht hu e => ?_⟩
  · unfold L2.start startR
    rw [List.length_append, List.length_append, List.length_map, List.length_map, List.length_replicate, List.length_replicate, hl]
  · unfold startR at h
    by_cases hi : i < ds.length
    · rw [List.getElem?_append_left (by rw [List.length_map]; exact hi), List.getElem?_map] at h
      cases q : ds[i]? with
      | none => rw [q] at h; cases h
      | some d =>
        rw [q] at h
        cases h
        obtain ⟨v, h1, h2⟩ := r.get q
        refine ⟨v, ?_, h2, fun z => by cases z⟩
        unfold L2.start
        rw [List.getElem?_append_left (by rw [List.length_map, hl]; exact hi), List.getElem?_map, h1] <;> rfl
    · rw [List.getElem?_append_right (by rw [List.length_map]; omega)] at h
      have := List.mem_of_getElem? h
      rw [List.mem_replicate] at this
      exact absurd this.2 hn
  · unfold startR at hi
    have := List.mem_of_getElem? hi
    rcases List.mem_append.mp this with z | z
    · obtain ⟨d, _, rfl⟩ := List.mem_map.mp z
      cases ht
    · rw [List.mem_replicate] at z
      rw [z.2] at ht
      cases ht
abbrev WD (E : XK) : WX := fun cls d _ H => E cls d H
/-- THE RULE for a def -/
theorem fn_ws {P : Program} {w : World} {mg : Str → Option Value} {base : Heap} {x qual : Str} {st : Stmt} {f : Addr} {fd : FuncData} {N ps : List Str} {k : Nat} (F : Fun K x qual st f fd) (S : FnScope N ps (defScope st)) (len : ∀ ds, pre ds → ds.length = ps.length)
    (hbody : ∀ (cdv : Value) (A : Around) (outer : List PySem.Env) (s : Shared) (H : Hp) (E : XK), Room k (A.deeper (PyProof.Rows.envOfC qual (defScope st) s.heap.objs.size f cdv)) →
      ∃ t, PSs (cxOf (L2.CX P w) P w K mg base N qual (defScope st) f cdv A outer s H E) (defBody st) t ∧
        ∀ ds, pre ds → WS K (WD E) t (startR N.length ds) { nx := fun _ => post ds (.dat .non), rt := post ds, ex := fun x _ => exn ds x }) :
    FnOk P w K mg base (L2.CX P w) (k + 1) f fd ps (spD K pre post exn) := by
  refine F.okX S (fun vs H Q E h => ?_) (fun cdv A outer s H vs Q E hr h => ?_)
  · obtain ⟨ds, H0, _, r, p, _⟩ := h
    rw [r.length]
    exact len ds p
  · obtain ⟨ds, H0, sub, r, p, kq, ke⟩ := h
    obtain ⟨t, h1, h2⟩ := hbody cdv A outer s H E hr
    refine ⟨t, h1, h2 ds p H0 H (L2.start N vs) H0 H _ (start_ok sub r) ⟨fun ρ σ G H' q S' => kq .non (.dat .non) G H' q S'.e .non (fun z => by cases z), fun s' v G H' q e' r' n' => kq v s' G H' q e' r' n', fun _ _ _ _ z => z.elim, fun _ _ _ _ z => z.elim, fun x ρ σ G H' c o q S' r' => ke x c o G H' q S'.e r'⟩⟩
/-! ### raise, try -/
theorem ws_raise0 {C : Addr} (h : E.ex ⟨C, none⟩ ρ) : WS K W (fun _ σ H => (fun (_ : St) (H : Hp) (Q : XK) => Q (.ref C) none H) σ H fun cls d H' => W cls d σ H') ρ E := fun He0 He σ H0 H D S e =>
  e.ex ⟨C, none⟩ ρ σ H0 H (.ref C) none h S ⟨rfl, fun _ => rfl, fun f d z => by cases z⟩
end
end DL

set_option maxRecDepth 100000
set_option maxHeartbeats 1000000
namespace PyProof.Rows
open PySem
section
variable {prog : Program} {w : World} {A : Around} {E : Value → Shared → Prop} {s : Shared}
theorem collect_tupleDL {l : Addr} {vs : List Value} {Q : List Value → Shared → Prop} (hl : s.heap.IsTuple l vs.toArray)
    (h : Q vs { s with heap := (s.heap.push (seqObj "list" #[] 0)).update s.heap.objs.size (Obj.mapSeq (· ++ vs.toArray)) }) (hsz : vs.length ≤ sizeLine := by size_fits) :
    wpAny (model prog w) A (collect (.ref l)) Q E s := by
  obtain ⟨o, ho, hc, n, hd⟩ := id hl
  unfold collect
  refine wpAny_bind (wpAny_runValue (codeAny_builtin entry_proto_collect' ?_))
  show wpAny _ _ (do again (.builtin "list.__iadd__" ⟨[← newList [], .ref l], []⟩)) _ _ s
  refine wpAny_bind (wpAny_newList (wpAny_pure ⟨Code.quiet_builtin _ (by decide +kernel), codeAny_builtin entry_list_iadd' ?_⟩))
  show wpAny _ _ (Builtin.List.listExtendWith (.ref s.heap.objs.size) (.ref l) (.ref s.heap.objs.size)) _ _ { s with heap := s.heap.push (seqObj "list" #[] 0) }
  unfold Builtin.List.listExtendWith
  have ho' : (s.heap.push (seqObj "list" #[] 0)).get? l = some o := Heap.get?_push_of_some _ ho
  refine wpAny_bind (wpAny_typeOf (T := "tuple") ⟨o, ho', hc⟩ ?_)
  have ht : (Value.type "tuple" == Value.type "tuple") = true := by rfl
  rw [if_pos (by rw [ht]; simp)]
  refine wpAny_bind (listItems_at ho' hd ?_)
  refine wpAny_bind (listItems_at (xs := #[]) (n := 0) (Heap.get?_push_size _ rfl) rfl ?_)
  rw [if_neg (by simp)]
  refine wpAny_bind (listUpdate_at (xs := #[]) (n := 0) (Heap.get?_push_size _ rfl) rfl ?_ (Nat.zero_le _) (by show (#[] ++ vs.toArray).size ≤ sizeLine + 1; simp only [Array.size_append, List.size_toArray, List.length_nil]; omega))
  refine wpAny_pure ?_
  show wpAny (model prog w) A (do
      let o ← load s.heap.objs.size
      match o.data with
      | .seq xs _ => pure xs.toList
      | _ => unsupported "internal:collect") Q E { s with heap := (s.heap.push (seqObj "list" #[] 0)).update s.heap.objs.size (Obj.mapSeq (· ++ vs.toArray)) }
  refine wpAny_bind (wpAny_load (get?_update_seq (Heap.get?_push_size _ rfl) _) ?_)
  show wpAny _ _ (pure ((#[] : Array Value) ++ vs.toArray).toList) Q E _
  rw [show ((#[] : Array Value) ++ vs.toArray).toList = vs by simp]
  exact wpAny_pure h
end
end PyProof.Rows
namespace SrtO
open PySem PyProof.Rows
section
variable {prog : Program} {w : World} {A : Around} {E : Value → Shared → Prop} {s : Shared}
theorem sorted_ordT {l : Addr} {vs : List Value} {ltv : Value → Value → Bool} {Q : Value → Shared → Prop} (O : Swo ltv) (hl : s.heap.IsTuple l vs.toArray) (hz : vs.length ≤ sizeLine)
    (hS : 2 ≤ vs.length → ∀ (h₁ : Heap) (a : Addr), h₁.get? a = some (seqObj "list" vs.toArray 0) → (∀ b o, s.heap.get? b = some o → b ≠ a ∧ h₁.get? b = some o) → SortableO prog w A.in1.in1 { s with heap := h₁ } a vs ltv)
    (h : ∀ out : List Value, Srtd ltv out → Stb ltv out vs → Q (.ref (s.heap.objs.size + 1)) { s with heap := sortedAll s.heap vs out.toArray }) :
    wpAny (model prog w) A (call (.builtin "sorted") [.ref l]) Q E s := by
  refine Calls.call_function_entry kind_sorted plain_sorted entry_sorted (args_sorted1 _) ?_
  unfold Builtin.«sorted»
  refine wpAny_bind (m := checkCount "sorted" 1 1 _) (wpAny_pure ?_)
  refine wpAny_bind (collect_tupleDL hl ?_ hz)
  refine wpAny_bind (wpAny_newList ?_ hz)
  have hsz : ((s.heap.push (seqObj "list" #[] 0)).update s.heap.objs.size (Obj.mapSeq (· ++ vs.toArray))).objs.size = s.heap.objs.size + 1 := by
    rw [Heap.size_update, size_push']
  have hoL : (((s.heap.push (seqObj "list" #[] 0)).update s.heap.objs.size (Obj.mapSeq (· ++ vs.toArray))).push (seqObj "list" vs.toArray 0)).get? (s.heap.objs.size + 1) = some (seqObj "list" vs.toArray 0) := by
    rw [← hsz]; exact Heap.get?_push_size _ rfl
  have keep : ∀ b o, s.heap.get? b = some o → b ≠ s.heap.objs.size + 1 ∧ (((s.heap.push (seqObj "list" #[] 0)).update s.heap.objs.size (Obj.mapSeq (· ++ vs.toArray))).push (seqObj "list" vs.toArray 0)).get? b = some o := fun b o q => by
    have hlt : b < s.heap.objs.size := Heap.lt_size q
    refine ⟨Nat.ne_of_lt (Nat.lt_succ_of_lt hlt), Heap.get?_push_of_some _ ?_⟩
    rw [Heap.get?_update_ne _ _ _ _ (Nat.ne_of_lt hlt)]
    exact Heap.get?_push_of_some _ q
  show wpAny _ _ _ _ _ { s with heap := ((s.heap.push (seqObj "list" #[] 0)).update s.heap.objs.size (Obj.mapSeq (· ++ vs.toArray))).push (seqObj "list" vs.toArray 0) }
  rw [hsz]
  refine wpAny_bind (wpAny_holding (wpAny_call_entry slot_list_sort ⟨_, hoL, rfl⟩ entry_list_sort (list_sort_ord O hoL hz (fun h2 => hS h2 _ _ hoL keep) fun out hs hb => ⟨_, rfl, ?_⟩) (args_list_sort _)))
  exact wpAny_pure ⟨_, rfl, h out hs hb⟩
end
end SrtO
namespace DL
open PySem PySem.Spec L2
/-- sorted of a tuple of ints -/
def rSortedTI (K : PySem.W.Frag) : List V → Hp → VK → Prop := fun vs H Q => ∃ (a : Addr) (ns : List Int), vs = [V.ref a] ∧ SqT K H a (ns.map V.int) ∧
  ∀ (ns' : List Int) (p : Addr), ns'.Perm ns → ns'.Pairwise (· ≤ ·) → H p = none → Q (.ref p) (upd H p (.lst (ns'.map V.int)))
section
variable {X : Cx}
theorem cr_sortedTI : CallR X (.builtin "sorted") (rSortedTI X.K) := by
  intro pins s σ H vs us Q I r h
  obtain ⟨a, ns, rfl, hs, q⟩ := h
  obtain ⟨its, rv, hl, hz⟩ := I.tuple hs
  rw [Vals.ref1 r]
  have hi := rv.ints
  refine SrtO.sorted_ordT SrtO.swo_int (show s.heap.IsTuple a its.toArray from hl) (by rw [← rv.length]; exact hz) (fun h2 h₁ a' _ _ => SrtO.ints_sortable hi h2) fun out h1 h2 => ?_
  obtain ⟨k1, k2, k3⟩ := SrtO.ints_out hi h1 h2
  obtain ⟨ep, he'⟩ := PyProof.Rows.sortedAll_at s.heap its out.toArray
  have hlen : ((out.map SrtO.iv).map V.int).length ≤ sizeLine := by
    rw [List.length_map, k2.length_eq]
    rw [List.length_map] at hz
    exact hz
  exact ⟨.ref _, upd H (s.heap.objs.size + 1) (.lst ((out.map SrtO.iv).map V.int)), I.laid (t' := s.toks) (fun _ _ => PyProof.Rows.sortedAll_old) (Nat.le_succ _) ⟨hlen, out, ep, vals_of_ints k1, he'⟩, rfl, q _ _ k2 k3 (I.hok.fresh (Nat.le_succ _))⟩
/-! ### rules of several kinds in one -/
abbrev rAddS : R2 := fun x y H Q => ∃ i j, x = .str i ∧ y = .str j ∧ i.length + j.length ≤ sizeLine ∧ Q (.str (i ++ j)) H
def rAdd (K : PySem.W.Frag) : R2 := fun x y H Q => (((rI0 fun i j => .int (i + j)) x y H Q ∨ rAddS x y H Q) ∨ rCat x y H Q) ∨ rCatA K x y H Q
theorem op_addA : OpR X (binaryOp .Add) (rAdd X.K) := ((op_add.or op_add_str).or op_cat).or op_catA
def rMulA : R2 := fun x y H Q => ((rI CMul fun i j => .int (i * j)) x y H Q ∨ (rI CMulW fun i j => .int (i * j)) x y H Q) ∨ rRep x y H Q
theorem op_mulA : OpR X (binaryOp .Mult) rMulA := (op_mul.or op_mulW).or op_rep
def rDivA : R2 := fun x y H Q => (rI CDiv fun i j => .int (i / j)) x y H Q ∨ (rI CDivW fun i j => .int (i / j)) x y H Q
theorem op_divA : OpR X (binaryOp .FloorDiv) rDivA := op_fdiv.or op_fdivW
def rEqA (K : PySem.W.Frag) : R2 := fun x y H Q => rEq x y H Q ∨ rEqD K x y H Q
def rNeA (K : PySem.W.Frag) : R2 := fun x y H Q => rNe x y H Q ∨ rNeD K x y H Q
theorem op_eqA (hu : X.A.units + 64 < cLine) : OpR X (compareOp .Eq) (rEqA X.K) := op_eq.or (op_eqD hu)
theorem op_neA (hu : X.A.units + 64 < cLine) : OpR X (compareOp .NotEq) (rNeA X.K) := op_ne.or (op_neD hu)
def rSortedA (K : PySem.W.Frag) : List V → Hp → VK → Prop := fun vs H Q => rSortedI K vs H Q ∨ rSortedTI K vs H Q
theorem cr_sortedA : CallR X (.builtin "sorted") (rSortedA X.K) := cr_sortedI.or cr_sortedTI
theorem pe_globI {x : Str} {n : Int} {pos : Pos} (hg : Gl X x) (hm : ∃ t, X.mg x = some (.int n t)) (hd : (x == ("__debug__" : Str)) = false := by decide) : PE X (.Name x pos) (tC (.int n)) := by
  obtain ⟨t, h⟩ := hm
  exact pe_glob hg h ⟨_, rfl⟩ hd
end
section
variable {K : PySem.W.Frag} {P : D → Prop} {r r' : R2}
/-! ### .. by data -/
theorem od_addI {i j : Int} (p : P (.int (i + j))) : OpD K (rAdd K) (.int i) (.int j) P := fun H0 H v u Q s a b k => .inl (.inl (.inl (od_int0 (K := K) (g := fun i j => i + j) p H0 H v u Q s a b k)))
theorem od_addS {i j : Str} (hz : i.length + j.length ≤ sizeLine) (p : P (.str (i ++ j))) : OpD K (rAdd K) (.str i) (.str j) P := fun H0 H v u Q s a b k => by
  cases a; cases b
  exact .inl (.inl (.inr ⟨i, j, rfl, rfl, hz, k _ _ H0 H p (.refl s) (.str _)⟩))
theorem od_addL {i j : List D} (hz : i.length + j.length ≤ sizeLine) (p : P (.lst (i ++ j))) : OpD K (rAdd K) (.lst i) (.lst j) P := fun H0 H v u Q s a b k => by
  cases a with
  | lst ha ra =>
    cases b with
    | lst hb rb =>
      refine .inl (.inr ⟨_, _, _, _, rfl, rfl, s _ _ ha, s _ _ hb, by rw [ra.length, rb.length]; exact hz, fun q nq => ?_⟩)
      refine k _ _ _ _ p (.new s nq) (.lst upd_same ((ra.mono (Ext.new s nq).s0).append (rb.mono (Ext.new s nq).s0)))
theorem od_mulI {i j : Int} (c : CMul i j ∨ CMulW i j) (p : P (.int (i * j))) : OpD K rMulA (.int i) (.int j) P := fun H0 H v u Q s a b k => by
  rcases c with c | c
  · exact .inl (.inl (od_intC (K := K) (g := fun i j => i * j) c p H0 H v u Q s a b k))
  · exact .inl (.inr (od_intC (K := K) (g := fun i j => i * j) c p H0 H v u Q s a b k))
theorem od_mulL {j : Int} {i : List D} (c : 0 ≤ j ∧ j < 2 ^ 63 ∧ i.length * j.toNat ≤ sizeLine) (p : P (.lst (List.replicate j.toNat i).flatten)) : OpD K rMulA (.lst i) (.int j) P := fun H0 H v u Q s a b k => by
  cases a with
  | lst ha ra =>
    cases b
    refine .inr ⟨_, _, _, rfl, rfl, s _ _ ha, by omega, c.2.1, by rw [ra.length]; exact c.2.2, fun q nq => ?_⟩
    have rep : ∀ (n : Nat) (xs : List V) (G : Hp), Rps K G xs i → Rps K G (List.replicate n xs).flatten (List.replicate n i).flatten := fun n xs G hx => by
      induction n with
      | zero => exact .nil
      | succ n ih => rw [List.replicate_succ, List.replicate_succ, List.flatten_cons, List.flatten_cons]; exact hx.append ih
    exact k _ _ _ _ p (.new s nq) (.lst upd_same (rep _ _ _ (ra.mono (Ext.new s nq).s0)))
theorem od_divI {i j : Int} (h0 : 0 < j) (c : j < 1073741824 ∨ j.natAbs.log2 < 9000) (p : P (.int (i / j))) : OpD K rDivA (.int i) (.int j) P := fun H0 H v u Q s a b k => by
  rcases c with c | c
  · exact .inl (od_intC (K := K) (C := CDiv) (g := fun i j => i / j) ⟨h0, c⟩ p H0 H v u Q s a b k)
  · exact .inr (od_intC (K := K) (C := CDivW) (g := fun i j => i / j) ⟨h0, c⟩ p H0 H v u Q s a b k)
theorem od_modI {i j : Int} (h0 : 0 < j) (p : P (.int (i % j))) : OpD K (rI (fun _ j => 0 < j) fun i j => .int (i % j)) (.int i) (.int j) P := od_intC (C := fun _ j => 0 < j) (g := fun i j => i % j) h0 p
theorem od_powI {i j : Int} (c : 0 ≤ j ∧ j ≤ 1000000 ∧ i.natAbs < 2 ^ 64) (p : P (.int (i ^ j.toNat))) : OpD K (rI CPow fun i j => .int (i ^ j.toNat)) (.int i) (.int j) P := od_intC (C := CPow) (g := fun i j => i ^ j.toNat) c p
/-! ### == of data -/
mutual
def D.py : D → PyData
  | .non => .none | .bl b => .bool b | .int i => .int i | .str x => .str x | .lst l => .list (D.pys l) | .tup l => .tuple (D.pys l) | .dK _ _ => .none | .dT _ _ => .none | .src _ => .none | .fK _ _ => .none | .fT _ _ => .none | .ins _ _ _ => .none
def D.pys : List D → List PyData
  | [] => []
  | d :: l => D.py d :: D.pys l
end
/-- data of depth below n, without dicts -/
def Shp : Nat → D → Prop
  | _, .non | _, .bl _ | _, .int _ => True
  | _, .str x => PyData.strOk x = true
  | n + 1, .lst l | n + 1, .tup l => ∀ d ∈ l, Shp n d
  | _, _ => False
mutual
theorem Rp.dp {H : Hp} : ∀ {d : D} {v : V} {n : Nat}, Shp n d → Rp K H v d → Dp K H v d.py
  | .non, _, _, _, .non => .non
  | .bl _, _, _, _, .bl b => .bl b
  | .int _, _, _, _, .int i => .int i
  | .str _, _, _, _, .str i => .str i
  | .lst _, _, n + 1, h, .lst ha rs => .lst (.inl (.inl ha)) (Rps.dp (n := n) h rs)
  | .lst _, _, 0, h, _ => h.elim
  | .tup _, _, n + 1, h, .tup ha rs => .tup (.inl (.inl ha)) (Rps.dp (n := n) h rs)
  | .tup _, _, 0, h, _ => h.elim
  | .dK _ _, _, 0, h, _ => h.elim
  | .dK _ _, _, n + 1, h, _ => h.elim
  | .dT _ _, _, 0, h, _ => h.elim
  | .dT _ _, _, n + 1, h, _ => h.elim
  | .src _, _, 0, h, _ => h.elim
  | .src _, _, n + 1, h, _ => h.elim
  | .fK _ _, _, 0, h, _ => h.elim
  | .fK _ _, _, n + 1, h, _ => h.elim
  | .fT _ _, _, 0, h, _ => h.elim
  | .fT _ _, _, n + 1, h, _ => h.elim
  | .ins _ _ _, _, 0, h, _ => h.elim
  | .ins _ _ _, _, n + 1, h, _ => h.elim
theorem Rps.dp {H : Hp} : ∀ {ds : List D} {vs : List V} {n : Nat}, (∀ d ∈ ds, Shp n d) → Rps K H vs ds → DpAll K H vs (D.pys ds)
  | [], _, _, _, .nil => .nil
  | d :: ds, _, n, h, .cons r t => .cons (Rp.dp (h d List.mem_cons_self) r) (Rps.dp (fun x hx => h x (List.mem_cons_of_mem _ hx)) t)
end
mutual
theorem Shp.lay : ∀ {d : D} {n : Nat}, Shp n d → d.py.canLay0 = true ∧ d.py.depth ≤ n
  | .non, n, _ => ⟨rfl, Nat.zero_le _⟩
  | .bl _, n, _ => ⟨rfl, Nat.zero_le _⟩
  | .int _, n, _ => ⟨rfl, Nat.zero_le _⟩
  | .str x, n, h => ⟨by simp only [D.py, PyData.canLay0]; cases n <;> (unfold Shp at h; exact h), Nat.zero_le _⟩
  | .lst l, n + 1, h => by
    obtain ⟨h1, h2⟩ := Shp.lays (n := n) (ds := l) h
    exact ⟨by simp only [D.py, PyData.canLay0]; exact h1, by simp only [D.py, PyData.depth]; omega⟩
  | .tup l, n + 1, h => by
    obtain ⟨h1, h2⟩ := Shp.lays (n := n) (ds := l) h
    exact ⟨by simp only [D.py, PyData.canLay0]; exact h1, by simp only [D.py, PyData.depth]; omega⟩
  | .lst _, 0, h => h.elim
  | .tup _, 0, h => h.elim
  | .dK _ _, 0, h => h.elim
  | .dK _ _, n + 1, h => h.elim
  | .dT _ _, 0, h => h.elim
  | .dT _ _, n + 1, h => h.elim
  | .src _, 0, h => h.elim
  | .src _, n + 1, h => h.elim
  | .fK _ _, 0, h => h.elim
  | .fK _ _, n + 1, h => h.elim
  | .fT _ _, 0, h => h.elim
  | .fT _ _, n + 1, h => h.elim
  | .ins _ _ _, 0, h => h.elim
  | .ins _ _ _, n + 1, h => h.elim
theorem Shp.lays : ∀ {ds : List D} {n : Nat}, (∀ d ∈ ds, Shp n d) → PyData.canLayAll0 (D.pys ds) = true ∧ PyData.depthAll (D.pys ds) ≤ n
  | [], n, _ => ⟨rfl, Nat.zero_le _⟩
  | d :: ds, n, h => by
    obtain ⟨a1, a2⟩ := Shp.lay (h d List.mem_cons_self)
    obtain ⟨b1, b2⟩ := Shp.lays (ds := ds) (n := n) (fun x hx => h x (List.mem_cons_of_mem _ hx))
    refine ⟨by simp only [D.pys, PyData.canLayAll0, a1, b1, Bool.and_self], ?_⟩
    simp only [D.pys, PyData.depthAll]
    omega
end
theorem Shp.shaped {d : D} {n : Nat} (h : Shp n d) (hn : n ≤ 64 := by decide) : SeqAt.shaped d.py = true := by
  obtain ⟨h1, h2⟩ := h.lay
  unfold SeqAt.shaped
  rw [h1, Bool.true_and]
  exact decide_eq_true (by omega)
/-- as Python's ==, where no bool meets an int -/
def D.eqb (d e : D) : Bool := PyData.eqv d.py e.py
theorem od_eqD {d e : D} {n m : Nat} (h1 : Shp n d) (h2 : Shp m e) (p : P (.bl (D.eqb d e))) (hn : n ≤ 64 := by decide) (hm : m ≤ 64 := by decide) : OpD K (rEqA K) d e P := fun H0 H v u Q s a b k =>
  .inr ⟨d.py, e.py, (a.mono s).dp h1, (b.mono s).dp h2, h1.shaped hn, h2.shaped hm, k _ _ H0 H p (.refl s) (.bl _)⟩
theorem od_neD {d e : D} {n m : Nat} (h1 : Shp n d) (h2 : Shp m e) (p : P (.bl (!D.eqb d e))) (hn : n ≤ 64 := by decide) (hm : m ≤ 64 := by decide) : OpD K (rNeA K) d e P := fun H0 H v u Q s a b k =>
  .inr ⟨d.py, e.py, (a.mono s).dp h1, (b.mono s).dp h2, h1.shaped hn, h2.shaped hm, k _ _ H0 H p (.refl s) (.bl _)⟩
theorem od_eqAI {i j : Int} (p : P (.bl (decide (i = j)))) : OpD K (rEqA K) (.int i) (.int j) P := fun H0 H v u Q s a b k => .inl (od_eqI (K := K) p H0 H v u Q s a b k)
theorem od_neAI {i j : Int} (p : P (.bl (decide (i ≠ j)))) : OpD K (rNeA K) (.int i) (.int j) P := fun H0 H v u Q s a b k => .inl (od_neI (K := K) p H0 H v u Q s a b k)
theorem od_eqAS {i j : Str} (p : P (.bl (decide (i = j)))) : OpD K (rEqA K) (.str i) (.str j) P := fun H0 H v u Q s a b k => .inl (od_eqS (K := K) p H0 H v u Q s a b k)
theorem od_neAS {i j : Str} (p : P (.bl (decide (i ≠ j)))) : OpD K (rNeA K) (.str i) (.str j) P := fun H0 H v u Q s a b k => .inl (od_neS (K := K) p H0 H v u Q s a b k)
theorem od_eqAB {i j : Bool} (p : P (.bl (decide (i = j)))) : OpD K (rEqA K) (.bl i) (.bl j) P := fun H0 H v u Q s a b k => .inl (od_eqB (K := K) p H0 H v u Q s a b k)
theorem od_neAB {i j : Bool} (p : P (.bl (decide (i ≠ j)))) : OpD K (rNeA K) (.bl i) (.bl j) P := fun H0 H v u Q s a b k => .inl (od_neB (K := K) p H0 H v u Q s a b k)
/-! ### built-ins -/
theorem cd_abs {i : Int} (p : P (.int (if i < 0 then -i else i))) : CbD K (fun xs H Q => ∃ i, xs = [.int i] ∧ Q (.int (if i < 0 then -i else i)) H) [.int i] P := fun H0 H vs Q s r k => by
  cases r with
  | cons r1 r2 => cases r1; cases r2; exact ⟨i, rfl, k _ _ H0 H p (.refl s) (.int _)⟩
theorem cd_max2 {i j : Int} (p : P (.int (if j > i then j else i))) : CbD K (fun xs H Q => ∃ i j, xs = [.int i, .int j] ∧ Q (.int (if j > i then j else i)) H) [.int i, .int j] P := fun H0 H vs Q s r k => by
  cases r with
  | cons r1 r2 =>
    cases r1
    cases r2 with
    | cons r3 r4 => cases r3; cases r4; exact ⟨i, j, rfl, k _ _ H0 H p (.refl s) (.int _)⟩
theorem cd_min2 {i j : Int} (p : P (.int (if j < i then j else i))) : CbD K (fun xs H Q => ∃ i j, xs = [.int i, .int j] ∧ Q (.int (if j < i then j else i)) H) [.int i, .int j] P := fun H0 H vs Q s r k => by
  cases r with
  | cons r1 r2 =>
    cases r1
    cases r2 with
    | cons r3 r4 => cases r3; cases r4; exact ⟨i, j, rfl, k _ _ H0 H p (.refl s) (.int _)⟩
abbrev rInt1 : List V → Hp → VK → Prop := fun xs H Q => (∃ i, xs = [.int i] ∧ Q (.int i) H) ∨ ∃ k, xs = [.bl k] ∧ Q (.int (if k then 1 else 0)) H
theorem cd_int {i : Int} (p : P (.int i)) : CbD K rInt1 [.int i] P := fun H0 H vs Q s r k => by
  cases r with
  | cons r1 r2 => cases r1; cases r2; exact .inl ⟨i, rfl, k _ _ H0 H p (.refl s) (.int _)⟩
theorem cd_intB {i : Bool} (p : P (.int (if i then 1 else 0))) : CbD K rInt1 [.bl i] P := fun H0 H vs Q s r k => by
  cases r with
  | cons r1 r2 => cases r1; cases r2; exact .inr ⟨i, rfl, k _ _ H0 H p (.refl s) (.int _)⟩
abbrev rLn (K : PySem.W.Frag) : List V → Hp → VK → Prop := fun xs H Q => ∃ x n, xs = [x] ∧ LenV K x H n ∧ Q (.int n) H
theorem cd_lenL {l : List D} (p : P (.int l.length)) : CbD K (rLn K) [.lst l] P := fun H0 H vs Q s r k => by
  cases r with
  | cons r1 r2 =>
    cases r2
    cases r1 with
    | lst ha rs => exact ⟨_, l.length, rfl, .inl ⟨_, .inl (.inl (s _ _ ha)), rs.length.symm⟩, k _ _ H0 H p (.refl s) (.int _)⟩
theorem cd_lenT {l : List D} (p : P (.int l.length)) : CbD K (rLn K) [.tup l] P := fun H0 H vs Q s r k => by
  cases r with
  | cons r1 r2 =>
    cases r2
    cases r1 with
    | tup ha rs => exact ⟨_, l.length, rfl, .inr ⟨_, .inl (.inl (s _ _ ha)), rs.length.symm⟩, k _ _ H0 H p (.refl s) (.int _)⟩
theorem cd_lenS {l : Str} (h : l.length ≤ sizeLine) (p : P (.int l.length)) : CbD K (rLn K) [.str l] P := fun H0 H vs Q s r k => by
  cases r with
  | cons r1 r2 =>
    cases r2
    cases r1
    exact ⟨_, l.length, rfl, ⟨h, rfl⟩, k _ _ H0 H p (.refl s) (.int _)⟩
abbrev rTupleOf (K : PySem.W.Frag) : List V → Hp → VK → Prop := fun xs H Q => ∃ p ys, xs = [.ref p] ∧ ((SqL K H p ys ∧ ∀ l, H l = none → Q (.ref l) (upd H l (.tup ys))) ∨ (SqT K H p ys ∧ Q (.ref p) H))
theorem cd_tupleL {l : List D} (p : P (.tup l)) : CbD K (rTupleOf K) [.lst l] P := fun H0 H vs Q s r k => by
  cases r with
  | cons r1 r2 =>
    cases r2
    cases r1 with
    | lst ha rs =>
      refine ⟨_, _, rfl, .inl ⟨.inl (.inl (s _ _ ha)), fun q nq => ?_⟩⟩
      exact k _ _ _ _ p (.new s nq) (.tup upd_same (rs.mono (Ext.new s nq).s0))
theorem cd_tupleT {l : List D} (p : P (.tup l)) : CbD K (rTupleOf K) [.tup l] P := fun H0 H vs Q s r k => by
  cases r with
  | cons r1 r2 =>
    cases r2
    cases r1 with
    | tup ha rs => exact ⟨_, _, rfl, .inr ⟨.inl (.inl (s _ _ ha)), k _ _ H0 H p (.refl s) (.tup ha rs)⟩⟩
theorem cd_all {l : List Bool} (p : P (.bl (l.all id))) : CbD K (rAll K) [.lst (l.map D.bl)] P := fun H0 H vs Q s r k => by
  cases r with
  | cons r1 r2 =>
    cases r2
    cases r1 with
    | lst ha rs =>
      have e := rs.bls
      subst e
      exact ⟨_, l, rfl, .inl (.inl (s _ _ ha)), k _ _ H0 H p (.refl s) (.bl _)⟩
/-! ### subscripts -/
theorem od_ixL {l : List D} {i : Int} {d : D} (h : atI l i = some d) (p : P d) : OpD K (rIx K) (.lst l) (.int i) P := fun H0 H v u Q s a b k => by
  cases b
  cases a with
  | lst ha rs =>
    rename_i a xs
    obtain ⟨j, h1, h2, _, _, _⟩ := atI_get h
    obtain ⟨x, h3, h4⟩ := rs.get h2
    refine .inl ⟨a, xs, i, x, rfl, rfl, .inl (.inl (s _ _ ha)), ?_, k _ _ H0 H p (.refl s) h4⟩
    unfold atI at h ⊢
    rw [rs.length]
    cases e : ixN l.length i with
    | none => rw [e] at h; cases h
    | some j' =>
      rw [e] at h
      have h' : l[j']? = some d := h
      have hj : j' = j := by
        have := ixN_seq e
        rw [h1] at this
        exact (Option.some.inj this.1).symm
      subst hj
      exact h3
theorem od_ixT {l : List D} {i : Int} {d : D} (h : atI l i = some d) (p : P d) : OpD K (rIx K) (.tup l) (.int i) P := fun H0 H v u Q s a b k => by
  cases b
  cases a with
  | tup ha rs =>
    rename_i a xs
    obtain ⟨j, h1, h2, _, _, _⟩ := atI_get h
    obtain ⟨x, h3, h4⟩ := rs.get h2
    refine .inr (.inl ⟨a, xs, i, x, rfl, rfl, .inl (.inl (s _ _ ha)), ?_, k _ _ H0 H p (.refl s) h4⟩)
    unfold atI at h ⊢
    rw [rs.length]
    cases e : ixN l.length i with
    | none => rw [e] at h; cases h
    | some j' =>
      rw [e] at h
      have h' : l[j']? = some d := h
      have hj : j' = j := by
        have := ixN_seq e
        rw [h1] at this
        exact (Option.some.inj this.1).symm
      subst hj
      exact h3
theorem od_ixS {l : Str} {i : Int} {c : Nat} (hz : l.length ≤ sizeLine) (h : atI l.cps.toList i = some c) (p : P (.str ⟨#[c]⟩)) : OpD K (rIx K) (.str l) (.int i) P := fun H0 H v u Q s a b k => by
  cases b
  cases a
  exact .inr (.inr ⟨l, i, c, rfl, rfl, hz, h, k _ _ H0 H p (.refl s) (.str _)⟩)
end
end DL

set_option maxRecDepth 100000
set_option maxHeartbeats 1000000
namespace DL
open PySem PySem.Spec L2
abbrev rAbs : List V → Hp → VK → Prop := fun xs H Q => ∃ i, xs = [.int i] ∧ Q (.int (if i < 0 then -i else i)) H
abbrev rMax2 : List V → Hp → VK → Prop := fun xs H Q => ∃ i j, xs = [.int i, .int j] ∧ Q (.int (if j > i then j else i)) H
abbrev rMin2 : List V → Hp → VK → Prop := fun xs H Q => ∃ i j, xs = [.int i, .int j] ∧ Q (.int (if j < i then j else i)) H
def tTru (K : PySem.W.Frag) (ta : TE) : TT := fun σ H Q => ta σ H fun x H' => ∃ k, TruV K x H' k ∧ Q k H'
def tRaise0 (C : Addr) (W : WX) : TS := fun _ σ H => (fun (_ : St) (H : Hp) (Q : XK) => Q (.ref C) none H) σ H fun cls d H' => W cls d σ H'
end DL
namespace PySem.W
open PySem PySem.Spec PySem.Calls PyProof.Rows
section
variable {prog : Program} {w : World} {A : Around} {E : Value → Shared → Prop} {s : Shared} {K : Frag} {x D : Addr} {ox : Obj} {od : Option Obj}
end
end PySem.W
namespace DL
open PySem PySem.Spec L2
section
variable {K : PySem.W.Frag} {W : WX} {te ta tb tc tl : TE} {tt tu : TT} {ts tr : TS} {tas : TA} {to : TO} {ρ : Rho} {P : D → Prop} {PB : Bool → Prop} {PS : Sl → Prop} {PA : List D → Prop} {X : Exn → Prop} {E : En} {r r' : R2} {g : TG} {u : TGs}
theorem ws_raise {C : Addr} (h : E.ex ⟨C, none⟩ ρ) : WS K W (tRaise0 C W) ρ E := ws_raise0 h
/-- truth -/
inductive TruD : D → Bool → Prop
  | non : TruD .non false
  | bl (b : Bool) : TruD (.bl b) b
  | int (i : Int) : TruD (.int i) (i != 0)
  | str (x : Str) (h : x.length ≤ sizeLine) : TruD (.str x) ((x.length : Int) != 0)
  | lst (l : List D) : TruD (.lst l) (!l.isEmpty)
  | tup (l : List D) : TruD (.tup l) (!l.isEmpty)
theorem isEmpty_len {α β : Type} : ∀ {l : List α} {m : List β}, l.length = m.length → l.isEmpty = m.isEmpty
  | [], [], _ => rfl
  | _ :: _, _ :: _, _ => rfl
  | [], _ :: _, h => by cases h
  | _ :: _, [], h => by cases h
theorem bv_tru (h : EvP K W ta ρ (fun d => ∃ b, TruD d b ∧ PB b) X) : BvP K W (tTru K ta) ρ PB X := fun He0 He σ H0 H Q S x k => by
  refine h He0 He σ H0 H _ S x fun v d H1 H1' p S1 e1 r1 => ?_
  obtain ⟨b, t, p⟩ := p
  refine ⟨b, ?_, k b H1 H1' p S1 e1⟩
  cases t with
  | non => cases r1; rfl
  | bl b => cases r1; rfl
  | int i => cases r1; rfl
  | str y hy => cases r1; exact ⟨hy, rfl⟩
  | lst l =>
    cases r1 with
    | lst ha rs => exact .inl ⟨_, .inl (.inl (S1.sub _ _ ha)), by rw [isEmpty_len rs.length]⟩
  | tup l =>
    cases r1 with
    | tup ha rs => exact .inr (.inl ⟨_, .inl (.inl (S1.sub _ _ ha)), by rw [isEmpty_len rs.length]⟩)
/-! ### slices -/
def OvP (K : PySem.W.Frag) (W : WX) (to : TO) (ρ : Rho) (P : Option Int → Prop) (X : Exn → Prop) : Prop :=
  ∀ (He0 He : Hp) (σ : St) (H0 H : Hp) (Q : Option Int → Hp → Prop), StOk K He0 He σ H0 H ρ → Exs K He0 He W σ ρ X →
    (∀ b H0' H', P b → StOk K He0 He σ H0' H' ρ → Ext H0 H H0' H' → Q b H') → to σ H Q
variable {tlo thi : TO} {PO : Option Int → Prop}
theorem ov_none (p : PO none) : OvP K W tNoPart ρ PO X := fun He0 He σ H0 H Q S x k => k none H0 H p S (.refl S.sub)
theorem ov_some (h : EvP K W te ρ (fun d => ∃ i, d = .int i ∧ PO (some i)) X) : OvP K W (tPart te) ρ PO X := fun He0 He σ H0 H Q S x k => by
  refine h He0 He σ H0 H _ S x fun v d H1 H1' p S1 e1 r1 => ?_
  obtain ⟨i, rfl, p⟩ := p
  cases r1
  exact ⟨i, rfl, k _ H1 H1' p S1 e1⟩
def cutD (xs : List D) (lo hi : Option Int) : List D := (xs.drop (HT.sIx xs.length 0 lo)).take (HT.sIx xs.length xs.length hi - HT.sIx xs.length 0 lo)
theorem Rps.cut {H : Hp} {vs : List V} {ds : List D} (r : Rps K H vs ds) (lo hi : Option Int) : Rps K H (cutV vs lo hi) (cutD ds lo hi) := by
  unfold cutV cutD
  rw [r.length]
  exact (r.drop _).take _
/-- what a slice of x is asked for -/
def SlD (K : PySem.W.Frag) (r : V → Option Int → Option Int → Hp → VK → Prop) (x : D) (lo hi : Option Int) (P : D → Prop) : Prop :=
  ∀ (H0 H : Hp) (v : V) (Q : VK), Same H0 H → Rp K H0 v x → (∀ z d H0' H', P d → Ext H0 H H0' H' → Rp K H0' z d → Q z H') → r v lo hi H Q
theorem ev_sl {rs : V → Option Int → Option Int → Hp → VK → Prop} (h : EvP K W te ρ (fun d => OvP K W tlo ρ (fun lo => OvP K W thi ρ (fun hi => SlD K rs d lo hi P) X) X) X) : EvP K W (tSl rs te tlo thi) ρ P X := fun He0 He σ H0 H Q S x k => by
  refine h He0 He σ H0 H _ S x fun v d H1 H1' p S1 e1 r1 => ?_
  refine p He0 He σ H1 H1' _ S1 x fun lo H2 H2' p2 S2 e2 => ?_
  refine p2 He0 He σ H2 H2' _ S2 x fun hi H3 H3' p3 S3 e3 => ?_
  exact p3 H3 H3' v Q S3.sub (r1.mono (e2.trans e3).s0) fun z d H4 H4' p4 e4 r4 => k z d H4 H4' p4 (S3.ext e4) (e1.trans (e2.trans (e3.trans e4))) r4
theorem sd_lst {l : List D} {lo hi : Option Int} (p : P (.lst (cutD l lo hi))) : SlD K (rSlL K) (.lst l) lo hi P := fun H0 H v Q s a k => by
  cases a with
  | lst ha ra =>
    refine ⟨_, _, rfl, .inl (.inl (s _ _ ha)), fun q nq => ?_⟩
    exact k _ _ _ _ p (.new s nq) (.lst upd_same ((ra.mono (Ext.new s nq).s0).cut lo hi))
theorem sd_src {l : List Int} {lo hi : Option Int} (p : P (.lst (cutD (l.map D.int) lo hi))) : SlD K (rSlL K) (.src l) lo hi P := fun H0 H v Q s a k => by
  cases a with
  | src ha =>
    refine ⟨_, _, rfl, s.seq ha, fun q nq => ?_⟩
    exact k _ _ _ _ p (.new s nq) (.lst upd_same ((Rps.of_ints l).cut lo hi))
theorem cutD_take (xs : List D) (n : Nat) : cutD xs none (some (n : Int)) = xs.take n := by
  unfold cutD
  rw [HT.sIx_none, HT.sIx_nat, List.drop_zero, Nat.sub_zero]
  by_cases h : n ≤ xs.length
  · rw [Nat.min_eq_left h]
  · rw [Nat.min_eq_right (by omega), List.take_of_length_le (Nat.le_refl _), List.take_of_length_le (by omega)]
/-! ### in -/
end
/-! ### the end -/
theorem walkD {l : PySem.W.OpenLaw} {k : Nat} {x : Str} {q : Program} {loose : List Str} {XP : (Str → Option Value) → Heap → Prop} {YP : World → Heap → Prop} {d : DefRec} {K : Params → PySem.W.Frag} (hn : l.most = some 63) (hdf : d.params.defaults = []) (hr : Room k callerA)
    (hY : ∀ (w : World) (h : Heap), YP w h → (K w.params).In h)
    (F : ∀ (w : World) (mg : Str → Option Value) (fa : Addr) (h : Heap), (K w.params).In h → h.Ns mainGlobals mg → mg d.name = some (.ref fa) →
      ∃ fd : FuncData, (∀ (s : Shared) (u : Value), BindsTo s fd ⟨[u], []⟩ [(x, u)]) ∧ ∀ base : Heap, (K w.params).In base → base.Ns mainGlobals mg →
        FnOk l.prog w (K w.params) mg base (L2.CX l.prog w) k fa fd [x] (spD (K w.params) (fun ds => ∃ ns : List Int, ds = [.src ns] ∧ ns.length ≤ 63) (fun _ s => s = .dat (.bl true)) (fun _ _ => False))) :
    PySem.W.WalkO q loose XP YP l.row.toRowW d [] (fun f vs => PySem.call f vs) :=
  L2.walk_of (n := 63) (k := k) (x := x) (CX := fun w => L2.CX l.prog w) (sp := fun w => spD (K w.params) (fun ds => ∃ ns : List Int, ds = [.src ns] ∧ ns.length ≤ 63) (fun _ s => s = .dat (.bl true)) (fun _ _ => False)) hn (by decide) hdf hr hY F
    (fun w H a ns hl _ hS => ⟨[.src ns], H, .refl H, .cons (.src hS) .nil, ⟨ns, rfl, hl⟩, fun v s H0' H' e _ r _ => by subst e; cases r; rfl, fun _ _ _ _ _ z => z.elim⟩)
    fun w H s e s' ⟨_, _, _, _, _, _, _, _, _, _, _, _, z⟩ => z
end DL

set_option maxRecDepth 100000
set_option maxHeartbeats 1000000
namespace DL
open PySem PySem.Spec L2
section
variable {K : PySem.W.Frag} {W : WX} {te ta tb tc tl : TE} {tt tu : TT} {ts tr : TS} {tas : TA} {to : TO} {ρ : Rho} {P : D → Prop} {PB : Bool → Prop} {PS : Sl → Prop} {PA : List D → Prop} {X : Exn → Prop} {E : En} {r r' : R2} {g : TG} {u : TGs}
theorem od_divB {i j : Int} (h0 : 0 < j) (hj : j < 2 ^ 400) (p : P (.int (i / j))) : OpD K rDivA (.int i) (.int j) P := od_divI h0 (.inr (wide_div (i := i) h0 (b := 400) (by omega) (by decide) (by decide)).2) p
/-- len of one's own list -/
theorem ev_lenO {i : Nat} {ds : List D} (h : ρ[i]? = some (.own ds)) (p : P (.int ds.length)) : EvP K W (tCB (rLn K) (tCons (tVar i) tNil)) ρ P X := fun He0 He σ H0 H Q S x k => by
  obtain ⟨v, h1, h2, _⟩ := S.sl i _ h (by intro z; cases z)
  obtain ⟨a, rfl, n0, xs, ha, rs⟩ := h2
  exact ⟨.ref a, h1, .ref a, ds.length, rfl, .inl ⟨xs, .inl (.inl ha), rs.length.symm⟩, k _ _ H0 H p S (.refl S.sub) (.int _)⟩
/-- an item of one's own list -/
theorem ev_ixO {i : Nat} {ds : List D} (h : ρ[i]? = some (.own ds)) (w : EvP K W tb ρ (fun y => ∃ j d, y = .int j ∧ atI ds j = some d ∧ P d) X) : EvP K W (tOp (rIx K) (tVar i) tb) ρ P X := fun He0 He σ H0 H Q S x k => by
  obtain ⟨v, h1, h2, _⟩ := S.sl i _ h (by intro z; cases z)
  obtain ⟨a, rfl, n0, xs, ha, rs⟩ := h2
  refine ⟨.ref a, h1, w He0 He σ H0 H _ S x fun u y H1 H1' p S1 e1 r1 => ?_⟩
  obtain ⟨j, d, rfl, hd, p⟩ := p
  cases r1
  obtain ⟨n, q1, q2, _, _, _⟩ := atI_get hd
  obtain ⟨z, q3, q4⟩ := rs.get q2
  refine .inl ⟨a, xs, j, z, rfl, rfl, .inl (.inl (e1.s _ _ ha)), ?_, k z d H1 H1' p S1 e1 (q4.mono e1.s0)⟩
  unfold atI at hd ⊢
  rw [rs.length]
  cases e : ixN ds.length j with
  | none => rw [e] at hd; cases hd
  | some j' =>
    have := ixN_seq e
    rw [q1] at this
    have hj : n = j' := Option.some.inj this.1
    subst hj
    exact q3
theorem small_sz {n : Nat} (h : n ≤ 1000000) : n ≤ sizeLine := Nat.le_trans h (by decide)
theorem small_lt {n : Nat} (h : n ≤ 1000000) : n < sizeLine := Nat.lt_of_le_of_lt h (by decide)
end
/-! ### numbers drawn from the script -/
def Nums (l : List Int) (m : Nat) : Prop := l.length = m ∧ ∀ x ∈ l, 0 ≤ x ∧ x < 1009
theorem Nums.get {l : List Int} {m : Nat} (h : Nums l m) {i : Nat} (hi : i < m) : ∃ x, l[i]? = some x ∧ 0 ≤ x ∧ x < 1009 := by
  have hl : i < l.length := by rw [h.1]; exact hi
  exact ⟨l[i], List.getElem?_eq_getElem hl, h.2 _ (List.getElem_mem hl)⟩
theorem Nums.at_ {l : List Int} {m : Nat} (h : Nums l m) {i : Int} (h0 : 0 ≤ i) (hi : i < m) : ∃ x, atI (l.map D.int) i = some (.int x) ∧ 0 ≤ x ∧ x < 1009 := by
  obtain ⟨n, rfl⟩ : ∃ n : Nat, i = n := ⟨i.toNat, by omega⟩
  obtain ⟨x, h1, h2⟩ := h.get (i := n) (by omega)
  exact ⟨x, atI_nat (by rw [List.getElem?_map, h1] <;> rfl), h2⟩
theorem Nums.snoc {l : List Int} {m : Nat} {x : Int} (h : Nums l m) (h0 : 0 ≤ x) (h1 : x < 1009) : Nums (l ++ [x]) (m + 1) := ⟨by rw [List.length_append, h.1]; rfl, fun y hy => by
  rcases List.mem_append.mp hy with z | z
  · exact h.2 y z
  · rw [List.mem_singleton] at z; subst z; exact ⟨h0, h1⟩⟩
theorem Nums.take {l : List Int} {m k : Nat} (h : Nums l m) (hk : k ≤ m) : Nums (l.take k) k := ⟨by rw [List.length_take, h.1]; omega, fun y hy => h.2 y (List.mem_of_mem_take hy)⟩
end DL

set_option maxRecDepth 100000
set_option maxHeartbeats 1000000
namespace DL
open PySem PySem.Spec L2
/-! ### dicts by keys and values -/
section
variable {κ : Type} [DecidableEq κ]
def vget : List κ → List D → κ → Option D
  | k' :: ks, d :: vs, k => if k' = k then some d else vget ks vs k
  | _, _, _ => none
def kput (ks : List κ) (k : κ) : List κ := if k ∈ ks then ks else ks ++ [k]
def vrep : List κ → List D → κ → D → List D
  | k' :: ks, d :: vs, k, v => (if k' = k then v else d) :: vrep ks vs k v
  | _, _, _, _ => []
def vput (ks : List κ) (vs : List D) (k : κ) (v : D) : List D := if k ∈ ks then vrep ks vs k v else vs ++ [v]
theorem vget_mem : ∀ {ks : List κ} {vs : List D} {k : κ}, ks.length = vs.length → ((vget ks vs k).isSome = true ↔ k ∈ ks)
  | [], _, k, _ => by simp [vget]
  | k' :: ks, [], k, h => by simp at h
  | k' :: ks, d :: vs, k, h => by
    unfold vget
    by_cases e : k' = k
    · rw [if_pos e]; simp [e]
    · rw [if_neg e, vget_mem (by simpa using h)]
      simp only [List.mem_cons]
      exact ⟨.inr, fun z => z.elim (fun q => absurd q.symm e) id⟩
def kmem (ks : List κ) (k : κ) : Bool := decide (k ∈ ks)
end
/-- a key as data -/
def kD : Key → D
  | .inl i => .int i
  | .inr x => .str x
def tD (k : List Key) : D := .tup (k.map kD)
theorem Rp.kD {K : PySem.W.Frag} {H : Hp} {k : Key} {v : V} (r : Rp K H v (DL.kD k)) : v = kV k := by
  cases k with
  | inl i => cases r; rfl
  | inr i => cases r; rfl
/-- a dict as data -/
inductive IsDT : D → List (List Key) → List D → Prop
  | d {ks vs} : IsDT (.dT ks vs) ks vs
  | f {ks vs} : IsDT (.fT ks vs) ks vs
inductive IsDK : D → List Key → List D → Prop
  | d {ks vs} : IsDK (.dK ks vs) ks vs
  | f {ks vs} : IsDK (.fK ks vs) ks vs
section
variable {K : PySem.W.Frag} {W : WX} {te ta tb tc tl td ty tx tv : TE} {tt tu : TT} {ts tr : TS} {tas : TA} {ρ : Rho} {P : D → Prop} {PB : Bool → Prop} {PS : Sl → Prop} {PA PL : List D → Prop} {X : Exn → Prop} {E : En} {r r' : R2} {g : TG} {u : TGs}
theorem IsDT.at_ {H0 : Hp} {v : V} {d : D} {ks vs} (t : IsDT d ks vs) (h : Rp K H0 v d) : ∃ a kvs, v = .ref a ∧ Rd H0 a (.dT kvs) ∧ kvs.map (·.1) = ks ∧ Rps K H0 (kvs.map (·.2)) vs := by
  cases t with
  | d => cases h with | dT ha rs => exact ⟨_, _, rfl, ha, rfl, rs⟩
  | f => cases h with | fT ha rs => exact ⟨_, _, rfl, .inr ⟨_, ha⟩, rfl, rs⟩
theorem IsDK.at_ {H0 : Hp} {v : V} {d : D} {ks vs} (t : IsDK d ks vs) (h : Rp K H0 v d) : ∃ a kvs, v = .ref a ∧ Rd H0 a (.dK kvs) ∧ kvs.map (·.1) = ks ∧ Rps K H0 (kvs.map (·.2)) vs := by
  cases t with
  | d => cases h with | dK ha rs => exact ⟨_, _, rfl, ha, rfl, rs⟩
  | f => cases h with | fK ha rs => exact ⟨_, _, rfl, .inr ⟨_, ha⟩, rfl, rs⟩
/-! ### a slot with a dict, still or one's own -/
def DictT (ρ : Rho) (i : Nat) (ks : List (List Key)) (vs : List D) : Prop := ρ[i]? = some (.oT ks vs) ∨ ∃ d, ρ[i]? = some (.dat d) ∧ IsDT d ks vs
def DictK (ρ : Rho) (i : Nat) (ks : List Key) (vs : List D) : Prop := ρ[i]? = some (.oK ks vs) ∨ ∃ d, ρ[i]? = some (.dat d) ∧ IsDK d ks vs
theorem DictT.at_ {He0 He : Hp} {σ : St} {H0 H : Hp} (S : StOk K He0 He σ H0 H ρ) {i : Nat} {ks : List (List Key)} {vs} (h : DictT ρ i ks vs) : ∃ a, σ[i]? = some (some (.ref a)) ∧ ∃ kvs, Rd H a (.dT kvs) ∧ kvs.map (·.1) = ks ∧ Rps K H0 (kvs.map (·.2)) vs := by
  rcases h with h | ⟨d, h, t⟩
  · obtain ⟨v, h1, h2, h3⟩ := S.sl i _ h (by intro z; cases z)
    obtain ⟨a, rfl, n0, kvs, ha, e, rs⟩ := h2
    exact ⟨a, h1, kvs, .inl ha, e, rs⟩
  · obtain ⟨v, h1, h2⟩ := S.dat h
    obtain ⟨a, kvs, rfl, ha, e, rs⟩ := t.at_ h2
    exact ⟨a, h1, kvs, Rd.mono S.sub ha, e, rs⟩
theorem DictK.at_ {He0 He : Hp} {σ : St} {H0 H : Hp} (S : StOk K He0 He σ H0 H ρ) {i : Nat} {ks : List Key} {vs} (h : DictK ρ i ks vs) : ∃ a, σ[i]? = some (some (.ref a)) ∧ ∃ kvs, Rd H a (.dK kvs) ∧ kvs.map (·.1) = ks ∧ Rps K H0 (kvs.map (·.2)) vs := by
  rcases h with h | ⟨d, h, t⟩
  · obtain ⟨v, h1, h2, h3⟩ := S.sl i _ h (by intro z; cases z)
    obtain ⟨a, rfl, n0, kvs, ha, e, rs⟩ := h2
    exact ⟨a, h1, kvs, .inl ha, e, rs⟩
  · obtain ⟨v, h1, h2⟩ := S.dat h
    obtain ⟨a, kvs, rfl, ha, e, rs⟩ := t.at_ h2
    exact ⟨a, h1, kvs, Rd.mono S.sub ha, e, rs⟩
/-! ### a dict of one's own, locked for good -/
end
end DL

set_option maxRecDepth 100000
set_option maxHeartbeats 1000000
/-! walks of all kinds by the data they yield -/
namespace L2
open PySem PySem.Spec PyProof.Rows
section
variable {X : Cx} {pins : List (Addr × Obj)} {σ : St} {H : Hp} {s : Shared} {d : Addr} {o : Obj}
end
section
variable {P : Program} {w : World} {K : PySem.W.Frag} {tg : Expr} {d : Addr} {o : Obj} {es : Array DictEntry} {ep : Nat}
end
section
variable {X : Cx} {tg e : Expr} {td : TE} {apos cpos : Pos}
end
end L2
namespace DL
open PySem PySem.Spec L2
section
variable {K : PySem.W.Frag} {W : WX} {te ta tb tc tl td ty tx tv : TE} {tt tu : TT} {ts tr : TS} {tas : TA} {ti : TI} {ρ : Rho} {P : D → Prop} {PB : Bool → Prop} {PS : Sl → Prop} {PA PL : List D → Prop} {X : Exn → Prop} {E : En} {r r' : R2} {g : TG} {u : TGs}
theorem DictT.own {i : Nat} {ks : List (List Key)} {vs : List D} (h : ρ[i]? = some (.oT ks vs)) : DictT ρ i ks vs := .inl h
theorem DictT.still {i : Nat} {ks : List (List Key)} {vs : List D} (h : ρ[i]? = some (.dat (.dT ks vs))) : DictT ρ i ks vs := .inr ⟨_, h, .d⟩
theorem DictK.own {i : Nat} {ks : List Key} {vs : List D} (h : ρ[i]? = some (.oK ks vs)) : DictK ρ i ks vs := .inl h
theorem DictK.still {i : Nat} {ks : List Key} {vs : List D} (h : ρ[i]? = some (.dat (.dK ks vs))) : DictK ρ i ks vs := .inr ⟨_, h, .d⟩
theorem bv_yes (p : PB true) : BvP K W tYes ρ PB X := fun He0 He σ H0 H Q S x k => k true H0 H p S (.refl S.sub)
/-- a walk yields xs -/
structure ItD (K : PySem.W.Frag) (G0 : Hp) (J : It) (xs : List D) : Prop where
  go : ∀ i H, i < xs.length → Same G0 H → J.go i H
  stop : ∀ H, Same G0 H → J.stop xs.length H
  yld : ∀ i H x H' G, i < xs.length → Same G0 G → Same G H → J.yld i H x H' → ∃ G' d, Ext G H G' H' ∧ xs[i]? = some d ∧ Rp K G' x d
def IvP (K : PySem.W.Frag) (W : WX) (ti : TI) (ρ : Rho) (P : List D → Prop) (X : Exn → Prop) : Prop :=
  ∀ (He0 He : Hp) (σ : St) (H0 H : Hp) (R : It → Hp → Prop), StOk K He0 He σ H0 H ρ → Exs K He0 He W σ ρ X →
    (∀ J xs H0' H', P xs → StOk K He0 He σ H0' H' ρ → Ext H0 H H0' H' → ItD K H0' J xs → R J H') → ti σ H R
theorem ws_forD {tb : TS} (h : IvP K W ti ρ (fun xs => ∃ I : Nat → Rho → Prop, I 0 ρ ∧ (∀ i x ρ', xs[i]? = some x → I i ρ' → Turn1 K W g tb E x ρ' (I (i + 1))) ∧ ∀ ρ', I xs.length ρ' → E.nx ρ') (fun x => E.ex x ρ)) :
    WS K W (tFor ti g tb) ρ E := fun He0 He σ H0 H D S e => by
  refine h He0 He σ H0 H _ S (e.exs σ ρ) fun J xs H1 H1' p S1 e1 itd => ?_
  obtain ⟨I, i0, turn, fin⟩ := p
  refine ⟨fun i m σ H => m = xs.length - i ∧ i ≤ xs.length ∧ ∃ ρ' G, I i ρ' ∧ StOk K H1 He σ G H ρ', ⟨_, rfl, Nat.zero_le _, ρ, H1, i0, S1.base S1.e.s0 (.refl _)⟩, ?_⟩
  rintro i m σ' H' ⟨rfl, hi, ρ', G, hI, S'⟩
  by_cases hlt : i < xs.length
  · refine .inr ⟨itd.go i H' hlt (S'.e.s0.trans S'.e.sub), fun σ H => ∃ ρ' G, I (i + 1) ρ' ∧ StOk K H1 He σ G H ρ', fun σ2 H2 q => ⟨xs.length - (i + 1), by omega, rfl, by omega, q⟩, fun x H2 hy => ?_⟩
    obtain ⟨G', d, e2, hd, rx⟩ := itd.yld i H' x H2 G hlt S'.e.s0 S'.e.sub hy
    exact turn i d ρ' hd hI H1 He σ' G' H2 x _ (S'.ext e2) rx fun ρ'' σ'' w S'' => w H1 He σ'' G' H2 _ S'' (e.loop S1.e fun ρ3 σ3 G3 H3 q3 S3 => ⟨ρ3, G3, q3, S3⟩)
  · obtain rfl : i = xs.length := by omega
    exact .inl ⟨itd.stop H' (S'.e.s0.trans S'.e.sub), e.nx ρ' σ' G H' (fin ρ' hI) (S'.unbase S1.e)⟩
theorem eo_lcD {vs : List Nat} (gi : GIn g vs) (h : IvP K W ti ρ (fun xs => ∃ J : Nat → List D → Prop, J 0 [] ∧ (∀ i x acc, xs[i]? = some x → J i acc → Turn2 K g tt te x (wipeR ρ vs) acc (J (i + 1))) ∧ ∀ acc, J xs.length acc → PS (.own acc)) X) :
    EvO K W (tLc ti g tt te vs) ρ PS X := fun He0 He σ H0 H Q S x k => by
  refine h He0 He σ H0 H _ S x fun It xs H1 H1' p S1 e1 itd L nL => ?_
  obtain ⟨J, j0, turn, fin⟩ := p
  obtain ⟨c0, ap⟩ := CompAt.start (vs := vs) S1 nL
  refine ⟨fun i m H => m = xs.length - i ∧ i ≤ xs.length ∧ ∃ acc G, J i acc ∧ CompAt K He0 He (L2.wipe σ vs) (wipeR ρ vs) H1 H1' L acc G H, ⟨_, rfl, Nat.zero_le _, [], H1, j0, c0⟩, ?_⟩
  rintro i m H ⟨rfl, hi, acc, G, hj, C⟩
  by_cases hlt : i < xs.length
  · refine .inr ⟨itd.go i H hlt (C.e.s0.trans C.e.sub), fun H => ∃ acc G, J (i + 1) acc ∧ CompAt K He0 He (L2.wipe σ vs) (wipeR ρ vs) H1 H1' L acc G H, fun H2 q => ⟨xs.length - (i + 1), by omega, rfl, by omega, q⟩, fun x H2 hy => ?_⟩
    obtain ⟨G', d, e2, hd, rx⟩ := itd.yld i H x H2 G hlt C.e.s0 C.e.sub hy
    have C2 : CompAt K He0 He (L2.wipe σ vs) (wipeR ρ vs) H1 H1' L acc G' H2 := by
      obtain ⟨ys, hL, rs⟩ := C.at_
      exact ⟨C.S.ext e2, C.e.trans e2, ⟨ys, e2.s _ _ hL, rs.mono e2.s0⟩, e2.none C.n0 hL⟩
    exact lc_turn gi nL S1.e.s ap C2 rx (turn i d acc hd hj) fun acc' G' H' j' C' => ⟨acc', G', j', C'⟩
  · obtain rfl : i = xs.length := by omega
    refine .inl ⟨itd.stop H (C.e.s0.trans C.e.sub), ?_⟩
    obtain ⟨f1, f2, f3⟩ := C.finO S1 nL
    exact k _ _ G H (fin acc hj) f1 (e1.trans f2) f3 fun _ a e => by cases e; exact e1.s.free nL
/-! ### the walks -/
theorem itd_list {H0 : Hp} {a : Addr} {xs : List V} {ds : List D} (ha : H0 a = some (.lst xs)) (rs : Rps K H0 xs ds) : ItD K H0 (Itl K a) ds where
  go := fun i H hi s => ⟨xs, xs[i]'(by rw [rs.length]; exact hi), .inl (.inl (s _ _ ha)), List.getElem?_eq_getElem _⟩
  stop := fun H s => ⟨xs, .inl (.inl (s _ _ ha)), by rw [rs.length]; exact Nat.le_refl _⟩
  yld := fun i H x H' G hi s s' hy => by
    obtain ⟨rfl, hy⟩ := hy
    have hx := hy xs (.inl (.inl (s' _ _ (s _ _ ha))))
    obtain ⟨d, hd, rx⟩ := rs.get' hx
    exact ⟨G, d, .refl s', hd, rx.mono s⟩
theorem itd_tup {H0 : Hp} {a : Addr} {xs : List V} {ds : List D} (ha : H0 a = some (.tup xs)) (rs : Rps K H0 xs ds) : ItD K H0 (Itt K a) ds where
  go := fun i H hi s => ⟨xs, xs[i]'(by rw [rs.length]; exact hi), .inl (.inl (s _ _ ha)), List.getElem?_eq_getElem _⟩
  stop := fun H s => ⟨xs, .inl (.inl (s _ _ ha)), by rw [rs.length]; exact Nat.le_refl _⟩
  yld := fun i H x H' G hi s s' hy => by
    obtain ⟨rfl, hy⟩ := hy
    have hx := hy xs (.inl (.inl (s' _ _ (s _ _ ha))))
    obtain ⟨d, hd, rx⟩ := rs.get' hx
    exact ⟨G, d, .refl s', hd, rx.mono s⟩
def enumD (ds : List D) : List D := (List.range ds.length).zipWith (fun i d => .tup [.int ((i : Nat) : Int), d]) ds
end
end DL

set_option maxRecDepth 100000
set_option maxHeartbeats 1000000
namespace DL
open PySem PySem.Spec L2
theorem atI_nn {α : Type} {xs : List α} {i : Int} {n : Nat} {x : α} (e : i = n) (h : xs[n]? = some x) : atI xs i = some x := by
  subst e
  exact atI_nat h
/-! ### integers, ascending -/
def srt (l : List Int) : List Int := l.mergeSort fun a b => decide (a ≤ b)
theorem srt_perm (l : List Int) : (srt l).Perm l := List.mergeSort_perm _ _
theorem srt_up (l : List Int) : (srt l).Pairwise (· ≤ ·) := by
  have := List.pairwise_mergeSort (le := fun a b : Int => decide (a ≤ b)) (fun a b c h1 h2 => by simp only [decide_eq_true_eq] at *; omega) (fun a b => by simp only [Bool.or_eq_true, decide_eq_true_eq]; omega) l
  exact this.imp fun h => of_decide_eq_true h
theorem srt_is {l l' : List Int} (hp : l'.Perm l) (hw : l'.Pairwise (· ≤ ·)) : l' = srt l :=
  List.Perm.eq_of_pairwise (fun _ _ _ _ a b => Int.le_antisymm a b) hw (srt_up l) (hp.trans (srt_perm l).symm)
theorem srt_mem {l : List Int} {x : Int} : x ∈ srt l ↔ x ∈ l := (srt_perm l).mem_iff
section
variable {K : PySem.W.Frag} {W : WX} {P : D → Prop}
end
end DL

set_option maxRecDepth 100000
set_option maxHeartbeats 1000000
namespace L2
open PySem PySem.Spec PyProof.Rows
section
variable {X : Cx} {a b c d : Expr} {ta tb tc td : TE} {pos : Pos}
end
end L2
namespace DL
open PySem PySem.Spec L2
section
variable {K : PySem.W.Frag} {W : WX} {te ta tb tc tl td ty tx tv : TE} {tt tu : TT} {ts tr : TS} {tas : TA} {ti : TI} {ρ : Rho} {P : D → Prop} {PB : Bool → Prop} {PS : Sl → Prop} {PA PL : List D → Prop} {X : Exn → Prop} {E : En} {r r' : R2} {g : TG} {u : TGs}
/-! ### tuples joined and cut -/
theorem od_addT {i j : List D} (hz : i.length + j.length ≤ sizeLine) (p : P (.tup (i ++ j))) : OpD K (rAdd K) (.tup i) (.tup j) P := fun H0 H v u Q s a b k => by
  cases a with
  | @tup a1 x1 _ ha ra =>
    cases b with
    | @tup a2 x2 _ hb rb =>
      refine .inr ⟨a1, a2, x1, x2, rfl, rfl, .inl (.inl (s _ _ ha)), .inl (.inl (s _ _ hb)), by rw [ra.length, rb.length]; exact hz, fun e => ?_, fun e e2 => ?_, fun e e2 q nq => ?_⟩
      · subst e
        cases ra
        exact k _ _ H0 H p (.refl s) (.tup hb rb)
      · subst e2
        cases rb
        rw [List.append_nil] at p
        exact k _ _ H0 H p (.refl s) (.tup ha ra)
      · exact k _ _ _ _ p (.new s nq) (.tup upd_same ((ra.mono (Ext.new s nq).s0).append (rb.mono (Ext.new s nq).s0)))
theorem cutV_whole {xs : List V} {lo hi : Option Int} (h : HT.sIx xs.length 0 lo = 0 ∧ HT.sIx xs.length xs.length hi = xs.length) : cutV xs lo hi = xs := by
  unfold cutV
  rw [h.1, h.2, List.drop_zero, Nat.sub_zero, List.take_of_length_le (Nat.le_refl _)]
theorem sd_tup {l : List D} {lo hi : Option Int} (p : P (.tup (cutD l lo hi))) : SlD K (rSlA K) (.tup l) lo hi P := fun H0 H v Q s a k => by
  cases a with
  | @tup a1 x1 _ ha ra =>
    refine ⟨a1, x1, rfl, .inl (.inl (s _ _ ha)), fun w => ?_, fun w q nq => ?_⟩
    · have r2 := ra.cut lo hi
      rw [cutV_whole w] at r2
      exact k _ _ H0 H p (.refl s) (.tup ha r2)
    · exact k _ _ _ _ p (.new s nq) (.tup upd_same ((ra.mono (Ext.new s nq).s0).cut lo hi))
/-! ### stores into a list of one's own; a, b = .. with such targets -/
variable {PR : Rho → Prop} {d : D} {ds : List D}
/-! ### insert, pop -/
theorem Rps.erase {H : Hp} : ∀ {ds : List D} {vs : List V} (i : Nat), Rps K H vs ds → Rps K H (vs.eraseIdx i) (ds.eraseIdx i)
  | [], _, _, .nil => .nil
  | _ :: _, _, 0, .cons _ t => t
  | _ :: _, _, i + 1, .cons r t => .cons r (Rps.erase i t)
/-! ### list(x), list(range(..)) -/
/-! ### isinstance -/
inductive TyD : D → String → Prop
  | non : TyD .non "NoneType" | bl (b : Bool) : TyD (.bl b) "bool" | int (i : Int) : TyD (.int i) "int" | str (x : Str) : TyD (.str x) "str" | lst (l : List D) : TyD (.lst l) "list" | tup (l : List D) : TyD (.tup l) "tuple"
/-! ### tuples of ints, ascending -/
def tI (l : List Int) : D := .tup (l.map D.int)
def lI (l : List Int) : D := .lst (l.map D.int)
end
end DL

set_option maxRecDepth 100000
set_option maxHeartbeats 4000000
namespace DL
open PySem PySem.Spec L2 PyProof.Rows PySem.Calls
/-! ### an exception class whose __init__ says: super().__init__(text); self.f = x -/
section
variable {prog : Program} {w : World} {A : Around} {E : Value → Shared → Prop}
open PySem.W in
end
open NdefX in
open NdefX in
open NdefX in
section
open NdefX
variable {X : Cx} {ta : TA} {e : Expr} {es : List Expr} {p pos : Pos}
end
section
variable {K : PySem.W.Frag} {W : WX} {te ta tb tc tl : TE} {tt tu : TT} {ts tr : TS} {tas : TA} {ρ : Rho} {P : D → Prop} {X : Exn → Prop} {E : En}
end
end DL

set_option maxRecDepth 100000
set_option maxHeartbeats 1000000
namespace DL
open PySem PySem.Spec L2
inductive All2 {α β : Type} (R : α → β → Prop) : List α → List β → Prop
  | nil : All2 R [] []
  | cons {a : α} {b : β} {as : List α} {bs : List β} : R a b → All2 R as bs → All2 R (a :: as) (b :: bs)
theorem All2.length {α β : Type} {R : α → β → Prop} {as : List α} {bs : List β} (h : All2 R as bs) : as.length = bs.length := by
  induction h with
  | nil => rfl
  | cons _ _ ih => rw [List.length_cons, List.length_cons, ih]
theorem All2.snoc {α β : Type} {R : α → β → Prop} {as : List α} {bs : List β} {a : α} {b : β} (h : All2 R as bs) (r : R a b) : All2 R (as ++ [a]) (bs ++ [b]) := by
  induction h with
  | nil => exact .cons r .nil
  | cons h _ ih => exact .cons h ih
theorem All2.imp {α β : Type} {R R' : α → β → Prop} {as : List α} {bs : List β} (h : All2 R as bs) (f : ∀ a b, R a b → R' a b) : All2 R' as bs := by
  induction h with
  | nil => exact .nil
  | cons h _ ih => exact .cons (f _ _ h) ih
theorem All2.get {α β : Type} {R : α → β → Prop} {as : List α} {bs : List β} (h : All2 R as bs) : ∀ {i : Nat} {a : α}, as[i]? = some a → ∃ b, bs[i]? = some b ∧ R a b := by
  induction h with
  | nil => intro i a e; simp at e
  | cons h _ ih =>
    intro i a e
    cases i with
    | zero => simp at e; subst e; exact ⟨_, by simp, h⟩
    | succ i =>
      obtain ⟨b, e1, e2⟩ := ih (i := i) (by simpa using e)
      exact ⟨b, by simpa using e1, e2⟩
theorem All2.mem {α β : Type} {R : α → β → Prop} {as : List α} {bs : List β} (h : All2 R as bs) : ∀ {b : β}, b ∈ bs → ∃ a ∈ as, R a b := by
  induction h with
  | nil => intro b e; simp at e
  | cons h _ ih =>
    intro b e
    rcases List.mem_cons.mp e with rfl | e
    · exact ⟨_, List.mem_cons_self, h⟩
    · obtain ⟨a, e1, e2⟩ := ih e
      exact ⟨a, List.mem_cons_of_mem _ e1, e2⟩
section
variable {K : PySem.W.Frag} {W : WX} {te ta tb tc tl : TE} {tt tu : TT} {ts tr : TS} {tas : TA} {ti : TI} {ρ : Rho} {P : D → Prop} {PB : Bool → Prop} {PS : Sl → Prop} {PA : List D → Prop} {X : Exn → Prop} {E : En} {r r' : R2} {g : TG} {u : TGs}
/-! ### promises with a ghost: the caller says of which x the arguments are -/
section
variable {α : Type} {enc : α → List D} {pre : α → Prop} {post : α → Sl → Prop} {exn : α → Exn → Prop}
end
section
variable {α β : Type} {enc : α → List D} {pre : α → Prop} {rel : α → β → Prop} {out : α → β → Sl}
end
/-! ### loops over a typed state: up puts the state s into the slots, junk are the slots that each turn may spoil -/
def fgt : List Nat → Rho → Rho
  | [], ρ => ρ
  | i :: l, ρ => fgt l (ρ.set i .no)
theorem StOk.forgets {He0 He : Hp} {σ : St} {H0 H : Hp} : ∀ (l : List Nat) {ρ : Rho}, StOk K He0 He σ H0 H ρ → StOk K He0 He σ H0 H (fgt l ρ)
  | [], _, S => S
  | i :: l, _, S => (S.forget i).forgets l
/-- the ends may be asked for forgetful states -/
theorem WS.forget {E' : En} (l : List Nat) (h : WS K W ts ρ E') (h1 : ∀ ρ, E'.nx ρ → E.nx (fgt l ρ)) (h4 : ∀ ρ, E'.ct ρ → E.ct (fgt l ρ)) (h2 : ∀ s, E'.rt s → E.rt s) (h3 : ∀ ρ, E'.bk ρ → E.bk ρ) (h5 : ∀ x ρ, E'.ex x ρ → E.ex x ρ) : WS K W ts ρ E :=
  fun He0 He σ H0 H D S e => h He0 He σ H0 H D S ⟨fun ρ σ H0 H q S => e.nx _ σ H0 H (h1 _ q) (S.forgets l), fun s v H0 H q => e.rt s v H0 H (h2 _ q), fun ρ σ H0 H q => e.bk ρ σ H0 H (h3 _ q), fun ρ σ H0 H q S => e.ct _ σ H0 H (h4 _ q) (S.forgets l), fun x ρ σ H0 H c o q => e.ex x ρ σ H0 H c o (h5 _ _ q)⟩
/-! ### ranges -/
def rg (n : Int) : List Int := (List.range n.toNat).map fun i : Nat => (i : Int)
def rgs (a b : Int) : List Int := (List.range (b - a).toNat).map fun i : Nat => a + (i : Int)
theorem rg_mem {n x : Int} : x ∈ rg n ↔ 0 ≤ x ∧ x < n := by
  unfold rg
  rw [List.mem_map]
  refine ⟨fun ⟨i, h, e⟩ => ?_, fun h => ⟨x.toNat, ?_, by omega⟩⟩
  · rw [List.mem_range] at h; omega
  · rw [List.mem_range]; omega
theorem rg_len (n : Int) : (rg n).length = n.toNat := by unfold rg; rw [List.length_map, List.length_range]
theorem rgs_mem {a b x : Int} : x ∈ rgs a b ↔ a ≤ x ∧ x < b := by
  unfold rgs
  rw [List.mem_map]
  refine ⟨fun ⟨i, h, e⟩ => ?_, fun h => ⟨(x - a).toNat, ?_, by omega⟩⟩
  · rw [List.mem_range] at h; omega
  · rw [List.mem_range]; omega
theorem rgs_len (a b : Int) : (rgs a b).length = (b - a).toNat := by unfold rgs; rw [List.length_map, List.length_range]
theorem rg_get {n : Int} {i : Nat} {x : Int} (h : (rg n)[i]? = some x) : x = i ∧ i < n.toNat := by
  unfold rg at h
  rw [List.getElem?_map] at h
  by_cases hi : i < n.toNat
  · rw [List.getElem?_range hi] at h
    exact ⟨(Option.some.inj h).symm, hi⟩
  · rw [List.getElem?_eq_none (by simpa using hi)] at h
    cases h
theorem rgs_get {a b : Int} {i : Nat} {x : Int} (h : (rgs a b)[i]? = some x) : x = a + i ∧ i < (b - a).toNat := by
  unfold rgs at h
  rw [List.getElem?_map] at h
  by_cases hi : i < (b - a).toNat
  · rw [List.getElem?_range hi] at h
    exact ⟨(Option.some.inj h).symm, hi⟩
  · rw [List.getElem?_eq_none (by simpa using hi)] at h
    cases h
theorem itd_ints {G0 : Hp} {lo : Int} {n : Nat} (l : List Int) (hl : l.length = n) (hg : ∀ (i : Nat) x, l[i]? = some x → x = lo + i) : ItD K G0 (Itr lo n) (l.map D.int) where
  go := fun i H hi s => by rw [List.length_map, hl] at hi; exact hi
  stop := fun H s => by rw [List.length_map, hl]; exact Nat.le_refl _
  yld := fun i H x H' G hi s s' hy => by
    rw [List.length_map] at hi
    obtain ⟨rfl, rfl⟩ := hy
    refine ⟨G, .int (lo + i), .refl s', ?_, .int _⟩
    rw [List.getElem?_map, List.getElem?_eq_getElem hi]
    have := hg i _ (List.getElem?_eq_getElem hi)
    rw [this]; rfl
variable {PL : List D → Prop}
theorem iv_rg1 (h : AvP K W tas ρ (fun ds => ∃ n : Int, ds = [.int n] ∧ (-(2 ^ 62) ≤ n ∧ n < 2 ^ 62) ∧ PL ((rg n).map D.int)) X) : IvP K W (iRng1 tas) ρ PL X := fun He0 He σ H0 H R S x k => by
  refine h He0 He σ H0 H _ S x fun vs ds H1 H1' p S1 e1 r1 => ?_
  obtain ⟨n, rfl, ⟨b1, b2⟩, p⟩ := p
  cases r1 with
  | cons q1 r1 =>
    cases q1
    cases r1
    exact ⟨n, rfl, b1, b2, k _ _ H1 H1' p S1 e1 (itd_ints (rg n) (rg_len n) fun i x hx => by have := (rg_get hx).1; omega)⟩
theorem iv_rg2 (h : AvP K W tas ρ (fun ds => ∃ a b : Int, ds = [.int a, .int b] ∧ (-(2 ^ 62) ≤ a ∧ a < 2 ^ 62 ∧ -(2 ^ 62) ≤ b ∧ b < 2 ^ 62) ∧ PL ((rgs a b).map D.int)) X) : IvP K W (iRng2 tas) ρ PL X := fun He0 He σ H0 H R S x k => by
  refine h He0 He σ H0 H _ S x fun vs ds H1 H1' p S1 e1 r1 => ?_
  obtain ⟨a, b, rfl, bs, p⟩ := p
  cases r1 with
  | cons q1 r1 =>
    cases q1
    cases r1 with
    | cons q2 r1 =>
      cases q2
      cases r1
      exact ⟨a, b, rfl, bs, k _ _ H1 H1' p S1 e1 (itd_ints (rgs a b) (rgs_len a b) fun i x hx => (rgs_get hx).1)⟩
/-! ### comprehensions by what each item gives -/
end
end DL

set_option maxRecDepth 100000
set_option maxHeartbeats 1000000
namespace DL
open PySem PySem.Spec L2
section
variable {K : PySem.W.Frag} {W : WX} {te ta tb tc tl : TE} {tt tu : TT} {ts tr : TS} {tas : TA} {ti : TI} {ρ : Rho} {P : D → Prop} {PB : Bool → Prop} {PS : Sl → Prop} {PA : List D → Prop} {X : Exn → Prop} {E : En} {r r' : R2} {g : TG} {u : TGs}
/-! ### comprehensions with two fors -/
def ownFree (ρ : Rho) (vs : List Nat) : Bool := vs.all fun j => match ρ[j]? with
  | some t => !t.isOwn
  | none => true
end
end DL

set_option maxRecDepth 100000
set_option maxHeartbeats 1000000
namespace DL
open PySem PySem.Spec L2
/-! ### arguments that defaults or keywords fill up -/
/-- what a call binds whose keywords come last, in their order -/
structure KBs (K : PySem.W.Frag) (fd : FuncData) (ps : List Str) (n : Nat) (ks : List Str) : Prop where
  to : ∀ (s : Shared) (us ws : List Value), us.length = n → ws.length = ks.length → BindsTo s fd ⟨us, ks.zip ws⟩ (ps.zip (us ++ ws))
theorem KBs.of {K : PySem.W.Frag} {fd : FuncData} {ps : List Str} {n : Nat} {ks : List Str} (h : ∀ us ws : List Value, us.length = n → ws.length = ks.length → bindArgs fd ⟨us, ks.zip ws⟩ = pure (ps.zip (us ++ ws))) : KBs K fd ps n ks :=
  ⟨fun s us ws h1 h2 => .of_eq (h us ws h1 h2)⟩
section
variable {X : Cx} {CX : CXT} {k n : Nat} {f : Addr} {fd : FuncData} {ps ks : List Str} {sp : Sp} {E : St → XK} {x : Str} {p pos : Pos} {e : Expr} {es : List Expr} {kws : List Keyword} {t tk : TA}
end
section
variable {K : PySem.W.Frag} {W : WX} {te ta tb tc tl : TE} {tt tu : TT} {ts tr : TS} {tas tks : TA} {ti : TI} {ρ : Rho} {P : D → Prop} {PB : Bool → Prop} {PS : Sl → Prop} {PA : List D → Prop} {X : Exn → Prop} {E : En} {r r' : R2} {g : TG} {u : TGs}
/-! ### methods of lists that only read -/
end
end DL

set_option maxRecDepth 100000
set_option maxHeartbeats 1000000
namespace DL
open PySem PySem.Spec L2
/-! ### sorted rows, exactly -/
section
variable {K : PySem.W.Frag} {P : D → Prop}
end
/-- the shape of rows -/
theorem shp_tI (l : List Int) : Shp 1 (tI l) := fun d hd => by
  obtain ⟨i, _, rfl⟩ := List.mem_map.mp hd
  trivial
theorem shp_tIs (rows : List (List Int)) : Shp 2 (.lst (rows.map tI)) := fun d hd => by
  obtain ⟨r, _, rfl⟩ := List.mem_map.mp hd
  exact shp_tI r
theorem shp_ints (l : List Int) : Shp 1 (.lst (l.map D.int)) := fun d hd => by
  obtain ⟨i, _, rfl⟩ := List.mem_map.mp hd
  trivial
/-! ### == of rows -/
theorem eqvI : ∀ (a b : List Int), PyData.eqvAll (D.pys (a.map D.int)) (D.pys (b.map D.int)) = decide (a = b)
  | [], [] => rfl
  | [], _ :: _ => rfl
  | _ :: _, [] => rfl
  | x :: a, y :: b => by
    simp only [List.map_cons, D.pys, D.py, PyData.eqvAll, PyData.eqv, eqvI a b]
    by_cases e : x = y <;> by_cases f : a = b <;> simp [e, f]
theorem eqb_tI (a b : List Int) : D.eqb (tI a) (tI b) = decide (a = b) := by
  unfold D.eqb tI
  simp only [D.py, PyData.eqv]
  exact eqvI a b
theorem eqb_lI (a b : List Int) : D.eqb (.lst (a.map D.int)) (.lst (b.map D.int)) = decide (a = b) := by
  unfold D.eqb
  simp only [D.py, PyData.eqv]
  exact eqvI a b
theorem eqvT : ∀ (a b : List (List Int)), PyData.eqvAll (D.pys (a.map tI)) (D.pys (b.map tI)) = decide (a = b)
  | [], [] => rfl
  | [], _ :: _ => rfl
  | _ :: _, [] => rfl
  | x :: a, y :: b => by
    have := eqb_tI x y
    unfold D.eqb at this
    simp only [List.map_cons, D.pys, PyData.eqvAll, this, eqvT a b]
    by_cases e : x = y <;> by_cases f : a = b <;> simp [e, f]
theorem eqb_tIs (a b : List (List Int)) : D.eqb (.lst (a.map tI)) (.lst (b.map tI)) = decide (a = b) := by
  unfold D.eqb
  simp only [D.py, PyData.eqv]
  exact eqvT a b
section
variable {K : PySem.W.Frag} {P : D → Prop}
end
theorem rg_at {n : Int} {i : Nat} (hi : i < n.toNat) : (rg n)[i]? = some (i : Int) := by
  unfold rg
  rw [List.getElem?_map, List.getElem?_range hi]; rfl
end DL

set_option maxRecDepth 100000
set_option maxHeartbeats 1000000
namespace DL
open PySem PySem.Spec L2
/-! ### xs[i] op= e -/
section
variable {K : PySem.W.Frag} {W : WX} {te ta tb tc tl tix : TE} {tt tu : TT} {ts tr : TS} {tas tks : TA} {ti : TI} {ρ : Rho} {P : D → Prop} {PB : Bool → Prop} {PS : Sl → Prop} {PA : List D → Prop} {X : Exn → Prop} {E : En} {r r' : R2} {g : TG} {u : TGs}
end
/-! ### promises whose answer is a function of the ghost -/
section
variable {K : PySem.W.Frag} {W : WX} {tas : TA} {ρ : Rho} {P : D → Prop} {PS : Sl → Prop} {X : Exn → Prop} {α : Type} {enc : α → List D} {pre : α → Prop} {out : α → Sl}
end
end DL

set_option maxRecDepth 100000
set_option maxHeartbeats 1000000
namespace DL
open PySem PySem.Spec L2 PyProof.Rows
/-! ### a dict of the module: texts to ints -/
inductive Ents (P : Params) : List DictEntry → List (Str × Int) → Prop
  | nil : Ents P [] []
  | cons {e : DictEntry} {r : List DictEntry} {l : List (Str × Int)} {x : Str} {i : Int} {t u : Tok} (h1 : e.key = .str x t) (h2 : e.hash = PyData.keyHash P x) (h3 : e.val = .int i u) (h : Ents P r l) : Ents P (e :: r) ((x, i) :: l)
def mget (kvs : List (Str × Int)) (x : Str) : Option Int := (kvs.find? fun p => p.1 == x).map (·.2)
theorem Ents.keys {P : Params} {es : List DictEntry} {kvs} (h : Ents P es kvs) : PySem.W.KeysLit P es := by
  induction h with
  | nil => exact True.intro
  | cons h1 h2 h3 h ih => exact ⟨⟨_, _, h1, h2⟩, ih⟩
section
variable {X : Cx} {b : Expr} {tb : TE} {pos pos' : Pos} {kvs : List (Str × Int)} {a : Addr} {x : Str}
end
section
variable {K : PySem.W.Frag} {W : WX} {tb te : TE} {ρ : Rho} {kvs : List (Str × Int)} {P : D → Prop} {Xx : Exn → Prop}
end
/-! ### a def that is not called -/
section
variable {P : Program} {w : World} {K : PySem.W.Frag} {mg : Str → Option Value} {base : Heap} {CX : CXT} {k : Nat} {f : Addr} {fd : FuncData} {ps : List Str} {α β : Type} {enc : α → List D} {pre : α → Prop} {post : α → Sl → Prop} {exn : α → Exn → Prop} {rel : α → β → Prop} {outR : α → β → Sl} {out : α → Sl} {res : α → Option D} {C : Addr}
/-! ### the answer is a function's, or the one exception -/
end
section
variable {α : Type} {enc : α → List D} {pre : α → Prop} {res : α → Option D} {C : Addr} {K : PySem.W.Frag} {W : WX} {tas : TA} {ρ : Rho} {P : D → Prop} {X : Exn → Prop}
end
section
variable {α β : Type} {enc : α → List D} {pre : α → Prop} {post : α → Sl → Prop} {exn : α → Exn → Prop} {K : PySem.W.Frag} {rel : α → β → Prop} {outR : α → β → Sl} {out : α → Sl} {res : α → Option D} {C : Addr}
  {P : Program} {w : World} {mg : Str → Option Value} {base : Heap} {x qual : Str} {st : Stmt} {f : Addr} {fd : FuncData} {N ps : List Str} {k : Nat} {dvs : List V} {kws : List (Str × V)}
end
/-! ### kinds of plain data -/
def tyD : D → String
  | .non => "NoneType" | .bl _ => "bool" | .int _ => "int" | .str _ => "str" | .lst _ => "list" | .tup _ => "tuple" | _ => "?"
theorem TyD.of {d : D} (h : tyD d ≠ "?") : TyD d (tyD d) := by
  cases d <;> first | exact absurd rfl h | constructor
/-! ### lists and tuples alike -/
def iSeq (K : PySem.W.Frag) (tl : TE) : TI := fun σ H R => tl σ H fun x H1 => ∃ a, x = .ref a ∧ (((∃ xs, SqL K H1 a xs) ∧ R (Itl K a) H1) ∨ ((∃ xs, SqT K H1 a xs) ∧ R (Itt K a) H1))
theorem pi_seq {X : Cx} {tg l : Expr} {tl : TE} (hl : PE X l tl) : PI X tg l (iSeq X.K tl) := by
  refine ⟨fun pins s σ H R I h => ?_⟩
  refine thn (hl.run pins s σ H _ I h) fun v s1 ⟨x, H1, I1, r1, q1⟩ => ?_
  obtain ⟨a, e, q⟩ := q1
  subst e
  cases r1
  rcases q with ⟨⟨xs, hq⟩, q⟩ | ⟨⟨xs, hq⟩, q⟩
  · obtain ⟨its, rv, p, hz⟩ := I1.list hq
    refine wpAny_pyIter_list p.isList ?_
    refine ⟨s1.heap.objs.size, [s1.heap.objs.size], _, _, H1, rfl, I1.kept (t' := s1.toks) fun b o e => Heap.get?_push_of_some _ e, turn_list a _, ⟨_, Heap.get?_push_size _ rfl, rfl, rfl⟩, fun b hb => ?_, q⟩
    have e : b = s1.heap.objs.size := by simpa using hb
    subst e
    exact I1.fpOk (Nat.le_refl _) (I1.hok.fresh (Nat.le_refl _))
  · obtain ⟨its, rv, p, hz⟩ := I1.tuple hq
    refine wpAny_pyIter_tuple (show s1.heap.IsTuple a its.toArray from p) ?_
    refine ⟨s1.heap.objs.size, [s1.heap.objs.size], _, _, H1, rfl, I1.kept (t' := s1.toks) fun b o e => Heap.get?_push_of_some _ e, turn_tuple a _, ⟨_, Heap.get?_push_size _ rfl, rfl, rfl⟩, fun b hb => ?_, q⟩
    have e : b = s1.heap.objs.size := by simpa using hb
    subst e
    exact I1.fpOk (Nat.le_refl _) (I1.hok.fresh (Nat.le_refl _))
section
variable {K : PySem.W.Frag} {W : WX} {tl : TE} {ρ : Rho} {PL : List D → Prop} {X : Exn → Prop}
theorem iv_seq (h : EvP K W tl ρ (fun d => ∃ ds, (d = .lst ds ∨ d = .tup ds) ∧ PL ds) X) : IvP K W (iSeq K tl) ρ PL X := fun He0 He σ H0 H R S x k => by
  refine h He0 He σ H0 H _ S x fun v d H1 H1' p S1 e1 r1 => ?_
  obtain ⟨ds, hd, p⟩ := p
  rcases hd with rfl | rfl
  · cases r1 with
    | lst ha rs => exact ⟨_, rfl, .inl ⟨⟨_, .inl (.inl (S1.sub _ _ ha))⟩, k _ _ H1 H1' p S1 e1 (itd_list ha rs)⟩⟩
  · cases r1 with
    | tup ha rs => exact ⟨_, rfl, .inr ⟨⟨_, .inl (.inl (S1.sub _ _ ha))⟩, k _ _ H1 H1' p S1 e1 (itd_tup ha rs)⟩⟩
end
def rSlAny (K : PySem.W.Frag) : V → Option Int → Option Int → Hp → VK → Prop := fun x lo hi H Q => rSlL K x lo hi H Q ∨ rSlA K x lo hi H Q
theorem sl_any {X : Cx} : SlR X (rSlAny X.K) := SlR.or sl_list sl_tupA
section
variable {pre : List D → Prop} {post : List D → Sl → Prop} {exn : List D → Exn → Prop} {K : PySem.W.Frag}
end
end DL

set_option maxRecDepth 100000
set_option maxHeartbeats 1000000
/-! The readings run: what a def's reading comes to, reckoned over plain data. -/
namespace DL
open PySem PySem.Spec L2
/-- the program's exception classes -/
inductive Cls where
  | PaironceError | InvalidSystem | InvalidTerm | UnknownPoint | UnknownName | InvalidNotation | InvalidPaper | InvalidQuestion | TooMany | NameInUse | NothingToUndo | NothingToRedo
  deriving DecidableEq
structure Exr where
  c : Cls
  arg : Option (Str × D)
def Exr.at (ad : Cls → Addr) (x : Exr) : Exn := ⟨ad x.c, x.arg⟩
inductive Re (α : Type) where
  | ok (a : α) | ex (x : Exr) | bad
def Re.bind {α β : Type} (r : Re α) (f : α → Re β) : Re β := match r with | .ok a => f a | .ex x => .ex x | .bad => .bad
def Re.of {α : Type} : Option α → Re α | some a => .ok a | none => .bad
def Re.noex {α : Type} : Re α → Re α | .ok a => .ok a | _ => .bad
def Re.post {α : Type} (ad : Cls → Addr) (P : α → Prop) (X : Exn → Prop) : Re α → Prop | .ok a => P a | .ex x => X (x.at ad) | .bad => False
theorem Re.ok_bind {α β : Type} {a : α} {f : α → Re β} : (Re.ok a).bind f = f a := rfl
theorem Re.ex_bind {α β : Type} {x : Exr} {f : α → Re β} : (Re.ex x : Re α).bind f = .ex x := rfl
theorem Re.bad_bind {α β : Type} {f : α → Re β} : (Re.bad : Re α).bind f = .bad := rfl
theorem Re.post_bind {α β : Type} {ad : Cls → Addr} {r : Re α} {f : α → Re β} {P : β → Prop} {X : Exn → Prop} (h : (r.bind f).post ad P X) : r.post ad (fun a => (f a).post ad P X) X := by
  cases r <;> exact h
theorem Re.post.imp {α : Type} {ad : Cls → Addr} {r : Re α} {P P' : α → Prop} {X X' : Exn → Prop} (h : r.post ad P X) (f : ∀ a, P a → P' a) (g : ∀ x, X x → X' x := by exact fun _ h => h) : r.post ad P' X' := by
  cases r with
  | ok a => exact f _ h
  | ex x => exact g _ h
  | bad => exact h
theorem Re.post_of {α : Type} {ad : Cls → Addr} {o : Option α} {P : α → Prop} {X : Exn → Prop} (h : (Re.of o).post ad P X) : ∃ a, o = some a ∧ P a := by
  cases o with
  | none => exact h.elim
  | some a => exact ⟨a, rfl, h⟩
theorem Re.post_noex {α : Type} {ad : Cls → Addr} {r : Re α} {P : α → Prop} {X : Exn → Prop} (h : r.noex.post ad P X) : r.post ad P fun _ => False := by
  cases r with
  | ok a => exact h
  | ex x => exact h.elim
  | bad => exact h.elim
inductive Os where
  | nx (ρ : Rho) | rt (s : Sl) | bk (ρ : Rho) | ct (ρ : Rho) | ex (x : Exr) (ρ : Rho) | bad
def Os.post (ad : Cls → Addr) (E : En) : Os → Prop
  | .nx ρ => E.nx ρ | .rt s => E.rt s | .bk ρ => E.bk ρ | .ct ρ => E.ct ρ | .ex x ρ => E.ex (x.at ad) ρ | .bad => False
def Os.thn (o : Os) (f : Rho → Os) : Os := match o with | .nx ρ => f ρ | o => o
def Re.os {α : Type} (r : Re α) (ρ : Rho) (f : α → Os) : Os := match r with | .ok a => f a | .ex x => .ex x ρ | .bad => .bad
def Os.of : Option Rho → Os | some ρ => .nx ρ | none => .bad
def Os.ret : Os → Re Sl | .nx _ => .ok (.dat .non) | .rt s => .ok s | .ex x _ => .ex x | _ => .bad
theorem Os.nx_thn {ρ : Rho} {f : Rho → Os} : (Os.nx ρ).thn f = f ρ := rfl
theorem Os.rt_thn {s : Sl} {f : Rho → Os} : (Os.rt s).thn f = .rt s := rfl
theorem Os.bk_thn {ρ : Rho} {f : Rho → Os} : (Os.bk ρ).thn f = .bk ρ := rfl
theorem Os.ct_thn {ρ : Rho} {f : Rho → Os} : (Os.ct ρ).thn f = .ct ρ := rfl
theorem Os.ex_thn {x : Exr} {ρ : Rho} {f : Rho → Os} : (Os.ex x ρ).thn f = .ex x ρ := rfl
theorem Os.bad_thn {f : Rho → Os} : Os.bad.thn f = .bad := rfl
theorem Re.ok_os {α : Type} {a : α} {ρ : Rho} {f : α → Os} : (Re.ok a).os ρ f = f a := rfl
theorem Re.ex_os {α : Type} {x : Exr} {ρ : Rho} {f : α → Os} : (Re.ex x : Re α).os ρ f = .ex x ρ := rfl
theorem Re.bad_os {α : Type} {ρ : Rho} {f : α → Os} : (Re.bad : Re α).os ρ f = .bad := rfl
theorem Re.os_post {α : Type} {ad : Cls → Addr} {r : Re α} {ρ : Rho} {f : α → Os} {E : En} (h : (r.os ρ f).post ad E) : r.post ad (fun a => (f a).post ad E) (fun x => E.ex x ρ) := by
  cases r <;> exact h
theorem Os.post_thn {ad : Cls → Addr} {o : Os} {f : Rho → Os} {E : En} (h : (o.thn f).post ad E) : o.post ad { E with nx := fun ρ => (f ρ).post ad E } := by
  cases o <;> exact h
/-! ### slots -/
def gt : Rho → Nat → Sl
  | [], _ => .no
  | s :: _, 0 => s
  | _ :: r, i + 1 => gt r i
theorem gt_at : ∀ {ρ : Rho} {i : Nat} {s : Sl}, gt ρ i = s → s ≠ .no → ρ[i]? = some s
  | [], _, _, h, n => absurd h.symm n
  | _ :: _, 0, _, h, _ => by simp [gt] at h; simp [h]
  | _ :: r, i + 1, _, h, n => by simpa using gt_at (ρ := r) (i := i) h n
def Sl.val : Sl → Re D | .dat d => .ok d | _ => .bad
def frz1 (i : Nat) (ρ : Rho) : Rho := match gt ρ i with
  | .own ds => ρ.set i (.dat (.lst ds)) | .oK ks vs => ρ.set i (.dat (.dK ks vs)) | .oT ks vs => ρ.set i (.dat (.dT ks vs)) | _ => ρ
def frz : List Nat → Rho → Rho | [], ρ => ρ | i :: l, ρ => frz l (frz1 i ρ)
def Os.kil (ks : List Nat) : Os → Os | .nx ρ => .nx (fgt ks ρ) | .bk ρ => .bk (fgt ks ρ) | .ct ρ => .ct (fgt ks ρ) | o => o
section
variable (K : PySem.W.Frag) (W : WX) (ad : Cls → Addr)
def CE (te : TE) (r : Rho → Re D) : Prop := ∀ ρ P X, (r ρ).post ad P X → EvP K W te ρ P X
def CO (te : TE) (r : Rho → Re Sl) : Prop := ∀ ρ P X, (r ρ).post ad P X → EvO K W te ρ P X
def CB (tt : TT) (r : Rho → Re Bool) : Prop := ∀ ρ P X, (r ρ).post ad P X → BvP K W tt ρ P X
def CA (ta : TA) (r : Rho → Re (List D)) : Prop := ∀ ρ P X, (r ρ).post ad P X → AvP K W ta ρ P X
def CI (ti : TI) (r : Rho → Re (List D)) : Prop := ∀ ρ P X, (r ρ).post ad P X → IvP K W ti ρ P X
def CP (to : TO) (r : Rho → Re (Option Int)) : Prop := ∀ ρ P X, (r ρ).post ad P X → OvP K W to ρ P X
def CS (ts : TS) (r : Rho → Os) : Prop := ∀ ρ E, (r ρ).post ad E → WS K W ts ρ E
/-- targets -/
def CG (g : TG) (r : D → Rho → Option Rho) : Prop := ∀ d ρ ρ' P, r d ρ = some ρ' → P ρ' → GvP K g d ρ P
def C2 (rr : R2) (o : D → D → Option D) : Prop := ∀ x y z P, o x y = some z → P z → OpD K rr x y P
def C1 (rr : V → Hp → VK → Prop) (o : D → Option D) : Prop := ∀ x z P, o x = some z → P z → UnD K rr x P
def CF (rr : List V → Hp → VK → Prop) (o : List D → Option D) : Prop := ∀ x z P, o x = some z → P z → CbD K rr x P
def CSl (rr : V → Option Int → Option Int → Hp → VK → Prop) (o : D → Option Int → Option Int → Option D) : Prop := ∀ x lo hi z P, o x lo hi = some z → P z → SlD K rr x lo hi P
end
/-! ### expressions -/
def rC (d : D) (_ : Rho) : Re D := .ok d
def rVar (i : Nat) (ρ : Rho) : Re D := (gt ρ i).val
def rOp (o : D → D → Option D) (a b : Rho → Re D) (ρ : Rho) : Re D := (a ρ).bind fun x => (b ρ).bind fun y => .of (o x y)
def rUn (o : D → Option D) (a : Rho → Re D) (ρ : Rho) : Re D := (a ρ).bind fun x => .of (o x)
def rCb (o : List D → Option D) (a : Rho → Re (List D)) (ρ : Rho) : Re D := (a ρ).bind fun x => .of (o x)
def rNil (_ : Rho) : Re (List D) := .ok []
def rCons (a : Rho → Re D) (b : Rho → Re (List D)) (ρ : Rho) : Re (List D) := (a ρ).bind fun x => (b ρ).bind fun y => .ok (x :: y)
def seqD : D → Option (List D) | .lst l => some l | .tup l => some l | _ => none
def rStar (a : Rho → Re D) (b : Rho → Re (List D)) (ρ : Rho) : Re (List D) := (a ρ).bind fun x => (Re.of (seqD x)).bind fun l => (b ρ).bind fun y => .ok (l ++ y)
def rApp (dvs : List D) (a : Rho → Re (List D)) (ρ : Rho) : Re (List D) := (a ρ).bind fun x => .ok (x ++ dvs)
def rApp2 (n m : Nat) (a b : Rho → Re (List D)) (ρ : Rho) : Re (List D) := (a ρ).bind fun x => (b ρ).bind fun y => if x.length = n ∧ y.length = m then .ok (x ++ y) else .bad
def Sl.get : Sl → Re D | .no => .bad | .ref _ => .bad | .exc _ _ _ => .bad | s => .ok s.still
def rStill (o : Rho → Re Sl) (ρ : Rho) : Re D := (o ρ).bind Sl.get
def rCall (m : List D → Re Sl) (a : Rho → Re (List D)) (ρ : Rho) : Re Sl := (a ρ).bind m
def rTup (a : Rho → Re (List D)) (ρ : Rho) : Re D := (a ρ).bind fun l => if l.length ≤ 1000000 then .ok (.tup l) else .bad
def rLst (a : Rho → Re (List D)) (ρ : Rho) : Re Sl := (a ρ).bind fun l => if l.length ≤ 1000000 then .ok (.own l) else .bad
def rNewK (_ : Rho) : Re Sl := .ok (.oK [] [])
def rNewT (_ : Rho) : Re Sl := .ok (.oT [] [])
def rAndV (a b : Rho → Re D) (ρ : Rho) : Re D := (a ρ).bind fun x => match x with | .bl c => if c = true then b ρ else .ok (.bl false) | _ => .bad
def rOrV (a b : Rho → Re D) (ρ : Rho) : Re D := (a ρ).bind fun x => match x with | .bl c => if c = true then .ok (.bl true) else b ρ | _ => .bad
def rNotV (a : Rho → Re D) (ρ : Rho) : Re D := (a ρ).bind fun x => match x with | .bl c => .ok (.bl (!c)) | _ => .bad
def rIfE (t : Rho → Re Bool) (a b : Rho → Re D) (ρ : Rho) : Re D := (t ρ).bind fun c => if c = true then a ρ else b ρ
def blD : Option D → Re Bool | some (.bl b) => .ok b | _ => .bad
def rChain (o o2 : D → D → Option D) (a b c : Rho → Re D) (ρ : Rho) : Re D :=
  (a ρ).bind fun x => (b ρ).bind fun y => (blD (o x y)).bind fun k => if k = true then (c ρ).bind fun z => .of (o2 y z) else .ok (.bl false)
def rChain3 (o o2 o3 : D → D → Option D) (a b c e : Rho → Re D) (ρ : Rho) : Re D :=
  (a ρ).bind fun x => (b ρ).bind fun y => (blD (o x y)).bind fun k => if k = true then (c ρ).bind fun z => (blD (o2 y z)).bind fun k => if k = true then (e ρ).bind fun u => .of (o3 z u) else .ok (.bl false) else .ok (.bl false)
def rChain4 (o o2 o3 o4 : D → D → Option D) (a b c e f : Rho → Re D) (ρ : Rho) : Re D :=
  (a ρ).bind fun x => (b ρ).bind fun y => (blD (o x y)).bind fun k => if k = true then (c ρ).bind fun z => (blD (o2 y z)).bind fun k => if k = true then (e ρ).bind fun u => (blD (o3 z u)).bind fun k => if k = true then (f ρ).bind fun v => .of (o4 u v) else .ok (.bl false) else .ok (.bl false) else .ok (.bl false)
/-! ### tests -/
def rTest (a : Rho → Re D) (ρ : Rho) : Re Bool := (a ρ).bind fun x => match x with | .bl c => .ok c | _ => .bad
def rYes (_ : Rho) : Re Bool := .ok true
def rAnd (a b : Rho → Re Bool) (ρ : Rho) : Re Bool := (a ρ).bind fun c => if c = true then b ρ else .ok false
def rOr (a b : Rho → Re Bool) (ρ : Rho) : Re Bool := (a ρ).bind fun c => if c = true then .ok true else b ρ
def rNot (a : Rho → Re Bool) (ρ : Rho) : Re Bool := (a ρ).bind fun c => .ok (!c)
def truD : D → Option Bool
  | .non => some false | .bl b => some b | .int i => some (decide (i ≠ 0)) | .str x => if x.length ≤ 1000000 then some (decide (x.length ≠ 0)) else none
  | .lst l => some (!l.isEmpty) | .tup l => some (!l.isEmpty) | _ => none
def rTru (a : Rho → Re D) (ρ : Rho) : Re Bool := (a ρ).bind fun x => .of (truD x)
/-! ### targets -/
def gnm (i : Nat) (d : D) (ρ : Rho) : Option Rho := some (ρ.set i (.dat d))
def gtp (n : Nat) (u : List D → Rho → Option Rho) (d : D) (ρ : Rho) : Option Rho := match d with | .tup l => if l.length = n then u l ρ else none | _ => none
def gls (n : Nat) (u : List D → Rho → Option Rho) (d : D) (ρ : Rho) : Option Rho := match d with | .lst l => if l.length = n then u l ρ else none | _ => none
def gni (ds : List D) (ρ : Rho) : Option Rho := match ds with | [] => some ρ | _ => none
def gco (g : D → Rho → Option Rho) (u : List D → Rho → Option Rho) (ds : List D) (ρ : Rho) : Option Rho := match ds with | [] => none | d :: r => (g d ρ).bind (u r)
/-! ### comprehensions -/
def lcGo (f : D → Re (Option D)) : List D → Re (List D)
  | [] => .ok []
  | x :: xs => (f x).bind fun o => (lcGo f xs).bind fun r => .ok (match o with | some d => d :: r | none => r)
def lcF (g : D → Rho → Option Rho) (t : Rho → Re Bool) (e : Rho → Re D) (ρ : Rho) (x : D) : Re (Option D) :=
  match g x ρ with | some ρ' => (t ρ').bind fun b => if b = true then (e ρ').bind fun d => .ok (some d) else .ok none | none => .bad
def rLc (i : Rho → Re (List D)) (g : D → Rho → Option Rho) (t : Rho → Re Bool) (e : Rho → Re D) (vs : List Nat) (ρ : Rho) : Re Sl :=
  (i ρ).bind fun xs => if xs.length ≤ 1000000 then (lcGo (lcF g t e (wipeR ρ vs)) xs).noex.bind fun l => .ok (.own l) else .bad
/-- two fors -/
def lcGo2 (f : D → Re (List D)) : List D → Re (List D)
  | [] => .ok []
  | x :: xs => (f x).bind fun o => (lcGo2 f xs).bind fun r => .ok (o ++ r)
open Classical in
noncomputable def lcF2 (g : D → Rho → Option Rho) (t : Rho → Re Bool) (i1 : Rho → Re (List D)) (g1 : D → Rho → Option Rho) (t1 : Rho → Re Bool) (e : Rho → Re D) (vs vs1 : List Nat) (ρ : Rho) (x : D) : Re (List D) :=
  match g x (wipeR ρ vs) with
  | some ρ2 => if wipeR (wipeR ρ2 vs1) vs = wipeR ρ vs ∧ ownFree (wipeR ρ2 vs1) vs = true then
      (t ρ2).bind fun b => if b = true then (i1 ρ2).bind fun xs1 => if xs1.length ≤ 1000 then lcGo (lcF g1 t1 e (wipeR ρ2 vs1)) xs1 else .bad else .ok []
    else .bad
  | none => .bad
noncomputable def rLc2 (i : Rho → Re (List D)) (g : D → Rho → Option Rho) (t : Rho → Re Bool) (i1 : Rho → Re (List D)) (g1 : D → Rho → Option Rho) (t1 : Rho → Re Bool) (e : Rho → Re D) (vs vs1 : List Nat) (ρ : Rho) : Re Sl :=
  (i ρ).bind fun xs => if xs.length ≤ 1000 then (lcGo2 (lcF2 g t i1 g1 t1 e vs vs1 ρ) xs).noex.bind fun l => .ok (.own l) else .bad
/-! ### statements -/
def rNext (ρ : Rho) : Os := .nx ρ
def rBreak (ρ : Rho) : Os := .bk ρ
def rCont (ρ : Rho) : Os := .ct ρ
def rRetN (_ : Rho) : Os := .rt (.dat .non)
def rSeq (a b : Rho → Os) (ρ : Rho) : Os := (a ρ).thn b
def rDrop (e : Rho → Re D) (ρ : Rho) : Os := (e ρ).os ρ fun _ => .nx ρ
def rRet (e : Rho → Re D) (ρ : Rho) : Os := (e ρ).os ρ fun d => .rt (.dat d)
def rRetO (e : Rho → Re Sl) (ρ : Rho) : Os := (e ρ).os ρ fun s => .rt s
def Sl.rtv : Sl → Os | .no => .bad | .ref _ => .bad | .exc _ _ _ => .bad | s => .rt s
def rRetV (i : Nat) (ρ : Rho) : Os := (gt ρ i).rtv
def rSet (i : Nat) (e : Rho → Re D) (ρ : Rho) : Os := (e ρ).os ρ fun d => .nx (ρ.set i (.dat d))
def rSetO (i : Nat) (e : Rho → Re Sl) (ρ : Rho) : Os := (e ρ).os ρ fun s => .nx (ρ.set i s)
def rAsg (g : D → Rho → Option Rho) (e : Rho → Re D) (ρ : Rho) : Os := (e ρ).os ρ fun d => .of (g d ρ)
def rIf (t : Rho → Re Bool) (a b : Rho → Os) (ρ : Rho) : Os := (t ρ).os ρ fun c => if c = true then a ρ else b ρ
def rK (ks : List Nat) (r : Rho → Os) (ρ : Rho) : Os := (r ρ).kil ks
def rF (is : List Nat) (r : Rho → Os) (ρ : Rho) : Os := r (frz is ρ)
def rPar (i j : Nat) (a : Rho → Re (List D)) (ρ : Rho) : Os := (a ρ).os ρ fun l => match l with | [x, y] => .nx ((ρ.set i (.dat x)).set j (.dat y)) | _ => .bad
def rPar3 (i j l : Nat) (a : Rho → Re (List D)) (ρ : Rho) : Os := (a ρ).os ρ fun m => match m with | [x, y, z] => .nx (((ρ.set i (.dat x)).set j (.dat y)).set l (.dat z)) | _ => .bad
def forGo (step : D → Rho → Os) : List D → Rho → Os
  | [], ρ => .nx ρ
  | x :: xs, ρ => match step x ρ with | .nx ρ' => forGo step xs ρ' | .ct ρ' => forGo step xs ρ' | .bk ρ' => .nx ρ' | o => o
def stepFor (g : D → Rho → Option Rho) (b : Rho → Os) (x : D) (ρ : Rho) : Os := match g x ρ with | some ρ' => b ρ' | none => .bad
def rFor (i : Rho → Re (List D)) (g : D → Rho → Option Rho) (b : Rho → Os) (ρ : Rho) : Os := (i ρ).os ρ fun xs => forGo (stepFor g b) xs ρ
def whl (t : Rho → Re Bool) (b : Rho → Os) : Nat → Rho → Os
  | 0, _ => .bad
  | n + 1, ρ => (t ρ).os ρ fun c => if c = true then match b ρ with | .nx ρ' => whl t b n ρ' | .ct ρ' => whl t b n ρ' | .bk ρ' => .nx ρ' | o => o else .nx ρ
open Classical in
noncomputable def rWhile (t : Rho → Re Bool) (b : Rho → Os) (ρ : Rho) : Os := if h : ∃ n, whl t b n ρ ≠ .bad then whl t b (Classical.choose h) ρ else .bad
def aug (o : D → D → Option D) (i : Nat) (ρ : Rho) (x y : D) : Os := match o x y with | some z => .nx (ρ.set i (.dat z)) | none => .bad
def rAug (o : D → D → Option D) (i : Nat) (e : Rho → Re D) (ρ : Rho) : Os := (rVar i ρ).os ρ fun x => (e ρ).os ρ fun y => aug o i ρ x y
/-- one's own list -/
def Sl.ownL : Sl → Re (List D) | .own l => .ok l | _ => .bad
def xAppend (i : Nat) (e : Rho → Re D) (ρ : Rho) : Os := (gt ρ i).ownL.os ρ fun l => (e ρ).os ρ fun d => if l.length < 1000000 then .nx (ρ.set i (.own (l ++ [d]))) else .bad
/-! ### operators -/
def oIx : D → D → Option D
  | .lst l, .int i => atI l i
  | .tup l, .int i => atI l i
  | .str s, .int i => if s.length ≤ 1000000 then (atI s.cps.toList i).map fun c => .str ⟨#[c]⟩ else none
  | _, _ => none
def oAdd : D → D → Option D
  | .int a, .int b => some (.int (a + b))
  | .lst a, .lst b => if a.length + b.length ≤ 1000000 then some (.lst (a ++ b)) else none
  | .tup a, .tup b => if a.length + b.length ≤ 1000000 then some (.tup (a ++ b)) else none
  | .str a, .str b => if a.length + b.length ≤ 1000000 then some (.str (a ++ b)) else none
  | _, _ => none
/-- a product that the model reckons -/
def mulOk (i j : Int) : Prop := (-(2 ^ 400) < i ∧ i < 2 ^ 400 ∧ -(2 ^ 400) < j ∧ j < 2 ^ 400) ∨ (-(2 ^ 62) < j ∧ j < 2 ^ 62) ∨ (-(2 ^ 62) < i ∧ i < 2 ^ 62)
instance (i j : Int) : Decidable (mulOk i j) := by unfold mulOk; infer_instance
def oSub : D → D → Option D | .int a, .int b => some (.int (a - b)) | _, _ => none
def oMul : D → D → Option D
  | .int a, .int b => if mulOk a b then some (.int (a * b)) else none
  | .lst l, .int b => if 0 ≤ b ∧ b ≤ 1000000 ∧ l.length * b.toNat ≤ 1000000 then some (.lst (List.replicate b.toNat l).flatten) else none
  | _, _ => none
def oIMul : D → D → Option D | .int a, .int b => if mulOk a b then some (.int (a * b)) else none | _, _ => none
def oIAdd : D → D → Option D | .int a, .int b => some (.int (a + b)) | .str a, .str b => if a.length + b.length ≤ 1000000 then some (.str (a ++ b)) else none | _, _ => none
def oDiv : D → D → Option D | .int a, .int b => if 0 < b ∧ (b < 4611686018427387904 ∨ b < 2 ^ 400) then some (.int (a / b)) else none | _, _ => none
def oMod : D → D → Option D | .int a, .int b => if 0 < b then some (.int (a % b)) else none | _, _ => none
def oPow : D → D → Option D | .int a, .int b => if 0 ≤ b ∧ b ≤ 1000000 ∧ -(2 ^ 62) < a ∧ a < 2 ^ 62 then some (.int (a ^ b.toNat)) else none | _, _ => none
def oXor : D → D → Option D | .int a, .int b => some (.int (Builtin.bitXor a b)) | _, _ => none
def oLt : D → D → Option D | .int a, .int b => some (.bl (decide (a < b))) | _, _ => none
def oLe : D → D → Option D | .int a, .int b => some (.bl (decide (a ≤ b))) | _, _ => none
def oGt : D → D → Option D | .int a, .int b => some (.bl (decide (b < a))) | _, _ => none
def oGe : D → D → Option D | .int a, .int b => some (.bl (decide (b ≤ a))) | _, _ => none
/-- plain shapes -/
def Sh (d : D) : Prop := ∃ n ≤ 64, Shp n d
open Classical in
noncomputable def oEq : D → D → Option D
  | .int a, .int b => some (.bl (decide (a = b)))
  | .bl a, .bl b => some (.bl (decide (a = b)))
  | .str a, .str b => some (.bl (decide (a = b)))
  | x, y => if Sh x ∧ Sh y then some (.bl (D.eqb x y)) else none
open Classical in
noncomputable def oNe : D → D → Option D
  | .int a, .int b => some (.bl (!decide (a = b)))
  | .bl a, .bl b => some (.bl (!decide (a = b)))
  | .str a, .str b => some (.bl (!decide (a = b)))
  | x, y => if Sh x ∧ Sh y then some (.bl (!D.eqb x y)) else none
def isNonD : D → Bool | .non => true | _ => false
def oIs : D → D → Option D | x, .non => some (.bl (isNonD x)) | _, _ => none
def oIsNot : D → D → Option D | x, .non => some (.bl (!isNonD x)) | _, _ => none
def oNeg : D → Option D | .int a => some (.int (-a)) | _ => none
/-- ints of data -/
def asI : List D → Option (List Int)
  | [] => some []
  | .int i :: r => (asI r).map (i :: ·)
  | _ => none
theorem asI_map : ∀ l : List Int, asI (l.map D.int) = some l
  | [] => rfl
  | i :: l => by simp [asI, asI_map l]
theorem asI_is : ∀ {l : List D} {is : List Int}, asI l = some is → l = is.map D.int
  | [], is, h => by cases h; rfl
  | .int i :: r, is, h => by
    cases e : asI r with
    | none => simp [asI, e] at h
    | some js => simp [asI, e] at h; subst h; rw [asI_is e]; rfl
def asS : List D → Option (List Str)
  | [] => some []
  | .str i :: r => (asS r).map (i :: ·)
  | _ => none
def asB : List D → Option (List Bool)
  | [] => some []
  | .bl i :: r => (asB r).map (i :: ·)
  | _ => none
theorem asB_map : ∀ l : List Bool, asB (l.map D.bl) = some l
  | [] => rfl
  | i :: l => by simp [asB, asB_map l]
theorem asB_is : ∀ {l : List D} {is : List Bool}, asB l = some is → l = is.map D.bl
  | [], is, h => by cases h; rfl
  | .bl i :: r, is, h => by
    cases e : asB r with
    | none => simp [asB, e] at h
    | some js => simp [asB, e] at h; subst h; rw [asB_is e]; rfl
/-- tuples of ints of data -/
def asT : List D → Option (List (List Int))
  | [] => some []
  | .tup l :: r => (asI l).bind fun t => (asT r).map (t :: ·)
  | _ => none
theorem asT_map : ∀ l : List (List Int), asT (l.map tI) = some l
  | [] => rfl
  | i :: l => by simp [asT, tI, asI_map, asT_map l]
def oIn : D → D → Option D | .int x, y => (seqD y).bind fun l => (asI l).map fun is => .bl (decide (x ∈ is)) | _, _ => none
def oNotIn : D → D → Option D | .int x, y => (seqD y).bind fun l => (asI l).map fun is => .bl (!decide (x ∈ is)) | _, _ => none
/-! ### built-ins -/
def bAbs : List D → Option D | [.int i] => some (.int (if i < 0 then -i else i)) | _ => none
def bLen : List D → Option D | [.lst l] => some (.int l.length) | [.tup l] => some (.int l.length) | [.str s] => if s.length ≤ 1000000 then some (.int s.length) else none | _ => none
def bInt : List D → Option D | [.int i] => some (.int i) | [.bl b] => some (.int (if b then 1 else 0)) | _ => none
def bSorted : List D → Option D | [x] => (seqD x).bind fun l => (asI l).map fun is => .lst ((srt is).map D.int) | _ => none
def bTuple : List D → Option D | [.lst l] => some (.tup l) | [.tup l] => some (.tup l) | _ => none
def bAll : List D → Option D | [.lst l] => (asB l).map fun bs => .bl (bs.all id) | _ => none
def bAny : List D → Option D | [.lst l] => (asB l).map fun bs => .bl (bs.any id) | _ => none
def bMax2 : List D → Option D | [.int i, .int j] => some (.int (max i j)) | _ => none
def bMin2 : List D → Option D | [.int i, .int j] => some (.int (min i j)) | _ => none
def rListOfD (a : Rho → Re D) (ρ : Rho) : Re Sl := (a ρ).bind fun x => (Re.of (seqD x)).bind fun l => .ok (.own l)
def rLstRg1 (a : Rho → Re D) (ρ : Rho) : Re Sl := (a ρ).bind fun x => match x with | .int n => if -(2 ^ 62) < n ∧ n ≤ 1000000 then .ok (.own ((rg n).map D.int)) else .bad | _ => .bad
/-- kinds -/
inductive Ty where | int | bool | str | list | tuple
def Ty.nm : Ty → String | .int => "int" | .bool => "bool" | .str => "str" | .list => "list" | .tuple => "tuple"
def isT : D → Ty → Option Bool
  | .non, _ => some false
  | .bl _, .int => some true | .bl _, .bool => some true | .bl _, _ => some false
  | .int _, .int => some true | .int _, _ => some false
  | .str _, .str => some true | .str _, _ => some false
  | .lst _, .list => some true | .lst _, _ => some false
  | .tup _, .tuple => some true | .tup _, _ => some false
  | _, _ => none
def xIsi (ty : Ty) (a : Rho → Re D) (ρ : Rho) : Re D := (a ρ).bind fun x => (Re.of (isT x ty)).bind fun b => .ok (.bl b)
def xIsi2 (t1 t2 : Ty) (a : Rho → Re D) (ρ : Rho) : Re D := (a ρ).bind fun x => (Re.of (isT x t1)).bind fun b => (Re.of (isT x t2)).bind fun c => .ok (.bl (b || c))
/-! ### walks -/
def rIList (a : Rho → Re D) (ρ : Rho) : Re (List D) := (a ρ).bind fun x => match x with | .lst l => .ok l | _ => .bad
def rITup (a : Rho → Re D) (ρ : Rho) : Re (List D) := (a ρ).bind fun x => match x with | .tup l => .ok l | _ => .bad
def rISeq (a : Rho → Re D) (ρ : Rho) : Re (List D) := (a ρ).bind fun x => .of (seqD x)
def irng1 : List D → Re (List D) | [.int n] => if -(2 ^ 62) ≤ n ∧ n < 2 ^ 62 then .ok ((rg n).map D.int) else .bad | _ => .bad
def irng2 : List D → Re (List D) | [.int m, .int n] => if -(2 ^ 62) ≤ m ∧ m < 2 ^ 62 ∧ -(2 ^ 62) ≤ n ∧ n < 2 ^ 62 then .ok ((rgs m n).map D.int) else .bad | _ => .bad
def rIRng1 (a : Rho → Re (List D)) (ρ : Rho) : Re (List D) := (a ρ).bind irng1
def rIRng2 (a : Rho → Re (List D)) (ρ : Rho) : Re (List D) := (a ρ).bind irng2
/-- a, a - 1, .. above b -/
def rgd (a b : Int) : List Int := (List.range (a - b).toNat).map fun i : Nat => a - (i : Int)
def irng3 : List D → Re (List D) | [.int m, .int n, .int c] => if c = -1 ∧ -(2 ^ 62) ≤ m ∧ m < 2 ^ 62 ∧ -(2 ^ 62) ≤ n ∧ n < 2 ^ 62 then .ok ((rgd m n).map D.int) else .bad | _ => .bad
def rIRng3 (a : Rho → Re (List D)) (ρ : Rho) : Re (List D) := (a ρ).bind irng3
def rIEnum (a : Rho → Re (List D)) (ρ : Rho) : Re (List D) := (a ρ).bind fun l => match l with | [.lst l] => .ok (enumD l) | _ => .bad
def rIValsN (a : Rho → Re Sl) (ρ : Rho) : Re (List D) := (a ρ).bind fun s => match s with | .oT _ vs => .ok vs | _ => .bad
def rIValsV (i : Nat) (ρ : Rho) : Re (List D) := match gt ρ i with | .dat (.fT _ vs) => .ok vs | _ => .bad
def rIKeysV (i : Nat) (ρ : Rho) : Re (List D) := match gt ρ i with | .dat (.fT ks _) => .ok (ks.map tD) | .dat (.fK ks _) => .ok (ks.map kD) | _ => .bad
/-! ### slices -/
def rPN (_ : Rho) : Re (Option Int) := .ok none
def rPS (a : Rho → Re D) (ρ : Rho) : Re (Option Int) := (a ρ).bind fun x => match x with | .int i => .ok (some i) | _ => .bad
def rSl (o : D → Option Int → Option Int → Option D) (a : Rho → Re D) (lo hi : Rho → Re (Option Int)) (ρ : Rho) : Re D := (a ρ).bind fun x => (lo ρ).bind fun l => (hi ρ).bind fun h => .of (o x l h)
def oSlL (x : D) (lo hi : Option Int) : Option D := match x with | .lst l => some (.lst (cutD l lo hi)) | .src l => some (.lst (cutD (l.map D.int) lo hi)) | _ => none
def oSlA (x : D) (lo hi : Option Int) : Option D := match x with | .tup l => some (.tup (cutD l lo hi)) | _ => none
def oSlAny (x : D) (lo hi : Option Int) : Option D := match x with | .lst l => some (.lst (cutD l lo hi)) | .src l => some (.lst (cutD (l.map D.int) lo hi)) | .tup l => some (.tup (cutD l lo hi)) | _ => none
/-! ### own lists by name -/
def rIxV (i : Nat) (e : Rho → Re D) (ρ : Rho) : Re D := match gt ρ i with | .own l => (e ρ).bind fun k => (match k with | .int j => .of (atI l j) | _ => .bad) | .dat d => (e ρ).bind fun k => .of (oIx d k) | _ => .bad
def rLenV (i : Nat) (ρ : Rho) : Re D := match gt ρ i with | .own l => .ok (.int l.length) | .dat d => .of (bLen [d]) | _ => .bad
def gsub (i : Nat) (e : Rho → Re D) (d : D) (ρ : Rho) : Option Rho := match gt ρ i, e ρ with | .own l, .ok (.int k) => (ixN l.length k).map fun j => ρ.set i (.own (l.set j d)) | _, _ => none
def rAugS (o : D → D → Option D) (i : Nat) (ix e : Rho → Re D) (ρ : Rho) : Os := (gt ρ i).ownL.os ρ fun l => (ix ρ).os ρ fun k => match k with
  | .int k => if 0 ≤ k then (match l[k.toNat]? with | some d => (e ρ).os ρ fun y => (match o d y with | some z => .nx (ρ.set i (.own (l.set k.toNat z))) | none => .bad) | none => .bad) else .bad
  | _ => .bad
def xInsert (i : Nat) (a : Rho → Re (List D)) (ρ : Rho) : Os := (gt ρ i).ownL.os ρ fun l => (a ρ).os ρ fun m => match m with
  | [.int k, y] => if l.length < 1000000 ∧ 0 ≤ k ∧ k < 2 ^ 62 then .nx (ρ.set i (.own (l.take k.toNat ++ [y] ++ l.drop k.toNat))) else .bad | _ => .bad
def xPopAt (i : Nat) (a : Rho → Re (List D)) (ρ : Rho) : Os := (gt ρ i).ownL.os ρ fun l => (a ρ).os ρ fun m => match m with
  | [.int k] => if 0 ≤ k ∧ k < l.length ∧ l.length ≤ 1000000 then .nx (ρ.set i (.own (l.eraseIdx k.toNat))) else .bad | _ => .bad
/-! ### dicts by name -/
def keyK : D → Option Key | .int i => some (.inl i) | .str s => some (.inr s) | _ => none
def keysK : List D → Option (List Key)
  | [] => some []
  | d :: r => match keyK d, keysK r with | some k, some l => some (k :: l) | _, _ => none
def keyT : D → Option (List Key) | .tup l => keysK l | _ => none
theorem keysK_map : ∀ k : List Key, keysK (k.map kD) = some k
  | [] => rfl
  | .inl i :: k => by simp [keysK, keysK_map k, kD, keyK]
  | .inr i :: k => by simp [keysK, keysK_map k, kD, keyK]
theorem keyT_tD (k : List Key) : keyT (tD k) = some k := keysK_map k
def Sl.dT : Sl → Option (List (List Key) × List D) | .oT ks vs => some (ks, vs) | .dat (.dT ks vs) => some (ks, vs) | .dat (.fT ks vs) => some (ks, vs) | _ => none
def Sl.dK : Sl → Option (List Key × List D) | .oK ks vs => some (ks, vs) | .dat (.dK ks vs) => some (ks, vs) | .dat (.fK ks vs) => some (ks, vs) | _ => none
/-- a dict asked by a key: what is there -/
def dAsk (s : Sl) (y : D) : Re (Option D) := match s.dT with
  | some (ks, vs) => (Re.of (keyT y)).bind fun k => .ok (vget ks vs k)
  | none => match s.dK with | some (ks, vs) => (Re.of (keyK y)).bind fun k => .ok (vget ks vs k) | none => .bad
def dHas (s : Sl) (y : D) : Re Bool := match s.dT with
  | some (ks, _) => (Re.of (keyT y)).bind fun k => .ok (kmem ks k)
  | none => match s.dK with | some (ks, _) => (Re.of (keyK y)).bind fun k => .ok (kmem ks k) | none => .bad
def dLen (s : Sl) : Re D := match s.dT with
  | some (ks, _) => .ok (.int ks.length)
  | none => match s.dK with | some (ks, _) => .ok (.int ks.length) | none => .bad
def Sl.isD : Sl → Bool | .oT _ _ => true | .oK _ _ => true | .dat (.dT _ _) => true | .dat (.dK _ _) => true | .dat (.fT _ _) => true | .dat (.fK _ _) => true | _ => false
def rDGet (i : Nat) (e : Rho → Re D) (ρ : Rho) : Re D := if (gt ρ i).isD = true then (e ρ).bind fun y => (dAsk (gt ρ i) y).bind fun o => .of o else .bad
def rDGet2 (i : Nat) (e u : Rho → Re D) (ρ : Rho) : Re D := if (gt ρ i).isD = true then (e ρ).bind fun y => (u ρ).bind fun z => (dAsk (gt ρ i) y).bind fun o => .ok (o.getD z) else .bad
def rDIn (i : Nat) (e : Rho → Re D) (ρ : Rho) : Re D := if (gt ρ i).isD = true then (e ρ).bind fun y => (dHas (gt ρ i) y).bind fun b => .ok (.bl b) else .bad
def rDNotIn (i : Nat) (e : Rho → Re D) (ρ : Rho) : Re D := if (gt ρ i).isD = true then (e ρ).bind fun y => (dHas (gt ρ i) y).bind fun b => .ok (.bl (!b)) else .bad
def rDLen (i : Nat) (ρ : Rho) : Re D := dLen (gt ρ i)
def dPut (s : Sl) (y v : D) : Option Sl := match s with
  | .oT ks vs => (keyT y).bind fun k => if ks.length < 1000000 then some (.oT (kput ks k) (vput ks vs k v)) else none
  | .oK ks vs => (keyK y).bind fun k => if ks.length < 1000000 then some (.oK (kput ks k) (vput ks vs k v)) else none
  | _ => none
def Sl.isOD : Sl → Bool | .oT _ _ => true | .oK _ _ => true | _ => false
def rDPut (i : Nat) (e v : Rho → Re D) (ρ : Rho) : Os := if (gt ρ i).isOD = true then (v ρ).os ρ fun d => (e ρ).os ρ fun y => (match dPut (gt ρ i) y d with | some s => .nx (ρ.set i s) | none => .bad) else .bad
/-- a dict locked for good -/
def lockS : Sl → Option Sl | .oT ks vs => some (.dat (.fT ks vs)) | .oK ks vs => some (.dat (.fK ks vs)) | _ => none
def rLockF (i : Nat) (r : Rho → Os) (ρ : Rho) : Os := match lockS (gt ρ i) with | some s => r (ρ.set i s) | none => .bad
/-- module tables -/
def xModIx (kvs : List (Str × Int)) (e : Rho → Re D) (ρ : Rho) : Re D := (e ρ).bind fun y => match y with | .str k => (Re.of (mget kvs k)).bind fun v => .ok (.int v) | _ => .bad
def xModIn (kvs : List (Str × Int)) (e : Rho → Re D) (ρ : Rho) : Re D := (e ρ).bind fun y => match y with | .str k => .ok (.bl (mget kvs k).isSome) | _ => .bad
/-! ### exceptions -/
def rRaise0 (c : Cls) (ρ : Rho) : Os := .ex ⟨c, none⟩ ρ
def rRaise1 (c : Cls) (f : Str) (e : Rho → Re D) (ρ : Rho) : Os := (e ρ).os ρ fun d => .ex ⟨c, some (f, d)⟩ ρ
open Classical in
/-- the same wherever the exception stands -/
noncomputable def Os.uni (f : Addr → Option Addr → Os) : Os := if ∀ a o, f a o = f (0 : Nat) none then f (0 : Nat) none else .bad
theorem Os.uni_eq {f : Addr → Option Addr → Os} {o : Os} (h : ∀ a d, f a d = o) : Os.uni f = o := by
  unfold Os.uni
  rw [if_pos (fun a d => (h a d).trans (h _ _).symm)]
  exact h _ _
theorem Os.uni_const (o : Os) : Os.uni (fun _ _ => o) = o := Os.uni_eq fun _ _ => rfl
def Os.noexc : Os → Os | .ex _ _ => .bad | o => o
def rowB (rows : List (Cls × Bool)) (c : Cls) : Option Bool := (rows.find? fun p => decide (p.1 = c)).map (·.2)
def xIsX (i : Nat) (a : Addr) (o : Option Addr) (rows : List (Cls × Bool)) (c : Cls) (ρ : Rho) : Re D := match gt ρ i with | .exc a' o' _ => if a' = a ∧ o' = o then (Re.of (rowB rows c)).bind fun b => .ok (.bl b) else .bad | _ => .bad
def rXf (i : Nat) (a : Addr) (o : Option Addr) (f : Str) (ρ : Rho) : Re D := match gt ρ i with | .exc a' o' (some (g, d)) => if a' = a ∧ o' = o ∧ g = f then .ok d else .bad | _ => .bad
end DL

set_option maxRecDepth 100000
set_option maxHeartbeats 1000000
namespace DL
open PySem PySem.Spec L2
section
variable {K : PySem.W.Frag} {W : WX} {ad : Cls → Addr} {te ta tb tc td tx ty tv : TE} {tt tu : TT} {ts tr : TS} {tas tks : TA} {ti ti1 : TI} {to tlo thi : TO} {g g1 : TG} {u : TGs} {r r' r3 r4 : R2}
  {ea eb ec ee ef ev : Rho → Re D} {eo : Rho → Re Sl} {es es2 : Rho → Re (List D)} {et eu : Rho → Re Bool} {ei ei1 : Rho → Re (List D)} {ep eq : Rho → Re (Option Int)} {xa xb : Rho → Os} {hg hg1 : D → Rho → Option Rho} {hu : List D → Rho → Option Rho} {o o2 o3 o4 : D → D → Option D}
theorem gt_val {ρ : Rho} {i : Nat} {P : D → Prop} {X : Exn → Prop} (h : (gt ρ i).val.post ad P X) : ∃ d, ρ[i]? = some (.dat d) ∧ P d := by
  cases e : gt ρ i with
  | dat d => rw [e] at h; exact ⟨d, gt_at e (by intro z; cases z), h⟩
  | _ => rw [e] at h; exact h.elim
theorem cVar (i : Nat) : CE K W ad (tVar i) (rVar i) := fun ρ P X h => by
  obtain ⟨d, h1, h2⟩ := gt_val h
  exact ev_var h1 h2
theorem cInt (i : Int) : CE K W ad (tC (.int i)) (rC (.int i)) := fun ρ P X h => ev_int h
theorem cBl (i : Bool) : CE K W ad (tC (.bl i)) (rC (.bl i)) := fun ρ P X h => ev_bl h
theorem cStr (i : Str) : CE K W ad (tC (.str i)) (rC (.str i)) := fun ρ P X h => ev_str h
theorem cOp (ho : C2 K r o) (ha : CE K W ad ta ea) (hb : CE K W ad tb eb) : CE K W ad (tOp r ta tb) (rOp o ea eb) := fun ρ P X h =>
  ev_op (ha ρ _ X ((Re.post_bind h).imp fun x h2 => hb ρ _ X ((Re.post_bind h2).imp fun y h3 => by
    obtain ⟨z, e, p⟩ := Re.post_of h3
    exact ho x y z P e p)))
theorem cCb {rc : List V → Hp → VK → Prop} {o : List D → Option D} (ho : CF K rc o) (ha : CA K W ad tas es) : CE K W ad (tCB rc tas) (rCb o es) := fun ρ P X h =>
  ev_cb (ha ρ _ X ((Re.post_bind h).imp fun x h2 => by
    obtain ⟨z, e, p⟩ := Re.post_of h2
    exact ho x z P e p))
theorem cNil : CA K W ad tNil rNil := fun ρ P X h => av_nil h
theorem cCons (ha : CE K W ad ta ea) (hb : CA K W ad tas es) : CA K W ad (tCons ta tas) (rCons ea es) := fun ρ P X h =>
  av_cons (ha ρ _ X ((Re.post_bind h).imp fun x h2 => hb ρ _ X ((Re.post_bind h2).imp fun y h3 => h3)))
theorem seqD_is {d : D} {l : List D} (h : seqD d = some l) : d = .lst l ∨ d = .tup l := by
  cases d <;> first | (cases h; exact .inl rfl) | (cases h; exact .inr rfl) | cases h
theorem get_post {s : Sl} {P : D → Prop} {X : Exn → Prop} (h : s.get.post ad P X) : s.ok = true ∧ P s.still := by
  cases s with
  | no => exact h.elim
  | ref a => exact h.elim
  | exc a b c => exact h.elim
  | _ => exact ⟨rfl, h⟩
theorem cStill (ha : CO K W ad te eo) : CE K W ad te (rStill eo) := fun ρ P X h =>
  EvO.still (ha ρ _ X ((Re.post_bind h).imp fun s h2 => get_post h2))
theorem cTup (ha : CA K W ad tas es) : CE K W ad (tTup tas) (rTup es) := fun ρ P X h =>
  ev_tup (ha ρ _ X ((Re.post_bind h).imp fun x h2 => by
    by_cases c : x.length ≤ 1000000
    · rw [if_pos c] at h2; exact ⟨small_sz c, h2⟩
    · rw [if_neg c] at h2; exact h2.elim))
theorem cLst (ha : CA K W ad tas es) : CO K W ad (tLst tas) (rLst es) := fun ρ P X h =>
  eo_lst (ha ρ _ X ((Re.post_bind h).imp fun x h2 => by
    by_cases c : x.length ≤ 1000000
    · rw [if_pos c] at h2; exact ⟨small_sz c, h2⟩
    · rw [if_neg c] at h2; exact h2.elim))
theorem cIfE (ht : CB K W ad tt et) (ha : CE K W ad ta ea) (hb : CE K W ad tb eb) : CE K W ad (tIf tt ta tb) (rIfE et ea eb) := fun ρ P X h =>
  ev_if (ht ρ _ X ((Re.post_bind h).imp fun c h2 => by
    cases c with
    | true => exact ha ρ P X h2
    | false => exact hb ρ P X h2))
theorem blD_post {x : Option D} {P : Bool → Prop} {X : Exn → Prop} (h : (blD x).post ad P X) : ∃ b, x = some (.bl b) ∧ P b := by
  cases x with
  | none => exact h.elim
  | some d => cases d with
    | bl b => exact ⟨b, rfl, h⟩
    | _ => exact h.elim
theorem cChain (h1 : C2 K r o) (h2 : C2 K r' o2) (ha : CE K W ad ta ea) (hb : CE K W ad tb eb) (hc : CE K W ad tc ec) : CE K W ad (tChain r r' ta tb tc) (rChain o o2 ea eb ec) := fun ρ P X h =>
  ev_chain (ha ρ _ X ((Re.post_bind h).imp fun x q => hb ρ _ X ((Re.post_bind q).imp fun y q => by
    obtain ⟨k, e, q⟩ := blD_post (Re.post_bind q)
    refine h1 x y _ _ e ⟨k, rfl, ?_⟩
    cases k with
    | true => exact hc ρ _ X ((Re.post_bind q).imp fun z q => by
        obtain ⟨w, e, p⟩ := Re.post_of q
        exact h2 y z w P e p)
    | false => exact q)))
/-! tests -/
theorem blx_post {x : D} {P : Bool → Prop} {X : Exn → Prop} (h : (match x with | .bl c => Re.ok c | _ => .bad : Re Bool).post ad P X) : ∃ b, x = .bl b ∧ P b := by
  cases x with
  | bl b => exact ⟨b, rfl, h⟩
  | _ => exact h.elim
theorem cTest (ha : CE K W ad ta ea) : CB K W ad (tTest ta) (rTest ea) := fun ρ P X h =>
  bv_test (ha ρ _ X ((Re.post_bind h).imp fun x h2 => blx_post h2))
theorem cYes : CB K W ad tYes rYes := fun ρ P X h => bv_yes h
theorem cOr (ha : CB K W ad tt et) (hb : CB K W ad tu eu) : CB K W ad (tOr tt tu) (rOr et eu) := fun ρ P X h =>
  bv_or (ha ρ _ X ((Re.post_bind h).imp fun c h2 => by
    cases c with
    | true => exact h2
    | false => exact hb ρ P X h2))
theorem cNot (ha : CB K W ad tt et) : CB K W ad (tNot tt) (rNot et) := fun ρ P X h =>
  bv_not (ha ρ _ X ((Re.post_bind h).imp fun c h2 => h2))
theorem truD_is {d : D} {b : Bool} (h : truD d = some b) : TruD d b := by
  cases d with
  | non => cases h; exact .non
  | bl b => cases h; exact .bl b
  | int i => cases h; have := TruD.int i; rwa [show (i != 0) = decide (i ≠ 0) from by simp [bne, BEq.beq]] at this
  | str x =>
    simp only [truD] at h
    split at h
    · rename_i c
      cases h
      have := TruD.str x (small_sz c)
      rwa [show ((x.length : Int) != 0) = decide (x.length ≠ 0) from by
        by_cases q : x.length = 0 <;> simp [q]] at this
    · cases h
  | lst l => cases h; exact .lst l
  | tup l => cases h; exact .tup l
  | _ => cases h
theorem cTru (ha : CE K W ad ta ea) : CB K W ad (tTru K ta) (rTru ea) := fun ρ P X h =>
  bv_tru (ha ρ _ X ((Re.post_bind h).imp fun x h2 => by
    obtain ⟨b, e, p⟩ := Re.post_of h2
    exact ⟨b, truD_is e, p⟩))
/-! targets -/
theorem gNm (i : Nat) : CG K (gName i) (gnm i) := fun d ρ ρ' P h p => by cases h; exact gv_name p
/-! comprehensions -/
theorem cLc {vs : List Nat} (hi : CI K W ad ti ei) (gi : GIn g vs) (h1 : CG K g hg) (ht : CB K W0 ad tt et) (he : CE K W0 ad te ee) : CO K W ad (tLc ti g tt te vs) (rLc ei hg et ee vs) := fun ρ P X h =>
  eo_lcD gi (hi ρ _ X ((Re.post_bind h).imp fun xs h2 => by
    by_cases c : xs.length ≤ 1000000
    · rw [if_pos c] at h2
      have h3 := Re.post_noex (Re.post_bind h2)
      refine ⟨fun i acc => acc.length ≤ i ∧ (lcGo (lcF hg et ee (wipeR ρ vs)) (xs.drop i)).post ad (fun l => P (.own (acc ++ l))) X0, ⟨Nat.le_refl _, by rw [List.drop_zero]; exact h3⟩, ?_, ?_⟩
      · rintro i x acc hx ⟨la, hr⟩
        have hi := (List.getElem?_eq_some_iff.mp hx).1
        have ed : xs.drop i = x :: xs.drop (i + 1) := by
          rw [List.drop_eq_getElem_cons hi]
          rw [List.getElem?_eq_getElem hi] at hx
          rw [Option.some.inj hx]
        rw [ed, lcGo] at hr
        have hr := Re.post_bind hr
        unfold lcF at hr
        cases q : hg x (wipeR ρ vs) with
        | none => rw [q] at hr; exact hr.elim
        | some ρ' =>
          rw [q] at hr
          refine h1 _ _ _ _ q (ht ρ' _ X0 ((Re.post_bind hr).imp fun b hb => ?_))
          cases b with
          | true =>
            refine he ρ' _ X0 ((Re.post_bind hb).imp fun y hy => ?_)
            refine ⟨small_lt (by omega), by rw [List.length_append]; simp; omega, ?_⟩
            exact (Re.post_bind hy).imp fun l hl => by
              show P (.own ((acc ++ [y]) ++ l))
              rw [List.append_assoc]
              exact hl
          | false => exact ⟨by omega, (Re.post_bind hb).imp fun l hl => hl⟩
      · rintro acc ⟨_, hr⟩
        rw [List.drop_length] at hr
        have : P (.own (acc ++ [])) := hr
        rwa [List.append_nil] at this
    · rw [if_neg c] at h2; exact h2.elim))
end
end DL

set_option maxRecDepth 100000
set_option maxHeartbeats 1000000
namespace DL
open PySem PySem.Spec L2
section
variable {K : PySem.W.Frag} {W : WX} {ad : Cls → Addr} {te ta tb tc td tx ty tv tl tix : TE} {tt tu : TT} {ts tr : TS} {tas tks : TA} {ti ti1 : TI} {to tlo thi : TO} {g g1 : TG} {u : TGs} {r r' r3 r4 : R2}
  {ea eb ec ee ef ev eix : Rho → Re D} {eo : Rho → Re Sl} {es es2 : Rho → Re (List D)} {et eu : Rho → Re Bool} {ei ei1 : Rho → Re (List D)} {ep eq : Rho → Re (Option Int)} {xa xb : Rho → Os} {hg hg1 : D → Rho → Option Rho} {hu : List D → Rho → Option Rho} {o o2 o3 o4 : D → D → Option D}
/-! statements -/
theorem cNext : CS K W ad tNext rNext := fun ρ E h => ws_next h
theorem cSeq (ha : CS K W ad ts xa) (hb : CS K W ad tr xb) : CS K W ad (tSeq ts tr) (rSeq xa xb) := fun ρ E h =>
  ws_seq (ha ρ _ (by
    have := Os.post_thn h
    cases q : xa ρ with
    | nx ρ' => rw [q] at this; exact hb ρ' E this
    | _ => rw [q] at this; exact this))
theorem cDrop (ha : CE K W ad te ea) : CS K W ad (tDrop te) (rDrop ea) := fun ρ E h => ws_drop (ha ρ _ _ ((Re.os_post h).imp fun d q => q))
theorem cRet (ha : CE K W ad te ea) : CS K W ad (tRet te) (rRet ea) := fun ρ E h => ws_ret (ha ρ _ _ ((Re.os_post h).imp fun d q => q))
theorem cRetO (ha : CO K W ad te eo) : CS K W ad (tRet te) (rRetO eo) := fun ρ E h => ws_retO (ha ρ _ _ ((Re.os_post h).imp fun d q => q))
theorem cRetV (i : Nat) : CS K W ad (tRet (tVar i)) (rRetV i) := fun ρ E h => by
  unfold rRetV at h
  cases q : gt ρ i with
  | no => rw [q] at h; exact h.elim
  | ref a => rw [q] at h; exact h.elim
  | exc a b c => rw [q] at h; exact h.elim
  | _ => rw [q] at h; exact ws_retv (gt_at q (by intro z; cases z)) (by intro z; cases z) h
theorem cSet (i : Nat) (ha : CE K W ad te ea) : CS K W ad (tAsg te (gName i)) (rSet i ea) := fun ρ E h => ws_set (ha ρ _ _ ((Re.os_post h).imp fun d q => q))
theorem cSetO (i : Nat) (ha : CO K W ad te eo) : CS K W ad (tAsg te (gName i)) (rSetO i eo) := fun ρ E h => ws_setO (ha ρ _ _ ((Re.os_post h).imp fun d q => q))
theorem cIf (ht : CB K W ad tt et) (ha : CS K W ad ts xa) (hb : CS K W ad tr xb) : CS K W ad (tIfS tt ts tr) (rIf et xa xb) := fun ρ E h => ws_if (ht ρ _ _ ((Re.os_post h).imp fun c q => by
  cases c with
  | true => exact ha ρ E q
  | false => exact hb ρ E q))
theorem kil_post {x : Os} {ks : List Nat} {E : En} (h : (x.kil ks).post ad E) : x.post ad { nx := fun ρ => E.nx (fgt ks ρ), rt := E.rt, bk := fun ρ => E.bk (fgt ks ρ), ct := fun ρ => E.ct (fgt ks ρ), ex := E.ex } := by
  cases x <;> exact h
theorem cK (ks : List Nat) (ha : CS K W ad ts xa) : CS K W ad ts (rK ks xa) := fun ρ E h He0 He σ H0 H D S e =>
  ha ρ _ (kil_post h) He0 He σ H0 H D S ⟨fun ρ σ H0 H q S => e.nx _ σ H0 H q (S.forgets ks), e.rt, fun ρ σ H0 H q S => e.bk _ σ H0 H q (S.forgets ks), fun ρ σ H0 H q S => e.ct _ σ H0 H q (S.forgets ks), e.ex⟩
theorem ws_frz1 {ρ : Rho} {E : En} (i : Nat) (h : WS K W ts (frz1 i ρ) E) : WS K W ts ρ E := by
  unfold frz1 at h
  cases q : gt ρ i with
  | own ds => rw [q] at h; exact ws_freeze (gt_at q (by intro z; cases z)) rfl h
  | oK ks vs => rw [q] at h; exact ws_freeze (gt_at q (by intro z; cases z)) rfl h
  | oT ks vs => rw [q] at h; exact ws_freeze (gt_at q (by intro z; cases z)) rfl h
  | _ => rw [q] at h; exact h
theorem ws_frz {E : En} : ∀ (is : List Nat) (ρ : Rho), WS K W ts (frz is ρ) E → WS K W ts ρ E
  | [], _, h => h
  | i :: is, ρ, h => ws_frz1 i (ws_frz is _ h)
theorem cF (is : List Nat) (ha : CS K W ad ts xa) : CS K W ad ts (rF is xa) := fun ρ E h => ws_frz is ρ (ha _ E h)
theorem cWhile (ht : CB K W ad tt et) (hb : CS K W ad ts xa) : CS K W ad (tWhile tt ts) (rWhile et xa) := fun ρ E h => by
  unfold rWhile at h
  split at h
  · rename_i hx
    generalize Classical.choose hx = n at h
    refine ws_while (fun m ρ' => (whl et xa m ρ').post ad E) ⟨n, h⟩ fun m ρ' hm => ?_
    cases m with
    | zero => exact hm.elim
    | succ m =>
      refine ht ρ' _ _ ((Re.os_post hm).imp fun c q => ?_)
      cases c with
      | true =>
        refine hb ρ' _ ?_
        replace q : (match xa ρ' with | .nx ρ' => whl et xa m ρ' | .ct ρ' => whl et xa m ρ' | .bk ρ' => .nx ρ' | o => o : Os).post ad E := q
        cases e : xa ρ' with
        | nx ρ2 => rw [e] at q; exact ⟨m, Nat.lt_succ_self m, q⟩
        | ct ρ2 => rw [e] at q; exact ⟨m, Nat.lt_succ_self m, q⟩
        | bk ρ2 => rw [e] at q; exact q
        | _ => rw [e] at q; exact q
      | false => exact q
  · exact h.elim
theorem cFor (hi : CI K W ad ti ei) (h1 : CG K g hg) (hb : CS K W ad ts xa) : CS K W ad (tFor ti g ts) (rFor ei hg xa) := fun ρ E h =>
  ws_forD (hi ρ _ _ ((Re.os_post h).imp fun xs h2 => by
    refine ⟨fun i ρ' => (forGo (stepFor hg xa) (xs.drop i) ρ').post ad E, by show (forGo (stepFor hg xa) (xs.drop 0) ρ).post ad E; rw [List.drop_zero]; exact h2, ?_, ?_⟩
    · intro i x ρ' hx hr
      have hi := (List.getElem?_eq_some_iff.mp hx).1
      have ed : xs.drop i = x :: xs.drop (i + 1) := by
        rw [List.drop_eq_getElem_cons hi]
        rw [List.getElem?_eq_getElem hi] at hx
        rw [Option.some.inj hx]
      rw [ed, forGo] at hr
      unfold stepFor at hr
      cases q : hg x ρ' with
      | none => rw [q] at hr; exact hr.elim
      | some ρ2 =>
        rw [q] at hr
        refine h1 _ _ _ _ q (hb ρ2 _ ?_)
        dsimp only at hr
        cases e : xa ρ2 with
        | nx ρ3 => rw [e] at hr; exact hr
        | ct ρ3 => rw [e] at hr; exact hr
        | bk ρ3 => rw [e] at hr; exact hr
        | _ => rw [e] at hr; exact hr
    · intro ρ' hr
      rw [List.drop_length] at hr
      exact hr))
theorem ownL_post {ρ : Rho} {i : Nat} {P : List D → Prop} {X : Exn → Prop} (h : (gt ρ i).ownL.post ad P X) : ∃ l, ρ[i]? = some (.own l) ∧ P l := by
  cases e : gt ρ i with
  | own d => rw [e] at h; exact ⟨d, gt_at e (by intro z; cases z), h⟩
  | _ => rw [e] at h; exact h.elim
theorem cAppend (i : Nat) (ha : CE K W ad te ea) : CS K W ad (tDrop (tBM K "list" rAppend (tVar i) (tCons te tNil))) (xAppend i ea) := fun ρ E h => by
  obtain ⟨l, h1, h2⟩ := ownL_post (Re.os_post h)
  refine ws_append h1 (ha ρ _ _ ((Re.os_post h2).imp fun y q => ?_))
  by_cases c : l.length < 1000000
  · rw [if_pos c] at q; exact ⟨small_lt (by omega), q⟩
  · rw [if_neg c] at q; exact q.elim
/-! operators -/
theorem od_ixLT {x y z : D} {P : D → Prop} (h : oIx x y = some z) (p : P z) : OpD K (rIx K) x y P := by
  unfold oIx at h
  split at h
  · exact od_ixL h p
  · exact od_ixT h p
  · split at h
    · rename_i s i c
      cases q : atI s.cps.toList i with
      | none => rw [q] at h; cases h
      | some cc =>
        rw [q] at h
        cases h
        exact od_ixS (small_sz c) q p
    · cases h
  · cases h
theorem pIx : C2 K (rIx K) oIx := fun x y z P h p => od_ixLT h p
theorem pAdd : C2 K (rAdd K) oAdd := fun x y z P h p => by
  unfold oAdd at h
  split at h
  · cases h; exact od_addI p
  · split at h
    · rename_i c; cases h; exact od_addL (small_sz c) p
    · cases h
  · split at h
    · rename_i c; cases h; exact od_addT (small_sz c) p
    · cases h
  · split at h
    · rename_i c; cases h; exact od_addS (small_sz c) p
    · cases h
  · cases h
theorem pSub : C2 K (rI0 fun i j => .int (i - j)) oSub := fun x y z P h p => by
  unfold oSub at h
  split at h
  · cases h; exact od_int0 (g := fun i j => i - j) p
  · cases h
theorem mulOk_ok {i j : Int} (h : mulOk i j) : CMul i j ∨ CMulW i j := by
  rcases h with ⟨a, b, c, d⟩ | c | c
  · exact .inr (wide_mul (a := 400) (b := 400) (by omega) (by omega) (by decide) (by decide) (by decide))
  · exact .inl (.inr ⟨by omega, by omega⟩)
  · exact .inl (.inl ⟨by omega, by omega⟩)
theorem pMul : C2 K rMulA oMul := fun x y z P h p => by
  unfold oMul at h
  split at h
  · split at h
    · rename_i c; cases h; exact od_mulI (mulOk_ok c) p
    · cases h
  · split at h
    · rename_i c; cases h; exact od_mulL ⟨c.1, by omega, small_sz c.2.2⟩ p
    · cases h
  · cases h
theorem pDiv : C2 K rDivA oDiv := fun x y z P h p => by
  unfold oDiv at h
  split at h
  · split at h
    · rename_i c; cases h; exact od_divB c.1 (by rcases c.2 with q | q <;> omega) p
    · cases h
  · cases h
theorem pMod : C2 K (rI (fun _ j => 0 < j) fun i j => .int (i % j)) oMod := fun x y z P h p => by
  unfold oMod at h
  split at h
  · split at h
    · rename_i c; cases h; exact od_modI c p
    · cases h
  · cases h
theorem pPow : C2 K (rI CPow fun i j => .int (i ^ j.toNat)) oPow := fun x y z P h p => by
  unfold oPow at h
  split at h
  · split at h
    · rename_i c; cases h; exact od_powI ⟨c.1, c.2.1, by omega⟩ p
    · cases h
  · cases h
theorem pLt : C2 K (rI0 fun i j => .bl (decide (i < j))) oLt := fun x y z P h p => by
  unfold oLt at h
  split at h
  · cases h; exact od_intb (g := fun i j => decide (i < j)) p
  · cases h
theorem pLe : C2 K (rI0 fun i j => .bl (decide (i ≤ j))) oLe := fun x y z P h p => by
  unfold oLe at h
  split at h
  · cases h; exact od_intb (g := fun i j => decide (i ≤ j)) p
  · cases h
theorem pGt : C2 K (rI0 fun i j => .bl (decide (j < i))) oGt := fun x y z P h p => by
  unfold oGt at h
  split at h
  · cases h; exact od_intb (g := fun i j => decide (j < i)) p
  · cases h
theorem pGe : C2 K (rI0 fun i j => .bl (decide (j ≤ i))) oGe := fun x y z P h p => by
  unfold oGe at h
  split at h
  · cases h; exact od_intb (g := fun i j => decide (j ≤ i)) p
  · cases h
theorem pEq : C2 K (rEqA K) oEq := fun x y z P h p => by
  unfold oEq at h
  split at h
  · cases h; exact od_eqAI p
  · cases h; exact od_eqAB p
  · cases h; exact od_eqAS p
  · split at h
    · rename_i c
      cases h
      obtain ⟨⟨n, n1, s1⟩, m, m1, s2⟩ := c
      exact od_eqD s1 s2 p n1 m1
    · cases h
theorem pNe : C2 K (rNeA K) oNe := fun x y z P h p => by
  unfold oNe at h
  split at h
  · rename_i i j; cases h; exact od_neAI (by rw [show decide (i ≠ j) = !decide (i = j) from by simp]; exact p)
  · rename_i i j; cases h; exact od_neAB (by rw [show decide (i ≠ j) = !decide (i = j) from by simp]; exact p)
  · rename_i i j; cases h; exact od_neAS (by rw [show decide (i ≠ j) = !decide (i = j) from by simp]; exact p)
  · split at h
    · rename_i c
      cases h
      obtain ⟨⟨n, n1, s1⟩, m, m1, s2⟩ := c
      exact od_neD s1 s2 p n1 m1
    · cases h
/-! built-ins -/
theorem fAbs : CF K rAbs bAbs := fun x z P h p => by
  unfold bAbs at h
  split at h
  · cases h; exact cd_abs p
  · cases h
theorem fLen : CF K (rLn K) bLen := fun x z P h p => by
  unfold bLen at h
  split at h
  · cases h; exact cd_lenL p
  · cases h; exact cd_lenT p
  · split at h
    · rename_i c; cases h; exact cd_lenS (small_sz c) p
    · cases h
  · cases h
theorem fInt : CF K rInt1 bInt := fun x z P h p => by
  unfold bInt at h
  split at h
  · cases h; exact cd_int p
  · cases h; exact cd_intB p
  · cases h
theorem fTuple : CF K (rTupleOf K) bTuple := fun x z P h p => by
  unfold bTuple at h
  split at h
  · cases h; exact cd_tupleL p
  · cases h; exact cd_tupleT p
  · cases h
theorem fAll : CF K (rAll K) bAll := fun x z P h p => by
  unfold bAll at h
  split at h
  · rename_i l
    cases e2 : asB l with
    | none => rw [e2] at h; cases h
    | some is =>
      rw [e2] at h
      cases h
      have el := asB_is e2
      subst el
      exact cd_all p
  · cases h
theorem fMax2 : CF K rMax2 bMax2 := fun x z P h p => by
  unfold bMax2 at h
  split at h
  · rename_i i j
    cases h
    exact cd_max2 (by rw [show (if j > i then j else i) = max i j from by omega]; exact p)
  · cases h
theorem fMin2 : CF K rMin2 bMin2 := fun x z P h p => by
  unfold bMin2 at h
  split at h
  · rename_i i j
    cases h
    exact cd_min2 (by rw [show (if j < i then j else i) = min i j from by omega]; exact p)
  · cases h
end
end DL

set_option maxRecDepth 100000
set_option maxHeartbeats 1000000
namespace DL
open PySem PySem.Spec L2
section
variable {K : PySem.W.Frag} {He0 He : Hp} {σ : St} {H0 H H0' H' : Hp} {ρ : Rho}
end
/-! ### one's own is lent: read as still data, where the answer has nothing of its kind -/
mutual
/-- k: a list is within; not k: a dict -/
def D.has (k : Bool) : D → Bool
  | .lst l => k || D.hass k l
  | .tup l => D.hass k l
  | .src _ => k
  | .dK _ vs => !k || D.hass k vs
  | .dT _ vs => !k || D.hass k vs
  | .fK _ vs => !k || D.hass k vs
  | .fT _ vs => !k || D.hass k vs
  | .ins _ _ ds => D.hass k ds
  | _ => false
def D.hass (k : Bool) : List D → Bool
  | [] => false
  | d :: l => D.has k d || D.hass k l
end
section
variable {K : PySem.W.Frag} {H G : Hp} {a : Addr} {o : HO} {k : Bool}
end
def Sl.has (k : Bool) : Sl → Bool
  | .dat d => d.has k
  | .own ds => D.hass k ds
  | .oK _ vs => D.hass k vs
  | .oT _ vs => D.hass k vs
  | _ => true
section
variable {K : PySem.W.Frag} {W : WX} {te : TE} {ρ : Rho} {P : D → Prop} {PS : Sl → Prop} {X : Exn → Prop}
end
def Re.lendD (k : Bool) : Re D → Re D | .ok d => if d.has k = false then .ok d else .bad | _ => .bad
def Re.lendS (k : Bool) : Re Sl → Re Sl | .ok d => if d.has k = false then .ok d else .bad | _ => .bad
def rL (i : Nat) (e : Rho → Re D) (ρ : Rho) : Re D := match gt ρ i with
  | .own l => (e (ρ.set i (.dat (.lst l)))).lendD true
  | .oK ks vs => (e (ρ.set i (.dat (.dK ks vs)))).lendD false
  | .oT ks vs => (e (ρ.set i (.dat (.dT ks vs)))).lendD false
  | _ => e ρ
def rLO (i : Nat) (e : Rho → Re Sl) (ρ : Rho) : Re Sl := match gt ρ i with
  | .own l => (e (ρ.set i (.dat (.lst l)))).lendS true
  | .oK ks vs => (e (ρ.set i (.dat (.dK ks vs)))).lendS false
  | .oT ks vs => (e (ρ.set i (.dat (.dT ks vs)))).lendS false
  | _ => e ρ
section
variable {K : PySem.W.Frag} {W : WX} {ad : Cls → Addr} {te ta tb tc td tx ty tv tl tix : TE} {tt tu : TT} {ts tr : TS} {tas tks : TA} {ti ti1 : TI} {to tlo thi : TO} {g g1 : TG} {u : TGs} {r r' r3 r4 : R2}
  {ea eb ec ee ef ev eix : Rho → Re D} {eo : Rho → Re Sl} {es es2 : Rho → Re (List D)} {et eu : Rho → Re Bool} {ei ei1 : Rho → Re (List D)} {ep eq : Rho → Re (Option Int)} {xa xb : Rho → Os} {hg hg1 : D → Rho → Option Rho} {hu : List D → Rho → Option Rho} {o o2 o3 o4 : D → D → Option D}
/-! kinds -/
theorem isT_is {d : D} {t : Ty} {b : Bool} (h : isT d t = some b) : TyD d (tyD d) ∧ kitB (tyD d) t.nm = some b := by
  have ty : tyD d ≠ "?" := by
    cases d <;> first | exact (by decide : "NoneType" ≠ "?") | exact (by decide : "bool" ≠ "?") | exact (by decide : "int" ≠ "?") | exact (by decide : "str" ≠ "?") | exact (by decide : "list" ≠ "?") | exact (by decide : "tuple" ≠ "?") | (cases t <;> cases h)
  refine ⟨TyD.of ty, ?_⟩
  cases d <;> cases t <;> first | (cases h; done) | (cases h; dsimp only [tyD, Ty.nm]; decide +kernel)
theorem cIsi (t : Ty) {m : String} (hm : m = t.nm := by rfl) (ha : CE K W ad te ea) : CE K W ad (tCB (rIsi K) (tCons te (tCons (tC (.ty m)) tNil))) (xIsi t ea) := fun ρ P X h => by
  subst hm
  intro He0 He σ H0 H Q S x k
  refine ha ρ (fun d => ∃ b, isT d t = some b ∧ P (.bl b)) X ((Re.post_bind h).imp fun d h2 => ?_) He0 He σ H0 H _ S x fun v d H1 H1' p S1 e1 r1 => ?_
  · obtain ⟨b, e, p⟩ := Re.post_of (Re.post_bind h2)
    exact ⟨b, e, p⟩
  · obtain ⟨b, e, p⟩ := p
    obtain ⟨t1, t2⟩ := isT_is e
    refine ⟨v, .ty t.nm, .type (tyD d), .type t.nm, b, rfl, .ty t.nm, ?_, kit_ty t2, k _ _ H1 H1' p S1 e1 (.bl b)⟩
    generalize tyD d = n at t1
    cases t1 with
    | non => cases r1; exact .base .non
    | bl b => cases r1; exact .base (.bl b)
    | int b => cases r1; exact .base (.int b)
    | str b => cases r1; exact .base (.str b)
    | lst l => cases r1 with | lst ha rs => exact .base (.lst (S1.sub _ _ ha))
    | tup l => cases r1 with | tup ha rs => exact .base (.tup (S1.sub _ _ ha))
/-! walks -/
theorem wISeq (ha : CE K W ad tl ea) : CI K W ad (iSeq K tl) (rISeq ea) := fun ρ P X h => iv_seq (ha ρ _ X ((Re.post_bind h).imp fun d q => by
  obtain ⟨l, e, p⟩ := Re.post_of q
  exact ⟨l, seqD_is e, p⟩))
theorem wIRng1 (ha : CA K W ad tas es) : CI K W ad (iRng1 tas) (rIRng1 es) := fun ρ P X h => iv_rg1 (ha ρ _ X ((Re.post_bind h).imp fun d q => by
  unfold irng1 at q
  split at q
  · split at q
    · rename_i n c; exact ⟨n, rfl, c, q⟩
    · exact q.elim
  · exact q.elim))
theorem wIRng2 (ha : CA K W ad tas es) : CI K W ad (iRng2 tas) (rIRng2 es) := fun ρ P X h => iv_rg2 (ha ρ _ X ((Re.post_bind h).imp fun d q => by
  unfold irng2 at q
  split at q
  · split at q
    · rename_i m n c; exact ⟨m, n, rfl, c, q⟩
    · exact q.elim
  · exact q.elim))
/-! slices -/
theorem cPN : CP K W ad tNoPart rPN := fun ρ P X h => ov_none h
theorem cPS (ha : CE K W ad te ea) : CP K W ad (tPart te) (rPS ea) := fun ρ P X h => ov_some (ha ρ _ X ((Re.post_bind h).imp fun d q => by
  cases d with
  | int i => exact ⟨i, rfl, q⟩
  | _ => exact q.elim))
theorem cSl {rs : V → Option Int → Option Int → Hp → VK → Prop} {so : D → Option Int → Option Int → Option D} (hs : CSl K rs so) (ha : CE K W ad te ea) (hl : CP K W ad tlo ep) (hh : CP K W ad thi eq) : CE K W ad (tSl rs te tlo thi) (rSl so ea ep eq) := fun ρ P X h =>
  ev_sl (ha ρ _ X ((Re.post_bind h).imp fun x q => hl ρ _ X ((Re.post_bind q).imp fun lo q => hh ρ _ X ((Re.post_bind q).imp fun hi q => by
    obtain ⟨z, e, p⟩ := Re.post_of q
    exact hs x lo hi z P e p))))
theorem sSlAny : CSl K (rSlAny K) oSlAny := fun x lo hi z P e p => by
  unfold oSlAny at e
  split at e
  · cases e; exact fun H0 H v Q s a k => .inl (sd_lst (K := K) (P := P) p H0 H v Q s a k)
  · cases e; exact fun H0 H v Q s a k => .inl (sd_src (K := K) (P := P) p H0 H v Q s a k)
  · cases e; exact fun H0 H v Q s a k => .inr (sd_tup (K := K) (P := P) p H0 H v Q s a k)
  · cases e
/-! by name -/
theorem cIxV (i : Nat) (ha : CE K W ad te ea) : CE K W ad (tOp (rIx K) (tVar i) te) (rIxV i ea) := fun ρ P X h => by
  unfold rIxV at h
  cases q : gt ρ i with
  | own l =>
    rw [q] at h
    refine ev_ixO (gt_at q (by intro z; cases z)) (ha ρ _ X ((Re.post_bind h).imp fun k hk => ?_))
    cases k with
    | int j =>
      obtain ⟨d, e, p⟩ := Re.post_of hk
      exact ⟨j, d, rfl, e, p⟩
    | _ => exact hk.elim
  | dat d =>
    rw [q] at h
    refine ev_op (ev_var (gt_at q (by intro z; cases z)) (ha ρ _ X ((Re.post_bind h).imp fun k hk => ?_)))
    obtain ⟨z, e, p⟩ := Re.post_of hk
    exact od_ixLT e p
  | _ => rw [q] at h; exact h.elim
theorem cLenV (i : Nat) : CE K W ad (tCB (rLn K) (tCons (tVar i) tNil)) (rLenV i) := fun ρ P X h => by
  unfold rLenV at h
  cases q : gt ρ i with
  | own l =>
    rw [q] at h
    exact ev_lenO (gt_at q (by intro z; cases z)) h
  | dat d =>
    rw [q] at h
    obtain ⟨z, e, p⟩ := Re.post_of h
    exact ev_cb (av_cons (ev_var (gt_at q (by intro z; cases z)) (av_nil (fLen _ _ _ e p))))
  | _ => rw [q] at h; exact h.elim
/-! dicts by name -/
/-! locks, tables -/
/-! exceptions -/
theorem cRaise0 (c : Cls) : CS K W ad (tRaise0 (ad c) W) (rRaise0 c) := fun ρ E h => ws_raise h
/-! sorted, as one's own -/
theorem eo_newL {H1 H1' : Hp} {He0 He : Hp} {σ : St} {ρ : Rho} {q : Addr} {ys : List V} {ds : List D} {H0 H : Hp} (S1 : StOk K He0 He σ H1 H1' ρ) (e1 : Ext H0 H H1 H1') (nq : H1' q = none) (rs : Rps K H1 ys ds) :
    StOk K He0 He σ H1 (upd H1' q (.lst ys)) ρ ∧ Ext H0 H H1 (upd H1' q (.lst ys)) ∧ RpS K H1 (upd H1' q (.lst ys)) (.ref q) (.own ds) ∧ NewAt H (.ref q) (.own ds) := by
  have e2 : Ext H1 H1' H1 (upd H1' q (.lst ys)) := .own S1.sub nq
  exact ⟨S1.ext e2, e1.trans e2, ⟨q, rfl, S1.sub.free nq, ys, upd_same, rs⟩, fun _ b e => by cases e; exact e1.s.free nq⟩
def sortedO (o : List D → Option D) (a : Rho → Re (List D)) (ρ : Rho) : Re Sl := (a ρ).bind fun x => (Re.of (o x)).bind fun z => match z with | .lst l => .ok (.own l) | _ => .bad
theorem cSortI (ha : CA K W ad tas es) : CO K W ad (tCB (rSortedA K) tas) (sortedO bSorted es) := fun ρ P X h => by
  intro He0 He σ H0 H Q S x k
  refine ha ρ (fun ds => ∃ (l : List Int), (ds = [.lst (l.map D.int)] ∨ ds = [.tup (l.map D.int)]) ∧ P (.own ((srt l).map D.int))) X ((Re.post_bind h).imp fun ds h2 => ?_) He0 He σ H0 H _ S x fun vs ds H1 H1' p S1 e1 r1 => ?_
  · obtain ⟨z, ez, hz⟩ := Re.post_of (Re.post_bind h2)
    unfold bSorted at ez
    split at ez
    · rename_i y
      cases e : seqD y with
      | none => rw [e] at ez; cases ez
      | some l =>
        rw [e] at ez
        replace ez : (asI l).map (fun is => D.lst ((srt is).map D.int)) = some z := ez
        cases e2 : asI l with
        | none => rw [e2] at ez; cases ez
        | some is =>
          rw [e2] at ez
          cases ez
          have el := asI_is e2
          subst el
          exact ⟨is, (seqD_is e).imp (fun z => by rw [z]) (fun z => by rw [z]), hz⟩
    · cases ez
  · obtain ⟨l, hd, p⟩ := p
    rcases hd with rfl | rfl
    · cases r1 with
      | cons r1 r2 =>
        cases r2
        cases r1 with
        | lst ha rs =>
          have e := rs.ints
          subst e
          refine .inl ⟨_, l, rfl, .inl (.inl (S1.sub _ _ ha)), fun l' q hp hw nq => ?_⟩
          obtain ⟨a1, a2, a3, a4⟩ := eo_newL S1 e1 nq (.of_ints (K := K) (H := H1) l')
          exact k _ (.own (l'.map D.int)) _ _ (by rw [srt_is hp hw]; exact p) a1 a2 a3 a4
    · cases r1 with
      | cons r1 r2 =>
        cases r2
        cases r1 with
        | tup ha rs =>
          have e := rs.ints
          subst e
          refine .inr ⟨_, l, rfl, .inl (.inl (S1.sub _ _ ha)), fun l' q hp hw nq => ?_⟩
          obtain ⟨a1, a2, a3, a4⟩ := eo_newL S1 e1 nq (.of_ints (K := K) (H := H1) l')
          exact k _ (.own (l'.map D.int)) _ _ (by rw [srt_is hp hw]; exact p) a1 a2 a3 a4
/-! calls and defs -/
abbrev spM (K : PySem.W.Frag) (ad : Cls → Addr) (m : List D → Re Sl) : Sp := spD K (fun ds => m ds ≠ .bad) (fun ds s => m ds = .ok s) (fun ds e => ∃ x, m ds = .ex x ∧ e = x.at ad)
theorem cCall {m : List D → Re Sl} (ha : CA K W ad tas es) : CO K W ad (tCallS (spM K ad m) (WE W) tas) (rCall m es) := fun ρ P X h =>
  eo_call (ha ρ _ X ((Re.post_bind h).imp fun ds q => by
    refine ⟨fun z => by rw [z] at q; exact q, fun s z => by rw [z] at q; exact q, ?_⟩
    rintro _ ⟨x, z, rfl⟩
    rw [z] at q
    exact q))
end
/-- a def's mirror: ar arguments, the slots behind them -/
def mkM (ar : Nat) (junk : List Sl) (r : Rho → Os) (ds : List D) : Re Sl := if ds.length = ar then (r (ds.map Sl.dat ++ junk)).ret else .bad
section
variable {P : Program} {w : World} {K : PySem.W.Frag} {ad : Cls → Addr} {mg : Str → Option Value} {base : Heap} {x qual : Str} {st : Stmt} {f : Addr} {fd : FuncData} {N ps : List Str} {k ar : Nat} {junk : List Sl} {r : Rho → Os} {dvs : List V} {kws : List (Str × V)}
theorem mkM_ws {W : WX} {t : TS} (hj : junk = List.replicate (N.length - ar) .no) (hc : CS K W ad t r) (ds : List D) (h : mkM ar junk r ds ≠ .bad) :
    WS K W t (startR N.length ds) { nx := fun _ => mkM ar junk r ds = .ok (.dat .non), rt := fun s => mkM ar junk r ds = .ok s, ex := fun e _ => ∃ x, mkM ar junk r ds = .ex x ∧ e = x.at ad } := by
  have hl : ds.length = ar := by
    unfold mkM at h
    split at h
    · assumption
    · exact absurd rfl h
  have e : mkM ar junk r ds = (r (startR N.length ds)).ret := by
    unfold mkM startR
    rw [if_pos hl, hj, hl]
  refine hc _ _ ?_
  rw [e] at h ⊢
  cases q : r (startR N.length ds) with
  | nx ρ => exact rfl
  | rt s => exact rfl
  | ex x ρ => exact ⟨x, rfl, rfl⟩
  | bk ρ => rw [q] at h; exact absurd rfl h
  | ct ρ => rw [q] at h; exact absurd rfl h
  | bad => rw [q] at h; exact absurd rfl h
theorem mkM_len (ds : List D) (h : mkM ar junk r ds ≠ .bad) : ds.length = ar := by
  unfold mkM at h
  split at h
  · assumption
  · exact absurd rfl h
theorem fn_wsM (F : Fun K x qual st f fd) (S : FnScope N ps (defScope st)) (hj : junk = List.replicate (N.length - ar) .no) (har : ar = ps.length)
    (hbody : ∀ (cdv : Value) (A : Around) (outer : List PySem.Env) (s : Shared) (H : Hp) (E : XK), Room k (A.deeper (PyProof.Rows.envOfC qual (defScope st) s.heap.objs.size f cdv)) →
      ∃ t, PSs (cxOf (L2.CX P w) P w K mg base N qual (defScope st) f cdv A outer s H E) (defBody st) t ∧ CS K (WD E) ad t r) :
    FnOk P w K mg base (L2.CX P w) (k + 1) f fd ps (spM K ad (mkM ar junk r)) :=
  fn_ws F S (fun ds h => (mkM_len ds h).trans har) (fun cdv A outer s H E hr => by
    obtain ⟨t, h1, h2⟩ := hbody cdv A outer s H E hr
    exact ⟨t, h1, fun ds h => mkM_ws hj h2 ds h⟩)
/-- the law's own def -/
theorem fn_wsLaw (F : Fun K x qual st f fd) (S : FnScope N ps (defScope st)) (hj : junk = List.replicate (N.length - ar) .no) (har : ar = ps.length) (hone : ps.length = 1)
    (hlaw : ∀ ns : List Int, ns.length ≤ 63 → mkM ar junk r [.src ns] = .ok (.dat (.bl true)))
    (hbody : ∀ (cdv : Value) (A : Around) (outer : List PySem.Env) (s : Shared) (H : Hp) (E : XK), Room k (A.deeper (PyProof.Rows.envOfC qual (defScope st) s.heap.objs.size f cdv)) →
      ∃ t, PSs (cxOf (L2.CX P w) P w K mg base N qual (defScope st) f cdv A outer s H E) (defBody st) t ∧ CS K (WD E) ad t r) :
    FnOk P w K mg base (L2.CX P w) (k + 1) f fd ps (spD K (fun ds => ∃ ns : List Int, ds = [.src ns] ∧ ns.length ≤ 63) (fun _ s => s = .dat (.bl true)) (fun _ _ => False)) :=
  fn_ws F S (fun ds ⟨ns, e, _⟩ => by rw [e, hone]; rfl) (fun cdv A outer s H E hr => by
    obtain ⟨t, h1, h2⟩ := hbody cdv A outer s H E hr
    refine ⟨t, h1, ?_⟩
    rintro ds ⟨ns, rfl, hn⟩
    have e := hlaw ns hn
    refine (mkM_ws hj h2 _ (by rw [e]; intro z; cases z)).imp (fun ρ q => ?_) (fun s q => ?_) (fun ρ q => q) (fun ρ q => q) (fun y ρ q => ?_)
    · rw [e] at q; cases q
    · rw [e] at q; cases q; rfl
    · obtain ⟨x, q, _⟩ := q; rw [e] at q; cases q)
end
inductive Rows {α : Type} (P : α → Prop) : List α → Prop
  | nil : Rows P []
  | cons {a : α} {l : List α} : P a → Rows P l → Rows P (a :: l)
end DL

set_option maxRecDepth 100000
set_option maxHeartbeats 1000000
namespace DL
open PySem PySem.Spec L2
/-! ### how evaluators come out: loops, comprehensions, tests -/
/-- a loop over typed items, a typed state with an invariant -/
theorem for_inv {α σ : Type} {step : D → Rho → Os} {inj : α → D} (up : σ → Rho) (I : Nat → σ → Prop) {xs : List α} {s0 : σ} (h0 : I 0 s0)
    (h : ∀ i x s, xs[i]? = some x → I i s → ∃ s', (step (inj x) (up s) = .nx (up s') ∨ step (inj x) (up s) = .ct (up s')) ∧ I (i + 1) s') :
    ∃ s', forGo step (xs.map inj) (up s0) = .nx (up s') ∧ I xs.length s' := by
  have go : ∀ (ys : List α) (i : Nat) (s : σ), xs.drop i = ys → I i s → ∃ s', forGo step (ys.map inj) (up s) = .nx (up s') ∧ I (i + ys.length) s' := by
    intro ys
    induction ys with
    | nil => exact fun i s _ hs => ⟨s, rfl, by simpa using hs⟩
    | cons y ys ih =>
      intro i s hd hs
      have hi : xs[i]? = some y := by
        have := congrArg (·[0]?) hd
        simpa using this
      have hd' : xs.drop (i + 1) = ys := by
        have := congrArg (List.drop 1) hd
        simpa [List.drop_drop, Nat.add_comm] using this
      obtain ⟨s1, e, h1⟩ := h i y s hi hs
      obtain ⟨s2, e2, h2⟩ := ih (i + 1) s1 hd' h1
      refine ⟨s2, ?_, by rw [List.length_cons]; rw [show i + (ys.length + 1) = i + 1 + ys.length by omega]; exact h2⟩
      rw [List.map_cons, forGo]
      rcases e with e | e <;> rw [e] <;> exact e2
  obtain ⟨s', e, h'⟩ := go xs 0 s0 (by simp) h0
  exact ⟨s', e, by simpa using h'⟩
theorem for_outC {α σ : Type} {step : D → Rho → Os} {inj : α → D} {xs : List α} {ρ : Rho} {q : Os} (hq : forGo step (xs.map inj) ρ = q) (up : σ → Rho) (I : Nat → σ → Prop) (s0 : σ) (e0 : ρ = up s0) (h0 : I 0 s0)
    (turn : ∀ i x s, xs[i]? = some x → I i s → ∃ s', (step (inj x) (up s) = .nx (up s') ∨ step (inj x) (up s) = .ct (up s')) ∧ I (i + 1) s') : ∃ s', q = .nx (up s') ∧ I xs.length s' := by
  obtain ⟨s', e, h⟩ := for_inv (step := step) (inj := inj) up I h0 turn
  exact ⟨s', by rw [← hq, e0, e], h⟩
theorem for_out {α σ : Type} {step : D → Rho → Os} {inj : α → D} {xs : List α} {ρ : Rho} {q : Os} (hq : forGo step (xs.map inj) ρ = q) (up : σ → Rho) (I : Nat → σ → Prop) (s0 : σ) (e0 : ρ = up s0) (h0 : I 0 s0)
    (turn : ∀ i x s, xs[i]? = some x → I i s → ∃ s', step (inj x) (up s) = .nx (up s') ∧ I (i + 1) s') : ∃ s', q = .nx (up s') ∧ I xs.length s' :=
  for_outC hq up I s0 e0 h0 fun i x s hx hs => by
    obtain ⟨s', e, h⟩ := turn i x s hx hs
    exact ⟨s', .inl e, h⟩
/-- a comprehension over typed items: filter and map -/
theorem lc_fm {α : Type} {f : D → Re (Option D)} {inj : α → D} {p : α → Bool} {g : α → D} : ∀ {xs : List α}, (∀ x ∈ xs, f (inj x) = if p x = true then .ok (some (g x)) else .ok none) → lcGo f (xs.map inj) = .ok ((xs.filter p).map g)
  | [], _ => rfl
  | x :: xs, h => by
    rw [List.map_cons, lcGo, h x List.mem_cons_self, lc_fm (xs := xs) fun y hy => h y (List.mem_cons_of_mem _ hy)]
    cases hp : p x with
    | true => rw [if_pos rfl, List.filter_cons_of_pos hp]; rfl
    | false => rw [if_neg Bool.false_ne_true, List.filter_cons_of_neg (by rw [hp]; exact Bool.false_ne_true)]; rfl
theorem lc_map {α : Type} {f : D → Re (Option D)} {inj : α → D} {g : α → D} {xs : List α} (h : ∀ x ∈ xs, f (inj x) = .ok (some (g x))) : lcGo f (xs.map inj) = .ok (xs.map g) := by
  have := lc_fm (f := f) (inj := inj) (p := fun _ => true) (g := g) (xs := xs) (fun x hx => by rw [if_pos rfl]; exact h x hx)
  rwa [List.filter_eq_self.mpr fun _ _ => rfl] at this
/-! whiles -/
theorem whl_up {t : Rho → Re Bool} {b : Rho → Os} : ∀ {n m : Nat} {ρ : Rho}, whl t b n ρ ≠ .bad → n ≤ m → whl t b m ρ = whl t b n ρ
  | 0, _, _, h, _ => absurd rfl h
  | n + 1, 0, _, _, hm => absurd hm (by omega)
  | n + 1, m + 1, ρ, h, hm => by
    unfold whl at h ⊢
    cases e : t ρ with
    | ok c =>
      rw [e] at h
      show (if c = true then _ else _) = (if c = true then _ else _)
      replace h : (if c = true then match b ρ with | .nx ρ' => whl t b n ρ' | .ct ρ' => whl t b n ρ' | .bk ρ' => .nx ρ' | o => o else .nx ρ : Os) ≠ .bad := h
      cases c with
      | false => rfl
      | true =>
        rw [if_pos rfl] at h ⊢
        rw [if_pos rfl]
        cases e2 : b ρ with
        | nx ρ' => rw [e2] at h; exact whl_up (n := n) h (by omega)
        | ct ρ' => rw [e2] at h; exact whl_up (n := n) h (by omega)
        | _ => rfl
    | ex x => rfl
    | bad => rfl
theorem while_eq {t : Rho → Re Bool} {b : Rho → Os} {n : Nat} {ρ : Rho} {o : Os} (h : whl t b n ρ = o) (ho : o ≠ .bad) : rWhile t b ρ = o := by
  have hx : ∃ n, whl t b n ρ ≠ .bad := ⟨n, by rw [h]; exact ho⟩
  unfold rWhile
  rw [dif_pos hx]
  have hc := Classical.choose_spec hx
  generalize Classical.choose hx = m at hc ⊢
  rcases Nat.le_total n m with q | q
  · rw [whl_up (by rw [h]; exact ho) q, h]
  · rw [← h, whl_up hc q]
/-- a while with a typed state: each turn keeps I and makes m less; it ends in what J says -/
theorem while_inv {σ : Type} {t : Rho → Re Bool} {b : Rho → Os} (up : σ → Rho) (I : σ → Prop) (m : σ → Nat) (J : σ → Prop) {s0 : σ} (h0 : I s0)
    (h : ∀ s, I s → (t (up s) = .ok false ∧ J s) ∨ (t (up s) = .ok true ∧ ∃ s', (b (up s) = .nx (up s') ∨ b (up s) = .ct (up s')) ∧ m s' < m s ∧ I s')) :
    ∃ s', rWhile t b (up s0) = .nx (up s') ∧ J s' := by
  have go : ∀ (k : Nat) (s : σ), m s < k → I s → ∃ s', whl t b k (up s) = .nx (up s') ∧ J s' := by
    intro k
    induction k with
    | zero => exact fun s hs _ => absurd hs (Nat.not_lt_zero _)
    | succ k ih =>
      intro s hs hi
      rcases h s hi with ⟨e, j⟩ | ⟨e, s1, e1, hm, h1⟩
      · exact ⟨s, by unfold whl; rw [e]; rfl, j⟩
      · obtain ⟨s2, e2, j⟩ := ih s1 (by omega) h1
        refine ⟨s2, ?_, j⟩
        unfold whl
        rw [e, Re.ok_os, if_pos rfl]
        rcases e1 with e1 | e1 <;> rw [e1] <;> exact e2
  obtain ⟨s', e, j⟩ := go (m s0 + 1) s0 (Nat.lt_succ_self _) h0
  exact ⟨s', while_eq e (by intro z; cases z), j⟩
theorem while_out {σ : Type} {t : Rho → Re Bool} {b : Rho → Os} {ρ : Rho} {q : Os} (hq : rWhile t b ρ = q) (up : σ → Rho) (I : σ → Prop) (m : σ → Nat) (J : σ → Prop) (s0 : σ) (e0 : ρ = up s0) (h0 : I s0)
    (h : ∀ s, I s → (t (up s) = .ok false ∧ J s) ∨ (t (up s) = .ok true ∧ ∃ s', (b (up s) = .nx (up s') ∨ b (up s) = .ct (up s')) ∧ m s' < m s ∧ I s')) : ∃ s', q = .nx (up s') ∧ J s' := by
  obtain ⟨s', e, j⟩ := while_inv up I m J h0 h
  exact ⟨s', by rw [← hq, e0, e], j⟩
/-! booleans -/
theorem and_ok {c b : Bool} : (if c = true then Re.ok b else Re.ok false) = Re.ok (c && b) := by cases c <;> rfl
theorem or_ok {c b : Bool} : (if c = true then Re.ok true else Re.ok b) = Re.ok (c || b) := by cases c <;> rfl
theorem andD_ok {c b : Bool} : (if c = true then Re.ok (D.bl b) else Re.ok (D.bl false)) = Re.ok (D.bl (c && b)) := by cases c <;> rfl
theorem orD_ok {c b : Bool} : (if c = true then Re.ok (D.bl true) else Re.ok (D.bl b)) = Re.ok (D.bl (c || b)) := by cases c <;> rfl
theorem e_of_some {α : Type} {a : α} : Re.of (some a) = .ok a := rfl
theorem e_osof {ρ : Rho} : Os.of (some ρ) = .nx ρ := rfl
theorem e_ret_nx {ρ : Rho} : (Os.nx ρ).ret = .ok (.dat .non) := rfl
theorem e_ret_rt {s : Sl} : (Os.rt s).ret = .ok s := rfl
theorem e_ret_ex {x : Exr} {ρ : Rho} : (Os.ex x ρ).ret = .ex x := rfl
theorem e_kil_nx {ks : List Nat} {ρ : Rho} : (Os.nx ρ).kil ks = .nx (fgt ks ρ) := rfl
theorem e_kil_bk {ks : List Nat} {ρ : Rho} : (Os.bk ρ).kil ks = .bk (fgt ks ρ) := rfl
theorem e_kil_ct {ks : List Nat} {ρ : Rho} : (Os.ct ρ).kil ks = .ct (fgt ks ρ) := rfl
theorem e_kil_rt {ks : List Nat} {s : Sl} : (Os.rt s).kil ks = .rt s := rfl
theorem e_kil_ex {ks : List Nat} {x : Exr} {ρ : Rho} : (Os.ex x ρ).kil ks = .ex x ρ := rfl
theorem e_noexc_nx {ρ : Rho} : (Os.nx ρ).noexc = .nx ρ := rfl
theorem e_noexc_bk {ρ : Rho} : (Os.bk ρ).noexc = .bk ρ := rfl
theorem e_noexc_ct {ρ : Rho} : (Os.ct ρ).noexc = .ct ρ := rfl
theorem e_noexc_rt {s : Sl} : (Os.rt s).noexc = .rt s := rfl
theorem e_noex {α : Type} {a : α} : (Re.ok a).noex = .ok a := rfl
theorem e_val {d : D} : (Sl.dat d).val = .ok d := rfl
theorem e_get_dat {d : D} : (Sl.dat d).get = .ok d := rfl
theorem e_get_own {d : List D} : (Sl.own d).get = .ok (.lst d) := rfl
theorem e_get_oK {ks : List Key} {vs : List D} : (Sl.oK ks vs).get = .ok (.dK ks vs) := rfl
theorem e_get_oT {ks : List (List Key)} {vs : List D} : (Sl.oT ks vs).get = .ok (.dT ks vs) := rfl
theorem e_rtv_dat {d : D} : (Sl.dat d).rtv = .rt (.dat d) := rfl
theorem e_rtv_own {d : List D} : (Sl.own d).rtv = .rt (.own d) := rfl
theorem e_rtv_oK {ks : List Key} {vs : List D} : (Sl.oK ks vs).rtv = .rt (.oK ks vs) := rfl
theorem e_rtv_oT {ks : List (List Key)} {vs : List D} : (Sl.oT ks vs).rtv = .rt (.oT ks vs) := rfl
theorem e_ownL {l : List D} : (Sl.own l).ownL = .ok l := rfl
theorem e_isD_oT {ks : List (List Key)} {vs : List D} : ((Sl.oT ks vs).isD = true) = True := eq_true rfl
theorem e_isD_dT {ks : List (List Key)} {vs : List D} : ((Sl.dat (.dT ks vs)).isD = true) = True := eq_true rfl
theorem e_isD_fT {ks : List (List Key)} {vs : List D} : ((Sl.dat (.fT ks vs)).isD = true) = True := eq_true rfl
theorem e_isOD_T {ks : List (List Key)} {vs : List D} : ((Sl.oT ks vs).isOD = true) = True := eq_true rfl
theorem e_ask_oT {ks : (List (List Key))} {vs : List D} {y : D} : dAsk (Sl.oT ks vs) y = (Re.of (keyT y)).bind fun k => .ok (vget ks vs k) := rfl
theorem e_has_oT {ks : (List (List Key))} {vs : List D} {y : D} : dHas (Sl.oT ks vs) y = (Re.of (keyT y)).bind fun k => .ok (kmem ks k) := rfl
theorem e_len_oT {ks : List (List Key)} {vs : List D} : dLen (Sl.oT ks vs) = .ok (.int ks.length) := rfl
theorem e_ask_dT {ks : (List (List Key))} {vs : List D} {y : D} : dAsk (Sl.dat (.dT ks vs)) y = (Re.of (keyT y)).bind fun k => .ok (vget ks vs k) := rfl
theorem e_has_dT {ks : (List (List Key))} {vs : List D} {y : D} : dHas (Sl.dat (.dT ks vs)) y = (Re.of (keyT y)).bind fun k => .ok (kmem ks k) := rfl
theorem e_len_dT {ks : List (List Key)} {vs : List D} : dLen (Sl.dat (.dT ks vs)) = .ok (.int ks.length) := rfl
theorem e_ask_fT {ks : (List (List Key))} {vs : List D} {y : D} : dAsk (Sl.dat (.fT ks vs)) y = (Re.of (keyT y)).bind fun k => .ok (vget ks vs k) := rfl
theorem e_has_fT {ks : (List (List Key))} {vs : List D} {y : D} : dHas (Sl.dat (.fT ks vs)) y = (Re.of (keyT y)).bind fun k => .ok (kmem ks k) := rfl
theorem e_len_fT {ks : List (List Key)} {vs : List D} : dLen (Sl.dat (.fT ks vs)) = .ok (.int ks.length) := rfl
theorem e_put_T {ks : (List (List Key))} {vs : List D} {y v : D} : dPut (Sl.oT ks vs) y v = (keyT y).bind fun k => if ks.length < 1000000 then some (.oT (kput ks k) (vput ks vs k v)) else none := rfl
theorem e_lock_T {ks : List (List Key)} {vs : List D} : lockS (.oT ks vs) = some (.dat (.fT ks vs)) := rfl
theorem e_isD_oK {ks : List Key} {vs : List D} : ((Sl.oK ks vs).isD = true) = True := eq_true rfl
theorem e_isD_dK {ks : List Key} {vs : List D} : ((Sl.dat (.dK ks vs)).isD = true) = True := eq_true rfl
theorem e_isD_fK {ks : List Key} {vs : List D} : ((Sl.dat (.fK ks vs)).isD = true) = True := eq_true rfl
theorem e_isOD_K {ks : List Key} {vs : List D} : ((Sl.oK ks vs).isOD = true) = True := eq_true rfl
theorem e_ask_oK {ks : (List Key)} {vs : List D} {y : D} : dAsk (Sl.oK ks vs) y = (Re.of (keyK y)).bind fun k => .ok (vget ks vs k) := rfl
theorem e_has_oK {ks : (List Key)} {vs : List D} {y : D} : dHas (Sl.oK ks vs) y = (Re.of (keyK y)).bind fun k => .ok (kmem ks k) := rfl
theorem e_len_oK {ks : List Key} {vs : List D} : dLen (Sl.oK ks vs) = .ok (.int ks.length) := rfl
theorem e_ask_dK {ks : (List Key)} {vs : List D} {y : D} : dAsk (Sl.dat (.dK ks vs)) y = (Re.of (keyK y)).bind fun k => .ok (vget ks vs k) := rfl
theorem e_has_dK {ks : (List Key)} {vs : List D} {y : D} : dHas (Sl.dat (.dK ks vs)) y = (Re.of (keyK y)).bind fun k => .ok (kmem ks k) := rfl
theorem e_len_dK {ks : List Key} {vs : List D} : dLen (Sl.dat (.dK ks vs)) = .ok (.int ks.length) := rfl
theorem e_ask_fK {ks : (List Key)} {vs : List D} {y : D} : dAsk (Sl.dat (.fK ks vs)) y = (Re.of (keyK y)).bind fun k => .ok (vget ks vs k) := rfl
theorem e_has_fK {ks : (List Key)} {vs : List D} {y : D} : dHas (Sl.dat (.fK ks vs)) y = (Re.of (keyK y)).bind fun k => .ok (kmem ks k) := rfl
theorem e_len_fK {ks : List Key} {vs : List D} : dLen (Sl.dat (.fK ks vs)) = .ok (.int ks.length) := rfl
theorem e_put_K {ks : (List Key)} {vs : List D} {y v : D} : dPut (Sl.oK ks vs) y v = (keyK y).bind fun k => if ks.length < 1000000 then some (.oK (kput ks k) (vput ks vs k v)) else none := rfl
theorem e_lock_K {ks : List Key} {vs : List D} : lockS (.oK ks vs) = some (.dat (.fK ks vs)) := rfl
theorem e_keyK_int {i : Int} : keyK (.int i) = some (.inl i) := rfl
theorem e_keyK_str {i : Str} : keyK (.str i) = some (.inr i) := rfl
theorem e_keyT2 {i j : Int} : keyT (.tup [.int i, .int j]) = some [.inl i, .inl j] := rfl
theorem e_keyT3 {i j k : Int} : keyT (.tup [.int i, .int j, .int k]) = some [.inl i, .inl j, .inl k] := rfl
theorem e_blD {b : Bool} : blD (some (.bl b)) = .ok b := rfl
theorem e_tru_non  : truD .non = some false := rfl
theorem e_tru_bl {b : Bool} : truD (.bl b) = some b := rfl
theorem e_tru_int {b : Int} : truD (.int b) = some (decide (b ≠ 0)) := rfl
theorem e_tru_lst {b : List D} : truD (.lst b) = some (!b.isEmpty) := rfl
theorem e_tru_tup {b : List D} : truD (.tup b) = some (!b.isEmpty) := rfl
theorem e_seq_l {b : List D} : seqD (.lst b) = some b := rfl
theorem e_seq_t {b : List D} : seqD (.tup b) = some b := rfl
theorem e_gtp {n : Nat} {u : List D → Rho → Option Rho} {l : List D} {ρ : Rho} : gtp n u (.tup l) ρ = if l.length = n then u l ρ else none := rfl
theorem e_gls {n : Nat} {u : List D → Rho → Option Rho} {l : List D} {ρ : Rho} : gls n u (.lst l) ρ = if l.length = n then u l ρ else none := rfl
theorem e_gco {g : D → Rho → Option Rho} {u : List D → Rho → Option Rho} {d : D} {l : List D} {ρ : Rho} : gco g u (d :: l) ρ = (g d ρ).bind (u l) := rfl
theorem e_gni {ρ : Rho} : gni [] ρ = some ρ := rfl
theorem e_oAddS {a b : Str} : oAdd (.str a) (.str b) = if a.length + b.length ≤ 1000000 then some (.str (a ++ b)) else none := rfl
theorem e_oSub {a b : Int} : oSub (.int a) (.int b) = some (.int (a - b)) := rfl
theorem e_oLt {a b : Int} : oLt (.int a) (.int b) = some (.bl (decide (a < b))) := rfl
theorem e_oLe {a b : Int} : oLe (.int a) (.int b) = some (.bl (decide (a ≤ b))) := rfl
theorem e_oGt {a b : Int} : oGt (.int a) (.int b) = some (.bl (decide (b < a))) := rfl
theorem e_oGe {a b : Int} : oGe (.int a) (.int b) = some (.bl (decide (b ≤ a))) := rfl
theorem e_oEq {a b : Int} : oEq (.int a) (.int b) = some (.bl (decide (a = b))) := rfl
theorem e_oNe {a b : Int} : oNe (.int a) (.int b) = some (.bl (!decide (a = b))) := rfl
theorem e_oAdd {a b : Int} : oAdd (.int a) (.int b) = some (.int (a + b)) := rfl
theorem e_oIAdd {a b : Int} : oIAdd (.int a) (.int b) = some (.int (a + b)) := rfl
theorem e_oXor {a b : Int} : oXor (.int a) (.int b) = some (.int (Builtin.bitXor a b)) := rfl
theorem e_oAddL {a b : List D} : oAdd (.lst a) (.lst b) = if a.length + b.length ≤ 1000000 then some (.lst (a ++ b)) else none := rfl
theorem e_oAddT {a b : List D} : oAdd (.tup a) (.tup b) = if a.length + b.length ≤ 1000000 then some (.tup (a ++ b)) else none := rfl
theorem e_oMulR {a b : Int} (h : -4611686018427387904 < b ∧ b < 4611686018427387904) : oMul (.int a) (.int b) = some (.int (a * b)) := if_pos (.inr (.inl h))
theorem e_oMulL {a b : Int} (h : -4611686018427387904 < a ∧ a < 4611686018427387904) : oMul (.int a) (.int b) = some (.int (a * b)) := if_pos (.inr (.inr h))
theorem e_oMul {a b : Int} (h : mulOk a b) : oMul (.int a) (.int b) = some (.int (a * b)) := if_pos h
theorem e_oMulLst {l : List D} {b : Int} : oMul (.lst l) (.int b) = if 0 ≤ b ∧ b ≤ 1000000 ∧ l.length * b.toNat ≤ 1000000 then some (.lst (List.replicate b.toNat l).flatten) else none := rfl
theorem e_oIMulR {a b : Int} (h : -4611686018427387904 < b ∧ b < 4611686018427387904) : oIMul (.int a) (.int b) = some (.int (a * b)) := if_pos (.inr (.inl h))
theorem e_oIMulL {a b : Int} (h : -4611686018427387904 < a ∧ a < 4611686018427387904) : oIMul (.int a) (.int b) = some (.int (a * b)) := if_pos (.inr (.inr h))
theorem e_oDiv {a b : Int} (h : 0 < b ∧ b < 4611686018427387904) : oDiv (.int a) (.int b) = some (.int (a / b)) := if_pos ⟨h.1, .inl h.2⟩
theorem e_oDivB {a b : Int} (h : 0 < b ∧ b < 2 ^ 400) : oDiv (.int a) (.int b) = some (.int (a / b)) := if_pos ⟨h.1, .inr h.2⟩
theorem e_oMod {a b : Int} (h : 0 < b) : oMod (.int a) (.int b) = some (.int (a % b)) := if_pos h
theorem e_oPow {a b : Int} (h : 0 ≤ b ∧ b ≤ 1000000 ∧ -4611686018427387904 < a ∧ a < 4611686018427387904) : oPow (.int a) (.int b) = some (.int (a ^ b.toNat)) := if_pos h
theorem e_oEqS {a b : Str} : oEq (.str a) (.str b) = some (.bl (decide (a = b))) := rfl
theorem e_oNeS {a b : Str} : oNe (.str a) (.str b) = some (.bl (!decide (a = b))) := rfl
theorem e_oEqB {a b : Bool} : oEq (.bl a) (.bl b) = some (.bl (decide (a = b))) := rfl
theorem e_oNeB {a b : Bool} : oNe (.bl a) (.bl b) = some (.bl (!decide (a = b))) := rfl
theorem e_oIs {x : D} : oIs x .non = some (.bl (isNonD x)) := rfl
theorem e_oIsNot {x : D} : oIsNot x .non = some (.bl (!isNonD x)) := rfl
theorem e_nonD  : isNonD .non = true := rfl
theorem e_nonD_int {i : Int} : isNonD (.int i) = false := rfl
theorem e_nonD_str {i : Str} : isNonD (.str i) = false := rfl
theorem e_nonD_lst {i : List D} : isNonD (.lst i) = false := rfl
theorem e_nonD_tup {i : List D} : isNonD (.tup i) = false := rfl
theorem e_nonD_bl {i : Bool} : isNonD (.bl i) = false := rfl
theorem e_oNeg {a : Int} : oNeg (.int a) = some (.int (-a)) := rfl
theorem e_oIxL {l : List D} {i : Int} : oIx (.lst l) (.int i) = atI l i := rfl
theorem e_oIxT {l : List D} {i : Int} : oIx (.tup l) (.int i) = atI l i := rfl
theorem e_oIn_lst {x : Int} {l : List D} : oIn (.int x) (.lst l) = (asI l).map fun is => .bl (decide (x ∈ is)) := rfl
theorem e_oIn_tup {x : Int} {l : List D} : oIn (.int x) (.tup l) = (asI l).map fun is => .bl (decide (x ∈ is)) := rfl
theorem e_oNotIn_lst {x : Int} {l : List D} : oNotIn (.int x) (.lst l) = (asI l).map fun is => .bl (!decide (x ∈ is)) := rfl
theorem e_oNotIn_tup {x : Int} {l : List D} : oNotIn (.int x) (.tup l) = (asI l).map fun is => .bl (!decide (x ∈ is)) := rfl
theorem e_oSlL_l {l : List D} {lo hi : Option Int} : oSlL (.lst l) lo hi = some (.lst (cutD l lo hi)) := rfl
theorem e_oSlL_s {l : List Int} {lo hi : Option Int} : oSlL (.src l) lo hi = some (.lst (cutD (l.map D.int) lo hi)) := rfl
theorem e_oSlAny_l {l : List D} {lo hi : Option Int} : oSlAny (.lst l) lo hi = some (.lst (cutD l lo hi)) := rfl
theorem e_oSlAny_s {l : List Int} {lo hi : Option Int} : oSlAny (.src l) lo hi = some (.lst (cutD (l.map D.int) lo hi)) := rfl
theorem e_oSlA_t {l : List D} {lo hi : Option Int} : oSlA (.tup l) lo hi = some (.tup (cutD l lo hi)) := rfl
theorem e_oSlAny_t {l : List D} {lo hi : Option Int} : oSlAny (.tup l) lo hi = some (.tup (cutD l lo hi)) := rfl
theorem e_bAbs {i : Int} : bAbs [.int i] = some (.int (if i < 0 then -i else i)) := rfl
theorem e_bLenL {l : List D} : bLen [.lst l] = some (.int l.length) := rfl
theorem e_bLenT {l : List D} : bLen [.tup l] = some (.int l.length) := rfl
theorem e_bInt {i : Int} : bInt [.int i] = some (.int i) := rfl
theorem e_bIntT  : bInt [.bl true] = some (.int 1) := rfl
theorem e_bIntF  : bInt [.bl false] = some (.int 0) := rfl
theorem e_bIntB {b : Bool} : bInt [.bl b] = some (.int (if b then 1 else 0)) := rfl
theorem e_bTupL {l : List D} : bTuple [.lst l] = some (.tup l) := rfl
theorem e_bTupT {l : List D} : bTuple [.tup l] = some (.tup l) := rfl
theorem e_bMax2 {i j : Int} : bMax2 [.int i, .int j] = some (.int (max i j)) := rfl
theorem e_bMin2 {i j : Int} : bMin2 [.int i, .int j] = some (.int (min i j)) := rfl
theorem e_bAll {l : List D} : bAll [.lst l] = (asB l).map fun bs => .bl (bs.all id) := rfl
theorem e_bAny {l : List D} : bAny [.lst l] = (asB l).map fun bs => .bl (bs.any id) := rfl
theorem e_bSorted_lst {l : List D} : bSorted [.lst l] = (asI l).map fun bs => .lst ((srt bs).map D.int) := rfl
theorem e_bSorted_tup {l : List D} : bSorted [.tup l] = (asI l).map fun bs => .lst ((srt bs).map D.int) := rfl
theorem e_isT_non_int  : isT (.non) .int = some false := rfl
theorem e_isT_non_bool  : isT (.non) .bool = some false := rfl
theorem e_isT_non_str  : isT (.non) .str = some false := rfl
theorem e_isT_non_list  : isT (.non) .list = some false := rfl
theorem e_isT_non_tuple  : isT (.non) .tuple = some false := rfl
theorem e_isT_bl_int {i : Bool} : isT (.bl i) .int = some true := rfl
theorem e_isT_bl_bool {i : Bool} : isT (.bl i) .bool = some true := rfl
theorem e_isT_bl_str {i : Bool} : isT (.bl i) .str = some false := rfl
theorem e_isT_bl_list {i : Bool} : isT (.bl i) .list = some false := rfl
theorem e_isT_bl_tuple {i : Bool} : isT (.bl i) .tuple = some false := rfl
theorem e_isT_int_int {i : Int} : isT (.int i) .int = some true := rfl
theorem e_isT_int_bool {i : Int} : isT (.int i) .bool = some false := rfl
theorem e_isT_int_str {i : Int} : isT (.int i) .str = some false := rfl
theorem e_isT_int_list {i : Int} : isT (.int i) .list = some false := rfl
theorem e_isT_int_tuple {i : Int} : isT (.int i) .tuple = some false := rfl
theorem e_isT_str_int {i : Str} : isT (.str i) .int = some false := rfl
theorem e_isT_str_bool {i : Str} : isT (.str i) .bool = some false := rfl
theorem e_isT_str_str {i : Str} : isT (.str i) .str = some true := rfl
theorem e_isT_str_list {i : Str} : isT (.str i) .list = some false := rfl
theorem e_isT_str_tuple {i : Str} : isT (.str i) .tuple = some false := rfl
theorem e_isT_lst_int {i : List D} : isT (.lst i) .int = some false := rfl
theorem e_isT_lst_bool {i : List D} : isT (.lst i) .bool = some false := rfl
theorem e_isT_lst_str {i : List D} : isT (.lst i) .str = some false := rfl
theorem e_isT_lst_list {i : List D} : isT (.lst i) .list = some true := rfl
theorem e_isT_lst_tuple {i : List D} : isT (.lst i) .tuple = some false := rfl
theorem e_isT_tup_int {i : List D} : isT (.tup i) .int = some false := rfl
theorem e_isT_tup_bool {i : List D} : isT (.tup i) .bool = some false := rfl
theorem e_isT_tup_str {i : List D} : isT (.tup i) .str = some false := rfl
theorem e_isT_tup_list {i : List D} : isT (.tup i) .list = some false := rfl
theorem e_isT_tup_tuple {i : List D} : isT (.tup i) .tuple = some true := rfl
theorem e_irng1 {n : Int} (h : -4611686018427387904 ≤ n ∧ n < 4611686018427387904) : irng1 [.int n] = .ok ((rg n).map D.int) := if_pos h
theorem e_irng2 {m n : Int} (h : -4611686018427387904 ≤ m ∧ m < 4611686018427387904 ∧ -4611686018427387904 ≤ n ∧ n < 4611686018427387904) : irng2 [.int m, .int n] = .ok ((rgs m n).map D.int) := if_pos h
theorem e_irng3 {m n : Int} (h : -4611686018427387904 ≤ m ∧ m < 4611686018427387904 ∧ -4611686018427387904 ≤ n ∧ n < 4611686018427387904) : irng3 [.int m, .int n, .int (-1)] = .ok ((rgd m n).map D.int) := if_pos ⟨rfl, h⟩
theorem e_lendD {k : Bool} {d : D} : (Re.ok d).lendD k = if d.has k = false then .ok d else .bad := rfl
theorem e_lendS {k : Bool} {d : Sl} : (Re.ok d).lendS k = if d.has k = false then .ok d else .bad := rfl
theorem e_has_dat {k : Bool} {d : D} : (Sl.dat d).has k = d.has k := rfl
theorem e_has_own {k : Bool} {d : List D} : (Sl.own d).has k = D.hass k d := rfl
theorem e_hass_ints {k : Bool} {l : List Int} : D.hass k (l.map D.int) = false := by induction l with | nil => rfl | cons a l ih => simp only [List.map_cons, D.hass, D.has, ih, Bool.or_self]
theorem e_hass_tI {k : Bool} {l : List (List Int)} : D.hass k (l.map tI) = false := by induction l with | nil => rfl | cons a l ih => simp only [List.map_cons, D.hass, ih, tI, D.has, e_hass_ints, Bool.or_self]
theorem and_okP {p : Prop} [Decidable p] {b : Bool} : (if p then Re.ok b else Re.ok false) = Re.ok (decide p && b) := by by_cases h : p <;> simp [h]
theorem or_okP {p : Prop} [Decidable p] {b : Bool} : (if p then Re.ok true else Re.ok b) = Re.ok (decide p || b) := by by_cases h : p <;> simp [h]
theorem andD_okP {p : Prop} [Decidable p] {b : Bool} : (if p then Re.ok (D.bl b) else Re.ok (D.bl false)) = Re.ok (D.bl (decide p && b)) := by by_cases h : p <;> simp [h]
theorem orD_okP {p : Prop} [Decidable p] {b : Bool} : (if p then Re.ok (D.bl true) else Re.ok (D.bl b)) = Re.ok (D.bl (decide p || b)) := by by_cases h : p <;> simp [h]
theorem atI_nat {α : Type} {l : List α} {n : Nat} : atI l (n : Int) = l[n]? := by
  unfold atI ixN
  by_cases h : n < l.length
  · rw [if_pos (by omega), if_pos (by omega)]; rfl
  · rw [if_pos (by omega), if_neg (by omega), List.getElem?_eq_none (by omega)]; rfl
theorem atI_lit {α : Type} {l : List α} (n : Nat) : atI l (no_index (OfNat.ofNat n : Int)) = l[n]? := atI_nat (n := n)
theorem map_snoc {α β : Type} {f : α → β} {l : List α} {x : α} : l.map f ++ [f x] = (l ++ [x]).map f := by simp
theorem rg_lt {n : Int} {i : Nat} {x : Int} (h : (rg n)[i]? = some x) : x = i ∧ (i : Int) < n := by
  have hl := (List.getElem?_eq_some_iff.mp h).1
  rw [rg_len] at hl
  rw [rg_at hl] at h
  exact ⟨(Option.some.inj h).symm, by omega⟩
theorem at_lt {α : Type} {l : List α} {i : Nat} {x : α} (h : l[i]? = some x) : i < l.length := (List.getElem?_eq_some_iff.mp h).1
theorem bnot_true {b : Bool} : ((!b) = true) = ¬ (b = true) := by cases b <;> simp
theorem bool_eqf {b : Bool} : (b = false) = ¬ (b = true) := by cases b <;> simp
theorem e_ixN {n : Nat} {k : Int} (h : 0 ≤ k ∧ k < n) : ixN n k = some k.toNat := by unfold ixN; rw [if_pos h.1, if_pos h.2]
theorem rgd_len (a b : Int) : (rgd a b).length = (a - b).toNat := by unfold rgd; rw [List.length_map, List.length_range]
theorem sh_tI (a : List Int) : Sh (tI a) := ⟨1, by decide, shp_tI a⟩
theorem sh_tIs (a : List (List Int)) : Sh (.lst (a.map tI)) := ⟨2, by decide, shp_tIs a⟩
theorem sh_ints (a : List Int) : Sh (.lst (a.map D.int)) := ⟨1, by decide, shp_ints a⟩
theorem oEq_lst {a b : List D} (h : Sh (.lst a) ∧ Sh (.lst b)) : oEq (.lst a) (.lst b) = some (.bl (D.eqb (.lst a) (.lst b))) := if_pos h
theorem oNe_lst {a b : List D} (h : Sh (.lst a) ∧ Sh (.lst b)) : oNe (.lst a) (.lst b) = some (.bl (!D.eqb (.lst a) (.lst b))) := if_pos h
theorem oEq_tup {a b : List D} (h : Sh (.tup a) ∧ Sh (.tup b)) : oEq (.tup a) (.tup b) = some (.bl (D.eqb (.tup a) (.tup b))) := if_pos h
theorem oNe_tup {a b : List D} (h : Sh (.tup a) ∧ Sh (.tup b)) : oNe (.tup a) (.tup b) = some (.bl (!D.eqb (.tup a) (.tup b))) := if_pos h
theorem oEqTs {a b : List (List Int)} : oEq (.lst (a.map tI)) (.lst (b.map tI)) = some (.bl (decide (a = b))) := (oEq_lst ⟨sh_tIs a, sh_tIs b⟩).trans (by rw [eqb_tIs])
theorem oNeTs {a b : List (List Int)} : oNe (.lst (a.map tI)) (.lst (b.map tI)) = some (.bl (!decide (a = b))) := (oNe_lst ⟨sh_tIs a, sh_tIs b⟩).trans (by rw [eqb_tIs])
theorem oEqLI {a b : List Int} : oEq (.lst (a.map D.int)) (.lst (b.map D.int)) = some (.bl (decide (a = b))) := (oEq_lst ⟨sh_ints a, sh_ints b⟩).trans (by rw [eqb_lI])
theorem oNeLI {a b : List Int} : oNe (.lst (a.map D.int)) (.lst (b.map D.int)) = some (.bl (!decide (a = b))) := (oNe_lst ⟨sh_ints a, sh_ints b⟩).trans (by rw [eqb_lI])
theorem oEqTI {a b : List Int} : oEq (tI a) (tI b) = some (.bl (decide (a = b))) := (oEq_tup ⟨sh_tI a, sh_tI b⟩).trans (by have := eqb_tI a b; unfold tI at this; rw [this])
theorem oNeTI {a b : List Int} : oNe (tI a) (tI b) = some (.bl (!decide (a = b))) := (oNe_tup ⟨sh_tI a, sh_tI b⟩).trans (by have := eqb_tI a b; unfold tI at this; rw [this])
theorem rgs_split {a n : Int} (h : 0 ≤ a ∧ a ≤ n) : rg n = rg a ++ rgs a n := by
  obtain ⟨a, rfl⟩ := Int.eq_ofNat_of_zero_le h.1
  obtain ⟨m, rfl⟩ := Int.eq_ofNat_of_zero_le (show 0 ≤ n by omega)
  have hm : m = a + (m - a) := by omega
  unfold rg rgs
  rw [show ((m : Int) - (a : Int)).toNat = m - a by omega, Int.toNat_natCast, Int.toNat_natCast]
  conv => lhs; rw [hm, List.range_add]
  rw [List.map_append, List.map_map]
  refine congrArg _ (List.map_congr_left fun i _ => ?_)
  show ((a + i : Nat) : Int) = (a : Int) + (i : Int)
  omega
theorem hass_map {α : Type} {k : Bool} {f : α → D} (h : ∀ x, D.has k (f x) = false) : ∀ {l : List α}, D.hass k (l.map f) = false
  | [] => rfl
  | x :: l => by simp only [List.map_cons, D.hass, h x, hass_map h (l := l), Bool.or_self]
theorem e_shas_oT {k : Bool} {ks : List (List Key)} {vs : List D} : (Sl.oT ks vs).has k = D.hass k vs := rfl
theorem e_shas_oK {k : Bool} {ks : List Key} {vs : List D} : (Sl.oK ks vs).has k = D.hass k vs := rfl
end DL

set_option maxRecDepth 100000
set_option maxHeartbeats 4000000
namespace DL
open PySem PySem.Spec L2
/-! threes as ascending lists of three ints -/
def prs (t : List Int) : List (Int × Int) := match t with | [a, b, c] => [(a, b), (a, c), (b, c)] | _ => []
def allp (T : List (List Int)) : List (Int × Int) := T.flatMap prs
def InB (n : Int) (t : List Int) : Prop := ∃ a b c : Int, t = [a, b, c] ∧ 0 ≤ a ∧ a < b ∧ b < c ∧ c < n
def Part (n : Int) (T : List (List Int)) : Prop := (∀ t ∈ T, InB n t) ∧ (allp T).Nodup
theorem InB.mono {n m : Int} {t : List Int} (h : InB n t) (hm : n ≤ m) : InB m t := by
  obtain ⟨a, b, c, e, h1, h2, h3, h4⟩ := h
  exact ⟨a, b, c, e, h1, h2, h3, by omega⟩
theorem InB.len {n : Int} {t : List Int} (h : InB n t) : t.length = 3 := by
  obtain ⟨a, b, c, rfl, _⟩ := h
  rfl
theorem InB.up {n : Int} {t : List Int} (h : InB n t) : t.Pairwise (· ≤ ·) := by
  obtain ⟨a, b, c, rfl, h1, h2, h3, h4⟩ := h
  simp only [List.pairwise_cons, List.mem_cons, List.not_mem_nil, or_false, forall_eq_or_imp, forall_eq, List.Pairwise.nil, and_true, false_imp_iff, implies_true]
  omega
theorem allp_app (T T' : List (List Int)) : allp (T ++ T') = allp T ++ allp T' := List.flatMap_append
theorem flatMap_sub {α β : Type} (f : α → List β) {l l' : List α} (h : l'.Sublist l) : (l'.flatMap f).Sublist (l.flatMap f) := by
  induction h with
  | slnil => exact .refl _
  | cons a _ ih => rw [List.flatMap_cons]; exact ih.trans (List.sublist_append_right _ _)
  | cons_cons a _ ih => rw [List.flatMap_cons, List.flatMap_cons]; exact ih.append_left _
theorem Part.sub {n : Int} {T T' : List (List Int)} (p : Part n T) (h : T'.Sublist T) : Part n T' :=
  ⟨fun t ht => p.1 t (h.subset ht), (flatMap_sub prs h).nodup p.2⟩
theorem Part.snoc {n : Int} {T : List (List Int)} {t : List Int} (p : Part n T) (h : InB n t) (hp : ∀ q ∈ prs t, q ∉ allp T) : Part n (T ++ [t]) := by
  refine ⟨fun x hx => ?_, ?_⟩
  · rcases List.mem_append.mp hx with z | z
    · exact p.1 x z
    · rw [List.mem_singleton] at z; rw [z]; exact h
  · rw [allp_app, List.nodup_append]
    refine ⟨p.2, ?_, fun x hx y hy e => ?_⟩
    · obtain ⟨a, b, c, rfl, h1, h2, h3, h4⟩ := h
      show [(a, b), (a, c), (b, c)].Nodup
      simp only [List.nodup_cons, List.mem_cons, List.not_mem_nil, Prod.mk.injEq, or_false, not_false_eq_true, List.nodup_nil, and_true]
      omega
    · subst e
      have : allp [t] = prs t := by show prs t ++ [] = _; rw [List.append_nil]
      rw [this] at hy
      exact hp x hy hx
/-! the whole systems -/
def S3 : List (List Int) := [[0, 1, 2]]
def S7 : List (List Int) := [[0, 1, 2], [0, 3, 4], [0, 5, 6], [1, 3, 5], [1, 4, 6], [2, 3, 6], [2, 4, 5]]
def S9 : List (List Int) := [[0, 1, 2], [3, 4, 5], [6, 7, 8], [0, 3, 6], [1, 4, 7], [2, 5, 8], [0, 4, 8], [1, 5, 6], [2, 3, 7], [0, 5, 7], [1, 3, 8], [2, 4, 6]]
def Lst (n : Int) (S : List (List Int)) : Prop := (n = 3 ∧ S = S3) ∨ (n = 7 ∧ S = S7) ∨ (n = 9 ∧ S = S9)
def inB (n : Int) (t : List Int) : Bool := match t with | [a, b, c] => decide (0 ≤ a ∧ a < b ∧ b < c ∧ c < n) | _ => false
theorem inB_ok {n : Int} {t : List Int} (h : inB n t = true) : InB n t := by
  unfold inB at h
  split at h
  · exact ⟨_, _, _, rfl, of_decide_eq_true h⟩
  · cases h
theorem Lst.part {n : Int} {S : List (List Int)} (h : Lst n S) : Part n S := by
  have go : ∀ (n : Int) (S : List (List Int)), S.all (inB n) = true → (allp S).Nodup → Part n S := fun n S h1 h2 => ⟨fun t ht => inB_ok (List.all_eq_true.mp h1 t ht), h2⟩
  rcases h with ⟨rfl, rfl⟩ | ⟨rfl, rfl⟩ | ⟨rfl, rfl⟩
  · exact go _ _ (by decide +kernel) (by decide +kernel)
  · exact go _ _ (by decide +kernel) (by decide +kernel)
  · exact go _ _ (by decide +kernel) (by decide +kernel)
theorem Lst.n {n : Int} {S : List (List Int)} (h : Lst n S) : 3 ≤ n ∧ n ≤ 9 ∧ 1 ≤ S.length ∧ S.length ≤ 12 := by
  rcases h with ⟨rfl, rfl⟩ | ⟨rfl, rfl⟩ | ⟨rfl, rfl⟩ <;> decide
/-! names -/
/-- the name of a point -/
def nm (σ : List Int) (x : Int) : Int := σ.getD x.toNat 0
section
variable {n : Int} {σ : List Int} (hσ : σ.Perm (rg n))
include hσ
end
/-- a pair in order -/
def sp (x y : Int) : Int × Int := (min x y, max x y)
/-- a pair as a key -/
def kp (q : Int × Int) : List Key := [.inl q.1, .inl q.2]
/-- a pair as data -/
abbrev pD (q : Int × Int) : D := .tup [.int q.1, .int q.2]
/-- the dict tells how often each pair of L lies there -/
structure Held (L : List (Int × Int)) (ks : List (List Key)) (vs : List D) : Prop where
  len : ks.length = vs.length
  nd : ks.Nodup
  get : ∀ q, vget ks vs (kp q) = if L.count q = 0 then none else some (.int (L.count q : Nat))
  keys : ∀ k ∈ ks, ∃ q ∈ L, k = kp q
theorem Held.nil : Held [] [] [] := ⟨rfl, List.nodup_nil, fun q => by simp [vget], fun k h => by simp at h⟩
theorem Held.mem {L : List (Int × Int)} {ks vs} (h : Held L ks vs) (q : Int × Int) : kp q ∈ ks ↔ q ∈ L := by
  rw [← vget_mem h.len, h.get]
  by_cases e : L.count q = 0
  · rw [if_pos e]
    exact ⟨fun z => by simp at z, fun z => absurd (List.count_pos_iff.mpr z) (by omega)⟩
  · rw [if_neg e]
    exact ⟨fun _ => List.count_pos_iff.mp (by omega), fun _ => rfl⟩
theorem Held.small {L : List (Int × Int)} {ks vs} (h : Held L ks vs) : ks.length ≤ L.length := by
  have : ∀ (ks : List (List Key)) (L : List (Int × Int)), ks.Nodup → (∀ k ∈ ks, ∃ q ∈ L, k = kp q) → ks.length ≤ L.length := by
    intro ks
    induction ks with
    | nil => intro L _ _; exact Nat.zero_le _
    | cons a ks ih =>
      intro L hn hk
      obtain ⟨q, hq, e⟩ := hk a List.mem_cons_self
      have := ih (L.erase q) (List.nodup_cons.mp hn).2 fun k hkk => by
        obtain ⟨p, hp, e'⟩ := hk k (List.mem_cons_of_mem _ hkk)
        refine ⟨p, (List.mem_erase_of_ne fun z => ?_).mpr hp, e'⟩
        subst z
        exact (List.nodup_cons.mp hn).1 (by rw [e, ← e']; exact hkk)
      rw [List.length_erase_of_mem hq] at this
      have : 0 < L.length := List.length_pos_of_mem hq
      simp only [List.length_cons]
      omega
  exact this ks L h.nd h.keys
/-! open pairs -/
theorem hass_pD {k : Bool} {l : List (Int × Int)} : D.hass k (l.map pD) = false := hass_map (f := pD) fun _ => rfl
theorem hass_lI {l : List (List Int)} : D.hass false (l.map lI) = false := hass_map (f := lI) fun x => by simp only [lI, D.has, Bool.false_or, e_hass_ints]
end DL

set_option maxRecDepth 100000
set_option maxHeartbeats 4000000
namespace DL
open PySem PySem.Spec L2
def kv_ARMS : List (Str × Int) := [("bose", 0), ("skolem", 0), ("affine", 0), ("binary", 0), ("listed", 0), ("double", 1), ("product", 2)]
/-! trees as data -/
def elD : D → List D | .lst l | .tup l => l | _ => []
inductive Plain : D → Prop
  | non : Plain .non | bl (b : Bool) : Plain (.bl b) | int (i : Int) : Plain (.int i) | str (s : Str) : Plain (.str s)
  | lst (l : List D) (hn : l.length ≤ 1000) (h : ∀ x ∈ l, Plain x) : Plain (.lst l)
  | tup (l : List D) (hn : l.length ≤ 1000) (h : ∀ x ∈ l, Plain x) : Plain (.tup l)
theorem Plain.ty {d : D} (h : Plain d) : tyD d ≠ "?" := by
  cases h <;> first | exact (by decide : "NoneType" ≠ "?") | exact (by decide : "bool" ≠ "?") | exact (by decide : "int" ≠ "?") | exact (by decide : "str" ≠ "?") | exact (by decide : "list" ≠ "?") | exact (by decide : "tuple" ≠ "?")
theorem Plain.el {d : D} (h : Plain d) : ∀ x ∈ elD d, Plain x := by
  cases h with
  | lst l hn h => exact h
  | tup l hn h => exact h
  | _ => intro x hx; cases hx
theorem Plain.len {d : D} (h : Plain d) : (elD d).length ≤ 1000 := by
  cases h with
  | lst l hn h => exact hn
  | tup l hn h => exact hn
  | _ => exact Nat.zero_le _
inductive Tr where
  | bose (n : Int) | skolem (n : Int) | affine (n : Int) | binary (n : Int) | listed (n : Int) (T : List (List Int)) | double (t : Tr) | product (t u : Tr)
def Tr.d : Tr → D
  | .bose n => .tup [.str "bose", .int n]
  | .skolem n => .tup [.str "skolem", .int n]
  | .affine n => .tup [.str "affine", .int n]
  | .binary n => .tup [.str "binary", .int n]
  | .listed n T => .tup [.str "listed", .int n, .tup (T.map tI)]
  | .double t => .tup [.str "double", t.d]
  | .product t u => .tup [.str "product", t.d, u.d]
def Tr.size : Tr → Int
  | .bose n => n
  | .skolem n => n
  | .affine n => 3 ^ n.toNat
  | .binary n => 2 ^ n.toNat - 1
  | .listed n _ => n
  | .double t => 2 * t.size + 1
  | .product t u => t.size * u.size
def MP : Int := 10 ^ 30
/-- the numbers of a leaf, and the sizes, are within their bounds -/
def Tr.Ok : Tr → Prop
  | .bose n => 3 ≤ n ∧ n ≤ MP ∧ n % 6 = 3
  | .skolem n => 7 ≤ n ∧ n ≤ MP ∧ n % 6 = 1
  | .affine n => 1 ≤ n ∧ n ≤ 60
  | .binary n => 2 ≤ n ∧ n ≤ 99
  | .listed n T => 1 ≤ n ∧ n ≤ 60 ∧ Part n T ∧ ((allp T).length : Int) = n * (n - 1) / 2
  | .double t => t.Ok ∧ 2 * t.size + 1 ≤ MP
  | .product t u => t.Ok ∧ u.Ok ∧ t.size * u.size ≤ MP
/-- the pairs that have come -/
structure Hs (L : List (Int × Int)) (ks : List (List Key)) (vs : List D) : Prop where
  len : ks.length = vs.length
  mem : ∀ q, kp q ∈ ks ↔ q ∈ L
  n : ks.length = L.length
theorem Hs.nil : Hs [] [] [] := ⟨rfl, fun q => by simp, rfl⟩
theorem Tr.Ok.size : ∀ {t : Tr}, t.Ok → 1 ≤ t.size ∧ t.size ≤ MP
  | .bose n, h => ⟨by have := h.1; show 1 ≤ n; omega, h.2.1⟩
  | .skolem n, h => ⟨by have := h.1; show 1 ≤ n; omega, h.2.1⟩
  | .affine n, h => by
    obtain ⟨h1, h2⟩ : 1 ≤ n ∧ n ≤ 60 := h
    show 1 ≤ (3 : Int) ^ n.toNat ∧ (3 : Int) ^ n.toNat ≤ MP
    have h3 : 1 ≤ 3 ^ n.toNat := Nat.one_le_pow _ _ (by decide)
    have h4 : 3 ^ n.toNat ≤ 3 ^ 60 := Nat.pow_le_pow_right (by decide) (by omega)
    have e : (3 : Int) ^ n.toNat = ((3 ^ n.toNat : Nat) : Int) := by rw [Int.natCast_pow]; rfl
    rw [e]
    unfold MP
    generalize 3 ^ n.toNat = m at h3 h4
    omega
  | .binary n, h => by
    obtain ⟨h1, h2⟩ : 2 ≤ n ∧ n ≤ 99 := h
    show 1 ≤ (2 : Int) ^ n.toNat - 1 ∧ (2 : Int) ^ n.toNat - 1 ≤ MP
    have h3 : 2 ^ 1 ≤ 2 ^ n.toNat := Nat.pow_le_pow_right (by decide) (by omega)
    have h4 : 2 ^ n.toNat ≤ 2 ^ 99 := Nat.pow_le_pow_right (by decide) (by omega)
    have e : (2 : Int) ^ n.toNat = ((2 ^ n.toNat : Nat) : Int) := by rw [Int.natCast_pow]; rfl
    rw [e]
    unfold MP
    generalize 2 ^ n.toNat = m at h3 h4
    omega
  | .listed n T, h => by
    obtain ⟨h1, h2, _⟩ := h
    show 1 ≤ n ∧ n ≤ MP
    unfold MP
    omega
  | .double t, h => by
    obtain ⟨h1, h2⟩ := h
    have := h1.size
    exact ⟨by show 1 ≤ 2 * t.size + 1; omega, h2⟩
  | .product t u, h => by
    obtain ⟨h1, h2, h3⟩ := h
    have a := h1.size
    have b := h2.size
    refine ⟨?_, h3⟩
    have := Int.mul_le_mul a.1 b.1 (by decide) (by omega)
    show 1 ≤ t.size * u.size
    omega
/-! good trees are taken -/
end DL

set_option maxRecDepth 100000
set_option maxHeartbeats 1000000
/-! more rules: is True, in with tuples and texts, kinds of trees -/
namespace DL
open PySem PySem.Spec L2
def oIsA : D → D → Option D | x, .non => some (.bl (isNonD x)) | .bl a, .bl b => some (.bl (decide (a = b))) | _, _ => none
def oIsntA : D → D → Option D | x, .non => some (.bl (!isNonD x)) | .bl a, .bl b => some (.bl (!decide (a = b))) | _, _ => none
/-- among ints, texts, tuples of ints -/
def inD : D → D → Option Bool
  | .int x, y => (seqD y).bind fun l => (asI l).map fun is => decide (x ∈ is)
  | .tup t, .lst l => (asI t).bind fun r => (asT l).map fun rows => decide (r ∈ rows)
  | .str x, y => (seqD y).bind fun l => (asS l).map fun is => decide (x ∈ is)
  | _, _ => none
def oInA (x y : D) : Option D := (inD x y).map D.bl
def oNotInA (x y : D) : Option D := (inD x y).map fun b => D.bl (!b)
theorem asS_map : ∀ l : List Str, asS (l.map D.str) = some l
  | [] => rfl
  | i :: l => by simp [asS, asS_map l]
section
variable {K : PySem.W.Frag} {P : D → Prop}
end
theorem e_oIsA_n {x : D} : oIsA x .non = some (.bl (isNonD x)) := by cases x <;> rfl
theorem e_oIsA_b {a b : Bool} : oIsA (.bl a) (.bl b) = some (.bl (decide (a = b))) := rfl
theorem e_oIsntA_n {x : D} : oIsntA x .non = some (.bl (!isNonD x)) := by cases x <;> rfl
theorem e_oIsntA_b {a b : Bool} : oIsntA (.bl a) (.bl b) = some (.bl (!decide (a = b))) := rfl
theorem e_inD_il {x : Int} {l : List D} : inD (.int x) (.lst l) = (asI l).map fun is => decide (x ∈ is) := rfl
theorem e_inD_it {x : Int} {l : List D} : inD (.int x) (.tup l) = (asI l).map fun is => decide (x ∈ is) := rfl
theorem e_inD_sl {x : Str} {l : List D} : inD (.str x) (.lst l) = (asS l).map fun is => decide (x ∈ is) := rfl
theorem e_inD_st {x : Str} {l : List D} : inD (.str x) (.tup l) = (asS l).map fun is => decide (x ∈ is) := rfl
theorem e_inD_tl {t l : List D} : inD (.tup t) (.lst l) = (asI t).bind fun r => (asT l).map fun rows => decide (r ∈ rows) := rfl
theorem e_inD_ti {r : List Int} {l : List D} : inD (tI r) (.lst l) = (asT l).map fun rows => decide (r ∈ rows) := by
  show ((asI (r.map D.int)).bind fun r => (asT l).map fun rows => decide (r ∈ rows)) = _
  rw [asI_map]; rfl
theorem k_bose_skolem : (("bose" : Str) = "skolem") = False := eq_false (by decide +kernel)
theorem k_bose_affine : (("bose" : Str) = "affine") = False := eq_false (by decide +kernel)
theorem k_bose_binary : (("bose" : Str) = "binary") = False := eq_false (by decide +kernel)
theorem k_bose_listed : (("bose" : Str) = "listed") = False := eq_false (by decide +kernel)
theorem k_bose_double : (("bose" : Str) = "double") = False := eq_false (by decide +kernel)
theorem k_bose_product : (("bose" : Str) = "product") = False := eq_false (by decide +kernel)
theorem k_skolem_bose : (("skolem" : Str) = "bose") = False := eq_false (by decide +kernel)
theorem k_skolem_affine : (("skolem" : Str) = "affine") = False := eq_false (by decide +kernel)
theorem k_skolem_binary : (("skolem" : Str) = "binary") = False := eq_false (by decide +kernel)
theorem k_skolem_listed : (("skolem" : Str) = "listed") = False := eq_false (by decide +kernel)
theorem k_skolem_double : (("skolem" : Str) = "double") = False := eq_false (by decide +kernel)
theorem k_skolem_product : (("skolem" : Str) = "product") = False := eq_false (by decide +kernel)
theorem k_affine_bose : (("affine" : Str) = "bose") = False := eq_false (by decide +kernel)
theorem k_affine_skolem : (("affine" : Str) = "skolem") = False := eq_false (by decide +kernel)
theorem k_affine_binary : (("affine" : Str) = "binary") = False := eq_false (by decide +kernel)
theorem k_affine_listed : (("affine" : Str) = "listed") = False := eq_false (by decide +kernel)
theorem k_affine_double : (("affine" : Str) = "double") = False := eq_false (by decide +kernel)
theorem k_affine_product : (("affine" : Str) = "product") = False := eq_false (by decide +kernel)
theorem k_binary_bose : (("binary" : Str) = "bose") = False := eq_false (by decide +kernel)
theorem k_binary_skolem : (("binary" : Str) = "skolem") = False := eq_false (by decide +kernel)
theorem k_binary_affine : (("binary" : Str) = "affine") = False := eq_false (by decide +kernel)
theorem k_binary_listed : (("binary" : Str) = "listed") = False := eq_false (by decide +kernel)
theorem k_binary_double : (("binary" : Str) = "double") = False := eq_false (by decide +kernel)
theorem k_binary_product : (("binary" : Str) = "product") = False := eq_false (by decide +kernel)
theorem k_listed_bose : (("listed" : Str) = "bose") = False := eq_false (by decide +kernel)
theorem k_listed_skolem : (("listed" : Str) = "skolem") = False := eq_false (by decide +kernel)
theorem k_listed_affine : (("listed" : Str) = "affine") = False := eq_false (by decide +kernel)
theorem k_listed_binary : (("listed" : Str) = "binary") = False := eq_false (by decide +kernel)
theorem k_listed_double : (("listed" : Str) = "double") = False := eq_false (by decide +kernel)
theorem k_listed_product : (("listed" : Str) = "product") = False := eq_false (by decide +kernel)
theorem k_double_bose : (("double" : Str) = "bose") = False := eq_false (by decide +kernel)
theorem k_double_skolem : (("double" : Str) = "skolem") = False := eq_false (by decide +kernel)
theorem k_double_affine : (("double" : Str) = "affine") = False := eq_false (by decide +kernel)
theorem k_double_binary : (("double" : Str) = "binary") = False := eq_false (by decide +kernel)
theorem k_double_listed : (("double" : Str) = "listed") = False := eq_false (by decide +kernel)
theorem k_double_product : (("double" : Str) = "product") = False := eq_false (by decide +kernel)
theorem k_product_bose : (("product" : Str) = "bose") = False := eq_false (by decide +kernel)
theorem k_product_skolem : (("product" : Str) = "skolem") = False := eq_false (by decide +kernel)
theorem k_product_affine : (("product" : Str) = "affine") = False := eq_false (by decide +kernel)
theorem k_product_binary : (("product" : Str) = "binary") = False := eq_false (by decide +kernel)
theorem k_product_listed : (("product" : Str) = "listed") = False := eq_false (by decide +kernel)
theorem k_product_double : (("product" : Str) = "double") = False := eq_false (by decide +kernel)
theorem arm_bose : mget kv_ARMS "bose" = some 0 := by decide +kernel
theorem arm_skolem : mget kv_ARMS "skolem" = some 0 := by decide +kernel
theorem arm_affine : mget kv_ARMS "affine" = some 0 := by decide +kernel
theorem arm_binary : mget kv_ARMS "binary" = some 0 := by decide +kernel
theorem arm_listed : mget kv_ARMS "listed" = some 0 := by decide +kernel
theorem arm_double : mget kv_ARMS "double" = some 1 := by decide +kernel
theorem arm_product : mget kv_ARMS "product" = some 2 := by decide +kernel
end DL

set_option maxRecDepth 100000
set_option maxHeartbeats 1000000
namespace DL
open PySem PySem.Spec L2
/-- what one turn is to come to, where f says r -/
def Trn {σ β : Type} (up : σ → Rho) (abs : σ → β) (J : σ → Prop) (B : Os → Prop) (r : Option β) (o : Os) : Prop := match r with | some b => ∃ s', o = .nx (up s') ∧ abs s' = b ∧ J s' | none => B o
theorem Trn.no {σ β : Type} {up : σ → Rho} {abs : σ → β} {J : σ → Prop} {B : Os → Prop} {r : Option β} {o : Os} (e : r = none) (h : B o) : Trn up abs J B r o := by subst e; exact h
/-! rows of plain data -/
end DL

set_option maxRecDepth 100000
set_option maxHeartbeats 4000000
/-! xs[::-1], for lists and tuples -/
namespace DL
open PySem PySem.Spec L2 PyProof.Rows HT
section
variable {prog : Program} {w : World} {A : Around} {E : Value → Shared → Prop} {s : Shared}
end
section
variable {X : Cx}
end
def oRev : D → Option D
  | .lst l => some (.lst l.reverse)
  | .src l => some (.lst (l.map D.int).reverse)
  | .tup l => some (.tup l.reverse)
  | _ => none
def rRev (ea : Rho → Re D) (ρ : Rho) : Re D := (ea ρ).bind fun x => .of (oRev x)
section
variable {K : PySem.W.Frag} {W : WX} {ad : Cls → Addr} {te : TE} {ea : Rho → Re D} {ρ : Rho} {P : D → Prop} {X : Exn → Prop}
end
theorem e_oRev_l {l : List D} : oRev (.lst l) = some (.lst l.reverse) := rfl
theorem e_oRev_t {l : List D} : oRev (.tup l) = some (.tup l.reverse) := rfl
end DL

set_option maxRecDepth 100000
set_option maxHeartbeats 1000000
namespace DL
open PySem PySem.Spec L2 PyProof.Rows PySem.W
/-! sum of a tuple -/
section
variable {prog : Program} {w : World} {A : Around} {E : Value → Shared → Prop} {s : Shared} {l : Addr} {its : List Value} {ns : List Int} {Q : Value → Shared → Prop}
end
def bSumA : List D → Option D | [.lst l] => (asI l).map fun is => .int is.sum | [.tup l] => (asI l).map fun is => .int is.sum | _ => none
theorem e_bSumA {l : List D} : bSumA [.lst l] = (asI l).map fun bs => .int bs.sum := rfl
theorem e_bSumAt {l : List D} : bSumA [.tup l] = (asI l).map fun bs => .int bs.sum := rfl
end DL

set_option maxRecDepth 100000
set_option maxHeartbeats 1000000
namespace DL
open PySem PySem.Spec L2
section
variable {K : PySem.W.Frag} {W : WX} {ρ : Rho} {E : En} {te : TE} {tas : TA} {ad : Cls → Addr}
theorem Rps.dropLast {H : Hp} : ∀ {xs : List V} {ds : List D}, Rps K H xs ds → Rps K H xs.dropLast ds.dropLast
  | [], [], .nil => .nil
  | [_], [_], .cons _ .nil => .nil
  | _ :: y :: ys, _ :: e :: es, .cons r t => .cons r (Rps.dropLast t)
/-! dict comprehensions -/
structure CompK (K : PySem.W.Frag) (He0 He : Hp) (σ : St) (ρ : Rho) (Hs0 Hs : Hp) (L : Addr) (acc : List Key × List D) (G H : Hp) : Prop where
  S : StOk K He0 He σ G H ρ
  e : Ext Hs0 Hs G H
  at_ : ∃ kvs, H L = some (.dK kvs) ∧ kvs.map (·.1) = acc.1 ∧ Rps K G (kvs.map (·.2)) acc.2
  n0 : G L = none
theorem CompK.fin {vs : List Nat} {He0 He : Hp} {σ : St} {Hs0 Hs : Hp} {L : Addr} {acc : List Key × List D} {G H : Hp} (S : StOk K He0 He σ Hs0 Hs ρ) (nL : Hs L = none)
    (C : CompK K He0 He (L2.wipe σ vs) (wipeR ρ vs) Hs0 Hs L acc G H) : StOk K He0 He σ G H ρ ∧ Ext Hs0 Hs G H ∧ RpS K G H (.ref L) (.oK acc.1 acc.2) := by
  obtain ⟨kvs, hL, hk, rs⟩ := C.at_
  exact ⟨S.ext C.e, C.e, L, rfl, C.n0, kvs, hL, hk, rs⟩
theorem CompK.start {vs : List Nat} {He0 He : Hp} {σ : St} {Hs0 Hs : Hp} {L : Addr} (S : StOk K He0 He σ Hs0 Hs ρ) (nL : Hs L = none) :
    CompK K He0 He (L2.wipe σ vs) (wipeR ρ vs) Hs0 Hs L ([], []) Hs0 (upd Hs L (.dK [])) ∧ ∀ (j : Nat) (t : Sl), (wipeR ρ vs)[j]? = some t → t.isOwn = true → (L2.wipe σ vs)[j]? ≠ some (some (.ref L)) := by
  have S' := S.wipe vs
  have e : Ext Hs0 Hs Hs0 (upd Hs L (.dK [])) := .own S.sub nL
  refine ⟨⟨S'.ext e, e, ⟨[], upd_same, rfl, .nil⟩, S.sub.free nL⟩, fun j t hj ht q => ?_⟩
  obtain ⟨v', g1, g2, g3⟩ := S'.sl j t hj (by intro z; rw [z] at ht; cases ht)
  obtain ⟨b, rfl, nb, ob⟩ := own_of ht g2
  rw [g1] at q
  cases q
  obtain ⟨u, hu, _⟩ := ob.there
  rw [nL] at hu
  cases hu
end
/-! a dict of one's own, read while it is locked -/
section
variable {K : PySem.W.Frag} {W : WX} {ρ : Rho} {te : TE} {P : D → Prop} {PS : Sl → Prop} {X : Exn → Prop}
end
def rLkO (i : Nat) (e : Rho → Re Sl) (ρ : Rho) : Re Sl := match gt ρ i with
  | .oK ks vs => (e (ρ.set i (.dat (.fK ks vs)))).lendS false
  | .oT ks vs => (e (ρ.set i (.dat (.fT ks vs)))).lendS false
  | _ => e ρ
/-! evaluators -/
def xExtend (i : Nat) (e : Rho → Re D) (ρ : Rho) : Os := (gt ρ i).ownL.os ρ fun l => (e ρ).os ρ fun d => match d with
  | .lst es => if l.length + es.length ≤ 1000000 then .nx (ρ.set i (.own (l ++ es))) else .bad | _ => .bad
def xSetPop (i j : Nat) (ρ : Rho) : Os := (gt ρ i).ownL.os ρ fun l => match l[l.length - 1]? with | some d => .nx ((ρ.set i (.own l.dropLast)).set j (.dat d)) | none => .bad
def xSetPopAt (i j : Nat) (a : Rho → Re (List D)) (ρ : Rho) : Os := (gt ρ i).ownL.os ρ fun l => (a ρ).os ρ fun m => match m with
  | [.int k] => if 0 ≤ k ∧ k < l.length ∧ l.length ≤ 1000000 then (match l[k.toNat]? with | some d => .nx ((ρ.set i (.own (l.eraseIdx k.toNat))).set j (.dat d)) | none => .bad) else .bad | _ => .bad
def dcGo (f : D → Re (Option (Key × D))) : List D → List Key × List D → Re (List Key × List D)
  | [], acc => .ok acc
  | x :: xs, acc => (f x).bind fun o => match o with | some (k, z) => dcGo f xs (kput acc.1 k, vput acc.1 acc.2 k z) | none => dcGo f xs acc
def dcF (g : D → Rho → Option Rho) (t : Rho → Re Bool) (ek ev : Rho → Re D) (ρ : Rho) (x : D) : Re (Option (Key × D)) :=
  match g x ρ with | some ρ' => (t ρ').bind fun b => if b = true then (ek ρ').bind fun y => (ev ρ').bind fun z => (Re.of (keyK y)).bind fun k => .ok (some (k, z)) else .ok none | none => .bad
def rDc (i : Rho → Re (List D)) (g : D → Rho → Option Rho) (t : Rho → Re Bool) (ek ev : Rho → Re D) (vs : List Nat) (ρ : Rho) : Re Sl :=
  (i ρ).bind fun xs => if xs.length ≤ 1000000 then (dcGo (dcF g t ek ev (wipeR ρ vs)) xs ([], [])).noex.bind fun l => .ok (.oK l.1 l.2) else .bad
section
variable {K : PySem.W.Frag} {W : WX} {ad : Cls → Addr} {te tk tv : TE} {ea ekk evv : Rho → Re D} {tas : TA} {es : Rho → Re (List D)} {ti : TI} {ei : Rho → Re (List D)} {g : TG} {hg : D → Rho → Option Rho} {tt : TT} {et : Rho → Re Bool}
end
/-! lemmas for the mirror -/
end DL

set_option maxRecDepth 100000
set_option maxHeartbeats 1000000
namespace DL
open PySem PySem.Spec L2
section
variable {K : PySem.W.Frag} {W : WX} {ρ : Rho} {te : TE} {tas : TA} {P : D → Prop} {PS : Sl → Prop} {X : Exn → Prop} {ad : Cls → Addr} {ea : Rho → Re D} {es : Rho → Re (List D)}
/-- the items of a list, a tuple, or the keys of a dict -/
def seqK : D → Option (List D) | .lst l => some l | .tup l => some l | .dK ks _ => some (ks.map kD) | .fK ks _ => some (ks.map kD) | _ => none
def rListOfA (a : Rho → Re D) (ρ : Rho) : Re Sl := (a ρ).bind fun x => (Re.of (seqK x)).bind fun l => .ok (.own l)
theorem e_seqK_l {l : List D} : seqK (.lst l) = some l := rfl
theorem e_seqK_t {l : List D} : seqK (.tup l) = some l := rfl
theorem e_seqK_d {ks : List Key} {vs : List D} : seqK (.dK ks vs) = some (ks.map kD) := rfl
theorem e_seqK_f {ks : List Key} {vs : List D} : seqK (.fK ks vs) = some (ks.map kD) := rfl
/-! sorted of a dict's keys, all ints -/
end
end DL

set_option maxRecDepth 100000
set_option maxHeartbeats 2000000
namespace DL
open PySem PySem.Spec L2 PyProof.Rows
section
variable {X : Cx}
end
/-! the truth of a list by name -/
def rTruV (i : Nat) (ρ : Rho) : Re Bool := match gt ρ i with | .own l => .ok (!l.isEmpty) | .dat d => .of (truD d) | _ => .bad
end DL

set_option maxRecDepth 100000
set_option maxHeartbeats 2000000
/-! a loop over a list of one's own that is changed again behind the loop -/
namespace DL
open PySem PySem.Spec L2
section
variable {K : PySem.W.Frag} {W : WX} {g : TG} {tb : TS} {E : En}
end
end DL

set_option maxRecDepth 100000
set_option maxHeartbeats 2000000
/-! try with several except clauses, with and without a name -/
namespace DL
open PySem PySem.Spec L2 PyProof.Rows
/-- a clause: the name's slot, the class, the suite -/
abbrev Cl1 := Option Nat × Value × (Addr → Value → Option Addr → TS)
section
variable {X : Cx} {body : List Stmt} {h₀ : ExceptHandler} {hds : List ExceptHandler} {l : List Cl1} {pos : Pos} {tb : WX → TS} {Wout : WX}
end
/-! for the hand texts: a body that is done, a body that raises -/
end DL

set_option maxRecDepth 100000
set_option maxHeartbeats 2000000
/-! sorted() of any number of rows of ints (tuples), in a list or a tuple -/
namespace SrtR
open PySem PyProof.Rows SrtO
section
variable {prog : Program} {w : World} {A : Around} {E : Value → Shared → Prop} {s : Shared}
/-- a tuple of these ints in the heap -/
def IsTI (h : Heap) (v : Value) (ns : List Int) : Prop := ∃ a o xs n, v = .ref a ∧ h.get? a = some o ∧ o.cls = .type "tuple" ∧ o.data = .seq xs n ∧ IntsAre xs.toList ns
theorem IsTI.keeps {h h' : Heap} {v : Value} {ns : List Int} (x : IsTI h v ns) (k : ∀ b o, h.get? b = some o → o.cls = .type "tuple" → h'.get? b = some o) : IsTI h' v ns := by
  obtain ⟨a, o, xs, n, e, g, c, d, i⟩ := x
  exact ⟨a, o, xs, n, e, k _ _ g c, c, d, i⟩
end
end SrtR
namespace DL
open PySem PySem.Spec L2 PyProof.Rows
section
variable {K : PySem.W.Frag} {W : WX} {ad : Cls → Addr} {tas : TA} {es : Rho → Re (List D)}
end
/-! e.f, where the clause's class has the field -/
def rXfC (i : Nat) (a : Addr) (o : Option Addr) (f : Str) (C x : Cls) (ρ : Rho) : Re D := if x = C then rXf i a o f ρ else .bad
end DL

set_option maxRecDepth 100000
set_option maxHeartbeats 2000000
/-! repr of plain data (in the law's own def, where nothing is being shown); the law's call there; min of rows; xs.append(ys.pop(k)) -/
namespace DL
open PySem PySem.Spec L2 PyProof.Rows
open Classical in
noncomputable def bRepr : List D → Option D
  | [d] => if Sh d ∧ d.py.showable = true ∧ d.py.shown.length ≤ 1000000 then some (.str d.py.shown) else none
  | _ => none
/-! ### the law's call, where nothing is being shown -/
section
variable {P : Program} {w : World} {K : PySem.W.Frag} {mg : Str → Option Value} {base : Heap} {CX : CXT} {sp : Sp}
end
end DL

set_option maxRecDepth 100000
set_option maxHeartbeats 2000000
/-! min of a list of rows of ints; xs.append(ys.pop(k)) -/
namespace DL
open PySem PySem.Spec L2 PyProof.Rows
/-- the first of the least -/
def minR (x : List Int) (xs : List (List Int)) : List Int := xs.foldl (fun a y => if HT.lexLt y a then y else a) x
def bMinR : List D → Option D
  | [.lst l] => (asT l).bind fun rows => match rows with | [] => none | r :: rs => some (tI (minR r rs))
  | _ => none
theorem e_bMinR {r : List Int} {rs : List (List Int)} : bMinR [.lst ((r :: rs).map tI)] = some (tI (minR r rs)) := by
  show (asT ((r :: rs).map tI)).bind _ = _
  rw [asT_map]
  rfl
/-! xs.append(ys.pop(k)) -/
section
variable {K : PySem.W.Frag} {W : WX} {ρ : Rho} {E : En} {te : TE} {tas : TA} {ad : Cls → Addr} {es : Rho → Re (List D)}
def xAppPopAt (i j : Nat) (es : Rho → Re (List D)) (ρ : Rho) : Os := if i = j then .bad else (gt ρ i).ownL.os ρ fun ds => (gt ρ j).ownL.os ρ fun xs => (es ρ).os ρ fun m => match m with
  | [.int k] => if 0 ≤ k ∧ k < xs.length ∧ xs.length ≤ 1000000 ∧ ds.length < 1000000 then (match xs[k.toNat]? with | some d => .nx ((ρ.set j (.own (xs.eraseIdx k.toNat))).set i (.own (ds ++ [d]))) | none => .bad) else .bad
  | _ => .bad
end
/-! tuple(range(n)) -/
section
variable {K : PySem.W.Frag} {W : WX} {te : TE} {ad : Cls → Addr} {ea : Rho → Re D}
def rTupRg1 (a : Rho → Re D) (ρ : Rho) : Re D := (a ρ).bind fun x => match x with | .int n => if -(2 ^ 62) < n ∧ n ≤ 1000000 then .ok (.tup ((rg n).map D.int)) else .bad | _ => .bad
end
/-! [x] * n, as one's own -/
section
variable {K : PySem.W.Frag} {W : WX} {tas : TA} {tb : TE} {ad : Cls → Addr} {es : Rho → Re (List D)} {eb : Rho → Re D}
def rRep1 (a : Rho → Re (List D)) (b : Rho → Re D) (ρ : Rho) : Re Sl := (a ρ).bind fun l => match l with
  | [d] => (b ρ).bind fun y => (match y with | .int n => if 0 ≤ n ∧ n ≤ 1000000 then .ok (.own (List.replicate n.toNat d)) else .bad | _ => .bad)
  | _ => .bad
end
end DL

set_option maxRecDepth 100000
set_option maxHeartbeats 2000000
/-! repr of small data comes out -/
namespace DL
open PySem PySem.Spec L2 PyProof.Rows
/-- data of a shape, with small ints; w: how much stands in it -/
structure Sm (n w : Nat) (d : D) : Prop where
  sh : Shp n d
  a : d.py.showable = true
  b : d.py.leavesShort 13 = true
  c : d.py.weight ≤ w
theorem Shp.up : ∀ {d : D} {n : Nat}, Shp n d → Shp (n + 1) d
  | .non, _, _ => trivial
  | .bl _, _, _ => trivial
  | .int _, _, _ => trivial
  | .str _, 0, h => h
  | .str _, _ + 1, h => h
  | .lst l, n + 1, h => fun x hx => Shp.up (n := n) (h x hx)
  | .tup l, n + 1, h => fun x hx => Shp.up (n := n) (h x hx)
  | .lst _, 0, h => h.elim
  | .tup _, 0, h => h.elim
  | .dK _ _, 0, h => h.elim
  | .dK _ _, n + 1, h => h.elim
  | .dT _ _, 0, h => h.elim
  | .dT _ _, n + 1, h => h.elim
  | .src _, 0, h => h.elim
  | .src _, n + 1, h => h.elim
  | .fK _ _, 0, h => h.elim
  | .fK _ _, n + 1, h => h.elim
  | .fT _ _, 0, h => h.elim
  | .fT _ _, n + 1, h => h.elim
  | .ins _ _ _, 0, h => h.elim
  | .ins _ _ _, n + 1, h => h.elim
theorem Shp.le {d : D} {n m : Nat} (h : Shp n d) (hm : n ≤ m) : Shp m d := by
  induction hm with
  | refl => exact h
  | step _ ih => exact ih.up
theorem Sm.mono {d : D} {n w n' w' : Nat} (h : Sm n w d) (hn : n ≤ n') (hw : w ≤ w') : Sm n' w' d := ⟨h.sh.le hn, h.a, h.b, Nat.le_trans h.c hw⟩
theorem Sm.int {i : Int} (h : i.natAbs < 1000000000000) : Sm 0 40 (.int i) := by
  have l : i.natAbs.log2 < 40 := by
    by_cases e : i.natAbs = 0
    · rw [e]; decide
    · exact (Nat.log2_lt e).mpr (Nat.lt_trans h (by decide))
  refine ⟨trivial, ?_, ?_, ?_⟩
  · show decide (i.natAbs.log2 < 1920) = true
    exact decide_eq_true (by omega)
  · have := int_text_length_le10 (a := i) (k := 12) (by decide) (by simpa using h)
    have e : (PyData.shown (.int i)).length ≤ 13 := by
      show (Str.ofString (toString i)).length ≤ 13
      rw [PySem.ofString_length]
      exact this
    simp only [D.py, PyData.leavesShort]
    exact decide_eq_true e
  · show (if i == 0 then 0 else i.natAbs.log2 + 1) ≤ 40
    split <;> omega
theorem Sm.non : Sm 0 0 .non := ⟨trivial, rfl, rfl, Nat.le_refl _⟩
theorem Sm.all {n w : Nat} : ∀ {ds : List D}, (∀ d ∈ ds, Sm n w d) → PyData.showableAll (D.pys ds) = true ∧ PyData.leavesShortAll 13 (D.pys ds) = true ∧ PyData.weightAll (D.pys ds) ≤ ds.length * (w + 1)
  | [], _ => ⟨rfl, rfl, Nat.zero_le _⟩
  | d :: ds, h => by
    obtain ⟨h1, h2, h3⟩ := Sm.all (ds := ds) fun x hx => h x (List.mem_cons_of_mem _ hx)
    have hd := h d List.mem_cons_self
    refine ⟨?_, ?_, ?_⟩
    · simp only [D.pys, PyData.showableAll, hd.a, h1, Bool.and_self]
    · simp only [D.pys, PyData.leavesShortAll, hd.b, h2, Bool.and_self]
    · simp only [D.pys, PyData.weightAll, List.length_cons]
      have := hd.c
      rw [Nat.add_mul, Nat.one_mul]
      omega
theorem Sm.lst {n w : Nat} {ds : List D} (h : ∀ d ∈ ds, Sm n w d) : Sm (n + 1) (ds.length * (w + 1)) (.lst ds) := by
  obtain ⟨h1, h2, h3⟩ := Sm.all h
  exact ⟨fun d hd => (h d hd).sh, by simpa only [D.py, PyData.showable] using h1, by simpa only [D.py, PyData.leavesShort] using h2, by simpa only [D.py, PyData.weight] using h3⟩
theorem Sm.tup {n w : Nat} {ds : List D} (h : ∀ d ∈ ds, Sm n w d) : Sm (n + 1) (ds.length * (w + 1)) (.tup ds) := by
  obtain ⟨h1, h2, h3⟩ := Sm.all h
  exact ⟨fun d hd => (h d hd).sh, by simpa only [D.py, PyData.showable] using h1, by simpa only [D.py, PyData.leavesShort] using h2, by simpa only [D.py, PyData.weight] using h3⟩
theorem Sm.ints {l : List Int} (h : ∀ i ∈ l, i.natAbs < 1000000000000) : Sm 1 (l.length * 41) (.lst (l.map D.int)) := by
  have := Sm.lst (n := 0) (w := 40) (ds := l.map D.int) fun d hd => by
    obtain ⟨i, hi, rfl⟩ := List.mem_map.mp hd
    exact .int (h i hi)
  rwa [List.length_map] at this
theorem Sm.repr {n w : Nat} {d : D} (h : Sm n w d) (hn : n ≤ 64) (hw : w ≤ 60000) : bRepr [d] = some (.str d.py.shown) := by
  have hl := PyData.shown_le 13 (by decide) d.py h.b
  have := h.c
  unfold bRepr
  exact if_pos ⟨⟨n, hn, h.sh⟩, h.a, by omega⟩
end DL

set_option maxRecDepth 100000
set_option maxHeartbeats 2000000
/-! texts: join, split, str(), int(), f-strings, signs of a text, xs += ys -/
namespace DL
open PySem PySem.Spec L2 PyProof.Rows
section
variable {K : PySem.W.Frag} {W : WX} {ad : Cls → Addr} {ρ : Rho} {ta tb te : TE} {ea eb : Rho → Re D} {P : D → Prop} {X : Exn → Prop}
/-! a text's method -/
def rM1 (o : D → D → Option D) (a b : Rho → Re D) (ρ : Rho) : Re D := (a ρ).bind fun x => match x with | .str s => (b ρ).bind fun y => .of (o (.str s) y) | _ => .bad
def rM1O (o : D → D → Option (List D)) (a b : Rho → Re D) (ρ : Rho) : Re Sl := (a ρ).bind fun x => match x with | .str s => (b ρ).bind fun y => (Re.of (o (.str s) y)).bind fun l => .ok (.own l) | _ => .bad
def rM0 (o : D → Option D) (a : Rho → Re D) (ρ : Rho) : Re D := (a ρ).bind fun x => match x with | .str s => .of (o (.str s)) | _ => .bad
def rM0O (o : D → Option (List D)) (a : Rho → Re D) (ρ : Rho) : Re Sl := (a ρ).bind fun x => match x with | .str s => (Re.of (o (.str s))).bind fun l => .ok (.own l) | _ => .bad
/-! join -/
def oJoin : D → D → Option D
  | .str a, y => (seqD y).bind fun l => (asS l).bind fun ys => if (ys.map (·.length)).sum + ys.length * a.length ≤ 1000000 then some (.str (Txt.join a ys)) else none
  | _, _ => none
/-! str(x) -/
def bStrA : List D → Option D
  | [.int i] => if i.natAbs.log2 < 1920 then some (.str (toString i)) else none
  | [.str a] => some (.str a)
  | _ => none
/-! int(text) -/
def bIntS : List D → Option D
  | [.str a] => if a.length ≤ 640 then (PySem.intText? a).map D.int else none
  | _ => none
/-! f-strings -/
def oFmt : D → Option D
  | .str y => if y.length ≤ 1000000 then some (.str y) else none
  | .int i => if i.natAbs.log2 < 1920 then some (.str (toString i)) else none
  | _ => none
def rJs : List (Rho → Re D) → Str → Rho → Re Str
  | [], acc, _ => .ok acc
  | e :: es, acc, ρ => (e ρ).bind fun x => match x with | .str y => if (acc ++ y).length ≤ 1000000 then rJs es (acc ++ y) ρ else .bad | _ => .bad
def rFs (es : List (Rho → Re D)) (ρ : Rho) : Re D := (rJs es Str.empty ρ).bind fun s => .ok (.str s)
/-! signs of a text -/
/-! a loop over the signs -/
def sgs (x : Str) : List D := x.cps.toList.map fun c => D.str ⟨#[c]⟩
def rIStr (a : Rho → Re D) (ρ : Rho) : Re (List D) := (a ρ).bind fun x => match x with | .str s => .ok (sgs s) | _ => .bad
/-! split -/
def oSplit : D → D → Option (List D) | .str a, .str b => if (b.length == 0) = false ∧ a.length ≤ 1000000 then some ((Txt.split a b).map D.str) else none | _, _ => none
def oWords : D → Option (List D) | .str a => if a.length ≤ 1000000 then some ((Txt.words a).map D.str) else none | _ => none
/-! xs += ys -/
def xAugL (i : Nat) (a : Rho → Re D) : Rho → Os := xExtend i a
end
/-! for simp -/
/-- the text of an int -/
def txI (i : Int) : Str := Str.ofString (toString i)
theorem e_oJoin_l {a : Str} {l : List D} : oJoin (.str a) (.lst l) = (asS l).bind fun ys => if (ys.map (·.length)).sum + ys.length * a.length ≤ 1000000 then some (.str (Txt.join a ys)) else none := rfl
theorem e_oJoin_t {a : Str} {l : List D} : oJoin (.str a) (.tup l) = (asS l).bind fun ys => if (ys.map (·.length)).sum + ys.length * a.length ≤ 1000000 then some (.str (Txt.join a ys)) else none := rfl
theorem e_bStrA_i {i : Int} : bStrA [.int i] = if i.natAbs.log2 < 1920 then some (.str (txI i)) else none := rfl
theorem e_bStrA_s {a : Str} : bStrA [.str a] = some (.str a) := rfl
theorem e_oFmt_i {i : Int} : oFmt (.int i) = if i.natAbs.log2 < 1920 then some (.str (txI i)) else none := rfl
theorem e_oFmt_s {a : Str} : oFmt (.str a) = if a.length ≤ 1000000 then some (.str a) else none := rfl
theorem e_oSplit {a b : Str} : oSplit (.str a) (.str b) = if (b.length == 0) = false ∧ a.length ≤ 1000000 then some ((Txt.split a b).map D.str) else none := rfl
theorem e_oWords {a : Str} : oWords (.str a) = if a.length ≤ 1000000 then some ((Txt.words a).map D.str) else none := rfl
theorem e_bIntS {a : Str} : bIntS [.str a] = if a.length ≤ 640 then (PySem.intText? a).map D.int else none := rfl
end DL

set_option maxRecDepth 100000
set_option maxHeartbeats 2000000
/-! in of any data, < of (int, text), slices of texts -/
namespace DL
open PySem PySem.Spec L2 PyProof.Rows
section
variable {K : PySem.W.Frag} {W : WX} {ad : Cls → Addr} {ρ : Rho} {P : D → Prop} {X : Exn → Prop}
/-! (len, text) < (len, text) -/
/-! slices of a text -/
end
theorem strOk_of {s : Str} (h : ∀ c ∈ s.cps.toList, c < 256) : PyData.strOk s = true := by
  unfold PyData.strOk
  rw [Array.all_eq_true_iff_forall_mem]
  intro c hc
  exact decide_eq_true (Nat.lt_trans (h c (Array.mem_toList_iff.mpr hc)) (by decide))
theorem Sm.str {s : Str} {n : Nat} (h : ∀ c ∈ s.cps.toList, c < 256) (hl : s.length ≤ n) : Sm 0 n (.str s) := by
  refine ⟨strOk_of h, ?_, ?_, ?_⟩
  · first | rfl | simp [D.py, PyData.showable]
  · show (s.cps.toList.all fun c => decide (c < 16 ^ 8)) = true
    exact List.all_eq_true.mpr fun c hc => decide_eq_true (Nat.lt_trans (h c hc) (by decide))
  · show PyData.weight (.str s) ≤ n
    first | exact hl | (simp only [PyData.weight]; omega)
end DL

set_option maxRecDepth 100000
set_option maxHeartbeats 2000000
/-! sorted(d) of texts; {k: v}; d != e -/
namespace DL
open PySem PySem.Spec L2 PyProof.Rows
section
variable {K : PySem.W.Frag} {W : WX} {ad : Cls → Addr} {ρ : Rho} {ta tb te tk tv : TE} {ea eb ek ev : Rho → Re D} {tas : TA} {es : Rho → Re (List D)} {P : D → Prop} {X : Exn → Prop}
/-! texts in order -/
def leS (a b : Str) : Bool := !decide (b.cps.toList < a.cps.toList)
def srtS (l : List Str) : List Str := l.mergeSort leS
/-! sorted(d) -/
def asKS : List Key → Option (List Str)
  | [] => some []
  | .inr s :: r => (asKS r).map (s :: ·)
  | .inl _ :: _ => none
theorem asKS_map : ∀ l : List Str, asKS (l.map Sum.inr) = some l
  | [] => rfl
  | i :: l => by simp [asKS, asKS_map l]
def bSortKS : List D → Option D
  | [.dK ks _] => (asKS ks).bind fun is => if is.length < 64 then some (.lst ((srtS is).map D.str)) else none
  | [.fK ks _] => (asKS ks).bind fun is => if is.length < 64 then some (.lst ((srtS is).map D.str)) else none
  | _ => none
/-! {k: v} -/
def rDisp1 (ek ev : Rho → Re D) (ρ : Rho) : Re Sl := (ek ρ).bind fun y => (ev ρ).bind fun z => (Re.of (keyK y)).bind fun k => .ok (.oK [k] [z])
/-! d != e, the same -/
end
theorem e_bSortKS_d {ks : List Key} {vs : List D} : bSortKS [.dK ks vs] = (asKS ks).bind fun is => if is.length < 64 then some (.lst ((srtS is).map D.str)) else none := rfl
end DL

set_option maxRecDepth 100000
set_option maxHeartbeats 2000000
/-! a text times an int -/
namespace DL
open PySem PySem.Spec L2 PyProof.Rows
section
variable {K : PySem.W.Frag} {P : D → Prop}
end
/-! xs + ys of lists, as one's own -/
section
variable {K : PySem.W.Frag} {W : WX} {ta tb : TE} {ad : Cls → Addr} {ea eb : Rho → Re D}
def rCatO (a b : Rho → Re D) (ρ : Rho) : Re Sl := (a ρ).bind fun x => match x with
  | .lst i => (b ρ).bind fun y => (match y with | .lst j => if i.length + j.length ≤ 1000000 then .ok (.own (i ++ j)) else .bad | _ => .bad)
  | _ => .bad
end
end DL

set_option maxRecDepth 100000
set_option maxHeartbeats 2000000
/-! an answer's inner list that is changed, the answer not used behind it: x = f(n); if t: return ..; x[j].append(y) -/
namespace DL
open PySem PySem.Spec L2 PyProof.Rows
section
variable {K : PySem.W.Frag} {W : WX} {ad : Cls → Addr} {ρ : Rho} {E : En} {i : Nat} {m : List D → Re Sl} {tas : TA} {tt : TT} {tx tr : TS} {ti ty : TE} {rows : List D} {n : Int}
theorem ws_deep (ha : AvP K W tas ρ (fun ds => ds = [.int n]) (fun _ => False)) (hm : m [.int n] = .ok (.own rows)) (hl : i < ρ.length)
    (ht : BvP K W tt (ρ.set i (.dat (.lst rows))) (fun b => if b = true then WS K W tx (ρ.set i (.dat (.lst rows))) { E with nx := fun _ => False } else
      EvP K W ti (ρ.set i (.dat (.lst rows))) (fun y => ∃ k l, y = .int k ∧ atI rows k = some (.lst l) ∧ l.length < sizeLine) (fun _ => False) ∧
      EvP K W ty (ρ.set i (.dat (.lst rows))) (fun _ => True) (fun _ => False) ∧ WS K W tr (ρ.set i .no) E) (fun _ => False)) :
    WS K W (tSeq (tAsg (tCallS (spM K ad m) (WE W) tas) (gName i)) (tSeq (tIfS tt tx tNext) (tSeq (tDrop (tBM K "list" rAppend (tOp (rIx K) (tVar i) ti) (tCons ty tNil))) tr))) ρ E := fun He0 He σ H0 H D S e => by
  have nox : ∀ (He0 He : Hp) (σ : L2.St) (ρ : Rho), Exs K He0 He W σ ρ (fun _ => False) := fun _ _ _ _ x cls od H0 H h => h.elim
  refine ha He0 He σ H0 H _ S (nox _ _ _ _) fun vs ds H1 H1' p S1 e1 r1 => ?_
  subst p
  have r0 : Rps K (fun _ => none) vs [.int n] := by
    cases r1 with
    | cons a b =>
      cases a
      cases b
      exact .cons (.int _) .nil
  refine ⟨[.int n], fun _ => none, ?_, r0, ?_, ?_, ?_⟩
  · intro b o q
    cases q
  · intro z
    have z' : m [.int n] = .bad := z
    rw [hm] at z'
    cases z'
  case refine_4 =>
    rintro x cls od _ _ ⟨y, q, _⟩
    rw [hm] at q
    cases q
  intro v s N0 N q e2 r2 n2
  have q' : m [.int n] = .ok s := q
  rw [hm] at q'
  cases q'
  obtain ⟨a, rfl, na, us, hus, rus⟩ := r2
  have fa : H1' a = none := n2 rfl a rfl
  have sN : Same H1 N := S1.sub.trans e2.s
  obtain ⟨C, hC⟩ : ∃ C : Hp, C = fun b => match H1 b with | some o => some o | none => N0 b := ⟨_, rfl⟩
  have C1 : ∀ {b o}, H1 b = some o → C b = some o := fun {b o} q => by rw [hC]; show (match H1 b with | some o => some o | none => N0 b) = some o; rw [q]
  have C0 : ∀ {b}, H1 b = none → C b = N0 b := fun {b} q => by rw [hC]; show (match H1 b with | some o => some o | none => N0 b) = N0 b; rw [q]
  have s0C : Same N0 C := fun b o q => by
    cases z : H1 b with
    | none => rw [C0 z]; exact q
    | some u =>
      have := sN b u z
      rw [e2.sub b o q] at this
      rw [C1 z, this]
  have sC : Same C N := fun b o q => by
    cases z : H1 b with
    | none => rw [C0 z] at q; exact e2.sub b o q
    | some u => rw [C1 z] at q; cases q; exact sN b _ z
  have eC : Ext H1 H1' C N := ⟨fun b o q => C1 q, e2.s, sC, fun b o z q => by
    rw [C0 z] at q
    exact e2.fr b o rfl q⟩
  have S2 := S1.ext eC
  have ca : C a = none := by rw [C0 (S1.sub.free fa)]; exact na
  have S3 : StOk K He0 He (σ.set i (some (.ref a))) C N (ρ.set i (.own rows)) := S2.set i ⟨a, rfl, ca, us, hus, rus.mono s0C⟩ (n2.mono S1.e.s) fun o b eb j t _ hj ht => ap_new S1 n2 o b eb j t hj ht
  obtain ⟨C2, s2, S4⟩ := S3.freeze (i := i) (s := .own rows) (List.getElem?_set_self hl) rfl
  rw [List.set_set] at S4
  have S4 : StOk K He0 He (σ.set i (some (.ref a))) C2 N (ρ.set i (.dat (.lst rows))) := S4
  have il : i < σ.length := by rw [S.len]; exact hl
  refine ht He0 He _ C2 N _ S4 (nox _ _ _ _) fun b H2 H2' p2 S5 e5 => ?_
  cases b with
  | true => exact (show WS K W tx (ρ.set i (.dat (.lst rows))) { E with nx := fun _ => False } from p2) He0 He _ H2 H2' _ S5 ⟨fun _ _ _ _ q => q.elim, e.rt, e.bk, e.ct, e.ex⟩
  | false =>
    obtain ⟨hi, hy, hr⟩ := (show EvP K W ti (ρ.set i (.dat (.lst rows))) (fun y => ∃ k l, y = .int k ∧ atI rows k = some (.lst l) ∧ l.length < sizeLine) (fun _ => False) ∧
      EvP K W ty (ρ.set i (.dat (.lst rows))) (fun _ => True) (fun _ => False) ∧ WS K W tr (ρ.set i .no) E from p2)
    refine ⟨.ref a, List.getElem?_set_self il, hi He0 He _ H2 H2' _ S5 (nox _ _ _ _) fun u y H3 H3' pq S6 e6 r6 => ?_⟩
    obtain ⟨k, l, rfl, ek, lz⟩ := pq
    cases r6
    obtain ⟨j, h1, h2, _, _, _⟩ := atI_get ek
    obtain ⟨x, h3, h4⟩ := rus.get h2
    cases h4 with
    | lst hc rl =>
      rename_i c xs
      have fc : H1' c = none := by
        rcases e2.fr c _ rfl hc with z | ⟨ys, z⟩
        · exact z
        · have := e2.s _ _ z
          rw [e2.sub _ _ hc] at this
          cases this
      have sNH3 : Same N H3' := e5.s.trans e6.s
      have hc3 : H3' c = some (.lst xs) := sNH3 _ _ (e2.sub _ _ hc)
      refine .inl ⟨a, us, k, .ref c, rfl, rfl, .inl (.inl (sNH3 _ _ hus)), ?_, ?_⟩
      · unfold atI at ek ⊢
        rw [rus.length]
        cases e : ixN rows.length k with
        | none => rw [e] at ek; cases ek
        | some j' =>
          rw [e] at ek
          have h' : rows[j']? = some (.lst l) := ek
          have hj : j' = j := by
            have := ixN_seq e
            rw [h1] at this
            exact (Option.some.inj this.1).symm
          subst hj
          exact h3
      refine ⟨.inl ⟨rfl, _, .inl (.inl hc3)⟩, hy He0 He _ H3 H3' _ S6 (nox _ _ _ _) fun u y H4 H4' _ S7 e7 r7 => ?_⟩
      have hc4 := e7.s _ _ hc3
      refine ⟨c, xs, u, rfl, rfl, hc4, by rw [rl.length]; exact lz, ?_⟩
      have s5 : Same H1' (upd H4' c (.lst (xs ++ [u]))) := fun b o q => by
        rw [upd_ne (ne_of_none q fc)]
        exact e7.s _ _ (sNH3 _ _ (e2.s _ _ q))
      have E8 : Ext H1 H1' H1 (upd H4' c (.lst (xs ++ [u]))) := ⟨.refl _, s5, S1.sub.trans s5, fun b o z q => by rw [z] at q; cases q⟩
      have S8 : StOk K He0 He (σ.set i (some (.ref a))) H1 (upd H4' c (.lst (xs ++ [u]))) (ρ.set i .no) := (S1.ext E8).set i trivial (fun z => by cases z) (fun z => by cases z)
      exact hr He0 He _ H1 _ D S8 e
/-- the mirror -/
def rDeep (i : Nat) (m : List D → Re Sl) (ea : Rho → Re (List D)) (et : Rho → Re Bool) (xx : Rho → Os) (ei ey : Rho → Re D) (xr : Rho → Os) (ρ : Rho) : Os :=
  match ea ρ with
  | .ok [.int n] => match m [.int n] with
    | .ok (.own rows) => if i < ρ.length then match et (ρ.set i (.dat (.lst rows))) with
      | .ok true => (match xx (ρ.set i (.dat (.lst rows))) with | .rt s => .rt s | _ => .bad)
      | .ok false => match ei (ρ.set i (.dat (.lst rows))), ey (ρ.set i (.dat (.lst rows))) with
        | .ok (.int k), .ok _ => match atI rows k with
          | some (.lst l) => if l.length < 1000000 then xr (ρ.set i .no) else .bad
          | _ => .bad
        | _, _ => .bad
      | _ => .bad
      else .bad
    | _ => .bad
  | _ => .bad
end
section
variable {K : PySem.W.Frag} {W : WX} {ad : Cls → Addr} {m : List D → Re Sl} {tas : TA} {tt : TT} {tx tr : TS} {ti ty : TE} {ea : Rho → Re (List D)} {et : Rho → Re Bool} {xx xr : Rho → Os} {ei ey : Rho → Re D}
theorem cDeep (i : Nat) (ha : CA K W ad tas ea) (ht : CB K W ad tt et) (hx : CS K W ad tx xx) (hi : CE K W ad ti ei) (hy : CE K W ad ty ey) (hr : CS K W ad tr xr) :
    CS K W ad (tSeq (tAsg (tCallS (spM K ad m) (WE W) tas) (gName i)) (tSeq (tIfS tt tx tNext) (tSeq (tDrop (tBM K "list" rAppend (tOp (rIx K) (tVar i) ti) (tCons ty tNil))) tr))) (rDeep i m ea et xx ei ey xr) := fun ρ E h => by
  unfold rDeep at h
  split at h
  case h_2 => exact h.elim
  rename_i n e1
  split at h
  case h_2 => exact h.elim
  rename_i rows e2
  split at h
  case isFalse => exact h.elim
  rename_i hl
  have a1 : AvP K W tas ρ (fun ds => ds = [.int n]) (fun _ => False) := ha ρ _ _ (by rw [e1]; exact rfl)
  refine ws_deep a1 e2 hl ?_
  split at h
  case h_3 => exact h.elim
  case h_1 b e3 =>
    refine ht _ _ _ ?_
    rw [e3]
    show WS K W tx _ _
    refine hx _ _ ?_
    split at h
    case h_2 => exact h.elim
    rename_i s e4
    rw [e4]
    exact h
  case h_2 b e3 =>
    refine ht _ _ _ ?_
    rw [e3]
    split at h
    case h_2 => exact h.elim
    rename_i k y e4 e5
    split at h
    case h_2 => exact h.elim
    rename_i l e6
    split at h
    case isFalse => exact h.elim
    rename_i lz
    show _ ∧ _ ∧ _
    refine ⟨hi _ _ _ ?_, hy _ _ _ ?_, hr _ _ h⟩
    · rw [e4]
      exact ⟨k, l, rfl, e6, small_lt (by omega)⟩
    · rw [e5]
      exact trivial
end
end DL

set_option pp.deepTerms false
set_option pp.maxSteps 400
set_option maxRecDepth 100000
set_option maxHeartbeats 4000000
namespace K79
open PySem PySem.Spec L2 DL

/-- check_players: 0 players -/
noncomputable def r_check_players : Rho → Os :=
  (rIf (rOr (rNot (rTest (rChain oLe oLe (rC (.int 2)) (rVar 0) (rC (.int 1000000000000000000000000000000))))) (rTest (rOp oNe (rOp oMod (rVar 0) (rC (.int 2))) (rC (.int 0))))) (rRaise0 .InvalidQuestion)
  rNext)
noncomputable def m_check_players : List D → Re Sl := mkM 1 [] r_check_players
/-- check_below: 0 value, 1 bound -/
noncomputable def r_check_below : Rho → Os :=
  (rIf (rNot (rTest (rChain oLe oLt (rC (.int 0)) (rVar 0) (rVar 1)))) (rRaise0 .InvalidQuestion)
  rNext)
noncomputable def m_check_below : List D → Re Sl := mkM 2 [] r_check_below
/-- middle: 0 players, 1 turn -/
noncomputable def r_middle : Rho → Os :=
  (rRet (rOp oMod (rOp oMul (rVar 1) (rOp oDiv (rVar 0) (rC (.int 2)))) (rOp oSub (rVar 0) (rC (.int 1)))))
noncomputable def m_middle : List D → Re Sl := mkM 2 [] r_middle
/-- _law_row: 0 _law_cell, 1 _law_many, 2 _law_row_here, 3 _law_rest, 4 _law_mixed, 5 _law_k -/
noncomputable def r_law_row : Rho → Os :=
  (rSeq (rSetO 2 (rLst rNil))
  (rSeq (rSet 3 (rCb bAbs (rCons (rVar 0) rNil)))
  (rSeq (rF [3] (rSet 4 (rOp oMod (rCb bInt (rCons (rOp oAdd (rOp oMul (rVar 3) (rC (.int 48271))) (rC (.int 69621))) rNil)) (rC (.int 2147483647)))))
  (rSeq (rK [3, 4, 5] (rFor (rIRng1 (rCons (rVar 1) rNil)) (gnm 5)
  (rK [5] (rSeq (rSet 4 (rOp oMod (rCb bInt (rCons (rOp oAdd (rOp oMul (rVar 4) (rC (.int 16807))) (rOp oMul (rC (.int 271)) (rOp oAdd (rVar 5) (rC (.int 3))))) rNil)) (rC (.int 2147483629))))
  (rIf (rTest (rOp oGe (rCb bAbs (rCons (rVar 0) rNil)) (rOp oPow (rC (.int 10)) (rC (.int 18))))) (rSeq (rF [3] (xAppend 2 (rOp oMod (rCb bInt (rCons (rVar 3) rNil)) (rC (.int 1009)))))
  (rF [3] (rSet 3 (rOp oDiv (rVar 3) (rC (.int 1009))))))
  (xAppend 2 (rOp oMod (rCb bInt (rCons (rOp oDiv (rVar 4) (rC (.int 7))) rNil)) (rC (.int 1009)))))))))
  (rRetV 2)))))
noncomputable def m_law_row : List D → Re Sl := mkM 2 [.no, .no, .no, .no] r_law_row
/-- _law_pick: 0 _law_numbers_here, 1 _law_at, 2 _law_most -/
noncomputable def r_law_pick : Rho → Os :=
  (rRet (rOp oMod (rCb bInt (rCons (rIxV 0 (rVar 1)) rNil)) (rVar 2)))
noncomputable def m_law_pick : List D → Re Sl := mkM 3 [] r_law_pick
/-- place_of: 0 players, 1 turn, 2 player, 3 last, 4 away -/
noncomputable def r_place_of : Rho → Os :=
  (rSeq (rDrop (rStill (rCall m_check_players (rCons (rVar 0) rNil))))
  (rSeq (rDrop (rStill (rCall m_check_below (rCons (rVar 1) (rCons (rOp oSub (rVar 0) (rC (.int 1))) rNil)))))
  (rSeq (rDrop (rStill (rCall m_check_below (rCons (rVar 2) (rCons (rVar 0) rNil)))))
  (rSeq (rSet 3 (rOp oSub (rVar 0) (rC (.int 1))))
  (rSeq (rIf (rTest (rOp oEq (rVar 2) (rVar 3))) (rRet (rC (.int 0)))
  rNext)
  (rSeq (rSet 4 (rOp oMod (rOp oSub (rVar 2) (rStill (rCall m_middle (rCons (rVar 0) (rCons (rVar 1) rNil))))) (rVar 3)))
  (rRet (rIfE (rTest (rOp oGt (rVar 4) (rC (.int 0)))) (rCb bMin2 (rCons (rVar 4) (rCons (rOp oSub (rVar 3) (rVar 4)) rNil))) (rC (.int 0))))))))))
noncomputable def m_place_of : List D → Re Sl := mkM 3 [.no, .no] r_place_of
/-- players_at: 0 players, 1 turn, 2 place, 3 last, 4 centre -/
noncomputable def r_players_at : Rho → Os :=
  (rSeq (rDrop (rStill (rCall m_check_players (rCons (rVar 0) rNil))))
  (rSeq (rDrop (rStill (rCall m_check_below (rCons (rVar 1) (rCons (rOp oSub (rVar 0) (rC (.int 1))) rNil)))))
  (rSeq (rDrop (rStill (rCall m_check_below (rCons (rVar 2) (rCons (rOp oDiv (rVar 0) (rC (.int 2))) rNil)))))
  (rSeq (rSet 3 (rOp oSub (rVar 0) (rC (.int 1))))
  (rSeq (rSetO 4 (rCall m_middle (rCons (rVar 0) (rCons (rVar 1) rNil))))
  (rSeq (rIf (rTest (rOp oEq (rVar 2) (rC (.int 0)))) (rF [4] (rRet (rTup (rCons (rVar 4) (rCons (rVar 3) rNil)))))
  rNext)
  (rF [4] (rRet (rCb bTuple (rCons (rStill (sortedO bSorted (rCons (rTup (rCons (rOp oMod (rOp oAdd (rVar 4) (rVar 2)) (rVar 3)) (rCons (rOp oMod (rOp oSub (rVar 4) (rVar 2)) (rVar 3)) rNil))) rNil))) rNil))))))))))
noncomputable def m_players_at : List D → Re Sl := mkM 3 [.no, .no] r_players_at
/-- _law_numbers: 0 _law_script, 1 _law_many, 2 _law_cells, 3 _law_each, 4 _law_numbers_here, 5 _law_cell, 6 _law_number -/
noncomputable def r_law_numbers : Rho → Os :=
  (rSeq (rSet 2 (rSl oSlAny (rVar 0) rPN (rPS (rC (.int 63)))))
  (rSeq (rSet 3 (rOp oAdd (rC (.int 1)) (rOp oDiv (rVar 1) (rCb bMax2 (rCons (rC (.int 1)) (rCons (rLenV 2) rNil))))))
  (rSeq (rSetO 4 (rLst rNil))
  (rSeq (rK [5, 6] (rFor (rISeq (rVar 2)) (gnm 5)
  (rK [5, 6] (rK [6] (rFor (rISeq (rStill (rCall m_law_row (rCons (rVar 5) (rCons (rVar 3) rNil))))) (gnm 6)
  (rK [6] (xAppend 4 (rVar 6))))))))
  (rSeq (rWhile (rTest (rOp oLt (rLenV 4) (rVar 1))) (xAppend 4 (rC (.int 0))))
  (rF [4] (rRet (rSl oSlAny (rVar 4) rPN (rPS (rVar 1))))))))))
noncomputable def m_law_numbers : List D → Re Sl := mkM 2 [.no, .no, .no, .no, .no] r_law_numbers
/-- plan: 0 players, 1 turn, 2 place -/
noncomputable def r_plan : Rho → Os :=
  (rSeq (rDrop (rStill (rCall m_check_players (rCons (rVar 0) rNil))))
  (rSeq (rIf (rTest (rOp oGt (rVar 0) (rC (.int 100)))) (rRaise0 .InvalidQuestion)
  rNext)
  (rRetO (rLc (rIRng1 (rCons (rOp oSub (rVar 0) (rC (.int 1))) rNil)) (gnm 1) rYes (rStill (rLc (rIRng1 (rCons (rOp oDiv (rVar 0) (rC (.int 2))) rNil)) (gnm 2) rYes (rStill (rCall m_players_at (rCons (rVar 0) (rCons (rVar 1) (rCons (rVar 2) rNil))))) [2])) [1]))))
noncomputable def m_plan : List D → Re Sl := mkM 1 [.no, .no] r_plan
/-- law: 0 _law_script, 1 _law_numbers_here, 2 _law_players, 3 _law_last, 4 _law_turn, 5 _law_middle, 6 _law_due, 7 _law_place, 8 _law_found, 9 _law_told, 10 _law_one, 11 _law_pair -/
noncomputable def r_law : Rho → Os :=
  (rSeq (rSetO 1 (rCall m_law_numbers (rCons (rVar 0) (rCons (rC (.int 4)) rNil))))
  (rSeq (rF [1] (rSet 2 (rOp oAdd (rC (.int 2)) (rOp oMul (rC (.int 2)) (rStill (rCall m_law_pick (rCons (rVar 1) (rCons (rC (.int 0)) (rCons (rC (.int 15)) rNil)))))))))
  (rSeq (rSet 3 (rOp oSub (rVar 2) (rC (.int 1))))
  (rSeq (rF [1] (rSetO 4 (rCall m_law_pick (rCons (rVar 1) (rCons (rC (.int 1)) (rCons (rVar 3) rNil))))))
  (rSeq (rF [4] (rSet 5 (rOp oIx (rStill (rLc (rIRng1 (rCons (rVar 3) rNil)) (gnm 10) (rTest (rOp oEq (rOp oMod (rCb bInt (rCons (rOp oSub (rOp oMul (rC (.int 2)) (rVar 10)) (rVar 4)) rNil)) (rVar 3)) (rC (.int 0)))) (rVar 10) [10])) (rC (.int 0)))))
  (rSeq (rSetO 6 (rLst (rCons (rTup (rCons (rVar 5) (rCons (rVar 3) rNil))) rNil)))
  (rSeq (rFor (rIRng2 (rCons (rC (.int 1)) (rCons (rOp oDiv (rVar 2) (rC (.int 2))) rNil))) (gnm 7)
  (xAppend 6 (rCb bTuple (rCons (rStill (sortedO bSorted (rCons (rStill (rLst (rCons (rOp oMod (rCb bInt (rCons (rOp oAdd (rVar 5) (rVar 7)) rNil)) (rVar 3)) (rCons (rOp oMod (rCb bInt (rCons (rOp oSub (rVar 5) (rVar 7)) rNil)) (rVar 3)) rNil)))) rNil))) rNil))))
  (rSeq (rF [4] (rSetO 8 (rLc (rIRng1 (rCons (rOp oDiv (rVar 2) (rC (.int 2))) rNil)) (gnm 7) rYes (rStill (rCall m_players_at (rCons (rVar 2) (rCons (rVar 4) (rCons (rVar 7) rNil))))) [7])))
  (rSeq (rK [11] (rF [6, 8] (rIf (rOr (rTest (rOp oNe (rVar 8) (rVar 6))) (rNot (rTru (rCb bAll (rCons (rStill (rLc (rISeq (rVar 8)) (gnm 11) rYes (xIsi .tuple (rVar 11)) [11])) rNil))))) (rRet (rC (.bl false)))
  rNext)))
  (rSeq (rK [7] (rFor (rIRng1 (rCons (rOp oDiv (rVar 2) (rC (.int 2))) rNil)) (gnm 7)
  (rK [7] (rF [4] (rIf (rOr (rTest (rOp oNe (rStill (rCall m_place_of (rCons (rVar 2) (rCons (rVar 4) (rCons (rOp oIx (rIxV 6 (rVar 7)) (rC (.int 0))) rNil))))) (rVar 7))) (rTest (rOp oNe (rStill (rCall m_place_of (rCons (rVar 2) (rCons (rVar 4) (rCons (rOp oIx (rIxV 6 (rVar 7)) (rC (.int 1))) rNil))))) (rVar 7)))) (rRet (rC (.bl false)))
  rNext)))))
  (rDeep 9 m_plan (rCons (rVar 2) rNil) (rOr (rNot (rTru (xIsi .list (rVar 9)))) (rOr (rTest (rOp oNe (rLenV 9) (rVar 3))) (rOr (rTest (rOp oNe (rIxV 9 (rVar 4)) (rVar 6))) (rNot (rTru (xIsi .list (rIxV 9 (rVar 4)))))))) (rRet (rC (.bl false))) (rVar 4) (rC (.str "x"))
  (rF [4, 6] (rRet (rOp oEq (rOp oIx (rStill (rCall m_plan (rCons (rVar 2) rNil))) (rVar 4)) (rVar 6)))))))))))))))
end K79

set_option pp.deepTerms false
set_option pp.maxSteps 400
set_option maxRecDepth 100000
set_option maxHeartbeats 4000000
namespace K79
open PySem PySem.Spec L2 DL

def topS (i : Nat) : Stmt := PySem.Challenge.pw_paironce_k79_places.main.body.getD i (.Pass ⟨0, 0, 0, 0⟩)
abbrev s_check_players : Stmt := topS 6
theorem sc_check_players : FnScope ["players"] ["players"] (defScope s_check_players) := ⟨rfl, rfl, rfl, by decide +kernel, rfl, by decide +kernel, by decide +kernel⟩
abbrev s_check_below : Stmt := topS 7
theorem sc_check_below : FnScope ["value", "bound"] ["value", "bound"] (defScope s_check_below) := ⟨rfl, rfl, rfl, by decide +kernel, rfl, by decide +kernel, by decide +kernel⟩
abbrev s_middle : Stmt := topS 8
theorem sc_middle : FnScope ["players", "turn"] ["players", "turn"] (defScope s_middle) := ⟨rfl, rfl, rfl, by decide +kernel, rfl, by decide +kernel, by decide +kernel⟩
abbrev s_place_of : Stmt := topS 9
theorem sc_place_of : FnScope ["players", "turn", "player", "last", "away"] ["players", "turn", "player"] (defScope s_place_of) := ⟨rfl, rfl, rfl, by decide +kernel, rfl, by decide +kernel, by decide +kernel⟩
abbrev s_players_at : Stmt := topS 10
theorem sc_players_at : FnScope ["players", "turn", "place", "last", "centre"] ["players", "turn", "place"] (defScope s_players_at) := ⟨rfl, rfl, rfl, by decide +kernel, rfl, by decide +kernel, by decide +kernel⟩
abbrev s_plan : Stmt := topS 11
theorem sc_plan : FnScope ["players", "turn", "place"] ["players"] (defScope s_plan) := ⟨rfl, rfl, rfl, by decide +kernel, rfl, by decide +kernel, by decide +kernel⟩
abbrev s_law_row : Stmt := topS 13
theorem sc_law_row : FnScope ["_law_cell", "_law_many", "_law_row_here", "_law_rest", "_law_mixed", "_law_k"] ["_law_cell", "_law_many"] (defScope s_law_row) := ⟨rfl, rfl, rfl, by decide +kernel, rfl, by decide +kernel, by decide +kernel⟩
abbrev s_law_numbers : Stmt := topS 14
theorem sc_law_numbers : FnScope ["_law_script", "_law_many", "_law_cells", "_law_each", "_law_numbers_here", "_law_cell", "_law_number"] ["_law_script", "_law_many"] (defScope s_law_numbers) := ⟨rfl, rfl, rfl, by decide +kernel, rfl, by decide +kernel, by decide +kernel⟩
abbrev s_law_pick : Stmt := topS 15
theorem sc_law_pick : FnScope ["_law_numbers_here", "_law_at", "_law_most"] ["_law_numbers_here", "_law_at", "_law_most"] (defScope s_law_pick) := ⟨rfl, rfl, rfl, by decide +kernel, rfl, by decide +kernel, by decide +kernel⟩
abbrev s_law : Stmt := topS 16
theorem sc_law : FnScope ["_law_script", "_law_numbers_here", "_law_players", "_law_last", "_law_turn", "_law_middle", "_law_due", "_law_place", "_law_found", "_law_told", "_law_one", "_law_pair"] ["_law_script"] (defScope s_law) := ⟨rfl, rfl, rfl, by decide +kernel, rfl, by decide +kernel, by decide +kernel⟩
/-- where things stand -/
structure Ad where
  f_check_players : Addr
  d_check_players : FuncData
  f_check_below : Addr
  d_check_below : FuncData
  f_middle : Addr
  d_middle : FuncData
  f_place_of : Addr
  d_place_of : FuncData
  f_players_at : Addr
  d_players_at : FuncData
  f_plan : Addr
  d_plan : FuncData
  f_law_row : Addr
  d_law_row : FuncData
  f_law_numbers : Addr
  d_law_numbers : FuncData
  f_law_pick : Addr
  d_law_pick : FuncData
  f_law : Addr
  d_law : FuncData
  c_InvalidQuestion : Addr
def Ad.adr (A : Ad) (c : Cls) : Addr := match c with
  | .InvalidQuestion => A.c_InvalidQuestion
  | _ => (0 : Nat)

structure Txt (K : PySem.W.Frag) (mg : Str → Option Value) (A : Ad) : Prop where
  F_check_players : Fun K "check_players" "check_players" s_check_players A.f_check_players A.d_check_players
  g_check_players : mg "check_players" = some (.ref A.f_check_players)
  b_check_players : Binds K A.d_check_players ["players"] []
  F_check_below : Fun K "check_below" "check_below" s_check_below A.f_check_below A.d_check_below
  g_check_below : mg "check_below" = some (.ref A.f_check_below)
  b_check_below : Binds K A.d_check_below ["value", "bound"] []
  F_middle : Fun K "middle" "middle" s_middle A.f_middle A.d_middle
  g_middle : mg "middle" = some (.ref A.f_middle)
  b_middle : Binds K A.d_middle ["players", "turn"] []
  F_place_of : Fun K "place_of" "place_of" s_place_of A.f_place_of A.d_place_of
  g_place_of : mg "place_of" = some (.ref A.f_place_of)
  b_place_of : Binds K A.d_place_of ["players", "turn", "player"] []
  F_players_at : Fun K "players_at" "players_at" s_players_at A.f_players_at A.d_players_at
  g_players_at : mg "players_at" = some (.ref A.f_players_at)
  b_players_at : Binds K A.d_players_at ["players", "turn", "place"] []
  F_plan : Fun K "plan" "plan" s_plan A.f_plan A.d_plan
  g_plan : mg "plan" = some (.ref A.f_plan)
  b_plan : Binds K A.d_plan ["players"] []
  F_law_row : Fun K "_law_row" "_law_row" s_law_row A.f_law_row A.d_law_row
  g_law_row : mg "_law_row" = some (.ref A.f_law_row)
  b_law_row : Binds K A.d_law_row ["_law_cell", "_law_many"] []
  F_law_numbers : Fun K "_law_numbers" "_law_numbers" s_law_numbers A.f_law_numbers A.d_law_numbers
  g_law_numbers : mg "_law_numbers" = some (.ref A.f_law_numbers)
  b_law_numbers : Binds K A.d_law_numbers ["_law_script", "_law_many"] []
  F_law_pick : Fun K "_law_pick" "_law_pick" s_law_pick A.f_law_pick A.d_law_pick
  g_law_pick : mg "_law_pick" = some (.ref A.f_law_pick)
  b_law_pick : Binds K A.d_law_pick ["_law_numbers_here", "_law_at", "_law_most"] []
  F_law : Fun K "law" "law" s_law A.f_law A.d_law
  g_law : mg "law" = some (.ref A.f_law)
  b_law : Binds K A.d_law ["_law_script"] []
  z_abs : mg "abs" = none
  z_all : mg "all" = none
  z_int : mg "int" = none
  z_isinstance : mg "isinstance" = none
  z_len : mg "len" = none
  z_list : mg "list" = none
  z_max : mg "max" = none
  z_min : mg "min" = none
  z_range : mg "range" = none
  z_sorted : mg "sorted" = none
  z_tuple : mg "tuple" = none
  c_MOST_PLAN : ∃ t, mg "MOST_PLAN" = some (.int 100 t)
  c_MOST_PLAYERS : ∃ t, mg "MOST_PLAYERS" = some (.int 1000000000000000000000000000000 t)
  gC_InvalidQuestion : mg "InvalidQuestion" = some (.ref A.c_InvalidQuestion)
  k_InvalidQuestion : PySem.W.keepIn K (.ref A.c_InvalidQuestion) = true
  s_InvalidQuestion : PySem.W.subIn K (.ref A.c_InvalidQuestion) (.type "BaseException") = some true
  t_InvalidQuestion : PySem.W.typeIn K (.ref A.c_InvalidQuestion) = some (.type "type")
  h_InvalidQuestion : PySem.W.hasDictIn K A.c_InvalidQuestion = true
  x_InvalidQuestion : PySem.W.excIn K A.c_InvalidQuestion [.type "ValueError", .type "Exception", .type "BaseException", .type "object"] "ValueError.__new__" = true
structure TxtP (P : Program) (w : World) (K : PySem.W.Frag) (mg : Str → Option Value) (A : Ad) : Prop extends Txt K mg A where

end K79

set_option maxRecDepth 100000
set_option maxHeartbeats 4000000
namespace K79
open PySem PySem.Spec L2 DL
local macro_rules | `(tactic| walk_at "r") => `(tactic| try simp -implicitDefEqProofs (disch := omega) only [rDisp1, e_bSortKS_d, asKS_map, rCatO, rM1, rM1O, rM0, rM0O, e_oJoin_l, e_oJoin_t, e_bStrA_i, e_bStrA_s, rFs, rJs, e_oFmt_i, e_oFmt_s, rIStr, e_oSplit, e_oWords, xAugL, e_bIntS, mkM, rC, rVar, rOp, rUn, rCb, rNil, rCons, rStar, rApp, rApp2, rStill, rCall, rTup, rLst, rNewK, rNewT, rAndV, rOrV, rNotV, rIfE, rChain, rChain3, rChain4, rTest, rYes, rAnd, rOr, rNot, rTru, gnm,
  rNext, rBreak, rCont, rRetN, rSeq, rDrop, rRet, rRetO, rRetV, rSet, rSetO, rAsg, rIf, rK, rF, rPar, rPar3, rFor, rAug, aug, xAppend, rIxV, rLenV, gsub, rAugS, xInsert, xPopAt, rDGet, rDGet2, rDIn, rDNotIn, rDLen, rDPut, rLockF, xModIx, xModIn, rRaise0, rRaise1, xIsX, rXf, rXfC,
  rListOfD, rListOfA, e_seqK_l, e_seqK_t, e_seqK_d, e_seqK_f, rTruV, List.isEmpty_map, xExtend, xSetPop, xSetPopAt, rDc, rLkO, rLstRg1, sortedO, List.isEmpty_cons, List.isEmpty_nil, List.head?_cons, List.head?_nil, List.find?_nil, xIsi, xIsi2, rIList, rITup, rISeq, rIRng1, rIRng2, rIRng3, rIEnum, rIValsN, rIValsV, rIKeysV, rPN, rPS, rSl, rL, rLO, rLc, rLc2, wipeR,
  Re.ok_bind, Re.ex_bind, Re.bad_bind, Re.ok_os, Re.ex_os, Re.bad_os, Os.nx_thn, Os.rt_thn, Os.bk_thn, Os.ct_thn, Os.ex_thn, Os.bad_thn, Os.uni_const, rowB, gt, frz, frz1, fgt, D.has, D.hass, asI, asB, asT, asI_map, asB_map, asT_map, keysK, keyT_tD,
  e_of_some, e_osof, e_ret_nx, e_ret_rt, e_ret_ex, e_kil_nx, e_kil_bk, e_kil_ct, e_kil_rt, e_kil_ex, e_noexc_nx, e_noexc_bk, e_noexc_ct, e_noexc_rt, e_noex, e_val, e_get_dat, e_get_own, e_get_oK, e_get_oT, e_rtv_dat, e_rtv_own, e_rtv_oK, e_rtv_oT, e_ownL, e_isD_oT, e_isD_dT, e_isD_fT, e_isOD_T, e_ask_oT, e_has_oT, e_len_oT, e_ask_dT, e_has_dT, e_len_dT, e_ask_fT, e_has_fT, e_len_fT, e_put_T, e_lock_T, e_isD_oK, e_isD_dK, e_isD_fK, e_isOD_K, e_ask_oK, e_has_oK, e_len_oK, e_ask_dK, e_has_dK, e_len_dK, e_ask_fK, e_has_fK, e_len_fK, e_put_K, e_lock_K, e_keyK_int, e_keyK_str, e_keyT2, e_keyT3, e_blD, e_tru_non, e_tru_bl, e_tru_int, e_tru_lst, e_tru_tup, e_seq_l, e_seq_t, e_gtp, e_gls, e_gco, e_gni, e_oSub, e_oLt, e_oLe, e_oGt, e_oGe, e_oEq, e_oNe, e_oAdd, e_oIAdd, e_oXor, e_oAddL, e_oAddS, oEqTs, oNeTs, oEqLI, oNeLI, oEqTI, oNeTI, e_oAddT, e_oMulR, e_oMulL, e_oMul, e_oMulLst, e_oIMulR, e_oIMulL, e_oDiv, e_oDivB, e_oMod, e_oPow, e_oEqS, e_oNeS, e_oEqB, e_oNeB, e_oIs, e_oIsNot, e_nonD, e_nonD_int, e_nonD_str, e_nonD_lst, e_nonD_tup, e_nonD_bl, e_oNeg, e_oIxL, e_oIxT, e_oIn_lst, e_oIn_tup, e_oNotIn_lst, e_oNotIn_tup, e_oSlL_l, e_oSlL_s, e_oSlAny_l, e_oSlAny_s, rRev, e_oRev_l, e_oRev_t, e_oSlA_t, e_oSlAny_t, e_bAbs, e_bLenL, e_bLenT, e_bInt, e_bIntT, e_bIntF, e_bIntB, e_bTupL, e_bTupT, e_bMax2, e_bMin2, e_bAll, e_bAny, e_bSumA, e_bSumAt, e_bMinR, rTupRg1, xAppPopAt, rRep1, e_bSorted_lst, e_bSorted_tup, e_isT_non_int, e_isT_non_bool, e_isT_non_str, e_isT_non_list, e_isT_non_tuple, e_isT_bl_int, e_isT_bl_bool, e_isT_bl_str, e_isT_bl_list, e_isT_bl_tuple, e_isT_int_int, e_isT_int_bool, e_isT_int_str, e_isT_int_list, e_isT_int_tuple, e_isT_str_int, e_isT_str_bool, e_isT_str_str, e_isT_str_list, e_isT_str_tuple, e_isT_lst_int, e_isT_lst_bool, e_isT_lst_str, e_isT_lst_list, e_isT_lst_tuple, e_isT_tup_int, e_isT_tup_bool, e_isT_tup_str, e_isT_tup_list, e_isT_tup_tuple, e_irng1, e_irng2, e_irng3, e_oIsA_n, e_oIsA_b, e_oIsntA_n, e_oIsntA_b, oInA, oNotInA, e_inD_il, e_inD_it, e_inD_sl, e_inD_st, e_inD_tl, e_inD_ti, asS, asS_map, Option.isSome_some, Option.isSome_none, k_bose_skolem, k_bose_affine, k_bose_binary, k_bose_listed, k_bose_double, k_bose_product, k_skolem_bose, k_skolem_affine, k_skolem_binary, k_skolem_listed, k_skolem_double, k_skolem_product, k_affine_bose, k_affine_skolem, k_affine_binary, k_affine_listed, k_affine_double, k_affine_product, k_binary_bose, k_binary_skolem, k_binary_affine, k_binary_listed, k_binary_double, k_binary_product, k_listed_bose, k_listed_skolem, k_listed_affine, k_listed_binary, k_listed_double, k_listed_product, k_double_bose, k_double_skolem, k_double_affine, k_double_binary, k_double_listed, k_double_product, k_product_bose, k_product_skolem, k_product_affine, k_product_binary, k_product_listed, k_product_double, arm_bose, arm_skolem, arm_affine, arm_binary, arm_listed, arm_double, arm_product, e_shas_oT, e_shas_oK, hass_pD, hass_lI, e_lendD, e_lendS, e_has_dat, e_has_own, e_hass_ints, e_hass_tI, and_okP, or_okP, andD_okP, orD_okP, atI_lit, e_ixN, List.getElem?_cons_zero, List.getElem?_cons_succ,
  List.map_cons, List.map_nil, List.cons_append, List.nil_append, List.length_cons, List.length_nil, List.length_map, List.length_append, List.length_take, List.length_drop, rg_len, rgs_len, rgd_len, List.length_set, List.set_cons_zero, List.set_cons_succ, Nat.reduceAdd, Nat.reduceLeDiff, Nat.reduceEqDiff, Option.bind_some, Option.map_some, Option.bind_none, Option.map_none, Bool.not_true, Bool.not_false, Bool.or_false, Bool.false_or, Bool.and_true, Bool.true_and, Bool.or_true, Bool.true_or, Bool.and_false, Bool.false_and, Bool.or_self, Bool.and_self, Bool.not_not,
  decide_true, decide_false, decide_eq_true_eq, Bool.and_eq_true, Bool.or_eq_true, bnot_true, bool_eqf, ite_not, Decidable.not_not, if_true, if_false, ite_true, ite_false, Bool.false_eq_true, and_true, true_and, false_and, and_false, and_self, eq_self, reduceCtorEq, not_true, not_false_eq_true, and_ok, or_ok, andD_ok, orD_ok, if_pos, if_neg, Int.reduceLE, Int.reduceLT, Int.reduceNeg, Int.reduceAdd, Int.reduceSub, Int.reduceMul, Int.reduceMod, Int.reduceDiv, Int.reduceEq, Int.reducePow, Nat.reducePow, Int.reduceToNat])
/-! drawn numbers -/
theorem m_law_row_ok (x m : Int) (hm : 0 ≤ m ∧ m ≤ 2000) : ∃ l, m_law_row [.int x, .int m] = .ok (.own (l.map D.int)) ∧ Nums l m.toNat := by
  unfold m_law_row r_law_row
  walk_at "r"
  generalize (if x < 0 then -x else x) = x0
  generalize hq : forGo _ _ _ = q
  obtain ⟨s, rfl, hs⟩ := for_out hq (fun s : List Int × Int × Int => [.dat (.int x), .dat (.int m), .own (s.1.map D.int), .dat (.int s.2.1), .dat (.int s.2.2), .no]) (fun i s => Nums s.1 i) ([], x0, _) rfl ⟨rfl, by simp⟩ (by
    rintro i k ⟨l, r, c⟩ hx hl
    dsimp only at hl ⊢
    have hi := rg_lt hx
    have hll := hl.1
    dsimp only [stepFor, gnm]
    walk_at "r"
    by_cases h : 1000000000000000000 ≤ if x < 0 then -x else x
    · rw [if_pos h]
      exact ⟨(l ++ [r % 1009], _, _), by walk_at "r"; rw [map_snoc], hl.snoc (by omega) (by omega)⟩
    · rw [if_neg h]
      exact ⟨(l ++ [_ / 7 % 1009], _, _), by walk_at "r"; rw [map_snoc], hl.snoc (by omega) (by omega)⟩)
  walk_at "r"
  rw [rg_len] at hs
  exact ⟨s.1, rfl, hs⟩
theorem cut_take (l : List Int) (n : Int) (h : 0 ≤ n) : cutD (l.map D.int) none (some n) = (l.take n.toNat).map D.int := by
  have em : n = ((n.toNat : Nat) : Int) := by omega
  rw [List.map_take, em, Int.toNat_natCast]; exact cutD_take _ _
theorem m_law_numbers_ok (ns : List Int) (m : Int) (hn : ns.length ≤ 63) (hm : 0 ≤ m ∧ m ≤ 1000) : ∃ l, m_law_numbers [.src ns, .int m] = .ok (.dat (.lst (l.map D.int))) ∧ Nums l m.toNat := by
  unfold m_law_numbers r_law_numbers
  walk_at "r"
  rw [cut_take ns 63 (by decide)]
  have hlen : (ns.take (63 : Int).toNat).length ≤ 63 := by rw [List.length_take]; exact Nat.min_le_left _ _
  generalize ns.take (63 : Int).toNat = cs at hlen ⊢
  walk_at "r"
  generalize hd : m / max 1 (cs.length : Int) = e
  have he : 0 ≤ e ∧ e ≤ 1000 := by
    rw [← hd]
    exact ⟨Int.ediv_nonneg (by omega) (by omega), Int.le_trans (Int.ediv_le_self _ (by omega)) (by omega)⟩
  generalize hq : forGo _ _ _ = q
  obtain ⟨s, rfl, hs⟩ := for_out hq (fun s : List Int => [.dat (.src ns), .dat (.int m), .dat (.lst (cs.map D.int)), .dat (.int (1 + e)), .own (s.map D.int), .no, .no]) (fun i s => Nums s (i * (1 + e).toNat)) [] rfl (by simp [Nums]) (by
    rintro i k l hx hl
    have hi := at_lt hx
    have hi : i < 63 := by
      have := (List.getElem?_eq_some_iff.mp hx).1
      omega
    dsimp only [stepFor, gnm]
    walk_at "r"
    obtain ⟨r, er, hr⟩ := m_law_row_ok k (1 + e) (by omega)
    rw [er]
    walk_at "r"
    clear hq
    generalize hq : forGo _ _ _ = q
    have hmul : i * (1 + e).toNat ≤ 63 * 1001 := Nat.mul_le_mul (by omega) (by omega)
    obtain ⟨s, rfl, hs⟩ := for_out hq (fun s : List Int => [.dat (.src ns), .dat (.int m), .dat (.lst (cs.map D.int)), .dat (.int (1 + e)), .own (s.map D.int), .dat (.int k), .no]) (fun j s => Nums s (i * (1 + e).toNat + j)) l rfl hl (by
      rintro j y l' hy hl'
      have hj := at_lt hy
      rw [hr.1] at hj
      have := hl'.1
      dsimp only [stepFor, gnm]
      walk_at "r"
      have hb := hr.2 y (List.mem_of_getElem? hy)
      exact ⟨l' ++ [y], by rw [map_snoc], hl'.snoc hb.1 hb.2⟩)
    walk_at "r"
    rw [hr.1] at hs
    exact ⟨s, rfl, by rw [Nat.add_mul, Nat.one_mul]; exact hs⟩)
  walk_at "r"
  clear hq
  generalize hq : rWhile _ _ _ = q
  have hmul : cs.length * (1 + e).toNat ≤ 63 * 1001 := Nat.mul_le_mul (by omega) (by omega)
  obtain ⟨s, rfl, hs⟩ := while_out hq (fun s : List Int => [.dat (.src ns), .dat (.int m), .dat (.lst (cs.map D.int)), .dat (.int (1 + e)), .own (s.map D.int), .no, .no]) (fun s => Nums s s.length ∧ s.length ≤ 100000) (fun s => m.toNat - s.length) (fun s => Nums s s.length ∧ m ≤ s.length) s rfl
    ⟨by rw [hs.1]; exact hs, by rw [hs.1]; omega⟩ (by
      rintro l ⟨hl, hz⟩
      walk_at "r"
      by_cases h : (l.length : Int) < m
      · refine .inr ⟨by rw [decide_eq_true h], l ++ [0], .inl (by rw [map_snoc (f := D.int)]), ?_, ?_, ?_⟩
        · rw [List.length_append]; simp only [List.length_singleton]; omega
        · have := hl.snoc (x := 0) (by omega) (by omega)
          rw [List.length_append]; exact this
        · rw [List.length_append]; simp only [List.length_singleton]; omega
      · exact .inl ⟨by rw [decide_eq_false h], hl, by omega⟩)
  walk_at "r"
  rw [cut_take s m hm.1]
  exact ⟨_, rfl, hs.1.take (by omega)⟩
theorem m_law_pick_eq {l : List Int} {a m b : Int} (h : atI (l.map D.int) a = some (.int b)) (hm : 0 < m) : m_law_pick [.lst (l.map D.int), .int a, .int m] = .ok (.dat (.int (b % m))) := by
  unfold m_law_pick r_law_pick
  walk_at "r"
  rw [h]
  walk_at "r"
theorem m_law_pick_ok {l : List Int} {n : Nat} (h : Nums l n) {a m : Int} (ha : 0 ≤ a ∧ a < n) (hm : 0 < m) : ∃ b, m_law_pick [.lst (l.map D.int), .int a, .int m] = .ok (.dat (.int b)) ∧ 0 ≤ b ∧ b < m := by
  obtain ⟨b, e, _, _⟩ := h.at_ ha.1 ha.2
  exact ⟨_, m_law_pick_eq e hm, Int.emod_nonneg _ (by omega), Int.emod_lt_of_pos _ hm⟩
end K79

set_option maxRecDepth 100000
set_option maxHeartbeats 4000000
namespace K79
open PySem PySem.Spec L2 DL
local macro_rules | `(tactic| walk_at "r") => `(tactic| try simp -implicitDefEqProofs (disch := omega) only [rDisp1, e_bSortKS_d, asKS_map, rCatO, rM1, rM1O, rM0, rM0O, e_oJoin_l, e_oJoin_t, e_bStrA_i, e_bStrA_s, rFs, rJs, e_oFmt_i, e_oFmt_s, rIStr, e_oSplit, e_oWords, xAugL, e_bIntS, mkM, rC, rVar, rOp, rUn, rCb, rNil, rCons, rStar, rApp, rApp2, rStill, rCall, rTup, rLst, rNewK, rNewT, rAndV, rOrV, rNotV, rIfE, rChain, rChain3, rChain4, rTest, rYes, rAnd, rOr, rNot, rTru, gnm,
  rNext, rBreak, rCont, rRetN, rSeq, rDrop, rRet, rRetO, rRetV, rSet, rSetO, rAsg, rIf, rK, rF, rPar, rPar3, rFor, rAug, aug, xAppend, rIxV, rLenV, gsub, rAugS, xInsert, xPopAt, rDGet, rDGet2, rDIn, rDNotIn, rDLen, rDPut, rLockF, xModIx, xModIn, rRaise0, rRaise1, xIsX, rXf, rXfC,
  rListOfD, rListOfA, e_seqK_l, e_seqK_t, e_seqK_d, e_seqK_f, rTruV, List.isEmpty_map, xExtend, xSetPop, xSetPopAt, rDc, rLkO, rLstRg1, sortedO, List.isEmpty_cons, List.isEmpty_nil, List.head?_cons, List.head?_nil, List.find?_nil, xIsi, xIsi2, rIList, rITup, rISeq, rIRng1, rIRng2, rIRng3, rIEnum, rIValsN, rIValsV, rIKeysV, rPN, rPS, rSl, rL, rLO, rLc, rLc2, wipeR,
  Re.ok_bind, Re.ex_bind, Re.bad_bind, Re.ok_os, Re.ex_os, Re.bad_os, Os.nx_thn, Os.rt_thn, Os.bk_thn, Os.ct_thn, Os.ex_thn, Os.bad_thn, Os.uni_const, rowB, gt, frz, frz1, fgt, D.has, D.hass, asI, asB, asT, asI_map, asB_map, asT_map, keysK, keyT_tD,
  e_of_some, e_osof, e_ret_nx, e_ret_rt, e_ret_ex, e_kil_nx, e_kil_bk, e_kil_ct, e_kil_rt, e_kil_ex, e_noexc_nx, e_noexc_bk, e_noexc_ct, e_noexc_rt, e_noex, e_val, e_get_dat, e_get_own, e_get_oK, e_get_oT, e_rtv_dat, e_rtv_own, e_rtv_oK, e_rtv_oT, e_ownL, e_isD_oT, e_isD_dT, e_isD_fT, e_isOD_T, e_ask_oT, e_has_oT, e_len_oT, e_ask_dT, e_has_dT, e_len_dT, e_ask_fT, e_has_fT, e_len_fT, e_put_T, e_lock_T, e_isD_oK, e_isD_dK, e_isD_fK, e_isOD_K, e_ask_oK, e_has_oK, e_len_oK, e_ask_dK, e_has_dK, e_len_dK, e_ask_fK, e_has_fK, e_len_fK, e_put_K, e_lock_K, e_keyK_int, e_keyK_str, e_keyT2, e_keyT3, e_blD, e_tru_non, e_tru_bl, e_tru_int, e_tru_lst, e_tru_tup, e_seq_l, e_seq_t, e_gtp, e_gls, e_gco, e_gni, e_oSub, e_oLt, e_oLe, e_oGt, e_oGe, e_oEq, e_oNe, e_oAdd, e_oIAdd, e_oXor, e_oAddL, e_oAddS, oEqTs, oNeTs, oEqLI, oNeLI, oEqTI, oNeTI, e_oAddT, e_oMulR, e_oMulL, e_oMul, e_oMulLst, e_oIMulR, e_oIMulL, e_oDiv, e_oDivB, e_oMod, e_oPow, e_oEqS, e_oNeS, e_oEqB, e_oNeB, e_oIs, e_oIsNot, e_nonD, e_nonD_int, e_nonD_str, e_nonD_lst, e_nonD_tup, e_nonD_bl, e_oNeg, e_oIxL, e_oIxT, e_oIn_lst, e_oIn_tup, e_oNotIn_lst, e_oNotIn_tup, e_oSlL_l, e_oSlL_s, e_oSlAny_l, e_oSlAny_s, rRev, e_oRev_l, e_oRev_t, e_oSlA_t, e_oSlAny_t, e_bAbs, e_bLenL, e_bLenT, e_bInt, e_bIntT, e_bIntF, e_bIntB, e_bTupL, e_bTupT, e_bMax2, e_bMin2, e_bAll, e_bAny, e_bSumA, e_bSumAt, e_bMinR, rTupRg1, xAppPopAt, rRep1, e_bSorted_lst, e_bSorted_tup, e_isT_non_int, e_isT_non_bool, e_isT_non_str, e_isT_non_list, e_isT_non_tuple, e_isT_bl_int, e_isT_bl_bool, e_isT_bl_str, e_isT_bl_list, e_isT_bl_tuple, e_isT_int_int, e_isT_int_bool, e_isT_int_str, e_isT_int_list, e_isT_int_tuple, e_isT_str_int, e_isT_str_bool, e_isT_str_str, e_isT_str_list, e_isT_str_tuple, e_isT_lst_int, e_isT_lst_bool, e_isT_lst_str, e_isT_lst_list, e_isT_lst_tuple, e_isT_tup_int, e_isT_tup_bool, e_isT_tup_str, e_isT_tup_list, e_isT_tup_tuple, e_irng1, e_irng2, e_irng3, e_oIsA_n, e_oIsA_b, e_oIsntA_n, e_oIsntA_b, oInA, oNotInA, e_inD_il, e_inD_it, e_inD_sl, e_inD_st, e_inD_tl, e_inD_ti, asS, asS_map, Option.isSome_some, Option.isSome_none, k_bose_skolem, k_bose_affine, k_bose_binary, k_bose_listed, k_bose_double, k_bose_product, k_skolem_bose, k_skolem_affine, k_skolem_binary, k_skolem_listed, k_skolem_double, k_skolem_product, k_affine_bose, k_affine_skolem, k_affine_binary, k_affine_listed, k_affine_double, k_affine_product, k_binary_bose, k_binary_skolem, k_binary_affine, k_binary_listed, k_binary_double, k_binary_product, k_listed_bose, k_listed_skolem, k_listed_affine, k_listed_binary, k_listed_double, k_listed_product, k_double_bose, k_double_skolem, k_double_affine, k_double_binary, k_double_listed, k_double_product, k_product_bose, k_product_skolem, k_product_affine, k_product_binary, k_product_listed, k_product_double, arm_bose, arm_skolem, arm_affine, arm_binary, arm_listed, arm_double, arm_product, e_shas_oT, e_shas_oK, hass_pD, hass_lI, e_lendD, e_lendS, e_has_dat, e_has_own, e_hass_ints, e_hass_tI, and_okP, or_okP, andD_okP, orD_okP, atI_lit, e_ixN, List.getElem?_cons_zero, List.getElem?_cons_succ,
  List.map_cons, List.map_nil, List.cons_append, List.nil_append, List.length_cons, List.length_nil, List.length_map, List.length_append, List.length_take, List.length_drop, rg_len, rgs_len, rgd_len, List.length_set, List.set_cons_zero, List.set_cons_succ, Nat.reduceAdd, Nat.reduceLeDiff, Nat.reduceEqDiff, Option.bind_some, Option.map_some, Option.bind_none, Option.map_none, Bool.not_true, Bool.not_false, Bool.or_false, Bool.false_or, Bool.and_true, Bool.true_and, Bool.or_true, Bool.true_or, Bool.and_false, Bool.false_and, Bool.or_self, Bool.and_self, Bool.not_not,
  decide_true, decide_false, decide_eq_true_eq, Bool.and_eq_true, Bool.or_eq_true, bnot_true, bool_eqf, ite_not, Decidable.not_not, if_true, if_false, ite_true, ite_false, Bool.false_eq_true, and_true, true_and, false_and, and_false, and_self, eq_self, reduceCtorEq, not_true, not_false_eq_true, and_ok, or_ok, andD_ok, orD_ok, if_pos, if_neg, Int.reduceLE, Int.reduceLT, Int.reduceNeg, Int.reduceAdd, Int.reduceSub, Int.reduceMul, Int.reduceMod, Int.reduceDiv, Int.reduceEq, Int.reducePow, Nat.reducePow, Int.reduceToNat])
/-! the rounds, in plain numbers; n the number of rounds (odd) -/
def md (a n : Int) : Int := if a < 0 then a + n else if a < n then a else a - n
theorem emod_md {a n : Int} (hn : 0 < n) (h1 : -n ≤ a) (h2 : a < 2 * n) : a % n = md a n := by
  unfold md
  split
  · rw [← Int.add_emod_right]; exact Int.emod_eq_of_lt (by omega) (by omega)
  · split
    · exact Int.emod_eq_of_lt (by omega) (by omega)
    · rw [← Int.sub_emod_right]; exact Int.emod_eq_of_lt (by omega) (by omega)
def mid (n t : Int) : Int := if t % 2 = 0 then t / 2 else (t + n) / 2
theorem mid_eq {p t : Int} (hp : 2 ≤ p) (h2 : p % 2 = 0) (ht : 0 ≤ t) (ht2 : t < p - 1) : t * (p / 2) % (p - 1) = mid (p - 1) t := by
  have e1 : 2 * (t * (p / 2)) = t * (p - 1) + t := by
    have : 2 * (p / 2) = p := by omega
    rw [show 2 * (t * (p / 2)) = t * (2 * (p / 2)) from by rw [← Int.mul_assoc, Int.mul_comm 2 t, Int.mul_assoc], this]
    rw [Int.mul_sub, Int.mul_one]; omega
  have hd := Int.emod_add_mul_ediv (t * (p / 2)) (p - 1)
  have h0 := Int.emod_nonneg (t * (p / 2)) (show p - 1 ≠ 0 by omega)
  have h1 := Int.emod_lt_of_pos (t * (p / 2)) (show 0 < p - 1 by omega)
  generalize t * (p / 2) % (p - 1) = c at hd h0 h1 ⊢
  generalize t * (p / 2) / (p - 1) = q at hd
  rw [← hd] at e1
  have e2 : 2 * c - t = (p - 1) * (t - 2 * q) := by
    rw [Int.mul_sub, Int.mul_comm (p - 1) t, show (p - 1) * (2 * q) = 2 * ((p - 1) * q) from by rw [← Int.mul_assoc, Int.mul_comm (p - 1) 2, Int.mul_assoc]]
    omega
  generalize t - 2 * q = k at e2
  have hk : k = 0 ∨ k = 1 := by
    rcases Int.lt_trichotomy k 0 with h | h | h
    · have : (p - 1) * k ≤ (p - 1) * (-1) := Int.mul_le_mul_of_nonneg_left (by omega) (by omega)
      omega
    · exact .inl h
    · by_cases hk1 : k = 1
      · exact .inr hk1
      · have : (p - 1) * 2 ≤ (p - 1) * k := Int.mul_le_mul_of_nonneg_left (by omega) (by omega)
        omega
  unfold mid
  rcases hk with rfl | rfl
  · split <;> omega
  · split <;> omega

theorem mid_in {n t : Int} (hn : n % 2 = 1) (ht : 0 ≤ t ∧ t < n) : 0 ≤ mid n t ∧ mid n t < n ∧ (2 * mid n t = t ∨ 2 * mid n t = t + n) := by unfold mid; split <;> omega
theorem mid_only {n t x : Int} (hn : n % 2 = 1) (ht : 0 ≤ t ∧ t < n) (hx : 0 ≤ x ∧ x < n) : (2 * x - t) % n = 0 ↔ x = mid n t := by
  have hm := mid_in hn ht
  constructor
  · intro h
    obtain ⟨k, hk⟩ := Int.dvd_of_emod_eq_zero h
    have kk : k = 0 ∨ k = 1 := by
      rcases Int.lt_trichotomy k 0 with h | h | h
      · have : n * k ≤ n * (-1) := Int.mul_le_mul_of_nonneg_left (by omega) (by omega)
        omega
      · exact .inl h
      · by_cases hk1 : k = 1
        · exact .inr hk1
        · have : n * 2 ≤ n * k := Int.mul_le_mul_of_nonneg_left (by omega) (by omega)
          omega
    rcases kk with rfl | rfl <;> omega
  · rintro rfl
    rcases hm.2.2 with z | z
    · rw [show 2 * mid n t - t = 0 by omega]; rfl
    · rw [show 2 * mid n t - t = n by omega]; exact Int.emod_self
/-- the pair at a place -/
def prl (n M q : Int) : List Int := if q = 0 then [M, n] else srt [(M + q) % n, (M - q) % n]
def pr (n M q : Int) : D := tI (prl n M q)
theorem pr_map (n M h : Int) : (rg h).map (pr n M) = ((rg h).map (prl n M)).map tI := by rw [List.map_map]; rfl
theorem prl_two (n M q : Int) (hq : q ≠ 0) : ∃ a b, prl n M q = [a, b] ∧ (a = (M + q) % n ∨ a = (M - q) % n) ∧ (b = (M + q) % n ∨ b = (M - q) % n) := by
  unfold prl
  rw [if_neg hq]
  have lS : (srt [(M + q) % n, (M - q) % n]).length = 2 := (srt_perm _).length_eq
  have hm : ∀ x, x ∈ srt [(M + q) % n, (M - q) % n] → x = (M + q) % n ∨ x = (M - q) % n := fun x hx => by
    have := srt_mem.mp hx
    simpa using this
  match srt [(M + q) % n, (M - q) % n], lS, hm with
  | [a, b], _, hm => exact ⟨a, b, rfl, hm a (by simp), hm b (by simp)⟩
/-- the place of one of them -/
theorem place_of {n M q o : Int} (hn : 1 ≤ n) (hM : 0 ≤ M ∧ M < n) (hq : 0 < q ∧ 2 * q < n) (ho : o = (M + q) % n ∨ o = (M - q) % n) : (0 ≤ o ∧ o < n) ∧ 0 < (o - M) % n ∧ min ((o - M) % n) (n - (o - M) % n) = q := by
  have o0 : 0 ≤ o ∧ o < n := by
    rcases ho with rfl | rfl
    · exact ⟨Int.emod_nonneg _ (by omega), Int.emod_lt_of_pos _ (by omega)⟩
    · exact ⟨Int.emod_nonneg _ (by omega), Int.emod_lt_of_pos _ (by omega)⟩
  have e : (o - M) % n = q ∨ (o - M) % n = n - q := by
    rw [emod_md (a := o - M) (n := n) (by omega) (by omega) (by omega)]
    rcases ho with z | z
    · rw [emod_md (a := M + q) (n := n) (by omega) (by omega) (by omega)] at z
      unfold md at z ⊢
      split at z
      · omega
      · split at z
        · left; split
          · omega
          · split <;> omega
        · left; split
          · omega
          · split <;> omega
    · rw [emod_md (a := M - q) (n := n) (by omega) (by omega) (by omega)] at z
      unfold md at z ⊢
      split at z
      · right; split
        · omega
        · split <;> omega
      · split at z
        · right; split
          · omega
          · split <;> omega
        · omega
  refine ⟨o0, ?_, ?_⟩
  · rcases e with e | e <;> rw [e] <;> omega
  · rcases e with e | e <;> rw [e] <;> omega
end K79

set_option maxRecDepth 100000
set_option maxHeartbeats 4000000
namespace K79
open PySem PySem.Spec L2 DL
local macro_rules | `(tactic| walk_at "r") => `(tactic| try simp -implicitDefEqProofs (disch := omega) only [rDisp1, e_bSortKS_d, asKS_map, rCatO, rM1, rM1O, rM0, rM0O, e_oJoin_l, e_oJoin_t, e_bStrA_i, e_bStrA_s, rFs, rJs, e_oFmt_i, e_oFmt_s, rIStr, e_oSplit, e_oWords, xAugL, e_bIntS, mkM, rC, rVar, rOp, rUn, rCb, rNil, rCons, rStar, rApp, rApp2, rStill, rCall, rTup, rLst, rNewK, rNewT, rAndV, rOrV, rNotV, rIfE, rChain, rChain3, rChain4, rTest, rYes, rAnd, rOr, rNot, rTru, gnm,
  rNext, rBreak, rCont, rRetN, rSeq, rDrop, rRet, rRetO, rRetV, rSet, rSetO, rAsg, rIf, rK, rF, rPar, rPar3, rFor, rAug, aug, xAppend, rIxV, rLenV, gsub, rAugS, xInsert, xPopAt, rDGet, rDGet2, rDIn, rDNotIn, rDLen, rDPut, rLockF, xModIx, xModIn, rRaise0, rRaise1, xIsX, rXf, rXfC,
  rListOfD, rListOfA, e_seqK_l, e_seqK_t, e_seqK_d, e_seqK_f, rTruV, List.isEmpty_map, xExtend, xSetPop, xSetPopAt, rDc, rLkO, rLstRg1, sortedO, List.isEmpty_cons, List.isEmpty_nil, List.head?_cons, List.head?_nil, List.find?_nil, xIsi, xIsi2, rIList, rITup, rISeq, rIRng1, rIRng2, rIRng3, rIEnum, rIValsN, rIValsV, rIKeysV, rPN, rPS, rSl, rL, rLO, rLc, rLc2, wipeR,
  Re.ok_bind, Re.ex_bind, Re.bad_bind, Re.ok_os, Re.ex_os, Re.bad_os, Os.nx_thn, Os.rt_thn, Os.bk_thn, Os.ct_thn, Os.ex_thn, Os.bad_thn, Os.uni_const, rowB, gt, frz, frz1, fgt, D.has, D.hass, asI, asB, asT, asI_map, asB_map, asT_map, keysK, keyT_tD,
  e_of_some, e_osof, e_ret_nx, e_ret_rt, e_ret_ex, e_kil_nx, e_kil_bk, e_kil_ct, e_kil_rt, e_kil_ex, e_noexc_nx, e_noexc_bk, e_noexc_ct, e_noexc_rt, e_noex, e_val, e_get_dat, e_get_own, e_get_oK, e_get_oT, e_rtv_dat, e_rtv_own, e_rtv_oK, e_rtv_oT, e_ownL, e_isD_oT, e_isD_dT, e_isD_fT, e_isOD_T, e_ask_oT, e_has_oT, e_len_oT, e_ask_dT, e_has_dT, e_len_dT, e_ask_fT, e_has_fT, e_len_fT, e_put_T, e_lock_T, e_isD_oK, e_isD_dK, e_isD_fK, e_isOD_K, e_ask_oK, e_has_oK, e_len_oK, e_ask_dK, e_has_dK, e_len_dK, e_ask_fK, e_has_fK, e_len_fK, e_put_K, e_lock_K, e_keyK_int, e_keyK_str, e_keyT2, e_keyT3, e_blD, e_tru_non, e_tru_bl, e_tru_int, e_tru_lst, e_tru_tup, e_seq_l, e_seq_t, e_gtp, e_gls, e_gco, e_gni, e_oSub, e_oLt, e_oLe, e_oGt, e_oGe, e_oEq, e_oNe, e_oAdd, e_oIAdd, e_oXor, e_oAddL, e_oAddS, oEqTs, oNeTs, oEqLI, oNeLI, oEqTI, oNeTI, e_oAddT, e_oMulR, e_oMulL, e_oMul, e_oMulLst, e_oIMulR, e_oIMulL, e_oDiv, e_oDivB, e_oMod, e_oPow, e_oEqS, e_oNeS, e_oEqB, e_oNeB, e_oIs, e_oIsNot, e_nonD, e_nonD_int, e_nonD_str, e_nonD_lst, e_nonD_tup, e_nonD_bl, e_oNeg, e_oIxL, e_oIxT, e_oIn_lst, e_oIn_tup, e_oNotIn_lst, e_oNotIn_tup, e_oSlL_l, e_oSlL_s, e_oSlAny_l, e_oSlAny_s, rRev, e_oRev_l, e_oRev_t, e_oSlA_t, e_oSlAny_t, e_bAbs, e_bLenL, e_bLenT, e_bInt, e_bIntT, e_bIntF, e_bIntB, e_bTupL, e_bTupT, e_bMax2, e_bMin2, e_bAll, e_bAny, e_bSumA, e_bSumAt, e_bMinR, rTupRg1, xAppPopAt, rRep1, e_bSorted_lst, e_bSorted_tup, e_isT_non_int, e_isT_non_bool, e_isT_non_str, e_isT_non_list, e_isT_non_tuple, e_isT_bl_int, e_isT_bl_bool, e_isT_bl_str, e_isT_bl_list, e_isT_bl_tuple, e_isT_int_int, e_isT_int_bool, e_isT_int_str, e_isT_int_list, e_isT_int_tuple, e_isT_str_int, e_isT_str_bool, e_isT_str_str, e_isT_str_list, e_isT_str_tuple, e_isT_lst_int, e_isT_lst_bool, e_isT_lst_str, e_isT_lst_list, e_isT_lst_tuple, e_isT_tup_int, e_isT_tup_bool, e_isT_tup_str, e_isT_tup_list, e_isT_tup_tuple, e_irng1, e_irng2, e_irng3, e_oIsA_n, e_oIsA_b, e_oIsntA_n, e_oIsntA_b, oInA, oNotInA, e_inD_il, e_inD_it, e_inD_sl, e_inD_st, e_inD_tl, e_inD_ti, asS, asS_map, Option.isSome_some, Option.isSome_none, k_bose_skolem, k_bose_affine, k_bose_binary, k_bose_listed, k_bose_double, k_bose_product, k_skolem_bose, k_skolem_affine, k_skolem_binary, k_skolem_listed, k_skolem_double, k_skolem_product, k_affine_bose, k_affine_skolem, k_affine_binary, k_affine_listed, k_affine_double, k_affine_product, k_binary_bose, k_binary_skolem, k_binary_affine, k_binary_listed, k_binary_double, k_binary_product, k_listed_bose, k_listed_skolem, k_listed_affine, k_listed_binary, k_listed_double, k_listed_product, k_double_bose, k_double_skolem, k_double_affine, k_double_binary, k_double_listed, k_double_product, k_product_bose, k_product_skolem, k_product_affine, k_product_binary, k_product_listed, k_product_double, arm_bose, arm_skolem, arm_affine, arm_binary, arm_listed, arm_double, arm_product, e_shas_oT, e_shas_oK, hass_pD, hass_lI, e_lendD, e_lendS, e_has_dat, e_has_own, e_hass_ints, e_hass_tI, and_okP, or_okP, andD_okP, orD_okP, atI_lit, e_ixN, List.getElem?_cons_zero, List.getElem?_cons_succ,
  List.map_cons, List.map_nil, List.cons_append, List.nil_append, List.length_cons, List.length_nil, List.length_map, List.length_append, List.length_take, List.length_drop, rg_len, rgs_len, rgd_len, List.length_set, List.set_cons_zero, List.set_cons_succ, Nat.reduceAdd, Nat.reduceLeDiff, Nat.reduceEqDiff, Option.bind_some, Option.map_some, Option.bind_none, Option.map_none, Bool.not_true, Bool.not_false, Bool.or_false, Bool.false_or, Bool.and_true, Bool.true_and, Bool.or_true, Bool.true_or, Bool.and_false, Bool.false_and, Bool.or_self, Bool.and_self, Bool.not_not,
  decide_true, decide_false, decide_eq_true_eq, Bool.and_eq_true, Bool.or_eq_true, bnot_true, bool_eqf, ite_not, Decidable.not_not, if_true, if_false, ite_true, ite_false, Bool.false_eq_true, and_true, true_and, false_and, and_false, and_self, eq_self, reduceCtorEq, not_true, not_false_eq_true, and_ok, or_ok, andD_ok, orD_ok, if_pos, if_neg, Int.reduceLE, Int.reduceLT, Int.reduceNeg, Int.reduceAdd, Int.reduceSub, Int.reduceMul, Int.reduceMod, Int.reduceDiv, Int.reduceEq, Int.reducePow, Nat.reducePow, Int.reduceToNat])
theorem e_step {k : Nat} {b : Rho → Os} {x : D} {ρ : Rho} : stepFor (gnm k) b x ρ = b (ρ.set k (.dat x)) := rfl
theorem m_check_below_ok {v b : Int} (h : 0 ≤ v ∧ v < b) : m_check_below [.int v, .int b] = .ok (.dat .non) := by
  unfold m_check_below r_check_below
  walk_at "r"
  all_goals rfl
section
variable {P t : Int} (h : 2 ≤ P ∧ P ≤ 30) (h2 : P % 2 = 0) (ht : 0 ≤ t ∧ t < P - 1)
include h h2 ht
theorem m_check_players_ok : m_check_players [.int P] = .ok (.dat .non) := by
  unfold m_check_players r_check_players
  walk_at "r"
  all_goals rfl
theorem m_middle_eq : m_middle [.int P, .int t] = .ok (.dat (.int (mid (P - 1) t))) := by
  have e := mid_eq h.1 h2 ht.1 ht.2
  unfold m_middle r_middle
  walk_at "r"
  rw [e]
theorem m_place_of_eq {o : Int} (ho : 0 ≤ o ∧ o < P) : m_place_of [.int P, .int t, .int o] = .ok (.dat (.int (if o = P - 1 then 0 else if 0 < (o - mid (P - 1) t) % (P - 1) then min ((o - mid (P - 1) t) % (P - 1)) (P - 1 - (o - mid (P - 1) t) % (P - 1)) else 0))) := by
  have e1 := m_check_players_ok h h2 ht
  have e2 := m_check_below_ok (v := t) (b := P - 1) ht
  have e3 := m_check_below_ok (v := o) (b := P) ho
  have e4 := m_middle_eq h h2 ht
  have a0 := Int.emod_nonneg (o - mid (P - 1) t) (show P - 1 ≠ 0 by omega)
  unfold m_place_of r_place_of
  walk_at "r"
  rw [e1]
  walk_at "r"
  rw [e2]
  walk_at "r"
  rw [e3]
  walk_at "r"
  by_cases c : o = P - 1
  · rw [if_pos c, if_pos c]
    walk_at "r"
  · rw [if_neg c, if_neg c]
    walk_at "r"
    rw [e4]
    walk_at "r"
    by_cases c2 : 0 < (o - mid (P - 1) t) % (P - 1)
    · rw [if_pos c2, if_pos c2]
      walk_at "r"
    · rw [if_neg c2, if_neg c2]
      walk_at "r"
theorem m_players_at_eq {q : Int} (hq : 0 ≤ q ∧ q < P / 2) : m_players_at [.int P, .int t, .int q] = .ok (.dat (pr (P - 1) (mid (P - 1) t) q)) := by
  have e1 := m_check_players_ok h h2 ht
  have e2 := m_check_below_ok (v := t) (b := P - 1) ht
  have e3 := m_check_below_ok (v := q) (b := P / 2) hq
  have e4 := m_middle_eq h h2 ht
  unfold m_players_at r_players_at
  walk_at "r"
  rw [e1]
  walk_at "r"
  rw [e2]
  walk_at "r"
  rw [e3]
  walk_at "r"
  rw [e4]
  walk_at "r"
  unfold pr prl
  by_cases c : q = 0
  · rw [if_pos c, if_pos c]
    walk_at "r"
    all_goals rfl
  · rw [if_neg c, if_neg c]
    walk_at "r"
    all_goals rfl
end
theorem m_plan_eq {P : Int} (h : 2 ≤ P ∧ P ≤ 30) (h2 : P % 2 = 0) : m_plan [.int P] = .ok (.own ((rg (P - 1)).map fun t => .lst ((rg (P / 2)).map (pr (P - 1) (mid (P - 1) t))))) := by
  have e1 := m_check_players_ok h h2 (t := 0) (by omega)
  unfold m_plan r_plan
  walk_at "r"
  rw [e1]
  walk_at "r"
  rw [lc_map (g := fun t => .lst ((rg (P / 2)).map (pr (P - 1) (mid (P - 1) t)))) (fun t ht => by
    have ht := rg_mem.mp ht
    dsimp only [lcF, gnm]
    walk_at "r"
    rw [lc_map (g := pr (P - 1) (mid (P - 1) t)) (fun q hq => by
      have hq := rg_mem.mp hq
      have e := m_players_at_eq h h2 ht hq
      dsimp only [lcF, gnm]
      walk_at "r"
      rw [e]
      walk_at "r")]
    walk_at "r")]
  walk_at "r"
theorem e_deep {i : Nat} {m : List D → Re Sl} {ea : Rho → Re (List D)} {et : Rho → Re Bool} {xx xr : Rho → Os} {ei ey : Rho → Re D} {ρ : Rho} {n k : Int} {rows l : List D} {y : D}
    (h1 : ea ρ = .ok [.int n]) (h2 : m [.int n] = .ok (.own rows)) (h3 : i < ρ.length) (h4 : et (ρ.set i (.dat (.lst rows))) = .ok false) (h5 : ei (ρ.set i (.dat (.lst rows))) = .ok (.int k)) (h6 : ey (ρ.set i (.dat (.lst rows))) = .ok y)
    (h7 : atI rows k = some (.lst l)) (h8 : l.length < 1000000) : rDeep i m ea et xx ei ey xr ρ = xr (ρ.set i .no) := by
  unfold rDeep
  rw [h1]
  dsimp only
  rw [h2]
  dsimp only
  rw [if_pos h3, h4]
  dsimp only
  rw [h5, h6]
  dsimp only
  rw [h7]
  dsimp only
  rw [if_pos h8]
end K79

set_option maxRecDepth 100000
set_option maxHeartbeats 4000000
namespace K79
open PySem PySem.Spec L2 DL
local macro_rules | `(tactic| walk_at "r") => `(tactic| try simp -implicitDefEqProofs (disch := omega) only [rDisp1, e_bSortKS_d, asKS_map, rCatO, rM1, rM1O, rM0, rM0O, e_oJoin_l, e_oJoin_t, e_bStrA_i, e_bStrA_s, rFs, rJs, e_oFmt_i, e_oFmt_s, rIStr, e_oSplit, e_oWords, xAugL, e_bIntS, mkM, rC, rVar, rOp, rUn, rCb, rNil, rCons, rStar, rApp, rApp2, rStill, rCall, rTup, rLst, rNewK, rNewT, rAndV, rOrV, rNotV, rIfE, rChain, rChain3, rChain4, rTest, rYes, rAnd, rOr, rNot, rTru, gnm,
  rNext, rBreak, rCont, rRetN, rSeq, rDrop, rRet, rRetO, rRetV, rSet, rSetO, rAsg, rIf, rK, rF, rPar, rPar3, rFor, rAug, aug, xAppend, rIxV, rLenV, gsub, rAugS, xInsert, xPopAt, rDGet, rDGet2, rDIn, rDNotIn, rDLen, rDPut, rLockF, xModIx, xModIn, rRaise0, rRaise1, xIsX, rXf, rXfC,
  rListOfD, rListOfA, e_seqK_l, e_seqK_t, e_seqK_d, e_seqK_f, rTruV, List.isEmpty_map, xExtend, xSetPop, xSetPopAt, rDc, rLkO, rLstRg1, sortedO, List.isEmpty_cons, List.isEmpty_nil, List.head?_cons, List.head?_nil, List.find?_nil, xIsi, xIsi2, rIList, rITup, rISeq, rIRng1, rIRng2, rIRng3, rIEnum, rIValsN, rIValsV, rIKeysV, rPN, rPS, rSl, rL, rLO, rLc, rLc2, wipeR,
  Re.ok_bind, Re.ex_bind, Re.bad_bind, Re.ok_os, Re.ex_os, Re.bad_os, Os.nx_thn, Os.rt_thn, Os.bk_thn, Os.ct_thn, Os.ex_thn, Os.bad_thn, Os.uni_const, rowB, gt, frz, frz1, fgt, D.has, D.hass, asI, asB, asT, asI_map, asB_map, asT_map, keysK, keyT_tD,
  e_of_some, e_osof, e_ret_nx, e_ret_rt, e_ret_ex, e_kil_nx, e_kil_bk, e_kil_ct, e_kil_rt, e_kil_ex, e_noexc_nx, e_noexc_bk, e_noexc_ct, e_noexc_rt, e_noex, e_val, e_get_dat, e_get_own, e_get_oK, e_get_oT, e_rtv_dat, e_rtv_own, e_rtv_oK, e_rtv_oT, e_ownL, e_isD_oT, e_isD_dT, e_isD_fT, e_isOD_T, e_ask_oT, e_has_oT, e_len_oT, e_ask_dT, e_has_dT, e_len_dT, e_ask_fT, e_has_fT, e_len_fT, e_put_T, e_lock_T, e_isD_oK, e_isD_dK, e_isD_fK, e_isOD_K, e_ask_oK, e_has_oK, e_len_oK, e_ask_dK, e_has_dK, e_len_dK, e_ask_fK, e_has_fK, e_len_fK, e_put_K, e_lock_K, e_keyK_int, e_keyK_str, e_keyT2, e_keyT3, e_blD, e_tru_non, e_tru_bl, e_tru_int, e_tru_lst, e_tru_tup, e_seq_l, e_seq_t, e_gtp, e_gls, e_gco, e_gni, e_oSub, e_oLt, e_oLe, e_oGt, e_oGe, e_oEq, e_oNe, e_oAdd, e_oIAdd, e_oXor, e_oAddL, e_oAddS, oEqTs, oNeTs, oEqLI, oNeLI, oEqTI, oNeTI, e_oAddT, e_oMulR, e_oMulL, e_oMul, e_oMulLst, e_oIMulR, e_oIMulL, e_oDiv, e_oDivB, e_oMod, e_oPow, e_oEqS, e_oNeS, e_oEqB, e_oNeB, e_oIs, e_oIsNot, e_nonD, e_nonD_int, e_nonD_str, e_nonD_lst, e_nonD_tup, e_nonD_bl, e_oNeg, e_oIxL, e_oIxT, e_oIn_lst, e_oIn_tup, e_oNotIn_lst, e_oNotIn_tup, e_oSlL_l, e_oSlL_s, e_oSlAny_l, e_oSlAny_s, rRev, e_oRev_l, e_oRev_t, e_oSlA_t, e_oSlAny_t, e_bAbs, e_bLenL, e_bLenT, e_bInt, e_bIntT, e_bIntF, e_bIntB, e_bTupL, e_bTupT, e_bMax2, e_bMin2, e_bAll, e_bAny, e_bSumA, e_bSumAt, e_bMinR, rTupRg1, xAppPopAt, rRep1, e_bSorted_lst, e_bSorted_tup, e_isT_non_int, e_isT_non_bool, e_isT_non_str, e_isT_non_list, e_isT_non_tuple, e_isT_bl_int, e_isT_bl_bool, e_isT_bl_str, e_isT_bl_list, e_isT_bl_tuple, e_isT_int_int, e_isT_int_bool, e_isT_int_str, e_isT_int_list, e_isT_int_tuple, e_isT_str_int, e_isT_str_bool, e_isT_str_str, e_isT_str_list, e_isT_str_tuple, e_isT_lst_int, e_isT_lst_bool, e_isT_lst_str, e_isT_lst_list, e_isT_lst_tuple, e_isT_tup_int, e_isT_tup_bool, e_isT_tup_str, e_isT_tup_list, e_isT_tup_tuple, e_irng1, e_irng2, e_irng3, e_oIsA_n, e_oIsA_b, e_oIsntA_n, e_oIsntA_b, oInA, oNotInA, e_inD_il, e_inD_it, e_inD_sl, e_inD_st, e_inD_tl, e_inD_ti, asS, asS_map, Option.isSome_some, Option.isSome_none, k_bose_skolem, k_bose_affine, k_bose_binary, k_bose_listed, k_bose_double, k_bose_product, k_skolem_bose, k_skolem_affine, k_skolem_binary, k_skolem_listed, k_skolem_double, k_skolem_product, k_affine_bose, k_affine_skolem, k_affine_binary, k_affine_listed, k_affine_double, k_affine_product, k_binary_bose, k_binary_skolem, k_binary_affine, k_binary_listed, k_binary_double, k_binary_product, k_listed_bose, k_listed_skolem, k_listed_affine, k_listed_binary, k_listed_double, k_listed_product, k_double_bose, k_double_skolem, k_double_affine, k_double_binary, k_double_listed, k_double_product, k_product_bose, k_product_skolem, k_product_affine, k_product_binary, k_product_listed, k_product_double, arm_bose, arm_skolem, arm_affine, arm_binary, arm_listed, arm_double, arm_product, e_shas_oT, e_shas_oK, hass_pD, hass_lI, e_lendD, e_lendS, e_has_dat, e_has_own, e_hass_ints, e_hass_tI, and_okP, or_okP, andD_okP, orD_okP, atI_lit, e_ixN, List.getElem?_cons_zero, List.getElem?_cons_succ,
  List.map_cons, List.map_nil, List.cons_append, List.nil_append, List.length_cons, List.length_nil, List.length_map, List.length_append, List.length_take, List.length_drop, rg_len, rgs_len, rgd_len, List.length_set, List.set_cons_zero, List.set_cons_succ, Nat.reduceAdd, Nat.reduceLeDiff, Nat.reduceEqDiff, Option.bind_some, Option.map_some, Option.bind_none, Option.map_none, Bool.not_true, Bool.not_false, Bool.or_false, Bool.false_or, Bool.and_true, Bool.true_and, Bool.or_true, Bool.true_or, Bool.and_false, Bool.false_and, Bool.or_self, Bool.and_self, Bool.not_not,
  decide_true, decide_false, decide_eq_true_eq, Bool.and_eq_true, Bool.or_eq_true, bnot_true, bool_eqf, ite_not, Decidable.not_not, if_true, if_false, ite_true, ite_false, Bool.false_eq_true, and_true, true_and, false_and, and_false, and_self, eq_self, reduceCtorEq, not_true, not_false_eq_true, and_ok, or_ok, andD_ok, orD_ok, if_pos, if_neg, Int.reduceLE, Int.reduceLT, Int.reduceNeg, Int.reduceAdd, Int.reduceSub, Int.reduceMul, Int.reduceMod, Int.reduceDiv, Int.reduceEq, Int.reducePow, Nat.reducePow, Int.reduceToNat])
theorem law_ok (ns : List Int) (hns : ns.length ≤ 63) : mkM 1 [.no, .no, .no, .no, .no, .no, .no, .no, .no, .no, .no] r_law [.src ns] = .ok (.dat (.bl true)) := by
  obtain ⟨l, el, hl⟩ := m_law_numbers_ok ns 4 hns (by omega)
  obtain ⟨x0, e0, a0, b0⟩ := m_law_pick_ok hl (a := 0) (m := 15) (by omega) (by omega)
  obtain ⟨P, eP⟩ : ∃ P, P = 2 + 2 * x0 := ⟨_, rfl⟩
  have hP : 2 ≤ P ∧ P ≤ 30 := by omega
  have h2 : P % 2 = 0 := by omega
  obtain ⟨t, e1, a1, b1⟩ := m_law_pick_ok hl (a := 1) (m := P - 1) (by omega) (by omega)
  have ht : 0 ≤ t ∧ t < P - 1 := ⟨a1, b1⟩
  have hM := mid_in (n := P - 1) (t := t) (by omega) ht
  have hPl := m_plan_eq hP h2
  have hpl := fun q hq => m_players_at_eq hP h2 ht (q := q) hq
  have hpo := fun o ho => m_place_of_eq hP h2 ht (o := o) ho
  have hmo := fun x hx => mid_only (n := P - 1) (t := t) (x := x) (by omega) ht hx
  obtain ⟨M, eM⟩ : ∃ M, M = mid (P - 1) t := ⟨_, rfl⟩
  have hrow : atI ((rg (P - 1)).map fun t => D.lst ((rg (P / 2)).map (pr (P - 1) (mid (P - 1) t)))) t = some (.lst ((rg (P / 2)).map (pr (P - 1) M))) := by
    rw [eM]
    refine atI_nn (n := t.toNat) (by omega) ?_
    rw [List.getElem?_map, rg_at (by omega), show ((t.toNat : Nat) : Int) = t by omega]
    rfl
  rw [← eM] at hM hpl hpo hmo
  generalize hrows : ((rg (P - 1)).map fun t => D.lst ((rg (P / 2)).map (pr (P - 1) (mid (P - 1) t)))) = rows at hPl hrow
  obtain ⟨F, eF⟩ : ∃ F, (rg (P - 1)).filter (fun x => decide ((2 * x - t) % (P - 1) = 0)) = M :: F := by
    have hm : M ∈ (rg (P - 1)).filter (fun x => decide ((2 * x - t) % (P - 1) = 0)) := List.mem_filter.mpr ⟨rg_mem.mpr ⟨hM.1, hM.2.1⟩, decide_eq_true ((hmo M ⟨hM.1, hM.2.1⟩).mpr rfl)⟩
    have ha : ∀ x ∈ (rg (P - 1)).filter (fun x => decide ((2 * x - t) % (P - 1) = 0)), x = M := fun x hx => (hmo x (rg_mem.mp (List.mem_filter.mp hx).1)).mp (of_decide_eq_true (List.mem_filter.mp hx).2)
    generalize (rg (P - 1)).filter (fun x => decide ((2 * x - t) % (P - 1) = 0)) = F at hm ha
    cases F with
    | nil => cases hm
    | cons x F =>
      rw [ha x List.mem_cons_self]
      exact ⟨F, rfl⟩
  have lF : F.length ≤ 30 := by
    have h1 := List.length_filter_le (fun x => decide ((2 * x - t) % (P - 1) = 0)) (rg (P - 1))
    rw [eF, rg_len, List.length_cons] at h1
    omega
  have lrows : rows.length = (P - 1).toNat := by rw [← hrows, List.length_map, rg_len]
  unfold r_law
  walk_at "r"
  rw [el]
  walk_at "r"
  rw [e0]
  walk_at "r"
  rw [← eP, e1]
  walk_at "r"
  rw [lc_fm (p := fun x => decide ((2 * x - t) % (P - 1) = 0)) (g := D.int) (fun x hx => by
    have hx := rg_mem.mp hx
    dsimp only [lcF, gnm]
    walk_at "r")]
  walk_at "r"
  rw [eF]
  walk_at "r"
  generalize hq : forGo _ _ _ = q
  obtain ⟨s, rfl, hs⟩ := for_out hq (fun s : List D × Sl => [.dat (.src ns), .dat (.lst (l.map D.int)), .dat (.int P), .dat (.int (P - 1)), .dat (.int t), .dat (.int M), .own s.1, s.2, .no, .no, .no, .no])
    (fun i s => s.1 = pr (P - 1) M 0 :: ((rgs 1 (P / 2)).take i).map (pr (P - 1) M)) ([pr (P - 1) M 0], .no) rfl rfl (by
    rintro i x ⟨s, z⟩ hx hs
    dsimp only at hs
    have hx2 := rgs_mem.mp (List.mem_of_getElem? hx)
    have hxi := rgs_get hx
    have ls : s.length ≤ 20 := by
      rw [hs, List.length_cons, List.length_map, List.length_take]
      omega
    have ep : pr (P - 1) M x = .tup ((srt [(M + x) % (P - 1), (M - x) % (P - 1)]).map D.int) := by
      unfold pr prl
      rw [if_neg (by omega)]
      rfl
    rw [e_step]
    walk_at "r"
    refine ⟨(s ++ [pr (P - 1) M x], .dat (.int x)), ?_, ?_⟩
    · rw [ep]
    · show s ++ [pr (P - 1) M x] = _
      rw [hs, List.take_add_one, hx, List.map_append]
      rfl)
  have hdue : s.1 = ((rg (P / 2)).map (prl (P - 1) M)).map tI := by
    rw [← pr_map, hs, List.take_of_length_le (Nat.le_refl _), rgs_split (a := 1) (n := P / 2) (by omega), List.map_append]
    rfl
  obtain ⟨due, z7⟩ := s
  dsimp only at hdue ⊢
  subst hdue
  walk_at "r"
  rw [lc_map (g := pr (P - 1) M) (fun q hq => by
    have hq := rg_mem.mp hq
    dsimp only [lcF, gnm]
    walk_at "r"
    rw [hpl q hq]
    walk_at "r")]
  rw [pr_map]
  have lR : ((rg (P / 2)).map (prl (P - 1) M)).length = (P / 2).toNat := by rw [List.length_map, rg_len]
  have gR : ∀ q, 0 ≤ q ∧ q < P / 2 → ((rg (P / 2)).map (prl (P - 1) M))[q.toNat]? = some (prl (P - 1) M q) := fun q hq => by
    rw [List.getElem?_map, rg_at (by omega), show ((q.toNat : Nat) : Int) = q by omega]
    rfl
  rw [pr_map] at hrow
  generalize (rg (P / 2)).map (prl (P - 1) M) = R at hrow lR gR ⊢
  walk_at "r"
  rw [lc_map (g := fun _ => .bl true) (fun r hr => by
    dsimp only [lcF, gnm]
    walk_at "r"
    all_goals rfl)]
  walk_at "r"
  rw [show (R.map fun x => D.bl true) = (R.map fun x => true).map D.bl by rw [List.map_map]; rfl, asB_map]
  walk_at "r"
  rw [if_pos (List.all_eq_true.mpr fun x hx => by
    obtain ⟨_, _, rfl⟩ := List.mem_map.mp hx
    rfl)]
  walk_at "r"
  clear hq
  generalize hq : forGo _ _ _ = q
  obtain ⟨s, rfl, hs'⟩ := for_out hq (fun s : Sl => [.dat (.src ns), .dat (.lst (l.map D.int)), .dat (.int P), .dat (.int (P - 1)), .dat (.int t), .dat (.int M), .dat (.lst (R.map tI)), s, .dat (.lst (R.map tI)), .no, .no, .no]) (fun i s => True) z7 rfl trivial (by
    intro i x s hx _
    have hx2 := rg_mem.mp (List.mem_of_getElem? hx)
    have g := gR x hx2
    obtain ⟨a, b, eab, p1, p2, p3, p4⟩ : ∃ a b, prl (P - 1) M x = [a, b] ∧ (0 ≤ a ∧ a < P) ∧ (0 ≤ b ∧ b < P) ∧
        (if a = P - 1 then 0 else if 0 < (a - M) % (P - 1) then min ((a - M) % (P - 1)) (P - 1 - (a - M) % (P - 1)) else 0) = x ∧
        (if b = P - 1 then 0 else if 0 < (b - M) % (P - 1) then min ((b - M) % (P - 1)) (P - 1 - (b - M) % (P - 1)) else 0) = x := by
      by_cases c : x = 0
      · refine ⟨M, P - 1, by unfold prl; rw [if_pos c], by omega, by omega, ?_, ?_⟩
        · rw [if_neg (by omega), show M - M = 0 by omega, show (0 : Int) % (P - 1) = 0 from Int.zero_emod _, if_neg (by omega)]
          exact c.symm
        · rw [if_pos rfl]
          exact c.symm
      · obtain ⟨a, b, e, ha, hb⟩ := prl_two (P - 1) M x c
        obtain ⟨q1, q2, q3⟩ := place_of (n := P - 1) (M := M) (q := x) (o := a) (by omega) ⟨hM.1, hM.2.1⟩ (by omega) ha
        obtain ⟨r1, r2, r3⟩ := place_of (n := P - 1) (M := M) (q := x) (o := b) (by omega) ⟨hM.1, hM.2.1⟩ (by omega) hb
        refine ⟨a, b, e, by omega, by omega, ?_, ?_⟩
        · rw [if_neg (by omega), if_pos q2, q3]
        · rw [if_neg (by omega), if_pos r2, r3]
    rw [eab] at g
    have e4 : atI (R.map tI) x = some (.tup [.int a, .int b]) := atI_nn (n := x.toNat) (by omega) (by rw [List.getElem?_map, g]; rfl)
    have ea := hpo a p1
    have eb := hpo b p2
    rw [p3] at ea
    rw [p4] at eb
    refine ⟨.no, ?_, trivial⟩
    rw [e_step]
    walk_at "r"
    rw [e4]
    walk_at "r"
    rw [ea]
    walk_at "r"
    rw [eb]
    walk_at "r")
  walk_at "r"
  rw [e_deep (n := P) (k := t) (rows := rows) (l := R.map tI) (y := .str "x") (by walk_at "r") hPl (by simp) (by
    walk_at "r"
    rw [hrow]
    walk_at "r"
    all_goals rfl) (by walk_at "r") (by walk_at "r") hrow (by rw [List.length_map]; omega)]
  walk_at "r"
  rw [hPl]
  walk_at "r"
  rw [hrow]
  walk_at "r"
  all_goals rfl
end K79

set_option pp.deepTerms false
set_option pp.maxSteps 400
set_option maxRecDepth 100000
set_option maxHeartbeats 4000000
namespace K79
open PySem PySem.Spec L2 DL

abbrev sp_check_players (K : PySem.W.Frag) (A : Ad) : Sp := spM K A.adr m_check_players
abbrev sp_check_below (K : PySem.W.Frag) (A : Ad) : Sp := spM K A.adr m_check_below
abbrev sp_middle (K : PySem.W.Frag) (A : Ad) : Sp := spM K A.adr m_middle
abbrev sp_place_of (K : PySem.W.Frag) (A : Ad) : Sp := spM K A.adr m_place_of
abbrev sp_players_at (K : PySem.W.Frag) (A : Ad) : Sp := spM K A.adr m_players_at
abbrev sp_plan (K : PySem.W.Frag) (A : Ad) : Sp := spM K A.adr m_plan
abbrev sp_law_row (K : PySem.W.Frag) (A : Ad) : Sp := spM K A.adr m_law_row
abbrev sp_law_numbers (K : PySem.W.Frag) (A : Ad) : Sp := spM K A.adr m_law_numbers
abbrev sp_law_pick (K : PySem.W.Frag) (A : Ad) : Sp := spM K A.adr m_law_pick
def t_check_players (K : PySem.W.Frag) (A : Ad) (W : WX) : TS :=
  (tIfS (tOr (tNot (tTest (tChain (rI0 fun i j => .bl (decide (i ≤ j))) (rI0 fun i j => .bl (decide (i ≤ j))) (tC (.int 2)) (tVar 0) (tC (.int 1000000000000000000000000000000))))) (tTest (tOp (rNeA K) (tOp (rI (fun _ j => 0 < j) fun i j => .int (i % j)) (tVar 0) (tC (.int 2))) (tC (.int 0))))) (tRaise0 A.c_InvalidQuestion W) tNext)
def t_check_below (K : PySem.W.Frag) (A : Ad) (W : WX) : TS :=
  (tIfS (tNot (tTest (tChain (rI0 fun i j => .bl (decide (i ≤ j))) (rI0 fun i j => .bl (decide (i < j))) (tC (.int 0)) (tVar 0) (tVar 1)))) (tRaise0 A.c_InvalidQuestion W) tNext)
def t_middle (K : PySem.W.Frag) (A : Ad) (W : WX) : TS :=
  (tRet (tOp (rI (fun _ j => 0 < j) fun i j => .int (i % j)) (tOp rMulA (tVar 1) (tOp rDivA (tVar 0) (tC (.int 2)))) (tOp (rI0 fun i j => .int (i - j)) (tVar 0) (tC (.int 1)))))
def t_place_of (K : PySem.W.Frag) (A : Ad) (W : WX) : TS :=
  (tSeq (tDrop (tCallS (sp_check_players K A) (WE W) (tCons (tVar 0) tNil)))
  (tSeq (tDrop (tCallS (sp_check_below K A) (WE W) (tCons (tVar 1) (tCons (tOp (rI0 fun i j => .int (i - j)) (tVar 0) (tC (.int 1))) tNil))))
  (tSeq (tDrop (tCallS (sp_check_below K A) (WE W) (tCons (tVar 2) (tCons (tVar 0) tNil))))
  (tSeq (tAsg (tOp (rI0 fun i j => .int (i - j)) (tVar 0) (tC (.int 1))) (gName 3))
  (tSeq (tIfS (tTest (tOp (rEqA K) (tVar 2) (tVar 3))) (tRet (tC (.int 0))) tNext)
  (tSeq (tAsg (tOp (rI (fun _ j => 0 < j) fun i j => .int (i % j)) (tOp (rI0 fun i j => .int (i - j)) (tVar 2) (tCallS (sp_middle K A) (WE W) (tCons (tVar 0) (tCons (tVar 1) tNil)))) (tVar 3)) (gName 4))
  (tRet (tIf (tTest (tOp (rI0 fun i j => .bl (decide (j < i))) (tVar 4) (tC (.int 0)))) (tCB rMin2 (tCons (tVar 4) (tCons (tOp (rI0 fun i j => .int (i - j)) (tVar 3) (tVar 4)) tNil))) (tC (.int 0))))))))))
def t_players_at (K : PySem.W.Frag) (A : Ad) (W : WX) : TS :=
  (tSeq (tDrop (tCallS (sp_check_players K A) (WE W) (tCons (tVar 0) tNil)))
  (tSeq (tDrop (tCallS (sp_check_below K A) (WE W) (tCons (tVar 1) (tCons (tOp (rI0 fun i j => .int (i - j)) (tVar 0) (tC (.int 1))) tNil))))
  (tSeq (tDrop (tCallS (sp_check_below K A) (WE W) (tCons (tVar 2) (tCons (tOp rDivA (tVar 0) (tC (.int 2))) tNil))))
  (tSeq (tAsg (tOp (rI0 fun i j => .int (i - j)) (tVar 0) (tC (.int 1))) (gName 3))
  (tSeq (tAsg (tCallS (sp_middle K A) (WE W) (tCons (tVar 0) (tCons (tVar 1) tNil))) (gName 4))
  (tSeq (tIfS (tTest (tOp (rEqA K) (tVar 2) (tC (.int 0)))) (tRet (tTup (tCons (tVar 4) (tCons (tVar 3) tNil)))) tNext)
  (tRet (tCB (rTupleOf K) (tCons (tCB (rSortedA K) (tCons (tTup (tCons (tOp (rI (fun _ j => 0 < j) fun i j => .int (i % j)) (tOp (rAdd K) (tVar 4) (tVar 2)) (tVar 3)) (tCons (tOp (rI (fun _ j => 0 < j) fun i j => .int (i % j)) (tOp (rI0 fun i j => .int (i - j)) (tVar 4) (tVar 2)) (tVar 3)) tNil))) tNil)) tNil)))))))))
def t_plan (K : PySem.W.Frag) (A : Ad) (W : WX) : TS :=
  (tSeq (tDrop (tCallS (sp_check_players K A) (WE W) (tCons (tVar 0) tNil)))
  (tSeq (tIfS (tTest (tOp (rI0 fun i j => .bl (decide (j < i))) (tVar 0) (tC (.int 100)))) (tRaise0 A.c_InvalidQuestion W) tNext)
  (tRet (tLc (iRng1 (tCons (tOp (rI0 fun i j => .int (i - j)) (tVar 0) (tC (.int 1))) tNil)) (gName 1) tYes (tLc (iRng1 (tCons (tOp rDivA (tVar 0) (tC (.int 2))) tNil)) (gName 2) tYes (tCallS (sp_players_at K A) (WE W0) (tCons (tVar 0) (tCons (tVar 1) (tCons (tVar 2) tNil)))) [2]) [1]))))
def t_law_row (K : PySem.W.Frag) (A : Ad) (W : WX) : TS :=
  (tSeq (tAsg (tLst tNil) (gName 2))
  (tSeq (tAsg (tCB rAbs (tCons (tVar 0) tNil)) (gName 3))
  (tSeq (tAsg (tOp (rI (fun _ j => 0 < j) fun i j => .int (i % j)) (tCB rInt1 (tCons (tOp (rAdd K) (tOp rMulA (tVar 3) (tC (.int 48271))) (tC (.int 69621))) tNil)) (tC (.int 2147483647))) (gName 4))
  (tSeq (tFor (iRng1 (tCons (tVar 1) tNil)) (gName 5) (tSeq (tAsg (tOp (rI (fun _ j => 0 < j) fun i j => .int (i % j)) (tCB rInt1 (tCons (tOp (rAdd K) (tOp rMulA (tVar 4) (tC (.int 16807))) (tOp rMulA (tC (.int 271)) (tOp (rAdd K) (tVar 5) (tC (.int 3))))) tNil)) (tC (.int 2147483629))) (gName 4))
  (tIfS (tTest (tOp (rI0 fun i j => .bl (decide (j ≤ i))) (tCB rAbs (tCons (tVar 0) tNil)) (tOp (rI CPow fun i j => .int (i ^ j.toNat)) (tC (.int 10)) (tC (.int 18))))) (tSeq (tDrop (tBM K "list" rAppend (tVar 2) (tCons (tOp (rI (fun _ j => 0 < j) fun i j => .int (i % j)) (tCB rInt1 (tCons (tVar 3) tNil)) (tC (.int 1009))) tNil)))
  (tAsg (tOp rDivA (tVar 3) (tC (.int 1009))) (gName 3))) (tDrop (tBM K "list" rAppend (tVar 2) (tCons (tOp (rI (fun _ j => 0 < j) fun i j => .int (i % j)) (tCB rInt1 (tCons (tOp rDivA (tVar 4) (tC (.int 7))) tNil)) (tC (.int 1009))) tNil))))))
  (tRet (tVar 2))))))
def t_law_numbers (K : PySem.W.Frag) (A : Ad) (W : WX) : TS :=
  (tSeq (tAsg (tSl (rSlAny K) (tVar 0) tNoPart (tPart (tC (.int 63)))) (gName 2))
  (tSeq (tAsg (tOp (rAdd K) (tC (.int 1)) (tOp rDivA (tVar 1) (tCB rMax2 (tCons (tC (.int 1)) (tCons (tCB (rLn K) (tCons (tVar 2) tNil)) tNil))))) (gName 3))
  (tSeq (tAsg (tLst tNil) (gName 4))
  (tSeq (tFor (iSeq K (tVar 2)) (gName 5) (tFor (iSeq K (tCallS (sp_law_row K A) (WE W) (tCons (tVar 5) (tCons (tVar 3) tNil)))) (gName 6) (tDrop (tBM K "list" rAppend (tVar 4) (tCons (tVar 6) tNil)))))
  (tSeq (tWhile (tTest (tOp (rI0 fun i j => .bl (decide (i < j))) (tCB (rLn K) (tCons (tVar 4) tNil)) (tVar 1))) (tDrop (tBM K "list" rAppend (tVar 4) (tCons (tC (.int 0)) tNil))))
  (tRet (tSl (rSlAny K) (tVar 4) tNoPart (tPart (tVar 1)))))))))
def t_law_pick (K : PySem.W.Frag) (A : Ad) (W : WX) : TS :=
  (tRet (tOp (rI (fun _ j => 0 < j) fun i j => .int (i % j)) (tCB rInt1 (tCons (tOp (rIx K) (tVar 0) (tVar 1)) tNil)) (tVar 2)))
def t_law (K : PySem.W.Frag) (A : Ad) (W : WX) : TS :=
  (tSeq (tAsg (tCallS (sp_law_numbers K A) (WE W) (tCons (tVar 0) (tCons (tC (.int 4)) tNil))) (gName 1))
  (tSeq (tAsg (tOp (rAdd K) (tC (.int 2)) (tOp rMulA (tC (.int 2)) (tCallS (sp_law_pick K A) (WE W) (tCons (tVar 1) (tCons (tC (.int 0)) (tCons (tC (.int 15)) tNil)))))) (gName 2))
  (tSeq (tAsg (tOp (rI0 fun i j => .int (i - j)) (tVar 2) (tC (.int 1))) (gName 3))
  (tSeq (tAsg (tCallS (sp_law_pick K A) (WE W) (tCons (tVar 1) (tCons (tC (.int 1)) (tCons (tVar 3) tNil)))) (gName 4))
  (tSeq (tAsg (tOp (rIx K) (tLc (iRng1 (tCons (tVar 3) tNil)) (gName 10) (tTest (tOp (rEqA K) (tOp (rI (fun _ j => 0 < j) fun i j => .int (i % j)) (tCB rInt1 (tCons (tOp (rI0 fun i j => .int (i - j)) (tOp rMulA (tC (.int 2)) (tVar 10)) (tVar 4)) tNil)) (tVar 3)) (tC (.int 0)))) (tVar 10) [10]) (tC (.int 0))) (gName 5))
  (tSeq (tAsg (tLst (tCons (tTup (tCons (tVar 5) (tCons (tVar 3) tNil))) tNil)) (gName 6))
  (tSeq (tFor (iRng2 (tCons (tC (.int 1)) (tCons (tOp rDivA (tVar 2) (tC (.int 2))) tNil))) (gName 7) (tDrop (tBM K "list" rAppend (tVar 6) (tCons (tCB (rTupleOf K) (tCons (tCB (rSortedA K) (tCons (tLst (tCons (tOp (rI (fun _ j => 0 < j) fun i j => .int (i % j)) (tCB rInt1 (tCons (tOp (rAdd K) (tVar 5) (tVar 7)) tNil)) (tVar 3)) (tCons (tOp (rI (fun _ j => 0 < j) fun i j => .int (i % j)) (tCB rInt1 (tCons (tOp (rI0 fun i j => .int (i - j)) (tVar 5) (tVar 7)) tNil)) (tVar 3)) tNil))) tNil)) tNil)) tNil))))
  (tSeq (tAsg (tLc (iRng1 (tCons (tOp rDivA (tVar 2) (tC (.int 2))) tNil)) (gName 7) tYes (tCallS (sp_players_at K A) (WE W0) (tCons (tVar 2) (tCons (tVar 4) (tCons (tVar 7) tNil)))) [7]) (gName 8))
  (tSeq (tIfS (tOr (tTest (tOp (rNeA K) (tVar 8) (tVar 6))) (tNot (tTru K (tCB (rAll K) (tCons (tLc (iSeq K (tVar 8)) (gName 11) tYes (tCB (rIsi K) (tCons (tVar 11) (tCons (tC (.ty "tuple")) tNil))) [11]) tNil))))) (tRet (tC (.bl false))) tNext)
  (tSeq (tFor (iRng1 (tCons (tOp rDivA (tVar 2) (tC (.int 2))) tNil)) (gName 7) (tIfS (tOr (tTest (tOp (rNeA K) (tCallS (sp_place_of K A) (WE W) (tCons (tVar 2) (tCons (tVar 4) (tCons (tOp (rIx K) (tOp (rIx K) (tVar 6) (tVar 7)) (tC (.int 0))) tNil)))) (tVar 7))) (tTest (tOp (rNeA K) (tCallS (sp_place_of K A) (WE W) (tCons (tVar 2) (tCons (tVar 4) (tCons (tOp (rIx K) (tOp (rIx K) (tVar 6) (tVar 7)) (tC (.int 1))) tNil)))) (tVar 7)))) (tRet (tC (.bl false))) tNext))
  (tSeq (tAsg (tCallS (sp_plan K A) (WE W) (tCons (tVar 2) tNil)) (gName 9))
  (tSeq (tIfS (tOr (tNot (tTru K (tCB (rIsi K) (tCons (tVar 9) (tCons (tC (.ty "list")) tNil))))) (tOr (tTest (tOp (rNeA K) (tCB (rLn K) (tCons (tVar 9) tNil)) (tVar 3))) (tOr (tTest (tOp (rNeA K) (tOp (rIx K) (tVar 9) (tVar 4)) (tVar 6))) (tNot (tTru K (tCB (rIsi K) (tCons (tOp (rIx K) (tVar 9) (tVar 4)) (tCons (tC (.ty "list")) tNil)))))))) (tRet (tC (.bl false))) tNext)
  (tSeq (tDrop (tBM K "list" rAppend (tOp (rIx K) (tVar 9) (tVar 4)) (tCons (tC (.str "x")) tNil)))
  (tRet (tOp (rEqA K) (tOp (rIx K) (tCallS (sp_plan K A) (WE W) (tCons (tVar 2) tNil)) (tVar 4)) (tVar 6))))))))))))))))
section
variable {K : PySem.W.Frag} {mg : Str → Option Value} {A : Ad}
theorem c_check_players (T : Txt K mg A) (W : WX) : CS K W A.adr (t_check_players K A W) r_check_players := by
  unfold t_check_players r_check_players
  exact (cIf (cOr (cNot (cTest (cChain pLe pLe (cInt 2) (cVar 0) (cInt 1000000000000000000000000000000)))) (cTest (cOp pNe (cOp pMod (cVar 0) (cInt 2)) (cInt 0)))) (cRaise0 .InvalidQuestion) cNext)
theorem c_check_below (T : Txt K mg A) (W : WX) : CS K W A.adr (t_check_below K A W) r_check_below := by
  unfold t_check_below r_check_below
  exact (cIf (cNot (cTest (cChain pLe pLt (cInt 0) (cVar 0) (cVar 1)))) (cRaise0 .InvalidQuestion) cNext)
theorem c_middle (T : Txt K mg A) (W : WX) : CS K W A.adr (t_middle K A W) r_middle := by
  unfold t_middle r_middle
  exact (cRet (cOp pMod (cOp pMul (cVar 1) (cOp pDiv (cVar 0) (cInt 2))) (cOp pSub (cVar 0) (cInt 1))))
theorem c_place_of (T : Txt K mg A) (W : WX) : CS K W A.adr (t_place_of K A W) r_place_of := by
  unfold t_place_of r_place_of
  exact (cSeq (cDrop (cStill (cCall (cCons (cVar 0) cNil))))
  (cSeq (cDrop (cStill (cCall (cCons (cVar 1) (cCons (cOp pSub (cVar 0) (cInt 1)) cNil)))))
  (cSeq (cDrop (cStill (cCall (cCons (cVar 2) (cCons (cVar 0) cNil)))))
  (cSeq (cSet 3 (cOp pSub (cVar 0) (cInt 1)))
  (cSeq (cIf (cTest (cOp pEq (cVar 2) (cVar 3))) (cRet (cInt 0)) cNext)
  (cSeq (cSet 4 (cOp pMod (cOp pSub (cVar 2) (cStill (cCall (cCons (cVar 0) (cCons (cVar 1) cNil))))) (cVar 3)))
  (cRet (cIfE (cTest (cOp pGt (cVar 4) (cInt 0))) (cCb fMin2 (cCons (cVar 4) (cCons (cOp pSub (cVar 3) (cVar 4)) cNil))) (cInt 0)))))))))
theorem c_players_at (T : Txt K mg A) (W : WX) : CS K W A.adr (t_players_at K A W) r_players_at := by
  unfold t_players_at r_players_at
  exact (cSeq (cDrop (cStill (cCall (cCons (cVar 0) cNil))))
  (cSeq (cDrop (cStill (cCall (cCons (cVar 1) (cCons (cOp pSub (cVar 0) (cInt 1)) cNil)))))
  (cSeq (cDrop (cStill (cCall (cCons (cVar 2) (cCons (cOp pDiv (cVar 0) (cInt 2)) cNil)))))
  (cSeq (cSet 3 (cOp pSub (cVar 0) (cInt 1)))
  (cSeq (cSetO 4 (cCall (cCons (cVar 0) (cCons (cVar 1) cNil))))
  (cSeq (cIf (cTest (cOp pEq (cVar 2) (cInt 0))) (cF [4] (cRet (cTup (cCons (cVar 4) (cCons (cVar 3) cNil))))) cNext)
  (cF [4] (cRet (cCb fTuple (cCons (cStill (cSortI (cCons (cTup (cCons (cOp pMod (cOp pAdd (cVar 4) (cVar 2)) (cVar 3)) (cCons (cOp pMod (cOp pSub (cVar 4) (cVar 2)) (cVar 3)) cNil))) cNil))) cNil))))))))))
theorem c_plan (T : Txt K mg A) (W : WX) : CS K W A.adr (t_plan K A W) r_plan := by
  unfold t_plan r_plan
  exact (cSeq (cDrop (cStill (cCall (cCons (cVar 0) cNil))))
  (cSeq (cIf (cTest (cOp pGt (cVar 0) (cInt 100))) (cRaise0 .InvalidQuestion) cNext)
  (cRetO (cLc (wIRng1 (cCons (cOp pSub (cVar 0) (cInt 1)) cNil)) (gin_name (by simp)) (gNm 1) cYes (cStill (cLc (wIRng1 (cCons (cOp pDiv (cVar 0) (cInt 2)) cNil)) (gin_name (by simp)) (gNm 2) cYes (cStill (cCall (cCons (cVar 0) (cCons (cVar 1) (cCons (cVar 2) cNil)))))))))))
theorem c_law_row (T : Txt K mg A) (W : WX) : CS K W A.adr (t_law_row K A W) r_law_row := by
  unfold t_law_row r_law_row
  exact (cSeq (cSetO 2 (cLst cNil))
  (cSeq (cSet 3 (cCb fAbs (cCons (cVar 0) cNil)))
  (cSeq (cF [3] (cSet 4 (cOp pMod (cCb fInt (cCons (cOp pAdd (cOp pMul (cVar 3) (cInt 48271)) (cInt 69621)) cNil)) (cInt 2147483647))))
  (cSeq (cK [3, 4, 5] (cFor (wIRng1 (cCons (cVar 1) cNil)) (gNm 5) (cK [5] (cSeq (cSet 4 (cOp pMod (cCb fInt (cCons (cOp pAdd (cOp pMul (cVar 4) (cInt 16807)) (cOp pMul (cInt 271) (cOp pAdd (cVar 5) (cInt 3)))) cNil)) (cInt 2147483629)))
  (cIf (cTest (cOp pGe (cCb fAbs (cCons (cVar 0) cNil)) (cOp pPow (cInt 10) (cInt 18)))) (cSeq (cF [3] (cAppend 2 (cOp pMod (cCb fInt (cCons (cVar 3) cNil)) (cInt 1009))))
  (cF [3] (cSet 3 (cOp pDiv (cVar 3) (cInt 1009))))) (cAppend 2 (cOp pMod (cCb fInt (cCons (cOp pDiv (cVar 4) (cInt 7)) cNil)) (cInt 1009))))))))
  (cRetV 2)))))
theorem c_law_numbers (T : Txt K mg A) (W : WX) : CS K W A.adr (t_law_numbers K A W) r_law_numbers := by
  unfold t_law_numbers r_law_numbers
  exact (cSeq (cSet 2 (cSl sSlAny (cVar 0) cPN (cPS (cInt 63))))
  (cSeq (cSet 3 (cOp pAdd (cInt 1) (cOp pDiv (cVar 1) (cCb fMax2 (cCons (cInt 1) (cCons (cLenV 2) cNil))))))
  (cSeq (cSetO 4 (cLst cNil))
  (cSeq (cK [5, 6] (cFor (wISeq (cVar 2)) (gNm 5) (cK [5, 6] (cK [6] (cFor (wISeq (cStill (cCall (cCons (cVar 5) (cCons (cVar 3) cNil))))) (gNm 6) (cK [6] (cAppend 4 (cVar 6))))))))
  (cSeq (cWhile (cTest (cOp pLt (cLenV 4) (cVar 1))) (cAppend 4 (cInt 0)))
  (cF [4] (cRet (cSl sSlAny (cVar 4) cPN (cPS (cVar 1))))))))))
theorem c_law_pick (T : Txt K mg A) (W : WX) : CS K W A.adr (t_law_pick K A W) r_law_pick := by
  unfold t_law_pick r_law_pick
  exact (cRet (cOp pMod (cCb fInt (cCons (cIxV 0 (cVar 1)) cNil)) (cVar 2)))
theorem c_law (T : Txt K mg A) (W : WX) : CS K W A.adr (t_law K A W) r_law := by
  unfold t_law r_law
  exact (cSeq (cSetO 1 (cCall (cCons (cVar 0) (cCons (cInt 4) cNil))))
  (cSeq (cF [1] (cSet 2 (cOp pAdd (cInt 2) (cOp pMul (cInt 2) (cStill (cCall (cCons (cVar 1) (cCons (cInt 0) (cCons (cInt 15) cNil)))))))))
  (cSeq (cSet 3 (cOp pSub (cVar 2) (cInt 1)))
  (cSeq (cF [1] (cSetO 4 (cCall (cCons (cVar 1) (cCons (cInt 1) (cCons (cVar 3) cNil))))))
  (cSeq (cF [4] (cSet 5 (cOp pIx (cStill (cLc (wIRng1 (cCons (cVar 3) cNil)) (gin_name (by simp)) (gNm 10) (cTest (cOp pEq (cOp pMod (cCb fInt (cCons (cOp pSub (cOp pMul (cInt 2) (cVar 10)) (cVar 4)) cNil)) (cVar 3)) (cInt 0))) (cVar 10))) (cInt 0))))
  (cSeq (cSetO 6 (cLst (cCons (cTup (cCons (cVar 5) (cCons (cVar 3) cNil))) cNil)))
  (cSeq (cFor (wIRng2 (cCons (cInt 1) (cCons (cOp pDiv (cVar 2) (cInt 2)) cNil))) (gNm 7) (cAppend 6 (cCb fTuple (cCons (cStill (cSortI (cCons (cStill (cLst (cCons (cOp pMod (cCb fInt (cCons (cOp pAdd (cVar 5) (cVar 7)) cNil)) (cVar 3)) (cCons (cOp pMod (cCb fInt (cCons (cOp pSub (cVar 5) (cVar 7)) cNil)) (cVar 3)) cNil)))) cNil))) cNil))))
  (cSeq (cF [4] (cSetO 8 (cLc (wIRng1 (cCons (cOp pDiv (cVar 2) (cInt 2)) cNil)) (gin_name (by simp)) (gNm 7) cYes (cStill (cCall (cCons (cVar 2) (cCons (cVar 4) (cCons (cVar 7) cNil))))))))
  (cSeq (cK [11] (cF [6, 8] (cIf (cOr (cTest (cOp pNe (cVar 8) (cVar 6))) (cNot (cTru (cCb fAll (cCons (cStill (cLc (wISeq (cVar 8)) (gin_name (by simp)) (gNm 11) cYes (cIsi .tuple (ha := (cVar 11))))) cNil))))) (cRet (cBl false)) cNext)))
  (cSeq (cK [7] (cFor (wIRng1 (cCons (cOp pDiv (cVar 2) (cInt 2)) cNil)) (gNm 7) (cK [7] (cF [4] (cIf (cOr (cTest (cOp pNe (cStill (cCall (cCons (cVar 2) (cCons (cVar 4) (cCons (cOp pIx (cIxV 6 (cVar 7)) (cInt 0)) cNil))))) (cVar 7))) (cTest (cOp pNe (cStill (cCall (cCons (cVar 2) (cCons (cVar 4) (cCons (cOp pIx (cIxV 6 (cVar 7)) (cInt 1)) cNil))))) (cVar 7)))) (cRet (cBl false)) cNext)))))
  (cDeep 9 (cCons (cVar 2) cNil) (cOr (cNot (cTru (cIsi .list (ha := (cVar 9))))) (cOr (cTest (cOp pNe (cLenV 9) (cVar 3))) (cOr (cTest (cOp pNe (cIxV 9 (cVar 4)) (cVar 6))) (cNot (cTru (cIsi .list (ha := (cIxV 9 (cVar 4))))))))) (cRet (cBl false)) (cVar 4) (cStr "x") (cF [4, 6] (cRet (cOp pEq (cOp pIx (cStill (cCall (cCons (cVar 2) cNil))) (cVar 4)) (cVar 6)))))))))))))))
end
end K79

set_option pp.deepTerms false
set_option pp.maxSteps 400
set_option maxRecDepth 100000
set_option maxHeartbeats 4000000
namespace K79
open PySem PySem.Spec L2 DL

section
variable {P : Program} {w : World} {K : PySem.W.Frag} {mg : Str → Option Value} {base : Heap} {A : Ad}
theorem ok_check_players (T : TxtP P w K mg A) : FnOk P w K mg base (L2.CX P w) 1 A.f_check_players A.d_check_players ["players"] (sp_check_players K A) :=
  fn_wsM (ar := 1) (junk := []) (r := r_check_players) T.F_check_players sc_check_players rfl rfl (fun cdv Ao outer s H E hr => ⟨t_check_players K A (WD E), (pss_one (ps_if (PW.pt (pw_or (pt_not (pt_chain op_le op_le pe_int (pv 0) (pe_globI rfl T.c_MOST_PLAYERS))) (pw_or1 (pt_cmpR (op_neA hr.units) (pe_op op_mod (pv 0) pe_int) pe_int (by first | exact nomark _ | rfl))))) (pss_one (ps_raise rfl (takes_of rfl rfl rfl rfl) (pmk_own PySem.F.excBase_ValueError T.x_InvalidQuestion T.gC_InvalidQuestion T.k_InvalidQuestion (raises_own T.s_InvalidQuestion T.t_InvalidQuestion) (by exact rfl)))) pss_nil)), c_check_players T.toTxt (WD E)⟩)
theorem ok_check_below (T : TxtP P w K mg A) : FnOk P w K mg base (L2.CX P w) 1 A.f_check_below A.d_check_below ["value", "bound"] (sp_check_below K A) :=
  fn_wsM (ar := 2) (junk := []) (r := r_check_below) T.F_check_below sc_check_below rfl rfl (fun cdv Ao outer s H E hr => ⟨t_check_below K A (WD E), (pss_one (ps_if (pt_not (pt_chain op_le op_lt pe_int (pv 0) (pv 1))) (pss_one (ps_raise rfl (takes_of rfl rfl rfl rfl) (pmk_own PySem.F.excBase_ValueError T.x_InvalidQuestion T.gC_InvalidQuestion T.k_InvalidQuestion (raises_own T.s_InvalidQuestion T.t_InvalidQuestion) (by exact rfl)))) pss_nil)), c_check_below T.toTxt (WD E)⟩)
theorem ok_middle (T : TxtP P w K mg A) : FnOk P w K mg base (L2.CX P w) 1 A.f_middle A.d_middle ["players", "turn"] (sp_middle K A) :=
  fn_wsM (ar := 2) (junk := []) (r := r_middle) T.F_middle sc_middle rfl rfl (fun cdv Ao outer s H E hr => ⟨t_middle K A (WD E), (pss_one (ps_ret (pe_op op_mod (pe_op op_mulA (pv 1) (pe_op op_divA (pv 0) pe_int)) (pe_op op_sub (pv 0) pe_int)))), c_middle T.toTxt (WD E)⟩)
theorem ok_law_row (T : TxtP P w K mg A) : FnOk P w K mg base (L2.CX P w) 1 A.f_law_row A.d_law_row ["_law_cell", "_law_many"] (sp_law_row K A) :=
  fn_wsM (ar := 2) (junk := [.no, .no, .no, .no]) (r := r_law_row) T.F_law_row sc_law_row rfl rfl (fun cdv Ao outer s H E hr => ⟨t_law_row K A (WD E), (pss_cons (ps_set (i := 2) sc_law_row.nd rfl (Or.inl rfl) (pe_lst pa_nil))
    (pss_cons (ps_set (i := 3) sc_law_row.nd rfl (Or.inl rfl) (pe_callB call_abs (by rfl) T.z_abs (by decide +kernel) (pa_cons (pv 0) pa_nil)))
    (pss_cons (ps_set (i := 4) sc_law_row.nd rfl (Or.inl rfl) (pe_op op_mod (pe_callTy call_int1 (by rfl) T.z_int (by decide +kernel) (pa_cons (pe_op op_addA (pe_op op_mulA (pv 3) pe_int) pe_int) pa_nil)) pe_int))
    (pss_cons (ps_for (passes_of rfl) rfl (pi_range1 (by rfl) T.z_range (pa_cons (pv 1) pa_nil)) (pg_name (i := 5) sc_law_row.nd rfl (Or.inl rfl)) (pss_cons (ps_set (i := 4) sc_law_row.nd rfl (Or.inl rfl) (pe_op op_mod (pe_callTy call_int1 (by rfl) T.z_int (by decide +kernel) (pa_cons (pe_op op_addA (pe_op op_mulA (pv 4) pe_int) (pe_op op_mulA pe_int (pe_op op_addA (pv 5) pe_int))) pa_nil)) pe_int))
    (pss_one (ps_if (pt_cmpR op_ge (pe_callB call_abs (by rfl) T.z_abs (by decide +kernel) (pa_cons (pv 0) pa_nil)) (pe_op op_pow pe_int pe_int) (by first | exact nomark _ | rfl)) (pss_cons (ps_expr (pe_bm PySem.F.plainAttrs_list PySem.F.slot_list_append PySem.F.type_list_append mt_append (pv 2) (pa_cons (pe_op op_mod (pe_callTy call_int1 (by rfl) T.z_int (by decide +kernel) (pa_cons (pv 3) pa_nil)) pe_int) pa_nil)))
    (pss_one (ps_set (i := 3) sc_law_row.nd rfl (Or.inl rfl) (pe_op op_divA (pv 3) pe_int)))) (pss_one (ps_expr (pe_bm PySem.F.plainAttrs_list PySem.F.slot_list_append PySem.F.type_list_append mt_append (pv 2) (pa_cons (pe_op op_mod (pe_callTy call_int1 (by rfl) T.z_int (by decide +kernel) (pa_cons (pe_op op_divA (pv 4) pe_int) pa_nil)) pe_int) pa_nil))))))))
    (pss_one (ps_ret (pv 2))))))), c_law_row T.toTxt (WD E)⟩)
theorem ok_law_pick (T : TxtP P w K mg A) : FnOk P w K mg base (L2.CX P w) 1 A.f_law_pick A.d_law_pick ["_law_numbers_here", "_law_at", "_law_most"] (sp_law_pick K A) :=
  fn_wsM (ar := 3) (junk := []) (r := r_law_pick) T.F_law_pick sc_law_pick rfl rfl (fun cdv Ao outer s H E hr => ⟨t_law_pick K A (WD E), (pss_one (ps_ret (pe_op op_mod (pe_callTy call_int1 (by rfl) T.z_int (by decide +kernel) (pa_cons (pe_ix ix_seq (pv 0) (pv 1) (fun _ _ => rfl)) pa_nil)) (pv 2)))), c_law_pick T.toTxt (WD E)⟩)
theorem ok_place_of (T : TxtP P w K mg A) : FnOk P w K mg base (L2.CX P w) 2 A.f_place_of A.d_place_of ["players", "turn", "player"] (sp_place_of K A) :=
  fn_wsM (ar := 3) (junk := [.no, .no]) (r := r_place_of) T.F_place_of sc_place_of rfl rfl (fun cdv Ao outer s H E hr => ⟨t_place_of K A (WD E), (pss_cons (ps_expr (pe_callS (ok_check_players T) (hr.mono (by decide)) rfl T.g_check_players T.F_check_players.kp T.b_check_players (fun _ => passAt (takes_of rfl rfl rfl rfl) _) (pa_cons (pv 0) pa_nil)))
    (pss_cons (ps_expr (pe_callS (ok_check_below T) (hr.mono (by decide)) rfl T.g_check_below T.F_check_below.kp T.b_check_below (fun _ => passAt (takes_of rfl rfl rfl rfl) _) (pa_cons (pv 1) (pa_cons (pe_op op_sub (pv 0) pe_int) pa_nil))))
    (pss_cons (ps_expr (pe_callS (ok_check_below T) (hr.mono (by decide)) rfl T.g_check_below T.F_check_below.kp T.b_check_below (fun _ => passAt (takes_of rfl rfl rfl rfl) _) (pa_cons (pv 2) (pa_cons (pv 0) pa_nil))))
    (pss_cons (ps_set (i := 3) sc_place_of.nd rfl (Or.inl rfl) (pe_op op_sub (pv 0) pe_int))
    (pss_cons (ps_if (pt_cmpR (op_eqA hr.units) (pv 2) (pv 3) (by first | exact nomark _ | rfl)) (pss_one (ps_ret pe_int)) pss_nil)
    (pss_cons (ps_set (i := 4) sc_place_of.nd rfl (Or.inl rfl) (pe_op op_mod (pe_op op_sub (pv 2) (pe_callS (ok_middle T) (hr.mono (by decide)) rfl T.g_middle T.F_middle.kp T.b_middle (fun _ => passAt (takes_of rfl rfl rfl rfl) _) (pa_cons (pv 0) (pa_cons (pv 1) pa_nil)))) (pv 3)))
    (pss_one (ps_ret (pe_ifExp (pt_cmpR op_gt (pv 4) pe_int (by first | exact nomark _ | rfl)) (pe_callB (call_min2 rfl) (by rfl) T.z_min (by decide +kernel) (pa_cons (pv 4) (pa_cons (pe_op op_sub (pv 3) (pv 4)) pa_nil))) pe_int))))))))), c_place_of T.toTxt (WD E)⟩)
theorem ok_players_at (T : TxtP P w K mg A) : FnOk P w K mg base (L2.CX P w) 2 A.f_players_at A.d_players_at ["players", "turn", "place"] (sp_players_at K A) :=
  fn_wsM (ar := 3) (junk := [.no, .no]) (r := r_players_at) T.F_players_at sc_players_at rfl rfl (fun cdv Ao outer s H E hr => ⟨t_players_at K A (WD E), (pss_cons (ps_expr (pe_callS (ok_check_players T) (hr.mono (by decide)) rfl T.g_check_players T.F_check_players.kp T.b_check_players (fun _ => passAt (takes_of rfl rfl rfl rfl) _) (pa_cons (pv 0) pa_nil)))
    (pss_cons (ps_expr (pe_callS (ok_check_below T) (hr.mono (by decide)) rfl T.g_check_below T.F_check_below.kp T.b_check_below (fun _ => passAt (takes_of rfl rfl rfl rfl) _) (pa_cons (pv 1) (pa_cons (pe_op op_sub (pv 0) pe_int) pa_nil))))
    (pss_cons (ps_expr (pe_callS (ok_check_below T) (hr.mono (by decide)) rfl T.g_check_below T.F_check_below.kp T.b_check_below (fun _ => passAt (takes_of rfl rfl rfl rfl) _) (pa_cons (pv 2) (pa_cons (pe_op op_divA (pv 0) pe_int) pa_nil))))
    (pss_cons (ps_set (i := 3) sc_players_at.nd rfl (Or.inl rfl) (pe_op op_sub (pv 0) pe_int))
    (pss_cons (ps_set (i := 4) sc_players_at.nd rfl (Or.inl rfl) (pe_callS (ok_middle T) (hr.mono (by decide)) rfl T.g_middle T.F_middle.kp T.b_middle (fun _ => passAt (takes_of rfl rfl rfl rfl) _) (pa_cons (pv 0) (pa_cons (pv 1) pa_nil))))
    (pss_cons (ps_if (pt_cmpR (op_eqA hr.units) (pv 2) pe_int (by first | exact nomark _ | rfl)) (pss_one (ps_ret (pe_tup (pa_cons (pv 4) (pa_cons (pv 3) pa_nil))))) pss_nil)
    (pss_one (ps_ret (pe_callTy call_tuple_of (by rfl) T.z_tuple (by decide +kernel) (pa_cons (pe_callB cr_sortedA (by rfl) T.z_sorted (by decide +kernel) (pa_cons (pe_tup (pa_cons (pe_op op_mod (pe_op op_addA (pv 4) (pv 2)) (pv 3)) (pa_cons (pe_op op_mod (pe_op op_sub (pv 4) (pv 2)) (pv 3)) pa_nil))) pa_nil)) pa_nil)))))))))), c_players_at T.toTxt (WD E)⟩)
theorem ok_law_numbers (T : TxtP P w K mg A) : FnOk P w K mg base (L2.CX P w) 2 A.f_law_numbers A.d_law_numbers ["_law_script", "_law_many"] (sp_law_numbers K A) :=
  fn_wsM (ar := 2) (junk := [.no, .no, .no, .no, .no]) (r := r_law_numbers) T.F_law_numbers sc_law_numbers rfl rfl (fun cdv Ao outer s H E hr => ⟨t_law_numbers K A (WD E), (pss_cons (ps_set (i := 2) sc_law_numbers.nd rfl (Or.inl rfl) (pe_slice sl_any (pv 0) po_none (po_some pe_int)))
    (pss_cons (ps_set (i := 3) sc_law_numbers.nd rfl (Or.inl rfl) (pe_op op_addA pe_int (pe_op op_divA (pv 1) (pe_callB (call_max2 rfl) (by rfl) T.z_max (by decide +kernel) (pa_cons pe_int (pa_cons (pe_callB call_len (by rfl) T.z_len (by decide +kernel) (pa_cons (pv 2) pa_nil)) pa_nil))))))
    (pss_cons (ps_set (i := 4) sc_law_numbers.nd rfl (Or.inl rfl) (pe_lst pa_nil))
    (pss_cons (ps_for (passes_of rfl) rfl (pi_seq (pv 2)) (pg_name (i := 5) sc_law_numbers.nd rfl (Or.inl rfl)) (pss_one (ps_for (passes_of rfl) rfl (pi_seq (pe_callS (ok_law_row T) (hr.mono (by decide)) rfl T.g_law_row T.F_law_row.kp T.b_law_row (fun _ => passAt (takes_of rfl rfl rfl rfl) _) (pa_cons (pv 5) (pa_cons (pv 3) pa_nil)))) (pg_name (i := 6) sc_law_numbers.nd rfl (Or.inl rfl)) (pss_one (ps_expr (pe_bm PySem.F.plainAttrs_list PySem.F.slot_list_append PySem.F.type_list_append mt_append (pv 4) (pa_cons (pv 6) pa_nil)))))))
    (pss_cons (ps_while (passes_of rfl) (pt_cmpR op_lt (pe_callB call_len (by rfl) T.z_len (by decide +kernel) (pa_cons (pv 4) pa_nil)) (pv 1) (by first | exact nomark _ | rfl)) (pss_one (ps_expr (pe_bm PySem.F.plainAttrs_list PySem.F.slot_list_append PySem.F.type_list_append mt_append (pv 4) (pa_cons pe_int pa_nil)))))
    (pss_one (ps_ret (pe_slice sl_any (pv 4) po_none (po_some (pv 1)))))))))), c_law_numbers T.toTxt (WD E)⟩)
theorem ok_plan (T : TxtP P w K mg A) : FnOk P w K mg base (L2.CX P w) 3 A.f_plan A.d_plan ["players"] (sp_plan K A) :=
  fn_wsM (ar := 1) (junk := [.no, .no]) (r := r_plan) T.F_plan sc_plan rfl rfl (fun cdv Ao outer s H E hr => ⟨t_plan K A (WD E), (pss_cons (ps_expr (pe_callS (ok_check_players T) (hr.mono (by decide)) rfl T.g_check_players T.F_check_players.kp T.b_check_players (fun _ => passAt (takes_of rfl rfl rfl rfl) _) (pa_cons (pv 0) pa_nil)))
    (pss_cons (ps_if (pt_cmpR op_gt (pv 0) (pe_globI rfl T.c_MOST_PLAN) (by first | exact nomark _ | rfl)) (pss_one (ps_raise rfl (takes_of rfl rfl rfl rfl) (pmk_own PySem.F.excBase_ValueError T.x_InvalidQuestion T.gC_InvalidQuestion T.k_InvalidQuestion (raises_own T.s_InvalidQuestion T.t_InvalidQuestion) (by exact rfl)))) pss_nil)
    (pss_one (ps_ret (pe_lc (own := [("turn", 1)]) (g := (gName 1)) rfl sc_plan.nd (pi_range1 (by rfl) T.z_range (pa_cons (pe_op op_sub (pv 0) pe_int) pa_nil)) (blkOk_by (own := [("turn", 1)]) (N := ["players", "turn", "place"]) (sc := defScope s_plan) (by decide +kernel)) (fun _ _ _ _ _ => (pg_name (i := 1) sc_plan.nd rfl (Or.inr rfl))) (fun _ _ _ _ _ => pts_nil) (fun _ _ _ _ _ => (pe_lc (own := [("place", 2)]) (g := (gName 2)) rfl sc_plan.nd (pi_range1 (by rfl) T.z_range (pa_cons (pe_op op_divA (pv 0) pe_int) pa_nil)) (blkOk_by (own := [("place", 2)]) (N := ["players", "turn", "place"])  (by kernel_rfl)) (fun _ _ _ _ _ => (pg_name (i := 2) sc_plan.nd rfl (Or.inl rfl))) (fun _ _ _ _ _ => pts_nil) (fun _ _ _ _ _ => (pe_callS (ok_players_at T) (hr.mono (by decide)) rfl T.g_players_at T.F_players_at.kp T.b_players_at (fun _ => passAt takes0 _) (pa_cons (pv 0) (pa_cons (pv 1) (pa_cons (pv 2) pa_nil)))))))))))), c_plan T.toTxt (WD E)⟩)
theorem ok_law (T : TxtP P w K mg A) : FnOk P w K mg base (L2.CX P w) 4 A.f_law A.d_law ["_law_script"] (spD K (fun ds => ∃ ns : List Int, ds = [.src ns] ∧ ns.length ≤ 63) (fun _ s => s = .dat (.bl true)) (fun _ _ => False)) :=
  fn_wsLaw (ar := 1) (junk := [.no, .no, .no, .no, .no, .no, .no, .no, .no, .no, .no]) (r := r_law) T.F_law sc_law rfl rfl rfl law_ok (fun cdv Ao outer s H E hr => ⟨t_law K A (WD E), (pss_cons (ps_set (i := 1) sc_law.nd rfl (Or.inl rfl) (pe_callS (ok_law_numbers T) (hr.mono (by decide)) rfl T.g_law_numbers T.F_law_numbers.kp T.b_law_numbers (fun _ => passAt (takes_of rfl rfl rfl rfl) _) (pa_cons (pv 0) (pa_cons pe_int pa_nil))))
    (pss_cons (ps_set (i := 2) sc_law.nd rfl (Or.inr rfl) (pe_op op_addA pe_int (pe_op op_mulA pe_int (pe_callS (ok_law_pick T) (hr.mono (by decide)) rfl T.g_law_pick T.F_law_pick.kp T.b_law_pick (fun _ => passAt (takes_of rfl rfl rfl rfl) _) (pa_cons (pv 1) (pa_cons pe_int (pa_cons pe_int pa_nil)))))))
    (pss_cons (ps_set (i := 3) sc_law.nd rfl (Or.inr rfl) (pe_op op_sub (pv 2) pe_int))
    (pss_cons (ps_set (i := 4) sc_law.nd rfl (Or.inr rfl) (pe_callS (ok_law_pick T) (hr.mono (by decide)) rfl T.g_law_pick T.F_law_pick.kp T.b_law_pick (fun _ => passAt (takes_of rfl rfl rfl rfl) _) (pa_cons (pv 1) (pa_cons pe_int (pa_cons (pv 3) pa_nil)))))
    (pss_cons (ps_set (i := 5) sc_law.nd rfl (Or.inl rfl) (pe_ix ix_seq (pe_lc (own := [("_law_one", 10)]) (g := (gName 10)) rfl sc_law.nd (pi_range1 (by rfl) T.z_range (pa_cons (pv 3) pa_nil)) (blkOk_by (own := [("_law_one", 10)]) (N := ["_law_script", "_law_numbers_here", "_law_players", "_law_last", "_law_turn", "_law_middle", "_law_due", "_law_place", "_law_found", "_law_told", "_law_one", "_law_pair"]) (sc := defScope s_law) (by decide +kernel)) (fun _ _ _ _ _ => (pg_name (i := 10) sc_law.nd rfl (Or.inl rfl))) (fun _ _ _ _ _ => (pts_one (pt_cmpR (op_eqA hr.units) (pe_op op_mod (pe_callTy call_int1 (by rfl) T.z_int (by decide +kernel) (pa_cons (pe_op op_sub (pe_op op_mulA pe_int (pv 10)) (pv 4)) pa_nil)) (pv 3)) pe_int (by first | exact nomark _ | rfl)))) (fun _ _ _ _ _ => (pv 10))) pe_int (fun _ _ => rfl)))
    (pss_cons (ps_set (i := 6) sc_law.nd rfl (Or.inl rfl) (pe_lst (pa_cons (pe_tup (pa_cons (pv 5) (pa_cons (pv 3) pa_nil))) pa_nil)))
    (pss_cons (ps_for (passes_of rfl) rfl (pi_range2 (by rfl) T.z_range (pa_cons pe_int (pa_cons (pe_op op_divA (pv 2) pe_int) pa_nil))) (pg_name (i := 7) sc_law.nd rfl (Or.inl rfl)) (pss_one (ps_expr (pe_bm PySem.F.plainAttrs_list PySem.F.slot_list_append PySem.F.type_list_append mt_append (pv 6) (pa_cons (pe_callTy call_tuple_of (by rfl) T.z_tuple (by decide +kernel) (pa_cons (pe_callB cr_sortedA (by rfl) T.z_sorted (by decide +kernel) (pa_cons (pe_lst (pa_cons (pe_op op_mod (pe_callTy call_int1 (by rfl) T.z_int (by decide +kernel) (pa_cons (pe_op op_addA (pv 5) (pv 7)) pa_nil)) (pv 3)) (pa_cons (pe_op op_mod (pe_callTy call_int1 (by rfl) T.z_int (by decide +kernel) (pa_cons (pe_op op_sub (pv 5) (pv 7)) pa_nil)) (pv 3)) pa_nil))) pa_nil)) pa_nil)) pa_nil)))))
    (pss_cons (ps_setLc (i := 8) (own := [("_law_place", 7)]) (g := (gName 7)) (by rfl) sc_law.nd rfl rfl (sw_true rfl rfl rfl (by decide +kernel)) (pi_range1 (by rfl) T.z_range (pa_cons (pe_op op_divA (pv 2) pe_int) pa_nil)) (blkOk_by (own := [("_law_place", 7)]) (N := ["_law_script", "_law_numbers_here", "_law_players", "_law_last", "_law_turn", "_law_middle", "_law_due", "_law_place", "_law_found", "_law_told", "_law_one", "_law_pair"]) (sc := defScope s_law) (by decide +kernel)) (fun _ _ _ _ _ => (pg_name (i := 7) sc_law.nd rfl (Or.inl rfl))) (fun _ _ _ _ _ => pts_nil) (fun _ _ _ _ _ => (pe_callS (ok_players_at T) (hr.mono (by decide)) rfl T.g_players_at T.F_players_at.kp T.b_players_at (fun _ => passAt takes0 _) (pa_cons (pv 2) (pa_cons (pv 4) (pa_cons (pv 7) pa_nil))))))
    (pss_cons (ps_if (PW.pt (pw_or (pt_cmpR (op_neA hr.units) (pv 8) (pv 6) (by first | exact nomark _ | rfl)) (pw_or1 (pt_not (pt_truth (pe_callB (cr_all rfl) (by rfl) T.z_all (by decide +kernel) (pa_cons (pe_lc (own := [("_law_pair", 11)]) (g := (gName 11)) rfl sc_law.nd (pi_seq (pv 8)) (blkOk_by (own := [("_law_pair", 11)]) (N := ["_law_script", "_law_numbers_here", "_law_players", "_law_last", "_law_turn", "_law_middle", "_law_due", "_law_place", "_law_found", "_law_told", "_law_one", "_law_pair"]) (sc := defScope s_law) (by decide +kernel)) (fun _ _ _ _ _ => (pg_name (i := 11) sc_law.nd rfl (Or.inl rfl))) (fun _ _ _ _ _ => pts_nil) (fun _ _ _ _ _ => (pe_callB call_isi (by rfl) T.z_isinstance (by decide +kernel) (pa_cons (pv 11) (pa_cons (pe_bltn (by rfl) T.z_tuple (by decide +kernel) rfl) pa_nil))))) pa_nil)) (by intro _; rfl)))))) (pss_one (ps_ret pe_bl)) pss_nil)
    (pss_cons (ps_for (passes_of rfl) rfl (pi_range1 (by rfl) T.z_range (pa_cons (pe_op op_divA (pv 2) pe_int) pa_nil)) (pg_name (i := 7) sc_law.nd rfl (Or.inl rfl)) (pss_one (ps_if (PW.pt (pw_or (pt_cmpR (op_neA hr.units) (pe_callS (ok_place_of T) (hr.mono (by decide)) rfl T.g_place_of T.F_place_of.kp T.b_place_of (fun _ => passAt (takes_of rfl rfl rfl rfl) _) (pa_cons (pv 2) (pa_cons (pv 4) (pa_cons (pe_ix ix_seq (pe_ix ix_seq (pv 6) (pv 7) (fun _ _ => rfl)) pe_int (fun _ _ => rfl)) pa_nil)))) (pv 7) (by first | exact nomark _ | rfl)) (pw_or1 (pt_cmpR (op_neA hr.units) (pe_callS (ok_place_of T) (hr.mono (by decide)) rfl T.g_place_of T.F_place_of.kp T.b_place_of (fun _ => passAt (takes_of rfl rfl rfl rfl) _) (pa_cons (pv 2) (pa_cons (pv 4) (pa_cons (pe_ix ix_seq (pe_ix ix_seq (pv 6) (pv 7) (fun _ _ => rfl)) pe_int (fun _ _ => rfl)) pa_nil)))) (pv 7) (by first | exact nomark _ | rfl))))) (pss_one (ps_ret pe_bl)) pss_nil)))
    (pss_cons (ps_set (i := 9) sc_law.nd rfl (Or.inl rfl) (pe_callS (ok_plan T) (hr.mono (by decide)) rfl T.g_plan T.F_plan.kp T.b_plan (fun _ => passAt (takes_of rfl rfl rfl rfl) _) (pa_cons (pv 2) pa_nil)))
    (pss_cons (ps_if (PW.pt (pw_or (pt_not (pt_truth (pe_callB call_isi (by rfl) T.z_isinstance (by decide +kernel) (pa_cons (pv 9) (pa_cons (pe_bltn (by rfl) T.z_list (by decide +kernel) rfl) pa_nil))) (by intro _; rfl))) (pw_or (pt_cmpR (op_neA hr.units) (pe_callB call_len (by rfl) T.z_len (by decide +kernel) (pa_cons (pv 9) pa_nil)) (pv 3) (by first | exact nomark _ | rfl)) (pw_or (pt_cmpR (op_neA hr.units) (pe_ix ix_seq (pv 9) (pv 4) (fun _ _ => rfl)) (pv 6) (by first | exact nomark _ | rfl)) (pw_or1 (pt_not (pt_truth (pe_callB call_isi (by rfl) T.z_isinstance (by decide +kernel) (pa_cons (pe_ix ix_seq (pv 9) (pv 4) (fun _ _ => rfl)) (pa_cons (pe_bltn (by rfl) T.z_list (by decide +kernel) rfl) pa_nil))) (by intro _; rfl)))))))) (pss_one (ps_ret pe_bl)) pss_nil)
    (pss_cons (ps_expr (pe_bm PySem.F.plainAttrs_list PySem.F.slot_list_append PySem.F.type_list_append mt_append (pe_ix ix_seq (pv 9) (pv 4) (fun _ _ => rfl)) (pa_cons pe_str pa_nil)))
    (pss_one (ps_ret (pe_cmpR (op_eqA hr.units) (pe_ix ix_seq (pe_callS (ok_plan T) (hr.mono (by decide)) rfl T.g_plan T.F_plan.kp T.b_plan (fun _ => passAt (takes_of rfl rfl rfl rfl) _) (pa_cons (pv 2) pa_nil)) (pv 4) (fun _ _ => rfl)) (pv 6) (by first | exact nomark _ | rfl))))))))))))))))), c_law T.toTxt (WD E)⟩)
end
theorem all_mk {l : PySem.W.OpenLaw} {w : World} {K : PySem.W.Frag} {h : Heap} {mg : Str → Option Value} {fa : Addr} (X : K.In h) (G : h.Ns mainGlobals mg) (hfa : mg "law" = some (.ref fa))
    {f1 : Addr} {od1 an1 : Option Addr} {sl1 : Array (Option Value)} {oc1 kV1 dc1 pm1 cd1 ct1 : Value}
    {f2 : Addr} {od2 an2 : Option Addr} {sl2 : Array (Option Value)} {oc2 kV2 dc2 pm2 cd2 ct2 : Value}
    {f3 : Addr} {od3 an3 : Option Addr} {sl3 : Array (Option Value)} {oc3 kV3 dc3 pm3 cd3 ct3 : Value}
    {f4 : Addr} {od4 an4 : Option Addr} {sl4 : Array (Option Value)} {oc4 kV4 dc4 pm4 cd4 ct4 : Value}
    {f5 : Addr} {od5 an5 : Option Addr} {sl5 : Array (Option Value)} {oc5 kV5 dc5 pm5 cd5 ct5 : Value}
    {f6 : Addr} {od6 an6 : Option Addr} {sl6 : Array (Option Value)} {oc6 kV6 dc6 pm6 cd6 ct6 : Value}
    {f7 : Addr} {od7 an7 : Option Addr} {sl7 : Array (Option Value)} {oc7 kV7 dc7 pm7 cd7 ct7 : Value}
    {f8 : Addr} {od8 an8 : Option Addr} {sl8 : Array (Option Value)} {oc8 kV8 dc8 pm8 cd8 ct8 : Value}
    {f9 : Addr} {od9 an9 : Option Addr} {sl9 : Array (Option Value)} {oc9 kV9 dc9 pm9 cd9 ct9 : Value}
    {f10 : Addr} {od10 an10 : Option Addr} {sl10 : Array (Option Value)} {oc10 kV10 dc10 pm10 cd10 ct10 : Value}
    {tk_MOST_PLAN : Tok}
    {tk_MOST_PLAYERS : Tok}
    {C_InvalidQuestion : Addr}
    (a1 : PySem.W.nsIn K mainGlobals "check_players" = some (some (.ref f1)))
    (l1 : K.lookup f1 = some ⟨oc1, od1, .func (PySem.W.fnOf "check_players" "check_players" (defArgs s_check_players) (defBody s_check_players) (defScope s_check_players) .none kV1 dc1 pm1 an1 cd1 ct1), sl1⟩)
    (c1 : PySem.W.codeIn K cd1 "check_players" = true)
    (k1 : PySem.W.keepIn K (.ref f1) = true)
    (a2 : PySem.W.nsIn K mainGlobals "check_below" = some (some (.ref f2)))
    (l2 : K.lookup f2 = some ⟨oc2, od2, .func (PySem.W.fnOf "check_below" "check_below" (defArgs s_check_below) (defBody s_check_below) (defScope s_check_below) .none kV2 dc2 pm2 an2 cd2 ct2), sl2⟩)
    (c2 : PySem.W.codeIn K cd2 "check_below" = true)
    (k2 : PySem.W.keepIn K (.ref f2) = true)
    (a3 : PySem.W.nsIn K mainGlobals "middle" = some (some (.ref f3)))
    (l3 : K.lookup f3 = some ⟨oc3, od3, .func (PySem.W.fnOf "middle" "middle" (defArgs s_middle) (defBody s_middle) (defScope s_middle) .none kV3 dc3 pm3 an3 cd3 ct3), sl3⟩)
    (c3 : PySem.W.codeIn K cd3 "middle" = true)
    (k3 : PySem.W.keepIn K (.ref f3) = true)
    (a4 : PySem.W.nsIn K mainGlobals "place_of" = some (some (.ref f4)))
    (l4 : K.lookup f4 = some ⟨oc4, od4, .func (PySem.W.fnOf "place_of" "place_of" (defArgs s_place_of) (defBody s_place_of) (defScope s_place_of) .none kV4 dc4 pm4 an4 cd4 ct4), sl4⟩)
    (c4 : PySem.W.codeIn K cd4 "place_of" = true)
    (k4 : PySem.W.keepIn K (.ref f4) = true)
    (a5 : PySem.W.nsIn K mainGlobals "players_at" = some (some (.ref f5)))
    (l5 : K.lookup f5 = some ⟨oc5, od5, .func (PySem.W.fnOf "players_at" "players_at" (defArgs s_players_at) (defBody s_players_at) (defScope s_players_at) .none kV5 dc5 pm5 an5 cd5 ct5), sl5⟩)
    (c5 : PySem.W.codeIn K cd5 "players_at" = true)
    (k5 : PySem.W.keepIn K (.ref f5) = true)
    (a6 : PySem.W.nsIn K mainGlobals "plan" = some (some (.ref f6)))
    (l6 : K.lookup f6 = some ⟨oc6, od6, .func (PySem.W.fnOf "plan" "plan" (defArgs s_plan) (defBody s_plan) (defScope s_plan) .none kV6 dc6 pm6 an6 cd6 ct6), sl6⟩)
    (c6 : PySem.W.codeIn K cd6 "plan" = true)
    (k6 : PySem.W.keepIn K (.ref f6) = true)
    (a7 : PySem.W.nsIn K mainGlobals "_law_row" = some (some (.ref f7)))
    (l7 : K.lookup f7 = some ⟨oc7, od7, .func (PySem.W.fnOf "_law_row" "_law_row" (defArgs s_law_row) (defBody s_law_row) (defScope s_law_row) .none kV7 dc7 pm7 an7 cd7 ct7), sl7⟩)
    (c7 : PySem.W.codeIn K cd7 "_law_row" = true)
    (k7 : PySem.W.keepIn K (.ref f7) = true)
    (a8 : PySem.W.nsIn K mainGlobals "_law_numbers" = some (some (.ref f8)))
    (l8 : K.lookup f8 = some ⟨oc8, od8, .func (PySem.W.fnOf "_law_numbers" "_law_numbers" (defArgs s_law_numbers) (defBody s_law_numbers) (defScope s_law_numbers) .none kV8 dc8 pm8 an8 cd8 ct8), sl8⟩)
    (c8 : PySem.W.codeIn K cd8 "_law_numbers" = true)
    (k8 : PySem.W.keepIn K (.ref f8) = true)
    (a9 : PySem.W.nsIn K mainGlobals "_law_pick" = some (some (.ref f9)))
    (l9 : K.lookup f9 = some ⟨oc9, od9, .func (PySem.W.fnOf "_law_pick" "_law_pick" (defArgs s_law_pick) (defBody s_law_pick) (defScope s_law_pick) .none kV9 dc9 pm9 an9 cd9 ct9), sl9⟩)
    (c9 : PySem.W.codeIn K cd9 "_law_pick" = true)
    (k9 : PySem.W.keepIn K (.ref f9) = true)
    (a10 : PySem.W.nsIn K mainGlobals "law" = some (some (.ref f10)))
    (l10 : K.lookup f10 = some ⟨oc10, od10, .func (PySem.W.fnOf "law" "law" (defArgs s_law) (defBody s_law) (defScope s_law) .none kV10 dc10 pm10 an10 cd10 ct10), sl10⟩)
    (c10 : PySem.W.codeIn K cd10 "law" = true)
    (k10 : PySem.W.keepIn K (.ref f10) = true)
    (z_abs : PySem.W.nsIn K mainGlobals "abs" = some none)
    (z_all : PySem.W.nsIn K mainGlobals "all" = some none)
    (z_int : PySem.W.nsIn K mainGlobals "int" = some none)
    (z_isinstance : PySem.W.nsIn K mainGlobals "isinstance" = some none)
    (z_len : PySem.W.nsIn K mainGlobals "len" = some none)
    (z_list : PySem.W.nsIn K mainGlobals "list" = some none)
    (z_max : PySem.W.nsIn K mainGlobals "max" = some none)
    (z_min : PySem.W.nsIn K mainGlobals "min" = some none)
    (z_range : PySem.W.nsIn K mainGlobals "range" = some none)
    (z_sorted : PySem.W.nsIn K mainGlobals "sorted" = some none)
    (z_tuple : PySem.W.nsIn K mainGlobals "tuple" = some none)
    (v_MOST_PLAN : PySem.W.nsIn K mainGlobals "MOST_PLAN" = some (some (.int 100 tk_MOST_PLAN)))
    (v_MOST_PLAYERS : PySem.W.nsIn K mainGlobals "MOST_PLAYERS" = some (some (.int 1000000000000000000000000000000 tk_MOST_PLAYERS)))
    (aC_InvalidQuestion : PySem.W.nsIn K mainGlobals "InvalidQuestion" = some (some (.ref C_InvalidQuestion)))
    (k_InvalidQuestion : PySem.W.keepIn K (.ref C_InvalidQuestion) = true)
    (s_InvalidQuestion : PySem.W.subIn K (.ref C_InvalidQuestion) (.type "BaseException") = some true)
    (t_InvalidQuestion : PySem.W.typeIn K (.ref C_InvalidQuestion) = some (.type "type"))
    (h_InvalidQuestion : PySem.W.hasDictIn K C_InvalidQuestion = true)
    (x_InvalidQuestion : PySem.W.excIn K C_InvalidQuestion [.type "ValueError", .type "Exception", .type "BaseException", .type "object"] "ValueError.__new__" = true) :
    ∃ fd : FuncData, (∀ (s : Shared) (v : Value), BindsTo s fd ⟨[v], []⟩ [("_law_script", v)]) ∧ ∀ base : Heap, K.In base → base.Ns mainGlobals mg → FnOk l.prog w K mg base (L2.CX l.prog w) 4 fa fd ["_law_script"] (spD K (fun ds => ∃ ns : List Int, ds = [.src ns] ∧ ns.length ≤ 63) (fun _ s => s = .dat (.bl true)) (fun _ _ => False)) := by
  have e := hfa.symm.trans (PySem.W.mg_of X G a10)
  cases e
  have F1 := fun_mk (st := s_check_players) l1 c1 k1
  have b1 := F1.binds (ps := ["players"]) fun _ _ _ _ _ _ us hl => match us, hl with | [_], _ => rfl
  have F2 := fun_mk (st := s_check_below) l2 c2 k2
  have b2 := F2.binds (ps := ["value", "bound"]) fun _ _ _ _ _ _ us hl => match us, hl with | [_, _], _ => rfl
  have F3 := fun_mk (st := s_middle) l3 c3 k3
  have b3 := F3.binds (ps := ["players", "turn"]) fun _ _ _ _ _ _ us hl => match us, hl with | [_, _], _ => rfl
  have F4 := fun_mk (st := s_place_of) l4 c4 k4
  have b4 := F4.binds (ps := ["players", "turn", "player"]) fun _ _ _ _ _ _ us hl => match us, hl with | [_, _, _], _ => rfl
  have F5 := fun_mk (st := s_players_at) l5 c5 k5
  have b5 := F5.binds (ps := ["players", "turn", "place"]) fun _ _ _ _ _ _ us hl => match us, hl with | [_, _, _], _ => rfl
  have F6 := fun_mk (st := s_plan) l6 c6 k6
  have b6 := F6.binds (ps := ["players"]) fun _ _ _ _ _ _ us hl => match us, hl with | [_], _ => rfl
  have F7 := fun_mk (st := s_law_row) l7 c7 k7
  have b7 := F7.binds (ps := ["_law_cell", "_law_many"]) fun _ _ _ _ _ _ us hl => match us, hl with | [_, _], _ => rfl
  have F8 := fun_mk (st := s_law_numbers) l8 c8 k8
  have b8 := F8.binds (ps := ["_law_script", "_law_many"]) fun _ _ _ _ _ _ us hl => match us, hl with | [_, _], _ => rfl
  have F9 := fun_mk (st := s_law_pick) l9 c9 k9
  have b9 := F9.binds (ps := ["_law_numbers_here", "_law_at", "_law_most"]) fun _ _ _ _ _ _ us hl => match us, hl with | [_, _, _], _ => rfl
  have F10 := fun_mk (st := s_law) l10 c10 k10
  have b10 := F10.binds (ps := ["_law_script"]) fun _ _ _ _ _ _ us hl => match us, hl with | [_], _ => rfl
  have T : Txt K mg { f_check_players := f1, d_check_players := _, f_check_below := f2, d_check_below := _, f_middle := f3, d_middle := _, f_place_of := f4, d_place_of := _, f_players_at := f5, d_players_at := _, f_plan := f6, d_plan := _, f_law_row := f7, d_law_row := _, f_law_numbers := f8, d_law_numbers := _, f_law_pick := f9, d_law_pick := _, f_law := fa, d_law := _, c_InvalidQuestion := C_InvalidQuestion } := { F_check_players := F1, g_check_players := PySem.W.mg_of X G a1, b_check_players := b1, F_check_below := F2, g_check_below := PySem.W.mg_of X G a2, b_check_below := b2, F_middle := F3, g_middle := PySem.W.mg_of X G a3, b_middle := b3, F_place_of := F4, g_place_of := PySem.W.mg_of X G a4, b_place_of := b4, F_players_at := F5, g_players_at := PySem.W.mg_of X G a5, b_players_at := b5, F_plan := F6, g_plan := PySem.W.mg_of X G a6, b_plan := b6, F_law_row := F7, g_law_row := PySem.W.mg_of X G a7, b_law_row := b7, F_law_numbers := F8, g_law_numbers := PySem.W.mg_of X G a8, b_law_numbers := b8, F_law_pick := F9, g_law_pick := PySem.W.mg_of X G a9, b_law_pick := b9, F_law := F10, g_law := PySem.W.mg_of X G a10, b_law := b10, z_abs := PySem.W.mg_none_of X G z_abs, z_all := PySem.W.mg_none_of X G z_all, z_int := PySem.W.mg_none_of X G z_int, z_isinstance := PySem.W.mg_none_of X G z_isinstance, z_len := PySem.W.mg_none_of X G z_len, z_list := PySem.W.mg_none_of X G z_list, z_max := PySem.W.mg_none_of X G z_max, z_min := PySem.W.mg_none_of X G z_min, z_range := PySem.W.mg_none_of X G z_range, z_sorted := PySem.W.mg_none_of X G z_sorted, z_tuple := PySem.W.mg_none_of X G z_tuple, c_MOST_PLAN := ⟨_, PySem.W.mg_of X G v_MOST_PLAN⟩, c_MOST_PLAYERS := ⟨_, PySem.W.mg_of X G v_MOST_PLAYERS⟩, gC_InvalidQuestion := PySem.W.mg_of X G aC_InvalidQuestion, k_InvalidQuestion := k_InvalidQuestion, s_InvalidQuestion := s_InvalidQuestion, t_InvalidQuestion := t_InvalidQuestion, h_InvalidQuestion := h_InvalidQuestion, x_InvalidQuestion := x_InvalidQuestion }
  have TP : TxtP l.prog w K mg { f_check_players := f1, d_check_players := _, f_check_below := f2, d_check_below := _, f_middle := f3, d_middle := _, f_place_of := f4, d_place_of := _, f_players_at := f5, d_players_at := _, f_plan := f6, d_plan := _, f_law_row := f7, d_law_row := _, f_law_numbers := f8, d_law_numbers := _, f_law_pick := f9, d_law_pick := _, f_law := fa, d_law := _, c_InvalidQuestion := C_InvalidQuestion } := { T with }
  exact ⟨_, fun s v => .of_eq rfl, fun base _ _ => ok_law TP⟩
end K79
open PySem PySem.W PyProof.Rows
set_option maxRecDepth 100000 in
set_option maxHeartbeats 0 in
theorem PySem.Challenge.cw_paironce_k79_places_holds : PySem.Challenge.rw_paironce_k79_places.Holds := by
  w_on; o_law; k_head; (case hw => w_witness2)
  k_fill
  refine DL.walkD (l := PySem.Challenge.rw_paironce_k79_places) (k := 4) (x := "_law_script") rfl rfl ⟨rfl, by decide, by decide⟩ (fun w h Y => PySem.W.kIn_of Y) ?F
  case F =>
    intro w mg fa h KX G hmg
    refine' K79.all_mk KX G hmg ?a1 ?l1 ?c1 ?k1 ?a2 ?l2 ?c2 ?k2 ?a3 ?l3 ?c3 ?k3 ?a4 ?l4 ?c4 ?k4 ?a5 ?l5 ?c5 ?k5 ?a6 ?l6 ?c6 ?k6 ?a7 ?l7 ?c7 ?k7 ?a8 ?l8 ?c8 ?k8 ?a9 ?l9 ?c9 ?k9 ?a10 ?l10 ?c10 ?k10 ?z_abs ?z_all ?z_int ?z_isinstance ?z_len ?z_list ?z_max ?z_min ?z_range ?z_sorted ?z_tuple ?v_MOST_PLAN ?v_MOST_PLAYERS ?aC_InvalidQuestion ?k_InvalidQuestion ?s_InvalidQuestion ?t_InvalidQuestion ?h_InvalidQuestion ?x_InvalidQuestion
    (case a1 => k_is)
    (case l1 => k_is)
    (case c1 => k_is)
    (case k1 => k_is)
    (case a2 => k_is)
    (case l2 => k_is)
    (case c2 => k_is)
    (case k2 => k_is)
    (case a3 => k_is)
    (case l3 => k_is)
    (case c3 => k_is)
    (case k3 => k_is)
    (case a4 => k_is)
    (case l4 => k_is)
    (case c4 => k_is)
    (case k4 => k_is)
    (case a5 => k_is)
    (case l5 => k_is)
    (case c5 => k_is)
    (case k5 => k_is)
    (case a6 => k_is)
    (case l6 => k_is)
    (case c6 => k_is)
    (case k6 => k_is)
    (case a7 => k_is)
    (case l7 => k_is)
    (case c7 => k_is)
    (case k7 => k_is)
    (case a8 => k_is)
    (case l8 => k_is)
    (case c8 => k_is)
    (case k8 => k_is)
    (case a9 => k_is)
    (case l9 => k_is)
    (case c9 => k_is)
    (case k9 => k_is)
    (case a10 => k_is)
    (case l10 => k_is)
    (case c10 => k_is)
    (case k10 => k_is)
    (case z_abs => k_is)
    (case z_all => k_is)
    (case z_int => k_is)
    (case z_isinstance => k_is)
    (case z_len => k_is)
    (case z_list => k_is)
    (case z_max => k_is)
    (case z_min => k_is)
    (case z_range => k_is)
    (case z_sorted => k_is)
    (case z_tuple => k_is)
    (case v_MOST_PLAN => k_is)
    (case v_MOST_PLAYERS => k_is)
    (case aC_InvalidQuestion => k_is)
    (case k_InvalidQuestion => k_is)
    (case s_InvalidQuestion => k_is)
    (case t_InvalidQuestion => k_is)
    (case h_InvalidQuestion => k_is)
    (case x_InvalidQuestion => k_exc)
#print axioms PySem.Challenge.cw_paironce_k79_places_holds

