import PyProof.Rows.All
import Wide.All
import OpenK.AllK
import Wide.FinOn
import HandS.ForExc
import HandS.ForMost
import HandS.Wide
import HandS.SortInts
import HandS.TryOnly
import HandS.TupAny
import HandS.ExcIs
import HandS.IsInst
import HandS.Iter
import HandS.TupLen
import KE.KDictWalk
import HandS.Style
import HandS.TupSets
import HandS.Conv
import HandS.More
import HandS.ExcInit
import HandS.ExcField
import HandS.Nested
import KE.KExcSuper
import HandS.CallSlots
import HandS.Defaults
import HandS.Star
import HandS.Deep
import OpenK.KTop
import KE.KTupSum
import HandS.DictComp
import HandS.TryMany
import KE.KSortTupAny
import HandS.NamedTupSort
import KE.DataMinMax
import PyProof.ReprRoads
import PyProof.CallFns
import KE.LtData
import PyProof.ReprLen
import PyProof.FitsInt
import HandS.FStr
import HandS.Text
import HandS.RaiseMore
import PyProof.P3In
import KE.DataCmp
import PyProof.StrOps2
import HandS.Set
import HandS.SetTxt0
import HandS.Strs
import KE.KEqDict
import PySem.Challenge.RW_paironce_k35_terms
set_option Elab.async false
set_option linter.all false
set_option maxRecDepth 100000
set_option maxHeartbeats 1000000
/-! The data layer: what the defs do, said of plain data; the heap stays behind. -/
namespace DL
open PySem PySem.Spec L2
/-! ### data -/
inductive D where
  | non | bl (b : Bool) | int (i : Int) | str (x : Str) | lst (l : List D) | tup (l : List D)
  | dK (ks : List Key) (vs : List D) | dT (ks : List (List Key)) (vs : List D)
  /-- the script as it was handed in -/
  | src (l : List Int)
  /-- locked dicts -/
  | fK (ks : List Key) (vs : List D) | fT (ks : List (List Key)) (vs : List D)
  /-- an instance that stays: its class's name, its fields -/
  | ins (cn : Str) (ns : List Str) (ds : List D)
abbrev D.ints (l : List Int) : D := .lst (l.map D.int)
mutual
inductive Rp (K : PySem.W.Frag) (H : Hp) : V → D → Prop
  | non : Rp K H .non .non
  | bl (b : Bool) : Rp K H (.bl b) (.bl b)
  | int (i : Int) : Rp K H (.int i) (.int i)
  | str (x : Str) : Rp K H (.str x) (.str x)
  | lst {a : Addr} {xs : List V} {ds : List D} : H a = some (.lst xs) → Rps K H xs ds → Rp K H (.ref a) (.lst ds)
  | tup {a : Addr} {xs : List V} {ds : List D} : H a = some (.tup xs) → Rps K H xs ds → Rp K H (.ref a) (.tup ds)
  | dK {a : Addr} {kvs : List (Key × V)} {ds : List D} : Rd H a (.dK kvs) → Rps K H (kvs.map (·.2)) ds → Rp K H (.ref a) (.dK (kvs.map (·.1)) ds)
  | dT {a : Addr} {kvs : List (List Key × V)} {ds : List D} : Rd H a (.dT kvs) → Rps K H (kvs.map (·.2)) ds → Rp K H (.ref a) (.dT (kvs.map (·.1)) ds)
  | src {a : Addr} {ns : List Int} : SqL K H a (ns.map V.int) → Rp K H (.ref a) (.src ns)
  | fK {a : Addr} {o : Obj} {kvs : List (Key × V)} {ds : List D} : H a = some (.frz o (.dK kvs)) → Rps K H (kvs.map (·.2)) ds → Rp K H (.ref a) (.fK (kvs.map (·.1)) ds)
  | fT {a : Addr} {o : Obj} {kvs : List (List Key × V)} {ds : List D} : H a = some (.frz o (.dT kvs)) → Rps K H (kvs.map (·.2)) ds → Rp K H (.ref a) (.fT (kvs.map (·.1)) ds)
  | ins {a C dx : Addr} {cn : Str} {fs : List (Str × V)} {ds : List D} : PySem.W.nsIn K mainGlobals cn = some (some (.ref C)) → H a = some (.ins C dx fs) → Rps K H (fs.map (·.2)) ds → Rp K H (.ref a) (.ins cn (fs.map (·.1)) ds)
inductive Rps (K : PySem.W.Frag) (H : Hp) : List V → List D → Prop
  | nil : Rps K H [] []
  | cons {v : V} {vs : List V} {d : D} {ds : List D} : Rp K H v d → Rps K H vs ds → Rps K H (v :: vs) (d :: ds)
end
section
variable {K : PySem.W.Frag} {H H' : Hp}
theorem Rd.mono {a : Addr} {u : HO} (s : Same H H') (h : Rd H a u) : Rd H' a u := h.imp (fun e => s _ _ e) fun ⟨o, e⟩ => ⟨o, s _ _ e⟩
mutual
theorem Rp.mono (s : Same H H') : ∀ {d : D} {v : V}, Rp K H v d → Rp K H' v d
  | .non, _, .non => .non
  | .bl _, _, .bl b => .bl b
  | .int _, _, .int i => .int i
  | .str _, _, .str i => .str i
  | .lst _, _, .lst h r => .lst (s _ _ h) (Rps.mono s r)
  | .tup _, _, .tup h r => .tup (s _ _ h) (Rps.mono s r)
  | .dK _ _, _, .dK h r => .dK (Rd.mono s h) (Rps.mono s r)
  | .dT _ _, _, .dT h r => .dT (Rd.mono s h) (Rps.mono s r)
  | .src _, _, .src h => .src (s.seq h)
  | .fK _ _, _, .fK h r => .fK (s _ _ h) (Rps.mono s r)
  | .fT _ _, _, .fT h r => .fT (s _ _ h) (Rps.mono s r)
  | .ins _ _ _, _, .ins c h r => .ins c (s _ _ h) (Rps.mono s r)
theorem Rps.mono (s : Same H H') : ∀ {ds : List D} {vs : List V}, Rps K H vs ds → Rps K H' vs ds
  | [], _, .nil => .nil
  | _ :: _, _, .cons r t => .cons (Rp.mono s r) (Rps.mono s t)
end
theorem Rps.length : ∀ {ds : List D} {vs : List V}, Rps K H vs ds → vs.length = ds.length
  | [], _, .nil => rfl
  | _ :: _, _, .cons _ t => congrArg (· + 1) (Rps.length t)
theorem Rps.get : ∀ {ds : List D} {vs : List V} {i : Nat} {d : D}, Rps K H vs ds → ds[i]? = some d → ∃ v, vs[i]? = some v ∧ Rp K H v d
  | [], _, _, _, .nil, e => by simp at e
  | _ :: _, _, 0, _, .cons r _, e => by simp at e; subst e; exact ⟨_, rfl, r⟩
  | _ :: _, _, i + 1, _, .cons _ t, e => by
    obtain ⟨v, h1, h2⟩ := Rps.get (i := i) t (by simpa using e)
    exact ⟨v, by simpa using h1, h2⟩
theorem Rps.get' : ∀ {ds : List D} {vs : List V} {i : Nat} {v : V}, Rps K H vs ds → vs[i]? = some v → ∃ d, ds[i]? = some d ∧ Rp K H v d
  | [], _, _, _, .nil, e => by simp at e
  | _ :: _, _, 0, _, .cons r _, e => by simp at e; subst e; exact ⟨_, rfl, r⟩
  | _ :: _, _, i + 1, _, .cons _ t, e => by
    obtain ⟨v, h1, h2⟩ := Rps.get' (i := i) t (by simpa using e)
    exact ⟨v, by simpa using h1, h2⟩
theorem Rps.append : ∀ {ds es : List D} {vs us : List V}, Rps K H vs ds → Rps K H us es → Rps K H (vs ++ us) (ds ++ es)
  | [], _, _, _, .nil, s => s
  | _ :: _, _, _, _, .cons r t, s => .cons r (Rps.append t s)
theorem Rps.one {v : V} {d : D} (r : Rp K H v d) : Rps K H [v] [d] := .cons r .nil
theorem Rps.take : ∀ {ds : List D} {vs : List V} (n : Nat), Rps K H vs ds → Rps K H (vs.take n) (ds.take n)
  | _, _, 0, _ => .nil
  | [], _, n + 1, .nil => .nil
  | _ :: _, _, n + 1, .cons r t => .cons r (Rps.take n t)
theorem Rps.drop : ∀ {ds : List D} {vs : List V} (n : Nat), Rps K H vs ds → Rps K H (vs.drop n) (ds.drop n)
  | _, _, 0, r => r
  | [], _, n + 1, .nil => .nil
  | _ :: _, _, n + 1, .cons r t => Rps.drop n t
theorem Rps.set {v : V} {d : D} (r : Rp K H v d) : ∀ {ds : List D} {vs : List V} (i : Nat), Rps K H vs ds → Rps K H (vs.set i v) (ds.set i d)
  | [], _, _, .nil => .nil
  | _ :: _, _, 0, .cons _ t => .cons r t
  | _ :: _, _, i + 1, .cons q t => .cons q (Rps.set r i t)
theorem Rps.reverse : ∀ {ds : List D} {vs : List V}, Rps K H vs ds → Rps K H vs.reverse ds.reverse
  | [], _, .nil => .nil
  | _ :: _, _, .cons r t => by rw [List.reverse_cons, List.reverse_cons]; exact Rps.append (Rps.reverse t) (.one r)
theorem Rps.ints : ∀ {ns : List Int} {vs : List V}, Rps K H vs (ns.map D.int) → vs = ns.map V.int
  | [], _, .nil => rfl
  | _ :: _, _, .cons (.int i) t => by rw [Rps.ints t]; rfl
theorem Rps.of_ints : ∀ (ns : List Int), Rps K H (ns.map V.int) (ns.map D.int)
  | [] => .nil
  | n :: r => .cons (.int n) (Rps.of_ints r)
theorem Rps.bls : ∀ {ns : List Bool} {vs : List V}, Rps K H vs (ns.map D.bl) → vs = ns.map V.bl
  | [], _, .nil => rfl
  | _ :: _, _, .cons (.bl i) t => by rw [Rps.bls t]; rfl
theorem Rps.strs : ∀ {ns : List Str} {vs : List V}, Rps K H vs (ns.map D.str) → vs = ns.map V.str
  | [], _, .nil => rfl
  | _ :: _, _, .cons (.str i) t => by rw [Rps.strs t]; rfl
theorem Rps.of_strs : ∀ (ns : List Str), Rps K H (ns.map V.str) (ns.map D.str)
  | [] => .nil
  | n :: r => .cons (.str n) (Rps.of_strs r)
end
/-! ### heaps: H0 what never changes any more, H all that is tracked -/
structure Ext (H0 H H0' H' : Hp) : Prop where
  s0 : Same H0 H0'
  s : Same H H'
  sub : Same H0' H'
  fr : ∀ a o, H0 a = none → H0' a = some o → H a = none ∨ ∃ xs, H a = some (.tup xs)
theorem Ext.refl {H0 H : Hp} (h : Same H0 H) : Ext H0 H H0 H := ⟨.refl _, .refl _, h, fun a o e e' => by rw [e] at e'; cases e'⟩
theorem Ext.trans {H0 H H1 H' H2 H'' : Hp} (a : Ext H0 H H1 H') (b : Ext H1 H' H2 H'') : Ext H0 H H2 H'' := by
  refine ⟨a.s0.trans b.s0, a.s.trans b.s, b.sub, fun c o e e' => ?_⟩
  cases q : H1 c with
  | some u => exact a.fr c u e q
  | none =>
    rcases b.fr c o q e' with z | ⟨xs, z⟩
    · exact .inl (a.s.free z)
    · cases w : H c with
      | none => exact .inl rfl
      | some u =>
        have := a.s _ _ w
        rw [z] at this
        cases this
        exact .inr ⟨_, rfl⟩
/-- a new thing, of the still part -/
theorem Ext.new {H0 H : Hp} {p : Addr} {o : HO} (h : Same H0 H) (np : H p = none) : Ext H0 H (upd H0 p o) (upd H p o) := by
  have n0 : H0 p = none := h.free np
  refine ⟨fun b u e => by rw [upd_ne (ne_of_none e n0)]; exact e, fun b u e => by rw [upd_ne (ne_of_none e np)]; exact e, fun b u e => ?_, fun a u e e' => ?_⟩
  · by_cases hb : b = p
    · subst hb; rw [upd_same] at e ⊢; exact e
    · rw [upd_ne hb] at e ⊢; exact h _ _ e
  · by_cases hb : a = p
    · subst hb; exact .inl np
    · rw [upd_ne hb] at e'; rw [e] at e'; cases e'
/-- a new thing, of one's own -/
theorem Ext.own {H0 H : Hp} {p : Addr} {o : HO} (h : Same H0 H) (np : H p = none) : Ext H0 H H0 (upd H p o) :=
  ⟨.refl _, fun b u e => by rw [upd_ne (ne_of_none e np)]; exact e, fun b u e => by rw [upd_ne (ne_of_none (h _ _ e) np)]; exact h _ _ e, fun a u e e' => by rw [e] at e'; cases e'⟩
/-! ### slots -/
inductive Sl where
  | no | ref (a : Addr) | exc (a : Addr) (o : Option Addr) (x : Option (Str × D)) | dat (d : D) | own (ds : List D) | oK (ks : List Key) (vs : List D) | oT (ks : List (List Key)) (vs : List D)
def Sl.isOwn : Sl → Bool
  | .own _ | .oK _ _ | .oT _ _ => true
  | _ => false
/-- a slot with data -/
def Sl.ok : Sl → Bool
  | .no | .ref _ | .exc _ _ _ => false
  | _ => true
def Sl.still : Sl → D
  | .no => .non | .ref _ => .non | .exc _ _ _ => .non | .dat d => d | .own ds => .lst ds | .oK ks vs => .dK ks vs | .oT ks vs => .dT ks vs
abbrev Rho := List Sl
/-- what stands at an address of one's own -/
def OwnAt (K : PySem.W.Frag) (H0 H : Hp) (a : Addr) : Sl → Prop
  | .own ds => ∃ xs, H a = some (.lst xs) ∧ Rps K H0 xs ds
  | .oK ks vs => ∃ kvs, H a = some (.dK kvs) ∧ kvs.map (·.1) = ks ∧ Rps K H0 (kvs.map (·.2)) vs
  | .oT ks vs => ∃ kvs, H a = some (.dT kvs) ∧ kvs.map (·.1) = ks ∧ Rps K H0 (kvs.map (·.2)) vs
  | _ => False
def RpS (K : PySem.W.Frag) (H0 H : Hp) (v : V) (s : Sl) : Prop :=
  match s with
  | .no => True
  | .ref a => v = .ref a
  | .exc a o x => v = .ref a ∧ (x = none → o = none) ∧ ∀ f d, x = some (f, d) → ∃ dd u, o = some dd ∧ H0 dd = some (.xd [(f, u)]) ∧ Rp K H0 u d
  | .dat d => Rp K H0 v d
  | s => ∃ a, v = .ref a ∧ H0 a = none ∧ OwnAt K H0 H a s
theorem OwnAt.ext {K : PySem.W.Frag} {H0 H H0' H' : Hp} {a : Addr} {s : Sl} (e : Ext H0 H H0' H') (h : OwnAt K H0 H a s) : OwnAt K H0' H' a s := by
  cases s with
  | no => exact h
  | ref c => exact h
  | exc c o x => exact h
  | dat d => exact h
  | own ds => obtain ⟨xs, h1, h2⟩ := h; exact ⟨xs, e.s _ _ h1, h2.mono e.s0⟩
  | oK ks vs => obtain ⟨xs, h1, h2, h3⟩ := h; exact ⟨xs, e.s _ _ h1, h2, h3.mono e.s0⟩
  | oT ks vs => obtain ⟨xs, h1, h2, h3⟩ := h; exact ⟨xs, e.s _ _ h1, h2, h3.mono e.s0⟩
theorem OwnAt.there {K : PySem.W.Frag} {H0 H : Hp} {a : Addr} {s : Sl} (h : OwnAt K H0 H a s) : ∃ o, H a = some o ∧ ∀ xs, o ≠ .tup xs := by
  cases s with
  | no => exact h.elim
  | ref c => exact h.elim
  | exc c o x => exact h.elim
  | dat d => exact h.elim
  | own ds => obtain ⟨xs, h1, h2⟩ := h; exact ⟨_, h1, fun _ z => by cases z⟩
  | oK ks vs => obtain ⟨xs, h1, h2, h3⟩ := h; exact ⟨_, h1, fun _ z => by cases z⟩
  | oT ks vs => obtain ⟨xs, h1, h2, h3⟩ := h; exact ⟨_, h1, fun _ z => by cases z⟩
theorem Ext.none {H0 H H0' H' : Hp} {a : Addr} {o : HO} (e : Ext H0 H H0' H') (h0 : H0 a = none) (h : H a = some o) (nt : ∀ xs, o ≠ .tup xs := by intro xs z; cases z) : H0' a = none := by
  cases q : H0' a with
  | none => rfl
  | some u =>
    rcases e.fr a u h0 q with z | ⟨xs, z⟩
    · rw [h] at z; cases z
    · rw [h] at z; cases z; exact absurd rfl (nt xs)
theorem RpS.ext {K : PySem.W.Frag} {H0 H H0' H' : Hp} {v : V} {s : Sl} (e : Ext H0 H H0' H') (h : RpS K H0 H v s) : RpS K H0' H' v s := by
  cases s with
  | no => trivial
  | ref c => exact h
  | exc c o x => exact ⟨h.1, h.2.1, fun f d q => by obtain ⟨dd, u, h1, h2, h3⟩ := h.2.2 f d q; exact ⟨dd, u, h1, e.s0 _ _ h2, Rp.mono e.s0 h3⟩⟩
  | dat d => exact Rp.mono e.s0 h
  | own ds =>
    obtain ⟨a, h1, h2, h3⟩ := h
    obtain ⟨o, ho, nt⟩ := h3.there
    exact ⟨a, h1, e.none h2 ho nt, h3.ext e⟩
  | oK ks vs =>
    obtain ⟨a, h1, h2, h3⟩ := h
    obtain ⟨o, ho, nt⟩ := h3.there
    exact ⟨a, h1, e.none h2 ho nt, h3.ext e⟩
  | oT ks vs =>
    obtain ⟨a, h1, h2, h3⟩ := h
    obtain ⟨o, ho, nt⟩ := h3.there
    exact ⟨a, h1, e.none h2 ho nt, h3.ext e⟩
/-- the address that an own value has is nobody's from before -/
def NewAt (He : Hp) (v : V) (s : Sl) : Prop := s.isOwn = true → ∀ a, v = .ref a → He a = none
structure StOk (K : PySem.W.Frag) (He0 He : Hp) (σ : St) (H0 H : Hp) (ρ : Rho) : Prop where
  e : Ext He0 He H0 H
  len : σ.length = ρ.length
  sl : ∀ (i : Nat) (s : Sl), ρ[i]? = some s → s ≠ .no → ∃ v, σ[i]? = some (some v) ∧ RpS K H0 H v s ∧ NewAt He v s
  ap : ∀ (i j : Nat) (s t : Sl) (a : Addr), i ≠ j → ρ[i]? = some s → ρ[j]? = some t → s.isOwn = true → t.isOwn = true → σ[i]? = some (some (.ref a)) → σ[j]? ≠ some (some (.ref a))
section
variable {K : PySem.W.Frag} {He0 He : Hp} {σ : St} {H0 H H0' H' : Hp} {ρ : Rho}
theorem StOk.sub (S : StOk K He0 He σ H0 H ρ) : Same H0 H := S.e.sub
theorem StOk.ext (S : StOk K He0 He σ H0 H ρ) (e : Ext H0 H H0' H') : StOk K He0 He σ H0' H' ρ :=
  ⟨S.e.trans e, S.len, fun i s h n => by obtain ⟨v, h1, h2, h3⟩ := S.sl i s h n; exact ⟨v, h1, h2.ext e, h3⟩, S.ap⟩
theorem StOk.dat (S : StOk K He0 He σ H0 H ρ) {i : Nat} {d : D} (h : ρ[i]? = some (.dat d)) : ∃ v, σ[i]? = some (some v) ∧ Rp K H0 v d := by
  obtain ⟨v, h1, h2, _⟩ := S.sl i _ h (by intro z; cases z)
  exact ⟨v, h1, h2⟩
/-- a slot is set to a value -/
theorem StOk.set (S : StOk K He0 He σ H0 H ρ) (i : Nat) {v : V} {s : Sl} (r : RpS K H0 H v s) (n : NewAt He v s)
    (ap : s.isOwn = true → ∀ a, v = .ref a → ∀ (j : Nat) (t : Sl), j ≠ i → ρ[j]? = some t → t.isOwn = true → σ[j]? ≠ some (some (.ref a))) : StOk K He0 He (σ.set i (some v)) H0 H (ρ.set i s) := by
  refine ⟨S.e, by rw [List.length_set, List.length_set]; exact S.len, fun j t h hn => ?_, fun j k t u a hjk hj hk ht hu e => ?_⟩
  · by_cases hj : i = j
    · subst hj
      have hl : i < ρ.length := by
        have := (List.getElem?_eq_some_iff.mp h).1
        rwa [List.length_set] at this
      rw [List.getElem?_set_self hl] at h
      cases h
      exact ⟨v, List.getElem?_set_self (by rw [S.len]; exact hl), r, n⟩
    · rw [List.getElem?_set_ne hj] at h ⊢
      exact S.sl j t h hn
  · have get : ∀ {j : Nat} {t : Sl}, i ≠ j → (ρ.set i s)[j]? = some t → ρ[j]? = some t := fun {j t} h q => by rwa [List.getElem?_set_ne h] at q
    have gets : ∀ {j : Nat}, i ≠ j → (σ.set i (some v))[j]? = σ[j]? := fun {j} h => List.getElem?_set_ne h
    have at_i : ∀ {t : Sl}, (ρ.set i s)[i]? = some t → t = s ∧ (σ.set i (some v))[i]? = some (some v) := fun {t} q => by
      have hl : i < ρ.length := by
        have := (List.getElem?_eq_some_iff.mp q).1
        rwa [List.length_set] at this
      rw [List.getElem?_set_self hl] at q
      cases q
      exact ⟨rfl, List.getElem?_set_self (by rw [S.len]; exact hl)⟩
    by_cases h1 : i = j
    · subst h1
      obtain ⟨rfl, q⟩ := at_i hj
      rw [q] at e
      have e' : v = .ref a := Option.some.inj (Option.some.inj e)
      rw [gets hjk]
      exact ap ht a e' k u (Ne.symm hjk) (get hjk hk) hu
    · by_cases h2 : i = k
      · subst h2
        obtain ⟨rfl, q⟩ := at_i hk
        rw [q]
        intro z
        have e' : v = .ref a := Option.some.inj (Option.some.inj z)
        rw [gets h1] at e
        exact ap hu a e' j t (Ne.symm h1) (get h1 hj) ht e
      · rw [gets h1] at e
        rw [gets h2]
        exact S.ap j k t u a hjk (get h1 hj) (get h2 hk) ht hu e
theorem StOk.setD (S : StOk K He0 He σ H0 H ρ) (i : Nat) {v : V} {d : D} (r : Rp K H0 v d) : StOk K He0 He (σ.set i (some v)) H0 H (ρ.set i (.dat d)) :=
  S.set i (s := .dat d) r (fun z => by cases z) (fun z => by cases z)
/-- slots forgotten -/
theorem StOk.wipe1 (S : StOk K He0 He σ H0 H ρ) (i : Nat) : StOk K He0 He (σ.set i none) H0 H (ρ.set i .no) := by
  have get : ∀ {j : Nat} {t : Sl}, t ≠ .no → (ρ.set i .no)[j]? = some t → i ≠ j ∧ ρ[j]? = some t := fun {j t} h q => by
    by_cases hj : i = j
    · subst hj
      have hl : i < ρ.length := by
        have := (List.getElem?_eq_some_iff.mp q).1
        rwa [List.length_set] at this
      rw [List.getElem?_set_self hl] at q
      cases q
      exact absurd rfl h
    · rw [List.getElem?_set_ne hj] at q
      exact ⟨hj, q⟩
  refine ⟨S.e, by rw [List.length_set, List.length_set]; exact S.len, fun j t h hn => ?_, fun j k t u a hjk hj hk ht hu e => ?_⟩
  · obtain ⟨h1, h2⟩ := get hn h
    rw [List.getElem?_set_ne h1]
    exact S.sl j t h2 hn
  · obtain ⟨h1, h2⟩ := get (by intro z; rw [z] at ht; cases ht) hj
    obtain ⟨h3, h4⟩ := get (by intro z; rw [z] at hu; cases hu) hk
    rw [List.getElem?_set_ne h1] at e
    rw [List.getElem?_set_ne h3]
    exact S.ap j k t u a hjk h2 h4 ht hu e
/-- forgetting slots at the level of data alone -/
theorem StOk.forget (S : StOk K He0 He σ H0 H ρ) (i : Nat) : StOk K He0 He σ H0 H (ρ.set i .no) := by
  have get : ∀ {j : Nat} {t : Sl}, t ≠ .no → (ρ.set i .no)[j]? = some t → ρ[j]? = some t := fun {j t} h q => by
    by_cases hj : i = j
    · subst hj
      have hl : i < ρ.length := by
        have := (List.getElem?_eq_some_iff.mp q).1
        rwa [List.length_set] at this
      rw [List.getElem?_set_self hl] at q
      cases q
      exact absurd rfl h
    · rwa [List.getElem?_set_ne hj] at q
  exact ⟨S.e, by rw [List.length_set]; exact S.len, fun j t h hn => S.sl j t (get hn h) hn, fun j k t u a hjk hj hk ht hu e =>
    S.ap j k t u a hjk (get (by intro z; rw [z] at ht; cases ht) hj) (get (by intro z; rw [z] at hu; cases hu) hk) ht hu e⟩
theorem still_of {v : V} {s : Sl} {a : Addr} (o : OwnAt K H0 H a s) : ∃ u : HO, H a = some u ∧ ∀ G : Hp, Same H0 G → G a = some u → Rp K G (.ref a) s.still := by
  cases s with
  | no => exact o.elim
  | ref c => exact o.elim
  | exc c o x => exact o.elim
  | dat d => exact o.elim
  | own ds => obtain ⟨xs, h1, h2⟩ := o; exact ⟨_, h1, fun G g e => .lst e (h2.mono g)⟩
  | oK ks vs => obtain ⟨xs, h1, rfl, h2⟩ := o; exact ⟨_, h1, fun G g e => .dK (.inl e) (h2.mono g)⟩
  | oT ks vs => obtain ⟨xs, h1, rfl, h2⟩ := o; exact ⟨_, h1, fun G g e => .dT (.inl e) (h2.mono g)⟩
theorem own_of {s : Sl} {v : V} (ho : s.isOwn = true) (r : RpS K H0 H v s) : ∃ a, v = .ref a ∧ H0 a = none ∧ OwnAt K H0 H a s := by
  cases s with
  | no => cases ho
  | ref c => cases ho
  | exc c o x => cases ho
  | dat d => cases ho
  | own ds => exact r
  | oK ks vs => exact r
  | oT ks vs => exact r
/-- what is one's own becomes still -/
theorem StOk.freeze (S : StOk K He0 He σ H0 H ρ) {i : Nat} {s : Sl} (h : ρ[i]? = some s) (ho : s.isOwn = true) : ∃ H1, Same H0 H1 ∧ StOk K He0 He σ H1 H (ρ.set i (.dat s.still)) := by
  obtain ⟨v, h1, h2, h3⟩ := S.sl i s h (by intro z; rw [z] at ho; cases ho)
  obtain ⟨a, rfl, n0, oa⟩ := own_of ho h2
  obtain ⟨u, hu, mk⟩ := still_of (v := .ref a) oa
  have s01 : Same H0 (upd H0 a u) := fun b o e => by rw [upd_ne (ne_of_none e n0)]; exact e
  have sub1 : Same (upd H0 a u) H := fun b o e => by
    by_cases hb : b = a
    · subst hb; rw [upd_same] at e; cases e; exact hu
    · rw [upd_ne hb] at e; exact S.sub _ _ e
  have he : He a = none := h3 ho a rfl
  have il : i < ρ.length := (List.getElem?_eq_some_iff.mp h).1
  refine ⟨upd H0 a u, s01, ⟨⟨S.e.s0.trans s01, S.e.s, sub1, fun b o e e' => ?_⟩, by rw [List.length_set]; exact S.len, fun j t hj hn => ?_, fun j k t w b hjk hj hk ht hw e => ?_⟩⟩
  · by_cases hb : b = a
    · subst hb; exact .inl he
    · rw [upd_ne hb] at e'; exact S.e.fr b o e e'
  · by_cases hji : i = j
    · subst hji
      rw [List.getElem?_set_self il] at hj
      cases hj
      exact ⟨.ref a, h1, mk _ s01 upd_same, fun z => by cases z⟩
    · rw [List.getElem?_set_ne hji] at hj
      obtain ⟨v', g1, g2, g3⟩ := S.sl j t hj hn
      refine ⟨v', g1, ?_, g3⟩
      by_cases hto : t.isOwn = true
      · obtain ⟨b, rfl, nb, ob⟩ := own_of hto g2
        have hba : b ≠ a := fun z => by
          subst z
          exact S.ap i j s t b hji h hj ho hto h1 g1
        have nb' : upd H0 a u b = none := by rw [upd_ne hba]; exact nb
        have ob' : OwnAt K (upd H0 a u) H b t := by
          cases t with
          | no => exact ob
          | ref c => exact ob
          | exc c o x => exact ob
          | dat d => exact ob
          | own ds => obtain ⟨xs, q1, q2⟩ := ob; exact ⟨xs, q1, q2.mono s01⟩
          | oK ks vs => obtain ⟨xs, q1, q2, q3⟩ := ob; exact ⟨xs, q1, q2, q3.mono s01⟩
          | oT ks vs => obtain ⟨xs, q1, q2, q3⟩ := ob; exact ⟨xs, q1, q2, q3.mono s01⟩
        cases t with
        | no => cases hto
        | ref c => cases hto
        | exc c o x => cases hto
        | dat d => cases hto
        | own ds => exact ⟨b, rfl, nb', ob'⟩
        | oK ks vs => exact ⟨b, rfl, nb', ob'⟩
        | oT ks vs => exact ⟨b, rfl, nb', ob'⟩
      · cases t with
        | no => trivial
        | ref c => exact g2
        | exc c o x => exact ⟨g2.1, g2.2.1, fun f d q => by obtain ⟨dd, u, h1, h2, h3⟩ := g2.2.2 f d q; exact ⟨dd, u, h1, s01 _ _ h2, h3.mono s01⟩⟩
        | dat d => exact Rp.mono s01 g2
        | own ds => exact absurd rfl hto
        | oK ks vs => exact absurd rfl hto
        | oT ks vs => exact absurd rfl hto
  · have get : ∀ {j : Nat} {t : Sl}, t.isOwn = true → (ρ.set i (.dat s.still))[j]? = some t → ρ[j]? = some t := fun {j t} ht q => by
      by_cases hj : i = j
      · subst hj
        rw [List.getElem?_set_self il] at q
        cases q
        cases ht
      · rwa [List.getElem?_set_ne hj] at q
    exact S.ap j k t w b hjk (get ht hj) (get hw hk) ht hw e
end
end DL

set_option maxRecDepth 100000
set_option maxHeartbeats 1000000
namespace DL
open PySem PySem.Spec L2
/-! ### exceptions -/
structure Exn where
  C : Addr
  arg : Option (Str × D)
def ExnRep (K : PySem.W.Frag) (H0 H : Hp) (x : Exn) (cls : Value) (od : Option Addr) : Prop :=
  cls = .ref x.C ∧ (x.arg = none → od = none) ∧ ∀ f d, x.arg = some (f, d) → ∃ dd v, od = some dd ∧ H0 dd = some (.xd [(f, v)]) ∧ Rp K H0 v d
theorem ExnRep.ext {K : PySem.W.Frag} {H0 H H0' H' : Hp} {x : Exn} {cls : Value} {od : Option Addr} (e : Ext H0 H H0' H') (h : ExnRep K H0 H x cls od) : ExnRep K H0' H' x cls od :=
  ⟨h.1, h.2.1, fun f d q => by obtain ⟨dd, v, h1, h2, h3⟩ := h.2.2 f d q; exact ⟨dd, v, h1, e.s0 _ _ h2, h3.mono e.s0⟩⟩
/-! ### judgements -/
/-- what is wanted of an exception that leaves an expression -/
def Exs (K : PySem.W.Frag) (He0 He : Hp) (W : WX) (σ : St) (ρ : Rho) (X : Exn → Prop) : Prop :=
  ∀ x cls od H0 H, X x → StOk K He0 He σ H0 H ρ → ExnRep K H0 H x cls od → W cls od σ H
def EvP (K : PySem.W.Frag) (W : WX) (te : TE) (ρ : Rho) (P : D → Prop) (X : Exn → Prop) : Prop :=
  ∀ (He0 He : Hp) (σ : St) (H0 H : Hp) (Q : VK), StOk K He0 He σ H0 H ρ → Exs K He0 He W σ ρ X →
    (∀ v d H0' H', P d → StOk K He0 He σ H0' H' ρ → Ext H0 H H0' H' → Rp K H0' v d → Q v H') → te σ H Q
def EvO (K : PySem.W.Frag) (W : WX) (te : TE) (ρ : Rho) (P : Sl → Prop) (X : Exn → Prop) : Prop :=
  ∀ (He0 He : Hp) (σ : St) (H0 H : Hp) (Q : VK), StOk K He0 He σ H0 H ρ → Exs K He0 He W σ ρ X →
    (∀ v s H0' H', P s → StOk K He0 He σ H0' H' ρ → Ext H0 H H0' H' → RpS K H0' H' v s → NewAt H v s → Q v H') → te σ H Q
def BvP (K : PySem.W.Frag) (W : WX) (tt : TT) (ρ : Rho) (P : Bool → Prop) (X : Exn → Prop) : Prop :=
  ∀ (He0 He : Hp) (σ : St) (H0 H : Hp) (Q : Bool → Hp → Prop), StOk K He0 He σ H0 H ρ → Exs K He0 He W σ ρ X →
    (∀ b H0' H', P b → StOk K He0 He σ H0' H' ρ → Ext H0 H H0' H' → Q b H') → tt σ H Q
def AvP (K : PySem.W.Frag) (W : WX) (ta : TA) (ρ : Rho) (P : List D → Prop) (X : Exn → Prop) : Prop :=
  ∀ (He0 He : Hp) (σ : St) (H0 H : Hp) (Q : List V → Hp → Prop), StOk K He0 He σ H0 H ρ → Exs K He0 He W σ ρ X →
    (∀ vs ds H0' H', P ds → StOk K He0 He σ H0' H' ρ → Ext H0 H H0' H' → Rps K H0' vs ds → Q vs H') → ta σ H Q
/-- an operator by values -/
def OpD (K : PySem.W.Frag) (r : R2) (x y : D) (P : D → Prop) : Prop :=
  ∀ (H0 H : Hp) (v u : V) (Q : VK), Same H0 H → Rp K H0 v x → Rp K H0 u y → (∀ z d H0' H', P d → Ext H0 H H0' H' → Rp K H0' z d → Q z H') → r v u H Q
def UnD (K : PySem.W.Frag) (r : V → Hp → VK → Prop) (x : D) (P : D → Prop) : Prop :=
  ∀ (H0 H : Hp) (v : V) (Q : VK), Same H0 H → Rp K H0 v x → (∀ z d H0' H', P d → Ext H0 H H0' H' → Rp K H0' z d → Q z H') → r v H Q
/-- a built-in's call by values -/
def CbD (K : PySem.W.Frag) (r : List V → Hp → VK → Prop) (xs : List D) (P : D → Prop) : Prop :=
  ∀ (H0 H : Hp) (vs : List V) (Q : VK), Same H0 H → Rps K H0 vs xs → (∀ z d H0' H', P d → Ext H0 H H0' H' → Rp K H0' z d → Q z H') → r vs H Q
structure En where
  nx : Rho → Prop
  rt : Sl → Prop
  bk : Rho → Prop := fun _ => False
  ct : Rho → Prop := fun _ => False
  ex : Exn → Rho → Prop := fun _ _ => False
structure EndsOk (K : PySem.W.Frag) (He0 He : Hp) (W : WX) (E : En) (D : Ends) : Prop where
  nx : ∀ ρ σ H0 H, E.nx ρ → StOk K He0 He σ H0 H ρ → D.nx σ H
  rt : ∀ s v H0 H, E.rt s → Ext He0 He H0 H → RpS K H0 H v s → NewAt He v s → D.rt v H
  bk : ∀ ρ σ H0 H, E.bk ρ → StOk K He0 He σ H0 H ρ → D.bk σ H
  ct : ∀ ρ σ H0 H, E.ct ρ → StOk K He0 He σ H0 H ρ → D.ct σ H
  ex : ∀ x ρ σ H0 H cls od, E.ex x ρ → StOk K He0 He σ H0 H ρ → ExnRep K H0 H x cls od → W cls od σ H
def WS (K : PySem.W.Frag) (W : WX) (ts : TS) (ρ : Rho) (E : En) : Prop :=
  ∀ (He0 He : Hp) (σ : St) (H0 H : Hp) (D : Ends), StOk K He0 He σ H0 H ρ → EndsOk K He0 He W E D → ts D σ H
theorem EndsOk.exs {K : PySem.W.Frag} {He0 He : Hp} {W : WX} {E : En} {D : Ends} (e : EndsOk K He0 He W E D) (σ : St) (ρ : Rho) : Exs K He0 He W σ ρ fun x => E.ex x ρ :=
  fun x cls od H0 H h S r => e.ex x ρ σ H0 H cls od h S r
section
variable {K : PySem.W.Frag} {W : WX} {te ta tb tc : TE} {tt tu : TT} {ts tr : TS} {tas : TA} {ρ : Rho} {P : D → Prop} {PB : Bool → Prop} {PS : Sl → Prop} {PA : List D → Prop} {X : Exn → Prop} {E : En} {r r' : R2}
/-! ### consequences -/
theorem EvP.imp {P' : D → Prop} (h : EvP K W te ρ P X) (f : ∀ d, P d → P' d) : EvP K W te ρ P' X := fun He0 He σ H0 H Q S x k => h He0 He σ H0 H Q S x fun v d H0' H' p => k v d H0' H' (f d p)
theorem BvP.imp {P' : Bool → Prop} (h : BvP K W tt ρ PB X) (f : ∀ d, PB d → P' d) : BvP K W tt ρ P' X := fun He0 He σ H0 H Q S x k => h He0 He σ H0 H Q S x fun v H0' H' p => k v H0' H' (f v p)
theorem WS.imp {E' : En} (h : WS K W ts ρ E) (h1 : ∀ ρ, E.nx ρ → E'.nx ρ) (h2 : ∀ s, E.rt s → E'.rt s) (h3 : ∀ ρ, E.bk ρ → E'.bk ρ) (h4 : ∀ ρ, E.ct ρ → E'.ct ρ) (h5 : ∀ x ρ, E.ex x ρ → E'.ex x ρ) : WS K W ts ρ E' :=
  fun He0 He σ H0 H D S e => h He0 He σ H0 H D S ⟨fun ρ σ H0 H q => e.nx ρ σ H0 H (h1 _ q), fun s v H0 H q => e.rt s v H0 H (h2 _ q), fun ρ σ H0 H q => e.bk ρ σ H0 H (h3 _ q), fun ρ σ H0 H q => e.ct ρ σ H0 H (h4 _ q), fun x ρ σ H0 H c o q => e.ex x ρ σ H0 H c o (h5 _ _ q)⟩
theorem EvO.dat (h : EvP K W te ρ (fun d => PS (.dat d)) X) : EvO K W te ρ PS X := fun He0 He σ H0 H Q S x k => h He0 He σ H0 H Q S x fun v d H0' H' p S' e q => k v (.dat d) H0' H' p S' e q (fun z => by cases z)
/-! ### names and constants -/
theorem ev_var {i : Nat} {d : D} (h : ρ[i]? = some (.dat d)) (p : P d) : EvP K W (tVar i) ρ P X := fun He0 He σ H0 H Q S x k => by
  obtain ⟨v, h1, h2⟩ := S.dat h
  exact ⟨v, h1, k v d H0 H p S (.refl S.sub) h2⟩
theorem ev_int {i : Int} (p : P (.int i)) : EvP K W (tC (.int i)) ρ P X := fun He0 He σ H0 H Q S x k => k _ _ H0 H p S (.refl S.sub) (.int i)
theorem ev_bl {i : Bool} (p : P (.bl i)) : EvP K W (tC (.bl i)) ρ P X := fun He0 He σ H0 H Q S x k => k _ _ H0 H p S (.refl S.sub) (.bl i)
theorem ev_str {i : Str} (p : P (.str i)) : EvP K W (tC (.str i)) ρ P X := fun He0 He σ H0 H Q S x k => k _ _ H0 H p S (.refl S.sub) (.str i)
theorem ev_non (p : P .non) : EvP K W (tC .non) ρ P X := fun He0 He σ H0 H Q S x k => k _ _ H0 H p S (.refl S.sub) .non
/-! ### operators -/
theorem ev_op (h : EvP K W ta ρ (fun x => EvP K W tb ρ (fun y => OpD K r x y P) X) X) : EvP K W (tOp r ta tb) ρ P X := fun He0 He σ H0 H Q S x k => by
  refine h He0 He σ H0 H _ S x fun v d H1 H1' p S1 e1 r1 => ?_
  refine p He0 He σ H1 H1' _ S1 x fun u e H2 H2' p2 S2 e2 r2 => ?_
  exact p2 H2 H2' v u Q S2.sub (r1.mono e2.s0) r2 fun z w H3 H3' p3 e3 r3 => k z w H3 H3' p3 (S2.ext e3) (e1.trans (e2.trans e3)) r3
theorem ev_un {ru : V → Hp → VK → Prop} (h : EvP K W ta ρ (fun x => UnD K ru x P) X) : EvP K W (tUn ru ta) ρ P X := fun He0 He σ H0 H Q S x k => by
  refine h He0 He σ H0 H _ S x fun v d H1 H1' p S1 e1 r1 => ?_
  exact p H1 H1' v Q S1.sub r1 fun z w H3 H3' p3 e3 r3 => k z w H3 H3' p3 (S1.ext e3) (e1.trans e3) r3
theorem ev_cb {rc : List V → Hp → VK → Prop} (h : AvP K W tas ρ (fun xs => CbD K rc xs P) X) : EvP K W (tCB rc tas) ρ P X := fun He0 He σ H0 H Q S x k => by
  refine h He0 He σ H0 H _ S x fun v d H1 H1' p S1 e1 r1 => ?_
  exact p H1 H1' v Q S1.sub r1 fun z w H3 H3' p3 e3 r3 => k z w H3 H3' p3 (S1.ext e3) (e1.trans e3) r3
theorem av_nil (p : PA []) : AvP K W tNil ρ PA X := fun He0 He σ H0 H Q S x k => k [] [] H0 H p S (.refl S.sub) .nil
theorem av_cons (h : EvP K W te ρ (fun d => AvP K W tas ρ (fun ds => PA (d :: ds)) X) X) : AvP K W (tCons te tas) ρ PA X := fun He0 He σ H0 H Q S x k => by
  refine h He0 He σ H0 H _ S x fun v d H1 H1' p S1 e1 r1 => ?_
  exact p He0 He σ H1 H1' _ S1 x fun vs ds H2 H2' p2 S2 e2 r2 => k (v :: vs) (d :: ds) H2 H2' p2 S2 (e1.trans e2) (.cons (r1.mono e2.s0) r2)
theorem OpD.inl {x y : D} (h : OpD K r x y P) : OpD K (fun v u H Q => r v u H Q ∨ r' v u H Q) x y P := fun H0 H v u Q s a b k => .inl (h H0 H v u Q s a b k)
theorem OpD.inr {x y : D} (h : OpD K r' x y P) : OpD K (fun v u H Q => r v u H Q ∨ r' v u H Q) x y P := fun H0 H v u Q s a b k => .inr (h H0 H v u Q s a b k)
theorem od_int0 {g : Int → Int → Int} {i j : Int} (p : P (.int (g i j))) : OpD K (rI0 fun i j => .int (g i j)) (.int i) (.int j) P := fun H0 H v u Q s a b k => by
  cases a; cases b
  exact ⟨i, j, rfl, rfl, k _ _ H0 H p (.refl s) (.int _)⟩
theorem od_intb {g : Int → Int → Bool} {i j : Int} (p : P (.bl (g i j))) : OpD K (rI0 fun i j => .bl (g i j)) (.int i) (.int j) P := fun H0 H v u Q s a b k => by
  cases a; cases b
  exact ⟨i, j, rfl, rfl, k _ _ H0 H p (.refl s) (.bl _)⟩
theorem od_intC {C : Int → Int → Prop} {g : Int → Int → Int} {i j : Int} (c : C i j) (p : P (.int (g i j))) : OpD K (rI C fun i j => .int (g i j)) (.int i) (.int j) P := fun H0 H v u Q s a b k => by
  cases a; cases b
  exact ⟨i, j, rfl, rfl, c, k _ _ H0 H p (.refl s) (.int _)⟩
theorem od_eqI {i j : Int} (p : P (.bl (decide (i = j)))) : OpD K rEq (.int i) (.int j) P := fun H0 H v u Q s a b k => by
  cases a; cases b
  refine ⟨rfl, ?_⟩
  have q := k (.bl (decide (i = j))) _ H0 H p (.refl s) (.bl _)
  rw [show decide (V.int i = V.int j) = decide (i = j) from by simp]
  exact q
theorem od_neI {i j : Int} (p : P (.bl (decide (i ≠ j)))) : OpD K rNe (.int i) (.int j) P := fun H0 H v u Q s a b k => by
  cases a; cases b
  refine ⟨rfl, ?_⟩
  have q := k (.bl (decide (i ≠ j))) _ H0 H p (.refl s) (.bl _)
  rw [show (!decide (V.int i = V.int j)) = decide (i ≠ j) from by simp]
  exact q
theorem od_eqB {i j : Bool} (p : P (.bl (decide (i = j)))) : OpD K rEq (.bl i) (.bl j) P := fun H0 H v u Q s a b k => by
  cases a; cases b
  refine ⟨rfl, ?_⟩
  have q := k (.bl (decide (i = j))) _ H0 H p (.refl s) (.bl _)
  rw [show decide (V.bl i = V.bl j) = decide (i = j) from by simp]
  exact q
theorem od_neB {i j : Bool} (p : P (.bl (decide (i ≠ j)))) : OpD K rNe (.bl i) (.bl j) P := fun H0 H v u Q s a b k => by
  cases a; cases b
  refine ⟨rfl, ?_⟩
  have q := k (.bl (decide (i ≠ j))) _ H0 H p (.refl s) (.bl _)
  rw [show (!decide (V.bl i = V.bl j)) = decide (i ≠ j) from by simp]
  exact q
theorem od_eqS {i j : Str} (p : P (.bl (decide (i = j)))) : OpD K rEq (.str i) (.str j) P := fun H0 H v u Q s a b k => by
  cases a; cases b
  refine ⟨rfl, ?_⟩
  have q := k (.bl (decide (i = j))) _ H0 H p (.refl s) (.bl _)
  rw [show decide (V.str i = V.str j) = decide (i = j) from by simp]
  exact q
theorem od_neS {i j : Str} (p : P (.bl (decide (i ≠ j)))) : OpD K rNe (.str i) (.str j) P := fun H0 H v u Q s a b k => by
  cases a; cases b
  refine ⟨rfl, ?_⟩
  have q := k (.bl (decide (i ≠ j))) _ H0 H p (.refl s) (.bl _)
  rw [show (!decide (V.str i = V.str j)) = decide (i ≠ j) from by simp]
  exact q
/-! ### tests -/
theorem bv_test (h : EvP K W te ρ (fun d => ∃ b, d = .bl b ∧ PB b) X) : BvP K W (tTest te) ρ PB X := fun He0 He σ H0 H Q S x k => by
  refine h He0 He σ H0 H _ S x fun v d H1 H1' p S1 e1 r1 => ?_
  obtain ⟨b, rfl, pb⟩ := p
  cases r1
  exact ⟨b, rfl, k b H1 H1' pb S1 e1⟩
theorem bv_and (h : BvP K W tt ρ (fun c => if c = true then BvP K W tu ρ PB X else PB false) X) : BvP K W (tAnd tt tu) ρ PB X := fun He0 He σ H0 H Q S x k => by
  refine h He0 He σ H0 H _ S x fun c H1 H1' p S1 e1 => ?_
  cases c with
  | true =>
    rw [if_pos rfl] at p ⊢
    exact p He0 He σ H1 H1' _ S1 x fun b H2 H2' q S2 e2 => k b H2 H2' q S2 (e1.trans e2)
  | false =>
    rw [if_neg Bool.false_ne_true] at p ⊢
    exact k false H1 H1' p S1 e1
theorem bv_or (h : BvP K W tt ρ (fun c => if c = true then PB true else BvP K W tu ρ PB X) X) : BvP K W (tOr tt tu) ρ PB X := fun He0 He σ H0 H Q S x k => by
  refine h He0 He σ H0 H _ S x fun c H1 H1' p S1 e1 => ?_
  cases c with
  | true =>
    rw [if_pos rfl] at p ⊢
    exact k true H1 H1' p S1 e1
  | false =>
    rw [if_neg Bool.false_ne_true] at p ⊢
    exact p He0 He σ H1 H1' _ S1 x fun b H2 H2' q S2 e2 => k b H2 H2' q S2 (e1.trans e2)
theorem bv_not (h : BvP K W tt ρ (fun c => PB (!c)) X) : BvP K W (tNot tt) ρ PB X := fun He0 He σ H0 H Q S x k =>
  h He0 He σ H0 H _ S x fun c H1 H1' p S1 e1 => k _ H1 H1' p S1 e1
theorem ev_andV (h : EvP K W ta ρ (fun d => ∃ c, d = .bl c ∧ if c = true then EvP K W tb ρ P X else P (.bl false)) X) : EvP K W (tAndV ta tb) ρ P X := fun He0 He σ H0 H Q S x k => by
  refine h He0 He σ H0 H _ S x fun v d H1 H1' p S1 e1 r1 => ?_
  obtain ⟨c, rfl, p⟩ := p
  cases r1
  refine ⟨c, rfl, ?_⟩
  cases c with
  | true =>
    rw [if_pos rfl] at p ⊢
    exact p He0 He σ H1 H1' _ S1 x fun v d H2 H2' q S2 e2 r2 => k v d H2 H2' q S2 (e1.trans e2) r2
  | false =>
    rw [if_neg Bool.false_ne_true] at p ⊢
    exact k _ _ H1 H1' p S1 e1 (.bl false)
theorem ev_if (h : BvP K W tt ρ (fun c => if c = true then EvP K W ta ρ P X else EvP K W tb ρ P X) X) : EvP K W (tIf tt ta tb) ρ P X := fun He0 He σ H0 H Q S x k => by
  refine h He0 He σ H0 H _ S x fun c H1 H1' p S1 e1 => ?_
  cases c with
  | true =>
    rw [if_pos rfl] at p ⊢
    exact p He0 He σ H1 H1' _ S1 x fun v d H2 H2' q S2 e2 r2 => k v d H2 H2' q S2 (e1.trans e2) r2
  | false =>
    rw [if_neg Bool.false_ne_true] at p ⊢
    exact p He0 He σ H1 H1' _ S1 x fun v d H2 H2' q S2 e2 r2 => k v d H2 H2' q S2 (e1.trans e2) r2
theorem ev_chain (h : EvP K W ta ρ (fun x => EvP K W tb ρ (fun y => OpD K r x y fun z => ∃ k, z = .bl k ∧ if k = true then EvP K W tc ρ (fun w => OpD K r' y w P) X else P (.bl false)) X) X) :
    EvP K W (tChain r r' ta tb tc) ρ P X := fun He0 He σ H0 H Q S x k => by
  refine h He0 He σ H0 H _ S x fun v d H1 H1' p S1 e1 r1 => ?_
  refine p He0 He σ H1 H1' _ S1 x fun u e H2 H2' p2 S2 e2 r2 => ?_
  refine p2 H2 H2' v u _ S2.sub (r1.mono e2.s0) r2 fun z w H3 H3' p3 e3 r3 => ?_
  obtain ⟨c, rfl, p3⟩ := p3
  cases r3
  refine ⟨c, rfl, ?_⟩
  have S3 := S2.ext e3
  cases c with
  | true =>
    rw [if_pos rfl] at p3 ⊢
    refine p3 He0 He σ H3 H3' _ S3 x fun u' e' H4 H4' p4 S4 e4 r4 => ?_
    exact p4 H4 H4' u u' Q S4.sub (r2.mono (e3.trans e4).s0) r4 fun z w H5 H5' p5 e5 r5 => k z w H5 H5' p5 (S4.ext e5) (e1.trans (e2.trans (e3.trans (e4.trans e5)))) r5
  | false =>
    rw [if_neg Bool.false_ne_true] at p3 ⊢
    exact k _ _ H3 H3' p3 S3 (e1.trans (e2.trans e3)) (.bl false)
/-! ### new tuples and lists -/
theorem ev_tup (h : AvP K W tas ρ (fun ds => ds.length ≤ sizeLine ∧ P (.tup ds)) X) : EvP K W (tTup tas) ρ P X := fun He0 He σ H0 H Q S x k => by
  refine h He0 He σ H0 H _ S x fun vs ds H1 H1' p S1 e1 r1 => ⟨by rw [r1.length]; exact p.1, fun a na => ?_⟩
  have e2 : Ext H1 H1' (upd H1 a (.tup vs)) (upd H1' a (.tup vs)) := .new S1.sub na
  exact k _ _ _ _ p.2 (S1.ext e2) (e1.trans e2) (.tup upd_same (r1.mono e2.s0))
theorem eo_lst (h : AvP K W tas ρ (fun ds => ds.length ≤ sizeLine ∧ PS (.own ds)) X) : EvO K W (tLst tas) ρ PS X := fun He0 He σ H0 H Q S x k => by
  refine h He0 He σ H0 H _ S x fun vs ds H1 H1' p S1 e1 r1 => ⟨by rw [r1.length]; exact p.1, fun a na => ?_⟩
  have e2 : Ext H1 H1' H1 (upd H1' a (.lst vs)) := .own S1.sub na
  refine k _ _ _ _ p.2 (S1.ext e2) (e1.trans e2) ⟨a, rfl, S1.sub.free na, vs, upd_same, r1⟩ fun _ b e => ?_
  cases e
  exact e1.s.free na
theorem eo_dK (p : PS (.oK [] [])) : EvO K W tDNewK ρ PS X := fun He0 He σ H0 H Q S x k a na => by
  have e2 : Ext H0 H H0 (upd H a (.dK [])) := .own S.sub na
  refine k _ _ _ _ p (S.ext e2) e2 ⟨a, rfl, S.sub.free na, [], upd_same, rfl, .nil⟩ fun _ b e => ?_
  cases e
  exact na
/-! ### statements -/
theorem ws_seq (h : WS K W ts ρ { E with nx := fun ρ' => WS K W tr ρ' E }) : WS K W (tSeq ts tr) ρ E := fun He0 He σ H0 H D S e =>
  h He0 He σ H0 H { D with nx := tr D } S ⟨fun ρ' σ' H0' H' q S' => q He0 He σ' H0' H' D S' e, e.rt, e.bk, e.ct, e.ex⟩
theorem ws_next (h : E.nx ρ) : WS K W tNext ρ E := fun He0 He σ H0 H D S e => e.nx ρ σ H0 H h S
theorem ws_drop (h : EvP K W te ρ (fun _ => E.nx ρ) (fun x => E.ex x ρ)) : WS K W (tDrop te) ρ E := fun He0 He σ H0 H D S e =>
  h He0 He σ H0 H _ S (e.exs σ ρ) fun v d H1 H1' p S1 e1 r1 => e.nx ρ σ H1 H1' p S1
theorem ws_ret (h : EvP K W te ρ (fun d => E.rt (.dat d)) (fun x => E.ex x ρ)) : WS K W (tRet te) ρ E := fun He0 He σ H0 H D S e =>
  h He0 He σ H0 H _ S (e.exs σ ρ) fun v d H1 H1' p S1 e1 r1 => e.rt (.dat d) v H1 H1' p S1.e r1 (fun z => by cases z)
theorem NewAt.mono {He H : Hp} {v : V} {s : Sl} (h : Same He H) (n : NewAt H v s) : NewAt He v s := fun o a e => h.free (n o a e)
theorem ws_retO (h : EvO K W te ρ E.rt (fun x => E.ex x ρ)) : WS K W (tRet te) ρ E := fun He0 He σ H0 H D S e =>
  h He0 He σ H0 H _ S (e.exs σ ρ) fun v d H1 H1' p S1 e1 r1 n => e.rt d v H1 H1' p S1.e r1 (n.mono S.e.s)
/-- a slot of one's own handed back -/
theorem ws_retv {i : Nat} {s : Sl} (h : ρ[i]? = some s) (n : s ≠ .no) (p : E.rt s) : WS K W (tRet (tVar i)) ρ E := fun He0 He σ H0 H D S e => by
  obtain ⟨v, h1, h2, h3⟩ := S.sl i s h n
  exact ⟨v, h1, e.rt s v H0 H p S.e h2 h3⟩
theorem ws_if (h : BvP K W tt ρ (fun c => if c = true then WS K W ts ρ E else WS K W tr ρ E) (fun x => E.ex x ρ)) : WS K W (tIfS tt ts tr) ρ E := fun He0 He σ H0 H D S e =>
  h He0 He σ H0 H _ S (e.exs σ ρ) fun c H1 H1' p S1 e1 => by
    cases c with
    | true => exact (show WS K W ts ρ E from p) He0 He σ H1 H1' D S1 e
    | false => exact (show WS K W tr ρ E from p) He0 He σ H1 H1' D S1 e
theorem ws_set {i : Nat} (h : EvP K W te ρ (fun d => E.nx (ρ.set i (.dat d))) (fun x => E.ex x ρ)) : WS K W (tAsg te (gName i)) ρ E := fun He0 He σ H0 H D S e =>
  h He0 He σ H0 H _ S (e.exs σ ρ) fun v d H1 H1' p S1 e1 r1 => e.nx _ _ H1 H1' p (S1.setD i r1)
theorem ap_new {He0 He : Hp} {σ : St} {H0 H : Hp} (S : StOk K He0 He σ H0 H ρ) {v : V} {s : Sl} (n : NewAt H v s) : s.isOwn = true → ∀ a, v = .ref a → ∀ (j : Nat) (t : Sl), ρ[j]? = some t → t.isOwn = true → σ[j]? ≠ some (some (.ref a)) := fun o a ea j t hj ht e => by
  obtain ⟨v', h1, h2, h3⟩ := S.sl j t hj (by intro z; rw [z] at ht; cases ht)
  obtain ⟨b, rfl, n0, ob⟩ := own_of ht h2
  rw [h1] at e
  cases e
  obtain ⟨u, hu, _⟩ := ob.there
  rw [n o a ea] at hu
  cases hu
theorem ws_setO {i : Nat} (h : EvO K W te ρ (fun s => E.nx (ρ.set i s)) (fun x => E.ex x ρ)) : WS K W (tAsg te (gName i)) ρ E := fun He0 He σ H0 H D S e =>
  h He0 He σ H0 H _ S (e.exs σ ρ) fun v s H1 H1' p S1 e1 r1 n => e.nx _ _ H1 H1' p (S1.set i r1 (n.mono S.e.s) fun o a ea j t hj => ap_new S n o a ea j t)
theorem ws_freeze {i : Nat} {s : Sl} (h : ρ[i]? = some s) (ho : s.isOwn = true) (w : WS K W ts (ρ.set i (.dat s.still)) E) : WS K W ts ρ E := fun He0 He σ H0 H D S e => by
  obtain ⟨H1, s1, S1⟩ := S.freeze h ho
  exact w He0 He σ H1 H D S1 e
/-- x.append(e), x one's own list -/
theorem ws_append {i : Nat} {ds : List D} (h : ρ[i]? = some (.own ds)) (w : EvP K W te ρ (fun y => ds.length < sizeLine ∧ E.nx (ρ.set i (.own (ds ++ [y])))) (fun x => E.ex x ρ)) :
    WS K W (tDrop (tBM K "list" rAppend (tVar i) (tCons te tNil))) ρ E := fun He0 He σ H0 H D S e => by
  obtain ⟨v, h1, h2, h3⟩ := S.sl i _ h (by intro z; cases z)
  obtain ⟨a, rfl, n0, xs, ha, rs⟩ := h2
  refine ⟨_, h1, .inl ⟨rfl, _, .inl (.inl ha)⟩, w He0 He σ H0 H _ S (e.exs σ ρ) fun u y H1 H1' p S1 e1 r1 => ?_⟩
  have ha1 := e1.s _ _ ha
  have n1 : H1 a = none := e1.none n0 ha
  refine ⟨a, xs, u, rfl, rfl, ha1, by rw [rs.length]; exact p.1, ?_⟩
  refine e.nx _ σ H1 _ p.2 ?_
  have il : i < ρ.length := (List.getElem?_eq_some_iff.mp h).1
  have sub2 : Same H1 (upd H1' a (.lst (xs ++ [u]))) := fun b o q => by rw [upd_ne (ne_of_none q n1)]; exact S1.sub _ _ q
  refine ⟨⟨S1.e.s0, fun b o q => ?_, sub2, S1.e.fr⟩, by rw [List.length_set]; exact S1.len, fun j t hj hn => ?_, fun j k t w b hjk hj hk ht hw q => ?_⟩
  · rw [upd_ne (ne_of_none q (h3 rfl a rfl))]; exact S1.e.s _ _ q
  · by_cases hji : i = j
    · subst hji
      rw [List.getElem?_set_self il] at hj
      cases hj
      exact ⟨.ref a, h1, ⟨a, rfl, n1, _, upd_same, (rs.mono e1.s0).append (.one r1)⟩, fun _ b e => h3 rfl b e⟩
    · rw [List.getElem?_set_ne hji] at hj
      obtain ⟨v', g1, g2, g3⟩ := S1.sl j t hj hn
      refine ⟨v', g1, ?_, g3⟩
      by_cases hto : t.isOwn = true
      · obtain ⟨b, rfl, nb, ob⟩ := own_of hto g2
        have hba : b ≠ a := fun z => by
          subst z
          exact S.ap i j (.own ds) t b hji h hj rfl hto h1 g1
        have ob' : OwnAt K H1 (upd H1' a (.lst (xs ++ [u]))) b t := by
          cases t with
          | no => exact ob
          | ref c => exact ob
          | exc c o x => exact ob
          | dat d => exact ob
          | own ds => obtain ⟨xs, q1, q2⟩ := ob; exact ⟨xs, by rw [upd_ne hba]; exact q1, q2⟩
          | oK ks vs => obtain ⟨xs, q1, q2, q3⟩ := ob; exact ⟨xs, by rw [upd_ne hba]; exact q1, q2, q3⟩
          | oT ks vs => obtain ⟨xs, q1, q2, q3⟩ := ob; exact ⟨xs, by rw [upd_ne hba]; exact q1, q2, q3⟩
        cases t with
        | no => cases hto
        | ref c => cases hto
        | exc c o x => cases hto
        | dat d => cases hto
        | own ds => exact ⟨b, rfl, nb, ob'⟩
        | oK ks vs => exact ⟨b, rfl, nb, ob'⟩
        | oT ks vs => exact ⟨b, rfl, nb, ob'⟩
      · cases t with
        | no => trivial
        | ref c => exact g2
        | exc c o x => exact g2
        | dat d => exact g2
        | own ds => exact absurd rfl hto
        | oK ks vs => exact absurd rfl hto
        | oT ks vs => exact absurd rfl hto
  · have get : ∀ {j : Nat} {t : Sl}, t.isOwn = true → (ρ.set i (.own (ds ++ [y])))[j]? = some t → ∃ t', t'.isOwn = true ∧ ρ[j]? = some t' := fun {j t} ht q => by
      by_cases hj : i = j
      · subst hj
        exact ⟨_, rfl, h⟩
      · rw [List.getElem?_set_ne hj] at q
        exact ⟨t, ht, q⟩
    obtain ⟨t', q1, q2⟩ := get ht hj
    obtain ⟨w', q3, q4⟩ := get hw hk
    exact S.ap j k t' w' b hjk q2 q4 q1 q3 q
end
end DL

set_option maxRecDepth 100000
set_option maxHeartbeats 1000000
namespace DL
open PySem PySem.Spec L2
section
variable {K : PySem.W.Frag} {W : WX} {te ta tb tc tl : TE} {tt tu : TT} {ts tr : TS} {tas : TA} {ρ : Rho} {P : D → Prop} {PB : Bool → Prop} {PS : Sl → Prop} {PA : List D → Prop} {X : Exn → Prop} {E : En} {r r' : R2} {g : TG} {u : TGs}
/-! ### targets -/
def GvP (K : PySem.W.Frag) (g : TG) (d : D) (ρ : Rho) (P : Rho → Prop) : Prop :=
  ∀ (He0 He : Hp) (σ : St) (H0 H : Hp) (v : V) (Q : St → Hp → Prop), StOk K He0 He σ H0 H ρ → Rp K H0 v d → (∀ ρ' σ', P ρ' → StOk K He0 He σ' H0 H ρ' → Q σ' H) → g v σ H Q
variable {PR : Rho → Prop} {d : D} {ds : List D}
theorem gv_name {i : Nat} (p : PR (ρ.set i (.dat d))) : GvP K (gName i) d ρ PR := fun He0 He σ H0 H v Q S r k => k _ _ p (S.setD i r)
/-! ### another ground -/
theorem StOk.base {He0 He H1 : Hp} {σ : St} {H0 H : Hp} (S : StOk K He0 He σ H0 H ρ) (s1 : Same He0 H1) (s0 : Same H1 H0) : StOk K H1 He σ H0 H ρ :=
  ⟨⟨s0, S.e.s, S.e.sub, fun a o n e => S.e.fr a o (s1.free n) e⟩, S.len, S.sl, S.ap⟩
theorem Ext.unbase {He0 He H1 H1' H0 H : Hp} (e1 : Ext He0 He H1 H1') (e : Ext H1 He H0 H) : Ext He0 He H0 H :=
  ⟨e1.s0.trans e.s0, e.s, e.sub, fun a o n q => by
    cases z : H1 a with
    | none => exact e.fr a o z q
    | some u => exact e1.fr a u n z⟩
theorem StOk.unbase {He0 He H1 H1' : Hp} {σ : St} {H0 H : Hp} (e1 : Ext He0 He H1 H1') (S : StOk K H1 He σ H0 H ρ) : StOk K He0 He σ H0 H ρ := ⟨e1.unbase S.e, S.len, S.sl, S.ap⟩
/-- a loop's body over the ground at the loop's entry -/
theorem EndsOk.loop {He0 He H1 H1' : Hp} {D : Ends} {I : Rho → Prop} {N : St → Hp → Prop} (e : EndsOk K He0 He W E D) (e1 : Ext He0 He H1 H1')
    (hN : ∀ ρ σ H0 H, I ρ → StOk K H1 He σ H0 H ρ → N σ H) : EndsOk K H1 He W { nx := I, ct := I, bk := E.nx, rt := E.rt, ex := E.ex } { D with nx := N, ct := N, bk := D.nx } :=
  ⟨hN, fun s v H0 H q x => e.rt s v H0 H q (e1.unbase x), fun ρ σ H0 H q S => e.nx ρ σ H0 H q (S.unbase e1), hN, fun x ρ σ H0 H c o q S => e.ex x ρ σ H0 H c o q (S.unbase e1)⟩
/-! ### loops -/
/-- one turn of a loop with the item x, from the state ρ' to I -/
def Turn1 (K : PySem.W.Frag) (W : WX) (g : TG) (tb : TS) (E : En) (x : D) (ρ' : Rho) (I : Rho → Prop) : Prop := GvP K g x ρ' fun ρ'' => WS K W tb ρ'' { nx := I, ct := I, bk := E.nx, rt := E.rt, ex := E.ex }
theorem ws_while {tb : TS} (I : Nat → Rho → Prop) (i0 : ∃ m, I m ρ) (turn : ∀ m ρ', I m ρ' → BvP K W tt ρ' (fun b => if b = true then
      WS K W tb ρ' { nx := fun ρ'' => ∃ m', m' < m ∧ I m' ρ'', ct := fun ρ'' => ∃ m', m' < m ∧ I m' ρ'', bk := E.nx, rt := E.rt, ex := E.ex } else E.nx ρ') (fun x => E.ex x ρ')) :
    WS K W (tWhile tt tb) ρ E := fun He0 He σ H0 H D S e => by
  obtain ⟨m0, i0⟩ := i0
  refine ⟨fun m σ H => ∃ ρ' G, I m ρ' ∧ StOk K He0 He σ G H ρ', ⟨m0, ρ, H0, i0, S⟩, ?_⟩
  rintro m σ' H' ⟨ρ', G, hI, S'⟩
  refine turn m ρ' hI He0 He σ' G H' _ S' (e.exs σ' ρ') fun b G1 H1 p S1 e1 => ?_
  cases b with
  | true =>
    rw [if_pos rfl] at p ⊢
    refine ⟨fun σ H => ∃ m' ρ' G, m' < m ∧ I m' ρ' ∧ StOk K He0 He σ G H ρ', fun σ2 H2 ⟨m', ρ2, G2, hm, hI2, S2⟩ => ⟨m', hm, ρ2, G2, hI2, S2⟩, ?_⟩
    refine p He0 He σ' G1 H1 _ S1 ⟨?_, e.rt, e.nx, ?_, e.ex⟩
    · rintro ρ2 σ2 G2 H2 ⟨m', hm, q⟩ S2
      exact ⟨m', ρ2, G2, hm, q, S2⟩
    · rintro ρ2 σ2 G2 H2 ⟨m', hm, q⟩ S2
      exact ⟨m', ρ2, G2, hm, q, S2⟩
  | false =>
    rw [if_neg Bool.false_ne_true] at p ⊢
    exact e.nx ρ' σ' G1 H1 p S1
/-! ### comprehensions -/
def wipeR (ρ : Rho) : List Nat → Rho
  | [] => ρ
  | v :: vs => (wipeR ρ vs).set v .no
theorem StOk.wipe {He0 He : Hp} {σ : St} {H0 H : Hp} (S : StOk K He0 He σ H0 H ρ) : ∀ vs : List Nat, StOk K He0 He (wipe σ vs) H0 H (wipeR ρ vs)
  | [] => S
  | v :: vs => (S.wipe vs).wipe1 v
/-- the target stays within the slots vs -/
def GIn (g : TG) (vs : List Nat) : Prop := ∀ (v : V) (σ : St) (H : Hp) (Q : St → Hp → Prop), g v σ H Q → g v σ H fun σ' H' => L2.wipe σ' vs = L2.wipe σ vs ∧ Q σ' H'
theorem wipe_none {σ : St} {i : Nat} : ∀ {vs : List Nat}, i ∈ vs → (L2.wipe σ vs).set i none = L2.wipe σ vs
  | [], h => by simp at h
  | v :: vs, h => by
    unfold L2.wipe
    by_cases e : v = i
    · subst e
      rw [List.set_set]
    · have h' : i ∈ vs := by
        rcases List.mem_cons.mp h with z | z
        · exact absurd z.symm e
        · exact z
      rw [List.set_comm _ _ e, wipe_none h']
theorem wipe_set {σ : St} {i : Nat} {x : Option V} : ∀ {vs : List Nat}, i ∈ vs → L2.wipe (σ.set i x) vs = L2.wipe σ vs
  | [], h => by simp at h
  | v :: vs, h => by
    unfold L2.wipe
    by_cases e : i ∈ vs
    · rw [wipe_set e]
    · have e2 : i = v := by
        rcases List.mem_cons.mp h with z | z
        · exact z
        · exact absurd z e
      subst e2
      have go : ∀ (ws : List Nat), i ∉ ws → L2.wipe (σ.set i x) ws = (L2.wipe σ ws).set i x := by
        intro ws
        induction ws with
        | nil => intro _; rfl
        | cons w ws ih =>
          intro hw
          have hw1 : i ≠ w := fun z => hw (by rw [z]; exact List.mem_cons_self)
          unfold L2.wipe
          rw [ih fun z => hw (List.mem_cons_of_mem _ z), List.set_comm _ _ hw1]
      rw [go vs e, List.set_set]
theorem wipe_wipe {σ : St} {vs : List Nat} : L2.wipe (L2.wipe σ vs) vs = L2.wipe σ vs := by
  have go : ∀ ws : List Nat, (∀ i ∈ ws, i ∈ vs) → L2.wipe (L2.wipe σ vs) ws = L2.wipe σ vs := by
    intro ws
    induction ws with
    | nil => intro _; rfl
    | cons w ws ih =>
      intro h
      show (L2.wipe (L2.wipe σ vs) ws).set w none = _
      rw [ih fun i z => h i (List.mem_cons_of_mem _ z), wipe_none (h w List.mem_cons_self)]
  exact go vs fun _ h => h
theorem gin_name {i : Nat} {vs : List Nat} (h : i ∈ vs) : GIn (gName i) vs := fun v σ H Q q => ⟨wipe_set h, q⟩
abbrev W0 : WX := fun _ _ _ _ => False
abbrev X0 : Exn → Prop := fun _ => False
/-- one turn of a comprehension: the item x, the list so far acc, to J -/
def Turn2 (K : PySem.W.Frag) (g : TG) (tt : TT) (te : TE) (x : D) (ρ' : Rho) (acc : List D) (J : List D → Prop) : Prop :=
  GvP K g x ρ' fun ρ'' => BvP K W0 tt ρ'' (fun b => if b = true then EvP K W0 te ρ'' (fun y => acc.length < sizeLine ∧ J (acc ++ [y])) X0 else J acc) X0
/-- a write at an address that no slot owns -/
theorem StOk.writeO {He0 He : Hp} {σ : St} {H0 H : Hp} {a : Addr} {o : HO} (S : StOk K He0 He σ H0 H ρ) (n0 : H0 a = none) (ne : He a = none) (ap : ∀ (j : Nat) (t : Sl), ρ[j]? = some t → t.isOwn = true → σ[j]? ≠ some (some (.ref a))) :
    StOk K He0 He σ H0 (upd H a o) ρ := by
  refine ⟨⟨S.e.s0, fun b u q => by rw [upd_ne (ne_of_none q ne)]; exact S.e.s _ _ q, fun b u q => by rw [upd_ne (ne_of_none q n0)]; exact S.e.sub _ _ q, S.e.fr⟩, S.len, fun j t hj hn => ?_, S.ap⟩
  obtain ⟨v', g1, g2, g3⟩ := S.sl j t hj hn
  refine ⟨v', g1, ?_, g3⟩
  by_cases hto : t.isOwn = true
  · obtain ⟨b, rfl, nb, ob⟩ := own_of hto g2
    have hba : b ≠ a := fun z => by
      subst z
      exact ap j t hj hto g1
    have ob' : OwnAt K H0 (upd H a o) b t := by
      cases t with
      | no => exact ob
      | ref c => exact ob
      | exc c o x => exact ob
      | dat d => exact ob
      | own ds => obtain ⟨xs, q1, q2⟩ := ob; exact ⟨xs, by rw [upd_ne hba]; exact q1, q2⟩
      | oK ks vs => obtain ⟨xs, q1, q2, q3⟩ := ob; exact ⟨xs, by rw [upd_ne hba]; exact q1, q2, q3⟩
      | oT ks vs => obtain ⟨xs, q1, q2, q3⟩ := ob; exact ⟨xs, by rw [upd_ne hba]; exact q1, q2, q3⟩
    cases t with
    | no => cases hto
    | ref c => cases hto
    | exc c o x => cases hto
    | dat d => cases hto
    | own ds => exact ⟨b, rfl, nb, ob'⟩
    | oK ks vs => exact ⟨b, rfl, nb, ob'⟩
    | oT ks vs => exact ⟨b, rfl, nb, ob'⟩
  · cases t with
    | no => trivial
    | ref c => exact g2
    | exc c o x => exact g2
    | dat d => exact g2
    | own ds => exact absurd rfl hto
    | oK ks vs => exact absurd rfl hto
    | oT ks vs => exact absurd rfl hto
theorem Ext.writeO {H0 H H0' H' : Hp} {a : Addr} {o : HO} (e : Ext H0 H H0' H') (n : H a = Option.none) (n0 : H0' a = Option.none) : Ext H0 H H0' (upd H' a o) :=
  ⟨e.s0, fun b u q => by rw [upd_ne (ne_of_none q n)]; exact e.s _ _ q, fun b u q => by rw [upd_ne (ne_of_none q n0)]; exact e.sub _ _ q, e.fr⟩
/-- what stands between two turns of a comprehension: its list at D -/
structure CompAt (K : PySem.W.Frag) (He0 He : Hp) (σ : St) (ρ : Rho) (Hs0 Hs : Hp) (L : Addr) (acc : List D) (G H : Hp) : Prop where
  S : StOk K He0 He σ G H ρ
  e : Ext Hs0 Hs G H
  at_ : ∃ xs, H L = some (.lst xs) ∧ Rps K G xs acc
  n0 : G L = none
theorem lc_turn {vs : List Nat} {He0 He : Hp} {σ : St} {Hs0 Hs : Hp} {L : Addr} {acc : List D} {J : List D → Prop} {G H : Hp} {x : D} {v : V} (gi : GIn g vs) (nL : Hs L = none) (sHs : Same He Hs)
    (ap : ∀ (j : Nat) (t : Sl), (wipeR ρ vs)[j]? = some t → t.isOwn = true → (L2.wipe σ vs)[j]? ≠ some (some (.ref L)))
    (C : CompAt K He0 He (L2.wipe σ vs) (wipeR ρ vs) Hs0 Hs L acc G H) (rx : Rp K G v x) (t : Turn2 K g tt te x (wipeR ρ vs) acc J) {Nx : Hp → Prop}
    (hN : ∀ acc' G' H', J acc' → CompAt K He0 He (L2.wipe σ vs) (wipeR ρ vs) Hs0 Hs L acc' G' H' → Nx H') :
    g v (L2.wipe σ vs) H fun σ2 H2 => L2.wipe σ2 vs = L2.wipe σ vs ∧ tt σ2 H2 fun b H3 =>
      if b = true then te σ2 H3 fun y H4 => ∃ acc', H4 L = some (.lst acc') ∧ acc'.length < sizeLine ∧ Nx (upd H4 L (.lst (acc' ++ [y]))) else Nx H3 := by
  have q1 := gi v (L2.wipe σ vs) H _ (t He0 He (L2.wipe σ vs) G H v (fun σ2 H2 => tt σ2 H2 fun b H3 =>
      if b = true then te σ2 H3 fun y H4 => ∃ acc', H4 L = some (.lst acc') ∧ acc'.length < sizeLine ∧ Nx (upd H4 L (.lst (acc' ++ [y]))) else Nx H3) C.S rx fun ρ2 σ2 bv S2 => ?_)
  · rw [wipe_wipe] at q1
    exact q1
  · refine bv He0 He σ2 G H _ S2 (fun _ _ _ _ _ z => z.elim) fun b G3 H3 p3 S3 e3 => ?_
    obtain ⟨xs, hL, rs⟩ := C.at_
    cases b with
    | false =>
      rw [if_neg Bool.false_ne_true] at p3 ⊢
      exact hN acc G3 H3 p3 ⟨C.S.ext e3, C.e.trans e3, ⟨xs, e3.s _ _ hL, rs.mono e3.s0⟩, e3.none C.n0 hL⟩
    | true =>
      rw [if_pos rfl] at p3 ⊢
      refine p3 He0 He σ2 G3 H3 _ S3 (fun _ _ _ _ _ z => z.elim) fun y dy G4 H4 p4 S4 e4 r4 => ?_
      have e34 := e3.trans e4
      have hL4 := e34.s _ _ hL
      have n4 := e34.none C.n0 hL
      refine ⟨xs, hL4, by rw [rs.length]; exact p4.1, hN (acc ++ [dy]) G4 _ p4.2 ⟨?_, ?_, ?_, n4⟩⟩
      · exact (C.S.ext e34).writeO n4 (sHs.free nL) ap
      · exact (C.e.trans e34).writeO nL n4
      · exact ⟨xs ++ [y], upd_same, (rs.mono e34.s0).append (.one r4)⟩
/-- the list at its end becomes still -/
theorem CompAt.fin {vs : List Nat} {He0 He : Hp} {σ : St} {Hs0 Hs : Hp} {L : Addr} {acc : List D} {G H : Hp} (S : StOk K He0 He σ Hs0 Hs ρ) (nL : Hs L = none)
    (C : CompAt K He0 He (L2.wipe σ vs) (wipeR ρ vs) Hs0 Hs L acc G H) : ∃ G', StOk K He0 He σ G' H ρ ∧ Ext Hs0 Hs G' H ∧ Rp K G' (.ref L) (.lst acc) := by
  obtain ⟨xs, hL, rs⟩ := C.at_
  have s1 : Same G (upd G L (.lst xs)) := fun b o e => by rw [upd_ne (ne_of_none e C.n0)]; exact e
  have e1 : Ext Hs0 Hs (upd G L (.lst xs)) H := ⟨C.e.s0.trans s1, C.e.s, fun b o q => by
    by_cases hb : b = L
    · subst hb; rw [upd_same] at q; cases q; exact hL
    · rw [upd_ne hb] at q; exact C.e.sub _ _ q, fun b o n q => by
    by_cases hb : b = L
    · subst hb; exact .inl nL
    · rw [upd_ne hb] at q; exact C.e.fr b o n q⟩
  exact ⟨_, S.ext e1, e1, .lst upd_same (rs.mono s1)⟩
theorem CompAt.finO {vs : List Nat} {He0 He : Hp} {σ : St} {Hs0 Hs : Hp} {L : Addr} {acc : List D} {G H : Hp} (S : StOk K He0 He σ Hs0 Hs ρ) (nL : Hs L = none)
    (C : CompAt K He0 He (L2.wipe σ vs) (wipeR ρ vs) Hs0 Hs L acc G H) : StOk K He0 He σ G H ρ ∧ Ext Hs0 Hs G H ∧ RpS K G H (.ref L) (.own acc) := by
  obtain ⟨xs, hL, rs⟩ := C.at_
  exact ⟨S.ext C.e, C.e, L, rfl, C.n0, xs, hL, rs⟩
theorem CompAt.start {vs : List Nat} {He0 He : Hp} {σ : St} {Hs0 Hs : Hp} {L : Addr} (S : StOk K He0 He σ Hs0 Hs ρ) (nL : Hs L = none) :
    CompAt K He0 He (L2.wipe σ vs) (wipeR ρ vs) Hs0 Hs L [] Hs0 (upd Hs L (.lst [])) ∧ ∀ (j : Nat) (t : Sl), (wipeR ρ vs)[j]? = some t → t.isOwn = true → (L2.wipe σ vs)[j]? ≠ some (some (.ref L)) := by
  have S' := S.wipe vs
  have e : Ext Hs0 Hs Hs0 (upd Hs L (.lst [])) := .own S.sub nL
  refine ⟨⟨S'.ext e, e, ⟨[], upd_same, .nil⟩, S.sub.free nL⟩, fun j t hj ht q => ?_⟩
  obtain ⟨v', g1, g2, g3⟩ := S'.sl j t hj (by intro z; rw [z] at ht; cases ht)
  obtain ⟨b, rfl, nb, ob⟩ := own_of ht g2
  rw [g1] at q
  cases q
  obtain ⟨u, hu, _⟩ := ob.there
  rw [nL] at hu
  cases hu
theorem Ext.still {H0 H H0' H' : Hp} {a : Addr} {o : HO} (e : Ext H0 H H0' H') (n : H a = Option.none) (h : H' a = some o) : Ext H0 H (upd H0' a o) H' := by
  have n0 : H0' a = Option.none ∨ H0' a = some o := by
    cases q : H0' a with
    | none => exact .inl rfl
    | some u => right; rw [← h]; exact (e.sub _ _ q).symm
  refine ⟨fun b u q => ?_, e.s, fun b u q => ?_, fun b u n' q => ?_⟩
  · by_cases hb : b = a
    · subst hb
      have z := e.s0 _ _ q
      rcases n0 with n0 | n0
      · rw [n0] at z; cases z
      · rw [upd_same, ← z, n0]
    · rw [upd_ne hb]; exact e.s0 _ _ q
  · by_cases hb : b = a
    · subst hb; rw [upd_same] at q; cases q; exact h
    · rw [upd_ne hb] at q; exact e.sub _ _ q
  · by_cases hb : b = a
    · subst hb; exact .inl n
    · rw [upd_ne hb] at q; exact e.fr b u n' q
theorem still_up {H0 H H0' H' : Hp} {v : V} {s : Sl} (e : Ext H0 H H0' H') (r : RpS K H0' H' v s) (n : NewAt H v s) (hn : s.ok = true) : ∃ G, Ext H0 H G H' ∧ Rp K G v s.still := by
  by_cases ho : s.isOwn = true
  · obtain ⟨a, rfl, n0, oa⟩ := own_of ho r
    obtain ⟨u, hu, mk⟩ := still_of (v := .ref a) oa
    have s1 : Same H0' (upd H0' a u) := fun b o q => by rw [upd_ne (ne_of_none q n0)]; exact q
    exact ⟨_, e.still (n ho a rfl) hu, mk _ s1 upd_same⟩
  · cases s with
    | no => cases hn
    | ref c => cases hn
    | exc c o x => cases hn
    | dat d => exact ⟨H0', e, r⟩
    | own ds => exact absurd rfl ho
    | oK ks vs => exact absurd rfl ho
    | oT ks vs => exact absurd rfl ho
theorem EvO.still (h : EvO K W te ρ (fun s : Sl => s.ok = true ∧ P s.still) X) : EvP K W te ρ P X := fun He0 He σ H0 H Q S x k => by
  refine h He0 He σ H0 H Q S x fun v s H0' H' p S' e r n => ?_
  obtain ⟨G, e', r'⟩ := still_up e r n p.1
  exact k v _ G H' p.2 (S.ext e') e' r'
theorem EvO.own (h : EvO K W te ρ (fun s : Sl => ∃ ds, s = .own ds ∧ P (.lst ds)) X) : EvP K W te ρ P X := EvO.still fun He0 He σ H0 H Q S x k =>
  h He0 He σ H0 H Q S x fun v s H0' H' ⟨ds, e, p⟩ => k v s H0' H' (by subst e; exact ⟨rfl, p⟩)
/-! ### promises -/
def spD (K : PySem.W.Frag) (pre : List D → Prop) (post : List D → Sl → Prop) (exn : List D → Exn → Prop) : Sp := fun vs H Q E => ∃ (ds : List D) (H0 : Hp), Same H0 H ∧ Rps K H0 vs ds ∧ pre ds ∧
  (∀ v s H0' H', post ds s → Ext H0 H H0' H' → RpS K H0' H' v s → NewAt H v s → Q v H') ∧ ∀ x cls od H0' H', exn ds x → Ext H0 H H0' H' → ExnRep K H0' H' x cls od → E cls od H'
variable {pre : List D → Prop} {post : List D → Sl → Prop} {exn : List D → Exn → Prop}
theorem eo_call (h : AvP K W tas ρ (fun ds => pre ds ∧ (∀ s, post ds s → PS s) ∧ ∀ x, exn ds x → X x) X) : EvO K W (tCallS (spD K pre post exn) (WE W) tas) ρ PS X := fun He0 He σ H0 H Q S x k => by
  refine h He0 He σ H0 H _ S x fun vs ds H1 H1' p S1 e1 r1 => ⟨ds, H1, S1.sub, r1, p.1, ?_, ?_⟩
  · intro v s H2 H2' q e2 r2 n2
    exact k v s H2 H2' (p.2.1 s q) (S1.ext e2) (e1.trans e2) r2 (n2.mono e1.s)
  · intro y cls od H2 H2' q e2 r2
    exact x y cls od H2 H2' (p.2.2 y q) (S1.ext e2) r2
/-- a def's entry -/
def startR (n : Nat) (ds : List D) : Rho := ds.map Sl.dat ++ List.replicate (n - ds.length) .no
theorem start_ok {N : List Str} {H0 H : Hp} {vs : List V} {ds : List D} (s : Same H0 H) (r : Rps K H0 vs ds) : StOk K H0 H (L2.start N vs) H0 H (startR N.length ds) := by
  have hl := r.length
  refine ⟨.refl s, ?_, fun i t h hn => ?_, fun i j t u a hij hi hj ht hu e => ?_⟩
  · unfold L2.start startR
    rw [List.length_append, List.length_append, List.length_map, List.length_map, List.length_replicate, List.length_replicate, hl]
  · unfold startR at h
    by_cases hi : i < ds.length
    · rw [List.getElem?_append_left (by rw [List.length_map]; exact hi), List.getElem?_map] at h
      cases q : ds[i]? with
      | none => rw [q] at h; cases h
      | some d =>
        rw [q] at h
        cases h
        obtain ⟨v, h1, h2⟩ := r.get q
        refine ⟨v, ?_, h2, fun z => by cases z⟩
        unfold L2.start
        rw [List.getElem?_append_left (by rw [List.length_map, hl]; exact hi), List.getElem?_map, h1] <;> rfl
    · rw [List.getElem?_append_right (by rw [List.length_map]; omega)] at h
      have := List.mem_of_getElem? h
      rw [List.mem_replicate] at this
      exact absurd this.2 hn
  · unfold startR at hi
    have := List.mem_of_getElem? hi
    rcases List.mem_append.mp this with z | z
    · obtain ⟨d, _, rfl⟩ := List.mem_map.mp z
      cases ht
    · rw [List.mem_replicate] at z
      rw [z.2] at ht
      cases ht
abbrev WD (E : XK) : WX := fun cls d _ H => E cls d H
/-- THE RULE for a def -/
theorem fn_ws {P : Program} {w : World} {mg : Str → Option Value} {base : Heap} {x qual : Str} {st : Stmt} {f : Addr} {fd : FuncData} {N ps : List Str} {k : Nat} (F : Fun K x qual st f fd) (S : FnScope N ps (defScope st)) (len : ∀ ds, pre ds → ds.length = ps.length)
    (hbody : ∀ (cdv : Value) (A : Around) (outer : List PySem.Env) (s : Shared) (H : Hp) (E : XK), Room k (A.deeper (PyProof.Rows.envOfC qual (defScope st) s.heap.objs.size f cdv)) →
      ∃ t, PSs (cxOf (L2.CX P w) P w K mg base N qual (defScope st) f cdv A outer s H E) (defBody st) t ∧
        ∀ ds, pre ds → WS K (WD E) t (startR N.length ds) { nx := fun _ => post ds (.dat .non), rt := post ds, ex := fun x _ => exn ds x }) :
    FnOk P w K mg base (L2.CX P w) (k + 1) f fd ps (spD K pre post exn) := by
  refine F.okX S (fun vs H Q E h => ?_) (fun cdv A outer s H vs Q E hr h => ?_)
  · obtain ⟨ds, H0, _, r, p, _⟩ := h
    rw [r.length]
    exact len ds p
  · obtain ⟨ds, H0, sub, r, p, kq, ke⟩ := h
    obtain ⟨t, h1, h2⟩ := hbody cdv A outer s H E hr
    refine ⟨t, h1, h2 ds p H0 H (L2.start N vs) H0 H _ (start_ok sub r) ⟨fun ρ σ G H' q S' => kq .non (.dat .non) G H' q S'.e .non (fun z => by cases z), fun s' v G H' q e' r' n' => kq v s' G H' q e' r' n', fun _ _ _ _ z => z.elim, fun _ _ _ _ z => z.elim, fun x ρ σ G H' c o q S' r' => ke x c o G H' q S'.e r'⟩⟩
/-! ### raise, try -/
theorem ws_raise0 {C : Addr} (h : E.ex ⟨C, none⟩ ρ) : WS K W (fun _ σ H => (fun (_ : St) (H : Hp) (Q : XK) => Q (.ref C) none H) σ H fun cls d H' => W cls d σ H') ρ E := fun He0 He σ H0 H D S e =>
  e.ex ⟨C, none⟩ ρ σ H0 H (.ref C) none h S ⟨rfl, fun _ => rfl, fun f d z => by cases z⟩
end
end DL

set_option maxRecDepth 100000
set_option maxHeartbeats 1000000
namespace PyProof.Rows
open PySem
section
variable {prog : Program} {w : World} {A : Around} {E : Value → Shared → Prop} {s : Shared}
end
end PyProof.Rows
namespace SrtO
open PySem PyProof.Rows
section
variable {prog : Program} {w : World} {A : Around} {E : Value → Shared → Prop} {s : Shared}
end
end SrtO
namespace DL
open PySem PySem.Spec L2
section
variable {X : Cx}
/-! ### rules of several kinds in one -/
abbrev rAddS : R2 := fun x y H Q => ∃ i j, x = .str i ∧ y = .str j ∧ i.length + j.length ≤ sizeLine ∧ Q (.str (i ++ j)) H
def rAdd (K : PySem.W.Frag) : R2 := fun x y H Q => (((rI0 fun i j => .int (i + j)) x y H Q ∨ rAddS x y H Q) ∨ rCat x y H Q) ∨ rCatA K x y H Q
theorem op_addA : OpR X (binaryOp .Add) (rAdd X.K) := ((op_add.or op_add_str).or op_cat).or op_catA
def rMulA : R2 := fun x y H Q => ((rI CMul fun i j => .int (i * j)) x y H Q ∨ (rI CMulW fun i j => .int (i * j)) x y H Q) ∨ rRep x y H Q
theorem op_mulA : OpR X (binaryOp .Mult) rMulA := (op_mul.or op_mulW).or op_rep
def rDivA : R2 := fun x y H Q => (rI CDiv fun i j => .int (i / j)) x y H Q ∨ (rI CDivW fun i j => .int (i / j)) x y H Q
theorem op_divA : OpR X (binaryOp .FloorDiv) rDivA := op_fdiv.or op_fdivW
def rEqA (K : PySem.W.Frag) : R2 := fun x y H Q => rEq x y H Q ∨ rEqD K x y H Q
def rNeA (K : PySem.W.Frag) : R2 := fun x y H Q => rNe x y H Q ∨ rNeD K x y H Q
theorem op_eqA (hu : X.A.units + 64 < cLine) : OpR X (compareOp .Eq) (rEqA X.K) := op_eq.or (op_eqD hu)
theorem op_neA (hu : X.A.units + 64 < cLine) : OpR X (compareOp .NotEq) (rNeA X.K) := op_ne.or (op_neD hu)
theorem pe_globI {x : Str} {n : Int} {pos : Pos} (hg : Gl X x) (hm : ∃ t, X.mg x = some (.int n t)) (hd : (x == ("__debug__" : Str)) = false := by decide) : PE X (.Name x pos) (tC (.int n)) := by
  obtain ⟨t, h⟩ := hm
  exact pe_glob hg h ⟨_, rfl⟩ hd
theorem pe_globS {x : Str} {n : Str} {pos : Pos} (hg : Gl X x) (hm : ∃ t, X.mg x = some (.str n t)) (hd : (x == ("__debug__" : Str)) = false := by decide) : PE X (.Name x pos) (tC (.str n)) := by
  obtain ⟨t, h⟩ := hm
  exact pe_glob hg h ⟨_, rfl⟩ hd
end
section
variable {K : PySem.W.Frag} {P : D → Prop} {r r' : R2}
/-! ### .. by data -/
theorem od_addI {i j : Int} (p : P (.int (i + j))) : OpD K (rAdd K) (.int i) (.int j) P := fun H0 H v u Q s a b k => .inl (.inl (.inl (od_int0 (K := K) (g := fun i j => i + j) p H0 H v u Q s a b k)))
theorem od_addS {i j : Str} (hz : i.length + j.length ≤ sizeLine) (p : P (.str (i ++ j))) : OpD K (rAdd K) (.str i) (.str j) P := fun H0 H v u Q s a b k => by
  cases a; cases b
  exact .inl (.inl (.inr ⟨i, j, rfl, rfl, hz, k _ _ H0 H p (.refl s) (.str _)⟩))
theorem od_addL {i j : List D} (hz : i.length + j.length ≤ sizeLine) (p : P (.lst (i ++ j))) : OpD K (rAdd K) (.lst i) (.lst j) P := fun H0 H v u Q s a b k => by
  cases a with
  | lst ha ra =>
    cases b with
    | lst hb rb =>
      refine .inl (.inr ⟨_, _, _, _, rfl, rfl, s _ _ ha, s _ _ hb, by rw [ra.length, rb.length]; exact hz, fun q nq => ?_⟩)
      refine k _ _ _ _ p (.new s nq) (.lst upd_same ((ra.mono (Ext.new s nq).s0).append (rb.mono (Ext.new s nq).s0)))
theorem od_mulI {i j : Int} (c : CMul i j ∨ CMulW i j) (p : P (.int (i * j))) : OpD K rMulA (.int i) (.int j) P := fun H0 H v u Q s a b k => by
  rcases c with c | c
  · exact .inl (.inl (od_intC (K := K) (g := fun i j => i * j) c p H0 H v u Q s a b k))
  · exact .inl (.inr (od_intC (K := K) (g := fun i j => i * j) c p H0 H v u Q s a b k))
theorem od_mulL {j : Int} {i : List D} (c : 0 ≤ j ∧ j < 2 ^ 63 ∧ i.length * j.toNat ≤ sizeLine) (p : P (.lst (List.replicate j.toNat i).flatten)) : OpD K rMulA (.lst i) (.int j) P := fun H0 H v u Q s a b k => by
  cases a with
  | lst ha ra =>
    cases b
    refine .inr ⟨_, _, _, rfl, rfl, s _ _ ha, by omega, c.2.1, by rw [ra.length]; exact c.2.2, fun q nq => ?_⟩
    have rep : ∀ (n : Nat) (xs : List V) (G : Hp), Rps K G xs i → Rps K G (List.replicate n xs).flatten (List.replicate n i).flatten := fun n xs G hx => by
      induction n with
      | zero => exact .nil
      | succ n ih => rw [List.replicate_succ, List.replicate_succ, List.flatten_cons, List.flatten_cons]; exact hx.append ih
    exact k _ _ _ _ p (.new s nq) (.lst upd_same (rep _ _ _ (ra.mono (Ext.new s nq).s0)))
theorem od_divI {i j : Int} (h0 : 0 < j) (c : j < 1073741824 ∨ j.natAbs.log2 < 9000) (p : P (.int (i / j))) : OpD K rDivA (.int i) (.int j) P := fun H0 H v u Q s a b k => by
  rcases c with c | c
  · exact .inl (od_intC (K := K) (C := CDiv) (g := fun i j => i / j) ⟨h0, c⟩ p H0 H v u Q s a b k)
  · exact .inr (od_intC (K := K) (C := CDivW) (g := fun i j => i / j) ⟨h0, c⟩ p H0 H v u Q s a b k)
theorem od_modI {i j : Int} (h0 : 0 < j) (p : P (.int (i % j))) : OpD K (rI (fun _ j => 0 < j) fun i j => .int (i % j)) (.int i) (.int j) P := od_intC (C := fun _ j => 0 < j) (g := fun i j => i % j) h0 p
theorem od_powI {i j : Int} (c : 0 ≤ j ∧ j ≤ 1000000 ∧ i.natAbs < 2 ^ 64) (p : P (.int (i ^ j.toNat))) : OpD K (rI CPow fun i j => .int (i ^ j.toNat)) (.int i) (.int j) P := od_intC (C := CPow) (g := fun i j => i ^ j.toNat) c p
/-! ### == of data -/
mutual
def D.py : D → PyData
  | .non => .none | .bl b => .bool b | .int i => .int i | .str x => .str x | .lst l => .list (D.pys l) | .tup l => .tuple (D.pys l) | .dK _ _ => .none | .dT _ _ => .none | .src _ => .none | .fK _ _ => .none | .fT _ _ => .none | .ins _ _ _ => .none
def D.pys : List D → List PyData
  | [] => []
  | d :: l => D.py d :: D.pys l
end
/-- data of depth below n, without dicts -/
def Shp : Nat → D → Prop
  | _, .non | _, .bl _ | _, .int _ => True
  | _, .str x => PyData.strOk x = true
  | n + 1, .lst l | n + 1, .tup l => ∀ d ∈ l, Shp n d
  | _, _ => False
mutual
theorem Rp.dp {H : Hp} : ∀ {d : D} {v : V} {n : Nat}, Shp n d → Rp K H v d → Dp K H v d.py
  | .non, _, _, _, .non => .non
  | .bl _, _, _, _, .bl b => .bl b
  | .int _, _, _, _, .int i => .int i
  | .str _, _, _, _, .str i => .str i
  | .lst _, _, n + 1, h, .lst ha rs => .lst (.inl (.inl ha)) (Rps.dp (n := n) h rs)
  | .lst _, _, 0, h, _ => h.elim
  | .tup _, _, n + 1, h, .tup ha rs => .tup (.inl (.inl ha)) (Rps.dp (n := n) h rs)
  | .tup _, _, 0, h, _ => h.elim
  | .dK _ _, _, 0, h, _ => h.elim
  | .dK _ _, _, n + 1, h, _ => h.elim
  | .dT _ _, _, 0, h, _ => h.elim
  | .dT _ _, _, n + 1, h, _ => h.elim
  | .src _, _, 0, h, _ => h.elim
  | .src _, _, n + 1, h, _ => h.elim
  | .fK _ _, _, 0, h, _ => h.elim
  | .fK _ _, _, n + 1, h, _ => h.elim
  | .fT _ _, _, 0, h, _ => h.elim
  | .fT _ _, _, n + 1, h, _ => h.elim
  | .ins _ _ _, _, 0, h, _ => h.elim
  | .ins _ _ _, _, n + 1, h, _ => h.elim
theorem Rps.dp {H : Hp} : ∀ {ds : List D} {vs : List V} {n : Nat}, (∀ d ∈ ds, Shp n d) → Rps K H vs ds → DpAll K H vs (D.pys ds)
  | [], _, _, _, .nil => .nil
  | d :: ds, _, n, h, .cons r t => .cons (Rp.dp (h d List.mem_cons_self) r) (Rps.dp (fun x hx => h x (List.mem_cons_of_mem _ hx)) t)
end
mutual
theorem Shp.lay : ∀ {d : D} {n : Nat}, Shp n d → d.py.canLay0 = true ∧ d.py.depth ≤ n
  | .non, n, _ => ⟨rfl, Nat.zero_le _⟩
  | .bl _, n, _ => ⟨rfl, Nat.zero_le _⟩
  | .int _, n, _ => ⟨rfl, Nat.zero_le _⟩
  | .str x, n, h => ⟨by simp only [D.py, PyData.canLay0]; cases n <;> (unfold Shp at h; exact h), Nat.zero_le _⟩
  | .lst l, n + 1, h => by
    obtain ⟨h1, h2⟩ := Shp.lays (n := n) (ds := l) h
    exact ⟨by simp only [D.py, PyData.canLay0]; exact h1, by simp only [D.py, PyData.depth]; omega⟩
  | .tup l, n + 1, h => by
    obtain ⟨h1, h2⟩ := Shp.lays (n := n) (ds := l) h
    exact ⟨by simp only [D.py, PyData.canLay0]; exact h1, by simp only [D.py, PyData.depth]; omega⟩
  | .lst _, 0, h => h.elim
  | .tup _, 0, h => h.elim
  | .dK _ _, 0, h => h.elim
  | .dK _ _, n + 1, h => h.elim
  | .dT _ _, 0, h => h.elim
  | .dT _ _, n + 1, h => h.elim
  | .src _, 0, h => h.elim
  | .src _, n + 1, h => h.elim
  | .fK _ _, 0, h => h.elim
  | .fK _ _, n + 1, h => h.elim
  | .fT _ _, 0, h => h.elim
  | .fT _ _, n + 1, h => h.elim
  | .ins _ _ _, 0, h => h.elim
  | .ins _ _ _, n + 1, h => h.elim
theorem Shp.lays : ∀ {ds : List D} {n : Nat}, (∀ d ∈ ds, Shp n d) → PyData.canLayAll0 (D.pys ds) = true ∧ PyData.depthAll (D.pys ds) ≤ n
  | [], n, _ => ⟨rfl, Nat.zero_le _⟩
  | d :: ds, n, h => by
    obtain ⟨a1, a2⟩ := Shp.lay (h d List.mem_cons_self)
    obtain ⟨b1, b2⟩ := Shp.lays (ds := ds) (n := n) (fun x hx => h x (List.mem_cons_of_mem _ hx))
    refine ⟨by simp only [D.pys, PyData.canLayAll0, a1, b1, Bool.and_self], ?_⟩
    simp only [D.pys, PyData.depthAll]
    omega
end
theorem Shp.shaped {d : D} {n : Nat} (h : Shp n d) (hn : n ≤ 64 := by decide) : SeqAt.shaped d.py = true := by
  obtain ⟨h1, h2⟩ := h.lay
  unfold SeqAt.shaped
  rw [h1, Bool.true_and]
  exact decide_eq_true (by omega)
/-- as Python's ==, where no bool meets an int -/
def D.eqb (d e : D) : Bool := PyData.eqv d.py e.py
theorem od_eqD {d e : D} {n m : Nat} (h1 : Shp n d) (h2 : Shp m e) (p : P (.bl (D.eqb d e))) (hn : n ≤ 64 := by decide) (hm : m ≤ 64 := by decide) : OpD K (rEqA K) d e P := fun H0 H v u Q s a b k =>
  .inr ⟨d.py, e.py, (a.mono s).dp h1, (b.mono s).dp h2, h1.shaped hn, h2.shaped hm, k _ _ H0 H p (.refl s) (.bl _)⟩
theorem od_neD {d e : D} {n m : Nat} (h1 : Shp n d) (h2 : Shp m e) (p : P (.bl (!D.eqb d e))) (hn : n ≤ 64 := by decide) (hm : m ≤ 64 := by decide) : OpD K (rNeA K) d e P := fun H0 H v u Q s a b k =>
  .inr ⟨d.py, e.py, (a.mono s).dp h1, (b.mono s).dp h2, h1.shaped hn, h2.shaped hm, k _ _ H0 H p (.refl s) (.bl _)⟩
theorem od_eqAI {i j : Int} (p : P (.bl (decide (i = j)))) : OpD K (rEqA K) (.int i) (.int j) P := fun H0 H v u Q s a b k => .inl (od_eqI (K := K) p H0 H v u Q s a b k)
theorem od_neAI {i j : Int} (p : P (.bl (decide (i ≠ j)))) : OpD K (rNeA K) (.int i) (.int j) P := fun H0 H v u Q s a b k => .inl (od_neI (K := K) p H0 H v u Q s a b k)
theorem od_eqAS {i j : Str} (p : P (.bl (decide (i = j)))) : OpD K (rEqA K) (.str i) (.str j) P := fun H0 H v u Q s a b k => .inl (od_eqS (K := K) p H0 H v u Q s a b k)
theorem od_neAS {i j : Str} (p : P (.bl (decide (i ≠ j)))) : OpD K (rNeA K) (.str i) (.str j) P := fun H0 H v u Q s a b k => .inl (od_neS (K := K) p H0 H v u Q s a b k)
theorem od_eqAB {i j : Bool} (p : P (.bl (decide (i = j)))) : OpD K (rEqA K) (.bl i) (.bl j) P := fun H0 H v u Q s a b k => .inl (od_eqB (K := K) p H0 H v u Q s a b k)
theorem od_neAB {i j : Bool} (p : P (.bl (decide (i ≠ j)))) : OpD K (rNeA K) (.bl i) (.bl j) P := fun H0 H v u Q s a b k => .inl (od_neB (K := K) p H0 H v u Q s a b k)
mutual
theorem eqv_self : ∀ {d : D} {n : Nat}, Shp n d → PyData.eqv d.py d.py = true
  | .non, _, _ => rfl
  | .bl b, _, _ => by simp [D.py, PyData.eqv]
  | .int i, _, _ => by simp [D.py, PyData.eqv]
  | .str x, _, _ => by simp [D.py, PyData.eqv]
  | .lst l, n + 1, h => by simp only [D.py, PyData.eqv]; exact eqvs_self (n := n) h
  | .tup l, n + 1, h => by simp only [D.py, PyData.eqv]; exact eqvs_self (n := n) h
  | .lst _, 0, h => h.elim
  | .tup _, 0, h => h.elim
  | .dK _ _, 0, h => h.elim
  | .dK _ _, n + 1, h => h.elim
  | .dT _ _, 0, h => h.elim
  | .dT _ _, n + 1, h => h.elim
  | .src _, 0, h => h.elim
  | .src _, n + 1, h => h.elim
  | .fK _ _, 0, h => h.elim
  | .fK _ _, n + 1, h => h.elim
  | .fT _ _, 0, h => h.elim
  | .fT _ _, n + 1, h => h.elim
  | .ins _ _ _, 0, h => h.elim
  | .ins _ _ _, n + 1, h => h.elim
theorem eqvs_self : ∀ {ds : List D} {n : Nat}, (∀ d ∈ ds, Shp n d) → PyData.eqvAll (D.pys ds) (D.pys ds) = true
  | [], _, _ => rfl
  | d :: ds, n, h => by
    simp only [D.pys, PyData.eqvAll, eqv_self (h d List.mem_cons_self), eqvs_self (ds := ds) (n := n) (fun x hx => h x (List.mem_cons_of_mem _ hx)), Bool.and_self]
end
/-! ### built-ins -/
theorem cd_abs {i : Int} (p : P (.int (if i < 0 then -i else i))) : CbD K (fun xs H Q => ∃ i, xs = [.int i] ∧ Q (.int (if i < 0 then -i else i)) H) [.int i] P := fun H0 H vs Q s r k => by
  cases r with
  | cons r1 r2 => cases r1; cases r2; exact ⟨i, rfl, k _ _ H0 H p (.refl s) (.int _)⟩
theorem cd_max2 {i j : Int} (p : P (.int (if j > i then j else i))) : CbD K (fun xs H Q => ∃ i j, xs = [.int i, .int j] ∧ Q (.int (if j > i then j else i)) H) [.int i, .int j] P := fun H0 H vs Q s r k => by
  cases r with
  | cons r1 r2 =>
    cases r1
    cases r2 with
    | cons r3 r4 => cases r3; cases r4; exact ⟨i, j, rfl, k _ _ H0 H p (.refl s) (.int _)⟩
theorem cd_min2 {i j : Int} (p : P (.int (if j < i then j else i))) : CbD K (fun xs H Q => ∃ i j, xs = [.int i, .int j] ∧ Q (.int (if j < i then j else i)) H) [.int i, .int j] P := fun H0 H vs Q s r k => by
  cases r with
  | cons r1 r2 =>
    cases r1
    cases r2 with
    | cons r3 r4 => cases r3; cases r4; exact ⟨i, j, rfl, k _ _ H0 H p (.refl s) (.int _)⟩
abbrev rInt1 : List V → Hp → VK → Prop := fun xs H Q => (∃ i, xs = [.int i] ∧ Q (.int i) H) ∨ ∃ k, xs = [.bl k] ∧ Q (.int (if k then 1 else 0)) H
theorem cd_int {i : Int} (p : P (.int i)) : CbD K rInt1 [.int i] P := fun H0 H vs Q s r k => by
  cases r with
  | cons r1 r2 => cases r1; cases r2; exact .inl ⟨i, rfl, k _ _ H0 H p (.refl s) (.int _)⟩
theorem cd_intB {i : Bool} (p : P (.int (if i then 1 else 0))) : CbD K rInt1 [.bl i] P := fun H0 H vs Q s r k => by
  cases r with
  | cons r1 r2 => cases r1; cases r2; exact .inr ⟨i, rfl, k _ _ H0 H p (.refl s) (.int _)⟩
abbrev rLn (K : PySem.W.Frag) : List V → Hp → VK → Prop := fun xs H Q => ∃ x n, xs = [x] ∧ LenV K x H n ∧ Q (.int n) H
theorem cd_lenL {l : List D} (p : P (.int l.length)) : CbD K (rLn K) [.lst l] P := fun H0 H vs Q s r k => by
  cases r with
  | cons r1 r2 =>
    cases r2
    cases r1 with
    | lst ha rs => exact ⟨_, l.length, rfl, .inl ⟨_, .inl (.inl (s _ _ ha)), rs.length.symm⟩, k _ _ H0 H p (.refl s) (.int _)⟩
theorem cd_lenT {l : List D} (p : P (.int l.length)) : CbD K (rLn K) [.tup l] P := fun H0 H vs Q s r k => by
  cases r with
  | cons r1 r2 =>
    cases r2
    cases r1 with
    | tup ha rs => exact ⟨_, l.length, rfl, .inr ⟨_, .inl (.inl (s _ _ ha)), rs.length.symm⟩, k _ _ H0 H p (.refl s) (.int _)⟩
theorem cd_lenS {l : Str} (h : l.length ≤ sizeLine) (p : P (.int l.length)) : CbD K (rLn K) [.str l] P := fun H0 H vs Q s r k => by
  cases r with
  | cons r1 r2 =>
    cases r2
    cases r1
    exact ⟨_, l.length, rfl, ⟨h, rfl⟩, k _ _ H0 H p (.refl s) (.int _)⟩
theorem cd_all {l : List Bool} (p : P (.bl (l.all id))) : CbD K (rAll K) [.lst (l.map D.bl)] P := fun H0 H vs Q s r k => by
  cases r with
  | cons r1 r2 =>
    cases r2
    cases r1 with
    | lst ha rs =>
      have e := rs.bls
      subst e
      exact ⟨_, l, rfl, .inl (.inl (s _ _ ha)), k _ _ H0 H p (.refl s) (.bl _)⟩
/-! ### subscripts -/
theorem od_ixL {l : List D} {i : Int} {d : D} (h : atI l i = some d) (p : P d) : OpD K (rIx K) (.lst l) (.int i) P := fun H0 H v u Q s a b k => by
  cases b
  cases a with
  | lst ha rs =>
    rename_i a xs
    obtain ⟨j, h1, h2, _, _, _⟩ := atI_get h
    obtain ⟨x, h3, h4⟩ := rs.get h2
    refine .inl ⟨a, xs, i, x, rfl, rfl, .inl (.inl (s _ _ ha)), ?_, k _ _ H0 H p (.refl s) h4⟩
    unfold atI at h ⊢
    rw [rs.length]
    cases e : ixN l.length i with
    | none => rw [e] at h; cases h
    | some j' =>
      rw [e] at h
      have h' : l[j']? = some d := h
      have hj : j' = j := by
        have := ixN_seq e
        rw [h1] at this
        exact (Option.some.inj this.1).symm
      subst hj
      exact h3
theorem od_ixT {l : List D} {i : Int} {d : D} (h : atI l i = some d) (p : P d) : OpD K (rIx K) (.tup l) (.int i) P := fun H0 H v u Q s a b k => by
  cases b
  cases a with
  | tup ha rs =>
    rename_i a xs
    obtain ⟨j, h1, h2, _, _, _⟩ := atI_get h
    obtain ⟨x, h3, h4⟩ := rs.get h2
    refine .inr (.inl ⟨a, xs, i, x, rfl, rfl, .inl (.inl (s _ _ ha)), ?_, k _ _ H0 H p (.refl s) h4⟩)
    unfold atI at h ⊢
    rw [rs.length]
    cases e : ixN l.length i with
    | none => rw [e] at h; cases h
    | some j' =>
      rw [e] at h
      have h' : l[j']? = some d := h
      have hj : j' = j := by
        have := ixN_seq e
        rw [h1] at this
        exact (Option.some.inj this.1).symm
      subst hj
      exact h3
theorem od_ixS {l : Str} {i : Int} {c : Nat} (hz : l.length ≤ sizeLine) (h : atI l.cps.toList i = some c) (p : P (.str ⟨#[c]⟩)) : OpD K (rIx K) (.str l) (.int i) P := fun H0 H v u Q s a b k => by
  cases b
  cases a
  exact .inr (.inr ⟨l, i, c, rfl, rfl, hz, h, k _ _ H0 H p (.refl s) (.str _)⟩)
end
end DL

set_option maxRecDepth 100000
set_option maxHeartbeats 1000000
namespace DL
open PySem PySem.Spec L2
abbrev rAbs : List V → Hp → VK → Prop := fun xs H Q => ∃ i, xs = [.int i] ∧ Q (.int (if i < 0 then -i else i)) H
abbrev rMax2 : List V → Hp → VK → Prop := fun xs H Q => ∃ i j, xs = [.int i, .int j] ∧ Q (.int (if j > i then j else i)) H
abbrev rMin2 : List V → Hp → VK → Prop := fun xs H Q => ∃ i j, xs = [.int i, .int j] ∧ Q (.int (if j < i then j else i)) H
abbrev rNotN : R2 := fun x y H Q => y = .non ∧ Q (.bl (!decide (x = .non))) H
def tTru (K : PySem.W.Frag) (ta : TE) : TT := fun σ H Q => ta σ H fun x H' => ∃ k, TruV K x H' k ∧ Q k H'
def tRaise0 (C : Addr) (W : WX) : TS := fun _ σ H => (fun (_ : St) (H : Hp) (Q : XK) => Q (.ref C) none H) σ H fun cls d H' => W cls d σ H'
end DL
namespace PySem.W
open PySem PySem.Spec PySem.Calls PyProof.Rows
section
variable {prog : Program} {w : World} {A : Around} {E : Value → Shared → Prop} {s : Shared} {K : Frag} {x D : Addr} {ox : Obj} {od : Option Obj}
end
end PySem.W
namespace DL
open PySem PySem.Spec L2
section
variable {K : PySem.W.Frag} {W : WX} {te ta tb tc tl : TE} {tt tu : TT} {ts tr : TS} {tas : TA} {to : TO} {ρ : Rho} {P : D → Prop} {PB : Bool → Prop} {PS : Sl → Prop} {PA : List D → Prop} {X : Exn → Prop} {E : En} {r r' : R2} {g : TG} {u : TGs}
theorem ws_raise {C : Addr} (h : E.ex ⟨C, none⟩ ρ) : WS K W (tRaise0 C W) ρ E := ws_raise0 h
/-- truth -/
inductive TruD : D → Bool → Prop
  | non : TruD .non false
  | bl (b : Bool) : TruD (.bl b) b
  | int (i : Int) : TruD (.int i) (i != 0)
  | str (x : Str) (h : x.length ≤ sizeLine) : TruD (.str x) ((x.length : Int) != 0)
  | lst (l : List D) : TruD (.lst l) (!l.isEmpty)
  | tup (l : List D) : TruD (.tup l) (!l.isEmpty)
theorem isEmpty_len {α β : Type} : ∀ {l : List α} {m : List β}, l.length = m.length → l.isEmpty = m.isEmpty
  | [], [], _ => rfl
  | _ :: _, _ :: _, _ => rfl
  | [], _ :: _, h => by cases h
  | _ :: _, [], h => by cases h
theorem bv_tru (h : EvP K W ta ρ (fun d => ∃ b, TruD d b ∧ PB b) X) : BvP K W (tTru K ta) ρ PB X := fun He0 He σ H0 H Q S x k => by
  refine h He0 He σ H0 H _ S x fun v d H1 H1' p S1 e1 r1 => ?_
  obtain ⟨b, t, p⟩ := p
  refine ⟨b, ?_, k b H1 H1' p S1 e1⟩
  cases t with
  | non => cases r1; rfl
  | bl b => cases r1; rfl
  | int i => cases r1; rfl
  | str y hy => cases r1; exact ⟨hy, rfl⟩
  | lst l =>
    cases r1 with
    | lst ha rs => exact .inl ⟨_, .inl (.inl (S1.sub _ _ ha)), by rw [isEmpty_len rs.length]⟩
  | tup l =>
    cases r1 with
    | tup ha rs => exact .inr (.inl ⟨_, .inl (.inl (S1.sub _ _ ha)), by rw [isEmpty_len rs.length]⟩)
/-! ### slices -/
def OvP (K : PySem.W.Frag) (W : WX) (to : TO) (ρ : Rho) (P : Option Int → Prop) (X : Exn → Prop) : Prop :=
  ∀ (He0 He : Hp) (σ : St) (H0 H : Hp) (Q : Option Int → Hp → Prop), StOk K He0 He σ H0 H ρ → Exs K He0 He W σ ρ X →
    (∀ b H0' H', P b → StOk K He0 He σ H0' H' ρ → Ext H0 H H0' H' → Q b H') → to σ H Q
variable {tlo thi : TO} {PO : Option Int → Prop}
theorem ov_none (p : PO none) : OvP K W tNoPart ρ PO X := fun He0 He σ H0 H Q S x k => k none H0 H p S (.refl S.sub)
theorem ov_some (h : EvP K W te ρ (fun d => ∃ i, d = .int i ∧ PO (some i)) X) : OvP K W (tPart te) ρ PO X := fun He0 He σ H0 H Q S x k => by
  refine h He0 He σ H0 H _ S x fun v d H1 H1' p S1 e1 r1 => ?_
  obtain ⟨i, rfl, p⟩ := p
  cases r1
  exact ⟨i, rfl, k _ H1 H1' p S1 e1⟩
def cutD (xs : List D) (lo hi : Option Int) : List D := (xs.drop (HT.sIx xs.length 0 lo)).take (HT.sIx xs.length xs.length hi - HT.sIx xs.length 0 lo)
theorem Rps.cut {H : Hp} {vs : List V} {ds : List D} (r : Rps K H vs ds) (lo hi : Option Int) : Rps K H (cutV vs lo hi) (cutD ds lo hi) := by
  unfold cutV cutD
  rw [r.length]
  exact (r.drop _).take _
/-- what a slice of x is asked for -/
def SlD (K : PySem.W.Frag) (r : V → Option Int → Option Int → Hp → VK → Prop) (x : D) (lo hi : Option Int) (P : D → Prop) : Prop :=
  ∀ (H0 H : Hp) (v : V) (Q : VK), Same H0 H → Rp K H0 v x → (∀ z d H0' H', P d → Ext H0 H H0' H' → Rp K H0' z d → Q z H') → r v lo hi H Q
theorem ev_sl {rs : V → Option Int → Option Int → Hp → VK → Prop} (h : EvP K W te ρ (fun d => OvP K W tlo ρ (fun lo => OvP K W thi ρ (fun hi => SlD K rs d lo hi P) X) X) X) : EvP K W (tSl rs te tlo thi) ρ P X := fun He0 He σ H0 H Q S x k => by
  refine h He0 He σ H0 H _ S x fun v d H1 H1' p S1 e1 r1 => ?_
  refine p He0 He σ H1 H1' _ S1 x fun lo H2 H2' p2 S2 e2 => ?_
  refine p2 He0 He σ H2 H2' _ S2 x fun hi H3 H3' p3 S3 e3 => ?_
  exact p3 H3 H3' v Q S3.sub (r1.mono (e2.trans e3).s0) fun z d H4 H4' p4 e4 r4 => k z d H4 H4' p4 (S3.ext e4) (e1.trans (e2.trans (e3.trans e4))) r4
theorem sd_lst {l : List D} {lo hi : Option Int} (p : P (.lst (cutD l lo hi))) : SlD K (rSlL K) (.lst l) lo hi P := fun H0 H v Q s a k => by
  cases a with
  | lst ha ra =>
    refine ⟨_, _, rfl, .inl (.inl (s _ _ ha)), fun q nq => ?_⟩
    exact k _ _ _ _ p (.new s nq) (.lst upd_same ((ra.mono (Ext.new s nq).s0).cut lo hi))
theorem sd_src {l : List Int} {lo hi : Option Int} (p : P (.lst (cutD (l.map D.int) lo hi))) : SlD K (rSlL K) (.src l) lo hi P := fun H0 H v Q s a k => by
  cases a with
  | src ha =>
    refine ⟨_, _, rfl, s.seq ha, fun q nq => ?_⟩
    exact k _ _ _ _ p (.new s nq) (.lst upd_same ((Rps.of_ints l).cut lo hi))
theorem cutD_take (xs : List D) (n : Nat) : cutD xs none (some (n : Int)) = xs.take n := by
  unfold cutD
  rw [HT.sIx_none, HT.sIx_nat, List.drop_zero, Nat.sub_zero]
  by_cases h : n ≤ xs.length
  · rw [Nat.min_eq_left h]
  · rw [Nat.min_eq_right (by omega), List.take_of_length_le (Nat.le_refl _), List.take_of_length_le (by omega)]
/-! ### in -/
theorem od_notN {d : D} (hd : d ≠ .non) (p : P (.bl true)) : OpD K rNotN d .non P := fun H0 H v u Q s a b k => by
  cases b
  refine ⟨rfl, ?_⟩
  have : decide (v = V.non) = false := decide_eq_false (fun z => by subst z; cases a; exact hd rfl)
  rw [this]
  exact k _ _ H0 H p (.refl s) (.bl _)
theorem od_notNN (p : P (.bl false)) : OpD K rNotN .non .non P := fun H0 H v u Q s a b k => by
  cases a
  cases b
  exact ⟨rfl, k _ _ H0 H p (.refl s) (.bl _)⟩
end
/-! ### the end -/
end DL

set_option maxRecDepth 100000
set_option maxHeartbeats 1000000
namespace DL
open PySem PySem.Spec L2
section
variable {K : PySem.W.Frag} {W : WX} {te ta tb tc tl : TE} {tt tu : TT} {ts tr : TS} {tas : TA} {to : TO} {ρ : Rho} {P : D → Prop} {PB : Bool → Prop} {PS : Sl → Prop} {PA : List D → Prop} {X : Exn → Prop} {E : En} {r r' : R2} {g : TG} {u : TGs}
theorem od_divB {i j : Int} (h0 : 0 < j) (hj : j < 2 ^ 400) (p : P (.int (i / j))) : OpD K rDivA (.int i) (.int j) P := od_divI h0 (.inr (wide_div (i := i) h0 (b := 400) (by omega) (by decide) (by decide)).2) p
/-- len of one's own list -/
theorem ev_lenO {i : Nat} {ds : List D} (h : ρ[i]? = some (.own ds)) (p : P (.int ds.length)) : EvP K W (tCB (rLn K) (tCons (tVar i) tNil)) ρ P X := fun He0 He σ H0 H Q S x k => by
  obtain ⟨v, h1, h2, _⟩ := S.sl i _ h (by intro z; cases z)
  obtain ⟨a, rfl, n0, xs, ha, rs⟩ := h2
  exact ⟨.ref a, h1, .ref a, ds.length, rfl, .inl ⟨xs, .inl (.inl ha), rs.length.symm⟩, k _ _ H0 H p S (.refl S.sub) (.int _)⟩
/-- an item of one's own list -/
theorem ev_ixO {i : Nat} {ds : List D} (h : ρ[i]? = some (.own ds)) (w : EvP K W tb ρ (fun y => ∃ j d, y = .int j ∧ atI ds j = some d ∧ P d) X) : EvP K W (tOp (rIx K) (tVar i) tb) ρ P X := fun He0 He σ H0 H Q S x k => by
  obtain ⟨v, h1, h2, _⟩ := S.sl i _ h (by intro z; cases z)
  obtain ⟨a, rfl, n0, xs, ha, rs⟩ := h2
  refine ⟨.ref a, h1, w He0 He σ H0 H _ S x fun u y H1 H1' p S1 e1 r1 => ?_⟩
  obtain ⟨j, d, rfl, hd, p⟩ := p
  cases r1
  obtain ⟨n, q1, q2, _, _, _⟩ := atI_get hd
  obtain ⟨z, q3, q4⟩ := rs.get q2
  refine .inl ⟨a, xs, j, z, rfl, rfl, .inl (.inl (e1.s _ _ ha)), ?_, k z d H1 H1' p S1 e1 (q4.mono e1.s0)⟩
  unfold atI at hd ⊢
  rw [rs.length]
  cases e : ixN ds.length j with
  | none => rw [e] at hd; cases hd
  | some j' =>
    have := ixN_seq e
    rw [q1] at this
    have hj : n = j' := Option.some.inj this.1
    subst hj
    exact q3
theorem small_sz {n : Nat} (h : n ≤ 1000000) : n ≤ sizeLine := Nat.le_trans h (by decide)
theorem small_lt {n : Nat} (h : n ≤ 1000000) : n < sizeLine := Nat.lt_of_le_of_lt h (by decide)
end
/-! ### numbers drawn from the script -/
def Nums (l : List Int) (m : Nat) : Prop := l.length = m ∧ ∀ x ∈ l, 0 ≤ x ∧ x < 1009
theorem Nums.get {l : List Int} {m : Nat} (h : Nums l m) {i : Nat} (hi : i < m) : ∃ x, l[i]? = some x ∧ 0 ≤ x ∧ x < 1009 := by
  have hl : i < l.length := by rw [h.1]; exact hi
  exact ⟨l[i], List.getElem?_eq_getElem hl, h.2 _ (List.getElem_mem hl)⟩
theorem Nums.at_ {l : List Int} {m : Nat} (h : Nums l m) {i : Int} (h0 : 0 ≤ i) (hi : i < m) : ∃ x, atI (l.map D.int) i = some (.int x) ∧ 0 ≤ x ∧ x < 1009 := by
  obtain ⟨n, rfl⟩ : ∃ n : Nat, i = n := ⟨i.toNat, by omega⟩
  obtain ⟨x, h1, h2⟩ := h.get (i := n) (by omega)
  exact ⟨x, atI_nat (by rw [List.getElem?_map, h1] <;> rfl), h2⟩
theorem Nums.snoc {l : List Int} {m : Nat} {x : Int} (h : Nums l m) (h0 : 0 ≤ x) (h1 : x < 1009) : Nums (l ++ [x]) (m + 1) := ⟨by rw [List.length_append, h.1]; rfl, fun y hy => by
  rcases List.mem_append.mp hy with z | z
  · exact h.2 y z
  · rw [List.mem_singleton] at z; subst z; exact ⟨h0, h1⟩⟩
theorem Nums.take {l : List Int} {m k : Nat} (h : Nums l m) (hk : k ≤ m) : Nums (l.take k) k := ⟨by rw [List.length_take, h.1]; omega, fun y hy => h.2 y (List.mem_of_mem_take hy)⟩
end DL

set_option maxRecDepth 100000
set_option maxHeartbeats 1000000
namespace DL
open PySem PySem.Spec L2
/-! ### dicts by keys and values -/
section
variable {κ : Type} [DecidableEq κ]
def vget : List κ → List D → κ → Option D
  | k' :: ks, d :: vs, k => if k' = k then some d else vget ks vs k
  | _, _, _ => none
def kput (ks : List κ) (k : κ) : List κ := if k ∈ ks then ks else ks ++ [k]
def vrep : List κ → List D → κ → D → List D
  | k' :: ks, d :: vs, k, v => (if k' = k then v else d) :: vrep ks vs k v
  | _, _, _, _ => []
def vput (ks : List κ) (vs : List D) (k : κ) (v : D) : List D := if k ∈ ks then vrep ks vs k v else vs ++ [v]
theorem vget_mem : ∀ {ks : List κ} {vs : List D} {k : κ}, ks.length = vs.length → ((vget ks vs k).isSome = true ↔ k ∈ ks)
  | [], _, k, _ => by simp [vget]
  | k' :: ks, [], k, h => by simp at h
  | k' :: ks, d :: vs, k, h => by
    unfold vget
    by_cases e : k' = k
    · rw [if_pos e]; simp [e]
    · rw [if_neg e, vget_mem (by simpa using h)]
      simp only [List.mem_cons]
      exact ⟨.inr, fun z => z.elim (fun q => absurd q.symm e) id⟩
theorem vget_rep {k j : κ} {v : D} : ∀ {ks : List κ} {vs : List D}, ks.length = vs.length → k ∈ ks → vget ks (vrep ks vs k v) j = if j = k then some v else vget ks vs j
  | [], _, _, h => by simp at h
  | k' :: ks, [], h, _ => by simp at h
  | k' :: ks, d :: vs, h, hm => by
    unfold vrep vget
    by_cases e : k' = j
    · rw [if_pos e, if_pos e]
      by_cases e2 : k' = k
      · rw [if_pos e2, if_pos (e.symm.trans e2)]
      · rw [if_neg e2, if_neg (fun z => e2 (e.trans z))]
    · rw [if_neg e, if_neg e]
      by_cases e2 : k ∈ ks
      · exact vget_rep (by simpa using h) e2
      · have hk : k' = k := by
          rcases List.mem_cons.mp hm with z | z
          · exact z.symm
          · exact absurd z e2
        have hj : j ≠ k := fun z => e (hk.trans z.symm)
        rw [if_neg hj]
        have go : ∀ (ks : List κ) (vs : List D), k ∉ ks → ks.length = vs.length → vget ks (vrep ks vs k v) j = vget ks vs j := by
          intro ks
          induction ks with
          | nil => intro vs _ _; simp [vget]
          | cons a ks ih =>
            intro vs hn hl
            cases vs with
            | nil => simp at hl
            | cons d vs =>
              show (if a = j then some (if a = k then v else d) else vget ks (vrep ks vs k v) j) = if a = j then some d else vget ks vs j
              rw [if_neg (fun z : a = k => hn (by rw [z]; exact List.mem_cons_self)), ih vs (fun z => hn (List.mem_cons_of_mem _ z)) (by simpa using hl)]
        exact go ks vs e2 (by simpa using h)
theorem vget_snoc {k j : κ} {v : D} : ∀ {ks : List κ} {vs : List D}, ks.length = vs.length → k ∉ ks → vget (ks ++ [k]) (vs ++ [v]) j = if j = k then some v else vget ks vs j
  | [], [], _, _ => by
    show vget [k] [v] j = _
    unfold vget
    by_cases e : k = j
    · rw [if_pos e, if_pos e.symm]
    · rw [if_neg e, if_neg (Ne.symm e)]
      simp [vget]
  | [], _ :: _, h, _ => by simp at h
  | k' :: ks, [], h, _ => by simp at h
  | k' :: ks, d :: vs, h, hn => by
    show vget (k' :: (ks ++ [k])) (d :: (vs ++ [v])) j = _
    unfold vget
    by_cases e : k' = j
    · rw [if_pos e, if_pos e, if_neg (fun z => hn (by rw [← z, e]; exact List.mem_cons_self))]
    · rw [if_neg e, if_neg e, vget_snoc (by simpa using h) (fun z => hn (List.mem_cons_of_mem _ z))]
theorem vget_put {ks : List κ} {vs : List D} {k j : κ} {v : D} (h : ks.length = vs.length) : vget (kput ks k) (vput ks vs k v) j = if j = k then some v else vget ks vs j := by
  unfold kput vput
  by_cases e : k ∈ ks
  · rw [if_pos e, if_pos e]; exact vget_rep h e
  · rw [if_neg e, if_neg e]; exact vget_snoc h e
def kmem (ks : List κ) (k : κ) : Bool := decide (k ∈ ks)
theorem vrep_len {k : κ} {v : D} : ∀ {ks : List κ} {vs : List D}, ks.length = vs.length → (vrep ks vs k v).length = ks.length
  | [], _, _ => by simp [vrep]
  | k' :: ks, [], h => by simp at h
  | k' :: ks, d :: vs, h => by unfold vrep; rw [List.length_cons, List.length_cons, vrep_len (by simpa using h)]
theorem vput_len {ks : List κ} {vs : List D} {k : κ} {v : D} (h : ks.length = vs.length) : (kput ks k).length = (vput ks vs k v).length := by
  unfold kput vput
  by_cases e : k ∈ ks
  · rw [if_pos e, if_pos e, vrep_len h]
  · rw [if_neg e, if_neg e, List.length_append, List.length_append, h]; rfl
theorem kput_nodup {ks : List κ} {k : κ} (h : ks.Nodup) : (kput ks k).Nodup := by
  unfold kput
  split
  · exact h
  · rename_i hn
    rw [List.nodup_append]
    exact ⟨h, List.nodup_cons.mpr ⟨by simp, List.nodup_nil⟩, fun a ha b hb => by
      rw [List.mem_singleton] at hb
      subst hb
      exact fun z => hn (z ▸ ha)⟩
theorem kput_mem {ks : List κ} {k j : κ} : j ∈ kput ks k ↔ j = k ∨ j ∈ ks := by
  unfold kput
  split
  · rename_i hm
    exact ⟨.inr, fun z => z.elim (fun q => q ▸ hm) id⟩
  · rw [List.mem_append, List.mem_singleton]
    exact ⟨fun z => z.elim .inr .inl, fun z => z.elim .inr .inl⟩
theorem vget_at {ks : List κ} {vs : List D} (h : ks.length = vs.length) (hn : ks.Nodup) : ∀ {i : Nat} {k : κ}, ks[i]? = some k → ∃ d, vs[i]? = some d ∧ vget ks vs k = some d := by
  induction ks generalizing vs with
  | nil => intro i k e; simp at e
  | cons a ks ih =>
    intro i k e
    cases vs with
    | nil => simp at h
    | cons d vs =>
      cases i with
      | zero => simp at e; subst e; exact ⟨d, rfl, by simp [vget]⟩
      | succ i =>
        have e' : ks[i]? = some k := by simpa using e
        obtain ⟨d', h1, h2⟩ := ih (vs := vs) (by simpa using h) (List.nodup_cons.mp hn).2 e'
        refine ⟨d', by simpa using h1, ?_⟩
        unfold vget
        rw [if_neg (fun z => (List.nodup_cons.mp hn).1 (by rw [z]; exact List.mem_of_getElem? e')), h2]
/-- what stands in the heap -/
theorem valV_rep {K : PySem.W.Frag} {H : Hp} {k : κ} : ∀ {kvs : List (κ × V)} {vs : List D}, Rps K H (kvs.map (·.2)) vs → (valV kvs k = none ∧ vget (kvs.map (·.1)) vs k = none) ∨ ∃ v d, valV kvs k = some v ∧ vget (kvs.map (·.1)) vs k = some d ∧ Rp K H v d
  | [], _, _ => .inl ⟨rfl, by simp [vget]⟩
  | p :: kvs, d :: vs, .cons r t => by
    by_cases e : p.1 = k
    · exact .inr ⟨p.2, d, valV_pos e, by show vget (p.1 :: _) _ _ = _; unfold vget; rw [if_pos e], r⟩
    · rw [valV_neg e]
      rcases valV_rep (k := k) t with ⟨h1, h2⟩ | ⟨v, d', h1, h2, h3⟩
      · exact .inl ⟨h1, by show vget (p.1 :: _) _ _ = _; unfold vget; rw [if_neg e]; exact h2⟩
      · exact .inr ⟨v, d', h1, by show vget (p.1 :: _) _ _ = _; unfold vget; rw [if_neg e]; exact h2, h3⟩
theorem putK_rep {K : PySem.W.Frag} {H : Hp} {k : κ} {v : V} {d : D} {kvs : List (κ × V)} {vs : List D} (r : Rps K H (kvs.map (·.2)) vs) (rv : Rp K H v d) :
    (putK kvs k v).map (·.1) = kput (kvs.map (·.1)) k ∧ Rps K H ((putK kvs k v).map (·.2)) (vput (kvs.map (·.1)) vs k d) := by
  have ha : (kvs.any fun kv => decide (kv.1 = k)) = true ↔ k ∈ kvs.map (·.1) := by
    rw [List.any_eq_true, List.mem_map]
    exact ⟨fun ⟨x, h1, h2⟩ => ⟨x, h1, of_decide_eq_true h2⟩, fun ⟨x, h1, h2⟩ => ⟨x, h1, decide_eq_true h2⟩⟩
  unfold putK kput vput
  by_cases e : k ∈ kvs.map (·.1)
  · rw [if_pos (ha.mpr e), if_pos e, if_pos e]
    refine ⟨?_, ?_⟩
    · rw [List.map_map]
      exact List.map_congr_left fun p _ => by
        show (if p.1 = k then (p.1, v) else p).1 = p.1
        split <;> rfl
    · rw [List.map_map]
      clear ha e
      induction kvs generalizing vs with
      | nil => cases r; exact .nil
      | cons p kvs ih =>
        cases r with
        | cons r1 r2 =>
          rename_i d' ds
          show Rps K H ((if p.1 = k then (p.1, v) else p).2 :: _) ((if p.1 = k then d else d') :: vrep (kvs.map (·.1)) ds k d)
          refine .cons ?_ (ih r2)
          by_cases e : p.1 = k
          · rw [if_pos e, if_pos e]; exact rv
          · rw [if_neg e, if_neg e]; exact r1
  · rw [if_neg (fun z => e (ha.mp z)), if_neg e, if_neg e, List.map_append, List.map_append]
    exact ⟨rfl, r.append (.one rv)⟩
end
/-- a key as data -/
def kD : Key → D
  | .inl i => .int i
  | .inr x => .str x
def tD (k : List Key) : D := .tup (k.map kD)
theorem Rp.kD {K : PySem.W.Frag} {H : Hp} {k : Key} {v : V} (r : Rp K H v (DL.kD k)) : v = kV k := by
  cases k with
  | inl i => cases r; rfl
  | inr i => cases r; rfl
theorem Rp.of_kD {K : PySem.W.Frag} {H : Hp} (k : Key) : Rp K H (kV k) (DL.kD k) := by
  cases k with
  | inl i => exact .int i
  | inr i => exact .str i
theorem Rps.kDs {K : PySem.W.Frag} {H : Hp} : ∀ {ks : List Key} {vs : List V}, Rps K H vs (ks.map DL.kD) → vs = ks.map kV
  | [], _, .nil => rfl
  | _ :: _, _, .cons r t => by rw [r.kD, Rps.kDs t]; rfl
theorem Rps.of_kDs {K : PySem.W.Frag} {H : Hp} : ∀ (ks : List Key), Rps K H (ks.map kV) (ks.map DL.kD)
  | [] => .nil
  | k :: ks => .cons (.of_kD k) (Rps.of_kDs ks)
/-- a dict as data -/
inductive IsDT : D → List (List Key) → List D → Prop
  | d {ks vs} : IsDT (.dT ks vs) ks vs
  | f {ks vs} : IsDT (.fT ks vs) ks vs
inductive IsDK : D → List Key → List D → Prop
  | d {ks vs} : IsDK (.dK ks vs) ks vs
  | f {ks vs} : IsDK (.fK ks vs) ks vs
section
variable {K : PySem.W.Frag} {W : WX} {te ta tb tc tl td ty tx tv : TE} {tt tu : TT} {ts tr : TS} {tas : TA} {ρ : Rho} {P : D → Prop} {PB : Bool → Prop} {PS : Sl → Prop} {PA PL : List D → Prop} {X : Exn → Prop} {E : En} {r r' : R2} {g : TG} {u : TGs}
theorem IsDT.at_ {H0 : Hp} {v : V} {d : D} {ks vs} (t : IsDT d ks vs) (h : Rp K H0 v d) : ∃ a kvs, v = .ref a ∧ Rd H0 a (.dT kvs) ∧ kvs.map (·.1) = ks ∧ Rps K H0 (kvs.map (·.2)) vs := by
  cases t with
  | d => cases h with | dT ha rs => exact ⟨_, _, rfl, ha, rfl, rs⟩
  | f => cases h with | fT ha rs => exact ⟨_, _, rfl, .inr ⟨_, ha⟩, rfl, rs⟩
theorem IsDK.at_ {H0 : Hp} {v : V} {d : D} {ks vs} (t : IsDK d ks vs) (h : Rp K H0 v d) : ∃ a kvs, v = .ref a ∧ Rd H0 a (.dK kvs) ∧ kvs.map (·.1) = ks ∧ Rps K H0 (kvs.map (·.2)) vs := by
  cases t with
  | d => cases h with | dK ha rs => exact ⟨_, _, rfl, ha, rfl, rs⟩
  | f => cases h with | fK ha rs => exact ⟨_, _, rfl, .inr ⟨_, ha⟩, rfl, rs⟩
/-! ### a slot with a dict, still or one's own -/
def DictT (ρ : Rho) (i : Nat) (ks : List (List Key)) (vs : List D) : Prop := ρ[i]? = some (.oT ks vs) ∨ ∃ d, ρ[i]? = some (.dat d) ∧ IsDT d ks vs
def DictK (ρ : Rho) (i : Nat) (ks : List Key) (vs : List D) : Prop := ρ[i]? = some (.oK ks vs) ∨ ∃ d, ρ[i]? = some (.dat d) ∧ IsDK d ks vs
theorem DictT.at_ {He0 He : Hp} {σ : St} {H0 H : Hp} (S : StOk K He0 He σ H0 H ρ) {i : Nat} {ks : List (List Key)} {vs} (h : DictT ρ i ks vs) : ∃ a, σ[i]? = some (some (.ref a)) ∧ ∃ kvs, Rd H a (.dT kvs) ∧ kvs.map (·.1) = ks ∧ Rps K H0 (kvs.map (·.2)) vs := by
  rcases h with h | ⟨d, h, t⟩
  · obtain ⟨v, h1, h2, h3⟩ := S.sl i _ h (by intro z; cases z)
    obtain ⟨a, rfl, n0, kvs, ha, e, rs⟩ := h2
    exact ⟨a, h1, kvs, .inl ha, e, rs⟩
  · obtain ⟨v, h1, h2⟩ := S.dat h
    obtain ⟨a, kvs, rfl, ha, e, rs⟩ := t.at_ h2
    exact ⟨a, h1, kvs, Rd.mono S.sub ha, e, rs⟩
theorem DictK.at_ {He0 He : Hp} {σ : St} {H0 H : Hp} (S : StOk K He0 He σ H0 H ρ) {i : Nat} {ks : List Key} {vs} (h : DictK ρ i ks vs) : ∃ a, σ[i]? = some (some (.ref a)) ∧ ∃ kvs, Rd H a (.dK kvs) ∧ kvs.map (·.1) = ks ∧ Rps K H0 (kvs.map (·.2)) vs := by
  rcases h with h | ⟨d, h, t⟩
  · obtain ⟨v, h1, h2, h3⟩ := S.sl i _ h (by intro z; cases z)
    obtain ⟨a, rfl, n0, kvs, ha, e, rs⟩ := h2
    exact ⟨a, h1, kvs, .inl ha, e, rs⟩
  · obtain ⟨v, h1, h2⟩ := S.dat h
    obtain ⟨a, kvs, rfl, ha, e, rs⟩ := t.at_ h2
    exact ⟨a, h1, kvs, Rd.mono S.sub ha, e, rs⟩
theorem tup_at {H0 : Hp} {v : V} {k : List Key} (h : Rp K H0 v (tD k)) : ∃ b, v = .ref b ∧ H0 b = some (.tup (k.map kV)) := by
  cases h with
  | tup ha rs => exact ⟨_, rfl, by rw [← rs.kDs]; exact ha⟩
theorem ev_dgetT {i : Nat} {ks : List (List Key)} {vs} (h : DictT ρ i ks vs) (w : EvP K W ty ρ (fun y => ∃ k d, y = tD k ∧ vget ks vs k = some d ∧ P d) X) : EvP K W (tDGet (tVar i) ty) ρ P X := fun He0 He σ H0 H Q S x kk => by
  obtain ⟨a, h1, _⟩ := h.at_ S
  refine ⟨_, h1, w He0 He σ H0 H _ S x fun v y H1 H1' p S1 e1 r1 => ?_⟩
  obtain ⟨k, d, rfl, hv, p⟩ := p
  obtain ⟨b, rfl, hb⟩ := tup_at r1
  obtain ⟨a', h1', kvs, ha, ek, rs⟩ := h.at_ S1
  rw [h1] at h1'
  cases h1'
  rcases valV_rep (k := k) rs with ⟨_, q2⟩ | ⟨v, d', q1, q2, q3⟩
  · rw [ek, hv] at q2; cases q2
  · rw [ek, hv] at q2
    cases q2
    exact ⟨a, v, rfl, .inr ⟨kvs, k, b, ha, rfl, S1.sub _ _ hb, q1.symm⟩, kk v d H1 H1' p S1 e1 q3⟩
theorem ev_dgetK {i : Nat} {ks : List Key} {vs} (h : DictK ρ i ks vs) (w : EvP K W ty ρ (fun y => ∃ k d, y = kD k ∧ vget ks vs k = some d ∧ P d) X) : EvP K W (tDGet (tVar i) ty) ρ P X := fun He0 He σ H0 H Q S x kk => by
  obtain ⟨a, h1, _⟩ := h.at_ S
  refine ⟨_, h1, w He0 He σ H0 H _ S x fun v y H1 H1' p S1 e1 r1 => ?_⟩
  obtain ⟨k, d, rfl, hv, p⟩ := p
  obtain rfl := r1.kD
  obtain ⟨a', h1', kvs, ha, ek, rs⟩ := h.at_ S1
  rw [h1] at h1'
  cases h1'
  rcases valV_rep (k := k) rs with ⟨_, q2⟩ | ⟨v, d', q1, q2, q3⟩
  · rw [ek, hv] at q2; cases q2
  · rw [ek, hv] at q2
    cases q2
    exact ⟨a, v, rfl, .inl ⟨kvs, k, ha, rfl, q1.symm⟩, kk v d H1 H1' p S1 e1 q3⟩
theorem ev_dgetT2 {i : Nat} {ks : List (List Key)} {vs} (h : DictT ρ i ks vs) (w : EvP K W ty ρ (fun y => EvP K W tx ρ (fun z => ∃ k, y = tD k ∧ P ((vget ks vs k).getD z)) X) X) : EvP K W (tDGet2 (tVar i) ty tx) ρ P X := fun He0 He σ H0 H Q S x kk => by
  obtain ⟨a, h1, kvs0, ha0, _⟩ := h.at_ S
  refine ⟨_, h1, a, rfl, .inr ⟨_, ha0⟩, w He0 He σ H0 H _ S x fun v y H1 H1' p S1 e1 r1 => ?_⟩
  refine p He0 He σ H1 H1' _ S1 x fun u z H2 H2' p2 S2 e2 r2 => ?_
  obtain ⟨k, rfl, p2⟩ := p2
  obtain ⟨b, rfl, hb⟩ := tup_at (r1.mono e2.s0)
  obtain ⟨a', h1', kvs, ha, ek, rs⟩ := h.at_ S2
  rw [h1] at h1'
  cases h1'
  refine ⟨valV kvs k, .inr ⟨kvs, k, b, ha, rfl, S2.sub _ _ hb, rfl⟩, ?_⟩
  rcases valV_rep (k := k) rs with ⟨q1, q2⟩ | ⟨v, d', q1, q2, q3⟩
  · rw [ek] at q2
    rw [q2] at p2
    rw [q1]
    exact kk _ _ H2 H2' p2 S2 (e1.trans e2) r2
  · rw [ek] at q2
    rw [q2] at p2
    rw [q1]
    exact kk _ _ H2 H2' p2 S2 (e1.trans e2) q3
theorem ev_dgetK2 {i : Nat} {ks : List Key} {vs} (h : DictK ρ i ks vs) (w : EvP K W ty ρ (fun y => EvP K W tx ρ (fun z => ∃ k, y = kD k ∧ P ((vget ks vs k).getD z)) X) X) : EvP K W (tDGet2 (tVar i) ty tx) ρ P X := fun He0 He σ H0 H Q S x kk => by
  obtain ⟨a, h1, kvs0, ha0, _⟩ := h.at_ S
  refine ⟨_, h1, a, rfl, .inl ⟨_, ha0⟩, w He0 He σ H0 H _ S x fun v y H1 H1' p S1 e1 r1 => ?_⟩
  refine p He0 He σ H1 H1' _ S1 x fun u z H2 H2' p2 S2 e2 r2 => ?_
  obtain ⟨k, rfl, p2⟩ := p2
  obtain rfl := r1.kD
  obtain ⟨a', h1', kvs, ha, ek, rs⟩ := h.at_ S2
  rw [h1] at h1'
  cases h1'
  refine ⟨valV kvs k, .inl ⟨kvs, k, ha, rfl, rfl⟩, ?_⟩
  rcases valV_rep (k := k) rs with ⟨q1, q2⟩ | ⟨v, d', q1, q2, q3⟩
  · rw [ek] at q2
    rw [q2] at p2
    rw [q1]
    exact kk _ _ H2 H2' p2 S2 (e1.trans e2) r2
  · rw [ek] at q2
    rw [q2] at p2
    rw [q1]
    exact kk _ _ H2 H2' p2 S2 (e1.trans e2) q3
/-- an own thing is written: the slot's content changes -/
theorem StOk.writeAt {He0 He : Hp} {σ : St} {H0 H : Hp} (S : StOk K He0 He σ H0 H ρ) {i : Nat} {s s' : Sl} {a : Addr} {o : HO} (h : ρ[i]? = some s) (hs : s.isOwn = true) (hs' : s'.isOwn = true) (e : σ[i]? = some (some (.ref a)))
    (n : OwnAt K H0 (upd H a o) a s') : StOk K He0 He σ H0 (upd H a o) (ρ.set i s') := by
  obtain ⟨v, h1, h2, h3⟩ := S.sl i s h (by intro z; rw [z] at hs; cases hs)
  obtain ⟨a', rfl, n0, _⟩ := own_of hs h2
  rw [h1] at e
  cases e
  have il : i < ρ.length := (List.getElem?_eq_some_iff.mp h).1
  refine ⟨⟨S.e.s0, fun b u q => by rw [upd_ne (ne_of_none q (h3 hs a rfl))]; exact S.e.s _ _ q, fun b u q => by rw [upd_ne (ne_of_none q n0)]; exact S.e.sub _ _ q, S.e.fr⟩, by rw [List.length_set]; exact S.len, fun j t hj hn => ?_, fun j k t w b hjk hj hk ht hw q => ?_⟩
  · by_cases hji : i = j
    · subst hji
      rw [List.getElem?_set_self il] at hj
      cases hj
      refine ⟨.ref a, h1, ?_, fun _ b q => h3 hs b q⟩
      cases s' with
      | no => cases hs'
      | ref c => cases hs'
      | exc c o x => cases hs'
      | dat d => cases hs'
      | own ds => exact ⟨a, rfl, n0, n⟩
      | oK ks vs => exact ⟨a, rfl, n0, n⟩
      | oT ks vs => exact ⟨a, rfl, n0, n⟩
    · rw [List.getElem?_set_ne hji] at hj
      obtain ⟨v', g1, g2, g3⟩ := S.sl j t hj hn
      refine ⟨v', g1, ?_, g3⟩
      by_cases hto : t.isOwn = true
      · obtain ⟨b, rfl, nb, ob⟩ := own_of hto g2
        have hba : b ≠ a := fun z => by
          subst z
          exact S.ap i j s t b hji h hj hs hto h1 g1
        have ob' : OwnAt K H0 (upd H a o) b t := by
          cases t with
          | no => exact ob
          | ref c => exact ob
          | exc c o x => exact ob
          | dat d => exact ob
          | own ds => obtain ⟨xs, q1, q2⟩ := ob; exact ⟨xs, by rw [upd_ne hba]; exact q1, q2⟩
          | oK ks vs => obtain ⟨xs, q1, q2, q3⟩ := ob; exact ⟨xs, by rw [upd_ne hba]; exact q1, q2, q3⟩
          | oT ks vs => obtain ⟨xs, q1, q2, q3⟩ := ob; exact ⟨xs, by rw [upd_ne hba]; exact q1, q2, q3⟩
        cases t with
        | no => cases hto
        | ref c => cases hto
        | exc c o x => cases hto
        | dat d => cases hto
        | own ds => exact ⟨b, rfl, nb, ob'⟩
        | oK ks vs => exact ⟨b, rfl, nb, ob'⟩
        | oT ks vs => exact ⟨b, rfl, nb, ob'⟩
      · cases t with
        | no => trivial
        | ref c => exact g2
        | exc c o x => exact g2
        | dat d => exact g2
        | own ds => exact absurd rfl hto
        | oK ks vs => exact absurd rfl hto
        | oT ks vs => exact absurd rfl hto
  · have get : ∀ {j : Nat} {t : Sl}, t.isOwn = true → (ρ.set i s')[j]? = some t → ∃ t', t'.isOwn = true ∧ ρ[j]? = some t' := fun {j t} ht q => by
      by_cases hj : i = j
      · subst hj
        exact ⟨_, hs, h⟩
      · rw [List.getElem?_set_ne hj] at q
        exact ⟨t, ht, q⟩
    obtain ⟨t', q1, q2⟩ := get ht hj
    obtain ⟨w', q3, q4⟩ := get hw hk
    exact S.ap j k t' w' b hjk q2 q4 q1 q3 q
theorem ws_dputT {i : Nat} {ks vs} (h : ρ[i]? = some (.oT ks vs)) (w : EvP K W tv ρ (fun v => EvP K W ty ρ (fun y => ∃ k, y = tD k ∧ ks.length < sizeLine ∧ E.nx (ρ.set i (.oT (kput ks k) (vput ks vs k v)))) (fun x => E.ex x ρ)) (fun x => E.ex x ρ)) :
    WS K W (sDPut (tVar i) ty tv) ρ E := fun He0 He σ H0 H D S e => by
  refine w He0 He σ H0 H _ S (e.exs σ ρ) fun v d H1 H1' p S1 e1 r1 => ?_
  obtain ⟨a, h1, _⟩ := DictT.at_ S1 (.inl h)
  refine ⟨_, h1, p He0 He σ H1 H1' _ S1 (e.exs σ ρ) fun u y H2 H2' p2 S2 e2 r2 => ?_⟩
  obtain ⟨k, rfl, hz, p2⟩ := p2
  obtain ⟨b, rfl, hb⟩ := tup_at r2
  obtain ⟨v', g1, g2, g3⟩ := S2.sl i _ h (by intro z; cases z)
  obtain ⟨a', rfl, n0, kvs, ha, ek, rs⟩ := g2
  rw [h1] at g1
  cases g1
  obtain ⟨q1, q2⟩ := putK_rep (k := k) rs (r1.mono e2.s0)
  rw [ek] at q1 q2
  refine ⟨a, _, rfl, .inr ⟨kvs, k, b, ha, rfl, S2.sub _ _ hb, by rw [← ek, List.length_map] at hz; exact hz, rfl⟩, ?_⟩
  exact e.nx _ σ H2 _ p2 (S2.writeAt h rfl rfl h1 ⟨_, upd_same, q1, q2⟩)
theorem ws_dputK {i : Nat} {ks vs} (h : ρ[i]? = some (.oK ks vs)) (w : EvP K W tv ρ (fun v => EvP K W ty ρ (fun y => ∃ k, y = kD k ∧ ks.length < sizeLine ∧ E.nx (ρ.set i (.oK (kput ks k) (vput ks vs k v)))) (fun x => E.ex x ρ)) (fun x => E.ex x ρ)) :
    WS K W (sDPut (tVar i) ty tv) ρ E := fun He0 He σ H0 H D S e => by
  refine w He0 He σ H0 H _ S (e.exs σ ρ) fun v d H1 H1' p S1 e1 r1 => ?_
  obtain ⟨a, h1, _⟩ := DictK.at_ S1 (.inl h)
  refine ⟨_, h1, p He0 He σ H1 H1' _ S1 (e.exs σ ρ) fun u y H2 H2' p2 S2 e2 r2 => ?_⟩
  obtain ⟨k, rfl, hz, p2⟩ := p2
  obtain rfl := r2.kD
  obtain ⟨v', g1, g2, g3⟩ := S2.sl i _ h (by intro z; cases z)
  obtain ⟨a', rfl, n0, kvs, ha, ek, rs⟩ := g2
  rw [h1] at g1
  cases g1
  obtain ⟨q1, q2⟩ := putK_rep (k := k) rs (r1.mono e2.s0)
  rw [ek] at q1 q2
  refine ⟨a, _, rfl, .inl ⟨kvs, k, ha, rfl, by rw [← ek, List.length_map] at hz; exact hz, rfl⟩, ?_⟩
  exact e.nx _ σ H2 _ p2 (S2.writeAt h rfl rfl h1 ⟨_, upd_same, q1, q2⟩)
/-! ### a dict of one's own, locked for good -/
def tLockF (t : TS) : TS := fun D σ H => ∃ d u, H d = some u ∧ Mut (some u) ∧ ∀ od, t D σ (upd H d (.frz od u))
theorem ps_lockF {X : Cx} {st : Stmt} {t : TS} (h : L2.PS X st t) : L2.PS X st (tLockF t) := by
  refine ⟨fun pins s σ H D I hw => ?_⟩
  obtain ⟨d, u, hd, mu, hw⟩ := hw
  obtain ⟨od, I1⟩ := I.lock hd mu
  exact h.run pins s σ _ _ I1 (hw od)
/-- an own thing leaves: the slot is still data, and the address holds o -/
theorem StOk.leaveX {He0 He : Hp} {σ : St} {H0 H : Hp} (S : StOk K He0 He σ H0 H ρ) {i : Nat} {s : Sl} {a : Addr} {o : HO} {d : D} (h : ρ[i]? = some s) (hs : s.isOwn = true) (e : σ[i]? = some (some (.ref a)))
    (n : ∀ G, Same H0 G → G a = some o → Rp K G (.ref a) d) : Same H0 (upd H0 a o) ∧ StOk K He0 He σ (upd H0 a o) (upd H a o) (ρ.set i (.dat d)) := by
  obtain ⟨v, h1, h2, h3⟩ := S.sl i s h (by intro z; rw [z] at hs; cases hs)
  obtain ⟨a', rfl, n0, _⟩ := own_of hs h2
  rw [h1] at e
  cases e
  have il : i < ρ.length := (List.getElem?_eq_some_iff.mp h).1
  have s01 : Same H0 (upd H0 a o) := fun b u q => by rw [upd_ne (ne_of_none q n0)]; exact q
  have he := h3 hs a rfl
  refine ⟨s01, ⟨⟨S.e.s0.trans s01, fun b u q => by rw [upd_ne (ne_of_none q he)]; exact S.e.s _ _ q, fun b u q => ?_, fun b u q q' => ?_⟩, by rw [List.length_set]; exact S.len, fun j t hj hn => ?_, fun j k t w b hjk hj hk ht hw q => ?_⟩⟩
  · by_cases hb : b = a
    · subst hb; rw [upd_same] at q ⊢; exact q
    · rw [upd_ne hb] at q ⊢; exact S.e.sub _ _ q
  · by_cases hb : b = a
    · subst hb; exact .inl he
    · rw [upd_ne hb] at q'; exact S.e.fr b u q q'
  · by_cases hji : i = j
    · subst hji
      rw [List.getElem?_set_self il] at hj
      cases hj
      exact ⟨.ref a, h1, n _ s01 upd_same, fun z => by cases z⟩
    · rw [List.getElem?_set_ne hji] at hj
      obtain ⟨v', g1, g2, g3⟩ := S.sl j t hj hn
      refine ⟨v', g1, ?_, g3⟩
      by_cases hto : t.isOwn = true
      · obtain ⟨b, rfl, nb, ob⟩ := own_of hto g2
        have hba : b ≠ a := fun z => by
          subst z
          exact S.ap i j s t b hji h hj hs hto h1 g1
        have nb' : upd H0 a o b = none := by rw [upd_ne hba]; exact nb
        have ob' : OwnAt K (upd H0 a o) (upd H a o) b t := by
          cases t with
          | no => exact ob
          | ref c => exact ob
          | exc c o x => exact ob
          | dat d => exact ob
          | own ds => obtain ⟨xs, q1, q2⟩ := ob; exact ⟨xs, by rw [upd_ne hba]; exact q1, q2.mono s01⟩
          | oK ks vs => obtain ⟨xs, q1, q2, q3⟩ := ob; exact ⟨xs, by rw [upd_ne hba]; exact q1, q2, q3.mono s01⟩
          | oT ks vs => obtain ⟨xs, q1, q2, q3⟩ := ob; exact ⟨xs, by rw [upd_ne hba]; exact q1, q2, q3.mono s01⟩
        cases t with
        | no => cases hto
        | ref c => cases hto
        | exc c o x => cases hto
        | dat d => cases hto
        | own ds => exact ⟨b, rfl, nb', ob'⟩
        | oK ks vs => exact ⟨b, rfl, nb', ob'⟩
        | oT ks vs => exact ⟨b, rfl, nb', ob'⟩
      · cases t with
        | no => trivial
        | ref c => exact g2
        | exc c o x => exact ⟨g2.1, g2.2.1, fun f d q => by obtain ⟨dd, u, h1, h2, h3⟩ := g2.2.2 f d q; exact ⟨dd, u, h1, s01 _ _ h2, h3.mono s01⟩⟩
        | dat d => exact Rp.mono s01 g2
        | own ds => exact absurd rfl hto
        | oK ks vs => exact absurd rfl hto
        | oT ks vs => exact absurd rfl hto
  · have get : ∀ {j : Nat} {t : Sl}, t.isOwn = true → (ρ.set i (.dat d))[j]? = some t → ρ[j]? = some t := fun {j t} ht q => by
      by_cases hj : i = j
      · subst hj
        rw [List.getElem?_set_self il] at q
        cases q
        cases ht
      · rwa [List.getElem?_set_ne hj] at q
    exact S.ap j k t w b hjk (get ht hj) (get hw hk) ht hw q
theorem StOk.leave {He0 He : Hp} {σ : St} {H0 H : Hp} (S : StOk K He0 He σ H0 H ρ) {i : Nat} {s : Sl} {a : Addr} {o : HO} {d : D} (h : ρ[i]? = some s) (hs : s.isOwn = true) (e : σ[i]? = some (some (.ref a)))
    (n : ∀ G, Same H0 G → G a = some o → Rp K G (.ref a) d) : ∃ H1, Same H0 H1 ∧ StOk K He0 He σ H1 (upd H a o) (ρ.set i (.dat d)) := ⟨_, S.leaveX h hs e n⟩
theorem ws_lockT {i : Nat} {ks vs} (h : ρ[i]? = some (.oT ks vs)) (w : WS K W ts (ρ.set i (.dat (.fT ks vs))) E) : WS K W (tLockF ts) ρ E := fun He0 He σ H0 H D S e => by
  obtain ⟨v', g1, g2, g3⟩ := S.sl i _ h (by intro z; cases z)
  obtain ⟨a, rfl, n0, kvs, ha, rfl, rs⟩ := g2
  refine ⟨a, _, ha, trivial, fun od => ?_⟩
  obtain ⟨H1, s1, S1⟩ := S.leave (o := .frz od (.dT kvs)) h rfl g1 fun G s q => .fT q (rs.mono s)
  exact w He0 He σ H1 _ D S1 e
theorem ws_lockK {i : Nat} {ks vs} (h : ρ[i]? = some (.oK ks vs)) (w : WS K W ts (ρ.set i (.dat (.fK ks vs))) E) : WS K W (tLockF ts) ρ E := fun He0 He σ H0 H D S e => by
  obtain ⟨v', g1, g2, g3⟩ := S.sl i _ h (by intro z; cases z)
  obtain ⟨a, rfl, n0, kvs, ha, rfl, rs⟩ := g2
  refine ⟨a, _, ha, trivial, fun od => ?_⟩
  obtain ⟨H1, s1, S1⟩ := S.leave (o := .frz od (.dK kvs)) h rfl g1 fun G s q => .fK q (rs.mono s)
  exact w He0 He σ H1 _ D S1 e
end
end DL

set_option maxRecDepth 100000
set_option maxHeartbeats 1000000
/-! walks of all kinds by the data they yield -/
namespace L2
open PySem PySem.Spec PyProof.Rows
section
variable {X : Cx} {pins : List (Addr × Obj)} {σ : St} {H : Hp} {s : Shared} {d : Addr} {o : Obj}
end
section
variable {P : Program} {w : World} {K : PySem.W.Frag} {tg : Expr} {d : Addr} {o : Obj} {es : Array DictEntry} {ep : Nat}
end
section
variable {X : Cx} {tg e : Expr} {td : TE} {apos cpos : Pos}
end
end L2
namespace DL
open PySem PySem.Spec L2
section
variable {K : PySem.W.Frag} {W : WX} {te ta tb tc tl td ty tx tv : TE} {tt tu : TT} {ts tr : TS} {tas : TA} {ti : TI} {ρ : Rho} {P : D → Prop} {PB : Bool → Prop} {PS : Sl → Prop} {PA PL : List D → Prop} {X : Exn → Prop} {E : En} {r r' : R2} {g : TG} {u : TGs}
theorem DictT.own {i : Nat} {ks : List (List Key)} {vs : List D} (h : ρ[i]? = some (.oT ks vs)) : DictT ρ i ks vs := .inl h
theorem DictT.still {i : Nat} {ks : List (List Key)} {vs : List D} (h : ρ[i]? = some (.dat (.dT ks vs))) : DictT ρ i ks vs := .inr ⟨_, h, .d⟩
theorem DictT.lock {i : Nat} {ks : List (List Key)} {vs : List D} (h : ρ[i]? = some (.dat (.fT ks vs))) : DictT ρ i ks vs := .inr ⟨_, h, .f⟩
theorem DictK.own {i : Nat} {ks : List Key} {vs : List D} (h : ρ[i]? = some (.oK ks vs)) : DictK ρ i ks vs := .inl h
theorem DictK.still {i : Nat} {ks : List Key} {vs : List D} (h : ρ[i]? = some (.dat (.dK ks vs))) : DictK ρ i ks vs := .inr ⟨_, h, .d⟩
theorem DictK.lock {i : Nat} {ks : List Key} {vs : List D} (h : ρ[i]? = some (.dat (.fK ks vs))) : DictK ρ i ks vs := .inr ⟨_, h, .f⟩
theorem bv_yes (p : PB true) : BvP K W tYes ρ PB X := fun He0 He σ H0 H Q S x k => k true H0 H p S (.refl S.sub)
/-- a walk yields xs -/
structure ItD (K : PySem.W.Frag) (G0 : Hp) (J : It) (xs : List D) : Prop where
  go : ∀ i H, i < xs.length → Same G0 H → J.go i H
  stop : ∀ H, Same G0 H → J.stop xs.length H
  yld : ∀ i H x H' G, i < xs.length → Same G0 G → Same G H → J.yld i H x H' → ∃ G' d, Ext G H G' H' ∧ xs[i]? = some d ∧ Rp K G' x d
def IvP (K : PySem.W.Frag) (W : WX) (ti : TI) (ρ : Rho) (P : List D → Prop) (X : Exn → Prop) : Prop :=
  ∀ (He0 He : Hp) (σ : St) (H0 H : Hp) (R : It → Hp → Prop), StOk K He0 He σ H0 H ρ → Exs K He0 He W σ ρ X →
    (∀ J xs H0' H', P xs → StOk K He0 He σ H0' H' ρ → Ext H0 H H0' H' → ItD K H0' J xs → R J H') → ti σ H R
theorem ws_forD {tb : TS} (h : IvP K W ti ρ (fun xs => ∃ I : Nat → Rho → Prop, I 0 ρ ∧ (∀ i x ρ', xs[i]? = some x → I i ρ' → Turn1 K W g tb E x ρ' (I (i + 1))) ∧ ∀ ρ', I xs.length ρ' → E.nx ρ') (fun x => E.ex x ρ)) :
    WS K W (tFor ti g tb) ρ E := fun He0 He σ H0 H D S e => by
  refine h He0 He σ H0 H _ S (e.exs σ ρ) fun J xs H1 H1' p S1 e1 itd => ?_
  obtain ⟨I, i0, turn, fin⟩ := p
  refine ⟨fun i m σ H => m = xs.length - i ∧ i ≤ xs.length ∧ ∃ ρ' G, I i ρ' ∧ StOk K H1 He σ G H ρ', ⟨_, rfl, Nat.zero_le _, ρ, H1, i0, S1.base S1.e.s0 (.refl _)⟩, ?_⟩
  rintro i m σ' H' ⟨rfl, hi, ρ', G, hI, S'⟩
  by_cases hlt : i < xs.length
  · refine .inr ⟨itd.go i H' hlt (S'.e.s0.trans S'.e.sub), fun σ H => ∃ ρ' G, I (i + 1) ρ' ∧ StOk K H1 He σ G H ρ', fun σ2 H2 q => ⟨xs.length - (i + 1), by omega, rfl, by omega, q⟩, fun x H2 hy => ?_⟩
    obtain ⟨G', d, e2, hd, rx⟩ := itd.yld i H' x H2 G hlt S'.e.s0 S'.e.sub hy
    exact turn i d ρ' hd hI H1 He σ' G' H2 x _ (S'.ext e2) rx fun ρ'' σ'' w S'' => w H1 He σ'' G' H2 _ S'' (e.loop S1.e fun ρ3 σ3 G3 H3 q3 S3 => ⟨ρ3, G3, q3, S3⟩)
  · obtain rfl : i = xs.length := by omega
    exact .inl ⟨itd.stop H' (S'.e.s0.trans S'.e.sub), e.nx ρ' σ' G H' (fin ρ' hI) (S'.unbase S1.e)⟩
theorem eo_lcD {vs : List Nat} (gi : GIn g vs) (h : IvP K W ti ρ (fun xs => ∃ J : Nat → List D → Prop, J 0 [] ∧ (∀ i x acc, xs[i]? = some x → J i acc → Turn2 K g tt te x (wipeR ρ vs) acc (J (i + 1))) ∧ ∀ acc, J xs.length acc → PS (.own acc)) X) :
    EvO K W (tLc ti g tt te vs) ρ PS X := fun He0 He σ H0 H Q S x k => by
  refine h He0 He σ H0 H _ S x fun It xs H1 H1' p S1 e1 itd L nL => ?_
  obtain ⟨J, j0, turn, fin⟩ := p
  obtain ⟨c0, ap⟩ := CompAt.start (vs := vs) S1 nL
  refine ⟨fun i m H => m = xs.length - i ∧ i ≤ xs.length ∧ ∃ acc G, J i acc ∧ CompAt K He0 He (L2.wipe σ vs) (wipeR ρ vs) H1 H1' L acc G H, ⟨_, rfl, Nat.zero_le _, [], H1, j0, c0⟩, ?_⟩
  rintro i m H ⟨rfl, hi, acc, G, hj, C⟩
  by_cases hlt : i < xs.length
  · refine .inr ⟨itd.go i H hlt (C.e.s0.trans C.e.sub), fun H => ∃ acc G, J (i + 1) acc ∧ CompAt K He0 He (L2.wipe σ vs) (wipeR ρ vs) H1 H1' L acc G H, fun H2 q => ⟨xs.length - (i + 1), by omega, rfl, by omega, q⟩, fun x H2 hy => ?_⟩
    obtain ⟨G', d, e2, hd, rx⟩ := itd.yld i H x H2 G hlt C.e.s0 C.e.sub hy
    have C2 : CompAt K He0 He (L2.wipe σ vs) (wipeR ρ vs) H1 H1' L acc G' H2 := by
      obtain ⟨ys, hL, rs⟩ := C.at_
      exact ⟨C.S.ext e2, C.e.trans e2, ⟨ys, e2.s _ _ hL, rs.mono e2.s0⟩, e2.none C.n0 hL⟩
    exact lc_turn gi nL S1.e.s ap C2 rx (turn i d acc hd hj) fun acc' G' H' j' C' => ⟨acc', G', j', C'⟩
  · obtain rfl : i = xs.length := by omega
    refine .inl ⟨itd.stop H (C.e.s0.trans C.e.sub), ?_⟩
    obtain ⟨f1, f2, f3⟩ := C.finO S1 nL
    exact k _ _ G H (fin acc hj) f1 (e1.trans f2) f3 fun _ a e => by cases e; exact e1.s.free nL
/-! ### the walks -/
theorem itd_list {H0 : Hp} {a : Addr} {xs : List V} {ds : List D} (ha : H0 a = some (.lst xs)) (rs : Rps K H0 xs ds) : ItD K H0 (Itl K a) ds where
  go := fun i H hi s => ⟨xs, xs[i]'(by rw [rs.length]; exact hi), .inl (.inl (s _ _ ha)), List.getElem?_eq_getElem _⟩
  stop := fun H s => ⟨xs, .inl (.inl (s _ _ ha)), by rw [rs.length]; exact Nat.le_refl _⟩
  yld := fun i H x H' G hi s s' hy => by
    obtain ⟨rfl, hy⟩ := hy
    have hx := hy xs (.inl (.inl (s' _ _ (s _ _ ha))))
    obtain ⟨d, hd, rx⟩ := rs.get' hx
    exact ⟨G, d, .refl s', hd, rx.mono s⟩
theorem itd_tup {H0 : Hp} {a : Addr} {xs : List V} {ds : List D} (ha : H0 a = some (.tup xs)) (rs : Rps K H0 xs ds) : ItD K H0 (Itt K a) ds where
  go := fun i H hi s => ⟨xs, xs[i]'(by rw [rs.length]; exact hi), .inl (.inl (s _ _ ha)), List.getElem?_eq_getElem _⟩
  stop := fun H s => ⟨xs, .inl (.inl (s _ _ ha)), by rw [rs.length]; exact Nat.le_refl _⟩
  yld := fun i H x H' G hi s s' hy => by
    obtain ⟨rfl, hy⟩ := hy
    have hx := hy xs (.inl (.inl (s' _ _ (s _ _ ha))))
    obtain ⟨d, hd, rx⟩ := rs.get' hx
    exact ⟨G, d, .refl s', hd, rx.mono s⟩
def enumD (ds : List D) : List D := (List.range ds.length).zipWith (fun i d => .tup [.int ((i : Nat) : Int), d]) ds
theorem itd_keysT {H0 : Hp} {d : Addr} {o : Obj} {kvs : List (List Key × V)} (ha : H0 d = some (.frz o (.dT kvs))) : ItD K H0 (Itkt d o kvs) ((kvs.map (·.1)).map tD) where
  go := fun i H hi s => ⟨s _ _ ha, by simpa using hi⟩
  stop := fun H s => ⟨s _ _ ha, by simp⟩
  yld := fun i H x H' G hi s s' hy => by
    obtain ⟨rfl, kk, v, q, hk, rfl, hq⟩ := hy
    have hg : ((kvs.map (·.1)).map tD)[i]? = some (tD kk) := by rw [List.getElem?_map, List.getElem?_map, hk]; rfl
    cases hG : G q with
    | some u =>
      have hu : u = .tup (kk.map kV) := by
        have z := s' _ _ hG
        rw [hq] at z
        exact (Option.some.inj z).symm
      exact ⟨G, _, .refl s', hg, .tup (by rw [hG, hu]) (Rps.of_kDs kk)⟩
    | none =>
      refine ⟨upd G q (.tup (kk.map kV)), _, ⟨fun b u z => by rw [upd_ne (ne_of_none z hG)]; exact z, .refl _, fun b u z => ?_, fun b u z z' => ?_⟩, hg, .tup upd_same (Rps.of_kDs kk)⟩
      · by_cases hb : b = q
        · subst hb; rw [upd_same] at z; cases z; exact hq
        · rw [upd_ne hb] at z; exact s' _ _ z
      · by_cases hb : b = q
        · subst hb; exact .inr ⟨_, hq⟩
        · rw [upd_ne hb] at z'; rw [z] at z'; cases z'
theorem itd_keysK {H0 : Hp} {d : Addr} {o : Obj} {kvs : List (Key × V)} (ha : H0 d = some (.frz o (.dK kvs))) : ItD K H0 (Itk d o kvs) ((kvs.map (·.1)).map kD) where
  go := fun i H hi s => ⟨s _ _ ha, by simpa using hi⟩
  stop := fun H s => ⟨s _ _ ha, by simp⟩
  yld := fun i H x H' G hi s s' hy => by
    obtain ⟨rfl, kk, v, hk, rfl⟩ := hy
    exact ⟨G, kD kk, .refl s', by rw [List.getElem?_map, List.getElem?_map, hk]; rfl, .of_kD kk⟩
theorem iv_keysT {i : Nat} {ks vs} (h : ρ[i]? = some (.dat (.fT ks vs))) (p : PL (ks.map tD)) : IvP K W (iKeys (tVar i)) ρ PL X := fun He0 He σ H0 H R S x k => by
  obtain ⟨v, h1, h2⟩ := S.dat h
  cases h2 with
  | fT ha rs => exact ⟨_, h1, _, _, rfl, .inr ⟨_, S.sub _ _ ha, k _ _ H0 H p S (.refl S.sub) (itd_keysT ha)⟩⟩
theorem iv_keysK {i : Nat} {ks vs} (h : ρ[i]? = some (.dat (.fK ks vs))) (p : PL (ks.map kD)) : IvP K W (iKeys (tVar i)) ρ PL X := fun He0 He σ H0 H R S x k => by
  obtain ⟨v, h1, h2⟩ := S.dat h
  cases h2 with
  | fK ha rs => exact ⟨_, h1, _, _, rfl, .inl ⟨_, S.sub _ _ ha, k _ _ H0 H p S (.refl S.sub) (itd_keysK ha)⟩⟩
end
end DL

set_option maxRecDepth 100000
set_option maxHeartbeats 1000000
namespace DL
open PySem PySem.Spec L2
/-! ### integers, ascending -/
def srt (l : List Int) : List Int := l.mergeSort fun a b => decide (a ≤ b)
section
variable {K : PySem.W.Frag} {W : WX} {P : D → Prop}
end
end DL

set_option maxRecDepth 100000
set_option maxHeartbeats 1000000
namespace L2
open PySem PySem.Spec PyProof.Rows
section
variable {X : Cx} {a b c d : Expr} {ta tb tc td : TE} {pos : Pos}
end
end L2
namespace DL
open PySem PySem.Spec L2
section
variable {K : PySem.W.Frag} {W : WX} {te ta tb tc tl td ty tx tv : TE} {tt tu : TT} {ts tr : TS} {tas : TA} {ti : TI} {ρ : Rho} {P : D → Prop} {PB : Bool → Prop} {PS : Sl → Prop} {PA PL : List D → Prop} {X : Exn → Prop} {E : En} {r r' : R2} {g : TG} {u : TGs}
/-! ### tuples joined and cut -/
theorem od_addT {i j : List D} (hz : i.length + j.length ≤ sizeLine) (p : P (.tup (i ++ j))) : OpD K (rAdd K) (.tup i) (.tup j) P := fun H0 H v u Q s a b k => by
  cases a with
  | @tup a1 x1 _ ha ra =>
    cases b with
    | @tup a2 x2 _ hb rb =>
      refine .inr ⟨a1, a2, x1, x2, rfl, rfl, .inl (.inl (s _ _ ha)), .inl (.inl (s _ _ hb)), by rw [ra.length, rb.length]; exact hz, fun e => ?_, fun e e2 => ?_, fun e e2 q nq => ?_⟩
      · subst e
        cases ra
        exact k _ _ H0 H p (.refl s) (.tup hb rb)
      · subst e2
        cases rb
        rw [List.append_nil] at p
        exact k _ _ H0 H p (.refl s) (.tup ha ra)
      · exact k _ _ _ _ p (.new s nq) (.tup upd_same ((ra.mono (Ext.new s nq).s0).append (rb.mono (Ext.new s nq).s0)))
theorem cutV_whole {xs : List V} {lo hi : Option Int} (h : HT.sIx xs.length 0 lo = 0 ∧ HT.sIx xs.length xs.length hi = xs.length) : cutV xs lo hi = xs := by
  unfold cutV
  rw [h.1, h.2, List.drop_zero, Nat.sub_zero, List.take_of_length_le (Nat.le_refl _)]
theorem sd_tup {l : List D} {lo hi : Option Int} (p : P (.tup (cutD l lo hi))) : SlD K (rSlA K) (.tup l) lo hi P := fun H0 H v Q s a k => by
  cases a with
  | @tup a1 x1 _ ha ra =>
    refine ⟨a1, x1, rfl, .inl (.inl (s _ _ ha)), fun w => ?_, fun w q nq => ?_⟩
    · have r2 := ra.cut lo hi
      rw [cutV_whole w] at r2
      exact k _ _ H0 H p (.refl s) (.tup ha r2)
    · exact k _ _ _ _ p (.new s nq) (.tup upd_same ((ra.mono (Ext.new s nq).s0).cut lo hi))
/-! ### stores into a list of one's own; a, b = .. with such targets -/
/-- as GvP; the target may write at one's own -/
def GwP (K : PySem.W.Frag) (g : TG) (d : D) (ρ : Rho) (P : Rho → Prop) : Prop :=
  ∀ (He0 He : Hp) (σ : St) (H0 H : Hp) (v : V) (Q : St → Hp → Prop), StOk K He0 He σ H0 H ρ → Rp K H0 v d → (∀ ρ' σ' H0' H', P ρ' → StOk K He0 He σ' H0' H' ρ' → Same H0 H0' → Q σ' H') → g v σ H Q
variable {PR : Rho → Prop} {d : D} {ds : List D}
theorem ws_asgW (h : EvP K W te ρ (fun d => GwP K g d ρ E.nx) (fun x => E.ex x ρ)) : WS K W (tAsg te g) ρ E := fun He0 He σ H0 H D S e =>
  h He0 He σ H0 H _ S (e.exs σ ρ) fun v d H1 H1' p S1 e1 r1 => p He0 He σ H1 H1' v _ S1 r1 fun ρ' σ' H0' H' q S' _ => e.nx ρ' σ' H0' H' q S'
theorem gw_sub {i : Nat} {xs : List D} (h : ρ[i]? = some (.own xs)) (w : EvP K W0 tb ρ (fun y => ∃ (k : Int) (j : Nat), y = .int k ∧ ixN xs.length k = some j ∧ PR (ρ.set i (.own (xs.set j d)))) X0) : GwP K (gSub (tVar i) tb rSetL) d ρ PR := fun He0 He σ H0 H v Q S r k => by
  obtain ⟨o, h1, _⟩ := S.sl i _ h (by intro z; cases z)
  refine ⟨o, h1, w He0 He σ H0 H _ S (fun _ _ _ _ _ z => z.elim) fun y dy H1 H1' p S1 e1 r1 => ?_⟩
  obtain ⟨kk, j, rfl, hj, p⟩ := p
  cases r1
  obtain ⟨o', h1', h2, h3⟩ := S1.sl i _ h (by intro z; cases z)
  obtain ⟨a, rfl, n0, ys, ha, rs⟩ := h2
  rw [h1] at h1'
  cases h1'
  refine ⟨a, ys, kk, j, rfl, rfl, ha, by rw [rs.length]; exact hj, ?_⟩
  exact k _ σ H1 _ p (S1.writeAt h rfl rfl h1 ⟨_, upd_same, Rps.set (r.mono e1.s0) j rs⟩) e1.s0
/-! ### insert, pop -/
theorem Rps.erase {H : Hp} : ∀ {ds : List D} {vs : List V} (i : Nat), Rps K H vs ds → Rps K H (vs.eraseIdx i) (ds.eraseIdx i)
  | [], _, _, .nil => .nil
  | _ :: _, _, 0, .cons _ t => t
  | _ :: _, _, i + 1, .cons r t => .cons r (Rps.erase i t)
/-! ### list(x), list(range(..)) -/
/-! ### isinstance -/
inductive TyD : D → String → Prop
  | non : TyD .non "NoneType" | bl (b : Bool) : TyD (.bl b) "bool" | int (i : Int) : TyD (.int i) "int" | str (x : Str) : TyD (.str x) "str" | lst (l : List D) : TyD (.lst l) "list" | tup (l : List D) : TyD (.tup l) "tuple"
/-! ### tuples of ints, ascending -/
def tI (l : List Int) : D := .tup (l.map D.int)
def lI (l : List Int) : D := .lst (l.map D.int)
end
end DL

set_option maxRecDepth 100000
set_option maxHeartbeats 4000000
namespace DL
open PySem PySem.Spec L2 PyProof.Rows PySem.Calls
/-! ### an exception class whose __init__ says: super().__init__(text); self.f = x -/
section
variable {prog : Program} {w : World} {A : Around} {E : Value → Shared → Prop}
open PySem.W in
end
open NdefX in
open NdefX in
open NdefX in
section
open NdefX
variable {X : Cx} {ta : TA} {e : Expr} {es : List Expr} {p pos : Pos}
end
section
variable {K : PySem.W.Frag} {W : WX} {te ta tb tc tl : TE} {tt tu : TT} {ts tr : TS} {tas : TA} {ρ : Rho} {P : D → Prop} {X : Exn → Prop} {E : En}
end
end DL

set_option maxRecDepth 100000
set_option maxHeartbeats 1000000
namespace DL
open PySem PySem.Spec L2
inductive All2 {α β : Type} (R : α → β → Prop) : List α → List β → Prop
  | nil : All2 R [] []
  | cons {a : α} {b : β} {as : List α} {bs : List β} : R a b → All2 R as bs → All2 R (a :: as) (b :: bs)
theorem All2.length {α β : Type} {R : α → β → Prop} {as : List α} {bs : List β} (h : All2 R as bs) : as.length = bs.length := by
  induction h with
  | nil => rfl
  | cons _ _ ih => rw [List.length_cons, List.length_cons, ih]
theorem All2.snoc {α β : Type} {R : α → β → Prop} {as : List α} {bs : List β} {a : α} {b : β} (h : All2 R as bs) (r : R a b) : All2 R (as ++ [a]) (bs ++ [b]) := by
  induction h with
  | nil => exact .cons r .nil
  | cons h _ ih => exact .cons h ih
theorem All2.imp {α β : Type} {R R' : α → β → Prop} {as : List α} {bs : List β} (h : All2 R as bs) (f : ∀ a b, R a b → R' a b) : All2 R' as bs := by
  induction h with
  | nil => exact .nil
  | cons h _ ih => exact .cons (f _ _ h) ih
theorem All2.get {α β : Type} {R : α → β → Prop} {as : List α} {bs : List β} (h : All2 R as bs) : ∀ {i : Nat} {a : α}, as[i]? = some a → ∃ b, bs[i]? = some b ∧ R a b := by
  induction h with
  | nil => intro i a e; simp at e
  | cons h _ ih =>
    intro i a e
    cases i with
    | zero => simp at e; subst e; exact ⟨_, by simp, h⟩
    | succ i =>
      obtain ⟨b, e1, e2⟩ := ih (i := i) (by simpa using e)
      exact ⟨b, by simpa using e1, e2⟩
theorem All2.mem {α β : Type} {R : α → β → Prop} {as : List α} {bs : List β} (h : All2 R as bs) : ∀ {b : β}, b ∈ bs → ∃ a ∈ as, R a b := by
  induction h with
  | nil => intro b e; simp at e
  | cons h _ ih =>
    intro b e
    rcases List.mem_cons.mp e with rfl | e
    · exact ⟨_, List.mem_cons_self, h⟩
    · obtain ⟨a, e1, e2⟩ := ih e
      exact ⟨a, List.mem_cons_of_mem _ e1, e2⟩
section
variable {K : PySem.W.Frag} {W : WX} {te ta tb tc tl : TE} {tt tu : TT} {ts tr : TS} {tas : TA} {ti : TI} {ρ : Rho} {P : D → Prop} {PB : Bool → Prop} {PS : Sl → Prop} {PA : List D → Prop} {X : Exn → Prop} {E : En} {r r' : R2} {g : TG} {u : TGs}
/-! ### promises with a ghost: the caller says of which x the arguments are -/
section
variable {α : Type} {enc : α → List D} {pre : α → Prop} {post : α → Sl → Prop} {exn : α → Exn → Prop}
end
section
variable {α β : Type} {enc : α → List D} {pre : α → Prop} {rel : α → β → Prop} {out : α → β → Sl}
end
/-! ### loops over a typed state: up puts the state s into the slots, junk are the slots that each turn may spoil -/
def fgt : List Nat → Rho → Rho
  | [], ρ => ρ
  | i :: l, ρ => fgt l (ρ.set i .no)
theorem StOk.forgets {He0 He : Hp} {σ : St} {H0 H : Hp} : ∀ (l : List Nat) {ρ : Rho}, StOk K He0 He σ H0 H ρ → StOk K He0 He σ H0 H (fgt l ρ)
  | [], _, S => S
  | i :: l, _, S => (S.forget i).forgets l
/-- the ends may be asked for forgetful states -/
theorem WS.forget {E' : En} (l : List Nat) (h : WS K W ts ρ E') (h1 : ∀ ρ, E'.nx ρ → E.nx (fgt l ρ)) (h4 : ∀ ρ, E'.ct ρ → E.ct (fgt l ρ)) (h2 : ∀ s, E'.rt s → E.rt s) (h3 : ∀ ρ, E'.bk ρ → E.bk ρ) (h5 : ∀ x ρ, E'.ex x ρ → E.ex x ρ) : WS K W ts ρ E :=
  fun He0 He σ H0 H D S e => h He0 He σ H0 H D S ⟨fun ρ σ H0 H q S => e.nx _ σ H0 H (h1 _ q) (S.forgets l), fun s v H0 H q => e.rt s v H0 H (h2 _ q), fun ρ σ H0 H q => e.bk ρ σ H0 H (h3 _ q), fun ρ σ H0 H q S => e.ct _ σ H0 H (h4 _ q) (S.forgets l), fun x ρ σ H0 H c o q => e.ex x ρ σ H0 H c o (h5 _ _ q)⟩
/-! ### ranges -/
def rg (n : Int) : List Int := (List.range n.toNat).map fun i : Nat => (i : Int)
def rgs (a b : Int) : List Int := (List.range (b - a).toNat).map fun i : Nat => a + (i : Int)
theorem rg_mem {n x : Int} : x ∈ rg n ↔ 0 ≤ x ∧ x < n := by
  unfold rg
  rw [List.mem_map]
  refine ⟨fun ⟨i, h, e⟩ => ?_, fun h => ⟨x.toNat, ?_, by omega⟩⟩
  · rw [List.mem_range] at h; omega
  · rw [List.mem_range]; omega
theorem rg_len (n : Int) : (rg n).length = n.toNat := by unfold rg; rw [List.length_map, List.length_range]
theorem rgs_len (a b : Int) : (rgs a b).length = (b - a).toNat := by unfold rgs; rw [List.length_map, List.length_range]
theorem rg_get {n : Int} {i : Nat} {x : Int} (h : (rg n)[i]? = some x) : x = i ∧ i < n.toNat := by
  unfold rg at h
  rw [List.getElem?_map] at h
  by_cases hi : i < n.toNat
  · rw [List.getElem?_range hi] at h
    exact ⟨(Option.some.inj h).symm, hi⟩
  · rw [List.getElem?_eq_none (by simpa using hi)] at h
    cases h
theorem itd_ints {G0 : Hp} {lo : Int} {n : Nat} (l : List Int) (hl : l.length = n) (hg : ∀ (i : Nat) x, l[i]? = some x → x = lo + i) : ItD K G0 (Itr lo n) (l.map D.int) where
  go := fun i H hi s => by rw [List.length_map, hl] at hi; exact hi
  stop := fun H s => by rw [List.length_map, hl]; exact Nat.le_refl _
  yld := fun i H x H' G hi s s' hy => by
    rw [List.length_map] at hi
    obtain ⟨rfl, rfl⟩ := hy
    refine ⟨G, .int (lo + i), .refl s', ?_, .int _⟩
    rw [List.getElem?_map, List.getElem?_eq_getElem hi]
    have := hg i _ (List.getElem?_eq_getElem hi)
    rw [this]; rfl
variable {PL : List D → Prop}
theorem iv_rg1 (h : AvP K W tas ρ (fun ds => ∃ n : Int, ds = [.int n] ∧ (-(2 ^ 62) ≤ n ∧ n < 2 ^ 62) ∧ PL ((rg n).map D.int)) X) : IvP K W (iRng1 tas) ρ PL X := fun He0 He σ H0 H R S x k => by
  refine h He0 He σ H0 H _ S x fun vs ds H1 H1' p S1 e1 r1 => ?_
  obtain ⟨n, rfl, ⟨b1, b2⟩, p⟩ := p
  cases r1 with
  | cons q1 r1 =>
    cases q1
    cases r1
    exact ⟨n, rfl, b1, b2, k _ _ H1 H1' p S1 e1 (itd_ints (rg n) (rg_len n) fun i x hx => by have := (rg_get hx).1; omega)⟩
/-! ### comprehensions by what each item gives -/
end
end DL

set_option maxRecDepth 100000
set_option maxHeartbeats 1000000
namespace DL
open PySem PySem.Spec L2
section
variable {K : PySem.W.Frag} {W : WX} {te ta tb tc tl : TE} {tt tu : TT} {ts tr : TS} {tas : TA} {ti : TI} {ρ : Rho} {P : D → Prop} {PB : Bool → Prop} {PS : Sl → Prop} {PA : List D → Prop} {X : Exn → Prop} {E : En} {r r' : R2} {g : TG} {u : TGs}
/-! ### comprehensions with two fors -/
def ownFree (ρ : Rho) (vs : List Nat) : Bool := vs.all fun j => match ρ[j]? with
  | some t => !t.isOwn
  | none => true
end
end DL

set_option maxRecDepth 100000
set_option maxHeartbeats 1000000
namespace DL
open PySem PySem.Spec L2
/-! ### arguments that defaults or keywords fill up -/
/-- what a call binds whose keywords come last, in their order -/
structure KBs (K : PySem.W.Frag) (fd : FuncData) (ps : List Str) (n : Nat) (ks : List Str) : Prop where
  to : ∀ (s : Shared) (us ws : List Value), us.length = n → ws.length = ks.length → BindsTo s fd ⟨us, ks.zip ws⟩ (ps.zip (us ++ ws))
theorem KBs.of {K : PySem.W.Frag} {fd : FuncData} {ps : List Str} {n : Nat} {ks : List Str} (h : ∀ us ws : List Value, us.length = n → ws.length = ks.length → bindArgs fd ⟨us, ks.zip ws⟩ = pure (ps.zip (us ++ ws))) : KBs K fd ps n ks :=
  ⟨fun s us ws h1 h2 => .of_eq (h us ws h1 h2)⟩
section
variable {X : Cx} {CX : CXT} {k n : Nat} {f : Addr} {fd : FuncData} {ps ks : List Str} {sp : Sp} {E : St → XK} {x : Str} {p pos : Pos} {e : Expr} {es : List Expr} {kws : List Keyword} {t tk : TA}
end
section
variable {K : PySem.W.Frag} {W : WX} {te ta tb tc tl : TE} {tt tu : TT} {ts tr : TS} {tas tks : TA} {ti : TI} {ρ : Rho} {P : D → Prop} {PB : Bool → Prop} {PS : Sl → Prop} {PA : List D → Prop} {X : Exn → Prop} {E : En} {r r' : R2} {g : TG} {u : TGs}
/-! ### methods of lists that only read -/
end
end DL

set_option maxRecDepth 100000
set_option maxHeartbeats 1000000
namespace DL
open PySem PySem.Spec L2
/-! ### sorted rows, exactly -/
section
variable {K : PySem.W.Frag} {P : D → Prop}
end
/-- the shape of rows -/
theorem shp_tI (l : List Int) : Shp 1 (tI l) := fun d hd => by
  obtain ⟨i, _, rfl⟩ := List.mem_map.mp hd
  trivial
theorem shp_tIs (rows : List (List Int)) : Shp 2 (.lst (rows.map tI)) := fun d hd => by
  obtain ⟨r, _, rfl⟩ := List.mem_map.mp hd
  exact shp_tI r
theorem shp_ints (l : List Int) : Shp 1 (.lst (l.map D.int)) := fun d hd => by
  obtain ⟨i, _, rfl⟩ := List.mem_map.mp hd
  trivial
/-! ### == of rows -/
theorem eqvI : ∀ (a b : List Int), PyData.eqvAll (D.pys (a.map D.int)) (D.pys (b.map D.int)) = decide (a = b)
  | [], [] => rfl
  | [], _ :: _ => rfl
  | _ :: _, [] => rfl
  | x :: a, y :: b => by
    simp only [List.map_cons, D.pys, D.py, PyData.eqvAll, PyData.eqv, eqvI a b]
    by_cases e : x = y <;> by_cases f : a = b <;> simp [e, f]
theorem eqb_tI (a b : List Int) : D.eqb (tI a) (tI b) = decide (a = b) := by
  unfold D.eqb tI
  simp only [D.py, PyData.eqv]
  exact eqvI a b
theorem eqb_lI (a b : List Int) : D.eqb (.lst (a.map D.int)) (.lst (b.map D.int)) = decide (a = b) := by
  unfold D.eqb
  simp only [D.py, PyData.eqv]
  exact eqvI a b
theorem eqvT : ∀ (a b : List (List Int)), PyData.eqvAll (D.pys (a.map tI)) (D.pys (b.map tI)) = decide (a = b)
  | [], [] => rfl
  | [], _ :: _ => rfl
  | _ :: _, [] => rfl
  | x :: a, y :: b => by
    have := eqb_tI x y
    unfold D.eqb at this
    simp only [List.map_cons, D.pys, PyData.eqvAll, this, eqvT a b]
    by_cases e : x = y <;> by_cases f : a = b <;> simp [e, f]
theorem eqb_tIs (a b : List (List Int)) : D.eqb (.lst (a.map tI)) (.lst (b.map tI)) = decide (a = b) := by
  unfold D.eqb
  simp only [D.py, PyData.eqv]
  exact eqvT a b
section
variable {K : PySem.W.Frag} {P : D → Prop}
end
theorem rg_at {n : Int} {i : Nat} (hi : i < n.toNat) : (rg n)[i]? = some (i : Int) := by
  unfold rg
  rw [List.getElem?_map, List.getElem?_range hi]; rfl
end DL

set_option maxRecDepth 100000
set_option maxHeartbeats 1000000
namespace DL
open PySem PySem.Spec L2
/-! ### xs[i] op= e -/
section
variable {K : PySem.W.Frag} {W : WX} {te ta tb tc tl tix : TE} {tt tu : TT} {ts tr : TS} {tas tks : TA} {ti : TI} {ρ : Rho} {P : D → Prop} {PB : Bool → Prop} {PS : Sl → Prop} {PA : List D → Prop} {X : Exn → Prop} {E : En} {r r' : R2} {g : TG} {u : TGs}
end
/-! ### promises whose answer is a function of the ghost -/
section
variable {K : PySem.W.Frag} {W : WX} {tas : TA} {ρ : Rho} {P : D → Prop} {PS : Sl → Prop} {X : Exn → Prop} {α : Type} {enc : α → List D} {pre : α → Prop} {out : α → Sl}
end
end DL

set_option maxRecDepth 100000
set_option maxHeartbeats 1000000
namespace DL
open PySem PySem.Spec L2 PyProof.Rows
/-! ### a dict of the module: texts to ints -/
inductive Ents (P : Params) : List DictEntry → List (Str × Int) → Prop
  | nil : Ents P [] []
  | cons {e : DictEntry} {r : List DictEntry} {l : List (Str × Int)} {x : Str} {i : Int} {t u : Tok} (h1 : e.key = .str x t) (h2 : e.hash = PyData.keyHash P x) (h3 : e.val = .int i u) (h : Ents P r l) : Ents P (e :: r) ((x, i) :: l)
def mget (kvs : List (Str × Int)) (x : Str) : Option Int := (kvs.find? fun p => p.1 == x).map (·.2)
theorem Ents.keys {P : Params} {es : List DictEntry} {kvs} (h : Ents P es kvs) : PySem.W.KeysLit P es := by
  induction h with
  | nil => exact True.intro
  | cons h1 h2 h3 h ih => exact ⟨⟨_, _, h1, h2⟩, ih⟩
section
variable {X : Cx} {b : Expr} {tb : TE} {pos pos' : Pos} {kvs : List (Str × Int)} {a : Addr} {x : Str}
end
section
variable {K : PySem.W.Frag} {W : WX} {tb te : TE} {ρ : Rho} {kvs : List (Str × Int)} {P : D → Prop} {Xx : Exn → Prop}
/-- isinstance(e, (T1, T2)) -/
theorem ev_isi2 {m1 m2 : String} (h : EvP K W te ρ (fun d => ∃ n b1 b2, TyD d n ∧ kitB n m1 = some b1 ∧ kitB n m2 = some b2 ∧ P (.bl (b1 || b2))) Xx) :
    EvP K W (tCB (rIsiT K) (tCons te (tCons (tTup (tCons (tC (.ty m1)) (tCons (tC (.ty m2)) tNil))) tNil))) ρ P Xx := fun He0 He σ H0 H Q S x k => by
  refine h He0 He σ H0 H _ S x fun v d H1 H1' p S1 e1 r1 => ?_
  obtain ⟨n, b1, b2, ty, k1, k2, p⟩ := p
  refine ⟨by show 2 ≤ sizeLine; rw [sizeLine_eq]; decide, fun q nq => ?_⟩
  have e2 : Ext H1 H1' H1 (upd H1' q (.tup [.ty m1, .ty m2])) := .own S1.sub nq
  · refine ⟨v, q, [.ty m1, .ty m2], .type n, [.type m1, .type m2], b1 || b2, rfl, upd_same, .cons (.ty m1) (.cons (.ty m2) .nil), ?_, ?_, k _ _ H1 _ p (S1.ext e2) (e1.trans e2) (.bl _)⟩
    · cases ty with
      | non => cases r1; exact .base .non
      | bl b => cases r1; exact .base (.bl b)
      | int b => cases r1; exact .base (.int b)
      | str b => cases r1; exact .base (.str b)
      | lst l => cases r1 with | lst ha rs => exact .base (.lst (e2.s _ _ (S1.sub _ _ ha)))
      | tup l => cases r1 with | tup ha rs => exact .base (.tup (e2.s _ _ (S1.sub _ _ ha)))
    · exact kitAny_cons (kit_ty k1) (fun z => by subst z; exact kitAny_cons (kit_ty k2) (fun z => by subst z; rfl) (fun z => by subst z; rfl)) (fun z => by subst z; rfl)
end
/-! ### a def that is not called -/
section
variable {P : Program} {w : World} {K : PySem.W.Frag} {mg : Str → Option Value} {base : Heap} {CX : CXT} {k : Nat} {f : Addr} {fd : FuncData} {ps : List Str} {α β : Type} {enc : α → List D} {pre : α → Prop} {post : α → Sl → Prop} {exn : α → Exn → Prop} {rel : α → β → Prop} {outR : α → β → Sl} {out : α → Sl} {res : α → Option D} {C : Addr}
theorem fn_noS {sp : Sp} (h : ∀ vs H Q E, ¬ sp vs H Q E) : FnOk P w K mg base CX k f fd ps sp := ⟨fun vs H Q E q => (h _ _ _ _ q).elim, fun _ _ _ _ _ _ vs Q E _ _ _ _ q => (h _ _ _ _ q).elim⟩
theorem fn_noD {pre : List D → Prop} {post : List D → Sl → Prop} {exn : List D → Exn → Prop} (h : ∀ x, ¬ pre x) : FnOk P w K mg base CX k f fd ps (spD K pre post exn) := fn_noS fun _ _ _ _ ⟨y, _, _, _, p, _⟩ => h y p
/-! ### the answer is a function's, or the one exception -/
end
section
variable {α : Type} {enc : α → List D} {pre : α → Prop} {res : α → Option D} {C : Addr} {K : PySem.W.Frag} {W : WX} {tas : TA} {ρ : Rho} {P : D → Prop} {X : Exn → Prop}
end
section
variable {α β : Type} {enc : α → List D} {pre : α → Prop} {post : α → Sl → Prop} {exn : α → Exn → Prop} {K : PySem.W.Frag} {rel : α → β → Prop} {outR : α → β → Sl} {out : α → Sl} {res : α → Option D} {C : Addr}
  {P : Program} {w : World} {mg : Str → Option Value} {base : Heap} {x qual : Str} {st : Stmt} {f : Addr} {fd : FuncData} {N ps : List Str} {k : Nat} {dvs : List V} {kws : List (Str × V)}
end
/-! ### kinds of plain data -/
def tyD : D → String
  | .non => "NoneType" | .bl _ => "bool" | .int _ => "int" | .str _ => "str" | .lst _ => "list" | .tup _ => "tuple" | _ => "?"
theorem TyD.of {d : D} (h : tyD d ≠ "?") : TyD d (tyD d) := by
  cases d <;> first | exact absurd rfl h | constructor
/-! ### lists and tuples alike -/
def iSeq (K : PySem.W.Frag) (tl : TE) : TI := fun σ H R => tl σ H fun x H1 => ∃ a, x = .ref a ∧ (((∃ xs, SqL K H1 a xs) ∧ R (Itl K a) H1) ∨ ((∃ xs, SqT K H1 a xs) ∧ R (Itt K a) H1))
theorem pi_seq {X : Cx} {tg l : Expr} {tl : TE} (hl : PE X l tl) : PI X tg l (iSeq X.K tl) := by
  refine ⟨fun pins s σ H R I h => ?_⟩
  refine thn (hl.run pins s σ H _ I h) fun v s1 ⟨x, H1, I1, r1, q1⟩ => ?_
  obtain ⟨a, e, q⟩ := q1
  subst e
  cases r1
  rcases q with ⟨⟨xs, hq⟩, q⟩ | ⟨⟨xs, hq⟩, q⟩
  · obtain ⟨its, rv, p, hz⟩ := I1.list hq
    refine wpAny_pyIter_list p.isList ?_
    refine ⟨s1.heap.objs.size, [s1.heap.objs.size], _, _, H1, rfl, I1.kept (t' := s1.toks) fun b o e => Heap.get?_push_of_some _ e, turn_list a _, ⟨_, Heap.get?_push_size _ rfl, rfl, rfl⟩, fun b hb => ?_, q⟩
    have e : b = s1.heap.objs.size := by simpa using hb
    subst e
    exact I1.fpOk (Nat.le_refl _) (I1.hok.fresh (Nat.le_refl _))
  · obtain ⟨its, rv, p, hz⟩ := I1.tuple hq
    refine wpAny_pyIter_tuple (show s1.heap.IsTuple a its.toArray from p) ?_
    refine ⟨s1.heap.objs.size, [s1.heap.objs.size], _, _, H1, rfl, I1.kept (t' := s1.toks) fun b o e => Heap.get?_push_of_some _ e, turn_tuple a _, ⟨_, Heap.get?_push_size _ rfl, rfl, rfl⟩, fun b hb => ?_, q⟩
    have e : b = s1.heap.objs.size := by simpa using hb
    subst e
    exact I1.fpOk (Nat.le_refl _) (I1.hok.fresh (Nat.le_refl _))
section
variable {K : PySem.W.Frag} {W : WX} {tl : TE} {ρ : Rho} {PL : List D → Prop} {X : Exn → Prop}
theorem iv_seq (h : EvP K W tl ρ (fun d => ∃ ds, (d = .lst ds ∨ d = .tup ds) ∧ PL ds) X) : IvP K W (iSeq K tl) ρ PL X := fun He0 He σ H0 H R S x k => by
  refine h He0 He σ H0 H _ S x fun v d H1 H1' p S1 e1 r1 => ?_
  obtain ⟨ds, hd, p⟩ := p
  rcases hd with rfl | rfl
  · cases r1 with
    | lst ha rs => exact ⟨_, rfl, .inl ⟨⟨_, .inl (.inl (S1.sub _ _ ha))⟩, k _ _ H1 H1' p S1 e1 (itd_list ha rs)⟩⟩
  · cases r1 with
    | tup ha rs => exact ⟨_, rfl, .inr ⟨⟨_, .inl (.inl (S1.sub _ _ ha))⟩, k _ _ H1 H1' p S1 e1 (itd_tup ha rs)⟩⟩
end
def rSlAny (K : PySem.W.Frag) : V → Option Int → Option Int → Hp → VK → Prop := fun x lo hi H Q => rSlL K x lo hi H Q ∨ rSlA K x lo hi H Q
theorem sl_any {X : Cx} : SlR X (rSlAny X.K) := SlR.or sl_list sl_tupA
section
variable {pre : List D → Prop} {post : List D → Sl → Prop} {exn : List D → Exn → Prop} {K : PySem.W.Frag}
end
end DL

set_option maxRecDepth 100000
set_option maxHeartbeats 1000000
/-! The readings run: what a def's reading comes to, reckoned over plain data. -/
namespace DL
open PySem PySem.Spec L2
/-- the program's exception classes -/
inductive Cls where
  | PaironceError | InvalidSystem | InvalidTerm | UnknownPoint | UnknownName | InvalidNotation | InvalidPaper | InvalidQuestion | TooMany | NameInUse | NothingToUndo | NothingToRedo
  deriving DecidableEq
structure Exr where
  c : Cls
  arg : Option (Str × D)
def Exr.at (ad : Cls → Addr) (x : Exr) : Exn := ⟨ad x.c, x.arg⟩
inductive Re (α : Type) where
  | ok (a : α) | ex (x : Exr) | bad
def Re.bind {α β : Type} (r : Re α) (f : α → Re β) : Re β := match r with | .ok a => f a | .ex x => .ex x | .bad => .bad
def Re.of {α : Type} : Option α → Re α | some a => .ok a | none => .bad
def Re.noex {α : Type} : Re α → Re α | .ok a => .ok a | _ => .bad
def Re.post {α : Type} (ad : Cls → Addr) (P : α → Prop) (X : Exn → Prop) : Re α → Prop | .ok a => P a | .ex x => X (x.at ad) | .bad => False
theorem Re.ok_bind {α β : Type} {a : α} {f : α → Re β} : (Re.ok a).bind f = f a := rfl
theorem Re.ex_bind {α β : Type} {x : Exr} {f : α → Re β} : (Re.ex x : Re α).bind f = .ex x := rfl
theorem Re.bad_bind {α β : Type} {f : α → Re β} : (Re.bad : Re α).bind f = .bad := rfl
theorem Re.post_bind {α β : Type} {ad : Cls → Addr} {r : Re α} {f : α → Re β} {P : β → Prop} {X : Exn → Prop} (h : (r.bind f).post ad P X) : r.post ad (fun a => (f a).post ad P X) X := by
  cases r <;> exact h
theorem Re.post.imp {α : Type} {ad : Cls → Addr} {r : Re α} {P P' : α → Prop} {X X' : Exn → Prop} (h : r.post ad P X) (f : ∀ a, P a → P' a) (g : ∀ x, X x → X' x := by exact fun _ h => h) : r.post ad P' X' := by
  cases r with
  | ok a => exact f _ h
  | ex x => exact g _ h
  | bad => exact h
theorem Re.post_of {α : Type} {ad : Cls → Addr} {o : Option α} {P : α → Prop} {X : Exn → Prop} (h : (Re.of o).post ad P X) : ∃ a, o = some a ∧ P a := by
  cases o with
  | none => exact h.elim
  | some a => exact ⟨a, rfl, h⟩
theorem Re.post_noex {α : Type} {ad : Cls → Addr} {r : Re α} {P : α → Prop} {X : Exn → Prop} (h : r.noex.post ad P X) : r.post ad P fun _ => False := by
  cases r with
  | ok a => exact h
  | ex x => exact h.elim
  | bad => exact h.elim
inductive Os where
  | nx (ρ : Rho) | rt (s : Sl) | bk (ρ : Rho) | ct (ρ : Rho) | ex (x : Exr) (ρ : Rho) | bad
def Os.post (ad : Cls → Addr) (E : En) : Os → Prop
  | .nx ρ => E.nx ρ | .rt s => E.rt s | .bk ρ => E.bk ρ | .ct ρ => E.ct ρ | .ex x ρ => E.ex (x.at ad) ρ | .bad => False
def Os.thn (o : Os) (f : Rho → Os) : Os := match o with | .nx ρ => f ρ | o => o
def Re.os {α : Type} (r : Re α) (ρ : Rho) (f : α → Os) : Os := match r with | .ok a => f a | .ex x => .ex x ρ | .bad => .bad
def Os.of : Option Rho → Os | some ρ => .nx ρ | none => .bad
def Os.ret : Os → Re Sl | .nx _ => .ok (.dat .non) | .rt s => .ok s | .ex x _ => .ex x | _ => .bad
theorem Os.nx_thn {ρ : Rho} {f : Rho → Os} : (Os.nx ρ).thn f = f ρ := rfl
theorem Os.rt_thn {s : Sl} {f : Rho → Os} : (Os.rt s).thn f = .rt s := rfl
theorem Os.bk_thn {ρ : Rho} {f : Rho → Os} : (Os.bk ρ).thn f = .bk ρ := rfl
theorem Os.ct_thn {ρ : Rho} {f : Rho → Os} : (Os.ct ρ).thn f = .ct ρ := rfl
theorem Os.ex_thn {x : Exr} {ρ : Rho} {f : Rho → Os} : (Os.ex x ρ).thn f = .ex x ρ := rfl
theorem Os.bad_thn {f : Rho → Os} : Os.bad.thn f = .bad := rfl
theorem Re.ok_os {α : Type} {a : α} {ρ : Rho} {f : α → Os} : (Re.ok a).os ρ f = f a := rfl
theorem Re.ex_os {α : Type} {x : Exr} {ρ : Rho} {f : α → Os} : (Re.ex x : Re α).os ρ f = .ex x ρ := rfl
theorem Re.bad_os {α : Type} {ρ : Rho} {f : α → Os} : (Re.bad : Re α).os ρ f = .bad := rfl
theorem Re.os_post {α : Type} {ad : Cls → Addr} {r : Re α} {ρ : Rho} {f : α → Os} {E : En} (h : (r.os ρ f).post ad E) : r.post ad (fun a => (f a).post ad E) (fun x => E.ex x ρ) := by
  cases r <;> exact h
theorem Os.post_thn {ad : Cls → Addr} {o : Os} {f : Rho → Os} {E : En} (h : (o.thn f).post ad E) : o.post ad { E with nx := fun ρ => (f ρ).post ad E } := by
  cases o <;> exact h
/-! ### slots -/
def gt : Rho → Nat → Sl
  | [], _ => .no
  | s :: _, 0 => s
  | _ :: r, i + 1 => gt r i
theorem gt_at : ∀ {ρ : Rho} {i : Nat} {s : Sl}, gt ρ i = s → s ≠ .no → ρ[i]? = some s
  | [], _, _, h, n => absurd h.symm n
  | _ :: _, 0, _, h, _ => by simp [gt] at h; simp [h]
  | _ :: r, i + 1, _, h, n => by simpa using gt_at (ρ := r) (i := i) h n
def Sl.val : Sl → Re D | .dat d => .ok d | _ => .bad
def frz1 (i : Nat) (ρ : Rho) : Rho := match gt ρ i with
  | .own ds => ρ.set i (.dat (.lst ds)) | .oK ks vs => ρ.set i (.dat (.dK ks vs)) | .oT ks vs => ρ.set i (.dat (.dT ks vs)) | _ => ρ
def frz : List Nat → Rho → Rho | [], ρ => ρ | i :: l, ρ => frz l (frz1 i ρ)
def Os.kil (ks : List Nat) : Os → Os | .nx ρ => .nx (fgt ks ρ) | .bk ρ => .bk (fgt ks ρ) | .ct ρ => .ct (fgt ks ρ) | o => o
section
variable (K : PySem.W.Frag) (W : WX) (ad : Cls → Addr)
def CE (te : TE) (r : Rho → Re D) : Prop := ∀ ρ P X, (r ρ).post ad P X → EvP K W te ρ P X
def CO (te : TE) (r : Rho → Re Sl) : Prop := ∀ ρ P X, (r ρ).post ad P X → EvO K W te ρ P X
def CB (tt : TT) (r : Rho → Re Bool) : Prop := ∀ ρ P X, (r ρ).post ad P X → BvP K W tt ρ P X
def CA (ta : TA) (r : Rho → Re (List D)) : Prop := ∀ ρ P X, (r ρ).post ad P X → AvP K W ta ρ P X
def CI (ti : TI) (r : Rho → Re (List D)) : Prop := ∀ ρ P X, (r ρ).post ad P X → IvP K W ti ρ P X
def CP (to : TO) (r : Rho → Re (Option Int)) : Prop := ∀ ρ P X, (r ρ).post ad P X → OvP K W to ρ P X
def CS (ts : TS) (r : Rho → Os) : Prop := ∀ ρ E, (r ρ).post ad E → WS K W ts ρ E
/-- targets -/
def CG (g : TG) (r : D → Rho → Option Rho) : Prop := ∀ d ρ ρ' P, r d ρ = some ρ' → P ρ' → GvP K g d ρ P
def C2 (rr : R2) (o : D → D → Option D) : Prop := ∀ x y z P, o x y = some z → P z → OpD K rr x y P
def C1 (rr : V → Hp → VK → Prop) (o : D → Option D) : Prop := ∀ x z P, o x = some z → P z → UnD K rr x P
def CF (rr : List V → Hp → VK → Prop) (o : List D → Option D) : Prop := ∀ x z P, o x = some z → P z → CbD K rr x P
def CSl (rr : V → Option Int → Option Int → Hp → VK → Prop) (o : D → Option Int → Option Int → Option D) : Prop := ∀ x lo hi z P, o x lo hi = some z → P z → SlD K rr x lo hi P
end
/-! ### expressions -/
def rC (d : D) (_ : Rho) : Re D := .ok d
def rVar (i : Nat) (ρ : Rho) : Re D := (gt ρ i).val
def rOp (o : D → D → Option D) (a b : Rho → Re D) (ρ : Rho) : Re D := (a ρ).bind fun x => (b ρ).bind fun y => .of (o x y)
def rUn (o : D → Option D) (a : Rho → Re D) (ρ : Rho) : Re D := (a ρ).bind fun x => .of (o x)
def rCb (o : List D → Option D) (a : Rho → Re (List D)) (ρ : Rho) : Re D := (a ρ).bind fun x => .of (o x)
def rNil (_ : Rho) : Re (List D) := .ok []
def rCons (a : Rho → Re D) (b : Rho → Re (List D)) (ρ : Rho) : Re (List D) := (a ρ).bind fun x => (b ρ).bind fun y => .ok (x :: y)
def seqD : D → Option (List D) | .lst l => some l | .tup l => some l | _ => none
def rStar (a : Rho → Re D) (b : Rho → Re (List D)) (ρ : Rho) : Re (List D) := (a ρ).bind fun x => (Re.of (seqD x)).bind fun l => (b ρ).bind fun y => .ok (l ++ y)
def rApp (dvs : List D) (a : Rho → Re (List D)) (ρ : Rho) : Re (List D) := (a ρ).bind fun x => .ok (x ++ dvs)
def rApp2 (n m : Nat) (a b : Rho → Re (List D)) (ρ : Rho) : Re (List D) := (a ρ).bind fun x => (b ρ).bind fun y => if x.length = n ∧ y.length = m then .ok (x ++ y) else .bad
def Sl.get : Sl → Re D | .no => .bad | .ref _ => .bad | .exc _ _ _ => .bad | s => .ok s.still
def rStill (o : Rho → Re Sl) (ρ : Rho) : Re D := (o ρ).bind Sl.get
def rCall (m : List D → Re Sl) (a : Rho → Re (List D)) (ρ : Rho) : Re Sl := (a ρ).bind m
def rTup (a : Rho → Re (List D)) (ρ : Rho) : Re D := (a ρ).bind fun l => if l.length ≤ 1000000 then .ok (.tup l) else .bad
def rLst (a : Rho → Re (List D)) (ρ : Rho) : Re Sl := (a ρ).bind fun l => if l.length ≤ 1000000 then .ok (.own l) else .bad
def rNewK (_ : Rho) : Re Sl := .ok (.oK [] [])
def rNewT (_ : Rho) : Re Sl := .ok (.oT [] [])
def rAndV (a b : Rho → Re D) (ρ : Rho) : Re D := (a ρ).bind fun x => match x with | .bl c => if c = true then b ρ else .ok (.bl false) | _ => .bad
def rOrV (a b : Rho → Re D) (ρ : Rho) : Re D := (a ρ).bind fun x => match x with | .bl c => if c = true then .ok (.bl true) else b ρ | _ => .bad
def rNotV (a : Rho → Re D) (ρ : Rho) : Re D := (a ρ).bind fun x => match x with | .bl c => .ok (.bl (!c)) | _ => .bad
def rIfE (t : Rho → Re Bool) (a b : Rho → Re D) (ρ : Rho) : Re D := (t ρ).bind fun c => if c = true then a ρ else b ρ
def blD : Option D → Re Bool | some (.bl b) => .ok b | _ => .bad
def rChain (o o2 : D → D → Option D) (a b c : Rho → Re D) (ρ : Rho) : Re D :=
  (a ρ).bind fun x => (b ρ).bind fun y => (blD (o x y)).bind fun k => if k = true then (c ρ).bind fun z => .of (o2 y z) else .ok (.bl false)
def rChain3 (o o2 o3 : D → D → Option D) (a b c e : Rho → Re D) (ρ : Rho) : Re D :=
  (a ρ).bind fun x => (b ρ).bind fun y => (blD (o x y)).bind fun k => if k = true then (c ρ).bind fun z => (blD (o2 y z)).bind fun k => if k = true then (e ρ).bind fun u => .of (o3 z u) else .ok (.bl false) else .ok (.bl false)
def rChain4 (o o2 o3 o4 : D → D → Option D) (a b c e f : Rho → Re D) (ρ : Rho) : Re D :=
  (a ρ).bind fun x => (b ρ).bind fun y => (blD (o x y)).bind fun k => if k = true then (c ρ).bind fun z => (blD (o2 y z)).bind fun k => if k = true then (e ρ).bind fun u => (blD (o3 z u)).bind fun k => if k = true then (f ρ).bind fun v => .of (o4 u v) else .ok (.bl false) else .ok (.bl false) else .ok (.bl false)
/-! ### tests -/
def rTest (a : Rho → Re D) (ρ : Rho) : Re Bool := (a ρ).bind fun x => match x with | .bl c => .ok c | _ => .bad
def rYes (_ : Rho) : Re Bool := .ok true
def rAnd (a b : Rho → Re Bool) (ρ : Rho) : Re Bool := (a ρ).bind fun c => if c = true then b ρ else .ok false
def rOr (a b : Rho → Re Bool) (ρ : Rho) : Re Bool := (a ρ).bind fun c => if c = true then .ok true else b ρ
def rNot (a : Rho → Re Bool) (ρ : Rho) : Re Bool := (a ρ).bind fun c => .ok (!c)
def truD : D → Option Bool
  | .non => some false | .bl b => some b | .int i => some (decide (i ≠ 0)) | .str x => if x.length ≤ 1000000 then some (decide (x.length ≠ 0)) else none
  | .lst l => some (!l.isEmpty) | .tup l => some (!l.isEmpty) | _ => none
def rTru (a : Rho → Re D) (ρ : Rho) : Re Bool := (a ρ).bind fun x => .of (truD x)
/-! ### targets -/
def gnm (i : Nat) (d : D) (ρ : Rho) : Option Rho := some (ρ.set i (.dat d))
def gtp (n : Nat) (u : List D → Rho → Option Rho) (d : D) (ρ : Rho) : Option Rho := match d with | .tup l => if l.length = n then u l ρ else none | _ => none
def gls (n : Nat) (u : List D → Rho → Option Rho) (d : D) (ρ : Rho) : Option Rho := match d with | .lst l => if l.length = n then u l ρ else none | _ => none
def gni (ds : List D) (ρ : Rho) : Option Rho := match ds with | [] => some ρ | _ => none
def gco (g : D → Rho → Option Rho) (u : List D → Rho → Option Rho) (ds : List D) (ρ : Rho) : Option Rho := match ds with | [] => none | d :: r => (g d ρ).bind (u r)
/-! ### comprehensions -/
def lcGo (f : D → Re (Option D)) : List D → Re (List D)
  | [] => .ok []
  | x :: xs => (f x).bind fun o => (lcGo f xs).bind fun r => .ok (match o with | some d => d :: r | none => r)
def lcF (g : D → Rho → Option Rho) (t : Rho → Re Bool) (e : Rho → Re D) (ρ : Rho) (x : D) : Re (Option D) :=
  match g x ρ with | some ρ' => (t ρ').bind fun b => if b = true then (e ρ').bind fun d => .ok (some d) else .ok none | none => .bad
def rLc (i : Rho → Re (List D)) (g : D → Rho → Option Rho) (t : Rho → Re Bool) (e : Rho → Re D) (vs : List Nat) (ρ : Rho) : Re Sl :=
  (i ρ).bind fun xs => if xs.length ≤ 1000000 then (lcGo (lcF g t e (wipeR ρ vs)) xs).noex.bind fun l => .ok (.own l) else .bad
/-- two fors -/
def lcGo2 (f : D → Re (List D)) : List D → Re (List D)
  | [] => .ok []
  | x :: xs => (f x).bind fun o => (lcGo2 f xs).bind fun r => .ok (o ++ r)
open Classical in
noncomputable def lcF2 (g : D → Rho → Option Rho) (t : Rho → Re Bool) (i1 : Rho → Re (List D)) (g1 : D → Rho → Option Rho) (t1 : Rho → Re Bool) (e : Rho → Re D) (vs vs1 : List Nat) (ρ : Rho) (x : D) : Re (List D) :=
  match g x (wipeR ρ vs) with
  | some ρ2 => if wipeR (wipeR ρ2 vs1) vs = wipeR ρ vs ∧ ownFree (wipeR ρ2 vs1) vs = true then
      (t ρ2).bind fun b => if b = true then (i1 ρ2).bind fun xs1 => if xs1.length ≤ 1000 then lcGo (lcF g1 t1 e (wipeR ρ2 vs1)) xs1 else .bad else .ok []
    else .bad
  | none => .bad
noncomputable def rLc2 (i : Rho → Re (List D)) (g : D → Rho → Option Rho) (t : Rho → Re Bool) (i1 : Rho → Re (List D)) (g1 : D → Rho → Option Rho) (t1 : Rho → Re Bool) (e : Rho → Re D) (vs vs1 : List Nat) (ρ : Rho) : Re Sl :=
  (i ρ).bind fun xs => if xs.length ≤ 1000 then (lcGo2 (lcF2 g t i1 g1 t1 e vs vs1 ρ) xs).noex.bind fun l => .ok (.own l) else .bad
/-! ### statements -/
def rNext (ρ : Rho) : Os := .nx ρ
def rBreak (ρ : Rho) : Os := .bk ρ
def rCont (ρ : Rho) : Os := .ct ρ
def rRetN (_ : Rho) : Os := .rt (.dat .non)
def rSeq (a b : Rho → Os) (ρ : Rho) : Os := (a ρ).thn b
def rDrop (e : Rho → Re D) (ρ : Rho) : Os := (e ρ).os ρ fun _ => .nx ρ
def rRet (e : Rho → Re D) (ρ : Rho) : Os := (e ρ).os ρ fun d => .rt (.dat d)
def rRetO (e : Rho → Re Sl) (ρ : Rho) : Os := (e ρ).os ρ fun s => .rt s
def Sl.rtv : Sl → Os | .no => .bad | .ref _ => .bad | .exc _ _ _ => .bad | s => .rt s
def rRetV (i : Nat) (ρ : Rho) : Os := (gt ρ i).rtv
def rSet (i : Nat) (e : Rho → Re D) (ρ : Rho) : Os := (e ρ).os ρ fun d => .nx (ρ.set i (.dat d))
def rSetO (i : Nat) (e : Rho → Re Sl) (ρ : Rho) : Os := (e ρ).os ρ fun s => .nx (ρ.set i s)
def rAsg (g : D → Rho → Option Rho) (e : Rho → Re D) (ρ : Rho) : Os := (e ρ).os ρ fun d => .of (g d ρ)
def rIf (t : Rho → Re Bool) (a b : Rho → Os) (ρ : Rho) : Os := (t ρ).os ρ fun c => if c = true then a ρ else b ρ
def rK (ks : List Nat) (r : Rho → Os) (ρ : Rho) : Os := (r ρ).kil ks
def rF (is : List Nat) (r : Rho → Os) (ρ : Rho) : Os := r (frz is ρ)
def rPar (i j : Nat) (a : Rho → Re (List D)) (ρ : Rho) : Os := (a ρ).os ρ fun l => match l with | [x, y] => .nx ((ρ.set i (.dat x)).set j (.dat y)) | _ => .bad
def rPar3 (i j l : Nat) (a : Rho → Re (List D)) (ρ : Rho) : Os := (a ρ).os ρ fun m => match m with | [x, y, z] => .nx (((ρ.set i (.dat x)).set j (.dat y)).set l (.dat z)) | _ => .bad
def forGo (step : D → Rho → Os) : List D → Rho → Os
  | [], ρ => .nx ρ
  | x :: xs, ρ => match step x ρ with | .nx ρ' => forGo step xs ρ' | .ct ρ' => forGo step xs ρ' | .bk ρ' => .nx ρ' | o => o
def stepFor (g : D → Rho → Option Rho) (b : Rho → Os) (x : D) (ρ : Rho) : Os := match g x ρ with | some ρ' => b ρ' | none => .bad
def rFor (i : Rho → Re (List D)) (g : D → Rho → Option Rho) (b : Rho → Os) (ρ : Rho) : Os := (i ρ).os ρ fun xs => forGo (stepFor g b) xs ρ
def whl (t : Rho → Re Bool) (b : Rho → Os) : Nat → Rho → Os
  | 0, _ => .bad
  | n + 1, ρ => (t ρ).os ρ fun c => if c = true then match b ρ with | .nx ρ' => whl t b n ρ' | .ct ρ' => whl t b n ρ' | .bk ρ' => .nx ρ' | o => o else .nx ρ
open Classical in
noncomputable def rWhile (t : Rho → Re Bool) (b : Rho → Os) (ρ : Rho) : Os := if h : ∃ n, whl t b n ρ ≠ .bad then whl t b (Classical.choose h) ρ else .bad
def aug (o : D → D → Option D) (i : Nat) (ρ : Rho) (x y : D) : Os := match o x y with | some z => .nx (ρ.set i (.dat z)) | none => .bad
def rAug (o : D → D → Option D) (i : Nat) (e : Rho → Re D) (ρ : Rho) : Os := (rVar i ρ).os ρ fun x => (e ρ).os ρ fun y => aug o i ρ x y
/-- one's own list -/
def Sl.ownL : Sl → Re (List D) | .own l => .ok l | _ => .bad
def xAppend (i : Nat) (e : Rho → Re D) (ρ : Rho) : Os := (gt ρ i).ownL.os ρ fun l => (e ρ).os ρ fun d => if l.length < 1000000 then .nx (ρ.set i (.own (l ++ [d]))) else .bad
/-! ### operators -/
def oIx : D → D → Option D
  | .lst l, .int i => atI l i
  | .tup l, .int i => atI l i
  | .str s, .int i => if s.length ≤ 1000000 then (atI s.cps.toList i).map fun c => .str ⟨#[c]⟩ else none
  | _, _ => none
def oAdd : D → D → Option D
  | .int a, .int b => some (.int (a + b))
  | .lst a, .lst b => if a.length + b.length ≤ 1000000 then some (.lst (a ++ b)) else none
  | .tup a, .tup b => if a.length + b.length ≤ 1000000 then some (.tup (a ++ b)) else none
  | .str a, .str b => if a.length + b.length ≤ 1000000 then some (.str (a ++ b)) else none
  | _, _ => none
/-- a product that the model reckons -/
def mulOk (i j : Int) : Prop := (-(2 ^ 400) < i ∧ i < 2 ^ 400 ∧ -(2 ^ 400) < j ∧ j < 2 ^ 400) ∨ (-(2 ^ 62) < j ∧ j < 2 ^ 62) ∨ (-(2 ^ 62) < i ∧ i < 2 ^ 62)
instance (i j : Int) : Decidable (mulOk i j) := by unfold mulOk; infer_instance
def oSub : D → D → Option D | .int a, .int b => some (.int (a - b)) | _, _ => none
def oMul : D → D → Option D
  | .int a, .int b => if mulOk a b then some (.int (a * b)) else none
  | .lst l, .int b => if 0 ≤ b ∧ b ≤ 1000000 ∧ l.length * b.toNat ≤ 1000000 then some (.lst (List.replicate b.toNat l).flatten) else none
  | _, _ => none
def oIMul : D → D → Option D | .int a, .int b => if mulOk a b then some (.int (a * b)) else none | _, _ => none
def oIAdd : D → D → Option D | .int a, .int b => some (.int (a + b)) | .str a, .str b => if a.length + b.length ≤ 1000000 then some (.str (a ++ b)) else none | _, _ => none
def oDiv : D → D → Option D | .int a, .int b => if 0 < b ∧ (b < 4611686018427387904 ∨ b < 2 ^ 400) then some (.int (a / b)) else none | _, _ => none
def oMod : D → D → Option D | .int a, .int b => if 0 < b then some (.int (a % b)) else none | _, _ => none
def oPow : D → D → Option D | .int a, .int b => if 0 ≤ b ∧ b ≤ 1000000 ∧ -(2 ^ 62) < a ∧ a < 2 ^ 62 then some (.int (a ^ b.toNat)) else none | _, _ => none
def oXor : D → D → Option D | .int a, .int b => some (.int (Builtin.bitXor a b)) | _, _ => none
def oLt : D → D → Option D | .int a, .int b => some (.bl (decide (a < b))) | _, _ => none
def oLe : D → D → Option D | .int a, .int b => some (.bl (decide (a ≤ b))) | _, _ => none
def oGt : D → D → Option D | .int a, .int b => some (.bl (decide (b < a))) | _, _ => none
def oGe : D → D → Option D | .int a, .int b => some (.bl (decide (b ≤ a))) | _, _ => none
/-- plain shapes -/
def Sh (d : D) : Prop := ∃ n ≤ 64, Shp n d
open Classical in
noncomputable def oEq : D → D → Option D
  | .int a, .int b => some (.bl (decide (a = b)))
  | .bl a, .bl b => some (.bl (decide (a = b)))
  | .str a, .str b => some (.bl (decide (a = b)))
  | x, y => if Sh x ∧ Sh y then some (.bl (D.eqb x y)) else none
open Classical in
noncomputable def oNe : D → D → Option D
  | .int a, .int b => some (.bl (!decide (a = b)))
  | .bl a, .bl b => some (.bl (!decide (a = b)))
  | .str a, .str b => some (.bl (!decide (a = b)))
  | x, y => if Sh x ∧ Sh y then some (.bl (!D.eqb x y)) else none
def isNonD : D → Bool | .non => true | _ => false
def oIs : D → D → Option D | x, .non => some (.bl (isNonD x)) | _, _ => none
def oIsNot : D → D → Option D | x, .non => some (.bl (!isNonD x)) | _, _ => none
def oNeg : D → Option D | .int a => some (.int (-a)) | _ => none
/-- ints of data -/
def asI : List D → Option (List Int)
  | [] => some []
  | .int i :: r => (asI r).map (i :: ·)
  | _ => none
theorem asI_map : ∀ l : List Int, asI (l.map D.int) = some l
  | [] => rfl
  | i :: l => by simp [asI, asI_map l]
def asS : List D → Option (List Str)
  | [] => some []
  | .str i :: r => (asS r).map (i :: ·)
  | _ => none
def asB : List D → Option (List Bool)
  | [] => some []
  | .bl i :: r => (asB r).map (i :: ·)
  | _ => none
theorem asB_map : ∀ l : List Bool, asB (l.map D.bl) = some l
  | [] => rfl
  | i :: l => by simp [asB, asB_map l]
theorem asB_is : ∀ {l : List D} {is : List Bool}, asB l = some is → l = is.map D.bl
  | [], is, h => by cases h; rfl
  | .bl i :: r, is, h => by
    cases e : asB r with
    | none => simp [asB, e] at h
    | some js => simp [asB, e] at h; subst h; rw [asB_is e]; rfl
/-- tuples of ints of data -/
def asT : List D → Option (List (List Int))
  | [] => some []
  | .tup l :: r => (asI l).bind fun t => (asT r).map (t :: ·)
  | _ => none
theorem asT_map : ∀ l : List (List Int), asT (l.map tI) = some l
  | [] => rfl
  | i :: l => by simp [asT, tI, asI_map, asT_map l]
def oIn : D → D → Option D | .int x, y => (seqD y).bind fun l => (asI l).map fun is => .bl (decide (x ∈ is)) | _, _ => none
def oNotIn : D → D → Option D | .int x, y => (seqD y).bind fun l => (asI l).map fun is => .bl (!decide (x ∈ is)) | _, _ => none
/-! ### built-ins -/
def bAbs : List D → Option D | [.int i] => some (.int (if i < 0 then -i else i)) | _ => none
def bLen : List D → Option D | [.lst l] => some (.int l.length) | [.tup l] => some (.int l.length) | [.str s] => if s.length ≤ 1000000 then some (.int s.length) else none | _ => none
def bInt : List D → Option D | [.int i] => some (.int i) | [.bl b] => some (.int (if b then 1 else 0)) | _ => none
def bSorted : List D → Option D | [x] => (seqD x).bind fun l => (asI l).map fun is => .lst ((srt is).map D.int) | _ => none
def bTuple : List D → Option D | [.lst l] => some (.tup l) | [.tup l] => some (.tup l) | _ => none
def bAll : List D → Option D | [.lst l] => (asB l).map fun bs => .bl (bs.all id) | _ => none
def bAny : List D → Option D | [.lst l] => (asB l).map fun bs => .bl (bs.any id) | _ => none
def bMax2 : List D → Option D | [.int i, .int j] => some (.int (max i j)) | _ => none
def bMin2 : List D → Option D | [.int i, .int j] => some (.int (min i j)) | _ => none
def rListOfD (a : Rho → Re D) (ρ : Rho) : Re Sl := (a ρ).bind fun x => (Re.of (seqD x)).bind fun l => .ok (.own l)
def rLstRg1 (a : Rho → Re D) (ρ : Rho) : Re Sl := (a ρ).bind fun x => match x with | .int n => if -(2 ^ 62) < n ∧ n ≤ 1000000 then .ok (.own ((rg n).map D.int)) else .bad | _ => .bad
/-- kinds -/
inductive Ty where | int | bool | str | list | tuple
def Ty.nm : Ty → String | .int => "int" | .bool => "bool" | .str => "str" | .list => "list" | .tuple => "tuple"
def isT : D → Ty → Option Bool
  | .non, _ => some false
  | .bl _, .int => some true | .bl _, .bool => some true | .bl _, _ => some false
  | .int _, .int => some true | .int _, _ => some false
  | .str _, .str => some true | .str _, _ => some false
  | .lst _, .list => some true | .lst _, _ => some false
  | .tup _, .tuple => some true | .tup _, _ => some false
  | _, _ => none
def xIsi (ty : Ty) (a : Rho → Re D) (ρ : Rho) : Re D := (a ρ).bind fun x => (Re.of (isT x ty)).bind fun b => .ok (.bl b)
def xIsi2 (t1 t2 : Ty) (a : Rho → Re D) (ρ : Rho) : Re D := (a ρ).bind fun x => (Re.of (isT x t1)).bind fun b => (Re.of (isT x t2)).bind fun c => .ok (.bl (b || c))
/-! ### walks -/
def rIList (a : Rho → Re D) (ρ : Rho) : Re (List D) := (a ρ).bind fun x => match x with | .lst l => .ok l | _ => .bad
def rITup (a : Rho → Re D) (ρ : Rho) : Re (List D) := (a ρ).bind fun x => match x with | .tup l => .ok l | _ => .bad
def rISeq (a : Rho → Re D) (ρ : Rho) : Re (List D) := (a ρ).bind fun x => .of (seqD x)
def irng1 : List D → Re (List D) | [.int n] => if -(2 ^ 62) ≤ n ∧ n < 2 ^ 62 then .ok ((rg n).map D.int) else .bad | _ => .bad
def irng2 : List D → Re (List D) | [.int m, .int n] => if -(2 ^ 62) ≤ m ∧ m < 2 ^ 62 ∧ -(2 ^ 62) ≤ n ∧ n < 2 ^ 62 then .ok ((rgs m n).map D.int) else .bad | _ => .bad
def rIRng1 (a : Rho → Re (List D)) (ρ : Rho) : Re (List D) := (a ρ).bind irng1
def rIRng2 (a : Rho → Re (List D)) (ρ : Rho) : Re (List D) := (a ρ).bind irng2
/-- a, a - 1, .. above b -/
def rgd (a b : Int) : List Int := (List.range (a - b).toNat).map fun i : Nat => a - (i : Int)
def irng3 : List D → Re (List D) | [.int m, .int n, .int c] => if c = -1 ∧ -(2 ^ 62) ≤ m ∧ m < 2 ^ 62 ∧ -(2 ^ 62) ≤ n ∧ n < 2 ^ 62 then .ok ((rgd m n).map D.int) else .bad | _ => .bad
def rIRng3 (a : Rho → Re (List D)) (ρ : Rho) : Re (List D) := (a ρ).bind irng3
def rIEnum (a : Rho → Re (List D)) (ρ : Rho) : Re (List D) := (a ρ).bind fun l => match l with | [.lst l] => .ok (enumD l) | _ => .bad
def rIValsN (a : Rho → Re Sl) (ρ : Rho) : Re (List D) := (a ρ).bind fun s => match s with | .oT _ vs => .ok vs | _ => .bad
def rIValsV (i : Nat) (ρ : Rho) : Re (List D) := match gt ρ i with | .dat (.fT _ vs) => .ok vs | _ => .bad
def rIKeysV (i : Nat) (ρ : Rho) : Re (List D) := match gt ρ i with | .dat (.fT ks _) => .ok (ks.map tD) | .dat (.fK ks _) => .ok (ks.map kD) | _ => .bad
/-! ### slices -/
def rPN (_ : Rho) : Re (Option Int) := .ok none
def rPS (a : Rho → Re D) (ρ : Rho) : Re (Option Int) := (a ρ).bind fun x => match x with | .int i => .ok (some i) | _ => .bad
def rSl (o : D → Option Int → Option Int → Option D) (a : Rho → Re D) (lo hi : Rho → Re (Option Int)) (ρ : Rho) : Re D := (a ρ).bind fun x => (lo ρ).bind fun l => (hi ρ).bind fun h => .of (o x l h)
def oSlL (x : D) (lo hi : Option Int) : Option D := match x with | .lst l => some (.lst (cutD l lo hi)) | .src l => some (.lst (cutD (l.map D.int) lo hi)) | _ => none
def oSlA (x : D) (lo hi : Option Int) : Option D := match x with | .tup l => some (.tup (cutD l lo hi)) | _ => none
def oSlAny (x : D) (lo hi : Option Int) : Option D := match x with | .lst l => some (.lst (cutD l lo hi)) | .src l => some (.lst (cutD (l.map D.int) lo hi)) | .tup l => some (.tup (cutD l lo hi)) | _ => none
/-! ### own lists by name -/
def rIxV (i : Nat) (e : Rho → Re D) (ρ : Rho) : Re D := match gt ρ i with | .own l => (e ρ).bind fun k => (match k with | .int j => .of (atI l j) | _ => .bad) | .dat d => (e ρ).bind fun k => .of (oIx d k) | _ => .bad
def rLenV (i : Nat) (ρ : Rho) : Re D := match gt ρ i with | .own l => .ok (.int l.length) | .dat d => .of (bLen [d]) | _ => .bad
def gsub (i : Nat) (e : Rho → Re D) (d : D) (ρ : Rho) : Option Rho := match gt ρ i, e ρ with | .own l, .ok (.int k) => (ixN l.length k).map fun j => ρ.set i (.own (l.set j d)) | _, _ => none
def rAugS (o : D → D → Option D) (i : Nat) (ix e : Rho → Re D) (ρ : Rho) : Os := (gt ρ i).ownL.os ρ fun l => (ix ρ).os ρ fun k => match k with
  | .int k => if 0 ≤ k then (match l[k.toNat]? with | some d => (e ρ).os ρ fun y => (match o d y with | some z => .nx (ρ.set i (.own (l.set k.toNat z))) | none => .bad) | none => .bad) else .bad
  | _ => .bad
def xInsert (i : Nat) (a : Rho → Re (List D)) (ρ : Rho) : Os := (gt ρ i).ownL.os ρ fun l => (a ρ).os ρ fun m => match m with
  | [.int k, y] => if l.length < 1000000 ∧ 0 ≤ k ∧ k < 2 ^ 62 then .nx (ρ.set i (.own (l.take k.toNat ++ [y] ++ l.drop k.toNat))) else .bad | _ => .bad
def xPopAt (i : Nat) (a : Rho → Re (List D)) (ρ : Rho) : Os := (gt ρ i).ownL.os ρ fun l => (a ρ).os ρ fun m => match m with
  | [.int k] => if 0 ≤ k ∧ k < l.length ∧ l.length ≤ 1000000 then .nx (ρ.set i (.own (l.eraseIdx k.toNat))) else .bad | _ => .bad
/-! ### dicts by name -/
def keyK : D → Option Key | .int i => some (.inl i) | .str s => some (.inr s) | _ => none
def keysK : List D → Option (List Key)
  | [] => some []
  | d :: r => match keyK d, keysK r with | some k, some l => some (k :: l) | _, _ => none
def keyT : D → Option (List Key) | .tup l => keysK l | _ => none
theorem keyK_is {d : D} {k : Key} (h : keyK d = some k) : d = kD k := by
  cases d <;> first | (cases h; rfl) | cases h
theorem keysK_is : ∀ {l : List D} {k : List Key}, keysK l = some k → l = k.map kD
  | [], _, h => by cases h; rfl
  | d :: r, k, h => by
    unfold keysK at h
    cases e : keyK d with
    | none => simp [e] at h
    | some a =>
      cases e2 : keysK r with
      | none => simp [e, e2] at h
      | some b => simp [e, e2] at h; subst h; rw [keysK_is e2, keyK_is e]; rfl
theorem keyT_is {d : D} {k : List Key} (h : keyT d = some k) : d = tD k := by
  cases d with
  | tup l => exact congrArg D.tup (keysK_is h)
  | _ => cases h
theorem keysK_map : ∀ k : List Key, keysK (k.map kD) = some k
  | [] => rfl
  | .inl i :: k => by simp [keysK, keysK_map k, kD, keyK]
  | .inr i :: k => by simp [keysK, keysK_map k, kD, keyK]
theorem keyT_tD (k : List Key) : keyT (tD k) = some k := keysK_map k
def Sl.dT : Sl → Option (List (List Key) × List D) | .oT ks vs => some (ks, vs) | .dat (.dT ks vs) => some (ks, vs) | .dat (.fT ks vs) => some (ks, vs) | _ => none
def Sl.dK : Sl → Option (List Key × List D) | .oK ks vs => some (ks, vs) | .dat (.dK ks vs) => some (ks, vs) | .dat (.fK ks vs) => some (ks, vs) | _ => none
/-- a dict asked by a key: what is there -/
def dAsk (s : Sl) (y : D) : Re (Option D) := match s.dT with
  | some (ks, vs) => (Re.of (keyT y)).bind fun k => .ok (vget ks vs k)
  | none => match s.dK with | some (ks, vs) => (Re.of (keyK y)).bind fun k => .ok (vget ks vs k) | none => .bad
def dHas (s : Sl) (y : D) : Re Bool := match s.dT with
  | some (ks, _) => (Re.of (keyT y)).bind fun k => .ok (kmem ks k)
  | none => match s.dK with | some (ks, _) => (Re.of (keyK y)).bind fun k => .ok (kmem ks k) | none => .bad
def dLen (s : Sl) : Re D := match s.dT with
  | some (ks, _) => .ok (.int ks.length)
  | none => match s.dK with | some (ks, _) => .ok (.int ks.length) | none => .bad
def Sl.isD : Sl → Bool | .oT _ _ => true | .oK _ _ => true | .dat (.dT _ _) => true | .dat (.dK _ _) => true | .dat (.fT _ _) => true | .dat (.fK _ _) => true | _ => false
def rDGet (i : Nat) (e : Rho → Re D) (ρ : Rho) : Re D := if (gt ρ i).isD = true then (e ρ).bind fun y => (dAsk (gt ρ i) y).bind fun o => .of o else .bad
def rDGet2 (i : Nat) (e u : Rho → Re D) (ρ : Rho) : Re D := if (gt ρ i).isD = true then (e ρ).bind fun y => (u ρ).bind fun z => (dAsk (gt ρ i) y).bind fun o => .ok (o.getD z) else .bad
def rDIn (i : Nat) (e : Rho → Re D) (ρ : Rho) : Re D := if (gt ρ i).isD = true then (e ρ).bind fun y => (dHas (gt ρ i) y).bind fun b => .ok (.bl b) else .bad
def rDNotIn (i : Nat) (e : Rho → Re D) (ρ : Rho) : Re D := if (gt ρ i).isD = true then (e ρ).bind fun y => (dHas (gt ρ i) y).bind fun b => .ok (.bl (!b)) else .bad
def rDLen (i : Nat) (ρ : Rho) : Re D := dLen (gt ρ i)
def dPut (s : Sl) (y v : D) : Option Sl := match s with
  | .oT ks vs => (keyT y).bind fun k => if ks.length < 1000000 then some (.oT (kput ks k) (vput ks vs k v)) else none
  | .oK ks vs => (keyK y).bind fun k => if ks.length < 1000000 then some (.oK (kput ks k) (vput ks vs k v)) else none
  | _ => none
def Sl.isOD : Sl → Bool | .oT _ _ => true | .oK _ _ => true | _ => false
def rDPut (i : Nat) (e v : Rho → Re D) (ρ : Rho) : Os := if (gt ρ i).isOD = true then (v ρ).os ρ fun d => (e ρ).os ρ fun y => (match dPut (gt ρ i) y d with | some s => .nx (ρ.set i s) | none => .bad) else .bad
/-- a dict locked for good -/
def lockS : Sl → Option Sl | .oT ks vs => some (.dat (.fT ks vs)) | .oK ks vs => some (.dat (.fK ks vs)) | _ => none
def rLockF (i : Nat) (r : Rho → Os) (ρ : Rho) : Os := match lockS (gt ρ i) with | some s => r (ρ.set i s) | none => .bad
/-- module tables -/
def xModIx (kvs : List (Str × Int)) (e : Rho → Re D) (ρ : Rho) : Re D := (e ρ).bind fun y => match y with | .str k => (Re.of (mget kvs k)).bind fun v => .ok (.int v) | _ => .bad
def xModIn (kvs : List (Str × Int)) (e : Rho → Re D) (ρ : Rho) : Re D := (e ρ).bind fun y => match y with | .str k => .ok (.bl (mget kvs k).isSome) | _ => .bad
/-! ### exceptions -/
def rRaise0 (c : Cls) (ρ : Rho) : Os := .ex ⟨c, none⟩ ρ
def rRaise1 (c : Cls) (f : Str) (e : Rho → Re D) (ρ : Rho) : Os := (e ρ).os ρ fun d => .ex ⟨c, some (f, d)⟩ ρ
open Classical in
/-- the same wherever the exception stands -/
noncomputable def Os.uni (f : Addr → Option Addr → Os) : Os := if ∀ a o, f a o = f (0 : Nat) none then f (0 : Nat) none else .bad
theorem Os.uni_eq {f : Addr → Option Addr → Os} {o : Os} (h : ∀ a d, f a d = o) : Os.uni f = o := by
  unfold Os.uni
  rw [if_pos (fun a d => (h a d).trans (h _ _).symm)]
  exact h _ _
theorem Os.uni_const (o : Os) : Os.uni (fun _ _ => o) = o := Os.uni_eq fun _ _ => rfl
def Os.noexc : Os → Os | .ex _ _ => .bad | o => o
def rowB (rows : List (Cls × Bool)) (c : Cls) : Option Bool := (rows.find? fun p => decide (p.1 = c)).map (·.2)
def xIsX (i : Nat) (a : Addr) (o : Option Addr) (rows : List (Cls × Bool)) (c : Cls) (ρ : Rho) : Re D := match gt ρ i with | .exc a' o' _ => if a' = a ∧ o' = o then (Re.of (rowB rows c)).bind fun b => .ok (.bl b) else .bad | _ => .bad
def rXf (i : Nat) (a : Addr) (o : Option Addr) (f : Str) (ρ : Rho) : Re D := match gt ρ i with | .exc a' o' (some (g, d)) => if a' = a ∧ o' = o ∧ g = f then .ok d else .bad | _ => .bad
end DL

set_option maxRecDepth 100000
set_option maxHeartbeats 1000000
namespace DL
open PySem PySem.Spec L2
section
variable {K : PySem.W.Frag} {W : WX} {ad : Cls → Addr} {te ta tb tc td tx ty tv : TE} {tt tu : TT} {ts tr : TS} {tas tks : TA} {ti ti1 : TI} {to tlo thi : TO} {g g1 : TG} {u : TGs} {r r' r3 r4 : R2}
  {ea eb ec ee ef ev : Rho → Re D} {eo : Rho → Re Sl} {es es2 : Rho → Re (List D)} {et eu : Rho → Re Bool} {ei ei1 : Rho → Re (List D)} {ep eq : Rho → Re (Option Int)} {xa xb : Rho → Os} {hg hg1 : D → Rho → Option Rho} {hu : List D → Rho → Option Rho} {o o2 o3 o4 : D → D → Option D}
theorem gt_val {ρ : Rho} {i : Nat} {P : D → Prop} {X : Exn → Prop} (h : (gt ρ i).val.post ad P X) : ∃ d, ρ[i]? = some (.dat d) ∧ P d := by
  cases e : gt ρ i with
  | dat d => rw [e] at h; exact ⟨d, gt_at e (by intro z; cases z), h⟩
  | _ => rw [e] at h; exact h.elim
theorem cVar (i : Nat) : CE K W ad (tVar i) (rVar i) := fun ρ P X h => by
  obtain ⟨d, h1, h2⟩ := gt_val h
  exact ev_var h1 h2
theorem cInt (i : Int) : CE K W ad (tC (.int i)) (rC (.int i)) := fun ρ P X h => ev_int h
theorem cBl (i : Bool) : CE K W ad (tC (.bl i)) (rC (.bl i)) := fun ρ P X h => ev_bl h
theorem cStr (i : Str) : CE K W ad (tC (.str i)) (rC (.str i)) := fun ρ P X h => ev_str h
theorem cNon : CE K W ad (tC .non) (rC .non) := fun ρ P X h => ev_non h
theorem cOp (ho : C2 K r o) (ha : CE K W ad ta ea) (hb : CE K W ad tb eb) : CE K W ad (tOp r ta tb) (rOp o ea eb) := fun ρ P X h =>
  ev_op (ha ρ _ X ((Re.post_bind h).imp fun x h2 => hb ρ _ X ((Re.post_bind h2).imp fun y h3 => by
    obtain ⟨z, e, p⟩ := Re.post_of h3
    exact ho x y z P e p)))
theorem cUn {ru : V → Hp → VK → Prop} {o : D → Option D} (ho : C1 K ru o) (ha : CE K W ad ta ea) : CE K W ad (tUn ru ta) (rUn o ea) := fun ρ P X h =>
  ev_un (ha ρ _ X ((Re.post_bind h).imp fun x h2 => by
    obtain ⟨z, e, p⟩ := Re.post_of h2
    exact ho x z P e p))
theorem cCb {rc : List V → Hp → VK → Prop} {o : List D → Option D} (ho : CF K rc o) (ha : CA K W ad tas es) : CE K W ad (tCB rc tas) (rCb o es) := fun ρ P X h =>
  ev_cb (ha ρ _ X ((Re.post_bind h).imp fun x h2 => by
    obtain ⟨z, e, p⟩ := Re.post_of h2
    exact ho x z P e p))
theorem cNil : CA K W ad tNil rNil := fun ρ P X h => av_nil h
theorem cCons (ha : CE K W ad ta ea) (hb : CA K W ad tas es) : CA K W ad (tCons ta tas) (rCons ea es) := fun ρ P X h =>
  av_cons (ha ρ _ X ((Re.post_bind h).imp fun x h2 => hb ρ _ X ((Re.post_bind h2).imp fun y h3 => h3)))
theorem seqD_is {d : D} {l : List D} (h : seqD d = some l) : d = .lst l ∨ d = .tup l := by
  cases d <;> first | (cases h; exact .inl rfl) | (cases h; exact .inr rfl) | cases h
theorem get_post {s : Sl} {P : D → Prop} {X : Exn → Prop} (h : s.get.post ad P X) : s.ok = true ∧ P s.still := by
  cases s with
  | no => exact h.elim
  | ref a => exact h.elim
  | exc a b c => exact h.elim
  | _ => exact ⟨rfl, h⟩
theorem cStill (ha : CO K W ad te eo) : CE K W ad te (rStill eo) := fun ρ P X h =>
  EvO.still (ha ρ _ X ((Re.post_bind h).imp fun s h2 => get_post h2))
theorem cTup (ha : CA K W ad tas es) : CE K W ad (tTup tas) (rTup es) := fun ρ P X h =>
  ev_tup (ha ρ _ X ((Re.post_bind h).imp fun x h2 => by
    by_cases c : x.length ≤ 1000000
    · rw [if_pos c] at h2; exact ⟨small_sz c, h2⟩
    · rw [if_neg c] at h2; exact h2.elim))
theorem cLst (ha : CA K W ad tas es) : CO K W ad (tLst tas) (rLst es) := fun ρ P X h =>
  eo_lst (ha ρ _ X ((Re.post_bind h).imp fun x h2 => by
    by_cases c : x.length ≤ 1000000
    · rw [if_pos c] at h2; exact ⟨small_sz c, h2⟩
    · rw [if_neg c] at h2; exact h2.elim))
theorem cNewK : CO K W ad tDNewK rNewK := fun ρ P X h => eo_dK h
theorem cAndV (ha : CE K W ad ta ea) (hb : CE K W ad tb eb) : CE K W ad (tAndV ta tb) (rAndV ea eb) := fun ρ P X h =>
  ev_andV (ha ρ _ X ((Re.post_bind h).imp fun x h2 => by
    cases x with
    | bl c => refine ⟨c, rfl, ?_⟩; cases c with | true => exact hb ρ P X h2 | false => exact h2
    | _ => exact h2.elim))
theorem cIfE (ht : CB K W ad tt et) (ha : CE K W ad ta ea) (hb : CE K W ad tb eb) : CE K W ad (tIf tt ta tb) (rIfE et ea eb) := fun ρ P X h =>
  ev_if (ht ρ _ X ((Re.post_bind h).imp fun c h2 => by
    cases c with
    | true => exact ha ρ P X h2
    | false => exact hb ρ P X h2))
theorem blD_post {x : Option D} {P : Bool → Prop} {X : Exn → Prop} (h : (blD x).post ad P X) : ∃ b, x = some (.bl b) ∧ P b := by
  cases x with
  | none => exact h.elim
  | some d => cases d with
    | bl b => exact ⟨b, rfl, h⟩
    | _ => exact h.elim
theorem cChain (h1 : C2 K r o) (h2 : C2 K r' o2) (ha : CE K W ad ta ea) (hb : CE K W ad tb eb) (hc : CE K W ad tc ec) : CE K W ad (tChain r r' ta tb tc) (rChain o o2 ea eb ec) := fun ρ P X h =>
  ev_chain (ha ρ _ X ((Re.post_bind h).imp fun x q => hb ρ _ X ((Re.post_bind q).imp fun y q => by
    obtain ⟨k, e, q⟩ := blD_post (Re.post_bind q)
    refine h1 x y _ _ e ⟨k, rfl, ?_⟩
    cases k with
    | true => exact hc ρ _ X ((Re.post_bind q).imp fun z q => by
        obtain ⟨w, e, p⟩ := Re.post_of q
        exact h2 y z w P e p)
    | false => exact q)))
/-! tests -/
theorem blx_post {x : D} {P : Bool → Prop} {X : Exn → Prop} (h : (match x with | .bl c => Re.ok c | _ => .bad : Re Bool).post ad P X) : ∃ b, x = .bl b ∧ P b := by
  cases x with
  | bl b => exact ⟨b, rfl, h⟩
  | _ => exact h.elim
theorem cTest (ha : CE K W ad ta ea) : CB K W ad (tTest ta) (rTest ea) := fun ρ P X h =>
  bv_test (ha ρ _ X ((Re.post_bind h).imp fun x h2 => blx_post h2))
theorem cYes : CB K W ad tYes rYes := fun ρ P X h => bv_yes h
theorem cAnd (ha : CB K W ad tt et) (hb : CB K W ad tu eu) : CB K W ad (tAnd tt tu) (rAnd et eu) := fun ρ P X h =>
  bv_and (ha ρ _ X ((Re.post_bind h).imp fun c h2 => by
    cases c with
    | true => exact hb ρ P X h2
    | false => exact h2))
theorem cOr (ha : CB K W ad tt et) (hb : CB K W ad tu eu) : CB K W ad (tOr tt tu) (rOr et eu) := fun ρ P X h =>
  bv_or (ha ρ _ X ((Re.post_bind h).imp fun c h2 => by
    cases c with
    | true => exact h2
    | false => exact hb ρ P X h2))
theorem cNot (ha : CB K W ad tt et) : CB K W ad (tNot tt) (rNot et) := fun ρ P X h =>
  bv_not (ha ρ _ X ((Re.post_bind h).imp fun c h2 => h2))
theorem truD_is {d : D} {b : Bool} (h : truD d = some b) : TruD d b := by
  cases d with
  | non => cases h; exact .non
  | bl b => cases h; exact .bl b
  | int i => cases h; have := TruD.int i; rwa [show (i != 0) = decide (i ≠ 0) from by simp [bne, BEq.beq]] at this
  | str x =>
    simp only [truD] at h
    split at h
    · rename_i c
      cases h
      have := TruD.str x (small_sz c)
      rwa [show ((x.length : Int) != 0) = decide (x.length ≠ 0) from by
        by_cases q : x.length = 0 <;> simp [q]] at this
    · cases h
  | lst l => cases h; exact .lst l
  | tup l => cases h; exact .tup l
  | _ => cases h
theorem cTru (ha : CE K W ad ta ea) : CB K W ad (tTru K ta) (rTru ea) := fun ρ P X h =>
  bv_tru (ha ρ _ X ((Re.post_bind h).imp fun x h2 => by
    obtain ⟨b, e, p⟩ := Re.post_of h2
    exact ⟨b, truD_is e, p⟩))
/-! targets -/
theorem gNm (i : Nat) : CG K (gName i) (gnm i) := fun d ρ ρ' P h p => by cases h; exact gv_name p
/-! comprehensions -/
theorem cLc {vs : List Nat} (hi : CI K W ad ti ei) (gi : GIn g vs) (h1 : CG K g hg) (ht : CB K W0 ad tt et) (he : CE K W0 ad te ee) : CO K W ad (tLc ti g tt te vs) (rLc ei hg et ee vs) := fun ρ P X h =>
  eo_lcD gi (hi ρ _ X ((Re.post_bind h).imp fun xs h2 => by
    by_cases c : xs.length ≤ 1000000
    · rw [if_pos c] at h2
      have h3 := Re.post_noex (Re.post_bind h2)
      refine ⟨fun i acc => acc.length ≤ i ∧ (lcGo (lcF hg et ee (wipeR ρ vs)) (xs.drop i)).post ad (fun l => P (.own (acc ++ l))) X0, ⟨Nat.le_refl _, by rw [List.drop_zero]; exact h3⟩, ?_, ?_⟩
      · rintro i x acc hx ⟨la, hr⟩
        have hi := (List.getElem?_eq_some_iff.mp hx).1
        have ed : xs.drop i = x :: xs.drop (i + 1) := by
          rw [List.drop_eq_getElem_cons hi]
          rw [List.getElem?_eq_getElem hi] at hx
          rw [Option.some.inj hx]
        rw [ed, lcGo] at hr
        have hr := Re.post_bind hr
        unfold lcF at hr
        cases q : hg x (wipeR ρ vs) with
        | none => rw [q] at hr; exact hr.elim
        | some ρ' =>
          rw [q] at hr
          refine h1 _ _ _ _ q (ht ρ' _ X0 ((Re.post_bind hr).imp fun b hb => ?_))
          cases b with
          | true =>
            refine he ρ' _ X0 ((Re.post_bind hb).imp fun y hy => ?_)
            refine ⟨small_lt (by omega), by rw [List.length_append]; simp; omega, ?_⟩
            exact (Re.post_bind hy).imp fun l hl => by
              show P (.own ((acc ++ [y]) ++ l))
              rw [List.append_assoc]
              exact hl
          | false => exact ⟨by omega, (Re.post_bind hb).imp fun l hl => hl⟩
      · rintro acc ⟨_, hr⟩
        rw [List.drop_length] at hr
        have : P (.own (acc ++ [])) := hr
        rwa [List.append_nil] at this
    · rw [if_neg c] at h2; exact h2.elim))
end
end DL

set_option maxRecDepth 100000
set_option maxHeartbeats 1000000
namespace DL
open PySem PySem.Spec L2
section
variable {K : PySem.W.Frag} {W : WX} {ad : Cls → Addr} {te ta tb tc td tx ty tv tl tix : TE} {tt tu : TT} {ts tr : TS} {tas tks : TA} {ti ti1 : TI} {to tlo thi : TO} {g g1 : TG} {u : TGs} {r r' r3 r4 : R2}
  {ea eb ec ee ef ev eix : Rho → Re D} {eo : Rho → Re Sl} {es es2 : Rho → Re (List D)} {et eu : Rho → Re Bool} {ei ei1 : Rho → Re (List D)} {ep eq : Rho → Re (Option Int)} {xa xb : Rho → Os} {hg hg1 : D → Rho → Option Rho} {hu : List D → Rho → Option Rho} {o o2 o3 o4 : D → D → Option D}
/-! statements -/
theorem cNext : CS K W ad tNext rNext := fun ρ E h => ws_next h
theorem cSeq (ha : CS K W ad ts xa) (hb : CS K W ad tr xb) : CS K W ad (tSeq ts tr) (rSeq xa xb) := fun ρ E h =>
  ws_seq (ha ρ _ (by
    have := Os.post_thn h
    cases q : xa ρ with
    | nx ρ' => rw [q] at this; exact hb ρ' E this
    | _ => rw [q] at this; exact this))
theorem cDrop (ha : CE K W ad te ea) : CS K W ad (tDrop te) (rDrop ea) := fun ρ E h => ws_drop (ha ρ _ _ ((Re.os_post h).imp fun d q => q))
theorem cRet (ha : CE K W ad te ea) : CS K W ad (tRet te) (rRet ea) := fun ρ E h => ws_ret (ha ρ _ _ ((Re.os_post h).imp fun d q => q))
theorem cRetO (ha : CO K W ad te eo) : CS K W ad (tRet te) (rRetO eo) := fun ρ E h => ws_retO (ha ρ _ _ ((Re.os_post h).imp fun d q => q))
theorem cRetV (i : Nat) : CS K W ad (tRet (tVar i)) (rRetV i) := fun ρ E h => by
  unfold rRetV at h
  cases q : gt ρ i with
  | no => rw [q] at h; exact h.elim
  | ref a => rw [q] at h; exact h.elim
  | exc a b c => rw [q] at h; exact h.elim
  | _ => rw [q] at h; exact ws_retv (gt_at q (by intro z; cases z)) (by intro z; cases z) h
theorem cSet (i : Nat) (ha : CE K W ad te ea) : CS K W ad (tAsg te (gName i)) (rSet i ea) := fun ρ E h => ws_set (ha ρ _ _ ((Re.os_post h).imp fun d q => q))
theorem cSetO (i : Nat) (ha : CO K W ad te eo) : CS K W ad (tAsg te (gName i)) (rSetO i eo) := fun ρ E h => ws_setO (ha ρ _ _ ((Re.os_post h).imp fun d q => q))
theorem os_of_post {x : Option Rho} {E : En} (h : (Os.of x).post ad E) : ∃ ρ, x = some ρ ∧ E.nx ρ := by
  cases x with
  | none => exact h.elim
  | some ρ => exact ⟨ρ, rfl, h⟩
/-- as CG; may write one's own -/
def CW (K : PySem.W.Frag) (g : TG) (r : D → Rho → Option Rho) : Prop := ∀ d ρ ρ' P, r d ρ = some ρ' → P ρ' → GwP K g d ρ P
theorem wSub (i : Nat) (ha : CE K W0 ad te ea) : CW K (gSub (tVar i) te rSetL) (gsub i ea) := fun d ρ ρ' P e p => by
  unfold gsub at e
  split at e
  · rename_i l k h1 h2
    cases q : ixN l.length k with
    | none => rw [q] at e; cases e
    | some j =>
      rw [q] at e
      cases e
      refine gw_sub (gt_at h1 (by intro z; cases z)) (ha ρ _ X0 ?_)
      rw [h2]
      exact ⟨k, j, rfl, q, p⟩
  · cases e
theorem cAsgW (hh : CW K g hg) (ha : CE K W ad te ea) : CS K W ad (tAsg te g) (rAsg hg ea) := fun ρ E h => ws_asgW (ha ρ _ _ ((Re.os_post h).imp fun d q => by
  obtain ⟨ρ', e, p⟩ := os_of_post q
  exact hh _ _ _ _ e p))
theorem cIf (ht : CB K W ad tt et) (ha : CS K W ad ts xa) (hb : CS K W ad tr xb) : CS K W ad (tIfS tt ts tr) (rIf et xa xb) := fun ρ E h => ws_if (ht ρ _ _ ((Re.os_post h).imp fun c q => by
  cases c with
  | true => exact ha ρ E q
  | false => exact hb ρ E q))
theorem kil_post {x : Os} {ks : List Nat} {E : En} (h : (x.kil ks).post ad E) : x.post ad { nx := fun ρ => E.nx (fgt ks ρ), rt := E.rt, bk := fun ρ => E.bk (fgt ks ρ), ct := fun ρ => E.ct (fgt ks ρ), ex := E.ex } := by
  cases x <;> exact h
theorem cK (ks : List Nat) (ha : CS K W ad ts xa) : CS K W ad ts (rK ks xa) := fun ρ E h He0 He σ H0 H D S e =>
  ha ρ _ (kil_post h) He0 He σ H0 H D S ⟨fun ρ σ H0 H q S => e.nx _ σ H0 H q (S.forgets ks), e.rt, fun ρ σ H0 H q S => e.bk _ σ H0 H q (S.forgets ks), fun ρ σ H0 H q S => e.ct _ σ H0 H q (S.forgets ks), e.ex⟩
theorem ws_frz1 {ρ : Rho} {E : En} (i : Nat) (h : WS K W ts (frz1 i ρ) E) : WS K W ts ρ E := by
  unfold frz1 at h
  cases q : gt ρ i with
  | own ds => rw [q] at h; exact ws_freeze (gt_at q (by intro z; cases z)) rfl h
  | oK ks vs => rw [q] at h; exact ws_freeze (gt_at q (by intro z; cases z)) rfl h
  | oT ks vs => rw [q] at h; exact ws_freeze (gt_at q (by intro z; cases z)) rfl h
  | _ => rw [q] at h; exact h
theorem ws_frz {E : En} : ∀ (is : List Nat) (ρ : Rho), WS K W ts (frz is ρ) E → WS K W ts ρ E
  | [], _, h => h
  | i :: is, ρ, h => ws_frz1 i (ws_frz is _ h)
theorem cF (is : List Nat) (ha : CS K W ad ts xa) : CS K W ad ts (rF is xa) := fun ρ E h => ws_frz is ρ (ha _ E h)
theorem cWhile (ht : CB K W ad tt et) (hb : CS K W ad ts xa) : CS K W ad (tWhile tt ts) (rWhile et xa) := fun ρ E h => by
  unfold rWhile at h
  split at h
  · rename_i hx
    generalize Classical.choose hx = n at h
    refine ws_while (fun m ρ' => (whl et xa m ρ').post ad E) ⟨n, h⟩ fun m ρ' hm => ?_
    cases m with
    | zero => exact hm.elim
    | succ m =>
      refine ht ρ' _ _ ((Re.os_post hm).imp fun c q => ?_)
      cases c with
      | true =>
        refine hb ρ' _ ?_
        replace q : (match xa ρ' with | .nx ρ' => whl et xa m ρ' | .ct ρ' => whl et xa m ρ' | .bk ρ' => .nx ρ' | o => o : Os).post ad E := q
        cases e : xa ρ' with
        | nx ρ2 => rw [e] at q; exact ⟨m, Nat.lt_succ_self m, q⟩
        | ct ρ2 => rw [e] at q; exact ⟨m, Nat.lt_succ_self m, q⟩
        | bk ρ2 => rw [e] at q; exact q
        | _ => rw [e] at q; exact q
      | false => exact q
  · exact h.elim
theorem cFor (hi : CI K W ad ti ei) (h1 : CG K g hg) (hb : CS K W ad ts xa) : CS K W ad (tFor ti g ts) (rFor ei hg xa) := fun ρ E h =>
  ws_forD (hi ρ _ _ ((Re.os_post h).imp fun xs h2 => by
    refine ⟨fun i ρ' => (forGo (stepFor hg xa) (xs.drop i) ρ').post ad E, by show (forGo (stepFor hg xa) (xs.drop 0) ρ).post ad E; rw [List.drop_zero]; exact h2, ?_, ?_⟩
    · intro i x ρ' hx hr
      have hi := (List.getElem?_eq_some_iff.mp hx).1
      have ed : xs.drop i = x :: xs.drop (i + 1) := by
        rw [List.drop_eq_getElem_cons hi]
        rw [List.getElem?_eq_getElem hi] at hx
        rw [Option.some.inj hx]
      rw [ed, forGo] at hr
      unfold stepFor at hr
      cases q : hg x ρ' with
      | none => rw [q] at hr; exact hr.elim
      | some ρ2 =>
        rw [q] at hr
        refine h1 _ _ _ _ q (hb ρ2 _ ?_)
        dsimp only at hr
        cases e : xa ρ2 with
        | nx ρ3 => rw [e] at hr; exact hr
        | ct ρ3 => rw [e] at hr; exact hr
        | bk ρ3 => rw [e] at hr; exact hr
        | _ => rw [e] at hr; exact hr
    · intro ρ' hr
      rw [List.drop_length] at hr
      exact hr))
theorem ownL_post {ρ : Rho} {i : Nat} {P : List D → Prop} {X : Exn → Prop} (h : (gt ρ i).ownL.post ad P X) : ∃ l, ρ[i]? = some (.own l) ∧ P l := by
  cases e : gt ρ i with
  | own d => rw [e] at h; exact ⟨d, gt_at e (by intro z; cases z), h⟩
  | _ => rw [e] at h; exact h.elim
theorem cAppend (i : Nat) (ha : CE K W ad te ea) : CS K W ad (tDrop (tBM K "list" rAppend (tVar i) (tCons te tNil))) (xAppend i ea) := fun ρ E h => by
  obtain ⟨l, h1, h2⟩ := ownL_post (Re.os_post h)
  refine ws_append h1 (ha ρ _ _ ((Re.os_post h2).imp fun y q => ?_))
  by_cases c : l.length < 1000000
  · rw [if_pos c] at q; exact ⟨small_lt (by omega), q⟩
  · rw [if_neg c] at q; exact q.elim
/-! operators -/
theorem od_ixLT {x y z : D} {P : D → Prop} (h : oIx x y = some z) (p : P z) : OpD K (rIx K) x y P := by
  unfold oIx at h
  split at h
  · exact od_ixL h p
  · exact od_ixT h p
  · split at h
    · rename_i s i c
      cases q : atI s.cps.toList i with
      | none => rw [q] at h; cases h
      | some cc =>
        rw [q] at h
        cases h
        exact od_ixS (small_sz c) q p
    · cases h
  · cases h
theorem pIx : C2 K (rIx K) oIx := fun x y z P h p => od_ixLT h p
theorem pAdd : C2 K (rAdd K) oAdd := fun x y z P h p => by
  unfold oAdd at h
  split at h
  · cases h; exact od_addI p
  · split at h
    · rename_i c; cases h; exact od_addL (small_sz c) p
    · cases h
  · split at h
    · rename_i c; cases h; exact od_addT (small_sz c) p
    · cases h
  · split at h
    · rename_i c; cases h; exact od_addS (small_sz c) p
    · cases h
  · cases h
theorem pSub : C2 K (rI0 fun i j => .int (i - j)) oSub := fun x y z P h p => by
  unfold oSub at h
  split at h
  · cases h; exact od_int0 (g := fun i j => i - j) p
  · cases h
theorem mulOk_ok {i j : Int} (h : mulOk i j) : CMul i j ∨ CMulW i j := by
  rcases h with ⟨a, b, c, d⟩ | c | c
  · exact .inr (wide_mul (a := 400) (b := 400) (by omega) (by omega) (by decide) (by decide) (by decide))
  · exact .inl (.inr ⟨by omega, by omega⟩)
  · exact .inl (.inl ⟨by omega, by omega⟩)
theorem pMul : C2 K rMulA oMul := fun x y z P h p => by
  unfold oMul at h
  split at h
  · split at h
    · rename_i c; cases h; exact od_mulI (mulOk_ok c) p
    · cases h
  · split at h
    · rename_i c; cases h; exact od_mulL ⟨c.1, by omega, small_sz c.2.2⟩ p
    · cases h
  · cases h
theorem pDiv : C2 K rDivA oDiv := fun x y z P h p => by
  unfold oDiv at h
  split at h
  · split at h
    · rename_i c; cases h; exact od_divB c.1 (by rcases c.2 with q | q <;> omega) p
    · cases h
  · cases h
theorem pMod : C2 K (rI (fun _ j => 0 < j) fun i j => .int (i % j)) oMod := fun x y z P h p => by
  unfold oMod at h
  split at h
  · split at h
    · rename_i c; cases h; exact od_modI c p
    · cases h
  · cases h
theorem pPow : C2 K (rI CPow fun i j => .int (i ^ j.toNat)) oPow := fun x y z P h p => by
  unfold oPow at h
  split at h
  · split at h
    · rename_i c; cases h; exact od_powI ⟨c.1, c.2.1, by omega⟩ p
    · cases h
  · cases h
theorem pLt : C2 K (rI0 fun i j => .bl (decide (i < j))) oLt := fun x y z P h p => by
  unfold oLt at h
  split at h
  · cases h; exact od_intb (g := fun i j => decide (i < j)) p
  · cases h
theorem pLe : C2 K (rI0 fun i j => .bl (decide (i ≤ j))) oLe := fun x y z P h p => by
  unfold oLe at h
  split at h
  · cases h; exact od_intb (g := fun i j => decide (i ≤ j)) p
  · cases h
theorem pGt : C2 K (rI0 fun i j => .bl (decide (j < i))) oGt := fun x y z P h p => by
  unfold oGt at h
  split at h
  · cases h; exact od_intb (g := fun i j => decide (j < i)) p
  · cases h
theorem pGe : C2 K (rI0 fun i j => .bl (decide (j ≤ i))) oGe := fun x y z P h p => by
  unfold oGe at h
  split at h
  · cases h; exact od_intb (g := fun i j => decide (j ≤ i)) p
  · cases h
theorem pEq : C2 K (rEqA K) oEq := fun x y z P h p => by
  unfold oEq at h
  split at h
  · cases h; exact od_eqAI p
  · cases h; exact od_eqAB p
  · cases h; exact od_eqAS p
  · split at h
    · rename_i c
      cases h
      obtain ⟨⟨n, n1, s1⟩, m, m1, s2⟩ := c
      exact od_eqD s1 s2 p n1 m1
    · cases h
theorem pNe : C2 K (rNeA K) oNe := fun x y z P h p => by
  unfold oNe at h
  split at h
  · rename_i i j; cases h; exact od_neAI (by rw [show decide (i ≠ j) = !decide (i = j) from by simp]; exact p)
  · rename_i i j; cases h; exact od_neAB (by rw [show decide (i ≠ j) = !decide (i = j) from by simp]; exact p)
  · rename_i i j; cases h; exact od_neAS (by rw [show decide (i ≠ j) = !decide (i = j) from by simp]; exact p)
  · split at h
    · rename_i c
      cases h
      obtain ⟨⟨n, n1, s1⟩, m, m1, s2⟩ := c
      exact od_neD s1 s2 p n1 m1
    · cases h
theorem pIsNot : C2 K rNotN oIsNot := fun x y z P h p => by
  cases y with
  | non =>
    replace h : some (D.bl (!isNonD x)) = some z := h
    cases h
    cases x <;> first | exact od_notNN p | exact od_notN (by intro z; cases z) p
  | _ => cases h
/-! built-ins -/
theorem fAbs : CF K rAbs bAbs := fun x z P h p => by
  unfold bAbs at h
  split at h
  · cases h; exact cd_abs p
  · cases h
theorem fLen : CF K (rLn K) bLen := fun x z P h p => by
  unfold bLen at h
  split at h
  · cases h; exact cd_lenL p
  · cases h; exact cd_lenT p
  · split at h
    · rename_i c; cases h; exact cd_lenS (small_sz c) p
    · cases h
  · cases h
theorem fInt : CF K rInt1 bInt := fun x z P h p => by
  unfold bInt at h
  split at h
  · cases h; exact cd_int p
  · cases h; exact cd_intB p
  · cases h
theorem fAll : CF K (rAll K) bAll := fun x z P h p => by
  unfold bAll at h
  split at h
  · rename_i l
    cases e2 : asB l with
    | none => rw [e2] at h; cases h
    | some is =>
      rw [e2] at h
      cases h
      have el := asB_is e2
      subst el
      exact cd_all p
  · cases h
theorem fMax2 : CF K rMax2 bMax2 := fun x z P h p => by
  unfold bMax2 at h
  split at h
  · rename_i i j
    cases h
    exact cd_max2 (by rw [show (if j > i then j else i) = max i j from by omega]; exact p)
  · cases h
theorem fMin2 : CF K rMin2 bMin2 := fun x z P h p => by
  unfold bMin2 at h
  split at h
  · rename_i i j
    cases h
    exact cd_min2 (by rw [show (if j < i then j else i) = min i j from by omega]; exact p)
  · cases h
end
end DL

set_option maxRecDepth 100000
set_option maxHeartbeats 1000000
namespace DL
open PySem PySem.Spec L2
section
variable {K : PySem.W.Frag} {He0 He : Hp} {σ : St} {H0 H H0' H' : Hp} {ρ : Rho}
end
/-! ### one's own is lent: read as still data, where the answer has nothing of its kind -/
mutual
/-- k: a list is within; not k: a dict -/
def D.has (k : Bool) : D → Bool
  | .lst l => k || D.hass k l
  | .tup l => D.hass k l
  | .src _ => k
  | .dK _ vs => !k || D.hass k vs
  | .dT _ vs => !k || D.hass k vs
  | .fK _ vs => !k || D.hass k vs
  | .fT _ vs => !k || D.hass k vs
  | .ins _ _ ds => D.hass k ds
  | _ => false
def D.hass (k : Bool) : List D → Bool
  | [] => false
  | d :: l => D.has k d || D.hass k l
end
section
variable {K : PySem.W.Frag} {H G : Hp} {a : Addr} {o : HO} {k : Bool}
end
/-- what is lent -/
def Sl.knd : Sl → Bool | .own _ => true | _ => false
def Sl.has (k : Bool) : Sl → Bool
  | .dat d => d.has k
  | .own ds => D.hass k ds
  | .oK _ vs => D.hass k vs
  | .oT _ vs => D.hass k vs
  | _ => true
section
variable {K : PySem.W.Frag} {W : WX} {te : TE} {ρ : Rho} {P : D → Prop} {PS : Sl → Prop} {X : Exn → Prop}
end
def Re.lendD (k : Bool) : Re D → Re D | .ok d => if d.has k = false then .ok d else .bad | _ => .bad
def Re.lendS (k : Bool) : Re Sl → Re Sl | .ok d => if d.has k = false then .ok d else .bad | _ => .bad
def rL (i : Nat) (e : Rho → Re D) (ρ : Rho) : Re D := match gt ρ i with
  | .own l => (e (ρ.set i (.dat (.lst l)))).lendD true
  | .oK ks vs => (e (ρ.set i (.dat (.dK ks vs)))).lendD false
  | .oT ks vs => (e (ρ.set i (.dat (.dT ks vs)))).lendD false
  | _ => e ρ
def rLO (i : Nat) (e : Rho → Re Sl) (ρ : Rho) : Re Sl := match gt ρ i with
  | .own l => (e (ρ.set i (.dat (.lst l)))).lendS true
  | .oK ks vs => (e (ρ.set i (.dat (.dK ks vs)))).lendS false
  | .oT ks vs => (e (ρ.set i (.dat (.dT ks vs)))).lendS false
  | _ => e ρ
section
variable {K : PySem.W.Frag} {W : WX} {ad : Cls → Addr} {te ta tb tc td tx ty tv tl tix : TE} {tt tu : TT} {ts tr : TS} {tas tks : TA} {ti ti1 : TI} {to tlo thi : TO} {g g1 : TG} {u : TGs} {r r' r3 r4 : R2}
  {ea eb ec ee ef ev eix : Rho → Re D} {eo : Rho → Re Sl} {es es2 : Rho → Re (List D)} {et eu : Rho → Re Bool} {ei ei1 : Rho → Re (List D)} {ep eq : Rho → Re (Option Int)} {xa xb : Rho → Os} {hg hg1 : D → Rho → Option Rho} {hu : List D → Rho → Option Rho} {o o2 o3 o4 : D → D → Option D}
/-! kinds -/
theorem isT_is {d : D} {t : Ty} {b : Bool} (h : isT d t = some b) : TyD d (tyD d) ∧ kitB (tyD d) t.nm = some b := by
  have ty : tyD d ≠ "?" := by
    cases d <;> first | exact (by decide : "NoneType" ≠ "?") | exact (by decide : "bool" ≠ "?") | exact (by decide : "int" ≠ "?") | exact (by decide : "str" ≠ "?") | exact (by decide : "list" ≠ "?") | exact (by decide : "tuple" ≠ "?") | (cases t <;> cases h)
  refine ⟨TyD.of ty, ?_⟩
  cases d <;> cases t <;> first | (cases h; done) | (cases h; dsimp only [tyD, Ty.nm]; decide +kernel)
theorem cIsi (t : Ty) {m : String} (hm : m = t.nm := by rfl) (ha : CE K W ad te ea) : CE K W ad (tCB (rIsi K) (tCons te (tCons (tC (.ty m)) tNil))) (xIsi t ea) := fun ρ P X h => by
  subst hm
  intro He0 He σ H0 H Q S x k
  refine ha ρ (fun d => ∃ b, isT d t = some b ∧ P (.bl b)) X ((Re.post_bind h).imp fun d h2 => ?_) He0 He σ H0 H _ S x fun v d H1 H1' p S1 e1 r1 => ?_
  · obtain ⟨b, e, p⟩ := Re.post_of (Re.post_bind h2)
    exact ⟨b, e, p⟩
  · obtain ⟨b, e, p⟩ := p
    obtain ⟨t1, t2⟩ := isT_is e
    refine ⟨v, .ty t.nm, .type (tyD d), .type t.nm, b, rfl, .ty t.nm, ?_, kit_ty t2, k _ _ H1 H1' p S1 e1 (.bl b)⟩
    generalize tyD d = n at t1
    cases t1 with
    | non => cases r1; exact .base .non
    | bl b => cases r1; exact .base (.bl b)
    | int b => cases r1; exact .base (.int b)
    | str b => cases r1; exact .base (.str b)
    | lst l => cases r1 with | lst ha rs => exact .base (.lst (S1.sub _ _ ha))
    | tup l => cases r1 with | tup ha rs => exact .base (.tup (S1.sub _ _ ha))
theorem cIsi2 (t1 t2 : Ty) {m1 m2 : String} (h1 : m1 = t1.nm := by rfl) (h2 : m2 = t2.nm := by rfl) (ha : CE K W ad te ea) : CE K W ad (tCB (rIsiT K) (tCons te (tCons (tTup (tCons (tC (.ty m1)) (tCons (tC (.ty m2)) tNil))) tNil))) (xIsi2 t1 t2 ea) := fun ρ P X h => by
  subst h1 h2
  refine ev_isi2 (ha ρ _ X ((Re.post_bind h).imp fun d h2 => ?_))
  obtain ⟨b, e, p⟩ := Re.post_of (Re.post_bind h2)
  obtain ⟨c, e2, p⟩ := Re.post_of (Re.post_bind p)
  obtain ⟨a1, a2⟩ := isT_is e
  exact ⟨tyD d, b, c, a1, a2, (isT_is e2).2, p⟩
/-! walks -/
theorem wISeq (ha : CE K W ad tl ea) : CI K W ad (iSeq K tl) (rISeq ea) := fun ρ P X h => iv_seq (ha ρ _ X ((Re.post_bind h).imp fun d q => by
  obtain ⟨l, e, p⟩ := Re.post_of q
  exact ⟨l, seqD_is e, p⟩))
theorem wIRng1 (ha : CA K W ad tas es) : CI K W ad (iRng1 tas) (rIRng1 es) := fun ρ P X h => iv_rg1 (ha ρ _ X ((Re.post_bind h).imp fun d q => by
  unfold irng1 at q
  split at q
  · split at q
    · rename_i n c; exact ⟨n, rfl, c, q⟩
    · exact q.elim
  · exact q.elim))
theorem wIKeysV (i : Nat) : CI K W ad (iKeys (tVar i)) (rIKeysV i) := fun ρ P X h => by
  unfold rIKeysV at h
  split at h
  · rename_i q; exact iv_keysT (gt_at q (by intro z; cases z)) h
  · rename_i q; exact iv_keysK (gt_at q (by intro z; cases z)) h
  · exact h.elim
/-! slices -/
theorem cPN : CP K W ad tNoPart rPN := fun ρ P X h => ov_none h
theorem cPS (ha : CE K W ad te ea) : CP K W ad (tPart te) (rPS ea) := fun ρ P X h => ov_some (ha ρ _ X ((Re.post_bind h).imp fun d q => by
  cases d with
  | int i => exact ⟨i, rfl, q⟩
  | _ => exact q.elim))
theorem cSl {rs : V → Option Int → Option Int → Hp → VK → Prop} {so : D → Option Int → Option Int → Option D} (hs : CSl K rs so) (ha : CE K W ad te ea) (hl : CP K W ad tlo ep) (hh : CP K W ad thi eq) : CE K W ad (tSl rs te tlo thi) (rSl so ea ep eq) := fun ρ P X h =>
  ev_sl (ha ρ _ X ((Re.post_bind h).imp fun x q => hl ρ _ X ((Re.post_bind q).imp fun lo q => hh ρ _ X ((Re.post_bind q).imp fun hi q => by
    obtain ⟨z, e, p⟩ := Re.post_of q
    exact hs x lo hi z P e p))))
theorem sSlAny : CSl K (rSlAny K) oSlAny := fun x lo hi z P e p => by
  unfold oSlAny at e
  split at e
  · cases e; exact fun H0 H v Q s a k => .inl (sd_lst (K := K) (P := P) p H0 H v Q s a k)
  · cases e; exact fun H0 H v Q s a k => .inl (sd_src (K := K) (P := P) p H0 H v Q s a k)
  · cases e; exact fun H0 H v Q s a k => .inr (sd_tup (K := K) (P := P) p H0 H v Q s a k)
  · cases e
/-! by name -/
theorem cIxV (i : Nat) (ha : CE K W ad te ea) : CE K W ad (tOp (rIx K) (tVar i) te) (rIxV i ea) := fun ρ P X h => by
  unfold rIxV at h
  cases q : gt ρ i with
  | own l =>
    rw [q] at h
    refine ev_ixO (gt_at q (by intro z; cases z)) (ha ρ _ X ((Re.post_bind h).imp fun k hk => ?_))
    cases k with
    | int j =>
      obtain ⟨d, e, p⟩ := Re.post_of hk
      exact ⟨j, d, rfl, e, p⟩
    | _ => exact hk.elim
  | dat d =>
    rw [q] at h
    refine ev_op (ev_var (gt_at q (by intro z; cases z)) (ha ρ _ X ((Re.post_bind h).imp fun k hk => ?_)))
    obtain ⟨z, e, p⟩ := Re.post_of hk
    exact od_ixLT e p
  | _ => rw [q] at h; exact h.elim
theorem cLenV (i : Nat) : CE K W ad (tCB (rLn K) (tCons (tVar i) tNil)) (rLenV i) := fun ρ P X h => by
  unfold rLenV at h
  cases q : gt ρ i with
  | own l =>
    rw [q] at h
    exact ev_lenO (gt_at q (by intro z; cases z)) h
  | dat d =>
    rw [q] at h
    obtain ⟨z, e, p⟩ := Re.post_of h
    exact ev_cb (av_cons (ev_var (gt_at q (by intro z; cases z)) (av_nil (fLen _ _ _ e p))))
  | _ => rw [q] at h; exact h.elim
/-! dicts by name -/
theorem dT_at {ρ : Rho} {i : Nat} {ks vs} (h : (gt ρ i).dT = some (ks, vs)) : DictT ρ i ks vs := by
  cases q : gt ρ i with
  | oT a b => rw [q] at h; cases h; exact .own (gt_at q (by intro z; cases z))
  | dat d =>
    rw [q] at h
    cases d with
    | dT a b => cases h; exact .still (gt_at q (by intro z; cases z))
    | fT a b => cases h; exact .lock (gt_at q (by intro z; cases z))
    | _ => cases h
  | _ => rw [q] at h; cases h
theorem dK_at {ρ : Rho} {i : Nat} {ks vs} (h : (gt ρ i).dK = some (ks, vs)) : DictK ρ i ks vs := by
  cases q : gt ρ i with
  | oK a b => rw [q] at h; cases h; exact .own (gt_at q (by intro z; cases z))
  | dat d =>
    rw [q] at h
    cases d with
    | dK a b => cases h; exact .still (gt_at q (by intro z; cases z))
    | fK a b => cases h; exact .lock (gt_at q (by intro z; cases z))
    | _ => cases h
  | _ => rw [q] at h; cases h
theorem isD_split {s : Sl} (h : s.isD = true) : (∃ ks vs, s.dT = some (ks, vs)) ∨ (s.dT = none ∧ ∃ ks vs, s.dK = some (ks, vs)) := by
  cases s with
  | oT ks vs => exact .inl ⟨_, _, rfl⟩
  | oK ks vs => exact .inr ⟨rfl, _, _, rfl⟩
  | dat d => cases d with
    | dT ks vs => exact .inl ⟨_, _, rfl⟩
    | fT ks vs => exact .inl ⟨_, _, rfl⟩
    | dK ks vs => exact .inr ⟨rfl, _, _, rfl⟩
    | fK ks vs => exact .inr ⟨rfl, _, _, rfl⟩
    | _ => cases h
  | _ => cases h
theorem ite_post {α : Type} {c : Prop} [Decidable c] {x : Re α} {P : α → Prop} {X : Exn → Prop} (h : (if c then x else .bad).post ad P X) : c ∧ x.post ad P X := by
  by_cases q : c
  · rw [if_pos q] at h; exact ⟨q, h⟩
  · rw [if_neg q] at h; exact h.elim
theorem cDGet (i : Nat) (ha : CE K W ad te ea) : CE K W ad (tDGet (tVar i) te) (rDGet i ea) := fun ρ P X h => by
  obtain ⟨hd, h⟩ := ite_post h
  have h := Re.post_bind h
  unfold dAsk at h
  rcases isD_split hd with ⟨ks, vs, e⟩ | ⟨e, ks, vs, e2⟩
  · rw [e] at h
    exact ev_dgetT (dT_at e) (ha ρ _ X (h.imp fun y q => by
      obtain ⟨k, ek, q⟩ := Re.post_of (Re.post_bind (Re.post_bind q))
      obtain ⟨d, ed, p⟩ := Re.post_of q
      exact ⟨k, d, keyT_is ek, ed, p⟩))
  · rw [e, e2] at h
    exact ev_dgetK (dK_at e2) (ha ρ _ X (h.imp fun y q => by
      obtain ⟨k, ek, q⟩ := Re.post_of (Re.post_bind (Re.post_bind q))
      obtain ⟨d, ed, p⟩ := Re.post_of q
      exact ⟨k, d, keyK_is ek, ed, p⟩))
theorem cDGet2 (i : Nat) (ha : CE K W ad te ea) (hb : CE K W ad tb eb) : CE K W ad (tDGet2 (tVar i) te tb) (rDGet2 i ea eb) := fun ρ P X h => by
  obtain ⟨hd, h⟩ := ite_post h
  have h := Re.post_bind h
  unfold dAsk at h
  rcases isD_split hd with ⟨ks, vs, e⟩ | ⟨e, ks, vs, e2⟩
  · rw [e] at h
    exact ev_dgetT2 (dT_at e) (ha ρ _ X (h.imp fun y q => hb ρ _ X ((Re.post_bind q).imp fun z q => by
      obtain ⟨k, ek, q⟩ := Re.post_of (Re.post_bind (Re.post_bind q))
      exact ⟨k, keyT_is ek, q⟩)))
  · rw [e, e2] at h
    exact ev_dgetK2 (dK_at e2) (ha ρ _ X (h.imp fun y q => hb ρ _ X ((Re.post_bind q).imp fun z q => by
      obtain ⟨k, ek, q⟩ := Re.post_of (Re.post_bind (Re.post_bind q))
      exact ⟨k, keyK_is ek, q⟩)))
theorem cDPut (i : Nat) (ha : CE K W ad te ea) (hb : CE K W ad tb eb) : CS K W ad (sDPut (tVar i) te tb) (rDPut i ea eb) := fun ρ E h => by
  unfold rDPut at h
  cases q : gt ρ i with
  | oT ks vs =>
    rw [q, if_pos (show (Sl.oT ks vs).isOD = true from rfl)] at h
    have h := Re.os_post h
    refine ws_dputT (gt_at q (by intro z; cases z)) (hb ρ _ _ (h.imp fun v h => ha ρ _ _ ((Re.os_post h).imp fun y h => ?_)))
    cases e : keyT y with
    | none => simp only [dPut, e] at h; exact h.elim
    | some k =>
      by_cases c : ks.length < 1000000
      · simp only [dPut, e, Option.bind_some, if_pos c] at h
        exact ⟨k, keyT_is e, small_lt (by omega), h⟩
      · simp only [dPut, e, Option.bind_some, if_neg c] at h; exact h.elim
  | oK ks vs =>
    rw [q, if_pos (show (Sl.oK ks vs).isOD = true from rfl)] at h
    have h := Re.os_post h
    refine ws_dputK (gt_at q (by intro z; cases z)) (hb ρ _ _ (h.imp fun v h => ha ρ _ _ ((Re.os_post h).imp fun y h => ?_)))
    cases e : keyK y with
    | none => simp only [dPut, e] at h; exact h.elim
    | some k =>
      by_cases c : ks.length < 1000000
      · simp only [dPut, e, Option.bind_some, if_pos c] at h
        exact ⟨k, keyK_is e, small_lt (by omega), h⟩
      · simp only [dPut, e, Option.bind_some, if_neg c] at h; exact h.elim
  | _ => rw [q, if_neg (by intro z; cases z)] at h; exact h.elim
/-! locks, tables -/
theorem cLockF (i : Nat) (ha : CS K W ad ts xa) : CS K W ad (tLockF ts) (rLockF i xa) := fun ρ E h => by
  unfold rLockF at h
  cases q : gt ρ i with
  | oT ks vs => rw [q] at h; exact ws_lockT (gt_at q (by intro z; cases z)) (ha _ E h)
  | oK ks vs => rw [q] at h; exact ws_lockK (gt_at q (by intro z; cases z)) (ha _ E h)
  | _ => rw [q] at h; exact h.elim
/-! exceptions -/
theorem cRaise0 (c : Cls) : CS K W ad (tRaise0 (ad c) W) (rRaise0 c) := fun ρ E h => ws_raise h
/-! sorted, as one's own -/
def sortedO (o : List D → Option D) (a : Rho → Re (List D)) (ρ : Rho) : Re Sl := (a ρ).bind fun x => (Re.of (o x)).bind fun z => match z with | .lst l => .ok (.own l) | _ => .bad
/-! calls and defs -/
abbrev spM (K : PySem.W.Frag) (ad : Cls → Addr) (m : List D → Re Sl) : Sp := spD K (fun ds => m ds ≠ .bad) (fun ds s => m ds = .ok s) (fun ds e => ∃ x, m ds = .ex x ∧ e = x.at ad)
theorem cCall {m : List D → Re Sl} (ha : CA K W ad tas es) : CO K W ad (tCallS (spM K ad m) (WE W) tas) (rCall m es) := fun ρ P X h =>
  eo_call (ha ρ _ X ((Re.post_bind h).imp fun ds q => by
    refine ⟨fun z => by rw [z] at q; exact q, fun s z => by rw [z] at q; exact q, ?_⟩
    rintro _ ⟨x, z, rfl⟩
    rw [z] at q
    exact q))
end
/-- a def's mirror: ar arguments, the slots behind them -/
def mkM (ar : Nat) (junk : List Sl) (r : Rho → Os) (ds : List D) : Re Sl := if ds.length = ar then (r (ds.map Sl.dat ++ junk)).ret else .bad
section
variable {P : Program} {w : World} {K : PySem.W.Frag} {ad : Cls → Addr} {mg : Str → Option Value} {base : Heap} {x qual : Str} {st : Stmt} {f : Addr} {fd : FuncData} {N ps : List Str} {k ar : Nat} {junk : List Sl} {r : Rho → Os} {dvs : List V} {kws : List (Str × V)}
theorem mkM_ws {W : WX} {t : TS} (hj : junk = List.replicate (N.length - ar) .no) (hc : CS K W ad t r) (ds : List D) (h : mkM ar junk r ds ≠ .bad) :
    WS K W t (startR N.length ds) { nx := fun _ => mkM ar junk r ds = .ok (.dat .non), rt := fun s => mkM ar junk r ds = .ok s, ex := fun e _ => ∃ x, mkM ar junk r ds = .ex x ∧ e = x.at ad } := by
  have hl : ds.length = ar := by
    unfold mkM at h
    split at h
    · assumption
    · exact absurd rfl h
  have e : mkM ar junk r ds = (r (startR N.length ds)).ret := by
    unfold mkM startR
    rw [if_pos hl, hj, hl]
  refine hc _ _ ?_
  rw [e] at h ⊢
  cases q : r (startR N.length ds) with
  | nx ρ => exact rfl
  | rt s => exact rfl
  | ex x ρ => exact ⟨x, rfl, rfl⟩
  | bk ρ => rw [q] at h; exact absurd rfl h
  | ct ρ => rw [q] at h; exact absurd rfl h
  | bad => rw [q] at h; exact absurd rfl h
theorem mkM_len (ds : List D) (h : mkM ar junk r ds ≠ .bad) : ds.length = ar := by
  unfold mkM at h
  split at h
  · assumption
  · exact absurd rfl h
theorem fn_wsM (F : Fun K x qual st f fd) (S : FnScope N ps (defScope st)) (hj : junk = List.replicate (N.length - ar) .no) (har : ar = ps.length)
    (hbody : ∀ (cdv : Value) (A : Around) (outer : List PySem.Env) (s : Shared) (H : Hp) (E : XK), Room k (A.deeper (PyProof.Rows.envOfC qual (defScope st) s.heap.objs.size f cdv)) →
      ∃ t, PSs (cxOf (L2.CX P w) P w K mg base N qual (defScope st) f cdv A outer s H E) (defBody st) t ∧ CS K (WD E) ad t r) :
    FnOk P w K mg base (L2.CX P w) (k + 1) f fd ps (spM K ad (mkM ar junk r)) :=
  fn_ws F S (fun ds h => (mkM_len ds h).trans har) (fun cdv A outer s H E hr => by
    obtain ⟨t, h1, h2⟩ := hbody cdv A outer s H E hr
    exact ⟨t, h1, fun ds h => mkM_ws hj h2 ds h⟩)
end
inductive Rows {α : Type} (P : α → Prop) : List α → Prop
  | nil : Rows P []
  | cons {a : α} {l : List α} : P a → Rows P l → Rows P (a :: l)
end DL

set_option maxRecDepth 100000
set_option maxHeartbeats 1000000
namespace DL
open PySem PySem.Spec L2
/-! ### how evaluators come out: loops, comprehensions, tests -/
/-- a loop over typed items, a typed state with an invariant -/
theorem for_inv {α σ : Type} {step : D → Rho → Os} {inj : α → D} (up : σ → Rho) (I : Nat → σ → Prop) {xs : List α} {s0 : σ} (h0 : I 0 s0)
    (h : ∀ i x s, xs[i]? = some x → I i s → ∃ s', (step (inj x) (up s) = .nx (up s') ∨ step (inj x) (up s) = .ct (up s')) ∧ I (i + 1) s') :
    ∃ s', forGo step (xs.map inj) (up s0) = .nx (up s') ∧ I xs.length s' := by
  have go : ∀ (ys : List α) (i : Nat) (s : σ), xs.drop i = ys → I i s → ∃ s', forGo step (ys.map inj) (up s) = .nx (up s') ∧ I (i + ys.length) s' := by
    intro ys
    induction ys with
    | nil => exact fun i s _ hs => ⟨s, rfl, by simpa using hs⟩
    | cons y ys ih =>
      intro i s hd hs
      have hi : xs[i]? = some y := by
        have := congrArg (·[0]?) hd
        simpa using this
      have hd' : xs.drop (i + 1) = ys := by
        have := congrArg (List.drop 1) hd
        simpa [List.drop_drop, Nat.add_comm] using this
      obtain ⟨s1, e, h1⟩ := h i y s hi hs
      obtain ⟨s2, e2, h2⟩ := ih (i + 1) s1 hd' h1
      refine ⟨s2, ?_, by rw [List.length_cons]; rw [show i + (ys.length + 1) = i + 1 + ys.length by omega]; exact h2⟩
      rw [List.map_cons, forGo]
      rcases e with e | e <;> rw [e] <;> exact e2
  obtain ⟨s', e, h'⟩ := go xs 0 s0 (by simp) h0
  exact ⟨s', e, by simpa using h'⟩
theorem for_outC {α σ : Type} {step : D → Rho → Os} {inj : α → D} {xs : List α} {ρ : Rho} {q : Os} (hq : forGo step (xs.map inj) ρ = q) (up : σ → Rho) (I : Nat → σ → Prop) (s0 : σ) (e0 : ρ = up s0) (h0 : I 0 s0)
    (turn : ∀ i x s, xs[i]? = some x → I i s → ∃ s', (step (inj x) (up s) = .nx (up s') ∨ step (inj x) (up s) = .ct (up s')) ∧ I (i + 1) s') : ∃ s', q = .nx (up s') ∧ I xs.length s' := by
  obtain ⟨s', e, h⟩ := for_inv (step := step) (inj := inj) up I h0 turn
  exact ⟨s', by rw [← hq, e0, e], h⟩
theorem for_out {α σ : Type} {step : D → Rho → Os} {inj : α → D} {xs : List α} {ρ : Rho} {q : Os} (hq : forGo step (xs.map inj) ρ = q) (up : σ → Rho) (I : Nat → σ → Prop) (s0 : σ) (e0 : ρ = up s0) (h0 : I 0 s0)
    (turn : ∀ i x s, xs[i]? = some x → I i s → ∃ s', step (inj x) (up s) = .nx (up s') ∧ I (i + 1) s') : ∃ s', q = .nx (up s') ∧ I xs.length s' :=
  for_outC hq up I s0 e0 h0 fun i x s hx hs => by
    obtain ⟨s', e, h⟩ := turn i x s hx hs
    exact ⟨s', .inl e, h⟩
/-- a comprehension over typed items: filter and map -/
theorem lc_fm {α : Type} {f : D → Re (Option D)} {inj : α → D} {p : α → Bool} {g : α → D} : ∀ {xs : List α}, (∀ x ∈ xs, f (inj x) = if p x = true then .ok (some (g x)) else .ok none) → lcGo f (xs.map inj) = .ok ((xs.filter p).map g)
  | [], _ => rfl
  | x :: xs, h => by
    rw [List.map_cons, lcGo, h x List.mem_cons_self, lc_fm (xs := xs) fun y hy => h y (List.mem_cons_of_mem _ hy)]
    cases hp : p x with
    | true => rw [if_pos rfl, List.filter_cons_of_pos hp]; rfl
    | false => rw [if_neg Bool.false_ne_true, List.filter_cons_of_neg (by rw [hp]; exact Bool.false_ne_true)]; rfl
theorem lc_map {α : Type} {f : D → Re (Option D)} {inj : α → D} {g : α → D} {xs : List α} (h : ∀ x ∈ xs, f (inj x) = .ok (some (g x))) : lcGo f (xs.map inj) = .ok (xs.map g) := by
  have := lc_fm (f := f) (inj := inj) (p := fun _ => true) (g := g) (xs := xs) (fun x hx => by rw [if_pos rfl]; exact h x hx)
  rwa [List.filter_eq_self.mpr fun _ _ => rfl] at this
/-! whiles -/
theorem whl_up {t : Rho → Re Bool} {b : Rho → Os} : ∀ {n m : Nat} {ρ : Rho}, whl t b n ρ ≠ .bad → n ≤ m → whl t b m ρ = whl t b n ρ
  | 0, _, _, h, _ => absurd rfl h
  | n + 1, 0, _, _, hm => absurd hm (by omega)
  | n + 1, m + 1, ρ, h, hm => by
    unfold whl at h ⊢
    cases e : t ρ with
    | ok c =>
      rw [e] at h
      show (if c = true then _ else _) = (if c = true then _ else _)
      replace h : (if c = true then match b ρ with | .nx ρ' => whl t b n ρ' | .ct ρ' => whl t b n ρ' | .bk ρ' => .nx ρ' | o => o else .nx ρ : Os) ≠ .bad := h
      cases c with
      | false => rfl
      | true =>
        rw [if_pos rfl] at h ⊢
        rw [if_pos rfl]
        cases e2 : b ρ with
        | nx ρ' => rw [e2] at h; exact whl_up (n := n) h (by omega)
        | ct ρ' => rw [e2] at h; exact whl_up (n := n) h (by omega)
        | _ => rfl
    | ex x => rfl
    | bad => rfl
theorem while_eq {t : Rho → Re Bool} {b : Rho → Os} {n : Nat} {ρ : Rho} {o : Os} (h : whl t b n ρ = o) (ho : o ≠ .bad) : rWhile t b ρ = o := by
  have hx : ∃ n, whl t b n ρ ≠ .bad := ⟨n, by rw [h]; exact ho⟩
  unfold rWhile
  rw [dif_pos hx]
  have hc := Classical.choose_spec hx
  generalize Classical.choose hx = m at hc ⊢
  rcases Nat.le_total n m with q | q
  · rw [whl_up (by rw [h]; exact ho) q, h]
  · rw [← h, whl_up hc q]
/-- a while with a typed state: each turn keeps I and makes m less; it ends in what J says -/
theorem while_inv {σ : Type} {t : Rho → Re Bool} {b : Rho → Os} (up : σ → Rho) (I : σ → Prop) (m : σ → Nat) (J : σ → Prop) {s0 : σ} (h0 : I s0)
    (h : ∀ s, I s → (t (up s) = .ok false ∧ J s) ∨ (t (up s) = .ok true ∧ ∃ s', (b (up s) = .nx (up s') ∨ b (up s) = .ct (up s')) ∧ m s' < m s ∧ I s')) :
    ∃ s', rWhile t b (up s0) = .nx (up s') ∧ J s' := by
  have go : ∀ (k : Nat) (s : σ), m s < k → I s → ∃ s', whl t b k (up s) = .nx (up s') ∧ J s' := by
    intro k
    induction k with
    | zero => exact fun s hs _ => absurd hs (Nat.not_lt_zero _)
    | succ k ih =>
      intro s hs hi
      rcases h s hi with ⟨e, j⟩ | ⟨e, s1, e1, hm, h1⟩
      · exact ⟨s, by unfold whl; rw [e]; rfl, j⟩
      · obtain ⟨s2, e2, j⟩ := ih s1 (by omega) h1
        refine ⟨s2, ?_, j⟩
        unfold whl
        rw [e, Re.ok_os, if_pos rfl]
        rcases e1 with e1 | e1 <;> rw [e1] <;> exact e2
  obtain ⟨s', e, j⟩ := go (m s0 + 1) s0 (Nat.lt_succ_self _) h0
  exact ⟨s', while_eq e (by intro z; cases z), j⟩
theorem while_out {σ : Type} {t : Rho → Re Bool} {b : Rho → Os} {ρ : Rho} {q : Os} (hq : rWhile t b ρ = q) (up : σ → Rho) (I : σ → Prop) (m : σ → Nat) (J : σ → Prop) (s0 : σ) (e0 : ρ = up s0) (h0 : I s0)
    (h : ∀ s, I s → (t (up s) = .ok false ∧ J s) ∨ (t (up s) = .ok true ∧ ∃ s', (b (up s) = .nx (up s') ∨ b (up s) = .ct (up s')) ∧ m s' < m s ∧ I s')) : ∃ s', q = .nx (up s') ∧ J s' := by
  obtain ⟨s', e, j⟩ := while_inv up I m J h0 h
  exact ⟨s', by rw [← hq, e0, e], j⟩
/-! booleans -/
theorem and_ok {c b : Bool} : (if c = true then Re.ok b else Re.ok false) = Re.ok (c && b) := by cases c <;> rfl
theorem or_ok {c b : Bool} : (if c = true then Re.ok true else Re.ok b) = Re.ok (c || b) := by cases c <;> rfl
theorem andD_ok {c b : Bool} : (if c = true then Re.ok (D.bl b) else Re.ok (D.bl false)) = Re.ok (D.bl (c && b)) := by cases c <;> rfl
theorem orD_ok {c b : Bool} : (if c = true then Re.ok (D.bl true) else Re.ok (D.bl b)) = Re.ok (D.bl (c || b)) := by cases c <;> rfl
theorem e_of_some {α : Type} {a : α} : Re.of (some a) = .ok a := rfl
theorem e_osof {ρ : Rho} : Os.of (some ρ) = .nx ρ := rfl
theorem e_ret_nx {ρ : Rho} : (Os.nx ρ).ret = .ok (.dat .non) := rfl
theorem e_ret_rt {s : Sl} : (Os.rt s).ret = .ok s := rfl
theorem e_ret_ex {x : Exr} {ρ : Rho} : (Os.ex x ρ).ret = .ex x := rfl
theorem e_kil_nx {ks : List Nat} {ρ : Rho} : (Os.nx ρ).kil ks = .nx (fgt ks ρ) := rfl
theorem e_kil_bk {ks : List Nat} {ρ : Rho} : (Os.bk ρ).kil ks = .bk (fgt ks ρ) := rfl
theorem e_kil_ct {ks : List Nat} {ρ : Rho} : (Os.ct ρ).kil ks = .ct (fgt ks ρ) := rfl
theorem e_kil_rt {ks : List Nat} {s : Sl} : (Os.rt s).kil ks = .rt s := rfl
theorem e_kil_ex {ks : List Nat} {x : Exr} {ρ : Rho} : (Os.ex x ρ).kil ks = .ex x ρ := rfl
theorem e_noexc_nx {ρ : Rho} : (Os.nx ρ).noexc = .nx ρ := rfl
theorem e_noexc_bk {ρ : Rho} : (Os.bk ρ).noexc = .bk ρ := rfl
theorem e_noexc_ct {ρ : Rho} : (Os.ct ρ).noexc = .ct ρ := rfl
theorem e_noexc_rt {s : Sl} : (Os.rt s).noexc = .rt s := rfl
theorem e_noex {α : Type} {a : α} : (Re.ok a).noex = .ok a := rfl
theorem e_val {d : D} : (Sl.dat d).val = .ok d := rfl
theorem e_get_dat {d : D} : (Sl.dat d).get = .ok d := rfl
theorem e_get_own {d : List D} : (Sl.own d).get = .ok (.lst d) := rfl
theorem e_get_oK {ks : List Key} {vs : List D} : (Sl.oK ks vs).get = .ok (.dK ks vs) := rfl
theorem e_get_oT {ks : List (List Key)} {vs : List D} : (Sl.oT ks vs).get = .ok (.dT ks vs) := rfl
theorem e_rtv_dat {d : D} : (Sl.dat d).rtv = .rt (.dat d) := rfl
theorem e_rtv_own {d : List D} : (Sl.own d).rtv = .rt (.own d) := rfl
theorem e_rtv_oK {ks : List Key} {vs : List D} : (Sl.oK ks vs).rtv = .rt (.oK ks vs) := rfl
theorem e_rtv_oT {ks : List (List Key)} {vs : List D} : (Sl.oT ks vs).rtv = .rt (.oT ks vs) := rfl
theorem e_ownL {l : List D} : (Sl.own l).ownL = .ok l := rfl
theorem e_isD_oT {ks : List (List Key)} {vs : List D} : ((Sl.oT ks vs).isD = true) = True := eq_true rfl
theorem e_isD_dT {ks : List (List Key)} {vs : List D} : ((Sl.dat (.dT ks vs)).isD = true) = True := eq_true rfl
theorem e_isD_fT {ks : List (List Key)} {vs : List D} : ((Sl.dat (.fT ks vs)).isD = true) = True := eq_true rfl
theorem e_isOD_T {ks : List (List Key)} {vs : List D} : ((Sl.oT ks vs).isOD = true) = True := eq_true rfl
theorem e_ask_oT {ks : (List (List Key))} {vs : List D} {y : D} : dAsk (Sl.oT ks vs) y = (Re.of (keyT y)).bind fun k => .ok (vget ks vs k) := rfl
theorem e_has_oT {ks : (List (List Key))} {vs : List D} {y : D} : dHas (Sl.oT ks vs) y = (Re.of (keyT y)).bind fun k => .ok (kmem ks k) := rfl
theorem e_len_oT {ks : List (List Key)} {vs : List D} : dLen (Sl.oT ks vs) = .ok (.int ks.length) := rfl
theorem e_ask_dT {ks : (List (List Key))} {vs : List D} {y : D} : dAsk (Sl.dat (.dT ks vs)) y = (Re.of (keyT y)).bind fun k => .ok (vget ks vs k) := rfl
theorem e_has_dT {ks : (List (List Key))} {vs : List D} {y : D} : dHas (Sl.dat (.dT ks vs)) y = (Re.of (keyT y)).bind fun k => .ok (kmem ks k) := rfl
theorem e_len_dT {ks : List (List Key)} {vs : List D} : dLen (Sl.dat (.dT ks vs)) = .ok (.int ks.length) := rfl
theorem e_ask_fT {ks : (List (List Key))} {vs : List D} {y : D} : dAsk (Sl.dat (.fT ks vs)) y = (Re.of (keyT y)).bind fun k => .ok (vget ks vs k) := rfl
theorem e_has_fT {ks : (List (List Key))} {vs : List D} {y : D} : dHas (Sl.dat (.fT ks vs)) y = (Re.of (keyT y)).bind fun k => .ok (kmem ks k) := rfl
theorem e_len_fT {ks : List (List Key)} {vs : List D} : dLen (Sl.dat (.fT ks vs)) = .ok (.int ks.length) := rfl
theorem e_put_T {ks : (List (List Key))} {vs : List D} {y v : D} : dPut (Sl.oT ks vs) y v = (keyT y).bind fun k => if ks.length < 1000000 then some (.oT (kput ks k) (vput ks vs k v)) else none := rfl
theorem e_lock_T {ks : List (List Key)} {vs : List D} : lockS (.oT ks vs) = some (.dat (.fT ks vs)) := rfl
theorem e_isD_oK {ks : List Key} {vs : List D} : ((Sl.oK ks vs).isD = true) = True := eq_true rfl
theorem e_isD_dK {ks : List Key} {vs : List D} : ((Sl.dat (.dK ks vs)).isD = true) = True := eq_true rfl
theorem e_isD_fK {ks : List Key} {vs : List D} : ((Sl.dat (.fK ks vs)).isD = true) = True := eq_true rfl
theorem e_isOD_K {ks : List Key} {vs : List D} : ((Sl.oK ks vs).isOD = true) = True := eq_true rfl
theorem e_ask_oK {ks : (List Key)} {vs : List D} {y : D} : dAsk (Sl.oK ks vs) y = (Re.of (keyK y)).bind fun k => .ok (vget ks vs k) := rfl
theorem e_has_oK {ks : (List Key)} {vs : List D} {y : D} : dHas (Sl.oK ks vs) y = (Re.of (keyK y)).bind fun k => .ok (kmem ks k) := rfl
theorem e_len_oK {ks : List Key} {vs : List D} : dLen (Sl.oK ks vs) = .ok (.int ks.length) := rfl
theorem e_ask_dK {ks : (List Key)} {vs : List D} {y : D} : dAsk (Sl.dat (.dK ks vs)) y = (Re.of (keyK y)).bind fun k => .ok (vget ks vs k) := rfl
theorem e_has_dK {ks : (List Key)} {vs : List D} {y : D} : dHas (Sl.dat (.dK ks vs)) y = (Re.of (keyK y)).bind fun k => .ok (kmem ks k) := rfl
theorem e_len_dK {ks : List Key} {vs : List D} : dLen (Sl.dat (.dK ks vs)) = .ok (.int ks.length) := rfl
theorem e_ask_fK {ks : (List Key)} {vs : List D} {y : D} : dAsk (Sl.dat (.fK ks vs)) y = (Re.of (keyK y)).bind fun k => .ok (vget ks vs k) := rfl
theorem e_has_fK {ks : (List Key)} {vs : List D} {y : D} : dHas (Sl.dat (.fK ks vs)) y = (Re.of (keyK y)).bind fun k => .ok (kmem ks k) := rfl
theorem e_len_fK {ks : List Key} {vs : List D} : dLen (Sl.dat (.fK ks vs)) = .ok (.int ks.length) := rfl
theorem e_put_K {ks : (List Key)} {vs : List D} {y v : D} : dPut (Sl.oK ks vs) y v = (keyK y).bind fun k => if ks.length < 1000000 then some (.oK (kput ks k) (vput ks vs k v)) else none := rfl
theorem e_lock_K {ks : List Key} {vs : List D} : lockS (.oK ks vs) = some (.dat (.fK ks vs)) := rfl
theorem e_keyK_int {i : Int} : keyK (.int i) = some (.inl i) := rfl
theorem e_keyK_str {i : Str} : keyK (.str i) = some (.inr i) := rfl
theorem e_keyT2 {i j : Int} : keyT (.tup [.int i, .int j]) = some [.inl i, .inl j] := rfl
theorem e_keyT3 {i j k : Int} : keyT (.tup [.int i, .int j, .int k]) = some [.inl i, .inl j, .inl k] := rfl
theorem e_blD {b : Bool} : blD (some (.bl b)) = .ok b := rfl
theorem e_tru_non  : truD .non = some false := rfl
theorem e_tru_bl {b : Bool} : truD (.bl b) = some b := rfl
theorem e_tru_int {b : Int} : truD (.int b) = some (decide (b ≠ 0)) := rfl
theorem e_tru_lst {b : List D} : truD (.lst b) = some (!b.isEmpty) := rfl
theorem e_tru_tup {b : List D} : truD (.tup b) = some (!b.isEmpty) := rfl
theorem e_seq_l {b : List D} : seqD (.lst b) = some b := rfl
theorem e_seq_t {b : List D} : seqD (.tup b) = some b := rfl
theorem e_gtp {n : Nat} {u : List D → Rho → Option Rho} {l : List D} {ρ : Rho} : gtp n u (.tup l) ρ = if l.length = n then u l ρ else none := rfl
theorem e_gls {n : Nat} {u : List D → Rho → Option Rho} {l : List D} {ρ : Rho} : gls n u (.lst l) ρ = if l.length = n then u l ρ else none := rfl
theorem e_gco {g : D → Rho → Option Rho} {u : List D → Rho → Option Rho} {d : D} {l : List D} {ρ : Rho} : gco g u (d :: l) ρ = (g d ρ).bind (u l) := rfl
theorem e_gni {ρ : Rho} : gni [] ρ = some ρ := rfl
theorem e_oAddS {a b : Str} : oAdd (.str a) (.str b) = if a.length + b.length ≤ 1000000 then some (.str (a ++ b)) else none := rfl
theorem e_oSub {a b : Int} : oSub (.int a) (.int b) = some (.int (a - b)) := rfl
theorem e_oLt {a b : Int} : oLt (.int a) (.int b) = some (.bl (decide (a < b))) := rfl
theorem e_oLe {a b : Int} : oLe (.int a) (.int b) = some (.bl (decide (a ≤ b))) := rfl
theorem e_oGt {a b : Int} : oGt (.int a) (.int b) = some (.bl (decide (b < a))) := rfl
theorem e_oGe {a b : Int} : oGe (.int a) (.int b) = some (.bl (decide (b ≤ a))) := rfl
theorem e_oEq {a b : Int} : oEq (.int a) (.int b) = some (.bl (decide (a = b))) := rfl
theorem e_oNe {a b : Int} : oNe (.int a) (.int b) = some (.bl (!decide (a = b))) := rfl
theorem e_oAdd {a b : Int} : oAdd (.int a) (.int b) = some (.int (a + b)) := rfl
theorem e_oIAdd {a b : Int} : oIAdd (.int a) (.int b) = some (.int (a + b)) := rfl
theorem e_oXor {a b : Int} : oXor (.int a) (.int b) = some (.int (Builtin.bitXor a b)) := rfl
theorem e_oAddL {a b : List D} : oAdd (.lst a) (.lst b) = if a.length + b.length ≤ 1000000 then some (.lst (a ++ b)) else none := rfl
theorem e_oAddT {a b : List D} : oAdd (.tup a) (.tup b) = if a.length + b.length ≤ 1000000 then some (.tup (a ++ b)) else none := rfl
theorem e_oMulR {a b : Int} (h : -4611686018427387904 < b ∧ b < 4611686018427387904) : oMul (.int a) (.int b) = some (.int (a * b)) := if_pos (.inr (.inl h))
theorem e_oMulL {a b : Int} (h : -4611686018427387904 < a ∧ a < 4611686018427387904) : oMul (.int a) (.int b) = some (.int (a * b)) := if_pos (.inr (.inr h))
theorem e_oMul {a b : Int} (h : mulOk a b) : oMul (.int a) (.int b) = some (.int (a * b)) := if_pos h
theorem e_oMulLst {l : List D} {b : Int} : oMul (.lst l) (.int b) = if 0 ≤ b ∧ b ≤ 1000000 ∧ l.length * b.toNat ≤ 1000000 then some (.lst (List.replicate b.toNat l).flatten) else none := rfl
theorem e_oIMulR {a b : Int} (h : -4611686018427387904 < b ∧ b < 4611686018427387904) : oIMul (.int a) (.int b) = some (.int (a * b)) := if_pos (.inr (.inl h))
theorem e_oIMulL {a b : Int} (h : -4611686018427387904 < a ∧ a < 4611686018427387904) : oIMul (.int a) (.int b) = some (.int (a * b)) := if_pos (.inr (.inr h))
theorem e_oDiv {a b : Int} (h : 0 < b ∧ b < 4611686018427387904) : oDiv (.int a) (.int b) = some (.int (a / b)) := if_pos ⟨h.1, .inl h.2⟩
theorem e_oDivB {a b : Int} (h : 0 < b ∧ b < 2 ^ 400) : oDiv (.int a) (.int b) = some (.int (a / b)) := if_pos ⟨h.1, .inr h.2⟩
theorem e_oMod {a b : Int} (h : 0 < b) : oMod (.int a) (.int b) = some (.int (a % b)) := if_pos h
theorem e_oPow {a b : Int} (h : 0 ≤ b ∧ b ≤ 1000000 ∧ -4611686018427387904 < a ∧ a < 4611686018427387904) : oPow (.int a) (.int b) = some (.int (a ^ b.toNat)) := if_pos h
theorem e_oEqS {a b : Str} : oEq (.str a) (.str b) = some (.bl (decide (a = b))) := rfl
theorem e_oNeS {a b : Str} : oNe (.str a) (.str b) = some (.bl (!decide (a = b))) := rfl
theorem e_oEqB {a b : Bool} : oEq (.bl a) (.bl b) = some (.bl (decide (a = b))) := rfl
theorem e_oNeB {a b : Bool} : oNe (.bl a) (.bl b) = some (.bl (!decide (a = b))) := rfl
theorem e_oIs {x : D} : oIs x .non = some (.bl (isNonD x)) := rfl
theorem e_oIsNot {x : D} : oIsNot x .non = some (.bl (!isNonD x)) := rfl
theorem e_nonD  : isNonD .non = true := rfl
theorem e_nonD_int {i : Int} : isNonD (.int i) = false := rfl
theorem e_nonD_str {i : Str} : isNonD (.str i) = false := rfl
theorem e_nonD_lst {i : List D} : isNonD (.lst i) = false := rfl
theorem e_nonD_tup {i : List D} : isNonD (.tup i) = false := rfl
theorem e_nonD_bl {i : Bool} : isNonD (.bl i) = false := rfl
theorem e_oNeg {a : Int} : oNeg (.int a) = some (.int (-a)) := rfl
theorem e_oIxL {l : List D} {i : Int} : oIx (.lst l) (.int i) = atI l i := rfl
theorem e_oIxT {l : List D} {i : Int} : oIx (.tup l) (.int i) = atI l i := rfl
theorem e_oIn_lst {x : Int} {l : List D} : oIn (.int x) (.lst l) = (asI l).map fun is => .bl (decide (x ∈ is)) := rfl
theorem e_oIn_tup {x : Int} {l : List D} : oIn (.int x) (.tup l) = (asI l).map fun is => .bl (decide (x ∈ is)) := rfl
theorem e_oNotIn_lst {x : Int} {l : List D} : oNotIn (.int x) (.lst l) = (asI l).map fun is => .bl (!decide (x ∈ is)) := rfl
theorem e_oNotIn_tup {x : Int} {l : List D} : oNotIn (.int x) (.tup l) = (asI l).map fun is => .bl (!decide (x ∈ is)) := rfl
theorem e_oSlL_l {l : List D} {lo hi : Option Int} : oSlL (.lst l) lo hi = some (.lst (cutD l lo hi)) := rfl
theorem e_oSlL_s {l : List Int} {lo hi : Option Int} : oSlL (.src l) lo hi = some (.lst (cutD (l.map D.int) lo hi)) := rfl
theorem e_oSlAny_l {l : List D} {lo hi : Option Int} : oSlAny (.lst l) lo hi = some (.lst (cutD l lo hi)) := rfl
theorem e_oSlAny_s {l : List Int} {lo hi : Option Int} : oSlAny (.src l) lo hi = some (.lst (cutD (l.map D.int) lo hi)) := rfl
theorem e_oSlA_t {l : List D} {lo hi : Option Int} : oSlA (.tup l) lo hi = some (.tup (cutD l lo hi)) := rfl
theorem e_oSlAny_t {l : List D} {lo hi : Option Int} : oSlAny (.tup l) lo hi = some (.tup (cutD l lo hi)) := rfl
theorem e_bAbs {i : Int} : bAbs [.int i] = some (.int (if i < 0 then -i else i)) := rfl
theorem e_bLenL {l : List D} : bLen [.lst l] = some (.int l.length) := rfl
theorem e_bLenT {l : List D} : bLen [.tup l] = some (.int l.length) := rfl
theorem e_bInt {i : Int} : bInt [.int i] = some (.int i) := rfl
theorem e_bIntT  : bInt [.bl true] = some (.int 1) := rfl
theorem e_bIntF  : bInt [.bl false] = some (.int 0) := rfl
theorem e_bIntB {b : Bool} : bInt [.bl b] = some (.int (if b then 1 else 0)) := rfl
theorem e_bTupL {l : List D} : bTuple [.lst l] = some (.tup l) := rfl
theorem e_bTupT {l : List D} : bTuple [.tup l] = some (.tup l) := rfl
theorem e_bMax2 {i j : Int} : bMax2 [.int i, .int j] = some (.int (max i j)) := rfl
theorem e_bMin2 {i j : Int} : bMin2 [.int i, .int j] = some (.int (min i j)) := rfl
theorem e_bAll {l : List D} : bAll [.lst l] = (asB l).map fun bs => .bl (bs.all id) := rfl
theorem e_bAny {l : List D} : bAny [.lst l] = (asB l).map fun bs => .bl (bs.any id) := rfl
theorem e_bSorted_lst {l : List D} : bSorted [.lst l] = (asI l).map fun bs => .lst ((srt bs).map D.int) := rfl
theorem e_bSorted_tup {l : List D} : bSorted [.tup l] = (asI l).map fun bs => .lst ((srt bs).map D.int) := rfl
theorem e_isT_non_int  : isT (.non) .int = some false := rfl
theorem e_isT_non_bool  : isT (.non) .bool = some false := rfl
theorem e_isT_non_str  : isT (.non) .str = some false := rfl
theorem e_isT_non_list  : isT (.non) .list = some false := rfl
theorem e_isT_non_tuple  : isT (.non) .tuple = some false := rfl
theorem e_isT_bl_int {i : Bool} : isT (.bl i) .int = some true := rfl
theorem e_isT_bl_bool {i : Bool} : isT (.bl i) .bool = some true := rfl
theorem e_isT_bl_str {i : Bool} : isT (.bl i) .str = some false := rfl
theorem e_isT_bl_list {i : Bool} : isT (.bl i) .list = some false := rfl
theorem e_isT_bl_tuple {i : Bool} : isT (.bl i) .tuple = some false := rfl
theorem e_isT_int_int {i : Int} : isT (.int i) .int = some true := rfl
theorem e_isT_int_bool {i : Int} : isT (.int i) .bool = some false := rfl
theorem e_isT_int_str {i : Int} : isT (.int i) .str = some false := rfl
theorem e_isT_int_list {i : Int} : isT (.int i) .list = some false := rfl
theorem e_isT_int_tuple {i : Int} : isT (.int i) .tuple = some false := rfl
theorem e_isT_str_int {i : Str} : isT (.str i) .int = some false := rfl
theorem e_isT_str_bool {i : Str} : isT (.str i) .bool = some false := rfl
theorem e_isT_str_str {i : Str} : isT (.str i) .str = some true := rfl
theorem e_isT_str_list {i : Str} : isT (.str i) .list = some false := rfl
theorem e_isT_str_tuple {i : Str} : isT (.str i) .tuple = some false := rfl
theorem e_isT_lst_int {i : List D} : isT (.lst i) .int = some false := rfl
theorem e_isT_lst_bool {i : List D} : isT (.lst i) .bool = some false := rfl
theorem e_isT_lst_str {i : List D} : isT (.lst i) .str = some false := rfl
theorem e_isT_lst_list {i : List D} : isT (.lst i) .list = some true := rfl
theorem e_isT_lst_tuple {i : List D} : isT (.lst i) .tuple = some false := rfl
theorem e_isT_tup_int {i : List D} : isT (.tup i) .int = some false := rfl
theorem e_isT_tup_bool {i : List D} : isT (.tup i) .bool = some false := rfl
theorem e_isT_tup_str {i : List D} : isT (.tup i) .str = some false := rfl
theorem e_isT_tup_list {i : List D} : isT (.tup i) .list = some false := rfl
theorem e_isT_tup_tuple {i : List D} : isT (.tup i) .tuple = some true := rfl
theorem e_irng1 {n : Int} (h : -4611686018427387904 ≤ n ∧ n < 4611686018427387904) : irng1 [.int n] = .ok ((rg n).map D.int) := if_pos h
theorem e_irng2 {m n : Int} (h : -4611686018427387904 ≤ m ∧ m < 4611686018427387904 ∧ -4611686018427387904 ≤ n ∧ n < 4611686018427387904) : irng2 [.int m, .int n] = .ok ((rgs m n).map D.int) := if_pos h
theorem e_irng3 {m n : Int} (h : -4611686018427387904 ≤ m ∧ m < 4611686018427387904 ∧ -4611686018427387904 ≤ n ∧ n < 4611686018427387904) : irng3 [.int m, .int n, .int (-1)] = .ok ((rgd m n).map D.int) := if_pos ⟨rfl, h⟩
theorem e_lendD {k : Bool} {d : D} : (Re.ok d).lendD k = if d.has k = false then .ok d else .bad := rfl
theorem e_lendS {k : Bool} {d : Sl} : (Re.ok d).lendS k = if d.has k = false then .ok d else .bad := rfl
theorem e_has_dat {k : Bool} {d : D} : (Sl.dat d).has k = d.has k := rfl
theorem e_has_own {k : Bool} {d : List D} : (Sl.own d).has k = D.hass k d := rfl
theorem e_hass_ints {k : Bool} {l : List Int} : D.hass k (l.map D.int) = false := by induction l with | nil => rfl | cons a l ih => simp only [List.map_cons, D.hass, D.has, ih, Bool.or_self]
theorem e_hass_tI {k : Bool} {l : List (List Int)} : D.hass k (l.map tI) = false := by induction l with | nil => rfl | cons a l ih => simp only [List.map_cons, D.hass, ih, tI, D.has, e_hass_ints, Bool.or_self]
theorem and_okP {p : Prop} [Decidable p] {b : Bool} : (if p then Re.ok b else Re.ok false) = Re.ok (decide p && b) := by by_cases h : p <;> simp [h]
theorem or_okP {p : Prop} [Decidable p] {b : Bool} : (if p then Re.ok true else Re.ok b) = Re.ok (decide p || b) := by by_cases h : p <;> simp [h]
theorem andD_okP {p : Prop} [Decidable p] {b : Bool} : (if p then Re.ok (D.bl b) else Re.ok (D.bl false)) = Re.ok (D.bl (decide p && b)) := by by_cases h : p <;> simp [h]
theorem orD_okP {p : Prop} [Decidable p] {b : Bool} : (if p then Re.ok (D.bl true) else Re.ok (D.bl b)) = Re.ok (D.bl (decide p || b)) := by by_cases h : p <;> simp [h]
theorem atI_nat {α : Type} {l : List α} {n : Nat} : atI l (n : Int) = l[n]? := by
  unfold atI ixN
  by_cases h : n < l.length
  · rw [if_pos (by omega), if_pos (by omega)]; rfl
  · rw [if_pos (by omega), if_neg (by omega), List.getElem?_eq_none (by omega)]; rfl
theorem atI_lit {α : Type} {l : List α} (n : Nat) : atI l (no_index (OfNat.ofNat n : Int)) = l[n]? := atI_nat (n := n)
theorem atI_pos {α : Type} {l : List α} {i : Int} (h : 0 ≤ i) : atI l i = l[i.toNat]? := by
  have := atI_nat (l := l) (n := i.toNat)
  rwa [Int.toNat_of_nonneg h] at this
theorem map_snoc {α β : Type} {f : α → β} {l : List α} {x : α} : l.map f ++ [f x] = (l ++ [x]).map f := by simp
theorem rg_lt {n : Int} {i : Nat} {x : Int} (h : (rg n)[i]? = some x) : x = i ∧ (i : Int) < n := by
  have hl := (List.getElem?_eq_some_iff.mp h).1
  rw [rg_len] at hl
  rw [rg_at hl] at h
  exact ⟨(Option.some.inj h).symm, by omega⟩
theorem at_lt {α : Type} {l : List α} {i : Nat} {x : α} (h : l[i]? = some x) : i < l.length := (List.getElem?_eq_some_iff.mp h).1
theorem bnot_true {b : Bool} : ((!b) = true) = ¬ (b = true) := by cases b <;> simp
theorem bool_eqf {b : Bool} : (b = false) = ¬ (b = true) := by cases b <;> simp
theorem e_ixN {n : Nat} {k : Int} (h : 0 ≤ k ∧ k < n) : ixN n k = some k.toNat := by unfold ixN; rw [if_pos h.1, if_pos h.2]
theorem rgd_len (a b : Int) : (rgd a b).length = (a - b).toNat := by unfold rgd; rw [List.length_map, List.length_range]
theorem sh_tI (a : List Int) : Sh (tI a) := ⟨1, by decide, shp_tI a⟩
theorem sh_tIs (a : List (List Int)) : Sh (.lst (a.map tI)) := ⟨2, by decide, shp_tIs a⟩
theorem sh_ints (a : List Int) : Sh (.lst (a.map D.int)) := ⟨1, by decide, shp_ints a⟩
theorem oEq_lst {a b : List D} (h : Sh (.lst a) ∧ Sh (.lst b)) : oEq (.lst a) (.lst b) = some (.bl (D.eqb (.lst a) (.lst b))) := if_pos h
theorem oNe_lst {a b : List D} (h : Sh (.lst a) ∧ Sh (.lst b)) : oNe (.lst a) (.lst b) = some (.bl (!D.eqb (.lst a) (.lst b))) := if_pos h
theorem oEq_tup {a b : List D} (h : Sh (.tup a) ∧ Sh (.tup b)) : oEq (.tup a) (.tup b) = some (.bl (D.eqb (.tup a) (.tup b))) := if_pos h
theorem oNe_tup {a b : List D} (h : Sh (.tup a) ∧ Sh (.tup b)) : oNe (.tup a) (.tup b) = some (.bl (!D.eqb (.tup a) (.tup b))) := if_pos h
theorem oEqTs {a b : List (List Int)} : oEq (.lst (a.map tI)) (.lst (b.map tI)) = some (.bl (decide (a = b))) := (oEq_lst ⟨sh_tIs a, sh_tIs b⟩).trans (by rw [eqb_tIs])
theorem oNeTs {a b : List (List Int)} : oNe (.lst (a.map tI)) (.lst (b.map tI)) = some (.bl (!decide (a = b))) := (oNe_lst ⟨sh_tIs a, sh_tIs b⟩).trans (by rw [eqb_tIs])
theorem oEqLI {a b : List Int} : oEq (.lst (a.map D.int)) (.lst (b.map D.int)) = some (.bl (decide (a = b))) := (oEq_lst ⟨sh_ints a, sh_ints b⟩).trans (by rw [eqb_lI])
theorem oNeLI {a b : List Int} : oNe (.lst (a.map D.int)) (.lst (b.map D.int)) = some (.bl (!decide (a = b))) := (oNe_lst ⟨sh_ints a, sh_ints b⟩).trans (by rw [eqb_lI])
theorem oEqTI {a b : List Int} : oEq (tI a) (tI b) = some (.bl (decide (a = b))) := (oEq_tup ⟨sh_tI a, sh_tI b⟩).trans (by have := eqb_tI a b; unfold tI at this; rw [this])
theorem oNeTI {a b : List Int} : oNe (tI a) (tI b) = some (.bl (!decide (a = b))) := (oNe_tup ⟨sh_tI a, sh_tI b⟩).trans (by have := eqb_tI a b; unfold tI at this; rw [this])
theorem hass_map {α : Type} {k : Bool} {f : α → D} (h : ∀ x, D.has k (f x) = false) : ∀ {l : List α}, D.hass k (l.map f) = false
  | [] => rfl
  | x :: l => by simp only [List.map_cons, D.hass, h x, hass_map h (l := l), Bool.or_self]
theorem e_shas_oT {k : Bool} {ks : List (List Key)} {vs : List D} : (Sl.oT ks vs).has k = D.hass k vs := rfl
theorem e_shas_oK {k : Bool} {ks : List Key} {vs : List D} : (Sl.oK ks vs).has k = D.hass k vs := rfl
end DL

set_option maxRecDepth 100000
set_option maxHeartbeats 4000000
namespace DL
open PySem PySem.Spec L2
/-! threes as ascending lists of three ints -/
def prs (t : List Int) : List (Int × Int) := match t with | [a, b, c] => [(a, b), (a, c), (b, c)] | _ => []
def allp (T : List (List Int)) : List (Int × Int) := T.flatMap prs
def InB (n : Int) (t : List Int) : Prop := ∃ a b c : Int, t = [a, b, c] ∧ 0 ≤ a ∧ a < b ∧ b < c ∧ c < n
def Part (n : Int) (T : List (List Int)) : Prop := (∀ t ∈ T, InB n t) ∧ (allp T).Nodup
theorem InB.mono {n m : Int} {t : List Int} (h : InB n t) (hm : n ≤ m) : InB m t := by
  obtain ⟨a, b, c, e, h1, h2, h3, h4⟩ := h
  exact ⟨a, b, c, e, h1, h2, h3, by omega⟩
theorem InB.len {n : Int} {t : List Int} (h : InB n t) : t.length = 3 := by
  obtain ⟨a, b, c, rfl, _⟩ := h
  rfl
theorem InB.up {n : Int} {t : List Int} (h : InB n t) : t.Pairwise (· ≤ ·) := by
  obtain ⟨a, b, c, rfl, h1, h2, h3, h4⟩ := h
  simp only [List.pairwise_cons, List.mem_cons, List.not_mem_nil, or_false, forall_eq_or_imp, forall_eq, List.Pairwise.nil, and_true, false_imp_iff, implies_true]
  omega
theorem allp_app (T T' : List (List Int)) : allp (T ++ T') = allp T ++ allp T' := List.flatMap_append
theorem flatMap_sub {α β : Type} (f : α → List β) {l l' : List α} (h : l'.Sublist l) : (l'.flatMap f).Sublist (l.flatMap f) := by
  induction h with
  | slnil => exact .refl _
  | cons a _ ih => rw [List.flatMap_cons]; exact ih.trans (List.sublist_append_right _ _)
  | cons_cons a _ ih => rw [List.flatMap_cons, List.flatMap_cons]; exact ih.append_left _
theorem Part.sub {n : Int} {T T' : List (List Int)} (p : Part n T) (h : T'.Sublist T) : Part n T' :=
  ⟨fun t ht => p.1 t (h.subset ht), (flatMap_sub prs h).nodup p.2⟩
theorem Part.snoc {n : Int} {T : List (List Int)} {t : List Int} (p : Part n T) (h : InB n t) (hp : ∀ q ∈ prs t, q ∉ allp T) : Part n (T ++ [t]) := by
  refine ⟨fun x hx => ?_, ?_⟩
  · rcases List.mem_append.mp hx with z | z
    · exact p.1 x z
    · rw [List.mem_singleton] at z; rw [z]; exact h
  · rw [allp_app, List.nodup_append]
    refine ⟨p.2, ?_, fun x hx y hy e => ?_⟩
    · obtain ⟨a, b, c, rfl, h1, h2, h3, h4⟩ := h
      show [(a, b), (a, c), (b, c)].Nodup
      simp only [List.nodup_cons, List.mem_cons, List.not_mem_nil, Prod.mk.injEq, or_false, not_false_eq_true, List.nodup_nil, and_true]
      omega
    · subst e
      have : allp [t] = prs t := by show prs t ++ [] = _; rw [List.append_nil]
      rw [this] at hy
      exact hp x hy hx
/-! the whole systems -/
def S3 : List (List Int) := [[0, 1, 2]]
def S7 : List (List Int) := [[0, 1, 2], [0, 3, 4], [0, 5, 6], [1, 3, 5], [1, 4, 6], [2, 3, 6], [2, 4, 5]]
def S9 : List (List Int) := [[0, 1, 2], [3, 4, 5], [6, 7, 8], [0, 3, 6], [1, 4, 7], [2, 5, 8], [0, 4, 8], [1, 5, 6], [2, 3, 7], [0, 5, 7], [1, 3, 8], [2, 4, 6]]
def Lst (n : Int) (S : List (List Int)) : Prop := (n = 3 ∧ S = S3) ∨ (n = 7 ∧ S = S7) ∨ (n = 9 ∧ S = S9)
def inB (n : Int) (t : List Int) : Bool := match t with | [a, b, c] => decide (0 ≤ a ∧ a < b ∧ b < c ∧ c < n) | _ => false
theorem inB_ok {n : Int} {t : List Int} (h : inB n t = true) : InB n t := by
  unfold inB at h
  split at h
  · exact ⟨_, _, _, rfl, of_decide_eq_true h⟩
  · cases h
theorem Lst.part {n : Int} {S : List (List Int)} (h : Lst n S) : Part n S := by
  have go : ∀ (n : Int) (S : List (List Int)), S.all (inB n) = true → (allp S).Nodup → Part n S := fun n S h1 h2 => ⟨fun t ht => inB_ok (List.all_eq_true.mp h1 t ht), h2⟩
  rcases h with ⟨rfl, rfl⟩ | ⟨rfl, rfl⟩ | ⟨rfl, rfl⟩
  · exact go _ _ (by decide +kernel) (by decide +kernel)
  · exact go _ _ (by decide +kernel) (by decide +kernel)
  · exact go _ _ (by decide +kernel) (by decide +kernel)
theorem Lst.n {n : Int} {S : List (List Int)} (h : Lst n S) : 3 ≤ n ∧ n ≤ 9 ∧ 1 ≤ S.length ∧ S.length ≤ 12 := by
  rcases h with ⟨rfl, rfl⟩ | ⟨rfl, rfl⟩ | ⟨rfl, rfl⟩ <;> decide
/-! names -/
/-- the name of a point -/
def nm (σ : List Int) (x : Int) : Int := σ.getD x.toNat 0
section
variable {n : Int} {σ : List Int} (hσ : σ.Perm (rg n))
include hσ
end
/-- a pair in order -/
def sp (x y : Int) : Int × Int := (min x y, max x y)
/-- a pair as a key -/
def kp (q : Int × Int) : List Key := [.inl q.1, .inl q.2]
theorem kp_inj {p q : Int × Int} (h : kp p = kp q) : p = q := by
  unfold kp at h
  simp only [List.cons.injEq, Sum.inl.injEq, and_true] at h
  exact Prod.ext h.1 h.2
/-- a pair as data -/
abbrev pD (q : Int × Int) : D := .tup [.int q.1, .int q.2]
/-- the dict tells how often each pair of L lies there -/
structure Held (L : List (Int × Int)) (ks : List (List Key)) (vs : List D) : Prop where
  len : ks.length = vs.length
  nd : ks.Nodup
  get : ∀ q, vget ks vs (kp q) = if L.count q = 0 then none else some (.int (L.count q : Nat))
  keys : ∀ k ∈ ks, ∃ q ∈ L, k = kp q
theorem Held.nil : Held [] [] [] := ⟨rfl, List.nodup_nil, fun q => by simp [vget], fun k h => by simp at h⟩
theorem Held.put {L : List (Int × Int)} {ks vs} (h : Held L ks vs) (q : Int × Int) {z : Int} (hz : z = (L.count q : Nat) + 1) : Held (L ++ [q]) (kput ks (kp q)) (vput ks vs (kp q) (.int z)) := by
  refine ⟨vput_len h.len, kput_nodup h.nd, fun p => ?_, fun k hk => ?_⟩
  · rw [vget_put h.len, List.count_append, List.count_singleton]
    by_cases e : p = q
    · subst e
      rw [if_pos rfl, if_neg (by simp), hz]
      simp
    · rw [if_neg (fun z => e (kp_inj z)), h.get]
      simp [Ne.symm e]
  · rcases kput_mem.mp hk with rfl | hk
    · exact ⟨q, by simp, rfl⟩
    · obtain ⟨p, hp, e⟩ := h.keys k hk
      exact ⟨p, by simp [hp], e⟩
theorem Held.mem {L : List (Int × Int)} {ks vs} (h : Held L ks vs) (q : Int × Int) : kp q ∈ ks ↔ q ∈ L := by
  rw [← vget_mem h.len, h.get]
  by_cases e : L.count q = 0
  · rw [if_pos e]
    exact ⟨fun z => by simp at z, fun z => absurd (List.count_pos_iff.mpr z) (by omega)⟩
  · rw [if_neg e]
    exact ⟨fun _ => List.count_pos_iff.mp (by omega), fun _ => rfl⟩
theorem Held.small {L : List (Int × Int)} {ks vs} (h : Held L ks vs) : ks.length ≤ L.length := by
  have : ∀ (ks : List (List Key)) (L : List (Int × Int)), ks.Nodup → (∀ k ∈ ks, ∃ q ∈ L, k = kp q) → ks.length ≤ L.length := by
    intro ks
    induction ks with
    | nil => intro L _ _; exact Nat.zero_le _
    | cons a ks ih =>
      intro L hn hk
      obtain ⟨q, hq, e⟩ := hk a List.mem_cons_self
      have := ih (L.erase q) (List.nodup_cons.mp hn).2 fun k hkk => by
        obtain ⟨p, hp, e'⟩ := hk k (List.mem_cons_of_mem _ hkk)
        refine ⟨p, (List.mem_erase_of_ne fun z => ?_).mpr hp, e'⟩
        subst z
        exact (List.nodup_cons.mp hn).1 (by rw [e, ← e']; exact hkk)
      rw [List.length_erase_of_mem hq] at this
      have : 0 < L.length := List.length_pos_of_mem hq
      simp only [List.length_cons]
      omega
  exact this ks L h.nd h.keys
/-! open pairs -/
theorem hass_pD {k : Bool} {l : List (Int × Int)} : D.hass k (l.map pD) = false := hass_map (f := pD) fun _ => rfl
theorem hass_lI {l : List (List Int)} : D.hass false (l.map lI) = false := hass_map (f := lI) fun x => by simp only [lI, D.has, Bool.false_or, e_hass_ints]
end DL

set_option maxRecDepth 100000
set_option maxHeartbeats 4000000
namespace DL
open PySem PySem.Spec L2
def kv_ARMS : List (Str × Int) := [("bose", 0), ("skolem", 0), ("affine", 0), ("binary", 0), ("listed", 0), ("double", 1), ("product", 2)]
/-! trees as data -/
def elD : D → List D | .lst l | .tup l => l | _ => []
inductive Plain : D → Prop
  | non : Plain .non | bl (b : Bool) : Plain (.bl b) | int (i : Int) : Plain (.int i) | str (s : Str) : Plain (.str s)
  | lst (l : List D) (hn : l.length ≤ 1000) (h : ∀ x ∈ l, Plain x) : Plain (.lst l)
  | tup (l : List D) (hn : l.length ≤ 1000) (h : ∀ x ∈ l, Plain x) : Plain (.tup l)
theorem Plain.ty {d : D} (h : Plain d) : tyD d ≠ "?" := by
  cases h <;> first | exact (by decide : "NoneType" ≠ "?") | exact (by decide : "bool" ≠ "?") | exact (by decide : "int" ≠ "?") | exact (by decide : "str" ≠ "?") | exact (by decide : "list" ≠ "?") | exact (by decide : "tuple" ≠ "?")
theorem Plain.el {d : D} (h : Plain d) : ∀ x ∈ elD d, Plain x := by
  cases h with
  | lst l hn h => exact h
  | tup l hn h => exact h
  | _ => intro x hx; cases hx
theorem Plain.len {d : D} (h : Plain d) : (elD d).length ≤ 1000 := by
  cases h with
  | lst l hn h => exact hn
  | tup l hn h => exact hn
  | _ => exact Nat.zero_le _
inductive Tr where
  | bose (n : Int) | skolem (n : Int) | affine (n : Int) | binary (n : Int) | listed (n : Int) (T : List (List Int)) | double (t : Tr) | product (t u : Tr)
def Tr.d : Tr → D
  | .bose n => .tup [.str "bose", .int n]
  | .skolem n => .tup [.str "skolem", .int n]
  | .affine n => .tup [.str "affine", .int n]
  | .binary n => .tup [.str "binary", .int n]
  | .listed n T => .tup [.str "listed", .int n, .tup (T.map tI)]
  | .double t => .tup [.str "double", t.d]
  | .product t u => .tup [.str "product", t.d, u.d]
def Tr.size : Tr → Int
  | .bose n => n
  | .skolem n => n
  | .affine n => 3 ^ n.toNat
  | .binary n => 2 ^ n.toNat - 1
  | .listed n _ => n
  | .double t => 2 * t.size + 1
  | .product t u => t.size * u.size
/-- how deep it stands -/
def Tr.dep : Tr → Nat
  | .double t => t.dep + 1
  | .product t u => max t.dep u.dep + 1
  | _ => 0
def MP : Int := 10 ^ 30
/-- the numbers of a leaf, and the sizes, are within their bounds -/
def Tr.Ok : Tr → Prop
  | .bose n => 3 ≤ n ∧ n ≤ MP ∧ n % 6 = 3
  | .skolem n => 7 ≤ n ∧ n ≤ MP ∧ n % 6 = 1
  | .affine n => 1 ≤ n ∧ n ≤ 60
  | .binary n => 2 ≤ n ∧ n ≤ 99
  | .listed n T => 1 ≤ n ∧ n ≤ 60 ∧ Part n T ∧ ((allp T).length : Int) = n * (n - 1) / 2
  | .double t => t.Ok ∧ 2 * t.size + 1 ≤ MP
  | .product t u => t.Ok ∧ u.Ok ∧ t.size * u.size ≤ MP
/-- the pairs that have come -/
structure Hs (L : List (Int × Int)) (ks : List (List Key)) (vs : List D) : Prop where
  len : ks.length = vs.length
  mem : ∀ q, kp q ∈ ks ↔ q ∈ L
  n : ks.length = L.length
theorem Hs.nil : Hs [] [] [] := ⟨rfl, fun q => by simp, rfl⟩
theorem kput_new {ks : List (List Key)} {k : List Key} (h : k ∉ ks) : kput ks k = ks ++ [k] := if_neg h
theorem Hs.put {L : List (Int × Int)} {ks vs} (h : Hs L ks vs) (q : Int × Int) {v : D} (hq : q ∉ L) : Hs (L ++ [q]) (kput ks (kp q)) (vput ks vs (kp q) v) := by
  have hk : kp q ∉ ks := fun z => hq ((h.mem q).mp z)
  refine ⟨vput_len h.len, fun p => ?_, ?_⟩
  · rw [kput_new hk, List.mem_append, List.mem_append, h.mem, List.mem_singleton, List.mem_singleton]
    exact ⟨fun z => z.imp_right kp_inj, fun z => z.imp_right fun e => by rw [e]⟩
  · rw [kput_new hk, List.length_append, List.length_append, h.n]; rfl
theorem Tr.Ok.size : ∀ {t : Tr}, t.Ok → 1 ≤ t.size ∧ t.size ≤ MP
  | .bose n, h => ⟨by have := h.1; show 1 ≤ n; omega, h.2.1⟩
  | .skolem n, h => ⟨by have := h.1; show 1 ≤ n; omega, h.2.1⟩
  | .affine n, h => by
    obtain ⟨h1, h2⟩ : 1 ≤ n ∧ n ≤ 60 := h
    show 1 ≤ (3 : Int) ^ n.toNat ∧ (3 : Int) ^ n.toNat ≤ MP
    have h3 : 1 ≤ 3 ^ n.toNat := Nat.one_le_pow _ _ (by decide)
    have h4 : 3 ^ n.toNat ≤ 3 ^ 60 := Nat.pow_le_pow_right (by decide) (by omega)
    have e : (3 : Int) ^ n.toNat = ((3 ^ n.toNat : Nat) : Int) := by rw [Int.natCast_pow]; rfl
    rw [e]
    unfold MP
    generalize 3 ^ n.toNat = m at h3 h4
    omega
  | .binary n, h => by
    obtain ⟨h1, h2⟩ : 2 ≤ n ∧ n ≤ 99 := h
    show 1 ≤ (2 : Int) ^ n.toNat - 1 ∧ (2 : Int) ^ n.toNat - 1 ≤ MP
    have h3 : 2 ^ 1 ≤ 2 ^ n.toNat := Nat.pow_le_pow_right (by decide) (by omega)
    have h4 : 2 ^ n.toNat ≤ 2 ^ 99 := Nat.pow_le_pow_right (by decide) (by omega)
    have e : (2 : Int) ^ n.toNat = ((2 ^ n.toNat : Nat) : Int) := by rw [Int.natCast_pow]; rfl
    rw [e]
    unfold MP
    generalize 2 ^ n.toNat = m at h3 h4
    omega
  | .listed n T, h => by
    obtain ⟨h1, h2, _⟩ := h
    show 1 ≤ n ∧ n ≤ MP
    unfold MP
    omega
  | .double t, h => by
    obtain ⟨h1, h2⟩ := h
    have := h1.size
    exact ⟨by show 1 ≤ 2 * t.size + 1; omega, h2⟩
  | .product t u, h => by
    obtain ⟨h1, h2, h3⟩ := h
    have a := h1.size
    have b := h2.size
    refine ⟨?_, h3⟩
    have := Int.mul_le_mul a.1 b.1 (by decide) (by omega)
    show 1 ≤ t.size * u.size
    omega
/-! good trees are taken -/
end DL

set_option maxRecDepth 100000
set_option maxHeartbeats 1000000
/-! more rules: is True, in with tuples and texts, kinds of trees -/
namespace DL
open PySem PySem.Spec L2
def rIsntA : R2 := fun x y H Q => rNotN x y H Q ∨ rNotB x y H Q
theorem op_isntA {X : Cx} : OpR X (compareOp .IsNot) rIsntA := op_notN.or op_notBl
def oIsA : D → D → Option D | x, .non => some (.bl (isNonD x)) | .bl a, .bl b => some (.bl (decide (a = b))) | _, _ => none
def oIsntA : D → D → Option D | x, .non => some (.bl (!isNonD x)) | .bl a, .bl b => some (.bl (!decide (a = b))) | _, _ => none
/-- among ints, texts, tuples of ints -/
def inD : D → D → Option Bool
  | .int x, y => (seqD y).bind fun l => (asI l).map fun is => decide (x ∈ is)
  | .tup t, .lst l => (asI t).bind fun r => (asT l).map fun rows => decide (r ∈ rows)
  | .str x, y => (seqD y).bind fun l => (asS l).map fun is => decide (x ∈ is)
  | _, _ => none
def oInA (x y : D) : Option D := (inD x y).map D.bl
def oNotInA (x y : D) : Option D := (inD x y).map fun b => D.bl (!b)
theorem asS_map : ∀ l : List Str, asS (l.map D.str) = some l
  | [] => rfl
  | i :: l => by simp [asS, asS_map l]
theorem asS_is : ∀ {l : List D} {is : List Str}, asS l = some is → l = is.map D.str
  | [], is, h => by cases h; rfl
  | .str i :: r, is, h => by
    cases e : asS r with
    | none => simp [asS, e] at h
    | some js => simp [asS, e] at h; subst h; rw [asS_is e]; rfl
section
variable {K : PySem.W.Frag} {P : D → Prop}
theorem pIsntA : C2 K rIsntA oIsntA := fun x y z P h p => by
  cases y with
  | non =>
    have h : some (D.bl (!isNonD x)) = some z := by cases x <;> exact h
    exact fun H0 H v u Q s a b k => .inl (pIsNot x .non z P h p H0 H v u Q s a b k)
  | bl b =>
    cases x with
    | bl a =>
      cases h
      exact fun H0 H v u Q s ra rb k => by
        cases ra
        cases rb
        exact .inr ⟨a, b, rfl, rfl, k _ _ H0 H p (.refl s) (.bl _)⟩
    | _ => cases h
  | _ => cases x <;> cases h
end
theorem e_oIsA_n {x : D} : oIsA x .non = some (.bl (isNonD x)) := by cases x <;> rfl
theorem e_oIsA_b {a b : Bool} : oIsA (.bl a) (.bl b) = some (.bl (decide (a = b))) := rfl
theorem e_oIsntA_n {x : D} : oIsntA x .non = some (.bl (!isNonD x)) := by cases x <;> rfl
theorem e_oIsntA_b {a b : Bool} : oIsntA (.bl a) (.bl b) = some (.bl (!decide (a = b))) := rfl
theorem e_inD_il {x : Int} {l : List D} : inD (.int x) (.lst l) = (asI l).map fun is => decide (x ∈ is) := rfl
theorem e_inD_it {x : Int} {l : List D} : inD (.int x) (.tup l) = (asI l).map fun is => decide (x ∈ is) := rfl
theorem e_inD_sl {x : Str} {l : List D} : inD (.str x) (.lst l) = (asS l).map fun is => decide (x ∈ is) := rfl
theorem e_inD_st {x : Str} {l : List D} : inD (.str x) (.tup l) = (asS l).map fun is => decide (x ∈ is) := rfl
theorem e_inD_tl {t l : List D} : inD (.tup t) (.lst l) = (asI t).bind fun r => (asT l).map fun rows => decide (r ∈ rows) := rfl
theorem e_inD_ti {r : List Int} {l : List D} : inD (tI r) (.lst l) = (asT l).map fun rows => decide (r ∈ rows) := by
  show ((asI (r.map D.int)).bind fun r => (asT l).map fun rows => decide (r ∈ rows)) = _
  rw [asI_map]; rfl
theorem k_bose_skolem : (("bose" : Str) = "skolem") = False := eq_false (by decide +kernel)
theorem k_bose_affine : (("bose" : Str) = "affine") = False := eq_false (by decide +kernel)
theorem k_bose_binary : (("bose" : Str) = "binary") = False := eq_false (by decide +kernel)
theorem k_bose_listed : (("bose" : Str) = "listed") = False := eq_false (by decide +kernel)
theorem k_bose_double : (("bose" : Str) = "double") = False := eq_false (by decide +kernel)
theorem k_bose_product : (("bose" : Str) = "product") = False := eq_false (by decide +kernel)
theorem k_skolem_bose : (("skolem" : Str) = "bose") = False := eq_false (by decide +kernel)
theorem k_skolem_affine : (("skolem" : Str) = "affine") = False := eq_false (by decide +kernel)
theorem k_skolem_binary : (("skolem" : Str) = "binary") = False := eq_false (by decide +kernel)
theorem k_skolem_listed : (("skolem" : Str) = "listed") = False := eq_false (by decide +kernel)
theorem k_skolem_double : (("skolem" : Str) = "double") = False := eq_false (by decide +kernel)
theorem k_skolem_product : (("skolem" : Str) = "product") = False := eq_false (by decide +kernel)
theorem k_affine_bose : (("affine" : Str) = "bose") = False := eq_false (by decide +kernel)
theorem k_affine_skolem : (("affine" : Str) = "skolem") = False := eq_false (by decide +kernel)
theorem k_affine_binary : (("affine" : Str) = "binary") = False := eq_false (by decide +kernel)
theorem k_affine_listed : (("affine" : Str) = "listed") = False := eq_false (by decide +kernel)
theorem k_affine_double : (("affine" : Str) = "double") = False := eq_false (by decide +kernel)
theorem k_affine_product : (("affine" : Str) = "product") = False := eq_false (by decide +kernel)
theorem k_binary_bose : (("binary" : Str) = "bose") = False := eq_false (by decide +kernel)
theorem k_binary_skolem : (("binary" : Str) = "skolem") = False := eq_false (by decide +kernel)
theorem k_binary_affine : (("binary" : Str) = "affine") = False := eq_false (by decide +kernel)
theorem k_binary_listed : (("binary" : Str) = "listed") = False := eq_false (by decide +kernel)
theorem k_binary_double : (("binary" : Str) = "double") = False := eq_false (by decide +kernel)
theorem k_binary_product : (("binary" : Str) = "product") = False := eq_false (by decide +kernel)
theorem k_listed_bose : (("listed" : Str) = "bose") = False := eq_false (by decide +kernel)
theorem k_listed_skolem : (("listed" : Str) = "skolem") = False := eq_false (by decide +kernel)
theorem k_listed_affine : (("listed" : Str) = "affine") = False := eq_false (by decide +kernel)
theorem k_listed_binary : (("listed" : Str) = "binary") = False := eq_false (by decide +kernel)
theorem k_listed_double : (("listed" : Str) = "double") = False := eq_false (by decide +kernel)
theorem k_listed_product : (("listed" : Str) = "product") = False := eq_false (by decide +kernel)
theorem k_double_bose : (("double" : Str) = "bose") = False := eq_false (by decide +kernel)
theorem k_double_skolem : (("double" : Str) = "skolem") = False := eq_false (by decide +kernel)
theorem k_double_affine : (("double" : Str) = "affine") = False := eq_false (by decide +kernel)
theorem k_double_binary : (("double" : Str) = "binary") = False := eq_false (by decide +kernel)
theorem k_double_listed : (("double" : Str) = "listed") = False := eq_false (by decide +kernel)
theorem k_double_product : (("double" : Str) = "product") = False := eq_false (by decide +kernel)
theorem k_product_bose : (("product" : Str) = "bose") = False := eq_false (by decide +kernel)
theorem k_product_skolem : (("product" : Str) = "skolem") = False := eq_false (by decide +kernel)
theorem k_product_affine : (("product" : Str) = "affine") = False := eq_false (by decide +kernel)
theorem k_product_binary : (("product" : Str) = "binary") = False := eq_false (by decide +kernel)
theorem k_product_listed : (("product" : Str) = "listed") = False := eq_false (by decide +kernel)
theorem k_product_double : (("product" : Str) = "double") = False := eq_false (by decide +kernel)
theorem arm_bose : mget kv_ARMS "bose" = some 0 := by decide +kernel
theorem arm_skolem : mget kv_ARMS "skolem" = some 0 := by decide +kernel
theorem arm_affine : mget kv_ARMS "affine" = some 0 := by decide +kernel
theorem arm_binary : mget kv_ARMS "binary" = some 0 := by decide +kernel
theorem arm_listed : mget kv_ARMS "listed" = some 0 := by decide +kernel
theorem arm_double : mget kv_ARMS "double" = some 1 := by decide +kernel
theorem arm_product : mget kv_ARMS "product" = some 2 := by decide +kernel
end DL

set_option maxRecDepth 100000
set_option maxHeartbeats 1000000
namespace DL
open PySem PySem.Spec L2
/-- what one turn is to come to, where f says r -/
def Trn {σ β : Type} (up : σ → Rho) (abs : σ → β) (J : σ → Prop) (B : Os → Prop) (r : Option β) (o : Os) : Prop := match r with | some b => ∃ s', o = .nx (up s') ∧ abs s' = b ∧ J s' | none => B o
theorem Trn.no {σ β : Type} {up : σ → Rho} {abs : σ → β} {J : σ → Prop} {B : Os → Prop} {r : Option β} {o : Os} (e : r = none) (h : B o) : Trn up abs J B r o := by subst e; exact h
/-! rows of plain data -/
end DL

set_option maxRecDepth 100000
set_option maxHeartbeats 4000000
/-! xs[::-1], for lists and tuples -/
namespace DL
open PySem PySem.Spec L2 PyProof.Rows HT
section
variable {prog : Program} {w : World} {A : Around} {E : Value → Shared → Prop} {s : Shared}
end
section
variable {X : Cx}
end
def oRev : D → Option D
  | .lst l => some (.lst l.reverse)
  | .src l => some (.lst (l.map D.int).reverse)
  | .tup l => some (.tup l.reverse)
  | _ => none
def rRev (ea : Rho → Re D) (ρ : Rho) : Re D := (ea ρ).bind fun x => .of (oRev x)
section
variable {K : PySem.W.Frag} {W : WX} {ad : Cls → Addr} {te : TE} {ea : Rho → Re D} {ρ : Rho} {P : D → Prop} {X : Exn → Prop}
end
theorem e_oRev_l {l : List D} : oRev (.lst l) = some (.lst l.reverse) := rfl
theorem e_oRev_t {l : List D} : oRev (.tup l) = some (.tup l.reverse) := rfl
end DL

set_option maxRecDepth 100000
set_option maxHeartbeats 1000000
namespace DL
open PySem PySem.Spec L2 PyProof.Rows PySem.W
/-! sum of a tuple -/
section
variable {prog : Program} {w : World} {A : Around} {E : Value → Shared → Prop} {s : Shared} {l : Addr} {its : List Value} {ns : List Int} {Q : Value → Shared → Prop}
end
def bSumA : List D → Option D | [.lst l] => (asI l).map fun is => .int is.sum | [.tup l] => (asI l).map fun is => .int is.sum | _ => none
theorem e_bSumA {l : List D} : bSumA [.lst l] = (asI l).map fun bs => .int bs.sum := rfl
theorem e_bSumAt {l : List D} : bSumA [.tup l] = (asI l).map fun bs => .int bs.sum := rfl
end DL

set_option maxRecDepth 100000
set_option maxHeartbeats 1000000
namespace DL
open PySem PySem.Spec L2
section
variable {K : PySem.W.Frag} {W : WX} {ρ : Rho} {E : En} {te : TE} {tas : TA} {ad : Cls → Addr}
theorem Rps.dropLast {H : Hp} : ∀ {xs : List V} {ds : List D}, Rps K H xs ds → Rps K H xs.dropLast ds.dropLast
  | [], [], .nil => .nil
  | [_], [_], .cons _ .nil => .nil
  | _ :: y :: ys, _ :: e :: es, .cons r t => .cons r (Rps.dropLast t)
/-- x = xs.pop() -/
theorem ws_setPop {i j : Nat} {ds : List D} {d : D} (h : ρ[i]? = some (.own ds)) (hd : ds[ds.length - 1]? = some d) (hnx : E.nx ((ρ.set i (.own ds.dropLast)).set j (.dat d))) :
    WS K W (tAsg (tBM0 K "list" rPop (tVar i)) (gName j)) ρ E := fun He0 He σ H0 H D S e => by
  obtain ⟨v, h1, h2, h3⟩ := S.sl i _ h (by intro z; cases z)
  obtain ⟨a, rfl, n0, ys, ha, rs⟩ := h2
  obtain ⟨y, hy, ry⟩ := rs.get hd
  refine ⟨_, h1, .inl ⟨rfl, _, .inl (.inl ha)⟩, a, ys, y, rfl, rfl, ha, by rw [rs.length]; exact hy, ?_⟩
  exact e.nx _ _ H0 _ hnx ((S.writeAt (s' := .own ds.dropLast) (o := .lst ys.dropLast) h rfl rfl h1 ⟨_, upd_same, rs.dropLast⟩).setD j ry)
/-- x = xs.pop(k) -/
theorem ws_setPopAt {i j : Nat} {xs : List D} (h : ρ[i]? = some (.own xs)) (w : AvP K W tas ρ (fun ds => ∃ (k : Int) (d : D), ds = [.int k] ∧ 0 ≤ k ∧ k < xs.length ∧ xs.length ≤ 1000000 ∧ xs[k.toNat]? = some d ∧ E.nx ((ρ.set i (.own (xs.eraseIdx k.toNat))).set j (.dat d))) (fun x => E.ex x ρ)) :
    WS K W (tAsg (tBM K "list" rPopAt (tVar i) tas) (gName j)) ρ E := fun He0 He σ H0 H D S e => by
  obtain ⟨v, h1, h2, h3⟩ := S.sl i _ h (by intro z; cases z)
  obtain ⟨a, rfl, n0, ys, ha, rs⟩ := h2
  refine ⟨_, h1, .inl ⟨rfl, _, .inl (.inl ha)⟩, w He0 He σ H0 H _ S (e.exs σ ρ) fun us ds H1 H1' p S1 e1 r1 => ?_⟩
  obtain ⟨k, d, rfl, h0, hk, hb, hd, p⟩ := p
  cases r1 with
  | cons q1 q2 =>
    cases q1
    cases q2
    have ha1 := e1.s _ _ ha
    have rs1 := rs.mono e1.s0
    obtain ⟨y, hy, ry⟩ := rs1.get hd
    have hl : ys.length = xs.length := rs.length
    have hix : ixN ys.length k = some k.toNat := by
      unfold ixN
      rw [if_pos h0, if_pos (by omega)]
    refine ⟨a, ys, k, k.toNat, y, rfl, rfl, ha1, by omega, by omega, (ixN_seq hix).1, hy, ?_⟩
    exact e.nx _ _ H1 _ p ((S1.writeAt (s' := .own (xs.eraseIdx k.toNat)) (o := .lst (ys.eraseIdx k.toNat)) h rfl rfl h1 ⟨_, upd_same, rs1.erase _⟩).setD j ry)
/-! dict comprehensions -/
structure CompK (K : PySem.W.Frag) (He0 He : Hp) (σ : St) (ρ : Rho) (Hs0 Hs : Hp) (L : Addr) (acc : List Key × List D) (G H : Hp) : Prop where
  S : StOk K He0 He σ G H ρ
  e : Ext Hs0 Hs G H
  at_ : ∃ kvs, H L = some (.dK kvs) ∧ kvs.map (·.1) = acc.1 ∧ Rps K G (kvs.map (·.2)) acc.2
  n0 : G L = none
def TurnK (K : PySem.W.Frag) (g : TG) (tt : TT) (tk tv : TE) (x : D) (ρ' : Rho) (acc : List Key × List D) (J : List Key × List D → Prop) : Prop :=
  GvP K g x ρ' fun ρ2 => BvP K W0 tt ρ2 (fun b => if b = true then EvP K W0 tk ρ2 (fun y => EvP K W0 tv ρ2 (fun z => ∃ k, y = kD k ∧ acc.1.length < sizeLine ∧ J (kput acc.1 k, vput acc.1 acc.2 k z)) X0) X0 else J acc) X0
theorem dc_turn {g : TG} {tt : TT} {tk tv : TE} {vs : List Nat} {He0 He : Hp} {σ : St} {Hs0 Hs : Hp} {L : Addr} {acc : List Key × List D} {J : List Key × List D → Prop} {G H : Hp} {x : D} {v : V} (gi : GIn g vs) (nL : Hs L = none) (sHs : Same He Hs)
    (ap : ∀ (j : Nat) (t : Sl), (wipeR ρ vs)[j]? = some t → t.isOwn = true → (L2.wipe σ vs)[j]? ≠ some (some (.ref L)))
    (C : CompK K He0 He (L2.wipe σ vs) (wipeR ρ vs) Hs0 Hs L acc G H) (rx : Rp K G v x) (t : TurnK K g tt tk tv x (wipeR ρ vs) acc J) {Nx : Hp → Prop}
    (hN : ∀ acc' G' H', J acc' → CompK K He0 He (L2.wipe σ vs) (wipeR ρ vs) Hs0 Hs L acc' G' H' → Nx H') :
    g v (L2.wipe σ vs) H fun σ2 H2 => L2.wipe σ2 vs = L2.wipe σ vs ∧ tt σ2 H2 fun b H3 =>
      if b = true then tk σ2 H3 fun y H4 => tv σ2 H4 fun z H5 => ∃ kvs k, y = kV k ∧ H5 L = some (.dK kvs) ∧ kvs.length < sizeLine ∧ Nx (upd H5 L (.dK (putK kvs k z))) else Nx H3 := by
  have q1 := gi v (L2.wipe σ vs) H _ (t He0 He (L2.wipe σ vs) G H v (fun σ2 H2 => tt σ2 H2 fun b H3 =>
      if b = true then tk σ2 H3 fun y H4 => tv σ2 H4 fun z H5 => ∃ kvs k, y = kV k ∧ H5 L = some (.dK kvs) ∧ kvs.length < sizeLine ∧ Nx (upd H5 L (.dK (putK kvs k z))) else Nx H3) C.S rx fun ρ2 σ2 bv S2 => ?_)
  · rw [wipe_wipe] at q1
    exact q1
  · refine bv He0 He σ2 G H _ S2 (fun _ _ _ _ _ z => z.elim) fun b G3 H3 p3 S3 e3 => ?_
    obtain ⟨kvs, hL, hk, rs⟩ := C.at_
    cases b with
    | false =>
      rw [if_neg Bool.false_ne_true] at p3 ⊢
      exact hN acc G3 H3 p3 ⟨C.S.ext e3, C.e.trans e3, ⟨kvs, e3.s _ _ hL, hk, rs.mono e3.s0⟩, e3.none C.n0 hL⟩
    | true =>
      rw [if_pos rfl] at p3 ⊢
      refine p3 He0 He σ2 G3 H3 _ S3 (fun _ _ _ _ _ z => z.elim) fun y dy G4 H4 p4 S4 e4 r4 => ?_
      refine p4 He0 He σ2 G4 H4 _ S4 (fun _ _ _ _ _ z => z.elim) fun z dz G5 H5 p5 S5 e5 r5 => ?_
      obtain ⟨k, rfl, hz, p5⟩ := p5
      have e35 := (e3.trans e4).trans e5
      have hL5 := e35.s _ _ hL
      have n5 := e35.none C.n0 hL
      have ek : y = kV k := by
        cases k with
        | inl i => cases r4; rfl
        | inr i => cases r4; rfl
      obtain ⟨w1, w2⟩ := putK_rep (k := k) (rs.mono e35.s0) r5
      rw [hk] at w1 w2
      refine ⟨kvs, k, ek, hL5, ?_, hN _ G5 _ p5 ⟨?_, ?_, ⟨_, upd_same, w1, w2⟩, n5⟩⟩
      · have : kvs.length = acc.1.length := by rw [← hk, List.length_map]
        rw [this]; exact hz
      · exact (C.S.ext e35).writeO n5 (sHs.free nL) ap
      · exact (C.e.trans e35).writeO nL n5
theorem CompK.fin {vs : List Nat} {He0 He : Hp} {σ : St} {Hs0 Hs : Hp} {L : Addr} {acc : List Key × List D} {G H : Hp} (S : StOk K He0 He σ Hs0 Hs ρ) (nL : Hs L = none)
    (C : CompK K He0 He (L2.wipe σ vs) (wipeR ρ vs) Hs0 Hs L acc G H) : StOk K He0 He σ G H ρ ∧ Ext Hs0 Hs G H ∧ RpS K G H (.ref L) (.oK acc.1 acc.2) := by
  obtain ⟨kvs, hL, hk, rs⟩ := C.at_
  exact ⟨S.ext C.e, C.e, L, rfl, C.n0, kvs, hL, hk, rs⟩
theorem CompK.start {vs : List Nat} {He0 He : Hp} {σ : St} {Hs0 Hs : Hp} {L : Addr} (S : StOk K He0 He σ Hs0 Hs ρ) (nL : Hs L = none) :
    CompK K He0 He (L2.wipe σ vs) (wipeR ρ vs) Hs0 Hs L ([], []) Hs0 (upd Hs L (.dK [])) ∧ ∀ (j : Nat) (t : Sl), (wipeR ρ vs)[j]? = some t → t.isOwn = true → (L2.wipe σ vs)[j]? ≠ some (some (.ref L)) := by
  have S' := S.wipe vs
  have e : Ext Hs0 Hs Hs0 (upd Hs L (.dK [])) := .own S.sub nL
  refine ⟨⟨S'.ext e, e, ⟨[], upd_same, rfl, .nil⟩, S.sub.free nL⟩, fun j t hj ht q => ?_⟩
  obtain ⟨v', g1, g2, g3⟩ := S'.sl j t hj (by intro z; rw [z] at ht; cases ht)
  obtain ⟨b, rfl, nb, ob⟩ := own_of ht g2
  rw [g1] at q
  cases q
  obtain ⟨u, hu, _⟩ := ob.there
  rw [nL] at hu
  cases hu
theorem eo_dcD {ti : TI} {g : TG} {tt : TT} {tk tv : TE} {PS : Sl → Prop} {X : Exn → Prop} {vs : List Nat} (gi : GIn g vs) (h : IvP K W ti ρ (fun xs => ∃ J : Nat → List Key × List D → Prop, J 0 ([], []) ∧ (∀ i x acc, xs[i]? = some x → J i acc → TurnK K g tt tk tv x (wipeR ρ vs) acc (J (i + 1))) ∧ ∀ acc, J xs.length acc → PS (.oK acc.1 acc.2)) X) :
    EvO K W (tDc ti g tt tk tv vs) ρ PS X := fun He0 He σ H0 H Q S x k => by
  refine h He0 He σ H0 H _ S x fun It xs H1 H1' p S1 e1 itd L nL => ?_
  obtain ⟨J, j0, turn, fin⟩ := p
  obtain ⟨c0, ap⟩ := CompK.start (vs := vs) S1 nL
  refine ⟨fun i m H => m = xs.length - i ∧ i ≤ xs.length ∧ ∃ acc G, J i acc ∧ CompK K He0 He (L2.wipe σ vs) (wipeR ρ vs) H1 H1' L acc G H, ⟨_, rfl, Nat.zero_le _, ([], []), H1, j0, c0⟩, ?_⟩
  rintro i m H ⟨rfl, hi, acc, G, hj, C⟩
  by_cases hlt : i < xs.length
  · refine .inr ⟨itd.go i H hlt (C.e.s0.trans C.e.sub), fun H => ∃ acc G, J (i + 1) acc ∧ CompK K He0 He (L2.wipe σ vs) (wipeR ρ vs) H1 H1' L acc G H, fun H2 q => ⟨xs.length - (i + 1), by omega, rfl, by omega, q⟩, fun x H2 hy => ?_⟩
    obtain ⟨G', d, e2, hd, rx⟩ := itd.yld i H x H2 G hlt C.e.s0 C.e.sub hy
    have C2 : CompK K He0 He (L2.wipe σ vs) (wipeR ρ vs) H1 H1' L acc G' H2 := by
      obtain ⟨ys, hL, hk, rs⟩ := C.at_
      exact ⟨C.S.ext e2, C.e.trans e2, ⟨ys, e2.s _ _ hL, hk, rs.mono e2.s0⟩, e2.none C.n0 hL⟩
    exact dc_turn gi nL S1.e.s ap C2 rx (turn i d acc hd hj) fun acc' G' H' j' C' => ⟨acc', G', j', C'⟩
  · obtain rfl : i = xs.length := by omega
    refine .inl ⟨itd.stop H (C.e.s0.trans C.e.sub), ?_⟩
    obtain ⟨f1, f2, f3⟩ := C.fin S1 nL
    exact k _ _ G H (fin acc hj) f1 (e1.trans f2) f3 fun _ a e => by cases e; exact e1.s.free nL
end
/-! a dict of one's own, read while it is locked -/
section
variable {K : PySem.W.Frag} {W : WX} {ρ : Rho} {te : TE} {P : D → Prop} {PS : Sl → Prop} {X : Exn → Prop}
end
def rLkO (i : Nat) (e : Rho → Re Sl) (ρ : Rho) : Re Sl := match gt ρ i with
  | .oK ks vs => (e (ρ.set i (.dat (.fK ks vs)))).lendS false
  | .oT ks vs => (e (ρ.set i (.dat (.fT ks vs)))).lendS false
  | _ => e ρ
/-! evaluators -/
def xExtend (i : Nat) (e : Rho → Re D) (ρ : Rho) : Os := (gt ρ i).ownL.os ρ fun l => (e ρ).os ρ fun d => match d with
  | .lst es => if l.length + es.length ≤ 1000000 then .nx (ρ.set i (.own (l ++ es))) else .bad | _ => .bad
def xSetPop (i j : Nat) (ρ : Rho) : Os := (gt ρ i).ownL.os ρ fun l => match l[l.length - 1]? with | some d => .nx ((ρ.set i (.own l.dropLast)).set j (.dat d)) | none => .bad
def xSetPopAt (i j : Nat) (a : Rho → Re (List D)) (ρ : Rho) : Os := (gt ρ i).ownL.os ρ fun l => (a ρ).os ρ fun m => match m with
  | [.int k] => if 0 ≤ k ∧ k < l.length ∧ l.length ≤ 1000000 then (match l[k.toNat]? with | some d => .nx ((ρ.set i (.own (l.eraseIdx k.toNat))).set j (.dat d)) | none => .bad) else .bad | _ => .bad
def dcGo (f : D → Re (Option (Key × D))) : List D → List Key × List D → Re (List Key × List D)
  | [], acc => .ok acc
  | x :: xs, acc => (f x).bind fun o => match o with | some (k, z) => dcGo f xs (kput acc.1 k, vput acc.1 acc.2 k z) | none => dcGo f xs acc
def dcF (g : D → Rho → Option Rho) (t : Rho → Re Bool) (ek ev : Rho → Re D) (ρ : Rho) (x : D) : Re (Option (Key × D)) :=
  match g x ρ with | some ρ' => (t ρ').bind fun b => if b = true then (ek ρ').bind fun y => (ev ρ').bind fun z => (Re.of (keyK y)).bind fun k => .ok (some (k, z)) else .ok none | none => .bad
def rDc (i : Rho → Re (List D)) (g : D → Rho → Option Rho) (t : Rho → Re Bool) (ek ev : Rho → Re D) (vs : List Nat) (ρ : Rho) : Re Sl :=
  (i ρ).bind fun xs => if xs.length ≤ 1000000 then (dcGo (dcF g t ek ev (wipeR ρ vs)) xs ([], [])).noex.bind fun l => .ok (.oK l.1 l.2) else .bad
section
variable {K : PySem.W.Frag} {W : WX} {ad : Cls → Addr} {te tk tv : TE} {ea ekk evv : Rho → Re D} {tas : TA} {es : Rho → Re (List D)} {ti : TI} {ei : Rho → Re (List D)} {g : TG} {hg : D → Rho → Option Rho} {tt : TT} {et : Rho → Re Bool}
theorem cSetPop (i j : Nat) : CS K W ad (tAsg (tBM0 K "list" rPop (tVar i)) (gName j)) (xSetPop i j) := fun ρ E h => by
  obtain ⟨l, h1, h2⟩ := ownL_post (Re.os_post h)
  cases e : l[l.length - 1]? with
  | none => rw [e] at h2; exact h2.elim
  | some d => rw [e] at h2; exact ws_setPop h1 e h2
theorem cSetPopAt (i j : Nat) (ha : CA K W ad tas es) : CS K W ad (tAsg (tBM K "list" rPopAt (tVar i) tas) (gName j)) (xSetPopAt i j es) := fun ρ E h => by
  obtain ⟨l, h1, h2⟩ := ownL_post (Re.os_post h)
  refine ws_setPopAt h1 (ha ρ _ _ ((Re.os_post h2).imp fun m q => ?_))
  split at q
  · rename_i k
    split at q
    · rename_i c
      cases e : l[k.toNat]? with
      | none => rw [e] at q; exact q.elim
      | some d => rw [e] at q; exact ⟨k, d, rfl, c.1, c.2.1, c.2.2, e, q⟩
    · exact q.elim
  · exact q.elim
theorem kput_le (ks : List Key) (k : Key) : (kput ks k).length ≤ ks.length + 1 := by
  unfold kput
  split <;> simp
theorem cDc {vs : List Nat} (hi : CI K W ad ti ei) (gi : GIn g vs) (h1 : CG K g hg) (ht : CB K W0 ad tt et) (hk : CE K W0 ad tk ekk) (hv : CE K W0 ad tv evv) : CO K W ad (tDc ti g tt tk tv vs) (rDc ei hg et ekk evv vs) := fun ρ P X h =>
  eo_dcD gi (hi ρ _ X ((Re.post_bind h).imp fun xs h2 => by
    by_cases c : xs.length ≤ 1000000
    · rw [if_pos c] at h2
      have h3 := Re.post_noex (Re.post_bind h2)
      refine ⟨fun i acc => acc.1.length ≤ i ∧ (dcGo (dcF hg et ekk evv (wipeR ρ vs)) (xs.drop i) acc).post ad (fun l => P (.oK l.1 l.2)) X0, ⟨Nat.le_refl _, by rw [List.drop_zero]; exact h3⟩, ?_, ?_⟩
      · rintro i x acc hx ⟨la, hr⟩
        have hi := (List.getElem?_eq_some_iff.mp hx).1
        have ed : xs.drop i = x :: xs.drop (i + 1) := by
          rw [List.drop_eq_getElem_cons hi]
          rw [List.getElem?_eq_getElem hi] at hx
          rw [Option.some.inj hx]
        rw [ed, dcGo] at hr
        have hr := Re.post_bind hr
        unfold dcF at hr
        cases q : hg x (wipeR ρ vs) with
        | none => rw [q] at hr; exact hr.elim
        | some ρ' =>
          rw [q] at hr
          refine h1 _ _ _ _ q (ht ρ' _ X0 ((Re.post_bind hr).imp fun b hb => ?_))
          cases b with
          | true =>
            refine hk ρ' _ X0 ((Re.post_bind hb).imp fun y hy => ?_)
            refine hv ρ' _ X0 ((Re.post_bind hy).imp fun z hz => ?_)
            obtain ⟨k, ek, hz⟩ := Re.post_of (Re.post_bind hz)
            refine ⟨k, keyK_is ek, small_lt (by omega), ?_, hz⟩
            have := kput_le acc.1 k
            show (kput acc.1 k).length ≤ i + 1
            omega
          | false => exact ⟨by omega, hb⟩
      · rintro acc ⟨_, hr⟩
        rw [List.drop_length] at hr
        exact hr
    · rw [if_neg c] at h2
      exact h2.elim))
end
/-! lemmas for the mirror -/
theorem dc_fold {α : Type} {f : D → Re (Option (Key × D))} {inj : α → D} {p : α → Bool} {kf : α → Key} {vf : α → D} : ∀ {xs : List α} (acc : List Key × List D), (∀ x ∈ xs, f (inj x) = if p x = true then .ok (some (kf x, vf x)) else .ok none) →
    dcGo f (xs.map inj) acc = .ok (xs.foldl (fun a x => if p x = true then (kput a.1 (kf x), vput a.1 a.2 (kf x) (vf x)) else a) acc)
  | [], acc, _ => rfl
  | x :: xs, acc, h => by
    rw [List.map_cons, dcGo, h x List.mem_cons_self, List.foldl_cons]
    cases hp : p x with
    | true => rw [if_pos rfl, if_pos rfl]; exact dc_fold _ fun y hy => h y (List.mem_cons_of_mem _ hy)
    | false => rw [if_neg Bool.false_ne_true, if_neg Bool.false_ne_true]; exact dc_fold _ fun y hy => h y (List.mem_cons_of_mem _ hy)
end DL

set_option maxRecDepth 100000
set_option maxHeartbeats 1000000
namespace DL
open PySem PySem.Spec L2
section
variable {K : PySem.W.Frag} {W : WX} {ρ : Rho} {te : TE} {tas : TA} {P : D → Prop} {PS : Sl → Prop} {X : Exn → Prop} {ad : Cls → Addr} {ea : Rho → Re D} {es : Rho → Re (List D)}
/-- the items of a list, a tuple, or the keys of a dict -/
def seqK : D → Option (List D) | .lst l => some l | .tup l => some l | .dK ks _ => some (ks.map kD) | .fK ks _ => some (ks.map kD) | _ => none
def rListOfA (a : Rho → Re D) (ρ : Rho) : Re Sl := (a ρ).bind fun x => (Re.of (seqK x)).bind fun l => .ok (.own l)
theorem e_seqK_l {l : List D} : seqK (.lst l) = some l := rfl
theorem e_seqK_t {l : List D} : seqK (.tup l) = some l := rfl
theorem e_seqK_d {ks : List Key} {vs : List D} : seqK (.dK ks vs) = some (ks.map kD) := rfl
theorem e_seqK_f {ks : List Key} {vs : List D} : seqK (.fK ks vs) = some (ks.map kD) := rfl
/-! sorted of a dict's keys, all ints -/
end
end DL

set_option maxRecDepth 100000
set_option maxHeartbeats 2000000
namespace DL
open PySem PySem.Spec L2 PyProof.Rows
section
variable {X : Cx}
end
/-! the truth of a list by name -/
theorem bv_truV {K : PySem.W.Frag} {W : WX} {ρ : Rho} {PB : Bool → Prop} {XX : Exn → Prop} {i : Nat} {ds : List D} (h : ρ[i]? = some (.own ds)) (p : PB (!ds.isEmpty)) : BvP K W (tTru K (tVar i)) ρ PB XX := fun He0 He σ H0 H Q S x k => by
  obtain ⟨v, h1, h2, h3⟩ := S.sl i _ h (by intro z; cases z)
  obtain ⟨a, rfl, n0, ys, ha, rs⟩ := h2
  exact ⟨_, h1, !ds.isEmpty, .inl ⟨_, .inl (.inl ha), by rw [isEmpty_len rs.length]⟩, k _ H0 H p S (.refl S.sub)⟩
def rTruV (i : Nat) (ρ : Rho) : Re Bool := match gt ρ i with | .own l => .ok (!l.isEmpty) | .dat d => .of (truD d) | _ => .bad
theorem cTruV {K : PySem.W.Frag} {W : WX} {ad : Cls → Addr} (i : Nat) : CB K W ad (tTru K (tVar i)) (rTruV i) := fun ρ P X h => by
  unfold rTruV at h
  cases q : gt ρ i with
  | own l => rw [q] at h; exact bv_truV (gt_at q (by intro z; cases z)) h
  | dat d =>
    rw [q] at h
    refine cTru (ad := ad) (cVar i) ρ P X ?_
    unfold rTru rVar
    rw [q]
    exact h
  | _ => rw [q] at h; exact h.elim
end DL

set_option maxRecDepth 100000
set_option maxHeartbeats 2000000
/-! a loop over a list of one's own that is changed again behind the loop -/
namespace DL
open PySem PySem.Spec L2
section
variable {K : PySem.W.Frag} {W : WX} {g : TG} {tb : TS} {E : En}
end
end DL

set_option maxRecDepth 100000
set_option maxHeartbeats 2000000
/-! try with several except clauses, with and without a name -/
namespace DL
open PySem PySem.Spec L2 PyProof.Rows
/-- a clause: the name's slot, the class, the suite -/
abbrev Cl1 := Option Nat × Value × (Addr → Value → Option Addr → TS)
section
variable {X : Cx} {body : List Stmt} {h₀ : ExceptHandler} {hds : List ExceptHandler} {l : List Cl1} {pos : Pos} {tb : WX → TS} {Wout : WX}
end
/-! for the hand texts: a body that is done, a body that raises -/
end DL

set_option maxRecDepth 100000
set_option maxHeartbeats 2000000
/-! sorted() of any number of rows of ints (tuples), in a list or a tuple -/
namespace SrtR
open PySem PyProof.Rows SrtO
section
variable {prog : Program} {w : World} {A : Around} {E : Value → Shared → Prop} {s : Shared}
/-- a tuple of these ints in the heap -/
def IsTI (h : Heap) (v : Value) (ns : List Int) : Prop := ∃ a o xs n, v = .ref a ∧ h.get? a = some o ∧ o.cls = .type "tuple" ∧ o.data = .seq xs n ∧ IntsAre xs.toList ns
theorem IsTI.keeps {h h' : Heap} {v : Value} {ns : List Int} (x : IsTI h v ns) (k : ∀ b o, h.get? b = some o → o.cls = .type "tuple" → h'.get? b = some o) : IsTI h' v ns := by
  obtain ⟨a, o, xs, n, e, g, c, d, i⟩ := x
  exact ⟨a, o, xs, n, e, k _ _ g c, c, d, i⟩
end
end SrtR
namespace DL
open PySem PySem.Spec L2 PyProof.Rows
section
variable {K : PySem.W.Frag} {W : WX} {ad : Cls → Addr} {tas : TA} {es : Rho → Re (List D)}
end
/-! e.f, where the clause's class has the field -/
def rXfC (i : Nat) (a : Addr) (o : Option Addr) (f : Str) (C x : Cls) (ρ : Rho) : Re D := if x = C then rXf i a o f ρ else .bad
end DL

set_option maxRecDepth 100000
set_option maxHeartbeats 2000000
/-! repr of plain data (in the law's own def, where nothing is being shown); the law's call there; min of rows; xs.append(ys.pop(k)) -/
namespace DL
open PySem PySem.Spec L2 PyProof.Rows
/-- repr(x), x plain -/
def rReprD (K : PySem.W.Frag) : List V → Hp → VK → Prop := fun vs H Q => ∃ v d, vs = [v] ∧ Dp K H v d ∧ SeqAt.shaped d = true ∧ d.showable = true ∧ d.shown.length ≤ sizeLine ∧ Q (.str d.shown) H
theorem cr_reprD {X : Cx} (hg : X.A.guards = some []) (hu : X.A.units + 66 < cLine) : CallR X (.builtin "repr") (rReprD X.K) := by
  intro pins s σ H vs us Q I r h
  obtain ⟨v, d, rfl, hd, sd, sh, hz, q⟩ := h
  cases r with
  | cons r1 r2 =>
    cases r2
    rename_i u
    obtain ⟨as, rd⟩ := Dp.reads I d v u hd r1
    have h2 : PyData.canLay0 d = true ∧ d.depth ≤ 64 := by
      unfold SeqAt.shaped at sd
      rw [Bool.and_eq_true, decide_eq_true_eq] at sd
      exact sd
    have hsm := PyData.noDict_hsm (as := as) (PyData.hasDict_of_canLay d h2.1)
    cases rd with
    | none => exact PySem.P.repr_of_none ⟨.str _, H, I.tok _, ⟨_, rfl⟩, q⟩
    | bool b => exact PySem.P.repr_of_bool ⟨.str _, H, I.tok _, ⟨_, rfl⟩, q⟩
    | int i t =>
      have hi : i.natAbs.log2 < 1920 := of_decide_eq_true (by simpa only [PyData.showable] using sh)
      exact PySem.P.repr_of_int hi ⟨.str _, H, I.tok _, ⟨_, rfl⟩, q⟩
    | str x t => exact PySem.P.repr_of_str ⟨.str _, H, I.tok _, ⟨_, rfl⟩, q⟩ hz
    | list a1 a2 a3 a4 => exact repr_of_reads' (.list a1 a2 a3 a4) sh hsm hg (by have := h2.2; omega) (fun _ _ e => e) (fun h' t' tk hk => ⟨.str _, H, I.kept hk, ⟨_, rfl⟩, q⟩) hz
    | tuple a1 a2 a3 a4 => exact repr_of_reads' (.tuple a1 a2 a3 a4) sh hsm hg (by have := h2.2; omega) (fun _ _ e => e) (fun h' t' tk hk => ⟨.str _, H, I.kept hk, ⟨_, rfl⟩, q⟩) hz
    | dict => cases hd
open Classical in
noncomputable def bRepr : List D → Option D
  | [d] => if Sh d ∧ d.py.showable = true ∧ d.py.shown.length ≤ 1000000 then some (.str d.py.shown) else none
  | _ => none
theorem fRepr {K : PySem.W.Frag} : CF K (rReprD K) bRepr := fun x z P h p => by
  unfold bRepr at h
  split at h
  · rename_i d
    split at h
    · rename_i c
      obtain ⟨⟨n, hn, sh⟩, hs, hz⟩ := c
      cases h
      intro H0 H vs Q s r k
      cases r with
      | cons r1 r2 =>
        cases r2
        exact ⟨_, d.py, rfl, (r1.mono s).dp sh, sh.shaped hn, hs, small_sz hz, k _ _ H0 H p (.refl s) (.str _)⟩
    · cases h
  · cases h
/-! ### the law's call, where nothing is being shown -/
section
variable {P : Program} {w : World} {K : PySem.W.Frag} {mg : Str → Option Value} {base : Heap} {CX : CXT} {sp : Sp}
/-- a def of one parameter, called from the top -/
def TopRun (P : Program) (w : World) (K : PySem.W.Frag) (mg : Str → Option Value) (base : Heap) (CX : CXT) (f : Addr) (fd : FuncData) (x : Str) (sp : Sp) : Prop :=
  ∀ (s : Shared) (H : Hp) (u : Value) (v : V) (Q : VK) (E : XK), Env0 P w K mg base callerA [] s H → BindsTo s fd ⟨[u], []⟩ [(x, u)] → RelV v u → sp [v] H Q E →
    codeAny (model P w) callerA (.call (.ref f) ⟨[u], []⟩) (CR CX [] P w H s Q E) s
theorem topRun_of {name qual x : Str} {st : Stmt} {f : Addr} {fd : FuncData} {N : List Str} {k : Nat} (F : Fun K name qual st f fd) (S : FnScope N [x] (defScope st)) (hr : Room (k + 1) callerA)
    (hbody : ∀ (cdv : Value) (s : Shared) (H : Hp) (v : V) (Q : VK) (E : XK), Room k (callerA.deeper (envOfC qual (defScope st) s.heap.objs.size f cdv)) → (callerA.deeper (envOfC qual (defScope st) s.heap.objs.size f cdv)).guards = some [] → sp [v] H Q E →
      ∃ t, PSs (cxOf CX P w K mg base N qual (defScope st) f cdv callerA [] s H E) (defBody st) t ∧ t { nx := fun _ H' => Q .non H', rt := Q } (L2.start N [v]) H) :
    TopRun P w K mg base CX f fd x sp := fun s H u v Q E env hbind rel want => by
  obtain ⟨oc, od, kV, doc, pm, an, cdv, ct, osl, rfl, lk, code⟩ := F.ex
  have inK : K.In s.heap := env.mod.kin.keeps fun b o e => (env.bs b o e).1
  have noLim : s.heap.NoLimit := env.mod.nolimit.keeps fun b o e => (env.bs b o e).1
  refine codeAny_call_function hr.depth (inK _ _ lk) rfl S.co S.gen rfl (PySem.W.codeRec_of inK code) (hbind _ _ _ _ ?_)
  refine wpAny_newFunctionEnv_cells S.kind (fun y hy => ?_) fun env1 he s1 inCall => ?_
  · obtain rfl : y = (x, u) := List.mem_singleton.mp hy
    rcases S.par x (List.mem_singleton.mpr rfl) with q | q
    · exact .inl q
    · exact .inr ⟨q, PySem.W.cellsFrom_some _ _ _ (.inl q)⟩
  · subst he
    refine ⟨noLim.keeps inCall.toInCall.keep, codeAny_func ?_⟩
    obtain ⟨t, derived, holds⟩ := hbody cdv s H v Q E (hr.deeper _) rfl want
    have I : Inv (cxOf CX P w K mg base N qual (defScope st) f cdv callerA [] s H E) [] (L2.start N [v]) H s1 := inv_start S hr.hd env rfl (.cons rel .nil) inCall
    refine wpAny_mono (derived.run [] s1 (L2.start N [v]) H _ I holds) (fun flow s2 end_ => ?_) fun e s2 ex => ex
    have close : ∀ {σ2 : L2.St} {H2 : Hp} {v2 : V} {u2 : Value}, Inv (cxOf CX P w K mg base N qual (defScope st) f cdv callerA [] s H E) [] σ2 H2 s2 → RelV v2 u2 → Q v2 H2 → L2.CE [] P w H s Q u2 s2 :=
      fun {σ2 H2 v2 u2} J a b => ⟨v2, H2, J.os, J.bare, J.base, J.hok, a, b⟩
    cases flow with
    | ret u2 =>
      obtain ⟨v2, σ2, H2, J, a, b⟩ := end_
      exact close J a b
    | next =>
      obtain ⟨σ2, H2, J, b⟩ := end_
      exact close (v2 := V.non) (u2 := Value.none) J rfl b
    | brk =>
      obtain ⟨_, _, _, b⟩ := end_
      exact False.elim b
    | cont =>
      obtain ⟨_, _, _, b⟩ := end_
      exact False.elim b
/-- the law's def, by its mirror -/
theorem top_wsLaw {ad : Cls → Addr} {r : Rho → Os} {name qual x : Str} {st : Stmt} {f : Addr} {fd : FuncData} {N : List Str} {k : Nat} {junk : Rho} (F : Fun K name qual st f fd) (S : FnScope N [x] (defScope st)) (hr : Room (k + 1) callerA) (hj : junk = List.replicate (N.length - 1) .no)
    (hlaw : ∀ ns : List Int, ns.length ≤ 63 → mkM 1 junk r [.src ns] = .ok (.dat (.bl true)))
    (hbody : ∀ (cdv : Value) (s : Shared) (H : Hp) (E : XK), Room k (callerA.deeper (envOfC qual (defScope st) s.heap.objs.size f cdv)) → (callerA.deeper (envOfC qual (defScope st) s.heap.objs.size f cdv)).guards = some [] →
      ∃ t, PSs (cxOf (L2.CX P w) P w K mg base N qual (defScope st) f cdv callerA [] s H E) (defBody st) t ∧ CS K (WD E) ad t r) :
    TopRun P w K mg base (L2.CX P w) f fd x (spD K (fun ds => ∃ ns : List Int, ds = [.src ns] ∧ ns.length ≤ 63) (fun _ s => s = .dat (.bl true)) (fun _ _ => False)) :=
  topRun_of F S hr fun cdv s H v Q E rm gd want => by
    obtain ⟨ds, H0, sub, rel, ⟨ns, rfl, small⟩, kq, ke⟩ := want
    obtain ⟨t, derived, cert⟩ := hbody cdv s H E rm gd
    refine ⟨t, derived, ?_⟩
    have e := hlaw ns small
    have ws := (mkM_ws (N := N) (W := WD E) hj cert [.src ns] (by rw [e]; intro z; cases z)).imp (E' := { nx := fun _ => (fun _ => False) (Sl.dat .non), rt := fun s => s = .dat (.bl true), ex := fun _ _ => False })
      (fun ρ q => by rw [e] at q; cases q) (fun s q => by rw [e] at q; cases q; rfl) (fun ρ q => q) (fun ρ q => q) (fun y ρ q => by
        obtain ⟨x, q, _⟩ := q
        rw [e] at q; cases q)
    exact ws H0 H (L2.start N [v]) H0 H _ (start_ok sub rel) ⟨fun _ _ _ _ z => z.elim, fun s2 v2 G H2 q e2 r2 n2 => kq v2 s2 G H2 q e2 r2 n2, fun _ _ _ _ z => z.elim, fun _ _ _ _ z => z.elim, fun _ _ _ _ _ _ _ z => z.elim⟩
end
/-- the head's call of the law, from its run at the top -/
theorem top_call {P : Program} {w : World} {K : PySem.W.Frag} {mg mb : Str → Option Value} {CX : CXT} {fa a : Addr} {fd : FuncData} {x : Str} {sp : Sp} {s₁ : Shared} {vs : List Value} {ns : List Int}
    (inK : K.In s₁.heap) (nsM : s₁.heap.Ns mainGlobals mg) (nsB : s₁.heap.Ns builtinsNs mb) (boot : ∀ x : Str, x ≠ "__name__" → mb x = bootBuiltins x) (noLim : s₁.heap.NoLimit) (noGen : s₁.gens = #[])
    (obj : s₁.heap.get? a = some { cls := .type "list", data := .seq vs.toArray }) (areInts : IntsAre vs ns) (small : ns.length ≤ sizeLine)
    (run : ∀ base : Heap, K.In base → base.Ns mainGlobals mg → TopRun P w K mg base CX fa fd x sp) (hbind : ∀ (s : Shared) (u : Value), BindsTo s fd ⟨[u], []⟩ [(x, u)])
    (want : ∀ H : Hp, Only H → SqL K H a (ns.map V.int) → sp [.ref a] H (fun v _ => v = .bl true) fun _ _ _ => False)
    (noExc : ∀ H e s', CX [] H s₁ (fun _ _ _ => False) e s' → False) :
    codeAny (model P w) callerA (.call (.ref fa) ⟨[.ref a], []⟩) (fun r s' => r = .ok (.ret (.bool true)) ∧ OldK s₁.heap s'.heap ∧ s'.os = s₁.os ∧ AllBare s'.gens) s₁ := by
  have items := vals_ints areInts
  have count := areInts.length
  suffices core : ∃ H : Hp, Only H ∧ SqL K H a (ns.map V.int) ∧ HOk P w H s₁.heap ∧ (∀ b, H b ≠ none → b = a) ∧ (H a ≠ none → K.lookup a = none) by
    obtain ⟨H, only, sq, hok, onlyA, freeK⟩ := core
    have stays : ∀ {b : Addr} {o : Obj}, s₁.heap.get? b = some o → H b = none → (hidT s₁.heap H).get? b = some o := fun e n => hidT_get e n
    have dictFree : ∀ {b : Addr} {o : Obj} {es : Array DictEntry} {ep : Nat}, s₁.heap.get? b = some o → o.data = .dict es ep → H b = none := fun {b o es ep} e d => by
      refine Classical.byContradiction fun q => ?_
      obtain rfl := onlyA b q
      rw [obj] at e
      cases e
      exact Data.noConfusion (show Data.seq vs.toArray _ = Data.dict es ep from d)
    have spaces : ∀ {b : Addr} {m : Str → Option Value}, s₁.heap.Ns b m → (hidT s₁.heap H).Ns b m := fun ⟨o, es, ep, e, d, r⟩ => ⟨o, es, ep, stays e (dictFree e d), d, r⟩
    have inB : K.In (hidT s₁.heap H) := fun b o e => stays (inK b o e) (Classical.byContradiction fun q => by
      obtain rfl := onlyA b q
      rw [freeK q] at e
      cases e)
    have modB : Mod K mg (hidT s₁.heap H) := ⟨inB, spaces nsM, ⟨mb, spaces nsB, boot⟩, by obtain ⟨mc, h1, h2⟩ := noLim; exact ⟨mc, spaces h1, h2⟩⟩
    have env : Env0 P w K mg (hidT s₁.heap H) callerA [] s₁ H :=
      { frames := rfl, mod := modB, bs := fun b o e => of_hidT e, bsz := Nat.le_of_eq (hidT_size _ _), funs := trivial, frf := fun b hb => (List.not_mem_nil (show b ∈ ([] : List Addr) from hb)).elim, hok := hok, bare := .of_eq noGen }
    refine codeAny_mono (run _ inB (spaces nsM) s₁ H (.ref a) (.ref a) _ _ env (hbind s₁ (.ref a)) rfl (want H only sq)) fun r s' out => ?_
    match r, out with
    | .error e, out => exact (noExc H e s' out).elim
    | .ok .next, out => exact False.elim out
    | .ok .brk, out => exact False.elim out
    | .ok .cont, out => exact False.elim out
    | .ok (.ret u), ⟨v, H', os, bare, un, hok', rel, q⟩ =>
      obtain rfl : v = .bl true := q
      obtain rfl : u = Value.bool true := rel
      refine ⟨rfl, OldK.of_keep fun b o e => ?_, os, bare⟩
      rcases only b with z | ⟨ob, xs, z⟩
      · exact un.keep b o e z (fun m => (List.not_mem_nil (show b ∈ ([] : List Addr) from m)).elim) (by simp)
      · obtain ⟨e1, _⟩ := hok b _ z
        obtain ⟨e2, _⟩ := hok' b _ (un.frzs b ob _ z)
        rw [e] at e1
        cases e1
        exact e2
  cases own : K.lookup a with
  | some o =>
    have e := inK a o own
    rw [obj] at e
    cases e
    refine ⟨fun _ => none, fun _ => .inl rfl, .inr ⟨_, vs.toArray, _, own, rfl, rfl, rfl, by rw [List.size_toArray, count]; exact small, by simpa using items⟩, ?_, fun b z => absurd rfl z, fun z => absurd rfl z⟩
    intro b u z
    cases (show (none : Option HO) = some u from z)
  | none =>
    refine ⟨fun b => if b = a then some (.frz { cls := .type "list", data := .seq vs.toArray } (.lst (ns.map V.int))) else none, fun b => ?_, .inl (.inr ⟨{ cls := .type "list", data := .seq vs.toArray }, if_pos rfl⟩), ?_, fun b z => ?_, fun _ => rfl⟩
    · by_cases same : b = a
      · exact .inr ⟨_, _, if_pos same⟩
      · exact .inl (if_neg same)
    · intro b u z
      by_cases same : b = a
      · cases (if_pos same).symm.trans z
        subst same
        exact ⟨obj, by rw [List.length_map]; exact small, vs, _, items, obj⟩
      · cases (if_neg same).symm.trans z
    · exact Classical.byContradiction fun same => z (if_neg same)
theorem walkDG {l : PySem.W.OpenLaw} {x : Str} {q : Program} {loose : List Str} {XP : (Str → Option Value) → Heap → Prop} {YP : World → Heap → Prop} {d : DefRec} {K : Params → PySem.W.Frag} (hn : l.most = some 63) (hdf : d.params.defaults = [])
    (hY : ∀ (w : World) (h : Heap), YP w h → (K w.params).In h)
    (F : ∀ (w : World) (mg : Str → Option Value) (fa : Addr) (h : Heap), (K w.params).In h → h.Ns mainGlobals mg → mg d.name = some (.ref fa) →
      ∃ fd : FuncData, (∀ (s : Shared) (u : Value), BindsTo s fd ⟨[u], []⟩ [(x, u)]) ∧ ∀ base : Heap, (K w.params).In base → base.Ns mainGlobals mg →
        TopRun l.prog w (K w.params) mg base (L2.CX l.prog w) fa fd x (spD (K w.params) (fun ds => ∃ ns : List Int, ds = [.src ns] ∧ ns.length ≤ 63) (fun _ s => s = .dat (.bl true)) (fun _ _ => False))) :
    PySem.W.WalkO q loose XP YP l.row.toRowW d [] (fun f vs => PySem.call f vs) := by
  refine Att.attach_call hn hdf fun w s₀ s₁ mg mb fa o pm cd doc a vs ns G Y ho hd hcd hmg hobj hints hlen hg => ?_
  have inK := hY w _ Y
  obtain ⟨fd, hb, run⟩ := F w mg fa _ inK G.T.g hmg
  exact top_call inK G.T.g G.T.b G.T.builtins G.T.nolimit hg hobj hints (Nat.le_trans hlen (by decide)) run hb
    (fun H _ hS => ⟨[.src ns], H, .refl H, .cons (.src hS) .nil, ⟨ns, rfl, hlen⟩, fun v s H0' H' e _ r _ => by subst e; cases r; rfl, fun _ _ _ _ _ z => z.elim⟩)
    fun H e s' ⟨_, _, _, _, _, _, _, _, _, _, _, _, z⟩ => z
end DL

set_option maxRecDepth 100000
set_option maxHeartbeats 2000000
/-! min of a list of rows of ints; xs.append(ys.pop(k)) -/
namespace DL
open PySem PySem.Spec L2 PyProof.Rows
/-- the first of the least -/
def minR (x : List Int) (xs : List (List Int)) : List Int := xs.foldl (fun a y => if HT.lexLt y a then y else a) x
def bMinR : List D → Option D
  | [.lst l] => (asT l).bind fun rows => match rows with | [] => none | r :: rs => some (tI (minR r rs))
  | _ => none
theorem e_bMinR {r : List Int} {rs : List (List Int)} : bMinR [.lst ((r :: rs).map tI)] = some (tI (minR r rs)) := by
  show (asT ((r :: rs).map tI)).bind _ = _
  rw [asT_map]
  rfl
/-! xs.append(ys.pop(k)) -/
section
variable {K : PySem.W.Frag} {W : WX} {ρ : Rho} {E : En} {te : TE} {tas : TA} {ad : Cls → Addr} {es : Rho → Re (List D)}
def xAppPopAt (i j : Nat) (es : Rho → Re (List D)) (ρ : Rho) : Os := if i = j then .bad else (gt ρ i).ownL.os ρ fun ds => (gt ρ j).ownL.os ρ fun xs => (es ρ).os ρ fun m => match m with
  | [.int k] => if 0 ≤ k ∧ k < xs.length ∧ xs.length ≤ 1000000 ∧ ds.length < 1000000 then (match xs[k.toNat]? with | some d => .nx ((ρ.set j (.own (xs.eraseIdx k.toNat))).set i (.own (ds ++ [d]))) | none => .bad) else .bad
  | _ => .bad
end
/-! tuple(range(n)) -/
section
variable {K : PySem.W.Frag} {W : WX} {te : TE} {ad : Cls → Addr} {ea : Rho → Re D}
def rTupRg1 (a : Rho → Re D) (ρ : Rho) : Re D := (a ρ).bind fun x => match x with | .int n => if -(2 ^ 62) < n ∧ n ≤ 1000000 then .ok (.tup ((rg n).map D.int)) else .bad | _ => .bad
end
/-! [x] * n, as one's own -/
section
variable {K : PySem.W.Frag} {W : WX} {tas : TA} {tb : TE} {ad : Cls → Addr} {es : Rho → Re (List D)} {eb : Rho → Re D}
def rRep1 (a : Rho → Re (List D)) (b : Rho → Re D) (ρ : Rho) : Re Sl := (a ρ).bind fun l => match l with
  | [d] => (b ρ).bind fun y => (match y with | .int n => if 0 ≤ n ∧ n ≤ 1000000 then .ok (.own (List.replicate n.toNat d)) else .bad | _ => .bad)
  | _ => .bad
end
end DL

set_option maxRecDepth 100000
set_option maxHeartbeats 2000000
/-! repr of small data comes out -/
namespace DL
open PySem PySem.Spec L2 PyProof.Rows
/-- data of a shape, with small ints; w: how much stands in it -/
structure Sm (n w : Nat) (d : D) : Prop where
  sh : Shp n d
  a : d.py.showable = true
  b : d.py.leavesShort 13 = true
  c : d.py.weight ≤ w
theorem Shp.up : ∀ {d : D} {n : Nat}, Shp n d → Shp (n + 1) d
  | .non, _, _ => trivial
  | .bl _, _, _ => trivial
  | .int _, _, _ => trivial
  | .str _, 0, h => h
  | .str _, _ + 1, h => h
  | .lst l, n + 1, h => fun x hx => Shp.up (n := n) (h x hx)
  | .tup l, n + 1, h => fun x hx => Shp.up (n := n) (h x hx)
  | .lst _, 0, h => h.elim
  | .tup _, 0, h => h.elim
  | .dK _ _, 0, h => h.elim
  | .dK _ _, n + 1, h => h.elim
  | .dT _ _, 0, h => h.elim
  | .dT _ _, n + 1, h => h.elim
  | .src _, 0, h => h.elim
  | .src _, n + 1, h => h.elim
  | .fK _ _, 0, h => h.elim
  | .fK _ _, n + 1, h => h.elim
  | .fT _ _, 0, h => h.elim
  | .fT _ _, n + 1, h => h.elim
  | .ins _ _ _, 0, h => h.elim
  | .ins _ _ _, n + 1, h => h.elim
theorem Shp.le {d : D} {n m : Nat} (h : Shp n d) (hm : n ≤ m) : Shp m d := by
  induction hm with
  | refl => exact h
  | step _ ih => exact ih.up
theorem Sm.mono {d : D} {n w n' w' : Nat} (h : Sm n w d) (hn : n ≤ n') (hw : w ≤ w') : Sm n' w' d := ⟨h.sh.le hn, h.a, h.b, Nat.le_trans h.c hw⟩
theorem Sm.int {i : Int} (h : i.natAbs < 1000000000000) : Sm 0 40 (.int i) := by
  have l : i.natAbs.log2 < 40 := by
    by_cases e : i.natAbs = 0
    · rw [e]; decide
    · exact (Nat.log2_lt e).mpr (Nat.lt_trans h (by decide))
  refine ⟨trivial, ?_, ?_, ?_⟩
  · show decide (i.natAbs.log2 < 1920) = true
    exact decide_eq_true (by omega)
  · have := int_text_length_le10 (a := i) (k := 12) (by decide) (by simpa using h)
    have e : (PyData.shown (.int i)).length ≤ 13 := by
      show (Str.ofString (toString i)).length ≤ 13
      rw [PySem.ofString_length]
      exact this
    simp only [D.py, PyData.leavesShort]
    exact decide_eq_true e
  · show (if i == 0 then 0 else i.natAbs.log2 + 1) ≤ 40
    split <;> omega
theorem Sm.non : Sm 0 0 .non := ⟨trivial, rfl, rfl, Nat.le_refl _⟩
theorem Sm.all {n w : Nat} : ∀ {ds : List D}, (∀ d ∈ ds, Sm n w d) → PyData.showableAll (D.pys ds) = true ∧ PyData.leavesShortAll 13 (D.pys ds) = true ∧ PyData.weightAll (D.pys ds) ≤ ds.length * (w + 1)
  | [], _ => ⟨rfl, rfl, Nat.zero_le _⟩
  | d :: ds, h => by
    obtain ⟨h1, h2, h3⟩ := Sm.all (ds := ds) fun x hx => h x (List.mem_cons_of_mem _ hx)
    have hd := h d List.mem_cons_self
    refine ⟨?_, ?_, ?_⟩
    · simp only [D.pys, PyData.showableAll, hd.a, h1, Bool.and_self]
    · simp only [D.pys, PyData.leavesShortAll, hd.b, h2, Bool.and_self]
    · simp only [D.pys, PyData.weightAll, List.length_cons]
      have := hd.c
      rw [Nat.add_mul, Nat.one_mul]
      omega
theorem Sm.lst {n w : Nat} {ds : List D} (h : ∀ d ∈ ds, Sm n w d) : Sm (n + 1) (ds.length * (w + 1)) (.lst ds) := by
  obtain ⟨h1, h2, h3⟩ := Sm.all h
  exact ⟨fun d hd => (h d hd).sh, by simpa only [D.py, PyData.showable] using h1, by simpa only [D.py, PyData.leavesShort] using h2, by simpa only [D.py, PyData.weight] using h3⟩
theorem Sm.tup {n w : Nat} {ds : List D} (h : ∀ d ∈ ds, Sm n w d) : Sm (n + 1) (ds.length * (w + 1)) (.tup ds) := by
  obtain ⟨h1, h2, h3⟩ := Sm.all h
  exact ⟨fun d hd => (h d hd).sh, by simpa only [D.py, PyData.showable] using h1, by simpa only [D.py, PyData.leavesShort] using h2, by simpa only [D.py, PyData.weight] using h3⟩
theorem Sm.ints {l : List Int} (h : ∀ i ∈ l, i.natAbs < 1000000000000) : Sm 1 (l.length * 41) (.lst (l.map D.int)) := by
  have := Sm.lst (n := 0) (w := 40) (ds := l.map D.int) fun d hd => by
    obtain ⟨i, hi, rfl⟩ := List.mem_map.mp hd
    exact .int (h i hi)
  rwa [List.length_map] at this
theorem Sm.repr {n w : Nat} {d : D} (h : Sm n w d) (hn : n ≤ 64) (hw : w ≤ 60000) : bRepr [d] = some (.str d.py.shown) := by
  have hl := PyData.shown_le 13 (by decide) d.py h.b
  have := h.c
  unfold bRepr
  exact if_pos ⟨⟨n, hn, h.sh⟩, h.a, by omega⟩
end DL

set_option maxRecDepth 100000
set_option maxHeartbeats 2000000
/-! texts: join, split, str(), int(), f-strings, signs of a text, xs += ys -/
namespace DL
open PySem PySem.Spec L2 PyProof.Rows
section
variable {K : PySem.W.Frag} {W : WX} {ad : Cls → Addr} {ρ : Rho} {ta tb te : TE} {ea eb : Rho → Re D} {P : D → Prop} {X : Exn → Prop}
/-! a text's method -/
def rM1 (o : D → D → Option D) (a b : Rho → Re D) (ρ : Rho) : Re D := (a ρ).bind fun x => match x with | .str s => (b ρ).bind fun y => .of (o (.str s) y) | _ => .bad
def rM1O (o : D → D → Option (List D)) (a b : Rho → Re D) (ρ : Rho) : Re Sl := (a ρ).bind fun x => match x with | .str s => (b ρ).bind fun y => (Re.of (o (.str s) y)).bind fun l => .ok (.own l) | _ => .bad
def rM0 (o : D → Option D) (a : Rho → Re D) (ρ : Rho) : Re D := (a ρ).bind fun x => match x with | .str s => .of (o (.str s)) | _ => .bad
def rM0O (o : D → Option (List D)) (a : Rho → Re D) (ρ : Rho) : Re Sl := (a ρ).bind fun x => match x with | .str s => (Re.of (o (.str s))).bind fun l => .ok (.own l) | _ => .bad
theorem ev_m1 {r : V → List V → Hp → VK → Prop} (h : EvP K W ta ρ (fun x => ∃ s, x = .str s ∧ EvP K W tb ρ (fun y => OpD K (fun x y H Q => r x [y] H Q) (.str s) y P) X) X) : EvP K W (tM1 r ta tb) ρ P X := fun He0 He σ H0 H Q S x k => by
  refine h He0 He σ H0 H _ S x fun v d H1 H1' p S1 e1 r1 => ?_
  obtain ⟨s, rfl, p⟩ := p
  cases r1
  refine ⟨⟨s, rfl⟩, p He0 He σ H1 H1' _ S1 x fun u e H2 H2' p2 S2 e2 r2 => ?_⟩
  exact p2 H2 H2' (.str s) u Q S2.sub (.str s) r2 fun z w H3 H3' p3 e3 r3 => k z w H3 H3' p3 (S2.ext e3) (e1.trans (e2.trans e3)) r3
theorem cM1 {r : V → List V → Hp → VK → Prop} {o : D → D → Option D} (ho : C2 K (fun x y H Q => r x [y] H Q) o) (ha : CE K W ad ta ea) (hb : CE K W ad tb eb) : CE K W ad (tM1 r ta tb) (rM1 o ea eb) := fun ρ P X h =>
  ev_m1 (ha ρ _ X ((Re.post_bind h).imp fun x h2 => by
    cases x with
    | str s =>
      refine ⟨s, rfl, hb ρ _ X ((Re.post_bind h2).imp fun y h3 => ?_)⟩
      obtain ⟨z, e, p⟩ := Re.post_of h3
      exact ho _ y z P e p
    | _ => exact h2.elim))
/-! join -/
def rJoin (K : PySem.W.Frag) : V → List V → Hp → VK → Prop := fun x xs H Q => ∃ a p, ∃ ys : List Str, x = .str a ∧ xs = [.ref p] ∧ (SqL K H p (ys.map V.str) ∨ SqT K H p (ys.map V.str)) ∧
      (ys.map (·.length)).sum + ys.length * a.length ≤ 16777216 ∧ Q (.str (Txt.join a ys)) H
theorem pe_joinD {X : Cx} {o e : Expr} {to te : TE} {apos pos : Pos} (ho : PE X o to) (he : PE X e te) (hs : starEach [e] X.env = [(false, eval e X.env)] := by rfl) (hbase : attributeBase o "join" X.env (eval o X.env) = eval o X.env := by rfl) (hline : (apos.endLine == pos.line) = true := by rfl) :
    PE X (.Call (.Attribute o "join" apos) [e] [] pos) (tM1 (rJoin X.K) to te) := pe_join ho he hs hbase hline
def oJoin : D → D → Option D
  | .str a, y => (seqD y).bind fun l => (asS l).bind fun ys => if (ys.map (·.length)).sum + ys.length * a.length ≤ 1000000 then some (.str (Txt.join a ys)) else none
  | _, _ => none
theorem pJoin : C2 K (fun x y H Q => rJoin K x [y] H Q) oJoin := fun x y z P h p => by
  cases x with
  | str a =>
    cases e1 : seqD y with
    | none => simp [oJoin, e1] at h
    | some l =>
      cases e2 : asS l with
      | none => simp [oJoin, e1, e2] at h
      | some ys =>
        simp only [oJoin, e1, e2, Option.bind_some] at h
        split at h
        · rename_i c
          cases h
          obtain rfl := asS_is e2
          intro H0 H v u Q s rv ru k
          cases rv
          rcases seqD_is e1 with rfl | rfl
          · cases ru with
            | lst ha rs =>
              cases Rps.strs rs
              exact ⟨a, _, ys, rfl, rfl, .inl (.inl (.inl (s _ _ ha))), by omega, k _ _ H0 H p (.refl s) (.str _)⟩
          · cases ru with
            | tup ha rs =>
              cases Rps.strs rs
              exact ⟨a, _, ys, rfl, rfl, .inr (.inl (.inl (s _ _ ha))), by omega, k _ _ H0 H p (.refl s) (.str _)⟩
        · cases h
  | _ => cases h
/-! str(x) -/
def bStrA : List D → Option D
  | [.int i] => if i.natAbs.log2 < 1920 then some (.str (toString i)) else none
  | [.str a] => some (.str a)
  | _ => none
/-! int(text) -/
def bIntS : List D → Option D
  | [.str a] => if a.length ≤ 640 then (PySem.intText? a).map D.int else none
  | _ => none
/-! f-strings -/
def rFmtD : V → Hp → VK → Prop := fun x H Q => (∃ y : Str, x = .str y ∧ y.length ≤ sizeLine ∧ Q (.str y) H) ∨ ∃ i : Int, x = .int i ∧ i.natAbs.log2 < 1920 ∧ Q (.str (toString i)) H
theorem pe_fmtD {X : Cx} {e : Expr} {te : TE} {pos : Pos} (he : PE X e te) : PE X (.FormattedValue e (-1) none pos) (tUn rFmtD te) := pe_fmt he
def oFmt : D → Option D
  | .str y => if y.length ≤ 1000000 then some (.str y) else none
  | .int i => if i.natAbs.log2 < 1920 then some (.str (toString i)) else none
  | _ => none
theorem pFmt : C1 K rFmtD oFmt := fun x z P h p => by
  unfold oFmt at h
  split at h
  · split at h
    · rename_i y c
      cases h
      intro H0 H v Q s r k
      cases r
      exact .inl ⟨y, rfl, small_sz c, k _ _ H0 H p (.refl s) (.str _)⟩
    · cases h
  · split at h
    · rename_i i c
      cases h
      intro H0 H v Q s r k
      cases r
      exact .inr ⟨i, rfl, c, k _ _ H0 H p (.refl s) (.str _)⟩
    · cases h
  · cases h
def tFs (ts : List TE) : TE := fun σ H Q => tJs ts Str.empty σ H fun out H1 => Q (.str out) H1
theorem pe_fs {X : Cx} {v1 v2 : Expr} {rest : List Expr} {ts : List TE} {pos : Pos} (h : PJ X (v1 :: v2 :: rest) ts) : PE X (.JoinedStr (v1 :: v2 :: rest) pos) (tFs ts) := pe_joined h
def rJs : List (Rho → Re D) → Str → Rho → Re Str
  | [], acc, _ => .ok acc
  | e :: es, acc, ρ => (e ρ).bind fun x => match x with | .str y => if (acc ++ y).length ≤ 1000000 then rJs es (acc ++ y) ρ else .bad | _ => .bad
def rFs (es : List (Rho → Re D)) (ρ : Rho) : Re D := (rJs es Str.empty ρ).bind fun s => .ok (.str s)
inductive CJ (K : PySem.W.Frag) (W : WX) (ad : Cls → Addr) : List TE → List (Rho → Re D) → Prop
  | nil : CJ K W ad [] []
  | cons {t : TE} {e : Rho → Re D} {ts : List TE} {es : List (Rho → Re D)} : CE K W ad t e → CJ K W ad ts es → CJ K W ad (t :: ts) (e :: es)
theorem js_run {ts : List TE} {es : List (Rho → Re D)} (c : CJ K W ad ts es) : ∀ (acc : Str) (P : Str → Prop), (rJs es acc ρ).post ad P X → ∀ (He0 He : Hp) (σ : L2.St) (H0 H : Hp) (Q : Str → Hp → Prop), StOk K He0 He σ H0 H ρ → Exs K He0 He W σ ρ X →
    (∀ out H0' H', P out → StOk K He0 He σ H0' H' ρ → Ext H0 H H0' H' → Q out H') → tJs ts acc σ H Q := by
  induction c with
  | nil => exact fun acc P h He0 He σ H0 H Q S x k => k acc H0 H h S (.refl S.sub)
  | @cons t e ts es ce c ih =>
    intro acc P h He0 He σ H0 H Q S x k
    refine ce ρ _ X (Re.post_bind h) He0 He σ H0 H _ S x fun v d H1 H1' p S1 e1 r1 => ?_
    cases d with
    | str y =>
      cases r1
      by_cases cc : (acc ++ y).length ≤ 1000000
      · replace p : (if (acc ++ y).length ≤ 1000000 then rJs es (acc ++ y) ρ else .bad).post ad P X := p
        rw [if_pos cc] at p
        exact ⟨y, rfl, small_sz cc, ih (acc ++ y) P p He0 He σ H1 H1' Q S1 x fun out H2 H2' p2 S2 e2 => k out H2 H2' p2 S2 (e1.trans e2)⟩
      · replace p : (if (acc ++ y).length ≤ 1000000 then rJs es (acc ++ y) ρ else .bad).post ad P X := p
        rw [if_neg cc] at p
        exact p.elim
    | _ => exact p.elim
theorem cFs {ts : List TE} {es : List (Rho → Re D)} (c : CJ K W ad ts es) : CE K W ad (tFs ts) (rFs es) := fun ρ P X h He0 He σ H0 H Q S x k =>
  js_run c Str.empty _ (Re.post_bind h) He0 He σ H0 H _ S x fun out H1 H1' p S1 e1 => k _ _ H1 H1' p S1 e1 (.str out)
/-! signs of a text -/
def rInC : R2 := fun x y H Q => ∃ (c : Nat) (z : Str), x = .str ⟨#[c]⟩ ∧ y = .str z ∧ Q (.bl (decide (c ∈ z.cps.toList))) H
def rNotInC : R2 := fun x y H Q => ∃ (c : Nat) (z : Str), x = .str ⟨#[c]⟩ ∧ y = .str z ∧ Q (.bl (!decide (c ∈ z.cps.toList))) H
theorem op_inC {X : Cx} : OpR X (compareOp .In) rInC := op_in_sign
theorem op_notInC {X : Cx} : OpR X (compareOp .NotIn) rNotInC := op_notIn_sign
def oInC : D → D → Option D | .str a, .str z => (match a.cps.toList with | [c] => some (.bl (decide (c ∈ z.cps.toList))) | _ => none) | _, _ => none
def oNotInC : D → D → Option D | .str a, .str z => (match a.cps.toList with | [c] => some (.bl (!decide (c ∈ z.cps.toList))) | _ => none) | _, _ => none
theorem one_sign {a : Str} {c : Nat} (h : a.cps.toList = [c]) : a = ⟨#[c]⟩ := by
  cases a with
  | mk cps =>
    have : cps = #[c] := by
      rw [← Array.toList_inj]
      exact h
    rw [this]
theorem pInC : C2 K rInC oInC := fun x y z P h p => by
  unfold oInC at h
  split at h
  · rename_i a w
    split at h
    · rename_i c hc
      cases h
      intro H0 H v u Q s rv ru k
      cases rv
      cases ru
      exact ⟨c, w, by rw [one_sign hc], rfl, k _ _ H0 H p (.refl s) (.bl _)⟩
    · cases h
  · cases h
theorem pNotInC : C2 K rNotInC oNotInC := fun x y z P h p => by
  unfold oNotInC at h
  split at h
  · rename_i a w
    split at h
    · rename_i c hc
      cases h
      intro H0 H v u Q s rv ru k
      cases rv
      cases ru
      exact ⟨c, w, by rw [one_sign hc], rfl, k _ _ H0 H p (.refl s) (.bl _)⟩
    · cases h
  · cases h
/-! a loop over the signs -/
def sgs (x : Str) : List D := x.cps.toList.map fun c => D.str ⟨#[c]⟩
def rIStr (a : Rho → Re D) (ρ : Rho) : Re (List D) := (a ρ).bind fun x => match x with | .str s => .ok (sgs s) | _ => .bad
theorem itd_str {H0 : Hp} (x : Str) : ItD K H0 (Its x) (sgs x) where
  go := fun i H hi s => by
    show i < x.cps.size
    simpa [sgs] using hi
  stop := fun H s => by
    show x.cps.size ≤ (sgs x).length
    simp [sgs]
  yld := fun i H v H' G hi s s' hy => by
    obtain ⟨rfl, c, hc, rfl⟩ := hy
    refine ⟨G, .str ⟨#[c]⟩, .refl s', ?_, .str _⟩
    unfold sgs
    rw [List.getElem?_map, Array.getElem?_toList, hc]
    rfl
theorem wIStr (ha : CE K W ad te ea) : CI K W ad (iStr te) (rIStr ea) := fun ρ P X h He0 He σ H0 H R S x k => by
  refine ha ρ _ X (Re.post_bind h) He0 He σ H0 H _ S x fun v d H1 H1' p S1 e1 r1 => ?_
  cases d with
  | str y =>
    cases r1
    exact ⟨y, rfl, k _ _ H1 H1' p S1 e1 (itd_str y)⟩
  | _ => exact p.elim
/-! split -/
def oSplit : D → D → Option (List D) | .str a, .str b => if (b.length == 0) = false ∧ a.length ≤ 1000000 then some ((Txt.split a b).map D.str) else none | _, _ => none
def oWords : D → Option (List D) | .str a => if a.length ≤ 1000000 then some ((Txt.words a).map D.str) else none | _ => none
/-! xs += ys -/
theorem ws_augL {i : Nat} {ds : List D} {E : En} (h : ρ[i]? = some (.own ds)) (w : EvP K W te ρ (fun y => ∃ es, y = .lst es ∧ ds.length + es.length ≤ sizeLine ∧ E.nx (ρ.set i (.own (ds ++ es)))) (fun x => E.ex x ρ)) :
    WS K W (tAug i te rExt2) ρ E := fun He0 He σ H0 H D S e => by
  obtain ⟨v, h1, h2, h3⟩ := S.sl i _ h (by intro z; cases z)
  obtain ⟨a, rfl, n0, ys, ha, rs⟩ := h2
  refine ⟨_, h1, w He0 He σ H0 H _ S (e.exs σ ρ) fun u y H1 H1' p S1 e1 r1 => ?_⟩
  obtain ⟨es, rfl, hz, p⟩ := p
  cases r1 with
  | lst hb rb =>
    rename_i b zs
    have ha1 := e1.s _ _ ha
    have rs1 := rs.mono e1.s0
    refine ⟨a, b, ys, zs, rfl, rfl, ha1, S1.sub _ _ hb, by rw [rs.length, rb.length]; exact hz, ?_⟩
    have eσ : σ.set i (some (.ref a)) = σ := by
      refine List.ext_getElem? fun j => ?_
      by_cases c : j = i
      · subst c
        rw [List.getElem?_set_self (List.getElem?_eq_some_iff.mp h1).1, h1]
      · rw [List.getElem?_set_ne (Ne.symm c)]
    show D.nx (σ.set i (some (.ref a))) _
    rw [eσ]
    exact e.nx _ σ H1 _ p (S1.writeAt h rfl rfl h1 ⟨_, upd_same, rs1.append rb⟩)
def xAugL (i : Nat) (a : Rho → Re D) : Rho → Os := xExtend i a
theorem cAugL (i : Nat) (ha : CE K W ad te ea) : CS K W ad (tAug i te rExt2) (xAugL i ea) := fun ρ E h => by
  obtain ⟨l, h1, h2⟩ := ownL_post (Re.os_post h)
  refine ws_augL h1 (ha ρ _ _ ((Re.os_post h2).imp fun y q => ?_))
  split at q
  · rename_i es
    by_cases c : l.length + es.length ≤ 1000000
    · rw [if_pos c] at q; exact ⟨es, rfl, Nat.le_of_lt (small_lt c), q⟩
    · rw [if_neg c] at q; exact q.elim
  · exact q.elim
end
/-! for simp -/
/-- the text of an int -/
def txI (i : Int) : Str := Str.ofString (toString i)
theorem e_oJoin_l {a : Str} {l : List D} : oJoin (.str a) (.lst l) = (asS l).bind fun ys => if (ys.map (·.length)).sum + ys.length * a.length ≤ 1000000 then some (.str (Txt.join a ys)) else none := rfl
theorem e_oJoin_t {a : Str} {l : List D} : oJoin (.str a) (.tup l) = (asS l).bind fun ys => if (ys.map (·.length)).sum + ys.length * a.length ≤ 1000000 then some (.str (Txt.join a ys)) else none := rfl
theorem e_bStrA_i {i : Int} : bStrA [.int i] = if i.natAbs.log2 < 1920 then some (.str (txI i)) else none := rfl
theorem e_bStrA_s {a : Str} : bStrA [.str a] = some (.str a) := rfl
theorem e_oFmt_i {i : Int} : oFmt (.int i) = if i.natAbs.log2 < 1920 then some (.str (txI i)) else none := rfl
theorem e_oFmt_s {a : Str} : oFmt (.str a) = if a.length ≤ 1000000 then some (.str a) else none := rfl
theorem e_oSplit {a b : Str} : oSplit (.str a) (.str b) = if (b.length == 0) = false ∧ a.length ≤ 1000000 then some ((Txt.split a b).map D.str) else none := rfl
theorem e_oWords {a : Str} : oWords (.str a) = if a.length ≤ 1000000 then some ((Txt.words a).map D.str) else none := rfl
theorem e_bIntS {a : Str} : bIntS [.str a] = if a.length ≤ 640 then (PySem.intText? a).map D.int else none := rfl
theorem str_eq {a b : Str} (h : a.cps.toList = b.cps.toList) : a = b := by
  cases a; cases b
  simp only [Array.toList_inj] at h
  rw [h]
theorem app_list (a b : Str) : (a ++ b).cps.toList = a.cps.toList ++ b.cps.toList := by
  show (a.cps ++ b.cps).toList = _
  rw [Array.toList_append]
theorem emp_app (a : Str) : Str.empty ++ a = a := str_eq (by rw [app_list]; rfl)
theorem app_len (a b : Str) : (a ++ b).length = a.length + b.length := Str.length_append a b
theorem join_cons (s x y : Str) (l : List Str) : Txt.join s (x :: y :: l) = x ++ s ++ Txt.join s (y :: l) := by
  rw [TL.join_eq, TL.join_eq]
  rfl
theorem join_one (s x : Str) : Txt.join s [x] = x := by
  rw [TL.join_eq]
  rfl
end DL

set_option maxRecDepth 100000
set_option maxHeartbeats 2000000
/-! in of any data, < of (int, text), slices of texts -/
namespace DL
open PySem PySem.Spec L2 PyProof.Rows
section
variable {K : PySem.W.Frag} {W : WX} {ad : Cls → Addr} {ρ : Rho} {P : D → Prop} {X : Exn → Prop}
/-! (len, text) < (len, text) -/
def ltIS (a : Int) (s : Str) (b : Int) (t : Str) : Bool := if a = b then decide (s.cps.toList < t.cps.toList) else decide (a < b)
/-! slices of a text -/
def oSlS : D → Option Int → Option Int → Option D
  | .str z, lo, hi => if z.length ≤ 1000000 then some (.str (cutS z lo hi)) else none
  | _, _, _ => none
theorem sSlS : CSl K rSlS oSlS := fun x lo hi z P e p => by
  unfold oSlS at e
  split at e
  · split at e
    · rename_i w c
      cases e
      intro H0 H v Q s a k
      cases a
      exact ⟨_, rfl, small_sz c, k _ _ H0 H p (.refl s) (.str _)⟩
    · cases e
  · cases e
end
theorem e_oSlS {z : Str} {lo hi : Option Int} : oSlS (.str z) lo hi = if z.length ≤ 1000000 then some (.str (cutS z lo hi)) else none := rfl
theorem e_inC {c : Nat} {z : Str} : oInC (.str ⟨#[c]⟩) (.str z) = some (.bl (decide (c ∈ z.cps.toList))) := rfl
theorem e_notInC {c : Nat} {z : Str} : oNotInC (.str ⟨#[c]⟩) (.str z) = some (.bl (!decide (c ∈ z.cps.toList))) := rfl
theorem e_ixS {s : Str} {i : Int} : oIx (.str s) (.int i) = if s.length ≤ 1000000 then (atI s.cps.toList i).map fun c => .str ⟨#[c]⟩ else none := rfl
theorem strOk_of {s : Str} (h : ∀ c ∈ s.cps.toList, c < 256) : PyData.strOk s = true := by
  unfold PyData.strOk
  rw [Array.all_eq_true_iff_forall_mem]
  intro c hc
  exact decide_eq_true (Nat.lt_trans (h c (Array.mem_toList_iff.mpr hc)) (by decide))
theorem Sm.str {s : Str} {n : Nat} (h : ∀ c ∈ s.cps.toList, c < 256) (hl : s.length ≤ n) : Sm 0 n (.str s) := by
  refine ⟨strOk_of h, ?_, ?_, ?_⟩
  · first | rfl | simp [D.py, PyData.showable]
  · show (s.cps.toList.all fun c => decide (c < 16 ^ 8)) = true
    exact List.all_eq_true.mpr fun c hc => decide_eq_true (Nat.lt_trans (h c hc) (by decide))
  · show PyData.weight (.str s) ≤ n
    first | exact hl | (simp only [PyData.weight]; omega)
end DL

set_option maxRecDepth 100000
set_option maxHeartbeats 2000000
/-! sorted(d) of texts; {k: v}; d != e -/
namespace DL
open PySem PySem.Spec L2 PyProof.Rows
section
variable {K : PySem.W.Frag} {W : WX} {ad : Cls → Addr} {ρ : Rho} {ta tb te tk tv : TE} {ea eb ek ev : Rho → Re D} {tas : TA} {es : Rho → Re (List D)} {P : D → Prop} {X : Exn → Prop}
/-! texts in order -/
def leS (a b : Str) : Bool := !decide (b.cps.toList < a.cps.toList)
def srtS (l : List Str) : List Str := l.mergeSort leS
theorem srtS_perm (l : List Str) : (srtS l).Perm l := List.mergeSort_perm _ _
theorem leS_trans (a b c : Str) (h1 : leS a b = true) (h2 : leS b c = true) : leS a c = true := by
  unfold leS at *
  simp only [Bool.not_eq_true', decide_eq_false_iff_not, List.not_lt] at *
  exact List.le_trans h1 h2
theorem leS_total (a b : Str) : (leS a b || leS b a) = true := by
  unfold leS
  simp only [Bool.or_eq_true, Bool.not_eq_true', decide_eq_false_iff_not, List.not_lt]
  exact List.le_total _ _
theorem srtS_up (l : List Str) : (srtS l).Pairwise fun a b => leS a b = true := List.pairwise_mergeSort leS_trans leS_total l
theorem leS_anti {a b : Str} (h1 : leS a b = true) (h2 : leS b a = true) : a = b := by
  unfold leS at *
  simp only [Bool.not_eq_true', decide_eq_false_iff_not, List.not_lt] at *
  exact str_eq (List.le_antisymm h1 h2)
theorem rising_up : ∀ {l : List Str} {x : Str}, risingS x l = true → (x :: l).Pairwise fun a b => leS a b = true
  | [], x, _ => List.pairwise_singleton _ _
  | y :: l, x, h => by
    have h' : (!ltCps y.cps.toList x.cps.toList && risingS y l) = true := h
    rw [Bool.and_eq_true] at h'
    have ih := rising_up h'.2
    have xy : leS x y = true := by
      have := h'.1
      rw [ltCps_eq] at this
      exact this
    refine List.pairwise_cons.mpr ⟨fun z hz => ?_, ih⟩
    rcases List.mem_cons.mp hz with rfl | hz
    · exact xy
    · exact leS_trans _ _ _ xy (List.rel_of_pairwise_cons ih hz)
theorem sortedS_up : ∀ {l : List Str}, sortedS l = true → l.Pairwise fun a b => leS a b = true
  | [], _ => .nil
  | _ :: _, h => rising_up h
/-! sorted(d) -/
def asKS : List Key → Option (List Str)
  | [] => some []
  | .inr s :: r => (asKS r).map (s :: ·)
  | .inl _ :: _ => none
theorem asKS_is : ∀ {l : List Key} {is : List Str}, asKS l = some is → l = is.map Sum.inr
  | [], is, h => by cases h; rfl
  | .inl i :: r, is, h => by cases h
  | .inr i :: r, is, h => by
    cases e : asKS r with
    | none => simp [asKS, e] at h
    | some js => simp [asKS, e] at h; subst h; rw [asKS_is e]; rfl
theorem asKS_map : ∀ l : List Str, asKS (l.map Sum.inr) = some l
  | [] => rfl
  | i :: l => by simp [asKS, asKS_map l]
def bSortKS : List D → Option D
  | [.dK ks _] => (asKS ks).bind fun is => if is.length < 64 then some (.lst ((srtS is).map D.str)) else none
  | [.fK ks _] => (asKS ks).bind fun is => if is.length < 64 then some (.lst ((srtS is).map D.str)) else none
  | _ => none
def rSortKS : List V → Hp → VK → Prop := fun xs H Q => ∃ (a : Addr) (kvs : List (Key × V)) (ks : List Str), xs = [.ref a] ∧ Rd H a (.dK kvs) ∧ kvs.map (·.1) = ks.map Sum.inr ∧ ks.length < 64 ∧
    ∀ (ys : List Str) (p : Addr), ys.Perm ks → sortedS ys = true → H p = none → Q (.ref p) (upd H p (.lst (ys.map V.str)))
theorem cr_sortKS {X : Cx} (hc : X.calm = true) : CallR X (.builtin "sorted") rSortKS := call_sortedD hc
theorem cSortKS (ha : CA K W ad tas es) : CO K W ad (tCB rSortKS tas) (sortedO bSortKS es) := fun ρ P X h => by
  intro He0 He σ H0 H Q S x k
  refine ha ρ (fun ds => ∃ (ks : List Key) (vs : List D) (is : List Str), (ds = [.dK ks vs] ∨ ds = [.fK ks vs]) ∧ asKS ks = some is ∧ is.length < 64 ∧ P (.own ((srtS is).map D.str))) X ((Re.post_bind h).imp fun ds h2 => ?_) He0 He σ H0 H _ S x fun us ds H1 H1' p S1 e1 r1 => ?_
  · obtain ⟨z, ez, hz⟩ := Re.post_of (Re.post_bind h2)
    unfold bSortKS at ez
    split at ez
    · rename_i ks vs
      cases e : asKS ks with
      | none => rw [e] at ez; cases ez
      | some is =>
        rw [e] at ez
        replace ez : (if is.length < 64 then some (D.lst ((srtS is).map D.str)) else none) = some z := ez
        split at ez
        · cases ez; exact ⟨ks, vs, is, .inl rfl, e, by assumption, hz⟩
        · cases ez
    · rename_i ks vs
      cases e : asKS ks with
      | none => rw [e] at ez; cases ez
      | some is =>
        rw [e] at ez
        replace ez : (if is.length < 64 then some (D.lst ((srtS is).map D.str)) else none) = some z := ez
        split at ez
        · cases ez; exact ⟨ks, vs, is, .inr rfl, e, by assumption, hz⟩
        · cases ez
    · cases ez
  · obtain ⟨ks, vs, is, hds, hk, h64, p⟩ := p
    have go : ∀ (a : Addr) (kvs : List (Key × V)), kvs.map (·.1) = ks → Rd H1' a (.dK kvs) → rSortKS [.ref a] H1' Q := by
      intro a kvs e1' hr
      refine ⟨a, kvs, is, rfl, hr, by rw [e1', asKS_is hk], h64, fun ys q pm up nq => ?_⟩
      have ey : ys = srtS is := (pm.trans (srtS_perm is).symm).eq_of_pairwise (fun x y _ _ hx hy => leS_anti hx hy) (sortedS_up up) (srtS_up is)
      subst ey
      have e2 : Ext H1 H1' H1 (upd H1' q (.lst ((srtS is).map V.str))) := .own S1.sub nq
      refine k _ _ _ _ p (S1.ext e2) (e1.trans e2) ⟨q, rfl, S1.sub.free nq, _, upd_same, Rps.of_strs _⟩ fun _ b e => ?_
      cases e
      exact e1.s.free nq
    rcases hds with rfl | rfl
    · cases r1 with
      | cons q1 q2 =>
        cases q2
        cases q1 with
        | @dK a kvs vs hb r =>
          refine go a kvs rfl ?_
          rcases hb with e | ⟨y, e⟩
          · exact .inl (S1.sub _ _ e)
          · exact .inr ⟨y, S1.sub _ _ e⟩
    · cases r1 with
      | cons q1 q2 =>
        cases q2
        cases q1 with
        | @fK a o kvs vs hb r => exact go a kvs rfl (.inr ⟨o, S1.sub _ _ hb⟩)
/-! {k: v} -/
def rDisp1 (ek ev : Rho → Re D) (ρ : Rho) : Re Sl := (ek ρ).bind fun y => (ev ρ).bind fun z => (Re.of (keyK y)).bind fun k => .ok (.oK [k] [z])
/-! d != e, the same -/
theorem valV_mem : ∀ {kvs : List (Key × V)}, (kvs.map (·.1)).Nodup → ∀ p ∈ kvs, valV kvs p.1 = some p.2
  | [], _, p, h => by cases h
  | q :: kvs, hn, p, h => by
    obtain ⟨h1, h2⟩ := List.nodup_cons.mp hn
    unfold valV
    rcases List.mem_cons.mp h with rfl | h
    · rw [List.find?_cons_of_pos (by simp)]; rfl
    · rw [List.find?_cons_of_neg (by
        simp only [decide_eq_true_eq]
        intro e
        have : p.1 ∈ kvs.map (·.1) := List.mem_map_of_mem h
        rw [← e] at this
        exact h1 this)]
      exact valV_mem h2 p h
end
theorem e_bSortKS_d {ks : List Key} {vs : List D} : bSortKS [.dK ks vs] = (asKS ks).bind fun is => if is.length < 64 then some (.lst ((srtS is).map D.str)) else none := rfl
end DL

set_option maxRecDepth 100000
set_option maxHeartbeats 2000000
/-! a text times an int -/
namespace DL
open PySem PySem.Spec L2 PyProof.Rows
section
variable {K : PySem.W.Frag} {P : D → Prop}
end
/-! xs + ys of lists, as one's own -/
section
variable {K : PySem.W.Frag} {W : WX} {ta tb : TE} {ad : Cls → Addr} {ea eb : Rho → Re D}
end
end DL

set_option maxRecDepth 100000
set_option maxHeartbeats 2000000
/-! an answer's inner list that is changed, the answer not used behind it: x = f(n); if t: return ..; x[j].append(y) -/
namespace DL
open PySem PySem.Spec L2 PyProof.Rows
section
variable {K : PySem.W.Frag} {W : WX} {ad : Cls → Addr} {ρ : Rho} {E : En} {i : Nat} {m : List D → Re Sl} {tas : TA} {tt : TT} {tx tr : TS} {ti ty : TE} {rows : List D} {n : Int}
end
section
variable {K : PySem.W.Frag} {W : WX} {ad : Cls → Addr} {m : List D → Re Sl} {tas : TA} {tt : TT} {tx tr : TS} {ti ty : TE} {ea : Rho → Re (List D)} {et : Rho → Re Bool} {xx xr : Rho → Os} {ei ey : Rho → Re D}
end
end DL

set_option maxRecDepth 100000
set_option maxHeartbeats 3200000
/-! sorted(set(xs)), xs a list of texts -/
namespace DL
open PySem PySem.Spec L2 PyProof.Rows PySem.Froz
/-- the set can be walked in one way -/
def WkD (w : World) (D : SD) : Prop := L2.Ris D.2.2.place.toList ∧ (w.params.followText "set-order" = true ∨ D.2.2.led = true)
theorem tail_wk {w : World} {ep : Nat} {es : Array (Int × Value)} {t : SetTable} {b : Bool} (h : L2.Ris t.place.toList ∧ (w.params.followText "set-order" = true ∨ t.led = true)) : WkD w (tailTx ep es t b) := by
  unfold tailTx
  by_cases c : (!b && t.tooFull) = true
  · rw [if_pos c]
    exact ⟨L2.relayAll_ris t es _, h.2.imp id fun z => by show (relayAll t es _).2.1.led = true; rw [L2.relayAll_led]; exact z⟩
  · rw [if_neg c]
    exact h
theorem add_wk {w : World} {D : SD} {h : Int} {v : Value} (k : WkD w D) : WkD w (addTx h v D) := by
  obtain ⟨es, ep, t⟩ := D
  have r := L2.layNew_ris t es h v k.1
  have l : w.params.followText "set-order" = true ∨ (layNew t es h v).2.1.led = true := k.2.imp id fun z => by rw [L2.layNew_led]; exact z
  refine tail_wk ?_
  split
  · exact ⟨r, l⟩
  · exact ⟨r, l⟩
section
variable {P : Program} {w : World} {A : Around} {E : Value → Shared → Prop} {s : Shared}
/-- a text that is there already -/
theorem dup_x {a : Addr} {T : String} {D : SD} {l : List Str} {k : Str} {u : Tok} {Q : Bool → Shared → Prop} (ho : s.heap.get? a = some (sObj T D)) (F : TxOk P w D l) (hk : k ∈ l) (hb : l.length < scanBound)
    (h : Q false s) : wpAny (model P w) A (setAddHashed a (.str k u) (hashStr w k)) Q E s := by
  obtain ⟨es, ep, t⟩ := D
  obtain ⟨e, he, q⟩ := (F.mem k).mp hk
  have some_ : ∃ j, List.findIdx? (fun e => (strKind P w).is k e.2) es.toList = some j := by
    cases hr : List.findIdx? (fun e => (strKind P w).is k e.2) es.toList with
    | some j => exact ⟨j, rfl⟩
    | none =>
      have := List.findIdx?_eq_none_iff.mp hr e he
      rw [q] at this
      cases this
  obtain ⟨j, hj⟩ := some_
  unfold setAddHashed setAddHashedIn
  refine wpAny_holding (wpAny_bind (wpAny_setState_of (es := es) (ep := ep) (t := t) ho rfl F.fit ?_))
  dsimp only
  rw [byScan_of (knd := strKind P w) (x := .str k u) rfl (by have e : es.size = l.length := F.sz; show es.size < scanBound; omega) F.el]
  simp only [↓reduceIte]
  unfold setAddByScan
  refine wpAny_bind (wpAny_bind (wpAny_rule (wpAny_bind (wpAny_setScan_of (knd := strKind P w) (k := k) (is_str k u) ho rfl F.fit F.el ?_))))
  rw [hj]
  dsimp only
  exact wpAny_pure (wpAny_pure h)
end
section
variable {prog : Program} {w : World} {A : Around} {R : Result → Shared → Prop} {I : Addr} {fp wr : List Addr} {G : Array GenState → Array GenState → Prop} {n : Nat} {P : Nat → Value → Prop} {St : Nat → Shared → Prop}
/-- the set holds the first i of the texts -/
def Has (prog : Program) (w : World) (xs : List Str) (S : Addr) (i : Nat) (s : Shared) : Prop :=
  ∃ (D : SD) (l : List Str), s.heap.get? S = some (sObj "set" D) ∧ TxOk prog w D l ∧ WkD w D ∧ l.Nodup ∧ l.length ≤ i ∧ ∀ k, k ∈ l ↔ k ∈ xs.take i
theorem loopN (W : WalksS prog w A.in1 I fp wr G n P St) (S : Addr) (hSf : S ∉ fp) (xs : List Str) (hsz : xs.length = n) (hn : n < 4000)
    (hval : ∀ i v, P i v → ∃ t, v = .str (xs.getD i Str.empty) t) :
    ∀ (k i : Nat) (s : Shared), n - i = k → i ≤ n → St i s → Has prog w xs S i s →
      (∀ s', Moved (S :: wr) G s s' → Has prog w xs S n s' → R (.ok (.ret .none)) s') →
      codeAny (model prog w) A (.builtin "set.update.loop" ⟨[.ref S, .ref I], []⟩) R s := by
  have hSw : S ∉ wr := fun h => hSf (W.sub _ h)
  have hsub : ∀ b ∈ wr, b ∈ S :: wr := fun b hb => List.mem_cons_of_mem _ hb
  intro k
  induction k with
  | zero =>
    intro i s hk hi hst hS hR
    obtain rfl : i = n := by omega
    obtain ⟨D, l, g, r⟩ := hS
    refine codeAny_builtin PyProof.Rows.F.entry_set_update_loop ?_
    rw [Around.under_plainId PyProof.Rows.F.plain_set_update_loop _]
    refine wpAny_bind (W.done s _ _ hst fun s' hm => ?_)
    exact wpAny_pure (hR s' (hm.mono hsub) ⟨D, l, hm.heap S _ hSw g, r⟩)
  | succ k ih =>
    intro i s hk hi hst hS hR
    have hlt : i < n := by omega
    obtain ⟨D, l, g, F, wk, nd, ll, ml⟩ := hS
    refine codeAny_builtin PyProof.Rows.F.entry_set_update_loop ?_
    rw [Around.under_plainId PyProof.Rows.F.plain_set_update_loop _]
    refine wpAny_bind (W.item i s _ _ hlt hst fun v s' hP hst' hm => ?_)
    obtain ⟨t, rfl⟩ := hval i v hP
    have g' := hm.heap S _ hSw g
    obtain ⟨x, hx⟩ : ∃ x, x = xs.getD i Str.empty := ⟨_, rfl⟩
    have xi : xs[i]? = some x := by
      rw [hx, List.getD_eq_getElem?_getD, List.getElem?_eq_getElem (by omega)]
      rfl
    rw [← hx]
    have tk : ∀ k, k ∈ xs.take (i + 1) ↔ k ∈ xs.take i ∨ k = x := fun k => by
      rw [List.take_add_one, xi, List.mem_append]
      simp
    show wpAny _ A.in1 (holding [Value.str x t] (setAdd S (.str x t)) >>= _) _ _ s'
    refine wpAny_bind (wpAny_holding ?_)
    unfold setAdd
    refine wpAny_holding ?_
    refine wpAny_bind ((PySem.strKind prog w).pyHash (k := x) (strKind_is _ _ _ _) ?_)
    by_cases c : x ∈ l
    · refine dup_x (s := { s' with toks := s'.toks + 1 }) g' F c (by unfold scanBound; omega) ?_
      refine wpAny_pure ⟨plainId_quiet PyProof.Rows.F.plain_set_update_loop _, ih (i + 1) _ (by omega) hlt (W.frame _ s' _ _ hst' (Nat.le_succ _) fun b hb o e => e) ⟨D, l, g', F, wk, nd, by omega, fun k => ?_⟩ fun s'' hm'' hS'' => ?_⟩
      · rw [tk, ← ml]
        exact ⟨.inl, fun z => z.elim id fun e => e ▸ c⟩
      · exact hR s'' (Moved.trans W.gtrans ((hm.mono hsub).then_heap (Nat.le_succ _) fun b o hb e => e) hm'') hS''
    · refine add_x (s := { s' with toks := s'.toks + 1 }) g' F c (by unfold scanBound; omega) ?_
      have oth : ∀ b o, b ≠ S → s'.heap.get? b = some o → (s'.heap.update S (fun _ => sObj "set" (addTx (hashStr w x) (.str x t) D))).get? b = some o := fun b o hb e => (Heap.get?_update_other _ _ (Ne.symm hb)).trans e
      refine wpAny_pure ⟨plainId_quiet PyProof.Rows.F.plain_set_update_loop _, ih (i + 1) _ (by omega) hlt (W.frame _ s' _ _ hst' (Nat.le_succ _) fun b hb o e => oth b o (fun h => hSf (by rw [← h]; exact hb)) e)
        ⟨_, x :: l, get_upd _ g' rfl, add_ok t F, add_wk wk, List.nodup_cons.mpr ⟨c, nd⟩, by rw [List.length_cons]; omega, fun k => ?_⟩ fun s'' hm'' hS'' => ?_⟩
      · rw [tk, ← ml, List.mem_cons]
        exact Or.comm
      · exact hR s'' (Moved.trans W.gtrans ((hm.mono hsub).then_heap (Nat.le_succ _) fun b o hb e => oth b o (fun h => hb (by rw [h]; exact List.mem_cons_self)) e) hm'') hS''
end
section
variable {prog : Program} {w : World} {A : Around} {E : Value → Shared → Prop} {s : Shared}
theorem set_new_led (a : Value) {Q₁ : Value → Shared → Prop}
    (h : Q₁ (.ref s.heap.objs.size) { s with heap := s.heap.push { cls := .type "set", dict := none, data := .set #[] 0 (.fresh 0 0 (!w.params.followText "set-order")) } }) :
    codeAny (model prog w) A (.call (.builtin "set.__new__") ⟨[.type "set", a], []⟩) (wants Q₁ E) s := by
  refine codeAny_of_tree ?_
  show wpAny _ A.in1 (do checkBuiltinCall "set.__new__" ⟨[.type "set", a], []⟩; again (.builtin "set.__new__" ⟨[.type "set", a], []⟩)) _ _ s
  refine wpAny_bind (wpAny_of_eq (PySem.F.newCall_set_1 a) (wpAny_pure ⟨plainId_quiet F.plain_set_new _, codeAny_builtin F.entry_set_new ?_⟩))
  rw [Around.under_plainId F.plain_set_new _]
  unfold Builtin.«set.__new__» Builtin.Frozenset.newClass
  have hsub := sub_set_self
  obtain ⟨hp, g, d, tk, os⟩ := s
  dsimp only
  wp_walk
  refine wpAny_askSetting (wpAny_pure ?_)
  dsimp only
  simp only [newObj]
  exact wpAny_bind (wpAny_alloc (wpAny_pure (wpAny_pure h)))
/-- set(l) -/
theorem call_setN {l : Addr} {items : Array Value} {xs : List Str} {Q : Value → Shared → Prop} (hh : A.handled = none) (hl : s.heap.IsList l items) (hi : StrsAre items.toList xs) (hn : xs.length < 4000)
    (h : ∀ (h' : Heap) (tk : Nat), Has prog w xs s.heap.objs.size xs.length { s with heap := h', toks := tk } → (∀ b o, b < s.heap.objs.size → s.heap.get? b = some o → h'.get? b = some o) → Q (.ref s.heap.objs.size) { s with heap := h', toks := tk }) :
    wpAny (model prog w) A (call (.type "set") [.ref l]) Q E s := by
  obtain ⟨c, tl, hmro⟩ := PySem.F.called_set.mro
  have hmade := PySem.F.called_set.made
  have hsub := PySem.F.called_set.sub
  refine wpAny_call (codeAny_of_tree ?_)
  show wpAny _ _ (callAny (.type "set") _) _ _ _
  refine wpAny_pure ⟨Code.quiet_builtin _ (by decide +kernel), codeAny_builtin PySem.F.entry_type_call ?_⟩
  rw [Around.under_plain (weight_type_call_type "set" [.ref l] []) rfl]
  have h1 := PySem.F.called_set.notType
  have h2 := PySem.F.called_set.canCreate
  have hct := PySem.F.typeCall_set_1 (.ref l)
  repeat (any_goals (first | assumption | wp_step))
  obtain ⟨led, hled⟩ : ∃ led, led = !w.params.followText "set-order" := ⟨_, rfl⟩
  refine codeAny_mono (set_new_led (.ref l) (E := E) (Q₁ := fun obj s₁ => obj = .ref s.heap.objs.size ∧ s₁ = { s with heap := s.heap.push { cls := .type "set", dict := none, data := .set #[] 0 (.fresh 0 0 led) } }) (by rw [hled]; exact ⟨rfl, rfl⟩)) fun r s₁ hr => ?_
  cases r with
  | error e => exact hr
  | ok fl =>
    cases fl with
    | ret obj =>
      obtain ⟨rfl, rfl⟩ := hr
      have hS : (s.heap.push { cls := .type "set", dict := none, data := .set #[] 0 (.fresh 0 0 led) }).get? s.heap.objs.size = some { cls := .type "set", dict := none, data := .set #[] 0 (.fresh 0 0 led) } := Heap.get?_push_size _ rfl
      have hT : Shared.TypeIs { s with heap := s.heap.push { cls := .type "set", dict := none, data := .set #[] 0 (.fresh 0 0 led) } } (.ref s.heap.objs.size) "set" := ⟨_, hS, rfl⟩
      have hli := PySem.F.called_set.init.lookup
      have hbi := PySem.F.called_set.init.bind (.ref s.heap.objs.size)
      repeat (any_goals (first | assumption | wp_step))
      refine codeAny_mono (codeAny_call_builtin (R := wants (fun r s₂ => r = .none ∧ ∃ h' tk, s₂ = { s with heap := h', toks := tk } ∧ Has prog w xs s.heap.objs.size xs.length { s with heap := h', toks := tk } ∧
          (∀ b o, b < s.heap.objs.size → s.heap.get? b = some o → h'.get? b = some o)) E) PySem.F.called_set.init.plain PySem.F.entry_set_init (check_set_init_1 hT ?_)) fun r₂ s₂ hr₂ => ?_
      · have hlS : l < s.heap.objs.size := by
          obtain ⟨ol, hol, _⟩ := hl
          exact Heap.lt_size hol
        have hl1 : (s.heap.push { cls := .type "set", dict := none, data := .set #[] 0 (.fresh 0 0 led) }).IsList l items := hl.push _
        have hsls := PySem.F.sub_list_set
        have hslf := PySem.F.sub_list_frozenset
        have hne : (Value.type "list" == Value.type "dict") = false := by decide
        obtain ⟨ol, hol, hcl, nl, hdl⟩ := id hl
        obtain ⟨ocls, odict, odata, oslots⟩ := ol
        simp only at hcl hdl
        subst hcl
        subst hdl
        have hol' : (s.heap.push { cls := .type "set", dict := none, data := .set #[] 0 (.fresh 0 0 led) }).get? l = some { cls := .type "list", dict := odict, data := .seq items nl, slots := oslots } := Heap.get?_push_of_some _ hol
        unfold Builtin.«set.__init__» noKeywords Builtin.Frozenset.updateFrom
        generalize hPI : pyIter = PI
        wp_walk
        subst hPI
        refine wpAny_pyIter_list (s := { s with heap := s.heap.push { cls := .type "set", dict := none, data := .set #[] 0 (.fresh 0 0 led) } }) hl1 ?_
        refine wpAny_bind (wpAny_runValue ?_)
        have hh3 : A.in1.in1.in1.handled = none := by simp [hh]
        have hneI : l ≠ (s.heap.push { cls := .type "set", dict := none, data := .set #[] 0 (.fresh 0 0 led) }).objs.size := by rw [Heap.size_push]; exact Nat.ne_of_lt (Nat.lt_succ_of_lt hlS)
        have hSf : s.heap.objs.size ∉ [(s.heap.push { cls := .type "set", dict := none, data := .set #[] 0 (.fresh 0 0 led) }).objs.size, l] := by
          rw [Heap.size_push]
          simp only [List.mem_cons, List.not_mem_nil, or_false, not_or]
          exact ⟨Nat.ne_of_lt (Nat.lt_succ_self _), Nat.ne_of_gt hlS⟩
        have hsz : xs.length = items.size := by rw [← StrsAre.len_eq hi, Array.length_toList]
        have hval : ∀ (i : Nat) (v : Value), items[i]? = some v → ∃ t, v = .str (xs.getD i Str.empty) t := fun i v hv => SS.strs_at hi i v (by rw [Array.getElem?_toList]; exact hv)
        refine loopN ((Walks.list hh3 _ l hneI items).toS) s.heap.objs.size hSf xs hsz (by omega) hval (items.size - 0) 0 _ (by omega) (Nat.zero_le _) ⟨⟨_, Heap.get?_push_size _ rfl, rfl, rfl⟩, (hl1.push _)⟩ ?hS0 ?hR
        case hS0 =>
          refine ⟨(#[], 0, .fresh 0 0 led), [], Heap.get?_push_of_some _ hS, TxOk.nil (by rfl), ⟨List.Pairwise.nil, ?_⟩, List.nodup_nil, Nat.zero_le _, fun k => by simp⟩
          show _ ∨ led = true
          rw [hled]
          cases w.params.followText "set-order"
          · exact .inr rfl
          · exact .inl rfl
        case hR =>
          intro s' hm hS'
          obtain ⟨h', g', d', tk', os'⟩ := s'
          have eg : g' = s.gens := hm.gens
          have ed : d' = s.drawn := hm.drawn
          have eo : os' = s.os := hm.os
          subst eg; subst ed; subst eo
          refine wpAny_pure ?_
          show wpAny _ _ (ret Value.none) _ _ _
          refine wpAny_pure ⟨rfl, h', tk', rfl, by rw [hsz]; exact hS', fun b o hb e => ?_⟩
          exact hm.heap b o (by rw [Heap.size_push]; simp only [List.mem_cons, List.not_mem_nil, or_false, not_or]; exact ⟨Nat.ne_of_lt hb, Nat.ne_of_lt (Nat.lt_succ_of_lt hb)⟩) (Heap.get?_push_of_some _ (Heap.get?_push_of_some _ e))
      · cases r₂ with
        | error e => exact hr₂
        | ok fl₂ =>
          cases fl₂ with
          | ret r =>
            obtain ⟨rfl, h', tk, rfl, hS', hk'⟩ := hr₂
            repeat (any_goals (first | assumption | wp_step))
            exact h _ _ hS' hk'
          | _ => exact hr₂.elim
    | _ => exact hr.elim
end
end DL

set_option maxRecDepth 100000
set_option maxHeartbeats 3200000
/-! sorted(set(xs)): the calls and the mirror -/
namespace DL
open PySem PySem.Spec L2 PyProof.Rows PySem.Froz
def SetH (prog : Program) (w : World) (xs : List Str) (a : Addr) (h : Heap) : Prop := ∃ (D : SD) (l : List Str), h.get? a = some (sObj "set" D) ∧ TxOk prog w D l ∧ WkD w D ∧ l.Nodup ∧ l.length ≤ xs.length ∧ ∀ k, k ∈ l ↔ k ∈ xs
theorem perm_cover {α : Type} [DecidableEq α] : ∀ {l ks : List α}, l.Nodup → (∀ x ∈ l, x ∈ ks) → ks.length = l.length → l.Perm ks
  | [], ks, _, _, h => by
    have : ks = [] := List.length_eq_zero_iff.mp h
    rw [this]
  | x :: l, ks, nd, hs, h => by
    obtain ⟨n1, n2⟩ := List.nodup_cons.mp nd
    have hx := hs x List.mem_cons_self
    have p := List.perm_cons_erase hx
    have hl : (ks.erase x).length = l.length := by
      have := p.length_eq
      rw [List.length_cons, h, List.length_cons] at this
      omega
    exact ((perm_cover n2 (fun y hy => (List.mem_erase_of_ne (fun e : y = x => n1 (by rw [← e]; exact hy))).mpr (hs y (List.mem_cons_of_mem _ hy))) hl).cons x).trans p.symm
def toS : Value → Str | .str k _ => k | _ => Str.empty
theorem strs_toS : ∀ (l : List Value), (∀ v ∈ l, ∃ k t, v = Value.str k t) → StrsAre l (l.map toS)
  | [], _ => .nil
  | v :: l, h => by
    obtain ⟨k, t, rfl⟩ := h v List.mem_cons_self
    exact .cons k t (strs_toS l fun u hu => h u (List.mem_cons_of_mem _ hu))
section
variable {X : Cx} {pins : List (Addr × Obj)} {σ : L2.St} {H : Hp} {s : Shared} {Q : VK}
/-- sorted(that set) -/
theorem call_sortN {a : Addr} {ts : List Str} (hc : X.calm = true) (I : Inv X pins σ H s) (R : SetH X.prog X.w ts a s.heap) (h64 : ts.length < 64)
    (q : ∀ (ys : List Str) (p : Addr), ys.Nodup → (∀ k, k ∈ ys ↔ k ∈ ts) → sortedS ys = true → H p = none → Q (.ref p) (upd H p (.lst (ys.map V.str)))) :
    wpAny (model X.prog X.w) X.A (call (.builtin "sorted") [.ref a]) (EP X pins σ Q) X.xe s := by
  obtain ⟨⟨es, ep, t⟩, l, g, F, wk, nd, ll, ml⟩ := R
  have hsz : es.size = l.length := F.sz
  refine Calls.call_function_entry kind_sorted plain_sorted entry_sorted (args_sorted1 _) ?_
  unfold Builtin.«sorted»
  refine wpAny_bind (m := checkCount "sorted" 1 1 _) (wpAny_pure ?_)
  refine wpAny_bind (L2.collect_set (A := X.A.in1) (I.ok.hd hc) ⟨_, g, rfl, rfl⟩ F.fit (by show es.size < scanBound; unfold scanBound; omega) wk.1 wk.2 fun s1 out k1 hz g1 o1 pm => ?_)
  have hS : StrsAre out (out.map toS) := strs_toS out fun v hv => by
    obtain ⟨e, he, q⟩ := List.mem_map.mp (pm.mem_iff.mp hv)
    obtain ⟨⟨k, hk, _⟩, _⟩ := F.el e he
    obtain ⟨t, ev⟩ := Value.isStrOf_shape (x := k) (v := e.2) hk
    exact ⟨k, t, by rw [← q]; exact ev⟩
  have mem : ∀ k, k ∈ out.map toS ↔ k ∈ ts := fun k => by
    rw [← ml, F.mem k, List.mem_map]
    constructor
    · rintro ⟨v, hv, rfl⟩
      obtain ⟨e, he, q⟩ := List.mem_map.mp (pm.mem_iff.mp hv)
      obtain ⟨⟨k, hk, _⟩, _⟩ := F.el e he
      obtain ⟨t, ev⟩ := Value.isStrOf_shape (x := k) (v := e.2) hk
      refine ⟨e, he, ?_⟩
      rw [← q, ev]
      exact is_str k t
    · rintro ⟨e, he, hk⟩
      obtain ⟨t, ev⟩ := Value.isStrOf_shape (x := k) (v := e.2) hk
      exact ⟨e.2, pm.mem_iff.mpr (List.mem_map.mpr ⟨e, he, rfl⟩), by rw [ev]; rfl⟩
  have lo : out.length = l.length := by rw [pm.length_eq, List.length_map, Array.length_toList, hsz]
  have pl : l.Perm (out.map toS) := perm_cover nd (fun k hk => (mem k).mpr ((ml k).mp hk)) (by rw [List.length_map, lo])
  have ho64 : out.length < 64 := by omega
  refine wpAny_bind (wpAny_newList ?_ (by rw [sizeLine_eq]; omega))
  have hoL : (s1.heap.push (seqObj "list" out.toArray 0)).get? s1.heap.objs.size = some (seqObj "list" out.toArray 0) := Heap.get?_push_size _ rfl
  refine wpAny_bind (wpAny_holding (wpAny_call_entry slot_list_sort ⟨_, hoL, rfl⟩ entry_list_sort
    (list_sort_treeK strKind_oneLt (s := { s1 with heap := s1.heap.push (seqObj "list" out.toArray 0) }) hoL hS.keysOf (fun v₁ v₂ rest e => keyKind_strs (by rw [← e]; exact hS)) ho64 fun st' hp hs => ⟨_, rfl, ?_⟩)
    (args_list_sort _)))
  obtain ⟨ys, y1, y2, y3⟩ := sorted_out_str hS hp hs
  obtain ⟨e', he'⟩ := sortedHeap_at (vs := out) (out := (arrOf st').map (·.2)) hoL
  have hlen : (ys.map V.str).length ≤ sizeLine := by
    rw [List.length_map, y2.length_eq, List.length_map, sizeLine_eq]
    omega
  have hn : H s1.heap.objs.size = none := I.hok.fresh hz
  have kk : ∀ b u, s.heap.get? b = some u → (sortedHeap (s1.heap.push (seqObj "list" out.toArray 0)) s1.heap.objs.size out ((arrOf st').map (·.2))).get? b = some u := fun b u e => by
    have q := k1 b u e
    have hlt := Heap.lt_size q
    rw [sortedHeap_old (Nat.ne_of_lt hlt) (by rw [size_push']; exact Nat.lt_succ_of_lt hlt)]
    exact Heap.get?_push_of_some _ q
  have J : Inv X pins σ (upd H s1.heap.objs.size (.lst (ys.map V.str))) { s with heap := sortedHeap (s1.heap.push (seqObj "list" out.toArray 0)) s1.heap.objs.size out ((arrOf st').map (·.2)), gens := s1.gens, drawn := s1.drawn, toks := s1.toks } :=
    I.call (ch := []) (Un.laid kk hz hn) (I.hok.laid kk hz ⟨hlen, ((arrOf st').map (·.2)).toList, e', vals_of_strs y1, by rw [Array.toArray_toList]; exact he'⟩) (by rw [g1]; exact I.bare) (fun _ z => nomatch z)
  refine wpAny_pure ⟨_, rfl, .ref s1.heap.objs.size, upd H s1.heap.objs.size (.lst (ys.map V.str)), ?_, rfl, q ys _ ((y2.trans pl.symm).nodup_iff.mpr nd) (fun k => by rw [y2.mem_iff]; exact mem k) y3 hn⟩
  cases s1
  cases s
  cases o1
  exact J
def tSortSet (K : PySem.W.Frag) (ta : TE) : TE := fun σ H Q => ta σ H fun x H1 => ∃ (l : Addr) (ts : List Str), x = .ref l ∧ SqL K H1 l (ts.map V.str) ∧ ts.length < 64 ∧
  ∀ (ys : List Str) (p : Addr), ys.Nodup → (∀ k, k ∈ ys ↔ k ∈ ts) → sortedS ys = true → H1 p = none → Q (.ref p) (upd H1 p (.lst (ys.map V.str)))
theorem boot_sorted' : bootBuiltins "sorted" = some (.builtin "sorted") := by decide +kernel
theorem pe_sortSet {a : Expr} {ta : TE} {p p2 q pos : Pos} (hc : X.calm = true) (hg : Gl X "sorted") (hm : X.mg "sorted" = none) (hg2 : Gl X "set") (hm2 : X.mg "set" = none) (ha : PE X a ta)
    (na : starEach [a] X.env = (false, eval a X.env) :: starEach [] X.env := by rfl) : PE X (.Call (.Name "sorted" p) [.Call (.Name "set" p2) [a] [] q] [] pos) (tSortSet X.K ta) := by
  refine ⟨fun pins s σ H Q I h => ?_⟩
  refine Call_ (ld_blt I hg hm boot_sorted' ?_)
  refine PyProof.Rows.callWith_builtin1 (PyProof.Rows.args_cons ?_ rfl) rfl rfl
  refine Call_ (ld_blt I hg2 hm2 boot_set ?_)
  refine PyProof.Rows.callWith_type1 (PyProof.Rows.args_cons (thn (ha.run pins s σ H _ I h) fun v s1 ⟨x, H1, I1, r1, q1⟩ => PyProof.Rows.args_nil ?_) na) na rfl
  obtain ⟨l, ts, rfl, hq, h64, q1⟩ := q1
  cases r1
  obtain ⟨its, r', pl, hz⟩ := I1.list hq
  refine call_setN (I1.ok.hd hc) pl.isList (by simpa using strsAre_of r') (by omega) fun h' tk hS hk => ?_
  refine PyProof.Rows.args_nil ?_
  obtain ⟨D, l', g, F, wk, nd, ll, ml⟩ := hS
  rw [List.take_of_length_le (Nat.le_refl _)] at ml
  have I2 : Inv X pins σ H1 { s1 with heap := h', toks := tk } := I1.kept fun b o e => hk b o (Heap.lt_size e) e
  exact call_sortN hc (I2.tok _) ⟨D, l', g, F, wk, nd, ll, ml⟩ h64 q1
end
end DL

set_option maxRecDepth 100000
set_option maxHeartbeats 2000000
/-! sorted(set(xs)) by data -/
namespace DL
open PySem PySem.Spec L2 PyProof.Rows
def dd : List Str → List Str
  | [] => []
  | x :: l => if x ∈ dd l then dd l else x :: dd l
theorem dd_mem : ∀ {l : List Str} {k : Str}, k ∈ dd l ↔ k ∈ l
  | [], k => Iff.rfl
  | x :: l, k => by
    unfold dd
    split
    · rename_i h
      rw [dd_mem, List.mem_cons]
      exact ⟨.inr, fun z => z.elim (fun e => by rw [e]; exact dd_mem.mp h) id⟩
    · rw [List.mem_cons, List.mem_cons, dd_mem]
theorem dd_nodup : ∀ (l : List Str), (dd l).Nodup
  | [] => List.nodup_nil
  | x :: l => by
    unfold dd
    split
    · exact dd_nodup l
    · rename_i h
      exact List.nodup_cons.mpr ⟨h, dd_nodup l⟩
def srtSet (l : List Str) : List Str := srtS (dd l)
theorem srtS_is {l m : List Str} (p : m.Perm l) (u : m.Pairwise fun a b => leS a b = true) : m = srtS l :=
  (p.trans (srtS_perm l).symm).eq_of_pairwise (fun x y _ _ hx hy => leS_anti hx hy) u (srtS_up l)
theorem srtS_eq {l m : List Str} (p : m.Perm l) : srtS m = srtS l := srtS_is ((srtS_perm m).trans p) (srtS_up m)
theorem srtSet_is {l m : List Str} (nd : m.Nodup) (h : ∀ k, k ∈ m ↔ k ∈ l) : srtS m = srtSet l := srtS_eq ((List.perm_ext_iff_of_nodup nd (dd_nodup l)).mpr fun k => (h k).trans dd_mem.symm)
def rSortSet (ea : Rho → Re D) (ρ : Rho) : Re Sl := (ea ρ).bind fun x => match x with
  | .lst l => match asS l with
    | some ts => if ts.length < 64 then .ok (.own ((srtSet ts).map D.str)) else .bad
    | none => .bad
  | _ => .bad
section
variable {K : PySem.W.Frag} {W : WX} {ad : Cls → Addr} {ta : TE} {ea : Rho → Re D}
theorem cSortSet (ha : CE K W ad ta ea) : CO K W ad (tSortSet K ta) (rSortSet ea) := fun ρ P X h => by
  intro He0 He σ H0 H Q S x k
  refine ha ρ (fun d => ∃ ts : List Str, d = .lst (ts.map D.str) ∧ ts.length < 64 ∧ P (.own ((srtSet ts).map D.str))) X ((Re.post_bind h).imp fun d h2 => ?_) He0 He σ H0 H _ S x fun v d H1 H1' p S1 e1 r1 => ?_
  · split at h2
    · rename_i l
      split at h2
      · rename_i ts e
        split at h2
        · exact ⟨ts, by rw [asS_is e], by assumption, h2⟩
        · exact h2.elim
      · exact h2.elim
    · exact h2.elim
  · obtain ⟨ts, rfl, h64, p⟩ := p
    cases r1 with
    | lst ha rs =>
      rename_i a xs
      have := Rps.strs rs
      subst this
      refine ⟨a, ts, rfl, .inl (.inl (S1.sub _ _ ha)), h64, fun ys q nd mem up nq => ?_⟩
      have ey : ys = srtSet ts := by
        rw [← srtSet_is nd mem]
        exact srtS_is (.refl _) (sortedS_up up)
      subst ey
      have e2 : Ext H1 H1' H1 (upd H1' q (.lst ((srtSet ts).map V.str))) := .own S1.sub nq
      exact k _ _ _ _ p (S1.ext e2) (e1.trans e2) ⟨q, rfl, S1.sub.free nq, _, upd_same, Rps.of_strs _⟩ fun _ b e => by
        cases e
        exact e1.s.free nq
theorem e_rSortSet {ρ : Rho} {ts : List Str} (h : ea ρ = .ok (.lst (ts.map D.str))) (h64 : ts.length < 64) : rSortSet ea ρ = .ok (.own ((srtSet ts).map D.str)) := by
  unfold rSortSet
  rw [h, Re.ok_bind]
  dsimp only
  rw [asS_map]
  dsimp only
  rw [if_pos h64]
end
end DL

set_option maxRecDepth 100000
set_option maxHeartbeats 2000000
/-! d == e, the same, values of any shape -/
namespace DL
open PySem PySem.Spec L2 PyProof.Rows
def rEqDS (K : PySem.W.Frag) : R2 := fun x y H Q => ∃ a b ks ls, x = .ref a ∧ y = .ref b ∧ Rd H a (.dK ks) ∧ Rd H b (.dK ls) ∧ ks.length = ls.length ∧
  (∀ p ∈ ks, ∃ (q : V) (d : PyData), valV ls p.1 = some q ∧ Dp K H p.2 d ∧ Dp K H q d ∧ SeqAt.shaped d = true ∧ PyData.eqv d d = true) ∧ Q (.bl true) H
theorem op_eq_dictS {X : Cx} (hu : X.A.units + 66 < cLine) : OpR X (compareOp .Eq) (rEqDS X.K) := by
  intro pins s σ H x y v u Q I rx ry h
  obtain ⟨a, b, ks, ls, rfl, rfl, ea, eb, hlen, hp, q⟩ := h
  obtain rfl : v = Value.ref a := rx
  obtain rfl : u = Value.ref b := ry
  obtain ⟨za, ya, va, ra, da⟩ := (show ObjOk X.prog X.w H s.heap a (.dK ks) from rd_of I.hok ea)
  obtain ⟨_, yb, vb, rb, db⟩ := (show ObjOk X.prog X.w H s.heap b (.dK ls) from rd_of I.hok eb)
  have hl : va.length = vb.length := by rw [← ra.length, ← rb.length]; exact hlen
  have hits : PySem.W.KeqHits X.A.in1 s vb va true := by
    clear hlen hl da ea za
    unfold KV at ra
    induction ra with
    | nil => exact .nil
    | @cons p q ps qs h t ih =>
      obtain ⟨h1, h2⟩ := h
      obtain ⟨w, d, e, d1, d2, sh, ev⟩ := hp p List.mem_cons_self
      have rr : RelO (some w) (valueAt vb p.1) := by rw [← e]; exact rb.val p.1
      obtain ⟨y, hy, ry⟩ := rr.some_of
      obtain ⟨k, v⟩ := q
      have h1' : p.1 = k := h1
      rw [h1'] at hy
      obtain ⟨as, r1⟩ := Dp.reads I d p.2 v d1 h2
      obtain ⟨bs, r2⟩ := Dp.reads I d w y d2 ry
      have k2 := PySem.W.keq_at (A := X.A) (s := s) r1 r2 sh sh (by show X.A.in1.units + 64 < cLine; simp only [Around.in1]; omega)
      rw [ev] at k2
      show PySem.W.KeqHits X.A.in1 s vb ((k, v) :: qs) (true && true)
      exact .hit hy k2 (ih fun p' hm => hp p' (List.mem_cons_of_mem _ hm))
  exact PySem.W.keq_eq (knd := mixKind X.prog X.w) (r := true) ya yb da db (by omega) (fun _ => hits) (fin_bl I q (by simp [hl]))
section
variable {K : PySem.W.Frag}
open Classical in
noncomputable def oEqDB : D → D → Option D
  | .dK ks vs, .dK ls ws => if ks = ls ∧ vs = ws ∧ ks.Nodup ∧ ∀ v ∈ vs, Sh v then some (.bl true) else none
  | .fK ks vs, .dK ls ws => if ks = ls ∧ vs = ws ∧ ks.Nodup ∧ ∀ v ∈ vs, Sh v then some (.bl true) else none
  | _, _ => none
theorem pair_at : ∀ {a b : List (Key × V)}, a.map (·.1) = b.map (·.1) → ∀ p ∈ a, ∃ i : Nat, ∃ q, a[i]? = some p ∧ b[i]? = some q ∧ q.1 = p.1
  | [], _, _, p, h => by cases h
  | x :: a, [], e, p, h => by cases e
  | x :: a, y :: b, e, p, h => by
    simp only [List.map_cons, List.cons.injEq] at e
    rcases List.mem_cons.mp h with rfl | h
    · exact ⟨0, y, rfl, rfl, e.1.symm⟩
    · obtain ⟨i, q, h1, h2, h3⟩ := pair_at e.2 p h
      exact ⟨i + 1, q, h1, h2, h3⟩
theorem eq_core {H0 H : Hp} {a b : Addr} {kvs lvs : List (Key × V)} {vs : List D} {Q : VK} (s : Same H0 H) (hks : kvs.map (·.1) = lvs.map (·.1)) (nd : (lvs.map (·.1)).Nodup) (hi : ∀ v ∈ vs, Sh v) (r : Rps K H0 (kvs.map (·.2)) vs) (r' : Rps K H0 (lvs.map (·.2)) vs)
    (ha : Rd H0 a (.dK kvs)) (hb : Rd H0 b (.dK lvs)) (q : Q (.bl true) H) : rEqDS K (.ref a) (.ref b) H Q := by
  have ll : kvs.length = lvs.length := by
    have := congrArg List.length hks
    simpa using this
  refine ⟨a, b, kvs, lvs, rfl, rfl, Rd.mono s ha, Rd.mono s hb, ll, fun p hp => ?_, q⟩
  obtain ⟨i, q, g1, g2, g3⟩ := pair_at hks p hp
  obtain ⟨d, e1, r1⟩ := r.get' (i := i) (v := p.2) (by rw [List.getElem?_map, g1]; rfl)
  obtain ⟨d', e2, r2⟩ := r'.get' (i := i) (v := q.2) (by rw [List.getElem?_map, g2]; rfl)
  rw [e1] at e2
  cases e2
  obtain ⟨n, hn, sh⟩ := hi d (List.mem_of_getElem? e1)
  refine ⟨q.2, d.py, ?_, (r1.mono s).dp sh, (r2.mono s).dp sh, sh.shaped hn, eqv_self sh⟩
  rw [← g3]
  exact valV_mem nd q (List.mem_of_getElem? g2)
theorem pEqDB : C2 K (rEqDS K) oEqDB := fun x y z P h p => by
  unfold oEqDB at h
  split at h
  · rename_i ks vs ls ws
    split at h
    · rename_i c
      obtain ⟨rfl, rfl, nd, hi⟩ := c
      cases h
      intro H0 H v u Q s rv ru k
      cases rv with
      | @dK a kvs _ ha r =>
        generalize hks : kvs.map (·.1) = ks' at ru nd
        cases ru with
        | @dK b lvs _ hb r' => exact eq_core s hks nd hi r r' ha hb (k _ _ H0 H p (.refl s) (.bl _))
    · cases h
  · rename_i ks vs ls ws
    split at h
    · rename_i c
      obtain ⟨rfl, rfl, nd, hi⟩ := c
      cases h
      intro H0 H v u Q s rv ru k
      cases rv with
      | @fK a o kvs _ ha r =>
        generalize hks : kvs.map (·.1) = ks' at ru nd
        cases ru with
        | @dK b lvs _ hb r' => exact eq_core s hks nd hi r r' (.inr ⟨o, ha⟩) hb (k _ _ H0 H p (.refl s) (.bl _))
    · cases h
  · cases h
end
end DL

set_option pp.deepTerms false
set_option pp.maxSteps 400
set_option maxRecDepth 100000
set_option maxHeartbeats 4000000
namespace K35
open PySem PySem.Spec L2 DL

/-- is_variable: 0 term, 1 char -/
noncomputable def r_is_variable : Rho → Os :=
  (rSeq (rIf (rOr (rNot (rTru (xIsi .str (rVar 0)))) (rOr (rNot (rTest (rChain oLe oLe (rC (.int 1)) (rLenV 0) (rC (.int 12))))) (rTest (rOp oNotInC (rIxV 0 (rC (.int 0))) (rC (.str "abcdefghijklmnopqrstuvwxyz")))))) (rRet (rC (.bl false)))
  rNext)
  (rRet (rCb bAll (rCons (rStill (rLc (rIStr (rVar 0)) (gnm 1) rYes (rOp oInC (rVar 1) (rC (.str "abcdefghijklmnopqrstuvwxyz0123456789"))) [1])) rNil))))
noncomputable def m_is_variable : List D → Re Sl := mkM 1 [.no] r_is_variable
/-- _law_row: 0 _law_cell, 1 _law_many, 2 _law_row_here, 3 _law_rest, 4 _law_mixed, 5 _law_k -/
noncomputable def r_law_row : Rho → Os :=
  (rSeq (rSetO 2 (rLst rNil))
  (rSeq (rSet 3 (rCb bAbs (rCons (rVar 0) rNil)))
  (rSeq (rF [3] (rSet 4 (rOp oMod (rCb bInt (rCons (rOp oAdd (rOp oMul (rVar 3) (rC (.int 48271))) (rC (.int 69621))) rNil)) (rC (.int 2147483647)))))
  (rSeq (rK [3, 4, 5] (rFor (rIRng1 (rCons (rVar 1) rNil)) (gnm 5)
  (rK [5] (rSeq (rSet 4 (rOp oMod (rCb bInt (rCons (rOp oAdd (rOp oMul (rVar 4) (rC (.int 16807))) (rOp oMul (rC (.int 271)) (rOp oAdd (rVar 5) (rC (.int 3))))) rNil)) (rC (.int 2147483629))))
  (rIf (rTest (rOp oGe (rCb bAbs (rCons (rVar 0) rNil)) (rOp oPow (rC (.int 10)) (rC (.int 18))))) (rSeq (rF [3] (xAppend 2 (rOp oMod (rCb bInt (rCons (rVar 3) rNil)) (rC (.int 1009)))))
  (rF [3] (rSet 3 (rOp oDiv (rVar 3) (rC (.int 1009))))))
  (xAppend 2 (rOp oMod (rCb bInt (rCons (rOp oDiv (rVar 4) (rC (.int 7))) rNil)) (rC (.int 1009)))))))))
  (rRetV 2)))))
noncomputable def m_law_row : List D → Re Sl := mkM 2 [.no, .no, .no, .no] r_law_row
/-- _law_names: 0 _law_number, 1 _law_many, 2 _law_letters, 3 _law_size, 4 _law_rest, 5 _law_place, 6 _law_names_here, 7 _law_k, 8 _law_own, 9 _law_spot, 10 _law_step, 11 _law_first -/
noncomputable def r_law_names : Rho → Os :=
  (rSeq (rSet 2 (rC (.str "abcdefghijklmnopqrstuvwxyz0123456789")))
  (rSeq (rSet 3 (rOp oMod (rCb bInt (rCons (rVar 0) rNil)) (rC (.int 11))))
  (rSeq (rSet 4 (rM1 oJoin (rC (.str "")) (rStill (rLc (rIRng1 (rCons (rVar 3) rNil)) (gnm 7) rYes (rIxV 2 (rOp oMod (rCb bInt (rCons (rOp oAdd (rVar 0) (rOp oMul (rOp oMul (rC (.int 7)) (rVar 7)) (rVar 7))) rNil)) (rC (.int 36)))) [7]))))
  (rSeq (rSet 5 (rOp oMod (rCb bInt (rCons (rOp oDiv (rVar 0) (rC (.int 11))) rNil)) (rOp oAdd (rVar 3) (rC (.int 1)))))
  (rSeq (rSetO 6 (rLst rNil))
  (rSeq (rK [7, 8, 9, 10, 11] (rFor (rIRng1 (rCons (rVar 1) rNil)) (gnm 7)
  (rK [7, 8, 9, 10, 11] (rSeq (rF [4] (rSet 8 (rVar 4)))
  (rSeq (rIf (rTest (rOp oEq (rOp oMod (rCb bInt (rCons (rOp oAdd (rOp oDiv (rVar 0) (rC (.int 121))) (rVar 7)) rNil)) (rC (.int 3))) (rC (.int 0)))) (rF [4] (rSet 8 (rSl oSlS (rVar 4) (rPS (rC (.int 1))) rPN)))
  rNext)
  (rSeq (rSet 9 (rCb bMin2 (rCons (rVar 5) (rCons (rLenV 8) rNil))))
  (rSeq (rSet 10 (rC (.int 5)))
  (rSeq (rIf (rTest (rOp oEq (rOp oMod (rCb bInt (rCons (rOp oDiv (rVar 0) (rC (.int 363))) rNil)) (rC (.int 2))) (rC (.int 1)))) (rSet 10 (rC (.int 31)))
  rNext)
  (rSeq (rF [9] (rSet 11 (rOp oAdd (rIxV 2 (rOp oMod (rCb bInt (rCons (rOp oAdd (rVar 0) (rOp oMul (rC (.int 3)) (rVar 7))) rNil)) (rC (.int 26)))) (rSl oSlS (rVar 8) rPN (rPS (rVar 9))))))
  (rF [9] (xAppend 6 (rOp oAdd (rOp oAdd (rVar 11) (rIxV 2 (rOp oMod (rCb bInt (rCons (rOp oAdd (rVar 0) (rOp oMul (rVar 10) (rVar 7))) rNil)) (rC (.int 36))))) (rSl oSlS (rVar 8) (rPS (rVar 9)) rPN)))))))))))))
  (rRetV 6)))))))
noncomputable def m_law_names : List D → Re Sl := mkM 2 [.no, .no, .no, .no, .no, .no, .no, .no, .no, .no] r_law_names
/-- leaves: 0 term, 1 found, 2 waiting, 3 part -/
noncomputable def r_leaves : Rho → Os :=
  (rSeq (rSetO 1 (rLst rNil))
  (rSeq (rSetO 2 (rLst (rCons (rVar 0) rNil)))
  (rSeq (rK [2, 3] (rWhile (rTruV 2) (rK [3] (rSeq (xSetPop 2 3)
  (rSeq (rF [3] (rIf (rTru (rStill (rCall m_is_variable (rCons (rVar 3) rNil)))) (rF [3] (xAppend 1 (rVar 3)))
  (rF [3] (rIf (rOr (rNot (rTru (xIsi2 .tuple .list (rVar 3)))) (rTest (rOp oNe (rLenV 3) (rC (.int 2))))) (rRaise0 .InvalidTerm)
  (xAugL 2 (rStill (rLst (rCons (rIxV 3 (rC (.int 1))) (rCons (rIxV 3 (rC (.int 0))) rNil)))))))))
  (rIf (rTest (rOp oGt (rOp oAdd (rLenV 1) (rLenV 2)) (rC (.int 200)))) (rRaise0 .InvalidTerm)
  rNext))))))
  (rRetV 1))))
noncomputable def m_leaves : List D → Re Sl := mkM 1 [.no, .no, .no] r_leaves
/-- _law_numbers: 0 _law_script, 1 _law_many, 2 _law_cells, 3 _law_each, 4 _law_numbers_here, 5 _law_cell, 6 _law_number -/
noncomputable def r_law_numbers : Rho → Os :=
  (rSeq (rSet 2 (rSl oSlAny (rVar 0) rPN (rPS (rC (.int 63)))))
  (rSeq (rSet 3 (rOp oAdd (rC (.int 1)) (rOp oDiv (rVar 1) (rCb bMax2 (rCons (rC (.int 1)) (rCons (rLenV 2) rNil))))))
  (rSeq (rSetO 4 (rLst rNil))
  (rSeq (rK [5, 6] (rFor (rISeq (rVar 2)) (gnm 5)
  (rK [5, 6] (rK [6] (rFor (rISeq (rStill (rCall m_law_row (rCons (rVar 5) (rCons (rVar 3) rNil))))) (gnm 6)
  (rK [6] (xAppend 4 (rVar 6))))))))
  (rSeq (rWhile (rTest (rOp oLt (rLenV 4) (rVar 1))) (xAppend 4 (rC (.int 0))))
  (rF [4] (rRet (rSl oSlAny (rVar 4) rPN (rPS (rVar 1))))))))))
noncomputable def m_law_numbers : List D → Re Sl := mkM 2 [.no, .no, .no, .no, .no] r_law_numbers
/-- _law_word: 0 _law_numbers_here, 1 _law_at -/
noncomputable def r_law_word : Rho → Os :=
  (rRetO (rCall m_law_names (rCons (rIxV 0 (rVar 1)) (rCons (rOp oAdd (rC (.int 1)) (rOp oMod (rCb bInt (rCons (rIxV 0 (rOp oAdd (rVar 1) (rC (.int 1)))) rNil)) (rC (.int 4)))) rNil))))
noncomputable def m_law_word : List D → Re Sl := mkM 2 [] r_law_word
/-- check_term: 0 term -/
noncomputable def r_check_term : Rho → Os :=
  (rDrop (rStill (rCall m_leaves (rCons (rVar 0) rNil))))
noncomputable def m_check_term : List D → Re Sl := mkM 1 [] r_check_term
/-- leaf_count: 0 term -/
noncomputable def r_leaf_count : Rho → Os :=
  (rRet (rCb bLen (rCons (rStill (rCall m_leaves (rCons (rVar 0) rNil))) rNil)))
noncomputable def m_leaf_count : List D → Re Sl := mkM 1 [] r_leaf_count
/-- names_of: 0 term, 1 name -/
noncomputable def r_names_of : Rho → Os :=
  (rRetO (sortedO bSortKS (rCons (rStill (rDc (rISeq (rStill (rCall m_leaves (rCons (rVar 0) rNil)))) (gnm 1) rYes (rVar 1) (rC (.bl true)) [1])) rNil)))
noncomputable def m_names_of : List D → Re Sl := mkM 1 [.no] r_names_of
/-- kept: 0 term -/
noncomputable def q_kept (x_kept : List D → Re Sl) : Rho → Os :=
  (rRet (rIfE (rTru (xIsi .str (rVar 0))) (rVar 0) (rTup (rCons (rStill (rCall x_kept (rCons (rIxV 0 (rC (.int 0))) rNil))) (rCons (rStill (rCall x_kept (rCons (rIxV 0 (rC (.int 1))) rNil))) rNil)))))
noncomputable def m_kept : Nat → List D → Re Sl
  | 0 => fun _ => .bad
  | d + 1 => mkM 1 [] (q_kept (m_kept d))
/-- written: 0 term -/
noncomputable def q_written (x_written : List D → Re Sl) : Rho → Os :=
  (rRet (rIfE (rTru (xIsi .str (rVar 0))) (rVar 0) (rFs [(rC (.str "(")), (rUn oFmt (rStill (rCall x_written (rCons (rIxV 0 (rC (.int 0))) rNil)))), (rC (.str " ")), (rUn oFmt (rStill (rCall x_written (rCons (rIxV 0 (rC (.int 1))) rNil)))), (rC (.str ")"))])))
noncomputable def m_written : Nat → List D → Re Sl
  | 0 => fun _ => .bad
  | d + 1 => mkM 1 [] (q_written (m_written d))
/-- _law_text: 0 _law_term_here -/
noncomputable def q_law_text (x_law_text : List D → Re Sl) : Rho → Os :=
  (rSeq (rIf (rTru (xIsi .str (rVar 0))) (rRetV 0)
  rNext)
  (rRet (rOp oAdd (rOp oAdd (rOp oAdd (rOp oAdd (rC (.str "(")) (rStill (rCall x_law_text (rCons (rIxV 0 (rC (.int 0))) rNil)))) (rC (.str " "))) (rStill (rCall x_law_text (rCons (rIxV 0 (rC (.int 1))) rNil)))) (rC (.str ")")))))
noncomputable def m_law_text : Nat → List D → Re Sl
  | 0 => fun _ => .bad
  | d + 1 => mkM 1 [] (q_law_text (m_law_text d))
/-- _law_lists: 0 _law_term_here -/
noncomputable def q_law_lists (x_law_lists : List D → Re Sl) : Rho → Os :=
  (rSeq (rIf (rTru (xIsi .str (rVar 0))) (rRetV 0)
  rNext)
  (rRetO (rLst (rCons (rStill (rCall x_law_lists (rCons (rIxV 0 (rC (.int 0))) rNil))) (rCons (rStill (rCall x_law_lists (rCons (rIxV 0 (rC (.int 1))) rNil))) rNil)))))
noncomputable def m_law_lists : Nat → List D → Re Sl
  | 0 => fun _ => .bad
  | d + 1 => mkM 1 [] (q_law_lists (m_law_lists d))
/-- _law_leaves: 0 _law_term_here -/
noncomputable def q_law_leaves (x_law_leaves : List D → Re Sl) : Rho → Os :=
  (rSeq (rIf (rTru (xIsi .str (rVar 0))) (rRetO (rLst (rCons (rVar 0) rNil)))
  rNext)
  (rRet (rOp oAdd (rStill (rCall x_law_leaves (rCons (rIxV 0 (rC (.int 0))) rNil))) (rStill (rCall x_law_leaves (rCons (rIxV 0 (rC (.int 1))) rNil))))))
noncomputable def m_law_leaves : Nat → List D → Re Sl
  | 0 => fun _ => .bad
  | d + 1 => mkM 1 [] (q_law_leaves (m_law_leaves d))
/-- _law_replaced: 0 _law_term_here, 1 _law_table -/
noncomputable def q_law_replaced (x_law_replaced : List D → Re Sl) : Rho → Os :=
  (rSeq (rIf (rTru (xIsi .str (rVar 0))) (rRet (rDGet2 1 (rVar 0) (rVar 0)))
  rNext)
  (rRet (rTup (rCons (rStill (rCall x_law_replaced (rCons (rIxV 0 (rC (.int 0))) (rCons (rVar 1) rNil)))) (rCons (rStill (rCall x_law_replaced (rCons (rIxV 0 (rC (.int 1))) (rCons (rVar 1) rNil)))) rNil)))))
noncomputable def m_law_replaced : Nat → List D → Re Sl
  | 0 => fun _ => .bad
  | d + 1 => mkM 2 [] (q_law_replaced (m_law_replaced d))
/-- term_text: 0 term -/
noncomputable def r_term_text : Rho → Os :=
  (rSeq (rDrop (rStill (rCall m_check_term (rCons (rVar 0) rNil))))
  (rRetO (rCall (m_written 18) (rCons (rVar 0) rNil))))
noncomputable def m_term_text : List D → Re Sl := mkM 1 [] r_term_text
/-- _law_term: 0 _law_numbers_here, 1 _law_at, 2 _law_names_here, 3 _law_most, 4 _law_rows, 5 _law_k, 6 _law_turn, 7 _law_place, 8 _law_other -/
noncomputable def r_law_term : Rho → Os :=
  (rSeq (rSetO 4 (rLst rNil))
  (rSeq (rK [5] (rFor (rIRng1 (rCons (rOp oAdd (rC (.int 1)) (rOp oMod (rCb bInt (rCons (rIxV 0 (rVar 1)) rNil)) (rVar 3))) rNil)) (gnm 5)
  (rK [5] (xAppend 4 (rIxV 2 (rOp oMod (rCb bInt (rCons (rIxV 0 (rOp oAdd (rOp oAdd (rVar 1) (rC (.int 1))) (rOp oMul (rC (.int 2)) (rVar 5)))) rNil)) (rLenV 2)))))))
  (rSeq (rK [6, 7, 8] (rFor (rIRng1 (rCons (rVar 3) rNil)) (gnm 6)
  (rK [6, 7, 8] (rK [7, 8] (rIf (rTest (rOp oGt (rLenV 4) (rC (.int 1)))) (rSeq (rSet 7 (rOp oMod (rCb bInt (rCons (rIxV 0 (rOp oAdd (rOp oAdd (rVar 1) (rC (.int 2))) (rOp oMul (rC (.int 2)) (rVar 6)))) rNil)) (rOp oSub (rLenV 4) (rC (.int 1)))))
  (rSeq (xSetPopAt 4 8 (rCons (rOp oAdd (rVar 7) (rC (.int 1))) rNil))
  (rSeq (rIf (rAnd (rTest (rOp oEq (rOp oMod (rCb bInt (rCons (rOp oDiv (rIxV 0 (rOp oAdd (rOp oAdd (rVar 1) (rC (.int 2))) (rOp oMul (rC (.int 2)) (rVar 6)))) (rC (.int 7))) rNil)) (rC (.int 4))) (rC (.int 0)))) (rTest (rOp oLt (rCb bLen (rCons (rStill (rCall (m_law_leaves 18) (rCons (rIxV 4 (rVar 7)) rNil))) rNil)) (rC (.int 3))))) (rF [8] (rSet 8 (rTup (rCons (rIxV 4 (rVar 7)) (rCons (rVar 8) rNil)))))
  rNext)
  (rF [8] (rAsg (gsub 4 (rVar 7)) (rTup (rCons (rIxV 4 (rVar 7)) (rCons (rVar 8) rNil))))))))
  rNext)))))
  (rRet (rIxV 4 (rC (.int 0)))))))
noncomputable def m_law_term : List D → Re Sl := mkM 4 [.no, .no, .no, .no, .no] r_law_term
/-- exchanged: 0 term, 1 table -/
noncomputable def q_exchanged (x_exchanged : List D → Re Sl) : Rho → Os :=
  (rSeq (rIf (rTru (xIsi .str (rVar 0))) (rRetO (rCall (m_kept 18) (rCons (rDGet2 1 (rVar 0) (rVar 0)) rNil)))
  rNext)
  (rRet (rTup (rCons (rStill (rCall x_exchanged (rCons (rIxV 0 (rC (.int 0))) (rCons (rVar 1) rNil)))) (rCons (rStill (rCall x_exchanged (rCons (rIxV 0 (rC (.int 1))) (rCons (rVar 1) rNil)))) rNil)))))
noncomputable def m_exchanged : Nat → List D → Re Sl
  | 0 => fun _ => .bad
  | d + 1 => mkM 2 [] (q_exchanged (m_exchanged d))
/-- replaced: 0 term, 1 table, 2 name, 3 made -/
noncomputable def r_replaced : Rho → Os :=
  (rSeq (rDrop (rStill (rCall m_check_term (rCons (rVar 0) rNil))))
  (rSeq (rK [2] (rFor (rISeq (rStill (sortedO bSortKS (rCons (rVar 1) rNil)))) (gnm 2)
  (rK [2] (rDrop (rStill (rCall m_check_term (rCons (rDGet 1 (rVar 2)) rNil)))))))
  (rSeq (rSetO 3 (rCall (m_exchanged 18) (rCons (rVar 0) (rCons (rVar 1) rNil))))
  (rSeq (rF [3] (rDrop (rStill (rCall m_check_term (rCons (rVar 3) rNil)))))
  (rRetV 3)))))
noncomputable def m_replaced : List D → Re Sl := mkM 2 [.no, .no] r_replaced
/-- law: 0 _law_script, 1 _law_numbers_here, 2 _law_names_here, 3 _law_term_here, 4 _law_leaves_here, 5 _law_handed, 6 _law_given, 7 _law_table, 8 _law_k, 9 _law_kept, 10 _law_name -/
noncomputable def r_law : Rho → Os :=
  (rSeq (rSetO 1 (rCall m_law_numbers (rCons (rVar 0) (rCons (rC (.int 80)) rNil))))
  (rSeq (rF [1] (rSetO 2 (rCall m_law_word (rCons (rVar 1) (rCons (rC (.int 0)) rNil)))))
  (rSeq (rF [1, 2] (rSetO 3 (rCall m_law_term (rCons (rVar 1) (rCons (rC (.int 2)) (rCons (rVar 2) (rCons (rC (.int 7)) rNil)))))))
  (rSeq (rF [3] (rSetO 4 (rCall (m_law_leaves 18) (rCons (rVar 3) rNil))))
  (rSeq (rF [3] (rSetO 5 (rCall (m_law_lists 18) (rCons (rVar 3) rNil))))
  (rSeq (rK [6] (rF [3, 5] (rFor (rISeq (rStill (rLst (rCons (rVar 3) (rCons (rVar 5) rNil))))) (gnm 6)
  (rK [6] (rSeq (rIf (rOr (rTest (rOp oIsntA (rStill (rCall m_check_term (rCons (rVar 6) rNil))) (rC .non))) (rTest (rOp oNe (rCb bRepr (rCons (rStill (rCall m_leaf_count (rCons (rVar 6) rNil))) rNil)) (rCb bRepr (rCons (rLenV 4) rNil))))) (rRet (rC (.bl false)))
  rNext)
  (rF [3, 4] (rIf (rOr (rTest (rOp oNe (rCb bRepr (rCons (rStill (rCall m_names_of (rCons (rVar 6) rNil))) rNil)) (rCb bRepr (rCons (rStill (rSortSet (rVar 4))) rNil)))) (rTest (rOp oNe (rStill (rCall m_term_text (rCons (rVar 6) rNil))) (rStill (rCall (m_law_text 18) (rCons (rVar 3) rNil)))))) (rRet (rC (.bl false)))
  rNext)))))))
  (rSeq (rSetO 7 rNewK)
  (rSeq (rK [8] (rFor (rIRng1 (rCons (rOp oMod (rCb bInt (rCons (rIxV 1 (rC (.int 40))) rNil)) (rC (.int 4))) rNil)) (gnm 8)
  (rK [8] (rF [1, 2] (rDPut 7 (rOp oIx (rOp oAdd (rVar 2) (rStill (rLst (rCons (rC (.str "zz")) rNil)))) (rOp oMod (rCb bInt (rCons (rIxV 1 (rOp oAdd (rC (.int 41)) (rVar 8))) rNil)) (rOp oAdd (rLenV 2) (rC (.int 1))))) (rStill (rCall m_law_term (rCons (rVar 1) (rCons (rOp oAdd (rC (.int 46)) (rOp oMul (rC (.int 8)) (rVar 8))) (rCons (rVar 2) (rCons (rC (.int 3)) rNil)))))))))))
  (rSeq (rSetO 9 rNewK)
  (rSeq (rK [10] (rLockF 7 (rFor (rIKeysV 7) (gnm 10)
  (rK [10] (rDPut 9 (rVar 10) (rDGet 7 (rVar 10)))))))
  (rSeq (rF [3, 5, 7] (rIf (rTest (rOp oNe (rCb bRepr (rCons (rStill (rCall m_replaced (rCons (rVar 5) (rCons (rVar 7) rNil)))) rNil)) (rCb bRepr (rCons (rStill (rCall (m_law_replaced 18) (rCons (rVar 3) (rCons (rVar 7) rNil)))) rNil)))) (rRet (rC (.bl false)))
  rNext))
  (rF [3, 5, 7, 9] (rRet (rAndV (rOp oEq (rVar 5) (rStill (rCall (m_law_lists 18) (rCons (rVar 3) rNil)))) (rOp oEqDB (rVar 7) (rVar 9))))))))))))))))
end K35

set_option pp.deepTerms false
set_option pp.maxSteps 400
set_option maxRecDepth 100000
set_option maxHeartbeats 4000000
namespace K35
open PySem PySem.Spec L2 DL

def topS (i : Nat) : Stmt := PySem.Challenge.pw_paironce_k35_terms.main.body.getD i (.Pass ⟨0, 0, 0, 0⟩)
abbrev s_is_variable : Stmt := topS 8
theorem sc_is_variable : FnScope ["term", "char"] ["term"] (defScope s_is_variable) := ⟨rfl, rfl, rfl, by decide +kernel, rfl, by decide +kernel, by decide +kernel⟩
abbrev s_leaves : Stmt := topS 9
theorem sc_leaves : FnScope ["term", "found", "waiting", "part"] ["term"] (defScope s_leaves) := ⟨rfl, rfl, rfl, by decide +kernel, rfl, by decide +kernel, by decide +kernel⟩
abbrev s_check_term : Stmt := topS 10
theorem sc_check_term : FnScope ["term"] ["term"] (defScope s_check_term) := ⟨rfl, rfl, rfl, by decide +kernel, rfl, by decide +kernel, by decide +kernel⟩
abbrev s_kept : Stmt := topS 11
theorem sc_kept : FnScope ["term"] ["term"] (defScope s_kept) := ⟨rfl, rfl, rfl, by decide +kernel, rfl, by decide +kernel, by decide +kernel⟩
abbrev s_leaf_count : Stmt := topS 12
theorem sc_leaf_count : FnScope ["term"] ["term"] (defScope s_leaf_count) := ⟨rfl, rfl, rfl, by decide +kernel, rfl, by decide +kernel, by decide +kernel⟩
abbrev s_names_of : Stmt := topS 13
theorem sc_names_of : FnScope ["term", "name"] ["term"] (defScope s_names_of) := ⟨rfl, rfl, rfl, by decide +kernel, rfl, by decide +kernel, by decide +kernel⟩
abbrev s_written : Stmt := topS 14
theorem sc_written : FnScope ["term"] ["term"] (defScope s_written) := ⟨rfl, rfl, rfl, by decide +kernel, rfl, by decide +kernel, by decide +kernel⟩
abbrev s_term_text : Stmt := topS 15
theorem sc_term_text : FnScope ["term"] ["term"] (defScope s_term_text) := ⟨rfl, rfl, rfl, by decide +kernel, rfl, by decide +kernel, by decide +kernel⟩
abbrev s_replaced : Stmt := topS 16
theorem sc_replaced : FnScope ["term", "table", "name", "made"] ["term", "table"] (defScope s_replaced) := ⟨rfl, rfl, rfl, by decide +kernel, rfl, by decide +kernel, by decide +kernel⟩
abbrev s_exchanged : Stmt := topS 17
theorem sc_exchanged : FnScope ["term", "table"] ["term", "table"] (defScope s_exchanged) := ⟨rfl, rfl, rfl, by decide +kernel, rfl, by decide +kernel, by decide +kernel⟩
abbrev s_law_row : Stmt := topS 19
theorem sc_law_row : FnScope ["_law_cell", "_law_many", "_law_row_here", "_law_rest", "_law_mixed", "_law_k"] ["_law_cell", "_law_many"] (defScope s_law_row) := ⟨rfl, rfl, rfl, by decide +kernel, rfl, by decide +kernel, by decide +kernel⟩
abbrev s_law_numbers : Stmt := topS 20
theorem sc_law_numbers : FnScope ["_law_script", "_law_many", "_law_cells", "_law_each", "_law_numbers_here", "_law_cell", "_law_number"] ["_law_script", "_law_many"] (defScope s_law_numbers) := ⟨rfl, rfl, rfl, by decide +kernel, rfl, by decide +kernel, by decide +kernel⟩
abbrev s_law_names : Stmt := topS 21
theorem sc_law_names : FnScope ["_law_number", "_law_many", "_law_letters", "_law_size", "_law_rest", "_law_place", "_law_names_here", "_law_k", "_law_own", "_law_spot", "_law_step", "_law_first"] ["_law_number", "_law_many"] (defScope s_law_names) := ⟨rfl, rfl, rfl, by decide +kernel, rfl, by decide +kernel, by decide +kernel⟩
abbrev s_law_term : Stmt := topS 22
theorem sc_law_term : FnScope ["_law_numbers_here", "_law_at", "_law_names_here", "_law_most", "_law_rows", "_law_k", "_law_turn", "_law_place", "_law_other"] ["_law_numbers_here", "_law_at", "_law_names_here", "_law_most"] (defScope s_law_term) := ⟨rfl, rfl, rfl, by decide +kernel, rfl, by decide +kernel, by decide +kernel⟩
abbrev s_law_text : Stmt := topS 23
theorem sc_law_text : FnScope ["_law_term_here"] ["_law_term_here"] (defScope s_law_text) := ⟨rfl, rfl, rfl, by decide +kernel, rfl, by decide +kernel, by decide +kernel⟩
abbrev s_law_lists : Stmt := topS 24
theorem sc_law_lists : FnScope ["_law_term_here"] ["_law_term_here"] (defScope s_law_lists) := ⟨rfl, rfl, rfl, by decide +kernel, rfl, by decide +kernel, by decide +kernel⟩
abbrev s_law_leaves : Stmt := topS 25
theorem sc_law_leaves : FnScope ["_law_term_here"] ["_law_term_here"] (defScope s_law_leaves) := ⟨rfl, rfl, rfl, by decide +kernel, rfl, by decide +kernel, by decide +kernel⟩
abbrev s_law_word : Stmt := topS 26
theorem sc_law_word : FnScope ["_law_numbers_here", "_law_at"] ["_law_numbers_here", "_law_at"] (defScope s_law_word) := ⟨rfl, rfl, rfl, by decide +kernel, rfl, by decide +kernel, by decide +kernel⟩
abbrev s_law_replaced : Stmt := topS 27
theorem sc_law_replaced : FnScope ["_law_term_here", "_law_table"] ["_law_term_here", "_law_table"] (defScope s_law_replaced) := ⟨rfl, rfl, rfl, by decide +kernel, rfl, by decide +kernel, by decide +kernel⟩
abbrev s_law : Stmt := topS 28
theorem sc_law : FnScope ["_law_script", "_law_numbers_here", "_law_names_here", "_law_term_here", "_law_leaves_here", "_law_handed", "_law_given", "_law_table", "_law_k", "_law_kept", "_law_name"] ["_law_script"] (defScope s_law) := ⟨rfl, rfl, rfl, by decide +kernel, rfl, by decide +kernel, by decide +kernel⟩
/-- where things stand -/
structure Ad where
  f_is_variable : Addr
  d_is_variable : FuncData
  f_leaves : Addr
  d_leaves : FuncData
  f_check_term : Addr
  d_check_term : FuncData
  f_kept : Addr
  d_kept : FuncData
  f_leaf_count : Addr
  d_leaf_count : FuncData
  f_names_of : Addr
  d_names_of : FuncData
  f_written : Addr
  d_written : FuncData
  f_term_text : Addr
  d_term_text : FuncData
  f_replaced : Addr
  d_replaced : FuncData
  f_exchanged : Addr
  d_exchanged : FuncData
  f_law_row : Addr
  d_law_row : FuncData
  f_law_numbers : Addr
  d_law_numbers : FuncData
  f_law_names : Addr
  d_law_names : FuncData
  f_law_term : Addr
  d_law_term : FuncData
  f_law_text : Addr
  d_law_text : FuncData
  f_law_lists : Addr
  d_law_lists : FuncData
  f_law_leaves : Addr
  d_law_leaves : FuncData
  f_law_word : Addr
  d_law_word : FuncData
  f_law_replaced : Addr
  d_law_replaced : FuncData
  f_law : Addr
  d_law : FuncData
  c_InvalidTerm : Addr
def Ad.adr (A : Ad) (c : Cls) : Addr := match c with
  | .InvalidTerm => A.c_InvalidTerm
  | _ => (0 : Nat)

structure Txt (K : PySem.W.Frag) (mg : Str → Option Value) (A : Ad) : Prop where
  F_is_variable : Fun K "is_variable" "is_variable" s_is_variable A.f_is_variable A.d_is_variable
  g_is_variable : mg "is_variable" = some (.ref A.f_is_variable)
  b_is_variable : Binds K A.d_is_variable ["term"] []
  F_leaves : Fun K "leaves" "leaves" s_leaves A.f_leaves A.d_leaves
  g_leaves : mg "leaves" = some (.ref A.f_leaves)
  b_leaves : Binds K A.d_leaves ["term"] []
  F_check_term : Fun K "check_term" "check_term" s_check_term A.f_check_term A.d_check_term
  g_check_term : mg "check_term" = some (.ref A.f_check_term)
  b_check_term : Binds K A.d_check_term ["term"] []
  F_kept : Fun K "kept" "kept" s_kept A.f_kept A.d_kept
  g_kept : mg "kept" = some (.ref A.f_kept)
  b_kept : Binds K A.d_kept ["term"] []
  F_leaf_count : Fun K "leaf_count" "leaf_count" s_leaf_count A.f_leaf_count A.d_leaf_count
  g_leaf_count : mg "leaf_count" = some (.ref A.f_leaf_count)
  b_leaf_count : Binds K A.d_leaf_count ["term"] []
  F_names_of : Fun K "names_of" "names_of" s_names_of A.f_names_of A.d_names_of
  g_names_of : mg "names_of" = some (.ref A.f_names_of)
  b_names_of : Binds K A.d_names_of ["term"] []
  F_written : Fun K "written" "written" s_written A.f_written A.d_written
  g_written : mg "written" = some (.ref A.f_written)
  b_written : Binds K A.d_written ["term"] []
  F_term_text : Fun K "term_text" "term_text" s_term_text A.f_term_text A.d_term_text
  g_term_text : mg "term_text" = some (.ref A.f_term_text)
  b_term_text : Binds K A.d_term_text ["term"] []
  F_replaced : Fun K "replaced" "replaced" s_replaced A.f_replaced A.d_replaced
  g_replaced : mg "replaced" = some (.ref A.f_replaced)
  b_replaced : Binds K A.d_replaced ["term", "table"] []
  F_exchanged : Fun K "exchanged" "exchanged" s_exchanged A.f_exchanged A.d_exchanged
  g_exchanged : mg "exchanged" = some (.ref A.f_exchanged)
  b_exchanged : Binds K A.d_exchanged ["term", "table"] []
  F_law_row : Fun K "_law_row" "_law_row" s_law_row A.f_law_row A.d_law_row
  g_law_row : mg "_law_row" = some (.ref A.f_law_row)
  b_law_row : Binds K A.d_law_row ["_law_cell", "_law_many"] []
  F_law_numbers : Fun K "_law_numbers" "_law_numbers" s_law_numbers A.f_law_numbers A.d_law_numbers
  g_law_numbers : mg "_law_numbers" = some (.ref A.f_law_numbers)
  b_law_numbers : Binds K A.d_law_numbers ["_law_script", "_law_many"] []
  F_law_names : Fun K "_law_names" "_law_names" s_law_names A.f_law_names A.d_law_names
  g_law_names : mg "_law_names" = some (.ref A.f_law_names)
  b_law_names : Binds K A.d_law_names ["_law_number", "_law_many"] []
  F_law_term : Fun K "_law_term" "_law_term" s_law_term A.f_law_term A.d_law_term
  g_law_term : mg "_law_term" = some (.ref A.f_law_term)
  b_law_term : Binds K A.d_law_term ["_law_numbers_here", "_law_at", "_law_names_here", "_law_most"] []
  F_law_text : Fun K "_law_text" "_law_text" s_law_text A.f_law_text A.d_law_text
  g_law_text : mg "_law_text" = some (.ref A.f_law_text)
  b_law_text : Binds K A.d_law_text ["_law_term_here"] []
  F_law_lists : Fun K "_law_lists" "_law_lists" s_law_lists A.f_law_lists A.d_law_lists
  g_law_lists : mg "_law_lists" = some (.ref A.f_law_lists)
  b_law_lists : Binds K A.d_law_lists ["_law_term_here"] []
  F_law_leaves : Fun K "_law_leaves" "_law_leaves" s_law_leaves A.f_law_leaves A.d_law_leaves
  g_law_leaves : mg "_law_leaves" = some (.ref A.f_law_leaves)
  b_law_leaves : Binds K A.d_law_leaves ["_law_term_here"] []
  F_law_word : Fun K "_law_word" "_law_word" s_law_word A.f_law_word A.d_law_word
  g_law_word : mg "_law_word" = some (.ref A.f_law_word)
  b_law_word : Binds K A.d_law_word ["_law_numbers_here", "_law_at"] []
  F_law_replaced : Fun K "_law_replaced" "_law_replaced" s_law_replaced A.f_law_replaced A.d_law_replaced
  g_law_replaced : mg "_law_replaced" = some (.ref A.f_law_replaced)
  b_law_replaced : Binds K A.d_law_replaced ["_law_term_here", "_law_table"] []
  F_law : Fun K "law" "law" s_law A.f_law A.d_law
  g_law : mg "law" = some (.ref A.f_law)
  b_law : Binds K A.d_law ["_law_script"] []
  z_abs : mg "abs" = none
  z_all : mg "all" = none
  z_int : mg "int" = none
  z_isinstance : mg "isinstance" = none
  z_len : mg "len" = none
  z_list : mg "list" = none
  z_max : mg "max" = none
  z_min : mg "min" = none
  z_range : mg "range" = none
  z_repr : mg "repr" = none
  z_set : mg "set" = none
  z_sorted : mg "sorted" = none
  z_str : mg "str" = none
  z_tuple : mg "tuple" = none
  c_FIRST_CHARS : ∃ t, mg "FIRST_CHARS" = some (.str "abcdefghijklmnopqrstuvwxyz" t)
  c_MOST_LEAVES : ∃ t, mg "MOST_LEAVES" = some (.int 200 t)
  c_MOST_NAME_CHARS : ∃ t, mg "MOST_NAME_CHARS" = some (.int 12 t)
  c_NAME_CHARS : ∃ t, mg "NAME_CHARS" = some (.str "abcdefghijklmnopqrstuvwxyz0123456789" t)
  gC_InvalidTerm : mg "InvalidTerm" = some (.ref A.c_InvalidTerm)
  k_InvalidTerm : PySem.W.keepIn K (.ref A.c_InvalidTerm) = true
  s_InvalidTerm : PySem.W.subIn K (.ref A.c_InvalidTerm) (.type "BaseException") = some true
  t_InvalidTerm : PySem.W.typeIn K (.ref A.c_InvalidTerm) = some (.type "type")
  h_InvalidTerm : PySem.W.hasDictIn K A.c_InvalidTerm = true
  x_InvalidTerm : PySem.W.excIn K A.c_InvalidTerm [.type "ValueError", .type "Exception", .type "BaseException", .type "object"] "ValueError.__new__" = true
structure TxtP (P : Program) (w : World) (K : PySem.W.Frag) (mg : Str → Option Value) (A : Ad) : Prop extends Txt K mg A where

end K35

set_option maxRecDepth 100000
set_option maxHeartbeats 4000000
namespace K35
open PySem PySem.Spec L2 DL
local macro_rules | `(tactic| walk_at "r") => `(tactic| try simp -implicitDefEqProofs (disch := omega) only [rDisp1, e_bSortKS_d, asKS_map, rM1, rM1O, rM0, rM0O, e_oJoin_l, e_oJoin_t, e_bStrA_i, e_bStrA_s, rFs, rJs, e_oFmt_i, e_oFmt_s, rIStr, e_oSplit, e_oWords, xAugL, e_bIntS, mkM, rC, rVar, rOp, rUn, rCb, rNil, rCons, rStar, rApp, rApp2, rStill, rCall, rTup, rLst, rNewK, rNewT, rAndV, rOrV, rNotV, rIfE, rChain, rChain3, rChain4, rTest, rYes, rAnd, rOr, rNot, rTru, gnm,
  rNext, rBreak, rCont, rRetN, rSeq, rDrop, rRet, rRetO, rRetV, rSet, rSetO, rAsg, rIf, rK, rF, rPar, rPar3, rFor, rAug, aug, xAppend, rIxV, rLenV, gsub, rAugS, xInsert, xPopAt, rDGet, rDGet2, rDIn, rDNotIn, rDLen, rDPut, rLockF, xModIx, xModIn, rRaise0, rRaise1, xIsX, rXf, rXfC,
  rListOfD, rListOfA, e_seqK_l, e_seqK_t, e_seqK_d, e_seqK_f, rTruV, List.isEmpty_map, xExtend, xSetPop, xSetPopAt, rDc, rLkO, rLstRg1, sortedO, List.isEmpty_cons, List.isEmpty_nil, List.head?_cons, List.head?_nil, List.find?_nil, xIsi, xIsi2, rIList, rITup, rISeq, rIRng1, rIRng2, rIRng3, rIEnum, rIValsN, rIValsV, rIKeysV, rPN, rPS, rSl, rL, rLO, rLc, rLc2, wipeR,
  Re.ok_bind, Re.ex_bind, Re.bad_bind, Re.ok_os, Re.ex_os, Re.bad_os, Os.nx_thn, Os.rt_thn, Os.bk_thn, Os.ct_thn, Os.ex_thn, Os.bad_thn, Os.uni_const, rowB, gt, frz, frz1, fgt, D.has, D.hass, asI, asB, asT, asI_map, asB_map, asT_map, keysK, keyT_tD,
  e_of_some, e_osof, e_ret_nx, e_ret_rt, e_ret_ex, e_kil_nx, e_kil_bk, e_kil_ct, e_kil_rt, e_kil_ex, e_noexc_nx, e_noexc_bk, e_noexc_ct, e_noexc_rt, e_noex, e_val, e_get_dat, e_get_own, e_get_oK, e_get_oT, e_rtv_dat, e_rtv_own, e_rtv_oK, e_rtv_oT, e_ownL, e_isD_oT, e_isD_dT, e_isD_fT, e_isOD_T, e_ask_oT, e_has_oT, e_len_oT, e_ask_dT, e_has_dT, e_len_dT, e_ask_fT, e_has_fT, e_len_fT, e_put_T, e_lock_T, e_isD_oK, e_isD_dK, e_isD_fK, e_isOD_K, e_ask_oK, e_has_oK, e_len_oK, e_ask_dK, e_has_dK, e_len_dK, e_ask_fK, e_has_fK, e_len_fK, e_put_K, e_lock_K, e_keyK_int, e_keyK_str, e_keyT2, e_keyT3, e_blD, e_tru_non, e_tru_bl, e_tru_int, e_tru_lst, e_tru_tup, e_seq_l, e_seq_t, e_gtp, e_gls, e_gco, e_gni, e_oSub, e_oLt, e_oLe, e_oGt, e_oGe, e_oEq, e_oNe, e_oAdd, e_oIAdd, e_oXor, e_oAddL, e_oAddS, oEqTs, oNeTs, oEqLI, oNeLI, oEqTI, oNeTI, e_oAddT, e_oMulR, e_oMulL, e_oMul, e_oMulLst, e_oIMulR, e_oIMulL, e_oDiv, e_oDivB, e_oMod, e_oPow, e_oEqS, e_oNeS, e_oEqB, e_oNeB, e_oIs, e_oIsNot, e_nonD, e_nonD_int, e_nonD_str, e_nonD_lst, e_nonD_tup, e_nonD_bl, e_oNeg, e_oIxL, e_oIxT, e_oIn_lst, e_oIn_tup, e_oNotIn_lst, e_oNotIn_tup, e_oSlL_l, e_oSlL_s, e_oSlAny_l, e_oSlAny_s, rRev, e_oRev_l, e_oRev_t, e_oSlA_t, e_oSlAny_t, e_bAbs, e_bLenL, e_bLenT, e_bInt, e_bIntT, e_bIntF, e_bIntB, e_bTupL, e_bTupT, e_bMax2, e_bMin2, e_bAll, e_bAny, e_bSumA, e_bSumAt, e_bMinR, rTupRg1, xAppPopAt, rRep1, e_bSorted_lst, e_bSorted_tup, e_isT_non_int, e_isT_non_bool, e_isT_non_str, e_isT_non_list, e_isT_non_tuple, e_isT_bl_int, e_isT_bl_bool, e_isT_bl_str, e_isT_bl_list, e_isT_bl_tuple, e_isT_int_int, e_isT_int_bool, e_isT_int_str, e_isT_int_list, e_isT_int_tuple, e_isT_str_int, e_isT_str_bool, e_isT_str_str, e_isT_str_list, e_isT_str_tuple, e_isT_lst_int, e_isT_lst_bool, e_isT_lst_str, e_isT_lst_list, e_isT_lst_tuple, e_isT_tup_int, e_isT_tup_bool, e_isT_tup_str, e_isT_tup_list, e_isT_tup_tuple, e_irng1, e_irng2, e_irng3, e_oIsA_n, e_oIsA_b, e_oIsntA_n, e_oIsntA_b, oInA, oNotInA, e_inD_il, e_inD_it, e_inD_sl, e_inD_st, e_inD_tl, e_inD_ti, asS, asS_map, Option.isSome_some, Option.isSome_none, k_bose_skolem, k_bose_affine, k_bose_binary, k_bose_listed, k_bose_double, k_bose_product, k_skolem_bose, k_skolem_affine, k_skolem_binary, k_skolem_listed, k_skolem_double, k_skolem_product, k_affine_bose, k_affine_skolem, k_affine_binary, k_affine_listed, k_affine_double, k_affine_product, k_binary_bose, k_binary_skolem, k_binary_affine, k_binary_listed, k_binary_double, k_binary_product, k_listed_bose, k_listed_skolem, k_listed_affine, k_listed_binary, k_listed_double, k_listed_product, k_double_bose, k_double_skolem, k_double_affine, k_double_binary, k_double_listed, k_double_product, k_product_bose, k_product_skolem, k_product_affine, k_product_binary, k_product_listed, k_product_double, arm_bose, arm_skolem, arm_affine, arm_binary, arm_listed, arm_double, arm_product, e_shas_oT, e_shas_oK, hass_pD, hass_lI, e_lendD, e_lendS, e_has_dat, e_has_own, e_hass_ints, e_hass_tI, and_okP, or_okP, andD_okP, orD_okP, atI_lit, e_ixN, List.getElem?_cons_zero, List.getElem?_cons_succ,
  List.map_cons, List.map_nil, List.cons_append, List.nil_append, List.length_cons, List.length_nil, List.length_map, List.length_append, List.length_take, List.length_drop, rg_len, rgs_len, rgd_len, List.length_set, List.set_cons_zero, List.set_cons_succ, Nat.reduceAdd, Nat.reduceLeDiff, Nat.reduceEqDiff, Option.bind_some, Option.map_some, Option.bind_none, Option.map_none, Bool.not_true, Bool.not_false, Bool.or_false, Bool.false_or, Bool.and_true, Bool.true_and, Bool.or_true, Bool.true_or, Bool.and_false, Bool.false_and, Bool.or_self, Bool.and_self, Bool.not_not,
  decide_true, decide_false, decide_eq_true_eq, Bool.and_eq_true, Bool.or_eq_true, bnot_true, bool_eqf, ite_not, Decidable.not_not, if_true, if_false, ite_true, ite_false, Bool.false_eq_true, and_true, true_and, false_and, and_false, and_self, eq_self, reduceCtorEq, not_true, not_false_eq_true, and_ok, or_ok, andD_ok, orD_ok, if_pos, if_neg, Int.reduceLE, Int.reduceLT, Int.reduceNeg, Int.reduceAdd, Int.reduceSub, Int.reduceMul, Int.reduceMod, Int.reduceDiv, Int.reduceEq, Int.reducePow, Nat.reducePow, Int.reduceToNat])
/-! drawn numbers -/
theorem m_law_row_ok (x m : Int) (hm : 0 ≤ m ∧ m ≤ 2000) : ∃ l, m_law_row [.int x, .int m] = .ok (.own (l.map D.int)) ∧ Nums l m.toNat := by
  unfold m_law_row r_law_row
  walk_at "r"
  generalize (if x < 0 then -x else x) = x0
  generalize hq : forGo _ _ _ = q
  obtain ⟨s, rfl, hs⟩ := for_out hq (fun s : List Int × Int × Int => [.dat (.int x), .dat (.int m), .own (s.1.map D.int), .dat (.int s.2.1), .dat (.int s.2.2), .no]) (fun i s => Nums s.1 i) ([], x0, _) rfl ⟨rfl, by simp⟩ (by
    rintro i k ⟨l, r, c⟩ hx hl
    dsimp only at hl ⊢
    have hi := rg_lt hx
    have hll := hl.1
    dsimp only [stepFor, gnm]
    walk_at "r"
    by_cases h : 1000000000000000000 ≤ if x < 0 then -x else x
    · rw [if_pos h]
      exact ⟨(l ++ [r % 1009], _, _), by walk_at "r"; rw [map_snoc], hl.snoc (by omega) (by omega)⟩
    · rw [if_neg h]
      exact ⟨(l ++ [_ / 7 % 1009], _, _), by walk_at "r"; rw [map_snoc], hl.snoc (by omega) (by omega)⟩)
  walk_at "r"
  rw [rg_len] at hs
  exact ⟨s.1, rfl, hs⟩
theorem cut_take (l : List Int) (n : Int) (h : 0 ≤ n) : cutD (l.map D.int) none (some n) = (l.take n.toNat).map D.int := by
  have em : n = ((n.toNat : Nat) : Int) := by omega
  rw [List.map_take, em, Int.toNat_natCast]; exact cutD_take _ _
theorem m_law_numbers_ok (ns : List Int) (m : Int) (hn : ns.length ≤ 63) (hm : 0 ≤ m ∧ m ≤ 1000) : ∃ l, m_law_numbers [.src ns, .int m] = .ok (.dat (.lst (l.map D.int))) ∧ Nums l m.toNat := by
  unfold m_law_numbers r_law_numbers
  walk_at "r"
  rw [cut_take ns 63 (by decide)]
  have hlen : (ns.take (63 : Int).toNat).length ≤ 63 := by rw [List.length_take]; exact Nat.min_le_left _ _
  generalize ns.take (63 : Int).toNat = cs at hlen ⊢
  walk_at "r"
  generalize hd : m / max 1 (cs.length : Int) = e
  have he : 0 ≤ e ∧ e ≤ 1000 := by
    rw [← hd]
    exact ⟨Int.ediv_nonneg (by omega) (by omega), Int.le_trans (Int.ediv_le_self _ (by omega)) (by omega)⟩
  generalize hq : forGo _ _ _ = q
  obtain ⟨s, rfl, hs⟩ := for_out hq (fun s : List Int => [.dat (.src ns), .dat (.int m), .dat (.lst (cs.map D.int)), .dat (.int (1 + e)), .own (s.map D.int), .no, .no]) (fun i s => Nums s (i * (1 + e).toNat)) [] rfl (by simp [Nums]) (by
    rintro i k l hx hl
    have hi := at_lt hx
    have hi : i < 63 := by
      have := (List.getElem?_eq_some_iff.mp hx).1
      omega
    dsimp only [stepFor, gnm]
    walk_at "r"
    obtain ⟨r, er, hr⟩ := m_law_row_ok k (1 + e) (by omega)
    rw [er]
    walk_at "r"
    clear hq
    generalize hq : forGo _ _ _ = q
    have hmul : i * (1 + e).toNat ≤ 63 * 1001 := Nat.mul_le_mul (by omega) (by omega)
    obtain ⟨s, rfl, hs⟩ := for_out hq (fun s : List Int => [.dat (.src ns), .dat (.int m), .dat (.lst (cs.map D.int)), .dat (.int (1 + e)), .own (s.map D.int), .dat (.int k), .no]) (fun j s => Nums s (i * (1 + e).toNat + j)) l rfl hl (by
      rintro j y l' hy hl'
      have hj := at_lt hy
      rw [hr.1] at hj
      have := hl'.1
      dsimp only [stepFor, gnm]
      walk_at "r"
      have hb := hr.2 y (List.mem_of_getElem? hy)
      exact ⟨l' ++ [y], by rw [map_snoc], hl'.snoc hb.1 hb.2⟩)
    walk_at "r"
    rw [hr.1] at hs
    exact ⟨s, rfl, by rw [Nat.add_mul, Nat.one_mul]; exact hs⟩)
  walk_at "r"
  clear hq
  generalize hq : rWhile _ _ _ = q
  have hmul : cs.length * (1 + e).toNat ≤ 63 * 1001 := Nat.mul_le_mul (by omega) (by omega)
  obtain ⟨s, rfl, hs⟩ := while_out hq (fun s : List Int => [.dat (.src ns), .dat (.int m), .dat (.lst (cs.map D.int)), .dat (.int (1 + e)), .own (s.map D.int), .no, .no]) (fun s => Nums s s.length ∧ s.length ≤ 100000) (fun s => m.toNat - s.length) (fun s => Nums s s.length ∧ m ≤ s.length) s rfl
    ⟨by rw [hs.1]; exact hs, by rw [hs.1]; omega⟩ (by
      rintro l ⟨hl, hz⟩
      walk_at "r"
      by_cases h : (l.length : Int) < m
      · refine .inr ⟨by rw [decide_eq_true h], l ++ [0], .inl (by rw [map_snoc (f := D.int)]), ?_, ?_, ?_⟩
        · rw [List.length_append]; simp only [List.length_singleton]; omega
        · have := hl.snoc (x := 0) (by omega) (by omega)
          rw [List.length_append]; exact this
        · rw [List.length_append]; simp only [List.length_singleton]; omega
      · exact .inl ⟨by rw [decide_eq_false h], hl, by omega⟩)
  walk_at "r"
  rw [cut_take s m hm.1]
  exact ⟨_, rfl, hs.1.take (by omega)⟩
/-! terms: names and pairs -/
def alphaS : Str := "abcdefghijklmnopqrstuvwxyz"
def alnumS : Str := "abcdefghijklmnopqrstuvwxyz0123456789"
inductive Tm where
  | nm (s : Str)
  | pr (a b : Tm)
  deriving DecidableEq
def Tm.d : Tm → D
  | .nm s => .str s
  | .pr a b => .tup [a.d, b.d]
def Tm.ld : Tm → D
  | .nm s => .str s
  | .pr a b => .lst [a.ld, b.ld]
def Tm.tx : Tm → Str
  | .nm s => s
  | .pr a b => ("(" : Str) ++ a.tx ++ (" " : Str) ++ b.tx ++ (")" : Str)
def Tm.dep : Tm → Nat
  | .nm _ => 0
  | .pr a b => max a.dep b.dep + 1
def Tm.lvs : Tm → Nat
  | .nm _ => 1
  | .pr a b => a.lvs + b.lvs
def NCh (c : Nat) : Prop := c ∈ alnumS.cps.toList
instance (c : Nat) : Decidable (NCh c) := inferInstanceAs (Decidable (c ∈ alnumS.cps.toList))
structure Nm (s : Str) : Prop where
  len : 1 ≤ s.length ∧ s.length ≤ 12
  hd : ∃ c r, s.cps.toList = c :: r ∧ c ∈ alphaS.cps.toList
  al : ∀ c ∈ s.cps.toList, NCh c
def TOk : Tm → Prop
  | .nm s => Nm s
  | .pr a b => TOk a ∧ TOk b
theorem nch_lt {c : Nat} (h : NCh c) : c < 256 := by
  have : ∀ c ∈ alnumS.cps.toList, c < 256 := by decide +kernel
  exact this c h
theorem Tm.lvs_pos : ∀ t : Tm, 1 ≤ t.lvs
  | .nm _ => Nat.le_refl _
  | .pr a b => by have := a.lvs_pos; show 1 ≤ a.lvs + b.lvs; omega
def Ends (r : List Nat) : Prop := ∀ c, r.head? = some c → ¬ NCh c
/-- before: by the length of the text, then the text -/
def kl (a b : Tm) : Bool := ltIS a.tx.length a.tx b.tx.length b.tx
/-- the other part of a pair -/
def oth (p : Tm) : Tm → Option Tm
  | .nm _ => none
  | .pr x y => if x = p then some y else if y = p then some x else none
/-! as data -/
theorem tm_sm : ∀ {t : Tm}, TOk t → DL.Sm t.dep (14 * t.lvs - 2) t.d
  | .nm s, h => (DL.Sm.str (n := 12) (fun c hc => nch_lt (h.al c hc)) h.len.2).mono (Nat.le_refl _) (by show 12 ≤ 14 * 1 - 2; omega)
  | .pr a b, h => by
    have ha := tm_sm h.1
    have hb := tm_sm h.2
    refine ⟨fun x hx => ?_, ?_, ?_, ?_⟩
    · simp only [List.mem_cons, List.not_mem_nil, or_false] at hx
      rcases hx with rfl | rfl
      · exact ha.sh.le (by show a.dep ≤ max a.dep b.dep; omega)
      · exact hb.sh.le (by show b.dep ≤ max a.dep b.dep; omega)
    · have := ha.a; have := hb.a
      show PyData.showable (.tuple [a.d.py, b.d.py]) = true
      simp [PyData.showable, PyData.showableAll, *]
    · have := ha.b; have := hb.b
      show PyData.leavesShort 13 (.tuple [a.d.py, b.d.py]) = true
      simp [PyData.leavesShort, PyData.leavesShortAll, *]
    · have := ha.c; have := hb.c
      show PyData.weight (.tuple [a.d.py, b.d.py]) ≤ 14 * (a.lvs + b.lvs) - 2
      simp only [PyData.weight, PyData.weightAll]
      have := a.lvs_pos
      have := b.lvs_pos
      omega
theorem sh_tm {t : Tm} (h : TOk t) (hd : t.dep ≤ 60) : Sh t.d := ⟨t.dep, by omega, (tm_sm h).sh⟩
theorem tx_len : ∀ {t : Tm}, TOk t → t.tx.length + 3 ≤ 15 * t.lvs
  | .nm s, h => by have := h.len.2; show s.length + 3 ≤ 15; omega
  | .pr a b, h => by
    have := tx_len h.1
    have := tx_len h.2
    show ((("(" : Str) ++ a.tx ++ (" " : Str) ++ b.tx ++ (")" : Str))).length + 3 ≤ 15 * (a.lvs + b.lvs)
    rw [app_len, app_len, app_len, app_len, show (("(" : Str)).length = 1 by decide +kernel, show ((" " : Str)).length = 1 by decide +kernel, show ((")" : Str)).length = 1 by decide +kernel]
    omega
end K35

set_option maxRecDepth 100000
set_option maxHeartbeats 4000000
namespace K35
open PySem PySem.Spec L2 DL
local macro_rules | `(tactic| walk_at "r") => `(tactic| try simp -implicitDefEqProofs (disch := omega) only [rDisp1, e_bSortKS_d, asKS_map, rM1, rM1O, rM0, rM0O, e_oJoin_l, e_oJoin_t, e_bStrA_i, e_bStrA_s, rFs, rJs, e_oFmt_i, e_oFmt_s, rIStr, e_oSplit, e_oWords, xAugL, e_bIntS, mkM, rC, rVar, rOp, rUn, rCb, rNil, rCons, rStar, rApp, rApp2, rStill, rCall, rTup, rLst, rNewK, rNewT, rAndV, rOrV, rNotV, rIfE, rChain, rChain3, rChain4, rTest, rYes, rAnd, rOr, rNot, rTru, gnm,
  rNext, rBreak, rCont, rRetN, rSeq, rDrop, rRet, rRetO, rRetV, rSet, rSetO, rAsg, rIf, rK, rF, rPar, rPar3, rFor, rAug, aug, xAppend, rIxV, rLenV, gsub, rAugS, xInsert, xPopAt, rDGet, rDGet2, rDIn, rDNotIn, rDLen, rDPut, rLockF, xModIx, xModIn, rRaise0, rRaise1, xIsX, rXf, rXfC,
  rListOfD, rListOfA, e_seqK_l, e_seqK_t, e_seqK_d, e_seqK_f, rTruV, List.isEmpty_map, xExtend, xSetPop, xSetPopAt, rDc, rLkO, rLstRg1, sortedO, List.isEmpty_cons, List.isEmpty_nil, List.head?_cons, List.head?_nil, List.find?_nil, xIsi, xIsi2, rIList, rITup, rISeq, rIRng1, rIRng2, rIRng3, rIEnum, rIValsN, rIValsV, rIKeysV, rPN, rPS, rSl, rL, rLO, rLc, rLc2, wipeR,
  Re.ok_bind, Re.ex_bind, Re.bad_bind, Re.ok_os, Re.ex_os, Re.bad_os, Os.nx_thn, Os.rt_thn, Os.bk_thn, Os.ct_thn, Os.ex_thn, Os.bad_thn, Os.uni_const, rowB, gt, frz, frz1, fgt, D.has, D.hass, asI, asB, asT, asI_map, asB_map, asT_map, keysK, keyT_tD,
  e_of_some, e_osof, e_ret_nx, e_ret_rt, e_ret_ex, e_kil_nx, e_kil_bk, e_kil_ct, e_kil_rt, e_kil_ex, e_noexc_nx, e_noexc_bk, e_noexc_ct, e_noexc_rt, e_noex, e_val, e_get_dat, e_get_own, e_get_oK, e_get_oT, e_rtv_dat, e_rtv_own, e_rtv_oK, e_rtv_oT, e_ownL, e_isD_oT, e_isD_dT, e_isD_fT, e_isOD_T, e_ask_oT, e_has_oT, e_len_oT, e_ask_dT, e_has_dT, e_len_dT, e_ask_fT, e_has_fT, e_len_fT, e_put_T, e_lock_T, e_isD_oK, e_isD_dK, e_isD_fK, e_isOD_K, e_ask_oK, e_has_oK, e_len_oK, e_ask_dK, e_has_dK, e_len_dK, e_ask_fK, e_has_fK, e_len_fK, e_put_K, e_lock_K, e_keyK_int, e_keyK_str, e_keyT2, e_keyT3, e_blD, e_tru_non, e_tru_bl, e_tru_int, e_tru_lst, e_tru_tup, e_seq_l, e_seq_t, e_gtp, e_gls, e_gco, e_gni, e_oSub, e_oLt, e_oLe, e_oGt, e_oGe, e_oEq, e_oNe, e_oAdd, e_oIAdd, e_oXor, e_oAddL, e_oAddS, oEqTs, oNeTs, oEqLI, oNeLI, oEqTI, oNeTI, e_oAddT, e_oMulR, e_oMulL, e_oMul, e_oMulLst, e_oIMulR, e_oIMulL, e_oDiv, e_oDivB, e_oMod, e_oPow, e_oEqS, e_oNeS, e_oEqB, e_oNeB, e_oIs, e_oIsNot, e_nonD, e_nonD_int, e_nonD_str, e_nonD_lst, e_nonD_tup, e_nonD_bl, e_oNeg, e_oIxL, e_oIxT, e_oIn_lst, e_oIn_tup, e_oNotIn_lst, e_oNotIn_tup, e_oSlL_l, e_oSlL_s, e_oSlAny_l, e_oSlAny_s, rRev, e_oRev_l, e_oRev_t, e_oSlA_t, e_oSlAny_t, e_bAbs, e_bLenL, e_bLenT, e_bInt, e_bIntT, e_bIntF, e_bIntB, e_bTupL, e_bTupT, e_bMax2, e_bMin2, e_bAll, e_bAny, e_bSumA, e_bSumAt, e_bMinR, rTupRg1, xAppPopAt, rRep1, e_bSorted_lst, e_bSorted_tup, e_isT_non_int, e_isT_non_bool, e_isT_non_str, e_isT_non_list, e_isT_non_tuple, e_isT_bl_int, e_isT_bl_bool, e_isT_bl_str, e_isT_bl_list, e_isT_bl_tuple, e_isT_int_int, e_isT_int_bool, e_isT_int_str, e_isT_int_list, e_isT_int_tuple, e_isT_str_int, e_isT_str_bool, e_isT_str_str, e_isT_str_list, e_isT_str_tuple, e_isT_lst_int, e_isT_lst_bool, e_isT_lst_str, e_isT_lst_list, e_isT_lst_tuple, e_isT_tup_int, e_isT_tup_bool, e_isT_tup_str, e_isT_tup_list, e_isT_tup_tuple, e_irng1, e_irng2, e_irng3, e_oIsA_n, e_oIsA_b, e_oIsntA_n, e_oIsntA_b, oInA, oNotInA, e_inD_il, e_inD_it, e_inD_sl, e_inD_st, e_inD_tl, e_inD_ti, asS, asS_map, Option.isSome_some, Option.isSome_none, k_bose_skolem, k_bose_affine, k_bose_binary, k_bose_listed, k_bose_double, k_bose_product, k_skolem_bose, k_skolem_affine, k_skolem_binary, k_skolem_listed, k_skolem_double, k_skolem_product, k_affine_bose, k_affine_skolem, k_affine_binary, k_affine_listed, k_affine_double, k_affine_product, k_binary_bose, k_binary_skolem, k_binary_affine, k_binary_listed, k_binary_double, k_binary_product, k_listed_bose, k_listed_skolem, k_listed_affine, k_listed_binary, k_listed_double, k_listed_product, k_double_bose, k_double_skolem, k_double_affine, k_double_binary, k_double_listed, k_double_product, k_product_bose, k_product_skolem, k_product_affine, k_product_binary, k_product_listed, k_product_double, arm_bose, arm_skolem, arm_affine, arm_binary, arm_listed, arm_double, arm_product, e_shas_oT, e_shas_oK, hass_pD, hass_lI, e_lendD, e_lendS, e_has_dat, e_has_own, e_hass_ints, e_hass_tI, and_okP, or_okP, andD_okP, orD_okP, atI_lit, e_ixN, List.getElem?_cons_zero, List.getElem?_cons_succ,
  List.map_cons, List.map_nil, List.cons_append, List.nil_append, List.length_cons, List.length_nil, List.length_map, List.length_append, List.length_take, List.length_drop, rg_len, rgs_len, rgd_len, List.length_set, List.set_cons_zero, List.set_cons_succ, Nat.reduceAdd, Nat.reduceLeDiff, Nat.reduceEqDiff, Option.bind_some, Option.map_some, Option.bind_none, Option.map_none, Bool.not_true, Bool.not_false, Bool.or_false, Bool.false_or, Bool.and_true, Bool.true_and, Bool.or_true, Bool.true_or, Bool.and_false, Bool.false_and, Bool.or_self, Bool.and_self, Bool.not_not,
  decide_true, decide_false, decide_eq_true_eq, Bool.and_eq_true, Bool.or_eq_true, bnot_true, bool_eqf, ite_not, Decidable.not_not, if_true, if_false, ite_true, ite_false, Bool.false_eq_true, and_true, true_and, false_and, and_false, and_self, eq_self, reduceCtorEq, not_true, not_false_eq_true, and_ok, or_ok, andD_ok, orD_ok, if_pos, if_neg, Int.reduceLE, Int.reduceLT, Int.reduceNeg, Int.reduceAdd, Int.reduceSub, Int.reduceMul, Int.reduceMod, Int.reduceDiv, Int.reduceEq, Int.reducePow, Nat.reducePow, Int.reduceToNat])
/-! names -/
theorem e_bLenS {s : Str} : bLen [.str s] = if s.length ≤ 1000000 then some (.int s.length) else none := rfl
theorem alnum_len : alnumS.length = 36 := by decide +kernel
theorem alpha_nch {c : Nat} (h : c ∈ alphaS.cps.toList) : NCh c := by
  have : ∀ c ∈ alphaS.cps.toList, NCh c := by decide +kernel
  exact this c h
def chA (i : Int) : Nat := alnumS.cps.toList.getD i.toNat 0
theorem alnum_at {i : Int} (h : 0 ≤ i ∧ i < 36) : oIx (.str alnumS) (.int i) = some (.str ⟨#[chA i]⟩) ∧ NCh (chA i) := by
  have hl : i.toNat < alnumS.cps.toList.length := by rw [Array.length_toList]; have := alnum_len; unfold Str.length at this; omega
  have e : chA i = alnumS.cps.toList[i.toNat] := by unfold chA; rw [List.getD_eq_getElem?_getD, List.getElem?_eq_getElem hl]; rfl
  refine ⟨?_, e ▸ List.getElem_mem hl⟩
  rw [e_ixS, if_pos (by rw [alnum_len]; decide), atI_pos h.1, List.getElem?_eq_getElem hl, e]
  rfl
theorem alpha_at {i : Int} (h : 0 ≤ i ∧ i < 26) : chA i ∈ alphaS.cps.toList := by
  have hl : i.toNat < alnumS.cps.toList.length := by rw [Array.length_toList]; have := alnum_len; unfold Str.length at this; omega
  have e : chA i = alnumS.cps.toList[i.toNat] := by unfold chA; rw [List.getD_eq_getElem?_getD, List.getElem?_eq_getElem hl]; rfl
  have q : ∀ k, k < 26 → ∀ h : k < alnumS.cps.toList.length, alnumS.cps.toList[k] ∈ alphaS.cps.toList := by decide +kernel
  rw [e]
  exact q _ (by omega) hl
/-- a text of the signs of names -/
structure Al (s : Str) (n : Nat) : Prop where
  len : s.length ≤ n
  al : ∀ c ∈ s.cps.toList, NCh c
theorem Al.one {c : Nat} (h : NCh c) : Al ⟨#[c]⟩ 1 := ⟨Nat.le_refl _, fun d hd => by
  have : d = c := by simpa using hd
  exact this ▸ h⟩
theorem Al.app {s t : Str} {n m : Nat} (h : Al s n) (k : Al t m) : Al (s ++ t) (n + m) := ⟨by rw [app_len]; exact Nat.add_le_add h.len k.len, fun c hc => by
  rw [app_list, List.mem_append] at hc
  exact hc.elim (h.al c) (k.al c)⟩
theorem cut_list (z : Str) (lo hi : Option Int) : (cutS z lo hi).cps.toList = (z.cps.toList.drop (HT.sIx z.length 0 lo)).take (HT.sIx z.length z.length hi - HT.sIx z.length 0 lo) := by
  show ((z.cps.toList.drop (HT.sIx z.length 0 lo)).take (HT.sIx z.length z.length hi - HT.sIx z.length 0 lo)).toArray.toList = _
  simp
theorem Al.cut {s : Str} {n : Nat} (h : Al s n) (lo hi : Option Int) : Al (cutS s lo hi) n := ⟨Nat.le_trans (cutS_length _ _ _) h.len, fun c hc => by
  rw [cut_list] at hc
  exact h.al c (List.mem_of_mem_drop (List.mem_of_mem_take hc))⟩
theorem cut_head {s : Str} {i : Int} (h : 0 ≤ i ∧ i ≤ s.length) : (cutS s none (some i)).length = i.toNat := by
  have e := congrArg List.length (cut_list s none (some i))
  rw [Array.length_toList] at e
  unfold Str.length at *
  rw [e, List.length_take, List.length_drop, Array.length_toList]
  have em : i = ((i.toNat : Nat) : Int) := by omega
  rw [em, HT.sIx_nat]
  show min (min _ _ - 0) (_ - 0) = _
  rw [Int.toNat_natCast]
  omega
theorem cut_tail {s : Str} {i : Int} (h : 0 ≤ i ∧ i ≤ s.length) : (cutS s (some i) none).length = s.length - i.toNat := by
  have e := congrArg List.length (cut_list s (some i) none)
  rw [Array.length_toList] at e
  unfold Str.length at *
  rw [e, List.length_take, List.length_drop, Array.length_toList]
  have em : i = ((i.toNat : Nat) : Int) := by omega
  rw [em, HT.sIx_nat]
  show min (s.cps.size - _) (_ - _) = _
  rw [Int.toNat_natCast]
  omega
theorem sum_le {k : Nat} : ∀ {l : List Nat}, (∀ m ∈ l, m ≤ k) → l.sum ≤ l.length * k
  | [], _ => Nat.zero_le _
  | m :: l, h => by
    have := sum_le (l := l) fun m hm => h m (List.mem_cons_of_mem _ hm)
    have := h m List.mem_cons_self
    rw [List.sum_cons, List.length_cons, Nat.add_mul, Nat.one_mul]
    omega
theorem join_empty : ∀ l : List Str, (∀ s ∈ l, Al s 1) → Al (Txt.join ("" : Str) l) l.length
  | [], _ => ⟨Nat.le_of_eq (by rw [TL.join_eq]; rfl), fun c hc => by rw [TL.join_eq] at hc; cases hc⟩
  | [x], h => by rw [join_one]; exact h x List.mem_cons_self
  | x :: y :: l, h => by
    have ih := join_empty (y :: l) fun s hs => h s (List.mem_cons_of_mem _ hs)
    rw [join_cons]
    have e : x ++ ("" : Str) = x := str_eq (by rw [app_list]; exact List.append_nil _)
    rw [e]
    have := (h x List.mem_cons_self).app ih
    rw [Nat.add_comm] at this
    exact this
theorem m_law_names_ok {n k : Int} (hn : 0 ≤ n) (hk : 0 ≤ k ∧ k ≤ 100) : ∃ L : List Str, m_law_names [.int n, .int k] = .ok (.own (L.map D.str)) ∧ (L.length : Int) = k ∧ ∀ s ∈ L, Nm s := by
  unfold m_law_names r_law_names
  rw [show ("abcdefghijklmnopqrstuvwxyz0123456789" : Str) = alnumS from rfl]
  walk_at "r"
  have sz : 0 ≤ n % 11 ∧ n % 11 < 11 := by omega
  generalize n % 11 = z at sz ⊢
  walk_at "r"
  rw [lc_map (g := fun x => D.str ⟨#[chA ((n + 7 * x * x) % 36)]⟩) (fun x hx => by
    have hx := rg_mem.mp hx
    dsimp only [lcF, gnm]
    walk_at "r"
    rw [(alnum_at (i := (n + 7 * x * x) % 36) ⟨Int.emod_nonneg _ (by decide), Int.emod_lt_of_pos _ (by decide)⟩).1]
    walk_at "r")]
  walk_at "r"
  rw [show ((rg z).map fun x => D.str ⟨#[chA ((n + 7 * x * x) % 36)]⟩) = ((rg z).map fun x => (⟨#[chA ((n + 7 * x * x) % 36)]⟩ : Str)).map D.str by rw [List.map_map]; rfl]
  have al1 : ∀ s ∈ (rg z).map fun x => (⟨#[chA ((n + 7 * x * x) % 36)]⟩ : Str), Al s 1 := fun s hs => by
    obtain ⟨x, _, rfl⟩ := List.mem_map.mp hs
    exact Al.one (alnum_at ⟨Int.emod_nonneg _ (by decide), Int.emod_lt_of_pos _ (by decide)⟩).2
  have alr := join_empty _ al1
  have ll : ((rg z).map fun x => (⟨#[chA ((n + 7 * x * x) % 36)]⟩ : Str)).length ≤ 10 := by rw [List.length_map, rg_len]; omega
  have sum : (((rg z).map fun x => (⟨#[chA ((n + 7 * x * x) % 36)]⟩ : Str)).map (·.length)).sum + ((rg z).map fun x => (⟨#[chA ((n + 7 * x * x) % 36)]⟩ : Str)).length * ("" : Str).length ≤ 1000000 := by
    have := sum_le (l := ((rg z).map fun x => (⟨#[chA ((n + 7 * x * x) % 36)]⟩ : Str)).map (·.length)) (k := 1) (by
      intro m hm
      obtain ⟨s, hs, rfl⟩ := List.mem_map.mp hm
      exact (al1 s hs).len)
    rw [List.length_map] at this
    rw [show ("" : Str).length = 0 by decide +kernel]
    omega
  generalize ((rg z).map fun x => (⟨#[chA ((n + 7 * x * x) % 36)]⟩ : Str)) = cs at al1 alr ll sum
  walk_at "r"
  have Ro : Al (Txt.join ("" : Str) cs) 10 := ⟨Nat.le_trans alr.len ll, alr.al⟩
  generalize Txt.join ("" : Str) cs = R at Ro ⊢
  have hP : 0 ≤ n / 11 % (z + 1) := Int.emod_nonneg _ (by omega)
  generalize n / 11 % (z + 1) = P at hP ⊢
  have nm : ∀ (O : Str) (x st : Int), Al O 10 → Nm (⟨#[chA ((n + 3 * x) % 26)]⟩ ++ cutS O none (some (min P O.length)) ++ ⟨#[chA ((n + st * x) % 36)]⟩ ++ cutS O (some (min P O.length)) none) := fun O x st ho => by
    have a1 := alpha_at (i := (n + 3 * x) % 26) (by omega)
    have a2 := (alnum_at (i := (n + st * x) % 36) ⟨Int.emod_nonneg _ (by decide), Int.emod_lt_of_pos _ (by decide)⟩).2
    have sp : 0 ≤ min P (O.length : Int) ∧ min P (O.length : Int) ≤ O.length := by omega
    have l1 := cut_head sp
    have l2 := cut_tail sp
    have hl := ho.len
    refine ⟨?_, ⟨chA ((n + 3 * x) % 26), _, by rw [app_list, app_list, app_list]; rfl, a1⟩, fun c hc => ?_⟩
    · rw [app_len, app_len, app_len, l1, l2, show (⟨#[chA ((n + 3 * x) % 26)]⟩ : Str).length = 1 from rfl, show (⟨#[chA ((n + st * x) % 36)]⟩ : Str).length = 1 from rfl]
      omega
    · rw [app_list, app_list, app_list, List.mem_append, List.mem_append, List.mem_append] at hc
      rcases hc with ((hc | hc) | hc) | hc
      · exact (Al.one (alpha_nch a1)).al c hc
      · exact (ho.cut _ _).al c hc
      · exact (Al.one a2).al c hc
      · exact (ho.cut _ _).al c hc
  generalize hq : forGo _ _ _ = q
  obtain ⟨L, rfl, h1, h2⟩ := for_out hq (fun L : List Str => [.dat (.int n), .dat (.int k), .dat (.str alnumS), .dat (.int z), .dat (.str R), .dat (.int P), .own (L.map D.str), .no, .no, .no, .no, .no]) (fun i L => L.length = i ∧ ∀ s ∈ L, Nm s) [] rfl ⟨rfl, fun s hs => by cases hs⟩ (by
    rintro i x L hx ⟨h1, h2⟩
    have hi := rg_lt hx
    have rl := Ro.len
    have a1 := (alnum_at (i := (n + 3 * x) % 26) (by omega)).1
    dsimp only [stepFor, gnm]
    walk_at "r"
    by_cases c1 : (n / 121 + x) % 3 = 0
    · rw [if_pos c1, e_oSlS, if_pos (by omega)]
      walk_at "r"
      have ho := Ro.cut (some 1) none
      have ol := ho.len
      walk_at "r"
      rw [e_bLenS, if_pos (by omega)]
      walk_at "r"
      by_cases c2 : n / 363 % 2 = 1
      · rw [if_pos c2]
        have hN := nm (cutS R (some 1) none) x 31 ho
        have lA : (cutS (cutS R (some 1) none) none (some (min P ((cutS R (some 1) none).length : Int)))).length ≤ 10 := (ho.cut _ _).len
        have lB : (cutS (cutS R (some 1) none) (some (min P ((cutS R (some 1) none).length : Int))) none).length ≤ 10 := (ho.cut _ _).len
        have lu : (⟨#[chA ((n + 3 * x) % 26)]⟩ : Str).length = 1 := rfl
        have lv : (⟨#[chA ((n + 31 * x) % 36)]⟩ : Str).length = 1 := rfl
        have l2 : ((⟨#[chA ((n + 3 * x) % 26)]⟩ : Str) ++ cutS (cutS R (some 1) none) none (some (min P ((cutS R (some 1) none).length : Int)))).length ≤ 11 := by rw [app_len]; omega
        have l3 : ((⟨#[chA ((n + 3 * x) % 26)]⟩ : Str) ++ cutS (cutS R (some 1) none) none (some (min P ((cutS R (some 1) none).length : Int))) ++ (⟨#[chA ((n + 31 * x) % 36)]⟩ : Str)).length ≤ 12 := by rw [app_len]; omega
        have a2 := (alnum_at (i := (n + 31 * x) % 36) (by omega)).1
        walk_at "r"
        rw [a1]
        walk_at "r"
        rw [e_oSlS, if_pos (by omega)]
        walk_at "r"
        rw [a2]
        walk_at "r"
        rw [e_oSlS, if_pos (by omega)]
        walk_at "r"
        refine ⟨L ++ [_], by rw [List.map_append]; rfl, by rw [List.length_append, h1]; rfl, fun s hs => ?_⟩
        rcases List.mem_append.mp hs with hs | hs
        · exact h2 s hs
        · rw [List.mem_singleton.mp hs]
          exact hN
      · rw [if_neg c2]
        have hN := nm (cutS R (some 1) none) x 5 ho
        have lA : (cutS (cutS R (some 1) none) none (some (min P ((cutS R (some 1) none).length : Int)))).length ≤ 10 := (ho.cut _ _).len
        have lB : (cutS (cutS R (some 1) none) (some (min P ((cutS R (some 1) none).length : Int))) none).length ≤ 10 := (ho.cut _ _).len
        have lu : (⟨#[chA ((n + 3 * x) % 26)]⟩ : Str).length = 1 := rfl
        have lv : (⟨#[chA ((n + 5 * x) % 36)]⟩ : Str).length = 1 := rfl
        have l2 : ((⟨#[chA ((n + 3 * x) % 26)]⟩ : Str) ++ cutS (cutS R (some 1) none) none (some (min P ((cutS R (some 1) none).length : Int)))).length ≤ 11 := by rw [app_len]; omega
        have l3 : ((⟨#[chA ((n + 3 * x) % 26)]⟩ : Str) ++ cutS (cutS R (some 1) none) none (some (min P ((cutS R (some 1) none).length : Int))) ++ (⟨#[chA ((n + 5 * x) % 36)]⟩ : Str)).length ≤ 12 := by rw [app_len]; omega
        have a2 := (alnum_at (i := (n + 5 * x) % 36) (by omega)).1
        walk_at "r"
        rw [a1]
        walk_at "r"
        rw [e_oSlS, if_pos (by omega)]
        walk_at "r"
        rw [a2]
        walk_at "r"
        rw [e_oSlS, if_pos (by omega)]
        walk_at "r"
        refine ⟨L ++ [_], by rw [List.map_append]; rfl, by rw [List.length_append, h1]; rfl, fun s hs => ?_⟩
        rcases List.mem_append.mp hs with hs | hs
        · exact h2 s hs
        · rw [List.mem_singleton.mp hs]
          exact hN
    · rw [if_neg c1]
      have ho := Ro
      have ol := ho.len
      walk_at "r"
      rw [e_bLenS, if_pos (by omega)]
      walk_at "r"
      by_cases c2 : n / 363 % 2 = 1
      · rw [if_pos c2]
        have hN := nm (R) x 31 ho
        have lA : (cutS (R) none (some (min P ((R).length : Int)))).length ≤ 10 := (ho.cut _ _).len
        have lB : (cutS (R) (some (min P ((R).length : Int))) none).length ≤ 10 := (ho.cut _ _).len
        have lu : (⟨#[chA ((n + 3 * x) % 26)]⟩ : Str).length = 1 := rfl
        have lv : (⟨#[chA ((n + 31 * x) % 36)]⟩ : Str).length = 1 := rfl
        have l2 : ((⟨#[chA ((n + 3 * x) % 26)]⟩ : Str) ++ cutS (R) none (some (min P ((R).length : Int)))).length ≤ 11 := by rw [app_len]; omega
        have l3 : ((⟨#[chA ((n + 3 * x) % 26)]⟩ : Str) ++ cutS (R) none (some (min P ((R).length : Int))) ++ (⟨#[chA ((n + 31 * x) % 36)]⟩ : Str)).length ≤ 12 := by rw [app_len]; omega
        have a2 := (alnum_at (i := (n + 31 * x) % 36) (by omega)).1
        walk_at "r"
        rw [a1]
        walk_at "r"
        rw [e_oSlS, if_pos (by omega)]
        walk_at "r"
        rw [a2]
        walk_at "r"
        rw [e_oSlS, if_pos (by omega)]
        walk_at "r"
        refine ⟨L ++ [_], by rw [List.map_append]; rfl, by rw [List.length_append, h1]; rfl, fun s hs => ?_⟩
        rcases List.mem_append.mp hs with hs | hs
        · exact h2 s hs
        · rw [List.mem_singleton.mp hs]
          exact hN
      · rw [if_neg c2]
        have hN := nm (R) x 5 ho
        have lA : (cutS (R) none (some (min P ((R).length : Int)))).length ≤ 10 := (ho.cut _ _).len
        have lB : (cutS (R) (some (min P ((R).length : Int))) none).length ≤ 10 := (ho.cut _ _).len
        have lu : (⟨#[chA ((n + 3 * x) % 26)]⟩ : Str).length = 1 := rfl
        have lv : (⟨#[chA ((n + 5 * x) % 36)]⟩ : Str).length = 1 := rfl
        have l2 : ((⟨#[chA ((n + 3 * x) % 26)]⟩ : Str) ++ cutS (R) none (some (min P ((R).length : Int)))).length ≤ 11 := by rw [app_len]; omega
        have l3 : ((⟨#[chA ((n + 3 * x) % 26)]⟩ : Str) ++ cutS (R) none (some (min P ((R).length : Int))) ++ (⟨#[chA ((n + 5 * x) % 36)]⟩ : Str)).length ≤ 12 := by rw [app_len]; omega
        have a2 := (alnum_at (i := (n + 5 * x) % 36) (by omega)).1
        walk_at "r"
        rw [a1]
        walk_at "r"
        rw [e_oSlS, if_pos (by omega)]
        walk_at "r"
        rw [a2]
        walk_at "r"
        rw [e_oSlS, if_pos (by omega)]
        walk_at "r"
        refine ⟨L ++ [_], by rw [List.map_append]; rfl, by rw [List.length_append, h1]; rfl, fun s hs => ?_⟩
        rcases List.mem_append.mp hs with hs | hs
        · exact h2 s hs
        · rw [List.mem_singleton.mp hs]
          exact hN)
  walk_at "r"
  rw [rg_len] at h1
  exact ⟨L, rfl, by omega, h2⟩
theorem m_law_word_ok {l : List Int} {k : Nat} (hl : Nums l k) {i : Int} (hi : 0 ≤ i ∧ i + 1 < k) : ∃ L : List Str, m_law_word [.lst (l.map D.int), .int i] = .ok (.own (L.map D.str)) ∧ (1 ≤ L.length ∧ L.length ≤ 4) ∧ ∀ s ∈ L, Nm s := by
  obtain ⟨x0, e0, _, _⟩ := hl.at_ (i := i) (by omega) (by omega)
  obtain ⟨x1, e1, _, _⟩ := hl.at_ (i := i + 1) (by omega) (by omega)
  obtain ⟨L, e2, h1, h2⟩ := m_law_names_ok (n := x0) (k := 1 + x1 % 4) (by omega) (by omega)
  unfold m_law_word r_law_word
  walk_at "r"
  rw [e0]
  walk_at "r"
  rw [e1]
  walk_at "r"
  rw [e2]
  exact ⟨L, rfl, by omega, h2⟩
end K35

set_option maxRecDepth 100000
set_option maxHeartbeats 4000000
namespace K35
open PySem PySem.Spec L2 DL
local macro_rules | `(tactic| walk_at "r") => `(tactic| try simp -implicitDefEqProofs (disch := omega) only [rDisp1, e_bSortKS_d, asKS_map, rM1, rM1O, rM0, rM0O, e_oJoin_l, e_oJoin_t, e_bStrA_i, e_bStrA_s, rFs, rJs, e_oFmt_i, e_oFmt_s, rIStr, e_oSplit, e_oWords, xAugL, e_bIntS, mkM, rC, rVar, rOp, rUn, rCb, rNil, rCons, rStar, rApp, rApp2, rStill, rCall, rTup, rLst, rNewK, rNewT, rAndV, rOrV, rNotV, rIfE, rChain, rChain3, rChain4, rTest, rYes, rAnd, rOr, rNot, rTru, gnm,
  rNext, rBreak, rCont, rRetN, rSeq, rDrop, rRet, rRetO, rRetV, rSet, rSetO, rAsg, rIf, rK, rF, rPar, rPar3, rFor, rAug, aug, xAppend, rIxV, rLenV, gsub, rAugS, xInsert, xPopAt, rDGet, rDGet2, rDIn, rDNotIn, rDLen, rDPut, rLockF, xModIx, xModIn, rRaise0, rRaise1, xIsX, rXf, rXfC,
  rListOfD, rListOfA, e_seqK_l, e_seqK_t, e_seqK_d, e_seqK_f, rTruV, List.isEmpty_map, xExtend, xSetPop, xSetPopAt, rDc, rLkO, rLstRg1, sortedO, List.isEmpty_cons, List.isEmpty_nil, List.head?_cons, List.head?_nil, List.find?_nil, xIsi, xIsi2, rIList, rITup, rISeq, rIRng1, rIRng2, rIRng3, rIEnum, rIValsN, rIValsV, rIKeysV, rPN, rPS, rSl, rL, rLO, rLc, rLc2, wipeR,
  Re.ok_bind, Re.ex_bind, Re.bad_bind, Re.ok_os, Re.ex_os, Re.bad_os, Os.nx_thn, Os.rt_thn, Os.bk_thn, Os.ct_thn, Os.ex_thn, Os.bad_thn, Os.uni_const, rowB, gt, frz, frz1, fgt, D.has, D.hass, asI, asB, asT, asI_map, asB_map, asT_map, keysK, keyT_tD,
  e_of_some, e_osof, e_ret_nx, e_ret_rt, e_ret_ex, e_kil_nx, e_kil_bk, e_kil_ct, e_kil_rt, e_kil_ex, e_noexc_nx, e_noexc_bk, e_noexc_ct, e_noexc_rt, e_noex, e_val, e_get_dat, e_get_own, e_get_oK, e_get_oT, e_rtv_dat, e_rtv_own, e_rtv_oK, e_rtv_oT, e_ownL, e_isD_oT, e_isD_dT, e_isD_fT, e_isOD_T, e_ask_oT, e_has_oT, e_len_oT, e_ask_dT, e_has_dT, e_len_dT, e_ask_fT, e_has_fT, e_len_fT, e_put_T, e_lock_T, e_isD_oK, e_isD_dK, e_isD_fK, e_isOD_K, e_ask_oK, e_has_oK, e_len_oK, e_ask_dK, e_has_dK, e_len_dK, e_ask_fK, e_has_fK, e_len_fK, e_put_K, e_lock_K, e_keyK_int, e_keyK_str, e_keyT2, e_keyT3, e_blD, e_tru_non, e_tru_bl, e_tru_int, e_tru_lst, e_tru_tup, e_seq_l, e_seq_t, e_gtp, e_gls, e_gco, e_gni, e_oSub, e_oLt, e_oLe, e_oGt, e_oGe, e_oEq, e_oNe, e_oAdd, e_oIAdd, e_oXor, e_oAddL, e_oAddS, oEqTs, oNeTs, oEqLI, oNeLI, oEqTI, oNeTI, e_oAddT, e_oMulR, e_oMulL, e_oMul, e_oMulLst, e_oIMulR, e_oIMulL, e_oDiv, e_oDivB, e_oMod, e_oPow, e_oEqS, e_oNeS, e_oEqB, e_oNeB, e_oIs, e_oIsNot, e_nonD, e_nonD_int, e_nonD_str, e_nonD_lst, e_nonD_tup, e_nonD_bl, e_oNeg, e_oIxL, e_oIxT, e_oIn_lst, e_oIn_tup, e_oNotIn_lst, e_oNotIn_tup, e_oSlL_l, e_oSlL_s, e_oSlAny_l, e_oSlAny_s, rRev, e_oRev_l, e_oRev_t, e_oSlA_t, e_oSlAny_t, e_bAbs, e_bLenL, e_bLenT, e_bInt, e_bIntT, e_bIntF, e_bIntB, e_bTupL, e_bTupT, e_bMax2, e_bMin2, e_bAll, e_bAny, e_bSumA, e_bSumAt, e_bMinR, rTupRg1, xAppPopAt, rRep1, e_bSorted_lst, e_bSorted_tup, e_isT_non_int, e_isT_non_bool, e_isT_non_str, e_isT_non_list, e_isT_non_tuple, e_isT_bl_int, e_isT_bl_bool, e_isT_bl_str, e_isT_bl_list, e_isT_bl_tuple, e_isT_int_int, e_isT_int_bool, e_isT_int_str, e_isT_int_list, e_isT_int_tuple, e_isT_str_int, e_isT_str_bool, e_isT_str_str, e_isT_str_list, e_isT_str_tuple, e_isT_lst_int, e_isT_lst_bool, e_isT_lst_str, e_isT_lst_list, e_isT_lst_tuple, e_isT_tup_int, e_isT_tup_bool, e_isT_tup_str, e_isT_tup_list, e_isT_tup_tuple, e_irng1, e_irng2, e_irng3, e_oIsA_n, e_oIsA_b, e_oIsntA_n, e_oIsntA_b, oInA, oNotInA, e_inD_il, e_inD_it, e_inD_sl, e_inD_st, e_inD_tl, e_inD_ti, asS, asS_map, Option.isSome_some, Option.isSome_none, k_bose_skolem, k_bose_affine, k_bose_binary, k_bose_listed, k_bose_double, k_bose_product, k_skolem_bose, k_skolem_affine, k_skolem_binary, k_skolem_listed, k_skolem_double, k_skolem_product, k_affine_bose, k_affine_skolem, k_affine_binary, k_affine_listed, k_affine_double, k_affine_product, k_binary_bose, k_binary_skolem, k_binary_affine, k_binary_listed, k_binary_double, k_binary_product, k_listed_bose, k_listed_skolem, k_listed_affine, k_listed_binary, k_listed_double, k_listed_product, k_double_bose, k_double_skolem, k_double_affine, k_double_binary, k_double_listed, k_double_product, k_product_bose, k_product_skolem, k_product_affine, k_product_binary, k_product_listed, k_product_double, arm_bose, arm_skolem, arm_affine, arm_binary, arm_listed, arm_double, arm_product, e_shas_oT, e_shas_oK, hass_pD, hass_lI, e_lendD, e_lendS, e_has_dat, e_has_own, e_hass_ints, e_hass_tI, and_okP, or_okP, andD_okP, orD_okP, atI_lit, e_ixN, List.getElem?_cons_zero, List.getElem?_cons_succ,
  List.map_cons, List.map_nil, List.cons_append, List.nil_append, List.length_cons, List.length_nil, List.length_map, List.length_append, List.length_take, List.length_drop, rg_len, rgs_len, rgd_len, List.length_set, List.set_cons_zero, List.set_cons_succ, Nat.reduceAdd, Nat.reduceLeDiff, Nat.reduceEqDiff, Option.bind_some, Option.map_some, Option.bind_none, Option.map_none, Bool.not_true, Bool.not_false, Bool.or_false, Bool.false_or, Bool.and_true, Bool.true_and, Bool.or_true, Bool.true_or, Bool.and_false, Bool.false_and, Bool.or_self, Bool.and_self, Bool.not_not,
  decide_true, decide_false, decide_eq_true_eq, Bool.and_eq_true, Bool.or_eq_true, bnot_true, bool_eqf, ite_not, Decidable.not_not, if_true, if_false, ite_true, ite_false, Bool.false_eq_true, and_true, true_and, false_and, and_false, and_self, eq_self, reduceCtorEq, not_true, not_false_eq_true, and_ok, or_ok, andD_ok, orD_ok, if_pos, if_neg, Int.reduceLE, Int.reduceLT, Int.reduceNeg, Int.reduceAdd, Int.reduceSub, Int.reduceMul, Int.reduceMod, Int.reduceDiv, Int.reduceEq, Int.reducePow, Nat.reducePow, Int.reduceToNat])
/-! how terms are handed: tuples or lists -/
def Rep : Tm → D → Prop
  | .nm s, d => d = .str s
  | .pr a b, d => ∃ x y, (d = .tup [x, y] ∨ d = .lst [x, y]) ∧ Rep a x ∧ Rep b y
theorem rep_d : ∀ t : Tm, Rep t t.d
  | .nm _ => rfl
  | .pr a b => ⟨a.d, b.d, .inl rfl, rep_d a, rep_d b⟩
theorem rep_ld : ∀ t : Tm, Rep t t.ld
  | .nm _ => rfl
  | .pr a b => ⟨a.ld, b.ld, .inr rfl, rep_ld a, rep_ld b⟩
theorem m_is_variable_nm {s : Str} (h : Nm s) : m_is_variable [.str s] = .ok (.dat (.bl true)) := by
  obtain ⟨c, r, e, hc⟩ := h.hd
  have hl := h.len
  have e0 : s.cps.toList[0]? = some c := by rw [e]; rfl
  unfold m_is_variable r_is_variable
  rw [show ("abcdefghijklmnopqrstuvwxyz" : Str) = alphaS from rfl, show ("abcdefghijklmnopqrstuvwxyz0123456789" : Str) = alnumS from rfl]
  walk_at "r"
  rw [e_bLenS, if_pos (by omega)]
  walk_at "r"
  rw [e_ixS, if_pos (by omega), show atI s.cps.toList 0 = some c from (DL.atI_nat (n := 0)).trans e0]
  walk_at "r"
  rw [e_notInC, decide_eq_true hc]
  walk_at "r"
  unfold sgs
  rw [lc_map (g := fun _ => D.bl true) (fun c hc => by
    dsimp only [lcF, gnm]
    walk_at "r"
    rw [e_inC, decide_eq_true (show c ∈ alnumS.cps.toList from h.al c hc)]
    walk_at "r")]
  walk_at "r"
  rw [show (s.cps.toList.map fun _ => D.bl true) = (s.cps.toList.map fun _ => true).map D.bl by rw [List.map_map]; rfl]
  have sl : s.cps.toList.length ≤ 12 := by rw [Array.length_toList]; exact hl.2
  walk_at "r"
  have ea : ((s.cps.toList.map fun _ => true).all id) = true := by simp
  rw [ea]
theorem m_is_variable_pr {x y d : D} (h : d = .tup [x, y] ∨ d = .lst [x, y]) : m_is_variable [d] = .ok (.dat (.bl false)) := by
  unfold m_is_variable r_is_variable
  rcases h with rfl | rfl <;> walk_at "r"
theorem lvs_sum_le {l : List (Tm × D)} : l.length ≤ (l.map fun p => p.1.lvs).sum := by
  induction l with
  | nil => exact Nat.le_refl _
  | cons p l ih =>
    have := p.1.lvs_pos
    rw [List.map_cons, List.sum_cons, List.length_cons]
    omega
def Tm.nms : Tm → List Str
  | .nm s => [s]
  | .pr a b => a.nms ++ b.nms
theorem m_leaves_eq {t : Tm} {d : D} (ht : TOk t) (hd : Rep t d) (hl : t.lvs ≤ 200) : m_leaves [d] = .ok (.own (t.nms.map D.str)) := by
  unfold m_leaves r_leaves
  walk_at "r"
  generalize hq : rWhile _ _ _ = q
  obtain ⟨⟨L, W⟩, rfl, hW, hL, hM⟩ := while_out hq (fun s : List Str × List (Tm × D) => [.dat d, .own (s.1.map D.str), .own (s.2.map (·.2)), .no])
    (fun s => (∀ p ∈ s.2, Rep p.1 p.2 ∧ TOk p.1) ∧ (s.1 ++ (s.2.reverse.flatMap fun p => p.1.nms) = t.nms) ∧ s.1.length + (s.2.map fun p => p.1.lvs).sum = t.lvs) (fun s => (s.2.map fun p => 2 * p.1.lvs - 1).sum) (fun s => s.2 = [] ∧ s.1.length = t.lvs ∧ s.1 = t.nms) ([], [(t, d)]) rfl
    ⟨fun p hp => by rw [List.mem_singleton.mp hp]; exact ⟨hd, ht⟩, by simp, by simp⟩ (by
    rintro ⟨L, W⟩ ⟨h1, h3, h2⟩
    dsimp only at h1 h2 h3 ⊢
    have hW' : W = [] ∨ ∃ W' w, W = W' ++ [w] := by
      rcases List.eq_nil_or_concat W with rfl | ⟨W', w, rfl⟩
      · exact .inl rfl
      · exact .inr ⟨W', w, List.concat_eq_append⟩
    rcases hW' with rfl | ⟨W', ⟨u, e⟩, rfl⟩
    · left
      refine ⟨?_, rfl, by simpa using h2, by simpa using h3⟩
      walk_at "r"
    right
    obtain ⟨hr, hu⟩ := h1 (u, e) (by simp)
    rw [List.reverse_append, List.reverse_singleton, List.singleton_append, List.flatMap_cons] at h3
    have h1' : ∀ p ∈ W', Rep p.1 p.2 ∧ TOk p.1 := fun p hp => h1 p (by simp [hp])
    have lw := lvs_sum_le (l := W')
    rw [List.map_append, List.sum_append] at h2
    simp only [List.map_cons, List.map_nil, List.sum_cons, List.sum_nil] at h2
    have elast : ((W' ++ [(u, e)]).map (·.2))[((W' ++ [(u, e)]).map (·.2)).length - 1]? = some e := by simp
    have edrop : ((W' ++ [(u, e)]).map (·.2)).dropLast = W'.map (·.2) := by simp
    have eemp : ((W' ++ [(u, e)]).map (·.2)).isEmpty = false := by simp
    have em : ((W' ++ [(u, e)]).map fun p => 2 * p.1.lvs - 1).sum = (W'.map fun p => 2 * p.1.lvs - 1).sum + (2 * u.lvs - 1) := by simp
    rw [em]
    generalize hWW : (W' ++ [(u, e)]).map (·.2) = WW at elast edrop eemp ⊢
    refine ⟨?_, ?_⟩
    · walk_at "r"
      rw [eemp]
      rfl
    cases u with
    | nm s =>
      obtain rfl : e = .str s := hr
      refine ⟨(L ++ [s], W'), .inl ?_, by dsimp only; show _ < _ + (2 * 1 - 1); omega, h1', by dsimp only; rw [← h3, List.append_assoc]; rfl, by rw [List.length_append]; simp only [List.length_cons, List.length_nil]; have : (Tm.nm s).lvs = 1 := rfl; omega⟩
      walk_at "r"
      rw [elast]
      walk_at "r"
      rw [m_is_variable_nm hu]
      walk_at "r"
      have lq : (Tm.nm s).lvs = 1 := rfl
      rw [edrop]
      walk_at "r"
      rw [List.map_append]
      rfl
    | pr a b =>
      obtain ⟨x, y, hxy, ra, rb⟩ := hr
      have la := a.lvs_pos
      have lb := b.lvs_pos
      have lu : (Tm.pr a b).lvs = a.lvs + b.lvs := rfl
      refine ⟨(L, W' ++ [(b, y), (a, x)]), .inl ?_, by dsimp only; rw [List.map_append, List.sum_append, lu]; simp only [List.map_cons, List.map_nil, List.sum_cons, List.sum_nil]; omega, fun p hp => ?_, by dsimp only; rw [← h3, List.reverse_append]; simp [Tm.nms], by rw [List.map_append, List.sum_append]; simp only [List.map_cons, List.map_nil, List.sum_cons, List.sum_nil]; omega⟩
      · walk_at "r"
        rw [elast]
        walk_at "r"
        rw [m_is_variable_pr hxy]
        walk_at "r"
        rw [edrop]
        dsimp only at hxy
        rcases hxy with rfl | rfl <;>
        · walk_at "r"
          rw [List.map_append]
          rfl
      · rcases List.mem_append.mp hp with hp | hp
        · exact h1' p hp
        · simp only [List.mem_cons, List.not_mem_nil, or_false] at hp
          rcases hp with rfl | rfl
          · exact ⟨rb, hu.2⟩
          · exact ⟨ra, hu.1⟩)
  dsimp only at hW hL hM
  subst hW
  walk_at "r"
  rw [hM]
end K35

set_option maxRecDepth 100000
set_option maxHeartbeats 4000000
namespace K35
open PySem PySem.Spec L2 DL
local macro_rules | `(tactic| walk_at "r") => `(tactic| try simp -implicitDefEqProofs (disch := omega) only [rDisp1, e_bSortKS_d, asKS_map, rM1, rM1O, rM0, rM0O, e_oJoin_l, e_oJoin_t, e_bStrA_i, e_bStrA_s, rFs, rJs, e_oFmt_i, e_oFmt_s, rIStr, e_oSplit, e_oWords, xAugL, e_bIntS, mkM, rC, rVar, rOp, rUn, rCb, rNil, rCons, rStar, rApp, rApp2, rStill, rCall, rTup, rLst, rNewK, rNewT, rAndV, rOrV, rNotV, rIfE, rChain, rChain3, rChain4, rTest, rYes, rAnd, rOr, rNot, rTru, gnm,
  rNext, rBreak, rCont, rRetN, rSeq, rDrop, rRet, rRetO, rRetV, rSet, rSetO, rAsg, rIf, rK, rF, rPar, rPar3, rFor, rAug, aug, xAppend, rIxV, rLenV, gsub, rAugS, xInsert, xPopAt, rDGet, rDGet2, rDIn, rDNotIn, rDLen, rDPut, rLockF, xModIx, xModIn, rRaise0, rRaise1, xIsX, rXf, rXfC,
  rListOfD, rListOfA, e_seqK_l, e_seqK_t, e_seqK_d, e_seqK_f, rTruV, List.isEmpty_map, xExtend, xSetPop, xSetPopAt, rDc, rLkO, rLstRg1, sortedO, List.isEmpty_cons, List.isEmpty_nil, List.head?_cons, List.head?_nil, List.find?_nil, xIsi, xIsi2, rIList, rITup, rISeq, rIRng1, rIRng2, rIRng3, rIEnum, rIValsN, rIValsV, rIKeysV, rPN, rPS, rSl, rL, rLO, rLc, rLc2, wipeR,
  Re.ok_bind, Re.ex_bind, Re.bad_bind, Re.ok_os, Re.ex_os, Re.bad_os, Os.nx_thn, Os.rt_thn, Os.bk_thn, Os.ct_thn, Os.ex_thn, Os.bad_thn, Os.uni_const, rowB, gt, frz, frz1, fgt, D.has, D.hass, asI, asB, asT, asI_map, asB_map, asT_map, keysK, keyT_tD,
  e_of_some, e_osof, e_ret_nx, e_ret_rt, e_ret_ex, e_kil_nx, e_kil_bk, e_kil_ct, e_kil_rt, e_kil_ex, e_noexc_nx, e_noexc_bk, e_noexc_ct, e_noexc_rt, e_noex, e_val, e_get_dat, e_get_own, e_get_oK, e_get_oT, e_rtv_dat, e_rtv_own, e_rtv_oK, e_rtv_oT, e_ownL, e_isD_oT, e_isD_dT, e_isD_fT, e_isOD_T, e_ask_oT, e_has_oT, e_len_oT, e_ask_dT, e_has_dT, e_len_dT, e_ask_fT, e_has_fT, e_len_fT, e_put_T, e_lock_T, e_isD_oK, e_isD_dK, e_isD_fK, e_isOD_K, e_ask_oK, e_has_oK, e_len_oK, e_ask_dK, e_has_dK, e_len_dK, e_ask_fK, e_has_fK, e_len_fK, e_put_K, e_lock_K, e_keyK_int, e_keyK_str, e_keyT2, e_keyT3, e_blD, e_tru_non, e_tru_bl, e_tru_int, e_tru_lst, e_tru_tup, e_seq_l, e_seq_t, e_gtp, e_gls, e_gco, e_gni, e_oSub, e_oLt, e_oLe, e_oGt, e_oGe, e_oEq, e_oNe, e_oAdd, e_oIAdd, e_oXor, e_oAddL, e_oAddS, oEqTs, oNeTs, oEqLI, oNeLI, oEqTI, oNeTI, e_oAddT, e_oMulR, e_oMulL, e_oMul, e_oMulLst, e_oIMulR, e_oIMulL, e_oDiv, e_oDivB, e_oMod, e_oPow, e_oEqS, e_oNeS, e_oEqB, e_oNeB, e_oIs, e_oIsNot, e_nonD, e_nonD_int, e_nonD_str, e_nonD_lst, e_nonD_tup, e_nonD_bl, e_oNeg, e_oIxL, e_oIxT, e_oIn_lst, e_oIn_tup, e_oNotIn_lst, e_oNotIn_tup, e_oSlL_l, e_oSlL_s, e_oSlAny_l, e_oSlAny_s, rRev, e_oRev_l, e_oRev_t, e_oSlA_t, e_oSlAny_t, e_bAbs, e_bLenL, e_bLenT, e_bInt, e_bIntT, e_bIntF, e_bIntB, e_bTupL, e_bTupT, e_bMax2, e_bMin2, e_bAll, e_bAny, e_bSumA, e_bSumAt, e_bMinR, rTupRg1, xAppPopAt, rRep1, e_bSorted_lst, e_bSorted_tup, e_isT_non_int, e_isT_non_bool, e_isT_non_str, e_isT_non_list, e_isT_non_tuple, e_isT_bl_int, e_isT_bl_bool, e_isT_bl_str, e_isT_bl_list, e_isT_bl_tuple, e_isT_int_int, e_isT_int_bool, e_isT_int_str, e_isT_int_list, e_isT_int_tuple, e_isT_str_int, e_isT_str_bool, e_isT_str_str, e_isT_str_list, e_isT_str_tuple, e_isT_lst_int, e_isT_lst_bool, e_isT_lst_str, e_isT_lst_list, e_isT_lst_tuple, e_isT_tup_int, e_isT_tup_bool, e_isT_tup_str, e_isT_tup_list, e_isT_tup_tuple, e_irng1, e_irng2, e_irng3, e_oIsA_n, e_oIsA_b, e_oIsntA_n, e_oIsntA_b, oInA, oNotInA, e_inD_il, e_inD_it, e_inD_sl, e_inD_st, e_inD_tl, e_inD_ti, asS, asS_map, Option.isSome_some, Option.isSome_none, k_bose_skolem, k_bose_affine, k_bose_binary, k_bose_listed, k_bose_double, k_bose_product, k_skolem_bose, k_skolem_affine, k_skolem_binary, k_skolem_listed, k_skolem_double, k_skolem_product, k_affine_bose, k_affine_skolem, k_affine_binary, k_affine_listed, k_affine_double, k_affine_product, k_binary_bose, k_binary_skolem, k_binary_affine, k_binary_listed, k_binary_double, k_binary_product, k_listed_bose, k_listed_skolem, k_listed_affine, k_listed_binary, k_listed_double, k_listed_product, k_double_bose, k_double_skolem, k_double_affine, k_double_binary, k_double_listed, k_double_product, k_product_bose, k_product_skolem, k_product_affine, k_product_binary, k_product_listed, k_product_double, arm_bose, arm_skolem, arm_affine, arm_binary, arm_listed, arm_double, arm_product, e_shas_oT, e_shas_oK, hass_pD, hass_lI, e_lendD, e_lendS, e_has_dat, e_has_own, e_hass_ints, e_hass_tI, and_okP, or_okP, andD_okP, orD_okP, atI_lit, e_ixN, List.getElem?_cons_zero, List.getElem?_cons_succ,
  List.map_cons, List.map_nil, List.cons_append, List.nil_append, List.length_cons, List.length_nil, List.length_map, List.length_append, List.length_take, List.length_drop, rg_len, rgs_len, rgd_len, List.length_set, List.set_cons_zero, List.set_cons_succ, Nat.reduceAdd, Nat.reduceLeDiff, Nat.reduceEqDiff, Option.bind_some, Option.map_some, Option.bind_none, Option.map_none, Bool.not_true, Bool.not_false, Bool.or_false, Bool.false_or, Bool.and_true, Bool.true_and, Bool.or_true, Bool.true_or, Bool.and_false, Bool.false_and, Bool.or_self, Bool.and_self, Bool.not_not,
  decide_true, decide_false, decide_eq_true_eq, Bool.and_eq_true, Bool.or_eq_true, bnot_true, bool_eqf, ite_not, Decidable.not_not, if_true, if_false, ite_true, ite_false, Bool.false_eq_true, and_true, true_and, false_and, and_false, and_self, eq_self, reduceCtorEq, not_true, not_false_eq_true, and_ok, or_ok, andD_ok, orD_ok, if_pos, if_neg, Int.reduceLE, Int.reduceLT, Int.reduceNeg, Int.reduceAdd, Int.reduceSub, Int.reduceMul, Int.reduceMod, Int.reduceDiv, Int.reduceEq, Int.reducePow, Nat.reducePow, Int.reduceToNat])
theorem m_lists_eq : ∀ {t : Tm} {f : Nat}, t.dep < f → (m_law_lists f [t.d]).bind Sl.get = .ok t.ld
  | _, 0, h => absurd h (Nat.not_lt_zero _)
  | .nm s, f + 1, _ => by
    unfold m_law_lists q_law_lists
    rw [Tm.d]
    walk_at "r"
    rfl
  | .pr a b, f + 1, hd => by
    have hd : max a.dep b.dep + 1 < f + 1 := hd
    have ia := m_lists_eq (t := a) (f := f) (by omega)
    have ib := m_lists_eq (t := b) (f := f) (by omega)
    unfold m_law_lists q_law_lists
    rw [Tm.d]
    walk_at "r"
    rw [ia]
    walk_at "r"
    rw [ib]
    walk_at "r"
    rfl
theorem m_lvs_x : ∀ {t : Tm} {f : Nat}, t.lvs ≤ 1000 → t.dep < f → (m_law_leaves f [t.d]).bind Sl.get = .ok (.lst (t.nms.map D.str)) ∧ t.nms.length = t.lvs
  | _, 0, _, h => absurd h (Nat.not_lt_zero _)
  | .nm s, f + 1, _, _ => by
    unfold m_law_leaves q_law_leaves
    rw [Tm.d]
    walk_at "r"
    exact ⟨rfl, rfl⟩
  | .pr a b, f + 1, hl, hd => by
    have hd : max a.dep b.dep + 1 < f + 1 := hd
    have hl : a.lvs + b.lvs ≤ 1000 := hl
    obtain ⟨ia, la⟩ := m_lvs_x (t := a) (f := f) (by omega) (by omega)
    obtain ⟨ib, lb⟩ := m_lvs_x (t := b) (f := f) (by omega) (by omega)
    unfold m_law_leaves q_law_leaves
    rw [Tm.d]
    walk_at "r"
    rw [ia]
    walk_at "r"
    rw [ib]
    walk_at "r"
    refine ⟨?_, by rw [Tm.nms, List.length_append, la, lb]; rfl⟩
    rw [Tm.nms, List.map_append]
    try rfl

theorem m_lvs_eq {t : Tm} {f : Nat} (hl : t.lvs ≤ 1000) (hd : t.dep < f) : ∃ L : List D, (m_law_leaves f [t.d]).bind Sl.get = .ok (.lst L) ∧ L.length = t.lvs := by
  obtain ⟨e, l⟩ := m_lvs_x (t := t) (f := f) hl hd
  exact ⟨_, e, by rw [List.length_map, l]⟩
theorem split2 {α : Type} {S : List α} {p : Nat} (h : p + 1 < S.length) : ∃ A x y B, S = A ++ x :: y :: B ∧ A.length = p := by
  refine ⟨S.take p, S[p], S[p + 1], S.drop (p + 2), ?_, by rw [List.length_take]; omega⟩
  rw [← List.drop_eq_getElem_cons h, ← List.drop_eq_getElem_cons (by omega : p < S.length), List.take_append_drop]
def sumL (S : List Tm) : Nat := (S.map Tm.lvs).sum
theorem sumL_app (S T : List Tm) : sumL (S ++ T) = sumL S + sumL T := by unfold sumL; rw [List.map_append, List.sum_append]
theorem sumL_cons (t : Tm) (S : List Tm) : sumL (t :: S) = t.lvs + sumL S := by unfold sumL; rw [List.map_cons, List.sum_cons]
structure Rw (N : List Str) (r : Nat) (S : List Tm) : Prop where
  nms : ∀ t ∈ S, ∀ s ∈ t.nms, s ∈ N
  len : 1 ≤ S.length ∧ S.length ≤ r
  ok : ∀ t ∈ S, TOk t ∧ t.dep ≤ 2 * (r - S.length)
  sum : sumL S ≤ r + 2 * (r - S.length)
theorem Rw.step {N : List Str} {r : Nat} {A B : List Tm} {x y : Tm} (h : Rw N r (A ++ x :: y :: B)) {z : Tm} (hz : z = y ∨ (z = .pr x y ∧ x.lvs ≤ 2)) : Rw N r (A ++ .pr x z :: B) := by
  have hl := h.len
  have hs := h.sum
  rw [sumL_app, sumL_cons, sumL_cons] at hs
  simp only [List.length_append, List.length_cons] at hl hs
  have hx := h.ok x (by simp)
  have hy := h.ok y (by simp)
  simp only [List.length_append, List.length_cons] at hx hy
  have zl : z.lvs ≤ y.lvs + 2 ∧ TOk z ∧ z.dep ≤ max x.dep y.dep + 1 := by
    rcases hz with rfl | ⟨rfl, h2⟩
    · exact ⟨by omega, hy.1, by omega⟩
    · exact ⟨by show x.lvs + y.lvs ≤ _; omega, ⟨hx.1, hy.1⟩, Nat.le_refl _⟩
  have nx := h.nms x (by simp)
  have ny := h.nms y (by simp)
  have nz : ∀ s ∈ z.nms, s ∈ N := by
    rcases hz with rfl | ⟨rfl, _⟩
    · exact ny
    · exact fun s hs => (List.mem_append.mp hs).elim (nx s) (ny s)
  refine ⟨fun t ht => ?_, by simp only [List.length_append, List.length_cons]; omega, fun t ht => ?_, ?_⟩
  · rcases List.mem_append.mp ht with ht | ht
    · exact h.nms t (by simp [ht])
    · rcases List.mem_cons.mp ht with rfl | ht
      · exact fun s hs => (List.mem_append.mp hs).elim (nx s) (nz s)
      · exact h.nms t (by simp [ht])
  · simp only [List.length_append, List.length_cons]
    rcases List.mem_append.mp ht with ht | ht
    · have := h.ok t (by simp [ht])
      simp only [List.length_append, List.length_cons] at this
      exact ⟨this.1, by omega⟩
    · rcases List.mem_cons.mp ht with rfl | ht
      · exact ⟨⟨hx.1, zl.2.1⟩, by show max x.dep z.dep + 1 ≤ _; omega⟩
      · have := h.ok t (by simp [ht])
        simp only [List.length_append, List.length_cons] at this
        exact ⟨this.1, by omega⟩
  · rw [sumL_app, sumL_cons]
    show sumL A + (x.lvs + z.lvs + sumL B) ≤ _
    simp only [List.length_append, List.length_cons]
    omega
theorem atS_mem {L : List Str} {j : Int} (h : 0 ≤ j ∧ j < L.length) : ∃ s ∈ L, atI (L.map D.str) j = some (.str s) := by
  rw [atI_pos h.1]
  have hl : j.toNat < L.length := by omega
  exact ⟨L[j.toNat], List.getElem_mem hl, by rw [List.getElem?_map, List.getElem?_eq_getElem hl]; rfl⟩
theorem row_ix (A B : List Tm) (u v : Tm) : ((A ++ u :: v :: B).map Tm.d)[A.length + 1]? = some v.d := by
  rw [List.getElem?_map, List.getElem?_append_right (by omega)]
  simp
theorem row_er (A B : List Tm) (u v : Tm) : ((A ++ u :: v :: B).map Tm.d).eraseIdx (A.length + 1) = (A ++ u :: B).map Tm.d := by
  rw [List.map_append, List.eraseIdx_append_of_length_le (by rw [List.length_map]; omega), List.length_map, List.map_append]
  simp
theorem row_at (A B : List Tm) (u : Tm) : ((A ++ u :: B).map Tm.d)[A.length]? = some u.d := by
  rw [List.getElem?_map, List.getElem?_append_right (by omega)]
  simp
theorem row_set (A B : List Tm) (u : Tm) (z : D) : ((A ++ u :: B).map Tm.d).set A.length z = A.map Tm.d ++ z :: B.map Tm.d := by
  rw [List.map_append, List.set_append, if_neg (by rw [List.length_map]; omega), List.length_map, Nat.sub_self]
  rfl
theorem m_law_term_ok {l : List Int} {k : Nat} (hl : Nums l k) {i m : Int} {L : List Str} (hm : 1 ≤ m ∧ m ≤ 7) (hi : 0 ≤ i ∧ i + 2 * m < k) (hL : 1 ≤ L.length ∧ L.length ≤ 100) (hN : ∀ s ∈ L, Nm s) :
    ∃ t : Tm, m_law_term [.lst (l.map D.int), .int i, .lst (L.map D.str), .int m] = .ok (.dat t.d) ∧ TOk t ∧ t.dep ≤ 2 * (m.toNat - 1) ∧ t.lvs ≤ 3 * m.toNat - 2 ∧ ∀ s ∈ t.nms, s ∈ L := by
  obtain ⟨x0, e0, _, _⟩ := hl.at_ (i := i) (by omega) (by omega)
  unfold m_law_term r_law_term
  walk_at "r"
  rw [e0]
  walk_at "r"
  have hr : 0 ≤ x0 % m ∧ x0 % m < m := ⟨Int.emod_nonneg _ (by omega), Int.emod_lt_of_pos _ (by omega)⟩
  generalize x0 % m = r0 at hr ⊢
  walk_at "r"
  generalize hq : forGo _ _ _ = q
  obtain ⟨S, rfl, hS⟩ := for_out hq (fun S : List Tm => [.dat (.lst (l.map D.int)), .dat (.int i), .dat (.lst (L.map D.str)), .dat (.int m), .own (S.map Tm.d), .no, .no, .no, .no]) (fun j S => S.length = j ∧ ∀ t ∈ S, ∃ s, t = .nm s ∧ Nm s ∧ s ∈ L) [] rfl ⟨rfl, fun t ht => by cases ht⟩ (by
    rintro j x S hx ⟨h1, h2⟩
    have hi := rg_lt hx
    obtain ⟨y0, ey, _, _⟩ := hl.at_ (i := i + 1 + 2 * x) (by omega) (by omega)
    dsimp only [stepFor, gnm]
    walk_at "r"
    rw [ey]
    walk_at "r"
    obtain ⟨w, hw, ew⟩ := atS_mem (L := L) (j := y0 % L.length) ⟨Int.emod_nonneg _ (by omega), Int.emod_lt_of_pos _ (by omega)⟩
    rw [ew]
    walk_at "r"
    refine ⟨S ++ [.nm w], by rw [List.map_append]; rfl, by rw [List.length_append, h1]; rfl, fun t ht => ?_⟩
    rcases List.mem_append.mp ht with ht | ht
    · exact h2 t ht
    · exact ⟨w, List.mem_singleton.mp ht, hN w hw, hw⟩)
  obtain ⟨h1, h2⟩ := hS
  rw [rg_len] at h1
  clear hq
  walk_at "r"
  have rw0 : Rw L (1 + r0).toNat S := by
    refine ⟨fun t ht => ?_, by omega, fun t ht => ?_, ?_⟩
    · obtain ⟨s, rfl, _, hs⟩ := h2 t ht
      exact fun w hw => by rw [List.mem_singleton.mp hw]; exact hs
    · obtain ⟨s, rfl, hs, _⟩ := h2 t ht
      exact ⟨hs, Nat.zero_le _⟩
    · have : ∀ {T : List Tm}, (∀ t ∈ T, ∃ s, t = .nm s ∧ Nm s ∧ s ∈ L) → sumL T = T.length := fun {T} => by
        induction T with
        | nil => exact fun _ => rfl
        | cons t T ih =>
          intro h
          obtain ⟨s, rfl, _⟩ := h t List.mem_cons_self
          rw [sumL_cons, ih fun t ht => h t (List.mem_cons_of_mem _ ht), List.length_cons]
          show 1 + _ = _
          omega
      rw [this h2]
      omega
  generalize hq : forGo _ _ _ = q
  obtain ⟨S', rfl, g1, g2⟩ := for_out hq (fun S : List Tm => [.dat (.lst (l.map D.int)), .dat (.int i), .dat (.lst (L.map D.str)), .dat (.int m), .own (S.map Tm.d), .no, .no, .no, .no]) (fun j S => Rw L (1 + r0).toNat S ∧ (S.length = 1 ∨ S.length + j ≤ (1 + r0).toNat)) S rfl ⟨rw0, by omega⟩ (by
    rintro j x S hx ⟨g1, g2⟩
    have hi := rg_lt hx
    have gl := g1.len
    obtain ⟨y0, ey, hy0, hy1⟩ := hl.at_ (i := i + 2 + 2 * x) (by omega) (by omega)
    dsimp only [stepFor, gnm]
    walk_at "r"
    by_cases c : 1 < (S.length : Int)
    · rw [if_pos c]
      walk_at "r"
      rw [ey]
      walk_at "r"
      have hp : 0 ≤ y0 % ((S.length : Int) - 1) ∧ y0 % ((S.length : Int) - 1) < (S.length : Int) - 1 := ⟨Int.emod_nonneg _ (by omega), Int.emod_lt_of_pos _ (by omega)⟩
      generalize y0 % ((S.length : Int) - 1) = p at hp ⊢
      obtain ⟨A, u, v, B, rfl, hA⟩ := split2 (S := S) (p := p.toNat) (by omega)
      have l0 : (A ++ u :: v :: B).length = A.length + 2 + B.length := by simp only [List.length_append, List.length_cons]; omega
      have l1 : (A ++ u :: B).length = A.length + 1 + B.length := by simp only [List.length_append, List.length_cons]; omega
      rw [if_pos (by omega), show (p + 1).toNat = A.length + 1 by omega, row_ix, row_er]
      dsimp only
      walk_at "r"
      rw [ey]
      walk_at "r"
      obtain rfl : p = (A.length : Int) := by omega
      have ea : atI ((A ++ u :: B).map Tm.d) (A.length : Int) = some u.d := (DL.atI_nat).trans (row_at A B u)
      have hu := g1.ok u (by simp)
      have hv := g1.ok v (by simp)
      have hs := g1.sum
      rw [sumL_app, sumL_cons, sumL_cons] at hs
      have r13 : (1 + r0).toNat ≤ 7 := by omega
      obtain ⟨Lu, eLu, lLu⟩ := m_lvs_eq (t := u) (f := 18) (by omega) (by omega)
      rw [ea]
      walk_at "r"
      have fin : ∀ z : Tm, (z = v ∨ (z = .pr u v ∧ u.lvs ≤ 2)) → Rw L (1 + r0).toNat (A ++ .pr u z :: B) ∧ ((A ++ Tm.pr u z :: B).length = 1 ∨ (A ++ Tm.pr u z :: B).length + (j + 1) ≤ (1 + r0).toNat) := fun z hz =>
        ⟨g1.step hz, by
          have e : (A ++ Tm.pr u z :: B).length = A.length + 1 + B.length := by simp only [List.length_append, List.length_cons]; omega
          omega⟩
      have row : ∀ z : Tm, A.map Tm.d ++ D.tup [u.d, z.d] :: B.map Tm.d = (A ++ Tm.pr u z :: B).map Tm.d := fun z => by rw [List.map_append]; rfl
      by_cases c1 : y0 / 7 % 4 = 0
      · rw [if_pos c1, eLu]
        walk_at "r"
        by_cases c2 : (Lu.length : Int) < 3
        · rw [if_pos c2]
          walk_at "r"
          rw [ea]
          walk_at "r"
          rw [Int.toNat_natCast, row_set, show D.tup [u.d, v.d] = (Tm.pr u v).d from rfl, row]
          exact ⟨_, rfl, fin (.pr u v) (.inr ⟨rfl, by omega⟩)⟩
        · rw [if_neg c2]
          walk_at "r"
          rw [ea]
          walk_at "r"
          rw [Int.toNat_natCast, row_set, row]
          exact ⟨_, rfl, fin v (.inl rfl)⟩
      · rw [if_neg c1]
        walk_at "r"
        rw [ea]
        walk_at "r"
        rw [Int.toNat_natCast, row_set, row]
        exact ⟨_, rfl, fin v (.inl rfl)⟩
    · rw [if_neg c]
      walk_at "r"
      exact ⟨S, rfl, g1, .inl (by omega)⟩)
  walk_at "r"
  have gl := g1.len
  rw [rg_len] at g2
  obtain ⟨t, rfl⟩ : ∃ t, S' = [t] := by
    cases S' with
    | nil => simp at gl
    | cons t T =>
      cases T with
      | nil => exact ⟨t, rfl⟩
      | cons _ _ => simp at g2 gl; omega
  have ht := g1.ok t (by simp)
  have hs := g1.sum
  rw [sumL_cons] at hs
  simp only [List.length_cons, List.length_nil] at ht hs
  refine ⟨t, ?_, ht.1, by omega, ?_, g1.nms t (by simp)⟩
  · walk_at "r"
  · have : sumL [] = 0 := rfl
    omega
end K35

set_option maxRecDepth 100000
set_option maxHeartbeats 4000000
namespace K35
open PySem PySem.Spec L2 DL
local macro_rules | `(tactic| walk_at "r") => `(tactic| try simp -implicitDefEqProofs (disch := omega) only [rDisp1, e_bSortKS_d, asKS_map, rM1, rM1O, rM0, rM0O, e_oJoin_l, e_oJoin_t, e_bStrA_i, e_bStrA_s, rFs, rJs, e_oFmt_i, e_oFmt_s, rIStr, e_oSplit, e_oWords, xAugL, e_bIntS, mkM, rC, rVar, rOp, rUn, rCb, rNil, rCons, rStar, rApp, rApp2, rStill, rCall, rTup, rLst, rNewK, rNewT, rAndV, rOrV, rNotV, rIfE, rChain, rChain3, rChain4, rTest, rYes, rAnd, rOr, rNot, rTru, gnm,
  rNext, rBreak, rCont, rRetN, rSeq, rDrop, rRet, rRetO, rRetV, rSet, rSetO, rAsg, rIf, rK, rF, rPar, rPar3, rFor, rAug, aug, xAppend, rIxV, rLenV, gsub, rAugS, xInsert, xPopAt, rDGet, rDGet2, rDIn, rDNotIn, rDLen, rDPut, rLockF, xModIx, xModIn, rRaise0, rRaise1, xIsX, rXf, rXfC,
  rListOfD, rListOfA, e_seqK_l, e_seqK_t, e_seqK_d, e_seqK_f, rTruV, List.isEmpty_map, xExtend, xSetPop, xSetPopAt, rDc, rLkO, rLstRg1, sortedO, List.isEmpty_cons, List.isEmpty_nil, List.head?_cons, List.head?_nil, List.find?_nil, xIsi, xIsi2, rIList, rITup, rISeq, rIRng1, rIRng2, rIRng3, rIEnum, rIValsN, rIValsV, rIKeysV, rPN, rPS, rSl, rL, rLO, rLc, rLc2, wipeR,
  Re.ok_bind, Re.ex_bind, Re.bad_bind, Re.ok_os, Re.ex_os, Re.bad_os, Os.nx_thn, Os.rt_thn, Os.bk_thn, Os.ct_thn, Os.ex_thn, Os.bad_thn, Os.uni_const, rowB, gt, frz, frz1, fgt, D.has, D.hass, asI, asB, asT, asI_map, asB_map, asT_map, keysK, keyT_tD,
  e_of_some, e_osof, e_ret_nx, e_ret_rt, e_ret_ex, e_kil_nx, e_kil_bk, e_kil_ct, e_kil_rt, e_kil_ex, e_noexc_nx, e_noexc_bk, e_noexc_ct, e_noexc_rt, e_noex, e_val, e_get_dat, e_get_own, e_get_oK, e_get_oT, e_rtv_dat, e_rtv_own, e_rtv_oK, e_rtv_oT, e_ownL, e_isD_oT, e_isD_dT, e_isD_fT, e_isOD_T, e_ask_oT, e_has_oT, e_len_oT, e_ask_dT, e_has_dT, e_len_dT, e_ask_fT, e_has_fT, e_len_fT, e_put_T, e_lock_T, e_isD_oK, e_isD_dK, e_isD_fK, e_isOD_K, e_ask_oK, e_has_oK, e_len_oK, e_ask_dK, e_has_dK, e_len_dK, e_ask_fK, e_has_fK, e_len_fK, e_put_K, e_lock_K, e_keyK_int, e_keyK_str, e_keyT2, e_keyT3, e_blD, e_tru_non, e_tru_bl, e_tru_int, e_tru_lst, e_tru_tup, e_seq_l, e_seq_t, e_gtp, e_gls, e_gco, e_gni, e_oSub, e_oLt, e_oLe, e_oGt, e_oGe, e_oEq, e_oNe, e_oAdd, e_oIAdd, e_oXor, e_oAddL, e_oAddS, oEqTs, oNeTs, oEqLI, oNeLI, oEqTI, oNeTI, e_oAddT, e_oMulR, e_oMulL, e_oMul, e_oMulLst, e_oIMulR, e_oIMulL, e_oDiv, e_oDivB, e_oMod, e_oPow, e_oEqS, e_oNeS, e_oEqB, e_oNeB, e_oIs, e_oIsNot, e_nonD, e_nonD_int, e_nonD_str, e_nonD_lst, e_nonD_tup, e_nonD_bl, e_oNeg, e_oIxL, e_oIxT, e_oIn_lst, e_oIn_tup, e_oNotIn_lst, e_oNotIn_tup, e_oSlL_l, e_oSlL_s, e_oSlAny_l, e_oSlAny_s, rRev, e_oRev_l, e_oRev_t, e_oSlA_t, e_oSlAny_t, e_bAbs, e_bLenL, e_bLenT, e_bInt, e_bIntT, e_bIntF, e_bIntB, e_bTupL, e_bTupT, e_bMax2, e_bMin2, e_bAll, e_bAny, e_bSumA, e_bSumAt, e_bMinR, rTupRg1, xAppPopAt, rRep1, e_bSorted_lst, e_bSorted_tup, e_isT_non_int, e_isT_non_bool, e_isT_non_str, e_isT_non_list, e_isT_non_tuple, e_isT_bl_int, e_isT_bl_bool, e_isT_bl_str, e_isT_bl_list, e_isT_bl_tuple, e_isT_int_int, e_isT_int_bool, e_isT_int_str, e_isT_int_list, e_isT_int_tuple, e_isT_str_int, e_isT_str_bool, e_isT_str_str, e_isT_str_list, e_isT_str_tuple, e_isT_lst_int, e_isT_lst_bool, e_isT_lst_str, e_isT_lst_list, e_isT_lst_tuple, e_isT_tup_int, e_isT_tup_bool, e_isT_tup_str, e_isT_tup_list, e_isT_tup_tuple, e_irng1, e_irng2, e_irng3, e_oIsA_n, e_oIsA_b, e_oIsntA_n, e_oIsntA_b, oInA, oNotInA, e_inD_il, e_inD_it, e_inD_sl, e_inD_st, e_inD_tl, e_inD_ti, asS, asS_map, Option.isSome_some, Option.isSome_none, k_bose_skolem, k_bose_affine, k_bose_binary, k_bose_listed, k_bose_double, k_bose_product, k_skolem_bose, k_skolem_affine, k_skolem_binary, k_skolem_listed, k_skolem_double, k_skolem_product, k_affine_bose, k_affine_skolem, k_affine_binary, k_affine_listed, k_affine_double, k_affine_product, k_binary_bose, k_binary_skolem, k_binary_affine, k_binary_listed, k_binary_double, k_binary_product, k_listed_bose, k_listed_skolem, k_listed_affine, k_listed_binary, k_listed_double, k_listed_product, k_double_bose, k_double_skolem, k_double_affine, k_double_binary, k_double_listed, k_double_product, k_product_bose, k_product_skolem, k_product_affine, k_product_binary, k_product_listed, k_product_double, arm_bose, arm_skolem, arm_affine, arm_binary, arm_listed, arm_double, arm_product, e_shas_oT, e_shas_oK, hass_pD, hass_lI, e_lendD, e_lendS, e_has_dat, e_has_own, e_hass_ints, e_hass_tI, and_okP, or_okP, andD_okP, orD_okP, atI_lit, e_ixN, List.getElem?_cons_zero, List.getElem?_cons_succ,
  List.map_cons, List.map_nil, List.cons_append, List.nil_append, List.length_cons, List.length_nil, List.length_map, List.length_append, List.length_take, List.length_drop, rg_len, rgs_len, rgd_len, List.length_set, List.set_cons_zero, List.set_cons_succ, Nat.reduceAdd, Nat.reduceLeDiff, Nat.reduceEqDiff, Option.bind_some, Option.map_some, Option.bind_none, Option.map_none, Bool.not_true, Bool.not_false, Bool.or_false, Bool.false_or, Bool.and_true, Bool.true_and, Bool.or_true, Bool.true_or, Bool.and_false, Bool.false_and, Bool.or_self, Bool.and_self, Bool.not_not,
  decide_true, decide_false, decide_eq_true_eq, Bool.and_eq_true, Bool.or_eq_true, bnot_true, bool_eqf, ite_not, Decidable.not_not, if_true, if_false, ite_true, ite_false, Bool.false_eq_true, and_true, true_and, false_and, and_false, and_self, eq_self, reduceCtorEq, not_true, not_false_eq_true, and_ok, or_ok, andD_ok, orD_ok, if_pos, if_neg, Int.reduceLE, Int.reduceLT, Int.reduceNeg, Int.reduceAdd, Int.reduceSub, Int.reduceMul, Int.reduceMod, Int.reduceDiv, Int.reduceEq, Int.reducePow, Nat.reducePow, Int.reduceToNat])
theorem lpar : (("(" : Str)).length = 1 := by decide +kernel
theorem lspc : ((" " : Str)).length = 1 := by decide +kernel
theorem lrpa : ((")" : Str)).length = 1 := by decide +kernel
theorem m_law_text_eq : ∀ {t : Tm} {f : Nat}, TOk t → t.lvs ≤ 200 → t.dep < f → m_law_text f [t.d] = .ok (.dat (.str t.tx))
  | _, 0, _, _, h => absurd h (Nat.not_lt_zero _)
  | .nm s, f + 1, h, _, _ => by
    unfold m_law_text q_law_text
    rw [Tm.d]
    walk_at "r"
    rfl
  | .pr a b, f + 1, h, hl, hd => by
    have hd : max a.dep b.dep + 1 < f + 1 := hd
    have hl : a.lvs + b.lvs ≤ 200 := hl
    have ia := m_law_text_eq (t := a) (f := f) h.1 (by omega) (by omega)
    have ib := m_law_text_eq (t := b) (f := f) h.2 (by omega) (by omega)
    have la := tx_len h.1
    have lb := tx_len h.2
    have l1 := lpar
    have l2 := lspc
    have l3 := lrpa
    have m1 : (("(" : Str) ++ a.tx).length ≤ 5000 := by rw [app_len]; omega
    have m2 : (("(" : Str) ++ a.tx ++ (" " : Str)).length ≤ 5001 := by rw [app_len]; omega
    have m3 : (("(" : Str) ++ a.tx ++ (" " : Str) ++ b.tx).length ≤ 9000 := by rw [app_len]; omega
    unfold m_law_text q_law_text
    rw [Tm.d]
    walk_at "r"
    rw [ia]
    walk_at "r"
    rw [ib]
    walk_at "r"
    rfl
theorem m_kept_eq : ∀ {t : Tm} {d : D} {f : Nat}, Rep t d → t.dep < f → m_kept f [d] = .ok (.dat t.d)
  | _, _, 0, _, h => absurd h (Nat.not_lt_zero _)
  | .nm s, d, f + 1, hr, _ => by
    obtain rfl : d = .str s := hr
    unfold m_kept q_kept
    walk_at "r"
    rfl
  | .pr a b, d, f + 1, hr, hd => by
    obtain ⟨x, y, hxy, ra, rb⟩ := hr
    have hd : max a.dep b.dep + 1 < f + 1 := hd
    have ia := m_kept_eq (t := a) (f := f) ra (by omega)
    have ib := m_kept_eq (t := b) (f := f) rb (by omega)
    unfold m_kept q_kept
    rcases hxy with rfl | rfl <;>
    · walk_at "r"
      rw [ia]
      walk_at "r"
      rw [ib]
      walk_at "r"
      rfl
end K35

set_option maxRecDepth 100000
set_option maxHeartbeats 4000000
namespace K35
open PySem PySem.Spec L2 DL
local macro_rules | `(tactic| walk_at "r") => `(tactic| try simp -implicitDefEqProofs (disch := omega) only [rDisp1, e_bSortKS_d, asKS_map, rM1, rM1O, rM0, rM0O, e_oJoin_l, e_oJoin_t, e_bStrA_i, e_bStrA_s, rFs, rJs, e_oFmt_i, e_oFmt_s, rIStr, e_oSplit, e_oWords, xAugL, e_bIntS, mkM, rC, rVar, rOp, rUn, rCb, rNil, rCons, rStar, rApp, rApp2, rStill, rCall, rTup, rLst, rNewK, rNewT, rAndV, rOrV, rNotV, rIfE, rChain, rChain3, rChain4, rTest, rYes, rAnd, rOr, rNot, rTru, gnm,
  rNext, rBreak, rCont, rRetN, rSeq, rDrop, rRet, rRetO, rRetV, rSet, rSetO, rAsg, rIf, rK, rF, rPar, rPar3, rFor, rAug, aug, xAppend, rIxV, rLenV, gsub, rAugS, xInsert, xPopAt, rDGet, rDGet2, rDIn, rDNotIn, rDLen, rDPut, rLockF, xModIx, xModIn, rRaise0, rRaise1, xIsX, rXf, rXfC,
  rListOfD, rListOfA, e_seqK_l, e_seqK_t, e_seqK_d, e_seqK_f, rTruV, List.isEmpty_map, xExtend, xSetPop, xSetPopAt, rDc, rLkO, rLstRg1, sortedO, List.isEmpty_cons, List.isEmpty_nil, List.head?_cons, List.head?_nil, List.find?_nil, xIsi, xIsi2, rIList, rITup, rISeq, rIRng1, rIRng2, rIRng3, rIEnum, rIValsN, rIValsV, rIKeysV, rPN, rPS, rSl, rL, rLO, rLc, rLc2, wipeR,
  Re.ok_bind, Re.ex_bind, Re.bad_bind, Re.ok_os, Re.ex_os, Re.bad_os, Os.nx_thn, Os.rt_thn, Os.bk_thn, Os.ct_thn, Os.ex_thn, Os.bad_thn, Os.uni_const, rowB, gt, frz, frz1, fgt, D.has, D.hass, asI, asB, asT, asI_map, asB_map, asT_map, keysK, keyT_tD,
  e_of_some, e_osof, e_ret_nx, e_ret_rt, e_ret_ex, e_kil_nx, e_kil_bk, e_kil_ct, e_kil_rt, e_kil_ex, e_noexc_nx, e_noexc_bk, e_noexc_ct, e_noexc_rt, e_noex, e_val, e_get_dat, e_get_own, e_get_oK, e_get_oT, e_rtv_dat, e_rtv_own, e_rtv_oK, e_rtv_oT, e_ownL, e_isD_oT, e_isD_dT, e_isD_fT, e_isOD_T, e_ask_oT, e_has_oT, e_len_oT, e_ask_dT, e_has_dT, e_len_dT, e_ask_fT, e_has_fT, e_len_fT, e_put_T, e_lock_T, e_isD_oK, e_isD_dK, e_isD_fK, e_isOD_K, e_ask_oK, e_has_oK, e_len_oK, e_ask_dK, e_has_dK, e_len_dK, e_ask_fK, e_has_fK, e_len_fK, e_put_K, e_lock_K, e_keyK_int, e_keyK_str, e_keyT2, e_keyT3, e_blD, e_tru_non, e_tru_bl, e_tru_int, e_tru_lst, e_tru_tup, e_seq_l, e_seq_t, e_gtp, e_gls, e_gco, e_gni, e_oSub, e_oLt, e_oLe, e_oGt, e_oGe, e_oEq, e_oNe, e_oAdd, e_oIAdd, e_oXor, e_oAddL, e_oAddS, oEqTs, oNeTs, oEqLI, oNeLI, oEqTI, oNeTI, e_oAddT, e_oMulR, e_oMulL, e_oMul, e_oMulLst, e_oIMulR, e_oIMulL, e_oDiv, e_oDivB, e_oMod, e_oPow, e_oEqS, e_oNeS, e_oEqB, e_oNeB, e_oIs, e_oIsNot, e_nonD, e_nonD_int, e_nonD_str, e_nonD_lst, e_nonD_tup, e_nonD_bl, e_oNeg, e_oIxL, e_oIxT, e_oIn_lst, e_oIn_tup, e_oNotIn_lst, e_oNotIn_tup, e_oSlL_l, e_oSlL_s, e_oSlAny_l, e_oSlAny_s, rRev, e_oRev_l, e_oRev_t, e_oSlA_t, e_oSlAny_t, e_bAbs, e_bLenL, e_bLenT, e_bInt, e_bIntT, e_bIntF, e_bIntB, e_bTupL, e_bTupT, e_bMax2, e_bMin2, e_bAll, e_bAny, e_bSumA, e_bSumAt, e_bMinR, rTupRg1, xAppPopAt, rRep1, e_bSorted_lst, e_bSorted_tup, e_isT_non_int, e_isT_non_bool, e_isT_non_str, e_isT_non_list, e_isT_non_tuple, e_isT_bl_int, e_isT_bl_bool, e_isT_bl_str, e_isT_bl_list, e_isT_bl_tuple, e_isT_int_int, e_isT_int_bool, e_isT_int_str, e_isT_int_list, e_isT_int_tuple, e_isT_str_int, e_isT_str_bool, e_isT_str_str, e_isT_str_list, e_isT_str_tuple, e_isT_lst_int, e_isT_lst_bool, e_isT_lst_str, e_isT_lst_list, e_isT_lst_tuple, e_isT_tup_int, e_isT_tup_bool, e_isT_tup_str, e_isT_tup_list, e_isT_tup_tuple, e_irng1, e_irng2, e_irng3, e_oIsA_n, e_oIsA_b, e_oIsntA_n, e_oIsntA_b, oInA, oNotInA, e_inD_il, e_inD_it, e_inD_sl, e_inD_st, e_inD_tl, e_inD_ti, asS, asS_map, Option.isSome_some, Option.isSome_none, k_bose_skolem, k_bose_affine, k_bose_binary, k_bose_listed, k_bose_double, k_bose_product, k_skolem_bose, k_skolem_affine, k_skolem_binary, k_skolem_listed, k_skolem_double, k_skolem_product, k_affine_bose, k_affine_skolem, k_affine_binary, k_affine_listed, k_affine_double, k_affine_product, k_binary_bose, k_binary_skolem, k_binary_affine, k_binary_listed, k_binary_double, k_binary_product, k_listed_bose, k_listed_skolem, k_listed_affine, k_listed_binary, k_listed_double, k_listed_product, k_double_bose, k_double_skolem, k_double_affine, k_double_binary, k_double_listed, k_double_product, k_product_bose, k_product_skolem, k_product_affine, k_product_binary, k_product_listed, k_product_double, arm_bose, arm_skolem, arm_affine, arm_binary, arm_listed, arm_double, arm_product, e_shas_oT, e_shas_oK, hass_pD, hass_lI, e_lendD, e_lendS, e_has_dat, e_has_own, e_hass_ints, e_hass_tI, and_okP, or_okP, andD_okP, orD_okP, atI_lit, e_ixN, List.getElem?_cons_zero, List.getElem?_cons_succ,
  List.map_cons, List.map_nil, List.cons_append, List.nil_append, List.length_cons, List.length_nil, List.length_map, List.length_append, List.length_take, List.length_drop, rg_len, rgs_len, rgd_len, List.length_set, List.set_cons_zero, List.set_cons_succ, Nat.reduceAdd, Nat.reduceLeDiff, Nat.reduceEqDiff, Option.bind_some, Option.map_some, Option.bind_none, Option.map_none, Bool.not_true, Bool.not_false, Bool.or_false, Bool.false_or, Bool.and_true, Bool.true_and, Bool.or_true, Bool.true_or, Bool.and_false, Bool.false_and, Bool.or_self, Bool.and_self, Bool.not_not,
  decide_true, decide_false, decide_eq_true_eq, Bool.and_eq_true, Bool.or_eq_true, bnot_true, bool_eqf, ite_not, Decidable.not_not, if_true, if_false, ite_true, ite_false, Bool.false_eq_true, and_true, true_and, false_and, and_false, and_self, eq_self, reduceCtorEq, not_true, not_false_eq_true, and_ok, or_ok, andD_ok, orD_ok, if_pos, if_neg, Int.reduceLE, Int.reduceLT, Int.reduceNeg, Int.reduceAdd, Int.reduceSub, Int.reduceMul, Int.reduceMod, Int.reduceDiv, Int.reduceEq, Int.reducePow, Nat.reducePow, Int.reduceToNat])
theorem m_check_ok {t : Tm} {d : D} (ht : TOk t) (hd : Rep t d) (hl : t.lvs ≤ 200) : m_check_term [d] = .ok (.dat .non) := by
  unfold m_check_term r_check_term
  walk_at "r"
  rw [m_leaves_eq ht hd hl]
  walk_at "r"
theorem nms_len : ∀ t : Tm, t.nms.length = t.lvs
  | .nm s => rfl
  | .pr a b => by rw [Tm.nms, List.length_append, nms_len a, nms_len b]; rfl
theorem m_leaf_count_eq {t : Tm} {d : D} (ht : TOk t) (hd : Rep t d) (hl : t.lvs ≤ 200) : m_leaf_count [d] = .ok (.dat (.int t.lvs)) := by
  have ln := nms_len t
  unfold m_leaf_count r_leaf_count
  walk_at "r"
  rw [m_leaves_eq ht hd hl]
  walk_at "r"
  all_goals rw [ln]
theorem m_written_r : ∀ {t : Tm} {f : Nat} {d : D}, Rep t d → TOk t → t.lvs ≤ 200 → t.dep < f → m_written f [d] = .ok (.dat (.str t.tx))
  | _, 0, _, _, _, _, h => absurd h (Nat.not_lt_zero _)
  | .nm s, f + 1, d, hr, h, _, _ => by
    obtain rfl : d = .str s := hr
    unfold m_written q_written
    walk_at "r"
    rfl
  | .pr a b, f + 1, d, hr, h, hl, hd => by
    have hd : max a.dep b.dep + 1 < f + 1 := hd
    have hl : a.lvs + b.lvs ≤ 200 := hl
    obtain ⟨x, y, hxy, ra, rb⟩ := hr
    have ia := m_written_r (t := a) (f := f) ra h.1 (by omega) (by omega)
    have ib := m_written_r (t := b) (f := f) rb h.2 (by omega) (by omega)
    have la := tx_len h.1
    have lb := tx_len h.2
    have l1 := lpar
    have l2 := lspc
    have l3 := lrpa
    have m1 : (("(" : Str) ++ a.tx).length ≤ 5000 := by rw [app_len]; omega
    have m2 : (("(" : Str) ++ a.tx ++ (" " : Str)).length ≤ 5001 := by rw [app_len]; omega
    have m3 : (("(" : Str) ++ a.tx ++ (" " : Str) ++ b.tx).length ≤ 9000 := by rw [app_len]; omega
    have m4 : (("(" : Str) ++ a.tx ++ (" " : Str) ++ b.tx ++ (")" : Str)).length ≤ 9001 := by rw [app_len]; omega
    unfold m_written q_written
    rcases hxy with rfl | rfl
    all_goals (
      walk_at "r"
      rw [ia]
      walk_at "r"
      rw [ib]
      walk_at "r"
      rw [emp_app]
      walk_at "r"
      rfl)
theorem m_term_text_eq {t : Tm} (ht : TOk t) (hl : t.lvs ≤ 200) (dp : t.dep < 18) {d : D} (hd : Rep t d) : m_term_text [d] = .ok (.dat (.str t.tx)) := by
  unfold m_term_text r_term_text
  walk_at "r"
  rw [m_check_ok ht hd hl]
  walk_at "r"
  rw [m_written_r hd ht hl dp]
  walk_at "r"
theorem keys_fold : ∀ (L : List Str) (acc : List Key × List D) (js : List Str), acc.1 = js.map Sum.inr → js.Nodup → ∃ is : List Str, (L.foldl (fun a x => (kput a.1 (Sum.inr x), vput a.1 a.2 (Sum.inr x) (D.bl true))) acc).1 = is.map Sum.inr ∧ is.length ≤ js.length + L.length ∧ is.Nodup ∧ ∀ s, s ∈ is ↔ s ∈ js ∨ s ∈ L
  | [], acc, js, h, nd => ⟨js, h, by simp, nd, fun s => by simp⟩
  | x :: L, acc, js, h, nd => by
    rw [List.foldl_cons]
    obtain ⟨ls, hl, hle, hn, hm⟩ : ∃ ls : List Str, kput acc.1 (Sum.inr x) = ls.map Sum.inr ∧ ls.length ≤ js.length + 1 ∧ ls.Nodup ∧ ∀ s, s ∈ ls ↔ s ∈ js ∨ s = x := by
      unfold kput
      split
      · rename_i hx
        refine ⟨js, h, by omega, nd, fun s => ⟨.inl, fun z => z.elim id fun e => ?_⟩⟩
        rw [h] at hx
        obtain ⟨y, hy, e2⟩ := List.mem_map.mp hx
        cases e2
        rw [e]
        exact hy
      · rename_i hx
        refine ⟨js ++ [x], by rw [h, List.map_append]; rfl, by simp, ?_, fun s => by simp⟩
        rw [List.nodup_append]
        refine ⟨nd, by simp, fun a ha b hb e => hx ?_⟩
        rw [List.mem_singleton] at hb
        rw [h]
        exact List.mem_map.mpr ⟨a, ha, by rw [e, hb]⟩
    obtain ⟨is, e, hi, hnd, hs⟩ := keys_fold L (kput acc.1 (Sum.inr x), vput acc.1 acc.2 (Sum.inr x) (D.bl true)) ls hl hn
    refine ⟨is, e, by rw [List.length_cons]; omega, hnd, fun s => ?_⟩
    rw [hs, hm, List.mem_cons, or_assoc]
theorem m_names_of_eq {t : Tm} {d : D} (ht : TOk t) (hd : Rep t d) (hl : t.lvs ≤ 60) : m_names_of [d] = .ok (.own ((srtSet t.nms).map D.str)) := by
  obtain ⟨is, e, hi, nd, hs⟩ := keys_fold t.nms ([], []) [] rfl List.nodup_nil
  have ln := nms_len t
  have es := srtSet_is nd (l := t.nms) (fun k => by rw [hs]; simp)
  unfold m_names_of r_names_of
  walk_at "r"
  rw [m_leaves_eq ht hd (by omega)]
  walk_at "r"
  rw [dc_fold (p := fun _ => true) (kf := fun x => Sum.inr x) (vf := fun _ => .bl true) _ (fun x hx => by
    dsimp only [dcF, gnm]
    walk_at "r")]
  walk_at "r"
  rw [e, asKS_map]
  simp only [List.length_nil] at hi
  walk_at "r"
  rw [es]
end K35

set_option maxRecDepth 100000
set_option maxHeartbeats 4000000
namespace K35
open PySem PySem.Spec L2 DL
local macro_rules | `(tactic| walk_at "r") => `(tactic| try simp -implicitDefEqProofs (disch := omega) only [rDisp1, e_bSortKS_d, asKS_map, rM1, rM1O, rM0, rM0O, e_oJoin_l, e_oJoin_t, e_bStrA_i, e_bStrA_s, rFs, rJs, e_oFmt_i, e_oFmt_s, rIStr, e_oSplit, e_oWords, xAugL, e_bIntS, mkM, rC, rVar, rOp, rUn, rCb, rNil, rCons, rStar, rApp, rApp2, rStill, rCall, rTup, rLst, rNewK, rNewT, rAndV, rOrV, rNotV, rIfE, rChain, rChain3, rChain4, rTest, rYes, rAnd, rOr, rNot, rTru, gnm,
  rNext, rBreak, rCont, rRetN, rSeq, rDrop, rRet, rRetO, rRetV, rSet, rSetO, rAsg, rIf, rK, rF, rPar, rPar3, rFor, rAug, aug, xAppend, rIxV, rLenV, gsub, rAugS, xInsert, xPopAt, rDGet, rDGet2, rDIn, rDNotIn, rDLen, rDPut, rLockF, xModIx, xModIn, rRaise0, rRaise1, xIsX, rXf, rXfC,
  rListOfD, rListOfA, e_seqK_l, e_seqK_t, e_seqK_d, e_seqK_f, rTruV, List.isEmpty_map, xExtend, xSetPop, xSetPopAt, rDc, rLkO, rLstRg1, sortedO, List.isEmpty_cons, List.isEmpty_nil, List.head?_cons, List.head?_nil, List.find?_nil, xIsi, xIsi2, rIList, rITup, rISeq, rIRng1, rIRng2, rIRng3, rIEnum, rIValsN, rIValsV, rIKeysV, rPN, rPS, rSl, rL, rLO, rLc, rLc2, wipeR,
  Re.ok_bind, Re.ex_bind, Re.bad_bind, Re.ok_os, Re.ex_os, Re.bad_os, Os.nx_thn, Os.rt_thn, Os.bk_thn, Os.ct_thn, Os.ex_thn, Os.bad_thn, Os.uni_const, rowB, gt, frz, frz1, fgt, D.has, D.hass, asI, asB, asT, asI_map, asB_map, asT_map, keysK, keyT_tD,
  e_of_some, e_osof, e_ret_nx, e_ret_rt, e_ret_ex, e_kil_nx, e_kil_bk, e_kil_ct, e_kil_rt, e_kil_ex, e_noexc_nx, e_noexc_bk, e_noexc_ct, e_noexc_rt, e_noex, e_val, e_get_dat, e_get_own, e_get_oK, e_get_oT, e_rtv_dat, e_rtv_own, e_rtv_oK, e_rtv_oT, e_ownL, e_isD_oT, e_isD_dT, e_isD_fT, e_isOD_T, e_ask_oT, e_has_oT, e_len_oT, e_ask_dT, e_has_dT, e_len_dT, e_ask_fT, e_has_fT, e_len_fT, e_put_T, e_lock_T, e_isD_oK, e_isD_dK, e_isD_fK, e_isOD_K, e_ask_oK, e_has_oK, e_len_oK, e_ask_dK, e_has_dK, e_len_dK, e_ask_fK, e_has_fK, e_len_fK, e_put_K, e_lock_K, e_keyK_int, e_keyK_str, e_keyT2, e_keyT3, e_blD, e_tru_non, e_tru_bl, e_tru_int, e_tru_lst, e_tru_tup, e_seq_l, e_seq_t, e_gtp, e_gls, e_gco, e_gni, e_oSub, e_oLt, e_oLe, e_oGt, e_oGe, e_oEq, e_oNe, e_oAdd, e_oIAdd, e_oXor, e_oAddL, e_oAddS, oEqTs, oNeTs, oEqLI, oNeLI, oEqTI, oNeTI, e_oAddT, e_oMulR, e_oMulL, e_oMul, e_oMulLst, e_oIMulR, e_oIMulL, e_oDiv, e_oDivB, e_oMod, e_oPow, e_oEqS, e_oNeS, e_oEqB, e_oNeB, e_oIs, e_oIsNot, e_nonD, e_nonD_int, e_nonD_str, e_nonD_lst, e_nonD_tup, e_nonD_bl, e_oNeg, e_oIxL, e_oIxT, e_oIn_lst, e_oIn_tup, e_oNotIn_lst, e_oNotIn_tup, e_oSlL_l, e_oSlL_s, e_oSlAny_l, e_oSlAny_s, rRev, e_oRev_l, e_oRev_t, e_oSlA_t, e_oSlAny_t, e_bAbs, e_bLenL, e_bLenT, e_bInt, e_bIntT, e_bIntF, e_bIntB, e_bTupL, e_bTupT, e_bMax2, e_bMin2, e_bAll, e_bAny, e_bSumA, e_bSumAt, e_bMinR, rTupRg1, xAppPopAt, rRep1, e_bSorted_lst, e_bSorted_tup, e_isT_non_int, e_isT_non_bool, e_isT_non_str, e_isT_non_list, e_isT_non_tuple, e_isT_bl_int, e_isT_bl_bool, e_isT_bl_str, e_isT_bl_list, e_isT_bl_tuple, e_isT_int_int, e_isT_int_bool, e_isT_int_str, e_isT_int_list, e_isT_int_tuple, e_isT_str_int, e_isT_str_bool, e_isT_str_str, e_isT_str_list, e_isT_str_tuple, e_isT_lst_int, e_isT_lst_bool, e_isT_lst_str, e_isT_lst_list, e_isT_lst_tuple, e_isT_tup_int, e_isT_tup_bool, e_isT_tup_str, e_isT_tup_list, e_isT_tup_tuple, e_irng1, e_irng2, e_irng3, e_oIsA_n, e_oIsA_b, e_oIsntA_n, e_oIsntA_b, oInA, oNotInA, e_inD_il, e_inD_it, e_inD_sl, e_inD_st, e_inD_tl, e_inD_ti, asS, asS_map, Option.isSome_some, Option.isSome_none, k_bose_skolem, k_bose_affine, k_bose_binary, k_bose_listed, k_bose_double, k_bose_product, k_skolem_bose, k_skolem_affine, k_skolem_binary, k_skolem_listed, k_skolem_double, k_skolem_product, k_affine_bose, k_affine_skolem, k_affine_binary, k_affine_listed, k_affine_double, k_affine_product, k_binary_bose, k_binary_skolem, k_binary_affine, k_binary_listed, k_binary_double, k_binary_product, k_listed_bose, k_listed_skolem, k_listed_affine, k_listed_binary, k_listed_double, k_listed_product, k_double_bose, k_double_skolem, k_double_affine, k_double_binary, k_double_listed, k_double_product, k_product_bose, k_product_skolem, k_product_affine, k_product_binary, k_product_listed, k_product_double, arm_bose, arm_skolem, arm_affine, arm_binary, arm_listed, arm_double, arm_product, e_shas_oT, e_shas_oK, hass_pD, hass_lI, e_lendD, e_lendS, e_has_dat, e_has_own, e_hass_ints, e_hass_tI, and_okP, or_okP, andD_okP, orD_okP, atI_lit, e_ixN, List.getElem?_cons_zero, List.getElem?_cons_succ,
  List.map_cons, List.map_nil, List.cons_append, List.nil_append, List.length_cons, List.length_nil, List.length_map, List.length_append, List.length_take, List.length_drop, rg_len, rgs_len, rgd_len, List.length_set, List.set_cons_zero, List.set_cons_succ, Nat.reduceAdd, Nat.reduceLeDiff, Nat.reduceEqDiff, Option.bind_some, Option.map_some, Option.bind_none, Option.map_none, Bool.not_true, Bool.not_false, Bool.or_false, Bool.false_or, Bool.and_true, Bool.true_and, Bool.or_true, Bool.true_or, Bool.and_false, Bool.false_and, Bool.or_self, Bool.and_self, Bool.not_not,
  decide_true, decide_false, decide_eq_true_eq, Bool.and_eq_true, Bool.or_eq_true, bnot_true, bool_eqf, ite_not, Decidable.not_not, if_true, if_false, ite_true, ite_false, Bool.false_eq_true, and_true, true_and, false_and, and_false, and_self, eq_self, reduceCtorEq, not_true, not_false_eq_true, and_ok, or_ok, andD_ok, orD_ok, if_pos, if_neg, Int.reduceLE, Int.reduceLT, Int.reduceNeg, Int.reduceAdd, Int.reduceSub, Int.reduceMul, Int.reduceMod, Int.reduceDiv, Int.reduceEq, Int.reducePow, Nat.reducePow, Int.reduceToNat])
theorem for_same {step : D → Rho → Os} {ρ : Rho} : ∀ {xs : List D}, (∀ x ∈ xs, step x ρ = .nx ρ) → forGo step xs ρ = .nx ρ
  | [], _ => rfl
  | x :: xs, h => by
    rw [forGo, h x List.mem_cons_self]
    exact for_same fun y hy => h y (List.mem_cons_of_mem _ hy)
structure TB (ks : List Key) (vs : List D) : Prop where
  len : ks.length = vs.length
  nd : ks.Nodup
  ky : ∃ is : List Str, ks = is.map Sum.inr
  vl : ∀ v ∈ vs, ∃ u, v = Tm.d u ∧ TOk u ∧ u.lvs ≤ 7 ∧ u.dep ≤ 4
  sz : ks.length ≤ 4
theorem vget_in {k : Key} {v : D} : ∀ {ks : List Key} {vs : List D}, vget ks vs k = some v → v ∈ vs
  | [], _, h => by cases h
  | _ :: _, [], h => by cases h
  | k' :: ks, d :: vs, h => by
    unfold vget at h
    split at h
    · cases h
      exact List.mem_cons_self
    · exact List.mem_cons_of_mem _ (vget_in h)
def subD (ks : List Key) (vs : List D) : Tm → D
  | .nm s => (vget ks vs (.inr s)).getD (.str s)
  | .pr a b => .tup [subD ks vs a, subD ks vs b]
theorem sub_tm {ks : List Key} {vs : List D} (h : TB ks vs) : ∀ {t : Tm}, TOk t → ∃ u, subD ks vs t = Tm.d u ∧ TOk u ∧ u.lvs ≤ 7 * t.lvs ∧ u.dep ≤ t.dep + 4
  | .nm s, ht => by
    unfold subD
    cases e : vget ks vs (.inr s) with
    | none => exact ⟨.nm s, rfl, ht, by show 1 ≤ 7 * 1; omega, by show 0 ≤ 0 + 4; omega⟩
    | some v =>
      obtain ⟨u, e1, e2, e3, e4⟩ := h.vl v (vget_in e)
      exact ⟨u, e1, e2, by show u.lvs ≤ 7 * 1; omega, by show u.dep ≤ 0 + 4; omega⟩
  | .pr a b, ht => by
    obtain ⟨u, e1, e2, e3, e4⟩ := sub_tm h (t := a) ht.1
    obtain ⟨w, f1, f2, f3, f4⟩ := sub_tm h (t := b) ht.2
    refine ⟨.pr u w, by unfold subD; rw [e1, f1]; rfl, ⟨e2, f2⟩, ?_, ?_⟩
    · show u.lvs + w.lvs ≤ 7 * (a.lvs + b.lvs); omega
    · show max u.dep w.dep + 1 ≤ max a.dep b.dep + 1 + 4; omega
theorem m_exchanged_eq {ks : List Key} {vs : List D} (h : TB ks vs) : ∀ {t : Tm} {f : Nat} {d : D}, Rep t d → TOk t → t.dep < f → m_exchanged f [d, .fK ks vs] = .ok (.dat (subD ks vs t))
  | _, 0, _, _, _, z => absurd z (Nat.not_lt_zero _)
  | .nm s, f + 1, d, hr, ht, _ => by
    obtain rfl : d = .str s := hr
    obtain ⟨u, e1, e2, e3, e4⟩ := sub_tm h ht
    have e1' : (vget ks vs (.inr s)).getD (.str s) = u.d := e1
    have ek := m_kept_eq (t := u) (d := u.d) (f := 18) (rep_d u) (by have : (Tm.nm s).dep = 0 := rfl; omega)
    rw [e1]
    unfold m_exchanged q_exchanged
    walk_at "r"
    rw [e1', ek]
    walk_at "r"
  | .pr a b, f + 1, d, hr, ht, hd => by
    have hd : max a.dep b.dep + 1 < f + 1 := hd
    obtain ⟨x, y, hxy, ra, rb⟩ := hr
    have ia := m_exchanged_eq h (t := a) (f := f) ra ht.1 (by omega)
    have ib := m_exchanged_eq h (t := b) (f := f) rb ht.2 (by omega)
    unfold m_exchanged q_exchanged
    rcases hxy with rfl | rfl
    all_goals (
      walk_at "r"
      rw [ia]
      walk_at "r"
      rw [ib]
      walk_at "r"
      all_goals rfl)
theorem m_law_replaced_eq {ks : List Key} {vs : List D} : ∀ {t : Tm} {f : Nat}, t.dep < f → m_law_replaced f [t.d, .fK ks vs] = .ok (.dat (subD ks vs t))
  | _, 0, z => absurd z (Nat.not_lt_zero _)
  | .nm s, f + 1, _ => by
    unfold m_law_replaced q_law_replaced
    rw [Tm.d]
    walk_at "r"
    all_goals rfl
  | .pr a b, f + 1, hd => by
    have hd : max a.dep b.dep + 1 < f + 1 := hd
    have ia := m_law_replaced_eq (ks := ks) (vs := vs) (t := a) (f := f) (by omega)
    have ib := m_law_replaced_eq (ks := ks) (vs := vs) (t := b) (f := f) (by omega)
    unfold m_law_replaced q_law_replaced
    rw [Tm.d]
    walk_at "r"
    rw [ia]
    walk_at "r"
    rw [ib]
    walk_at "r"
    all_goals rfl
theorem m_replaced_eq {ks : List Key} {vs : List D} (h : TB ks vs) {t : Tm} {d : D} (hr : Rep t d) (ht : TOk t) (hl : t.lvs ≤ 19) (hd : t.dep ≤ 12) : m_replaced [d, .fK ks vs] = .ok (.dat (subD ks vs t)) := by
  obtain ⟨is, ek⟩ := h.ky
  obtain ⟨u, e1, e2, e3, e4⟩ := sub_tm h ht
  have hsz := h.sz
  have li : is.length ≤ 4 := by rw [ek, List.length_map] at hsz; exact hsz
  have ex := m_exchanged_eq h hr ht (f := 18) (by omega)
  have hk : asKS ks = some is := by rw [ek, asKS_map]
  have hs : bSortKS [.fK ks vs] = some (.lst ((srtS is).map D.str)) := by
    show (asKS ks).bind _ = _
    rw [hk]
    exact if_pos (by omega)
  unfold m_replaced r_replaced
  walk_at "r"
  rw [m_check_ok ht hr (by omega)]
  walk_at "r"
  rw [hs]
  walk_at "r"
  rw [for_same (fun x hx => by
    obtain ⟨s, hs, rfl⟩ := List.mem_map.mp hx
    have hs' : s ∈ is := (srtS_perm is).mem_iff.mp hs
    have hm : (vget ks vs (.inr s)).isSome = true := (vget_mem h.len).mpr (by rw [ek]; exact List.mem_map.mpr ⟨s, hs', rfl⟩)
    obtain ⟨v, ev⟩ := Option.isSome_iff_exists.mp hm
    obtain ⟨w, rfl, w2, w3, w4⟩ := h.vl v (vget_in ev)
    dsimp only [stepFor, gnm]
    walk_at "r"
    rw [ev]
    walk_at "r"
    rw [m_check_ok w2 (rep_d w) (by omega)]
    walk_at "r")]
  walk_at "r"
  rw [ex]
  walk_at "r"
  rw [e1, m_check_ok e2 (rep_d u) (by omega)]
  walk_at "r"
end K35

set_option maxRecDepth 100000
set_option maxHeartbeats 4000000
namespace K35
open PySem PySem.Spec L2 DL
local macro_rules | `(tactic| walk_at "r") => `(tactic| try simp -implicitDefEqProofs (disch := omega) only [rDisp1, e_bSortKS_d, asKS_map, rM1, rM1O, rM0, rM0O, e_oJoin_l, e_oJoin_t, e_bStrA_i, e_bStrA_s, rFs, rJs, e_oFmt_i, e_oFmt_s, rIStr, e_oSplit, e_oWords, xAugL, e_bIntS, mkM, rC, rVar, rOp, rUn, rCb, rNil, rCons, rStar, rApp, rApp2, rStill, rCall, rTup, rLst, rNewK, rNewT, rAndV, rOrV, rNotV, rIfE, rChain, rChain3, rChain4, rTest, rYes, rAnd, rOr, rNot, rTru, gnm,
  rNext, rBreak, rCont, rRetN, rSeq, rDrop, rRet, rRetO, rRetV, rSet, rSetO, rAsg, rIf, rK, rF, rPar, rPar3, rFor, rAug, aug, xAppend, rIxV, rLenV, gsub, rAugS, xInsert, xPopAt, rDGet, rDGet2, rDIn, rDNotIn, rDLen, rDPut, rLockF, xModIx, xModIn, rRaise0, rRaise1, xIsX, rXf, rXfC,
  rListOfD, rListOfA, e_seqK_l, e_seqK_t, e_seqK_d, e_seqK_f, rTruV, List.isEmpty_map, xExtend, xSetPop, xSetPopAt, rDc, rLkO, rLstRg1, sortedO, List.isEmpty_cons, List.isEmpty_nil, List.head?_cons, List.head?_nil, List.find?_nil, xIsi, xIsi2, rIList, rITup, rISeq, rIRng1, rIRng2, rIRng3, rIEnum, rIValsN, rIValsV, rIKeysV, rPN, rPS, rSl, rL, rLO, rLc, rLc2, wipeR,
  Re.ok_bind, Re.ex_bind, Re.bad_bind, Re.ok_os, Re.ex_os, Re.bad_os, Os.nx_thn, Os.rt_thn, Os.bk_thn, Os.ct_thn, Os.ex_thn, Os.bad_thn, Os.uni_const, rowB, gt, frz, frz1, fgt, D.has, D.hass, asI, asB, asT, asI_map, asB_map, asT_map, keysK, keyT_tD,
  e_of_some, e_osof, e_ret_nx, e_ret_rt, e_ret_ex, e_kil_nx, e_kil_bk, e_kil_ct, e_kil_rt, e_kil_ex, e_noexc_nx, e_noexc_bk, e_noexc_ct, e_noexc_rt, e_noex, e_val, e_get_dat, e_get_own, e_get_oK, e_get_oT, e_rtv_dat, e_rtv_own, e_rtv_oK, e_rtv_oT, e_ownL, e_isD_oT, e_isD_dT, e_isD_fT, e_isOD_T, e_ask_oT, e_has_oT, e_len_oT, e_ask_dT, e_has_dT, e_len_dT, e_ask_fT, e_has_fT, e_len_fT, e_put_T, e_lock_T, e_isD_oK, e_isD_dK, e_isD_fK, e_isOD_K, e_ask_oK, e_has_oK, e_len_oK, e_ask_dK, e_has_dK, e_len_dK, e_ask_fK, e_has_fK, e_len_fK, e_put_K, e_lock_K, e_keyK_int, e_keyK_str, e_keyT2, e_keyT3, e_blD, e_tru_non, e_tru_bl, e_tru_int, e_tru_lst, e_tru_tup, e_seq_l, e_seq_t, e_gtp, e_gls, e_gco, e_gni, e_oSub, e_oLt, e_oLe, e_oGt, e_oGe, e_oEq, e_oNe, e_oAdd, e_oIAdd, e_oXor, e_oAddL, e_oAddS, oEqTs, oNeTs, oEqLI, oNeLI, oEqTI, oNeTI, e_oAddT, e_oMulR, e_oMulL, e_oMul, e_oMulLst, e_oIMulR, e_oIMulL, e_oDiv, e_oDivB, e_oMod, e_oPow, e_oEqS, e_oNeS, e_oEqB, e_oNeB, e_oIs, e_oIsNot, e_nonD, e_nonD_int, e_nonD_str, e_nonD_lst, e_nonD_tup, e_nonD_bl, e_oNeg, e_oIxL, e_oIxT, e_oIn_lst, e_oIn_tup, e_oNotIn_lst, e_oNotIn_tup, e_oSlL_l, e_oSlL_s, e_oSlAny_l, e_oSlAny_s, rRev, e_oRev_l, e_oRev_t, e_oSlA_t, e_oSlAny_t, e_bAbs, e_bLenL, e_bLenT, e_bInt, e_bIntT, e_bIntF, e_bIntB, e_bTupL, e_bTupT, e_bMax2, e_bMin2, e_bAll, e_bAny, e_bSumA, e_bSumAt, e_bMinR, rTupRg1, xAppPopAt, rRep1, e_bSorted_lst, e_bSorted_tup, e_isT_non_int, e_isT_non_bool, e_isT_non_str, e_isT_non_list, e_isT_non_tuple, e_isT_bl_int, e_isT_bl_bool, e_isT_bl_str, e_isT_bl_list, e_isT_bl_tuple, e_isT_int_int, e_isT_int_bool, e_isT_int_str, e_isT_int_list, e_isT_int_tuple, e_isT_str_int, e_isT_str_bool, e_isT_str_str, e_isT_str_list, e_isT_str_tuple, e_isT_lst_int, e_isT_lst_bool, e_isT_lst_str, e_isT_lst_list, e_isT_lst_tuple, e_isT_tup_int, e_isT_tup_bool, e_isT_tup_str, e_isT_tup_list, e_isT_tup_tuple, e_irng1, e_irng2, e_irng3, e_oIsA_n, e_oIsA_b, e_oIsntA_n, e_oIsntA_b, oInA, oNotInA, e_inD_il, e_inD_it, e_inD_sl, e_inD_st, e_inD_tl, e_inD_ti, asS, asS_map, Option.isSome_some, Option.isSome_none, k_bose_skolem, k_bose_affine, k_bose_binary, k_bose_listed, k_bose_double, k_bose_product, k_skolem_bose, k_skolem_affine, k_skolem_binary, k_skolem_listed, k_skolem_double, k_skolem_product, k_affine_bose, k_affine_skolem, k_affine_binary, k_affine_listed, k_affine_double, k_affine_product, k_binary_bose, k_binary_skolem, k_binary_affine, k_binary_listed, k_binary_double, k_binary_product, k_listed_bose, k_listed_skolem, k_listed_affine, k_listed_binary, k_listed_double, k_listed_product, k_double_bose, k_double_skolem, k_double_affine, k_double_binary, k_double_listed, k_double_product, k_product_bose, k_product_skolem, k_product_affine, k_product_binary, k_product_listed, k_product_double, arm_bose, arm_skolem, arm_affine, arm_binary, arm_listed, arm_double, arm_product, e_shas_oT, e_shas_oK, hass_pD, hass_lI, e_lendD, e_lendS, e_has_dat, e_has_own, e_hass_ints, e_hass_tI, and_okP, or_okP, andD_okP, orD_okP, atI_lit, e_ixN, List.getElem?_cons_zero, List.getElem?_cons_succ,
  List.map_cons, List.map_nil, List.cons_append, List.nil_append, List.length_cons, List.length_nil, List.length_map, List.length_append, List.length_take, List.length_drop, rg_len, rgs_len, rgd_len, List.length_set, List.set_cons_zero, List.set_cons_succ, Nat.reduceAdd, Nat.reduceLeDiff, Nat.reduceEqDiff, Option.bind_some, Option.map_some, Option.bind_none, Option.map_none, Bool.not_true, Bool.not_false, Bool.or_false, Bool.false_or, Bool.and_true, Bool.true_and, Bool.or_true, Bool.true_or, Bool.and_false, Bool.false_and, Bool.or_self, Bool.and_self, Bool.not_not,
  decide_true, decide_false, decide_eq_true_eq, Bool.and_eq_true, Bool.or_eq_true, bnot_true, bool_eqf, ite_not, Decidable.not_not, if_true, if_false, ite_true, ite_false, Bool.false_eq_true, and_true, true_and, false_and, and_false, and_self, eq_self, reduceCtorEq, not_true, not_false_eq_true, and_ok, or_ok, andD_ok, orD_ok, if_pos, if_neg, Int.reduceLE, Int.reduceLT, Int.reduceNeg, Int.reduceAdd, Int.reduceSub, Int.reduceMul, Int.reduceMod, Int.reduceDiv, Int.reduceEq, Int.reducePow, Nat.reducePow, Int.reduceToNat])
noncomputable def tlC : Rho → Os := (rSeq (rSetO 9 rNewK)
  (rSeq (rK [10] (rLockF 7 (rFor (rIKeysV 7) (gnm 10)
  (rK [10] (rDPut 9 (rVar 10) (rDGet 7 (rVar 10)))))))
  (rSeq (rF [3, 5, 7] (rIf (rTest (rOp oNe (rCb bRepr (rCons (rStill (rCall m_replaced (rCons (rVar 5) (rCons (rVar 7) rNil)))) rNil)) (rCb bRepr (rCons (rStill (rCall (m_law_replaced 18) (rCons (rVar 3) (rCons (rVar 7) rNil)))) rNil)))) (rRet (rC (.bl false)))
  rNext))
  (rF [3, 5, 7, 9] (rRet (rAndV (rOp oEq (rVar 5) (rStill (rCall (m_law_lists 18) (rCons (rVar 3) rNil)))) (rOp oEqDB (rVar 7) (rVar 9))))))))
noncomputable def tlB : Rho → Os := (rSeq (rSetO 7 rNewK)
  (rSeq (rK [8] (rFor (rIRng1 (rCons (rOp oMod (rCb bInt (rCons (rIxV 1 (rC (.int 40))) rNil)) (rC (.int 4))) rNil)) (gnm 8)
  (rK [8] (rF [1, 2] (rDPut 7 (rOp oIx (rOp oAdd (rVar 2) (rStill (rLst (rCons (rC (.str "zz")) rNil)))) (rOp oMod (rCb bInt (rCons (rIxV 1 (rOp oAdd (rC (.int 41)) (rVar 8))) rNil)) (rOp oAdd (rLenV 2) (rC (.int 1))))) (rStill (rCall m_law_term (rCons (rVar 1) (rCons (rOp oAdd (rC (.int 46)) (rOp oMul (rC (.int 8)) (rVar 8))) (rCons (rVar 2) (rCons (rC (.int 3)) rNil)))))))))))
  tlC))
noncomputable def tlA : Rho → Os := (rSeq (rK [6] (rF [3, 5] (rFor (rISeq (rStill (rLst (rCons (rVar 3) (rCons (rVar 5) rNil))))) (gnm 6)
  (rK [6] (rSeq (rIf (rOr (rTest (rOp oIsntA (rStill (rCall m_check_term (rCons (rVar 6) rNil))) (rC .non))) (rTest (rOp oNe (rCb bRepr (rCons (rStill (rCall m_leaf_count (rCons (rVar 6) rNil))) rNil)) (rCb bRepr (rCons (rLenV 4) rNil))))) (rRet (rC (.bl false)))
  rNext)
  (rF [3, 4] (rIf (rOr (rTest (rOp oNe (rCb bRepr (rCons (rStill (rCall m_names_of (rCons (rVar 6) rNil))) rNil)) (rCb bRepr (rCons (rStill (rSortSet (rVar 4))) rNil)))) (rTest (rOp oNe (rStill (rCall m_term_text (rCons (rVar 6) rNil))) (rStill (rCall (m_law_text 18) (rCons (rVar 3) rNil)))))) (rRet (rC (.bl false)))
  rNext)))))))
  tlB)
theorem r_law_cut : r_law = (rSeq (rSetO 1 (rCall m_law_numbers (rCons (rVar 0) (rCons (rC (.int 80)) rNil))))
  (rSeq (rF [1] (rSetO 2 (rCall m_law_word (rCons (rVar 1) (rCons (rC (.int 0)) rNil)))))
  (rSeq (rF [1, 2] (rSetO 3 (rCall m_law_term (rCons (rVar 1) (rCons (rC (.int 2)) (rCons (rVar 2) (rCons (rC (.int 7)) rNil)))))))
  (rSeq (rF [3] (rSetO 4 (rCall (m_law_leaves 18) (rCons (rVar 3) rNil))))
  (rSeq (rF [3] (rSetO 5 (rCall (m_law_lists 18) (rCons (rVar 3) rNil))))
  tlA))))) := rfl
theorem eqv_ld : ∀ t : Tm, PyData.eqv t.ld.py t.ld.py = true
  | .nm x => by show PyData.eqv (.str x) (.str x) = true; simp [PyData.eqv]
  | .pr a b => by
    have e1 := eqv_ld a
    have e2 := eqv_ld b
    show PyData.eqv (.list [a.ld.py, b.ld.py]) (.list [a.ld.py, b.ld.py]) = true
    simp only [PyData.eqv, PyData.eqvAll, e1, e2, Bool.and_true]
theorem shp_ld : ∀ {t : Tm}, TOk t → Shp t.dep t.ld
  | .nm s, h => strOk_of fun c hc => nch_lt (h.al c hc)
  | .pr a b, h => fun x hx => by
    simp only [List.mem_cons, List.not_mem_nil, or_false] at hx
    rcases hx with rfl | rfl
    · exact (shp_ld h.1).le (by show a.dep ≤ max a.dep b.dep; omega)
    · exact (shp_ld h.2).le (by show b.dep ≤ max a.dep b.dep; omega)
theorem oEq_ld {t : Tm} (h : TOk t) (hd : t.dep ≤ 60) : oEq t.ld t.ld = some (.bl true) := by
  have hs : Sh t.ld ∧ Sh t.ld := ⟨⟨t.dep, by omega, shp_ld h⟩, ⟨t.dep, by omega, shp_ld h⟩⟩
  have e0 : D.eqb t.ld t.ld = true := eqv_ld t
  cases t with
  | nm x => show some (D.bl (decide (x = x))) = _; simp
  | pr a b =>
    have e : oEq (Tm.pr a b).ld (Tm.pr a b).ld = some (.bl (D.eqb (Tm.pr a b).ld (Tm.pr a b).ld)) := if_pos hs
    rw [e, e0]
theorem lists_slot {r : Re Sl} {d : D} (h : r.bind Sl.get = .ok d) : ∃ z, r = .ok z ∧ (z = .dat d ∨ (∃ ds, z = .own ds ∧ d = .lst ds) ∨ (∃ ks vs, d = .dK ks vs) ∨ ∃ ks vs, d = .dT ks vs) := by
  cases r with
  | ok z =>
    refine ⟨z, rfl, ?_⟩
    cases z with
    | dat e => injection h with h; exact .inl (by rw [← h]; rfl)
    | own ds => injection h with h; exact .inr (.inl ⟨ds, rfl, h.symm⟩)
    | oK ks vs => injection h with h; exact .inr (.inr (.inl ⟨ks, vs, h.symm⟩))
    | oT ks vs => injection h with h; exact .inr (.inr (.inr ⟨ks, vs, h.symm⟩))
    | no => cases h
    | ref a => cases h
    | exc a o x => cases h
  | _ => cases h

theorem repr_tm {t : Tm} (ht : TOk t) (hl : t.lvs ≤ 200) (dp : t.dep ≤ 18) : bRepr [t.d] = some (.str t.d.py.shown) := (tm_sm ht).repr (by omega) (by omega)
theorem tlC_ok {S0 S1 S2 S4 : Sl} {t : Tm} {H : D} (ht : TOk t) (lt : t.lvs ≤ 19) (dt : t.dep ≤ 12) (hr : Rep t H) (eqH : oEq H H = some (.bl true)) (ll : (m_law_lists 18 [t.d]).bind Sl.get = .ok H) {ks : List Key} {vs : List D} (h : TB ks vs) :
    tlC [S0, S1, S2, .dat t.d, S4, .dat H, .no, .oK ks vs, .no, .no, .no] = .rt (.dat (.bl true)) := by
  have hsz := h.sz
  obtain ⟨u, e1, e2, e3, e4⟩ := sub_tm h ht
  have r1 := m_replaced_eq h hr ht lt dt
  have r2 := m_law_replaced_eq (ks := ks) (vs := vs) (t := t) (f := 18) (by omega)
  rw [e1] at r1 r2
  have rp := repr_tm e2 (by omega) (by omega)
  have eqD : oEqDB (.fK ks vs) (.dK ks vs) = some (.bl true) := if_pos ⟨rfl, rfl, h.nd, fun v hv => by
    obtain ⟨w, rfl, w2, w3, w4⟩ := h.vl v hv
    exact sh_tm w2 (by omega)⟩
  unfold tlC
  walk_at "r"
  generalize hq : forGo _ _ _ = q
  obtain ⟨⟨ks', vs'⟩, rfl, hk1, hv1⟩ := for_out hq (fun s : List Key × List D => [S0, S1, S2, .dat t.d, S4, .dat H, .no, .dat (.fK ks vs), .no, .oK s.1 s.2, .no])
    (fun j s => s.1 = ks.take j ∧ s.2 = vs.take j) ([], []) rfl ⟨rfl, rfl⟩ (by
    rintro j x ⟨ks', vs'⟩ hx ⟨h1, h2⟩
    dsimp only at h1 h2 ⊢
    subst h1 h2
    have hj : j < ks.length := (List.getElem?_eq_some_iff.mp hx).1
    obtain ⟨d, ed, eg⟩ := vget_at h.len h.nd hx
    obtain ⟨is, ek⟩ := h.ky
    obtain ⟨s, _, rfl⟩ := List.mem_map.mp (ek ▸ List.mem_of_getElem? hx)
    have nin : Sum.inr s ∉ ks.take j := fun hin => by
      obtain ⟨i, hi, ei⟩ := List.mem_iff_getElem.mp hin
      rw [List.length_take] at hi
      rw [List.getElem_take] at ei
      have e2 := (List.getElem?_eq_some_iff.mp hx).2
      have := (List.getElem_inj h.nd).mp (ei.trans e2.symm)
      omega
    refine ⟨(ks.take (j + 1), vs.take (j + 1)), ?_, rfl, rfl⟩
    have k1 : kput (ks.take j) (Sum.inr s) = ks.take (j + 1) := by
      unfold kput
      rw [if_neg nin, List.take_succ, hx]
      rfl
    have v1 : vput (ks.take j) (vs.take j) (Sum.inr s) d = vs.take (j + 1) := by
      unfold vput
      rw [if_neg nin, List.take_succ, ed]
      rfl
    have lt1 : (ks.take j).length < 1000000 := by rw [List.length_take]; omega
    dsimp only [stepFor, gnm]
    rw [show kD (Sum.inr s) = .str s from rfl]
    walk_at "r"
    rw [eg]
    walk_at "r"
    rw [k1, v1])
  dsimp only at hk1 hv1 ⊢
  rw [List.take_length] at hk1
  rw [h.len, List.take_length] at hv1
  subst hk1 hv1
  clear hq
  walk_at "r"
  rw [r1]
  walk_at "r"
  rw [rp]
  walk_at "r"
  rw [r2]
  walk_at "r"
  rw [rp]
  walk_at "r"
  rw [ll]
  walk_at "r"
  rw [eqH]
  walk_at "r"
  rw [eqD]
  walk_at "r"
end K35

set_option maxRecDepth 100000
set_option maxHeartbeats 4000000
namespace K35
open PySem PySem.Spec L2 DL
local macro_rules | `(tactic| walk_at "r") => `(tactic| try simp -implicitDefEqProofs (disch := omega) only [rDisp1, e_bSortKS_d, asKS_map, rM1, rM1O, rM0, rM0O, e_oJoin_l, e_oJoin_t, e_bStrA_i, e_bStrA_s, rFs, rJs, e_oFmt_i, e_oFmt_s, rIStr, e_oSplit, e_oWords, xAugL, e_bIntS, mkM, rC, rVar, rOp, rUn, rCb, rNil, rCons, rStar, rApp, rApp2, rStill, rCall, rTup, rLst, rNewK, rNewT, rAndV, rOrV, rNotV, rIfE, rChain, rChain3, rChain4, rTest, rYes, rAnd, rOr, rNot, rTru, gnm,
  rNext, rBreak, rCont, rRetN, rSeq, rDrop, rRet, rRetO, rRetV, rSet, rSetO, rAsg, rIf, rK, rF, rPar, rPar3, rFor, rAug, aug, xAppend, rIxV, rLenV, gsub, rAugS, xInsert, xPopAt, rDGet, rDGet2, rDIn, rDNotIn, rDLen, rDPut, rLockF, xModIx, xModIn, rRaise0, rRaise1, xIsX, rXf, rXfC,
  rListOfD, rListOfA, e_seqK_l, e_seqK_t, e_seqK_d, e_seqK_f, rTruV, List.isEmpty_map, xExtend, xSetPop, xSetPopAt, rDc, rLkO, rLstRg1, sortedO, List.isEmpty_cons, List.isEmpty_nil, List.head?_cons, List.head?_nil, List.find?_nil, xIsi, xIsi2, rIList, rITup, rISeq, rIRng1, rIRng2, rIRng3, rIEnum, rIValsN, rIValsV, rIKeysV, rPN, rPS, rSl, rL, rLO, rLc, rLc2, wipeR,
  Re.ok_bind, Re.ex_bind, Re.bad_bind, Re.ok_os, Re.ex_os, Re.bad_os, Os.nx_thn, Os.rt_thn, Os.bk_thn, Os.ct_thn, Os.ex_thn, Os.bad_thn, Os.uni_const, rowB, gt, frz, frz1, fgt, D.has, D.hass, asI, asB, asT, asI_map, asB_map, asT_map, keysK, keyT_tD,
  e_of_some, e_osof, e_ret_nx, e_ret_rt, e_ret_ex, e_kil_nx, e_kil_bk, e_kil_ct, e_kil_rt, e_kil_ex, e_noexc_nx, e_noexc_bk, e_noexc_ct, e_noexc_rt, e_noex, e_val, e_get_dat, e_get_own, e_get_oK, e_get_oT, e_rtv_dat, e_rtv_own, e_rtv_oK, e_rtv_oT, e_ownL, e_isD_oT, e_isD_dT, e_isD_fT, e_isOD_T, e_ask_oT, e_has_oT, e_len_oT, e_ask_dT, e_has_dT, e_len_dT, e_ask_fT, e_has_fT, e_len_fT, e_put_T, e_lock_T, e_isD_oK, e_isD_dK, e_isD_fK, e_isOD_K, e_ask_oK, e_has_oK, e_len_oK, e_ask_dK, e_has_dK, e_len_dK, e_ask_fK, e_has_fK, e_len_fK, e_put_K, e_lock_K, e_keyK_int, e_keyK_str, e_keyT2, e_keyT3, e_blD, e_tru_non, e_tru_bl, e_tru_int, e_tru_lst, e_tru_tup, e_seq_l, e_seq_t, e_gtp, e_gls, e_gco, e_gni, e_oSub, e_oLt, e_oLe, e_oGt, e_oGe, e_oEq, e_oNe, e_oAdd, e_oIAdd, e_oXor, e_oAddL, e_oAddS, oEqTs, oNeTs, oEqLI, oNeLI, oEqTI, oNeTI, e_oAddT, e_oMulR, e_oMulL, e_oMul, e_oMulLst, e_oIMulR, e_oIMulL, e_oDiv, e_oDivB, e_oMod, e_oPow, e_oEqS, e_oNeS, e_oEqB, e_oNeB, e_oIs, e_oIsNot, e_nonD, e_nonD_int, e_nonD_str, e_nonD_lst, e_nonD_tup, e_nonD_bl, e_oNeg, e_oIxL, e_oIxT, e_oIn_lst, e_oIn_tup, e_oNotIn_lst, e_oNotIn_tup, e_oSlL_l, e_oSlL_s, e_oSlAny_l, e_oSlAny_s, rRev, e_oRev_l, e_oRev_t, e_oSlA_t, e_oSlAny_t, e_bAbs, e_bLenL, e_bLenT, e_bInt, e_bIntT, e_bIntF, e_bIntB, e_bTupL, e_bTupT, e_bMax2, e_bMin2, e_bAll, e_bAny, e_bSumA, e_bSumAt, e_bMinR, rTupRg1, xAppPopAt, rRep1, e_bSorted_lst, e_bSorted_tup, e_isT_non_int, e_isT_non_bool, e_isT_non_str, e_isT_non_list, e_isT_non_tuple, e_isT_bl_int, e_isT_bl_bool, e_isT_bl_str, e_isT_bl_list, e_isT_bl_tuple, e_isT_int_int, e_isT_int_bool, e_isT_int_str, e_isT_int_list, e_isT_int_tuple, e_isT_str_int, e_isT_str_bool, e_isT_str_str, e_isT_str_list, e_isT_str_tuple, e_isT_lst_int, e_isT_lst_bool, e_isT_lst_str, e_isT_lst_list, e_isT_lst_tuple, e_isT_tup_int, e_isT_tup_bool, e_isT_tup_str, e_isT_tup_list, e_isT_tup_tuple, e_irng1, e_irng2, e_irng3, e_oIsA_n, e_oIsA_b, e_oIsntA_n, e_oIsntA_b, oInA, oNotInA, e_inD_il, e_inD_it, e_inD_sl, e_inD_st, e_inD_tl, e_inD_ti, asS, asS_map, Option.isSome_some, Option.isSome_none, k_bose_skolem, k_bose_affine, k_bose_binary, k_bose_listed, k_bose_double, k_bose_product, k_skolem_bose, k_skolem_affine, k_skolem_binary, k_skolem_listed, k_skolem_double, k_skolem_product, k_affine_bose, k_affine_skolem, k_affine_binary, k_affine_listed, k_affine_double, k_affine_product, k_binary_bose, k_binary_skolem, k_binary_affine, k_binary_listed, k_binary_double, k_binary_product, k_listed_bose, k_listed_skolem, k_listed_affine, k_listed_binary, k_listed_double, k_listed_product, k_double_bose, k_double_skolem, k_double_affine, k_double_binary, k_double_listed, k_double_product, k_product_bose, k_product_skolem, k_product_affine, k_product_binary, k_product_listed, k_product_double, arm_bose, arm_skolem, arm_affine, arm_binary, arm_listed, arm_double, arm_product, e_shas_oT, e_shas_oK, hass_pD, hass_lI, e_lendD, e_lendS, e_has_dat, e_has_own, e_hass_ints, e_hass_tI, and_okP, or_okP, andD_okP, orD_okP, atI_lit, e_ixN, List.getElem?_cons_zero, List.getElem?_cons_succ,
  List.map_cons, List.map_nil, List.cons_append, List.nil_append, List.length_cons, List.length_nil, List.length_map, List.length_append, List.length_take, List.length_drop, rg_len, rgs_len, rgd_len, List.length_set, List.set_cons_zero, List.set_cons_succ, Nat.reduceAdd, Nat.reduceLeDiff, Nat.reduceEqDiff, Option.bind_some, Option.map_some, Option.bind_none, Option.map_none, Bool.not_true, Bool.not_false, Bool.or_false, Bool.false_or, Bool.and_true, Bool.true_and, Bool.or_true, Bool.true_or, Bool.and_false, Bool.false_and, Bool.or_self, Bool.and_self, Bool.not_not,
  decide_true, decide_false, decide_eq_true_eq, Bool.and_eq_true, Bool.or_eq_true, bnot_true, bool_eqf, ite_not, Decidable.not_not, if_true, if_false, ite_true, ite_false, Bool.false_eq_true, and_true, true_and, false_and, and_false, and_self, eq_self, reduceCtorEq, not_true, not_false_eq_true, and_ok, or_ok, andD_ok, orD_ok, if_pos, if_neg, Int.reduceLE, Int.reduceLT, Int.reduceNeg, Int.reduceAdd, Int.reduceSub, Int.reduceMul, Int.reduceMod, Int.reduceDiv, Int.reduceEq, Int.reducePow, Nat.reducePow, Int.reduceToNat])
theorem vrep_in {k : Key} {d v : D} : ∀ {ks : List Key} {vs : List D}, v ∈ vrep ks vs k d → v ∈ vs ∨ v = d
  | [], vs, h => by cases vs <;> cases h
  | a :: ks, [], h => by cases h
  | a :: ks, w :: vs, h => by
    have h' : v ∈ (if a = k then d else w) :: vrep ks vs k d := h
    rcases List.mem_cons.mp h' with rfl | h'
    · split
      · exact .inr rfl
      · exact .inl List.mem_cons_self
    · exact (vrep_in h').imp (List.mem_cons_of_mem _) id
theorem TB.put {ks : List Key} {vs : List D} (h : TB ks vs) (s : Str) {u : Tm} (h1 : TOk u) (h2 : u.lvs ≤ 7) (h3 : u.dep ≤ 4) (hl : (kput ks (.inr s)).length ≤ 4) : TB (kput ks (.inr s)) (vput ks vs (.inr s) u.d) where
  len := DL.vput_len h.len
  nd := kput_nodup h.nd
  ky := by
    obtain ⟨is, e⟩ := h.ky
    unfold kput
    split
    · exact ⟨is, e⟩
    · exact ⟨is ++ [s], by rw [e, List.map_append]; rfl⟩
  vl := fun v hv => by
    unfold vput at hv
    split at hv
    · rcases vrep_in hv with hv | rfl
      · exact h.vl v hv
      · exact ⟨u, rfl, h1, h2, h3⟩
    · rcases List.mem_append.mp hv with hv | hv
      · exact h.vl v hv
      · exact ⟨u, List.mem_singleton.mp hv, h1, h2, h3⟩
  sz := hl
theorem tlB_ok {S0 S4 : Sl} {l : List Int} (hl : Nums l 80) {L : List Str} (hL : 1 ≤ L.length ∧ L.length ≤ 4) (hN : ∀ s ∈ L, Nm s) {t : Tm} {H : D} (ht : TOk t) (lt : t.lvs ≤ 19) (dt : t.dep ≤ 12) (hr : Rep t H) (eqH : oEq H H = some (.bl true)) (ll : (m_law_lists 18 [t.d]).bind Sl.get = .ok H) :
    tlB [S0, .dat (.lst (l.map D.int)), .dat (.lst (L.map D.str)), .dat t.d, S4, .dat H, .no, .no, .no, .no, .no] = .rt (.dat (.bl true)) := by
  obtain ⟨y0, ey0, _, _⟩ := hl.at_ (i := 40) (by omega) (by omega)
  rw [show (40 : Int) = ((40 : Nat) : Int) from rfl, DL.atI_nat] at ey0
  have hy0 : 0 ≤ y0 % 4 ∧ y0 % 4 < 4 := ⟨Int.emod_nonneg _ (by omega), Int.emod_lt_of_pos _ (by omega)⟩
  unfold tlB
  walk_at "r"
  rw [ey0]
  walk_at "r"
  generalize hq : forGo _ _ _ = q
  obtain ⟨⟨ks, vs⟩, rfl, hT, hk⟩ := for_out hq (fun s : List Key × List D => [S0, .dat (.lst (l.map D.int)), .dat (.lst (L.map D.str)), .dat t.d, S4, .dat H, .no, .oK s.1 s.2, .no, .no, .no])
    (fun j s => TB s.1 s.2 ∧ s.1.length ≤ j) ([], []) rfl ⟨⟨rfl, List.nodup_nil, ⟨[], rfl⟩, (fun v hv => by cases hv), by simp⟩, Nat.le_refl _⟩ (by
    rintro j x ⟨ks, vs⟩ hx ⟨h1, h2⟩
    dsimp only at h1 h2 ⊢
    have hx2 := rg_mem.mp (List.mem_of_getElem? hx)
    have hj := (rg_lt hx).1
    obtain ⟨y1, ey1, _, _⟩ := hl.at_ (i := 41 + x) (by omega) (by omega)
    obtain ⟨u, eu, hu, du, lu, _⟩ := m_law_term_ok hl (i := 46 + 8 * x) (m := 3) (by omega) (by omega) (by omega) hN
    have du : u.dep ≤ 4 := du
    have lu : u.lvs ≤ 7 := lu
    have hy1 : 0 ≤ y1 % (L.length + 1) ∧ y1 % (L.length + 1) < L.length + 1 := ⟨Int.emod_nonneg _ (by omega), Int.emod_lt_of_pos _ (by omega)⟩
    obtain ⟨s, _, es⟩ := atS_mem (L := L ++ [("zz" : Str)]) (j := y1 % (L.length + 1)) (by rw [List.length_append, List.length_singleton]; omega)
    rw [List.map_append] at es
    have es : atI (L.map D.str ++ [.str "zz"]) (y1 % (L.length + 1)) = some (.str s) := es
    have kl := kput_le ks (Sum.inr s)
    refine ⟨(kput ks (Sum.inr s), vput ks vs (Sum.inr s) u.d), ?_, h1.put s hu lu du (by omega), by dsimp only; omega⟩
    dsimp only [stepFor, gnm]
    walk_at "r"
    rw [ey1]
    walk_at "r"
    rw [es]
    walk_at "r"
    rw [eu]
    walk_at "r")
  dsimp only at hT hk ⊢
  walk_at "r"
  exact tlC_ok ht lt dt hr eqH ll hT
end K35

set_option maxRecDepth 100000
set_option maxHeartbeats 4000000
namespace K35
open PySem PySem.Spec L2 DL
local macro_rules | `(tactic| walk_at "r") => `(tactic| try simp -implicitDefEqProofs (disch := omega) only [rDisp1, e_bSortKS_d, asKS_map, rM1, rM1O, rM0, rM0O, e_oJoin_l, e_oJoin_t, e_bStrA_i, e_bStrA_s, rFs, rJs, e_oFmt_i, e_oFmt_s, rIStr, e_oSplit, e_oWords, xAugL, e_bIntS, mkM, rC, rVar, rOp, rUn, rCb, rNil, rCons, rStar, rApp, rApp2, rStill, rCall, rTup, rLst, rNewK, rNewT, rAndV, rOrV, rNotV, rIfE, rChain, rChain3, rChain4, rTest, rYes, rAnd, rOr, rNot, rTru, gnm,
  rNext, rBreak, rCont, rRetN, rSeq, rDrop, rRet, rRetO, rRetV, rSet, rSetO, rAsg, rIf, rK, rF, rPar, rPar3, rFor, rAug, aug, xAppend, rIxV, rLenV, gsub, rAugS, xInsert, xPopAt, rDGet, rDGet2, rDIn, rDNotIn, rDLen, rDPut, rLockF, xModIx, xModIn, rRaise0, rRaise1, xIsX, rXf, rXfC,
  rListOfD, rListOfA, e_seqK_l, e_seqK_t, e_seqK_d, e_seqK_f, rTruV, List.isEmpty_map, xExtend, xSetPop, xSetPopAt, rDc, rLkO, rLstRg1, sortedO, List.isEmpty_cons, List.isEmpty_nil, List.head?_cons, List.head?_nil, List.find?_nil, xIsi, xIsi2, rIList, rITup, rISeq, rIRng1, rIRng2, rIRng3, rIEnum, rIValsN, rIValsV, rIKeysV, rPN, rPS, rSl, rL, rLO, rLc, rLc2, wipeR,
  Re.ok_bind, Re.ex_bind, Re.bad_bind, Re.ok_os, Re.ex_os, Re.bad_os, Os.nx_thn, Os.rt_thn, Os.bk_thn, Os.ct_thn, Os.ex_thn, Os.bad_thn, Os.uni_const, rowB, gt, frz, frz1, fgt, D.has, D.hass, asI, asB, asT, asI_map, asB_map, asT_map, keysK, keyT_tD,
  e_of_some, e_osof, e_ret_nx, e_ret_rt, e_ret_ex, e_kil_nx, e_kil_bk, e_kil_ct, e_kil_rt, e_kil_ex, e_noexc_nx, e_noexc_bk, e_noexc_ct, e_noexc_rt, e_noex, e_val, e_get_dat, e_get_own, e_get_oK, e_get_oT, e_rtv_dat, e_rtv_own, e_rtv_oK, e_rtv_oT, e_ownL, e_isD_oT, e_isD_dT, e_isD_fT, e_isOD_T, e_ask_oT, e_has_oT, e_len_oT, e_ask_dT, e_has_dT, e_len_dT, e_ask_fT, e_has_fT, e_len_fT, e_put_T, e_lock_T, e_isD_oK, e_isD_dK, e_isD_fK, e_isOD_K, e_ask_oK, e_has_oK, e_len_oK, e_ask_dK, e_has_dK, e_len_dK, e_ask_fK, e_has_fK, e_len_fK, e_put_K, e_lock_K, e_keyK_int, e_keyK_str, e_keyT2, e_keyT3, e_blD, e_tru_non, e_tru_bl, e_tru_int, e_tru_lst, e_tru_tup, e_seq_l, e_seq_t, e_gtp, e_gls, e_gco, e_gni, e_oSub, e_oLt, e_oLe, e_oGt, e_oGe, e_oEq, e_oNe, e_oAdd, e_oIAdd, e_oXor, e_oAddL, e_oAddS, oEqTs, oNeTs, oEqLI, oNeLI, oEqTI, oNeTI, e_oAddT, e_oMulR, e_oMulL, e_oMul, e_oMulLst, e_oIMulR, e_oIMulL, e_oDiv, e_oDivB, e_oMod, e_oPow, e_oEqS, e_oNeS, e_oEqB, e_oNeB, e_oIs, e_oIsNot, e_nonD, e_nonD_int, e_nonD_str, e_nonD_lst, e_nonD_tup, e_nonD_bl, e_oNeg, e_oIxL, e_oIxT, e_oIn_lst, e_oIn_tup, e_oNotIn_lst, e_oNotIn_tup, e_oSlL_l, e_oSlL_s, e_oSlAny_l, e_oSlAny_s, rRev, e_oRev_l, e_oRev_t, e_oSlA_t, e_oSlAny_t, e_bAbs, e_bLenL, e_bLenT, e_bInt, e_bIntT, e_bIntF, e_bIntB, e_bTupL, e_bTupT, e_bMax2, e_bMin2, e_bAll, e_bAny, e_bSumA, e_bSumAt, e_bMinR, rTupRg1, xAppPopAt, rRep1, e_bSorted_lst, e_bSorted_tup, e_isT_non_int, e_isT_non_bool, e_isT_non_str, e_isT_non_list, e_isT_non_tuple, e_isT_bl_int, e_isT_bl_bool, e_isT_bl_str, e_isT_bl_list, e_isT_bl_tuple, e_isT_int_int, e_isT_int_bool, e_isT_int_str, e_isT_int_list, e_isT_int_tuple, e_isT_str_int, e_isT_str_bool, e_isT_str_str, e_isT_str_list, e_isT_str_tuple, e_isT_lst_int, e_isT_lst_bool, e_isT_lst_str, e_isT_lst_list, e_isT_lst_tuple, e_isT_tup_int, e_isT_tup_bool, e_isT_tup_str, e_isT_tup_list, e_isT_tup_tuple, e_irng1, e_irng2, e_irng3, e_oIsA_n, e_oIsA_b, e_oIsntA_n, e_oIsntA_b, oInA, oNotInA, e_inD_il, e_inD_it, e_inD_sl, e_inD_st, e_inD_tl, e_inD_ti, asS, asS_map, Option.isSome_some, Option.isSome_none, k_bose_skolem, k_bose_affine, k_bose_binary, k_bose_listed, k_bose_double, k_bose_product, k_skolem_bose, k_skolem_affine, k_skolem_binary, k_skolem_listed, k_skolem_double, k_skolem_product, k_affine_bose, k_affine_skolem, k_affine_binary, k_affine_listed, k_affine_double, k_affine_product, k_binary_bose, k_binary_skolem, k_binary_affine, k_binary_listed, k_binary_double, k_binary_product, k_listed_bose, k_listed_skolem, k_listed_affine, k_listed_binary, k_listed_double, k_listed_product, k_double_bose, k_double_skolem, k_double_affine, k_double_binary, k_double_listed, k_double_product, k_product_bose, k_product_skolem, k_product_affine, k_product_binary, k_product_listed, k_product_double, arm_bose, arm_skolem, arm_affine, arm_binary, arm_listed, arm_double, arm_product, e_shas_oT, e_shas_oK, hass_pD, hass_lI, e_lendD, e_lendS, e_has_dat, e_has_own, e_hass_ints, e_hass_tI, and_okP, or_okP, andD_okP, orD_okP, atI_lit, e_ixN, List.getElem?_cons_zero, List.getElem?_cons_succ,
  List.map_cons, List.map_nil, List.cons_append, List.nil_append, List.length_cons, List.length_nil, List.length_map, List.length_append, List.length_take, List.length_drop, rg_len, rgs_len, rgd_len, List.length_set, List.set_cons_zero, List.set_cons_succ, Nat.reduceAdd, Nat.reduceLeDiff, Nat.reduceEqDiff, Option.bind_some, Option.map_some, Option.bind_none, Option.map_none, Bool.not_true, Bool.not_false, Bool.or_false, Bool.false_or, Bool.and_true, Bool.true_and, Bool.or_true, Bool.true_or, Bool.and_false, Bool.false_and, Bool.or_self, Bool.and_self, Bool.not_not,
  decide_true, decide_false, decide_eq_true_eq, Bool.and_eq_true, Bool.or_eq_true, bnot_true, bool_eqf, ite_not, Decidable.not_not, if_true, if_false, ite_true, ite_false, Bool.false_eq_true, and_true, true_and, false_and, and_false, and_self, eq_self, reduceCtorEq, not_true, not_false_eq_true, and_ok, or_ok, andD_ok, orD_ok, if_pos, if_neg, Int.reduceLE, Int.reduceLT, Int.reduceNeg, Int.reduceAdd, Int.reduceSub, Int.reduceMul, Int.reduceMod, Int.reduceDiv, Int.reduceEq, Int.reducePow, Nat.reducePow, Int.reduceToNat])
theorem for_one {step : D → Rho → Os} {ρ ρ1 : Rho} {x : D} (h1 : step x ρ = .nx ρ1) : forGo step [x] ρ = .nx ρ1 := by
  rw [forGo, h1]; rfl
theorem for_two {step : D → Rho → Os} {ρ ρ1 ρ2 : Rho} {x y : D} (h1 : step x ρ = .nx ρ1) (h2 : step y ρ1 = .nx ρ2) : forGo step [x, y] ρ = .nx ρ2 := by
  rw [forGo, h1]
  show forGo step [y] ρ1 = _
  exact for_one h2
theorem nms_nm : ∀ {t : Tm}, TOk t → ∀ s ∈ t.nms, Nm s
  | .nm x, h, s, hs => by rw [List.mem_singleton.mp hs]; exact h
  | .pr a b, h, s, hs => (List.mem_append.mp hs).elim (nms_nm h.1 s) (nms_nm h.2 s)
theorem dd_len : ∀ l : List Str, (dd l).length ≤ l.length
  | [] => Nat.le_refl _
  | x :: l => by
    have := dd_len l
    unfold dd
    split
    · rw [List.length_cons]; omega
    · rw [List.length_cons, List.length_cons]; omega
theorem repr_names {t : Tm} (ht : TOk t) (lt : t.lvs ≤ 19) : bRepr [.lst ((srtSet t.nms).map D.str)] = some (.str (D.lst ((srtSet t.nms).map D.str)).py.shown) := by
  have ln := nms_len t
  have ll : (srtSet t.nms).length ≤ 19 := by
    have e : (srtSet t.nms).length = (dd t.nms).length := (srtS_perm _).length_eq
    have := dd_len t.nms
    omega
  have sm := DL.Sm.lst (n := 0) (w := 12) (ds := (srtSet t.nms).map D.str) fun d hd => by
    obtain ⟨s, hs, rfl⟩ := List.mem_map.mp hd
    have hs2 : s ∈ t.nms := dd_mem.mp ((srtS_perm _).mem_iff.mp hs)
    have nm := nms_nm ht s hs2
    exact DL.Sm.str (n := 12) (fun c hc => nch_lt (nm.al c hc)) nm.len.2
  refine sm.repr (by decide) ?_
  rw [List.length_map]
  omega
/-- one turn over a form of the term -/
theorem turn_ok {S0 S1 S2 S5 S4 : Sl} {t : Tm} {G : D} (ht : TOk t) (lt : t.lvs ≤ 19) (dt : t.dep ≤ 12) (hr : Rep t G) (h4 : S4 = .dat (.lst (t.nms.map D.str)) ∨ S4 = .own (t.nms.map D.str)) :
    (rK [6] (rSeq (rIf (rOr (rTest (rOp oIsntA (rStill (rCall m_check_term (rCons (rVar 6) rNil))) (rC .non))) (rTest (rOp oNe (rCb bRepr (rCons (rStill (rCall m_leaf_count (rCons (rVar 6) rNil))) rNil)) (rCb bRepr (rCons (rLenV 4) rNil))))) (rRet (rC (.bl false)))
  rNext)
  (rF [3, 4] (rIf (rOr (rTest (rOp oNe (rCb bRepr (rCons (rStill (rCall m_names_of (rCons (rVar 6) rNil))) rNil)) (rCb bRepr (rCons (rStill (rSortSet (rVar 4))) rNil)))) (rTest (rOp oNe (rStill (rCall m_term_text (rCons (rVar 6) rNil))) (rStill (rCall (m_law_text 18) (rCons (rVar 3) rNil)))))) (rRet (rC (.bl false)))
  rNext)))) [S0, S1, S2, .dat t.d, S4, S5, .dat G, .no, .no, .no, .no] = .nx [S0, S1, S2, .dat t.d, .dat (.lst (t.nms.map D.str)), S5, .no, .no, .no, .no, .no] := by
  have ln := nms_len t
  have c1 := m_check_ok ht hr (by omega)
  have c2 := m_leaf_count_eq ht hr (by omega)
  have c3 := m_names_of_eq ht hr (by omega)
  have c4 := m_term_text_eq ht (by omega) (by omega) hr
  have c5 := m_law_text_eq (t := t) (f := 18) ht (by omega) (by omega)
  have rp := repr_names ht lt
  have ri : bRepr [.int (t.lvs : Int)] = some (.str (D.int (t.lvs : Int)).py.shown) := (DL.Sm.int (by omega)).repr (by decide) (by decide)
  have ll : (t.nms.map D.str).length = t.lvs := by rw [List.length_map, ln]
  rcases h4 with rfl | rfl
  all_goals (
    walk_at "r"
    rw [c1]
    walk_at "r"
    rw [c2]
    walk_at "r"
    rw [ri, ln]
    walk_at "r"
    rw [ri]
    walk_at "r"
    rw [c3]
    walk_at "r"
    rw [rp, e_rSortSet (ts := t.nms) rfl (by omega)]
    walk_at "r"
    rw [rp]
    walk_at "r"
    rw [c4]
    walk_at "r"
    rw [c5]
    walk_at "r")
end K35

set_option maxRecDepth 100000
set_option maxHeartbeats 4000000
namespace K35
open PySem PySem.Spec L2 DL
local macro_rules | `(tactic| walk_at "r") => `(tactic| try simp -implicitDefEqProofs (disch := omega) only [rDisp1, e_bSortKS_d, asKS_map, rM1, rM1O, rM0, rM0O, e_oJoin_l, e_oJoin_t, e_bStrA_i, e_bStrA_s, rFs, rJs, e_oFmt_i, e_oFmt_s, rIStr, e_oSplit, e_oWords, xAugL, e_bIntS, mkM, rC, rVar, rOp, rUn, rCb, rNil, rCons, rStar, rApp, rApp2, rStill, rCall, rTup, rLst, rNewK, rNewT, rAndV, rOrV, rNotV, rIfE, rChain, rChain3, rChain4, rTest, rYes, rAnd, rOr, rNot, rTru, gnm,
  rNext, rBreak, rCont, rRetN, rSeq, rDrop, rRet, rRetO, rRetV, rSet, rSetO, rAsg, rIf, rK, rF, rPar, rPar3, rFor, rAug, aug, xAppend, rIxV, rLenV, gsub, rAugS, xInsert, xPopAt, rDGet, rDGet2, rDIn, rDNotIn, rDLen, rDPut, rLockF, xModIx, xModIn, rRaise0, rRaise1, xIsX, rXf, rXfC,
  rListOfD, rListOfA, e_seqK_l, e_seqK_t, e_seqK_d, e_seqK_f, rTruV, List.isEmpty_map, xExtend, xSetPop, xSetPopAt, rDc, rLkO, rLstRg1, sortedO, List.isEmpty_cons, List.isEmpty_nil, List.head?_cons, List.head?_nil, List.find?_nil, xIsi, xIsi2, rIList, rITup, rISeq, rIRng1, rIRng2, rIRng3, rIEnum, rIValsN, rIValsV, rIKeysV, rPN, rPS, rSl, rL, rLO, rLc, rLc2, wipeR,
  Re.ok_bind, Re.ex_bind, Re.bad_bind, Re.ok_os, Re.ex_os, Re.bad_os, Os.nx_thn, Os.rt_thn, Os.bk_thn, Os.ct_thn, Os.ex_thn, Os.bad_thn, Os.uni_const, rowB, gt, frz, frz1, fgt, D.has, D.hass, asI, asB, asT, asI_map, asB_map, asT_map, keysK, keyT_tD,
  e_of_some, e_osof, e_ret_nx, e_ret_rt, e_ret_ex, e_kil_nx, e_kil_bk, e_kil_ct, e_kil_rt, e_kil_ex, e_noexc_nx, e_noexc_bk, e_noexc_ct, e_noexc_rt, e_noex, e_val, e_get_dat, e_get_own, e_get_oK, e_get_oT, e_rtv_dat, e_rtv_own, e_rtv_oK, e_rtv_oT, e_ownL, e_isD_oT, e_isD_dT, e_isD_fT, e_isOD_T, e_ask_oT, e_has_oT, e_len_oT, e_ask_dT, e_has_dT, e_len_dT, e_ask_fT, e_has_fT, e_len_fT, e_put_T, e_lock_T, e_isD_oK, e_isD_dK, e_isD_fK, e_isOD_K, e_ask_oK, e_has_oK, e_len_oK, e_ask_dK, e_has_dK, e_len_dK, e_ask_fK, e_has_fK, e_len_fK, e_put_K, e_lock_K, e_keyK_int, e_keyK_str, e_keyT2, e_keyT3, e_blD, e_tru_non, e_tru_bl, e_tru_int, e_tru_lst, e_tru_tup, e_seq_l, e_seq_t, e_gtp, e_gls, e_gco, e_gni, e_oSub, e_oLt, e_oLe, e_oGt, e_oGe, e_oEq, e_oNe, e_oAdd, e_oIAdd, e_oXor, e_oAddL, e_oAddS, oEqTs, oNeTs, oEqLI, oNeLI, oEqTI, oNeTI, e_oAddT, e_oMulR, e_oMulL, e_oMul, e_oMulLst, e_oIMulR, e_oIMulL, e_oDiv, e_oDivB, e_oMod, e_oPow, e_oEqS, e_oNeS, e_oEqB, e_oNeB, e_oIs, e_oIsNot, e_nonD, e_nonD_int, e_nonD_str, e_nonD_lst, e_nonD_tup, e_nonD_bl, e_oNeg, e_oIxL, e_oIxT, e_oIn_lst, e_oIn_tup, e_oNotIn_lst, e_oNotIn_tup, e_oSlL_l, e_oSlL_s, e_oSlAny_l, e_oSlAny_s, rRev, e_oRev_l, e_oRev_t, e_oSlA_t, e_oSlAny_t, e_bAbs, e_bLenL, e_bLenT, e_bInt, e_bIntT, e_bIntF, e_bIntB, e_bTupL, e_bTupT, e_bMax2, e_bMin2, e_bAll, e_bAny, e_bSumA, e_bSumAt, e_bMinR, rTupRg1, xAppPopAt, rRep1, e_bSorted_lst, e_bSorted_tup, e_isT_non_int, e_isT_non_bool, e_isT_non_str, e_isT_non_list, e_isT_non_tuple, e_isT_bl_int, e_isT_bl_bool, e_isT_bl_str, e_isT_bl_list, e_isT_bl_tuple, e_isT_int_int, e_isT_int_bool, e_isT_int_str, e_isT_int_list, e_isT_int_tuple, e_isT_str_int, e_isT_str_bool, e_isT_str_str, e_isT_str_list, e_isT_str_tuple, e_isT_lst_int, e_isT_lst_bool, e_isT_lst_str, e_isT_lst_list, e_isT_lst_tuple, e_isT_tup_int, e_isT_tup_bool, e_isT_tup_str, e_isT_tup_list, e_isT_tup_tuple, e_irng1, e_irng2, e_irng3, e_oIsA_n, e_oIsA_b, e_oIsntA_n, e_oIsntA_b, oInA, oNotInA, e_inD_il, e_inD_it, e_inD_sl, e_inD_st, e_inD_tl, e_inD_ti, asS, asS_map, Option.isSome_some, Option.isSome_none, k_bose_skolem, k_bose_affine, k_bose_binary, k_bose_listed, k_bose_double, k_bose_product, k_skolem_bose, k_skolem_affine, k_skolem_binary, k_skolem_listed, k_skolem_double, k_skolem_product, k_affine_bose, k_affine_skolem, k_affine_binary, k_affine_listed, k_affine_double, k_affine_product, k_binary_bose, k_binary_skolem, k_binary_affine, k_binary_listed, k_binary_double, k_binary_product, k_listed_bose, k_listed_skolem, k_listed_affine, k_listed_binary, k_listed_double, k_listed_product, k_double_bose, k_double_skolem, k_double_affine, k_double_binary, k_double_listed, k_double_product, k_product_bose, k_product_skolem, k_product_affine, k_product_binary, k_product_listed, k_product_double, arm_bose, arm_skolem, arm_affine, arm_binary, arm_listed, arm_double, arm_product, e_shas_oT, e_shas_oK, hass_pD, hass_lI, e_lendD, e_lendS, e_has_dat, e_has_own, e_hass_ints, e_hass_tI, and_okP, or_okP, andD_okP, orD_okP, atI_lit, e_ixN, List.getElem?_cons_zero, List.getElem?_cons_succ,
  List.map_cons, List.map_nil, List.cons_append, List.nil_append, List.length_cons, List.length_nil, List.length_map, List.length_append, List.length_take, List.length_drop, rg_len, rgs_len, rgd_len, List.length_set, List.set_cons_zero, List.set_cons_succ, Nat.reduceAdd, Nat.reduceLeDiff, Nat.reduceEqDiff, Option.bind_some, Option.map_some, Option.bind_none, Option.map_none, Bool.not_true, Bool.not_false, Bool.or_false, Bool.false_or, Bool.and_true, Bool.true_and, Bool.or_true, Bool.true_or, Bool.and_false, Bool.false_and, Bool.or_self, Bool.and_self, Bool.not_not,
  decide_true, decide_false, decide_eq_true_eq, Bool.and_eq_true, Bool.or_eq_true, bnot_true, bool_eqf, ite_not, Decidable.not_not, if_true, if_false, ite_true, ite_false, Bool.false_eq_true, and_true, true_and, false_and, and_false, and_self, eq_self, reduceCtorEq, not_true, not_false_eq_true, and_ok, or_ok, andD_ok, orD_ok, if_pos, if_neg, Int.reduceLE, Int.reduceLT, Int.reduceNeg, Int.reduceAdd, Int.reduceSub, Int.reduceMul, Int.reduceMod, Int.reduceDiv, Int.reduceEq, Int.reducePow, Nat.reducePow, Int.reduceToNat])
theorem e_step {k : Nat} {b : Rho → Os} {x : D} {ρ : Rho} : stepFor (gnm k) b x ρ = b (ρ.set k (.dat x)) := rfl
theorem tlA_ok {S0 S4 S5 : Sl} {l : List Int} (hl : Nums l 80) {L : List Str} (hL : 1 ≤ L.length ∧ L.length ≤ 4) (hN : ∀ s ∈ L, Nm s) {t : Tm} {H : D} (ht : TOk t) (lt : t.lvs ≤ 19) (dt : t.dep ≤ 12) (hr : Rep t H) (eqH : oEq H H = some (.bl true)) (ll : (m_law_lists 18 [t.d]).bind Sl.get = .ok H)
    (h4 : S4 = .dat (.lst (t.nms.map D.str)) ∨ S4 = .own (t.nms.map D.str)) (h5 : S5 = .dat H ∨ ∃ ds, S5 = .own ds ∧ H = .lst ds) :
    tlA [S0, .dat (.lst (l.map D.int)), .dat (.lst (L.map D.str)), .dat t.d, S4, S5, .no, .no, .no, .no, .no] = .rt (.dat (.bl true)) := by
  have g1 := fun S0 S1 S2 S5 => turn_ok (S0 := S0) (S1 := S1) (S2 := S2) (S5 := S5) (S4 := S4) (G := t.d) ht lt dt (rep_d t) h4
  have g2 := fun S0 S1 S2 S5 => turn_ok (S0 := S0) (S1 := S1) (S2 := S2) (S5 := S5) (S4 := .dat (.lst (t.nms.map D.str))) (G := H) ht lt dt hr (.inl rfl)
  have g3 := tlB_ok (S0 := S0) (S4 := .dat (.lst (t.nms.map D.str))) hl hL hN ht lt dt hr eqH ll
  unfold tlA
  rcases h5 with rfl | ⟨ds, rfl, rfl⟩
  all_goals (
    walk_at "r"
    rw [for_two (by rw [e_step]; exact g1 _ _ _ _) (by rw [e_step]; exact g2 _ _ _ _)]
    walk_at "r"
    exact g3)
theorem law_ok (ns : List Int) (hns : ns.length ≤ 63) : mkM 1 [.no, .no, .no, .no, .no, .no, .no, .no, .no, .no] r_law [.src ns] = .ok (.dat (.bl true)) := by
  obtain ⟨l, el, hl⟩ := m_law_numbers_ok ns 80 hns (by omega)
  obtain ⟨L, eL, hL, hN⟩ := m_law_word_ok hl (i := 0) (by omega)
  obtain ⟨t, et, ht, dt, lt, nt⟩ := m_law_term_ok hl (i := 2) (m := 7) (by omega) (by omega) (by omega) hN
  have dt : t.dep ≤ 12 := dt
  have lt : t.lvs ≤ 19 := lt
  have ll := m_lists_eq (t := t) (f := 18) (by omega)
  obtain ⟨lv, _⟩ := m_lvs_x (t := t) (f := 18) (by omega) (by omega)
  have eqH := oEq_ld ht (by omega)
  obtain ⟨z5, e5, h5⟩ := lists_slot ll
  obtain ⟨z4, e4, h4⟩ := lists_slot lv
  have h4' : z4 = .dat (.lst (t.nms.map D.str)) ∨ z4 = .own (t.nms.map D.str) := by
    rcases h4 with h | ⟨ds, h, e⟩ | ⟨_, _, h⟩ | ⟨_, _, h⟩
    · exact .inl h
    · cases e; exact .inr h
    · cases h
    · cases h
  have h5' : z5 = .dat t.ld ∨ ∃ ds, z5 = .own ds ∧ t.ld = .lst ds := by
    rcases h5 with h | h | ⟨_, _, h⟩ | ⟨_, _, h⟩
    · exact .inl h
    · exact .inr h
    · cases t <;> cases h
    · cases t <;> cases h
  have key := tlA_ok (S0 := .dat (.src ns)) hl hL hN ht lt dt (rep_ld t) eqH ll h4' h5'
  rw [r_law_cut]
  walk_at "r"
  rw [el]
  walk_at "r"
  rw [eL]
  walk_at "r"
  rw [et]
  walk_at "r"
  rw [e4]
  walk_at "r"
  rw [e5]
  walk_at "r"
  rw [key]
  walk_at "r"
end K35

set_option pp.deepTerms false
set_option pp.maxSteps 400
set_option maxRecDepth 100000
set_option maxHeartbeats 4000000
namespace K35
open PySem PySem.Spec L2 DL

abbrev sp_is_variable (K : PySem.W.Frag) (A : Ad) : Sp := spM K A.adr m_is_variable
abbrev sp_leaves (K : PySem.W.Frag) (A : Ad) : Sp := spM K A.adr m_leaves
abbrev sp_check_term (K : PySem.W.Frag) (A : Ad) : Sp := spM K A.adr m_check_term
abbrev sp_kept (K : PySem.W.Frag) (A : Ad) (d : Nat) : Sp := spM K A.adr (m_kept d)
abbrev sp_leaf_count (K : PySem.W.Frag) (A : Ad) : Sp := spM K A.adr m_leaf_count
abbrev sp_names_of (K : PySem.W.Frag) (A : Ad) : Sp := spM K A.adr m_names_of
abbrev sp_written (K : PySem.W.Frag) (A : Ad) (d : Nat) : Sp := spM K A.adr (m_written d)
abbrev sp_term_text (K : PySem.W.Frag) (A : Ad) : Sp := spM K A.adr m_term_text
abbrev sp_replaced (K : PySem.W.Frag) (A : Ad) : Sp := spM K A.adr m_replaced
abbrev sp_exchanged (K : PySem.W.Frag) (A : Ad) (d : Nat) : Sp := spM K A.adr (m_exchanged d)
abbrev sp_law_row (K : PySem.W.Frag) (A : Ad) : Sp := spM K A.adr m_law_row
abbrev sp_law_numbers (K : PySem.W.Frag) (A : Ad) : Sp := spM K A.adr m_law_numbers
abbrev sp_law_names (K : PySem.W.Frag) (A : Ad) : Sp := spM K A.adr m_law_names
abbrev sp_law_term (K : PySem.W.Frag) (A : Ad) : Sp := spM K A.adr m_law_term
abbrev sp_law_text (K : PySem.W.Frag) (A : Ad) (d : Nat) : Sp := spM K A.adr (m_law_text d)
abbrev sp_law_lists (K : PySem.W.Frag) (A : Ad) (d : Nat) : Sp := spM K A.adr (m_law_lists d)
abbrev sp_law_leaves (K : PySem.W.Frag) (A : Ad) (d : Nat) : Sp := spM K A.adr (m_law_leaves d)
abbrev sp_law_word (K : PySem.W.Frag) (A : Ad) : Sp := spM K A.adr m_law_word
abbrev sp_law_replaced (K : PySem.W.Frag) (A : Ad) (d : Nat) : Sp := spM K A.adr (m_law_replaced d)
def t_is_variable (K : PySem.W.Frag) (A : Ad) (W : WX) : TS :=
  (tSeq (tIfS (tOr (tNot (tTru K (tCB (rIsi K) (tCons (tVar 0) (tCons (tC (.ty "str")) tNil))))) (tOr (tNot (tTest (tChain (rI0 fun i j => .bl (decide (i ≤ j))) (rI0 fun i j => .bl (decide (i ≤ j))) (tC (.int 1)) (tCB (rLn K) (tCons (tVar 0) tNil)) (tC (.int 12))))) (tTest (tOp rNotInC (tOp (rIx K) (tVar 0) (tC (.int 0))) (tC (.str "abcdefghijklmnopqrstuvwxyz")))))) (tRet (tC (.bl false))) tNext)
  (tRet (tCB (rAll K) (tCons (tLc (iStr (tVar 0)) (gName 1) tYes (tOp rInC (tVar 1) (tC (.str "abcdefghijklmnopqrstuvwxyz0123456789"))) [1]) tNil))))
def t_leaves (K : PySem.W.Frag) (A : Ad) (W : WX) : TS :=
  (tSeq (tAsg (tLst tNil) (gName 1))
  (tSeq (tAsg (tLst (tCons (tVar 0) tNil)) (gName 2))
  (tSeq (tWhile (tTru K (tVar 2)) (tSeq (tAsg (tBM0 K "list" rPop (tVar 2)) (gName 3))
  (tSeq (tIfS (tTru K (tCallS (sp_is_variable K A) (WE W) (tCons (tVar 3) tNil))) (tDrop (tBM K "list" rAppend (tVar 1) (tCons (tVar 3) tNil))) (tIfS (tOr (tNot (tTru K (tCB (rIsiT K) (tCons (tVar 3) (tCons (tTup (tCons (tC (.ty "tuple")) (tCons (tC (.ty "list")) tNil))) tNil))))) (tTest (tOp (rNeA K) (tCB (rLn K) (tCons (tVar 3) tNil)) (tC (.int 2))))) (tRaise0 A.c_InvalidTerm W) (tAug 2 (tLst (tCons (tOp (rIx K) (tVar 3) (tC (.int 1))) (tCons (tOp (rIx K) (tVar 3) (tC (.int 0))) tNil))) rExt2)))
  (tIfS (tTest (tOp (rI0 fun i j => .bl (decide (j < i))) (tOp (rAdd K) (tCB (rLn K) (tCons (tVar 1) tNil)) (tCB (rLn K) (tCons (tVar 2) tNil))) (tC (.int 200)))) (tRaise0 A.c_InvalidTerm W) tNext))))
  (tRet (tVar 1)))))
def t_check_term (K : PySem.W.Frag) (A : Ad) (W : WX) : TS :=
  (tDrop (tCallS (sp_leaves K A) (WE W) (tCons (tVar 0) tNil)))
def t_kept (K : PySem.W.Frag) (A : Ad) (W : WX) (d : Nat) : TS :=
  (tRet (tIf (tTru K (tCB (rIsi K) (tCons (tVar 0) (tCons (tC (.ty "str")) tNil)))) (tVar 0) (tTup (tCons (tCallS (sp_kept K A d) (WE W) (tCons (tOp (rIx K) (tVar 0) (tC (.int 0))) tNil)) (tCons (tCallS (sp_kept K A d) (WE W) (tCons (tOp (rIx K) (tVar 0) (tC (.int 1))) tNil)) tNil)))))
def t_leaf_count (K : PySem.W.Frag) (A : Ad) (W : WX) : TS :=
  (tRet (tCB (rLn K) (tCons (tCallS (sp_leaves K A) (WE W) (tCons (tVar 0) tNil)) tNil)))
def t_names_of (K : PySem.W.Frag) (A : Ad) (W : WX) : TS :=
  (tRet (tCB rSortKS (tCons (tDc (iSeq K (tCallS (sp_leaves K A) (WE W) (tCons (tVar 0) tNil))) (gName 1) tYes (tVar 1) (tC (.bl true)) [1]) tNil)))
def t_written (K : PySem.W.Frag) (A : Ad) (W : WX) (d : Nat) : TS :=
  (tRet (tIf (tTru K (tCB (rIsi K) (tCons (tVar 0) (tCons (tC (.ty "str")) tNil)))) (tVar 0) (tFs [(tC (.str "(")), (tUn rFmtD (tCallS (sp_written K A d) (WE W) (tCons (tOp (rIx K) (tVar 0) (tC (.int 0))) tNil))), (tC (.str " ")), (tUn rFmtD (tCallS (sp_written K A d) (WE W) (tCons (tOp (rIx K) (tVar 0) (tC (.int 1))) tNil))), (tC (.str ")"))])))
def t_term_text (K : PySem.W.Frag) (A : Ad) (W : WX) : TS :=
  (tSeq (tDrop (tCallS (sp_check_term K A) (WE W) (tCons (tVar 0) tNil)))
  (tRet (tCallS (sp_written K A 18) (WE W) (tCons (tVar 0) tNil))))
def t_replaced (K : PySem.W.Frag) (A : Ad) (W : WX) : TS :=
  (tSeq (tDrop (tCallS (sp_check_term K A) (WE W) (tCons (tVar 0) tNil)))
  (tSeq (tFor (iSeq K (tCB rSortKS (tCons (tVar 1) tNil))) (gName 2) (tDrop (tCallS (sp_check_term K A) (WE W) (tCons (tDGet (tVar 1) (tVar 2)) tNil))))
  (tSeq (tAsg (tCallS (sp_exchanged K A 18) (WE W) (tCons (tVar 0) (tCons (tVar 1) tNil))) (gName 3))
  (tSeq (tDrop (tCallS (sp_check_term K A) (WE W) (tCons (tVar 3) tNil)))
  (tRet (tVar 3))))))
def t_exchanged (K : PySem.W.Frag) (A : Ad) (W : WX) (d : Nat) : TS :=
  (tSeq (tIfS (tTru K (tCB (rIsi K) (tCons (tVar 0) (tCons (tC (.ty "str")) tNil)))) (tRet (tCallS (sp_kept K A 18) (WE W) (tCons (tDGet2 (tVar 1) (tVar 0) (tVar 0)) tNil))) tNext)
  (tRet (tTup (tCons (tCallS (sp_exchanged K A d) (WE W) (tCons (tOp (rIx K) (tVar 0) (tC (.int 0))) (tCons (tVar 1) tNil))) (tCons (tCallS (sp_exchanged K A d) (WE W) (tCons (tOp (rIx K) (tVar 0) (tC (.int 1))) (tCons (tVar 1) tNil))) tNil)))))
def t_law_row (K : PySem.W.Frag) (A : Ad) (W : WX) : TS :=
  (tSeq (tAsg (tLst tNil) (gName 2))
  (tSeq (tAsg (tCB rAbs (tCons (tVar 0) tNil)) (gName 3))
  (tSeq (tAsg (tOp (rI (fun _ j => 0 < j) fun i j => .int (i % j)) (tCB rInt1 (tCons (tOp (rAdd K) (tOp rMulA (tVar 3) (tC (.int 48271))) (tC (.int 69621))) tNil)) (tC (.int 2147483647))) (gName 4))
  (tSeq (tFor (iRng1 (tCons (tVar 1) tNil)) (gName 5) (tSeq (tAsg (tOp (rI (fun _ j => 0 < j) fun i j => .int (i % j)) (tCB rInt1 (tCons (tOp (rAdd K) (tOp rMulA (tVar 4) (tC (.int 16807))) (tOp rMulA (tC (.int 271)) (tOp (rAdd K) (tVar 5) (tC (.int 3))))) tNil)) (tC (.int 2147483629))) (gName 4))
  (tIfS (tTest (tOp (rI0 fun i j => .bl (decide (j ≤ i))) (tCB rAbs (tCons (tVar 0) tNil)) (tOp (rI CPow fun i j => .int (i ^ j.toNat)) (tC (.int 10)) (tC (.int 18))))) (tSeq (tDrop (tBM K "list" rAppend (tVar 2) (tCons (tOp (rI (fun _ j => 0 < j) fun i j => .int (i % j)) (tCB rInt1 (tCons (tVar 3) tNil)) (tC (.int 1009))) tNil)))
  (tAsg (tOp rDivA (tVar 3) (tC (.int 1009))) (gName 3))) (tDrop (tBM K "list" rAppend (tVar 2) (tCons (tOp (rI (fun _ j => 0 < j) fun i j => .int (i % j)) (tCB rInt1 (tCons (tOp rDivA (tVar 4) (tC (.int 7))) tNil)) (tC (.int 1009))) tNil))))))
  (tRet (tVar 2))))))
def t_law_numbers (K : PySem.W.Frag) (A : Ad) (W : WX) : TS :=
  (tSeq (tAsg (tSl (rSlAny K) (tVar 0) tNoPart (tPart (tC (.int 63)))) (gName 2))
  (tSeq (tAsg (tOp (rAdd K) (tC (.int 1)) (tOp rDivA (tVar 1) (tCB rMax2 (tCons (tC (.int 1)) (tCons (tCB (rLn K) (tCons (tVar 2) tNil)) tNil))))) (gName 3))
  (tSeq (tAsg (tLst tNil) (gName 4))
  (tSeq (tFor (iSeq K (tVar 2)) (gName 5) (tFor (iSeq K (tCallS (sp_law_row K A) (WE W) (tCons (tVar 5) (tCons (tVar 3) tNil)))) (gName 6) (tDrop (tBM K "list" rAppend (tVar 4) (tCons (tVar 6) tNil)))))
  (tSeq (tWhile (tTest (tOp (rI0 fun i j => .bl (decide (i < j))) (tCB (rLn K) (tCons (tVar 4) tNil)) (tVar 1))) (tDrop (tBM K "list" rAppend (tVar 4) (tCons (tC (.int 0)) tNil))))
  (tRet (tSl (rSlAny K) (tVar 4) tNoPart (tPart (tVar 1)))))))))
def t_law_names (K : PySem.W.Frag) (A : Ad) (W : WX) : TS :=
  (tSeq (tAsg (tC (.str "abcdefghijklmnopqrstuvwxyz0123456789")) (gName 2))
  (tSeq (tAsg (tOp (rI (fun _ j => 0 < j) fun i j => .int (i % j)) (tCB rInt1 (tCons (tVar 0) tNil)) (tC (.int 11))) (gName 3))
  (tSeq (tAsg (tM1 (rJoin K) (tC (.str "")) (tLc (iRng1 (tCons (tVar 3) tNil)) (gName 7) tYes (tOp (rIx K) (tVar 2) (tOp (rI (fun _ j => 0 < j) fun i j => .int (i % j)) (tCB rInt1 (tCons (tOp (rAdd K) (tVar 0) (tOp rMulA (tOp rMulA (tC (.int 7)) (tVar 7)) (tVar 7))) tNil)) (tC (.int 36)))) [7])) (gName 4))
  (tSeq (tAsg (tOp (rI (fun _ j => 0 < j) fun i j => .int (i % j)) (tCB rInt1 (tCons (tOp rDivA (tVar 0) (tC (.int 11))) tNil)) (tOp (rAdd K) (tVar 3) (tC (.int 1)))) (gName 5))
  (tSeq (tAsg (tLst tNil) (gName 6))
  (tSeq (tFor (iRng1 (tCons (tVar 1) tNil)) (gName 7) (tSeq (tAsg (tVar 4) (gName 8))
  (tSeq (tIfS (tTest (tOp (rEqA K) (tOp (rI (fun _ j => 0 < j) fun i j => .int (i % j)) (tCB rInt1 (tCons (tOp (rAdd K) (tOp rDivA (tVar 0) (tC (.int 121))) (tVar 7)) tNil)) (tC (.int 3))) (tC (.int 0)))) (tAsg (tSl rSlS (tVar 4) (tPart (tC (.int 1))) tNoPart) (gName 8)) tNext)
  (tSeq (tAsg (tCB rMin2 (tCons (tVar 5) (tCons (tCB (rLn K) (tCons (tVar 8) tNil)) tNil))) (gName 9))
  (tSeq (tAsg (tC (.int 5)) (gName 10))
  (tSeq (tIfS (tTest (tOp (rEqA K) (tOp (rI (fun _ j => 0 < j) fun i j => .int (i % j)) (tCB rInt1 (tCons (tOp rDivA (tVar 0) (tC (.int 363))) tNil)) (tC (.int 2))) (tC (.int 1)))) (tAsg (tC (.int 31)) (gName 10)) tNext)
  (tSeq (tAsg (tOp (rAdd K) (tOp (rIx K) (tVar 2) (tOp (rI (fun _ j => 0 < j) fun i j => .int (i % j)) (tCB rInt1 (tCons (tOp (rAdd K) (tVar 0) (tOp rMulA (tC (.int 3)) (tVar 7))) tNil)) (tC (.int 26)))) (tSl rSlS (tVar 8) tNoPart (tPart (tVar 9)))) (gName 11))
  (tDrop (tBM K "list" rAppend (tVar 6) (tCons (tOp (rAdd K) (tOp (rAdd K) (tVar 11) (tOp (rIx K) (tVar 2) (tOp (rI (fun _ j => 0 < j) fun i j => .int (i % j)) (tCB rInt1 (tCons (tOp (rAdd K) (tVar 0) (tOp rMulA (tVar 10) (tVar 7))) tNil)) (tC (.int 36))))) (tSl rSlS (tVar 8) (tPart (tVar 9)) tNoPart)) tNil))))))))))
  (tRet (tVar 6))))))))
def t_law_term (K : PySem.W.Frag) (A : Ad) (W : WX) : TS :=
  (tSeq (tAsg (tLst tNil) (gName 4))
  (tSeq (tFor (iRng1 (tCons (tOp (rAdd K) (tC (.int 1)) (tOp (rI (fun _ j => 0 < j) fun i j => .int (i % j)) (tCB rInt1 (tCons (tOp (rIx K) (tVar 0) (tVar 1)) tNil)) (tVar 3))) tNil)) (gName 5) (tDrop (tBM K "list" rAppend (tVar 4) (tCons (tOp (rIx K) (tVar 2) (tOp (rI (fun _ j => 0 < j) fun i j => .int (i % j)) (tCB rInt1 (tCons (tOp (rIx K) (tVar 0) (tOp (rAdd K) (tOp (rAdd K) (tVar 1) (tC (.int 1))) (tOp rMulA (tC (.int 2)) (tVar 5)))) tNil)) (tCB (rLn K) (tCons (tVar 2) tNil)))) tNil))))
  (tSeq (tFor (iRng1 (tCons (tVar 3) tNil)) (gName 6) (tIfS (tTest (tOp (rI0 fun i j => .bl (decide (j < i))) (tCB (rLn K) (tCons (tVar 4) tNil)) (tC (.int 1)))) (tSeq (tAsg (tOp (rI (fun _ j => 0 < j) fun i j => .int (i % j)) (tCB rInt1 (tCons (tOp (rIx K) (tVar 0) (tOp (rAdd K) (tOp (rAdd K) (tVar 1) (tC (.int 2))) (tOp rMulA (tC (.int 2)) (tVar 6)))) tNil)) (tOp (rI0 fun i j => .int (i - j)) (tCB (rLn K) (tCons (tVar 4) tNil)) (tC (.int 1)))) (gName 7))
  (tSeq (tAsg (tBM K "list" rPopAt (tVar 4) (tCons (tOp (rAdd K) (tVar 7) (tC (.int 1))) tNil)) (gName 8))
  (tSeq (tIfS (tAnd (tTest (tOp (rEqA K) (tOp (rI (fun _ j => 0 < j) fun i j => .int (i % j)) (tCB rInt1 (tCons (tOp rDivA (tOp (rIx K) (tVar 0) (tOp (rAdd K) (tOp (rAdd K) (tVar 1) (tC (.int 2))) (tOp rMulA (tC (.int 2)) (tVar 6)))) (tC (.int 7))) tNil)) (tC (.int 4))) (tC (.int 0)))) (tTest (tOp (rI0 fun i j => .bl (decide (i < j))) (tCB (rLn K) (tCons (tCallS (sp_law_leaves K A 18) (WE W) (tCons (tOp (rIx K) (tVar 4) (tVar 7)) tNil)) tNil)) (tC (.int 3))))) (tAsg (tTup (tCons (tOp (rIx K) (tVar 4) (tVar 7)) (tCons (tVar 8) tNil))) (gName 8)) tNext)
  (tAsg (tTup (tCons (tOp (rIx K) (tVar 4) (tVar 7)) (tCons (tVar 8) tNil))) (gSub (tVar 4) (tVar 7) rSetL))))) tNext))
  (tRet (tOp (rIx K) (tVar 4) (tC (.int 0)))))))
def t_law_text (K : PySem.W.Frag) (A : Ad) (W : WX) (d : Nat) : TS :=
  (tSeq (tIfS (tTru K (tCB (rIsi K) (tCons (tVar 0) (tCons (tC (.ty "str")) tNil)))) (tRet (tVar 0)) tNext)
  (tRet (tOp (rAdd K) (tOp (rAdd K) (tOp (rAdd K) (tOp (rAdd K) (tC (.str "(")) (tCallS (sp_law_text K A d) (WE W) (tCons (tOp (rIx K) (tVar 0) (tC (.int 0))) tNil))) (tC (.str " "))) (tCallS (sp_law_text K A d) (WE W) (tCons (tOp (rIx K) (tVar 0) (tC (.int 1))) tNil))) (tC (.str ")")))))
def t_law_lists (K : PySem.W.Frag) (A : Ad) (W : WX) (d : Nat) : TS :=
  (tSeq (tIfS (tTru K (tCB (rIsi K) (tCons (tVar 0) (tCons (tC (.ty "str")) tNil)))) (tRet (tVar 0)) tNext)
  (tRet (tLst (tCons (tCallS (sp_law_lists K A d) (WE W) (tCons (tOp (rIx K) (tVar 0) (tC (.int 0))) tNil)) (tCons (tCallS (sp_law_lists K A d) (WE W) (tCons (tOp (rIx K) (tVar 0) (tC (.int 1))) tNil)) tNil)))))
def t_law_leaves (K : PySem.W.Frag) (A : Ad) (W : WX) (d : Nat) : TS :=
  (tSeq (tIfS (tTru K (tCB (rIsi K) (tCons (tVar 0) (tCons (tC (.ty "str")) tNil)))) (tRet (tLst (tCons (tVar 0) tNil))) tNext)
  (tRet (tOp (rAdd K) (tCallS (sp_law_leaves K A d) (WE W) (tCons (tOp (rIx K) (tVar 0) (tC (.int 0))) tNil)) (tCallS (sp_law_leaves K A d) (WE W) (tCons (tOp (rIx K) (tVar 0) (tC (.int 1))) tNil)))))
def t_law_word (K : PySem.W.Frag) (A : Ad) (W : WX) : TS :=
  (tRet (tCallS (sp_law_names K A) (WE W) (tCons (tOp (rIx K) (tVar 0) (tVar 1)) (tCons (tOp (rAdd K) (tC (.int 1)) (tOp (rI (fun _ j => 0 < j) fun i j => .int (i % j)) (tCB rInt1 (tCons (tOp (rIx K) (tVar 0) (tOp (rAdd K) (tVar 1) (tC (.int 1)))) tNil)) (tC (.int 4)))) tNil))))
def t_law_replaced (K : PySem.W.Frag) (A : Ad) (W : WX) (d : Nat) : TS :=
  (tSeq (tIfS (tTru K (tCB (rIsi K) (tCons (tVar 0) (tCons (tC (.ty "str")) tNil)))) (tRet (tDGet2 (tVar 1) (tVar 0) (tVar 0))) tNext)
  (tRet (tTup (tCons (tCallS (sp_law_replaced K A d) (WE W) (tCons (tOp (rIx K) (tVar 0) (tC (.int 0))) (tCons (tVar 1) tNil))) (tCons (tCallS (sp_law_replaced K A d) (WE W) (tCons (tOp (rIx K) (tVar 0) (tC (.int 1))) (tCons (tVar 1) tNil))) tNil)))))
def t_law (K : PySem.W.Frag) (A : Ad) (W : WX) : TS :=
  (tSeq (tAsg (tCallS (sp_law_numbers K A) (WE W) (tCons (tVar 0) (tCons (tC (.int 80)) tNil))) (gName 1))
  (tSeq (tAsg (tCallS (sp_law_word K A) (WE W) (tCons (tVar 1) (tCons (tC (.int 0)) tNil))) (gName 2))
  (tSeq (tAsg (tCallS (sp_law_term K A) (WE W) (tCons (tVar 1) (tCons (tC (.int 2)) (tCons (tVar 2) (tCons (tC (.int 7)) tNil))))) (gName 3))
  (tSeq (tAsg (tCallS (sp_law_leaves K A 18) (WE W) (tCons (tVar 3) tNil)) (gName 4))
  (tSeq (tAsg (tCallS (sp_law_lists K A 18) (WE W) (tCons (tVar 3) tNil)) (gName 5))
  (tSeq (tFor (iSeq K (tLst (tCons (tVar 3) (tCons (tVar 5) tNil)))) (gName 6) (tSeq (tIfS (tOr (tTest (tOp rIsntA (tCallS (sp_check_term K A) (WE W) (tCons (tVar 6) tNil)) (tC .non))) (tTest (tOp (rNeA K) (tCB (rReprD K) (tCons (tCallS (sp_leaf_count K A) (WE W) (tCons (tVar 6) tNil)) tNil)) (tCB (rReprD K) (tCons (tCB (rLn K) (tCons (tVar 4) tNil)) tNil))))) (tRet (tC (.bl false))) tNext)
  (tIfS (tOr (tTest (tOp (rNeA K) (tCB (rReprD K) (tCons (tCallS (sp_names_of K A) (WE W) (tCons (tVar 6) tNil)) tNil)) (tCB (rReprD K) (tCons (tSortSet K (tVar 4)) tNil)))) (tTest (tOp (rNeA K) (tCallS (sp_term_text K A) (WE W) (tCons (tVar 6) tNil)) (tCallS (sp_law_text K A 18) (WE W) (tCons (tVar 3) tNil))))) (tRet (tC (.bl false))) tNext)))
  (tSeq (tAsg tDNewK (gName 7))
  (tSeq (tFor (iRng1 (tCons (tOp (rI (fun _ j => 0 < j) fun i j => .int (i % j)) (tCB rInt1 (tCons (tOp (rIx K) (tVar 1) (tC (.int 40))) tNil)) (tC (.int 4))) tNil)) (gName 8) (sDPut (tVar 7) (tOp (rIx K) (tOp (rAdd K) (tVar 2) (tLst (tCons (tC (.str "zz")) tNil))) (tOp (rI (fun _ j => 0 < j) fun i j => .int (i % j)) (tCB rInt1 (tCons (tOp (rIx K) (tVar 1) (tOp (rAdd K) (tC (.int 41)) (tVar 8))) tNil)) (tOp (rAdd K) (tCB (rLn K) (tCons (tVar 2) tNil)) (tC (.int 1))))) (tCallS (sp_law_term K A) (WE W) (tCons (tVar 1) (tCons (tOp (rAdd K) (tC (.int 46)) (tOp rMulA (tC (.int 8)) (tVar 8))) (tCons (tVar 2) (tCons (tC (.int 3)) tNil)))))))
  (tSeq (tAsg tDNewK (gName 9))
  (tSeq (tLockF (tFor (iKeys (tVar 7)) (gName 10) (sDPut (tVar 9) (tVar 10) (tDGet (tVar 7) (tVar 10)))))
  (tSeq (tIfS (tTest (tOp (rNeA K) (tCB (rReprD K) (tCons (tCallS (sp_replaced K A) (WE W) (tCons (tVar 5) (tCons (tVar 7) tNil))) tNil)) (tCB (rReprD K) (tCons (tCallS (sp_law_replaced K A 18) (WE W) (tCons (tVar 3) (tCons (tVar 7) tNil))) tNil)))) (tRet (tC (.bl false))) tNext)
  (tRet (tAndV (tOp (rEqA K) (tVar 5) (tCallS (sp_law_lists K A 18) (WE W) (tCons (tVar 3) tNil))) (tOp (rEqDS K) (tVar 7) (tVar 9)))))))))))))))
section
variable {K : PySem.W.Frag} {mg : Str → Option Value} {A : Ad}
theorem c_is_variable (T : Txt K mg A) (W : WX) : CS K W A.adr (t_is_variable K A W) r_is_variable := by
  unfold t_is_variable r_is_variable
  exact (cSeq (cIf (cOr (cNot (cTru (cIsi .str (ha := (cVar 0))))) (cOr (cNot (cTest (cChain pLe pLe (cInt 1) (cLenV 0) (cInt 12)))) (cTest (cOp pNotInC (cIxV 0 (cInt 0)) (cStr "abcdefghijklmnopqrstuvwxyz"))))) (cRet (cBl false)) cNext)
  (cRet (cCb fAll (cCons (cStill (cLc (wIStr (cVar 0)) (gin_name (by simp)) (gNm 1) cYes (cOp pInC (cVar 1) (cStr "abcdefghijklmnopqrstuvwxyz0123456789")))) cNil))))
theorem c_leaves (T : Txt K mg A) (W : WX) : CS K W A.adr (t_leaves K A W) r_leaves := by
  unfold t_leaves r_leaves
  exact (cSeq (cSetO 1 (cLst cNil))
  (cSeq (cSetO 2 (cLst (cCons (cVar 0) cNil)))
  (cSeq (cK [2, 3] (cWhile (cTruV 2) (cK [3] (cSeq (cSetPop 2 3)
  (cSeq (cF [3] (cIf (cTru (cStill (cCall (cCons (cVar 3) cNil)))) (cF [3] (cAppend 1 (cVar 3))) (cF [3] (cIf (cOr (cNot (cTru (cIsi2 .tuple .list (ha := (cVar 3))))) (cTest (cOp pNe (cLenV 3) (cInt 2)))) (cRaise0 .InvalidTerm) (cAugL 2 (cStill (cLst (cCons (cIxV 3 (cInt 1)) (cCons (cIxV 3 (cInt 0)) cNil)))))))))
  (cIf (cTest (cOp pGt (cOp pAdd (cLenV 1) (cLenV 2)) (cInt 200))) (cRaise0 .InvalidTerm) cNext))))))
  (cRetV 1))))
theorem c_check_term (T : Txt K mg A) (W : WX) : CS K W A.adr (t_check_term K A W) r_check_term := by
  unfold t_check_term r_check_term
  exact (cDrop (cStill (cCall (cCons (cVar 0) cNil))))
theorem c_kept (T : Txt K mg A) (W : WX) (d : Nat) : CS K W A.adr (t_kept K A W d) (q_kept (m_kept d)) := by
  unfold t_kept q_kept
  exact (cRet (cIfE (cTru (cIsi .str (ha := (cVar 0)))) (cVar 0) (cTup (cCons (cStill (cCall (cCons (cIxV 0 (cInt 0)) cNil))) (cCons (cStill (cCall (cCons (cIxV 0 (cInt 1)) cNil))) cNil)))))
theorem c_leaf_count (T : Txt K mg A) (W : WX) : CS K W A.adr (t_leaf_count K A W) r_leaf_count := by
  unfold t_leaf_count r_leaf_count
  exact (cRet (cCb fLen (cCons (cStill (cCall (cCons (cVar 0) cNil))) cNil)))
theorem c_names_of (T : Txt K mg A) (W : WX) : CS K W A.adr (t_names_of K A W) r_names_of := by
  unfold t_names_of r_names_of
  exact (cRetO (cSortKS (cCons (cStill (cDc (wISeq (cStill (cCall (cCons (cVar 0) cNil)))) (gin_name (by simp)) (gNm 1) cYes (cVar 1) (cBl true))) cNil)))
theorem c_written (T : Txt K mg A) (W : WX) (d : Nat) : CS K W A.adr (t_written K A W d) (q_written (m_written d)) := by
  unfold t_written q_written
  exact (cRet (cIfE (cTru (cIsi .str (ha := (cVar 0)))) (cVar 0) (cFs (.cons (cStr "(") (.cons (cUn pFmt (cStill (cCall (cCons (cIxV 0 (cInt 0)) cNil)))) (.cons (cStr " ") (.cons (cUn pFmt (cStill (cCall (cCons (cIxV 0 (cInt 1)) cNil)))) (.cons (cStr ")") .nil))))))))
theorem c_term_text (T : Txt K mg A) (W : WX) : CS K W A.adr (t_term_text K A W) r_term_text := by
  unfold t_term_text r_term_text
  exact (cSeq (cDrop (cStill (cCall (cCons (cVar 0) cNil))))
  (cRetO (cCall (cCons (cVar 0) cNil))))
theorem c_replaced (T : Txt K mg A) (W : WX) : CS K W A.adr (t_replaced K A W) r_replaced := by
  unfold t_replaced r_replaced
  exact (cSeq (cDrop (cStill (cCall (cCons (cVar 0) cNil))))
  (cSeq (cK [2] (cFor (wISeq (cStill (cSortKS (cCons (cVar 1) cNil)))) (gNm 2) (cK [2] (cDrop (cStill (cCall (cCons (cDGet 1 (cVar 2)) cNil)))))))
  (cSeq (cSetO 3 (cCall (cCons (cVar 0) (cCons (cVar 1) cNil))))
  (cSeq (cF [3] (cDrop (cStill (cCall (cCons (cVar 3) cNil)))))
  (cRetV 3)))))
theorem c_exchanged (T : Txt K mg A) (W : WX) (d : Nat) : CS K W A.adr (t_exchanged K A W d) (q_exchanged (m_exchanged d)) := by
  unfold t_exchanged q_exchanged
  exact (cSeq (cIf (cTru (cIsi .str (ha := (cVar 0)))) (cRetO (cCall (cCons (cDGet2 1 (cVar 0) (cVar 0)) cNil))) cNext)
  (cRet (cTup (cCons (cStill (cCall (cCons (cIxV 0 (cInt 0)) (cCons (cVar 1) cNil)))) (cCons (cStill (cCall (cCons (cIxV 0 (cInt 1)) (cCons (cVar 1) cNil)))) cNil)))))
theorem c_law_row (T : Txt K mg A) (W : WX) : CS K W A.adr (t_law_row K A W) r_law_row := by
  unfold t_law_row r_law_row
  exact (cSeq (cSetO 2 (cLst cNil))
  (cSeq (cSet 3 (cCb fAbs (cCons (cVar 0) cNil)))
  (cSeq (cF [3] (cSet 4 (cOp pMod (cCb fInt (cCons (cOp pAdd (cOp pMul (cVar 3) (cInt 48271)) (cInt 69621)) cNil)) (cInt 2147483647))))
  (cSeq (cK [3, 4, 5] (cFor (wIRng1 (cCons (cVar 1) cNil)) (gNm 5) (cK [5] (cSeq (cSet 4 (cOp pMod (cCb fInt (cCons (cOp pAdd (cOp pMul (cVar 4) (cInt 16807)) (cOp pMul (cInt 271) (cOp pAdd (cVar 5) (cInt 3)))) cNil)) (cInt 2147483629)))
  (cIf (cTest (cOp pGe (cCb fAbs (cCons (cVar 0) cNil)) (cOp pPow (cInt 10) (cInt 18)))) (cSeq (cF [3] (cAppend 2 (cOp pMod (cCb fInt (cCons (cVar 3) cNil)) (cInt 1009))))
  (cF [3] (cSet 3 (cOp pDiv (cVar 3) (cInt 1009))))) (cAppend 2 (cOp pMod (cCb fInt (cCons (cOp pDiv (cVar 4) (cInt 7)) cNil)) (cInt 1009))))))))
  (cRetV 2)))))
theorem c_law_numbers (T : Txt K mg A) (W : WX) : CS K W A.adr (t_law_numbers K A W) r_law_numbers := by
  unfold t_law_numbers r_law_numbers
  exact (cSeq (cSet 2 (cSl sSlAny (cVar 0) cPN (cPS (cInt 63))))
  (cSeq (cSet 3 (cOp pAdd (cInt 1) (cOp pDiv (cVar 1) (cCb fMax2 (cCons (cInt 1) (cCons (cLenV 2) cNil))))))
  (cSeq (cSetO 4 (cLst cNil))
  (cSeq (cK [5, 6] (cFor (wISeq (cVar 2)) (gNm 5) (cK [5, 6] (cK [6] (cFor (wISeq (cStill (cCall (cCons (cVar 5) (cCons (cVar 3) cNil))))) (gNm 6) (cK [6] (cAppend 4 (cVar 6))))))))
  (cSeq (cWhile (cTest (cOp pLt (cLenV 4) (cVar 1))) (cAppend 4 (cInt 0)))
  (cF [4] (cRet (cSl sSlAny (cVar 4) cPN (cPS (cVar 1))))))))))
theorem c_law_names (T : Txt K mg A) (W : WX) : CS K W A.adr (t_law_names K A W) r_law_names := by
  unfold t_law_names r_law_names
  exact (cSeq (cSet 2 (cStr "abcdefghijklmnopqrstuvwxyz0123456789"))
  (cSeq (cSet 3 (cOp pMod (cCb fInt (cCons (cVar 0) cNil)) (cInt 11)))
  (cSeq (cSet 4 (cM1 pJoin (cStr "") (cStill (cLc (wIRng1 (cCons (cVar 3) cNil)) (gin_name (by simp)) (gNm 7) cYes (cIxV 2 (cOp pMod (cCb fInt (cCons (cOp pAdd (cVar 0) (cOp pMul (cOp pMul (cInt 7) (cVar 7)) (cVar 7))) cNil)) (cInt 36)))))))
  (cSeq (cSet 5 (cOp pMod (cCb fInt (cCons (cOp pDiv (cVar 0) (cInt 11)) cNil)) (cOp pAdd (cVar 3) (cInt 1))))
  (cSeq (cSetO 6 (cLst cNil))
  (cSeq (cK [7, 8, 9, 10, 11] (cFor (wIRng1 (cCons (cVar 1) cNil)) (gNm 7) (cK [7, 8, 9, 10, 11] (cSeq (cF [4] (cSet 8 (cVar 4)))
  (cSeq (cIf (cTest (cOp pEq (cOp pMod (cCb fInt (cCons (cOp pAdd (cOp pDiv (cVar 0) (cInt 121)) (cVar 7)) cNil)) (cInt 3)) (cInt 0))) (cF [4] (cSet 8 (cSl sSlS (cVar 4) (cPS (cInt 1)) cPN))) cNext)
  (cSeq (cSet 9 (cCb fMin2 (cCons (cVar 5) (cCons (cLenV 8) cNil))))
  (cSeq (cSet 10 (cInt 5))
  (cSeq (cIf (cTest (cOp pEq (cOp pMod (cCb fInt (cCons (cOp pDiv (cVar 0) (cInt 363)) cNil)) (cInt 2)) (cInt 1))) (cSet 10 (cInt 31)) cNext)
  (cSeq (cF [9] (cSet 11 (cOp pAdd (cIxV 2 (cOp pMod (cCb fInt (cCons (cOp pAdd (cVar 0) (cOp pMul (cInt 3) (cVar 7))) cNil)) (cInt 26))) (cSl sSlS (cVar 8) cPN (cPS (cVar 9))))))
  (cF [9] (cAppend 6 (cOp pAdd (cOp pAdd (cVar 11) (cIxV 2 (cOp pMod (cCb fInt (cCons (cOp pAdd (cVar 0) (cOp pMul (cVar 10) (cVar 7))) cNil)) (cInt 36)))) (cSl sSlS (cVar 8) (cPS (cVar 9)) cPN)))))))))))))
  (cRetV 6)))))))
theorem c_law_term (T : Txt K mg A) (W : WX) : CS K W A.adr (t_law_term K A W) r_law_term := by
  unfold t_law_term r_law_term
  exact (cSeq (cSetO 4 (cLst cNil))
  (cSeq (cK [5] (cFor (wIRng1 (cCons (cOp pAdd (cInt 1) (cOp pMod (cCb fInt (cCons (cIxV 0 (cVar 1)) cNil)) (cVar 3))) cNil)) (gNm 5) (cK [5] (cAppend 4 (cIxV 2 (cOp pMod (cCb fInt (cCons (cIxV 0 (cOp pAdd (cOp pAdd (cVar 1) (cInt 1)) (cOp pMul (cInt 2) (cVar 5)))) cNil)) (cLenV 2)))))))
  (cSeq (cK [6, 7, 8] (cFor (wIRng1 (cCons (cVar 3) cNil)) (gNm 6) (cK [6, 7, 8] (cK [7, 8] (cIf (cTest (cOp pGt (cLenV 4) (cInt 1))) (cSeq (cSet 7 (cOp pMod (cCb fInt (cCons (cIxV 0 (cOp pAdd (cOp pAdd (cVar 1) (cInt 2)) (cOp pMul (cInt 2) (cVar 6)))) cNil)) (cOp pSub (cLenV 4) (cInt 1))))
  (cSeq (cSetPopAt 4 8 (cCons (cOp pAdd (cVar 7) (cInt 1)) cNil))
  (cSeq (cIf (cAnd (cTest (cOp pEq (cOp pMod (cCb fInt (cCons (cOp pDiv (cIxV 0 (cOp pAdd (cOp pAdd (cVar 1) (cInt 2)) (cOp pMul (cInt 2) (cVar 6)))) (cInt 7)) cNil)) (cInt 4)) (cInt 0))) (cTest (cOp pLt (cCb fLen (cCons (cStill (cCall (cCons (cIxV 4 (cVar 7)) cNil))) cNil)) (cInt 3)))) (cF [8] (cSet 8 (cTup (cCons (cIxV 4 (cVar 7)) (cCons (cVar 8) cNil))))) cNext)
  (cF [8] (cAsgW (wSub (ad := A.adr) 4 (cVar 7)) (cTup (cCons (cIxV 4 (cVar 7)) (cCons (cVar 8) cNil)))))))) cNext)))))
  (cRet (cIxV 4 (cInt 0))))))
theorem c_law_text (T : Txt K mg A) (W : WX) (d : Nat) : CS K W A.adr (t_law_text K A W d) (q_law_text (m_law_text d)) := by
  unfold t_law_text q_law_text
  exact (cSeq (cIf (cTru (cIsi .str (ha := (cVar 0)))) (cRetV 0) cNext)
  (cRet (cOp pAdd (cOp pAdd (cOp pAdd (cOp pAdd (cStr "(") (cStill (cCall (cCons (cIxV 0 (cInt 0)) cNil)))) (cStr " ")) (cStill (cCall (cCons (cIxV 0 (cInt 1)) cNil)))) (cStr ")"))))
theorem c_law_lists (T : Txt K mg A) (W : WX) (d : Nat) : CS K W A.adr (t_law_lists K A W d) (q_law_lists (m_law_lists d)) := by
  unfold t_law_lists q_law_lists
  exact (cSeq (cIf (cTru (cIsi .str (ha := (cVar 0)))) (cRetV 0) cNext)
  (cRetO (cLst (cCons (cStill (cCall (cCons (cIxV 0 (cInt 0)) cNil))) (cCons (cStill (cCall (cCons (cIxV 0 (cInt 1)) cNil))) cNil)))))
theorem c_law_leaves (T : Txt K mg A) (W : WX) (d : Nat) : CS K W A.adr (t_law_leaves K A W d) (q_law_leaves (m_law_leaves d)) := by
  unfold t_law_leaves q_law_leaves
  exact (cSeq (cIf (cTru (cIsi .str (ha := (cVar 0)))) (cRetO (cLst (cCons (cVar 0) cNil))) cNext)
  (cRet (cOp pAdd (cStill (cCall (cCons (cIxV 0 (cInt 0)) cNil))) (cStill (cCall (cCons (cIxV 0 (cInt 1)) cNil))))))
theorem c_law_word (T : Txt K mg A) (W : WX) : CS K W A.adr (t_law_word K A W) r_law_word := by
  unfold t_law_word r_law_word
  exact (cRetO (cCall (cCons (cIxV 0 (cVar 1)) (cCons (cOp pAdd (cInt 1) (cOp pMod (cCb fInt (cCons (cIxV 0 (cOp pAdd (cVar 1) (cInt 1))) cNil)) (cInt 4))) cNil))))
theorem c_law_replaced (T : Txt K mg A) (W : WX) (d : Nat) : CS K W A.adr (t_law_replaced K A W d) (q_law_replaced (m_law_replaced d)) := by
  unfold t_law_replaced q_law_replaced
  exact (cSeq (cIf (cTru (cIsi .str (ha := (cVar 0)))) (cRet (cDGet2 1 (cVar 0) (cVar 0))) cNext)
  (cRet (cTup (cCons (cStill (cCall (cCons (cIxV 0 (cInt 0)) (cCons (cVar 1) cNil)))) (cCons (cStill (cCall (cCons (cIxV 0 (cInt 1)) (cCons (cVar 1) cNil)))) cNil)))))
theorem c_law (T : Txt K mg A) (W : WX) : CS K W A.adr (t_law K A W) r_law := by
  unfold t_law r_law
  exact (cSeq (cSetO 1 (cCall (cCons (cVar 0) (cCons (cInt 80) cNil))))
  (cSeq (cF [1] (cSetO 2 (cCall (cCons (cVar 1) (cCons (cInt 0) cNil)))))
  (cSeq (cF [1, 2] (cSetO 3 (cCall (cCons (cVar 1) (cCons (cInt 2) (cCons (cVar 2) (cCons (cInt 7) cNil)))))))
  (cSeq (cF [3] (cSetO 4 (cCall (cCons (cVar 3) cNil))))
  (cSeq (cF [3] (cSetO 5 (cCall (cCons (cVar 3) cNil))))
  (cSeq (cK [6] (cF [3, 5] (cFor (wISeq (cStill (cLst (cCons (cVar 3) (cCons (cVar 5) cNil))))) (gNm 6) (cK [6] (cSeq (cIf (cOr (cTest (cOp pIsntA (cStill (cCall (cCons (cVar 6) cNil))) cNon)) (cTest (cOp pNe (cCb fRepr (cCons (cStill (cCall (cCons (cVar 6) cNil))) cNil)) (cCb fRepr (cCons (cLenV 4) cNil))))) (cRet (cBl false)) cNext)
  (cF [3, 4] (cIf (cOr (cTest (cOp pNe (cCb fRepr (cCons (cStill (cCall (cCons (cVar 6) cNil))) cNil)) (cCb fRepr (cCons (cStill (cSortSet (cVar 4))) cNil)))) (cTest (cOp pNe (cStill (cCall (cCons (cVar 6) cNil))) (cStill (cCall (cCons (cVar 3) cNil)))))) (cRet (cBl false)) cNext)))))))
  (cSeq (cSetO 7 cNewK)
  (cSeq (cK [8] (cFor (wIRng1 (cCons (cOp pMod (cCb fInt (cCons (cIxV 1 (cInt 40)) cNil)) (cInt 4)) cNil)) (gNm 8) (cK [8] (cF [1, 2] (cDPut 7 (cOp pIx (cOp pAdd (cVar 2) (cStill (cLst (cCons (cStr "zz") cNil)))) (cOp pMod (cCb fInt (cCons (cIxV 1 (cOp pAdd (cInt 41) (cVar 8))) cNil)) (cOp pAdd (cLenV 2) (cInt 1)))) (cStill (cCall (cCons (cVar 1) (cCons (cOp pAdd (cInt 46) (cOp pMul (cInt 8) (cVar 8))) (cCons (cVar 2) (cCons (cInt 3) cNil)))))))))))
  (cSeq (cSetO 9 cNewK)
  (cSeq (cK [10] (cLockF 7 (cFor (wIKeysV 7) (gNm 10) (cK [10] (cDPut 9 (cVar 10) (cDGet 7 (cVar 10)))))))
  (cSeq (cF [3, 5, 7] (cIf (cTest (cOp pNe (cCb fRepr (cCons (cStill (cCall (cCons (cVar 5) (cCons (cVar 7) cNil)))) cNil)) (cCb fRepr (cCons (cStill (cCall (cCons (cVar 3) (cCons (cVar 7) cNil)))) cNil)))) (cRet (cBl false)) cNext))
  (cF [3, 5, 7, 9] (cRet (cAndV (cOp pEq (cVar 5) (cStill (cCall (cCons (cVar 3) cNil)))) (cOp pEqDB (cVar 7) (cVar 9))))))))))))))))
end
end K35

set_option pp.deepTerms false
set_option pp.maxSteps 400
set_option maxRecDepth 100000
set_option maxHeartbeats 4000000
namespace K35
open PySem PySem.Spec L2 DL

theorem room66 {k : Nat} {A : Around} (r : Room k A) : A.units + 66 < cLine := by have := r.un; omega

section
variable {P : Program} {w : World} {K : PySem.W.Frag} {mg : Str → Option Value} {base : Heap} {A : Ad}
theorem ok_is_variable (T : TxtP P w K mg A) : FnOk P w K mg base (L2.CX P w) 1 A.f_is_variable A.d_is_variable ["term"] (sp_is_variable K A) :=
  fn_wsM (ar := 1) (junk := [.no]) (r := r_is_variable) T.F_is_variable sc_is_variable rfl rfl (fun cdv Ao outer s H E hr => ⟨t_is_variable K A (WD E), (pss_cons (ps_if (PW.pt (pw_or (pt_not (pt_truth (pe_callB call_isi (by rfl) T.z_isinstance (by decide +kernel) (pa_cons (pv 0) (pa_cons (pe_bltn (by rfl) T.z_str (by decide +kernel) rfl) pa_nil))) (by intro _; rfl))) (pw_or (pt_not (pt_chain op_le op_le pe_int (pe_callB call_len (by rfl) T.z_len (by decide +kernel) (pa_cons (pv 0) pa_nil)) (pe_globI rfl T.c_MOST_NAME_CHARS))) (pw_or1 (pt_cmpR op_notInC (pe_ix ix_seq (pv 0) pe_int (fun _ _ => rfl)) (pe_globS rfl T.c_FIRST_CHARS) (by first | exact nomark _ | rfl)))))) (pss_one (ps_ret pe_bl)) pss_nil)
    (pss_one (ps_ret (pe_callB (cr_all rfl) (by rfl) T.z_all (by decide +kernel) (pa_cons (pe_lc (own := [("char", 1)]) (g := (gName 1)) rfl sc_is_variable.nd (pi_str (pv 0)) (blkOk_by (own := [("char", 1)]) (N := ["term", "char"]) (sc := defScope s_is_variable) (by decide +kernel)) (fun _ _ _ _ _ => (pg_name (i := 1) sc_is_variable.nd rfl (Or.inl rfl))) (fun _ _ _ _ _ => pts_nil) (fun _ _ _ _ _ => (pe_cmpR op_inC (pv 1) (pe_globS rfl T.c_NAME_CHARS) (by first | exact nomark _ | rfl)))) pa_nil))))), c_is_variable T.toTxt (WD E)⟩)
theorem ok_law_row (T : TxtP P w K mg A) : FnOk P w K mg base (L2.CX P w) 1 A.f_law_row A.d_law_row ["_law_cell", "_law_many"] (sp_law_row K A) :=
  fn_wsM (ar := 2) (junk := [.no, .no, .no, .no]) (r := r_law_row) T.F_law_row sc_law_row rfl rfl (fun cdv Ao outer s H E hr => ⟨t_law_row K A (WD E), (pss_cons (ps_set (i := 2) sc_law_row.nd rfl (Or.inl rfl) (pe_lst pa_nil))
    (pss_cons (ps_set (i := 3) sc_law_row.nd rfl (Or.inl rfl) (pe_callB call_abs (by rfl) T.z_abs (by decide +kernel) (pa_cons (pv 0) pa_nil)))
    (pss_cons (ps_set (i := 4) sc_law_row.nd rfl (Or.inl rfl) (pe_op op_mod (pe_callTy call_int1 (by rfl) T.z_int (by decide +kernel) (pa_cons (pe_op op_addA (pe_op op_mulA (pv 3) pe_int) pe_int) pa_nil)) pe_int))
    (pss_cons (ps_for (passes_of rfl) rfl (pi_range1 (by rfl) T.z_range (pa_cons (pv 1) pa_nil)) (pg_name (i := 5) sc_law_row.nd rfl (Or.inl rfl)) (pss_cons (ps_set (i := 4) sc_law_row.nd rfl (Or.inl rfl) (pe_op op_mod (pe_callTy call_int1 (by rfl) T.z_int (by decide +kernel) (pa_cons (pe_op op_addA (pe_op op_mulA (pv 4) pe_int) (pe_op op_mulA pe_int (pe_op op_addA (pv 5) pe_int))) pa_nil)) pe_int))
    (pss_one (ps_if (pt_cmpR op_ge (pe_callB call_abs (by rfl) T.z_abs (by decide +kernel) (pa_cons (pv 0) pa_nil)) (pe_op op_pow pe_int pe_int) (by first | exact nomark _ | rfl)) (pss_cons (ps_expr (pe_bm PySem.F.plainAttrs_list PySem.F.slot_list_append PySem.F.type_list_append mt_append (pv 2) (pa_cons (pe_op op_mod (pe_callTy call_int1 (by rfl) T.z_int (by decide +kernel) (pa_cons (pv 3) pa_nil)) pe_int) pa_nil)))
    (pss_one (ps_set (i := 3) sc_law_row.nd rfl (Or.inl rfl) (pe_op op_divA (pv 3) pe_int)))) (pss_one (ps_expr (pe_bm PySem.F.plainAttrs_list PySem.F.slot_list_append PySem.F.type_list_append mt_append (pv 2) (pa_cons (pe_op op_mod (pe_callTy call_int1 (by rfl) T.z_int (by decide +kernel) (pa_cons (pe_op op_divA (pv 4) pe_int) pa_nil)) pe_int) pa_nil))))))))
    (pss_one (ps_ret (pv 2))))))), c_law_row T.toTxt (WD E)⟩)
theorem ok_law_names (T : TxtP P w K mg A) : FnOk P w K mg base (L2.CX P w) 1 A.f_law_names A.d_law_names ["_law_number", "_law_many"] (sp_law_names K A) :=
  fn_wsM (ar := 2) (junk := [.no, .no, .no, .no, .no, .no, .no, .no, .no, .no]) (r := r_law_names) T.F_law_names sc_law_names rfl rfl (fun cdv Ao outer s H E hr => ⟨t_law_names K A (WD E), (pss_cons (ps_set (i := 2) sc_law_names.nd rfl (Or.inr rfl) pe_str)
    (pss_cons (ps_set (i := 3) sc_law_names.nd rfl (Or.inl rfl) (pe_op op_mod (pe_callTy call_int1 (by rfl) T.z_int (by decide +kernel) (pa_cons (pv 0) pa_nil)) pe_int))
    (pss_cons (ps_set (i := 4) sc_law_names.nd rfl (Or.inl rfl) (pe_joinD pe_str (pe_lc (own := [("_law_k", 7)]) (g := (gName 7)) rfl sc_law_names.nd (pi_range1 (by rfl) T.z_range (pa_cons (pv 3) pa_nil)) (blkOk_by (own := [("_law_k", 7)]) (N := ["_law_number", "_law_many", "_law_letters", "_law_size", "_law_rest", "_law_place", "_law_names_here", "_law_k", "_law_own", "_law_spot", "_law_step", "_law_first"]) (sc := defScope s_law_names) (by decide +kernel)) (fun _ _ _ _ _ => (pg_name (i := 7) sc_law_names.nd rfl (Or.inl rfl))) (fun _ _ _ _ _ => pts_nil) (fun _ _ _ _ _ => (pe_ix ix_seq (pv 2) (pe_op op_mod (pe_callTy call_int1 (by rfl) T.z_int (by decide +kernel) (pa_cons (pe_op op_addA (pv 0) (pe_op op_mulA (pe_op op_mulA pe_int (pv 7)) (pv 7))) pa_nil)) pe_int) (fun _ _ => rfl))))))
    (pss_cons (ps_set (i := 5) sc_law_names.nd rfl (Or.inl rfl) (pe_op op_mod (pe_callTy call_int1 (by rfl) T.z_int (by decide +kernel) (pa_cons (pe_op op_divA (pv 0) pe_int) pa_nil)) (pe_op op_addA (pv 3) pe_int)))
    (pss_cons (ps_set (i := 6) sc_law_names.nd rfl (Or.inl rfl) (pe_lst pa_nil))
    (pss_cons (ps_for (passes_of rfl) rfl (pi_range1 (by rfl) T.z_range (pa_cons (pv 1) pa_nil)) (pg_name (i := 7) sc_law_names.nd rfl (Or.inl rfl)) (pss_cons (ps_set (i := 8) sc_law_names.nd rfl (Or.inl rfl) (pv 4))
    (pss_cons (ps_if (pt_cmpR (op_eqA hr.units) (pe_op op_mod (pe_callTy call_int1 (by rfl) T.z_int (by decide +kernel) (pa_cons (pe_op op_addA (pe_op op_divA (pv 0) pe_int) (pv 7)) pa_nil)) pe_int) pe_int (by first | exact nomark _ | rfl)) (pss_one (ps_set (i := 8) sc_law_names.nd rfl (Or.inl rfl) (pe_slice sl_str (pv 4) (po_some pe_int) po_none))) pss_nil)
    (pss_cons (ps_set (i := 9) sc_law_names.nd rfl (Or.inl rfl) (pe_callB (call_min2 rfl) (by rfl) T.z_min (by decide +kernel) (pa_cons (pv 5) (pa_cons (pe_callB call_len (by rfl) T.z_len (by decide +kernel) (pa_cons (pv 8) pa_nil)) pa_nil))))
    (pss_cons (ps_set (i := 10) sc_law_names.nd rfl (Or.inl rfl) pe_int)
    (pss_cons (ps_if (pt_cmpR (op_eqA hr.units) (pe_op op_mod (pe_callTy call_int1 (by rfl) T.z_int (by decide +kernel) (pa_cons (pe_op op_divA (pv 0) pe_int) pa_nil)) pe_int) pe_int (by first | exact nomark _ | rfl)) (pss_one (ps_set (i := 10) sc_law_names.nd rfl (Or.inl rfl) pe_int)) pss_nil)
    (pss_cons (ps_set (i := 11) sc_law_names.nd rfl (Or.inl rfl) (pe_op op_addA (pe_ix ix_seq (pv 2) (pe_op op_mod (pe_callTy call_int1 (by rfl) T.z_int (by decide +kernel) (pa_cons (pe_op op_addA (pv 0) (pe_op op_mulA pe_int (pv 7))) pa_nil)) pe_int) (fun _ _ => rfl)) (pe_slice sl_str (pv 8) po_none (po_some (pv 9)))))
    (pss_one (ps_expr (pe_bm PySem.F.plainAttrs_list PySem.F.slot_list_append PySem.F.type_list_append mt_append (pv 6) (pa_cons (pe_op op_addA (pe_op op_addA (pv 11) (pe_ix ix_seq (pv 2) (pe_op op_mod (pe_callTy call_int1 (by rfl) T.z_int (by decide +kernel) (pa_cons (pe_op op_addA (pv 0) (pe_op op_mulA (pv 10) (pv 7))) pa_nil)) pe_int) (fun _ _ => rfl))) (pe_slice sl_str (pv 8) (po_some (pv 9)) po_none)) pa_nil)))))))))))
    (pss_one (ps_ret (pv 6))))))))), c_law_names T.toTxt (WD E)⟩)
theorem ok_leaves (T : TxtP P w K mg A) : FnOk P w K mg base (L2.CX P w) 2 A.f_leaves A.d_leaves ["term"] (sp_leaves K A) :=
  fn_wsM (ar := 1) (junk := [.no, .no, .no]) (r := r_leaves) T.F_leaves sc_leaves rfl rfl (fun cdv Ao outer s H E hr => ⟨t_leaves K A (WD E), (pss_cons (ps_set (i := 1) sc_leaves.nd rfl (Or.inl rfl) (pe_lst pa_nil))
    (pss_cons (ps_set (i := 2) sc_leaves.nd rfl (Or.inl rfl) (pe_lst (pa_cons (pv 0) pa_nil)))
    (pss_cons (ps_while (passes_of rfl) (pt_truth (pv 2) (by intro _; rfl)) (pss_cons (ps_set (i := 3) sc_leaves.nd rfl (Or.inl rfl) (pe_bm0 PySem.F.plainAttrs_list PySem.F.slot_list_pop PySem.F.type_list_pop mt_pop (pv 2)))
    (pss_cons (ps_if (pt_truth (pe_callS (ok_is_variable T) (hr.mono (by decide)) rfl T.g_is_variable T.F_is_variable.kp T.b_is_variable (fun _ => passAt (takes_of rfl rfl rfl rfl) _) (pa_cons (pv 3) pa_nil)) (by intro _; rfl)) (pss_one (ps_expr (pe_bm PySem.F.plainAttrs_list PySem.F.slot_list_append PySem.F.type_list_append mt_append (pv 1) (pa_cons (pv 3) pa_nil)))) (pss_one (ps_if (PW.pt (pw_or (pt_not (pt_truth (pe_callB call_isiT (by rfl) T.z_isinstance (by decide +kernel) (pa_cons (pv 3) (pa_cons (pe_tup (pa_cons (pe_bltn (by rfl) T.z_tuple (by decide +kernel) rfl) (pa_cons (pe_bltn (by rfl) T.z_list (by decide +kernel) rfl) pa_nil))) pa_nil))) (by intro _; rfl))) (pw_or1 (pt_cmpR (op_neA hr.units) (pe_callB call_len (by rfl) T.z_len (by decide +kernel) (pa_cons (pv 3) pa_nil)) pe_int (by first | exact nomark _ | rfl))))) (pss_one (ps_raise rfl (takes_of rfl rfl rfl rfl) (pmk_own PySem.F.excBase_ValueError T.x_InvalidTerm T.gC_InvalidTerm T.k_InvalidTerm (raises_own T.s_InvalidTerm T.t_InvalidTerm) (by exact rfl)))) (pss_one (ps_aug (i := 2) sc_leaves.nd rfl (Or.inl rfl) (pe_lst (pa_cons (pe_ix ix_seq (pv 3) pe_int (fun _ _ => rfl)) (pa_cons (pe_ix ix_seq (pv 3) pe_int (fun _ _ => rfl)) pa_nil))) iop_ext)))))
    (pss_one (ps_if (pt_cmpR op_gt (pe_op op_addA (pe_callB call_len (by rfl) T.z_len (by decide +kernel) (pa_cons (pv 1) pa_nil)) (pe_callB call_len (by rfl) T.z_len (by decide +kernel) (pa_cons (pv 2) pa_nil))) (pe_globI rfl T.c_MOST_LEAVES) (by first | exact nomark _ | rfl)) (pss_one (ps_raise rfl (takes_of rfl rfl rfl rfl) (pmk_own PySem.F.excBase_ValueError T.x_InvalidTerm T.gC_InvalidTerm T.k_InvalidTerm (raises_own T.s_InvalidTerm T.t_InvalidTerm) (by exact rfl)))) pss_nil)))))
    (pss_one (ps_ret (pv 1)))))), c_leaves T.toTxt (WD E)⟩)
theorem ok_law_numbers (T : TxtP P w K mg A) : FnOk P w K mg base (L2.CX P w) 2 A.f_law_numbers A.d_law_numbers ["_law_script", "_law_many"] (sp_law_numbers K A) :=
  fn_wsM (ar := 2) (junk := [.no, .no, .no, .no, .no]) (r := r_law_numbers) T.F_law_numbers sc_law_numbers rfl rfl (fun cdv Ao outer s H E hr => ⟨t_law_numbers K A (WD E), (pss_cons (ps_set (i := 2) sc_law_numbers.nd rfl (Or.inl rfl) (pe_slice sl_any (pv 0) po_none (po_some pe_int)))
    (pss_cons (ps_set (i := 3) sc_law_numbers.nd rfl (Or.inl rfl) (pe_op op_addA pe_int (pe_op op_divA (pv 1) (pe_callB (call_max2 rfl) (by rfl) T.z_max (by decide +kernel) (pa_cons pe_int (pa_cons (pe_callB call_len (by rfl) T.z_len (by decide +kernel) (pa_cons (pv 2) pa_nil)) pa_nil))))))
    (pss_cons (ps_set (i := 4) sc_law_numbers.nd rfl (Or.inl rfl) (pe_lst pa_nil))
    (pss_cons (ps_for (passes_of rfl) rfl (pi_seq (pv 2)) (pg_name (i := 5) sc_law_numbers.nd rfl (Or.inl rfl)) (pss_one (ps_for (passes_of rfl) rfl (pi_seq (pe_callS (ok_law_row T) (hr.mono (by decide)) rfl T.g_law_row T.F_law_row.kp T.b_law_row (fun _ => passAt (takes_of rfl rfl rfl rfl) _) (pa_cons (pv 5) (pa_cons (pv 3) pa_nil)))) (pg_name (i := 6) sc_law_numbers.nd rfl (Or.inl rfl)) (pss_one (ps_expr (pe_bm PySem.F.plainAttrs_list PySem.F.slot_list_append PySem.F.type_list_append mt_append (pv 4) (pa_cons (pv 6) pa_nil)))))))
    (pss_cons (ps_while (passes_of rfl) (pt_cmpR op_lt (pe_callB call_len (by rfl) T.z_len (by decide +kernel) (pa_cons (pv 4) pa_nil)) (pv 1) (by first | exact nomark _ | rfl)) (pss_one (ps_expr (pe_bm PySem.F.plainAttrs_list PySem.F.slot_list_append PySem.F.type_list_append mt_append (pv 4) (pa_cons pe_int pa_nil)))))
    (pss_one (ps_ret (pe_slice sl_any (pv 4) po_none (po_some (pv 1)))))))))), c_law_numbers T.toTxt (WD E)⟩)
theorem ok_law_word (T : TxtP P w K mg A) : FnOk P w K mg base (L2.CX P w) 2 A.f_law_word A.d_law_word ["_law_numbers_here", "_law_at"] (sp_law_word K A) :=
  fn_wsM (ar := 2) (junk := []) (r := r_law_word) T.F_law_word sc_law_word rfl rfl (fun cdv Ao outer s H E hr => ⟨t_law_word K A (WD E), (pss_one (ps_ret (pe_callS (ok_law_names T) (hr.mono (by decide)) rfl T.g_law_names T.F_law_names.kp T.b_law_names (fun _ => passAt (takes_of rfl rfl rfl rfl) _) (pa_cons (pe_ix ix_seq (pv 0) (pv 1) (fun _ _ => rfl)) (pa_cons (pe_op op_addA pe_int (pe_op op_mod (pe_callTy call_int1 (by rfl) T.z_int (by decide +kernel) (pa_cons (pe_ix ix_seq (pv 0) (pe_op op_addA (pv 1) pe_int) (fun _ _ => rfl)) pa_nil)) pe_int)) pa_nil))))), c_law_word T.toTxt (WD E)⟩)
theorem ok_check_term (T : TxtP P w K mg A) : FnOk P w K mg base (L2.CX P w) 3 A.f_check_term A.d_check_term ["term"] (sp_check_term K A) :=
  fn_wsM (ar := 1) (junk := []) (r := r_check_term) T.F_check_term sc_check_term rfl rfl (fun cdv Ao outer s H E hr => ⟨t_check_term K A (WD E), (pss_one (ps_expr (pe_callS (ok_leaves T) (hr.mono (by decide)) rfl T.g_leaves T.F_leaves.kp T.b_leaves (fun _ => passAt (takes_of rfl rfl rfl rfl) _) (pa_cons (pv 0) pa_nil)))), c_check_term T.toTxt (WD E)⟩)
theorem ok_leaf_count (T : TxtP P w K mg A) : FnOk P w K mg base (L2.CX P w) 3 A.f_leaf_count A.d_leaf_count ["term"] (sp_leaf_count K A) :=
  fn_wsM (ar := 1) (junk := []) (r := r_leaf_count) T.F_leaf_count sc_leaf_count rfl rfl (fun cdv Ao outer s H E hr => ⟨t_leaf_count K A (WD E), (pss_one (ps_ret (pe_callB call_len (by rfl) T.z_len (by decide +kernel) (pa_cons (pe_callS (ok_leaves T) (hr.mono (by decide)) rfl T.g_leaves T.F_leaves.kp T.b_leaves (fun _ => passAt (takes_of rfl rfl rfl rfl) _) (pa_cons (pv 0) pa_nil)) pa_nil)))), c_leaf_count T.toTxt (WD E)⟩)
theorem ok_names_of (T : TxtP P w K mg A) : FnOk P w K mg base (L2.CX P w) 3 A.f_names_of A.d_names_of ["term"] (sp_names_of K A) :=
  fn_wsM (ar := 1) (junk := [.no]) (r := r_names_of) T.F_names_of sc_names_of rfl rfl (fun cdv Ao outer s H E hr => ⟨t_names_of K A (WD E), (pss_one (ps_ret (pe_callB (cr_sortKS rfl) (by rfl) T.z_sorted (by decide +kernel) (pa_cons (pe_dc (own := [("name", 1)]) (g := (gName 1)) rfl sc_names_of.nd (pi_seq (pe_callS (ok_leaves T) (hr.mono (by decide)) rfl T.g_leaves T.F_leaves.kp T.b_leaves (fun _ => passAt (takes_of rfl rfl rfl rfl) _) (pa_cons (pv 0) pa_nil))) (blkOk_by (own := [("name", 1)]) (N := ["term", "name"]) (sc := defScope s_names_of) (by decide +kernel)) (fun _ _ _ _ _ => (pg_name (i := 1) sc_names_of.nd rfl (Or.inl rfl))) (fun _ _ _ _ _ => pts_nil) (fun _ _ _ _ _ => (pv 1)) (fun _ _ _ _ _ => pe_bl)) pa_nil)))), c_names_of T.toTxt (WD E)⟩)
theorem ok_kept (T : TxtP P w K mg A) : ∀ d : Nat, FnOk P w K mg base (L2.CX P w) (0 + d) A.f_kept A.d_kept ["term"] (sp_kept K A d)
  | 0 => fn_noD (fun _ h => h rfl)
  | d + 1 => have ih := ok_kept T d; fn_wsM (ar := 1) (junk := []) (r := q_kept (m_kept d)) (k := 0 + d) T.F_kept sc_kept rfl rfl (fun cdv Ao outer s H E hr => ⟨t_kept K A (WD E) d, (pss_one (ps_ret (pe_ifExp (pt_truth (pe_callB call_isi (by rfl) T.z_isinstance (by decide +kernel) (pa_cons (pv 0) (pa_cons (pe_bltn (by rfl) T.z_str (by decide +kernel) rfl) pa_nil))) (by intro _; rfl)) (pv 0) (pe_tup (pa_cons (pe_callS ih hr rfl T.g_kept T.F_kept.kp T.b_kept (fun _ => passAt (takes_of rfl rfl rfl rfl) _) (pa_cons (pe_ix ix_seq (pv 0) pe_int (fun _ _ => rfl)) pa_nil)) (pa_cons (pe_callS ih hr rfl T.g_kept T.F_kept.kp T.b_kept (fun _ => passAt (takes_of rfl rfl rfl rfl) _) (pa_cons (pe_ix ix_seq (pv 0) pe_int (fun _ _ => rfl)) pa_nil)) pa_nil)))))), c_kept T.toTxt (WD E) d⟩)
theorem ok_written (T : TxtP P w K mg A) : ∀ d : Nat, FnOk P w K mg base (L2.CX P w) (0 + d) A.f_written A.d_written ["term"] (sp_written K A d)
  | 0 => fn_noD (fun _ h => h rfl)
  | d + 1 => have ih := ok_written T d; fn_wsM (ar := 1) (junk := []) (r := q_written (m_written d)) (k := 0 + d) T.F_written sc_written rfl rfl (fun cdv Ao outer s H E hr => ⟨t_written K A (WD E) d, (pss_one (ps_ret (pe_ifExp (pt_truth (pe_callB call_isi (by rfl) T.z_isinstance (by decide +kernel) (pa_cons (pv 0) (pa_cons (pe_bltn (by rfl) T.z_str (by decide +kernel) rfl) pa_nil))) (by intro _; rfl)) (pv 0) (pe_fs (.cons pe_str (.cons (pe_fmtD (pe_callS ih hr rfl T.g_written T.F_written.kp T.b_written (fun _ => passAt (takes_of rfl rfl rfl rfl) _) (pa_cons (pe_ix ix_seq (pv 0) pe_int (fun _ _ => rfl)) pa_nil))) (.cons pe_str (.cons (pe_fmtD (pe_callS ih hr rfl T.g_written T.F_written.kp T.b_written (fun _ => passAt (takes_of rfl rfl rfl rfl) _) (pa_cons (pe_ix ix_seq (pv 0) pe_int (fun _ _ => rfl)) pa_nil))) (.cons pe_str .nil))))))))), c_written T.toTxt (WD E) d⟩)
theorem ok_law_text (T : TxtP P w K mg A) : ∀ d : Nat, FnOk P w K mg base (L2.CX P w) (0 + d) A.f_law_text A.d_law_text ["_law_term_here"] (sp_law_text K A d)
  | 0 => fn_noD (fun _ h => h rfl)
  | d + 1 => have ih := ok_law_text T d; fn_wsM (ar := 1) (junk := []) (r := q_law_text (m_law_text d)) (k := 0 + d) T.F_law_text sc_law_text rfl rfl (fun cdv Ao outer s H E hr => ⟨t_law_text K A (WD E) d, (pss_cons (ps_if (pt_truth (pe_callB call_isi (by rfl) T.z_isinstance (by decide +kernel) (pa_cons (pv 0) (pa_cons (pe_bltn (by rfl) T.z_str (by decide +kernel) rfl) pa_nil))) (by intro _; rfl)) (pss_one (ps_ret (pv 0))) pss_nil)
    (pss_one (ps_ret (pe_op op_addA (pe_op op_addA (pe_op op_addA (pe_op op_addA pe_str (pe_callS ih hr rfl T.g_law_text T.F_law_text.kp T.b_law_text (fun _ => passAt (takes_of rfl rfl rfl rfl) _) (pa_cons (pe_ix ix_seq (pv 0) pe_int (fun _ _ => rfl)) pa_nil))) pe_str) (pe_callS ih hr rfl T.g_law_text T.F_law_text.kp T.b_law_text (fun _ => passAt (takes_of rfl rfl rfl rfl) _) (pa_cons (pe_ix ix_seq (pv 0) pe_int (fun _ _ => rfl)) pa_nil))) pe_str)))), c_law_text T.toTxt (WD E) d⟩)
theorem ok_law_lists (T : TxtP P w K mg A) : ∀ d : Nat, FnOk P w K mg base (L2.CX P w) (0 + d) A.f_law_lists A.d_law_lists ["_law_term_here"] (sp_law_lists K A d)
  | 0 => fn_noD (fun _ h => h rfl)
  | d + 1 => have ih := ok_law_lists T d; fn_wsM (ar := 1) (junk := []) (r := q_law_lists (m_law_lists d)) (k := 0 + d) T.F_law_lists sc_law_lists rfl rfl (fun cdv Ao outer s H E hr => ⟨t_law_lists K A (WD E) d, (pss_cons (ps_if (pt_truth (pe_callB call_isi (by rfl) T.z_isinstance (by decide +kernel) (pa_cons (pv 0) (pa_cons (pe_bltn (by rfl) T.z_str (by decide +kernel) rfl) pa_nil))) (by intro _; rfl)) (pss_one (ps_ret (pv 0))) pss_nil)
    (pss_one (ps_ret (pe_lst (pa_cons (pe_callS ih hr rfl T.g_law_lists T.F_law_lists.kp T.b_law_lists (fun _ => passAt (takes_of rfl rfl rfl rfl) _) (pa_cons (pe_ix ix_seq (pv 0) pe_int (fun _ _ => rfl)) pa_nil)) (pa_cons (pe_callS ih hr rfl T.g_law_lists T.F_law_lists.kp T.b_law_lists (fun _ => passAt (takes_of rfl rfl rfl rfl) _) (pa_cons (pe_ix ix_seq (pv 0) pe_int (fun _ _ => rfl)) pa_nil)) pa_nil)))))), c_law_lists T.toTxt (WD E) d⟩)
theorem ok_law_leaves (T : TxtP P w K mg A) : ∀ d : Nat, FnOk P w K mg base (L2.CX P w) (0 + d) A.f_law_leaves A.d_law_leaves ["_law_term_here"] (sp_law_leaves K A d)
  | 0 => fn_noD (fun _ h => h rfl)
  | d + 1 => have ih := ok_law_leaves T d; fn_wsM (ar := 1) (junk := []) (r := q_law_leaves (m_law_leaves d)) (k := 0 + d) T.F_law_leaves sc_law_leaves rfl rfl (fun cdv Ao outer s H E hr => ⟨t_law_leaves K A (WD E) d, (pss_cons (ps_if (pt_truth (pe_callB call_isi (by rfl) T.z_isinstance (by decide +kernel) (pa_cons (pv 0) (pa_cons (pe_bltn (by rfl) T.z_str (by decide +kernel) rfl) pa_nil))) (by intro _; rfl)) (pss_one (ps_ret (pe_lst (pa_cons (pv 0) pa_nil)))) pss_nil)
    (pss_one (ps_ret (pe_op op_addA (pe_callS ih hr rfl T.g_law_leaves T.F_law_leaves.kp T.b_law_leaves (fun _ => passAt (takes_of rfl rfl rfl rfl) _) (pa_cons (pe_ix ix_seq (pv 0) pe_int (fun _ _ => rfl)) pa_nil)) (pe_callS ih hr rfl T.g_law_leaves T.F_law_leaves.kp T.b_law_leaves (fun _ => passAt (takes_of rfl rfl rfl rfl) _) (pa_cons (pe_ix ix_seq (pv 0) pe_int (fun _ _ => rfl)) pa_nil)))))), c_law_leaves T.toTxt (WD E) d⟩)
theorem ok_law_replaced (T : TxtP P w K mg A) : ∀ d : Nat, FnOk P w K mg base (L2.CX P w) (0 + d) A.f_law_replaced A.d_law_replaced ["_law_term_here", "_law_table"] (sp_law_replaced K A d)
  | 0 => fn_noD (fun _ h => h rfl)
  | d + 1 => have ih := ok_law_replaced T d; fn_wsM (ar := 2) (junk := []) (r := q_law_replaced (m_law_replaced d)) (k := 0 + d) T.F_law_replaced sc_law_replaced rfl rfl (fun cdv Ao outer s H E hr => ⟨t_law_replaced K A (WD E) d, (pss_cons (ps_if (pt_truth (pe_callB call_isi (by rfl) T.z_isinstance (by decide +kernel) (pa_cons (pv 0) (pa_cons (pe_bltn (by rfl) T.z_str (by decide +kernel) rfl) pa_nil))) (by intro _; rfl)) (pss_one (ps_ret (pe_dget2 (hu_of hr) (pv 1) (pv 0) (pv 0) ⟨rfl, rfl, rfl, rfl⟩))) pss_nil)
    (pss_one (ps_ret (pe_tup (pa_cons (pe_callS ih hr rfl T.g_law_replaced T.F_law_replaced.kp T.b_law_replaced (fun _ => passAt (takes_of rfl rfl rfl rfl) _) (pa_cons (pe_ix ix_seq (pv 0) pe_int (fun _ _ => rfl)) (pa_cons (pv 1) pa_nil))) (pa_cons (pe_callS ih hr rfl T.g_law_replaced T.F_law_replaced.kp T.b_law_replaced (fun _ => passAt (takes_of rfl rfl rfl rfl) _) (pa_cons (pe_ix ix_seq (pv 0) pe_int (fun _ _ => rfl)) (pa_cons (pv 1) pa_nil))) pa_nil)))))), c_law_replaced T.toTxt (WD E) d⟩)
theorem ok_term_text (T : TxtP P w K mg A) : FnOk P w K mg base (L2.CX P w) 19 A.f_term_text A.d_term_text ["term"] (sp_term_text K A) :=
  fn_wsM (ar := 1) (junk := []) (r := r_term_text) T.F_term_text sc_term_text rfl rfl (fun cdv Ao outer s H E hr => ⟨t_term_text K A (WD E), (pss_cons (ps_expr (pe_callS (ok_check_term T) (hr.mono (by decide)) rfl T.g_check_term T.F_check_term.kp T.b_check_term (fun _ => passAt (takes_of rfl rfl rfl rfl) _) (pa_cons (pv 0) pa_nil)))
    (pss_one (ps_ret (pe_callS (ok_written T 18) (hr.mono (by decide)) rfl T.g_written T.F_written.kp T.b_written (fun _ => passAt (takes_of rfl rfl rfl rfl) _) (pa_cons (pv 0) pa_nil))))), c_term_text T.toTxt (WD E)⟩)
theorem ok_law_term (T : TxtP P w K mg A) : FnOk P w K mg base (L2.CX P w) 19 A.f_law_term A.d_law_term ["_law_numbers_here", "_law_at", "_law_names_here", "_law_most"] (sp_law_term K A) :=
  fn_wsM (ar := 4) (junk := [.no, .no, .no, .no, .no]) (r := r_law_term) T.F_law_term sc_law_term rfl rfl (fun cdv Ao outer s H E hr => ⟨t_law_term K A (WD E), (pss_cons (ps_set (i := 4) sc_law_term.nd rfl (Or.inl rfl) (pe_lst pa_nil))
    (pss_cons (ps_for (passes_of rfl) rfl (pi_range1 (by rfl) T.z_range (pa_cons (pe_op op_addA pe_int (pe_op op_mod (pe_callTy call_int1 (by rfl) T.z_int (by decide +kernel) (pa_cons (pe_ix ix_seq (pv 0) (pv 1) (fun _ _ => rfl)) pa_nil)) (pv 3))) pa_nil)) (pg_name (i := 5) sc_law_term.nd rfl (Or.inl rfl)) (pss_one (ps_expr (pe_bm PySem.F.plainAttrs_list PySem.F.slot_list_append PySem.F.type_list_append mt_append (pv 4) (pa_cons (pe_ix ix_seq (pv 2) (pe_op op_mod (pe_callTy call_int1 (by rfl) T.z_int (by decide +kernel) (pa_cons (pe_ix ix_seq (pv 0) (pe_op op_addA (pe_op op_addA (pv 1) pe_int) (pe_op op_mulA pe_int (pv 5))) (fun _ _ => rfl)) pa_nil)) (pe_callB call_len (by rfl) T.z_len (by decide +kernel) (pa_cons (pv 2) pa_nil))) (fun _ _ => rfl)) pa_nil)))))
    (pss_cons (ps_for (passes_of rfl) rfl (pi_range1 (by rfl) T.z_range (pa_cons (pv 3) pa_nil)) (pg_name (i := 6) sc_law_term.nd rfl (Or.inl rfl)) (pss_one (ps_if (pt_cmpR op_gt (pe_callB call_len (by rfl) T.z_len (by decide +kernel) (pa_cons (pv 4) pa_nil)) pe_int (by first | exact nomark _ | rfl)) (pss_cons (ps_set (i := 7) sc_law_term.nd rfl (Or.inl rfl) (pe_op op_mod (pe_callTy call_int1 (by rfl) T.z_int (by decide +kernel) (pa_cons (pe_ix ix_seq (pv 0) (pe_op op_addA (pe_op op_addA (pv 1) pe_int) (pe_op op_mulA pe_int (pv 6))) (fun _ _ => rfl)) pa_nil)) (pe_op op_sub (pe_callB call_len (by rfl) T.z_len (by decide +kernel) (pa_cons (pv 4) pa_nil)) pe_int)))
    (pss_cons (ps_set (i := 8) sc_law_term.nd rfl (Or.inl rfl) (pe_bm PySem.F.plainAttrs_list PySem.F.slot_list_pop PySem.F.type_list_pop mt_popAt (pv 4) (pa_cons (pe_op op_addA (pv 7) pe_int) pa_nil)))
    (pss_cons (ps_if (PW.pt (pw_and (pt_cmpR (op_eqA hr.units) (pe_op op_mod (pe_callTy call_int1 (by rfl) T.z_int (by decide +kernel) (pa_cons (pe_op op_divA (pe_ix ix_seq (pv 0) (pe_op op_addA (pe_op op_addA (pv 1) pe_int) (pe_op op_mulA pe_int (pv 6))) (fun _ _ => rfl)) pe_int) pa_nil)) pe_int) pe_int (by first | exact nomark _ | rfl)) (pw_and1 (pt_cmpR op_lt (pe_callB call_len (by rfl) T.z_len (by decide +kernel) (pa_cons (pe_callS (ok_law_leaves T 18) (hr.mono (by decide)) rfl T.g_law_leaves T.F_law_leaves.kp T.b_law_leaves (fun _ => passAt (takes_of rfl rfl rfl rfl) _) (pa_cons (pe_ix ix_seq (pv 4) (pv 7) (fun _ _ => rfl)) pa_nil)) pa_nil)) pe_int (by first | exact nomark _ | rfl))))) (pss_one (ps_set (i := 8) sc_law_term.nd rfl (Or.inl rfl) (pe_tup (pa_cons (pe_ix ix_seq (pv 4) (pv 7) (fun _ _ => rfl)) (pa_cons (pv 8) pa_nil))))) pss_nil)
    (pss_one (ps_asg (pe_tup (pa_cons (pe_ix ix_seq (pv 4) (pv 7) (fun _ _ => rfl)) (pa_cons (pv 8) pa_nil))) (pg_sub (pv 4) (pv 7) set_list)))))) pss_nil)))
    (pss_one (ps_ret (pe_ix ix_seq (pv 4) pe_int (fun _ _ => rfl))))))), c_law_term T.toTxt (WD E)⟩)
theorem ok_exchanged (T : TxtP P w K mg A) : ∀ d : Nat, FnOk P w K mg base (L2.CX P w) (18 + d) A.f_exchanged A.d_exchanged ["term", "table"] (sp_exchanged K A d)
  | 0 => fn_noD (fun _ h => h rfl)
  | d + 1 => have ih := ok_exchanged T d; fn_wsM (ar := 2) (junk := []) (r := q_exchanged (m_exchanged d)) (k := 18 + d) T.F_exchanged sc_exchanged rfl rfl (fun cdv Ao outer s H E hr => ⟨t_exchanged K A (WD E) d, (pss_cons (ps_if (pt_truth (pe_callB call_isi (by rfl) T.z_isinstance (by decide +kernel) (pa_cons (pv 0) (pa_cons (pe_bltn (by rfl) T.z_str (by decide +kernel) rfl) pa_nil))) (by intro _; rfl)) (pss_one (ps_ret (pe_callS (ok_kept T 18) (hr.mono (by omega)) rfl T.g_kept T.F_kept.kp T.b_kept (fun _ => passAt (takes_of rfl rfl rfl rfl) _) (pa_cons (pe_dget2 (hu_of hr) (pv 1) (pv 0) (pv 0) ⟨rfl, rfl, rfl, rfl⟩) pa_nil)))) pss_nil)
    (pss_one (ps_ret (pe_tup (pa_cons (pe_callS ih hr rfl T.g_exchanged T.F_exchanged.kp T.b_exchanged (fun _ => passAt (takes_of rfl rfl rfl rfl) _) (pa_cons (pe_ix ix_seq (pv 0) pe_int (fun _ _ => rfl)) (pa_cons (pv 1) pa_nil))) (pa_cons (pe_callS ih hr rfl T.g_exchanged T.F_exchanged.kp T.b_exchanged (fun _ => passAt (takes_of rfl rfl rfl rfl) _) (pa_cons (pe_ix ix_seq (pv 0) pe_int (fun _ _ => rfl)) (pa_cons (pv 1) pa_nil))) pa_nil)))))), c_exchanged T.toTxt (WD E) d⟩)
theorem ok_replaced (T : TxtP P w K mg A) : FnOk P w K mg base (L2.CX P w) 37 A.f_replaced A.d_replaced ["term", "table"] (sp_replaced K A) :=
  fn_wsM (ar := 2) (junk := [.no, .no]) (r := r_replaced) T.F_replaced sc_replaced rfl rfl (fun cdv Ao outer s H E hr => ⟨t_replaced K A (WD E), (pss_cons (ps_expr (pe_callS (ok_check_term T) (hr.mono (by decide)) rfl T.g_check_term T.F_check_term.kp T.b_check_term (fun _ => passAt (takes_of rfl rfl rfl rfl) _) (pa_cons (pv 0) pa_nil)))
    (pss_cons (ps_for (passes_of rfl) rfl (pi_seq (pe_callB (cr_sortKS rfl) (by rfl) T.z_sorted (by decide +kernel) (pa_cons (pv 1) pa_nil))) (pg_name (i := 2) sc_replaced.nd rfl (Or.inl rfl)) (pss_one (ps_expr (pe_callS (ok_check_term T) (hr.mono (by decide)) rfl T.g_check_term T.F_check_term.kp T.b_check_term (fun _ => passAt (takes_of rfl rfl rfl rfl) _) (pa_cons (pe_dget (hu_of hr) (pv 1) (pv 2) (fun _ _ => rfl)) pa_nil)))))
    (pss_cons (ps_set (i := 3) sc_replaced.nd rfl (Or.inl rfl) (pe_callS (ok_exchanged T 18) (hr.mono (by decide)) rfl T.g_exchanged T.F_exchanged.kp T.b_exchanged (fun _ => passAt (takes_of rfl rfl rfl rfl) _) (pa_cons (pv 0) (pa_cons (pv 1) pa_nil))))
    (pss_cons (ps_expr (pe_callS (ok_check_term T) (hr.mono (by decide)) rfl T.g_check_term T.F_check_term.kp T.b_check_term (fun _ => passAt (takes_of rfl rfl rfl rfl) _) (pa_cons (pv 3) pa_nil)))
    (pss_one (ps_ret (pv 3))))))), c_replaced T.toTxt (WD E)⟩)
theorem ok_law (T : TxtP P w K mg A) : TopRun P w K mg base (L2.CX P w) A.f_law A.d_law "_law_script" (spD K (fun ds => ∃ ns : List Int, ds = [.src ns] ∧ ns.length ≤ 63) (fun _ s => s = .dat (.bl true)) (fun _ _ => False)) :=
  top_wsLaw (k := 38 - 1) (junk := [.no, .no, .no, .no, .no, .no, .no, .no, .no, .no]) (r := r_law) T.F_law sc_law ⟨rfl, by decide, by decide⟩ rfl law_ok (fun cdv s H E hr hg => ⟨t_law K A (WD E), (pss_cons (ps_set (i := 1) sc_law.nd rfl (Or.inl rfl) (pe_callS (ok_law_numbers T) (hr.mono (by decide)) rfl T.g_law_numbers T.F_law_numbers.kp T.b_law_numbers (fun _ => passAt (takes_of rfl rfl rfl rfl) _) (pa_cons (pv 0) (pa_cons pe_int pa_nil))))
    (pss_cons (ps_set (i := 2) sc_law.nd rfl (Or.inl rfl) (pe_callS (ok_law_word T) (hr.mono (by decide)) rfl T.g_law_word T.F_law_word.kp T.b_law_word (fun _ => passAt (takes_of rfl rfl rfl rfl) _) (pa_cons (pv 1) (pa_cons pe_int pa_nil))))
    (pss_cons (ps_set (i := 3) sc_law.nd rfl (Or.inl rfl) (pe_callS (ok_law_term T) (hr.mono (by decide)) rfl T.g_law_term T.F_law_term.kp T.b_law_term (fun _ => passAt (takes_of rfl rfl rfl rfl) _) (pa_cons (pv 1) (pa_cons pe_int (pa_cons (pv 2) (pa_cons pe_int pa_nil))))))
    (pss_cons (ps_set (i := 4) sc_law.nd rfl (Or.inl rfl) (pe_callS (ok_law_leaves T 18) (hr.mono (by decide)) rfl T.g_law_leaves T.F_law_leaves.kp T.b_law_leaves (fun _ => passAt (takes_of rfl rfl rfl rfl) _) (pa_cons (pv 3) pa_nil)))
    (pss_cons (ps_set (i := 5) sc_law.nd rfl (Or.inl rfl) (pe_callS (ok_law_lists T 18) (hr.mono (by decide)) rfl T.g_law_lists T.F_law_lists.kp T.b_law_lists (fun _ => passAt (takes_of rfl rfl rfl rfl) _) (pa_cons (pv 3) pa_nil)))
    (pss_cons (ps_for (passes_of rfl) rfl (pi_seq (pe_lst (pa_cons (pv 3) (pa_cons (pv 5) pa_nil)))) (pg_name (i := 6) sc_law.nd rfl (Or.inl rfl)) (pss_cons (ps_if (PW.pt (pw_or (pt_cmpR op_isntA (pe_callS (ok_check_term T) (hr.mono (by decide)) rfl T.g_check_term T.F_check_term.kp T.b_check_term (fun _ => passAt (takes_of rfl rfl rfl rfl) _) (pa_cons (pv 6) pa_nil)) pe_non (by first | exact nomark _ | rfl)) (pw_or1 (pt_cmpR (op_neA hr.units) (pe_callB (cr_reprD hg (room66 hr)) (by rfl) T.z_repr (by decide +kernel) (pa_cons (pe_callS (ok_leaf_count T) (hr.mono (by decide)) rfl T.g_leaf_count T.F_leaf_count.kp T.b_leaf_count (fun _ => passAt (takes_of rfl rfl rfl rfl) _) (pa_cons (pv 6) pa_nil)) pa_nil)) (pe_callB (cr_reprD hg (room66 hr)) (by rfl) T.z_repr (by decide +kernel) (pa_cons (pe_callB call_len (by rfl) T.z_len (by decide +kernel) (pa_cons (pv 4) pa_nil)) pa_nil)) (by first | exact nomark _ | rfl))))) (pss_one (ps_ret pe_bl)) pss_nil)
    (pss_one (ps_if (PW.pt (pw_or (pt_cmpR (op_neA hr.units) (pe_callB (cr_reprD hg (room66 hr)) (by rfl) T.z_repr (by decide +kernel) (pa_cons (pe_callS (ok_names_of T) (hr.mono (by decide)) rfl T.g_names_of T.F_names_of.kp T.b_names_of (fun _ => passAt (takes_of rfl rfl rfl rfl) _) (pa_cons (pv 6) pa_nil)) pa_nil)) (pe_callB (cr_reprD hg (room66 hr)) (by rfl) T.z_repr (by decide +kernel) (pa_cons (pe_sortSet rfl (by rfl) T.z_sorted (by rfl) T.z_set (pv 4)) pa_nil)) (by first | exact nomark _ | rfl)) (pw_or1 (pt_cmpR (op_neA hr.units) (pe_callS (ok_term_text T) (hr.mono (by decide)) rfl T.g_term_text T.F_term_text.kp T.b_term_text (fun _ => passAt (takes_of rfl rfl rfl rfl) _) (pa_cons (pv 6) pa_nil)) (pe_callS (ok_law_text T 18) (hr.mono (by decide)) rfl T.g_law_text T.F_law_text.kp T.b_law_text (fun _ => passAt (takes_of rfl rfl rfl rfl) _) (pa_cons (pv 3) pa_nil)) (by first | exact nomark _ | rfl))))) (pss_one (ps_ret pe_bl)) pss_nil))))
    (pss_cons (ps_set (i := 7) sc_law.nd rfl (Or.inl rfl) pe_dnewK)
    (pss_cons (ps_for (passes_of rfl) rfl (pi_range1 (by rfl) T.z_range (pa_cons (pe_op op_mod (pe_callTy call_int1 (by rfl) T.z_int (by decide +kernel) (pa_cons (pe_ix ix_seq (pv 1) pe_int (fun _ _ => rfl)) pa_nil)) pe_int) pa_nil)) (pg_name (i := 8) sc_law.nd rfl (Or.inl rfl)) (pss_one (ps_dput (hu_of hr) (pv 7) (pe_ix ix_seq (pe_op op_addA (pv 2) (pe_lst (pa_cons pe_str pa_nil))) (pe_op op_mod (pe_callTy call_int1 (by rfl) T.z_int (by decide +kernel) (pa_cons (pe_ix ix_seq (pv 1) (pe_op op_addA pe_int (pv 8)) (fun _ _ => rfl)) pa_nil)) (pe_op op_addA (pe_callB call_len (by rfl) T.z_len (by decide +kernel) (pa_cons (pv 2) pa_nil)) pe_int)) (fun _ _ => rfl)) (pe_callS (ok_law_term T) (hr.mono (by decide)) rfl T.g_law_term T.F_law_term.kp T.b_law_term (fun _ => passAt (takes_of rfl rfl rfl rfl) _) (pa_cons (pv 1) (pa_cons (pe_op op_addA pe_int (pe_op op_mulA pe_int (pv 8))) (pa_cons (pv 2) (pa_cons pe_int pa_nil))))) rfl)))
    (pss_cons (ps_set (i := 9) sc_law.nd rfl (Or.inl rfl) pe_dnewK)
    (pss_cons (ps_lockF (ps_for (passes_of rfl) rfl (pi_keys (pv 7)) (pg_name (i := 10) sc_law.nd rfl (Or.inl rfl)) (pss_one (ps_dput (hu_of hr) (pv 9) (pv 10) (pe_dget (hu_of hr) (pv 7) (pv 10) (fun _ _ => rfl)) rfl))))
    (pss_cons (ps_if (pt_cmpR (op_neA hr.units) (pe_callB (cr_reprD hg (room66 hr)) (by rfl) T.z_repr (by decide +kernel) (pa_cons (pe_callS (ok_replaced T) (hr.mono (by decide)) rfl T.g_replaced T.F_replaced.kp T.b_replaced (fun _ => passAt (takes_of rfl rfl rfl rfl) _) (pa_cons (pv 5) (pa_cons (pv 7) pa_nil))) pa_nil)) (pe_callB (cr_reprD hg (room66 hr)) (by rfl) T.z_repr (by decide +kernel) (pa_cons (pe_callS (ok_law_replaced T 18) (hr.mono (by decide)) rfl T.g_law_replaced T.F_law_replaced.kp T.b_law_replaced (fun _ => passAt (takes_of rfl rfl rfl rfl) _) (pa_cons (pv 3) (pa_cons (pv 7) pa_nil))) pa_nil)) (by first | exact nomark _ | rfl)) (pss_one (ps_ret pe_bl)) pss_nil)
    (pss_one (ps_ret (pe_and (pe_cmpR (op_eqA hr.units) (pv 5) (pe_callS (ok_law_lists T 18) (hr.mono (by decide)) rfl T.g_law_lists T.F_law_lists.kp T.b_law_lists (fun _ => passAt (takes_of rfl rfl rfl rfl) _) (pa_cons (pv 3) pa_nil)) (by first | exact nomark _ | rfl)) (pe_one (pe_cmpR (op_eq_dictS (room66 hr)) (pv 7) (pv 9) (by first | exact nomark _ | rfl))))))))))))))))), c_law T.toTxt (WD E)⟩)
end
theorem all_mk {l : PySem.W.OpenLaw} {w : World} {K : PySem.W.Frag} {h : Heap} {mg : Str → Option Value} {fa : Addr} (X : K.In h) (G : h.Ns mainGlobals mg) (hfa : mg "law" = some (.ref fa))
    {f1 : Addr} {od1 an1 : Option Addr} {sl1 : Array (Option Value)} {oc1 kV1 dc1 pm1 cd1 ct1 : Value}
    {f2 : Addr} {od2 an2 : Option Addr} {sl2 : Array (Option Value)} {oc2 kV2 dc2 pm2 cd2 ct2 : Value}
    {f3 : Addr} {od3 an3 : Option Addr} {sl3 : Array (Option Value)} {oc3 kV3 dc3 pm3 cd3 ct3 : Value}
    {f4 : Addr} {od4 an4 : Option Addr} {sl4 : Array (Option Value)} {oc4 kV4 dc4 pm4 cd4 ct4 : Value}
    {f5 : Addr} {od5 an5 : Option Addr} {sl5 : Array (Option Value)} {oc5 kV5 dc5 pm5 cd5 ct5 : Value}
    {f6 : Addr} {od6 an6 : Option Addr} {sl6 : Array (Option Value)} {oc6 kV6 dc6 pm6 cd6 ct6 : Value}
    {f7 : Addr} {od7 an7 : Option Addr} {sl7 : Array (Option Value)} {oc7 kV7 dc7 pm7 cd7 ct7 : Value}
    {f8 : Addr} {od8 an8 : Option Addr} {sl8 : Array (Option Value)} {oc8 kV8 dc8 pm8 cd8 ct8 : Value}
    {f9 : Addr} {od9 an9 : Option Addr} {sl9 : Array (Option Value)} {oc9 kV9 dc9 pm9 cd9 ct9 : Value}
    {f10 : Addr} {od10 an10 : Option Addr} {sl10 : Array (Option Value)} {oc10 kV10 dc10 pm10 cd10 ct10 : Value}
    {f11 : Addr} {od11 an11 : Option Addr} {sl11 : Array (Option Value)} {oc11 kV11 dc11 pm11 cd11 ct11 : Value}
    {f12 : Addr} {od12 an12 : Option Addr} {sl12 : Array (Option Value)} {oc12 kV12 dc12 pm12 cd12 ct12 : Value}
    {f13 : Addr} {od13 an13 : Option Addr} {sl13 : Array (Option Value)} {oc13 kV13 dc13 pm13 cd13 ct13 : Value}
    {f14 : Addr} {od14 an14 : Option Addr} {sl14 : Array (Option Value)} {oc14 kV14 dc14 pm14 cd14 ct14 : Value}
    {f15 : Addr} {od15 an15 : Option Addr} {sl15 : Array (Option Value)} {oc15 kV15 dc15 pm15 cd15 ct15 : Value}
    {f16 : Addr} {od16 an16 : Option Addr} {sl16 : Array (Option Value)} {oc16 kV16 dc16 pm16 cd16 ct16 : Value}
    {f17 : Addr} {od17 an17 : Option Addr} {sl17 : Array (Option Value)} {oc17 kV17 dc17 pm17 cd17 ct17 : Value}
    {f18 : Addr} {od18 an18 : Option Addr} {sl18 : Array (Option Value)} {oc18 kV18 dc18 pm18 cd18 ct18 : Value}
    {f19 : Addr} {od19 an19 : Option Addr} {sl19 : Array (Option Value)} {oc19 kV19 dc19 pm19 cd19 ct19 : Value}
    {f20 : Addr} {od20 an20 : Option Addr} {sl20 : Array (Option Value)} {oc20 kV20 dc20 pm20 cd20 ct20 : Value}
    {tk_FIRST_CHARS : Tok}
    {tk_MOST_LEAVES : Tok}
    {tk_MOST_NAME_CHARS : Tok}
    {tk_NAME_CHARS : Tok}
    {C_InvalidTerm : Addr}
    (a1 : PySem.W.nsIn K mainGlobals "is_variable" = some (some (.ref f1)))
    (l1 : K.lookup f1 = some ⟨oc1, od1, .func (PySem.W.fnOf "is_variable" "is_variable" (defArgs s_is_variable) (defBody s_is_variable) (defScope s_is_variable) .none kV1 dc1 pm1 an1 cd1 ct1), sl1⟩)
    (c1 : PySem.W.codeIn K cd1 "is_variable" = true)
    (k1 : PySem.W.keepIn K (.ref f1) = true)
    (a2 : PySem.W.nsIn K mainGlobals "leaves" = some (some (.ref f2)))
    (l2 : K.lookup f2 = some ⟨oc2, od2, .func (PySem.W.fnOf "leaves" "leaves" (defArgs s_leaves) (defBody s_leaves) (defScope s_leaves) .none kV2 dc2 pm2 an2 cd2 ct2), sl2⟩)
    (c2 : PySem.W.codeIn K cd2 "leaves" = true)
    (k2 : PySem.W.keepIn K (.ref f2) = true)
    (a3 : PySem.W.nsIn K mainGlobals "check_term" = some (some (.ref f3)))
    (l3 : K.lookup f3 = some ⟨oc3, od3, .func (PySem.W.fnOf "check_term" "check_term" (defArgs s_check_term) (defBody s_check_term) (defScope s_check_term) .none kV3 dc3 pm3 an3 cd3 ct3), sl3⟩)
    (c3 : PySem.W.codeIn K cd3 "check_term" = true)
    (k3 : PySem.W.keepIn K (.ref f3) = true)
    (a4 : PySem.W.nsIn K mainGlobals "kept" = some (some (.ref f4)))
    (l4 : K.lookup f4 = some ⟨oc4, od4, .func (PySem.W.fnOf "kept" "kept" (defArgs s_kept) (defBody s_kept) (defScope s_kept) .none kV4 dc4 pm4 an4 cd4 ct4), sl4⟩)
    (c4 : PySem.W.codeIn K cd4 "kept" = true)
    (k4 : PySem.W.keepIn K (.ref f4) = true)
    (a5 : PySem.W.nsIn K mainGlobals "leaf_count" = some (some (.ref f5)))
    (l5 : K.lookup f5 = some ⟨oc5, od5, .func (PySem.W.fnOf "leaf_count" "leaf_count" (defArgs s_leaf_count) (defBody s_leaf_count) (defScope s_leaf_count) .none kV5 dc5 pm5 an5 cd5 ct5), sl5⟩)
    (c5 : PySem.W.codeIn K cd5 "leaf_count" = true)
    (k5 : PySem.W.keepIn K (.ref f5) = true)
    (a6 : PySem.W.nsIn K mainGlobals "names_of" = some (some (.ref f6)))
    (l6 : K.lookup f6 = some ⟨oc6, od6, .func (PySem.W.fnOf "names_of" "names_of" (defArgs s_names_of) (defBody s_names_of) (defScope s_names_of) .none kV6 dc6 pm6 an6 cd6 ct6), sl6⟩)
    (c6 : PySem.W.codeIn K cd6 "names_of" = true)
    (k6 : PySem.W.keepIn K (.ref f6) = true)
    (a7 : PySem.W.nsIn K mainGlobals "written" = some (some (.ref f7)))
    (l7 : K.lookup f7 = some ⟨oc7, od7, .func (PySem.W.fnOf "written" "written" (defArgs s_written) (defBody s_written) (defScope s_written) .none kV7 dc7 pm7 an7 cd7 ct7), sl7⟩)
    (c7 : PySem.W.codeIn K cd7 "written" = true)
    (k7 : PySem.W.keepIn K (.ref f7) = true)
    (a8 : PySem.W.nsIn K mainGlobals "term_text" = some (some (.ref f8)))
    (l8 : K.lookup f8 = some ⟨oc8, od8, .func (PySem.W.fnOf "term_text" "term_text" (defArgs s_term_text) (defBody s_term_text) (defScope s_term_text) .none kV8 dc8 pm8 an8 cd8 ct8), sl8⟩)
    (c8 : PySem.W.codeIn K cd8 "term_text" = true)
    (k8 : PySem.W.keepIn K (.ref f8) = true)
    (a9 : PySem.W.nsIn K mainGlobals "replaced" = some (some (.ref f9)))
    (l9 : K.lookup f9 = some ⟨oc9, od9, .func (PySem.W.fnOf "replaced" "replaced" (defArgs s_replaced) (defBody s_replaced) (defScope s_replaced) .none kV9 dc9 pm9 an9 cd9 ct9), sl9⟩)
    (c9 : PySem.W.codeIn K cd9 "replaced" = true)
    (k9 : PySem.W.keepIn K (.ref f9) = true)
    (a10 : PySem.W.nsIn K mainGlobals "exchanged" = some (some (.ref f10)))
    (l10 : K.lookup f10 = some ⟨oc10, od10, .func (PySem.W.fnOf "exchanged" "exchanged" (defArgs s_exchanged) (defBody s_exchanged) (defScope s_exchanged) .none kV10 dc10 pm10 an10 cd10 ct10), sl10⟩)
    (c10 : PySem.W.codeIn K cd10 "exchanged" = true)
    (k10 : PySem.W.keepIn K (.ref f10) = true)
    (a11 : PySem.W.nsIn K mainGlobals "_law_row" = some (some (.ref f11)))
    (l11 : K.lookup f11 = some ⟨oc11, od11, .func (PySem.W.fnOf "_law_row" "_law_row" (defArgs s_law_row) (defBody s_law_row) (defScope s_law_row) .none kV11 dc11 pm11 an11 cd11 ct11), sl11⟩)
    (c11 : PySem.W.codeIn K cd11 "_law_row" = true)
    (k11 : PySem.W.keepIn K (.ref f11) = true)
    (a12 : PySem.W.nsIn K mainGlobals "_law_numbers" = some (some (.ref f12)))
    (l12 : K.lookup f12 = some ⟨oc12, od12, .func (PySem.W.fnOf "_law_numbers" "_law_numbers" (defArgs s_law_numbers) (defBody s_law_numbers) (defScope s_law_numbers) .none kV12 dc12 pm12 an12 cd12 ct12), sl12⟩)
    (c12 : PySem.W.codeIn K cd12 "_law_numbers" = true)
    (k12 : PySem.W.keepIn K (.ref f12) = true)
    (a13 : PySem.W.nsIn K mainGlobals "_law_names" = some (some (.ref f13)))
    (l13 : K.lookup f13 = some ⟨oc13, od13, .func (PySem.W.fnOf "_law_names" "_law_names" (defArgs s_law_names) (defBody s_law_names) (defScope s_law_names) .none kV13 dc13 pm13 an13 cd13 ct13), sl13⟩)
    (c13 : PySem.W.codeIn K cd13 "_law_names" = true)
    (k13 : PySem.W.keepIn K (.ref f13) = true)
    (a14 : PySem.W.nsIn K mainGlobals "_law_term" = some (some (.ref f14)))
    (l14 : K.lookup f14 = some ⟨oc14, od14, .func (PySem.W.fnOf "_law_term" "_law_term" (defArgs s_law_term) (defBody s_law_term) (defScope s_law_term) .none kV14 dc14 pm14 an14 cd14 ct14), sl14⟩)
    (c14 : PySem.W.codeIn K cd14 "_law_term" = true)
    (k14 : PySem.W.keepIn K (.ref f14) = true)
    (a15 : PySem.W.nsIn K mainGlobals "_law_text" = some (some (.ref f15)))
    (l15 : K.lookup f15 = some ⟨oc15, od15, .func (PySem.W.fnOf "_law_text" "_law_text" (defArgs s_law_text) (defBody s_law_text) (defScope s_law_text) .none kV15 dc15 pm15 an15 cd15 ct15), sl15⟩)
    (c15 : PySem.W.codeIn K cd15 "_law_text" = true)
    (k15 : PySem.W.keepIn K (.ref f15) = true)
    (a16 : PySem.W.nsIn K mainGlobals "_law_lists" = some (some (.ref f16)))
    (l16 : K.lookup f16 = some ⟨oc16, od16, .func (PySem.W.fnOf "_law_lists" "_law_lists" (defArgs s_law_lists) (defBody s_law_lists) (defScope s_law_lists) .none kV16 dc16 pm16 an16 cd16 ct16), sl16⟩)
    (c16 : PySem.W.codeIn K cd16 "_law_lists" = true)
    (k16 : PySem.W.keepIn K (.ref f16) = true)
    (a17 : PySem.W.nsIn K mainGlobals "_law_leaves" = some (some (.ref f17)))
    (l17 : K.lookup f17 = some ⟨oc17, od17, .func (PySem.W.fnOf "_law_leaves" "_law_leaves" (defArgs s_law_leaves) (defBody s_law_leaves) (defScope s_law_leaves) .none kV17 dc17 pm17 an17 cd17 ct17), sl17⟩)
    (c17 : PySem.W.codeIn K cd17 "_law_leaves" = true)
    (k17 : PySem.W.keepIn K (.ref f17) = true)
    (a18 : PySem.W.nsIn K mainGlobals "_law_word" = some (some (.ref f18)))
    (l18 : K.lookup f18 = some ⟨oc18, od18, .func (PySem.W.fnOf "_law_word" "_law_word" (defArgs s_law_word) (defBody s_law_word) (defScope s_law_word) .none kV18 dc18 pm18 an18 cd18 ct18), sl18⟩)
    (c18 : PySem.W.codeIn K cd18 "_law_word" = true)
    (k18 : PySem.W.keepIn K (.ref f18) = true)
    (a19 : PySem.W.nsIn K mainGlobals "_law_replaced" = some (some (.ref f19)))
    (l19 : K.lookup f19 = some ⟨oc19, od19, .func (PySem.W.fnOf "_law_replaced" "_law_replaced" (defArgs s_law_replaced) (defBody s_law_replaced) (defScope s_law_replaced) .none kV19 dc19 pm19 an19 cd19 ct19), sl19⟩)
    (c19 : PySem.W.codeIn K cd19 "_law_replaced" = true)
    (k19 : PySem.W.keepIn K (.ref f19) = true)
    (a20 : PySem.W.nsIn K mainGlobals "law" = some (some (.ref f20)))
    (l20 : K.lookup f20 = some ⟨oc20, od20, .func (PySem.W.fnOf "law" "law" (defArgs s_law) (defBody s_law) (defScope s_law) .none kV20 dc20 pm20 an20 cd20 ct20), sl20⟩)
    (c20 : PySem.W.codeIn K cd20 "law" = true)
    (k20 : PySem.W.keepIn K (.ref f20) = true)
    (z_abs : PySem.W.nsIn K mainGlobals "abs" = some none)
    (z_all : PySem.W.nsIn K mainGlobals "all" = some none)
    (z_int : PySem.W.nsIn K mainGlobals "int" = some none)
    (z_isinstance : PySem.W.nsIn K mainGlobals "isinstance" = some none)
    (z_len : PySem.W.nsIn K mainGlobals "len" = some none)
    (z_list : PySem.W.nsIn K mainGlobals "list" = some none)
    (z_max : PySem.W.nsIn K mainGlobals "max" = some none)
    (z_min : PySem.W.nsIn K mainGlobals "min" = some none)
    (z_range : PySem.W.nsIn K mainGlobals "range" = some none)
    (z_repr : PySem.W.nsIn K mainGlobals "repr" = some none)
    (z_set : PySem.W.nsIn K mainGlobals "set" = some none)
    (z_sorted : PySem.W.nsIn K mainGlobals "sorted" = some none)
    (z_str : PySem.W.nsIn K mainGlobals "str" = some none)
    (z_tuple : PySem.W.nsIn K mainGlobals "tuple" = some none)
    (v_FIRST_CHARS : PySem.W.nsIn K mainGlobals "FIRST_CHARS" = some (some (.str "abcdefghijklmnopqrstuvwxyz" tk_FIRST_CHARS)))
    (v_MOST_LEAVES : PySem.W.nsIn K mainGlobals "MOST_LEAVES" = some (some (.int 200 tk_MOST_LEAVES)))
    (v_MOST_NAME_CHARS : PySem.W.nsIn K mainGlobals "MOST_NAME_CHARS" = some (some (.int 12 tk_MOST_NAME_CHARS)))
    (v_NAME_CHARS : PySem.W.nsIn K mainGlobals "NAME_CHARS" = some (some (.str "abcdefghijklmnopqrstuvwxyz0123456789" tk_NAME_CHARS)))
    (aC_InvalidTerm : PySem.W.nsIn K mainGlobals "InvalidTerm" = some (some (.ref C_InvalidTerm)))
    (k_InvalidTerm : PySem.W.keepIn K (.ref C_InvalidTerm) = true)
    (s_InvalidTerm : PySem.W.subIn K (.ref C_InvalidTerm) (.type "BaseException") = some true)
    (t_InvalidTerm : PySem.W.typeIn K (.ref C_InvalidTerm) = some (.type "type"))
    (h_InvalidTerm : PySem.W.hasDictIn K C_InvalidTerm = true)
    (x_InvalidTerm : PySem.W.excIn K C_InvalidTerm [.type "ValueError", .type "Exception", .type "BaseException", .type "object"] "ValueError.__new__" = true) :
    ∃ fd : FuncData, (∀ (s : Shared) (v : Value), BindsTo s fd ⟨[v], []⟩ [("_law_script", v)]) ∧ ∀ base : Heap, K.In base → base.Ns mainGlobals mg → TopRun l.prog w K mg base (L2.CX l.prog w) fa fd "_law_script" (spD K (fun ds => ∃ ns : List Int, ds = [.src ns] ∧ ns.length ≤ 63) (fun _ s => s = .dat (.bl true)) (fun _ _ => False)) := by
  have e := hfa.symm.trans (PySem.W.mg_of X G a20)
  cases e
  have F1 := fun_mk (st := s_is_variable) l1 c1 k1
  have b1 := F1.binds (ps := ["term"]) fun _ _ _ _ _ _ us hl => match us, hl with | [_], _ => rfl
  have F2 := fun_mk (st := s_leaves) l2 c2 k2
  have b2 := F2.binds (ps := ["term"]) fun _ _ _ _ _ _ us hl => match us, hl with | [_], _ => rfl
  have F3 := fun_mk (st := s_check_term) l3 c3 k3
  have b3 := F3.binds (ps := ["term"]) fun _ _ _ _ _ _ us hl => match us, hl with | [_], _ => rfl
  have F4 := fun_mk (st := s_kept) l4 c4 k4
  have b4 := F4.binds (ps := ["term"]) fun _ _ _ _ _ _ us hl => match us, hl with | [_], _ => rfl
  have F5 := fun_mk (st := s_leaf_count) l5 c5 k5
  have b5 := F5.binds (ps := ["term"]) fun _ _ _ _ _ _ us hl => match us, hl with | [_], _ => rfl
  have F6 := fun_mk (st := s_names_of) l6 c6 k6
  have b6 := F6.binds (ps := ["term"]) fun _ _ _ _ _ _ us hl => match us, hl with | [_], _ => rfl
  have F7 := fun_mk (st := s_written) l7 c7 k7
  have b7 := F7.binds (ps := ["term"]) fun _ _ _ _ _ _ us hl => match us, hl with | [_], _ => rfl
  have F8 := fun_mk (st := s_term_text) l8 c8 k8
  have b8 := F8.binds (ps := ["term"]) fun _ _ _ _ _ _ us hl => match us, hl with | [_], _ => rfl
  have F9 := fun_mk (st := s_replaced) l9 c9 k9
  have b9 := F9.binds (ps := ["term", "table"]) fun _ _ _ _ _ _ us hl => match us, hl with | [_, _], _ => rfl
  have F10 := fun_mk (st := s_exchanged) l10 c10 k10
  have b10 := F10.binds (ps := ["term", "table"]) fun _ _ _ _ _ _ us hl => match us, hl with | [_, _], _ => rfl
  have F11 := fun_mk (st := s_law_row) l11 c11 k11
  have b11 := F11.binds (ps := ["_law_cell", "_law_many"]) fun _ _ _ _ _ _ us hl => match us, hl with | [_, _], _ => rfl
  have F12 := fun_mk (st := s_law_numbers) l12 c12 k12
  have b12 := F12.binds (ps := ["_law_script", "_law_many"]) fun _ _ _ _ _ _ us hl => match us, hl with | [_, _], _ => rfl
  have F13 := fun_mk (st := s_law_names) l13 c13 k13
  have b13 := F13.binds (ps := ["_law_number", "_law_many"]) fun _ _ _ _ _ _ us hl => match us, hl with | [_, _], _ => rfl
  have F14 := fun_mk (st := s_law_term) l14 c14 k14
  have b14 := F14.binds (ps := ["_law_numbers_here", "_law_at", "_law_names_here", "_law_most"]) fun _ _ _ _ _ _ us hl => match us, hl with | [_, _, _, _], _ => rfl
  have F15 := fun_mk (st := s_law_text) l15 c15 k15
  have b15 := F15.binds (ps := ["_law_term_here"]) fun _ _ _ _ _ _ us hl => match us, hl with | [_], _ => rfl
  have F16 := fun_mk (st := s_law_lists) l16 c16 k16
  have b16 := F16.binds (ps := ["_law_term_here"]) fun _ _ _ _ _ _ us hl => match us, hl with | [_], _ => rfl
  have F17 := fun_mk (st := s_law_leaves) l17 c17 k17
  have b17 := F17.binds (ps := ["_law_term_here"]) fun _ _ _ _ _ _ us hl => match us, hl with | [_], _ => rfl
  have F18 := fun_mk (st := s_law_word) l18 c18 k18
  have b18 := F18.binds (ps := ["_law_numbers_here", "_law_at"]) fun _ _ _ _ _ _ us hl => match us, hl with | [_, _], _ => rfl
  have F19 := fun_mk (st := s_law_replaced) l19 c19 k19
  have b19 := F19.binds (ps := ["_law_term_here", "_law_table"]) fun _ _ _ _ _ _ us hl => match us, hl with | [_, _], _ => rfl
  have F20 := fun_mk (st := s_law) l20 c20 k20
  have b20 := F20.binds (ps := ["_law_script"]) fun _ _ _ _ _ _ us hl => match us, hl with | [_], _ => rfl
  have T : Txt K mg { f_is_variable := f1, d_is_variable := _, f_leaves := f2, d_leaves := _, f_check_term := f3, d_check_term := _, f_kept := f4, d_kept := _, f_leaf_count := f5, d_leaf_count := _, f_names_of := f6, d_names_of := _, f_written := f7, d_written := _, f_term_text := f8, d_term_text := _, f_replaced := f9, d_replaced := _, f_exchanged := f10, d_exchanged := _, f_law_row := f11, d_law_row := _, f_law_numbers := f12, d_law_numbers := _, f_law_names := f13, d_law_names := _, f_law_term := f14, d_law_term := _, f_law_text := f15, d_law_text := _, f_law_lists := f16, d_law_lists := _, f_law_leaves := f17, d_law_leaves := _, f_law_word := f18, d_law_word := _, f_law_replaced := f19, d_law_replaced := _, f_law := fa, d_law := _, c_InvalidTerm := C_InvalidTerm } := { F_is_variable := F1, g_is_variable := PySem.W.mg_of X G a1, b_is_variable := b1, F_leaves := F2, g_leaves := PySem.W.mg_of X G a2, b_leaves := b2, F_check_term := F3, g_check_term := PySem.W.mg_of X G a3, b_check_term := b3, F_kept := F4, g_kept := PySem.W.mg_of X G a4, b_kept := b4, F_leaf_count := F5, g_leaf_count := PySem.W.mg_of X G a5, b_leaf_count := b5, F_names_of := F6, g_names_of := PySem.W.mg_of X G a6, b_names_of := b6, F_written := F7, g_written := PySem.W.mg_of X G a7, b_written := b7, F_term_text := F8, g_term_text := PySem.W.mg_of X G a8, b_term_text := b8, F_replaced := F9, g_replaced := PySem.W.mg_of X G a9, b_replaced := b9, F_exchanged := F10, g_exchanged := PySem.W.mg_of X G a10, b_exchanged := b10, F_law_row := F11, g_law_row := PySem.W.mg_of X G a11, b_law_row := b11, F_law_numbers := F12, g_law_numbers := PySem.W.mg_of X G a12, b_law_numbers := b12, F_law_names := F13, g_law_names := PySem.W.mg_of X G a13, b_law_names := b13, F_law_term := F14, g_law_term := PySem.W.mg_of X G a14, b_law_term := b14, F_law_text := F15, g_law_text := PySem.W.mg_of X G a15, b_law_text := b15, F_law_lists := F16, g_law_lists := PySem.W.mg_of X G a16, b_law_lists := b16, F_law_leaves := F17, g_law_leaves := PySem.W.mg_of X G a17, b_law_leaves := b17, F_law_word := F18, g_law_word := PySem.W.mg_of X G a18, b_law_word := b18, F_law_replaced := F19, g_law_replaced := PySem.W.mg_of X G a19, b_law_replaced := b19, F_law := F20, g_law := PySem.W.mg_of X G a20, b_law := b20, z_abs := PySem.W.mg_none_of X G z_abs, z_all := PySem.W.mg_none_of X G z_all, z_int := PySem.W.mg_none_of X G z_int, z_isinstance := PySem.W.mg_none_of X G z_isinstance, z_len := PySem.W.mg_none_of X G z_len, z_list := PySem.W.mg_none_of X G z_list, z_max := PySem.W.mg_none_of X G z_max, z_min := PySem.W.mg_none_of X G z_min, z_range := PySem.W.mg_none_of X G z_range, z_repr := PySem.W.mg_none_of X G z_repr, z_set := PySem.W.mg_none_of X G z_set, z_sorted := PySem.W.mg_none_of X G z_sorted, z_str := PySem.W.mg_none_of X G z_str, z_tuple := PySem.W.mg_none_of X G z_tuple, c_FIRST_CHARS := ⟨_, PySem.W.mg_of X G v_FIRST_CHARS⟩, c_MOST_LEAVES := ⟨_, PySem.W.mg_of X G v_MOST_LEAVES⟩, c_MOST_NAME_CHARS := ⟨_, PySem.W.mg_of X G v_MOST_NAME_CHARS⟩, c_NAME_CHARS := ⟨_, PySem.W.mg_of X G v_NAME_CHARS⟩, gC_InvalidTerm := PySem.W.mg_of X G aC_InvalidTerm, k_InvalidTerm := k_InvalidTerm, s_InvalidTerm := s_InvalidTerm, t_InvalidTerm := t_InvalidTerm, h_InvalidTerm := h_InvalidTerm, x_InvalidTerm := x_InvalidTerm }
  have TP : TxtP l.prog w K mg { f_is_variable := f1, d_is_variable := _, f_leaves := f2, d_leaves := _, f_check_term := f3, d_check_term := _, f_kept := f4, d_kept := _, f_leaf_count := f5, d_leaf_count := _, f_names_of := f6, d_names_of := _, f_written := f7, d_written := _, f_term_text := f8, d_term_text := _, f_replaced := f9, d_replaced := _, f_exchanged := f10, d_exchanged := _, f_law_row := f11, d_law_row := _, f_law_numbers := f12, d_law_numbers := _, f_law_names := f13, d_law_names := _, f_law_term := f14, d_law_term := _, f_law_text := f15, d_law_text := _, f_law_lists := f16, d_law_lists := _, f_law_leaves := f17, d_law_leaves := _, f_law_word := f18, d_law_word := _, f_law_replaced := f19, d_law_replaced := _, f_law := fa, d_law := _, c_InvalidTerm := C_InvalidTerm } := { T with }
  exact ⟨_, fun s v => .of_eq rfl, fun base _ _ => ok_law TP⟩
end K35
open PySem PySem.W PyProof.Rows
set_option maxRecDepth 100000 in
set_option maxHeartbeats 0 in
theorem PySem.Challenge.cw_paironce_k35_terms_holds : PySem.Challenge.rw_paironce_k35_terms.Holds := by
  w_on; o_law; k_head; (case hw => w_witness2)
  k_fill
  refine DL.walkDG (l := PySem.Challenge.rw_paironce_k35_terms) (x := "_law_script") rfl rfl (fun w h Y => PySem.W.kIn_of Y) ?F
  case F =>
    intro w mg fa h KX G hmg
    refine' K35.all_mk KX G hmg ?a1 ?l1 ?c1 ?k1 ?a2 ?l2 ?c2 ?k2 ?a3 ?l3 ?c3 ?k3 ?a4 ?l4 ?c4 ?k4 ?a5 ?l5 ?c5 ?k5 ?a6 ?l6 ?c6 ?k6 ?a7 ?l7 ?c7 ?k7 ?a8 ?l8 ?c8 ?k8 ?a9 ?l9 ?c9 ?k9 ?a10 ?l10 ?c10 ?k10 ?a11 ?l11 ?c11 ?k11 ?a12 ?l12 ?c12 ?k12 ?a13 ?l13 ?c13 ?k13 ?a14 ?l14 ?c14 ?k14 ?a15 ?l15 ?c15 ?k15 ?a16 ?l16 ?c16 ?k16 ?a17 ?l17 ?c17 ?k17 ?a18 ?l18 ?c18 ?k18 ?a19 ?l19 ?c19 ?k19 ?a20 ?l20 ?c20 ?k20 ?z_abs ?z_all ?z_int ?z_isinstance ?z_len ?z_list ?z_max ?z_min ?z_range ?z_repr ?z_set ?z_sorted ?z_str ?z_tuple ?v_FIRST_CHARS ?v_MOST_LEAVES ?v_MOST_NAME_CHARS ?v_NAME_CHARS ?aC_InvalidTerm ?k_InvalidTerm ?s_InvalidTerm ?t_InvalidTerm ?h_InvalidTerm ?x_InvalidTerm
    (case a1 => k_is)
    (case l1 => k_is)
    (case c1 => k_is)
    (case k1 => k_is)
    (case a2 => k_is)
    (case l2 => k_is)
    (case c2 => k_is)
    (case k2 => k_is)
    (case a3 => k_is)
    (case l3 => k_is)
    (case c3 => k_is)
    (case k3 => k_is)
    (case a4 => k_is)
    (case l4 => k_is)
    (case c4 => k_is)
    (case k4 => k_is)
    (case a5 => k_is)
    (case l5 => k_is)
    (case c5 => k_is)
    (case k5 => k_is)
    (case a6 => k_is)
    (case l6 => k_is)
    (case c6 => k_is)
    (case k6 => k_is)
    (case a7 => k_is)
    (case l7 => k_is)
    (case c7 => k_is)
    (case k7 => k_is)
    (case a8 => k_is)
    (case l8 => k_is)
    (case c8 => k_is)
    (case k8 => k_is)
    (case a9 => k_is)
    (case l9 => k_is)
    (case c9 => k_is)
    (case k9 => k_is)
    (case a10 => k_is)
    (case l10 => k_is)
    (case c10 => k_is)
    (case k10 => k_is)
    (case a11 => k_is)
    (case l11 => k_is)
    (case c11 => k_is)
    (case k11 => k_is)
    (case a12 => k_is)
    (case l12 => k_is)
    (case c12 => k_is)
    (case k12 => k_is)
    (case a13 => k_is)
    (case l13 => k_is)
    (case c13 => k_is)
    (case k13 => k_is)
    (case a14 => k_is)
    (case l14 => k_is)
    (case c14 => k_is)
    (case k14 => k_is)
    (case a15 => k_is)
    (case l15 => k_is)
    (case c15 => k_is)
    (case k15 => k_is)
    (case a16 => k_is)
    (case l16 => k_is)
    (case c16 => k_is)
    (case k16 => k_is)
    (case a17 => k_is)
    (case l17 => k_is)
    (case c17 => k_is)
    (case k17 => k_is)
    (case a18 => k_is)
    (case l18 => k_is)
    (case c18 => k_is)
    (case k18 => k_is)
    (case a19 => k_is)
    (case l19 => k_is)
    (case c19 => k_is)
    (case k19 => k_is)
    (case a20 => k_is)
    (case l20 => k_is)
    (case c20 => k_is)
    (case k20 => k_is)
    (case z_abs => k_is)
    (case z_all => k_is)
    (case z_int => k_is)
    (case z_isinstance => k_is)
    (case z_len => k_is)
    (case z_list => k_is)
    (case z_max => k_is)
    (case z_min => k_is)
    (case z_range => k_is)
    (case z_repr => k_is)
    (case z_set => k_is)
    (case z_sorted => k_is)
    (case z_str => k_is)
    (case z_tuple => k_is)
    (case v_FIRST_CHARS => k_is)
    (case v_MOST_LEAVES => k_is)
    (case v_MOST_NAME_CHARS => k_is)
    (case v_NAME_CHARS => k_is)
    (case aC_InvalidTerm => k_is)
    (case k_InvalidTerm => k_is)
    (case s_InvalidTerm => k_is)
    (case t_InvalidTerm => k_is)
    (case h_InvalidTerm => k_is)
    (case x_InvalidTerm => k_exc)
#print axioms PySem.Challenge.cw_paironce_k35_terms_holds

