import PyProof.Rows.All
import Wide.All
import OpenK.AllK
import Wide.FinOn
import KE.KStateDown
import KE.KExcInit
import KE.KMathG
import Lean
import HandS.ForMost
import HandS.ForExc
import HandS.Walk
import HandS.Style
import HandS.IsInst
import HandS.Flow
import HandS.Defaults
import HandS.WordsExc
import HandS.ExcOwn
import HandS.Ends
import HandS.HeadEnd
import HandS.Gcd
import HandS.SetBool
import HandS.SetKeys
import PyProof.SetRoads
import HandS.ExcInit
import KE.KExcSuper
import HandS.ExcField
import HandS.ExcIs
import HandS.HeadHook4
import HandS.Wide
import HandS.WideBits
import HandS.List
import HandS.TupAny
import HandS.Text
import HandS.TryOnly
import HandS.Zip
import HandS.More
import PyProof.StrOps2
import HandS.TupMul
import HandS.StrMore
import HandS.Replace
import HandS.RaiseMore
import HandS.Deep
import PyProof.ReprRoads
import PyProof.CallFns
import PyProof.Rows.NestShow
import HandS.Conv
import HandS.SortInts
import PyProof.WalksMore
import PyProof.ConsumeWalk
import PyProof.EnumMake
import PyProof.Draws
import KE.GoesMore
import HandS.Base
import HandS.Call
import HandS.Words
import HandS.Head0
import HandS.Head1
import HandS.Head2
import HandS.HeadHook1
import HandS.HeadHook2
import PyProof.ReprLen
import PyProof.Rows.RegStrFacts
import KE.BitLaws
import PyProof.FitsReplace
import HandS.Head3
import PySem.Challenge.RW_askewread_k44_light_and_shade
set_option Elab.async false
set_option linter.all false
set_option maxRecDepth 100000
set_option autoImplicit false
set_option Elab.async false
set_option linter.all false
set_option maxRecDepth 100000
set_option autoImplicit false
/-! A layer of values as trees over HandS. -/
namespace DL
open PySem PySem.Spec PyProof.Rows L2

/-! ### values as trees -/
inductive D where
  | non | bl (b : Bool) | int (i : Int) | str (s : Str) | sc (x : V)
  | tup (ds : List D) | lst (ds : List D)
  /-- a list that is only read (the script) -/
  | ro (ds : List D)
  | ins (C : Addr) (fs : List (Str × D))
  | dic (kvs : List (Key × D))
  /-- a caught exception, its dict at d -/
  | xo (a d : Addr) (fs : List (Str × D))
instance : Inhabited D := ⟨.non⟩
/-- ints as a list -/
abbrev iD (ns : List Int) : List D := ns.map D.int

section
variable (K : PySem.W.Frag) (F : Hp)
mutual
def Rp : D → V → Prop
  | .non, v => v = .non
  | .bl b, v => v = .bl b
  | .int i, v => v = .int i
  | .str s, v => v = .str s
  | .sc x, v => v = x
  | .tup ds, v => ∃ a xs, v = .ref a ∧ SqT K F a xs ∧ Rps ds xs
  | .lst ds, v => ∃ a xs, v = .ref a ∧ F a = some (.lst xs) ∧ Rps ds xs
  | .ro ds, v => ∃ a xs, v = .ref a ∧ SqL K F a xs ∧ Rps ds xs
  | .ins C fs, v => ∃ a dx gs, v = .ref a ∧ F a = some (.ins C dx gs) ∧ RpF fs gs
  | .dic kvs, v => ∃ a gs, v = .ref a ∧ Rd F a (.dK gs) ∧ RpK kvs gs
  | .xo a d fs, v => ∃ gs, v = .ref a ∧ F d = some (.xd gs) ∧ RpF fs gs
def Rps : List D → List V → Prop
  | [], xs => xs = []
  | d :: ds, xs => ∃ y ys, xs = y :: ys ∧ Rp d y ∧ Rps ds ys
def RpF : List (Str × D) → List (Str × V) → Prop
  | [], xs => xs = []
  | (n, d) :: ds, xs => ∃ y ys, xs = (n, y) :: ys ∧ Rp d y ∧ RpF ds ys
def RpK : List (Key × D) → List (Key × V) → Prop
  | [], xs => xs = []
  | (n, d) :: ds, xs => ∃ y ys, xs = (n, y) :: ys ∧ Rp d y ∧ RpK ds ys
end
end
theorem Same.tup {K : PySem.W.Frag} {H H' : Hp} {a : Addr} {xs : List V} (e : Same H H') (h : SqT K H a xs) : SqT K H' a xs := by
  rcases h with (h | ⟨o, h⟩) | h
  · exact .inl (.inl (e _ _ h))
  · exact .inl (.inr ⟨o, e _ _ h⟩)
  · exact .inr h
theorem Same.rd {H H' : Hp} {a : Addr} {u : HO} (e : Same H H') (h : Rd H a u) : Rd H' a u := by
  rcases h with h | ⟨o, h⟩
  · exact .inl (e _ _ h)
  · exact .inr ⟨o, e _ _ h⟩
section
variable {K : PySem.W.Frag} {F F' H H' : Hp}
mutual
theorem Rp.mono (s : Same F F') : ∀ {d : D} {v : V}, Rp K F d v → Rp K F' d v
  | .non, _, h => h
  | .bl _, _, h => h
  | .int _, _, h => h
  | .str _, _, h => h
  | .sc _, _, h => h
  | .tup ds, _, h => by
    obtain ⟨a, xs, e, q, r⟩ := h
    exact ⟨a, xs, e, Same.tup s q, Rps.mono s r⟩
  | .lst ds, _, h => by
    obtain ⟨a, xs, e, q, r⟩ := h
    exact ⟨a, xs, e, s _ _ q, Rps.mono s r⟩
  | .ro ds, _, h => by
    obtain ⟨a, xs, e, q, r⟩ := h
    exact ⟨a, xs, e, L2.Same.seq s q, Rps.mono s r⟩
  | .ins C fs, _, h => by
    obtain ⟨a, dx, gs, e, q, r⟩ := h
    exact ⟨a, dx, gs, e, s _ _ q, RpF.mono s r⟩
  | .dic kvs, _, h => by
    obtain ⟨a, gs, e, q, r⟩ := h
    exact ⟨a, gs, e, Same.rd s q, RpK.mono s r⟩
  | .xo a d fs, _, h => by
    obtain ⟨gs, e, q, r⟩ := h
    exact ⟨gs, e, s _ _ q, RpF.mono s r⟩
theorem Rps.mono (s : Same F F') : ∀ {ds : List D} {vs : List V}, Rps K F ds vs → Rps K F' ds vs
  | [], _, h => h
  | d :: ds, _, h => by
    obtain ⟨y, ys, e, q, r⟩ := h
    exact ⟨y, ys, e, Rp.mono s q, Rps.mono s r⟩
theorem RpF.mono (s : Same F F') : ∀ {ds : List (Str × D)} {vs : List (Str × V)}, RpF K F ds vs → RpF K F' ds vs
  | [], _, h => h
  | (n, d) :: ds, _, h => by
    obtain ⟨y, ys, e, q, r⟩ := h
    exact ⟨y, ys, e, Rp.mono s q, RpF.mono s r⟩
theorem RpK.mono (s : Same F F') : ∀ {ds : List (Key × D)} {vs : List (Key × V)}, RpK K F ds vs → RpK K F' ds vs
  | [], _, h => h
  | (n, d) :: ds, _, h => by
    obtain ⟨y, ys, e, q, r⟩ := h
    exact ⟨y, ys, e, Rp.mono s q, RpK.mono s r⟩
end
theorem Rps.length : ∀ {ds : List D} {vs : List V}, Rps K F ds vs → vs.length = ds.length
  | [], _, h => by cases h; rfl
  | d :: ds, _, h => by
    obtain ⟨y, ys, rfl, _, r⟩ := h
    show ys.length + 1 = ds.length + 1
    rw [Rps.length r]
theorem Rps.get : ∀ {ds : List D} {vs : List V} {i : Nat} {d : D}, Rps K F ds vs → ds[i]? = some d → ∃ v, vs[i]? = some v ∧ Rp K F d v
  | [], _, _, _, _, e => by simp at e
  | d :: ds, _, 0, _, h, e => by
    obtain ⟨y, ys, rfl, q, _⟩ := h
    simp at e; subst e
    exact ⟨y, rfl, q⟩
  | d :: ds, _, i + 1, _, h, e => by
    obtain ⟨y, ys, rfl, _, r⟩ := h
    simp at e
    obtain ⟨v, e1, e2⟩ := Rps.get r e
    exact ⟨v, by simpa using e1, e2⟩
theorem Rps.get' : ∀ {ds : List D} {vs : List V} {i : Nat} {v : V}, Rps K F ds vs → vs[i]? = some v → ∃ d, ds[i]? = some d ∧ Rp K F d v := fun {ds vs i v} h e => by
  have hi : i < vs.length := (List.getElem?_eq_some_iff.mp e).1
  rw [h.length] at hi
  obtain ⟨w, e1, e2⟩ := h.get (i := i) (d := ds[i]) (by simp [hi])
  rw [e] at e1; cases e1
  exact ⟨ds[i], by simp [hi], e2⟩
theorem Rps.append : ∀ {ds es : List D} {vs us : List V}, Rps K F ds vs → Rps K F es us → Rps K F (ds ++ es) (vs ++ us)
  | [], _, _, _, h, q => by cases h; exact q
  | d :: ds, _, _, _, h, q => by
    obtain ⟨y, ys, rfl, a, r⟩ := h
    exact ⟨y, ys ++ _, rfl, a, Rps.append r q⟩
theorem Rps.take : ∀ {ds : List D} {vs : List V} (n : Nat), Rps K F ds vs → Rps K F (ds.take n) (vs.take n)
  | _, _, 0, _ => by simp [Rps]
  | [], _, n + 1, h => by cases h; simp [Rps]
  | d :: ds, _, n + 1, h => by
    obtain ⟨y, ys, rfl, a, r⟩ := h
    exact ⟨y, ys.take n, rfl, a, Rps.take n r⟩
theorem Rps.drop : ∀ {ds : List D} {vs : List V} (n : Nat), Rps K F ds vs → Rps K F (ds.drop n) (vs.drop n)
  | _, _, 0, h => h
  | [], _, n + 1, h => by cases h; simp [Rps]
  | d :: ds, _, n + 1, h => by
    obtain ⟨y, ys, rfl, a, r⟩ := h
    exact Rps.drop n r
theorem Rps.set : ∀ {ds : List D} {vs : List V} (i : Nat) {d : D} {v : V}, Rps K F ds vs → Rp K F d v → Rps K F (ds.set i d) (vs.set i v)
  | [], _, _, _, _, h, _ => by cases h; simp [Rps]
  | d :: ds, _, 0, _, _, h, q => by
    obtain ⟨y, ys, rfl, a, r⟩ := h
    exact ⟨_, ys, rfl, q, r⟩
  | d :: ds, _, i + 1, _, _, h, q => by
    obtain ⟨y, ys, rfl, a, r⟩ := h
    exact ⟨y, ys.set i _, rfl, a, Rps.set i r q⟩
theorem RpF.look : ∀ {fs : List (Str × D)} {gs : List (Str × V)} {n : Str} {d : D}, RpF K F fs gs → fs.lookup n = some d → ∃ v, gs.lookup n = some v ∧ Rp K F d v
  | [], _, _, _, _, e => by cases e
  | (m, d) :: fs, _, n, _, h, e => by
    obtain ⟨y, ys, rfl, q, r⟩ := h
    rw [List.lookup_cons] at e ⊢
    cases z : n == m with
    | true => rw [z] at e; cases e; exact ⟨y, rfl, q⟩
    | false => rw [z] at e; exact RpF.look r e
theorem Rps.ints : ∀ {ns : List Int} {vs : List V}, Rps K F (ns.map D.int) vs ↔ vs = ns.map V.int
  | [], vs => by simp [Rps]
  | n :: ns, vs => by
    simp only [List.map_cons, Rps, Rp]
    constructor
    · rintro ⟨y, ys, rfl, rfl, r⟩
      rw [Rps.ints.mp r]
    · rintro rfl
      exact ⟨_, _, rfl, rfl, Rps.ints.mpr rfl⟩
theorem Rps.bls : ∀ {ns : List Bool} {vs : List V}, Rps K F (ns.map D.bl) vs ↔ vs = ns.map V.bl
  | [], vs => by simp [Rps]
  | n :: ns, vs => by
    simp only [List.map_cons, Rps, Rp]
    constructor
    · rintro ⟨y, ys, rfl, rfl, r⟩
      rw [Rps.bls.mp r]
    · rintro rfl
      exact ⟨_, _, rfl, rfl, Rps.bls.mpr rfl⟩
theorem Rps.strs : ∀ {ns : List Str} {vs : List V}, Rps K F (ns.map D.str) vs ↔ vs = ns.map V.str
  | [], vs => by simp [Rps]
  | n :: ns, vs => by
    simp only [List.map_cons, Rps, Rp]
    constructor
    · rintro ⟨y, ys, rfl, rfl, r⟩
      rw [Rps.strs.mp r]
    · rintro rfl
      exact ⟨_, _, rfl, rfl, Rps.strs.mpr rfl⟩
end

/-! ### trees whose lists are owned -/
inductive T where
  | fz (d : D) | ls (ts : List T) | tp (ts : List T)
section
variable (K : PySem.W.Frag) (F H : Hp)
mutual
/-- t at v, its own objects at fp -/
def RpT : T → V → List Addr → Prop
  | .fz d, v, fp => Rp K F d v ∧ fp = []
  | .ls ts, v, fp => ∃ p xs q, v = .ref p ∧ H p = some (.lst xs) ∧ fp = p :: q ∧ RpTs ts xs q
  | .tp ts, v, fp => ∃ p xs q, v = .ref p ∧ H p = some (.tup xs) ∧ fp = p :: q ∧ RpTs ts xs q
def RpTs : List T → List V → List Addr → Prop
  | [], xs, fp => xs = [] ∧ fp = []
  | t :: ts, xs, fp => ∃ y ys f g, xs = y :: ys ∧ fp = f ++ g ∧ RpT t y f ∧ RpTs ts ys g
end
end
section
variable {K : PySem.W.Frag} {F F' H H' : Hp}
mutual
theorem RpT.mono (sf : Same F F') : ∀ {t : T} {v : V} {fp : List Addr}, (∀ a ∈ fp, H' a = H a) → RpT K F H t v fp → RpT K F' H' t v fp
  | .fz d, _, _, _, h => ⟨h.1.mono sf, h.2⟩
  | .ls ts, _, _, s, h => by
    obtain ⟨p, xs, q, e1, e2, e3, r⟩ := h
    subst e3
    exact ⟨p, xs, q, e1, by rw [s p (by simp)]; exact e2, rfl, RpTs.mono sf (fun a ha => s a (by simp [ha])) r⟩
  | .tp ts, _, _, s, h => by
    obtain ⟨p, xs, q, e1, e2, e3, r⟩ := h
    subst e3
    exact ⟨p, xs, q, e1, by rw [s p (by simp)]; exact e2, rfl, RpTs.mono sf (fun a ha => s a (by simp [ha])) r⟩
theorem RpTs.mono (sf : Same F F') : ∀ {ts : List T} {vs : List V} {fp : List Addr}, (∀ a ∈ fp, H' a = H a) → RpTs K F H ts vs fp → RpTs K F' H' ts vs fp
  | [], _, _, _, h => h
  | t :: ts, _, _, s, h => by
    obtain ⟨y, ys, f, g, e1, e2, r1, r2⟩ := h
    subst e2
    exact ⟨y, ys, f, g, e1, rfl, RpT.mono sf (fun a ha => s a (by simp [ha])) r1, RpTs.mono sf (fun a ha => s a (by simp [ha])) r2⟩
end
mutual
theorem RpT.mem : ∀ {t : T} {v : V} {fp : List Addr}, RpT K F H t v fp → ∀ a ∈ fp, H a ≠ none
  | .fz d, _, _, h => by rw [h.2]; intro a ha; cases ha
  | .ls ts, _, _, h => by
    obtain ⟨p, xs, q, e1, e2, e3, r⟩ := h
    subst e3
    intro a ha
    rcases List.mem_cons.mp ha with rfl | ha
    · rw [e2]; simp
    · exact RpTs.mem r a ha
  | .tp ts, _, _, h => by
    obtain ⟨p, xs, q, e1, e2, e3, r⟩ := h
    subst e3
    intro a ha
    rcases List.mem_cons.mp ha with rfl | ha
    · rw [e2]; simp
    · exact RpTs.mem r a ha
theorem RpTs.mem : ∀ {ts : List T} {vs : List V} {fp : List Addr}, RpTs K F H ts vs fp → ∀ a ∈ fp, H a ≠ none
  | [], _, _, h => by rw [h.2]; intro a ha; cases ha
  | t :: ts, _, _, h => by
    obtain ⟨y, ys, f, g, e1, e2, r1, r2⟩ := h
    subst e2
    intro a ha
    rcases List.mem_append.mp ha with ha | ha
    · exact RpT.mem r1 a ha
    · exact RpTs.mem r2 a ha
end
mutual
theorem RpT.kind : ∀ {t : T} {v : V} {fp : List Addr}, RpT K F H t v fp → ∀ a ∈ fp, ∃ xs, H a = some (.lst xs) ∨ H a = some (.tup xs)
  | .fz d, _, _, h => by rw [h.2]; intro a ha; cases ha
  | .ls ts, _, _, h => by
    obtain ⟨p, xs, q, e1, e2, e3, r⟩ := h
    subst e3
    intro a ha
    rcases List.mem_cons.mp ha with rfl | ha
    · exact ⟨xs, .inl e2⟩
    · exact RpTs.kind r a ha
  | .tp ts, _, _, h => by
    obtain ⟨p, xs, q, e1, e2, e3, r⟩ := h
    subst e3
    intro a ha
    rcases List.mem_cons.mp ha with rfl | ha
    · exact ⟨xs, .inr e2⟩
    · exact RpTs.kind r a ha
theorem RpTs.kind : ∀ {ts : List T} {vs : List V} {fp : List Addr}, RpTs K F H ts vs fp → ∀ a ∈ fp, ∃ xs, H a = some (.lst xs) ∨ H a = some (.tup xs)
  | [], _, _, h => by rw [h.2]; intro a ha; cases ha
  | t :: ts, _, _, h => by
    obtain ⟨y, ys, f, g, e1, e2, r1, r2⟩ := h
    subst e2
    intro a ha
    rcases List.mem_append.mp ha with ha | ha
    · exact RpT.kind r1 a ha
    · exact RpTs.kind r2 a ha
end
theorem RpT.same {t : T} {v : V} {fp : List Addr} (sf : Same F F') (sh : Same H H') (h : RpT K F H t v fp) : RpT K F' H' t v fp := h.mono sf fun a ha => by
  cases e : H a with
  | none => exact absurd e (h.mem a ha)
  | some u => exact sh a u e
theorem RpTs.same {ts : List T} {vs : List V} {fp : List Addr} (sf : Same F F') (sh : Same H H') (h : RpTs K F H ts vs fp) : RpTs K F' H' ts vs fp := h.mono sf fun a ha => by
  cases e : H a with
  | none => exact absurd e (h.mem a ha)
  | some u => exact sh a u e
mutual
theorem RpT.uniq : ∀ {t : T} {v : V} {fp fq : List Addr}, RpT K F H t v fp → RpT K F' H t v fq → fp = fq
  | .fz d, _, _, _, h, k => by rw [h.2, k.2]
  | .ls ts, _, _, _, h, k => by
    obtain ⟨p, xs, q, e1, e2, e3, r⟩ := h
    obtain ⟨p', xs', q', e1', e2', e3', r'⟩ := k
    subst e1 e3 e3'
    cases e1'
    rw [e2] at e2'; cases e2'
    rw [RpTs.uniq r r']
  | .tp ts, _, _, _, h, k => by
    obtain ⟨p, xs, q, e1, e2, e3, r⟩ := h
    obtain ⟨p', xs', q', e1', e2', e3', r'⟩ := k
    subst e1 e3 e3'
    cases e1'
    rw [e2] at e2'; cases e2'
    rw [RpTs.uniq r r']
theorem RpTs.uniq : ∀ {ts : List T} {vs : List V} {fp fq : List Addr}, RpTs K F H ts vs fp → RpTs K F' H ts vs fq → fp = fq
  | [], _, _, _, h, k => by rw [h.2, k.2]
  | t :: ts, _, _, _, h, k => by
    obtain ⟨y, ys, f, g, e1, e2, r1, r2⟩ := h
    obtain ⟨y', ys', f', g', e1', e2', r1', r2'⟩ := k
    subst e1 e2 e2'
    cases e1'
    rw [RpT.uniq r1 r1', RpTs.uniq r2 r2']
end
end

/-! ### slots, states -/
inductive Sl where
  | un
  | sh (d : D)
  | ow (ds : List D)
  | od (kvs : List (Key × D))
  | ot (t : T)
abbrev Ev := List Sl
def Sl.own : Sl → Bool
  | .ow _ => true
  | .od _ => true
  | .ot _ => true
  | _ => false
def SlOk (K : PySem.W.Frag) (H0 F H : Hp) : Sl → Option V → Prop
  | .un, _ => True
  | .sh d, v => ∃ x, v = some x ∧ Rp K F d x
  | .ow ds, v => ∃ p xs, v = some (.ref p) ∧ H p = some (.lst xs) ∧ F p = none ∧ H0 p = none ∧ Rps K F ds xs
  | .od kvs, v => ∃ p gs, v = some (.ref p) ∧ H p = some (.dK gs) ∧ F p = none ∧ H0 p = none ∧ RpK K F kvs gs
  | .ot t, v => ∃ x fp, v = some x ∧ RpT K F H t x fp ∧ fp.Nodup ∧ ∀ a ∈ fp, F a = none ∧ H0 a = none
/-- a is owned by the slot -/
def Ft (K : PySem.W.Frag) (F H : Hp) : Sl → Option V → Addr → Prop
  | .ow _, v, a => v = some (.ref a)
  | .od _, v, a => v = some (.ref a)
  | .ot t, v, a => ∃ x fp, v = some x ∧ RpT K F H t x fp ∧ a ∈ fp
  | _, _, _ => False
/-- the heaps: F0, H0 at the entry, F what is never changed, H all -/
structure Fin (F0 H0 F H : Hp) : Prop where
  f0 : Same F0 F
  h0 : Same H0 H
  fh : Same F H
  fr : ∀ p, F0 p = none → H0 p ≠ none → F p = none
structure Ok (K : PySem.W.Frag) (F0 H0 F H : Hp) (σ : L2.St) (ρ : Ev) : Prop where
  fin : Fin F0 H0 F H
  len : σ.length = ρ.length
  sl : ∀ (i : Nat) (s : Sl) (v : Option V), ρ[i]? = some s → σ[i]? = some v → SlOk K H0 F H s v
  ap : ∀ (i j : Nat) (s t : Sl) (v w : Option V) (a : Addr), i ≠ j → ρ[i]? = some s → ρ[j]? = some t → σ[i]? = some v → σ[j]? = some w → Ft K F H s v a → ¬ Ft K F H t w a
section
variable {K : PySem.W.Frag} {F0 H0 F F' H H' : Hp} {σ σ' : L2.St} {ρ ρ' : Ev}
theorem Fin.refl {F H : Hp} (s : Same F H) : Fin F H F H := ⟨L2.Same.refl _, L2.Same.refl _, s, fun _ h _ => h⟩
theorem Fin.trans {F H F1 H1 F2 H2 : Hp} (a : Fin F H F1 H1) (b : Fin F1 H1 F2 H2) : Fin F H F2 H2 := ⟨a.f0.trans b.f0, a.h0.trans b.h0, b.fh, fun p h1 h2 => b.fr p (a.fr p h1 h2) fun z => h2 (a.h0.free z)⟩
theorem SlOk.ft_at {H0 F H : Hp} {s : Sl} {v : Option V} {a : Addr} (h : SlOk K H0 F H s v) (o : Ft K F H s v a) : H a ≠ none ∧ F a = none ∧ H0 a = none := by
  cases s with
  | un => cases o
  | sh d => cases o
  | ow ds => obtain ⟨p, xs, e, h1, h2, h3, _⟩ := h; cases o; cases e; exact ⟨by rw [h1]; simp, h2, h3⟩
  | od kvs => obtain ⟨p, xs, e, h1, h2, h3, _⟩ := h; cases o; cases e; exact ⟨by rw [h1]; simp, h2, h3⟩
  | ot t =>
    obtain ⟨x, fp, e, r, _, h2⟩ := h
    obtain ⟨y, fq, e', r', ha⟩ := o
    subst e; cases e'
    rw [← r.uniq r'] at ha
    exact ⟨r.mem a ha, h2 a ha⟩
/-- what is owned by an owning slot -/
theorem SlOk.ft_ow {H0 F H : Hp} {ds : List D} {v : Option V} (h : SlOk K H0 F H (.ow ds) v) : ∃ p, v = some (.ref p) ∧ Ft K F H (.ow ds) v p := by
  obtain ⟨p, xs, e, _⟩ := h
  exact ⟨p, e, e⟩
theorem Ft.back {H0 : Hp} {s : Sl} {v : Option V} {a : Addr} (h : SlOk K H0 F H s v) (sh : ∀ a, Ft K F H s v a → H' a = H a) (o : Ft K F' H' s v a) : Ft K F H s v a := by
  cases s with
  | un => cases o
  | sh d => cases o
  | ow ds => exact o
  | od kvs => exact o
  | ot t =>
    obtain ⟨x, fp, e, r, _, h2⟩ := h
    obtain ⟨y, fq, e', r', ha⟩ := o
    subst e; cases e'
    have r1 : RpT K F H' t x fp := r.mono (L2.Same.refl _) fun a ha => sh a ⟨x, fp, rfl, r, ha⟩
    rw [← r1.uniq r'] at ha
    exact ⟨x, fp, rfl, r, ha⟩
theorem Ft.back' {H0 : Hp} {s : Sl} {v : Option V} {a : Addr} (h : SlOk K H0 F H s v) (sh : Same H H') (o : Ft K F' H' s v a) : Ft K F H s v a := Ft.back h (fun a ha => by
  cases e : H a with
  | none => exact absurd e (h.ft_at ha).1
  | some u => exact sh a u e) o
/-- more frozen, more in the heap; the owned ones stay owned -/
theorem SlOk.grow2 {s : Sl} {v : Option V} (h : SlOk K H0 F H s v) (sf : Same F F') (sh : ∀ a, Ft K F H s v a → H' a = H a) (n : ∀ p, Ft K F H s v p → F' p = none) : SlOk K H0 F' H' s v := by
  cases s with
  | un => trivial
  | sh d => obtain ⟨x, e, r⟩ := h; exact ⟨x, e, r.mono sf⟩
  | ow ds => obtain ⟨p, xs, e, h1, h2, h3, r⟩ := h; exact ⟨p, xs, e, by rw [sh p e]; exact h1, n p e, h3, r.mono sf⟩
  | od kvs => obtain ⟨p, xs, e, h1, h2, h3, r⟩ := h; exact ⟨p, xs, e, by rw [sh p e]; exact h1, n p e, h3, r.mono sf⟩
  | ot t => obtain ⟨x, fp, e, r, nd, h2⟩ := h; exact ⟨x, fp, e, r.mono sf fun a ha => sh a ⟨x, fp, e, r, ha⟩, nd, fun a ha => ⟨n a ⟨x, fp, e, r, ha⟩, (h2 a ha).2⟩⟩
theorem SlOk.grow {s : Sl} {v : Option V} (h : SlOk K H0 F H s v) (sf : Same F F') (sh : Same H H') (n : ∀ p, F p = none → H p ≠ none → F' p = none) : SlOk K H0 F' H' s v :=
  h.grow2 sf (fun a ha => by
    cases e : H a with
    | none => exact absurd e (h.ft_at ha).1
    | some u => exact sh a u e) fun p hp => n p (h.ft_at hp).2.1 (h.ft_at hp).1
theorem Ok.grow (o : Ok K F0 H0 F H σ ρ) (sf : Same F F') (sh : Same H H') (fh : Same F' H') (n : ∀ p, F p = none → H p ≠ none → F' p = none) : Ok K F0 H0 F' H' σ ρ := by
  refine ⟨⟨o.fin.f0.trans sf, o.fin.h0.trans sh, fh, fun p h1 h2 => ?_⟩, o.len, fun i s v h1 h2 => (o.sl i s v h1 h2).grow sf sh n, fun i j s t v w a hij h1 h2 h3 h4 h5 h6 => o.ap i j s t v w a hij h1 h2 h3 h4 (.back' (o.sl i s v h1 h3) sh h5) (.back' (o.sl j t w h2 h4) sh h6)⟩
  have e := o.fin.fr p h1 h2
  refine n p e ?_
  intro z
  have : H0 p = none := o.fin.h0.free z
  exact h2 this
theorem Ok.call (o : Ok K F0 H0 F H σ ρ) (f : Fin F H F' H') : Ok K F0 H0 F' H' σ ρ := o.grow f.f0 f.h0 f.fh f.fr
/-- a new object, shared -/
theorem Fin.newS {p : Addr} {u : HO} (fh : Same F H) (hp : H p = none) : Fin F H (upd F p u) (upd H p u) := by
  have hf : F p = none := fh.free hp
  refine ⟨fun b w e => by rw [upd_ne (ne_of_none e hf)]; exact e, fun b w e => by rw [upd_ne (ne_of_none e hp)]; exact e, fun b w e => ?_, fun q h1 h2 => ?_⟩
  · by_cases hb : b = p
    · subst hb; rw [upd_same] at e ⊢; exact e
    · rw [upd_ne hb] at e ⊢; exact fh _ _ e
  · have : q ≠ p := fun z => by subst z; exact h2 hp
    rw [upd_ne this]; exact h1
/-- a new object, not yet shared -/
theorem Fin.newO {p : Addr} {u : HO} (fh : Same F H) (hp : H p = none) : Fin F H F (upd H p u) := by
  have s2 : Same H (upd H p u) := fun b w e => by rw [upd_ne (ne_of_none e hp)]; exact e
  exact ⟨L2.Same.refl _, s2, fh.trans s2, fun q h1 _ => h1⟩
/-- a new object becomes shared -/
theorem Fin.share {p : Addr} {u : HO} (f : Fin F H F' H') (n : H p = none) (hp : H' p = some u) (hf : F' p = none) : Same F' (upd F' p u) ∧ Fin F H (upd F' p u) H' := by
  have s1 : Same F' (upd F' p u) := fun b w e => by rw [upd_ne (ne_of_none e hf)]; exact e
  refine ⟨s1, f.f0.trans s1, f.h0, fun b w e => ?_, fun q h1 h2 => ?_⟩
  · by_cases hb : b = p
    · subst hb; rw [upd_same] at e; rw [hp]; exact e
    · rw [upd_ne hb] at e; exact f.fh _ _ e
  · have : q ≠ p := fun z => by subst z; exact h2 n
    rw [upd_ne this]; exact f.fr q h1 h2
end

/-! ### expressions by value -/
abbrev Rel := Hp → Hp → V → Prop
def tG (K : PySem.W.Frag) (ρ : Ev) (R : Rel) : TE := fun σ H Q => ∃ F0 H0 F, Ok K F0 H0 F H σ ρ ∧
  ∀ v F' H', Fin F H F' H' → R F' H' v → Q v H'
def Mono (R : Rel) : Prop := ∀ F F' H H' v, Fin F H F' H' → R F H v → R F' H' v
def rD (K : PySem.W.Frag) (d : D) : Rel := fun F _ v => Rp K F d v
def rL (K : PySem.W.Frag) (ds : List D) : Rel := fun F H v => ∃ a xs, v = .ref a ∧ H a = some (.lst xs) ∧ Rps K F ds xs
/-- read only -/
def rQ (K : PySem.W.Frag) (ds : List D) : Rel := fun F H v => ∃ a xs, v = .ref a ∧ SqL K H a xs ∧ Rps K F ds xs
def rT (K : PySem.W.Frag) (ds : List D) : Rel := fun F H v => ∃ a xs, v = .ref a ∧ SqT K H a xs ∧ Rps K F ds xs
theorem mD {K : PySem.W.Frag} {d : D} : Mono (rD K d) := fun _ _ _ _ _ f h => Rp.mono f.f0 h
theorem mL {K : PySem.W.Frag} {ds : List D} : Mono (rL K ds) := fun _ _ _ _ _ f ⟨a, xs, e, q, r⟩ => ⟨a, xs, e, f.h0 _ _ q, Rps.mono f.f0 r⟩
theorem mQ {K : PySem.W.Frag} {ds : List D} : Mono (rQ K ds) := fun _ _ _ _ _ f ⟨a, xs, e, q, r⟩ => ⟨a, xs, e, L2.Same.seq f.h0 q, Rps.mono f.f0 r⟩
theorem mT {K : PySem.W.Frag} {ds : List D} : Mono (rT K ds) := fun _ _ _ _ _ f ⟨a, xs, e, q, r⟩ => ⟨a, xs, e, Same.tup f.h0 q, Rps.mono f.f0 r⟩
/-- e is d (shared) -/
def DE (X : Cx) (ρ : Ev) (e : Expr) (d : D) : Prop := PE X e (tG X.K ρ (rD X.K d))
/-- e is a list of ds, to be read -/
def DL (X : Cx) (ρ : Ev) (e : Expr) (ds : List D) : Prop := PE X e (tG X.K ρ (rL X.K ds))
def DQ (X : Cx) (ρ : Ev) (e : Expr) (ds : List D) : Prop := PE X e (tG X.K ρ (rQ X.K ds))
/-- a tuple of ds -/
def DU (X : Cx) (ρ : Ev) (e : Expr) (ds : List D) : Prop := PE X e (tG X.K ρ (rT X.K ds))
def tDN (K : PySem.W.Frag) (ρ : Ev) (ds : List D) : TE := fun σ H Q => ∃ F0 H0 F, Ok K F0 H0 F H σ ρ ∧
  ∀ p xs F' H', Fin F H F' H' → H p = none → H' p = some (.lst xs) → F' p = none → Rps K F' ds xs → Q (.ref p) H'
/-- e is a new list of ds -/
def DN (X : Cx) (ρ : Ev) (e : Expr) (ds : List D) : Prop := PE X e (tDN X.K ρ ds)
def tDT (K : PySem.W.Frag) (ρ : Ev) (b : Bool) : TT := fun σ H Q => ∃ F0 H0 F, Ok K F0 H0 F H σ ρ ∧
  ∀ F' H', Fin F H F' H' → Q b H'
def DT (X : Cx) (ρ : Ev) (e : Expr) (b : Bool) : Prop := PT X e (tDT X.K ρ b)
def DW (X : Cx) (ρ : Ev) (e : Expr) (b : Bool) : Prop := PW X e (tDT X.K ρ b)
abbrev Rels := Hp → Hp → List V → Prop
def tA (K : PySem.W.Frag) (ρ : Ev) (R : Rels) : TA := fun σ H Q => ∃ F0 H0 F, Ok K F0 H0 F H σ ρ ∧
  ∀ vs F' H', Fin F H F' H' → R F' H' vs → Q vs H'

def rDs (K : PySem.W.Frag) (ds : List D) : Rels := fun F _ vs => Rps K F ds vs
def rCons (R : Rel) (S : Rels) : Rels := fun F H vs => ∃ y ys, vs = y :: ys ∧ R F H y ∧ S F H ys
def rNil : Rels := fun _ _ vs => vs = []
/-- the arguments es are ds -/
def DA (X : Cx) (ρ : Ev) (es : List Expr) (ds : List D) : Prop := PA X es (tA X.K ρ (rDs X.K ds))
theorem PE.weak {X : Cx} {e : Expr} {t t' : TE} (h : PE X e t) (w : ∀ σ H Q, t' σ H Q → t σ H Q) : PE X e t' := ⟨fun pins s σ H Q I q => h.run pins s σ H Q I (w σ H Q q)⟩
theorem PT.weak {X : Cx} {e : Expr} {t t' : TT} (h : PT X e t) (w : ∀ σ H Q, t' σ H Q → t σ H Q) : PT X e t' := ⟨fun pins s σ H Q I q => h.run pins s σ H Q I (w σ H Q q)⟩
theorem PW.weak {X : Cx} {e : Expr} {t t' : TT} (h : PW X e t) (w : ∀ σ H Q, t' σ H Q → t σ H Q) : PW X e t' := ⟨fun wh pins s σ H Q I q => h.run wh pins s σ H Q I (w σ H Q q)⟩
theorem PA.weak {X : Cx} {e : List Expr} {t t' : TA} (h : PA X e t) (w : ∀ σ H Q, t' σ H Q → t σ H Q) : PA X e t' := ⟨fun pos pins s σ H Q I q => h.run pos pins s σ H Q I (w σ H Q q)⟩
theorem PE.nev {X : Cx} {e : Expr} : PE X e (fun _ _ _ => False) := ⟨fun _ _ _ _ _ _ q => q.elim⟩
theorem PT.nev {X : Cx} {e : Expr} : PT X e (fun _ _ _ => False) := ⟨fun _ _ _ _ _ _ q => q.elim⟩
theorem PW.nev {X : Cx} {e : Expr} : PW X e (fun _ _ _ => False) := ⟨fun _ _ _ _ _ _ _ q => q.elim⟩
theorem PA.nev {X : Cx} {es : List Expr} : PA X es (fun _ _ _ => False) := ⟨fun _ _ _ _ _ _ _ q => q.elim⟩

section
variable {X : Cx} {ρ : Ev} {e a b c : Expr} {es : List Expr} {d d1 d2 : D} {ds : List D} {pos p : Pos} {R R1 S2 : Rel}
theorem DN.de (h : DN X ρ e ds) : DE X ρ e (.lst ds) := PE.weak h fun σ H Q ⟨F0, H0, F, o, q⟩ =>
  ⟨F0, H0, F, o, fun p xs F' H' f' n e1 e2 r => by
    obtain ⟨s3, o3⟩ := f'.share n e1 e2
    exact q _ _ _ o3 ⟨p, xs, rfl, upd_same, r.mono s3⟩⟩
theorem DN.dl (h : DN X ρ e ds) : DL X ρ e ds := PE.weak h fun σ H Q ⟨F0, H0, F, o, q⟩ =>
  ⟨F0, H0, F, o, fun p xs F' H' f' n e1 e2 r => q _ _ _ f' ⟨p, xs, rfl, e1, r⟩⟩
theorem DE.dl (h : DE X ρ e (.lst ds)) : DL X ρ e ds := PE.weak h fun σ H Q ⟨F0, H0, F, o, q⟩ =>
  ⟨F0, H0, F, o, fun v F' H' f' r => by
    obtain ⟨a, xs, rfl, e, r⟩ := r
    exact q _ _ _ f' ⟨a, xs, rfl, f'.fh _ _ e, r⟩⟩
theorem DL.q (h : DL X ρ e ds) : DQ X ρ e ds := PE.weak h fun σ H Q ⟨F0, H0, F, o, q⟩ =>
  ⟨F0, H0, F, o, fun v F' H' f' ⟨a, xs, e, h, r⟩ => q _ _ _ f' ⟨a, xs, e, .of h, r⟩⟩
theorem DE.ro (h : DE X ρ e (.ro ds)) : DQ X ρ e ds := PE.weak h fun σ H Q ⟨F0, H0, F, o, q⟩ =>
  ⟨F0, H0, F, o, fun v F' H' f' ⟨a, xs, e, h, r⟩ => q _ _ _ f' ⟨a, xs, e, L2.Same.seq f'.fh h, r⟩⟩
theorem DE.du (h : DE X ρ e (.tup ds)) : DU X ρ e ds := PE.weak h fun σ H Q ⟨F0, H0, F, o, q⟩ =>
  ⟨F0, H0, F, o, fun v F' H' f' ⟨a, xs, e, h, r⟩ => q _ _ _ f' ⟨a, xs, e, Same.tup f'.fh h, r⟩⟩
theorem DE.dq (h : DE X ρ e (.lst ds)) : DQ X ρ e ds := h.dl.q
theorem DN.q (h : DN X ρ e ds) : DQ X ρ e ds := h.dl.q
theorem DE.eq (h : DE X ρ e d) (q : d = d1) : DE X ρ e d1 := q ▸ h
theorem DN.eq {es : List D} (h : DN X ρ e ds) (q : ds = es) : DN X ρ e es := q ▸ h
theorem DL.eq {es : List D} (h : DL X ρ e ds) (q : ds = es) : DL X ρ e es := q ▸ h
theorem DT.eq {b c : Bool} (h : DT X ρ e b) (q : b = c) : DT X ρ e c := q ▸ h
theorem DW.pt {b : Bool} (h : DW X ρ e b) : DT X ρ e b := L2.PW.pt h

/-! operands -/
theorem one (ha : PE X a (tG X.K ρ R1)) {r : V → Hp → VK → Prop} (h : PE X e (fun σ H Q => tG X.K ρ R1 σ H fun x H1 => r x H1 Q))
    (w : ∀ (F H : Hp) (x : V) (Q : VK), Same F H → R1 F H x → (∀ v, R F H v → Q v H) → r x H Q) : PE X e (tG X.K ρ R) := PE.weak h fun σ H Q ⟨F0, H0, F, o, q⟩ =>
  ⟨F0, H0, F, o, fun x F1 H1 f1 r1 => w F1 H1 x Q f1.fh r1 fun v rv => q v F1 H1 f1 rv⟩
theorem two (m1 : Mono R1) {r : R2} (h : PE X e (tOp r (tG X.K ρ R1) (tG X.K ρ S2)))
    (w : ∀ (F H : Hp) (x y : V) (Q : VK), Same F H → R1 F H x → S2 F H y → (∀ v, R F H v → Q v H) → r x y H Q) : PE X e (tG X.K ρ R) := PE.weak h fun σ H Q ⟨F0, H0, F, o, q⟩ =>
  ⟨F0, H0, F, o, fun x F1 H1 f1 r1 => ⟨F0, H0, F1, o.call f1, fun y F2 H2 f2 r2 => w F2 H2 x y Q f2.fh (m1 _ _ _ _ _ f2 r1) r2 fun v rv => q v F2 H2 (f1.trans f2) rv⟩⟩
theorem two_new (m1 : Mono R1) {r : R2} (h : PE X e (tOp r (tG X.K ρ R1) (tG X.K ρ S2)))
    (w : ∀ (F H : Hp) (x y : V) (Q : VK), Same F H → R1 F H x → S2 F H y → (∀ p xs, H p = none → Rps X.K F ds xs → Q (.ref p) (upd H p (.lst xs))) → r x y H Q) : DN X ρ e ds := PE.weak h fun σ H Q ⟨F0, H0, F, o, q⟩ =>
  ⟨F0, H0, F, o, fun x F1 H1 f1 r1 => ⟨F0, H0, F1, o.call f1, fun y F2 H2 f2 r2 => w F2 H2 x y Q f2.fh (m1 _ _ _ _ _ f2 r1) r2 fun p xs hp rv => by
    have g1 := Fin.newO (u := .lst xs) f2.fh hp
    exact q p xs F2 _ ((f1.trans f2).trans g1) ((f1.trans f2).h0.free hp) upd_same (f2.fh.free hp) rv⟩⟩
theorem args {S : Rels} {r : List V → Hp → VK → Prop} {t : TA} (h : PE X e (fun σ H Q => t σ H fun vs H1 => r vs H1 Q)) (ht : t = tA X.K ρ S)
    (w : ∀ (F H : Hp) (vs : List V) (Q : VK), Same F H → S F H vs → (∀ v, R F H v → Q v H) → r vs H Q) : PE X e (tG X.K ρ R) := PE.weak h fun σ H Q ⟨F0, H0, F, o, q⟩ => by
  subst ht
  exact ⟨F0, H0, F, o, fun x F1 H1 f1 r1 => w F1 H1 x Q f1.fh r1 fun v rv => q v F1 H1 f1 rv⟩
theorem args_new {S : Rels} {r : List V → Hp → VK → Prop} {t : TA} (h : PE X e (fun σ H Q => t σ H fun vs H1 => r vs H1 Q)) (ht : t = tA X.K ρ S)
    (w : ∀ (F H : Hp) (vs : List V) (Q : VK), Same F H → S F H vs → (∀ p xs, H p = none → Rps X.K F ds xs → Q (.ref p) (upd H p (.lst xs))) → r vs H Q) : DN X ρ e ds := PE.weak h fun σ H Q ⟨F0, H0, F, o, q⟩ => by
  subst ht
  exact ⟨F0, H0, F, o, fun x F1 H1 f1 r1 => w F1 H1 x Q f1.fh r1 fun p xs hp rv => by
    have g1 := Fin.newO (u := .lst xs) f1.fh hp
    exact q p xs F1 _ (f1.trans g1) (f1.h0.free hp) upd_same (f1.fh.free hp) rv⟩
theorem pa_nilG : PA X [] (tA X.K ρ rNil) := PA.weak pa_nil fun σ H Q ⟨F0, H0, F, o, q⟩ => q [] F H (.refl o.fin.fh) rfl
theorem pa_consG {S : Rels} (m : Mono R) (ha : PE X e (tG X.K ρ R)) (hr : PA X es (tA X.K ρ S)) (hs : starEach (e :: es) X.env = (false, eval e X.env) :: starEach es X.env := by rfl) : PA X (e :: es) (tA X.K ρ (rCons R S)) :=
  PA.weak (pa_cons ha hr hs) fun σ H Q ⟨F0, H0, F, o, q⟩ => ⟨F0, H0, F, o, fun x F1 H1 f1 r1 => ⟨F0, H0, F1, o.call f1, fun ys F2 H2 f2 r2 => q _ F2 H2 (f1.trans f2) ⟨x, ys, rfl, m _ _ _ _ _ f2 r1, r2⟩⟩⟩
theorem da_nil : DA X ρ [] [] := PA.weak pa_nil fun σ H Q ⟨F0, H0, F, o, q⟩ => q [] F H (.refl o.fin.fh) rfl
theorem da_cons (ha : DE X ρ e d) (hr : DA X ρ es ds) (hs : starEach (e :: es) X.env = (false, eval e X.env) :: starEach es X.env := by rfl) : DA X ρ (e :: es) (d :: ds) := pa_consG mD ha hr hs

/-! names and constants -/
theorem slot_at {i : Nat} {s : Sl} {F0 H0 F H : Hp} {σ : L2.St} (o : Ok X.K F0 H0 F H σ ρ) (h : ρ[i]? = some s) : ∃ v, σ[i]? = some v ∧ SlOk X.K H0 F H s v := by
  have hi : i < ρ.length := (List.getElem?_eq_some_iff.mp h).1
  have hi' : i < σ.length := by rw [o.len]; exact hi
  exact ⟨σ[i], by simp [hi'], o.sl i _ σ[i] h (by simp [hi'])⟩
theorem de_var (i : Nat) {x : Str} (h : ρ[i]? = some (.sh d) := by rfl) (hN : X.N[i]? = some x := by rfl) (hv : Vis X.env.scope x := by first | exact Or.inl rfl | exact Or.inr (Or.inl rfl) | exact Or.inr (Or.inr rfl)) (hd : (x == ("__debug__" : Str)) = false := by decide)
    (hcd : (x == ("__classdict__" : Str)) = false := by decide) : DE X ρ (.Name x pos) d := PE.weak (pe_var hN hv hd hcd) fun σ H Q ⟨F0, H0, F, o, q⟩ => by
  obtain ⟨v, e, y, rfl, r⟩ := slot_at o h
  exact ⟨y, e, q _ _ _ (.refl o.fin.fh) r⟩
/-- a list that is owned here, read -/
theorem dl_var (i : Nat) {x : Str} (h : ρ[i]? = some (.ow ds) := by rfl) (hN : X.N[i]? = some x := by rfl) (hv : Vis X.env.scope x := by first | exact Or.inl rfl | exact Or.inr (Or.inl rfl) | exact Or.inr (Or.inr rfl)) (hd : (x == ("__debug__" : Str)) = false := by decide)
    (hcd : (x == ("__classdict__" : Str)) = false := by decide) : DL X ρ (.Name x pos) ds := PE.weak (pe_var hN hv hd hcd) fun σ H Q ⟨F0, H0, F, o, q⟩ => by
  obtain ⟨v, e, p, xs, rfl, h1, h2, h3, r⟩ := slot_at o h
  exact ⟨.ref p, e, q _ _ _ (.refl o.fin.fh) ⟨p, xs, rfl, h1, r⟩⟩
theorem de_c {v : V} (h : PE X e (tC v)) (r : ∀ F, Rp X.K F d v) : DE X ρ e d := PE.weak h fun σ H Q ⟨F0, H0, F, o, q⟩ => q _ _ _ (.refl o.fin.fh) (r F)
theorem de_int {i j} : DE X ρ (.Constant (.int i) j pos) (.int i) := de_c pe_int fun _ => rfl
theorem de_bl {b j} : DE X ρ (.Constant (.bool b) j pos) (.bl b) := de_c pe_bl fun _ => rfl
theorem de_non {j} : DE X ρ (.Constant .none j pos) .non := de_c pe_non fun _ => rfl
theorem de_str {x j} : DE X ρ (.Constant (.str x) j pos) (.str x) := de_c pe_str fun _ => rfl
/-- a module's constant -/
theorem de_glob {x : Str} {v : V} {u : Value} (hg : Gl X x) (hm : X.mg x = some u) (r : RelV v u) (q : ∀ F, Rp X.K F d v) (hd : (x == ("__debug__" : Str)) = false := by decide) : DE X ρ (.Name x pos) d := de_c (pe_glob hg hm r hd) q

/-! operators on ints -/
section
variable {i j : Int}
theorem de_opI {op : Operator} {C : Int → Int → Prop} {g : Int → Int → V} {i j : Int} {d : D} (ho : OpR X (binaryOp op) (rI C g)) (ha : DE X ρ a (.int i)) (hb : DE X ρ b (.int j)) (hc : C i j) (hd : ∀ F, Rp X.K F d (g i j)) : DE X ρ (.BinOp a op b pos) d :=
  two mD (pe_op ho ha hb) fun F H x y Q s r1 r2 q => ⟨i, j, r1, r2, hc, q _ (hd F)⟩
theorem de_opI0 {op : Operator} {g : Int → Int → V} {i j : Int} {d : D} (ho : OpR X (binaryOp op) (rI0 g)) (ha : DE X ρ a (.int i)) (hb : DE X ρ b (.int j)) (hd : ∀ F, Rp X.K F d (g i j)) : DE X ρ (.BinOp a op b pos) d :=
  two mD (pe_op ho ha hb) fun F H x y Q s r1 r2 q => ⟨i, j, r1, r2, q _ (hd F)⟩
theorem de_add (ha : DE X ρ a (.int i)) (hb : DE X ρ b (.int j)) : DE X ρ (.BinOp a .Add b pos) (.int (i + j)) := de_opI0 op_add ha hb fun _ => rfl
theorem de_sub (ha : DE X ρ a (.int i)) (hb : DE X ρ b (.int j)) : DE X ρ (.BinOp a .Sub b pos) (.int (i - j)) := de_opI0 op_sub ha hb fun _ => rfl
theorem de_mul (ha : DE X ρ a (.int i)) (hb : DE X ρ b (.int j)) (h : CMul i j) : DE X ρ (.BinOp a .Mult b pos) (.int (i * j)) := de_opI op_mul ha hb h fun _ => rfl
theorem de_fdiv (ha : DE X ρ a (.int i)) (hb : DE X ρ b (.int j)) (h : 0 < j ∧ j < 1073741824) : DE X ρ (.BinOp a .FloorDiv b pos) (.int (i / j)) := de_opI op_fdiv ha hb h fun _ => rfl
theorem de_mod (ha : DE X ρ a (.int i)) (hb : DE X ρ b (.int j)) (h : 0 < j) : DE X ρ (.BinOp a .Mod b pos) (.int (i % j)) := de_opI op_mod ha hb h fun _ => rfl
theorem de_pow (ha : DE X ρ a (.int i)) (hb : DE X ρ b (.int j)) (h : 0 ≤ j ∧ j ≤ 1000000 ∧ i.natAbs < 2 ^ 64) : DE X ρ (.BinOp a .Pow b pos) (.int (i ^ j.toNat)) := de_opI op_pow ha hb h fun _ => rfl
theorem de_shl (ha : DE X ρ a (.int i)) (hb : DE X ρ b (.int j)) (h : 0 ≤ j ∧ j ≤ 1000000 ∧ i.natAbs < 2 ^ 64) : DE X ρ (.BinOp a .LShift b pos) (.int (i * 2 ^ j.toNat)) := de_opI op_shl ha hb h fun _ => rfl
theorem de_shr (ha : DE X ρ a (.int i)) (hb : DE X ρ b (.int j)) (h : 0 ≤ j) : DE X ρ (.BinOp a .RShift b pos) (.int (i / 2 ^ j.toNat)) := de_opI op_shr ha hb h fun _ => rfl
theorem de_band (ha : DE X ρ a (.int i)) (hb : DE X ρ b (.int j)) : DE X ρ (.BinOp a .BitAnd b pos) (.int (Builtin.bitAnd i j)) := de_opI0 op_and ha hb fun _ => rfl
theorem de_bor (ha : DE X ρ a (.int i)) (hb : DE X ρ b (.int j)) : DE X ρ (.BinOp a .BitOr b pos) (.int (Builtin.bitOr i j)) := de_opI0 op_or ha hb fun _ => rfl
theorem de_bxor (ha : DE X ρ a (.int i)) (hb : DE X ρ b (.int j)) : DE X ρ (.BinOp a .BitXor b pos) (.int (Builtin.bitXor i j)) := de_opI0 op_xor ha hb fun _ => rfl
theorem de_neg (ha : DE X ρ a (.int i)) : DE X ρ (.UnaryOp .USub a pos) (.int (-i)) := one ha (pe_un un_neg ha) fun F H x Q _ r q => ⟨i, r, q _ rfl⟩
theorem de_inv (ha : DE X ρ a (.int i)) : DE X ρ (.UnaryOp .Invert a pos) (.int (Builtin.bitNot i)) := one ha (pe_un un_inv ha) fun F H x Q _ r q => ⟨i, r, q _ rfl⟩
/-! comparisons of ints -/
theorem de_cmpI {op : CmpOp} {g : Int → Int → V} {d : D} (ho : OpR X (compareOp op) (rI0 g)) (ha : DE X ρ a (.int i)) (hb : DE X ρ b (.int j)) (hm : behindInMarks op b = false) (hd : ∀ F, Rp X.K F d (g i j)) : DE X ρ (.Compare a [op] [b] pos) d :=
  two mD (pe_cmpR ho ha hb hm) fun F H x y Q s r1 r2 q => ⟨i, j, r1, r2, q _ (hd F)⟩
theorem de_lt (ha : DE X ρ a (.int i)) (hb : DE X ρ b (.int j)) : DE X ρ (.Compare a [.Lt] [b] pos) (.bl (decide (i < j))) := de_cmpI op_lt ha hb (nomark _) fun _ => rfl
theorem de_le (ha : DE X ρ a (.int i)) (hb : DE X ρ b (.int j)) : DE X ρ (.Compare a [.LtE] [b] pos) (.bl (decide (i ≤ j))) := de_cmpI op_le ha hb (nomark _) fun _ => rfl
theorem de_gt (ha : DE X ρ a (.int i)) (hb : DE X ρ b (.int j)) : DE X ρ (.Compare a [.Gt] [b] pos) (.bl (decide (j < i))) := de_cmpI op_gt ha hb (nomark _) fun _ => rfl
theorem de_ge (ha : DE X ρ a (.int i)) (hb : DE X ρ b (.int j)) : DE X ρ (.Compare a [.GtE] [b] pos) (.bl (decide (j ≤ i))) := de_cmpI op_ge ha hb (nomark _) fun _ => rfl
end
end
end DL

set_option Elab.async false
set_option linter.all false
set_option maxRecDepth 100000
set_option autoImplicit false
namespace DL
open PySem PySem.Spec PyProof.Rows L2

/-! ### tests -/
section
variable {X : Cx} {ρ : Ev} {e a b c : Expr} {es : List Expr} {d d1 d2 : D} {ds : List D} {pos p : Pos} {R R1 S2 : Rel} {k k1 k2 : Bool}
theorem dt_val (h : DE X ρ e (.bl k)) (he : ∀ whole, isTrue e X.env whole = (do let v ← whole; standAt e.pos; holding [v] (truthy v)) := by intro _; rfl) : DT X ρ e k :=
  PT.weak (pt_val h he) fun σ H Q ⟨F0, H0, F, o, q⟩ => ⟨F0, H0, F, o, fun v F' H' f' r => ⟨k, r, q F' H' f'⟩⟩
/-- a comparison by its rule -/
structure DC (X : Cx) (ρ : Ev) (op : CmpOp) (a b : Expr) (k : Bool) : Prop where
  ex : ∃ (r : R2) (R1 R2 : Rel), OpR X (compareOp op) r ∧ PE X a (tG X.K ρ R1) ∧ PE X b (tG X.K ρ R2) ∧ Mono R1 ∧
    ∀ (F H : Hp) (x y : V) (Q : VK), Same F H → R1 F H x → R2 F H y → Q (.bl k) H → r x y H Q
theorem DC.de {op : CmpOp} (h : DC X ρ op a b k) (hm : behindInMarks op b = false := by first | exact nomark _ | rfl) : DE X ρ (.Compare a [op] [b] pos) (.bl k) := by
  obtain ⟨r, R1, R2, ho, ha, hb, m, w⟩ := h.ex
  exact two m (pe_cmpR ho ha hb hm) fun F H x y Q s r1 r2 q => w F H x y Q s r1 r2 (q _ rfl)
theorem DC.dt {op : CmpOp} (h : DC X ρ op a b k) (hm : behindInMarks op b = false := by first | exact nomark _ | rfl) : DT X ρ (.Compare a [op] [b] pos) k := by
  obtain ⟨r, R1, R2, ho, ha, hb, m, w⟩ := h.ex
  exact PT.weak (pt_cmpR ho ha hb hm) fun σ H Q ⟨F0, H0, F, o, q⟩ => ⟨F0, H0, F, o, fun x F1 H1 f1 r1 => ⟨F0, H0, F1, o.call f1, fun y F2 H2 f2 r2 => w F2 H2 x y _ f2.fh (m _ _ _ _ _ f2 r1) r2 ⟨k, rfl, q F2 H2 (f1.trans f2)⟩⟩⟩
theorem DC.eq {op : CmpOp} (h : DC X ρ op a b k) (q : k = k1) : DC X ρ op a b k1 := q ▸ h
section
variable {i j : Int}
theorem dc_I {op : CmpOp} {g : Int → Int → Bool} (ho : OpR X (compareOp op) (rI0 fun i j => .bl (g i j))) (ha : DE X ρ a (.int i)) (hb : DE X ρ b (.int j)) : DC X ρ op a b (g i j) :=
  ⟨_, _, _, ho, ha, hb, mD, fun F H x y Q s r1 r2 q => ⟨i, j, r1, r2, q⟩⟩
theorem dc_lt (ha : DE X ρ a (.int i)) (hb : DE X ρ b (.int j)) : DC X ρ .Lt a b (decide (i < j)) := dc_I op_lt ha hb
theorem dc_le (ha : DE X ρ a (.int i)) (hb : DE X ρ b (.int j)) : DC X ρ .LtE a b (decide (i ≤ j)) := dc_I op_le ha hb
theorem dc_gt (ha : DE X ρ a (.int i)) (hb : DE X ρ b (.int j)) : DC X ρ .Gt a b (decide (j < i)) := dc_I op_gt ha hb
theorem dc_ge (ha : DE X ρ a (.int i)) (hb : DE X ρ b (.int j)) : DC X ρ .GtE a b (decide (j ≤ i)) := dc_I op_ge ha hb
theorem dc_eqI (ha : DE X ρ a (.int i)) (hb : DE X ρ b (.int j)) : DC X ρ .Eq a b (decide (i = j)) :=
  ⟨_, _, _, op_eq, ha, hb, mD, fun F H x y Q s r1 r2 q => by cases r1; cases r2; exact ⟨rfl, by simpa [dec_int, Bool.beq_eq_decide_eq] using q⟩⟩
theorem dc_neI (ha : DE X ρ a (.int i)) (hb : DE X ρ b (.int j)) : DC X ρ .NotEq a b (!decide (i = j)) :=
  ⟨_, _, _, op_ne, ha, hb, mD, fun F H x y Q s r1 r2 q => by cases r1; cases r2; exact ⟨rfl, by simpa [dec_int, Bool.beq_eq_decide_eq] using q⟩⟩
end
theorem dc_eqS {x y : Str} (ha : DE X ρ a (.str x)) (hb : DE X ρ b (.str y)) : DC X ρ .Eq a b (decide (x = y)) :=
  ⟨_, _, _, op_eq, ha, hb, mD, fun F H u v Q s r1 r2 q => by cases r1; cases r2; exact ⟨rfl, by simpa using q⟩⟩
theorem dc_neS {x y : Str} (ha : DE X ρ a (.str x)) (hb : DE X ρ b (.str y)) : DC X ρ .NotEq a b (!decide (x = y)) :=
  ⟨_, _, _, op_ne, ha, hb, mD, fun F H u v Q s r1 r2 q => by cases r1; cases r2; exact ⟨rfl, by simpa using q⟩⟩
theorem dc_eqB {x y : Bool} (ha : DE X ρ a (.bl x)) (hb : DE X ρ b (.bl y)) : DC X ρ .Eq a b (decide (x = y)) :=
  ⟨_, _, _, op_eq, ha, hb, mD, fun F H u v Q s r1 r2 q => by cases r1; cases r2; exact ⟨rfl, by simpa using q⟩⟩
theorem dc_neB {x y : Bool} (ha : DE X ρ a (.bl x)) (hb : DE X ρ b (.bl y)) : DC X ρ .NotEq a b (!decide (x = y)) :=
  ⟨_, _, _, op_ne, ha, hb, mD, fun F H u v Q s r1 r2 q => by cases r1; cases r2; exact ⟨rfl, by simpa using q⟩⟩
theorem dc_isB {x y : Bool} (ha : DE X ρ a (.bl x)) (hb : DE X ρ b (.bl y)) : DC X ρ .Is a b (decide (x = y)) :=
  ⟨_, _, _, op_isBl, ha, hb, mD, fun F H u v Q s r1 r2 q => ⟨x, y, r1, r2, q⟩⟩
theorem dc_notB {x y : Bool} (ha : DE X ρ a (.bl x)) (hb : DE X ρ b (.bl y)) : DC X ρ .IsNot a b (!decide (x = y)) :=
  ⟨_, _, _, op_notBl, ha, hb, mD, fun F H u v Q s r1 r2 q => ⟨x, y, r1, r2, q⟩⟩
/-! is None -/
def isN : D → Bool
  | .non => true
  | .sc .non => true
  | _ => false
theorem isN_of {K : PySem.W.Frag} {F : Hp} {v : V} : ∀ {d : D}, Rp K F d v → decide (v = .non) = isN d
  | .non, h => by cases h; rfl
  | .bl _, h => by cases h; rfl
  | .int _, h => by cases h; rfl
  | .str _, h => by cases h; rfl
  | .sc x, h => by cases h; cases v <;> rfl
  | .tup _, h => by obtain ⟨a, xs, rfl, _⟩ := h; rfl
  | .lst _, h => by obtain ⟨a, xs, rfl, _⟩ := h; rfl
  | .ro _, h => by obtain ⟨a, xs, rfl, _⟩ := h; rfl
  | .ins _ _, h => by obtain ⟨a, dx, xs, rfl, _⟩ := h; rfl
  | .dic _, h => by obtain ⟨a, xs, rfl, _⟩ := h; rfl
  | .xo _ _ _, h => by obtain ⟨gs, rfl, _⟩ := h; rfl
theorem dc_isN (ha : DE X ρ a d) (hb : DE X ρ b .non) : DC X ρ .Is a b (isN d) :=
  ⟨_, _, _, op_isN, ha, hb, mD, fun F H u v Q s r1 r2 q => ⟨r2, by rw [isN_of r1]; exact q⟩⟩
theorem dc_notN (ha : DE X ρ a d) (hb : DE X ρ b .non) : DC X ρ .IsNot a b (!isN d) :=
  ⟨_, _, _, op_notN, ha, hb, mD, fun F H u v Q s r1 r2 q => ⟨r2, by rw [isN_of r1]; exact q⟩⟩

/-! ### and, or, not, if -/
theorem dw_and1 (ha : DT X ρ a k) : DW X ρ (.BoolOp .And [a] pos) k := pw_and1 ha
theorem dw_or1 (ha : DT X ρ a k) : DW X ρ (.BoolOp .Or [a] pos) k := pw_or1 ha
theorem dw_and {r : List Expr} (ha : DT X ρ a k1) (hb : k1 = true → DW X ρ (.BoolOp .And (b :: r) pos) k2) : DW X ρ (.BoolOp .And (a :: b :: r) pos) (k1 && k2) := by
  cases k1 with
  | true => exact PW.weak (pw_and ha (hb rfl)) fun σ H Q ⟨F0, H0, F, o, q⟩ => ⟨F0, H0, F, o, fun F' H' f' => iteT ⟨F0, H0, F', o.call f', fun F2 H2 f2 => q F2 H2 (f'.trans f2)⟩⟩
  | false => exact PW.weak (pw_and ha PW.nev) fun σ H Q ⟨F0, H0, F, o, q⟩ => ⟨F0, H0, F, o, fun F' H' f' => iteF (q F' H' f')⟩
theorem dw_or {r : List Expr} (ha : DT X ρ a k1) (hb : k1 = false → DW X ρ (.BoolOp .Or (b :: r) pos) k2) : DW X ρ (.BoolOp .Or (a :: b :: r) pos) (k1 || k2) := by
  cases k1 with
  | false => exact PW.weak (pw_or ha (hb rfl)) fun σ H Q ⟨F0, H0, F, o, q⟩ => ⟨F0, H0, F, o, fun F' H' f' => iteF ⟨F0, H0, F', o.call f', fun F2 H2 f2 => q F2 H2 (f'.trans f2)⟩⟩
  | true => exact PW.weak (pw_or ha PW.nev) fun σ H Q ⟨F0, H0, F, o, q⟩ => ⟨F0, H0, F, o, fun F' H' f' => iteT (q F' H' f')⟩
theorem dt_not (ha : DT X ρ a k) : DT X ρ (.UnaryOp .Not a pos) (!k) := PT.weak (pt_not ha) fun σ H Q ⟨F0, H0, F, o, q⟩ => ⟨F0, H0, F, o, fun F' H' f' => q F' H' f'⟩
theorem de_not (ha : DE X ρ a (.bl k)) : DE X ρ (.UnaryOp .Not a pos) (.bl (!k)) := PE.weak (pe_not ha) fun σ H Q ⟨F0, H0, F, o, q⟩ => ⟨F0, H0, F, o, fun v F' H' f' r => ⟨k, r, q _ F' H' f' rfl⟩⟩
/-- and, or as values of truth -/
theorem de_one {o : BoolOp} (ha : DE X ρ a d) : DE X ρ (.BoolOp o [a] pos) d := L2.pe_one ha
theorem de_and {r : List Expr} (ha : DE X ρ a (.bl k1)) (hb : k1 = true → DE X ρ (.BoolOp .And (b :: r) pos) (.bl k2)) : DE X ρ (.BoolOp .And (a :: b :: r) pos) (.bl (k1 && k2)) := by
  cases k1 with
  | true => exact PE.weak (pe_and ha (hb rfl)) fun σ H Q ⟨F0, H0, F, o, q⟩ => ⟨F0, H0, F, o, fun v F' H' f' r => ⟨true, r, iteT ⟨F0, H0, F', o.call f', fun v2 F2 H2 f2 r2 => q v2 F2 H2 (f'.trans f2) r2⟩⟩⟩
  | false => exact PE.weak (pe_and ha PE.nev) fun σ H Q ⟨F0, H0, F, o, q⟩ => ⟨F0, H0, F, o, fun v F' H' f' r => ⟨false, r, iteF (q _ F' H' f' rfl)⟩⟩
theorem de_or {r : List Expr} (ha : DE X ρ a (.bl k1)) (hb : k1 = false → DE X ρ (.BoolOp .Or (b :: r) pos) (.bl k2)) : DE X ρ (.BoolOp .Or (a :: b :: r) pos) (.bl (k1 || k2)) := by
  cases k1 with
  | false => exact PE.weak (pe_or ha (hb rfl)) fun σ H Q ⟨F0, H0, F, o, q⟩ => ⟨F0, H0, F, o, fun v F' H' f' r => ⟨false, r, iteF ⟨F0, H0, F', o.call f', fun v2 F2 H2 f2 r2 => q v2 F2 H2 (f'.trans f2) r2⟩⟩⟩
  | true => exact PE.weak (pe_or ha PE.nev) fun σ H Q ⟨F0, H0, F, o, q⟩ => ⟨F0, H0, F, o, fun v F' H' f' r => ⟨true, r, iteT (q _ F' H' f' rfl)⟩⟩
theorem dg_if {R : Rel} (hc : DT X ρ c k) (ha : k = true → PE X a (tG X.K ρ R)) (hb : k = false → PE X b (tG X.K ρ R)) : PE X (.IfExp c a b pos) (tG X.K ρ R) := by
  cases k with
  | true => exact PE.weak (pe_ifExp hc (ha rfl) PE.nev) fun σ H Q ⟨F0, H0, F, o, q⟩ => ⟨F0, H0, F, o, fun F' H' f' => iteT ⟨F0, H0, F', o.call f', fun v F2 H2 f2 r2 => q v F2 H2 (f'.trans f2) r2⟩⟩
  | false => exact PE.weak (pe_ifExp hc PE.nev (hb rfl)) fun σ H Q ⟨F0, H0, F, o, q⟩ => ⟨F0, H0, F, o, fun F' H' f' => iteF ⟨F0, H0, F', o.call f', fun v F2 H2 f2 r2 => q v F2 H2 (f'.trans f2) r2⟩⟩
theorem de_if (hc : DT X ρ c k) (ha : k = true → DE X ρ a d1) (hb : k = false → DE X ρ b d2) : DE X ρ (.IfExp c a b pos) (if k = true then d1 else d2) := by
  refine dg_if hc (fun h => ?_) (fun h => ?_)
  · rw [if_pos h]; exact ha h
  · rw [h]; exact hb h
theorem de_ifI {i j : Int} (hc : DT X ρ c k) (ha : k = true → DE X ρ a (.int i)) (hb : k = false → DE X ρ b (.int j)) : DE X ρ (.IfExp c a b pos) (.int (if k = true then i else j)) := by
  refine dg_if hc (fun h => ?_) (fun h => ?_)
  · rw [if_pos h]; exact ha h
  · rw [h]; exact hb h
/-- a chain of two comparisons of ints -/
theorem de_chain {o1 o2 : CmpOp} {g1 g2 : Int → Int → Bool} {i j l : Int} (h1 : OpR X (compareOp o1) (rI0 fun i j => .bl (g1 i j))) (h2 : OpR X (compareOp o2) (rI0 fun i j => .bl (g2 i j))) (ha : DE X ρ a (.int i)) (hb : DE X ρ b (.int j)) (hc : DE X ρ c (.int l))
    (hm : lastMarks [o1, o2] [b, c] = false := by with_unfolding_all rfl) : DE X ρ (.Compare a [o1, o2] [b, c] pos) (.bl (g1 i j && g2 j l)) :=
  PE.weak (pe_chain h1 h2 ha hb hc hm) fun σ H Q ⟨F0, H0, F, o, q⟩ => ⟨F0, H0, F, o, fun x F1 H1 f1 r1 => ⟨F0, H0, F1, o.call f1, fun y F2 H2 f2 r2 => ⟨i, j, r1, r2, g1 i j, rfl, by
    cases e : g1 i j with
    | false => exact iteF (q _ _ _ (f1.trans f2) (by rw [e]; rfl))
    | true => exact iteT ⟨F0, H0, F2, (o.call f1).call f2, fun z F3 H3 f3 r3 => ⟨j, l, r2, r3, q _ _ _ ((f1.trans f2).trans f3) (by rw [e]; rfl)⟩⟩⟩⟩⟩
theorem dt_chain {o1 o2 : CmpOp} {g1 g2 : Int → Int → Bool} {i j l : Int} (h1 : OpR X (compareOp o1) (rI0 fun i j => .bl (g1 i j))) (h2 : OpR X (compareOp o2) (rI0 fun i j => .bl (g2 i j))) (ha : DE X ρ a (.int i)) (hb : DE X ρ b (.int j)) (hc : DE X ρ c (.int l))
    (hm : lastMarks [o1, o2] [b, c] = false := by with_unfolding_all rfl) : DT X ρ (.Compare a [o1, o2] [b, c] pos) (g1 i j && g2 j l) :=
  PT.weak (pt_chain h1 h2 ha hb hc hm) fun σ H Q ⟨F0, H0, F, o, q⟩ => ⟨F0, H0, F, o, fun x F1 H1 f1 r1 => ⟨F0, H0, F1, o.call f1, fun y F2 H2 f2 r2 => ⟨i, j, r1, r2, g1 i j, rfl, by
    cases e : g1 i j with
    | false => exact iteF ⟨_, rfl, by have := q _ _ (f1.trans f2); rw [e] at this; exact this⟩
    | true => exact iteT ⟨F0, H0, F2, (o.call f1).call f2, fun z F3 H3 f3 r3 => ⟨j, l, r2, r3, _, rfl, by have := q _ _ ((f1.trans f2).trans f3); rw [e] at this; exact this⟩⟩⟩⟩⟩
end
end DL

set_option Elab.async false
set_option linter.all false
set_option maxRecDepth 100000
set_option autoImplicit false
namespace DL
open PySem PySem.Spec PyProof.Rows L2

theorem Rps.atI {K : PySem.W.Frag} {F : Hp} {ds : List D} {vs : List V} {i : Int} {d : D} (h : Rps K F ds vs) (e : L2.atI ds i = some d) : ∃ v, L2.atI vs i = some v ∧ Rp K F d v := by
  unfold L2.atI at e ⊢
  rw [h.length]
  cases q : ixN ds.length i with
  | none => rw [q] at e; cases e
  | some j =>
    rw [q] at e
    obtain ⟨v, e1, e2⟩ := h.get (show ds[j]? = some d from e)
    exact ⟨v, e1, e2⟩
theorem atI_pos {α : Type} {xs : List α} {i : Int} (d : α) (h0 : 0 ≤ i) (h1 : i < xs.length) : L2.atI xs i = some (xs.getD i.toNat d) := by
  have h : i.toNat < xs.length := by omega
  obtain ⟨j, rfl⟩ : ∃ j : Nat, i = (j : Int) := ⟨i.toNat, by omega⟩
  rw [show ((j : Int).toNat) = j from rfl] at h ⊢
  rw [L2.atI_nat (v := xs[j]) (by simp [h])]
  simp [List.getD, h]
theorem atI_neg {α : Type} {xs : List α} {i : Int} (d : α) (h0 : i < 0) (h1 : -(xs.length : Int) ≤ i) : L2.atI xs i = some (xs.getD (i + xs.length).toNat d) := by
  have h : (i + xs.length).toNat < xs.length := by omega
  unfold L2.atI L2.ixN
  rw [if_neg (by omega), if_pos h1]
  show xs[(i + xs.length).toNat]? = _
  simp [List.getD, h]
theorem atI_map {α β : Type} {f : α → β} {xs : List α} {i : Int} {x : α} (h : L2.atI xs i = some x) : L2.atI (xs.map f) i = some (f x) := by
  unfold L2.atI at h ⊢
  rw [List.length_map]
  cases q : ixN xs.length i with
  | none => rw [q] at h; cases h
  | some j =>
    rw [q] at h
    show (xs.map f)[j]? = _
    rw [List.getElem?_map]
    have h : xs[j]? = some x := h
    rw [h]; rfl
/-- xs[lo:hi] -/
def cut {α : Type} (xs : List α) (lo hi : Option Int) : List α := (xs.drop (HT.sIx xs.length 0 lo)).take (HT.sIx xs.length xs.length hi - HT.sIx xs.length 0 lo)
theorem cut_map {α β : Type} (f : α → β) (xs : List α) (lo hi : Option Int) : cut (xs.map f) lo hi = (cut xs lo hi).map f := by
  unfold cut
  rw [List.length_map, List.map_take, List.map_drop]
theorem Rps.cut {K : PySem.W.Frag} {F : Hp} {ds : List D} {vs : List V} (lo hi : Option Int) (h : Rps K F ds vs) : Rps K F (DL.cut ds lo hi) (cutV vs lo hi) := by
  unfold DL.cut cutV
  rw [h.length]
  exact (h.drop _).take _
theorem Rps.rev {K : PySem.W.Frag} {F : Hp} : ∀ {ds : List D} {vs : List V}, Rps K F ds vs → Rps K F ds.reverse vs.reverse
  | [], _, h => by cases h; exact rfl
  | d :: ds, _, h => by
    obtain ⟨y, ys, rfl, q, r⟩ := h
    rw [List.reverse_cons, List.reverse_cons]
    exact r.rev.append ⟨y, [], rfl, q, rfl⟩
theorem Rps.rep {K : PySem.W.Frag} {F : Hp} {ds : List D} {vs : List V} (h : Rps K F ds vs) : ∀ n : Nat, Rps K F (List.replicate n ds).flatten (List.replicate n vs).flatten
  | 0 => rfl
  | n + 1 => by
    rw [List.replicate_succ, List.replicate_succ, List.flatten_cons, List.flatten_cons]
    exact h.append (h.rep n)

section
variable {X : Cx} {ρ : Ev} {e a b c : Expr} {es : List Expr} {d d1 d2 : D} {ds ds1 ds2 : List D} {pos p p2 : Pos} {R R1 S2 : Rel} {k : Bool} {i j : Int}
/-! ### items -/
theorem de_ixQ (ha : DQ X ρ a ds) (hb : DE X ρ b (.int i)) (h : L2.atI ds i = some d) (hs : PlainIx b := by intro _ _; rfl) : DE X ρ (.Subscript a b pos) d :=
  two mQ (pe_ix ix_list ha hb hs) fun F H x y Q s ⟨p, xs, e, q1, r1⟩ r2 q => by
    obtain ⟨v, e1, e2⟩ := r1.atI h
    exact ⟨p, xs, i, v, e, r2, q1, e1, q v e2⟩
theorem de_ixU (ha : DU X ρ a ds) (hb : DE X ρ b (.int i)) (h : L2.atI ds i = some d) (hs : PlainIx b := by intro _ _; rfl) : DE X ρ (.Subscript a b pos) d :=
  two mT (pe_ix ix_tup ha hb hs) fun F H x y Q s ⟨p, xs, e, q1, r1⟩ r2 q => by
    obtain ⟨v, e1, e2⟩ := r1.atI h
    exact ⟨p, xs, i, v, e, r2, q1, e1, q v e2⟩
/-- of a list of things of one kind -/
theorem de_ixM {α : Type} {f : α → D} {xs : List α} (z : α) (ha : DQ X ρ a (xs.map f)) (hb : DE X ρ b (.int i)) (h0 : 0 ≤ i) (h1 : i < xs.length) (hs : PlainIx b := by intro _ _; rfl) : DE X ρ (.Subscript a b pos) (f (xs.getD i.toNat z)) :=
  de_ixQ ha hb (atI_map (atI_pos z h0 h1)) hs
theorem de_ixS {z : Str} {ch : Nat} (ha : DE X ρ a (.str z)) (hb : DE X ρ b (.int i)) (hl : z.length ≤ sizeLine) (h : L2.atI z.cps.toList i = some ch) (hs : PlainIx b := by intro _ _; rfl) : DE X ρ (.Subscript a b pos) (.str ⟨#[ch]⟩) :=
  two mD (pe_ix ix_str ha hb hs) fun F H x y Q s r1 r2 q => ⟨z, i, ch, r1, r2, hl, h, q _ rfl⟩
/-! ### slices -/
def tO (K : PySem.W.Frag) (ρ : Ev) (o : Option Int) : TO := fun σ H Q => ∃ F0 H0 F, Ok K F0 H0 F H σ ρ ∧ ∀ F' H', Fin F H F' H' → Q o H'
def DO (X : Cx) (ρ : Ev) (e : Option Expr) (o : Option Int) : Prop := PO X e (tO X.K ρ o)
theorem PO.weak {X : Cx} {e : Option Expr} {t t' : TO} (h : PO X e t) (w : ∀ σ H Q, t' σ H Q → t σ H Q) : PO X e t' := ⟨fun pins s σ H Q I q => h.run pins s σ H Q I (w σ H Q q)⟩
theorem do_none : DO X ρ none none := PO.weak po_none fun σ H Q ⟨F0, H0, F, o, q⟩ => q _ _ (.refl o.fin.fh)
theorem do_some (h : DE X ρ e (.int i)) : DO X ρ (some e) (some i) := PO.weak (po_some h) fun σ H Q ⟨F0, H0, F, o, q⟩ => ⟨F0, H0, F, o, fun v F' H' f' r => ⟨i, r, q _ _ f'⟩⟩
variable {lo hi : Option Expr} {l u : Option Int}
theorem dn_slice (ha : DQ X ρ a ds) (hl : DO X ρ lo l) (hu : DO X ρ hi u) : DN X ρ (.Subscript a (.Slice lo hi none p2) pos) (cut ds l u) :=
  PE.weak (pe_slice sl_list ha hl hu) fun σ H Q ⟨F0, H0, F, o, q⟩ => ⟨F0, H0, F, o, fun x F1 H1 f1 r1 => ⟨F0, H0, F1, o.call f1, fun F2 H2 f2 => ⟨F0, H0, F2, (o.call f1).call f2, fun F3 H3 f3 => by
    obtain ⟨p, xs, e, q1, r1⟩ := mQ _ _ _ _ _ (f2.trans f3) r1
    refine ⟨p, xs, e, q1, fun z hz => ?_⟩
    have g1 := Fin.newO (u := .lst (cutV xs l u)) f3.fh hz
    exact q z _ F3 _ (((f1.trans f2).trans f3).trans g1) (((f1.trans f2).trans f3).h0.free hz) upd_same (f3.fh.free hz) (r1.cut l u)⟩⟩⟩
theorem dn_sliceM {α : Type} {f : α → D} {xs : List α} (ha : DQ X ρ a (xs.map f)) (hl : DO X ρ lo l) (hu : DO X ρ hi u) : DN X ρ (.Subscript a (.Slice lo hi none p2) pos) ((cut xs l u).map f) :=
  (dn_slice ha hl hu).eq (cut_map f xs l u)
theorem de_sliceS {z : Str} (ha : DE X ρ a (.str z)) (hl : DO X ρ lo l) (hu : DO X ρ hi u) (hz : z.length ≤ sizeLine) : DE X ρ (.Subscript a (.Slice lo hi none p2) pos) (.str (cutS z l u)) :=
  PE.weak (pe_slice sl_str ha hl hu) fun σ H Q ⟨F0, H0, F, o, q⟩ => ⟨F0, H0, F, o, fun x F1 H1 f1 r1 => ⟨F0, H0, F1, o.call f1, fun F2 H2 f2 => ⟨F0, H0, F2, (o.call f1).call f2, fun F3 H3 f3 =>
    ⟨z, r1, hz, q _ F3 H3 ((f1.trans f2).trans f3) rfl⟩⟩⟩⟩
theorem dn_rev {k1 : Nat} {p1 q1 q2 q3 : Pos} (ha : DQ X ρ a ds) : DN X ρ (.Subscript a (.Slice none none (some (.UnaryOp .USub (.Constant (.int 1) k1 q1) q2)) q3) pos) ds.reverse :=
  PE.weak (pe_revL ha) fun σ H Q ⟨F0, H0, F, o, q⟩ => ⟨F0, H0, F, o, fun x F1 H1 f1 ⟨p, xs, e, h1, r1⟩ => ⟨p, xs, e, h1, fun z hz => by
    have g1 := Fin.newO (u := .lst xs.reverse) f1.fh hz
    exact q z _ F1 _ (f1.trans g1) (f1.h0.free hz) upd_same (f1.fh.free hz) r1.rev⟩⟩
/-! ### displays, +, * -/
theorem dn_lst (h : DA X ρ es ds) (hz : ds.length ≤ sizeLine := by decide) : DN X ρ (.List es pos) ds :=
  PE.weak (pe_lst h) fun σ H Q ⟨F0, H0, F, o, q⟩ => ⟨F0, H0, F, o, fun vs F1 H1 f1 r1 => ⟨by rw [Rps.length r1]; exact hz, fun z hz => by
    have g1 := Fin.newO (u := .lst vs) f1.fh hz
    exact q z _ F1 _ (f1.trans g1) (f1.h0.free hz) upd_same (f1.fh.free hz) r1⟩⟩
theorem de_tup {x1} (h : DA X ρ es ds) (hz : ds.length ≤ sizeLine := by decide) : DE X ρ (.Tuple es x1 pos) (.tup ds) :=
  PE.weak (pe_tup h) fun σ H Q ⟨F0, H0, F, o, q⟩ => ⟨F0, H0, F, o, fun vs F1 H1 f1 r1 => ⟨by rw [Rps.length r1]; exact hz, fun z hz => by
    have g1 := Fin.newS (u := .tup vs) f1.fh hz
    exact q _ _ _ (f1.trans g1) ⟨z, vs, rfl, .inl (.inl upd_same), Rps.mono g1.f0 r1⟩⟩⟩
theorem dn_cat (ha : DL X ρ a ds1) (hb : DL X ρ b ds2) (hz : ds1.length + ds2.length ≤ sizeLine) : DN X ρ (.BinOp a .Add b pos) (ds1 ++ ds2) :=
  two_new mL (pe_op op_cat ha hb) fun F H x y Q s ⟨l, xs, e1, h1, r1⟩ ⟨m, ys, e2, h2, r2⟩ q => ⟨l, m, xs, ys, e1, e2, h1, h2, by rw [r1.length, r2.length]; exact hz, fun p hp => q p _ hp (r1.append r2)⟩
theorem dn_catM {α : Type} {f : α → D} {xs ys : List α} (ha : DL X ρ a (xs.map f)) (hb : DL X ρ b (ys.map f)) (hz : xs.length + ys.length ≤ sizeLine) : DN X ρ (.BinOp a .Add b pos) ((xs ++ ys).map f) :=
  (dn_cat ha hb (by rw [List.length_map, List.length_map]; exact hz)).eq (List.map_append ..).symm
theorem dn_rep (ha : DL X ρ a ds) (hb : DE X ρ b (.int i)) (h1 : -(2 ^ 63) ≤ i) (h2 : i < 2 ^ 63) (hz : ds.length * i.toNat ≤ sizeLine) : DN X ρ (.BinOp a .Mult b pos) (List.replicate i.toNat ds).flatten :=
  two_new mL (pe_op op_rep ha hb) fun F H x y Q s ⟨l, xs, e1, g1, r1⟩ r2 q => ⟨l, i, xs, e1, r2, g1, h1, h2, by rw [r1.length]; exact hz, fun p hp => q p _ hp (r1.rep _)⟩
theorem de_catS {x y : Str} (ha : DE X ρ a (.str x)) (hb : DE X ρ b (.str y)) (hz : x.length + y.length ≤ sizeLine) : DE X ρ (.BinOp a .Add b pos) (.str (x ++ y)) :=
  two mD (pe_op op_add_str ha hb) fun F H u v Q s r1 r2 q => ⟨x, y, r1, r2, hz, q _ rfl⟩

/-! ### equality of data -/
mutual
def py : D → PyData
  | .non => .none
  | .bl b => .bool b
  | .int i => .int i
  | .str s => .str s
  | .tup ds => .tuple (pys ds)
  | .lst ds => .list (pys ds)
  | _ => .none
def pys : List D → List PyData
  | [] => []
  | d :: ds => py d :: pys ds
end
mutual
def plain : D → Bool
  | .non => true
  | .bl _ => true
  | .int _ => true
  | .str _ => true
  | .tup ds => plains ds
  | .lst ds => plains ds
  | _ => false
def plains : List D → Bool
  | [] => true
  | d :: ds => plain d && plains ds
end
mutual
theorem dp_of {K : PySem.W.Frag} {F H : Hp} (s : Same F H) : ∀ {d : D} {v : V}, Rp K F d v → plain d = true → Dp K H v (py d)
  | .non, _, h, _ => by cases h; exact .non
  | .bl _, _, h, _ => by cases h; exact .bl _
  | .int _, _, h, _ => by cases h; exact .int _
  | .str _, _, h, _ => by cases h; exact .str _
  | .tup ds, _, h, q => by
    obtain ⟨a, xs, rfl, e, r⟩ := h
    exact .tup (Same.tup s e) (dps_of s r (by simpa [plain] using q))
  | .lst ds, _, h, q => by
    obtain ⟨a, xs, rfl, e, r⟩ := h
    exact .lst (.of (s _ _ e)) (dps_of s r (by simpa [plain] using q))
  | .sc _, _, _, q => by cases q
  | .ro _, _, _, q => by cases q
  | .ins _ _, _, _, q => by cases q
  | .dic _, _, _, q => by cases q
  | .xo _ _ _, _, _, q => by cases q
theorem dps_of {K : PySem.W.Frag} {F H : Hp} (s : Same F H) : ∀ {ds : List D} {vs : List V}, Rps K F ds vs → plains ds = true → DpAll K H vs (pys ds)
  | [], _, h, _ => by cases h; exact .nil
  | d :: ds, _, h, q => by
    obtain ⟨y, ys, rfl, e, r⟩ := h
    have q' : plain d = true ∧ plains ds = true := by simpa [plains] using q
    exact .cons (dp_of s e q'.1) (dps_of s r q'.2)
end
def rP (K : PySem.W.Frag) (z : PyData) : Rel := fun _ H v => Dp K H v z
mutual
theorem Dp.mono {K : PySem.W.Frag} {H H' : Hp} (s : Same H H') : ∀ {v : V} {z : PyData}, Dp K H v z → Dp K H' v z
  | _, _, .non => .non
  | _, _, .bl b => .bl b
  | _, _, .int b => .int b
  | _, _, .str b => .str b
  | _, _, .lst q r => .lst (L2.Same.seq s q) (DpAll.mono s r)
  | _, _, .tup q r => .tup (Same.tup s q) (DpAll.mono s r)
theorem DpAll.mono {K : PySem.W.Frag} {H H' : Hp} (s : Same H H') : ∀ {v : List V} {z : List PyData}, DpAll K H v z → DpAll K H' v z
  | _, _, .nil => .nil
  | _, _, .cons q r => .cons (Dp.mono s q) (DpAll.mono s r)
end
theorem mP {K : PySem.W.Frag} {z : PyData} : Mono (rP K z) := fun _ _ _ _ _ f h => Dp.mono f.h0 h
/-- e as data, to be compared -/
def DP (X : Cx) (ρ : Ev) (e : Expr) (z : PyData) : Prop := PE X e (tG X.K ρ (rP X.K z))
theorem DE.dp (h : DE X ρ e d) (hp : plain d = true) : DP X ρ e (py d) := PE.weak h fun σ H Q ⟨F0, H0, F, o, q⟩ => ⟨F0, H0, F, o, fun v F' H' f' r => q _ _ _ f' (dp_of f'.fh r hp)⟩
theorem DL.dp (h : DL X ρ e ds) (hp : plains ds = true) : DP X ρ e (.list (pys ds)) := PE.weak h fun σ H Q ⟨F0, H0, F, o, q⟩ => ⟨F0, H0, F, o, fun v F' H' f' r => q _ _ _ f' (by
  obtain ⟨a, xs, rfl, e, r⟩ := r
  exact .lst (.of e) (dps_of f'.fh r hp))⟩
theorem DN.dp (h : DN X ρ e ds) (hp : plains ds = true) : DP X ρ e (.list (pys ds)) := h.dl.dp hp
theorem dc_eqP {z w : PyData} {n : Nat} (hr : Room n X.A) (ha : DP X ρ a z) (hb : DP X ρ b w) (h1 : SeqAt.shaped z = true) (h2 : SeqAt.shaped w = true) : DC X ρ .Eq a b (PyData.eqv z w) :=
  ⟨_, _, _, op_eqD hr.units, ha, hb, mP, fun F H x y Q s r1 r2 q => ⟨z, w, r1, r2, h1, h2, q⟩⟩
theorem dc_neP {z w : PyData} {n : Nat} (hr : Room n X.A) (ha : DP X ρ a z) (hb : DP X ρ b w) (h1 : SeqAt.shaped z = true) (h2 : SeqAt.shaped w = true) : DC X ρ .NotEq a b (!PyData.eqv z w) :=
  ⟨_, _, _, op_neD hr.units, ha, hb, mP, fun F H x y Q s r1 r2 q => ⟨z, w, r1, r2, h1, h2, q⟩⟩
/-! lists of ints -/
theorem pys_len : ∀ ds : List D, (pys ds).length = ds.length
  | [] => rfl
  | d :: ds => congrArg (· + 1) (pys_len ds)
theorem plains_iff : ∀ {ds : List D}, plains ds = true ↔ ∀ d ∈ ds, plain d = true
  | [] => by simp [plains]
  | d :: ds => by simp [plains, plains_iff (ds := ds)]
theorem canLay_all : ∀ {zs : List PyData}, PyData.canLayAll0 zs = true ↔ ∀ z ∈ zs, PyData.canLay0 z = true
  | [] => by simp [PyData.canLayAll0]
  | z :: zs => by simp [PyData.canLayAll0, canLay_all (zs := zs)]
theorem pys_map : ∀ ds : List D, pys ds = ds.map py
  | [] => rfl
  | d :: ds => by rw [pys, pys_map ds]; rfl
theorem depthAll_le : ∀ {zs : List PyData} {n : Nat}, (∀ z ∈ zs, PyData.depth z ≤ n) → PyData.depthAll zs ≤ n
  | [], _, _ => Nat.zero_le _
  | z :: zs, n, h => by
    rw [PyData.depthAll]
    exact Nat.max_le.mpr ⟨h z (by simp), depthAll_le fun w hw => h w (by simp [hw])⟩
theorem shaped_list {zs : List PyData} {n : Nat} (h1 : ∀ z ∈ zs, PyData.canLay0 z = true) (h2 : ∀ z ∈ zs, PyData.depth z ≤ n) (h3 : n + 1 ≤ 64) : SeqAt.shaped (.list zs) = true := by
  unfold SeqAt.shaped
  have : PyData.depth (.list zs) ≤ 64 := by
    have := depthAll_le h2
    show PyData.depthAll zs + 1 ≤ 64
    omega
  simp [PyData.canLay0, canLay_all.mpr h1, this]
theorem shaped_ints (ns : List Int) : SeqAt.shaped (.list (pys (iD ns))) = true := by
  refine shaped_list (n := 0) ?_ ?_ (by decide) <;> (intro z hz; rw [pys_map, List.map_map] at hz; obtain ⟨n, _, rfl⟩ := List.mem_map.mp hz)
  · rfl
  · exact Nat.le_refl _
theorem plains_ints (ns : List Int) : plains (iD ns) = true := plains_iff.mpr fun d hd => by
  obtain ⟨n, _, rfl⟩ := List.mem_map.mp hd
  rfl
theorem eqvAll_ints : ∀ xs ys : List Int, PyData.eqvAll (pys (iD xs)) (pys (iD ys)) = decide (xs = ys)
  | [], [] => rfl
  | [], y :: ys => rfl
  | x :: xs, [] => rfl
  | x :: xs, y :: ys => by
    show PyData.eqvAll (.int x :: pys (iD xs)) (.int y :: pys (iD ys)) = _
    rw [PyData.eqvAll, eqvAll_ints xs ys]
    show (x == y && decide (xs = ys)) = _
    by_cases h : x = y <;> simp [h]
theorem dc_eqIs {xs ys : List Int} {n : Nat} (hr : Room n X.A) (ha : DL X ρ a (iD xs)) (hb : DL X ρ b (iD ys)) : DC X ρ .Eq a b (decide (xs = ys)) :=
  (dc_eqP hr (ha.dp (plains_ints _)) (hb.dp (plains_ints _)) (shaped_ints _) (shaped_ints _)).eq (eqvAll_ints xs ys)
theorem dc_neIs {xs ys : List Int} {n : Nat} (hr : Room n X.A) (ha : DL X ρ a (iD xs)) (hb : DL X ρ b (iD ys)) : DC X ρ .NotEq a b (!decide (xs = ys)) :=
  (dc_neP hr (ha.dp (plains_ints _)) (hb.dp (plains_ints _)) (shaped_ints _) (shaped_ints _)).eq (congrArg (!·) (eqvAll_ints xs ys))
/-! ### in -/
def fl : D → Bool
  | .non => true
  | .bl _ => true
  | .int _ => true
  | .str _ => true
  | _ => false
/-- a flat value as it is -/
def fv : D → V
  | .non => .non
  | .bl b => .bl b
  | .int i => .int i
  | .str s => .str s
  | _ => .non
theorem fv_of {K : PySem.W.Frag} {F : Hp} {v : V} : ∀ {d : D}, fl d = true → Rp K F d v → v = fv d ∧ flatV v = true
  | .non, _, h => by cases h; exact ⟨rfl, rfl⟩
  | .bl _, _, h => by cases h; exact ⟨rfl, rfl⟩
  | .int _, _, h => by cases h; exact ⟨rfl, rfl⟩
  | .str _, _, h => by cases h; exact ⟨rfl, rfl⟩
theorem fvs_of {K : PySem.W.Frag} {F : Hp} : ∀ {ds : List D} {vs : List V}, ds.all fl = true → Rps K F ds vs → vs = ds.map fv ∧ vs.all flatV = true
  | [], _, _, h => by cases h; exact ⟨rfl, rfl⟩
  | d :: ds, _, q, h => by
    obtain ⟨y, ys, rfl, e, r⟩ := h
    have q' : fl d = true ∧ ds.all fl = true := by simpa using q
    obtain ⟨e1, e2⟩ := fv_of q'.1 e
    obtain ⟨e3, e4⟩ := fvs_of q'.2 r
    exact ⟨by rw [List.map_cons, e1, e3], by simp [List.all_cons, e2, List.all_eq_true.mp e4]; exact List.all_eq_true.mp e4⟩
def isIn (x : D) (xs : List D) : Bool := inV (fv x) (xs.map fv)
/-- e is a list or tuple of ds -/
def rB (K : PySem.W.Frag) (ds : List D) : Rel := fun F H v => ∃ a xs, v = .ref a ∧ (SqL K H a xs ∨ SqT K H a xs) ∧ Rps K F ds xs
def DB (X : Cx) (ρ : Ev) (e : Expr) (ds : List D) : Prop := PE X e (tG X.K ρ (rB X.K ds))
theorem DQ.db (h : DQ X ρ e ds) : DB X ρ e ds := PE.weak h fun σ H Q ⟨F0, H0, F, o, q⟩ => ⟨F0, H0, F, o, fun v F' H' f' ⟨p, xs, e, h, r⟩ => q _ _ _ f' ⟨p, xs, e, .inl h, r⟩⟩
theorem DU.db (h : DU X ρ e ds) : DB X ρ e ds := PE.weak h fun σ H Q ⟨F0, H0, F, o, q⟩ => ⟨F0, H0, F, o, fun v F' H' f' ⟨p, xs, e, h, r⟩ => q _ _ _ f' ⟨p, xs, e, .inr h, r⟩⟩
theorem dc_in (ha : DE X ρ a d) (hb : DB X ρ b ds) (h1 : fl d = true) (h2 : ds.all fl = true) : DC X ρ .In a b (isIn d ds) :=
  ⟨_, _, _, op_in_seq, ha, hb, mD, fun F H x y Q s r1 ⟨p, xs, e, h, r⟩ q => by
    obtain ⟨e1, e2⟩ := fv_of h1 r1
    obtain ⟨e3, e4⟩ := fvs_of h2 r
    refine ⟨p, xs, e, h, e2, e4, ?_⟩
    rw [e1, e3]; exact q⟩
theorem dc_notin (ha : DE X ρ a d) (hb : DB X ρ b ds) (h1 : fl d = true) (h2 : ds.all fl = true) : DC X ρ .NotIn a b (!isIn d ds) :=
  ⟨_, _, _, op_notIn_seq, ha, hb, mD, fun F H x y Q s r1 ⟨p, xs, e, h, r⟩ q => by
    obtain ⟨e1, e2⟩ := fv_of h1 r1
    obtain ⟨e3, e4⟩ := fvs_of h2 r
    refine ⟨p, xs, e, h, e2, e4, ?_⟩
    rw [e1, e3]; exact q⟩
theorem dc_inS {x y : Str} (ha : DE X ρ a (.str x)) (hb : DE X ρ b (.str y)) : DC X ρ .In a b (!(Builtin.Str.occurrences y x 0 y.length 1).isEmpty) :=
  ⟨_, _, _, op_in_str, ha, hb, mD, fun F H u v Q s r1 r2 q => ⟨x, y, r1, r2, q⟩⟩
theorem dc_notinS {x y : Str} (ha : DE X ρ a (.str x)) (hb : DE X ρ b (.str y)) : DC X ρ .NotIn a b (!(!(Builtin.Str.occurrences y x 0 y.length 1).isEmpty)) :=
  ⟨_, _, _, op_notin_str, ha, hb, mD, fun F H u v Q s r1 r2 q => ⟨x, y, r1, r2, q⟩⟩
end
end DL

set_option Elab.async false
set_option linter.all false
set_option maxRecDepth 100000
set_option autoImplicit false
/-! Promises of defs where no repr is under way (guards known to be none): what repr(list) needs. -/
namespace DL
open PySem PySem.Spec PyProof.Rows L2
structure RoomG (k : Nat) (A : Around) : Prop extends Room k A where
  gd : A.guards = some []
theorem RoomG.less {j k : Nat} {A : Around} (r : RoomG k A) (h : j ≤ k) : RoomG j A := ⟨r.toRoom.mono h, r.gd⟩
theorem RoomG.below {k : Nat} {A : Around} (r : RoomG (k + 1) A) (env : Env) : RoomG k (A.deeper env) := ⟨r.toRoom.deeper env, r.gd⟩
/-- a def's promise, no guard being up -/
structure FnG (P : Program) (w : World) (K : PySem.W.Frag) (mg : Str → Option Value) (base : Heap) (k : Nat) (f : Addr) (fd : FuncData) (ps : List Str) (sp : Sp) : Prop where
  ln : ∀ {vs H Q E}, sp vs H Q E → vs.length = ps.length
  go : ∀ {A : Around} {outer : List Env} {s : Shared} {H : Hp} {args : Args} {us : List Value} {vs : List V} {Q : VK} {E : XK}, RoomG k A → Env0 P w K mg base A outer s H → BindsTo s fd args (ps.zip us) → Vals vs us → sp vs H Q E → codeAny (model P w) A (.call (.ref f) args) (CR (L2.CX P w) outer P w H s Q E) s
section
variable {P : Program} {w : World} {K : PySem.W.Frag} {mg : Str → Option Value} {base : Heap} {j k : Nat} {f : Addr} {fd : FuncData} {ps : List Str} {sp sp' : Sp}
theorem FnG.of (F : FnOk P w K mg base (L2.CX P w) k f fd ps sp) : FnG P w K mg base k f fd ps sp := ⟨fun h => F.len _ _ _ _ h, fun r e b v h => F.run _ _ _ _ _ _ _ _ _ r.toRoom e b v h⟩
theorem FnG.rise (F : FnG P w K mg base j f fd ps sp) (h : j ≤ k) : FnG P w K mg base k f fd ps sp := ⟨F.ln, fun r => F.go (r.less h)⟩
theorem FnG.weak (F : FnG P w K mg base k f fd ps sp) (h : ∀ vs H Q E, sp' vs H Q E → sp vs H Q E) : FnG P w K mg base k f fd ps sp' := ⟨fun q => F.ln (h _ _ _ _ q), fun r e b v q => F.go r e b v (h _ _ _ _ q)⟩
end
section
variable {X : Cx} {k : Nat} {f : Addr} {fd : FuncData} {ps : List Str} {sp : Sp} {x : Str} {p pos : Pos} {e : Expr} {es : List Expr} {t : TA} {E : L2.St → XK}
theorem runG {pins : List (Addr × Obj)} {σ : L2.St} {H : Hp} {s : Shared} {Q : VK} {us : List Value} {vs : List V} {E1 : XK} (F : FnG X.prog X.w X.K X.mg X.base k f fd ps sp) (hr : RoomG k X.A) (hb : Binds X.K fd ps []) (hx : PassesAt (L2.CX X.prog X.w) X σ E1)
    (I : Inv X pins σ H s) (r : Vals vs us) (h : sp vs H Q E1) : wpAny (model X.prog X.w) X.A (call (.ref f) us) (EP X pins σ Q) X.xe s := by
  have bl := hb s us I.kIn (by rw [List.append_nil, ← r.length]; exact F.ln h)
  simp only [List.append_nil] at bl
  exact wpAny_call (codeAny_mono (F.go (args := ⟨us, []⟩) hr I.env0 bl r h) fun res s2 got => match res, got with
    | .error _, got => hx pins H s _ _ I got
    | .ok (.ret _), got => I.after got
    | .ok .next, got | .ok .brk, got | .ok .cont, got => False.elim got)
theorem pe_callG (F : FnG X.prog X.w X.K X.mg X.base k f fd ps sp) (hr : RoomG k X.A) (hg : Gl X x) (hm : X.mg x = some (.ref f)) (hk : PySem.W.keepIn X.K (.ref f) = true) (hb : Binds X.K fd ps []) (hx : ∀ σ, PassesAt (L2.CX X.prog X.w) X σ (E σ))
    (ha : PA X (e :: es) t) (hdb : (x == ("__debug__" : Str)) = false) (he : starEach (e :: es) X.env = (false, eval e X.env) :: starEach es X.env) (hpl : (backTo pos (starEach es X.env)).any (·.1) = false) : PE X (.Call (.Name x p) (e :: es) [] pos) (tCallS sp E t) :=
  ⟨fun pins s σ H Q I h => wpAny_Call_Name_kw (ld_glob I hg hm (PySem.W.callWith_K (h₀ := X.base) I.ok.mod.kin hk (thn (ha.run pos pins s σ H _ I h) fun _ _ ⟨_, _, I1, r, q⟩ => ⟨I1.kIn, runG F hr hb (hx σ) I1 r q⟩) he hpl) hdb)⟩
theorem pe_callG0 (F : FnG X.prog X.w X.K X.mg X.base k f fd ps sp) (hr : RoomG k X.A) (hg : Gl X x) (hm : X.mg x = some (.ref f)) (hk : PySem.W.keepIn X.K (.ref f) = true) (hb : Binds X.K fd ps []) (hx : ∀ σ, PassesAt (L2.CX X.prog X.w) X σ (E σ))
    (hdb : (x == ("__debug__" : Str)) = false) : PE X (.Call (.Name x p) [] [] pos) (tCallS sp E tNil) :=
  ⟨fun pins s σ H Q I h => wpAny_Call_Name_kw (ld_glob I hg hm (PySem.W.callWith_K0 I.kIn hk (runG (us := []) F hr hb (hx σ) I .nil h)) hdb)⟩
theorem passLA (σ : L2.St) : PassesAt (L2.CX X.prog X.w) X σ E0 := fun pins H s e s' I c => passL pins σ H s e s' I c
end
/-- a def by its body -/
theorem fn_G {P : Program} {w : World} {K : PySem.W.Frag} {mg : Str → Option Value} {base : Heap} {k : Nat} {f : Addr} {nm qual : Str} {params : Arguments} {body : List Stmt} {scope : Scope} {fd : FuncData} {N ps : List Str} {sp : Sp} (F : FunD K nm qual params body scope [] [] f fd) (S : FnScope N ps scope)
    (ln : ∀ {vs H Q E}, sp vs H Q E → vs.length = ps.length)
    (hbody : ∀ (cdv : Value) (A : Around) (outer : List Env) (s : Shared) (H : Hp) (vs : List V) (Q : VK) (E : XK), RoomG k (A.deeper (envOfC qual scope s.heap.objs.size f cdv)) → sp vs H Q E →
      ∃ t, PSs (cxOf (L2.CX P w) P w K mg base N qual scope f cdv A outer s H E) body t ∧ t ⟨fun _ H' => Q .non H', Q, fun _ _ => False, fun _ _ => False⟩ (L2.start N vs) H) : FnG P w K mg base (k + 1) f fd ps sp := by
  obtain ⟨oc, od, dV, kV, doc, pm, an, cdv, ct, osl, rfl, lk, hcd, _, _⟩ := F.ex
  refine ⟨ln, fun {A outer s H args us vs Q E} hr e0 hb r hsp => ?_⟩
  have KX : K.In s.heap := e0.mod.kin.keeps fun b o z => (e0.bs b o z).1
  have hk : ∀ y ∈ ps.zip us, scope.names.lookup y.1 = some .local ∨ (scope.names.lookup y.1 = some .cell ∧ ((cellsFrom (s.heap.objs.size + 1) scope.names []).lookup y.1).isSome = true) := fun y hy =>
    (S.par y.1 (List.of_mem_zip hy).1).imp id fun c => ⟨c, PySem.W.cellsFrom_some _ _ _ (.inl c)⟩
  refine codeAny_call_function hr.toRoom.depth (KX _ _ lk) rfl S.co S.gen rfl (PySem.W.codeRec_of KX hcd) (hb _ _ _ _ (wpAny_newFunctionEnv_cells S.kind hk ?_))
  rintro env rfl s1 x
  obtain ⟨t, ht, hq⟩ := hbody cdv A outer s H vs Q E (hr.below _) hsp
  have I := inv_start (CX := L2.CX P w) (P := P) (w := w) (K := K) (mg := mg) (base := base) (E := E) S hr.hd e0 (ln hsp) r x
  refine ⟨(e0.mod.nolimit.keeps fun b o z => (e0.bs b o z).1).keeps x.toInCall.keep, codeAny_func (wpAny_mono (ht.run [] s1 _ H _ I hq) (fun fl s2 got => ?_) fun _ _ got => got)⟩
  match fl, got with
  | .ret u, ⟨v, _, H2, J, rv, q⟩ => exact ⟨v, H2, J.os, J.bare, J.base, J.hok, rv, q⟩
  | .next, ⟨_, H2, J, q⟩ => exact ⟨.non, H2, J.os, J.bare, J.base, J.hok, rfl, q⟩
  | .brk, ⟨_, _, _, q⟩ => exact False.elim q
  | .cont, ⟨_, _, _, q⟩ => exact False.elim q
end DL

set_option Elab.async false
set_option linter.all false
set_option maxRecDepth 100000
set_option autoImplicit false
set_option maxHeartbeats 2000000
/-! The law's end for such promises. -/
namespace DL
open PySem PySem.Spec PyProof.Rows L2
section
variable {P : Program} {w : World} {K : PySem.W.Frag} {mg mb : Str → Option Value} {k : Nat} {fa a : Addr} {fd : FuncData} {x : Str} {sp : Sp} {s₁ : Shared} {vs : List Value} {ns : List Int}
/-- the script's abstract heap: the script alone, or nothing if it is one of the module's own objects -/
def scriptH (K : PySem.W.Frag) (a : Addr) (vs : List Value) (ns : List Int) : Hp := fun b => if b = a ∧ K.lookup a = none then some (.frz { cls := .type "list", data := .seq vs.toArray } (.lst (ns.map V.int))) else none
theorem scriptH_at {b : Addr} {u : HO} (h : scriptH K a vs ns b = some u) : b = a ∧ K.lookup a = none ∧ u = .frz { cls := .type "list", data := .seq vs.toArray } (.lst (ns.map V.int)) := by
  unfold scriptH at h
  split at h
  · rename_i c; cases h; exact ⟨c.1, c.2, rfl⟩
  · cases h
theorem scriptH_free {b : Addr} (h : b = a → K.lookup a ≠ none) : scriptH K a vs ns b = none := if_neg fun c => h c.1 c.2
theorem scriptG (KX : K.In s₁.heap) (hns : s₁.heap.Ns mainGlobals mg) (hb : s₁.heap.Ns builtinsNs mb) (hbb : ∀ x : Str, x ≠ "__name__" → mb x = bootBuiltins x) (hlim : s₁.heap.NoLimit) (hg : s₁.gens = #[])
    (ha : s₁.heap.get? a = some { cls := .type "list", data := .seq vs.toArray }) (hi : IntsAre vs ns) (hl : ns.length ≤ sizeLine) (hr : Room k callerA)
    (F : ∀ base : Heap, K.In base → base.Ns mainGlobals mg → FnG P w K mg base k fa fd [x] sp) (hbind : ∀ (s : Shared) (u : Value), BindsTo s fd ⟨[u], []⟩ [(x, u)])
    (hsp : ∀ H : Hp, SqL K H a (ns.map V.int) → sp [.ref a] H (fun v _ => v = .bl true) E0) :
    codeAny (model P w) callerA (.call (.ref fa) ⟨[.ref a], []⟩) (fun r s' => r = .ok (.ret (.bool true)) ∧ OldK s₁.heap s'.heap ∧ s'.os = s₁.os ∧ AllBare s'.gens) s₁ := by
  have rv := vals_ints hi
  have hsz : vs.toArray.size ≤ sizeLine := by rw [List.size_toArray, hi.length]; exact hl
  have seqN : ∀ {b o es ep}, s₁.heap.get? b = some o → o.data = .dict es ep → scriptH K a vs ns b = none := fun {b o es ep} e d => scriptH_free fun z => by
    subst z; rw [ha] at e; cases e; cases (show Data.seq vs.toArray _ = .dict es ep from d)
  have nsB : ∀ {b : Addr} {m : Str → Option Value}, s₁.heap.Ns b m → (hidT s₁.heap (scriptH K a vs ns)).Ns b m := fun ⟨o, es, ep, e, d, r⟩ => ⟨o, es, ep, hidT_get e (seqN e d), d, r⟩
  have KB : K.In (hidT s₁.heap (scriptH K a vs ns)) := fun b o e => hidT_get (KX b o e) (scriptH_free fun z => by subst z; rw [e]; simp)
  have ok : HOk P w (scriptH K a vs ns) s₁.heap := fun b u z => by
    obtain ⟨rfl, _, rfl⟩ := scriptH_at z
    exact ⟨ha, by rw [List.length_map]; exact hl, vs, _, rv, ha⟩
  have sq : SqL K (scriptH K a vs ns) a (ns.map V.int) := by
    cases hk : K.lookup a with
    | none => exact .inl (.inr ⟨_, if_pos ⟨rfl, hk⟩⟩)
    | some o =>
      have e := (KX a o hk).symm.trans ha
      cases e
      exact .inr ⟨_, vs.toArray, _, hk, rfl, rfl, rfl, hsz, by simpa using rv⟩
  obtain ⟨mc, m1, m2⟩ := hlim
  have e0 : Env0 P w K mg (hidT s₁.heap (scriptH K a vs ns)) callerA [] s₁ (scriptH K a vs ns) :=
    ⟨rfl, ⟨KB, nsB hns, ⟨mb, nsB hb, hbb⟩, ⟨mc, nsB m1, m2⟩⟩, fun _ _ => of_hidT, by rw [hidT_size]; exact Nat.le_refl _, trivial, fun _ z => (List.not_mem_nil z).elim, ok, .of_eq hg⟩
  refine codeAny_mono ((F _ KB (nsB hns)).go (us := [.ref a]) (vs := [.ref a]) ⟨hr, rfl⟩ e0 (hbind s₁ _) (.cons rfl .nil) (hsp _ sq)) fun r s2 got => ?_
  match r, got with
  | .error _, got => obtain ⟨_, _, _, _, _, _, _, _, _, _, _, _, z⟩ := got; exact z.elim
  | .ok .next, got => exact False.elim got
  | .ok .brk, got => exact False.elim got
  | .ok .cont, got => exact False.elim got
  | .ok (.ret u), ⟨v, H2, os, bare, un, ok2, rel, hv⟩ =>
    have hv : v = .bl true := hv
    subst hv
    obtain rfl : u = Value.bool true := rel
    refine ⟨rfl, OldK.of_keep fun b o e => ?_, os, bare⟩
    cases q : scriptH K a vs ns b with
    | none => exact un.keep b o e q (List.not_mem_nil) (List.not_mem_nil)
    | some t =>
      obtain ⟨rfl, _, rfl⟩ := scriptH_at q
      rw [ha] at e; cases e
      exact (ok2 _ _ (un.frzs _ _ _ q)).1
end
theorem walkG {l : PySem.W.OpenLaw} {n k : Nat} {q : Program} {loose : List Str} {XP : (Str → Option Value) → Heap → Prop} {YP : World → Heap → Prop} {d : DefRec} {x : Str} (hn : l.most = some n) (hn2 : n ≤ sizeLine) (hdf : d.params.defaults = []) (hr : Room k callerA)
    (F : ∀ (w : World) (mg : Str → Option Value) (fa : Addr) (h : Heap), YP w h → h.Ns mainGlobals mg → mg d.name = some (.ref fa) → ∃ (K : PySem.W.Frag) (fd : FuncData) (sp : Sp), K.In h ∧ (∀ (s : Shared) (u : Value), BindsTo s fd ⟨[u], []⟩ [(x, u)]) ∧
      (∀ (H : Hp) (a : Addr) (ns : List Int), ns.length ≤ n → SqL K H a (ns.map V.int) → sp [.ref a] H (fun v _ => v = .bl true) E0) ∧ ∀ base : Heap, K.In base → base.Ns mainGlobals mg → FnG l.prog w K mg base k fa fd [x] sp) :
    PySem.W.WalkO q loose XP YP l.row.toRowW d [] (fun f vs => PySem.call f vs) :=
  Att.attach_call hn hdf fun w s₀ s₁ mg mb fa o pm cd doc a vs ns G Y ho hd hcd hmg hobj hints hlen hg => by
    obtain ⟨K, fd, sp, KX, hb, hsp, hF⟩ := F w mg fa _ Y G.T.g hmg
    exact scriptG KX G.T.g G.T.b G.T.builtins G.T.nolimit hg hobj hints (Nat.le_trans hlen hn2) hr hF hb fun H hS => hsp H a ns hlen hS
end DL

set_option Elab.async false
set_option linter.all false
set_option maxRecDepth 100000
set_option autoImplicit false
namespace DL
open PySem PySem.Spec PyProof.Rows L2

/-! ### what a def is worth, by values -/
structure Exc where
  cls : Value
  fs : Option (List (Str × D))
def ExOk (K : PySem.W.Frag) (Hs F : Hp) (x : Exc) (cls : Value) (d : Option Addr) (H : Hp) : Prop := cls = x.cls ∧ match x.fs with
  | none => d = none
  | some fs => ∃ a gs, d = some a ∧ Hs a = none ∧ H a = some (.xd gs) ∧ RpF K F fs gs
inductive Res where
  | sh (d : D) | ow (ds : List D) | er (x : Exc) | ot (t : T)
def Deliver (K : PySem.W.Frag) (F H : Hp) (Q : VK) (E : XK) : Res → Prop
  | .sh d => ∀ v F' H', Fin F H F' H' → Rp K F' d v → Q v H'
  | .ow ds => ∀ p xs F' H', Fin F H F' H' → H p = none → H' p = some (.lst xs) → F' p = none → Rps K F' ds xs → Q (.ref p) H'
  | .er x => ∀ cls d F' H', Fin F H F' H' → ExOk K H F' x cls d H' → E cls d H'
  | .ot t => ∀ x fp F' H', Fin F H F' H' → RpT K F' H' t x fp → fp.Nodup → (∀ a ∈ fp, H a = none ∧ F' a = none) → Q x H'
def spOf (K : PySem.W.Frag) (S : List D → Res → Prop) : Sp := fun vs H Q E => ∃ F ds r, Same F H ∧ Rps K F ds vs ∧ S ds r ∧ Deliver K F H Q E r
/-- the def that the module names x is worth S; its level is k -/
structure Fn (P : Program) (w : World) (K : PySem.W.Frag) (mg : Str → Option Value) (base : Heap) (k : Nat) (x : Str) (S : List D → Res → Prop) : Prop where
  ex : ∃ (f : Addr) (fd : FuncData) (ps : List Str), mg x = some (.ref f) ∧ PySem.W.keepIn K (.ref f) = true ∧ Binds K fd ps [] ∧ FnG P w K mg base k f fd ps (spOf K S)


section
variable {X : Cx} {ρ : Ev} {e a b c : Expr} {es : List Expr} {d d1 d2 : D} {ds ds1 ds2 : List D} {pos p p2 : Pos} {R R1 S2 : Rel} {k : Bool} {i j : Int} {n : Nat} {x : Str} {S : List D → Res → Prop}
theorem de_call (G : Fn X.prog X.w X.K X.mg X.base n x S) (hr : RoomG n X.A) (ha : DA X ρ (e :: es) ds) (h : S ds (.sh d)) (hg : Gl X x := by rfl) (hdb : (x == ("__debug__" : Str)) = false := by decide)
    (he : starEach (e :: es) X.env = (false, eval e X.env) :: starEach es X.env := by rfl) (hpl : (backTo pos (starEach es X.env)).any (·.1) = false := by rfl) : DE X ρ (.Call (.Name x p) (e :: es) [] pos) d := by
  obtain ⟨f, fd, ps, gm, gk, gb, G⟩ := G.ex
  refine PE.weak (pe_callG G hr hg gm gk gb (fun σ => passLA σ) ha hdb he hpl) fun σ H Q ⟨F0, H0, F, o, q⟩ => ⟨F0, H0, F, o, fun vs F1 H1 f1 r1 => ?_⟩
  exact ⟨F1, ds, .sh d, f1.fh, r1, h, fun v F' H' f r => q v F' H' (f1.trans f) r⟩
theorem dn_call (G : Fn X.prog X.w X.K X.mg X.base n x S) (hr : RoomG n X.A) (ha : DA X ρ (e :: es) ds) (h : S ds (.ow ds1)) (hg : Gl X x := by rfl) (hdb : (x == ("__debug__" : Str)) = false := by decide)
    (he : starEach (e :: es) X.env = (false, eval e X.env) :: starEach es X.env := by rfl) (hpl : (backTo pos (starEach es X.env)).any (·.1) = false := by rfl) : DN X ρ (.Call (.Name x p) (e :: es) [] pos) ds1 := by
  obtain ⟨f, fd, ps, gm, gk, gb, G⟩ := G.ex
  refine PE.weak (pe_callG G hr hg gm gk gb (fun σ => passLA σ) ha hdb he hpl) fun σ H Q ⟨F0, H0, F, o, q⟩ => ⟨F0, H0, F, o, fun vs F1 H1 f1 r1 => ?_⟩
  exact ⟨F1, ds, .ow ds1, f1.fh, r1, h, fun p xs F' H' f n e1 e2 r => q p xs F' H' (f1.trans f) (f1.h0.free n) e1 e2 r⟩
theorem de_call0 (G : Fn X.prog X.w X.K X.mg X.base n x S) (hr : RoomG n X.A) (h : S [] (.sh d)) (hg : Gl X x := by rfl) (hdb : (x == ("__debug__" : Str)) = false := by decide) : DE X ρ (.Call (.Name x p) [] [] pos) d := by
  obtain ⟨f, fd, ps, gm, gk, gb, G⟩ := G.ex
  refine PE.weak (pe_callG0 G hr hg gm gk gb (fun σ => passLA σ) hdb) fun σ H Q ⟨F0, H0, F, o, q⟩ => ?_
  exact ⟨F, [], .sh d, o.fin.fh, rfl, h, fun v F' H' f r => q v F' H' f r⟩
theorem dn_call0 (G : Fn X.prog X.w X.K X.mg X.base n x S) (hr : RoomG n X.A) (h : S [] (.ow ds1)) (hg : Gl X x := by rfl) (hdb : (x == ("__debug__" : Str)) = false := by decide) : DN X ρ (.Call (.Name x p) [] [] pos) ds1 := by
  obtain ⟨f, fd, ps, gm, gk, gb, G⟩ := G.ex
  refine PE.weak (pe_callG0 G hr hg gm gk gb (fun σ => passLA σ) hdb) fun σ H Q ⟨F0, H0, F, o, q⟩ => ?_
  exact ⟨F, [], .ow ds1, o.fin.fh, rfl, h, fun p xs F' H' f n e1 e2 r => q p xs F' H' f n e1 e2 r⟩

/-! ### borrowing an owned list -/
/-- a slot gets s', v'; the others keep what they own -/
theorem Ok.chg {K : PySem.W.Frag} {F0 H0 F H F' H' : Hp} {σ : L2.St} {i : Nat} {s' : Sl} {v' : Option V} (o : Ok K F0 H0 F H σ ρ) (fin' : Fin F0 H0 F' H') (sf : Same F F')
    (oth : ∀ j t w, j ≠ i → ρ[j]? = some t → σ[j]? = some w → ∀ a, Ft K F H t w a → H' a = H a ∧ F' a = none ∧ ¬ Ft K F' H' s' v' a) (new : SlOk K H0 F' H' s' v') : Ok K F0 H0 F' H' (σ.set i v') (ρ.set i s') := by
  refine ⟨fin', by rw [List.length_set, List.length_set]; exact o.len, fun j t w g1 g2 => ?_, fun j l t u w z a hne g1 g2 g3 g4 g5 g6 => ?_⟩
  · by_cases hj : i = j
    · subst hj
      have hi : i < ρ.length := by simpa using (List.getElem?_eq_some_iff.mp g1).1
      rw [List.getElem?_set_self hi] at g1
      rw [List.getElem?_set_self (by rw [o.len]; exact hi)] at g2
      cases g1; cases g2; exact new
    · rw [List.getElem?_set_ne hj] at g1 g2
      exact (o.sl j t w g1 g2).grow2 sf (fun a ha => (oth j t w (Ne.symm hj) g1 g2 a ha).1) fun a ha => (oth j t w (Ne.symm hj) g1 g2 a ha).2.1
  · have at_ : ∀ {m : Nat} {t : Sl} {w : Option V}, (ρ.set i s')[m]? = some t → (σ.set i v')[m]? = some w → m = i → t = s' ∧ w = v' := fun {m t w} g k e => by
      subst e
      have hi : m < ρ.length := by simpa using (List.getElem?_eq_some_iff.mp g).1
      rw [List.getElem?_set_self hi] at g
      rw [List.getElem?_set_self (by rw [o.len]; exact hi)] at k
      cases g; cases k; exact ⟨rfl, rfl⟩
    have no : ∀ {m : Nat} {t : Sl} {w : Option V}, (ρ.set i s')[m]? = some t → (σ.set i v')[m]? = some w → m ≠ i → ρ[m]? = some t ∧ σ[m]? = some w := fun {m t w} g k e => by
      rw [List.getElem?_set_ne (Ne.symm e)] at g k; exact ⟨g, k⟩
    have bk : ∀ {m : Nat} {t : Sl} {w : Option V}, m ≠ i → ρ[m]? = some t → σ[m]? = some w → Ft K F' H' t w a → Ft K F H t w a := fun {m t w} hm h1 h2 h3 => .back (o.sl m t w h1 h2) (fun a ha => (oth m t w hm h1 h2 a ha).1) h3
    by_cases hj : j = i
    · obtain ⟨rfl, rfl⟩ := at_ g1 g3 hj
      have nl : l ≠ i := fun z => hne (by rw [hj, z])
      obtain ⟨q1, q2⟩ := no g2 g4 nl
      exact (oth l u z nl q1 q2 a (bk nl q1 q2 g6)).2.2 g5
    · obtain ⟨q1, q2⟩ := no g1 g3 hj
      have g5 := bk hj q1 q2 g5
      by_cases hl : l = i
      · obtain ⟨rfl, rfl⟩ := at_ g2 g4 hl
        exact (oth j t w hj q1 q2 a g5).2.2 g6
      · obtain ⟨q3, q4⟩ := no g2 g4 hl
        exact o.ap j l t u w z a hne q1 q3 q2 q4 g5 (bk hl q3 q4 g6)
/-- the same, the value stays -/
theorem Ok.chg0 {K : PySem.W.Frag} {F0 H0 F H F' H' : Hp} {σ : L2.St} {i : Nat} {s' : Sl} {v' : Option V} (o : Ok K F0 H0 F H σ ρ) (hv : σ[i]? = some v') (fin' : Fin F0 H0 F' H') (sf : Same F F')
    (oth : ∀ j t w, j ≠ i → ρ[j]? = some t → σ[j]? = some w → ∀ a, Ft K F H t w a → H' a = H a ∧ F' a = none ∧ ¬ Ft K F' H' s' v' a) (new : SlOk K H0 F' H' s' v') : Ok K F0 H0 F' H' σ (ρ.set i s') := by
  have := o.chg fin' sf oth new
  obtain ⟨hi, e⟩ := List.getElem?_eq_some_iff.mp hv
  subst e
  rwa [List.set_getElem_self] at this
theorem Ok.lend {K : PySem.W.Frag} {F0 H0 F H : Hp} {σ : L2.St} {i : Nat} {ds : List D} (o : Ok K F0 H0 F H σ ρ) (h : ρ[i]? = some (.ow ds)) : ∃ p xs, F p = none ∧ H p = some (.lst xs) ∧ Ok K F0 H0 (upd F p (.lst xs)) H σ (ρ.set i (.sh (.lst ds))) := by
  have hi : i < ρ.length := (List.getElem?_eq_some_iff.mp h).1
  have hi' : i < σ.length := by rw [o.len]; exact hi
  have ow := o.sl i _ σ[i] h (by simp [hi'])
  obtain ⟨p, xs, e, h1, h2, h3, r⟩ := ow
  have ei : σ[i]? = some (some (.ref p)) := by simp [hi', e]
  refine ⟨p, xs, h2, h1, ?_⟩
  have s1 : Same F (upd F p (.lst xs)) := fun b w e => by rw [upd_ne (ne_of_none e h2)]; exact e
  refine o.chg0 ei ⟨o.fin.f0.trans s1, o.fin.h0, fun b w e => ?_, fun q g1 g2 => ?_⟩ s1 (fun j t w hj g1 g2 a ha => ⟨rfl, ?_, fun z => z⟩) ⟨_, rfl, p, xs, rfl, upd_same, r.mono s1⟩
  · by_cases hb : b = p
    · subst hb; rw [upd_same] at e; rw [h1]; exact e
    · rw [upd_ne hb] at e; exact o.fin.fh _ _ e
  · have : q ≠ p := fun z => by subst z; exact g2 h3
    rw [upd_ne this]; exact o.fin.fr q g1 g2
  · have : a ≠ p := fun z => by subst z; exact o.ap i j _ _ _ _ a (Ne.symm hj) h g1 ei g2 rfl ha
    rw [upd_ne this]; exact ((o.sl j t w g1 g2).ft_at ha).2.1
theorem fl_rp {K : PySem.W.Frag} {F F' : Hp} {v : V} : ∀ {d : D}, fl d = true → Rp K F d v → Rp K F' d v
  | .non, _, h => h
  | .bl _, _, h => h
  | .int _, _, h => h
  | .str _, _, h => h
theorem fl_rps {K : PySem.W.Frag} {F F' : Hp} : ∀ {ds : List D} {vs : List V}, ds.all fl = true → Rps K F ds vs → Rps K F' ds vs
  | [], _, _, h => h
  | d :: ds, _, q, h => by
    obtain ⟨y, ys, rfl, e, r⟩ := h
    have q' : fl d = true ∧ ds.all fl = true := by simpa using q
    exact ⟨y, ys, rfl, fl_rp q'.1 e, fl_rps q'.2 r⟩
/-- trees without lists -/
def nl : D → Bool
  | .non => true
  | .bl _ => true
  | .int _ => true
  | .str _ => true
  | .tup ds => nls ds
  | _ => false
where nls : List D → Bool
  | [] => true
  | d :: ds => nl d && nls ds
section
variable {K : PySem.W.Frag} {F F' H H' : Hp} {p : Addr} {xs : List V}
/-- F without what lies at p -/
def cutH (F : Hp) (p : Addr) : Hp := fun b => if b = p then none else F b
theorem cutH_at {b : Addr} (h : b ≠ p) : cutH F p b = F b := if_neg h
mutual
theorem nl_rp (hp : F p = some (.lst xs)) : ∀ {d : D} {v : V}, nl d = true → Rp K F d v → Rp K (cutH F p) d v
  | .non, _, _, h => h
  | .bl _, _, _, h => h
  | .int _, _, _, h => h
  | .str _, _, _, h => h
  | .tup ds, _, q, h => by
    obtain ⟨a, ys, e, t, r⟩ := h
    refine ⟨a, ys, e, ?_, nl_rps hp (by simpa [nl] using q) r⟩
    rcases t with (t | ⟨o, t⟩) | t
    · exact .inl (.inl (by rw [cutH_at]; exact t; rintro rfl; rw [hp] at t; cases t))
    · exact .inl (.inr ⟨o, by rw [cutH_at]; exact t; rintro rfl; rw [hp] at t; cases t⟩)
    · exact .inr t
theorem nl_rps (hp : F p = some (.lst xs)) : ∀ {ds : List D} {vs : List V}, nl.nls ds = true → Rps K F ds vs → Rps K (cutH F p) ds vs
  | [], _, _, h => h
  | d :: ds, _, q, h => by
    obtain ⟨y, ys, rfl, e, r⟩ := h
    have q' : nl d = true ∧ nl.nls ds = true := by simpa [nl.nls] using q
    exact ⟨y, ys, rfl, nl_rp hp q'.1 e, nl_rps hp q'.2 r⟩
end
theorem Fin.unlend (f : Fin (upd F p (.lst xs)) H F' H') (h : F p = none) : Fin F H (cutH F' p) H' :=
  ⟨fun b w e => by
    have hb : b ≠ p := by rintro rfl; rw [h] at e; cases e
    rw [cutH_at hb]; exact f.f0 _ _ (by rw [upd_ne hb]; exact e), f.h0, fun b w e => by
    have hb : b ≠ p := by rintro rfl; simp [cutH] at e
    rw [cutH_at hb] at e; exact f.fh _ _ e, fun q h1 h2 => by
    by_cases hq : q = p
    · exact if_pos hq
    · rw [cutH_at hq]; exact f.fr q (by rw [upd_ne hq]; exact h1) h2⟩
theorem Fin.lentAt (f : Fin (upd F p (.lst xs)) H F' H') : F' p = some (.lst xs) := f.f0 _ _ upd_same
end
theorem de_lend (l : Nat) (h : ρ[l]? = some (.ow ds) := by rfl) (he : DE X (ρ.set l (.sh (.lst ds))) e d) (hd : nl d = true := by rfl) : DE X ρ e d := PE.weak he fun σ H Q ⟨F0, H0, F, o, q⟩ => by
  obtain ⟨p, xs, h1, h2, o1⟩ := o.lend h
  exact ⟨F0, H0, _, o1, fun v F' H' f r => q v _ H' (f.unlend h1) (nl_rp f.lentAt hd r)⟩
theorem dt_lend (l : Nat) (h : ρ[l]? = some (.ow ds) := by rfl) (he : DT X (ρ.set l (.sh (.lst ds))) e k) : DT X ρ e k := PT.weak he fun σ H Q ⟨F0, H0, F, o, q⟩ => by
  obtain ⟨p, xs, h1, h2, o1⟩ := o.lend h
  exact ⟨F0, H0, _, o1, fun F' H' f => q _ H' (f.unlend h1)⟩
theorem dn_lend (l : Nat) (h : ρ[l]? = some (.ow ds) := by rfl) (he : DN X (ρ.set l (.sh (.lst ds))) e ds1) (hd : nl.nls ds1 = true) : DN X ρ e ds1 := PE.weak he fun σ H Q ⟨F0, H0, F, o, q⟩ => by
  obtain ⟨p, xs, h1, h2, o1⟩ := o.lend h
  exact ⟨F0, H0, _, o1, fun p2 ys F' H' f n e1 e2 r => q p2 ys _ H' (f.unlend h1) n e1 (by
    by_cases hq : p2 = p
    · exact if_pos hq
    · rw [cutH_at hq]; exact e2) (nl_rps f.lentAt hd r)⟩

/-! ### built-in functions -/
theorem argsB {id : String} {S : Rels} {r : List V → Hp → VK → Prop} (hc : CallR X (.builtin id) r) (ha : PA X (e :: es) (tA X.K ρ S)) (hm : X.mg x = none) (hv : bootBuiltins x = some (.builtin id))
    (w : ∀ (F H : Hp) (vs : List V) (Q : VK), Same F H → S F H vs → (∀ v, R F H v → Q v H) → r vs H Q) (hg : Gl X x := by rfl) (hn : x ≠ "__name__" := by decide) (hdb : (x == ("__debug__" : Str)) = false := by decide)
    (he : starEach (e :: es) X.env = (false, eval e X.env) :: starEach es X.env := by rfl) (hpl : (backTo pos (starEach es X.env)).any (·.1) = false := by rfl) : PE X (.Call (.Name x p) (e :: es) [] pos) (tG X.K ρ R) :=
  args (pe_callB hc hg hm hv ha hn hdb he hpl) rfl w
theorem argsB_new {id : String} {S : Rels} {r : List V → Hp → VK → Prop} (hc : CallR X (.builtin id) r) (ha : PA X (e :: es) (tA X.K ρ S)) (hm : X.mg x = none) (hv : bootBuiltins x = some (.builtin id))
    (w : ∀ (F H : Hp) (vs : List V) (Q : VK), Same F H → S F H vs → (∀ p xs, H p = none → Rps X.K F ds xs → Q (.ref p) (upd H p (.lst xs))) → r vs H Q) (hg : Gl X x := by rfl) (hn : x ≠ "__name__" := by decide) (hdb : (x == ("__debug__" : Str)) = false := by decide)
    (he : starEach (e :: es) X.env = (false, eval e X.env) :: starEach es X.env := by rfl) (hpl : (backTo pos (starEach es X.env)).any (·.1) = false := by rfl) : DN X ρ (.Call (.Name x p) (e :: es) [] pos) ds :=
  args_new (pe_callB hc hg hm hv ha hn hdb he hpl) rfl w
theorem argsT {T : String} {S : Rels} {r : List V → Hp → VK → Prop} (hc : CallR X (.type T) r) (ha : PA X (e :: es) (tA X.K ρ S)) (hm : X.mg x = none) (hv : bootBuiltins x = some (.type T))
    (w : ∀ (F H : Hp) (vs : List V) (Q : VK), Same F H → S F H vs → (∀ v, R F H v → Q v H) → r vs H Q) (hg : Gl X x := by rfl) (hn : x ≠ "__name__" := by decide) (hdb : (x == ("__debug__" : Str)) = false := by decide)
    (he : starEach (e :: es) X.env = (false, eval e X.env) :: starEach es X.env := by rfl) (hpl : (backTo pos (starEach es X.env)).any (·.1) = false := by rfl) : PE X (.Call (.Name x p) (e :: es) [] pos) (tG X.K ρ R) :=
  args (pe_callTy hc hg hm hv ha hn hdb he hpl) rfl w
theorem argsT_new {T : String} {S : Rels} {r : List V → Hp → VK → Prop} (hc : CallR X (.type T) r) (ha : PA X (e :: es) (tA X.K ρ S)) (hm : X.mg x = none) (hv : bootBuiltins x = some (.type T))
    (w : ∀ (F H : Hp) (vs : List V) (Q : VK), Same F H → S F H vs → (∀ p xs, H p = none → Rps X.K F ds xs → Q (.ref p) (upd H p (.lst xs))) → r vs H Q) (hg : Gl X x := by rfl) (hn : x ≠ "__name__" := by decide) (hdb : (x == ("__debug__" : Str)) = false := by decide)
    (he : starEach (e :: es) X.env = (false, eval e X.env) :: starEach es X.env := by rfl) (hpl : (backTo pos (starEach es X.env)).any (·.1) = false := by rfl) : DN X ρ (.Call (.Name x p) (e :: es) [] pos) ds :=
  args_new (pe_callTy hc hg hm hv ha hn hdb he hpl) rfl w
theorem pa1 {R : Rel} (m : Mono R) (ha : PE X e (tG X.K ρ R)) (hs : starEach (e :: []) X.env = (false, eval e X.env) :: starEach [] X.env := by rfl) : PA X [e] (tA X.K ρ (rCons R rNil)) := pa_consG m ha pa_nilG hs
theorem b_len : bootBuiltins "len" = some (.builtin "len") := PySem.boot_len
theorem de_lenB (hm : X.mg "len" = none) (ha : DB X ρ e ds) (hs : starEach (e :: []) X.env = (false, eval e X.env) :: starEach [] X.env := by rfl) (hg : Gl X "len" := by rfl) (hpl : (backTo pos (starEach ([] : List Expr) X.env)).any (·.1) = false := by rfl) : DE X ρ (.Call (.Name "len" p) [e] [] pos) (.int (ds.length : Int)) :=
  argsB (R := rD X.K (.int (ds.length : Int))) call_len_seq (pa1 (fun _ _ _ _ _ f ⟨a, xs, e, q, r⟩ => ⟨a, xs, e, q.imp (fun q => L2.Same.seq f.h0 q) (fun q => Same.tup f.h0 q), Rps.mono f.f0 r⟩) ha hs) hm PySem.boot_len (fun F H vs Q s ⟨y, ys, e1, ⟨a, xs, e2, h, r⟩, e3⟩ q => by
    subst e3 e1 e2
    exact ⟨a, xs, rfl, h, q _ (by rw [r.length]; rfl)⟩) hg (by decide) (by decide) hs hpl
theorem de_len (hm : X.mg "len" = none) (ha : DQ X ρ e ds) (hs : starEach (e :: []) X.env = (false, eval e X.env) :: starEach [] X.env := by rfl) (hg : Gl X "len" := by rfl) (hpl : (backTo pos (starEach ([] : List Expr) X.env)).any (·.1) = false := by rfl) : DE X ρ (.Call (.Name "len" p) [e] [] pos) (.int (ds.length : Int)) := de_lenB hm ha.db hs hg hpl
theorem de_lenM {α : Type} {f : α → D} {xs : List α} (hm : X.mg "len" = none) (ha : DQ X ρ e (xs.map f)) (hs : starEach (e :: []) X.env = (false, eval e X.env) :: starEach [] X.env := by rfl) (hg : Gl X "len" := by rfl) (hpl : (backTo pos (starEach ([] : List Expr) X.env)).any (·.1) = false := by rfl) : DE X ρ (.Call (.Name "len" p) [e] [] pos) (.int (xs.length : Int)) :=
  (de_len hm ha hs hg hpl).eq (by rw [List.length_map])
theorem de_lenS {z : Str} (hm : X.mg "len" = none) (ha : DE X ρ e (.str z)) (hz : z.length ≤ sizeLine) (hs : starEach (e :: []) X.env = (false, eval e X.env) :: starEach [] X.env := by rfl) (hg : Gl X "len" := by rfl) (hpl : (backTo pos (starEach ([] : List Expr) X.env)).any (·.1) = false := by rfl) : DE X ρ (.Call (.Name "len" p) [e] [] pos) (.int (z.length : Int)) :=
  argsB (R := rD X.K (.int (z.length : Int))) call_len_str (pa1 mD ha hs) hm PySem.boot_len (fun F H vs Q s ⟨y, ys, e1, r, e3⟩ q => by
    subst e3 e1
    cases r
    exact ⟨z, rfl, hz, q _ rfl⟩) hg (by decide) (by decide) hs hpl
theorem b_int : bootBuiltins "int" = some (.type "int") := by decide +kernel
theorem de_intI (hm : X.mg "int" = none) (ha : DE X ρ e (.int i)) (hs : starEach (e :: []) X.env = (false, eval e X.env) :: starEach [] X.env := by rfl) (hg : Gl X "int" := by rfl) (hpl : (backTo pos (starEach ([] : List Expr) X.env)).any (·.1) = false := by rfl) : DE X ρ (.Call (.Name "int" p) [e] [] pos) (.int i) :=
  argsT (R := rD X.K (.int i)) call_int1 (pa1 mD ha hs) hm b_int (fun F H vs Q s ⟨y, ys, e1, r, e3⟩ q => by
    subst e3 e1
    cases r
    exact .inl ⟨i, rfl, q _ rfl⟩) hg (by decide) (by decide) hs hpl
theorem de_intB (hm : X.mg "int" = none) (ha : DE X ρ e (.bl k)) (hs : starEach (e :: []) X.env = (false, eval e X.env) :: starEach [] X.env := by rfl) (hg : Gl X "int" := by rfl) (hpl : (backTo pos (starEach ([] : List Expr) X.env)).any (·.1) = false := by rfl) : DE X ρ (.Call (.Name "int" p) [e] [] pos) (.int (if k = true then 1 else 0)) :=
  argsT (R := rD X.K (.int (if k = true then 1 else 0))) call_int1 (pa1 mD ha hs) hm b_int (fun F H vs Q s ⟨y, ys, e1, r, e3⟩ q => by
    subst e3 e1
    cases r
    exact .inr ⟨k, rfl, q _ rfl⟩) hg (by decide) (by decide) hs hpl
/-! isinstance -/
def tyn : D → String
  | .non => "NoneType"
  | .bl _ => "bool"
  | .int _ => "int"
  | .str _ => "str"
  | .tup _ => "tuple"
  | .lst _ => "list"
  | .dic _ => "dict"
  | .ro _ => "list"
  | _ => "?"
theorem ty_of {K : PySem.W.Frag} {F H : Hp} (s : Same F H) {v : V} : ∀ {d : D}, Rp K F d v → (tyn d == "?") = false → TyX K H v (.type (tyn d))
  | .non, h, _ => by cases h; exact .base .non
  | .bl _, h, _ => by cases h; exact .base (.bl _)
  | .int _, h, _ => by cases h; exact .base (.int _)
  | .str _, h, _ => by cases h; exact .base (.str _)
  | .tup _, h, _ => by
    obtain ⟨a, xs, rfl, q, _⟩ := h
    rcases Same.tup s q with (q | ⟨o, q⟩) | ⟨o, its, n, q, c, _⟩
    · exact .base (.tup q)
    · exact .fTuple q
    · exact .kTuple q c
  | .lst _, h, _ => by
    obtain ⟨a, xs, rfl, q, _⟩ := h
    exact .base (.lst (s _ _ q))
  | .ro _, h, _ => by
    obtain ⟨a, xs, rfl, q, _⟩ := h
    rcases L2.Same.seq s q with (q | ⟨o, q⟩) | ⟨o, its, n, q, c, _⟩
    · exact .base (.lst q)
    · exact .base (.frz q)
    · exact .kList q c
  | .dic _, h, _ => by
    obtain ⟨a, xs, rfl, q, _⟩ := h
    rcases Same.rd s q with q | ⟨o, q⟩
    · exact .base (.dK q)
    · exact .fDict q
  | .sc _, _, q => by cases q
  | .ins _ _, _, q => by cases q
  | .xo _ _ _, _, q => by cases q
theorem b_isi : bootBuiltins "isinstance" = some (.builtin "isinstance") := by decide +kernel
theorem de_ty {T : String} {x : Str} (hm : X.mg x = none) (hv : bootBuiltins x = some (.type T)) (hg : Gl X x := by rfl) (hn : x ≠ "__name__" := by decide) (hd : (x == ("__debug__" : Str)) = false := by decide) : DE X ρ (.Name x p) (.sc (.ty T)) := de_c (pe_bltn (v := .ty T) hg hm hv rfl hn hd) fun _ => rfl
theorem de_isi {T : String} (hm : X.mg "isinstance" = none) (ha : DE X ρ a d) (hb : DE X ρ b (.sc (.ty T))) (ht : (tyn d == "?") = false) (h : kitB (tyn d) T = some k) (hs : starEach (a :: [b]) X.env = (false, eval a X.env) :: starEach [b] X.env := by rfl)
    (hs2 : starEach (b :: []) X.env = (false, eval b X.env) :: starEach [] X.env := by rfl) (hg : Gl X "isinstance" := by rfl) (hpl : (backTo pos (starEach [b] X.env)).any (·.1) = false := by rfl) : DE X ρ (.Call (.Name "isinstance" p) [a, b] [] pos) (.bl k) :=
  argsB (R := rD X.K (.bl k)) call_isi (pa_consG mD ha (pa1 mD hb hs2) hs) hm b_isi (fun F H vs Q s ⟨y, ys, e1, r1, ⟨z, zs, e2, r2, e3⟩⟩ q => by
    subst e3 e2 e1
    cases r2
    exact ⟨y, _, _, _, k, rfl, .ty T, ty_of s r1 ht, kit_ty h, q _ rfl⟩) hg (by decide) (by decide) hs hpl
end

/-! ### statements -/
inductive Out where
  | nx (ρ : Ev) | bk (ρ : Ev) | ct (ρ : Ev) | rt (d : D) | ro (ds : List D) | rs (x : Exc) (ρ : Ev) | rtt (t : T)
def Out.nxt : Out → Bool
  | .nx _ => true
  | _ => false
structure Fits (K : PySem.W.Frag) (F0 H0 : Hp) (W : WX) (B : Ends) (Post : Out → Prop) : Prop where
  nx : ∀ ρ F H σ, Post (.nx ρ) → Ok K F0 H0 F H σ ρ → B.nx σ H
  bk : ∀ ρ F H σ, Post (.bk ρ) → Ok K F0 H0 F H σ ρ → B.bk σ H
  ct : ∀ ρ F H σ, Post (.ct ρ) → Ok K F0 H0 F H σ ρ → B.ct σ H
  rt : ∀ d v F H, Post (.rt d) → Fin F0 H0 F H → Rp K F d v → B.rt v H
  ro : ∀ ds p xs F H, Post (.ro ds) → Fin F0 H0 F H → H0 p = none → H p = some (.lst xs) → F p = none → Rps K F ds xs → B.rt (.ref p) H
  rs : ∀ x ρ σ F H cls d, Post (.rs x ρ) → Ok K F0 H0 F H σ ρ → ExOk K H0 F x cls d H → W cls d σ H
  rtt : ∀ t x fp F H, Post (.rtt t) → Fin F0 H0 F H → RpT K F H t x fp → fp.Nodup → (∀ a ∈ fp, H0 a = none ∧ F a = none) → B.rt x H
def tS (K : PySem.W.Frag) (W : WX) (ρ : Ev) (Post : Out → Prop) : TS := fun B σ H => ∃ F0 H0 F, Ok K F0 H0 F H σ ρ ∧ Fits K F0 H0 W B Post
def DS (X : Cx) (W : WX) (ρ : Ev) (st : Stmt) (Post : Out → Prop) : Prop := PS X st (tS X.K W ρ Post)
def DSs (X : Cx) (W : WX) (ρ : Ev) (st : List Stmt) (Post : Out → Prop) : Prop := PSs X st (tS X.K W ρ Post)
theorem PS.weak {X : Cx} {e : Stmt} {t t' : TS} (h : PS X e t) (w : ∀ B σ H, t' B σ H → t B σ H) : PS X e t' := ⟨fun pins s σ H Q I q => h.run pins s σ H Q I (w Q σ H q)⟩
theorem PSs.weak {X : Cx} {e : List Stmt} {t t' : TS} (h : PSs X e t) (w : ∀ B σ H, t' B σ H → t B σ H) : PSs X e t' := ⟨fun pins s σ H Q I q => h.run pins s σ H Q I (w Q σ H q)⟩
theorem Fits.imp {K : PySem.W.Frag} {F0 H0 : Hp} {W : WX} {B : Ends} {Post Post' : Out → Prop} (f : Fits K F0 H0 W B Post) (h : ∀ o, Post' o → Post o) : Fits K F0 H0 W B Post' :=
  ⟨fun ρ F H σ q => f.nx ρ F H σ (h _ q), fun ρ F H σ q => f.bk ρ F H σ (h _ q), fun ρ F H σ q => f.ct ρ F H σ (h _ q), fun d v F H q => f.rt d v F H (h _ q), fun ds p xs F H q => f.ro ds p xs F H (h _ q), fun x ρ σ F H c d q => f.rs x ρ σ F H c d (h _ q), fun t x fp F H q => f.rtt t x fp F H (h _ q)⟩
section
variable {X : Cx} {W : WX} {ρ ρ' : Ev} {e a b c : Expr} {es : List Expr} {d d1 d2 : D} {ds ds1 ds2 : List D} {pos p p2 : Pos} {k : Bool} {st : Stmt} {A B rest : List Stmt} {Post Mid : Out → Prop}
theorem DS.imp (h : DS X W ρ st Mid) (q : ∀ o, Mid o → Post o) : DS X W ρ st Post := PS.weak h fun B σ H ⟨F0, H0, F, o, f⟩ => ⟨F0, H0, F, o, f.imp q⟩
theorem DSs.imp (h : DSs X W ρ A Mid) (q : ∀ o, Mid o → Post o) : DSs X W ρ A Post := PSs.weak h fun B σ H ⟨F0, H0, F, o, f⟩ => ⟨F0, H0, F, o, f.imp q⟩
theorem dss_nil (h : Post (.nx ρ)) : DSs X W ρ [] Post := PSs.weak pss_nil fun B σ H ⟨F0, H0, F, o, f⟩ => f.nx _ _ _ _ h o
theorem dss_mid (h1 : DS X W ρ st Mid) (h2 : ∀ ρ', Mid (.nx ρ') → DSs X W ρ' rest Post) (h3 : ∀ o, o.nxt = false → Mid o → Post o) : DSs X W ρ (st :: rest) Post := by
  have hu : PSs X rest (fun B σ H => ∃ ρ', Mid (.nx ρ') ∧ tS X.K W ρ' Post B σ H) := ⟨fun pins s σ H B I ⟨ρ', m, q⟩ => (h2 ρ' m).run pins s σ H B I q⟩
  refine PSs.weak (pss_cons h1 hu) fun B σ H ⟨F0, H0, F, o, f⟩ => ⟨F0, H0, F, o, ?_⟩
  exact ⟨fun ρ' F H σ q o' => ⟨ρ', q, F0, H0, F, o', f⟩, fun ρ F H σ q => f.bk ρ F H σ (h3 _ rfl q), fun ρ F H σ q => f.ct ρ F H σ (h3 _ rfl q), fun d v F H q => f.rt d v F H (h3 _ rfl q), fun ds p xs F H q => f.ro ds p xs F H (h3 _ rfl q), fun x ρ σ F H c d q => f.rs x ρ σ F H c d (h3 _ rfl q), fun t x fp F H q => f.rtt t x fp F H (h3 _ rfl q)⟩
/-- a statement that goes on to ρ' alone -/
theorem dss_then (h1 : DS X W ρ st (fun o => o = .nx ρ')) (h2 : DSs X W ρ' rest Post) : DSs X W ρ (st :: rest) Post :=
  dss_mid h1 (fun ρ1 e => by cases e; exact h2) fun o h e => by subst e; cases h
/-- a statement that never goes on -/
theorem dss_end (h1 : DS X W ρ st (fun o => o.nxt = false ∧ Post o)) : DSs X W ρ (st :: rest) Post :=
  dss_mid h1 (fun ρ1 e => by cases e.1) fun o _ e => e.2
/-! assignment -/
theorem Ok.put {K : PySem.W.Frag} {F0 H0 F H : Hp} {σ : L2.St} {i : Nat} {s : Sl} {v : Option V} (o : Ok K F0 H0 F H σ ρ) (h : SlOk K H0 F H s v) (hn : ∀ a, Ft K F H s v a → ∀ (j : Nat) (t : Sl) (w : Option V), j ≠ i → ρ[j]? = some t → σ[j]? = some w → ¬ Ft K F H t w a) : Ok K F0 H0 F H (σ.set i v) (ρ.set i s) :=
  o.chg o.fin (L2.Same.refl _) (fun j t w hj g1 g2 a ha => ⟨rfl, ((o.sl j t w g1 g2).ft_at ha).2.1, fun z => hn a z j t w hj g1 g2 ha⟩) h
/-- what is new in the heap is owned by none -/
theorem Ok.newer {K : PySem.W.Frag} {F0 H0 F H F' H' : Hp} {σ : L2.St} {a : Addr} (o : Ok K F0 H0 F H σ ρ) (f : Fin F H F' H') (ha : H a = none) (j : Nat) (t : Sl) (w : Option V) (g1 : ρ[j]? = some t) (g2 : σ[j]? = some w) : ¬ Ft K F' H' t w a := fun z =>
  ((o.sl j t w g1 g2).ft_at (Ft.back' (o.sl j t w g1 g2) f.h0 z)).1 ha
section
variable {x : Str} {pos' : Pos} (i : Nat)
theorem dss_set (hN : X.N.Nodup) (he : DE X ρ e d) (k : DSs X W (ρ.set i (.sh d)) rest Post) (hi : X.N[i]? = some x := by rfl) (hx : Loc X.env.scope x := by first | exact .inl rfl | exact .inr rfl) (hs : swapsWith e (some (.Name x pos')) pos.line X.env = pure false := by rfl) (hf : X.fn x = true ∨ X.env.scope.names.lookup x = some .local := by first | exact .inl rfl | exact .inr rfl) :
    DSs X W ρ (.Assign [.Name x pos'] e pos :: rest) Post :=
  dss_then (PS.weak (ps_set hN hi hx he hs hf) fun B σ H ⟨F0, H0, F, o, f⟩ => ⟨F0, H0, F, o, fun v F' H' f' r => f.nx _ _ _ _ rfl ((o.call f').put (i := i) (s := .sh d) ⟨v, rfl, r⟩ fun a h => by cases h)⟩) k
theorem dss_setN (hN : X.N.Nodup) (he : DN X ρ e ds) (k : DSs X W (ρ.set i (.ow ds)) rest Post) (hi : X.N[i]? = some x := by rfl) (hx : Loc X.env.scope x := by first | exact .inl rfl | exact .inr rfl) (hs : swapsWith e (some (.Name x pos')) pos.line X.env = pure false := by rfl) (hf : X.fn x = true ∨ X.env.scope.names.lookup x = some .local := by first | exact .inl rfl | exact .inr rfl) :
    DSs X W ρ (.Assign [.Name x pos'] e pos :: rest) Post :=
  dss_then (PS.weak (ps_set hN hi hx he hs hf) fun B σ H ⟨F0, H0, F, o, f⟩ => ⟨F0, H0, F, o, fun p xs F' H' f' n e1 e2 r => f.nx _ _ _ _ rfl ((o.call f').put (i := i) (s := .ow ds) ⟨p, xs, rfl, e1, e2, o.fin.h0.free n, r⟩ fun a ha j t w hj g1 g2 => by
    cases ha
    exact o.newer f' n j t w g1 g2)⟩) k
end
/-! expressions as statements, return -/
theorem dss_expr (he : DE X ρ e d) (k : DSs X W ρ rest Post) (hs : swapsWith e none pos.line X.env = pure false := by rfl) : DSs X W ρ (.Expr e pos :: rest) Post :=
  dss_then (PS.weak (ps_expr he hs) fun B σ H ⟨F0, H0, F, o, f⟩ => ⟨F0, H0, F, o, fun v F' H' f' r => f.nx _ _ _ _ rfl (o.call f')⟩) k
theorem dss_pass (k : DSs X W ρ rest Post) : DSs X W ρ (.Pass pos :: rest) Post :=
  dss_then (PS.weak ps_pass fun B σ H ⟨F0, H0, F, o, f⟩ => f.nx _ _ _ _ rfl o) k
theorem dss_break (h : Post (.bk ρ)) : DSs X W ρ (.Break pos :: rest) Post :=
  dss_end (PS.weak ps_break fun B σ H ⟨F0, H0, F, o, f⟩ => f.bk _ _ _ _ ⟨rfl, h⟩ o)
theorem dss_continue (h : Post (.ct ρ)) : DSs X W ρ (.Continue pos :: rest) Post :=
  dss_end (PS.weak ps_continue fun B σ H ⟨F0, H0, F, o, f⟩ => f.ct _ _ _ _ ⟨rfl, h⟩ o)
theorem dss_ret (he : DE X ρ e d) (h : Post (.rt d)) : DSs X W ρ (.Return (some e) pos :: rest) Post :=
  dss_end (PS.weak (ps_ret he) fun B σ H ⟨F0, H0, F, o, f⟩ => ⟨F0, H0, F, o, fun v F' H' f' r => f.rt d v F' H' ⟨rfl, h⟩ (o.call f').fin r⟩)
theorem dss_retN (he : DN X ρ e ds) (h : Post (.ro ds)) : DSs X W ρ (.Return (some e) pos :: rest) Post :=
  dss_end (PS.weak (ps_ret he) fun B σ H ⟨F0, H0, F, o, f⟩ => ⟨F0, H0, F, o, fun p xs F' H' f' n e1 e2 r => f.ro ds p xs F' H' ⟨rfl, h⟩ (o.call f').fin (o.fin.h0.free n) e1 e2 r⟩)
theorem dss_ret0 (h : Post (.rt .non)) : DSs X W ρ (.Return none pos :: rest) Post :=
  dss_end (PS.weak ps_retN fun B σ H ⟨F0, H0, F, o, f⟩ => f.rt .non _ _ _ ⟨rfl, h⟩ o.fin rfl)
/-- return x, x an owned list -/
theorem dss_retV (i : Nat) {x : Str} {p : Pos} (h : Post (.ro ds)) (hl : ρ[i]? = some (.ow ds) := by rfl) (hN : X.N[i]? = some x := by rfl) (hv : Vis X.env.scope x := by first | exact Or.inl rfl | exact Or.inr (Or.inl rfl) | exact Or.inr (Or.inr rfl)) (hd : (x == ("__debug__" : Str)) = false := by decide)
    (hcd : (x == ("__classdict__" : Str)) = false := by decide) : DSs X W ρ (.Return (some (.Name x p)) pos :: rest) Post :=
  dss_end (PS.weak (ps_ret (pe_var hN hv hd hcd)) fun B σ H ⟨F0, H0, F, o, f⟩ => by
    obtain ⟨v, e, q, xs, rfl, h1, h2, h3, r⟩ := slot_at o hl
    exact ⟨_, e, f.ro ds q xs F H ⟨rfl, h⟩ o.fin h3 h1 h2 r⟩)
/-! if -/
theorem ds_if (hc : DT X ρ c k) (h1 : k = true → DSs X W ρ A Post) (h2 : k = false → DSs X W ρ B Post) : DS X W ρ (.If c A B pos) Post := by
  cases k with
  | true => exact PS.weak (ps_if hc (h1 rfl) pss_never) fun B σ H ⟨F0, H0, F, o, f⟩ => ⟨F0, H0, F, o, fun F' H' f' => iteT ⟨F0, H0, F', o.call f', f⟩⟩
  | false => exact PS.weak (ps_if hc pss_never (h2 rfl)) fun B σ H ⟨F0, H0, F, o, f⟩ => ⟨F0, H0, F, o, fun F' H' f' => iteF ⟨F0, H0, F', o.call f', f⟩⟩
/-- if c: A, A never goes on -/
theorem dss_ifR (hc : DT X ρ c k) (h1 : k = true → DSs X W ρ A (fun o => o.nxt = false ∧ Post o)) (h2 : k = false → DSs X W ρ rest Post) : DSs X W ρ (.If c A [] pos :: rest) Post := by
  cases k with
  | true => exact dss_end (ds_if hc h1 fun h => nomatch h)
  | false => exact dss_then (ρ' := ρ) (ds_if hc (fun h => nomatch h) fun _ => dss_nil rfl) (h2 rfl)
/-- both ways go on, to ρ' -/
theorem dss_ifJ (ρ' : Ev) (hc : DT X ρ c k) (h1 : k = true → DSs X W ρ A (fun o => o = .nx ρ')) (h2 : k = false → DSs X W ρ B (fun o => o = .nx ρ')) (h3 : DSs X W ρ' rest Post) : DSs X W ρ (.If c A B pos :: rest) Post :=
  dss_then (ds_if hc h1 h2) h3
/-- the rest is shown apart for each way -/
theorem dss_ifM (Mid : Out → Prop) (hc : DT X ρ c k) (h1 : k = true → DSs X W ρ A Mid) (h2 : k = false → DSs X W ρ B Mid) (h3 : ∀ ρ', Mid (.nx ρ') → DSs X W ρ' rest Post) (h4 : ∀ o, o.nxt = false → Mid o → Post o) : DSs X W ρ (.If c A B pos :: rest) Post :=
  dss_mid (ds_if hc h1 h2) h3 h4
/-- an owned list becomes shared -/
theorem dss_share (i : Nat) (h : ρ[i]? = some (.ow ds)) (k : DSs X W (ρ.set i (.sh (.lst ds))) A Post) : DSs X W ρ A Post := PSs.weak k fun B σ H ⟨F0, H0, F, o, f⟩ => by
  obtain ⟨_, _, _, _, o1⟩ := o.lend h
  exact ⟨F0, H0, _, o1, f⟩
/-- a slot is forgotten -/
theorem dss_drop (i : Nat) (k : DSs X W (ρ.set i .un) A Post) : DSs X W ρ A Post := PSs.weak k fun B σ H ⟨F0, H0, F, o, f⟩ => by
  refine ⟨F0, H0, F, ?_, f⟩
  by_cases hi : i < σ.length
  · have := o.put (i := i) (s := .un) (v := σ[i]) trivial fun a h => by cases h
    rwa [List.set_getElem_self] at this
  · rw [List.set_eq_of_length_le (by rw [← o.len]; omega)]
    exact o
/-! lists changed -/
theorem Ok.write {K : PySem.W.Frag} {F0 H0 F H : Hp} {σ : L2.St} {i : Nat} {s s' : Sl} {p : Addr} {u : HO} (o : Ok K F0 H0 F H σ ρ) (hi : ρ[i]? = some s) (hs : Ft K F H s (some (.ref p)) p) (e : σ[i]? = some (some (.ref p))) (new : SlOk K H0 F (upd H p u) s' (some (.ref p))) (hs' : ∀ a, Ft K F (upd H p u) s' (some (.ref p)) a → a = p) :
    Ok K F0 H0 F (upd H p u) σ (ρ.set i s') := by
  obtain ⟨h1, h2, h3⟩ := (o.sl i s _ hi e).ft_at hs
  refine o.chg0 e ⟨o.fin.f0, fun b w g => ?_, fun b w g => ?_, o.fin.fr⟩ (L2.Same.refl _) (fun j t w hj g1 g2 a ha => ?_) new
  · rw [upd_ne (ne_of_none g h3)]; exact o.fin.h0 _ _ g
  · rw [upd_ne (ne_of_none g h2)]; exact o.fin.fh _ _ g
  · have : a ≠ p := fun z => by subst z; exact o.ap i j _ _ _ _ a (Ne.symm hj) hi g1 e g2 hs ha
    exact ⟨upd_ne this, ((o.sl j t w g1 g2).ft_at ha).2.1, fun z => this (hs' a z)⟩
section
variable (i : Nat) {x : Str} {apos : Pos}
/-- x.append(e) -/
theorem dss_append (he : DE X ρ e d) (hz : ds.length < sizeLine) (k : DSs X W (ρ.set i (.ow (ds ++ [d]))) rest Post) (hl : ρ[i]? = some (.ow ds) := by rfl) (hN : X.N[i]? = some x := by rfl) (hv : Vis X.env.scope x := by first | exact Or.inl rfl | exact Or.inr (Or.inl rfl) | exact Or.inr (Or.inr rfl))
    (hd : (x == ("__debug__" : Str)) = false := by decide) (hcd : (x == ("__classdict__" : Str)) = false := by decide) (hs : swapsWith (.Call (.Attribute (.Name x p) "append" apos) [e] [] p2) none pos.line X.env = pure false := by rfl) (h1 : attributeBase (.Name x p) "append" X.env (eval (.Name x p) X.env) = eval (.Name x p) X.env := by rfl)
    (hfew : ((backTo p2 (starEach [e] X.env)).all (fun x => !x.1) && (backToKw p2 (keywordEach [] X.env)).all (fun x => x.1.isSome) && decide ([e].length + ([] : List Keyword).length + (if ([] : List Keyword).isEmpty then 0 else 1) < 30)) = true := by rfl)
    (h3 : (apos.endLine == p2.line) = true := by rfl) (h2 : starEach [e] X.env = (false, eval e X.env) :: starEach [] X.env := by rfl) (h4 : (backTo p2 (starEach ([] : List Expr) X.env)).any (·.1) = false := by rfl) :
    DSs X W ρ (.Expr (.Call (.Attribute (.Name x p) "append" apos) [e] [] p2) pos :: rest) Post :=
  dss_then (PS.weak (ps_expr (pe_bm PySem.F.plainAttrs_list PySem.F.slot_list_append PySem.F.type_list_append mt_append (pe_var hN hv hd hcd) (pa_cons he pa_nil h2) h1 hfew h3 h2 h4) hs) fun B σ H ⟨F0, H0, F, o, f⟩ => by
    obtain ⟨v, e, q, xs, rfl, h1, h2, h3, r⟩ := slot_at o hl
    refine ⟨_, e, .inl ⟨rfl, _, SqL.of h1⟩, F0, H0, F, o, fun v F' H' f' r' => ?_⟩
    obtain ⟨v', e', q', xs', eq', h1', h2', h3', r''⟩ := slot_at (o.call f') hl
    rw [e] at e'; cases e'; cases eq'
    exact ⟨q, xs', v, rfl, rfl, h1', by rw [r''.length]; exact hz, f.nx _ _ _ _ rfl ((o.call f').write (s := .ow ds) (s' := .ow (ds ++ [d])) hl rfl e ⟨q, _, rfl, upd_same, h2', h3', r''.append ⟨v, [], rfl, r', rfl⟩⟩ (fun a ha => by cases ha; rfl))⟩) k
/-- x.extend(e) -/
theorem dss_extend (he : DL X ρ e ds1) (hz : ds.length + ds1.length ≤ sizeLine) (k : DSs X W (ρ.set i (.ow (ds ++ ds1))) rest Post) (hl : ρ[i]? = some (.ow ds) := by rfl) (hN : X.N[i]? = some x := by rfl) (hv : Vis X.env.scope x := by first | exact Or.inl rfl | exact Or.inr (Or.inl rfl) | exact Or.inr (Or.inr rfl))
    (hd : (x == ("__debug__" : Str)) = false := by decide) (hcd : (x == ("__classdict__" : Str)) = false := by decide) (hs : swapsWith (.Call (.Attribute (.Name x p) "extend" apos) [e] [] p2) none pos.line X.env = pure false := by rfl) (h1 : attributeBase (.Name x p) "extend" X.env (eval (.Name x p) X.env) = eval (.Name x p) X.env := by rfl)
    (hfew : ((backTo p2 (starEach [e] X.env)).all (fun x => !x.1) && (backToKw p2 (keywordEach [] X.env)).all (fun x => x.1.isSome) && decide ([e].length + ([] : List Keyword).length + (if ([] : List Keyword).isEmpty then 0 else 1) < 30)) = true := by rfl)
    (h3 : (apos.endLine == p2.line) = true := by rfl) (h2 : starEach [e] X.env = (false, eval e X.env) :: starEach [] X.env := by rfl) (h4 : (backTo p2 (starEach ([] : List Expr) X.env)).any (·.1) = false := by rfl) :
    DSs X W ρ (.Expr (.Call (.Attribute (.Name x p) "extend" apos) [e] [] p2) pos :: rest) Post :=
  dss_then (PS.weak (ps_expr (pe_bm PySem.F.plainAttrs_list PySem.F.slot_list_extend PySem.F.type_list_extend mt_extend (pe_var hN hv hd hcd) (pa_cons he pa_nil h2) h1 hfew h3 h2 h4) hs) fun B σ H ⟨F0, H0, F, o, f⟩ => by
    obtain ⟨v, e, q, xs, rfl, h1, h2, h3, r⟩ := slot_at o hl
    refine ⟨_, e, .inl ⟨rfl, _, SqL.of h1⟩, F0, H0, F, o, fun v F' H' f' ⟨a, ys, ea, ha, r'⟩ => ?_⟩
    obtain ⟨v', e', q', xs', eq', h1', h2', h3', r''⟩ := slot_at (o.call f') hl
    rw [e] at e'; cases e'; cases eq'; subst ea
    exact ⟨q, a, xs', ys, rfl, rfl, h1', ha, by rw [r''.length, r'.length]; exact hz, f.nx _ _ _ _ rfl ((o.call f').write (s := .ow ds) (s' := .ow (ds ++ ds1)) hl rfl e ⟨q, _, rfl, upd_same, h2', h3', r''.append r'⟩ (fun a ha => by cases ha; rfl))⟩) k
/-- x[b] = e -/
theorem dss_put {j : Int} {n : Nat} {q1 q2 : Pos} (he : DE X ρ e d) (hb : DE X ρ b (.int j)) (hj : ixN ds.length j = some n) (k : DSs X W (ρ.set i (.ow (ds.set n d))) rest Post) (hl : ρ[i]? = some (.ow ds) := by rfl) (hN : X.N[i]? = some x := by rfl) (hv : Vis X.env.scope x := by first | exact Or.inl rfl | exact Or.inr (Or.inl rfl) | exact Or.inr (Or.inr rfl))
    (hd : (x == ("__debug__" : Str)) = false := by decide) (hcd : (x == ("__classdict__" : Str)) = false := by decide) (hs : swapsWithSole [.Subscript (.Name x q1) b q2] e pos.line X.env = pure false := by rfl) (hw : swappedStores [.Subscript (.Name x q1) b q2] e X.env = pure none := by rfl)
    (h1 : (assignEach [.Subscript (.Name x q1) b q2] X.env).map (·.2) = [assign (.Subscript (.Name x q1) b q2) X.env] := by rfl)
    (ha : ∀ v, assign (.Subscript (.Name x q1) b q2) X.env v = (do
      let ov ← holding [v] (eval (.Name x q1) X.env)
      let iv ← holding [v, ov] (eval b X.env)
      standAt q2
      holding [v, ov, iv] (setItem ov iv v)
      release [v, ov, iv] []) := by intro _; rfl) :
    DSs X W ρ (.Assign [.Subscript (.Name x q1) b q2] e pos :: rest) Post :=
  dss_then (PS.weak (ps_asg he (pg_sub (pe_var hN hv hd hcd) hb set_list ha) hs hw h1) fun B σ H ⟨F0, H0, F, o, f⟩ => by
    refine ⟨F0, H0, F, o, fun v F' H' f' r' => ?_⟩
    obtain ⟨v', e', q', xs', eq', h1', h2', h3', r''⟩ := slot_at (o.call f') hl
    subst eq'
    refine ⟨_, e', F0, H0, F', o.call f', fun z F2 H2 f2 r2 => ?_⟩
    obtain ⟨v2, e2, q2, xs2, eq2, h12, h22, h32, r22⟩ := slot_at ((o.call f').call f2) hl
    rw [e'] at e2; cases e2; cases eq2
    exact ⟨q', xs2, j, n, rfl, r2, h12, by rw [r22.length]; exact hj, f.nx _ _ _ _ rfl (((o.call f').call f2).write (s := .ow ds) (s' := .ow (ds.set n d)) hl rfl e' ⟨q', _, rfl, upd_same, h22, h32, Rps.set n r22 (r'.mono f2.f0)⟩ (fun a ha => by cases ha; rfl))⟩) k
/-- x op= e, ints -/
theorem dss_augI {pos' : Pos} {op : Operator} {g : Int → Int → Int} {u v : Int} (hN : X.N.Nodup) (ho : PIp X op (ipI g)) (he : DE X ρ e (.int v)) (k : DSs X W (ρ.set i (.sh (.int (g u v)))) rest Post) (hl : ρ[i]? = some (.sh (.int u)) := by rfl) (hi : X.N[i]? = some x := by rfl) (hx : Loc X.env.scope x := by first | exact .inl rfl | exact .inr rfl) (hf : X.fn x = true ∨ X.env.scope.names.lookup x = some .local := by first | exact .inl rfl | exact .inr rfl) :
    DSs X W ρ (.AugAssign (.Name x pos') op e pos :: rest) Post :=
  dss_then (PS.weak (ps_aug hN hi hx he ho hf) fun B σ H ⟨F0, H0, F, o, f⟩ => by
    obtain ⟨w, e, y, rfl, r⟩ := slot_at o hl
    refine ⟨y, e, F0, H0, F, o, fun z F' H' f' r' => ?_⟩
    cases r; cases r'
    exact ⟨u, v, rfl, rfl, f.nx _ _ _ _ rfl ((o.call f').put (i := i) (s := .sh (.int (g u v))) ⟨_, rfl, rfl⟩ fun a h => by cases h)⟩) k
end
end
end DL

set_option Elab.async false
set_option linter.all false
set_option maxRecDepth 100000
set_option autoImplicit false
/-! Trees whose lists are owned: shared, borrowed, new, changed. -/
namespace DL
open PySem PySem.Spec PyProof.Rows L2
mutual
def T.toD : T → D
  | .fz d => d
  | .ls ts => .lst (T.toDs ts)
  | .tp ts => .tup (T.toDs ts)
def T.toDs : List T → List D
  | [] => []
  | t :: ts => T.toD t :: T.toDs ts
end
theorem toDs_map : ∀ ts : List T, T.toDs ts = ts.map T.toD
  | [] => rfl
  | t :: ts => by rw [T.toDs, toDs_map ts]; rfl
section
variable {K : PySem.W.Frag} {F F' F2 H H' : Hp}
mutual
theorem RpT.frozen (s : Same F F2) : ∀ {t : T} {v : V} {fp : List Addr}, (∀ a ∈ fp, F2 a = H a) → RpT K F H t v fp → Rp K F2 t.toD v
  | .fz d, _, _, _, h => h.1.mono s
  | .ls ts, _, _, e, h => by
    obtain ⟨p, xs, q, e1, e2, e3, r⟩ := h
    subst e3
    exact ⟨p, xs, e1, by rw [e p (by simp)]; exact e2, RpTs.frozen s (fun a ha => e a (by simp [ha])) r⟩
  | .tp ts, _, _, e, h => by
    obtain ⟨p, xs, q, e1, e2, e3, r⟩ := h
    subst e3
    exact ⟨p, xs, e1, .inl (.inl (by rw [e p (by simp)]; exact e2)), RpTs.frozen s (fun a ha => e a (by simp [ha])) r⟩
theorem RpTs.frozen (s : Same F F2) : ∀ {ts : List T} {vs : List V} {fp : List Addr}, (∀ a ∈ fp, F2 a = H a) → RpTs K F H ts vs fp → Rps K F2 (T.toDs ts) vs
  | [], _, _, _, h => h.1
  | t :: ts, _, _, e, h => by
    obtain ⟨y, ys, f, g, e1, e2, r1, r2⟩ := h
    subst e2
    exact ⟨y, ys, e1, RpT.frozen s (fun a ha => e a (by simp [ha])) r1, RpTs.frozen s (fun a ha => e a (by simp [ha])) r2⟩
end
/-- F and what lies at fp -/
def frzH (F H : Hp) (fp : List Addr) : Hp := fun b => if b ∈ fp then H b else F b
theorem frz_same {fp : List Addr} (h : ∀ a ∈ fp, F a = none) : Same F (frzH F H fp) := fun b w e => by
  unfold frzH
  rw [if_neg]
  · exact e
  · intro hb; rw [h b hb] at e; cases e
theorem frz_fh {fp : List Addr} (s : Same F H) : Same (frzH F H fp) H := fun b w e => by
  unfold frzH at e
  split at e
  · exact e
  · exact s _ _ e
/-- a new tree becomes shared -/
theorem Fin.shareT {t : T} {x : V} {fp : List Addr} (f : Fin F H F' H') (r : RpT K F' H' t x fp) (n : ∀ a ∈ fp, H a = none ∧ F' a = none) : Same F' (frzH F' H' fp) ∧ Fin F H (frzH F' H' fp) H' ∧ Rp K (frzH F' H' fp) t.toD x := by
  have s1 : Same F' (frzH F' H' fp) := frz_same fun a ha => (n a ha).2
  refine ⟨s1, ⟨f.f0.trans s1, f.h0, frz_fh f.fh, fun q h1 h2 => ?_⟩, r.frozen s1 fun a ha => if_pos ha⟩
  unfold frzH
  rw [if_neg]
  · exact f.fr q h1 h2
  · intro hq; exact h2 (n q hq).1
end
section
variable {X : Cx} {ρ : Ev} {e a b c : Expr} {es : List Expr} {d d1 d2 : D} {ds ds1 ds2 : List D} {pos p p2 : Pos} {k : Bool} {n : Nat} {x : Str} {S : List D → Res → Prop} {t : T} {ts : List T}
def tDF (K : PySem.W.Frag) (ρ : Ev) (t : T) : TE := fun σ H Q => ∃ F0 H0 F, Ok K F0 H0 F H σ ρ ∧
  ∀ x fp F' H', Fin F H F' H' → RpT K F' H' t x fp → fp.Nodup → (∀ a ∈ fp, H a = none ∧ F' a = none) → Q x H'
/-- e is a new tree -/
def DF (X : Cx) (ρ : Ev) (e : Expr) (t : T) : Prop := PE X e (tDF X.K ρ t)
theorem DF.de (h : DF X ρ e t) : DE X ρ e t.toD := PE.weak h fun σ H Q ⟨F0, H0, F, o, q⟩ =>
  ⟨F0, H0, F, o, fun x fp F' H' f r nd n => by
    obtain ⟨_, o3, r3⟩ := f.shareT r n
    exact q _ _ _ o3 r3⟩
theorem DE.df (h : DE X ρ e d) : DF X ρ e (.fz d) := PE.weak h fun σ H Q ⟨F0, H0, F, o, q⟩ =>
  ⟨F0, H0, F, o, fun v F' H' f r => q v [] F' H' f ⟨r, rfl⟩ .nil (fun a ha => by cases ha)⟩
theorem rpts_fz {K : PySem.W.Frag} {F H : Hp} : ∀ {ds : List D} {xs : List V}, Rps K F ds xs → RpTs K F H (ds.map T.fz) xs []
  | [], _, h => ⟨h, rfl⟩
  | d :: ds, _, h => by
    obtain ⟨y, ys, e, r, rs⟩ := h
    exact ⟨y, ys, [], [], e, rfl, ⟨r, rfl⟩, rpts_fz rs⟩
theorem DN.df (h : DN X ρ e ds) : DF X ρ e (.ls (ds.map .fz)) := PE.weak h fun σ H Q ⟨F0, H0, F, o, q⟩ =>
  ⟨F0, H0, F, o, fun p xs F' H' f n e1 e2 r => q _ [p] F' H' f ⟨p, xs, [], rfl, e1, rfl, rpts_fz r⟩ (by simp) fun a ha => by
    obtain rfl := List.mem_singleton.mp ha
    exact ⟨n, e2⟩⟩
theorem df_call (G : Fn X.prog X.w X.K X.mg X.base n x S) (hr : RoomG n X.A) (ha : DA X ρ (e :: es) ds) (h : S ds (.ot t)) (hg : Gl X x := by rfl) (hdb : (x == ("__debug__" : Str)) = false := by decide)
    (he : starEach (e :: es) X.env = (false, eval e X.env) :: starEach es X.env := by rfl) (hpl : (backTo pos (starEach es X.env)).any (·.1) = false := by rfl) : DF X ρ (.Call (.Name x p) (e :: es) [] pos) t := by
  obtain ⟨f, fd, ps, gm, gk, gb, G⟩ := G.ex
  refine PE.weak (pe_callG G hr hg gm gk gb (fun σ => passLA σ) ha hdb he hpl) fun σ H Q ⟨F0, H0, F, o, q⟩ => ⟨F0, H0, F, o, fun vs F1 H1 f1 r1 => ?_⟩
  exact ⟨F1, ds, .ot t, f1.fh, r1, h, fun x fp F' H' f r nd nn => q x fp F' H' (f1.trans f) r nd fun a ha => ⟨f1.h0.free (nn a ha).1, (nn a ha).2⟩⟩
theorem df_call0 (G : Fn X.prog X.w X.K X.mg X.base n x S) (hr : RoomG n X.A) (h : S [] (.ot t)) (hg : Gl X x := by rfl) (hdb : (x == ("__debug__" : Str)) = false := by decide) : DF X ρ (.Call (.Name x p) [] [] pos) t := by
  obtain ⟨f, fd, ps, gm, gk, gb, G⟩ := G.ex
  refine PE.weak (pe_callG0 G hr hg gm gk gb (fun σ => passLA σ) hdb) fun σ H Q ⟨F0, H0, F, o, q⟩ => ?_
  exact ⟨F, [], .ot t, o.fin.fh, rfl, h, fun x fp F' H' f r nd nn => q x fp F' H' f r nd nn⟩
/-! borrowing -/
theorem Ok.lendT {K : PySem.W.Frag} {F0 H0 F H : Hp} {σ : L2.St} {i : Nat} (o : Ok K F0 H0 F H σ ρ) (h : ρ[i]? = some (.ot t)) : ∃ F2, Same F F2 ∧ Ok K F0 H0 F2 H σ (ρ.set i (.sh t.toD)) := by
  have hi : i < ρ.length := (List.getElem?_eq_some_iff.mp h).1
  have hi' : i < σ.length := by rw [o.len]; exact hi
  have ow := o.sl i _ σ[i] h (by simp [hi'])
  obtain ⟨x, fp, e, r, nd, h2⟩ := ow
  have ei : σ[i]? = some (some x) := by simp [hi', e]
  have s1 : Same F (frzH F H fp) := frz_same fun a ha => (h2 a ha).1
  refine ⟨frzH F H fp, s1, o.chg0 ei ⟨o.fin.f0.trans s1, o.fin.h0, frz_fh o.fin.fh, fun q g1 g2 => ?_⟩ s1 (fun j t w hj g1 g2 a ha => ⟨rfl, ?_, fun z => z⟩) ⟨x, rfl, r.frozen s1 fun a ha => if_pos ha⟩⟩
  · unfold frzH
    rw [if_neg]
    · exact o.fin.fr q g1 g2
    · intro hq; exact g2 (h2 q hq).2
  · unfold frzH
    rw [if_neg]
    · exact ((o.sl j t w g1 g2).ft_at ha).2.1
    · intro hq; exact o.ap i j _ _ _ _ a (Ne.symm hj) h g1 ei g2 ⟨x, fp, rfl, r, hq⟩ ha
theorem Fin.unlendT {F F2 H F' H' : Hp} (s : Same F F2) (f : Fin F2 H F' H') : Fin F H F H' := ⟨L2.Same.refl _, f.h0, (s.trans f.f0).trans f.fh, fun _ h _ => h⟩
theorem de_lendT (l : Nat) (h : ρ[l]? = some (.ot t)) (he : DE X (ρ.set l (.sh t.toD)) e d) (hd : fl d = true) : DE X ρ e d := PE.weak he fun σ H Q ⟨F0, H0, F, o, q⟩ => by
  obtain ⟨F2, s, o1⟩ := o.lendT h
  exact ⟨F0, H0, F2, o1, fun v F' H' f r => q v F H' (.unlendT s f) (fl_rp hd r)⟩
theorem dt_lendT (l : Nat) (h : ρ[l]? = some (.ot t)) (he : DT X (ρ.set l (.sh t.toD)) e k) : DT X ρ e k := PT.weak he fun σ H Q ⟨F0, H0, F, o, q⟩ => by
  obtain ⟨F2, s, o1⟩ := o.lendT h
  exact ⟨F0, H0, F2, o1, fun F' H' f => q F H' (.unlendT s f)⟩
end
section
variable {X : Cx} {W : WX} {ρ ρ' : Ev} {e a b c : Expr} {es : List Expr} {d d1 d2 : D} {ds ds1 ds2 : List D} {pos p p2 : Pos} {k : Bool} {st : Stmt} {A B rest : List Stmt} {Post Mid : Out → Prop} {t t' : T} {ts : List T} {x : Str}
/-! statements -/
theorem dss_shareT (i : Nat) (h : ρ[i]? = some (.ot t)) (k : DSs X W (ρ.set i (.sh t.toD)) A Post) : DSs X W ρ A Post := PSs.weak k fun B σ H ⟨F0, H0, F, o, f⟩ => by
  obtain ⟨F2, _, o1⟩ := o.lendT h
  exact ⟨F0, H0, F2, o1, f⟩
theorem put_ot {K : PySem.W.Frag} {F0 H0 F H F' H' : Hp} {σ : L2.St} {i : Nat} {v : V} {fp : List Addr} (o : Ok K F0 H0 F H σ ρ) (f : Fin F H F' H') (r : RpT K F' H' t v fp) (nd : fp.Nodup) (n : ∀ a ∈ fp, H a = none ∧ F' a = none) : Ok K F0 H0 F' H' (σ.set i (some v)) (ρ.set i (.ot t)) :=
  (o.call f).put ⟨v, fp, rfl, r, nd, fun a ha => ⟨(n a ha).2, o.fin.h0.free (n a ha).1⟩⟩ fun a ⟨y, fq, e, r', ha⟩ j u w hj g1 g2 => by
    cases e
    rw [← r.uniq r'] at ha
    exact o.newer f (n a ha).1 j u w g1 g2
theorem dss_setT (i : Nat) {pos' : Pos} (hN : X.N.Nodup) (he : DF X ρ e t) (k : DSs X W (ρ.set i (.ot t)) rest Post) (hi : X.N[i]? = some x := by rfl) (hx : Loc X.env.scope x := by first | exact .inl rfl | exact .inr rfl) (hs : swapsWith e (some (.Name x pos')) pos.line X.env = pure false := by rfl) (hf : X.fn x = true ∨ X.env.scope.names.lookup x = some .local := by first | exact .inl rfl | exact .inr rfl) :
    DSs X W ρ (.Assign [.Name x pos'] e pos :: rest) Post :=
  dss_then (PS.weak (ps_set hN hi hx he hs hf) fun B σ H ⟨F0, H0, F, o, f⟩ => ⟨F0, H0, F, o, fun v fp F' H' f' r nd n => f.nx _ _ _ _ rfl (put_ot o f' r nd n)⟩) k
theorem dss_retT (he : DF X ρ e t) (h : Post (.rtt t)) : DSs X W ρ (.Return (some e) pos :: rest) Post :=
  dss_end (PS.weak (ps_ret he) fun B σ H ⟨F0, H0, F, o, f⟩ => ⟨F0, H0, F, o, fun v fp F' H' f' r nd n => f.rtt t v fp F' H' ⟨rfl, h⟩ (o.call f').fin r nd fun a ha => ⟨o.fin.h0.free (n a ha).1, (n a ha).2⟩⟩)
/-- return x, x an owned tree -/
theorem dss_retVT (i : Nat) {p : Pos} (h : Post (.rtt t)) (hl : ρ[i]? = some (.ot t)) (hN : X.N[i]? = some x := by rfl) (hv : Vis X.env.scope x := by first | exact Or.inl rfl | exact Or.inr (Or.inl rfl) | exact Or.inr (Or.inr rfl)) (hd : (x == ("__debug__" : Str)) = false := by decide)
    (hcd : (x == ("__classdict__" : Str)) = false := by decide) : DSs X W ρ (.Return (some (.Name x p)) pos :: rest) Post :=
  dss_end (PS.weak (ps_ret (pe_var hN hv hd hcd)) fun B σ H ⟨F0, H0, F, o, f⟩ => by
    obtain ⟨v, e, y, fp, rfl, r, nd, h2⟩ := slot_at o hl
    exact ⟨_, e, f.rtt t y fp F H ⟨rfl, h⟩ o.fin r nd fun a ha => ⟨(h2 a ha).2, (h2 a ha).1⟩⟩)
end
end DL

set_option Elab.async false
set_option linter.all false
set_option maxRecDepth 100000
set_option autoImplicit false
/-! Changes within owned trees. -/
namespace DL
open PySem PySem.Spec PyProof.Rows L2
def T.atL : List Nat → T → Option T
  | [], t => some t
  | j :: js, t => match t with
    | .ls ts => ts[j]?.bind (T.atL js)
    | .tp ts => ts[j]?.bind (T.atL js)
    | .fz _ => none
abbrev T.at (t : T) (js : List Nat) : Option T := T.atL js t
def T.putL (u : T) : List Nat → T → T
  | [], _ => u
  | j :: js, t => match t with
    | .ls ts => .ls (match ts[j]? with | some t => ts.set j (T.putL u js t) | none => ts)
    | .tp ts => .tp (match ts[j]? with | some t => ts.set j (T.putL u js t) | none => ts)
    | .fz d => .fz d
abbrev T.put (t : T) (js : List Nat) (u : T) : T := T.putL u js t
/-- y lies at js below v -/
def At (H : Hp) : V → List Nat → V → Prop
  | v, [], y => y = v
  | v, j :: js, y => ∃ p xs w, v = .ref p ∧ (H p = some (.lst xs) ∨ H p = some (.tup xs)) ∧ xs[j]? = some w ∧ At H w js y
section
variable {K : PySem.W.Frag} {F F' H H' : Hp}
theorem At.mono (s : Same H H') : ∀ {js : List Nat} {v y : V}, At H v js y → At H' v js y
  | [], _, _, h => h
  | j :: js, _, _, h => by
    obtain ⟨p, xs, w, e, h1, h2, h3⟩ := h
    exact ⟨p, xs, w, e, h1.imp (s _ _) (s _ _), h2, At.mono s h3⟩
theorem At.uniq : ∀ {js : List Nat} {v y z : V}, At H v js y → At H v js z → y = z
  | [], _, _, _, h, k => by rw [h, k]
  | j :: js, _, _, _, h, k => by
    obtain ⟨p, xs, w, e, h1, h2, h3⟩ := h
    obtain ⟨p', xs', w', e', h1', h2', h3'⟩ := k
    subst e; cases e'
    have : xs = xs' := by
      rcases h1 with h1 | h1 <;> rcases h1' with h1' | h1' <;> (rw [h1] at h1'; first | (cases h1'; done) | (cases h1'; rfl))
    subst this
    rw [h2] at h2'; cases h2'
    exact At.uniq h3 h3'
theorem At.snoc : ∀ {js : List Nat} {v y w : V} {p : Addr} {xs : List V} {j : Nat}, At H v js y → y = .ref p → (H p = some (.lst xs) ∨ H p = some (.tup xs)) → xs[j]? = some w → At H v (js ++ [j]) w
  | [], _, _, _, _, _, _, h, e, h1, h2 => by
    have h : _ = _ := h
    subst h; exact ⟨_, _, _, e, h1, h2, rfl⟩
  | i :: js, _, _, _, _, _, _, h, e, h1, h2 => by
    obtain ⟨q, ys, u, e', h1', h2', h3'⟩ := h
    exact ⟨q, ys, u, e', h1', h2', At.snoc h3' e h1 h2⟩
theorem RpTs.length : ∀ {ts : List T} {vs : List V} {q : List Addr}, RpTs K F H ts vs q → vs.length = ts.length
  | [], _, _, h => by rw [h.1]; rfl
  | t :: ts, _, _, h => by
    obtain ⟨y, ys, f, g, rfl, _, _, r⟩ := h
    simp [RpTs.length r]
theorem RpTs.split : ∀ {ts : List T} {xs : List V} {q : List Addr} {j : Nat} {t : T}, RpTs K F H ts xs q → ts[j]? = some t →
    ∃ y pre f post, xs[j]? = some y ∧ q = pre ++ (f ++ post) ∧ RpT K F H t y f ∧
      ∀ (F' H' : Hp) (t' : T) (y' : V) (f' : List Addr), Same F F' → (∀ a, a ∈ pre ∨ a ∈ post → H' a = H a) → RpT K F' H' t' y' f' → RpTs K F' H' (ts.set j t') (xs.set j y') (pre ++ (f' ++ post))
  | [], _, _, _, _, _, e => by simp at e
  | t :: ts, _, _, 0, u, h, e => by
    obtain ⟨y, ys, f, g, rfl, rfl, r1, r2⟩ := h
    simp at e; subst e
    exact ⟨y, [], f, g, rfl, rfl, r1, fun F' H' t' y' f' sf sh r => ⟨y', ys, f', g, rfl, rfl, r, r2.mono sf fun a ha => sh a (.inr ha)⟩⟩
  | t :: ts, _, _, j + 1, u, h, e => by
    obtain ⟨y, ys, f, g, rfl, rfl, r1, r2⟩ := h
    simp at e
    obtain ⟨y2, pre, f2, post, h1, rfl, h3, h4⟩ := RpTs.split r2 e
    refine ⟨y2, f ++ pre, f2, post, by simpa using h1, by simp, h3, fun F' H' t' y' f' sf sh r => ?_⟩
    refine ⟨y, ys.set j y', f, pre ++ (f' ++ post), rfl, by simp, r1.mono sf fun a ha => sh a (.inl (by simp [ha])), h4 F' H' t' y' f' sf (fun a ha => sh a (by rcases ha with ha | ha <;> simp [ha])) r⟩
theorem RpTs.snoc : ∀ {ts : List T} {xs : List V} {q : List Addr} {t : T} {y : V} {g : List Addr}, RpTs K F H ts xs q → RpT K F H t y g → RpTs K F H (ts ++ [t]) (xs ++ [y]) (q ++ g)
  | [], _, _, _, y, g, h, r => by
    obtain ⟨rfl, rfl⟩ := h
    exact ⟨y, [], g, [], rfl, by simp, r, rfl, rfl⟩
  | t :: ts, _, _, _, y, g, h, r => by
    obtain ⟨z, ys, f, g', rfl, rfl, r1, r2⟩ := h
    exact ⟨z, ys ++ [y], f, g' ++ g, rfl, by simp, r1, RpTs.snoc r2 r⟩
/-- the tree at a path, and what changes with it -/
theorem RpT.split : ∀ {js : List Nat} {t u : T} {v : V} {fp : List Addr}, RpT K F H t v fp → t.at js = some u → fp.Nodup →
    ∃ y pre f post, At H v js y ∧ fp = pre ++ (f ++ post) ∧ RpT K F H u y f ∧
      ∀ (F' H' : Hp) (u' : T) (f' : List Addr), Same F F' → (∀ a, a ∈ pre ∨ a ∈ post → H' a = H a) → RpT K F' H' u' y f' → RpT K F' H' (t.put js u') v (pre ++ (f' ++ post))
  | [], t, u, v, fp, h, e, _ => by
    cases e
    exact ⟨v, [], fp, [], rfl, by simp, h, fun F' H' u' f' sf sh r => by simpa [T.putL] using r⟩
  | j :: js, .fz d, u, v, fp, h, e, _ => by cases e
  | j :: js, .ls ts, u, v, fp, h, e, nd => by
    obtain ⟨p, xs, q, rfl, e2, rfl, r⟩ := h
    obtain ⟨t1, e3, e4⟩ := Option.bind_eq_some_iff.mp (show ts[j]?.bind (T.atL js) = some u from e)
    obtain ⟨y, pre, f, post, h1, rfl, h3, h4⟩ := r.split e3
    have ndf : f.Nodup := (List.nodup_append.mp (List.nodup_append.mp (List.nodup_cons.mp nd).2).2.1).1
    obtain ⟨y2, pre2, f2, post2, g1, rfl, g3, g4⟩ := RpT.split h3 e4 ndf
    refine ⟨y2, p :: (pre ++ pre2), f2, post2 ++ post, ⟨p, xs, y, rfl, .inl e2, h1, g1⟩, by simp, g3, fun F' H' u' f' sf sh r' => ?_⟩
    have k1 := g4 F' H' u' f' sf (fun a ha => sh a (by rcases ha with ha | ha <;> simp [ha])) r'
    have k2 := h4 F' H' _ y _ sf (fun a ha => sh a (by rcases ha with ha | ha <;> simp [ha])) k1
    have k3 : xs.set j y = xs := by
      obtain ⟨hj, rfl⟩ := List.getElem?_eq_some_iff.mp h1
      exact List.set_getElem_self _
    rw [k3] at k2
    have ep : (match ts[j]? with | some t => ts.set j (T.putL u' js t) | none => ts) = ts.set j (T.putL u' js t1) := by rw [e3]
    unfold T.put T.putL
    simp only [ep]
    exact ⟨p, xs, pre ++ ((pre2 ++ (f' ++ post2)) ++ post), rfl, by rw [sh p (by simp)]; exact e2, by simp, k2⟩
  | j :: js, .tp ts, u, v, fp, h, e, nd => by
    obtain ⟨p, xs, q, rfl, e2, rfl, r⟩ := h
    obtain ⟨t1, e3, e4⟩ := Option.bind_eq_some_iff.mp (show ts[j]?.bind (T.atL js) = some u from e)
    obtain ⟨y, pre, f, post, h1, rfl, h3, h4⟩ := r.split e3
    have ndf : f.Nodup := (List.nodup_append.mp (List.nodup_append.mp (List.nodup_cons.mp nd).2).2.1).1
    obtain ⟨y2, pre2, f2, post2, g1, rfl, g3, g4⟩ := RpT.split h3 e4 ndf
    refine ⟨y2, p :: (pre ++ pre2), f2, post2 ++ post, ⟨p, xs, y, rfl, .inr e2, h1, g1⟩, by simp, g3, fun F' H' u' f' sf sh r' => ?_⟩
    have k1 := g4 F' H' u' f' sf (fun a ha => sh a (by rcases ha with ha | ha <;> simp [ha])) r'
    have k2 := h4 F' H' _ y _ sf (fun a ha => sh a (by rcases ha with ha | ha <;> simp [ha])) k1
    have k3 : xs.set j y = xs := by
      obtain ⟨hj, rfl⟩ := List.getElem?_eq_some_iff.mp h1
      exact List.set_getElem_self _
    rw [k3] at k2
    have ep : (match ts[j]? with | some t => ts.set j (T.putL u' js t) | none => ts) = ts.set j (T.putL u' js t1) := by rw [e3]
    unfold T.put T.putL
    simp only [ep]
    exact ⟨p, xs, pre ++ ((pre2 ++ (f' ++ post2)) ++ post), rfl, by rw [sh p (by simp)]; exact e2, by simp, k2⟩
end
section
variable {K : PySem.W.Frag} {F0 H0 F H F' H' : Hp} {σ : L2.St} {ρ : Ev} {i : Nat} {t t' : T} {v : V} {fp fp' : List Addr} {p : Addr} {u : HO}
theorem Ok.updT (o : Ok K F0 H0 F H σ ρ) (f : Fin F H F' H') (hi : ρ[i]? = some (.ot t)) (e : σ[i]? = some (some v)) (r : RpT K F H t v fp) (hp : p ∈ fp) (h2 : ∀ a ∈ fp, F a = none ∧ H0 a = none) (r' : RpT K F' (upd H' p u) t' v fp') (nd : fp'.Nodup) (new : ∀ a ∈ fp', a ∈ fp ∨ (H a = none ∧ F' a = none)) :
    Ok K F0 H0 F' (upd H' p u) σ (ρ.set i (.ot t')) := by
  have o1 := o.call f
  have fp2 : ∀ a ∈ fp, F' a = none ∧ H0 a = none := fun a ha => ⟨f.fr a (h2 a ha).1 (r.mem a ha), (h2 a ha).2⟩
  refine o1.chg0 e ⟨o1.fin.f0, fun b w g => ?_, fun b w g => ?_, o1.fin.fr⟩ (L2.Same.refl _) (fun j s w hj g1 g2 a ha => ?_) ⟨v, fp', rfl, r', nd, fun a ha => ?_⟩
  · rw [upd_ne (ne_of_none g (fp2 p hp).2)]; exact o1.fin.h0 _ _ g
  · rw [upd_ne (ne_of_none g (fp2 p hp).1)]; exact o1.fin.fh _ _ g
  · have ha0 := Ft.back' (o.sl j s w g1 g2) f.h0 ha
    have no : a ∉ fp := fun z => o.ap i j _ _ _ _ a (Ne.symm hj) hi g1 e g2 ⟨v, fp, rfl, r, z⟩ ha0
    have hne : a ≠ p := fun z => by subst z; exact no hp
    refine ⟨upd_ne hne, ((o1.sl j s w g1 g2).ft_at ha).2.1, fun ⟨y, fq, ey, ry, hy⟩ => ?_⟩
    cases ey
    rw [← r'.uniq ry] at hy
    rcases new a hy with h | h
    · exact no h
    · exact ((o.sl j s w g1 g2).ft_at ha0).1 h.1
  · rcases new a ha with h | h
    · exact fp2 a h
    · exact ⟨h.2, o.fin.h0.free h.1⟩
end
section
variable {X : Cx} {W : WX} {ρ ρ' : Ev} {o e a b c : Expr} {es : List Expr} {d d1 d2 : D} {pos p p2 : Pos} {k : Bool} {st : Stmt} {A B rest : List Stmt} {Post Mid : Out → Prop} {t t' t1 u : T} {ts us : List T} {x : Str} {i : Nat} {js : List Nat} {n : Int}
def tAd (K : PySem.W.Frag) (ρ : Ev) (i : Nat) (js : List Nat) : TE := fun σ H Q => ∃ F0 H0 F v, Ok K F0 H0 F H σ ρ ∧ σ[i]? = some (some v) ∧ ∀ y F' H', Fin F H F' H' → At H' v js y → Q y H'
/-- e is what lies at js in the tree of slot i -/
def DAd (X : Cx) (ρ : Ev) (e : Expr) (i : Nat) (js : List Nat) : Prop := PE X e (tAd X.K ρ i js)
theorem slot_ot {F0 H0 F H : Hp} {σ : L2.St} (ok : Ok X.K F0 H0 F H σ ρ) (h : ρ[i]? = some (.ot t)) : ∃ v fp, σ[i]? = some (some v) ∧ RpT X.K F H t v fp ∧ fp.Nodup ∧ ∀ a ∈ fp, F a = none ∧ H0 a = none := by
  obtain ⟨w, e, v, fp, rfl, r⟩ := slot_at ok h
  exact ⟨v, fp, e, r⟩
theorem dad_var (i : Nat) (h : ρ[i]? = some (.ot t)) (hN : X.N[i]? = some x := by rfl) (hv : Vis X.env.scope x := by first | exact Or.inl rfl | exact Or.inr (Or.inl rfl) | exact Or.inr (Or.inr rfl)) (hd : (x == ("__debug__" : Str)) = false := by decide)
    (hcd : (x == ("__classdict__" : Str)) = false := by decide) : DAd X ρ (.Name x pos) i [] := PE.weak (pe_var hN hv hd hcd) fun σ H Q ⟨F0, H0, F, v, ok, e, q⟩ => by
  exact ⟨v, e, q v F H (.refl ok.fin.fh) rfl⟩
theorem dad_ix (ht : ρ[i]? = some (.ot t)) (ho : DAd X ρ o i js) (hb : DE X ρ b (.int n)) (hu : t.at js = some (.ls us) ∨ t.at js = some (.tp us)) {j : Nat} (hj : ixN us.length n = some j) (hs : PlainIx b := by intro _ _; rfl) : DAd X ρ (.Subscript o b pos) i (js ++ [j]) := by
  have core : ∀ {F0 H0 F H : Hp} {σ : L2.St} {v y z : V} {F1 H1 F2 H2 : Hp}, Ok X.K F0 H0 F H σ ρ → σ[i]? = some (some v) → Fin F H F1 H1 → At H1 v js y → Fin F1 H1 F2 H2 → ∀ u, t.at js = some u → ∃ f, RpT X.K F2 H2 u y f := fun {F0 H0 F H σ v y z F1 H1 F2 H2} ok e f1 ha f2 u hu => by
    obtain ⟨v', fp, e', r, nd, _⟩ := slot_ot ((ok.call f1).call f2) ht
    rw [e] at e'; cases e'
    obtain ⟨y', pre, f, post, h1, _, h3, _⟩ := r.split hu nd
    rw [h1.uniq (ha.mono f2.h0)] at h3
    exact ⟨f, h3⟩
  rcases hu with hu | hu
  · refine PE.weak (pe_ix ix_list ho hb hs) fun σ H Q ⟨F0, H0, F, v, ok, e, q⟩ => ⟨F0, H0, F, v, ok, e, fun y F1 H1 f1 h1 => ⟨F0, H0, F1, ok.call f1, fun z F2 H2 f2 r2 => ?_⟩⟩
    obtain ⟨f, p, xs, q', e1, e2, e3, r⟩ := core (z := y) ok e f1 h1 f2 _ hu
    have hl := r.length
    obtain ⟨_, hlt, _⟩ := ixN_seq hj
    obtain ⟨w, hw⟩ : ∃ w, xs[j]? = some w := ⟨xs[j]'(by omega), by simp [show j < xs.length by omega]⟩
    refine ⟨p, xs, n, w, e1, r2, .of e2, ?_, q w F2 H2 (f1.trans f2) (At.snoc (h1.mono f2.h0) e1 (.inl e2) hw)⟩
    unfold L2.atI
    rw [hl, hj]; exact hw
  · refine PE.weak (pe_ix ix_tup ho hb hs) fun σ H Q ⟨F0, H0, F, v, ok, e, q⟩ => ⟨F0, H0, F, v, ok, e, fun y F1 H1 f1 h1 => ⟨F0, H0, F1, ok.call f1, fun z F2 H2 f2 r2 => ?_⟩⟩
    obtain ⟨f, p, xs, q', e1, e2, e3, r⟩ := core (z := y) ok e f1 h1 f2 _ hu
    have hl := r.length
    obtain ⟨_, hlt, _⟩ := ixN_seq hj
    obtain ⟨w, hw⟩ : ∃ w, xs[j]? = some w := ⟨xs[j]'(by omega), by simp [show j < xs.length by omega]⟩
    refine ⟨p, xs, n, w, e1, r2, .inl (.inl e2), ?_, q w F2 H2 (f1.trans f2) (At.snoc (h1.mono f2.h0) e1 (.inr e2) hw)⟩
    unfold L2.atI
    rw [hl, hj]; exact hw
theorem nodup_ins {A B C g : List Addr} (h : (A ++ (B ++ C)).Nodup) (hg : g.Nodup) (hd : ∀ a ∈ g, a ∉ A ++ (B ++ C)) : (A ++ ((B ++ g) ++ C)).Nodup := by
  have pm : (A ++ ((B ++ g) ++ C)).Perm ((A ++ (B ++ C)) ++ g) := by
    rw [List.append_assoc A]
    refine List.Perm.append_left A ?_
    rw [List.append_assoc, List.append_assoc]
    exact List.Perm.append_left B List.perm_append_comm
  rw [pm.nodup_iff, List.nodup_append]
  exact ⟨h, hg, fun a ha b hb z => by subst z; exact hd a hb ha⟩
/-- where the tree of a slot is, behind what was evaluated meanwhile -/
theorem node_at {F0 H0 F H F2 H2 : Hp} {σ : L2.St} {v y : V} (ok : Ok X.K F0 H0 F H σ ρ) (ht : ρ[i]? = some (.ot t)) (e : σ[i]? = some (some v)) (f : Fin F H F2 H2) (ha : At H2 v js y) (hu : t.at js = some (.ls us)) :
    ∃ fp pre post p xs q, RpT X.K F H t v fp ∧ fp.Nodup ∧ (∀ a ∈ fp, F a = none ∧ H0 a = none) ∧ fp = pre ++ ((p :: q) ++ post) ∧ y = .ref p ∧ H2 p = some (.lst xs) ∧ RpTs X.K F2 H2 us xs q ∧
      ∀ (F' H' : Hp) (u' : T) (f' : List Addr), Same F2 F' → (∀ a, a ∈ pre ∨ a ∈ post → H' a = H2 a) → RpT X.K F' H' u' (.ref p) f' → RpT X.K F' H' (t.put js u') v (pre ++ (f' ++ post)) := by
  obtain ⟨v', fp, e', r, nd, h2⟩ := slot_ot ok ht
  rw [e] at e'; cases e'
  obtain ⟨y', pre, f1, post, h1, efp, h3, h4⟩ := (r.same f.f0 f.h0).split hu nd
  obtain rfl := h1.uniq ha
  obtain ⟨p, xs, q, rfl, e2, rfl, rs⟩ := h3
  exact ⟨fp, pre, post, p, xs, q, r, nd, h2, efp, rfl, e2, rs, h4⟩
theorem dss_appP {apos : Pos} (ht : ρ[i]? = some (.ot t)) (ho : DAd X ρ o i js) (he : DF X ρ e t1) (hu : t.at js = some (.ls us)) (hz : us.length < sizeLine) (k : DSs X W (ρ.set i (.ot (t.put js (.ls (us ++ [t1]))))) rest Post)
    (hs : swapsWith (.Call (.Attribute o "append" apos) [e] [] p2) none pos.line X.env = pure false := by rfl) (h1 : attributeBase o "append" X.env (eval o X.env) = eval o X.env := by rfl)
    (hfew : ((backTo p2 (starEach [e] X.env)).all (fun x => !x.1) && (backToKw p2 (keywordEach [] X.env)).all (fun x => x.1.isSome) && decide ([e].length + ([] : List Keyword).length + (if ([] : List Keyword).isEmpty then 0 else 1) < 30)) = true := by rfl)
    (h3 : (apos.endLine == p2.line) = true := by rfl) (h2 : starEach [e] X.env = (false, eval e X.env) :: starEach [] X.env := by rfl) (h4 : (backTo p2 (starEach ([] : List Expr) X.env)).any (·.1) = false := by rfl) :
    DSs X W ρ (.Expr (.Call (.Attribute o "append" apos) [e] [] p2) pos :: rest) Post :=
  dss_then (PS.weak (ps_expr (pe_bm PySem.F.plainAttrs_list PySem.F.slot_list_append PySem.F.type_list_append mt_append ho (pa_cons he pa_nil h2) h1 hfew h3 h2 h4) hs) fun B σ H ⟨F0, H0, F, ok, f⟩ => by
    obtain ⟨v, fp0, e, _⟩ := slot_ot ok ht
    refine ⟨F0, H0, F, v, ok, e, fun y F1 H1 f1 a1 => ?_⟩
    obtain ⟨_, _, _, p, xs, _, _, _, _, _, ey, e1, _⟩ := node_at ok ht e f1 a1 hu
    subst ey
    refine ⟨.inl ⟨rfl, _, SqL.of e1⟩, F0, H0, F1, ok.call f1, fun x g F2 H2 f2 r2 nd2 n2 => ?_⟩
    obtain ⟨fp, pre, post, p', xs, q, r, nd, hfp, efp, ey, e2, rs, ch⟩ := node_at ok ht e (f1.trans f2) (a1.mono f2.h0) hu
    cases ey
    have gH : ∀ a ∈ g, H a = none ∧ F2 a = none := fun a ha => ⟨f1.h0.free (n2 a ha).1, (n2 a ha).2⟩
    have gfp : ∀ a ∈ g, a ∉ fp := fun a ha z => r.mem a z (gH a ha).1
    have ndp := nd
    rw [efp] at ndp
    have pq : p ∉ pre ∧ p ∉ q ∧ p ∉ post := by
      rw [List.nodup_append] at ndp
      obtain ⟨_, n1, n3⟩ := ndp
      refine ⟨fun z => n3 p z p (by simp) rfl, ?_, ?_⟩
      · intro z; simp [z] at n1
      · intro z; simp [z] at n1
    have pg : p ∉ g := fun z => gfp p z (by rw [efp]; simp)
    have nn : ∀ {a : Addr}, a ≠ p → upd H2 p (.lst (xs ++ [x])) a = H2 a := fun h => upd_ne h
    refine ⟨p, xs, x, rfl, rfl, e2, by rw [rs.length]; exact hz, f.nx _ _ _ _ rfl (ok.updT (f1.trans f2) ht e r (p := p) (fp' := pre ++ ((p :: q ++ g) ++ post)) (by rw [efp]; simp) hfp ?_ ?_ ?_)⟩
    · refine ch F2 (upd H2 p (.lst (xs ++ [x]))) _ _ (L2.Same.refl _) (fun a ha => nn fun z => by subst z; rcases ha with ha | ha; exact pq.1 ha; exact pq.2.2 ha) ⟨p, xs ++ [x], q ++ g, rfl, upd_same, rfl, ?_⟩
      exact (rs.snoc r2).mono (L2.Same.refl _) fun a ha => nn fun z => by
        subst z
        rcases List.mem_append.mp ha with ha | ha
        · exact pq.2.1 ha
        · exact pg ha
    · exact nodup_ins ndp nd2 fun a ha => by rw [← efp]; exact gfp a ha
    · intro a ha
      by_cases hg : a ∈ g
      · exact .inr (gH a hg)
      · left; rw [efp]; simp only [List.mem_append, List.mem_cons] at ha ⊢; rcases ha with h | ((h | h) | h) <;> simp_all) k
/-- o[b] = e -/
theorem dss_putP {j : Nat} {q2 : Pos} (ht : ρ[i]? = some (.ot t)) (ho : DAd X ρ o i js) (he : DF X ρ e t1) (hb : DE X ρ b (.int n)) (hu : t.at js = some (.ls us)) (hj : ixN us.length n = some j) (k : DSs X W (ρ.set i (.ot (t.put js (.ls (us.set j t1))))) rest Post)
    (hs : swapsWithSole [.Subscript o b q2] e pos.line X.env = pure false := by rfl) (hw : swappedStores [.Subscript o b q2] e X.env = pure none := by rfl)
    (h1 : (assignEach [.Subscript o b q2] X.env).map (·.2) = [assign (.Subscript o b q2) X.env] := by rfl)
    (ha : ∀ v, assign (.Subscript o b q2) X.env v = (do
      let ov ← holding [v] (eval o X.env)
      let iv ← holding [v, ov] (eval b X.env)
      standAt q2
      holding [v, ov, iv] (setItem ov iv v)
      release [v, ov, iv] []) := by intro _; rfl) :
    DSs X W ρ (.Assign [.Subscript o b q2] e pos :: rest) Post :=
  dss_then (PS.weak (ps_asg he (pg_sub ho hb set_list ha) hs hw h1) fun B σ H ⟨F0, H0, F, ok, f⟩ => by
    obtain ⟨v, fp0, e, _⟩ := slot_ot ok ht
    refine ⟨F0, H0, F, ok, fun x g F1 H1 f1 r1 nd1 n1 => ?_⟩
    refine ⟨F0, H0, F1, v, ok.call f1, e, fun y F2 H2 f2 a2 => ?_⟩
    refine ⟨F0, H0, F2, (ok.call f1).call f2, fun z F3 H3 f3 r3 => ?_⟩
    have fin := (f1.trans f2).trans f3
    obtain ⟨fp, pre, post, p, xs, q, r, nd, hfp, efp, ey, e2, rs, ch⟩ := node_at ok ht e fin (a2.mono f3.h0) hu
    subst ey
    have gH : ∀ a ∈ g, H a = none ∧ F3 a = none := fun a ha => ⟨(n1 a ha).1, (f2.trans f3).fr a (n1 a ha).2 (r1.mem a ha)⟩
    have gfp : ∀ a ∈ g, a ∉ fp := fun a ha z => r.mem a z (gH a ha).1
    have ndp := nd
    rw [efp] at ndp
    have pq : p ∉ pre ∧ p ∉ q ∧ p ∉ post := by
      rw [List.nodup_append] at ndp
      obtain ⟨_, n1, n3⟩ := ndp
      refine ⟨fun z => n3 p z p (by simp) rfl, ?_, ?_⟩
      · intro z; simp [z] at n1
      · intro z; simp [z] at n1
    have pg : p ∉ g := fun z => gfp p z (by rw [efp]; simp)
    have nn : ∀ {a : Addr}, a ≠ p → upd H3 p (.lst (xs.set j x)) a = H3 a := fun h => upd_ne h
    have hjl : j < us.length := (ixN_seq hj).2.1
    obtain ⟨y0, pre2, f2', post2, k1, rfl, k3, k4⟩ := rs.split (j := j) (t := us[j]) (by simp [hjl])
    have r1' := r1.same (f2.trans f3).f0 (f2.trans f3).h0
    refine ⟨p, xs, n, j, rfl, r3, e2, by rw [rs.length]; exact hj, f.nx _ _ _ _ rfl (ok.updT fin ht e r (p := p) (fp' := pre ++ ((p :: (pre2 ++ (g ++ post2))) ++ post)) (by rw [efp]; simp) hfp ?_ ?_ ?_)⟩
    · refine ch F3 (upd H3 p (.lst (xs.set j x))) _ _ (L2.Same.refl _) (fun a ha => nn fun z => by subst z; rcases ha with ha | ha; exact pq.1 ha; exact pq.2.2 ha) ⟨p, xs.set j x, _, rfl, upd_same, rfl, ?_⟩
      exact k4 F3 _ t1 x g (L2.Same.refl _) (fun a ha => nn fun z => by subst z; exact pq.2.1 (by rcases ha with h | h <;> simp [h])) (r1'.mono (L2.Same.refl _) fun a ha => nn fun z => by subst z; exact pg ha)
    · have sub : (pre ++ ((p :: pre2) ++ (post2 ++ post))).Nodup := by
        refine List.Nodup.sublist ?_ ndp
        simp
      have := nodup_ins (B := p :: pre2) (C := post2 ++ post) sub nd1 fun a ha z => gfp a ha (by rw [efp]; simp only [List.mem_append, List.mem_cons] at z ⊢; rcases z with h | ((h | h) | (h | h)) <;> simp_all)
      simpa using this
    · intro a ha
      by_cases hg : a ∈ g
      · exact .inr (gH a hg)
      · left; rw [efp]; simp only [List.mem_append, List.mem_cons] at ha ⊢; rcases ha with h | ((h | (h | h | h)) | h) <;> simp_all) k
end
end DL

set_option Elab.async false
set_option linter.all false
set_option maxRecDepth 100000
set_option autoImplicit false
namespace DL
open PySem PySem.Spec PyProof.Rows L2

/-! ### what is walked -/
def Keep (F' : Hp) (G : Hp → Prop) : Prop := ∀ F'' H'', Same F' F'' → Same F'' H'' → G H''
def KeepC (F' H' : Hp) (G : Hp → Prop) : Prop := ∀ F'' H'', Same F' F'' → Same F'' H'' → Same H' H'' → G H''
abbrev YY := Nat → Hp → V → Hp → Prop
def Gives (K : PySem.W.Frag) (F' : Hp) (ds : List D) (Y : YY) : Prop := ∀ i d F'' H'' x H3, ds[i]? = some d → Same F' F'' → Same F'' H'' → Y i H'' x H3 →
  (H3 = H'' ∧ Rp K F'' d x) ∨ (∃ T xs dd, x = .ref T ∧ H'' T = none ∧ H3 = upd H'' T (.tup xs) ∧ d = .tup dd ∧ Rps K F'' dd xs)
def tI (K : PySem.W.Frag) (ρ : Ev) (ds : List D) : TI := fun σ H R => ∃ F0 H0 F, Ok K F0 H0 F H σ ρ ∧ ∀ J F' H' G Y, Fin F H F' H' → Walk J ds.length G Y → Keep F' G → Gives K F' ds Y → R J H'
def tJ (K : PySem.W.Frag) (ρ : Ev) (ds : List D) : TI := fun σ H R => ∃ F0 H0 F, Ok K F0 H0 F H σ ρ ∧ ∀ J F' H' G Y, Fin F H F' H' → Walk J ds.length G Y → KeepC F' H' G → Gives K F' ds Y → R J H'
/-- a for over it takes ds -/
def DI (X : Cx) (ρ : Ev) (tg it : Expr) (ds : List D) : Prop := PI X tg it (tI X.K ρ ds)
/-- a comprehension over it takes ds -/
def DJ (X : Cx) (ρ : Ev) (tg it : Expr) (ds : List D) : Prop := PI X tg it (tJ X.K ρ ds)
theorem PI.weak {X : Cx} {tg e : Expr} {t t' : TI} (h : PI X tg e t) (w : ∀ σ H Q, t' σ H Q → t σ H Q) : PI X tg e t' := ⟨fun pins s σ H Q I q => h.run pins s σ H Q I (w σ H Q q)⟩
section
variable {X : Cx} {ρ : Ev} {tg it e a b c : Expr} {es : List Expr} {d d1 d2 : D} {ds ds1 ds2 : List D} {pos p p2 : Pos} {i j : Int}
theorem DI.dj (h : DI X ρ tg it ds) : DJ X ρ tg it ds := PI.weak h fun σ H Q ⟨F0, H0, F, o, q⟩ => ⟨F0, H0, F, o, fun J F' H' G Y f w k g => q J F' H' G Y f w (fun F2 H2 s1 s2 _ => k F2 H2 s1 s2) g⟩
theorem gives_at {K : PySem.W.Frag} {F' : Hp} {xs : List V} (r : Rps K F' ds xs) : Gives K F' ds (YAt xs) := fun i d F2 H2 x H3 h s1 s2 ⟨e, hx⟩ => by
  obtain ⟨v, e1, e2⟩ := r.get h
  rw [hx] at e1; cases e1
  exact .inl ⟨e, e2.mono s1⟩
theorem DI.eq {es : List D} (h : DI X ρ tg it ds) (q : ds = es) : DI X ρ tg it es := q ▸ h
theorem DJ.eq {es : List D} (h : DJ X ρ tg it ds) (q : ds = es) : DJ X ρ tg it es := q ▸ h
theorem dj_list (h : DL X ρ e ds) : DJ X ρ tg e ds := PI.weak (pi_list h) fun σ H Q ⟨F0, H0, F, o, q⟩ => ⟨F0, H0, F, o, fun v F' H' f ⟨a, xs, ea, ha, r⟩ =>
  ⟨a, ea, ⟨xs, .of ha⟩, q _ F' H' (fun H => SqL X.K H a xs) _ f (by rw [← r.length]; exact walk_list) (fun F2 H2 s1 s2 s3 => .of (s3 _ _ ha)) (gives_at r)⟩⟩
theorem di_list (h : DE X ρ e (.lst ds)) : DI X ρ tg e ds := PI.weak (pi_list h) fun σ H Q ⟨F0, H0, F, o, q⟩ => ⟨F0, H0, F, o, fun v F' H' f ⟨a, xs, ea, ha, r⟩ =>
  ⟨a, ea, ⟨xs, .of (f.fh _ _ ha)⟩, q _ F' H' (fun H => SqL X.K H a xs) _ f (by rw [← r.length]; exact walk_list) (fun F2 H2 s1 s2 => .of (s2 _ _ (s1 _ _ ha))) (gives_at r)⟩⟩
theorem di_tup (h : DE X ρ e (.tup ds)) : DI X ρ tg e ds := PI.weak (pi_tup h) fun σ H Q ⟨F0, H0, F, o, q⟩ => ⟨F0, H0, F, o, fun v F' H' f ⟨a, xs, ea, ha, r⟩ =>
  ⟨a, ea, ⟨xs, Same.tup f.fh ha⟩, q _ F' H' (fun H => SqT X.K H a xs) _ f (by rw [← r.length]; exact walk_tup) (fun F2 H2 s1 s2 => Same.tup s2 (Same.tup s1 ha)) (gives_at r)⟩⟩
/-- lo, lo + 1, .., below hi -/
def rng (lo hi : Int) : List Int := (List.range (hi - lo).toNat).map fun (k : Nat) => lo + (k : Int)
theorem rng_len (lo hi : Int) : (rng lo hi).length = (hi - lo).toNat := by simp [rng]
theorem rng_get {lo hi : Int} {k : Nat} {d : D} (h : (iD (rng lo hi))[k]? = some d) : d = .int (lo + (k : Int)) := by
  unfold iD rng at h
  rw [List.map_map, List.getElem?_map] at h
  by_cases hk : k < (hi - lo).toNat
  · rw [List.getElem?_range hk] at h
    exact (Option.some.inj h).symm
  · rw [List.getElem?_eq_none (by simpa using hk)] at h; cases h
theorem gives_rng {K : PySem.W.Frag} {F' : Hp} {lo hi : Int} : Gives K F' (iD (rng lo hi)) (YFn fun i => .int (lo + i)) := fun i d F2 H2 x H3 h s1 s2 ⟨e, hx⟩ => by
  rw [rng_get h]
  exact .inl ⟨e, hx⟩
theorem di_rng1 (hm : X.mg "range" = none) (ha : DE X ρ a (.int j)) (h1 : -(2 ^ 62) ≤ j) (h2 : j < 2 ^ 62) (hg : Gl X "range" := by rfl) (hs1 : starEach [a] X.env = (false, eval a X.env) :: starEach [] X.env := by rfl) (hs : starEach [a] X.env = [(false, eval a X.env)] := by rfl) : DI X ρ tg (.Call (.Name "range" p) [a] [] pos) (iD (rng 0 j)) :=
  PI.weak (pi_range1 hg hm (pa_cons ha pa_nil hs1) hs) fun σ H Q ⟨F0, H0, F, o, q⟩ => ⟨F0, H0, F, o, fun v F' H' f r => ⟨j, by rw [show v = .int j from r], h1, h2,
    q _ F' H' (fun _ => True) (YFn fun i => .int (0 + i)) f (by rw [List.length_map, rng_len, Int.sub_zero]; exact walk_range) (fun _ _ _ _ => trivial) gives_rng⟩⟩
theorem di_rng2 (hm : X.mg "range" = none) (ha : DE X ρ a (.int i)) (hb : DE X ρ b (.int j)) (h1 : -(2 ^ 62) ≤ i ∧ i < 2 ^ 62 ∧ -(2 ^ 62) ≤ j ∧ j < 2 ^ 62) (hg : Gl X "range" := by rfl) (hs1 : starEach [a, b] X.env = (false, eval a X.env) :: starEach [b] X.env := by rfl) (hs0 : starEach [b] X.env = (false, eval b X.env) :: starEach [] X.env := by rfl)
    (hs : starEach [a, b] X.env = [(false, eval a X.env), (false, eval b X.env)] := by rfl) (hs2 : starEach [b] X.env = [(false, eval b X.env)] := by rfl) : DI X ρ tg (.Call (.Name "range" p) [a, b] [] pos) (iD (rng i j)) :=
  PI.weak (pi_range2 hg hm (pa_cons ha (pa_cons hb pa_nil hs0) hs1) hs hs2) fun σ H Q ⟨F0, H0, F, o, q⟩ => ⟨F0, H0, F, o, fun v F1 H1 f1 r => ⟨F0, H0, F1, o.call f1, fun w F' H' f r2 => ⟨i, j, by rw [show v = .int i from r, show w = .int j from r2], h1,
    q _ F' H' (fun _ => True) (YFn fun k => .int (i + k)) (f1.trans f) (by rw [List.length_map, rng_len]; exact walk_range) (fun _ _ _ _ => trivial) gives_rng⟩⟩⟩
/-- lo, lo + c, .., n of them -/
def rngC (lo c : Int) (n : Nat) : List Int := (List.range n).map fun (k : Nat) => lo + (k : Int) * c
theorem rngC_get {lo c : Int} {n k : Nat} {d : D} (h : (iD (rngC lo c n))[k]? = some d) : d = .int (lo + (k : Int) * c) := by
  unfold iD rngC at h
  rw [List.map_map, List.getElem?_map] at h
  by_cases hk : k < n
  · rw [List.getElem?_range hk] at h
    exact (Option.some.inj h).symm
  · rw [List.getElem?_eq_none (by simpa using hk)] at h; cases h
theorem di_rng3 {l : Int} {n : Nat} (hm : X.mg "range" = none) (ha : DE X ρ a (.int i)) (hb : DE X ρ b (.int j)) (hc : DE X ρ c (.int l)) (h1 : RgC i j l n) (hg : Gl X "range" := by rfl) (hs1 : starEach [a, b, c] X.env = (false, eval a X.env) :: starEach [b, c] X.env := by rfl) (hs2 : starEach [b, c] X.env = (false, eval b X.env) :: starEach [c] X.env := by rfl)
    (hs3 : starEach [c] X.env = (false, eval c X.env) :: starEach [] X.env := by rfl) (hpl : (backTo pos (starEach [b, c] X.env)).any (·.1) = false := by rfl) : DI X ρ tg (.Call (.Name "range" p) [a, b, c] [] pos) (iD (rngC i l n)) :=
  PI.weak (pi_range3 hg hm (pa_cons ha (pa_cons hb (pa_cons hc pa_nil hs3) hs2) hs1) hs1 hpl) fun σ H Q ⟨F0, H0, F, o, q⟩ => ⟨F0, H0, F, o, fun v F1 H1 f1 r => ⟨F0, H0, F1, o.call f1, fun w F2 H2 f2 r2 => ⟨F0, H0, F2, (o.call f1).call f2, fun u F' H' f r3 => ⟨i, j, l, n, by rw [show v = .int i from r, show w = .int j from r2, show u = .int l from r3], h1,
    q _ F' H' (fun _ => True) (YFn fun k => .int (i + (k : Nat) * l)) ((f1.trans f2).trans f) (by rw [List.length_map, rngC, List.length_map, List.length_range]; exact walk_rangeC) (fun _ _ _ _ => trivial) (fun k d F2 H2 x H3 h s1 s2 ⟨e, hx⟩ => by
      rw [rngC_get h]
      exact .inl ⟨e, hx⟩)⟩⟩⟩⟩
/-- the signs of a text -/
def signs (z : Str) : List D := z.cps.toList.map fun c => .str ⟨#[c]⟩
theorem gives_str {K : PySem.W.Frag} {F' : Hp} {z : Str} : Gives K F' (signs z) (fun i H v H' => H' = H ∧ ∃ c, z.cps[i]? = some c ∧ v = .str ⟨#[c]⟩) := fun k d F2 H2 x H3 h s1 s2 ⟨e, c, hc, hx⟩ => by
  unfold signs at h
  rw [List.getElem?_map, Array.getElem?_toList, hc] at h
  cases h
  exact .inl ⟨e, hx⟩
theorem di_str {z : Str} (h : DE X ρ e (.str z)) : DI X ρ tg e (signs z) := PI.weak (pi_str h) fun σ H Q ⟨F0, H0, F, o, q⟩ => ⟨F0, H0, F, o, fun v F' H' f r =>
  ⟨z, r, q _ F' H' (fun _ => True) _ f (by rw [signs, List.length_map, Array.length_toList]; exact walk_str) (fun _ _ _ _ => trivial) gives_str⟩⟩
/-- pairs with their places -/
def enums (ds : List D) : List D := ds.zipIdx.map fun q => .tup [.int (q.2 : Int), q.1]
theorem enums_len (ds : List D) : (enums ds).length = ds.length := by simp [enums]
theorem enums_get {k : Nat} (h : (enums ds)[k]? = some d) : ∃ d', ds[k]? = some d' ∧ d = .tup [.int (k : Int), d'] := by
  unfold enums at h
  rw [List.getElem?_map, List.getElem?_zipIdx] at h
  cases e : ds[k]? with
  | none => rw [e] at h; cases h
  | some d' =>
    rw [e] at h
    cases h
    exact ⟨d', rfl, by simp⟩
theorem gives_enum {K : PySem.W.Frag} {F' : Hp} {xs : List V} (r : Rps K F' ds xs) : Gives K F' (enums ds) (YPair (fun i => some (.int (i : Nat))) fun i => xs[i]?) := fun k d F2 H2 x H3 h s1 s2 ⟨T, u, v, e, n, e2, hu, hv⟩ => by
  obtain ⟨d', h1, rfl⟩ := enums_get h
  obtain ⟨w, e3, e4⟩ := r.get h1
  have hv : xs[k]? = some v := hv
  rw [hv] at e3; cases e3; cases hu
  exact .inr ⟨T, _, _, e, n, e2, rfl, _, _, rfl, rfl, _, _, rfl, e4.mono s1, rfl⟩
section
variable {elts : List Expr} {kk : Nat} {tpos : Pos}
theorem di_enum (hm : X.mg "enumerate" = none) (h : DE X ρ e (.lst ds)) (hg : Gl X "enumerate" := by rfl) (hs1 : starEach [e] X.env = (false, eval e X.env) :: starEach [] X.env := by rfl) (hs : starEach [e] X.env = [(false, eval e X.env)] := by rfl) : DI X ρ (.Tuple elts kk tpos) (.Call (.Name "enumerate" p) [e] [] pos) (enums ds) :=
  PI.weak (pi_enum hg hm (pa_cons h pa_nil hs1) hs) fun σ H Q ⟨F0, H0, F, o, q⟩ => ⟨F0, H0, F, o, fun v F' H' f ⟨a, xs, ea, ha, r⟩ => ⟨a, xs, by rw [ea], .of (f.fh _ _ ha),
    q _ F' H' (fun H => SqL X.K H a xs) _ f (by rw [enums_len, ← r.length]; exact walk_enum) (fun F2 H2 s1 s2 => .of (s2 _ _ (s1 _ _ ha))) (gives_enum r)⟩⟩
theorem dj_enum (hm : X.mg "enumerate" = none) (h : DL X ρ e ds) (hg : Gl X "enumerate" := by rfl) (hs1 : starEach [e] X.env = (false, eval e X.env) :: starEach [] X.env := by rfl) (hs : starEach [e] X.env = [(false, eval e X.env)] := by rfl) : DJ X ρ (.Tuple elts kk tpos) (.Call (.Name "enumerate" p) [e] [] pos) (enums ds) :=
  PI.weak (pi_enum hg hm (pa_cons h pa_nil hs1) hs) fun σ H Q ⟨F0, H0, F, o, q⟩ => ⟨F0, H0, F, o, fun v F' H' f ⟨a, xs, ea, ha, r⟩ => ⟨a, xs, by rw [ea], .of ha,
    q _ F' H' (fun H => SqL X.K H a xs) _ f (by rw [enums_len, ← r.length]; exact walk_enum) (fun F2 H2 s1 s2 s3 => .of (s3 _ _ ha)) (gives_enum r)⟩⟩
def zips (ds es : List D) : List D := (ds.zip es).map fun q => .tup [q.1, q.2]
theorem zips_len : (zips ds1 ds2).length = min ds1.length ds2.length := by simp [zips]
theorem zips_get {k : Nat} (h : (zips ds1 ds2)[k]? = some d) : ∃ u v, ds1[k]? = some u ∧ ds2[k]? = some v ∧ d = .tup [u, v] := by
  unfold zips at h
  rw [List.getElem?_map] at h
  cases e : (ds1.zip ds2)[k]? with
  | none => rw [e] at h; cases h
  | some q =>
    rw [e] at h
    cases h
    obtain ⟨e1, e2⟩ := List.getElem?_zip_eq_some.mp e
    exact ⟨q.1, q.2, e1, e2, rfl⟩
theorem gives_zip {K : PySem.W.Frag} {F' : Hp} {xs ys : List V} (r : Rps K F' ds1 xs) (r' : Rps K F' ds2 ys) : Gives K F' (zips ds1 ds2) (YPair (fun i => xs[i]?) fun i => ys[i]?) := fun k d F2 H2 x H3 h s1 s2 ⟨T, u, v, e, n, e2, hu, hv⟩ => by
  obtain ⟨d1', d2', h1, h2, rfl⟩ := zips_get h
  obtain ⟨w, e3, e4⟩ := r.get h1
  obtain ⟨w', e5, e6⟩ := r'.get h2
  have hu : xs[k]? = some u := hu
  have hv : ys[k]? = some v := hv
  rw [hu] at e3; cases e3
  rw [hv] at e5; cases e5
  exact .inr ⟨T, _, _, e, n, e2, rfl, _, _, rfl, e4.mono s1, _, _, rfl, e6.mono s1, rfl⟩
theorem di_zip (hm : X.mg "zip" = none) (ha : DE X ρ a (.lst ds1)) (hb : DE X ρ b (.lst ds2)) (hg : Gl X "zip" := by rfl) (hs1 : starEach [a, b] X.env = (false, eval a X.env) :: starEach [b] X.env := by rfl) (hs2 : starEach [b] X.env = (false, eval b X.env) :: starEach [] X.env := by rfl) (hpl : (backTo pos (starEach [b] X.env)).any (·.1) = false := by rfl) :
    DI X ρ (.Tuple elts kk tpos) (.Call (.Name "zip" p) [a, b] [] pos) (zips ds1 ds2) :=
  PI.weak (pi_zip hg hm (pa_cons ha (pa_cons hb pa_nil hs2) hs1) hs1 hpl) fun σ H Q ⟨F0, H0, F, o, q⟩ => ⟨F0, H0, F, o, fun v F1 H1 f1 ⟨l, xs, el, hl, r⟩ => ⟨F0, H0, F1, o.call f1, fun w F' H' f ⟨m, ys, em, hm', r'⟩ =>
    ⟨l, m, xs, ys, by rw [el, em], .of (f.fh _ _ (f.f0 _ _ hl)), .of (f.fh _ _ hm'), q _ F' H' (fun H => SqL X.K H l xs ∧ SqL X.K H m ys) _ (f1.trans f) (walk_zip (by rw [zips_len, r.length, r'.length])) (fun F2 H2 s1 s2 => ⟨.of (s2 _ _ (s1 _ _ (f.f0 _ _ hl))), .of (s2 _ _ (s1 _ _ hm'))⟩) (gives_zip (r.mono f.f0) r')⟩⟩⟩
theorem dj_zip (hm : X.mg "zip" = none) (ha : DL X ρ a ds1) (hb : DL X ρ b ds2) (hg : Gl X "zip" := by rfl) (hs1 : starEach [a, b] X.env = (false, eval a X.env) :: starEach [b] X.env := by rfl) (hs2 : starEach [b] X.env = (false, eval b X.env) :: starEach [] X.env := by rfl) (hpl : (backTo pos (starEach [b] X.env)).any (·.1) = false := by rfl) :
    DJ X ρ (.Tuple elts kk tpos) (.Call (.Name "zip" p) [a, b] [] pos) (zips ds1 ds2) :=
  PI.weak (pi_zip hg hm (pa_cons ha (pa_cons hb pa_nil hs2) hs1) hs1 hpl) fun σ H Q ⟨F0, H0, F, o, q⟩ => ⟨F0, H0, F, o, fun v F1 H1 f1 ⟨l, xs, el, hl, r⟩ => ⟨F0, H0, F1, o.call f1, fun w F' H' f ⟨m, ys, em, hm', r'⟩ =>
    ⟨l, m, xs, ys, by rw [el, em], .of (f.h0 _ _ hl), .of hm', q _ F' H' (fun H => SqL X.K H l xs ∧ SqL X.K H m ys) _ (f1.trans f) (walk_zip (by rw [zips_len, r.length, r'.length])) (fun F2 H2 s1 s2 s3 => ⟨.of (s3 _ _ (f.h0 _ _ hl)), .of (s3 _ _ hm')⟩) (gives_zip (r.mono f.f0) r')⟩⟩⟩
end
end

/-! ### targets -/
/-- from σ, ρ to σ', ρ', whatever heap lies above F -/
def Uni (K : PySem.W.Frag) (F0 H0 F : Hp) (σ : L2.St) (ρ : Ev) (σ' : L2.St) (ρ' : Ev) : Prop := ∀ F1 H1, Same F F1 → Ok K F0 H0 F1 H1 σ ρ → Ok K F0 H0 F1 H1 σ' ρ'
/-- the slots at vs apart, all is as it was -/
def gD (K : PySem.W.Frag) (ρ : Ev) (d : D) (ρ' : Ev) (ts : List Nat) : TG := fun v σ H Q => ∃ F0 H0 F, Ok K F0 H0 F H σ ρ ∧ Rp K F d v ∧ ∀ σ', (∀ vs : List Nat, (∀ t ∈ ts, t ∈ vs) → wipe σ' vs = wipe σ vs) → Uni K F0 H0 F σ ρ σ' ρ' → Q σ' H
/-- the target tg takes d: behind it the slots are ρ' -/
def DG (X : Cx) (ρ : Ev) (tg : Expr) (d : D) (ρ' : Ev) (ts : List Nat) : Prop := PG X tg (gD X.K ρ d ρ' ts)
theorem PG.weak {X : Cx} {e : Expr} {t t' : TG} (h : PG X e t) (w : ∀ v σ H Q, t' v σ H Q → t v σ H Q) : PG X e t' := ⟨fun pins s σ H v u Q I r q => h.run pins s σ H v u Q I r (w v σ H Q q)⟩
theorem wipe_get : ∀ (vs : List Nat) (σ : L2.St) (j : Nat), (wipe σ vs)[j]? = if j ∈ vs ∧ j < σ.length then some none else σ[j]?
  | [], σ, j => by simp [wipe]
  | v :: vs, σ, j => by
    unfold wipe
    rw [List.getElem?_set, wipe_length, wipe_get vs σ j]
    by_cases h1 : v = j
    · subst h1
      by_cases h2 : v < σ.length
      · simp [h2]
      · simp [h2]

    · have : ¬ j = v := fun e => h1 e.symm
      simp [h1, this]
theorem wipe_set {σ : L2.St} {i : Nat} {x : Option V} {vs : List Nat} (h : i ∈ vs) : wipe (σ.set i x) vs = wipe σ vs := by
  apply List.ext_getElem?
  intro j
  rw [wipe_get, wipe_get, List.length_set]
  by_cases hj : j ∈ vs ∧ j < σ.length
  · rw [if_pos hj, if_pos hj]
  · rw [if_neg hj, if_neg hj, List.getElem?_set]
    by_cases e : i = j
    · subst e
      have : ¬ i < σ.length := fun z => hj ⟨h, z⟩
      rw [if_pos rfl, if_neg this, List.getElem?_eq_none (by omega)]
    · rw [if_neg e]
theorem wipe_idem {σ : L2.St} {vs : List Nat} : wipe (wipe σ vs) vs = wipe σ vs := by
  apply List.ext_getElem?
  intro j
  rw [wipe_get, wipe_get, wipe_length]
  split <;> rfl
section
variable {X : Cx} {ρ ρ1 ρ2 : Ev} {tg : Expr} {es : List Expr} {d d1 d2 d3 : D} {ds : List D} {pos : Pos} {ts ts1 ts2 : List Nat} {x : Str}
theorem dg_name (i : Nat) (hN : X.N.Nodup) (hi : X.N[i]? = some x := by rfl) (hx : Loc X.env.scope x := by first | exact .inl rfl | exact .inr rfl) (hf : X.fn x = true ∨ X.env.scope.names.lookup x = some .local := by first | exact .inl rfl | exact .inr rfl) : DG X ρ (.Name x pos) d (ρ.set i (.sh d)) [i] :=
  PG.weak (pg_name hN hi hx hf) fun v σ H Q ⟨F0, H0, F, o, r, q⟩ => q _ (fun vs h => wipe_set (h i (by simp))) fun F1 H1 s1 o1 => o1.put (i := i) (s := .sh d) ⟨v, rfl, Rp.mono s1 r⟩ fun a h => by cases h
def gsD (K : PySem.W.Frag) (ρ : Ev) (ds : List D) (ρ' : Ev) (ts : List Nat) : TGs := fun vs σ H Q => ∃ F0 H0 F, Ok K F0 H0 F H σ ρ ∧ Rps K F ds vs ∧ ∀ σ', (∀ vs : List Nat, (∀ t ∈ ts, t ∈ vs) → wipe σ' vs = wipe σ vs) → Uni K F0 H0 F σ ρ σ' ρ' → Q σ' H
def DGs (X : Cx) (ρ : Ev) (es : List Expr) (ds : List D) (ρ' : Ev) (ts : List Nat) : Prop := PGs X es (gsD X.K ρ ds ρ' ts)
theorem PGs.weak {X : Cx} {e : List Expr} {t t' : TGs} (h : PGs X e t) (w : ∀ v σ H Q, t' v σ H Q → t v σ H Q) : PGs X e t' := ⟨fun pins s σ H v u Q I r q => h.run pins s σ H v u Q I r (w v σ H Q q)⟩
theorem dgs_nil : DGs X ρ [] [] ρ [] := PGs.weak pgs_nil fun vs σ H Q ⟨F0, H0, F, o, r, q⟩ => ⟨r, q _ (fun _ _ => rfl) fun _ _ _ o => o⟩
theorem dgs_cons (h1 : DG X ρ tg d ρ1 ts1) (h2 : DGs X ρ1 es ds ρ2 ts2) (hs : (assignEach (tg :: es) X.env).map (·.2) = assign tg X.env :: (assignEach es X.env).map (·.2) := by rfl) : DGs X ρ (tg :: es) (d :: ds) ρ2 (ts1 ++ ts2) :=
  PGs.weak (pgs_cons h1 h2 hs) fun vs σ H Q ⟨F0, H0, F, o, ⟨y, ys, e, r1, r2⟩, q⟩ => ⟨y, ys, e, F0, H0, F, o, r1, fun σ' w1 u1 => ⟨F0, H0, F, u1 F H (L2.Same.refl _) o, r2, fun σ2 w2 u2 => q σ2 (fun vs h => (w2 vs fun t m => h t (List.mem_append_right _ m)).trans (w1 vs fun t m => h t (List.mem_append_left _ m))) fun F1 H1 s1 o1 => u2 F1 H1 s1 (u1 F1 H1 s1 o1)⟩⟩
theorem dg_tup {n k : Nat} (hc : X.calm = true) (h : DGs X ρ es ds ρ1 ts) (hl : ds.length = n := by rfl) (hn : (assignEach es X.env).length = n := by rfl) (hst : (assignEach es X.env).findIdx? (·.1) = none := by rfl) : DG X ρ (.Tuple es k pos) (.tup ds) ρ1 ts :=
  PG.weak (pg_tup hc h hn hst) fun v σ H Q ⟨F0, H0, F, o, ⟨a, xs, e, ha, r⟩, q⟩ => ⟨a, xs, e, Same.tup o.fin.fh ha, by rw [r.length, hl], F0, H0, F, o, r, q⟩
end
end DL

set_option Elab.async false
set_option linter.all false
set_option maxRecDepth 100000
set_option autoImplicit false
namespace DL
open PySem PySem.Spec PyProof.Rows L2
section
variable {K : PySem.W.Frag} {F0 H0 F F' F2 H H' H2 : Hp} {σ σ2 : L2.St} {ρ ρ2 : Ev} {W : WX} {B : Ends} {Post : Out → Prop}
theorem Ok.rebase (o : Ok K F0 H0 F H σ ρ) : Ok K F H0 F H σ ρ := ⟨⟨L2.Same.refl _, o.fin.h0, o.fin.fh, fun _ h _ => h⟩, o.len, o.sl, o.ap⟩
theorem Fin.unbase (o : Fin F0 H0 F H) (u : Fin F H0 F2 H2) : Fin F0 H0 F2 H2 := ⟨o.f0.trans u.f0, u.h0, u.fh, fun p h1 h2 => u.fr p (o.fr p h1 h2) h2⟩
theorem Ok.unbase (o : Fin F0 H0 F H) (u : Ok K F H0 F2 H2 σ2 ρ2) : Ok K F0 H0 F2 H2 σ2 ρ2 := ⟨o.unbase u.fin, u.len, u.sl, u.ap⟩
theorem Fits.rebase (o : Fin F0 H0 F H) (f : Fits K F0 H0 W B Post) : Fits K F H0 W B Post :=
  ⟨fun ρ F H σ q u => f.nx ρ F H σ q (.unbase o u), fun ρ F H σ q u => f.bk ρ F H σ q (.unbase o u), fun ρ F H σ q u => f.ct ρ F H σ q (.unbase o u), fun d v F H q u => f.rt d v F H q (o.unbase u), fun ds p xs F H q u => f.ro ds p xs F H q (o.unbase u), fun x ρ σ F H c d q u => f.rs x ρ σ F H c d q (.unbase o u), fun t x fp F H q u => f.rtt t x fp F H q (o.unbase u)⟩
end
/-! ### for, while -/
/-- what a turn is to reach: on to N, out to Post -/
def turnP (N : Ev → Prop) (Post : Out → Prop) : Out → Prop
  | .nx ρ => N ρ
  | .ct ρ => N ρ
  | .bk ρ => Post (.nx ρ)
  | .rt d => Post (.rt d)
  | .ro ds => Post (.ro ds)
  | .rs x ρ => Post (.rs x ρ)
  | .rtt t => Post (.rtt t)
section
variable {X : Cx} {W : WX} {ρ ρ' : Ev} {tg it e a b c : Expr} {es : List Expr} {d d1 d2 : D} {ds ds1 ds2 : List D} {pos p p2 : Pos} {st : Stmt} {A B body rest : List Stmt} {Post Mid : Out → Prop}
theorem ds_for (I : Nat → Ev → Prop) (hp : PassesOwn (model X.prog X.w) X.A X.env X.xe) (hc : X.calm = true) (hit : DI X ρ tg it ds) (h0 : I 0 ρ)
    (turn : ∀ i d ρ1, ds[i]? = some d → I i ρ1 → ∃ ρ2 ts, DG X ρ1 tg d ρ2 ts ∧ DSs X W ρ2 body (turnP (I (i + 1)) Post)) (hend : ∀ ρ1, I ds.length ρ1 → Post (.nx ρ1))
    (hs : ∀ x, foldedSetIterable it X.env x = pure x := by intro _; rfl) : DS X W ρ (.For tg it body [] pos) Post := by
  have hg : PG X tg (fun v σ H Q => ∃ (d : D) (ρ1 ρ2 : Ev) (ts : List Nat), DG X ρ1 tg d ρ2 ts ∧ gD X.K ρ1 d ρ2 ts v σ H Q) := ⟨fun pins s σ H v u Q I r ⟨d, ρ1, ρ2, ts, h, q⟩ => h.run pins s σ H v u Q I r q⟩
  have hb : PSs X body (fun B σ H => ∃ (ρ2 : Ev) (P : Out → Prop), DSs X W ρ2 body P ∧ tS X.K W ρ2 P B σ H) := ⟨fun pins s σ H B I ⟨ρ2, P, h, q⟩ => h.run pins s σ H B I q⟩
  refine PS.weak (ps_for hp hc hit hg hb hs) fun B σ H ⟨F0, H0, F, o, f⟩ => ⟨F0, H0, F, o, fun J F' H' G Y fn w keep gv => ?_⟩
  show ∃ W : Nat → Nat → L2.St → Hp → Prop, _
  refine for_it (g := fun v σ H Q => ∃ (d : D) (ρ1 ρ2 : Ev) (ts : List Nat), DG X ρ1 tg d ρ2 ts ∧ gD X.K ρ1 d ρ2 ts v σ H Q) (tb := fun B σ H => ∃ (ρ2 : Ev) (P : Out → Prop), DSs X W ρ2 body P ∧ tS X.K W ρ2 P B σ H) (D := B) w (fun i σ H => ∃ ρi Fi, I i ρi ∧ Ok X.K F0 H0 Fi H σ ρi ∧ Same F' Fi) ⟨ρ, F', h0, o.call fn, L2.Same.refl _⟩ (fun i σ H _ ⟨ρi, Fi, _, oi, si⟩ => keep Fi H si oi.fin.fh) ?_ ?_
  · rintro i x σ1 H1 H2 hi ⟨ρi, Fi, Ii, oi, si⟩ y
    obtain ⟨d, hd⟩ : ∃ d, ds[i]? = some d := ⟨ds[i], by simp [hi]⟩
    obtain ⟨ρ2, ts, g1, g2⟩ := turn i d ρi hd Ii
    obtain ⟨F2, fi, rp⟩ : ∃ F2, Fin Fi H1 F2 H2 ∧ Rp X.K F2 d x := by
      rcases gv i d Fi H1 x H2 hd si oi.fin.fh y with ⟨rfl, r⟩ | ⟨T, xs, dd, rfl, n, rfl, rfl, r⟩
      · exact ⟨Fi, .refl oi.fin.fh, r⟩
      · have g := Fin.newS (u := .tup xs) oi.fin.fh n
        exact ⟨_, g, T, xs, rfl, .inl (.inl upd_same), Rps.mono g.f0 r⟩
    refine ⟨d, ρi, ρ2, ts, g1, F0, H0, F2, oi.call fi, rp, fun σ' _ u' => ?_⟩
    have o' := u' F2 H2 (L2.Same.refl _) (oi.call fi)
    refine ⟨ρ2, _, g2, F2, H0, F2, o'.rebase, ?_⟩
    have fr := f.rebase o'.fin
    exact ⟨fun ρ F H σ q u => ⟨ρ, F, q, .unbase o'.fin u, (si.trans fi.f0).trans u.fin.f0⟩, fun ρ F H σ q u => fr.nx ρ F H σ q u, fun ρ F H σ q u => ⟨ρ, F, q, .unbase o'.fin u, (si.trans fi.f0).trans u.fin.f0⟩,
      fun d v F H q u => fr.rt d v F H q u, fun ds p xs F H q u => fr.ro ds p xs F H q u, fun x ρ σ F H c d q u => fr.rs x ρ σ F H c d q u, fun t x fp F H q u => fr.rtt t x fp F H q u⟩
  · rintro σ1 H1 ⟨ρi, Fi, Ii, oi, si⟩
    exact f.nx _ _ _ _ (hend ρi Ii) oi
theorem dss_for (I : Nat → Ev → Prop) (hp : PassesOwn (model X.prog X.w) X.A X.env X.xe) (hc : X.calm = true) (hit : DI X ρ tg it ds) (h0 : I 0 ρ)
    (turn : ∀ i d ρ1, ds[i]? = some d → I i ρ1 → ∃ ρ2 ts, DG X ρ1 tg d ρ2 ts ∧ DSs X W ρ2 body (turnP (I (i + 1)) (fun o => (∃ ρ', o = .nx ρ' ∧ I ds.length ρ') ∨ (o.nxt = false ∧ Post o)))) (hend : ∀ ρ1, I ds.length ρ1 → DSs X W ρ1 rest Post)
    (hs : ∀ x, foldedSetIterable it X.env x = pure x := by intro _; rfl) : DSs X W ρ (.For tg it body [] pos :: rest) Post :=
  dss_mid (ds_for I hp hc hit h0 turn (fun ρ1 h => .inl ⟨ρ1, rfl, h⟩) hs) (fun ρ1 h => by
    rcases h with ⟨ρ', e, h⟩ | ⟨h, _⟩
    · cases e; exact hend _ h
    · cases h) fun o h1 h2 => by
    rcases h2 with ⟨ρ', e, h⟩ | ⟨_, h⟩
    · subst e; cases h1
    · exact h
theorem ds_while (I : Nat → Ev → Prop) (hp : PassesOwn (model X.prog X.w) X.A X.env X.xe) (m : Nat) (h0 : I m ρ)
    (turn : ∀ m ρ1, I m ρ1 → ∃ k, DT X ρ1 c k ∧ (k = true → DSs X W ρ1 body (turnP (fun ρ2 => ∃ m', m' < m ∧ I m' ρ2) Post)) ∧ (k = false → Post (.nx ρ1))) : DS X W ρ (.While c body [] pos) Post := by
  have hc : PT X c (fun σ H Q => ∃ (ρ1 : Ev) (k : Bool), DT X ρ1 c k ∧ tDT X.K ρ1 k σ H Q) := ⟨fun pins s σ H Q I ⟨ρ1, k, h, q⟩ => h.run pins s σ H Q I q⟩
  have hb : PSs X body (fun B σ H => ∃ (ρ2 : Ev) (P : Out → Prop), DSs X W ρ2 body P ∧ tS X.K W ρ2 P B σ H) := ⟨fun pins s σ H B I ⟨ρ2, P, h, q⟩ => h.run pins s σ H B I q⟩
  refine PS.weak (ps_while hp hc hb) fun B σ H ⟨F0, H0, F, o, f⟩ => ⟨fun m σ H => ∃ ρ1 F1, I m ρ1 ∧ Ok X.K F0 H0 F1 H σ ρ1, ⟨m, ρ, F, h0, o⟩, ?_⟩
  rintro m σ1 H1 ⟨ρ1, F1, Im, o1⟩
  obtain ⟨k, hk, h1, h2⟩ := turn m ρ1 Im
  refine ⟨ρ1, k, hk, F0, H0, F1, o1, fun F2 H2 f2 => ?_⟩
  cases k with
  | false =>
    rw [if_neg Bool.false_ne_true]
    exact f.nx _ _ _ _ (h2 rfl) (o1.call f2)
  | true =>
    rw [if_pos rfl]
    refine ⟨fun σ' H' => ∃ m', m' < m ∧ ∃ ρ1 F1, I m' ρ1 ∧ Ok X.K F0 H0 F1 H' σ' ρ1, fun σ' H' ⟨m', l, q⟩ => ⟨m', l, q⟩, ρ1, _, h1 rfl, F0, H0, F2, o1.call f2, ?_⟩
    exact ⟨fun ρ F H σ ⟨m', l, q⟩ u => ⟨m', l, ρ, F, q, u⟩, fun ρ F H σ q u => f.nx ρ F H σ q u, fun ρ F H σ ⟨m', l, q⟩ u => ⟨m', l, ρ, F, q, u⟩, fun d v F H q u => f.rt d v F H q u, fun ds p xs F H q u => f.ro ds p xs F H q u, fun x ρ σ F H c d q u => f.rs x ρ σ F H c d q u, fun t x fp F H q u => f.rtt t x fp F H q u⟩
theorem dss_while (I : Nat → Ev → Prop) (Fi : Ev → Prop) (hp : PassesOwn (model X.prog X.w) X.A X.env X.xe) (m : Nat) (h0 : I m ρ)
    (turn : ∀ m ρ1, I m ρ1 → ∃ k, DT X ρ1 c k ∧ (k = true → DSs X W ρ1 body (turnP (fun ρ2 => ∃ m', m' < m ∧ I m' ρ2) (fun o => (∃ ρ', o = .nx ρ' ∧ Fi ρ') ∨ (o.nxt = false ∧ Post o)))) ∧ (k = false → Fi ρ1)) (hend : ∀ ρ1, Fi ρ1 → DSs X W ρ1 rest Post) : DSs X W ρ (.While c body [] pos :: rest) Post :=
  dss_mid (ds_while I hp m h0 fun m ρ1 h => by
    obtain ⟨k, h1, h2, h3⟩ := turn m ρ1 h
    exact ⟨k, h1, h2, fun z => .inl ⟨ρ1, rfl, h3 z⟩⟩) (fun ρ1 h => by
    rcases h with ⟨ρ', e, h⟩ | ⟨h, _⟩
    · cases e; exact hend _ h
    · cases h) fun o h1 h2 => by
    rcases h2 with ⟨ρ', e, h⟩ | ⟨_, h⟩
    · subst e; cases h1
    · exact h
end
/-! ### comprehensions -/
def wipeE (ρ : Ev) : List Nat → Ev
  | [] => ρ
  | v :: vs => (wipeE ρ vs).set v .un
theorem Ok.wipe {K : PySem.W.Frag} {F0 H0 F H : Hp} {σ : L2.St} {ρ : Ev} (o : Ok K F0 H0 F H σ ρ) : ∀ vs : List Nat, Ok K F0 H0 F H (L2.wipe σ vs) (wipeE ρ vs)
  | [] => o
  | v :: vs => (o.wipe vs).put (i := v) (s := .un) trivial fun a h => by cases h
def DTs (X : Cx) (ρ : Ev) (ifs : List Expr) (b : Bool) : Prop := PTs X ifs (tDT X.K ρ b)
theorem PTs.weak {X : Cx} {e : List Expr} {t t' : TT} (h : PTs X e t) (w : ∀ σ H Q, t' σ H Q → t σ H Q) : PTs X e t' := ⟨fun pins s σ H Q I q => h.run pins s σ H Q I (w σ H Q q)⟩
section
variable {X : Cx} {ρ : Ev} {tg it elt e : Expr} {es ifs : List Expr} {d : D} {ds : List D} {pos : Pos} {scope : Scope} {own : List (Str × Nat)} {k : Bool}
theorem dts_nil : DTs X ρ [] true := PTs.weak pts_nil fun σ H Q ⟨F0, H0, F, o, q⟩ => q F H (.refl o.fin.fh)
theorem dts_one (h : DT X ρ e k) : DTs X ρ [e] k := pts_one h
/-- the block's contexts -/
def InBlk (X : Cx) (scope : Scope) (P : Cx → Prop) : Prop := ∀ (s : Shared) (H : Hp) (C : Addr) (cl : List (Str × Addr)) (fp : List Addr), P (X.blk s H scope (compEnvC scope cl C X.env) fp)
theorem comp_gen (P : TE → Prop) (mono : ∀ t t' : TE, (∀ σ H Q, t' σ H Q → t σ H Q) → P t → P t') (own : List (Str × Nat)) (sel : D → Bool) (val : D → D) (hit : DJ X ρ tg it ds)
    (hP : ∀ (wi : TI) (g : TG) (tt : TT) (te : TE), PI X tg it wi → InBlk X scope (fun Y => PG Y tg g) → InBlk X scope (fun Y => PTs Y ifs tt) → InBlk X scope (fun Y => PE Y elt te) → P (tLc wi g tt te (own.map (·.2)))) (hz : ds.length ≤ sizeLine)
    (turn : ∀ d ∈ ds, ∃ ρ2 ts, (∀ t ∈ ts, t ∈ own.map (·.2)) ∧ InBlk X scope (fun Y => DG Y (wipeE ρ (own.map (·.2))) tg d ρ2 ts) ∧ InBlk X scope (fun Y => DTs Y ρ2 ifs (sel d)) ∧ (sel d = true → InBlk X scope fun Y => DE Y ρ2 elt (val d))) : P (tDN X.K ρ ((ds.filter sel).map val)) := by
  have hg : InBlk X scope (fun Y => PG Y tg (fun v σ H Q => ∃ (d : D) (ρ1 ρ2 : Ev) (ts : List Nat), InBlk X scope (fun Y => DG Y ρ1 tg d ρ2 ts) ∧ gD X.K ρ1 d ρ2 ts v σ H Q)) := fun s H C cl fp => ⟨fun pins s' σ H' v u Q I r ⟨d, ρ1, ρ2, ts, h, q⟩ => (h s H C cl fp).run pins s' σ H' v u Q I r q⟩
  have ht : InBlk X scope (fun Y => PTs Y ifs (fun σ H Q => ∃ (ρ2 : Ev) (k : Bool), InBlk X scope (fun Y => DTs Y ρ2 ifs k) ∧ tDT X.K ρ2 k σ H Q)) := fun s H C cl fp => ⟨fun pins s' σ H' Q I ⟨ρ2, k, h, q⟩ => (h s H C cl fp).run pins s' σ H' Q I q⟩
  have he : InBlk X scope (fun Y => PE Y elt (fun σ H Q => ∃ (ρ2 : Ev) (d : D), InBlk X scope (fun Y => DE Y ρ2 elt d) ∧ tG X.K ρ2 (rD X.K d) σ H Q)) := fun s H C cl fp => ⟨fun pins s' σ H' Q I ⟨ρ2, d, h, q⟩ => (h s H C cl fp).run pins s' σ H' Q I q⟩
  refine (fun w => mono _ _ w (hP _ _ _ _ hit hg ht he)) fun σ H Q ⟨F0, H0, F, o, q⟩ => ⟨F0, H0, F, o, fun J F1 H1 G Y f1 w keep gv D hD => ?_⟩
  have o1 := o.call f1
  have hF1 : F1 D = none := f1.fh.free hD
  have s1 : Same H1 (upd H1 D (.lst [])) := fun b u e => by rw [upd_ne (ne_of_none e hD)]; exact e
  refine lc_it (g := fun v σ H Q => ∃ (d : DL.D) (ρ1 ρ2 : Ev) (ts : List Nat), InBlk X scope (fun Y => DG Y ρ1 tg d ρ2 ts) ∧ gD X.K ρ1 d ρ2 ts v σ H Q) (tt := fun σ H Q => ∃ (ρ2 : Ev) (k : Bool), InBlk X scope (fun Y => DTs Y ρ2 ifs k) ∧ tDT X.K ρ2 k σ H Q) (te := fun σ H Q => ∃ (ρ2 : Ev) (d : DL.D), InBlk X scope (fun Y => DE Y ρ2 elt d) ∧ tG X.K ρ2 (rD X.K d) σ H Q) (Qd := fun Hc => Q (.ref D) Hc) (σ := σ) w (fun i Hc => ∃ Fi acc, Fin F1 H1 Fi Hc ∧ Hc D = some (.lst acc) ∧ Fi D = none ∧ Rps X.K Fi (((ds.take i).filter sel).map val) acc) ⟨F1, [], ⟨L2.Same.refl _, s1, f1.fh.trans s1, fun _ h _ => h⟩, upd_same, hF1, rfl⟩
    (fun i Hc _ ⟨Fi, acc, fi, _⟩ => keep Fi Hc fi.f0 fi.fh fi.h0) ?_ ?_
  · rintro i x Hc H2 hi ⟨Fi, acc, fi, hDc, hDi, ra⟩ y
    obtain ⟨d, hd⟩ : ∃ d, ds[i]? = some d := ⟨ds[i], by simp [hi]⟩
    obtain ⟨ρ2, ts, hts, g1, g2, g3⟩ := turn d (List.mem_of_getElem? hd)
    obtain ⟨F2, fn, rp⟩ : ∃ F2, Fin Fi Hc F2 H2 ∧ Rp X.K F2 d x := by
      rcases gv i d Fi Hc x H2 hd fi.f0 fi.fh y with ⟨rfl, r⟩ | ⟨T, xs, dd, rfl, n, rfl, rfl, r⟩
      · exact ⟨Fi, .refl fi.fh, r⟩
      · have g := Fin.newS (u := .tup xs) fi.fh n
        exact ⟨_, g, T, xs, rfl, .inl (.inl upd_same), Rps.mono g.f0 r⟩
    have o2 := ((o1.call fi).call fn).wipe (own.map (·.2))
    refine ⟨d, _, ρ2, ts, g1, F0, H0, F2, o2, rp, fun σ' hw u3 => ?_⟩
    have o3 := u3 F2 H2 (L2.Same.refl _) o2
    refine ⟨by rw [hw _ hts, wipe_idem], ρ2, sel d, g2, F0, H0, F2, o3, fun F3 H3 f3 => ?_⟩
    have fin3 := (fi.trans fn).trans f3
    have hD3 : H3 D = some (.lst acc) := f3.h0 _ _ (fn.h0 _ _ hDc)
    have hF3 : F3 D = none := f3.fr D (fn.fr D hDi (by rw [hDc]; simp)) (by rw [fn.h0 _ _ hDc]; simp)
    have et : ds.take (i + 1) = ds.take i ++ [d] := by rw [List.take_add_one, hd]; rfl
    cases hsel : sel d with
    | false =>
      refine iteF ?_
      refine ⟨F3, acc, fin3, hD3, hF3, ?_⟩
      rw [et, List.filter_append, List.filter_cons, if_neg (by rw [hsel]; simp), List.filter_nil, List.append_nil]
      exact ra.mono (fn.f0.trans f3.f0)
    | true =>
      refine iteT ?_
      refine ⟨ρ2, val d, g3 hsel, F0, H0, F3, o3.call f3, fun v F4 H4 f4 r4 => ?_⟩
      have hF4 : F4 D = none := f4.fr D hF3 (by rw [hD3]; simp)
      have hD4 : H4 D = some (.lst acc) := f4.h0 _ _ hD3
      have fin4 := fin3.trans f4
      refine ⟨acc, hD4, ?_, F4, _, ⟨fin4.f0, fun b u e => ?_, fun b u e => ?_, fin4.fr⟩, upd_same, hF4, ?_⟩
      · rw [ra.length, List.length_map]
        have h1 := List.length_filter_le sel (ds.take i)
        rw [List.length_take] at h1
        omega
      · rw [upd_ne (ne_of_none e hD)]; exact fin4.h0 _ _ e
      · rw [upd_ne (ne_of_none e hF4)]; exact fin4.fh _ _ e
      · rw [et, List.filter_append, List.filter_cons, if_pos hsel, List.filter_nil, List.map_append]
        exact (ra.mono ((fn.f0.trans f3.f0).trans f4.f0)).append ⟨v, [], rfl, r4, rfl⟩
  · rintro Hc ⟨Fi, acc, fi, hDc, hDi, ra⟩
    rw [List.take_length] at ra
    exact q D acc Fi Hc (f1.trans fi) (f1.h0.free hD) hDc hDi ra
theorem dn_comp (own : List (Str × Nat)) (sel : D → Bool) (val : D → D) (hc : X.calm = true) (hN : X.N.Nodup) (hit : DJ X ρ tg it ds) (ok : BlkOk X.N X.env.scope scope own) (hz : ds.length ≤ sizeLine)
    (turn : ∀ d ∈ ds, ∃ ρ2 ts, (∀ t ∈ ts, t ∈ own.map (·.2)) ∧ InBlk X scope (fun Y => DG Y (wipeE ρ (own.map (·.2))) tg d ρ2 ts) ∧ InBlk X scope (fun Y => DTs Y ρ2 ifs (sel d)) ∧ (sel d = true → InBlk X scope fun Y => DE Y ρ2 elt (val d)))
    (hs : ∀ x, foldedSetIterable it X.env x = pure x := by intro _; rfl) : DN X ρ (.ListComp elt [⟨tg, it, ifs, 0⟩] scope pos) ((ds.filter sel).map val) :=
  comp_gen (P := fun t => PE X (.ListComp elt [⟨tg, it, ifs, 0⟩] scope pos) t) (fun _ _ w h => PE.weak h w) own sel val hit (fun _ _ _ _ h1 h2 h3 h4 => pe_lc hc hN h1 ok h2 h3 h4 hs) hz turn
/-- name = [..] on one line, the name a plain local -/
theorem ps_compN {i : Nat} {y : Str} {py spos : Pos} (own : List (Str × Nat)) (sel : D → Bool) (val : D → D) (hc : X.calm = true) (hN : X.N.Nodup) (hy : X.N[i]? = some y) (hyl : X.env.scope.names.lookup y = some .local) (hsw : swapsWith (.ListComp elt [⟨tg, it, ifs, 0⟩] scope pos) (some (.Name y py)) spos.line X.env = pure true) (hit : DJ X ρ tg it ds) (ok : BlkOk X.N X.env.scope scope own) (hz : ds.length ≤ sizeLine)
    (turn : ∀ d ∈ ds, ∃ ρ2 ts, (∀ t ∈ ts, t ∈ own.map (·.2)) ∧ InBlk X scope (fun Y => DG Y (wipeE ρ (own.map (·.2))) tg d ρ2 ts) ∧ InBlk X scope (fun Y => DTs Y ρ2 ifs (sel d)) ∧ (sel d = true → InBlk X scope fun Y => DE Y ρ2 elt (val d)))
    (hs : ∀ x, foldedSetIterable it X.env x = pure x := by intro _; rfl) : PS X (.Assign [.Name y py] (.ListComp elt [⟨tg, it, ifs, 0⟩] scope pos) spos) (tAsg (tDN X.K ρ ((ds.filter sel).map val)) (gName i)) :=
  comp_gen (P := fun t => PS X (.Assign [.Name y py] (.ListComp elt [⟨tg, it, ifs, 0⟩] scope pos) spos) (tAsg t (gName i))) (fun _ _ w h => PS.weak h fun B σ H q => w _ _ _ q) own sel val hit (fun _ _ _ _ h1 h2 h3 h4 => ps_setLc hc hN hy hyl hsw h1 ok h2 h3 h4 hs) hz turn
end
end DL

set_option Elab.async false
set_option linter.all false
set_option maxRecDepth 100000
set_option autoImplicit false
/-! [.. for .. in .. if .. for .. in .. if ..] -/
namespace DL
open PySem PySem.Spec PyProof.Rows L2
section
variable {X : Cx} {ρ : Ev} {tg it elt e tg1 it1 : Expr} {es ifs ifs1 : List Expr} {d : D} {ds : List D} {pos : Pos} {scope : Scope} {own : List (Str × Nat)} {vs1 : List Nat} {k : Bool}
def row2 (sel : D → Bool) (inn : D → List D) (sel1 : D → D → Bool) (val1 : D → D → D) (d : D) : List D := if sel d = true then ((inn d).filter (sel1 d)).map (val1 d) else []
theorem comp2_gen (P : TE → Prop) (mono : ∀ t t' : TE, (∀ σ H Q, t' σ H Q → t σ H Q) → P t → P t') (own : List (Str × Nat)) (vs1 : List Nat) (sel : D → Bool) (inn : D → List D) (sel1 : D → D → Bool) (val1 : D → D → D) (hit : DJ X ρ tg it ds)
    (hP : ∀ (wi : TI) (g : TG) (tt : TT) (wi1 : TI) (g1 : TG) (tt1 : TT) (te : TE), PI X tg it wi → InBlk X scope (fun Y => PG Y tg g) → InBlk X scope (fun Y => PTs Y ifs tt) → InBlk X scope (fun Y => PI Y tg1 it1 wi1) → InBlk X scope (fun Y => PG Y tg1 g1) → InBlk X scope (fun Y => PTs Y ifs1 tt1) → InBlk X scope (fun Y => PE Y elt te) → P (tLc2 wi g tt wi1 g1 tt1 te (own.map (·.2)) vs1))
    (hz : (ds.flatMap (row2 sel inn sel1 val1)).length ≤ sizeLine)
    (turn : ∀ d ∈ ds, ∃ ρ2 ts, (∀ t ∈ ts, t ∈ own.map (·.2)) ∧ InBlk X scope (fun Y => DG Y (wipeE ρ (own.map (·.2))) tg d ρ2 ts) ∧ InBlk X scope (fun Y => DTs Y ρ2 ifs (sel d)) ∧ (sel d = true → InBlk X scope (fun Y => DI Y ρ2 tg1 it1 (inn d)) ∧
      ∀ e ∈ inn d, ∃ ρ3 ts1, (∀ t ∈ ts1, t ∈ vs1) ∧ InBlk X scope (fun Y => DG Y (wipeE ρ2 vs1) tg1 e ρ3 ts1) ∧ InBlk X scope (fun Y => DTs Y ρ3 ifs1 (sel1 d e)) ∧ (sel1 d e = true → InBlk X scope fun Y => DE Y ρ3 elt (val1 d e)))) : P (tDN X.K ρ (ds.flatMap (row2 sel inn sel1 val1))) := by
  have hg : ∀ tg : Expr, InBlk X scope (fun Y => PG Y tg (fun v σ H Q => ∃ (d : D) (ρ1 ρ2 : Ev) (ts : List Nat), InBlk X scope (fun Y => DG Y ρ1 tg d ρ2 ts) ∧ gD X.K ρ1 d ρ2 ts v σ H Q)) := fun tg s H C cl fp => ⟨fun pins s' σ H' v u Q I r ⟨d, ρ1, ρ2, ts, h, q⟩ => (h s H C cl fp).run pins s' σ H' v u Q I r q⟩
  have ht : ∀ ifs : List Expr, InBlk X scope (fun Y => PTs Y ifs (fun σ H Q => ∃ (ρ2 : Ev) (k : Bool), InBlk X scope (fun Y => DTs Y ρ2 ifs k) ∧ tDT X.K ρ2 k σ H Q)) := fun ifs s H C cl fp => ⟨fun pins s' σ H' Q I ⟨ρ2, k, h, q⟩ => (h s H C cl fp).run pins s' σ H' Q I q⟩
  have he : InBlk X scope (fun Y => PE Y elt (fun σ H Q => ∃ (ρ2 : Ev) (d : D), InBlk X scope (fun Y => DE Y ρ2 elt d) ∧ tG X.K ρ2 (rD X.K d) σ H Q)) := fun s H C cl fp => ⟨fun pins s' σ H' Q I ⟨ρ2, d, h, q⟩ => (h s H C cl fp).run pins s' σ H' Q I q⟩
  have hi1 : InBlk X scope (fun Y => PI Y tg1 it1 (fun σ H Q => ∃ (ρ2 : Ev) (es : List D), InBlk X scope (fun Y => DI Y ρ2 tg1 it1 es) ∧ tI X.K ρ2 es σ H Q)) := fun s H C cl fp => ⟨fun pins s' σ H' Q I ⟨ρ2, d, h, q⟩ => (h s H C cl fp).run pins s' σ H' Q I q⟩
  refine (fun w => mono _ _ w (hP _ _ _ _ _ _ _ hit (hg tg) (ht ifs) hi1 (hg tg1) (ht ifs1) he)) fun σ H Q ⟨F0, H0, F, o, q⟩ => ⟨F0, H0, F, o, fun J F1 H1 G Y f1 w keep gv D hD => ?_⟩
  have o1 := o.call f1
  have hF1 : F1 D = none := f1.fh.free hD
  have s1 : Same H1 (upd H1 D (.lst [])) := fun b u e => by rw [upd_ne (ne_of_none e hD)]; exact e
  refine ⟨fun i m Hc => m = ds.length - i ∧ i ≤ ds.length ∧ ∃ Fi acc, Fin F1 H1 Fi Hc ∧ Hc D = some (.lst acc) ∧ Fi D = none ∧ Rps X.K Fi ((ds.take i).flatMap (row2 sel inn sel1 val1)) acc, ⟨ds.length, by simp, Nat.zero_le _, F1, [], ⟨L2.Same.refl _, s1, f1.fh.trans s1, fun _ h _ => h⟩, upd_same, hF1, rfl⟩, ?_⟩
  rintro i m Hc ⟨rfl, hin, Fi, acc, fi, hDc, hDi, ra⟩
  have hG := keep Fi Hc fi.f0 fi.fh fi.h0
  by_cases hlt : i < ds.length
  · refine .inr ⟨w.goes i Hc hlt hG, fun H' => ∃ Fi acc, Fin F1 H1 Fi H' ∧ H' D = some (.lst acc) ∧ Fi D = none ∧ Rps X.K Fi ((ds.take (i + 1)).flatMap (row2 sel inn sel1 val1)) acc, fun H' p' => ⟨ds.length - (i + 1), by omega, rfl, hlt, p'⟩, fun x H2 y => ?_⟩
    have y := w.yields i Hc x H2 hlt hG y
    obtain ⟨d, hd⟩ : ∃ d, ds[i]? = some d := ⟨ds[i], by simp [hlt]⟩
    obtain ⟨ρ2, ts, hts, g1, g2, g3⟩ := turn d (List.mem_of_getElem? hd)
    obtain ⟨F2, fn, rp⟩ : ∃ F2, Fin Fi Hc F2 H2 ∧ Rp X.K F2 d x := by
      rcases gv i d Fi Hc x H2 hd fi.f0 fi.fh y with ⟨rfl, r⟩ | ⟨T, xs, dd, rfl, n, rfl, rfl, r⟩
      · exact ⟨Fi, .refl fi.fh, r⟩
      · have g := Fin.newS (u := .tup xs) fi.fh n
        exact ⟨_, g, T, xs, rfl, .inl (.inl upd_same), Rps.mono g.f0 r⟩
    have o2 := ((o1.call fi).call fn).wipe (own.map (·.2))
    refine ⟨d, _, ρ2, ts, g1, F0, H0, F2, o2, rp, fun σ' hw u3 => ?_⟩
    have o3 := u3 F2 H2 (L2.Same.refl _) o2
    refine ⟨by rw [hw _ hts, wipe_idem], ρ2, sel d, g2, F0, H0, F2, o3, fun F3 H3 f3 => ?_⟩
    have fin3 := (fi.trans fn).trans f3
    have hD3 : H3 D = some (.lst acc) := f3.h0 _ _ (fn.h0 _ _ hDc)
    have hF3 : F3 D = none := f3.fr D (fn.fr D hDi (by rw [hDc]; simp)) (by rw [fn.h0 _ _ hDc]; simp)
    have et : ds.take (i + 1) = ds.take i ++ [d] := by rw [List.take_add_one, hd]; rfl
    have efl : (ds.take (i + 1)).flatMap (row2 sel inn sel1 val1) = (ds.take i).flatMap (row2 sel inn sel1 val1) ++ row2 sel inn sel1 val1 d := by rw [et, List.flatMap_append]; simp
    cases hsel : sel d with
    | false =>
      refine iteF ⟨F3, acc, fin3, hD3, hF3, ?_⟩
      rw [efl, row2, if_neg (by rw [hsel]; simp), List.append_nil]
      exact ra.mono (fn.f0.trans f3.f0)
    | true =>
      obtain ⟨gi, gt⟩ := g3 hsel
      have erow : row2 sel inn sel1 val1 d = ((inn d).filter (sel1 d)).map (val1 d) := by rw [row2, if_pos hsel]
      have hbound : ∀ j, ((ds.take i).flatMap (row2 sel inn sel1 val1)).length + (((inn d).take j).filter (sel1 d)).length + (((inn d).drop j).filter (sel1 d)).length ≤ sizeLine := fun j => by
        have e1 : (ds.take (i + 1)).flatMap (row2 sel inn sel1 val1) ++ (ds.drop (i + 1)).flatMap (row2 sel inn sel1 val1) = ds.flatMap (row2 sel inn sel1 val1) := by rw [← List.flatMap_append, List.take_append_drop]
        have e2 := congrArg List.length e1
        rw [efl, erow, List.length_append, List.length_append, List.length_map] at e2
        have e3 : ((inn d).filter (sel1 d)).length = (((inn d).take j).filter (sel1 d)).length + (((inn d).drop j).filter (sel1 d)).length := by
          conv => lhs; rw [← List.take_append_drop j (inn d), List.filter_append, List.length_append]
        omega
      refine iteT ⟨ρ2, inn d, gi, F0, H0, F3, o3.call f3, fun J1 F4 H4 G1 Y1 f4 w1 keep1 gv1 => ?_⟩
      have fin4 := fin3.trans f4
      have hD4 : H4 D = some (.lst acc) := f4.h0 _ _ hD3
      have hF4 : F4 D = none := f4.fr D hF3 (by rw [hD3]; simp)
      refine ⟨fun j k H => k = (inn d).length - j ∧ j ≤ (inn d).length ∧ ∃ Fj acc, Fin F1 H1 Fj H ∧ Same F4 Fj ∧ H D = some (.lst acc) ∧ Fj D = none ∧ Rps X.K Fj ((ds.take i).flatMap (row2 sel inn sel1 val1) ++ (((inn d).take j).filter (sel1 d)).map (val1 d)) acc,
        ⟨(inn d).length, by simp, Nat.zero_le _, F4, acc, fin4, L2.Same.refl _, hD4, hF4, by simpa using ra.mono ((fn.f0.trans f3.f0).trans f4.f0)⟩, ?_⟩
      rintro j k H ⟨rfl, hjn, Fj, accj, fj, sj, hDj, hFj, rj⟩
      have hG1 := keep1 Fj H sj fj.fh
      have okj := u3 Fj H ((f3.f0.trans f4.f0).trans sj) ((o1.call fj).wipe (own.map (·.2)))
      by_cases hlt1 : j < (inn d).length
      · refine .inr ⟨w1.goes j H hlt1 hG1, fun H' => ∃ Fj acc, Fin F1 H1 Fj H' ∧ Same F4 Fj ∧ H' D = some (.lst acc) ∧ Fj D = none ∧ Rps X.K Fj ((ds.take i).flatMap (row2 sel inn sel1 val1) ++ (((inn d).take (j + 1)).filter (sel1 d)).map (val1 d)) acc, fun H' p' => ⟨(inn d).length - (j + 1), by omega, rfl, hlt1, p'⟩, fun x1 H5 y1 => ?_⟩
        have y1 := w1.yields j H x1 H5 hlt1 hG1 y1
        obtain ⟨e, he1⟩ : ∃ e, (inn d)[j]? = some e := ⟨(inn d)[j], by simp [hlt1]⟩
        obtain ⟨ρ3, ts1, hts1, k1, k2, k3⟩ := gt e (List.mem_of_getElem? he1)
        obtain ⟨F5, fn5, rp5⟩ : ∃ F5, Fin Fj H F5 H5 ∧ Rp X.K F5 e x1 := by
          rcases gv1 j e Fj H x1 H5 he1 sj fj.fh y1 with ⟨rfl, r⟩ | ⟨T, xs, dd, rfl, n, rfl, rfl, r⟩
          · exact ⟨Fj, .refl fj.fh, r⟩
          · have g := Fin.newS (u := .tup xs) fj.fh n
            exact ⟨_, g, T, xs, rfl, .inl (.inl upd_same), Rps.mono g.f0 r⟩
        have o5 := (okj.call fn5).wipe vs1
        refine ⟨e, _, ρ3, ts1, k1, F0, H0, F5, o5, rp5, fun σ3 hw1 u5 => ?_⟩
        have o6 := u5 F5 H5 (L2.Same.refl _) o5
        refine ⟨by rw [hw1 _ hts1, wipe_idem], ρ3, sel1 d e, k2, F0, H0, F5, o6, fun F6 H6 f6 => ?_⟩
        have hD6 : H6 D = some (.lst accj) := f6.h0 _ _ (fn5.h0 _ _ hDj)
        have hF6 : F6 D = none := f6.fr D (fn5.fr D hFj (by rw [hDj]; simp)) (by rw [fn5.h0 _ _ hDj]; simp)
        have et1 : (inn d).take (j + 1) = (inn d).take j ++ [e] := by rw [List.take_add_one, he1]; rfl
        have fin6 := (fj.trans fn5).trans f6
        cases hs1' : sel1 d e with
        | false =>
          refine iteF ⟨F6, accj, fin6, sj.trans (fn5.f0.trans f6.f0), hD6, hF6, ?_⟩
          rw [et1, List.filter_append, List.filter_cons, if_neg (by rw [hs1']; simp), List.filter_nil, List.append_nil]
          exact rj.mono (fn5.f0.trans f6.f0)
        | true =>
          refine iteT ⟨ρ3, val1 d e, k3 hs1', F0, H0, F6, o6.call f6, fun v F7 H7 f7 r7 => ?_⟩
          have hF7 : F7 D = none := f7.fr D hF6 (by rw [hD6]; simp)
          have hD7 : H7 D = some (.lst accj) := f7.h0 _ _ hD6
          have fin7 := fin6.trans f7
          refine ⟨accj, hD7, ?_, F7, _, ⟨fin7.f0, fun b u e => ?_, fun b u e => ?_, fin7.fr⟩, sj.trans ((fn5.f0.trans f6.f0).trans f7.f0), upd_same, hF7, ?_⟩
          · rw [rj.length, List.length_append, List.length_map]
            have hb := hbound j
            have hpos : 0 < (((inn d).drop j).filter (sel1 d)).length := by
              refine List.length_pos_of_mem (a := e) (List.mem_filter.mpr ⟨?_, hs1'⟩)
              have : (inn d).drop j = e :: (inn d).drop (j + 1) := by
                rw [List.drop_eq_getElem_cons hlt1]
                congr 1
                exact (List.getElem?_eq_some_iff.mp he1).2
              rw [this]; simp
            omega
          · rw [upd_ne (ne_of_none e hD)]; exact fin7.h0 _ _ e
          · rw [upd_ne (ne_of_none e hF7)]; exact fin7.fh _ _ e
          · rw [et1, List.filter_append, List.filter_cons, if_pos hs1', List.filter_nil, List.map_append, ← List.append_assoc]
            exact (rj.mono ((fn5.f0.trans f6.f0).trans f7.f0)).append ⟨v, [], rfl, r7, rfl⟩
      · have ej : j = (inn d).length := by omega
        subst ej
        refine .inl ⟨w1.stops H hG1, Fj, accj, fj, hDj, hFj, ?_⟩
        rw [List.take_length] at rj
        rw [efl, erow]
        exact rj
  · have e : i = ds.length := by omega
    subst e
    refine .inl ⟨w.stops Hc hG, ?_⟩
    rw [List.take_length] at ra
    exact q D acc Fi Hc (f1.trans fi) (f1.h0.free hD) hDc hDi ra
theorem dn_comp2 (own : List (Str × Nat)) (vs1 : List Nat) (sel : D → Bool) (inn : D → List D) (sel1 : D → D → Bool) (val1 : D → D → D) (hc : X.calm = true) (hN : X.N.Nodup) (hit : DJ X ρ tg it ds) (ok : BlkOk X.N X.env.scope scope own) (hv : ∀ i ∈ vs1, i ∈ own.map (·.2)) (hz : (ds.flatMap (row2 sel inn sel1 val1)).length ≤ sizeLine)
    (turn : ∀ d ∈ ds, ∃ ρ2 ts, (∀ t ∈ ts, t ∈ own.map (·.2)) ∧ InBlk X scope (fun Y => DG Y (wipeE ρ (own.map (·.2))) tg d ρ2 ts) ∧ InBlk X scope (fun Y => DTs Y ρ2 ifs (sel d)) ∧ (sel d = true → InBlk X scope (fun Y => DI Y ρ2 tg1 it1 (inn d)) ∧
      ∀ e ∈ inn d, ∃ ρ3 ts1, (∀ t ∈ ts1, t ∈ vs1) ∧ InBlk X scope (fun Y => DG Y (wipeE ρ2 vs1) tg1 e ρ3 ts1) ∧ InBlk X scope (fun Y => DTs Y ρ3 ifs1 (sel1 d e)) ∧ (sel1 d e = true → InBlk X scope fun Y => DE Y ρ3 elt (val1 d e))))
    (hs : ∀ x, foldedSetIterable it X.env x = pure x := by intro _; rfl) (hs1 : ∀ env x, foldedSetIterable it1 env x = pure x := by intro _ _; rfl) : DN X ρ (.ListComp elt [⟨tg, it, ifs, 0⟩, ⟨tg1, it1, ifs1, 0⟩] scope pos) (ds.flatMap (row2 sel inn sel1 val1)) :=
  comp2_gen (P := fun t => PE X (.ListComp elt [⟨tg, it, ifs, 0⟩, ⟨tg1, it1, ifs1, 0⟩] scope pos) t) (fun _ _ w h => PE.weak h w) own vs1 sel inn sel1 val1 hit (fun _ _ _ _ _ _ _ h1 h2 h3 h4 h5 h6 h7 => pe_lc2 hc hN h1 ok hv h2 h3 h4 h5 h6 h7 hs hs1) hz turn
/-- name = [.. two fors] on one line, the name a plain local -/
theorem ps_compN2 {i : Nat} {y : Str} {py spos : Pos} (own : List (Str × Nat)) (vs1 : List Nat) (sel : D → Bool) (inn : D → List D) (sel1 : D → D → Bool) (val1 : D → D → D) (hc : X.calm = true) (hN : X.N.Nodup) (hy : X.N[i]? = some y) (hyl : X.env.scope.names.lookup y = some .local) (hsw : swapsWith (.ListComp elt [⟨tg, it, ifs, 0⟩, ⟨tg1, it1, ifs1, 0⟩] scope pos) (some (.Name y py)) spos.line X.env = pure true) (hit : DJ X ρ tg it ds) (ok : BlkOk X.N X.env.scope scope own) (hv : ∀ i ∈ vs1, i ∈ own.map (·.2)) (hz : (ds.flatMap (row2 sel inn sel1 val1)).length ≤ sizeLine)
    (turn : ∀ d ∈ ds, ∃ ρ2 ts, (∀ t ∈ ts, t ∈ own.map (·.2)) ∧ InBlk X scope (fun Y => DG Y (wipeE ρ (own.map (·.2))) tg d ρ2 ts) ∧ InBlk X scope (fun Y => DTs Y ρ2 ifs (sel d)) ∧ (sel d = true → InBlk X scope (fun Y => DI Y ρ2 tg1 it1 (inn d)) ∧
      ∀ e ∈ inn d, ∃ ρ3 ts1, (∀ t ∈ ts1, t ∈ vs1) ∧ InBlk X scope (fun Y => DG Y (wipeE ρ2 vs1) tg1 e ρ3 ts1) ∧ InBlk X scope (fun Y => DTs Y ρ3 ifs1 (sel1 d e)) ∧ (sel1 d e = true → InBlk X scope fun Y => DE Y ρ3 elt (val1 d e))))
    (hs : ∀ x, foldedSetIterable it X.env x = pure x := by intro _; rfl) (hs1 : ∀ env x, foldedSetIterable it1 env x = pure x := by intro _ _; rfl) : PS X (.Assign [.Name y py] (.ListComp elt [⟨tg, it, ifs, 0⟩, ⟨tg1, it1, ifs1, 0⟩] scope pos) spos) (tAsg (tDN X.K ρ (ds.flatMap (row2 sel inn sel1 val1))) (gName i)) :=
  comp2_gen (P := fun t => PS X (.Assign [.Name y py] (.ListComp elt [⟨tg, it, ifs, 0⟩, ⟨tg1, it1, ifs1, 0⟩] scope pos) spos) (tAsg t (gName i))) (fun _ _ w h => PS.weak h fun B σ H q => w _ _ _ q) own vs1 sel inn sel1 val1 hit (fun _ _ _ _ _ _ _ h1 h2 h3 h4 h5 h6 h7 => ps_setLc2 hc hN hy hyl hsw h1 ok hv h2 h3 h4 h5 h6 h7 hs hs1) hz turn
end
end DL

set_option Elab.async false
set_option linter.all false
set_option maxRecDepth 100000
set_option autoImplicit false
set_option maxHeartbeats 4000000
/-! Sets of keys made by a comprehension; len of a set. -/
namespace DL
open PySem PySem.Spec PyProof.Rows L2 PpSet
/-- a set with n members, S tells which -/
abbrev kset (X : Cx) (D : Addr) (S : Key → Bool) (n : Nat) : HO := SetK X.prog X.w D S n
abbrev kset0 (X : Cx) (D : Addr) : HO := kset X D (fun _ => false) 0
section
variable {X : Cx}
/-- one more key in a set -/
theorem kadd {pins : List (Addr × Obj)} {σ : L2.St} {H : Hp} {s : Shared} {E : Value → Shared → Prop} {D : Addr} {S : Key → Bool} {n : Nat} {k : Key} {z : Value} {Q : Value → Shared → Prop} (I : Inv X pins σ H s)
    (hD : H D = some (kset X D S n)) (rz : RelV (kV k) z) (room : n + 1 < scanBound) (h : ∀ s' r, Inv X pins σ (upd H D (kset X D (fun j => S j || decide (j = k)) (if S k = true then n else n + 1))) s' → Q r s') :
    wpAny (model X.prog X.w) X.A (call (.builtin "set.add") [.ref D, z]) Q E s :=
  call_set_add (kV_is rz) (key_scan rz) (setK_get I hD) room fun h' sb new => by
    obtain ⟨o, a1, a2, a3, ho, ar⟩ := new
    have en : h'.SetOf (mixKind X.prog X.w) D (fun j => S j || decide (j = k)) (if S k = true then n else n + 1) := ⟨o, a1, a2, a3, ho, ar⟩
    exact h _ _ (I.write (e := D) (t' := s.toks + 1) (by rw [hD]; trivial) (.inl rfl) (fun b u hb hu => (sb.2 b hb).trans hu) ⟨o, ho⟩ (setK_new en))
def tSk (X : Cx) (wi : TI) (g : TG) (tt : TT) (te : TE) (vs : List Nat) : TE := fun σ H Q => wi σ H fun J H1 => ∀ D, H1 D = none → ∃ W : Nat → Nat → Hp → Prop, (∃ m, W 0 m (upd H1 D (kset0 X D))) ∧ ∀ i m H, W i m H →
  (J.stop i H ∧ Q (.ref D) H) ∨ (J.go i H ∧ ∃ Nx : Hp → Prop, (∀ H', Nx H' → ∃ m', m' < m ∧ W (i + 1) m' H') ∧ ∀ x H', J.yld i H x H' → g x (L2.wipe σ vs) H' fun σ2 H2 => L2.wipe σ2 vs = L2.wipe σ vs ∧ tt σ2 H2 fun b H3 =>
    if b = true then te σ2 H3 fun y H4 => ∃ (c : Key) (S : Key → Bool) (n : Nat), y = kV c ∧ H4 D = some (kset X D S n) ∧ n + 1 < scanBound ∧ Nx (upd H4 D (kset X D (fun j => S j || decide (j = c)) (if S c = true then n else n + 1))) else Nx H3)
theorem kset_fresh {s : Shared} : (s.heap.push { cls := .type "set", dict := none, data := .set #[] 0 (.fresh 0 0 (!X.w.params.followText "set-order")) }).SetOf (mixKind X.prog X.w) s.heap.objs.size (fun _ => false) 0 :=
  ⟨_, #[], 0, _, Heap.get?_push_size _ rfl, ⟨rfl, rfl, rfl⟩, rfl, fun e he => by simp at he, fun k => by simp, by decide, by rfl, rfl⟩
theorem pe_sk {elt tg iter : Expr} {ifs : List Expr} {scope : Scope} {own : List (PySem.Str × Nat)} {pos : Pos} {wi : TI} {g : TG} {tt : TT} {te : TE} (hc : X.calm = true) (hN : X.N.Nodup) (hi : PI X tg iter wi) (ok : BlkOk X.N X.env.scope scope own)
    (hg : InBlk X scope fun Y => PG Y tg g) (ht : InBlk X scope fun Y => PTs Y ifs tt) (he : InBlk X scope fun Y => PE Y elt te) (hs : ∀ x, foldedSetIterable iter X.env x = pure x := by intro _; rfl) :
    PE X (.SetComp elt [⟨tg, iter, ifs, 0⟩] scope pos) (tSk X wi g tt te (own.map (·.2))) := by
  refine ⟨fun pins s σ H Q I h => ?_⟩
  rw [eval_SetComp]
  have cells : ∀ y ∈ scope.names, y.2 = .free → ∃ c, X.env.cells.lookup y.1 = some c := fun y hy e => (ok.free y hy e).elim (fun k => I.ok.has _ (.inl k)) fun k => I.ok.has _ (.inr k)
  refine wpAny_comprehension_free (use := none) rfl hs (closure_ok cells) ok.kind (fun y hy e => by rw [ok.uniq y hy, e]) (thn (hi.run pins s σ H _ I h) fun xv s1 hx => thn hx fun itv s2 ⟨it, fp, tn, J, H2, e, I2, T, st2, f2, q⟩ => ?_)
  subst e
  refine newSet_ok (newEnv_comp ?_)
  obtain ⟨D, hD⟩ : ∃ D, s2.heap.objs.size = D := ⟨_, rfl⟩
  obtain ⟨W, ⟨m0, w0⟩, turn⟩ := q D (I2.hok.fresh (Nat.le_of_eq hD))
  obtain ⟨s3, hs3⟩ : ∃ s3 : Shared, ({ s2 with heap := s2.heap.push { cls := .type "set", dict := none, data := .set #[] 0 (.fresh 0 0 (!X.w.params.followText "set-order")) } } : Shared) = s3 := ⟨_, rfl⟩
  have I3 : Inv X pins σ (upd H2 D (kset0 X D)) s3 := by
    rw [← hs3]
    exact I2.laid (t' := s2.toks) (fun b o e => Heap.get?_push_of_some _ e) (Nat.le_of_eq hD) (by rw [← hD]; exact setK_new kset_fresh)
  have h3 : s3.heap = s2.heap.push { cls := .type "set", dict := none, data := .set #[] 0 (.fresh 0 0 (!X.w.params.followText "set-order")) } := congrArg Shared.heap hs3.symm
  have f3 : ∀ b ∈ fp, FpOk X pins (upd H2 D (kset0 X D)) b ∧ b < s3.heap.objs.size := fun b hb => by
    obtain ⟨o, eo, _⟩ := T.obj _ _ st2 b hb
    have hlt : b < s2.heap.objs.size := Heap.lt_size eo
    refine ⟨⟨?_, (f2 b hb).2⟩, by rw [h3, Heap.size_push]; exact Nat.lt_succ_of_lt hlt⟩
    rw [upd_ne (hD ▸ Nat.ne_of_lt hlt)]; exact (f2 b hb).1
  have I4 := block_start I3 ok hN f3
  have st4 : tn 0 (pushCells (s3.heap.push { cls := .type "dict", data := .dict #[] }) scope.names) := T.keep _ _ _ st2 fun b _ o e => pushCells_keeps _ _ _ _ (Heap.get?_push_of_some _ (by rw [h3]; exact Heap.get?_push_of_some _ e))
  have pg := hg s3 (upd H2 D (kset0 X D)) s3.heap.objs.size (cellsFrom (s3.heap.objs.size + 1) scope.names (cloFrom X.env.cells scope.names [])) fp
  have pt := ht s3 (upd H2 D (kset0 X D)) s3.heap.objs.size (cellsFrom (s3.heap.objs.size + 1) scope.names (cloFrom X.env.cells scope.names [])) fp
  have pe := he s3 (upd H2 D (kset0 X D)) s3.heap.objs.size (cellsFrom (s3.heap.objs.size + 1) scope.names (cloFrom X.env.cells scope.names [])) fp
  have nfp : ∀ b ∈ fp, (upd H2 D (kset0 X D)) b = none := fun b hb => (f3 b hb).1.1
  have back : ∀ s' m H', Inv X pins σ H' s' → Q (.ref D) H' → s'.heap.Ns s3.heap.objs.size m → FpOk X pins H' s3.heap.objs.size → compPost (model X.prog X.w) X.A X.xe none (fun v s' => ∃ v1 H1, Inv X pins σ H1 s' ∧ RelV v1 v ∧ Q v1 H1) (.ref D) s3.heap.objs.size (.ok .next) s' :=
    fun s' m H' I' q hn ⟨b0, b1, b2, b3, b4, b5⟩ => ⟨m, hn, fun h'' sb => ⟨.ref D, H', I'.turned (t' := s'.toks) (fun b o hb e => (sb.2 b hb).trans e) b0 b1 b3 b4 b5, rfl, q⟩⟩
  obtain ⟨P, hP⟩ : ∃ P, compPost (model X.prog X.w) X.A X.xe none (fun v s' => ∃ v1 H1, Inv X pins σ H1 s' ∧ RelV v1 v ∧ Q v1 H1) (.ref D) s3.heap.objs.size = P := ⟨_, rfl⟩
  rw [hP] at back
  suffices key : codeAny (model X.prog X.w) X.A (.compStart (.SetComp elt [⟨tg, iter, ifs, 0⟩] scope pos) 0 (.ref it) (.ref D) (compEnvC scope (cellsFrom (s3.heap.objs.size + 1) scope.names (cloFrom X.env.cells scope.names [])) s3.heap.objs.size X.env)) P { s3 with heap := pushCells (s3.heap.push { cls := .type "dict", data := .dict #[] }) scope.names } by
    rw [← hP] at key
    subst hs3 hD
    exact key
  obtain ⟨ce, hce⟩ : ∃ ce, compEnvC scope (cellsFrom (s3.heap.objs.size + 1) scope.names (cloFrom X.env.cells scope.names [])) s3.heap.objs.size X.env = ce := ⟨_, rfl⟩
  have cL : ce.locals = s3.heap.objs.size := by rw [← hce]; rfl
  rw [hce] at I4 pg pt pe ⊢
  obtain ⟨H3, hH3⟩ : ∃ H3, upd H2 D (kset0 X D) = H3 := ⟨_, rfl⟩
  rw [hH3] at I3 I4 pg pt pe w0 nfp f3
  have stat : ∀ {σ' : L2.St} {H' : Hp} {s' : Shared}, Inv (X.blk s3 H3 scope ce fp) [] σ' H' s' → (∀ b ∈ fp, H' b = none) → ∀ b ∈ fp, FpOk (X.blk s3 H3 scope ce fp) [] H' b := fun I' hn b hb =>
    ⟨hn b hb, (I'.ok.exf b hb).1, I'.ok.exfs b hb, .inl hb, fun x c e => (I'.ok.exf b hb).2 x c e, fun p hp => absurd (show p ∈ ([] : List (Addr × Obj)) ++ [] from hp) (by simp)⟩
  have loop : codeAny (model X.prog X.w) X.A (.compLoop (.SetComp elt [⟨tg, iter, ifs, 0⟩] scope pos) 0 (.ref it) (.ref D) ce) P { s3 with heap := pushCells (s3.heap.push { cls := .type "dict", data := .dict #[] }) scope.names } := by
    refine compLoopS_any (fun n s' => ∃ i H', Inv (X.blk s3 H3 scope ce fp) [] (L2.wipe σ (own.map (·.2))) H' s' ∧ tn i s'.heap ∧ (∀ b ∈ fp, H' b = none) ∧ W i n H') ?_ m0 ⟨0, H3, I4, st4, nfp, w0⟩
    rintro n s5 ⟨i, H5, I5, st5, n5, w5⟩
    rcases turn i n H5 w5 with ⟨stop, qq⟩ | ⟨go, Nx, hNx, step⟩
    · refine thnF (T.done (X.blk s3 H3 scope ce fp) rfl rfl rfl hc i [] s5 _ H5 (fun _ _ => False) I5 (stat I5 n5) st5 stop) fun r s6 ⟨hr, I6⟩ => ?_
      subst hr
      obtain ⟨m, hn, _⟩ := I6.loc
      have hn : s6.heap.Ns ce.locals m := hn
      have nC : H5 ce.locals = none := I6.free
      rw [cL] at hn nC
      exact back s6 m H5 (I3.call' (ch := fp) I6.os I6.base I6.hok I6.bare fun b hb => ⟨(f3 b hb).1.2.2.2.1, (f3 b hb).1.2.1, (f3 b hb).1.2.2.2.2.1, (f3 b hb).1.2.2.2.2.2⟩) qq hn (I3.fpOk (Nat.le_refl _) nC)
    · refine thnF (T.item (X.blk s3 H3 scope ce fp) rfl rfl rfl hc i [] s5 _ H5 (fun _ _ => False) I5 (stat I5 n5) st5 go) fun r s6 ⟨u, hr, h6⟩ => ?_
      subst hr
      refine thnF h6 fun _ s7 ⟨x, H7, I7, r7, y7, st7, n7⟩ => thnF (pg.run _ s7 _ H7 x u _ (I7.pinned (stat I7 n7) (T.obj _ _ st7)) r7 (step x H7 y7)) fun _ s8 ⟨σ8, H8, I8, hw8, q8⟩ => thnF (pt.run _ s8 σ8 H8 _ I8 q8) fun b s9 ⟨H9, I9, q9⟩ => ?_
      have fin : ∀ {s' : Shared} {H' : Hp}, Inv (X.blk s3 H3 scope ce fp) ([] ++ pinsAt fp s7.heap) σ8 H' s' → Nx H' → ∃ m, m < n ∧ ∃ i H', Inv (X.blk s3 H3 scope ce fp) [] (L2.wipe σ (own.map (·.2))) H' s' ∧ tn i s'.heap ∧ (∀ b ∈ fp, H' b = none) ∧ W i m H' := fun {s' H'} I' nx => by
        obtain ⟨m', hm, w'⟩ := hNx H' nx
        have pin : ∀ b ∈ fp, ∀ o, s7.heap.get? b = some o → s'.heap.get? b = some o ∧ H' b = none := fun b hb o e => ⟨(I'.pin (b, o) (List.mem_append_right _ (List.mem_append_right _ (mem_pinsAt hb e)))).1, (I'.pin (b, o) (List.mem_append_right _ (List.mem_append_right _ (mem_pinsAt hb e)))).2.1⟩
        refine ⟨m', hm, i + 1, H', (I'.unpinned (pins := [])).weak (by rw [← hw8, wipe_length]) (fun j v e => (wipe_some (hw8 ▸ e)).1), T.keep _ _ _ st7 fun b hb o e => (pin b hb o e).1, fun b hb => ?_, w'⟩
        obtain ⟨o, e, _⟩ := T.obj _ _ st7 b hb
        exact (pin b hb o e).2
      cases b with
      | false => exact fin I9 (by simpa using q9)
      | true =>
        rw [if_pos rfl] at q9
        show wpAny _ _ _ _ _ _
        refine thnF (pe.run _ s9 σ8 H9 _ I9 q9) fun z s10 ⟨yv, H10, I10, r10, cb, S0, n0, ey, hD10, hz10, nx⟩ => ?_
        subst ey
        exact kadd (X := X.blk s3 H3 scope ce fp) I10 hD10 r10 hz10 fun s11 r I11 => fin I11 nx
  exact codeAny_compStart_set loop (T.self X.A 0 _ _ _ st4 loop)
end
end DL
namespace DL
open PySem PySem.Spec PyProof.Rows L2 PpSet
/-- how many keys are unlike -/
def card : List Int → Nat
  | [] => 0
  | k :: ks => if k ∈ ks then card ks else card ks + 1
theorem card_le : ∀ ks : List Int, card ks ≤ ks.length
  | [] => Nat.le_refl _
  | k :: ks => by
    have := card_le ks
    unfold card
    split <;> simp <;> omega
/-- the members are the ints ks -/
def Mem (S : Key → Bool) (ks : List Int) : Prop := ∀ k : Key, S k = true ↔ ∃ i ∈ ks, k = Sum.inl i
theorem Mem.add {S : Key → Bool} {ks : List Int} (h : Mem S ks) (i : Int) : Mem (fun j => S j || decide (j = Sum.inl i)) (i :: ks) := fun k => by
  rw [Bool.or_eq_true, h k, decide_eq_true_iff]
  constructor
  · rintro (⟨x, hx, e⟩ | e)
    · exact ⟨x, by simp [hx], e⟩
    · exact ⟨i, by simp, e⟩
  · rintro ⟨x, hx, e⟩
    rcases List.mem_cons.mp hx with rfl | hx
    · exact .inr e
    · exact .inl ⟨x, hx, e⟩
theorem Mem.at {S : Key → Bool} {ks : List Int} (h : Mem S ks) (i : Int) : S (Sum.inl i) = decide (i ∈ ks) := by
  rw [Bool.eq_iff_iff, h, decide_eq_true_iff]
  constructor
  · rintro ⟨x, hx, e⟩; cases e; exact hx
  · exact fun hx => ⟨i, hx, rfl⟩
def tDSk (X : Cx) (ρ : Ev) (ks : List Int) : TE := fun σ H Q => ∃ F0 H0 F, Ok X.K F0 H0 F H σ ρ ∧
  ∀ D S F' H', Fin F H F' H' → H D = none → H' D = some (kset X D S (card ks)) → Mem S ks → Q (.ref D) H'
/-- e is a new set of the ints ks -/
def DSk (X : Cx) (ρ : Ev) (e : Expr) (ks : List Int) : Prop := PE X e (tDSk X ρ ks)
section
variable {X : Cx} {ρ : Ev} {tg it elt e : Expr} {es ifs : List Expr} {d : D} {ds : List D} {pos p : Pos} {scope : Scope} {own : List (Str × Nat)} {k : Bool}
theorem dsk_comp (own : List (Str × Nat)) (val : D → Int) (hc : X.calm = true) (hN : X.N.Nodup) (hit : DJ X ρ tg it ds) (ok : BlkOk X.N X.env.scope scope own) (hz : ds.length ≤ 1000)
    (turn : ∀ d ∈ ds, ∃ ρ2 ts, (∀ t ∈ ts, t ∈ own.map (·.2)) ∧ InBlk X scope (fun Y => DG Y (wipeE ρ (own.map (·.2))) tg d ρ2 ts) ∧ InBlk X scope fun Y => DE Y ρ2 elt (.int (val d)))
    (hs : ∀ x, foldedSetIterable it X.env x = pure x := by intro _; rfl) : DSk X ρ (.SetComp elt [⟨tg, it, [], 0⟩] scope pos) (ds.map val).reverse := by
  have hg : InBlk X scope (fun Y => PG Y tg (fun v σ H Q => ∃ (d : D) (ρ1 ρ2 : Ev) (ts : List Nat), InBlk X scope (fun Y => DG Y ρ1 tg d ρ2 ts) ∧ gD X.K ρ1 d ρ2 ts v σ H Q)) := fun s H C cl fp => ⟨fun pins s' σ H' v u Q I r ⟨d, ρ1, ρ2, ts, h, q⟩ => (h s H C cl fp).run pins s' σ H' v u Q I r q⟩
  have he : InBlk X scope (fun Y => PE Y elt (fun σ H Q => ∃ (ρ2 : Ev) (d : D), InBlk X scope (fun Y => DE Y ρ2 elt d) ∧ tG X.K ρ2 (rD X.K d) σ H Q)) := fun s H C cl fp => ⟨fun pins s' σ H' Q I ⟨ρ2, d, h, q⟩ => (h s H C cl fp).run pins s' σ H' Q I q⟩
  refine PE.weak (pe_sk hc hN hit ok hg (fun s H C cl fp => pts_nil) he hs) fun σ H Q ⟨F0, H0, F, o, q⟩ => ⟨F0, H0, F, o, fun J F1 H1 G Y f1 w keep gv D hD => ?_⟩
  have o1 := o.call f1
  have hF1 : F1 D = none := f1.fh.free hD
  have s1 : Same H1 (upd H1 D (kset0 X D)) := fun b u e => by rw [upd_ne (ne_of_none e hD)]; exact e
  let Pv : Nat → Hp → Prop := fun i Hc => ∃ Fi S, Fin F1 H1 Fi Hc ∧ Hc D = some (kset X D S (card ((ds.take i).map val).reverse)) ∧ Fi D = none ∧ Mem S ((ds.take i).map val).reverse
  refine ⟨fun i m H => m = ds.length - i ∧ i ≤ ds.length ∧ Pv i H, ⟨ds.length, by simp, Nat.zero_le _, F1, _, ⟨L2.Same.refl _, s1, f1.fh.trans s1, fun _ h _ => h⟩, upd_same, hF1, fun k => by simp⟩, ?_⟩
  rintro i m Hc ⟨rfl, hi, Fi, S, fi, hDc, hDi, hm⟩
  have hG : G Hc := keep Fi Hc fi.f0 fi.fh fi.h0
  by_cases hlt : i < ds.length
  · refine .inr ⟨w.goes i Hc hlt hG, Pv (i + 1), fun H' p' => ⟨ds.length - (i + 1), by omega, rfl, hlt, p'⟩, fun x H2 y => ?_⟩
    have y := w.yields i Hc x H2 hlt hG y
    have hd : ds[i]? = some ds[i] := by simp [hlt]
    generalize ds[i] = d at *
    obtain ⟨ρ2, ts, hts, g1, g2⟩ := turn d (List.mem_of_getElem? hd)
    obtain ⟨F2, fn, rp⟩ : ∃ F2, Fin Fi Hc F2 H2 ∧ Rp X.K F2 d x := by
      rcases gv i d Fi Hc x H2 hd fi.f0 fi.fh y with ⟨rfl, r⟩ | ⟨T, xs, dd, rfl, n, rfl, rfl, r⟩
      · exact ⟨Fi, .refl fi.fh, r⟩
      · have g := Fin.newS (u := .tup xs) fi.fh n
        exact ⟨_, g, T, xs, rfl, .inl (.inl upd_same), Rps.mono g.f0 r⟩
    have o2 := ((o1.call fi).call fn).wipe (own.map (·.2))
    refine ⟨d, _, ρ2, ts, g1, F0, H0, F2, o2, rp, fun σ' hw u3 => ?_⟩
    have o3 := u3 F2 H2 (L2.Same.refl _) o2
    refine ⟨by rw [hw _ hts, wipe_idem], ?_⟩
    simp only [if_true]
    refine ⟨ρ2, .int (val d), g2, F0, H0, F2, o3, fun v F4 H4 f4 r4 => ?_⟩
    cases r4
    have hD2 : H2 D = some (kset X D S (card ((ds.take i).map val).reverse)) := fn.h0 _ _ hDc
    have hF2 : F2 D = none := fn.fr D hDi (by rw [hDc]; simp)
    have hF4 : F4 D = none := f4.fr D hF2 (by rw [hD2]; simp)
    have hD4 := f4.h0 _ _ hD2
    have fin4 := (fi.trans fn).trans f4
    have et : ((ds.take (i + 1)).map val).reverse = val d :: ((ds.take i).map val).reverse := by rw [List.take_add_one, hd]; simp
    have cl := card_le ((ds.take i).map val).reverse
    refine ⟨Sum.inl (val d), S, _, rfl, hD4, ?_, F4, _, ⟨fin4.f0, fun b u e => ?_, fun b u e => ?_, fin4.fr⟩, ?_, hF4, et ▸ hm.add (val d)⟩
    · have e : 1002 ≤ scanBound := by decide +kernel
      have l : ((ds.take i).map val).reverse.length ≤ ds.length := by simp; omega
      omega
    · rw [upd_ne (ne_of_none e hD)]; exact fin4.h0 _ _ e
    · rw [upd_ne (ne_of_none e hF4)]; exact fin4.fh _ _ e
    · rw [upd_same, et, hm.at (val d)]
      conv => rhs; unfold card
      simp only [decide_eq_true_eq]
  · have e : i = ds.length := by omega
    subst e
    rw [List.take_length] at hDc hm
    exact .inl ⟨w.stops Hc hG, q D S Fi Hc (f1.trans fi) (f1.h0.free hD) hDc hm⟩
theorem call_len_kset : CallR X (.builtin "len") (fun xs H Q => ∃ D S n, xs = [.ref D] ∧ H D = some (kset X D S n) ∧ n ≤ 1000000 ∧ Q (.int n) H) := by
  intro pins s σ H xs us Q I r ⟨D, S, n, e, hD, hn, q⟩
  subst e
  obtain ⟨u, rfl, rx⟩ := vals1 r
  cases rx
  obtain ⟨o, es, ep, t, ho, ex, hd, _, _, _, hf, en⟩ := setK_get I hD
  refine call_len_set ho ex hd hf (by omega) ⟨.int n, H, I.tok _, ⟨s.toks + 1, by rw [en]⟩, q⟩
/-- len({..}) -/
theorem de_lenSet {ks : List Int} (hm : X.mg "len" = none) (ha : DSk X ρ e ks) (hk : ks.length ≤ 1000000) (hs : starEach (e :: []) X.env = (false, eval e X.env) :: starEach [] X.env := by rfl) (hg : Gl X "len" := by rfl) (hpl : (backTo pos (starEach ([] : List Expr) X.env)).any (·.1) = false := by rfl) : DE X ρ (.Call (.Name "len" p) [e] [] pos) (.int (card ks : Int)) :=
  PE.weak (pe_callB call_len_kset hg hm PySem.boot_len (pa_cons ha pa_nil hs) (by decide) (by decide) hs hpl) fun σ H Q ⟨F0, H0, F, o, q⟩ => ⟨F0, H0, F, o, fun D S F' H' f n1 hD hm => ⟨D, S, _, rfl, hD, Nat.le_trans (card_le ks) hk, q _ _ _ f rfl⟩⟩
end
end DL

set_option Elab.async false
set_option linter.all false
set_option maxRecDepth 100000
set_option autoImplicit false
set_option maxHeartbeats 2000000
/-! super().__init__(x); self.f = x in an own exception's __init__. -/
namespace DL
open PySem PySem.Spec PyProof.Rows L2
section
variable {X : Cx} {pins : List (Addr × Obj)} {σ : L2.St} {H : Hp} {s : Shared} {a C : Addr}
/-- ValueError.__init__ bound to the new exception, called -/
theorem bound_init {u : Addr} {vals : List Value} {E : Value → Shared → Prop} {Q : Value → Shared → Prop} (T : OexC X.K C) (I : Inv X pins σ H s) (hx : H a = some (exo a C none)) (hu : s.heap.get? u = some (PySem.W.kxs_mw "ValueError.__init__" a)) (hl : vals.length ≤ sizeLine)
    (fin : ∀ s', Inv X pins σ H s' → Q .none s') : wpAny (model X.prog X.w) X.A (call (.ref u) vals) Q E s := by
  obtain ⟨nm, q, N, bs, bm, sn, sub, ab, col, dd, k0, k1, k2, k3, k5, cls, hbm⟩ := T.cls
  obtain ⟨t1, hox⟩ := exo_at I.hok hx
  have clsAt := I.kIn _ _ cls
  have J0 := fun (h' : Heap) (t' : Addr) (keep : ∀ b o, b ≠ a → s.heap.get? b = some o → h'.get? b = some o) (now : h'.get? a = some (PySem.HandSPX.excO C t')) =>
    I.write (t' := s.toks) (x := a) (e := a) (o := exo a C none) (by rw [hx]; trivial) (.inl rfl) keep ⟨_, now⟩ (exo_ok now)
  have same : upd H a (exo a C none) = H := funext fun b => by
    by_cases e : b = a
    · subst e; rw [upd_same]; exact hx.symm
    · exact upd_ne e
  rw [same] at J0
  obtain ⟨hp, gs, dr, tk, oss⟩ := s
  apply wpAny_call
  apply codeAny_of_tree
  show wpAny _ X.A.in1 (callAny (.ref u) ⟨vals, []⟩) _ _ _
  unfold callAny
  refine wpAny_bind (wpAny_load hu ?_)
  simp only [PySem.W.kxs_mw, (by decide : (Value.type "method-wrapper" == Value.type "method" || Value.type "method-wrapper" == Value.type "builtin_function_or_method" || Value.type "method-wrapper" == Value.type "method-wrapper") = true), if_true]
  refine PySem.W.KFB.if_so (by decide) ?_
  refine wpAny_bind (PySem.W.check_bound_init (PySem.F.excBase_ValueError).toExcCallFacts clsAt hox rfl ?_)
  refine wpAny_bind (wpAny_pure (wpAny_pure ⟨plainId_quiet (PySem.F.excBase_ValueError).init.plain _, codeAny_builtin (PySem.F.excBase_ValueError).initEntry ?_⟩))
  exact PySem.W.exc_init_tree (cls := .ref C) (t0 := t1) (dv := none) (c2 := .none) (c3 := .none) (b4 := .bool false) hox hl fun h' keep now _ => fin _ (J0 h' _ keep now)
/-- what the written part says of such a class and its __init__ -/
structure Sup (P : Program) (K : PySem.W.Frag) (mg : Str → Option Value) (C fI : Addr) (nm qual : Str) (params : Arguments) (body : List Stmt) (scope : Scope) (sn xn fn : Str) : Prop where
  oex : OexC K C
  no : PySem.W.findIn K (.ref C) fn = some none
  fd : ∃ (oc dV kV doc pm ct : Value) (od an : Option Addr) (osl : Array (Option Value)) (cda cc : Addr) (cl : Value) (cld : Option Addr) (csl : Array (Option Value)) (ccl : Value) (cdd : Option Addr) (ccs : Array (Option Value)) (vs : Array Value) (file : Str) (tf : Tok),
    K.lookup fI = some ⟨oc, od, .func (PySem.W.ksFn nm qual params body scope dV kV doc pm an (.ref cda) ct cc), osl⟩ ∧ PySem.W.codeIn K (.ref cda) qual = true ∧ K.lookup cc = some ⟨cl, cld, .cell (some (.ref C)), csl⟩ ∧
      K.lookup cda = some ⟨ccl, cdd, .fields vs, ccs⟩ ∧ vs[2]? = some (.str file tf) ∧ ((P.main.file : Str) == file) = true
  cls : ∃ cd, PySem.W.clsIn K C = some cd
  sub : PySem.W.mroIn K C (.ref C) = some true
  subV : PySem.W.subIn K (.ref C) (.type "ValueError") = some true
  sup : PySem.W.ks_superIn K C C "__init__" = some (some (.builtin "ValueError.__init__"))
  opq : PySem.W.nsIn K cStatics "thirdparty.any" = some none
  free : mg "super" = none
  top : (P.main.scope.names.lookup ("super" : Str)).isSome = false
  first : ∃ ar, (params.posonlyargs ++ params.args).head? = some ar ∧ ar.arg = sn
  kind : scope.kind = .function
  co : scope.isCoroutine = false
  gen : scope.isGenerator = false
  nocell : ∀ y ∈ scope.names, y.2 ≠ .cell
  frees : ∀ y ∈ scope.names, y.2 = .free → y.1 = ("__class__" : Str)
  ks : scope.names.lookup ("super" : Str) = some .globalImplicit
  kc : scope.names.lookup ("__class__" : Str) = some .free
  kS : scope.names.lookup sn = some .local
  kX : scope.names.lookup xn = some .local
  ne : sn ≠ xn
theorem cls_at {K : PySem.W.Frag} {h : Heap} {C : Addr} {cd : ClassData} (KX : K.In h) (e : PySem.W.clsIn K C = some cd) : ∃ o, h.get? C = some o ∧ o.data = .cls cd := by
  unfold PySem.W.clsIn at e
  split at e
  · cases e; exact ⟨_, KX _ _ (by assumption), rfl⟩
  · cases e
variable {P : Program} {K : PySem.W.Frag} {mg : Str → Option Value} {fI : Addr} {nm qual : Str} {params : Arguments} {body : List Stmt} {scope : Scope} {sn xn fn : Str} {v : V}
/-- super().__init__(x) -/
theorem super_stmt {p0 p1 p2 p3 p4 p5 : Pos} (T : Sup X.prog X.K X.mg C fI nm qual params body scope sn xn fn) (I : Inv X [] [some (.ref a), some v] H s) (hN : X.N = [sn, xn]) (hx : H a = some (exo a C none)) (hsc : X.env.scope = scope)
    (hfn : ∃ (oc dV kV doc pm ct : Value) (od an : Option Addr) (osl : Array (Option Value)) (cda cc : Addr) (cl : Value) (cld : Option Addr) (csl : Array (Option Value)) (ccl : Value) (cdd : Option Addr) (ccs : Array (Option Value)) (vs : Array Value) (file : Str) (tf : Tok),
      X.K.lookup fI = some ⟨oc, od, .func (PySem.W.ksFn nm qual params body scope dV kV doc pm an (.ref cda) ct cc), osl⟩ ∧ X.K.lookup cc = some ⟨cl, cld, .cell (some (.ref C)), csl⟩ ∧ X.env.cells.lookup ("__class__" : Str) = some cc ∧ X.env.code = .ref cda ∧
        X.K.lookup cda = some ⟨ccl, cdd, .fields vs, ccs⟩ ∧ vs[2]? = some (.str file tf) ∧ ((X.prog.main.file : Str) == file) = true) (hfu : X.env.func = some fI)
    (hi : interactive X.env = false) (hsw : swapsWith (.Call (.Attribute (.Call (.Name "super" p0) [] [] p1) "__init__" p2) [.Name xn p3] [] p4) none p5.line X.env = pure false) (hst : starEach [.Name xn p3] X.env = (false, eval (.Name xn p3) X.env) :: starEach [] X.env)
    (hpl : (backTo p4 (starEach ([] : List Expr) X.env)).any (·.1) = false) (hd : (xn == ("__debug__" : Str)) = false) (hcd : (xn == ("__classdict__" : Str)) = false) {pl : Sem Bool}
    (hev : eval (.Call (.Attribute (.Call (.Name "super" p0) [] [] p1) "__init__" p2) [.Name xn p3] [] p4) X.env = (do
      let ov ← attributeBase (.Call (.Name "super" p0) [] [] p1) "__init__" X.env (eval (.Call (.Name "super" p0) [] [] p1) X.env)
      standAt p2.atName
      let (f, first) ← holding [ov] (getMethod ov "__init__" pl)
      callWith p4 f first (backTo p4 (starEach [.Name xn p3] X.env)) [])) :
    _root_.PySem.wpAt (model X.prog X.w) X.A (.func body X.env) (exec (.Expr (.Call (.Attribute (.Call (.Name "super" p0) [] [] p1) "__init__" p2) [.Name xn p3] [] p4) p5) X.env) (fun fl s' => fl = .next ∧ Inv X [] [some (.ref a), some v] H s') X.xe s := by
  obtain ⟨oc, dV, kV, doc, pm, ct, od, an, osl, cda, cc, cl, cld, csl, ccl, cdd, ccs, vs, file, tf, l1, l2, hcc, hcode, l3, hv2, hfile⟩ := hfn
  obtain ⟨cd, hcd1⟩ := T.cls
  obtain ⟨ar, har, hars⟩ := T.first
  obtain ⟨oC, hC1, hC2⟩ := cls_at I.kIn hcd1
  obtain ⟨t1, hox⟩ := exo_at I.hok hx
  refine ks_wpAt_Expr_any ?_ hi hsw
  refine ks_wpAt_MethodCall (pl := pl) ?_ hev
  refine ks_wpAt_super_base (by show X.env.scope.names.lookup _ = _; rw [hsc]; exact T.ks) (by show X.env.scope.names.lookup _ = _; rw [hsc]; exact T.kc) (by decide) hfu (I.kIn _ _ l1) rfl har hcode (I.kIn _ _ l3) rfl hv2 hfile T.top ?_
  obtain ⟨mb, hb1, hb2⟩ := I.mod.blt
  refine PySem.W.ks_loadName_global I.ok.kind (by show X.env.scope.names.lookup _ = _; rw [hsc]; exact T.ks) (Calls.loadGlobal_builtin (by rw [I.ok.glob]; exact I.mod.glob.keeps I.bk) T.free (by rw [I.ok.blt]; exact hb1.keeps I.bk) ((hb2 _ (by decide)).trans (by decide +kernel : bootBuiltins "super" = some (.type "super"))) ⟨rfl, ?_⟩)
  refine wpAny_loadName_free I.ok.kind (by show X.env.scope.names.lookup _ = _; rw [hsc]; exact T.kc) hcc ⟨_, I.kIn _ _ l2, rfl⟩ ?_
  obtain ⟨m, hm, hl⟩ := id I.loc
  obtain ⟨u0, r0, k0⟩ := hl 0 sn (.ref a) (by rw [hN]; rfl) rfl (.inl (by rw [hsc]; exact T.kS))
  have r0 : u0 = Value.ref a := r0
  subst r0
  have m0 : m sn = some (.ref a) := by
    rcases k0 with ⟨_, k⟩ | ⟨k, _⟩
    · exact k
    · have z : X.env.scope.names.lookup sn = some .local := by rw [hsc]; exact T.kS
      have k : X.env.scope.names.lookup sn = some .cell ∨ X.env.scope.names.lookup sn = some .free := k
      rw [z] at k; rcases k with k | k <;> cases k
  refine wpAny_loadName_local I.ok.kind (by show X.env.scope.names.lookup _ = _; rw [hars, hsc]; exact T.kS) hm (by rw [hars]; exact m0) ?_
  obtain ⟨hp, gs, dr, tk, oss⟩ := s
  refine ks_wpAny_isType_cls hC1 hC2 ⟨rfl, ?_⟩
  refine ks_wpAny_call_super hC1 hC2 hox rfl (fun c e => by cases e) (PySem.W.looks_mroIn I.kIn T.sub) fun h1 hso k1 => ?_
  have I1 : Inv X [] _ H ⟨h1, gs, dr, tk, oss⟩ := I.kept (h' := h1) (t' := tk) k1
  have hox1 := k1 _ _ hox
  refine PySem.W.kxs_getMethod PySem.W.kxs_ValueError hso (PySem.W.looks_opaque I1.kIn T.opq) (l₀ := cd.mro) (fun A Q E s k q => wpAny_bind ((PySem.W.looks_clsIn I1.kIn hcd1) A _ E s k (wpAny_pure q))) rfl I1.kIn ?_ ?_ ?_ (by decide) ?_
  · have e := T.sup
    unfold PySem.W.ks_superIn at e
    rw [hcd1] at e
    exact e
  · exact (PySem.W.InstAt.type (od := none) ⟨hox1, rfl, rfl, trivial⟩).andThen (PySem.W.looks_subIn I1.kIn T.subV)
  · intro e
    subst e
    rw [hox] at hC1
    cases hC1
    cases hC2
  · have k2 : ∀ b o, h1.get? b = some o → (h1.push (PySem.W.kxs_mw "ValueError.__init__" a)).get? b = some o := fun b o e => Heap.get?_push_of_some _ e
    have hu : (h1.push (PySem.W.kxs_mw "ValueError.__init__" a)).get? h1.objs.size = some (PySem.W.kxs_mw "ValueError.__init__" a) := Heap.get?_push_size _ rfl
    have I2 : Inv X [] _ H ⟨h1.push (PySem.W.kxs_mw "ValueError.__init__" a), gs, dr, tk + 1, oss⟩ := I1.kept (h' := h1.push (PySem.W.kxs_mw "ValueError.__init__" a)) (t' := tk + 1) k2
    have fp := I1.fpOk (b := h1.objs.size) (Nat.le_refl _) (I1.hok.fresh (Nat.le_refl _))
    have I3 : Inv X [(h1.objs.size, PySem.W.kxs_mw "ValueError.__init__" a)] _ H ⟨h1.push (PySem.W.kxs_mw "ValueError.__init__" a), gs, dr, tk + 1, oss⟩ := I2.pins_of fun p hp => by
      obtain rfl : p = (h1.objs.size, PySem.W.kxs_mw "ValueError.__init__" a) := by simpa using hp
      exact ⟨hu, fp.1, fp.2.1, fp.2.2.1, fun v e => by cases e⟩
    show wpAny _ _ (callWith p4 (Value.ref h1.objs.size) [] (backTo p4 (starEach [.Name xn p3] X.env)) []) _ _ _
    have hpa : PA X [.Name xn p3] (fun σ H Q => ∃ v, σ[1]? = some (some v) ∧ Q [v] H) := ⟨fun pos pins s σ H Q I ⟨w, e, q⟩ => (pa_cons (pe_var (i := 1) (by rw [hN]; rfl) (.inl (by rw [hsc]; exact T.kX)) hd hcd) pa_nil hst).run pos pins s σ H Q I ⟨w, e, q⟩⟩
    have run := hpa.run p4 _ _ _ H (fun vs H1 => vs = [v] ∧ H1 = H) I3 ⟨v, rfl, rfl, rfl⟩
    rw [hst] at run ⊢
    refine PySem.W.kxs_callWith (i := "ValueError.__init__") (x := a) (by show (false || (backTo p4 (starEach ([] : List Expr) X.env)).any (·.1)) = false; rw [hpl]; rfl) ?_
    refine Calls.evalArgs_plain (thn run fun us s4 ⟨ws, H4, I4, r4, e4, e5⟩ => ?_)
    subst e4 e5
    have pin := (I4.pin (h1.objs.size, PySem.W.kxs_mw "ValueError.__init__" a) (List.mem_append_right _ (by simp))).1
    refine ⟨pin, ?_⟩
    obtain ⟨y, rfl, ry⟩ := vals1 r4
    exact bound_init T.oex I4 hx pin (by show 1 ≤ sizeLine; decide) fun s5 I5 => ⟨rfl, I5.pins_of fun p hp => by cases hp⟩
end
/-- the promise of such an __init__ -/
def spSup (K : PySem.W.Frag) (C : Addr) (fn : Str) : Sp := fun vs H Q _ => ∃ (a : Addr) (v : V), vs = [.ref a, v] ∧ H a = some (exo a C none) ∧ ∀ dx, H dx = none → dx ≠ a → Q .non (upd (upd H dx (exd dx [(fn, v)])) a (exo a C (some dx)))
section
variable {P : Program} {w : World} {K : PySem.W.Frag} {mg : Str → Option Value} {base : Heap} {C fI : Addr} {nm qual : Str} {params : Arguments} {scope : Scope} {sn xn fn : Str} {CX : CXT} {fd : FuncData}
theorem sup_ok {p0 p1 p2 p3 p4 p5 p6 p7 p8 p9 : Pos} {body : List Stmt} (hb : body = [.Expr (.Call (.Attribute (.Call (.Name "super" p0) [] [] p1) "__init__" p2) [.Name xn p3] [] p4) p5, .Assign [.Attribute (.Name sn p6) fn p7] (.Name xn p8) p9])
    (T : Sup P K mg C fI nm qual params body scope sn xn fn) (hfd : ∃ ob : Obj, K.lookup fI = some ob ∧ ob.data = .func fd) (hev : ∀ env : Env, ∃ pl : Sem Bool, eval (.Call (.Attribute (.Call (.Name "super" p0) [] [] p1) "__init__" p2) [.Name xn p3] [] p4) env = (do
      let ov ← attributeBase (.Call (.Name "super" p0) [] [] p1) "__init__" env (eval (.Call (.Name "super" p0) [] [] p1) env)
      standAt p2.atName
      let (f, first) ← holding [ov] (getMethod ov "__init__" pl)
      callWith p4 f first (backTo p4 (starEach [.Name xn p3] env)) []))
    (d1 : (xn == ("__debug__" : Str)) = false) (d2 : (xn == ("__classdict__" : Str)) = false) (d3 : (sn == ("__debug__" : Str)) = false) (d4 : (sn == ("__classdict__" : Str)) = false) : FnOk P w K mg base CX 1 fI fd [sn, xn] (spSup K C fn) := by
  refine ⟨fun vs H Q E ⟨a, v, e, _⟩ => by rw [e]; rfl, fun A outer s H args us vs Q E hr e0 hbind r hsp => ?_⟩
  obtain ⟨a, v, rfl, hx, q⟩ := hsp
  have KX : K.In s.heap := e0.mod.kin.keeps fun b o e => (e0.bs b o e).1
  obtain ⟨oc, dV, kV, doc, pm, ct, od, an, osl, cda, cc, cl, cld, csl, ccl, cdd, ccs, vs, file, tf, l1, lcode, l2, l3, hv2, hfile⟩ := T.fd
  obtain ⟨ob, l1', hob⟩ := hfd
  rw [l1] at l1'; cases l1'; cases hob
  obtain ⟨u0, u1, rfl, r0, r1⟩ := vals2 r
  have r0 : u0 = Value.ref a := r0
  subst r0
  refine ks_codeAny_call_defAt (body := body) hr.depth (KX _ _ l1) rfl (e0.mod.nolimit.keeps fun b o e => (e0.bs b o e).1) (PySem.W.codeRec_of KX lcode) rfl hbind T.nocell (fun y hy => ?_) (fun h1 hns hk => ?_) T.co T.gen T.kind
  · have hy : y = (sn, Value.ref a) ∨ y = (xn, u1) := by simpa using hy
    rcases hy with rfl | rfl
    · exact T.kS
    · exact T.kX
  show _root_.PySem.wpAt (model P w) (A.deeper (PySem.W.ksEnv qual scope s.heap.objs.size fI (.ref cda) cc)) (.func body (PySem.W.ksEnv qual scope s.heap.objs.size fI (.ref cda) cc)) (execs body (PySem.W.ksEnv qual scope s.heap.objs.size fI (.ref cda) cc)) _ _ _
  generalize hX : ({ prog := P, w := w, K := K, mg := mg, base := base, A := A.deeper (PySem.W.ksEnv qual scope s.heap.objs.size fI (.ref cda) cc), N := [sn, xn], s_0 := s, H_0 := H, env := PySem.W.ksEnv qual scope s.heap.objs.size fI (.ref cda) cc, outer := outer, stack := PySem.W.ksEnv qual scope s.heap.objs.size fI (.ref cda) cc :: outer, ex := [], calm := true, fn := fun _ => false, pn := [], xe := fun _ _ => False } : Cx) = X
  have lookC : ∀ y c, (PySem.W.ksEnv qual scope s.heap.objs.size fI (.ref cda) cc).cells.lookup y = some c → y = ("__class__" : Str) ∧ c = cc := fun y c h => by
    have h : List.lookup y [(("__class__" : Str), cc)] = some c := h
    by_cases e : y = ("__class__" : Str)
    · subst e
      rw [List.lookup_cons_self] at h
      exact ⟨rfl, (Option.some.inj h).symm⟩
    · rw [List.lookup_cons, show (y == ("__class__" : Str)) = false from by simpa using e] at h
      cases h
  have hcb : ∃ o, base.get? cc = some o ∧ o.data = .cell (some (.ref C)) := ⟨_, e0.mod.kin _ _ l2, rfl⟩
  obtain ⟨oce, hce, hced⟩ := hcb
  have noex : ∀ b : Addr, b ∉ X.ex := fun b z => by rw [← hX] at z; exact absurd z (by simp)
  have I : Inv X [] [some (.ref a), some v] H { s with heap := h1, toks := s.toks + 2 } := by
    subst hX
    refine ⟨⟨e0.mod, T.kind, rfl, rfl, Nat.le_refl _, fun y z c g1 g2 => ((lookC y c g1).1).trans ((lookC z c g2).1).symm, fun y hy => ?_, fun y c z _ => (by cases z), fun _ => hr.hd, Around.frames_deeper e0.frames, .inr ⟨rfl, rfl⟩, fun b z => absurd z (noex b), e0.bs, e0.bsz, fun b _ _ => noex b, fun b z => absurd z (noex b), e0.funs, e0.frf⟩,
      rfl, e0.bare, Un.kept hk, ⟨_, hns, fun i y z g1 g2 g3 => ?_⟩, fun y c g => ⟨some (.ref C), ?_⟩, e0.hok.fresh (Nat.le_refl _), fun y c g => ?_, fun p hp => absurd hp (by simp), e0.hok.kept hk, rfl⟩
    · have hy : scope.names.lookup y = some .cell ∨ scope.names.lookup y = some .free := hy
      rcases hy with hy | hy
      · exact absurd rfl (T.nocell _ (PySem.mem_of_lookup hy))
      · have := T.frees _ (PySem.mem_of_lookup hy) rfl
        exact ⟨cc, by show List.lookup y [(("__class__" : Str), cc)] = _; rw [show y = ("__class__" : Str) from this, List.lookup_cons_self]⟩
    · have nex : (xn == sn) = false := by simpa using Ne.symm T.ne
      match i, g1, g2 with
      | 0, g1, g2 =>
        cases g1; cases g2
        exact ⟨_, rfl, .inl ⟨T.kS, by show List.lookup sn [(xn, u1), (sn, Value.ref a)] = _; rw [List.lookup_cons, show (sn == xn) = false from by simpa using T.ne, List.lookup_cons_self]⟩⟩
      | 1, g1, g2 =>
        cases g1; cases g2
        exact ⟨u1, r1, .inl ⟨T.kX, by show List.lookup xn [(xn, u1), (sn, Value.ref a)] = _; rw [List.lookup_cons_self]⟩⟩
    · obtain ⟨_, rfl⟩ := lookC y c g
      exact ⟨oce, hk _ _ (e0.bs _ _ hce).1, hced⟩
    · obtain ⟨_, rfl⟩ := lookC y c g
      exact (e0.bs _ _ hce).2
  have hXi : X.env = PySem.W.ksEnv qual scope s.heap.objs.size fI (.ref cda) cc := by rw [← hX]
  have hXA : A.deeper (PySem.W.ksEnv qual scope s.heap.objs.size fI (.ref cda) cc) = X.A := by rw [← hX]
  have hXp : model P w = model X.prog X.w := by rw [← hX]
  have TX : Sup X.prog X.K X.mg C fI nm qual params body scope sn xn fn := by rw [← hX]; exact T
  rw [hXp, hXA, ← hXi]
  have hl : X.env.func = some fI := by rw [hXi]
  subst hb
  obtain ⟨pl, hev⟩ := hev X.env
  refine ks_wpAt_execs_cons (ks_wpAt_mono (super_stmt (p0 := p0) (p1 := p1) (p2 := p2) (p3 := p3) (p4 := p4) (p5 := p5) TX I (by rw [← hX]) hx (by rw [← hX]) ⟨oc, dV, kV, doc, pm, ct, od, an, osl, cda, cc, cl, cld, csl, ccl, cdd, ccs, vs, file, tf, by rw [← hX]; exact l1, by rw [← hX]; exact l2, by rw [hXi]; exact List.lookup_cons_self, by rw [hXi], by rw [← hX]; exact l3, hv2, by rw [← hX]; exact hfile⟩ hl
    I.quiet rfl rfl rfl d1 d2 hev) (fun fl s4 ⟨e, J⟩ => ?_) fun _ _ z => ?_)
  · subst e
    refine wpAt_of_wpAny ?_
    have st : PSs X [.Assign [.Attribute (.Name sn p6) fn p7] (.Name xn p8) p9] (tOst X.K fn (tVar 0) (tVar 1)) :=
      pss_one (ps_ost (pe_var (by rw [← hX]; rfl) (.inl (by rw [hXi]; exact T.kS)) d3 d4) (pe_var (by rw [← hX]; rfl) (.inl (by rw [hXi]; exact T.kX)) d1 d2))
    refine wpAny_mono (st.run [] s4 _ H ⟨fun _ H' => Q .non H', fun _ _ => False, fun _ _ => False, fun _ _ => False⟩ J ⟨v, rfl, .ref a, rfl, a, C, rfl, TX.oex, TX.no, .inl ⟨hx, q⟩⟩) (fun fl s5 h5 => ?_) fun _ _ z => ?_
    · cases fl with
      | next =>
        obtain ⟨σ', H', J', q'⟩ := h5
        have J1 := J'.os
        have J2 := J'.base
        have J3 := J'.hok
        subst hX
        exact ⟨.non, H', J1, J'.bare, J2, J3, rfl, q'⟩
      | ret u => obtain ⟨_, _, _, _, _, z⟩ := h5; exact z.elim
      | brk => obtain ⟨_, _, _, z⟩ := h5; exact z.elim
      | cont => obtain ⟨_, _, _, z⟩ := h5; exact z.elim
    · subst hX; exact z.elim
  · subst hX; exact z.elim
end
end DL

set_option Elab.async false
set_option linter.all false
set_option maxRecDepth 100000
set_option autoImplicit false
set_option maxHeartbeats 2000000
/-! errors by values: raise, calls that raise, try .. except. -/
namespace DL
open PySem PySem.Spec PyProof.Rows L2
/-- an error class without an __init__ of its own -/
structure ErP (K : PySem.W.Frag) (mg : Str → Option Value) (x : Str) (C : Addr) : Prop where
  gm : mg x = some (.ref C)
  ex : PySem.W.excIn K C He.veBase "ValueError.__new__" = true
  kp : PySem.W.keepIn K (.ref C) = true
  sb : PySem.W.subIn K (.ref C) (.type "BaseException") = some true
  ty : PySem.W.typeIn K (.ref C) = some (.type "type")
/-- one whose __init__ stores its argument in the field fn -/
structure ErF (P : Program) (w : World) (K : PySem.W.Frag) (mg : Str → Option Value) (base : Heap) (x : Str) (C : Addr) (fn : Str) : Prop where
  gm : mg x = some (.ref C)
  oex : OexC K C
  ini : ∃ (fI : Addr) (fd : FuncData) (ps : List Str), PySem.W.findIn K (.ref C) "__init__" = some (some (.ref fI)) ∧ PySem.W.typeIn K (.ref fI) = some (.type "function") ∧ FnOk P w K mg base (L2.CX P w) 1 fI fd ps (spSup K C fn) ∧ Binds K fd ps []
def excP (C : Addr) : Exc := ⟨.ref C, none⟩
def excF (C : Addr) (fn : Str) (d : D) : Exc := ⟨.ref C, some [(fn, d)]⟩
section
variable {X : Cx} {W : WX} {ρ ρ' : Ev} {e a b c : Expr} {es : List Expr} {d d1 d2 : D} {ds ds1 ds2 : List D} {pos p p2 p3 : Pos} {st : Stmt} {A B body rest : List Stmt} {Post : Out → Prop} {C : Addr} {x fn : Str} {n : Nat} {S : List D → Res → Prop} {ex : Exc}
theorem dss_raiseP {m : Str} {j : Nat} (hc : X.calm = true) (tk : Takes X W) (G : ErP X.K X.mg x C) (h : Post (.rs (excP C) ρ)) (hg : Gl X x := by rfl) (hdb : (x == ("__debug__" : Str)) = false := by decide) :
    DSs X W ρ (.Raise (some (.Call (.Name x p) [.Constant (.str m) j p2] [] p3)) none pos :: rest) Post :=
  dss_end (PS.weak (ps_raise hc tk (pmk_own PySem.F.excBase_ValueError G.ex G.gm G.kp (raises_own G.sb G.ty) hg hdb)) fun B σ H ⟨F0, H0, F, o, f⟩ => f.rs _ _ _ _ _ _ _ ⟨rfl, h⟩ o ⟨rfl, rfl⟩)
theorem dss_raiseF (hc : X.calm = true) (tk : Takes X W) (hr : Room 2 X.A) (G : ErF X.prog X.w X.K X.mg X.base x C fn) (he : DE X ρ e d) (h : Post (.rs (excF C fn d) ρ)) (hg : Gl X x := by rfl) (hdb : (x == ("__debug__" : Str)) = false := by decide)
    (hs : starEach (e :: []) X.env = (false, eval e X.env) :: starEach [] X.env := by rfl) (hpl : (backTo p3 (starEach ([] : List Expr) X.env)).any (·.1) = false := by rfl) :
    DSs X W ρ (.Raise (some (.Call (.Name x p) [e] [] p3)) none pos :: rest) Post := by
  obtain ⟨fI, fd, ps, i1, i2, i3, i4⟩ := G.ini
  refine dss_end (PS.weak (ps_raise hc tk (pmk_oex G.oex i1 i2 i3 hr i4 .nil passL hg G.gm (pa_cons he pa_nil hs) hdb hs hpl)) fun B σ H ⟨F0, H0, F, o, f⟩ => ⟨F0, H0, F, o, fun y F1 H1 f1 r1 => ⟨by show 1 ≤ 1000; decide, fun q hq => ?_⟩⟩)
  refine ⟨q, y, rfl, upd_same, fun dx hdx ne => ⟨rfl, dx, [(fn, y)], upd_same, by rw [upd_ne ne, upd_same], ?_, ?_⟩⟩
  · rw [upd_ne ne] at hdx; exact hdx
  · rw [upd_ne ne] at hdx
    have eH : upd (del (upd (upd (upd H1 q (exo q C none)) dx (exd dx [(fn, y)])) q (exo q C (some dx))) q) dx (.xd [(fn, y)]) = upd H1 dx (.xd [(fn, y)]) := by
      funext b
      by_cases hb : b = dx
      · subst hb; rw [upd_same, upd_same]
      · rw [upd_ne hb, upd_ne hb]
        by_cases hq' : b = q
        · subst hq'; rw [del_same, hq]
        · rw [del_ne hq', upd_ne hq', upd_ne hb, upd_ne hq']
    rw [eH]
    have g := Fin.newO (F := F1) (u := .xd [(fn, y)]) f1.fh hdx
    exact f.rs _ _ _ _ _ _ _ ⟨rfl, h⟩ ((o.call f1).call g) ⟨rfl, dx, _, rfl, (o.call f1).fin.h0.free hdx, upd_same, y, [], rfl, r1, rfl⟩
/-! a call that raises -/
def tX (K : PySem.W.Frag) (W : WX) (ρ : Ev) (ex : Exc) : TE := fun σ H _ => ∃ F0 H0 F, Ok K F0 H0 F H σ ρ ∧ ∀ cls d F' H', Fin F H F' H' → ExOk K H F' ex cls d H' → W cls d σ H'
def DX (X : Cx) (W : WX) (ρ : Ev) (e : Expr) (ex : Exc) : Prop := PE X e (tX X.K W ρ ex)
theorem ExOk.older {K : PySem.W.Frag} {H0 H F' H' : Hp} {ex : Exc} {cls : Value} {d : Option Addr} (s : Same H0 H) (h : ExOk K H F' ex cls d H') : ExOk K H0 F' ex cls d H' := by
  obtain ⟨ec, ef⟩ := ex
  obtain ⟨h1, h2⟩ := h
  refine ⟨h1, ?_⟩
  cases ef with
  | none => exact h2
  | some fs => obtain ⟨a, gs, e, n, r⟩ := h2; exact ⟨a, gs, e, s.free n, r⟩
theorem dx_call (tk : Takes X W) (G : Fn X.prog X.w X.K X.mg X.base n x S) (hr : RoomG n X.A) (ha : DA X ρ (e :: es) ds) (h : S ds (.er ex)) (hg : Gl X x := by rfl) (hdb : (x == ("__debug__" : Str)) = false := by decide)
    (he : starEach (e :: es) X.env = (false, eval e X.env) :: starEach es X.env := by rfl) (hpl : (backTo pos (starEach es X.env)).any (·.1) = false := by rfl) : DX X W ρ (.Call (.Name x p) (e :: es) [] pos) ex := by
  obtain ⟨f, fd, ps, gm, gk, gb, G⟩ := G.ex
  refine PE.weak (pe_callG G hr hg gm gk gb (fun σ => passAt tk σ) ha hdb he hpl) fun σ H Q ⟨F0, H0, F, o, q⟩ => ⟨F0, H0, F, o, fun vs F1 H1 f1 r1 => ?_⟩
  exact ⟨F1, ds, .er ex, f1.fh, r1, h, fun cls d F' H' f2 r => q cls d F' H' (f1.trans f2) (r.older f1.h0)⟩
theorem dss_retX (he : DX X W ρ e ex) (h : Post (.rs ex ρ)) : DSs X W ρ (.Return (some e) pos :: rest) Post :=
  dss_end (PS.weak (ps_ret he) fun B σ H ⟨F0, H0, F, o, f⟩ => ⟨F0, H0, F, o, fun cls d F' H' f1 r => f.rs _ _ _ _ _ _ _ ⟨rfl, h⟩ (o.call f1) (r.older o.fin.h0)⟩)
theorem dss_exprX (he : DX X W ρ e ex) (h : Post (.rs ex ρ)) (hs : swapsWith e none pos.line X.env = pure false := by rfl) : DSs X W ρ (.Expr e pos :: rest) Post :=
  dss_end (PS.weak (ps_expr he hs) fun B σ H ⟨F0, H0, F, o, f⟩ => ⟨F0, H0, F, o, fun cls d F' H' f1 r => f.rs _ _ _ _ _ _ _ ⟨rfl, h⟩ (o.call f1) (r.older o.fin.h0)⟩)
theorem dss_setX {y : Str} {pos' : Pos} (i : Nat) (hN : X.N.Nodup) (he : DX X W ρ e ex) (h : Post (.rs ex ρ)) (hi : X.N[i]? = some y := by rfl) (hx : Loc X.env.scope y := by first | exact .inl rfl | exact .inr rfl) (hs : swapsWith e (some (.Name y pos')) pos.line X.env = pure false := by rfl) (hf : X.fn y = true ∨ X.env.scope.names.lookup y = some .local := by first | exact .inl rfl | exact .inr rfl) :
    DSs X W ρ (.Assign [.Name y pos'] e pos :: rest) Post :=
  dss_end (PS.weak (ps_set hN hi hx he hs hf) fun B σ H ⟨F0, H0, F, o, f⟩ => ⟨F0, H0, F, o, fun cls d F' H' f1 r => f.rs _ _ _ _ _ _ _ ⟨rfl, h⟩ (o.call f1) (r.older o.fin.h0)⟩)
/-! try .. except -/
abbrev W0 : WX := fun _ _ _ _ => False
def Out.rsd : Out → Bool
  | .rs _ _ => true
  | _ => false
/-- what the caught one is in its slot -/
def caught (a : Addr) (dd : Option Addr) (ex : Exc) : D := match ex.fs, dd with
  | some fs, some d => .xo a d fs
  | _, _ => .sc (.ref a)
/-- the suite of a clause, at the caught exception -/
def InSuite (X : Cx) (ex : Exc) (P : Addr → Option Addr → Obj → Cx → Prop) : Prop := ∀ (a : Addr) (dd : Option Addr) (oe : Obj) (pn : List (Addr × Obj)), (ex.fs = none → dd = none) → (ex.fs ≠ none → dd ≠ none) → Zc ex.cls dd oe → (∃ vs, oe.data = .fields vs) → P a dd oe (X.suite a ((a, oe) :: pn))
theorem ds_tryAs {y z : Str} {c : Value} {b₀ : Stmt} {suite : List Stmt} {np pos' : Pos} (i : Nat) (PostB : Out → Prop) (hN : X.N.Nodup) (hc : Names X y c) (tk : Takes X W)
    (hb : ∀ (V : WX) (pn : List (Addr × Obj)) (xe : Value → Shared → Prop), Takes (X.tr pn xe) V → PassesOwn (model X.prog X.w) X.A X.env xe → DSs (X.tr pn xe) V ρ body PostB)
    (hn : ∀ o, o.rsd = false → PostB o → Post o)
    (hx : ∀ ex ρ1, PostB (.rs ex ρ1) → ∃ k, PySem.W.exmOne X.K ex.cls c = some k ∧
      (k = true → InSuite X ex fun a dd oe Y => DSs Y W0 (ρ1.set i (.sh (caught a dd ex))) (b₀ :: suite) (fun o => match o with
        | .nx ρ2 => Post (.nx (ρ2.set i .un)) | .bk ρ2 => Post (.bk (ρ2.set i .un)) | .ct ρ2 => Post (.ct (ρ2.set i .un)) | .rt d => Post (.rt d) | .ro ds => Post (.ro ds) | .rs _ _ => False | .rtt t => Post (.rtt t))) ∧ (k = false → Post (.rs ex ρ1)))
    (hs : X.stack = X.env :: X.outer := by rfl) (hf : X.env.frame = some X.env.locals := by rfl) (hi : X.N[i]? = some z := by rfl) (hl : X.env.kindOf z = some .local := by rfl) :
    DS X W ρ (.Try body [.ExceptHandler (some (.Name y np)) (some z) (b₀ :: suite) pos'] [] [] pos) Post := by
  let SP : Addr → Value → Option Addr → Ev → (Out → Prop) → Prop := fun a cls dd ρ2 P => ∀ (oe : Obj) (pn : List (Addr × Obj)), Zc cls dd oe → (∃ vs, oe.data = .fields vs) → DSs (X.suite a ((a, oe) :: pn)) W0 ρ2 (b₀ :: suite) P
  refine PS.weak (ps_try_as (tb := fun V => tS X.K V ρ PostB) (ts := fun a cls dd B σ H => ∃ ρ2 P, SP a cls dd ρ2 P ∧ tS X.K W0 ρ2 P B σ H) hs hf hN hi hl hc tk hb fun a oe cls dd pn hz hfv => ⟨fun pins s σ H B I ⟨ρ2, P, h, q⟩ => (h oe pn hz hfv).run pins s σ H B I q⟩) fun B σ H ⟨F0, H0, F, o, f⟩ => ⟨F0, H0, F, o, ?_⟩
  refine ⟨fun ρ F H σ q => f.nx ρ F H σ (hn _ rfl q), fun ρ F H σ q => f.bk ρ F H σ (hn _ rfl q), fun ρ F H σ q => f.ct ρ F H σ (hn _ rfl q), fun d v F H q => f.rt d v F H (hn _ rfl q), fun ds p xs F H q => f.ro ds p xs F H (hn _ rfl q), fun ex ρ1 σ1 F1 H1 cls dd q o1 ok => ?_, fun t x fp F H q => f.rtt t x fp F H (hn _ rfl q)⟩
  obtain ⟨k, h1, h2, h3⟩ := hx ex ρ1 q
  refine ⟨k, by rw [ok.1]; exact h1, fun hk a ha => ?_, fun hk => f.rs ex ρ1 σ1 F1 H1 cls dd (h3 hk) o1 ok⟩
  have suite := h2 hk
  have go : ∀ {F2 : Hp}, Ok X.K F0 H0 F2 H1 (σ1.set i (some (.ref a))) (ρ1.set i (.sh (caught a dd ex))) → ((ex.fs = none → dd = none) ∧ (ex.fs ≠ none → dd ≠ none)) →
      ∃ ρ2 P, SP a cls dd ρ2 P ∧ tS X.K W0 ρ2 P { nx := fun σ' H' => B.nx (σ'.set i none) H', rt := B.rt, bk := fun σ' H' => B.bk (σ'.set i none) H', ct := fun σ' H' => B.ct (σ'.set i none) H' } (σ1.set i (some (.ref a))) H1 := fun {F2} o2 hdd => by
    refine ⟨_, _, fun oe pn hz hv => suite a dd oe pn hdd.1 hdd.2 (by rw [← ok.1]; exact hz) hv, F0, H0, F2, o2, ?_⟩
    exact ⟨fun ρ F H σ q u => f.nx _ _ _ _ q (u.put (i := i) (s := .un) (v := none) trivial fun a h => by cases h), fun ρ F H σ q u => f.bk _ _ _ _ q (u.put (i := i) (s := .un) (v := none) trivial fun a h => by cases h), fun ρ F H σ q u => f.ct _ _ _ _ q (u.put (i := i) (s := .un) (v := none) trivial fun a h => by cases h),
      fun d v F H q u => f.rt d v F H q u, fun ds p xs F H q u => f.ro ds p xs F H q u, fun x ρ σ F H c d q u => q.elim, fun t x fp F H q u => f.rtt t x fp F H q u⟩
  obtain ⟨ecls, efs⟩ := ex
  obtain ⟨oc, od⟩ := ok
  cases efs with
  | none =>
    have od : dd = none := od
    subst od
    exact go (o1.put (i := i) (s := .sh (.sc (.ref a))) ⟨_, rfl, rfl⟩ fun a h => by cases h) ⟨fun _ => rfl, fun h => absurd rfl h⟩
  | some fs =>
    obtain ⟨d', gs, rfl, h0, hd, rf⟩ := od
    by_cases hF : F1 d' = none
    · have nown : ∀ (j : Nat) (s : Sl) (w : Option V), ρ1[j]? = some s → σ1[j]? = some w → ¬ Ft X.K F1 H1 s w d' := fun j s w g1 g3 g2 => by
        have old := o1.sl j s w g1 g3
        cases s with
        | un => cases g2
        | sh d => cases g2
        | ow es => obtain ⟨q, ys, e', f1, _⟩ := old; cases e'; cases g2; rw [hd] at f1; cases f1
        | od es => obtain ⟨q, ys, e', f1, _⟩ := old; cases e'; cases g2; rw [hd] at f1; cases f1
        | ot t =>
          obtain ⟨x, fp, e, r, ha⟩ := g2
          obtain ⟨xs, h | h⟩ := r.kind d' ha <;> (rw [hd] at h; cases h)
      have sF : Same F1 (upd F1 d' (.xd gs)) := fun b w e => by rw [upd_ne (ne_of_none e hF)]; exact e
      have o2 : Ok X.K F0 H0 (upd F1 d' (.xd gs)) H1 σ1 ρ1 := by
        refine ⟨⟨o1.fin.f0.trans sF, o1.fin.h0, fun b w e => ?_, fun q h1 h2 => ?_⟩, o1.len, fun j s w g1 g2 => (o1.sl j s w g1 g2).grow2 sF (fun a _ => rfl) fun p hp => ?_, fun j l s t v w a hne g1 g2 g3 g4 g5 g6 => o1.ap j l s t v w a hne g1 g2 g3 g4 (.back' (o1.sl j s v g1 g3) (L2.Same.refl _) g5) (.back' (o1.sl l t w g2 g4) (L2.Same.refl _) g6)⟩
        · by_cases hb : b = d'
          · subst hb; rw [upd_same] at e; rw [hd]; exact e
          · rw [upd_ne hb] at e; exact o1.fin.fh _ _ e
        · have : q ≠ d' := fun z => by subst z; exact h2 h0
          rw [upd_ne this]; exact o1.fin.fr q h1 h2
        · have : p ≠ d' := fun z => by subst z; exact nown j s w g1 g2 hp
          rw [upd_ne this]; exact ((o1.sl j s w g1 g2).ft_at hp).2.1
      exact go (o2.put (i := i) (s := .sh (.xo a d' fs)) ⟨_, rfl, gs, rfl, upd_same, rf.mono sF⟩ fun a h => by cases h) ⟨fun h => (by cases h), fun _ h => (by cases h)⟩
    · have hF' : F1 d' = some (.xd gs) := by
        cases z : F1 d' with
        | none => exact absurd z hF
        | some w => rw [← o1.fin.fh _ _ z, hd]
      exact go (o1.put (i := i) (s := .sh (.xo a d' fs)) ⟨_, rfl, gs, rfl, hF', rf⟩ fun a h => by cases h) ⟨fun h => (by cases h), fun _ h => (by cases h)⟩
end
end DL

set_option Elab.async false
set_option linter.all false
set_option maxRecDepth 100000
set_option autoImplicit false
set_option maxHeartbeats 4000000
namespace DL
open PySem PySem.Spec PyProof.Rows L2
/-! ### the caught error: its field, its class -/
section
variable {X : Cx} {ρ : Ev} {a dd C : Addr} {oe : Obj} {pn : List (Addr × Obj)} {fs : List (Str × D)} {n x : Str} {d : D} {p pos p2 : Pos} {e : Expr} {b : Bool}
theorem de_xf (T : XfC X.K C) (hno : PySem.W.findIn X.K (.ref C) n = some none) (hz : Zc (.ref C) (some dd) oe) (hf : ∃ vs, oe.data = .fields vs) (he : DE (X.suite a ((a, oe) :: pn)) ρ e (.xo a dd fs)) (hl : fs.lookup n = some d)
    (hb : attributeBase e n X.env (eval e X.env) = eval e X.env := by rfl) : DE (X.suite a ((a, oe) :: pn)) ρ (.Attribute e n pos) d :=
  PE.weak (pe_xf T hno hz hf he hb) fun σ H Q ⟨F0, H0, F, o, q⟩ => ⟨F0, H0, F, o, fun v F' H' f ⟨gs, ev, hd, r⟩ => by
    obtain ⟨w, e1, e2⟩ := r.look hl
    exact ⟨ev, rfl, dd, gs, w, rfl, f.fh _ _ hd, e1, q w F' H' f e2⟩⟩
section
open PySem.W PySem.Calls
variable {prog : Program} {w : World} {A : Around} {E : Value → Shared → Prop} {s : Shared} {K : Frag} {y Cl : Addr} {ox : Obj} {od : Option Obj}
/-- the class of an error, whatever dict it has -/
theorem err_class {Q : Option Value → Shared → Prop} (T : ExcC K Cl) (X : K.In s.heap) (I : InstAt s.heap y ox Cl od) (h : Q (some (.ref Cl)) { s with toks := s.toks + 1 }) : wpAny (model prog w) A (getAttr? (.ref y) "__class__") Q E s := by
  have found : findObj K Cl od "__class__" = some (.bind (.builtin "getset_descriptor.__get__") (.builtin "object.__class__")) := by
    obtain ⟨cd, hc, _⟩ := any_some T.hd
    unfold findObj
    rw [hc, Option.bind_some, T.ha, Option.bind_some]
    simp [T.hn, T.ht]
  obtain ⟨hp, gs, dr, tk, oss⟩ := s
  have LT := I.type (M := model prog w)
  have LA := looks_findIn (M := model prog w) X T.hg
  have LG := looks_findIn (M := model prog w) X T.hk
  have LF := looks_find (M := model prog w) X I found
  have isB : Looks (model prog w) hp (isInstance (.ref y) (.type "BaseException")) true := LT.andThen (looks_subIn X T.hs)
  have z2 : (Value.builtin "BaseException.__getattribute__" == Value.builtin "object.__getattribute__") = false := by decide +kernel
  have z1 : (onTheHeap (Value.ref Cl) && Value.builtin "BaseException.__getattribute__" == Value.builtin "object.__getattribute__") = false := by rw [z2]; rfl
  unfold getAttr? getAttrBy? getAttrBy
  refine wpAny_bind (wpAny_mkText (wpAny_bind (wpAny_attempt (wpAny_holding (wpAny_bind (LT.at (wpAny_bind (LA.at ?_))))))))
  show wpAny _ _ (if (onTheHeap (Value.ref Cl) && Value.builtin "BaseException.__getattribute__" == Value.builtin "object.__getattribute__") = true then _ else _) _ _ _
  rw [z1, if_neg Bool.false_ne_true]
  unfold getAttrByItsOwn hookBefore
  refine wpAny_bind ?_
  have hh : onTheHeap (Value.ref Cl) = true := rfl
  rw [if_pos hh]
  refine LG.at ?_
  refine wpAny_bind (wpAny_attempt (wpAny_holding ?_))
  unfold callGetattribute
  have hz : (false && onTheHeap (Value.builtin "BaseException.__getattribute__")) = false := rfl
  rw [hz, if_neg Bool.false_ne_true]
  unfold boundAndCalled
  rw [PySem.F.excAttr_ValueError.ga.bind (.ref y)]
  refine wpAny_bind (wpAny_pure ?_)
  show wpAny _ _ (call (.builtin "BaseException.__getattribute__") [.ref y, .str "__class__" tk]) _ _ _
  refine wpAny_call (codeAny_call_builtin PySem.F.excAttr_ValueError.ga.plain PySem.F.entry_bexc_ga ?_)
  refine @check_slot (model prog w) _ _ ⟨hp, gs, dr, tk + 1, oss⟩ "BaseException.__getattribute__" "BaseException" "__getattribute__" (.ref y) [.str "__class__" tk] [] _ (by decide +kernel) (by decide +kernel) isB (PySem.F.args_bexc_ga (.ref y) (.str "__class__" tk)) ?_
  unfold Builtin.«object.__getattribute__»
  refine wpAny_bind (wpAny_of_eq (a := ((Value.ref y : Value), [Value.str "__class__" tk])) (by first | rfl | (simp only [slotArgs]; rfl)) ?_)
  refine wpAny_bind (wpAny_pure (wpAny_bind (LT.at (wpAny_bind (LF.at ?_)))))
  show wpAny _ _ (holding [Value.builtin "object.__class__"] (call (.builtin "getset_descriptor.__get__") [.builtin "object.__class__", .ref y, .ref Cl]) >>= ret) _ _ _
  refine wpAny_bind (wpAny_holding (wpAny_call (class_get (s := ⟨hp, gs, dr, tk + 1, oss⟩) (ox := ox) (od := od) X I T.hm ?_)))
  refine wpAny_pure ?_
  show wpAny _ _ (handedOut (.ref Cl)) _ _ _
  rw [handedOut_of (v := .ref Cl) rfl]
  first
    | exact wpAny_pure (wpAny_bind (wpAny_pure (wpAny_pure h)))
    | exact wpAny_pure (wpAny_pure h)
    | exact wpAny_pure h
theorem err_kit (T : ExcC K Cl) : KitX K (.ref y) (.ref Cl) (fun h => ∃ ox od, InstAt h y ox Cl od) where
  ty := fun _ _ _ ⟨_, _, I⟩ => I.type
  it := fun _ _ X _ => by
    obtain ⟨cd, hc, _⟩ := any_some T.hd
    unfold clsIn at hc
    split at hc
    · rename_i ho
      exact fun _ _ _ _ k q => by
        unfold isType loadHead
        exact wpAny_bind (wpAny_loadPart (k _ _ (X _ _ ho)) (wpAny_pure q))
    · cases hc
  ne := fun h tp _ _ _ _ X htp => by
    obtain ⟨cd, hc, _⟩ := any_some T.hd
    refine Bool.eq_false_iff.mpr fun q => ?_
    obtain rfl : Cl = tp := Value.ref.inj (beq_iff_eq.mp q)
    unfold clsIn at hc
    split at hc
    · rename_i ho
      cases (X _ _ ho).symm.trans htp
    · cases hc
  ca := fun X ⟨_, _, I⟩ k => err_class T X I k
end
def rErr (K : PySem.W.Frag) (Cl a : Addr) : List V → Hp → VK → Prop := fun xs H Q => ∃ (c : V) (cv : Value) (b : Bool), xs = [.ref a, c] ∧ (∀ u, RelV c u → u = cv) ∧ PySem.W.kitOne K (.ref Cl) cv = some b ∧ Q (.bl b) H
theorem call_err {odd : Option Addr} (T : ExcC X.K C) (hz : Zc (.ref C) odd oe) (hf : ∃ vs, oe.data = .fields vs) (hdd : ∀ d, odd = some d → True) : CallR (X.suite a ((a, oe) :: pn)) (.builtin "isinstance")
    (fun xs H Q => rErr X.K C a xs H Q ∧ (∀ d, odd = some d → ∃ u, H d = some u)) := by
  intro pins s σ H xs us Q I r ⟨⟨c, cv, b, e1, hcv, e, q⟩, hd⟩
  subst e1
  obtain ⟨u0, u1, rfl, r0, r1⟩ := vals2 r
  have r0 : u0 = Value.ref a := r0
  have r1 := hcv _ r1
  subst r0 r1
  obtain ⟨hget, _⟩ := I.pin (a, oe) (List.mem_append.mpr (.inl List.mem_cons_self))
  obtain ⟨vs, hv⟩ := hf
  have J : ∃ od, PySem.W.InstAt s.heap a oe C od := by
    cases odd with
    | none =>
      refine ⟨none, hget, hz.1, ?_, ?_⟩
      · unfold PySem.W.notCls; rw [hv]
      · rw [hz.2]; trivial
    | some d =>
      obtain ⟨u, hu⟩ := hd d rfl
      obtain ⟨o, ho⟩ := objOk_get (I.hok d _ hu)
      refine ⟨some o, hget, hz.1, ?_, ?_⟩
      · unfold PySem.W.notCls; rw [hv]
      · rw [hz.2]; exact ho
  obtain ⟨od, J⟩ := J
  exact PySem.W.kia_one (err_kit T) I.kIn ⟨oe, od, J⟩ e (fun z => nomatch z) fun tk => ⟨.bl b, H, I.kept (t' := tk) fun _ _ z => z, rfl, q⟩
end
section
variable {X : Cx} {ρ : Ev} {a C : Addr} {oe : Obj} {pn : List (Addr × Obj)} {fs : List (Str × D)} {d : D} {p pos : Pos} {e c : Expr} {b : Bool} {dd : Addr} {cv : V} {cu : Value}
/-- isinstance(e, C2), e the caught error -/
theorem de_isX (T : ExcC X.K C) (hz : Zc (.ref C) (some dd) oe) (hf : ∃ vs, oe.data = .fields vs) (hm : X.mg "isinstance" = none) (he : DE (X.suite a ((a, oe) :: pn)) ρ e (.xo a dd fs)) (hc : DE (X.suite a ((a, oe) :: pn)) ρ c (.sc cv)) (hcv : ∀ u, RelV cv u → u = cu) (hk : PySem.W.kitOne X.K (.ref C) cu = some b)
    (hs : starEach (e :: [c]) X.env = (false, eval e X.env) :: starEach [c] X.env := by rfl) (hs2 : starEach (c :: []) X.env = (false, eval c X.env) :: starEach [] X.env := by rfl) (hg : Gl X "isinstance" := by rfl) (hpl : (backTo pos (starEach [c] X.env)).any (·.1) = false := by rfl) :
    DE (X.suite a ((a, oe) :: pn)) ρ (.Call (.Name "isinstance" p) [e, c] [] pos) (.bl b) :=
  argsB (R := rD X.K (.bl b)) (call_err T hz hf fun _ _ => trivial) (pa_consG mD he (pa1 mD hc hs2) hs) hm b_isi (fun F H vs Q s ⟨y, ys, e1, ⟨gs, r1, hd, _⟩, ⟨z, zs, e2, r2, e3⟩⟩ q => by
    subst e3 e2 e1
    cases r1; cases r2
    exact ⟨⟨_, cu, b, rfl, hcv, hk, q _ rfl⟩, fun d' e => by cases e; exact ⟨_, s _ _ hd⟩⟩) hg (by decide) (by decide) hs hpl
theorem de_isX0 (T : ExcC X.K C) (hz : Zc (.ref C) none oe) (hf : ∃ vs, oe.data = .fields vs) (hm : X.mg "isinstance" = none) (he : DE (X.suite a ((a, oe) :: pn)) ρ e (.sc (.ref a))) (hc : DE (X.suite a ((a, oe) :: pn)) ρ c (.sc cv)) (hcv : ∀ u, RelV cv u → u = cu) (hk : PySem.W.kitOne X.K (.ref C) cu = some b)
    (hs : starEach (e :: [c]) X.env = (false, eval e X.env) :: starEach [c] X.env := by rfl) (hs2 : starEach (c :: []) X.env = (false, eval c X.env) :: starEach [] X.env := by rfl) (hg : Gl X "isinstance" := by rfl) (hpl : (backTo pos (starEach [c] X.env)).any (·.1) = false := by rfl) :
    DE (X.suite a ((a, oe) :: pn)) ρ (.Call (.Name "isinstance" p) [e, c] [] pos) (.bl b) :=
  argsB (R := rD X.K (.bl b)) (call_err T hz hf fun _ _ => trivial) (pa_consG mD he (pa1 mD hc hs2) hs) hm b_isi (fun F H vs Q s ⟨y, ys, e1, r1, ⟨z, zs, e2, r2, e3⟩⟩ q => by
    subst e3 e2 e1
    cases r1; cases r2
    exact ⟨⟨_, cu, b, rfl, hcv, hk, q _ rfl⟩, fun d' e => by cases e⟩) hg (by decide) (by decide) hs hpl
end

/-! ### a def by its body -/
/-- what the ends of a body are for the result r -/
def isRes : Res → Out → Prop
  | .sh d, .rt d' => d' = d
  | .sh d, .nx _ => d = .non
  | .sh (.lst ds), .ro ds' => ds' = ds
  | .ow ds, .ro ds' => ds' = ds
  | .er x, .rs x' _ => x' = x
  | .ot t, .rtt t' => t' = t
  | _, _ => False
def startE (N : List Str) (ds : List D) : Ev := ds.map .sh ++ List.replicate (N.length - ds.length) .un
theorem start_ok {K : PySem.W.Frag} {F H : Hp} {N : List Str} {ds : List D} {vs : List V} (s : Same F H) (r : Rps K F ds vs) : Ok K F H F H (start N vs) (startE N ds) := by
  refine ⟨.refl s, ?_, fun i t w h1 h2 => ?_, fun i j t u w z a hne h1 h2 _ _ h3 h4 => ?_⟩
  · unfold L2.start startE
    simp [r.length]
  · unfold startE at h1
    unfold L2.start at h2
    by_cases hi : i < ds.length
    · rw [List.getElem?_append_left (by simpa using hi), List.getElem?_map, List.getElem?_eq_getElem hi] at h1
      cases h1
      obtain ⟨v, e1, e2⟩ := r.get (i := i) (d := ds[i]) (by simp [hi])
      rw [List.getElem?_append_left (by rw [List.length_map, r.length]; exact hi), List.getElem?_map, e1] at h2
      cases h2
      exact ⟨v, rfl, e2⟩
    · rw [List.getElem?_append_right (by simpa using Nat.le_of_not_lt hi), List.getElem?_replicate] at h1
      split at h1
      · cases h1; trivial
      · cases h1
  · exfalso
    unfold startE at h1
    by_cases hi : i < ds.length
    · rw [List.getElem?_append_left (by simpa using hi), List.getElem?_map, List.getElem?_eq_getElem hi] at h1
      cases h1; cases h3
    · rw [List.getElem?_append_right (by simpa using Nat.le_of_not_lt hi), List.getElem?_replicate] at h1
      split at h1
      · cases h1; cases h3
      · cases h1
section
variable {P : Program} {w : World} {K : PySem.W.Frag} {mg : Str → Option Value} {base : Heap} {nm qual x : Str} {params : Arguments} {body : List Stmt} {scope : Scope} {f : Addr} {fd : FuncData} {N ps : List Str} {k : Nat} {S : List D → Res → Prop}
theorem fnok_mk (F : FunD K nm qual params body scope [] [] f fd) (sc : FnScope N ps scope) (len : ∀ ds r, S ds r → ds.length = ps.length)
    (h : ∀ (cdv : Value) (A : Around) (outer : List Env) (s : Shared) (H : Hp) (E : XK), RoomG k (A.deeper (envOfC qual scope s.heap.objs.size f cdv)) → ∀ ds r, S ds r →
      DSs (cxOf (L2.CX P w) P w K mg base N qual scope f cdv A outer s H E) (fun cls d _ H' => E cls d H') (startE N ds) body (isRes r)) : FnG P w K mg base (k + 1) f fd ps (spOf K S) := by
  refine fn_G F sc (fun ⟨F0, ds, r, s, rp, hs, _⟩ => by rw [rp.length]; exact len ds r hs) fun cdv A outer s H vs Q E hr ⟨F0, ds, r, sm, rp, hS, dl⟩ => ⟨_, h cdv A outer s H E hr ds r hS, F0, H, F0, start_ok sm rp, ?_⟩
  cases r with
  | sh d =>
    refine ⟨fun ρ F H σ q o => ?_, fun _ _ _ _ q => by cases d <;> exact q.elim, fun _ _ _ _ q => by cases d <;> exact q.elim, fun d' v F H' q o r => ?_, fun ds p xs F H' q o n e1 e2 r => ?_, fun _ _ _ _ _ _ _ q => by cases d <;> exact q.elim, fun _ _ _ _ _ q => by cases d <;> exact q.elim⟩
    · cases d with
      | non => exact dl _ _ _ o.fin rfl
      | _ => cases q
    · have q : d' = d := by cases d <;> exact q
      subst q
      exact dl _ _ _ o r
    · cases d with
      | lst es =>
        have q : ds = es := q
        subst q
        obtain ⟨s3, o3⟩ := o.share n e1 e2
        exact dl _ _ _ o3 ⟨p, xs, rfl, upd_same, r.mono s3⟩
      | _ => exact q.elim
  | ow es => exact ⟨fun _ _ _ _ q => q.elim, fun _ _ _ _ q => q.elim, fun _ _ _ _ q => q.elim, fun _ _ _ _ q => q.elim, fun ds p xs F H' q o n e1 e2 r => by
      have q : ds = es := q
      subst q
      exact dl p xs F H' o n e1 e2 r, fun _ _ _ _ _ _ _ q => q.elim, fun _ _ _ _ _ q => q.elim⟩
  | er x => exact ⟨fun _ _ _ _ q => q.elim, fun _ _ _ _ q => q.elim, fun _ _ _ _ q => q.elim, fun _ _ _ _ q => q.elim, fun _ _ _ _ _ q => q.elim, fun x' ρ σ F H' cls d q o ex => by
      have q : x' = x := q
      subst q
      exact dl cls d F H' o.fin ex, fun _ _ _ _ _ q => q.elim⟩
  | ot t => exact ⟨fun _ _ _ _ q => q.elim, fun _ _ _ _ q => q.elim, fun _ _ _ _ q => q.elim, fun _ _ _ _ q => q.elim, fun _ _ _ _ _ q => q.elim, fun _ _ _ _ _ _ _ q => q.elim, fun t' x fp F H' q o r nd n => by
      have q : t' = t := q
      subst q
      exact dl x fp F H' o r nd n⟩
theorem fn_mk (F : FunD K nm qual params body scope [] [] f fd) (sc : FnScope N ps scope) (gm : mg x = some (.ref f)) (hb : Binds K fd ps []) (len : ∀ ds r, S ds r → ds.length = ps.length)
    (h : ∀ (cdv : Value) (A : Around) (outer : List Env) (s : Shared) (H : Hp) (E : XK), RoomG k (A.deeper (envOfC qual scope s.heap.objs.size f cdv)) → ∀ ds r, S ds r →
      DSs (cxOf (L2.CX P w) P w K mg base N qual scope f cdv A outer s H E) (fun cls d _ H' => E cls d H') (startE N ds) body (isRes r)) : Fn P w K mg base (k + 1) x S := ⟨f, fd, ps, gm, F.kp, hb, fnok_mk F sc len h⟩
/-- a higher level -/
theorem Fn.up {j : Nat} (G : Fn P w K mg base k x S) (h : k ≤ j) : Fn P w K mg base j x S := by
  obtain ⟨f, fd, ps, g1, g2, g3, g4⟩ := G.ex
  exact ⟨f, fd, ps, g1, g2, g3, g4.rise h⟩
theorem Fn.sub {S' : List D → Res → Prop} (G : Fn P w K mg base k x S) (h : ∀ ds r, S' ds r → S ds r) : Fn P w K mg base k x S' := by
  obtain ⟨f, fd, ps, g1, g2, g3, g4⟩ := G.ex
  exact ⟨f, fd, ps, g1, g2, g3, g4.weak fun vs H Q E ⟨F, ds, r, a, b, c, d⟩ => ⟨F, ds, r, a, b, h ds r c, d⟩⟩
end
/-! ### the law -/
def lawS : List D → Res → Prop := fun ds r => ∃ ns : List Int, ns.length ≤ 63 ∧ ds = [.ro (iD ns)] ∧ r = .sh (.bl true)
abbrev spLaw (K : PySem.W.Frag) : Sp := spOf K lawS
theorem law_sp {K : PySem.W.Frag} {H : Hp} {a : Addr} {ns : List Int} (hl : ns.length ≤ 63) (h : SqL K H a (ns.map V.int)) : spLaw K [.ref a] H (fun v _ => v = .bl true) E0 :=
  ⟨H, [.ro (iD ns)], .sh (.bl true), L2.Same.refl _, ⟨.ref a, [], rfl, ⟨a, _, rfl, h, Rps.ints.mpr rfl⟩, rfl⟩, ⟨ns, hl, rfl, rfl⟩, fun v F' H' _ r => r⟩
end DL

set_option Elab.async false
set_option linter.all false
set_option maxRecDepth 100000
set_option autoImplicit false
/-! Expressions as functions of the slots: what an expression gives, if anything. -/
namespace DL
open PySem PySem.Spec PyProof.Rows L2

/-- a value, a new list, a list owned by a slot -/
inductive R where
  | v (d : D) | n (ds : List D) | r (ds : List D)
def R.d : R → Option D
  | .v d => some d
  | .n ds => some (.lst ds)
  | .r _ => none
def R.l : R → Option (List D)
  | .v (.lst ds) => some ds
  | .n ds => some ds
  | .r ds => some ds
  | _ => none
def R.q : R → Option (List D)
  | .v (.lst ds) => some ds
  | .v (.ro ds) => some ds
  | .n ds => some ds
  | .r ds => some ds
  | _ => none
def R.b : R → Option (List D)
  | .v (.lst ds) => some ds
  | .v (.ro ds) => some ds
  | .v (.tup ds) => some ds
  | .n ds => some ds
  | .r ds => some ds
  | _ => none
def R.p : R → Option PyData
  | .v d => if plain d then some (py d) else none
  | .n ds => if plains ds then some (.list (pys ds)) else none
  | .r ds => if plains ds then some (.list (pys ds)) else none
def R.t : R → Option Bool
  | .v (.bl b) => some b
  | _ => none
abbrev vI (i : Int) : Option R := some (.v (.int i))
abbrev vB (b : Bool) : Option R := some (.v (.bl b))
abbrev vS (s : Str) : Option R := some (.v (.str s))
abbrev vD (d : D) : Option R := some (.v d)
abbrev vN (ds : List D) : Option R := some (.n ds)
def o2 {α β γ : Type} (f : α → β → Option γ) (a : Option α) (b : Option β) : Option γ := match a, b with
  | some x, some y => f x y
  | _, _ => none
@[simp] theorem o2_some {α β γ : Type} (f : α → β → Option γ) (x : α) (y : β) : o2 f (some x) (some y) = f x y := rfl
theorem o2_eq {α β γ : Type} {f : α → β → Option γ} {a : Option α} {b : Option β} {c : γ} (h : o2 f a b = some c) : ∃ x y, a = some x ∧ b = some y ∧ f x y = some c := by
  cases a with
  | none => cases h
  | some x => cases b with
    | none => cases h
    | some y => exact ⟨x, y, rfl, rfl, h⟩

def DR (X : Cx) (ρ : Ev) (e : Expr) : R → Prop
  | .v d => DE X ρ e d
  | .n ds => DN X ρ e ds
  | .r ds => DL X ρ e ds
def OE (X : Cx) (ρ : Ev) (e : Expr) (o : Option R) : Prop := ∀ r, o = some r → DR X ρ e r
def OT (X : Cx) (ρ : Ev) (e : Expr) (o : Option Bool) : Prop := ∀ b, o = some b → DT X ρ e b
def OW (X : Cx) (ρ : Ev) (e : Expr) (o : Option Bool) : Prop := ∀ b, o = some b → DW X ρ e b
def OC (X : Cx) (ρ : Ev) (op : CmpOp) (a b : Expr) (o : Option Bool) : Prop := ∀ k, o = some k → DC X ρ op a b k
def OA (X : Cx) (ρ : Ev) (es : List Expr) (o : Option (List D)) : Prop := ∀ ds, o = some ds → DA X ρ es ds
def OO (X : Cx) (ρ : Ev) (e : Option Expr) (o : Option (Option Int)) : Prop := ∀ i, o = some i → DO X ρ e i
/-- what every text asks of the place -/
structure Ge (n : Nat) (X : Cx) : Prop where
  nd : X.N.Nodup
  calm : X.calm = true
  room : RoomG n X.A
theorem Ge.blk {n : Nat} {X : Cx} (g : Ge n X) {s : Shared} {H : Hp} {scope : Scope} {cenv : Env} {fp : List Addr} : Ge n (X.blk s H scope cenv fp) := ⟨g.nd, g.calm, g.room⟩

section
variable {X : Cx} {ρ : Ev} {e a b c : Expr} {es : List Expr} {d d1 d2 : D} {ds : List D} {pos p p2 : Pos} {oa ob oc : Option R} {r : R} {n : Nat}
theorem OE.toD (h : OE X ρ e oa) (q : oa.bind R.d = some d) : DE X ρ e d := by
  cases oa with
  | none => cases q
  | some r => cases r with
    | v d' => cases q; exact h _ rfl
    | n ds => cases q; exact DN.de (h _ rfl)
    | r ds => cases q
theorem DR.toD (h : DR X ρ e r) (q : r.d = some d) : DE X ρ e d := by
  cases r with
  | v d' => cases q; exact h
  | n ds => cases q; exact DN.de h
  | r ds => cases q
theorem DR.toL (h : DR X ρ e r) (q : r.l = some ds) : DL X ρ e ds := by
  cases r with
  | v d' => cases d' <;> first | (cases q; exact DE.dl h) | cases q
  | n ds => cases q; exact DN.dl h
  | r ds => cases q; exact h
theorem DR.toQ (h : DR X ρ e r) (q : r.q = some ds) : DQ X ρ e ds := by
  cases r with
  | v d' => cases d' <;> first | (cases q; exact DE.dq h) | (cases q; exact DE.ro h) | cases q
  | n ds => cases q; exact DN.q h
  | r ds => cases q; exact DL.q h
theorem DR.toB (h : DR X ρ e r) (q : r.b = some ds) : DB X ρ e ds := by
  cases r with
  | v d' => cases d' <;> first | (cases q; exact (DE.dq h).db) | (cases q; exact (DE.ro h).db) | (cases q; exact (DE.du h).db) | cases q
  | n ds => cases q; exact (DN.q h).db
  | r ds => cases q; exact (DL.q h).db
theorem DR.toP {z : PyData} (h : DR X ρ e r) (q : r.p = some z) : DP X ρ e z := by
  cases r with
  | v d' =>
    have q : (if plain d' then some (py d') else none) = some z := q
    split at q
    · rename_i hp; cases q; exact DE.dp h hp
    · cases q
  | n ds =>
    have q : (if plains ds then some (PyData.list (pys ds)) else none) = some z := q
    split at q
    · rename_i hp; cases q; exact DN.dp h hp
    · cases q
  | r ds =>
    have q : (if plains ds then some (PyData.list (pys ds)) else none) = some z := q
    split at q
    · rename_i hp; cases q; exact DL.dp h hp
    · cases q

/-! names, constants -/
def varR (ρ : Ev) (i : Nat) : Option R := match ρ[i]? with
  | some (.sh d) => some (.v d)
  | some (.ow ds) => some (.r ds)
  | _ => none
theorem oe_var (i : Nat) {x : Str} (hN : X.N[i]? = some x := by rfl) (hv : Vis X.env.scope x := by first | exact Or.inl rfl | exact Or.inr (Or.inl rfl) | exact Or.inr (Or.inr rfl)) (hd : (x == ("__debug__" : Str)) = false := by decide)
    (hcd : (x == ("__classdict__" : Str)) = false := by decide) : OE X ρ (.Name x pos) (varR ρ i) := fun r h => by
  unfold varR at h
  split at h
  · rename_i d e; cases h; exact de_var i e hN hv hd hcd
  · rename_i d e; cases h; exact dl_var i e hN hv hd hcd
  · cases h
theorem oe_int {i j} : OE X ρ (.Constant (.int i) j pos) (vI i) := fun r h => by cases h; exact de_int
theorem oe_bl {b j} : OE X ρ (.Constant (.bool b) j pos) (vB b) := fun r h => by cases h; exact de_bl
theorem oe_non {j} : OE X ρ (.Constant .none j pos) (vD .non) := fun r h => by cases h; exact de_non
theorem oe_str {x j} : OE X ρ (.Constant (.str x) j pos) (vS x) := fun r h => by cases h; exact de_str
/-- a module's name for d -/
def Gd (X : Cx) (x : Str) (d : D) : Prop := ∃ v u, X.mg x = some u ∧ RelV v u ∧ ∀ F, Rp X.K F d v
theorem oe_glob {x : Str} (h : Gd X x d) (hg : Gl X x := by rfl) (hd : (x == ("__debug__" : Str)) = false := by decide) : OE X ρ (.Name x pos) (vD d) := fun r q => by
  cases q
  obtain ⟨v, u, hm, rv, rp⟩ := h
  exact de_glob hg hm rv rp hd

/-! operators -/
instance {i j : Int} : Decidable (CShl i j) := by unfold CShl; infer_instance
abbrev ii (f : Int → Int → Option R) : R → R → Option R := fun x y => match x, y with
  | .v (.int i), .v (.int j) => f i j
  | _, _ => none
theorem ii_eq {f : Int → Int → Option R} {x y r : R} (h : ii f x y = some r) : ∃ i j, x = .v (.int i) ∧ y = .v (.int j) ∧ f i j = some r := by
  unfold ii at h
  split at h
  · exact ⟨_, _, rfl, rfl, h⟩
  · cases h
def addR (x y : R) : Option R := match x, y with
  | .v (.int i), .v (.int j) => vI (i + j)
  | .v (.str i), .v (.str j) => if i.length + j.length ≤ sizeLine then vS (i ++ j) else none
  | .v (.tup i), .v (.tup j) => if i.length + j.length ≤ sizeLine then vD (.tup (i ++ j)) else none
  | x, y => o2 (fun i j => if i.length + j.length ≤ sizeLine then vN (i ++ j) else none) x.l y.l
@[simp] theorem addR_ii {i j : Int} : addR (.v (.int i)) (.v (.int j)) = vI (i + j) := rfl
def subR : R → R → Option R := ii fun i j => vI (i - j)
def mulR (x y : R) : Option R := match x, y with
  | .v (.int i), .v (.int j) => if (i.natAbs < 18446744073709551616 ∨ j.natAbs < 18446744073709551616) ∨ i.natAbs.log2 + j.natAbs.log2 < 1000000 then vI (i * j) else none
  | x, y => o2 (fun ds j => match j with
    | .v (.int j) => if j.natAbs < 9223372036854775808 ∧ ds.length * j.toNat ≤ sizeLine then vN (List.replicate j.toNat ds).flatten else none
    | _ => none) x.l (some y)
def divR : R → R → Option R := ii fun i j => if j ≠ 0 ∧ (j.natAbs < 1073741824 ∨ j.natAbs.log2 < 9000) then vI (if 0 < j then i / j else i.fdiv j) else none
def modR : R → R → Option R := ii fun i j => if j ≠ 0 then vI (if 0 < j then i % j else i.fmod j) else none
def powR : R → R → Option R := ii fun i j => if 0 ≤ j ∧ j ≤ 1000000 ∧ i.natAbs < 2 ^ 64 then vI (i ^ j.toNat) else none
def shlR : R → R → Option R := ii fun i j => if 0 ≤ j ∧ Builtin.Int.intBits i + j.natAbs ≤ 134217728 then vI (i * 2 ^ j.toNat) else none
theorem cshl_of {i j : Int} (h : 0 ≤ j ∧ Builtin.Int.intBits i + j.natAbs ≤ 134217728) : CShl i j := by
  refine ⟨h.1, ?_⟩
  have e : (2 : Int) ^ 27 = 134217728 := rfl
  rw [e]
  have := h.2
  have := h.1
  generalize Builtin.Int.intBits i = n at *
  omega
def shrR : R → R → Option R := ii fun i j => if 0 ≤ j then vI (i / 2 ^ j.toNat) else none
def andR : R → R → Option R := ii fun i j => vI (Builtin.bitAnd i j)
def orR : R → R → Option R := ii fun i j => vI (Builtin.bitOr i j)
def xorR : R → R → Option R := ii fun i j => vI (Builtin.bitXor i j)

theorem oe_add (ha : OE X ρ a oa) (hb : OE X ρ b ob) : OE X ρ (.BinOp a .Add b pos) (o2 addR oa ob) := fun r h => by
  obtain ⟨x, y, rfl, rfl, k⟩ := o2_eq h
  have ha := ha _ rfl
  have hb := hb _ rfl
  unfold addR at k
  split at k
  · cases k; exact de_add ha hb
  · split at k
    · rename_i q; cases k; exact de_catS ha hb q
    · cases k
  · split at k
    · rename_i i j q
      cases k
      refine PE.weak (pe_op op_catA ha hb) fun σ H Q ⟨F0, H0, F, o, w⟩ => ⟨F0, H0, F, o, fun x F1 H1 f1 r1 => ⟨F0, H0, F1, o.call f1, fun y F2 H2 f2 r2 => ?_⟩⟩
      obtain ⟨l, xs, e1, h1, r1⟩ := mD _ _ _ _ _ f2 r1
      obtain ⟨m, ys, e2, h2, r2⟩ := r2
      refine ⟨l, m, xs, ys, e1, e2, Same.tup f2.fh h1, Same.tup f2.fh h2, by rw [r1.length, r2.length]; exact q, fun z => ?_, fun _ z => ?_, fun _ _ p hp => ?_⟩
      · exact w _ _ _ (f1.trans f2) ⟨m, ys, rfl, h2, by have := r1.append r2; rw [z] at this; exact this⟩
      · exact w _ _ _ (f1.trans f2) ⟨l, xs, rfl, h1, by have := r1.append r2; rw [z, List.append_nil] at this; exact this⟩
      · have g1 := Fin.newS (u := .tup (xs ++ ys)) f2.fh hp
        exact w _ _ _ ((f1.trans f2).trans g1) ⟨p, _, rfl, .inl (.inl upd_same), Rps.mono g1.f0 (r1.append r2)⟩
    · cases k
  · obtain ⟨i, j, e1, e2, k⟩ := o2_eq k
    split at k
    · rename_i q; cases k; exact dn_cat (ha.toL e1) (hb.toL e2) q
    · cases k
theorem oe_sub (ha : OE X ρ a oa) (hb : OE X ρ b ob) : OE X ρ (.BinOp a .Sub b pos) (o2 subR oa ob) := fun r h => by
  obtain ⟨x, y, rfl, rfl, k⟩ := o2_eq h
  obtain ⟨i, j, rfl, rfl, k2⟩ := ii_eq k
  cases k2
  exact de_sub (ha _ rfl) (hb _ rfl)
theorem oe_mul (ha : OE X ρ a oa) (hb : OE X ρ b ob) : OE X ρ (.BinOp a .Mult b pos) (o2 mulR oa ob) := fun r h => by
  obtain ⟨x, y, rfl, rfl, k⟩ := o2_eq h
  have ha := ha _ rfl
  have hb := hb _ rfl
  unfold mulR at k
  split at k
  · split at k
    · rename_i q
      cases k
      rcases q with (q | q) | q
      · exact de_mul ha hb (.inl (by omega))
      · exact de_mul ha hb (.inr (by omega))
      · exact de_opI op_mulW ha hb q fun _ => rfl
    · cases k
  · obtain ⟨i, j, e1, e2, k⟩ := o2_eq k
    cases e2
    split at k
    · split at k
      · rename_i q; cases k; exact dn_rep (ha.toL e1) hb (by have := q.1; omega) (by have := q.1; omega) q.2
      · cases k
    · cases k
theorem op_div1 : OpR X (binaryOp .FloorDiv) (rI (fun _ j => j ≠ 0 ∧ (j.natAbs < 1073741824 ∨ j.natAbs.log2 < 9000)) fun i j => .int (if 0 < j then i / j else i.fdiv j)) := opI fun i j _ _ _ _ _ hc q => by
  refine floordiv_int hc.1 ?_ (.inl (hc.2.elim (fun h => PyProof.noPylong_small h) fun h => PyProof.noPylong_of_log2 h))
  by_cases z : 0 < j
  · rw [if_pos z] at q
    rw [Int.fdiv_eq_ediv_of_nonneg i (by omega)]
    exact q
  · rw [if_neg z] at q
    exact q
theorem op_mod1 : OpR X (binaryOp .Mod) (rI (fun _ j => j ≠ 0) fun i j => .int (if 0 < j then i % j else i.fmod j)) := opI fun i j _ _ _ _ _ hc q => by
  refine mod_int' hc ?_
  by_cases z : 0 < j
  · rw [if_pos z] at q
    rw [Int.fmod_eq_emod_of_nonneg i (by omega)]
    exact q
  · rw [if_neg z] at q
    exact q
theorem oe_div (ha : OE X ρ a oa) (hb : OE X ρ b ob) : OE X ρ (.BinOp a .FloorDiv b pos) (o2 divR oa ob) := fun r h => by
  obtain ⟨x, y, rfl, rfl, k⟩ := o2_eq h
  obtain ⟨i, j, rfl, rfl, k2⟩ := ii_eq k
  split at k2
  · rename_i q; cases k2; exact de_opI op_div1 (ha _ rfl) (hb _ rfl) q fun _ => rfl
  · cases k2
theorem oe_mod (ha : OE X ρ a oa) (hb : OE X ρ b ob) : OE X ρ (.BinOp a .Mod b pos) (o2 modR oa ob) := fun r h => by
  obtain ⟨x, y, rfl, rfl, k⟩ := o2_eq h
  obtain ⟨i, j, rfl, rfl, k2⟩ := ii_eq k
  split at k2
  · rename_i q; cases k2; exact de_opI op_mod1 (ha _ rfl) (hb _ rfl) q fun _ => rfl
  · cases k2
theorem oe_pow (ha : OE X ρ a oa) (hb : OE X ρ b ob) : OE X ρ (.BinOp a .Pow b pos) (o2 powR oa ob) := fun r h => by
  obtain ⟨x, y, rfl, rfl, k⟩ := o2_eq h
  obtain ⟨i, j, rfl, rfl, k2⟩ := ii_eq k
  split at k2
  · rename_i q; cases k2; exact de_pow (ha _ rfl) (hb _ rfl) q
  · cases k2
theorem oe_shl (ha : OE X ρ a oa) (hb : OE X ρ b ob) : OE X ρ (.BinOp a .LShift b pos) (o2 shlR oa ob) := fun r h => by
  obtain ⟨x, y, rfl, rfl, k⟩ := o2_eq h
  obtain ⟨i, j, rfl, rfl, k2⟩ := ii_eq k
  split at k2
  · rename_i q; cases k2; exact de_opI op_shlW (ha _ rfl) (hb _ rfl) (cshl_of q) fun _ => rfl
  · cases k2
theorem oe_shr (ha : OE X ρ a oa) (hb : OE X ρ b ob) : OE X ρ (.BinOp a .RShift b pos) (o2 shrR oa ob) := fun r h => by
  obtain ⟨x, y, rfl, rfl, k⟩ := o2_eq h
  obtain ⟨i, j, rfl, rfl, k2⟩ := ii_eq k
  split at k2
  · rename_i q; cases k2; exact de_shr (ha _ rfl) (hb _ rfl) q
  · cases k2
theorem oe_band (ha : OE X ρ a oa) (hb : OE X ρ b ob) : OE X ρ (.BinOp a .BitAnd b pos) (o2 andR oa ob) := fun r h => by
  obtain ⟨x, y, rfl, rfl, k⟩ := o2_eq h
  obtain ⟨i, j, rfl, rfl, k2⟩ := ii_eq k
  cases k2
  exact de_band (ha _ rfl) (hb _ rfl)
theorem oe_bor (ha : OE X ρ a oa) (hb : OE X ρ b ob) : OE X ρ (.BinOp a .BitOr b pos) (o2 orR oa ob) := fun r h => by
  obtain ⟨x, y, rfl, rfl, k⟩ := o2_eq h
  obtain ⟨i, j, rfl, rfl, k2⟩ := ii_eq k
  cases k2
  exact de_bor (ha _ rfl) (hb _ rfl)
theorem oe_bxor (ha : OE X ρ a oa) (hb : OE X ρ b ob) : OE X ρ (.BinOp a .BitXor b pos) (o2 xorR oa ob) := fun r h => by
  obtain ⟨x, y, rfl, rfl, k⟩ := o2_eq h
  obtain ⟨i, j, rfl, rfl, k2⟩ := ii_eq k
  cases k2
  exact de_bxor (ha _ rfl) (hb _ rfl)
def negR : R → Option R
  | .v (.int i) => vI (-i)
  | _ => none
theorem oe_neg (ha : OE X ρ a oa) : OE X ρ (.UnaryOp .USub a pos) (oa.bind negR) := fun r h => by
  cases oa with
  | none => cases h
  | some x =>
    change negR x = some r at h
    unfold negR at h
    split at h
    · cases h; exact de_neg (ha _ rfl)
    · cases h
end
end DL

set_option Elab.async false
set_option linter.all false
set_option maxRecDepth 100000
set_option autoImplicit false
namespace DL
open PySem PySem.Spec PyProof.Rows L2

section
variable {X : Cx} {ρ : Ev} {e a b c : Expr} {es : List Expr} {d d1 d2 : D} {ds : List D} {pos p p2 : Pos} {oa ob oc : Option R} {r : R} {n : Nat}
/-! comparisons -/
def bO (o : Option Bool) : Option R := o.map fun b => .v (.bl b)
@[simp] theorem bO_some (b : Bool) : bO (some b) = vB b := rfl
abbrev jj (f : Int → Int → Bool) : R → R → Option Bool := fun x y => match x, y with
  | .v (.int i), .v (.int j) => some (f i j)
  | _, _ => none
theorem jj_eq {f : Int → Int → Bool} {x y : R} {r : Bool} (h : jj f x y = some r) : ∃ i j, x = .v (.int i) ∧ y = .v (.int j) ∧ f i j = r := by
  unfold jj at h
  split at h
  · exact ⟨_, _, rfl, rfl, Option.some.inj h⟩
  · cases h
def ltR : R → R → Option Bool := jj fun i j => decide (i < j)
def leR : R → R → Option Bool := jj fun i j => decide (i ≤ j)
def gtR : R → R → Option Bool := jj fun i j => decide (j < i)
def geR : R → R → Option Bool := jj fun i j => decide (j ≤ i)
def eqR (x y : R) : Option Bool := match x, y with
  | .v (.int i), .v (.int j) => some (decide (i = j))
  | .v (.str i), .v (.str j) => some (decide (i = j))
  | .v (.bl i), .v (.bl j) => some (decide (i = j))
  | x, y => o2 (fun z w => if SeqAt.shaped z = true ∧ SeqAt.shaped w = true then some (PyData.eqv z w) else none) x.p y.p
def neR (x y : R) : Option Bool := (eqR x y).map (!·)
def isR (x y : R) : Option Bool := match x, y with
  | .v (.bl i), .v (.bl j) => some (decide (i = j))
  | x, .v .non => x.d.map isN
  | _, _ => none
def isnR (x y : R) : Option Bool := (isR x y).map (!·)
def inR (x y : R) : Option Bool := match x, y with
  | .v (.str i), .v (.str j) => some (!(Builtin.Str.occurrences j i 0 j.length 1).isEmpty)
  | .v d, y => y.b.bind fun ds => if fl d = true ∧ ds.all fl = true then some (isIn d ds) else none
  | _, _ => none
def ninR (x y : R) : Option Bool := (inR x y).map (!·)
theorem oc_lt (ha : OE X ρ a oa) (hb : OE X ρ b ob) : OC X ρ .Lt a b (o2 ltR oa ob) := fun r h => by
  obtain ⟨x, y, rfl, rfl, k⟩ := o2_eq h
  obtain ⟨i, j, rfl, rfl, rfl⟩ := jj_eq k
  exact dc_lt (ha _ rfl) (hb _ rfl)
theorem oc_le (ha : OE X ρ a oa) (hb : OE X ρ b ob) : OC X ρ .LtE a b (o2 leR oa ob) := fun r h => by
  obtain ⟨x, y, rfl, rfl, k⟩ := o2_eq h
  obtain ⟨i, j, rfl, rfl, rfl⟩ := jj_eq k
  exact dc_le (ha _ rfl) (hb _ rfl)
theorem oc_gt (ha : OE X ρ a oa) (hb : OE X ρ b ob) : OC X ρ .Gt a b (o2 gtR oa ob) := fun r h => by
  obtain ⟨x, y, rfl, rfl, k⟩ := o2_eq h
  obtain ⟨i, j, rfl, rfl, rfl⟩ := jj_eq k
  exact dc_gt (ha _ rfl) (hb _ rfl)
theorem oc_ge (ha : OE X ρ a oa) (hb : OE X ρ b ob) : OC X ρ .GtE a b (o2 geR oa ob) := fun r h => by
  obtain ⟨x, y, rfl, rfl, k⟩ := o2_eq h
  obtain ⟨i, j, rfl, rfl, rfl⟩ := jj_eq k
  exact dc_ge (ha _ rfl) (hb _ rfl)
theorem oc_eq (g : Ge n X) (ha : OE X ρ a oa) (hb : OE X ρ b ob) : OC X ρ .Eq a b (o2 eqR oa ob) := fun r h => by
  obtain ⟨x, y, rfl, rfl, k⟩ := o2_eq h
  have ha := ha _ rfl
  have hb := hb _ rfl
  unfold eqR at k
  split at k
  · cases k; exact dc_eqI ha hb
  · cases k; exact dc_eqS ha hb
  · cases k; exact dc_eqB ha hb
  · obtain ⟨z, w, e1, e2, k⟩ := o2_eq k
    split at k
    · rename_i q; cases k; exact dc_eqP g.room.toRoom (ha.toP e1) (hb.toP e2) q.1 q.2
    · cases k
theorem oc_ne (g : Ge n X) (ha : OE X ρ a oa) (hb : OE X ρ b ob) : OC X ρ .NotEq a b (o2 neR oa ob) := fun r h => by
  obtain ⟨x, y, rfl, rfl, k⟩ := o2_eq h
  have ha := ha _ rfl
  have hb := hb _ rfl
  obtain ⟨t, m, rfl⟩ := Option.map_eq_some_iff.mp k
  unfold eqR at m
  split at m
  · cases m; exact dc_neI ha hb
  · cases m; exact dc_neS ha hb
  · cases m; exact dc_neB ha hb
  · obtain ⟨z, w, e1, e2, m⟩ := o2_eq m
    split at m
    · rename_i q; cases m; exact dc_neP g.room.toRoom (ha.toP e1) (hb.toP e2) q.1 q.2
    · cases m
theorem oc_is (ha : OE X ρ a oa) (hb : OE X ρ b ob) : OC X ρ .Is a b (o2 isR oa ob) := fun r h => by
  obtain ⟨x, y, rfl, rfl, k⟩ := o2_eq h
  have ha := ha _ rfl
  have hb := hb _ rfl
  unfold isR at k
  split at k
  · cases k; exact dc_isB ha hb
  · obtain ⟨d, e1, rfl⟩ := Option.map_eq_some_iff.mp k
    exact dc_isN (ha.toD e1) hb
  · cases k
theorem oc_isn (ha : OE X ρ a oa) (hb : OE X ρ b ob) : OC X ρ .IsNot a b (o2 isnR oa ob) := fun r h => by
  obtain ⟨x, y, rfl, rfl, k⟩ := o2_eq h
  have ha := ha _ rfl
  have hb := hb _ rfl
  obtain ⟨t, m, rfl⟩ := Option.map_eq_some_iff.mp k
  unfold isR at m
  split at m
  · cases m; exact dc_notB ha hb
  · obtain ⟨d, e1, rfl⟩ := Option.map_eq_some_iff.mp m
    exact dc_notN (ha.toD e1) hb
  · cases m
theorem oc_in (ha : OE X ρ a oa) (hb : OE X ρ b ob) : OC X ρ .In a b (o2 inR oa ob) := fun r h => by
  obtain ⟨x, y, rfl, rfl, k⟩ := o2_eq h
  have ha := ha _ rfl
  have hb := hb _ rfl
  unfold inR at k
  split at k
  · cases k; exact dc_inS ha hb
  · obtain ⟨ds, e1, k⟩ := Option.bind_eq_some_iff.mp k
    split at k
    · rename_i q; cases k; exact dc_in ha (hb.toB e1) q.1 q.2
    · cases k
  · cases k
theorem oc_nin (ha : OE X ρ a oa) (hb : OE X ρ b ob) : OC X ρ .NotIn a b (o2 ninR oa ob) := fun r h => by
  obtain ⟨x, y, rfl, rfl, k⟩ := o2_eq h
  have ha := ha _ rfl
  have hb := hb _ rfl
  obtain ⟨t, m, rfl⟩ := Option.map_eq_some_iff.mp k
  unfold inR at m
  split at m
  · cases m; exact dc_notinS ha hb
  · obtain ⟨ds, e1, m⟩ := Option.bind_eq_some_iff.mp m
    split at m
    · rename_i q; cases m; exact dc_notin ha (hb.toB e1) q.1 q.2
    · cases m
  · cases m
theorem oe_cmp {op : CmpOp} {o : Option Bool} (h : OC X ρ op a b o) (hm : behindInMarks op b = false := by first | exact nomark _ | rfl) : OE X ρ (.Compare a [op] [b] pos) (bO o) := fun r q => by
  cases o with
  | none => cases q
  | some k => cases q; exact (h _ rfl).de hm
theorem ot_cmp {op : CmpOp} {o : Option Bool} (h : OC X ρ op a b o) (hm : behindInMarks op b = false := by first | exact nomark _ | rfl) : OT X ρ (.Compare a [op] [b] pos) o := fun r q => (h _ q).dt hm
/-- a < b <= c of ints -/
structure Iop (op : CmpOp) (g : Int → Int → Bool) : Prop where
  h : ∀ X : Cx, OpR X (compareOp op) (rI0 fun i j => .bl (g i j))
theorem iop_lt : Iop .Lt (fun i j => decide (i < j)) := ⟨fun X => op_lt⟩
theorem iop_le : Iop .LtE (fun i j => decide (i ≤ j)) := ⟨fun X => op_le⟩
theorem iop_gt : Iop .Gt (fun i j => decide (j < i)) := ⟨fun X => op_gt⟩
theorem iop_ge : Iop .GtE (fun i j => decide (j ≤ i)) := ⟨fun X => op_ge⟩
def chR (f g : Int → Int → Bool) (oa ob oc : Option R) : Option Bool := match oa, ob, oc with
  | some (.v (.int i)), some (.v (.int j)), some (.v (.int k)) => some (f i j && g j k)
  | _, _, _ => none
variable {f1 f2 : Int → Int → Bool} {c1 c2 : CmpOp}
theorem oe_chain (h1 : Iop c1 f1) (h2 : Iop c2 f2) (ha : OE X ρ a oa) (hb : OE X ρ b ob) (hc : OE X ρ c oc) (hm : lastMarks [c1, c2] [b, c] = false := by with_unfolding_all rfl) : OE X ρ (.Compare a [c1, c2] [b, c] pos) (bO (chR f1 f2 oa ob oc)) := fun r q => by
  unfold chR at q
  split at q
  · cases q; exact de_chain (h1.h X) (h2.h X) (ha _ rfl) (hb _ rfl) (hc _ rfl) hm
  · cases q
theorem ot_chain (h1 : Iop c1 f1) (h2 : Iop c2 f2) (ha : OE X ρ a oa) (hb : OE X ρ b ob) (hc : OE X ρ c oc) (hm : lastMarks [c1, c2] [b, c] = false := by with_unfolding_all rfl) : OT X ρ (.Compare a [c1, c2] [b, c] pos) (chR f1 f2 oa ob oc) := fun r q => by
  unfold chR at q
  split at q
  · cases q; exact dt_chain (h1.h X) (h2.h X) (ha _ rfl) (hb _ rfl) (hc _ rfl) hm
  · cases q
theorem R.t_eq {z : R} {t : Bool} (h : R.t z = some t) : z = .v (.bl t) := by
  unfold R.t at h
  split at h
  · cases h; rfl
  · cases h
/-! booleans -/
def andB (a b : Option Bool) : Option Bool := match a with
  | some true => b
  | o => o
def orB (a b : Option Bool) : Option Bool := match a with
  | some false => b
  | o => o
@[simp] theorem andB_t (b : Option Bool) : andB (some true) b = b := rfl
@[simp] theorem andB_f (b : Option Bool) : andB (some false) b = some false := rfl
@[simp] theorem orB_t (b : Option Bool) : orB (some true) b = some true := rfl
@[simp] theorem orB_f (b : Option Bool) : orB (some false) b = b := rfl
variable {x y : Option Bool}
theorem ow_and1 (ha : OT X ρ a x) : OW X ρ (.BoolOp .And [a] pos) x := fun k h => dw_and1 (ha k h)
theorem ow_or1 (ha : OT X ρ a x) : OW X ρ (.BoolOp .Or [a] pos) x := fun k h => dw_or1 (ha k h)
theorem ow_and {l : List Expr} (ha : OT X ρ a x) (hb : OW X ρ (.BoolOp .And (b :: l) pos) y) : OW X ρ (.BoolOp .And (a :: b :: l) pos) (andB x y) := fun k h => by
  cases x with
  | none => cases h
  | some z => cases z with
    | true => exact dw_and (ha _ rfl) fun _ => hb k h
    | false => cases h; exact dw_and (k2 := false) (ha _ rfl) fun z => by cases z
theorem ow_or {l : List Expr} (ha : OT X ρ a x) (hb : OW X ρ (.BoolOp .Or (b :: l) pos) y) : OW X ρ (.BoolOp .Or (a :: b :: l) pos) (orB x y) := fun k h => by
  cases x with
  | none => cases h
  | some z => cases z with
    | false => exact dw_or (ha _ rfl) fun _ => hb k h
    | true => cases h; exact dw_or (k2 := false) (ha _ rfl) fun z => by cases z
theorem ot_w (h : OW X ρ e x) : OT X ρ e x := fun k q => (h k q).pt
theorem ot_not (h : OT X ρ a x) : OT X ρ (.UnaryOp .Not a pos) (x.map (!·)) := fun k q => by
  obtain ⟨t, k, rfl⟩ := Option.map_eq_some_iff.mp q
  exact dt_not (h _ k)
theorem ot_val (h : OE X ρ e oa) (he : ∀ whole, isTrue e X.env whole = (do let v ← whole; standAt e.pos; holding [v] (truthy v)) := by intro _; rfl) : OT X ρ e (oa.bind R.t) := fun k q => by
  obtain ⟨r, rfl, k⟩ := Option.bind_eq_some_iff.mp q
  unfold R.t at k
  split at k
  · cases k; exact dt_val (h _ rfl) he
  · cases k
theorem oe_one {o : BoolOp} (ha : OE X ρ a oa) : OE X ρ (.BoolOp o [a] pos) (bO (oa.bind R.t)) := fun r q => by
  obtain ⟨t, k, rfl⟩ := Option.map_eq_some_iff.mp q
  obtain ⟨r, rfl, m⟩ := Option.bind_eq_some_iff.mp k
  obtain rfl := R.t_eq m
  exact de_one (ha _ rfl)
theorem oe_and {l : List Expr} (ha : OE X ρ a oa) (hb : OE X ρ (.BoolOp .And (b :: l) pos) (bO y)) : OE X ρ (.BoolOp .And (a :: b :: l) pos) (bO (andB (oa.bind R.t) y)) := fun r q => by
  obtain ⟨t, k, rfl⟩ := Option.map_eq_some_iff.mp q
  cases oa with
  | none => cases k
  | some z =>
    change andB (R.t z) y = some t at k
    unfold R.t at k
    split at k
    · rename_i bb
      cases bb with
      | true => rw [andB_t] at k; subst k; exact de_and (k2 := t) (ha _ rfl) fun _ => hb _ rfl
      | false => cases k; exact de_and (k2 := false) (ha _ rfl) fun z => by cases z
    · cases k
theorem oe_or {l : List Expr} (ha : OE X ρ a oa) (hb : OE X ρ (.BoolOp .Or (b :: l) pos) (bO y)) : OE X ρ (.BoolOp .Or (a :: b :: l) pos) (bO (orB (oa.bind R.t) y)) := fun r q => by
  obtain ⟨t, k, rfl⟩ := Option.map_eq_some_iff.mp q
  cases oa with
  | none => cases k
  | some z =>
    change orB (R.t z) y = some t at k
    unfold R.t at k
    split at k
    · rename_i bb
      cases bb with
      | false => rw [orB_f] at k; subst k; exact de_or (k2 := t) (ha _ rfl) fun _ => hb _ rfl
      | true => cases k; exact de_or (k2 := false) (ha _ rfl) fun z => by cases z
    · cases k
theorem oe_not (ha : OE X ρ a oa) : OE X ρ (.UnaryOp .Not a pos) (bO ((oa.bind R.t).map (!·))) := fun r q => by
  obtain ⟨t, k0, rfl⟩ := Option.map_eq_some_iff.mp q
  obtain ⟨t, k, rfl⟩ := Option.map_eq_some_iff.mp k0
  obtain ⟨r, rfl, m⟩ := Option.bind_eq_some_iff.mp k
  obtain rfl := R.t_eq m
  exact de_not (ha _ rfl)
def ifR {α : Type} (x : Option Bool) (a b : Option α) : Option α := match x with
  | some true => a
  | some false => b
  | none => none
@[simp] theorem ifR_t {α : Type} (a b : Option α) : ifR (some true) a b = a := rfl
@[simp] theorem ifR_f {α : Type} (a b : Option α) : ifR (some false) a b = b := rfl
theorem dn_if {k : Bool} (hc : DT X ρ c k) (ha : k = true → DN X ρ a ds) (hb : k = false → DN X ρ b ds) : DN X ρ (.IfExp c a b pos) ds := by
  cases k with
  | true => exact PE.weak (pe_ifExp hc (ha rfl) PE.nev) fun σ H Q ⟨F0, H0, F, o, q⟩ => ⟨F0, H0, F, o, fun F' H' f' => iteT ⟨F0, H0, F', o.call f', fun p xs F2 H2 f2 n e1 e2 r2 => q p xs F2 H2 (f'.trans f2) (f'.h0.free n) e1 e2 r2⟩⟩
  | false => exact PE.weak (pe_ifExp hc PE.nev (hb rfl)) fun σ H Q ⟨F0, H0, F, o, q⟩ => ⟨F0, H0, F, o, fun F' H' f' => iteF ⟨F0, H0, F', o.call f', fun p xs F2 H2 f2 n e1 e2 r2 => q p xs F2 H2 (f'.trans f2) (f'.h0.free n) e1 e2 r2⟩⟩
theorem oe_if (hc : OT X ρ c x) (ha : OE X ρ a oa) (hb : OE X ρ b ob) : OE X ρ (.IfExp c a b pos) (ifR x oa ob) := fun r q => by
  cases x with
  | none => cases q
  | some z => cases z with
    | true =>
      cases r with
      | v d => exact (de_if (d2 := d) (hc _ rfl) (fun _ => ha _ q) fun z => by cases z).eq (if_pos rfl)
      | n ds => exact dn_if (hc _ rfl) (fun _ => ha _ q) fun z => by cases z
      | r ds => exact dg_if (hc _ rfl) (fun _ => ha _ q) fun z => by cases z
    | false =>
      cases r with
      | v d => exact (de_if (d1 := d) (hc _ rfl) (fun z => by cases z) fun _ => hb _ q).eq (if_neg (by decide))
      | n ds => exact dn_if (hc _ rfl) (fun z => by cases z) fun _ => hb _ q
      | r ds => exact dg_if (hc _ rfl) (fun z => by cases z) fun _ => hb _ q
end
end DL

set_option Elab.async false
set_option linter.all false
set_option maxRecDepth 100000
set_option autoImplicit false
namespace DL
open PySem PySem.Spec PyProof.Rows L2

section
variable {X : Cx} {ρ : Ev} {e a b c : Expr} {es : List Expr} {d d1 d2 : D} {ds : List D} {pos p p2 : Pos} {oa ob oc : Option R} {r : R} {n : Nat} {os : Option (List D)}
def dO (o : Option R) : Option D := o.bind R.d
def consO (o : Option R) (os : Option (List D)) : Option (List D) := match o.bind R.d, os with
  | some d, some ds => some (d :: ds)
  | _, _ => none
theorem consO_eq {o : Option R} {os : Option (List D)} {r : List D} (h : consO o os = some r) : ∃ d ds, o.bind R.d = some d ∧ os = some ds ∧ r = d :: ds := by
  unfold consO at h
  split at h
  · cases h; exact ⟨_, _, by assumption, rfl, rfl⟩
  · cases h
theorem oa_nil : OA X ρ [] (some []) := fun ds h => by cases h; exact da_nil
theorem oa_cons (ha : OE X ρ e oa) (hr : OA X ρ es os) (hs : starEach (e :: es) X.env = (false, eval e X.env) :: starEach es X.env := by rfl) : OA X ρ (e :: es) (consO oa os) := fun ds h => by
  obtain ⟨d, ds, h1, h2, rfl⟩ := consO_eq h
  exact da_cons (ha.toD h1) (hr _ h2) hs
def lstO (o : Option (List D)) : Option R := o.bind fun ds => if ds.length ≤ sizeLine then vN ds else none
def tupO (o : Option (List D)) : Option R := o.bind fun ds => if ds.length ≤ sizeLine then vD (.tup ds) else none
theorem oe_lst (h : OA X ρ es os) : OE X ρ (.List es pos) (lstO os) := fun r q => by
  obtain ⟨ds, rfl, k⟩ := Option.bind_eq_some_iff.mp q
  split at k
  · cases k; exact dn_lst (h _ rfl) (by assumption)
  · cases k
theorem oe_tup {x1} (h : OA X ρ es os) : OE X ρ (.Tuple es x1 pos) (tupO os) := fun r q => by
  obtain ⟨ds, rfl, k⟩ := Option.bind_eq_some_iff.mp q
  split at k
  · cases k; exact de_tup (h _ rfl) (by assumption)
  · cases k
/-! items, slices -/
def ixR (x y : R) : Option R := match y with
  | .v (.int i) => match x with
    | .v (.tup ds) => (L2.atI ds i).map .v
    | .v (.str z) => if z.length ≤ sizeLine then (L2.atI z.cps.toList i).map (fun ch => .v (.str ⟨#[ch]⟩)) else none
    | x => x.q.bind fun ds => (L2.atI ds i).map .v
  | _ => none
theorem oe_ix (ha : OE X ρ a oa) (hb : OE X ρ b ob) (hs : PlainIx b := by intro _ _; rfl) : OE X ρ (.Subscript a b pos) (o2 ixR oa ob) := fun r h => by
  obtain ⟨x, y, rfl, rfl, k⟩ := o2_eq h
  have ha := ha _ rfl
  have hb := hb _ rfl
  unfold ixR at k
  split at k
  · split at k
    · obtain ⟨d, m, rfl⟩ := Option.map_eq_some_iff.mp k
      exact de_ixU (DE.du ha) hb m hs
    · split at k
      · obtain ⟨d, m, rfl⟩ := Option.map_eq_some_iff.mp k
        exact de_ixS ha hb (by assumption) m hs
      · cases k
    · obtain ⟨ds, e1, k⟩ := Option.bind_eq_some_iff.mp k
      obtain ⟨d, m, rfl⟩ := Option.map_eq_some_iff.mp k
      exact de_ixQ (ha.toQ e1) hb m hs
  · cases k
def R.i : R → Option Int
  | .v (.int i) => some i
  | _ => none
theorem R.i_eq {z : R} {t : Int} (h : R.i z = some t) : z = .v (.int t) := by
  unfold R.i at h
  split at h
  · cases h; rfl
  · cases h
theorem oo_none : OO X ρ none (some none) := fun i h => by cases h; exact do_none
def ooR (o : Option R) : Option (Option Int) := (o.bind R.i).map some
theorem oo_some (h : OE X ρ e oa) : OO X ρ (some e) (ooR oa) := fun i q => by
  obtain ⟨t, k, rfl⟩ := Option.map_eq_some_iff.mp q
  obtain ⟨z, rfl, m⟩ := Option.bind_eq_some_iff.mp k
  obtain rfl := R.i_eq m
  exact do_some (h _ rfl)
variable {lo hi : Option Expr} {l u : Option (Option Int)}
theorem de_sliceT {l u : Option Int} (ha : DE X ρ a (.tup ds)) (hl : DO X ρ lo l) (hu : DO X ρ hi u) : DE X ρ (.Subscript a (.Slice lo hi none p2) pos) (.tup (cut ds l u)) :=
  PE.weak (pe_slice sl_tupA ha hl hu) fun σ H Q ⟨F0, H0, F, o, q⟩ => ⟨F0, H0, F, o, fun x F1 H1 f1 r1 => ⟨F0, H0, F1, o.call f1, fun F2 H2 f2 => ⟨F0, H0, F2, (o.call f1).call f2, fun F3 H3 f3 => by
    obtain ⟨p, xs, e, q1, r1⟩ := mD _ _ _ _ _ (f2.trans f3) r1
    refine ⟨p, xs, e, Same.tup f3.fh q1, fun hw => ?_, fun _ z hz => ?_⟩
    · have e2 : cutV xs l u = xs := by
        show (xs.drop (HT.sIx xs.length 0 l)).take (HT.sIx xs.length xs.length u - HT.sIx xs.length 0 l) = xs
        rw [hw.1, hw.2, List.drop_zero, Nat.sub_zero, List.take_length]
      exact q _ _ _ ((f1.trans f2).trans f3) ⟨p, xs, rfl, q1, by have := r1.cut l u; rw [e2] at this; exact this⟩
    · have g1 := Fin.newS (u := .tup (cutV xs l u)) f3.fh hz
      exact q _ _ _ (((f1.trans f2).trans f3).trans g1) ⟨z, _, rfl, .inl (.inl upd_same), Rps.mono g1.f0 (r1.cut l u)⟩⟩⟩⟩
def slR (x : R) (l u : Option Int) : Option R := match x with
  | .v (.str z) => if z.length ≤ sizeLine then vS (cutS z l u) else none
  | .v (.tup ds) => vD (.tup (cut ds l u))
  | x => x.q.bind fun ds => vN (cut ds l u)
def slO (o : Option R) (l u : Option (Option Int)) : Option R := match o, l, u with
  | some x, some l, some u => slR x l u
  | _, _, _ => none
@[simp] theorem slO_some (x : R) (l u : Option Int) : slO (some x) (some l) (some u) = slR x l u := rfl
theorem oe_sl (ha : OE X ρ a oa) (hl : OO X ρ lo l) (hu : OO X ρ hi u) : OE X ρ (.Subscript a (.Slice lo hi none p2) pos) (slO oa l u) := fun r q => by
  unfold slO at q
  split at q
  · rename_i x l u
    have ha := ha _ rfl
    have hl := hl _ rfl
    have hu := hu _ rfl
    unfold slR at q
    split at q
    · split at q
      · cases q; exact de_sliceS ha hl hu (by assumption)
      · cases q
    · cases q; exact de_sliceT ha hl hu
    · obtain ⟨ds, e1, k⟩ := Option.bind_eq_some_iff.mp q
      cases k
      exact dn_slice (ha.toQ e1) hl hu
  · cases q
def revR (x : R) : Option R := x.q.bind fun ds => vN ds.reverse
theorem oe_rev {k1 : Nat} {q1 q2 q3 : Pos} (ha : OE X ρ a oa) : OE X ρ (.Subscript a (.Slice none none (some (.UnaryOp .USub (.Constant (.int 1) k1 q1) q2)) q3) pos) (oa.bind revR) := fun r q => by
  obtain ⟨x, rfl, k⟩ := Option.bind_eq_some_iff.mp q
  obtain ⟨ds, e1, k⟩ := Option.bind_eq_some_iff.mp k
  cases k
  exact dn_rev (p1 := pos) ((ha _ rfl).toQ e1)
/-! calls of the module's defs -/
def Fo (P : Program) (w : World) (K : PySem.W.Frag) (mg : Str → Option Value) (base : Heap) (k : Nat) (x : Str) (m : Nat) (F : List D → Option Res) : Prop := Fn P w K mg base k x (fun ds r => ds.length = m ∧ F ds = some r)
def resR : Res → Option R
  | .sh d => some (.v d)
  | .ow ds => some (.n ds)
  | .er _ => none
  | .ot t => some (.v t.toD)
def callR (F : List D → Option Res) (os : Option (List D)) : Option R := os.bind fun ds => (F ds).bind resR
@[simp] theorem callR_some (F : List D → Option Res) (ds : List D) : callR F (some ds) = (F ds).bind resR := rfl
@[simp] theorem resR_sh (d : D) : resR (.sh d) = some (.v d) := rfl
@[simp] theorem resR_ot (t : T) : resR (.ot t) = some (.v t.toD) := rfl
@[simp] theorem resR_ow (ds : List D) : resR (.ow ds) = some (.n ds) := rfl
theorem DA_len (X : Cx) {es : List Expr} {ds : List D} : True := trivial
theorem oe_call {x : Str} {m k : Nat} {F : List D → Option Res} (g : Ge n X) (G : Fo X.prog X.w X.K X.mg X.base k x m F) (hk : k ≤ n) (ha : OA X ρ (e :: es) os) (hm : ∀ ds, os = some ds → ds.length = m) (hg : Gl X x := by rfl) (hdb : (x == ("__debug__" : Str)) = false := by decide)
    (he : starEach (e :: es) X.env = (false, eval e X.env) :: starEach es X.env := by rfl) (hpl : (backTo pos (starEach es X.env)).any (·.1) = false := by rfl) : OE X ρ (.Call (.Name x p) (e :: es) [] pos) (callR F os) := fun r q => by
  obtain ⟨ds, rfl, q0⟩ := Option.bind_eq_some_iff.mp q
  obtain ⟨t, h, q1⟩ := Option.bind_eq_some_iff.mp q0
  have hl := hm _ rfl
  cases t with
  | sh d => cases q1; exact de_call G (g.room.less hk) (ha _ rfl) ⟨hl, h⟩ hg hdb he hpl
  | ow ds1 => cases q1; exact dn_call G (g.room.less hk) (ha _ rfl) ⟨hl, h⟩ hg hdb he hpl
  | ot t => cases q1; exact (df_call G (g.room.less hk) (ha _ rfl) ⟨hl, h⟩ hg hdb he hpl).de
  | er x => cases q1
theorem oe_call0 {x : Str} {k : Nat} {F : List D → Option Res} (g : Ge n X) (G : Fo X.prog X.w X.K X.mg X.base k x 0 F) (hk : k ≤ n) (hg : Gl X x := by rfl) (hdb : (x == ("__debug__" : Str)) = false := by decide) : OE X ρ (.Call (.Name x p) [] [] pos) (callR F (some [])) := fun r q => by
  obtain ⟨t, h, q1⟩ := Option.bind_eq_some_iff.mp (show (F []).bind resR = some r from q)
  cases t with
  | sh d => cases q1; exact de_call0 G (g.room.less hk) ⟨rfl, h⟩ hg hdb
  | ow ds1 => cases q1; exact dn_call0 G (g.room.less hk) ⟨rfl, h⟩ hg hdb
  | ot t => cases q1; exact (df_call0 G (g.room.less hk) ⟨rfl, h⟩ hg hdb).de
  | er x => cases q1
theorem consO_len {o : Option R} {os : Option (List D)} {m : Nat} (h : ∀ ds, os = some ds → ds.length = m) : ∀ ds, consO o os = some ds → ds.length = m + 1 := fun ds q => by
  obtain ⟨d, ds, h1, h2, rfl⟩ := consO_eq q
  exact congrArg (· + 1) (h _ h2)
theorem nilO_len : ∀ ds : List D, some [] = some ds → ds.length = 0 := fun ds q => by cases q; rfl
/-- slot i lent to what e calls -/
def flR : R → Option R
  | .v d => if nl d then some (.v d) else none
  | .n ds => if nl.nls ds then some (.n ds) else none
  | .r _ => none
def lendO (i : Nat) (f : Ev → Option R) (ρ : Ev) : Option R := match ρ[i]? with
  | some (.ow ds) => (f (ρ.set i (.sh (.lst ds)))).bind flR
  | _ => f ρ
theorem oe_lend (i : Nat) {f : Ev → Option R} (h : ∀ ρ, OE X ρ e (f ρ)) : OE X ρ e (lendO i f ρ) := fun r q => by
  unfold lendO at q
  split at q
  · rename_i ds hi
    obtain ⟨z, e1, q⟩ := Option.bind_eq_some_iff.mp q
    have hz := h _ _ e1
    cases z with
    | v d =>
      have q : (if nl d then some (R.v d) else none) = some r := q
      split at q
      · cases q; exact de_lend i hi hz (by assumption)
      · cases q
    | n ds =>
      have q : (if nl.nls ds then some (R.n ds) else none) = some r := q
      split at q
      · cases q; exact dn_lend i hi hz (by assumption)
      · cases q
    | r ds => cases q
  · exact h _ _ q
end
end DL

set_option Elab.async false
set_option linter.all false
set_option maxRecDepth 100000
set_option autoImplicit false
namespace DL
open PySem PySem.Spec PyProof.Rows L2

section
variable {X : Cx} {ρ : Ev} {e a b c : Expr} {es : List Expr} {d d1 d2 : D} {ds : List D} {pos p p2 : Pos} {oa ob oc : Option R} {r : R} {n : Nat} {os : Option (List D)}
/-! built-in functions -/
def lenR (x : R) : Option R := match x with
  | .v (.str z) => if z.length ≤ sizeLine then vI (z.length : Int) else none
  | x => x.b.map fun ds => .v (.int (ds.length : Int))
theorem oe_len (hm : X.mg "len" = none) (ha : OE X ρ e oa) (hs : starEach (e :: []) X.env = (false, eval e X.env) :: starEach [] X.env := by rfl) (hg : Gl X "len" := by rfl) (hpl : (backTo pos (starEach ([] : List Expr) X.env)).any (·.1) = false := by rfl) : OE X ρ (.Call (.Name "len" p) [e] [] pos) (oa.bind lenR) := fun r q => by
  obtain ⟨x, rfl, k⟩ := Option.bind_eq_some_iff.mp q
  unfold lenR at k
  split at k
  · split at k
    · cases k; exact de_lenS hm (ha _ rfl) (by assumption) hs hg hpl
    · cases k
  · obtain ⟨ds, m, rfl⟩ := Option.map_eq_some_iff.mp k
    exact de_lenB hm ((ha _ rfl).toB m) hs hg hpl
theorem de_intS {z : Str} {i : Int} (hm : X.mg "int" = none) (ha : DE X ρ e (.str z)) (h1 : PySem.intText? z = some i) (h2 : z.length ≤ 640) (hs : starEach (e :: []) X.env = (false, eval e X.env) :: starEach [] X.env := by rfl) (hg : Gl X "int" := by rfl) (hpl : (backTo pos (starEach ([] : List Expr) X.env)).any (·.1) = false := by rfl) : DE X ρ (.Call (.Name "int" p) [e] [] pos) (.int i) :=
  argsT (R := rD X.K (.int i)) call_int_str (pa1 mD ha hs) hm b_int (fun F H vs Q s ⟨y, ys, e1, r, e3⟩ q => by
    subst e3 e1
    cases r
    exact ⟨z, i, rfl, h1, h2, q _ rfl⟩) hg (by decide) (by decide) hs hpl
def intR (x : R) : Option R := match x with
  | .v (.int i) => vI i
  | .v (.bl b) => vI (if b = true then 1 else 0)
  | .v (.str z) => if z.length ≤ 640 then (PySem.intText? z).map (fun i => .v (.int i)) else none
  | _ => none
theorem oe_intf (hm : X.mg "int" = none) (ha : OE X ρ e oa) (hs : starEach (e :: []) X.env = (false, eval e X.env) :: starEach [] X.env := by rfl) (hg : Gl X "int" := by rfl) (hpl : (backTo pos (starEach ([] : List Expr) X.env)).any (·.1) = false := by rfl) : OE X ρ (.Call (.Name "int" p) [e] [] pos) (oa.bind intR) := fun r q => by
  obtain ⟨x, rfl, k⟩ := Option.bind_eq_some_iff.mp q
  unfold intR at k
  split at k
  · cases k; exact de_intI hm (ha _ rfl) hs hg hpl
  · cases k; exact de_intB hm (ha _ rfl) hs hg hpl
  · split at k
    · obtain ⟨i, m, rfl⟩ := Option.map_eq_some_iff.mp k
      exact de_intS hm (ha _ rfl) m (by assumption) hs hg hpl
    · cases k
  · cases k
def absR (x : R) : Option R := match x with
  | .v (.int i) => vI (if i < 0 then -i else i)
  | _ => none
theorem oe_abs (hm : X.mg "abs" = none) (ha : OE X ρ e oa) (hs : starEach (e :: []) X.env = (false, eval e X.env) :: starEach [] X.env := by rfl) (hg : Gl X "abs" := by rfl) (hpl : (backTo pos (starEach ([] : List Expr) X.env)).any (·.1) = false := by rfl) : OE X ρ (.Call (.Name "abs" p) [e] [] pos) (oa.bind absR) := fun r q => by
  obtain ⟨x, rfl, k⟩ := Option.bind_eq_some_iff.mp q
  unfold absR at k
  split at k
  · cases k
    rename_i i
    exact argsB (R := rD X.K (.int (if i < 0 then -i else i))) call_abs (pa1 mD (ha _ rfl) hs) hm PyProof.Rows.boot_abs (fun F H vs Q s ⟨y, ys, e1, r, e3⟩ q => by
      subst e3 e1
      cases r
      exact ⟨i, rfl, q _ rfl⟩) hg (by decide) (by decide) hs hpl
  · cases k
/-- a list of bools -/
def blsD : List D → Option (List Bool)
  | [] => some []
  | .bl b :: ds => (blsD ds).map (b :: ·)
  | _ => none
theorem blsD_map : ∀ (bs : List Bool), blsD (bs.map D.bl) = some bs
  | [] => rfl
  | b :: bs => by show (blsD (bs.map D.bl)).map (b :: ·) = _; rw [blsD_map bs]; rfl
theorem blsD_eq : ∀ {ds : List D} {bs : List Bool}, blsD ds = some bs → ds = bs.map D.bl
  | [], bs, h => by cases h; rfl
  | d :: ds, bs, h => by
    cases d with
    | bl b =>
      obtain ⟨cs, m, rfl⟩ := Option.map_eq_some_iff.mp (show (blsD ds).map (b :: ·) = some bs from h)
      rw [blsD_eq m]; rfl
    | _ => cases h
def intsD : List D → Option (List Int)
  | [] => some []
  | .int b :: ds => (intsD ds).map (b :: ·)
  | _ => none
theorem intsD_map : ∀ (bs : List Int), intsD (bs.map D.int) = some bs
  | [] => rfl
  | b :: bs => by show (intsD (bs.map D.int)).map (b :: ·) = _; rw [intsD_map bs]; rfl
theorem intsD_eq : ∀ {ds : List D} {bs : List Int}, intsD ds = some bs → ds = bs.map D.int
  | [], bs, h => by cases h; rfl
  | d :: ds, bs, h => by
    cases d with
    | int b =>
      obtain ⟨cs, m, rfl⟩ := Option.map_eq_some_iff.mp (show (intsD ds).map (b :: ·) = some bs from h)
      rw [intsD_eq m]; rfl
    | _ => cases h
def allR (x : R) : Option R := (x.q.bind blsD).map fun bs => .v (.bl (bs.all id))
def anyR (x : R) : Option R := (x.q.bind blsD).map fun bs => .v (.bl (bs.any id))
def sumR (x : R) : Option R := (x.q.bind intsD).map fun bs => .v (.int bs.sum)
theorem oe_all (hc : X.calm = true) (hm : X.mg "all" = none) (ha : OE X ρ e oa) (hs : starEach (e :: []) X.env = (false, eval e X.env) :: starEach [] X.env := by rfl) (hg : Gl X "all" := by rfl) (hpl : (backTo pos (starEach ([] : List Expr) X.env)).any (·.1) = false := by rfl) : OE X ρ (.Call (.Name "all" p) [e] [] pos) (oa.bind allR) := fun r q => by
  obtain ⟨x, rfl, k⟩ := Option.bind_eq_some_iff.mp q
  obtain ⟨bs, k0, rfl⟩ := Option.map_eq_some_iff.mp k
  obtain ⟨ds, e1, k1⟩ := Option.bind_eq_some_iff.mp k0
  obtain rfl := blsD_eq k1
  exact argsB (R := rD X.K (.bl (bs.all id))) (cr_all hc) (pa1 mQ ((ha _ rfl).toQ e1) hs) hm PyProof.Rows.boot_all (fun F H vs Q s ⟨y, ys, e1, ⟨l, xs, e2, h1, r⟩, e3⟩ q => by
    subst e3 e1 e2
    rw [Rps.bls] at r
    subst r
    exact ⟨l, bs, rfl, h1, q _ rfl⟩) hg (by decide) (by decide) hs hpl
theorem oe_any (hc : X.calm = true) (hm : X.mg "any" = none) (ha : OE X ρ e oa) (hs : starEach (e :: []) X.env = (false, eval e X.env) :: starEach [] X.env := by rfl) (hg : Gl X "any" := by rfl) (hpl : (backTo pos (starEach ([] : List Expr) X.env)).any (·.1) = false := by rfl) : OE X ρ (.Call (.Name "any" p) [e] [] pos) (oa.bind anyR) := fun r q => by
  obtain ⟨x, rfl, k⟩ := Option.bind_eq_some_iff.mp q
  obtain ⟨bs, k0, rfl⟩ := Option.map_eq_some_iff.mp k
  obtain ⟨ds, e1, k1⟩ := Option.bind_eq_some_iff.mp k0
  obtain rfl := blsD_eq k1
  exact argsB (R := rD X.K (.bl (bs.any id))) (cr_any hc) (pa1 mQ ((ha _ rfl).toQ e1) hs) hm PyProof.Rows.boot_any (fun F H vs Q s ⟨y, ys, e1, ⟨l, xs, e2, h1, r⟩, e3⟩ q => by
    subst e3 e1 e2
    rw [Rps.bls] at r
    subst r
    exact ⟨l, bs, rfl, h1, q _ rfl⟩) hg (by decide) (by decide) hs hpl
theorem oe_sum (hc : X.calm = true) (hm : X.mg "sum" = none) (ha : OE X ρ e oa) (hs : starEach (e :: []) X.env = (false, eval e X.env) :: starEach [] X.env := by rfl) (hg : Gl X "sum" := by rfl) (hpl : (backTo pos (starEach ([] : List Expr) X.env)).any (·.1) = false := by rfl) : OE X ρ (.Call (.Name "sum" p) [e] [] pos) (oa.bind sumR) := fun r q => by
  obtain ⟨x, rfl, k⟩ := Option.bind_eq_some_iff.mp q
  obtain ⟨bs, k0, rfl⟩ := Option.map_eq_some_iff.mp k
  obtain ⟨ds, e1, k1⟩ := Option.bind_eq_some_iff.mp k0
  obtain rfl := intsD_eq k1
  exact argsB (R := rD X.K (.int bs.sum)) (cr_sum hc) (pa1 mQ ((ha _ rfl).toQ e1) hs) hm PyProof.Rows.boot_sum (fun F H vs Q s ⟨y, ys, e1, ⟨l, xs, e2, h1, r⟩, e3⟩ q => by
    subst e3 e1 e2
    rw [Rps.ints] at r
    subst r
    exact ⟨l, bs, rfl, h1, q _ rfl⟩) hg (by decide) (by decide) hs hpl
def maxI : List Int → Int
  | [] => 0
  | [x] => x
  | x :: xs => if x ≤ maxI xs then maxI xs else x
def minI : List Int → Int
  | [] => 0
  | [x] => x
  | x :: xs => if minI xs ≤ x then minI xs else x
theorem maxI_mem : ∀ {xs : List Int} {m : Int}, m ∈ xs → (∀ y ∈ xs, y ≤ m) → m = maxI xs
  | [], m, h, _ => by cases h
  | [x], m, h, _ => by simp at h; exact h
  | x :: y :: r, m, h, q => by
    have q2 : ∀ z ∈ y :: r, z ≤ m := fun z hz => q z (List.mem_cons_of_mem _ hz)
    have q1 := q x (by simp)
    have mm : maxI (y :: r) ∈ y :: r ∧ ∀ z ∈ y :: r, z ≤ maxI (y :: r) := by
      clear h q q1 q2
      induction r generalizing y with
      | nil => simp [maxI]
      | cons z r ih =>
        have := ih z
        show (if y ≤ maxI (z :: r) then maxI (z :: r) else y) ∈ _ ∧ ∀ w ∈ y :: z :: r, w ≤ (if y ≤ maxI (z :: r) then maxI (z :: r) else y)
        split
        · rename_i hh
          exact ⟨List.mem_cons_of_mem _ this.1, fun w hw => by
            rcases List.mem_cons.mp hw with rfl | hw
            · exact hh
            · exact this.2 w hw⟩
        · rename_i hh
          exact ⟨by simp, fun w hw => by
            rcases List.mem_cons.mp hw with rfl | hw
            · exact Int.le_refl _
            · have := this.2 w hw; omega⟩
    show m = if x ≤ maxI (y :: r) then maxI (y :: r) else x
    have a1 := q2 _ mm.1
    split
    · rcases List.mem_cons.mp h with e | hm
      · omega
      · have := mm.2 m hm; omega
    · rcases List.mem_cons.mp h with e | hm
      · exact e
      · have := mm.2 m hm; omega
theorem minI_mem : ∀ {xs : List Int} {m : Int}, m ∈ xs → (∀ y ∈ xs, m ≤ y) → m = minI xs
  | [], m, h, _ => by cases h
  | [x], m, h, _ => by simp at h; exact h
  | x :: y :: r, m, h, q => by
    have q2 : ∀ z ∈ y :: r, m ≤ z := fun z hz => q z (List.mem_cons_of_mem _ hz)
    have q1 := q x (by simp)
    have mm : minI (y :: r) ∈ y :: r ∧ ∀ z ∈ y :: r, minI (y :: r) ≤ z := by
      clear h q q1 q2
      induction r generalizing y with
      | nil => simp [minI]
      | cons z r ih =>
        have := ih z
        show (if minI (z :: r) ≤ y then minI (z :: r) else y) ∈ _ ∧ ∀ w ∈ y :: z :: r, (if minI (z :: r) ≤ y then minI (z :: r) else y) ≤ w
        split
        · rename_i hh
          exact ⟨List.mem_cons_of_mem _ this.1, fun w hw => by
            rcases List.mem_cons.mp hw with rfl | hw
            · exact hh
            · exact this.2 w hw⟩
        · rename_i hh
          exact ⟨by simp, fun w hw => by
            rcases List.mem_cons.mp hw with rfl | hw
            · exact Int.le_refl _
            · have := this.2 w hw; omega⟩
    show m = if minI (y :: r) ≤ x then minI (y :: r) else x
    have a1 := q2 _ mm.1
    split
    · rcases List.mem_cons.mp h with e | hm
      · omega
      · have := mm.2 m hm; omega
    · rcases List.mem_cons.mp h with e | hm
      · exact e
      · have := mm.2 m hm; omega
def maxR (x : R) : Option R := (x.q.bind intsD).bind fun bs => if 0 < bs.length then vI (maxI bs) else none
def minR (x : R) : Option R := (x.q.bind intsD).bind fun bs => if 0 < bs.length then vI (minI bs) else none
theorem oe_max (hc : X.calm = true) (hm : X.mg "max" = none) (ha : OE X ρ e oa) (hs : starEach (e :: []) X.env = (false, eval e X.env) :: starEach [] X.env := by rfl) (hg : Gl X "max" := by rfl) (hpl : (backTo pos (starEach ([] : List Expr) X.env)).any (·.1) = false := by rfl) : OE X ρ (.Call (.Name "max" p) [e] [] pos) (oa.bind maxR) := fun r q => by
  obtain ⟨x, rfl, k⟩ := Option.bind_eq_some_iff.mp q
  obtain ⟨bs, k0, k1⟩ := Option.bind_eq_some_iff.mp k
  obtain ⟨ds, e1, k⟩ := Option.bind_eq_some_iff.mp k0
  obtain rfl := intsD_eq k
  split at k1
  · rename_i hp
    cases k1
    exact argsB (R := rD X.K (.int (maxI bs))) (cr_max hc) (pa1 mQ ((ha _ rfl).toQ e1) hs) hm PyProof.Rows.boot_max (fun F H vs Q s ⟨y, ys, e1, ⟨l, xs, e2, h1, r⟩, e3⟩ q => by
      subst e3 e1 e2
      rw [Rps.ints] at r
      subst r
      exact ⟨l, bs, rfl, h1, hp, fun m m1 m2 => q _ (by rw [maxI_mem m1 m2]; rfl)⟩) hg (by decide) (by decide) hs hpl
  · cases k1
theorem oe_min (hc : X.calm = true) (hm : X.mg "min" = none) (ha : OE X ρ e oa) (hs : starEach (e :: []) X.env = (false, eval e X.env) :: starEach [] X.env := by rfl) (hg : Gl X "min" := by rfl) (hpl : (backTo pos (starEach ([] : List Expr) X.env)).any (·.1) = false := by rfl) : OE X ρ (.Call (.Name "min" p) [e] [] pos) (oa.bind minR) := fun r q => by
  obtain ⟨x, rfl, k⟩ := Option.bind_eq_some_iff.mp q
  obtain ⟨bs, k0, k1⟩ := Option.bind_eq_some_iff.mp k
  obtain ⟨ds, e1, k⟩ := Option.bind_eq_some_iff.mp k0
  obtain rfl := intsD_eq k
  split at k1
  · rename_i hp
    cases k1
    exact argsB (R := rD X.K (.int (minI bs))) (cr_min hc) (pa1 mQ ((ha _ rfl).toQ e1) hs) hm PyProof.Rows.boot_min (fun F H vs Q s ⟨y, ys, e1, ⟨l, xs, e2, h1, r⟩, e3⟩ q => by
      subst e3 e1 e2
      rw [Rps.ints] at r
      subst r
      exact ⟨l, bs, rfl, h1, hp, fun m m1 m2 => q _ (by rw [minI_mem m1 m2]; rfl)⟩) hg (by decide) (by decide) hs hpl
  · cases k1
def max2R : R → R → Option R := ii fun i j => vI (if j > i then j else i)
def min2R : R → R → Option R := ii fun i j => vI (if j < i then j else i)
theorem pa2 {R S : Rel} (m : Mono R) (ha : PE X a (tG X.K ρ R)) (m2 : Mono S) (hb : PE X b (tG X.K ρ S)) (hs : starEach [a, b] X.env = (false, eval a X.env) :: starEach [b] X.env) (hs2 : starEach [b] X.env = (false, eval b X.env) :: starEach [] X.env) : PA X [a, b] (tA X.K ρ (rCons R (rCons S rNil))) :=
  pa_consG m ha (pa1 m2 hb hs2) hs
theorem oe_max2 (hc : X.calm = true) (hm : X.mg "max" = none) (ha : OE X ρ a oa) (hb : OE X ρ b ob) (hs : starEach [a, b] X.env = (false, eval a X.env) :: starEach [b] X.env := by rfl) (hs2 : starEach [b] X.env = (false, eval b X.env) :: starEach [] X.env := by rfl) (hg : Gl X "max" := by rfl) (hpl : (backTo pos (starEach [b] X.env)).any (·.1) = false := by rfl) : OE X ρ (.Call (.Name "max" p) [a, b] [] pos) (o2 max2R oa ob) := fun r q => by
  obtain ⟨x, y, rfl, rfl, k⟩ := o2_eq q
  obtain ⟨i, j, rfl, rfl, k2⟩ := ii_eq k
  cases k2
  exact argsB (R := rD X.K (.int (if j > i then j else i))) (call_max2 hc) (pa2 mD (ha _ rfl) mD (hb _ rfl) hs hs2) hm PyProof.Rows.boot_max (fun F H vs Q s ⟨y, ys, e1, r, z, zs, e2, r2, e3⟩ q => by
    subst e3 e2 e1
    cases r
    cases r2
    exact ⟨i, j, rfl, q _ rfl⟩) hg (by decide) (by decide) hs hpl
theorem oe_min2 (hc : X.calm = true) (hm : X.mg "min" = none) (ha : OE X ρ a oa) (hb : OE X ρ b ob) (hs : starEach [a, b] X.env = (false, eval a X.env) :: starEach [b] X.env := by rfl) (hs2 : starEach [b] X.env = (false, eval b X.env) :: starEach [] X.env := by rfl) (hg : Gl X "min" := by rfl) (hpl : (backTo pos (starEach [b] X.env)).any (·.1) = false := by rfl) : OE X ρ (.Call (.Name "min" p) [a, b] [] pos) (o2 min2R oa ob) := fun r q => by
  obtain ⟨x, y, rfl, rfl, k⟩ := o2_eq q
  obtain ⟨i, j, rfl, rfl, k2⟩ := ii_eq k
  cases k2
  exact argsB (R := rD X.K (.int (if j < i then j else i))) (call_min2 hc) (pa2 mD (ha _ rfl) mD (hb _ rfl) hs hs2) hm PyProof.Rows.boot_min (fun F H vs Q s ⟨y, ys, e1, r, z, zs, e2, r2, e3⟩ q => by
    subst e3 e2 e1
    cases r
    cases r2
    exact ⟨i, j, rfl, q _ rfl⟩) hg (by decide) (by decide) hs hpl
/-- list(x) -/
def listR (x : R) : Option R := x.b.map .n
theorem mB {K : PySem.W.Frag} {ds : List D} : Mono (rB K ds) := fun _ _ _ _ _ f ⟨a, xs, e, q, r⟩ => ⟨a, xs, e, q.imp (fun q => L2.Same.seq f.h0 q) (fun q => Same.tup f.h0 q), Rps.mono f.f0 r⟩
theorem oe_list (hm : X.mg "list" = none) (ha : OE X ρ e oa) (hs : starEach (e :: []) X.env = (false, eval e X.env) :: starEach [] X.env := by rfl) (hg : Gl X "list" := by rfl) (hpl : (backTo pos (starEach ([] : List Expr) X.env)).any (·.1) = false := by rfl) : OE X ρ (.Call (.Name "list" p) [e] [] pos) (oa.bind listR) := fun r q => by
  obtain ⟨x, rfl, k⟩ := Option.bind_eq_some_iff.mp q
  obtain ⟨ds, m, rfl⟩ := Option.map_eq_some_iff.mp k
  exact argsT_new call_list_of (pa1 mB ((ha _ rfl).toB m) hs) hm PyProof.Rows.boot_list (fun F H vs Q s ⟨y, ys, e1, ⟨l, xs, e2, h1, r⟩, e3⟩ q => by
    subst e3 e1 e2
    exact ⟨l, xs, rfl, h1, fun p hp => q p xs hp r⟩) hg (by decide) (by decide) hs hpl
/-- tuple(x), x a list -/
def tupleR (x : R) : Option R := match x with
  | .v (.tup ds) => vD (.tup ds)
  | x => x.q.map fun ds => .v (.tup ds)
theorem oe_tuple (hm : X.mg "tuple" = none) (ha : OE X ρ e oa) (hs : starEach (e :: []) X.env = (false, eval e X.env) :: starEach [] X.env := by rfl) (hg : Gl X "tuple" := by rfl) (hpl : (backTo pos (starEach ([] : List Expr) X.env)).any (·.1) = false := by rfl) : OE X ρ (.Call (.Name "tuple" p) [e] [] pos) (oa.bind tupleR) := fun r q => by
  obtain ⟨x, rfl, k⟩ := Option.bind_eq_some_iff.mp q
  unfold tupleR at k
  split at k
  · rename_i ds
    cases k
    exact PE.weak (pe_callTy call_tuple_of hg hm PyProof.Rows.boot_tuple (pa1 mD (ha _ rfl) hs) (by decide) (by decide) hs hpl) fun σ H Q ⟨F0, H0, F, o, w⟩ => ⟨F0, H0, F, o, fun vs F1 H1 f1 ⟨y, ys, e1, ⟨l, xs, e2, h1, r⟩, e3⟩ => by
      subst e3 e1 e2
      exact ⟨l, xs, rfl, .inr ⟨Same.tup f1.fh h1, w _ _ _ f1 ⟨l, xs, rfl, h1, r⟩⟩⟩⟩
  · obtain ⟨ds, m, rfl⟩ := Option.map_eq_some_iff.mp k
    exact PE.weak (pe_callTy call_tuple_of hg hm PyProof.Rows.boot_tuple (pa1 mQ ((ha _ rfl).toQ m) hs) (by decide) (by decide) hs hpl) fun σ H Q ⟨F0, H0, F, o, w⟩ => ⟨F0, H0, F, o, fun vs F1 H1 f1 ⟨y, ys, e1, ⟨l, xs, e2, h1, r⟩, e3⟩ => by
      subst e3 e1 e2
      refine ⟨l, xs, rfl, .inl ⟨h1, fun z hz => ?_⟩⟩
      have g1 := Fin.newS (u := .tup xs) f1.fh hz
      exact w _ _ _ (f1.trans g1) ⟨z, xs, rfl, .inl (.inl upd_same), Rps.mono g1.f0 r⟩⟩
/-- isinstance(x, T) -/
def isiR (T : String) (x : R) : Option R := x.d.bind fun d => if (tyn d == "?") = false then (kitB (tyn d) T).map (fun b => .v (.bl b)) else none
theorem oe_isi {T : String} {x : Str} (hm : X.mg "isinstance" = none) (ha : OE X ρ a oa) (hmT : X.mg x = none) (hv : bootBuiltins x = some (.type T)) (hs : starEach (a :: [.Name x p2]) X.env = (false, eval a X.env) :: starEach [.Name x p2] X.env := by rfl)
    (hs2 : starEach (Expr.Name x p2 :: []) X.env = (false, eval (.Name x p2) X.env) :: starEach [] X.env := by rfl) (hg : Gl X "isinstance" := by rfl) (hpl : (backTo pos (starEach [.Name x p2] X.env)).any (·.1) = false := by rfl)
    (hgT : Gl X x := by rfl) (hn : x ≠ "__name__" := by decide) (hd : ((x : Str) == ("__debug__" : Str)) = false := by decide) : OE X ρ (.Call (.Name "isinstance" p) [a, .Name x p2] [] pos) (oa.bind (isiR T)) := fun r q => by
  obtain ⟨z, rfl, k⟩ := Option.bind_eq_some_iff.mp q
  obtain ⟨d, m, k⟩ := Option.bind_eq_some_iff.mp k
  split at k
  · obtain ⟨b, k1, rfl⟩ := Option.map_eq_some_iff.mp k
    exact de_isi hm ((ha _ rfl).toD m) (de_ty hmT hv hgT hn hd) (by assumption) k1 hs hs2 hg hpl
  · cases k
/-- x.bit_length() -/
def bitsR (x : R) : Option R := match x with
  | .v (.int i) => vI (Builtin.Int.intBits i : Nat)
  | _ => none
theorem oe_bits {apos : Pos} (ha : OE X ρ e oa) (hbase : attributeBase e "bit_length" X.env (eval e X.env) = eval e X.env := by rfl) (hline : (apos.endLine == pos.line) = true := by rfl) : OE X ρ (.Call (.Attribute e "bit_length" apos) [] [] pos) (oa.bind bitsR) := fun r q => by
  obtain ⟨x, rfl, k⟩ := Option.bind_eq_some_iff.mp q
  unfold bitsR at k
  split at k
  · cases k
    rename_i i
    exact PE.weak (pe_bits (ha _ rfl) hbase hline) fun σ H Q ⟨F0, H0, F, o, w⟩ => ⟨F0, H0, F, o, fun v F1 H1 f1 r1 => ⟨i, r1, w _ _ _ f1 rfl⟩⟩
  · cases k
/-- gcd(a, b) of math -/
def gcdR : R → R → Option R := ii fun i j => vI ((Nat.gcd i.natAbs j.natAbs : Nat) : Int)
theorem oe_gcd {x : Str} (hm : X.mg x = some (.builtin "math.gcd")) (ha : OE X ρ a oa) (hb : OE X ρ b ob) (hs : starEach [a, b] X.env = (false, eval a X.env) :: starEach [b] X.env := by rfl) (hs2 : starEach [b] X.env = (false, eval b X.env) :: starEach [] X.env := by rfl) (hg : Gl X x := by rfl) (hdb : (x == ("__debug__" : Str)) = false := by decide) (hpl : (backTo pos (starEach [b] X.env)).any (·.1) = false := by rfl) : OE X ρ (.Call (.Name x p) [a, b] [] pos) (o2 gcdR oa ob) := fun r q => by
  obtain ⟨x, y, rfl, rfl, k⟩ := o2_eq q
  obtain ⟨i, j, rfl, rfl, k2⟩ := ii_eq k
  cases k2
  exact args (pe_callBfun cr_gcd hg hm (pa2 mD (ha _ rfl) mD (hb _ rfl) hs hs2) hdb hs hpl) rfl fun F H vs Q s ⟨y, ys, e1, r, z, zs, e2, r2, e3⟩ q => by
    subst e3 e2 e1
    cases r
    cases r2
    exact ⟨i, j, rfl, q _ rfl⟩
end
end DL

set_option Elab.async false
set_option linter.all false
set_option maxRecDepth 100000
set_option autoImplicit false
/-! targets, sources, comprehensions -/
namespace DL
open PySem PySem.Spec PyProof.Rows L2

section
variable {X : Cx} {ρ : Ev} {tg it elt e a b c : Expr} {es ifs : List Expr} {d d1 d2 : D} {ds : List D} {pos p p2 : Pos} {oa ob oc : Option R} {r : R} {n : Nat} {os : Option (List D)}
/-- what a target makes of a value: the slots behind it; the slots that it sets are among ts -/
def OG (X : Cx) (tg : Expr) (g : D → Ev → Option Ev) (ts : List Nat) : Prop := ∀ ρ d ρ', g d ρ = some ρ' → DG X ρ tg d ρ' ts
def OGs (X : Cx) (tg : List Expr) (g : List D → Ev → Option Ev) (ts : List Nat) : Prop := ∀ ρ ds ρ', g ds ρ = some ρ' → DGs X ρ tg ds ρ' ts
def nameG (i : Nat) : D → Ev → Option Ev := fun d ρ => some (ρ.set i (.sh d))
def nilG : List D → Ev → Option Ev
  | [], ρ => some ρ
  | _, _ => none
def consG (g : D → Ev → Option Ev) (h : List D → Ev → Option Ev) : List D → Ev → Option Ev
  | d :: ds, ρ => (g d ρ).bind (h ds)
  | _, _ => none
def tupG (n : Nat) (h : List D → Ev → Option Ev) : D → Ev → Option Ev
  | .tup ds, ρ => if ds.length = n then h ds ρ else none
  | .lst ds, ρ => if ds.length = n then h ds ρ else none
  | _, _ => none
variable {g : D → Ev → Option Ev} {h : List D → Ev → Option Ev} {ts ts1 ts2 : List Nat} {x : Str}
theorem og_name (i : Nat) (hN : X.N.Nodup) (hi : X.N[i]? = some x := by rfl) (hx : Loc X.env.scope x := by first | exact .inl rfl | exact .inr rfl) (hf : X.fn x = true ∨ X.env.scope.names.lookup x = some .local := by first | exact .inl rfl | exact .inr rfl) : OG X (.Name x pos) (nameG i) [i] := fun ρ d ρ' q => by
  cases q; exact dg_name i hN hi hx hf
theorem ogs_nil : OGs X [] nilG [] := fun ρ ds ρ' q => by
  cases ds with
  | nil => cases q; exact dgs_nil
  | cons d ds => cases q
theorem ogs_cons (h1 : OG X tg g ts1) (h2 : OGs X es h ts2) (hs : (assignEach (tg :: es) X.env).map (·.2) = assign tg X.env :: (assignEach es X.env).map (·.2) := by rfl) : OGs X (tg :: es) (consG g h) (ts1 ++ ts2) := fun ρ ds ρ' q => by
  cases ds with
  | nil => cases q
  | cons d ds =>
    obtain ⟨ρ1, q1, q2⟩ := Option.bind_eq_some_iff.mp (show (g d ρ).bind (h ds) = some ρ' from q)
    exact dgs_cons (h1 _ _ _ q1) (h2 _ _ _ q2) hs
theorem dg_lst {n k : Nat} {ρ ρ1 : Ev} {ds : List D} {ts : List Nat} (hc : X.calm = true) (h : DGs X ρ es ds ρ1 ts) (hl : ds.length = n := by rfl) (hn : (assignEach es X.env).length = n := by rfl) (hst : (assignEach es X.env).findIdx? (·.1) = none := by rfl) : DG X ρ (.Tuple es k pos) (.lst ds) ρ1 ts :=
  PG.weak (pg_lst hc h hn hst) fun v σ H Q ⟨F0, H0, F, o, ⟨a, xs, e, ha, r⟩, q⟩ => ⟨a, xs, e, .of (o.fin.fh _ _ ha), by rw [r.length, hl], F0, H0, F, o, r, q⟩
theorem og_tup {n k : Nat} (hc : X.calm = true) (h1 : OGs X es h ts) (hn : (assignEach es X.env).length = n := by rfl) (hst : (assignEach es X.env).findIdx? (·.1) = none := by rfl) : OG X (.Tuple es k pos) (tupG n h) ts := fun ρ d ρ' q => by
  unfold tupG at q
  split at q
  · split at q
    · exact dg_tup hc (h1 _ _ _ q) (by assumption) hn hst
    · cases q
  · split at q
    · exact dg_lst hc (h1 _ _ _ q) (by assumption) hn hst
    · cases q
  · cases q
/-! sources -/
def OI (X : Cx) (ρ : Ev) (tg it : Expr) (o : Option (List D)) : Prop := ∀ ds, o = some ds → DI X ρ tg it ds
def OJ (X : Cx) (ρ : Ev) (tg it : Expr) (o : Option (List D)) : Prop := ∀ ds, o = some ds → DJ X ρ tg it ds
variable {o o' : Option (List D)}
theorem OI.oj (h : OI X ρ tg it o) : OJ X ρ tg it o := fun ds q => (h ds q).dj
/-- what a for goes over: a list that is shared or new, a tuple, a text -/
def srcI (x : R) : Option (List D) := match x with
  | .v (.lst ds) => some ds
  | .n ds => some ds
  | .v (.tup ds) => some ds
  | .v (.str z) => some (signs z)
  | _ => none
def srcJ (x : R) : Option (List D) := match x with
  | .v (.lst ds) => some ds
  | .n ds => some ds
  | .r ds => some ds
  | .v (.tup ds) => some ds
  | .v (.str z) => some (signs z)
  | _ => none
theorem oi_e (h : OE X ρ it oa) : OI X ρ tg it (oa.bind srcI) := fun ds q => by
  obtain ⟨x, rfl, k⟩ := Option.bind_eq_some_iff.mp q
  have h := h _ rfl
  unfold srcI at k
  split at k
  · cases k; exact di_list h
  · cases k; exact di_list (DN.de h)
  · cases k; exact di_tup h
  · cases k; exact di_str h
  · cases k
theorem oj_e (h : OE X ρ it oa) : OJ X ρ tg it (oa.bind srcJ) := fun ds q => by
  obtain ⟨x, rfl, k⟩ := Option.bind_eq_some_iff.mp q
  have h := h _ rfl
  unfold srcJ at k
  split at k
  · cases k; exact (di_list h).dj
  · cases k; exact (di_list (DN.de h)).dj
  · cases k; exact dj_list h
  · cases k; exact (di_tup h).dj
  · cases k; exact (di_str h).dj
  · cases k
def in62 (i : Int) : Prop := i.natAbs < 4611686018427387904
theorem in62_of {i : Int} (h : in62 i) : -(2 ^ 62) ≤ i ∧ i < 2 ^ 62 := by unfold in62 at h; omega
instance {i : Int} : Decidable (in62 i) := by unfold in62; infer_instance
def rng1R (x : R) : Option (List D) := match x with
  | .v (.int j) => if in62 j then some (iD (rng 0 j)) else none
  | _ => none
theorem oi_rng1 (hm : X.mg "range" = none) (ha : OE X ρ a oa) (hg : Gl X "range" := by rfl) (hs1 : starEach [a] X.env = (false, eval a X.env) :: starEach [] X.env := by rfl) (hs : starEach [a] X.env = [(false, eval a X.env)] := by rfl) : OI X ρ tg (.Call (.Name "range" p) [a] [] pos) (oa.bind rng1R) := fun ds q => by
  obtain ⟨x, rfl, k⟩ := Option.bind_eq_some_iff.mp q
  unfold rng1R at k
  split at k
  · split at k
    · rename_i hh; cases k; exact di_rng1 hm (ha _ rfl) (in62_of hh).1 (in62_of hh).2 hg hs1 hs
    · cases k
  · cases k
def rng2R (x y : R) : Option (List D) := match x, y with
  | .v (.int i), .v (.int j) => if in62 i ∧ in62 j then some (iD (rng i j)) else none
  | _, _ => none
theorem oi_rng2 (hm : X.mg "range" = none) (ha : OE X ρ a oa) (hb : OE X ρ b ob) (hg : Gl X "range" := by rfl) (hs1 : starEach [a, b] X.env = (false, eval a X.env) :: starEach [b] X.env := by rfl) (hs0 : starEach [b] X.env = (false, eval b X.env) :: starEach [] X.env := by rfl)
    (hs : starEach [a, b] X.env = [(false, eval a X.env), (false, eval b X.env)] := by rfl) (hs2 : starEach [b] X.env = [(false, eval b X.env)] := by rfl) : OI X ρ tg (.Call (.Name "range" p) [a, b] [] pos) (o2 rng2R oa ob) := fun ds q => by
  obtain ⟨x, y, rfl, rfl, k⟩ := o2_eq q
  unfold rng2R at k
  split at k
  · split at k
    · rename_i hh; cases k; exact di_rng2 hm (ha _ rfl) (hb _ rfl) ⟨(in62_of hh.1).1, (in62_of hh.1).2, (in62_of hh.2).1, (in62_of hh.2).2⟩ hg hs1 hs0 hs hs2
    · cases k
  · cases k
def enumR (x : R) : Option (List D) := match x with
  | .v (.lst ds) => some (enums ds)
  | .n ds => some (enums ds)
  | _ => none
def enumJ (x : R) : Option (List D) := x.l.map enums
variable {elts : List Expr} {kk : Nat} {tpos : Pos}
theorem oi_enum (hm : X.mg "enumerate" = none) (ha : OE X ρ e oa) (hg : Gl X "enumerate" := by rfl) (hs1 : starEach [e] X.env = (false, eval e X.env) :: starEach [] X.env := by rfl) (hs : starEach [e] X.env = [(false, eval e X.env)] := by rfl) : OI X ρ (.Tuple elts kk tpos) (.Call (.Name "enumerate" p) [e] [] pos) (oa.bind enumR) := fun ds q => by
  obtain ⟨x, rfl, k⟩ := Option.bind_eq_some_iff.mp q
  unfold enumR at k
  split at k
  · cases k; exact di_enum hm (ha _ rfl) hg hs1 hs
  · cases k; exact di_enum hm (DN.de (ha _ rfl)) hg hs1 hs
  · cases k
theorem oj_enum (hm : X.mg "enumerate" = none) (ha : OE X ρ e oa) (hg : Gl X "enumerate" := by rfl) (hs1 : starEach [e] X.env = (false, eval e X.env) :: starEach [] X.env := by rfl) (hs : starEach [e] X.env = [(false, eval e X.env)] := by rfl) : OJ X ρ (.Tuple elts kk tpos) (.Call (.Name "enumerate" p) [e] [] pos) (oa.bind enumJ) := fun ds q => by
  obtain ⟨x, rfl, k⟩ := Option.bind_eq_some_iff.mp q
  obtain ⟨es, m, rfl⟩ := Option.map_eq_some_iff.mp k
  exact dj_enum hm ((ha _ rfl).toL m) hg hs1 hs
def zipR (x y : R) : Option (List D) := match x.d, y.d with
  | some (.lst i), some (.lst j) => some (zips i j)
  | _, _ => none
def zipJ (x y : R) : Option (List D) := o2 (fun i j => some (zips i j)) x.l y.l
theorem oi_zip (hm : X.mg "zip" = none) (ha : OE X ρ a oa) (hb : OE X ρ b ob) (hg : Gl X "zip" := by rfl) (hs1 : starEach [a, b] X.env = (false, eval a X.env) :: starEach [b] X.env := by rfl) (hs2 : starEach [b] X.env = (false, eval b X.env) :: starEach [] X.env := by rfl) (hpl : (backTo pos (starEach [b] X.env)).any (·.1) = false := by rfl) :
    OI X ρ (.Tuple elts kk tpos) (.Call (.Name "zip" p) [a, b] [] pos) (o2 zipR oa ob) := fun ds q => by
  obtain ⟨x, y, rfl, rfl, k⟩ := o2_eq q
  unfold zipR at k
  split at k
  · rename_i e1 e2; cases k; exact di_zip hm ((ha _ rfl).toD e1) ((hb _ rfl).toD e2) hg hs1 hs2 hpl
  · cases k
theorem oj_zip (hm : X.mg "zip" = none) (ha : OE X ρ a oa) (hb : OE X ρ b ob) (hg : Gl X "zip" := by rfl) (hs1 : starEach [a, b] X.env = (false, eval a X.env) :: starEach [b] X.env := by rfl) (hs2 : starEach [b] X.env = (false, eval b X.env) :: starEach [] X.env := by rfl) (hpl : (backTo pos (starEach [b] X.env)).any (·.1) = false := by rfl) :
    OJ X ρ (.Tuple elts kk tpos) (.Call (.Name "zip" p) [a, b] [] pos) (o2 zipJ oa ob) := fun ds q => by
  obtain ⟨x, y, rfl, rfl, k⟩ := o2_eq q
  obtain ⟨i, j, e1, e2, k2⟩ := o2_eq k
  cases k2
  exact dj_zip hm ((ha _ rfl).toL e1) ((hb _ rfl).toL e2) hg hs1 hs2 hpl
/-! comprehensions -/
def compL (g : D → Option (Option D)) : List D → Option (List D)
  | [] => some []
  | d :: ds => match g d, compL g ds with
    | some (some v), some vs => some (v :: vs)
    | some none, some vs => some vs
    | _, _ => none
def selG (g : D → Option (Option D)) (d : D) : Bool := match g d with
  | some (some _) => true
  | _ => false
def valG (g : D → Option (Option D)) (d : D) : D := match g d with
  | some (some v) => v
  | _ => d
theorem compL_eq {g : D → Option (Option D)} : ∀ {ds es : List D}, compL g ds = some es → (∀ d ∈ ds, ∃ x, g d = some x) ∧ es = (ds.filter (selG g)).map (valG g)
  | [], es, h => by cases h; exact ⟨(fun d hd => by cases hd), rfl⟩
  | d :: ds, es, h => by
    unfold compL at h
    split at h
    · rename_i v vs e1 e2
      cases h
      obtain ⟨q1, q2⟩ := compL_eq e2
      refine ⟨fun z hz => ?_, ?_⟩
      · rcases List.mem_cons.mp hz with rfl | hz
        · exact ⟨_, e1⟩
        · exact q1 z hz
      · have s : selG g d = true := by unfold selG; rw [e1]
        have w : valG g d = v := by unfold valG; rw [e1]
        rw [List.filter_cons_of_pos s, List.map_cons, w, ← q2]
    · rename_i vs e1 e2
      cases h
      obtain ⟨q1, q2⟩ := compL_eq e2
      refine ⟨fun z hz => ?_, ?_⟩
      · rcases List.mem_cons.mp hz with rfl | hz
        · exact ⟨_, e1⟩
        · exact q1 z hz
      · have s : ¬ selG g d = true := by unfold selG; rw [e1]; simp
        rw [List.filter_cons_of_neg s, ← q2]
    · cases h
/-- [val for .. in .. if cond] -/
def compG (ow : List Nat) (g : D → Ev → Option Ev) (cond : Ev → Option Bool) (val : Ev → Option R) (ρ : Ev) (d : D) : Option (Option D) :=
  (g d (wipeE ρ ow)).bind fun ρ2 => match cond ρ2 with
    | some true => ((val ρ2).bind R.d).map some
    | some false => some none
    | none => none
def compO (src : Option (List D)) (ow : List Nat) (g : D → Ev → Option Ev) (cond : Ev → Option Bool) (val : Ev → Option R) (ρ : Ev) : Option R :=
  src.bind fun ds => if ds.length ≤ sizeLine then (compL (compG ow g cond val ρ) ds).map .n else none
def trueC : Ev → Option Bool := fun _ => some true
def OTs (X : Cx) (ρ : Ev) (ifs : List Expr) (x : Option Bool) : Prop := ∀ k, x = some k → DTs X ρ ifs k
theorem ots_nil : OTs X ρ [] (trueC ρ) := fun k q => by cases q; exact dts_nil
theorem ots_one {x : Option Bool} (h : OT X ρ e x) : OTs X ρ [e] x := fun k q => dts_one (h k q)
theorem comp_core {scope : Scope} {cond : Ev → Option Bool} {val : Ev → Option R} {r : R} (own : List (Str × Nat)) (hts : ∀ t ∈ ts, t ∈ own.map (·.2))
    (ht : InBlk X scope fun Y => OG Y tg g ts) (hc : InBlk X scope fun Y => ∀ ρ, OTs Y ρ ifs (cond ρ)) (hv : InBlk X scope fun Y => ∀ ρ, OE Y ρ elt (val ρ)) (q : compO o (own.map (·.2)) g cond val ρ = some r) :
    ∃ (ds : List D) (sel : D → Bool) (val' : D → D), o = some ds ∧ ds.length ≤ sizeLine ∧ r = .n ((ds.filter sel).map val') ∧
      ∀ d ∈ ds, ∃ ρ2 ts, (∀ t ∈ ts, t ∈ own.map (·.2)) ∧ InBlk X scope (fun Y => DG Y (wipeE ρ (own.map (·.2))) tg d ρ2 ts) ∧ InBlk X scope (fun Y => DTs Y ρ2 ifs (sel d)) ∧ (sel d = true → InBlk X scope fun Y => DE Y ρ2 elt (val' d)) := by
  obtain ⟨ds, rfl, k⟩ := Option.bind_eq_some_iff.mp q
  split at k
  · rename_i hz
    obtain ⟨es, m, rfl⟩ := Option.map_eq_some_iff.mp k
    obtain ⟨m1, rfl⟩ := compL_eq m
    refine ⟨ds, selG _, valG _, rfl, hz, rfl, fun d hd => ?_⟩
    obtain ⟨w, hw⟩ := m1 d hd
    obtain ⟨ρ2, g1, g2⟩ := Option.bind_eq_some_iff.mp (show (g d (wipeE ρ (own.map (·.2)))).bind _ = some w from hw)
    have hsel : selG (compG (own.map (·.2)) g cond val ρ) d = w.isSome := by
      unfold selG; rw [hw]; cases w <;> rfl
    have hval : w.isSome = true → some (valG (compG (own.map (·.2)) g cond val ρ) d) = w := fun z => by
      unfold valG; rw [hw]; cases w with
      | none => cases z
      | some v => rfl
    refine ⟨ρ2, ts, hts, fun s H C cl fp => ht s H C cl fp _ _ _ g1, fun s H C cl fp => ?_, fun hk s H C cl fp => ?_⟩
    · refine hc s H C cl fp ρ2 _ ?_
      rw [hsel]
      split at g2
      · rename_i e1
        obtain ⟨v, _, rfl⟩ := Option.map_eq_some_iff.mp g2
        exact e1
      · rename_i e1
        cases g2
        exact e1
      · cases g2
    · rw [hsel] at hk
      have hv2 := hval hk
      split at g2
      · obtain ⟨v, e1, rfl⟩ := Option.map_eq_some_iff.mp g2
        cases hv2
        exact (hv s H C cl fp ρ2).toD e1
      · cases g2; cases hk
      · cases g2
  · cases k
theorem oe_comp {scope : Scope} {cond : Ev → Option Bool} {val : Ev → Option R} (own : List (Str × Nat)) (gg : Ge n X) (hit : OJ X ρ tg it o) (ok : BlkOk X.N X.env.scope scope own) (hts : ∀ t ∈ ts, t ∈ own.map (·.2))
    (ht : InBlk X scope fun Y => OG Y tg g ts) (hc : InBlk X scope fun Y => ∀ ρ, OTs Y ρ ifs (cond ρ)) (hv : InBlk X scope fun Y => ∀ ρ, OE Y ρ elt (val ρ))
    (hs : ∀ x, foldedSetIterable it X.env x = pure x := by intro _; rfl) : OE X ρ (.ListComp elt [⟨tg, it, ifs, 0⟩] scope pos) (compO o (own.map (·.2)) g cond val ρ) := fun r q => by
  obtain ⟨ds, sel, val', rfl, hz, rfl, turn⟩ := comp_core own hts ht hc hv q
  exact dn_comp own sel val' gg.calm gg.nd (hit _ rfl) ok hz turn hs
end
end DL

set_option Elab.async false
set_option linter.all false
set_option maxRecDepth 100000
set_option autoImplicit false
/-! Statements as functions of the slots. -/
namespace DL
open PySem PySem.Spec PyProof.Rows L2

/-- what a text of statements asks of the place -/
structure Gs (n : Nat) (X : Cx) (W : WX) : Prop where
  ge : Ge n X
  own : PassesOwn (model X.prog X.w) X.A X.env X.xe
  tk : Takes X W
  two : 2 ≤ n
def OS (X : Cx) (W : WX) (ρ : Ev) (st : List Stmt) (o : Option Out) : Prop := ∀ out, o = some out → DSs X W ρ st (· = out)
abbrev Kt := Ev → Option Out
def joinK (k : Kt) : Out → Option Out
  | .nx ρ => k ρ
  | .bk ρ => some (.bk ρ)
  | .ct ρ => some (.ct ρ)
  | .rt d => some (.rt d)
  | .ro ds => some (.ro ds)
  | .rs x ρ => some (.rs x ρ)
  | .rtt t => some (.rtt t)
section
variable {X : Cx} {W : WX} {ρ ρ' : Ev} {tg it e a b c : Expr} {es : List Expr} {d d1 d2 : D} {ds ds1 ds2 : List D} {pos p p2 : Pos} {st : Stmt} {A B body rest : List Stmt} {oa ob oc : Option R} {n : Nat} {os : Option (List D)} {k : Kt} {x y : Str} {out : Out}
theorem joinK_nx (h : out.nxt = false) : joinK k out = some out := by cases out <;> first | rfl | cases h
/-- a statement that ends as mid, the rest behind it -/
theorem oss_join {mid : Out} (h1 : DS X W ρ st (· = mid)) (hk : ∀ ρ', OS X W ρ' rest (k ρ')) (h : joinK k mid = some out) : DSs X W ρ (st :: rest) (· = out) := by
  refine dss_mid h1 (fun ρ' e => ?_) fun o hn e => ?_
  · subst e; exact hk ρ' out h
  · subst e; rw [joinK_nx hn] at h; exact Option.some.inj h
theorem oss_nil : OS X W ρ [] (some (.nx ρ)) := fun out h => by cases h; exact dss_nil rfl
/-! assignments -/
def setO (i : Nat) (o : Option R) (k : Kt) (ρ : Ev) : Option Out := match o with
  | some (.v d) => k (ρ.set i (.sh d))
  | some (.n ds) => k (ρ.set i (.ow ds))
  | _ => none
def setS (i : Nat) (o : Option R) (k : Kt) (ρ : Ev) : Option Out := (o.bind R.d).bind fun d => k (ρ.set i (.sh d))
theorem oss_set (i : Nat) {pos' : Pos} (g : Gs n X W) (he : OE X ρ e oa) (hk : ∀ ρ', OS X W ρ' rest (k ρ')) (hi : X.N[i]? = some x := by rfl) (hx : Loc X.env.scope x := by first | exact .inl rfl | exact .inr rfl) (hs : swapsWith e (some (.Name x pos')) pos.line X.env = pure false := by rfl) (hf : X.fn x = true ∨ X.env.scope.names.lookup x = some .local := by first | exact .inl rfl | exact .inr rfl) :
    OS X W ρ (.Assign [.Name x pos'] e pos :: rest) (setO i oa k ρ) := fun out h => by
  unfold setO at h
  split at h
  · exact dss_set i g.ge.nd (he _ rfl) (hk _ _ h) hi hx hs hf
  · exact dss_setN i g.ge.nd (he _ rfl) (hk _ _ h) hi hx hs hf
  · cases h
theorem oss_setS (i : Nat) {pos' : Pos} (g : Gs n X W) (he : OE X ρ e oa) (hk : ∀ ρ', OS X W ρ' rest (k ρ')) (hi : X.N[i]? = some x := by rfl) (hx : Loc X.env.scope x := by first | exact .inl rfl | exact .inr rfl) (hs : swapsWith e (some (.Name x pos')) pos.line X.env = pure false := by rfl) (hf : X.fn x = true ∨ X.env.scope.names.lookup x = some .local := by first | exact .inl rfl | exact .inr rfl) :
    OS X W ρ (.Assign [.Name x pos'] e pos :: rest) (setS i oa k ρ) := fun out h => by
  obtain ⟨d, h1, h2⟩ := Option.bind_eq_some_iff.mp h
  exact dss_set i g.ge.nd (he.toD h1) (hk _ _ h2) hi hx hs hf
/-- name = [..] on one line -/
theorem PS.setN {i : Nat} {pos' : Pos} (h : PS X (.Assign [.Name x pos'] e pos) (tAsg (tDN X.K ρ ds) (gName i))) (k : DSs X W (ρ.set i (.ow ds)) rest (· = out)) : DSs X W ρ (.Assign [.Name x pos'] e pos :: rest) (· = out) :=
  dss_then (PS.weak h fun B σ H ⟨F0, H0, F, o, f⟩ => ⟨F0, H0, F, o, fun p xs F' H' f' n e1 e2 r => f.nx _ _ _ _ rfl ((o.call f').put (i := i) (s := .ow ds) ⟨p, xs, rfl, e1, e2, o.fin.h0.free n, r⟩ fun a ha j t w hj g1 g2 => by
    cases ha
    exact o.newer f' n j t w g1 g2)⟩) k
theorem PS.setL {i : Nat} {pos' : Pos} (hi : i < ρ.length) (h : PS X (.Assign [.Name x pos'] e pos) (tAsg (tDN X.K ρ ds) (gName i))) (k : DSs X W (ρ.set i (.sh (.lst ds))) rest (· = out)) : DSs X W ρ (.Assign [.Name x pos'] e pos :: rest) (· = out) := by
  refine PS.setN h (dss_share i (ds := ds) (by simp [hi]) ?_)
  rw [List.set_set]
  exact k
def setLO (i : Nat) (o : Option R) (k : Kt) (ρ : Ev) : Option Out := match o with
  | some (.n ds) => if i < ρ.length then k (ρ.set i (.sh (.lst ds))) else none
  | _ => none
theorem oss_setLc (i : Nat) {pos' p4 : Pos} {g : D → Ev → Option Ev} {ts : List Nat} {elt it : Expr} {ifs : List Expr} {src : Option (List D)} {scope : Scope} {cond : Ev → Option Bool} {val : Ev → Option R} (own : List (Str × Nat)) (gs : Gs n X W) (hit : OJ X ρ tg it src) (ok : BlkOk X.N X.env.scope scope own) (hts : ∀ t ∈ ts, t ∈ own.map (·.2))
    (ht : InBlk X scope fun Y => OG Y tg g ts) (hc : InBlk X scope fun Y => ∀ ρ, OTs Y ρ ifs (cond ρ)) (hv : InBlk X scope fun Y => ∀ ρ, OE Y ρ elt (val ρ)) (hk : ∀ ρ', OS X W ρ' rest (k ρ')) (hi : X.N[i]? = some x := by rfl) (hyl : X.env.scope.names.lookup x = some .local := by rfl)
    (hsw : swapsWith (.ListComp elt [⟨tg, it, ifs, 0⟩] scope p4) (some (.Name x pos')) pos.line X.env = pure true := by rfl) (hs : ∀ x, foldedSetIterable it X.env x = pure x := by intro _; rfl) :
    OS X W ρ (.Assign [.Name x pos'] (.ListComp elt [⟨tg, it, ifs, 0⟩] scope p4) pos :: rest) (setLO i (compO src (own.map (·.2)) g cond val ρ) k ρ) := fun out h => by
  unfold setLO at h
  split at h
  · rename_i ds e1
    split at h
    · rename_i hl
      obtain ⟨ds', sel, val', rfl, hz, e2, turn⟩ := comp_core own hts ht hc hv e1
      cases e2
      exact PS.setL hl (ps_compN own sel val' gs.ge.calm gs.ge.nd hi hyl hsw (hit _ rfl) ok hz turn hs) (hk _ _ h)
    · cases h
  · cases h
theorem oss_setLcN (i : Nat) {pos' p4 : Pos} {g : D → Ev → Option Ev} {ts : List Nat} {elt it : Expr} {ifs : List Expr} {src : Option (List D)} {scope : Scope} {cond : Ev → Option Bool} {val : Ev → Option R} (own : List (Str × Nat)) (gs : Gs n X W) (hit : OJ X ρ tg it src) (ok : BlkOk X.N X.env.scope scope own) (hts : ∀ t ∈ ts, t ∈ own.map (·.2))
    (ht : InBlk X scope fun Y => OG Y tg g ts) (hc : InBlk X scope fun Y => ∀ ρ, OTs Y ρ ifs (cond ρ)) (hv : InBlk X scope fun Y => ∀ ρ, OE Y ρ elt (val ρ)) (hk : ∀ ρ', OS X W ρ' rest (k ρ')) (hi : X.N[i]? = some x := by rfl) (hyl : X.env.scope.names.lookup x = some .local := by rfl)
    (hsw : swapsWith (.ListComp elt [⟨tg, it, ifs, 0⟩] scope p4) (some (.Name x pos')) pos.line X.env = pure true := by rfl) (hs : ∀ x, foldedSetIterable it X.env x = pure x := by intro _; rfl) :
    OS X W ρ (.Assign [.Name x pos'] (.ListComp elt [⟨tg, it, ifs, 0⟩] scope p4) pos :: rest) (setO i (compO src (own.map (·.2)) g cond val ρ) k ρ) := fun out h => by
  unfold setO at h
  split at h
  · rename_i d e1
    obtain ⟨ds', sel, val', rfl, hz, e2, turn⟩ := comp_core own hts ht hc hv e1
    cases e2
  · rename_i ds e1
    obtain ⟨ds', sel, val', rfl, hz, e2, turn⟩ := comp_core own hts ht hc hv e1
    cases e2
    exact PS.setN (ps_compN own sel val' gs.ge.calm gs.ge.nd hi hyl hsw (hit _ rfl) ok hz turn hs) (hk _ _ h)
  · cases h
/-- a call that may raise -/
def callX (F : List D → Option Res) (os : Option (List D)) : Option Res := os.bind F
def OX (X : Cx) (W : WX) (ρ : Ev) (e : Expr) (o : Option Res) : Prop := ∀ r, o = some r → match r with
  | .sh d => DE X ρ e d
  | .ow ds => DN X ρ e ds
  | .er ex => DX X W ρ e ex
  | .ot t => DF X ρ e t
theorem ox_call {m j : Nat} {F : List D → Option Res} (g : Gs n X W) (G : Fo X.prog X.w X.K X.mg X.base j x m F) (hk : j ≤ n) (ha : OA X ρ (e :: es) os) (hm : ∀ ds, os = some ds → ds.length = m) (hg : Gl X x := by rfl) (hdb : (x == ("__debug__" : Str)) = false := by decide)
    (he : starEach (e :: es) X.env = (false, eval e X.env) :: starEach es X.env := by rfl) (hpl : (backTo pos (starEach es X.env)).any (·.1) = false := by rfl) : OX X W ρ (.Call (.Name x p) (e :: es) [] pos) (callX F os) := fun r q => by
  obtain ⟨ds, rfl, h⟩ := Option.bind_eq_some_iff.mp q
  have hl := hm _ rfl
  cases r with
  | sh d => exact de_call G (g.ge.room.less hk) (ha _ rfl) ⟨hl, h⟩ hg hdb he hpl
  | ow ds1 => exact dn_call G (g.ge.room.less hk) (ha _ rfl) ⟨hl, h⟩ hg hdb he hpl
  | er x => exact dx_call g.tk G (g.ge.room.less hk) (ha _ rfl) ⟨hl, h⟩ hg hdb he hpl
  | ot t => exact df_call G (g.ge.room.less hk) (ha _ rfl) ⟨hl, h⟩ hg hdb he hpl
def setXO (i : Nat) (o : Option Res) (k : Kt) (ρ : Ev) : Option Out := match o with
  | some (.sh d) => k (ρ.set i (.sh d))
  | some (.ow ds) => k (ρ.set i (.ow ds))
  | some (.er ex) => some (.rs ex ρ)
  | some (.ot t) => k (ρ.set i (.ot t))
  | none => none
def setXS (i : Nat) (o : Option Res) (k : Kt) (ρ : Ev) : Option Out := match o with
  | some (.sh d) => k (ρ.set i (.sh d))
  | some (.ow ds) => k (ρ.set i (.sh (.lst ds)))
  | some (.er ex) => some (.rs ex ρ)
  | some (.ot t) => k (ρ.set i (.sh t.toD))
  | none => none
variable {or : Option Res}
theorem oss_setX (i : Nat) {pos' : Pos} (g : Gs n X W) (he : OX X W ρ e or) (hk : ∀ ρ', OS X W ρ' rest (k ρ')) (hi : X.N[i]? = some x := by rfl) (hx : Loc X.env.scope x := by first | exact .inl rfl | exact .inr rfl) (hs : swapsWith e (some (.Name x pos')) pos.line X.env = pure false := by rfl) (hf : X.fn x = true ∨ X.env.scope.names.lookup x = some .local := by first | exact .inl rfl | exact .inr rfl) :
    OS X W ρ (.Assign [.Name x pos'] e pos :: rest) (setXO i or k ρ) := fun out h => by
  unfold setXO at h
  split at h
  · exact dss_set i g.ge.nd (he _ rfl) (hk _ _ h) hi hx hs hf
  · exact dss_setN i g.ge.nd (he _ rfl) (hk _ _ h) hi hx hs hf
  · cases h; exact dss_setX i g.ge.nd (he _ rfl) rfl hi hx hs hf
  · exact dss_setT i g.ge.nd (he _ rfl) (hk _ _ h) hi hx hs hf
  · cases h
theorem oss_setXS (i : Nat) {pos' : Pos} (g : Gs n X W) (he : OX X W ρ e or) (hk : ∀ ρ', OS X W ρ' rest (k ρ')) (hi : X.N[i]? = some x := by rfl) (hx : Loc X.env.scope x := by first | exact .inl rfl | exact .inr rfl) (hs : swapsWith e (some (.Name x pos')) pos.line X.env = pure false := by rfl) (hf : X.fn x = true ∨ X.env.scope.names.lookup x = some .local := by first | exact .inl rfl | exact .inr rfl) :
    OS X W ρ (.Assign [.Name x pos'] e pos :: rest) (setXS i or k ρ) := fun out h => by
  unfold setXS at h
  split at h
  · exact dss_set i g.ge.nd (he _ rfl) (hk _ _ h) hi hx hs hf
  · exact dss_set i g.ge.nd (DN.de (he _ rfl)) (hk _ _ h) hi hx hs hf
  · cases h; exact dss_setX i g.ge.nd (he _ rfl) rfl hi hx hs hf
  · exact dss_set i g.ge.nd (DF.de (he _ rfl)) (hk _ _ h) hi hx hs hf
  · cases h
def asgO (g : D → Ev → Option Ev) (o : Option R) (k : Kt) (ρ : Ev) : Option Out := (o.bind R.d).bind fun d => (g d ρ).bind k
theorem oss_asg {tgs : D → Ev → Option Ev} {ts : List Nat} (he : OE X ρ e oa) (ht : OG X tg tgs ts) (hk : ∀ ρ', OS X W ρ' rest (k ρ')) (hs : swapsWithSole [tg] e pos.line X.env = pure false := by rfl) (hw : swappedStores [tg] e X.env = pure none := by rfl)
    (h1 : (assignEach [tg] X.env).map (·.2) = [assign tg X.env] := by rfl) : OS X W ρ (.Assign [tg] e pos :: rest) (asgO tgs oa k ρ) := fun out h => by
  obtain ⟨d, h2, h3⟩ := Option.bind_eq_some_iff.mp h
  obtain ⟨ρ1, h4, h5⟩ := Option.bind_eq_some_iff.mp h3
  refine dss_then (ρ' := ρ1) (PS.weak (ps_asg (he.toD h2) (ht _ _ _ h4) hs hw h1) fun B σ H ⟨F0, H0, F, o, f⟩ => ⟨F0, H0, F, o, fun v F' H' f' r => ?_⟩) (hk _ _ h5)
  exact ⟨F0, H0, F', o.call f', r, fun σ' _ u' => f.nx _ _ _ _ rfl (u' _ _ (L2.Same.refl _) (o.call f'))⟩
def shareO (i : Nat) (k : Kt) (ρ : Ev) : Option Out := match ρ[i]? with
  | some (.ow ds) => k (ρ.set i (.sh (.lst ds)))
  | some (.ot t) => k (ρ.set i (.sh t.toD))
  | _ => k ρ
theorem oss_share (i : Nat) (hk : ∀ ρ', OS X W ρ' A (k ρ')) : OS X W ρ A (shareO i k ρ) := fun out h => by
  unfold shareO at h
  split at h
  · rename_i hi; exact dss_share i hi (hk _ _ h)
  · rename_i hi; exact dss_shareT i hi (hk _ _ h)
  · exact hk _ _ h
def exprO (o : Option R) (k : Kt) (ρ : Ev) : Option Out := (o.bind R.d).bind fun _ => k ρ
theorem oss_expr (he : OE X ρ e oa) (hk : ∀ ρ', OS X W ρ' rest (k ρ')) (hs : swapsWith e none pos.line X.env = pure false := by rfl) : OS X W ρ (.Expr e pos :: rest) (exprO oa k ρ) := fun out h => by
  obtain ⟨d, h2, h3⟩ := Option.bind_eq_some_iff.mp h
  exact dss_expr (he.toD h2) (hk _ _ h3) hs
def exprX (o : Option Res) (k : Kt) (ρ : Ev) : Option Out := match o with
  | some (.sh _) => k ρ
  | some (.ow _) => k ρ
  | some (.er ex) => some (.rs ex ρ)
  | some (.ot _) => k ρ
  | none => none
theorem oss_exprX (he : OX X W ρ e or) (hk : ∀ ρ', OS X W ρ' rest (k ρ')) (hs : swapsWith e none pos.line X.env = pure false := by rfl) : OS X W ρ (.Expr e pos :: rest) (exprX or k ρ) := fun out h => by
  unfold exprX at h
  split at h
  · exact dss_expr (he _ rfl) (hk _ _ h) hs
  · exact dss_expr (DN.de (he _ rfl)) (hk _ _ h) hs
  · cases h; exact dss_exprX (he _ rfl) rfl hs
  · exact dss_expr (DF.de (he _ rfl)) (hk _ _ h) hs
  · cases h
theorem oss_pass (hk : ∀ ρ', OS X W ρ' rest (k ρ')) : OS X W ρ (.Pass pos :: rest) (k ρ) := fun out h => dss_pass (hk _ _ h)
theorem oss_break : OS X W ρ (.Break pos :: rest) (some (.bk ρ)) := fun out h => by cases h; exact dss_break rfl
theorem oss_continue : OS X W ρ (.Continue pos :: rest) (some (.ct ρ)) := fun out h => by cases h; exact dss_continue rfl
def retO (o : Option R) : Option Out := match o with
  | some (.v d) => some (.rt d)
  | some (.n ds) => some (.ro ds)
  | _ => none
theorem oss_ret (he : OE X ρ e oa) : OS X W ρ (.Return (some e) pos :: rest) (retO oa) := fun out h => by
  unfold retO at h
  split at h
  · cases h; exact dss_ret (he _ rfl) rfl
  · cases h; exact dss_retN (he _ rfl) rfl
  · cases h
theorem oss_ret0 : OS X W ρ (.Return none pos :: rest) (some (.rt .non)) := fun out h => by cases h; exact dss_ret0 rfl
def retX (o : Option Res) (ρ : Ev) : Option Out := match o with
  | some (.sh d) => some (.rt d)
  | some (.ow ds) => some (.ro ds)
  | some (.er ex) => some (.rs ex ρ)
  | some (.ot t) => some (.rtt t)
  | none => none
theorem oss_retX (he : OX X W ρ e or) : OS X W ρ (.Return (some e) pos :: rest) (retX or ρ) := fun out h => by
  unfold retX at h
  split at h
  · cases h; exact dss_ret (he _ rfl) rfl
  · cases h; exact dss_retN (he _ rfl) rfl
  · cases h; exact dss_retX (he _ rfl) rfl
  · cases h; exact dss_retT (he _ rfl) rfl
  · cases h
def retV (i : Nat) (ρ : Ev) : Option Out := match ρ[i]? with
  | some (.ow ds) => some (.ro ds)
  | some (.sh d) => some (.rt d)
  | some (.ot t) => some (.rtt t)
  | _ => none
theorem oss_retV (i : Nat) {p : Pos} (hN : X.N[i]? = some x := by rfl) (hv : Vis X.env.scope x := by first | exact Or.inl rfl | exact Or.inr (Or.inl rfl) | exact Or.inr (Or.inr rfl)) (hd : (x == ("__debug__" : Str)) = false := by decide)
    (hcd : (x == ("__classdict__" : Str)) = false := by decide) : OS X W ρ (.Return (some (.Name x p)) pos :: rest) (retV i ρ) := fun out h => by
  unfold retV at h
  split at h
  · rename_i hl; cases h; exact dss_retV i rfl hl hN hv hd hcd
  · rename_i hl; cases h; exact dss_ret (de_var i hl hN hv hd hcd) rfl
  · rename_i hl; cases h; exact dss_retVT i rfl hl hN hv hd hcd
  · cases h
/-! if -/
def ifO (x : Option Bool) (A B : Option Out) (k : Kt) : Option Out := (ifR x A B).bind (joinK k)
theorem oss_if {x : Option Bool} {oA oB : Option Out} (hc : OT X ρ c x) (hA : OS X W ρ A oA) (hB : OS X W ρ B oB) (hk : ∀ ρ', OS X W ρ' rest (k ρ')) : OS X W ρ (.If c A B pos :: rest) (ifO x oA oB k) := fun out h => by
  obtain ⟨mid, h1, h2⟩ := Option.bind_eq_some_iff.mp h
  cases x with
  | none => cases h1
  | some z => cases z with
    | true => exact oss_join (ds_if (hc _ rfl) (fun _ => hA _ h1) fun z => by cases z) hk h2
    | false => exact oss_join (ds_if (hc _ rfl) (fun z => by cases z) fun _ => hB _ h1) hk h2
/-! owned lists -/
def owR (ρ : Ev) (i : Nat) : Option (List D) := match ρ[i]? with
  | some (.ow ds) => some ds
  | _ => none
theorem owR_eq {ρ : Ev} {i : Nat} {ds : List D} (h : owR ρ i = some ds) : ρ[i]? = some (.ow ds) := by
  unfold owR at h
  split at h
  · rename_i e; cases h; exact e
  · cases h
def appO (i : Nat) (o : Option R) (k : Kt) (ρ : Ev) : Option Out := o2 (fun d ds => if ds.length < sizeLine then k (ρ.set i (.ow (ds ++ [d]))) else none) (o.bind R.d) (owR ρ i)
theorem oss_append (i : Nat) {apos : Pos} (he : OE X ρ e oa) (hk : ∀ ρ', OS X W ρ' rest (k ρ')) (hN : X.N[i]? = some x := by rfl) (hv : Vis X.env.scope x := by first | exact Or.inl rfl | exact Or.inr (Or.inl rfl) | exact Or.inr (Or.inr rfl))
    (hd : (x == ("__debug__" : Str)) = false := by decide) (hcd : (x == ("__classdict__" : Str)) = false := by decide) (hs : swapsWith (.Call (.Attribute (.Name x p) "append" apos) [e] [] p2) none pos.line X.env = pure false := by rfl) (h1 : attributeBase (.Name x p) "append" X.env (eval (.Name x p) X.env) = eval (.Name x p) X.env := by rfl)
    (hfew : ((backTo p2 (starEach [e] X.env)).all (fun x => !x.1) && (backToKw p2 (keywordEach [] X.env)).all (fun x => x.1.isSome) && decide ([e].length + ([] : List Keyword).length + (if ([] : List Keyword).isEmpty then 0 else 1) < 30)) = true := by rfl)
    (h3 : (apos.endLine == p2.line) = true := by rfl) (h2 : starEach [e] X.env = (false, eval e X.env) :: starEach [] X.env := by rfl) (h4 : (backTo p2 (starEach ([] : List Expr) X.env)).any (·.1) = false := by rfl) :
    OS X W ρ (.Expr (.Call (.Attribute (.Name x p) "append" apos) [e] [] p2) pos :: rest) (appO i oa k ρ) := fun out h => by
  obtain ⟨d, ds, e1, e2, h⟩ := o2_eq h
  split at h
  · rename_i hz; exact dss_append i (he.toD e1) hz (hk _ _ h) (owR_eq e2) hN hv hd hcd hs h1 hfew h3 h2 h4
  · cases h
def extO (i : Nat) (o : Option R) (k : Kt) (ρ : Ev) : Option Out := o2 (fun es ds => if ds.length + es.length ≤ sizeLine then k (ρ.set i (.ow (ds ++ es))) else none) (o.bind R.l) (owR ρ i)
theorem OE.toL (h : OE X ρ e oa) (q : oa.bind R.l = some ds) : DL X ρ e ds := by
  obtain ⟨x, rfl, m⟩ := Option.bind_eq_some_iff.mp q
  exact (h _ rfl).toL m
theorem oss_extend (i : Nat) {apos : Pos} (he : OE X ρ e oa) (hk : ∀ ρ', OS X W ρ' rest (k ρ')) (hN : X.N[i]? = some x := by rfl) (hv : Vis X.env.scope x := by first | exact Or.inl rfl | exact Or.inr (Or.inl rfl) | exact Or.inr (Or.inr rfl))
    (hd : (x == ("__debug__" : Str)) = false := by decide) (hcd : (x == ("__classdict__" : Str)) = false := by decide) (hs : swapsWith (.Call (.Attribute (.Name x p) "extend" apos) [e] [] p2) none pos.line X.env = pure false := by rfl) (h1 : attributeBase (.Name x p) "extend" X.env (eval (.Name x p) X.env) = eval (.Name x p) X.env := by rfl)
    (hfew : ((backTo p2 (starEach [e] X.env)).all (fun x => !x.1) && (backToKw p2 (keywordEach [] X.env)).all (fun x => x.1.isSome) && decide ([e].length + ([] : List Keyword).length + (if ([] : List Keyword).isEmpty then 0 else 1) < 30)) = true := by rfl)
    (h3 : (apos.endLine == p2.line) = true := by rfl) (h2 : starEach [e] X.env = (false, eval e X.env) :: starEach [] X.env := by rfl) (h4 : (backTo p2 (starEach ([] : List Expr) X.env)).any (·.1) = false := by rfl) :
    OS X W ρ (.Expr (.Call (.Attribute (.Name x p) "extend" apos) [e] [] p2) pos :: rest) (extO i oa k ρ) := fun out h => by
  obtain ⟨d, ds, e1, e2, h⟩ := o2_eq h
  split at h
  · rename_i hz; exact dss_extend i (he.toL e1) hz (hk _ _ h) (owR_eq e2) hN hv hd hcd hs h1 hfew h3 h2 h4
  · cases h
def putO (i : Nat) (oi : Option R) (o : Option R) (k : Kt) (ρ : Ev) : Option Out := o2 (fun d ds => (oi.bind R.i).bind fun j => (ixN ds.length j).bind fun n => k (ρ.set i (.ow (ds.set n d)))) (o.bind R.d) (owR ρ i)
theorem oss_put (i : Nat) {q1 q2 : Pos} (he : OE X ρ e oa) (hb : OE X ρ b ob) (hk : ∀ ρ', OS X W ρ' rest (k ρ')) (hN : X.N[i]? = some x := by rfl) (hv : Vis X.env.scope x := by first | exact Or.inl rfl | exact Or.inr (Or.inl rfl) | exact Or.inr (Or.inr rfl))
    (hd : (x == ("__debug__" : Str)) = false := by decide) (hcd : (x == ("__classdict__" : Str)) = false := by decide) (hs : swapsWithSole [.Subscript (.Name x q1) b q2] e pos.line X.env = pure false := by rfl) (hw : swappedStores [.Subscript (.Name x q1) b q2] e X.env = pure none := by rfl)
    (h1 : (assignEach [.Subscript (.Name x q1) b q2] X.env).map (·.2) = [assign (.Subscript (.Name x q1) b q2) X.env] := by rfl)
    (ha : ∀ v, assign (.Subscript (.Name x q1) b q2) X.env v = (do
      let ov ← holding [v] (eval (.Name x q1) X.env)
      let iv ← holding [v, ov] (eval b X.env)
      standAt q2
      holding [v, ov, iv] (setItem ov iv v)
      release [v, ov, iv] []) := by intro _; rfl) :
    OS X W ρ (.Assign [.Subscript (.Name x q1) b q2] e pos :: rest) (putO i ob oa k ρ) := fun out h => by
  obtain ⟨d, ds, e1, e3, h⟩ := o2_eq h
  obtain ⟨j, e2, h5⟩ := Option.bind_eq_some_iff.mp h
  obtain ⟨n, h5, h6⟩ := Option.bind_eq_some_iff.mp h5
  obtain ⟨z, rfl, m⟩ := Option.bind_eq_some_iff.mp e2
  obtain rfl := R.i_eq m
  exact dss_put i (he.toD e1) (hb _ rfl) h5 (hk _ _ h6) (owR_eq e3) hN hv hd hcd hs hw h1 ha
/-- x op= e of ints -/
structure Aop (op : Operator) (g : Int → Int → Option Int) : Prop where
  h : ∀ (X : Cx) (i j k : Int), g i j = some k → PIp X op (fun x y H Q => x = .int i ∧ y = .int j ∧ Q (.int k) H)
def augO (i : Nat) (g : Int → Int → Option Int) (o : Option R) (k : Kt) (ρ : Ev) : Option Out := match ρ[i]?, o with
  | some (.sh (.int u)), some (.v (.int v)) => (g u v).bind fun w => k (ρ.set i (.sh (.int w)))
  | _, _ => none
theorem oss_aug (i : Nat) {pos' : Pos} {op : Operator} {f : Int → Int → Option Int} (g : Gs n X W) (ho : Aop op f) (he : OE X ρ e oa) (hk : ∀ ρ', OS X W ρ' rest (k ρ')) (hi : X.N[i]? = some x := by rfl) (hx : Loc X.env.scope x := by first | exact .inl rfl | exact .inr rfl) (hf : X.fn x = true ∨ X.env.scope.names.lookup x = some .local := by first | exact .inl rfl | exact .inr rfl) :
    OS X W ρ (.AugAssign (.Name x pos') op e pos :: rest) (augO i f oa k ρ) := fun out h => by
  unfold augO at h
  split at h
  · rename_i e1
    obtain ⟨w, h1, h2⟩ := Option.bind_eq_some_iff.mp h
    refine dss_then (PS.weak (ps_aug g.ge.nd hi hx (he _ rfl) (ho.h X _ _ _ h1) hf) fun B σ H ⟨F0, H0, F, o, f⟩ => ?_) (hk _ _ h2)
    obtain ⟨w, e, y, rfl, r⟩ := slot_at o e1
    refine ⟨y, e, F0, H0, F, o, fun z F' H' f' r' => ?_⟩
    cases r; cases r'
    exact ⟨rfl, rfl, f.nx _ _ _ _ rfl ((o.call f').put (i := i) (s := .sh (.int _)) ⟨_, rfl, rfl⟩ fun a h => by cases h)⟩
  · cases h
theorem aop_add : Aop .Add (fun i j => some (i + j)) := ⟨fun X i j k h => by
  cases h; intro pins s σ H x y v u Q I r1 r2 ⟨e1, e2, q⟩; subst e1; subst e2
  obtain ⟨t, rfl⟩ := r1; obtain ⟨t', rfl⟩ := r2
  exact iadd_int ⟨.int _, H, I.tok _, ⟨_, rfl⟩, q⟩⟩
theorem aop_sub : Aop .Sub (fun i j => some (i - j)) := ⟨fun X i j k h => by
  cases h; intro pins s σ H x y v u Q I r1 r2 ⟨e1, e2, q⟩; subst e1; subst e2
  obtain ⟨t, rfl⟩ := r1; obtain ⟨t', rfl⟩ := r2
  exact isub_int ⟨.int _, H, I.tok _, ⟨_, rfl⟩, q⟩⟩
theorem aop_xor : Aop .BitXor (fun i j => some (Builtin.bitXor i j)) := ⟨fun X i j k h => by
  cases h; intro pins s σ H x y v u Q I r1 r2 ⟨e1, e2, q⟩; subst e1; subst e2
  obtain ⟨t, rfl⟩ := r1; obtain ⟨t', rfl⟩ := r2
  exact ixor_int ⟨.int _, H, I.tok _, ⟨_, rfl⟩, q⟩⟩
theorem aop_shr : Aop .RShift (fun i j => if 0 ≤ j then some (i / 2 ^ j.toNat) else none) := ⟨fun X i j k h => by
  split at h
  · rename_i hj
    cases h; intro pins s σ H x y v u Q I r1 r2 ⟨e1, e2, q⟩; subst e1; subst e2
    obtain ⟨t, rfl⟩ := r1; obtain ⟨t', rfl⟩ := r2
    refine irshift_int hj ?_
    rw [Int.fdiv_eq_ediv_of_nonneg i (Int.le_of_lt (Int.pow_pos (by decide)))]
    exact ⟨.int _, H, I.tok _, ⟨_, rfl⟩, q⟩
  · cases h⟩
/-! loops -/
def forL (g : D → Ev → Option Ev) (B : Kt) : List D → Ev → Option Out
  | [], ρ => some (.nx ρ)
  | d :: ds, ρ => (g d ρ).bind fun ρ1 => (B ρ1).bind fun o => match o with
    | .nx ρ2 => forL g B ds ρ2
    | .ct ρ2 => forL g B ds ρ2
    | .bk ρ2 => some (.nx ρ2)
    | .rt d => some (.rt d)
    | .ro ds => some (.ro ds)
    | .rs x ρ => some (.rs x ρ)
    | .rtt t => some (.rtt t)
def forO (src : Option (List D)) (g : D → Ev → Option Ev) (B : Kt) (k : Kt) (ρ : Ev) : Option Out := src.bind fun ds => (forL g B ds ρ).bind (joinK k)
theorem oss_for {src : Option (List D)} {t : D → Ev → Option Ev} {ts : List Nat} {Bk : Kt} (g : Gs n X W) (hit : OI X ρ tg it src) (ht : OG X tg t ts) (hb : ∀ ρ, OS X W ρ body (Bk ρ)) (hk : ∀ ρ', OS X W ρ' rest (k ρ')) (hs : ∀ x, foldedSetIterable it X.env x = pure x := by intro _; rfl) :
    OS X W ρ (.For tg it body [] pos :: rest) (forO src t Bk k ρ) := fun out h => by
  obtain ⟨ds, rfl, h1⟩ := Option.bind_eq_some_iff.mp h
  obtain ⟨mid, h2, h3⟩ := Option.bind_eq_some_iff.mp h1
  refine oss_join (mid := mid) (ds_for (I := fun i ρ1 => forL t Bk (ds.drop i) ρ1 = some mid) g.own g.ge.calm (hit _ rfl) h2 (fun i d ρ1 hd hI => ?_) (fun ρ1 hI => ?_) hs) hk h3
  · have hlt : i < ds.length := (List.getElem?_eq_some_iff.mp hd).1
    have hdd : ds[i] = d := (List.getElem?_eq_some_iff.mp hd).2
    rw [List.drop_eq_getElem_cons hlt, hdd] at hI
    obtain ⟨ρ2, q1, q2⟩ := Option.bind_eq_some_iff.mp (show (t d ρ1).bind _ = some mid from hI)
    obtain ⟨o, q3, q4⟩ := Option.bind_eq_some_iff.mp q2
    refine ⟨ρ2, ts, ht _ _ _ q1, (hb ρ2 o q3).imp fun o' e => ?_⟩
    subst e
    cases o' with
    | nx ρ3 => exact q4
    | ct ρ3 => exact q4
    | bk ρ3 => exact Option.some.inj q4
    | rt d => exact Option.some.inj q4
    | ro ds => exact Option.some.inj q4
    | rs x ρ => exact Option.some.inj q4
    | rtt t => exact Option.some.inj q4
  · rw [List.drop_length] at hI
    exact Option.some.inj hI
def whileF (c : Ev → Option Bool) (B : Kt) : Nat → Ev → Option Out
  | 0, _ => none
  | n + 1, ρ => match c ρ with
    | none => none
    | some false => some (.nx ρ)
    | some true => (B ρ).bind fun o => match o with
      | .nx ρ2 => whileF c B n ρ2
      | .ct ρ2 => whileF c B n ρ2
      | .bk ρ2 => some (.nx ρ2)
      | .rt d => some (.rt d)
      | .ro ds => some (.ro ds)
      | .rs x ρ => some (.rs x ρ)
      | .rtt t => some (.rtt t)
open Classical in
noncomputable def whileL (c : Ev → Option Bool) (B : Kt) (ρ : Ev) : Option Out := if h : ∃ n o, whileF c B n ρ = some o then some h.choose_spec.choose else none
theorem whileF_mono {c : Ev → Option Bool} {B : Kt} : ∀ {n m : Nat} {ρ : Ev} {o : Out}, n ≤ m → whileF c B n ρ = some o → whileF c B m ρ = some o
  | 0, _, _, _, _, h => by cases h
  | n + 1, 0, _, _, hm, _ => by omega
  | n + 1, m + 1, ρ, o, hm, h => by
    unfold whileF at h ⊢
    cases e : c ρ with
    | none => rw [e] at h; cases h
    | some z => cases z with
      | false => rw [e] at h; exact h
      | true =>
        rw [e] at h
        obtain ⟨o1, q1, q2⟩ := Option.bind_eq_some_iff.mp (show (B ρ).bind _ = some o from h)
        show (B ρ).bind _ = some o
        rw [q1]
        cases o1 with
        | nx ρ2 => exact whileF_mono (by omega) q2
        | ct ρ2 => exact whileF_mono (by omega) q2
        | bk ρ2 => exact q2
        | rt d => exact q2
        | ro ds => exact q2
        | rs x ρ => exact q2
        | rtt t => exact q2
theorem whileL_of {c : Ev → Option Bool} {B : Kt} {n : Nat} {ρ : Ev} {o : Out} (h : whileF c B n ρ = some o) : whileL c B ρ = some o := by
  have e : ∃ n o, whileF c B n ρ = some o := ⟨n, o, h⟩
  unfold whileL
  rw [dif_pos e]
  have h2 := e.choose_spec.choose_spec
  have a := whileF_mono (Nat.le_max_left n e.choose) h
  have b := whileF_mono (Nat.le_max_right n e.choose) h2
  rw [a] at b
  exact b.symm
theorem whileL_eq {c : Ev → Option Bool} {B : Kt} {ρ : Ev} {o : Out} (h : whileL c B ρ = some o) : ∃ n, whileF c B n ρ = some o := by
  unfold whileL at h
  split at h
  · rename_i e; cases h; exact ⟨_, e.choose_spec.choose_spec⟩
  · cases h
noncomputable def whileO (c : Ev → Option Bool) (B : Kt) (k : Kt) (ρ : Ev) : Option Out := (whileL c B ρ).bind (joinK k)
theorem oss_while {cc : Ev → Option Bool} {Bk : Kt} (g : Gs n X W) (hc : ∀ ρ, OT X ρ c (cc ρ)) (hb : ∀ ρ, OS X W ρ body (Bk ρ)) (hk : ∀ ρ', OS X W ρ' rest (k ρ')) : OS X W ρ (.While c body [] pos :: rest) (whileO cc Bk k ρ) := fun out h => by
  obtain ⟨mid, h2, h3⟩ := Option.bind_eq_some_iff.mp h
  obtain ⟨m, h2⟩ := whileL_eq h2
  refine oss_join (mid := mid) (ds_while (I := fun m ρ1 => whileF cc Bk m ρ1 = some mid) g.own m h2 (fun m ρ1 hI => ?_)) hk h3
  cases m with
  | zero => cases hI
  | succ m =>
    unfold whileF at hI
    cases e : cc ρ1 with
    | none => rw [e] at hI; cases hI
    | some z =>
      rw [e] at hI
      cases z with
      | false => exact ⟨false, hc _ _ e, (fun z => by cases z), fun _ => Option.some.inj hI⟩
      | true =>
        refine ⟨true, hc _ _ e, fun _ => ?_, fun z => by cases z⟩
        obtain ⟨o, q3, q4⟩ := Option.bind_eq_some_iff.mp (show (Bk ρ1).bind _ = some mid from hI)
        refine (hb ρ1 o q3).imp fun o' e => ?_
        subst e
        cases o' with
        | nx ρ3 => exact ⟨m, Nat.lt_succ_self m, q4⟩
        | ct ρ3 => exact ⟨m, Nat.lt_succ_self m, q4⟩
        | bk ρ3 => exact Option.some.inj q4
        | rt d => exact Option.some.inj q4
        | ro ds => exact Option.some.inj q4
        | rs x ρ => exact Option.some.inj q4
        | rtt t => exact Option.some.inj q4
end
end DL

set_option Elab.async false
set_option linter.all false
set_option maxRecDepth 100000
set_option autoImplicit false
/-! raise, try, defs -/
namespace DL
open PySem PySem.Spec PyProof.Rows L2

section
variable {X : Cx} {W : WX} {ρ ρ' : Ev} {tg it e a b c : Expr} {es : List Expr} {d d1 d2 : D} {ds ds1 ds2 : List D} {pos p p2 p3 : Pos} {st : Stmt} {A B body rest : List Stmt} {oa ob oc : Option R} {n : Nat} {os : Option (List D)} {k : Kt} {x y fn : Str} {out : Out} {C : Addr} {ex : Exc}
theorem oss_raiseP {m : Str} {j : Nat} (g : Gs n X W) (G : ErP X.K X.mg x C) (hg : Gl X x := by rfl) (hdb : (x == ("__debug__" : Str)) = false := by decide) :
    OS X W ρ (.Raise (some (.Call (.Name x p) [.Constant (.str m) j p2] [] p3)) none pos :: rest) (some (.rs (excP C) ρ)) := fun out h => by
  cases h; exact dss_raiseP g.ge.calm g.tk G rfl hg hdb
def raiO (C : Addr) (fn : Str) (o : Option R) (ρ : Ev) : Option Out := (o.bind R.d).map fun d => .rs (excF C fn d) ρ
theorem oss_raiseF (g : Gs n X W) (G : ErF X.prog X.w X.K X.mg X.base x C fn) (he : OE X ρ e oa) (hg : Gl X x := by rfl) (hdb : (x == ("__debug__" : Str)) = false := by decide)
    (hs : starEach (e :: []) X.env = (false, eval e X.env) :: starEach [] X.env := by rfl) (hpl : (backTo p3 (starEach ([] : List Expr) X.env)).any (·.1) = false := by rfl) :
    OS X W ρ (.Raise (some (.Call (.Name x p) [e] [] p3)) none pos :: rest) (raiO C fn oa ρ) := fun out h => by
  obtain ⟨d, h1, rfl⟩ := Option.map_eq_some_iff.mp h
  exact dss_raiseF g.ge.calm g.tk (g.ge.room.toRoom.mono g.two) G (he.toD h1) rfl hg hdb hs hpl

/-! try .. except x [as z] -/
/-- what a suite does at a caught error, slot i (if any) apart -/
def OU (X : Cx) (ex : Exc) (f : Addr → Option Addr → Ev → Ev) (clean : Ev → Ev) (ρ : Ev) (st : List Stmt) (o : Option Out) : Prop := ∀ out, o = some out → InSuite X ex fun a dd oe Y => DSs Y W0 (f a dd ρ) st (fun u => match u with
  | .nx ρ2 => out = .nx (clean ρ2) | .bk ρ2 => out = .bk (clean ρ2) | .ct ρ2 => out = .ct (clean ρ2) | .rt d => out = .rt d | .ro ds => out = .ro ds | .rs _ _ => False | .rtt t => out = .rtt t)
def tryO (oB : Option Out) (M : Exc → Option Bool) (S : Exc → Ev → Option Out) (k : Kt) : Option Out := (oB.bind fun o => match o with
  | .rs ex ρ1 => (M ex).bind fun b => if b = true then S ex ρ1 else some (.rs ex ρ1)
  | .nx ρ => some (.nx ρ)
  | .bk ρ => some (.bk ρ)
  | .ct ρ => some (.ct ρ)
  | .rt d => some (.rt d)
  | .ro ds => some (.ro ds)
  | .rtt t => some (.rtt t)).bind (joinK k)
theorem Gs.tr {V : WX} {pn : List (Addr × Obj)} {xe : Value → Shared → Prop} (g : Gs n X W) (tk : Takes (X.tr pn xe) V) (ow : PassesOwn (model X.prog X.w) X.A X.env xe) : Gs n (X.tr pn xe) V := ⟨⟨g.ge.nd, g.ge.calm, g.ge.room⟩, ow, tk, g.two⟩
theorem oss_tryAs {y z : Str} {c : Value} {b₀ : Stmt} {suite : List Stmt} {np pos' : Pos} {oB : Option Out} {M : Exc → Option Bool} {S : Exc → Ev → Option Out} (i : Nat) (g : Gs n X W) (hc : Names X y c) (hM : ∀ ex b, M ex = some b → PySem.W.exmOne X.K ex.cls c = some b)
    (hb : ∀ (V : WX) (pn : List (Addr × Obj)) (xe : Value → Shared → Prop), Gs n (X.tr pn xe) V → OS (X.tr pn xe) V ρ body oB)
    (hS : ∀ ex ρ1, M ex = some true → OU X ex (fun a dd ρ => ρ.set i (.sh (caught a dd ex))) (fun ρ => ρ.set i .un) ρ1 (b₀ :: suite) (S ex ρ1)) (hk : ∀ ρ', OS X W ρ' rest (k ρ'))
    (hs : X.stack = X.env :: X.outer := by rfl) (hf : X.env.frame = some X.env.locals := by rfl) (hi : X.N[i]? = some z := by rfl) (hl : X.env.kindOf z = some .local := by rfl) :
    OS X W ρ (.Try body [.ExceptHandler (some (.Name y np)) (some z) (b₀ :: suite) pos'] [] [] pos :: rest) (tryO oB M S k) := fun out h => by
  obtain ⟨mid, h1, h2⟩ := Option.bind_eq_some_iff.mp h
  obtain ⟨o, rfl, h3⟩ := Option.bind_eq_some_iff.mp h1
  refine oss_join (mid := mid) (ds_tryAs i (· = o) g.ge.nd hc g.tk (fun V pn xe tk ow => hb V pn xe (g.tr tk ow) o rfl) (fun o' hr e => ?_) (fun ex ρ1 e => ?_) hs hf hi hl) hk h2
  · subst e
    cases o' with
    | rs x ρ => cases hr
    | _ => exact Option.some.inj h3
  · subst e
    obtain ⟨b, h4, h5⟩ := Option.bind_eq_some_iff.mp (show (M ex).bind (fun b => if b = true then S ex ρ1 else some (.rs ex ρ1)) = some mid from h3)
    refine ⟨b, hM _ _ h4, fun hb => ?_, fun hb => ?_⟩
    · subst hb
      intro a dd oe pn q1 q2 q3 q4
      refine (hS ex ρ1 h4 mid h5 a dd oe pn q1 q2 q3 q4).imp fun u hu => ?_
      cases u with
      | nx ρ2 => exact hu.symm
      | bk ρ2 => exact hu.symm
      | ct ρ2 => exact hu.symm
      | rt d => exact hu.symm
      | ro ds => exact hu.symm
      | rs x ρ => exact hu
      | rtt t => exact hu.symm
    · subst hb
      exact Option.some.inj h5
theorem ds_tryOnly {y : Str} {c : Value} {b₀ : Stmt} {suite : List Stmt} {np pos' : Pos} {Post : Out → Prop} (PostB : Out → Prop) (hN : X.N.Nodup) (hc : Names X y c) (tk : Takes X W)
    (hb : ∀ (V : WX) (pn : List (Addr × Obj)) (xe : Value → Shared → Prop), Takes (X.tr pn xe) V → PassesOwn (model X.prog X.w) X.A X.env xe → DSs (X.tr pn xe) V ρ body PostB)
    (hn : ∀ o, o.rsd = false → PostB o → Post o)
    (hx : ∀ ex ρ1, PostB (.rs ex ρ1) → ∃ k, PySem.W.exmOne X.K ex.cls c = some k ∧
      (k = true → InSuite X ex fun a dd oe Y => DSs Y W0 ρ1 (b₀ :: suite) (fun o => match o with
        | .nx ρ2 => Post (.nx ρ2) | .bk ρ2 => Post (.bk ρ2) | .ct ρ2 => Post (.ct ρ2) | .rt d => Post (.rt d) | .ro ds => Post (.ro ds) | .rs _ _ => False | .rtt t => Post (.rtt t))) ∧ (k = false → Post (.rs ex ρ1)))
    (hs : X.stack = X.env :: X.outer := by rfl) (hf : X.env.frame = some X.env.locals := by rfl) :
    DS X W ρ (.Try body [.ExceptHandler (some (.Name y np)) none (b₀ :: suite) pos'] [] [] pos) Post := by
  let SP : Addr → Value → Option Addr → Ev → (Out → Prop) → Prop := fun a cls dd ρ2 P => ∀ (oe : Obj) (pn : List (Addr × Obj)), Zc cls dd oe → (∃ vs, oe.data = .fields vs) → DSs (X.suite a ((a, oe) :: pn)) W0 ρ2 (b₀ :: suite) P
  refine PS.weak (ps_try_only (tb := fun V => tS X.K V ρ PostB) (ts := fun a cls dd B σ H => ∃ ρ2 P, SP a cls dd ρ2 P ∧ tS X.K W0 ρ2 P B σ H) hs hf hc tk hb fun a oe cls dd pn hz hfv => ⟨fun pins s σ H B I ⟨ρ2, P, h, q⟩ => (h oe pn hz hfv).run pins s σ H B I q⟩) fun B σ H ⟨F0, H0, F, o, f⟩ => ⟨F0, H0, F, o, ?_⟩
  refine ⟨fun ρ F H σ q o => f.nx _ _ _ _ (hn _ rfl q) o, fun ρ F H σ q o => f.bk _ _ _ _ (hn _ rfl q) o, fun ρ F H σ q o => f.ct _ _ _ _ (hn _ rfl q) o, fun d v F H q o r => f.rt _ _ _ _ (hn _ rfl q) o r, fun ds p xs F H q o n e1 e2 r => f.ro _ _ _ _ _ (hn _ rfl q) o n e1 e2 r, ?_, fun t x fp F H q => f.rtt t x fp F H (hn _ rfl q)⟩
  intro ex ρ1 σ F1 H1 cls d q o1 xk
  obtain ⟨kk, e1, y1, y2⟩ := hx ex ρ1 q
  obtain ⟨ec, xd⟩ := xk
  subst ec
  refine ⟨kk, e1, fun hk a ha => ?_, fun hk => f.rs _ _ _ _ _ _ _ (y2 hk) o1 ⟨rfl, xd⟩⟩
  have hd1 : ex.fs = none → d = none := fun z => by rw [z] at xd; exact xd
  have hd2 : ex.fs ≠ none → d ≠ none := fun z => by
    cases hfs : ex.fs with
    | none => exact (z hfs).elim
    | some fs =>
      rw [hfs] at xd
      obtain ⟨a', gs, e, _⟩ := xd
      rw [e]; simp
  refine ⟨ρ1, _, fun oe pn hz hfv => y1 hk a d oe pn hd1 hd2 hz hfv, F0, H0, F1, o1, ?_⟩
  exact ⟨fun ρ F H σ q o => f.nx _ _ _ _ q o, fun ρ F H σ q o => f.bk _ _ _ _ q o, fun ρ F H σ q o => f.ct _ _ _ _ q o, fun d v F H q o r => f.rt _ _ _ _ q o r, fun ds p xs F H q o n e1 e2 r => f.ro _ _ _ _ _ q o n e1 e2 r, fun _ _ _ _ _ _ _ q => q.elim, fun t x fp F H q => f.rtt t x fp F H q⟩
theorem oss_tryOnly {y : Str} {c : Value} {b₀ : Stmt} {suite : List Stmt} {np pos' : Pos} {oB : Option Out} {M : Exc → Option Bool} {S : Exc → Ev → Option Out} (g : Gs n X W) (hc : Names X y c) (hM : ∀ ex b, M ex = some b → PySem.W.exmOne X.K ex.cls c = some b)
    (hb : ∀ (V : WX) (pn : List (Addr × Obj)) (xe : Value → Shared → Prop), Gs n (X.tr pn xe) V → OS (X.tr pn xe) V ρ body oB)
    (hS : ∀ ex ρ1, M ex = some true → OU X ex (fun _ _ ρ => ρ) (fun ρ => ρ) ρ1 (b₀ :: suite) (S ex ρ1)) (hk : ∀ ρ', OS X W ρ' rest (k ρ'))
    (hs : X.stack = X.env :: X.outer := by rfl) (hf : X.env.frame = some X.env.locals := by rfl) :
    OS X W ρ (.Try body [.ExceptHandler (some (.Name y np)) none (b₀ :: suite) pos'] [] [] pos :: rest) (tryO oB M S k) := fun out h => by
  obtain ⟨mid, h1, h2⟩ := Option.bind_eq_some_iff.mp h
  obtain ⟨o, rfl, h3⟩ := Option.bind_eq_some_iff.mp h1
  refine oss_join (mid := mid) (ds_tryOnly (· = o) g.ge.nd hc g.tk (fun V pn xe tk ow => hb V pn xe (g.tr tk ow) o rfl) (fun o' hr e => ?_) (fun ex ρ1 e => ?_) hs hf) hk h2
  · subst e
    cases o' with
    | rs x ρ => cases hr
    | _ => exact Option.some.inj h3
  · subst e
    obtain ⟨b, h4, h5⟩ := Option.bind_eq_some_iff.mp (show (M ex).bind (fun b => if b = true then S ex ρ1 else some (.rs ex ρ1)) = some mid from h3)
    refine ⟨b, hM _ _ h4, fun hb => ?_, fun hb => ?_⟩
    · subst hb
      intro a dd oe pn q1 q2 q3 q4
      refine (hS ex ρ1 h4 mid h5 a dd oe pn q1 q2 q3 q4).imp fun u hu => ?_
      cases u with
      | nx ρ2 => exact hu.symm
      | bk ρ2 => exact hu.symm
      | ct ρ2 => exact hu.symm
      | rt d => exact hu.symm
      | ro ds => exact hu.symm
      | rs x ρ => exact hu
      | rtt t => exact hu.symm
    · subst hb
      exact Option.some.inj h5
end
/-! suites: the slots are those without the caught error, put through f -/
section
variable {X : Cx} {ρ : Ev} {e a b c : Expr} {es : List Expr} {d d1 d2 : D} {ds : List D} {pos p p2 : Pos} {A B rest : List Stmt} {oa ob : Option R} {x y fn : Str} {ex : Exc} {f : Addr → Option Addr → Ev → Ev} {cl : Ev → Ev} {k : Kt}
/-- an expression in a suite -/
def UE (X : Cx) (ex : Exc) (f : Addr → Option Addr → Ev → Ev) (ρ : Ev) (e : Expr) (o : Option R) : Prop := InSuite X ex fun a dd oe Y => OE Y (f a dd ρ) e o
def UT (X : Cx) (ex : Exc) (f : Addr → Option Addr → Ev → Ev) (ρ : Ev) (e : Expr) (o : Option Bool) : Prop := InSuite X ex fun a dd oe Y => OT Y (f a dd ρ) e o
theorem ou_ret (he : UE X ex f ρ e oa) : OU X ex f cl ρ (.Return (some e) pos :: rest) (retO oa) := fun out h a dd oe pn q1 q2 q3 q4 => by
  have he := he a dd oe pn q1 q2 q3 q4
  unfold retO at h
  split at h
  · cases h; exact dss_ret (he _ rfl) rfl
  · cases h; exact dss_retN (he _ rfl) rfl
  · cases h
theorem ou_if {x : Option Bool} {oA : Option Out} (hc : UT X ex f ρ c x) (hA : OU X ex f cl ρ A oA) (hnx : ∀ o, oA = some o → o.nxt = false) {oR : Option Out} (hk : OU X ex f cl ρ rest oR) : OU X ex f cl ρ (.If c A [] pos :: rest) (ifR x oA oR) := fun out h a dd oe pn q1 q2 q3 q4 => by
  have hc := hc a dd oe pn q1 q2 q3 q4
  cases x with
  | none => cases h
  | some z =>
    refine dss_ifR (hc _ rfl) (fun e => ?_) (fun e => ?_)
    · subst e
      refine (hA out h a dd oe pn q1 q2 q3 q4).imp fun u hu => ?_
      have hn := hnx out h
      cases u with
      | nx ρ2 => rw [show out = _ from hu] at hn; cases hn
      | _ => exact ⟨rfl, hu⟩
    · subst e
      exact hk out h a dd oe pn q1 q2 q3 q4
theorem ou_nil (hf : ∀ a dd, cl (f a dd ρ) = ρ) : OU X ex f cl ρ [] (some (.nx ρ)) := fun out h a dd oe pn q1 q2 q3 q4 => by
  cases h
  refine dss_nil ?_
  show Out.nx ρ = .nx (cl (f a dd ρ))
  rw [hf]
theorem ou_set (i : Nat) {pos' : Pos} (hN : X.N.Nodup) (he : UE X ex f ρ e oa) (hf : ∀ a dd s, (f a dd ρ).set i s = f a dd (ρ.set i s)) (hk : ∀ ρ', OU X ex f cl ρ' rest (k ρ')) (hi : X.N[i]? = some x := by rfl) (hx : Loc X.env.scope x := by first | exact .inl rfl | exact .inr rfl) (hs : swapsWith e (some (.Name x pos')) pos.line X.env = pure false := by rfl) (hf2 : X.fn x = true ∨ X.env.scope.names.lookup x = some .local := by first | exact .inl rfl | exact .inr rfl) :
    OU X ex f cl ρ (.Assign [.Name x pos'] e pos :: rest) (setS i oa k ρ) := fun out h a dd oe pn q1 q2 q3 q4 => by
  obtain ⟨d, h1, h2⟩ := Option.bind_eq_some_iff.mp h
  have he := he a dd oe pn q1 q2 q3 q4
  refine dss_set i (show (X.suite a ((a, oe) :: pn)).N.Nodup from hN) (he.toD h1) ?_ hi hx hs hf2
  rw [hf]
  exact hk _ _ h2 a dd oe pn q1 q2 q3 q4
/-- e.field of the caught one -/
def exfR (ex : Exc) (n : Str) : Option R := (ex.fs.bind fun fs => fs.lookup n).map .v
theorem ue_fld (i : Nat) (hN : X.N[i]? = some x) (hv : Vis X.env.scope x) (hlen : i < ρ.length) (hd : (x == ("__debug__" : Str)) = false) (hcd : (x == ("__classdict__" : Str)) = false) (T : ∀ C, ex.cls = .ref C → ex.fs ≠ none → XfC X.K C ∧ PySem.W.findIn X.K (.ref C) fn = some none) (hC : ∃ C, ex.cls = .ref C)
    (hb : attributeBase (.Name x p) fn X.env (eval (.Name x p) X.env) = eval (.Name x p) X.env) : UE X ex (fun a dd ρ => ρ.set i (.sh (caught a dd ex))) ρ (.Attribute (.Name x p) fn pos) (exfR ex fn) := fun a dd oe pn q1 q2 q3 q4 r h => by
  obtain ⟨d, h1, rfl⟩ := Option.map_eq_some_iff.mp h
  obtain ⟨fs, h2, h3⟩ := Option.bind_eq_some_iff.mp h1
  obtain ⟨C, hC⟩ := hC
  have hne : ex.fs ≠ none := by rw [h2]; simp
  obtain ⟨t1, t2⟩ := T C hC hne
  have hdd := q2 hne
  obtain ⟨dv, rfl⟩ := Option.ne_none_iff_exists'.mp hdd
  have hcg : caught a (some dv) ex = .xo a dv fs := by unfold caught; rw [h2]
  rw [hC] at q3
  refine de_xf t1 t2 q3 q4 (fs := fs) ?_ h3 hb
  show DE _ (ρ.set i (.sh (caught a (some dv) ex))) _ _
  rw [hcg]
  exact de_var i (by simp [hlen]) hN hv hd hcd
/-- isinstance(e, C2) of the caught one -/
theorem ue_is (i : Nat) {C2 : Addr} {z : Str} {t : Bool} {p1 p2 : Pos} (hN : X.N[i]? = some x) (hv : Vis X.env.scope x) (hlen : i < ρ.length) (hd : (x == ("__debug__" : Str)) = false) (hcd : (x == ("__classdict__" : Str)) = false) (T : ∀ C, ex.cls = .ref C → ExcC X.K C) (hC : ∃ C, ex.cls = .ref C) (hm : X.mg "isinstance" = none)
    {cv : V} {cu : Value} (hc : ∀ (a : Addr) (oe : Obj) (pn : List (Addr × Obj)) (ρ : Ev), DE (X.suite a ((a, oe) :: pn)) ρ (.Name z p2) (.sc cv)) (hcv : ∀ u, RelV cv u → u = cu) {M : Exc → Option Bool} (hk : ∀ b, M ex = some b → PySem.W.kitOne X.K ex.cls cu = some b)
    (hs : starEach (Expr.Name x p :: [.Name z p2]) X.env = (false, eval (.Name x p) X.env) :: starEach [.Name z p2] X.env := by rfl) (hs2 : starEach (Expr.Name z p2 :: []) X.env = (false, eval (.Name z p2) X.env) :: starEach [] X.env := by rfl) (hg : Gl X "isinstance" := by rfl) (hpl : (backTo pos (starEach [Expr.Name z p2] X.env)).any (·.1) = false := by rfl) :
    UE X ex (fun a dd ρ => ρ.set i (.sh (caught a dd ex))) ρ (.Call (.Name "isinstance" p1) [.Name x p, .Name z p2] [] pos) (bO (M ex)) := fun a dd oe pn q1 q2 q3 q4 r h => by
  obtain ⟨b, h1, rfl⟩ := Option.map_eq_some_iff.mp h
  obtain ⟨C, hC⟩ := hC
  have hkk := hk b h1
  rw [hC] at q3 hkk
  have hvar : DE (X.suite a ((a, oe) :: pn)) (ρ.set i (.sh (caught a dd ex))) (.Name x p) (caught a dd ex) := de_var i (by simp [hlen]) hN hv hd hcd
  cases hfs : ex.fs with
  | none =>
    have e0 := q1 hfs
    subst e0
    have hcg : caught a none ex = .sc (.ref a) := by unfold caught; rw [hfs]
    show DE _ (ρ.set i (.sh (caught a none ex))) _ _
    rw [hcg] at hvar ⊢
    exact de_isX0 (T C hC) q3 q4 hm hvar (hc a oe pn _) hcv hkk hs hs2 hg hpl
  | some fs =>
    have hdd := q2 (by rw [hfs]; simp)
    obtain ⟨dv, rfl⟩ := Option.ne_none_iff_exists'.mp hdd
    have hcg : caught a (some dv) ex = .xo a dv fs := by unfold caught; rw [hfs]
    show DE _ (ρ.set i (.sh (caught a (some dv) ex))) _ _
    rw [hcg] at hvar ⊢
    exact de_isX (T C hC) q3 q4 hm hvar (hc a oe pn _) hcv hkk hs hs2 hg hpl
end
/-! defs -/
def outR : Out → Option Res
  | .rt d => some (.sh d)
  | .ro ds => some (.ow ds)
  | .rs x _ => some (.er x)
  | .nx _ => some (.sh .non)
  | .rtt t => some (.ot t)
  | _ => none
def runF (N : List Str) (B : Kt) (ds : List D) : Option Res := (B (startE N ds)).bind outR
theorem isRes_of {o : Out} {r : Res} (h : outR o = some r) : isRes r o := by
  cases o with
  | rt d => cases h; cases d <;> rfl
  | ro ds => cases h; rfl
  | rs x ρ => cases h; rfl
  | nx ρ => cases h; rfl
  | rtt t => cases h; rfl
  | _ => cases h
section
variable {P : Program} {w : World} {K : PySem.W.Frag} {mg : Str → Option Value} {base : Heap} {nm qual x : Str} {params : Arguments} {body : List Stmt} {scope : Scope} {f : Addr} {fd : FuncData} {N ps : List Str} {k : Nat} {B : Kt}
theorem fo_mk {m : Nat} (F : FunD K nm qual params body scope [] [] f fd) (sc : FnScope N ps scope) (gm : mg x = some (.ref f)) (hb : Binds K fd ps []) (hm : m = ps.length) (h2 : 2 ≤ k)
    (h : ∀ (cdv : Value) (A : Around) (outer : List Env) (s : Shared) (H : Hp) (E : XK), Gs k (cxOf (L2.CX P w) P w K mg base N qual scope f cdv A outer s H E) (fun cls d _ H' => E cls d H') → ∀ ρ, OS (cxOf (L2.CX P w) P w K mg base N qual scope f cdv A outer s H E) (fun cls d _ H' => E cls d H') ρ body (B ρ)) : Fo P w K mg base (k + 1) x m (runF N B) := by
  subst hm
  refine fn_mk F sc gm hb (fun ds r h => h.1) fun cdv A outer s H E hr ds r hS => ?_
  obtain ⟨out, h1, h3⟩ := Option.bind_eq_some_iff.mp hS.2
  exact (h cdv A outer s H E ⟨⟨sc.nd, rfl, hr⟩, passes_of rfl, takes_of rfl rfl rfl rfl, h2⟩ _ out h1).imp fun o e => by
    subst e
    exact isRes_of h3
/-- the law itself -/
theorem law_mk (F : FunD K nm qual params body scope [] [] f fd) (sc : FnScope N ps scope) (hm : 1 = ps.length) (h2 : 2 ≤ k)
    (h : ∀ (cdv : Value) (A : Around) (outer : List Env) (s : Shared) (H : Hp) (E : XK), Gs k (cxOf (L2.CX P w) P w K mg base N qual scope f cdv A outer s H E) (fun cls d _ H' => E cls d H') → ∀ ρ, OS (cxOf (L2.CX P w) P w K mg base N qual scope f cdv A outer s H E) (fun cls d _ H' => E cls d H') ρ body (B ρ))
    (ht : ∀ ns : List Int, ns.length ≤ 63 → runF N B [.ro (iD ns)] = some (.sh (.bl true))) : FnG P w K mg base (k + 1) f fd ps (spLaw K) := by
  refine fnok_mk (S := lawS) F sc (fun ds r h => ?_) fun cdv A outer s H E hr ds r hS => ?_
  · obtain ⟨ns, _, rfl, _⟩ := h
    exact hm
  · obtain ⟨ns, hn, rfl, rfl⟩ := hS
    obtain ⟨out, h1, h3⟩ := Option.bind_eq_some_iff.mp (ht ns hn)
    exact (h cdv A outer s H E ⟨⟨sc.nd, rfl, hr⟩, passes_of rfl, takes_of rfl rfl rfl rfl, h2⟩ _ out h1).imp fun o e => by
      subst e
      exact isRes_of h3
theorem Fo.up {j m : Nat} {F : List D → Option Res} (G : Fo P w K mg base k x m F) (h : k ≤ j) : Fo P w K mg base j x m F := Fn.up G h
/-- what the def is worth, read otherwise -/
theorem Fo.sub {m : Nat} {F F' : List D → Option Res} (G : Fo P w K mg base k x m F) (h : ∀ ds r, ds.length = m → F' ds = some r → F ds = some r) : Fo P w K mg base k x m F' := Fn.sub G fun ds r q => ⟨q.1, h ds r q.1 q.2⟩
/-- a def that calls itself: n turns deep -/
theorem fo_rec {m : Nat} {T : (List D → Option Res) → List D → Option Res} {j : Nat} (hj : 2 ≤ j) (gm : ∃ (f : Addr) (fd : FuncData) (ps : List Str), mg x = some (.ref f) ∧ PySem.W.keepIn K (.ref f) = true ∧ Binds K fd ps [] ∧ Fo P w K mg base j x m (fun _ => none))
    (step : ∀ k F, 2 ≤ k → Fo P w K mg base k x m F → Fo P w K mg base (k + 1) x m (T F)) : ∀ n, Fo P w K mg base (j + n) x m (Nat.rec (fun _ => none) (fun _ F => T F) n)
  | 0 => by obtain ⟨_, _, _, _, _, _, h⟩ := gm; exact h
  | n + 1 => step (j + n) _ (by omega) (fo_rec hj gm step n)
end
end DL

set_option Elab.async false
set_option linter.all false
set_option maxRecDepth 100000
set_option autoImplicit false
/-! more of the same -/
namespace DL
open PySem PySem.Spec PyProof.Rows L2
section
variable {X : Cx} {W : WX} {ρ ρ' : Ev} {tg it e a b c : Expr} {es : List Expr} {d d1 d2 : D} {ds : List D} {pos p p2 p3 : Pos} {A B rest : List Stmt} {oa ob oc : Option R} {n : Nat} {os : Option (List D)} {k : Kt} {x y : Str} {ex : Exc}
/-- a name in a suite, not the caught error's -/
theorem oe_varS (i j : Nat) {s : Sl} (hne : i ≠ j) (hN : X.N[i]? = some x := by rfl) (hv : Vis X.env.scope x := by first | exact Or.inl rfl | exact Or.inr (Or.inl rfl) | exact Or.inr (Or.inr rfl)) (hd : (x == ("__debug__" : Str)) = false := by decide)
    (hcd : (x == ("__classdict__" : Str)) = false := by decide) : OE X (ρ.set j s) (.Name x pos) (varR ρ i) := by
  have h : varR (ρ.set j s) i = varR ρ i := by
    unfold varR
    rw [List.getElem?_set_ne (fun z => hne z.symm)]
  rw [← h]
  exact oe_var i hN hv hd hcd
def exM (K : PySem.W.Frag) (cl : Str → Addr) (y : Str) (ex : Exc) : Option Bool := PySem.W.exmOne K ex.cls (.ref (cl y))
/-- e.field of the caught one, of a class among cs -/
def exfO (i : Nat) (cs : List Addr) (fn : Str) (ex : Exc) (ρ : Ev) : Option R := match ex.cls with
  | .ref C => if C ∈ cs ∧ i < ρ.length then exfR ex fn else none
  | _ => none
theorem ue_fldO {fn : Str} {cs : List Addr} (i : Nat) (T : ∀ C ∈ cs, XfC X.K C ∧ PySem.W.findIn X.K (.ref C) fn = some none) (hN : X.N[i]? = some x := by rfl) (hv : Vis X.env.scope x := by first | exact Or.inl rfl | exact Or.inr (Or.inl rfl) | exact Or.inr (Or.inr rfl)) (hd : (x == ("__debug__" : Str)) = false := by decide) (hcd : (x == ("__classdict__" : Str)) = false := by decide)
    (hb : attributeBase (.Name x p) fn X.env (eval (.Name x p) X.env) = eval (.Name x p) X.env := by rfl) : UE X ex (fun a dd ρ => ρ.set i (.sh (caught a dd ex))) ρ (.Attribute (.Name x p) fn pos) (exfO i cs fn ex ρ) := fun a dd oe pn q1 q2 q3 q4 r h => by
  unfold exfO at h
  split at h
  · rename_i C hC
    split at h
    · rename_i hh
      exact ue_fld i hN hv hh.2 hd hcd (fun C' e _ => by rw [hC] at e; cases e; exact T _ hh.1) ⟨C, hC⟩ hb a dd oe pn q1 q2 q3 q4 r h
    · cases h
  · cases h
def exiO (i : Nat) (cs : List Addr) (K : PySem.W.Frag) (u : Value) (ex : Exc) (ρ : Ev) : Option R := match ex.cls with
  | .ref C => if C ∈ cs ∧ i < ρ.length then (PySem.W.kitOne K (.ref C) u).map (fun b => .v (.bl b)) else none
  | _ => none
theorem ue_isC {cs : List Addr} {z : Str} {p1 p2 : Pos} {C2 : Addr} (i : Nat) (T : ∀ C ∈ cs, ExcC X.K C) (hm : X.mg "isinstance" = none) (hz : X.mg z = some (.ref C2)) (hN : X.N[i]? = some x := by rfl) (hv : Vis X.env.scope x := by first | exact Or.inl rfl | exact Or.inr (Or.inl rfl) | exact Or.inr (Or.inr rfl)) (hd : (x == ("__debug__" : Str)) = false := by decide) (hcd : (x == ("__classdict__" : Str)) = false := by decide)
    (hs : starEach (Expr.Name x p :: [.Name z p2]) X.env = (false, eval (.Name x p) X.env) :: starEach [.Name z p2] X.env := by rfl) (hs2 : starEach (Expr.Name z p2 :: []) X.env = (false, eval (.Name z p2) X.env) :: starEach [] X.env := by rfl) (hg : Gl X "isinstance" := by rfl) (hpl : (backTo pos (starEach [Expr.Name z p2] X.env)).any (·.1) = false := by rfl)
    (hgz : Gl X z := by rfl) (hdz : (z == ("__debug__" : Str)) = false := by decide) :
    UE X ex (fun a dd ρ => ρ.set i (.sh (caught a dd ex))) ρ (.Call (.Name "isinstance" p1) [.Name x p, .Name z p2] [] pos) (exiO i cs X.K (.ref C2) ex ρ) := fun a dd oe pn q1 q2 q3 q4 r h => by
  unfold exiO at h
  split at h
  · rename_i C hC
    split at h
    · rename_i hh
      obtain ⟨b, h1, rfl⟩ := Option.map_eq_some_iff.mp h
      exact ue_is (C2 := C2) (t := b) (M := fun _ => some b) i hN hv hh.2 hd hcd (fun C' e => by rw [hC] at e; cases e; exact T _ hh.1) ⟨C, hC⟩ hm (cv := .ref C2) (cu := .ref C2) (fun a oe pn ρ => de_glob (X := X.suite a ((a, oe) :: pn)) (v := .ref C2) hgz hz rfl (fun _ => rfl) hdz) (fun u hu => hu) (fun b' e => by cases e; rw [hC]; exact h1) hs hs2 hg hpl a dd oe pn q1 q2 q3 q4 _ rfl
    · cases h
  · cases h
theorem ue_isT {cs : List Addr} {z T2 : String} {p1 p2 : Pos} (i : Nat) (T : ∀ C ∈ cs, ExcC X.K C) (hm : X.mg "isinstance" = none) (hz : X.mg z = none) (hz2 : bootBuiltins z = some (.type T2)) (hN : X.N[i]? = some x := by rfl) (hv : Vis X.env.scope x := by first | exact Or.inl rfl | exact Or.inr (Or.inl rfl) | exact Or.inr (Or.inr rfl)) (hd : (x == ("__debug__" : Str)) = false := by decide) (hcd : (x == ("__classdict__" : Str)) = false := by decide)
    (hs : starEach (Expr.Name x p :: [.Name z p2]) X.env = (false, eval (.Name x p) X.env) :: starEach [.Name z p2] X.env := by rfl) (hs2 : starEach (Expr.Name z p2 :: []) X.env = (false, eval (.Name z p2) X.env) :: starEach [] X.env := by rfl) (hg : Gl X "isinstance" := by rfl) (hpl : (backTo pos (starEach [Expr.Name z p2] X.env)).any (·.1) = false := by rfl)
    (hgz : Gl X z := by rfl) (hnz : (z : Str) ≠ "__name__" := by decide) (hdz : ((z : Str) == ("__debug__" : Str)) = false := by decide) :
    UE X ex (fun a dd ρ => ρ.set i (.sh (caught a dd ex))) ρ (.Call (.Name "isinstance" p1) [.Name x p, .Name z p2] [] pos) (exiO i cs X.K (.type T2) ex ρ) := fun a dd oe pn q1 q2 q3 q4 r h => by
  unfold exiO at h
  split at h
  · rename_i C hC
    split at h
    · rename_i hh
      obtain ⟨b, h1, rfl⟩ := Option.map_eq_some_iff.mp h
      exact ue_is (C2 := 0) (t := b) (M := fun _ => some b) i hN hv hh.2 hd hcd (fun C' e => by rw [hC] at e; cases e; exact T _ hh.1) ⟨C, hC⟩ hm (cv := .ty T2) (cu := .type T2) (fun a oe pn ρ => de_ty (X := X.suite a ((a, oe) :: pn)) hz hz2 hgz hnz hdz) (fun u hu => hu) (fun b' e => by cases e; rw [hC]; exact h1) hs hs2 hg hpl a dd oe pn q1 q2 q3 q4 _ rfl
    · cases h
  · cases h
theorem oe_ue {i : Nat} {a : Addr} {dd : Option Addr} {oe : Obj} {pn : List (Addr × Obj)} (h : UE X ex (fun a dd ρ => ρ.set i (.sh (caught a dd ex))) ρ e oa) (q1 : ex.fs = none → dd = none) (q2 : ex.fs ≠ none → dd ≠ none) (q3 : Zc ex.cls dd oe) (q4 : ∃ vs, oe.data = .fields vs) : OE (X.suite a ((a, oe) :: pn)) (ρ.set i (.sh (caught a dd ex))) e oa := h a dd oe pn q1 q2 q3 q4
theorem names_of (y : Str) {c : Value} (h : X.mg y = some c) (hg : Gl X y := by rfl) (hd : (y == ("__debug__" : Str)) = false := by decide) : Names X y c := ⟨hg, hd, .inl h⟩
theorem retO_nxt {o : Option R} {u : Out} (h : retO o = some u) : u.nxt = false := by
  unfold retO at h
  split at h
  · cases h; rfl
  · cases h; rfl
  · cases h
/-- range(a, b, c) -/
def rng3R (oa ob oc : Option R) : Option (List D) := match oa, ob, oc with
  | some (.v (.int i)), some (.v (.int j)), some (.v (.int l)) => if l ≠ 0 ∧ l.natAbs < 1073741824 ∧ Builtin.Range.small i j l = true ∧ 0 ≤ Builtin.Range.rangeSize i j l then some (iD (rngC i l (Builtin.Range.rangeSize i j l).toNat)) else none
  | _, _, _ => none
theorem oi_rng3 (hm : X.mg "range" = none) (ha : OE X ρ a oa) (hb : OE X ρ b ob) (hc : OE X ρ c oc) (hg : Gl X "range" := by rfl) (hs1 : starEach [a, b, c] X.env = (false, eval a X.env) :: starEach [b, c] X.env := by rfl) (hs2 : starEach [b, c] X.env = (false, eval b X.env) :: starEach [c] X.env := by rfl)
    (hs3 : starEach [c] X.env = (false, eval c X.env) :: starEach [] X.env := by rfl) (hpl : (backTo pos (starEach [b, c] X.env)).any (·.1) = false := by rfl) : OI X ρ tg (.Call (.Name "range" p) [a, b, c] [] pos) (rng3R oa ob oc) := fun ds q => by
  unfold rng3R at q
  split at q
  · split at q
    · rename_i hh; cases q; exact di_rng3 hm (ha _ rfl) (hb _ rfl) (hc _ rfl) ⟨hh.1, hh.2.1, hh.2.2.1, (Int.toNat_of_nonneg hh.2.2.2).symm⟩ hg hs1 hs2 hs3 hpl
    · cases q
  · cases q
/-- a name of a module's constant, the heap apart -/
def GdK (K : PySem.W.Frag) (mg : Str → Option Value) (x : Str) (d : D) : Prop := ∃ v u, mg x = some u ∧ RelV v u ∧ ∀ F, Rp K F d v
theorem GdK.int {K : PySem.W.Frag} {mg : Str → Option Value} {x : Str} {i : Int} {t : Tok} (h : mg x = some (.int i t)) : GdK K mg x (.int i) := ⟨.int i, _, h, ⟨t, rfl⟩, fun _ => rfl⟩
theorem GdK.str {K : PySem.W.Frag} {mg : Str → Option Value} {x : Str} {s : Str} {t : Tok} (h : mg x = some (.str s t)) : GdK K mg x (.str s) := ⟨.str s, _, h, ⟨t, rfl⟩, fun _ => rfl⟩
/-- what is empty is false -/
def R.u (x : R) : Option Bool := match x with
  | .v (.bl b) => some b
  | _ => none
theorem ot_tru (h : OE X ρ e oa) (he : ∀ whole, isTrue e X.env whole = (do let v ← whole; standAt e.pos; holding [v] (truthy v)) := by intro _; rfl) : OT X ρ e (oa.bind R.u) := ot_val h he
/-- == of flat values of one kind -/
def eqFR (x y : R) : Option Bool := match x, y with
  | .v (.int i), .v (.int j) => some (decide (i = j))
  | .v (.str i), .v (.str j) => some (decide (i = j))
  | .v (.bl i), .v (.bl j) => some (decide (i = j))
  | _, _ => none
end
def fueled (T : (List D → Option Res) → List D → Option Res) : Nat → List D → Option Res
  | 0 => fun _ => none
  | n + 1 => T (fueled T n)
section
variable {P : Program} {w : World} {K : PySem.W.Frag} {mg : Str → Option Value} {base : Heap} {nm qual x : Str} {params : Arguments} {body : List Stmt} {scope : Scope} {f : Addr} {fd : FuncData} {N ps : List Str} {B : (List D → Option Res) → Kt}
theorem fo_fuel {m j n : Nat} (F : FunD K nm qual params body scope [] [] f fd) (sc : FnScope N ps scope) (gm : mg x = some (.ref f)) (hb : Binds K fd ps []) (hm : m = ps.length)
    (h : ∀ (k : Nat) (self : List D → Option Res), j ≤ k → Fo P w K mg base k x m self → ∀ (cdv : Value) (A : Around) (outer : List Env) (s : Shared) (H : Hp) (E : XK), Gs k (cxOf (L2.CX P w) P w K mg base N qual scope f cdv A outer s H E) (fun cls d _ H' => E cls d H') → ∀ ρ, OS (cxOf (L2.CX P w) P w K mg base N qual scope f cdv A outer s H E) (fun cls d _ H' => E cls d H') ρ body (B self ρ)) (hj : 2 ≤ j := by decide) : Fo P w K mg base (j + n) x m (fueled (fun self => runF N (B self)) n) := by
  induction n with
  | zero =>
    obtain ⟨j, rfl⟩ : ∃ i, j = i + 1 := ⟨j - 1, by omega⟩
    refine fn_mk F sc gm hb (fun ds r h => by subst hm; exact h.1) fun cdv A outer s H E hr ds r hS => ?_
    cases hS.2
  | succ n ih =>
    refine Fo.up (k := j + n + 1) ?_ (by omega)
    exact fo_mk F sc gm hb hm (by omega) fun cdv A outer s H E g => h (j + n) _ (by omega) ih cdv A outer s H E g
end
end DL

set_option Elab.async false
set_option linter.all false
set_option maxRecDepth 100000
set_option autoImplicit false
/-! types, pairs of tuples, the empty dict, texts many times -/
namespace DL
open PySem PySem.Spec PyProof.Rows L2 RZ
section
variable {X : Cx} {W : WX} {ρ ρ' : Ev} {tg it e a b c : Expr} {es : List Expr} {d d1 d2 : D} {ds ds1 ds2 : List D} {pos p p2 p3 : Pos} {A B rest : List Stmt} {oa ob oc : Option R} {n : Nat} {os : Option (List D)} {k : Kt} {x y : Str} {ex : Exc}
/-- type(x) -/
def tyB : D → Option String
  | .non => some "NoneType"
  | .bl _ => some "bool"
  | .int _ => some "int"
  | .str _ => some "str"
  | .tup _ => some "tuple"
  | .lst _ => some "list"
  | .ro _ => some "list"
  | _ => none
theorem tyB_ok {K : PySem.W.Frag} {F H : Hp} (s : Same F H) {v : V} {T : String} : ∀ {d : D}, Rp K F d v → tyB d = some T → TyB K H v T
  | .non, h, e => by cases h; cases e; exact .non
  | .bl _, h, e => by cases h; cases e; exact .bl _
  | .int _, h, e => by cases h; cases e; exact .int _
  | .str _, h, e => by cases h; cases e; exact .str _
  | .tup _, h, e => by obtain ⟨a, xs, rfl, q, _⟩ := h; cases e; exact .tup (Same.tup s q)
  | .lst _, h, e => by obtain ⟨a, xs, rfl, q, _⟩ := h; cases e; exact .lst (.of (s _ _ q))
  | .ro _, h, e => by obtain ⟨a, xs, rfl, q, _⟩ := h; cases e; exact .lst (L2.Same.seq s q)
  | .sc _, _, e => by cases e
  | .ins _ _, _, e => by cases e
  | .dic _, _, e => by cases e
  | .xo _ _ _, _, e => by cases e
theorem b_type : bootBuiltins "type" = some (.type "type") := by decide +kernel
def typeR (x : R) : Option R := (x.d.bind tyB).map fun T => .v (.sc (.ty T))
theorem oe_type (hm : X.mg "type" = none) (ha : OE X ρ e oa) (hs : starEach (e :: []) X.env = (false, eval e X.env) :: starEach [] X.env := by rfl) (hg : Gl X "type" := by rfl) (hpl : (backTo pos (starEach ([] : List Expr) X.env)).any (·.1) = false := by rfl) : OE X ρ (.Call (.Name "type" p) [e] [] pos) (oa.bind typeR) := fun r q => by
  obtain ⟨x, rfl, k⟩ := Option.bind_eq_some_iff.mp q
  obtain ⟨T, k1, rfl⟩ := Option.map_eq_some_iff.mp k
  obtain ⟨d, m, k2⟩ := Option.bind_eq_some_iff.mp k1
  exact argsT (R := rD X.K (.sc (.ty T))) call_type1 (pa1 mD ((ha _ rfl).toD m) hs) hm b_type (fun F H vs Q s ⟨y, ys, e1, r, e3⟩ q => by
    subst e3 e1
    exact ⟨y, T, rfl, tyB_ok s r k2, q _ rfl⟩) hg (by decide) (by decide) hs hpl
theorem op_notTyB : OpR X (compareOp .IsNot) (fun x y H Q => ∃ a b, x = .ty a ∧ y = .ty b ∧ Q (.bl (!decide (a = b))) H) := op_isNotTy
def tisR (x y : R) : Option Bool := match x, y with
  | .v (.sc (.ty a)), .v (.sc (.ty b)) => some (decide (a = b))
  | _, _ => none
theorem oc_tis (ha : OE X ρ a oa) (hb : OE X ρ b ob) : OC X ρ .Is a b (o2 tisR oa ob) := fun r h => by
  obtain ⟨x, y, rfl, rfl, k⟩ := o2_eq h
  have ha := ha _ rfl
  have hb := hb _ rfl
  unfold tisR at k
  split at k
  · cases k
    exact ⟨_, _, _, op_isTyB, ha, hb, mD, fun F H x y Q s r1 r2 q => by cases r1; cases r2; exact ⟨_, _, rfl, rfl, q⟩⟩
  · cases k
theorem oc_tisn (ha : OE X ρ a oa) (hb : OE X ρ b ob) : OC X ρ .IsNot a b ((o2 tisR oa ob).map (!·)) := fun r h => by
  obtain ⟨t, m, rfl⟩ := Option.map_eq_some_iff.mp h
  obtain ⟨x, y, rfl, rfl, k⟩ := o2_eq m
  have ha := ha _ rfl
  have hb := hb _ rfl
  unfold tisR at k
  split at k
  · cases k
    exact ⟨_, _, _, op_isNotTy, ha, hb, mD, fun F H x y Q s r1 r2 q => by cases r1; cases r2; exact ⟨_, _, rfl, rfl, q⟩⟩
  · cases k
/-- isinstance(x, (T, U)) -/
def isi2R (T U : String) (x : R) : Option R := x.d.bind fun d => if (tyn d == "?") = false then (match kitB (tyn d) T, kitB (tyn d) U with
  | some true, some _ => vB true
  | some false, some k => vB k
  | _, _ => none) else none
theorem oe_isi2 {T U : String} {y z : Str} {t1 : Nat} {p4 : Pos} (hm : X.mg "isinstance" = none) (ha : OE X ρ a oa) (hmT : X.mg y = none) (hvT : bootBuiltins y = some (.type T)) (hmU : X.mg z = none) (hvU : bootBuiltins z = some (.type U))
    (hs : starEach (a :: [.Tuple [.Name y p2, .Name z p3] t1 p4]) X.env = (false, eval a X.env) :: starEach [.Tuple [.Name y p2, .Name z p3] t1 p4] X.env := by rfl)
    (hs2 : starEach (Expr.Tuple [.Name y p2, .Name z p3] t1 p4 :: []) X.env = (false, eval (.Tuple [.Name y p2, .Name z p3] t1 p4) X.env) :: starEach [] X.env := by rfl) (hg : Gl X "isinstance" := by rfl) (hpl : (backTo pos (starEach [Expr.Tuple [.Name y p2, .Name z p3] t1 p4] X.env)).any (·.1) = false := by rfl)
    (hs3 : starEach (Expr.Name y p2 :: [.Name z p3]) X.env = (false, eval (.Name y p2) X.env) :: starEach [.Name z p3] X.env := by rfl) (hs4 : starEach (Expr.Name z p3 :: []) X.env = (false, eval (.Name z p3) X.env) :: starEach [] X.env := by rfl)
    (hgT : Gl X y := by rfl) (hgU : Gl X z := by rfl) (hn : y ≠ "__name__" := by decide) (hd : (y == ("__debug__" : Str)) = false := by decide) (hn2 : z ≠ "__name__" := by decide) (hd2 : (z == ("__debug__" : Str)) = false := by decide) :
    OE X ρ (.Call (.Name "isinstance" p) [a, .Tuple [.Name y p2, .Name z p3] t1 p4] [] pos) (oa.bind (isi2R T U)) := fun r q => by
  obtain ⟨v, rfl, k⟩ := Option.bind_eq_some_iff.mp q
  obtain ⟨d, m, k⟩ := Option.bind_eq_some_iff.mp k
  split at k
  · rename_i ht
    have hda := (ha _ rfl).toD m
    have hT : DE X ρ (.Name y p2) (.sc (.ty T)) := de_ty hmT hvT hgT hn hd
    have hU : DE X ρ (.Name z p3) (.sc (.ty U)) := de_ty hmU hvU hgU hn2 hd2
    have key : ∃ bb, r = .v (.bl bb) ∧ PySem.W.kitAny X.K (.type (tyn d)) [.type T, .type U] = some bb := by
      split at k
      · rename_i e1 e2
        cases k
        exact ⟨true, rfl, kitAny_cons (kit_ty e1) (fun z => by cases z) fun _ => rfl⟩
      · rename_i k2 e1 e2
        cases k
        exact ⟨k2, rfl, kitAny_cons (kit_ty e1) (fun _ => kitAny_cons (kit_ty e2) (fun z => by subst z; rfl) fun z => z) fun z => by cases z⟩
      · cases k
    obtain ⟨bb, rfl, hk⟩ := key
    refine PE.weak (pe_callB (call_isiT (X := X)) hg hm b_isi (pa_cons hda (pa_cons (pe_tup (pa_cons hT (pa_cons hU pa_nil hs4) hs3)) pa_nil hs2) hs) (by decide) (by decide) hs hpl) fun σ H Q ⟨F0, H0, F, o, w⟩ => ⟨F0, H0, F, o, fun vv F1 H1 f1 r1 => ?_⟩
    refine ⟨F0, H0, F1, o.call f1, fun v2 F2 H2 f2 r2 => ⟨F0, H0, F2, (o.call f1).call f2, fun v3 F3 H3 f3 r3 => ⟨show 2 ≤ sizeLine by decide, fun tp htp => ?_⟩⟩⟩
    cases r2
    cases r3
    have g1 := Fin.newS (u := .tup [V.ty T, V.ty U]) f3.fh htp
    refine ⟨vv, tp, _, _, _, bb, rfl, upd_same, .cons (.ty T) (.cons (.ty U) .nil), ty_of (f2.trans (f3.trans g1)).fh (Rp.mono (f2.trans (f3.trans g1)).f0 r1) ht, hk, ?_⟩
    exact w _ _ _ (f1.trans (f2.trans (f3.trans g1))) rfl
  · cases k
/-- {} -/
theorem oe_dic0 : OE X ρ (.Dict [] [] pos) (vD (.dic [])) := fun r q => by
  cases q
  refine PE.weak (pe_dnewK (X := X) (pos := pos)) fun σ H Q ⟨F0, H0, F, o, w⟩ => fun p hp => ?_
  have g1 := Fin.newS (u := .dK []) o.fin.fh hp
  exact w _ _ _ g1 ⟨p, [], rfl, .inl upd_same, rfl⟩
theorem fold_size {α : Type} (c : Array α) : ∀ (n : Nat) (acc : Array α), ((List.replicate n c).foldl (· ++ ·) acc).size = acc.size + n * c.size
  | 0, acc => by simp
  | n + 1, acc => by
    rw [List.replicate_succ, List.foldl_cons, fold_size c n, Array.size_append, Nat.succ_mul]
    omega
def mulS (z : Str) (j : Int) : Str := if j < 1 then Str.empty else if (j == 1 || z.length == 0) = true then z else ⟨(List.replicate j.toNat z.cps).foldl (· ++ ·) #[]⟩
theorem op_mulS {X : Cx} : OpR X (binaryOp .Mult) (fun x y H Q => ∃ z j, x = .str z ∧ y = .int j ∧ (-(2 ^ 63) ≤ j ∧ j < 2 ^ 63 ∧ z.length * j.toNat ≤ sizeLine) ∧ Q (.str (mulS z j)) H) := by
  intro pins s σ H x y v u Q I rx ry h
  obtain ⟨z, j, rfl, rfl, ⟨h1, h2, h3⟩, q⟩ := h
  obtain ⟨t, rfl⟩ := rx
  obtain ⟨t', rfl⟩ := ry
  have hsz : sizeLine = 2 ^ 24 := rfl
  refine PySem.P.mul_str ?_ (fun a b => ?_) (fun a b => ?_) ?_
  · rw [decide_eq_false (by omega), decide_eq_false (by omega)]; rfl
  · intro hh
    have hj : 0 < j := by omega
    have e1 : (z.length : Int) * j ≤ 2 ^ 24 := by
      have : ((z.length * j.toNat : Nat) : Int) ≤ ((2 ^ 24 : Nat) : Int) := Int.ofNat_le.mpr (by rw [← hsz]; exact h3)
      rw [Int.natCast_mul, Int.toNat_of_nonneg (by omega)] at this
      exact this
    have e2 : (z.length : Int) ≤ (2 ^ 63 - 1) / j := (Int.le_ediv_iff_mul_le hj).mpr (by omega)
    omega
  · unfold PySem.Builtin.Str.tooLong
    exact decide_eq_false (by omega)
  · unfold mulS at q
    split
    · rename_i hj
      rw [if_pos hj] at q
      exact ⟨by decide, .str _, H, I.tok _, ⟨_, rfl⟩, q⟩
    · rename_i hj
      rw [if_neg hj] at q
      split
      · rename_i hk
        rw [if_pos hk] at q
        exact ⟨.str _, H, I, ⟨_, rfl⟩, q⟩
      · rename_i hk
        rw [if_neg hk] at q
        exact ⟨by rw [show (⟨(List.replicate j.toNat z.cps).foldl (· ++ ·) #[]⟩ : Str).length = ((List.replicate j.toNat z.cps).foldl (· ++ ·) #[]).size from rfl, fold_size]; show (#[] : Array Nat).size + j.toNat * z.length ≤ _; rw [Nat.mul_comm]; simpa using h3, .str _, H, I.tok _, ⟨_, rfl⟩, q⟩
/-- a text many times -/
def mulAR (x y : R) : Option R := match x, y with
  | .v (.str z), .v (.int j) => if j.natAbs < 9223372036854775808 ∧ z.length * j.toNat ≤ sizeLine then vS (mulS z j) else none
  | .v (.tup ds), .v (.int j) => if ds ≠ [] ∧ 2 ≤ j ∧ j ≤ 1000 ∧ ds.length ≤ 1000 then vD (.tup (List.replicate j.toNat ds).flatten) else none
  | x, y => mulR x y
theorem oe_mulA (ha : OE X ρ a oa) (hb : OE X ρ b ob) : OE X ρ (.BinOp a .Mult b pos) (o2 mulAR oa ob) := fun r h => by
  obtain ⟨x, y, rfl, rfl, k⟩ := o2_eq h
  unfold mulAR at k
  split at k
  · split at k
    · rename_i z j hh
      cases k
      exact two mD (pe_op op_mulS (ha _ rfl) (hb _ rfl)) fun F H x y Q s r1 r2 q => ⟨z, j, r1, r2, ⟨by have := hh.1; omega, by have := hh.1; omega, hh.2⟩, q _ rfl⟩
    · cases k
  · split at k
    · rename_i ds j hh
      cases k
      refine PE.weak (pe_op op_repT (ha _ rfl) (hb _ rfl)) fun σ H Q ⟨F0, H0, F, o, w⟩ => ⟨F0, H0, F, o, fun x F1 H1 f1 r1 => ⟨F0, H0, F1, o.call f1, fun y F2 H2 f2 r2 => ?_⟩⟩
      obtain ⟨l, xs, e1, h1, r1⟩ := mD _ _ _ _ _ f2 r1
      refine ⟨l, j, xs, e1, r2, Same.tup f2.fh h1, ?_, hh.2.1, hh.2.2.1, by rw [r1.length]; exact hh.2.2.2, fun p hp => ?_⟩
      · rintro rfl
        have := r1.length
        exact hh.1 (List.length_eq_zero_iff.mp this.symm)
      · have g1 := Fin.newS (u := .tup (List.replicate j.toNat xs).flatten) f2.fh hp
        exact w _ _ _ ((f1.trans f2).trans g1) ⟨p, _, rfl, .inl (.inl upd_same), Rps.mono g1.f0 (r1.rep j.toNat)⟩
    · cases k
  · exact oe_mul ha hb r k
/-! zip of two tuples -/
theorem walk_zipT {K : PySem.W.Frag} {a b : Addr} {xs ys : List V} {n : Nat} (hn : n = min xs.length ys.length) : Walk (ItzT K a b) n (fun H => SqT K H a xs ∧ SqT K H b ys) (YPair (fun i => xs[i]?) (fun i => ys[i]?)) := by
  subst hn
  refine ⟨fun i _ hi q => ?_, fun _ q => ⟨xs, ys, q.1, q.2, by omega⟩, fun i H v H' _ q y => ?_⟩
  · have h1 : i < xs.length := by omega
    have h2 : i < ys.length := by omega
    exact ⟨xs, ys, xs[i], ys[i], q.1, q.2, by simp [h1], by simp [h2]⟩
  · obtain ⟨T, x, z, h1, h2, h3, h4, h5⟩ := y
    exact ⟨T, x, z, h1, h2, h3, h4 xs q.1, h5 ys q.2⟩
variable {elts : List Expr} {kk : Nat} {tpos : Pos}
theorem di_zipT (hm : X.mg "zip" = none) (ha : DE X ρ a (.tup ds1)) (hb : DE X ρ b (.tup ds2)) (hg : Gl X "zip" := by rfl) (hs1 : starEach [a, b] X.env = (false, eval a X.env) :: starEach [b] X.env := by rfl) (hs2 : starEach [b] X.env = (false, eval b X.env) :: starEach [] X.env := by rfl) (hpl : (backTo pos (starEach [b] X.env)).any (·.1) = false := by rfl) :
    DI X ρ (.Tuple elts kk tpos) (.Call (.Name "zip" p) [a, b] [] pos) (zips ds1 ds2) :=
  PI.weak (pi_zipA hg hm (pa_cons ha (pa_cons hb pa_nil hs2) hs1) hs1 hpl) fun σ H Q ⟨F0, H0, F, o, q⟩ => ⟨F0, H0, F, o, fun v F1 H1 f1 ⟨l, xs, el, hl, r⟩ => ⟨F0, H0, F1, o.call f1, fun w F' H' f ⟨m, ys, em, hm', r'⟩ =>
    ⟨l, m, xs, ys, by rw [el, em], .inr ⟨Same.tup f.fh (Same.tup f.f0 hl), Same.tup f.fh hm', q _ F' H' (fun H => SqT X.K H l xs ∧ SqT X.K H m ys) _ (f1.trans f) (walk_zipT (by rw [zips_len, r.length, r'.length])) (fun F2 H2 s1 s2 => ⟨Same.tup s2 (Same.tup s1 (Same.tup f.f0 hl)), Same.tup s2 (Same.tup s1 hm')⟩) (gives_zip (r.mono f.f0) r')⟩⟩⟩⟩
def zipTJ (x y : R) : Option (List D) := match x, y with
  | .v (.tup i), .v (.tup j) => some (zips i j)
  | x, y => zipJ x y
theorem oj_zipT (hm : X.mg "zip" = none) (ha : OE X ρ a oa) (hb : OE X ρ b ob) (hg : Gl X "zip" := by rfl) (hs1 : starEach [a, b] X.env = (false, eval a X.env) :: starEach [b] X.env := by rfl) (hs2 : starEach [b] X.env = (false, eval b X.env) :: starEach [] X.env := by rfl) (hpl : (backTo pos (starEach [b] X.env)).any (·.1) = false := by rfl) :
    OJ X ρ (.Tuple elts kk tpos) (.Call (.Name "zip" p) [a, b] [] pos) (o2 zipTJ oa ob) := fun ds q => by
  obtain ⟨x, y, rfl, rfl, k⟩ := o2_eq q
  unfold zipTJ at k
  split at k
  · cases k; exact (di_zipT hm (ha _ rfl) (hb _ rfl) hg hs1 hs2 hpl).dj
  · exact oj_zip hm ha hb hg hs1 hs2 hpl ds k
end
end DL

set_option Elab.async false
set_option linter.all false
set_option maxRecDepth 100000
set_option autoImplicit false
/-! comprehensions with two fors, as functions -/
namespace DL
open PySem PySem.Spec PyProof.Rows L2
def flatO (f : D → Option (List D)) : List D → Option (List D)
  | [] => some []
  | d :: ds => o2 (fun a b => some (a ++ b)) (f d) (flatO f ds)
def comp2G (ow vs1 : List Nat) (g : D → Ev → Option Ev) (cond : Ev → Option Bool) (src1 : Ev → Option (List D)) (g1 : D → Ev → Option Ev) (cond1 : Ev → Option Bool) (val : Ev → Option R) (ρ : Ev) (d : D) : Option (List D) :=
  (g d (wipeE ρ ow)).bind fun ρ2 => match cond ρ2 with
    | some true => (src1 ρ2).bind fun es => compL (compG vs1 g1 cond1 val ρ2) es
    | some false => some []
    | none => none
def comp2O (src : Option (List D)) (ow vs1 : List Nat) (g : D → Ev → Option Ev) (cond : Ev → Option Bool) (src1 : Ev → Option (List D)) (g1 : D → Ev → Option Ev) (cond1 : Ev → Option Bool) (val : Ev → Option R) (ρ : Ev) : Option R :=
  (src.bind (flatO (comp2G ow vs1 g cond src1 g1 cond1 val ρ))).bind fun es => if es.length ≤ sizeLine then vN es else none
theorem flatO_eq {f : D → Option (List D)} : ∀ {ds es : List D}, flatO f ds = some es → (∀ d ∈ ds, ∃ x, f d = some x) ∧ es = ds.flatMap fun d => (f d).getD []
  | [], es, h => by cases h; exact ⟨(fun d hd => by cases hd), rfl⟩
  | d :: ds, es, h => by
    obtain ⟨a, b, h1, h2, h3⟩ := o2_eq (show o2 _ (f d) (flatO f ds) = some es from h)
    cases h3
    obtain ⟨q1, q2⟩ := flatO_eq h2
    refine ⟨fun z hz => ?_, ?_⟩
    · rcases List.mem_cons.mp hz with rfl | hz
      · exact ⟨_, h1⟩
      · exact q1 z hz
    · rw [List.flatMap_cons, h1, q2]; rfl
section
variable {X : Cx} {ρ : Ev} {tg it elt tg1 it1 : Expr} {ifs ifs1 : List Expr} {pos : Pos} {scope : Scope} {n : Nat} {o : Option (List D)} {ts ts1 : List Nat} {g g1 : D → Ev → Option Ev} {cond cond1 : Ev → Option Bool} {val : Ev → Option R} {src1 : Ev → Option (List D)}
theorem comp2_core {r : R} (own : List (Str × Nat)) (vs1 : List Nat) (hts : ∀ t ∈ ts, t ∈ own.map (·.2)) (hts1 : ∀ t ∈ ts1, t ∈ vs1)
    (ht : InBlk X scope fun Y => OG Y tg g ts) (hc : InBlk X scope fun Y => ∀ ρ, OTs Y ρ ifs (cond ρ)) (hi1 : InBlk X scope fun Y => ∀ ρ, OI Y ρ tg1 it1 (src1 ρ)) (ht1 : InBlk X scope fun Y => OG Y tg1 g1 ts1) (hc1 : InBlk X scope fun Y => ∀ ρ, OTs Y ρ ifs1 (cond1 ρ)) (hval : InBlk X scope fun Y => ∀ ρ, OE Y ρ elt (val ρ)) (q : comp2O o (own.map (·.2)) vs1 g cond src1 g1 cond1 val ρ = some r) :
    ∃ (ds : List D) (sel : D → Bool) (inn : D → List D) (sel1 : D → D → Bool) (val1 : D → D → D), o = some ds ∧ (ds.flatMap (row2 sel inn sel1 val1)).length ≤ sizeLine ∧ r = .n (ds.flatMap (row2 sel inn sel1 val1)) ∧
      ∀ d ∈ ds, ∃ ρ2 ts, (∀ t ∈ ts, t ∈ own.map (·.2)) ∧ InBlk X scope (fun Y => DG Y (wipeE ρ (own.map (·.2))) tg d ρ2 ts) ∧ InBlk X scope (fun Y => DTs Y ρ2 ifs (sel d)) ∧ (sel d = true → InBlk X scope (fun Y => DI Y ρ2 tg1 it1 (inn d)) ∧
      ∀ e ∈ inn d, ∃ ρ3 ts1, (∀ t ∈ ts1, t ∈ vs1) ∧ InBlk X scope (fun Y => DG Y (wipeE ρ2 vs1) tg1 e ρ3 ts1) ∧ InBlk X scope (fun Y => DTs Y ρ3 ifs1 (sel1 d e)) ∧ (sel1 d e = true → InBlk X scope fun Y => DE Y ρ3 elt (val1 d e))) := by
  obtain ⟨es, h1, h2⟩ := Option.bind_eq_some_iff.mp q
  obtain ⟨ds, rfl, h3⟩ := Option.bind_eq_some_iff.mp h1
  split at h2
  · rename_i hz
    cases h2
    obtain ⟨m1, rfl⟩ := flatO_eq h3
    let r2 : D → Ev := fun d => (g d (wipeE ρ (own.map (·.2)))).getD []
    let sel : D → Bool := fun d => (cond (r2 d)).getD false
    let inn : D → List D := fun d => (src1 (r2 d)).getD []
    let gg1 : D → D → Option (Option D) := fun d => compG vs1 g1 cond1 val (r2 d)
    have key : ∀ d ∈ ds, ∃ ρ2, g d (wipeE ρ (own.map (·.2))) = some ρ2 ∧ r2 d = ρ2 ∧ cond ρ2 = some (sel d) ∧ (sel d = true → src1 ρ2 = some (inn d) ∧ ∃ l, compL (gg1 d) (inn d) = some l) ∧ row2 sel inn (fun d => selG (gg1 d)) (fun d => valG (gg1 d)) d = (comp2G (own.map (·.2)) vs1 g cond src1 g1 cond1 val ρ d).getD [] := fun d hd => by
      obtain ⟨w, hw⟩ := m1 d hd
      obtain ⟨ρ2, e1, e2⟩ := Option.bind_eq_some_iff.mp (show (g d (wipeE ρ (own.map (·.2)))).bind _ = some w from hw)
      have er : r2 d = ρ2 := by show (g d (wipeE ρ (own.map (·.2)))).getD [] = ρ2; rw [e1]; rfl
      split at e2
      · rename_i hcd
        obtain ⟨es, e3, e4⟩ := Option.bind_eq_some_iff.mp e2
        have es1 : sel d = true := by show (cond (r2 d)).getD false = true; rw [er, hcd]; rfl
        have ei : inn d = es := by show (src1 (r2 d)).getD [] = es; rw [er, e3]; rfl
        have eg : gg1 d = compG vs1 g1 cond1 val ρ2 := by show compG vs1 g1 cond1 val (r2 d) = _; rw [er]
        refine ⟨ρ2, e1, er, by rw [hcd, es1], fun _ => ⟨by rw [e3, ei], w, by rw [eg, ei, e4]⟩, ?_⟩
        rw [hw, row2, if_pos es1]
        rw [ei, eg]
        exact (compL_eq e4).2.symm
      · rename_i hcd
        cases e2
        have es1 : sel d = false := by show (cond (r2 d)).getD false = false; rw [er, hcd]; rfl
        refine ⟨ρ2, e1, er, by rw [hcd, es1], (fun z => by rw [es1] at z; cases z), ?_⟩
        rw [hw, row2, if_neg (by rw [es1]; simp)]; rfl
      · cases e2
    have efl : ds.flatMap (fun d => (comp2G (own.map (·.2)) vs1 g cond src1 g1 cond1 val ρ d).getD []) = ds.flatMap (row2 sel inn (fun d => selG (gg1 d)) (fun d => valG (gg1 d))) := by
      have : ∀ l : List D, (∀ d ∈ l, d ∈ ds) → l.flatMap (fun d => (comp2G (own.map (·.2)) vs1 g cond src1 g1 cond1 val ρ d).getD []) = l.flatMap (row2 sel inn (fun d => selG (gg1 d)) (fun d => valG (gg1 d))) := fun l => by
        induction l with
        | nil => intro _; rfl
        | cons d l ih =>
          intro hl
          obtain ⟨_, _, _, _, _, e⟩ := key d (hl d (by simp))
          rw [List.flatMap_cons, List.flatMap_cons, ih fun x hx => hl x (by simp [hx]), e]
      exact this ds fun d hd => hd
    rw [efl] at hz ⊢
    refine ⟨ds, sel, inn, fun d => selG (gg1 d), fun d => valG (gg1 d), rfl, hz, rfl, fun d hd => ?_⟩
    obtain ⟨ρ2, e1, er, ec, ei, _⟩ := key d hd
    refine ⟨ρ2, ts, hts, fun s H C cl fp => ht s H C cl fp _ _ _ e1, fun s H C cl fp => hc s H C cl fp ρ2 _ ec, fun hk => ?_⟩
    obtain ⟨e3, l, e4⟩ := ei hk
    refine ⟨fun s H C cl fp => hi1 s H C cl fp ρ2 _ e3, fun e he => ?_⟩
    obtain ⟨w, hw⟩ := (compL_eq e4).1 e he
    have eg : gg1 d = compG vs1 g1 cond1 val ρ2 := by show compG vs1 g1 cond1 val (r2 d) = _; rw [er]
    have hw2 := hw
    rw [eg] at hw2
    obtain ⟨ρ3, k1, k2⟩ := Option.bind_eq_some_iff.mp (show (g1 e (wipeE ρ2 vs1)).bind _ = some w from hw2)
    have hsel : selG (gg1 d) e = w.isSome := by unfold selG; rw [hw]; cases w <;> rfl
    have hval2 : w.isSome = true → some (valG (gg1 d) e) = w := fun z => by
      unfold valG; rw [hw]; cases w with
      | none => cases z
      | some v => rfl
    refine ⟨ρ3, ts1, hts1, fun s H C cl fp => ht1 s H C cl fp _ _ _ k1, fun s H C cl fp => ?_, fun hk1 s H C cl fp => ?_⟩
    · refine hc1 s H C cl fp ρ3 _ ?_
      show cond1 ρ3 = some (selG (gg1 d) e)
      rw [hsel]
      split at k2
      · rename_i e9
        obtain ⟨v, _, rfl⟩ := Option.map_eq_some_iff.mp k2
        exact e9
      · rename_i e9
        cases k2
        exact e9
      · cases k2
    · have hk1 : selG (gg1 d) e = true := hk1
      rw [hsel] at hk1
      have hv2 := hval2 hk1
      split at k2
      · obtain ⟨v, e9, rfl⟩ := Option.map_eq_some_iff.mp k2
        cases hv2
        exact (hval s H C cl fp ρ3).toD e9
      · cases k2; cases hk1
      · cases k2
  · cases h2
theorem oe_comp2 (own : List (Str × Nat)) (vs1 : List Nat) (gg : Ge n X) (hit : OJ X ρ tg it o) (ok : BlkOk X.N X.env.scope scope own) (hv : ∀ i ∈ vs1, i ∈ own.map (·.2)) (hts : ∀ t ∈ ts, t ∈ own.map (·.2)) (hts1 : ∀ t ∈ ts1, t ∈ vs1)
    (ht : InBlk X scope fun Y => OG Y tg g ts) (hc : InBlk X scope fun Y => ∀ ρ, OTs Y ρ ifs (cond ρ)) (hi1 : InBlk X scope fun Y => ∀ ρ, OI Y ρ tg1 it1 (src1 ρ)) (ht1 : InBlk X scope fun Y => OG Y tg1 g1 ts1) (hc1 : InBlk X scope fun Y => ∀ ρ, OTs Y ρ ifs1 (cond1 ρ)) (hval : InBlk X scope fun Y => ∀ ρ, OE Y ρ elt (val ρ))
    (hs : ∀ x, foldedSetIterable it X.env x = pure x := by intro _; rfl) (hs1 : ∀ env x, foldedSetIterable it1 env x = pure x := by intro _ _; rfl) : OE X ρ (.ListComp elt [⟨tg, it, ifs, 0⟩, ⟨tg1, it1, ifs1, 0⟩] scope pos) (comp2O o (own.map (·.2)) vs1 g cond src1 g1 cond1 val ρ) := fun r q => by
  obtain ⟨ds, sel, inn, sel1, val1, rfl, hz, rfl, turn⟩ := comp2_core own vs1 hts hts1 ht hc hi1 ht1 hc1 hval q
  exact dn_comp2 own vs1 sel inn sel1 val1 gg.calm gg.nd (hit _ rfl) ok hv hz turn hs hs1
theorem oss_setLc2 {W : WX} {rest : List Stmt} {k : Kt} {x : Str} (i : Nat) {pos' p4 : Pos} (own : List (Str × Nat)) (vs1 : List Nat) (gs : Gs n X W) (hit : OJ X ρ tg it o) (ok : BlkOk X.N X.env.scope scope own) (hv : ∀ i ∈ vs1, i ∈ own.map (·.2)) (hts : ∀ t ∈ ts, t ∈ own.map (·.2)) (hts1 : ∀ t ∈ ts1, t ∈ vs1)
    (ht : InBlk X scope fun Y => OG Y tg g ts) (hc : InBlk X scope fun Y => ∀ ρ, OTs Y ρ ifs (cond ρ)) (hi1 : InBlk X scope fun Y => ∀ ρ, OI Y ρ tg1 it1 (src1 ρ)) (ht1 : InBlk X scope fun Y => OG Y tg1 g1 ts1) (hc1 : InBlk X scope fun Y => ∀ ρ, OTs Y ρ ifs1 (cond1 ρ)) (hval : InBlk X scope fun Y => ∀ ρ, OE Y ρ elt (val ρ)) (hk : ∀ ρ', OS X W ρ' rest (k ρ')) (hi : X.N[i]? = some x := by rfl) (hyl : X.env.scope.names.lookup x = some .local := by rfl)
    (hsw : swapsWith (.ListComp elt [⟨tg, it, ifs, 0⟩, ⟨tg1, it1, ifs1, 0⟩] scope p4) (some (.Name x pos')) pos.line X.env = pure true := by rfl) (hs : ∀ x, foldedSetIterable it X.env x = pure x := by intro _; rfl) (hs1 : ∀ env x, foldedSetIterable it1 env x = pure x := by intro _ _; rfl) :
    OS X W ρ (.Assign [.Name x pos'] (.ListComp elt [⟨tg, it, ifs, 0⟩, ⟨tg1, it1, ifs1, 0⟩] scope p4) pos :: rest) (setLO i (comp2O o (own.map (·.2)) vs1 g cond src1 g1 cond1 val ρ) k ρ) := fun out h => by
  unfold setLO at h
  split at h
  · rename_i ds e1
    split at h
    · rename_i hl
      obtain ⟨ds', sel, inn, sel1, val1, rfl, hz, e2, turn⟩ := comp2_core own vs1 hts hts1 ht hc hi1 ht1 hc1 hval e1
      cases e2
      exact PS.setL hl (ps_compN2 own vs1 sel inn sel1 val1 gs.ge.calm gs.ge.nd hi hyl hsw (hit _ rfl) ok hv hz turn hs hs1) (hk _ _ h)
    · cases h
  · cases h
end
end DL

set_option Elab.async false
set_option linter.all false
set_option maxRecDepth 100000
set_option autoImplicit false
/-! texts: str(), join, find, index, split, rjust -/
namespace DL
open PySem PySem.Spec PyProof.Rows L2
section
variable {X : Cx} {ρ : Ev} {e a b : Expr} {ds : List D} {pos p p2 : Pos} {oa ob : Option R}
theorem b_str : bootBuiltins "str" = some (.type "str") := by decide +kernel
def strR (x : R) : Option R := match x with
  | .v (.int i) => if i.natAbs.log2 < 1920 then vS (toString i) else none
  | .v (.str s) => vS s
  | _ => none
theorem oe_strf (hm : X.mg "str" = none) (ha : OE X ρ e oa) (hs : starEach (e :: []) X.env = (false, eval e X.env) :: starEach [] X.env := by rfl) (hg : Gl X "str" := by rfl) (hpl : (backTo pos (starEach ([] : List Expr) X.env)).any (·.1) = false := by rfl) : OE X ρ (.Call (.Name "str" p) [e] [] pos) (oa.bind strR) := fun r q => by
  obtain ⟨x, rfl, k⟩ := Option.bind_eq_some_iff.mp q
  unfold strR at k
  split at k
  · split at k
    · rename_i i hi
      cases k
      exact argsT (R := rD X.K (.str (toString i))) call_str_int (pa1 mD (ha _ rfl) hs) hm b_str (fun F H vs Q s ⟨y, ys, e1, r, e3⟩ q => by
        subst e3 e1
        cases r
        exact ⟨i, rfl, hi, q _ rfl⟩) hg (by decide) (by decide) hs hpl
    · cases k
  · rename_i z
    cases k
    exact argsT (R := rD X.K (.str z)) SkE.call_str_str (pa1 mD (ha _ rfl) hs) hm b_str (fun F H vs Q s ⟨y, ys, e1, r, e3⟩ q => by
      subst e3 e1
      cases r
      exact ⟨z, rfl, q _ rfl⟩) hg (by decide) (by decide) hs hpl
  · cases k
/-- a method of a text, one argument, a value -/
theorem de_m1 {id : String} {name : Str} {apos : Pos} {r : V → List V → Hp → VK → Prop} {z : Str} {S : Rel} {d : D} (mS : Mono S) (slot : Slot "str" name id) (ty : typeOf (.builtin id) = pure (.type "method_descriptor")) (rule : MtR X id r) (ho : DE X ρ a (.str z)) (he : PE X b (tG X.K ρ S))
    (w : ∀ (F H : Hp) (y : V) (Q : VK), Same F H → S F H y → (∀ v, Rp X.K F d v → Q v H) → r (.str z) [y] H Q)
    (hs : starEach [b] X.env = [(false, eval b X.env)] := by rfl) (hbase : attributeBase a name X.env (eval a X.env) = eval a X.env := by rfl) (hline : (apos.endLine == pos.line) = true := by rfl) : DE X ρ (.Call (.Attribute a name apos) [b] [] pos) d :=
  PE.weak (pe_m1 slot ty rule ho he hs hbase hline) fun σ H Q ⟨F0, H0, F, o, q⟩ => ⟨F0, H0, F, o, fun x F1 H1 f1 r1 => ⟨⟨z, r1⟩, F0, H0, F1, o.call f1, fun y F2 H2 f2 r2 => by
    cases r1
    exact w F2 H2 y Q f2.fh r2 fun v rv => q v F2 H2 (f1.trans f2) rv⟩⟩
def strsD : List D → Option (List Str)
  | [] => some []
  | .str b :: ds => (strsD ds).map (b :: ·)
  | _ => none
theorem strsD_map : ∀ (bs : List Str), strsD (bs.map D.str) = some bs
  | [] => rfl
  | b :: bs => by show (strsD (bs.map D.str)).map (b :: ·) = _; rw [strsD_map bs]; rfl
theorem strsD_eq : ∀ {ds : List D} {bs : List Str}, strsD ds = some bs → ds = bs.map D.str
  | [], bs, h => by cases h; rfl
  | d :: ds, bs, h => by
    cases d with
    | str b =>
      obtain ⟨cs, m, rfl⟩ := Option.map_eq_some_iff.mp (show (strsD ds).map (b :: ·) = some bs from h)
      rw [strsD_eq m]; rfl
    | _ => cases h
def joinR (x y : R) : Option R := match x with
  | .v (.str z) => (y.b.bind strsD).bind fun ys => if (ys.map (·.length)).sum + ys.length * z.length ≤ 16777216 then vS (Txt.join z ys) else none
  | _ => none
theorem oe_join {apos : Pos} (ha : OE X ρ a oa) (hb : OE X ρ b ob) (hs : starEach [b] X.env = [(false, eval b X.env)] := by rfl) (hbase : attributeBase a "join" X.env (eval a X.env) = eval a X.env := by rfl) (hline : (apos.endLine == pos.line) = true := by rfl) : OE X ρ (.Call (.Attribute a "join" apos) [b] [] pos) (o2 joinR oa ob) := fun r q => by
  obtain ⟨x, y, rfl, rfl, k⟩ := o2_eq q
  unfold joinR at k
  split at k
  · rename_i z
    obtain ⟨ys, k0, k1⟩ := Option.bind_eq_some_iff.mp k
    obtain ⟨ds, e1, k2⟩ := Option.bind_eq_some_iff.mp k0
    obtain rfl := strsD_eq k2
    split at k1
    · rename_i hz
      cases k1
      exact de_m1 mB PySem.F.slot_str_join PySem.F.type_str_join mt_join (ha _ rfl) ((hb _ rfl).toB e1) (fun F H y Q s ⟨l, xs, e2, h1, r⟩ q => by
        rw [Rps.strs] at r
        subst r e2
        exact ⟨z, l, ys, rfl, rfl, h1, hz, q _ rfl⟩) hs hbase hline
    · cases k1
  · cases k
abbrev ss (f : Str → Str → Option R) : R → R → Option R := fun x y => match x, y with
  | .v (.str i), .v (.str j) => f i j
  | _, _ => none
theorem ss_eq {f : Str → Str → Option R} {x y r : R} (h : ss f x y = some r) : ∃ i j, x = .v (.str i) ∧ y = .v (.str j) ∧ f i j = some r := by
  unfold ss at h
  split at h
  · exact ⟨_, _, rfl, rfl, h⟩
  · cases h
def findR : R → R → Option R := ss fun i j => vI (Txt.find i j)
theorem oe_find {apos : Pos} (ha : OE X ρ a oa) (hb : OE X ρ b ob) (hs : starEach [b] X.env = [(false, eval b X.env)] := by rfl) (hbase : attributeBase a "find" X.env (eval a X.env) = eval a X.env := by rfl) (hline : (apos.endLine == pos.line) = true := by rfl) : OE X ρ (.Call (.Attribute a "find" apos) [b] [] pos) (o2 findR oa ob) := fun r q => by
  obtain ⟨x, y, rfl, rfl, k⟩ := o2_eq q
  obtain ⟨i, j, rfl, rfl, k⟩ := ss_eq k
  cases k
  exact de_m1 mD PySem.F.slot_str_find PySem.F.type_str_find mt_find (ha _ rfl) (hb _ rfl) (fun F H y Q s r q => by
    cases r
    exact ⟨i, j, rfl, rfl, q _ rfl⟩) hs hbase hline
def sindexR : R → R → Option R := ss fun i j => match Builtin.Str.occurrences i j 0 i.length 1 with
  | k :: _ => vI (k : Nat)
  | [] => none
theorem oe_sindex {apos : Pos} (ha : OE X ρ a oa) (hb : OE X ρ b ob) (hs : starEach [b] X.env = [(false, eval b X.env)] := by rfl) (hbase : attributeBase a "index" X.env (eval a X.env) = eval a X.env := by rfl) (hline : (apos.endLine == pos.line) = true := by rfl) : OE X ρ (.Call (.Attribute a "index" apos) [b] [] pos) (o2 sindexR oa ob) := fun r q => by
  obtain ⟨x, y, rfl, rfl, k⟩ := o2_eq q
  obtain ⟨i, j, rfl, rfl, k2⟩ := ss_eq k
  split at k2
  · rename_i n l ho
    cases k2
    exact de_m1 mD PySem.F.slot_str_index PySem.F.type_str_index mt_sindex (ha _ rfl) (hb _ rfl) (fun F H y Q s r q => by
      cases r
      exact ⟨i, j, n, l, rfl, rfl, ho, q _ rfl⟩) hs hbase hline
  · cases k2
end
end DL

set_option Elab.async false
set_option linter.all false
set_option maxRecDepth 100000
set_option autoImplicit false
/-! membership of any plain value in a list -/
namespace DL
open PySem PySem.Spec PyProof.Rows L2 L2
section
variable {X : Cx} {ρ : Ev} {a b : Expr} {oa ob : Option R} {n : Nat}
def inDR (x y : R) : Option Bool := match x.p, y.p with
  | some d, some (.list ds) => if SeqAt.shaped d = true ∧ SeqAt.shaped (.list ds) = true then some (ds.any fun z => PyData.eqv z d) else none
  | _, _ => none
/-- the flat rule first -/
def in2R (x y : R) : Option Bool := (inR x y).or (inDR x y)
theorem oc_in2 (g : Ge n X) (ha : OE X ρ a oa) (hb : OE X ρ b ob) : OC X ρ .In a b (o2 in2R oa ob) := fun r h => by
  obtain ⟨x, y, rfl, rfl, k⟩ := o2_eq h
  unfold in2R at k
  rcases Option.or_eq_some_iff.mp k with k | ⟨_, k⟩
  · exact oc_in ha hb r (by rw [o2_some]; exact k)
  · unfold inDR at k
    split at k
    · rename_i d ds e1 e2
      split at k
      · rename_i q
        cases k
        exact ⟨_, _, _, op_inD (by have := g.room.un; omega), (ha _ rfl).toP e1, (hb _ rfl).toP e2, mP, fun F H x y Q s r1 r2 w => ⟨d, ds, r1, r2, q.1, q.2, w⟩⟩
      · cases k
    · cases k
theorem oc_nin2 (g : Ge n X) (ha : OE X ρ a oa) (hb : OE X ρ b ob) : OC X ρ .NotIn a b ((o2 in2R oa ob).map (!·)) := fun r h => by
  obtain ⟨t, m, rfl⟩ := Option.map_eq_some_iff.mp h
  obtain ⟨x, y, rfl, rfl, k⟩ := o2_eq m
  unfold in2R at k
  rcases Option.or_eq_some_iff.mp k with k | ⟨_, k⟩
  · exact oc_nin ha hb _ (by rw [o2_some]; unfold ninR; rw [k]; rfl)
  · unfold inDR at k
    split at k
    · rename_i d ds e1 e2
      split at k
      · rename_i q
        cases k
        exact ⟨_, _, _, op_notInD (by have := g.room.un; omega), (ha _ rfl).toP e1, (hb _ rfl).toP e2, mP, fun F H x y Q s r1 r2 w => ⟨d, ds, r1, r2, q.1, q.2, w⟩⟩
      · cases k
    · cases k
end
end DL

set_option Elab.async false
set_option linter.all false
set_option maxRecDepth 100000
set_option autoImplicit false
/-! a, b = x, y -/
namespace DL
open PySem PySem.Spec PyProof.Rows L2
section
variable {X : Cx} {W : WX} {ρ : Ev} {a b : Expr} {rest : List Stmt} {pos : Pos} {os : Option (List D)} {n : Nat} {k : Kt} {x y : Str}
def parO (i j : Nat) (os : Option (List D)) (k : Kt) (ρ : Ev) : Option Out := match os with
  | some [u, v] => k ((ρ.set i (.sh u)).set j (.sh v))
  | _ => none
theorem oss_par (i j : Nat) {px py pt pt2 : Pos} {kt k2 : Nat} (g : Gs n X W) (ha : OA X ρ [a, b] os) (hk : ∀ ρ', OS X W ρ' rest (k ρ')) (hij : i ≠ j) (hi : X.N[i]? = some x := by rfl) (hj : X.N[j]? = some y := by rfl) (hx : X.env.scope.names.lookup x = some .local := by rfl) (hy : X.env.scope.names.lookup y = some .local := by rfl)
    (hw : swappedStores [.Tuple [.Name x px, .Name y py] kt pt] (.Tuple [a, b] k2 pt2) X.env = pure (some [x, y]) := by rfl) (hs : swapsWithSole [.Tuple [.Name x px, .Name y py] kt pt] (.Tuple [a, b] k2 pt2) pos.line X.env = pure false := by rfl) :
    OS X W ρ (.Assign [.Tuple [.Name x px, .Name y py] kt pt] (.Tuple [a, b] k2 pt2) pos :: rest) (parO i j os k ρ) := fun out h => by
  unfold parO at h
  split at h
  · rename_i u v
    refine dss_then (PS.weak (ps_par g.ge.calm g.ge.nd hi hj hij hx hy (ha _ rfl) hw hs) fun B σ H ⟨F0, H0, F, o, f⟩ => ⟨F0, H0, F, o, fun vs F' H' f' ⟨p, ps, e1, r1, q, qs, e2, r2, e3⟩ => ?_⟩) (hk _ _ h)
    subst e3 e2 e1
    exact ⟨p, q, rfl, f.nx _ _ _ _ rfl (((o.call f').put (i := i) (s := .sh u) ⟨p, rfl, r1⟩ fun a h => by cases h).put (i := j) (s := .sh v) ⟨q, rfl, r2⟩ fun a h => by cases h)⟩
  · cases h
end
end DL

set_option Elab.async false
set_option linter.all false
set_option maxRecDepth 100000
set_option autoImplicit false
/-! repr(x) of plain data -/
namespace DL
open PySem PySem.Spec PyProof.Rows L2
def shows (z : PyData) : Bool := z.showable && !z.hasDict && decide (z.depth ≤ 64) && decide (z.shown.length ≤ sizeLine)
def reprR (x : R) : Option R := x.p.bind fun z => if shows z = true then vS z.shown else none
section
variable {X : Cx} {ρ : Ev} {e : Expr} {pos p : Pos} {oa : Option R} {n : Nat}
theorem call_reprD (hg : X.A.guards = some []) (hu : X.A.units + 100 < cLine) : CallR X (.builtin "repr") (fun xs H Q => ∃ v z, xs = [v] ∧ Dp X.K H v z ∧ shows z = true ∧ Q (.str z.shown) H) := by
  rintro pins s σ H xs us Q I r ⟨v, z, rfl, hd, hs, q⟩
  obtain ⟨u, rfl, ru⟩ := vals1 r
  simp only [shows, Bool.and_eq_true, decide_eq_true_eq, Bool.not_eq_true'] at hs
  obtain ⟨⟨⟨h1, h2⟩, h3⟩, h4⟩ := hs
  obtain ⟨as, rd⟩ := Dp.reads I z v u hd ru
  cases rd with
  | none => exact PySem.P.repr_of_none ⟨.str _, H, I.tok _, ⟨_, rfl⟩, q⟩
  | bool b => exact PySem.P.repr_of_bool ⟨.str _, H, I.tok _, ⟨_, rfl⟩, q⟩
  | int i t => exact PySem.P.repr_of_int (by simpa [PyData.showable] using h1) ⟨.str _, H, I.tok _, ⟨_, rfl⟩, q⟩
  | str x t => exact PySem.P.repr_of_str (hsz := by simpa [PyData.shown] using h4) ⟨.str _, H, I.tok _, ⟨_, rfl⟩, q⟩
  | list a b c d => exact repr_of_reads' (.list a b c d) h1 (PyData.noDict_hsm h2) hg (by omega) (fun _ _ z => z) (fun h' w tk hk => ⟨.str _, H, I.kept (t' := tk) hk, ⟨_, rfl⟩, q⟩) h4
  | tuple a b c d => exact repr_of_reads' (.tuple a b c d) h1 (PyData.noDict_hsm h2) hg (by omega) (fun _ _ z => z) (fun h' w tk hk => ⟨.str _, H, I.kept (t' := tk) hk, ⟨_, rfl⟩, q⟩) h4
  | dict => cases hd
theorem oe_repr (g : Ge n X) (hm : X.mg "repr" = none) (ha : OE X ρ e oa) (hs : starEach (e :: []) X.env = (false, eval e X.env) :: starEach [] X.env := by rfl) (hg : Gl X "repr" := by rfl) (hpl : (backTo pos (starEach ([] : List Expr) X.env)).any (·.1) = false := by rfl) :
    OE X ρ (.Call (.Name "repr" p) [e] [] pos) (oa.bind reprR) := fun r q => by
  obtain ⟨x, rfl, q0⟩ := Option.bind_eq_some_iff.mp q
  unfold reprR at q0
  obtain ⟨z, h1, q⟩ := Option.bind_eq_some_iff.mp q0
  split at q
  · rename_i h2
    cases q
    exact argsB (R := rD X.K (.str z.shown)) (call_reprD g.room.gd (by have := g.room.un; omega)) (pa1 mP ((ha _ rfl).toP h1) hs) hm bootS_repr (fun F H vs Q s ⟨y, ys, e1, r, e3⟩ w => by
      subst e3 e1
      exact ⟨y, z, rfl, r, h2, w _ rfl⟩) hg (by decide) (by decide) hs hpl
  · cases q
end
end DL

set_option Elab.async false
set_option linter.all false
set_option maxRecDepth 100000
set_option autoImplicit false
/-! list(range(..)), truth of values, stores at places in tuples of targets, sorted ints -/
namespace DL
open PySem PySem.Spec PyProof.Rows L2
section
variable {X : Cx} {W : WX} {ρ ρ' ρ1 ρ2 : Ev} {tg e a b : Expr} {es : List Expr} {d : D} {ds : List D} {pos p p2 pos2 : Pos} {oa ob : Option R} {n : Nat} {rest : List Stmt} {k : Kt} {x : Str}
theorem rgV_rng (i j : Int) : rgV i j = (rng i j).map V.int := by unfold rgV rng; rw [List.map_map]; rfl
def lrgR (i j : Int) : Option R := if in62 i ∧ in62 j ∧ (j - i).toNat ≤ 16777216 then vN (iD (rng i j)) else none
def lrg1R (x : R) : Option R := match x with
  | .v (.int j) => lrgR 0 j
  | _ => none
def lrg2R (x y : R) : Option R := match x, y with
  | .v (.int i), .v (.int j) => lrgR i j
  | _, _ => none
theorem oe_lrg1 (hc : X.calm = true) (hm : X.mg "list" = none) (hr : X.mg "range" = none) (ha : OE X ρ a oa) (hg : Gl X "list" := by rfl) (hg2 : Gl X "range" := by rfl) (na : starEach [a] X.env = (false, eval a X.env) :: starEach [] X.env := by rfl)
    (nb : starEach [.Call (.Name "range" p2) [a] [] pos2] X.env = (false, eval (.Call (.Name "range" p2) [a] [] pos2) X.env) :: starEach [] X.env := by rfl) :
    OE X ρ (.Call (.Name "list" p) [.Call (.Name "range" p2) [a] [] pos2] [] pos) (oa.bind lrg1R) := fun r q => by
  obtain ⟨z, rfl, q1⟩ := Option.bind_eq_some_iff.mp q
  unfold lrg1R at q1
  split at q1
  · unfold lrgR at q1
    split at q1
    · rename_i j hh
      cases q1
      obtain ⟨h0, h1, h2⟩ := hh
      unfold in62 at h1
      have rk : RgOk 0 j := ⟨by omega, by omega, by omega, by omega, by omega⟩
      exact PE.weak (pe_listRg hc hg hm (prg_1 hg2 hr (ha _ rfl) na) nb) fun σ H Q ⟨F0, H0, F, o, w⟩ => ⟨F0, H0, F, o, fun v F' H' f r => ⟨j, r, rk, fun q hq => by
        have g1 := Fin.newO (u := .lst (rgV 0 j)) f.fh hq
        exact w q _ F' _ (f.trans g1) (f.h0.free hq) upd_same (f.fh.free hq) (by rw [rgV_rng]; exact Rps.ints.mpr rfl)⟩⟩
    · cases q1
  · cases q1
theorem oe_lrg2 (hc : X.calm = true) (hm : X.mg "list" = none) (hr : X.mg "range" = none) (ha : OE X ρ a oa) (hb : OE X ρ b ob) (hg : Gl X "list" := by rfl) (hg2 : Gl X "range" := by rfl) (na : starEach [a, b] X.env = (false, eval a X.env) :: starEach [b] X.env := by rfl)
    (nb0 : starEach [b] X.env = (false, eval b X.env) :: starEach [] X.env := by rfl) (hp : (backTo pos2 (starEach [b] X.env)).any (·.1) = false := by rfl)
    (nb : starEach [.Call (.Name "range" p2) [a, b] [] pos2] X.env = (false, eval (.Call (.Name "range" p2) [a, b] [] pos2) X.env) :: starEach [] X.env := by rfl) :
    OE X ρ (.Call (.Name "list" p) [.Call (.Name "range" p2) [a, b] [] pos2] [] pos) (o2 lrg2R oa ob) := fun r q => by
  obtain ⟨y, z, rfl, rfl, q1⟩ := o2_eq q
  unfold lrg2R at q1
  split at q1
  · unfold lrgR at q1
    split at q1
    · rename_i i j hh
      cases q1
      obtain ⟨h0, h1, h2⟩ := hh
      unfold in62 at h0 h1
      have rk : RgOk i j := ⟨by omega, by omega, by omega, by omega, by omega⟩
      exact PE.weak (pe_listRg hc hg hm (prg_2 hg2 hr (ha _ rfl) (hb _ rfl) na nb0 hp) nb) fun σ H Q ⟨F0, H0, F, o, w⟩ => ⟨F0, H0, F, o, fun v F1 H1 f1 r1 => ⟨F0, H0, F1, o.call f1, fun v2 F' H' f2 r2 => ⟨i, j, r1, r2, rk, fun q hq => by
        have g1 := Fin.newO (u := .lst (rgV i j)) f2.fh hq
        exact w q _ F' _ ((f1.trans f2).trans g1) ((f1.trans f2).h0.free hq) upd_same (f2.fh.free hq) (by rw [rgV_rng]; exact Rps.ints.mpr rfl)⟩⟩⟩
    · cases q1
  · cases q1
/-! truth -/
def R.w (x : R) : Option Bool := match x with
  | .v (.bl b) => some b
  | .v .non => some false
  | .v (.int i) => some (i != 0)
  | .v (.str s) => if s.length ≤ sizeLine then some (s.length != 0) else none
  | .v (.tup ds) => some (!ds.isEmpty)
  | x => x.q.map fun ds => !ds.isEmpty
theorem isEmpty_rps {K : PySem.W.Frag} {F : Hp} {ds : List D} {vs : List V} (r : Rps K F ds vs) : vs.isEmpty = ds.isEmpty := by
  have := r.length
  cases vs <;> cases ds <;> first | rfl | simp at this
theorem ot_truth (h : OE X ρ e oa) (he : ∀ whole, isTrue e X.env whole = (do let v ← whole; standAt e.pos; holding [v] (truthy v)) := by intro _; rfl) : OT X ρ e (oa.bind R.w) := fun k q => by
  obtain ⟨r, rfl, q0⟩ := Option.bind_eq_some_iff.mp q
  have h := h _ rfl
  have key : ∀ {Rl : Rel}, PE X e (tG X.K ρ Rl) → (∀ F H v, Same F H → Rl F H v → TruV X.K v H k) → DT X ρ e k := fun {Rl} h w => PT.weak (pt_truth h he) fun σ H Q ⟨F0, H0, F, o, q⟩ => ⟨F0, H0, F, o, fun v F' H' f r => ⟨k, w F' H' v f.fh r, q F' H' f⟩⟩
  unfold R.w at q0
  split at q0
  · cases q0; exact key h fun F H v s r => by cases r; exact rfl
  · cases q0; exact key h fun F H v s r => by cases r; exact rfl
  · cases q0; exact key h fun F H v s r => by cases r; exact rfl
  · split at q0
    · cases q0; rename_i hz; exact key h fun F H v s r => by
        cases r
        refine ⟨hz, ?_⟩
        rename_i z _
        by_cases c : z.length = 0
        · rw [c]; rfl
        · have c2 : ¬ (z.length : Int) = 0 := by omega
          rw [bne_iff_ne.mpr c, bne_iff_ne.mpr c2]
    · cases q0
  · cases q0; exact key (DE.du h) fun F H v s ⟨p, xs, ev, hx, r⟩ => by subst ev; exact .inr (.inl ⟨xs, hx, by rw [isEmpty_rps r]⟩)
  · obtain ⟨es, e1, rfl⟩ := Option.map_eq_some_iff.mp q0
    exact key (DR.toQ h e1) fun F H v s ⟨p, xs, ev, hx, r⟩ => by subst ev; exact .inl ⟨xs, hx, by rw [isEmpty_rps r]⟩
/-! targets that may be places of owned lists -/
def gE (K : PySem.W.Frag) (ρ : Ev) (d : D) (ρ' : Ev) : TG := fun v σ H Q => ∃ F0 H0 F, Ok K F0 H0 F H σ ρ ∧ Rp K F d v ∧ ∀ F' σ' H', Same F F' → Ok K F0 H0 F' H' σ' ρ' → Q σ' H'
def EG (X : Cx) (tg : Expr) (g : D → Ev → Option Ev) : Prop := ∀ ρ d ρ', g d ρ = some ρ' → PG X tg (gE X.K ρ d ρ')
def gEs (K : PySem.W.Frag) (ρ : Ev) (ds : List D) (ρ' : Ev) : TGs := fun vs σ H Q => ∃ F0 H0 F, Ok K F0 H0 F H σ ρ ∧ Rps K F ds vs ∧ ∀ F' σ' H', Same F F' → Ok K F0 H0 F' H' σ' ρ' → Q σ' H'
def EGs (X : Cx) (es : List Expr) (g : List D → Ev → Option Ev) : Prop := ∀ ρ ds ρ', g ds ρ = some ρ' → PGs X es (gEs X.K ρ ds ρ')
theorem eg_name (i : Nat) (hN : X.N.Nodup) (hi : X.N[i]? = some x := by rfl) (hx : Loc X.env.scope x := by first | exact .inl rfl | exact .inr rfl) (hf : X.fn x = true ∨ X.env.scope.names.lookup x = some .local := by first | exact .inl rfl | exact .inr rfl) : EG X (.Name x pos) (nameG i) := fun ρ d ρ' h => by
  cases h
  exact PG.weak (dg_name i hN hi hx hf) fun v σ H Q ⟨F0, H0, F, o, r, q⟩ => ⟨F0, H0, F, o, r, fun σ' _ u => q F σ' H (L2.Same.refl _) (u F H (L2.Same.refl _) o)⟩
def subG (i : Nat) (oi : Ev → Option R) : D → Ev → Option Ev := fun d ρ => (owR ρ i).bind fun ds => ((oi ρ).bind R.i).bind fun j => (ixN ds.length j).bind fun n => some (ρ.set i (.ow (ds.set n d)))
theorem eg_sub {oi : Ev → Option R} {q1 q2 : Pos} (i : Nat) (hb : ∀ ρ, OE X ρ b (oi ρ)) (hN : X.N[i]? = some x := by rfl) (hv : Vis X.env.scope x := by first | exact Or.inl rfl | exact Or.inr (Or.inl rfl) | exact Or.inr (Or.inr rfl))
    (hd : (x == ("__debug__" : Str)) = false := by decide) (hcd : (x == ("__classdict__" : Str)) = false := by decide)
    (ha : ∀ v, assign (.Subscript (.Name x q1) b q2) X.env v = (do
      let ov ← holding [v] (eval (.Name x q1) X.env)
      let iv ← holding [v, ov] (eval b X.env)
      standAt q2
      holding [v, ov, iv] (setItem ov iv v)
      release [v, ov, iv] []) := by intro _; rfl) : EG X (.Subscript (.Name x q1) b q2) (subG i oi) := fun ρ d ρ' h => by
  unfold subG at h
  obtain ⟨ds, h1, h⟩ := Option.bind_eq_some_iff.mp h
  obtain ⟨j, h2, h⟩ := Option.bind_eq_some_iff.mp h
  obtain ⟨n, h3, h⟩ := Option.bind_eq_some_iff.mp h
  cases h
  obtain ⟨z, hz, m⟩ := Option.bind_eq_some_iff.mp h2
  obtain rfl := R.i_eq m
  have hbj : DE X ρ b (.int j) := hb ρ _ hz
  have hi := owR_eq h1
  refine PG.weak (pg_sub (pe_var hN hv hd hcd) hbj set_list ha) fun v σ H Q ⟨F0, H0, F, o, r, q⟩ => ?_
  obtain ⟨v0, e, p, xs, rfl, f1, f2, f3, rr⟩ := slot_at o hi
  refine ⟨_, e, F0, H0, F, o, fun w F2 H2 fn rw_ => ?_⟩
  obtain ⟨v2, e2, q2', xs2, eq2, h12, h22, h32, r22⟩ := slot_at (o.call fn) hi
  rw [e] at e2; cases e2; cases eq2
  exact ⟨p, xs2, j, n, rfl, rw_, h12, by rw [r22.length]; exact h3, q F2 σ _ fn.f0 ((o.call fn).write (s := .ow ds) (s' := .ow (ds.set n d)) hi rfl e ⟨p, _, rfl, upd_same, h22, h32, Rps.set n r22 (r.mono fn.f0)⟩ (fun a ha => by cases ha; rfl))⟩
theorem egs_nil : EGs X [] nilG := fun ρ ds ρ' h => by
  cases ds with
  | nil => cases h; exact PGs.weak pgs_nil fun vs σ H Q ⟨F0, H0, F, o, r, q⟩ => ⟨r, q F σ H (L2.Same.refl _) o⟩
  | cons d ds => cases h
theorem egs_cons {g : D → Ev → Option Ev} {h : List D → Ev → Option Ev} (h1 : EG X tg g) (h2 : EGs X es h) (hs : (assignEach (tg :: es) X.env).map (·.2) = assign tg X.env :: (assignEach es X.env).map (·.2) := by rfl) : EGs X (tg :: es) (consG g h) := fun ρ ds ρ' q => by
  cases ds with
  | nil => cases q
  | cons d ds =>
    obtain ⟨ρ1, q1, q2⟩ := Option.bind_eq_some_iff.mp (show (g d ρ).bind (h ds) = some ρ' from q)
    exact PGs.weak (pgs_cons (h1 _ _ _ q1) (h2 _ _ _ q2) hs) fun vs σ H Q ⟨F0, H0, F, o, ⟨y, ys, e, r1, r2⟩, w⟩ => ⟨y, ys, e, F0, H0, F, o, r1, fun F1 σ1 H1 s1 o1 => ⟨F0, H0, F1, o1, r2.mono s1, fun F2 σ2 H2 s2 o2 => w F2 σ2 H2 (s1.trans s2) o2⟩⟩
theorem eg_tup {m j : Nat} {h : List D → Ev → Option Ev} (hc : X.calm = true) (h1 : EGs X es h) (hn : (assignEach es X.env).length = m := by rfl) (hst : (assignEach es X.env).findIdx? (·.1) = none := by rfl) : EG X (.Tuple es j pos) (tupG m h) := fun ρ d ρ' q => by
  unfold tupG at q
  split at q
  · split at q
    · rename_i hl
      exact PG.weak (pg_tup hc (h1 _ _ _ q) hn hst) fun v σ H Q ⟨F0, H0, F, o, ⟨a, xs, e, ha, r⟩, w⟩ => ⟨a, xs, e, Same.tup o.fin.fh ha, by rw [r.length, hl], F0, H0, F, o, r, w⟩
    · cases q
  · split at q
    · rename_i hl
      exact PG.weak (pg_lst hc (h1 _ _ _ q) hn hst) fun v σ H Q ⟨F0, H0, F, o, ⟨a, xs, e, ha, r⟩, w⟩ => ⟨a, xs, e, .of (o.fin.fh _ _ ha), by rw [r.length, hl], F0, H0, F, o, r, w⟩
    · cases q
  · cases q
theorem oss_asgE {tgs : D → Ev → Option Ev} (he : OE X ρ e oa) (ht : EG X tg tgs) (hk : ∀ ρ', OS X W ρ' rest (k ρ')) (hs : swapsWithSole [tg] e pos.line X.env = pure false := by rfl) (hw : swappedStores [tg] e X.env = pure none := by rfl)
    (h1 : (assignEach [tg] X.env).map (·.2) = [assign tg X.env] := by rfl) : OS X W ρ (.Assign [tg] e pos :: rest) (asgO tgs oa k ρ) := fun out h => by
  obtain ⟨d, h2, h3⟩ := Option.bind_eq_some_iff.mp h
  obtain ⟨ρ1, h4, h5⟩ := Option.bind_eq_some_iff.mp h3
  refine dss_then (ρ' := ρ1) (PS.weak (ps_asg (he.toD h2) (ht _ _ _ h4) hs hw h1) fun B σ H ⟨F0, H0, F, o, f⟩ => ⟨F0, H0, F, o, fun v F' H' f' r => ?_⟩) (hk _ _ h5)
  exact ⟨F0, H0, F', o.call f', r, fun F2 σ2 H2 s2 o2 => f.nx _ _ _ _ rfl o2⟩
/-! sorted(ints) -/
def srt (ns : List Int) : List Int := ns.mergeSort (fun a b => decide (a ≤ b))
theorem srt_perm (ns : List Int) : (srt ns).Perm ns := List.mergeSort_perm ..
theorem srt_sorted (ns : List Int) : (srt ns).Pairwise (· ≤ ·) := by
  have := List.pairwise_mergeSort (le := fun a b : Int => decide (a ≤ b)) (fun a b c h1 h2 => by simp at *; omega) (fun a b => by simp; omega) ns
  exact this.imp fun h => of_decide_eq_true h
theorem srt_eq {ns ms : List Int} (h : ms.Perm ns) (hs : ms.Pairwise (· ≤ ·)) : ms = srt ns :=
  List.Perm.eq_of_pairwise (fun a b _ _ h1 h2 => Int.le_antisymm h1 h2) hs (srt_sorted ns) (h.trans (srt_perm ns).symm)
def sortR (x : R) : Option R := (x.q.bind intsD).map fun ns => .n (iD (srt ns))
theorem oe_sortI (hm : X.mg "sorted" = none) (ha : OE X ρ e oa) (hs : starEach (e :: []) X.env = (false, eval e X.env) :: starEach [] X.env := by rfl) (hg : Gl X "sorted" := by rfl) (hpl : (backTo pos (starEach ([] : List Expr) X.env)).any (·.1) = false := by rfl) :
    OE X ρ (.Call (.Name "sorted" p) [e] [] pos) (oa.bind sortR) := fun r q => by
  obtain ⟨x, rfl, k⟩ := Option.bind_eq_some_iff.mp q
  obtain ⟨ns, k0, rfl⟩ := Option.map_eq_some_iff.mp k
  obtain ⟨ds, e1, k1⟩ := Option.bind_eq_some_iff.mp k0
  obtain rfl := intsD_eq k1
  exact argsB_new cr_sortedI (pa1 mQ ((ha _ rfl).toQ e1) hs) hm (by decide +kernel) (fun F H vs Q s ⟨y, ys, e1, ⟨l, xs, e2, h1, r⟩, e3⟩ q => by
    subst e3 e2 e1
    rw [Rps.ints.mp r] at h1
    exact ⟨l, ns, rfl, h1, fun ns' p hp hsrt hn => q p _ hn (by rw [srt_eq hp hsrt]; exact Rps.ints.mpr rfl)⟩) hg (by decide) (by decide) hs hpl
end
end DL

set_option Elab.async false
set_option linter.all false
set_option maxRecDepth 100000
set_option autoImplicit false
/-! any of a tuple of ints -/
namespace DL
open PySem PySem.Spec PyProof.Rows L2
theorem truth_ints {prog : Program} {w : World} {A : Around} {ns : List Int} {its : List Value} (r : Vals (ns.map V.int) its) :
    TruthOf prog w A (fun i v => its.toArray[i]? = some v) (fun i => ns.getD i 0 != 0) := fun i v s Q E hv hq => by
  have hv' : its[i]? = some v := by simpa using hv
  have hl := r.length
  obtain ⟨lt, _⟩ := List.getElem?_eq_some_iff.mp hv'
  have lt2 : i < ns.length := by simp at hl; omega
  have e : (ns.map V.int)[i]? = some (.int ns[i]) := by simp [lt2]
  obtain ⟨u, eu, ru⟩ := r.get e
  rw [hv'] at eu
  cases eu
  obtain ⟨t, rfl⟩ := ru
  have hg : ns.getD i 0 = ns[i] := by simp [List.getD_eq_getElem?_getD, lt2]
  have hq' : Q (ns.getD i 0 != 0) s := hq
  rw [hg] at hq'
  exact PySem.P.truthy_int hq'
theorem any_rangeI : ∀ ns : List Int, (List.range ns.length).any (fun i => ns.getD i 0 != 0) = ns.any (· != 0)
  | [] => rfl
  | b :: bs => by
    rw [List.length_cons, List.range_succ_eq_map, List.any_cons, List.any_map, List.any_cons, ← any_rangeI bs]
    all_goals rfl
section
variable {X : Cx} {ρ : Ev} {e : Expr} {pos p : Pos} {oa : Option R}
theorem cr_anyT (hc : X.calm = true) : CallR X (.builtin "any") (fun vs H Q => ∃ (a : Addr) (ns : List Int), vs = [V.ref a] ∧ SqT X.K H a (ns.map V.int) ∧ Q (.bl (ns.any (· != 0))) H) := by
  intro pins s σ H vs us Q I r h
  obtain ⟨a, ns, rfl, hs, q⟩ := h
  obtain ⟨its, rv, hl, _⟩ := I.tuple hs
  rw [Vals.ref1 r]
  refine call_any_walk (iter_tuple hl ?_)
  have hlt : a < s.heap.objs.size := by obtain ⟨_, e, _⟩ := hl; exact Heap.lt_size e
  refine ⟨_, _, _, _, _, _, _, rfl, Walks.tuple (A := X.A.in1) (I.ok.hd hc) _ a (Nat.ne_of_lt hlt) its.toArray, ⟨⟨_, Heap.get?_push_size _ rfl, rfl, rfl⟩, hl.push _⟩, truth_ints rv, fun h' tk hk => ?_⟩
  refine ⟨.bl _, H, I.kept fun b o eo => hk b o (fun hmem => ?_) (Heap.get?_push_of_some _ eo), ?_, q⟩
  · rcases List.mem_cons.mp hmem with e1 | hmem
    · exact absurd (e1 ▸ Heap.lt_size eo) (Nat.lt_irrefl _)
    · cases hmem
  · show Value.bool _ = Value.bool _
    have := rv.length
    rw [← any_rangeI, List.size_toArray, ← this, List.length_map]
def any2R (x : R) : Option R := match x with
  | .v (.tup ds) => (intsD ds).map fun ns => .v (.bl (ns.any (· != 0)))
  | x => anyR x
theorem oe_any2 (hc : X.calm = true) (hm : X.mg "any" = none) (ha : OE X ρ e oa) (hs : starEach (e :: []) X.env = (false, eval e X.env) :: starEach [] X.env := by rfl) (hg : Gl X "any" := by rfl) (hpl : (backTo pos (starEach ([] : List Expr) X.env)).any (·.1) = false := by rfl) : OE X ρ (.Call (.Name "any" p) [e] [] pos) (oa.bind any2R) := fun r q => by
  obtain ⟨x, rfl, k⟩ := Option.bind_eq_some_iff.mp q
  unfold any2R at k
  split at k
  · rename_i ds
    obtain ⟨ns, k1, rfl⟩ := Option.map_eq_some_iff.mp k
    obtain rfl := intsD_eq k1
    exact argsB (R := rD X.K (.bl (ns.any (· != 0)))) (cr_anyT hc) (pa1 mD (ha _ rfl) hs) hm PyProof.Rows.boot_any (fun F H vs Q s ⟨y, ys, e1, ⟨l, xs, e2, h1, r⟩, e3⟩ q => by
      subst e3 e1 e2
      rw [Rps.ints] at r
      subst r
      exact ⟨l, ns, rfl, Same.tup s h1, q _ rfl⟩) hg (by decide) (by decide) hs hpl
  · exact oe_any hc hm (oa := some x) (fun r q => by cases q; exact ha _ rfl) hs hg hpl _ k
@[simp] theorem any2R_n (ds : List D) : any2R (.n ds) = anyR (.n ds) := rfl
@[simp] theorem any2R_r (ds : List D) : any2R (.r ds) = anyR (.r ds) := rfl
@[simp] theorem any2R_lst (ds : List D) : any2R (.v (.lst ds)) = anyR (.v (.lst ds)) := rfl
theorem any2R_t (ns : List Int) : any2R (.v (.tup (ns.map D.int))) = some (.v (.bl (ns.any (· != 0)))) := by
  show (intsD (ns.map D.int)).map _ = _; rw [intsD_map]; rfl
end
end DL

set_option Elab.async false
set_option linter.all false
set_option maxRecDepth 100000
set_option autoImplicit false
/-! enumerate and zip of tuples -/
namespace PySem
open Sem (wp)
open AutoSeq1 (wpAny_loadPart')
set_option maxHeartbeats 1000000 in
theorem meets_enumerate_newT (l : Addr) (items : Array Value) (n : Nat) (dct : Option Addr) (sl : Array (Option Value)) :
    Meets (Builtin.«enumerate.__new__» ⟨[.type "enumerate", .ref l], []⟩) (fun _ R s => s.heap.get? l = some { cls := .type "tuple", dict := dct, data := .seq items n, slots := sl } ∧
      R (.ok (.ret (.ref (s.heap.push { cls := .type "tuple_iterator", data := .fields #[.ref l, .int 0 0] }).objs.size)))
        { s with heap := (s.heap.push { cls := .type "tuple_iterator", data := .fields #[.ref l, .int 0 0] }).push { cls := .type "enumerate", data := .fields #[.none, .bool false, .ref s.heap.objs.size, rawInt 0, .none, .none] } }) :=
  .of_wp fun prog w A R s h => by
    obtain ⟨hp, g, d, tk, os⟩ := s; obtain ⟨hl, h⟩ := h
    have hsub := sub_enumerate
    have hL : PyProof.Rows.IsTup (Shared.heap ⟨hp, g, d, tk, os⟩) l items := ⟨_, hl, rfl, n, rfl⟩
    wp_walk using wpAny_loadPart' hl
    refine wpAny_stack_any fun st => wpAny_pure ?_
    split
    · rename_i c _ _ _ _ _
      cases (c == Value.type "enumerate")
      · wp_walk using wpAny_loadPart' hl, PyProof.Rows.iter_tuple hL
        exact ⟨_, rfl, h⟩
      · wp_walk using wpAny_loadPart' hl, PyProof.Rows.iter_tuple hL
        exact ⟨_, rfl, h⟩
    · wp_walk using wpAny_loadPart' hl, PyProof.Rows.iter_tuple hL
      exact ⟨_, rfl, h⟩
section
variable {prog : Program} {w : World} {A : Around} {E : Value → Shared → Prop} {s : Shared}
theorem call_enumerate_tuple {l : Addr} {items : Array Value} {Q : Value → Shared → Prop} (hL : PyProof.Rows.IsTup s.heap l items)
    (h : ∀ h', IsEnum h' (s.heap.objs.size + 1) s.heap.objs.size 0 .none → h'.IsTupleIter s.heap.objs.size l 0 → h'.objs.size = s.heap.objs.size + 2 →
      (∀ b o, s.heap.get? b = some o → h'.get? b = some o) → Q (.ref (s.heap.objs.size + 1)) { s with heap := h' }) :
    wpAny (model prog w) A (call (.type "enumerate") [.ref l]) Q E s := by
  obtain ⟨⟨c, dct, dt, sl⟩, hl, hc, n, hd⟩ := hL
  replace hc : c = .type "tuple" := hc
  replace hd : dt = .seq items n := hd
  subst hc hd
  refine callType_new F.called_enumerate (by decide) (F.typeCall_enumerate_1 _) (F.newCall_enumerate_1 _) (fun obj => F.args_object_init_2 obj _) F.entry_enumerate_new
    (meets_enumerate_newT l items n dct sl) ⟨hl, ?_⟩
  have hz : (s.heap.push { cls := .type "tuple_iterator", data := .fields #[.ref l, .int 0 0] }).objs.size = s.heap.objs.size + 1 := Heap.size_push ..
  show _ ∧ _
  rw [hz]
  have he : IsEnum ((s.heap.push { cls := .type "tuple_iterator", data := .fields #[.ref l, .int 0 0] }).push
      { cls := .type "enumerate", data := .fields #[.none, .bool false, .ref s.heap.objs.size, rawInt 0, .none, .none] }) (s.heap.objs.size + 1) s.heap.objs.size 0 .none := by
    have := Heap.get?_push_size (s.heap.push { cls := .type "tuple_iterator", data := .fields #[.ref l, .int 0 0] })
      (o := { cls := .type "enumerate", data := .fields #[.none, .bool false, .ref s.heap.objs.size, rawInt 0, .none, .none] }) rfl
    rw [hz] at this; exact this
  refine ⟨⟨_, he, rfl⟩, h _ he ⟨_, Heap.get?_push_of_some _ (Heap.get?_push_size _ rfl), rfl, rfl⟩ (by rw [Heap.size_push, hz]) fun b o x => Heap.get?_push_of_some _ (Heap.get?_push_of_some _ x)⟩
theorem wpAny_pyNext_enum_endT {e it l : Addr} {i : Nat} {items : Array Value} {old : Value} {Q : Option Value → Shared → Prop} (hh : A.handled = none)
    (he : IsEnum s.heap e it i old) (hit : s.heap.IsTupleIter it l i) (hl : s.heap.IsTuple l items) (hx : items[i]? = none)
    (hQ : ∀ h', Heap.ExtBut it s.heap h' → Q none { s with heap := h' }) : wpAny (model prog w) A (pyNext (.ref e)) Q E s := by
  have hT : s.TypeIs (.ref e) "enumerate" := ⟨_, he, rfl⟩
  unfold pyNext
  refine wpAny_bind (wpAny_attempt (wpAny_callSpecial?_slot (name := Str.ofString "__next__") hT F.slot_enumerate_next
    (wpAny_call_entry F.slot_enumerate_next hT F.entry_enumerate_next ?_ (F.args_enumerate_next_1 _))))
  show wpAny _ _ (field (.ref e) 2 >>= _) _ _ _
  refine wpAny_bind (wpAny_field he rfl (x := .ref it) rfl ?_)
  refine wpAny_bind (wpAny_nextOf_tuple_end (A := A.in1) hh hit hl hx fun h' x he' hx' => ?_)
  obtain ⟨o, ho, hc⟩ := hx'
  refine wpAny_bind (wpAny_isInstance (T := "StopIteration") (b := true) ⟨o, ho, hc⟩ isSubtype_stop ?_)
  exact wpAny_pure (hQ _ he')
end
end PySem
namespace L2
open PySem PySem.Spec PyProof.Rows
/-- the tuple at a, each item in a new pair -/
def IteT (K : PySem.W.Frag) (a : Addr) : It :=
  ⟨fun i H => ∃ (xs : List V) (x : V), SqT K H a xs ∧ xs[i]? = some x, fun i H v H' => ∃ T x, v = .ref T ∧ H T = none ∧ H' = upd H T (.tup [.int (i : Nat), x]) ∧ ∀ xs, SqT K H a xs → xs[i]? = some x, fun i H => ∃ xs : List V, SqT K H a xs ∧ xs.length ≤ i⟩
theorem turn_enumT {P : Program} {w : World} {K : PySem.W.Frag} {elts : List Expr} {kk : Nat} {tpos : Pos} (a e it : Addr) (hae : a ≠ it) :
    Turn P w K (.Tuple elts kk tpos) (IteT K a) [e, it] e (fun i h => (∃ old, IsEnum h e it ((i : Nat) : Int) old) ∧ h.IsTupleIter it a i ∧ e ≠ it ∧ e ≠ a) where
  mem := by simp
  obj := fun i h st b hb => by
    obtain ⟨⟨old, he⟩, ⟨o, ho, hc, hd⟩, _⟩ := st
    have e' : b = e ∨ b = it := by simpa using hb
    rcases e' with z | z
    · rw [z]; exact ⟨_, he, fun v q => nomatch q⟩
    · rw [z]; exact ⟨o, ho, fun v q => by rw [hd] at q; cases q⟩
  keep := fun i h h' st k => let ⟨⟨old, he⟩, hi, hne⟩ := st; ⟨⟨old, k e (by simp) _ he⟩, hi.at fun o q => k it (by simp) o q, hne⟩
  item := by
    intro X hP hw hK hc i pins s σ H E I hf st hg
    subst hP hw hK
    obtain ⟨⟨old, he⟩, hit, hne, hea⟩ := st
    obtain ⟨xs, x, hq, hx⟩ := hg
    obtain ⟨its, rv, p, hz⟩ := I.tuple hq
    obtain ⟨u, hu, ru⟩ := rv.get hx
    have hel : e < s.heap.objs.size := Heap.lt_size he
    have hil : it < s.heap.objs.size := by obtain ⟨_, q, _⟩ := hit; exact Heap.lt_size q
    have hD := Draws.tuple (prog := X.prog) (w := X.w) (A := X.A.in1) (I.ok.hd hc) it a hae its.toArray
    have hui : its.toArray[i]? = some u := by simpa using hu
    refine wpAny_pyNext_enum_itemD hD he ⟨hit, p⟩ (Array.getElem?_eq_some_iff.mp hui).1 hne (by simp [hne, hea]) fun x' h' tk hx' ho hst' hT hsz hk => ?_
    obtain ⟨hit', p'⟩ := hst'
    have ex : x' = u := Option.some.inj (hx'.symm.trans hui)
    subst ex
    refine ⟨_, rfl, wpAny_letOwnedTupleGo_enum (s := { s with heap := h', toks := tk + 1 }) ho fun h'' he' sb => ?_⟩
    have hT2 : h''.get? s.heap.objs.size = some { cls := .type "tuple", data := .seq #[.int i tk, x'] } := (sb.2 _ (Nat.ne_of_gt hel)).trans hT
    have new : ObjOk X.prog X.w (upd H s.heap.objs.size (.tup [.int (i : Nat), x])) h'' s.heap.objs.size (.tup [.int (i : Nat), x]) :=
      ⟨by show 2 ≤ sizeLine; decide, [.int i tk, x'], .cons ⟨_, rfl⟩ (.cons ru .nil), ⟨_, hT2, rfl, _, rfl⟩⟩
    have I1 : Inv X pins σ (upd H s.heap.objs.size (.tup [.int (i : Nat), x])) { s with heap := h'', toks := tk + 1 } :=
      I.turnedNew (ch := [e, it]) (fun b ob hb q => (sb.2 b (fun z => hb (by simp [z]))).trans (hk b ob (fun z => hb (by simp [z])) (fun z => hb (by simp [z])) q)) hf (Nat.le_refl _) new
    refine ⟨.ref s.heap.objs.size, _, I1, rfl, ⟨_, x, rfl, I.hok.fresh (Nat.le_refl _), rfl, fun ys hy => by rw [I.tuple_inj hy hq]; exact hx⟩, ⟨⟨x', ?_⟩, hit'.at fun o q => (sb.2 it (Ne.symm hne)).trans q, hne, hea⟩, fun b hb => ?_⟩
    · have e1 : ((i + 1 : Nat) : Int) = (i : Int) + 1 := by omega
      rw [e1]; exact he'
    · have hb' : b < s.heap.objs.size := by
        have e' : b = e ∨ b = it := by simpa using hb
        rcases e' with z | z
        · rw [z]; exact hel
        · rw [z]; exact hil
      rw [upd_ne (Nat.ne_of_lt hb')]
      exact (hf b hb).1
  done := by
    intro X hP hw hK hc i pins s σ H E I hf st hg
    subst hP hw hK
    obtain ⟨⟨old, he⟩, hit, hne, hea⟩ := st
    obtain ⟨xs, hq, hx⟩ := hg
    obtain ⟨its, rv, p, hz⟩ := I.tuple hq
    obtain ⟨f0, f1, f2, f3, f4, f5⟩ := hf it (by simp)
    have hl := rv.length
    exact wpAny_pyNext_enum_endT (I.ok.hd hc) he hit p (by simp; omega) fun h' eb => ⟨rfl, I.turned (t' := s.toks) (fun b o hb q => eb b o hb q) f0 f1 f3 f4 f5⟩
  self := fun A i s Q E st h => let ⟨⟨_, he⟩, _⟩ := st; wpAny_pyIter_enum he h
def iEnumT (K : PySem.W.Frag) (ta : TA) : TI := fun σ H R => ta σ H fun vs H1 => ∃ a xs, vs = [.ref a] ∧ SqT K H1 a xs ∧ R (IteT K a) H1
theorem pi_enumT {X : Cx} {e : Expr} {ta : TA} {p pos tpos : Pos} {elts : List Expr} {kk : Nat} (hg : Gl X "enumerate") (hm : X.mg "enumerate" = none) (ha : PA X [e] ta) (hs : starEach [e] X.env = [(false, eval e X.env)] := by rfl) :
    PI X (.Tuple elts kk tpos) (.Call (.Name "enumerate" p) [e] [] pos) (iEnumT X.K ta) := by
  refine ⟨fun pins s σ H R I h => ?_⟩
  refine Call_ (ld_blt I hg hm boot_enumerate (PyProof.Rows.callWith_type1 (thn (ha.run pos pins s σ H _ I h) fun us s1 ⟨vs, H1, I1, r1, q1⟩ => ?_) hs rfl))
  obtain ⟨a, xs, ex, hq, q⟩ := q1
  subst ex
  cases r1 with
  | cons r rr =>
    cases rr
    cases r
    obtain ⟨its, rv, p', hz⟩ := I1.tuple hq
    have hlt : a < s1.heap.objs.size := by obtain ⟨_, e, _⟩ := p'; exact Heap.lt_size e
    refine call_enumerate_tuple p' fun h' he hit hsz hk => wpAny_pyIter_enum he ?_
    have I2 : Inv X pins σ H1 { s1 with heap := h' } := I1.kept (t' := s1.toks) hk
    refine ⟨s1.heap.objs.size + 1, [s1.heap.objs.size + 1, s1.heap.objs.size], _, _, H1, rfl, I2, turn_enumT a (s1.heap.objs.size + 1) s1.heap.objs.size (Nat.ne_of_lt hlt), ⟨⟨.none, he⟩, hit, Nat.succ_ne_self _, Nat.ne_of_gt (Nat.lt_succ_of_lt hlt)⟩, fun b hb => ?_, q⟩
    have e' : b = s1.heap.objs.size + 1 ∨ b = s1.heap.objs.size := by simpa using hb
    have hle : s1.heap.objs.size ≤ b := by
      rcases e' with z | z
      · rw [z]; exact Nat.le_add_right _ _
      · rw [z]; exact Nat.le_refl _
    exact I1.fpOk hle (I1.hok.fresh hle)
theorem walk_enumT {K : PySem.W.Frag} {a : Addr} {xs : List V} : Walk (IteT K a) xs.length (fun H => SqT K H a xs) (YPair (fun i => some (.int (i : Nat))) (fun i => xs[i]?)) := by
  refine ⟨fun i _ hi q => ⟨xs, xs[i], q, by simp [hi]⟩, fun _ q => ⟨xs, q, Nat.le_refl _⟩, fun i H v H' _ q y => ?_⟩
  obtain ⟨T, x, h1, h2, h3, h4⟩ := y
  exact ⟨T, .int (i : Nat), x, h1, h2, h3, rfl, h4 xs q⟩
theorem walk_zipT {K : PySem.W.Frag} {a b : Addr} {xs ys : List V} {n : Nat} (hn : n = min xs.length ys.length) : Walk (RZ.ItzT K a b) n (fun H => SqT K H a xs ∧ SqT K H b ys) (YPair (fun i => xs[i]?) (fun i => ys[i]?)) := by
  subst hn
  refine ⟨fun i _ hi q => ?_, fun _ q => ⟨xs, ys, q.1, q.2, by omega⟩, fun i H v H' _ q y => ?_⟩
  · have h1 : i < xs.length := by omega
    have h2 : i < ys.length := by omega
    exact ⟨xs, ys, xs[i], ys[i], q.1, q.2, by simp [h1], by simp [h2]⟩
  · obtain ⟨T, x, z, h1, h2, h3, h4, h5⟩ := y
    exact ⟨T, x, z, h1, h2, h3, h4 xs q.1, h5 ys q.2⟩
end L2
namespace DL
open PySem PySem.Spec PyProof.Rows L2
section
variable {X : Cx} {ρ : Ev} {e a b : Expr} {ds ds1 ds2 : List D} {pos p tpos : Pos} {oa ob : Option R} {elts : List Expr} {kk : Nat}
theorem di_enumT (hm : X.mg "enumerate" = none) (h : DE X ρ e (.tup ds)) (hg : Gl X "enumerate" := by rfl) (hs1 : starEach [e] X.env = (false, eval e X.env) :: starEach [] X.env := by rfl) (hs : starEach [e] X.env = [(false, eval e X.env)] := by rfl) : DI X ρ (.Tuple elts kk tpos) (.Call (.Name "enumerate" p) [e] [] pos) (enums ds) :=
  PI.weak (pi_enumT hg hm (pa_cons h pa_nil hs1) hs) fun σ H Q ⟨F0, H0, F, o, q⟩ => ⟨F0, H0, F, o, fun v F' H' f ⟨a, xs, ea, ha, r⟩ => ⟨a, xs, by rw [ea], Same.tup f.fh ha,
    q _ F' H' (fun H => SqT X.K H a xs) _ f (by rw [enums_len, ← r.length]; exact walk_enumT) (fun F2 H2 s1 s2 => Same.tup s2 (Same.tup s1 ha)) (gives_enum r)⟩⟩
theorem di_zipU (hm : X.mg "zip" = none) (ha : DE X ρ a (.tup ds1)) (hb : DE X ρ b (.tup ds2)) (hg : Gl X "zip" := by rfl) (hs1 : starEach [a, b] X.env = (false, eval a X.env) :: starEach [b] X.env := by rfl) (hs2 : starEach [b] X.env = (false, eval b X.env) :: starEach [] X.env := by rfl) (hpl : (backTo pos (starEach [b] X.env)).any (·.1) = false := by rfl) :
    DI X ρ (.Tuple elts kk tpos) (.Call (.Name "zip" p) [a, b] [] pos) (zips ds1 ds2) :=
  PI.weak (RZ.pi_zipA hg hm (pa_cons ha (pa_cons hb pa_nil hs2) hs1) hs1 hpl) fun σ H Q ⟨F0, H0, F, o, q⟩ => ⟨F0, H0, F, o, fun v F1 H1 f1 ⟨l, xs, el, hl, r⟩ => ⟨F0, H0, F1, o.call f1, fun w F' H' f ⟨m, ys, em, hm', r'⟩ =>
    ⟨l, m, xs, ys, by rw [el, em], .inr ⟨Same.tup f.fh (Same.tup f.f0 hl), Same.tup f.fh hm', q _ F' H' (fun H => SqT X.K H l xs ∧ SqT X.K H m ys) _ (f1.trans f) (walk_zipT (by rw [zips_len, r.length, r'.length])) (fun F2 H2 s1 s2 => ⟨Same.tup s2 (Same.tup s1 (Same.tup f.f0 hl)), Same.tup s2 (Same.tup s1 hm')⟩) (gives_zip (r.mono f.f0) r')⟩⟩⟩⟩
def enum2R (x : R) : Option (List D) := match x with
  | .v (.tup ds) => some (enums ds)
  | x => enumR x
def zip2R (x y : R) : Option (List D) := match x, y with
  | .v (.tup i), .v (.tup j) => some (zips i j)
  | x, y => zipR x y
theorem oi_enum2 (hm : X.mg "enumerate" = none) (ha : OE X ρ e oa) (hg : Gl X "enumerate" := by rfl) (hs1 : starEach [e] X.env = (false, eval e X.env) :: starEach [] X.env := by rfl) (hs : starEach [e] X.env = [(false, eval e X.env)] := by rfl) : OI X ρ (.Tuple elts kk tpos) (.Call (.Name "enumerate" p) [e] [] pos) (oa.bind enum2R) := fun ds q => by
  obtain ⟨x, rfl, k⟩ := Option.bind_eq_some_iff.mp q
  unfold enum2R at k
  split at k
  · cases k; exact di_enumT hm (ha _ rfl) hg hs1 hs
  · exact oi_enum hm (oa := some x) (fun r q => by cases q; exact ha _ rfl) hg hs1 hs _ k
theorem oi_zip2 (hm : X.mg "zip" = none) (ha : OE X ρ a oa) (hb : OE X ρ b ob) (hg : Gl X "zip" := by rfl) (hs1 : starEach [a, b] X.env = (false, eval a X.env) :: starEach [b] X.env := by rfl) (hs2 : starEach [b] X.env = (false, eval b X.env) :: starEach [] X.env := by rfl) (hpl : (backTo pos (starEach [b] X.env)).any (·.1) = false := by rfl) :
    OI X ρ (.Tuple elts kk tpos) (.Call (.Name "zip" p) [a, b] [] pos) (o2 zip2R oa ob) := fun ds q => by
  obtain ⟨x, y, rfl, rfl, k⟩ := o2_eq q
  unfold zip2R at k
  split at k
  · cases k; exact di_zipU hm (ha _ rfl) (hb _ rfl) hg hs1 hs2 hpl
  · exact oi_zip hm (oa := some x) (ob := some y) (fun r q => by cases q; exact ha _ rfl) (fun r q => by cases q; exact hb _ rfl) hg hs1 hs2 hpl _ k
end
end DL

set_option Elab.async false
set_option linter.all false
set_option maxRecDepth 100000
set_option autoImplicit false
/-! Owned trees, as functions of the slots. -/
namespace DL
open PySem PySem.Spec PyProof.Rows L2
def OF (X : Cx) (ρ : Ev) (e : Expr) (o : Option T) : Prop := ∀ t, o = some t → DF X ρ e t
def r2T : R → Option T
  | .v d => some (.fz d)
  | .n ds => some (.ls (ds.map .fz))
  | .r _ => none
def resT : Res → Option T
  | .sh d => some (.fz d)
  | .ow ds => some (.ls (ds.map .fz))
  | .er _ => none
  | .ot t => some t
def callT (F : List D → Option Res) (os : Option (List D)) : Option T := os.bind fun ds => (F ds).bind resT
/-- the arguments are new trees -/
def tAF (K : PySem.W.Frag) (ρ : Ev) (ts : List T) : TA := fun σ H Q => ∃ F0 H0 F, Ok K F0 H0 F H σ ρ ∧
  ∀ xs fp F' H', Fin F H F' H' → RpTs K F' H' ts xs fp → fp.Nodup → (∀ a ∈ fp, H a = none ∧ F' a = none) → Q xs H'
def OAF (X : Cx) (ρ : Ev) (es : List Expr) (o : Option (List T)) : Prop := ∀ ts, o = some ts → PA X es (tAF X.K ρ ts)
def consT (o : Option T) (os : Option (List T)) : Option (List T) := o2 (fun t ts => some (t :: ts)) o os
def lstT (os : Option (List T)) : Option T := os.bind fun ts => if ts.length ≤ sizeLine then some (.ls ts) else none
def tupT (os : Option (List T)) : Option T := os.bind fun ts => if ts.length ≤ sizeLine then some (.tp ts) else none
section
variable {X : Cx} {W : WX} {ρ ρ' : Ev} {tg it e a b c o elt : Expr} {es ifs : List Expr} {d d1 d2 : D} {ds : List D} {pos p p2 p3 : Pos} {A B rest : List Stmt} {oa ob oc : Option R} {ot ot2 : Option T} {ots : Option (List T)} {n : Nat} {os : Option (List D)} {k : Kt} {x y : Str} {ex : Exc}
theorem of_e (h : OE X ρ e oa) : OF X ρ e (oa.bind r2T) := fun t q => by
  obtain ⟨r, rfl, q⟩ := Option.bind_eq_some_iff.mp q
  have hr := h _ rfl
  cases r with
  | v d => cases q; exact DE.df hr
  | n ds => cases q; exact DN.df hr
  | r ds => cases q
theorem of_call {m j : Nat} {F : List D → Option Res} (g : Ge n X) (G : Fo X.prog X.w X.K X.mg X.base j x m F) (hk : j ≤ n) (ha : OA X ρ (e :: es) os) (hm : ∀ ds, os = some ds → ds.length = m) (hg : Gl X x := by rfl) (hdb : (x == ("__debug__" : Str)) = false := by decide)
    (he : starEach (e :: es) X.env = (false, eval e X.env) :: starEach es X.env := by rfl) (hpl : (backTo pos (starEach es X.env)).any (·.1) = false := by rfl) : OF X ρ (.Call (.Name x p) (e :: es) [] pos) (callT F os) := fun t q => by
  obtain ⟨ds, rfl, q0⟩ := Option.bind_eq_some_iff.mp q
  obtain ⟨r, h, q1⟩ := Option.bind_eq_some_iff.mp q0
  have hl := hm _ rfl
  cases r with
  | sh d => cases q1; exact (de_call G (g.room.less hk) (ha _ rfl) ⟨hl, h⟩ hg hdb he hpl).df
  | ow ds1 => cases q1; exact (dn_call G (g.room.less hk) (ha _ rfl) ⟨hl, h⟩ hg hdb he hpl).df
  | er x => cases q1
  | ot t => cases q1; exact df_call G (g.room.less hk) (ha _ rfl) ⟨hl, h⟩ hg hdb he hpl
theorem oaf_nil : OAF X ρ [] (some []) := fun ts q => by
  cases q
  exact PA.weak pa_nil fun σ H Q ⟨F0, H0, F, o, q⟩ => q [] [] F H (.refl o.fin.fh) ⟨rfl, rfl⟩ .nil fun a ha => by cases ha
theorem oaf_cons (ha : OF X ρ e ot) (hr : OAF X ρ es ots) (hs : starEach (e :: es) X.env = (false, eval e X.env) :: starEach es X.env := by rfl) : OAF X ρ (e :: es) (consT ot ots) := fun ts q => by
  obtain ⟨t, ts', rfl, rfl, q⟩ := o2_eq q
  cases q
  refine PA.weak (pa_cons (ha _ rfl) (hr _ rfl) hs) fun σ H Q ⟨F0, H0, F, o, q⟩ => ⟨F0, H0, F, o, fun x f F1 H1 f1 r1 nd1 n1 => ⟨F0, H0, F1, o.call f1, fun xs g F2 H2 f2 r2 nd2 n2 => ?_⟩⟩
  refine q _ (f ++ g) F2 H2 (f1.trans f2) ⟨x, xs, f, g, rfl, rfl, r1.same f2.f0 f2.h0, r2⟩ ?_ ?_
  · rw [List.nodup_append]
    exact ⟨nd1, nd2, fun a ha b hb z => by subst z; exact r1.mem a ha (n2 a hb).1⟩
  · intro a ha
    rcases List.mem_append.mp ha with ha | ha
    · exact ⟨(n1 a ha).1, f2.fr a (n1 a ha).2 (r1.mem a ha)⟩
    · exact ⟨f1.h0.free (n2 a ha).1, (n2 a ha).2⟩
theorem new_node {K : PySem.W.Frag} {F H F1 H1 : Hp} {z : Addr} {u : HO} {vs : List V} {fp : List Addr} {ts : List T} (f1 : Fin F H F1 H1) (r : RpTs K F1 H1 ts vs fp) (nd : fp.Nodup) (n : ∀ a ∈ fp, H a = none ∧ F1 a = none) (hz : H1 z = none) :
    Fin F H F1 (upd H1 z u) ∧ RpTs K F1 (upd H1 z u) ts vs fp ∧ (z :: fp).Nodup ∧ ∀ a ∈ z :: fp, H a = none ∧ F1 a = none := by
  have zf : z ∉ fp := fun h => r.mem z h hz
  refine ⟨f1.trans (.newO f1.fh hz), r.mono (L2.Same.refl _) (fun a ha => upd_ne fun q => by subst q; exact zf ha), List.nodup_cons.mpr ⟨zf, nd⟩, fun a ha => ?_⟩
  rcases List.mem_cons.mp ha with rfl | ha
  · exact ⟨f1.h0.free hz, f1.fh.free hz⟩
  · exact n a ha
theorem of_lst (h : OAF X ρ es ots) : OF X ρ (.List es pos) (lstT ots) := fun t q => by
  obtain ⟨ts, rfl, q1⟩ := Option.bind_eq_some_iff.mp q
  clear q
  split at q1
  · rename_i hz
    cases q1
    refine PE.weak (pe_lst (h _ rfl)) fun σ H Q ⟨F0, H0, F, o, q⟩ => ⟨F0, H0, F, o, fun vs fp F1 H1 f1 r1 nd n => ⟨by rw [r1.length]; exact hz, fun z hz => ?_⟩⟩
    obtain ⟨g1, g2, g3, g4⟩ := new_node (u := .lst vs) f1 r1 nd n hz
    exact q _ (z :: fp) F1 _ g1 ⟨z, vs, fp, rfl, upd_same, rfl, g2⟩ g3 g4
  · cases q1
theorem of_tup {x1} (h : OAF X ρ es ots) : OF X ρ (.Tuple es x1 pos) (tupT ots) := fun t q => by
  obtain ⟨ts, rfl, q1⟩ := Option.bind_eq_some_iff.mp q
  clear q
  split at q1
  · rename_i hz
    cases q1
    refine PE.weak (pe_tup (h _ rfl)) fun σ H Q ⟨F0, H0, F, o, q⟩ => ⟨F0, H0, F, o, fun vs fp F1 H1 f1 r1 nd n => ⟨by rw [r1.length]; exact hz, fun z hz => ?_⟩⟩
    obtain ⟨g1, g2, g3, g4⟩ := new_node (u := .tup vs) f1 r1 nd n hz
    exact q _ (z :: fp) F1 _ g1 ⟨z, vs, fp, rfl, upd_same, rfl, g2⟩ g3 g4
  · cases q1
/-! borrowing -/
def scR : R → Option R
  | .v d => if fl d then some (.v d) else none
  | _ => none
def lendTR (i : Nat) (f : Ev → Option R) (ρ : Ev) : Option R := match ρ[i]? with
  | some (.ot t) => (f (ρ.set i (.sh t.toD))).bind scR
  | _ => f ρ
theorem oe_lendT (i : Nat) {f : Ev → Option R} (h : ∀ ρ, OE X ρ e (f ρ)) : OE X ρ e (lendTR i f ρ) := fun r q => by
  unfold lendTR at q
  split at q
  · rename_i t hi
    obtain ⟨z, e1, q⟩ := Option.bind_eq_some_iff.mp q
    have hz := h _ _ e1
    cases z with
    | v d =>
      have q : (if fl d then some (R.v d) else none) = some r := q
      split at q
      · cases q; exact de_lendT i hi hz (by assumption)
      · cases q
    | n ds => cases q
    | r ds => cases q
  · exact h _ _ q
def lendTB (i : Nat) (f : Ev → Option Bool) (ρ : Ev) : Option Bool := match ρ[i]? with
  | some (.ot t) => f (ρ.set i (.sh t.toD))
  | _ => f ρ
theorem ot_lendT (i : Nat) {f : Ev → Option Bool} (h : ∀ ρ, OT X ρ e (f ρ)) : OT X ρ e (lendTB i f ρ) := fun r q => by
  unfold lendTB at q
  split at q
  · rename_i t hi; exact dt_lendT i hi (h _ _ q)
  · exact h _ _ q
/-! statements -/
def setT (i : Nat) (o : Option T) (k : Kt) (ρ : Ev) : Option Out := o.bind fun t => k (ρ.set i (.ot t))
theorem oss_setT (i : Nat) {pos' : Pos} (g : Gs n X W) (he : OF X ρ e ot) (hk : ∀ ρ', OS X W ρ' rest (k ρ')) (hi : X.N[i]? = some x := by rfl) (hx : Loc X.env.scope x := by first | exact .inl rfl | exact .inr rfl) (hs : swapsWith e (some (.Name x pos')) pos.line X.env = pure false := by rfl) (hf : X.fn x = true ∨ X.env.scope.names.lookup x = some .local := by first | exact .inl rfl | exact .inr rfl) :
    OS X W ρ (.Assign [.Name x pos'] e pos :: rest) (setT i ot k ρ) := fun out h => by
  obtain ⟨t, rfl, h⟩ := Option.bind_eq_some_iff.mp h
  exact dss_setT i g.ge.nd (he _ rfl) (hk _ _ h) hi hx hs hf
def retT (o : Option T) : Option Out := o.map .rtt
theorem oss_retT (he : OF X ρ e ot) : OS X W ρ (.Return (some e) pos :: rest) (retT ot) := fun out h => by
  obtain ⟨t, rfl, rfl⟩ := Option.map_eq_some_iff.mp h
  exact dss_retT (he _ rfl) rfl
def OAd (X : Cx) (ρ : Ev) (e : Expr) (i : Nat) (o : Option (List Nat)) : Prop := ∀ js, o = some js → (∃ t, ρ[i]? = some (.ot t)) → DAd X ρ e i js
def T.size : T → Option Nat
  | .ls ts => some ts.length
  | .tp ts => some ts.length
  | .fz _ => none
def adI (i : Nat) (o : Option (List Nat)) (ob : Option R) (ρ : Ev) : Option (List Nat) := match ρ[i]?, o, ob with
  | some (.ot t), some js, some (.v (.int n)) => ((t.at js).bind T.size).bind fun m => (ixN m n).map fun j => js ++ [j]
  | _, _, _ => none
theorem oad_var (i : Nat) (hN : X.N[i]? = some x := by rfl) (hv : Vis X.env.scope x := by first | exact Or.inl rfl | exact Or.inr (Or.inl rfl) | exact Or.inr (Or.inr rfl)) (hd : (x == ("__debug__" : Str)) = false := by decide)
    (hcd : (x == ("__classdict__" : Str)) = false := by decide) : OAd X ρ (.Name x pos) i (some []) := fun js q ⟨t, ht⟩ => by
  cases q; exact dad_var i ht hN hv hd hcd
theorem oad_ix {i : Nat} {ojs : Option (List Nat)} (ho : OAd X ρ o i ojs) (hb : OE X ρ b ob) (hs : PlainIx b := by intro _ _; rfl) : OAd X ρ (.Subscript o b pos) i (adI i ojs ob ρ) := fun js q ⟨t, ht⟩ => by
  unfold adI at q
  split at q
  · rename_i t' js' n e1
    rw [ht] at e1; cases e1
    obtain ⟨m, h1, h2⟩ := Option.bind_eq_some_iff.mp q
    obtain ⟨u, h3, h4⟩ := Option.bind_eq_some_iff.mp h1
    obtain ⟨j, h5, rfl⟩ := Option.map_eq_some_iff.mp h2
    cases u with
    | fz d => cases h4
    | ls us => cases h4; exact dad_ix ht (ho _ rfl ⟨t, ht⟩) (hb _ rfl) (.inl h3) h5 hs
    | tp us => cases h4; exact dad_ix ht (ho _ rfl ⟨t, ht⟩) (hb _ rfl) (.inr h3) h5 hs
  · cases q
def appPO (i : Nat) (oj : Option (List Nat)) (o : Option T) (k : Kt) (ρ : Ev) : Option Out := match ρ[i]?, oj, o with
  | some (.ot t), some js, some t1 => match t.at js with
    | some (.ls us) => if us.length < sizeLine then k (ρ.set i (.ot (t.put js (.ls (us ++ [t1]))))) else none
    | _ => none
  | _, _, _ => none
theorem oss_appP {i : Nat} {ojs : Option (List Nat)} {apos : Pos} (ho : OAd X ρ o i ojs) (he : OF X ρ e ot) (hk : ∀ ρ', OS X W ρ' rest (k ρ'))
    (hs : swapsWith (.Call (.Attribute o "append" apos) [e] [] p2) none pos.line X.env = pure false := by rfl) (h1 : attributeBase o "append" X.env (eval o X.env) = eval o X.env := by rfl)
    (hfew : ((backTo p2 (starEach [e] X.env)).all (fun x => !x.1) && (backToKw p2 (keywordEach [] X.env)).all (fun x => x.1.isSome) && decide ([e].length + ([] : List Keyword).length + (if ([] : List Keyword).isEmpty then 0 else 1) < 30)) = true := by rfl)
    (h3 : (apos.endLine == p2.line) = true := by rfl) (h2 : starEach [e] X.env = (false, eval e X.env) :: starEach [] X.env := by rfl) (h4 : (backTo p2 (starEach ([] : List Expr) X.env)).any (·.1) = false := by rfl) :
    OS X W ρ (.Expr (.Call (.Attribute o "append" apos) [e] [] p2) pos :: rest) (appPO i ojs ot k ρ) := fun out h => by
  unfold appPO at h
  split at h
  · rename_i t js t1 e1
    split at h
    · rename_i us e2
      split at h
      · rename_i hz; exact dss_appP e1 (ho _ rfl ⟨t, e1⟩) (he _ rfl) e2 hz (hk _ _ h) hs h1 hfew h3 h2 h4
      · cases h
    · cases h
  · cases h
def putPO (i : Nat) (oj : Option (List Nat)) (ob : Option R) (o : Option T) (k : Kt) (ρ : Ev) : Option Out := match ρ[i]?, oj, ob, o with
  | some (.ot t), some js, some (.v (.int n)), some t1 => match t.at js with
    | some (.ls us) => (ixN us.length n).bind fun j => k (ρ.set i (.ot (t.put js (.ls (us.set j t1)))))
    | _ => none
  | _, _, _, _ => none
theorem oss_putP {i : Nat} {ojs : Option (List Nat)} {q2 : Pos} (ho : OAd X ρ o i ojs) (he : OF X ρ e ot) (hb : OE X ρ b ob) (hk : ∀ ρ', OS X W ρ' rest (k ρ'))
    (hs : swapsWithSole [.Subscript o b q2] e pos.line X.env = pure false := by rfl) (hw : swappedStores [.Subscript o b q2] e X.env = pure none := by rfl)
    (h1 : (assignEach [.Subscript o b q2] X.env).map (·.2) = [assign (.Subscript o b q2) X.env] := by rfl)
    (ha : ∀ v, assign (.Subscript o b q2) X.env v = (do
      let ov ← holding [v] (eval o X.env)
      let iv ← holding [v, ov] (eval b X.env)
      standAt q2
      holding [v, ov, iv] (setItem ov iv v)
      release [v, ov, iv] []) := by intro _; rfl) :
    OS X W ρ (.Assign [.Subscript o b q2] e pos :: rest) (putPO i ojs ob ot k ρ) := fun out h => by
  unfold putPO at h
  split at h
  · rename_i t js m t1 e1
    split at h
    · rename_i us e2
      obtain ⟨j, h5, h6⟩ := Option.bind_eq_some_iff.mp h
      exact dss_putP e1 (ho _ rfl ⟨t, e1⟩) (he _ rfl) (hb _ rfl) e2 h5 (hk _ _ h6) hs hw h1 ha
    · cases h
  · cases h
end
end DL

set_option Elab.async false
set_option linter.all false
set_option maxRecDepth 100000
set_option autoImplicit false
/-! len({.. for ..}), ints -/
namespace DL
open PySem PySem.Spec PyProof.Rows L2
def intsL (f : D → Option Int) : List D → Option (List Int)
  | [] => some []
  | d :: ds => o2 (fun i is => some (i :: is)) (f d) (intsL f ds)
theorem intsL_eq {f : D → Option Int} : ∀ {ds : List D} {is : List Int}, intsL f ds = some is → (∀ d ∈ ds, f d = some ((f d).getD 0)) ∧ is = ds.map fun d => (f d).getD 0
  | [], is, h => by cases h; exact ⟨(fun d hd => by cases hd), rfl⟩
  | d :: ds, is, h => by
    obtain ⟨i, is', h1, h2, h3⟩ := o2_eq (show o2 _ (f d) (intsL f ds) = some is from h)
    cases h3
    obtain ⟨q1, q2⟩ := intsL_eq h2
    refine ⟨fun z hz => ?_, by rw [List.map_cons, h1, q2]; rfl⟩
    rcases List.mem_cons.mp hz with rfl | hz
    · rw [h1]; rfl
    · exact q1 z hz
theorem intsL_map {f : D → Option Int} (v : D → Int) : ∀ {ds : List D}, (∀ d ∈ ds, f d = some (v d)) → intsL f ds = some (ds.map v)
  | [], _ => rfl
  | d :: ds, h => by
    show o2 _ (f d) (intsL f ds) = _
    rw [h d (by simp), intsL_map v fun e he => h e (by simp [he])]; rfl
def lenSetR (src : Option (List D)) (ow : List Nat) (g : D → Ev → Option Ev) (val : Ev → Option R) (ρ : Ev) : Option R :=
  src.bind fun ds => if ds.length ≤ 1000 then (intsL (fun d => (g d (wipeE ρ ow)).bind fun ρ2 => (val ρ2).bind R.i) ds).map fun is => .v (.int (card is.reverse : Int)) else none
section
variable {X : Cx} {ρ : Ev} {tg it elt : Expr} {pos pos' p : Pos} {scope : Scope} {n : Nat} {o : Option (List D)} {ts : List Nat} {g : D → Ev → Option Ev} {val : Ev → Option R}
theorem oe_lenSet (own : List (Str × Nat)) (gg : Ge n X) (hm : X.mg "len" = none) (hit : OJ X ρ tg it o) (ok : BlkOk X.N X.env.scope scope own) (hts : ∀ t ∈ ts, t ∈ own.map (·.2))
    (ht : InBlk X scope fun Y => OG Y tg g ts) (hv : InBlk X scope fun Y => ∀ ρ, OE Y ρ elt (val ρ)) (hsf : ∀ x, foldedSetIterable it X.env x = pure x := by intro _; rfl)
    (hs : starEach ((Expr.SetComp elt [⟨tg, it, [], 0⟩] scope pos) :: []) X.env = (false, eval (.SetComp elt [⟨tg, it, [], 0⟩] scope pos) X.env) :: starEach [] X.env := by rfl) (hg : Gl X "len" := by rfl) (hpl : (backTo pos' (starEach ([] : List Expr) X.env)).any (·.1) = false := by rfl) :
    OE X ρ (.Call (.Name "len" p) [.SetComp elt [⟨tg, it, [], 0⟩] scope pos] [] pos') (lenSetR o (own.map (·.2)) g val ρ) := fun r q => by
  obtain ⟨ds, rfl, k⟩ := Option.bind_eq_some_iff.mp q
  split at k
  · rename_i hz
    obtain ⟨is, m, rfl⟩ := Option.map_eq_some_iff.mp k
    obtain ⟨m1, rfl⟩ := intsL_eq m
    refine de_lenSet hm (dsk_comp own _ gg.calm gg.nd (hit _ rfl) ok hz (fun d hd => ?_) hsf) (by simp; omega) hs hg hpl
    obtain ⟨ρ2, g1, g2⟩ := Option.bind_eq_some_iff.mp (m1 d hd)
    obtain ⟨w, g3, g4⟩ := Option.bind_eq_some_iff.mp g2
    refine ⟨ρ2, ts, hts, fun s H C cl fp => ht s H C cl fp _ _ _ g1, fun s H C cl fp => ?_⟩
    have hw := hv s H C cl fp ρ2 _ g3
    rw [R.i_eq g4] at hw
    exact hw
  · cases k
end
end DL

set_option Elab.async false
set_option linter.all false
set_option maxRecDepth 100000
set_option autoImplicit false
/-! the head: own error classes that store an argument, their facts by one run -/
namespace DL
open PySem PySem.Spec PyProof.Rows L2

def oexB (K : PySem.W.Frag) (C : Addr) : Bool := (match K.lookup C with
  | some ⟨.type "type", _, .cls cd, sl⟩ => (match cd.mro, sl.toList with
    | .ref C' :: bm, [_, _, _, _, some (.builtin n), _] => C' == C && (n == "ValueError.__new__" && (!cd.hasDel && (cd.hasDict && PySem.HandSPX.refsVE bm)))
    | _, _ => false)
  | _ => false) && (decide (PySem.W.findIn K (.ref C) "__setattr__" = some (some (.builtin "object.__setattr__"))) && (decide (PySem.W.subIn K (.ref C) (.type "BaseException") = some true) && (decide (PySem.W.typeIn K (.ref C) = some (.type "type")) && PySem.W.keepIn K (.ref C))))
theorem oexB_ok {K : PySem.W.Frag} {C : Addr} (q : oexB K C = true) : OexC K C := by
  obtain ⟨q, h⟩ := Bool.and_eq_true_iff.mp q
  obtain ⟨h1, h⟩ := Bool.and_eq_true_iff.mp h
  obtain ⟨h2, h⟩ := Bool.and_eq_true_iff.mp h
  obtain ⟨h3, h4⟩ := Bool.and_eq_true_iff.mp h
  refine ⟨?_, of_decide_eq_true h1, of_decide_eq_true h2, of_decide_eq_true h3, h4⟩
  split at q
  · rename_i dd cd sl ho
    split at q
    · rename_i C' bm k0 k1 k2 k3 n k5 hm hs
      simp only [Bool.and_eq_true, beq_iff_eq, Bool.not_eq_true'] at q
      obtain ⟨rfl, rfl, hdel, hdd, ht⟩ := q
      obtain ⟨nm, bs, mro, ns, qn, hd, sn, sub, ab, col, del⟩ := cd
      dsimp only at hm hdel hdd
      subst hm hdel hdd
      have hsl : sl = #[k0, k1, k2, k3, some (.builtin "ValueError.__new__"), k5] := by
        obtain ⟨l⟩ := sl
        simp only at hs
        rw [hs]
      subst hsl
      exact ⟨nm, qn, ns, bs, bm, sn, sub, ab, col, dd, k0, k1, k2, k3, k5, ho, ht⟩
    · cases q
  · cases q
def excB (K : PySem.W.Frag) (D : Addr) : Bool := decide (PySem.W.findIn K (.ref D) "__getattribute__" = some (some (.builtin "BaseException.__getattribute__"))) && (decide (PySem.W.findIn K (.ref D) "__getattr__" = some none) && (decide (PySem.W.subIn K (.ref D) (.type "BaseException") = some true) && (PySem.W.hasDictIn K D && (decide (PySem.W.findIn K (.ref D) "__class__" = some (some (.builtin "object.__class__"))) &&
  (decide (PySem.W.specialIn K (.builtin "object.__class__") "__get__" = some (some (.builtin "getset_descriptor.__get__"))) && (decide (PySem.W.takesIn K (.builtin "object.__class__") = some true) && decide (PySem.W.mroIn K D (.type "object") = some true)))))))
theorem excB_ok {K : PySem.W.Frag} {D : Addr} (h : excB K D = true) : ExcC K D := by
  unfold excB at h
  simp only [Bool.and_eq_true, decide_eq_true_eq] at h
  obtain ⟨h1, h2, h3, h4, h5, h6, h7, h8⟩ := h
  exact ⟨h1, h2, h3, h4, h5, h6, h7, h8⟩
/-- a class with its own __init__: its name, the field -/
structure InD where
  cls : Str
  fld : Str
  qual : Str
  params : Arguments
  body : List Stmt
  scope : Scope
def inAt (K : PySem.W.Frag) (x : Str) : Addr := He.ma K (He.ga K x) "__init__"
abbrev InW : Type := Option (Str × Str × Arguments × FuncBody × Scope × Addr × List Str × Addr)
def inW (K : PySem.W.Frag) (x : Str) : InW := match K.lookup (inAt K x) with
  | some ⟨_, _, .func fd, _⟩ => some (fd.name, fd.qualname, fd.params, fd.body, fd.scope, fd.globals, fd.closure.map (·.1), fd.builtins)
  | _ => none
def InD.val (d : InD) : InW := some ("__init__", d.qual, d.params, .stmts d.body, d.scope, mainGlobals, ["__class__"], builtinsNs)
def InD.ok (file : Str) (K : PySem.W.Frag) (d : InD) : Bool := oexB K (He.ga K d.cls) && (He.eqO (PySem.W.findIn K (.ref (He.ga K d.cls)) d.fld) (some none) && ((match K.lookup (inAt K d.cls) with
    | some ⟨_, _, .func fd, _⟩ => (match fd.closure, fd.code, fd.defaults with
      | [(_, cc)], .ref cda, .none => PySem.W.codeIn K (.ref cda) d.qual && ((match K.lookup cc with
          | some ⟨_, _, .cell (some (.ref C')), _⟩ => C' == He.ga K d.cls
          | _ => false) && (match K.lookup cda with
          | some ⟨_, _, .fields vs, _⟩ => (match (vs[2]? : Option Value) with
            | some (.str fl _) => fl == file
            | _ => false)
          | _ => false))
      | _, _, _ => false)
    | _ => false) && ((PySem.W.clsIn K (He.ga K d.cls)).isSome && (decide (PySem.W.mroIn K (He.ga K d.cls) (.ref (He.ga K d.cls)) = some true) && (decide (PySem.W.subIn K (.ref (He.ga K d.cls)) (.type "ValueError") = some true) &&
      (He.eqO (PySem.W.ks_superIn K (He.ga K d.cls) (He.ga K d.cls) "__init__") (some (some (.builtin "ValueError.__init__"))) && (He.eqO (PySem.W.nsIn K cStatics "thirdparty.any") (some none) && (He.eqO (PySem.W.findIn K (.ref (He.ga K d.cls)) "__init__") (some (some (.ref (inAt K d.cls)))) &&
        (decide (PySem.W.typeIn K (.ref (inAt K d.cls)) = some (.type "function")) && He.eqO (PySem.W.nsIn K mainGlobals d.cls) (some (some (.ref (He.ga K d.cls)))))))))))))
theorem InD.erF {P : Program} {w : World} {K : PySem.W.Frag} {mg : Str → Option Value} {base h : Heap} {d : InD} {sn xn : Str} {p0 p1 p2 p3 p4 p5 p6 p7 p8 p9 : Pos} (X : K.In h) (G : h.Ns mainGlobals mg) (e : inW K d.cls = d.val) (c : d.ok P.main.file K = true) (free : mg "super" = none)
    (hb : d.body = [.Expr (.Call (.Attribute (.Call (.Name "super" p0) [] [] p1) "__init__" p2) [.Name xn p3] [] p4) p5, .Assign [.Attribute (.Name sn p6) d.fld p7] (.Name xn p8) p9])
    (bnd : ∀ (kV doc pm : Value) (an : Option Addr) (cdv ct : Value) (cc : Addr) (us : List Value), us.length = 2 → bindArgs (PySem.W.ksFn "__init__" d.qual d.params d.body d.scope .none kV doc pm an cdv ct cc) ⟨us, []⟩ = pure ([sn, xn].zip us))
    (top : (P.main.scope.names.lookup ("super" : Str)).isSome = false) (first : ∃ ar, (d.params.posonlyargs ++ d.params.args).head? = some ar ∧ ar.arg = sn) (kind : d.scope.kind = .function) (co : d.scope.isCoroutine = false) (gen : d.scope.isGenerator = false)
    (nocell : ∀ y ∈ d.scope.names, y.2 ≠ .cell) (frees : ∀ y ∈ d.scope.names, y.2 = .free → y.1 = ("__class__" : Str)) (ks : d.scope.names.lookup ("super" : Str) = some .globalImplicit) (kc : d.scope.names.lookup ("__class__" : Str) = some .free) (kS : d.scope.names.lookup sn = some .local) (kX : d.scope.names.lookup xn = some .local) (ne : sn ≠ xn)
    (hev : ∀ env : Env, ∃ pl : Sem Bool, eval (.Call (.Attribute (.Call (.Name "super" p0) [] [] p1) "__init__" p2) [.Name xn p3] [] p4) env = (do
      let ov ← attributeBase (.Call (.Name "super" p0) [] [] p1) "__init__" env (eval (.Call (.Name "super" p0) [] [] p1) env)
      standAt p2.atName
      let (f, first) ← holding [ov] (getMethod ov "__init__" pl)
      callWith p4 f first (backTo p4 (starEach [.Name xn p3] env)) []))
    (d1 : (xn == ("__debug__" : Str)) = false) (d2 : (xn == ("__classdict__" : Str)) = false) (d3 : (sn == ("__debug__" : Str)) = false) (d4 : (sn == ("__classdict__" : Str)) = false) : ErF P w K mg base d.cls (He.ga K d.cls) d.fld := by
  unfold InD.ok at c
  simp only [Bool.and_eq_true, decide_eq_true_eq] at c
  obtain ⟨c1, c2, c3, c4, c5, c6, c7, c8, c9, c10, c11⟩ := c
  cases q : K.lookup (inAt K d.cls) with
  | none => rw [q] at c3; cases c3
  | some ob =>
    rw [q] at c3
    unfold inW at e
    rw [q] at e
    obtain ⟨oc, od, dt, osl⟩ := ob
    cases dt with
    | func fd =>
      obtain ⟨fnm, fq, fpar, fbody, fscope, fglob, fclo, fdef, fkw, fdoc, fpm, fan, fcode, fct, fblt⟩ := fd
      simp only [InD.val, Option.some.injEq, Prod.mk.injEq] at e
      obtain ⟨rfl, rfl, rfl, rfl, rfl, rfl, e7, rfl⟩ := e
      dsimp only at c3
      split at c3
      · rename_i y cc cda
        simp only [Bool.and_eq_true] at c3
        obtain ⟨u1, u2, u3⟩ := c3
        obtain rfl : y = ("__class__" : Str) := by simpa using e7
        split at u2
        · rename_i cl cld C' csl hcc
          split at u3
          · rename_i ccl cdd vs ccs hcda
            split at u3
            · rename_i fl tf hvs
              have eC := eq_of_beq u2
              subst eC
              have oex := oexB_ok c1
              have hcls : ∃ cd, PySem.W.clsIn K (He.ga K d.cls) = some cd := Option.isSome_iff_exists.mp c4
              have hfile : ((P.main.file : Str) == fl) = true := by rw [eq_of_beq u3]; exact beq_self_eq_true _
              have T : Sup P K mg (He.ga K d.cls) (inAt K d.cls) "__init__" d.qual d.params d.body d.scope sn xn d.fld :=
                ⟨oex, He.eqO_ok c2, ⟨oc, .none, fkw, fdoc, fpm, fct, od, fan, osl, cda, cc, cl, cld, csl, ccl, cdd, ccs, vs, fl, tf, q, u1, hcc, hcda, hvs, hfile⟩, hcls, c5, c6, He.eqO_ok c7, He.eqO_ok c8, free, top, first, kind, co, gen, nocell, frees, ks, kc, kS, kX, ne⟩
              refine ⟨PySem.W.mg_of X G (He.eqO_ok c11), oex, inAt K d.cls, _, [sn, xn], He.eqO_ok c9, c10, sup_ok hb T ⟨_, q, rfl⟩ hev d1 d2 d3 d4, ?_⟩
              exact .all (bnd fkw fdoc fpm fan (.ref cda) fct cc)
            · cases u3
          · cases u3
        · cases u2
      · cases c3
    | _ => cases e
end DL

set_option Elab.async false
set_option linter.all false
set_option maxRecDepth 100000
set_option autoImplicit false
namespace DL
open PySem PySem.Spec PyProof.Rows L2
/-! ### the Hook: defs, own error classes, more facts -/
abbrev AlY : Type := (He.AlD × List InW) × Bool
def frY (n : Nat) (g : Addr → Option Obj) : PySem.W.Frag := He.frG g (He.asD g n ++ [cStatics])
def obsY (n : Nat) (fa : List He.Fa) (fn : List He.DefD) (ins : List InD) (file : Str) (ex : PySem.W.Frag → Bool) (g : Addr → Option Obj) : AlY :=
  ((He.obsD fa fn (frY n g), ins.map fun d => inW (frY n g) d.cls), ex (frY n g) && ins.all fun d => d.ok file (frY n g))
def valY (fn : List He.DefD) (ins : List InD) : AlY := ((He.valD fn, ins.map InD.val), true)
structure SaysY (fa : List He.Fa) (fn : List He.DefD) (ins : List InD) (file : Str) (ex : PySem.W.Frag → Bool) (K : PySem.W.Frag) : Prop where
  d : He.SaysD fa fn K
  i : ins.map (fun d => inW K d.cls) = ins.map InD.val
  more : ex K = true
  ok : ins.all (fun d => d.ok file K) = true
theorem saysY_of {n : Nat} {fa : List He.Fa} {fn : List He.DefD} {ins : List InD} {file : Str} {ex : PySem.W.Frag → Bool} {g : Addr → Option Obj} (e : obsY n fa fn ins file ex g = valY fn ins) : SaysY fa fn ins file ex (frY n g) := by
  have e1 : He.obsD fa fn (frY n g) = He.valD fn := congrArg (fun z : AlY => z.1.1) e
  have e2 : ins.map (fun d => inW (frY n g) d.cls) = ins.map InD.val := congrArg (fun z : AlY => z.1.2) e
  have e3 : (ex (frY n g) && ins.all fun d => d.ok file (frY n g)) = true := congrArg (fun z : AlY => z.2) e
  obtain ⟨h1, h2⟩ := Bool.and_eq_true_iff.mp e3
  exact ⟨e1, e2, h1, h2⟩
def hookY (n : Nat) (fa : List He.Fa) (fn : List He.DefD) (ins : List InD) (file : Str) (ex : PySem.W.Frag → Bool) : PySem.W.Hook where
  α := AlY
  obs := fun s => obsY n fa fn ins file ex s.heap.get?
  val := fun _ => valY fn ins
  says := fun _ h => ∃ K : PySem.W.Frag, K.In h ∧ SaysY fa fn ins file ex K
  of := fun _ _ e => ⟨_, He.frG_in, saysY_of e⟩
  keeps := fun _ _ _ ⟨K, hK, c⟩ k => ⟨K, PySem.W.Frag.In.keeps hK k, c⟩
theorem obsY_eq {n : Nat} {fa : List He.Fa} {fn : List He.DefD} {ins : List InD} {file : Str} {ex : PySem.W.Frag → Bool} {g : Addr → Option Obj} {s : Shared} (h : ∀ a, g a = s.heap.get? a) : obsY n fa fn ins file ex g = (hookY n fa fn ins file ex).obs s := by
  have e : g = s.heap.get? := funext h
  rw [e] <;> rfl
theorem SaysY.def_ {fa : List He.Fa} {fn : List He.DefD} {ins : List InD} {file : Str} {ex : PySem.W.Frag → Bool} {K : PySem.W.Frag} (c : SaysY fa fn ins file ex K) (i : Nat) {d : He.DefD} (h : fn[i]? = some d := by rfl) : ∃ fd, FunD K d.name d.qual d.params d.body d.scope (d.dvs K) (d.kws K) (He.fAd K d.at_) fd := c.d.def_ i h
theorem SaysY.fact {fa : List He.Fa} {fn : List He.DefD} {ins : List InD} {file : Str} {ex : PySem.W.Frag → Bool} {K : PySem.W.Frag} (c : SaysY fa fn ins file ex K) (i : Nat) {f : He.Fa} (h : fa[i]? = some f := by rfl) : f.ok K = true := c.d.fact i h
theorem SaysY.ini {fa : List He.Fa} {fn : List He.DefD} {ins : List InD} {file : Str} {ex : PySem.W.Frag → Bool} {K : PySem.W.Frag} (c : SaysY fa fn ins file ex K) (i : Nat) {d : InD} (h : ins[i]? = some d := by rfl) : inW K d.cls = d.val ∧ d.ok file K = true := by
  refine ⟨?_, List.all_eq_true.mp c.ok d (List.mem_of_getElem? h)⟩
  have e := congrArg (fun l : List InW => l[i]?) c.i
  simpa [h] using e
/-- a def by its name -/
theorem SaysY.fnE {fa : List He.Fa} {fn : List He.DefD} {ins : List InD} {file : Str} {ex : PySem.W.Frag → Bool} {K : PySem.W.Frag} {h : Heap} {mg : Str → Option Value} (c : SaysY fa fn ins file ex K) (X : K.In h) (G : h.Ns mainGlobals mg) (i j : Nat) {x : Str} {params : Arguments} {body : List Stmt} {scope : Scope}
    (hd : fn[i]? = some ⟨(x, none), x, x, params, body, scope, [], []⟩ := by rfl) (hf : fa[j]? = some (.glo x) := by rfl) : ∃ (f : Addr) (fd : FuncData), FunD K x x params body scope [] [] f fd ∧ mg x = some (.ref f) := by
  obtain ⟨fd, F⟩ := c.def_ i hd
  exact ⟨_, fd, F, He.glo_ok X G (c.fact j hf)⟩
theorem errP_of {K : PySem.W.Frag} {h : Heap} {mg : Str → Option Value} (X : K.In h) (G : h.Ns mainGlobals mg) {x : Str} (c : (He.Fa.exc x).ok K = true) (g : (He.Fa.glo x).ok K = true) : ErP K mg x (He.ga K x) := by
  obtain ⟨h1, h2, h3, h4⟩ := He.exc_ok c
  exact ⟨He.glo_ok X G g, h1, h2, h3, h4⟩
theorem gdK_tup {K : PySem.W.Frag} {mg : Str → Option Value} {x : Str} {a : Addr} {xs : List V} {ds : List D} (h : mg x = some (.ref a)) (q : ∀ H : Hp, SqT K H a xs) (r : ∀ F : Hp, Rps K F ds xs) : GdK K mg x (.tup ds) := ⟨.ref a, _, h, rfl, fun F => ⟨a, xs, rfl, q F, r F⟩⟩
/-- nsIn mainGlobals x is the built-in function id -/
def bltB (K : PySem.W.Frag) (x : Str) (id : String) : Bool := He.eqO (PySem.W.nsIn K mainGlobals x) (some (some (.builtin id)))
theorem bltB_ok {K : PySem.W.Frag} {h : Heap} {mg : Str → Option Value} (X : K.In h) (G : h.Ns mainGlobals mg) {x : Str} {id : String} (c : bltB K x id = true) : mg x = some (.builtin id) := PySem.W.mg_of X G (He.eqO_ok c)
end DL

set_option linter.all false
set_option autoImplicit false
set_option maxRecDepth 100000
/-! what the functions of the slots come to: rewriting -/
namespace DL
open PySem PySem.Spec PyProof.Rows L2
section
variable {α : Type}
@[simp] theorem varR_nil (i : Nat) : varR [] i = none := by simp [varR]
@[simp] theorem varR_sh (d : D) (ρ : Ev) : varR (.sh d :: ρ) 0 = some (.v d) := rfl
@[simp] theorem varR_ow (d : List D) (ρ : Ev) : varR (.ow d :: ρ) 0 = some (.r d) := rfl
@[simp] theorem varR_un (ρ : Ev) : varR (.un :: ρ) 0 = none := rfl
@[simp] theorem varR_succ (s : Sl) (ρ : Ev) (i : Nat) : varR (s :: ρ) (i + 1) = varR ρ i := by simp [varR]
@[simp] theorem R.d_v (d : D) : R.d (.v d) = some d := rfl
@[simp] theorem R.d_n (d : List D) : R.d (.n d) = some (.lst d) := rfl
@[simp] theorem R.t_b (b : Bool) : R.t (.v (.bl b)) = some b := rfl
@[simp] theorem R.u_b (b : Bool) : R.u (.v (.bl b)) = some b := rfl
@[simp] theorem R.i_i (i : Int) : R.i (.v (.int i)) = some i := rfl
@[simp] theorem R.q_l (d : List D) : R.q (.v (.lst d)) = some d := rfl
@[simp] theorem R.q_o (d : List D) : R.q (.v (.ro d)) = some d := rfl
@[simp] theorem R.q_n (d : List D) : R.q (.n d) = some d := rfl
@[simp] theorem R.q_r (d : List D) : R.q (.r d) = some d := rfl
@[simp] theorem R.l_l (d : List D) : R.l (.v (.lst d)) = some d := rfl
@[simp] theorem R.l_n (d : List D) : R.l (.n d) = some d := rfl
@[simp] theorem R.l_r (d : List D) : R.l (.r d) = some d := rfl
@[simp] theorem R.b_l (d : List D) : R.b (.v (.lst d)) = some d := rfl
@[simp] theorem R.b_o (d : List D) : R.b (.v (.ro d)) = some d := rfl
@[simp] theorem R.b_t (d : List D) : R.b (.v (.tup d)) = some d := rfl
@[simp] theorem R.b_n (d : List D) : R.b (.n d) = some d := rfl
@[simp] theorem R.b_r (d : List D) : R.b (.r d) = some d := rfl
@[simp] theorem bind_some' {α β : Type} (a : α) (f : α → Option β) : (some a).bind f = f a := rfl
section
variable (i j : Int)
@[simp] theorem subR_i : subR (.v (.int i)) (.v (.int j)) = vI (i - j) := rfl
@[simp] theorem andR_i : andR (.v (.int i)) (.v (.int j)) = vI (Builtin.bitAnd i j) := rfl
@[simp] theorem orR_i : orR (.v (.int i)) (.v (.int j)) = vI (Builtin.bitOr i j) := rfl
@[simp] theorem xorR_i : xorR (.v (.int i)) (.v (.int j)) = vI (Builtin.bitXor i j) := rfl
@[simp] theorem negR_i : negR (.v (.int i)) = vI (-i) := rfl
@[simp] theorem absR_i : absR (.v (.int i)) = vI (if i < 0 then -i else i) := rfl
theorem mulR_i : mulR (.v (.int i)) (.v (.int j)) = if (i.natAbs < 18446744073709551616 ∨ j.natAbs < 18446744073709551616) ∨ i.natAbs.log2 + j.natAbs.log2 < 1000000 then vI (i * j) else none := rfl
theorem divR_i : divR (.v (.int i)) (.v (.int j)) = if j ≠ 0 ∧ (j.natAbs < 1073741824 ∨ j.natAbs.log2 < 9000) then vI (if 0 < j then i / j else i.fdiv j) else none := rfl
@[simp] theorem modR_i : modR (.v (.int i)) (.v (.int j)) = if j ≠ 0 then vI (if 0 < j then i % j else i.fmod j) else none := rfl
@[simp] theorem powR_i : powR (.v (.int i)) (.v (.int j)) = if 0 ≤ j ∧ j ≤ 1000000 ∧ i.natAbs < 2 ^ 64 then vI (i ^ j.toNat) else none := rfl
theorem shlR_i : shlR (.v (.int i)) (.v (.int j)) = if 0 ≤ j ∧ Builtin.Int.intBits i + j.natAbs ≤ 134217728 then vI (i * 2 ^ j.toNat) else none := rfl
@[simp] theorem shrR_i : shrR (.v (.int i)) (.v (.int j)) = if 0 ≤ j then vI (i / 2 ^ j.toNat) else none := rfl
@[simp] theorem ltR_i : ltR (.v (.int i)) (.v (.int j)) = some (decide (i < j)) := rfl
@[simp] theorem leR_i : leR (.v (.int i)) (.v (.int j)) = some (decide (i ≤ j)) := rfl
@[simp] theorem gtR_i : gtR (.v (.int i)) (.v (.int j)) = some (decide (j < i)) := rfl
@[simp] theorem geR_i : geR (.v (.int i)) (.v (.int j)) = some (decide (j ≤ i)) := rfl
@[simp] theorem eqR_i : eqR (.v (.int i)) (.v (.int j)) = some (decide (i = j)) := rfl
@[simp] theorem eqR_s (s t : Str) : eqR (.v (.str s)) (.v (.str t)) = some (decide (s = t)) := rfl
@[simp] theorem eqR_b (s t : Bool) : eqR (.v (.bl s)) (.v (.bl t)) = some (decide (s = t)) := rfl
@[simp] theorem neR_i : neR (.v (.int i)) (.v (.int j)) = some (!decide (i = j)) := rfl
@[simp] theorem neR_s (s t : Str) : neR (.v (.str s)) (.v (.str t)) = some (!decide (s = t)) := rfl
@[simp] theorem neR_b (s t : Bool) : neR (.v (.bl s)) (.v (.bl t)) = some (!decide (s = t)) := rfl
@[simp] theorem isR_b (s t : Bool) : isR (.v (.bl s)) (.v (.bl t)) = some (decide (s = t)) := rfl
@[simp] theorem isnR_b (s t : Bool) : isnR (.v (.bl s)) (.v (.bl t)) = some (!decide (s = t)) := rfl
@[simp] theorem isR_non (d : D) : isR (.v d) (.v .non) = some (isN d) := by cases d <;> rfl
@[simp] theorem isnR_non (d : D) : isnR (.v d) (.v .non) = some (!isN d) := by cases d <;> rfl
@[simp] theorem gcdR_i : gcdR (.v (.int i)) (.v (.int j)) = vI ((Int.gcd i j : Nat) : Int) := rfl
@[simp] theorem intR_i : intR (.v (.int i)) = vI i := rfl
@[simp] theorem intR_b (b : Bool) : intR (.v (.bl b)) = vI (if b = true then 1 else 0) := rfl
@[simp] theorem bitsR_i : bitsR (.v (.int i)) = vI (Builtin.Int.intBits i : Nat) := rfl
@[simp] theorem chR_i (f g : Int → Int → Bool) (k : Int) : chR f g (vI i) (vI j) (vI k) = some (f i j && g j k) := rfl
end
@[simp] theorem ixR_t (ds : List D) (i : Int) : ixR (.v (.tup ds)) (.v (.int i)) = (L2.atI ds i).map .v := rfl
@[simp] theorem ixR_l (ds : List D) (i : Int) : ixR (.v (.lst ds)) (.v (.int i)) = (L2.atI ds i).map .v := rfl
@[simp] theorem ixR_o (ds : List D) (i : Int) : ixR (.v (.ro ds)) (.v (.int i)) = (L2.atI ds i).map .v := rfl
@[simp] theorem ixR_n (ds : List D) (i : Int) : ixR (.n ds) (.v (.int i)) = (L2.atI ds i).map .v := rfl
@[simp] theorem ixR_r (ds : List D) (i : Int) : ixR (.r ds) (.v (.int i)) = (L2.atI ds i).map .v := rfl
@[simp] theorem lenR_t (ds : List D) : lenR (.v (.tup ds)) = vI (ds.length : Int) := rfl
@[simp] theorem lenR_l (ds : List D) : lenR (.v (.lst ds)) = vI (ds.length : Int) := rfl
@[simp] theorem lenR_o (ds : List D) : lenR (.v (.ro ds)) = vI (ds.length : Int) := rfl
@[simp] theorem lenR_n (ds : List D) : lenR (.n ds) = vI (ds.length : Int) := rfl
@[simp] theorem lenR_r (ds : List D) : lenR (.r ds) = vI (ds.length : Int) := rfl
@[simp] theorem consO_some (d : D) (ds : List D) : consO (some (.v d)) (some ds) = some (d :: ds) := rfl
@[simp] theorem consO_n (d ds : List D) : consO (some (.n d)) (some ds) = some (.lst d :: ds) := rfl
@[simp] theorem lstO_some (ds : List D) : lstO (some ds) = if ds.length ≤ sizeLine then vN ds else none := rfl
@[simp] theorem tupO_some (ds : List D) : tupO (some ds) = if ds.length ≤ sizeLine then vD (.tup ds) else none := rfl
@[simp] theorem addR_s (i j : Str) : addR (.v (.str i)) (.v (.str j)) = if i.length + j.length ≤ sizeLine then vS (i ++ j) else none := rfl
@[simp] theorem addR_t (i j : List D) : addR (.v (.tup i)) (.v (.tup j)) = if i.length + j.length ≤ sizeLine then vD (.tup (i ++ j)) else none := rfl
@[simp] theorem tupleR_n (ds : List D) : tupleR (.n ds) = vD (.tup ds) := rfl
@[simp] theorem tupleR_r (ds : List D) : tupleR (.r ds) = vD (.tup ds) := rfl
@[simp] theorem tupleR_l (ds : List D) : tupleR (.v (.lst ds)) = vD (.tup ds) := rfl
@[simp] theorem tupleR_t (ds : List D) : tupleR (.v (.tup ds)) = vD (.tup ds) := rfl
@[simp] theorem listR_n (ds : List D) : listR (.n ds) = vN ds := rfl
@[simp] theorem listR_r (ds : List D) : listR (.r ds) = vN ds := rfl
@[simp] theorem listR_l (ds : List D) : listR (.v (.lst ds)) = vN ds := rfl
@[simp] theorem listR_t (ds : List D) : listR (.v (.tup ds)) = vN ds := rfl
/-! statements -/
@[simp] theorem setS_v (i : Nat) (d : D) (k : Kt) (ρ : Ev) : setS i (some (.v d)) k ρ = k (ρ.set i (.sh d)) := rfl
@[simp] theorem setS_n (i : Nat) (d : List D) (k : Kt) (ρ : Ev) : setS i (some (.n d)) k ρ = k (ρ.set i (.sh (.lst d))) := rfl
@[simp] theorem setO_v (i : Nat) (d : D) (k : Kt) (ρ : Ev) : setO i (some (.v d)) k ρ = k (ρ.set i (.sh d)) := rfl
@[simp] theorem setO_n (i : Nat) (d : List D) (k : Kt) (ρ : Ev) : setO i (some (.n d)) k ρ = k (ρ.set i (.ow d)) := rfl
@[simp] theorem setLO_n (i : Nat) (d : List D) (k : Kt) (ρ : Ev) : setLO i (some (.n d)) k ρ = if i < ρ.length then k (ρ.set i (.sh (.lst d))) else none := rfl
@[simp] theorem retO_v (d : D) : retO (some (.v d)) = some (.rt d) := rfl
@[simp] theorem retO_n (d : List D) : retO (some (.n d)) = some (.ro d) := rfl
theorem ifO_t (A B : Option Out) (k : Kt) : ifO (some true) A B k = A.bind (joinK k) := rfl
theorem ifO_f (A B : Option Out) (k : Kt) : ifO (some false) A B k = B.bind (joinK k) := rfl
@[simp] theorem joinK_nx' (k : Kt) (ρ : Ev) : joinK k (.nx ρ) = k ρ := rfl
@[simp] theorem joinK_rt (k : Kt) (d : D) : joinK k (.rt d) = some (.rt d) := rfl
@[simp] theorem joinK_ro (k : Kt) (d : List D) : joinK k (.ro d) = some (.ro d) := rfl
@[simp] theorem joinK_rs (k : Kt) (x : Exc) (ρ : Ev) : joinK k (.rs x ρ) = some (.rs x ρ) := rfl
@[simp] theorem joinK_rtt (k : Kt) (t : T) : joinK k (.rtt t) = some (.rtt t) := rfl
@[simp] theorem joinK_bk (k : Kt) (ρ : Ev) : joinK k (.bk ρ) = some (.bk ρ) := rfl
@[simp] theorem joinK_ct (k : Kt) (ρ : Ev) : joinK k (.ct ρ) = some (.ct ρ) := rfl
@[simp] theorem outR_rt (d : D) : outR (.rt d) = some (.sh d) := rfl
@[simp] theorem outR_ro (d : List D) : outR (.ro d) = some (.ow d) := rfl
@[simp] theorem outR_rtt (t : T) : outR (.rtt t) = some (.ot t) := rfl
@[simp] theorem outR_nx (ρ : Ev) : outR (.nx ρ) = some (.sh .non) := rfl
@[simp] theorem outR_rs (x : Exc) (ρ : Ev) : outR (.rs x ρ) = some (.er x) := rfl
theorem ifO_b (b : Bool) (A B : Option Out) (k : Kt) : ifO (some b) A B k = if b = true then A.bind (joinK k) else B.bind (joinK k) := by cases b <;> rfl
/-- a loop that keeps I -/
theorem forL_inv {g : D → Ev → Option Ev} {B : Kt} {ds : List D} (I : Nat → Ev → Prop) {ρ : Ev} (h0 : I 0 ρ) (step : ∀ i d ρ, ds[i]? = some d → I i ρ → ∃ ρ1 ρ2, g d ρ = some ρ1 ∧ (B ρ1 = some (.nx ρ2) ∨ B ρ1 = some (.ct ρ2)) ∧ I (i + 1) ρ2) : ∃ ρ', forL g B ds ρ = some (.nx ρ') ∧ I ds.length ρ' := by
  induction ds generalizing I ρ with
  | nil => exact ⟨ρ, rfl, h0⟩
  | cons d ds ih =>
    obtain ⟨ρ1, ρ2, h1, h2, h3⟩ := step 0 d ρ rfl h0
    obtain ⟨ρ', h4, h5⟩ := ih (I := fun i => I (i + 1)) h3 (fun i d' ρ' hd => step (i + 1) d' ρ' (by simpa using hd))
    refine ⟨ρ', ?_, h5⟩
    show (g d ρ).bind _ = _
    rw [h1]
    rcases h2 with h2 | h2
    · show (B ρ1).bind _ = _
      rw [h2]; exact h4
    · show (B ρ1).bind _ = _
      rw [h2]; exact h4
end
@[simp] theorem sizeLine_eq : sizeLine = 16777216 := rfl
/-! what a text does, as a promise -/
def Gv (o : Option Out) (P : Out → Prop) : Prop := ∃ out, o = some out ∧ P out
section
variable {o : Option Out} {P M : Out → Prop} {k : Kt} {ρ : Ev} {A B : Option Out} {x : Option Bool} {b : Bool}
theorem gv_some (out : Out) : Gv (some out) P ↔ P out := ⟨fun ⟨_, h, p⟩ => by cases h; exact p, fun p => ⟨_, rfl, p⟩⟩
theorem gv_step {o' : Option Out} (h : o = o') (g : Gv o' P) : Gv o P := h ▸ g
theorem gv_out {out : Out} (h : o = some out) (p : P out) : Gv o P := ⟨out, h, p⟩
theorem gv_imp (h : Gv o M) (q : ∀ out, M out → P out) : Gv o P := by obtain ⟨out, e, m⟩ := h; exact ⟨out, e, q _ m⟩
theorem gv_join (h : Gv o M) (q : ∀ out, M out → Gv (joinK k out) P) : Gv (o.bind (joinK k)) P := by
  obtain ⟨out, rfl, m⟩ := h; exact q _ m
theorem gv_if (M : Out → Prop) (h1 : b = true → Gv A M) (h2 : b = false → Gv B M) (q : ∀ out, M out → Gv (joinK k out) P) : Gv (ifO (some b) A B k) P := by
  cases b with
  | true => exact gv_join (h1 rfl) q
  | false => exact gv_join (h2 rfl) q
/-- an if whose body leaves -/
theorem gv_ifR (h1 : b = true → Gv A (fun o => o.nxt = false ∧ P o)) (h2 : b = false → Gv (k ρ) P) : Gv (ifO (some b) A (some (.nx ρ)) k) P := by
  cases b with
  | true =>
    obtain ⟨out, rfl, n, p⟩ := h1 rfl
    exact ⟨out, joinK_nx n, p⟩
  | false => exact h2 rfl
theorem gv_ifT (h : Gv (A.bind (joinK k)) P) : Gv (ifO (some true) A B k) P := h
theorem gv_ifF (h : Gv (B.bind (joinK k)) P) : Gv (ifO (some false) A B k) P := h
theorem gv_for {g : D → Ev → Option Ev} {Bd : Kt} {ds : List D} (I : Nat → Ev → Prop) (h0 : I 0 ρ) (step : ∀ i d ρ, ds[i]? = some d → I i ρ → ∃ ρ1, g d ρ = some ρ1 ∧ Gv (Bd ρ1) (fun o => ∃ ρ2, (o = .nx ρ2 ∨ o = .ct ρ2) ∧ I (i + 1) ρ2)) (q : ∀ ρ', I ds.length ρ' → Gv (k ρ') P) : Gv (forO (some ds) g Bd k ρ) P := by
  obtain ⟨ρ', h1, h2⟩ := forL_inv (g := g) (B := Bd) (ds := ds) I h0 (fun i d ρ hd hi => by
    obtain ⟨ρ1, e1, out, e2, ρ2, e3, e4⟩ := step i d ρ hd hi
    rcases e3 with rfl | rfl
    · exact ⟨ρ1, ρ2, e1, .inl e2, e4⟩
    · exact ⟨ρ1, ρ2, e1, .inr e2, e4⟩)
  show Gv ((forL g Bd ds ρ).bind (joinK k)) P
  rw [h1]
  exact q _ h2
end
@[simp] theorem owR_ow (d : List D) (ρ : Ev) : owR (.ow d :: ρ) 0 = some d := rfl
@[simp] theorem owR_succ (s : Sl) (ρ : Ev) (i : Nat) : owR (s :: ρ) (i + 1) = owR ρ i := by simp [owR]
@[simp] theorem appO_eq (i : Nat) (o : Option R) (k : Kt) (ρ : Ev) : appO i o k ρ = o2 (fun d ds => if ds.length < sizeLine then k (ρ.set i (.ow (ds ++ [d]))) else none) (o.bind R.d) (owR ρ i) := rfl
@[simp] theorem extO_eq (i : Nat) (o : Option R) (k : Kt) (ρ : Ev) : extO i o k ρ = o2 (fun es ds => if ds.length + es.length ≤ sizeLine then k (ρ.set i (.ow (ds ++ es))) else none) (o.bind R.l) (owR ρ i) := rfl
@[simp] theorem putO_eq (i : Nat) (oi o : Option R) (k : Kt) (ρ : Ev) : putO i oi o k ρ = o2 (fun d ds => (oi.bind R.i).bind fun j => (ixN ds.length j).bind fun n => k (ρ.set i (.ow (ds.set n d)))) (o.bind R.d) (owR ρ i) := rfl
@[simp] theorem nameG_eq (i : Nat) (d : D) (ρ : Ev) : nameG i d ρ = some (ρ.set i (.sh d)) := rfl
@[simp] theorem rng1R_i (j : Int) : rng1R (.v (.int j)) = if in62 j then some (iD (rng 0 j)) else none := rfl
@[simp] theorem rng2R_i (i j : Int) : rng2R (.v (.int i)) (.v (.int j)) = if in62 i ∧ in62 j then some (iD (rng i j)) else none := rfl
@[simp] theorem isiR_int_non : isiR "int" (.v .non) = vB false := by
  show (if (tyn .non == "?") = false then (kitB (tyn .non) "int").map (fun b => R.v (.bl b)) else none) = _
  rw [if_pos (by rfl), show kitB (tyn .non) "int" = some false from (show kitB "NoneType" "int" = some false by decide +kernel)]
  rfl
@[simp] theorem isiR_int_bl (b : Bool) : isiR "int" (.v (.bl b)) = vB true := by
  show (if (tyn (.bl b) == "?") = false then (kitB (tyn (.bl b)) "int").map (fun b => R.v (.bl b)) else none) = _
  rw [if_pos (by rfl), show kitB (tyn (.bl b)) "int" = some true from (show kitB "bool" "int" = some true by decide +kernel)]
  rfl
@[simp] theorem isiR_int_int (i : Int) : isiR "int" (.v (.int i)) = vB true := by
  show (if (tyn (.int i) == "?") = false then (kitB (tyn (.int i)) "int").map (fun b => R.v (.bl b)) else none) = _
  rw [if_pos (by rfl), show kitB (tyn (.int i)) "int" = some true from (show kitB "int" "int" = some true by decide +kernel)]
  rfl
@[simp] theorem isiR_int_str (s : Str) : isiR "int" (.v (.str s)) = vB false := by
  show (if (tyn (.str s) == "?") = false then (kitB (tyn (.str s)) "int").map (fun b => R.v (.bl b)) else none) = _
  rw [if_pos (by rfl), show kitB (tyn (.str s)) "int" = some false from (show kitB "str" "int" = some false by decide +kernel)]
  rfl
@[simp] theorem isiR_int_tup (ds : List D) : isiR "int" (.v (.tup ds)) = vB false := by
  show (if (tyn (.tup ds) == "?") = false then (kitB (tyn (.tup ds)) "int").map (fun b => R.v (.bl b)) else none) = _
  rw [if_pos (by rfl), show kitB (tyn (.tup ds)) "int" = some false from (show kitB "tuple" "int" = some false by decide +kernel)]
  rfl
@[simp] theorem isiR_int_lst (ds : List D) : isiR "int" (.v (.lst ds)) = vB false := by
  show (if (tyn (.lst ds) == "?") = false then (kitB (tyn (.lst ds)) "int").map (fun b => R.v (.bl b)) else none) = _
  rw [if_pos (by rfl), show kitB (tyn (.lst ds)) "int" = some false from (show kitB "list" "int" = some false by decide +kernel)]
  rfl
@[simp] theorem isiR_int_ro (ds : List D) : isiR "int" (.v (.ro ds)) = vB false := by
  show (if (tyn (.ro ds) == "?") = false then (kitB (tyn (.ro ds)) "int").map (fun b => R.v (.bl b)) else none) = _
  rw [if_pos (by rfl), show kitB (tyn (.ro ds)) "int" = some false from (show kitB "list" "int" = some false by decide +kernel)]
  rfl
@[simp] theorem isiR_int_dic (ds : List (Key × D)) : isiR "int" (.v (.dic ds)) = vB false := by
  show (if (tyn (.dic ds) == "?") = false then (kitB (tyn (.dic ds)) "int").map (fun b => R.v (.bl b)) else none) = _
  rw [if_pos (by rfl), show kitB (tyn (.dic ds)) "int" = some false from (show kitB "dict" "int" = some false by decide +kernel)]
  rfl
@[simp] theorem isiR_int_n (ds : List D) : isiR "int" (.n ds) = vB false := isiR_int_lst ds
@[simp] theorem isiR_bool_non : isiR "bool" (.v .non) = vB false := by
  show (if (tyn .non == "?") = false then (kitB (tyn .non) "bool").map (fun b => R.v (.bl b)) else none) = _
  rw [if_pos (by rfl), show kitB (tyn .non) "bool" = some false from (show kitB "NoneType" "bool" = some false by decide +kernel)]
  rfl
@[simp] theorem isiR_bool_bl (b : Bool) : isiR "bool" (.v (.bl b)) = vB true := by
  show (if (tyn (.bl b) == "?") = false then (kitB (tyn (.bl b)) "bool").map (fun b => R.v (.bl b)) else none) = _
  rw [if_pos (by rfl), show kitB (tyn (.bl b)) "bool" = some true from (show kitB "bool" "bool" = some true by decide +kernel)]
  rfl
@[simp] theorem isiR_bool_int (i : Int) : isiR "bool" (.v (.int i)) = vB false := by
  show (if (tyn (.int i) == "?") = false then (kitB (tyn (.int i)) "bool").map (fun b => R.v (.bl b)) else none) = _
  rw [if_pos (by rfl), show kitB (tyn (.int i)) "bool" = some false from (show kitB "int" "bool" = some false by decide +kernel)]
  rfl
@[simp] theorem isiR_bool_str (s : Str) : isiR "bool" (.v (.str s)) = vB false := by
  show (if (tyn (.str s) == "?") = false then (kitB (tyn (.str s)) "bool").map (fun b => R.v (.bl b)) else none) = _
  rw [if_pos (by rfl), show kitB (tyn (.str s)) "bool" = some false from (show kitB "str" "bool" = some false by decide +kernel)]
  rfl
@[simp] theorem isiR_bool_tup (ds : List D) : isiR "bool" (.v (.tup ds)) = vB false := by
  show (if (tyn (.tup ds) == "?") = false then (kitB (tyn (.tup ds)) "bool").map (fun b => R.v (.bl b)) else none) = _
  rw [if_pos (by rfl), show kitB (tyn (.tup ds)) "bool" = some false from (show kitB "tuple" "bool" = some false by decide +kernel)]
  rfl
@[simp] theorem isiR_bool_lst (ds : List D) : isiR "bool" (.v (.lst ds)) = vB false := by
  show (if (tyn (.lst ds) == "?") = false then (kitB (tyn (.lst ds)) "bool").map (fun b => R.v (.bl b)) else none) = _
  rw [if_pos (by rfl), show kitB (tyn (.lst ds)) "bool" = some false from (show kitB "list" "bool" = some false by decide +kernel)]
  rfl
@[simp] theorem isiR_bool_ro (ds : List D) : isiR "bool" (.v (.ro ds)) = vB false := by
  show (if (tyn (.ro ds) == "?") = false then (kitB (tyn (.ro ds)) "bool").map (fun b => R.v (.bl b)) else none) = _
  rw [if_pos (by rfl), show kitB (tyn (.ro ds)) "bool" = some false from (show kitB "list" "bool" = some false by decide +kernel)]
  rfl
@[simp] theorem isiR_bool_dic (ds : List (Key × D)) : isiR "bool" (.v (.dic ds)) = vB false := by
  show (if (tyn (.dic ds) == "?") = false then (kitB (tyn (.dic ds)) "bool").map (fun b => R.v (.bl b)) else none) = _
  rw [if_pos (by rfl), show kitB (tyn (.dic ds)) "bool" = some false from (show kitB "dict" "bool" = some false by decide +kernel)]
  rfl
@[simp] theorem isiR_bool_n (ds : List D) : isiR "bool" (.n ds) = vB false := isiR_bool_lst ds
@[simp] theorem isiR_str_non : isiR "str" (.v .non) = vB false := by
  show (if (tyn .non == "?") = false then (kitB (tyn .non) "str").map (fun b => R.v (.bl b)) else none) = _
  rw [if_pos (by rfl), show kitB (tyn .non) "str" = some false from (show kitB "NoneType" "str" = some false by decide +kernel)]
  rfl
@[simp] theorem isiR_str_bl (b : Bool) : isiR "str" (.v (.bl b)) = vB false := by
  show (if (tyn (.bl b) == "?") = false then (kitB (tyn (.bl b)) "str").map (fun b => R.v (.bl b)) else none) = _
  rw [if_pos (by rfl), show kitB (tyn (.bl b)) "str" = some false from (show kitB "bool" "str" = some false by decide +kernel)]
  rfl
@[simp] theorem isiR_str_int (i : Int) : isiR "str" (.v (.int i)) = vB false := by
  show (if (tyn (.int i) == "?") = false then (kitB (tyn (.int i)) "str").map (fun b => R.v (.bl b)) else none) = _
  rw [if_pos (by rfl), show kitB (tyn (.int i)) "str" = some false from (show kitB "int" "str" = some false by decide +kernel)]
  rfl
@[simp] theorem isiR_str_str (s : Str) : isiR "str" (.v (.str s)) = vB true := by
  show (if (tyn (.str s) == "?") = false then (kitB (tyn (.str s)) "str").map (fun b => R.v (.bl b)) else none) = _
  rw [if_pos (by rfl), show kitB (tyn (.str s)) "str" = some true from (show kitB "str" "str" = some true by decide +kernel)]
  rfl
@[simp] theorem isiR_str_tup (ds : List D) : isiR "str" (.v (.tup ds)) = vB false := by
  show (if (tyn (.tup ds) == "?") = false then (kitB (tyn (.tup ds)) "str").map (fun b => R.v (.bl b)) else none) = _
  rw [if_pos (by rfl), show kitB (tyn (.tup ds)) "str" = some false from (show kitB "tuple" "str" = some false by decide +kernel)]
  rfl
@[simp] theorem isiR_str_lst (ds : List D) : isiR "str" (.v (.lst ds)) = vB false := by
  show (if (tyn (.lst ds) == "?") = false then (kitB (tyn (.lst ds)) "str").map (fun b => R.v (.bl b)) else none) = _
  rw [if_pos (by rfl), show kitB (tyn (.lst ds)) "str" = some false from (show kitB "list" "str" = some false by decide +kernel)]
  rfl
@[simp] theorem isiR_str_ro (ds : List D) : isiR "str" (.v (.ro ds)) = vB false := by
  show (if (tyn (.ro ds) == "?") = false then (kitB (tyn (.ro ds)) "str").map (fun b => R.v (.bl b)) else none) = _
  rw [if_pos (by rfl), show kitB (tyn (.ro ds)) "str" = some false from (show kitB "list" "str" = some false by decide +kernel)]
  rfl
@[simp] theorem isiR_str_dic (ds : List (Key × D)) : isiR "str" (.v (.dic ds)) = vB false := by
  show (if (tyn (.dic ds) == "?") = false then (kitB (tyn (.dic ds)) "str").map (fun b => R.v (.bl b)) else none) = _
  rw [if_pos (by rfl), show kitB (tyn (.dic ds)) "str" = some false from (show kitB "dict" "str" = some false by decide +kernel)]
  rfl
@[simp] theorem isiR_str_n (ds : List D) : isiR "str" (.n ds) = vB false := isiR_str_lst ds
@[simp] theorem isiR_list_non : isiR "list" (.v .non) = vB false := by
  show (if (tyn .non == "?") = false then (kitB (tyn .non) "list").map (fun b => R.v (.bl b)) else none) = _
  rw [if_pos (by rfl), show kitB (tyn .non) "list" = some false from (show kitB "NoneType" "list" = some false by decide +kernel)]
  rfl
@[simp] theorem isiR_list_bl (b : Bool) : isiR "list" (.v (.bl b)) = vB false := by
  show (if (tyn (.bl b) == "?") = false then (kitB (tyn (.bl b)) "list").map (fun b => R.v (.bl b)) else none) = _
  rw [if_pos (by rfl), show kitB (tyn (.bl b)) "list" = some false from (show kitB "bool" "list" = some false by decide +kernel)]
  rfl
@[simp] theorem isiR_list_int (i : Int) : isiR "list" (.v (.int i)) = vB false := by
  show (if (tyn (.int i) == "?") = false then (kitB (tyn (.int i)) "list").map (fun b => R.v (.bl b)) else none) = _
  rw [if_pos (by rfl), show kitB (tyn (.int i)) "list" = some false from (show kitB "int" "list" = some false by decide +kernel)]
  rfl
@[simp] theorem isiR_list_str (s : Str) : isiR "list" (.v (.str s)) = vB false := by
  show (if (tyn (.str s) == "?") = false then (kitB (tyn (.str s)) "list").map (fun b => R.v (.bl b)) else none) = _
  rw [if_pos (by rfl), show kitB (tyn (.str s)) "list" = some false from (show kitB "str" "list" = some false by decide +kernel)]
  rfl
@[simp] theorem isiR_list_tup (ds : List D) : isiR "list" (.v (.tup ds)) = vB false := by
  show (if (tyn (.tup ds) == "?") = false then (kitB (tyn (.tup ds)) "list").map (fun b => R.v (.bl b)) else none) = _
  rw [if_pos (by rfl), show kitB (tyn (.tup ds)) "list" = some false from (show kitB "tuple" "list" = some false by decide +kernel)]
  rfl
@[simp] theorem isiR_list_lst (ds : List D) : isiR "list" (.v (.lst ds)) = vB true := by
  show (if (tyn (.lst ds) == "?") = false then (kitB (tyn (.lst ds)) "list").map (fun b => R.v (.bl b)) else none) = _
  rw [if_pos (by rfl), show kitB (tyn (.lst ds)) "list" = some true from (show kitB "list" "list" = some true by decide +kernel)]
  rfl
@[simp] theorem isiR_list_ro (ds : List D) : isiR "list" (.v (.ro ds)) = vB true := by
  show (if (tyn (.ro ds) == "?") = false then (kitB (tyn (.ro ds)) "list").map (fun b => R.v (.bl b)) else none) = _
  rw [if_pos (by rfl), show kitB (tyn (.ro ds)) "list" = some true from (show kitB "list" "list" = some true by decide +kernel)]
  rfl
@[simp] theorem isiR_list_dic (ds : List (Key × D)) : isiR "list" (.v (.dic ds)) = vB false := by
  show (if (tyn (.dic ds) == "?") = false then (kitB (tyn (.dic ds)) "list").map (fun b => R.v (.bl b)) else none) = _
  rw [if_pos (by rfl), show kitB (tyn (.dic ds)) "list" = some false from (show kitB "dict" "list" = some false by decide +kernel)]
  rfl
@[simp] theorem isiR_list_n (ds : List D) : isiR "list" (.n ds) = vB true := isiR_list_lst ds
@[simp] theorem isiR_tuple_non : isiR "tuple" (.v .non) = vB false := by
  show (if (tyn .non == "?") = false then (kitB (tyn .non) "tuple").map (fun b => R.v (.bl b)) else none) = _
  rw [if_pos (by rfl), show kitB (tyn .non) "tuple" = some false from (show kitB "NoneType" "tuple" = some false by decide +kernel)]
  rfl
@[simp] theorem isiR_tuple_bl (b : Bool) : isiR "tuple" (.v (.bl b)) = vB false := by
  show (if (tyn (.bl b) == "?") = false then (kitB (tyn (.bl b)) "tuple").map (fun b => R.v (.bl b)) else none) = _
  rw [if_pos (by rfl), show kitB (tyn (.bl b)) "tuple" = some false from (show kitB "bool" "tuple" = some false by decide +kernel)]
  rfl
@[simp] theorem isiR_tuple_int (i : Int) : isiR "tuple" (.v (.int i)) = vB false := by
  show (if (tyn (.int i) == "?") = false then (kitB (tyn (.int i)) "tuple").map (fun b => R.v (.bl b)) else none) = _
  rw [if_pos (by rfl), show kitB (tyn (.int i)) "tuple" = some false from (show kitB "int" "tuple" = some false by decide +kernel)]
  rfl
@[simp] theorem isiR_tuple_str (s : Str) : isiR "tuple" (.v (.str s)) = vB false := by
  show (if (tyn (.str s) == "?") = false then (kitB (tyn (.str s)) "tuple").map (fun b => R.v (.bl b)) else none) = _
  rw [if_pos (by rfl), show kitB (tyn (.str s)) "tuple" = some false from (show kitB "str" "tuple" = some false by decide +kernel)]
  rfl
@[simp] theorem isiR_tuple_tup (ds : List D) : isiR "tuple" (.v (.tup ds)) = vB true := by
  show (if (tyn (.tup ds) == "?") = false then (kitB (tyn (.tup ds)) "tuple").map (fun b => R.v (.bl b)) else none) = _
  rw [if_pos (by rfl), show kitB (tyn (.tup ds)) "tuple" = some true from (show kitB "tuple" "tuple" = some true by decide +kernel)]
  rfl
@[simp] theorem isiR_tuple_lst (ds : List D) : isiR "tuple" (.v (.lst ds)) = vB false := by
  show (if (tyn (.lst ds) == "?") = false then (kitB (tyn (.lst ds)) "tuple").map (fun b => R.v (.bl b)) else none) = _
  rw [if_pos (by rfl), show kitB (tyn (.lst ds)) "tuple" = some false from (show kitB "list" "tuple" = some false by decide +kernel)]
  rfl
@[simp] theorem isiR_tuple_ro (ds : List D) : isiR "tuple" (.v (.ro ds)) = vB false := by
  show (if (tyn (.ro ds) == "?") = false then (kitB (tyn (.ro ds)) "tuple").map (fun b => R.v (.bl b)) else none) = _
  rw [if_pos (by rfl), show kitB (tyn (.ro ds)) "tuple" = some false from (show kitB "list" "tuple" = some false by decide +kernel)]
  rfl
@[simp] theorem isiR_tuple_dic (ds : List (Key × D)) : isiR "tuple" (.v (.dic ds)) = vB false := by
  show (if (tyn (.dic ds) == "?") = false then (kitB (tyn (.dic ds)) "tuple").map (fun b => R.v (.bl b)) else none) = _
  rw [if_pos (by rfl), show kitB (tyn (.dic ds)) "tuple" = some false from (show kitB "dict" "tuple" = some false by decide +kernel)]
  rfl
@[simp] theorem isiR_tuple_n (ds : List D) : isiR "tuple" (.n ds) = vB false := isiR_tuple_lst ds
/-- what a loop may leave -/
def ForP (I Q : Ev → Prop) (P : Out → Prop) : Out → Prop
  | .nx ρ => I ρ
  | .ct ρ => I ρ
  | .bk ρ => Q ρ
  | .rt d => P (.rt d)
  | .ro ds => P (.ro ds)
  | .rs x ρ => P (.rs x ρ)
  | .rtt t => P (.rtt t)
/-- a loop with break and return: I before each turn and behind the last, Q behind a break -/
theorem gv_forB {P : Out → Prop} {k : Kt} {g : D → Ev → Option Ev} {Bd : Kt} {Q : Ev → Prop} : ∀ {ds : List D} {ρ : Ev} (I : Nat → Ev → Prop), I 0 ρ →
    (∀ i d ρ, ds[i]? = some d → I i ρ → ∃ ρ1, g d ρ = some ρ1 ∧ Gv (Bd ρ1) (ForP (I (i + 1)) Q P)) → (∀ ρ', I ds.length ρ' ∨ Q ρ' → Gv (k ρ') P) → Gv (forO (some ds) g Bd k ρ) P
  | [], ρ, I, h0, _, q => q ρ (.inl h0)
  | d :: ds, ρ, I, h0, step, q => by
    obtain ⟨ρ1, h1, out, h2, h3⟩ := step 0 d ρ rfl h0
    show Gv (((g d ρ).bind _).bind _) P
    rw [h1]
    show Gv (((Bd ρ1).bind _).bind _) P
    rw [h2]
    cases out with
    | nx ρ2 => exact gv_forB (ds := ds) (fun i => I (i + 1)) h3 (fun i d' ρ' hd => step (i + 1) d' ρ' (by simpa using hd)) q
    | ct ρ2 => exact gv_forB (ds := ds) (fun i => I (i + 1)) h3 (fun i d' ρ' hd => step (i + 1) d' ρ' (by simpa using hd)) q
    | bk ρ2 => exact q ρ2 (.inr h3)
    | rt d => exact gv_out rfl h3
    | ro ds => exact gv_out rfl h3
    | rs x ρ => exact gv_out rfl h3
    | rtt t => exact gv_out rfl h3
/-- a def that keeps its promise -/
theorem run_of {N : List Str} {B : Kt} {ds : List D} {r : Res} {ρ : Ev} (e : startE N ds = ρ) (h : Gv (B ρ) (fun o => outR o = some r)) : runF N B ds = some r := by
  obtain ⟨out, h1, h2⟩ := h
  show (B (startE N ds)).bind outR = _
  rw [e, h1]; exact h2
end DL

set_option linter.all false
set_option autoImplicit false
set_option maxRecDepth 100000
set_option maxHeartbeats 1000000
/-! more rewriting, bounds, equality of trees -/
namespace DL
open PySem PySem.Spec PyProof.Rows L2
theorem iD_app (xs : List Int) (x : Int) : iD xs ++ [D.int x] = iD (xs ++ [x]) := by simp [iD]
theorem atI_at {α : Type} {xs : List α} {i : Nat} {x : α} (h : xs[i]? = some x) : L2.atI xs (i : Int) = some x := by
  have hl := (List.getElem?_eq_some_iff.mp h).1
  have := (List.getElem?_eq_some_iff.mp h).2
  rw [atI_pos x (by omega) (by omega)]
  simp [List.getD, h]
abbrev pr (a b : Int) : D := .tup [.int a, .int b]
/-- the kinds of values that laws hand about -/
def kn : D → Bool
  | .non => true | .bl _ => true | .int _ => true | .str _ => true | .tup _ => true | .lst _ => true | .dic _ => true
  | _ => false
def isW : D → Bool
  | .int _ => true
  | _ => false
theorem atI2_0 (a b : D) : L2.atI [a, b] 0 = some a := rfl
theorem atI2_1 (a b : D) : L2.atI [a, b] 1 = some b := rfl
/-- fewer than k binary places -/
def bd (k : Nat) (x : Int) : Prop := x.natAbs < 2 ^ k
theorem bd.mono {j k : Nat} {x : Int} (h : bd j x) (hk : j ≤ k) : bd k x := Nat.lt_of_lt_of_le h (Nat.pow_le_pow_right (by decide) hk)
theorem bd.mul {j k : Nat} {x y : Int} (h : bd j x) (h2 : bd k y) : bd (j + k) (x * y) := by
  unfold bd at *
  rw [Int.natAbs_mul, Nat.pow_add]
  exact Nat.mul_lt_mul'' h h2
theorem bd.add {k : Nat} {x y : Int} (h : bd k x) (h2 : bd k y) : bd (k + 1) (x + y) := by
  unfold bd at *
  have := Int.natAbs_add_le x y
  rw [Nat.pow_succ]; omega
theorem bd.neg {k : Nat} {x : Int} (h : bd k x) : bd k (-x) := by unfold bd at *; rw [Int.natAbs_neg]; exact h
theorem bd.sub {k : Nat} {x y : Int} (h : bd k x) (h2 : bd k y) : bd (k + 1) (x - y) := by rw [Int.sub_eq_add_neg]; exact h.add h2.neg
theorem bd.log {k : Nat} {x : Int} (h : bd k x) : x.natAbs.log2 ≤ k := by
  by_cases h0 : x.natAbs = 0
  · rw [h0]; exact Nat.zero_le _
  · exact Nat.le_of_lt ((Nat.log2_lt h0).mpr h)
theorem bd.log2 {j k : Nat} {x y : Int} (h : bd j x) (h2 : bd k y) (hk : j + k < 1000000) : x.natAbs.log2 + y.natAbs.log2 < 1000000 := by
  have := h.log; have := h2.log; omega
/-- a loop over ds whose turns keep J -/
theorem gv_each {j : Nat} {ds : List D} {Bd k : Kt} {P : Out → Prop} {ρ : Ev} (J : Ev → Prop) (h0 : J ρ) (hb : ∀ d ∈ ds, ∀ ρ', J ρ' → Gv (Bd (ρ'.set j (.sh d))) (fun o => ∃ ρ2, o = .nx ρ2 ∧ J ρ2)) (q : ∀ ρ', J ρ' → Gv (k ρ') P) : Gv (forO (some ds) (nameG j) Bd k ρ) P :=
  gv_for (I := fun _ => J) h0 (fun i d ρ hd hJ => ⟨_, rfl, gv_imp (hb d (List.mem_of_getElem? hd) ρ hJ) fun o ⟨ρ2, e, hj⟩ => ⟨ρ2, .inl e, hj⟩⟩) q
theorem compL_map {g : D → Option (Option D)} {f : D → D} : ∀ {ds : List D}, (∀ d ∈ ds, g d = some (some (f d))) → compL g ds = some (ds.map f)
  | [], _ => rfl
  | d :: ds, h => by
    rw [compL, h d (by simp), compL_map fun e he => h e (by simp [he])]; rfl
theorem compO_map {ds : List D} {ow : List Nat} {g : D → Ev → Option Ev} {cond : Ev → Option Bool} {val : Ev → Option R} {ρ : Ev} (f : D → D) (hl : ds.length ≤ 16777216) (h : ∀ d ∈ ds, compG ow g cond val ρ d = some (some (f d))) : compO (some ds) ow g cond val ρ = vN (ds.map f) := by
  show (if ds.length ≤ sizeLine then (compL (compG ow g cond val ρ) ds).map R.n else none) = _
  rw [if_pos (show ds.length ≤ sizeLine from hl), compL_map h]; rfl
theorem allR_map (ds : List D) (f : D → Bool) : allR (.n (ds.map fun d => .bl (f d))) = vB (ds.all f) := by
  have e : blsD (ds.map fun d => .bl (f d)) = some (ds.map f) := by
    have := blsD_map (ds.map f)
    rwa [List.map_map] at this
  show (blsD _).map _ = _
  rw [e]
  show vB ((ds.map f).all id) = _
  rw [List.all_map]; rfl
theorem andB_bb (x y : Bool) : andB (some x) (some y) = some (x && y) := by cases x <;> rfl
theorem orB_bb (x y : Bool) : orB (some x) (some y) = some (x || y) := by cases x <;> rfl
theorem all_set {ds : List D} {n : Nat} {d : D} {f : D → Bool} (hn : n < ds.length) (hd : f d = false) : (ds.set n d).all f = false := by
  rw [List.all_eq_false]
  exact ⟨d, List.mem_iff_getElem.mpr ⟨n, by simpa using hn, by simp⟩, by rw [hd]; simp⟩
/-- trees of a depth below n, of short lists and tuples -/
def okD : Nat → D → Bool
  | 0, _ => false
  | _ + 1, .non => true
  | _ + 1, .bl _ => true
  | _ + 1, .int _ => true
  | _ + 1, .str _ => true
  | n + 1, .tup ds => decide (ds.length ≤ 1000) && ds.all (okD n)
  | n + 1, .lst ds => decide (ds.length ≤ 1000) && ds.all (okD n)
  | _, _ => false
noncomputable def eqD (d e : D) : Bool := @decide (d = e) (Classical.propDecidable _)
theorem eqD_iff {d e : D} : eqD d e = true ↔ d = e := @decide_eq_true_iff _ (Classical.propDecidable _)
theorem eqD_of {d e : D} {b : Bool} (h : d = e ↔ b = true) : eqD d e = b := by
  cases b with
  | true => exact eqD_iff.mpr (h.mpr rfl)
  | false => exact Bool.eq_false_iff.mpr fun z => by have := h.mp (eqD_iff.mp z); cases this
theorem eqDs : ∀ ds es : List D, (decide (ds.length = es.length) && (ds.zip es).all fun q => eqD q.1 q.2) = true ↔ ds = es
  | [], [] => by simp
  | [], e :: es => by simp
  | d :: ds, [] => by simp
  | d :: ds, e :: es => by
    have := eqDs ds es
    simp only [List.length_cons, List.zip_cons_cons, List.all_cons, Bool.and_eq_true, decide_eq_true_eq, Nat.add_right_cancel_iff, List.cons.injEq] at *
    rw [eqD_iff]
    constructor
    · rintro ⟨h1, h2, h3⟩; exact ⟨h2, this.mp ⟨h1, h3⟩⟩
    · rintro ⟨h1, h2⟩; have := this.mpr h2; exact ⟨this.1, h1, this.2⟩
theorem isi2_l1 {d : D} (h : tyn d = "list") : isi2R "list" "tuple" (.v d) = vB true := by
  show (if (tyn d == "?") = false then (match kitB (tyn d) "list", kitB (tyn d) "tuple" with
    | some true, some _ => vB true | some false, some k => vB k | _, _ => none) else none) = _
  rw [h, if_pos (show (("list" : String) == "?") = false by decide), show kitB "list" "list" = some true by decide +kernel, show kitB "list" "tuple" = some false by decide +kernel]
theorem isi2_t1 {d : D} (h : tyn d = "tuple") : isi2R "list" "tuple" (.v d) = vB true := by
  show (if (tyn d == "?") = false then (match kitB (tyn d) "list", kitB (tyn d) "tuple" with
    | some true, some _ => vB true | some false, some k => vB k | _, _ => none) else none) = _
  rw [h, if_pos (show (("tuple" : String) == "?") = false by decide), show kitB "tuple" "list" = some false by decide +kernel, show kitB "tuple" "tuple" = some true by decide +kernel]
theorem isi2_l (ds : List D) : isi2R "list" "tuple" (.v (.lst ds)) = vB true := isi2_l1 rfl
theorem isi2_t (ds : List D) : isi2R "list" "tuple" (.v (.tup ds)) = vB true := isi2_t1 rfl
theorem isi2_n {d : D} {T : String} (h : tyn d = T) (h1 : (T == "?") = false) (h2 : kitB T "list" = some false) (h3 : kitB T "tuple" = some false) : isi2R "list" "tuple" (.v d) = vB false := by
  show (if (tyn d == "?") = false then (match kitB (tyn d) "list", kitB (tyn d) "tuple" with
    | some true, some _ => vB true | some false, some k => vB k | _, _ => none) else none) = _
  rw [h, if_pos h1, h2, h3]
theorem isi2_int (i : Int) : isi2R "list" "tuple" (.v (.int i)) = vB false := isi2_n (T := "int") rfl rfl (by decide +kernel) (by decide +kernel)
theorem isi2_bl (i : Bool) : isi2R "list" "tuple" (.v (.bl i)) = vB false := isi2_n (T := "bool") rfl rfl (by decide +kernel) (by decide +kernel)
theorem isi2_str (i : Str) : isi2R "list" "tuple" (.v (.str i)) = vB false := isi2_n (T := "str") rfl rfl (by decide +kernel) (by decide +kernel)
theorem isi2_non : isi2R "list" "tuple" (.v .non) = vB false := isi2_n (T := "NoneType") rfl rfl (by decide +kernel) (by decide +kernel)
theorem zips_mem {ds es : List D} {z : D} (h : z ∈ zips ds es) : ∃ x y, x ∈ ds ∧ y ∈ es ∧ z = .tup [x, y] := by
  obtain ⟨q, hq, rfl⟩ := List.mem_map.mp h
  exact ⟨q.1, q.2, (List.of_mem_zip hq).1, (List.of_mem_zip hq).2, rfl⟩
theorem addR_ln (i j : List D) : addR (.v (.lst i)) (.n j) = if i.length + j.length ≤ 16777216 then vN (i ++ j) else none := rfl
theorem addR_nl (i j : List D) : addR (.n i) (.v (.lst j)) = if i.length + j.length ≤ 16777216 then vN (i ++ j) else none := rfl
theorem addR_nn (i j : List D) : addR (.n i) (.n j) = if i.length + j.length ≤ 16777216 then vN (i ++ j) else none := rfl
theorem addR_ll (i j : List D) : addR (.v (.lst i)) (.v (.lst j)) = if i.length + j.length ≤ 16777216 then vN (i ++ j) else none := rfl
theorem addR_rn (i j : List D) : addR (.r i) (.n j) = if i.length + j.length ≤ 16777216 then vN (i ++ j) else none := rfl
theorem ooR_i (i : Int) : ooR (vI i) = some (some i) := rfl
theorem slR_l (ds : List D) (l u : Option Int) : slR (.v (.lst ds)) l u = vN (cut ds l u) := rfl
theorem slR_n (ds : List D) (l u : Option Int) : slR (.n ds) l u = vN (cut ds l u) := rfl
theorem slR_r (ds : List D) (l u : Option Int) : slR (.r ds) l u = vN (cut ds l u) := rfl
theorem eqD_ne {x y : D} (h : x ≠ y) : eqD x y = false := Bool.eq_false_iff.mpr fun z => h (eqD_iff.mp z)
/-- a loop over a range whose turns keep J i -/
theorem gv_rng {j : Nat} {n : Int} {Bd k : Kt} {P : Out → Prop} {ρ : Ev} (J : Nat → Ev → Prop) (h0 : J 0 ρ) (hb : ∀ i : Nat, (i : Int) < n → ∀ ρ', J i ρ' → Gv (Bd (ρ'.set j (.sh (.int (i : Int))))) (fun o => ∃ ρ2, o = .nx ρ2 ∧ J (i + 1) ρ2)) (q : ∀ ρ', J n.toNat ρ' → Gv (k ρ') P) : Gv (forO (some (iD (rng 0 n))) (nameG j) Bd k ρ) P := by
  refine gv_for (I := J) h0 (fun i d ρ hd hJ => ?_) fun ρ' hJ => q ρ' (by rw [List.length_map, rng_len, Int.sub_zero] at hJ; exact hJ)
  have hi : (i : Int) < n := by
    have := (List.getElem?_eq_some_iff.mp hd).1
    rw [List.length_map, rng_len] at this
    omega
  obtain rfl := rng_get hd
  rw [Int.zero_add]
  exact ⟨_, rfl, gv_imp (hb i hi ρ hJ) fun o ⟨ρ2, e, hj⟩ => ⟨ρ2, .inl e, hj⟩⟩
end DL

set_option linter.all false
set_option autoImplicit false
set_option maxRecDepth 100000
set_option maxHeartbeats 1000000
/-! Bounds by instance; ratios in lowest terms; gcd of a list; while loops. -/
namespace DL
open PySem PySem.Spec PyProof.Rows L2
/-! ### bounds -/
class Bd (k : outParam Nat) (x : Int) : Prop where
  h : x.natAbs < 2 ^ k
theorem two_pow_gt (n : Nat) : n < 2 ^ n := Nat.lt_two_pow_self
theorem Bd.up {j : Nat} {x : Int} (h : Bd j x) (k : Nat) (hk : j ≤ k) : Bd k x := ⟨Nat.lt_of_lt_of_le h.h (Nat.pow_le_pow_right (by decide) hk)⟩
theorem Bd.of (k : Nat) {x : Int} (h : x.natAbs < 2 ^ k) : Bd k x := ⟨h⟩
instance Bd.lit {n : Nat} : Bd n (no_index (OfNat.ofNat n : Int)) := ⟨two_pow_gt n⟩
instance Bd.add {j k : Nat} {x y : Int} [a : Bd j x] [b : Bd k y] : Bd (j + k + 1) (x + y) := ⟨by
  have h1 := (a.up (j + k) (by omega)).h
  have h2 := (b.up (j + k) (by omega)).h
  have := Int.natAbs_add_le x y
  rw [Nat.pow_succ]; omega⟩
instance Bd.neg {k : Nat} {x : Int} [a : Bd k x] : Bd k (-x) := ⟨by rw [Int.natAbs_neg]; exact a.h⟩
instance Bd.sub {j k : Nat} {x y : Int} [a : Bd j x] [b : Bd k y] : Bd (j + k + 1) (x - y) := by rw [Int.sub_eq_add_neg]; exact Bd.add
instance Bd.mul {j k : Nat} {x y : Int} [a : Bd j x] [b : Bd k y] : Bd (j + k) (x * y) := ⟨by
  rw [Int.natAbs_mul, Nat.pow_add]; exact Nat.mul_lt_mul'' a.h b.h⟩
theorem natAbs_ediv_le (x y : Int) : (x / y).natAbs ≤ x.natAbs := by
  rcases Int.lt_trichotomy y 0 with h | h | h
  · have e : x / y = -(x / -y) := by rw [Int.ediv_neg, Int.neg_neg]
    rw [e, Int.natAbs_neg]
    generalize hz : -y = z at *
    have hz0 : 0 < z := by omega
    have h1 := Int.mul_ediv_add_emod x z
    have h2 := Int.emod_nonneg x (show z ≠ 0 by omega)
    have h3 := Int.emod_lt_of_pos x hz0
    by_cases hx : 0 ≤ x
    · have a1 := Int.ediv_nonneg hx (show 0 ≤ z by omega)
      have a2 := Int.ediv_le_self z hx
      omega
    · have a1 : x / z < 0 := Int.ediv_neg_of_neg_of_pos (by omega) hz0
      have a2 : x ≤ x / z := by
        rw [Int.le_ediv_iff_mul_le hz0]
        have : x * z ≤ x * 1 := Int.mul_le_mul_of_nonpos_left (by omega) (by omega)
        omega
      omega
  · subst h; simp
  · have h0 := h
    by_cases hx : 0 ≤ x
    · have a1 := Int.ediv_nonneg hx (show 0 ≤ y by omega)
      have a2 := Int.ediv_le_self y hx
      omega
    · have a1 : x / y < 0 := Int.ediv_neg_of_neg_of_pos (by omega) h
      have a2 : x ≤ x / y := by
        rw [Int.le_ediv_iff_mul_le h]
        have : x * y ≤ x * 1 := Int.mul_le_mul_of_nonpos_left (by omega) (by omega)
        omega
      omega
instance Bd.div {k : Nat} {x y : Int} [a : Bd k x] : Bd k (x / y) := ⟨Nat.lt_of_le_of_lt (natAbs_ediv_le x y) a.h⟩
theorem Bd.mod {x y : Int} {k : Nat} (h : 0 < y) (b : Bd k y) : Bd k (x % y) := ⟨by
  have a := Int.emod_nonneg x (show y ≠ 0 by omega)
  have c := Int.emod_lt_of_pos x h
  have := b.h
  omega⟩
class Pos (x : Int) : Prop where
  h : 0 < x
instance {n : Nat} : Pos (no_index (OfNat.ofNat (n + 1) : Int)) := ⟨show (0 : Int) < ((n + 1 : Nat) : Int) by omega⟩
instance Bd.modI {x y : Int} {k : Nat} [p : Pos y] [b : Bd k y] : Bd k (x % y) := .mod p.h b
instance Bd.ite {j k : Nat} {c : Prop} [Decidable c] {x y : Int} [a : Bd j x] [b : Bd k y] : Bd (j + k) (if c then x else y) := by
  split
  · exact a.up _ (by omega)
  · exact b.up _ (by omega)
theorem Bd.log {k : Nat} {x : Int} (h : Bd k x) : x.natAbs.log2 ≤ k := by
  by_cases h0 : x.natAbs = 0
  · rw [h0]; exact Nat.zero_le _
  · exact Nat.le_of_lt ((Nat.log2_lt h0).mpr h.h)
@[simp] theorem mulB {j k : Nat} {x y : Int} [a : Bd j x] [b : Bd k y] (h : j + k < 1000000) : mulR (.v (.int x)) (.v (.int y)) = vI (x * y) := by
  have := a.log
  have := b.log
  rw [mulR_i, if_pos (.inr (by omega))]
@[simp] theorem divB {k : Nat} {x y : Int} [b : Bd k y] (h0 : y ≠ 0) (h : k < 9000) : divR (.v (.int x)) (.v (.int y)) = vI (if 0 < y then x / y else x.fdiv y) := by
  have := b.log
  rw [divR_i, if_pos ⟨h0, .inr (by omega)⟩]
theorem modB {x y : Int} (h : 0 < y) : modR (.v (.int x)) (.v (.int y)) = vI (x % y) := by
  rw [modR_i, if_pos (by omega), if_pos h]
example (a b : Int) [Bd 10 a] [Bd 7 b] : mulR (.v (.int (a * 3 + b))) (.v (.int (b - 2 * a))) = vI ((a * 3 + b) * (b - 2 * a)) := by simp
example (a b : Int) : mulR (.v (.int (a % 13 - 6))) (.v (.int (b % 1000 / 7))) = vI ((a % 13 - 6) * (b % 1000 / 7)) := by simp
example (a : Int) : divR (.v (.int a)) (.v (.int 7)) = vI (a / 7) := by simp
end DL

set_option linter.all false
set_option autoImplicit false
set_option maxRecDepth 100000
set_option maxHeartbeats 1000000
/-! Loops with while; ratios in lowest terms; lists of ints without a common part. -/
namespace DL
open PySem PySem.Spec PyProof.Rows L2
/-- what a turn of a while may leave -/
def WhP (I : Nat → Ev → Prop) (m : Nat) (k : Kt) (P : Out → Prop) : Out → Prop
  | .nx ρ => ∃ m', m' < m ∧ I m' ρ
  | .ct ρ => ∃ m', m' < m ∧ I m' ρ
  | .bk ρ => Gv (k ρ) P
  | .rt d => P (.rt d)
  | .ro ds => P (.ro ds)
  | .rs x ρ => P (.rs x ρ)
  | .rtt t => P (.rtt t)
theorem gv_while {c : Ev → Option Bool} {B k : Kt} {P : Out → Prop} (I : Nat → Ev → Prop) (step : ∀ m ρ, I m ρ → (c ρ = some false ∧ Gv (k ρ) P) ∨ (c ρ = some true ∧ Gv (B ρ) (WhP I m k P))) : ∀ (m : Nat) (ρ : Ev), I m ρ → Gv (whileO c B k ρ) P := by
  have key : ∀ (m : Nat) (ρ : Ev), I m ρ → ∃ n o, whileF c B n ρ = some o ∧ Gv (joinK k o) P := by
    intro m
    induction m using Nat.strongRecOn with
    | ind m ih =>
      intro ρ h
      rcases step m ρ h with ⟨h1, h2⟩ | ⟨h1, o, h2, h3⟩
      · exact ⟨1, .nx ρ, by simp [whileF, h1], h2⟩
      · cases o with
        | nx ρ2 => obtain ⟨m', hm, hI⟩ := h3; obtain ⟨n, o, e1, e2⟩ := ih m' hm ρ2 hI; exact ⟨n + 1, o, by simp [whileF, h1, h2, e1], e2⟩
        | ct ρ2 => obtain ⟨m', hm, hI⟩ := h3; obtain ⟨n, o, e1, e2⟩ := ih m' hm ρ2 hI; exact ⟨n + 1, o, by simp [whileF, h1, h2, e1], e2⟩
        | bk ρ2 => exact ⟨1, .nx ρ2, by simp [whileF, h1, h2], h3⟩
        | rt d => exact ⟨1, .rt d, by simp [whileF, h1, h2], _, rfl, h3⟩
        | ro d => exact ⟨1, .ro d, by simp [whileF, h1, h2], _, rfl, h3⟩
        | rs x ρ2 => exact ⟨1, .rs x ρ2, by simp [whileF, h1, h2], _, rfl, h3⟩
        | rtt t => exact ⟨1, .rtt t, by simp [whileF, h1, h2], _, rfl, h3⟩
  intro m ρ h
  obtain ⟨n, o, e1, out, e2, e3⟩ := key m ρ h
  refine ⟨out, ?_, e3⟩
  show (whileL c B ρ).bind (joinK k) = _
  rw [whileL_of e1]
  exact e2
def num (p q : Int) : Int := if 0 < q then p / (Int.gcd p q : Int) else -(p / (Int.gcd p q : Int))
def den (p q : Int) : Int := if 0 < q then q / (Int.gcd p q : Int) else -(q / (Int.gcd p q : Int))
abbrev lw (p q : Int) : D := pr (num p q) (den p q)
theorem g_pos {p q : Int} (hq : q ≠ 0) : 0 < (Int.gcd p q : Int) := by
  have : Int.gcd p q ≠ 0 := fun h => hq (Int.gcd_eq_zero_iff.mp h).2
  omega
theorem fdiv_neg_of {p g : Int} (hg : 0 < g) (h : g ∣ p) : p.fdiv (-g) = -(p / g) := by
  obtain ⟨k, rfl⟩ := h
  have e : g * k = (-g) * (-k) := by rw [Int.neg_mul_neg]
  rw [Int.mul_ediv_cancel_left k (by omega), e, Int.mul_fdiv_cancel_left _ (by omega)]
theorem den_pos {p q : Int} (hq : q ≠ 0) : 0 < den p q := by
  have g := g_pos (p := p) hq
  obtain ⟨k, hk⟩ := Int.gcd_dvd_right p q
  have e : q / (Int.gcd p q : Int) = k := by
    conv => lhs; lhs; rw [hk]
    exact Int.mul_ediv_cancel_left k (by omega)
  unfold den
  rw [e]
  split
  · rename_i h
    rcases Int.lt_trichotomy k 0 with h1 | h1 | h1
    · have := Int.mul_neg_of_pos_of_neg g h1; omega
    · subst h1; omega
    · exact h1
  · rename_i h
    rcases Int.lt_trichotomy k 0 with h1 | h1 | h1
    · omega
    · subst h1; omega
    · have := Int.mul_pos g h1; omega
theorem lw_spec {p q : Int} (hq : q ≠ 0) : num p q * q = p * den p q ∧ 0 < den p q ∧ Int.gcd (num p q) (den p q) = 1 := by
  have g := g_pos (p := p) hq
  have hg : 0 < Int.gcd p q := by omega
  refine ⟨?_, den_pos hq, ?_⟩
  · obtain ⟨a, ha⟩ := Int.gcd_dvd_left p q
    obtain ⟨b, hb⟩ := Int.gcd_dvd_right p q
    unfold num den
    generalize (Int.gcd p q : Int) = G at *
    subst ha hb
    rw [Int.mul_ediv_cancel_left a (by omega), Int.mul_ediv_cancel_left b (by omega)]
    split
    · rw [Int.mul_left_comm, Int.mul_assoc]
    · rw [Int.neg_mul, Int.mul_neg, Int.mul_left_comm, Int.mul_assoc]
  · have h1 := Int.gcd_ediv_gcd_ediv_gcd hg
    unfold num den
    split
    · exact h1
    · rw [Int.gcd_neg, Int.neg_gcd]; exact h1
theorem cop_dvd {a b d : Int} (h : Int.gcd a b = 1) (e : b ∣ a * d) : b ∣ d := by
  have e' : b.natAbs ∣ a.natAbs * d.natAbs := by rw [← Int.natAbs_mul]; exact Int.natAbs_dvd_natAbs.mpr e
  have c : Nat.Coprime b.natAbs a.natAbs := by rw [Nat.coprime_comm]; exact h
  exact Int.natAbs_dvd_natAbs.mp (c.dvd_of_dvd_mul_left e')
theorem red_unique {a b c d : Int} (hb : 0 < b) (hd : 0 < d) (h1 : Int.gcd a b = 1) (h2 : Int.gcd c d = 1) (h : a * d = c * b) : a = c ∧ b = d := by
  have e1 : b ∣ d := cop_dvd (a := a) h1 ⟨c, by rw [h, Int.mul_comm]⟩
  have e2 : d ∣ b := cop_dvd (a := c) h2 ⟨a, by rw [← h, Int.mul_comm]⟩
  have e3 : b = d := Int.dvd_antisymm (by omega) (by omega) e1 e2
  subst e3
  exact ⟨Int.eq_of_mul_eq_mul_right (by omega) h, rfl⟩
theorem lw_congr {p q p' q' : Int} (hq : q ≠ 0) (hq' : q' ≠ 0) (h : p * q' = p' * q) : num p q = num p' q' ∧ den p q = den p' q' := by
  obtain ⟨s1, s2, s3⟩ := lw_spec (p := p) hq
  obtain ⟨t1, t2, t3⟩ := lw_spec (p := p') hq'
  refine red_unique s2 t2 s3 t3 ?_
  generalize num p q = a at *
  generalize den p q = b at *
  generalize num p' q' = c at *
  generalize den p' q' = d at *
  have e : (a * d) * (q * q') = (c * b) * (q * q') := by
    calc (a * d) * (q * q') = (a * q) * (d * q') := by ac_rfl
      _ = (p * b) * (d * q') := by rw [s1]
      _ = (p * q') * (b * d) := by ac_rfl
      _ = (p' * q) * (b * d) := by rw [h]
      _ = (p' * d) * (b * q) := by ac_rfl
      _ = (c * q') * (b * q) := by rw [t1]
      _ = (c * b) * (q * q') := by ac_rfl
  exact Int.eq_of_mul_eq_mul_right (Int.mul_ne_zero hq hq') e
theorem lw_red {a b : Int} (hb : 0 < b) (h : Int.gcd a b = 1) : num a b = a ∧ den a b = b := by
  obtain ⟨s1, s2, s3⟩ := lw_spec (p := a) (q := b) (by omega)
  exact red_unique s2 hb s3 h s1
theorem eqR_pr (a b c d : Int) : eqR (.v (pr a b)) (.v (pr c d)) = some (decide (a = c ∧ b = d)) := by
  show (if SeqAt.shaped (.tuple [.int a, .int b]) = true ∧ SeqAt.shaped (.tuple [.int c, .int d]) = true then some (PyData.eqv (.tuple [.int a, .int b]) (.tuple [.int c, .int d])) else none) = _
  rw [if_pos ⟨rfl, rfl⟩]
  show some (PyData.eqvAll [.int a, .int b] [.int c, .int d]) = _
  rw [PyData.eqvAll, PyData.eqvAll, PyData.eqvAll]
  show some (a == c && (b == d && true)) = _
  congr 1
  by_cases h1 : a = c <;> by_cases h2 : b = d <;> simp [h1, h2]
theorem num_le {p q : Int} (hq : q ≠ 0) : (num p q).natAbs ≤ p.natAbs := by
  have := natAbs_ediv_le p (Int.gcd p q : Int)
  unfold num
  split
  · exact this
  · rw [Int.natAbs_neg]; exact this
theorem den_le {p q : Int} (hq : q ≠ 0) : (den p q).natAbs ≤ q.natAbs := by
  have := natAbs_ediv_le q (Int.gcd p q : Int)
  unfold den
  split
  · exact this
  · rw [Int.natAbs_neg]; exact this
/-- the common part of a list -/
def gl : List Int → Nat
  | [] => 0
  | x :: xs => Nat.gcd x.natAbs (gl xs)
def low (xs : List Int) : List Int := if gl xs = 0 then xs else xs.map (· / (gl xs : Int))
theorem gl_dvd : ∀ {xs : List Int} {x : Int}, x ∈ xs → (gl xs : Int) ∣ x
  | y :: ys, x, h => by
    rcases List.mem_cons.mp h with rfl | h
    · exact Int.natAbs_dvd_natAbs.mp (Nat.gcd_dvd_left _ _)
    · exact Int.dvd_trans (Int.natCast_dvd_natCast.mpr (Nat.gcd_dvd_right _ _)) (gl_dvd h)
theorem gl_scale (a : Int) : ∀ xs : List Int, gl (xs.map (a * ·)) = a.natAbs * gl xs
  | [] => rfl
  | x :: xs => by
    rw [List.map_cons, gl, gl_scale a xs, Int.natAbs_mul, Nat.gcd_mul_left]; rfl
theorem gl_zero : ∀ {xs : List Int}, gl xs = 0 ↔ ∀ x ∈ xs, x = 0
  | [] => by simp [gl]
  | x :: xs => by simp [gl, Nat.gcd_eq_zero_iff, gl_zero (xs := xs)]
theorem low_scale {a : Int} (ha : 0 < a) (xs : List Int) : low (xs.map (a * ·)) = low xs := by
  unfold low
  rw [gl_scale]
  by_cases h : gl xs = 0
  · rw [if_pos (by rw [h]; simp), if_pos h]
    have := gl_zero.mp h
    exact (List.map_congr_left fun x hx => by rw [this x hx]; simp).trans (List.map_id _)
  · have h2 : a.natAbs * gl xs ≠ 0 := Nat.mul_ne_zero (by omega) h
    rw [if_neg h2, if_neg h, List.map_map]
    refine List.map_congr_left fun x hx => ?_
    show a * x / ((a.natAbs * gl xs : Nat) : Int) = _
    rw [Int.natCast_mul, Int.natAbs_of_nonneg (by omega), Int.mul_ediv_mul_of_pos _ _ ha]
/-- lists in one direction have one lowest form -/
theorem low_congr {a b : Int} (ha : 0 < a) (hb : 0 < b) {xs ys : List Int} (h : xs.map (a * ·) = ys.map (b * ·)) : low xs = low ys := by
  rw [← low_scale ha xs, h, low_scale hb]
theorem low_one {xs : List Int} (h : gl xs = 1) : low xs = xs := by
  unfold low
  rw [if_neg (by omega), h]
  exact (List.map_congr_left fun x hx => by simp).trans (List.map_id _)
theorem low_mul (xs : List Int) : (low xs).map ((gl xs : Int) * ·) = if gl xs = 0 then xs.map fun _ => 0 else xs := by
  unfold low
  by_cases h : gl xs = 0
  · rw [if_pos h, if_pos h, h]; exact List.map_congr_left fun x hx => by simp
  · rw [if_neg h, if_neg h, List.map_map]
    exact (List.map_congr_left fun x hx => Int.mul_ediv_cancel' (gl_dvd hx)).trans (List.map_id _)
theorem gl_low {xs : List Int} (h : gl xs ≠ 0) : gl (low xs) = 1 := by
  have e := low_mul xs
  rw [if_neg h] at e
  have g := congrArg gl e
  rw [gl_scale] at g
  rw [Int.natAbs_natCast] at g
  exact Nat.eq_of_mul_eq_mul_left (Nat.pos_of_ne_zero h) (by rw [Nat.mul_one]; exact g)
theorem low_low (xs : List Int) : low (low xs) = low xs := by
  by_cases h : gl xs = 0
  · unfold low; simp [h]
  · exact low_one (gl_low h)
theorem low_le {xs : List Int} {y : Int} {k : Nat} (h : ∀ x ∈ xs, x.natAbs < k) (hy : y ∈ low xs) : y.natAbs < k := by
  unfold low at hy
  split at hy
  · exact h _ hy
  · obtain ⟨x, hx, rfl⟩ := List.mem_map.mp hy
    exact Nat.lt_of_le_of_lt (natAbs_ediv_le _ _) (h _ hx)
theorem low_length (xs : List Int) : (low xs).length = xs.length := by unfold low; split <;> simp
/-- the turns of a gcd loop -/
theorem gl_foldl : ∀ (xs : List Int) (g : Nat), xs.foldl (fun s n => Nat.gcd s n.natAbs) g = Nat.gcd g (gl xs)
  | [], g => by simp [gl]
  | x :: xs, g => by rw [List.foldl_cons, gl_foldl xs, gl, Nat.gcd_assoc]
end DL
namespace DL
open PySem PySem.Spec PyProof.Rows L2
/-! explicit lists -/
theorem atI_lit {α : Type} (xs : List α) (n : Nat) : L2.atI xs (no_index (OfNat.ofNat n : Int)) = xs[n]? := by
  show L2.atI xs (n : Int) = _
  cases h : xs[n]? with
  | some x => exact atI_at h
  | none =>
    have : xs.length ≤ n := by simpa using h
    unfold L2.atI L2.ixN
    rw [if_pos (by omega), if_neg (by omega)]; rfl
theorem atI_natc {α : Type} (xs : List α) (n : Nat) : L2.atI xs (n : Int) = xs[n]? := atI_lit xs n
theorem forO_eq {g : D → Ev → Option Ev} {B k : Kt} {ds : List D} {ρ : Ev} : forO (some ds) g B k ρ = (forL g B ds ρ).bind (joinK k) := rfl
theorem forL_nil' {g : D → Ev → Option Ev} {B : Kt} {ρ : Ev} : forL g B [] ρ = some (.nx ρ) := rfl
def nextF (g : D → Ev → Option Ev) (B : Kt) (ds : List D) : Out → Option Out
  | .nx ρ2 => forL g B ds ρ2
  | .ct ρ2 => forL g B ds ρ2
  | .bk ρ2 => some (.nx ρ2)
  | .rt d => some (.rt d)
  | .ro ds => some (.ro ds)
  | .rs x ρ => some (.rs x ρ)
  | .rtt t => some (.rtt t)
theorem forL_cons' {g : D → Ev → Option Ev} {B : Kt} {d : D} {ds : List D} {ρ : Ev} : forL g B (d :: ds) ρ = (g d ρ).bind fun ρ1 => (B ρ1).bind (nextF g B ds) := by
  show (g d ρ).bind _ = (g d ρ).bind _
  congr 1
  all_goals (funext ρ1; show (B ρ1).bind _ = (B ρ1).bind _; congr 1; funext o; cases o <;> rfl)
theorem nextF_nx {g : D → Ev → Option Ev} {B : Kt} {ds : List D} {ρ : Ev} : nextF g B ds (.nx ρ) = forL g B ds ρ := rfl
theorem nextF_rt {g : D → Ev → Option Ev} {B : Kt} {ds : List D} {d : D} : nextF g B ds (.rt d) = some (.rt d) := rfl
theorem compO_eq {ds : List D} {ow : List Nat} {g : D → Ev → Option Ev} {cond : Ev → Option Bool} {val : Ev → Option R} {ρ : Ev} (hl : ds.length ≤ 16777216) : compO (some ds) ow g cond val ρ = (compL (compG ow g cond val ρ) ds).map R.n := by
  show (if ds.length ≤ sizeLine then _ else none) = _
  rw [if_pos (show ds.length ≤ sizeLine from hl)]
theorem compL_nil' {g : D → Option (Option D)} : compL g [] = some [] := rfl
def compC (a : Option (Option D)) (b : Option (List D)) : Option (List D) := match a, b with
  | some (some v), some vs => some (v :: vs)
  | some none, some vs => some vs
  | _, _ => none
theorem compL_cons' {g : D → Option (Option D)} {d : D} {ds : List D} : compL g (d :: ds) = compC (g d) (compL g ds) := by
  show (match g d, compL g ds with
    | some (some v), some vs => some (v :: vs)
    | some none, some vs => some vs
    | _, _ => none) = _
  cases g d with
  | none => rfl
  | some o => cases o <;> cases compL g ds <;> rfl
theorem compC_some {v : D} {vs : List D} : compC (some (some v)) (some vs) = some (v :: vs) := rfl
theorem compC_none {vs : List D} : compC (some none) (some vs) = some vs := rfl
theorem compG_true {ow : List Nat} {g : D → Ev → Option Ev} {val : Ev → Option R} {ρ : Ev} {d : D} : compG ow g trueC val ρ d = (g d (wipeE ρ ow)).bind fun ρ2 => ((val ρ2).bind R.d).map some := rfl
theorem compG_eq {ow : List Nat} {g : D → Ev → Option Ev} {cond : Ev → Option Bool} {val : Ev → Option R} {ρ : Ev} {d : D} : compG ow g cond val ρ d = (g d (wipeE ρ ow)).bind fun ρ2 => ifR (cond ρ2) (((val ρ2).bind R.d).map some) (some none) := by
  show (g d (wipeE ρ ow)).bind _ = _
  congr 1
  all_goals (funext ρ2; cases cond ρ2 with
  | none => rfl
  | some b => cases b <;> rfl)
theorem gl_lt {k : Nat} {xs : List Int} (h : ∀ x ∈ xs, x.natAbs < k) (hk : 0 < k) : gl xs < k := by
  by_cases h0 : gl xs = 0
  · omega
  · have : ∃ x ∈ xs, x ≠ 0 := by
      refine Classical.byContradiction fun c => h0 (gl_zero.mpr fun x hx => Classical.byContradiction fun n => c ⟨x, hx, n⟩)
    obtain ⟨x, hx, hn⟩ := this
    have d := Int.natAbs_dvd_natAbs.mpr (gl_dvd hx)
    rw [Int.natAbs_natCast] at d
    have := Nat.le_of_dvd (by omega) d
    have := h x hx
    omega
end DL
namespace DL
open PySem PySem.Spec PyProof.Rows L2
@[simp] theorem parO_some (i j : Nat) (u v : D) (k : Kt) (ρ : Ev) : parO i j (some [u, v]) k ρ = k ((ρ.set i (.sh u)).set j (.sh v)) := rfl
theorem retV_at {i : Nat} {ρ : Ev} : retV i ρ = match ρ[i]? with
  | some (.ow ds) => some (.ro ds)
  | some (.sh d) => some (.rt d)
  | some (.ot t) => some (.rtt t)
  | _ => none := rfl
@[simp] theorem retV_sh {ρ : Ev} {d : D} : retV 0 (.sh d :: ρ) = some (.rt d) := rfl
@[simp] theorem retV_ow {ρ : Ev} {d : List D} : retV 0 (.ow d :: ρ) = some (.ro d) := rfl
@[simp] theorem retV_ot {ρ : Ev} {t : T} : retV 0 (.ot t :: ρ) = some (.rtt t) := rfl
@[simp] theorem retV_succ {ρ : Ev} {s : Sl} {i : Nat} : retV (i + 1) (s :: ρ) = retV i ρ := rfl
@[simp] theorem asgO_v (g : D → Ev → Option Ev) (d : D) (k : Kt) (ρ : Ev) : asgO g (some (.v d)) k ρ = (g d ρ).bind k := rfl
@[simp] theorem asgO_n (g : D → Ev → Option Ev) (d : List D) (k : Kt) (ρ : Ev) : asgO g (some (.n d)) k ρ = (g (.lst d) ρ).bind k := rfl
@[simp] theorem tupG_t (n : Nat) (h : List D → Ev → Option Ev) (ds : List D) (ρ : Ev) : tupG n h (.tup ds) ρ = if ds.length = n then h ds ρ else none := rfl
@[simp] theorem tupG_l (n : Nat) (h : List D → Ev → Option Ev) (ds : List D) (ρ : Ev) : tupG n h (.lst ds) ρ = if ds.length = n then h ds ρ else none := rfl
@[simp] theorem consG_c (g : D → Ev → Option Ev) (h : List D → Ev → Option Ev) (d : D) (ds : List D) (ρ : Ev) : consG g h (d :: ds) ρ = (g d ρ).bind (h ds) := rfl
@[simp] theorem nilG_n (ρ : Ev) : nilG [] ρ = some ρ := rfl
theorem shareO_eq (i : Nat) (k : Kt) (ρ : Ev) : shareO i k ρ = match ρ[i]? with
  | some (.ow ds) => k (ρ.set i (.sh (.lst ds)))
  | some (.ot t) => k (ρ.set i (.sh t.toD))
  | _ => k ρ := rfl
@[simp] theorem callX_some (F : List D → Option Res) (ds : List D) : callX F (some ds) = F ds := rfl
@[simp] theorem retX_sh (d : D) (ρ : Ev) : retX (some (.sh d)) ρ = some (.rt d) := rfl
@[simp] theorem retX_ow (d : List D) (ρ : Ev) : retX (some (.ow d)) ρ = some (.ro d) := rfl
@[simp] theorem retX_er (e : Exc) (ρ : Ev) : retX (some (.er e)) ρ = some (.rs e ρ) := rfl
@[simp] theorem setXS_sh (i : Nat) (d : D) (k : Kt) (ρ : Ev) : setXS i (some (.sh d)) k ρ = k (ρ.set i (.sh d)) := rfl
@[simp] theorem setXS_ow (i : Nat) (d : List D) (k : Kt) (ρ : Ev) : setXS i (some (.ow d)) k ρ = k (ρ.set i (.sh (.lst d))) := rfl
@[simp] theorem setXS_er (i : Nat) (e : Exc) (k : Kt) (ρ : Ev) : setXS i (some (.er e)) k ρ = some (.rs e ρ) := rfl
@[simp] theorem setXO_sh (i : Nat) (d : D) (k : Kt) (ρ : Ev) : setXO i (some (.sh d)) k ρ = k (ρ.set i (.sh d)) := rfl
@[simp] theorem setXO_ow (i : Nat) (d : List D) (k : Kt) (ρ : Ev) : setXO i (some (.ow d)) k ρ = k (ρ.set i (.ow d)) := rfl
@[simp] theorem setXO_er (i : Nat) (e : Exc) (k : Kt) (ρ : Ev) : setXO i (some (.er e)) k ρ = some (.rs e ρ) := rfl
@[simp] theorem exprX_sh (d : D) (k : Kt) (ρ : Ev) : exprX (some (.sh d)) k ρ = k ρ := rfl
@[simp] theorem exprX_ow (d : List D) (k : Kt) (ρ : Ev) : exprX (some (.ow d)) k ρ = k ρ := rfl
@[simp] theorem exprX_er (e : Exc) (k : Kt) (ρ : Ev) : exprX (some (.er e)) k ρ = some (.rs e ρ) := rfl
@[simp] theorem srcI_l (ds : List D) : srcI (.v (.lst ds)) = some ds := rfl
@[simp] theorem srcI_t (ds : List D) : srcI (.v (.tup ds)) = some ds := rfl
@[simp] theorem srcI_n (ds : List D) : srcI (.n ds) = some ds := rfl
@[simp] theorem srcJ_l (ds : List D) : srcJ (.v (.lst ds)) = some ds := rfl
@[simp] theorem srcJ_t (ds : List D) : srcJ (.v (.tup ds)) = some ds := rfl
@[simp] theorem srcJ_n (ds : List D) : srcJ (.n ds) = some ds := rfl
@[simp] theorem srcJ_r (ds : List D) : srcJ (.r ds) = some ds := rfl
/-- a comprehension over xs -/
theorem compO_mapI {α : Type} {u : α → D} {xs : List α} {ow : List Nat} {g : D → Ev → Option Ev} {val : Ev → Option R} {ρ : Ev} (f : α → D) (hl : xs.length ≤ 16777216) (h : ∀ x ∈ xs, compG ow g trueC val ρ (u x) = some (some (f x))) : compO (some (xs.map u)) ow g trueC val ρ = vN (xs.map f) := by
  rw [compO_eq (by simpa using hl)]
  have : compL (compG ow g trueC val ρ) (xs.map u) = some (xs.map f) := by
    induction xs with
    | nil => rfl
    | cons x xs ih =>
      rw [List.map_cons, compL_cons', h x (by simp), ih (by simpa using Nat.le_of_succ_le hl) fun y hy => h y (by simp [hy])]
      rfl
  rw [this]; rfl
/-- a comprehension with a test -/
theorem compO_filterI {α : Type} {u : α → D} {xs : List α} {ow : List Nat} {g : D → Ev → Option Ev} {cond : Ev → Option Bool} {val : Ev → Option R} {ρ : Ev} (p : α → Bool) (f : α → D) (hl : xs.length ≤ 16777216) (h : ∀ x ∈ xs, compG ow g cond val ρ (u x) = some (if p x = true then some (f x) else none)) : compO (some (xs.map u)) ow g cond val ρ = vN ((xs.filter p).map f) := by
  rw [compO_eq (by simpa using hl)]
  have : compL (compG ow g cond val ρ) (xs.map u) = some ((xs.filter p).map f) := by
    induction xs with
    | nil => rfl
    | cons x xs ih =>
      rw [List.map_cons, compL_cons', h x (by simp), ih (by simpa using Nat.le_of_succ_le hl) fun y hy => h y (by simp [hy])]
      by_cases c : p x = true
      · rw [if_pos c, List.filter_cons, if_pos c]; rfl
      · rw [if_neg c, List.filter_cons, if_neg c]; rfl
  rw [this]; rfl
end DL
namespace DL
open PySem PySem.Spec PyProof.Rows L2
@[simp] theorem in62_simp (i : Int) : in62 i = (i.natAbs < 4611686018427387904) := by unfold in62; exact propext (by constructor <;> intro h <;> omega)
theorem comp2O_eq {src : Option (List D)} {ow vs1 : List Nat} {g : D → Ev → Option Ev} {cond : Ev → Option Bool} {src1 : Ev → Option (List D)} {g1 : D → Ev → Option Ev} {cond1 : Ev → Option Bool} {val : Ev → Option R} {ρ : Ev} : comp2O src ow vs1 g cond src1 g1 cond1 val ρ = (src.bind (flatO (comp2G ow vs1 g cond src1 g1 cond1 val ρ))).bind fun es => if es.length ≤ 16777216 then vN es else none := rfl
theorem flatO_nil (f : D → Option (List D)) : flatO f [] = some [] := rfl
theorem flatO_cons (f : D → Option (List D)) (d : D) (ds : List D) : flatO f (d :: ds) = o2 (fun a b => some (a ++ b)) (f d) (flatO f ds) := rfl
theorem comp2G_true {ow vs1 : List Nat} {g : D → Ev → Option Ev} {src1 : Ev → Option (List D)} {g1 : D → Ev → Option Ev} {cond1 : Ev → Option Bool} {val : Ev → Option R} {ρ : Ev} {d : D} : comp2G ow vs1 g trueC src1 g1 cond1 val ρ d = (g d (wipeE ρ ow)).bind fun ρ2 => (src1 ρ2).bind fun es => compL (compG vs1 g1 cond1 val ρ2) es := rfl
theorem allR_bls {ds : List D} {bs : List Bool} (h : ds = bs.map D.bl) : allR (.n ds) = vB (bs.all id) := by
  subst h
  show (blsD _).map _ = _
  rw [blsD_map]; rfl
@[simp] theorem allR_nil : allR (.n []) = vB true := allR_bls (bs := []) rfl
@[simp] theorem allR_1 (a : Bool) : allR (.n [.bl a]) = vB a := (allR_bls (bs := [a]) rfl).trans (by simp)
@[simp] theorem allR_2 (a b : Bool) : allR (.n [.bl a, .bl b]) = vB (a && b) := (allR_bls (bs := [a, b]) rfl).trans (by simp)
@[simp] theorem allR_3 (a b c : Bool) : allR (.n [.bl a, .bl b, .bl c]) = vB (a && b && c) := (allR_bls (bs := [a, b, c]) rfl).trans (by simp [Bool.and_assoc])
@[simp] theorem allR_4 (a b c d : Bool) : allR (.n [.bl a, .bl b, .bl c, .bl d]) = vB (a && b && c && d) := (allR_bls (bs := [a, b, c, d]) rfl).trans (by simp [Bool.and_assoc])
end DL
namespace DL
open PySem PySem.Spec PyProof.Rows L2
/-- below 2 ^ 60 -/
class Bs (x : Int) : Prop where
  h : x.natAbs < 2 ^ 60
instance (priority := low) Bs.bd {x : Int} [b : Bs x] : Bd 60 x := ⟨b.h⟩
theorem Bs.of {x : Int} (h : x.natAbs < 1152921504606846976) : Bs x := ⟨h⟩
instance Bs.neg {x : Int} [b : Bs x] : Bs (-x) := ⟨by rw [Int.natAbs_neg]; exact b.h⟩
instance : Bs 0 := ⟨by decide⟩
instance : Bs 1 := ⟨by decide⟩
instance : Bs 2 := ⟨by decide⟩
instance : Bs 3 := ⟨by decide⟩
instance : Bs 4 := ⟨by decide⟩
instance : Bs 5 := ⟨by decide⟩
instance : Bs 6 := ⟨by decide⟩
instance : Bs 7 := ⟨by decide⟩
instance : Bs 8 := ⟨by decide⟩
instance : Bs 9 := ⟨by decide⟩
instance : Bs 10 := ⟨by decide⟩
instance : Bs 100 := ⟨by decide⟩
end DL
namespace DL
open PySem PySem.Spec PyProof.Rows L2
theorem lendO_eq (i : Nat) (f : Ev → Option R) (ρ : Ev) : lendO i f ρ = match ρ[i]? with
  | some (.ow ds) => (f (ρ.set i (.sh (.lst ds)))).bind flR
  | _ => f ρ := rfl
end DL

set_option linter.all false
set_option autoImplicit false
set_option maxRecDepth 100000
set_option maxHeartbeats 1000000
/-! repr of trees: when it is known -/
namespace DL
open PySem PySem.Spec PyProof.Rows L2
mutual
/-- a bound for the signs of repr -/
def cst : D → Nat
  | .non => 4
  | .bl _ => 5
  | .int _ => 1921
  | .str s => (reprText s).length
  | .tup ds => csts ds + 3
  | .lst ds => csts ds + 3
  | _ => 0
def csts : List D → Nat
  | [] => 0
  | d :: ds => cst d + 2 + csts ds
end
mutual
def sok : D → Prop
  | .non => True
  | .bl _ => True
  | .int i => i.natAbs.log2 < 1920
  | .str _ => True
  | .tup ds => soks ds
  | .lst ds => soks ds
  | _ => False
def soks : List D → Prop
  | [] => True
  | d :: ds => sok d ∧ soks ds
end
mutual
def dpt : D → Nat
  | .tup ds => dpts ds + 1
  | .lst ds => dpts ds + 1
  | _ => 0
def dpts : List D → Nat
  | [] => 0
  | d :: ds => max (dpt d) (dpts ds)
end
mutual
theorem sok_plain : ∀ {d : D}, sok d → plain d = true
  | .non, _ => rfl
  | .bl _, _ => rfl
  | .int _, _ => rfl
  | .str _, _ => rfl
  | .tup ds, h => by have := soks_plains (ds := ds) (by simpa [sok] using h); simpa [plain] using this
  | .lst ds, h => by have := soks_plains (ds := ds) (by simpa [sok] using h); simpa [plain] using this
  | .sc _, h => by simp [sok] at h
  | .ro _, h => by simp [sok] at h
  | .ins _ _, h => by simp [sok] at h
  | .dic _, h => by simp [sok] at h
  | .xo _ _ _, h => by simp [sok] at h
theorem soks_plains : ∀ {ds : List D}, soks ds → plains ds = true
  | [], _ => rfl
  | d :: ds, h => by have h : sok d ∧ soks ds := by simpa [soks] using h
                     simp [plains, sok_plain h.1, soks_plains h.2]
end
mutual
theorem sok_show : ∀ {d : D}, sok d → (py d).showable = true ∧ (py d).hasDict = false ∧ (py d).depth ≤ dpt d ∧ (py d).shown.length ≤ cst d
  | .non, _ => ⟨rfl, rfl, Nat.le_refl _, by decide +kernel⟩
  | .bl b, _ => ⟨rfl, rfl, Nat.le_refl _, by cases b <;> decide +kernel⟩
  | .int i, h => by
    have h : i.natAbs.log2 < 1920 := by simpa [sok] using h
    refine ⟨by simpa [py, PyData.showable] using h, rfl, Nat.le_refl _, ?_⟩
    exact int_text_len_1921 h
  | .str s, _ => ⟨rfl, rfl, Nat.le_refl _, by simp [py, PyData.shown, cst]⟩
  | .tup ds, h => by
    obtain ⟨h1, h2, h3, h4⟩ := soks_show (ds := ds) (by simpa [sok] using h)
    refine ⟨by simpa [py, PyData.showable] using h1, by simpa [py, PyData.hasDict] using h2, by simp only [py, PyData.depth, dpt]; omega, ?_⟩
    have := tupleText_len_le (PyData.shownAll (pys ds))
    simp only [py, PyData.shown, cst]
    omega
  | .lst ds, h => by
    obtain ⟨h1, h2, h3, h4⟩ := soks_show (ds := ds) (by simpa [sok] using h)
    refine ⟨by simpa [py, PyData.showable] using h1, by simpa [py, PyData.hasDict] using h2, by simp only [py, PyData.depth, dpt]; omega, ?_⟩
    have := listText_len_le (PyData.shownAll (pys ds))
    simp only [py, PyData.shown, cst]
    omega
  | .sc _, h => by simp [sok] at h
  | .ro _, h => by simp [sok] at h
  | .ins _ _, h => by simp [sok] at h
  | .dic _, h => by simp [sok] at h
  | .xo _ _ _, h => by simp [sok] at h
theorem soks_show : ∀ {ds : List D}, soks ds → PyData.showableAll (pys ds) = true ∧ PyData.hasDictAll (pys ds) = false ∧ PyData.depthAll (pys ds) ≤ dpts ds ∧ ((PyData.shownAll (pys ds)).map (·.length)).sum + 2 * (PyData.shownAll (pys ds)).length ≤ csts ds
  | [], _ => ⟨rfl, rfl, Nat.le_refl _, Nat.le_refl _⟩
  | d :: ds, h => by
    have h : sok d ∧ soks ds := by simpa [soks] using h
    obtain ⟨a1, a2, a3, a4⟩ := sok_show h.1
    obtain ⟨b1, b2, b3, b4⟩ := soks_show h.2
    refine ⟨by simp [pys, PyData.showableAll, a1, b1], by simp [pys, PyData.hasDictAll, a2, b2], by simp only [pys, PyData.depthAll, dpts]; omega, ?_⟩
    simp only [pys, PyData.shownAll, List.map_cons, List.sum_cons, List.length_cons, csts]
    omega
end
theorem repr_v {d : D} (h : sok d) (h2 : dpt d ≤ 64) (h3 : cst d ≤ 16777216) : reprR (.v d) = vS (py d).shown := by
  obtain ⟨a1, a2, a3, a4⟩ := sok_show h
  show (if plain d = true then some (py d) else none).bind (fun z => if shows z = true then vS z.shown else none) = _
  rw [if_pos (sok_plain h)]
  show (if shows (py d) = true then _ else none) = _
  rw [if_pos]
  simp only [shows, a1, a2, Bool.not_false, Bool.and_true, Bool.true_and, Bool.and_eq_true, decide_eq_true_eq]
  exact ⟨by omega, show _ ≤ 16777216 by omega⟩
theorem repr_n (ds : List D) : reprR (.n ds) = reprR (.v (.lst ds)) := by
  unfold reprR R.p
  rfl
theorem repr_r (ds : List D) : reprR (.r ds) = reprR (.v (.lst ds)) := by
  unfold reprR R.p
  rfl
theorem bd_sok {k : Nat} {i : Int} [b : Bd k i] (h : k < 1920) : sok (.int i) := by
  have := b.log
  show sok (.int i)
  unfold sok
  omega
/-! equality of trees -/
mutual
theorem dpt_eq : ∀ {d : D}, plain d = true → (py d).depth = dpt d
  | .non, _ => rfl
  | .bl _, _ => rfl
  | .int _, _ => rfl
  | .str _, _ => rfl
  | .tup ds, h => by have := dpts_eq (ds := ds) (by simpa [plain] using h); simp [py, PyData.depth, dpt, this]
  | .lst ds, h => by have := dpts_eq (ds := ds) (by simpa [plain] using h); simp [py, PyData.depth, dpt, this]
theorem dpts_eq : ∀ {ds : List D}, plains ds = true → PyData.depthAll (pys ds) = dpts ds
  | [], _ => rfl
  | d :: ds, h => by
    have h : plain d = true ∧ plains ds = true := by simpa [plains] using h
    simp [pys, PyData.depthAll, dpts, dpt_eq h.1, dpts_eq h.2]
end
/-- texts of good signs only -/
def cl0 (d : D) : Bool := (py d).canLay0
theorem shaped_v {d : D} (h : plain d = true) (h2 : dpt d ≤ 64) (h3 : cl0 d = true) : SeqAt.shaped (py d) = true := by
  simp [SeqAt.shaped, dpt_eq h, h2, show (py d).canLay0 = true from h3]
def cl0s (ds : List D) : Bool := PyData.canLayAll0 (pys ds)
@[simp] theorem cl0_int (i : Int) : cl0 (.int i) = true := rfl
@[simp] theorem cl0_bl (i : Bool) : cl0 (.bl i) = true := rfl
@[simp] theorem cl0_non : cl0 .non = true := rfl
@[simp] theorem cl0_tup (ds : List D) : cl0 (.tup ds) = cl0s ds := by simp [cl0, py, PyData.canLay0, cl0s]
@[simp] theorem cl0_lst (ds : List D) : cl0 (.lst ds) = cl0s ds := by simp [cl0, py, PyData.canLay0, cl0s]
@[simp] theorem cl0s_nil : cl0s [] = true := rfl
@[simp] theorem cl0s_cons (d : D) (ds : List D) : cl0s (d :: ds) = (cl0 d && cl0s ds) := by simp [cl0s, cl0, pys, PyData.canLayAll0]
theorem cl0s_all {ds : List D} : cl0s ds = ds.all cl0 := by induction ds with
  | nil => rfl
  | cons d ds ih => rw [cl0s_cons, ih, List.all_cons]
mutual
theorem eqv_refl : ∀ {d : D}, plain d = true → PyData.eqv (py d) (py d) = true
  | .non, _ => rfl
  | .bl b, _ => by simp [py, PyData.eqv]
  | .int b, _ => by simp [py, PyData.eqv]
  | .str b, _ => by simp [py, PyData.eqv]
  | .tup ds, h => by have := eqvs_refl (ds := ds) (by simpa [plain] using h); simpa [py, PyData.eqv] using this
  | .lst ds, h => by have := eqvs_refl (ds := ds) (by simpa [plain] using h); simpa [py, PyData.eqv] using this
theorem eqvs_refl : ∀ {ds : List D}, plains ds = true → PyData.eqvAll (pys ds) (pys ds) = true
  | [], _ => rfl
  | d :: ds, h => by
    have h : plain d = true ∧ plains ds = true := by simpa [plains] using h
    simp [pys, PyData.eqvAll, eqv_refl h.1, eqvs_refl h.2]
end
/-- no truth values within -/
def nb : D → Bool
  | .non => true
  | .int _ => true
  | .str _ => true
  | .tup ds => nbs ds
  | .lst ds => nbs ds
  | _ => false
where nbs : List D → Bool
  | [] => true
  | d :: ds => nb d && nbs ds
mutual
theorem eqv_nb : ∀ {d e : D}, nb d = true → nb e = true → (PyData.eqv (py d) (py e) = true ↔ d = e)
  | .non, e, _, h => by cases e <;> simp [nb] at h <;> simp [py, PyData.eqv]
  | .int i, e, _, h => by cases e <;> simp [nb] at h <;> simp [py, PyData.eqv]
  | .str i, e, _, h => by cases e <;> simp [nb] at h <;> simp [py, PyData.eqv]
  | .tup ds, e, h1, h => by
    cases e <;> first | (simp [nb] at h; done) | (simp [py, PyData.eqv]; done) | skip
    rename_i es
    have := eqvs_nb (ds := ds) (es := es) (by simpa [nb] using h1) (by simpa [nb] using h)
    simpa [py, PyData.eqv] using this
  | .lst ds, e, h1, h => by
    cases e <;> first | (simp [nb] at h; done) | (simp [py, PyData.eqv]; done) | skip
    rename_i es
    have := eqvs_nb (ds := ds) (es := es) (by simpa [nb] using h1) (by simpa [nb] using h)
    simpa [py, PyData.eqv] using this
theorem eqvs_nb : ∀ {ds es : List D}, nb.nbs ds = true → nb.nbs es = true → (PyData.eqvAll (pys ds) (pys es) = true ↔ ds = es)
  | [], [], _, _ => by simp [pys, PyData.eqvAll]
  | [], e :: es, _, _ => by simp [pys, PyData.eqvAll]
  | d :: ds, [], _, _ => by simp [pys, PyData.eqvAll]
  | d :: ds, e :: es, h1, h2 => by
    have h1 : nb d = true ∧ nb.nbs ds = true := by simpa [nb.nbs] using h1
    have h2 : nb e = true ∧ nb.nbs es = true := by simpa [nb.nbs] using h2
    simp [pys, PyData.eqvAll, eqv_nb h1.1 h2.1, eqvs_nb h1.2 h2.2]
end
/-- the tree of what is compared -/
def R.tr : R → Option D
  | .v d => if plain d then some d else none
  | .n ds => if plains ds then some (.lst ds) else none
  | .r ds => if plains ds then some (.lst ds) else none
theorem R.tr_p {x : R} {d : D} (h : x.tr = some d) : x.p = some (py d) ∧ plain d = true := by
  have key : ∀ {b : Bool} {e : D} {z : PyData}, (if b = true then some e else none) = some d → (b = true → z = py e ∧ plain e = true) → (if b = true then some z else none) = some (py d) ∧ plain d = true := fun {b e z} h1 h2 => by
    cases b with
    | false => cases h1
    | true => cases h1; exact ⟨by rw [(h2 rfl).1]; rfl, (h2 rfl).2⟩
  cases x with
  | v e => exact key (show (if plain e = true then some e else none) = some d from h) fun c => ⟨rfl, c⟩
  | n e => exact key (show (if plains e = true then some (D.lst e) else none) = some d from h) fun c => ⟨by simp [py], by simpa [plain] using c⟩
  | r e => exact key (show (if plains e = true then some (D.lst e) else none) = some d from h) fun c => ⟨by simp [py], by simpa [plain] using c⟩
theorem eqR_tr {x y : R} {d e : D} (hx : x.tr = some d) (hy : y.tr = some e) (h1 : dpt d ≤ 64) (h2 : dpt e ≤ 64) (l1 : cl0 d = true) (l2 : cl0 e = true) : eqR x y = some (PyData.eqv (py d) (py e)) := by
  obtain ⟨a1, a2⟩ := R.tr_p hx
  obtain ⟨b1, b2⟩ := R.tr_p hy
  have s1 := shaped_v a2 h1 l1
  have s2 := shaped_v b2 h2 l2
  unfold eqR
  split
  · cases hx; cases hy
    simp [py, PyData.eqv, Bool.beq_eq_decide_eq, dec_int]
  · cases hx; cases hy
    rename_i s t
    simp only [py, PyData.eqv]
    by_cases h : s = t <;> simp [h]
  · cases hx; cases hy
    rename_i s t
    cases s <;> cases t <;> rfl
  · rw [a1, b1, o2_some, if_pos ⟨s1, s2⟩]
theorem eqR_same {x y : R} {d : D} (hx : x.tr = some d) (hy : y.tr = some d) (h1 : dpt d ≤ 64) (l1 : cl0 d = true) : eqR x y = some true := by
  rw [eqR_tr hx hy h1 h1 l1 l1, eqv_refl (R.tr_p hx).2]
theorem neR_same {x y : R} {d : D} (hx : x.tr = some d) (hy : y.tr = some d) (h1 : dpt d ≤ 64) (l1 : cl0 d = true) : neR x y = some false := by
  unfold neR; rw [eqR_same hx hy h1 l1]; rfl
theorem eqR_nb {x y : R} {d e : D} (hx : x.tr = some d) (hy : y.tr = some e) (h1 : dpt d ≤ 64) (h2 : dpt e ≤ 64) (l1 : cl0 d = true) (l2 : cl0 e = true) (n1 : nb d = true) (n2 : nb e = true) : eqR x y = some (eqD d e) := by
  rw [eqR_tr hx hy h1 h2 l1 l2]
  congr 1
  have := eqv_nb n1 n2
  rw [← eqD_iff] at this
  exact Bool.eq_iff_iff.mpr this
theorem neR_nb {x y : R} {d e : D} (hx : x.tr = some d) (hy : y.tr = some e) (h1 : dpt d ≤ 64) (h2 : dpt e ≤ 64) (l1 : cl0 d = true) (l2 : cl0 e = true) (n1 : nb d = true) (n2 : nb e = true) : neR x y = some (!eqD d e) := by
  unfold neR; rw [eqR_nb hx hy h1 h2 l1 l2 n1 n2]; rfl
@[simp] theorem R.tr_v {d : D} (h : plain d = true) : R.tr (.v d) = some d := if_pos h
@[simp] theorem R.tr_n {d : List D} (h : plains d = true) : R.tr (.n d) = some (.lst d) := if_pos h
@[simp] theorem R.tr_r {d : List D} (h : plains d = true) : R.tr (.r d) = some (.lst d) := if_pos h
/-- None in a list -/
theorem in2_non {x : R} {ds : List D} (hx : x.tr = some (.lst ds)) (h1 : dpts ds ≤ 63) (l1 : cl0s ds = true) (hf : ds.all fl = false) : in2R (.v .non) x = some (ds.any isN) := by
  obtain ⟨a1, a2⟩ := R.tr_p hx
  have hb : x.b = some ds := by
    cases x with
    | v e => simp only [R.tr] at hx; split at hx <;> cases hx; rfl
    | n e => simp only [R.tr] at hx; split at hx <;> cases hx; rfl
    | r e => simp only [R.tr] at hx; split at hx <;> cases hx; rfl
  have e1 : inR (.v .non) x = none := by
    have : inR (.v .non) x = x.b.bind fun ds => if fl .non = true ∧ ds.all fl = true then some (isIn .non ds) else none := by
      cases x <;> rfl
    rw [this, hb]
    show (if _ then _ else none) = none
    rw [if_neg (by rw [hf]; simp)]
  have s1 := shaped_v a2 (by simp only [dpt]; omega) (by simpa using l1)
  unfold in2R
  rw [e1]
  show inDR (.v .non) x = _
  unfold inDR
  rw [a1]
  show (if SeqAt.shaped .none = true ∧ SeqAt.shaped (.list (pys ds)) = true then some ((pys ds).any fun z => PyData.eqv z .none) else none) = _
  rw [if_pos ⟨rfl, s1⟩]
  congr 1
  have hp : plains ds = true := by simpa [plain] using a2
  clear hb e1 s1 a1 a2 hx hf h1 l1
  induction ds with
  | nil => rfl
  | cons d ds ih =>
    have hp : plain d = true ∧ plains ds = true := by simpa [plains] using hp
    rw [pys, List.any_cons, List.any_cons, ih hp.2]
    congr 1
    cases d <;> first | rfl | (simp [plain] at hp; done)
theorem in2_flat {x : R} {d : D} {ds : List D} (hx : x.b = some ds) (h1 : fl d = true) (hf : ds.all fl = true) : inR (.v d) x = some (isIn d ds) ∨ ∃ s, d = .str s := by
  cases d <;> first | (right; exact ⟨_, rfl⟩) | (left; cases x <;> (unfold inR; simp only [hx, Option.bind_some]; rw [if_pos ⟨h1, hf⟩]))
theorem isIn_non : ∀ {ds : List D}, ds.all fl = true → isIn .non ds = ds.any isN
  | [], _ => rfl
  | d :: ds, h => by
    have h : fl d = true ∧ ds.all fl = true := by simpa using h
    have ih := isIn_non h.2
    have e : eqV (fv d) .non = isN d := by
      obtain ⟨h1, _⟩ := h
      cases d <;> first | rfl | (simp [fl] at h1; done)
    show (eqV (fv d) .non || isIn .non ds) = _
    rw [e, ih, List.any_cons]
theorem in_non {x : R} {ds : List D} (hx : x.tr = some (.lst ds)) (h1 : dpts ds ≤ 63) (l1 : cl0s ds = true) : in2R (.v .non) x = some (ds.any isN) := by
  by_cases hf : ds.all fl = true
  · have hb : x.b = some ds := by
      cases x with
      | v e => simp only [R.tr] at hx; split at hx <;> cases hx; rfl
      | n e => simp only [R.tr] at hx; split at hx <;> cases hx; rfl
      | r e => simp only [R.tr] at hx; split at hx <;> cases hx; rfl
    have e1 : inR (.v .non) x = some (isIn .non ds) := by
      have : inR (.v .non) x = x.b.bind fun ds => if fl .non = true ∧ ds.all fl = true then some (isIn .non ds) else none := by
        cases x <;> rfl
      rw [this, hb]
      show (if _ then _ else none) = _
      rw [if_pos ⟨rfl, hf⟩]
    unfold in2R
    rw [e1, isIn_non hf]; rfl
  · exact in2_non hx h1 l1 (by simpa using hf)
theorem dpts_iD (xs : List Int) : dpts (iD xs) = 0 := by
  induction xs with
  | nil => rfl
  | cons x xs ih => show dpts (.int x :: iD xs) = 0; rw [dpts, ih]; rfl
theorem cl0s_iD (xs : List Int) : cl0s (iD xs) = true := by
  induction xs with
  | nil => rfl
  | cons x xs ih => show cl0s (.int x :: iD xs) = true; rw [cl0s_cons, ih]; rfl
theorem nbs_iD (xs : List Int) : nb.nbs (iD xs) = true := by
  induction xs with
  | nil => rfl
  | cons x xs ih => show nb.nbs (.int x :: iD xs) = true; rw [nb.nbs, ih]; rfl
theorem eqR_tI (xs ys : List Int) : eqR (.v (.tup (iD xs))) (.v (.tup (iD ys))) = some (eqD (.tup (iD xs)) (.tup (iD ys))) :=
  eqR_nb (R.tr_v (by simp [plain, plains_ints])) (R.tr_v (by simp [plain, plains_ints])) (by rw [dpt, dpts_iD]; decide) (by rw [dpt, dpts_iD]; decide) (by rw [cl0_tup, cl0s_iD]) (by rw [cl0_tup, cl0s_iD]) (by rw [nb, nbs_iD]) (by rw [nb, nbs_iD])
theorem eqR_lI {x y : R} {xs ys : List Int} (hx : x.tr = some (.lst (iD xs))) (hy : y.tr = some (.lst (iD ys))) : eqR x y = some (decide (xs = ys)) := by
  rw [eqR_nb hx hy (by rw [dpt, dpts_iD]; decide) (by rw [dpt, dpts_iD]; decide) (by rw [cl0_lst, cl0s_iD]) (by rw [cl0_lst, cl0s_iD]) (by rw [nb, nbs_iD]) (by rw [nb, nbs_iD])]
  congr 1
  refine eqD_of ?_
  rw [decide_eq_true_iff]
  constructor
  · intro h
    injection h with h
    exact (List.map_inj_right (fun a b h => by injection h)).mp h
  · rintro rfl; rfl
theorem tr_nI (xs : List Int) : R.tr (.n (iD xs)) = some (.lst (iD xs)) := R.tr_n (plains_ints xs)
theorem tr_vI (xs : List Int) : R.tr (.v (.lst (iD xs))) = some (.lst (iD xs)) := R.tr_v (by simp [plain, plains_ints])
theorem tr_rI (xs : List Int) : R.tr (.r (iD xs)) = some (.lst (iD xs)) := R.tr_r (plains_ints xs)
end DL

set_option linter.all false
set_option autoImplicit false
set_option exponentiation.threshold 5000
set_option maxRecDepth 100000
/-! wider bounds -/
namespace DL
open PySem PySem.Spec PyProof.Rows L2
/-- below 2 ^ 400 -/
class Bw (x : Int) : Prop where
  h : x.natAbs < 2 ^ 400
instance (priority := low) Bw.bd {x : Int} [b : Bw x] : Bd 400 x := ⟨b.h⟩
theorem Bw.of {x : Int} (h : x.natAbs < 1152921504606846976) : Bw x := ⟨Nat.lt_of_lt_of_le h (by decide)⟩
theorem Bw.le {x : Int} {k : Nat} (h : x.natAbs < 2 ^ k) (hk : k ≤ 400) : Bw x := ⟨Nat.lt_of_lt_of_le h (Nat.pow_le_pow_right (by decide) hk)⟩
instance Bw.neg {x : Int} [b : Bw x] : Bw (-x) := ⟨by rw [Int.natAbs_neg]; exact b.h⟩
instance : Bw 0 := .of (by decide)
instance : Bw 1 := .of (by decide)
instance : Bw 2 := .of (by decide)
instance : Bw 3 := .of (by decide)
instance : Bd 0 (0 : Int) := ⟨by decide⟩
instance : Bd 1 (1 : Int) := ⟨by decide⟩
instance : Bd 2 (2 : Int) := ⟨by decide⟩
instance : Bd 3 (3 : Int) := ⟨by decide⟩
instance : Bd 4 (4 : Int) := ⟨by decide⟩
instance : Bd 5 (5 : Int) := ⟨by decide⟩
instance : Bd 6 (6 : Int) := ⟨by decide⟩
instance : Bd 7 (7 : Int) := ⟨by decide⟩
instance : Bd 8 (8 : Int) := ⟨by decide⟩
instance : Bd 9 (9 : Int) := ⟨by decide⟩
instance : Bd 10 (10 : Int) := ⟨by decide⟩
instance : Bd 11 (11 : Int) := ⟨by decide⟩
instance : Bd 12 (12 : Int) := ⟨by decide⟩
instance : Bd 13 (13 : Int) := ⟨by decide⟩
instance : Bd 14 (14 : Int) := ⟨by decide⟩
instance : Bd 15 (15 : Int) := ⟨by decide⟩
instance : Bd 16 (16 : Int) := ⟨by decide⟩
instance : Bd 17 (17 : Int) := ⟨by decide⟩
instance : Bd 18 (18 : Int) := ⟨by decide⟩
instance : Bd 19 (19 : Int) := ⟨by decide⟩
instance : Bd 20 (20 : Int) := ⟨by decide⟩
end DL

set_option linter.all false
set_option autoImplicit false
/-! bits of naturals -/
namespace DL
open PySem PySem.Spec PyProof.Rows L2
theorem xor_two_and : ∀ a b : Nat, (a ^^^ b) + 2 * (a &&& b) = a + b := by
  intro a
  induction a using Nat.strongRecOn with
  | ind a ih =>
    intro b
    by_cases h : a = 0
    · subst h; simp
    · have h1 := ih (a / 2) (by omega) (b / 2)
      have x1 : (a ^^^ b) / 2 = a / 2 ^^^ b / 2 := Nat.xor_div_two
      have x2 : (a &&& b) / 2 = a / 2 &&& b / 2 := Nat.and_div_two
      have y1 := @Nat.xor_mod_two_eq_one a b
      have y2 := @Nat.and_mod_two_eq_one a b
      rw [← x1, ← x2] at h1
      generalize (a ^^^ b) = X at *
      generalize (a &&& b) = Y at *
      clear x1 x2 ih
      have p1 := Nat.mod_two_eq_zero_or_one X
      have p2 := Nat.mod_two_eq_zero_or_one Y
      rcases Nat.mod_two_eq_zero_or_one a with q1 | q1 <;> rcases Nat.mod_two_eq_zero_or_one b with q2 | q2 <;> simp only [q1, q2] at y1 y2 <;> simp at y1 y2 <;> omega
theorem bitAnd_nat (a b : Nat) : Builtin.bitAnd (a : Int) (b : Int) = ((a &&& b : Nat) : Int) := by
  simp [Builtin.bitAnd]
theorem bitXor_nat (a b : Nat) : Builtin.bitXor (a : Int) (b : Int) = ((a ^^^ b : Nat) : Int) := by
  have h := bitXor_and (a : Int) (b : Int)
  rw [bitAnd_nat] at h
  have := xor_two_and a b
  omega
theorem bitXor_lt {x y : Int} {k : Nat} (h0 : 0 ≤ x) (h1 : 0 ≤ y) (hx : x < 2 ^ k) (hy : y < 2 ^ k) : 0 ≤ Builtin.bitXor x y ∧ Builtin.bitXor x y < 2 ^ k := by
  obtain ⟨a, rfl⟩ := Int.eq_ofNat_of_zero_le h0
  obtain ⟨b, rfl⟩ := Int.eq_ofNat_of_zero_le h1
  rw [bitXor_nat]
  have e : ((2 : Int) ^ k) = ((2 ^ k : Nat) : Int) := by simp
  rw [e] at hx hy ⊢
  have := Nat.xor_lt_two_pow (x := a) (y := b) (n := k) (by omega) (by omega)
  omega
end DL
namespace DL
open PySem PySem.Spec PyProof.Rows L2
theorem isIn_ints (q : Int) : ∀ xs : List Int, isIn (.int q) (iD xs) = decide (q ∈ xs)
  | [] => rfl
  | x :: xs => by
    have ih := isIn_ints q xs
    show (eqV (.int x) (.int q) || isIn (.int q) (iD xs)) = _
    rw [ih]
    by_cases h : q = x
    · subst h; simp [eqV]
    · have h' : ¬ x = q := fun z => h z.symm
      simp [eqV, h, h']
theorem in2_ints {x : R} {xs : List Int} (q : Int) (hx : x.b = some (iD xs)) : in2R (.v (.int q)) x = some (decide (q ∈ xs)) := by
  have hf : (iD xs).all fl = true := by
    rw [List.all_eq_true]; intro d hd
    obtain ⟨i, _, rfl⟩ := List.mem_map.mp hd; rfl
  have : inR (.v (.int q)) x = x.b.bind fun ds => if fl (.int q) = true ∧ ds.all fl = true then some (isIn (.int q) ds) else none := by
    cases x <;> rfl
  unfold in2R
  rw [this, hx]
  show ((if _ then _ else none : Option Bool).or _) = _
  rw [if_pos ⟨rfl, hf⟩, isIn_ints]; rfl
end DL

set_option linter.all false
set_option autoImplicit false
set_option maxRecDepth 100000
/-! lengths of lists by instance; sums, slices and repetitions of lists -/
namespace DL
open PySem PySem.Spec PyProof.Rows L2
class Ln {α : Type} (k : outParam Nat) (ds : List α) : Prop where
  h : ds.length ≤ k
section
variable {α β : Type}
instance Ln.nil : Ln 0 ([] : List α) := ⟨Nat.le_refl _⟩
instance Ln.cons {k : Nat} {d : α} {ds : List α} [a : Ln k ds] : Ln (k + 1) (d :: ds) := ⟨by have := a.h; simp; omega⟩
instance Ln.app {j k : Nat} {a b : List α} [x : Ln j a] [y : Ln k b] : Ln (j + k) (a ++ b) := ⟨by have := x.h; have := y.h; simp; omega⟩
instance Ln.map {k : Nat} {f : α → β} {a : List α} [x : Ln k a] : Ln k (a.map f) := ⟨by have := x.h; simp; omega⟩
instance Ln.rev {k : Nat} {a : List α} [x : Ln k a] : Ln k a.reverse := ⟨by have := x.h; simp; omega⟩
instance Ln.take {k n : Nat} {a : List α} [x : Ln k a] : Ln k (a.take n) := ⟨by have := x.h; simp; omega⟩
instance Ln.drop {k n : Nat} {a : List α} [x : Ln k a] : Ln k (a.drop n) := ⟨by have := x.h; simp; omega⟩
instance Ln.cut {k : Nat} {a : List α} {l u : Option Int} [x : Ln k a] : Ln k (cut a l u) := ⟨by have := x.h; unfold DL.cut; simp; omega⟩
instance Ln.set {k n : Nat} {a : List α} {d : α} [x : Ln k a] : Ln k (a.set n d) := ⟨by have := x.h; simp; omega⟩
end
@[simp] theorem addLn_nn {j k : Nat} {a b : List D} [x : Ln j a] [y : Ln k b] (h : j + k ≤ 16777216) : addR (.n a) (.n b) = vN (a ++ b) := by
  have := x.h; have := y.h
  rw [addR_nn, if_pos (by omega)]
@[simp] theorem addLn_ln {j k : Nat} {a b : List D} [x : Ln j a] [y : Ln k b] (h : j + k ≤ 16777216) : addR (.v (.lst a)) (.n b) = vN (a ++ b) := by
  have := x.h; have := y.h
  rw [addR_ln, if_pos (by omega)]
@[simp] theorem addLn_nl {j k : Nat} {a b : List D} [x : Ln j a] [y : Ln k b] (h : j + k ≤ 16777216) : addR (.n a) (.v (.lst b)) = vN (a ++ b) := by
  have := x.h; have := y.h
  rw [addR_nl, if_pos (by omega)]
@[simp] theorem addLn_ll {j k : Nat} {a b : List D} [x : Ln j a] [y : Ln k b] (h : j + k ≤ 16777216) : addR (.v (.lst a)) (.v (.lst b)) = vN (a ++ b) := by
  have := x.h; have := y.h
  rw [addR_ll, if_pos (by omega)]
@[simp] theorem addLn_rn {j k : Nat} {a b : List D} [x : Ln j a] [y : Ln k b] (h : j + k ≤ 16777216) : addR (.r a) (.n b) = vN (a ++ b) := by
  have := x.h; have := y.h
  rw [addR_rn, if_pos (by omega)]
theorem addR_rl (i j : List D) : addR (.r i) (.v (.lst j)) = if i.length + j.length ≤ 16777216 then vN (i ++ j) else none := rfl
@[simp] theorem addLn_rl {j k : Nat} {a b : List D} [x : Ln j a] [y : Ln k b] (h : j + k ≤ 16777216) : addR (.r a) (.v (.lst b)) = vN (a ++ b) := by
  have := x.h; have := y.h
  rw [addR_rl, if_pos (by omega)]
theorem flat_one {α : Type} (n : Nat) (d : α) : (List.replicate n [d]).flatten = List.replicate n d := by
  induction n with
  | zero => rfl
  | succ n ih => rw [List.replicate_succ, List.flatten_cons, ih]; rfl
/-- [d] * j -/
theorem rep_one {d : D} {j : Int} (h : j ≤ 16777216) (h2 : -16777216 ≤ j) : mulR (.n [d]) (.v (.int j)) = vN (List.replicate j.toNat d) := by
  show (if j.natAbs < 9223372036854775808 ∧ [d].length * j.toNat ≤ sizeLine then vN (List.replicate j.toNat [d]).flatten else none) = _
  rw [if_pos ⟨by omega, by show 1 * j.toNat ≤ 16777216; omega⟩, flat_one]
/-- all members have p -/
theorem all_cut {α : Type} {p : α → Bool} {a : List α} (h : a.all p = true) (l u : Option Int) : (cut a l u).all p = true := by
  rw [List.all_eq_true] at *
  intro x hx
  exact h x (List.mem_of_mem_drop (List.mem_of_mem_take hx))
example (a : List D) [Ln 100 a] (d : D) : addR (.n (cut a none (some 3))) (.n [d]) = vN (cut a none (some 3) ++ [d]) := by simp
end DL
namespace DL
open PySem PySem.Spec PyProof.Rows L2
/-- range(i, j, l), l > 0 -/
theorem rng3_up {i j l : Int} (h0 : 0 ≤ i) (h1 : i ≤ 1000000) (h2 : 0 ≤ j) (h3 : j ≤ 1000000) (h4 : 0 < l) (h5 : l ≤ 1000000) : ∃ n : Nat, rng3R (some (.v (.int i))) (some (.v (.int j))) (some (.v (.int l))) = some (iD (rngC i l n)) ∧ (∀ k : Nat, k < n ↔ i + k * l < j) ∧ n ≤ 1000000 := by
  have rs : Builtin.Range.rangeSize i j l = if i < j then (j - i - 1) / l + 1 else 0 := by
    unfold Builtin.Range.rangeSize
    rw [if_pos h4]
  have ge : 0 ≤ Builtin.Range.rangeSize i j l := by
    rw [rs]; split
    · have := Int.ediv_nonneg (show 0 ≤ j - i - 1 by omega) (show 0 ≤ l by omega); omega
    · omega
  have sm : Builtin.Range.small i j l = true := by
    unfold Builtin.Range.small
    rw [rs]
    have : (if i < j then (j - i - 1) / l + 1 else 0) ≤ 1000001 := by
      split
      · have := Int.ediv_le_self (a := j - i - 1) l (by omega)
        omega
      · omega
    have fl : ∀ x : Int, -1000000000 ≤ x → x ≤ 1000000000 → Builtin.Range.rangeFitsLong x = true := fun x a b => by
      unfold Builtin.Range.rangeFitsLong
      simp; omega
    have nn : 0 ≤ (if i < j then (j - i - 1) / l + 1 else 0) := by rw [← rs]; exact ge
    simp only [fl i (by omega) (by omega), fl j (by omega) (by omega), fl l (by omega) (by omega), fl _ (show (-1000000000 : Int) ≤ (if i < j then (j - i - 1) / l + 1 else 0) by omega) (by omega), h4, if_true, fl (j + (l - 1)) (by omega) (by omega)]
    simp
  refine ⟨(Builtin.Range.rangeSize i j l).toNat, ?_, fun k => ?_, ?_⟩
  · unfold rng3R
    dsimp only
    rw [if_pos ⟨by omega, by omega, sm, ge⟩]
  · rw [rs]
    split
    · have e := Int.mul_ediv_add_emod (j - i - 1) l
      have a := Int.emod_nonneg (j - i - 1) (show l ≠ 0 by omega)
      have b := Int.emod_lt_of_pos (j - i - 1) h4
      have c := Int.ediv_nonneg (show 0 ≤ j - i - 1 by omega) (show 0 ≤ l by omega)
      generalize (j - i - 1) / l = q at *
      generalize (j - i - 1) % l = r at *
      constructor
      · intro hk
        have hk : (k : Int) ≤ q := by omega
        have := Int.mul_le_mul_of_nonneg_right hk (show 0 ≤ l by omega)
        have e2 : l * q = q * l := Int.mul_comm _ _
        omega
      · intro hk
        have : (k : Int) ≤ q := by
          refine Int.not_lt.mp fun z => ?_
          have := Int.mul_le_mul_of_nonneg_right (show q + 1 ≤ (k : Int) by omega) (show 0 ≤ l by omega)
          rw [Int.add_mul, Int.one_mul] at this
          have e2 : l * q = q * l := Int.mul_comm _ _
          omega
        omega
    · constructor
      · intro hk; omega
      · intro hk
        have := Int.mul_nonneg (show (0 : Int) ≤ k by omega) (show 0 ≤ l by omega)
        omega
  · rw [rs]
    split
    · have := Int.ediv_le_self (a := j - i - 1) l (by omega)
      omega
    · omega
end DL
namespace DL
open PySem PySem.Spec PyProof.Rows L2
theorem rng_range' (n : Nat) : iD (rng 0 (n : Int)) = (List.range n).map fun k : Nat => DL.D.int (k : Int) := by
  unfold rng
  rw [show ((n : Int) - 0).toNat = n by omega]
  show List.map D.int (List.map _ _) = _
  rw [List.map_map]
  exact List.map_congr_left fun k _ => by simp
/-- [val for name in xs] -/
theorem comp_list {α : Type} {u : α → D} {xs : List α} {ow : List Nat} {j : Nat} {val : Ev → Option R} {ρ : Ev} (f : α → D) (hl : xs.length ≤ 16777216) (h : ∀ a ∈ xs, (val ((wipeE ρ ow).set j (.sh (u a)))).bind R.d = some (f a)) : compO (some (xs.map u)) ow (nameG j) trueC val ρ = vN (xs.map f) := by
  refine compO_mapI f hl fun a ha => ?_
  rw [compG_true]
  show ((val ((wipeE ρ ow).set j (.sh (u a)))).bind R.d).map some = _
  rw [h a ha]; rfl
/-- [val for name in range(n)] -/
theorem comp_rng {n : Nat} {ow : List Nat} {j : Nat} {val : Ev → Option R} {ρ : Ev} (f : Nat → D) (hl : n ≤ 16777216) (h : ∀ k : Nat, k < n → (val ((wipeE ρ ow).set j (.sh (.int (k : Int))))).bind R.d = some (f k)) : compO (some (iD (rng 0 (n : Int)))) ow (nameG j) trueC val ρ = vN ((List.range n).map f) := by
  rw [rng_range']
  exact comp_list f (by simpa using hl) fun k hk => h k (List.mem_range.mp hk)
theorem mulR_l {i j : Int} (h : i.natAbs < 18446744073709551616) : mulR (.v (.int i)) (.v (.int j)) = vI (i * j) := by rw [mulR_i, if_pos (.inl (.inl h))]
theorem mulR_r {i j : Int} (h : j.natAbs < 18446744073709551616) : mulR (.v (.int i)) (.v (.int j)) = vI (i * j) := by rw [mulR_i, if_pos (.inl (.inr h))]
/-- the greatest of a list -/
theorem maxI_ge : ∀ {xs : List Int} {x : Int}, x ∈ xs → x ≤ maxI xs
  | [y], x, h => by simp at h; subst h; exact Int.le_refl _
  | y :: z :: zs, x, h => by
    have ih := fun {x} h => maxI_ge (xs := z :: zs) (x := x) h
    show x ≤ if y ≤ maxI (z :: zs) then maxI (z :: zs) else y
    rcases List.mem_cons.mp h with rfl | h
    · split <;> omega
    · have := ih h
      split <;> omega
theorem maxI_in : ∀ {xs : List Int}, xs ≠ [] → maxI xs ∈ xs
  | [y], _ => by simp [maxI]
  | y :: z :: zs, _ => by
    have ih := maxI_in (xs := z :: zs) (by simp)
    show (if y ≤ maxI (z :: zs) then maxI (z :: zs) else y) ∈ _
    split
    · exact List.mem_cons_of_mem _ ih
    · exact List.mem_cons_self
theorem minI_le : ∀ {xs : List Int} {x : Int}, x ∈ xs → minI xs ≤ x
  | [y], x, h => by simp at h; subst h; exact Int.le_refl _
  | y :: z :: zs, x, h => by
    have ih := fun {x} h => minI_le (xs := z :: zs) (x := x) h
    show (if minI (z :: zs) ≤ y then minI (z :: zs) else y) ≤ x
    rcases List.mem_cons.mp h with rfl | h
    · split <;> omega
    · have := ih h
      split <;> omega
theorem max_ints {x : R} {xs : List Int} (hx : x.q = some (iD xs)) (h : xs ≠ []) : maxR x = vI (maxI xs) := by
  unfold maxR
  rw [hx, Option.bind_some, intsD_map, Option.bind_some, if_pos (List.length_pos_iff.mpr h)]
theorem min_ints {x : R} {xs : List Int} (hx : x.q = some (iD xs)) (h : xs ≠ []) : minR x = vI (minI xs) := by
  unfold minR
  rw [hx, Option.bind_some, intsD_map, Option.bind_some, if_pos (List.length_pos_iff.mpr h)]
end DL
namespace DL
open PySem PySem.Spec PyProof.Rows L2
theorem gv_app {i : Nat} {o : Option R} {k : Kt} {ρ : Ev} {d : D} {ds : List D} {P : Out → Prop} (h : o.bind R.d = some d) (hs : owR ρ i = some ds) (hl : ds.length < 16777216) (g : Gv (k (ρ.set i (.ow (ds ++ [d])))) P) : Gv (appO i o k ρ) P := by
  rw [appO_eq, h, hs, o2_some, if_pos (show ds.length < sizeLine from hl)]; exact g
end DL

set_option Elab.async false
set_option linter.all false
set_option maxRecDepth 100000
set_option maxHeartbeats 0
set_option autoImplicit false
namespace LawW
open PySem PySem.Spec PyProof.Rows L2 DL
def top (i : Nat) : Stmt := PySem.Challenge.pw_askewread_k44_light_and_shade.main.body.getD i (.Pass ⟨0, 0, 0, 0⟩)
abbrev FnP (K : PySem.W.Frag) (x : Str) (st : Stmt) (f : Addr) (fd : FuncData) : Prop := FunD K x x (defArgs st) (defBody st) (defScope st) [] [] f fd
def FnE (K : PySem.W.Frag) (mg : Str → Option Value) (x : Str) (st : Stmt) : Prop := ∃ (f : Addr) (fd : FuncData), FnP K x st f fd ∧ mg x = some (.ref f)
def errs (cl : Str → Addr) : List Addr := [cl "AskewError", cl "BadPicture"]
def errs_reason (cl : Str → Addr) : List Addr := [cl "BadPicture"]
def c_MOST_LIGHT : D := .int 4096
def c_MOST_SIDE : D := .int 300
structure Hd (P : Program) (w : World) (K : PySem.W.Frag) (mg : Str → Option Value) (base : Heap) (cl : Str → Addr) : Prop where
  d_is_whole : FnE K mg "is_whole" (top 4)
  d_is_picture : FnE K mg "is_picture" (top 8)
  d_check_picture : FnE K mg "check_picture" (top 9)
  d_black_and_white : FnE K mg "black_and_white" (top 10)
  d_is_light : FnE K mg "is_light" (top 11)
  d_light_at : FnE K mg "light_at" (top 12)
  d_lit : FnE K mg "lit" (top 13)
  d_greatest_along : FnE K mg "greatest_along" (top 14)
  d_greatest_round : FnE K mg "greatest_round" (top 15)
  d_unlit : FnE K mg "unlit" (top 16)
  d__law_numbers : FnE K mg "_law_numbers" (top 18)
  d__law_marks : FnE K mg "_law_marks" (top 19)
  d__law_picture : FnE K mg "_law_picture" (top 20)
  d__law_light : FnE K mg "_law_light" (top 21)
  d__law_lit : FnE K mg "_law_lit" (top 22)
  d__law_greatest : FnE K mg "_law_greatest" (top 23)
  d__law_unlit : FnE K mg "_law_unlit" (top 24)
  d__law_reason : FnE K mg "_law_reason" (top 25)
  d__law_refused_holds : FnE K mg "_law_refused_holds" (top 26)
  d_law : FnE K mg "law" (top 27)
  b_all : mg "all" = none
  b_bool : mg "bool" = none
  b_enumerate : mg "enumerate" = none
  b_int : mg "int" = none
  b_isinstance : mg "isinstance" = none
  b_len : mg "len" = none
  b_list : mg "list" = none
  b_max : mg "max" = none
  b_min : mg "min" = none
  b_range : mg "range" = none
  b_repr : mg "repr" = none
  b_tuple : mg "tuple" = none
  b_zip : mg "zip" = none
  c_MOST_LIGHT : GdK K mg "MOST_LIGHT" c_MOST_LIGHT
  c_MOST_SIDE : GdK K mg "MOST_SIDE" c_MOST_SIDE
  m_AskewError : mg "AskewError" = some (.ref (cl "AskewError"))
  e_AskewError : ErP K mg "AskewError" (cl "AskewError")
  m_BadPicture : mg "BadPicture" = some (.ref (cl "BadPicture"))
  e_BadPicture : ErF P w K mg base "BadPicture" (cl "BadPicture") "reason"
  xe : ∀ C ∈ errs cl, ExcC K C
  x_reason : ∀ C ∈ errs_reason cl, XfC K C ∧ PySem.W.findIn K (.ref C) "reason" = some none
section
variable {P : Program} {w : World} {K : PySem.W.Frag} {mg : Str → Option Value} {base : Heap} {cl : Str → Addr}
noncomputable def B_is_whole (K : PySem.W.Frag) (cl : Str → Addr) : Kt := fun ρ => retO (bO (andB (((varR ρ 0).bind (isiR "int")).bind R.t) ((bO ((((varR ρ 0).bind (isiR "bool")).bind R.t).map (!·))).bind R.t)))
noncomputable def F_is_whole (K : PySem.W.Frag) (cl : Str → Addr) : List D → Option Res := runF ["value"] (B_is_whole K cl)
theorem sc_is_whole : FnScope ["value"] ["value"] (defScope (top 4)) := ⟨rfl, rfl, rfl, by decide +kernel, rfl, by decide +kernel, by decide +kernel⟩
theorem w_is_whole (Z : Hd P w K mg base cl) : Fo P w K mg base 3 "is_whole" 1 (F_is_whole K cl) := by
  obtain ⟨f, fd, F, gm⟩ := Z.d_is_whole
  refine fo_mk F sc_is_whole gm (F.bindsN fun _ _ _ _ _ _ us hl => match us, hl with | [_], _ => rfl) rfl (by decide) fun cdv A outer s H E g ρ => ?_
  exact oss_ret (oe_and (oe_isi Z.b_isinstance (oe_var 0) Z.b_int (by decide +kernel)) (oe_one (oe_not (oe_isi Z.b_isinstance (oe_var 0) Z.b_bool (by decide +kernel)))))
noncomputable def B_black_and_white (K : PySem.W.Frag) (cl : Str → Addr) : Kt := fun ρ => retO (compO ((varR ρ 0).bind srcJ) [2] (nameG 2) trueC (fun ρ => compO ((varR ρ 2).bind srcJ) [3] (nameG 3) trueC (fun ρ => (bO (o2 gtR (o2 mulR (vI 2) (varR ρ 3)) (varR ρ 1))).bind intR) ρ) ρ)
noncomputable def F_black_and_white (K : PySem.W.Frag) (cl : Str → Addr) : List D → Option Res := runF ["picture", "most", "row", "n"] (B_black_and_white K cl)
theorem sc_black_and_white : FnScope ["picture", "most", "row", "n"] ["picture", "most"] (defScope (top 10)) := ⟨rfl, rfl, rfl, by decide +kernel, rfl, by decide +kernel, by decide +kernel⟩
theorem w_black_and_white (Z : Hd P w K mg base cl) : Fo P w K mg base 3 "black_and_white" 2 (F_black_and_white K cl) := by
  obtain ⟨f, fd, F, gm⟩ := Z.d_black_and_white
  refine fo_mk F sc_black_and_white gm (F.bindsN fun _ _ _ _ _ _ us hl => match us, hl with | [_, _], _ => rfl) rfl (by decide) fun cdv A outer s H E g ρ => ?_
  exact oss_ret (oe_comp (cond := trueC) (val := fun ρ => compO ((varR ρ 2).bind srcJ) [3] (nameG 3) trueC (fun ρ => (bO (o2 gtR (o2 mulR (vI 2) (varR ρ 3)) (varR ρ 1))).bind intR) ρ) [("row", 2)] g.ge (oj_e (oe_var 0)) (blkOk_by rfl) (by decide) (fun _ _ _ _ _ => (og_name 2 g.ge.blk.nd)) (fun _ _ _ _ _ ρ => ots_nil) (fun _ _ _ _ _ ρ => oe_comp (cond := trueC) (val := fun ρ => (bO (o2 gtR (o2 mulR (vI 2) (varR ρ 3)) (varR ρ 1))).bind intR) [("n", 3)] g.ge.blk (oj_e (oe_var 2)) (blkOk_by rfl) (by decide) (fun _ _ _ _ _ => (og_name 3 g.ge.blk.blk.nd)) (fun _ _ _ _ _ ρ => ots_nil) (fun _ _ _ _ _ ρ => oe_intf Z.b_int (oe_cmp (oc_gt (oe_mul (oe_int) (oe_var 3)) (oe_var 1))))))
noncomputable def B_light_at (K : PySem.W.Frag) (cl : Str → Addr) : Kt := fun ρ => asgO (tupG 3 (consG (nameG 3) (consG (nameG 4) (consG (nameG 5) nilG)))) (varR ρ 0) (fun ρ => retO (o2 max2R (vI 0) (o2 divR (o2 addR (o2 addR (varR ρ 3) (o2 mulR (varR ρ 4) (varR ρ 1))) (o2 mulR (varR ρ 5) (varR ρ 2))) (vI 16)))) ρ
noncomputable def F_light_at (K : PySem.W.Frag) (cl : Str → Addr) : List D → Option Res := runF ["light", "i", "j", "a", "b", "c"] (B_light_at K cl)
theorem sc_light_at : FnScope ["light", "i", "j", "a", "b", "c"] ["light", "i", "j"] (defScope (top 12)) := ⟨rfl, rfl, rfl, by decide +kernel, rfl, by decide +kernel, by decide +kernel⟩
theorem w_light_at (Z : Hd P w K mg base cl) : Fo P w K mg base 3 "light_at" 3 (F_light_at K cl) := by
  obtain ⟨f, fd, F, gm⟩ := Z.d_light_at
  refine fo_mk F sc_light_at gm (F.bindsN fun _ _ _ _ _ _ us hl => match us, hl with | [_, _, _], _ => rfl) rfl (by decide) fun cdv A outer s H E g ρ => ?_
  exact oss_asg (oe_var 0) (og_tup g.ge.calm (ogs_cons (og_name 3 g.ge.nd) (ogs_cons (og_name 4 g.ge.nd) (ogs_cons (og_name 5 g.ge.nd) ogs_nil)))) (fun ρ => oss_ret (oe_max2 g.ge.calm Z.b_max (oe_int) (oe_div (oe_add (oe_add (oe_var 3) (oe_mul (oe_var 4) (oe_var 1))) (oe_mul (oe_var 5) (oe_var 2))) (oe_int))))
noncomputable def B_greatest_along (K : PySem.W.Frag) (cl : Str → Addr) : Kt := fun ρ => retO (compO (((varR ρ 0).bind lenR).bind rng1R) [2] (nameG 2) trueC (fun ρ => (slO (varR ρ 0) (ooR (o2 max2R (vI 0) (o2 subR (varR ρ 2) (varR ρ 1)))) (ooR (o2 addR (o2 addR (varR ρ 2) (varR ρ 1)) (vI 1)))).bind maxR) ρ)
noncomputable def F_greatest_along (K : PySem.W.Frag) (cl : Str → Addr) : List D → Option Res := runF ["row", "reach", "k"] (B_greatest_along K cl)
theorem sc_greatest_along : FnScope ["row", "reach", "k"] ["row", "reach"] (defScope (top 14)) := ⟨rfl, rfl, rfl, by decide +kernel, rfl, by decide +kernel, by decide +kernel⟩
theorem w_greatest_along (Z : Hd P w K mg base cl) : Fo P w K mg base 3 "greatest_along" 2 (F_greatest_along K cl) := by
  obtain ⟨f, fd, F, gm⟩ := Z.d_greatest_along
  refine fo_mk F sc_greatest_along gm (F.bindsN fun _ _ _ _ _ _ us hl => match us, hl with | [_, _], _ => rfl) rfl (by decide) fun cdv A outer s H E g ρ => ?_
  exact oss_ret (oe_comp (cond := trueC) (val := fun ρ => (slO (varR ρ 0) (ooR (o2 max2R (vI 0) (o2 subR (varR ρ 2) (varR ρ 1)))) (ooR (o2 addR (o2 addR (varR ρ 2) (varR ρ 1)) (vI 1)))).bind maxR) [("k", 2)] g.ge (OI.oj (oi_rng1 Z.b_range (oe_len Z.b_len (oe_var 0)))) (blkOk_by rfl) (by decide) (fun _ _ _ _ _ => (og_name 2 g.ge.blk.nd)) (fun _ _ _ _ _ ρ => ots_nil) (fun _ _ _ _ _ ρ => oe_max g.ge.blk.calm Z.b_max (oe_sl (oe_var 0) (oo_some (oe_max2 g.ge.blk.calm Z.b_max (oe_int) (oe_sub (oe_var 2) (oe_var 1)))) (oo_some (oe_add (oe_add (oe_var 2) (oe_var 1)) (oe_int))))))
noncomputable def B__law_numbers (K : PySem.W.Frag) (cl : Str → Addr) : Kt := fun ρ => setS 3 (o2 mulR (vI 1000003) (o2 addR (varR ρ 1) (vI 1))) (fun ρ => ifO (o2 ltR (varR ρ 1) ((varR ρ 0).bind lenR)) (setS 3 ((o2 ixR (varR ρ 0) (varR ρ 1)).bind intR) (fun ρ => some (.nx ρ)) ρ) (some (.nx ρ)) (fun ρ => ifO (o2 ltR (varR ρ 3) (vI 0)) (setS 3 (o2 subR (vI 1) (o2 mulR (vI 2) (varR ρ 3))) (fun ρ => some (.nx ρ)) ρ) (some (.nx ρ)) (fun ρ => setO 4 (lstO (some [])) (fun ρ => forO ((varR ρ 2).bind rng1R) (nameG 5) (fun ρ => ifO (o2 geR (varR ρ 3) (o2 powR (vI 10) (vI 18))) (appO 4 (o2 modR (varR ρ 3) (vI 1009)) (fun ρ => setS 3 (o2 divR (varR ρ 3) (vI 1009)) (fun ρ => some (.nx ρ)) ρ) ρ) (setS 6 (o2 modR (o2 addR (o2 addR (o2 mulR (varR ρ 3) (vI 48271)) (o2 mulR (o2 addR (varR ρ 5) (vI 1)) (vI 69621))) (o2 mulR (varR ρ 1) (vI 4001))) (vI 2147483647)) (fun ρ => setS 6 (o2 modR (o2 addR (o2 mulR (varR ρ 6) (varR ρ 6)) (o2 mulR (vI 16807) (o2 addR (varR ρ 5) (vI 3)))) (vI 2147483629)) (fun ρ => appO 4 (o2 modR (o2 divR (varR ρ 6) (vI 7)) (vI 1009)) (fun ρ => some (.nx ρ)) ρ) ρ) ρ) (fun ρ => some (.nx ρ))) (fun ρ => retV 4 ρ) ρ) ρ))) ρ
noncomputable def F__law_numbers (K : PySem.W.Frag) (cl : Str → Addr) : List D → Option Res := runF ["script", "at", "count", "cell", "numbers", "k", "mixed"] (B__law_numbers K cl)
theorem sc__law_numbers : FnScope ["script", "at", "count", "cell", "numbers", "k", "mixed"] ["script", "at", "count"] (defScope (top 18)) := ⟨rfl, rfl, rfl, by decide +kernel, rfl, by decide +kernel, by decide +kernel⟩
theorem w__law_numbers (Z : Hd P w K mg base cl) : Fo P w K mg base 3 "_law_numbers" 3 (F__law_numbers K cl) := by
  obtain ⟨f, fd, F, gm⟩ := Z.d__law_numbers
  refine fo_mk F sc__law_numbers gm (F.bindsN fun _ _ _ _ _ _ us hl => match us, hl with | [_, _, _], _ => rfl) rfl (by decide) fun cdv A outer s H E g ρ => ?_
  exact oss_setS 3 g (oe_mul (oe_int) (oe_add (oe_var 1) (oe_int))) (fun ρ => oss_if (ot_cmp (oc_lt (oe_var 1) (oe_len Z.b_len (oe_var 0)))) (oss_setS 3 g (oe_intf Z.b_int (oe_ix (oe_var 0) (oe_var 1))) (fun ρ => oss_nil)) (oss_nil) (fun ρ => oss_if (ot_cmp (oc_lt (oe_var 3) (oe_int))) (oss_setS 3 g (oe_sub (oe_int) (oe_mul (oe_int) (oe_var 3))) (fun ρ => oss_nil)) (oss_nil) (fun ρ => oss_set 4 g (oe_lst (oa_nil)) (fun ρ => oss_for g (oi_rng1 Z.b_range (oe_var 2)) (og_name 5 g.ge.nd) (fun ρ => oss_if (ot_cmp (oc_ge (oe_var 3) (oe_pow (oe_int) (oe_int)))) (oss_append 4 (oe_mod (oe_var 3) (oe_int)) (fun ρ => oss_setS 3 g (oe_div (oe_var 3) (oe_int)) (fun ρ => oss_nil))) (oss_setS 6 g (oe_mod (oe_add (oe_add (oe_mul (oe_var 3) (oe_int)) (oe_mul (oe_add (oe_var 5) (oe_int)) (oe_int))) (oe_mul (oe_var 1) (oe_int))) (oe_int)) (fun ρ => oss_setS 6 g (oe_mod (oe_add (oe_mul (oe_var 6) (oe_var 6)) (oe_mul (oe_int) (oe_add (oe_var 5) (oe_int)))) (oe_int)) (fun ρ => oss_append 4 (oe_mod (oe_div (oe_var 6) (oe_int)) (oe_int)) (fun ρ => oss_nil)))) (fun ρ => oss_nil)) (fun ρ => oss_retV 4)))))
noncomputable def B__law_marks (K : PySem.W.Frag) (cl : Str → Addr) : Kt := fun ρ => setO 2 (lstO (some [])) (fun ρ => forO ((varR ρ 1).bind rng1R) (nameG 3) (fun ρ => setLO 4 (compO ((varR ρ 1).bind rng1R) [5] (nameG 5) trueC (fun ρ => bO (o2 ltR (o2 modR (o2 addR (o2 addR (o2 addR (o2 mulR (varR ρ 3) (o2 ixR (varR ρ 0) (vI 0))) (o2 mulR (varR ρ 5) (o2 ixR (varR ρ 0) (vI 1)))) (o2 mulR (o2 mulR (varR ρ 3) (varR ρ 5)) (o2 ixR (varR ρ 0) (vI 2)))) (o2 ixR (varR ρ 0) (vI 3))) (vI 7)) (vI 3))) ρ) (fun ρ => appO 2 (o2 joinR (vS "") (compO ((varR ρ 4).bind srcJ) [6] (nameG 6) trueC (fun ρ => o2 ixR (lstO (consO (vS ".") (consO (vS "#") (some [])))) ((varR ρ 6).bind intR)) ρ)) (fun ρ => some (.nx ρ)) ρ) ρ) (fun ρ => retV 2 ρ) ρ) ρ
noncomputable def F__law_marks (K : PySem.W.Frag) (cl : Str → Addr) : List D → Option Res := runF ["numbers", "side", "rows", "i", "dark", "j", "one"] (B__law_marks K cl)
theorem sc__law_marks : FnScope ["numbers", "side", "rows", "i", "dark", "j", "one"] ["numbers", "side"] (defScope (top 19)) := ⟨rfl, rfl, rfl, by decide +kernel, rfl, by decide +kernel, by decide +kernel⟩
theorem w__law_marks (Z : Hd P w K mg base cl) : Fo P w K mg base 3 "_law_marks" 2 (F__law_marks K cl) := by
  obtain ⟨f, fd, F, gm⟩ := Z.d__law_marks
  refine fo_mk F sc__law_marks gm (F.bindsN fun _ _ _ _ _ _ us hl => match us, hl with | [_, _], _ => rfl) rfl (by decide) fun cdv A outer s H E g ρ => ?_
  exact oss_set 2 g (oe_lst (oa_nil)) (fun ρ => oss_for g (oi_rng1 Z.b_range (oe_var 1)) (og_name 3 g.ge.nd) (fun ρ => oss_setLc 4 (cond := trueC) (val := fun ρ => bO (o2 ltR (o2 modR (o2 addR (o2 addR (o2 addR (o2 mulR (varR ρ 3) (o2 ixR (varR ρ 0) (vI 0))) (o2 mulR (varR ρ 5) (o2 ixR (varR ρ 0) (vI 1)))) (o2 mulR (o2 mulR (varR ρ 3) (varR ρ 5)) (o2 ixR (varR ρ 0) (vI 2)))) (o2 ixR (varR ρ 0) (vI 3))) (vI 7)) (vI 3))) [("j", 5)] g (OI.oj (oi_rng1 Z.b_range (oe_var 1))) (blkOk_by rfl) (by decide) (fun _ _ _ _ _ => (og_name 5 g.ge.blk.nd)) (fun _ _ _ _ _ ρ => ots_nil) (fun _ _ _ _ _ ρ => oe_cmp (oc_lt (oe_mod (oe_add (oe_add (oe_add (oe_mul (oe_var 3) (oe_ix (oe_var 0) (oe_int))) (oe_mul (oe_var 5) (oe_ix (oe_var 0) (oe_int)))) (oe_mul (oe_mul (oe_var 3) (oe_var 5)) (oe_ix (oe_var 0) (oe_int)))) (oe_ix (oe_var 0) (oe_int))) (oe_int)) (oe_int))) (fun ρ => oss_append 2 (oe_join (oe_str) (oe_comp (cond := trueC) (val := fun ρ => o2 ixR (lstO (consO (vS ".") (consO (vS "#") (some [])))) ((varR ρ 6).bind intR)) [("one", 6)] g.ge (oj_e (oe_var 4)) (blkOk_by rfl) (by decide) (fun _ _ _ _ _ => (og_name 6 g.ge.blk.nd)) (fun _ _ _ _ _ ρ => ots_nil) (fun _ _ _ _ _ ρ => oe_ix (oe_lst (oa_cons (oe_str) (oa_cons (oe_str) (oa_nil)))) (oe_intf Z.b_int (oe_var 6))))) (fun ρ => oss_nil))) (fun ρ => oss_retV 2))
noncomputable def B__law_light (K : PySem.W.Frag) (cl : Str → Addr) : Kt := fun ρ => retO (o2 max2R (vI 0) (o2 divR (o2 addR (o2 addR (o2 ixR (varR ρ 0) (vI 0)) (o2 mulR (o2 ixR (varR ρ 0) (vI 1)) (varR ρ 2))) (o2 mulR (o2 ixR (varR ρ 0) (vI 2)) (varR ρ 1))) (vI 16)))
noncomputable def F__law_light (K : PySem.W.Frag) (cl : Str → Addr) : List D → Option Res := runF ["light", "i", "j"] (B__law_light K cl)
theorem sc__law_light : FnScope ["light", "i", "j"] ["light", "i", "j"] (defScope (top 21)) := ⟨rfl, rfl, rfl, by decide +kernel, rfl, by decide +kernel, by decide +kernel⟩
theorem w__law_light (Z : Hd P w K mg base cl) : Fo P w K mg base 3 "_law_light" 3 (F__law_light K cl) := by
  obtain ⟨f, fd, F, gm⟩ := Z.d__law_light
  refine fo_mk F sc__law_light gm (F.bindsN fun _ _ _ _ _ _ us hl => match us, hl with | [_, _, _], _ => rfl) rfl (by decide) fun cdv A outer s H E g ρ => ?_
  exact oss_ret (oe_max2 g.ge.calm Z.b_max (oe_int) (oe_div (oe_add (oe_add (oe_ix (oe_var 0) (oe_int)) (oe_mul (oe_ix (oe_var 0) (oe_int)) (oe_var 2))) (oe_mul (oe_ix (oe_var 0) (oe_int)) (oe_var 1))) (oe_int)))
noncomputable def B__law_greatest (K : PySem.W.Frag) (cl : Str → Addr) : Kt := fun ρ => asgO (tupG 2 (consG (nameG 2) (consG (nameG 3) nilG))) (tupO (consO ((varR ρ 0).bind lenR) (consO ((o2 ixR (varR ρ 0) (vI 0)).bind lenR) (some [])))) (fun ρ => setS 4 (compO ((varR ρ 0).bind srcJ) [5] (nameG 5) trueC (fun ρ => compO ((varR ρ 3).bind rng1R) [6] (nameG 6) trueC (fun ρ => (slO (varR ρ 5) (ooR (o2 max2R (vI 0) (o2 subR (varR ρ 6) (varR ρ 1)))) (ooR (o2 addR (o2 addR (varR ρ 6) (varR ρ 1)) (vI 1)))).bind maxR) ρ) ρ) (fun ρ => retO (compO ((varR ρ 2).bind rng1R) [7] (nameG 7) trueC (fun ρ => compO ((varR ρ 3).bind rng1R) [6] (nameG 6) trueC (fun ρ => (compO ((slO (varR ρ 4) (ooR (o2 max2R (vI 0) (o2 subR (varR ρ 7) (varR ρ 1)))) (ooR (o2 addR (o2 addR (varR ρ 7) (varR ρ 1)) (vI 1)))).bind srcJ) [5] (nameG 5) trueC (fun ρ => o2 ixR (varR ρ 5) (varR ρ 6)) ρ).bind maxR) ρ) ρ)) ρ) ρ
noncomputable def F__law_greatest (K : PySem.W.Frag) (cl : Str → Addr) : List D → Option Res := runF ["rows", "reach", "high", "wide", "across", "row", "j", "i"] (B__law_greatest K cl)
theorem sc__law_greatest : FnScope ["rows", "reach", "high", "wide", "across", "row", "j", "i"] ["rows", "reach"] (defScope (top 23)) := ⟨rfl, rfl, rfl, by decide +kernel, rfl, by decide +kernel, by decide +kernel⟩
theorem w__law_greatest (Z : Hd P w K mg base cl) : Fo P w K mg base 3 "_law_greatest" 2 (F__law_greatest K cl) := by
  obtain ⟨f, fd, F, gm⟩ := Z.d__law_greatest
  refine fo_mk F sc__law_greatest gm (F.bindsN fun _ _ _ _ _ _ us hl => match us, hl with | [_, _], _ => rfl) rfl (by decide) fun cdv A outer s H E g ρ => ?_
  exact oss_asg (oe_tup (oa_cons (oe_len Z.b_len (oe_var 0)) (oa_cons (oe_len Z.b_len (oe_ix (oe_var 0) (oe_int))) (oa_nil)))) (og_tup g.ge.calm (ogs_cons (og_name 2 g.ge.nd) (ogs_cons (og_name 3 g.ge.nd) ogs_nil))) (fun ρ => oss_setS 4 g (oe_comp (cond := trueC) (val := fun ρ => compO ((varR ρ 3).bind rng1R) [6] (nameG 6) trueC (fun ρ => (slO (varR ρ 5) (ooR (o2 max2R (vI 0) (o2 subR (varR ρ 6) (varR ρ 1)))) (ooR (o2 addR (o2 addR (varR ρ 6) (varR ρ 1)) (vI 1)))).bind maxR) ρ) [("row", 5)] g.ge (oj_e (oe_var 0)) (blkOk_by rfl) (by decide) (fun _ _ _ _ _ => (og_name 5 g.ge.blk.nd)) (fun _ _ _ _ _ ρ => ots_nil) (fun _ _ _ _ _ ρ => oe_comp (cond := trueC) (val := fun ρ => (slO (varR ρ 5) (ooR (o2 max2R (vI 0) (o2 subR (varR ρ 6) (varR ρ 1)))) (ooR (o2 addR (o2 addR (varR ρ 6) (varR ρ 1)) (vI 1)))).bind maxR) [("j", 6)] g.ge.blk (OI.oj (oi_rng1 Z.b_range (oe_var 3))) (blkOk_by rfl) (by decide) (fun _ _ _ _ _ => (og_name 6 g.ge.blk.blk.nd)) (fun _ _ _ _ _ ρ => ots_nil) (fun _ _ _ _ _ ρ => oe_max g.ge.blk.blk.calm Z.b_max (oe_sl (oe_var 5) (oo_some (oe_max2 g.ge.blk.blk.calm Z.b_max (oe_int) (oe_sub (oe_var 6) (oe_var 1)))) (oo_some (oe_add (oe_add (oe_var 6) (oe_var 1)) (oe_int))))))) (fun ρ => oss_ret (oe_comp (cond := trueC) (val := fun ρ => compO ((varR ρ 3).bind rng1R) [6] (nameG 6) trueC (fun ρ => (compO ((slO (varR ρ 4) (ooR (o2 max2R (vI 0) (o2 subR (varR ρ 7) (varR ρ 1)))) (ooR (o2 addR (o2 addR (varR ρ 7) (varR ρ 1)) (vI 1)))).bind srcJ) [5] (nameG 5) trueC (fun ρ => o2 ixR (varR ρ 5) (varR ρ 6)) ρ).bind maxR) ρ) [("i", 7)] g.ge (OI.oj (oi_rng1 Z.b_range (oe_var 2))) (blkOk_by rfl) (by decide) (fun _ _ _ _ _ => (og_name 7 g.ge.blk.nd)) (fun _ _ _ _ _ ρ => ots_nil) (fun _ _ _ _ _ ρ => oe_comp (cond := trueC) (val := fun ρ => (compO ((slO (varR ρ 4) (ooR (o2 max2R (vI 0) (o2 subR (varR ρ 7) (varR ρ 1)))) (ooR (o2 addR (o2 addR (varR ρ 7) (varR ρ 1)) (vI 1)))).bind srcJ) [5] (nameG 5) trueC (fun ρ => o2 ixR (varR ρ 5) (varR ρ 6)) ρ).bind maxR) [("j", 6)] g.ge.blk (OI.oj (oi_rng1 Z.b_range (oe_var 3))) (blkOk_by rfl) (by decide) (fun _ _ _ _ _ => (og_name 6 g.ge.blk.blk.nd)) (fun _ _ _ _ _ ρ => ots_nil) (fun _ _ _ _ _ ρ => oe_max g.ge.blk.blk.calm Z.b_max (oe_comp (cond := trueC) (val := fun ρ => o2 ixR (varR ρ 5) (varR ρ 6)) [("row", 5)] g.ge.blk.blk (oj_e (oe_sl (oe_var 4) (oo_some (oe_max2 g.ge.blk.blk.calm Z.b_max (oe_int) (oe_sub (oe_var 7) (oe_var 1)))) (oo_some (oe_add (oe_add (oe_var 7) (oe_var 1)) (oe_int))))) (blkOk_by rfl) (by decide) (fun _ _ _ _ _ => (og_name 5 g.ge.blk.blk.blk.nd)) (fun _ _ _ _ _ ρ => ots_nil) (fun _ _ _ _ _ ρ => oe_ix (oe_var 5) (oe_var 6))))))))
noncomputable def B_is_picture (K : PySem.W.Frag) (cl : Str → Addr) : Kt := fun ρ => ifO (orB ((((varR ρ 0).bind (isiR "list")).bind R.t).map (!·)) ((chR (fun i j => decide (i ≤ j)) (fun i j => decide (i ≤ j)) (vI 1) ((varR ρ 0).bind lenR) (vD c_MOST_SIDE)).map (!·))) (retO (vB false)) (some (.nx ρ)) (fun ρ => ifO ((((compO ((varR ρ 0).bind srcJ) [2] (nameG 2) trueC (fun ρ => bO (andB (((varR ρ 2).bind (isiR "list")).bind R.t) ((bO (o2 gtR ((varR ρ 2).bind lenR) (vI 0))).bind R.t))) ρ).bind allR).bind R.t).map (!·)) (retO (vB false)) (some (.nx ρ)) (fun ρ => ifO (orB (o2 neR (lenSetR ((varR ρ 0).bind srcJ) [2] (nameG 2) (fun ρ => (varR ρ 2).bind lenR) ρ) (vI 1)) (o2 gtR ((o2 ixR (varR ρ 0) (vI 0)).bind lenR) (vD c_MOST_SIDE))) (retO (vB false)) (some (.nx ρ)) (fun ρ => retO ((compO ((varR ρ 0).bind srcJ) [2] (nameG 2) trueC (fun ρ => (compO ((varR ρ 2).bind srcJ) [3] (nameG 3) trueC (fun ρ => bO (andB ((callR (F_is_whole K cl) (consO (varR ρ 3) (some []))).bind R.t) ((bO (chR (fun i j => decide (i ≤ j)) (fun i j => decide (i ≤ j)) (vI 0) (varR ρ 3) (varR ρ 1))).bind R.t))) ρ).bind allR) ρ).bind allR))))
noncomputable def F_is_picture (K : PySem.W.Frag) (cl : Str → Addr) : List D → Option Res := runF ["value", "most", "row", "n"] (B_is_picture K cl)
theorem sc_is_picture : FnScope ["value", "most", "row", "n"] ["value", "most"] (defScope (top 8)) := ⟨rfl, rfl, rfl, by decide +kernel, rfl, by decide +kernel, by decide +kernel⟩
theorem w_is_picture (Z : Hd P w K mg base cl) : Fo P w K mg base 4 "is_picture" 2 (F_is_picture K cl) := by
  obtain ⟨f, fd, F, gm⟩ := Z.d_is_picture
  refine fo_mk F sc_is_picture gm (F.bindsN fun _ _ _ _ _ _ us hl => match us, hl with | [_, _], _ => rfl) rfl (by decide) fun cdv A outer s H E g ρ => ?_
  exact oss_if (ot_w (ow_or (ot_not (ot_val (oe_isi Z.b_isinstance (oe_var 0) Z.b_list (by decide +kernel)))) (ow_or1 (ot_not (ot_chain iop_le iop_le (oe_int) (oe_len Z.b_len (oe_var 0)) (oe_glob Z.c_MOST_SIDE)))))) (oss_ret (oe_bl)) (oss_nil) (fun ρ => oss_if (ot_not (ot_val (oe_all g.ge.calm Z.b_all (oe_comp (cond := trueC) (val := fun ρ => bO (andB (((varR ρ 2).bind (isiR "list")).bind R.t) ((bO (o2 gtR ((varR ρ 2).bind lenR) (vI 0))).bind R.t))) [("row", 2)] g.ge (oj_e (oe_var 0)) (blkOk_by rfl) (by decide) (fun _ _ _ _ _ => (og_name 2 g.ge.blk.nd)) (fun _ _ _ _ _ ρ => ots_nil) (fun _ _ _ _ _ ρ => oe_and (oe_isi Z.b_isinstance (oe_var 2) Z.b_list (by decide +kernel)) (oe_one (oe_cmp (oc_gt (oe_len Z.b_len (oe_var 2)) (oe_int))))))))) (oss_ret (oe_bl)) (oss_nil) (fun ρ => oss_if (ot_w (ow_or (ot_cmp (oc_ne g.ge (oe_lenSet (val := fun ρ => (varR ρ 2).bind lenR) [("row", 2)] g.ge Z.b_len (oj_e (oe_var 0)) (blkOk_by rfl) (by decide) (fun _ _ _ _ _ => (og_name 2 g.ge.blk.nd)) (fun _ _ _ _ _ ρ => oe_len Z.b_len (oe_var 2))) (oe_int))) (ow_or1 (ot_cmp (oc_gt (oe_len Z.b_len (oe_ix (oe_var 0) (oe_int))) (oe_glob Z.c_MOST_SIDE)))))) (oss_ret (oe_bl)) (oss_nil) (fun ρ => oss_ret (oe_all g.ge.calm Z.b_all (oe_comp (cond := trueC) (val := fun ρ => (compO ((varR ρ 2).bind srcJ) [3] (nameG 3) trueC (fun ρ => bO (andB ((callR (F_is_whole K cl) (consO (varR ρ 3) (some []))).bind R.t) ((bO (chR (fun i j => decide (i ≤ j)) (fun i j => decide (i ≤ j)) (vI 0) (varR ρ 3) (varR ρ 1))).bind R.t))) ρ).bind allR) [("row", 2)] g.ge (oj_e (oe_var 0)) (blkOk_by rfl) (by decide) (fun _ _ _ _ _ => (og_name 2 g.ge.blk.nd)) (fun _ _ _ _ _ ρ => ots_nil) (fun _ _ _ _ _ ρ => oe_all g.ge.blk.calm Z.b_all (oe_comp (cond := trueC) (val := fun ρ => bO (andB ((callR (F_is_whole K cl) (consO (varR ρ 3) (some []))).bind R.t) ((bO (chR (fun i j => decide (i ≤ j)) (fun i j => decide (i ≤ j)) (vI 0) (varR ρ 3) (varR ρ 1))).bind R.t))) [("n", 3)] g.ge.blk (oj_e (oe_var 2)) (blkOk_by rfl) (by decide) (fun _ _ _ _ _ => (og_name 3 g.ge.blk.blk.nd)) (fun _ _ _ _ _ ρ => ots_nil) (fun _ _ _ _ _ ρ => oe_and (oe_call g.ge.blk.blk (w_is_whole Z) (by omega) (oa_cons (oe_var 3) (oa_nil)) (consO_len nilO_len)) (oe_one (oe_chain iop_le iop_le (oe_int) (oe_var 3) (oe_var 1)))))))))))
noncomputable def B_is_light (K : PySem.W.Frag) (cl : Str → Addr) : Kt := fun ρ => ifO (orB ((((varR ρ 0).bind (isiR "tuple")).bind R.t).map (!·)) (orB (o2 neR ((varR ρ 0).bind lenR) (vI 3)) ((((compO ((varR ρ 0).bind srcJ) [1] (nameG 1) trueC (fun ρ => callR (F_is_whole K cl) (consO (varR ρ 1) (some []))) ρ).bind allR).bind R.t).map (!·)))) (retO (vB false)) (some (.nx ρ)) (fun ρ => retO ((compO ((varR ρ 0).bind srcJ) [1] (nameG 1) trueC (fun ρ => bO (chR (fun i j => decide (i ≤ j)) (fun i j => decide (i ≤ j)) ((vD c_MOST_LIGHT).bind negR) (varR ρ 1) (vD c_MOST_LIGHT))) ρ).bind allR))
noncomputable def F_is_light (K : PySem.W.Frag) (cl : Str → Addr) : List D → Option Res := runF ["value", "n"] (B_is_light K cl)
theorem sc_is_light : FnScope ["value", "n"] ["value"] (defScope (top 11)) := ⟨rfl, rfl, rfl, by decide +kernel, rfl, by decide +kernel, by decide +kernel⟩
theorem w_is_light (Z : Hd P w K mg base cl) : Fo P w K mg base 4 "is_light" 1 (F_is_light K cl) := by
  obtain ⟨f, fd, F, gm⟩ := Z.d_is_light
  refine fo_mk F sc_is_light gm (F.bindsN fun _ _ _ _ _ _ us hl => match us, hl with | [_], _ => rfl) rfl (by decide) fun cdv A outer s H E g ρ => ?_
  exact oss_if (ot_w (ow_or (ot_not (ot_val (oe_isi Z.b_isinstance (oe_var 0) Z.b_tuple (by decide +kernel)))) (ow_or (ot_cmp (oc_ne g.ge (oe_len Z.b_len (oe_var 0)) (oe_int))) (ow_or1 (ot_not (ot_val (oe_all g.ge.calm Z.b_all (oe_comp (cond := trueC) (val := fun ρ => callR (F_is_whole K cl) (consO (varR ρ 1) (some []))) [("n", 1)] g.ge (oj_e (oe_var 0)) (blkOk_by rfl) (by decide) (fun _ _ _ _ _ => (og_name 1 g.ge.blk.nd)) (fun _ _ _ _ _ ρ => ots_nil) (fun _ _ _ _ _ ρ => oe_call g.ge.blk (w_is_whole Z) (by omega) (oa_cons (oe_var 1) (oa_nil)) (consO_len nilO_len)))))))))) (oss_ret (oe_bl)) (oss_nil) (fun ρ => oss_ret (oe_all g.ge.calm Z.b_all (oe_comp (cond := trueC) (val := fun ρ => bO (chR (fun i j => decide (i ≤ j)) (fun i j => decide (i ≤ j)) ((vD c_MOST_LIGHT).bind negR) (varR ρ 1) (vD c_MOST_LIGHT))) [("n", 1)] g.ge (oj_e (oe_var 0)) (blkOk_by rfl) (by decide) (fun _ _ _ _ _ => (og_name 1 g.ge.blk.nd)) (fun _ _ _ _ _ ρ => ots_nil) (fun _ _ _ _ _ ρ => oe_chain iop_le iop_le (oe_neg (oe_glob Z.c_MOST_LIGHT)) (oe_var 1) (oe_glob Z.c_MOST_LIGHT)))))
noncomputable def B_greatest_round (K : PySem.W.Frag) (cl : Str → Addr) : Kt := fun ρ => setS 2 (compO ((varR ρ 0).bind srcJ) [4] (nameG 4) trueC (fun ρ => callR (F_greatest_along K cl) (consO (varR ρ 4) (consO (varR ρ 1) (some [])))) ρ) (fun ρ => setS 3 (compO (((o2 ixR (varR ρ 2) (vI 0)).bind lenR).bind rng1R) [5] (nameG 5) trueC (fun ρ => callR (F_greatest_along K cl) (consO (compO ((varR ρ 2).bind srcJ) [4] (nameG 4) trueC (fun ρ => o2 ixR (varR ρ 4) (varR ρ 5)) ρ) (consO (varR ρ 1) (some [])))) ρ) (fun ρ => retO (compO (((varR ρ 2).bind lenR).bind rng1R) [6] (nameG 6) trueC (fun ρ => compO (((varR ρ 3).bind lenR).bind rng1R) [5] (nameG 5) trueC (fun ρ => o2 ixR (o2 ixR (varR ρ 3) (varR ρ 5)) (varR ρ 6)) ρ) ρ)) ρ) ρ
noncomputable def F_greatest_round (K : PySem.W.Frag) (cl : Str → Addr) : List D → Option Res := runF ["picture", "reach", "rows", "columns", "row", "i", "j"] (B_greatest_round K cl)
theorem sc_greatest_round : FnScope ["picture", "reach", "rows", "columns", "row", "i", "j"] ["picture", "reach"] (defScope (top 15)) := ⟨rfl, rfl, rfl, by decide +kernel, rfl, by decide +kernel, by decide +kernel⟩
theorem w_greatest_round (Z : Hd P w K mg base cl) : Fo P w K mg base 4 "greatest_round" 2 (F_greatest_round K cl) := by
  obtain ⟨f, fd, F, gm⟩ := Z.d_greatest_round
  refine fo_mk F sc_greatest_round gm (F.bindsN fun _ _ _ _ _ _ us hl => match us, hl with | [_, _], _ => rfl) rfl (by decide) fun cdv A outer s H E g ρ => ?_
  exact oss_setS 2 g (oe_comp (cond := trueC) (val := fun ρ => callR (F_greatest_along K cl) (consO (varR ρ 4) (consO (varR ρ 1) (some [])))) [("row", 4)] g.ge (oj_e (oe_var 0)) (blkOk_by rfl) (by decide) (fun _ _ _ _ _ => (og_name 4 g.ge.blk.nd)) (fun _ _ _ _ _ ρ => ots_nil) (fun _ _ _ _ _ ρ => oe_call g.ge.blk (w_greatest_along Z) (by omega) (oa_cons (oe_var 4) (oa_cons (oe_var 1) (oa_nil))) (consO_len (consO_len nilO_len)))) (fun ρ => oss_setS 3 g (oe_comp (cond := trueC) (val := fun ρ => callR (F_greatest_along K cl) (consO (compO ((varR ρ 2).bind srcJ) [4] (nameG 4) trueC (fun ρ => o2 ixR (varR ρ 4) (varR ρ 5)) ρ) (consO (varR ρ 1) (some [])))) [("i", 5)] g.ge (OI.oj (oi_rng1 Z.b_range (oe_len Z.b_len (oe_ix (oe_var 2) (oe_int))))) (blkOk_by rfl) (by decide) (fun _ _ _ _ _ => (og_name 5 g.ge.blk.nd)) (fun _ _ _ _ _ ρ => ots_nil) (fun _ _ _ _ _ ρ => oe_call g.ge.blk (w_greatest_along Z) (by omega) (oa_cons (oe_comp (cond := trueC) (val := fun ρ => o2 ixR (varR ρ 4) (varR ρ 5)) [("row", 4)] g.ge.blk (oj_e (oe_var 2)) (blkOk_by rfl) (by decide) (fun _ _ _ _ _ => (og_name 4 g.ge.blk.blk.nd)) (fun _ _ _ _ _ ρ => ots_nil) (fun _ _ _ _ _ ρ => oe_ix (oe_var 4) (oe_var 5))) (oa_cons (oe_var 1) (oa_nil))) (consO_len (consO_len nilO_len)))) (fun ρ => oss_ret (oe_comp (cond := trueC) (val := fun ρ => compO (((varR ρ 3).bind lenR).bind rng1R) [5] (nameG 5) trueC (fun ρ => o2 ixR (o2 ixR (varR ρ 3) (varR ρ 5)) (varR ρ 6)) ρ) [("j", 6)] g.ge (OI.oj (oi_rng1 Z.b_range (oe_len Z.b_len (oe_var 2)))) (blkOk_by rfl) (by decide) (fun _ _ _ _ _ => (og_name 6 g.ge.blk.nd)) (fun _ _ _ _ _ ρ => ots_nil) (fun _ _ _ _ _ ρ => oe_comp (cond := trueC) (val := fun ρ => o2 ixR (o2 ixR (varR ρ 3) (varR ρ 5)) (varR ρ 6)) [("i", 5)] g.ge.blk (OI.oj (oi_rng1 Z.b_range (oe_len Z.b_len (oe_var 3)))) (blkOk_by rfl) (by decide) (fun _ _ _ _ _ => (og_name 5 g.ge.blk.blk.nd)) (fun _ _ _ _ _ ρ => ots_nil) (fun _ _ _ _ _ ρ => oe_ix (oe_ix (oe_var 3) (oe_var 5)) (oe_var 6))))))
noncomputable def B__law_picture (K : PySem.W.Frag) (cl : Str → Addr) : Kt := fun ρ => setS 4 (o2 modR (o2 ixR (varR ρ 0) (vI 0)) (vI 4)) (fun ρ => ifO (o2 eqR (varR ρ 4) (vI 3)) (setS 5 (callR (F__law_marks K cl) (consO (slO (varR ρ 0) (ooR (vI 1)) (some none)) (consO (vI 21) (some [])))) (fun ρ => setS 6 (o2 addR (vI 1) (o2 modR (o2 ixR (varR ρ 0) (vI 6)) (vI 2))) (fun ρ => retO (compO ((varR ρ 2).bind rng1R) [8] (nameG 8) trueC (fun ρ => compO ((varR ρ 1).bind rng1R) [10] (nameG 10) trueC (fun ρ => o2 mulR (varR ρ 3) ((bO (andB ((bO (o2 ltR (o2 divR (varR ρ 8) (varR ρ 6)) (vI 21))).bind R.t) (andB ((bO (o2 ltR (o2 divR (varR ρ 10) (varR ρ 6)) (vI 21))).bind R.t) ((bO (o2 eqR (o2 ixR (o2 ixR (varR ρ 5) (o2 modR (o2 divR (varR ρ 8) (varR ρ 6)) (vI 21))) (o2 modR (o2 divR (varR ρ 10) (varR ρ 6)) (vI 21))) (vS "#"))).bind R.t)))).bind intR)) ρ) ρ)) ρ) ρ) (some (.nx ρ)) (fun ρ => setO 7 (lstO (some [])) (fun ρ => forO ((varR ρ 2).bind rng1R) (nameG 8) (fun ρ => setLO 9 (compO ((varR ρ 1).bind rng1R) [10] (nameG 10) trueC (fun ρ => o2 modR (o2 divR (o2 addR (o2 addR (o2 addR (o2 mulR (varR ρ 8) (o2 ixR (varR ρ 0) (vI 1))) (o2 mulR (varR ρ 10) (o2 ixR (varR ρ 0) (vI 2)))) (o2 mulR (o2 mulR (varR ρ 8) (varR ρ 10)) (o2 ixR (varR ρ 0) (vI 3)))) (o2 ixR (varR ρ 0) (vI 4))) (vI 3)) (o2 addR (varR ρ 3) (vI 1))) ρ) (fun ρ => ifO (o2 eqR (varR ρ 4) (vI 1)) (setLO 9 (compO ((varR ρ 1).bind rng1R) [10] (nameG 10) trueC (fun ρ => o2 mulR (varR ρ 3) ((bO (o2 eqR (o2 modR (o2 addR (o2 addR (o2 mulR (o2 divR (varR ρ 8) (vI 3)) (o2 ixR (varR ρ 0) (vI 1))) (o2 mulR (o2 divR (varR ρ 10) (vI 3)) (o2 ixR (varR ρ 0) (vI 2)))) (o2 ixR (varR ρ 0) (vI 3))) (vI 4)) (vI 0))).bind intR)) ρ) (fun ρ => some (.nx ρ)) ρ) (some (.nx ρ)) (fun ρ => ifO (o2 eqR (varR ρ 4) (vI 2)) (setS 9 (o2 mulR (lstO (consO (o2 mulR (varR ρ 3) (o2 modR (o2 ixR (varR ρ 0) (vI 1)) (vI 2))) (some []))) (varR ρ 1)) (fun ρ => some (.nx ρ)) ρ) (some (.nx ρ)) (fun ρ => appO 7 (varR ρ 9) (fun ρ => some (.nx ρ)) ρ))) ρ) (fun ρ => retV 7 ρ) ρ) ρ)) ρ
noncomputable def F__law_picture (K : PySem.W.Frag) (cl : Str → Addr) : List D → Option Res := runF ["numbers", "wide", "high", "most", "kind", "square", "unit", "rows", "i", "row", "j"] (B__law_picture K cl)
theorem sc__law_picture : FnScope ["numbers", "wide", "high", "most", "kind", "square", "unit", "rows", "i", "row", "j"] ["numbers", "wide", "high", "most"] (defScope (top 20)) := ⟨rfl, rfl, rfl, by decide +kernel, rfl, by decide +kernel, by decide +kernel⟩
theorem w__law_picture (Z : Hd P w K mg base cl) : Fo P w K mg base 4 "_law_picture" 4 (F__law_picture K cl) := by
  obtain ⟨f, fd, F, gm⟩ := Z.d__law_picture
  refine fo_mk F sc__law_picture gm (F.bindsN fun _ _ _ _ _ _ us hl => match us, hl with | [_, _, _, _], _ => rfl) rfl (by decide) fun cdv A outer s H E g ρ => ?_
  exact oss_setS 4 g (oe_mod (oe_ix (oe_var 0) (oe_int)) (oe_int)) (fun ρ => oss_if (ot_cmp (oc_eq g.ge (oe_var 4) (oe_int))) (oss_setS 5 g (oe_call g.ge (w__law_marks Z) (by omega) (oa_cons (oe_sl (oe_var 0) (oo_some (oe_int)) (oo_none)) (oa_cons (oe_int) (oa_nil))) (consO_len (consO_len nilO_len))) (fun ρ => oss_setS 6 g (oe_add (oe_int) (oe_mod (oe_ix (oe_var 0) (oe_int)) (oe_int))) (fun ρ => oss_ret (oe_comp (cond := trueC) (val := fun ρ => compO ((varR ρ 1).bind rng1R) [10] (nameG 10) trueC (fun ρ => o2 mulR (varR ρ 3) ((bO (andB ((bO (o2 ltR (o2 divR (varR ρ 8) (varR ρ 6)) (vI 21))).bind R.t) (andB ((bO (o2 ltR (o2 divR (varR ρ 10) (varR ρ 6)) (vI 21))).bind R.t) ((bO (o2 eqR (o2 ixR (o2 ixR (varR ρ 5) (o2 modR (o2 divR (varR ρ 8) (varR ρ 6)) (vI 21))) (o2 modR (o2 divR (varR ρ 10) (varR ρ 6)) (vI 21))) (vS "#"))).bind R.t)))).bind intR)) ρ) [("i", 8)] g.ge (OI.oj (oi_rng1 Z.b_range (oe_var 2))) (blkOk_by rfl) (by decide) (fun _ _ _ _ _ => (og_name 8 g.ge.blk.nd)) (fun _ _ _ _ _ ρ => ots_nil) (fun _ _ _ _ _ ρ => oe_comp (cond := trueC) (val := fun ρ => o2 mulR (varR ρ 3) ((bO (andB ((bO (o2 ltR (o2 divR (varR ρ 8) (varR ρ 6)) (vI 21))).bind R.t) (andB ((bO (o2 ltR (o2 divR (varR ρ 10) (varR ρ 6)) (vI 21))).bind R.t) ((bO (o2 eqR (o2 ixR (o2 ixR (varR ρ 5) (o2 modR (o2 divR (varR ρ 8) (varR ρ 6)) (vI 21))) (o2 modR (o2 divR (varR ρ 10) (varR ρ 6)) (vI 21))) (vS "#"))).bind R.t)))).bind intR)) [("j", 10)] g.ge.blk (OI.oj (oi_rng1 Z.b_range (oe_var 1))) (blkOk_by rfl) (by decide) (fun _ _ _ _ _ => (og_name 10 g.ge.blk.blk.nd)) (fun _ _ _ _ _ ρ => ots_nil) (fun _ _ _ _ _ ρ => oe_mul (oe_var 3) (oe_intf Z.b_int (oe_and (oe_cmp (oc_lt (oe_div (oe_var 8) (oe_var 6)) (oe_int))) (oe_and (oe_cmp (oc_lt (oe_div (oe_var 10) (oe_var 6)) (oe_int))) (oe_one (oe_cmp (oc_eq g.ge.blk.blk (oe_ix (oe_ix (oe_var 5) (oe_mod (oe_div (oe_var 8) (oe_var 6)) (oe_int))) (oe_mod (oe_div (oe_var 10) (oe_var 6)) (oe_int))) (oe_str))))))))))))) (oss_nil) (fun ρ => oss_set 7 g (oe_lst (oa_nil)) (fun ρ => oss_for g (oi_rng1 Z.b_range (oe_var 2)) (og_name 8 g.ge.nd) (fun ρ => oss_setLc 9 (cond := trueC) (val := fun ρ => o2 modR (o2 divR (o2 addR (o2 addR (o2 addR (o2 mulR (varR ρ 8) (o2 ixR (varR ρ 0) (vI 1))) (o2 mulR (varR ρ 10) (o2 ixR (varR ρ 0) (vI 2)))) (o2 mulR (o2 mulR (varR ρ 8) (varR ρ 10)) (o2 ixR (varR ρ 0) (vI 3)))) (o2 ixR (varR ρ 0) (vI 4))) (vI 3)) (o2 addR (varR ρ 3) (vI 1))) [("j", 10)] g (OI.oj (oi_rng1 Z.b_range (oe_var 1))) (blkOk_by rfl) (by decide) (fun _ _ _ _ _ => (og_name 10 g.ge.blk.nd)) (fun _ _ _ _ _ ρ => ots_nil) (fun _ _ _ _ _ ρ => oe_mod (oe_div (oe_add (oe_add (oe_add (oe_mul (oe_var 8) (oe_ix (oe_var 0) (oe_int))) (oe_mul (oe_var 10) (oe_ix (oe_var 0) (oe_int)))) (oe_mul (oe_mul (oe_var 8) (oe_var 10)) (oe_ix (oe_var 0) (oe_int)))) (oe_ix (oe_var 0) (oe_int))) (oe_int)) (oe_add (oe_var 3) (oe_int))) (fun ρ => oss_if (ot_cmp (oc_eq g.ge (oe_var 4) (oe_int))) (oss_setLc 9 (cond := trueC) (val := fun ρ => o2 mulR (varR ρ 3) ((bO (o2 eqR (o2 modR (o2 addR (o2 addR (o2 mulR (o2 divR (varR ρ 8) (vI 3)) (o2 ixR (varR ρ 0) (vI 1))) (o2 mulR (o2 divR (varR ρ 10) (vI 3)) (o2 ixR (varR ρ 0) (vI 2)))) (o2 ixR (varR ρ 0) (vI 3))) (vI 4)) (vI 0))).bind intR)) [("j", 10)] g (OI.oj (oi_rng1 Z.b_range (oe_var 1))) (blkOk_by rfl) (by decide) (fun _ _ _ _ _ => (og_name 10 g.ge.blk.nd)) (fun _ _ _ _ _ ρ => ots_nil) (fun _ _ _ _ _ ρ => oe_mul (oe_var 3) (oe_intf Z.b_int (oe_cmp (oc_eq g.ge.blk (oe_mod (oe_add (oe_add (oe_mul (oe_div (oe_var 8) (oe_int)) (oe_ix (oe_var 0) (oe_int))) (oe_mul (oe_div (oe_var 10) (oe_int)) (oe_ix (oe_var 0) (oe_int)))) (oe_ix (oe_var 0) (oe_int))) (oe_int)) (oe_int))))) (fun ρ => oss_nil)) (oss_nil) (fun ρ => oss_if (ot_cmp (oc_eq g.ge (oe_var 4) (oe_int))) (oss_setS 9 g (oe_mul (oe_lst (oa_cons (oe_mul (oe_var 3) (oe_mod (oe_ix (oe_var 0) (oe_int)) (oe_int))) (oa_nil))) (oe_var 1)) (fun ρ => oss_nil)) (oss_nil) (fun ρ => oss_append 7 (oe_var 9) (fun ρ => oss_nil))))) (fun ρ => oss_retV 7))))
noncomputable def B__law_lit (K : PySem.W.Frag) (cl : Str → Addr) : Kt := fun ρ => setO 3 (lstO (some [])) (fun ρ => forO (((varR ρ 0).bind lenR).bind rng1R) (nameG 4) (fun ρ => setS 5 (o2 ixR (varR ρ 0) (varR ρ 4)) (fun ρ => appO 3 (compO (((varR ρ 5).bind lenR).bind rng1R) [6] (nameG 6) trueC (fun ρ => o2 divR (o2 mulR (callR (F__law_light K cl) (consO (varR ρ 2) (consO (varR ρ 4) (consO (varR ρ 6) (some []))))) (o2 subR (o2 mulR (vI 4) (varR ρ 1)) (o2 mulR (vI 3) (o2 ixR (varR ρ 5) (varR ρ 6))))) (o2 mulR (vI 4) (varR ρ 1))) ρ) (fun ρ => some (.nx ρ)) ρ) ρ) (fun ρ => retV 3 ρ) ρ) ρ
noncomputable def F__law_lit (K : PySem.W.Frag) (cl : Str → Addr) : List D → Option Res := runF ["picture", "most", "light", "rows", "i", "row", "j"] (B__law_lit K cl)
theorem sc__law_lit : FnScope ["picture", "most", "light", "rows", "i", "row", "j"] ["picture", "most", "light"] (defScope (top 22)) := ⟨rfl, rfl, rfl, by decide +kernel, rfl, by decide +kernel, by decide +kernel⟩
theorem w__law_lit (Z : Hd P w K mg base cl) : Fo P w K mg base 4 "_law_lit" 3 (F__law_lit K cl) := by
  obtain ⟨f, fd, F, gm⟩ := Z.d__law_lit
  refine fo_mk F sc__law_lit gm (F.bindsN fun _ _ _ _ _ _ us hl => match us, hl with | [_, _, _], _ => rfl) rfl (by decide) fun cdv A outer s H E g ρ => ?_
  exact oss_set 3 g (oe_lst (oa_nil)) (fun ρ => oss_for g (oi_rng1 Z.b_range (oe_len Z.b_len (oe_var 0))) (og_name 4 g.ge.nd) (fun ρ => oss_setS 5 g (oe_ix (oe_var 0) (oe_var 4)) (fun ρ => oss_append 3 (oe_comp (cond := trueC) (val := fun ρ => o2 divR (o2 mulR (callR (F__law_light K cl) (consO (varR ρ 2) (consO (varR ρ 4) (consO (varR ρ 6) (some []))))) (o2 subR (o2 mulR (vI 4) (varR ρ 1)) (o2 mulR (vI 3) (o2 ixR (varR ρ 5) (varR ρ 6))))) (o2 mulR (vI 4) (varR ρ 1))) [("j", 6)] g.ge (OI.oj (oi_rng1 Z.b_range (oe_len Z.b_len (oe_var 5)))) (blkOk_by rfl) (by decide) (fun _ _ _ _ _ => (og_name 6 g.ge.blk.nd)) (fun _ _ _ _ _ ρ => ots_nil) (fun _ _ _ _ _ ρ => oe_div (oe_mul (oe_call g.ge.blk (w__law_light Z) (by omega) (oa_cons (oe_var 2) (oa_cons (oe_var 4) (oa_cons (oe_var 6) (oa_nil)))) (consO_len (consO_len (consO_len nilO_len)))) (oe_sub (oe_mul (oe_int) (oe_var 1)) (oe_mul (oe_int) (oe_ix (oe_var 5) (oe_var 6))))) (oe_mul (oe_int) (oe_var 1)))) (fun ρ => oss_nil))) (fun ρ => oss_retV 3))
noncomputable def B__law_unlit (K : PySem.W.Frag) (cl : Str → Addr) : Kt := fun ρ => setS 2 (callR (F__law_greatest K cl) (consO (varR ρ 0) (consO (varR ρ 1) (some [])))) (fun ρ => retO (compO (((varR ρ 0).bind lenR).bind rng1R) [3] (nameG 3) trueC (fun ρ => compO (((o2 ixR (varR ρ 0) (vI 0)).bind lenR).bind rng1R) [4] (nameG 4) trueC (fun ρ => (bO (o2 ltR (o2 mulR (vI 8) (o2 ixR (o2 ixR (varR ρ 0) (varR ρ 3)) (varR ρ 4))) (o2 mulR (vI 5) (o2 ixR (o2 ixR (varR ρ 2) (varR ρ 3)) (varR ρ 4))))).bind intR) ρ) ρ)) ρ
noncomputable def F__law_unlit (K : PySem.W.Frag) (cl : Str → Addr) : List D → Option Res := runF ["seen", "reach", "most", "i", "j"] (B__law_unlit K cl)
theorem sc__law_unlit : FnScope ["seen", "reach", "most", "i", "j"] ["seen", "reach"] (defScope (top 24)) := ⟨rfl, rfl, rfl, by decide +kernel, rfl, by decide +kernel, by decide +kernel⟩
theorem w__law_unlit (Z : Hd P w K mg base cl) : Fo P w K mg base 4 "_law_unlit" 2 (F__law_unlit K cl) := by
  obtain ⟨f, fd, F, gm⟩ := Z.d__law_unlit
  refine fo_mk F sc__law_unlit gm (F.bindsN fun _ _ _ _ _ _ us hl => match us, hl with | [_, _], _ => rfl) rfl (by decide) fun cdv A outer s H E g ρ => ?_
  exact oss_setS 2 g (oe_call g.ge (w__law_greatest Z) (by omega) (oa_cons (oe_var 0) (oa_cons (oe_var 1) (oa_nil))) (consO_len (consO_len nilO_len))) (fun ρ => oss_ret (oe_comp (cond := trueC) (val := fun ρ => compO (((o2 ixR (varR ρ 0) (vI 0)).bind lenR).bind rng1R) [4] (nameG 4) trueC (fun ρ => (bO (o2 ltR (o2 mulR (vI 8) (o2 ixR (o2 ixR (varR ρ 0) (varR ρ 3)) (varR ρ 4))) (o2 mulR (vI 5) (o2 ixR (o2 ixR (varR ρ 2) (varR ρ 3)) (varR ρ 4))))).bind intR) ρ) [("i", 3)] g.ge (OI.oj (oi_rng1 Z.b_range (oe_len Z.b_len (oe_var 0)))) (blkOk_by rfl) (by decide) (fun _ _ _ _ _ => (og_name 3 g.ge.blk.nd)) (fun _ _ _ _ _ ρ => ots_nil) (fun _ _ _ _ _ ρ => oe_comp (cond := trueC) (val := fun ρ => (bO (o2 ltR (o2 mulR (vI 8) (o2 ixR (o2 ixR (varR ρ 0) (varR ρ 3)) (varR ρ 4))) (o2 mulR (vI 5) (o2 ixR (o2 ixR (varR ρ 2) (varR ρ 3)) (varR ρ 4))))).bind intR) [("j", 4)] g.ge.blk (OI.oj (oi_rng1 Z.b_range (oe_len Z.b_len (oe_ix (oe_var 0) (oe_int))))) (blkOk_by rfl) (by decide) (fun _ _ _ _ _ => (og_name 4 g.ge.blk.blk.nd)) (fun _ _ _ _ _ ρ => ots_nil) (fun _ _ _ _ _ ρ => oe_intf Z.b_int (oe_cmp (oc_lt (oe_mul (oe_int) (oe_ix (oe_ix (oe_var 0) (oe_var 3)) (oe_var 4))) (oe_mul (oe_int) (oe_ix (oe_ix (oe_var 2) (oe_var 3)) (oe_var 4)))))))))
noncomputable def B_check_picture (K : PySem.W.Frag) (cl : Str → Addr) : Kt := fun ρ => ifO (((callR (F_is_picture K cl) (consO (varR ρ 0) (consO (varR ρ 1) (some [])))).bind R.t).map (!·)) (raiO (cl "BadPicture") "reason" (vS "picture") ρ) (some (.nx ρ)) (fun ρ => some (.nx ρ))
noncomputable def F_check_picture (K : PySem.W.Frag) (cl : Str → Addr) : List D → Option Res := runF ["value", "most"] (B_check_picture K cl)
theorem sc_check_picture : FnScope ["value", "most"] ["value", "most"] (defScope (top 9)) := ⟨rfl, rfl, rfl, by decide +kernel, rfl, by decide +kernel, by decide +kernel⟩
theorem w_check_picture (Z : Hd P w K mg base cl) : Fo P w K mg base 5 "check_picture" 2 (F_check_picture K cl) := by
  obtain ⟨f, fd, F, gm⟩ := Z.d_check_picture
  refine fo_mk F sc_check_picture gm (F.bindsN fun _ _ _ _ _ _ us hl => match us, hl with | [_, _], _ => rfl) rfl (by decide) fun cdv A outer s H E g ρ => ?_
  exact oss_if (ot_not (ot_val (oe_call g.ge (w_is_picture Z) (by omega) (oa_cons (oe_var 0) (oa_cons (oe_var 1) (oa_nil))) (consO_len (consO_len nilO_len))))) (oss_raiseF g Z.e_BadPicture (oe_str)) (oss_nil) (fun ρ => oss_nil)
noncomputable def B_lit (K : PySem.W.Frag) (cl : Str → Addr) : Kt := fun ρ => exprX (callX (F_check_picture K cl) (consO (varR ρ 0) (consO (varR ρ 1) (some [])))) (fun ρ => ifO (((callR (F_is_light K cl) (consO (varR ρ 2) (some []))).bind R.t).map (!·)) (raiO (cl "BadPicture") "reason" (vS "light") ρ) (some (.nx ρ)) (fun ρ => setO 3 (lstO (some [])) (fun ρ => forO ((varR ρ 0).bind enum2R) (tupG 2 (consG (nameG 4) (consG (nameG 5) nilG))) (fun ρ => appO 3 (compO ((varR ρ 5).bind enumJ) [6, 7] (tupG 2 (consG (nameG 6) (consG (nameG 7) nilG))) trueC (fun ρ => o2 divR (o2 mulR (callR (F_light_at K cl) (consO (varR ρ 2) (consO (varR ρ 6) (consO (varR ρ 4) (some []))))) (o2 subR (o2 mulR (vI 4) (varR ρ 1)) (o2 mulR (vI 3) (varR ρ 7)))) (o2 mulR (vI 4) (varR ρ 1))) ρ) (fun ρ => some (.nx ρ)) ρ) (fun ρ => retV 3 ρ) ρ) ρ)) ρ
noncomputable def F_lit (K : PySem.W.Frag) (cl : Str → Addr) : List D → Option Res := runF ["picture", "most", "light", "found", "j", "row", "i", "n"] (B_lit K cl)
theorem sc_lit : FnScope ["picture", "most", "light", "found", "j", "row", "i", "n"] ["picture", "most", "light"] (defScope (top 13)) := ⟨rfl, rfl, rfl, by decide +kernel, rfl, by decide +kernel, by decide +kernel⟩
theorem w_lit (Z : Hd P w K mg base cl) : Fo P w K mg base 6 "lit" 3 (F_lit K cl) := by
  obtain ⟨f, fd, F, gm⟩ := Z.d_lit
  refine fo_mk F sc_lit gm (F.bindsN fun _ _ _ _ _ _ us hl => match us, hl with | [_, _, _], _ => rfl) rfl (by decide) fun cdv A outer s H E g ρ => ?_
  exact oss_exprX (ox_call g (w_check_picture Z) (by omega) (oa_cons (oe_var 0) (oa_cons (oe_var 1) (oa_nil))) (consO_len (consO_len nilO_len))) (fun ρ => oss_if (ot_not (ot_val (oe_call g.ge (w_is_light Z) (by omega) (oa_cons (oe_var 2) (oa_nil)) (consO_len nilO_len)))) (oss_raiseF g Z.e_BadPicture (oe_str)) (oss_nil) (fun ρ => oss_set 3 g (oe_lst (oa_nil)) (fun ρ => oss_for g (oi_enum2 Z.b_enumerate (oe_var 0)) (og_tup g.ge.calm (ogs_cons (og_name 4 g.ge.nd) (ogs_cons (og_name 5 g.ge.nd) ogs_nil))) (fun ρ => oss_append 3 (oe_comp (cond := trueC) (val := fun ρ => o2 divR (o2 mulR (callR (F_light_at K cl) (consO (varR ρ 2) (consO (varR ρ 6) (consO (varR ρ 4) (some []))))) (o2 subR (o2 mulR (vI 4) (varR ρ 1)) (o2 mulR (vI 3) (varR ρ 7)))) (o2 mulR (vI 4) (varR ρ 1))) [("i", 6), ("n", 7)] g.ge (oj_enum Z.b_enumerate (oe_var 5)) (blkOk_by rfl) (by decide) (fun _ _ _ _ _ => (og_tup g.ge.blk.calm (ogs_cons (og_name 6 g.ge.blk.nd) (ogs_cons (og_name 7 g.ge.blk.nd) ogs_nil)))) (fun _ _ _ _ _ ρ => ots_nil) (fun _ _ _ _ _ ρ => oe_div (oe_mul (oe_call g.ge.blk (w_light_at Z) (by omega) (oa_cons (oe_var 2) (oa_cons (oe_var 6) (oa_cons (oe_var 4) (oa_nil)))) (consO_len (consO_len (consO_len nilO_len)))) (oe_sub (oe_mul (oe_int) (oe_var 1)) (oe_mul (oe_int) (oe_var 7)))) (oe_mul (oe_int) (oe_var 1)))) (fun ρ => oss_nil)) (fun ρ => oss_retV 3))))
noncomputable def B_unlit (K : PySem.W.Frag) (cl : Str → Addr) : Kt := fun ρ => exprX (callX (F_check_picture K cl) (consO (varR ρ 0) (consO (o2 mulR (vD c_MOST_LIGHT) (vD c_MOST_SIDE)) (some [])))) (fun ρ => ifO (orB (((callR (F_is_whole K cl) (consO (varR ρ 1) (some []))).bind R.t).map (!·)) ((chR (fun i j => decide (i ≤ j)) (fun i j => decide (i ≤ j)) (vI 0) (varR ρ 1) (vD c_MOST_SIDE)).map (!·))) (raiO (cl "BadPicture") "reason" (vS "reach") ρ) (some (.nx ρ)) (fun ρ => setS 2 (callR (F_greatest_round K cl) (consO (varR ρ 0) (consO (varR ρ 1) (some [])))) (fun ρ => setT 3 (lstT (some [])) (fun ρ => forO (o2 zip2R (varR ρ 0) (varR ρ 2)) (tupG 2 (consG (nameG 4) (consG (nameG 5) nilG))) (fun ρ => appPO 3 (some []) ((compO (o2 zipTJ (varR ρ 4) (varR ρ 5)) [6, 7] (tupG 2 (consG (nameG 6) (consG (nameG 7) nilG))) trueC (fun ρ => (bO (o2 ltR (o2 mulR (vI 8) (varR ρ 6)) (o2 mulR (vI 5) (varR ρ 7)))).bind intR) ρ).bind r2T) (fun ρ => some (.nx ρ)) ρ) (fun ρ => retV 3 ρ) ρ) ρ) ρ)) ρ
noncomputable def F_unlit (K : PySem.W.Frag) (cl : Str → Addr) : List D → Option Res := runF ["seen", "reach", "near", "found", "row", "greatest", "n", "most"] (B_unlit K cl)
theorem sc_unlit : FnScope ["seen", "reach", "near", "found", "row", "greatest", "n", "most"] ["seen", "reach"] (defScope (top 16)) := ⟨rfl, rfl, rfl, by decide +kernel, rfl, by decide +kernel, by decide +kernel⟩
theorem w_unlit (Z : Hd P w K mg base cl) : Fo P w K mg base 6 "unlit" 2 (F_unlit K cl) := by
  obtain ⟨f, fd, F, gm⟩ := Z.d_unlit
  refine fo_mk F sc_unlit gm (F.bindsN fun _ _ _ _ _ _ us hl => match us, hl with | [_, _], _ => rfl) rfl (by decide) fun cdv A outer s H E g ρ => ?_
  exact oss_exprX (ox_call g (w_check_picture Z) (by omega) (oa_cons (oe_var 0) (oa_cons (oe_mul (oe_glob Z.c_MOST_LIGHT) (oe_glob Z.c_MOST_SIDE)) (oa_nil))) (consO_len (consO_len nilO_len))) (fun ρ => oss_if (ot_w (ow_or (ot_not (ot_val (oe_call g.ge (w_is_whole Z) (by omega) (oa_cons (oe_var 1) (oa_nil)) (consO_len nilO_len)))) (ow_or1 (ot_not (ot_chain iop_le iop_le (oe_int) (oe_var 1) (oe_glob Z.c_MOST_SIDE)))))) (oss_raiseF g Z.e_BadPicture (oe_str)) (oss_nil) (fun ρ => oss_setS 2 g (oe_call g.ge (w_greatest_round Z) (by omega) (oa_cons (oe_var 0) (oa_cons (oe_var 1) (oa_nil))) (consO_len (consO_len nilO_len))) (fun ρ => oss_setT 3 g (of_lst (oaf_nil)) (fun ρ => oss_for g (oi_zip2 Z.b_zip (oe_var 0) (oe_var 2)) (og_tup g.ge.calm (ogs_cons (og_name 4 g.ge.nd) (ogs_cons (og_name 5 g.ge.nd) ogs_nil))) (fun ρ => oss_appP (oad_var 3) (of_e (oe_comp (cond := trueC) (val := fun ρ => (bO (o2 ltR (o2 mulR (vI 8) (varR ρ 6)) (o2 mulR (vI 5) (varR ρ 7)))).bind intR) [("n", 6), ("most", 7)] g.ge (oj_zipT Z.b_zip (oe_var 4) (oe_var 5)) (blkOk_by rfl) (by decide) (fun _ _ _ _ _ => (og_tup g.ge.blk.calm (ogs_cons (og_name 6 g.ge.blk.nd) (ogs_cons (og_name 7 g.ge.blk.nd) ogs_nil)))) (fun _ _ _ _ _ ρ => ots_nil) (fun _ _ _ _ _ ρ => oe_intf Z.b_int (oe_cmp (oc_lt (oe_mul (oe_int) (oe_var 6)) (oe_mul (oe_int) (oe_var 7))))))) (fun ρ => oss_nil)) (fun ρ => oss_retV 3)))))
noncomputable def B__law_reason (K : PySem.W.Frag) (cl : Str → Addr) : Kt := fun ρ => tryO (ifO (o2 eqR (varR ρ 0) (vI 0)) (exprX (callX (F_lit K cl) (consO (varR ρ 1) (consO (varR ρ 2) (consO (varR ρ 3) (some []))))) (fun ρ => some (.nx ρ)) ρ) (exprX (callX (F_unlit K cl) (consO (varR ρ 1) (consO (varR ρ 2) (some [])))) (fun ρ => some (.nx ρ)) ρ) (fun ρ => some (.nx ρ))) (exM K cl "BadPicture") (fun ex ρ => retO (exfO 4 (errs_reason cl) "reason" ex ρ)) (fun ρ => retO (vD .non))
noncomputable def F__law_reason (K : PySem.W.Frag) (cl : Str → Addr) : List D → Option Res := runF ["which", "one", "other", "third", "e"] (B__law_reason K cl)
theorem sc__law_reason : FnScope ["which", "one", "other", "third", "e"] ["which", "one", "other", "third"] (defScope (top 25)) := ⟨rfl, rfl, rfl, by decide +kernel, rfl, by decide +kernel, by decide +kernel⟩
theorem w__law_reason (Z : Hd P w K mg base cl) : Fo P w K mg base 7 "_law_reason" 4 (F__law_reason K cl) := by
  obtain ⟨f, fd, F, gm⟩ := Z.d__law_reason
  refine fo_mk F sc__law_reason gm (F.bindsN fun _ _ _ _ _ _ us hl => match us, hl with | [_, _, _, _], _ => rfl) rfl (by decide) fun cdv A outer s H E g ρ => ?_
  exact oss_tryAs 4 g (names_of "BadPicture" Z.m_BadPicture) (fun _ _ h => h) (fun V pn xe g => oss_if (ot_cmp (oc_eq g.ge (oe_var 0) (oe_int))) (oss_exprX (ox_call g (w_lit Z) (by omega) (oa_cons (oe_var 1) (oa_cons (oe_var 2) (oa_cons (oe_var 3) (oa_nil)))) (consO_len (consO_len (consO_len nilO_len)))) (fun ρ => oss_nil)) (oss_exprX (ox_call g (w_unlit Z) (by omega) (oa_cons (oe_var 1) (oa_cons (oe_var 2) (oa_nil))) (consO_len (consO_len nilO_len))) (fun ρ => oss_nil)) (fun ρ => oss_nil)) (fun ex ρ hM => ou_ret (fun a dd oe pn q1 q2 q3 q4 => oe_ue (ue_fldO 4 Z.x_reason) q1 q2 q3 q4)) (fun ρ => oss_ret (oe_non))
noncomputable def B__law_refused_holds (K : PySem.W.Frag) (cl : Str → Addr) : Kt := fun ρ => setS 3 (o2 ixR (varR ρ 0) ((vI 1).bind negR)) (fun ρ => forO ((lstO (consO (vD .non) (consO (lstO (some [])) (consO (lstO (consO (lstO (some [])) (some []))) (consO ((varR ρ 0).bind tupleR) (consO (o2 addR (varR ρ 0) (lstO (consO (o2 addR (varR ρ 3) (lstO (consO (vI 0) (some [])))) (some [])))) (consO (o2 addR (slO (varR ρ 0) (some none) (ooR ((vI 1).bind negR))) (lstO (consO (o2 addR (slO (varR ρ 3) (some none) (ooR ((vI 1).bind negR))) (lstO (consO (vB true) (some [])))) (some [])))) (consO (o2 addR (slO (varR ρ 0) (some none) (ooR ((vI 1).bind negR))) (lstO (consO (o2 addR (slO (varR ρ 3) (some none) (ooR ((vI 1).bind negR))) (lstO (consO ((vI 1).bind negR) (some [])))) (some [])))) (consO (o2 addR (slO (varR ρ 0) (some none) (ooR ((vI 1).bind negR))) (lstO (consO ((varR ρ 3).bind tupleR) (some [])))) (some [])))))))))).bind srcI) (nameG 4) (fun ρ => ifO (orB (o2 neR (callR (F__law_reason K cl) (consO (vI 0) (consO (varR ρ 4) (consO (varR ρ 1) (consO (varR ρ 2) (some [])))))) (vS "picture")) (o2 neR (callR (F__law_reason K cl) (consO (vI 1) (consO (varR ρ 4) (consO (vI 1) (consO (vD .non) (some [])))))) (vS "picture"))) (retO (vB false)) (some (.nx ρ)) (fun ρ => some (.nx ρ))) (fun ρ => ifO (o2 neR (callR (F__law_reason K cl) (consO (vI 0) (consO (o2 addR (slO (varR ρ 0) (some none) (ooR ((vI 1).bind negR))) (lstO (consO (o2 addR (slO (varR ρ 3) (some none) (ooR ((vI 1).bind negR))) (lstO (consO (o2 addR (varR ρ 1) (vI 1)) (some [])))) (some [])))) (consO (varR ρ 1) (consO (varR ρ 2) (some [])))))) (vS "picture")) (retO (vB false)) (some (.nx ρ)) (fun ρ => forO ((lstO (consO (vD .non) (consO ((varR ρ 2).bind listR) (consO (slO (varR ρ 2) (some none) (ooR (vI 2))) (consO (o2 addR (varR ρ 2) (tupO (consO (vI 0) (some [])))) (consO (tupO (consO (vI 4097) (consO (vI 0) (consO (vI 0) (some []))))) (consO (tupO (consO (vI 0) (consO ((vI 4097).bind negR) (consO (vI 0) (some []))))) (consO (tupO (consO (vI 0) (consO (vI 0) (consO (vI 4097) (some []))))) (consO (o2 addR (slO (varR ρ 2) (some none) (ooR (vI 2))) (tupO (consO (vB true) (some [])))) (some [])))))))))).bind srcI) (nameG 4) (fun ρ => ifO (orB (o2 isnR (callR (F_is_light K cl) (consO (varR ρ 4) (some []))) (vB false)) (o2 neR (callR (F__law_reason K cl) (consO (vI 0) (consO (varR ρ 0) (consO (varR ρ 1) (consO (varR ρ 4) (some [])))))) (vS "light"))) (retO (vB false)) (some (.nx ρ)) (fun ρ => some (.nx ρ))) (fun ρ => ifO (o2 neR (compO ((lstO (consO (varR ρ 2) (consO (tupO (consO (vI 4096) (consO ((vI 4096).bind negR) (consO (vI 4096) (some []))))) (consO (tupO (consO (vI 0) (consO (vI 0) (consO (vI 0) (some []))))) (some []))))).bind srcJ) [4] (nameG 4) (fun ρ => o2 isnR (callR (F_is_light K cl) (consO (varR ρ 4) (some []))) (vB true)) (fun ρ => varR ρ 4) ρ) (lstO (some []))) (retO (vB false)) (some (.nx ρ)) (fun ρ => retO (bO (o2 eqR (compO ((lstO (consO ((vI 1).bind negR) (consO (vI 301) (consO (vB true) (consO (vD .non) (some [])))))).bind srcJ) [4] (nameG 4) (fun ρ => o2 neR (callR (F__law_reason K cl) (consO (vI 1) (consO (varR ρ 0) (consO (varR ρ 4) (consO (vD .non) (some [])))))) (vS "reach")) (fun ρ => varR ρ 4) ρ) (lstO (some [])))))) ρ)) ρ) ρ
noncomputable def F__law_refused_holds (K : PySem.W.Frag) (cl : Str → Addr) : List D → Option Res := runF ["picture", "most", "light", "last", "value"] (B__law_refused_holds K cl)
theorem sc__law_refused_holds : FnScope ["picture", "most", "light", "last", "value"] ["picture", "most", "light"] (defScope (top 26)) := ⟨rfl, rfl, rfl, by decide +kernel, rfl, by decide +kernel, by decide +kernel⟩
theorem w__law_refused_holds (Z : Hd P w K mg base cl) : Fo P w K mg base 8 "_law_refused_holds" 3 (F__law_refused_holds K cl) := by
  obtain ⟨f, fd, F, gm⟩ := Z.d__law_refused_holds
  refine fo_mk F sc__law_refused_holds gm (F.bindsN fun _ _ _ _ _ _ us hl => match us, hl with | [_, _, _], _ => rfl) rfl (by decide) fun cdv A outer s H E g ρ => ?_
  exact oss_setS 3 g (oe_ix (oe_var 0) (oe_neg (oe_int))) (fun ρ => oss_for g (oi_e (oe_lst (oa_cons (oe_non) (oa_cons (oe_lst (oa_nil)) (oa_cons (oe_lst (oa_cons (oe_lst (oa_nil)) (oa_nil))) (oa_cons (oe_tuple Z.b_tuple (oe_var 0)) (oa_cons (oe_add (oe_var 0) (oe_lst (oa_cons (oe_add (oe_var 3) (oe_lst (oa_cons (oe_int) (oa_nil)))) (oa_nil)))) (oa_cons (oe_add (oe_sl (oe_var 0) (oo_none) (oo_some (oe_neg (oe_int)))) (oe_lst (oa_cons (oe_add (oe_sl (oe_var 3) (oo_none) (oo_some (oe_neg (oe_int)))) (oe_lst (oa_cons (oe_bl) (oa_nil)))) (oa_nil)))) (oa_cons (oe_add (oe_sl (oe_var 0) (oo_none) (oo_some (oe_neg (oe_int)))) (oe_lst (oa_cons (oe_add (oe_sl (oe_var 3) (oo_none) (oo_some (oe_neg (oe_int)))) (oe_lst (oa_cons (oe_neg (oe_int)) (oa_nil)))) (oa_nil)))) (oa_cons (oe_add (oe_sl (oe_var 0) (oo_none) (oo_some (oe_neg (oe_int)))) (oe_lst (oa_cons (oe_tuple Z.b_tuple (oe_var 3)) (oa_nil)))) (oa_nil))))))))))) (og_name 4 g.ge.nd) (fun ρ => oss_if (ot_w (ow_or (ot_cmp (oc_ne g.ge (oe_call g.ge (w__law_reason Z) (by omega) (oa_cons (oe_int) (oa_cons (oe_var 4) (oa_cons (oe_var 1) (oa_cons (oe_var 2) (oa_nil))))) (consO_len (consO_len (consO_len (consO_len nilO_len))))) (oe_str))) (ow_or1 (ot_cmp (oc_ne g.ge (oe_call g.ge (w__law_reason Z) (by omega) (oa_cons (oe_int) (oa_cons (oe_var 4) (oa_cons (oe_int) (oa_cons (oe_non) (oa_nil))))) (consO_len (consO_len (consO_len (consO_len nilO_len))))) (oe_str)))))) (oss_ret (oe_bl)) (oss_nil) (fun ρ => oss_nil)) (fun ρ => oss_if (ot_cmp (oc_ne g.ge (oe_call g.ge (w__law_reason Z) (by omega) (oa_cons (oe_int) (oa_cons (oe_add (oe_sl (oe_var 0) (oo_none) (oo_some (oe_neg (oe_int)))) (oe_lst (oa_cons (oe_add (oe_sl (oe_var 3) (oo_none) (oo_some (oe_neg (oe_int)))) (oe_lst (oa_cons (oe_add (oe_var 1) (oe_int)) (oa_nil)))) (oa_nil)))) (oa_cons (oe_var 1) (oa_cons (oe_var 2) (oa_nil))))) (consO_len (consO_len (consO_len (consO_len nilO_len))))) (oe_str))) (oss_ret (oe_bl)) (oss_nil) (fun ρ => oss_for g (oi_e (oe_lst (oa_cons (oe_non) (oa_cons (oe_list Z.b_list (oe_var 2)) (oa_cons (oe_sl (oe_var 2) (oo_none) (oo_some (oe_int))) (oa_cons (oe_add (oe_var 2) (oe_tup (oa_cons (oe_int) (oa_nil)))) (oa_cons (oe_tup (oa_cons (oe_int) (oa_cons (oe_int) (oa_cons (oe_int) (oa_nil))))) (oa_cons (oe_tup (oa_cons (oe_int) (oa_cons (oe_neg (oe_int)) (oa_cons (oe_int) (oa_nil))))) (oa_cons (oe_tup (oa_cons (oe_int) (oa_cons (oe_int) (oa_cons (oe_int) (oa_nil))))) (oa_cons (oe_add (oe_sl (oe_var 2) (oo_none) (oo_some (oe_int))) (oe_tup (oa_cons (oe_bl) (oa_nil)))) (oa_nil))))))))))) (og_name 4 g.ge.nd) (fun ρ => oss_if (ot_w (ow_or (ot_cmp (oc_isn (oe_call g.ge (w_is_light Z) (by omega) (oa_cons (oe_var 4) (oa_nil)) (consO_len nilO_len)) (oe_bl))) (ow_or1 (ot_cmp (oc_ne g.ge (oe_call g.ge (w__law_reason Z) (by omega) (oa_cons (oe_int) (oa_cons (oe_var 0) (oa_cons (oe_var 1) (oa_cons (oe_var 4) (oa_nil))))) (consO_len (consO_len (consO_len (consO_len nilO_len))))) (oe_str)))))) (oss_ret (oe_bl)) (oss_nil) (fun ρ => oss_nil)) (fun ρ => oss_if (ot_cmp (oc_ne g.ge (oe_comp (cond := (fun ρ => o2 isnR (callR (F_is_light K cl) (consO (varR ρ 4) (some []))) (vB true))) (val := fun ρ => varR ρ 4) [("value", 4)] g.ge (oj_e (oe_lst (oa_cons (oe_var 2) (oa_cons (oe_tup (oa_cons (oe_int) (oa_cons (oe_neg (oe_int)) (oa_cons (oe_int) (oa_nil))))) (oa_cons (oe_tup (oa_cons (oe_int) (oa_cons (oe_int) (oa_cons (oe_int) (oa_nil))))) (oa_nil)))))) (blkOk_by rfl) (by decide) (fun _ _ _ _ _ => (og_name 4 g.ge.blk.nd)) (fun _ _ _ _ _ ρ => ots_one (ot_cmp (oc_isn (oe_call g.ge.blk (w_is_light Z) (by omega) (oa_cons (oe_var 4) (oa_nil)) (consO_len nilO_len)) (oe_bl)))) (fun _ _ _ _ _ ρ => oe_var 4)) (oe_lst (oa_nil)))) (oss_ret (oe_bl)) (oss_nil) (fun ρ => oss_ret (oe_cmp (oc_eq g.ge (oe_comp (cond := (fun ρ => o2 neR (callR (F__law_reason K cl) (consO (vI 1) (consO (varR ρ 0) (consO (varR ρ 4) (consO (vD .non) (some [])))))) (vS "reach"))) (val := fun ρ => varR ρ 4) [("value", 4)] g.ge (oj_e (oe_lst (oa_cons (oe_neg (oe_int)) (oa_cons (oe_int) (oa_cons (oe_bl) (oa_cons (oe_non) (oa_nil))))))) (blkOk_by rfl) (by decide) (fun _ _ _ _ _ => (og_name 4 g.ge.blk.nd)) (fun _ _ _ _ _ ρ => ots_one (ot_cmp (oc_ne g.ge.blk (oe_call g.ge.blk (w__law_reason Z) (by omega) (oa_cons (oe_int) (oa_cons (oe_var 0) (oa_cons (oe_var 4) (oa_cons (oe_non) (oa_nil))))) (consO_len (consO_len (consO_len (consO_len nilO_len))))) (oe_str)))) (fun _ _ _ _ _ ρ => oe_var 4)) (oe_lst (oa_nil)))))))))
noncomputable def B_law (K : PySem.W.Frag) (cl : Str → Addr) : Kt := fun ρ => setS 1 (callR (F__law_numbers K cl) (consO (varR ρ 0) (consO (vI 0) (consO (vI 40) (some []))))) (fun ρ => asgO (tupG 3 (consG (nameG 2) (consG (nameG 3) (consG (nameG 4) nilG)))) (tupO (consO (o2 addR (vI 1) (o2 modR (o2 ixR (varR ρ 1) (vI 0)) (vI 24))) (consO (o2 addR (vI 1) (o2 modR (o2 ixR (varR ρ 1) (vI 1)) (vI 24))) (consO (o2 ixR (lstO (consO (vI 1) (consO (vI 4) (consO (vI 9) (consO (vI 16) (some [])))))) (o2 modR (o2 ixR (varR ρ 1) (vI 2)) (vI 4))) (some []))))) (fun ρ => setS 5 (callR (F__law_picture K cl) (consO (slO (varR ρ 1) (ooR (vI 3)) (some none)) (consO (varR ρ 2) (consO (varR ρ 3) (consO (varR ρ 4) (some [])))))) (fun ρ => setS 6 (tupO (consO (o2 mulR (o2 ixR (varR ρ 1) (vI 12)) (vI 4)) (consO (o2 subR (o2 mulR (o2 ixR (varR ρ 1) (vI 13)) (vI 8)) (vI 4036)) (consO (o2 subR (o2 mulR (o2 ixR (varR ρ 1) (vI 14)) (vI 8)) (vI 4036)) (some []))))) (fun ρ => ifO (o2 gtR (o2 modR (o2 ixR (varR ρ 1) (vI 15)) (vI 4)) (vI 0)) (setS 6 (tupO (consO (o2 addR (vI 1000) (o2 mulR (o2 ixR (varR ρ 1) (vI 12)) (vI 3))) (consO (o2 subR (o2 modR (o2 ixR (varR ρ 1) (vI 13)) (vI 41)) (vI 20)) (consO (o2 subR (o2 modR (o2 ixR (varR ρ 1) (vI 14)) (vI 41)) (vI 20)) (some []))))) (fun ρ => some (.nx ρ)) ρ) (some (.nx ρ)) (fun ρ => ifO (o2 eqR (o2 modR (o2 ixR (varR ρ 1) (vI 15)) (vI 16)) (vI 4)) (setS 6 (o2 ixR (lstO (consO (tupO (consO (vI 4096) (consO (vI 4096) (consO (vI 4096) (some []))))) (consO (tupO (consO ((vI 4096).bind negR) (consO (vI 4096) (consO ((vI 4096).bind negR) (some []))))) (consO (tupO (consO (vI 4096) (consO ((vI 4096).bind negR) (consO ((vI 4096).bind negR) (some []))))) (consO (tupO (consO (vI 0) (consO (vI 0) (consO (vI 0) (some []))))) (some [])))))) (o2 modR (o2 ixR (varR ρ 1) (vI 16)) (vI 4))) (fun ρ => some (.nx ρ)) ρ) (some (.nx ρ)) (fun ρ => setLO 7 (compO ((varR ρ 5).bind srcJ) [16] (nameG 16) trueC (fun ρ => (varR ρ 16).bind listR) ρ) (fun ρ => setS 8 (callR (F__law_lit K cl) (consO (varR ρ 5) (consO (varR ρ 4) (consO (varR ρ 6) (some []))))) (fun ρ => setXS 9 (callX (F_lit K cl) (consO (varR ρ 7) (consO (varR ρ 4) (consO (varR ρ 6) (some []))))) (fun ρ => ifO (orB (o2 neR ((varR ρ 9).bind reprR) ((varR ρ 8).bind reprR)) (o2 neR (varR ρ 7) (varR ρ 5))) (retO (vB false)) (some (.nx ρ)) (fun ρ => setS 10 (o2 ixR (lstO (consO (o2 modR (o2 ixR (varR ρ 1) (vI 17)) (vI 4)) (consO (o2 modR (o2 ixR (varR ρ 1) (vI 17)) (vI 30)) (consO (vI 0) (consO (vI 300) (consO (o2 addR (vI 2) (o2 modR (o2 ixR (varR ρ 1) (vI 17)) (vI 9))) (some []))))))) (o2 modR (o2 ixR (varR ρ 1) (vI 18)) (vI 5))) (fun ρ => setLO 7 (compO ((varR ρ 8).bind srcJ) [16] (nameG 16) trueC (fun ρ => (varR ρ 16).bind listR) ρ) (fun ρ => setXO 11 (callX (F_unlit K cl) (consO (varR ρ 7) (consO (varR ρ 10) (some [])))) (fun ρ => ifO (lendTB 11 (fun ρ => orB (o2 neR ((varR ρ 11).bind reprR) ((callR (F__law_unlit K cl) (consO (varR ρ 8) (consO (varR ρ 10) (some [])))).bind reprR)) (o2 neR (varR ρ 7) (varR ρ 8))) ρ) (retO (vB false)) (some (.nx ρ)) (fun ρ => ifO (o2 neR ((callR (F_unlit K cl) (consO (varR ρ 5) (consO (varR ρ 10) (some [])))).bind reprR) ((callR (F__law_unlit K cl) (consO (varR ρ 5) (consO (varR ρ 10) (some [])))).bind reprR)) (retO (vB false)) (some (.nx ρ)) (fun ρ => setS 12 (lstO (some [])) (fun ρ => forO ((varR ρ 3).bind rng1R) (nameG 13) (fun ρ => setS 12 (o2 addR (varR ρ 12) (compO ((varR ρ 2).bind rng1R) [17] (nameG 17) trueC (fun ρ => callR (F__law_light K cl) (consO (varR ρ 6) (consO (varR ρ 13) (consO (varR ρ 17) (some []))))) ρ)) (fun ρ => some (.nx ρ)) ρ) (fun ρ => setS 14 (bO (o2 eqR (compO ((varR ρ 5).bind srcJ) [18] (nameG 18) (fun ρ => o2 neR (compO ((varR ρ 18).bind srcJ) [19] (nameG 19) (fun ρ => (o2 in2R (varR ρ 19) (tupO (consO (vI 0) (consO (varR ρ 4) (some []))))).map (!·)) (fun ρ => varR ρ 19) ρ) (lstO (some []))) (fun ρ => varR ρ 18) ρ) (lstO (some [])))) (fun ρ => setLO 15 (compO ((callR (F__law_greatest K cl) (consO (compO ((varR ρ 5).bind srcJ) [16] (nameG 16) trueC (fun ρ => compO ((varR ρ 16).bind srcJ) [19] (nameG 19) trueC (fun ρ => (bO (o2 eqR (varR ρ 19) (vI 0))).bind intR) ρ) ρ) (consO (varR ρ 10) (some [])))).bind srcJ) [16] (nameG 16) (fun ρ => o2 in2R (vI 0) (varR ρ 16)) (fun ρ => varR ρ 16) ρ) (fun ρ => ifO (lendTB 11 (fun ρ => andB ((varR ρ 14).bind R.w) (andB (o2 eqR (varR ρ 15) (lstO (some []))) (andB (o2 ltR (vI 0) ((varR ρ 12).bind maxR)) (andB (o2 leR (o2 mulR (vI 5) ((varR ρ 12).bind maxR)) (o2 mulR (vI 8) ((varR ρ 12).bind minR))) (o2 neR (varR ρ 11) (callR (F_black_and_white K cl) (consO (varR ρ 5) (consO (varR ρ 4) (some []))))))))) ρ) (retO (vB false)) (some (.nx ρ)) (fun ρ => appPO 11 (adI 11 (some []) (vI 0) ρ) ((vI 7).bind r2T) (fun ρ => ifO (o2 neR (callR (F_unlit K cl) (consO (varR ρ 7) (consO (varR ρ 10) (some [])))) (callR (F__law_unlit K cl) (consO (varR ρ 8) (consO (varR ρ 10) (some []))))) (retO (vB false)) (some (.nx ρ)) (fun ρ => retO (callR (F__law_refused_holds K cl) (consO (varR ρ 5) (consO (varR ρ 4) (consO (varR ρ 6) (some []))))))) ρ)) ρ) ρ) ρ) ρ))) ρ) ρ) ρ)) ρ) ρ) ρ))) ρ) ρ) ρ) ρ
noncomputable def F_law (K : PySem.W.Frag) (cl : Str → Addr) : List D → Option Res := runF ["script", "numbers", "wide", "high", "most", "picture", "light", "kept", "due", "seen", "reach", "told", "lights", "i", "plain", "shaded", "row", "j", "value", "one"] (B_law K cl)
theorem sc_law : FnScope ["script", "numbers", "wide", "high", "most", "picture", "light", "kept", "due", "seen", "reach", "told", "lights", "i", "plain", "shaded", "row", "j", "value", "one"] ["script"] (defScope (top 27)) := ⟨rfl, rfl, rfl, by decide +kernel, rfl, by decide +kernel, by decide +kernel⟩
theorem w_law {f : Addr} {fd : FuncData} (Z : Hd P w K mg base cl) (F : FnP K "law" (top 27) f fd) (ht : ∀ ns : List Int, ns.length ≤ 63 → F_law K cl [.ro (iD ns)] = some (.sh (.bl true))) : FnG P w K mg base 9 f fd ["script"] (spLaw K) := by
  refine law_mk F sc_law rfl (by decide) (fun cdv A outer s H E g ρ => ?_) ht
  exact oss_setS 1 g (oe_call g.ge (w__law_numbers Z) (by omega) (oa_cons (oe_var 0) (oa_cons (oe_int) (oa_cons (oe_int) (oa_nil)))) (consO_len (consO_len (consO_len nilO_len)))) (fun ρ => oss_asg (oe_tup (oa_cons (oe_add (oe_int) (oe_mod (oe_ix (oe_var 1) (oe_int)) (oe_int))) (oa_cons (oe_add (oe_int) (oe_mod (oe_ix (oe_var 1) (oe_int)) (oe_int))) (oa_cons (oe_ix (oe_lst (oa_cons (oe_int) (oa_cons (oe_int) (oa_cons (oe_int) (oa_cons (oe_int) (oa_nil)))))) (oe_mod (oe_ix (oe_var 1) (oe_int)) (oe_int))) (oa_nil))))) (og_tup g.ge.calm (ogs_cons (og_name 2 g.ge.nd) (ogs_cons (og_name 3 g.ge.nd) (ogs_cons (og_name 4 g.ge.nd) ogs_nil)))) (fun ρ => oss_setS 5 g (oe_call g.ge (w__law_picture Z) (by omega) (oa_cons (oe_sl (oe_var 1) (oo_some (oe_int)) (oo_none)) (oa_cons (oe_var 2) (oa_cons (oe_var 3) (oa_cons (oe_var 4) (oa_nil))))) (consO_len (consO_len (consO_len (consO_len nilO_len))))) (fun ρ => oss_setS 6 g (oe_tup (oa_cons (oe_mul (oe_ix (oe_var 1) (oe_int)) (oe_int)) (oa_cons (oe_sub (oe_mul (oe_ix (oe_var 1) (oe_int)) (oe_int)) (oe_int)) (oa_cons (oe_sub (oe_mul (oe_ix (oe_var 1) (oe_int)) (oe_int)) (oe_int)) (oa_nil))))) (fun ρ => oss_if (ot_cmp (oc_gt (oe_mod (oe_ix (oe_var 1) (oe_int)) (oe_int)) (oe_int))) (oss_setS 6 g (oe_tup (oa_cons (oe_add (oe_int) (oe_mul (oe_ix (oe_var 1) (oe_int)) (oe_int))) (oa_cons (oe_sub (oe_mod (oe_ix (oe_var 1) (oe_int)) (oe_int)) (oe_int)) (oa_cons (oe_sub (oe_mod (oe_ix (oe_var 1) (oe_int)) (oe_int)) (oe_int)) (oa_nil))))) (fun ρ => oss_nil)) (oss_nil) (fun ρ => oss_if (ot_cmp (oc_eq g.ge (oe_mod (oe_ix (oe_var 1) (oe_int)) (oe_int)) (oe_int))) (oss_setS 6 g (oe_ix (oe_lst (oa_cons (oe_tup (oa_cons (oe_int) (oa_cons (oe_int) (oa_cons (oe_int) (oa_nil))))) (oa_cons (oe_tup (oa_cons (oe_neg (oe_int)) (oa_cons (oe_int) (oa_cons (oe_neg (oe_int)) (oa_nil))))) (oa_cons (oe_tup (oa_cons (oe_int) (oa_cons (oe_neg (oe_int)) (oa_cons (oe_neg (oe_int)) (oa_nil))))) (oa_cons (oe_tup (oa_cons (oe_int) (oa_cons (oe_int) (oa_cons (oe_int) (oa_nil))))) (oa_nil)))))) (oe_mod (oe_ix (oe_var 1) (oe_int)) (oe_int))) (fun ρ => oss_nil)) (oss_nil) (fun ρ => oss_setLc 7 (cond := trueC) (val := fun ρ => (varR ρ 16).bind listR) [("row", 16)] g (oj_e (oe_var 5)) (blkOk_by rfl) (by decide) (fun _ _ _ _ _ => (og_name 16 g.ge.blk.nd)) (fun _ _ _ _ _ ρ => ots_nil) (fun _ _ _ _ _ ρ => oe_list Z.b_list (oe_var 16)) (fun ρ => oss_setS 8 g (oe_call g.ge (w__law_lit Z) (by omega) (oa_cons (oe_var 5) (oa_cons (oe_var 4) (oa_cons (oe_var 6) (oa_nil)))) (consO_len (consO_len (consO_len nilO_len)))) (fun ρ => oss_setXS 9 g (ox_call g (w_lit Z) (by omega) (oa_cons (oe_var 7) (oa_cons (oe_var 4) (oa_cons (oe_var 6) (oa_nil)))) (consO_len (consO_len (consO_len nilO_len)))) (fun ρ => oss_if (ot_w (ow_or (ot_cmp (oc_ne g.ge (oe_repr g.ge Z.b_repr (oe_var 9)) (oe_repr g.ge Z.b_repr (oe_var 8)))) (ow_or1 (ot_cmp (oc_ne g.ge (oe_var 7) (oe_var 5)))))) (oss_ret (oe_bl)) (oss_nil) (fun ρ => oss_setS 10 g (oe_ix (oe_lst (oa_cons (oe_mod (oe_ix (oe_var 1) (oe_int)) (oe_int)) (oa_cons (oe_mod (oe_ix (oe_var 1) (oe_int)) (oe_int)) (oa_cons (oe_int) (oa_cons (oe_int) (oa_cons (oe_add (oe_int) (oe_mod (oe_ix (oe_var 1) (oe_int)) (oe_int))) (oa_nil))))))) (oe_mod (oe_ix (oe_var 1) (oe_int)) (oe_int))) (fun ρ => oss_setLc 7 (cond := trueC) (val := fun ρ => (varR ρ 16).bind listR) [("row", 16)] g (oj_e (oe_var 8)) (blkOk_by rfl) (by decide) (fun _ _ _ _ _ => (og_name 16 g.ge.blk.nd)) (fun _ _ _ _ _ ρ => ots_nil) (fun _ _ _ _ _ ρ => oe_list Z.b_list (oe_var 16)) (fun ρ => oss_setX 11 g (ox_call g (w_unlit Z) (by omega) (oa_cons (oe_var 7) (oa_cons (oe_var 10) (oa_nil))) (consO_len (consO_len nilO_len))) (fun ρ => oss_if (ot_lendT 11 (fun ρ => ot_w (ow_or (ot_cmp (oc_ne g.ge (oe_repr g.ge Z.b_repr (oe_var 11)) (oe_repr g.ge Z.b_repr (oe_call g.ge (w__law_unlit Z) (by omega) (oa_cons (oe_var 8) (oa_cons (oe_var 10) (oa_nil))) (consO_len (consO_len nilO_len)))))) (ow_or1 (ot_cmp (oc_ne g.ge (oe_var 7) (oe_var 8))))))) (oss_ret (oe_bl)) (oss_nil) (fun ρ => oss_if (ot_cmp (oc_ne g.ge (oe_repr g.ge Z.b_repr (oe_call g.ge (w_unlit Z) (by omega) (oa_cons (oe_var 5) (oa_cons (oe_var 10) (oa_nil))) (consO_len (consO_len nilO_len)))) (oe_repr g.ge Z.b_repr (oe_call g.ge (w__law_unlit Z) (by omega) (oa_cons (oe_var 5) (oa_cons (oe_var 10) (oa_nil))) (consO_len (consO_len nilO_len)))))) (oss_ret (oe_bl)) (oss_nil) (fun ρ => oss_setS 12 g (oe_lst (oa_nil)) (fun ρ => oss_for g (oi_rng1 Z.b_range (oe_var 3)) (og_name 13 g.ge.nd) (fun ρ => oss_setS 12 g (oe_add (oe_var 12) (oe_comp (cond := trueC) (val := fun ρ => callR (F__law_light K cl) (consO (varR ρ 6) (consO (varR ρ 13) (consO (varR ρ 17) (some []))))) [("j", 17)] g.ge (OI.oj (oi_rng1 Z.b_range (oe_var 2))) (blkOk_by rfl) (by decide) (fun _ _ _ _ _ => (og_name 17 g.ge.blk.nd)) (fun _ _ _ _ _ ρ => ots_nil) (fun _ _ _ _ _ ρ => oe_call g.ge.blk (w__law_light Z) (by omega) (oa_cons (oe_var 6) (oa_cons (oe_var 13) (oa_cons (oe_var 17) (oa_nil)))) (consO_len (consO_len (consO_len nilO_len)))))) (fun ρ => oss_nil)) (fun ρ => oss_setS 14 g (oe_cmp (oc_eq g.ge (oe_comp (cond := (fun ρ => o2 neR (compO ((varR ρ 18).bind srcJ) [19] (nameG 19) (fun ρ => (o2 in2R (varR ρ 19) (tupO (consO (vI 0) (consO (varR ρ 4) (some []))))).map (!·)) (fun ρ => varR ρ 19) ρ) (lstO (some [])))) (val := fun ρ => varR ρ 18) [("value", 18)] g.ge (oj_e (oe_var 5)) (blkOk_by rfl) (by decide) (fun _ _ _ _ _ => (og_name 18 g.ge.blk.nd)) (fun _ _ _ _ _ ρ => ots_one (ot_cmp (oc_ne g.ge.blk (oe_comp (cond := (fun ρ => (o2 in2R (varR ρ 19) (tupO (consO (vI 0) (consO (varR ρ 4) (some []))))).map (!·))) (val := fun ρ => varR ρ 19) [("one", 19)] g.ge.blk (oj_e (oe_var 18)) (blkOk_by rfl) (by decide) (fun _ _ _ _ _ => (og_name 19 g.ge.blk.blk.nd)) (fun _ _ _ _ _ ρ => ots_one (ot_cmp (oc_nin2 g.ge.blk.blk (oe_var 19) (oe_tup (oa_cons (oe_int) (oa_cons (oe_var 4) (oa_nil))))))) (fun _ _ _ _ _ ρ => oe_var 19)) (oe_lst (oa_nil))))) (fun _ _ _ _ _ ρ => oe_var 18)) (oe_lst (oa_nil)))) (fun ρ => oss_setLc 15 (cond := (fun ρ => o2 in2R (vI 0) (varR ρ 16))) (val := fun ρ => varR ρ 16) [("row", 16)] g (oj_e (oe_call g.ge (w__law_greatest Z) (by omega) (oa_cons (oe_comp (cond := trueC) (val := fun ρ => compO ((varR ρ 16).bind srcJ) [19] (nameG 19) trueC (fun ρ => (bO (o2 eqR (varR ρ 19) (vI 0))).bind intR) ρ) [("row", 16)] g.ge (oj_e (oe_var 5)) (blkOk_by rfl) (by decide) (fun _ _ _ _ _ => (og_name 16 g.ge.blk.nd)) (fun _ _ _ _ _ ρ => ots_nil) (fun _ _ _ _ _ ρ => oe_comp (cond := trueC) (val := fun ρ => (bO (o2 eqR (varR ρ 19) (vI 0))).bind intR) [("one", 19)] g.ge.blk (oj_e (oe_var 16)) (blkOk_by rfl) (by decide) (fun _ _ _ _ _ => (og_name 19 g.ge.blk.blk.nd)) (fun _ _ _ _ _ ρ => ots_nil) (fun _ _ _ _ _ ρ => oe_intf Z.b_int (oe_cmp (oc_eq g.ge.blk.blk (oe_var 19) (oe_int)))))) (oa_cons (oe_var 10) (oa_nil))) (consO_len (consO_len nilO_len)))) (blkOk_by rfl) (by decide) (fun _ _ _ _ _ => (og_name 16 g.ge.blk.nd)) (fun _ _ _ _ _ ρ => ots_one (ot_cmp (oc_in2 g.ge.blk (oe_int) (oe_var 16)))) (fun _ _ _ _ _ ρ => oe_var 16) (fun ρ => oss_if (ot_lendT 11 (fun ρ => ot_w (ow_and (ot_truth (oe_var 14)) (ow_and (ot_cmp (oc_eq g.ge (oe_var 15) (oe_lst (oa_nil)))) (ow_and (ot_cmp (oc_lt (oe_int) (oe_max g.ge.calm Z.b_max (oe_var 12)))) (ow_and (ot_cmp (oc_le (oe_mul (oe_int) (oe_max g.ge.calm Z.b_max (oe_var 12))) (oe_mul (oe_int) (oe_min g.ge.calm Z.b_min (oe_var 12))))) (ow_and1 (ot_cmp (oc_ne g.ge (oe_var 11) (oe_call g.ge (w_black_and_white Z) (by omega) (oa_cons (oe_var 5) (oa_cons (oe_var 4) (oa_nil))) (consO_len (consO_len nilO_len)))))))))))) (oss_ret (oe_bl)) (oss_nil) (fun ρ => oss_appP (oad_ix (oad_var 11) (oe_int)) (of_e (oe_int)) (fun ρ => oss_if (ot_cmp (oc_ne g.ge (oe_call g.ge (w_unlit Z) (by omega) (oa_cons (oe_var 7) (oa_cons (oe_var 10) (oa_nil))) (consO_len (consO_len nilO_len))) (oe_call g.ge (w__law_unlit Z) (by omega) (oa_cons (oe_var 8) (oa_cons (oe_var 10) (oa_nil))) (consO_len (consO_len nilO_len))))) (oss_ret (oe_bl)) (oss_nil) (fun ρ => oss_ret (oe_call g.ge (w__law_refused_holds Z) (by omega) (oa_cons (oe_var 5) (oa_cons (oe_var 4) (oa_cons (oe_var 6) (oa_nil)))) (consO_len (consO_len (consO_len nilO_len))))))))))))))))))))))))))
end
structure ErrT (K : PySem.W.Frag) (cl : Str → Addr) : Prop where
  kit_AskewError_AskewError : PySem.W.kitOne K (.ref (cl "AskewError")) (.ref (cl "AskewError")) = some true
  exm_AskewError_BadPicture : PySem.W.exmOne K (.ref (cl "AskewError")) (.ref (cl "BadPicture")) = some false
  kit_AskewError_BadPicture : PySem.W.kitOne K (.ref (cl "AskewError")) (.ref (cl "BadPicture")) = some false
  kit_AskewError_ValueError : PySem.W.kitOne K (.ref (cl "AskewError")) (.type "ValueError") = some true
  kit_BadPicture_AskewError : PySem.W.kitOne K (.ref (cl "BadPicture")) (.ref (cl "AskewError")) = some true
  exm_BadPicture_BadPicture : PySem.W.exmOne K (.ref (cl "BadPicture")) (.ref (cl "BadPicture")) = some true
  kit_BadPicture_BadPicture : PySem.W.kitOne K (.ref (cl "BadPicture")) (.ref (cl "BadPicture")) = some true
  kit_BadPicture_ValueError : PySem.W.kitOne K (.ref (cl "BadPicture")) (.type "ValueError") = some true
end LawW
set_option linter.all false
set_option autoImplicit false
set_option maxRecDepth 100000
set_option maxHeartbeats 1000000
namespace LawW
open PySem PySem.Spec PyProof.Rows L2 DL
variable (K : PySem.W.Frag) (cl : Str → Addr)
def lt1009 (xs : List Int) : Prop := ∀ x ∈ xs, 0 ≤ x ∧ x < 1009
theorem lt1009_app {xs : List Int} {x : Int} (h : lt1009 xs) (h0 : 0 ≤ x) (h1 : x < 1009) : lt1009 (xs ++ [x]) := fun y hy => by
  rcases List.mem_append.mp hy with hy | hy
  · exact h y hy
  · simp at hy; subst hy; exact ⟨h0, h1⟩
theorem numbers_ok (ns : List Int) (at' count : Nat) (ha : at' < 1000) (hc : count < 1000) (hl : ns.length ≤ 63) :
    ∃ xs : List Int, F__law_numbers K cl [.ro (iD ns), .int at', .int count] = some (.ow (iD xs)) ∧ xs.length = count ∧ lt1009 xs := by
  have key : Gv (B__law_numbers K cl (startE ["script", "at", "count", "cell", "numbers", "k", "mixed"] [.ro (iD ns), .int at', .int count])) (fun o => ∃ xs : List Int, o = .ro (iD xs) ∧ xs.length = count ∧ lt1009 xs) := by
    show Gv (B__law_numbers K cl [.sh (.ro (iD ns)), .sh (.int at'), .sh (.int count), .un, .un, .un, .un]) _
    unfold B__law_numbers
    refine gv_step (by conv => lhs; simp [mulR_i, divR_i]) ?_
    refine gv_if (fun o => ∃ c : Int, o = .nx [.sh (.ro (iD ns)), .sh (.int at'), .sh (.int count), .sh (.int c), .un, .un, .un]) (fun h => ?_) (fun h => ?_) ?_
    · obtain ⟨x, hx⟩ : ∃ x, ns[at']? = some x := ⟨ns[at']'(by simpa using h), by simp [show at' < ns.length by simpa using h]⟩
      rw [atI_at (x := D.int x) (by simp [iD, hx])]
      exact gv_out rfl ⟨x, rfl⟩
    · exact gv_out rfl ⟨_, rfl⟩
    rintro _ ⟨c, rfl⟩
    refine gv_step (by conv => lhs; simp [mulR_i, divR_i]) ?_
    refine gv_if (fun o => ∃ c : Int, 0 ≤ c ∧ o = .nx [.sh (.ro (iD ns)), .sh (.int at'), .sh (.int count), .sh (.int c), .un, .un, .un]) (fun h => ?_) (fun h => ?_) ?_
    · exact gv_out (by simp) ⟨1 - 2 * c, (by have := of_decide_eq_true h; omega), rfl⟩
    · exact gv_out rfl ⟨c, (by have := of_decide_eq_false h; omega), rfl⟩
    rintro _ ⟨c, hc0, rfl⟩
    have hcnt : in62 (count : Int) := by unfold in62; omega
    refine gv_step (by conv => lhs; simp [hcnt, show count < 4611686018427387904 by omega, mulR_i, divR_i]) ?_
    refine gv_for (I := fun i ρ => ∃ (c : Int) (xs : List Int) (s5 s6 : Sl), 0 ≤ c ∧ xs.length = i ∧ lt1009 xs ∧ ρ = [.sh (.ro (iD ns)), .sh (.int at'), .sh (.int count), .sh (.int c), .ow (iD xs), s5, s6]) ⟨c, [], .un, .un, hc0, rfl, (fun y hy => by cases hy), rfl⟩ ?_ ?_
    · rintro i d _ hd ⟨c, xs, s5, s6, h0, hxl, hx, rfl⟩
      obtain rfl := rng_get hd
      have hi : i < count := by
        have := (List.getElem?_eq_some_iff.mp hd).1
        rw [List.length_map, rng_len] at this
        omega
      have hsz : xs.length < 16777216 := by omega
      refine ⟨_, rfl, ?_⟩
      refine gv_step (by conv => lhs; simp [hsz, mulR_i, divR_i]) ?_
      refine gv_if (fun o => ∃ (c : Int) (xs : List Int) (s5 s6 : Sl), 0 ≤ c ∧ xs.length = i + 1 ∧ lt1009 xs ∧ o = .nx [.sh (.ro (iD ns)), .sh (.int at'), .sh (.int count), .sh (.int c), .ow (iD xs), s5, s6]) (fun h => ?_) (fun h => ?_) ?_
      · exact gv_out (by simp [hsz, mulR_i, divR_i]; rfl) ⟨_, xs ++ [c % 1009], _, _, (show 0 ≤ c / 1009 by omega), by simp [hxl], lt1009_app hx (by omega) (by omega), by rw [← iD_app]⟩
      · have hc2 : c.natAbs < 18446744073709551616 := by simp at h; omega
        have h3 : ∀ z : Int, (z % 2147483647).natAbs < 18446744073709551616 := fun z => by omega
        exact gv_out (by simp [hsz, hc2, h3, mulR_i, divR_i]; rfl) ⟨_, xs ++ [_], _, _, h0, by simp [hxl], lt1009_app hx (Int.emod_nonneg _ (by decide)) (Int.emod_lt_of_pos _ (by decide)), by rw [← iD_app]⟩
      · rintro _ ⟨c, xs, s5, s6, h0, hxl, hx, rfl⟩
        exact gv_out rfl ⟨_, .inl rfl, c, xs, s5, s6, h0, hxl, hx, rfl⟩
    · rintro _ ⟨c, xs, s5, s6, h0, hxl, hx, rfl⟩
      have : xs.length = count := by rw [hxl, List.length_map, rng_len]; omega
      exact ⟨_, rfl, xs, rfl, this, hx⟩
  obtain ⟨out, e, xs, rfl, h1, h2⟩ := key
  exact ⟨xs, by show (B__law_numbers K cl _).bind outR = _; rw [e]; rfl, h1, h2⟩
theorem at_num {xs : List Int} (h : lt1009 xs) {i : Int} (h0 : 0 ≤ i) (h1 : i < xs.length) : ∃ x, L2.atI (iD xs) i = some (.int x) ∧ 0 ≤ x ∧ x < 1009 := by
  have hi : i.toNat < xs.length := by omega
  refine ⟨xs[i.toNat], ?_, h _ (List.getElem_mem hi)⟩
  have := atI_at (xs := iD xs) (i := i.toNat) (x := .int xs[i.toNat]) (by simp [iD, hi])
  rwa [Int.toNat_of_nonneg h0] at this
end LawW

set_option linter.all false
set_option autoImplicit false
set_option maxRecDepth 100000
set_option maxHeartbeats 1000000
namespace LawW
open PySem PySem.Spec PyProof.Rows L2 DL
variable (K : PySem.W.Frag) (cl : Str → Addr)
theorem is_whole_ok (d : DL.D) (h : kn d = true) : F_is_whole K cl [d] = some (.sh (.bl (isW d))) := by
  cases d <;> first | (cases h; done) | (simp [F_is_whole, runF, B_is_whole, startE, isW])
/-- the rows of a picture -/
abbrev rD (r : List Int) : DL.D := .lst (iD r)
abbrev pD (P : List (List Int)) : List DL.D := P.map rD
/-- h rows of w numbers -/
structure Rect (h w : Nat) (P : List (List Int)) : Prop where
  hl : P.length = h
  wl : ∀ r ∈ P, r.length = w
def tab (h w : Nat) (f : Nat → Nat → Int) : List (List Int) := (List.range h).map fun j => (List.range w).map fun i => f j i
theorem tab_rect (h w : Nat) (f : Nat → Nat → Int) : Rect h w (tab h w f) := ⟨by simp [tab], fun r hr => by
  obtain ⟨j, _, rfl⟩ := List.mem_map.mp hr
  simp⟩
/-- the number at row j, column i -/
def el (P : List (List Int)) (j i : Nat) : Int := (P.getD j []).getD i 0
theorem tab_el {h w : Nat} {f : Nat → Nat → Int} {j i : Nat} (hj : j < h) (hi : i < w) : el (tab h w f) j i = f j i := by
  simp [el, tab, hj, hi]
theorem Rect.tab {h w : Nat} {P : List (List Int)} (R : Rect h w P) : P = tab h w (el P) := by
  refine List.ext_getElem? fun j => ?_
  by_cases hj : j < P.length
  · have hw := R.wl _ (List.getElem_mem hj)
    simp only [LawW.tab, List.getElem?_map, List.getElem?_range (show j < h by rw [← R.hl]; exact hj), Option.map_some, List.getElem?_eq_getElem hj]
    congr 1
    refine List.ext_getElem? fun i => ?_
    by_cases hi : i < w
    · simp [hi, el, hj, hw]
    · simp [hi, hw]
  · have : ¬ j < h := by rw [← R.hl]; exact hj
    simp [LawW.tab, hj, this]
theorem tab_congr {h w : Nat} {f g : Nat → Nat → Int} (e : ∀ j i, j < h → i < w → f j i = g j i) : tab h w f = tab h w g := by
  unfold tab
  refine List.map_congr_left fun j hj => List.map_congr_left fun i hi => e j i (List.mem_range.mp hj) (List.mem_range.mp hi)
theorem Rect.row {h w : Nat} {P : List (List Int)} (R : Rect h w P) {j : Nat} (hj : j < h) : P[j]? = some (P.getD j []) ∧ (P.getD j []).length = w := by
  have hl : j < P.length := by rw [R.hl]; exact hj
  refine ⟨by simp [hl], ?_⟩
  simp [hl, R.wl _ (List.getElem_mem hl)]
/-- a table, as a comprehension in a comprehension -/
theorem comp_tab {h w : Nat} {ow1 ow2 : List Nat} {j1 j2 : Nat} {val : Ev → Option R} {src : Ev → Option (List DL.D)} {ρ : Ev} (f : Nat → Nat → Int) (hh : h ≤ 1000) (hw : w ≤ 1000)
    (hs : ∀ j : Nat, j < h → src ((wipeE ρ ow1).set j1 (.sh (.int (j : Int)))) = some (iD (rng 0 (w : Int))))
    (hv : ∀ j i : Nat, j < h → i < w → (val ((wipeE ((wipeE ρ ow1).set j1 (.sh (.int (j : Int)))) ow2).set j2 (.sh (.int (i : Int))))).bind R.d = some (.int (f j i))) :
    compO (some (iD (rng 0 (h : Int)))) ow1 (nameG j1) trueC (fun ρ => compO (src ρ) ow2 (nameG j2) trueC val ρ) ρ = vN (pD (tab h w f)) := by
  rw [comp_rng (fun j => rD ((List.range w).map fun i => f j i)) (by omega) (fun j hj => ?_)]
  · show some (R.n _) = some (R.n _)
    congr 2
    unfold tab
    show _ = List.map rD (List.map _ _)
    rw [List.map_map]; rfl
  · show (compO (src _) ow2 (nameG j2) trueC val _).bind R.d = _
    rw [hs j hj, comp_rng (fun i => .int (f j i)) (by omega) (fun i hi => hv j i hj hi)]
    show some (DL.D.lst _) = some (DL.D.lst _)
    congr 2
    show _ = List.map _ _
    rw [List.map_map]; rfl
/-- the window of r places round k -/
def win {α : Type} (xs : List α) (r k : Nat) : List α := (xs.take (k + r + 1)).drop (k - r)
theorem win_map {α β : Type} (f : α → β) (xs : List α) (r k : Nat) : win (xs.map f) r k = (win xs r k).map f := by
  unfold win; rw [List.map_drop, List.map_take]
theorem win_ne {α : Type} {xs : List α} {r k : Nat} (h : k < xs.length) : win xs r k ≠ [] := by
  unfold win
  intro z
  have := congrArg List.length z
  simp at this
  omega
theorem win_mem {α : Type} {xs : List α} {r k : Nat} {x : α} (h : xs[k]? = some x) : x ∈ win xs r k := by
  unfold win
  refine List.mem_iff_getElem?.mpr ⟨k - (k - r), ?_⟩
  rw [List.getElem?_drop, List.getElem?_take, if_pos (by omega), show k - r + (k - (k - r)) = k by omega, h]
theorem win_sub {α : Type} {xs : List α} {r k : Nat} {x : α} (h : x ∈ win xs r k) : x ∈ xs := List.mem_of_mem_take (List.mem_of_mem_drop h)
theorem cut_winU {α : Type} {u : α → DL.D} {xs : List α} {r k : Nat} (hk : k < xs.length) : cut (xs.map u) (some (if (k : Int) - r > 0 then (k : Int) - r else 0)) (some ((k : Int) + r + 1)) = (win xs r k).map u := by
  have e0 : (if (k : Int) - r > 0 then (k : Int) - r else 0) = ((k - r : Nat) : Int) := by split <;> omega
  have e1 : (k : Int) + r + 1 = ((k + r + 1 : Nat) : Int) := by omega
  rw [e0, e1, cut_map]
  congr 1
  have s1 : HT.sIx xs.length 0 (some ((k - r : Nat) : Int)) = k - r := by rw [HT.sIx_nat]; omega
  have s2 : HT.sIx xs.length xs.length (some ((k + r + 1 : Nat) : Int)) = min (k + r + 1) xs.length := by rw [HT.sIx_nat]
  unfold cut win
  rw [s1, s2, List.drop_take]
  refine List.ext_getElem? fun i => ?_
  rw [List.getElem?_take, List.getElem?_take]
  by_cases h1 : i < k + r + 1 - (k - r)
  · rw [if_pos h1]
    by_cases h2 : i < min (k + r + 1) xs.length - (k - r)
    · rw [if_pos h2]
    · rw [if_neg h2, List.getElem?_drop, List.getElem?_eq_none (by omega)]
  · rw [if_neg h1, if_neg (by omega)]
theorem cut_win {xs : List Int} {r k : Nat} (hk : k < xs.length) : cut (iD xs) (some (if (k : Int) - r > 0 then (k : Int) - r else 0)) (some ((k : Int) + r + 1)) = iD (win xs r k) := cut_winU hk
def gal (xs : List Int) (r : Nat) : List Int := (List.range xs.length).map fun k => maxI (win xs r k)
theorem along_ok {xs : List Int} {r : Nat} (hl : xs.length ≤ 1000) (hr : r ≤ 1000) : F_greatest_along K cl [.lst (iD xs), .int (r : Int)] = some (.ow (iD (gal xs r))) := by
  refine run_of (ρ := [.sh (.lst (iD xs)), .sh (.int (r : Int)), .un]) rfl ?_
  unfold B_greatest_along
  have cr := comp_rng (n := xs.length) (ow := [2]) (j := 2) (val := fun ρ => (slO (varR ρ 0) (ooR (o2 max2R (vI 0) (o2 subR (varR ρ 2) (varR ρ 1)))) (ooR (o2 addR (o2 addR (varR ρ 2) (varR ρ 1)) (vI 1)))).bind maxR) (ρ := [.sh (.lst (iD xs)), .sh (.int (r : Int)), .un]) (fun k => .int (maxI (win xs r k))) (by omega) (fun k hk => by
    have cw := cut_win (r := r) hk
    have mx := max_ints (x := .n (iD (win xs r k))) rfl (win_ne hk)
    have m2 : max2R (.v (.int 0)) (.v (.int ((k : Int) - r))) = vI (if (k : Int) - r > 0 then (k : Int) - r else 0) := rfl
    simp only [wipeE, List.set_cons_zero, List.set_cons_succ, varR_sh, varR_succ, o2_some, subR_i, m2, ooR_i, addR_ii, slO_some, slR_l, cw, bind_some', mx, R.d_v])
  refine gv_step (by conv => lhs; simp [show xs.length < 4611686018427387904 by omega, cr]) ?_
  exact gv_out rfl (by
    show some (Res.ow _) = some (Res.ow _)
    congr 2
    unfold gal
    show _ = List.map _ _
    rw [List.map_map]; rfl)
end LawW


set_option linter.all false
set_option autoImplicit false
set_option maxRecDepth 100000
set_option maxHeartbeats 1000000
namespace LawW
open PySem PySem.Spec PyProof.Rows L2 DL
variable (K : PySem.W.Frag) (cl : Str → Addr)
theorem gal_length (xs : List Int) (r : Nat) : (gal xs r).length = xs.length := by simp [gal]
theorem gal_get {xs : List Int} {r k : Nat} (h : k < xs.length) : (gal xs r).getD k 0 = maxI (win xs r k) := by simp [gal, h]
theorem at_row {P : List (List Int)} {j : Nat} (hj : j < P.length) : L2.atI (pD P) (j : Int) = some (rD (P.getD j [])) := by
  rw [atI_natc, List.getElem?_map, List.getElem?_eq_getElem hj]
  simp [hj]
theorem at_int {xs : List Int} {n : Nat} (h : n < xs.length) : L2.atI (iD xs) (n : Int) = some (.int (xs.getD n 0)) := by
  rw [atI_natc]
  simp [h]
/-- the columns of the rows' greatest -/
def colm (P : List (List Int)) (r i : Nat) : List Int := (P.map (gal · r)).map (·.getD i 0)
def near (h w : Nat) (P : List (List Int)) (r : Nat) : List (List Int) := tab h w fun j i => maxI (win (colm P r i) r j)
section
variable {h w r : Nat} {P : List (List Int)} (Z : Rect h w P) (h1 : 1 ≤ h) (h2 : h ≤ 300) (w1 : 1 ≤ w) (w2 : w ≤ 300) (r2 : r ≤ 300)
include Z h1 h2 w1 w2 r2
theorem rect_gal : Rect h w (P.map (gal · r)) := ⟨by simp [Z.hl], fun q hq => by
  obtain ⟨x, hx, rfl⟩ := List.mem_map.mp hq
  rw [gal_length, Z.wl x hx]⟩
theorem round_ok : F_greatest_round K cl [.lst (pD P), .int (r : Int)] = some (.ow (pD (near h w P r))) := by
  have Rg := rect_gal Z h1 h2 w1 w2 r2
  refine run_of (ρ := [.sh (.lst (pD P)), .sh (.int (r : Int)), .un, .un, .un, .un, .un]) rfl ?_
  unfold B_greatest_round
  have c1 := comp_list (u := rD) (xs := P) (ow := [4]) (j := 4) (val := fun ρ => callR (F_greatest_along K cl) (consO (varR ρ 4) (consO (varR ρ 1) (some [])))) (ρ := [.sh (.lst (pD P)), .sh (.int (r : Int)), .un, .un, .un, .un, .un]) (fun x => rD (gal x r)) (by rw [Z.hl]; omega) (fun x hx => by
    have ao := along_ok K cl (xs := x) (r := r) (by rw [Z.wl x hx]; omega) (by omega)
    simp [wipeE, ao])
  have e1 : P.map (fun x => rD (gal x r)) = pD (P.map (gal · r)) := by show _ = List.map rD (List.map _ _); rw [List.map_map]; rfl
  rw [e1] at c1
  generalize hQ : P.map (gal · r) = Q at *
  have c2 := comp_rng (n := w) (ow := [5]) (j := 5) (val := fun ρ => callR (F_greatest_along K cl) (consO (compO ((varR ρ 2).bind srcJ) [4] (nameG 4) trueC (fun ρ => o2 ixR (varR ρ 4) (varR ρ 5)) ρ) (consO (varR ρ 1) (some [])))) (ρ := [.sh (.lst (pD P)), .sh (.int (r : Int)), .sh (.lst (pD Q)), .un, .un, .un, .un]) (fun i => rD (gal (colm P r i) r)) (by omega) (fun i hi => by
    have c3 := comp_list (u := rD) (xs := Q) (ow := [4]) (j := 4) (val := fun ρ => o2 ixR (varR ρ 4) (varR ρ 5)) (ρ := [.sh (.lst (pD P)), .sh (.int (r : Int)), .sh (.lst (pD Q)), .un, .un, .sh (.int (i : Int)), .un]) (fun x => .int (x.getD i 0)) (by rw [Rg.hl]; omega) (fun x hx => by
      have ai := at_int (xs := x) (n := i) (by rw [Rg.wl x hx]; exact hi)
      simp [wipeE, ai])
    have e3 : Q.map (fun x => DL.D.int (x.getD i 0)) = iD (colm P r i) := by show _ = List.map _ (List.map _ _); rw [List.map_map, hQ]; rfl
    rw [e3] at c3
    have ao := along_ok K cl (xs := colm P r i) (r := r) (by simp [colm, Z.hl]; omega) (by omega)
    simp [wipeE, c3, ao, -List.map_map])
  have e2 : (List.range w).map (fun i => rD (gal (colm P r i) r)) = pD ((List.range w).map fun i => gal (colm P r i) r) := by show _ = List.map rD (List.map _ _); rw [List.map_map]; rfl
  rw [e2] at c2
  generalize hC : (List.range w).map (fun i => gal (colm P r i) r) = C at *
  have Cl : C.length = w := by rw [← hC]; simp
  have c4 := comp_tab (h := h) (w := w) (ow1 := [6]) (ow2 := [5]) (j1 := 6) (j2 := 5) (val := fun ρ => o2 ixR (o2 ixR (varR ρ 3) (varR ρ 5)) (varR ρ 6)) (src := fun ρ => ((varR ρ 3).bind lenR).bind rng1R) (ρ := [.sh (.lst (pD P)), .sh (.int (r : Int)), .sh (.lst (pD Q)), .sh (.lst (pD C)), .un, .un, .un]) (fun j i => maxI (win (colm P r i) r j)) (by omega) (by omega) (fun j hj => by
    simp [wipeE, Cl, show w < 4611686018427387904 by omega]) (fun j i hj hi => by
    have a1 := at_row (P := C) (j := i) (by omega)
    have cg : C.getD i [] = gal (colm P r i) r := by rw [← hC]; simp [hi]
    rw [cg] at a1
    have cl' : (colm P r i).length = h := by simp [colm, Z.hl]
    have a2 := at_int (xs := gal (colm P r i) r) (n := j) (by rw [gal_length, cl']; exact hj)
    rw [gal_get (by omega)] at a2
    simp [wipeE, a1, a2, -List.map_map])
  have a0 := at_row (P := Q) (j := 0) (by rw [Rg.hl]; omega)
  have l0 := (Rg.row (j := 0) (by omega)).2
  simp only [List.getD_eq_getElem?_getD] at l0
  refine gv_step (by conv => lhs; simp [c1]) ?_
  refine gv_step (by conv => lhs; simp [show L2.atI (pD Q) 0 = _ from a0, l0, show w < 4611686018427387904 by omega, -List.map_map]) ?_
  refine gv_step (by conv => lhs; simp [c2, Rg.hl, show h < 4611686018427387904 by omega, -List.map_map]) ?_
  refine gv_step (by conv => lhs; simp [c4]) ?_
  exact gv_out rfl rfl
theorem law_greatest_ok : F__law_greatest K cl [.lst (pD P), .int (r : Int)] = some (.ow (pD (near h w P r))) := by
  have Rg := rect_gal Z h1 h2 w1 w2 r2
  refine run_of (ρ := [.sh (.lst (pD P)), .sh (.int (r : Int)), .un, .un, .un, .un, .un, .un]) rfl ?_
  unfold B__law_greatest
  have a0 := at_row (P := P) (j := 0) (by rw [Z.hl]; omega)
  have l0 := (Z.row (j := 0) (by omega)).2
  simp only [List.getD_eq_getElem?_getD] at l0
  have c1 := comp_list (u := rD) (xs := P) (ow := [5]) (j := 5) (val := fun ρ => compO ((varR ρ 3).bind rng1R) [6] (nameG 6) trueC (fun ρ => (slO (varR ρ 5) (ooR (o2 max2R (vI 0) (o2 subR (varR ρ 6) (varR ρ 1)))) (ooR (o2 addR (o2 addR (varR ρ 6) (varR ρ 1)) (vI 1)))).bind maxR) ρ) (ρ := [.sh (.lst (pD P)), .sh (.int (r : Int)), .sh (.int (h : Int)), .sh (.int (w : Int)), .un, .un, .un, .un]) (fun x => rD (gal x r)) (by rw [Z.hl]; omega) (fun x hx => by
    have cr := comp_rng (n := w) (ow := [6]) (j := 6) (val := fun ρ => (slO (varR ρ 5) (ooR (o2 max2R (vI 0) (o2 subR (varR ρ 6) (varR ρ 1)))) (ooR (o2 addR (o2 addR (varR ρ 6) (varR ρ 1)) (vI 1)))).bind maxR) (ρ := [.sh (.lst (pD P)), .sh (.int (r : Int)), .sh (.int (h : Int)), .sh (.int (w : Int)), .un, .sh (rD x), .un, .un]) (fun k => .int (maxI (win x r k))) (by omega) (fun k hk => by
      have hk : k < x.length := by rw [Z.wl x hx]; exact hk
      have cw := cut_win (r := r) hk
      have mx := max_ints (x := .n (iD (win x r k))) rfl (win_ne hk)
      have m2 : max2R (.v (.int 0)) (.v (.int ((k : Int) - r))) = vI (if (k : Int) - r > 0 then (k : Int) - r else 0) := rfl
      simp only [wipeE, List.set_cons_zero, List.set_cons_succ, varR_sh, varR_succ, o2_some, subR_i, m2, ooR_i, addR_ii, slO_some, slR_l, cw, bind_some', mx, R.d_v])
    have e : (List.range w).map (fun k => DL.D.int (maxI (win x r k))) = iD (gal x r) := by
      unfold gal; rw [Z.wl x hx]; show _ = List.map _ (List.map _ _); rw [List.map_map]; rfl
    rw [e] at cr
    simp [wipeE, show w < 4611686018427387904 by omega, cr, -List.map_map])
  have e1 : P.map (fun x => rD (gal x r)) = pD (P.map (gal · r)) := by show _ = List.map rD (List.map _ _); rw [List.map_map]; rfl
  rw [e1] at c1
  generalize hQ : P.map (gal · r) = Q at *
  have c4 := comp_tab (h := h) (w := w) (ow1 := [7]) (ow2 := [6]) (j1 := 7) (j2 := 6) (val := fun ρ => (compO ((slO (varR ρ 4) (ooR (o2 max2R (vI 0) (o2 subR (varR ρ 7) (varR ρ 1)))) (ooR (o2 addR (o2 addR (varR ρ 7) (varR ρ 1)) (vI 1)))).bind srcJ) [5] (nameG 5) trueC (fun ρ => o2 ixR (varR ρ 5) (varR ρ 6)) ρ).bind maxR) (src := fun ρ => (varR ρ 3).bind rng1R) (ρ := [.sh (.lst (pD P)), .sh (.int (r : Int)), .sh (.int (h : Int)), .sh (.int (w : Int)), .sh (.lst (pD Q)), .un, .un, .un]) (fun j i => maxI (win (colm P r i) r j)) (by omega) (by omega) (fun j hj => by
    simp [wipeE, show w < 4611686018427387904 by omega]) (fun j i hj hi => by
    have hk : j < Q.length := by rw [Rg.hl]; exact hj
    have cw := cut_winU (u := rD) (r := r) hk
    have m2 : max2R (.v (.int 0)) (.v (.int ((j : Int) - r))) = vI (if (j : Int) - r > 0 then (j : Int) - r else 0) := rfl
    have cc := comp_list (u := rD) (xs := win Q r j) (ow := [5]) (j := 5) (val := fun ρ => o2 ixR (varR ρ 5) (varR ρ 6)) (ρ := [.sh (.lst (pD P)), .sh (.int (r : Int)), .sh (.int (h : Int)), .sh (.int (w : Int)), .sh (.lst (pD Q)), .un, .sh (.int (i : Int)), .sh (.int (j : Int))]) (fun x => .int (x.getD i 0)) (by unfold win; simp; have := Rg.hl; omega) (fun x hx => by
      have ai := at_int (xs := x) (n := i) (by rw [Rg.wl x (win_sub hx)]; exact hi)
      simp [wipeE, ai])
    have e3 : (win Q r j).map (fun x => DL.D.int (x.getD i 0)) = iD (win (colm P r i) r j) := by
      unfold colm; rw [win_map, hQ]; show _ = List.map _ (List.map _ _); rw [List.map_map]; rfl
    rw [e3] at cc
    have mx := max_ints (x := .n (iD (win (colm P r i) r j))) rfl (win_ne (by unfold colm; simp [Z.hl]; exact hj))
    simp only [wipeE, List.set_cons_zero, List.set_cons_succ, varR_sh, varR_succ, o2_some, subR_i, m2, ooR_i, addR_ii, slO_some, slR_l, cw, bind_some', srcJ, R.l_n, cc, mx, R.d_v])
  refine gv_step (by conv => lhs; simp [Z.hl, show L2.atI (pD P) 0 = _ from a0, l0, -List.map_map]) ?_
  refine gv_step (by conv => lhs; simp [c1]) ?_
  refine gv_step (by conv => lhs; simp [show h < 4611686018427387904 by omega, -List.map_map]) ?_
  refine gv_step (by conv => lhs; simp [c4]) ?_
  exact gv_out rfl rfl
end
end LawW


set_option linter.all false
set_option autoImplicit false
set_option maxRecDepth 100000
set_option maxHeartbeats 1000000
namespace LawW
open PySem PySem.Spec PyProof.Rows L2 DL
variable (K : PySem.W.Frag) (cl : Str → Addr)
def okE (m : Int) : DL.D → Bool
  | .int x => decide (0 ≤ x) && decide (x ≤ m)
  | _ => false
/-- what is_picture tells of a list of lists -/
def isq (QQ : List (List DL.D)) (m : Int) : Bool := decide (1 ≤ QQ.length) && decide (QQ.length ≤ 300) && QQ.all (fun q => decide (0 < q.length)) && decide (card (QQ.map fun q => (q.length : Int)).reverse = 1) && decide ((QQ.getD 0 []).length ≤ 300) && QQ.all fun q => q.all (okE m)
theorem ok_entry {m : Int} {d : DL.D} (hk : kn d = true) : (bO (andB ((callR (F_is_whole K cl) (some [d])).bind R.t) ((bO (chR (fun i j => decide (i ≤ j)) (fun i j => decide (i ≤ j)) (vI 0) (some (.v d)) (vI m))).bind R.t))).bind R.d = some (.bl (okE m d)) := by
  have iw := is_whole_ok K cl d hk
  cases d <;> simp [iw, isW, okE, bO] <;> first | rfl | (cases hk; done)
theorem ip_not {v : DL.D} {m : Int} (h : isiR "list" (.v v) = vB false) : F_is_picture K cl [v, .int m] = some (.sh (.bl false)) := by
  simp [F_is_picture, runF, B_is_picture, startE, h, ifO_b]
theorem ip_rows {QQ : List (List DL.D)} {m : Int} (hk : ∀ q ∈ QQ, q.length ≤ 1000 ∧ q.all kn = true) (hl : QQ.length ≤ 1000) : F_is_picture K cl [.lst (QQ.map .lst), .int m] = some (.sh (.bl (isq QQ m))) := by
  refine run_of (ρ := [.sh (.lst (QQ.map .lst)), .sh (.int m), .un, .un]) rfl ?_
  unfold B_is_picture
  by_cases a1 : 1 ≤ QQ.length ∧ QQ.length ≤ 300
  · refine gv_step (by conv => lhs; simp [c_MOST_SIDE, show (1 : Int) ≤ QQ.length by omega, show (QQ.length : Int) ≤ 300 by omega, show 1 ≤ QQ.length by omega, show QQ.length ≤ 300 by omega, show ¬ QQ.length = 0 by omega, show ¬ 300 < QQ.length by omega]) ?_
    refine gv_ifF ?_
    have c1 := comp_list (u := DL.D.lst) (xs := QQ) (ow := [2]) (j := 2) (val := fun ρ => bO (andB (((varR ρ 2).bind (isiR "list")).bind R.t) ((bO (o2 gtR ((varR ρ 2).bind lenR) (vI 0))).bind R.t))) (ρ := [.sh (.lst (QQ.map .lst)), .sh (.int m), .un, .un]) (fun q => .bl (decide (0 < q.length))) (by omega) (fun q hq => by simp [wipeE, bO])
    have r1 : allR (.n (QQ.map fun q => DL.D.bl (decide (0 < q.length)))) = vB (QQ.all fun q => decide (0 < q.length)) := by
      have := allR_map (QQ.map .lst) (fun d => match d with | .lst q => decide (0 < q.length) | _ => false)
      rw [List.map_map, List.all_map] at this
      exact this
    refine gv_step (by conv => lhs; simp [c1, r1]) ?_
    cases a2 : QQ.all (fun q => decide (0 < q.length)) with
    | false =>
      refine gv_ifT ?_
      exact gv_out rfl (by simp [isq, a2])
    | true =>
      refine gv_ifF ?_
      have il := intsL_map (f := fun d => (nameG 2 d (wipeE [.sh (.lst (QQ.map .lst)), .sh (.int m), .un, .un] [2])).bind fun ρ2 => ((varR ρ2 2).bind lenR).bind R.i) (fun d => match d with | .lst q => (q.length : Int) | _ => 0) (ds := QQ.map .lst) (fun d hd => by
        obtain ⟨q, hq, rfl⟩ := List.mem_map.mp hd
        simp [wipeE])
      rw [List.map_map] at il
      have ls : lenSetR (some (QQ.map .lst)) [2] (nameG 2) (fun ρ => (varR ρ 2).bind lenR) [.sh (.lst (QQ.map .lst)), .sh (.int m), .un, .un] = vI (card (QQ.map fun q => (q.length : Int)).reverse : Int) := by
        show (if (QQ.map DL.D.lst).length ≤ 1000 then (intsL _ _).map _ else none) = _
        rw [if_pos (by simpa using hl), il]
        rfl
      have z0 : L2.atI (QQ.map DL.D.lst) 0 = some (.lst (QQ.getD 0 [])) := by
        have h0 : 0 < QQ.length := by omega
        rw [show L2.atI (QQ.map DL.D.lst) 0 = (QQ.map DL.D.lst)[0]? from atI_natc _ 0]
        simp [h0]
      by_cases a3 : card (QQ.map fun q => (q.length : Int)).reverse = 1
      · by_cases a4 : (QQ.getD 0 []).length ≤ 300
        · refine gv_step (by conv => lhs; simp [ls, a3, z0, show ¬ (300 : Int) < ((QQ.getD 0 []).length : Int) by omega, show ¬ 300 < (QQ.getD 0 []).length by omega, -List.getD_eq_getElem?_getD]) ?_
          refine gv_ifF ?_
          have c2 := comp_list (u := DL.D.lst) (xs := QQ) (ow := [2]) (j := 2) (val := fun ρ => (compO ((varR ρ 2).bind srcJ) [3] (nameG 3) trueC (fun ρ => bO (andB ((callR (F_is_whole K cl) (consO (varR ρ 3) (some []))).bind R.t) ((bO (chR (fun i j => decide (i ≤ j)) (fun i j => decide (i ≤ j)) (vI 0) (varR ρ 3) (varR ρ 1))).bind R.t))) ρ).bind allR) (ρ := [.sh (.lst (QQ.map .lst)), .sh (.int m), .un, .un]) (fun q => .bl (q.all (okE m))) (by omega) (fun q hq => by
            obtain ⟨l1, l2⟩ := hk q hq
            have c3 := comp_list (u := fun d : DL.D => d) (xs := q) (ow := [3]) (j := 3) (val := fun ρ => bO (andB ((callR (F_is_whole K cl) (consO (varR ρ 3) (some []))).bind R.t) ((bO (chR (fun i j => decide (i ≤ j)) (fun i j => decide (i ≤ j)) (vI 0) (varR ρ 3) (varR ρ 1))).bind R.t))) (ρ := [.sh (.lst (QQ.map .lst)), .sh (.int m), .sh (.lst q), .un]) (fun d => .bl (okE m d)) (by omega) (fun d hd => by
              have := ok_entry K cl (m := m) (List.all_eq_true.mp l2 d hd)
              simpa [wipeE] using this)
            rw [List.map_id'] at c3
            have r3 : allR (.n (q.map fun d => DL.D.bl (okE m d))) = vB (q.all (okE m)) := allR_map q (okE m)
            exact (congrArg (fun z => (Option.bind z allR).bind R.d) c3).trans (by simp [r3]))
          have r2 : allR (.n (QQ.map fun q => DL.D.bl (q.all (okE m)))) = vB (QQ.all fun q => q.all (okE m)) := by
            have := allR_map (QQ.map .lst) (fun d => match d with | .lst q => q.all (okE m) | _ => false)
            rw [List.map_map, List.all_map] at this
            exact this
          refine gv_step (by conv => lhs; simp [c2, r2]) ?_
          exact gv_out rfl (by simp [isq, a1, a2, a3, a4, -List.getD_eq_getElem?_getD])
        · refine gv_step (by conv => lhs; simp [ls, a3, z0, show (300 : Int) < ((QQ.getD 0 []).length : Int) by omega, show 300 < (QQ.getD 0 []).length by omega, -List.getD_eq_getElem?_getD]) ?_
          refine gv_ifT ?_
          exact gv_out rfl (by simp [isq, a4, -List.getD_eq_getElem?_getD])
      · refine gv_step (by conv => lhs; simp [ls, show ¬ ((card (QQ.map fun q => (q.length : Int)).reverse : Nat) : Int) = 1 by omega]) ?_
        refine gv_ifT ?_
        exact gv_out rfl (by simp [isq, a3])
  · have : (decide ((1 : Int) ≤ (QQ.length : Int)) && decide ((QQ.length : Int) ≤ 300)) = false := by
      rw [Bool.and_eq_false_iff, decide_eq_false_iff_not, decide_eq_false_iff_not]; omega
    have a1' : (decide (1 ≤ QQ.length) && decide (QQ.length ≤ 300)) = false := by
      rw [Bool.and_eq_false_iff, decide_eq_false_iff_not, decide_eq_false_iff_not]; omega
    refine gv_step (by conv => lhs; simp only [varR_sh, bind_some', isiR_list_lst, R.t_b, Option.map_some, Bool.not_true, lenR_l, chR_i, c_MOST_SIDE, List.length_map, this]) ?_
    refine gv_step (by conv => lhs; simp []) ?_
    refine gv_ifT ?_
    exact gv_out rfl (by simp only [isq, a1', Bool.false_and]; rfl)
theorem ip_row {rows : List DL.D} {m : Int} (hl : rows.length ≤ 1000) (hk : ∀ d ∈ rows, (∃ q, d = .lst q) ∨ (∃ q, d = .tup q)) (hb : ∃ q, .tup q ∈ rows) : F_is_picture K cl [.lst rows, .int m] = some (.sh (.bl false)) := by
  refine run_of (ρ := [.sh (.lst rows), .sh (.int m), .un, .un]) rfl ?_
  unfold B_is_picture
  have ne : 1 ≤ rows.length := by
    obtain ⟨q, hq⟩ := hb
    exact List.length_pos_of_mem hq
  by_cases a1 : rows.length ≤ 300
  · refine gv_step (by conv => lhs; simp [c_MOST_SIDE, show (1 : Int) ≤ rows.length by omega, show (rows.length : Int) ≤ 300 by omega, ne, a1, show ¬ rows.length = 0 by omega, show ¬ 300 < rows.length by omega]) ?_
    refine gv_ifF ?_
    have c1 := comp_list (u := fun d : DL.D => d) (xs := rows) (ow := [2]) (j := 2) (val := fun ρ => bO (andB (((varR ρ 2).bind (isiR "list")).bind R.t) ((bO (o2 gtR ((varR ρ 2).bind lenR) (vI 0))).bind R.t))) (ρ := [.sh (.lst rows), .sh (.int m), .un, .un]) (fun d => .bl (match d with | .lst q => decide (0 < q.length) | _ => false)) (by omega) (fun d hd => by
      rcases hk d hd with ⟨q, rfl⟩ | ⟨q, rfl⟩ <;> simp [wipeE, bO])
    rw [List.map_id'] at c1
    have r1 := allR_map rows (fun d => match d with | .lst q => decide (0 < q.length) | _ => false)
    have f1 : rows.all (fun d => match d with | .lst q => decide (0 < q.length) | _ => false) = false := by
      obtain ⟨q, hq⟩ := hb
      rw [List.all_eq_false]
      exact ⟨_, hq, by simp⟩
    rw [f1] at r1
    refine gv_step (by conv => lhs; simp [c1, r1]) ?_
    refine gv_ifT ?_
    exact gv_out rfl rfl
  · refine gv_step (by conv => lhs; simp [c_MOST_SIDE, show (1 : Int) ≤ rows.length by omega, show ¬ (rows.length : Int) ≤ 300 by omega, ne, a1, show 300 < rows.length by omega]) ?_
    refine gv_ifT ?_
    exact gv_out rfl rfl
theorem card_same : ∀ (n : Nat) (k : Int), card (List.replicate (n + 1) k) = 1
  | 0, k => by simp [card]
  | n + 1, k => by
    have := card_same n k
    rw [List.replicate_succ]
    unfold card
    rw [if_pos (by simp), this]
theorem isq_rect {h w : Nat} {P : List (List Int)} (Z : Rect h w P) (h1 : 1 ≤ h ∧ h ≤ 300) (w1 : 1 ≤ w ∧ w ≤ 300) {m : Int} (hm : ∀ r ∈ P, ∀ x ∈ r, 0 ≤ x ∧ x ≤ m) : isq (P.map fun r => iD r) m = true := by
  have e : (P.map fun r => iD r).map (fun q => (q.length : Int)) = List.replicate ((h - 1) + 1) (w : Int) := by
    rw [List.map_map]
    refine List.eq_replicate_iff.mpr ⟨by simp [Z.hl]; omega, fun b hb => ?_⟩
    obtain ⟨r, hr, rfl⟩ := List.mem_map.mp hb
    simp [Z.wl r hr]
  have z := (Z.row (j := 0) (by omega)).1
  unfold isq
  rw [e, List.reverse_replicate, card_same]
  simp only [List.length_map, Z.hl, Bool.and_eq_true, decide_eq_true_eq, List.all_eq_true]
  refine ⟨⟨⟨⟨⟨h1.1, h1.2⟩, fun q hq => ?_⟩, trivial⟩, ?_⟩, fun q hq => ?_⟩
  · obtain ⟨r, hr, rfl⟩ := List.mem_map.mp hq
    have hr := Z.wl r hr
    rw [List.length_map, hr]; omega
  · have hp : 0 < P.length := by rw [Z.hl]; omega
    have e0 : (P.map fun r => iD r).getD 0 [] = iD (P.getD 0 []) := by
      rw [List.getD_eq_getElem?_getD, List.getElem?_map, z]; rfl
    rw [e0, List.length_map, (Z.row (j := 0) (by omega)).2]
    exact w1.2
  · obtain ⟨r, hr, rfl⟩ := List.mem_map.mp hq
    intro d hd
    obtain ⟨x, hx, rfl⟩ := List.mem_map.mp hd
    have := hm r hr x hx
    show (decide (0 ≤ x) && decide (x ≤ m)) = true
    rw [decide_eq_true this.1, decide_eq_true this.2]; rfl
theorem ip_ok {h w : Nat} {P : List (List Int)} (Z : Rect h w P) (h1 : 1 ≤ h ∧ h ≤ 300) (w1 : 1 ≤ w ∧ w ≤ 300) {m : Int} (hm : ∀ r ∈ P, ∀ x ∈ r, 0 ≤ x ∧ x ≤ m) : F_is_picture K cl [.lst (pD P), .int m] = some (.sh (.bl true)) := by
  have := ip_rows K cl (QQ := P.map fun r => iD r) (m := m) (fun q hq => by
    obtain ⟨r, hr, rfl⟩ := List.mem_map.mp hq
    refine ⟨by simp [Z.wl r hr]; omega, ?_⟩
    rw [List.all_eq_true]; intro d hd
    obtain ⟨x, _, rfl⟩ := List.mem_map.mp hd; rfl) (by simp [Z.hl]; omega)
  rw [isq_rect Z h1 w1 hm, List.map_map] at this
  exact this
end LawW


set_option linter.all false
set_option autoImplicit false
set_option maxRecDepth 100000
set_option maxHeartbeats 1000000
namespace LawW
open PySem PySem.Spec PyProof.Rows L2 DL
variable (K : PySem.W.Frag) (cl : Str → Addr)
theorem getD_at {α : Type} {xs : List α} {i : Nat} {d : α} (h : i < xs.length) : xs.getD i d = xs[i] := by simp [List.getD_eq_getElem?_getD, h]
/-- a light -/
def lt (a b c : Int) (i j : Nat) : Int := if (a + b * i + c * j) / 16 > 0 then (a + b * i + c * j) / 16 else 0
theorem lt_nonneg (a b c : Int) (i j : Nat) : 0 ≤ lt a b c i j := by unfold lt; split <;> omega
theorem div16 (x : Int) : divR (.v (.int x)) (.v (.int 16)) = vI (x / 16) := by rw [divR_i, if_pos ⟨by decide, .inl (by decide)⟩]; rfl
theorem divP {x y : Int} (h : 0 < y) (h2 : y < 1000000) : divR (.v (.int x)) (.v (.int y)) = vI (x / y) := by
  rw [divR_i, if_pos ⟨by omega, .inl (by omega)⟩, if_pos h]
theorem light_at_ok {a b c : Int} {i j : Nat} (hi : i < 1000) (hj : j < 1000) : F_light_at K cl [.tup [.int a, .int b, .int c], .int (i : Int), .int (j : Int)] = some (.sh (.int (lt a b c i j))) := by
  have m1 : mulR (.v (.int b)) (.v (.int (i : Int))) = vI (b * i) := mulR_r (by omega)
  have m2 : mulR (.v (.int c)) (.v (.int (j : Int))) = vI (c * j) := mulR_r (by omega)
  have mx : ∀ x : Int, max2R (.v (.int 0)) (.v (.int x)) = vI (if x > 0 then x else 0) := fun x => rfl
  refine run_of (ρ := [.sh (.tup [.int a, .int b, .int c]), .sh (.int (i : Int)), .sh (.int (j : Int)), .un, .un, .un]) rfl ?_
  unfold B_light_at
  refine gv_step (by conv => lhs; simp [m1, m2, div16, mx]) ?_
  exact gv_out rfl rfl
theorem law_light_ok {a b c : Int} {i j : Nat} (hi : i < 1000) (hj : j < 1000) : F__law_light K cl [.tup [.int a, .int b, .int c], .int (j : Int), .int (i : Int)] = some (.sh (.int (lt a b c i j))) := by
  have m1 : mulR (.v (.int b)) (.v (.int (i : Int))) = vI (b * i) := mulR_r (by omega)
  have m2 : mulR (.v (.int c)) (.v (.int (j : Int))) = vI (c * j) := mulR_r (by omega)
  have mx : ∀ x : Int, max2R (.v (.int 0)) (.v (.int x)) = vI (if x > 0 then x else 0) := fun x => rfl
  refine run_of (ρ := [.sh (.tup [.int a, .int b, .int c]), .sh (.int (j : Int)), .sh (.int (i : Int))]) rfl ?_
  unfold B__law_light
  refine gv_step (by conv => lhs; simp [atI_lit, m1, m2, div16, mx]) ?_
  exact gv_out rfl rfl
/-- is it a light -/
def isl (ds : List DL.D) : Bool := ds.all fun d => match d with
  | .int x => decide (-4096 ≤ x) && decide (x ≤ 4096)
  | _ => false
theorem light_not {v : DL.D} (h : isiR "tuple" (.v v) = vB false) : F_is_light K cl [v] = some (.sh (.bl false)) := by
  simp [F_is_light, runF, B_is_light, startE, h, ifO_b]
theorem light_len {ds : List DL.D} (h : ds.length ≠ 3) : F_is_light K cl [.tup ds] = some (.sh (.bl false)) := by
  refine run_of (ρ := [.sh (.tup ds), .un]) rfl ?_
  unfold B_is_light
  refine gv_step (by conv => lhs; simp [show ¬ (ds.length : Int) = 3 by omega]) ?_
  refine gv_ifT ?_
  exact gv_out rfl rfl
theorem light_ok {d e f : DL.D} (hk : [d, e, f].all kn = true) : F_is_light K cl [.tup [d, e, f]] = some (.sh (.bl (isl [d, e, f]))) := by
  have c1 := comp_list (u := fun d : DL.D => d) (xs := [d, e, f]) (ow := [1]) (j := 1) (val := fun ρ => callR (F_is_whole K cl) (consO (varR ρ 1) (some []))) (ρ := [.sh (.tup [d, e, f]), .un]) (fun d => .bl (isW d)) (by simp) (fun q hq => by
    have := is_whole_ok K cl q (List.all_eq_true.mp hk q hq)
    simp [wipeE, this])
  rw [List.map_id'] at c1
  have r1 := allR_map [d, e, f] isW
  refine run_of (ρ := [.sh (.tup [d, e, f]), .un]) rfl ?_
  unfold B_is_light
  refine gv_step (by conv => lhs; simp only [varR_sh, bind_some', isiR_tuple_tup, R.t_b, Option.map_some, Bool.not_true, srcJ, R.b_t, lenR_t, o2_some]) ?_
  rw [c1, show (vN ([d, e, f].map fun d => DL.D.bl (isW d))).bind allR = vB ([d, e, f].all isW) from r1]
  cases w : [d, e, f].all isW with
  | false =>
    refine gv_step (by conv => lhs; simp []) ?_
    refine gv_ifT ?_
    have : isl [d, e, f] = false := by
      rw [List.all_eq_false] at w
      obtain ⟨x, hx, hw⟩ := w
      unfold isl
      rw [List.all_eq_false]
      refine ⟨x, hx, ?_⟩
      cases x <;> simp [isW] at hw ⊢
    rw [this]
    exact gv_out rfl rfl
  | true =>
    refine gv_step (by conv => lhs; simp []) ?_
    refine gv_ifF ?_
    obtain ⟨x, rfl⟩ : ∃ x, d = .int x := by cases d <;> simp [isW] at w; exact ⟨_, rfl⟩
    obtain ⟨y, rfl⟩ : ∃ x, e = .int x := by cases e <;> simp [isW] at w; exact ⟨_, rfl⟩
    obtain ⟨z, rfl⟩ : ∃ x, f = .int x := by cases f <;> simp [isW] at w; exact ⟨_, rfl⟩
    have c2 := comp_list (u := DL.D.int) (xs := [x, y, z]) (ow := [1]) (j := 1) (val := fun ρ => bO (chR (fun i j => decide (i ≤ j)) (fun i j => decide (i ≤ j)) ((vD c_MOST_LIGHT).bind negR) (varR ρ 1) (vD c_MOST_LIGHT))) (ρ := [.sh (.tup [.int x, .int y, .int z]), .un]) (fun q => .bl (decide (-4096 ≤ q) && decide (q ≤ 4096))) (by simp) (fun q hq => by simp [wipeE, c_MOST_LIGHT, bO])
    have r2 := allR_map ([x, y, z].map DL.D.int) (fun d => match d with | .int x => decide (-4096 ≤ x) && decide (x ≤ 4096) | _ => false)
    refine gv_step (show _ = retO (vB (isl [.int x, .int y, .int z])) from ?_) ?_
    · exact (congrArg (fun z => retO (Option.bind z allR)) c2).trans (congrArg retO r2)
    · exact gv_out rfl rfl
/-- what is lit -/
def lv (a b c m : Int) (j i : Nat) (n : Int) : Int := lt a b c i j * (4 * m - 3 * n) / (4 * m)
def litP (h w : Nat) (P : List (List Int)) (m a b c : Int) : List (List Int) := tab h w fun j i => lv a b c m j i (el P j i)
abbrev badp (cl : Str → Addr) (w : Str) : Option Res := some (.er (excF (cl "BadPicture") "reason" (.str w)))
theorem check_ok {v : DL.D} {m : Int} (h : F_is_picture K cl [v, .int m] = some (.sh (.bl true))) : F_check_picture K cl [v, .int m] = some (.sh .non) := by
  simp [F_check_picture, runF, B_check_picture, startE, h, ifO_b]
theorem check_bad {v : DL.D} {m : Int} (h : F_is_picture K cl [v, .int m] = some (.sh (.bl false))) : F_check_picture K cl [v, .int m] = badp cl "picture" := by
  simp [F_check_picture, runF, B_check_picture, startE, h, ifO_b, raiO]
theorem lit_bad1 {v l : DL.D} {m : Int} (h : F_is_picture K cl [v, .int m] = some (.sh (.bl false))) : F_lit K cl [v, .int m, l] = badp cl "picture" := by
  simp [F_lit, runF, B_lit, startE, check_bad K cl h, exprX]
theorem lit_bad2 {v l : DL.D} {m : Int} (h : F_is_picture K cl [v, .int m] = some (.sh (.bl true))) (hl : F_is_light K cl [l] = some (.sh (.bl false))) : F_lit K cl [v, .int m, l] = badp cl "light" := by
  simp [F_lit, runF, B_lit, startE, check_ok K cl h, exprX, hl, ifO_b, raiO]
theorem enums_map {α : Type} (u : α → DL.D) (xs : List α) : enums (xs.map u) = xs.zipIdx.map fun q => DL.D.tup [.int (q.2 : Int), u q.1] := by
  unfold enums
  rw [List.zipIdx_map, List.map_map]; rfl
section
variable {h w : Nat} {P : List (List Int)} (Z : Rect h w P) (h1 : 1 ≤ h ∧ h ≤ 300) (w1 : 1 ≤ w ∧ w ≤ 300) {m : Int} (m1 : 1 ≤ m ∧ m ≤ 16) (hm : ∀ r ∈ P, ∀ x ∈ r, 0 ≤ x ∧ x ≤ m) {a b c : Int}
include Z h1 w1 m1 hm
theorem row_lit {j : Nat} (hj : j < h) (val : Ev → Option R) (ρ : Ev) {x6 x7 : Nat} (hv : ∀ (i : Nat) (n : Int), i < w → n = el P j i → (val (((wipeE ρ [x6, x7]).set x6 (.sh (.int (i : Int)))).set x7 (.sh (.int n)))).bind R.d = some (.int (lv a b c m j i n))) :
    compO (some (enums (iD (P.getD j [])))) [x6, x7] (tupG 2 (consG (nameG x6) (consG (nameG x7) nilG))) trueC val ρ = vN (iD ((List.range w).map fun i => lv a b c m j i (el P j i))) := by
  obtain ⟨e1, e2⟩ := Z.row hj
  rw [enums_map]
  have := compO_mapI (u := fun q : Int × Nat => DL.D.tup [.int (q.2 : Int), .int q.1]) (xs := (P.getD j []).zipIdx) (ow := [x6, x7]) (g := tupG 2 (consG (nameG x6) (consG (nameG x7) nilG))) (val := val) (ρ := ρ) (fun q => .int (lv a b c m j q.2 q.1)) (by simp only [List.length_zipIdx]; omega) (fun q hq => by
    obtain ⟨n, i⟩ := q
    have hz := List.mem_zipIdx hq
    have hi : i < w := by have := hz.2.1; omega
    have hn : n = el P j i := by
      rw [hz.2.2]
      unfold el
      rw [List.getD_eq_getElem?_getD (l := P.getD j []), List.getElem?_eq_getElem (show i < (P.getD j []).length by omega)]
      simp
    rw [compG_true]
    show ((val _).bind R.d).map some = _
    have := hv i n hi hn
    rw [show (val (((wipeE ρ [x6, x7]).set x6 (.sh (.int (i : Int)))).set x7 (.sh (.int n)))).bind R.d = _ from this]
    rfl)
  rw [this]
  have key : ((P.getD j []).zipIdx.map fun q => DL.D.int (lv a b c m j q.2 q.1)) = iD ((List.range w).map fun i => lv a b c m j i (el P j i)) := by
    show _ = List.map _ (List.map _ _)
    rw [List.map_map]
    refine List.ext_getElem? fun i => ?_
    rw [List.getElem?_map, List.getElem?_zipIdx, List.getElem?_map]
    unfold el
    by_cases hi : i < w
    · rw [List.getElem?_range hi, List.getElem?_eq_getElem (show i < (P.getD j []).length by omega)]
      show some (DL.D.int (lv a b c m j (0 + i) _)) = some (DL.D.int (lv a b c m j i ((P.getD j []).getD i 0)))
      rw [getD_at (xs := P.getD j []) (show i < (P.getD j []).length by omega), Nat.zero_add]
    · rw [List.getElem?_eq_none (l := P.getD j []) (by omega), List.getElem?_eq_none (l := List.range w) (by simp; omega)]; rfl
  rw [key]
end
end LawW


set_option linter.all false
set_option autoImplicit false
set_option maxRecDepth 100000
set_option maxHeartbeats 1000000
namespace LawW
open PySem PySem.Spec PyProof.Rows L2 DL
variable (K : PySem.W.Frag) (cl : Str → Addr)
theorem enum_rows {P : List (List Int)} : enum2R (.v (.lst (pD P))) = some (enums (pD P)) := rfl
theorem el_mem {h w : Nat} {P : List (List Int)} (Z : Rect h w P) {m : Int} (hm : ∀ r ∈ P, ∀ x ∈ r, 0 ≤ x ∧ x ≤ m) {j i : Nat} (hj : j < h) (hi : i < w) : 0 ≤ el P j i ∧ el P j i ≤ m := by
  obtain ⟨e1, e2⟩ := Z.row hj
  unfold el
  rw [getD_at (xs := P.getD j []) (show i < (P.getD j []).length by omega)]
  exact hm _ (List.mem_of_getElem? e1) _ (List.getElem_mem _)
theorem tab_snoc (n w : Nat) (f : Nat → Nat → Int) : tab (n + 1) w f = tab n w f ++ [(List.range w).map fun i => f n i] := by
  unfold tab; rw [List.range_succ, List.map_append]; rfl
theorem pD_snoc (n w : Nat) (f : Nat → Nat → Int) : pD (tab (n + 1) w f) = pD (tab n w f) ++ [rD ((List.range w).map fun i => f n i)] := by
  rw [tab_snoc]; exact List.map_append
theorem tab_all {h w : Nat} {f : Nat → Nat → Int} {p : Int → Prop} (hp : ∀ j i, j < h → i < w → p (f j i)) : ∀ r ∈ tab h w f, ∀ x ∈ r, p x := fun r hr x hx => by
  obtain ⟨j, hj, rfl⟩ := List.mem_map.mp hr
  obtain ⟨i, hi, rfl⟩ := List.mem_map.mp hx
  exact hp j i (List.mem_range.mp hj) (List.mem_range.mp hi)
section
variable {h w : Nat} {P : List (List Int)} (Z : Rect h w P) (h1 : 1 ≤ h ∧ h ≤ 300) (w1 : 1 ≤ w ∧ w ≤ 300) {m : Int} (m1 : 1 ≤ m ∧ m ≤ 16) (hm : ∀ r ∈ P, ∀ x ∈ r, 0 ≤ x ∧ x ≤ m) {a b c : Int}
include Z h1 w1 m1 hm
theorem one_lit {j i : Nat} (hj : j < h) (hi : i < w) : o2 divR (o2 mulR (some (.v (.int (lt a b c i j)))) (o2 subR (o2 mulR (vI 4) (vI m)) (o2 mulR (vI 3) (vI (el P j i))))) (o2 mulR (vI 4) (vI m)) = vI (lv a b c m j i (el P j i)) := by
  have := el_mem Z hm hj hi
  have q1 : mulR (.v (.int 4)) (.v (.int m)) = vI (4 * m) := mulR_l (by decide)
  have q2 : mulR (.v (.int 3)) (.v (.int (el P j i))) = vI (3 * el P j i) := mulR_l (by decide)
  have q3 : mulR (.v (.int (lt a b c i j))) (.v (.int (4 * m - 3 * el P j i))) = vI (lt a b c i j * (4 * m - 3 * el P j i)) := mulR_r (by omega)
  have q4 := divP (x := lt a b c i j * (4 * m - 3 * el P j i)) (y := 4 * m) (by omega) (by omega)
  rw [o2_some, o2_some, q1, q2, o2_some, subR_i, o2_some, q3, o2_some, q4]; rfl
theorem lit_ok (hl : F_is_light K cl [.tup [.int a, .int b, .int c]] = some (.sh (.bl true))) : F_lit K cl [.lst (pD P), .int m, .tup [.int a, .int b, .int c]] = some (.ow (pD (litP h w P m a b c))) := by
  have ck := check_ok K cl (ip_ok K cl Z h1 w1 hm)
  refine run_of (ρ := [.sh (.lst (pD P)), .sh (.int m), .sh (.tup [.int a, .int b, .int c]), .un, .un, .un, .un, .un]) rfl ?_
  unfold B_lit
  refine gv_step (by conv => lhs; simp [ck, exprX, hl, -appO_eq]) ?_
  refine gv_ifF ?_
  refine gv_step (by conv => lhs; simp [enum_rows, -appO_eq]) ?_
  refine gv_for (I := fun j ρ => ∃ s4 s5 : Sl, ρ = [.sh (.lst (pD P)), .sh (.int m), .sh (.tup [.int a, .int b, .int c]), .ow (pD (tab j w fun j i => lv a b c m j i (el P j i))), s4, s5, .un, .un]) ⟨_, _, rfl⟩ ?_ ?_
  · rintro j d _ hd ⟨s4, s5, rfl⟩
    obtain ⟨d', h3, rfl⟩ := enums_get hd
    rw [List.getElem?_map] at h3
    obtain ⟨row, hr, rfl⟩ := Option.map_eq_some_iff.mp h3
    have hj : j < h := by rw [← Z.hl]; exact (List.getElem?_eq_some_iff.mp hr).1
    have er : row = P.getD j [] := by have := (Z.row hj).1; rw [hr] at this; exact Option.some.inj this
    subst er
    have rl := row_lit Z h1 w1 m1 hm (a := a) (b := b) (c := c) hj (val := fun ρ => o2 divR (o2 mulR (callR (F_light_at K cl) (consO (varR ρ 2) (consO (varR ρ 6) (consO (varR ρ 4) (some []))))) (o2 subR (o2 mulR (vI 4) (varR ρ 1)) (o2 mulR (vI 3) (varR ρ 7)))) (o2 mulR (vI 4) (varR ρ 1))) (ρ := [.sh (.lst (pD P)), .sh (.int m), .sh (.tup [.int a, .int b, .int c]), .ow (pD (tab j w fun j i => lv a b c m j i (el P j i))), .sh (.int (j : Int)), .sh (rD (P.getD j [])), .un, .un]) (x6 := 6) (x7 := 7) (fun i n hi hn => by
      subst hn
      have la := light_at_ok K cl (a := a) (b := b) (c := c) (i := i) (j := j) (by omega) (by omega)
      have ol := one_lit Z h1 w1 m1 hm (a := a) (b := b) (c := c) hj hi
      simp only [wipeE, List.set_cons_zero, List.set_cons_succ, varR_sh, varR_succ, consO_some, callR_some, la, bind_some', resR_sh]
      rw [ol]; rfl)
    refine ⟨[.sh (.lst (pD P)), .sh (.int m), .sh (.tup [.int a, .int b, .int c]), .ow (pD (tab j w fun j i => lv a b c m j i (el P j i))), .sh (.int (j : Int)), .sh (rD (P.getD j [])), .un, .un], by simp, ?_⟩
    have tl : (pD (tab j w fun j i => lv a b c m j i (el P j i))).length = j := by simp [tab]
    refine gv_app (d := rD ((List.range w).map fun i => lv a b c m j i (el P j i))) ?_ rfl (by omega) ?_
    · exact congrArg (fun z : Option DL.R => z.bind R.d) rl
    · exact gv_out rfl ⟨_, .inl rfl, _, _, by rw [pD_snoc]; rfl⟩
  · rintro _ ⟨s4, s5, rfl⟩
    rw [enums_len, List.length_map, Z.hl]
    exact gv_out rfl rfl
theorem law_lit_ok : F__law_lit K cl [.lst (pD P), .int m, .tup [.int a, .int b, .int c]] = some (.ow (pD (litP h w P m a b c))) := by
  refine run_of (ρ := [.sh (.lst (pD P)), .sh (.int m), .sh (.tup [.int a, .int b, .int c]), .un, .un, .un, .un]) rfl ?_
  unfold B__law_lit
  refine gv_step (by conv => lhs; simp [Z.hl, show h < 4611686018427387904 by omega, -appO_eq]) ?_
  refine gv_rng (n := (h : Int)) (J := fun j ρ => ∃ s4 s5 : Sl, ρ = [.sh (.lst (pD P)), .sh (.int m), .sh (.tup [.int a, .int b, .int c]), .ow (pD (tab j w fun j i => lv a b c m j i (el P j i))), s4, s5, .un]) ⟨_, _, rfl⟩ ?_ ?_
  · rintro j hj _ ⟨s4, s5, rfl⟩
    have hj : j < h := by omega
    have ar := at_row (P := P) (j := j) (by rw [Z.hl]; exact hj)
    obtain ⟨e1, e2⟩ := Z.row hj
    have cr := comp_rng (n := w) (ow := [6]) (j := 6) (val := fun ρ => o2 divR (o2 mulR (callR (F__law_light K cl) (consO (varR ρ 2) (consO (varR ρ 4) (consO (varR ρ 6) (some []))))) (o2 subR (o2 mulR (vI 4) (varR ρ 1)) (o2 mulR (vI 3) (o2 ixR (varR ρ 5) (varR ρ 6))))) (o2 mulR (vI 4) (varR ρ 1))) (ρ := [.sh (.lst (pD P)), .sh (.int m), .sh (.tup [.int a, .int b, .int c]), .ow (pD (tab j w fun j i => lv a b c m j i (el P j i))), .sh (.int (j : Int)), .sh (rD (P.getD j [])), .un]) (fun i => .int (lv a b c m j i (el P j i))) (by omega) (fun i hi => by
      have la := law_light_ok K cl (a := a) (b := b) (c := c) (i := i) (j := j) (by omega) (by omega)
      have ol := one_lit Z h1 w1 m1 hm (a := a) (b := b) (c := c) hj hi
      have ai : ixR (.v (rD (P.getD j []))) (.v (.int (i : Int))) = vI (el P j i) := by
        show (L2.atI (iD (P.getD j [])) (i : Int)).map DL.R.v = _
        rw [at_int (by omega)]; rfl
      simp only [wipeE, List.set_cons_zero, List.set_cons_succ, varR_sh, varR_succ, consO_some, callR_some, la, bind_some', resR_sh]
      rw [o2_some (x := DL.R.v (rD _)), ai, ol]; rfl)
    have e3 : (List.range w).map (fun i => DL.D.int (lv a b c m j i (el P j i))) = iD ((List.range w).map fun i => lv a b c m j i (el P j i)) := by show _ = List.map _ (List.map _ _); rw [List.map_map]; rfl
    rw [e3] at cr
    have tl : (pD (tab j w fun j i => lv a b c m j i (el P j i))).length = j := by simp [tab]
    have lr : (iD (P.getD j [])).length = w := by simp only [List.length_map]; exact e2
    have h62 : in62 (w : Int) := by unfold in62; omega
    refine gv_step (by conv => lhs; simp only [List.set_cons_zero, List.set_cons_succ, varR_sh, varR_succ, o2_some, ixR_l, ar, Option.map_some, setS, bind_some', R.d_v, lenR_l, lr, rng1R_i, if_pos h62]) ?_
    · refine gv_app (d := rD ((List.range w).map fun i => lv a b c m j i (el P j i))) ?_ rfl (by omega) ?_
      · exact congrArg (fun z : Option DL.R => z.bind R.d) cr
      · exact gv_out rfl ⟨_, rfl, _, _, by rw [pD_snoc]; rfl⟩
  · rintro _ ⟨s4, s5, rfl⟩
    exact gv_out rfl rfl
end
end LawW


set_option linter.all false
set_option autoImplicit false
set_option maxRecDepth 100000
set_option maxHeartbeats 1000000
namespace LawW
open PySem PySem.Spec PyProof.Rows L2 DL
variable (K : PySem.W.Frag) (cl : Str → Addr)
/-- a new table of numbers, as a tree -/
abbrev tR (r : List Int) : T := .ls ((iD r).map .fz)
abbrev tT (P : List (List Int)) : T := .ls (P.map tR)
theorem toDs_fz (ds : List DL.D) : T.toDs (ds.map .fz) = ds := by
  rw [toDs_map, List.map_map]
  exact (List.map_congr_left fun d _ => rfl).trans (List.map_id _)
theorem toD_tR (r : List Int) : T.toD (tR r) = rD r := by show DL.D.lst (T.toDs _) = _; rw [toDs_fz]
theorem toD_tT (P : List (List Int)) : T.toD (tT P) = .lst (pD P) := by
  show DL.D.lst (T.toDs _) = _
  rw [toDs_map, List.map_map]
  exact congrArg DL.D.lst (List.map_congr_left fun r _ => toD_tR r)
theorem gv_appP {i : Nat} {o : Option T} {k : Kt} {ρ : Ev} {us : List T} {t : T} {P : Out → Prop} (hs : ρ[i]? = some (.ot (.ls us))) (h : o = some t) (hl : us.length < 16777216) (g : Gv (k (ρ.set i (.ot (.ls (us ++ [t]))))) P) : Gv (appPO i (some []) o k ρ) P := by
  subst h
  unfold appPO
  rw [hs]
  show Gv (if us.length < sizeLine then _ else none) P
  rw [if_pos (show us.length < sizeLine from hl)]; exact g
theorem zips_map {α : Type} (u v : α → DL.D) (xs : List α) : zips (xs.map u) (xs.map v) = xs.map fun a => .tup [u a, v a] := by
  induction xs with
  | nil => rfl
  | cons x xs ih => show _ :: zips _ _ = _ :: _; rw [ih]
abbrev rw (w : Nat) (f : Nat → Int) : List Int := (List.range w).map f
theorem zips_rw (w : Nat) (f g : Nat → Int) : zips (iD (rw w f)) (iD (rw w g)) = (List.range w).map fun i => .tup [.int (f i), .int (g i)] := by
  show zips (List.map _ (List.map _ _)) (List.map _ (List.map _ _)) = _
  rw [List.map_map, List.map_map, zips_map]; rfl
theorem zips_tab (h w : Nat) (f g : Nat → Nat → Int) : zips (pD (tab h w f)) (pD (tab h w g)) = (List.range h).map fun j => .tup [rD (rw w (f j)), rD (rw w (g j))] := by
  show zips (List.map _ (List.map _ _)) (List.map _ (List.map _ _)) = _
  rw [List.map_map, List.map_map, zips_map]; rfl
/-- black is what is less than five eighths of the greatest near by -/
def uv (x y : Int) : Int := if 8 * x < 5 * y then 1 else 0
def unP (h w : Nat) (P : List (List Int)) (r : Nat) : List (List Int) := tab h w fun j i => uv (el P j i) (el (near h w P r) j i)
theorem one_un {x y : Int} : (bO (o2 ltR (o2 mulR (vI 8) (some (.v (.int x)))) (o2 mulR (vI 5) (some (.v (.int y)))))).bind intR = vI (uv x y) := by
  have q1 : mulR (.v (.int 8)) (.v (.int x)) = vI (8 * x) := mulR_l (by decide)
  have q2 : mulR (.v (.int 5)) (.v (.int y)) = vI (5 * y) := mulR_l (by decide)
  rw [o2_some, o2_some, q1, q2, o2_some]
  show vI (if decide (8 * x < 5 * y) = true then 1 else 0) = _
  unfold uv
  by_cases z : 8 * x < 5 * y <;> simp [z]
theorem near_rect (h w : Nat) (P : List (List Int)) (r : Nat) : Rect h w (near h w P r) := tab_rect _ _ _
theorem near_tab (h w : Nat) (P : List (List Int)) (r : Nat) : near h w P r = tab h w (el (near h w P r)) := (near_rect h w P r).tab
section
variable {h w r : Nat} {P : List (List Int)} (Z : Rect h w P) (h1 : 1 ≤ h ∧ h ≤ 300) (w1 : 1 ≤ w ∧ w ≤ 300) (hr : r ≤ 300) (hm : ∀ q ∈ P, ∀ x ∈ q, 0 ≤ x ∧ x ≤ 1228800)
include Z h1 w1 hr hm
theorem unlit_ok : F_unlit K cl [.lst (pD P), .int (r : Int)] = some (.ot (tT (unP h w P r))) := by
  have ck := check_ok K cl (ip_ok K cl Z h1 w1 hm)
  have iw : F_is_whole K cl [.int (r : Int)] = some (.sh (.bl true)) := is_whole_ok K cl _ rfl
  have ml : mulR (.v (.int 4096)) (.v (.int 300)) = vI 1228800 := mulR_l (by decide)
  have rn := round_ok K cl Z h1.1 h1.2 w1.1 w1.2 hr
  refine run_of (ρ := [.sh (.lst (pD P)), .sh (.int (r : Int)), .un, .un, .un, .un, .un, .un]) rfl ?_
  unfold B_unlit
  refine gv_step (by conv => lhs; simp [c_MOST_LIGHT, c_MOST_SIDE, ml, ck, exprX, iw, show (r : Int) ≤ 300 by omega, hr, -appO_eq]) ?_
  refine gv_ifF ?_
  refine gv_step (by conv => lhs; simp [rn]) ?_
  refine gv_step (o' := forO (some (zips (pD P) (pD (near h w P r)))) (tupG 2 (consG (nameG 4) (consG (nameG 5) nilG))) _ _ [.sh (.lst (pD P)), .sh (.int (r : Int)), .sh (.lst (pD (near h w P r))), .ot (.ls []), .un, .un, .un, .un]) rfl ?_
  have zt := zips_tab h w (el P) (el (near h w P r))
  rw [← Z.tab, ← near_tab] at zt
  rw [zt]
  refine gv_for (I := fun j ρ => ∃ s4 s5 : Sl, ρ = [.sh (.lst (pD P)), .sh (.int (r : Int)), .sh (.lst (pD (near h w P r))), .ot (tT (tab j w fun j i => uv (el P j i) (el (near h w P r) j i))), s4, s5, .un, .un]) ⟨_, _, rfl⟩ ?_ ?_
  · rintro j d _ hd ⟨s4, s5, rfl⟩
    rw [List.getElem?_map] at hd
    obtain ⟨j', hr, rfl⟩ := Option.map_eq_some_iff.mp hd
    obtain ⟨hj, rfl⟩ : j < h ∧ j = j' := by
      obtain ⟨a, b⟩ := List.getElem?_eq_some_iff.mp hr
      simp at a b; exact ⟨a, b⟩
    refine ⟨[.sh (.lst (pD P)), .sh (.int (r : Int)), .sh (.lst (pD (near h w P r))), .ot (tT (tab j w fun j i => uv (el P j i) (el (near h w P r) j i))), .sh (rD (rw w (el P j))), .sh (rD (rw w (el (near h w P r) j))), .un, .un], by simp, ?_⟩
    have c2 := compO_mapI (u := fun i => DL.D.tup [.int (el P j i), .int (el (near h w P r) j i)]) (xs := List.range w) (ow := [6, 7]) (g := tupG 2 (consG (nameG 6) (consG (nameG 7) nilG))) (val := fun ρ => (bO (o2 ltR (o2 mulR (vI 8) (varR ρ 6)) (o2 mulR (vI 5) (varR ρ 7)))).bind intR) (ρ := [.sh (.lst (pD P)), .sh (.int (r : Int)), .sh (.lst (pD (near h w P r))), .ot (tT (tab j w fun j i => uv (el P j i) (el (near h w P r) j i))), .sh (rD (rw w (el P j))), .sh (rD (rw w (el (near h w P r) j))), .un, .un]) (fun i => .int (uv (el P j i) (el (near h w P r) j i))) (by simp; omega) (fun i _ => by
      rw [compG_true]
      exact congrArg (fun z => (Option.bind z R.d).map some) (one_un (x := el P j i) (y := el (near h w P r) j i)))
    refine gv_appP rfl (t := tR (rw w fun i => uv (el P j i) (el (near h w P r) j i))) ?_ (by simp [tab]; omega) ?_
    · refine (congrArg (fun z => Option.bind (compO z _ _ _ _ _) r2T) (congrArg some (zips_rw w (el P j) (el (near h w P r) j)))).trans ((congrArg (fun z => Option.bind z r2T) c2).trans ?_)
      show some (T.ls (List.map _ (List.map _ _))) = some (T.ls (List.map _ (List.map _ (List.map _ _))))
      rw [List.map_map, List.map_map, List.map_map]; rfl
    · exact gv_out rfl ⟨_, .inl rfl, _, _, by rw [tab_snoc, show tT (_ ++ _) = T.ls _ from congrArg T.ls List.map_append]; rfl⟩
  · rintro _ ⟨s4, s5, rfl⟩
    rw [List.length_map, List.length_range]
    exact gv_out rfl rfl
theorem law_unlit_ok : F__law_unlit K cl [.lst (pD P), .int (r : Int)] = some (.ow (pD (unP h w P r))) := by
  have rn := law_greatest_ok K cl Z h1.1 h1.2 w1.1 w1.2 hr
  have a0 := at_row (P := P) (j := 0) (by rw [Z.hl]; omega)
  have l0 := (Z.row (j := 0) (by omega)).2
  simp only [List.getD_eq_getElem?_getD] at l0
  refine run_of (ρ := [.sh (.lst (pD P)), .sh (.int (r : Int)), .un, .un, .un]) rfl ?_
  unfold B__law_unlit
  have c4 := comp_tab (h := h) (w := w) (ow1 := [3]) (ow2 := [4]) (j1 := 3) (j2 := 4) (val := fun ρ => (bO (o2 ltR (o2 mulR (vI 8) (o2 ixR (o2 ixR (varR ρ 0) (varR ρ 3)) (varR ρ 4))) (o2 mulR (vI 5) (o2 ixR (o2 ixR (varR ρ 2) (varR ρ 3)) (varR ρ 4))))).bind intR) (src := fun ρ => ((o2 ixR (varR ρ 0) (vI 0)).bind lenR).bind rng1R) (ρ := [.sh (.lst (pD P)), .sh (.int (r : Int)), .sh (.lst (pD (near h w P r))), .un, .un]) (fun j i => uv (el P j i) (el (near h w P r) j i)) (by omega) (by omega) (fun j hj => by
    simp [wipeE, show L2.atI (pD P) 0 = _ from a0, l0, show w < 4611686018427387904 by omega, -List.map_map]) (fun j i hj hi => by
    have b1 := at_row (P := P) (j := j) (by rw [Z.hl]; exact hj)
    have b2 := at_int (xs := P.getD j []) (n := i) (by rw [(Z.row hj).2]; exact hi)
    have b3 := at_row (P := near h w P r) (j := j) (by rw [(near_rect h w P r).hl]; exact hj)
    have b4 := at_int (xs := (near h w P r).getD j []) (n := i) (by rw [((near_rect h w P r).row hj).2]; exact hi)
    have on := one_un (x := el P j i) (y := el (near h w P r) j i)
    simp only [wipeE, List.set_cons_zero, List.set_cons_succ, varR_sh, varR_succ, o2_some, ixR_l, b1, b2, b3, b4, Option.map_some]
    exact congrArg (fun z => Option.bind z R.d) on)
  refine gv_step (by conv => lhs; simp [rn]) ?_
  refine gv_step (by conv => lhs; simp [Z.hl, show h < 4611686018427387904 by omega, -List.map_map]) ?_
  refine gv_step (by conv => lhs; simp [c4]) ?_
  exact gv_out rfl rfl
end
end LawW


set_option linter.all false
set_option autoImplicit false
set_option maxRecDepth 100000
set_option maxHeartbeats 1000000
namespace LawW
open PySem PySem.Spec PyProof.Rows L2 DL
variable (K : PySem.W.Frag) (cl : Str → Addr)
theorem gv_setLO {i : Nat} {ds : List DL.D} {k : Kt} {ρ : Ev} {P : Out → Prop} (h : i < ρ.length) (g : Gv (k (ρ.set i (.sh (.lst ds)))) P) : Gv (setLO i (vN ds) k ρ) P := by
  show Gv (if i < ρ.length then _ else none) P
  rw [if_pos h]; exact g
def sg (b : Bool) : Str := if b = true then "#" else "."
theorem sg_len (b : Bool) : (sg b).length = 1 := by cases b <;> decide
theorem sg_sum : ∀ bs : List Bool, ((bs.map sg).map (·.length)).sum = bs.length
  | [] => rfl
  | b :: bs => by
    have := sg_sum bs
    rw [List.map_cons, List.map_cons, List.sum_cons, this, sg_len, List.length_cons, Nat.add_comm]
theorem join_bits (bs : List Bool) (hl : bs.length ≤ 1000) : ∃ s : Str, joinR (.v (.str "")) (.n (bs.map fun b => .str (sg b))) = vS s ∧ s.length = bs.length := by
  have e : bs.map (fun b => DL.D.str (sg b)) = (bs.map sg).map .str := by rw [List.map_map]; rfl
  have l0 : ("" : Str).length = 0 := by decide
  refine ⟨Txt.join "" (bs.map sg), ?_, ?_⟩
  · unfold joinR
    rw [e]
    show ((some ((bs.map sg).map DL.D.str)).bind strsD).bind _ = _
    rw [Option.bind_some, strsD_map, Option.bind_some, if_pos (by rw [sg_sum, List.length_map, l0]; omega)]
  · show (Builtin.Str.glued "" (bs.map sg)).length = _
    rw [PySem.size_glued, sg_sum, l0, Nat.mul_zero, Nat.add_zero]
theorem marks_ok {xs : List Int} (nb : lt1009 xs) (hl : 4 ≤ xs.length) : ∃ ss : List Str, F__law_marks K cl [.lst (iD xs), .int 21] = some (.ow (ss.map .str)) ∧ ss.length = 21 ∧ ∀ s ∈ ss, s.length = 21 := by
  obtain ⟨a, ea, a0, a1⟩ := at_num nb (i := 0) (by omega) (by omega)
  obtain ⟨b, eb, b0, b1⟩ := at_num nb (i := 1) (by omega) (by omega)
  obtain ⟨c, ec, c0, c1⟩ := at_num nb (i := 2) (by omega) (by omega)
  obtain ⟨d, ed, d0, d1⟩ := at_num nb (i := 3) (by omega) (by omega)
  have key : Gv (B__law_marks K cl [.sh (.lst (iD xs)), .sh (.int 21), .un, .un, .un, .un, .un]) (fun o => ∃ ss : List Str, o = .ro (ss.map .str) ∧ ss.length = 21 ∧ ∀ s ∈ ss, s.length = 21) := by
    unfold B__law_marks
    refine gv_step (by conv => lhs; simp [-appO_eq]) ?_
    refine gv_rng (n := 21) (J := fun i ρ => ∃ (ss : List Str) (s3 s4 : Sl), ss.length = i ∧ (∀ s ∈ ss, s.length = 21) ∧ ρ = [.sh (.lst (iD xs)), .sh (.int 21), .ow (ss.map .str), s3, s4, .un, .un]) ⟨[], _, _, rfl, (fun s hs => by cases hs), rfl⟩ ?_ ?_
    · rintro i hi _ ⟨ss, s3, s4, sl, sa, rfl⟩
      have cr := comp_rng (n := 21) (ow := [5]) (j := 5) (val := fun ρ => bO (o2 ltR (o2 modR (o2 addR (o2 addR (o2 addR (o2 mulR (varR ρ 3) (o2 ixR (varR ρ 0) (vI 0))) (o2 mulR (varR ρ 5) (o2 ixR (varR ρ 0) (vI 1)))) (o2 mulR (o2 mulR (varR ρ 3) (varR ρ 5)) (o2 ixR (varR ρ 0) (vI 2)))) (o2 ixR (varR ρ 0) (vI 3))) (vI 7)) (vI 3))) (ρ := [.sh (.lst (iD xs)), .sh (.int 21), .ow (ss.map .str), .sh (.int (i : Int)), s4, .un, .un]) (fun j => .bl (decide ((i * a + j * b + i * j * c + d) % 7 < 3))) (by omega) (fun j hj => by
        have q1 : mulR (.v (.int (i : Int))) (.v (.int a)) = vI (i * a) := mulR_r (by omega)
        have q2 : mulR (.v (.int (j : Int))) (.v (.int b)) = vI (j * b) := mulR_r (by omega)
        have q3 : mulR (.v (.int (i : Int))) (.v (.int (j : Int))) = vI (i * j) := mulR_r (by omega)
        have q4 : mulR (.v (.int ((i : Int) * j))) (.v (.int c)) = vI (i * j * c) := mulR_r (by omega)
        simp only [wipeE, List.set_cons_zero, List.set_cons_succ, varR_sh, varR_succ, o2_some, ixR_l, ea, eb, ec, ed, Option.map_some, q1, q2, q3, q4, addR_ii, modR_i, ltR_i]
        rfl)
      generalize hbs : (List.range 21).map (fun j : Nat => decide (((i : Int) * a + j * b + i * j * c + d) % 7 < 3)) = bs at *
      have bl : bs.length = 21 := by rw [← hbs]; simp
      have e2 : (List.range 21).map (fun j : Nat => DL.D.bl (decide (((i : Int) * a + j * b + i * j * c + d) % 7 < 3))) = bs.map .bl := by rw [← hbs, List.map_map]; rfl
      rw [e2] at cr
      have c2 := comp_list (u := DL.D.bl) (xs := bs) (ow := [6]) (j := 6) (val := fun ρ => o2 ixR (lstO (consO (vS ".") (consO (vS "#") (some [])))) ((varR ρ 6).bind intR)) (ρ := [.sh (.lst (iD xs)), .sh (.int 21), .ow (ss.map .str), .sh (.int (i : Int)), .sh (.lst (bs.map .bl)), .un, .un]) (fun b => .str (sg b)) (by omega) (fun b _ => by cases b <;> rfl)
      obtain ⟨s, js, sl2⟩ := join_bits bs (by omega)
      refine gv_step (congrArg (fun z => setLO 4 z _ _) cr) ?_
      refine gv_setLO (by simp) ?_
      show Gv (appO 2 _ _ [.sh (.lst (iD xs)), .sh (.int 21), .ow (ss.map .str), .sh (.int (i : Int)), .sh (.lst (bs.map .bl)), .un, .un]) _
      refine gv_app (d := .str s) ?_ rfl (by rw [List.length_map]; omega) ?_
      · exact (congrArg (fun z => Option.bind (o2 joinR (vS "") z) R.d) c2).trans (congrArg (fun z => Option.bind z R.d) js)
      · exact gv_out rfl ⟨_, rfl, ss ++ [s], _, _, by simp [sl], fun t ht => by
          rcases List.mem_append.mp ht with ht | ht
          · exact sa t ht
          · rw [List.mem_singleton.mp ht, sl2, bl], by rw [List.map_append]; rfl⟩
    · rintro _ ⟨ss, s3, s4, sl, sa, rfl⟩
      exact gv_out rfl ⟨ss, rfl, by omega, sa⟩
  obtain ⟨o, e, ss, rfl, h1, h2⟩ := key
  exact ⟨ss, by show (B__law_marks K cl [.sh (.lst (iD xs)), .sh (.int 21), .un, .un, .un, .un, .un]).bind outR = _; rw [e]; rfl, h1, h2⟩
end LawW


set_option linter.all false
set_option autoImplicit false
set_option maxRecDepth 100000
set_option maxHeartbeats 1000000
namespace LawW
open PySem PySem.Spec PyProof.Rows L2 DL
variable (K : PySem.W.Frag) (cl : Str → Addr)
theorem cut_from {xs : List Int} {n : Nat} (h : n ≤ xs.length) : cut (iD xs) (some (n : Int)) none = iD (xs.drop n) := by
  have e : cut xs (some (n : Int)) none = xs.drop n := by
    have e1 : HT.sIx xs.length 0 (some (n : Int)) = n := by rw [HT.sIx_nat]; omega
    have e2 : HT.sIx xs.length xs.length none = xs.length := rfl
    unfold cut
    rw [e1, e2, List.take_of_length_le (by simp)]
  rw [cut_map, e]
theorem modP {x y : Int} (h : 0 < y) : modR (.v (.int x)) (.v (.int y)) = vI (x % y) := by
  rw [modR_i, if_pos (by omega), if_pos h]
theorem str_at {ss : List Str} {p : Int} (h0 : 0 ≤ p) (h1 : p < ss.length) : L2.atI (ss.map DL.D.str) p = some (.str (ss.getD p.toNat "")) := by
  obtain ⟨n, rfl⟩ : ∃ n : Nat, p = n := ⟨p.toNat, by omega⟩
  rw [atI_natc, List.getElem?_map, List.getElem?_eq_getElem (show n < ss.length by omega)]
  simp [show n < ss.length by omega]
def chAt (s : Str) (q : Nat) : Str := ⟨#[s.cps.toList.getD q 0]⟩
theorem ch_at {s : Str} {q : Int} (h0 : 0 ≤ q) (h1 : q < 21) (hl : s.length = 21) : ixR (.v (.str s)) (.v (.int q)) = vS (chAt s q.toNat) := by
  obtain ⟨n, rfl⟩ : ∃ n : Nat, q = n := ⟨q.toNat, by omega⟩
  have hl : s.cps.toList.length = 21 := by simpa [Str.length] using hl
  show (if s.length ≤ sizeLine then _ else none) = _
  rw [if_pos (show s.length ≤ sizeLine by have : s.length = 21 := by assumption
                                          rw [this]; decide), atI_natc, List.getElem?_eq_getElem (show n < s.cps.toList.length by omega)]
  have : s.cps.toList.getD n 0 = s.cps.toList[n]'(by omega) := getD_at (by omega)
  unfold chAt
  rw [Int.toNat_natCast, this]; rfl
def sqb (ss : List Str) (p q : Int) : Bool := decide (chAt (ss.getD p.toNat "") q.toNat = "#")
theorem sq_row {ss : List Str} (hl : ss.length = 21) {p : Int} (p0 : 0 ≤ p) (p1 : p < 21) : ixR (.v (.lst (ss.map .str))) (.v (.int p)) = vS (ss.getD p.toNat "") := by
  rw [ixR_l, str_at (ss := ss) p0 (by omega)]; rfl
theorem sq_ch {ss : List Str} (hl : ss.length = 21) (ha : ∀ s ∈ ss, s.length = 21) {p q : Int} (p0 : 0 ≤ p) (p1 : p < 21) (q0 : 0 ≤ q) (q1 : q < 21) : ixR (.v (.str (ss.getD p.toNat ""))) (.v (.int q)) = vS (chAt (ss.getD p.toNat "") q.toNat) := by
  refine ch_at q0 q1 ?_
  rw [getD_at (xs := ss) (show p.toNat < ss.length by omega)]
  exact ha _ (List.getElem_mem _)
def b01 (b : Bool) : Int := if b = true then 1 else 0
theorem b01_r (b : Bool) : 0 ≤ b01 b ∧ b01 b ≤ 1 := by cases b <;> decide
theorem and3 (a b c : Bool) : (bO (andB ((bO (some a)).bind R.t) (andB ((bO (some b)).bind R.t) ((bO (some c)).bind R.t)))).bind intR = vI (b01 (a && (b && c))) := by
  cases a <;> cases b <;> cases c <;> rfl
theorem mul_01 {m : Int} (hm : 0 ≤ m ∧ m ≤ 16) (b : Bool) : 0 ≤ m * b01 b ∧ m * b01 b ≤ m := by
  cases b
  · show 0 ≤ m * 0 ∧ m * 0 ≤ m; omega
  · show 0 ≤ m * 1 ∧ m * 1 ≤ m; omega
section
variable {h w : Nat} (h1 : 1 ≤ h ∧ h ≤ 24) (w1 : 1 ≤ w ∧ w ≤ 24) {m : Int} (m1 : 1 ≤ m ∧ m ≤ 16) {xs : List Int} (nb : lt1009 xs) (hl : 7 ≤ xs.length)
include h1 w1 m1 nb hl
theorem picture_ok : ∃ P : List (List Int), F__law_picture K cl [.lst (iD xs), .int (w : Int), .int (h : Int), .int m] = some (.ow (pD P)) ∧ Rect h w P ∧ ∀ q ∈ P, ∀ x ∈ q, 0 ≤ x ∧ x ≤ m := by
  obtain ⟨k, ek, k0, k1⟩ := at_num nb (i := 0) (by omega) (by omega)
  obtain ⟨a, ea, a0, a1⟩ := at_num nb (i := 1) (by omega) (by omega)
  obtain ⟨b, eb, b0, b1⟩ := at_num nb (i := 2) (by omega) (by omega)
  obtain ⟨c, ec, c0, c1⟩ := at_num nb (i := 3) (by omega) (by omega)
  obtain ⟨d, ed, d0, d1⟩ := at_num nb (i := 4) (by omega) (by omega)
  obtain ⟨u, eu, u0, u1⟩ := at_num nb (i := 6) (by omega) (by omega)
  have key : Gv (B__law_picture K cl [.sh (.lst (iD xs)), .sh (.int (w : Int)), .sh (.int (h : Int)), .sh (.int m), .un, .un, .un, .un, .un, .un, .un]) (fun o => ∃ P : List (List Int), o = .ro (pD P) ∧ Rect h w P ∧ ∀ q ∈ P, ∀ x ∈ q, 0 ≤ x ∧ x ≤ m) := by
    unfold B__law_picture
    refine gv_step (by conv => lhs; simp [ek, -appO_eq]) ?_
    by_cases k3 : k % 4 = 3
    · refine gv_step (by conv => lhs; simp [k3, -appO_eq]) ?_
      refine gv_ifT ?_
      have cf : cut (iD xs) (some 1) none = iD (xs.drop 1) := cut_from (n := 1) (by omega)
      obtain ⟨ss, e5, sl, sa⟩ := marks_ok K cl (xs := xs.drop 1) (fun x hx => nb x (List.mem_of_mem_drop hx)) (by rw [List.length_drop]; omega)
      generalize hys : xs.drop 1 = ys at cf e5
      refine gv_step (by conv => lhs; simp [slO_some, ooR_i, slR_l, cf, e5, eu, -appO_eq]) ?_
      generalize hU : 1 + u % 2 = U
      have U1 : 1 ≤ U ∧ U ≤ 2 := by omega
      have c4 := comp_tab (h := h) (w := w) (ow1 := [8]) (ow2 := [10]) (j1 := 8) (j2 := 10) (val := fun ρ => o2 mulR (varR ρ 3) ((bO (andB ((bO (o2 ltR (o2 divR (varR ρ 8) (varR ρ 6)) (vI 21))).bind R.t) (andB ((bO (o2 ltR (o2 divR (varR ρ 10) (varR ρ 6)) (vI 21))).bind R.t) ((bO (o2 eqR (o2 ixR (o2 ixR (varR ρ 5) (o2 modR (o2 divR (varR ρ 8) (varR ρ 6)) (vI 21))) (o2 modR (o2 divR (varR ρ 10) (varR ρ 6)) (vI 21))) (vS "#"))).bind R.t)))).bind intR)) (src := fun ρ => (varR ρ 1).bind rng1R) (ρ := [.sh (.lst (iD xs)), .sh (.int (w : Int)), .sh (.int (h : Int)), .sh (.int m), .sh (.int 3), .sh (.lst (ss.map .str)), .sh (.int U), .un, .un, .un, .un]) (fun j i => m * b01 (decide ((j : Int) / U < 21) && (decide ((i : Int) / U < 21) && sqb ss ((j : Int) / U % 21) ((i : Int) / U % 21)))) (by omega) (by omega) (fun j hj => by
        simp [wipeE, show w < 4611686018427387904 by omega]) (fun j i hj hi => by
        have d1 := divP (x := (j : Int)) (y := U) (by omega) (by omega)
        have d2 := divP (x := (i : Int)) (y := U) (by omega) (by omega)
        have p1 : modR (.v (.int ((j : Int) / U))) (.v (.int 21)) = vI ((j : Int) / U % 21) := modP (by decide)
        have p2 : modR (.v (.int ((i : Int) / U))) (.v (.int 21)) = vI ((i : Int) / U % 21) := modP (by decide)
        have s1 := sq_row sl (p := (j : Int) / U % 21) (by omega) (by omega)
        have s2 := sq_ch sl sa (p := (j : Int) / U % 21) (q := (i : Int) / U % 21) (by omega) (by omega) (by omega) (by omega)
        have q1 := mulR_r (i := m) (j := b01 (decide ((j : Int) / U < 21) && (decide ((i : Int) / U < 21) && sqb ss ((j : Int) / U % 21) ((i : Int) / U % 21)))) (by have := b01_r (decide ((j : Int) / U < 21) && (decide ((i : Int) / U < 21) && sqb ss ((j : Int) / U % 21) ((i : Int) / U % 21))); omega)
        simp only [wipeE, List.set_cons_zero, List.set_cons_succ, varR_sh, varR_succ, o2_some, d1, d2, p1, p2, s1, s2, ltR_i, eqR_s]
        rw [and3, o2_some]
        exact congrArg (fun z => Option.bind z R.d) q1)
      refine gv_step (by conv => lhs; simp [show h < 4611686018427387904 by omega, c4, -appO_eq]) ?_
      exact gv_out rfl ⟨_, rfl, tab_rect _ _ _, tab_all fun j i _ _ => mul_01 (by omega) _⟩
    · refine gv_step (by conv => lhs; simp [k3, -appO_eq]) ?_
      refine gv_ifF ?_
      refine gv_step (by conv => lhs; simp [show h < 4611686018427387904 by omega, -appO_eq]) ?_
      refine gv_rng (n := (h : Int)) (J := fun j ρ => ∃ (P : List (List Int)) (s8 s9 : Sl), P.length = j ∧ (∀ q ∈ P, q.length = w ∧ ∀ x ∈ q, 0 ≤ x ∧ x ≤ m) ∧ ρ = [.sh (.lst (iD xs)), .sh (.int (w : Int)), .sh (.int (h : Int)), .sh (.int m), .sh (.int (k % 4)), .un, .un, .ow (pD P), s8, s9, .un]) ⟨[], _, _, rfl, (fun q hq => by cases hq), rfl⟩ ?_ ?_
      · rintro j hj _ ⟨P, s8, s9, Pl, Pa, rfl⟩
        have h62 : in62 (w : Int) := by unfold in62; omega
        have md : ∀ x : Int, modR (.v (.int x)) (.v (.int (m + 1))) = vI (x % (m + 1)) := fun x => modP (by omega)
        have m4 : ∀ x : Int, modR (.v (.int x)) (.v (.int 4)) = vI (x % 4) := fun x => modP (by decide)
        have d3 : ∀ x : Int, divR (.v (.int x)) (.v (.int 3)) = vI (x / 3) := fun x => divP (by decide) (by decide)
        have c0 := comp_rng (n := w) (ow := [10]) (j := 10) (val := fun ρ => o2 modR (o2 divR (o2 addR (o2 addR (o2 addR (o2 mulR (varR ρ 8) (o2 ixR (varR ρ 0) (vI 1))) (o2 mulR (varR ρ 10) (o2 ixR (varR ρ 0) (vI 2)))) (o2 mulR (o2 mulR (varR ρ 8) (varR ρ 10)) (o2 ixR (varR ρ 0) (vI 3)))) (o2 ixR (varR ρ 0) (vI 4))) (vI 3)) (o2 addR (varR ρ 3) (vI 1))) (ρ := [.sh (.lst (iD xs)), .sh (.int (w : Int)), .sh (.int (h : Int)), .sh (.int m), .sh (.int (k % 4)), .un, .un, .ow (pD P), .sh (.int (j : Int)), s9, .un]) (fun i => .int ((j * a + i * b + j * i * c + d) / 3 % (m + 1))) (by omega) (fun i hi => by
          have q1 : mulR (.v (.int (j : Int))) (.v (.int a)) = vI (j * a) := mulR_r (by omega)
          have q2 : mulR (.v (.int (i : Int))) (.v (.int b)) = vI (i * b) := mulR_r (by omega)
          have q3 : mulR (.v (.int (j : Int))) (.v (.int (i : Int))) = vI (j * i) := mulR_r (by omega)
          have q4 : mulR (.v (.int ((j : Int) * i))) (.v (.int c)) = vI (j * i * c) := mulR_r (by omega)
          simp only [wipeE, List.set_cons_zero, List.set_cons_succ, varR_sh, varR_succ, o2_some, ixR_l, ea, eb, ec, ed, Option.map_some, q1, q2, q3, q4, addR_ii, md, d3, R.d_v, bind_some'])
        have e0 : ∀ f : Nat → Int, (List.range w).map (fun i => DL.D.int (f i)) = iD ((List.range w).map f) := fun f => by show _ = List.map _ (List.map _ _); rw [List.map_map]; rfl
        rw [e0] at c0
        have r0 : ∀ x ∈ (List.range w).map (fun i : Nat => ((j : Int) * a + i * b + j * i * c + d) / 3 % (m + 1)), 0 ≤ x ∧ x ≤ m := fun x hx => by
          obtain ⟨i, _, rfl⟩ := List.mem_map.mp hx
          have := Int.emod_lt_of_pos (((j : Int) * a + i * b + j * i * c + d) / 3) (show 0 < m + 1 by omega)
          exact ⟨Int.emod_nonneg _ (by omega), by omega⟩
        have l0 : ((List.range w).map (fun i : Nat => ((j : Int) * a + i * b + j * i * c + d) / 3 % (m + 1))).length = w := by simp
        refine gv_step (by conv => lhs; simp only [List.set_cons_zero, List.set_cons_succ, varR_sh, varR_succ, bind_some', rng1R_i, if_pos h62]) ?_
        refine gv_step (congrArg (fun z => setLO 9 z _ _) c0) ?_
        refine gv_setLO (by simp) ?_
        generalize (List.range w).map (fun i : Nat => ((j : Int) * a + i * b + j * i * c + d) / 3 % (m + 1)) = q0 at r0 l0
        show Gv (ifO (o2 eqR (some (.v (.int (k % 4)))) (vI 1)) _ _ _) _
        refine gv_if (fun o => ∃ r : List Int, r.length = w ∧ (∀ x ∈ r, 0 ≤ x ∧ x ≤ m) ∧ o = .nx [.sh (.lst (iD xs)), .sh (.int (w : Int)), .sh (.int (h : Int)), .sh (.int m), .sh (.int (k % 4)), .un, .un, .ow (pD P), .sh (.int (j : Int)), .sh (.lst (iD r)), .un]) (fun _ => ?_) (fun _ => gv_out rfl ⟨q0, l0, r0, rfl⟩) ?_
        · have c1 := comp_rng (n := w) (ow := [10]) (j := 10) (val := fun ρ => o2 mulR (varR ρ 3) ((bO (o2 eqR (o2 modR (o2 addR (o2 addR (o2 mulR (o2 divR (varR ρ 8) (vI 3)) (o2 ixR (varR ρ 0) (vI 1))) (o2 mulR (o2 divR (varR ρ 10) (vI 3)) (o2 ixR (varR ρ 0) (vI 2)))) (o2 ixR (varR ρ 0) (vI 3))) (vI 4)) (vI 0))).bind intR)) (ρ := [.sh (.lst (iD xs)), .sh (.int (w : Int)), .sh (.int (h : Int)), .sh (.int m), .sh (.int (k % 4)), .un, .un, .ow (pD P), .sh (.int (j : Int)), .sh (.lst (iD q0)), .un]) (fun i => .int (m * b01 (decide (((j : Int) / 3 * a + (i : Int) / 3 * b + c) % 4 = 0)))) (by omega) (fun i hi => by
            have q1 : mulR (.v (.int ((j : Int) / 3))) (.v (.int a)) = vI (j / 3 * a) := mulR_r (by omega)
            have q2 : mulR (.v (.int ((i : Int) / 3))) (.v (.int b)) = vI (i / 3 * b) := mulR_r (by omega)
            have q3 := mulR_r (i := m) (j := b01 (decide (((j : Int) / 3 * a + (i : Int) / 3 * b + c) % 4 = 0))) (by have := b01_r (decide (((j : Int) / 3 * a + (i : Int) / 3 * b + c) % 4 = 0)); omega)
            have q4 : ∀ z : Bool, (vB z).bind intR = vI (b01 z) := fun z => by cases z <;> rfl
            simp only [wipeE, List.set_cons_zero, List.set_cons_succ, varR_sh, varR_succ, o2_some, ixR_l, ea, eb, ec, Option.map_some, d3, q1, q2, addR_ii, m4, eqR_i, bO_some]
            rw [q4, o2_some]
            exact congrArg (fun z => Option.bind z R.d) q3)
          rw [e0] at c1
          refine gv_step (by conv => lhs; simp only [List.set_cons_zero, List.set_cons_succ, varR_sh, varR_succ, bind_some', rng1R_i, if_pos h62]) ?_
          refine gv_step (congrArg (fun z => setLO 9 z _ _) c1) ?_
          refine gv_setLO (by simp) ?_
          exact gv_out rfl ⟨_, by simp, fun x hx => by
            obtain ⟨i, _, rfl⟩ := List.mem_map.mp hx
            exact mul_01 (by omega) _, rfl⟩
        · rintro _ ⟨r, rl, ra, rfl⟩
          show Gv (ifO (o2 eqR (some (.v (.int (k % 4)))) (vI 2)) _ _ _) _
          refine gv_if (fun o => ∃ r : List Int, r.length = w ∧ (∀ x ∈ r, 0 ≤ x ∧ x ≤ m) ∧ o = .nx [.sh (.lst (iD xs)), .sh (.int (w : Int)), .sh (.int (h : Int)), .sh (.int m), .sh (.int (k % 4)), .un, .un, .ow (pD P), .sh (.int (j : Int)), .sh (.lst (iD r)), .un]) (fun _ => ?_) (fun _ => gv_out rfl ⟨r, rl, ra, rfl⟩) ?_
          · have md2 : modR (.v (.int a)) (.v (.int 2)) = vI (a % 2) := modP (by decide)
            have q1 : mulR (.v (.int m)) (.v (.int (a % 2))) = vI (m * (a % 2)) := mulR_r (by omega)
            have q2 : mulR (.n [.int (m * (a % 2))]) (.v (.int (w : Int))) = vN (List.replicate w (.int (m * (a % 2)))) := by
              have := rep_one (d := .int (m * (a % 2))) (j := (w : Int)) (by omega) (by omega)
              rwa [Int.toNat_natCast] at this
            refine gv_step (by conv => lhs; simp [ea, md2, q1, q2]) ?_
            exact gv_out rfl ⟨List.replicate w (m * (a % 2)), by simp, fun x hx => by
              obtain ⟨_, rfl⟩ := List.mem_replicate.mp hx
              rcases (show a % 2 = 0 ∨ a % 2 = 1 by omega) with z | z
              · rw [z]; omega
              · rw [z]; omega, by simp⟩
          · rintro _ ⟨r, rl, ra, rfl⟩
            refine gv_step (o' := appO 7 (some (.v (rD r))) (fun ρ => some (.nx ρ)) [.sh (.lst (iD xs)), .sh (.int (w : Int)), .sh (.int (h : Int)), .sh (.int m), .sh (.int (k % 4)), .un, .un, .ow (pD P), .sh (.int (j : Int)), .sh (.lst (iD r)), .un]) rfl ?_
            refine gv_app (d := rD r) rfl rfl (by rw [List.length_map]; omega) ?_
            exact gv_out rfl ⟨_, rfl, P ++ [r], _, _, by simp [Pl], fun q hq => by
              rcases List.mem_append.mp hq with hq | hq
              · exact Pa q hq
              · rw [List.mem_singleton.mp hq]; exact ⟨rl, ra⟩, by rw [show pD (P ++ [r]) = pD P ++ [rD r] from List.map_append]; rfl⟩
      · rintro _ ⟨P, s8, s9, Pl, Pa, rfl⟩
        exact gv_out rfl ⟨P, rfl, ⟨by omega, fun q hq => (Pa q hq).1⟩, fun q hq => (Pa q hq).2⟩
  obtain ⟨o, e, P, rfl, g1, g2⟩ := key
  exact ⟨P, by show (B__law_picture K cl [.sh (.lst (iD xs)), .sh (.int (w : Int)), .sh (.int (h : Int)), .sh (.int m), .un, .un, .un, .un, .un, .un, .un]).bind outR = _; rw [e]; rfl, g1, g2⟩
end
end LawW


set_option linter.all false
set_option autoImplicit false
set_option maxRecDepth 100000
set_option maxHeartbeats 1000000
namespace LawW
open PySem PySem.Spec PyProof.Rows L2 DL
variable (K : PySem.W.Frag) (cl : Str → Addr)
theorem mem_win {α : Type} {xs : List α} {r k : Nat} {x : α} : x ∈ win xs r k ↔ ∃ n : Nat, xs[n]? = some x ∧ k ≤ n + r ∧ n ≤ k + r := by
  unfold win
  rw [List.mem_iff_getElem?]
  constructor
  · rintro ⟨i, hi⟩
    rw [List.getElem?_drop, List.getElem?_take] at hi
    split at hi
    · exact ⟨k - r + i, hi, by omega, by omega⟩
    · cases hi
  · rintro ⟨n, h1, h2, h3⟩
    refine ⟨n - (k - r), ?_⟩
    rw [List.getElem?_drop, List.getElem?_take, if_pos (by omega), show k - r + (n - (k - r)) = n by omega, h1]
section
variable {h w r : Nat} {Q : List (List Int)} (Z : Rect h w Q)
include Z
theorem colm_get {i j : Nat} (hj : j < h) (hi : i < w) : (colm Q r i)[j]? = some (maxI (win (Q.getD j []) r i)) := by
  obtain ⟨e1, e2⟩ := Z.row hj
  unfold colm
  rw [List.getElem?_map, List.getElem?_map, e1, Option.map_some, Option.map_some, gal_get (by omega)]
theorem row_get {i j : Nat} (hj : j < h) (hi : i < w) : (Q.getD j [])[i]? = some (el Q j i) := by
  obtain ⟨e1, e2⟩ := Z.row hj
  unfold el
  rw [getD_at (xs := Q.getD j []) (by omega), List.getElem?_eq_getElem (by omega)]
theorem row_lt {i j : Nat} {x : Int} (hj : j < h) (hx : (Q.getD j [])[i]? = some x) : i < w ∧ x = el Q j i := by
  obtain ⟨e1, e2⟩ := Z.row hj
  have hi : i < w := by rw [← e2]; exact (List.getElem?_eq_some_iff.mp hx).1
  rw [row_get Z hj hi] at hx
  exact ⟨hi, (Option.some.inj hx).symm⟩
theorem near_ge {j i j' i' : Nat} (hj : j < h) (hi : i < w) (hj' : j' < h) (hi' : i' < w) (a : j ≤ j' + r) (b : j' ≤ j + r) (c : i ≤ i' + r) (d : i' ≤ i + r) : el Q j' i' ≤ el (near h w Q r) j i := by
  unfold near
  rw [tab_el hj hi]
  have h1 : el Q j' i' ≤ maxI (win (Q.getD j' []) r i) := maxI_ge (mem_win.mpr ⟨i', row_get Z hj' hi', c, d⟩)
  have h2 : maxI (win (Q.getD j' []) r i) ≤ maxI (win (colm Q r i) r j) := maxI_ge (mem_win.mpr ⟨j', colm_get Z hj' hi, a, b⟩)
  omega
theorem near_in {j i : Nat} (hj : j < h) (hi : i < w) : ∃ j' i' : Nat, j' < h ∧ i' < w ∧ j ≤ j' + r ∧ j' ≤ j + r ∧ i ≤ i' + r ∧ i' ≤ i + r ∧ el (near h w Q r) j i = el Q j' i' := by
  have cl : (colm Q r i).length = h := by simp [colm, Z.hl]
  have h1 := maxI_in (xs := win (colm Q r i) r j) (win_ne (by omega))
  obtain ⟨j', e1, a, b⟩ := mem_win.mp h1
  have hj' : j' < h := by rw [← cl]; exact (List.getElem?_eq_some_iff.mp e1).1
  rw [colm_get Z hj' hi] at e1
  have h2 := maxI_in (xs := win (Q.getD j' []) r i) (win_ne (by rw [(Z.row hj').2]; exact hi))
  obtain ⟨i', e2, c, d⟩ := mem_win.mp h2
  obtain ⟨hi', e3⟩ := row_lt Z hj' e2
  refine ⟨j', i', hj', hi', a, b, c, d, ?_⟩
  unfold near
  rw [tab_el hj hi, ← Option.some.inj e1, e3]
end
/-- where the points are light -/
def whP (h w : Nat) (P : List (List Int)) : List (List Int) := tab h w fun j i => b01 (decide (el P j i = 0))
def bwP (h w : Nat) (P : List (List Int)) (m : Int) : List (List Int) := tab h w fun j i => b01 (decide (2 * el P j i > m))
theorem lv_0 {a b c m : Int} {j i : Nat} (hm : 1 ≤ m) : lv a b c m j i 0 = lt a b c i j := by
  unfold lv
  rw [show 4 * m - 3 * 0 = 4 * m by omega]
  exact Int.mul_ediv_cancel _ (by omega)
theorem lv_m {a b c m : Int} {j i : Nat} (hm : 1 ≤ m) : lv a b c m j i m = lt a b c i j / 4 := by
  unfold lv
  rw [show 4 * m - 3 * m = m by omega, Int.mul_comm 4 m, Int.mul_comm _ m]
  exact Int.mul_ediv_mul_of_pos _ _ (by omega)
theorem lv_le {a b c m n : Int} {j i : Nat} (hm : 1 ≤ m) (h0 : 0 ≤ n) (h1 : n ≤ m) : 0 ≤ lv a b c m j i n ∧ lv a b c m j i n ≤ lt a b c i j := by
  have hl := lt_nonneg a b c i j
  unfold lv
  constructor
  · exact Int.ediv_nonneg (Int.mul_nonneg hl (by omega)) (by omega)
  · have : lt a b c i j * (4 * m - 3 * n) ≤ lt a b c i j * (4 * m) := Int.mul_le_mul_of_nonneg_left (by omega) hl
    have h2 := Int.ediv_le_ediv (show 0 < 4 * m by omega) this
    rw [Int.mul_ediv_cancel _ (show 4 * m ≠ 0 by omega)] at h2
    exact h2
section
variable {h w r : Nat} {P : List (List Int)} (Z : Rect h w P) {m : Int} (m1 : 1 ≤ m) (hm : ∀ q ∈ P, ∀ x ∈ q, 0 ≤ x ∧ x ≤ m) {a b c G L : Int}
  (pl : ∀ j i, j < h → i < w → el P j i = 0 ∨ el P j i = m)
  (sh : ∀ j i, j < h → i < w → el (near h w (whP h w P) r) j i ≠ 0)
  (gG : ∀ j i, j < h → i < w → lt a b c i j ≤ G) (gL : ∀ j i, j < h → i < w → L ≤ lt a b c i j) (g0 : 0 < G) (g1 : 5 * G ≤ 8 * L)
include Z m1 hm pl sh gG gL g0 g1
theorem back : unP h w (litP h w P m a b c) r = bwP h w P m := by
  unfold unP bwP
  refine tab_congr fun j i hj hi => ?_
  have R1 : Rect h w (litP h w P m a b c) := tab_rect _ _ _
  have ev : ∀ j i, j < h → i < w → el (litP h w P m a b c) j i = lv a b c m j i (el P j i) := fun j i hj hi => tab_el hj hi
  have up : el (near h w (litP h w P m a b c) r) j i ≤ G := by
    obtain ⟨j', i', hj', hi', _, _, _, _, e⟩ := near_in (r := r) R1 hj hi
    rw [e, ev j' i' hj' hi']
    have := gG j' i' hj' hi'
    rcases pl j' i' hj' hi' with z | z
    · rw [z, lv_0 m1]; exact this
    · rw [z]; have := (lv_le (a := a) (b := b) (c := c) (j := j') (i := i') m1 (show 0 ≤ m by omega) (Int.le_refl m)).2; omega
  have lo : L ≤ el (near h w (litP h w P m a b c) r) j i := by
    obtain ⟨j', i', hj', hi', a1, a2, a3, a4, e⟩ := near_in (r := r) (tab_rect h w fun j i => b01 (decide (el P j i = 0))) hj hi
    have s := sh j i hj hi
    have : el P j' i' = 0 := by
      refine Decidable.byContradiction fun z => s ?_
      have e2 : el (tab h w fun j i => b01 (decide (el P j i = 0))) j' i' = b01 (decide (el P j' i' = 0)) := tab_el hj' hi'
      show el (near h w (tab h w fun j i => b01 (decide (el P j i = 0))) r) j i = 0
      rw [e, e2, decide_eq_false z]; rfl
    have g := near_ge (r := r) R1 hj hi hj' hi' a1 a2 a3 a4
    rw [ev j' i' hj' hi', this, lv_0 m1] at g
    have := gL j' i' hj' hi'
    omega
  rw [ev j i hj hi]
  have gj := gG j i hj hi
  have lj := gL j i hj hi
  unfold uv
  rcases pl j i hj hi with z | z
  · rw [z, lv_0 m1, if_neg (by omega), decide_eq_false (by omega)]; rfl
  · rw [z, lv_m m1, if_pos (by omega), decide_eq_true (by omega)]; rfl
end
end LawW


set_option linter.all false
set_option autoImplicit false
set_option maxRecDepth 100000
set_option maxHeartbeats 1000000
namespace LawW
open PySem PySem.Spec PyProof.Rows L2 DL
variable (K : PySem.W.Frag) (cl : Str → Addr)
theorem mapP_tab {h w : Nat} {P : List (List Int)} (Z : Rect h w P) (g : Int → Int) : P.map (fun q => q.map g) = tab h w fun j i => g (el P j i) := by
  have e := Z.tab
  have : P.map (fun q => q.map g) = (tab h w (el P)).map fun q => q.map g := by rw [← e]
  rw [this]
  unfold tab
  rw [List.map_map]
  exact List.map_congr_left fun j _ => by show List.map g (List.map _ _) = _; rw [List.map_map]; rfl
theorem comp_mapP {P : List (List Int)} {h w : Nat} (Z : Rect h w P) (hh : h ≤ 1000) (hw : w ≤ 1000) (g : Int → Int) {j1 j2 : Nat} {val : Ev → Option R} {ρ : Ev} (hs : ∀ q ∈ P, varR ((wipeE ρ [j1]).set j1 (.sh (rD q))) j1 = some (.v (rD q)))
    (hv : ∀ q ∈ P, ∀ x ∈ q, (val ((wipeE ((wipeE ρ [j1]).set j1 (.sh (rD q))) [j2]).set j2 (.sh (.int x)))).bind R.d = some (.int (g x))) :
    compO (some (pD P)) [j1] (nameG j1) trueC (fun ρ => compO ((varR ρ j1).bind srcJ) [j2] (nameG j2) trueC val ρ) ρ = vN (pD (P.map fun q => q.map g)) := by
  rw [comp_list (u := rD) (xs := P) (fun q => rD (q.map g)) (by rw [Z.hl]; omega) (fun q hq => ?_)]
  · show some (R.n _) = some (R.n _)
    congr 2
    show _ = List.map rD (List.map _ _)
    rw [List.map_map]; rfl
  · show (compO ((varR _ j1).bind srcJ) [j2] (nameG j2) trueC val _).bind R.d = _
    rw [hs q hq, bind_some', srcJ_l, comp_list (u := DL.D.int) (xs := q) (fun x => .int (g x)) (by rw [Z.wl q hq]; omega) (fun x hx => hv q hq x hx)]
    show some (DL.D.lst _) = some (DL.D.lst (List.map _ (List.map _ _)))
    rw [List.map_map]; rfl
theorem b01_int (z : Bool) : (vB z).bind intR = vI (b01 z) := by cases z <;> rfl
theorem bw_ok {P : List (List Int)} {h w : Nat} (Z : Rect h w P) (hh : h ≤ 1000) (hw : w ≤ 1000) {m : Int} : F_black_and_white K cl [.lst (pD P), .int m] = some (.ow (pD (bwP h w P m))) := by
  refine run_of (ρ := [.sh (.lst (pD P)), .sh (.int m), .un, .un]) rfl ?_
  unfold B_black_and_white
  have c := comp_mapP Z hh hw (fun x => b01 (decide (2 * x > m))) (j1 := 2) (j2 := 3) (val := fun ρ => (bO (o2 gtR (o2 mulR (vI 2) (varR ρ 3)) (varR ρ 1))).bind intR) (ρ := [.sh (.lst (pD P)), .sh (.int m), .un, .un]) (fun q _ => rfl) (fun q _ x _ => by
    have q1 : mulR (.v (.int 2)) (.v (.int x)) = vI (2 * x) := mulR_l (by decide)
    simp only [wipeE, List.set_cons_zero, List.set_cons_succ, varR_sh, varR_succ, o2_some, q1, gtR_i, bO_some]
    rw [b01_int]; rfl)
  rw [mapP_tab Z] at c
  exact gv_step (congrArg retO c) (gv_out rfl rfl)
theorem reason_l (E : ErrT K cl) {v m l : DL.D} {w : Str} (h : F_lit K cl [v, m, l] = badp cl w) : F__law_reason K cl [.int 0, v, m, l] = some (.sh (.str w)) := by
  simp [F__law_reason, runF, B__law_reason, startE, h, tryO, ifO_b, exprX, exM, excF, E.exm_BadPicture_BadPicture, exfO, errs_reason, exfR]
theorem reason_u (E : ErrT K cl) {v r l : DL.D} {w : Str} (h : F_unlit K cl [v, r] = badp cl w) : F__law_reason K cl [.int 1, v, r, l] = some (.sh (.str w)) := by
  simp [F__law_reason, runF, B__law_reason, startE, h, tryO, ifO_b, exprX, exM, excF, E.exm_BadPicture_BadPicture, exfO, errs_reason, exfR]
theorem ml_ok : mulR (.v (.int 4096)) (.v (.int 300)) = vI 1228800 := mulR_l (by decide)
theorem unlit_bad1 {v r : DL.D} (h : F_is_picture K cl [v, .int 1228800] = some (.sh (.bl false))) : F_unlit K cl [v, r] = badp cl "picture" := by
  simp [F_unlit, runF, B_unlit, startE, c_MOST_LIGHT, c_MOST_SIDE, ml_ok, check_bad K cl h, exprX]
theorem unlit_bad2 {v r : DL.D} (h : F_is_picture K cl [v, .int 1228800] = some (.sh (.bl true))) (hk : kn r = true) (hw : isW r = false) : F_unlit K cl [v, r] = badp cl "reach" := by
  have iw := is_whole_ok K cl r hk
  rw [hw] at iw
  simp [F_unlit, runF, B_unlit, startE, c_MOST_LIGHT, c_MOST_SIDE, ml_ok, check_ok K cl h, exprX, iw, ifO_b, raiO]
theorem unlit_bad3 {v : DL.D} {r : Int} (h : F_is_picture K cl [v, .int 1228800] = some (.sh (.bl true))) (hr : r < 0 ∨ 300 < r) : F_unlit K cl [v, .int r] = badp cl "reach" := by
  have iw : F_is_whole K cl [.int r] = some (.sh (.bl true)) := is_whole_ok K cl _ rfl
  have e : (decide (0 ≤ r) && decide (r ≤ 300)) = false := by rw [Bool.and_eq_false_iff, decide_eq_false_iff_not, decide_eq_false_iff_not]; omega
  simp [F_unlit, runF, B_unlit, startE, c_MOST_LIGHT, c_MOST_SIDE, ml_ok, check_ok K cl h, exprX, iw, ifO_b, raiO, e, -Bool.and_eq_false_imp]
theorem isq_bad {QQ : List (List DL.D)} {m : Int} {q : List DL.D} {d : DL.D} (hq : q ∈ QQ) (hd : d ∈ q) (ho : okE m d = false) : isq QQ m = false := by
  unfold isq
  rw [Bool.and_eq_false_iff]
  right
  rw [List.all_eq_false]
  refine ⟨q, hq, ?_⟩
  rw [Bool.not_eq_true, List.all_eq_false]
  exact ⟨d, hd, by rw [ho]; decide⟩
theorem mem_cut {α : Type} {x : α} {xs : List α} {l u : Option Int} (h : x ∈ cut xs l u) : x ∈ xs := List.mem_of_mem_drop (List.mem_of_mem_take h)
theorem cut_len {α : Type} {xs : List α} {l u : Option Int} : (cut xs l u).length ≤ xs.length := by unfold cut; simp; omega
section
variable {h w : Nat} {P : List (List Int)} (Z : Rect h w P) (h1 : 1 ≤ h ∧ h ≤ 300) (w1 : 1 ≤ w ∧ w ≤ 300)
include Z h1 w1
theorem rows_kn : ∀ q ∈ P.map (fun r => iD r), q.length ≤ 1000 ∧ q.all kn = true := fun q hq => by
  obtain ⟨r, hr, rfl⟩ := List.mem_map.mp hq
  refine ⟨by rw [List.length_map, Z.wl r hr]; omega, ?_⟩
  rw [List.all_eq_true]; intro d hd
  obtain ⟨x, _, rfl⟩ := List.mem_map.mp hd; rfl
theorem bad_last {q : List DL.D} {d : DL.D} {m : Int} (hl : q.length ≤ 1000) (hk : q.all kn = true) (hd : d ∈ q) (ho : okE m d = false) : F_is_picture K cl [.lst (cut (pD P) none (some (-1)) ++ [.lst q]), .int m] = some (.sh (.bl false)) := by
  have e : cut (pD P) none (some (-1)) ++ [.lst q] = (cut (P.map fun r => iD r) none (some (-1)) ++ [q]).map DL.D.lst := by
    rw [List.map_append, ← cut_map, List.map_map]; rfl
  have := ip_rows K cl (QQ := cut (P.map fun r => iD r) none (some (-1)) ++ [q]) (m := m) (fun x hx => by
    rcases List.mem_append.mp hx with hx | hx
    · exact rows_kn Z h1 w1 x (mem_cut hx)
    · rw [List.mem_singleton.mp hx]; exact ⟨hl, hk⟩) (by
    have := cut_len (xs := P.map fun r => iD r) (l := none) (u := some (-1))
    rw [List.length_map, Z.hl] at this
    rw [List.length_append, List.length_singleton]; omega)
  rw [e, this, isq_bad (List.mem_append_right _ (List.mem_singleton.mpr rfl)) hd ho]
theorem bad_tup {q : List DL.D} {m : Int} : F_is_picture K cl [.lst (cut (pD P) none (some (-1)) ++ [.tup q]), .int m] = some (.sh (.bl false)) := by
  refine ip_row K cl ?_ (fun d hd => ?_) ⟨q, List.mem_append_right _ (List.mem_singleton.mpr rfl)⟩
  · have := cut_len (xs := pD P) (l := none) (u := some (-1))
    rw [List.length_map, Z.hl] at this
    rw [List.length_append, List.length_singleton]; omega
  · rcases List.mem_append.mp hd with hd | hd
    · obtain ⟨r, _, rfl⟩ := List.mem_map.mp (mem_cut hd)
      exact .inl ⟨_, rfl⟩
    · exact .inr ⟨q, List.mem_singleton.mp hd⟩
theorem bad_more {q : List Int} {m : Int} (hq : q.length = w) : F_is_picture K cl [.lst (pD P ++ [.lst (iD q ++ [DL.D.int 0])]), .int m] = some (.sh (.bl false)) := by
  have e : pD P ++ [.lst (iD q ++ [DL.D.int 0])] = ((P.map fun r => iD r) ++ [iD q ++ [DL.D.int 0]]).map DL.D.lst := by
    rw [List.map_append, List.map_map]; rfl
  have := ip_rows K cl (QQ := (P.map fun r => iD r) ++ [iD q ++ [DL.D.int 0]]) (m := m) (fun x hx => by
    rcases List.mem_append.mp hx with hx | hx
    · exact rows_kn Z h1 w1 x hx
    · rw [List.mem_singleton.mp hx]
      refine ⟨by rw [List.length_append, List.length_map, List.length_singleton]; omega, ?_⟩
      rw [List.all_append]
      have : (iD q).all kn = true := by
        rw [List.all_eq_true]; intro d hd
        obtain ⟨x, _, rfl⟩ := List.mem_map.mp hd; rfl
      rw [this]; rfl) (by rw [List.length_append, List.length_map, Z.hl, List.length_singleton]; omega)
  rw [e, this]
  have e2 : (P.map fun r => iD r).map (fun q => (q.length : Int)) = List.replicate ((h - 1) + 1) (w : Int) := by
    rw [List.map_map]
    refine List.eq_replicate_iff.mpr ⟨by simp [Z.hl]; omega, fun b hb => ?_⟩
    obtain ⟨r, hr, rfl⟩ := List.mem_map.mp hb
    simp [Z.wl r hr]
  have e3 : card (((P.map fun r => iD r) ++ [iD q ++ [DL.D.int 0]]).map fun q => (q.length : Int)).reverse = 2 := by
    rw [List.map_append, List.reverse_append, e2, List.reverse_replicate]
    show card (((iD q ++ [DL.D.int 0]).length : Int) :: List.replicate (h - 1 + 1) (w : Int)) = 2
    rw [List.length_append, List.length_map, List.length_singleton, hq]
    unfold card
    rw [if_neg (by rw [List.mem_replicate]; omega), card_same]
  unfold isq
  rw [e3]
  simp
end
end LawW


set_option linter.all false
set_option autoImplicit false
set_option maxRecDepth 100000
set_option maxHeartbeats 1000000
namespace LawW
open PySem PySem.Spec PyProof.Rows L2 DL
variable (K : PySem.W.Frag) (cl : Str → Addr)
theorem tr_rN (ds : List Int) : R.tr (.n (iD ds)) = some (.lst (iD ds)) := R.tr_n (plains_ints ds)
theorem slR_t (ds : List DL.D) (l u : Option Int) : slR (.v (.tup ds)) l u = vD (.tup (cut ds l u)) := rfl
theorem last_at {h w : Nat} {P : List (List Int)} (Z : Rect h w P) (h1 : 1 ≤ h) : ∃ q, L2.atI (pD P) (-1) = some (rD q) ∧ q ∈ P := by
  have hj : h - 1 < h := by omega
  obtain ⟨e1, e2⟩ := Z.row hj
  refine ⟨P.getD (h - 1) [], ?_, List.mem_of_getElem? e1⟩
  have hl : (pD P).length = h := by rw [List.length_map, Z.hl]
  unfold L2.atI L2.ixN
  rw [if_neg (by decide), if_pos (by omega)]
  have : ((((pD P).length : Nat) : Int) + -1).toNat = h - 1 := by omega
  show (pD P)[(((pD P).length : Nat) + (-1 : Int)).toNat]? = _
  rw [this, List.getElem?_map, e1]; rfl
section
variable {h w : Nat} {P : List (List Int)} (Z : Rect h w P) (h1 : 1 ≤ h ∧ h ≤ 300) (w1 : 1 ≤ w ∧ w ≤ 300) {m : Int} (m1 : 1 ≤ m ∧ m ≤ 16) (hm : ∀ q ∈ P, ∀ x ∈ q, 0 ≤ x ∧ x ≤ m) {a b c : Int}
  (ha : -4096 ≤ a ∧ a ≤ 4096) (hb : -4096 ≤ b ∧ b ≤ 4096) (hc : -4096 ≤ c ∧ c ≤ 4096)
include Z h1 w1
theorem bads {q : List Int} (hq : q ∈ P) {n : Int} (n0 : 0 ≤ n) : ∀ d ∈ [DL.D.non, .lst [], .lst [.lst []], .tup (pD P), .lst (pD P ++ [.lst (iD q ++ [.int 0])]), .lst (cut (pD P) none (some (-1)) ++ [.lst (cut (iD q) none (some (-1)) ++ [.bl true])]), .lst (cut (pD P) none (some (-1)) ++ [.lst (cut (iD q) none (some (-1)) ++ [.int (-1)])]), .lst (cut (pD P) none (some (-1)) ++ [.tup (iD q)])], F_is_picture K cl [d, .int n] = some (.sh (.bl false)) := fun d hd => by
  have ql : q.length = w := Z.wl q hq
  have kq : ∀ d : DL.D, kn d = true → (cut (iD q) none (some (-1)) ++ [d]).length ≤ 1000 ∧ (cut (iD q) none (some (-1)) ++ [d]).all kn = true := fun d hd => by
    have := cut_len (xs := iD q) (l := none) (u := some (-1))
    rw [List.length_map] at this
    refine ⟨by rw [List.length_append, List.length_singleton]; omega, ?_⟩
    rw [List.all_append, Bool.and_eq_true]
    refine ⟨?_, by simp [hd]⟩
    rw [List.all_eq_true]
    intro d hd
    obtain ⟨x, _, rfl⟩ := List.mem_map.mp (mem_cut hd); rfl
  simp only [List.mem_cons, List.not_mem_nil, or_false] at hd
  rcases hd with rfl | rfl | rfl | rfl | rfl | rfl | rfl | rfl
  · exact ip_not K cl rfl
  · exact ip_rows K cl (QQ := []) (fun q hq => by cases hq) (by decide)
  · exact ip_rows K cl (QQ := [[]]) (fun q hq => by simp at hq; subst hq; exact ⟨by decide, rfl⟩) (by decide)
  · exact ip_not K cl rfl
  · exact bad_more K cl Z h1 w1 ql
  · exact bad_last K cl Z h1 w1 (kq _ rfl).1 (kq _ rfl).2 (List.mem_append_right _ (List.mem_singleton.mpr rfl)) rfl
  · exact bad_last K cl Z h1 w1 (kq _ rfl).1 (kq _ rfl).2 (List.mem_append_right _ (List.mem_singleton.mpr rfl)) (by simp [okE])
  · exact bad_tup K cl Z h1 w1
include m1 hm ha hb hc
theorem refused_ok (E : ErrT K cl) : F__law_refused_holds K cl [.lst (pD P), .int m, .tup [.int a, .int b, .int c]] = some (.sh (.bl true)) := by
  obtain ⟨q, la, hq⟩ := last_at Z h1.1
  have ql : q.length = w := Z.wl q hq
  haveI : Ln 300 (pD P) := ⟨by rw [List.length_map, Z.hl]; omega⟩
  haveI : Ln 300 (iD q) := ⟨by rw [List.length_map]; omega⟩
  have okp := ip_ok K cl Z h1 w1 hm
  have okp2 := ip_ok K cl Z h1 w1 (m := 1228800) (fun r hr x hx => by have := hm r hr x hx; omega)
  have bm := bad_last K cl Z h1 w1 (q := cut (iD q) none (some (-1)) ++ [.int (m + 1)]) (d := .int (m + 1)) (m := m) (by
    have := cut_len (xs := iD q) (l := none) (u := some (-1))
    rw [List.length_map] at this
    rw [List.length_append, List.length_singleton]; omega) (by
    rw [List.all_append, Bool.and_eq_true]
    refine ⟨?_, by simp [kn]⟩
    rw [List.all_eq_true]
    intro d hd
    obtain ⟨x, _, rfl⟩ := List.mem_map.mp (mem_cut hd); rfl) (List.mem_append_right _ (List.mem_singleton.mpr rfl)) (by
    show (decide (0 ≤ m + 1) && decide (m + 1 ≤ m)) = false
    rw [decide_eq_false (p := m + 1 ≤ m) (by omega), Bool.and_false])
  have rm := reason_l K cl E (lit_bad1 K cl (l := .tup [.int a, .int b, .int c]) bm)
  refine run_of (ρ := [.sh (.lst (pD P)), .sh (.int m), .sh (.tup [.int a, .int b, .int c]), .un, .un]) rfl ?_
  unfold B__law_refused_holds
  have sl1 : ∀ (ds : List DL.D) (l u : Option Int), slO (some (.v (.lst ds))) (some l) (some u) = vN (cut ds l u) := fun _ _ _ => rfl
  have oo : ooR (vI (-1)) = some (some (-1)) := rfl
  refine gv_step (by conv => lhs; simp [la, -appO_eq]) ?_
  refine gv_step (by conv => lhs; simp [sl1, oo, addR_ln, -appO_eq]) ?_
  refine gv_each (J := fun ρ => ∃ s4, ρ = [.sh (.lst (pD P)), .sh (.int m), .sh (.tup [.int a, .int b, .int c]), .sh (rD q), s4]) ⟨_, rfl⟩ ?_ ?_
  · rintro d hd _ ⟨s4, rfl⟩
    have r1 := reason_l K cl E (lit_bad1 K cl (l := .tup [.int a, .int b, .int c]) (bads K cl Z h1 w1 hq (n := m) (by omega) d hd))
    have r2 := reason_u K cl E (l := .non) (unlit_bad1 K cl (r := .int 1) (bads K cl Z h1 w1 hq (n := 1228800) (by decide) d hd))
    refine gv_step (by conv => lhs; simp [r1, r2]) ?_
    refine gv_ifF ?_
    exact gv_out rfl ⟨_, rfl, _, rfl⟩
  · rintro _ ⟨s4, rfl⟩
    refine gv_step (by conv => lhs; simp [sl1, addR_ln, rm, -appO_eq]) ?_
    refine gv_ifF ?_
    refine gv_step (by conv => lhs; simp [slR_t, slO_some, ooR_i, cut, HT.sIx, -appO_eq]) ?_
    have il : F_is_light K cl [.tup [.int a, .int b, .int c]] = some (.sh (.bl true)) := by
      rw [light_ok K cl rfl]
      simp [isl, ha, hb, hc]
    refine gv_each (J := fun ρ => ∃ s4, ρ = [.sh (.lst (pD P)), .sh (.int m), .sh (.tup [.int a, .int b, .int c]), .sh (rD q), s4]) ⟨_, rfl⟩ ?_ ?_
    · rintro d hd _ ⟨s4, rfl⟩
      have bl : F_is_light K cl [d] = some (.sh (.bl false)) := by
        simp only [List.mem_cons, List.not_mem_nil, or_false] at hd
        rcases hd with rfl | rfl | rfl | rfl | rfl | rfl | rfl | rfl
        · exact light_not K cl rfl
        · exact light_not K cl rfl
        · exact light_len K cl (by simp)
        · exact light_len K cl (by simp)
        · rw [light_ok K cl rfl]; rfl
        · rw [light_ok K cl rfl]; rfl
        · rw [light_ok K cl rfl]; rfl
        · rw [light_ok K cl rfl]; simp [isl]
      have r1 := reason_l K cl E (lit_bad2 K cl okp bl)
      refine gv_step (by conv => lhs; simp [bl, r1]) ?_
      refine gv_ifF ?_
      exact gv_out rfl ⟨_, rfl, _, rfl⟩
    · rintro _ ⟨s4, rfl⟩
      have il2 : F_is_light K cl [.tup [.int 4096, .int (-4096), .int 4096]] = some (.sh (.bl true)) := by rw [light_ok K cl rfl]; rfl
      have il3 : F_is_light K cl [.tup [.int 0, .int 0, .int 0]] = some (.sh (.bl true)) := by rw [light_ok K cl rfl]; rfl
      refine gv_step (by conv => lhs; simp [compO_eq, compL_cons', compL_nil', compG_eq, compC_none, wipeE, il, il2, il3, -appO_eq]) ?_
      have ee : eqR (.n []) (.n []) = some true := eqR_lI (xs := []) (ys := []) (tr_rN []) (tr_rN [])
      have nn : neR (.n []) (.n []) = some false := by unfold neR; rw [ee]; rfl
      have u1 := reason_u K cl E (l := .non) (unlit_bad3 K cl okp2 (r := -1) (by omega))
      have u2 := reason_u K cl E (l := .non) (unlit_bad3 K cl okp2 (r := 301) (by omega))
      have u3 := reason_u K cl E (l := .non) (unlit_bad2 K cl okp2 (r := .bl true) rfl rfl)
      have u4 := reason_u K cl E (l := .non) (unlit_bad2 K cl okp2 (r := .non) rfl rfl)
      rw [nn]
      refine gv_ifF ?_
      refine gv_step (by conv => lhs; simp [u1, u2, u3, u4, compC_none, ee]) ?_
      exact gv_out rfl rfl
end
end LawW


set_option linter.all false
set_option autoImplicit false
set_option maxRecDepth 100000
set_option maxHeartbeats 1000000
namespace LawW
open PySem PySem.Spec PyProof.Rows L2 DL
variable (K : PySem.W.Frag) (cl : Str → Addr)
theorem ints_sok : ∀ {ns : List Int}, (∀ x ∈ ns, 0 ≤ x ∧ x ≤ 1228800) → soks (iD ns)
  | [], _ => trivial
  | k :: ns, h => by
    have h0 := h k (by simp)
    have h1 : sok (.int k) := bd_sok (k := 30) (b := ⟨by omega⟩) (by decide)
    exact ⟨h1, ints_sok fun j hj => h j (by simp [hj])⟩
theorem ints_cst : ∀ ns : List Int, csts (iD ns) ≤ 2000 * ns.length
  | [] => by simp [csts]
  | k :: ns => by
    have := ints_cst ns
    show csts (DL.D.int k :: iD ns) ≤ _
    simp only [List.length_cons, csts, cst]
    omega
theorem pD_sok : ∀ {P : List (List Int)}, (∀ q ∈ P, ∀ x ∈ q, 0 ≤ x ∧ x ≤ 1228800) → soks (pD P)
  | [], _ => trivial
  | q :: P, h => ⟨ints_sok (h q (by simp)), pD_sok fun r hr => h r (by simp [hr])⟩
theorem pD_dpt : ∀ P : List (List Int), dpts (pD P) ≤ 1
  | [] => by simp [dpts]
  | q :: P => by
    have := pD_dpt P
    show dpts (rD q :: pD P) ≤ 1
    simp only [dpts, dpt, dpts_iD]
    omega
theorem pD_cst {w : Nat} (hw : w ≤ 24) : ∀ {P : List (List Int)}, (∀ q ∈ P, q.length = w) → csts (pD P) ≤ 50000 * P.length
  | [], _ => by simp [csts]
  | q :: P, h => by
    have := pD_cst hw (P := P) fun r hr => h r (by simp [hr])
    have hq := h q (by simp)
    have := ints_cst q
    show csts (rD q :: pD P) ≤ _
    simp only [List.length_cons, csts, cst]
    omega
theorem pD_plain : ∀ P : List (List Int), DL.plains (pD P) = true
  | [] => rfl
  | q :: P => by
    have := pD_plain P
    have h2 := plains_ints q
    show (DL.plains (iD q) && DL.plains (pD P)) = true
    rw [h2, this]; rfl
theorem pD_cl0 : ∀ P : List (List Int), cl0s (pD P) = true
  | [] => rfl
  | q :: P => by
    have := pD_cl0 P
    show cl0s (rD q :: pD P) = true
    rw [cl0s_cons, cl0_lst, cl0s_iD, this]; rfl
theorem pD_nb : ∀ P : List (List Int), nb.nbs (pD P) = true
  | [] => rfl
  | q :: P => by
    have := pD_nb P
    show nb.nbs (rD q :: pD P) = true
    rw [nb.nbs, nb, nbs_iD, this]; rfl
theorem pD_trv (P : List (List Int)) : R.tr (.v (.lst (pD P))) = some (.lst (pD P)) := R.tr_v (by simp [DL.plain, pD_plain])
theorem pD_trn (P : List (List Int)) : R.tr (.n (pD P)) = some (.lst (pD P)) := R.tr_n (pD_plain P)
theorem pD_eq {x y : R} {A B : List (List Int)} (hx : x.tr = some (.lst (pD A))) (hy : y.tr = some (.lst (pD B))) : eqR x y = some (eqD (.lst (pD A)) (.lst (pD B))) := by
  have a := pD_dpt A
  have b := pD_dpt B
  exact eqR_nb hx hy (by simp only [dpt]; omega) (by simp only [dpt]; omega) (by rw [cl0_lst, pD_cl0]) (by rw [cl0_lst, pD_cl0]) (by rw [nb, pD_nb]) (by rw [nb, pD_nb])
theorem pD_ne {x y : R} {A : List (List Int)} (hx : x.tr = some (.lst (pD A))) (hy : y.tr = some (.lst (pD A))) : neR x y = some false := by
  unfold neR; rw [pD_eq hx hy, eqD_iff.mpr rfl]; rfl
theorem pD_nil {x y : R} {A : List (List Int)} (hx : x.tr = some (.lst (pD A))) (hy : y.tr = some (.lst (pD []))) : ∃ b : Bool, eqR x y = some b ∧ (b = true → A = []) := by
  refine ⟨_, pD_eq hx hy, fun z => ?_⟩
  have := eqD_iff.mp z
  injection this with this
  exact List.map_eq_nil_iff.mp this
theorem pD_repr {h w : Nat} {P : List (List Int)} (Z : Rect h w P) (hh : h ≤ 24) (hw : w ≤ 24) (hp : ∀ q ∈ P, ∀ x ∈ q, 0 ≤ x ∧ x ≤ 1228800) : reprR (.v (.lst (pD P))) = vS (py (.lst (pD P))).shown := by
  have a := pD_dpt P
  have b := pD_cst hw Z.wl
  have := Z.hl
  exact repr_v (pD_sok hp) (by simp only [dpt]; omega) (by simp only [cst]; omega)
theorem pD_reprn {h w : Nat} {P : List (List Int)} (Z : Rect h w P) (hh : h ≤ 24) (hw : w ≤ 24) (hp : ∀ q ∈ P, ∀ x ∈ q, 0 ≤ x ∧ x ≤ 1228800) : reprR (.n (pD P)) = vS (py (.lst (pD P))).shown := pD_repr Z hh hw hp
/-- told[0].append(7) -/
theorem gv_app0 {i : Nat} {us ts : List T} {t1 : T} {k : Kt} {ρ : Ev} {P : Out → Prop} (hs : ρ[i]? = some (.ot (.ls (.ls us :: ts)))) (hl : us.length < 16777216) (g : ∀ t, Gv (k (ρ.set i (.ot t))) P) : Gv (appPO i (adI i (some []) (vI 0) ρ) (some t1) k ρ) P := by
  have e : adI i (some []) (vI 0) ρ = some [0] := by
    unfold adI
    rw [hs]
    show (some (ts.length + 1)).bind _ = _
    rw [Option.bind_some]
    show (L2.ixN (ts.length + 1) 0).map _ = _
    unfold L2.ixN
    rw [if_pos (by decide), if_pos (by omega)]; rfl
  rw [e]
  unfold appPO
  rw [hs]
  show Gv (if us.length < sizeLine then _ else none) P
  rw [if_pos (show us.length < sizeLine from hl)]; exact g _
end LawW


set_option linter.all false
set_option autoImplicit false
set_option maxRecDepth 100000
set_option maxHeartbeats 1000000
namespace LawW
open PySem PySem.Spec PyProof.Rows L2 DL
variable (K : PySem.W.Frag) (cl : Str → Addr)
theorem most_ok {a : Int} : ∃ m : Int, Option.map R.v (L2.atI [DL.D.int 1, .int 4, .int 9, .int 16] (a % 4)) = vI m ∧ 1 ≤ m ∧ m ≤ 16 := by
  rcases (show a % 4 = 0 ∨ a % 4 = 1 ∨ a % 4 = 2 ∨ a % 4 = 3 by omega) with z | z | z | z <;> rw [z]
  · exact ⟨1, by simp [atI_lit], by decide⟩
  · exact ⟨4, by simp [atI_lit], by decide⟩
  · exact ⟨9, by simp [atI_lit], by decide⟩
  · exact ⟨16, by simp [atI_lit], by decide⟩
theorem reach_ok {a b : Int} : ∃ r : Nat, Option.map R.v (L2.atI [DL.D.int (a % 4), .int (a % 30), .int 0, .int 300, .int (2 + a % 9)] (b % 5)) = some (.v (.int (r : Int))) ∧ r ≤ 300 := by
  rcases (show b % 5 = 0 ∨ b % 5 = 1 ∨ b % 5 = 2 ∨ b % 5 = 3 ∨ b % 5 = 4 by omega) with z | z | z | z | z <;> rw [z]
  · exact ⟨(a % 4).toNat, by rw [Int.toNat_of_nonneg (by omega)]; simp [atI_lit], by omega⟩
  · exact ⟨(a % 30).toNat, by rw [Int.toNat_of_nonneg (by omega)]; simp [atI_lit], by omega⟩
  · exact ⟨0, by simp [atI_lit], by omega⟩
  · exact ⟨300, by simp [atI_lit], by omega⟩
  · exact ⟨(2 + a % 9).toNat, by rw [Int.toNat_of_nonneg (by omega)]; simp [atI_lit], by omega⟩
theorem far_ok {n : Int} : ∃ a b c : Int, Option.map R.v (L2.atI [DL.D.tup [.int 4096, .int 4096, .int 4096], .tup [.int (-4096), .int 4096, .int (-4096)], .tup [.int 4096, .int (-4096), .int (-4096)], .tup [.int 0, .int 0, .int 0]] (n % 4)) = some (.v (.tup [.int a, .int b, .int c])) ∧ (-4096 ≤ a ∧ a ≤ 4096) ∧ (-4096 ≤ b ∧ b ≤ 4096) ∧ (-4096 ≤ c ∧ c ≤ 4096) := by
  rcases (show n % 4 = 0 ∨ n % 4 = 1 ∨ n % 4 = 2 ∨ n % 4 = 3 by omega) with z | z | z | z <;> rw [z]
  · exact ⟨_, _, _, by simp [atI_lit]; exact ⟨rfl, rfl, rfl⟩, by decide, by decide, by decide⟩
  · exact ⟨_, _, _, by simp [atI_lit]; exact ⟨rfl, rfl, rfl⟩, by decide, by decide, by decide⟩
  · exact ⟨_, _, _, by simp [atI_lit]; exact ⟨rfl, rfl, rfl⟩, by decide, by decide, by decide⟩
  · exact ⟨_, _, _, by simp [atI_lit]; exact ⟨rfl, rfl, rfl⟩, by decide, by decide, by decide⟩
/-- [list(row) for row in P] -/
theorem copy_ok {P : List (List Int)} {j : Nat} {ρ : Ev} (hl : P.length ≤ 1000) (hs : ∀ q ∈ P, varR ((wipeE ρ [j]).set j (.sh (rD q))) j = some (.v (rD q))) : compO (some (pD P)) [j] (nameG j) trueC (fun ρ => (varR ρ j).bind listR) ρ = vN (pD P) := by
  refine comp_list (u := rD) (xs := P) rD (by omega) fun q hq => ?_
  show ((varR _ j).bind listR).bind R.d = _
  rw [hs q hq]; rfl
section
variable {h w : Nat} {P : List (List Int)} (Z : Rect h w P) (h1 : 1 ≤ h ∧ h ≤ 24) (w1 : 1 ≤ w ∧ w ≤ 24) {m : Int}
include Z h1 w1
theorem plain_ok {ρ : Ev} {j1 j2 : Nat} (hs : ∀ q ∈ P, varR ((wipeE ρ [j1]).set j1 (.sh (rD q))) j1 = some (.v (rD q)))
    (hs2 : ∀ q ∈ P, ∀ x ∈ q, varR ((wipeE ((wipeE ρ [j1]).set j1 (.sh (rD q))) [j2]).set j2 (.sh (.int x))) j2 = some (.v (.int x)) ∧ varR ((wipeE ((wipeE ρ [j1]).set j1 (.sh (rD q))) [j2]).set j2 (.sh (.int x))) 4 = some (.v (.int m))) :
    ∃ b : Bool, o2 eqR (compO (some (pD P)) [j1] (nameG j1) (fun ρ => o2 neR (compO ((varR ρ j1).bind srcJ) [j2] (nameG j2) (fun ρ => (o2 in2R (varR ρ j2) (tupO (consO (vI 0) (consO (varR ρ 4) (some []))))).map (!·)) (fun ρ => varR ρ j2) ρ) (lstO (some []))) (fun ρ => varR ρ j1) ρ) (vN []) = some b ∧ (b = true → ∀ j i, j < h → i < w → el P j i = 0 ∨ el P j i = m) := by
  have c := compO_filterI (u := rD) (xs := P) (ow := [j1]) (g := nameG j1) (cond := fun ρ => o2 neR (compO ((varR ρ j1).bind srcJ) [j2] (nameG j2) (fun ρ => (o2 in2R (varR ρ j2) (tupO (consO (vI 0) (consO (varR ρ 4) (some []))))).map (!·)) (fun ρ => varR ρ j2) ρ) (lstO (some []))) (val := fun ρ => varR ρ j1) (ρ := ρ) (fun q => !decide (q.filter (fun x => !decide (x ∈ [0, m])) = [])) rD (by rw [Z.hl]; omega) (fun q hq => by
    have c2 := compO_filterI (u := DL.D.int) (xs := q) (ow := [j2]) (g := nameG j2) (cond := fun ρ => (o2 in2R (varR ρ j2) (tupO (consO (vI 0) (consO (varR ρ 4) (some []))))).map (!·)) (val := fun ρ => varR ρ j2) (ρ := (wipeE ρ [j1]).set j1 (.sh (rD q))) (fun x => !decide (x ∈ [0, m])) DL.D.int (by rw [Z.wl q hq]; omega) (fun x hx => by
      obtain ⟨e1, e2⟩ := hs2 q hq x hx
      rw [compG_eq]
      show ifR ((o2 in2R (varR _ j2) (tupO (consO (vI 0) (consO (varR _ 4) (some []))))).map (!·)) (((varR _ j2).bind R.d).map some) (some none) = _
      rw [e1, e2, show o2 in2R (some (.v (.int x))) (tupO (consO (vI 0) (consO (some (.v (.int m))) (some [])))) = some (decide (x ∈ [0, m])) from in2_ints (xs := [0, m]) x rfl]
      cases decide (x ∈ [0, m]) <;> rfl)
    rw [compG_eq]
    show ifR (o2 neR (compO ((varR _ j1).bind srcJ) _ _ _ _ _) (lstO (some []))) (((varR _ j1).bind R.d).map some) (some none) = _
    rw [hs q hq, bind_some', srcJ_l, c2]
    have ne : o2 neR (vN ((q.filter fun x => !decide (x ∈ [0, m])).map DL.D.int)) (lstO (some [])) = some (!decide (q.filter (fun x => !decide (x ∈ [0, m])) = [])) := by
      show neR (.n (iD _)) (.n (iD [])) = _
      unfold neR
      rw [eqR_lI (tr_nI _) (tr_nI [])]; rfl
    rw [ne]
    cases decide (q.filter (fun x => !decide (x ∈ [0, m])) = []) <;> rfl)
  rw [c]
  obtain ⟨b, e, hb⟩ := pD_nil (x := .n (pD (P.filter fun q => !decide (q.filter (fun x => !decide (x ∈ [0, m])) = [])))) (y := .n []) (pD_trn _) (pD_trn [])
  refine ⟨b, e, fun z j i hj hi => ?_⟩
  have f := hb z
  obtain ⟨e1, e2⟩ := Z.row hj
  have hq := List.mem_of_getElem? e1
  rw [List.filter_eq_nil_iff] at f
  have f1 := f _ hq
  rw [Bool.not_eq_true, Bool.not_eq_false', decide_eq_true_iff, List.filter_eq_nil_iff] at f1
  have f2 := f1 _ (List.mem_of_getElem? (row_get Z hj hi))
  rw [Bool.not_eq_true, Bool.not_eq_false', decide_eq_true_iff] at f2
  simpa using f2
theorem shaded_ok {ρ : Ev} {j : Nat} (hs : ∀ q ∈ P, varR ((wipeE ρ [j]).set j (.sh (rD q))) j = some (.v (rD q))) : ∃ N : List (List Int), compO (some (pD P)) [j] (nameG j) (fun ρ => o2 in2R (vI 0) (varR ρ j)) (fun ρ => varR ρ j) ρ = vN (pD N) ∧ (N = [] → ∀ j i, j < h → i < w → el P j i ≠ 0) := by
  have c := compO_filterI (u := rD) (xs := P) (ow := [j]) (g := nameG j) (cond := fun ρ => o2 in2R (vI 0) (varR ρ j)) (val := fun ρ => varR ρ j) (ρ := ρ) (fun q => decide (0 ∈ q)) rD (by rw [Z.hl]; omega) (fun q hq => by
    rw [compG_eq]
    show ifR (o2 in2R (vI 0) (varR _ j)) (((varR _ j).bind R.d).map some) (some none) = _
    rw [hs q hq, show o2 in2R (vI 0) (some (.v (rD q))) = some (decide (0 ∈ q)) from in2_ints (xs := q) 0 rfl]
    cases decide (0 ∈ q) <;> rfl)
  refine ⟨_, c, fun z j i hj hi e => ?_⟩
  obtain ⟨e1, e2⟩ := Z.row hj
  rw [List.filter_eq_nil_iff] at z
  refine z _ (List.mem_of_getElem? e1) (decide_eq_true ?_)
  have := List.mem_of_getElem? (row_get Z hj hi)
  rwa [e] at this
end
end LawW


set_option linter.all false
set_option autoImplicit false
set_option maxRecDepth 100000
set_option maxHeartbeats 1000000
namespace LawW
open PySem PySem.Spec PyProof.Rows L2 DL
variable (K : PySem.W.Frag) (cl : Str → Addr)
theorem rows_copy {h w : Nat} (f : Nat → Nat → Int) : ∀ r ∈ tab h w f, ∃ j, j < h ∧ r = rw w (f j) := fun r hr => by
  obtain ⟨j, hj, rfl⟩ := List.mem_map.mp hr
  exact ⟨j, List.mem_range.mp hj, rfl⟩
theorem lt_big {a b c : Int} {i j : Nat} (ha : -4096 ≤ a ∧ a ≤ 4096) (hb : -4096 ≤ b ∧ b ≤ 4096) (hc : -4096 ≤ c ∧ c ≤ 4096) (hi : i ≤ 24) (hj : j ≤ 24) : lt a b c i j ≤ 100000 := by
  have q1 : b * (i : Int) ≤ 4096 * i := Int.mul_le_mul_of_nonneg_right hb.2 (by omega)
  have q2 : c * (j : Int) ≤ 4096 * j := Int.mul_le_mul_of_nonneg_right hc.2 (by omega)
  unfold lt
  generalize b * (i : Int) = x at *
  generalize c * (j : Int) = y at *
  split <;> omega
theorem lit_range {h w : Nat} {P : List (List Int)} (Z : Rect h w P) (hh : h ≤ 24) (hw : w ≤ 24) {m : Int} (m1 : 1 ≤ m) (hm : ∀ q ∈ P, ∀ x ∈ q, 0 ≤ x ∧ x ≤ m) {a b c : Int} (ha : -4096 ≤ a ∧ a ≤ 4096) (hb : -4096 ≤ b ∧ b ≤ 4096) (hc : -4096 ≤ c ∧ c ≤ 4096) : ∀ q ∈ litP h w P m a b c, ∀ x ∈ q, 0 ≤ x ∧ x ≤ 1228800 := by
  refine tab_all fun j i hj hi => ?_
  have e := el_mem Z hm hj hi
  have l := lv_le (a := a) (b := b) (c := c) (j := j) (i := i) m1 e.1 e.2
  have := lt_big (i := i) (j := j) ha hb hc (by omega) (by omega)
  omega
theorem un_range {h w r : Nat} {P : List (List Int)} : ∀ q ∈ unP h w P r, ∀ x ∈ q, 0 ≤ x ∧ x ≤ 1228800 := by
  refine tab_all fun j i _ _ => ?_
  unfold uv; split <;> omega
theorem gv_setS {i : Nat} {o : Option R} {d : DL.D} {k : Kt} {ρ ρ' : Ev} {P : Out → Prop} (h : o.bind R.d = some d) (e : ρ.set i (.sh d) = ρ') (g : Gv (k ρ') P) : Gv (setS i o k ρ) P := by
  subst e
  unfold setS
  rw [h]; exact g
abbrev E6 (ns xs : List Int) (w h : Nat) (m : Int) (P : List (List Int)) (l s7 s8 s9 s10 s11 s12 s13 s14 s15 : Sl) : Ev := [.sh (.ro (iD ns)), .sh (.lst (iD xs)), .sh (.int (w : Int)), .sh (.int (h : Int)), .sh (.int m), .sh (.lst (pD P)), l, s7, s8, s9, s10, s11, s12, s13, s14, s15, .un, .un, .un, .un]
theorem law_true (E : ErrT K cl) : ∀ ns : List Int, ns.length ≤ 63 → F_law K cl [.ro (iD ns)] = some (.sh (.bl true)) := fun ns hns => by
  obtain ⟨xs, hn, nl, nb⟩ := numbers_ok K cl ns 0 40 (by decide) (by decide) hns
  have at_n : ∀ i : Nat, i < 40 → ∃ x, (iD xs)[i]? = some (.int x) ∧ 0 ≤ x ∧ x < 1009 := fun i hi => by
    refine ⟨xs[i]'(by omega), ?_, nb _ (List.getElem_mem _)⟩
    rw [List.getElem?_map, List.getElem?_eq_getElem (show i < xs.length by omega)]; rfl
  obtain ⟨n0, a0, _, _⟩ := at_n 0 (by omega)
  obtain ⟨n1, a1, _, _⟩ := at_n 1 (by omega)
  obtain ⟨n2, a2, _, _⟩ := at_n 2 (by omega)
  obtain ⟨n12, a12, _, _⟩ := at_n 12 (by omega)
  obtain ⟨n13, a13, _, _⟩ := at_n 13 (by omega)
  obtain ⟨n14, a14, _, _⟩ := at_n 14 (by omega)
  obtain ⟨n15, a15, _, _⟩ := at_n 15 (by omega)
  obtain ⟨n16, a16, _, _⟩ := at_n 16 (by omega)
  obtain ⟨n17, a17, _, _⟩ := at_n 17 (by omega)
  obtain ⟨n18, a18, _, _⟩ := at_n 18 (by omega)
  obtain ⟨m, em, m0, m1⟩ := most_ok (a := n2)
  obtain ⟨w, ew, w0, w1⟩ : ∃ w : Nat, 1 + n0 % 24 = (w : Int) ∧ 1 ≤ w ∧ w ≤ 24 := ⟨(1 + n0 % 24).toNat, by omega, by omega, by omega⟩
  obtain ⟨h, eh, h0, h1⟩ : ∃ h : Nat, 1 + n1 % 24 = (h : Int) ∧ 1 ≤ h ∧ h ≤ 24 := ⟨(1 + n1 % 24).toNat, by omega, by omega, by omega⟩
  have cf : cut (iD xs) (some 3) none = iD (xs.drop 3) := cut_from (n := 3) (by omega)
  obtain ⟨P, eP, Z, hm⟩ := picture_ok K cl (h := h) (w := w) ⟨h0, h1⟩ ⟨w0, w1⟩ (m := m) ⟨m0, m1⟩ (xs := xs.drop 3) (fun x hx => nb x (List.mem_of_mem_drop hx)) (by rw [List.length_drop]; omega)
  generalize hys : xs.drop 3 = ys at cf eP
  have h0' : F__law_numbers K cl [.ro (iD ns), .int 0, .int 40] = _ := hn
  refine run_of (ρ := [.sh (.ro (iD ns)), .un, .un, .un, .un, .un, .un, .un, .un, .un, .un, .un, .un, .un, .un, .un, .un, .un, .un, .un]) rfl ?_
  unfold B_law
  refine gv_step (by conv => lhs; simp [h0', atI_lit, a0, a1, a2, ew, eh, -List.getElem?_map, -appO_eq]) ?_
  refine gv_step (by conv => lhs; simp [em, slO_some, ooR_i, slR_l, cf, eP, atI_lit, a12, a13, a14, -List.getElem?_map, -appO_eq]) ?_
  have m3 : mulR (.v (.int n12)) (.v (.int 4)) = vI (n12 * 4) := mulR_r (by decide)
  have m4 : mulR (.v (.int n13)) (.v (.int 8)) = vI (n13 * 8) := mulR_r (by decide)
  have m5 : mulR (.v (.int n14)) (.v (.int 8)) = vI (n14 * 8) := mulR_r (by decide)
  have m6 : mulR (.v (.int n12)) (.v (.int 3)) = vI (n12 * 3) := mulR_r (by decide)
  refine gv_step (by conv => lhs; simp [m3, m4, m5, atI_lit, a15, -List.getElem?_map, -appO_eq]) ?_
  refine gv_if (fun o => ∃ a b c : Int, ((-4096 ≤ a ∧ a ≤ 4096) ∧ (-4096 ≤ b ∧ b ≤ 4096) ∧ (-4096 ≤ c ∧ c ≤ 4096)) ∧ o = .nx (E6 ns xs w h m P (.sh (.tup [.int a, .int b, .int c])) .un .un .un .un .un .un .un .un .un)) (fun _ => ?_) (fun _ => gv_out rfl ⟨_, _, _, ⟨⟨by omega, by omega⟩, ⟨by omega, by omega⟩, ⟨by omega, by omega⟩⟩, rfl⟩) ?_
  · refine gv_step (by conv => lhs; simp [a12, a13, a14, m6, -List.getElem?_map]) ?_
    exact gv_out rfl ⟨_, _, _, ⟨⟨by omega, by omega⟩, ⟨by omega, by omega⟩, ⟨by omega, by omega⟩⟩, rfl⟩
  rintro _ ⟨a, b, c, hab, rfl⟩
  refine gv_step (by conv => lhs; simp [E6, atI_lit, a15, -List.getElem?_map, -appO_eq]) ?_
  refine gv_if (fun o => ∃ a b c : Int, ((-4096 ≤ a ∧ a ≤ 4096) ∧ (-4096 ≤ b ∧ b ≤ 4096) ∧ (-4096 ≤ c ∧ c ≤ 4096)) ∧ o = .nx (E6 ns xs w h m P (.sh (.tup [.int a, .int b, .int c])) .un .un .un .un .un .un .un .un .un)) (fun _ => ?_) (fun _ => gv_out rfl ⟨_, _, _, hab, rfl⟩) ?_
  · obtain ⟨a', b', c', e, g1, g2, g3⟩ := far_ok (n := n16)
    refine gv_step (by conv => lhs; simp [atI_lit, a16, e, -List.getElem?_map]) ?_
    exact gv_out rfl ⟨_, _, _, ⟨g1, g2, g3⟩, rfl⟩
  clear hab a b c
  rintro _ ⟨a, b, c, ⟨ha, hb, hc⟩, rfl⟩
  have h3 : 1 ≤ h ∧ h ≤ 300 := ⟨h0, by omega⟩
  have w3 : 1 ≤ w ∧ w ≤ 300 := ⟨w0, by omega⟩
  have il : F_is_light K cl [.tup [.int a, .int b, .int c]] = some (.sh (.bl true)) := by
    rw [light_ok K cl rfl]
    simp [isl, ha, hb, hc]
  have ll := law_lit_ok K cl Z h3 w3 ⟨m0, m1⟩ hm (a := a) (b := b) (c := c)
  have li := lit_ok K cl Z h3 w3 ⟨m0, m1⟩ hm il
  have lr := lit_range Z h1 w1 m0 hm ha hb hc
  have ZQ : Rect h w (litP h w P m a b c) := tab_rect _ _ _
  generalize hQ : litP h w P m a b c = Q at *
  have cp := copy_ok (P := P) (j := 16) (ρ := E6 ns xs w h m P (.sh (.tup [.int a, .int b, .int c])) .un .un .un .un .un .un .un .un .un) (by rw [Z.hl]; omega) (fun q _ => rfl)
  have rv := pD_repr ZQ h1 w1 lr
  have nv : neR (.v (.lst (pD P))) (.v (.lst (pD P))) = some false := pD_ne (pD_trv P) (pD_trv P)
  refine gv_step (by conv => lhs; simp [E6, -appO_eq]) ?_
  refine gv_step (congrArg (fun z => setLO 7 z _ _) cp) ?_
  refine gv_setLO (by simp [E6]) ?_
  refine gv_step (by conv => lhs; simp [E6, ll, -appO_eq]) ?_
  refine gv_step (by conv => lhs; simp [li, -appO_eq]) ?_
  refine gv_step (by conv => lhs; simp [rv, nv, -appO_eq]) ?_
  refine gv_ifF ?_
  obtain ⟨r, er, hr⟩ := reach_ok (a := n17) (b := n18)
  refine gv_step (by conv => lhs; simp [atI_lit, a17, a18, -List.getElem?_map, -appO_eq]) ?_
  refine gv_step (by conv => lhs; simp [er, -appO_eq]) ?_
  have hm2 : ∀ q ∈ P, ∀ x ∈ q, 0 ≤ x ∧ x ≤ 1228800 := fun q hq x hx => by have := hm q hq x hx; omega
  have uk := unlit_ok K cl ZQ h3 w3 hr lr
  have luk := law_unlit_ok K cl ZQ h3 w3 hr lr
  have up := unlit_ok K cl Z h3 w3 hr hm2
  have lup := law_unlit_ok K cl Z h3 w3 hr hm2
  have ZU : Rect h w (unP h w Q r) := tab_rect _ _ _
  have ZV : Rect h w (unP h w P r) := tab_rect _ _ _
  have ru := pD_repr ZU h1 w1 un_range
  have run := pD_reprn ZU h1 w1 un_range
  have rp := pD_repr ZV h1 w1 un_range
  have rpn := pD_reprn ZV h1 w1 un_range
  have bk := fun pl sh G L gG gL g0 g1 => back (r := r) Z m0 hm (a := a) (b := b) (c := c) (G := G) (L := L) pl sh gG gL g0 g1
  rw [hQ] at bk
  generalize hU : unP h w Q r = U at *
  generalize hV : unP h w P r = V at *
  have nq : neR (.v (.lst (pD Q))) (.v (.lst (pD Q))) = some false := pD_ne (pD_trv Q) (pD_trv Q)
  have cp2 := copy_ok (P := Q) (j := 16) (ρ := [.sh (.ro (iD ns)), .sh (.lst (iD xs)), .sh (.int (w : Int)), .sh (.int (h : Int)), .sh (.int m), .sh (.lst (pD P)), .sh (.tup [.int a, .int b, .int c]), .sh (.lst (pD P)), .sh (.lst (pD Q)), .sh (.lst (pD Q)), .sh (.int (r : Int)), .un, .un, .un, .un, .un, .un, .un, .un, .un]) (by rw [ZQ.hl]; omega) (fun q _ => rfl)
  refine gv_step (congrArg (fun z => setLO 7 z _ _) cp2) ?_
  refine gv_setLO (by simp) ?_
  refine gv_step (by conv => lhs; simp [uk, setXO, -appO_eq]) ?_
  refine gv_step (by conv => lhs; simp [lendTB, luk, toD_tT, ru, run, nq, -appO_eq]) ?_
  refine gv_ifF ?_
  refine gv_step (by conv => lhs; simp [up, lup, toD_tT, rp, rpn, -appO_eq]) ?_
  refine gv_ifF ?_
  refine gv_step (by conv => lhs; simp [show h < 4611686018427387904 by omega, -appO_eq]) ?_
  have h62 : in62 (w : Int) := by unfold in62; omega
  refine gv_rng (n := (h : Int)) (J := fun k ρ => ∃ (L : List Int) (s13 : Sl), L.length ≤ 24 * k ∧ (∀ j i, j < k → i < w → lt a b c i j ∈ L) ∧ ρ = E6 ns xs w h m P (.sh (.tup [.int a, .int b, .int c])) (.sh (.lst (pD Q))) (.sh (.lst (pD Q))) (.sh (.lst (pD Q))) (.sh (.int (r : Int))) (.ot (tT U)) (.sh (.lst (iD L))) s13 .un .un) ⟨[], _, by simp, (fun j i hj => by omega), rfl⟩ ?_ ?_
  · rintro k hk _ ⟨L, s13, hL, hL2, rfl⟩
    have cl1 := comp_rng (n := w) (ow := [17]) (j := 17) (val := fun ρ => callR (F__law_light K cl) (consO (varR ρ 6) (consO (varR ρ 13) (consO (varR ρ 17) (some []))))) (ρ := E6 ns xs w h m P (.sh (.tup [.int a, .int b, .int c])) (.sh (.lst (pD Q))) (.sh (.lst (pD Q))) (.sh (.lst (pD Q))) (.sh (.int (r : Int))) (.ot (tT U)) (.sh (.lst (iD L))) (.sh (.int (k : Int))) .un .un) (fun i => .int (lt a b c i k)) (by omega) (fun i hi => by
      have la := law_light_ok K cl (a := a) (b := b) (c := c) (i := i) (j := k) (by omega) (by omega)
      simp only [E6, wipeE, List.set_cons_zero, List.set_cons_succ, varR_sh, varR_succ, consO_some, callR_some, la, bind_some', resR_sh, R.d_v])
    have e0 : (List.range w).map (fun i => DL.D.int (lt a b c i k)) = iD (rw w fun i => lt a b c i k) := by show _ = List.map _ (List.map _ _); rw [List.map_map]; rfl
    rw [e0] at cl1
    have ad : addR (.v (.lst (iD L))) (.n (iD (rw w fun i => lt a b c i k))) = vN (iD L ++ iD (rw w fun i => lt a b c i k)) := by
      rw [addR_ln, if_pos (by simp only [List.length_map, List.length_range]; omega)]
    refine gv_step (by conv => lhs; simp only [E6, List.set_cons_zero, List.set_cons_succ, varR_sh, varR_succ, bind_some', rng1R_i, if_pos h62]) ?_
    refine gv_step (congrArg (fun z => setS 12 (o2 addR _ z) _ _) cl1) ?_
    refine gv_step (congrArg (fun z => setS 12 z _ _) ad) ?_
    exact gv_out rfl ⟨_, rfl, L ++ rw w (fun i => lt a b c i k), _, by simp only [List.length_append, List.length_map, List.length_range]; omega, fun j i hj hi => by
      by_cases z : j = k
      · subst z
        exact List.mem_append_right _ (List.mem_map.mpr ⟨i, List.mem_range.mpr hi, rfl⟩)
      · exact List.mem_append_left _ (hL2 j i (by omega) hi), by rw [← List.map_append]; rfl⟩
  rintro _ ⟨L, s13, hL, hL2, rfl⟩
  have LE : L ≠ [] := List.ne_nil_of_mem (hL2 0 0 (by omega) (by omega))
  have mx := max_ints (x := .v (.lst (iD L))) rfl LE
  have mn := min_ints (x := .v (.lst (iD L))) rfl LE
  obtain ⟨p1, ep, hp⟩ := plain_ok Z ⟨h0, h1⟩ ⟨w0, w1⟩ (m := m) (ρ := E6 ns xs w h m P (.sh (.tup [.int a, .int b, .int c])) (.sh (.lst (pD Q))) (.sh (.lst (pD Q))) (.sh (.lst (pD Q))) (.sh (.int (r : Int))) (.ot (tT U)) (.sh (.lst (iD L))) s13 .un .un) (j1 := 18) (j2 := 19) (fun q _ => rfl) (fun q _ x _ => ⟨rfl, rfl⟩)
  refine gv_step (congrArg (fun z => setS 14 (bO z) _ _) ep) ?_
  have cw := comp_mapP Z (by omega) (by omega) (fun x => b01 (decide (x = 0))) (j1 := 16) (j2 := 19) (val := fun ρ => (bO (o2 eqR (varR ρ 19) (vI 0))).bind intR) (ρ := E6 ns xs w h m P (.sh (.tup [.int a, .int b, .int c])) (.sh (.lst (pD Q))) (.sh (.lst (pD Q))) (.sh (.lst (pD Q))) (.sh (.int (r : Int))) (.ot (tT U)) (.sh (.lst (iD L))) s13 (.sh (.bl p1)) .un) (fun q _ => rfl) (fun q _ x _ => by
    simp only [E6, wipeE, List.set_cons_zero, List.set_cons_succ, varR_sh, varR_succ, o2_some, eqR_i, bO_some]
    rw [b01_int]; rfl)
  rw [mapP_tab Z, show (tab h w fun j i => b01 (decide (el P j i = 0))) = whP h w P from rfl] at cw
  have lg := law_greatest_ok K cl (P := whP h w P) (h := h) (w := w) (r := r) (tab_rect _ _ _) h0 (by omega) w0 (by omega) hr
  obtain ⟨N, en, hN⟩ := shaded_ok (near_rect h w (whP h w P) r) ⟨h0, h1⟩ ⟨w0, w1⟩ (ρ := E6 ns xs w h m P (.sh (.tup [.int a, .int b, .int c])) (.sh (.lst (pD Q))) (.sh (.lst (pD Q))) (.sh (.lst (pD Q))) (.sh (.int (r : Int))) (.ot (tT U)) (.sh (.lst (iD L))) s13 (.sh (.bl p1)) .un) (j := 16) (fun q _ => rfl)
  have gr : (callR (F__law_greatest K cl) (consO (compO (some (pD P)) [16] (nameG 16) trueC (fun ρ => compO ((varR ρ 16).bind srcJ) [19] (nameG 19) trueC (fun ρ => (bO (o2 eqR (varR ρ 19) (vI 0))).bind intR) ρ) (E6 ns xs w h m P (.sh (.tup [.int a, .int b, .int c])) (.sh (.lst (pD Q))) (.sh (.lst (pD Q))) (.sh (.lst (pD Q))) (.sh (.int (r : Int))) (.ot (tT U)) (.sh (.lst (iD L))) s13 (.sh (.bl p1)) .un)) (consO (vI (r : Int)) (some [])))).bind srcJ = some (pD (near h w (whP h w P) r)) := by
    rw [cw]
    simp [lg]
  have en2 := (congrArg (fun z => compO z [16] (nameG 16) (fun ρ => o2 in2R (vI 0) (varR ρ 16)) (fun ρ => varR ρ 16) (E6 ns xs w h m P (.sh (.tup [.int a, .int b, .int c])) (.sh (.lst (pD Q))) (.sh (.lst (pD Q))) (.sh (.lst (pD Q))) (.sh (.int (r : Int))) (.ot (tT U)) (.sh (.lst (iD L))) s13 (.sh (.bl p1)) .un)) gr).trans en
  refine gv_setS (d := .bl p1) (ρ' := (E6 ns xs w h m P (.sh (.tup [.int a, .int b, .int c])) (.sh (.lst (pD Q))) (.sh (.lst (pD Q))) (.sh (.lst (pD Q))) (.sh (.int (r : Int))) (.ot (tT U)) (.sh (.lst (iD L))) s13 (.sh (.bl p1)) .un)) rfl rfl ?_
  refine gv_step (congrArg (fun z => setLO 15 z _ _) en2) ?_
  refine gv_setLO (by simp) ?_
  have bw := bw_ok K cl Z (by omega) (by omega) (m := m)
  obtain ⟨p2, e2, hp2⟩ := pD_nil (x := .v (.lst (pD N))) (y := .n []) (pD_trv N) (pD_trn [])
  have m9 : mulR (.v (.int 5)) (.v (.int (maxI L))) = vI (5 * maxI L) := mulR_l (by decide)
  have m8 : mulR (.v (.int 8)) (.v (.int (minI L))) = vI (8 * minI L) := mulR_l (by decide)
  have key : andB (some p1) (andB (some p2) (andB (some (decide (0 < maxI L))) (andB (some (decide (5 * maxI L ≤ 8 * minI L))) (neR (.v (.lst (pD U))) (.n (pD (bwP h w P m))))))) = some false := by
    cases p1 with
    | false => rfl
    | true =>
      cases p2 with
      | false => rfl
      | true =>
        by_cases g0 : 0 < maxI L
        · by_cases g1 : 5 * maxI L ≤ 8 * minI L
          · rw [bk (hp rfl) (hN (hp2 rfl)) (maxI L) (minI L) (fun j i hj hi => maxI_ge (hL2 j i (by omega) hi)) (fun j i hj hi => minI_le (hL2 j i (by omega) hi)) g0 g1]
            rw [decide_eq_true g0, decide_eq_true g1]
            exact pD_ne (pD_trv _) (pD_trn _)
          · rw [decide_eq_true g0, decide_eq_false g1]; rfl
        · rw [decide_eq_false g0]; rfl
  refine gv_step (congrArg (fun z => ifO z _ _ _) (show _ = some false from ?_)) ?_
  · refine Eq.trans ?_ key
    have wp : R.w (.v (.bl p1)) = some p1 := rfl
    have ce : callR (F_black_and_white K cl) (some [.lst (pD P), .int m]) = vN (pD (bwP h w P m)) := by simp [bw]
    show andB ((varR _ 14).bind R.w) _ = _
    simp only [E6, List.set_cons_zero, List.set_cons_succ, varR_sh, varR_succ, bind_some', wp, toD_tT, o2_some, e2, mx, mn, m9, m8, ltR_i, leR_i, consO_some, ce]
  refine gv_ifF ?_
  obtain ⟨u0, U', hU2⟩ : ∃ u0 U', U = u0 :: U' := by
    cases U with
    | nil => have := ZU.hl; simp at this; omega
    | cons u0 U' => exact ⟨u0, U', rfl⟩
  have ul : u0.length = w := ZU.wl u0 (by rw [hU2]; exact List.mem_cons_self)
  have rf := refused_ok K cl Z h3 w3 ⟨m0, m1⟩ hm ha hb hc E
  have nu : neR (.v (.lst (pD U))) (.n (pD U)) = some false := pD_ne (pD_trv U) (pD_trn U)
  refine gv_step (by conv => lhs; simp [E6, r2T, -appO_eq]) ?_
  refine gv_app0 (us := (iD u0).map .fz) (ts := U'.map tR) (by rw [hU2]; rfl) (by simp only [List.length_map]; omega) fun t => ?_
  refine gv_step (by conv => lhs; simp [uk, luk, toD_tT, nu, -appO_eq]) ?_
  refine gv_ifF ?_
  refine gv_step (by conv => lhs; simp [rf]) ?_
  exact gv_out rfl rfl
end LawW


set_option maxHeartbeats 0
namespace LawW
open PySem PySem.Spec PyProof.Rows L2 DL
abbrev R : PySem.W.OpenRow := PySem.W.OpenLaw.row PySem.Challenge.rw_askewread_k44_light_and_shade
def clsInit (s : Stmt) : Stmt := match s with
  | .ClassDef _ _ _ b _ _ _ _ _ _ _ => b.getD 0 (.Pass ⟨0, 0, 0, 0⟩)
  | _ => .Pass ⟨0, 0, 0, 0⟩
abbrev dD (x : Str) (i : Nat) : He.DefD := ⟨(x, none), x, x, defArgs (top i), defBody (top i), defScope (top i), [], []⟩
abbrev iD0 (x fld q : Str) (i : Nat) : InD := ⟨x, fld, q, defArgs (clsInit (top i)), defBody (clsInit (top i)), defScope (clsInit (top i))⟩
def fn0_ : List He.DefD := [dD "is_whole" 4, dD "is_picture" 8, dD "check_picture" 9, dD "black_and_white" 10, dD "is_light" 11, dD "light_at" 12, dD "lit" 13, dD "greatest_along" 14, dD "greatest_round" 15, dD "unlit" 16, dD "_law_numbers" 18, dD "_law_marks" 19, dD "_law_picture" 20, dD "_law_light" 21, dD "_law_lit" 22, dD "_law_greatest" 23, dD "_law_unlit" 24, dD "_law_reason" 25, dD "_law_refused_holds" 26, dD "law" 27]
def fn : List He.DefD := fn0_
def fa0_ : List He.Fa := [.glo "is_whole", .glo "is_picture", .glo "check_picture", .glo "black_and_white", .glo "is_light", .glo "light_at", .glo "lit", .glo "greatest_along", .glo "greatest_round", .glo "unlit", .glo "_law_numbers", .glo "_law_marks", .glo "_law_picture", .glo "_law_light", .glo "_law_lit", .glo "_law_greatest", .glo "_law_unlit", .glo "_law_reason", .glo "_law_refused_holds", .glo "law", .free "all", .free "bool", .free "enumerate", .free "int"]
def fa1_ : List He.Fa := [.free "isinstance", .free "len", .free "list", .free "max", .free "min", .free "range", .free "repr", .free "super", .free "tuple", .free "zip", .glo "AskewError", .glo "BadPicture", .exc "AskewError", .int "MOST_LIGHT" (4096), .int "MOST_SIDE" (300)]
def fa : List He.Fa := fa0_ ++ fa1_
def ins : List InD := [iD0 "BadPicture" "reason" "BadPicture.__init__" 2]
def exl0 (K : PySem.W.Frag) : List Bool := [excB K (He.ga K "AskewError"), excB K (He.ga K "BadPicture"), (xfB K (He.ga K "BadPicture") && He.eqO (PySem.W.findIn K (.ref (He.ga K "BadPicture")) "reason") (some none)), decide (PySem.W.kitOne K (.ref (He.ga K "AskewError")) (.ref (He.ga K "AskewError")) = some true), decide (PySem.W.exmOne K (.ref (He.ga K "AskewError")) (.ref (He.ga K "BadPicture")) = some false), decide (PySem.W.kitOne K (.ref (He.ga K "AskewError")) (.ref (He.ga K "BadPicture")) = some false), decide (PySem.W.kitOne K (.ref (He.ga K "AskewError")) (.type "ValueError") = some true), decide (PySem.W.kitOne K (.ref (He.ga K "BadPicture")) (.ref (He.ga K "AskewError")) = some true), decide (PySem.W.exmOne K (.ref (He.ga K "BadPicture")) (.ref (He.ga K "BadPicture")) = some true), decide (PySem.W.kitOne K (.ref (He.ga K "BadPicture")) (.ref (He.ga K "BadPicture")) = some true), decide (PySem.W.kitOne K (.ref (He.ga K "BadPicture")) (.type "ValueError") = some true)]
def ex (K : PySem.W.Frag) : Bool := (exl0 K).all id
def names0_ : List Str := ["AskewError", "BadPicture", "is_whole", "MOST_SIDE", "MOST_LIGHT", "is_picture", "check_picture", "black_and_white", "is_light", "light_at", "lit", "greatest_along", "greatest_round", "unlit", "_law_numbers", "_law_marks", "_law_picture", "_law_light", "_law_lit", "_law_greatest", "_law_unlit", "_law_reason", "_law_refused_holds"]
def names : List Str := names0_
abbrev qv : Program := PySem.W.view R.prog [27]
abbrev hk : PySem.W.Hook := hookY 6 fa fn ins "/claim/cut.py" ex
def ob (s : PySem.W.SharedT) : AlY := obsY 6 fa fn ins "/claim/cut.py" ex (HandSHeadRun.getT s)
theorem ob_eq (s : PySem.W.SharedT) : ob s = hk.obs s.abs := obsY_eq (HandSHeadRun.getT_eq s)
theorem run (w : World) : HandSHeadRun.RunEq R qv hk ob 20000 names w := by
  intro os
  kernel_rfl
def clOf (K : PySem.W.Frag) : Str → Addr := fun x => He.ga K x
/-- which class is which -/
theorem allx {l : List Bool} (h : ∀ x ∈ l, id x = true) (i : Nat) {b : Bool} (e : l[i]? = some b := by rfl) : b = true := h b (List.mem_of_getElem? e)
theorem hd {w : World} {K : PySem.W.Frag} {h : Heap} {mg : Str → Option Value} {base : Heap} (X : K.In h) (G : h.Ns mainGlobals mg) (c : SaysY fa fn ins "/claim/cut.py" ex K) : Hd R.prog w K mg base (clOf K) where
  d_is_whole := c.fnE X G 0 0
  d_is_picture := c.fnE X G 1 1
  d_check_picture := c.fnE X G 2 2
  d_black_and_white := c.fnE X G 3 3
  d_is_light := c.fnE X G 4 4
  d_light_at := c.fnE X G 5 5
  d_lit := c.fnE X G 6 6
  d_greatest_along := c.fnE X G 7 7
  d_greatest_round := c.fnE X G 8 8
  d_unlit := c.fnE X G 9 9
  d__law_numbers := c.fnE X G 10 10
  d__law_marks := c.fnE X G 11 11
  d__law_picture := c.fnE X G 12 12
  d__law_light := c.fnE X G 13 13
  d__law_lit := c.fnE X G 14 14
  d__law_greatest := c.fnE X G 15 15
  d__law_unlit := c.fnE X G 16 16
  d__law_reason := c.fnE X G 17 17
  d__law_refused_holds := c.fnE X G 18 18
  d_law := c.fnE X G 19 19
  b_all := He.free_ok X G (c.fact 20)
  b_bool := He.free_ok X G (c.fact 21)
  b_enumerate := He.free_ok X G (c.fact 22)
  b_int := He.free_ok X G (c.fact 23)
  b_isinstance := He.free_ok X G (c.fact 24)
  b_len := He.free_ok X G (c.fact 25)
  b_list := He.free_ok X G (c.fact 26)
  b_max := He.free_ok X G (c.fact 27)
  b_min := He.free_ok X G (c.fact 28)
  b_range := He.free_ok X G (c.fact 29)
  b_repr := He.free_ok X G (c.fact 30)
  b_tuple := He.free_ok X G (c.fact 32)
  b_zip := He.free_ok X G (c.fact 33)
  c_MOST_LIGHT := by obtain ⟨t, h⟩ := He.int_ok X G (c.fact 37); exact GdK.int h
  c_MOST_SIDE := by obtain ⟨t, h⟩ := He.int_ok X G (c.fact 38); exact GdK.int h
  m_AskewError := He.glo_ok X G (c.fact 34)
  e_AskewError := errP_of X G (c.fact 36) (c.fact 34)
  m_BadPicture := He.glo_ok X G (c.fact 35)
  e_BadPicture := InD.erF (d := iD0 "BadPicture" "reason" "BadPicture.__init__" 2) (sn := "self") (xn := "reason") X G (c.ini 0).1 (c.ini 0).2 (He.free_ok X G (c.fact 31)) rfl (fun _ _ _ _ _ _ _ us hl => match us, hl with | [_, _], _ => rfl) (by decide +kernel) ⟨_, rfl, rfl⟩ rfl rfl rfl (by decide +kernel) (by decide +kernel) rfl rfl rfl rfl (by decide) (fun env => ⟨_, rfl⟩) (by decide) (by decide) (by decide) (by decide)
  xe := fun C hC => by
      simp only [errs, clOf, List.mem_cons, List.not_mem_nil, or_false] at hC
      rcases hC with rfl | rfl
      · exact excB_ok (allx (List.all_eq_true.mp c.more) 0)
      · exact excB_ok (allx (List.all_eq_true.mp c.more) 1)
  x_reason := fun C hC => by
      simp only [errs_reason, clOf, List.mem_cons, List.not_mem_nil, or_false] at hC
      rcases hC with rfl
      · exact ⟨xfB_ok (He.ba (allx (List.all_eq_true.mp c.more) 2)).1, He.eqO_ok (He.ba (allx (List.all_eq_true.mp c.more) 2)).2⟩
theorem cls {K : PySem.W.Frag} (c : SaysY fa fn ins "/claim/cut.py" ex K) : ErrT K (clOf K) where
  kit_AskewError_AskewError := of_decide_eq_true (allx (List.all_eq_true.mp c.more) 3)
  exm_AskewError_BadPicture := of_decide_eq_true (allx (List.all_eq_true.mp c.more) 4)
  kit_AskewError_BadPicture := of_decide_eq_true (allx (List.all_eq_true.mp c.more) 5)
  kit_AskewError_ValueError := of_decide_eq_true (allx (List.all_eq_true.mp c.more) 6)
  kit_BadPicture_AskewError := of_decide_eq_true (allx (List.all_eq_true.mp c.more) 7)
  exm_BadPicture_BadPicture := of_decide_eq_true (allx (List.all_eq_true.mp c.more) 8)
  kit_BadPicture_BadPicture := of_decide_eq_true (allx (List.all_eq_true.mp c.more) 9)
  kit_BadPicture_ValueError := of_decide_eq_true (allx (List.all_eq_true.mp c.more) 10)
theorem facts {w : World} {K : PySem.W.Frag} {h : Heap} {mg : Str → Option Value} {f : Addr} (X : K.In h) (G : h.Ns mainGlobals mg) (hfa : mg ("law" : Str) = some (.ref f)) (c : SaysY fa fn ins "/claim/cut.py" ex K) :
    ∃ fd : FuncData, (∀ (s : Shared) (v : Value), BindsTo s fd ⟨[v], []⟩ [("script", v)]) ∧ ∀ base : Heap, K.In base → base.Ns mainGlobals mg → FnG R.prog w K mg base 9 f fd ["script"] (spLaw K) := by
  obtain ⟨fd, F⟩ := c.def_ 19
  have e := hfa.symm.trans (He.glo_ok X G (c.fact 19 (f := .glo "law")))
  cases e
  have b := FunD.bindsA (ps := ["script"]) F fun _ _ _ _ _ _ us hl => match us, hl with | [_], _ => rfl
  refine ⟨fd, fun s v => b s [v] rfl, fun base _ _ => ?_⟩
  exact w_law (hd (w := w) (base := base) X G c) F (law_true K (clOf K) (cls c))
end LawW
open PySem PySem.W PySem.Calls PyProof.Rows
theorem PySem.Challenge.cw_askewread_k44_light_and_shade_holds : PySem.Challenge.rw_askewread_k44_light_and_shade.Holds := by
  w_on; o_law
  refine HandSHeadRun.head_any (r := OpenLaw.row PySem.Challenge.rw_askewread_k44_light_and_shade) (q := LawW.qv) (H := LawW.hk) (ob := LawW.ob) (M := 20000) (loose := LawW.names) (d := HandSHeadRun.topDef (OpenLaw.row PySem.Challenge.rw_askewread_k44_light_and_shade).prog 27) (kwd := []) LawW.ob_eq
    (by kernel_rfl) (fun s => by kernel_rfl) LawW.run (by kernel_rfl) (by kernel_rfl) (by kernel_rfl) (by rfl) (by first | assumption | decide +kernel) (by decide +kernel) ⟨rfl, rfl, rfl, rfl, rfl, by decide +kernel⟩ ?hw ?hc
  case hw => w_witness2
  case hc =>
    refine DL.walkG (l := PySem.Challenge.rw_askewread_k44_light_and_shade) (n := 63) (k := 9) (x := "script") rfl (by decide) (by kernel_rfl) ⟨rfl, by decide, by decide⟩ ?F
    intro w mg fa h Y G hmg0
    obtain ⟨K, KX, c⟩ := Y
    have hmg : mg ("law" : PySem.Str) = some (.ref fa) := by
      have e : (HandSHeadRun.topDef (OpenLaw.row PySem.Challenge.rw_askewread_k44_light_and_shade).prog 27).name = ("law" : PySem.Str) := by kernel_rfl
      rw [← e]
      exact hmg0
    obtain ⟨fd, hb, hF⟩ := LawW.facts (w := w) KX G hmg c
    exact ⟨K, fd, DL.spLaw K, KX, hb, fun H a ns hl hS => DL.law_sp hl hS, hF⟩

