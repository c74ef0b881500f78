import PyProof.Rows.All
import Wide.All
import OpenK.AllK
import Wide.FinOn
import HandS.ForExc
import HandS.ForMost
import HandS.Walk
import HandS.Defaults
import HandS.CallSlots
import HandS.ExcCtx
import HandS.HotCalls
import HandS.ExcInit
import HandS.ExcInitHot
import HandS.ExcIs
import KE.KExcIs
import HandS.ExcField
import HandS.IsInst
import HandS.HeadHook1
import HandS.HeadHook2
import HandS.TupAny
import HandS.Deep
import HandS.Wide
import HandS.WideBits
import HandS.Style
import HandS.SortInts
import KE.KTupSum
import HandS.Zip
import HandS.Rev
import KE.KStateDown
import Lean
import HandS.Base
import HandS.More
import HandS.Head0
import HandS.Head1
import HandS.Head2
import HandS.HeadEnd
import HandS.HeadHook3
import HandS.HeadHook4
import PySem.Challenge.RW_lastslips_k03_ways_and_arrangements
set_option Elab.async false
set_option linter.all false
set_option maxRecDepth 100000
/-! DL: data of any depth over the hand layer: what a def computes, as a plain function of data. -/
namespace DL
open PySem PySem.Spec PyProof.Rows L2
abbrev Frag := PySem.W.Frag

/-- data -/
inductive D where
  | non | bl (b : Bool) | int (i : Int) | str (x : Str) | ty (n : String) | adr (a : Addr)
  | lst (xs : List D) | tup (xs : List D) | scr (is : List Int) | cls (c : Str)
  | ins (c : Str) (ns : List Str) (ds : List D) | exc (c : Str) (ns : List Str) (ds : List D)

/-- whose an address is: not of this def; frozen; slot i's own -/
inductive Tg where
  | out | fz | own (i : Nat)
  deriving DecidableEq
abbrev Om := Addr → Tg
/-- the exception held in a suite: its address, its class's name, its own dict -/
abbrev Xi := Option (Addr × Str × Option Addr)

def KT (K : Frag) (a : Addr) (xs : List V) : Prop := ∃ (o : Obj) (its : Array Value) (n : Nat), K.lookup a = some o ∧ o.cls = .type "tuple" ∧ o.data = .seq its n ∧ its.size ≤ sizeLine ∧ Vals xs its.toList
def NdL (ω : Om) (H : Hp) (a : Addr) (xs : List V) : Prop := ω a = .fz ∧ H a = some (.lst xs)
def NdT (K : Frag) (ω : Om) (H : Hp) (a : Addr) (xs : List V) : Prop := (ω a = .fz ∧ H a = some (.tup xs)) ∨ KT K a xs
def NdS (K : Frag) (ω : Om) (H : Hp) (a : Addr) (xs : List V) : Prop := (ω a = .fz ∧ Rd H a (.lst xs)) ∨ ∀ H', SqL K H' a xs
theorem NdL.sq {K : Frag} {ω : Om} {H : Hp} {a : Addr} {xs : List V} (h : NdL ω H a xs) : SqL K H a xs := SqL.of h.2
theorem NdS.sq {K : Frag} {ω : Om} {H : Hp} {a : Addr} {xs : List V} (h : NdS K ω H a xs) : SqL K H a xs := h.elim (fun z => .inl z.2) fun z => z H
theorem NdT.sq {K : Frag} {ω : Om} {H : Hp} {a : Addr} {xs : List V} (h : NdT K ω H a xs) : SqT K H a xs := h.imp (fun z => .inl z.2) id

mutual
/-- v stands for d; what it is made of is frozen -/
def Is (K : Frag) (ω : Om) (H : Hp) (xi : Xi) : D → V → Prop
  | .non, v => v = .non
  | .bl b, v => v = .bl b
  | .int i, v => v = .int i
  | .str x, v => v = .str x
  | .ty n, v => v = .ty n
  | .adr a, v => v = .ref a
  | .cls c, v => v = .ref (He.ga K c)
  | .lst ds, v => ∃ a vs, v = .ref a ∧ NdL ω H a vs ∧ IsL K ω H xi ds vs
  | .tup ds, v => ∃ a vs, v = .ref a ∧ NdT K ω H a vs ∧ IsL K ω H xi ds vs
  | .scr is, v => ∃ a, v = .ref a ∧ NdS K ω H a (is.map V.int)
  | .ins c ns ds, v => ∃ a dx vs, v = .ref a ∧ ω a = .fz ∧ H a = some (.ins (He.ga K c) dx (ns.zip vs)) ∧ ns.length = vs.length ∧ IsL K ω H xi ds vs
  | .exc c ns ds, v => ∃ a, v = .ref a ∧ ∀ a' c' d', xi = some (a', c', d') → a' = a ∧ c' = c ∧ ((ns = [] ∧ ds = [] ∧ d' = none) ∨ ∃ e vs, d' = some e ∧ ω e = .fz ∧ H e = some (.xd (ns.zip vs)) ∧ ns.length = vs.length ∧ IsL K ω H xi ds vs)
def IsL (K : Frag) (ω : Om) (H : Hp) (xi : Xi) : List D → List V → Prop
  | [], vs => vs = []
  | d :: ds, vs => ∃ v r, vs = v :: r ∧ Is K ω H xi d v ∧ IsL K ω H xi ds r
end

structure Ext (ω : Om) (H : Hp) (ω' : Om) (H' : Hp) : Prop where
  fz : ∀ b, ω b = .fz → ω' b = .fz ∧ H' b = H b
  out : ∀ b o, H b = some o → ω b = .out → ω' b = .out ∧ H' b = some o
theorem Ext.refl (ω : Om) (H : Hp) : Ext ω H ω H := ⟨fun _ h => ⟨h, rfl⟩, fun _ _ h h' => ⟨h', h⟩⟩
theorem Ext.trans {ω ω1 ω2 : Om} {H H1 H2 : Hp} (a : Ext ω H ω1 H1) (b : Ext ω1 H1 ω2 H2) : Ext ω H ω2 H2 :=
  ⟨fun c h => ⟨(b.fz c (a.fz c h).1).1, ((b.fz c (a.fz c h).1).2).trans (a.fz c h).2⟩, fun c o h h' => b.out c o (a.out c o h h').2 (a.out c o h h').1⟩
/-- the frozen part alone -/
def Fz (ω : Om) (H : Hp) (ω' : Om) (H' : Hp) : Prop := ∀ b, ω b = .fz → ω' b = .fz ∧ H' b = H b
theorem Rd.mono {H H' : Hp} {a : Addr} {u : HO} (e : H' a = H a) (h : Rd H a u) : Rd H' a u := h.imp (fun z => e.trans z) fun ⟨o, z⟩ => ⟨o, e.trans z⟩
section
variable {K : Frag} {ω ω' : Om} {H H' : Hp} {xi : Xi}
theorem NdL.mono (f : Fz ω H ω' H') {a : Addr} {xs : List V} (h : NdL ω H a xs) : NdL ω' H' a xs := ⟨(f a h.1).1, (f a h.1).2.trans h.2⟩
theorem NdS.mono (f : Fz ω H ω' H') {a : Addr} {xs : List V} (h : NdS K ω H a xs) : NdS K ω' H' a xs := h.imp (fun z => ⟨(f a z.1).1, Rd.mono (f a z.1).2 z.2⟩) id
theorem NdT.mono (f : Fz ω H ω' H') {a : Addr} {xs : List V} (h : NdT K ω H a xs) : NdT K ω' H' a xs := h.imp (fun z => ⟨(f a z.1).1, (f a z.1).2.trans z.2⟩) id
mutual
theorem Is.mono (f : Fz ω H ω' H') : ∀ {d : D} {v : V}, Is K ω H xi d v → Is K ω' H' xi d v
  | .non, _, h => h
  | .bl _, _, h => h
  | .int _, _, h => h
  | .str _, _, h => h
  | .ty _, _, h => h
  | .adr _, _, h => h
  | .cls _, _, h => h
  | .lst ds, _, h => by
    obtain ⟨a, vs, e, n, l⟩ := h
    exact ⟨a, vs, e, n.mono f, IsL.mono f l⟩
  | .tup ds, _, h => by
    obtain ⟨a, vs, e, n, l⟩ := h
    exact ⟨a, vs, e, n.mono f, IsL.mono f l⟩
  | .scr _, _, h => by
    obtain ⟨a, e, n⟩ := h
    exact ⟨a, e, n.mono f⟩
  | .ins c ns ds, _, h => by
    obtain ⟨a, dx, vs, e, n, q, z, l⟩ := h
    exact ⟨a, dx, vs, e, (f a n).1, (f a n).2.trans q, z, IsL.mono f l⟩
  | .exc c ns ds, _, h => by
    obtain ⟨a, e, x⟩ := h
    refine ⟨a, e, fun a' c' d' z => ?_⟩
    obtain ⟨z1, z2, q⟩ := x a' c' d' z
    refine ⟨z1, z2, q.imp id ?_⟩
    rintro ⟨b, vs, e1, n, q, z, l⟩
    exact ⟨b, vs, e1, (f b n).1, (f b n).2.trans q, z, IsL.mono f l⟩
theorem IsL.mono (f : Fz ω H ω' H') : ∀ {ds : List D} {vs : List V}, IsL K ω H xi ds vs → IsL K ω' H' xi ds vs
  | [], _, h => h
  | d :: ds, _, h => by
    obtain ⟨v, r, e, h1, h2⟩ := h
    exact ⟨v, r, e, Is.mono f h1, IsL.mono f h2⟩
end
mutual
/-- no exception within -/
def plain : D → Bool
  | .lst ds => plainL ds
  | .tup ds => plainL ds
  | .ins _ _ ds => plainL ds
  | .exc _ _ _ => false
  | _ => true
def plainL : List D → Bool
  | [] => true
  | d :: ds => plain d && plainL ds
end
theorem Ext.f (e : Ext ω H ω' H') : Fz ω H ω' H' := e.fz
mutual
theorem Is.plain {xi' : Xi} : ∀ {d : D} {v : V}, DL.plain d = true → Is K ω H xi d v → Is K ω H xi' d v
  | .non, _, _, h => h
  | .bl _, _, _, h => h
  | .int _, _, _, h => h
  | .str _, _, _, h => h
  | .ty _, _, _, h => h
  | .adr _, _, _, h => h
  | .cls _, _, _, h => h
  | .lst ds, _, p, h => by
    obtain ⟨a, vs, e, n, l⟩ := h
    exact ⟨a, vs, e, n, IsL.plain (by simpa [DL.plain] using p) l⟩
  | .tup ds, _, p, h => by
    obtain ⟨a, vs, e, n, l⟩ := h
    exact ⟨a, vs, e, n, IsL.plain (by simpa [DL.plain] using p) l⟩
  | .scr _, _, _, h => h
  | .ins c ns ds, _, p, h => by
    obtain ⟨a, dx, vs, e, n, q, z, l⟩ := h
    exact ⟨a, dx, vs, e, n, q, z, IsL.plain (by simpa [DL.plain] using p) l⟩
  | .exc c ns ds, _, p, h => by simp [DL.plain] at p
theorem IsL.plain {xi' : Xi} : ∀ {ds : List D} {vs : List V}, plainL ds = true → IsL K ω H xi ds vs → IsL K ω H xi' ds vs
  | [], _, _, h => h
  | d :: ds, _, p, h => by
    obtain ⟨v, r, e, h1, h2⟩ := h
    unfold plainL at p
    obtain ⟨p1, p2⟩ := Bool.and_eq_true_iff.mp p
    exact ⟨v, r, e, Is.plain p1 h1, IsL.plain p2 h2⟩
end
mutual
theorem Is.weak : ∀ {d : D} {v : V}, Is K ω H xi d v → Is K ω H none d v
  | .non, _, h => h
  | .bl _, _, h => h
  | .int _, _, h => h
  | .str _, _, h => h
  | .ty _, _, h => h
  | .adr _, _, h => h
  | .cls _, _, h => h
  | .lst ds, _, h => by
    obtain ⟨a, vs, e, n, l⟩ := h
    exact ⟨a, vs, e, n, IsL.weak l⟩
  | .tup ds, _, h => by
    obtain ⟨a, vs, e, n, l⟩ := h
    exact ⟨a, vs, e, n, IsL.weak l⟩
  | .scr _, _, h => h
  | .ins c ns ds, _, h => by
    obtain ⟨a, dx, vs, e, n, q, z, l⟩ := h
    exact ⟨a, dx, vs, e, n, q, z, IsL.weak l⟩
  | .exc c ns ds, _, h => by
    obtain ⟨a, e, _⟩ := h
    exact ⟨a, e, fun _ _ _ z => by cases z⟩
theorem IsL.weak : ∀ {ds : List D} {vs : List V}, IsL K ω H xi ds vs → IsL K ω H none ds vs
  | [], _, h => h
  | d :: ds, _, h => by
    obtain ⟨v, r, e, h1, h2⟩ := h
    exact ⟨v, r, e, Is.weak h1, IsL.weak h2⟩
end
theorem IsL.length : ∀ {ds : List D} {vs : List V}, IsL K ω H xi ds vs → vs.length = ds.length
  | [], _, h => by rw [show _ = ([] : List V) from h] <;> rfl
  | d :: ds, _, h => by
    obtain ⟨v, r, e, _, h2⟩ := h
    rw [e, List.length_cons, List.length_cons, IsL.length h2]
theorem IsL.get : ∀ {ds : List D} {vs : List V}, IsL K ω H xi ds vs → ∀ {i : Nat} {d : D}, ds[i]? = some d → ∃ v, vs[i]? = some v ∧ Is K ω H xi d v
  | [], _, _, _, _, e => by simp at e
  | d :: ds, _, h, 0, x, e => by
    obtain ⟨v, r, rfl, h1, h2⟩ := h
    simp at e
    subst e
    exact ⟨v, by simp, h1⟩
  | d :: ds, _, h, i + 1, x, e => by
    obtain ⟨v, r, rfl, h1, h2⟩ := h
    obtain ⟨u, q1, q2⟩ := IsL.get h2 (i := i) (d := x) (by simpa using e)
    exact ⟨u, by simpa using q1, q2⟩
theorem IsL.getV {ds : List D} {vs : List V} (h : IsL K ω H xi ds vs) {i : Nat} {v : V} (e : vs[i]? = some v) : ∃ d, ds[i]? = some d ∧ Is K ω H xi d v := by
  have hl := h.length
  obtain ⟨hi, _⟩ := List.getElem?_eq_some_iff.mp e
  have hd : ds[i]? = some (ds[i]'(by omega)) := List.getElem?_eq_getElem (by omega)
  obtain ⟨u, q1, q2⟩ := h.get hd
  rw [e] at q1
  cases q1
  exact ⟨_, hd, q2⟩
theorem IsL.append : ∀ {ds es : List D} {vs ws : List V}, IsL K ω H xi ds vs → IsL K ω H xi es ws → IsL K ω H xi (ds ++ es) (vs ++ ws)
  | [], _, _, _, h, q => by rw [show _ = ([] : List V) from h]; exact q
  | d :: ds, es, _, _, h, q => by
    obtain ⟨v, r, rfl, h1, h2⟩ := h
    exact ⟨v, r ++ _, rfl, h1, IsL.append h2 q⟩
theorem IsL.one {d : D} {v : V} (h : Is K ω H xi d v) : IsL K ω H xi [d] [v] := ⟨v, [], rfl, h, rfl⟩
theorem IsL.take : ∀ {ds : List D} {vs : List V} (n : Nat), IsL K ω H xi ds vs → IsL K ω H xi (ds.take n) (vs.take n)
  | _, _, 0, _ => by simp [IsL]
  | [], _, n + 1, h => by rw [show _ = ([] : List V) from h]; simp [IsL]
  | d :: ds, _, n + 1, h => by
    obtain ⟨v, r, rfl, h1, h2⟩ := h
    exact ⟨v, r.take n, rfl, h1, IsL.take n h2⟩
theorem IsL.drop : ∀ {ds : List D} {vs : List V} (n : Nat), IsL K ω H xi ds vs → IsL K ω H xi (ds.drop n) (vs.drop n)
  | _, _, 0, h => h
  | [], _, n + 1, h => by rw [show _ = ([] : List V) from h]; simp [IsL]
  | d :: ds, _, n + 1, h => by
    obtain ⟨v, r, rfl, h1, h2⟩ := h
    exact IsL.drop n h2
theorem IsL.set {d : D} {v : V} (q : Is K ω H xi d v) : ∀ {ds : List D} {vs : List V} (n : Nat), IsL K ω H xi ds vs → IsL K ω H xi (ds.set n d) (vs.set n v)
  | [], _, n, h => by rw [show _ = ([] : List V) from h]; simp [IsL]
  | e :: ds, _, 0, h => by
    obtain ⟨u, r, rfl, h1, h2⟩ := h
    exact ⟨v, r, rfl, q, h2⟩
  | e :: ds, _, n + 1, h => by
    obtain ⟨u, r, rfl, h1, h2⟩ := h
    exact ⟨u, r.set n v, rfl, h1, IsL.set q n h2⟩
theorem IsL.of_get : ∀ {ds : List D} {vs : List V}, vs.length = ds.length → (∀ (i : Nat) (d : D) (v : V), ds[i]? = some d → vs[i]? = some v → Is K ω H xi d v) → IsL K ω H xi ds vs
  | [], vs, h, _ => List.eq_nil_of_length_eq_zero (by simpa using h)
  | d :: ds, [], h, _ => by simp at h
  | d :: ds, v :: vs, h, q => ⟨v, vs, rfl, q 0 d v (by simp) (by simp), IsL.of_get (by simpa using h) fun i e u h1 h2 => q (i + 1) e u (by simpa using h1) (by simpa using h2)⟩
theorem IsL.mapV {α : Type} {f : α → D} {g : α → V} (h : ∀ x, Is K ω H xi (f x) (g x)) : ∀ l : List α, IsL K ω H xi (l.map f) (l.map g)
  | [] => rfl
  | x :: l => ⟨g x, l.map g, rfl, h x, IsL.mapV h l⟩
end

/-! ### slots -/
abbrev DSt := List (Option (Nat × D))
/-- pinned slots (parameters whose list the def may change), the held exception -/
structure Gm where
  M : List (Nat × V) := []
  idx : List Nat := []
  ok : ∀ q ∈ M, q.1 ∈ idx := by simp
  xi : Xi := none

def Sl (K : Frag) (ω : Om) (H : Hp) (xi : Xi) (i : Nat) : Option (Nat × D) → Option V → Prop
  | none, _ => True
  | some (0, d), w => ∃ v, w = some v ∧ Is K ω H xi d v
  | some (1, d), w => ∃ a vs ds, w = some (.ref a) ∧ d = .lst ds ∧ ω a = .own i ∧ H a = some (.lst vs) ∧ IsL K ω H xi ds vs
  | some (_ + 2, _), _ => False

structure Rel (K : Frag) (Γ : Gm) (ω : Om) (H : Hp) (σ : L2.St) (δ : DSt) : Prop where
  wf : ∀ b, ω b ≠ .out → ∃ o, H b = some o
  len : σ.length = δ.length
  sl : ∀ i e, δ[i]? = some e → Sl K ω H Γ.xi i e (σ[i]?.join)
  pin : ∀ q ∈ Γ.M, σ[q.1]? = some (some q.2)

/-- a value on the way: data, or what slot i refers to -/
inductive Vl where
  | fz (d : D) | sl (i : Nat)
def IsV (K : Frag) (Γ : Gm) (ω : Om) (H : Hp) (σ : L2.St) : Vl → V → Prop
  | .fz d, v => Is K ω H Γ.xi d v
  | .sl i, v => σ[i]? = some (some v)
theorem IsV.mono {K : Frag} {Γ : Gm} {ω ω' : Om} {H H' : Hp} {σ : L2.St} (f : Fz ω H ω' H') : ∀ {x : Vl} {v : V}, IsV K Γ ω H σ x v → IsV K Γ ω' H' σ x v
  | .fz _, _, h => Is.mono f h
  | .sl _, _, h => h

/-- the data of a value -/
def dr (δ : DSt) : Vl → Option D
  | .fz d => some d
  | .sl i => match δ[i]? with
    | some (some (_, d)) => some d
    | _ => none
/-- the data of a value that is to be kept: what a slot owns is frozen -/
def frz (δ : DSt) : Vl → Option (D × DSt)
  | .fz d => some (d, δ)
  | .sl i => match δ[i]? with
    | some (some (_, d)) => some (d, δ.set i (some (0, d)))
    | _ => none

/-- a value that may be read as d -/
def Rb (K : Frag) (ω : Om) (H : Hp) (xi : Xi) (d : D) (v : V) : Prop := Is K ω H xi d v ∨ ∃ a vs ds, v = .ref a ∧ d = .lst ds ∧ H a = some (.lst vs) ∧ IsL K ω H xi ds vs
section
variable {K : Frag} {Γ : Gm} {ω ω' : Om} {H H' : Hp} {σ : L2.St} {δ δ' : DSt} {xi : Xi}
theorem Rb.lst {ds : List D} {v : V} (h : Rb K ω H xi (.lst ds) v) : ∃ a vs, v = .ref a ∧ SqL K H a vs ∧ IsL K ω H xi ds vs := by
  rcases h with ⟨a, vs, e, n, l⟩ | ⟨a, vs, es, e, e2, h, l⟩
  · exact ⟨a, vs, e, n.sq, l⟩
  · cases e2
    exact ⟨a, vs, e, SqL.of h, l⟩
theorem Rb.lstH {ds : List D} {v : V} (h : Rb K ω H xi (.lst ds) v) : ∃ a vs, v = .ref a ∧ H a = some (.lst vs) ∧ IsL K ω H xi ds vs := by
  rcases h with ⟨a, vs, e, n, l⟩ | ⟨a, vs, es, e, e2, h, l⟩
  · exact ⟨a, vs, e, n.2, l⟩
  · cases e2
    exact ⟨a, vs, e, h, l⟩
theorem Rb.scr {is : List Int} {v : V} (h : Rb K ω H xi (.scr is) v) : ∃ a, v = .ref a ∧ SqL K H a (is.map V.int) := by
  rcases h with ⟨a, e, n⟩ | ⟨a, vs, es, e, e2, h, l⟩
  · exact ⟨a, e, n.sq⟩
  · cases e2
theorem Rb.tup {ds : List D} {v : V} (h : Rb K ω H xi (.tup ds) v) : ∃ a vs, v = .ref a ∧ NdT K ω H a vs ∧ SqT K H a vs ∧ IsL K ω H xi ds vs := by
  rcases h with ⟨a, vs, e, n, l⟩ | ⟨a, vs, es, e, e2, h, l⟩
  · exact ⟨a, vs, e, n, n.sq, l⟩
  · cases e2
theorem Rb.is {d : D} {v : V} (h : Rb K ω H xi d v) (hl : ∀ ds, d ≠ .lst ds) : Is K ω H xi d v := by
  rcases h with h | ⟨a, vs, es, e, e2, h, l⟩
  · exact h
  · exact absurd e2 (hl es)
theorem Rb.int {i : Int} {v : V} (h : Rb K ω H xi (.int i) v) : v = .int i := h.is fun _ => D.noConfusion
theorem Rb.str {i : Str} {v : V} (h : Rb K ω H xi (.str i) v) : v = .str i := h.is fun _ => D.noConfusion
theorem Rb.bl {i : Bool} {v : V} (h : Rb K ω H xi (.bl i) v) : v = .bl i := h.is fun _ => D.noConfusion
theorem Rb.non {v : V} (h : Rb K ω H xi .non v) : v = .non := h.is fun _ => D.noConfusion
theorem slot_some {i : Nat} {v : V} (h : σ[i]? = some (some v)) : σ[i]?.join = some v := by rw [h] <;> rfl
theorem slot_of {i : Nat} {v : V} (h : σ[i]?.join = some v) : σ[i]? = some (some v) := by
  cases e : σ[i]? with
  | none => rw [e] at h; cases h
  | some w => rw [e] at h; exact congrArg some h
theorem dr_ok (R : Rel K Γ ω H σ δ) {x : Vl} {v : V} {d : D} (h : IsV K Γ ω H σ x v) (e : dr δ x = some d) : Rb K ω H Γ.xi d v := by
  cases x with
  | fz d' => cases e; exact .inl h
  | sl i =>
    unfold dr at e
    cases q : δ[i]? with
    | none => simp [q] at e
    | some r =>
      cases r with
      | none => simp [q] at e
      | some r =>
        obtain ⟨l, d'⟩ := r
        simp [q] at e
        subst e
        have s := R.sl i _ q
        rw [slot_some (show σ[i]? = some (some v) from h)] at s
        match l, s with
        | 0, ⟨w, e1, s1⟩ => cases e1; exact .inl s1
        | 1, ⟨a, vs, ds, e1, e2, _, s1, t⟩ => cases e1; exact .inr ⟨a, vs, ds, rfl, e2, s1, t⟩
/-- the tags with slot i's frozen -/
def frO (ω : Om) (i : Nat) : Om := fun b => if ω b = .own i then .fz else ω b
theorem frO_ext (i : Nat) : Ext ω H (frO ω i) H :=
  ⟨fun b h => ⟨by unfold frO; rw [if_neg (by rw [h]; intro z; cases z)]; exact h, rfl⟩, fun b o h h' => ⟨by unfold frO; rw [if_neg (by rw [h']; intro z; cases z)]; exact h', h⟩⟩
theorem Sl.mono (f : Fz ω H ω' H') {i : Nat} {e : Option (Nat × D)} {w : Option V} (h : Sl K ω H xi i e w) (g : ∀ b, ω b = .own i → ω' b = .own i ∧ H' b = H b) : Sl K ω' H' xi i e w := by
  match e, h with
  | none, _ => trivial
  | some (0, d), ⟨v, e, h⟩ => exact ⟨v, e, h.mono f⟩
  | some (1, d), ⟨a, vs, ds, e, e2, o, h, l⟩ => exact ⟨a, vs, ds, e, e2, (g a o).1, (g a o).2.trans h, l.mono f⟩
theorem frz_ok (R : Rel K Γ ω H σ δ) {x : Vl} {v : V} {d : D} (h : IsV K Γ ω H σ x v) (e : frz δ x = some (d, δ')) : ∃ ω', Ext ω H ω' H ∧ Rel K Γ ω' H σ δ' ∧ Is K ω' H Γ.xi d v := by
  cases x with
  | fz d' => cases e; exact ⟨ω, Ext.refl _ _, R, h⟩
  | sl i =>
    unfold frz at e
    cases q : δ[i]? with
    | none => simp [q] at e
    | some r =>
      cases r with
      | none => simp [q] at e
      | some r =>
        obtain ⟨l, d'⟩ := r
        simp only [q, Option.some.injEq, Prod.mk.injEq] at e
        obtain ⟨rfl, rfl⟩ := e
        have s := R.sl i _ q
        have hj := slot_some (show σ[i]? = some (some v) from h)
        rw [hj] at s
        have X := frO_ext (ω := ω) (H := H) i
        have isd : Is K (frO ω i) H Γ.xi d' v := by
          match l, s with
          | 0, ⟨w, e1, s1⟩ => cases e1; exact s1.mono X.f
          | 1, ⟨a, vs, ds, e1, e2, o, s1, t⟩ =>
            cases e1
            rw [e2]
            exact ⟨a, vs, rfl, ⟨by unfold frO; rw [if_pos o], s1⟩, t.mono X.f⟩
        refine ⟨frO ω i, X, ⟨fun b hb => R.wf b fun z => hb (by unfold frO; rw [if_neg (by rw [z]; intro z; cases z)]; exact z), by rw [R.len, List.length_set], fun j e hj' => ?_, R.pin⟩, isd⟩
        by_cases hij : i = j
        · subst hij
          rw [List.getElem?_set_self (List.getElem?_eq_some_iff.mp q).1] at hj'
          cases hj'
          exact ⟨v, hj, isd⟩
        · rw [List.getElem?_set_ne hij] at hj'
          refine (R.sl j e hj').mono X.f fun b hb => ⟨?_, rfl⟩
          unfold frO
          rw [if_neg (by rw [hb]; intro z; cases z; exact hij rfl)]
          exact hb
end
end DL

set_option Elab.async false
set_option linter.all false
set_option maxRecDepth 100000
namespace DL
open PySem PySem.Spec PyProof.Rows L2
/-- what comes of a piece of code: a result and the slots, an exception, or nothing that is known -/
inductive R (α : Type) where
  | ok (a : α) (δ : DSt) | exc (c : Str) (ns : List Str) (ds : List D) (δ : DSt) | stuck
def R.bind {α β : Type} : R α → (α → DSt → R β) → R β
  | .ok a δ, f => f a δ
  | .exc c ns ds δ, _ => .exc c ns ds δ
  | .stuck, _ => .stuck
abbrev TD := DSt → R Vl
abbrev TDT := DSt → R Bool
abbrev TDA := DSt → R (List Vl)
/-- an exception's own dict -/
def XIs (K : Frag) (Γ : Gm) (ω : Om) (H : Hp) (ns : List Str) (ds : List D) (d : Option Addr) : Prop :=
  (ns = [] ∧ ds = [] ∧ d = none) ∨ ∃ e vs, d = some e ∧ ω e = .fz ∧ H e = some (.xd (ns.zip vs)) ∧ ns.length = vs.length ∧ IsL K ω H Γ.xi ds vs
/-- what is wanted behind: by the result -/
def okR {α β : Type} (K : Frag) (Γ : Gm) (W : WX) (ω : Om) (H : Hp) (σ : L2.St) (rel : Om → Hp → L2.St → α → β → Prop) : R α → (β → Hp → Prop) → Prop
  | .ok x δ', Q => ∀ v H' ω', Ext ω H ω' H' → Rel K Γ ω' H' σ δ' → rel ω' H' σ x v → Q v H'
  | .exc c ns ds δ', _ => ∀ d H' ω', Ext ω H ω' H' → Rel K Γ ω' H' σ δ' → XIs K Γ ω' H' ns ds d → W (.ref (He.ga K c)) d σ H'
  | .stuck, _ => False
def rlV (K : Frag) (Γ : Gm) : Om → Hp → L2.St → Vl → V → Prop := fun ω H σ x v => IsV K Γ ω H σ x v
def rlB : Om → Hp → L2.St → Bool → Bool → Prop := fun _ _ _ x v => v = x
def IsVs (K : Frag) (Γ : Gm) (ω : Om) (H : Hp) (σ : L2.St) : List Vl → List V → Prop
  | [], vs => vs = []
  | x :: xs, vs => ∃ v r, vs = v :: r ∧ IsV K Γ ω H σ x v ∧ IsVs K Γ ω H σ xs r
theorem IsVs.mono {K : Frag} {Γ : Gm} {ω ω' : Om} {H H' : Hp} {σ : L2.St} (f : Fz ω H ω' H') : ∀ {xs : List Vl} {vs : List V}, IsVs K Γ ω H σ xs vs → IsVs K Γ ω' H' σ xs vs
  | [], _, h => h
  | x :: xs, _, h => by
    obtain ⟨v, r, e, h1, h2⟩ := h
    exact ⟨v, r, e, h1.mono f, IsVs.mono f h2⟩
abbrev okV (K : Frag) (Γ : Gm) (W : WX) (ω : Om) (H : Hp) (σ : L2.St) : R Vl → VK → Prop := okR K Γ W ω H σ (rlV K Γ)
abbrev okB (K : Frag) (Γ : Gm) (W : WX) (ω : Om) (H : Hp) (σ : L2.St) : R Bool → (Bool → Hp → Prop) → Prop := okR K Γ W ω H σ rlB
abbrev okA (K : Frag) (Γ : Gm) (W : WX) (ω : Om) (H : Hp) (σ : L2.St) : R (List Vl) → (List V → Hp → Prop) → Prop := okR K Γ W ω H σ fun ω H σ xs vs => IsVs K Γ ω H σ xs vs
/-- lifted: where the slots stand for data of which t tells -/
def up {α β : Type} (K : Frag) (Γ : Gm) (W : WX) (rel : Om → Hp → L2.St → α → β → Prop) (t : DSt → R α) : L2.St → Hp → (β → Hp → Prop) → Prop := fun σ H Q => ∃ ω δ, Rel K Γ ω H σ δ ∧ okR K Γ W ω H σ rel (t δ) Q
abbrev upE (K : Frag) (Γ : Gm) (W : WX) (t : TD) : TE := up K Γ W (rlV K Γ) t
abbrev upT (K : Frag) (Γ : Gm) (W : WX) (t : TDT) : TT := up K Γ W rlB t
abbrev upA (K : Frag) (Γ : Gm) (W : WX) (t : TDA) : TA := up K Γ W (fun ω H σ xs vs => IsVs K Γ ω H σ xs vs) t

structure DE (X : Cx) (Γ : Gm) (e : Expr) (t : TD) : Prop where
  run : ∀ W, L2N.Takes X W → PE X e (upE X.K Γ W t)
structure DT (X : Cx) (Γ : Gm) (e : Expr) (t : TDT) : Prop where
  run : ∀ W, L2N.Takes X W → PT X e (upT X.K Γ W t)
structure DW (X : Cx) (Γ : Gm) (e : Expr) (t : TDT) : Prop where
  run : ∀ W, L2N.Takes X W → PW X e (upT X.K Γ W t)
structure DA (X : Cx) (Γ : Gm) (es : List Expr) (t : TDA) : Prop where
  run : ∀ W, L2N.Takes X W → PA X es (upA X.K Γ W t)
theorem PE.imp {X : Cx} {e : Expr} {t t' : TE} (h : PE X e t) (k : ∀ σ H Q, t' σ H Q → t σ H Q) : PE X e t' := ⟨fun p s σ H Q I q => h.run p s σ H Q I (k σ H Q q)⟩
theorem PT.imp {X : Cx} {e : Expr} {t t' : TT} (h : PT X e t) (k : ∀ σ H Q, t' σ H Q → t σ H Q) : PT X e t' := ⟨fun p s σ H Q I q => h.run p s σ H Q I (k σ H Q q)⟩
theorem PW.imp {X : Cx} {e : Expr} {t t' : TT} (h : PW X e t) (k : ∀ σ H Q, t' σ H Q → t σ H Q) : PW X e t' := ⟨fun w p s σ H Q I q => h.run w p s σ H Q I (k σ H Q q)⟩
theorem PA.imp {X : Cx} {e : List Expr} {t t' : TA} (h : PA X e t) (k : ∀ σ H Q, t' σ H Q → t σ H Q) : PA X e t' := ⟨fun w p s σ H Q I q => h.run w p s σ H Q I (k σ H Q q)⟩
theorem PS.imp {X : Cx} {e : Stmt} {t t' : TS} (h : PS X e t) (k : ∀ D σ H, t' D σ H → t D σ H) : PS X e t' := ⟨fun p s σ H D I q => h.run p s σ H D I (k D σ H q)⟩
theorem PSs.imp {X : Cx} {e : List Stmt} {t t' : TS} (h : PSs X e t) (k : ∀ D σ H, t' D σ H → t D σ H) : PSs X e t' := ⟨fun p s σ H D I q => h.run p s σ H D I (k D σ H q)⟩
section
variable {K : Frag} {Γ : Gm} {W : WX} {ω ω' : Om} {H H' : Hp} {σ : L2.St} {δ δ' : DSt} {α β α' β' : Type} {rel : Om → Hp → L2.St → α → β → Prop} {rel' : Om → Hp → L2.St → α' → β' → Prop}
theorem okR.ext (e : Ext ω H ω' H') {r : R α} {Q : β → Hp → Prop} (h : okR K Γ W ω H σ rel r Q) : okR K Γ W ω' H' σ rel r Q := by
  cases r with
  | ok x δ' => exact fun v H2 ω2 e2 => h v H2 ω2 (e.trans e2)
  | exc c ns ds δ' => exact fun d H2 ω2 e2 => h d H2 ω2 (e.trans e2)
  | stuck => exact h
/-- one after another -/
theorem up_bind (Rl : Rel K Γ ω H σ δ) {t : DSt → R α} {f : α → DSt → R α'} {Q : β' → Hp → Prop} (h : okR K Γ W ω H σ rel' ((t δ).bind f) Q) {P : β → Hp → Prop}
    (hP : ∀ v H1 ω1 δ1 x, Ext ω H ω1 H1 → Rel K Γ ω1 H1 σ δ1 → rel ω1 H1 σ x v → okR K Γ W ω1 H1 σ rel' (f x δ1) Q → P v H1) : up K Γ W rel t σ H P := by
  refine ⟨ω, δ, Rl, ?_⟩
  cases e : t δ with
  | ok x δ1 =>
    rw [e] at h
    exact fun v H1 ω1 e1 r1 i1 => hP v H1 ω1 δ1 x e1 r1 i1 (okR.ext e1 h)
  | exc c ns ds δ1 =>
    rw [e] at h
    exact h
  | stuck =>
    rw [e] at h
    exact h
theorem okR.now {x : α} {v : β} {Q : β → Hp → Prop} (h : okR K Γ W ω H σ rel (.ok x δ) Q) (R : Rel K Γ ω H σ δ) (i : rel ω H σ x v) : Q v H := h v H ω (Ext.refl _ _) R i
theorem okR.at {x : α} {v : β} {Q : β → Hp → Prop} (h : okR K Γ W ω H σ rel (.ok x δ) Q) (e : Ext ω H ω' H') (R : Rel K Γ ω' H' σ δ) (i : rel ω' H' σ x v) : Q v H' := h v H' ω' e R i
end

/-! ### names, constants -/
section
variable {X : Cx} {Γ : Gm} {pos : Pos}
def eVar (i : Nat) : TD := fun δ => match δ[i]? with
  | some (some (0, d)) => .ok (.fz d) δ
  | some (some (_, _)) => .ok (.sl i) δ
  | _ => .stuck
def eC (d : D) : TD := fun δ => .ok (.fz d) δ
theorem de_var {i : Nat} {e : Expr} (h : PE X e (tVar i)) : DE X Γ e (eVar i) := ⟨fun W tk => PE.imp h fun σ H Q hq => by
  obtain ⟨ω, δ, R, h⟩ := hq
  unfold eVar at h
  cases q : δ[i]? with
  | none => rw [q] at h; exact h.elim
  | some r =>
    rw [q] at h
    cases r with
    | none => exact h.elim
    | some r =>
      obtain ⟨l, d⟩ := r
      have s := R.sl i _ q
      match l, h, s with
      | 0, h, ⟨v, e, s⟩ => exact ⟨v, slot_of e, h.now R s⟩
      | 1, h, ⟨a, vs, ds, e, _⟩ => exact ⟨.ref a, slot_of e, h.now R (slot_of e)⟩⟩
theorem de_c {e : Expr} {v : V} {d : D} (h : PE X e (tC v)) (hd : ∀ ω H xi, Is X.K ω H xi d v) : DE X Γ e (eC d) := ⟨fun W tk => PE.imp h fun σ H Q hq => by
  obtain ⟨ω, δ, R, h⟩ := hq
  exact h.now R (hd _ _ _)⟩
theorem de_int {i j pos} : DE X Γ (.Constant (.int i) j pos) (eC (.int i)) := de_c pe_int fun _ _ _ => rfl
theorem de_bl {i j pos} : DE X Γ (.Constant (.bool i) j pos) (eC (.bl i)) := de_c pe_bl fun _ _ _ => rfl
theorem de_str {i j pos} : DE X Γ (.Constant (.str i) j pos) (eC (.str i)) := de_c pe_str fun _ _ _ => rfl
theorem de_non {j pos} : DE X Γ (.Constant .none j pos) (eC .non) := de_c pe_non fun _ _ _ => rfl

/-! ### two operands, one operand -/
def eBin (f : Vl → Vl → DSt → R Vl) (ta tb : TD) : TD := fun δ => (ta δ).bind fun x δ1 => (tb δ1).bind fun y δ2 => f x y δ2
def eUn (f : Vl → DSt → R Vl) (ta : TD) : TD := fun δ => (ta δ).bind fun x δ1 => f x δ1
/-- the rule r by values is what f tells of data -/
def Op2 (K : Frag) (Γ : Gm) (r : R2) (f : Vl → Vl → DSt → R Vl) : Prop :=
  ∀ (W : WX) (ω : Om) (H : Hp) (σ : L2.St) (δ : DSt) (x y : Vl) (v w : V) (Q : VK), Rel K Γ ω H σ δ → IsV K Γ ω H σ x v → IsV K Γ ω H σ y w → okV K Γ W ω H σ (f x y δ) Q → r v w H Q
def Op1 (K : Frag) (Γ : Gm) (r : V → Hp → VK → Prop) (f : Vl → DSt → R Vl) : Prop :=
  ∀ (W : WX) (ω : Om) (H : Hp) (σ : L2.St) (δ : DSt) (x : Vl) (v : V) (Q : VK), Rel K Γ ω H σ δ → IsV K Γ ω H σ x v → okV K Γ W ω H σ (f x δ) Q → r v H Q
variable {a b e : Expr} {ta tb : TD} {r : R2} {f : Vl → Vl → DSt → R Vl}
theorem up_op2 {K : Frag} {W : WX} (ho : Op2 K Γ r f) {σ : L2.St} {H : Hp} {Q : VK} (h : upE K Γ W (eBin f ta tb) σ H Q) : tOp r (upE K Γ W ta) (upE K Γ W tb) σ H Q := by
  obtain ⟨ω, δ, R, h⟩ := h
  refine up_bind (t := ta) R h fun v H1 ω1 δ1 x e1 R1 i1 h1 => ?_
  exact up_bind (t := tb) R1 h1 fun w H2 ω2 δ2 y e2 R2 i2 h2 => ho W ω2 H2 σ δ2 x y v w Q R2 (IsV.mono e2.f i1) i2 h2
theorem de_op {op : Operator} (hr : OpR X (binaryOp op) r) (ho : Op2 X.K Γ r f) (ha : DE X Γ a ta) (hb : DE X Γ b tb) : DE X Γ (.BinOp a op b pos) (eBin f ta tb) :=
  ⟨fun W tk => PE.imp (pe_op hr (ha.run W tk) (hb.run W tk)) fun _ _ _ => up_op2 ho⟩
theorem de_cmp {op : CmpOp} (hr : OpR X (compareOp op) r) (ho : Op2 X.K Γ r f) (ha : DE X Γ a ta) (hb : DE X Γ b tb) (hm : behindInMarks op b = false := by first | exact nobehind _ (by decide) (by decide) | rfl) : DE X Γ (.Compare a [op] [b] pos) (eBin f ta tb) :=
  ⟨fun W tk => PE.imp (pe_cmpR hr (ha.run W tk) (hb.run W tk) hm) fun _ _ _ => up_op2 ho⟩
/-- a value that is a bool, as a test -/
def vB (δ : DSt) : Vl → R Bool
  | .fz (.bl b) => .ok b δ
  | _ => .stuck
def eT (t : TD) : TDT := fun δ => (t δ).bind fun x δ1 => vB δ1 x
theorem vB_ok {K : Frag} {W : WX} {ω : Om} {H : Hp} {σ : L2.St} {δ : DSt} {x : Vl} {v : V} {Q : Bool → Hp → Prop} (R : Rel K Γ ω H σ δ) (i : IsV K Γ ω H σ x v) (h : okB K Γ W ω H σ (vB δ x) Q) : ∃ c, v = .bl c ∧ Q c H := by
  match x, h, i with
  | .fz (.bl b), h, i => exact ⟨b, i, h.now R rfl⟩
theorem up_T {K : Frag} {W : WX} {t : TD} {σ : L2.St} {H : Hp} {Q : Bool → Hp → Prop} (h : upT K Γ W (eT t) σ H Q) : upE K Γ W t σ H fun x H' => ∃ k, x = .bl k ∧ Q k H' := by
  obtain ⟨ω, δ, R, h⟩ := h
  exact up_bind R h fun v H1 ω1 δ1 x e1 R1 i1 h1 => vB_ok R1 i1 h1
theorem dt_cmp {op : CmpOp} (hr : OpR X (compareOp op) r) (ho : Op2 X.K Γ r f) (ha : DE X Γ a ta) (hb : DE X Γ b tb) (hm : behindInMarks op b = false := by first | exact nobehind _ (by decide) (by decide) | rfl) : DT X Γ (.Compare a [op] [b] pos) (eT (eBin f ta tb)) :=
  ⟨fun W tk => PT.imp (pt_cmpR hr (ha.run W tk) (hb.run W tk) hm) fun σ H Q h => by
    obtain ⟨ω, δ, R, h⟩ := up_T h
    exact up_op2 ho ⟨ω, δ, R, h⟩⟩
/-- any expression that gives a bool, as a test -/
theorem dt_val {t : TD} (h : DE X Γ e t) (he : ∀ whole, isTrue e X.env whole = (do let v ← whole; standAt e.pos; holding [v] (truthy v)) := by intro _; rfl) : DT X Γ e (eT t) :=
  ⟨fun W tk => PT.imp (pt_val (h.run W tk) he) fun _ _ _ h => up_T h⟩
theorem up_op1 {K : Frag} {W : WX} {r : V → Hp → VK → Prop} {f : Vl → DSt → R Vl} (ho : Op1 K Γ r f) {σ : L2.St} {H : Hp} {Q : VK} (h : upE K Γ W (eUn f ta) σ H Q) : tUn r (upE K Γ W ta) σ H Q := by
  obtain ⟨ω, δ, R, h⟩ := h
  exact up_bind (t := ta) R h fun v H1 ω1 δ1 x e1 R1 i1 h1 => ho W ω1 H1 σ δ1 x v Q R1 i1 h1
theorem de_un {op : UnaryOp} {r : V → Hp → VK → Prop} {f : Vl → DSt → R Vl} (hr : UnR X (unaryOp op) r) (ho : Op1 X.K Γ r f) (ha : DE X Γ a ta) : DE X Γ (.UnaryOp op a pos) (eUn f ta) :=
  ⟨fun W tk => PE.imp (pe_un hr (ha.run W tk)) fun _ _ _ => up_op1 ho⟩

/-! ### and, or, not, a if t else b -/
variable {tA tB : TDT} {rest : List Expr}
def bAnd (t u : TDT) : TDT := fun δ => (t δ).bind fun c δ1 => if c = true then u δ1 else .ok false δ1
def bOr (t u : TDT) : TDT := fun δ => (t δ).bind fun c δ1 => if c = true then .ok true δ1 else u δ1
def bNot (t : TDT) : TDT := fun δ => (t δ).bind fun c δ1 => .ok (!c) δ1
theorem dw_and1 (ha : DT X Γ a tA) : DW X Γ (.BoolOp .And [a] pos) tA := ⟨fun W tk => pw_and1 (ha.run W tk)⟩
theorem dw_or1 (ha : DT X Γ a tA) : DW X Γ (.BoolOp .Or [a] pos) tA := ⟨fun W tk => pw_or1 (ha.run W tk)⟩
theorem dw_and (ha : DT X Γ a tA) (hb : DW X Γ (.BoolOp .And (b :: rest) pos) tB) : DW X Γ (.BoolOp .And (a :: b :: rest) pos) (bAnd tA tB) :=
  ⟨fun W tk => PW.imp (pw_and (ha.run W tk) (hb.run W tk)) fun σ H Q h => by
    obtain ⟨ω, δ, R, h⟩ := h
    refine up_bind (t := tA) R h fun v H1 ω1 δ1 x e1 R1 i1 h1 => ?_
    cases i1
    cases v with
    | true => exact iteT ⟨ω1, δ1, R1, h1⟩
    | false => exact iteF (okR.now (rel := rlB) (δ := δ1) (x := false) h1 R1 rfl)⟩
theorem dw_or (ha : DT X Γ a tA) (hb : DW X Γ (.BoolOp .Or (b :: rest) pos) tB) : DW X Γ (.BoolOp .Or (a :: b :: rest) pos) (bOr tA tB) :=
  ⟨fun W tk => PW.imp (pw_or (ha.run W tk) (hb.run W tk)) fun σ H Q h => by
    obtain ⟨ω, δ, R, h⟩ := h
    refine up_bind (t := tA) R h fun v H1 ω1 δ1 x e1 R1 i1 h1 => ?_
    cases i1
    cases v with
    | true => exact iteT (okR.now (rel := rlB) (δ := δ1) (x := true) h1 R1 rfl)
    | false => exact iteF ⟨ω1, δ1, R1, h1⟩⟩
theorem DW.pt {t : TDT} (h : DW X Γ e t) : DT X Γ e t := ⟨fun W tk => (h.run W tk).pt⟩
theorem dt_not (ha : DT X Γ a tA) : DT X Γ (.UnaryOp .Not a pos) (bNot tA) :=
  ⟨fun W tk => PT.imp (pt_not (ha.run W tk)) fun σ H Q h => by
    obtain ⟨ω, δ, R, h⟩ := h
    refine up_bind (t := tA) R h fun v H1 ω1 δ1 x e1 R1 i1 h1 => ?_
    cases i1
    exact okR.now h1 R1 rfl⟩
/-- as values, all of them bools -/
def eAnd (ta tb : TD) : TD := fun δ => ((ta δ).bind fun x δ1 => vB δ1 x).bind fun c δ1 => if c = true then tb δ1 else .ok (.fz (.bl false)) δ1
def eOr (ta tb : TD) : TD := fun δ => ((ta δ).bind fun x δ1 => vB δ1 x).bind fun c δ1 => if c = true then .ok (.fz (.bl true)) δ1 else tb δ1
def eNot (ta : TD) : TD := fun δ => ((ta δ).bind fun x δ1 => vB δ1 x).bind fun c δ1 => .ok (.fz (.bl (!c))) δ1
theorem de_one {op} {t : TD} (h : DE X Γ a t) : DE X Γ (.BoolOp op [a] pos) t := ⟨fun W tk => pe_one (h.run W tk)⟩
theorem up_vB {K : Frag} {W : WX} {ω : Om} {H : Hp} {σ : L2.St} {δ : DSt} {t : TD} {f : Bool → DSt → R Vl} {Q : VK} (Rl : Rel K Γ ω H σ δ) (h : okV K Γ W ω H σ (((t δ).bind fun x δ1 => vB δ1 x).bind f) Q) :
    upE K Γ W t σ H fun v H1 => ∃ c ω1 δ1, v = .bl c ∧ Rel K Γ ω1 H1 σ δ1 ∧ okV K Γ W ω1 H1 σ (f c δ1) Q := by
  refine ⟨ω, δ, Rl, ?_⟩
  cases q : t δ with
  | ok x δ1 =>
    rw [q] at h
    intro v H1 ω1 e1 R1 i1
    match x, h, i1 with
    | .fz (.bl b), h, i1 => exact ⟨b, ω1, δ1, i1, R1, okR.ext e1 h⟩
    | .fz .non, h, _ => exact (show False from h).elim
    | .fz (.int _), h, _ => exact (show False from h).elim
    | .fz (.str _), h, _ => exact (show False from h).elim
    | .fz (.ty _), h, _ => exact (show False from h).elim
    | .fz (.adr _), h, _ => exact (show False from h).elim
    | .fz (.cls _), h, _ => exact (show False from h).elim
    | .fz (.lst _), h, _ => exact (show False from h).elim
    | .fz (.tup _), h, _ => exact (show False from h).elim
    | .fz (.scr _), h, _ => exact (show False from h).elim
    | .fz (.ins ..), h, _ => exact (show False from h).elim
    | .fz (.exc ..), h, _ => exact (show False from h).elim
    | .sl _, h, _ => exact (show False from h).elim
  | exc c ns ds δ1 => rw [q] at h; exact h
  | stuck => rw [q] at h; exact h
theorem de_and (ha : DE X Γ a ta) (hb : DE X Γ (.BoolOp .And (b :: rest) pos) tb) : DE X Γ (.BoolOp .And (a :: b :: rest) pos) (eAnd ta tb) :=
  ⟨fun W tk => PE.imp (pe_and (ha.run W tk) (hb.run W tk)) fun σ H Q h => by
    obtain ⟨ω, δ, R, h⟩ := h
    obtain ⟨ω0, δ0, R0, h0⟩ := up_vB (f := fun c δ1 => if c = true then tb δ1 else .ok (.fz (.bl false)) δ1) R h
    refine ⟨ω0, δ0, R0, ?_⟩
    revert h0
    cases ta δ0 with
    | ok x δ1 =>
      intro h0 v H1 ω1 e1 R1 i1
      obtain ⟨c, ω2, δ2, e, R2, q⟩ := h0 v H1 ω1 e1 R1 i1
      refine ⟨c, e, ?_⟩
      cases c with
      | true => exact iteT ⟨ω2, δ2, R2, q⟩
      | false => exact iteF (okR.now (δ := δ2) (x := Vl.fz (.bl false)) q R2 rfl)
    | exc c ns ds δ1 => exact id
    | stuck => exact id⟩
theorem de_or (ha : DE X Γ a ta) (hb : DE X Γ (.BoolOp .Or (b :: rest) pos) tb) : DE X Γ (.BoolOp .Or (a :: b :: rest) pos) (eOr ta tb) :=
  ⟨fun W tk => PE.imp (pe_or (ha.run W tk) (hb.run W tk)) fun σ H Q h => by
    obtain ⟨ω, δ, R, h⟩ := h
    obtain ⟨ω0, δ0, R0, h0⟩ := up_vB (f := fun c δ1 => if c = true then .ok (.fz (.bl true)) δ1 else tb δ1) R h
    refine ⟨ω0, δ0, R0, ?_⟩
    revert h0
    cases ta δ0 with
    | ok x δ1 =>
      intro h0 v H1 ω1 e1 R1 i1
      obtain ⟨c, ω2, δ2, e, R2, q⟩ := h0 v H1 ω1 e1 R1 i1
      refine ⟨c, e, ?_⟩
      cases c with
      | true => exact iteT (okR.now (δ := δ2) (x := Vl.fz (.bl true)) q R2 rfl)
      | false => exact iteF ⟨ω2, δ2, R2, q⟩
    | exc c ns ds δ1 => exact id
    | stuck => exact id⟩
theorem de_not (ha : DE X Γ a ta) : DE X Γ (.UnaryOp .Not a pos) (eNot ta) :=
  ⟨fun W tk => PE.imp (pe_not (ha.run W tk)) fun σ H Q h => by
    obtain ⟨ω, δ, R, h⟩ := h
    obtain ⟨ω0, δ0, R0, h0⟩ := up_vB (f := fun c δ1 => .ok (.fz (.bl (!c))) δ1) R h
    refine ⟨ω0, δ0, R0, ?_⟩
    revert h0
    cases ta δ0 with
    | ok x δ1 =>
      intro h0 v H1 ω1 e1 R1 i1
      obtain ⟨c, ω2, δ2, e, R2, q⟩ := h0 v H1 ω1 e1 R1 i1
      exact ⟨c, e, okR.now (δ := δ2) q R2 rfl⟩
    | exc c ns ds δ1 => exact id
    | stuck => exact id⟩
def eIf (t : TDT) (ta tb : TD) : TD := fun δ => (t δ).bind fun c δ1 => if c = true then ta δ1 else tb δ1
theorem de_if {c : Expr} (hc : DT X Γ c tA) (ha : DE X Γ a ta) (hb : DE X Γ b tb) : DE X Γ (.IfExp c a b pos) (eIf tA ta tb) :=
  ⟨fun W tk => PE.imp (pe_ifExp (hc.run W tk) (ha.run W tk) (hb.run W tk)) fun σ H Q h => by
    obtain ⟨ω, δ, R, h⟩ := h
    refine up_bind (t := tA) R h fun v H1 ω1 δ1 x e1 R1 i1 h1 => ?_
    cases i1
    cases v with
    | true => exact iteT ⟨ω1, δ1, R1, h1⟩
    | false => exact iteF ⟨ω1, δ1, R1, h1⟩⟩
/-! ### arguments -/
def aNil : TDA := fun δ => .ok [] δ
def aCons (t : TD) (r : TDA) : TDA := fun δ => (t δ).bind fun x δ1 => (r δ1).bind fun xs δ2 => .ok (x :: xs) δ2
theorem da_nil : DA X Γ [] aNil := ⟨fun W tk => PA.imp pa_nil fun σ H Q h => by
  obtain ⟨ω, δ, R, h⟩ := h
  exact okR.now (δ := δ) h R rfl⟩
theorem da_cons {es : List Expr} {t : TD} {u : TDA} (ha : DE X Γ e t) (hr : DA X Γ es u) (hs : starEach (e :: es) X.env = (false, eval e X.env) :: starEach es X.env := by rfl) : DA X Γ (e :: es) (aCons t u) :=
  ⟨fun W tk => PA.imp (pa_cons (ha.run W tk) (hr.run W tk) hs) fun σ H Q h => by
    obtain ⟨ω, δ, R, h⟩ := h
    refine up_bind (t := t) R h fun v H1 ω1 δ1 x e1 R1 i1 h1 => ?_
    refine up_bind (t := u) R1 h1 fun w H2 ω2 δ2 y e2 R2 i2 h2 => ?_
    exact okR.now (δ := δ2) h2 R2 ⟨v, w, rfl, IsV.mono e2.f i1, i2⟩⟩
end
end DL

set_option Elab.async false
set_option linter.all false
set_option maxRecDepth 100000
namespace DL
open PySem PySem.Spec PyProof.Rows L2
/-! ### new objects -/
/-- a tag that a new object is to have -/
def rlG (K : Frag) (Γ : Gm) (τ : Tg) : Om → Hp → L2.St → D → V → Prop := fun ω H _ d v => match τ with
  | .own i => ∃ a vs ds, v = .ref a ∧ d = .lst ds ∧ ω a = .own i ∧ H a = some (.lst vs) ∧ IsL K ω H Γ.xi ds vs
  | _ => Is K ω H Γ.xi d v
abbrev TDG := DSt → R D
structure DG (X : Cx) (Γ : Gm) (τ : Tg) (e : Expr) (t : TDG) : Prop where
  run : ∀ W, L2N.Takes X W → PE X e (up X.K Γ W (rlG X.K Γ τ) t)
abbrev okG (K : Frag) (Γ : Gm) (W : WX) (τ : Tg) (ω : Om) (H : Hp) (σ : L2.St) : R D → VK → Prop := okR K Γ W ω H σ (rlG K Γ τ)
section
variable {K : Frag} {Γ : Gm} {W : WX} {ω ω' : Om} {H H' : Hp} {σ : L2.St} {δ δ' : DSt} {τ : Tg}
/-- a new object at p with the tag τ -/
def nwO (ω : Om) (p : Addr) (τ : Tg) : Om := fun b => if b = p then τ else ω b
theorem nwO_self {p : Addr} : nwO ω p τ p = τ := by unfold nwO; rw [if_pos rfl]
theorem nwO_ne {p b : Addr} (h : b ≠ p) : nwO ω p τ b = ω b := by unfold nwO; rw [if_neg h]
theorem Rel.fresh (R : Rel K Γ ω H σ δ) {p : Addr} (hp : H p = none) : ω p = .out := by
  cases e : ω p with
  | out => rfl
  | fz =>
    obtain ⟨o, q⟩ := R.wf p (by rw [e]; intro z; cases z)
    rw [hp] at q; cases q
  | own i =>
    obtain ⟨o, q⟩ := R.wf p (by rw [e]; intro z; cases z)
    rw [hp] at q; cases q
theorem Rel.nwExt (R : Rel K Γ ω H σ δ) {p : Addr} (hp : H p = none) (o : HO) : Ext ω H (nwO ω p τ) (upd H p o) := by
  have hw := R.fresh hp
  refine ⟨fun b h => ?_, fun b u h h' => ?_⟩
  · have ne : b ≠ p := fun z => by rw [z, hw] at h; cases h
    exact ⟨by rw [nwO_ne ne]; exact h, upd_ne ne⟩
  · have ne : b ≠ p := fun z => by rw [z, hp] at h; cases h
    exact ⟨by rw [nwO_ne ne]; exact h', by rw [upd_ne ne]; exact h⟩
theorem Rel.new (R : Rel K Γ ω H σ δ) {p : Addr} (hp : H p = none) (o : HO) : Rel K Γ (nwO ω p τ) (upd H p o) σ δ := by
  have X := R.nwExt (τ := τ) hp o
  have hw := R.fresh hp
  refine ⟨fun b h => ?_, R.len, fun i e hi => (R.sl i e hi).mono X.f fun b hb => ?_, R.pin⟩
  · by_cases e : b = p
    · exact ⟨o, by rw [e]; exact upd_same⟩
    · rw [nwO_ne e] at h
      obtain ⟨u, q⟩ := R.wf b h
      exact ⟨u, by rw [upd_ne e]; exact q⟩
  · have ne : b ≠ p := fun z => by rw [z, hw] at hb; cases hb
    exact ⟨by rw [nwO_ne ne]; exact hb, upd_ne ne⟩
theorem new_lst (hτ : τ ≠ .out) (R : Rel K Γ ω H σ δ) {ds : List D} {vs : List V} {Q : VK} (hl : IsL K ω H Γ.xi ds vs) (h : okG K Γ W τ ω H σ (.ok (.lst ds) δ) Q) : ∀ p, H p = none → Q (.ref p) (upd H p (.lst vs)) := fun p hp => by
  have X := R.nwExt (τ := τ) hp (.lst vs)
  refine okR.at (x := D.lst ds) h X (R.new hp _) ?_
  cases τ with
  | out => exact absurd rfl hτ
  | fz => exact ⟨p, vs, rfl, ⟨nwO_self, upd_same⟩, hl.mono X.f⟩
  | own i => exact ⟨p, vs, ds, rfl, rfl, nwO_self, upd_same, hl.mono X.f⟩
theorem new_tup (R : Rel K Γ ω H σ δ) {ds : List D} {vs : List V} {Q : VK} (hl : IsL K ω H Γ.xi ds vs) (h : okV K Γ W ω H σ (.ok (.fz (.tup ds)) δ) Q) : ∀ p, H p = none → Q (.ref p) (upd H p (.tup vs)) := fun p hp => by
  have X := R.nwExt (τ := .fz) hp (.tup vs)
  exact okR.at (x := Vl.fz (.tup ds)) h X (R.new hp _) ⟨p, vs, rfl, .inl ⟨nwO_self, upd_same⟩, hl.mono X.f⟩
theorem new_lstV (R : Rel K Γ ω H σ δ) {ds : List D} {vs : List V} {Q : VK} (hl : IsL K ω H Γ.xi ds vs) (h : okV K Γ W ω H σ (.ok (.fz (.lst ds)) δ) Q) : ∀ p, H p = none → Q (.ref p) (upd H p (.lst vs)) := fun p hp => by
  have X := R.nwExt (τ := .fz) hp (.lst vs)
  exact okR.at (x := Vl.fz (.lst ds)) h X (R.new hp _) ⟨p, vs, rfl, ⟨nwO_self, upd_same⟩, hl.mono X.f⟩
end
/-- a new object at once frozen -/
def gFz (t : TDG) : TD := fun δ => (t δ).bind fun d δ1 => .ok (.fz d) δ1
theorem de_g {X : Cx} {Γ : Gm} {e : Expr} {t : TDG} (h : DG X Γ .fz e t) : DE X Γ e (gFz t) := ⟨fun W tk => PE.imp (h.run W tk) fun σ H Q hq => by
  obtain ⟨ω, δ, R, hq⟩ := hq
  refine ⟨ω, δ, R, ?_⟩
  unfold gFz at hq
  cases e : t δ with
  | ok d δ1 =>
    rw [e] at hq
    exact fun v H' ω' x r i => hq v H' ω' x r i
  | exc c ns ds δ1 => rw [e] at hq; exact hq
  | stuck => rw [e] at hq; exact hq⟩

/-! ### equality -/
mutual
def toPy : D → PyData
  | .non => .none
  | .bl b => .bool b
  | .int i => .int i
  | .str x => .str x
  | .lst xs => .list (toPyL xs)
  | .tup xs => .tuple (toPyL xs)
  | _ => .dict []
def toPyL : List D → List PyData
  | [] => []
  | x :: xs => toPy x :: toPyL xs
end
section
variable {K : Frag} {Γ : Gm} {W : WX} {ω ω' : Om} {H H' : Hp} {σ : L2.St} {δ δ' : DSt} {xi : Xi}
theorem NdT.sq' {a : Addr} {xs : List V} (h : NdT K ω H a xs) : SqT K H a xs := h.sq
mutual
theorem is_dp : ∀ {d : D} {v : V}, Is K ω H xi d v → PyData.canLay0 (toPy d) = true → Dp K H v (toPy d)
  | .non, v, h, _ => by cases (show v = V.non from h); unfold toPy; exact .non
  | .bl b, v, h, _ => by cases (show v = V.bl b from h); unfold toPy; exact .bl b
  | .int i, v, h, _ => by cases (show v = V.int i from h); unfold toPy; exact .int i
  | .str x, v, h, _ => by cases (show v = V.str x from h); unfold toPy; exact .str x
  | .ty n, v, h, c => by simp [toPy, PyData.canLay0] at c
  | .adr n, v, h, c => by simp [toPy, PyData.canLay0] at c
  | .cls n, v, h, c => by simp [toPy, PyData.canLay0] at c
  | .scr n, v, h, c => by simp [toPy, PyData.canLay0] at c
  | .ins _ _ _, v, h, c => by simp [toPy, PyData.canLay0] at c
  | .exc _ _ _, v, h, c => by simp [toPy, PyData.canLay0] at c
  | .lst ds, v, h, c => by
    obtain ⟨a, vs, rfl, n, l⟩ := h
    unfold toPy at c ⊢
    exact .lst n.sq (is_dpL l c)
  | .tup ds, v, h, c => by
    obtain ⟨a, vs, rfl, n, l⟩ := h
    unfold toPy at c ⊢
    exact .tup n.sq (is_dpL l c)
theorem is_dpL : ∀ {ds : List D} {vs : List V}, IsL K ω H xi ds vs → PyData.canLayAll0 (toPyL ds) = true → DpAll K H vs (toPyL ds)
  | [], vs, h, _ => by cases (show vs = [] from h); unfold toPyL; exact .nil
  | d :: ds, vs, h, c => by
    obtain ⟨v, r, rfl, h1, h2⟩ := h
    unfold toPyL at c ⊢
    unfold PyData.canLayAll0 at c
    obtain ⟨c1, c2⟩ := Bool.and_eq_true_iff.mp c
    exact .cons (is_dp h1 c1) (is_dpL h2 c2)
end
theorem rb_dp {d : D} {v : V} (h : Rb K ω H xi d v) (c : SeqAt.shaped (toPy d) = true) : Dp K H v (toPy d) := by
  have c1 := SeqAt.canLay_of_shaped c
  rcases h with h | ⟨a, vs, ds, rfl, rfl, h, l⟩
  · exact is_dp h c1
  · unfold toPy at c1 ⊢
    exact .lst (SqL.of h) (is_dpL l c1)
/-- == of scalars -/
def eqS : D → D → Option Bool
  | .int i, .int j => some (decide (i = j))
  | .str x, .str y => some (decide (x = y))
  | .bl a, .bl b => some (decide (a = b))
  | .non, .non => some true
  | .non, .int _ => some false
  | .int _, .non => some false
  | .non, .str _ => some false
  | .str _, .non => some false
  | .non, .bl _ => some false
  | .bl _, .non => some false
  | _, _ => none
def eqD (d e : D) : Option Bool := match eqS d e with
  | some b => some b
  | none => if SeqAt.shaped (toPy d) && SeqAt.shaped (toPy e) then some (PyData.eqv (toPy d) (toPy e)) else none
def opEq (neg : Bool) (x y : Vl) (δ : DSt) : R Vl := match dr δ x, dr δ y with
  | some d, some e => (match eqD d e with
    | some b => .ok (.fz (.bl (if neg then !b else b))) δ
    | none => .stuck)
  | _, _ => .stuck
theorem eqS_ok {d e : D} {v w : V} {b : Bool} (h1 : Rb K ω H xi d v) (h2 : Rb K ω H xi e w) (h : eqS d e = some b) : scal v w = true ∧ decide (v = w) = b := by
  cases d with
  | int i =>
    cases e with
    | int j => cases h; rw [h1.int, h2.int]; exact ⟨rfl, by simp⟩
    | non => cases h; rw [h1.int, h2.non]; exact ⟨rfl, by simp⟩
    | _ => cases h
  | str i =>
    cases e with
    | str j => cases h; rw [h1.str, h2.str]; exact ⟨rfl, by simp⟩
    | non => cases h; rw [h1.str, h2.non]; exact ⟨rfl, by simp⟩
    | _ => cases h
  | bl i =>
    cases e with
    | bl j => cases h; rw [h1.bl, h2.bl]; exact ⟨rfl, by simp⟩
    | non => cases h; rw [h1.bl, h2.non]; exact ⟨rfl, by simp⟩
    | _ => cases h
  | non =>
    cases e with
    | int j => cases h; rw [h1.non, h2.int]; exact ⟨rfl, by simp⟩
    | str j => cases h; rw [h1.non, h2.str]; exact ⟨rfl, by simp⟩
    | bl j => cases h; rw [h1.non, h2.bl]; exact ⟨rfl, by simp⟩
    | non => cases h; rw [h1.non, h2.non]; exact ⟨rfl, by simp⟩
    | _ => cases h
  | _ => cases h
theorem opEq_ok {x y : Vl} {v w : V} {Q : VK} {neg : Bool} (R : Rel K Γ ω H σ δ) (i1 : IsV K Γ ω H σ x v) (i2 : IsV K Γ ω H σ y w) (h : okV K Γ W ω H σ (opEq neg x y δ) Q) :
    ∃ b, ((scal v w = true ∧ decide (v = w) = b) ∨ ∃ d e, Dp K H v d ∧ Dp K H w e ∧ SeqAt.shaped d = true ∧ SeqAt.shaped e = true ∧ PyData.eqv d e = b) ∧ Q (.bl (if neg then !b else b)) H := by
  unfold opEq at h
  cases e1 : dr δ x with
  | none => rw [e1] at h; exact h.elim
  | some d =>
    cases e2 : dr δ y with
    | none => rw [e1, e2] at h; exact h.elim
    | some e =>
      rw [e1, e2] at h
      have r1 := dr_ok R i1 e1
      have r2 := dr_ok R i2 e2
      dsimp only at h
      cases q : eqD d e with
      | none => rw [q] at h; exact h.elim
      | some b =>
        rw [q] at h
        refine ⟨b, ?_, h.now R rfl⟩
        unfold eqD at q
        cases qs : eqS d e with
        | some c => rw [qs] at q; cases q; exact .inl (eqS_ok r1 r2 qs)
        | none =>
          rw [qs] at q
          dsimp only at q
          split at q
          · rename_i hs
            cases q
            obtain ⟨s1, s2⟩ := Bool.and_eq_true_iff.mp hs
            exact .inr ⟨_, _, rb_dp r1 s1, rb_dp r2 s2, s1, s2, rfl⟩
          · cases q
theorem op2_eq : Op2 K Γ (fun x y H Q => rEq x y H Q ∨ rEqD K x y H Q) (opEq false) := fun W ω H σ δ x y v w Q R i1 i2 h => by
  obtain ⟨b, hb, q⟩ := opEq_ok R i1 i2 h
  rcases hb with ⟨s, e⟩ | ⟨d, e, h1, h2, h3, h4, h5⟩
  · exact .inl ⟨s, by rw [e]; exact q⟩
  · exact .inr ⟨d, e, h1, h2, h3, h4, by rw [h5]; exact q⟩
theorem op2_ne : Op2 K Γ (fun x y H Q => rNe x y H Q ∨ rNeD K x y H Q) (opEq true) := fun W ω H σ δ x y v w Q R i1 i2 h => by
  obtain ⟨b, hb, q⟩ := opEq_ok R i1 i2 h
  rcases hb with ⟨s, e⟩ | ⟨d, e, h1, h2, h3, h4, h5⟩
  · exact .inl ⟨s, by rw [e]; exact q⟩
  · exact .inr ⟨d, e, h1, h2, h3, h4, by rw [h5]; exact q⟩

/-! ### numbers -/
/-- two ints -/
def op2I (f : Int → Int → Option D) (x y : Vl) (δ : DSt) : R Vl := match dr δ x, dr δ y with
  | some (.int i), some (.int j) => (match f i j with
    | some d => .ok (.fz d) δ
    | none => .stuck)
  | _, _ => .stuck
theorem op2I_ok {f : Int → Int → Option D} {x y : Vl} {v w : V} {Q : VK} (R : Rel K Γ ω H σ δ) (i1 : IsV K Γ ω H σ x v) (i2 : IsV K Γ ω H σ y w) (h : okV K Γ W ω H σ (op2I f x y δ) Q) :
    ∃ i j d, v = .int i ∧ w = .int j ∧ f i j = some d ∧ ∀ u, Is K ω H Γ.xi d u → Q u H := by
  unfold op2I at h
  split at h
  · rename_i i j e1 e2
    have h1 := (dr_ok R i1 e1).int
    have h2 := (dr_ok R i2 e2).int
    cases q : f i j with
    | none => rw [q] at h; exact h.elim
    | some d => rw [q] at h; exact ⟨i, j, d, h1, h2, q, fun u hu => okR.now (x := Vl.fz d) h R hu⟩
  · exact h.elim
theorem op2_I0 {g : Int → Int → V} {f : Int → Int → D} (hg : ∀ i j K ω H xi, Is K ω H xi (f i j) (g i j)) : Op2 K Γ (rI0 g) (op2I fun i j => some (f i j)) := fun W ω H σ δ x y v w Q R i1 i2 h => by
  obtain ⟨i, j, d, e1, e2, e3, q⟩ := op2I_ok R i1 i2 h
  cases e3
  exact ⟨i, j, e1, e2, q _ (hg _ _ _ _ _ _)⟩
/-- .. under a condition -/
theorem op2_Ic {C : Int → Int → Prop} {c : Int → Int → Bool} {g : Int → Int → V} {f : Int → Int → D} (hg : ∀ i j K ω H xi, Is K ω H xi (f i j) (g i j)) (hc : ∀ i j, c i j = true → C i j) : Op2 K Γ (rI C g) (op2I fun i j => if c i j then some (f i j) else none) := fun W ω H σ δ x y v w Q R i1 i2 h => by
  obtain ⟨i, j, d, e1, e2, e3, q⟩ := op2I_ok R i1 i2 h
  by_cases z : c i j = true
  · rw [if_pos z] at e3
    cases e3
    exact ⟨i, j, e1, e2, hc _ _ z, q _ (hg _ _ _ _ _ _)⟩
  · rw [if_neg z] at e3
    cases e3
def opSub := op2I fun i j => some (.int (i - j))
def mulOk (i j : Int) : Bool := decide ((Builtin.Int.intBits i : Int) + (Builtin.Int.intBits j : Int) ≤ 134217728)
def opMul := op2I fun i j => if mulOk i j then some (.int (i * j)) else none
/-- a divisor above 0, below 2 ^ 9000 -/
def divOk (_ j : Int) : Bool := decide (0 < j) && decide (j.natAbs.log2 < 9000)
def opDiv := op2I fun i j => if divOk i j then some (.int (i / j)) else none
def opMod := op2I fun i j => if decide (0 < j) then some (.int (i % j)) else none
def powOk (i j : Int) : Bool := decide (0 ≤ j) && decide (j ≤ 1000000) && decide (i.natAbs < 2 ^ 64)
def opPow := op2I fun i j => if powOk i j then some (.int (i ^ j.toNat)) else none
def opLt := op2I fun i j => some (.bl (decide (i < j)))
def opLe := op2I fun i j => some (.bl (decide (i ≤ j)))
def opGt := op2I fun i j => some (.bl (decide (j < i)))
def opGe := op2I fun i j => some (.bl (decide (j ≤ i)))
theorem op2_sub : Op2 K Γ (rI0 fun i j => .int (i - j)) opSub := op2_I0 fun _ _ _ _ _ _ => rfl
theorem op2_lt : Op2 K Γ (rI0 fun i j => .bl (decide (i < j))) opLt := op2_I0 fun _ _ _ _ _ _ => rfl
theorem op2_le : Op2 K Γ (rI0 fun i j => .bl (decide (i ≤ j))) opLe := op2_I0 fun _ _ _ _ _ _ => rfl
theorem op2_gt : Op2 K Γ (rI0 fun i j => .bl (decide (j < i))) opGt := op2_I0 fun _ _ _ _ _ _ => rfl
theorem op2_ge : Op2 K Γ (rI0 fun i j => .bl (decide (j ≤ i))) opGe := op2_I0 fun _ _ _ _ _ _ => rfl
theorem op2_mul : Op2 K Γ (rI CMulX fun i j => .int (i * j)) opMul := op2_Ic (fun _ _ _ _ _ _ => rfl) fun i j h => of_decide_eq_true (p := (Builtin.Int.intBits i : Int) + (Builtin.Int.intBits j : Int) ≤ 134217728) h
theorem op2_div : Op2 K Γ (rI CDivW fun i j => .int (i / j)) opDiv := op2_Ic (fun _ _ _ _ _ _ => rfl) fun _ _ h => ⟨of_decide_eq_true (Bool.and_eq_true_iff.mp h).1, of_decide_eq_true (Bool.and_eq_true_iff.mp h).2⟩
theorem op2_mod : Op2 K Γ (rI (fun _ j => 0 < j) fun i j => .int (i % j)) opMod := op2_Ic (c := fun _ j => decide (0 < j)) (fun _ _ _ _ _ _ => rfl) fun _ _ h => of_decide_eq_true h
theorem op2_pow : Op2 K Γ (rI CPow fun i j => .int (i ^ j.toNat)) opPow := op2_Ic (fun _ _ _ _ _ _ => rfl) fun _ _ h =>
  ⟨of_decide_eq_true (Bool.and_eq_true_iff.mp (Bool.and_eq_true_iff.mp h).1).1, of_decide_eq_true (Bool.and_eq_true_iff.mp (Bool.and_eq_true_iff.mp h).1).2, of_decide_eq_true (Bool.and_eq_true_iff.mp h).2⟩
def op1I (f : Int → D) (x : Vl) (δ : DSt) : R Vl := match dr δ x with
  | some (.int i) => .ok (.fz (f i)) δ
  | _ => .stuck
def opNeg := op1I fun i => .int (-i)
theorem op1_neg : Op1 K Γ (rU fun i => .int (-i)) opNeg := fun W ω H σ δ x v Q R i1 h => by
  unfold opNeg op1I at h
  split at h
  · rename_i i e1
    exact ⟨i, (dr_ok R i1 e1).int, okR.now (x := Vl.fz (D.int (-i))) h R rfl⟩
  · exact h.elim

/-! ### + -/
def opAdd (x y : Vl) (δ : DSt) : R Vl := match dr δ x, dr δ y with
  | some (.int i), some (.int j) => .ok (.fz (.int (i + j))) δ
  | some (.str a), some (.str b) => if a.length + b.length ≤ sizeLine then .ok (.fz (.str (a ++ b))) δ else .stuck
  | some (.lst xs), some (.lst ys) => if xs.length + ys.length ≤ sizeLine then .ok (.fz (.lst (xs ++ ys))) δ else .stuck
  | some (.tup xs), some (.tup ys) => if xs.length + ys.length ≤ sizeLine then .ok (.fz (.tup (xs ++ ys))) δ else .stuck
  | _, _ => .stuck
def rAdd4 (K : Frag) : R2 := fun x y H Q => ((rI0 (fun i j => .int (i + j))) x y H Q ∨ (∃ i j, x = .str i ∧ y = .str j ∧ i.length + j.length ≤ sizeLine ∧ Q (.str (i ++ j)) H)) ∨ (rCat x y H Q ∨ rCatA K x y H Q)
theorem opr_add {X : Cx} : OpR X (binaryOp .Add) (rAdd4 X.K) := (op_add.or op_add_str).or (op_cat.or op_catA)
theorem op2_add : Op2 K Γ (rAdd4 K) opAdd := fun W ω H σ δ x y v w Q R i1 i2 h => by
  unfold opAdd at h
  split at h
  · rename_i i j e1 e2
    exact .inl (.inl ⟨i, j, (dr_ok R i1 e1).int, (dr_ok R i2 e2).int, okR.now (x := Vl.fz (D.int (i + j))) h R rfl⟩)
  · rename_i a b e1 e2
    by_cases hz : a.length + b.length ≤ sizeLine
    · rw [if_pos hz] at h
      exact .inl (.inr ⟨a, b, (dr_ok R i1 e1).str, (dr_ok R i2 e2).str, hz, okR.now (x := Vl.fz (D.str (a ++ b))) h R rfl⟩)
    · rw [if_neg hz] at h; exact h.elim
  · rename_i xs ys e1 e2
    by_cases hz : xs.length + ys.length ≤ sizeLine
    · rw [if_pos hz] at h
      obtain ⟨a, vs, rfl, h1, l1⟩ := (dr_ok R i1 e1).lstH
      obtain ⟨b, ws, rfl, h2, l2⟩ := (dr_ok R i2 e2).lstH
      exact .inr (.inl ⟨a, b, vs, ws, rfl, rfl, h1, h2, by rw [l1.length, l2.length]; exact hz, new_lstV R (l1.append l2) h⟩)
    · rw [if_neg hz] at h; exact h.elim
  · rename_i xs ys e1 e2
    by_cases hz : xs.length + ys.length ≤ sizeLine
    · rw [if_pos hz] at h
      obtain ⟨a, vs, rfl, n1, h1, l1⟩ := (dr_ok R i1 e1).tup
      obtain ⟨b, ws, rfl, n2, h2, l2⟩ := (dr_ok R i2 e2).tup
      refine .inr (.inr ⟨a, b, vs, ws, rfl, rfl, h1, h2, by rw [l1.length, l2.length]; exact hz, fun z => ?_, fun _ z => ?_, fun _ _ => new_tup R (l1.append l2) h⟩)
      · have : xs = [] := List.eq_nil_of_length_eq_zero (by rw [← l1.length, z] <;> rfl)
        subst this
        exact okR.now (x := Vl.fz (D.tup ([] ++ ys))) h R ⟨b, ws, rfl, n2, l2⟩
      · have : ys = [] := List.eq_nil_of_length_eq_zero (by rw [← l2.length, z] <;> rfl)
        subst this
        exact okR.now (x := Vl.fz (D.tup (xs ++ []))) h R ⟨a, vs, rfl, n1, by rw [List.append_nil]; exact l1⟩
    · rw [if_neg hz] at h; exact h.elim
  · exact h.elim

/-! ### in -/
def flatD : D → Bool
  | .non | .bl _ | .int _ | .str _ => true
  | _ => false
/-- == of flat data -/
def eqF : D → D → Bool
  | .non, .non => true
  | .bl a, .bl b => a == b
  | .bl a, .int b => (if a then 1 else 0) == b
  | .int a, .bl b => a == (if b then 1 else 0)
  | .int a, .int b => a == b
  | .str a, .str b => a == b
  | _, _ => false
theorem flat_v {d : D} {v : V} (h : Is K ω H xi d v) (f : flatD d = true) : flatV v = true := by
  cases d with
  | non => cases (show v = V.non from h); rfl
  | bl b => cases (show v = V.bl b from h); rfl
  | int b => cases (show v = V.int b from h); rfl
  | str b => cases (show v = V.str b from h); rfl
  | _ => cases f
theorem flat_eq {d e : D} {v w : V} (h : Is K ω H xi d v) (h' : Is K ω H xi e w) (f : flatD d = true) (g : flatD e = true) : eqV v w = eqF d e := by
  cases d with
  | non =>
    cases (show v = V.non from h)
    cases e with
    | non => cases (show w = V.non from h'); rfl
    | bl b => cases (show w = V.bl b from h'); rfl
    | int b => cases (show w = V.int b from h'); rfl
    | str b => cases (show w = V.str b from h'); rfl
    | _ => cases g
  | bl a =>
    cases (show v = V.bl a from h)
    cases e with
    | non => cases (show w = V.non from h'); rfl
    | bl b => cases (show w = V.bl b from h'); rfl
    | int b => cases (show w = V.int b from h'); rfl
    | str b => cases (show w = V.str b from h'); rfl
    | _ => cases g
  | int a =>
    cases (show v = V.int a from h)
    cases e with
    | non => cases (show w = V.non from h'); rfl
    | bl b => cases (show w = V.bl b from h'); rfl
    | int b => cases (show w = V.int b from h'); rfl
    | str b => cases (show w = V.str b from h'); rfl
    | _ => cases g
  | str a =>
    cases (show v = V.str a from h)
    cases e with
    | non => cases (show w = V.non from h'); rfl
    | bl b => cases (show w = V.bl b from h'); rfl
    | int b => cases (show w = V.int b from h'); rfl
    | str b => cases (show w = V.str b from h'); rfl
    | _ => cases g
  | _ => cases f
theorem flat_all : ∀ {ds : List D} {vs : List V}, IsL K ω H xi ds vs → ds.all flatD = true → vs.all flatV = true
  | [], _, h, _ => by cases (show _ = ([] : List V) from h); rfl
  | d :: ds, _, h, f => by
    obtain ⟨v, r, rfl, h1, h2⟩ := h
    rw [List.all_cons, Bool.and_eq_true] at f ⊢
    exact ⟨flat_v h1 f.1, flat_all h2 f.2⟩
theorem flat_in {e : D} {w : V} (h' : Is K ω H xi e w) (g : flatD e = true) : ∀ {ds : List D} {vs : List V}, IsL K ω H xi ds vs → ds.all flatD = true → inV w vs = ds.any fun d => eqF d e
  | [], _, h, _ => by cases (show _ = ([] : List V) from h); rfl
  | d :: ds, _, h, f => by
    obtain ⟨v, r, rfl, h1, h2⟩ := h
    rw [List.all_cons, Bool.and_eq_true] at f
    have e2 := flat_in h' g h2 f.2
    unfold inV at e2 ⊢
    rw [List.any_cons, List.any_cons, e2, flat_eq h1 h' f.1 g]
def items : D → Option (List D)
  | .lst xs => some xs
  | .tup xs => some xs
  | _ => none
theorem Rb.items {d : D} {v : V} {xs : List D} (h : Rb K ω H xi d v) (e : items d = some xs) : ∃ a vs, v = .ref a ∧ (SqL K H a vs ∨ SqT K H a vs) ∧ IsL K ω H xi xs vs := by
  cases d with
  | lst ys =>
    cases e
    obtain ⟨a, vs, e, n, l⟩ := h.lst
    exact ⟨a, vs, e, .inl n, l⟩
  | tup ys =>
    cases e
    obtain ⟨a, vs, e, _, n, l⟩ := h.tup
    exact ⟨a, vs, e, .inr n, l⟩
  | _ => cases e
/-- x in xs: flat, or a list of data of any depth -/
def inD (d e : D) : Option Bool := match items e with
  | some xs => if flatD d && xs.all flatD then some (xs.any fun z => eqF z d) else none
  | none => none
def opIn (neg : Bool) (x y : Vl) (δ : DSt) : R Vl := match dr δ x, dr δ y with
  | some d, some e => (match inD d e with
    | some b => .ok (.fz (.bl (if neg then !b else b))) δ
    | none => .stuck)
  | _, _ => .stuck
theorem op2_in {neg : Bool} : Op2 K Γ (rIn K neg) (opIn neg) := fun W ω H σ δ x y v w Q R i1 i2 h => by
  unfold opIn at h
  split at h
  · rename_i d e e1 e2
    have r1 := dr_ok R i1 e1
    have r2 := dr_ok R i2 e2
    cases q : inD d e with
    | none => rw [q] at h; exact h.elim
    | some b =>
      rw [q] at h
      unfold inD at q
      cases qi : items e with
      | none => rw [qi] at q; cases q
      | some xs =>
        rw [qi] at q
        dsimp only at q
        obtain ⟨a, vs, rfl, n, l⟩ := r2.items qi
        by_cases hf : (flatD d && xs.all flatD) = true
        · rw [if_pos hf] at q
          cases q
          obtain ⟨f1, f2⟩ := Bool.and_eq_true_iff.mp hf
          have isd : Is K ω H Γ.xi d v := r1.is fun ds z => by rw [z] at f1; cases f1
          refine ⟨a, vs, rfl, n, flat_v isd f1, flat_all l f2, ?_⟩
          rw [flat_in isd f1 l f2]
          exact okR.now (x := Vl.fz _) h R rfl
        · rw [if_neg hf] at q; cases q
  · exact h.elim

/-! ### x[i], x[lo:hi] -/
def getD? (d : D) (i : Int) : Option D := match d with
  | .lst xs => atI xs i
  | .tup xs => atI xs i
  | .str z => if z.length ≤ sizeLine then (atI z.cps.toList i).map fun c => .str ⟨#[c]⟩ else none
  | _ => none
def opIx (x y : Vl) (δ : DSt) : R Vl := match dr δ x, dr δ y with
  | some d, some (.int i) => (match getD? d i with
    | some e => .ok (.fz e) δ
    | none => .stuck)
  | _, _ => .stuck
theorem IsL.atI {ds : List D} {vs : List V} (l : IsL K ω H xi ds vs) {i : Int} {d : D} (h : atI ds i = some d) : ∃ v, L2.atI vs i = some v ∧ Is K ω H xi d v := by
  unfold L2.atI at h ⊢
  rw [l.length]
  cases e : ixN ds.length i with
  | none => rw [e] at h; cases h
  | some j =>
    rw [e] at h
    exact l.get h
theorem op2_ix : Op2 K Γ (rIx K) opIx := fun W ω H σ δ x y v w Q R i1 i2 h => by
  unfold opIx at h
  split at h
  · rename_i d i e1 e2
    have r1 := dr_ok R i1 e1
    have hw := (dr_ok R i2 e2).int
    subst hw
    cases q : getD? d i with
    | none => rw [q] at h; exact h.elim
    | some e =>
      rw [q] at h
      cases d with
      | lst xs =>
        obtain ⟨a, vs, rfl, n, l⟩ := r1.lst
        obtain ⟨u, q1, q2⟩ := IsL.atI l q
        exact .inl ⟨a, vs, i, u, rfl, rfl, n, q1, okR.now (x := Vl.fz e) h R q2⟩
      | tup xs =>
        obtain ⟨a, vs, rfl, _, n, l⟩ := r1.tup
        obtain ⟨u, q1, q2⟩ := IsL.atI l q
        exact .inr (.inl ⟨a, vs, i, u, rfl, rfl, n, q1, okR.now (x := Vl.fz e) h R q2⟩)
      | str z =>
        have hv := r1.str
        subst hv
        unfold getD? at q
        dsimp only at q
        by_cases hz : z.length ≤ sizeLine
        · rw [if_pos hz] at q
          cases qa : L2.atI z.cps.toList i with
          | none => rw [qa] at q; cases q
          | some c =>
            rw [qa] at q
            cases q
            exact .inr (.inr ⟨z, i, c, rfl, rfl, hz, qa, okR.now (x := Vl.fz _) h R rfl⟩)
        · rw [if_neg hz] at q; cases q
      | _ => cases q
  · exact h.elim
def cutD (xs : List D) (lo hi : Option Int) : List D := (xs.drop (HT.sIx xs.length 0 lo)).take (HT.sIx xs.length xs.length hi - HT.sIx xs.length 0 lo)
theorem IsL.cut {ds : List D} {vs : List V} (l : IsL K ω H xi ds vs) (lo hi : Option Int) : IsL K ω H xi (cutD ds lo hi) (cutV vs lo hi) := by
  unfold cutD cutV
  rw [l.length]
  exact (l.drop _).take _
end
/-- a bound of a slice -/
abbrev TDO := DSt → R (Option Int)
structure DO (X : Cx) (Γ : Gm) (e : Option Expr) (t : TDO) : Prop where
  run : ∀ W, L2N.Takes X W → PO X e (up X.K Γ W (fun _ _ _ x v => v = x) t)
section
variable {X : Cx} {Γ : Gm} {e : Expr} {t : TD} {lo hi : Option Expr} {pos p2 : Pos}
theorem PO.imp {X : Cx} {e : Option Expr} {t t' : TO} (h : PO X e t) (k : ∀ σ H Q, t' σ H Q → t σ H Q) : PO X e t' := ⟨fun p s σ H Q I q => h.run p s σ H Q I (k σ H Q q)⟩
def oNone : TDO := fun δ => .ok none δ
def oSome (t : TD) : TDO := fun δ => (t δ).bind fun x δ1 => match dr δ1 x with
  | some (.int i) => .ok (some i) δ1
  | _ => .stuck
theorem do_none : DO X Γ none oNone := ⟨fun W tk => PO.imp po_none fun σ H Q h => by
  obtain ⟨ω, δ, R, h⟩ := h
  exact okR.now (x := (none : Option Int)) h R rfl⟩
theorem do_some (h : DE X Γ e t) : DO X Γ (some e) (oSome t) := ⟨fun W tk => PO.imp (po_some (h.run W tk)) fun σ H Q h => by
  obtain ⟨ω, δ, R, h⟩ := h
  refine up_bind (t := t) R h fun v H1 ω1 δ1 x e1 R1 i1 h1 => ?_
  split at h1
  · rename_i i q
    exact ⟨i, (dr_ok R1 i1 q).int, okR.now (x := some i) h1 R1 rfl⟩
  · exact h1.elim⟩
def sliceD (d : D) (lo hi : Option Int) : Option D := match d with
  | .lst xs => some (.lst (cutD xs lo hi))
  | .tup xs => some (.tup (cutD xs lo hi))
  | .str z => if z.length ≤ sizeLine then some (.str (cutS z lo hi)) else none
  | .scr is => some (.lst ((cutV (is.map V.int) lo hi).filterMap fun v => match v with | .int i => some (D.int i) | _ => none))
  | _ => none
def eSl (t : TD) (l h : TDO) : TD := fun δ => (t δ).bind fun x δ1 => (l δ1).bind fun a δ2 => (h δ2).bind fun b δ3 => match dr δ3 x with
  | some d => (match sliceD d a b with
    | some e => .ok (.fz e) δ3
    | none => .stuck)
  | none => .stuck
theorem cutV_ints (is : List Int) (lo hi : Option Int) : ∃ js : List Int, cutV (is.map V.int) lo hi = js.map V.int := by
  refine ⟨(is.drop (HT.sIx is.length 0 lo)).take (HT.sIx is.length is.length hi - HT.sIx is.length 0 lo), ?_⟩
  unfold cutV
  rw [List.length_map, List.map_take, List.map_drop]
theorem fm_ints (js : List Int) : ((js.map V.int).filterMap fun v => match v with | .int i => some (D.int i) | _ => none) = js.map D.int := by
  induction js with
  | nil => rfl
  | cons j r ih => rw [List.map_cons, List.filterMap_cons, List.map_cons, ih]
def rSl3 (K : Frag) : V → Option Int → Option Int → Hp → VK → Prop := fun x lo hi H Q => (rSlL K x lo hi H Q ∨ rSlA K x lo hi H Q) ∨ rSlS x lo hi H Q
theorem de_slice {tl th : TDO} (he : DE X Γ e t) (hl : DO X Γ lo tl) (hh : DO X Γ hi th) : DE X Γ (.Subscript e (.Slice lo hi none p2) pos) (eSl t tl th) :=
  ⟨fun W tk => PE.imp (pe_slice (r := rSl3 X.K) ((sl_list.or sl_tupA).or sl_str) (he.run W tk) (hl.run W tk) (hh.run W tk)) fun σ H Q h => by
    obtain ⟨ω, δ, R, h⟩ := h
    refine up_bind (t := t) R h fun v H1 ω1 δ1 x e1 R1 i1 h1 => ?_
    refine up_bind (t := tl) R1 h1 fun l H2 ω2 δ2 a e2 R2 i2 h2 => ?_
    refine up_bind (t := th) R2 h2 fun u H3 ω3 δ3 b e3 R3 i3 h3 => ?_
    cases i2
    cases i3
    have i1' := IsV.mono (e2.trans e3).f i1
    split at h3
    · rename_i d q
      have rb := dr_ok R3 i1' q
      cases qs : sliceD d l u with
      | none => rw [qs] at h3; exact h3.elim
      | some r =>
        rw [qs] at h3
        cases d with
        | lst xs =>
          cases qs
          obtain ⟨p, vs, rfl, n, ll⟩ := rb.lst
          exact .inl (.inl ⟨p, vs, rfl, n, new_lstV R3 (ll.cut l u) h3⟩)
        | scr is =>
          obtain ⟨p, rfl, n⟩ := rb.scr
          obtain ⟨js, ej⟩ := cutV_ints is l u
          unfold sliceD at qs
          dsimp only at qs
          rw [ej, fm_ints] at qs
          cases qs
          refine .inl (.inl ⟨p, _, rfl, n, ?_⟩)
          rw [ej]
          exact new_lstV R3 (IsL.mapV (f := D.int) (g := V.int) (fun _ => rfl) js) h3
        | tup xs =>
          cases qs
          obtain ⟨p, vs, rfl, n0, n, ll⟩ := rb.tup
          refine .inl (.inr ⟨p, vs, rfl, n, fun z => ?_, fun _ => new_tup R3 (ll.cut l u) h3⟩)
          refine okR.now (x := Vl.fz _) h3 R3 ⟨p, vs, rfl, n0, ?_⟩
          unfold cutD
          rw [← ll.length, z.1, z.2]
          rw [List.drop_zero, Nat.sub_zero, List.take_of_length_le (by rw [ll.length]; exact Nat.le_refl _)]
          exact ll
        | str z =>
          have hv := rb.str
          subst hv
          unfold sliceD at qs
          dsimp only at qs
          by_cases hz : z.length ≤ sizeLine
          · rw [if_pos hz] at qs
            cases qs
            exact .inr ⟨z, rfl, hz, okR.now (x := Vl.fz _) h3 R3 rfl⟩
          · rw [if_neg hz] at qs; cases qs
        | _ => cases qs
    · exact h3.elim⟩
theorem de_ix {b : Expr} {tb : TD} (ha : DE X Γ e t) (hb : DE X Γ b tb) (hs : PlainIx b := by exact fun _ _ => rfl) : DE X Γ (.Subscript e b pos) (eBin opIx t tb) :=
  ⟨fun W tk => PE.imp (pe_ix ix_seq (ha.run W tk) (hb.run W tk) hs) fun _ _ _ => up_op2 op2_ix⟩
end
end DL

set_option Elab.async false
set_option linter.all false
set_option maxRecDepth 100000
namespace DL
open PySem PySem.Spec PyProof.Rows L2
/-! ### several values kept -/
def frzs (δ : DSt) : List Vl → Option (List D × DSt)
  | [] => some ([], δ)
  | x :: xs => match frz δ x with
    | some (d, δ1) => (match frzs δ1 xs with
      | some (ds, δ2) => some (d :: ds, δ2)
      | none => none)
    | none => none
section
variable {K : Frag} {Γ : Gm} {W : WX} {ω ω' : Om} {H H' : Hp} {σ : L2.St} {δ δ' : DSt} {τ : Tg}
theorem frzs_ok : ∀ {xs : List Vl} {vs : List V} {ds : List D} {δ δ' : DSt} {ω : Om}, Rel K Γ ω H σ δ → IsVs K Γ ω H σ xs vs → frzs δ xs = some (ds, δ') → ∃ ω', Ext ω H ω' H ∧ Rel K Γ ω' H σ δ' ∧ IsL K ω' H Γ.xi ds vs
  | [], vs, ds, δ, δ', ω, R, i, e => by
    cases e
    cases (show vs = [] from i)
    exact ⟨ω, Ext.refl _ _, R, rfl⟩
  | x :: xs, vs, ds, δ, δ', ω, R, i, e => by
    obtain ⟨v, r, rfl, i1, i2⟩ := i
    unfold frzs at e
    cases q : frz δ x with
    | none => rw [q] at e; cases e
    | some p =>
      obtain ⟨d, δ1⟩ := p
      rw [q] at e
      dsimp only at e
      cases q2 : frzs δ1 xs with
      | none => rw [q2] at e; cases e
      | some p2 =>
        obtain ⟨ds2, δ2⟩ := p2
        rw [q2] at e
        cases e
        obtain ⟨ω1, X1, R1, h1⟩ := frz_ok R i1 q
        obtain ⟨ω2, X2, R2, h2⟩ := frzs_ok R1 (IsVs.mono X1.f i2) q2
        exact ⟨ω2, X1.trans X2, R2, v, r, rfl, h1.mono X2.f, h2⟩
theorem IsVs.length : ∀ {xs : List Vl} {vs : List V}, IsVs K Γ ω H σ xs vs → vs.length = xs.length
  | [], _, h => by rw [show _ = ([] : List V) from h] <;> rfl
  | x :: xs, _, h => by
    obtain ⟨v, r, rfl, _, h2⟩ := h
    rw [List.length_cons, List.length_cons, IsVs.length h2]
end
/-! ### displays -/
def gDis (f : List D → D) (t : TDA) : TDG := fun δ => (t δ).bind fun xs δ1 => match frzs δ1 xs with
  | some (ds, δ2) => if ds.length ≤ sizeLine then .ok (f ds) δ2 else .stuck
  | none => .stuck
section
variable {X : Cx} {Γ : Gm} {es : List Expr} {t : TDA} {pos : Pos} {τ : Tg} {x1 : Nat}
theorem dg_lst (hτ : τ ≠ .out) (h : DA X Γ es t) : DG X Γ τ (.List es pos) (gDis .lst t) := ⟨fun W tk => PE.imp (pe_lst (h.run W tk)) fun σ H Q hq => by
  obtain ⟨ω, δ, R, hq⟩ := hq
  refine up_bind (t := t) R hq fun vs H1 ω1 δ1 xs e1 R1 i1 h1 => ?_
  split at h1
  · rename_i ds δ2 q
    obtain ⟨ω2, X2, R2, l2⟩ := frzs_ok R1 i1 q
    by_cases hz : ds.length ≤ sizeLine
    · rw [if_pos hz] at h1
      exact ⟨by rw [l2.length]; exact hz, new_lst hτ R2 l2 (okR.ext X2 h1)⟩
    · rw [if_neg hz] at h1; exact h1.elim
  · exact h1.elim⟩
theorem de_lst (h : DA X Γ es t) : DE X Γ (.List es pos) (gFz (gDis .lst t)) := de_g (dg_lst (by intro z; cases z) h)
theorem dg_tup (h : DA X Γ es t) : DG X Γ .fz (.Tuple es x1 pos) (gDis .tup t) := ⟨fun W tk => PE.imp (pe_tup (h.run W tk)) fun σ H Q hq => by
  obtain ⟨ω, δ, R, hq⟩ := hq
  refine up_bind (t := t) R hq fun vs H1 ω1 δ1 xs e1 R1 i1 h1 => ?_
  split at h1
  · rename_i ds δ2 q
    obtain ⟨ω2, X2, R2, l2⟩ := frzs_ok R1 i1 q
    by_cases hz : ds.length ≤ sizeLine
    · rw [if_pos hz] at h1
      refine ⟨by rw [l2.length]; exact hz, fun p hp => ?_⟩
      have X3 := R2.nwExt (τ := .fz) hp (.tup vs)
      exact okR.at (x := D.tup ds) (okR.ext X2 h1) X3 (R2.new hp _) ⟨p, vs, rfl, .inl ⟨nwO_self, upd_same⟩, l2.mono X3.f⟩
    · rw [if_neg hz] at h1; exact h1.elim
  · exact h1.elim⟩
theorem de_tup (h : DA X Γ es t) : DE X Γ (.Tuple es x1 pos) (gFz (gDis .tup t)) := de_g (dg_tup h)

/-! ### built-in functions -/
def eCall (f : List Vl → DSt → R Vl) (t : TDA) : TD := fun δ => (t δ).bind fun xs δ1 => f xs δ1
def gCall (f : List Vl → DSt → R D) (t : TDA) : TDG := fun δ => (t δ).bind fun xs δ1 => f xs δ1
def OpN (K : Frag) (Γ : Gm) (r : List V → Hp → VK → Prop) (f : List Vl → DSt → R Vl) : Prop :=
  ∀ (W : WX) (ω : Om) (H : Hp) (σ : L2.St) (δ : DSt) (xs : List Vl) (vs : List V) (Q : VK), Rel K Γ ω H σ δ → IsVs K Γ ω H σ xs vs → okV K Γ W ω H σ (f xs δ) Q → r vs H Q
def OpNG (K : Frag) (Γ : Gm) (τ : Tg) (r : List V → Hp → VK → Prop) (f : List Vl → DSt → R D) : Prop :=
  ∀ (W : WX) (ω : Om) (H : Hp) (σ : L2.St) (δ : DSt) (xs : List Vl) (vs : List V) (Q : VK), Rel K Γ ω H σ δ → IsVs K Γ ω H σ xs vs → okG K Γ W τ ω H σ (f xs δ) Q → r vs H Q
variable {e : Expr} {x : Str} {p : Pos} {id T : String} {r : List V → Hp → VK → Prop} {f : List Vl → DSt → R Vl} {g : List Vl → DSt → R D}
theorem de_callB (hc : CallR X (.builtin id) r) (ho : OpN X.K Γ r f) (hm : X.mg x = none) (hv : bootBuiltins x = some (.builtin id)) (ha : DA X Γ (e :: es) t) (hg : Gl X x := by rfl) (hn : x ≠ "__name__" := by decide) (hdb : (x == ("__debug__" : Str)) = false := by decide)
    (he : starEach (e :: es) X.env = (false, eval e X.env) :: starEach es X.env := by rfl) (hpl : (backTo pos (starEach es X.env)).any (·.1) = false := by rfl) : DE X Γ (.Call (.Name x p) (e :: es) [] pos) (eCall f t) :=
  ⟨fun W tk => PE.imp (pe_callB hc hg hm hv (ha.run W tk) hn hdb he hpl) fun σ H Q h => by
    obtain ⟨ω, δ, R, h⟩ := h
    exact up_bind (t := t) R h fun vs H1 ω1 δ1 xs e1 R1 i1 h1 => ho W ω1 H1 σ δ1 xs vs Q R1 i1 h1⟩
theorem de_callTy (hc : CallR X (.type T) r) (ho : OpN X.K Γ r f) (hm : X.mg x = none) (hv : bootBuiltins x = some (.type T)) (ha : DA X Γ (e :: es) t) (hg : Gl X x := by rfl) (hn : x ≠ "__name__" := by decide) (hdb : (x == ("__debug__" : Str)) = false := by decide)
    (he : starEach (e :: es) X.env = (false, eval e X.env) :: starEach es X.env := by rfl) (hpl : (backTo pos (starEach es X.env)).any (·.1) = false := by rfl) : DE X Γ (.Call (.Name x p) (e :: es) [] pos) (eCall f t) :=
  ⟨fun W tk => PE.imp (pe_callTy hc hg hm hv (ha.run W tk) hn hdb he hpl) fun σ H Q h => by
    obtain ⟨ω, δ, R, h⟩ := h
    exact up_bind (t := t) R h fun vs H1 ω1 δ1 xs e1 R1 i1 h1 => ho W ω1 H1 σ δ1 xs vs Q R1 i1 h1⟩
theorem dg_callTy (hc : CallR X (.type T) r) (ho : OpNG X.K Γ τ r g) (hm : X.mg x = none) (hv : bootBuiltins x = some (.type T)) (ha : DA X Γ (e :: es) t) (hg : Gl X x := by rfl) (hn : x ≠ "__name__" := by decide) (hdb : (x == ("__debug__" : Str)) = false := by decide)
    (he : starEach (e :: es) X.env = (false, eval e X.env) :: starEach es X.env := by rfl) (hpl : (backTo pos (starEach es X.env)).any (·.1) = false := by rfl) : DG X Γ τ (.Call (.Name x p) (e :: es) [] pos) (gCall g t) :=
  ⟨fun W tk => PE.imp (pe_callTy hc hg hm hv (ha.run W tk) hn hdb he hpl) fun σ H Q h => by
    obtain ⟨ω, δ, R, h⟩ := h
    exact up_bind (t := t) R h fun vs H1 ω1 δ1 xs e1 R1 i1 h1 => ho W ω1 H1 σ δ1 xs vs Q R1 i1 h1⟩
end
section
variable {K : Frag} {Γ : Gm} {W : WX} {ω ω' : Om} {H H' : Hp} {σ : L2.St} {δ δ' : DSt} {τ : Tg}
/-- one argument, by its data -/
def fn1 (f : D → Option D) : List Vl → DSt → R Vl
  | [x], δ => (match dr δ x with
    | some d => (match f d with
      | some r => .ok (.fz r) δ
      | none => .stuck)
    | none => .stuck)
  | _, _ => .stuck
theorem fn1_ok {f : D → Option D} {xs : List Vl} {vs : List V} {Q : VK} (R : Rel K Γ ω H σ δ) (i : IsVs K Γ ω H σ xs vs) (h : okV K Γ W ω H σ (fn1 f xs δ) Q) : ∃ v d r, vs = [v] ∧ Rb K ω H Γ.xi d v ∧ f d = some r ∧ okV K Γ W ω H σ (.ok (.fz r) δ) Q := by
  match xs, i, h with
  | [], _, h => exact h.elim
  | [x], i, h =>
    obtain ⟨v, r, rfl, i1, i2⟩ := i
    cases (show r = [] from i2)
    unfold fn1 at h
    cases q : dr δ x with
    | none => simp only [q] at h; exact h.elim
    | some d =>
      simp only [q] at h
      cases q2 : f d with
      | none => simp only [q2] at h; exact h.elim
      | some r =>
        simp only [q2] at h
        exact ⟨v, d, r, rfl, dr_ok R i1 q, q2, h⟩
  | _ :: _ :: _, _, h => exact h.elim
/-- two arguments -/
def fn2 (f : D → D → Option D) : List Vl → DSt → R Vl
  | [x, y], δ => (match dr δ x, dr δ y with
    | some d, some e => (match f d e with
      | some r => .ok (.fz r) δ
      | none => .stuck)
    | _, _ => .stuck)
  | _, _ => .stuck
theorem fn2_ok {f : D → D → Option D} {xs : List Vl} {vs : List V} {Q : VK} (R : Rel K Γ ω H σ δ) (i : IsVs K Γ ω H σ xs vs) (h : okV K Γ W ω H σ (fn2 f xs δ) Q) : ∃ v w d e r, vs = [v, w] ∧ Rb K ω H Γ.xi d v ∧ Rb K ω H Γ.xi e w ∧ f d e = some r ∧ okV K Γ W ω H σ (.ok (.fz r) δ) Q := by
  match xs, i, h with
  | [], _, h => exact h.elim
  | [x], _, h => exact h.elim
  | [x, y], i, h =>
    obtain ⟨v, r, rfl, i1, i2⟩ := i
    obtain ⟨w, r, rfl, i2, i3⟩ := i2
    cases (show r = [] from i3)
    unfold fn2 at h
    cases q : dr δ x with
    | none => simp only [q] at h; exact h.elim
    | some d =>
      cases q1 : dr δ y with
      | none => simp only [q, q1] at h; exact h.elim
      | some e =>
        simp only [q, q1] at h
        cases q2 : f d e with
        | none => simp only [q2] at h; exact h.elim
        | some r =>
          simp only [q2] at h
          exact ⟨v, w, d, e, r, rfl, dr_ok R i1 q, dr_ok R i2 q1, q2, h⟩
  | _ :: _ :: _ :: _, _, h => exact h.elim
def lenD : D → Option D
  | .lst xs => some (.int xs.length)
  | .tup xs => some (.int xs.length)
  | .str z => if z.length ≤ sizeLine then some (.int z.length) else none
  | _ => none
theorem opn_len : OpN K Γ (fun xs H Q => ∃ x n, xs = [x] ∧ LenV K x H n ∧ Q (.int n) H) (fn1 lenD) := fun W ω H σ δ xs vs Q R i h => by
  obtain ⟨v, d, r, rfl, rb, e, h⟩ := fn1_ok R i h
  cases d with
  | lst ds =>
    cases e
    obtain ⟨a, ws, rfl, n, l⟩ := rb.lst
    exact ⟨_, ws.length, rfl, .inl ⟨ws, n, rfl⟩, by rw [l.length]; exact okR.now (x := Vl.fz _) h R rfl⟩
  | tup ds =>
    cases e
    obtain ⟨a, ws, rfl, _, n, l⟩ := rb.tup
    exact ⟨_, ws.length, rfl, .inr ⟨ws, n, rfl⟩, by rw [l.length]; exact okR.now (x := Vl.fz _) h R rfl⟩
  | str z =>
    cases rb.str
    unfold lenD at e
    dsimp only at e
    by_cases hz : z.length ≤ sizeLine
    · rw [if_pos hz] at e
      cases e
      exact ⟨_, z.length, rfl, ⟨hz, rfl⟩, okR.now (x := Vl.fz _) h R rfl⟩
    · rw [if_neg hz] at e; cases e
  | _ => cases e
def intD : D → Option D
  | .int i => some (.int i)
  | .bl b => some (.int (if b then 1 else 0))
  | _ => none
theorem opn_int : OpN K Γ (fun xs H Q => (∃ i, xs = [.int i] ∧ Q (.int i) H) ∨ ∃ k, xs = [.bl k] ∧ Q (.int (if k then 1 else 0)) H) (fn1 intD) := fun W ω H σ δ xs vs Q R i h => by
  obtain ⟨v, d, r, rfl, rb, e, h⟩ := fn1_ok R i h
  cases d with
  | int i => cases e; cases rb.int; exact .inl ⟨_, rfl, okR.now (x := Vl.fz _) h R rfl⟩
  | bl b => cases e; cases rb.bl; exact .inr ⟨_, rfl, okR.now (x := Vl.fz _) h R rfl⟩
  | _ => cases e
def absD : D → Option D
  | .int i => some (.int (if i < 0 then -i else i))
  | _ => none
theorem opn_abs : OpN K Γ (fun xs H Q => ∃ i, xs = [.int i] ∧ Q (.int (if i < 0 then -i else i)) H) (fn1 absD) := fun W ω H σ δ xs vs Q R i h => by
  obtain ⟨v, d, r, rfl, rb, e, h⟩ := fn1_ok R i h
  cases d with
  | int i => cases e; cases rb.int; exact ⟨_, rfl, okR.now (x := Vl.fz _) h R rfl⟩
  | _ => cases e
def max2D : D → D → Option D
  | .int i, .int j => some (.int (if j > i then j else i))
  | _, _ => none
def min2D : D → D → Option D
  | .int i, .int j => some (.int (if j < i then j else i))
  | _, _ => none
theorem opn_max2 : OpN K Γ (fun xs H Q => ∃ i j, xs = [.int i, .int j] ∧ Q (.int (if j > i then j else i)) H) (fn2 max2D) := fun W ω H σ δ xs vs Q R i h => by
  obtain ⟨v, w, d, e, r, rfl, rb, rc, eq, h⟩ := fn2_ok R i h
  cases d with
  | int i =>
    cases e with
    | int j => cases eq; cases rb.int; cases rc.int; exact ⟨_, _, rfl, okR.now (x := Vl.fz _) h R rfl⟩
    | _ => cases eq
  | _ => cases eq
theorem opn_min2 : OpN K Γ (fun xs H Q => ∃ i j, xs = [.int i, .int j] ∧ Q (.int (if j < i then j else i)) H) (fn2 min2D) := fun W ω H σ δ xs vs Q R i h => by
  obtain ⟨v, w, d, e, r, rfl, rb, rc, eq, h⟩ := fn2_ok R i h
  cases d with
  | int i =>
    cases e with
    | int j => cases eq; cases rb.int; cases rc.int; exact ⟨_, _, rfl, okR.now (x := Vl.fz _) h R rfl⟩
    | _ => cases eq
  | _ => cases eq
def intsD : List D → Option (List Int)
  | [] => some []
  | .int i :: r => (match intsD r with
    | some s => some (i :: s)
    | none => none)
  | _ => none
theorem intsD_ok : ∀ {ds : List D} {is : List Int}, intsD ds = some is → ds = is.map D.int
  | [], _, e => by cases e; rfl
  | d :: ds, is, e => by
    cases d with
    | int i =>
      unfold intsD at e
      cases q : intsD ds with
      | none => rw [q] at e; cases e
      | some s =>
        rw [q] at e
        cases e
        rw [List.map_cons, intsD_ok q]
    | _ => cases e
theorem intsD_map (is : List Int) : intsD (is.map D.int) = some is := by
  induction is with
  | nil => rfl
  | cons i r ih => rw [List.map_cons]; unfold intsD; rw [ih]
theorem IsL.ints : ∀ {is : List Int} {vs : List V}, IsL K ω H Γ.xi (is.map D.int) vs → vs = is.map V.int
  | [], _, h => h
  | i :: is, _, h => by
    obtain ⟨v, r, rfl, h1, h2⟩ := h
    rw [List.map_cons, IsL.ints h2, show v = V.int i from h1]
def sumD : D → Option D
  | .lst xs => (intsD xs).map fun is => .int is.sum
  | .tup xs => (intsD xs).map fun is => .int is.sum
  | _ => none
/-- sum of a list or a tuple of ints -/
def rSum2 (K : Frag) : List V → Hp → VK → Prop := fun vs H Q => rSum K vs H Q ∨ ∃ (a : Addr) (ns : List Int), vs = [V.ref a] ∧ SqT K H a (ns.map V.int) ∧ Q (.int ns.sum) H
theorem call_sum2 {X : Cx} (hc : X.calm = true) : CallR X (.builtin "sum") (rSum2 X.K) := fun pins s σ H vs us Q I r h => by
  rcases h with h | ⟨a, ns, rfl, hs, q⟩
  · exact cr_sum hc pins s σ H vs us Q I r h
  · obtain ⟨its, rv, ht, _⟩ := I.tuple hs
    rw [Vals.ref1 r]
    have hi := rv.ints
    obtain ⟨xs, hx⟩ := hi.allInts.items
    have hn : numsOf its.toArray.toList = ns := by rw [show its.toArray.toList = its from rfl, hi.numsOf]
    rw [hx] at hn
    rw [nums_intItems] at hn
    have ht2 : s.heap.IsTuple a (intItems xs) := by rw [← hx]; exact ht
    refine PySem.W.ktm_sumG (I.ok.hd hc) ht2 fun h' tk t' hk => ?_
    rw [preSum_eq, List.take_of_length_le (by simp), hn]
    exact ⟨.int _, H, I.kept hk, ⟨_, rfl⟩, q⟩
theorem opn_sum : OpN K Γ (rSum2 K) (fn1 sumD) := fun W ω H σ δ xs vs Q R i h => by
  obtain ⟨v, d, r, rfl, rb, e, h⟩ := fn1_ok R i h
  cases d with
  | lst ds =>
    unfold sumD at e
    dsimp only at e
    cases q : intsD ds with
    | none => rw [q] at e; cases e
    | some is =>
      rw [q] at e
      cases e
      obtain ⟨a, ws, rfl, n, l⟩ := rb.lst
      rw [intsD_ok q] at l
      exact .inl ⟨a, is, rfl, by rw [← l.ints]; exact n, okR.now (x := Vl.fz _) h R rfl⟩
  | tup ds =>
    unfold sumD at e
    dsimp only at e
    cases q : intsD ds with
    | none => rw [q] at e; cases e
    | some is =>
      rw [q] at e
      cases e
      obtain ⟨a, ws, rfl, _, n, l⟩ := rb.tup
      rw [intsD_ok q] at l
      exact .inr ⟨a, is, rfl, by rw [← l.ints]; exact n, okR.now (x := Vl.fz _) h R rfl⟩
  | _ => cases e
/-- list(x), tuple(x) -/
def fnL : List Vl → DSt → R D
  | [x], δ => (match dr δ x with
    | some d => (match items d with
      | some ds => .ok (.lst ds) δ
      | none => .stuck)
    | none => .stuck)
  | _, _ => .stuck
theorem opn_list (hτ : τ ≠ .out) : OpNG K Γ τ (fun xs H Q => ∃ p ys, xs = [.ref p] ∧ (SqL K H p ys ∨ SqT K H p ys) ∧ ∀ l, H l = none → Q (.ref l) (upd H l (.lst ys))) fnL := fun W ω H σ δ xs vs Q R i h => by
  match xs, i, h with
  | [], _, h => exact h.elim
  | [x], i, h =>
    obtain ⟨v, r, rfl, i1, i2⟩ := i
    cases (show r = [] from i2)
    unfold fnL at h
    cases q : dr δ x with
    | none => simp only [q] at h; exact h.elim
    | some d =>
      simp only [q] at h
      cases q2 : items d with
      | none => simp only [q2] at h; exact h.elim
      | some ds =>
        simp only [q2] at h
        obtain ⟨a, ws, rfl, n, l⟩ := (dr_ok R i1 q).items q2
        exact ⟨a, ws, rfl, n, new_lst hτ R l h⟩
  | _ :: _ :: _, _, h => exact h.elim
def tupD : D → Option D
  | .lst xs => some (.tup xs)
  | .tup xs => some (.tup xs)
  | _ => none
theorem opn_tuple : OpN K Γ (fun xs H Q => ∃ p ys, xs = [.ref p] ∧ ((SqL K H p ys ∧ ∀ l, H l = none → Q (.ref l) (upd H l (.tup ys))) ∨ (SqT K H p ys ∧ Q (.ref p) H))) (fn1 tupD) := fun W ω H σ δ xs vs Q R i h => by
  obtain ⟨v, d, r, rfl, rb, e, h⟩ := fn1_ok R i h
  cases d with
  | lst ds =>
    cases e
    obtain ⟨a, ws, rfl, n, l⟩ := rb.lst
    exact ⟨a, ws, rfl, .inl ⟨n, new_tup R l h⟩⟩
  | tup ds =>
    cases e
    obtain ⟨a, ws, rfl, n0, n, l⟩ := rb.tup
    exact ⟨a, ws, rfl, .inr ⟨n, okR.now (x := Vl.fz _) h R ⟨a, ws, rfl, n0, l⟩⟩⟩
  | _ => cases e
/-! isinstance -/
def tyD : D → Option String
  | .non => some "NoneType"
  | .bl _ => some "bool"
  | .int _ => some "int"
  | .str _ => some "str"
  | .lst _ => some "list"
  | .tup _ => some "tuple"
  | _ => none
theorem NdT.ty {a : Addr} {vs : List V} (h : NdT K ω H a vs) : TyX K H (.ref a) (.type "tuple") := by
  rcases h with ⟨_, h⟩ | ⟨o, its, n, h, c, _⟩
  · exact .base (.tup h)
  · exact .kTuple h c
theorem ty_ok {d : D} {v : V} {n : String} (h : Rb K ω H Γ.xi d v) (e : tyD d = some n) : TyX K H v (.type n) := by
  cases d with
  | non => cases e; cases h.non; exact .base .non
  | bl b => cases e; cases h.bl; exact .base (.bl b)
  | int b => cases e; cases h.int; exact .base (.int b)
  | str b => cases e; cases h.str; exact .base (.str b)
  | lst ds =>
    cases e
    obtain ⟨a, vs, rfl, q, _⟩ := h.lstH
    exact .base (.lst q)
  | tup ds =>
    cases e
    obtain ⟨a, vs, rfl, q, _⟩ := h.tup
    exact q.ty
  | _ => cases e
/-- isinstance of a built-in type -/
def isiD : D → D → Option D
  | d, .ty m => (match tyD d with
    | some n => (kitB n m).map D.bl
    | none => none)
  | _, _ => none
theorem opn_isi : OpN K Γ (rIsi K) (fn2 isiD) := fun W ω H σ δ xs vs Q R i h => by
  obtain ⟨v, w, d, e, r, rfl, rb, rc, eq, h⟩ := fn2_ok R i h
  cases e with
  | ty m =>
    unfold isiD at eq
    dsimp only at eq
    cases q : tyD d with
    | none => rw [q] at eq; cases eq
    | some n =>
      rw [q] at eq
      dsimp only at eq
      cases q2 : kitB n m with
      | none => rw [q2] at eq; cases eq
      | some b =>
        rw [q2] at eq
        cases eq
        have hw : w = .ty m := rc.is fun _ => D.noConfusion
        subst hw
        exact ⟨v, .ty m, _, _, b, rfl, .ty m, ty_ok rb q, kit_ty q2, okR.now (x := Vl.fz _) h R rfl⟩
  | _ => cases eq
end
/-- a built-in type as a value -/
theorem de_ty {X : Cx} {Γ : Gm} {x : Str} {n : String} {pos : Pos} (hm : X.mg x = none) (hv : bootBuiltins x = some (.type n)) (hg : Gl X x := by rfl) (hn : x ≠ "__name__" := by decide) (hd : (x == ("__debug__" : Str)) = false := by decide) : DE X Γ (.Name x pos) (eC (.ty n)) :=
  de_c (pe_bltn (v := .ty n) hg hm hv rfl hn hd) fun _ _ _ => rfl
end DL

set_option Elab.async false
set_option linter.all false
set_option maxRecDepth 100000
namespace DL
open PySem PySem.Spec PyProof.Rows L2
inductive Fl where
  | nx (δ : DSt) | rt (x : Vl) (δ : DSt) | rg (d : D) (δ : DSt) | bk (δ : DSt) | ct (δ : DSt) | ex (c : Str) (ns : List Str) (ds : List D) (δ : DSt) | stuck
/-- an own result's tag -/
abbrev tagR : Nat := 1000
def okS (K : Frag) (Γ : Gm) (W : WX) (ω : Om) (H : Hp) : Fl → Ends → Prop
  | .nx δ, D => ∀ σ' H' ω', Ext ω H ω' H' → Rel K Γ ω' H' σ' δ → D.nx σ' H'
  | .bk δ, D => ∀ σ' H' ω', Ext ω H ω' H' → Rel K Γ ω' H' σ' δ → D.bk σ' H'
  | .ct δ, D => ∀ σ' H' ω', Ext ω H ω' H' → Rel K Γ ω' H' σ' δ → D.ct σ' H'
  | .rt x δ, D => ∀ v σ' H' ω', Ext ω H ω' H' → Rel K Γ ω' H' σ' δ → IsV K Γ ω' H' σ' x v → D.rt v H'
  | .rg d δ, D => ∀ v σ' H' ω', Ext ω H ω' H' → Rel K Γ ω' H' σ' δ → rlG K Γ (.own tagR) ω' H' σ' d v → D.rt v H'
  | .ex c ns ds δ, _ => ∀ d σ' H' ω', Ext ω H ω' H' → Rel K Γ ω' H' σ' δ → XIs K Γ ω' H' ns ds d → W (.ref (He.ga K c)) d σ' H'
  | .stuck, _ => False
abbrev TDS := DSt → Fl
def upS (K : Frag) (Γ : Gm) (W : WX) (t : TDS) : TS := fun D σ H => ∃ ω δ, Rel K Γ ω H σ δ ∧ okS K Γ W ω H (t δ) D
structure DS (X : Cx) (Γ : Gm) (st : Stmt) (t : TDS) : Prop where
  run : ∀ W, L2N.Takes X W → PS X st (upS X.K Γ W t)
structure DB (X : Cx) (Γ : Gm) (st : List Stmt) (t : TDS) : Prop where
  run : ∀ W, L2N.Takes X W → PSs X st (upS X.K Γ W t)
section
variable {K : Frag} {Γ : Gm} {W : WX} {ω ω' : Om} {H H' : Hp} {σ : L2.St} {δ δ' : DSt} {α β : Type} {rel : Om → Hp → L2.St → α → β → Prop}
theorem okS.ext (e : Ext ω H ω' H') {f : Fl} {D : Ends} (h : okS K Γ W ω H f D) : okS K Γ W ω' H' f D := by
  cases f with
  | nx δ => exact fun s H2 ω2 x => h s H2 ω2 (e.trans x)
  | bk δ => exact fun s H2 ω2 x => h s H2 ω2 (e.trans x)
  | ct δ => exact fun s H2 ω2 x => h s H2 ω2 (e.trans x)
  | rt y δ => exact fun v s H2 ω2 x => h v s H2 ω2 (e.trans x)
  | rg y δ => exact fun v s H2 ω2 x => h v s H2 ω2 (e.trans x)
  | ex c ns ds δ => exact fun d s H2 ω2 x => h d s H2 ω2 (e.trans x)
  | stuck => exact h
/-- the ends but nx as they are -/
theorem okS.imp {f : Fl} {D D' : Ends} (h : okS K Γ W ω H f D) (h1 : ∀ δ, f = .nx δ → ∀ σ' H' ω', Ext ω H ω' H' → Rel K Γ ω' H' σ' δ → D.nx σ' H' → D'.nx σ' H') (h2 : ∀ v H, D.rt v H → D'.rt v H) (h3 : ∀ v H, D.bk v H → D'.bk v H) (h4 : ∀ v H, D.ct v H → D'.ct v H) : okS K Γ W ω H f D' := by
  cases f with
  | nx δ => exact fun s H2 ω2 x r => h1 δ rfl s H2 ω2 x r (h s H2 ω2 x r)
  | bk δ => exact fun s H2 ω2 x r => h3 _ _ (h s H2 ω2 x r)
  | ct δ => exact fun s H2 ω2 x r => h4 _ _ (h s H2 ω2 x r)
  | rt y δ => exact fun v s H2 ω2 x r i => h2 _ _ (h v s H2 ω2 x r i)
  | rg y δ => exact fun v s H2 ω2 x r i => h2 _ _ (h v s H2 ω2 x r i)
  | ex c ns ds δ => exact h
  | stuck => exact h
/-- a result, then a statement's end -/
def R.fl {α : Type} : R α → (α → DSt → Fl) → Fl
  | .ok a δ, f => f a δ
  | .exc c ns ds δ, _ => .ex c ns ds δ
  | .stuck, _ => .stuck
theorem up_fl (Rl : Rel K Γ ω H σ δ) {t : DSt → R α} {f : α → DSt → Fl} {D : Ends} (h : okS K Γ W ω H ((t δ).fl f) D) {P : β → Hp → Prop}
    (hP : ∀ v H1 ω1 δ1 x, Ext ω H ω1 H1 → Rel K Γ ω1 H1 σ δ1 → rel ω1 H1 σ x v → okS K Γ W ω1 H1 (f x δ1) D → P v H1) : up K Γ W rel t σ H P := by
  refine ⟨ω, δ, Rl, ?_⟩
  cases e : t δ with
  | ok x δ1 =>
    rw [e] at h
    exact fun v H1 ω1 e1 r1 i1 => hP v H1 ω1 δ1 x e1 r1 i1 (okS.ext e1 h)
  | exc c ns ds δ1 =>
    rw [e] at h
    exact fun d H1 ω1 e1 r1 i1 => h d σ H1 ω1 e1 r1 i1
  | stuck =>
    rw [e] at h
    exact h
theorem Rel.put (R : Rel K Γ ω H σ δ) {i : Nat} {e : Option (Nat × D)} {v : V} (hp : Γ.idx.contains i = false) (s : Sl K ω H Γ.xi i e (some v)) : Rel K Γ ω H (σ.set i (some v)) (δ.set i e) := by
  refine ⟨R.wf, by rw [List.length_set, List.length_set, R.len], fun j e' hj => ?_, fun q hq => ?_⟩
  · by_cases h : i = j
    · subst h
      have hl : i < δ.length := by
        have := (List.getElem?_eq_some_iff.mp hj).1
        rwa [List.length_set] at this
      rw [List.getElem?_set_self hl] at hj
      cases hj
      rw [List.getElem?_set_self (by rw [R.len]; exact hl)]
      exact s
    · rw [List.getElem?_set_ne h] at hj ⊢
      exact R.sl j e' hj
  · have hne : i ≠ q.1 := fun z => by
      have hm := Γ.ok q hq
      rw [← z] at hm
      rw [List.contains_iff_mem.mpr hm] at hp
      cases hp
    rw [List.getElem?_set_ne hne]
    exact R.pin q hq
/-- a slot forgotten -/
theorem Rel.drop (R : Rel K Γ ω H σ δ) (i : Nat) : Rel K Γ ω H σ (δ.set i none) := by
  refine ⟨R.wf, by rw [List.length_set, R.len], fun j e hj => ?_, R.pin⟩
  by_cases h : i = j
  · subst h
    have hl : i < δ.length := by
      have := (List.getElem?_eq_some_iff.mp hj).1
      rwa [List.length_set] at this
    rw [List.getElem?_set_self hl] at hj
    cases hj
    trivial
  · rw [List.getElem?_set_ne h] at hj
    exact R.sl j e hj
end
section
variable {X : Cx} {Γ : Gm} {st : Stmt} {rest : List Stmt} {t u : TDS} {e : Expr} {te : TD} {tg : TDG} {pos : Pos}
def sNil : TDS := fun δ => .nx δ
def sSeq (t u : TDS) : TDS := fun δ => match t δ with
  | .nx δ1 => u δ1
  | f => f
theorem db_nil : DB X Γ [] sNil := ⟨fun W tk => PSs.imp pss_nil fun D σ H h => by
  obtain ⟨ω, δ, R, h⟩ := h
  exact h σ H ω (Ext.refl _ _) R⟩
theorem up_seq {K : Frag} {W : WX} {D : Ends} {σ : L2.St} {H : Hp} (h : upS K Γ W (sSeq t u) D σ H) : upS K Γ W t { D with nx := upS K Γ W u D } σ H := by
  obtain ⟨ω, δ, R, h⟩ := h
  refine ⟨ω, δ, R, ?_⟩
  unfold sSeq at h
  cases q : t δ with
  | nx δ1 =>
    rw [q] at h
    exact fun σ' H' ω' x r => ⟨ω', δ1, r, okS.ext x h⟩
  | bk δ => rw [q] at h; exact h
  | ct δ => rw [q] at h; exact h
  | rt y δ => rw [q] at h; exact h
  | rg y δ => rw [q] at h; exact h
  | ex c ns ds δ => rw [q] at h; exact h
  | stuck => rw [q] at h; exact h
theorem db_cons (h1 : DS X Γ st t) (h2 : DB X Γ rest u) : DB X Γ (st :: rest) (sSeq t u) :=
  ⟨fun W tk => PSs.imp (pss_cons (h1.run W tk) (h2.run W tk)) fun D σ H h => up_seq h⟩
theorem db_one (h1 : DS X Γ st t) : DB X Γ [st] t := ⟨fun W tk => pss_one (h1.run W tk)⟩
theorem ds_pass : DS X Γ (.Pass pos) sNil := ⟨fun W tk => PS.imp ps_pass fun D σ H h => by
  obtain ⟨ω, δ, R, h⟩ := h
  exact h σ H ω (Ext.refl _ _) R⟩
def sBreak : TDS := fun δ => .bk δ
def sCont : TDS := fun δ => .ct δ
theorem ds_break : DS X Γ (.Break pos) sBreak := ⟨fun W tk => PS.imp ps_break fun D σ H h => by
  obtain ⟨ω, δ, R, h⟩ := h
  exact h σ H ω (Ext.refl _ _) R⟩
theorem ds_continue : DS X Γ (.Continue pos) sCont := ⟨fun W tk => PS.imp ps_continue fun D σ H h => by
  obtain ⟨ω, δ, R, h⟩ := h
  exact h σ H ω (Ext.refl _ _) R⟩
def sExpr (t : TD) : TDS := fun δ => (t δ).fl fun _ δ1 => .nx δ1
theorem ds_expr (he : DE X Γ e te) (hs : swapsWith e none pos.line X.env = pure false := by rfl) : DS X Γ (.Expr e pos) (sExpr te) := ⟨fun W tk => PS.imp (ps_expr (he.run W tk) hs) fun D σ H h => by
  obtain ⟨ω, δ, R, h⟩ := h
  exact up_fl (t := te) R h fun v H1 ω1 δ1 x e1 R1 i1 h1 => h1 σ H1 ω1 (Ext.refl _ _) R1⟩
def sRet (t : TD) : TDS := fun δ => (t δ).fl fun x δ1 => .rt x δ1
def sRetG (t : TDG) : TDS := fun δ => (t δ).fl fun x δ1 => .rg x δ1
theorem ds_ret (he : DE X Γ e te) : DS X Γ (.Return (some e) pos) (sRet te) := ⟨fun W tk => PS.imp (ps_ret (he.run W tk)) fun D σ H h => by
  obtain ⟨ω, δ, R, h⟩ := h
  exact up_fl (t := te) R h fun v H1 ω1 δ1 x e1 R1 i1 h1 => h1 v σ H1 ω1 (Ext.refl _ _) R1 i1⟩
theorem ds_retG (he : DG X Γ (.own tagR) e tg) : DS X Γ (.Return (some e) pos) (sRetG tg) := ⟨fun W tk => PS.imp (ps_ret (he.run W tk)) fun D σ H h => by
  obtain ⟨ω, δ, R, h⟩ := h
  exact up_fl (t := tg) R h fun v H1 ω1 δ1 x e1 R1 i1 h1 => h1 v σ H1 ω1 (Ext.refl _ _) R1 i1⟩
def sRetN : TDS := fun δ => .rt (.fz .non) δ
theorem ds_retN : DS X Γ (.Return none pos) sRetN := ⟨fun W tk => PS.imp ps_retN fun D σ H h => by
  obtain ⟨ω, δ, R, h⟩ := h
  exact h .non σ H ω (Ext.refl _ _) R rfl⟩
def sIf (c : TDT) (t u : TDS) : TDS := fun δ => (c δ).fl fun b δ1 => if b = true then t δ1 else u δ1
theorem ds_if {c : Expr} {a b : List Stmt} {tc : TDT} (hc : DT X Γ c tc) (ha : DB X Γ a t) (hb : DB X Γ b u) : DS X Γ (.If c a b pos) (sIf tc t u) := ⟨fun W tk => PS.imp (ps_if (hc.run W tk) (ha.run W tk) (hb.run W tk)) fun D σ H h => by
  obtain ⟨ω, δ, R, h⟩ := h
  refine up_fl (t := tc) R h fun v H1 ω1 δ1 x e1 R1 i1 h1 => ?_
  cases i1
  cases v with
  | true => exact iteT ⟨ω1, δ1, R1, h1⟩
  | false => exact iteF ⟨ω1, δ1, R1, h1⟩⟩
/-! ### x = e -/
def putF (i : Nat) (x : Vl) (δ : DSt) : Fl := match frz δ x with
  | some (d, δ1) => .nx (δ1.set i (some (0, d)))
  | none => .stuck
def sAsg (i : Nat) (t : TD) : TDS := fun δ => (t δ).fl (putF i)
def sAsgG (i : Nat) (t : TDG) : TDS := fun δ => (t δ).fl fun d δ1 => .nx (δ1.set i (some (1, d)))
theorem putF_ok {K : Frag} {W : WX} {ω : Om} {H : Hp} {σ : L2.St} {δ : DSt} {i : Nat} {x : Vl} {v : V} {D : Ends} (hp : Γ.idx.contains i = false) (R : Rel K Γ ω H σ δ) (iv : IsV K Γ ω H σ x v) (h : okS K Γ W ω H (putF i x δ) D) : D.nx (σ.set i (some v)) H := by
  unfold putF at h
  cases q : frz δ x with
  | none => rw [q] at h; exact h.elim
  | some p =>
    obtain ⟨d, δ1⟩ := p
    rw [q] at h
    obtain ⟨ω1, X1, R1, h1⟩ := frz_ok R iv q
    exact h _ H ω1 X1 (R1.put hp ⟨v, rfl, h1⟩)
theorem ds_asg {i : Nat} {x : Str} {p : Pos} (hN : X.N.Nodup) (hi : X.N[i]? = some x) (he : DE X Γ e te) (hx : Loc X.env.scope x := by first | exact .inl rfl | exact .inr rfl) (hf : X.fn x = true ∨ X.env.scope.names.lookup x = some .local := by first | exact .inl rfl | exact .inr rfl) (hp : Γ.idx.contains i = false := by rfl)
    (hs : swapsWithSole [.Name x p] e pos.line X.env = pure false := by rfl) (hw : swappedStores [.Name x p] e X.env = pure none := by rfl) (h1 : (assignEach [.Name x p] X.env).map (·.2) = [assign (.Name x p) X.env] := by rfl) : DS X Γ (.Assign [.Name x p] e pos) (sAsg i te) :=
  ⟨fun W tk => PS.imp (ps_asg (he.run W tk) (pg_name hN hi hx hf) hs hw h1) fun D σ H h => by
    obtain ⟨ω, δ, R, h⟩ := h
    exact up_fl (t := te) R h fun v H1 ω1 δ1 x e1 R1 i1 h1 => putF_ok hp R1 i1 h1⟩
theorem ds_asgG {i : Nat} {x : Str} {p : Pos} (hN : X.N.Nodup) (hi : X.N[i]? = some x) (he : DG X Γ (.own i) e tg) (hx : Loc X.env.scope x := by first | exact .inl rfl | exact .inr rfl) (hf : X.fn x = true ∨ X.env.scope.names.lookup x = some .local := by first | exact .inl rfl | exact .inr rfl) (hp : Γ.idx.contains i = false := by rfl)
    (hs : swapsWithSole [.Name x p] e pos.line X.env = pure false := by rfl) (hw : swappedStores [.Name x p] e X.env = pure none := by rfl) (h1 : (assignEach [.Name x p] X.env).map (·.2) = [assign (.Name x p) X.env] := by rfl) : DS X Γ (.Assign [.Name x p] e pos) (sAsgG i tg) :=
  ⟨fun W tk => PS.imp (ps_asg (he.run W tk) (pg_name hN hi hx hf) hs hw h1) fun D σ H h => by
    obtain ⟨ω, δ, R, h⟩ := h
    refine up_fl (t := tg) R h fun v H1 ω1 δ1 x e1 R1 i1 h1 => ?_
    obtain ⟨a, vs, ds, rfl, rfl, o, hl, l⟩ := i1
    exact h1 _ H1 ω1 (Ext.refl _ _) (R1.put hp ⟨a, vs, ds, rfl, rfl, o, hl, l⟩)⟩
/-! ### a, b = e1, e2 -/
def sPar (i j : Nat) (ta tb : TD) : TDS := fun δ => (ta δ).fl fun x δ1 => (tb δ1).fl fun y δ2 => match frz δ2 x with
  | some (d, δ3) => (match frz δ3 y with
    | some (e, δ4) => .nx ((δ4.set i (some (0, d))).set j (some (0, e)))
    | none => .stuck)
  | none => .stuck
end
end DL

set_option Elab.async false
set_option linter.all false
set_option maxRecDepth 100000
namespace DL
open PySem PySem.Spec PyProof.Rows L2
/-! ### targets: a name, or a tuple of names -/
inductive Tgt where
  | nm (i : Nat) | tp (is : List Nat)
def setN : List Nat → List D → DSt → Option DSt
  | [], [], δ => some δ
  | i :: is, d :: ds, δ => setN is ds (δ.set i (some (0, d)))
  | _, _, _ => none
def setT : Tgt → D → DSt → Option DSt
  | .nm i, d, δ => some (δ.set i (some (0, d)))
  | .tp is, .tup ds, δ => setN is ds δ
  | .tp _, _, _ => none
def Tgt.vs : Tgt → List Nat
  | .nm i => [i]
  | .tp is => is
def setNV : List Nat → List V → L2.St → L2.St
  | [], _, σ => σ
  | i :: is, v :: vs, σ => setNV is vs (σ.set i (some v))
  | _ :: _, [], σ => σ
def gNames (is : List Nat) : TGs := fun vs σ H Q => vs.length = is.length ∧ Q (setNV is vs σ) H
def gT (K : Frag) : Tgt → TG
  | .nm i => gName i
  | .tp is => gTup K is.length (gNames is)
structure PN (X : Cx) (es : List Expr) (is : List Nat) : Prop where
  run : PGs X es (gNames is)
section
variable {X : Cx}
theorem PGs.imp {es : List Expr} {t t' : TGs} (h : PGs X es t) (k : ∀ vs σ H Q, t' vs σ H Q → t vs σ H Q) : PGs X es t' := ⟨fun p s σ H vs us Q I r q => h.run p s σ H vs us Q I r (k vs σ H Q q)⟩
theorem pn_nil : PN X [] [] := ⟨PGs.imp pgs_nil fun vs σ H Q h => ⟨List.eq_nil_of_length_eq_zero h.1, h.2⟩⟩
theorem pn_cons {i : Nat} {x : Str} {p : Pos} {es : List Expr} {is : List Nat} (hN : X.N.Nodup) (hi : X.N[i]? = some x) (h2 : PN X es is) (hx : Loc X.env.scope x := by first | exact .inl rfl | exact .inr rfl) (hf : X.fn x = true ∨ X.env.scope.names.lookup x = some .local := by first | exact .inl rfl | exact .inr rfl)
    (hs : (assignEach (.Name x p :: es) X.env).map (·.2) = assign (.Name x p) X.env :: (assignEach es X.env).map (·.2) := by rfl) : PN X (.Name x p :: es) (i :: is) := ⟨PGs.imp (pgs_cons (pg_name hN hi hx hf) h2.run hs) fun vs σ H Q h => by
  obtain ⟨hl, q⟩ := h
  cases vs with
  | nil => cases hl
  | cons v r => exact ⟨v, r, rfl, Nat.succ.inj hl, q⟩⟩
structure DTg (X : Cx) (tg : Expr) (t : Tgt) : Prop where
  run : PG X tg (gT X.K t)
theorem dtg_nm {i : Nat} {x : Str} {p : Pos} (hN : X.N.Nodup) (hi : X.N[i]? = some x) (hx : Loc X.env.scope x := by first | exact .inl rfl | exact .inr rfl) (hf : X.fn x = true ∨ X.env.scope.names.lookup x = some .local := by first | exact .inl rfl | exact .inr rfl) : DTg X (.Name x p) (.nm i) := ⟨pg_name hN hi hx hf⟩
theorem dtg_tp {es : List Expr} {is : List Nat} {k : Nat} {pos : Pos} (hc : X.calm = true) (h : PN X es is) (hn : (assignEach es X.env).length = is.length := by rfl) (hst : (assignEach es X.env).findIdx? (·.1) = none := by rfl) : DTg X (.Tuple es k pos) (.tp is) := ⟨pg_tup hc h.run hn hst⟩
end
section
variable {K : Frag} {Γ : Gm} {W : WX} {ω ω' : Om} {H H' : Hp} {σ : L2.St} {δ δ' : DSt}
theorem setN_ok : ∀ {is : List Nat} {ds : List D} {vs : List V} {σ : L2.St} {δ δ' : DSt}, (∀ i ∈ is, Γ.idx.contains i = false) → Rel K Γ ω H σ δ → IsL K ω H Γ.xi ds vs → setN is ds δ = some δ' → vs.length = is.length ∧ Rel K Γ ω H (setNV is vs σ) δ'
  | [], [], vs, σ, δ, δ', _, R, l, e => by
    cases e
    cases (show vs = [] from l)
    exact ⟨rfl, R⟩
  | i :: is, d :: ds, vs, σ, δ, δ', hp, R, l, e => by
    obtain ⟨v, r, rfl, h1, h2⟩ := l
    obtain ⟨q1, q2⟩ := setN_ok (is := is) (ds := ds) (fun j hj => hp j (List.mem_cons_of_mem _ hj)) (R.put (e := some (0, d)) (hp i List.mem_cons_self) ⟨v, rfl, h1⟩) h2 e
    exact ⟨by rw [List.length_cons, List.length_cons, q1], q2⟩
  | [], _ :: _, _, _, _, _, _, _, _, e => by cases e
  | _ :: _, [], _, _, _, _, _, _, _, e => by cases e
def pinOk (Γ : Gm) (t : Tgt) : Bool := t.vs.all fun i => !Γ.idx.contains i
/-- what the slots are behind a target -/
def setTV (K : Frag) (t : Tgt) (vs : List V) (v : V) (σ : L2.St) : L2.St := match t with
  | .nm i => σ.set i (some v)
  | .tp is => setNV is vs σ
theorem pin_of {t : Tgt} (h : pinOk Γ t = true) : ∀ i ∈ t.vs, Γ.idx.contains i = false := fun i hi => by
  have := List.all_eq_true.mp h i hi
  simpa using this
theorem setT_ok {t : Tgt} {d : D} {v : V} {Q : L2.St → Hp → Prop} (hp : pinOk Γ t = true) (R : Rel K Γ ω H σ δ) (i : Is K ω H Γ.xi d v) (e : setT t d δ = some δ') (h : ∀ vs, Rel K Γ ω H (setTV K t vs v σ) δ' → Q (setTV K t vs v σ) H) : gT K t v σ H Q := by
  cases t with
  | nm j =>
    cases e
    exact h [] (R.put (pin_of hp j (by simp [Tgt.vs])) ⟨v, rfl, i⟩)
  | tp is =>
    cases d with
    | tup ds =>
      obtain ⟨a, vs, rfl, n, l⟩ := i
      obtain ⟨q1, q2⟩ := setN_ok (pin_of hp) R l e
      exact ⟨a, vs, rfl, n.sq, q1, q1, h vs q2⟩
    | _ => cases e
theorem wipe_setNV : ∀ {is : List Nat} {vs : List V} {σ : L2.St} {ws : List Nat}, (∀ i ∈ is, i ∈ ws) → wipe (setNV is vs σ) ws = wipe σ ws
  | [], _, _, _, _ => rfl
  | _ :: _, [], _, _, _ => rfl
  | i :: is, v :: vs, σ, ws, h => by
    show wipe (setNV is vs (σ.set i (some v))) ws = _
    rw [wipe_setNV fun j hj => h j (List.mem_cons_of_mem _ hj)]
    have hi := h i List.mem_cons_self
    clear h
    induction ws with
    | nil => simp at hi
    | cons w ws ih =>
      by_cases e : w = i
      · subst e
        unfold wipe
        by_cases hm : w ∈ ws
        · rw [ih hm]
        · have : ∀ (ws : List Nat), w ∉ ws → wipe (σ.set w (some v)) ws = (wipe σ ws).set w (some v) := fun ws => by
            induction ws with
            | nil => intro _; rfl
            | cons u us ih2 =>
              intro hu
              simp only [List.mem_cons, not_or] at hu
              unfold wipe
              rw [ih2 hu.2, List.set_comm _ _ hu.1]
          rw [this ws hm, List.set_set]
      · unfold wipe
        rw [ih (by simpa [Ne.symm e] using hi)]
theorem wipe_setTV {t : Tgt} {vs : List V} {v : V} {ws : List Nat} (h : ∀ i ∈ t.vs, i ∈ ws) : wipe (setTV K t vs v σ) ws = wipe σ ws := by
  cases t with
  | nm i => exact wipe_setNV (is := [i]) (vs := [v]) h
  | tp is => exact wipe_setNV h
def wipeD (δ : DSt) : List Nat → DSt
  | [] => δ
  | v :: vs => (wipeD δ vs).set v none
theorem Rel.wipe (R : Rel K Γ ω H σ δ) : ∀ vs : List Nat, (∀ i ∈ vs, Γ.idx.contains i = false) → Rel K Γ ω H (L2.wipe σ vs) (wipeD δ vs)
  | [], _ => R
  | v :: vs, h => by
    have R1 := R.wipe vs fun i hi => h i (List.mem_cons_of_mem _ hi)
    unfold L2.wipe wipeD
    refine ⟨R1.wf, by rw [List.length_set, List.length_set, R1.len], fun j e hj => ?_, fun q hq => ?_⟩
    · by_cases z : v = j
      · subst z
        have hl : v < (wipeD δ vs).length := by
          have := (List.getElem?_eq_some_iff.mp hj).1
          rwa [List.length_set] at this
        rw [List.getElem?_set_self hl] at hj
        cases hj
        trivial
      · rw [List.getElem?_set_ne z] at hj ⊢
        exact R1.sl j e hj
    · have hne : v ≠ q.1 := fun z => by
        have hm := Γ.ok q hq
        rw [← z] at hm
        have := h v List.mem_cons_self
        rw [List.contains_iff_mem.mpr hm] at this
        cases this
      rw [List.getElem?_set_ne hne]
      exact R1.pin q hq
/-- the slots of the caller behind a block: those of the block are forgotten -/
theorem Rel.unwipe {σ2 : L2.St} (R : Rel K Γ ω H σ2 δ) {vs : List Nat} (e : L2.wipe σ2 vs = L2.wipe σ vs) (hv : ∀ i ∈ vs, Γ.idx.contains i = false) : Rel K Γ ω H σ (wipeD δ vs) := by
  have R1 := R.wipe vs hv
  rw [e] at R1
  have len : (L2.wipe σ vs).length = σ.length := wipe_length σ vs
  have same : ∀ j, j ∉ vs → (L2.wipe σ vs)[j]? = σ[j]? := by
    intro j
    clear R1 e hv len
    induction vs with
    | nil => intro _; rfl
    | cons u us ih =>
      intro h
      simp only [List.mem_cons, not_or] at h
      unfold L2.wipe
      rw [List.getElem?_set_ne (Ne.symm h.1), ih h.2]
  have gone : ∀ j, j ∈ vs → ∀ e, (wipeD δ vs)[j]? = some e → e = none := by
    intro j
    clear R1 e hv len same
    induction vs with
    | nil => intro h; simp at h
    | cons u us ih =>
      intro h e he
      unfold wipeD at he
      by_cases z : u = j
      · subst z
        have hl : u < (wipeD δ us).length := by
          have := (List.getElem?_eq_some_iff.mp he).1
          rwa [List.length_set] at this
        rw [List.getElem?_set_self hl] at he
        cases he
        rfl
      · rw [List.getElem?_set_ne z] at he
        exact ih (by simpa [Ne.symm z] using h) e he
  refine ⟨R1.wf, by rw [← len, R1.len], fun j e hj => ?_, fun q hq => ?_⟩
  · by_cases z : j ∈ vs
    · cases gone j z e hj
      trivial
    · rw [← same j z]
      exact R1.sl j e hj
  · have hn : q.1 ∉ vs := fun z => by
      have := hv q.1 z
      rw [List.contains_iff_mem.mpr (Γ.ok q hq)] at this
      cases this
    rw [← same q.1 hn]
    exact R1.pin q hq
end
/-! ### what a for walks -/
/-- at each turn one of ds -/
structure WalkD (K : Frag) (Γ : Gm) (ω : Om) (H : Hp) (J : It) (ds : List D) : Prop where
  ex : ∃ (G : Hp → Prop) (Y : Nat → Hp → V → Hp → Prop), Walk J ds.length G Y ∧ (∀ ω' H', Ext ω H ω' H' → G H') ∧
    ∀ i H' x H'' ω', i < ds.length → Ext ω H ω' H' → (∀ b, ω' b ≠ .out → ∃ o, H' b = some o) → Y i H' x H'' → ∃ d ω'', ds[i]? = some d ∧ Ext ω' H' ω'' H'' ∧ Is K ω'' H'' Γ.xi d x ∧ ∀ σ δ, Rel K Γ ω' H' σ δ → Rel K Γ ω'' H'' σ δ
abbrev TDI := DSt → R (List D)
def rlI (K : Frag) (Γ : Gm) : Om → Hp → L2.St → List D → It → Prop := fun ω H _ ds J => WalkD K Γ ω H J ds
abbrev upI (K : Frag) (Γ : Gm) (W : WX) (t : TDI) : TI := up K Γ W (rlI K Γ) t
structure DI (X : Cx) (Γ : Gm) (tg iter : Expr) (t : TDI) : Prop where
  run : ∀ W, L2N.Takes X W → PI X tg iter (upI X.K Γ W t)
theorem PI.imp {X : Cx} {tg e : Expr} {t t' : TI} (h : PI X tg e t) (k : ∀ σ H Q, t' σ H Q → t σ H Q) : PI X tg e t' := ⟨fun p s σ H Q I q => h.run p s σ H Q I (k σ H Q q)⟩
theorem PI.or {X : Cx} {tg e : Expr} {t t' : TI} (h : PI X tg e t) (h' : PI X tg e t') : PI X tg e (fun σ H Q => t σ H Q ∨ t' σ H Q) := ⟨fun p s σ H Q I q => q.elim (h.run p s σ H Q I) (h'.run p s σ H Q I)⟩
section
variable {K : Frag} {Γ : Gm} {W : WX} {ω ω' : Om} {H H' : Hp} {σ : L2.St} {δ δ' : DSt} {J : It}
/-- items that stand: at turn i the i-th of vs, the heap as it was -/
theorem walkD_of {ds : List D} {vs : List V} {G : Hp → Prop} (w : Walk J vs.length G (YAt vs)) (l : IsL K ω H Γ.xi ds vs) (hG : ∀ ω' H', Ext ω H ω' H' → G H') : WalkD K Γ ω H J ds := by
  refine ⟨⟨G, YAt vs, by rw [← l.length]; exact w, hG, fun i H' x H'' ω' hi X _ y => ?_⟩⟩
  obtain ⟨rfl, e⟩ := y
  obtain ⟨d, q1, q2⟩ := (l.mono X.f).getV e
  exact ⟨d, ω', q1, Ext.refl _ _, q2, fun _ _ R => R⟩
theorem walkD_fn {n : Nat} {f : Nat → V} {g : Nat → D} {G : Hp → Prop} (w : Walk J n G (YFn f)) (hG : ∀ H', G H') (h : ∀ i ω' H', Is K ω' H' Γ.xi (g i) (f i)) : WalkD K Γ ω H J ((List.range n).map g) := by
  refine ⟨⟨G, YFn f, by simpa using w, fun _ Hx _ => hG Hx, fun i H' x H'' ω' hi X _ y => ?_⟩⟩
  obtain ⟨rfl, rfl⟩ := y
  have hi' : i < n := by simpa using hi
  exact ⟨g i, ω', by simp [hi'], Ext.refl _ _, h i ω' _, fun _ _ R => R⟩
/-- new pairs -/
theorem walkD_pair {n : Nat} {xs ys : Nat → Option V} {ds : List D} {G : Hp → Prop} (w : Walk J n G (YPair xs ys)) (hn : ds.length = n) (hG : ∀ ω' H', Ext ω H ω' H' → G H')
    (h : ∀ i x y, i < n → xs i = some x → ys i = some y → ∃ d e, ds[i]? = some (.tup [d, e]) ∧ Is K ω H Γ.xi d x ∧ Is K ω H Γ.xi e y) : WalkD K Γ ω H J ds := by
  subst hn
  refine ⟨⟨G, YPair xs ys, w, hG, fun i H' v H'' ω' hi X wf y => ?_⟩⟩
  obtain ⟨T, x, y, rfl, hT, rfl, e1, e2⟩ := y
  obtain ⟨d, e, q0, q1, q2⟩ := h i x y hi e1 e2
  have hw : ω' T = .out := by
    cases z : ω' T with
    | out => rfl
    | _ =>
      obtain ⟨o, q⟩ := wf T (by rw [z]; intro k; cases k)
      rw [hT] at q; cases q
  have X2 : Ext ω' H' (nwO ω' T .fz) (upd H' T (.tup [x, y])) := by
    refine ⟨fun b hb => ?_, fun b u hb hb' => ?_⟩
    · have ne : b ≠ T := fun z => by rw [z, hw] at hb; cases hb
      exact ⟨by rw [nwO_ne ne]; exact hb, upd_ne ne⟩
    · have ne : b ≠ T := fun z => by rw [z, hT] at hb; cases hb
      exact ⟨by rw [nwO_ne ne]; exact hb', by rw [upd_ne ne]; exact hb⟩
  exact ⟨.tup [d, e], nwO ω' T .fz, q0, X2, ⟨T, [x, y], rfl, .inl ⟨nwO_self, upd_same⟩, _, _, rfl, (q1.mono X.f).mono X2.f, IsL.one ((q2.mono X.f).mono X2.f)⟩, fun σ δ R => R.new hT _⟩
end
section
variable {X : Cx} {Γ : Gm} {tg e e2 a b : Expr} {t ta tb : TD} {p pos tpos : Pos} {elts : List Expr} {kk : Nat}
/-- a list or a tuple -/
def iSeq (t : TD) : TDI := fun δ => (t δ).bind fun x δ1 => match frz δ1 x with
  | some (d, δ2) => (match items d with
    | some ds => .ok ds δ2
    | none => .stuck)
  | none => .stuck
theorem di_seq (he : DE X Γ e t) : DI X Γ tg e (iSeq t) := ⟨fun W tk => PI.imp (PI.or (pi_list (he.run W tk)) (pi_tup (he.run W tk))) fun σ H P h => by
  obtain ⟨ω, δ, Rl, h⟩ := h
  unfold iSeq at h
  cases q : t δ with
  | stuck => rw [q] at h; exact h.elim
  | exc c ns ds δ1 =>
    rw [q] at h
    exact .inl ⟨ω, δ, Rl, by rw [q]; exact h⟩
  | ok x δ1 =>
    rw [q] at h
    have h : okR X.K Γ W ω H σ (rlI X.K Γ) (match frz δ1 x with
      | some (d, δ2) => (match items d with
        | some ds => R.ok ds δ2
        | none => R.stuck)
      | none => R.stuck) P := h
    cases qf : frz δ1 x with
    | none => rw [qf] at h; exact h.elim
    | some pr =>
      obtain ⟨d, δ2⟩ := pr
      rw [qf] at h
      dsimp only at h
      cases d with
      | lst ds =>
        refine .inl ⟨ω, δ, Rl, ?_⟩
        rw [q]
        intro v H1 ω1 X1 R1 i1
        obtain ⟨ω2, X2, R2, h2⟩ := frz_ok R1 i1 qf
        obtain ⟨a, vs, rfl, n, l⟩ := h2
        exact ⟨a, rfl, ⟨vs, n.sq⟩, h _ H1 ω2 (X1.trans X2) R2 (walkD_of walk_list l fun ω' H' X' => (n.mono X'.f).sq)⟩
      | tup ds =>
        refine .inr ⟨ω, δ, Rl, ?_⟩
        rw [q]
        intro v H1 ω1 X1 R1 i1
        obtain ⟨ω2, X2, R2, h2⟩ := frz_ok R1 i1 qf
        obtain ⟨a, vs, rfl, n, l⟩ := h2
        exact ⟨a, rfl, ⟨vs, n.sq⟩, h _ H1 ω2 (X1.trans X2) R2 (walkD_of walk_tup l fun ω' H' X' => (n.mono X'.f).sq)⟩
      | _ => exact h.elim⟩
def smallI (i : Int) : Bool := decide (-(2 ^ 62) ≤ i) && decide (i < 2 ^ 62)
theorem smallI_ok {i : Int} (h : smallI i = true) : -(2 ^ 62) ≤ i ∧ i < 2 ^ 62 := ⟨of_decide_eq_true (Bool.and_eq_true_iff.mp h).1, of_decide_eq_true (Bool.and_eq_true_iff.mp h).2⟩
def rangeD (i j : Int) : List D := (List.range (j - i).toNat).map fun (k : Nat) => D.int (i + (k : Int))
theorem rng_walk {K : Frag} {ω : Om} {H : Hp} {lo : Int} {n : Nat} : WalkD K Γ ω H (Itr lo n) ((List.range n).map fun (k : Nat) => D.int (lo + (k : Int))) :=
  walkD_fn (g := fun (k : Nat) => D.int (lo + (k : Int))) walk_range (fun _ => trivial) fun _ _ _ => rfl
def ints2 (δ : DSt) : List Vl → Option (List Int)
  | [] => some []
  | x :: xs => match dr δ x with
    | some (.int i) => (match ints2 δ xs with
      | some r => some (i :: r)
      | none => none)
    | _ => none
theorem ints2_ok {K : Frag} {ω : Om} {H : Hp} {σ : L2.St} {δ : DSt} (R : Rel K Γ ω H σ δ) : ∀ {xs : List Vl} {vs : List V} {is : List Int}, IsVs K Γ ω H σ xs vs → ints2 δ xs = some is → vs = is.map V.int
  | [], vs, is, h, e => by
    cases e
    exact h
  | x :: xs, vs, is, h, e => by
    obtain ⟨v, r, rfl, i1, i2⟩ := h
    unfold ints2 at e
    cases q : dr δ x with
    | none => rw [q] at e; cases e
    | some d =>
      rw [q] at e
      cases d with
      | int i =>
        dsimp only at e
        cases q2 : ints2 δ xs with
        | none => rw [q2] at e; cases e
        | some r2 =>
          rw [q2] at e
          cases e
          rw [List.map_cons, ints2_ok R i2 q2, (dr_ok R i1 q).int]
      | _ => cases e
def rngF1 : List Int → Option (List D)
  | [j] => if smallI j then some (rangeD 0 j) else none
  | _ => none
def rngF2 : List Int → Option (List D)
  | [i, j] => if smallI i && smallI j then some (rangeD i j) else none
  | _ => none
def iRng (f : List Int → Option (List D)) (t : TDA) : TDI := fun δ => (t δ).bind fun xs δ1 => match (ints2 δ1 xs).bind f with
  | some ds => .ok ds δ1
  | none => .stuck
theorem di_range1 {ta : TDA} (hm : X.mg "range" = none) (ha : DA X Γ [a] ta) (hg : Gl X "range" := by rfl) (hs : starEach [a] X.env = [(false, eval a X.env)] := by rfl) : DI X Γ tg (.Call (.Name "range" p) [a] [] pos) (iRng rngF1 ta) := ⟨fun W tk => PI.imp (pi_range1 hg hm (ha.run W tk) hs) fun σ H P h => by
  obtain ⟨ω, δ, Rl, h⟩ := h
  refine up_bind (t := ta) Rl h fun vs H1 ω1 δ1 xs e1 R1 i1 h1 => ?_
  cases q : ints2 δ1 xs with
  | none => rw [q] at h1; exact h1.elim
  | some is =>
    rw [q] at h1
    have ev := ints2_ok R1 i1 q
    subst ev
    match is, h1 with
    | [j], h1 =>
      dsimp only [Option.bind, rngF1] at h1
      by_cases hz : smallI j = true
      · rw [if_pos hz] at h1
        have z := smallI_ok hz
        refine ⟨j, rfl, z.1, z.2, okR.now h1 R1 ?_⟩
        unfold rangeD
        rw [Int.sub_zero]
        exact rng_walk
      · rw [if_neg hz] at h1; exact h1.elim
    | [], h1 => exact h1.elim
    | _ :: _ :: _, h1 => exact h1.elim⟩
theorem di_range2 {ta : TDA} (hm : X.mg "range" = none) (ha : DA X Γ [a, b] ta) (hg : Gl X "range" := by rfl) (hs : starEach [a, b] X.env = [(false, eval a X.env), (false, eval b X.env)] := by rfl) (hs2 : starEach [b] X.env = [(false, eval b X.env)] := by rfl) :
    DI X Γ tg (.Call (.Name "range" p) [a, b] [] pos) (iRng rngF2 ta) := ⟨fun W tk => PI.imp (pi_range2 hg hm (ha.run W tk) hs hs2) fun σ H P h => by
  obtain ⟨ω, δ, Rl, h⟩ := h
  refine up_bind (t := ta) Rl h fun vs H1 ω1 δ1 xs e1 R1 i1 h1 => ?_
  cases q : ints2 δ1 xs with
  | none => rw [q] at h1; exact h1.elim
  | some is =>
    rw [q] at h1
    have ev := ints2_ok R1 i1 q
    subst ev
    match is, h1 with
    | [i, j], h1 =>
      dsimp only [Option.bind, rngF2] at h1
      by_cases hz : (smallI i && smallI j) = true
      · rw [if_pos hz] at h1
        obtain ⟨z1, z2⟩ := Bool.and_eq_true_iff.mp hz
        have y1 := smallI_ok z1
        have y2 := smallI_ok z2
        exact ⟨i, j, rfl, ⟨y1.1, y1.2, y2.1, y2.2⟩, okR.now h1 R1 rng_walk⟩
      · rw [if_neg hz] at h1; exact h1.elim
    | [], h1 => exact h1.elim
    | [_], h1 => exact h1.elim
    | _ :: _ :: _ :: _, h1 => exact h1.elim⟩
/-- enumerate(list) -/
def enumD : Nat → List D → List D
  | _, [] => []
  | k, d :: ds => .tup [.int (k : Int), d] :: enumD (k + 1) ds
theorem enumD_len : ∀ {k : Nat} {ds : List D}, (enumD k ds).length = ds.length
  | _, [] => rfl
  | k, d :: ds => by unfold enumD; rw [List.length_cons, List.length_cons, enumD_len]
theorem enumD_at : ∀ {k : Nat} {ds : List D} {i : Nat} {d : D}, ds[i]? = some d → (enumD k ds)[i]? = some (.tup [.int ((k + i : Nat) : Int), d])
  | _, [], _, _, h => by simp at h
  | k, d :: ds, 0, x, h => by
    simp at h
    subst h
    rfl
  | k, d :: ds, i + 1, x, h => by
    unfold enumD
    rw [List.getElem?_cons_succ, enumD_at (k := k + 1) (by simpa using h), show k + 1 + i = k + (i + 1) by omega]
def iEn (t : TDA) : TDI := fun δ => (t δ).bind fun xs δ1 => match frzs δ1 xs with
  | some ([.lst ds], δ2) => .ok (enumD 0 ds) δ2
  | _ => .stuck
theorem di_enum {ta : TDA} (hm : X.mg "enumerate" = none) (ha : DA X Γ [a] ta) (hg : Gl X "enumerate" := by rfl) (hs : starEach [a] X.env = [(false, eval a X.env)] := by rfl) : DI X Γ (.Tuple elts kk tpos) (.Call (.Name "enumerate" p) [a] [] pos) (iEn ta) :=
  ⟨fun W tk => PI.imp (pi_enum hg hm (ha.run W tk) hs) fun σ H P h => by
    obtain ⟨ω, δ, Rl, h⟩ := h
    refine up_bind (t := ta) Rl h fun vs H1 ω1 δ1 xs e1 R1 i1 h1 => ?_
    split at h1
    · rename_i ds δ2 q
      obtain ⟨ω2, X2, R2, l2⟩ := frzs_ok R1 i1 q
      obtain ⟨v, r, rfl, ⟨a, ws, rfl, n, l⟩, e0⟩ := l2
      cases (show r = [] from e0)
      refine ⟨a, ws, rfl, n.sq, okR.at h1 X2 R2 ?_⟩
      refine walkD_pair (n := ws.length) walk_enum (by rw [enumD_len, l.length]) (fun ω' H' X' => (n.mono X'.f).sq) fun i x y hi hx hy => ?_
      cases hx
      obtain ⟨d, q1, q2⟩ := l.getV hy
      exact ⟨.int (i : Nat), d, by rw [enumD_at q1, Nat.zero_add], rfl, q2⟩
    · exact h1.elim⟩
/-- zip(xs, ys) -/
def zipD (xs ys : List D) : List D := (xs.zip ys).map fun q => .tup [q.1, q.2]
def iZp (t : TDA) : TDI := fun δ => (t δ).bind fun xs δ1 => match frzs δ1 xs with
  | some ([.lst ds, .lst es], δ2) => .ok (zipD ds es) δ2
  | some ([.tup ds, .tup es], δ2) => .ok (zipD ds es) δ2
  | _ => .stuck
theorem zipD_at {xs ys : List D} {i : Nat} {d e : D} (h1 : xs[i]? = some d) (h2 : ys[i]? = some e) : (zipD xs ys)[i]? = some (.tup [d, e]) := by
  unfold zipD
  rw [List.getElem?_map, (List.getElem?_zip_eq_some (z := (d, e))).mpr ⟨h1, h2⟩] <;> rfl
theorem zipT_walk {K : Frag} {a b : Addr} {xs ys : List V} {n : Nat} (hn : n = min xs.length ys.length) : Walk (RZ.ItzT K a b) n (fun H => SqT K H a xs ∧ SqT K H b ys) (YPair (fun i => xs[i]?) (fun i => ys[i]?)) where
  goes := fun i _ hi q => ⟨xs, ys, xs[i]'(by omega), ys[i]'(by omega), q.1, q.2, List.getElem?_eq_getElem _, List.getElem?_eq_getElem _⟩
  stops := fun _ q => ⟨xs, ys, q.1, q.2, by omega⟩
  yields := fun i H v H' _ q y => by
    obtain ⟨T, x, z, h1, h2, h3, h4, h5⟩ := y
    exact ⟨T, x, z, h1, h2, h3, h4 xs q.1, h5 ys q.2⟩
theorem di_zip {ta : TDA} (hm : X.mg "zip" = none) (ha : DA X Γ [a, b] ta) (hg : Gl X "zip" := by rfl) (hs : starEach [a, b] X.env = (false, eval a X.env) :: starEach [b] X.env := by rfl) (hpl : (backTo pos (starEach [b] X.env)).any (·.1) = false := by rfl) :
    DI X Γ (.Tuple elts kk tpos) (.Call (.Name "zip" p) [a, b] [] pos) (iZp ta) :=
  ⟨fun W tk => PI.imp (RZ.pi_zipA hg hm (ha.run W tk) hs hpl) fun σ H P h => by
    obtain ⟨ω, δ, Rl, h⟩ := h
    refine up_bind (t := ta) Rl h fun vs H1 ω1 δ1 xs e1 R1 i1 h1 => ?_
    split at h1
    · rename_i ds es δ2 q
      obtain ⟨ω2, X2, R2, l2⟩ := frzs_ok R1 i1 q
      obtain ⟨v, r, rfl, ⟨a, ws, rfl, n, l⟩, w, r2, rfl, ⟨b, us, rfl, m, k⟩, e0⟩ := l2
      cases (show r2 = [] from e0)
      refine ⟨a, b, ws, us, rfl, .inl ⟨n.sq, m.sq, okR.at h1 X2 R2 ?_⟩⟩
      refine walkD_pair (n := min ws.length us.length) (walk_zip rfl) (by unfold zipD; rw [List.length_map, List.length_zip, l.length, k.length]) (fun ω' H' X' => ⟨(n.mono X'.f).sq, (m.mono X'.f).sq⟩) fun i x y hi hx hy => ?_
      obtain ⟨d, q1, q2⟩ := l.getV hx
      obtain ⟨e, q3, q4⟩ := k.getV hy
      exact ⟨d, e, zipD_at q1 q3, q2, q4⟩
    · rename_i ds es δ2 q
      obtain ⟨ω2, X2, R2, l2⟩ := frzs_ok R1 i1 q
      obtain ⟨v, r, rfl, ⟨a, ws, rfl, n, l⟩, w, r2, rfl, ⟨b, us, rfl, m, k⟩, e0⟩ := l2
      cases (show r2 = [] from e0)
      refine ⟨a, b, ws, us, rfl, .inr ⟨n.sq, m.sq, okR.at h1 X2 R2 ?_⟩⟩
      refine walkD_pair (n := min ws.length us.length) (zipT_walk rfl) (by unfold zipD; rw [List.length_map, List.length_zip, l.length, k.length]) (fun ω' H' X' => ⟨(n.mono X'.f).sq, (m.mono X'.f).sq⟩) fun i x y hi hx hy => ?_
      obtain ⟨d, q1, q2⟩ := l.getV hx
      obtain ⟨e, q3, q4⟩ := k.getV hy
      exact ⟨d, e, zipD_at q1 q3, q2, q4⟩
    · exact h1.elim⟩
/-! ### for, while -/
def forF (t : Tgt) (b : TDS) : List D → TDS
  | [], δ => .nx δ
  | d :: ds, δ => match setT t d δ with
    | some δ1 => (match b δ1 with
      | .nx δ2 => forF t b ds δ2
      | .ct δ2 => forF t b ds δ2
      | .bk δ2 => .nx δ2
      | f => f)
    | none => .stuck
def sFor (t : Tgt) (i : TDI) (b : TDS) : TDS := fun δ => (i δ).fl fun ds δ1 => forF t b ds δ1
theorem ds_for {iter : Expr} {body : List Stmt} {t : Tgt} {ti : TDI} {tb : TDS} (hp : PassesOwn (model X.prog X.w) X.A X.env X.xe) (hc : X.calm = true) (hi : DI X Γ tg iter ti) (hg : DTg X tg t) (hb : DB X Γ body tb) (hpin : pinOk Γ t = true := by rfl)
    (hs : ∀ x, foldedSetIterable iter X.env x = pure x := by intro _; rfl) : DS X Γ (.For tg iter body [] pos) (sFor t ti tb) :=
  ⟨fun W tk => PS.imp (ps_for hp hc (hi.run W tk) hg.run (hb.run W tk) hs) fun D σ H h => by
    obtain ⟨ω, δ, Rl, h⟩ := h
    refine up_fl (t := ti) Rl h fun J H1 ω1 δ1 ds e1 R1 i1 h1 => ?_
    obtain ⟨G, Y, w, hG, hY⟩ := i1.ex
    refine for_it w (fun i σ' H' => ∃ ω' δ', Ext ω1 H1 ω' H' ∧ Rel X.K Γ ω' H' σ' δ' ∧ okS X.K Γ W ω' H' (forF t tb (ds.drop i) δ') D) ⟨ω1, δ1, Ext.refl _ _, R1, by rw [List.drop_zero]; exact h1⟩ (fun i σ' H' _ ⟨ω', _, X', _⟩ => hG ω' H' X') ?_ ?_
    · rintro i x σ' H' H'' hlt ⟨ω', δ', X', R', ok⟩ y
      obtain ⟨d, ω'', q1, X'', isd, hR⟩ := hY i H' x H'' ω' hlt X' R'.wf y
      have R'' := hR σ' δ' R'
      rw [List.drop_eq_getElem_cons hlt] at ok
      have ed : ds[i] = d := by
        rw [List.getElem?_eq_getElem hlt] at q1
        exact Option.some.inj q1
      rw [ed] at ok
      unfold forF at ok
      cases qs : setT t d δ' with
      | none => rw [qs] at ok; exact ok.elim
      | some δ2 =>
        rw [qs] at ok
        dsimp only at ok
        have ok := okS.ext X'' ok
        refine setT_ok hpin R'' isd qs fun vs R2 => ⟨ω'', δ2, R2, ?_⟩
        revert ok
        cases tb δ2 with
        | nx δ3 => exact fun ok σ3 H3 ω3 X3 R3 => ⟨ω3, δ3, (X'.trans X'').trans X3, R3, okS.ext X3 ok⟩
        | ct δ3 => exact fun ok σ3 H3 ω3 X3 R3 => ⟨ω3, δ3, (X'.trans X'').trans X3, R3, okS.ext X3 ok⟩
        | bk δ3 => exact fun ok => ok
        | rt x δ3 => exact fun ok => ok
        | rg x δ3 => exact fun ok => ok
        | ex c ns ds δ3 => exact fun ok => ok
        | stuck => exact fun ok => ok
    · rintro σ' H' ⟨ω', δ', X', R', ok⟩
      rw [List.drop_length] at ok
      exact ok σ' H' ω' (Ext.refl _ _) R'⟩
def whF (c : TDT) (b : TDS) : Nat → TDS
  | 0, _ => .stuck
  | n + 1, δ => (c δ).fl fun k δ1 => if k = true then (match b δ1 with
      | .nx δ2 => whF c b n δ2
      | .ct δ2 => whF c b n δ2
      | .bk δ2 => .nx δ2
      | f => f) else .nx δ1
/-- at most as many turns as fuel tells -/
def sWhile (fuel : DSt → Nat) (c : TDT) (b : TDS) : TDS := fun δ => whF c b (fuel δ) δ
theorem ds_while {c : Expr} {body : List Stmt} {tc : TDT} {tb : TDS} (fuel : DSt → Nat) (hp : PassesOwn (model X.prog X.w) X.A X.env X.xe) (hc : DT X Γ c tc) (hb : DB X Γ body tb) : DS X Γ (.While c body [] pos) (sWhile fuel tc tb) :=
  ⟨fun W tk => PS.imp (ps_while hp (hc.run W tk) (hb.run W tk)) fun D σ H h => by
    obtain ⟨ω, δ, Rl, h⟩ := h
    refine ⟨fun n σ' H' => ∃ ω' δ', Rel X.K Γ ω' H' σ' δ' ∧ okS X.K Γ W ω' H' (whF tc tb n δ') D, ⟨_, ω, δ, Rl, h⟩, ?_⟩
    rintro n σ' H' ⟨ω', δ', R', ok⟩
    cases n with
    | zero => exact ok.elim
    | succ n =>
      unfold whF at ok
      refine up_fl (t := tc) R' ok fun v H1 ω1 δ1 x e1 R1 i1 h1 => ?_
      cases i1
      cases v with
      | false => exact iteF (h1 σ' H1 ω1 (Ext.refl _ _) R1)
      | true =>
        refine iteT ⟨fun σ2 H2 => ∃ ω2 δ2, Rel X.K Γ ω2 H2 σ2 δ2 ∧ okS X.K Γ W ω2 H2 (whF tc tb n δ2) D, fun σ2 H2 q => ⟨n, Nat.lt_succ_self n, q⟩, ω1, δ1, R1, ?_⟩
        have h1 : okS X.K Γ W ω1 H1 (match tb δ1 with
          | .nx δ2 => whF tc tb n δ2
          | .ct δ2 => whF tc tb n δ2
          | .bk δ2 => .nx δ2
          | f => f) D := h1
        revert h1
        cases tb δ1 with
        | nx δ3 => exact fun ok σ3 H3 ω3 X3 R3 => ⟨ω3, δ3, R3, okS.ext X3 ok⟩
        | ct δ3 => exact fun ok σ3 H3 ω3 X3 R3 => ⟨ω3, δ3, R3, okS.ext X3 ok⟩
        | bk δ3 => exact fun ok => ok
        | rt x δ3 => exact fun ok => ok
        | rg x δ3 => exact fun ok => ok
        | ex c ns ds δ3 => exact fun ok => ok
        | stuck => exact fun ok => ok⟩
end
end DL

set_option Elab.async false
set_option linter.all false
set_option maxRecDepth 100000
namespace DL
open PySem PySem.Spec PyProof.Rows L2
/-! ### comprehensions -/
def W0 : WX := fun _ _ _ _ => False
theorem tk0 {X : Cx} : L2N.Takes X W0 := fun u s' x => by
  obtain ⟨_, _, _, _, _, _, _, _, _, _, _, _, _, _, _, _, z⟩ := x
  exact z.elim
section
variable {K : Frag} {Γ : Gm} {W : WX} {ω ω' : Om} {H H' : Hp} {σ : L2.St} {δ δ' : DSt} {τ : Tg}
theorem fz_out {p : Addr} (hw : ω p = .out) (o : HO) : Fz ω H ω (upd H p o) := fun b h => ⟨h, upd_ne fun z => by rw [z, hw] at h; cases h⟩
theorem Rel.updOut (R : Rel K Γ ω H σ δ) {p : Addr} (hw : ω p = .out) (o : HO) : Rel K Γ ω (upd H p o) σ δ := by
  refine ⟨fun b h => ?_, R.len, fun i e hi => (R.sl i e hi).mono (fz_out hw o) fun b hb => ⟨hb, upd_ne fun z => by rw [z, hw] at hb; cases hb⟩, R.pin⟩
  by_cases e : b = p
  · exact ⟨o, by rw [e]; exact upd_same⟩
  · obtain ⟨u, q⟩ := R.wf b h
    exact ⟨u, by rw [upd_ne e]; exact q⟩
theorem fz_retag {p : Addr} (hw : ω p = .out) : Fz ω H (nwO ω p τ) H := fun b h => ⟨by rw [nwO_ne fun z => by rw [z, hw] at h; cases h]; exact h, rfl⟩
theorem Rel.retag (R : Rel K Γ ω H σ δ) {p : Addr} {o : HO} (hw : ω p = .out) (hp : H p = some o) : Rel K Γ (nwO ω p τ) H σ δ := by
  refine ⟨fun b h => ?_, R.len, fun i e hi => (R.sl i e hi).mono (fz_retag hw) fun b hb => ⟨by rw [nwO_ne fun z => by rw [z, hw] at hb; cases hb]; exact hb, rfl⟩, R.pin⟩
  by_cases e : b = p
  · exact ⟨o, by rw [e]; exact hp⟩
  · rw [nwO_ne e] at h
    exact R.wf b h
end
theorem wipe_wipe {σ : L2.St} {vs : List Nat} : ∀ ws : List Nat, (∀ j ∈ ws, j ∈ vs) → wipe (wipe σ vs) ws = wipe σ vs
  | [], _ => rfl
  | u :: r, hr => by
    show (wipe (wipe σ vs) r).set u none = wipe σ vs
    rw [wipe_wipe r fun j hj => hr j (List.mem_cons_of_mem _ hj)]
    have hu := hr u List.mem_cons_self
    generalize hg : wipe σ vs = τ
    refine List.ext_getElem? fun k => ?_
    by_cases z : u = k
    · subst z
      by_cases hl : u < τ.length
      · rw [List.getElem?_set_self hl]
        cases q : τ[u]? with
        | none =>
          rw [List.getElem?_eq_none_iff] at q
          omega
        | some v =>
          cases v with
          | none => rfl
          | some v => exact absurd hu (wipe_some (hg.symm ▸ q)).2
      · rw [List.getElem?_eq_none (by rw [List.length_set]; omega), List.getElem?_eq_none (by omega)]
    · rw [List.getElem?_set_ne z]
def compF (vs : List Nat) (t : Tgt) (c : TDT) (e : TD) : List D → List D → DSt → R (List D)
  | [], acc, δ => .ok acc δ
  | d :: ds, acc, δ => match setT t d δ with
    | none => .stuck
    | some δ1 => match c δ1 with
      | .ok true δ2 => (match e δ2 with
        | .ok x δ3 => (match frz δ3 x with
          | some (y, δ4) => if acc.length < sizeLine then compF vs t c e ds (acc ++ [y]) (wipeD δ4 vs) else .stuck
          | none => .stuck)
        | _ => .stuck)
      | .ok false δ2 => compF vs t c e ds acc (wipeD δ2 vs)
      | _ => .stuck
def gComp (vs : List Nat) (t : Tgt) (i : TDI) (c : TDT) (e : TD) : TDG := fun δ => (i δ).bind fun ds δ1 => (compF vs t c e ds [] (wipeD δ1 vs)).bind fun acc δ2 => .ok (.lst acc) (wipeD δ2 vs)
def tYesD : TDT := fun δ => .ok true δ
structure DIfs (X : Cx) (Γ : Gm) (ifs : List Expr) (t : TDT) : Prop where
  run : PTs X ifs (upT X.K Γ W0 t)
section
variable {X : Cx} {Γ : Gm} {pos : Pos}
theorem PTs.imp {ifs : List Expr} {t t' : TT} (h : PTs X ifs t) (k : ∀ σ H Q, t' σ H Q → t σ H Q) : PTs X ifs t' := ⟨fun p s σ H Q I q => h.run p s σ H Q I (k σ H Q q)⟩
theorem difs_nil : DIfs X Γ [] tYesD := ⟨PTs.imp pts_nil fun σ H Q h => by
  obtain ⟨ω, δ, R, h⟩ := h
  exact okR.now (x := true) h R rfl⟩
theorem difs_one {c : Expr} {t : TDT} (h : DT X Γ c t) : DIfs X Γ [c] t := ⟨pts_one (h.run W0 tk0)⟩
abbrev blkX (X : Cx) (s : Shared) (H : Hp) (scope : Scope) (C : Addr) (cl : List (Str × Addr)) (fp : List Addr) : Cx := X.blk s H scope (compEnvC scope cl C X.env) fp
theorem up_lc {K : Frag} {W : WX} {τ : Tg} (hτ : τ ≠ .out) {vs : List Nat} {t : Tgt} {ti : TDI} {tt : TDT} {te : TD} (hvs : ∀ i ∈ t.vs, i ∈ vs) (hp : ∀ i ∈ vs, Γ.idx.contains i = false) {σ : L2.St} {H : Hp} {Q : VK}
    (h : up K Γ W (rlG K Γ τ) (gComp vs t ti tt te) σ H Q) : tLc (upI K Γ W ti) (gT K t) (upT K Γ W0 tt) (upE K Γ W0 te) vs σ H Q := by
  obtain ⟨ω, δ, Rl, h⟩ := h
  refine up_bind (t := ti) Rl h fun J H1 ω1 δ1 ds e1 R1 i1 h1 => ?_
  obtain ⟨G, Y, w, hG, hY⟩ := i1.ex
  intro p hpn
  have hw := R1.fresh hpn
  have hpin : pinOk Γ t = true := List.all_eq_true.mpr fun i hi => by rw [hp i (hvs i hi)] <;> rfl
  have extU : ∀ {ω' : Om} {H' : Hp} (o : HO), Ext ω1 H1 ω' H' → ω' p = .out → Ext ω1 H1 ω' (upd H' p o) := fun {ω' H'} o X hw' => by
    refine ⟨fun b hb => ⟨(X.fz b hb).1, ?_⟩, fun b u hb hb' => ⟨(X.out b u hb hb').1, ?_⟩⟩
    · rw [upd_ne fun z => by rw [z, hw] at hb; cases hb]
      exact (X.fz b hb).2
    · rw [upd_ne fun z => by rw [z, hpn] at hb; cases hb]
      exact (X.out b u hb hb').2
  refine lc_it w (fun i H' => ∃ ω' δ' acc ws, Ext ω1 H1 ω' H' ∧ ω' p = .out ∧ H' p = some (.lst ws) ∧ IsL K ω' H' Γ.xi acc ws ∧ Rel K Γ ω' H' (wipe σ vs) δ' ∧
    okR K Γ W ω1 H1 σ (rlG K Γ τ) ((compF vs t tt te (ds.drop i) acc δ').bind fun acc δ2 => .ok (.lst acc) (wipeD δ2 vs)) Q)
    ⟨ω1, wipeD δ1 vs, [], [], extU _ (Ext.refl _ _) hw, hw, upd_same, rfl, (R1.wipe vs hp).updOut hw _, by rw [List.drop_zero]; exact h1⟩ (fun i H' _ ⟨ω', _, _, _, X', _⟩ => hG ω' H' X') ?_ ?_
  · rintro i x H' H'' hlt ⟨ω', δ', acc, ws, X', hw', hpl, l, R', ok⟩ y
    obtain ⟨d, ω2, q1, X2, isd, hR⟩ := hY i H' x H'' ω' hlt X' R'.wf y
    have R2 := hR _ δ' R'
    have hw2 := X2.out p _ hpl hw'
    rw [List.drop_eq_getElem_cons hlt] at ok
    have ed : ds[i] = d := by
      rw [List.getElem?_eq_getElem hlt] at q1
      exact Option.some.inj q1
    rw [ed] at ok
    unfold compF at ok
    cases qs : setT t d δ' with
    | none => rw [qs] at ok; exact ok.elim
    | some δ2 =>
      rw [qs] at ok
      dsimp only at ok
      refine setT_ok hpin R2 isd qs fun us R3 => ?_
      have ew : wipe (setTV K t us x (wipe σ vs)) vs = wipe σ vs := by
        rw [wipe_setTV hvs]
        exact wipe_wipe vs fun _ z => z
      refine ⟨ew, ω2, δ2, R3, ?_⟩
      revert ok
      cases tt δ2 with
      | exc c ns ds δ3 => exact fun ok => ok.elim
      | stuck => exact fun ok => ok.elim
      | ok b δ3 =>
        intro ok b' H3 ω3 X3 R4 hb
        cases hb
        have hw3 := X3.out p _ hw2.2 hw2.1
        cases b with
        | false =>
          refine iteF ⟨ω3, wipeD δ3 vs, acc, ws, (X'.trans X2).trans X3, hw3.1, hw3.2, (l.mono X2.f).mono X3.f, ?_, ok⟩
          have z := R4.wipe vs hp
          rwa [ew] at z
        | true =>
          refine iteT ⟨ω3, δ3, R4, ?_⟩
          dsimp only at ok
          revert ok
          cases te δ3 with
          | exc c ns ds δ4 => exact fun ok => ok.elim
          | stuck => exact fun ok => ok.elim
          | ok y δ4 =>
            dsimp only
            intro ok v H4 ω4 X4 R5 iv
            have hw4 := X4.out p _ hw3.2 hw3.1
            cases qf : frz δ4 y with
            | none => rw [qf] at ok; exact ok.elim
            | some pr =>
              obtain ⟨dy, δ5⟩ := pr
              rw [qf] at ok
              dsimp only at ok
              obtain ⟨ω5, X5, R6, isy⟩ := frz_ok R5 iv qf
              have hw5 := X5.out p _ hw4.2 hw4.1
              have l5 := ((((l.mono X2.f).mono X3.f).mono X4.f).mono X5.f)
              by_cases hz : acc.length < sizeLine
              · rw [if_pos hz] at ok
                have F := fz_out (H := H4) hw5.1 (.lst (ws ++ [v]))
                refine ⟨ws, hw4.2, by rw [l.length]; exact hz, ω5, wipeD δ5 vs, acc ++ [dy], ws ++ [v], extU _ ((((X'.trans X2).trans X3).trans X4).trans X5) hw5.1, hw5.1, upd_same, (l5.mono F).append (IsL.one (isy.mono F)), ?_, ok⟩
                have z := (R6.updOut hw5.1 (.lst (ws ++ [v]))).wipe vs hp
                rwa [ew] at z
              · rw [if_neg hz] at ok; exact ok.elim
  · rintro H' ⟨ω', δ', acc, ws, X', hw', hpl, l, R', ok⟩
    rw [List.drop_length] at ok
    have F := fz_retag (τ := τ) (H := H') hw'
    have X2 : Ext ω1 H1 (nwO ω' p τ) H' := by
      refine ⟨fun b hb => ?_, fun b u hb hb' => ?_⟩
      · have z := X'.fz b hb
        exact ⟨(F b z.1).1, z.2⟩
      · have z := X'.out b u hb hb'
        exact ⟨by rw [nwO_ne fun q => by rw [q, hpn] at hb; cases hb]; exact z.1, z.2⟩
    have R2 : Rel K Γ ω' H' σ (wipeD δ' vs) := R'.unwipe (wipe_wipe vs fun _ z => z) hp
    refine okR.at (x := D.lst acc) ok X2 (R2.retag hw' hpl) ?_
    cases τ with
    | out => exact absurd rfl hτ
    | fz => exact ⟨p, ws, rfl, ⟨nwO_self, hpl⟩, l.mono F⟩
    | own i => exact ⟨p, ws, acc, rfl, rfl, nwO_self, hpl, l.mono F⟩
variable {elt tg iter : Expr} {ifs : List Expr} {scope : Scope} {own : List (Str × Nat)} {t : Tgt} {ti : TDI} {tt : TDT} {te : TD} {τ : Tg}
theorem pin_all {l : List Nat} (h : l.all (fun i => !Γ.idx.contains i) = true) : ∀ i ∈ l, Γ.idx.contains i = false := fun i hi => by
  have := List.all_eq_true.mp h i hi
  simpa using this
theorem dg_lc (hτ : τ ≠ .out) (hc : X.calm = true) (hN : X.N.Nodup) (hi : DI X Γ tg iter ti) (ok : BlkOk X.N X.env.scope scope own)
    (hg : ∀ (s : Shared) (H : Hp) (C : Addr) (cl : List (Str × Addr)) (fp : List Addr), DTg (blkX X s H scope C cl fp) tg t)
    (ht : ∀ (s : Shared) (H : Hp) (C : Addr) (cl : List (Str × Addr)) (fp : List Addr), DIfs (blkX X s H scope C cl fp) Γ ifs tt)
    (he : ∀ (s : Shared) (H : Hp) (C : Addr) (cl : List (Str × Addr)) (fp : List Addr), DE (blkX X s H scope C cl fp) Γ elt te)
    (hvs : ∀ i ∈ t.vs, i ∈ own.map (·.2) := by decide) (hp0 : (own.map (·.2)).all (fun i => !Γ.idx.contains i) = true := by rfl) (hs : ∀ x, foldedSetIterable iter X.env x = pure x := by intro _; rfl) :
    DG X Γ τ (.ListComp elt [⟨tg, iter, ifs, 0⟩] scope pos) (gComp (own.map (·.2)) t ti tt te) :=
  ⟨fun W tk => PE.imp (pe_lc hc hN (hi.run W tk) ok (fun s H C cl fp => (hg s H C cl fp).run) (fun s H C cl fp => (ht s H C cl fp).run) (fun s H C cl fp => (he s H C cl fp).run W0 tk0) hs) fun σ H Q h => up_lc hτ hvs (pin_all hp0) h⟩
/-- y = [..] of a local name, on one line -/
theorem ds_setLc {i : Nat} {y : Str} {py spos : Pos} (o : Bool) (hc : X.calm = true) (hN : X.N.Nodup) (hy : X.N[i]? = some y) (hyl : X.env.scope.names.lookup y = some .local)
    (hsw : swapsWith (.ListComp elt [⟨tg, iter, ifs, 0⟩] scope pos) (some (.Name y py)) spos.line X.env = pure true) (hi : DI X Γ tg iter ti) (ok : BlkOk X.N X.env.scope scope own)
    (hg : ∀ (s : Shared) (H : Hp) (C : Addr) (cl : List (Str × Addr)) (fp : List Addr), DTg (blkX X s H scope C cl fp) tg t)
    (ht : ∀ (s : Shared) (H : Hp) (C : Addr) (cl : List (Str × Addr)) (fp : List Addr), DIfs (blkX X s H scope C cl fp) Γ ifs tt)
    (he : ∀ (s : Shared) (H : Hp) (C : Addr) (cl : List (Str × Addr)) (fp : List Addr), DE (blkX X s H scope C cl fp) Γ elt te)
    (hvs : ∀ i ∈ t.vs, i ∈ own.map (·.2) := by decide) (hp0 : (own.map (·.2)).all (fun i => !Γ.idx.contains i) = true := by rfl) (hpi : Γ.idx.contains i = false := by rfl) (hs : ∀ x, foldedSetIterable iter X.env x = pure x := by intro _; rfl) :
    DS X Γ (.Assign [.Name y py] (.ListComp elt [⟨tg, iter, ifs, 0⟩] scope pos) spos) (if o then sAsgG i (gComp (own.map (·.2)) t ti tt te) else sAsg i (gFz (gComp (own.map (·.2)) t ti tt te))) :=
  ⟨fun W tk => PS.imp (ps_setLc hc hN hy hyl hsw (hi.run W tk) ok (fun s H C cl fp => (hg s H C cl fp).run) (fun s H C cl fp => (ht s H C cl fp).run) (fun s H C cl fp => (he s H C cl fp).run W0 tk0) hs) fun D σ H h => by
    cases o with
    | true =>
      refine up_lc (W := W) (tt := tt) (te := te) (τ := .own i) (by intro z; cases z) hvs (pin_all hp0) ?_
      obtain ⟨ω, δ, R, h⟩ := h
      refine up_fl (t := gComp (own.map (·.2)) t ti tt te) R h fun v H1 ω1 δ1 x e1 R1 i1 h1 => ?_
      obtain ⟨a, vs, ds, rfl, rfl, o, hl, l⟩ := i1
      exact h1 _ H1 ω1 (Ext.refl _ _) (R1.put hpi ⟨a, vs, ds, rfl, rfl, o, hl, l⟩)
    | false =>
      refine up_lc (W := W) (tt := tt) (te := te) (τ := .fz) (by intro z; cases z) hvs (pin_all hp0) ?_
      obtain ⟨ω, δ, R, h⟩ := h
      have h : okS X.K Γ W ω H (DL.R.fl (gComp (own.map (·.2)) t ti tt te δ) fun d δ1 => .nx (δ1.set i (some (0, d)))) D := by
        have h0 : okS X.K Γ W ω H (DL.R.fl (DL.R.bind (gComp (own.map (·.2)) t ti tt te δ) fun d δ1 => .ok (.fz d) δ1) (putF i)) D := h
        revert h0
        cases gComp (own.map (·.2)) t ti tt te δ with
        | ok d δ1 => exact id
        | exc c ns ds δ1 => exact id
        | stuck => exact id
      refine up_fl (t := gComp (own.map (·.2)) t ti tt te) R h fun v H1 ω1 δ1 x e1 R1 i1 h1 => ?_
      exact h1 _ H1 ω1 (Ext.refl _ _) (R1.put hpi ⟨v, rfl, i1⟩)⟩
end
end DL

set_option Elab.async false
set_option linter.all false
set_option maxRecDepth 100000
namespace DL
open PySem PySem.Spec PyProof.Rows L2
/-! ### a slot's own list changed -/
section
variable {K : Frag} {Γ : Gm} {W : WX} {ω ω' : Om} {H H' : Hp} {σ : L2.St} {δ δ' : DSt} {τ : Tg}
theorem Rel.own (R : Rel K Γ ω H σ δ) {j : Nat} {d : D} (h : δ[j]? = some (some (1, d))) : ∃ a vs ds, σ[j]? = some (some (.ref a)) ∧ d = .lst ds ∧ ω a = .own j ∧ H a = some (.lst vs) ∧ IsL K ω H Γ.xi ds vs := by
  obtain ⟨a, vs, ds, e, r⟩ := R.sl j _ h
  exact ⟨a, vs, ds, slot_of e, r⟩
theorem own_ext {a : Addr} {j : Nat} (o : ω a = .own j) (u : HO) : Ext ω H ω (upd H a u) :=
  ⟨fun b hb => ⟨hb, upd_ne fun z => by rw [z, o] at hb; cases hb⟩, fun b v hb hb' => ⟨hb', by rw [upd_ne fun z => by rw [z, o] at hb'; cases hb']; exact hb⟩⟩
theorem Rel.updOwn (R : Rel K Γ ω H σ δ) {j : Nat} {a : Addr} {d : Option (Nat × D)} (hj : δ[j]? = some d) (ha : σ[j]? = some (some (.ref a))) (o : ω a = .own j) {vs : List V} {ds : List D} (l : IsL K ω H Γ.xi ds vs) :
    Rel K Γ ω (upd H a (.lst vs)) σ (δ.set j (some (1, .lst ds))) := by
  have X := own_ext (H := H) o (.lst vs)
  refine ⟨fun b hb => ?_, by rw [List.length_set]; exact R.len, fun i e hi => ?_, R.pin⟩
  · by_cases z : b = a
    · exact ⟨_, by rw [z]; exact upd_same⟩
    · rw [upd_ne z]
      exact R.wf b hb
  · by_cases z : j = i
    · subst z
      rw [List.getElem?_set_self (List.getElem?_eq_some_iff.mp hj).1] at hi
      cases hi
      exact ⟨a, vs, ds, slot_some ha, rfl, o, upd_same, l.mono X.f⟩
    · rw [List.getElem?_set_ne z] at hi
      refine (R.sl i e hi).mono X.f fun b hb => ⟨hb, upd_ne fun q => ?_⟩
      rw [q, o] at hb
      cases hb
      exact z rfl
end
/-! ### x[i] = e -/
def stF (j : Nat) (d : D) (i : Vl) (δ : DSt) : Option DSt := match dr δ i, δ[j]? with
  | some (.int k), some (some (1, .lst ds)) => (match ixN ds.length k with
    | some n => some (δ.set j (some (1, .lst (ds.set n d))))
    | none => none)
  | _, _ => none
def storeF (o i x : Vl) (δ : DSt) : Fl := match o, frz δ x with
  | .sl j, some (d, δ1) => (match stF j d i δ1 with
    | some δ2 => .nx δ2
    | none => .stuck)
  | _, _ => .stuck
def sSub (tv to ti : TD) : TDS := fun δ => (tv δ).fl fun x δ1 => (to δ1).fl fun o δ2 => (ti δ2).fl fun i δ3 => storeF o i x δ3
section
variable {X : Cx} {Γ : Gm} {e o i : Expr} {tv to ti te : TD} {pos p : Pos}
theorem stF_ok {K : Frag} {ω : Om} {H : Hp} {σ : L2.St} {δ δ' : DSt} {j : Nat} {d : D} {i : Vl} {iv xv ov : V} (R : Rel K Γ ω H σ δ) (hi : IsV K Γ ω H σ i iv) (hd : Is K ω H Γ.xi d xv) (ho : σ[j]? = some (some ov)) (h : stF j d i δ = some δ') :
    ∃ a vs k n, ov = .ref a ∧ iv = .int k ∧ H a = some (.lst vs) ∧ ixN vs.length k = some n ∧ Ext ω H ω (upd H a (.lst (vs.set n xv))) ∧ Rel K Γ ω (upd H a (.lst (vs.set n xv))) σ δ' := by
  unfold stF at h
  split at h
  · rename_i k ds e1 e2
    cases q : ixN ds.length k with
    | none => rw [q] at h; cases h
    | some n =>
      rw [q] at h
      cases h
      obtain ⟨a, vs, ds', s1, s2, s3, s4, l⟩ := R.own e2
      cases s2
      rw [ho] at s1
      cases s1
      exact ⟨a, vs, k, n, rfl, (dr_ok R hi e1).int, s4, by rw [l.length]; exact q, own_ext s3 _, R.updOwn e2 ho s3 (l.set hd n)⟩
  · cases h
theorem ds_sub (he : DE X Γ e tv) (ho : DE X Γ o to) (hi : DE X Γ i ti)
    (ha : ∀ v, assign (.Subscript o i p) X.env v = (do
      let ov ← holding [v] (eval o X.env)
      let iv ← holding [v, ov] (eval i X.env)
      standAt p
      holding [v, ov, iv] (setItem ov iv v)
      release [v, ov, iv] []) := by intro _; rfl)
    (hs : swapsWithSole [.Subscript o i p] e pos.line X.env = pure false := by rfl) (hw : swappedStores [.Subscript o i p] e X.env = pure none := by rfl) (h1 : (assignEach [.Subscript o i p] X.env).map (·.2) = [assign (.Subscript o i p) X.env] := by rfl) :
    DS X Γ (.Assign [.Subscript o i p] e pos) (sSub tv to ti) :=
  ⟨fun W tk => PS.imp (ps_asg (he.run W tk) (pg_sub (ho.run W tk) (hi.run W tk) set_list ha) hs hw h1) fun D σ H h => by
    obtain ⟨ω, δ, R, h⟩ := h
    refine up_fl (t := tv) R h fun x H1 ω1 δ1 vx e1 R1 i1 h1 => ?_
    refine up_fl (t := to) R1 h1 fun ov H2 ω2 δ2 vo e2 R2 i2 h2 => ?_
    refine up_fl (t := ti) R2 h2 fun iv H3 ω3 δ3 vi e3 R3 i3 h3 => ?_
    unfold storeF at h3
    split at h3
    · rename_i j d δ4 q
      obtain ⟨ω4, X4, R4, h4⟩ := frz_ok R3 (IsV.mono (e2.trans e3).f i1) q
      cases qs : stF j d vi δ4 with
      | none => rw [qs] at h3; exact h3.elim
      | some δ5 =>
        rw [qs] at h3
        obtain ⟨a, vs, k, n, rfl, rfl, q1, q2, X5, R5⟩ := stF_ok R4 (IsV.mono X4.f i3) h4 i2 qs
        exact ⟨a, vs, k, n, rfl, rfl, q1, q2, h3 σ _ ω4 (X4.trans X5) R5⟩
    · exact h3.elim⟩
/-! ### x op= e, x[i] op= e -/
def sAug (i : Nat) (f : Vl → Vl → DSt → R Vl) (te : TD) : TDS := fun δ => (eVar i δ).fl fun x δ1 => (te δ1).fl fun y δ2 => (f x y δ2).fl fun z δ3 => putF i z δ3
theorem ds_aug {j : Nat} {x : Str} {op : Operator} {r : R2} {f : Vl → Vl → DSt → R Vl} (hr : OpR X (inplaceOp op) r) (ho : Op2 X.K Γ r f) (hN : X.N.Nodup) (hi : X.N[j]? = some x) (he : DE X Γ e te)
    (hx : Loc X.env.scope x := by first | exact .inl rfl | exact .inr rfl) (hf : X.fn x = true ∨ X.env.scope.names.lookup x = some .local := by first | exact .inl rfl | exact .inr rfl) (hp : Γ.idx.contains j = false := by rfl) : DS X Γ (.AugAssign (.Name x p) op e pos) (sAug j f te) :=
  ⟨fun W tk => PS.imp (ps_aug (ti := r) hN hi hx (he.run W tk) hr hf) fun D σ H h => by
    obtain ⟨ω, δ, R, h⟩ := h
    have hv : upE X.K Γ W (eVar j) σ H fun x H1 => up X.K Γ W (rlV X.K Γ) te σ H1 fun y H2 => r x y H2 fun z H3 => D.nx (σ.set j (some z)) H3 := by
      refine up_fl (t := eVar j) R h fun x H1 ω1 δ1 vx e1 R1 i1 h1 => ?_
      refine up_fl (t := te) R1 h1 fun y H2 ω2 δ2 vy e2 R2 i2 h2 => ?_
      refine ho W ω2 H2 σ δ2 vx vy x y _ R2 (IsV.mono e2.f i1) i2 ?_
      revert h2
      cases f vx vy δ2 with
      | ok z δ3 => exact fun h2 v H3 ω3 e3 R3 i3 => putF_ok hp R3 i3 (okS.ext e3 h2)
      | exc c ns ds δ3 => exact fun h2 d H3 ω3 e3 R3 i3 => h2 d σ H3 ω3 e3 R3 i3
      | stuck => exact fun h2 => h2
    obtain ⟨ω0, δ0, R0, h0⟩ := hv
    unfold eVar at h0
    cases q : δ0[j]? with
    | none => rw [q] at h0; exact h0.elim
    | some rr =>
      rw [q] at h0
      cases rr with
      | none => exact h0.elim
      | some rr =>
        obtain ⟨l, d⟩ := rr
        have s := R0.sl j _ q
        match l, h0, s with
        | 0, h0, ⟨v, e, s⟩ => exact ⟨v, slot_of e, okR.now h0 R0 s⟩
        | 1, h0, ⟨a, vs, ds, e, _⟩ => exact ⟨.ref a, slot_of e, okR.now h0 R0 (slot_of e)⟩⟩
def opIAdd (x y : Vl) (δ : DSt) : R Vl := match dr δ x, dr δ y with
  | some (.int i), some (.int j) => .ok (.fz (.int (i + j))) δ
  | some (.str a), some (.str b) => if a.length + b.length ≤ sizeLine then .ok (.fz (.str (a ++ b))) δ else .stuck
  | _, _ => .stuck
def rIAdd : R2 := fun x y H Q => (rI0 (fun i j => .int (i + j))) x y H Q ∨ (∃ i j, x = .str i ∧ y = .str j ∧ i.length + j.length ≤ sizeLine ∧ Q (.str (i ++ j)) H)
theorem opr_iadd {X : Cx} : OpR X (inplaceOp .Add) rIAdd := iop_add.or iop_add_str
theorem op2_iadd {K : Frag} : Op2 K Γ rIAdd opIAdd := fun W ω H σ δ x y v w Q R i1 i2 h => by
  unfold opIAdd at h
  split at h
  · rename_i i j e1 e2
    exact .inl ⟨i, j, (dr_ok R i1 e1).int, (dr_ok R i2 e2).int, okR.now (x := Vl.fz (D.int (i + j))) h R rfl⟩
  · rename_i a b e1 e2
    by_cases hz : a.length + b.length ≤ sizeLine
    · rw [if_pos hz] at h
      exact .inr ⟨a, b, (dr_ok R i1 e1).str, (dr_ok R i2 e2).str, hz, okR.now (x := Vl.fz (D.str (a ++ b))) h R rfl⟩
    · rw [if_neg hz] at h; exact h.elim
  · exact h.elim
/-- o[i] of a list, by values -/
theorem pget_list : PGet X (rIxL X.K) := by
  intro pins s σ H x y v u Q I rx ry h
  obtain ⟨p, xs, i, z, rfl, rfl, hq, he, q⟩ := h
  cases rx
  obtain ⟨t, rfl⟩ := ry
  obtain ⟨its, r, pl, hz⟩ := I.list hq
  have hl := r.length
  have hn := line63
  unfold atI at he
  cases ej : ixN xs.length i with
  | none => rw [ej] at he; cases he
  | some j =>
    rw [ej] at he
    obtain ⟨w, ew, rw'⟩ := r.get (show xs[j]? = some z from he)
    obtain ⟨_, hjl, hb1, hb2⟩ := ixN_seq ej
    unfold ixN at ej
    by_cases h0 : 0 ≤ i
    · rw [if_pos h0] at ej
      split at ej
      · cases ej
        exact wpAny_getItem_list pl.isList h0 (by omega) (by simpa using ew) ⟨z, H, I, rw', q⟩
      · exact absurd hb2 (by assumption)
    · rw [if_neg h0] at ej
      split at ej
      · cases ej
        exact wpAny_getItem_list_neg pl.isList (by omega) (by rw [List.size_toArray] <;> omega) (by omega) (by rw [List.size_toArray, ← hl]; simpa using ew) ⟨z, H, I, rw', q⟩
      · exact absurd hb1 (by assumption)
def sAugS (to ti : TD) (f : Vl → Vl → DSt → R Vl) (te : TD) : TDS := fun δ => (to δ).fl fun o δ1 => (ti δ1).fl fun i δ2 => (match dr δ2 o with
  | some (.lst _) => opIx o i δ2
  | _ => .stuck).fl fun x δ3 => (te δ3).fl fun y δ4 => (f x y δ4).fl fun z δ5 => storeF o i z δ5
theorem ds_augS {op : Operator} {r : R2} {f : Vl → Vl → DSt → R Vl} (hr : OpR X (inplaceOp op) r) (hop : Op2 X.K Γ r f) (ho : DE X Γ o to) (hi : DE X Γ i ti) (he : DE X Γ e te)
    (ha : ∀ ov iv new, augStore i ov iv new = (do holding [new, ov, iv] (setItem ov iv new); release [new, ov, iv] []; pure .next) := by intros; rfl) : DS X Γ (.AugAssign (.Subscript o i p) op e pos) (sAugS to ti f te) :=
  ⟨fun W tk => PS.imp (ps_augS (tip := r) (ho.run W tk) (hi.run W tk) pget_list (he.run W tk) hr set_list ha) fun D σ H h => by
    obtain ⟨ω, δ, R, h⟩ := h
    refine up_fl (t := to) R h fun ov H1 ω1 δ1 vo e1 R1 i1 h1 => ?_
    refine up_fl (t := ti) R1 h1 fun iv H2 ω2 δ2 vi e2 R2 i2 h2 => ?_
    have i1' := IsV.mono e2.f i1
    split at h2
    case h_2 => exact h2.elim
    rename_i ds0 qd
    obtain ⟨a, vs, rfl, hsq, l⟩ := (dr_ok R2 i1' qd).lst
    unfold opIx at h2
    rw [qd] at h2
    cases qi : dr δ2 vi with
    | none => rw [qi] at h2; exact h2.elim
    | some di =>
      rw [qi] at h2
      cases di with
      | int k =>
        dsimp only at h2
        cases qg : getD? (.lst ds0) k with
        | none => rw [qg] at h2; exact h2.elim
        | some d =>
          rw [qg] at h2
          obtain ⟨u, q1, q2⟩ := IsL.atI l qg
          refine ⟨a, vs, k, u, rfl, (dr_ok R2 i2 qi).int, hsq, q1, ?_⟩
          refine up_fl (t := te) R2 h2 fun y H3 ω3 δ3 vy e3 R3 i3 h3 => ?_
          refine hop W ω3 H3 σ δ3 (.fz d) vy u y _ R3 (q2.mono e3.f) i3 ?_
          have h3 : okS X.K Γ W ω3 H3 ((f (.fz d) vy δ3).fl fun z δ5 => storeF vo vi z δ5) D := h3
          revert h3
          cases f (.fz d) vy δ3 with
          | exc c ns ds δ3 => exact fun h2 d H3 ω3 e3 R3 i3 => h2 d σ H3 ω3 e3 R3 i3
          | stuck => exact fun h2 => h2
          | ok z δ4 =>
            intro h3 vz H4 ω4 e4 R4 i4
            have h4 : okS X.K Γ W ω4 H4 (storeF vo vi z δ4) D := okS.ext e4 h3
            cases vo with
            | fz dd => exact (show False from h4).elim
            | sl j =>
              cases q5 : frz δ4 z with
              | none => simp only [storeF, q5] at h4; exact h4.elim
              | some pr =>
                obtain ⟨dz, δ5⟩ := pr
                simp only [storeF, q5] at h4
                obtain ⟨ω5, X5, R5, h5⟩ := frz_ok R4 i4 q5
                cases qs : stF j dz vi δ5 with
                | none => rw [qs] at h4; exact h4.elim
                | some δ6 =>
                  rw [qs] at h4
                  obtain ⟨a', vs', k', n, ea, rfl, r1, r2, X6, R6⟩ := stF_ok R5 (IsV.mono ((e3.trans e4).trans X5).f i2) h5 (show σ[j]? = some (some (.ref a)) from i1) qs
                  exact ⟨a', vs', k', n, ea, rfl, r1, r2, h4 σ _ ω5 (X5.trans X6) R6⟩
      | _ => exact h2.elim⟩
/-! ### a, b = e1, e2 -/
theorem ds_par {i j : Nat} {x y : Str} {a b : Expr} {ta tb : TD} {px py pt : Pos} {kt k2 pt2} (hc : X.calm = true) (hN : X.N.Nodup) (hi : X.N[i]? = some x) (hj : X.N[j]? = some y) (hij : i ≠ j)
    (hx : X.env.scope.names.lookup x = some .local) (hy : X.env.scope.names.lookup y = some .local) (ha : DA X Γ [a, b] (aCons ta (aCons tb aNil))) (hw : swappedStores [.Tuple [.Name x px, .Name y py] kt pt] (.Tuple [a, b] k2 pt2) X.env = pure (some [x, y]))
    (hp : Γ.idx.contains i = false := by rfl) (hq : Γ.idx.contains j = false := by rfl) (hs : swapsWithSole [.Tuple [.Name x px, .Name y py] kt pt] (.Tuple [a, b] k2 pt2) pos.line X.env = pure false := by rfl) :
    DS X Γ (.Assign [.Tuple [.Name x px, .Name y py] kt pt] (.Tuple [a, b] k2 pt2) pos) (fun δ => (aCons ta (aCons tb aNil) δ).fl fun xs δ1 => match frzs δ1 xs with
      | some ([d, e], δ2) => .nx ((δ2.set i (some (0, d))).set j (some (0, e)))
      | _ => .stuck) :=
  ⟨fun W tk => PS.imp (ps_par hc hN hi hj hij hx hy (ha.run W tk) hw hs) fun D σ H h => by
    obtain ⟨ω, δ, R, h⟩ := h
    refine up_fl (t := aCons ta (aCons tb aNil)) R h fun vs H1 ω1 δ1 xs e1 R1 i1 h1 => ?_
    split at h1
    · rename_i d e δ2 q
      obtain ⟨ω2, X2, R2, v, r, rfl, h3, w, r2, rfl, h4, h5⟩ := frzs_ok R1 i1 q
      cases (show r2 = [] from h5)
      exact ⟨v, w, rfl, h1 _ H1 ω2 X2 ((R2.put (e := some (0, d)) hp ⟨v, rfl, h3⟩).put (e := some (0, e)) hq ⟨w, rfl, h4⟩)⟩
    · exact h1.elim⟩
/-- a, b, .. = a tuple -/
def sAsgT (t : Tgt) (te : TD) : TDS := fun δ => (te δ).fl fun x δ1 => match frz δ1 x with
  | some (d, δ2) => (match setT t d δ2 with
    | some δ3 => .nx δ3
    | none => .stuck)
  | none => .stuck
theorem ds_asgT {tg : Expr} {t : Tgt} (he : DE X Γ e te) (hg : DTg X tg t) (hpin : pinOk Γ t = true := by rfl) (hs : swapsWithSole [tg] e pos.line X.env = pure false := by rfl) (hw : swappedStores [tg] e X.env = pure none := by rfl)
    (h1 : (assignEach [tg] X.env).map (·.2) = [assign tg X.env] := by rfl) : DS X Γ (.Assign [tg] e pos) (sAsgT t te) :=
  ⟨fun W tk => PS.imp (ps_asg (he.run W tk) hg.run hs hw h1) fun D σ H h => by
    obtain ⟨ω, δ, R, h⟩ := h
    refine up_fl (t := te) R h fun v H1 ω1 δ1 x e1 R1 i1 h1 => ?_
    split at h1
    · rename_i d δ2 q
      obtain ⟨ω2, X2, R2, h2⟩ := frz_ok R1 i1 q
      cases qs : setT t d δ2 with
      | none => rw [qs] at h1; exact h1.elim
      | some δ3 =>
        rw [qs] at h1
        exact setT_ok hpin R2 h2 qs fun vs R3 => h1 _ H1 ω2 X2 R3
    · exact h1.elim⟩
/-! ### methods of a slot's own list -/
def mutF (lm : List D → List D → Option (D × List D)) (o : Vl) (xs : List Vl) (δ : DSt) : R Vl := match o, frzs δ xs with
  | .sl j, some (as, δ1) => (match δ1[j]? with
    | some (some (1, .lst ds)) => (match lm ds as with
      | some (r, ds') => .ok (.fz r) (δ1.set j (some (1, .lst ds')))
      | none => .stuck)
    | _ => .stuck)
  | _, _ => .stuck
/-- the receiver is a list that a slot owns -/
def isOwn (δ : DSt) : Vl → Bool
  | .sl j => (match δ[j]? with
    | some (some (1, .lst _)) => true
    | _ => false)
  | _ => false
def eMut (lm : List D → List D → Option (D × List D)) (to : TD) (ta : TDA) : TD := fun δ => (to δ).bind fun o δ1 => if isOwn δ1 o then (ta δ1).bind fun xs δ2 => mutF lm o xs δ2 else .stuck
def MtL (r : V → List V → Hp → VK → Prop) (lm : List D → List D → Option (D × List D)) : Prop :=
  ∀ (K : Frag) (ω : Om) (H : Hp) (xi : Xi) (a : Addr) (vs ws : List V) (ds as ds' : List D) (rd : D) (Q : VK), H a = some (.lst vs) → IsL K ω H xi ds vs → IsL K ω H xi as ws → lm ds as = some (rd, ds') →
    (∀ u us, Is K ω H xi rd u → IsL K ω H xi ds' us → Q u (upd H a (.lst us))) → r (.ref a) ws H Q
theorem mut_ok {K : Frag} {W : WX} {r : V → List V → Hp → VK → Prop} {lm : List D → List D → Option (D × List D)} (hr : MtL r lm) {ω : Om} {H : Hp} {σ : L2.St} {δ : DSt} {o : Vl} {xs : List Vl} {v : V} {ws : List V} {Q : VK} (R : Rel K Γ ω H σ δ) (iv : IsV K Γ ω H σ o v) (ix : IsVs K Γ ω H σ xs ws) (h : okV K Γ W ω H σ (mutF lm o xs δ) Q) : r v ws H Q := by
  unfold mutF at h
  split at h
  · rename_i j as δ1 q
    obtain ⟨ω1, X1, R1, l1⟩ := frzs_ok R ix q
    split at h
    · rename_i ds q2
      obtain ⟨a, vs, ds0, s1, s2, s3, s4, l⟩ := R1.own q2
      cases s2
      rw [show σ[j]? = some (some v) from iv] at s1
      cases s1
      cases q3 : lm ds as with
      | none => rw [q3] at h; exact h.elim
      | some pr =>
        obtain ⟨rd, ds'⟩ := pr
        rw [q3] at h
        refine hr K ω1 H Γ.xi a vs ws ds as ds' rd Q s4 l l1 q3 fun u us hu hus => ?_
        have X2 := own_ext (H := H) s3 (.lst us)
        exact okR.at (x := Vl.fz rd) h (X1.trans X2) (R1.updOwn q2 iv s3 hus) (hu.mono X2.f)
    · exact h.elim
  · exact h.elim
theorem own_ty {K : Frag} {ω : Om} {H : Hp} {σ : L2.St} {δ : DSt} {o : Vl} {v : V} (R : Rel K Γ ω H σ δ) (iv : IsV K Γ ω H σ o v) (h : isOwn δ o = true) : tyV K "list" v H := by
  unfold isOwn at h
  split at h
  · rename_i j
    split at h
    · rename_i ds q
      obtain ⟨a, vs, ds0, s1, s2, s3, s4, l⟩ := R.own q
      rw [show σ[j]? = some (some v) from iv] at s1
      cases s1
      exact .inl ⟨rfl, vs, SqL.of s4⟩
    · cases h
  · cases h
variable {es : List Expr} {ta : TDA} {name : Str} {apos cpos : Pos} {id : String} {r : V → List V → Hp → VK → Prop} {lm : List D → List D → Option (D × List D)}
theorem de_mut (slot : Slot "list" name id) (hty : typeOf (.builtin id) = pure (.type "method_descriptor")) (hm : MtR X id r) (hr : MtL r lm) (ho : DE X Γ o to) (ha : DA X Γ (e :: es) ta)
    (hbase : attributeBase o name X.env (eval o X.env) = eval o X.env := by rfl)
    (hfew : ((backTo cpos (starEach (e :: es) X.env)).all (fun x => !x.1) && (backToKw cpos (keywordEach [] X.env)).all (fun x => x.1.isSome)
      && decide ((e :: es).length + ([] : List Keyword).length + (if ([] : List Keyword).isEmpty then 0 else 1) < 30)) = true := by rfl)
    (hline : (apos.endLine == cpos.line) = true := by rfl) (hs : starEach (e :: es) X.env = (false, eval e X.env) :: starEach es X.env := by rfl) (hplain : (backTo cpos (starEach es X.env)).any (·.1) = false := by rfl) :
    DE X Γ (.Call (.Attribute o name apos) (e :: es) [] cpos) (eMut lm to ta) :=
  ⟨fun W tk => PE.imp (pe_bm PySem.F.plainAttrs_list slot hty hm (ho.run W tk) (ha.run W tk) hbase hfew hline hs hplain) fun σ H Q h => by
    obtain ⟨ω, δ, R, h⟩ := h
    refine up_bind (t := to) R h fun v H1 ω1 δ1 o e1 R1 i1 h1 => ?_
    by_cases hz : isOwn δ1 o = true
    · rw [if_pos hz] at h1
      exact ⟨own_ty R1 i1 hz, up_bind (t := ta) R1 h1 fun ws H2 ω2 δ2 xs e2 R2 i2 h2 => mut_ok hr R2 (IsV.mono e2.f i1) i2 h2⟩
    · rw [if_neg hz] at h1; exact h1.elim⟩
def eMut0 (lm : List D → List D → Option (D × List D)) (to : TD) : TD := fun δ => (to δ).bind fun o δ1 => if isOwn δ1 o then mutF lm o [] δ1 else .stuck
theorem de_mut0 (slot : Slot "list" name id) (hty : typeOf (.builtin id) = pure (.type "method_descriptor")) (hm : MtR X id r) (hr : MtL r lm) (ho : DE X Γ o to)
    (hbase : attributeBase o name X.env (eval o X.env) = eval o X.env := by rfl) (hline : (apos.endLine == cpos.line) = true := by rfl) : DE X Γ (.Call (.Attribute o name apos) [] [] cpos) (eMut0 lm to) :=
  ⟨fun W tk => PE.imp (pe_bm0 PySem.F.plainAttrs_list slot hty hm (ho.run W tk) hbase hline) fun σ H Q h => by
    obtain ⟨ω, δ, R, h⟩ := h
    refine up_bind (t := to) R h fun v H1 ω1 δ1 o e1 R1 i1 h1 => ?_
    by_cases hz : isOwn δ1 o = true
    · rw [if_pos hz] at h1
      exact ⟨own_ty R1 i1 hz, mut_ok (xs := []) (ws := []) hr R1 i1 rfl h1⟩
    · rw [if_neg hz] at h1; exact h1.elim⟩
def lmApp : List D → List D → Option (D × List D)
  | ds, [d] => if ds.length < sizeLine then some (.non, ds ++ [d]) else none
  | _, _ => none
theorem mtl_app : MtL rAppend lmApp := fun K ω H xi a vs ws ds as ds' rd Q hv l la e h => by
  match as, la, e with
  | [d], ⟨v, r, e0, h1, h2⟩, e =>
    cases e0
    cases (show r = [] from h2)
    unfold lmApp at e
    dsimp only at e
    by_cases hz : ds.length < sizeLine
    · rw [if_pos hz] at e
      cases e
      exact ⟨a, vs, v, rfl, rfl, hv, by rw [l.length]; exact hz, h _ _ rfl (l.append (IsL.one h1))⟩
    · rw [if_neg hz] at e; cases e
  | [], _, e => cases e
  | _ :: _ :: _, _, e => cases e
def lmExt : List D → List D → Option (D × List D)
  | ds, [.lst es] => if ds.length + es.length ≤ sizeLine then some (.non, ds ++ es) else none
  | _, _ => none
theorem mtl_ext : MtL rExtend lmExt := fun K ω H xi a vs ws ds as ds' rd Q hv l la e h => by
  unfold lmExt at e
  split at e
  · rename_i es
    obtain ⟨v, r, e0, ⟨b, us, e1, n, k⟩, h2⟩ := la
    cases e0
    cases e1
    cases (show r = [] from h2)
    split at e
    · rename_i hz
      cases e
      exact ⟨a, b, vs, us, rfl, rfl, hv, n.2, by rw [l.length, k.length]; exact hz, h _ _ rfl (l.append k)⟩
    · cases e
  · cases e
def lmPop : List D → List D → Option (D × List D)
  | ds, [] => (match ds[ds.length - 1]? with
    | some d => some (d, ds.dropLast)
    | none => none)
  | _, _ => none
theorem mtl_pop : MtL rPop lmPop := fun K ω H xi a vs ws ds as ds' rd Q hv l la e h => by
  match as, la, e with
  | [], la, e =>
    cases (show ws = [] from la)
    unfold lmPop at e
    dsimp only at e
    cases q : ds[ds.length - 1]? with
    | none => rw [q] at e; cases e
    | some d =>
      rw [q] at e
      cases e
      obtain ⟨v, q1, q2⟩ := l.get q
      refine ⟨a, vs, v, rfl, rfl, hv, by rw [l.length]; exact q1, h _ _ q2 ?_⟩
      rw [List.dropLast_eq_take, List.dropLast_eq_take, l.length]
      exact l.take _
  | _ :: _, _, e => cases e
theorem IsL.eraseIdx {K : Frag} {ω : Om} {H : Hp} {xi : Xi} {ds : List D} {vs : List V} (l : IsL K ω H xi ds vs) (k : Nat) : IsL K ω H xi (ds.eraseIdx k) (vs.eraseIdx k) := by
  rw [List.eraseIdx_eq_take_drop_succ, List.eraseIdx_eq_take_drop_succ]
  exact (l.take k).append (l.drop (k + 1))
def lmPopAt : List D → List D → Option (D × List D)
  | ds, [.int i] => if -(2 ^ 63) ≤ i ∧ i < 2 ^ 63 then (match seqIndex? i ds.length with
    | some k => (match ds[k]? with
      | some d => some (d, ds.eraseIdx k)
      | none => none)
    | none => none) else none
  | _, _ => none
theorem mtl_popAt : MtL rPopAt lmPopAt := fun K ω H xi a vs ws ds as ds' rd Q hv l la e h => by
  unfold lmPopAt at e
  split at e
  · rename_i i
    obtain ⟨v, r, e0, e1, h2⟩ := la
    cases e0
    cases (show v = V.int i from e1)
    cases (show r = [] from h2)
    split at e
    · rename_i hz
      split at e
      · rename_i k q1
        split at e
        · rename_i d q2
          cases e
          obtain ⟨u, q3, q4⟩ := l.get q2
          exact ⟨a, vs, i, k, u, rfl, rfl, hv, hz.1, hz.2, by rw [l.length]; exact q1, q3, h _ _ q4 (l.eraseIdx k)⟩
        · cases e
      · cases e
    · cases e
  · cases e
def rIns : V → List V → Hp → VK → Prop := fun x vs H Q => ∃ (l : Addr) (xs : List V) (i : Int) (y : V), x = .ref l ∧ vs = [.int i, y] ∧ H l = some (.lst xs) ∧ xs.length < sizeLine ∧ 0 ≤ i ∧ i < 2 ^ 63 ∧ Q .non (upd H l (.lst (xs.take i.toNat ++ [y] ++ xs.drop i.toNat)))
def lmIns : List D → List D → Option (D × List D)
  | ds, [.int i, d] => if ds.length < sizeLine ∧ 0 ≤ i ∧ i < 2 ^ 63 then some (.non, ds.take i.toNat ++ [d] ++ ds.drop i.toNat) else none
  | _, _ => none
theorem mtl_ins : MtL rIns lmIns := fun K ω H xi a vs ws ds as ds' rd Q hv l la e h => by
  unfold lmIns at e
  split at e
  · rename_i i d
    obtain ⟨v, r, e0, e1, w, r2, e2, h2, h3⟩ := la
    cases e0
    cases e2
    cases (show v = V.int i from e1)
    cases (show r2 = [] from h3)
    split at e
    · rename_i hz
      cases e
      exact ⟨a, vs, i, w, rfl, rfl, hv, by rw [l.length]; exact hz.1, hz.2.1, hz.2.2, h _ _ rfl (((l.take _).append (IsL.one h2)).append (l.drop _))⟩
    · cases e
  · cases e
end
end DL

set_option Elab.async false
set_option linter.all false
set_option maxRecDepth 100000
namespace DL
open PySem PySem.Spec PyProof.Rows L2
/-! ### what a def computes -/
inductive FR where
  | ok (r : D) (ms : List D) | rg (r : D) (ms : List D) | exc (c : Str) (ns : List Str) (ds ms : List D) | stuck
def mutIdx : Nat → List Bool → List Nat
  | _, [] => []
  | k, true :: r => k :: mutIdx (k + 1) r
  | k, false :: r => mutIdx (k + 1) r
def mutPins : Nat → List Bool → List V → List (Nat × V)
  | k, true :: r, v :: vs => (k, v) :: mutPins (k + 1) r vs
  | k, false :: r, _ :: vs => mutPins (k + 1) r vs
  | _, _, _ => []
theorem mutPins_idx : ∀ {k : Nat} {modes : List Bool} {vs : List V}, ∀ q ∈ mutPins k modes vs, q.1 ∈ mutIdx k modes
  | k, true :: r, v :: vs, q, h => by
    unfold mutPins at h
    unfold mutIdx
    rcases List.mem_cons.mp h with e | h
    · rw [e]; exact List.mem_cons_self
    · exact List.mem_cons_of_mem _ (mutPins_idx q h)
  | k, false :: r, _ :: vs, q, h => by
    unfold mutPins at h
    unfold mutIdx
    exact mutPins_idx q h
  | k, [], vs, q, h => by simp [mutPins] at h
  | k, true :: r, [], q, h => by simp [mutPins] at h
  | k, false :: r, [], q, h => by simp [mutPins] at h
abbrev gm (modes : List Bool) (vs : List V) (xi : Xi) : Gm := ⟨mutPins 0 modes vs, mutIdx 0 modes, mutPins_idx, xi⟩
def OwnL (K : Frag) (ω : Om) (H : Hp) (xi : Xi) (i : Nat) (d : D) (v : V) : Prop := ∃ a ws es, v = .ref a ∧ d = .lst es ∧ ω a = .own i ∧ H a = some (.lst ws) ∧ IsL K ω H xi es ws
def ArgsR (K : Frag) (ω : Om) (H : Hp) (xi : Xi) : Nat → List Bool → List V → List D → Prop
  | _, [], [], [] => True
  | k, false :: ms, v :: vs, d :: ds => Is K ω H xi d v ∧ ArgsR K ω H xi (k + 1) ms vs ds
  | k, true :: ms, v :: vs, d :: ds => OwnL K ω H xi k d v ∧ ArgsR K ω H xi (k + 1) ms vs ds
  | _, _, _, _ => False
def MutR (K : Frag) (ω : Om) (H : Hp) (xi : Xi) : Nat → List Bool → List V → List D → Prop
  | _, [], [], [] => True
  | k, false :: ms, _ :: vs, es => MutR K ω H xi (k + 1) ms vs es
  | k, true :: ms, v :: vs, e :: es => OwnL K ω H xi k e v ∧ MutR K ω H xi (k + 1) ms vs es
  | _, _, _, _ => False
def WFO (ω : Om) (H : Hp) : Prop := ∀ b, ω b ≠ .out → ∃ o, H b = some o
/-- the promise of a def that computes m -/
def spX (K : Frag) (xi : Xi) (modes : List Bool) (m : List D → FR) : Sp := fun vs H Q E => ∃ ω ds, WFO ω H ∧ ArgsR K ω H xi 0 modes vs ds ∧ (match m ds with
  | .ok r ms => ∀ v H' ω', Ext ω H ω' H' → WFO ω' H' → Is K ω' H' xi r v → MutR K ω' H' xi 0 modes vs ms → Q v H'
  | .rg r ms => ∀ v H' ω', Ext ω H ω' H' → WFO ω' H' → OwnL K ω' H' xi tagR r v → MutR K ω' H' xi 0 modes vs ms → Q v H'
  | .exc c ns es ms => ∀ d H' ω', Ext ω H ω' H' → WFO ω' H' → XIs K { xi := xi } ω' H' ns es d → MutR K ω' H' xi 0 modes vs ms → E (.ref (He.ga K c)) d H'
  | .stuck => False)
abbrev spD (K : Frag) (modes : List Bool) (m : List D → FR) : Sp := spX K none modes m
theorem ArgsR.len {K : Frag} {ω : Om} {H : Hp} {xi : Xi} : ∀ {k : Nat} {modes : List Bool} {vs : List V} {ds : List D}, ArgsR K ω H xi k modes vs ds → vs.length = modes.length ∧ ds.length = modes.length
  | k, [], [], [], h => ⟨rfl, rfl⟩
  | k, [], _ :: _, [], h => h.elim
  | k, [], [], _ :: _, h => h.elim
  | k, [], _ :: _, _ :: _, h => h.elim
  | k, false :: ms, v :: vs, d :: ds, h => by
    have z := ArgsR.len h.2
    exact ⟨by rw [List.length_cons, List.length_cons, z.1], by rw [List.length_cons, List.length_cons, z.2]⟩
  | k, true :: ms, v :: vs, d :: ds, h => by
    have z := ArgsR.len h.2
    exact ⟨by rw [List.length_cons, List.length_cons, z.1], by rw [List.length_cons, List.length_cons, z.2]⟩
  | k, false :: ms, [], _, h => h.elim
  | k, true :: ms, [], _, h => h.elim
  | k, false :: ms, _ :: _, [], h => h.elim
  | k, true :: ms, _ :: _, [], h => h.elim
theorem spX.len {K : Frag} {xi : Xi} {modes : List Bool} {m : List D → FR} {vs : List V} {H : Hp} {Q : VK} {E : XK} (h : spX K xi modes m vs H Q E) : vs.length = modes.length := by
  obtain ⟨ω, ds, _, a, _⟩ := h
  exact a.len.1
/-! ### a def's body -/
def startA : List Bool → List D → DSt
  | true :: ms, d :: ds => some (1, d) :: startA ms ds
  | false :: ms, d :: ds => some (0, d) :: startA ms ds
  | _, _ => []
def startD (modes : List Bool) (n : Nat) (ds : List D) : DSt := startA modes ds ++ List.replicate n none
def mutsD (δ : DSt) : List Nat → Option (List D)
  | [] => some []
  | i :: is => match δ[i]? with
    | some (some (1, d)) => (match mutsD δ is with
      | some r => some (d :: r)
      | none => none)
    | _ => none
def fin (modes : List Bool) : Fl → FR
  | .rt x δ => (match frz δ x with
    | some (d, δ1) => (match mutsD δ1 (mutIdx 0 modes) with
      | some ms => .ok d ms
      | none => .stuck)
    | none => .stuck)
  | .nx δ => (match mutsD δ (mutIdx 0 modes) with
      | some ms => .ok .non ms
      | none => .stuck)
  | .rg d δ => (match mutsD δ (mutIdx 0 modes) with
      | some ms => .rg d ms
      | none => .stuck)
  | .ex c ns ds δ => (match mutsD δ (mutIdx 0 modes) with
      | some ms => .exc c ns ds ms
      | none => .stuck)
  | _ => .stuck
section
variable {K : Frag} {ω ω' : Om} {H H' : Hp} {xi : Xi} {σ : L2.St} {δ δ' : DSt}
theorem start_sl : ∀ {k : Nat} {modes : List Bool} {vs : List V} {ds : List D}, ArgsR K ω H xi k modes vs ds → ∀ i e, (startA modes ds)[i]? = some e → Sl K ω H xi (k + i) e (vs[i]?)
  | k, [], [], [], h, i, e, q => by simp [startA] at q
  | k, false :: ms, v :: vs, d :: ds, h, 0, e, q => by
    simp [startA] at q
    subst q
    exact ⟨v, by simp, h.1⟩
  | k, true :: ms, v :: vs, d :: ds, h, 0, e, q => by
    simp [startA] at q
    subst q
    obtain ⟨a, ws, es, e1, e2, e3, e4, e5⟩ := h.1
    exact ⟨a, ws, es, by simp [e1], e2, e3, e4, e5⟩
  | k, false :: ms, v :: vs, d :: ds, h, i + 1, e, q => by
    have z := start_sl h.2 i e (by simpa [startA] using q)
    rw [show k + 1 + i = k + (i + 1) by omega] at z
    simpa using z
  | k, true :: ms, v :: vs, d :: ds, h, i + 1, e, q => by
    have z := start_sl h.2 i e (by simpa [startA] using q)
    rw [show k + 1 + i = k + (i + 1) by omega] at z
    simpa using z
  | k, [], _ :: _, [], h, _, _, _ => h.elim
  | k, [], [], _ :: _, h, _, _, _ => h.elim
  | k, [], _ :: _, _ :: _, h, _, _, _ => h.elim
  | k, false :: ms, [], _, h, _, _, _ => h.elim
  | k, true :: ms, [], _, h, _, _, _ => h.elim
  | k, false :: ms, _ :: _, [], h, _, _, _ => h.elim
  | k, true :: ms, _ :: _, [], h, _, _, _ => h.elim
theorem startA_len : ∀ {modes : List Bool} {ds : List D}, ds.length = modes.length → (startA modes ds).length = modes.length
  | [], _, _ => rfl
  | true :: ms, d :: ds, h => by
    unfold startA
    rw [List.length_cons, List.length_cons, startA_len (by simpa using h)]
  | false :: ms, d :: ds, h => by
    unfold startA
    rw [List.length_cons, List.length_cons, startA_len (by simpa using h)]
  | true :: ms, [], h => by simp at h
  | false :: ms, [], h => by simp at h
theorem pins_at : ∀ {k : Nat} {modes : List Bool} {vs : List V} {q : Nat × V}, q ∈ mutPins k modes vs → k ≤ q.1 ∧ vs[q.1 - k]? = some q.2
  | k, true :: r, v :: vs, q, h => by
    unfold mutPins at h
    rcases List.mem_cons.mp h with e | h
    · rw [e]; exact ⟨Nat.le_refl _, by simp⟩
    · obtain ⟨z1, z2⟩ := pins_at h
      exact ⟨by omega, by rw [show q.1 - k = (q.1 - (k + 1)) + 1 by omega, List.getElem?_cons_succ]; exact z2⟩
  | k, false :: r, _ :: vs, q, h => by
    unfold mutPins at h
    obtain ⟨z1, z2⟩ := pins_at h
    exact ⟨by omega, by rw [show q.1 - k = (q.1 - (k + 1)) + 1 by omega, List.getElem?_cons_succ]; exact z2⟩
  | k, [], vs, q, h => by simp [mutPins] at h
  | k, true :: r, [], q, h => by simp [mutPins] at h
  | k, false :: r, [], q, h => by simp [mutPins] at h
theorem rel_start {modes : List Bool} {vs : List V} {ds : List D} {N : List Str} (wf : WFO ω H) (h : ArgsR K ω H xi 0 modes vs ds) (hn : modes.length ≤ N.length) : Rel K (gm modes vs xi) ω H (L2.start N vs) (startD modes (N.length - modes.length) ds) := by
  have hl := h.len
  have ha := startA_len hl.2
  refine ⟨wf, ?_, fun i e hi => ?_, fun q hq => ?_⟩
  · unfold L2.start startD
    rw [List.length_append, List.length_append, List.length_map, List.length_replicate, List.length_replicate, ha, hl.1]
  · unfold startD at hi
    by_cases z : i < modes.length
    · rw [List.getElem?_append_left (by omega)] at hi
      have s := start_sl h i e hi
      rw [Nat.zero_add] at s
      have : (L2.start N vs)[i]?.join = vs[i]? := by
        unfold L2.start
        rw [List.getElem?_append_left (by rw [List.length_map]; omega), List.getElem?_map]
        cases vs[i]? <;> rfl
      rw [this]
      exact s
    · rw [List.getElem?_append_right (by omega), List.getElem?_replicate] at hi
      split at hi
      · cases hi; trivial
      · cases hi
  · obtain ⟨_, z⟩ := pins_at hq
    rw [Nat.sub_zero] at z
    unfold L2.start
    rw [List.getElem?_append_left (by rw [List.length_map]; exact (List.getElem?_eq_some_iff.mp z).1), List.getElem?_map, z]
    rfl
theorem muts_ok : ∀ {k : Nat} {modes : List Bool} {vs : List V} {ms : List D}, vs.length = modes.length → (∀ i v, (i, v) ∈ mutPins k modes vs → σ[i]? = some (some v)) → (∀ i e, δ[i]? = some e → Sl K ω H xi i e (σ[i]?.join)) → mutsD δ (mutIdx k modes) = some ms → MutR K ω H xi k modes vs ms
  | k, [], [], ms, _, _, _, e => by
    simp [mutIdx, mutsD] at e
    subst e
    trivial
  | k, [], _ :: _, ms, h, _, _, e => by simp at h
  | k, false :: r, v :: vs, ms, hl, hp, hs, e => muts_ok (k := k + 1) (modes := r) (vs := vs) (by simpa using hl) (fun i v h => hp i v h) hs e
  | k, true :: r, v :: vs, ms, hl, hp, hs, e => by
    unfold mutIdx mutsD at e
    split at e
    · rename_i d q
      cases q2 : mutsD δ (mutIdx (k + 1) r) with
      | none => rw [q2] at e; cases e
      | some rr =>
        rw [q2] at e
        cases e
        have s := hs k _ q
        rw [slot_some (hp k v (by unfold mutPins; exact List.mem_cons_self))] at s
        obtain ⟨a, ws, es, e1, e2, e3, e4, e5⟩ := s
        cases e1
        exact ⟨⟨a, ws, es, rfl, e2, e3, e4, e5⟩, muts_ok (k := k + 1) (modes := r) (vs := vs) (by simpa using hl) (fun i v h => hp i v (by unfold mutPins; exact List.mem_cons_of_mem _ h)) hs q2⟩
    · cases e
  | k, false :: r, [], ms, h, _, _, e => by simp at h
  | k, true :: r, [], ms, h, _, _, e => by simp at h
theorem Rel.muts {modes : List Bool} {vs : List V} {ms : List D} (R : Rel K (gm modes vs xi) ω H σ δ) (hl : vs.length = modes.length) (e : mutsD δ (mutIdx 0 modes) = some ms) : MutR K ω H xi 0 modes vs ms :=
  muts_ok hl (fun i v h => R.pin (i, v) h) R.sl e
end
section
variable {P : Program} {w : World} {K : Frag} {mg : Str → Option Value} {base : Heap} {x qual : Str} {params : Arguments} {body : List Stmt} {scope : Scope} {dvs : List V} {kws : List (Str × V)} {f : Addr} {fd : FuncData}
abbrev cxD (P : Program) (w : World) (K : Frag) (mg : Str → Option Value) (base : Heap) (N : List Str) (qual : Str) (scope : Scope) (f : Addr) (cd : Value) (A : Around) (outer : List Env) (s : Shared) (H : Hp) (E : XK) : Cx := cxOf (L2N.CX P w) P w K mg base N qual scope f cd A outer s H E
/-- what a def's body computes, run from its arguments -/
def runB (modes : List Bool) (n : Nat) (t : TDS) : List D → FR := fun ds => fin modes (t (startD modes n ds))
theorem body_ok {X : Cx} {xi : Xi} {modes : List Bool} {N : List Str} {t : TDS} {W : WX} {vs : List V} {H : Hp} {Q : VK} {E : XK} (hn : modes.length ≤ N.length) (hW : ∀ cls d σ H, E cls d H → W cls d σ H) (h : spX K xi modes (runB modes (N.length - modes.length) t) vs H Q E) :
    upS K (gm modes vs xi) W t { nx := fun _ H' => Q .non H', rt := Q } (L2.start N vs) H := by
  obtain ⟨ω, ds, wf, a, h⟩ := h
  have hl := a.len.1
  refine ⟨ω, startD modes (N.length - modes.length) ds, rel_start wf a hn, ?_⟩
  unfold runB at h
  revert h
  cases t (startD modes (N.length - modes.length) ds) with
  | nx δ =>
    intro h σ' H' ω' X' R'
    unfold fin at h
    dsimp only at h
    cases q : mutsD δ (mutIdx 0 modes) with
    | none => rw [q] at h; exact h.elim
    | some ms => rw [q] at h; exact h .non H' ω' X' R'.wf rfl (R'.muts hl q)
  | rt y δ =>
    intro h v σ' H' ω' X' R' iv
    unfold fin at h
    dsimp only at h
    cases qf : frz δ y with
    | none => rw [qf] at h; exact h.elim
    | some pr =>
      obtain ⟨d, δ1⟩ := pr
      rw [qf] at h
      dsimp only at h
      obtain ⟨ω2, X2, R2, h2⟩ := frz_ok R' iv qf
      cases q : mutsD δ1 (mutIdx 0 modes) with
      | none => rw [q] at h; exact h.elim
      | some ms => rw [q] at h; exact h v H' ω2 (X'.trans X2) R2.wf h2 (R2.muts hl q)
  | rg d δ =>
    intro h v σ' H' ω' X' R' iv
    unfold fin at h
    dsimp only at h
    cases q : mutsD δ (mutIdx 0 modes) with
    | none => rw [q] at h; exact h.elim
    | some ms => rw [q] at h; exact h v H' ω' X' R'.wf iv (R'.muts hl q)
  | ex c ns es δ =>
    intro h d σ' H' ω' X' R' ix
    unfold fin at h
    dsimp only at h
    cases q : mutsD δ (mutIdx 0 modes) with
    | none => rw [q] at h; exact h.elim
    | some ms => rw [q] at h; exact hW _ _ _ _ (h d H' ω' X' R'.wf ix (R'.muts hl q))
  | bk δ => exact fun h => h.elim
  | ct δ => exact fun h => h.elim
  | stuck => exact fun h => h.elim
theorem fn_deep {modes : List Bool} {N ps : List Str} {k : Nat} {t : TDS} (F : FunD K x qual params body scope dvs kws f fd) (S : FnScope N ps scope) (hm : modes.length = ps.length) (hn : modes.length ≤ N.length)
    (hb : ∀ (cdv : Value) (A : Around) (outer : List Env) (s : Shared) (H : Hp) (vs : List V) (E : XK), Room k (A.deeper (envOfC qual scope s.heap.objs.size f cdv)) → DB (cxD P w K mg base N qual scope f cdv A outer s H E) (gm modes vs none) body t) :
    FnOk P w K mg base (L2N.CX P w) (k + 1) f fd ps (spD K modes (runB modes (N.length - modes.length) t)) :=
  F.ok S (fun vs H Q E h => by rw [← hm]; exact h.len) fun cdv A outer s H vs Q E hr h =>
    ⟨_, (hb cdv A outer s H vs E hr).run (fun cls d _ H => E cls d H) (L2N.takes_of rfl rfl rfl rfl), body_ok (X := cxD P w K mg base N qual scope f cdv A outer s H E) hn (fun _ _ _ _ z => z) h⟩
end
end DL

set_option Elab.async false
set_option linter.all false
set_option maxRecDepth 100000
namespace DL
open PySem PySem.Spec PyProof.Rows L2
/-! ### a call of a def -/
def bindA : List Bool → List Vl → DSt → Option DSt
  | [], [], δ => some δ
  | false :: ms, x :: xs, δ => (match frz δ x with
    | some (_, δ1) => bindA ms xs δ1
    | none => none)
  | true :: ms, _ :: xs, δ => bindA ms xs δ
  | _, _, _ => none
def argD (δ : DSt) : List Bool → List Vl → Option (List D)
  | [], [] => some []
  | false :: ms, .fz d :: xs => (argD δ ms xs).map fun r => d :: r
  | false :: ms, .sl j :: xs => (match δ[j]? with
    | some (some (0, d)) => (argD δ ms xs).map fun r => d :: r
    | _ => none)
  | true :: ms, .sl j :: xs => (match δ[j]? with
    | some (some (1, d)) => (argD δ ms xs).map fun r => d :: r
    | _ => none)
  | _, _ => none
/-- parameter, slot -/
def pairsA : Nat → List Bool → List Vl → List (Nat × Nat)
  | k, true :: ms, .sl j :: xs => (k, j) :: pairsA (k + 1) ms xs
  | k, _ :: ms, _ :: xs => pairsA (k + 1) ms xs
  | _, _, _ => []
def putM : List (Nat × Nat) → List D → DSt → Option DSt
  | [], [], δ => some δ
  | (_, j) :: L, d :: ds, δ => putM L ds (δ.set j (some (1, d)))
  | _, _, _ => none
def ndup : List Nat → Bool
  | [] => true
  | a :: r => !r.contains a && ndup r
def callF {α : Type} (f : D → α) (g : D → α) (modes : List Bool) (m : List D → FR) (xs : List Vl) (δ : DSt) : R α := match bindA modes xs δ with
  | none => .stuck
  | some δ1 => match argD δ1 modes xs with
    | none => .stuck
    | some ds => if ndup ((pairsA 0 modes xs).map (·.2)) then (match m ds with
      | .ok r ms => (match putM (pairsA 0 modes xs) ms δ1 with
        | some δ2 => .ok (f r) δ2
        | none => .stuck)
      | .rg r ms => (match putM (pairsA 0 modes xs) ms δ1 with
        | some δ2 => .ok (g r) δ2
        | none => .stuck)
      | .exc c ns es ms => (match putM (pairsA 0 modes xs) ms δ1 with
        | some δ2 => .exc c ns es δ2
        | none => .stuck)
      | .stuck => .stuck) else .stuck
/-- the value of a call is frozen -/
def eFn (modes : List Bool) (m : List D → FR) (ta : TDA) : TD := fun δ => (ta δ).bind fun xs δ1 => callF Vl.fz Vl.fz modes m xs δ1
/-- the value of a call is an own list -/
def noG (m : List D → FR) : List D → FR := fun ds => match m ds with
  | .ok _ _ => .stuck
  | r => r
def gFn (modes : List Bool) (m : List D → FR) (ta : TDA) : TDG := fun δ => (ta δ).bind fun xs δ1 => callF id id modes (noG m) xs δ1
theorem find2 : ∀ {L : List (Nat × Nat)} {q : Nat × Nat}, ndup (L.map (·.2)) = true → q ∈ L → L.find? (fun r => r.2 == q.2) = some q
  | [], q, _, h => by simp at h
  | p :: L, q, n, h => by
    unfold ndup at n
    simp only [List.map_cons, Bool.and_eq_true, Bool.not_eq_true'] at n
    rcases List.mem_cons.mp h with e | h
    · subst e
      simp
    · have hne : (p.2 == q.2) = false := by
        refine Bool.eq_false_iff.mpr fun z => ?_
        have e : p.2 = q.2 := by simpa using z
        have hm : q.2 ∈ L.map (·.2) := List.mem_map_of_mem h
        rw [← e] at hm
        have := n.1
        rw [List.contains_iff_mem.mpr hm] at this
        cases this
      rw [List.find?_cons, hne]
      exact find2 (by unfold ndup at n; first | exact n.2 | (cases L with | nil => rfl | cons _ _ => exact n.2)) h
theorem pairs_ge : ∀ {k : Nat} {modes : List Bool} {xs : List Vl} {q : Nat × Nat}, q ∈ pairsA k modes xs → k ≤ q.1
  | k, [], _, q, h => by simp [pairsA] at h
  | k, true :: ms, [], q, h => by simp [pairsA] at h
  | k, false :: ms, [], q, h => by simp [pairsA] at h
  | k, true :: ms, .sl j :: xs, q, h => by
    unfold pairsA at h
    rcases List.mem_cons.mp h with e | h
    · rw [e]; exact Nat.le_refl _
    · have := pairs_ge h; omega
  | k, true :: ms, .fz d :: xs, q, h => by
    have := pairs_ge (k := k + 1) (modes := ms) (xs := xs) (by simpa [pairsA] using h)
    omega
  | k, false :: ms, x :: xs, q, h => by
    have := pairs_ge (k := k + 1) (modes := ms) (xs := xs) (by simpa [pairsA] using h)
    omega
theorem find1 : ∀ {k : Nat} {modes : List Bool} {xs : List Vl} {q : Nat × Nat}, q ∈ pairsA k modes xs → (pairsA k modes xs).find? (fun r => r.1 == q.1) = some q
  | k, [], _, q, h => by simp [pairsA] at h
  | k, true :: ms, [], q, h => by simp [pairsA] at h
  | k, false :: ms, [], q, h => by simp [pairsA] at h
  | k, true :: ms, .sl j :: xs, q, h => by
    unfold pairsA at h ⊢
    rcases List.mem_cons.mp h with e | h
    · subst e; simp
    · have hge := pairs_ge h
      rw [List.find?_cons, show ((k, j).1 == q.1) = false by simp; omega]
      exact find1 h
  | k, true :: ms, .fz d :: xs, q, h => find1 (k := k + 1) (modes := ms) (xs := xs) h
  | k, false :: ms, x :: xs, q, h => find1 (k := k + 1) (modes := ms) (xs := xs) h
section
variable {K : Frag} {Γ : Gm} {W : WX} {ω ω' : Om} {H H' : Hp} {σ : L2.St} {δ δ' : DSt}
theorem bindA_ok : ∀ {modes : List Bool} {xs : List Vl} {vs : List V} {δ δ' : DSt} {ω : Om}, Rel K Γ ω H σ δ → IsVs K Γ ω H σ xs vs → bindA modes xs δ = some δ' → ∃ ω', Ext ω H ω' H ∧ Rel K Γ ω' H σ δ'
  | [], [], vs, δ, δ', ω, R, i, e => by cases e; exact ⟨ω, Ext.refl _ _, R⟩
  | [], _ :: _, vs, δ, δ', ω, R, i, e => by cases e
  | false :: ms, [], vs, δ, δ', ω, R, i, e => by cases e
  | true :: ms, [], vs, δ, δ', ω, R, i, e => by cases e
  | false :: ms, x :: xs, vs, δ, δ', ω, R, i, e => by
    obtain ⟨v, r, rfl, i1, i2⟩ := i
    unfold bindA at e
    cases q : frz δ x with
    | none => rw [q] at e; cases e
    | some pr =>
      obtain ⟨d, δ1⟩ := pr
      rw [q] at e
      obtain ⟨ω1, X1, R1, _⟩ := frz_ok R i1 q
      obtain ⟨ω2, X2, R2⟩ := bindA_ok R1 (IsVs.mono X1.f i2) e
      exact ⟨ω2, X1.trans X2, R2⟩
  | true :: ms, x :: xs, vs, δ, δ', ω, R, i, e => by
    obtain ⟨v, r, rfl, i1, i2⟩ := i
    exact bindA_ok (modes := ms) R i2 e
/-- the callee's tags -/
def calO (L : List (Nat × Nat)) (ω : Om) : Om := fun b => match ω b with
  | .own i => (match L.find? (fun r => r.2 == i) with
    | some q => .own q.1
    | none => .out)
  | t => t
theorem calO_fz {L : List (Nat × Nat)} : Fz ω H (calO L ω) H := fun b h => ⟨by unfold calO; rw [h], rfl⟩
theorem argD_ok (R : Rel K Γ ω H σ δ) (L : List (Nat × Nat)) (hL : ndup (L.map (·.2)) = true) : ∀ {k : Nat} {modes : List Bool} {xs : List Vl} {vs : List V} {ds : List D}, (∀ q ∈ pairsA k modes xs, q ∈ L) → IsVs K Γ ω H σ xs vs → argD δ modes xs = some ds → ArgsR K (calO L ω) H Γ.xi k modes vs ds
  | k, [], [], vs, ds, _, i, e => by
    cases e
    cases (show vs = [] from i)
    trivial
  | k, [], _ :: _, vs, ds, _, i, e => by cases e
  | k, false :: ms, [], vs, ds, _, i, e => by cases e
  | k, true :: ms, [], vs, ds, _, i, e => by cases e
  | k, true :: ms, .fz d :: xs, vs, ds, _, i, e => by cases e
  | k, false :: ms, .fz d :: xs, vs, ds, h, i, e => by
    obtain ⟨v, r, rfl, i1, i2⟩ := i
    unfold argD at e
    cases q : argD δ ms xs with
    | none => rw [q] at e; cases e
    | some rr =>
      rw [q] at e
      cases e
      exact ⟨Is.mono calO_fz i1, argD_ok R L hL (k := k + 1) h i2 q⟩
  | k, false :: ms, .sl j :: xs, vs, ds, h, i, e => by
    obtain ⟨v, r, rfl, i1, i2⟩ := i
    unfold argD at e
    split at e
    · rename_i d qd
      cases q : argD δ ms xs with
      | none => rw [q] at e; cases e
      | some rr =>
        rw [q] at e
        cases e
        obtain ⟨w, e1, s⟩ := R.sl j _ qd
        rw [slot_some (show σ[j]? = some (some v) from i1)] at e1
        cases e1
        exact ⟨s.mono calO_fz, argD_ok R L hL (k := k + 1) h i2 q⟩
    · cases e
  | k, true :: ms, .sl j :: xs, vs, ds, h, i, e => by
    obtain ⟨v, r, rfl, i1, i2⟩ := i
    unfold argD at e
    split at e
    · rename_i d qd
      cases q : argD δ ms xs with
      | none => rw [q] at e; cases e
      | some rr =>
        rw [q] at e
        cases e
        obtain ⟨a, ws, es, e1, e2, e3, e4, e5⟩ := R.own qd
        rw [show σ[j]? = some (some v) from i1] at e1
        cases e1
        have hm : (k, j) ∈ L := h (k, j) (by unfold pairsA; exact List.mem_cons_self)
        have hf := find2 hL hm
        refine ⟨⟨a, ws, es, rfl, e2, ?_, e4, e5.mono calO_fz⟩, argD_ok R L hL (k := k + 1) (fun z hz => h z (by unfold pairsA; exact List.mem_cons_of_mem _ hz)) i2 q⟩
        unfold calO
        rw [e3]
        dsimp only at hf ⊢
        rw [hf]
    · cases e
open Classical in
/-- the caller's tags behind the call -/
noncomputable def retO (L : List (Nat × Nat)) (ω : Om) (H : Hp) (τ : Tg) (ω2 : Om) : Om := fun b =>
  if (H b).isSome = true ∧ (∀ i, ω b = .own i → L.find? (fun r => r.2 == i) = none) then ω b else match ω2 b with
    | .own k => if k = tagR then τ else (match L.find? (fun r => r.1 == k) with
      | some q => .own q.2
      | none => .out)
    | t => t
theorem ret_ok (Rl : Rel K Γ ω H σ δ) {L : List (Nat × Nat)} {τ : Tg} {ω2 : Om} {H2 : Hp} (X : Ext (calO L ω) H ω2 H2) (wf : WFO ω2 H2) (hτ : τ = .out ∨ True) : Ext ω H (retO L ω H τ ω2) H2 ∧ WFO (retO L ω H τ ω2) H2 ∧ Fz ω2 H2 (retO L ω H τ ω2) H2 := by
  have keep : ∀ b, (H b).isSome = true → (∀ i, ω b = .own i → L.find? (fun r => r.2 == i) = none) → retO L ω H τ ω2 b = ω b := fun b h1 h2 => by unfold retO; rw [if_pos ⟨h1, h2⟩]
  have alive : ∀ b, ω b ≠ .out → (H b).isSome = true := fun b h => by
    obtain ⟨o, q⟩ := Rl.wf b h
    rw [q] <;> rfl
  refine ⟨⟨fun b hb => ?_, fun b o hb hb' => ?_⟩, fun b hb => ?_, fun b hb => ?_⟩
  · have e := keep b (alive b (by rw [hb]; intro z; cases z)) fun i z => by rw [hb] at z; cases z
    exact ⟨by rw [e]; exact hb, (X.fz b (by unfold calO; rw [hb])).2⟩
  · have e := keep b (by rw [hb] <;> rfl) fun i z => by rw [hb'] at z; cases z
    exact ⟨by rw [e]; exact hb', (X.out b o hb (by unfold calO; rw [hb'])).2⟩
  · by_cases z : (H b).isSome = true ∧ (∀ i, ω b = .own i → L.find? (fun r => r.2 == i) = none)
    · obtain ⟨o, ho⟩ := Option.isSome_iff_exists.mp z.1
      cases q : ω b with
      | fz => exact ⟨o, ((X.fz b (by unfold calO; rw [q])).2).trans ho⟩
      | out => exact ⟨o, (X.out b o ho (by unfold calO; rw [q])).2⟩
      | own i => exact ⟨o, (X.out b o ho (by unfold calO; rw [q]; dsimp only; rw [z.2 i q])).2⟩
    · unfold retO at hb
      rw [if_neg z] at hb
      refine wf b fun q => hb ?_
      rw [q]
  · by_cases z : (H b).isSome = true ∧ (∀ i, ω b = .own i → L.find? (fun r => r.2 == i) = none)
    · rw [keep b z.1 z.2]
      obtain ⟨o, ho⟩ := Option.isSome_iff_exists.mp z.1
      cases q : ω b with
      | fz => exact ⟨rfl, rfl⟩
      | out =>
        have := (X.out b o ho (by unfold calO; rw [q])).1
        rw [hb] at this; cases this
      | own i =>
        have := (X.out b o ho (by unfold calO; rw [q]; dsimp only; rw [z.2 i q])).1
        rw [hb] at this; cases this
    · unfold retO
      rw [if_neg z, hb]
      exact ⟨rfl, rfl⟩
/-- the slots behind the call -/
theorem ret_rel (Rl : Rel K Γ ω H σ δ) {modes : List Bool} {xs : List Vl} {vs : List V} {τ : Tg} {ω2 : Om} {H2 : Hp} (hL : ndup ((pairsA 0 modes xs).map (·.2)) = true) (ix : IsVs K Γ ω H σ xs vs) (X : Ext (calO (pairsA 0 modes xs) ω) H ω2 H2) (wf : WFO ω2 H2) (hr : ∀ q ∈ pairsA 0 modes xs, q.1 ≠ tagR) :
    ∀ {ms : List D} {δ2 : DSt}, (∃ ds, argD δ modes xs = some ds) → MutR K ω2 H2 Γ.xi 0 modes vs ms → putM (pairsA 0 modes xs) ms δ = some δ2 → Rel K Γ (retO (pairsA 0 modes xs) ω H τ ω2) H2 σ δ2 := by
  intro ms δ2 ⟨ds, ha⟩ hm hput
  obtain ⟨XE, WE, FE⟩ := ret_ok (τ := τ) Rl X wf (.inr trivial)
  -- slots that are not handed over
  have other : ∀ i e, (pairsA 0 modes xs).find? (fun r => r.2 == i) = none → δ[i]? = some e → Sl K (retO (pairsA 0 modes xs) ω H τ ω2) H2 Γ.xi i e (σ[i]?.join) := fun i e hn hi => by
    refine (Rl.sl i e hi).mono XE.f fun b hb => ?_
    obtain ⟨o, ho⟩ := Rl.wf b (by rw [hb]; intro z; cases z)
    have z : (H b).isSome = true ∧ (∀ j, ω b = .own j → (pairsA 0 modes xs).find? (fun r => r.2 == j) = none) := ⟨by rw [ho] <;> rfl, fun j q => by rw [hb] at q; cases q; exact hn⟩
    refine ⟨by unfold retO; rw [if_pos z]; exact hb, ?_⟩
    have := (X.out b o ho (by unfold calO; rw [hb]; dsimp only; rw [hn])).2
    rw [this, ho]
  -- the handed over ones
  have gen : ∀ (k : Nat) (modes1 : List Bool) (xs1 : List Vl) (vs1 : List V) (ms1 : List D) (ds1 : List D) (δ1 δ3 : DSt), (∀ q ∈ pairsA k modes1 xs1, q ∈ pairsA 0 modes xs) → IsVs K Γ ω H σ xs1 vs1 → argD δ modes1 xs1 = some ds1 → MutR K ω2 H2 Γ.xi k modes1 vs1 ms1 → putM (pairsA k modes1 xs1) ms1 δ1 = some δ3 → δ1.length = δ.length →
      (∀ i e, (pairsA k modes1 xs1).find? (fun r => r.2 == i) = none → δ1[i]? = some e → Sl K (retO (pairsA 0 modes xs) ω H τ ω2) H2 Γ.xi i e (σ[i]?.join)) → δ3.length = δ.length ∧ ∀ i e, δ3[i]? = some e → Sl K (retO (pairsA 0 modes xs) ω H τ ω2) H2 Γ.xi i e (σ[i]?.join) := by
    intro k modes1
    induction modes1 generalizing k with
    | nil =>
      intro xs1 vs1 ms1 ds1 δ1 δ3 hq i ha hm hp hl hs
      cases xs1 with
      | cons _ _ => cases ha
      | nil =>
        simp only [pairsA] at hp hs
        cases ms1 with
        | cons _ _ => cases hp
        | nil =>
          cases hp
          exact ⟨hl, fun i e h => hs i e (by simp) h⟩
    | cons md mr ih =>
      intro xs1 vs1 ms1 ds1 δ1 δ3 hq i ha hm hp hl hs
      cases xs1 with
      | nil => cases md <;> cases ha
      | cons x xr =>
        obtain ⟨v, vr, rfl, i1, i2⟩ := i
        cases md with
        | false =>
          have ha2 : ∃ d2, argD δ mr xr = some d2 := by
            cases x with
            | fz d =>
              unfold argD at ha
              cases q : argD δ mr xr with
              | none => rw [q] at ha; cases ha
              | some r => exact ⟨r, rfl⟩
            | sl j =>
              unfold argD at ha
              split at ha
              · cases q : argD δ mr xr with
                | none => rw [q] at ha; cases ha
                | some r => exact ⟨r, rfl⟩
              · cases ha
          obtain ⟨d2, ha2⟩ := ha2
          have ep : pairsA k (false :: mr) (x :: xr) = pairsA (k + 1) mr xr := by cases x <;> rfl
          rw [ep] at hq hp hs
          exact ih (k + 1) xr vr ms1 d2 δ1 δ3 hq i2 ha2 hm hp hl hs
        | true =>
          cases x with
          | fz d => cases ha
          | sl j =>
            unfold argD at ha
            split at ha
            · rename_i d qd
              cases q : argD δ mr xr with
              | none => rw [q] at ha; cases ha
              | some d2 =>
                cases ms1 with
                | nil => exact hm.elim
                | cons e es =>
                  obtain ⟨⟨a, ws, ls, e1, e2, e3, e4, e5⟩, hm2⟩ := hm
                  obtain ⟨a0, ws0, ls0, s1, s2, s3, s4, s5⟩ := Rl.own qd
                  rw [show σ[j]? = some (some v) from i1, e1] at s1
                  cases s1
                  have hmem : (k, j) ∈ pairsA 0 modes xs := hq (k, j) (by unfold pairsA; exact List.mem_cons_self)
                  have hf1 := find1 hmem
                  have hf2 := find2 hL hmem
                  have hk := hr _ hmem
                  have tagA : retO (pairsA 0 modes xs) ω H τ ω2 a = .own j := by
                    unfold retO
                    rw [if_neg (fun z => by have := z.2 j s3; dsimp only at hf2; rw [hf2] at this; cases this), e3]
                    dsimp only at hf1 hk ⊢
                    rw [if_neg hk, hf1]
                  refine ih (k + 1) xr vr es d2 (δ1.set j (some (1, e))) δ3 (fun z hz => hq z (by unfold pairsA; exact List.mem_cons_of_mem _ hz)) i2 q hm2 (by unfold pairsA putM at hp; exact hp) (by rw [List.length_set]; exact hl) fun i e' hn hi => ?_
                  by_cases z : j = i
                  · subst z
                    have hlt : j < δ1.length := by
                      have := (List.getElem?_eq_some_iff.mp hi).1
                      rwa [List.length_set] at this
                    rw [List.getElem?_set_self hlt] at hi
                    cases hi
                    exact ⟨a, ws, ls, slot_some (by rw [← e1]; exact i1), e2, tagA, e4, e5.mono FE⟩
                  · rw [List.getElem?_set_ne z] at hi
                    refine hs i e' ?_ hi
                    unfold pairsA
                    rw [List.find?_cons, show ((k, j).2 == i) = false by simp; exact z]
                    exact hn
            · cases ha
  obtain ⟨g1, g2⟩ := gen 0 modes xs vs ms ds δ δ2 (fun _ z => z) ix ha hm hput rfl other
  exact ⟨WE, by rw [g1]; exact Rl.len, g2, Rl.pin⟩
end
theorem ret_tag {K : Frag} {Γ : Gm} {ω ω2 : Om} {H H2 : Hp} {σ : L2.St} {δ : DSt} {L : List (Nat × Nat)} {τ : Tg} (X : Ext (calO L ω) H ω2 H2) {b : Addr} (h : ω2 b = .own tagR) : retO L ω H τ ω2 b = τ := by
  unfold retO
  rw [if_neg, h]
  · dsimp only
    rw [if_pos rfl]
  · intro z
    obtain ⟨o, ho⟩ := Option.isSome_iff_exists.mp z.1
    cases q : ω b with
    | fz =>
      have := (X.fz b (by unfold calO; rw [q])).1
      rw [h] at this; cases this
    | out =>
      have := (X.out b o ho (by unfold calO; rw [q])).1
      rw [h] at this; cases this
    | own i =>
      have := (X.out b o ho (by unfold calO; rw [q]; dsimp only; rw [z.2 i q])).1
      rw [h] at this; cases this
/-- a def as its callers know it -/
structure Fn (P : Program) (w : World) (K : Frag) (mg : Str → Option Value) (base : Heap) (x : Str) (k : Nat) (dvs : List V) (modes : List Bool) (m : List D → FR) : Prop where
  ex : ∃ (f : Addr) (fd : FuncData) (ps : List Str) (dus : List Value), mg x = some (.ref f) ∧ PySem.W.keepIn K (.ref f) = true ∧ Binds K fd ps dus ∧ Vals dvs dus ∧ FnOk P w K mg base (L2N.CX P w) k f fd ps (spD K modes m)
theorem Fn.cong {P : Program} {w : World} {K : Frag} {mg : Str → Option Value} {base : Heap} {x : Str} {k : Nat} {dvs : List V} {modes : List Bool} {m m' : List D → FR} (F : Fn P w K mg base x k dvs modes m) (e : m = m') : Fn P w K mg base x k dvs modes m' := e ▸ F
theorem pairs_lt : ∀ {k : Nat} {ms : List Bool} {ys : List Vl} {q : Nat × Nat}, q ∈ pairsA k ms ys → q.1 < k + ms.length
  | k, [], ys, q, h => by simp [pairsA] at h
  | k, true :: r, [], q, h => by simp [pairsA] at h
  | k, false :: r, [], q, h => by simp [pairsA] at h
  | k, false :: r, y :: yr, q, h => by
    have := pairs_lt (k := k + 1) (ms := r) (ys := yr) (by simpa [pairsA] using h)
    rw [List.length_cons]; omega
  | k, true :: r, .fz d :: yr, q, h => by
    have := pairs_lt (k := k + 1) (ms := r) (ys := yr) (by simpa [pairsA] using h)
    rw [List.length_cons]; omega
  | k, true :: r, .sl j :: yr, q, h => by
    unfold pairsA at h
    rw [List.length_cons]
    rcases List.mem_cons.mp h with z | z
    · rw [z]; dsimp only; omega
    · have := pairs_lt z
      omega
theorem XIs.mono {K : Frag} {Γ Γ' : Gm} {ω ω' : Om} {H : Hp} {ns : List Str} {ds : List D} {d : Option Addr} (hx : Γ.xi = Γ'.xi) (F : Fz ω H ω' H) (h : XIs K Γ ω H ns ds d) : XIs K Γ' ω' H ns ds d := by
  rcases h with h | ⟨e, ws, e1, e2, e3, e4, e5⟩
  · exact .inl h
  · exact .inr ⟨e, ws, e1, (F e e2).1, e3, e4, by rw [← hx]; exact e5.mono F⟩
theorem call_ok {K : Frag} {Γ : Gm} {W : WX} {ω : Om} {H : Hp} {σ : L2.St} {δ : DSt} {modes : List Bool} {m : List D → FR} {xs : List Vl} {vs : List V} {Q : VK} {α : Type} {rel : Om → Hp → L2.St → α → V → Prop} {f g : D → α} {τ : Tg} (hlen : modes.length ≤ 900)
    (hf : ∀ ds r ms ω H v, m ds = .ok r ms → Is K ω H Γ.xi r v → rel ω H σ (f r) v) (hg : ∀ ω' ω2 H2 r v, Fz ω2 H2 ω' H2 → (∀ b, ω2 b = .own tagR → ω' b = τ) → OwnL K ω2 H2 Γ.xi tagR r v → rel ω' H2 σ (g r) v)
    (Rl : Rel K Γ ω H σ δ) (ix : IsVs K Γ ω H σ xs vs) (h : okR K Γ W ω H σ rel (callF f g modes m xs δ) Q) : spX K Γ.xi modes m vs H Q fun cls d H' => W cls d σ H' := by
  unfold callF at h
  cases qb : bindA modes xs δ with
  | none => rw [qb] at h; exact h.elim
  | some δ1 =>
    rw [qb] at h
    dsimp only at h
    obtain ⟨ω1, X1, R1⟩ := bindA_ok Rl ix qb
    have ix1 := IsVs.mono X1.f ix
    cases qa : argD δ1 modes xs with
    | none => rw [qa] at h; exact h.elim
    | some ds =>
      rw [qa] at h
      dsimp only at h
      by_cases hL : ndup ((pairsA 0 modes xs).map (·.2)) = true
      · rw [if_pos hL] at h
        have A := argD_ok R1 (pairsA 0 modes xs) hL (k := 0) (fun _ z => z) ix1 qa
        have hr : ∀ q ∈ pairsA 0 modes xs, q.1 ≠ tagR := fun q hq => by
          have := pairs_lt hq
          show q.1 ≠ 1000
          omega
        have wfc : WFO (calO (pairsA 0 modes xs) ω1) H := fun b hb => R1.wf b fun z => hb (by unfold calO; rw [z])
        refine ⟨calO (pairsA 0 modes xs) ω1, ds, wfc, A, ?_⟩
        cases qm : m ds with
        | stuck => rw [qm] at h; exact h.elim
        | rg r ms =>
          rw [qm] at h
          dsimp only at h ⊢
          intro v H2 ω2 X2 wf2 ir mu
          cases qp : putM (pairsA 0 modes xs) ms δ1 with
          | none => rw [qp] at h; exact h.elim
          | some δ2 =>
            rw [qp] at h
            have R2 := ret_rel (τ := τ) R1 hL ix1 X2 wf2 hr ⟨ds, qa⟩ mu qp
            obtain ⟨X3, _, F3⟩ := ret_ok (τ := τ) R1 X2 wf2 (.inr trivial)
            exact okR.at h (X1.trans X3) R2 (hg _ _ _ _ _ F3 (fun b hb => ret_tag (K := K) (Γ := Γ) (σ := σ) (δ := δ) X2 hb) ir)
        | ok r ms =>
          rw [qm] at h
          dsimp only at h ⊢
          intro v H2 ω2 X2 wf2 ir mu
          cases qp : putM (pairsA 0 modes xs) ms δ1 with
          | none => rw [qp] at h; exact h.elim
          | some δ2 =>
            rw [qp] at h
            have R2 := ret_rel (τ := τ) R1 hL ix1 X2 wf2 hr ⟨ds, qa⟩ mu qp
            obtain ⟨X3, _, F3⟩ := ret_ok (τ := τ) R1 X2 wf2 (.inr trivial)
            exact okR.at h (X1.trans X3) R2 (hf _ _ _ _ _ _ qm (ir.mono F3))
        | exc c ns es ms =>
          rw [qm] at h
          dsimp only at h ⊢
          intro d H2 ω2 X2 wf2 ie mu
          cases qp : putM (pairsA 0 modes xs) ms δ1 with
          | none => rw [qp] at h; exact h.elim
          | some δ2 =>
            rw [qp] at h
            have R2 := ret_rel (τ := τ) R1 hL ix1 X2 wf2 hr ⟨ds, qa⟩ mu qp
            obtain ⟨X3, _, F3⟩ := ret_ok (τ := τ) R1 X2 wf2 (.inr trivial)
            exact h d H2 _ (X1.trans X3) R2 (XIs.mono rfl F3 ie)
      · rw [if_neg hL] at h; exact h.elim
theorem noG_imp {K : Frag} {xi : Xi} {modes : List Bool} {m : List D → FR} {vs : List V} {H : Hp} {Q : VK} {E : XK} (h : spX K xi modes (noG m) vs H Q E) : spX K xi modes m vs H Q E := by
  obtain ⟨ω, ds, wf, a, h⟩ := h
  refine ⟨ω, ds, wf, a, ?_⟩
  unfold noG at h
  revert h
  cases m ds with
  | ok r ms => exact fun h => h.elim
  | rg r ms => exact id
  | exc c ns es ms => exact id
  | stuck => exact id
section
variable {X : Cx} {Γ : Gm} {x : Str} {p pos : Pos} {e : Expr} {es : List Expr} {ta : TDA} {k j : Nat} {dvs : List V} {modes : List Bool} {m : List D → FR} {τ : Tg}
theorem rel_fz {K : Frag} {Γ : Gm} {ω' ω2 : Om} {H2 : Hp} {r : D} {v : V} (F : Fz ω2 H2 ω' H2) (ht : ∀ b, ω2 b = .own tagR → ω' b = .fz) (h : OwnL K ω2 H2 Γ.xi tagR r v) : Is K ω' H2 Γ.xi r v := by
  obtain ⟨a, ws, ls, rfl, rfl, e3, e4, e5⟩ := h
  exact ⟨a, ws, rfl, ⟨ht a e3, e4⟩, e5.mono F⟩
theorem rel_own {K : Frag} {Γ : Gm} {σ : L2.St} {ω' ω2 : Om} {H2 : Hp} {r : D} {v : V} {τ : Tg} (hτ : τ ≠ .out) (F : Fz ω2 H2 ω' H2) (ht : ∀ b, ω2 b = .own tagR → ω' b = τ) (h : OwnL K ω2 H2 Γ.xi tagR r v) : rlG K Γ τ ω' H2 σ r v := by
  cases τ with
  | out => exact absurd rfl hτ
  | fz => exact rel_fz F ht h
  | own i =>
    obtain ⟨a, ws, ls, rfl, rfl, e3, e4, e5⟩ := h
    exact ⟨a, ws, ls, rfl, rfl, ht a e3, e4, e5.mono F⟩
/-- f(e, ..), every parameter given -/
theorem de_fn (F : Fn X.prog X.w X.K X.mg X.base x j [] modes m) (hr : Room k X.A) (hx : Γ.xi = none := by rfl) (hj : j ≤ k := by decide) (hlen : modes.length ≤ 900 := by decide) (ha : DA X Γ (e :: es) ta) (hg : Gl X x := by rfl) (hdb : (x == ("__debug__" : Str)) = false := by decide)
    (he : starEach (e :: es) X.env = (false, eval e X.env) :: starEach es X.env := by rfl) (hpl : (backTo pos (starEach es X.env)).any (·.1) = false := by rfl) : DE X Γ (.Call (.Name x p) (e :: es) [] pos) (eFn modes m ta) := by
  obtain ⟨f, fd, ps, dus, hm, hk, hb, hd, ok⟩ := F.ex
  cases hd
  refine ⟨fun W tk => PE.imp (pe_callSD (E := WE W) (dvs := []) ok (hr.mono hj) hg hm hk hb .nil (fun σ => L2N.passAt tk σ) (ha.run W tk) hdb he hpl) fun σ H Q h => ?_⟩
  obtain ⟨ω, δ, R, h⟩ := h
  refine up_bind (t := ta) R h fun vs H1 ω1 δ1 xs e1 R1 i1 h1 => ?_
  rw [List.append_nil]
  have z := call_ok (τ := .fz) (rel := rlV X.K Γ) (f := Vl.fz) (g := Vl.fz) hlen (fun _ _ _ _ _ _ _ h => h) (fun _ _ _ _ _ F ht h => rel_fz F ht h) R1 i1 h1
  rw [hx] at z
  exact z
/-- .. an own list comes back -/
theorem dg_fn (hτ : τ ≠ .out) (F : Fn X.prog X.w X.K X.mg X.base x j [] modes m) (hr : Room k X.A) (hx : Γ.xi = none := by rfl) (hj : j ≤ k := by decide) (hlen : modes.length ≤ 900 := by decide) (ha : DA X Γ (e :: es) ta) (hg : Gl X x := by rfl) (hdb : (x == ("__debug__" : Str)) = false := by decide)
    (he : starEach (e :: es) X.env = (false, eval e X.env) :: starEach es X.env := by rfl) (hpl : (backTo pos (starEach es X.env)).any (·.1) = false := by rfl) : DG X Γ τ (.Call (.Name x p) (e :: es) [] pos) (gFn modes m ta) := by
  obtain ⟨f, fd, ps, dus, hm, hk, hb, hd, ok⟩ := F.ex
  cases hd
  refine ⟨fun W tk => PE.imp (pe_callSD (E := WE W) (dvs := []) ok (hr.mono hj) hg hm hk hb .nil (fun σ => L2N.passAt tk σ) (ha.run W tk) hdb he hpl) fun σ H Q h => ?_⟩
  obtain ⟨ω, δ, R, h⟩ := h
  refine up_bind (t := ta) R h fun vs H1 ω1 δ1 xs e1 R1 i1 h1 => ?_
  rw [List.append_nil]
  have z := call_ok (τ := τ) (rel := rlG X.K Γ τ) (f := id) (g := id) hlen (fun ds r ms _ _ _ e _ => by
    unfold noG at e
    split at e
    · cases e
    · rename_i q
      exact absurd e (q r ms)) (fun _ _ _ _ _ F ht h => rel_own hτ F ht h) R1 i1 h1
  rw [hx] at z
  exact noG_imp z
end
end DL

set_option Elab.async false
set_option linter.all false
set_option maxRecDepth 100000
namespace DL
open PySem PySem.Spec PyProof.Rows L2
/-! ### own errors whose __init__ stores its arguments -/
/-- what such an __init__ does -/
def spI (K : Frag) (fs : List Str) : Sp := fun vs H Q _ => ∃ (a C : Addr) (ws : List V), vs = .ref a :: ws ∧ ws.length = fs.length ∧ H a = some (exo a C none) ∧ OexC K C ∧ (∀ f ∈ fs, PySem.W.findIn K (.ref C) f = some none) ∧
  ∀ d, H d = none → d ≠ a → Q .non (upd (upd H d (exd d (fs.zip ws).reverse)) a (exo a C (some d)))
section
variable {P : Program} {w : World} {K : Frag} {mg : Str → Option Value} {base : Heap} {q : Str} {args : Arguments} {body : List Stmt} {scope : Scope} {fI : Addr} {fd : FuncData} {f g : Str}
theorem vis_of {N ps : List Str} {sc : Scope} (S : FnScope N ps sc) {x : Str} (h : x ∈ ps) : Vis sc x := (S.par x h).imp id .inl
theorem init1 (F : FunD K "__init__" q args body scope [] [] fI fd) (S : FnScope ["self", f] ["self", f] scope) {p1 p2 p3 p4 : Pos} (hb : body = [.Assign [.Attribute (.Name "self" p1) f p2] (.Name f p3) p4])
    (h1 : (f == ("__debug__" : Str)) = false) (h2 : (f == ("__classdict__" : Str)) = false) : FnOk P w K mg base (L2N.CX P w) 1 fI fd ["self", f] (spI K [f]) := by
  subst hb
  refine F.ok S (fun vs H Q E h => ?_) fun cdv A outer s H vs Q E hr h => ⟨_, pss_one (ps_ost (pe_var (i := 0) rfl (vis_of S (by simp))) (pe_var (i := 1) rfl (vis_of S (by simp)) h1 h2)), ?_⟩
  · obtain ⟨a, C, ws, rfl, hl, _⟩ := h
    simpa using hl
  · obtain ⟨a, C, ws, rfl, hl, ha, T, hn, k⟩ := h
    match ws, hl with
    | [v], _ =>
      exact ⟨v, rfl, .ref a, rfl, a, C, rfl, T, hn f (by simp), .inl ⟨ha, fun d hd ne => k d hd ne⟩⟩
theorem init2 (F : FunD K "__init__" q args body scope [] [] fI fd) (S : FnScope ["self", f, g] ["self", f, g] scope) {p1 p2 p3 p4 q1 q2 q3 q4 : Pos} (hb : body = [.Assign [.Attribute (.Name "self" p1) f p2] (.Name f p3) p4, .Assign [.Attribute (.Name "self" q1) g q2] (.Name g q3) q4])
    (h1 : (f == ("__debug__" : Str)) = false) (h2 : (f == ("__classdict__" : Str)) = false) (h3 : (g == ("__debug__" : Str)) = false) (h4 : (g == ("__classdict__" : Str)) = false) : FnOk P w K mg base (L2N.CX P w) 1 fI fd ["self", f, g] (spI K [f, g]) := by
  subst hb
  refine F.ok S (fun vs H Q E h => ?_) fun cdv A outer s H vs Q E hr h => ⟨_, pss_cons (ps_ost (pe_var (i := 0) rfl (vis_of S (by simp))) (pe_var (i := 1) rfl (vis_of S (by simp)) h1 h2)) (pss_one (ps_ost (pe_var (i := 0) rfl (vis_of S (by simp))) (pe_var (i := 2) rfl (vis_of S (by simp)) h3 h4))), ?_⟩
  · obtain ⟨a, C, ws, rfl, hl, _⟩ := h
    simpa using hl
  · obtain ⟨a, C, ws, rfl, hl, ha, T, hn, k⟩ := h
    match ws, hl with
    | [v, u], _ =>
      refine ⟨v, rfl, .ref a, rfl, a, C, rfl, T, hn f (by simp), .inl ⟨ha, fun d hd ne => ?_⟩⟩
      refine ⟨u, rfl, .ref a, rfl, a, C, rfl, T, hn g (by simp), .inr ⟨d, [(f, v)], upd_same, by rw [upd_ne ne]; exact upd_same, by show 1 ≤ 900; decide, ?_⟩⟩
      have e : upd (upd (upd H d (exd d [(f, v)])) a (exo a C (some d))) d (exd d ((g, u) :: [(f, v)])) = upd (upd H d (exd d (([f, g].zip [v, u]).reverse))) a (exo a C (some d)) := by
        funext b
        by_cases z : b = d
        · subst z
          rw [upd_same, upd_ne ne, upd_same]
          rfl
        · rw [upd_ne z]
          by_cases y : b = a
          · subst y; rw [upd_same, upd_same]
          · rw [upd_ne y, upd_ne y, upd_ne z, upd_ne z]
      show Q .non _
      rw [e]
      exact k d hd ne
end
/-- the class c of own errors, its __init__ storing fs -/
structure ExcF (P : Program) (w : World) (K : Frag) (mg : Str → Option Value) (base : Heap) (c : Str) (fs : List Str) : Prop where
  hm : mg c = some (.ref (He.ga K c))
  ox : OexC K (He.ga K c)
  init : ∃ (fI : Addr) (fd : FuncData) (ps : List Str), PySem.W.findIn K (.ref (He.ga K c)) "__init__" = some (some (.ref fI)) ∧ PySem.W.typeIn K (.ref fI) = some (.type "function") ∧ Binds K fd ps [] ∧ FnOk P w K mg base (L2N.CX P w) 1 fI fd ps (spI K fs)
  nof : ∀ f ∈ fs, PySem.W.findIn K (.ref (He.ga K c)) f = some none
section
variable {X : Cx}
/-- making such an error where nothing is handled, its context None -/
theorem pmk_own_init {x : Str} {C fI : Addr} {k : Nat} {fd : FuncData} {ps : List Str} {sp : Sp} {e : Expr} {es : List Expr} {ta : TA} {p pos : Pos} (T : OexC X.K C) (hI : PySem.W.findIn X.K (.ref C) "__init__" = some (some (.ref fI))) (hT : PySem.W.typeIn X.K (.ref fI) = some (.type "function"))
    (Fi : FnOk X.prog X.w X.K X.mg X.base (L2N.CX X.prog X.w) k fI fd ps sp) (room : Room (k + 1) X.A) (hB : Binds X.K fd ps []) (hP : Passes (L2N.CX X.prog X.w) X (fun _ _ _ => False)) (hg : Gl X x) (hm : X.mg x = some (.ref C)) (ha : PA X (e :: es) ta)
    (hdb : (x == ("__debug__" : Str)) = false) (he : starEach (e :: es) X.env = (false, eval e X.env) :: starEach es X.env) (hpl : (backTo pos (starEach es X.env)).any (·.1) = false) :
    L2N.PMk X (.Call (.Name x p) (e :: es) [] pos) (tMkO C sp [] ta) := fun pins s σ H Q I h => by
  obtain ⟨_, _, _, _, bm, _, _, _, _, _, _, _, _, _, _, look, hbm⟩ := T.cls
  refine wpAny_Call_Name_kw (ld_glob I hg hm (PySem.W.callWith_K (h₀ := X.base) I.ok.mod.kin T.kC (thn (ha.run pos pins s σ H _ I h) fun us s1 got => ?_) he hpl) hdb)
  obtain ⟨vs, H1, I1, r1, few, want⟩ := got
  refine ⟨I1.kIn, ?_⟩
  obtain ⟨hp, gs, dr, tk, os⟩ := s1
  show wpAny _ _ (call (.ref C) us) _ _ _
  have newA : hp.objs.size ≤ hp.objs.size + 1 := Nat.le_succ _
  generalize hnx : hp.objs.size + 1 = n at newA
  have free : H1 n = none := I1.hok.fresh newA
  have goal0 := want n free
  rw [List.append_nil] at goal0
  have stay : ∀ b o, hp.get? b = some o → ((hp.push (PySem.W.kdv_tup us)).push (PySem.HandSPX.excO C hp.objs.size)).get? b = some o := fun b o z => Heap.get?_push_of_some _ (Heap.get?_push_of_some _ z)
  have at_n : ((hp.push (PySem.W.kdv_tup us)).push (PySem.HandSPX.excO C hp.objs.size)).get? n = some (PySem.HandSPX.excO C hp.objs.size) := by
    rw [← hnx]
    heap_get
  have J := I1.laid (t' := tk) (a := n) (o := exo n C none) (h' := (hp.push (PySem.W.kdv_tup us)).push (PySem.HandSPX.excO C hp.objs.size)) stay newA (exo_ok at_n)
  have r2 : Vals (V.ref n :: vs) (Value.ref n :: us) := .cons rfl r1
  have len2 : ((Value.ref n :: us) ++ []).length = ps.length := by
    rw [List.append_nil, ← r2.length]
    exact Fi.len _ _ _ _ goal0
  have small : us.length ≤ sizeLine := Nat.le_trans (by rw [← Paired.length r1]; exact few) (by rw [sizeLine_eq]; decide)
  have bnd := hB _ (Value.ref n :: us) J.kIn len2
  rw [List.append_nil] at bnd
  have ran := Fi.run _ X.stack _ _ ⟨Value.ref n :: us, []⟩ (Value.ref n :: us) _ _ (fun _ _ _ => False) (room.make C us []) (J.env0.make C us []) bnd r2 goal0
  refine wpAny_call (PySem.HandSPX.call_own PySem.F.excBase_ValueError (fun Y => PySem.HandSPX.refsVE_contains Y bm hbm) (I1.kIn _ _ look) (PySem.W.looks_findIn I1.kIn hI) (fun self => PySem.W.bind_fn I1.kIn self hT) small ?_)
  rw [hnx]
  refine codeAny_mono ran fun r s' fin => ?_
  match r, fin with
  | .error er, fin => exact hP pins σ _ _ er s' J fin
  | .ok (.ret u), fin =>
    obtain ⟨v, H2, os2, bare2, un2, hok2, rv, ev, d, fs, ea, ed, hd1, q2⟩ := fin
    subst ev
    obtain ⟨h2, g2, d2, t2, os'⟩ := s'
    obtain ⟨t0, G, JG, kG, ge, hoe, na⟩ := mk_end0 (d2 := d2) (t2 := t2) I1 newA stay un2 hok2 os2 bare2 ea ed hd1
    refine ⟨rv, n, _, _, ⟨G, g2, d2, t2, os'⟩, _, .ref C, some d, rfl, JG, kG, ge, hoe, ⟨rfl, rfl, fun ws z => ?_⟩, rfl, rfl, na, rfl, bare2, raises_own T.exC T.tyC, q2⟩
    cases z
    rfl
  | .ok .next, fin => exact False.elim fin
  | .ok .brk, fin => exact False.elim fin
  | .ok .cont, fin => exact False.elim fin
end
def sRaise (c : Str) (fs : List Str) (ta : TDA) : TDS := fun δ => (ta δ).fl fun xs δ1 => match frzs δ1 xs with
  | some (ds, δ2) => if ds.length = fs.length ∧ ds.length ≤ 1000 then .ex c fs.reverse ds.reverse δ2 else .stuck
  | none => .stuck
section
variable {X : Cx} {Γ : Gm} {c : Str} {fs : List Str} {e : Expr} {es : List Expr} {ta : TDA} {p pos pos' : Pos} {k : Nat}
theorem IsL.reverse {K : Frag} {ω : Om} {H : Hp} {xi : Xi} : ∀ {ds : List D} {vs : List V}, IsL K ω H xi ds vs → IsL K ω H xi ds.reverse vs.reverse
  | [], _, h => by rw [show _ = ([] : List V) from h]; rfl
  | d :: ds, _, h => by
    obtain ⟨v, r, rfl, h1, h2⟩ := h
    rw [List.reverse_cons, List.reverse_cons]
    exact h2.reverse.append (IsL.one h1)
theorem zip_rev : ∀ {α β : Type} {xs : List α} {ys : List β}, xs.length = ys.length → (xs.zip ys).reverse = xs.reverse.zip ys.reverse := fun {α β xs ys} h => by
  induction xs generalizing ys with
  | nil => rfl
  | cons x xs ih =>
    cases ys with
    | nil => simp at h
    | cons y ys =>
      have h' : xs.length = ys.length := by simpa using h
      rw [List.zip_cons_cons, List.reverse_cons, ih h', List.reverse_cons, List.reverse_cons, List.zip_append (by simp [h'])]
      rfl
theorem passN0 {X : Cx} : Passes (L2N.CX X.prog X.w) X (fun _ _ _ => False) := fun pins σ H s e s' I h => by
  obtain ⟨_, _, _, _, _, _, _, _, _, _, _, _, z⟩ := h
  exact z.elim
theorem ds_raise (F : ExcF X.prog X.w X.K X.mg X.base c fs) (hc : X.calm = true) (room : Room k X.A) (ha : DA X Γ (e :: es) ta) (hk : 2 ≤ k := by decide) (hg : Gl X c := by rfl) (hdb : (c == ("__debug__" : Str)) = false := by decide)
    (he : starEach (e :: es) X.env = (false, eval e X.env) :: starEach es X.env := by rfl) (hpl : (backTo pos (starEach es X.env)).any (·.1) = false := by rfl) : DS X Γ (.Raise (some (.Call (.Name c p) (e :: es) [] pos)) none pos') (sRaise c fs ta) := by
  obtain ⟨fI, fd, ps, hI, hT, hB, ok⟩ := F.init
  refine ⟨fun W tk => PS.imp (L2N.ps_raise hc tk (pmk_own_init F.ox hI hT ok (room.mono hk) hB passN0 hg F.hm (ha.run W tk) hdb he hpl)) fun D σ H h => ?_⟩
  obtain ⟨ω, δ, R, h⟩ := h
  refine up_fl (t := ta) R h fun vs H1 ω1 δ1 xs e1 R1 i1 h1 => ?_
  split at h1
  · rename_i ds δ2 q
    obtain ⟨ω2, X2, R2, l2⟩ := frzs_ok R1 i1 q
    split at h1
    · rename_i hl
      refine ⟨by rw [l2.length]; exact hl.2, fun a hna => ?_⟩
      rw [List.append_nil]
      refine ⟨a, He.ga X.K c, vs, rfl, by rw [l2.length]; exact hl.1, upd_same, F.ox, F.nof, fun d hd ne => ⟨rfl, d, _, upd_same, by rw [upd_ne ne]; exact upd_same, ?_, ?_⟩⟩
      · rwa [upd_ne ne] at hd
      · have hd1 : H1 d = none := by rwa [upd_ne ne] at hd
        have eh : upd (L2.del (upd (upd (upd H1 a (exo a (He.ga X.K c) none)) d (exd d (fs.zip vs).reverse)) a (exo a (He.ga X.K c) (some d))) a) d (.xd (fs.zip vs).reverse) = upd H1 d (.xd (fs.zip vs).reverse) := by
          funext b
          by_cases z : b = d
          · subst z; rw [upd_same, upd_same]
          · rw [upd_ne z, upd_ne z]
            by_cases y : b = a
            · subst y; rw [L2.del_same, hna]
            · rw [L2.del_ne y, upd_ne y, upd_ne z, upd_ne y]
        rw [eh]
        have X3 := R2.nwExt (τ := .fz) hd1 (.xd (fs.zip vs).reverse)
        refine h1 (some d) σ _ (nwO ω2 d .fz) (X2.trans X3) (R2.new hd1 _) (.inr ⟨d, vs.reverse, rfl, nwO_self, ?_, ?_, (l2.mono X3.f).reverse⟩)
        · rw [upd_same, zip_rev (by rw [l2.length]; exact hl.1.symm)]
        · rw [List.length_reverse, List.length_reverse, l2.length]
          exact hl.1.symm
    · exact h1.elim
  · exact h1.elim
end
end DL

set_option Elab.async false
set_option linter.all false
set_option maxRecDepth 100000
namespace DL
open PySem PySem.Spec PyProof.Rows L2
/-! ### try .. except C as e -/
abbrev Gm.x (Γ : Gm) (xi : Xi) : Gm := ⟨Γ.M, Γ.idx, Γ.ok, xi⟩
section
variable {K : Frag} {Γ : Gm} {ω ω' : Om} {H H' : Hp} {σ : L2.St} {δ δ' : DSt} {xi xi' : Xi}
theorem Rel.weak (R : Rel K (Γ.x xi) ω H σ δ) : Rel K (Γ.x none) ω H σ δ := by
  refine ⟨R.wf, R.len, fun i e hi => ?_, R.pin⟩
  have s := R.sl i e hi
  match e, s with
  | none, _ => trivial
  | some (0, d), ⟨v, e1, h⟩ => exact ⟨v, e1, h.weak⟩
  | some (1, d), ⟨a, vs, ds, e1, e2, o, h, l⟩ => exact ⟨a, vs, ds, e1, e2, o, h, l.weak⟩
def keepP : List Nat → Nat → DSt → DSt
  | _, _, [] => []
  | ks, i, some (l, d) :: r => (if ks.contains i && plain d then some (l, d) else none) :: keepP ks (i + 1) r
  | ks, i, none :: r => none :: keepP ks (i + 1) r
theorem keepP_len : ∀ {ks : List Nat} {i : Nat} {δ : DSt}, (keepP ks i δ).length = δ.length
  | _, _, [] => rfl
  | ks, i, some (l, d) :: r => by
    unfold keepP
    rw [List.length_cons, List.length_cons, keepP_len]
  | ks, i, none :: r => by
    unfold keepP
    rw [List.length_cons, List.length_cons, keepP_len]
theorem keepP_at : ∀ {ks : List Nat} {i : Nat} {δ : DSt} {j : Nat} {l : Nat} {d : D}, (keepP ks i δ)[j]? = some (some (l, d)) → δ[j]? = some (some (l, d)) ∧ plain d = true
  | _, _, [], j, l, d, h => by simp [keepP] at h
  | ks, i, some (l', d') :: r, 0, l, d, h => by
    unfold keepP at h
    simp only [List.getElem?_cons_zero, Option.some.injEq] at h
    split at h
    · rename_i c
      cases h
      exact ⟨rfl, (Bool.and_eq_true_iff.mp c).2⟩
    · cases h
  | ks, i, none :: r, 0, l, d, h => by
    unfold keepP at h
    simp at h
  | ks, i, some (l', d') :: r, j + 1, l, d, h => by
    unfold keepP at h
    rw [List.getElem?_cons_succ] at h ⊢
    exact keepP_at h
  | ks, i, none :: r, j + 1, l, d, h => by
    unfold keepP at h
    rw [List.getElem?_cons_succ] at h ⊢
    exact keepP_at h
theorem Rel.strong (R : Rel K (Γ.x xi) ω H σ δ) (ks : List Nat) : Rel K (Γ.x xi') ω H σ (keepP ks 0 δ) := by
  refine ⟨R.wf, by rw [keepP_len]; exact R.len, fun i e hi => ?_, R.pin⟩
  cases e with
  | none => trivial
  | some p =>
    obtain ⟨l, d⟩ := p
    obtain ⟨h1, h2⟩ := keepP_at hi
    have s := R.sl i _ h1
    match l, s with
    | 0, ⟨v, e1, h⟩ => exact ⟨v, e1, h.plain h2⟩
    | 1, ⟨a, vs, ds, e1, e2, o, h, l⟩ =>
      subst e2
      exact ⟨a, vs, ds, e1, rfl, o, h, l.plain (by simpa [DL.plain] using h2)⟩
theorem Rel.gone (R : Rel K Γ ω H σ δ) {i : Nat} (hp : Γ.idx.contains i = false) : Rel K Γ ω H (σ.set i none) (δ.set i none) := by
  refine ⟨R.wf, by rw [List.length_set, List.length_set, R.len], fun j e hj => ?_, fun q hq => ?_⟩
  · by_cases h : i = j
    · subst h
      have hl : i < δ.length := by
        have := (List.getElem?_eq_some_iff.mp hj).1
        rwa [List.length_set] at this
      rw [List.getElem?_set_self hl] at hj
      cases hj
      trivial
    · rw [List.getElem?_set_ne h] at hj ⊢
      exact R.sl j e hj
  · have hne : i ≠ q.1 := fun z => by
      have hm := Γ.ok q hq
      rw [← z] at hm
      rw [List.contains_iff_mem.mpr hm] at hp
      cases hp
    rw [List.getElem?_set_ne hne]
    exact R.pin q hq
end
/-- what a suite comes to -/
def suF (i : Nat) : Fl → Fl
  | .nx δ => .nx (δ.set i none)
  | .bk δ => .bk (δ.set i none)
  | .ct δ => .ct (δ.set i none)
  | .rt x δ => .rt x δ
  | .rg d δ => .rg d δ
  | _ => .stuck
/-- cs: the classes that are caught; ks: the slots that the suite, and what follows, may read -/
def sTry (cs : List Str) (ks : List Nat) (i : Nat) (tb ts : TDS) : TDS := fun δ => match tb δ with
  | .ex c ns ds δ1 => if cs.contains c && plainL ds then suF i (ts ((keepP ks 0 δ1).set i (some (0, .exc c ns ds)))) else .stuck
  | f => f
/-- the exception e that is handled is known to the context -/
structure HotX (X : Cx) (Γ : Gm) (cs : List Str) : Prop where
  ex : ∃ (a : Addr) (c : Str) (d : Option Addr) (oe : Obj), Γ.xi = some (a, c, d) ∧ c ∈ cs ∧ L2H.Hot1 X.A (a, oe) ∧ (a, oe) ∈ X.pn ∧ Zc (.ref (He.ga X.K c)) d oe
section
variable {X : Cx} {Γ : Gm} {x n : Str} {cv : Value} {i : Nat} {body suite : List Stmt} {b₀ : Stmt} {np pos pos' : Pos} {tb ts : TDS} {cs : List Str} {ks : List Nat}
theorem ds_try (hx : Γ.xi = none) (hs : X.stack = X.env :: X.outer) (hf : X.env.frame = some X.env.locals) (hN : X.N.Nodup) (hi : X.N[i]? = some n) (hln : X.env.kindOf n = some .local) (hc : Names X x cv) (hp : Γ.idx.contains i = false)
    (hexm : ∀ c ∈ cs, PySem.W.exmOne X.K (.ref (He.ga X.K c)) cv = some true)
    (hb : ∀ (pn : List (Addr × Obj)) (xe : Value → Shared → Prop), PassesOwn (model X.prog X.w) X.A X.env xe → DB (X.tr pn xe) Γ body tb)
    (hsu : ∀ (a : Addr) (oe : Obj) (c : Str) (d : Option Addr) (pn : List (Addr × Obj)), HotX (X.suite a ((a, oe) :: pn)) (Γ.x (some (a, c, d))) cs → DB (X.suite a ((a, oe) :: pn)) (Γ.x (some (a, c, d))) (b₀ :: suite) ts) :
    DS X Γ (.Try body [.ExceptHandler (some (.Name x np)) (some n) (b₀ :: suite) pos'] [] [] pos) (sTry cs ks i tb ts) := by
  obtain ⟨M, idx, gok, xi⟩ := Γ
  cases (show xi = none from hx)
  refine ⟨fun Wo tk => PS.imp (L2N.ps_try_as (tb := fun W => upS X.K ⟨M, idx, gok, none⟩ W tb) (ts := fun a cls d D σ H => ∃ (c : Str) (oe : Obj), c ∈ cs ∧ cls = .ref (He.ga X.K c) ∧ upS X.K ⟨M, idx, gok, some (a, c, d)⟩ W0 ts D σ H) hs hf hN hi hln hc tk (fun W pn xe tk' po => (hb pn xe po).run W tk') fun a oe cls d pn hz hf' => ?_) fun D σ H h => ?_⟩
  · refine ⟨fun pins s σ H D I q => ?_⟩
    obtain ⟨c, _, hcs, rfl, q⟩ := q
    obtain ⟨vs, hv⟩ := hf'
    have hot : HotX (X.suite a ((a, oe) :: pn)) (Gm.x ⟨M, idx, gok, none⟩ (some (a, c, d))) cs := ⟨a, c, d, oe, rfl, hcs, ⟨rfl, vs, hv, hz.2.2 vs hv⟩, List.mem_cons_self, hz.zc⟩
    exact ((hsu a oe c d pn hot).run W0 tk0).run pins s σ H D I q
  · obtain ⟨ω, δ, R, h⟩ := h
    refine ⟨ω, δ, R, ?_⟩
    unfold sTry at h
    cases q : tb δ with
    | nx δ1 => rw [q] at h; exact h
    | bk δ1 => rw [q] at h; exact h
    | ct δ1 => rw [q] at h; exact h
    | rt y δ1 => rw [q] at h; exact h
    | rg y δ1 => rw [q] at h; exact h
    | stuck => rw [q] at h; exact h
    | ex c ns ds δ1 =>
      rw [q] at h
      dsimp only at h
      by_cases hcc : (cs.contains c && plainL ds) = true
      · rw [if_pos hcc] at h
        obtain ⟨hc1, hpl⟩ := Bool.and_eq_true_iff.mp hcc
        have hcm : c ∈ cs := List.contains_iff_mem.mp hc1
        intro d σ1 H1 ω1 X1 R1 ix
        refine ⟨true, hexm c hcm, fun _ a hna => ⟨c, default, hcm, rfl, ω1, (keepP ks 0 δ1).set i (some (0, .exc c ns ds)), ?_, ?_⟩, fun z => by cases z⟩
        · have R2 : Rel X.K ⟨M, idx, gok, some (a, c, d)⟩ ω1 H1 σ1 (keepP ks 0 δ1) := Rel.strong (Γ := ⟨M, idx, gok, none⟩) (xi := none) (xi' := some (a, c, d)) R1 ks
          refine R2.put hp ⟨.ref a, rfl, a, rfl, fun a' c' d' z => ?_⟩
          cases z
          refine ⟨rfl, rfl, ix.imp id ?_⟩
          rintro ⟨e, ws, e1, e2, e3, e4, e5⟩
          exact ⟨e, ws, e1, e2, e3, e4, e5.plain hpl⟩
        · have h := okS.ext X1 h
          revert h
          cases ts ((keepP ks 0 δ1).set i (some (0, .exc c ns ds))) with
          | nx δ2 => exact fun h σ2 H2 ω2 X2 R2 => h _ H2 ω2 X2 (Rel.gone (Rel.weak (Γ := ⟨M, idx, gok, none⟩) R2) hp)
          | bk δ2 => exact fun h σ2 H2 ω2 X2 R2 => h _ H2 ω2 X2 (Rel.gone (Rel.weak (Γ := ⟨M, idx, gok, none⟩) R2) hp)
          | ct δ2 => exact fun h σ2 H2 ω2 X2 R2 => h _ H2 ω2 X2 (Rel.gone (Rel.weak (Γ := ⟨M, idx, gok, none⟩) R2) hp)
          | rt y δ2 =>
            intro h v σ2 H2 ω2 X2 R2 iv
            refine h v σ2 H2 ω2 X2 (Rel.weak (Γ := ⟨M, idx, gok, none⟩) R2) ?_
            cases y with
            | fz d' => exact Is.weak iv
            | sl j => exact iv
          | rg d' δ2 =>
            intro h v σ2 H2 ω2 X2 R2 iv
            refine h v σ2 H2 ω2 X2 (Rel.weak (Γ := ⟨M, idx, gok, none⟩) R2) ?_
            obtain ⟨b, ws, ls, e1, e2, e3, e4, e5⟩ := iv
            exact ⟨b, ws, ls, e1, e2, e3, e4, e5.weak⟩
          | ex _ _ _ _ => exact fun h => h.elim
          | stuck => exact fun h => h.elim
      · rw [if_neg hcc] at h; exact h.elim
end
/-! ### defs called within a suite -/
/-- as Fn, while an exception of one of the classes cs is handled -/
structure FnE (P : Program) (w : World) (K : Frag) (mg : Str → Option Value) (base : Heap) (x : Str) (k : Nat) (modes : List Bool) (m : List D → FR) (cs : List Str) : Prop where
  ex : ∃ (f : Addr) (fd : FuncData) (ps : List Str), mg x = some (.ref f) ∧ PySem.W.keepIn K (.ref f) = true ∧ Binds K fd ps [] ∧ modes.length = ps.length ∧
    ∀ (A : Around) (outer : List Env) (s : Shared) (H : Hp) (args : Args) (us : List Value) (vs : List V) (Q : VK) (E : XK) (p : Addr × Obj) (c : Str) (d : Option Addr), L2H.RoomH k A → L2H.Hot1 A p → L2H.PinOk outer H s p → c ∈ cs → Zc (.ref (He.ga K c)) d p.2 → Env0 P w K mg base A outer s H → BindsTo s fd args (ps.zip us) → Vals vs us →
      spX K (some (p.1, c, d)) modes m vs H Q E → codeAny (model P w) A (.call (.ref f) args) (CR (L2N.CX P w) outer P w H s Q E) s
theorem FnE.cong {P : Program} {w : World} {K : Frag} {mg : Str → Option Value} {base : Heap} {x : Str} {k : Nat} {modes : List Bool} {m m' : List D → FR} {cs : List Str} (F : FnE P w K mg base x k modes m cs) (e : m = m') : FnE P w K mg base x k modes m' cs := e ▸ F
/-- nothing is raised -/
def noX (m : List D → FR) : List D → FR := fun ds => match m ds with
  | .exc _ _ _ _ => .stuck
  | r => r
theorem up_noX0 {K : Frag} {Γ : Gm} {W : WX} {t : TDS} {D : Ends} {σ : L2.St} {H : Hp} (h : upS K Γ W t D σ H) (hn : ∀ δ, ∀ c ns ds δ', t δ ≠ .ex c ns ds δ') : upS K Γ W0 t D σ H := by
  obtain ⟨ω, δ, R, h⟩ := h
  refine ⟨ω, δ, R, ?_⟩
  cases q : t δ with
  | ex c ns ds δ' => exact absurd q (hn δ c ns ds δ')
  | nx δ1 => rw [q] at h; exact h
  | bk δ1 => rw [q] at h; exact h
  | ct δ1 => rw [q] at h; exact h
  | rt y δ1 => rw [q] at h; exact h
  | rg y δ1 => rw [q] at h; exact h
  | stuck => rw [q] at h; exact h
def noE : Fl → Fl
  | .ex _ _ _ _ => .stuck
  | f => f
theorem fin_noE {modes : List Bool} {f : Fl} (h : ∀ c ns ds ms, fin modes f ≠ .exc c ns ds ms) : fin modes (noE f) = fin modes f ∨ fin modes f = .stuck := by
  cases f with
  | ex c ns es δ =>
    have h2 : fin modes (.ex c ns es δ) = (match mutsD δ (mutIdx 0 modes) with
      | some ms => .exc c ns es ms
      | none => .stuck) := rfl
    rw [h2]
    cases q : mutsD δ (mutIdx 0 modes) with
    | none => exact .inr rfl
    | some ms =>
      rw [q] at h2
      exact absurd h2 (h c ns es ms)
  | _ => exact .inl rfl
abbrev cxE (P : Program) (w : World) (K : Frag) (mg : Str → Option Value) (base : Heap) (N : List Str) (qual : Str) (scope : Scope) (f : Addr) (cd : Value) (A : Around) (outer : List Env) (s : Shared) (H : Hp) (E : XK) (p : Addr × Obj) : Cx := L2H.cxH (L2N.CX P w) P w K mg base N qual scope f cd A outer s H E p
section
variable {P : Program} {w : World} {K : Frag} {mg : Str → Option Value} {base : Heap} {x nm qual : Str} {params : Arguments} {body : List Stmt} {scope : Scope} {kws : List (Str × V)} {fd : FuncData}
theorem fn_deepE {f : Addr} {modes : List Bool} {N ps : List Str} {k : Nat} {t : TDS} {cs : List Str} (F : FunD K nm qual params body scope [] kws f fd) (hmg : mg x = some (.ref f)) (hB : Binds K fd ps []) (S : FnScope N ps scope) (hm : modes.length = ps.length) (hn : modes.length ≤ N.length)
    (hb : ∀ (cdv : Value) (A : Around) (outer : List Env) (s : Shared) (H : Hp) (vs : List V) (E : XK) (a : Addr) (oe : Obj) (c : Str) (d : Option Addr), L2H.RoomH k (A.deeper (envOfC qual scope s.heap.objs.size f cdv)) →
      HotX (cxE P w K mg base N qual scope f cdv A outer s H E (a, oe)) (gm modes vs (some (a, c, d))) cs → DB (cxE P w K mg base N qual scope f cdv A outer s H E (a, oe)) (gm modes vs (some (a, c, d))) body t) :
    FnE P w K mg base x (k + 1) modes (noX (runB modes (N.length - modes.length) t)) cs := by
  obtain ⟨oc, od, dV, kV, doc, pm, an, cdv, ct, osl, e0, lk, hcd, _, _⟩ := F.ex
  refine ⟨f, fd, ps, hmg, F.kp, hB, hm, fun A outer s H args us vs Q E p c d room hot pin hc hz env bnd rv hsp => ?_⟩
  obtain ⟨pa, oe⟩ := p
  subst e0
  have lvs : vs.length = ps.length := by
    rw [← hm]
    exact hsp.len
  have inK : K.In s.heap := env.mod.kin.keeps fun b o z => (env.bs b o z).1
  have lim : s.heap.NoLimit := env.mod.nolimit.keeps fun b o z => (env.bs b o z).1
  refine codeAny_call_function room.depth (inK _ _ lk) rfl S.co S.gen rfl (PySem.W.codeRec_of inK hcd) (bnd _ _ _ _ ?_)
  refine wpAny_newFunctionEnv_cells S.kind (fun y hy => ?_) fun e1 he1 s1 x1 => ?_
  · obtain ⟨nm', v'⟩ := y
    exact (S.par nm' (List.of_mem_zip hy).1).imp id fun z => ⟨z, PySem.W.cellsFrom_some _ _ _ (.inl z)⟩
  · subst he1
    refine ⟨lim.keeps x1.toInCall.keep, codeAny_func ?_⟩
    have hotX : HotX (cxE P w K mg base N qual scope f cdv A outer s H E (pa, oe)) (gm modes vs (some (pa, c, d))) cs := ⟨pa, c, d, oe, rfl, hc, ⟨hot.1, hot.2⟩, List.mem_cons_self, hz⟩
    have start := L2H.inv_startH (CX := L2N.CX P w) (E := E) S pin env lvs rv x1
    have body := (hb cdv A outer s H vs E pa oe c d (room.deeper _) hotX).run W0 tk0
    have ups : upS K (gm modes vs (some (pa, c, d))) W0 t { nx := fun _ H' => Q .non H', rt := Q } (L2.start N vs) H := by
      obtain ⟨ω, ds, wf, ar, h⟩ := hsp
      refine ⟨ω, startD modes (N.length - modes.length) ds, rel_start wf ar hn, ?_⟩
      have hl := ar.len.1
      have h : (match noX (runB modes (N.length - modes.length) t) ds with
        | .ok r ms => ∀ v H' ω', Ext ω H ω' H' → WFO ω' H' → Is K ω' H' (some (pa, c, d)) r v → MutR K ω' H' (some (pa, c, d)) 0 modes vs ms → Q v H'
        | .rg r ms => ∀ v H' ω', Ext ω H ω' H' → WFO ω' H' → OwnL K ω' H' (some (pa, c, d)) tagR r v → MutR K ω' H' (some (pa, c, d)) 0 modes vs ms → Q v H'
        | .exc c' ns es ms => ∀ d' H' ω', Ext ω H ω' H' → WFO ω' H' → XIs K { xi := some (pa, c, d) } ω' H' ns es d' → MutR K ω' H' (some (pa, c, d)) 0 modes vs ms → E (.ref (He.ga K c')) d' H'
        | .stuck => False) := h
      unfold noX runB at h
      revert h
      cases t (startD modes (N.length - modes.length) ds) with
      | nx δ =>
        intro h σ' H' ω' X' R'
        unfold fin at h
        dsimp only at h
        cases q : mutsD δ (mutIdx 0 modes) with
        | none => rw [q] at h; exact h.elim
        | some ms => rw [q] at h; exact h .non H' ω' X' R'.wf rfl (R'.muts hl q)
      | rt y δ =>
        intro h v σ' H' ω' X' R' iv
        unfold fin at h
        dsimp only at h
        cases qf : frz δ y with
        | none => rw [qf] at h; exact h.elim
        | some pr =>
          obtain ⟨d', δ1⟩ := pr
          rw [qf] at h
          dsimp only at h
          obtain ⟨ω2, X2, R2, h2⟩ := frz_ok R' iv qf
          cases q : mutsD δ1 (mutIdx 0 modes) with
          | none => rw [q] at h; exact h.elim
          | some ms => rw [q] at h; exact h v H' ω2 (X'.trans X2) R2.wf h2 (R2.muts hl q)
      | rg d' δ =>
        intro h v σ' H' ω' X' R' iv
        unfold fin at h
        dsimp only at h
        cases q : mutsD δ (mutIdx 0 modes) with
        | none => rw [q] at h; exact h.elim
        | some ms => rw [q] at h; exact h v H' ω' X' R'.wf iv (R'.muts hl q)
      | ex c' ns es δ =>
        intro h
        unfold fin at h
        dsimp only at h
        cases q : mutsD δ (mutIdx 0 modes) with
        | none => rw [q] at h; exact h.elim
        | some ms => rw [q] at h; exact h.elim
      | bk δ => exact fun h => h.elim
      | ct δ => exact fun h => h.elim
      | stuck => exact fun h => h.elim
    have back : ∀ {σ' : L2.St} {H' : Hp} {v : V} {u : Value} {s' : Shared}, Inv (cxE P w K mg base N qual scope f cdv A outer s H E (pa, oe)) [] σ' H' s' → RelV v u → Q v H' → CE outer P w H s Q u s' :=
      fun {σ' H' v u s'} J r q => ⟨v, H', J.os, J.bare, J.base, J.hok, r, q⟩
    refine wpAny_mono (body.run [] s1 _ H _ start ups) (fun fl s' got => ?_) fun e' s' z => z
    match fl, got with
    | .ret u, ⟨v, σ', H', J, r, q⟩ => exact back J r q
    | .next, ⟨σ', H', J, q⟩ => exact back (v := V.non) (u := Value.none) J rfl q
    | .brk, ⟨_, _, _, q⟩ => exact q.elim
    | .cont, ⟨_, _, _, q⟩ => exact q.elim
end
end DL

set_option Elab.async false
set_option linter.all false
set_option maxRecDepth 100000
namespace DL
open PySem PySem.Spec PyProof.Rows L2
/-! ### in a suite: a call, isinstance, a field -/
section
variable {X : Cx} {Γ : Gm} {x : Str} {p pos : Pos} {e : Expr} {es : List Expr} {ta : TDA} {k j : Nat} {modes : List Bool} {m : List D → FR} {cs : List Str}
theorem pe_callE {W : WX} {t : TA} (F : FnE X.prog X.w X.K X.mg X.base x j modes m cs) (hot : HotX X Γ cs) (room : L2H.RoomH j X.A) (tk : L2N.Takes X W) (ha : PA X (e :: es) t) (hg : Gl X x) (hdb : (x == ("__debug__" : Str)) = false)
    (he : starEach (e :: es) X.env = (false, eval e X.env) :: starEach es X.env) (hpl : (backTo pos (starEach es X.env)).any (·.1) = false) : PE X (.Call (.Name x p) (e :: es) [] pos) (fun σ H Q => t σ H fun vs H1 => spX X.K Γ.xi modes m vs H1 Q fun cls d H' => W cls d σ H') := by
  obtain ⟨f, fd, ps, hm, hk, hb, hml, run⟩ := F.ex
  obtain ⟨a, c, d, oe, hxi, hc, h1, hp, hz⟩ := hot.ex
  refine ⟨fun pins s σ H Q I h => ?_⟩
  refine wpAny_Call_Name_kw (ld_glob I hg hm (PySem.W.callWith_K (h₀ := X.base) I.ok.mod.kin hk (thn (ha.run pos pins s σ H _ I h) fun us s1 got => ?_) he hpl) hdb)
  obtain ⟨vs, H1, I1, r, q⟩ := got
  refine ⟨I1.kIn, ?_⟩
  have len : us.length = ps.length := by
    rw [← r.length, q.len, hml]
  have bnd := hb s1 us I1.kIn (by rw [List.append_nil]; exact len)
  rw [List.append_nil] at bnd
  have pn := I1.pin (a, oe) (List.mem_append_left _ hp)
  have pin : L2H.PinOk X.stack H1 s1 (a, oe) := ⟨pn.1, pn.2.1, fun z => (List.mem_cons.mp (I1.stkSub a z)).elim pn.2.2.1 pn.2.2.2.1, pn.2.2.2.2⟩
  rw [hxi] at q
  refine wpAny_call (codeAny_mono (run X.A X.stack s1 H1 ⟨us, []⟩ us vs Q (fun cls d H' => W cls d σ H') (a, oe) c d room h1 pin hc hz I1.env0 bnd r q) fun r s' got => ?_)
  match r, got with
  | .error er, got => exact L2N.passAt tk σ pins H1 s1 er s' I1 got
  | .ok (.ret u), got => exact I1.after got
  | .ok .next, got => exact False.elim got
  | .ok .brk, got => exact False.elim got
  | .ok .cont, got => exact False.elim got
theorem de_fnE (F : FnE X.prog X.w X.K X.mg X.base x j modes m cs) (hot : HotX X Γ cs) (room : L2H.RoomH k X.A) (ha : DA X Γ (e :: es) ta) (hj : j ≤ k := by decide) (hlen : modes.length ≤ 900 := by decide) (hg : Gl X x := by rfl) (hdb : (x == ("__debug__" : Str)) = false := by decide)
    (he : starEach (e :: es) X.env = (false, eval e X.env) :: starEach es X.env := by rfl) (hpl : (backTo pos (starEach es X.env)).any (·.1) = false := by rfl) : DE X Γ (.Call (.Name x p) (e :: es) [] pos) (eFn modes m ta) :=
  ⟨fun W tk => PE.imp (pe_callE F hot (room.mono hj) tk (ha.run W tk) hg hdb he hpl) fun σ H Q h => by
    obtain ⟨ω, δ, R, h⟩ := h
    refine up_bind (t := ta) R h fun vs H1 ω1 δ1 xs e1 R1 i1 h1 => ?_
    exact call_ok (τ := .fz) (rel := rlV X.K Γ) (f := Vl.fz) (g := Vl.fz) hlen (fun _ _ _ _ _ _ _ h => h) (fun _ _ _ _ _ F ht h => rel_fz F ht h) R1 i1 h1⟩
/-- a class's name as a value -/
theorem de_cls {c : Str} (hm : X.mg c = some (.ref (He.ga X.K c))) (hg : Gl X c := by rfl) (hd : (c == ("__debug__" : Str)) = false := by decide) : DE X Γ (.Name c pos) (eC (.cls c)) :=
  de_c (pe_glob (v := .ref (He.ga X.K c)) hg hm rfl hd) fun _ _ _ => rfl
/-- what the text says of the error classes cs: all stand below the class top alone -/
def subX (top : Str) (c c' : Str) : Bool := decide (c' = c) || decide (c' = top)
structure ExcT (K : Frag) (top : Str) (all cs : List Str) (fs : List Str) : Prop where
  ec : ∀ c ∈ cs, ExcC K (He.ga K c)
  xf : ∀ c ∈ cs, XfC K (He.ga K c)
  kit : ∀ c ∈ cs, ∀ c' ∈ all, PySem.W.kitOne K (.ref (He.ga K c)) (.ref (He.ga K c')) = some (subX top c c')
  ve : ∀ c ∈ cs, PySem.W.kitOne K (.ref (He.ga K c)) (.type "ValueError") = some true
  nof : ∀ c ∈ cs, ∀ f ∈ fs, PySem.W.findIn K (.ref (He.ga K c)) f = some none
/-- isinstance(e, C) of the handled exception -/
def isiX (top : Str) (all : List Str) : D → D → Option D
  | .exc c _ _, .cls c' => if all.contains c' then some (.bl (subX top c c')) else none
  | .exc _ _ _, .ty n => if n = "ValueError" then some (.bl true) else none
  | _, _ => none
def rIsX (K : Frag) (a : Addr) (c : Str) (d : Option Addr) : List V → Hp → VK → Prop := fun xs H Q => ∃ (y : V) (cv : Value) (b : Bool), xs = [.ref a, y] ∧ (∀ u, RelV y u → u = cv) ∧ (d = none ∨ ∃ e fs, d = some e ∧ H e = some (.xd fs)) ∧ PySem.W.kitOne K (.ref (He.ga K c)) cv = some b ∧ Q (.bl b) H
theorem call_isX {a : Addr} {c : Str} {d : Option Addr} {oe : Obj} (C : ExcC X.K (He.ga X.K c)) (h1 : L2H.Hot1 X.A (a, oe)) (hp : (a, oe) ∈ X.pn) (hz : Zc (.ref (He.ga X.K c)) d oe) : CallR X (.builtin "isinstance") (rIsX X.K a c d) := fun pins s σ H xs us Q I r h => by
  obtain ⟨y, cv, b, rfl, hy, hd, hk, q⟩ := h
  obtain ⟨u1, u2, rfl, r1, r2⟩ := vals2 r
  cases (show u1 = Value.ref a from r1)
  have e2 := hy _ r2
  subst e2
  obtain ⟨hat, _⟩ := I.pin (a, oe) (List.mem_append_left _ hp)
  obtain ⟨_, vs, hv, _⟩ := h1
  dsimp only at hat hv
  have hcl : (PySem.W.clsIn X.K (He.ga X.K c)).isSome = true := by
    have z := C.hd
    unfold PySem.W.hasDictIn at z
    cases q : PySem.W.clsIn X.K (He.ga X.K c) with
    | none => rw [q] at z; cases z
    | some _ => rfl
  have J : ∃ od, PySem.W.InstAt s.heap a oe (He.ga X.K c) od := by
    rcases hd with hd | ⟨e, fs, hd, he⟩
    · exact ⟨none, hat, hz.1, by unfold PySem.W.notCls; rw [hv] <;> rfl, by rw [hz.2, hd]; trivial⟩
    · have hx : ObjOk X.prog X.w H s.heap e (.xd fs) := I.hok e _ he
      obtain ⟨mA, hns, _⟩ := hx
      obtain ⟨od, ho, _⟩ := lookIn_ns hns
      exact ⟨some od, hat, hz.1, by unfold PySem.W.notCls; rw [hv] <;> rfl, by rw [hz.2, hd]; exact ho⟩
  obtain ⟨od, J⟩ := J
  exact PySem.W.kia_one (PySem.W.kitx_exc hcl C.hg C.hk C.hs C.ha C.hn C.ht C.hm) I.kIn J hk (fun z => nomatch z) fun tk => ⟨.bl b, H, I.kept (t' := tk) fun _ _ z => z, rfl, q⟩
theorem de_isX {top : Str} {all : List Str} {fs : List Str} {e2 : Expr} (T : ExcT X.K top all cs fs) (hot : HotX X Γ cs) (hm : X.mg "isinstance" = none) (ha : DA X Γ [e, e2] ta) (hg : Gl X "isinstance" := by rfl)
    (he : starEach [e, e2] X.env = (false, eval e X.env) :: starEach [e2] X.env := by rfl) (hpl : (backTo pos (starEach [e2] X.env)).any (·.1) = false := by rfl) : DE X Γ (.Call (.Name "isinstance" p) [e, e2] [] pos) (eCall (fn2 (isiX top all)) ta) := by
  obtain ⟨a, c, d, oe, hxi, hc, h1, hp, hz⟩ := hot.ex
  refine de_callB (call_isX (T.ec c hc) h1 hp hz) (fun W ω H σ δ xs vs Q R i h => ?_) hm (by decide +kernel) ha hg (by decide) (by decide) he hpl
  obtain ⟨v, w, d1, d2, r, rfl, rb, rc, eq, h⟩ := fn2_ok R i h
  unfold isiX at eq
  split at eq
  · rename_i c1 ns ds c2
    have iv := rb.is fun _ => D.noConfusion
    have iw : w = .ref (He.ga X.K c2) := rc.is fun _ => D.noConfusion
    subst iw
    obtain ⟨a1, rfl, z⟩ := iv
    obtain ⟨rfl, rfl, zd⟩ := z a c d hxi
    split at eq
    · rename_i hm2
      cases eq
      refine ⟨_, _, _, rfl, fun u hu => hu, ?_, T.kit c hc c2 (List.contains_iff_mem.mp hm2), okR.now (x := Vl.fz _) h R rfl⟩
      rcases zd with ⟨_, _, zd⟩ | ⟨e3, ws, zd, _, ze, _⟩
      · exact .inl zd
      · exact .inr ⟨e3, _, zd, ze⟩
    · cases eq
  · rename_i c1 ns ds n
    have iv := rb.is fun _ => D.noConfusion
    have iw : w = .ty n := rc.is fun _ => D.noConfusion
    subst iw
    obtain ⟨a1, rfl, z⟩ := iv
    obtain ⟨rfl, rfl, zd⟩ := z a c d hxi
    split at eq
    · rename_i hn
      subst hn
      cases eq
      refine ⟨_, _, _, rfl, fun u hu => hu, ?_, T.ve c hc, okR.now (x := Vl.fz _) h R rfl⟩
      rcases zd with ⟨_, _, zd⟩ | ⟨e3, ws, zd, _, ze, _⟩
      · exact .inl zd
      · exact .inr ⟨e3, _, zd, ze⟩
    · cases eq
  · cases eq
/-- e.f of the handled exception -/
def atX (f : Str) : D → Option D
  | .exc _ ns ds => if ns.length = ds.length then (ns.zip ds).lookup f else none
  | _ => none
def eAtX (f : Str) (t : TD) : TD := fun δ => (t δ).bind fun x δ1 => match dr δ1 x with
  | some d => (match atX f d with
    | some r => .ok (.fz r) δ1
    | none => .stuck)
  | none => .stuck
theorem IsL.lookup {K : Frag} {ω : Om} {H : Hp} {xi : Xi} {f : Str} : ∀ {ns : List Str} {ds : List D} {vs : List V} {d : D}, IsL K ω H xi ds vs → (ns.zip ds).lookup f = some d → ∃ v, (ns.zip vs).lookup f = some v ∧ Is K ω H xi d v
  | [], _, _, _, _, e => by simp at e
  | n :: ns, [], _, _, _, e => by simp at e
  | n :: ns, d :: ds, _, d', l, e => by
    obtain ⟨v, r, rfl, h1, h2⟩ := l
    rw [List.zip_cons_cons, List.lookup_cons] at e ⊢
    cases q : f == n with
    | true =>
      rw [q] at e
      cases e
      exact ⟨v, rfl, h1⟩
    | false =>
      rw [q] at e
      exact IsL.lookup h2 e
theorem de_atX {top f : Str} {all : List Str} {fs : List Str} {tx : TD} (T : ExcT X.K top all cs fs) (hot : HotX X Γ cs) (he : DE X Γ e tx) (hf : f ∈ fs := by decide) (hb : attributeBase e f X.env (eval e X.env) = eval e X.env := by rfl) : DE X Γ (.Attribute e f pos) (eAtX f tx) := by
  obtain ⟨a, c, d, oe, hxi, hc, h1, hp, hz⟩ := hot.ex
  have XF := T.xf c hc
  refine ⟨fun W tk => ⟨fun pins s σ H Q I h => attr_of hb ?_⟩⟩
  have rd : upE X.K Γ W tx σ H fun v H1 => ∃ (dd : Addr) (fv : List (Str × V)) (u : V), v = .ref a ∧ d = some dd ∧ H1 dd = some (.xd fv) ∧ fv.lookup f = some u ∧ Q u H1 := by
    obtain ⟨ω, δ, R, h⟩ := h
    refine up_bind (t := tx) R h fun v H1 ω1 δ1 x e1 R1 i1 h1 => ?_
    cases q : dr δ1 x with
    | none => rw [q] at h1; exact h1.elim
    | some dv =>
      rw [q] at h1
      cases q2 : atX f dv with
      | none => simp only [q2] at h1; exact h1.elim
      | some r =>
        simp only [q2] at h1
        cases dv with
        | exc c1 ns ds =>
          have iv := (dr_ok R1 i1 q).is fun _ => D.noConfusion
          obtain ⟨a1, rfl, z⟩ := iv
          obtain ⟨rfl, rfl, zd⟩ := z a c d hxi
          unfold atX at q2
          dsimp only at q2
          split at q2
          · rcases zd with ⟨zn, zds, _⟩ | ⟨e3, ws, zd, _, ze, _, zl⟩
            · rw [zn] at q2; simp at q2
            · obtain ⟨u, u1, u2⟩ := zl.lookup q2
              exact ⟨e3, _, u, rfl, zd, ze, u1, okR.now (x := Vl.fz r) h1 R1 u2⟩
          · cases q2
        | _ => cases q2
  refine thn ((he.run W tk).run pins s σ H _ I rd) fun uv s1 got => ?_
  obtain ⟨x, H1, I1, rx, dd, fv, v, rfl, ed, ea, l, q⟩ := got
  cases (show uv = Value.ref a from rx)
  obtain ⟨hat, _⟩ := I1.pin (a, oe) (List.mem_append_left _ hp)
  obtain ⟨_, vs, hv, _⟩ := h1
  dsimp only at hat hv
  have hx : ObjOk X.prog X.w H1 s1.heap dd (.xd fv) := I1.hok dd _ ea
  obtain ⟨mA, hns, hr⟩ := hx
  obtain ⟨od, ho, hl⟩ := lookIn_ns hns
  obtain ⟨u, hu, ru⟩ := RelO.some_of (v := v) (o := mA f) (by rw [← l]; exact hr f)
  have J : PySem.W.InstAt s1.heap a oe (He.ga X.K c) (some od) := ⟨hat, hz.1, by unfold PySem.W.notCls; rw [hv] <;> rfl, by rw [hz.2, ed]; exact ho⟩
  exact HandSPX.exc_get I1.kIn J XF.ga XF.gg XF.exC (PySem.W.findObj_own XF.hdC (T.nof c hc f hf) rfl (by rw [hl, hu])) (handed_of ru) ⟨v, H1, I1.tok _, ru, q⟩
end
end DL

set_option Elab.async false
set_option linter.all false
set_option maxRecDepth 100000
namespace DL
open PySem PySem.Spec PyProof.Rows L2
/-! ### what the printer leans on besides -/
theorem hu_hot {k : Nat} {A : Around} (r : L2H.RoomH k A) : A.units + 64 < cLine := by
  have := r.un
  omega
section
variable {X : Cx} {Γ : Gm} {a b c e : Expr} {ta tb tc te : TD} {pos : Pos}
/-! constants of the module -/
theorem de_gint {x : Str} {i : Int} (hm : ∃ t, X.mg x = some (.int i t)) (hg : Gl X x := by rfl) (hd : (x == ("__debug__" : Str)) = false := by decide) : DE X Γ (.Name x pos) (eC (.int i)) := by
  obtain ⟨t, hm⟩ := hm
  exact de_c (pe_glob (v := V.int i) hg hm ⟨t, rfl⟩ hd) fun _ _ _ => rfl
/-- a name of the module that stands for a tuple of flat data -/
def GTup (K : Frag) (mg : Str → Option Value) (x : Str) (d : D) : Prop := ∃ p, mg x = some (.ref p) ∧ ∀ ω H xi, Is K ω H xi d (.ref p)
theorem de_gtup {x : Str} {d : D} (h : GTup X.K X.mg x d) (hg : Gl X x := by rfl) (hd : (x == ("__debug__" : Str)) = false := by decide) : DE X Γ (.Name x pos) (eC d) := by
  obtain ⟨p, hm, hi⟩ := h
  exact de_c (pe_glob (v := V.ref p) hg hm rfl hd) hi
/-! is None -/
def isNon : D → Bool
  | .non => true
  | _ => false
def opIs (neg : Bool) (x y : Vl) (δ : DSt) : R Vl := match dr δ x, dr δ y with
  | some d, some .non => .ok (.fz (.bl (if neg then !isNon d else isNon d))) δ
  | _, _ => .stuck
theorem is_non {K : Frag} {ω : Om} {H : Hp} {xi : Xi} {d : D} {v : V} (h : Rb K ω H xi d v) : decide (v = .non) = isNon d := by
  cases d with
  | non => rw [h.non]; rfl
  | bl i => rw [h.bl]; rfl
  | int i => rw [h.int]; rfl
  | str i => rw [h.str]; rfl
  | lst ds => obtain ⟨a, vs, rfl, _⟩ := h.lst; rfl
  | tup ds => obtain ⟨a, vs, rfl, _⟩ := h.tup; rfl
  | scr ds => obtain ⟨a, rfl, _⟩ := h.scr; rfl
  | ty n => rw [show v = .ty n from h.is fun _ => D.noConfusion]; rfl
  | adr n => rw [show v = .ref n from h.is fun _ => D.noConfusion]; rfl
  | cls n => rw [show v = .ref (He.ga K n) from h.is fun _ => D.noConfusion]; rfl
  | ins c ns ds =>
    have z := h.is fun _ => D.noConfusion
    obtain ⟨a, dx, vs, rfl, _⟩ := z
    rfl
  | exc c ns ds =>
    have z := h.is fun _ => D.noConfusion
    obtain ⟨a, rfl, _⟩ := z
    rfl
theorem opIs_ok {K : Frag} {W : WX} {ω : Om} {H : Hp} {σ : L2.St} {δ : DSt} {neg : Bool} {x y : Vl} {v w : V} {Q : VK} (R : Rel K Γ ω H σ δ) (i1 : IsV K Γ ω H σ x v) (i2 : IsV K Γ ω H σ y w) (h : okV K Γ W ω H σ (opIs neg x y δ) Q) :
    w = .non ∧ Q (.bl (if neg then !decide (v = .non) else decide (v = .non))) H := by
  unfold opIs at h
  split at h
  · rename_i d e1 e2
    refine ⟨(dr_ok R i2 e2).non, ?_⟩
    rw [is_non (dr_ok R i1 e1)]
    exact okR.now (x := Vl.fz _) h R rfl
  · exact h.elim
theorem op2_is {K : Frag} : Op2 K Γ (fun x y H Q => y = .non ∧ Q (.bl (decide (x = .non))) H) (opIs false) := fun W ω H σ δ x y v w Q R i1 i2 h => opIs_ok R i1 i2 h
theorem op2_isnt {K : Frag} : Op2 K Γ (fun x y H Q => y = .non ∧ Q (.bl (!decide (x = .non))) H) (opIs true) := fun W ω H σ δ x y v w Q R i1 i2 h => opIs_ok R i1 i2 h
/-! a op b op c -/
def eChain (f g : Vl → Vl → DSt → R Vl) (ta tb tc : TD) : TD := fun δ => (ta δ).bind fun x δ1 => (tb δ1).bind fun y δ2 => match f x y δ2 with
  | .ok z δ3 => (match z with
    | .fz (.bl true) => (tc δ3).bind fun u δ4 => g y u δ4
    | .fz (.bl false) => .ok (.fz (.bl false)) δ3
    | _ => .stuck)
  | .exc c ns ds δ3 => .exc c ns ds δ3
  | .stuck => .stuck
theorem up_chain {K : Frag} {W : WX} {r r' : R2} {f g : Vl → Vl → DSt → R Vl} (h1 : Op2 K Γ r f) (h2 : Op2 K Γ r' g) {σ : L2.St} {H : Hp} {Q : VK} (h : upE K Γ W (eChain f g ta tb tc) σ H Q) : tChain r r' (upE K Γ W ta) (upE K Γ W tb) (upE K Γ W tc) σ H Q := by
  obtain ⟨ω, δ, R, h⟩ := h
  refine up_bind (t := ta) R h fun v H1 ω1 δ1 x e1 R1 i1 hh => ?_
  refine up_bind (t := tb) R1 hh fun w H2 ω2 δ2 y e2 R2 i2 hh => ?_
  refine h1 W ω2 H2 σ δ2 x y v w _ R2 (IsV.mono e2.f i1) i2 ?_
  revert hh
  cases q : f x y δ2 with
  | exc c ns ds δ3 => exact fun hh => hh
  | stuck => exact fun hh => hh
  | ok z δ3 =>
    intro hh k H3 ω3 e3 R3 i3
    match z, hh, i3 with
    | .fz (.bl true), hh, i3 =>
      refine ⟨true, i3, iteT ?_⟩
      refine up_bind (t := tc) R3 (okR.ext e3 hh) fun u H4 ω4 δ4 z4 e4 R4 i4 hh => ?_
      exact h2 W ω4 H4 σ δ4 y z4 w u Q R4 (IsV.mono (e3.trans e4).f i2) i4 hh
    | .fz (.bl false), hh, i3 => exact ⟨false, i3, iteF (okR.at (x := Vl.fz (.bl false)) hh e3 R3 rfl)⟩
    | .fz .non, hh, _ => exact (show False from hh).elim
    | .fz (.int _), hh, _ => exact (show False from hh).elim
    | .fz (.str _), hh, _ => exact (show False from hh).elim
    | .fz (.ty _), hh, _ => exact (show False from hh).elim
    | .fz (.adr _), hh, _ => exact (show False from hh).elim
    | .fz (.cls _), hh, _ => exact (show False from hh).elim
    | .fz (.lst _), hh, _ => exact (show False from hh).elim
    | .fz (.tup _), hh, _ => exact (show False from hh).elim
    | .fz (.scr _), hh, _ => exact (show False from hh).elim
    | .fz (.ins ..), hh, _ => exact (show False from hh).elim
    | .fz (.exc ..), hh, _ => exact (show False from hh).elim
    | .sl _, hh, _ => exact (show False from hh).elim
theorem de_chain {op op' : CmpOp} {r r' : R2} {f g : Vl → Vl → DSt → R Vl} (hr : OpR X (compareOp op) r) (hr' : OpR X (compareOp op') r') (ho : Op2 X.K Γ r f) (ho' : Op2 X.K Γ r' g) (ha : DE X Γ a ta) (hb : DE X Γ b tb) (hc : DE X Γ c tc)
    (hm : lastMarks [op, op'] [b, c] = false := by with_unfolding_all rfl) : DE X Γ (.Compare a [op, op'] [b, c] pos) (eChain f g ta tb tc) :=
  ⟨fun W tk => PE.imp (pe_chain hr hr' (ha.run W tk) (hb.run W tk) (hc.run W tk) hm) fun _ _ _ => up_chain ho ho'⟩
theorem dt_chain {op op' : CmpOp} {r r' : R2} {f g : Vl → Vl → DSt → R Vl} (hr : OpR X (compareOp op) r) (hr' : OpR X (compareOp op') r') (ho : Op2 X.K Γ r f) (ho' : Op2 X.K Γ r' g) (ha : DE X Γ a ta) (hb : DE X Γ b tb) (hc : DE X Γ c tc)
    (hm : lastMarks [op, op'] [b, c] = false := by with_unfolding_all rfl) : DT X Γ (.Compare a [op, op'] [b, c] pos) (eT (eChain f g ta tb tc)) :=
  ⟨fun W tk => PT.imp (pt_chain hr hr' (ha.run W tk) (hb.run W tk) (hc.run W tk) hm) fun σ H Q h => up_chain ho ho' (up_T h)⟩
/-! new lists: reversed, joined, repeated, a slice -/
variable {τ : Tg}
def gRev (t : TD) : TDG := fun δ => (t δ).bind fun x δ1 => match dr δ1 x with
  | some (.lst ds) => .ok (.lst ds.reverse) δ1
  | _ => .stuck
theorem IsL.rev {K : Frag} {ω : Om} {H : Hp} {xi : Xi} {ds : List D} {vs : List V} (h : IsL K ω H xi ds vs) : IsL K ω H xi ds.reverse vs.reverse := IsL.reverse h
theorem dg_rev {k : Nat} {p1 p2 p3 : Pos} (hτ : τ ≠ .out) (he : DE X Γ e te) : DG X Γ τ (.Subscript e (.Slice none none (some (.UnaryOp .USub (.Constant (.int 1) k p1) p2)) p3) pos) (gRev te) :=
  ⟨fun W tk => PE.imp (pe_revL (he.run W tk)) fun σ H Q h => by
    obtain ⟨ω, δ, R, h⟩ := h
    refine up_bind (t := te) R h fun v H1 ω1 δ1 x e1 R1 i1 hh => ?_
    split at hh
    · rename_i ds q
      obtain ⟨p, vs, rfl, n, l⟩ := (dr_ok R1 i1 q).lst
      exact ⟨p, vs, rfl, n, new_lst hτ R1 l.rev hh⟩
    · exact hh.elim⟩
def gCat (ta tb : TD) : TDG := fun δ => (ta δ).bind fun x δ1 => (tb δ1).bind fun y δ2 => match dr δ2 x, dr δ2 y with
  | some (.lst xs), some (.lst ys) => if xs.length + ys.length ≤ sizeLine then .ok (.lst (xs ++ ys)) δ2 else .stuck
  | _, _ => .stuck
theorem dg_cat (hτ : τ ≠ .out) (ha : DE X Γ a ta) (hb : DE X Γ b tb) : DG X Γ τ (.BinOp a .Add b pos) (gCat ta tb) :=
  ⟨fun W tk => PE.imp (pe_op op_cat (ha.run W tk) (hb.run W tk)) fun σ H Q h => by
    obtain ⟨ω, δ, R, h⟩ := h
    refine up_bind (t := ta) R h fun v H1 ω1 δ1 x e1 R1 i1 hh => ?_
    refine up_bind (t := tb) R1 hh fun w H2 ω2 δ2 y e2 R2 i2 hh => ?_
    have i1 := IsV.mono e2.f i1
    split at hh
    · rename_i xs ys q1 q2
      split at hh
      · rename_i hz
        obtain ⟨p, vs, rfl, n1, l1⟩ := (dr_ok R2 i1 q1).lstH
        obtain ⟨p2, ws, rfl, n2, l2⟩ := (dr_ok R2 i2 q2).lstH
        exact ⟨p, p2, vs, ws, rfl, rfl, n1, n2, by rw [l1.length, l2.length]; exact hz, new_lst hτ R2 (l1.append l2) hh⟩
      · exact hh.elim
    · exact hh.elim⟩
def gRep (ta tb : TD) : TDG := fun δ => (ta δ).bind fun x δ1 => (tb δ1).bind fun y δ2 => match dr δ2 x, dr δ2 y with
  | some (.lst xs), some (.int k) => if k.natAbs < 2 ^ 62 ∧ xs.length * k.toNat ≤ sizeLine then .ok (.lst (List.replicate k.toNat xs).flatten) δ2 else .stuck
  | _, _ => .stuck
theorem IsL.rep {K : Frag} {ω : Om} {H : Hp} {xi : Xi} {ds : List D} {vs : List V} (h : IsL K ω H xi ds vs) : ∀ n, IsL K ω H xi (List.replicate n ds).flatten (List.replicate n vs).flatten
  | 0 => rfl
  | n + 1 => by
    rw [List.replicate_succ, List.replicate_succ, List.flatten_cons, List.flatten_cons]
    exact h.append (IsL.rep h n)
theorem dg_rep (hτ : τ ≠ .out) (ha : DE X Γ a ta) (hb : DE X Γ b tb) : DG X Γ τ (.BinOp a .Mult b pos) (gRep ta tb) :=
  ⟨fun W tk => PE.imp (pe_op op_rep (ha.run W tk) (hb.run W tk)) fun σ H Q h => by
    obtain ⟨ω, δ, R, h⟩ := h
    refine up_bind (t := ta) R h fun v H1 ω1 δ1 x e1 R1 i1 hh => ?_
    refine up_bind (t := tb) R1 hh fun w H2 ω2 δ2 y e2 R2 i2 hh => ?_
    have i1 := IsV.mono e2.f i1
    split at hh
    · rename_i xs k q1 q2
      split at hh
      · rename_i hz
        obtain ⟨p, vs, rfl, n1, l1⟩ := (dr_ok R2 i1 q1).lstH
        have hk := (dr_ok R2 i2 q2).int
        refine ⟨p, k, vs, rfl, hk, n1, ?_, ?_, by rw [l1.length]; exact hz.2, new_lst hτ R2 (l1.rep k.toNat) hh⟩
        · have := hz.1
          have h62 : (2 : Int) ^ 63 = 2 * ((2 ^ 62 : Nat) : Int) := by decide
          omega
        · have := hz.1
          have h62 : (2 : Int) ^ 63 = 2 * ((2 ^ 62 : Nat) : Int) := by decide
          omega
      · exact hh.elim
    · exact hh.elim⟩
def gSl (t : TD) (l h : TDO) : TDG := fun δ => (t δ).bind fun x δ1 => (l δ1).bind fun a δ2 => (h δ2).bind fun b δ3 => match dr δ3 x with
  | some (.lst xs) => .ok (.lst (cutD xs a b)) δ3
  | _ => .stuck
theorem dg_slice {lo hi : Option Expr} {tl th : TDO} {p2 : Pos} (hτ : τ ≠ .out) (he : DE X Γ e te) (hl : DO X Γ lo tl) (hh : DO X Γ hi th) : DG X Γ τ (.Subscript e (.Slice lo hi none p2) pos) (gSl te tl th) :=
  ⟨fun W tk => PE.imp (pe_slice (r := rSlL X.K) sl_list (he.run W tk) (hl.run W tk) (hh.run W tk)) fun σ H Q h => by
    obtain ⟨ω, δ, R, h⟩ := h
    refine up_bind (t := te) R h fun v H1 ω1 δ1 x e1 R1 i1 h1 => ?_
    refine up_bind (t := tl) R1 h1 fun l H2 ω2 δ2 a e2 R2 i2 h2 => ?_
    refine up_bind (t := th) R2 h2 fun u H3 ω3 δ3 b e3 R3 i3 h3 => ?_
    cases i2
    cases i3
    have i1 := IsV.mono (e2.trans e3).f i1
    split at h3
    · rename_i ds q
      obtain ⟨p, vs, rfl, n, ll⟩ := (dr_ok R3 i1 q).lst
      exact ⟨p, vs, rfl, n, new_lst hτ R3 (ll.cut l u) h3⟩
    · exact h3.elim⟩
/-! return of an own list of a slot that is no parameter -/
def ownO (ω : Om) (i j : Nat) : Om := fun b => if ω b = .own i then .own j else ω b
def sRetO (idx : List Nat) (t : TD) : TDS := fun δ => (t δ).fl fun x δ1 => match x with
  | .sl i => (match δ1[i]? with
    | some (some (1, d)) => if idx.contains i then .stuck else .rg d (δ1.set i none)
    | _ => .stuck)
  | .fz _ => .stuck
theorem ds_retO {idx : List Nat} (he : DE X Γ e te) : DS X Γ (.Return (some e) pos) (sRetO idx te) := ⟨fun W tk => PS.imp (ps_ret (he.run W tk)) fun D σ H h => by
  obtain ⟨ω, δ, R, h⟩ := h
  refine up_fl (t := te) R h fun v H1 ω1 δ1 x e1 R1 i1 h1 => ?_
  cases x with
  | fz d => exact h1.elim
  | sl i =>
    dsimp only at h1
    split at h1
    · rename_i d q
      split at h1
      · exact h1.elim
      · obtain ⟨a, vs, ds, s1, s2, s3, s4, l⟩ := R1.own q
        rw [show σ[i]? = some (some v) from i1] at s1
        cases s1
        have fz : Fz ω1 H1 (ownO ω1 i tagR) H1 := fun b hb => ⟨by unfold ownO; rw [if_neg (by rw [hb]; intro z; cases z)]; exact hb, rfl⟩
        have X1 : Ext ω1 H1 (ownO ω1 i tagR) H1 := ⟨fz, fun b o hb hb' => ⟨by unfold ownO; rw [if_neg (by rw [hb']; intro z; cases z)]; exact hb', hb⟩⟩
        refine h1 (.ref a) σ H1 (ownO ω1 i tagR) X1 ⟨fun b hb => R1.wf b fun z => hb (by unfold ownO; rw [if_neg (by rw [z]; intro z; cases z)]; exact z), by rw [List.length_set]; exact R1.len, fun j e' hj => ?_, R1.pin⟩ ⟨a, vs, ds, rfl, s2, by unfold ownO; rw [if_pos s3], s4, l.mono fz⟩
        by_cases z : i = j
        · subst z
          rw [List.getElem?_set_self (List.getElem?_eq_some_iff.mp q).1] at hj
          cases hj
          trivial
        · rw [List.getElem?_set_ne z] at hj
          refine (R1.sl j e' hj).mono fz fun b hb => ⟨?_, rfl⟩
          unfold ownO
          rw [if_neg (by rw [hb]; intro y; cases y; exact z rfl)]
          exact hb
    · exact h1.elim⟩
/-! both at once -/
def sPar2 (i j : Nat) (ta tb : TD) : TDS := fun δ => (aCons ta (aCons tb aNil) δ).fl fun xs δ1 => match frzs δ1 xs with
      | some ([d, e], δ2) => .nx ((δ2.set i (some (0, d))).set j (some (0, e)))
      | _ => .stuck
/-! in place -/
def opMulS := op2I fun i j => if decide (i.natAbs < 2 ^ 64) || decide (j.natAbs < 2 ^ 64) then some (.int (i * j)) else none
theorem op2_mulS {K : Frag} : Op2 K Γ (rI CMul fun i j => .int (i * j)) opMulS := op2_Ic (fun _ _ _ _ _ _ => rfl) fun i j h => by
  have h64 : (2 : Int) ^ 64 = ((2 ^ 64 : Nat) : Int) := by decide
  rcases Bool.or_eq_true_iff.mp h with z | z
  · exact .inl (by have := of_decide_eq_true z; omega)
  · exact .inr (by have := of_decide_eq_true z; omega)
/-! the truth of a value -/
def truD : D → Option Bool
  | .non => some false
  | .bl b => some b
  | .int i => some (decide (i ≠ 0))
  | .lst ds => some (!ds.isEmpty)
  | _ => none
def eTru (t : TD) : TDT := fun δ => (t δ).bind fun x δ1 => match dr δ1 x with
  | some d => (match truD d with
    | some b => .ok b δ1
    | none => .stuck)
  | none => .stuck
/-- the turns a loop may take: from slot i's int -/
def fuelN (i : Nat) : DSt → Nat := fun δ => match δ[i]? with
  | some (some (_, .int n)) => n.toNat + 1
  | _ => 0
end
end DL

set_option Elab.async false
set_option linter.all false
set_option maxRecDepth 100000
namespace DL
open PySem PySem.Spec PyProof.Rows L2
/-! ### the head's facts beyond He's: own errors, tuples of the module -/
theorem an {a b : Bool} (h : (a && b) = true) : a = true ∧ b = true := Bool.and_eq_true_iff.mp h
def shB (K : Frag) (C : Addr) : Bool := match K.lookup C with
  | some ⟨.type z, _, .cls q, ⟨l⟩⟩ => decide (z = "type") && (match q.mro, l with
    | .ref C1 :: tl, [_, _, _, _, some (.builtin y), _] => decide (C1 = C) && (decide (y = "ValueError.__new__") && ((!q.hasDel) && (q.hasDict && PySem.HandSPX.refsVE tl)))
    | _, _ => false)
  | _ => false
theorem shB_ok {K : Frag} {C : Addr} (h : shB K C = true) : ∃ nm q N bs bm sn sub ab col dd k0 k1 k2 k3 k5, K.lookup C = some (excClassObj nm q C N bs bm true sn sub ab col dd k0 k1 k2 k3 k5 "ValueError.__new__") ∧ PySem.HandSPX.refsVE bm = true := by
  unfold shB at h
  split at h
  · rename_i z dd q l lk
    obtain ⟨hz, h⟩ := an h
    cases of_decide_eq_true hz
    split at h
    · rename_i C1 tl k0 k1 k2 k3 y k5 hm _hh
      obtain ⟨_, h⟩ := an h
      obtain ⟨h1, h⟩ := an h
      obtain ⟨h2, h⟩ := an h
      obtain ⟨h3, h⟩ := an h
      obtain ⟨h4, h5⟩ := an h
      cases of_decide_eq_true h1
      cases of_decide_eq_true h2
      obtain ⟨nm, bs, mro, ns, qn, hd, sn, sub, ab, col, del⟩ := q
      dsimp only at hm h3 h4
      subst hm h4
      have hdel : del = false := by cases del <;> simp_all
      subst hdel
      exact ⟨nm, qn, ns, bs, tl, sn, sub, ab, col, dd, k0, k1, k2, k3, k5, lk, h5⟩
    · cases h
  · cases h
def fdB (K : Frag) (v : Value) (x : Str) (r : Option Value) : Bool := decide (PySem.W.findIn K v x = some r)
theorem fdB_ok {K : Frag} {v : Value} {x : Str} {r : Option Value} (h : fdB K v x r = true) : PySem.W.findIn K v x = some r := of_decide_eq_true h
def oxB (K : Frag) (C : Addr) : Bool := shB K C && (fdB K (.ref C) "__setattr__" (some (.builtin "object.__setattr__")) && (decide (PySem.W.subIn K (.ref C) (.type "BaseException") = some true) && (decide (PySem.W.typeIn K (.ref C) = some (.type "type")) && PySem.W.keepIn K (.ref C))))
theorem oxB_ok {K : Frag} {C : Addr} (h : oxB K C = true) : OexC K C := by
  obtain ⟨h1, h⟩ := an h
  obtain ⟨h2, h⟩ := an h
  obtain ⟨h3, h⟩ := an h
  obtain ⟨h4, h5⟩ := an h
  exact ⟨shB_ok h1, fdB_ok h2, of_decide_eq_true h3, of_decide_eq_true h4, h5⟩
/-- the raised class c, its __init__ storing fs -/
def rxB (K : Frag) (p : Str × List Str) : Bool := oxB K (He.ga K p.1) && (fdB K (.ref (He.ga K p.1)) "__init__" (some (.ref (He.ma K (He.ga K p.1) "__init__"))) && (decide (PySem.W.typeIn K (.ref (He.ma K (He.ga K p.1) "__init__")) = some (.type "function")) && p.2.all fun f => fdB K (.ref (He.ga K p.1)) f none))
theorem rx_ok {P : Program} {w : World} {K : Frag} {mg : Str → Option Value} {base : Heap} {c : Str} {fs ps : List Str} {fd : FuncData} (h : rxB K (c, fs) = true) (hm : mg c = some (.ref (He.ga K c))) (hB : Binds K fd ps []) (hF : FnOk P w K mg base (L2N.CX P w) 1 (He.ma K (He.ga K c) "__init__") fd ps (spI K fs)) : ExcF P w K mg base c fs := by
  obtain ⟨h1, h⟩ := an h
  obtain ⟨h2, h⟩ := an h
  obtain ⟨h3, h4⟩ := an h
  exact ⟨hm, oxB_ok h1, ⟨_, fd, ps, fdB_ok h2, of_decide_eq_true h3, hB, hF⟩, fun f hf => fdB_ok (List.all_eq_true.mp h4 f hf)⟩
/-- an __init__ of one, of two fields -/
theorem rx1 {P : Program} {w : World} {K : Frag} {mg : Str → Option Value} {base : Heap} {c f q : Str} {args : Arguments} {body : List Stmt} {scope : Scope} (h : rxB K (c, [f]) = true) (hm : mg c = some (.ref (He.ga K c)))
    (hF : ∃ fd, FunD K "__init__" q args body scope [] [] (He.fAd K (c, some "__init__")) fd) (S : FnScope ["self", f] ["self", f] scope) {p1 p2 p3 p4 : Pos} (hb : body = [.Assign [.Attribute (.Name "self" p1) f p2] (.Name f p3) p4])
    (hbd : ∀ (kV doc pm : Value) (an : Option Addr) (cdv ct : Value) (us : List Value), us.length = 2 → bindArgs (PySem.W.fnOf "__init__" q args body scope .none kV doc pm an cdv ct) ⟨us, []⟩ = pure ((["self", f] : List Str).zip us))
    (h1 : (f == ("__debug__" : Str)) = false := by decide) (h2 : (f == ("__classdict__" : Str)) = false := by decide) : ExcF P w K mg base c [f] := by
  obtain ⟨fd, F⟩ := hF
  exact rx_ok h hm (F.bindsN (ps := ["self", f]) hbd) (init1 F S hb h1 h2)
theorem rx2 {P : Program} {w : World} {K : Frag} {mg : Str → Option Value} {base : Heap} {c f g q : Str} {args : Arguments} {body : List Stmt} {scope : Scope} (h : rxB K (c, [f, g]) = true) (hm : mg c = some (.ref (He.ga K c)))
    (hF : ∃ fd, FunD K "__init__" q args body scope [] [] (He.fAd K (c, some "__init__")) fd) (S : FnScope ["self", f, g] ["self", f, g] scope) {p1 p2 p3 p4 q1 q2 q3 q4 : Pos} (hb : body = [.Assign [.Attribute (.Name "self" p1) f p2] (.Name f p3) p4, .Assign [.Attribute (.Name "self" q1) g q2] (.Name g q3) q4])
    (hbd : ∀ (kV doc pm : Value) (an : Option Addr) (cdv ct : Value) (us : List Value), us.length = 3 → bindArgs (PySem.W.fnOf "__init__" q args body scope .none kV doc pm an cdv ct) ⟨us, []⟩ = pure ((["self", f, g] : List Str).zip us))
    (h1 : (f == ("__debug__" : Str)) = false := by decide) (h2 : (f == ("__classdict__" : Str)) = false := by decide) (h3 : (g == ("__debug__" : Str)) = false := by decide) (h4 : (g == ("__classdict__" : Str)) = false := by decide) : ExcF P w K mg base c [f, g] := by
  obtain ⟨fd, F⟩ := hF
  exact rx_ok h hm (F.bindsN (ps := ["self", f, g]) hbd) (init2 F S hb h1 h2 h3 h4)
def ecB (K : Frag) (C : Addr) : Bool := L2.xfB K C && (fdB K (.ref C) "__class__" (some (.builtin "object.__class__")) && (decide (PySem.W.specialIn K (.builtin "object.__class__") "__get__" = some (some (.builtin "getset_descriptor.__get__"))) && (decide (PySem.W.takesIn K (.builtin "object.__class__") = some true) && decide (PySem.W.mroIn K C (.type "object") = some true))))
def etB (K : Frag) (top : Str) (all cs fs : List Str) : Bool := cs.all fun c => ecB K (He.ga K c) && ((all.all fun c' => decide (PySem.W.kitOne K (.ref (He.ga K c)) (.ref (He.ga K c')) = some (subX top c c'))) && (decide (PySem.W.kitOne K (.ref (He.ga K c)) (.type "ValueError") = some true) && fs.all fun f => fdB K (.ref (He.ga K c)) f none))
theorem et_ok {K : Frag} {top : Str} {all cs fs : List Str} (h : etB K top all cs fs = true) : ExcT K top all cs fs := by
  have key : ∀ c ∈ cs, ExcC K (He.ga K c) ∧ XfC K (He.ga K c) ∧ (∀ c' ∈ all, PySem.W.kitOne K (.ref (He.ga K c)) (.ref (He.ga K c')) = some (subX top c c')) ∧ PySem.W.kitOne K (.ref (He.ga K c)) (.type "ValueError") = some true ∧ ∀ f ∈ fs, PySem.W.findIn K (.ref (He.ga K c)) f = some none := fun c hc => by
    obtain ⟨h1, h⟩ := an (List.all_eq_true.mp h c hc)
    obtain ⟨h2, h⟩ := an h
    obtain ⟨h3, h4⟩ := an h
    obtain ⟨e1, h1⟩ := an h1
    obtain ⟨e2, h1⟩ := an h1
    obtain ⟨e3, h1⟩ := an h1
    obtain ⟨e4, e5⟩ := an h1
    have X := L2.xfB_ok e1
    exact ⟨⟨X.ga, X.gg, X.exC, X.hdC, fdB_ok e2, of_decide_eq_true e3, of_decide_eq_true e4, of_decide_eq_true e5⟩, X, fun c' hc' => of_decide_eq_true (List.all_eq_true.mp h2 c' hc'), of_decide_eq_true h3, fun f hf => fdB_ok (List.all_eq_true.mp h4 f hf)⟩
  exact ⟨fun c hc => (key c hc).1, fun c hc => (key c hc).2.1, fun c hc => (key c hc).2.2.1, fun c hc => (key c hc).2.2.2.1, fun c hc => (key c hc).2.2.2.2⟩
/-! tuples of the module: flat -/
def fvB : D → Value → Bool
  | .int i, .int j _ => decide (j = i)
  | .str x, .str y _ => decide (y = x)
  | .non, .none => true
  | .bl b, .bool c => b == c
  | _, _ => false
def fvsB : List D → List Value → Bool
  | [], [] => true
  | d :: ds, v :: vs => fvB d v && fvsB ds vs
  | _, _ => false
theorem fvB_ok {K : Frag} {d : D} {u : Value} (h : fvB d u = true) : ∃ v, RelV v u ∧ ∀ ω H xi, Is K ω H xi d v := by
  unfold fvB at h
  split at h
  · exact ⟨.int _, ⟨_, by rw [← of_decide_eq_true h]⟩, fun _ _ _ => rfl⟩
  · exact ⟨.str _, ⟨_, by rw [← of_decide_eq_true h]⟩, fun _ _ _ => rfl⟩
  · exact ⟨.non, rfl, fun _ _ _ => rfl⟩
  · rename_i b c
    exact ⟨.bl b, by rw [show b = c by simpa using h]; rfl, fun _ _ _ => rfl⟩
  · cases h
theorem fvsB_ok {K : Frag} : ∀ {ds : List D} {us : List Value}, fvsB ds us = true → ∃ vs, Vals vs us ∧ ∀ ω H xi, IsL K ω H xi ds vs
  | [], [], _ => ⟨[], .nil, fun _ _ _ => rfl⟩
  | d :: ds, u :: us, h => by
    obtain ⟨h1, h2⟩ := an (show (fvB d u && fvsB ds us) = true from h)
    obtain ⟨v, r, i⟩ := fvB_ok (K := K) h1
    obtain ⟨vs, rs, is⟩ := fvsB_ok (K := K) h2
    exact ⟨v :: vs, .cons r rs, fun ω H xi => ⟨v, vs, rfl, i ω H xi, is ω H xi⟩⟩
  | [], _ :: _, h => by cases h
  | _ :: _, [], h => by cases h
def gtB (K : Frag) (p : Str × List D) : Bool := decide (PySem.W.nsIn K mainGlobals p.1 = some (some (.ref (He.ga K p.1)))) && (match K.lookup (He.ga K p.1) with
  | some ⟨.type z, _, .seq its _, _⟩ => decide (z = "tuple") && (decide (its.size ≤ sizeLine) && fvsB p.2 its.toList)
  | _ => false)
theorem gt_ok {K : Frag} {h : Heap} {mg : Str → Option Value} (X : K.In h) (G : h.Ns mainGlobals mg) {x : Str} {ds : List D} (q : gtB K (x, ds) = true) : GTup K mg x (.tup ds) := by
  obtain ⟨h1, h2⟩ := an q
  refine ⟨He.ga K x, PySem.W.mg_of X G (of_decide_eq_true h1), ?_⟩
  dsimp only at h2
  split at h2
  · rename_i z dd its n sl lk
    obtain ⟨e1, e2⟩ := an h2
    obtain ⟨e2, e3⟩ := an e2
    cases of_decide_eq_true e1
    obtain ⟨vs, r, i⟩ := fvsB_ok (K := K) e3
    exact fun ω H xi => ⟨_, vs, rfl, .inr ⟨_, its, n, lk, rfl, rfl, of_decide_eq_true e2, r⟩, i ω H xi⟩
  · cases h2
/-! ### the end -/
theorem fn_cx0 {P : Program} {w : World} {K : Frag} {mg : Str → Option Value} {base : Heap} {k : Nat} {f : Addr} {fd : FuncData} {ps : List Str} {sp : Sp} (F : FnOk P w K mg base (L2N.CX P w) k f fd ps sp) : FnOk P w K mg base L2.CX0 k f fd ps (fun vs H Q _ => sp vs H Q fun _ _ _ => False) := by
  refine ⟨fun vs H Q E h => F.len _ _ _ _ h, fun A outer s H args us vs Q E hr he hb hv hs => codeAny_mono (F.run A outer s H args us vs Q (fun _ _ _ => False) hr he hb hv hs) fun r s' z => ?_⟩
  match r, z with
  | .ok (.ret u), z => exact z
  | .ok .next, z => exact z
  | .ok .brk, z => exact z
  | .ok .cont, z => exact z
  | .error e, z =>
    obtain ⟨_, _, _, _, _, _, _, _, _, _, _, _, q⟩ := z
    exact q.elim
theorem law_sp {K : Frag} {m : List D → FR} {H : Hp} {a : Addr} {ns : List Int} (hO : Only H) (hS : SqL K H a (ns.map V.int)) (hm : m [.scr ns] = .ok (.bl true) []) : spD K [false] m [.ref a] H (fun v _ => v = .bl true) fun _ _ _ => False := by
  refine ⟨fun b => if (H b).isSome then .fz else .out, [.scr ns], fun b hb => ?_, ⟨⟨a, rfl, ?_⟩, trivial⟩, ?_⟩
  · cases q : H b with
    | none => exact absurd (by show (if (H b).isSome then Tg.fz else Tg.out) = Tg.out; rw [q]; rfl) hb
    | some o => exact ⟨o, rfl⟩
  · rcases hS with h | h
    · refine .inl ⟨?_, h⟩
      have hs : (H a).isSome = true := by
        rcases h with h | ⟨o, h⟩ <;> rw [h] <;> rfl
      exact if_pos hs
    · exact .inr fun H' => .inr h
  · rw [hm]
    exact fun v H' ω' _ _ i _ => i
end DL

set_option Elab.async false
set_option linter.all false
set_option maxRecDepth 100000
namespace DL
open PySem L2
/-! ### a logic of the mirrors: no program in sight -/
abbrev XE := Str → List Str → List D → DSt → Prop
def RW {α : Type} (r : R α) (Q : α → DSt → Prop) (E : XE) : Prop := match r with
  | .ok a δ => Q a δ
  | .exc c ns ds δ => E c ns ds δ
  | .stuck => False
def FW (f : Fl) (nx : DSt → Prop) (rt : Vl → DSt → Prop) (rg : D → DSt → Prop) (bk ct : DSt → Prop) (ex : XE) : Prop := match f with
  | .nx δ => nx δ
  | .rt x δ => rt x δ
  | .rg x δ => rg x δ
  | .bk δ => bk δ
  | .ct δ => ct δ
  | .ex c ns ds δ => ex c ns ds δ
  | .stuck => False
def MW0 (r : FR) (Q G : D → List D → Prop) (E : Str → List Str → List D → List D → Prop) : Prop := match r with
  | .ok r ms => Q r ms
  | .rg r ms => G r ms
  | .exc c ns ds ms => E c ns ds ms
  | .stuck => False
structure MW (r : FR) (Q G : D → List D → Prop) (E : Str → List Str → List D → List D → Prop) : Prop where
  h : MW0 r Q G E
theorem MW_d {r : FR} {Q G : D → List D → Prop} {E : Str → List Str → List D → List D → Prop} : MW r Q G E = MW0 r Q G E := propext ⟨fun z => z.h, fun z => ⟨z⟩⟩
section
variable {α β : Type} {Q : α → DSt → Prop} {E : XE} {δ : DSt} {QV : Vl → DSt → Prop} {QB : Bool → DSt → Prop} {QA : List Vl → DSt → Prop} {QD : D → DSt → Prop} {QL : List D → DSt → Prop}
theorem szl : sizeLine = 16777216 := sizeLine_eq
theorem RW_ok {a : α} : RW (.ok a δ) Q E = Q a δ := id rfl
theorem RW_exc {c ns ds} : RW (.exc c ns ds δ) Q E = E c ns ds δ := id rfl
theorem RW_stuck : RW .stuck Q E = False := id rfl
theorem RW_bind {r : R β} {f : β → DSt → R α} : RW (r.bind f) Q E = RW r (fun a δ1 => RW (f a δ1) Q E) E := by cases r <;> rfl
theorem RW_C {d : D} : RW (eC d δ) QV E = QV (.fz d) δ := id rfl
theorem RW_var {i : Nat} : RW (eVar i δ) QV E = (match δ[i]? with
  | some (some (0, d)) => QV (.fz d) δ
  | some (some (_ + 1, _)) => QV (.sl i) δ
  | _ => False) := by
  unfold eVar
  cases δ[i]? with
  | none => rfl
  | some r =>
    cases r with
    | none => rfl
    | some r =>
      obtain ⟨l, d⟩ := r
      cases l <;> rfl
theorem RW_bin {f : Vl → Vl → DSt → R Vl} {a b : TD} : RW (eBin f a b δ) QV E = RW (a δ) (fun x δ1 => RW (b δ1) (fun y δ2 => RW (f x y δ2) QV E) E) E := by
  unfold eBin; rw [RW_bind]; simp only [RW_bind]
theorem RW_un {f : Vl → DSt → R Vl} {a : TD} : RW (eUn f a δ) QV E = RW (a δ) (fun x δ1 => RW (f x δ1) QV E) E := by
  unfold eUn; rw [RW_bind]
theorem RW_vB {b : Bool} : RW (vB δ (.fz (.bl b))) QB E = QB b δ := id rfl
theorem RW_T {t : TD} : RW (eT t δ) QB E = RW (t δ) (fun x δ1 => RW (vB δ1 x) QB E) E := by unfold eT; rw [RW_bind]
theorem RW_bAnd {t u : TDT} : RW (bAnd t u δ) QB E = RW (t δ) (fun c δ1 => (c = true → RW (u δ1) QB E) ∧ (c = false → QB false δ1)) E := by
  unfold bAnd; rw [RW_bind]; congr 1; funext c δ1; cases c <;> simp [RW_ok]
theorem RW_bOr {t u : TDT} : RW (bOr t u δ) QB E = RW (t δ) (fun c δ1 => (c = true → QB true δ1) ∧ (c = false → RW (u δ1) QB E)) E := by
  unfold bOr; rw [RW_bind]; congr 1; funext c δ1; cases c <;> simp [RW_ok]
theorem RW_bNot {t : TDT} : RW (bNot t δ) QB E = RW (t δ) (fun c δ1 => QB (!c) δ1) E := by
  unfold bNot; rw [RW_bind]; rfl
theorem RW_eAnd {t u : TD} : RW (eAnd t u δ) QV E = RW (t δ) (fun x δ1 => RW (vB δ1 x) (fun c δ2 => (c = true → RW (u δ2) QV E) ∧ (c = false → QV (.fz (.bl false)) δ2)) E) E := by
  unfold eAnd; rw [RW_bind, RW_bind]; congr 1; funext x δ1; congr 1; funext c δ1; cases c <;> simp [RW_ok]
theorem RW_eOr {t u : TD} : RW (eOr t u δ) QV E = RW (t δ) (fun x δ1 => RW (vB δ1 x) (fun c δ2 => (c = true → QV (.fz (.bl true)) δ2) ∧ (c = false → RW (u δ2) QV E)) E) E := by
  unfold eOr; rw [RW_bind, RW_bind]; congr 1; funext x δ1; congr 1; funext c δ1; cases c <;> simp [RW_ok]
theorem RW_eNot {t : TD} : RW (eNot t δ) QV E = RW (t δ) (fun x δ1 => RW (vB δ1 x) (fun c δ2 => QV (.fz (.bl (!c))) δ2) E) E := by
  unfold eNot; rw [RW_bind, RW_bind]; rfl
theorem RW_eIf {c : TDT} {a b : TD} : RW (eIf c a b δ) QV E = RW (c δ) (fun k δ1 => (k = true → RW (a δ1) QV E) ∧ (k = false → RW (b δ1) QV E)) E := by
  unfold eIf; rw [RW_bind]; congr 1; funext k δ1; cases k <;> simp
theorem RW_aNil : RW (aNil δ) QA E = QA [] δ := id rfl
theorem RW_aCons {t : TD} {r : TDA} : RW (aCons t r δ) QA E = RW (t δ) (fun x δ1 => RW (r δ1) (fun xs δ2 => QA (x :: xs) δ2) E) E := by
  unfold aCons; rw [RW_bind]; simp only [RW_bind, RW_ok]
theorem RW_gFz {t : TDG} : RW (gFz t δ) QV E = RW (t δ) (fun d δ1 => QV (.fz d) δ1) E := by unfold gFz; rw [RW_bind]; rfl
theorem RW_gDis {f : List D → D} {t : TDA} : RW (gDis f t δ) QD E = RW (t δ) (fun xs δ1 => match frzs δ1 xs with
    | some (ds, δ2) => ds.length ≤ sizeLine ∧ QD (f ds) δ2
    | none => False) E := by
  unfold gDis; rw [RW_bind]; congr 1; funext xs δ1
  cases frzs δ1 xs with
  | none => rfl
  | some p =>
    obtain ⟨ds, δ2⟩ := p
    dsimp only
    by_cases h : ds.length ≤ sizeLine
    · rw [if_pos h]; exact propext ⟨fun z => ⟨h, z⟩, fun z => z.2⟩
    · rw [if_neg h]; exact propext ⟨fun z => z.elim, fun z => (h z.1).elim⟩
theorem RW_eCall {f : List Vl → DSt → R Vl} {t : TDA} : RW (eCall f t δ) QV E = RW (t δ) (fun xs δ1 => RW (f xs δ1) QV E) E := by unfold eCall; rw [RW_bind]
theorem RW_gCall {f : List Vl → DSt → R D} {t : TDA} : RW (gCall f t δ) QD E = RW (t δ) (fun xs δ1 => RW (f xs δ1) QD E) E := by unfold gCall; rw [RW_bind]
theorem RW_fn1 {f : D → Option D} {x : Vl} : RW (fn1 f [x] δ) QV E = (match dr δ x with
    | some d => (match f d with
      | some r => QV (.fz r) δ
      | none => False)
    | none => False) := by
  simp only [fn1]; cases dr δ x with
  | none => rfl
  | some d => dsimp only; cases f d <;> rfl
theorem RW_fn2 {f : D → D → Option D} {x y : Vl} : RW (fn2 f [x, y] δ) QV E = (match dr δ x, dr δ y with
    | some d, some e => (match f d e with
      | some r => QV (.fz r) δ
      | none => False)
    | _, _ => False) := by
  simp only [fn2]; cases dr δ x with
  | none => rfl
  | some d =>
    cases dr δ y with
    | none => rfl
    | some e => dsimp only; cases f d e <;> rfl
theorem RW_fnL {x : Vl} : RW (fnL [x] δ) QD E = (match dr δ x with
    | some d => (match items d with
      | some ds => QD (.lst ds) δ
      | none => False)
    | none => False) := by
  simp only [fnL]; cases dr δ x with
  | none => rfl
  | some d => dsimp only; cases items d <;> rfl
theorem dr_fz {d : D} : dr δ (.fz d) = some d := id rfl
theorem dr_sl {i : Nat} : dr δ (.sl i) = (match δ[i]? with
    | some (some (_, d)) => some d
    | _ => none) := id rfl
theorem frz_fz {d : D} : frz δ (.fz d) = some (d, δ) := id rfl
theorem frz_sl {i : Nat} : frz δ (.sl i) = (match δ[i]? with
    | some (some (_, d)) => some (d, δ.set i (some (0, d)))
    | _ => none) := id rfl
theorem frzs_nil : frzs δ [] = some ([], δ) := id rfl
theorem frzs_cons {x : Vl} {xs : List Vl} : frzs δ (x :: xs) = (match frz δ x with
    | some (d, δ1) => (match frzs δ1 xs with
      | some (ds, δ2) => some (d :: ds, δ2)
      | none => none)
    | none => none) := id rfl
/-! operators over ints -/
variable {i j : Int} {P : Prop}
theorem RW_add : RW (opAdd (.fz (.int i)) (.fz (.int j)) δ) QV E = QV (.fz (.int (i + j))) δ := id rfl
theorem RW_sub : RW (opSub (.fz (.int i)) (.fz (.int j)) δ) QV E = QV (.fz (.int (i - j))) δ := id rfl
theorem RW_lt : RW (opLt (.fz (.int i)) (.fz (.int j)) δ) QV E = QV (.fz (.bl (decide (i < j)))) δ := id rfl
theorem RW_le : RW (opLe (.fz (.int i)) (.fz (.int j)) δ) QV E = QV (.fz (.bl (decide (i ≤ j)))) δ := id rfl
theorem RW_gt : RW (opGt (.fz (.int i)) (.fz (.int j)) δ) QV E = QV (.fz (.bl (decide (j < i)))) δ := id rfl
theorem RW_ge : RW (opGe (.fz (.int i)) (.fz (.int j)) δ) QV E = QV (.fz (.bl (decide (j ≤ i)))) δ := id rfl
theorem RW_neg : RW (opNeg (.fz (.int i)) δ) QV E = QV (.fz (.int (-i))) δ := id rfl
theorem RW_c2 {c : Int → Int → Bool} {g : Int → Int → D} : RW (op2I (fun i j => if c i j then some (g i j) else none) (.fz (.int i)) (.fz (.int j)) δ) QV E = (c i j = true ∧ QV (.fz (g i j)) δ) := by
  show RW (match (if c i j = true then some (g i j) else none) with
    | some d => R.ok (Vl.fz d) δ
    | none => .stuck) QV E = _
  by_cases h : c i j = true
  · rw [if_pos h]; exact propext ⟨fun z => ⟨h, z⟩, fun z => z.2⟩
  · rw [if_neg h]; exact propext ⟨fun z => z.elim, fun z => (h z.1).elim⟩
theorem RW_mul : RW (opMul (.fz (.int i)) (.fz (.int j)) δ) QV E = (mulOk i j = true ∧ QV (.fz (.int (i * j))) δ) := RW_c2 (c := mulOk) (g := fun i j => .int (i * j))
theorem RW_div : RW (opDiv (.fz (.int i)) (.fz (.int j)) δ) QV E = (divOk i j = true ∧ QV (.fz (.int (i / j))) δ) := RW_c2 (c := divOk) (g := fun i j => .int (i / j))
theorem RW_mod : RW (opMod (.fz (.int i)) (.fz (.int j)) δ) QV E = (0 < j ∧ QV (.fz (.int (i % j))) δ) := by
  have z := RW_c2 (QV := QV) (E := E) (δ := δ) (i := i) (j := j) (c := fun _ j => decide (0 < j)) (g := fun i j => .int (i % j))
  have e : (decide (0 < j) = true) = (0 < j) := propext decide_eq_true_iff
  rw [e] at z
  exact z
theorem RW_pow : RW (opPow (.fz (.int i)) (.fz (.int j)) δ) QV E = (powOk i j = true ∧ QV (.fz (.int (i ^ j.toNat))) δ) := RW_c2 (c := powOk) (g := fun i j => .int (i ^ j.toNat))

theorem RW_eq0 {x y : Vl} : RW (opEq false x y δ) QV E = (match dr δ x, dr δ y with
    | some d, some e => (match eqD d e with
      | some b => QV (.fz (.bl b)) δ
      | none => False)
    | _, _ => False) := by
  unfold opEq
  cases dr δ x with
  | none => rfl
  | some d =>
    cases dr δ y with
    | none => rfl
    | some e => dsimp only; cases eqD d e <;> rfl
theorem RW_eq1 {x y : Vl} : RW (opEq true x y δ) QV E = (match dr δ x, dr δ y with
    | some d, some e => (match eqD d e with
      | some b => QV (.fz (.bl (!b))) δ
      | none => False)
    | _, _ => False) := by
  unfold opEq
  cases dr δ x with
  | none => rfl
  | some d =>
    cases dr δ y with
    | none => rfl
    | some e => dsimp only; cases eqD d e <;> rfl
theorem eqD_ii : eqD (.int i) (.int j) = some (decide (i = j)) := rfl
theorem eqD_ss {x y : Str} : eqD (.str x) (.str y) = some (decide (x = y)) := rfl
theorem eqD_bb {x y : Bool} : eqD (.bl x) (.bl y) = some (decide (x = y)) := rfl
theorem RW_in {n : Bool} {x y : Vl} : RW (opIn n x y δ) QV E = (match dr δ x, dr δ y with
    | some d, some e => (match inD d e with
      | some b => QV (.fz (.bl (if n then !b else b))) δ
      | none => False)
    | _, _ => False) := by
  unfold opIn
  cases dr δ x with
  | none => rfl
  | some d =>
    cases dr δ y with
    | none => rfl
    | some e => dsimp only; cases inD d e <;> rfl
theorem RW_is {n : Bool} {x : Vl} : RW (opIs n x (.fz .non) δ) QV E = (match dr δ x with
    | some d => QV (.fz (.bl (if n then !isNon d else isNon d))) δ
    | none => False) := by
  unfold opIs
  cases dr δ x with
  | none => rfl
  | some d => rfl
theorem RW_ix {x : Vl} {k : Int} : RW (opIx x (.fz (.int k)) δ) QV E = (match dr δ x with
    | some d => (match getD? d k with
      | some e => QV (.fz e) δ
      | none => False)
    | none => False) := by
  unfold opIx
  cases dr δ x with
  | none => rfl
  | some d => simp only [dr_fz]; cases getD? d k <;> rfl
theorem getD_lst {xs : List D} {k : Int} : getD? (.lst xs) k = atI xs k := id rfl
theorem getD_tup {xs : List D} {k : Int} : getD? (.tup xs) k = atI xs k := id rfl
theorem atI_nat {γ : Type} {xs : List γ} {k : Nat} : atI xs (k : Int) = xs[k]? := by
  unfold atI ixN
  by_cases h : (k : Int) < (xs.length : Int)
  · rw [if_pos (by omega), if_pos h]; simp
  · rw [if_pos (by omega), if_neg h]
    have : xs.length ≤ k := by omega
    simp [List.getElem?_eq_none this]
theorem atI_0 {γ : Type} {xs : List γ} : atI xs 0 = xs[0]? := atI_nat (k := 0)
theorem atI_1 {γ : Type} {xs : List γ} : atI xs 1 = xs[1]? := atI_nat (k := 1)
theorem atI_2 {γ : Type} {xs : List γ} : atI xs 2 = xs[2]? := atI_nat (k := 2)
theorem atI_3 {γ : Type} {xs : List γ} : atI xs 3 = xs[3]? := atI_nat (k := 3)
theorem atI_4 {γ : Type} {xs : List γ} : atI xs 4 = xs[4]? := atI_nat (k := 4)
theorem atI_5 {γ : Type} {xs : List γ} : atI xs 5 = xs[5]? := atI_nat (k := 5)
theorem atI_ge {γ : Type} {xs : List γ} {i : Int} (h : 0 ≤ i) : atI xs i = xs[i.toNat]? := by
  obtain ⟨k, rfl⟩ := Int.eq_ofNat_of_zero_le h
  rw [atI_nat]; rfl
theorem ixN_lit {n : Nat} {k : Nat} (h : k < n) : ixN n (k : Int) = some k := by
  unfold ixN
  rw [if_pos (by omega), if_pos (by omega)]; rfl
theorem ixN_l0 {n : Nat} : ixN (n + 1) 0 = some 0 := ixN_lit (k := 0) (by omega)
theorem ixN_l1 {n : Nat} : ixN (n + 2) 1 = some 1 := ixN_lit (k := 1) (by omega)
theorem ixN_l2 {n : Nat} : ixN (n + 3) 2 = some 2 := ixN_lit (k := 2) (by omega)
theorem ixN_l3 {n : Nat} : ixN (n + 4) 3 = some 3 := ixN_lit (k := 3) (by omega)
theorem ixN_l4 {n : Nat} : ixN (n + 5) 4 = some 4 := ixN_lit (k := 4) (by omega)
theorem ixN_l5 {n : Nat} : ixN (n + 6) 5 = some 5 := ixN_lit (k := 5) (by omega)
/-! slices, methods -/
theorem RW_oN {QO : Option Int → DSt → Prop} : RW (oNone δ) QO E = QO none δ := id rfl
theorem RW_oS {QO : Option Int → DSt → Prop} {t : TD} : RW (oSome t δ) QO E = RW (t δ) (fun x δ1 => match dr δ1 x with
    | some (.int i) => QO (some i) δ1
    | _ => False) E := by
  unfold oSome; rw [RW_bind]; congr 1; funext x δ1
  cases dr δ1 x with
  | none => rfl
  | some d => cases d <;> rfl
theorem RW_sl {t : TD} {l h : TDO} : RW (eSl t l h δ) QV E = RW (t δ) (fun x δ1 => RW (l δ1) (fun a δ2 => RW (h δ2) (fun b δ3 => match dr δ3 x with
    | some d => (match sliceD d a b with
      | some e => QV (.fz e) δ3
      | none => False)
    | none => False) E) E) E := by
  unfold eSl; simp only [RW_bind]; congr 1; funext x δ1; congr 1; funext a δ2; congr 1; funext b δ3
  cases dr δ3 x with
  | none => rfl
  | some d => dsimp only; cases sliceD d a b <;> rfl
theorem scr_cut (is : List Int) (lo hi : Option Int) : ∃ js : List Int, sliceD (.scr is) lo hi = some (.lst (js.map D.int)) ∧ js.length ≤ is.length := by
  refine ⟨(is.drop (HT.sIx is.length 0 lo)).take (HT.sIx is.length is.length hi - HT.sIx is.length 0 lo), ?_, ?_⟩
  · unfold sliceD
    dsimp only
    have e : cutV (is.map V.int) lo hi = ((is.drop (HT.sIx is.length 0 lo)).take (HT.sIx is.length is.length hi - HT.sIx is.length 0 lo)).map V.int := by
      unfold cutV
      rw [List.length_map, List.map_take, List.map_drop]
    rw [e, fm_ints]
  · rw [List.length_take, List.length_drop]
    omega
theorem RW_mut {lm : List D → List D → Option (D × List D)} {to : TD} {ta : TDA} : RW (eMut lm to ta δ) QV E = RW (to δ) (fun o δ1 => isOwn δ1 o = true ∧ RW (ta δ1) (fun xs δ2 => RW (mutF lm o xs δ2) QV E) E) E := by
  unfold eMut; rw [RW_bind]; congr 1; funext o δ1
  by_cases h : isOwn δ1 o = true
  · rw [if_pos h, RW_bind]; exact propext ⟨fun z => ⟨h, z⟩, fun z => z.2⟩
  · rw [if_neg h]; exact propext ⟨fun z => z.elim, fun z => (h z.1).elim⟩
theorem RW_mutF {lm : List D → List D → Option (D × List D)} {j : Nat} {xs : List Vl} : RW (mutF lm (.sl j) xs δ) QV E = (match frzs δ xs with
    | some (as, δ1) => (match δ1[j]? with
      | some (some (1, .lst ds)) => (match lm ds as with
        | some (r, ds') => QV (.fz r) (δ1.set j (some (1, .lst ds')))
        | none => False)
      | _ => False)
    | none => False) := by
  unfold mutF
  cases frzs δ xs with
  | none => rfl
  | some p =>
    obtain ⟨as, δ1⟩ := p
    dsimp only
    cases δ1[j]? with
    | none => rfl
    | some o =>
      cases o with
      | none => rfl
      | some p =>
        obtain ⟨l, d⟩ := p
        match l, d with
        | 0, _ => rfl
        | 1, d =>
          cases d with
          | lst ds =>
            have key : ∀ o : Option (D × List D), RW (match o with
              | some (r, ds') => .ok (.fz r) (δ1.set j (some (1, .lst ds')))
              | none => .stuck) QV E = (match o with
              | some (r, ds') => QV (.fz r) (δ1.set j (some (1, .lst ds')))
              | none => False) := fun o => by cases o <;> rfl
            exact key (lm ds as)
          | _ => rfl
        | n + 2, _ => rfl
theorem items_lst {xs : List D} : items (.lst xs) = some xs := rfl
theorem items_tup {xs : List D} : items (.tup xs) = some xs := rfl
theorem lm_app {ds : List D} {d : D} : lmApp ds [d] = if ds.length < sizeLine then some (.non, ds ++ [d]) else none := rfl
/-! lists joined, pairs -/
theorem RW_addL {xs ys : List D} : RW (opAdd (.fz (.lst xs)) (.fz (.lst ys)) δ) QV E = (xs.length + ys.length ≤ sizeLine ∧ QV (.fz (.lst (xs ++ ys))) δ) := by
  show RW (if xs.length + ys.length ≤ sizeLine then R.ok (.fz (.lst (xs ++ ys))) δ else .stuck) QV E = _
  by_cases h : xs.length + ys.length ≤ sizeLine
  · rw [if_pos h]; exact propext ⟨fun z => ⟨h, z⟩, fun z => z.2⟩
  · rw [if_neg h]; exact propext ⟨fun z => z.elim, fun z => (h z.1).elim⟩
theorem RW_addT {xs ys : List D} : RW (opAdd (.fz (.tup xs)) (.fz (.tup ys)) δ) QV E = (xs.length + ys.length ≤ sizeLine ∧ QV (.fz (.tup (xs ++ ys))) δ) := by
  show RW (if xs.length + ys.length ≤ sizeLine then R.ok (.fz (.tup (xs ++ ys))) δ else .stuck) QV E = _
  by_cases h : xs.length + ys.length ≤ sizeLine
  · rw [if_pos h]; exact propext ⟨fun z => ⟨h, z⟩, fun z => z.2⟩
  · rw [if_neg h]; exact propext ⟨fun z => z.elim, fun z => (h z.1).elim⟩
theorem RW_addS {xs ys : Str} : RW (opAdd (.fz (.str xs)) (.fz (.str ys)) δ) QV E = (xs.length + ys.length ≤ sizeLine ∧ QV (.fz (.str (xs ++ ys))) δ) := by
  show RW (if xs.length + ys.length ≤ sizeLine then R.ok (.fz (.str (xs ++ ys))) δ else .stuck) QV E = _
  by_cases h : xs.length + ys.length ≤ sizeLine
  · rw [if_pos h]; exact propext ⟨fun z => ⟨h, z⟩, fun z => z.2⟩
  · rw [if_neg h]; exact propext ⟨fun z => z.elim, fun z => (h z.1).elim⟩
theorem RW_iadd : RW (opIAdd (.fz (.int i)) (.fz (.int j)) δ) QV E = QV (.fz (.int (i + j))) δ := id rfl
theorem RW_gCat {a b : TD} : RW (gCat a b δ) QD E = RW (a δ) (fun x δ1 => RW (b δ1) (fun y δ2 => match dr δ2 x, dr δ2 y with
    | some (.lst xs), some (.lst ys) => xs.length + ys.length ≤ sizeLine ∧ QD (.lst (xs ++ ys)) δ2
    | _, _ => False) E) E := by
  unfold gCat; simp only [RW_bind]; congr 1; funext x δ1; congr 1; funext y δ2
  cases dr δ2 x with
  | none => rfl
  | some d =>
    cases dr δ2 y with
    | none => cases d <;> rfl
    | some e =>
      cases d with
      | lst xs =>
        cases e with
        | lst ys =>
          dsimp only
          by_cases h : xs.length + ys.length ≤ sizeLine
          · rw [if_pos h]; exact propext ⟨fun z => ⟨h, z⟩, fun z => z.2⟩
          · rw [if_neg h]; exact propext ⟨fun z => z.elim, fun z => (h z.1).elim⟩
        | _ => rfl
      | _ => rfl
theorem RW_gRep {a b : TD} : RW (gRep a b δ) QD E = RW (a δ) (fun x δ1 => RW (b δ1) (fun y δ2 => match dr δ2 x, dr δ2 y with
    | some (.lst xs), some (.int k) => (k.natAbs < 2 ^ 62 ∧ xs.length * k.toNat ≤ sizeLine) ∧ QD (.lst (List.replicate k.toNat xs).flatten) δ2
    | _, _ => False) E) E := by
  unfold gRep; simp only [RW_bind]; congr 1; funext x δ1; congr 1; funext y δ2
  cases dr δ2 x with
  | none => rfl
  | some d =>
    cases dr δ2 y with
    | none => cases d <;> rfl
    | some e =>
      cases d with
      | lst xs =>
        cases e with
        | int k =>
          dsimp only
          by_cases h : k.natAbs < 2 ^ 62 ∧ xs.length * k.toNat ≤ sizeLine
          · rw [if_pos h]; exact propext ⟨fun z => ⟨h, z⟩, fun z => z.2⟩
          · rw [if_neg h]; exact propext ⟨fun z => z.elim, fun z => (h z.1).elim⟩
        | _ => rfl
      | _ => rfl
theorem RW_gRev {a : TD} : RW (gRev a δ) QD E = RW (a δ) (fun x δ1 => match dr δ1 x with
    | some (.lst ds) => QD (.lst ds.reverse) δ1
    | _ => False) E := by
  unfold gRev; rw [RW_bind]; congr 1; funext x δ1
  cases dr δ1 x with
  | none => rfl
  | some d => cases d <;> rfl
theorem RW_zip {ta : TDA} : RW (iZp ta δ) QL E = RW (ta δ) (fun xs δ1 => match frzs δ1 xs with
    | some ([.lst ds, .lst es], δ2) => QL (zipD ds es) δ2
    | some ([.tup ds, .tup es], δ2) => QL (zipD ds es) δ2
    | _ => False) E := by
  unfold iZp; rw [RW_bind]; congr 1; funext xs δ1
  generalize frzs δ1 xs = o
  rcases o with _ | ⟨l, δ2⟩
  · rfl
  · match l with
    | [] => rfl
    | [a] => cases a <;> rfl
    | [a, b] => cases a <;> cases b <;> rfl
    | a :: b :: c :: r => cases a <;> cases b <;> rfl
theorem RW_enum {ta : TDA} : RW (iEn ta δ) QL E = RW (ta δ) (fun xs δ1 => match frzs δ1 xs with
    | some ([.lst ds], δ2) => QL (enumD 0 ds) δ2
    | _ => False) E := by
  unfold iEn; rw [RW_bind]; congr 1; funext xs δ1
  generalize frzs δ1 xs = o
  rcases o with _ | ⟨l, δ2⟩
  · rfl
  · match l with
    | [] => rfl
    | [a] => cases a <;> rfl
    | a :: b :: r => cases a <;> rfl
/-! comprehensions -/
theorem RW_comp {vs : List Nat} {t : Tgt} {i : TDI} {c : TDT} {e : TD} : RW (gComp vs t i c e δ) QD E = RW (i δ) (fun ds δ1 => RW (compF vs t c e ds [] (wipeD δ1 vs)) (fun acc δ2 => QD (.lst acc) (wipeD δ2 vs)) E) E := by
  unfold gComp; rw [RW_bind]; congr 1; funext ds δ1; rw [RW_bind]; rfl
theorem comp_inv {vs : List Nat} {t : Tgt} {c : TDT} {e : TD} (J : Nat → List D → DSt → Prop) : ∀ {ds : List D} {acc : List D} {δ : DSt} {k : Nat}, J k acc δ →
    (∀ (i : Nat) (d : D) (acc : List D) (δ : DSt), ds[i]? = some d → J (k + i) acc δ → ∃ δ1, setT t d δ = some δ1 ∧ RW (c δ1) (fun b δ2 => (b = true → RW (e δ2) (fun x δ3 => match frz δ3 x with
        | some (y, δ4) => acc.length < sizeLine ∧ J (k + i + 1) (acc ++ [y]) (wipeD δ4 vs)
        | none => False) (fun _ _ _ _ => False)) ∧ (b = false → J (k + i + 1) acc (wipeD δ2 vs))) (fun _ _ _ _ => False)) →
    (∀ acc δ, J (k + ds.length) acc δ → QL acc δ) → RW (compF vs t c e ds acc δ) QL E
  | [], acc, δ, k, h, _, q => q acc δ h
  | d :: ds, acc, δ, k, h, s, q => by
    obtain ⟨δ1, e1, w⟩ := s 0 d acc δ (by simp) (by simpa using h)
    have again : ∀ acc' δ', J (k + 1) acc' δ' → RW (compF vs t c e ds acc' δ') QL E := fun acc' δ' h' => comp_inv J (k := k + 1) h' (fun i d' a' δ'' hi hj => by
      have z := s (i + 1) d' a' δ'' (by simpa using hi) (by rw [show k + (i + 1) = k + 1 + i by omega]; exact hj)
      rw [show k + (i + 1) = k + 1 + i by omega] at z
      exact z) fun a' δ'' h'' => q a' δ'' (by rw [List.length_cons, show k + (ds.length + 1) = k + 1 + ds.length by omega]; exact h'')
    rw [show k + 0 + 1 = k + 1 by omega] at w
    unfold compF
    rw [e1]
    dsimp only
    revert w
    cases c δ1 with
    | exc _ _ _ _ => exact fun w => w.elim
    | stuck => exact fun w => w.elim
    | ok b δ2 =>
      intro w
      obtain ⟨w1, w2⟩ : (b = true → RW (e δ2) _ _) ∧ (b = false → J (k + 1) acc (wipeD δ2 vs)) := w
      cases b with
      | false => exact again _ _ (w2 rfl)
      | true =>
        have w3 := w1 rfl
        dsimp only
        revert w3
        cases e δ2 with
        | exc _ _ _ _ => exact fun w => w.elim
        | stuck => exact fun w => w.elim
        | ok x δ3 =>
          intro w3
          have w4 : (match frz δ3 x with
            | some (y, δ4) => acc.length < sizeLine ∧ J (k + 1) (acc ++ [y]) (wipeD δ4 vs)
            | none => False) := w3
          dsimp only
          revert w4
          cases frz δ3 x with
          | none => exact fun w => w.elim
          | some p =>
            dsimp only
            intro w4
            rw [if_pos w4.1]
            exact again _ _ w4.2
theorem RW_yes : RW (tYesD δ) QB E = QB true δ := rfl
/-! a def's call -/
theorem RW_eFn {modes : List Bool} {m : List D → FR} {ta : TDA} : RW (eFn modes m ta δ) QV E = RW (ta δ) (fun xs δ1 => RW (callF Vl.fz Vl.fz modes m xs δ1) QV E) E := by unfold eFn; rw [RW_bind]
theorem RW_gFn {modes : List Bool} {m : List D → FR} {ta : TDA} : RW (gFn modes m ta δ) QD E = RW (ta δ) (fun xs δ1 => RW (callF id id modes (noG m) xs δ1) QD E) E := by unfold gFn; rw [RW_bind]
theorem RW_call {f g : D → α} {modes : List Bool} {m : List D → FR} {xs : List Vl} : RW (callF f g modes m xs δ) Q E = (match bindA modes xs δ with
    | none => False
    | some δ1 => match argD δ1 modes xs with
      | none => False
      | some ds => ndup ((pairsA 0 modes xs).map (·.2)) = true ∧ MW (m ds) (fun r ms => match putM (pairsA 0 modes xs) ms δ1 with
          | some δ2 => Q (f r) δ2
          | none => False) (fun r ms => match putM (pairsA 0 modes xs) ms δ1 with
          | some δ2 => Q (g r) δ2
          | none => False) (fun c ns es ms => match putM (pairsA 0 modes xs) ms δ1 with
          | some δ2 => E c ns es δ2
          | none => False)) := by
  unfold callF
  cases bindA modes xs δ with
  | none => rfl
  | some δ1 =>
    dsimp only
    cases argD δ1 modes xs with
    | none => rfl
    | some ds =>
      dsimp only
      by_cases h : ndup ((pairsA 0 modes xs).map (·.2)) = true
      · rw [if_pos h]
        have e : ∀ P : Prop, (ndup ((pairsA 0 modes xs).map (·.2)) = true ∧ P) = P := fun P => propext ⟨fun z => z.2, fun z => ⟨h, z⟩⟩
        rw [e]
        simp only [MW_d]; unfold MW0
        cases m ds with
        | stuck => rfl
        | ok r ms => dsimp only; cases putM (pairsA 0 modes xs) ms δ1 <;> rfl
        | rg r ms => dsimp only; cases putM (pairsA 0 modes xs) ms δ1 <;> rfl
        | exc c ns es ms => dsimp only; cases putM (pairsA 0 modes xs) ms δ1 <;> rfl
      · rw [if_neg h]; exact propext ⟨fun z => z.elim, fun z => (h z.1).elim⟩
theorem MW_noG {m : List D → FR} {ds : List D} {Q G : D → List D → Prop} {E : Str → List Str → List D → List D → Prop} (h : MW (m ds) (fun _ _ => False) G E) : MW (noG m ds) Q G E := by
  simp only [MW_d] at h ⊢
  unfold MW0 at h ⊢
  unfold noG
  revert h
  cases m ds <;> exact id
/-! statements -/
variable {nx : DSt → Prop} {rt : Vl → DSt → Prop} {rg : D → DSt → Prop} {bk ct : DSt → Prop} {ex : XE}
theorem FW_fl {r : R α} {f : α → DSt → Fl} : FW (r.fl f) nx rt rg bk ct ex = RW r (fun a δ1 => FW (f a δ1) nx rt rg bk ct ex) ex := by cases r <;> rfl
theorem FW_nx : FW (.nx δ) nx rt rg bk ct ex = nx δ := id rfl
theorem FW_nil : FW (sNil δ) nx rt rg bk ct ex = nx δ := id rfl
theorem FW_break : FW (sBreak δ) nx rt rg bk ct ex = bk δ := id rfl
theorem FW_cont : FW (sCont δ) nx rt rg bk ct ex = ct δ := id rfl
/-- not yet looked at -/
structure LZ (t : TDS) (δ : DSt) (nx : DSt → Prop) (rt : Vl → DSt → Prop) (rg : D → DSt → Prop) (bk ct : DSt → Prop) (ex : XE) : Prop where
  h : FW (t δ) nx rt rg bk ct ex
theorem LZ_eq {t : TDS} : LZ t δ nx rt rg bk ct ex = FW (t δ) nx rt rg bk ct ex := propext ⟨fun z => z.h, fun z => ⟨z⟩⟩
theorem LZ_in {t : TDS} (h : FW (t δ) nx rt rg bk ct ex) : LZ t δ nx rt rg bk ct ex := ⟨h⟩
/-- a place between two statements -/
theorem LZ_cut {t u : TDS} (J : DSt → Prop) (h1 : LZ t δ J rt rg bk ct ex) (h2 : ∀ δ1, J δ1 → LZ u δ1 nx rt rg bk ct ex) : LZ (sSeq t u) δ nx rt rg bk ct ex := by
  simp only [LZ_eq] at h1 h2 ⊢
  unfold sSeq
  revert h1
  cases t δ with
  | nx δ1 => exact fun h => h2 δ1 h
  | _ => exact id
theorem LZ_out {t : TDS} (h : LZ t δ nx rt rg bk ct ex) : FW (t δ) nx rt rg bk ct ex := h.h
theorem FW_seq {t u : TDS} : FW (sSeq t u δ) nx rt rg bk ct ex = FW (t δ) (fun δ1 => LZ u δ1 nx rt rg bk ct ex) rt rg bk ct ex := by
  simp only [LZ_eq]; unfold sSeq; cases t δ <;> rfl
theorem FW_if {c : TDT} {t u : TDS} : FW (sIf c t u δ) nx rt rg bk ct ex = RW (c δ) (fun b δ1 => (b = true → LZ t δ1 nx rt rg bk ct ex) ∧ (b = false → LZ u δ1 nx rt rg bk ct ex)) ex := by
  simp only [LZ_eq]; unfold sIf; rw [FW_fl]; congr 1; funext b δ1; cases b <;> simp
theorem FW_expr {t : TD} : FW (sExpr t δ) nx rt rg bk ct ex = RW (t δ) (fun _ δ1 => nx δ1) ex := by unfold sExpr; rw [FW_fl]; rfl
theorem FW_ret {t : TD} : FW (sRet t δ) nx rt rg bk ct ex = RW (t δ) rt ex := by unfold sRet; rw [FW_fl]; rfl
theorem FW_retG {t : TDG} : FW (sRetG t δ) nx rt rg bk ct ex = RW (t δ) rg ex := by unfold sRetG; rw [FW_fl]; rfl
theorem FW_retN : FW (sRetN δ) nx rt rg bk ct ex = rt (.fz .non) δ := id rfl
theorem FW_put {i : Nat} {x : Vl} : FW (putF i x δ) nx rt rg bk ct ex = (match frz δ x with
    | some (d, δ1) => nx (δ1.set i (some (0, d)))
    | none => False) := by unfold putF; cases frz δ x <;> rfl
theorem FW_asg {i : Nat} {t : TD} : FW (sAsg i t δ) nx rt rg bk ct ex = RW (t δ) (fun x δ1 => match frz δ1 x with
    | some (d, δ2) => nx (δ2.set i (some (0, d)))
    | none => False) ex := by unfold sAsg; rw [FW_fl]; simp only [FW_put]
theorem FW_asgG {i : Nat} {t : TDG} : FW (sAsgG i t δ) nx rt rg bk ct ex = RW (t δ) (fun d δ1 => nx (δ1.set i (some (1, d)))) ex := by unfold sAsgG; rw [FW_fl]; rfl
theorem FW_asgT {g : Tgt} {t : TD} : FW (sAsgT g t δ) nx rt rg bk ct ex = RW (t δ) (fun x δ1 => match frz δ1 x with
    | some (d, δ2) => (match setT g d δ2 with
      | some δ3 => nx δ3
      | none => False)
    | none => False) ex := by
  unfold sAsgT; rw [FW_fl]; congr 1; funext x δ1
  cases frz δ1 x with
  | none => rfl
  | some p => dsimp only; cases setT g p.1 p.2 <;> rfl
theorem FW_par {i j : Nat} {ta tb : TD} : FW (sPar2 i j ta tb δ) nx rt rg bk ct ex = RW (ta δ) (fun x δ1 => RW (tb δ1) (fun y δ2 => match frzs δ2 [x, y] with
    | some ([d, e], δ3) => nx ((δ3.set i (some (0, d))).set j (some (0, e)))
    | _ => False) ex) ex := by
  unfold sPar2; rw [FW_fl, RW_aCons]; congr 1; funext x δ1; rw [RW_aCons]; congr 1; funext y δ2
  show FW (match frzs δ2 [x, y] with
    | some ([d, e], δ3) => Fl.nx ((δ3.set i (some (0, d))).set j (some (0, e)))
    | _ => .stuck) nx rt rg bk ct ex = _
  split <;> rfl
theorem FW_sub {tv to ti : TD} : FW (sSub tv to ti δ) nx rt rg bk ct ex = RW (tv δ) (fun x δ1 => RW (to δ1) (fun o δ2 => RW (ti δ2) (fun i δ3 => FW (storeF o i x δ3) nx rt rg bk ct ex) ex) ex) ex := by
  unfold sSub; simp only [FW_fl]
theorem FW_store {j : Nat} {i x : Vl} : FW (storeF (.sl j) i x δ) nx rt rg bk ct ex = (match frz δ x with
    | some (d, δ1) => (match stF j d i δ1 with
      | some δ2 => nx δ2
      | none => False)
    | none => False) := by
  unfold storeF
  cases frz δ x with
  | none => rfl
  | some p => dsimp only; cases stF j p.1 i p.2 <;> rfl
theorem FW_aug {i : Nat} {f : Vl → Vl → DSt → R Vl} {te : TD} : FW (sAug i f te δ) nx rt rg bk ct ex = RW (eVar i δ) (fun x δ1 => RW (te δ1) (fun y δ2 => RW (f x y δ2) (fun z δ3 => FW (putF i z δ3) nx rt rg bk ct ex) ex) ex) ex := by
  unfold sAug; simp only [FW_fl]
theorem FW_raise {c : Str} {fs : List Str} {ta : TDA} : FW (sRaise c fs ta δ) nx rt rg bk ct ex = RW (ta δ) (fun xs δ1 => match frzs δ1 xs with
    | some (ds, δ2) => (ds.length = fs.length ∧ ds.length ≤ 1000) ∧ ex c fs.reverse ds.reverse δ2
    | none => False) ex := by
  unfold sRaise; rw [FW_fl]; congr 1; funext xs δ1
  cases frzs δ1 xs with
  | none => rfl
  | some p =>
    obtain ⟨ds, δ2⟩ := p
    dsimp only
    by_cases h : ds.length = fs.length ∧ ds.length ≤ 1000
    · rw [if_pos h]; exact propext ⟨fun z => ⟨h, z⟩, fun z => z.2⟩
    · rw [if_neg h]; exact propext ⟨fun z => z.elim, fun z => (h z.1).elim⟩
theorem FW_for {t : Tgt} {i : TDI} {b : TDS} : FW (sFor t i b δ) nx rt rg bk ct ex = RW (i δ) (fun ds δ1 => LZ (forF t b ds) δ1 nx rt rg bk ct ex) ex := by simp only [LZ_eq]; unfold sFor; rw [FW_fl]
theorem FW_forN {t : Tgt} {b : TDS} : FW (forF t b [] δ) nx rt rg bk ct ex = nx δ := id rfl
theorem FW_forC {t : Tgt} {b : TDS} {d : D} {ds : List D} : FW (forF t b (d :: ds) δ) nx rt rg bk ct ex = (match setT t d δ with
    | some δ1 => LZ b δ1 (fun δ2 => LZ (forF t b ds) δ2 nx rt rg bk ct ex) rt rg nx (fun δ2 => LZ (forF t b ds) δ2 nx rt rg bk ct ex) ex
    | none => False) := by
  rw [forF]; simp only [LZ_eq]
  cases setT t d δ with
  | none => rfl
  | some δ1 => dsimp only; cases b δ1 <;> rfl
/-- a loop by an invariant over the items that are left -/
theorem FW_inv {t : Tgt} {b : TDS} (J : Nat → DSt → Prop) : ∀ {ds : List D} {δ : DSt} {k : Nat}, J k δ → (∀ (i : Nat) (d : D) (δ : DSt), ds[i]? = some d → J (k + i) δ → ∃ δ1, setT t d δ = some δ1 ∧ LZ b δ1 (J (k + i + 1)) rt rg nx (J (k + i + 1)) ex) → (∀ δ, J (k + ds.length) δ → nx δ) → LZ (forF t b ds) δ nx rt rg bk ct ex
  | [], δ, k, h, _, q => LZ_in (by rw [FW_forN]; exact q δ h)
  | d :: ds, δ, k, h, s, q => by
    refine LZ_in ?_
    rw [FW_forC]
    obtain ⟨δ1, e, w⟩ := s 0 d δ (by simp) (by simpa using h)
    rw [e]
    dsimp only
    simp only [LZ_eq] at w ⊢
    have again : ∀ δ2, J (k + 1) δ2 → FW (forF t b ds δ2) nx rt rg bk ct ex := fun δ2 h2 => LZ_out <| FW_inv J (k := k + 1) h2 (fun i d' δ' hi hj => by
      have z := s (i + 1) d' δ' (by simpa using hi) (by rw [show k + (i + 1) = k + 1 + i by omega]; exact hj)
      rw [show k + (i + 1) = k + 1 + i by omega] at z
      exact z) fun δ' h' => q δ' (by rw [List.length_cons, show k + (ds.length + 1) = k + 1 + ds.length by omega]; exact h')
    revert w
    rw [show k + 0 + 1 = k + 1 by omega]
    cases b δ1 with
    | nx δ2 => exact fun w => again δ2 w
    | ct δ2 => exact fun w => again δ2 w
    | bk δ2 => exact id
    | rt x δ2 => exact id
    | rg x δ2 => exact id
    | ex c ns ds δ2 => exact id
    | stuck => exact id
theorem RW_rng1 {ta : TDA} : RW (iRng rngF1 ta δ) QL E = RW (ta δ) (fun xs δ1 => match (ints2 δ1 xs).bind rngF1 with
    | some ds => QL ds δ1
    | none => False) E := by
  unfold iRng; rw [RW_bind]; congr 1; funext xs δ1; cases (ints2 δ1 xs).bind rngF1 <;> rfl
theorem RW_rng2 {ta : TDA} : RW (iRng rngF2 ta δ) QL E = RW (ta δ) (fun xs δ1 => match (ints2 δ1 xs).bind rngF2 with
    | some ds => QL ds δ1
    | none => False) E := by
  unfold iRng; rw [RW_bind]; congr 1; funext xs δ1; cases (ints2 δ1 xs).bind rngF2 <;> rfl
theorem rng1_int {j : Int} : (ints2 δ [.fz (.int j)]).bind rngF1 = if smallI j then some (rangeD 0 j) else none := id rfl
theorem RW_seq {t : TD} : RW (iSeq t δ) QL E = RW (t δ) (fun x δ1 => match frz δ1 x with
    | some (d, δ2) => (match items d with
      | some ds => QL ds δ2
      | none => False)
    | none => False) E := by
  unfold iSeq; rw [RW_bind]; congr 1; funext x δ1
  cases frz δ1 x with
  | none => rfl
  | some p => dsimp only; cases items p.1 <;> rfl
/-! a while loop: by induction over what is left -/
theorem FW_while {fuel : DSt → Nat} {c : TDT} {b : TDS} : FW (sWhile fuel c b δ) nx rt rg bk ct ex = FW (whF c b (fuel δ) δ) nx rt rg bk ct ex := id rfl
theorem FW_wh {n : Nat} {c : TDT} {b : TDS} : FW (whF c b (n + 1) δ) nx rt rg bk ct ex = RW (c δ) (fun k δ1 => (k = true → LZ b δ1 (fun δ2 => LZ (whF c b n) δ2 nx rt rg bk ct ex) rt rg nx (fun δ2 => LZ (whF c b n) δ2 nx rt rg bk ct ex) ex) ∧ (k = false → nx δ1)) ex := by
  simp only [LZ_eq]; rw [whF, FW_fl]; congr 1; funext k δ1
  cases k with
  | false => simp [FW_nx]
  | true =>
    simp only [if_true, forall_const, Bool.true_eq_false, false_implies, and_true]
    cases b δ1 <;> rfl
/-! try -/
theorem FW_try {cs : List Str} {ks : List Nat} {i : Nat} {tb ts : TDS} : FW (sTry cs ks i tb ts δ) nx rt rg bk ct ex = FW (tb δ) nx rt rg bk ct (fun c ns ds δ1 => cs.contains c = true ∧ plainL ds = true ∧ LZ ts ((keepP ks 0 δ1).set i (some (0, .exc c ns ds))) (fun δ2 => nx (δ2.set i none)) rt rg (fun δ2 => bk (δ2.set i none)) (fun δ2 => ct (δ2.set i none)) (fun _ _ _ _ => False)) := by
  simp only [LZ_eq]
  unfold sTry
  cases tb δ with
  | ex c ns ds δ1 =>
    show FW (if cs.contains c && plainL ds then suF i (ts ((keepP ks 0 δ1).set i (some (0, .exc c ns ds)))) else .stuck) nx rt rg bk ct ex = _
    by_cases h : (cs.contains c && plainL ds) = true
    · rw [if_pos h]
      obtain ⟨h1, h2⟩ := Bool.and_eq_true_iff.mp h
      have e : ∀ P : Prop, (cs.contains c = true ∧ plainL ds = true ∧ P) = P := fun P => propext ⟨fun z => z.2.2, fun z => ⟨h1, h2, z⟩⟩
      show _ = (cs.contains c = true ∧ plainL ds = true ∧ _)
      rw [e]
      cases ts ((keepP ks 0 δ1).set i (some (0, .exc c ns ds))) <;> rfl
    · rw [if_neg h]
      exact propext ⟨fun z => z.elim, fun z => (h (Bool.and_eq_true_iff.mpr ⟨z.1, z.2.1⟩)).elim⟩
  | _ => rfl
/-! the def's end -/
theorem MW_run {modes : List Bool} {n : Nat} {t : TDS} {ds : List D} {Q G : D → List D → Prop} {E : Str → List Str → List D → List D → Prop} (h : LZ t (startD modes n ds) (fun δ => match mutsD δ (mutIdx 0 modes) with
      | some ms => Q .non ms
      | none => False) (fun x δ => match frz δ x with
      | some (d, δ1) => (match mutsD δ1 (mutIdx 0 modes) with
        | some ms => Q d ms
        | none => False)
      | none => False) (fun d δ => match mutsD δ (mutIdx 0 modes) with
      | some ms => G d ms
      | none => False) (fun _ => False) (fun _ => False) (fun c ns es δ => match mutsD δ (mutIdx 0 modes) with
      | some ms => E c ns es ms
      | none => False)) : MW (runB modes n t ds) Q G E := by
  simp only [MW_d]
  unfold MW0 runB fin
  simp only [LZ_eq] at h
  revert h
  cases t (startD modes n ds) with
  | nx δ => dsimp only [FW]; cases mutsD δ (mutIdx 0 modes) <;> exact id
  | rt x δ =>
    dsimp only [FW]
    cases frz δ x with
    | none => exact id
    | some p => dsimp only; cases mutsD p.2 (mutIdx 0 modes) <;> exact id
  | rg x δ => dsimp only [FW]; cases mutsD δ (mutIdx 0 modes) <;> exact id
  | ex c ns es δ => dsimp only [FW]; cases mutsD δ (mutIdx 0 modes) <;> exact id
  | bk δ => exact id
  | ct δ => exact id
  | stuck => exact id
theorem MW_ok {r : FR} {Q G : D → List D → Prop} {E : Str → List Str → List D → List D → Prop} {d : D} {ms : List D} (h : r = .ok d ms) (q : Q d ms) : MW r Q G E := by simp only [MW_d]; unfold MW0; rw [h]; exact q
theorem MW_eq {r : FR} {d : D} {ms : List D} (h : MW r (fun d' ms' => d' = d ∧ ms' = ms) (fun _ _ => False) (fun _ _ _ _ => False)) : r = .ok d ms := by
  simp only [MW_d] at h
  unfold MW0 at h
  cases r with
  | ok a b => obtain ⟨rfl, rfl⟩ := h; rfl
  | rg a b => exact h.elim
  | exc a b c d => exact h.elim
  | stuck => exact h.elim
theorem MW_imp {r : FR} {Q G Q' G' : D → List D → Prop} {E E' : Str → List Str → List D → List D → Prop} (h : MW r Q G E) (h1 : ∀ d ms, Q d ms → Q' d ms) (h2 : ∀ d ms, G d ms → G' d ms) (h3 : ∀ c ns es ms, E c ns es ms → E' c ns es ms) : MW r Q' G' E' := by
  simp only [MW_d] at h ⊢
  unfold MW0 at h ⊢
  cases r with
  | ok a b => exact h1 _ _ h
  | rg a b => exact h2 _ _ h
  | exc a b c d => exact h3 _ _ _ _ h
  | stuck => exact h.elim
end
theorem rangeD_len {a b : Int} : (rangeD a b).length = (b - a).toNat := by unfold rangeD; simp
theorem rangeD_at {a b : Int} {i : Nat} {d : D} (h : (rangeD a b)[i]? = some d) : d = .int (a + (i : Int)) ∧ (i : Int) < b - a := by
  unfold rangeD at h
  rw [List.getElem?_map] at h
  cases q : (List.range (b - a).toNat)[i]? with
  | none => rw [q] at h; cases h
  | some k =>
    rw [q] at h
    obtain ⟨h1, h2⟩ := List.getElem?_eq_some_iff.mp q
    simp only [List.length_range] at h1
    simp only [List.getElem_range] at h2
    subst h2
    cases h
    exact ⟨rfl, by omega⟩
/-! sizes -/
def sm (x : Int) : Prop := x.natAbs < 2 ^ 6000
theorem sm_bits {x : Int} (h : sm x) : Builtin.Int.intBits x ≤ 6000 := by
  unfold Builtin.Int.intBits
  split
  · omega
  · rename_i hx
    have hne : x.natAbs ≠ 0 := by
      intro z
      apply hx
      rw [Int.natAbs_eq_zero.mp z] <;> rfl
    have := (Nat.log2_lt hne).mpr h
    omega
theorem sm_mul {i j : Int} (h1 : sm i) (h2 : sm j) : mulOk i j = true := by
  have a := sm_bits h1
  have b := sm_bits h2
  unfold mulOk
  exact decide_eq_true (by omega)
theorem sm_div {i j : Int} (h0 : 0 < j) (h2 : sm j) : divOk i j = true := by
  unfold divOk
  rw [Bool.and_eq_true]
  refine ⟨decide_eq_true h0, decide_eq_true ?_⟩
  have hne : j.natAbs ≠ 0 := by omega
  have := (Nat.log2_lt hne).mpr h2
  omega
theorem sm_le {x y : Int} (h : sm y) (h0 : -y ≤ x) (h1 : x ≤ y) : sm x := by
  unfold sm at *
  omega
theorem sm_k : sm (10 ^ 900) := by
  unfold sm
  decide +kernel
theorem sm_100 {x : Int} (h0 : -(10 ^ 100) ≤ x) (h1 : x ≤ 10 ^ 100) : sm x := by
  refine sm_le sm_k ?_ ?_
  · exact Int.le_trans (by decide +kernel) h0
  · exact Int.le_trans h1 (by decide +kernel)
theorem sm_800 {x : Int} (h0 : 0 ≤ x) (h1 : x ≤ 10 ^ 900) : sm x := sm_le sm_k (Int.le_trans (by decide +kernel) h0) h1
theorem startD_eq {modes : List Bool} {n : Nat} {ds : List D} : startD modes n ds = startA modes ds ++ List.replicate n none := id rfl
theorem setT_nm {i : Nat} {d : D} {δ : DSt} : setT (.nm i) d δ = some (δ.set i (some (0, d))) := id rfl
theorem setT_tp {is : List Nat} {ds : List D} {δ : DSt} : setT (.tp is) (.tup ds) δ = setN is ds δ := id rfl
theorem setN_nil {δ : DSt} : setN [] [] δ = some δ := id rfl
theorem setN_cons {i : Nat} {is : List Nat} {d : D} {ds : List D} {δ : DSt} : setN (i :: is) (d :: ds) δ = setN is ds (δ.set i (some (0, d))) := id rfl
end DL

set_option Elab.async false
set_option linter.all false
set_option maxRecDepth 10000
namespace DL
open PySem L2
/-! == of rows of ints -/
theorem ints_lay : ∀ ns : List Int, PyData.canLayAll0 (toPyL (ns.map D.int)) = true
  | [] => by simp only [List.map_nil, toPyL, PyData.canLayAll0]
  | n :: ns => by
    simp only [List.map_cons, toPyL, toPy, PyData.canLayAll0, PyData.canLay0, Bool.true_and]
    exact ints_lay ns
theorem ints_dep : ∀ ns : List Int, PyData.depthAll (toPyL (ns.map D.int)) = 0
  | [] => by simp only [List.map_nil, toPyL, PyData.depthAll]
  | n :: ns => by
    simp only [List.map_cons, toPyL, toPy, PyData.depthAll, PyData.depth]
    rw [ints_dep ns]
    rfl
theorem ints_eqv : ∀ ns ms : List Int, PyData.eqvAll (toPyL (ns.map D.int)) (toPyL (ms.map D.int)) = decide (ns = ms)
  | [], [] => by simp [toPyL, PyData.eqvAll]
  | [], m :: ms => by simp [toPyL, PyData.eqvAll]
  | n :: ns, [] => by simp [toPyL, PyData.eqvAll]
  | n :: ns, m :: ms => by
    simp only [List.map_cons, toPyL, toPy, PyData.eqvAll, PyData.eqv]
    rw [ints_eqv ns ms]
    by_cases h : n = m <;> by_cases h2 : ns = ms <;> simp [h, h2]
theorem eqD_tupI (ns ms : List Int) : eqD (.tup (ns.map D.int)) (.tup (ms.map D.int)) = some (decide (ns = ms)) := by
  unfold eqD
  have e : eqS (.tup (ns.map D.int)) (.tup (ms.map D.int)) = none := rfl
  rw [e]
  dsimp only
  have sh : ∀ l : List Int, SeqAt.shaped (toPy (.tup (l.map D.int))) = true := fun l => by
    unfold SeqAt.shaped
    simp only [toPy, PyData.canLay0, PyData.depth, ints_lay, ints_dep]
    rfl
  rw [sh, sh]
  simp only [Bool.and_self, if_true, toPy, PyData.eqv, ints_eqv]
theorem eqD_lstI (ns ms : List Int) : eqD (.lst (ns.map D.int)) (.lst (ms.map D.int)) = some (decide (ns = ms)) := by
  unfold eqD
  have e : eqS (.lst (ns.map D.int)) (.lst (ms.map D.int)) = none := rfl
  rw [e]
  dsimp only
  have sh : ∀ l : List Int, SeqAt.shaped (toPy (.lst (l.map D.int))) = true := fun l => by
    unfold SeqAt.shaped
    simp only [toPy, PyData.canLay0, PyData.depth, ints_lay, ints_dep]
    rfl
  rw [sh, sh]
  simp only [Bool.and_self, if_true, toPy, PyData.eqv, ints_eqv]
end DL

set_option Elab.async false
set_option linter.all false
set_option maxRecDepth 10000
namespace Comb
/-! ### factorials, ways -/
def fct : Nat → Nat
  | 0 => 1
  | n + 1 => (n + 1) * fct n
def chs : Nat → Nat → Nat
  | _, 0 => 1
  | 0, _ + 1 => 0
  | n + 1, k + 1 => chs n k + chs n (k + 1)
theorem fct_pos : ∀ n, 0 < fct n
  | 0 => by decide
  | n + 1 => Nat.mul_pos (Nat.succ_pos n) (fct_pos n)
theorem chs_zero (n : Nat) : chs n 0 = 1 := by cases n <;> rfl
theorem chs_gt : ∀ {n k : Nat}, n < k → chs n k = 0
  | n, 0, h => by omega
  | 0, k + 1, _ => rfl
  | n + 1, k + 1, h => by
    show chs n k + chs n (k + 1) = 0
    rw [chs_gt (by omega), chs_gt (by omega)]
theorem chs_self : ∀ n : Nat, chs n n = 1
  | 0 => rfl
  | n + 1 => by
    show chs n n + chs n (n + 1) = 1
    rw [chs_self n, chs_gt (by omega)]
theorem chs_fct : ∀ (s a b : Nat), a + b = s → chs (a + b) a * fct a * fct b = fct (a + b)
  | s, 0, b, h => by
    rw [chs_zero, Nat.zero_add]
    show 1 * 1 * fct b = fct b
    omega
  | s, a + 1, 0, h => by
    rw [Nat.add_zero, chs_self]
    show 1 * fct (a + 1) * 1 = fct (a + 1)
    omega
  | 0, a + 1, b + 1, h => by omega
  | s + 1, a + 1, b + 1, h => by
    have e1 := chs_fct s a (b + 1) (by omega)
    have e2 := chs_fct s (a + 1) b (by omega)
    have e3 : a + 1 + (b + 1) = (a + (b + 1)) + 1 := by omega
    have e4 : a + 1 + b = a + (b + 1) := by omega
    rw [e3]
    show (chs (a + (b + 1)) a + chs (a + (b + 1)) (a + 1)) * fct (a + 1) * fct (b + 1) = (a + (b + 1) + 1) * fct (a + (b + 1))
    rw [e4] at e2
    have f1 : fct (a + 1) = (a + 1) * fct a := rfl
    have f2 : fct (b + 1) = (b + 1) * fct b := rfl
    have t1 : chs (a + (b + 1)) a * fct (a + 1) * fct (b + 1) = (a + 1) * fct (a + (b + 1)) := by
      rw [← e1, f1]; grind
    have t2 : chs (a + (b + 1)) (a + 1) * fct (a + 1) * fct (b + 1) = (b + 1) * fct (a + (b + 1)) := by
      rw [← e2, f2]; grind
    rw [Nat.add_mul, Nat.add_mul, t1, t2]
    grind
theorem chs_f {n k : Nat} (h : k ≤ n) : chs n k * fct k * fct (n - k) = fct n := by
  have z := chs_fct n k (n - k) (by omega)
  rwa [show k + (n - k) = n by omega] at z
theorem chs_sym {n k : Nat} (h : k ≤ n) : chs n (n - k) = chs n k := by
  have a := chs_f h
  have b := chs_f (n := n) (k := n - k) (by omega)
  rw [show n - (n - k) = k by omega] at b
  have p : 0 < fct k * fct (n - k) := Nat.mul_pos (fct_pos _) (fct_pos _)
  refine Nat.eq_of_mul_eq_mul_right p ?_
  calc chs n (n - k) * (fct k * fct (n - k)) = chs n (n - k) * fct (n - k) * fct k := by grind
    _ = chs n k * fct k * fct (n - k) := by rw [a, b]
    _ = chs n k * (fct k * fct (n - k)) := by grind
theorem chs_step {n j : Nat} (h : j < n) : chs n j * (n - j) = chs n (j + 1) * (j + 1) := by
  have a := chs_f (n := n) (k := j) (by omega)
  have b := chs_f (n := n) (k := j + 1) (by omega)
  obtain ⟨m, hm⟩ : ∃ m, n - j = m + 1 := ⟨n - j - 1, by omega⟩
  have e : n - (j + 1) = m := by omega
  rw [hm] at a ⊢
  rw [e] at b
  have f1 : fct (j + 1) = (j + 1) * fct j := rfl
  have f2 : fct (m + 1) = (m + 1) * fct m := rfl
  rw [f1] at b
  rw [f2] at a
  have p : 0 < fct j * fct m := Nat.mul_pos (fct_pos _) (fct_pos _)
  refine Nat.eq_of_mul_eq_mul_right p ?_
  calc chs n j * (m + 1) * (fct j * fct m) = chs n j * fct j * ((m + 1) * fct m) := by grind
    _ = chs n (j + 1) * ((j + 1) * fct j) * fct m := by rw [a, b]
    _ = chs n (j + 1) * (j + 1) * (fct j * fct m) := by grind
theorem chs_le : ∀ n k : Nat, chs n k ≤ 2 ^ n
  | n, 0 => by rw [chs_zero]; exact Nat.pos_of_ne_zero (by simp)
  | 0, k + 1 => by show 0 ≤ _; omega
  | n + 1, k + 1 => by
    have a := chs_le n k
    have b := chs_le n (k + 1)
    show chs n k + chs n (k + 1) ≤ 2 ^ (n + 1)
    rw [Nat.pow_succ]
    omega
theorem fct_le : ∀ n m : Nat, n ≤ m → fct n ≤ m ^ n
  | 0, m, _ => by show 1 ≤ m ^ 0; simp
  | n + 1, m, h => by
    have a := fct_le n m (by omega)
    show (n + 1) * fct n ≤ m ^ (n + 1)
    rw [Nat.pow_succ, Nat.mul_comm]
    exact Nat.mul_le_mul a h
/-- with k any integer -/
def wI (n : Nat) (k : Int) : Int := if k < 0 then 0 else (chs n k.toNat : Nat)
theorem wI_pascal (n : Nat) (k : Int) : wI n (k - 1) + wI n k = wI (n + 1) k := by
  unfold wI
  by_cases h : k < 0
  · rw [if_pos h, if_pos h, if_pos (by omega)]; rfl
  · by_cases h0 : k = 0
    · subst h0
      rw [if_pos (by omega), if_neg (by omega), if_neg (by omega)]
      show (0 : Int) + ((chs n 0 : Nat) : Int) = ((chs (n + 1) 0 : Nat) : Int)
      rw [chs_zero, chs_zero]; rfl
    · rw [if_neg (by omega), if_neg h, if_neg h]
      obtain ⟨j, hj⟩ : ∃ j, k.toNat = j + 1 := ⟨k.toNat - 1, by omega⟩
      rw [show (k - 1).toNat = j by omega, hj]
      show ((chs n j : Nat) : Int) + ((chs n (j + 1) : Nat) : Int) = ((chs n j + chs n (j + 1) : Nat) : Int)
      omega
theorem wI_nonneg (n : Nat) (k : Int) : 0 ≤ wI n k := by
  unfold wI
  split
  · exact Int.le_refl _
  · exact Int.natCast_nonneg _
end Comb

set_option Elab.async false
set_option linter.all false
set_option maxRecDepth 10000
namespace Comb
/-! ### rows of cycle counts -/
def crow : Nat → List Nat
  | 0 => [1]
  | t + 1 => List.zipWith (· + ·) (0 :: crow t) ((crow t).map (t * ·) ++ [0])
/-- the row as a polynomial -/
def pol (x : Nat) : List Nat → Nat
  | [] => 0
  | a :: r => a + x * pol x r
def rise (x : Nat) : Nat → Nat
  | 0 => 1
  | r + 1 => rise x r * (x + r)
theorem pol_zip (x : Nat) : ∀ {a b : List Nat}, a.length = b.length → pol x (List.zipWith (· + ·) a b) = pol x a + pol x b
  | [], [], _ => rfl
  | u :: a, v :: b, h => by
    rw [List.zipWith_cons_cons]
    show (u + v) + x * pol x (List.zipWith (· + ·) a b) = (u + x * pol x a) + (v + x * pol x b)
    rw [pol_zip x (by simpa using h)]
    grind
  | [], _ :: _, h => by simp at h
  | _ :: _, [], h => by simp at h
theorem pol_map (x t : Nat) : ∀ a : List Nat, pol x (a.map (t * ·) ++ [0]) = t * pol x a
  | [] => by show 0 + x * 0 = t * 0; omega
  | u :: a => by
    show t * u + x * pol x (a.map (t * ·) ++ [0]) = t * (u + x * pol x a)
    rw [pol_map x t a]
    grind
theorem crow_len : ∀ r, (crow r).length = r + 1
  | 0 => rfl
  | r + 1 => by
    unfold crow
    rw [List.length_zipWith, List.length_cons, List.length_append, List.length_map, crow_len r]
    simp
theorem pol_crow (x : Nat) : ∀ r, pol x (crow r) = rise x r
  | 0 => by show 1 + x * 0 = 1; omega
  | r + 1 => by
    unfold crow
    rw [pol_zip x (by rw [List.length_cons, List.length_append, List.length_map]; rfl), pol_map, pol_crow x r]
    show 0 + x * pol x (crow r) + r * rise x r = rise x r * (x + r)
    rw [pol_crow x r]
    grind
theorem rise_one : ∀ r, rise 1 r = fct r
  | 0 => rfl
  | r + 1 => by
    show rise 1 r * (1 + r) = (r + 1) * fct r
    rw [rise_one r]
    grind
theorem pol_one : ∀ a : List Nat, pol 1 a = a.sum
  | [] => rfl
  | u :: a => by
    show u + 1 * pol 1 a = (u :: a).sum
    rw [pol_one a, List.sum_cons]
    omega
theorem crow_sum (r : Nat) : (crow r).sum = fct r := by rw [← pol_one, pol_crow, rise_one]
theorem mem_le_sum : ∀ {a : List Nat} {x : Nat}, x ∈ a → x ≤ a.sum
  | u :: a, x, h => by
    rw [List.sum_cons]
    rcases List.mem_cons.mp h with rfl | h
    · omega
    · have := mem_le_sum h
      omega
theorem crow_step {r j : Nat} (h0 : 1 ≤ j) (h1 : j ≤ r) : ∃ a b c, (crow (r + 1))[j]? = some a ∧ (crow r)[j - 1]? = some b ∧ (crow r)[j]? = some c ∧ a = b + r * c := by
  have l := crow_len r
  obtain ⟨i, rfl⟩ : ∃ i, j = i + 1 := ⟨j - 1, by omega⟩
  have hb : (crow r)[i]? = some ((crow r)[i]'(by omega)) := List.getElem?_eq_getElem (by omega)
  have hc : (crow r)[i + 1]? = some ((crow r)[i + 1]'(by omega)) := List.getElem?_eq_getElem (by omega)
  refine ⟨_, _, _, ?_, hb, hc, rfl⟩
  show (List.zipWith (· + ·) (0 :: crow r) ((crow r).map (r * ·) ++ [0]))[i + 1]? = _
  rw [List.getElem?_zipWith, List.getElem?_cons_succ, hb, List.getElem?_append_left (by rw [List.length_map]; omega), List.getElem?_map, hc]
  rfl
end Comb

set_option Elab.async false
set_option linter.all false
set_option maxRecDepth 100000
namespace LK
open PySem PySem.Spec PyProof.Rows L2 DL
def top (i : Nat) : Stmt := PySem.Challenge.pw_lastslips_k03_ways_and_arrangements.main.body.getD i (.Pass ⟨0, 0, 0, 0⟩)

def raisedC : List Str := ["BadNumber", "TooMany"]
def excAll : List Str := ["Refused", "BadText", "Malformed", "BadStation", "BadPlace", "BadNumber", "TooMany", "Empty", "Unframed", "NotPack", "Unlike", "Stuck", "NothingBack", "LeftOver", "NotTrail", "Blocked", "Unnamed", "Opened", "Missing", "NotLocal", "NoPlan", "Doubled", "BadCard", "Unknown", "NotEnd"]
def excFields : List Str := ["at", "card", "courier", "limit", "name", "ring", "side", "station", "stations", "what"]
abbrev isX : D → D → Option D := isiX "Refused" excAll
structure Txt (K : Frag) (mg : Str → Option Value) : Prop where
  b_ValueError : mg "ValueError" = none
  b_abs : mg "abs" = none
  b_bool : mg "bool" = none
  b_int : mg "int" = none
  b_isinstance : mg "isinstance" = none
  b_len : mg "len" = none
  b_list : mg "list" = none
  b_min : mg "min" = none
  b_range : mg "range" = none
  b_str : mg "str" = none
  b_sum : mg "sum" = none
  b_tuple : mg "tuple" = none
  b_zip : mg "zip" = none
  c_BadCard : mg "BadCard" = some (.ref (He.ga K "BadCard"))
  c_BadNumber : mg "BadNumber" = some (.ref (He.ga K "BadNumber"))
  c_BadPlace : mg "BadPlace" = some (.ref (He.ga K "BadPlace"))
  c_BadStation : mg "BadStation" = some (.ref (He.ga K "BadStation"))
  c_BadText : mg "BadText" = some (.ref (He.ga K "BadText"))
  c_Blocked : mg "Blocked" = some (.ref (He.ga K "Blocked"))
  c_Doubled : mg "Doubled" = some (.ref (He.ga K "Doubled"))
  c_Empty : mg "Empty" = some (.ref (He.ga K "Empty"))
  c_LeftOver : mg "LeftOver" = some (.ref (He.ga K "LeftOver"))
  c_MOST_RINGS : ∃ t, mg "MOST_RINGS" = some (.int 40 t)
  c_MOST_THINGS : ∃ t, mg "MOST_THINGS" = some (.int 1000 t)
  c_Malformed : mg "Malformed" = some (.ref (He.ga K "Malformed"))
  c_Missing : mg "Missing" = some (.ref (He.ga K "Missing"))
  c_NoPlan : mg "NoPlan" = some (.ref (He.ga K "NoPlan"))
  c_NotEnd : mg "NotEnd" = some (.ref (He.ga K "NotEnd"))
  c_NotLocal : mg "NotLocal" = some (.ref (He.ga K "NotLocal"))
  c_NotPack : mg "NotPack" = some (.ref (He.ga K "NotPack"))
  c_NotTrail : mg "NotTrail" = some (.ref (He.ga K "NotTrail"))
  c_NothingBack : mg "NothingBack" = some (.ref (He.ga K "NothingBack"))
  c_Opened : mg "Opened" = some (.ref (He.ga K "Opened"))
  c_Refused : mg "Refused" = some (.ref (He.ga K "Refused"))
  c_Stuck : mg "Stuck" = some (.ref (He.ga K "Stuck"))
  c_TooMany : mg "TooMany" = some (.ref (He.ga K "TooMany"))
  c_Unframed : mg "Unframed" = some (.ref (He.ga K "Unframed"))
  c_Unknown : mg "Unknown" = some (.ref (He.ga K "Unknown"))
  c_Unlike : mg "Unlike" = some (.ref (He.ga K "Unlike"))
  c_Unnamed : mg "Unnamed" = some (.ref (He.ga K "Unnamed"))
  exm_Refused : ∀ c ∈ raisedC, PySem.W.exmOne K (.ref (He.ga K c)) (.ref (He.ga K "Refused")) = some true
section
variable {P : Program} {w : World} {K : Frag} {mg : Str → Option Value} {base : Heap}
abbrev st_law_mix : Stmt := top 33
abbrev nm_law_mix : List Str := ["base", "turn", "place", "prime", "one", "two", "three"]
theorem sc_law_mix : FnScope nm_law_mix ["base", "turn", "place"] (defScope st_law_mix) := ⟨rfl, rfl, rfl, by decide +kernel, rfl, by decide +kernel, by decide +kernel⟩
def t_law_mix : TDS :=
  (sSeq (sAsg 3 (eC (.int 2305843009213693951)))
    (sSeq (sAsg 4 (eBin opAdd (eBin opAdd (eBin opAdd (eBin opMul (eVar 0) (eC (.int 6364136223846793005))) (eBin opMul (eVar 1) (eC (.int 1442695040888963407)))) (eBin opMul (eVar 2) (eC (.int 2862933555777941757)))) (eC (.int 3037000493))))
    (sSeq (sAsg 4 (eBin opMod (eCall (fn1 intD) (aCons (eVar 4) aNil)) (eVar 3)))
    (sSeq (sAsg 5 (eBin opMod (eCall (fn1 intD) (aCons (eBin opAdd (eBin opAdd (eBin opMul (eBin opDiv (eVar 4) (eC (.int 65537))) (eC (.int 2685821657736338717))) (eBin opMul (eVar 4) (eC (.int 1181783497276652981)))) (eVar 1)) aNil)) (eVar 3)))
    (sSeq (sAsg 6 (eBin opMod (eCall (fn1 intD) (aCons (eBin opAdd (eBin opAdd (eBin opMul (eVar 5) (eVar 5)) (eBin opMul (eBin opDiv (eVar 4) (eC (.int 4294967296))) (eC (.int 3935559000370003845)))) (eVar 2)) aNil)) (eVar 3)))
    (sRet (eBin opDiv (eVar 6) (eC (.int 8)))))))))
def m_law_mix : List D → FR := runB [false, false, false] 4 t_law_mix
theorem ok_law_mix (T : Txt K mg) (hF : ∃ fd, FunD K "_law_mix" "_law_mix" (defArgs st_law_mix) (defBody st_law_mix) (defScope st_law_mix) [] [] (He.ga K "_law_mix") fd) (hm : mg "_law_mix" = some (.ref (He.ga K "_law_mix"))) : Fn P w K mg base "_law_mix" 1 [] [false, false, false] m_law_mix := by
  obtain ⟨fd, F⟩ := hF
  have nd := sc_law_mix.nd
  refine ⟨_, fd, ["base", "turn", "place"], [], hm, F.kp, F.bindsN (fun _ _ _ _ _ _ us hl => match us, hl with | [_, _, _], _ => rfl), .nil, fn_deep (N := nm_law_mix) (t := t_law_mix) F sc_law_mix rfl (by decide) fun cdv A outer s H vs E hr => ?_⟩
  have hu := hr.units
  have po := passes_of (X := cxD P w K mg base nm_law_mix "_law_mix" (defScope st_law_mix) (He.ga K "_law_mix") cdv A outer s H E) rfl
  exact (db_cons (ds_asg (i := 3) nd rfl de_int)
    (db_cons (ds_asg (i := 4) nd rfl (de_op opr_add op2_add (de_op opr_add op2_add (de_op opr_add op2_add (de_op op_mulX op2_mul (de_var (pv 0)) de_int) (de_op op_mulX op2_mul (de_var (pv 1)) de_int)) (de_op op_mulX op2_mul (de_var (pv 2)) de_int)) de_int))
    (db_cons (ds_asg (i := 4) nd rfl (de_op op_mod op2_mod (de_callTy call_int1 opn_int T.b_int (by decide +kernel) (da_cons (de_var (pv 4)) da_nil)) (de_var (pv 3))))
    (db_cons (ds_asg (i := 5) nd rfl (de_op op_mod op2_mod (de_callTy call_int1 opn_int T.b_int (by decide +kernel) (da_cons (de_op opr_add op2_add (de_op opr_add op2_add (de_op op_mulX op2_mul (de_op op_fdivW op2_div (de_var (pv 4)) de_int) de_int) (de_op op_mulX op2_mul (de_var (pv 4)) de_int)) (de_var (pv 1))) da_nil)) (de_var (pv 3))))
    (db_cons (ds_asg (i := 6) nd rfl (de_op op_mod op2_mod (de_callTy call_int1 opn_int T.b_int (by decide +kernel) (da_cons (de_op opr_add op2_add (de_op opr_add op2_add (de_op op_mulX op2_mul (de_var (pv 5)) (de_var (pv 5))) (de_op op_mulX op2_mul (de_op op_fdivW op2_div (de_var (pv 4)) de_int) de_int)) (de_var (pv 2))) da_nil)) (de_var (pv 3))))
    (db_one (ds_ret (de_op op_fdivW op2_div (de_var (pv 6)) de_int))))))))
abbrev st_law_is_int : Stmt := top 42
abbrev nm_law_is_int : List Str := ["actual"]
theorem sc_law_is_int : FnScope nm_law_is_int ["actual"] (defScope st_law_is_int) := ⟨rfl, rfl, rfl, by decide +kernel, rfl, by decide +kernel, by decide +kernel⟩
def t_law_is_int : TDS :=
  (sRet (eAnd (eCall (fn2 isiD) (aCons (eVar 0) (aCons (eC (.ty "int")) aNil))) (eNot (eCall (fn2 isiD) (aCons (eVar 0) (aCons (eC (.ty "bool")) aNil))))))
def m_law_is_int : List D → FR := runB [false] 0 t_law_is_int
theorem ok_law_is_int (T : Txt K mg) (hF : ∃ fd, FunD K "_law_is_int" "_law_is_int" (defArgs st_law_is_int) (defBody st_law_is_int) (defScope st_law_is_int) [] [] (He.ga K "_law_is_int") fd) (hm : mg "_law_is_int" = some (.ref (He.ga K "_law_is_int"))) : Fn P w K mg base "_law_is_int" 1 [] [false] m_law_is_int := by
  obtain ⟨fd, F⟩ := hF
  have nd := sc_law_is_int.nd
  refine ⟨_, fd, ["actual"], [], hm, F.kp, F.bindsN (fun _ _ _ _ _ _ us hl => match us, hl with | [_], _ => rfl), .nil, fn_deep (N := nm_law_is_int) (t := t_law_is_int) F sc_law_is_int rfl (by decide) fun cdv A outer s H vs E hr => ?_⟩
  have hu := hr.units
  have po := passes_of (X := cxD P w K mg base nm_law_is_int "_law_is_int" (defScope st_law_is_int) (He.ga K "_law_is_int") cdv A outer s H E) rfl
  exact (db_one (ds_ret (de_and (de_callB call_isi opn_isi T.b_isinstance (by decide +kernel) (da_cons (de_var (pv 0)) (da_cons (de_ty T.b_int (by decide +kernel)) da_nil))) (de_one (de_not (de_callB call_isi opn_isi T.b_isinstance (by decide +kernel) (da_cons (de_var (pv 0)) (da_cons (de_ty T.b_bool (by decide +kernel)) da_nil))))))))
abbrev st_law_same_leaf : Stmt := top 44
abbrev nm_law_same_leaf : List Str := ["actual", "due"]
theorem sc_law_same_leaf : FnScope nm_law_same_leaf ["actual", "due"] (defScope st_law_same_leaf) := ⟨rfl, rfl, rfl, by decide +kernel, rfl, by decide +kernel, by decide +kernel⟩
def t_law_same_leaf : TDS :=
  (sSeq (sIf (eT (eBin (opIs false) (eVar 1) (eC .non)))
    (sRet (eBin (opIs false) (eVar 0) (eC .non))) sNil)
    (sSeq (sIf (eT (eCall (fn2 isiD) (aCons (eVar 1) (aCons (eC (.ty "bool")) aNil))))
    (sRet (eAnd (eCall (fn2 isiD) (aCons (eVar 0) (aCons (eC (.ty "bool")) aNil))) (eBin (opEq false) (eVar 0) (eVar 1)))) sNil)
    (sSeq (sIf (eT (eCall (fn2 isiD) (aCons (eVar 1) (aCons (eC (.ty "int")) aNil))))
    (sRet (eAnd (eCall (fn2 isiD) (aCons (eVar 0) (aCons (eC (.ty "int")) aNil))) (eAnd (eNot (eCall (fn2 isiD) (aCons (eVar 0) (aCons (eC (.ty "bool")) aNil)))) (eBin (opEq false) (eVar 0) (eVar 1))))) sNil)
    (sSeq (sIf (eT (eCall (fn2 isiD) (aCons (eVar 1) (aCons (eC (.ty "str")) aNil))))
    (sRet (eAnd (eCall (fn2 isiD) (aCons (eVar 0) (aCons (eC (.ty "str")) aNil))) (eBin (opEq false) (eVar 0) (eVar 1)))) sNil)
    (sRet (eC (.bl false)))))))
def m_law_same_leaf : List D → FR := runB [false, false] 0 t_law_same_leaf
theorem ok_law_same_leaf (T : Txt K mg) (hF : ∃ fd, FunD K "_law_same_leaf" "_law_same_leaf" (defArgs st_law_same_leaf) (defBody st_law_same_leaf) (defScope st_law_same_leaf) [] [] (He.ga K "_law_same_leaf") fd) (hm : mg "_law_same_leaf" = some (.ref (He.ga K "_law_same_leaf"))) : Fn P w K mg base "_law_same_leaf" 1 [] [false, false] m_law_same_leaf := by
  obtain ⟨fd, F⟩ := hF
  have nd := sc_law_same_leaf.nd
  refine ⟨_, fd, ["actual", "due"], [], hm, F.kp, F.bindsN (fun _ _ _ _ _ _ us hl => match us, hl with | [_, _], _ => rfl), .nil, fn_deep (N := nm_law_same_leaf) (t := t_law_same_leaf) F sc_law_same_leaf rfl (by decide) fun cdv A outer s H vs E hr => ?_⟩
  have hu := hr.units
  have po := passes_of (X := cxD P w K mg base nm_law_same_leaf "_law_same_leaf" (defScope st_law_same_leaf) (He.ga K "_law_same_leaf") cdv A outer s H E) rfl
  exact (db_cons (ds_if (dt_cmp op_isN op2_is (de_var (pv 1)) de_non)
    (db_one (ds_ret (de_cmp op_isN op2_is (de_var (pv 0)) de_non))) db_nil)
    (db_cons (ds_if (dt_val (de_callB call_isi opn_isi T.b_isinstance (by decide +kernel) (da_cons (de_var (pv 1)) (da_cons (de_ty T.b_bool (by decide +kernel)) da_nil))))
    (db_one (ds_ret (de_and (de_callB call_isi opn_isi T.b_isinstance (by decide +kernel) (da_cons (de_var (pv 0)) (da_cons (de_ty T.b_bool (by decide +kernel)) da_nil))) (de_one (de_cmp (op_eq.or (op_eqD hu)) op2_eq (de_var (pv 0)) (de_var (pv 1))))))) db_nil)
    (db_cons (ds_if (dt_val (de_callB call_isi opn_isi T.b_isinstance (by decide +kernel) (da_cons (de_var (pv 1)) (da_cons (de_ty T.b_int (by decide +kernel)) da_nil))))
    (db_one (ds_ret (de_and (de_callB call_isi opn_isi T.b_isinstance (by decide +kernel) (da_cons (de_var (pv 0)) (da_cons (de_ty T.b_int (by decide +kernel)) da_nil))) (de_and (de_not (de_callB call_isi opn_isi T.b_isinstance (by decide +kernel) (da_cons (de_var (pv 0)) (da_cons (de_ty T.b_bool (by decide +kernel)) da_nil)))) (de_one (de_cmp (op_eq.or (op_eqD hu)) op2_eq (de_var (pv 0)) (de_var (pv 1)))))))) db_nil)
    (db_cons (ds_if (dt_val (de_callB call_isi opn_isi T.b_isinstance (by decide +kernel) (da_cons (de_var (pv 1)) (da_cons (de_ty T.b_str (by decide +kernel)) da_nil))))
    (db_one (ds_ret (de_and (de_callB call_isi opn_isi T.b_isinstance (by decide +kernel) (da_cons (de_var (pv 0)) (da_cons (de_ty T.b_str (by decide +kernel)) da_nil))) (de_one (de_cmp (op_eq.or (op_eqD hu)) op2_eq (de_var (pv 0)) (de_var (pv 1))))))) db_nil)
    (db_one (ds_ret de_bl))))))
abbrev st_law_refusal_one : Stmt := top 46
abbrev nm_law_refusal_one : List Str := ["e", "told"]
theorem sc_law_refusal_one : FnScope nm_law_refusal_one ["e"] (defScope st_law_refusal_one) := ⟨rfl, rfl, rfl, by decide +kernel, rfl, by decide +kernel, by decide +kernel⟩
def tE_law_refusal_one : TDS :=
  (sSeq (sAsgG 1 (gDis .lst aNil))
    (sSeq (sIf (eT (eCall (fn2 isX) (aCons (eVar 0) (aCons (eC (.cls "BadText")) aNil))))
    (sExpr (eMut lmApp (eVar 1) (aCons (gFz (gDis .tup (aCons (eC (.str "BadText")) (aCons (gFz (gDis .tup (aCons (eAtX "at" (eVar 0)) aNil))) aNil)))) aNil))) sNil)
    (sSeq (sIf (eT (eCall (fn2 isX) (aCons (eVar 0) (aCons (eC (.cls "Malformed")) aNil))))
    (sExpr (eMut lmApp (eVar 1) (aCons (gFz (gDis .tup (aCons (eC (.str "Malformed")) (aCons (gFz (gDis .tup (aCons (eAtX "what" (eVar 0)) aNil))) aNil)))) aNil))) sNil)
    (sSeq (sIf (eT (eCall (fn2 isX) (aCons (eVar 0) (aCons (eC (.cls "BadStation")) aNil))))
    (sExpr (eMut lmApp (eVar 1) (aCons (gFz (gDis .tup (aCons (eC (.str "BadStation")) (aCons (gFz (gDis .tup (aCons (eAtX "station" (eVar 0)) aNil))) aNil)))) aNil))) sNil)
    (sSeq (sIf (eT (eCall (fn2 isX) (aCons (eVar 0) (aCons (eC (.cls "BadPlace")) aNil))))
    (sExpr (eMut lmApp (eVar 1) (aCons (gFz (gDis .tup (aCons (eC (.str "BadPlace")) (aCons (gFz (gDis .tup (aCons (eAtX "station" (eVar 0)) (aCons (eAtX "at" (eVar 0)) aNil)))) aNil)))) aNil))) sNil)
    (sSeq (sIf (eT (eCall (fn2 isX) (aCons (eVar 0) (aCons (eC (.cls "BadNumber")) aNil))))
    (sExpr (eMut lmApp (eVar 1) (aCons (gFz (gDis .tup (aCons (eC (.str "BadNumber")) (aCons (gFz (gDis .tup (aCons (eAtX "what" (eVar 0)) aNil))) aNil)))) aNil))) sNil)
    (sSeq (sIf (eT (eCall (fn2 isX) (aCons (eVar 0) (aCons (eC (.cls "TooMany")) aNil))))
    (sExpr (eMut lmApp (eVar 1) (aCons (gFz (gDis .tup (aCons (eC (.str "TooMany")) (aCons (gFz (gDis .tup (aCons (eAtX "what" (eVar 0)) (aCons (eAtX "limit" (eVar 0)) aNil)))) aNil)))) aNil))) sNil)
    (sSeq (sIf (eT (eCall (fn2 isX) (aCons (eVar 0) (aCons (eC (.cls "Empty")) aNil))))
    (sExpr (eMut lmApp (eVar 1) (aCons (gFz (gDis .tup (aCons (eC (.str "Empty")) (aCons (gFz (gDis .tup (aCons (eAtX "what" (eVar 0)) aNil))) aNil)))) aNil))) sNil)
    (sSeq (sIf (eT (eCall (fn2 isX) (aCons (eVar 0) (aCons (eC (.cls "Unframed")) aNil))))
    (sExpr (eMut lmApp (eVar 1) (aCons (gFz (gDis .tup (aCons (eC (.str "Unframed")) (aCons (gFz (gDis .tup (aCons (eAtX "station" (eVar 0)) aNil))) aNil)))) aNil))) sNil)
    (sSeq (sIf (eT (eCall (fn2 isX) (aCons (eVar 0) (aCons (eC (.cls "NotPack")) aNil))))
    (sExpr (eMut lmApp (eVar 1) (aCons (gFz (gDis .tup (aCons (eC (.str "NotPack")) (aCons (gFz (gDis .tup (aCons (eAtX "what" (eVar 0)) aNil))) aNil)))) aNil))) sNil)
    (sSeq (sIf (eT (eCall (fn2 isX) (aCons (eVar 0) (aCons (eC (.cls "Unlike")) aNil))))
    (sExpr (eMut lmApp (eVar 1) (aCons (gFz (gDis .tup (aCons (eC (.str "Unlike")) (aCons (gFz (gDis .tup (aCons (eAtX "what" (eVar 0)) aNil))) aNil)))) aNil))) sNil)
    (sSeq (sIf (eT (eCall (fn2 isX) (aCons (eVar 0) (aCons (eC (.cls "Stuck")) aNil))))
    (sExpr (eMut lmApp (eVar 1) (aCons (gFz (gDis .tup (aCons (eC (.str "Stuck")) (aCons (gFz (gDis .tup (aCons (eAtX "courier" (eVar 0)) aNil))) aNil)))) aNil))) sNil)
    (sSeq (sIf (eT (eCall (fn2 isX) (aCons (eVar 0) (aCons (eC (.cls "NothingBack")) aNil))))
    (sExpr (eMut lmApp (eVar 1) (aCons (gFz (gDis .tup (aCons (eC (.str "NothingBack")) (aCons (gFz (gDis .tup aNil)) aNil)))) aNil))) sNil)
    (sRet (eVar 1)))))))))))))))
def mE_law_refusal_one : List D → FR := noX (runB [false] 1 tE_law_refusal_one)
theorem okE_law_refusal_one (T : Txt K mg) (hF : ∃ fd, FunD K "_law_refusal_one" "_law_refusal_one" (defArgs st_law_refusal_one) (defBody st_law_refusal_one) (defScope st_law_refusal_one) [] [] (He.ga K "_law_refusal_one") fd) (hm : mg "_law_refusal_one" = some (.ref (He.ga K "_law_refusal_one"))) (TX : ExcT K "Refused" excAll raisedC excFields) : FnE P w K mg base "_law_refusal_one" 1 [false] mE_law_refusal_one raisedC := by
  obtain ⟨fd, F⟩ := hF
  have nd := sc_law_refusal_one.nd
  refine fn_deepE (N := nm_law_refusal_one) (ps := ["e"]) (t := tE_law_refusal_one) F hm (F.bindsN fun _ _ _ _ _ _ us hl => match us, hl with | [_], _ => rfl) sc_law_refusal_one rfl (by decide) fun cdv A outer s H vs E a oe c d hr hot => ?_
  have hu := hu_hot hr
  exact (db_cons (ds_asgG (i := 1) nd rfl (dg_lst (by decide) da_nil))
    (db_cons (ds_if (dt_val (de_isX TX hot T.b_isinstance (da_cons (de_var (pv 0)) (da_cons (de_cls T.c_BadText) da_nil))))
    (db_one (ds_expr (de_mut PySem.F.slot_list_append PySem.F.type_list_append mt_append mtl_app (de_var (pv 1)) (da_cons (de_tup (da_cons de_str (da_cons (de_tup (da_cons (de_atX TX hot (de_var (pv 0))) da_nil)) da_nil))) da_nil)))) db_nil)
    (db_cons (ds_if (dt_val (de_isX TX hot T.b_isinstance (da_cons (de_var (pv 0)) (da_cons (de_cls T.c_Malformed) da_nil))))
    (db_one (ds_expr (de_mut PySem.F.slot_list_append PySem.F.type_list_append mt_append mtl_app (de_var (pv 1)) (da_cons (de_tup (da_cons de_str (da_cons (de_tup (da_cons (de_atX TX hot (de_var (pv 0))) da_nil)) da_nil))) da_nil)))) db_nil)
    (db_cons (ds_if (dt_val (de_isX TX hot T.b_isinstance (da_cons (de_var (pv 0)) (da_cons (de_cls T.c_BadStation) da_nil))))
    (db_one (ds_expr (de_mut PySem.F.slot_list_append PySem.F.type_list_append mt_append mtl_app (de_var (pv 1)) (da_cons (de_tup (da_cons de_str (da_cons (de_tup (da_cons (de_atX TX hot (de_var (pv 0))) da_nil)) da_nil))) da_nil)))) db_nil)
    (db_cons (ds_if (dt_val (de_isX TX hot T.b_isinstance (da_cons (de_var (pv 0)) (da_cons (de_cls T.c_BadPlace) da_nil))))
    (db_one (ds_expr (de_mut PySem.F.slot_list_append PySem.F.type_list_append mt_append mtl_app (de_var (pv 1)) (da_cons (de_tup (da_cons de_str (da_cons (de_tup (da_cons (de_atX TX hot (de_var (pv 0))) (da_cons (de_atX TX hot (de_var (pv 0))) da_nil))) da_nil))) da_nil)))) db_nil)
    (db_cons (ds_if (dt_val (de_isX TX hot T.b_isinstance (da_cons (de_var (pv 0)) (da_cons (de_cls T.c_BadNumber) da_nil))))
    (db_one (ds_expr (de_mut PySem.F.slot_list_append PySem.F.type_list_append mt_append mtl_app (de_var (pv 1)) (da_cons (de_tup (da_cons de_str (da_cons (de_tup (da_cons (de_atX TX hot (de_var (pv 0))) da_nil)) da_nil))) da_nil)))) db_nil)
    (db_cons (ds_if (dt_val (de_isX TX hot T.b_isinstance (da_cons (de_var (pv 0)) (da_cons (de_cls T.c_TooMany) da_nil))))
    (db_one (ds_expr (de_mut PySem.F.slot_list_append PySem.F.type_list_append mt_append mtl_app (de_var (pv 1)) (da_cons (de_tup (da_cons de_str (da_cons (de_tup (da_cons (de_atX TX hot (de_var (pv 0))) (da_cons (de_atX TX hot (de_var (pv 0))) da_nil))) da_nil))) da_nil)))) db_nil)
    (db_cons (ds_if (dt_val (de_isX TX hot T.b_isinstance (da_cons (de_var (pv 0)) (da_cons (de_cls T.c_Empty) da_nil))))
    (db_one (ds_expr (de_mut PySem.F.slot_list_append PySem.F.type_list_append mt_append mtl_app (de_var (pv 1)) (da_cons (de_tup (da_cons de_str (da_cons (de_tup (da_cons (de_atX TX hot (de_var (pv 0))) da_nil)) da_nil))) da_nil)))) db_nil)
    (db_cons (ds_if (dt_val (de_isX TX hot T.b_isinstance (da_cons (de_var (pv 0)) (da_cons (de_cls T.c_Unframed) da_nil))))
    (db_one (ds_expr (de_mut PySem.F.slot_list_append PySem.F.type_list_append mt_append mtl_app (de_var (pv 1)) (da_cons (de_tup (da_cons de_str (da_cons (de_tup (da_cons (de_atX TX hot (de_var (pv 0))) da_nil)) da_nil))) da_nil)))) db_nil)
    (db_cons (ds_if (dt_val (de_isX TX hot T.b_isinstance (da_cons (de_var (pv 0)) (da_cons (de_cls T.c_NotPack) da_nil))))
    (db_one (ds_expr (de_mut PySem.F.slot_list_append PySem.F.type_list_append mt_append mtl_app (de_var (pv 1)) (da_cons (de_tup (da_cons de_str (da_cons (de_tup (da_cons (de_atX TX hot (de_var (pv 0))) da_nil)) da_nil))) da_nil)))) db_nil)
    (db_cons (ds_if (dt_val (de_isX TX hot T.b_isinstance (da_cons (de_var (pv 0)) (da_cons (de_cls T.c_Unlike) da_nil))))
    (db_one (ds_expr (de_mut PySem.F.slot_list_append PySem.F.type_list_append mt_append mtl_app (de_var (pv 1)) (da_cons (de_tup (da_cons de_str (da_cons (de_tup (da_cons (de_atX TX hot (de_var (pv 0))) da_nil)) da_nil))) da_nil)))) db_nil)
    (db_cons (ds_if (dt_val (de_isX TX hot T.b_isinstance (da_cons (de_var (pv 0)) (da_cons (de_cls T.c_Stuck) da_nil))))
    (db_one (ds_expr (de_mut PySem.F.slot_list_append PySem.F.type_list_append mt_append mtl_app (de_var (pv 1)) (da_cons (de_tup (da_cons de_str (da_cons (de_tup (da_cons (de_atX TX hot (de_var (pv 0))) da_nil)) da_nil))) da_nil)))) db_nil)
    (db_cons (ds_if (dt_val (de_isX TX hot T.b_isinstance (da_cons (de_var (pv 0)) (da_cons (de_cls T.c_NothingBack) da_nil))))
    (db_one (ds_expr (de_mut PySem.F.slot_list_append PySem.F.type_list_append mt_append mtl_app (de_var (pv 1)) (da_cons (de_tup (da_cons de_str (da_cons (de_tup da_nil) da_nil))) da_nil)))) db_nil)
    (db_one (ds_ret (de_var (pv 1)))))))))))))))))
abbrev st_law_refusal_two : Stmt := top 47
abbrev nm_law_refusal_two : List Str := ["e", "told"]
theorem sc_law_refusal_two : FnScope nm_law_refusal_two ["e"] (defScope st_law_refusal_two) := ⟨rfl, rfl, rfl, by decide +kernel, rfl, by decide +kernel, by decide +kernel⟩
def tE_law_refusal_two : TDS :=
  (sSeq (sAsgG 1 (gDis .lst aNil))
    (sSeq (sIf (eT (eCall (fn2 isX) (aCons (eVar 0) (aCons (eC (.cls "LeftOver")) aNil))))
    (sExpr (eMut lmApp (eVar 1) (aCons (gFz (gDis .tup (aCons (eC (.str "LeftOver")) (aCons (gFz (gDis .tup (aCons (eAtX "ring" (eVar 0)) aNil))) aNil)))) aNil))) sNil)
    (sSeq (sIf (eT (eCall (fn2 isX) (aCons (eVar 0) (aCons (eC (.cls "NotTrail")) aNil))))
    (sExpr (eMut lmApp (eVar 1) (aCons (gFz (gDis .tup (aCons (eC (.str "NotTrail")) (aCons (gFz (gDis .tup (aCons (eAtX "at" (eVar 0)) aNil))) aNil)))) aNil))) sNil)
    (sSeq (sIf (eT (eCall (fn2 isX) (aCons (eVar 0) (aCons (eC (.cls "Blocked")) aNil))))
    (sExpr (eMut lmApp (eVar 1) (aCons (gFz (gDis .tup (aCons (eC (.str "Blocked")) (aCons (gFz (gDis .tup (aCons (eAtX "stations" (eVar 0)) aNil))) aNil)))) aNil))) sNil)
    (sSeq (sIf (eT (eCall (fn2 isX) (aCons (eVar 0) (aCons (eC (.cls "Unnamed")) aNil))))
    (sExpr (eMut lmApp (eVar 1) (aCons (gFz (gDis .tup (aCons (eC (.str "Unnamed")) (aCons (gFz (gDis .tup aNil)) aNil)))) aNil))) sNil)
    (sSeq (sIf (eT (eCall (fn2 isX) (aCons (eVar 0) (aCons (eC (.cls "Opened")) aNil))))
    (sExpr (eMut lmApp (eVar 1) (aCons (gFz (gDis .tup (aCons (eC (.str "Opened")) (aCons (gFz (gDis .tup (aCons (eAtX "station" (eVar 0)) (aCons (eAtX "at" (eVar 0)) aNil)))) aNil)))) aNil))) sNil)
    (sSeq (sIf (eT (eCall (fn2 isX) (aCons (eVar 0) (aCons (eC (.cls "Missing")) aNil))))
    (sExpr (eMut lmApp (eVar 1) (aCons (gFz (gDis .tup (aCons (eC (.str "Missing")) (aCons (gFz (gDis .tup (aCons (eAtX "name" (eVar 0)) aNil))) aNil)))) aNil))) sNil)
    (sSeq (sIf (eT (eCall (fn2 isX) (aCons (eVar 0) (aCons (eC (.cls "NotLocal")) aNil))))
    (sExpr (eMut lmApp (eVar 1) (aCons (gFz (gDis .tup (aCons (eC (.str "NotLocal")) (aCons (gFz (gDis .tup (aCons (eAtX "station" (eVar 0)) aNil))) aNil)))) aNil))) sNil)
    (sSeq (sIf (eT (eCall (fn2 isX) (aCons (eVar 0) (aCons (eC (.cls "NoPlan")) aNil))))
    (sExpr (eMut lmApp (eVar 1) (aCons (gFz (gDis .tup (aCons (eC (.str "NoPlan")) (aCons (gFz (gDis .tup (aCons (eAtX "side" (eVar 0)) aNil))) aNil)))) aNil))) sNil)
    (sSeq (sIf (eT (eCall (fn2 isX) (aCons (eVar 0) (aCons (eC (.cls "Doubled")) aNil))))
    (sExpr (eMut lmApp (eVar 1) (aCons (gFz (gDis .tup (aCons (eC (.str "Doubled")) (aCons (gFz (gDis .tup (aCons (eAtX "what" (eVar 0)) aNil))) aNil)))) aNil))) sNil)
    (sSeq (sIf (eT (eCall (fn2 isX) (aCons (eVar 0) (aCons (eC (.cls "BadCard")) aNil))))
    (sExpr (eMut lmApp (eVar 1) (aCons (gFz (gDis .tup (aCons (eC (.str "BadCard")) (aCons (gFz (gDis .tup (aCons (eAtX "card" (eVar 0)) aNil))) aNil)))) aNil))) sNil)
    (sSeq (sIf (eT (eCall (fn2 isX) (aCons (eVar 0) (aCons (eC (.cls "Unknown")) aNil))))
    (sExpr (eMut lmApp (eVar 1) (aCons (gFz (gDis .tup (aCons (eC (.str "Unknown")) (aCons (gFz (gDis .tup (aCons (eAtX "name" (eVar 0)) aNil))) aNil)))) aNil))) sNil)
    (sSeq (sIf (eT (eCall (fn2 isX) (aCons (eVar 0) (aCons (eC (.cls "NotEnd")) aNil))))
    (sExpr (eMut lmApp (eVar 1) (aCons (gFz (gDis .tup (aCons (eC (.str "NotEnd")) (aCons (gFz (gDis .tup (aCons (eAtX "station" (eVar 0)) aNil))) aNil)))) aNil))) sNil)
    (sRet (eVar 1)))))))))))))))
def mE_law_refusal_two : List D → FR := noX (runB [false] 1 tE_law_refusal_two)
theorem okE_law_refusal_two (T : Txt K mg) (hF : ∃ fd, FunD K "_law_refusal_two" "_law_refusal_two" (defArgs st_law_refusal_two) (defBody st_law_refusal_two) (defScope st_law_refusal_two) [] [] (He.ga K "_law_refusal_two") fd) (hm : mg "_law_refusal_two" = some (.ref (He.ga K "_law_refusal_two"))) (TX : ExcT K "Refused" excAll raisedC excFields) : FnE P w K mg base "_law_refusal_two" 1 [false] mE_law_refusal_two raisedC := by
  obtain ⟨fd, F⟩ := hF
  have nd := sc_law_refusal_two.nd
  refine fn_deepE (N := nm_law_refusal_two) (ps := ["e"]) (t := tE_law_refusal_two) F hm (F.bindsN fun _ _ _ _ _ _ us hl => match us, hl with | [_], _ => rfl) sc_law_refusal_two rfl (by decide) fun cdv A outer s H vs E a oe c d hr hot => ?_
  have hu := hu_hot hr
  exact (db_cons (ds_asgG (i := 1) nd rfl (dg_lst (by decide) da_nil))
    (db_cons (ds_if (dt_val (de_isX TX hot T.b_isinstance (da_cons (de_var (pv 0)) (da_cons (de_cls T.c_LeftOver) da_nil))))
    (db_one (ds_expr (de_mut PySem.F.slot_list_append PySem.F.type_list_append mt_append mtl_app (de_var (pv 1)) (da_cons (de_tup (da_cons de_str (da_cons (de_tup (da_cons (de_atX TX hot (de_var (pv 0))) da_nil)) da_nil))) da_nil)))) db_nil)
    (db_cons (ds_if (dt_val (de_isX TX hot T.b_isinstance (da_cons (de_var (pv 0)) (da_cons (de_cls T.c_NotTrail) da_nil))))
    (db_one (ds_expr (de_mut PySem.F.slot_list_append PySem.F.type_list_append mt_append mtl_app (de_var (pv 1)) (da_cons (de_tup (da_cons de_str (da_cons (de_tup (da_cons (de_atX TX hot (de_var (pv 0))) da_nil)) da_nil))) da_nil)))) db_nil)
    (db_cons (ds_if (dt_val (de_isX TX hot T.b_isinstance (da_cons (de_var (pv 0)) (da_cons (de_cls T.c_Blocked) da_nil))))
    (db_one (ds_expr (de_mut PySem.F.slot_list_append PySem.F.type_list_append mt_append mtl_app (de_var (pv 1)) (da_cons (de_tup (da_cons de_str (da_cons (de_tup (da_cons (de_atX TX hot (de_var (pv 0))) da_nil)) da_nil))) da_nil)))) db_nil)
    (db_cons (ds_if (dt_val (de_isX TX hot T.b_isinstance (da_cons (de_var (pv 0)) (da_cons (de_cls T.c_Unnamed) da_nil))))
    (db_one (ds_expr (de_mut PySem.F.slot_list_append PySem.F.type_list_append mt_append mtl_app (de_var (pv 1)) (da_cons (de_tup (da_cons de_str (da_cons (de_tup da_nil) da_nil))) da_nil)))) db_nil)
    (db_cons (ds_if (dt_val (de_isX TX hot T.b_isinstance (da_cons (de_var (pv 0)) (da_cons (de_cls T.c_Opened) da_nil))))
    (db_one (ds_expr (de_mut PySem.F.slot_list_append PySem.F.type_list_append mt_append mtl_app (de_var (pv 1)) (da_cons (de_tup (da_cons de_str (da_cons (de_tup (da_cons (de_atX TX hot (de_var (pv 0))) (da_cons (de_atX TX hot (de_var (pv 0))) da_nil))) da_nil))) da_nil)))) db_nil)
    (db_cons (ds_if (dt_val (de_isX TX hot T.b_isinstance (da_cons (de_var (pv 0)) (da_cons (de_cls T.c_Missing) da_nil))))
    (db_one (ds_expr (de_mut PySem.F.slot_list_append PySem.F.type_list_append mt_append mtl_app (de_var (pv 1)) (da_cons (de_tup (da_cons de_str (da_cons (de_tup (da_cons (de_atX TX hot (de_var (pv 0))) da_nil)) da_nil))) da_nil)))) db_nil)
    (db_cons (ds_if (dt_val (de_isX TX hot T.b_isinstance (da_cons (de_var (pv 0)) (da_cons (de_cls T.c_NotLocal) da_nil))))
    (db_one (ds_expr (de_mut PySem.F.slot_list_append PySem.F.type_list_append mt_append mtl_app (de_var (pv 1)) (da_cons (de_tup (da_cons de_str (da_cons (de_tup (da_cons (de_atX TX hot (de_var (pv 0))) da_nil)) da_nil))) da_nil)))) db_nil)
    (db_cons (ds_if (dt_val (de_isX TX hot T.b_isinstance (da_cons (de_var (pv 0)) (da_cons (de_cls T.c_NoPlan) da_nil))))
    (db_one (ds_expr (de_mut PySem.F.slot_list_append PySem.F.type_list_append mt_append mtl_app (de_var (pv 1)) (da_cons (de_tup (da_cons de_str (da_cons (de_tup (da_cons (de_atX TX hot (de_var (pv 0))) da_nil)) da_nil))) da_nil)))) db_nil)
    (db_cons (ds_if (dt_val (de_isX TX hot T.b_isinstance (da_cons (de_var (pv 0)) (da_cons (de_cls T.c_Doubled) da_nil))))
    (db_one (ds_expr (de_mut PySem.F.slot_list_append PySem.F.type_list_append mt_append mtl_app (de_var (pv 1)) (da_cons (de_tup (da_cons de_str (da_cons (de_tup (da_cons (de_atX TX hot (de_var (pv 0))) da_nil)) da_nil))) da_nil)))) db_nil)
    (db_cons (ds_if (dt_val (de_isX TX hot T.b_isinstance (da_cons (de_var (pv 0)) (da_cons (de_cls T.c_BadCard) da_nil))))
    (db_one (ds_expr (de_mut PySem.F.slot_list_append PySem.F.type_list_append mt_append mtl_app (de_var (pv 1)) (da_cons (de_tup (da_cons de_str (da_cons (de_tup (da_cons (de_atX TX hot (de_var (pv 0))) da_nil)) da_nil))) da_nil)))) db_nil)
    (db_cons (ds_if (dt_val (de_isX TX hot T.b_isinstance (da_cons (de_var (pv 0)) (da_cons (de_cls T.c_Unknown) da_nil))))
    (db_one (ds_expr (de_mut PySem.F.slot_list_append PySem.F.type_list_append mt_append mtl_app (de_var (pv 1)) (da_cons (de_tup (da_cons de_str (da_cons (de_tup (da_cons (de_atX TX hot (de_var (pv 0))) da_nil)) da_nil))) da_nil)))) db_nil)
    (db_cons (ds_if (dt_val (de_isX TX hot T.b_isinstance (da_cons (de_var (pv 0)) (da_cons (de_cls T.c_NotEnd) da_nil))))
    (db_one (ds_expr (de_mut PySem.F.slot_list_append PySem.F.type_list_append mt_append mtl_app (de_var (pv 1)) (da_cons (de_tup (da_cons de_str (da_cons (de_tup (da_cons (de_atX TX hot (de_var (pv 0))) da_nil)) da_nil))) da_nil)))) db_nil)
    (db_one (ds_ret (de_var (pv 1)))))))))))))))))
abbrev st_law_factorial : Stmt := top 49
abbrev nm_law_factorial : List Str := ["n", "value", "k"]
theorem sc_law_factorial : FnScope nm_law_factorial ["n"] (defScope st_law_factorial) := ⟨rfl, rfl, rfl, by decide +kernel, rfl, by decide +kernel, by decide +kernel⟩
def t_law_factorial : TDS :=
  (sSeq (sAsg 1 (eC (.int 1)))
    (sSeq (sFor (.nm 2) (iRng rngF1 (aCons (eVar 0) aNil))
    (sAsg 1 (eBin opMul (eVar 1) (eBin opAdd (eVar 2) (eC (.int 1))))))
    (sRet (eVar 1))))
def m_law_factorial : List D → FR := runB [false] 2 t_law_factorial
theorem ok_law_factorial (T : Txt K mg) (hF : ∃ fd, FunD K "_law_factorial" "_law_factorial" (defArgs st_law_factorial) (defBody st_law_factorial) (defScope st_law_factorial) [] [] (He.ga K "_law_factorial") fd) (hm : mg "_law_factorial" = some (.ref (He.ga K "_law_factorial"))) : Fn P w K mg base "_law_factorial" 1 [] [false] m_law_factorial := by
  obtain ⟨fd, F⟩ := hF
  have nd := sc_law_factorial.nd
  refine ⟨_, fd, ["n"], [], hm, F.kp, F.bindsN (fun _ _ _ _ _ _ us hl => match us, hl with | [_], _ => rfl), .nil, fn_deep (N := nm_law_factorial) (t := t_law_factorial) F sc_law_factorial rfl (by decide) fun cdv A outer s H vs E hr => ?_⟩
  have hu := hr.units
  have po := passes_of (X := cxD P w K mg base nm_law_factorial "_law_factorial" (defScope st_law_factorial) (He.ga K "_law_factorial") cdv A outer s H E) rfl
  exact (db_cons (ds_asg (i := 1) nd rfl de_int)
    (db_cons (ds_for po rfl (di_range1 T.b_range (da_cons (de_var (pv 0)) da_nil)) (dtg_nm nd rfl)
    (db_one (ds_asg (i := 1) nd rfl (de_op op_mulX op2_mul (de_var (pv 1)) (de_op opr_add op2_add (de_var (pv 2)) de_int)))))
    (db_one (ds_ret (de_var (pv 1))))))
abbrev st_law_store : Stmt := top 34
abbrev nm_law_store : List Str := ["script", "limit", "k", "cells", "seed", "cell", "size", "great", "code"]
theorem sc_law_store : FnScope nm_law_store ["script"] (defScope st_law_store) := ⟨rfl, rfl, rfl, by decide +kernel, rfl, by decide +kernel, by decide +kernel⟩
def t_law_store : TDS :=
  (sSeq (sAsg 1 (eBin opPow (eC (.int 10)) (eC (.int 50))))
    (sSeq (sFor (.nm 2) (iRng rngF1 (aCons (eC (.int 4)) aNil))
    (sAsg 1 (eBin opMul (eVar 1) (eVar 1))))
    (sSeq (sAsgG 3 (gDis .lst aNil))
    (sSeq (sAsg 4 (eC (.int 11)))
    (sSeq (sFor (.nm 5) (iSeq (eSl (eVar 0) oNone (oSome (eC (.int 63)))))
    (sSeq (sAsg 6 (eCall (fn1 absD) (aCons (eCall (fn1 intD) (aCons (eVar 5) aNil)) aNil)))
    (sSeq (sAsg 7 (eCall (fn1 intD) (aCons (eBin opGe (eVar 6) (eBin opPow (eC (.int 10)) (eC (.int 18)))) aNil)))
    (sSeq (sAsg 6 (eBin opMod (eCall (fn1 intD) (aCons (eVar 6) aNil)) (eVar 1)))
    (sSeq (sAsg 8 (eBin opAdd (eBin opMul (eC (.int 2)) (eVar 6)) (eCall (fn1 intD) (aCons (eBin opLt (eVar 5) (eC (.int 0))) aNil))))
    (sSeq (sAsg 4 (eFn [false, false, false] m_law_mix (aCons (eVar 4) (aCons (eBin opMod (eCall (fn1 intD) (aCons (eVar 8) aNil)) (eC (.int 2305843009213693951))) (aCons (eBin opAdd (eCall (fn1 lenD) (aCons (eVar 3) aNil)) (eC (.int 1))) aNil)))))
    (sIf (eT (eBin (opEq false) (eVar 7) (eC (.int 1))))
    (sExpr (eMut lmApp (eVar 3) (aCons (gFz (gDis .tup (aCons (eC (.int 1)) (aCons (eVar 6) aNil)))) aNil))) (sExpr (eMut lmApp (eVar 3) (aCons (gFz (gDis .tup (aCons (eC (.int 0)) (aCons (eVar 8) aNil)))) aNil))))))))))
    (sRetG (gDis .lst (aCons (eVar 3) (aCons (eC (.int 0)) (aCons (eC (.int 0)) (aCons (eC (.int 0)) (aCons (eC (.int 0)) (aCons (eVar 4) aNil)))))))))))))
def m_law_store : List D → FR := runB [false] 8 t_law_store
theorem ok_law_store (T : Txt K mg) (hF : ∃ fd, FunD K "_law_store" "_law_store" (defArgs st_law_store) (defBody st_law_store) (defScope st_law_store) [] [] (He.ga K "_law_store") fd) (hm : mg "_law_store" = some (.ref (He.ga K "_law_store"))) (F_law_mix : Fn P w K mg base "_law_mix" 1 [] [false, false, false] m_law_mix) : Fn P w K mg base "_law_store" 2 [] [false] m_law_store := by
  obtain ⟨fd, F⟩ := hF
  have nd := sc_law_store.nd
  refine ⟨_, fd, ["script"], [], hm, F.kp, F.bindsN (fun _ _ _ _ _ _ us hl => match us, hl with | [_], _ => rfl), .nil, fn_deep (N := nm_law_store) (t := t_law_store) F sc_law_store rfl (by decide) fun cdv A outer s H vs E hr => ?_⟩
  have hu := hr.units
  have po := passes_of (X := cxD P w K mg base nm_law_store "_law_store" (defScope st_law_store) (He.ga K "_law_store") cdv A outer s H E) rfl
  exact (db_cons (ds_asg (i := 1) nd rfl (de_op op_pow op2_pow de_int de_int))
    (db_cons (ds_for po rfl (di_range1 T.b_range (da_cons de_int da_nil)) (dtg_nm nd rfl)
    (db_one (ds_asg (i := 1) nd rfl (de_op op_mulX op2_mul (de_var (pv 1)) (de_var (pv 1))))))
    (db_cons (ds_asgG (i := 3) nd rfl (dg_lst (by decide) da_nil))
    (db_cons (ds_asg (i := 4) nd rfl de_int)
    (db_cons (ds_for po rfl (di_seq (de_slice (de_var (pv 0)) do_none (do_some de_int))) (dtg_nm nd rfl)
    (db_cons (ds_asg (i := 6) nd rfl (de_callB call_abs opn_abs T.b_abs (by decide +kernel) (da_cons (de_callTy call_int1 opn_int T.b_int (by decide +kernel) (da_cons (de_var (pv 5)) da_nil)) da_nil)))
    (db_cons (ds_asg (i := 7) nd rfl (de_callTy call_int1 opn_int T.b_int (by decide +kernel) (da_cons (de_cmp op_ge op2_ge (de_var (pv 6)) (de_op op_pow op2_pow de_int de_int)) da_nil)))
    (db_cons (ds_asg (i := 6) nd rfl (de_op op_mod op2_mod (de_callTy call_int1 opn_int T.b_int (by decide +kernel) (da_cons (de_var (pv 6)) da_nil)) (de_var (pv 1))))
    (db_cons (ds_asg (i := 8) nd rfl (de_op opr_add op2_add (de_op op_mulX op2_mul de_int (de_var (pv 6))) (de_callTy call_int1 opn_int T.b_int (by decide +kernel) (da_cons (de_cmp op_lt op2_lt (de_var (pv 5)) de_int) da_nil))))
    (db_cons (ds_asg (i := 4) nd rfl (de_fn F_law_mix hr (ha := (da_cons (de_var (pv 4)) (da_cons (de_op op_mod op2_mod (de_callTy call_int1 opn_int T.b_int (by decide +kernel) (da_cons (de_var (pv 8)) da_nil)) de_int) (da_cons (de_op opr_add op2_add (de_callB call_len opn_len T.b_len (by decide +kernel) (da_cons (de_var (pv 3)) da_nil)) de_int) da_nil))))))
    (db_one (ds_if (dt_cmp (op_eq.or (op_eqD hu)) op2_eq (de_var (pv 7)) de_int)
    (db_one (ds_expr (de_mut PySem.F.slot_list_append PySem.F.type_list_append mt_append mtl_app (de_var (pv 3)) (da_cons (de_tup (da_cons de_int (da_cons (de_var (pv 6)) da_nil))) da_nil)))) (db_one (ds_expr (de_mut PySem.F.slot_list_append PySem.F.type_list_append mt_append mtl_app (de_var (pv 3)) (da_cons (de_tup (da_cons de_int (da_cons (de_var (pv 8)) da_nil))) da_nil))))))))))))
    (db_one (ds_retG (dg_lst (by decide) (da_cons (de_var (pv 3)) (da_cons de_int (da_cons de_int (da_cons de_int (da_cons de_int (da_cons (de_var (pv 4)) da_nil))))))))))))))
abbrev st_law_take : Stmt := top 35
abbrev nm_law_take : List Str := ["store", "many", "cell", "value", "base", "span", "part"]
theorem sc_law_take : FnScope nm_law_take ["store", "many"] (defScope st_law_take) := ⟨rfl, rfl, rfl, by decide +kernel, rfl, by decide +kernel, by decide +kernel⟩
def t_law_take : TDS :=
  (sSeq (sIf (eT (eBin opLt (eVar 1) (eC (.int 2))))
    (sRet (eC (.int 0))) sNil)
    (sSeq (sSub (eBin opAdd (eBin opIx (eVar 0) (eC (.int 4))) (eC (.int 1))) (eVar 0) (eC (.int 4)))
    (sSeq (sIf (bAnd (eT (eBin opLt (eBin opIx (eVar 0) (eC (.int 2))) (eC (.int 2)))) (bAnd (eT (eBin opLt (eBin opIx (eVar 0) (eC (.int 3))) (eC (.int 1)))) (eT (eBin opLt (eBin opIx (eVar 0) (eC (.int 1))) (eCall (fn1 lenD) (aCons (eBin opIx (eVar 0) (eC (.int 0))) aNil))))))
    (sSeq (sAsg 2 (eBin opIx (eBin opIx (eVar 0) (eC (.int 0))) (eBin opIx (eVar 0) (eC (.int 1)))))
    (sSeq (sSub (eBin opAdd (eBin opIx (eVar 0) (eC (.int 1))) (eC (.int 1))) (eVar 0) (eC (.int 1)))
    (sIf (eT (eBin (opEq false) (eBin opIx (eVar 2) (eC (.int 0))) (eC (.int 1))))
    (sSub (eBin opIx (eVar 2) (eC (.int 1))) (eVar 0) (eC (.int 2))) (sSub (eC (.int 4)) (eVar 0) (eC (.int 3)))))) sNil)
    (sSeq (sIf (eT (eBin opGt (eBin opIx (eVar 0) (eC (.int 2))) (eC (.int 1))))
    (sSeq (sAsg 3 (eBin opMod (eCall (fn1 intD) (aCons (eBin opIx (eVar 0) (eC (.int 2))) aNil)) (eVar 1)))
    (sSeq (sSub (eBin opDiv (eCall (fn1 intD) (aCons (eBin opIx (eVar 0) (eC (.int 2))) aNil)) (eVar 1)) (eVar 0) (eC (.int 2)))
    (sRet (eVar 3)))) sNil)
    (sSeq (sAsg 4 (eBin opIx (eVar 0) (eC (.int 5))))
    (sSeq (sIf (eT (eBin opGt (eBin opIx (eVar 0) (eC (.int 3))) (eC (.int 0))))
    (sSeq (sSub (eBin opSub (eBin opIx (eVar 0) (eC (.int 3))) (eC (.int 1))) (eVar 0) (eC (.int 3)))
    (sAsg 4 (eBin opIx (eBin opIx (eBin opIx (eVar 0) (eC (.int 0))) (eBin opSub (eBin opIx (eVar 0) (eC (.int 1))) (eC (.int 1)))) (eC (.int 1))))) sNil)
    (sSeq (sAsg 3 (eC (.int 0)))
    (sSeq (sAsg 5 (eC (.int 1)))
    (sSeq (sFor (.nm 6) (iRng rngF1 (aCons (eC (.int 40)) aNil))
    (sIf (eT (eBin opLt (eVar 5) (eBin opMul (eVar 1) (eC (.int 1024)))))
    (sSeq (sAsg 3 (eBin opAdd (eBin opMul (eVar 3) (eC (.int 288230376151711744))) (eFn [false, false, false] m_law_mix (aCons (eVar 4) (aCons (eBin opIx (eVar 0) (eC (.int 4))) (aCons (eBin opAdd (eBin opMul (eC (.int 64)) (eBin opIx (eVar 0) (eC (.int 1)))) (eVar 6)) aNil))))))
    (sAsg 5 (eBin opMul (eVar 5) (eC (.int 288230376151711744))))) sNil))
    (sRet (eBin opMod (eCall (fn1 intD) (aCons (eVar 3) aNil)) (eVar 1))))))))))))
def m_law_take : List D → FR := runB [true, false] 5 t_law_take
theorem ok_law_take (T : Txt K mg) (hF : ∃ fd, FunD K "_law_take" "_law_take" (defArgs st_law_take) (defBody st_law_take) (defScope st_law_take) [] [] (He.ga K "_law_take") fd) (hm : mg "_law_take" = some (.ref (He.ga K "_law_take"))) (F_law_mix : Fn P w K mg base "_law_mix" 1 [] [false, false, false] m_law_mix) : Fn P w K mg base "_law_take" 2 [] [true, false] m_law_take := by
  obtain ⟨fd, F⟩ := hF
  have nd := sc_law_take.nd
  refine ⟨_, fd, ["store", "many"], [], hm, F.kp, F.bindsN (fun _ _ _ _ _ _ us hl => match us, hl with | [_, _], _ => rfl), .nil, fn_deep (N := nm_law_take) (t := t_law_take) F sc_law_take rfl (by decide) fun cdv A outer s H vs E hr => ?_⟩
  have hu := hr.units
  have po := passes_of (X := cxD P w K mg base nm_law_take "_law_take" (defScope st_law_take) (He.ga K "_law_take") cdv A outer s H E) rfl
  exact (db_cons (ds_if (dt_cmp op_lt op2_lt (de_var (pv 1)) de_int)
    (db_one (ds_ret de_int)) db_nil)
    (db_cons (ds_sub (de_op opr_add op2_add (de_ix (de_var (pv 0)) de_int) de_int) (de_var (pv 0)) de_int)
    (db_cons (ds_if (DW.pt (dw_and (dt_cmp op_lt op2_lt (de_ix (de_var (pv 0)) de_int) de_int) (dw_and (dt_cmp op_lt op2_lt (de_ix (de_var (pv 0)) de_int) de_int) (dw_and1 (dt_cmp op_lt op2_lt (de_ix (de_var (pv 0)) de_int) (de_callB call_len opn_len T.b_len (by decide +kernel) (da_cons (de_ix (de_var (pv 0)) de_int) da_nil)))))))
    (db_cons (ds_asg (i := 2) nd rfl (de_ix (de_ix (de_var (pv 0)) de_int) (de_ix (de_var (pv 0)) de_int)))
    (db_cons (ds_sub (de_op opr_add op2_add (de_ix (de_var (pv 0)) de_int) de_int) (de_var (pv 0)) de_int)
    (db_one (ds_if (dt_cmp (op_eq.or (op_eqD hu)) op2_eq (de_ix (de_var (pv 2)) de_int) de_int)
    (db_one (ds_sub (de_ix (de_var (pv 2)) de_int) (de_var (pv 0)) de_int)) (db_one (ds_sub de_int (de_var (pv 0)) de_int)))))) db_nil)
    (db_cons (ds_if (dt_cmp op_gt op2_gt (de_ix (de_var (pv 0)) de_int) de_int)
    (db_cons (ds_asg (i := 3) nd rfl (de_op op_mod op2_mod (de_callTy call_int1 opn_int T.b_int (by decide +kernel) (da_cons (de_ix (de_var (pv 0)) de_int) da_nil)) (de_var (pv 1))))
    (db_cons (ds_sub (de_op op_fdivW op2_div (de_callTy call_int1 opn_int T.b_int (by decide +kernel) (da_cons (de_ix (de_var (pv 0)) de_int) da_nil)) (de_var (pv 1))) (de_var (pv 0)) de_int)
    (db_one (ds_ret (de_var (pv 3)))))) db_nil)
    (db_cons (ds_asg (i := 4) nd rfl (de_ix (de_var (pv 0)) de_int))
    (db_cons (ds_if (dt_cmp op_gt op2_gt (de_ix (de_var (pv 0)) de_int) de_int)
    (db_cons (ds_sub (de_op op_sub op2_sub (de_ix (de_var (pv 0)) de_int) de_int) (de_var (pv 0)) de_int)
    (db_one (ds_asg (i := 4) nd rfl (de_ix (de_ix (de_ix (de_var (pv 0)) de_int) (de_op op_sub op2_sub (de_ix (de_var (pv 0)) de_int) de_int)) de_int)))) db_nil)
    (db_cons (ds_asg (i := 3) nd rfl de_int)
    (db_cons (ds_asg (i := 5) nd rfl de_int)
    (db_cons (ds_for po rfl (di_range1 T.b_range (da_cons de_int da_nil)) (dtg_nm nd rfl)
    (db_one (ds_if (dt_cmp op_lt op2_lt (de_var (pv 5)) (de_op op_mulX op2_mul (de_var (pv 1)) de_int))
    (db_cons (ds_asg (i := 3) nd rfl (de_op opr_add op2_add (de_op op_mulX op2_mul (de_var (pv 3)) de_int) (de_fn F_law_mix hr (ha := (da_cons (de_var (pv 4)) (da_cons (de_ix (de_var (pv 0)) de_int) (da_cons (de_op opr_add op2_add (de_op op_mulX op2_mul de_int (de_ix (de_var (pv 0)) de_int)) (de_var (pv 6))) da_nil)))))))
    (db_one (ds_asg (i := 5) nd rfl (de_op op_mulX op2_mul (de_var (pv 5)) de_int)))) db_nil)))
    (db_one (ds_ret (de_op op_mod op2_mod (de_callTy call_int1 opn_int T.b_int (by decide +kernel) (da_cons (de_var (pv 3)) da_nil)) (de_var (pv 1))))))))))))))
abbrev st_law_same : Stmt := top 43
abbrev nm_law_same : List Str := ["actual", "due", "pairs", "level", "deeper", "pair", "k"]
theorem sc_law_same : FnScope nm_law_same ["actual", "due"] (defScope st_law_same) := ⟨rfl, rfl, rfl, by decide +kernel, rfl, by decide +kernel, by decide +kernel⟩
def t_law_same : TDS :=
  (sSeq (sAsg 2 (gFz (gDis .lst (aCons (gFz (gDis .tup (aCons (eVar 0) (aCons (eVar 1) aNil)))) aNil))))
    (sSeq (sFor (.nm 3) (iRng rngF1 (aCons (eC (.int 9)) aNil))
    (sSeq (sAsgG 4 (gDis .lst aNil))
    (sSeq (sFor (.nm 5) (iSeq (eVar 2))
    (sIf (bOr (eT (eCall (fn2 isiD) (aCons (eBin opIx (eVar 5) (eC (.int 1))) (aCons (eC (.ty "tuple")) aNil)))) (eT (eCall (fn2 isiD) (aCons (eBin opIx (eVar 5) (eC (.int 1))) (aCons (eC (.ty "list")) aNil)))))
    (sSeq (sIf (eT (eBin (opEq true) (eCall (fn2 isiD) (aCons (eBin opIx (eVar 5) (eC (.int 1))) (aCons (eC (.ty "tuple")) aNil))) (eCall (fn2 isiD) (aCons (eBin opIx (eVar 5) (eC (.int 0))) (aCons (eC (.ty "tuple")) aNil)))))
    (sRet (eC (.bl false))) sNil)
    (sSeq (sIf (eT (eBin (opEq true) (eCall (fn2 isiD) (aCons (eBin opIx (eVar 5) (eC (.int 1))) (aCons (eC (.ty "list")) aNil))) (eCall (fn2 isiD) (aCons (eBin opIx (eVar 5) (eC (.int 0))) (aCons (eC (.ty "list")) aNil)))))
    (sRet (eC (.bl false))) sNil)
    (sSeq (sIf (eT (eBin (opEq true) (eCall (fn1 lenD) (aCons (eBin opIx (eVar 5) (eC (.int 0))) aNil)) (eCall (fn1 lenD) (aCons (eBin opIx (eVar 5) (eC (.int 1))) aNil))))
    (sRet (eC (.bl false))) sNil)
    (sFor (.nm 6) (iRng rngF1 (aCons (eCall (fn1 lenD) (aCons (eBin opIx (eVar 5) (eC (.int 1))) aNil)) aNil))
    (sExpr (eMut lmApp (eVar 4) (aCons (gFz (gDis .tup (aCons (eBin opIx (eBin opIx (eVar 5) (eC (.int 0))) (eVar 6)) (aCons (eBin opIx (eBin opIx (eVar 5) (eC (.int 1))) (eVar 6)) aNil)))) aNil))))))) (sIf (bNot (eT (eFn [false, false] m_law_same_leaf (aCons (eBin opIx (eVar 5) (eC (.int 0))) (aCons (eBin opIx (eVar 5) (eC (.int 1))) aNil)))))
    (sRet (eC (.bl false))) sNil)))
    (sAsg 2 (gFz (gCall fnL (aCons (eVar 4) aNil)))))))
    (sRet (eBin (opEq false) (eCall (fn1 lenD) (aCons (eVar 2) aNil)) (eC (.int 0))))))
def m_law_same : List D → FR := runB [false, false] 5 t_law_same
theorem ok_law_same (T : Txt K mg) (hF : ∃ fd, FunD K "_law_same" "_law_same" (defArgs st_law_same) (defBody st_law_same) (defScope st_law_same) [] [] (He.ga K "_law_same") fd) (hm : mg "_law_same" = some (.ref (He.ga K "_law_same"))) (F_law_same_leaf : Fn P w K mg base "_law_same_leaf" 1 [] [false, false] m_law_same_leaf) : Fn P w K mg base "_law_same" 2 [] [false, false] m_law_same := by
  obtain ⟨fd, F⟩ := hF
  have nd := sc_law_same.nd
  refine ⟨_, fd, ["actual", "due"], [], hm, F.kp, F.bindsN (fun _ _ _ _ _ _ us hl => match us, hl with | [_, _], _ => rfl), .nil, fn_deep (N := nm_law_same) (t := t_law_same) F sc_law_same rfl (by decide) fun cdv A outer s H vs E hr => ?_⟩
  have hu := hr.units
  have po := passes_of (X := cxD P w K mg base nm_law_same "_law_same" (defScope st_law_same) (He.ga K "_law_same") cdv A outer s H E) rfl
  exact (db_cons (ds_asg (i := 2) nd rfl (de_lst (da_cons (de_tup (da_cons (de_var (pv 0)) (da_cons (de_var (pv 1)) da_nil))) da_nil)))
    (db_cons (ds_for po rfl (di_range1 T.b_range (da_cons de_int da_nil)) (dtg_nm nd rfl)
    (db_cons (ds_asgG (i := 4) nd rfl (dg_lst (by decide) da_nil))
    (db_cons (ds_for po rfl (di_seq (de_var (pv 2))) (dtg_nm nd rfl)
    (db_one (ds_if (DW.pt (dw_or (dt_val (de_callB call_isi opn_isi T.b_isinstance (by decide +kernel) (da_cons (de_ix (de_var (pv 5)) de_int) (da_cons (de_ty T.b_tuple (by decide +kernel)) da_nil)))) (dw_or1 (dt_val (de_callB call_isi opn_isi T.b_isinstance (by decide +kernel) (da_cons (de_ix (de_var (pv 5)) de_int) (da_cons (de_ty T.b_list (by decide +kernel)) da_nil)))))))
    (db_cons (ds_if (dt_cmp (op_ne.or (op_neD hu)) op2_ne (de_callB call_isi opn_isi T.b_isinstance (by decide +kernel) (da_cons (de_ix (de_var (pv 5)) de_int) (da_cons (de_ty T.b_tuple (by decide +kernel)) da_nil))) (de_callB call_isi opn_isi T.b_isinstance (by decide +kernel) (da_cons (de_ix (de_var (pv 5)) de_int) (da_cons (de_ty T.b_tuple (by decide +kernel)) da_nil))))
    (db_one (ds_ret de_bl)) db_nil)
    (db_cons (ds_if (dt_cmp (op_ne.or (op_neD hu)) op2_ne (de_callB call_isi opn_isi T.b_isinstance (by decide +kernel) (da_cons (de_ix (de_var (pv 5)) de_int) (da_cons (de_ty T.b_list (by decide +kernel)) da_nil))) (de_callB call_isi opn_isi T.b_isinstance (by decide +kernel) (da_cons (de_ix (de_var (pv 5)) de_int) (da_cons (de_ty T.b_list (by decide +kernel)) da_nil))))
    (db_one (ds_ret de_bl)) db_nil)
    (db_cons (ds_if (dt_cmp (op_ne.or (op_neD hu)) op2_ne (de_callB call_len opn_len T.b_len (by decide +kernel) (da_cons (de_ix (de_var (pv 5)) de_int) da_nil)) (de_callB call_len opn_len T.b_len (by decide +kernel) (da_cons (de_ix (de_var (pv 5)) de_int) da_nil)))
    (db_one (ds_ret de_bl)) db_nil)
    (db_one (ds_for po rfl (di_range1 T.b_range (da_cons (de_callB call_len opn_len T.b_len (by decide +kernel) (da_cons (de_ix (de_var (pv 5)) de_int) da_nil)) da_nil)) (dtg_nm nd rfl)
    (db_one (ds_expr (de_mut PySem.F.slot_list_append PySem.F.type_list_append mt_append mtl_app (de_var (pv 4)) (da_cons (de_tup (da_cons (de_ix (de_ix (de_var (pv 5)) de_int) (de_var (pv 6))) (da_cons (de_ix (de_ix (de_var (pv 5)) de_int) (de_var (pv 6))) da_nil))) da_nil))))))))) (db_one (ds_if (dt_not (dt_val (de_fn F_law_same_leaf hr (ha := (da_cons (de_ix (de_var (pv 5)) de_int) (da_cons (de_ix (de_var (pv 5)) de_int) da_nil))))))
    (db_one (ds_ret de_bl)) db_nil)))))
    (db_one (ds_asg (i := 2) nd rfl (de_g (dg_callTy call_list_of (opn_list (by decide)) T.b_list (by decide +kernel) (da_cons (de_var (pv 4)) da_nil))))))))
    (db_one (ds_ret (de_cmp (op_eq.or (op_eqD hu)) op2_eq (de_callB call_len opn_len T.b_len (by decide +kernel) (da_cons (de_var (pv 2)) da_nil)) de_int)))))
abbrev st_law_refusal : Stmt := top 45
abbrev nm_law_refusal : List Str := ["e", "told"]
theorem sc_law_refusal : FnScope nm_law_refusal ["e"] (defScope st_law_refusal) := ⟨rfl, rfl, rfl, by decide +kernel, rfl, by decide +kernel, by decide +kernel⟩
def tE_law_refusal : TDS :=
  (sSeq (sAsg 1 (eBin opAdd (eFn [false] mE_law_refusal_one (aCons (eVar 0) aNil)) (eFn [false] mE_law_refusal_two (aCons (eVar 0) aNil))))
    (sSeq (sIf (bAnd (eT (eBin (opEq false) (eCall (fn1 lenD) (aCons (eVar 1) aNil)) (eC (.int 1)))) (bAnd (eT (eCall (fn2 isX) (aCons (eVar 0) (aCons (eC (.cls "Refused")) aNil)))) (eT (eCall (fn2 isX) (aCons (eVar 0) (aCons (eC (.ty "ValueError")) aNil))))))
    (sRet (eBin opIx (eVar 1) (eC (.int 0)))) sNil)
    (sRet (eC .non))))
def mE_law_refusal : List D → FR := noX (runB [false] 1 tE_law_refusal)
theorem okE_law_refusal (T : Txt K mg) (hF : ∃ fd, FunD K "_law_refusal" "_law_refusal" (defArgs st_law_refusal) (defBody st_law_refusal) (defScope st_law_refusal) [] [] (He.ga K "_law_refusal") fd) (hm : mg "_law_refusal" = some (.ref (He.ga K "_law_refusal"))) (E_law_refusal_one : FnE P w K mg base "_law_refusal_one" 1 [false] mE_law_refusal_one raisedC) (E_law_refusal_two : FnE P w K mg base "_law_refusal_two" 1 [false] mE_law_refusal_two raisedC) (TX : ExcT K "Refused" excAll raisedC excFields) : FnE P w K mg base "_law_refusal" 2 [false] mE_law_refusal raisedC := by
  obtain ⟨fd, F⟩ := hF
  have nd := sc_law_refusal.nd
  refine fn_deepE (N := nm_law_refusal) (ps := ["e"]) (t := tE_law_refusal) F hm (F.bindsN fun _ _ _ _ _ _ us hl => match us, hl with | [_], _ => rfl) sc_law_refusal rfl (by decide) fun cdv A outer s H vs E a oe c d hr hot => ?_
  have hu := hu_hot hr
  exact (db_cons (ds_asg (i := 1) nd rfl (de_op opr_add op2_add (de_fnE E_law_refusal_one hot hr (da_cons (de_var (pv 0)) da_nil)) (de_fnE E_law_refusal_two hot hr (da_cons (de_var (pv 0)) da_nil))))
    (db_cons (ds_if (DW.pt (dw_and (dt_cmp (op_eq.or (op_eqD hu)) op2_eq (de_callB call_len opn_len T.b_len (by decide +kernel) (da_cons (de_var (pv 1)) da_nil)) de_int) (dw_and (dt_val (de_isX TX hot T.b_isinstance (da_cons (de_var (pv 0)) (da_cons (de_cls T.c_Refused) da_nil)))) (dw_and1 (dt_val (de_isX TX hot T.b_isinstance (da_cons (de_var (pv 0)) (da_cons (de_ty T.b_ValueError (by decide +kernel)) da_nil))))))))
    (db_one (ds_ret (de_ix (de_var (pv 1)) de_int))) db_nil)
    (db_one (ds_ret de_non))))
abbrev st_law_is_ways : Stmt := top 50
abbrev nm_law_is_ways : List Str := ["told", "n", "k"]
theorem sc_law_is_ways : FnScope nm_law_is_ways ["told", "n", "k"] (defScope st_law_is_ways) := ⟨rfl, rfl, rfl, by decide +kernel, rfl, by decide +kernel, by decide +kernel⟩
def t_law_is_ways : TDS :=
  (sSeq (sIf (bNot (eT (eFn [false] m_law_is_int (aCons (eVar 0) aNil))))
    (sRet (eC (.bl false))) sNil)
    (sSeq (sIf (bOr (eT (eBin opLt (eVar 2) (eC (.int 0)))) (eT (eBin opGt (eVar 2) (eVar 1))))
    (sRet (eBin (opEq false) (eVar 0) (eC (.int 0)))) sNil)
    (sRet (eBin (opEq false) (eBin opMul (eBin opMul (eVar 0) (eFn [false] m_law_factorial (aCons (eVar 2) aNil))) (eFn [false] m_law_factorial (aCons (eBin opSub (eVar 1) (eVar 2)) aNil))) (eFn [false] m_law_factorial (aCons (eVar 1) aNil))))))
def m_law_is_ways : List D → FR := runB [false, false, false] 0 t_law_is_ways
theorem ok_law_is_ways (T : Txt K mg) (hF : ∃ fd, FunD K "_law_is_ways" "_law_is_ways" (defArgs st_law_is_ways) (defBody st_law_is_ways) (defScope st_law_is_ways) [] [] (He.ga K "_law_is_ways") fd) (hm : mg "_law_is_ways" = some (.ref (He.ga K "_law_is_ways"))) (F_law_is_int : Fn P w K mg base "_law_is_int" 1 [] [false] m_law_is_int) (F_law_factorial : Fn P w K mg base "_law_factorial" 1 [] [false] m_law_factorial) : Fn P w K mg base "_law_is_ways" 2 [] [false, false, false] m_law_is_ways := by
  obtain ⟨fd, F⟩ := hF
  have nd := sc_law_is_ways.nd
  refine ⟨_, fd, ["told", "n", "k"], [], hm, F.kp, F.bindsN (fun _ _ _ _ _ _ us hl => match us, hl with | [_, _, _], _ => rfl), .nil, fn_deep (N := nm_law_is_ways) (t := t_law_is_ways) F sc_law_is_ways rfl (by decide) fun cdv A outer s H vs E hr => ?_⟩
  have hu := hr.units
  have po := passes_of (X := cxD P w K mg base nm_law_is_ways "_law_is_ways" (defScope st_law_is_ways) (He.ga K "_law_is_ways") cdv A outer s H E) rfl
  exact (db_cons (ds_if (dt_not (dt_val (de_fn F_law_is_int hr (ha := (da_cons (de_var (pv 0)) da_nil)))))
    (db_one (ds_ret de_bl)) db_nil)
    (db_cons (ds_if (DW.pt (dw_or (dt_cmp op_lt op2_lt (de_var (pv 2)) de_int) (dw_or1 (dt_cmp op_gt op2_gt (de_var (pv 2)) (de_var (pv 1))))))
    (db_one (ds_ret (de_cmp (op_eq.or (op_eqD hu)) op2_eq (de_var (pv 0)) de_int))) db_nil)
    (db_one (ds_ret (de_cmp (op_eq.or (op_eqD hu)) op2_eq (de_op op_mulX op2_mul (de_op op_mulX op2_mul (de_var (pv 0)) (de_fn F_law_factorial hr (ha := (da_cons (de_var (pv 2)) da_nil)))) (de_fn F_law_factorial hr (ha := (da_cons (de_op op_sub op2_sub (de_var (pv 1)) (de_var (pv 2))) da_nil)))) (de_fn F_law_factorial hr (ha := (da_cons (de_var (pv 1)) da_nil))))))))
abbrev st_law_is_cycles : Stmt := top 54
abbrev nm_law_is_cycles : List Str := ["told", "r", "base", "value", "power", "part", "due", "k"]
theorem sc_law_is_cycles : FnScope nm_law_is_cycles ["told", "r"] (defScope st_law_is_cycles) := ⟨rfl, rfl, rfl, by decide +kernel, rfl, by decide +kernel, by decide +kernel⟩
def t_law_is_cycles : TDS :=
  (sSeq (sIf (bOr (bNot (eT (eCall (fn2 isiD) (aCons (eVar 0) (aCons (eC (.ty "tuple")) aNil))))) (eT (eBin (opEq true) (eCall (fn1 lenD) (aCons (eVar 0) aNil)) (eBin opAdd (eVar 1) (eC (.int 1))))))
    (sRet (eC (.bl false))) sNil)
    (sSeq (sAsg 2 (eBin opPow (eC (.int 10)) (eC (.int 60))))
    (sSeq (sAsg 3 (eC (.int 0)))
    (sSeq (sAsg 4 (eC (.int 1)))
    (sSeq (sFor (.nm 5) (iSeq (eVar 0))
    (sSeq (sIf (bOr (bNot (eT (eFn [false] m_law_is_int (aCons (eVar 5) aNil)))) (bOr (eT (eBin opLt (eVar 5) (eC (.int 0)))) (eT (eBin opGe (eVar 5) (eVar 2)))))
    (sRet (eC (.bl false))) sNil)
    (sSeq (sAsg 3 (eBin opAdd (eVar 3) (eBin opMul (eVar 5) (eVar 4))))
    (sAsg 4 (eBin opMul (eVar 4) (eVar 2))))))
    (sSeq (sAsg 6 (eC (.int 1)))
    (sSeq (sFor (.nm 7) (iRng rngF1 (aCons (eVar 1) aNil))
    (sAsg 6 (eBin opMul (eVar 6) (eBin opAdd (eVar 2) (eVar 7)))))
    (sRet (eBin (opEq false) (eVar 3) (eVar 6))))))))))
def m_law_is_cycles : List D → FR := runB [false, false] 6 t_law_is_cycles
theorem ok_law_is_cycles (T : Txt K mg) (hF : ∃ fd, FunD K "_law_is_cycles" "_law_is_cycles" (defArgs st_law_is_cycles) (defBody st_law_is_cycles) (defScope st_law_is_cycles) [] [] (He.ga K "_law_is_cycles") fd) (hm : mg "_law_is_cycles" = some (.ref (He.ga K "_law_is_cycles"))) (F_law_is_int : Fn P w K mg base "_law_is_int" 1 [] [false] m_law_is_int) : Fn P w K mg base "_law_is_cycles" 2 [] [false, false] m_law_is_cycles := by
  obtain ⟨fd, F⟩ := hF
  have nd := sc_law_is_cycles.nd
  refine ⟨_, fd, ["told", "r"], [], hm, F.kp, F.bindsN (fun _ _ _ _ _ _ us hl => match us, hl with | [_, _], _ => rfl), .nil, fn_deep (N := nm_law_is_cycles) (t := t_law_is_cycles) F sc_law_is_cycles rfl (by decide) fun cdv A outer s H vs E hr => ?_⟩
  have hu := hr.units
  have po := passes_of (X := cxD P w K mg base nm_law_is_cycles "_law_is_cycles" (defScope st_law_is_cycles) (He.ga K "_law_is_cycles") cdv A outer s H E) rfl
  exact (db_cons (ds_if (DW.pt (dw_or (dt_not (dt_val (de_callB call_isi opn_isi T.b_isinstance (by decide +kernel) (da_cons (de_var (pv 0)) (da_cons (de_ty T.b_tuple (by decide +kernel)) da_nil))))) (dw_or1 (dt_cmp (op_ne.or (op_neD hu)) op2_ne (de_callB call_len opn_len T.b_len (by decide +kernel) (da_cons (de_var (pv 0)) da_nil)) (de_op opr_add op2_add (de_var (pv 1)) de_int)))))
    (db_one (ds_ret de_bl)) db_nil)
    (db_cons (ds_asg (i := 2) nd rfl (de_op op_pow op2_pow de_int de_int))
    (db_cons (ds_asg (i := 3) nd rfl de_int)
    (db_cons (ds_asg (i := 4) nd rfl de_int)
    (db_cons (ds_for po rfl (di_seq (de_var (pv 0))) (dtg_nm nd rfl)
    (db_cons (ds_if (DW.pt (dw_or (dt_not (dt_val (de_fn F_law_is_int hr (ha := (da_cons (de_var (pv 5)) da_nil))))) (dw_or (dt_cmp op_lt op2_lt (de_var (pv 5)) de_int) (dw_or1 (dt_cmp op_ge op2_ge (de_var (pv 5)) (de_var (pv 2)))))))
    (db_one (ds_ret de_bl)) db_nil)
    (db_cons (ds_asg (i := 3) nd rfl (de_op opr_add op2_add (de_var (pv 3)) (de_op op_mulX op2_mul (de_var (pv 5)) (de_var (pv 4)))))
    (db_one (ds_asg (i := 4) nd rfl (de_op op_mulX op2_mul (de_var (pv 4)) (de_var (pv 2))))))))
    (db_cons (ds_asg (i := 6) nd rfl de_int)
    (db_cons (ds_for po rfl (di_range1 T.b_range (da_cons (de_var (pv 1)) da_nil)) (dtg_nm nd rfl)
    (db_one (ds_asg (i := 6) nd rfl (de_op op_mulX op2_mul (de_var (pv 6)) (de_op opr_add op2_add (de_var (pv 2)) (de_var (pv 7)))))))
    (db_one (ds_ret (de_cmp (op_eq.or (op_eqD hu)) op2_eq (de_var (pv 3)) (de_var (pv 6))))))))))))
abbrev st_ways : Stmt := top 29
abbrev nm_ways : List Str := ["n", "k", "number", "taken"]
theorem sc_ways : FnScope nm_ways ["n", "k"] (defScope st_ways) := ⟨rfl, rfl, rfl, by decide +kernel, rfl, by decide +kernel, by decide +kernel⟩
def t_ways : TDS :=
  (sSeq (sIf (eT (eBin opLt (eVar 0) (eC (.int 0))))
    (sRaise "BadNumber" ["what"] (aCons (eC (.str "n")) aNil)) sNil)
    (sSeq (sIf (eT (eBin opGt (eVar 0) (eC (.int 1000))))
    (sRaise "TooMany" ["what", "limit"] (aCons (eC (.str "n")) (aCons (eC (.int 1000)) aNil))) sNil)
    (sSeq (sIf (bOr (eT (eBin opLt (eVar 1) (eC (.int 0)))) (eT (eBin opGt (eVar 1) (eVar 0))))
    (sRet (eC (.int 0))) sNil)
    (sSeq (sAsg 2 (eC (.int 1)))
    (sSeq (sFor (.nm 3) (iRng rngF1 (aCons (eCall (fn2 min2D) (aCons (eVar 1) (aCons (eBin opSub (eVar 0) (eVar 1)) aNil))) aNil))
    (sAsg 2 (eBin opDiv (eBin opMul (eVar 2) (eBin opSub (eVar 0) (eVar 3))) (eBin opAdd (eVar 3) (eC (.int 1))))))
    (sRet (eVar 2)))))))
def m_ways : List D → FR := runB [false, false] 2 t_ways
theorem ok_ways (T : Txt K mg) (hF : ∃ fd, FunD K "ways" "ways" (defArgs st_ways) (defBody st_ways) (defScope st_ways) [] [] (He.ga K "ways") fd) (hm : mg "ways" = some (.ref (He.ga K "ways"))) (XX_BadNumber : ExcF P w K mg base "BadNumber" ["what"]) (XX_TooMany : ExcF P w K mg base "TooMany" ["what", "limit"]) : Fn P w K mg base "ways" 3 [] [false, false] m_ways := by
  obtain ⟨fd, F⟩ := hF
  have nd := sc_ways.nd
  refine ⟨_, fd, ["n", "k"], [], hm, F.kp, F.bindsN (fun _ _ _ _ _ _ us hl => match us, hl with | [_, _], _ => rfl), .nil, fn_deep (N := nm_ways) (t := t_ways) F sc_ways rfl (by decide) fun cdv A outer s H vs E hr => ?_⟩
  have hu := hr.units
  have po := passes_of (X := cxD P w K mg base nm_ways "ways" (defScope st_ways) (He.ga K "ways") cdv A outer s H E) rfl
  exact (db_cons (ds_if (dt_cmp op_lt op2_lt (de_var (pv 0)) de_int)
    (db_one (ds_raise XX_BadNumber rfl hr (da_cons de_str da_nil))) db_nil)
    (db_cons (ds_if (dt_cmp op_gt op2_gt (de_var (pv 0)) (de_gint T.c_MOST_THINGS))
    (db_one (ds_raise XX_TooMany rfl hr (da_cons de_str (da_cons (de_gint T.c_MOST_THINGS) da_nil)))) db_nil)
    (db_cons (ds_if (DW.pt (dw_or (dt_cmp op_lt op2_lt (de_var (pv 1)) de_int) (dw_or1 (dt_cmp op_gt op2_gt (de_var (pv 1)) (de_var (pv 0))))))
    (db_one (ds_ret de_int)) db_nil)
    (db_cons (ds_asg (i := 2) nd rfl de_int)
    (db_cons (ds_for po rfl (di_range1 T.b_range (da_cons (de_callB (call_min2 rfl) opn_min2 T.b_min (by decide +kernel) (da_cons (de_var (pv 1)) (da_cons (de_op op_sub op2_sub (de_var (pv 0)) (de_var (pv 1))) da_nil))) da_nil)) (dtg_nm nd rfl)
    (db_one (ds_asg (i := 2) nd rfl (de_op op_fdivW op2_div (de_op op_mulX op2_mul (de_var (pv 2)) (de_op op_sub op2_sub (de_var (pv 0)) (de_var (pv 3)))) (de_op opr_add op2_add (de_var (pv 3)) de_int)))))
    (db_one (ds_ret (de_var (pv 2)))))))))
abbrev st_cycle_counts : Stmt := top 31
abbrev nm_cycle_counts : List Str := ["r", "row", "things", "alone", "joined", "part", "one", "two"]
theorem sc_cycle_counts : FnScope nm_cycle_counts ["r"] (defScope st_cycle_counts) := ⟨rfl, rfl, rfl, by decide +kernel, rfl, by decide +kernel, by decide +kernel⟩
def t_cycle_counts : TDS :=
  (sSeq (sIf (eT (eBin opLt (eVar 0) (eC (.int 0))))
    (sRaise "BadNumber" ["what"] (aCons (eC (.str "r")) aNil)) sNil)
    (sSeq (sIf (eT (eBin opGt (eVar 0) (eC (.int 40))))
    (sRaise "TooMany" ["what", "limit"] (aCons (eC (.str "r")) (aCons (eC (.int 40)) aNil))) sNil)
    (sSeq (sAsg 1 (gFz (gDis .lst (aCons (eC (.int 1)) aNil))))
    (sSeq (sFor (.nm 2) (iRng rngF1 (aCons (eVar 0) aNil))
    (sSeq (sAsg 3 (eBin opAdd (gFz (gDis .lst (aCons (eC (.int 0)) aNil))) (eVar 1)))
    (sSeq (sAsg 4 (eBin opAdd (gFz (gComp [5] (.nm 5) (iSeq (eVar 1)) tYesD (eBin opMul (eVar 2) (eVar 5)))) (gFz (gDis .lst (aCons (eC (.int 0)) aNil)))))
    (sAsg 1 (gFz (gComp [6, 7] (.tp [6, 7]) (iZp (aCons (eVar 3) (aCons (eVar 4) aNil))) tYesD (eBin opAdd (eVar 6) (eVar 7))))))))
    (sRet (eCall (fn1 tupD) (aCons (eVar 1) aNil)))))))
def m_cycle_counts : List D → FR := runB [false] 7 t_cycle_counts
theorem ok_cycle_counts (T : Txt K mg) (hF : ∃ fd, FunD K "cycle_counts" "cycle_counts" (defArgs st_cycle_counts) (defBody st_cycle_counts) (defScope st_cycle_counts) [] [] (He.ga K "cycle_counts") fd) (hm : mg "cycle_counts" = some (.ref (He.ga K "cycle_counts"))) (XX_BadNumber : ExcF P w K mg base "BadNumber" ["what"]) (XX_TooMany : ExcF P w K mg base "TooMany" ["what", "limit"]) : Fn P w K mg base "cycle_counts" 3 [] [false] m_cycle_counts := by
  obtain ⟨fd, F⟩ := hF
  have nd := sc_cycle_counts.nd
  refine ⟨_, fd, ["r"], [], hm, F.kp, F.bindsN (fun _ _ _ _ _ _ us hl => match us, hl with | [_], _ => rfl), .nil, fn_deep (N := nm_cycle_counts) (t := t_cycle_counts) F sc_cycle_counts rfl (by decide) fun cdv A outer s H vs E hr => ?_⟩
  have hu := hr.units
  have po := passes_of (X := cxD P w K mg base nm_cycle_counts "cycle_counts" (defScope st_cycle_counts) (He.ga K "cycle_counts") cdv A outer s H E) rfl
  exact (db_cons (ds_if (dt_cmp op_lt op2_lt (de_var (pv 0)) de_int)
    (db_one (ds_raise XX_BadNumber rfl hr (da_cons de_str da_nil))) db_nil)
    (db_cons (ds_if (dt_cmp op_gt op2_gt (de_var (pv 0)) (de_gint T.c_MOST_RINGS))
    (db_one (ds_raise XX_TooMany rfl hr (da_cons de_str (da_cons (de_gint T.c_MOST_RINGS) da_nil)))) db_nil)
    (db_cons (ds_asg (i := 1) nd rfl (de_lst (da_cons de_int da_nil)))
    (db_cons (ds_for po rfl (di_range1 T.b_range (da_cons (de_var (pv 0)) da_nil)) (dtg_nm nd rfl)
    (db_cons (ds_asg (i := 3) nd rfl (de_op opr_add op2_add (de_lst (da_cons de_int da_nil)) (de_var (pv 1))))
    (db_cons (ds_asg (i := 4) nd rfl (de_op opr_add op2_add (de_g (dg_lc (own := [("part", 5)]) (by decide) rfl nd (di_seq (de_var (pv 1))) (blkOk_by (own := [("part", 5)]) (N := nm_cycle_counts) (sc := defScope st_cycle_counts) (by decide +kernel)) (fun _ _ _ _ _ => (dtg_nm nd rfl)) (fun _ _ _ _ _ => difs_nil) (fun _ _ _ _ _ => (de_op op_mulX op2_mul (de_var (pv 2)) (de_var (pv 5)))))) (de_lst (da_cons de_int da_nil))))
    (db_one (ds_setLc (own := [("one", 6), ("two", 7)]) (i := 1) false rfl nd rfl rfl (sw_true rfl rfl rfl (by decide +kernel)) (di_zip T.b_zip (da_cons (de_var (pv 3)) (da_cons (de_var (pv 4)) da_nil))) (blkOk_by (own := [("one", 6), ("two", 7)]) (N := nm_cycle_counts) (sc := defScope st_cycle_counts) (by decide +kernel)) (fun _ _ _ _ _ => (dtg_tp rfl (pn_cons (i := 6) nd rfl (pn_cons (i := 7) nd rfl pn_nil)))) (fun _ _ _ _ _ => difs_nil) (fun _ _ _ _ _ => (de_op opr_add op2_add (de_var (pv 6)) (de_var (pv 7)))))))))
    (db_one (ds_ret (de_callTy call_tuple_of opn_tuple T.b_tuple (by decide +kernel) (da_cons (de_var (pv 1)) da_nil))))))))
abbrev st_law_between : Stmt := top 36
abbrev nm_law_between : List Str := ["store", "low", "high"]
theorem sc_law_between : FnScope nm_law_between ["store", "low", "high"] (defScope st_law_between) := ⟨rfl, rfl, rfl, by decide +kernel, rfl, by decide +kernel, by decide +kernel⟩
def t_law_between : TDS :=
  (sRet (eBin opAdd (eVar 1) (eFn [true, false] m_law_take (aCons (eVar 0) (aCons (eBin opAdd (eBin opSub (eVar 2) (eVar 1)) (eC (.int 1))) aNil)))))
def m_law_between : List D → FR := runB [true, false, false] 0 t_law_between
theorem ok_law_between (T : Txt K mg) (hF : ∃ fd, FunD K "_law_between" "_law_between" (defArgs st_law_between) (defBody st_law_between) (defScope st_law_between) [] [] (He.ga K "_law_between") fd) (hm : mg "_law_between" = some (.ref (He.ga K "_law_between"))) (F_law_take : Fn P w K mg base "_law_take" 2 [] [true, false] m_law_take) : Fn P w K mg base "_law_between" 3 [] [true, false, false] m_law_between := by
  obtain ⟨fd, F⟩ := hF
  have nd := sc_law_between.nd
  refine ⟨_, fd, ["store", "low", "high"], [], hm, F.kp, F.bindsN (fun _ _ _ _ _ _ us hl => match us, hl with | [_, _, _], _ => rfl), .nil, fn_deep (N := nm_law_between) (t := t_law_between) F sc_law_between rfl (by decide) fun cdv A outer s H vs E hr => ?_⟩
  have hu := hr.units
  have po := passes_of (X := cxD P w K mg base nm_law_between "_law_between" (defScope st_law_between) (He.ga K "_law_between") cdv A outer s H E) rfl
  exact (db_one (ds_ret (de_op opr_add op2_add (de_var (pv 1)) (de_fn F_law_take hr (ha := (da_cons (de_var (pv 0)) (da_cons (de_op opr_add op2_add (de_op op_sub op2_sub (de_var (pv 2)) (de_var (pv 1))) de_int) da_nil)))))))
abbrev st_law_pick : Stmt := top 37
abbrev nm_law_pick : List Str := ["store", "items"]
theorem sc_law_pick : FnScope nm_law_pick ["store", "items"] (defScope st_law_pick) := ⟨rfl, rfl, rfl, by decide +kernel, rfl, by decide +kernel, by decide +kernel⟩
def t_law_pick : TDS :=
  (sRet (eBin opIx (eVar 1) (eFn [true, false] m_law_take (aCons (eVar 0) (aCons (eCall (fn1 lenD) (aCons (eVar 1) aNil)) aNil)))))
def m_law_pick : List D → FR := runB [true, false] 0 t_law_pick
theorem ok_law_pick (T : Txt K mg) (hF : ∃ fd, FunD K "_law_pick" "_law_pick" (defArgs st_law_pick) (defBody st_law_pick) (defScope st_law_pick) [] [] (He.ga K "_law_pick") fd) (hm : mg "_law_pick" = some (.ref (He.ga K "_law_pick"))) (F_law_take : Fn P w K mg base "_law_take" 2 [] [true, false] m_law_take) : Fn P w K mg base "_law_pick" 3 [] [true, false] m_law_pick := by
  obtain ⟨fd, F⟩ := hF
  have nd := sc_law_pick.nd
  refine ⟨_, fd, ["store", "items"], [], hm, F.kp, F.bindsN (fun _ _ _ _ _ _ us hl => match us, hl with | [_, _], _ => rfl), .nil, fn_deep (N := nm_law_pick) (t := t_law_pick) F sc_law_pick rfl (by decide) fun cdv A outer s H vs E hr => ?_⟩
  have hu := hr.units
  have po := passes_of (X := cxD P w K mg base nm_law_pick "_law_pick" (defScope st_law_pick) (He.ga K "_law_pick") cdv A outer s H E) rfl
  exact (db_one (ds_ret (de_ix (de_var (pv 1)) (de_fn F_law_take hr (ha := (da_cons (de_var (pv 0)) (da_cons (de_callB call_len opn_len T.b_len (by decide +kernel) (da_cons (de_var (pv 1)) da_nil)) da_nil)))))))
abbrev st_law_number : Stmt := top 39
abbrev nm_law_number : List Str := ["store", "digits", "kind", "count", "top", "k"]
theorem sc_law_number : FnScope nm_law_number ["store", "digits"] (defScope st_law_number) := ⟨rfl, rfl, rfl, by decide +kernel, rfl, by decide +kernel, by decide +kernel⟩
def t_law_number : TDS :=
  (sSeq (sAsg 2 (eFn [true, false] m_law_take (aCons (eVar 0) (aCons (eC (.int 8)) aNil))))
    (sSeq (sIf (eT (eBin opLt (eVar 2) (eC (.int 2))))
    (sRet (eVar 2)) sNil)
    (sSeq (sAsg 3 (eBin opAdd (eC (.int 1)) (eFn [true, false] m_law_take (aCons (eVar 0) (aCons (eCall (fn2 min2D) (aCons (eVar 1) (aCons (eC (.int 2)) aNil))) aNil)))))
    (sSeq (sIf (eT (eBin opLt (eVar 2) (eC (.int 5))))
    (sAsg 3 (eVar 1)) sNil)
    (sSeq (sIf (eT (eBin (opEq false) (eVar 2) (eC (.int 5))))
    (sAsg 3 (eBin opAdd (eC (.int 1)) (eFn [true, false] m_law_take (aCons (eVar 0) (aCons (eVar 1) aNil))))) sNil)
    (sSeq (sAsg 4 (eC (.int 1)))
    (sSeq (sFor (.nm 5) (iRng rngF1 (aCons (eVar 3) aNil))
    (sAsg 4 (eBin opMul (eVar 4) (eC (.int 10)))))
    (sSeq (sIf (eT (eBin (opEq false) (eVar 2) (eC (.int 2))))
    (sRet (eBin opSub (eVar 4) (eC (.int 1)))) sNil)
    (sSeq (sIf (eT (eBin (opEq false) (eVar 2) (eC (.int 3))))
    (sRet (eBin opDiv (eVar 4) (eC (.int 10)))) sNil)
    (sRet (eFn [true, false] m_law_take (aCons (eVar 0) (aCons (eVar 4) aNil)))))))))))))
def m_law_number : List D → FR := runB [true, false] 4 t_law_number
theorem ok_law_number (T : Txt K mg) (hF : ∃ fd, FunD K "_law_number" "_law_number" (defArgs st_law_number) (defBody st_law_number) (defScope st_law_number) [] [] (He.ga K "_law_number") fd) (hm : mg "_law_number" = some (.ref (He.ga K "_law_number"))) (F_law_take : Fn P w K mg base "_law_take" 2 [] [true, false] m_law_take) : Fn P w K mg base "_law_number" 3 [] [true, false] m_law_number := by
  obtain ⟨fd, F⟩ := hF
  have nd := sc_law_number.nd
  refine ⟨_, fd, ["store", "digits"], [], hm, F.kp, F.bindsN (fun _ _ _ _ _ _ us hl => match us, hl with | [_, _], _ => rfl), .nil, fn_deep (N := nm_law_number) (t := t_law_number) F sc_law_number rfl (by decide) fun cdv A outer s H vs E hr => ?_⟩
  have hu := hr.units
  have po := passes_of (X := cxD P w K mg base nm_law_number "_law_number" (defScope st_law_number) (He.ga K "_law_number") cdv A outer s H E) rfl
  exact (db_cons (ds_asg (i := 2) nd rfl (de_fn F_law_take hr (ha := (da_cons (de_var (pv 0)) (da_cons de_int da_nil)))))
    (db_cons (ds_if (dt_cmp op_lt op2_lt (de_var (pv 2)) de_int)
    (db_one (ds_ret (de_var (pv 2)))) db_nil)
    (db_cons (ds_asg (i := 3) nd rfl (de_op opr_add op2_add de_int (de_fn F_law_take hr (ha := (da_cons (de_var (pv 0)) (da_cons (de_callB (call_min2 rfl) opn_min2 T.b_min (by decide +kernel) (da_cons (de_var (pv 1)) (da_cons de_int da_nil))) da_nil))))))
    (db_cons (ds_if (dt_cmp op_lt op2_lt (de_var (pv 2)) de_int)
    (db_one (ds_asg (i := 3) nd rfl (de_var (pv 1)))) db_nil)
    (db_cons (ds_if (dt_cmp (op_eq.or (op_eqD hu)) op2_eq (de_var (pv 2)) de_int)
    (db_one (ds_asg (i := 3) nd rfl (de_op opr_add op2_add de_int (de_fn F_law_take hr (ha := (da_cons (de_var (pv 0)) (da_cons (de_var (pv 1)) da_nil))))))) db_nil)
    (db_cons (ds_asg (i := 4) nd rfl de_int)
    (db_cons (ds_for po rfl (di_range1 T.b_range (da_cons (de_var (pv 3)) da_nil)) (dtg_nm nd rfl)
    (db_one (ds_asg (i := 4) nd rfl (de_op op_mulX op2_mul (de_var (pv 4)) de_int))))
    (db_cons (ds_if (dt_cmp (op_eq.or (op_eqD hu)) op2_eq (de_var (pv 2)) de_int)
    (db_one (ds_ret (de_op op_sub op2_sub (de_var (pv 4)) de_int))) db_nil)
    (db_cons (ds_if (dt_cmp (op_eq.or (op_eqD hu)) op2_eq (de_var (pv 2)) de_int)
    (db_one (ds_ret (de_op op_fdivW op2_div (de_var (pv 4)) de_int))) db_nil)
    (db_one (ds_ret (de_fn F_law_take hr (ha := (da_cons (de_var (pv 0)) (da_cons (de_var (pv 4)) da_nil)))))))))))))))
abbrev st_arrangements : Stmt := top 30
abbrev nm_arrangements : List Str := ["counts", "count", "total", "number"]
theorem sc_arrangements : FnScope nm_arrangements ["counts"] (defScope st_arrangements) := ⟨rfl, rfl, rfl, by decide +kernel, rfl, by decide +kernel, by decide +kernel⟩
def t_arrangements : TDS :=
  (sSeq (sFor (.nm 1) (iSeq (eVar 0))
    (sIf (eT (eBin opLt (eVar 1) (eC (.int 0))))
    (sRaise "BadNumber" ["what"] (aCons (eC (.str "counts")) aNil)) sNil))
    (sSeq (sIf (eT (eBin opGt (eCall (fn1 sumD) (aCons (eVar 0) aNil)) (eC (.int 1000))))
    (sRaise "TooMany" ["what", "limit"] (aCons (eC (.str "counts")) (aCons (eC (.int 1000)) aNil))) sNil)
    (sSeq (sAsg 2 (eC (.int 0)))
    (sSeq (sAsg 3 (eC (.int 1)))
    (sSeq (sFor (.nm 1) (iSeq (eVar 0))
    (sSeq (sAug 2 opIAdd (eVar 1))
    (sAsg 3 (eBin opMul (eVar 3) (eFn [false, false] m_ways (aCons (eVar 2) (aCons (eVar 1) aNil)))))))
    (sRet (eVar 3)))))))
def m_arrangements : List D → FR := runB [false] 3 t_arrangements
theorem ok_arrangements (T : Txt K mg) (hF : ∃ fd, FunD K "arrangements" "arrangements" (defArgs st_arrangements) (defBody st_arrangements) (defScope st_arrangements) [] [] (He.ga K "arrangements") fd) (hm : mg "arrangements" = some (.ref (He.ga K "arrangements"))) (F_ways : Fn P w K mg base "ways" 3 [] [false, false] m_ways) (XX_BadNumber : ExcF P w K mg base "BadNumber" ["what"]) (XX_TooMany : ExcF P w K mg base "TooMany" ["what", "limit"]) : Fn P w K mg base "arrangements" 4 [] [false] m_arrangements := by
  obtain ⟨fd, F⟩ := hF
  have nd := sc_arrangements.nd
  refine ⟨_, fd, ["counts"], [], hm, F.kp, F.bindsN (fun _ _ _ _ _ _ us hl => match us, hl with | [_], _ => rfl), .nil, fn_deep (N := nm_arrangements) (t := t_arrangements) F sc_arrangements rfl (by decide) fun cdv A outer s H vs E hr => ?_⟩
  have hu := hr.units
  have po := passes_of (X := cxD P w K mg base nm_arrangements "arrangements" (defScope st_arrangements) (He.ga K "arrangements") cdv A outer s H E) rfl
  exact (db_cons (ds_for po rfl (di_seq (de_var (pv 0))) (dtg_nm nd rfl)
    (db_one (ds_if (dt_cmp op_lt op2_lt (de_var (pv 1)) de_int)
    (db_one (ds_raise XX_BadNumber rfl hr (da_cons de_str da_nil))) db_nil)))
    (db_cons (ds_if (dt_cmp op_gt op2_gt (de_callB (call_sum2 rfl) opn_sum T.b_sum (by decide +kernel) (da_cons (de_var (pv 0)) da_nil)) (de_gint T.c_MOST_THINGS))
    (db_one (ds_raise XX_TooMany rfl hr (da_cons de_str (da_cons (de_gint T.c_MOST_THINGS) da_nil)))) db_nil)
    (db_cons (ds_asg (i := 2) nd rfl de_int)
    (db_cons (ds_asg (i := 3) nd rfl de_int)
    (db_cons (ds_for po rfl (di_seq (de_var (pv 0))) (dtg_nm nd rfl)
    (db_cons (ds_aug (j := 2) opr_iadd op2_iadd nd rfl (de_var (pv 1)))
    (db_one (ds_asg (i := 3) nd rfl (de_op op_mulX op2_mul (de_var (pv 3)) (de_fn F_ways hr (ha := (da_cons (de_var (pv 2)) (da_cons (de_var (pv 1)) da_nil)))))))))
    (db_one (ds_ret (de_var (pv 3)))))))))
abbrev st_law_edge : Stmt := top 38
abbrev nm_law_edge : List Str := ["store", "low", "high", "kind"]
theorem sc_law_edge : FnScope nm_law_edge ["store", "low", "high"] (defScope st_law_edge) := ⟨rfl, rfl, rfl, by decide +kernel, rfl, by decide +kernel, by decide +kernel⟩
def t_law_edge : TDS :=
  (sSeq (sAsg 3 (eFn [true, false] m_law_take (aCons (eVar 0) (aCons (eC (.int 9)) aNil))))
    (sSeq (sIf (bOr (eT (eBin (opEq false) (eVar 3) (eC (.int 0)))) (eT (eBin opLe (eVar 2) (eVar 1))))
    (sRet (eVar 1)) sNil)
    (sSeq (sIf (eT (eBin (opEq false) (eVar 3) (eC (.int 1))))
    (sRet (eVar 2)) sNil)
    (sSeq (sIf (eT (eBin (opEq false) (eVar 3) (eC (.int 2))))
    (sRet (eCall (fn2 min2D) (aCons (eBin opAdd (eVar 1) (eC (.int 1))) (aCons (eVar 2) aNil)))) sNil)
    (sRet (eFn [true, false, false] m_law_between (aCons (eVar 0) (aCons (eVar 1) (aCons (eVar 2) aNil)))))))))
def m_law_edge : List D → FR := runB [true, false, false] 1 t_law_edge
theorem ok_law_edge (T : Txt K mg) (hF : ∃ fd, FunD K "_law_edge" "_law_edge" (defArgs st_law_edge) (defBody st_law_edge) (defScope st_law_edge) [] [] (He.ga K "_law_edge") fd) (hm : mg "_law_edge" = some (.ref (He.ga K "_law_edge"))) (F_law_take : Fn P w K mg base "_law_take" 2 [] [true, false] m_law_take) (F_law_between : Fn P w K mg base "_law_between" 3 [] [true, false, false] m_law_between) : Fn P w K mg base "_law_edge" 4 [] [true, false, false] m_law_edge := by
  obtain ⟨fd, F⟩ := hF
  have nd := sc_law_edge.nd
  refine ⟨_, fd, ["store", "low", "high"], [], hm, F.kp, F.bindsN (fun _ _ _ _ _ _ us hl => match us, hl with | [_, _, _], _ => rfl), .nil, fn_deep (N := nm_law_edge) (t := t_law_edge) F sc_law_edge rfl (by decide) fun cdv A outer s H vs E hr => ?_⟩
  have hu := hr.units
  have po := passes_of (X := cxD P w K mg base nm_law_edge "_law_edge" (defScope st_law_edge) (He.ga K "_law_edge") cdv A outer s H E) rfl
  exact (db_cons (ds_asg (i := 3) nd rfl (de_fn F_law_take hr (ha := (da_cons (de_var (pv 0)) (da_cons de_int da_nil)))))
    (db_cons (ds_if (DW.pt (dw_or (dt_cmp (op_eq.or (op_eqD hu)) op2_eq (de_var (pv 3)) de_int) (dw_or1 (dt_cmp op_le op2_le (de_var (pv 2)) (de_var (pv 1))))))
    (db_one (ds_ret (de_var (pv 1)))) db_nil)
    (db_cons (ds_if (dt_cmp (op_eq.or (op_eqD hu)) op2_eq (de_var (pv 3)) de_int)
    (db_one (ds_ret (de_var (pv 2)))) db_nil)
    (db_cons (ds_if (dt_cmp (op_eq.or (op_eqD hu)) op2_eq (de_var (pv 3)) de_int)
    (db_one (ds_ret (de_callB (call_min2 rfl) opn_min2 T.b_min (by decide +kernel) (da_cons (de_op opr_add op2_add (de_var (pv 1)) de_int) (da_cons (de_var (pv 2)) da_nil))))) db_nil)
    (db_one (ds_ret (de_fn F_law_between hr (ha := (da_cons (de_var (pv 0)) (da_cons (de_var (pv 1)) (da_cons (de_var (pv 2)) da_nil)))))))))))
abbrev st_law_signed : Stmt := top 40
abbrev nm_law_signed : List Str := ["store", "digits", "value"]
theorem sc_law_signed : FnScope nm_law_signed ["store", "digits"] (defScope st_law_signed) := ⟨rfl, rfl, rfl, by decide +kernel, rfl, by decide +kernel, by decide +kernel⟩
def t_law_signed : TDS :=
  (sSeq (sAsg 2 (eFn [true, false] m_law_number (aCons (eVar 0) (aCons (eVar 1) aNil))))
    (sSeq (sIf (eT (eBin (opEq false) (eFn [true, false] m_law_take (aCons (eVar 0) (aCons (eC (.int 2)) aNil))) (eC (.int 1))))
    (sRet (eUn opNeg (eVar 2))) sNil)
    (sRet (eVar 2))))
def m_law_signed : List D → FR := runB [true, false] 1 t_law_signed
theorem ok_law_signed (T : Txt K mg) (hF : ∃ fd, FunD K "_law_signed" "_law_signed" (defArgs st_law_signed) (defBody st_law_signed) (defScope st_law_signed) [] [] (He.ga K "_law_signed") fd) (hm : mg "_law_signed" = some (.ref (He.ga K "_law_signed"))) (F_law_number : Fn P w K mg base "_law_number" 3 [] [true, false] m_law_number) (F_law_take : Fn P w K mg base "_law_take" 2 [] [true, false] m_law_take) : Fn P w K mg base "_law_signed" 4 [] [true, false] m_law_signed := by
  obtain ⟨fd, F⟩ := hF
  have nd := sc_law_signed.nd
  refine ⟨_, fd, ["store", "digits"], [], hm, F.kp, F.bindsN (fun _ _ _ _ _ _ us hl => match us, hl with | [_, _], _ => rfl), .nil, fn_deep (N := nm_law_signed) (t := t_law_signed) F sc_law_signed rfl (by decide) fun cdv A outer s H vs E hr => ?_⟩
  have hu := hr.units
  have po := passes_of (X := cxD P w K mg base nm_law_signed "_law_signed" (defScope st_law_signed) (He.ga K "_law_signed") cdv A outer s H E) rfl
  exact (db_cons (ds_asg (i := 2) nd rfl (de_fn F_law_number hr (ha := (da_cons (de_var (pv 0)) (da_cons (de_var (pv 1)) da_nil)))))
    (db_cons (ds_if (dt_cmp (op_eq.or (op_eqD hu)) op2_eq (de_fn F_law_take hr (ha := (da_cons (de_var (pv 0)) (da_cons de_int da_nil)))) de_int)
    (db_one (ds_ret (de_un un_neg op1_neg (de_var (pv 2))))) db_nil)
    (db_one (ds_ret (de_var (pv 2))))))
abbrev st_law_index : Stmt := top 41
abbrev nm_law_index : List Str := ["store", "count", "digits", "kind"]
theorem sc_law_index : FnScope nm_law_index ["store", "count", "digits"] (defScope st_law_index) := ⟨rfl, rfl, rfl, by decide +kernel, rfl, by decide +kernel, by decide +kernel⟩
def t_law_index : TDS :=
  (sSeq (sAsg 3 (eFn [true, false] m_law_take (aCons (eVar 0) (aCons (eC (.int 12)) aNil))))
    (sSeq (sIf (eT (eBin (opEq false) (eVar 3) (eC (.int 0))))
    (sRet (eUn opNeg (eC (.int 1)))) sNil)
    (sSeq (sIf (eT (eBin (opEq false) (eVar 3) (eC (.int 1))))
    (sRet (eVar 1)) sNil)
    (sSeq (sIf (eT (eBin (opEq false) (eVar 3) (eC (.int 2))))
    (sRet (eBin opAdd (eVar 1) (eFn [true, false] m_law_number (aCons (eVar 0) (aCons (eVar 2) aNil))))) sNil)
    (sSeq (sIf (eT (eBin (opEq false) (eVar 3) (eC (.int 3))))
    (sRet (eBin opSub (eUn opNeg (eC (.int 1))) (eFn [true, false] m_law_number (aCons (eVar 0) (aCons (eVar 2) aNil))))) sNil)
    (sSeq (sIf (eT (eBin (opEq false) (eVar 3) (eC (.int 4))))
    (sRet (eBin opSub (eVar 1) (eC (.int 1)))) sNil)
    (sSeq (sIf (eT (eBin (opEq false) (eVar 3) (eC (.int 5))))
    (sRet (eC (.int 0))) sNil)
    (sRet (eFn [true, false] m_law_take (aCons (eVar 0) (aCons (eVar 1) aNil)))))))))))
def m_law_index : List D → FR := runB [true, false, false] 1 t_law_index
theorem ok_law_index (T : Txt K mg) (hF : ∃ fd, FunD K "_law_index" "_law_index" (defArgs st_law_index) (defBody st_law_index) (defScope st_law_index) [] [] (He.ga K "_law_index") fd) (hm : mg "_law_index" = some (.ref (He.ga K "_law_index"))) (F_law_take : Fn P w K mg base "_law_take" 2 [] [true, false] m_law_take) (F_law_number : Fn P w K mg base "_law_number" 3 [] [true, false] m_law_number) : Fn P w K mg base "_law_index" 4 [] [true, false, false] m_law_index := by
  obtain ⟨fd, F⟩ := hF
  have nd := sc_law_index.nd
  refine ⟨_, fd, ["store", "count", "digits"], [], hm, F.kp, F.bindsN (fun _ _ _ _ _ _ us hl => match us, hl with | [_, _, _], _ => rfl), .nil, fn_deep (N := nm_law_index) (t := t_law_index) F sc_law_index rfl (by decide) fun cdv A outer s H vs E hr => ?_⟩
  have hu := hr.units
  have po := passes_of (X := cxD P w K mg base nm_law_index "_law_index" (defScope st_law_index) (He.ga K "_law_index") cdv A outer s H E) rfl
  exact (db_cons (ds_asg (i := 3) nd rfl (de_fn F_law_take hr (ha := (da_cons (de_var (pv 0)) (da_cons de_int da_nil)))))
    (db_cons (ds_if (dt_cmp (op_eq.or (op_eqD hu)) op2_eq (de_var (pv 3)) de_int)
    (db_one (ds_ret (de_un un_neg op1_neg de_int))) db_nil)
    (db_cons (ds_if (dt_cmp (op_eq.or (op_eqD hu)) op2_eq (de_var (pv 3)) de_int)
    (db_one (ds_ret (de_var (pv 1)))) db_nil)
    (db_cons (ds_if (dt_cmp (op_eq.or (op_eqD hu)) op2_eq (de_var (pv 3)) de_int)
    (db_one (ds_ret (de_op opr_add op2_add (de_var (pv 1)) (de_fn F_law_number hr (ha := (da_cons (de_var (pv 0)) (da_cons (de_var (pv 2)) da_nil))))))) db_nil)
    (db_cons (ds_if (dt_cmp (op_eq.or (op_eqD hu)) op2_eq (de_var (pv 3)) de_int)
    (db_one (ds_ret (de_op op_sub op2_sub (de_un un_neg op1_neg de_int) (de_fn F_law_number hr (ha := (da_cons (de_var (pv 0)) (da_cons (de_var (pv 2)) da_nil))))))) db_nil)
    (db_cons (ds_if (dt_cmp (op_eq.or (op_eqD hu)) op2_eq (de_var (pv 3)) de_int)
    (db_one (ds_ret (de_op op_sub op2_sub (de_var (pv 1)) de_int))) db_nil)
    (db_cons (ds_if (dt_cmp (op_eq.or (op_eqD hu)) op2_eq (de_var (pv 3)) de_int)
    (db_one (ds_ret de_int)) db_nil)
    (db_one (ds_ret (de_fn F_law_take hr (ha := (da_cons (de_var (pv 0)) (da_cons (de_var (pv 1)) da_nil)))))))))))))
abbrev st_law_far : Stmt := top 52
abbrev nm_law_far : List Str := ["store", "top"]
theorem sc_law_far : FnScope nm_law_far ["store", "top"] (defScope st_law_far) := ⟨rfl, rfl, rfl, by decide +kernel, rfl, by decide +kernel, by decide +kernel⟩
def t_law_far : TDS :=
  (sRet (eFn [true, false] m_law_pick (aCons (eVar 0) (aCons (gFz (gDis .lst (aCons (eUn opNeg (eC (.int 1))) (aCons (eBin opAdd (eVar 1) (eC (.int 1))) (aCons (eBin opSub (eUn opNeg (eC (.int 1))) (eFn [true, false] m_law_number (aCons (eVar 0) (aCons (eC (.int 29)) aNil)))) (aCons (eBin opAdd (eBin opAdd (eVar 1) (eC (.int 1))) (eFn [true, false] m_law_number (aCons (eVar 0) (aCons (eC (.int 29)) aNil)))) aNil)))))) aNil))))
def m_law_far : List D → FR := runB [true, false] 0 t_law_far
theorem ok_law_far (T : Txt K mg) (hF : ∃ fd, FunD K "_law_far" "_law_far" (defArgs st_law_far) (defBody st_law_far) (defScope st_law_far) [] [] (He.ga K "_law_far") fd) (hm : mg "_law_far" = some (.ref (He.ga K "_law_far"))) (F_law_number : Fn P w K mg base "_law_number" 3 [] [true, false] m_law_number) (F_law_pick : Fn P w K mg base "_law_pick" 3 [] [true, false] m_law_pick) : Fn P w K mg base "_law_far" 4 [] [true, false] m_law_far := by
  obtain ⟨fd, F⟩ := hF
  have nd := sc_law_far.nd
  refine ⟨_, fd, ["store", "top"], [], hm, F.kp, F.bindsN (fun _ _ _ _ _ _ us hl => match us, hl with | [_, _], _ => rfl), .nil, fn_deep (N := nm_law_far) (t := t_law_far) F sc_law_far rfl (by decide) fun cdv A outer s H vs E hr => ?_⟩
  have hu := hr.units
  have po := passes_of (X := cxD P w K mg base nm_law_far "_law_far" (defScope st_law_far) (He.ga K "_law_far") cdv A outer s H E) rfl
  exact (db_one (ds_ret (de_fn F_law_pick hr (ha := (da_cons (de_var (pv 0)) (da_cons (de_lst (da_cons (de_un un_neg op1_neg de_int) (da_cons (de_op opr_add op2_add (de_var (pv 1)) de_int) (da_cons (de_op op_sub op2_sub (de_un un_neg op1_neg de_int) (de_fn F_law_number hr (ha := (da_cons (de_var (pv 0)) (da_cons de_int da_nil))))) (da_cons (de_op opr_add op2_add (de_op opr_add op2_add (de_var (pv 1)) de_int) (de_fn F_law_number hr (ha := (da_cons (de_var (pv 0)) (da_cons de_int da_nil))))) da_nil))))) da_nil))))))
abbrev st_law_counts : Stmt := top 56
abbrev nm_law_counts : List Str := ["store", "kind", "row", "k", "one", "two", "at", "odd"]
theorem sc_law_counts : FnScope nm_law_counts ["store"] (defScope st_law_counts) := ⟨rfl, rfl, rfl, by decide +kernel, rfl, by decide +kernel, by decide +kernel⟩
def t_law_counts : TDS :=
  (sSeq (sAsg 1 (eFn [true, false] m_law_take (aCons (eVar 0) (aCons (eC (.int 8)) aNil))))
    (sSeq (sAsg 2 (gFz (gComp [3] (.nm 3) (iRng rngF1 (aCons (eFn [true, false] m_law_take (aCons (eVar 0) (aCons (eC (.int 7)) aNil))) aNil)) tYesD (eFn [true, false] m_law_take (aCons (eVar 0) (aCons (eC (.int 9)) aNil))))))
    (sSeq (sIf (eT (eBin (opEq false) (eVar 1) (eC (.int 0))))
    (sAsg 2 (eBin opAdd (gFz (gRep (gFz (gComp [3] (.nm 3) (iRng rngF1 (aCons (eC (.int 6)) aNil)) tYesD (eFn [true, false] m_law_take (aCons (eVar 0) (aCons (eC (.int 2)) aNil))))) (eC (.int 166)))) (gFz (gDis .lst (aCons (eC (.int 0)) (aCons (eC (.int 1)) (aCons (eC (.int 1)) (aCons (eC (.int 0)) aNil)))))))) sNil)
    (sSeq (sIf (bOr (eT (eBin (opEq false) (eVar 1) (eC (.int 1)))) (eT (eBin (opEq false) (eVar 1) (eC (.int 2)))))
    (sSeq (sAsg 4 (eFn [true, false] m_law_take (aCons (eVar 0) (aCons (eC (.int 1000)) aNil))))
    (sSeq (sAsg 5 (eFn [true, false] m_law_take (aCons (eVar 0) (aCons (eBin opSub (eC (.int 1000)) (eVar 4)) aNil))))
    (sAsg 2 (gFz (gDis .lst (aCons (eVar 4) (aCons (eBin opSub (eBin opSub (eBin opAdd (eC (.int 999)) (eFn [true, false] m_law_take (aCons (eVar 0) (aCons (eC (.int 3)) aNil)))) (eVar 4)) (eVar 5)) (aCons (eVar 5) aNil)))))))) sNil)
    (sSeq (sIf (eT (eBin opGt (eVar 1) (eC (.int 4))))
    (sSeq (sAsg 6 (eFn [true, false] m_law_take (aCons (eVar 0) (aCons (eBin opAdd (eCall (fn1 lenD) (aCons (eVar 2) aNil)) (eC (.int 1))) aNil))))
    (sSeq (sAsg 7 (eFn [true, false] m_law_pick (aCons (eVar 0) (aCons (gFz (gDis .lst (aCons (eUn opNeg (eC (.int 1))) (aCons (eBin opSub (eUn opNeg (eC (.int 1))) (eFn [true, false] m_law_number (aCons (eVar 0) (aCons (eC (.int 29)) aNil)))) (aCons (eFn [true, false] m_law_number (aCons (eVar 0) (aCons (eC (.int 30)) aNil))) (aCons (eC (.int 1000)) aNil)))))) aNil))))
    (sAsg 2 (eBin opAdd (eBin opAdd (eSl (eVar 2) oNone (oSome (eVar 6))) (gFz (gDis .lst (aCons (eVar 7) aNil)))) (eSl (eVar 2) (oSome (eVar 6)) oNone))))) sNil)
    (sSeq (sIf (eT (eBin (opEq false) (eVar 1) (eC (.int 7))))
    (sAsg 2 (eBin opAdd (eVar 2) (gFz (gDis .lst (aCons (eC (.int 1001)) aNil))))) sNil)
    (sRet (eVar 2))))))))
def m_law_counts : List D → FR := runB [true] 7 t_law_counts
theorem ok_law_counts (T : Txt K mg) (hF : ∃ fd, FunD K "_law_counts" "_law_counts" (defArgs st_law_counts) (defBody st_law_counts) (defScope st_law_counts) [] [] (He.ga K "_law_counts") fd) (hm : mg "_law_counts" = some (.ref (He.ga K "_law_counts"))) (F_law_take : Fn P w K mg base "_law_take" 2 [] [true, false] m_law_take) (F_law_number : Fn P w K mg base "_law_number" 3 [] [true, false] m_law_number) (F_law_pick : Fn P w K mg base "_law_pick" 3 [] [true, false] m_law_pick) : Fn P w K mg base "_law_counts" 4 [] [true] m_law_counts := by
  obtain ⟨fd, F⟩ := hF
  have nd := sc_law_counts.nd
  refine ⟨_, fd, ["store"], [], hm, F.kp, F.bindsN (fun _ _ _ _ _ _ us hl => match us, hl with | [_], _ => rfl), .nil, fn_deep (N := nm_law_counts) (t := t_law_counts) F sc_law_counts rfl (by decide) fun cdv A outer s H vs E hr => ?_⟩
  have hu := hr.units
  have po := passes_of (X := cxD P w K mg base nm_law_counts "_law_counts" (defScope st_law_counts) (He.ga K "_law_counts") cdv A outer s H E) rfl
  exact (db_cons (ds_asg (i := 1) nd rfl (de_fn F_law_take hr (ha := (da_cons (de_var (pv 0)) (da_cons de_int da_nil)))))
    (db_cons (ds_setLc (own := [("k", 3)]) (i := 2) false rfl nd rfl rfl (sw_true rfl rfl rfl (by decide +kernel)) (di_range1 T.b_range (da_cons (de_fn F_law_take hr (ha := (da_cons (de_var (pv 0)) (da_cons de_int da_nil)))) da_nil)) (blkOk_by (own := [("k", 3)]) (N := nm_law_counts) (sc := defScope st_law_counts) (by decide +kernel)) (fun _ _ _ _ _ => (dtg_nm nd rfl)) (fun _ _ _ _ _ => difs_nil) (fun _ _ _ _ _ => (de_fn F_law_take hr (ha := (da_cons (de_var (pv 0)) (da_cons de_int da_nil))))))
    (db_cons (ds_if (dt_cmp (op_eq.or (op_eqD hu)) op2_eq (de_var (pv 1)) de_int)
    (db_one (ds_asg (i := 2) nd rfl (de_op opr_add op2_add (de_g (dg_rep (by decide) (de_g (dg_lc (own := [("k", 3)]) (by decide) rfl nd (di_range1 T.b_range (da_cons de_int da_nil)) (blkOk_by (own := [("k", 3)]) (N := nm_law_counts) (sc := defScope st_law_counts) (by decide +kernel)) (fun _ _ _ _ _ => (dtg_nm nd rfl)) (fun _ _ _ _ _ => difs_nil) (fun _ _ _ _ _ => (de_fn F_law_take hr (ha := (da_cons (de_var (pv 0)) (da_cons de_int da_nil))))))) de_int)) (de_lst (da_cons de_int (da_cons de_int (da_cons de_int (da_cons de_int da_nil)))))))) db_nil)
    (db_cons (ds_if (DW.pt (dw_or (dt_cmp (op_eq.or (op_eqD hu)) op2_eq (de_var (pv 1)) de_int) (dw_or1 (dt_cmp (op_eq.or (op_eqD hu)) op2_eq (de_var (pv 1)) de_int))))
    (db_cons (ds_asg (i := 4) nd rfl (de_fn F_law_take hr (ha := (da_cons (de_var (pv 0)) (da_cons de_int da_nil)))))
    (db_cons (ds_asg (i := 5) nd rfl (de_fn F_law_take hr (ha := (da_cons (de_var (pv 0)) (da_cons (de_op op_sub op2_sub de_int (de_var (pv 4))) da_nil)))))
    (db_one (ds_asg (i := 2) nd rfl (de_lst (da_cons (de_var (pv 4)) (da_cons (de_op op_sub op2_sub (de_op op_sub op2_sub (de_op opr_add op2_add de_int (de_fn F_law_take hr (ha := (da_cons (de_var (pv 0)) (da_cons de_int da_nil))))) (de_var (pv 4))) (de_var (pv 5))) (da_cons (de_var (pv 5)) da_nil)))))))) db_nil)
    (db_cons (ds_if (dt_cmp op_gt op2_gt (de_var (pv 1)) de_int)
    (db_cons (ds_asg (i := 6) nd rfl (de_fn F_law_take hr (ha := (da_cons (de_var (pv 0)) (da_cons (de_op opr_add op2_add (de_callB call_len opn_len T.b_len (by decide +kernel) (da_cons (de_var (pv 2)) da_nil)) de_int) da_nil)))))
    (db_cons (ds_asg (i := 7) nd rfl (de_fn F_law_pick hr (ha := (da_cons (de_var (pv 0)) (da_cons (de_lst (da_cons (de_un un_neg op1_neg de_int) (da_cons (de_op op_sub op2_sub (de_un un_neg op1_neg de_int) (de_fn F_law_number hr (ha := (da_cons (de_var (pv 0)) (da_cons de_int da_nil))))) (da_cons (de_fn F_law_number hr (ha := (da_cons (de_var (pv 0)) (da_cons de_int da_nil)))) (da_cons de_int da_nil))))) da_nil)))))
    (db_one (ds_asg (i := 2) nd rfl (de_op opr_add op2_add (de_op opr_add op2_add (de_slice (de_var (pv 2)) do_none (do_some (de_var (pv 6)))) (de_lst (da_cons (de_var (pv 7)) da_nil))) (de_slice (de_var (pv 2)) (do_some (de_var (pv 6))) do_none)))))) db_nil)
    (db_cons (ds_if (dt_cmp (op_eq.or (op_eqD hu)) op2_eq (de_var (pv 1)) de_int)
    (db_one (ds_asg (i := 2) nd rfl (de_op opr_add op2_add (de_var (pv 2)) (de_lst (da_cons de_int da_nil))))) db_nil)
    (db_one (ds_ret (de_var (pv 2))))))))))
abbrev st_law_ask : Stmt := top 48
abbrev nm_law_ask : List Str := ["which", "one", "two", "e"]
theorem sc_law_ask : FnScope nm_law_ask ["which", "one", "two"] (defScope st_law_ask) := ⟨rfl, rfl, rfl, by decide +kernel, rfl, by decide +kernel, by decide +kernel⟩
def t_law_ask : TDS :=
  (sTry raisedC [] 3 (sSeq (sIf (eT (eBin (opEq false) (eVar 0) (eC (.int 0))))
    (sRet (gFz (gDis .tup (aCons (eC (.str "answer")) (aCons (eFn [false, false] m_ways (aCons (eVar 1) (aCons (eVar 2) aNil))) aNil))))) sNil)
    (sSeq (sIf (eT (eBin (opEq false) (eVar 0) (eC (.int 1))))
    (sRet (gFz (gDis .tup (aCons (eC (.str "answer")) (aCons (eFn [false] m_cycle_counts (aCons (eVar 1) aNil)) aNil))))) sNil)
    (sRet (gFz (gDis .tup (aCons (eC (.str "answer")) (aCons (eFn [false] m_arrangements (aCons (eVar 1) aNil)) aNil)))))))
    (sRet (gFz (gDis .tup (aCons (eC (.str "refused")) (aCons (eFn [false] mE_law_refusal (aCons (eVar 3) aNil)) aNil))))))
def m_law_ask : List D → FR := runB [false, false, false] 1 t_law_ask
theorem ok_law_ask (T : Txt K mg) (hF : ∃ fd, FunD K "_law_ask" "_law_ask" (defArgs st_law_ask) (defBody st_law_ask) (defScope st_law_ask) [] [] (He.ga K "_law_ask") fd) (hm : mg "_law_ask" = some (.ref (He.ga K "_law_ask"))) (F_ways : Fn P w K mg base "ways" 3 [] [false, false] m_ways) (F_cycle_counts : Fn P w K mg base "cycle_counts" 3 [] [false] m_cycle_counts) (F_arrangements : Fn P w K mg base "arrangements" 4 [] [false] m_arrangements) (E_law_refusal : FnE P w K mg base "_law_refusal" 2 [false] mE_law_refusal raisedC) : Fn P w K mg base "_law_ask" 5 [] [false, false, false] m_law_ask := by
  obtain ⟨fd, F⟩ := hF
  have nd := sc_law_ask.nd
  refine ⟨_, fd, ["which", "one", "two"], [], hm, F.kp, F.bindsN (fun _ _ _ _ _ _ us hl => match us, hl with | [_, _, _], _ => rfl), .nil, fn_deep (N := nm_law_ask) (t := t_law_ask) F sc_law_ask rfl (by decide) fun cdv A outer s H vs E hr => ?_⟩
  have hu := hr.units
  have po := passes_of (X := cxD P w K mg base nm_law_ask "_law_ask" (defScope st_law_ask) (He.ga K "_law_ask") cdv A outer s H E) rfl
  exact (db_one (ds_try (cv := .ref (He.ga K "Refused")) rfl rfl rfl nd (i := 3) rfl rfl ⟨rfl, by decide, .inl T.c_Refused⟩ rfl T.exm_Refused
    (fun pn xe po => (db_cons (ds_if (dt_cmp (op_eq.or (op_eqD hu)) op2_eq (de_var (pv 0)) de_int)
    (db_one (ds_ret (de_tup (da_cons de_str (da_cons (de_fn F_ways hr (ha := (da_cons (de_var (pv 1)) (da_cons (de_var (pv 2)) da_nil)))) da_nil))))) db_nil)
    (db_cons (ds_if (dt_cmp (op_eq.or (op_eqD hu)) op2_eq (de_var (pv 0)) de_int)
    (db_one (ds_ret (de_tup (da_cons de_str (da_cons (de_fn F_cycle_counts hr (ha := (da_cons (de_var (pv 1)) da_nil))) da_nil))))) db_nil)
    (db_one (ds_ret (de_tup (da_cons de_str (da_cons (de_fn F_arrangements hr (ha := (da_cons (de_var (pv 1)) da_nil))) da_nil))))))))
    (fun a oe c d pn hot => by
      have hr0 := hr
      have hr := L2H.roomH_mark hr0 (some (Value.ref a))
      have hu := hu_hot hr
      exact (db_one (ds_ret (de_tup (da_cons de_str (da_cons (de_fnE E_law_refusal hot hr (da_cons (de_var (pv 3)) da_nil)) da_nil))))))))
abbrev st_law_ways_met : Stmt := top 51
abbrev nm_law_ways_met : List Str := ["store", "n", "k", "left", "right"]
theorem sc_law_ways_met : FnScope nm_law_ways_met ["store"] (defScope st_law_ways_met) := ⟨rfl, rfl, rfl, by decide +kernel, rfl, by decide +kernel, by decide +kernel⟩
def t_law_ways_met : TDS :=
  (sSeq (sAsg 1 (eFn [true, false] m_law_pick (aCons (eVar 0) (aCons (gFz (gDis .lst (aCons (eFn [true, false] m_law_take (aCons (eVar 0) (aCons (eC (.int 13)) aNil))) (aCons (eFn [true, false] m_law_take (aCons (eVar 0) (aCons (eC (.int 13)) aNil))) (aCons (eFn [true, false, false] m_law_edge (aCons (eVar 0) (aCons (eC (.int 0)) (aCons (eC (.int 1000)) aNil)))) (aCons (eC (.int 1000)) aNil)))))) aNil))))
    (sSeq (sAsg 2 (eFn [true, false, false] m_law_index (aCons (eVar 0) (aCons (eBin opAdd (eVar 1) (eC (.int 1))) (aCons (eC (.int 29)) aNil)))))
    (sSeq (sIf (bNot (eT (eFn [false, false, false] m_law_is_ways (aCons (eFn [false, false] m_ways (aCons (eVar 1) (aCons (eVar 2) aNil))) (aCons (eVar 1) (aCons (eVar 2) aNil))))))
    (sRet (eC (.bl false))) sNil)
    (sSeq (sIf (eT (eBin (opEq false) (eVar 1) (eC (.int 0))))
    (sRet (eC (.bl true))) sNil)
    (sSeq (sAsg 3 (eFn [false, false] m_ways (aCons (eBin opSub (eVar 1) (eC (.int 1))) (aCons (eBin opSub (eVar 2) (eC (.int 1))) aNil))))
    (sSeq (sAsg 4 (eFn [false, false] m_ways (aCons (eBin opSub (eVar 1) (eC (.int 1))) (aCons (eVar 2) aNil))))
    (sSeq (sIf (bOr (bNot (eT (eFn [false] m_law_is_int (aCons (eVar 3) aNil)))) (bNot (eT (eFn [false] m_law_is_int (aCons (eVar 4) aNil)))))
    (sRet (eC (.bl false))) sNil)
    (sRet (eAnd (eBin opGe (eVar 3) (eC (.int 0))) (eAnd (eBin opGe (eVar 4) (eC (.int 0))) (eBin (opEq false) (eBin opAdd (eVar 3) (eVar 4)) (eFn [false, false] m_ways (aCons (eVar 1) (aCons (eVar 2) aNil))))))))))))))
def m_law_ways_met : List D → FR := runB [true] 4 t_law_ways_met
theorem ok_law_ways_met (T : Txt K mg) (hF : ∃ fd, FunD K "_law_ways_met" "_law_ways_met" (defArgs st_law_ways_met) (defBody st_law_ways_met) (defScope st_law_ways_met) [] [] (He.ga K "_law_ways_met") fd) (hm : mg "_law_ways_met" = some (.ref (He.ga K "_law_ways_met"))) (F_law_edge : Fn P w K mg base "_law_edge" 4 [] [true, false, false] m_law_edge) (F_law_take : Fn P w K mg base "_law_take" 2 [] [true, false] m_law_take) (F_law_pick : Fn P w K mg base "_law_pick" 3 [] [true, false] m_law_pick) (F_law_index : Fn P w K mg base "_law_index" 4 [] [true, false, false] m_law_index) (F_ways : Fn P w K mg base "ways" 3 [] [false, false] m_ways) (F_law_is_ways : Fn P w K mg base "_law_is_ways" 2 [] [false, false, false] m_law_is_ways) (F_law_is_int : Fn P w K mg base "_law_is_int" 1 [] [false] m_law_is_int) : Fn P w K mg base "_law_ways_met" 5 [] [true] m_law_ways_met := by
  obtain ⟨fd, F⟩ := hF
  have nd := sc_law_ways_met.nd
  refine ⟨_, fd, ["store"], [], hm, F.kp, F.bindsN (fun _ _ _ _ _ _ us hl => match us, hl with | [_], _ => rfl), .nil, fn_deep (N := nm_law_ways_met) (t := t_law_ways_met) F sc_law_ways_met rfl (by decide) fun cdv A outer s H vs E hr => ?_⟩
  have hu := hr.units
  have po := passes_of (X := cxD P w K mg base nm_law_ways_met "_law_ways_met" (defScope st_law_ways_met) (He.ga K "_law_ways_met") cdv A outer s H E) rfl
  exact (db_cons (ds_asg (i := 1) nd rfl (de_fn F_law_pick hr (ha := (da_cons (de_var (pv 0)) (da_cons (de_lst (da_cons (de_fn F_law_take hr (ha := (da_cons (de_var (pv 0)) (da_cons de_int da_nil)))) (da_cons (de_fn F_law_take hr (ha := (da_cons (de_var (pv 0)) (da_cons de_int da_nil)))) (da_cons (de_fn F_law_edge hr (ha := (da_cons (de_var (pv 0)) (da_cons de_int (da_cons de_int da_nil))))) (da_cons de_int da_nil))))) da_nil)))))
    (db_cons (ds_asg (i := 2) nd rfl (de_fn F_law_index hr (ha := (da_cons (de_var (pv 0)) (da_cons (de_op opr_add op2_add (de_var (pv 1)) de_int) (da_cons de_int da_nil))))))
    (db_cons (ds_if (dt_not (dt_val (de_fn F_law_is_ways hr (ha := (da_cons (de_fn F_ways hr (ha := (da_cons (de_var (pv 1)) (da_cons (de_var (pv 2)) da_nil)))) (da_cons (de_var (pv 1)) (da_cons (de_var (pv 2)) da_nil)))))))
    (db_one (ds_ret de_bl)) db_nil)
    (db_cons (ds_if (dt_cmp (op_eq.or (op_eqD hu)) op2_eq (de_var (pv 1)) de_int)
    (db_one (ds_ret de_bl)) db_nil)
    (db_cons (ds_asg (i := 3) nd rfl (de_fn F_ways hr (ha := (da_cons (de_op op_sub op2_sub (de_var (pv 1)) de_int) (da_cons (de_op op_sub op2_sub (de_var (pv 2)) de_int) da_nil)))))
    (db_cons (ds_asg (i := 4) nd rfl (de_fn F_ways hr (ha := (da_cons (de_op op_sub op2_sub (de_var (pv 1)) de_int) (da_cons (de_var (pv 2)) da_nil)))))
    (db_cons (ds_if (DW.pt (dw_or (dt_not (dt_val (de_fn F_law_is_int hr (ha := (da_cons (de_var (pv 3)) da_nil))))) (dw_or1 (dt_not (dt_val (de_fn F_law_is_int hr (ha := (da_cons (de_var (pv 4)) da_nil))))))))
    (db_one (ds_ret de_bl)) db_nil)
    (db_one (ds_ret (de_and (de_cmp op_ge op2_ge (de_var (pv 3)) de_int) (de_and (de_cmp op_ge op2_ge (de_var (pv 4)) de_int) (de_one (de_cmp (op_eq.or (op_eqD hu)) op2_eq (de_op opr_add op2_add (de_var (pv 3)) (de_var (pv 4))) (de_fn F_ways hr (ha := (da_cons (de_var (pv 1)) (da_cons (de_var (pv 2)) da_nil)))))))))))))))))
abbrev st_law_cycles_met : Stmt := top 55
abbrev nm_law_cycles_met : List Str := ["store", "r", "told", "more", "j"]
theorem sc_law_cycles_met : FnScope nm_law_cycles_met ["store"] (defScope st_law_cycles_met) := ⟨rfl, rfl, rfl, by decide +kernel, rfl, by decide +kernel, by decide +kernel⟩
def t_law_cycles_met : TDS :=
  (sSeq (sAsg 1 (eFn [true, false] m_law_pick (aCons (eVar 0) (aCons (gFz (gDis .lst (aCons (eFn [true, false] m_law_take (aCons (eVar 0) (aCons (eC (.int 7)) aNil))) (aCons (eFn [true, false, false] m_law_edge (aCons (eVar 0) (aCons (eC (.int 0)) (aCons (eC (.int 40)) aNil)))) (aCons (eC (.int 40)) aNil))))) aNil))))
    (sSeq (sAsg 2 (eFn [false] m_cycle_counts (aCons (eVar 1) aNil)))
    (sSeq (sIf (bOr (bNot (eT (eFn [false, false] m_law_is_cycles (aCons (eVar 2) (aCons (eVar 1) aNil))))) (eT (eBin (opEq true) (eCall (fn1 sumD) (aCons (eVar 2) aNil)) (eFn [false] m_law_factorial (aCons (eVar 1) aNil)))))
    (sRet (eC (.bl false))) sNil)
    (sSeq (sIf (eT (eBin (opEq false) (eVar 1) (eC (.int 40))))
    (sRet (eC (.bl true))) sNil)
    (sSeq (sAsg 3 (eFn [false] m_cycle_counts (aCons (eBin opAdd (eVar 1) (eC (.int 1))) aNil)))
    (sSeq (sIf (bNot (eT (eFn [false, false] m_law_is_cycles (aCons (eVar 3) (aCons (eBin opAdd (eVar 1) (eC (.int 1))) aNil)))))
    (sRet (eC (.bl false))) sNil)
    (sSeq (sFor (.nm 4) (iRng rngF2 (aCons (eC (.int 1)) (aCons (eBin opAdd (eVar 1) (eC (.int 1))) aNil)))
    (sIf (eT (eBin (opEq true) (eBin opIx (eVar 3) (eVar 4)) (eBin opAdd (eBin opIx (eVar 2) (eBin opSub (eVar 4) (eC (.int 1)))) (eBin opMul (eVar 1) (eBin opIx (eVar 2) (eVar 4))))))
    (sRet (eC (.bl false))) sNil))
    (sRet (eC (.bl true))))))))))
def m_law_cycles_met : List D → FR := runB [true] 4 t_law_cycles_met
theorem ok_law_cycles_met (T : Txt K mg) (hF : ∃ fd, FunD K "_law_cycles_met" "_law_cycles_met" (defArgs st_law_cycles_met) (defBody st_law_cycles_met) (defScope st_law_cycles_met) [] [] (He.ga K "_law_cycles_met") fd) (hm : mg "_law_cycles_met" = some (.ref (He.ga K "_law_cycles_met"))) (F_law_edge : Fn P w K mg base "_law_edge" 4 [] [true, false, false] m_law_edge) (F_law_take : Fn P w K mg base "_law_take" 2 [] [true, false] m_law_take) (F_law_pick : Fn P w K mg base "_law_pick" 3 [] [true, false] m_law_pick) (F_cycle_counts : Fn P w K mg base "cycle_counts" 3 [] [false] m_cycle_counts) (F_law_is_cycles : Fn P w K mg base "_law_is_cycles" 2 [] [false, false] m_law_is_cycles) (F_law_factorial : Fn P w K mg base "_law_factorial" 1 [] [false] m_law_factorial) : Fn P w K mg base "_law_cycles_met" 5 [] [true] m_law_cycles_met := by
  obtain ⟨fd, F⟩ := hF
  have nd := sc_law_cycles_met.nd
  refine ⟨_, fd, ["store"], [], hm, F.kp, F.bindsN (fun _ _ _ _ _ _ us hl => match us, hl with | [_], _ => rfl), .nil, fn_deep (N := nm_law_cycles_met) (t := t_law_cycles_met) F sc_law_cycles_met rfl (by decide) fun cdv A outer s H vs E hr => ?_⟩
  have hu := hr.units
  have po := passes_of (X := cxD P w K mg base nm_law_cycles_met "_law_cycles_met" (defScope st_law_cycles_met) (He.ga K "_law_cycles_met") cdv A outer s H E) rfl
  exact (db_cons (ds_asg (i := 1) nd rfl (de_fn F_law_pick hr (ha := (da_cons (de_var (pv 0)) (da_cons (de_lst (da_cons (de_fn F_law_take hr (ha := (da_cons (de_var (pv 0)) (da_cons de_int da_nil)))) (da_cons (de_fn F_law_edge hr (ha := (da_cons (de_var (pv 0)) (da_cons de_int (da_cons de_int da_nil))))) (da_cons de_int da_nil)))) da_nil)))))
    (db_cons (ds_asg (i := 2) nd rfl (de_fn F_cycle_counts hr (ha := (da_cons (de_var (pv 1)) da_nil))))
    (db_cons (ds_if (DW.pt (dw_or (dt_not (dt_val (de_fn F_law_is_cycles hr (ha := (da_cons (de_var (pv 2)) (da_cons (de_var (pv 1)) da_nil)))))) (dw_or1 (dt_cmp (op_ne.or (op_neD hu)) op2_ne (de_callB (call_sum2 rfl) opn_sum T.b_sum (by decide +kernel) (da_cons (de_var (pv 2)) da_nil)) (de_fn F_law_factorial hr (ha := (da_cons (de_var (pv 1)) da_nil)))))))
    (db_one (ds_ret de_bl)) db_nil)
    (db_cons (ds_if (dt_cmp (op_eq.or (op_eqD hu)) op2_eq (de_var (pv 1)) de_int)
    (db_one (ds_ret de_bl)) db_nil)
    (db_cons (ds_asg (i := 3) nd rfl (de_fn F_cycle_counts hr (ha := (da_cons (de_op opr_add op2_add (de_var (pv 1)) de_int) da_nil))))
    (db_cons (ds_if (dt_not (dt_val (de_fn F_law_is_cycles hr (ha := (da_cons (de_var (pv 3)) (da_cons (de_op opr_add op2_add (de_var (pv 1)) de_int) da_nil))))))
    (db_one (ds_ret de_bl)) db_nil)
    (db_cons (ds_for po rfl (di_range2 T.b_range (da_cons de_int (da_cons (de_op opr_add op2_add (de_var (pv 1)) de_int) da_nil))) (dtg_nm nd rfl)
    (db_one (ds_if (dt_cmp (op_ne.or (op_neD hu)) op2_ne (de_ix (de_var (pv 3)) (de_var (pv 4))) (de_op opr_add op2_add (de_ix (de_var (pv 2)) (de_op op_sub op2_sub (de_var (pv 4)) de_int)) (de_op op_mulX op2_mul (de_var (pv 1)) (de_ix (de_var (pv 2)) (de_var (pv 4))))))
    (db_one (ds_ret de_bl)) db_nil)))
    (db_one (ds_ret de_bl)))))))))
abbrev st_law_far_met : Stmt := top 53
abbrev nm_law_far_met : List Str := ["store", "which", "top", "what", "k", "far", "due", "told"]
theorem sc_law_far_met : FnScope nm_law_far_met ["store", "which", "top", "what", "k"] (defScope st_law_far_met) := ⟨rfl, rfl, rfl, by decide +kernel, rfl, by decide +kernel, by decide +kernel⟩
def t_law_far_met : TDS :=
  (sSeq (sAsg 5 (eFn [true, false] m_law_far (aCons (eVar 0) (aCons (eVar 2) aNil))))
    (sSeq (sAsg 6 (gFz (gDis .tup (aCons (eC (.str "TooMany")) (aCons (gFz (gDis .tup (aCons (eVar 3) (aCons (eVar 2) aNil)))) aNil)))))
    (sSeq (sIf (eT (eBin opLt (eVar 5) (eC (.int 0))))
    (sAsg 6 (gFz (gDis .tup (aCons (eC (.str "BadNumber")) (aCons (gFz (gDis .tup (aCons (eVar 3) aNil))) aNil))))) sNil)
    (sSeq (sAsg 7 (eFn [false, false, false] m_law_ask (aCons (eVar 1) (aCons (eVar 5) (aCons (eVar 4) aNil)))))
    (sRet (eAnd (eBin (opEq false) (eBin opIx (eVar 7) (eC (.int 0))) (eC (.str "refused"))) (eFn [false, false] m_law_same (aCons (eBin opIx (eVar 7) (eC (.int 1))) (aCons (eVar 6) aNil)))))))))
def m_law_far_met : List D → FR := runB [true, false, false, false, false] 3 t_law_far_met
theorem ok_law_far_met (T : Txt K mg) (hF : ∃ fd, FunD K "_law_far_met" "_law_far_met" (defArgs st_law_far_met) (defBody st_law_far_met) (defScope st_law_far_met) [] [] (He.ga K "_law_far_met") fd) (hm : mg "_law_far_met" = some (.ref (He.ga K "_law_far_met"))) (F_law_far : Fn P w K mg base "_law_far" 4 [] [true, false] m_law_far) (F_law_ask : Fn P w K mg base "_law_ask" 5 [] [false, false, false] m_law_ask) (F_law_same : Fn P w K mg base "_law_same" 2 [] [false, false] m_law_same) : Fn P w K mg base "_law_far_met" 6 [] [true, false, false, false, false] m_law_far_met := by
  obtain ⟨fd, F⟩ := hF
  have nd := sc_law_far_met.nd
  refine ⟨_, fd, ["store", "which", "top", "what", "k"], [], hm, F.kp, F.bindsN (fun _ _ _ _ _ _ us hl => match us, hl with | [_, _, _, _, _], _ => rfl), .nil, fn_deep (N := nm_law_far_met) (t := t_law_far_met) F sc_law_far_met rfl (by decide) fun cdv A outer s H vs E hr => ?_⟩
  have hu := hr.units
  have po := passes_of (X := cxD P w K mg base nm_law_far_met "_law_far_met" (defScope st_law_far_met) (He.ga K "_law_far_met") cdv A outer s H E) rfl
  exact (db_cons (ds_asg (i := 5) nd rfl (de_fn F_law_far hr (ha := (da_cons (de_var (pv 0)) (da_cons (de_var (pv 2)) da_nil)))))
    (db_cons (ds_asg (i := 6) nd rfl (de_tup (da_cons de_str (da_cons (de_tup (da_cons (de_var (pv 3)) (da_cons (de_var (pv 2)) da_nil))) da_nil))))
    (db_cons (ds_if (dt_cmp op_lt op2_lt (de_var (pv 5)) de_int)
    (db_one (ds_asg (i := 6) nd rfl (de_tup (da_cons de_str (da_cons (de_tup (da_cons (de_var (pv 3)) da_nil)) da_nil))))) db_nil)
    (db_cons (ds_asg (i := 7) nd rfl (de_fn F_law_ask hr (ha := (da_cons (de_var (pv 1)) (da_cons (de_var (pv 5)) (da_cons (de_var (pv 4)) da_nil))))))
    (db_one (ds_ret (de_and (de_cmp (op_eq.or (op_eqD hu)) op2_eq (de_ix (de_var (pv 7)) de_int) de_str) (de_one (de_fn F_law_same hr (ha := (da_cons (de_ix (de_var (pv 7)) de_int) (da_cons (de_var (pv 6)) da_nil))))))))))))
abbrev st_law_arrangements_met : Stmt := top 57
abbrev nm_law_arrangements_met : List Str := ["row", "due", "part", "kept", "told", "value"]
theorem sc_law_arrangements_met : FnScope nm_law_arrangements_met ["row"] (defScope st_law_arrangements_met) := ⟨rfl, rfl, rfl, by decide +kernel, rfl, by decide +kernel, by decide +kernel⟩
def t_law_arrangements_met : TDS :=
  (sSeq (sAsg 1 (gFz (gDis .tup aNil)))
    (sSeq (sIf (eT (eBin opGt (eCall (fn1 sumD) (aCons (eVar 0) aNil)) (eC (.int 1000))))
    (sAsg 1 (gFz (gDis .tup (aCons (eC (.str "TooMany")) (aCons (gFz (gDis .tup (aCons (eC (.str "counts")) (aCons (eC (.int 1000)) aNil)))) aNil))))) sNil)
    (sSeq (sFor (.nm 2) (iSeq (eVar 0))
    (sIf (eT (eBin opLt (eVar 2) (eC (.int 0))))
    (sAsg 1 (gFz (gDis .tup (aCons (eC (.str "BadNumber")) (aCons (gFz (gDis .tup (aCons (eC (.str "counts")) aNil))) aNil))))) sNil))
    (sSeq (sAsg 3 (eCall (fn1 tupD) (aCons (eVar 0) aNil)))
    (sSeq (sAsg 4 (eFn [false, false, false] m_law_ask (aCons (eC (.int 2)) (aCons (eVar 0) (aCons (eC (.int 0)) aNil)))))
    (sSeq (sIf (eT (eBin (opEq true) (eCall (fn1 tupD) (aCons (eVar 0) aNil)) (eVar 3)))
    (sRet (eC (.bl false))) sNil)
    (sSeq (sIf (eT (eBin (opEq true) (eVar 1) (gFz (gDis .tup aNil))))
    (sRet (eAnd (eBin (opEq false) (eBin opIx (eVar 4) (eC (.int 0))) (eC (.str "refused"))) (eFn [false, false] m_law_same (aCons (eBin opIx (eVar 4) (eC (.int 1))) (aCons (eVar 1) aNil))))) sNil)
    (sSeq (sIf (bOr (eT (eBin (opEq true) (eBin opIx (eVar 4) (eC (.int 0))) (eC (.str "answer")))) (bNot (eT (eFn [false] m_law_is_int (aCons (eBin opIx (eVar 4) (eC (.int 1))) aNil)))))
    (sRet (eC (.bl false))) sNil)
    (sSeq (sAsg 5 (eBin opIx (eVar 4) (eC (.int 1))))
    (sSeq (sFor (.nm 2) (iSeq (eVar 0))
    (sAsg 5 (eBin opMul (eVar 5) (eFn [false] m_law_factorial (aCons (eVar 2) aNil)))))
    (sRet (eBin (opEq false) (eVar 5) (eFn [false] m_law_factorial (aCons (eCall (fn1 sumD) (aCons (eVar 0) aNil)) aNil))))))))))))))
def m_law_arrangements_met : List D → FR := runB [false] 5 t_law_arrangements_met
theorem ok_law_arrangements_met (T : Txt K mg) (hF : ∃ fd, FunD K "_law_arrangements_met" "_law_arrangements_met" (defArgs st_law_arrangements_met) (defBody st_law_arrangements_met) (defScope st_law_arrangements_met) [] [] (He.ga K "_law_arrangements_met") fd) (hm : mg "_law_arrangements_met" = some (.ref (He.ga K "_law_arrangements_met"))) (F_law_ask : Fn P w K mg base "_law_ask" 5 [] [false, false, false] m_law_ask) (F_law_same : Fn P w K mg base "_law_same" 2 [] [false, false] m_law_same) (F_law_is_int : Fn P w K mg base "_law_is_int" 1 [] [false] m_law_is_int) (F_law_factorial : Fn P w K mg base "_law_factorial" 1 [] [false] m_law_factorial) : Fn P w K mg base "_law_arrangements_met" 6 [] [false] m_law_arrangements_met := by
  obtain ⟨fd, F⟩ := hF
  have nd := sc_law_arrangements_met.nd
  refine ⟨_, fd, ["row"], [], hm, F.kp, F.bindsN (fun _ _ _ _ _ _ us hl => match us, hl with | [_], _ => rfl), .nil, fn_deep (N := nm_law_arrangements_met) (t := t_law_arrangements_met) F sc_law_arrangements_met rfl (by decide) fun cdv A outer s H vs E hr => ?_⟩
  have hu := hr.units
  have po := passes_of (X := cxD P w K mg base nm_law_arrangements_met "_law_arrangements_met" (defScope st_law_arrangements_met) (He.ga K "_law_arrangements_met") cdv A outer s H E) rfl
  exact (db_cons (ds_asg (i := 1) nd rfl (de_tup da_nil))
    (db_cons (ds_if (dt_cmp op_gt op2_gt (de_callB (call_sum2 rfl) opn_sum T.b_sum (by decide +kernel) (da_cons (de_var (pv 0)) da_nil)) de_int)
    (db_one (ds_asg (i := 1) nd rfl (de_tup (da_cons de_str (da_cons (de_tup (da_cons de_str (da_cons de_int da_nil))) da_nil))))) db_nil)
    (db_cons (ds_for po rfl (di_seq (de_var (pv 0))) (dtg_nm nd rfl)
    (db_one (ds_if (dt_cmp op_lt op2_lt (de_var (pv 2)) de_int)
    (db_one (ds_asg (i := 1) nd rfl (de_tup (da_cons de_str (da_cons (de_tup (da_cons de_str da_nil)) da_nil))))) db_nil)))
    (db_cons (ds_asg (i := 3) nd rfl (de_callTy call_tuple_of opn_tuple T.b_tuple (by decide +kernel) (da_cons (de_var (pv 0)) da_nil)))
    (db_cons (ds_asg (i := 4) nd rfl (de_fn F_law_ask hr (ha := (da_cons de_int (da_cons (de_var (pv 0)) (da_cons de_int da_nil))))))
    (db_cons (ds_if (dt_cmp (op_ne.or (op_neD hu)) op2_ne (de_callTy call_tuple_of opn_tuple T.b_tuple (by decide +kernel) (da_cons (de_var (pv 0)) da_nil)) (de_var (pv 3)))
    (db_one (ds_ret de_bl)) db_nil)
    (db_cons (ds_if (dt_cmp (op_ne.or (op_neD hu)) op2_ne (de_var (pv 1)) (de_tup da_nil))
    (db_one (ds_ret (de_and (de_cmp (op_eq.or (op_eqD hu)) op2_eq (de_ix (de_var (pv 4)) de_int) de_str) (de_one (de_fn F_law_same hr (ha := (da_cons (de_ix (de_var (pv 4)) de_int) (da_cons (de_var (pv 1)) da_nil)))))))) db_nil)
    (db_cons (ds_if (DW.pt (dw_or (dt_cmp (op_ne.or (op_neD hu)) op2_ne (de_ix (de_var (pv 4)) de_int) de_str) (dw_or1 (dt_not (dt_val (de_fn F_law_is_int hr (ha := (da_cons (de_ix (de_var (pv 4)) de_int) da_nil))))))))
    (db_one (ds_ret de_bl)) db_nil)
    (db_cons (ds_asg (i := 5) nd rfl (de_ix (de_var (pv 4)) de_int))
    (db_cons (ds_for po rfl (di_seq (de_var (pv 0))) (dtg_nm nd rfl)
    (db_one (ds_asg (i := 5) nd rfl (de_op op_mulX op2_mul (de_var (pv 5)) (de_fn F_law_factorial hr (ha := (da_cons (de_var (pv 2)) da_nil)))))))
    (db_one (ds_ret (de_cmp (op_eq.or (op_eqD hu)) op2_eq (de_var (pv 5)) (de_fn F_law_factorial hr (ha := (da_cons (de_callB (call_sum2 rfl) opn_sum T.b_sum (by decide +kernel) (da_cons (de_var (pv 0)) da_nil)) da_nil))))))))))))))))
abbrev st_law : Stmt := top 58
abbrev nm_law : List Str := ["script", "store", "turn", "k"]
theorem sc_law : FnScope nm_law ["script"] (defScope st_law) := ⟨rfl, rfl, rfl, by decide +kernel, rfl, by decide +kernel, by decide +kernel⟩
def t_law : TDS :=
  (sSeq (sAsgG 1 (gFn [false] m_law_store (aCons (eVar 0) aNil)))
    (sSeq (sFor (.nm 2) (iRng rngF1 (aCons (eC (.int 3)) aNil))
    (sIf (bNot (eT (eFn [true] m_law_ways_met (aCons (eVar 1) aNil))))
    (sRet (eC (.bl false))) sNil))
    (sSeq (sAsg 3 (eFn [true, false] m_law_signed (aCons (eVar 1) (aCons (eC (.int 30)) aNil))))
    (sSeq (sIf (bOr (bNot (eT (eFn [true, false, false, false, false] m_law_far_met (aCons (eVar 1) (aCons (eC (.int 0)) (aCons (eC (.int 1000)) (aCons (eC (.str "n")) (aCons (eVar 3) aNil)))))))) (bNot (eT (eFn [true, false, false, false, false] m_law_far_met (aCons (eVar 1) (aCons (eC (.int 1)) (aCons (eC (.int 40)) (aCons (eC (.str "r")) (aCons (eC (.int 0)) aNil)))))))))
    (sRet (eC (.bl false))) sNil)
    (sSeq (sIf (bOr (bNot (eT (eFn [true] m_law_cycles_met (aCons (eVar 1) aNil)))) (bNot (eT (eFn [false, false] m_law_same (aCons (eFn [false] m_cycle_counts (aCons (eC (.int 0)) aNil)) (aCons (gFz (gDis .tup (aCons (eC (.int 1)) aNil))) aNil))))))
    (sRet (eC (.bl false))) sNil)
    (sSeq (sFor (.nm 2) (iRng rngF1 (aCons (eC (.int 2)) aNil))
    (sIf (bNot (eT (eFn [false] m_law_arrangements_met (aCons (eFn [true] m_law_counts (aCons (eVar 1) aNil)) aNil))))
    (sRet (eC (.bl false))) sNil))
    (sRet (eAnd (eFn [false] m_law_arrangements_met (aCons (gFz (gDis .lst aNil)) aNil)) (eAnd (eFn [false] m_law_arrangements_met (aCons (gFz (gDis .tup (aCons (eC (.int 3)) (aCons (eC (.int 0)) (aCons (eC (.int 2)) aNil))))) aNil)) (eFn [false, false, false] m_law_is_ways (aCons (eFn [false, false] m_ways (aCons (eC (.int 1000)) (aCons (eC (.int 3)) aNil))) (aCons (eC (.int 1000)) (aCons (eC (.int 3)) aNil)))))))))))))
def m_law : List D → FR := runB [false] 3 t_law
theorem ok_law (T : Txt K mg) {fd : FuncData} (F : FunD K "law" "law" (defArgs st_law) (defBody st_law) (defScope st_law) [] [] (He.ga K "law") fd) (F_law_store : Fn P w K mg base "_law_store" 2 [] [false] m_law_store) (F_law_ways_met : Fn P w K mg base "_law_ways_met" 5 [] [true] m_law_ways_met) (F_law_signed : Fn P w K mg base "_law_signed" 4 [] [true, false] m_law_signed) (F_law_far_met : Fn P w K mg base "_law_far_met" 6 [] [true, false, false, false, false] m_law_far_met) (F_law_cycles_met : Fn P w K mg base "_law_cycles_met" 5 [] [true] m_law_cycles_met) (F_cycle_counts : Fn P w K mg base "cycle_counts" 3 [] [false] m_cycle_counts) (F_law_same : Fn P w K mg base "_law_same" 2 [] [false, false] m_law_same) (F_law_counts : Fn P w K mg base "_law_counts" 4 [] [true] m_law_counts) (F_law_arrangements_met : Fn P w K mg base "_law_arrangements_met" 6 [] [false] m_law_arrangements_met) (F_ways : Fn P w K mg base "ways" 3 [] [false, false] m_ways) (F_law_is_ways : Fn P w K mg base "_law_is_ways" 2 [] [false, false, false] m_law_is_ways) : FnOk P w K mg base (L2N.CX P w) 7 (He.ga K "law") fd ["script"] (spD K [false] m_law) := by
  have nd := sc_law.nd
  refine fn_deep (N := nm_law) (t := t_law) F sc_law rfl (by decide) fun cdv A outer s H vs E hr => ?_
  have hu := hr.units
  have po := passes_of (X := cxD P w K mg base nm_law "law" (defScope st_law) (He.ga K "law") cdv A outer s H E) rfl
  exact (db_cons (ds_asgG (i := 1) nd rfl (dg_fn (by decide) F_law_store hr (ha := (da_cons (de_var (pv 0)) da_nil))))
    (db_cons (ds_for po rfl (di_range1 T.b_range (da_cons de_int da_nil)) (dtg_nm nd rfl)
    (db_one (ds_if (dt_not (dt_val (de_fn F_law_ways_met hr (ha := (da_cons (de_var (pv 1)) da_nil)))))
    (db_one (ds_ret de_bl)) db_nil)))
    (db_cons (ds_asg (i := 3) nd rfl (de_fn F_law_signed hr (ha := (da_cons (de_var (pv 1)) (da_cons de_int da_nil)))))
    (db_cons (ds_if (DW.pt (dw_or (dt_not (dt_val (de_fn F_law_far_met hr (ha := (da_cons (de_var (pv 1)) (da_cons de_int (da_cons de_int (da_cons de_str (da_cons (de_var (pv 3)) da_nil))))))))) (dw_or1 (dt_not (dt_val (de_fn F_law_far_met hr (ha := (da_cons (de_var (pv 1)) (da_cons de_int (da_cons de_int (da_cons de_str (da_cons de_int da_nil))))))))))))
    (db_one (ds_ret de_bl)) db_nil)
    (db_cons (ds_if (DW.pt (dw_or (dt_not (dt_val (de_fn F_law_cycles_met hr (ha := (da_cons (de_var (pv 1)) da_nil))))) (dw_or1 (dt_not (dt_val (de_fn F_law_same hr (ha := (da_cons (de_fn F_cycle_counts hr (ha := (da_cons de_int da_nil))) (da_cons (de_tup (da_cons de_int da_nil)) da_nil)))))))))
    (db_one (ds_ret de_bl)) db_nil)
    (db_cons (ds_for po rfl (di_range1 T.b_range (da_cons de_int da_nil)) (dtg_nm nd rfl)
    (db_one (ds_if (dt_not (dt_val (de_fn F_law_arrangements_met hr (ha := (da_cons (de_fn F_law_counts hr (ha := (da_cons (de_var (pv 1)) da_nil))) da_nil)))))
    (db_one (ds_ret de_bl)) db_nil)))
    (db_one (ds_ret (de_and (de_fn F_law_arrangements_met hr (ha := (da_cons (de_lst da_nil) da_nil))) (de_and (de_fn F_law_arrangements_met hr (ha := (da_cons (de_tup (da_cons de_int (da_cons de_int (da_cons de_int da_nil)))) da_nil))) (de_one (de_fn F_law_is_ways hr (ha := (da_cons (de_fn F_ways hr (ha := (da_cons de_int (da_cons de_int da_nil)))) (da_cons de_int (da_cons de_int da_nil))))))))))))))))
end
end LK

set_option Elab.async false
set_option linter.all false
set_option maxRecDepth 10000
set_option exponentiation.threshold 4000
local macro_rules | `(tactic| walk_at "ev") => `(tactic| simp only [DL.RW_ok, DL.RW_exc, DL.RW_stuck, DL.RW_C, DL.RW_var, DL.RW_bin, DL.RW_un, DL.RW_vB, DL.RW_T, DL.RW_bAnd, DL.RW_bOr, DL.RW_bNot, DL.RW_eAnd, DL.RW_eOr, DL.RW_eNot, DL.RW_eIf, DL.RW_aNil, DL.RW_aCons, DL.RW_gFz, DL.RW_gDis, DL.RW_eCall, DL.RW_gCall, DL.RW_fn1, DL.RW_fn2, DL.RW_fnL, DL.dr_fz, DL.dr_sl, DL.frz_fz, DL.frz_sl, DL.frzs_nil, DL.frzs_cons, DL.RW_add, DL.RW_sub, DL.RW_lt, DL.RW_le, DL.RW_gt, DL.RW_ge, DL.RW_neg, DL.RW_mul, DL.RW_div, DL.RW_mod, DL.RW_pow, DL.RW_eq0, DL.RW_eq1, DL.eqD_ii, DL.eqD_ss, DL.eqD_bb, Int.cast_ofNat_Int, DL.RW_in, DL.RW_is, DL.RW_ix, DL.getD_lst, DL.getD_tup, DL.atI_0, DL.atI_1, DL.atI_2, DL.atI_3, DL.atI_4, DL.atI_5, DL.RW_eFn, DL.RW_gFn, DL.RW_call, DL.FW_nx, DL.FW_nil, DL.FW_break, DL.FW_cont, DL.FW_seq, DL.FW_if, DL.FW_expr, DL.FW_ret, DL.FW_retG, DL.FW_retN, DL.FW_put, DL.FW_asg, DL.FW_asgG, DL.FW_asgT, DL.FW_par, DL.FW_sub, DL.FW_store, DL.FW_aug, DL.FW_raise, DL.FW_try, DL.keepP, DL.RW_rng1, DL.RW_rng2, DL.rng1_int, DL.RW_seq, DL.startD_eq, DL.startA, DL.setT_nm, DL.setT_tp, DL.setN_nil, DL.setN_cons, DL.bindA, DL.argD, DL.pairsA, DL.putM, DL.ndup, DL.mutsD, DL.mutIdx, DL.intD, DL.absD, DL.lenD, DL.tupD, DL.max2D, DL.min2D, DL.szl, DL.items_lst, DL.items_tup, DL.RW_comp, DL.RW_yes, DL.wipeD, DL.RW_addL, DL.RW_addT, DL.RW_addS, DL.RW_iadd, DL.RW_gCat, DL.RW_gRep, DL.RW_gRev, DL.RW_zip, DL.RW_enum, DL.stF, DL.RW_oN, DL.RW_oS, DL.RW_sl, DL.RW_mut, DL.RW_mutF, DL.isOwn, DL.lm_app, DL.ixN_l0, DL.ixN_l1, DL.ixN_l2, DL.ixN_l3, DL.ixN_l4, DL.ixN_l5, List.reverse_cons, List.reverse_nil, List.getElem?_nil, Nat.reduceAdd, Nat.reduceLeDiff, Nat.reduceLT, Int.reduceLT, Int.reduceLE, Int.reduceAdd, Int.reduceSub, Int.reduceMul, Int.reduceNeg, Int.reduceEq, Int.reduceToNat, Nat.reduceEqDiff, List.replicate_succ, List.replicate_zero, List.cons_append, List.nil_append, List.getElem?_cons_zero, List.getElem?_cons_succ, List.set_cons_zero, List.set_cons_succ, List.length_cons, List.length_nil, List.map_cons, List.map_nil, List.contains_nil, List.contains_cons, Option.map_some, Option.bind_some, decide_eq_true_eq, decide_eq_false_iff_not, decide_true, decide_false, Bool.not_true, Bool.not_false, Bool.and_true, Bool.true_and, Bool.and_false, Bool.false_and, Bool.or_false, Bool.false_or, Bool.or_true, Bool.true_or, Bool.not_eq_true', Bool.not_eq_false', Bool.false_eq_true, Bool.true_eq_false, reduceCtorEq, true_implies, false_implies, forall_const, not_true_eq_false, not_false_eq_true, and_true, true_and, and_self, if_true, if_false, ite_true, ite_false, eq_self])
local macro_rules | `(tactic| walk_at "st") => `(tactic| (refine DL.LZ_in ?_; simp only [DL.RW_ok, DL.RW_exc, DL.RW_stuck, DL.RW_C, DL.RW_var, DL.RW_bin, DL.RW_un, DL.RW_vB, DL.RW_T, DL.RW_bAnd, DL.RW_bOr, DL.RW_bNot, DL.RW_eAnd, DL.RW_eOr, DL.RW_eNot, DL.RW_eIf, DL.RW_aNil, DL.RW_aCons, DL.RW_gFz, DL.RW_gDis, DL.RW_eCall, DL.RW_gCall, DL.RW_fn1, DL.RW_fn2, DL.RW_fnL, DL.dr_fz, DL.dr_sl, DL.frz_fz, DL.frz_sl, DL.frzs_nil, DL.frzs_cons, DL.RW_add, DL.RW_sub, DL.RW_lt, DL.RW_le, DL.RW_gt, DL.RW_ge, DL.RW_neg, DL.RW_mul, DL.RW_div, DL.RW_mod, DL.RW_pow, DL.RW_eq0, DL.RW_eq1, DL.eqD_ii, DL.eqD_ss, DL.eqD_bb, Int.cast_ofNat_Int, DL.RW_in, DL.RW_is, DL.RW_ix, DL.getD_lst, DL.getD_tup, DL.atI_0, DL.atI_1, DL.atI_2, DL.atI_3, DL.atI_4, DL.atI_5, DL.RW_eFn, DL.RW_gFn, DL.RW_call, DL.FW_nx, DL.FW_nil, DL.FW_break, DL.FW_cont, DL.FW_seq, DL.FW_if, DL.FW_expr, DL.FW_ret, DL.FW_retG, DL.FW_retN, DL.FW_put, DL.FW_asg, DL.FW_asgG, DL.FW_asgT, DL.FW_par, DL.FW_sub, DL.FW_store, DL.FW_aug, DL.FW_raise, DL.FW_try, DL.keepP, DL.RW_rng1, DL.RW_rng2, DL.rng1_int, DL.RW_seq, DL.startD_eq, DL.startA, DL.setT_nm, DL.setT_tp, DL.setN_nil, DL.setN_cons, DL.bindA, DL.argD, DL.pairsA, DL.putM, DL.ndup, DL.mutsD, DL.mutIdx, DL.intD, DL.absD, DL.lenD, DL.tupD, DL.max2D, DL.min2D, DL.szl, DL.items_lst, DL.items_tup, DL.RW_comp, DL.RW_yes, DL.wipeD, DL.RW_addL, DL.RW_addT, DL.RW_addS, DL.RW_iadd, DL.RW_gCat, DL.RW_gRep, DL.RW_gRev, DL.RW_zip, DL.RW_enum, DL.stF, DL.RW_oN, DL.RW_oS, DL.RW_sl, DL.RW_mut, DL.RW_mutF, DL.isOwn, DL.lm_app, DL.ixN_l0, DL.ixN_l1, DL.ixN_l2, DL.ixN_l3, DL.ixN_l4, DL.ixN_l5, List.reverse_cons, List.reverse_nil, List.getElem?_nil, Nat.reduceAdd, Nat.reduceLeDiff, Nat.reduceLT, Int.reduceLT, Int.reduceLE, Int.reduceAdd, Int.reduceSub, Int.reduceMul, Int.reduceNeg, Int.reduceEq, Int.reduceToNat, Nat.reduceEqDiff, List.replicate_succ, List.replicate_zero, List.cons_append, List.nil_append, List.getElem?_cons_zero, List.getElem?_cons_succ, List.set_cons_zero, List.set_cons_succ, List.length_cons, List.length_nil, List.map_cons, List.map_nil, List.contains_nil, List.contains_cons, Option.map_some, Option.bind_some, decide_eq_true_eq, decide_eq_false_iff_not, decide_true, decide_false, Bool.not_true, Bool.not_false, Bool.and_true, Bool.true_and, Bool.and_false, Bool.false_and, Bool.or_false, Bool.false_or, Bool.or_true, Bool.true_or, Bool.not_eq_true', Bool.not_eq_false', Bool.false_eq_true, Bool.true_eq_false, reduceCtorEq, true_implies, false_implies, forall_const, not_true_eq_false, not_false_eq_true, and_true, true_and, and_self, if_true, if_false, ite_true, ite_false, eq_self]))
namespace LK
open PySem L2 DL
/-! ### the law's own helpers -/
section
variable {Q G : D → List D → Prop} {E : Str → List Str → List D → List D → Prop}
theorem powB : ∀ i : Fin 41, (288230376151711744 : Int) ^ i.val ≤ 10 ^ 900 := by decide +kernel
theorem divOk_lit {i j : Int} (h : divOk 0 j = true) : divOk i j = true := h
theorem mix_spec {base turn place : Int} (h1 : sm base) (h2 : sm turn) (h3 : sm place) (k : ∀ r, 0 ≤ r → r < 288230376151711744 → Q (.int r) []) : MW (m_law_mix [.int base, .int turn, .int place]) Q G E := by
  refine MW_run (t := t_law_mix) ?_
  delta t_law_mix
  walk_at "st"
  walk_at "st"
  refine ⟨sm_mul h1 (sm_100 (by decide) (by decide)), sm_mul h2 (sm_100 (by decide) (by decide)), sm_mul h3 (sm_100 (by decide) (by decide)), ?_⟩
  generalize base * 6364136223846793005 + turn * 1442695040888963407 + place * 2862933555777941757 + 3037000493 = one0
  walk_at "st"
  have a0 := Int.emod_nonneg one0 (show (2305843009213693951 : Int) ≠ 0 by decide)
  have a1 := Int.emod_lt_of_pos one0 (show (0 : Int) < 2305843009213693951 by decide)
  generalize one0 % 2305843009213693951 = one at a0 a1
  walk_at "st"
  refine ⟨divOk_lit (by decide +kernel), sm_mul (sm_100 (by omega) (by omega)) (sm_100 (by decide) (by decide)), sm_mul (sm_100 (by omega) (by omega)) (sm_100 (by decide) (by decide)), ?_⟩
  generalize one / 65537 * 2685821657736338717 + one * 1181783497276652981 + turn = two0
  have b0 := Int.emod_nonneg two0 (show (2305843009213693951 : Int) ≠ 0 by decide)
  have b1 := Int.emod_lt_of_pos two0 (show (0 : Int) < 2305843009213693951 by decide)
  generalize two0 % 2305843009213693951 = two at b0 b1
  walk_at "st"
  refine ⟨sm_mul (sm_100 (by omega) (by omega)) (sm_100 (by omega) (by omega)), divOk_lit (by decide +kernel), sm_mul (sm_100 (by omega) (by omega)) (sm_100 (by decide) (by decide)), ?_⟩
  generalize two * two + one / 4294967296 * 3935559000370003845 + place = three0
  have c0 := Int.emod_nonneg three0 (show (2305843009213693951 : Int) ≠ 0 by decide)
  have c1 := Int.emod_lt_of_pos three0 (show (0 : Int) < 2305843009213693951 by decide)
  generalize three0 % 2305843009213693951 = three at c0 c1
  walk_at "st"
  exact ⟨divOk_lit (by decide +kernel), k _ (by omega) (by omega)⟩
/-- the store that a law draws from -/
structure Sto where
  cs : List (Int × Int)
  p1 : Int
  p2 : Int
  p3 : Int
  p4 : Int
  p5 : Int
def cD (c : Int × Int) : D := .tup [.int c.1, .int c.2]
def stD (s : Sto) : D := .lst [.lst (s.cs.map cD), .int s.p1, .int s.p2, .int s.p3, .int s.p4, .int s.p5]
structure Inv (n : Int) (s : Sto) : Prop where
  c : ∀ c ∈ s.cs, 0 ≤ c.2 ∧ c.2 ≤ 10 ^ 810
  l : s.cs.length ≤ 1000
  a1 : 0 ≤ s.p1
  b1 : s.p1 ≤ s.cs.length
  a2 : 0 ≤ s.p2
  b2 : s.p2 ≤ 10 ^ 810
  a3 : 0 < s.p3 → 1 ≤ s.p1
  a4 : 0 ≤ s.p4
  b4 : s.p4 ≤ n
  a5 : 0 ≤ s.p5
  b5 : s.p5 ≤ 10 ^ 810
theorem Inv.mono {n m : Int} {s : Sto} (I : Inv n s) (h : n ≤ m) : Inv m s := ⟨I.c, I.l, I.a1, I.b1, I.a2, I.b2, I.a3, I.a4, Int.le_trans I.b4 h, I.a5, I.b5⟩
theorem sm_810 {x : Int} (h0 : 0 ≤ x) (h1 : x ≤ 10 ^ 810) : sm x := sm_800 h0 (Int.le_trans h1 (by decide +kernel))
theorem take_spec {s : Sto} {n many : Int} (I : Inv n s) (hn : n ≤ 1000000) (h0 : 0 ≤ many) (hm : many ≤ 10 ^ 100) (k : ∀ r s', Inv (n + 1) s' → 0 ≤ r → (r < many ∨ r = 0) → Q (.int r) [stD s']) : MW (m_law_take [stD s, .int many]) Q G E := by
  obtain ⟨cs, p1, p2, p3, p4, p5⟩ := s
  obtain ⟨ic, il, i1, j1, i2, j2, i3, i4, j4, i5, j5⟩ := I
  dsimp only at ic il i1 j1 i2 j2 i3 i4 j4 i5 j5
  unfold stD
  refine MW_run (t := t_law_take) ?_
  delta t_law_take
  dsimp only
  walk_at "st"
  refine ⟨fun h => ?_, fun h => ?_⟩
  · walk_at "st"
    exact k 0 ⟨cs, p1, p2, p3, p4, p5⟩ ⟨ic, il, i1, j1, i2, j2, i3, i4, by dsimp only; omega, i5, j5⟩ (by omega) (.inr rfl)
  walk_at "st"
  walk_at "st"
  refine LZ_cut (J := fun δ => ∃ q1 q2 q3 x2, δ = [some (1, .lst [.lst (cs.map cD), .int q1, .int q2, .int q3, .int (p4 + 1), .int p5]), some (0, .int many), x2, none, none, none, none] ∧ 0 ≤ q1 ∧ q1 ≤ cs.length ∧ 0 ≤ q2 ∧ q2 ≤ 10 ^ 810 ∧ (0 < q3 → 1 ≤ q1)) ?_ ?_
  · walk_at "st"
    have base : ∃ q1 q2 q3 x2, [some (1, D.lst [.lst (cs.map cD), .int p1, .int p2, .int p3, .int (p4 + 1), .int p5]), some (0, .int many), none, none, none, none, none] = [some (1, D.lst [.lst (cs.map cD), .int q1, .int q2, .int q3, .int (p4 + 1), .int p5]), some (0, .int many), x2, none, none, none, none] ∧ 0 ≤ q1 ∧ q1 ≤ cs.length ∧ 0 ≤ q2 ∧ q2 ≤ 10 ^ 810 ∧ (0 < q3 → 1 ≤ q1) := ⟨p1, p2, p3, none, rfl, i1, j1, i2, j2, i3⟩
    refine ⟨fun a => ⟨fun b => ⟨fun c => ?_, fun c => ?_⟩, fun b => ?_⟩, fun a => ?_⟩
    · simp only [List.length_map] at c
      have hlt : p1.toNat < cs.length := by omega
      have e : (cs.map cD)[p1.toNat]? = some (cD cs[p1.toNat]) := by rw [List.getElem?_map, List.getElem?_eq_getElem hlt]; rfl
      have hc := ic _ (List.getElem_mem hlt)
      generalize cs[p1.toNat] = cell at e hc
      (refine LZ_in ?_; simp only [atI_ge i1, e, cD, RW_ok, RW_exc, RW_stuck, RW_C, RW_var, RW_bin, RW_un, RW_vB, RW_T, RW_bAnd, RW_bOr, RW_bNot, RW_eAnd, RW_eOr, RW_eNot, RW_eIf, RW_aNil, RW_aCons, RW_gFz, RW_gDis, RW_eCall, RW_gCall, RW_fn1, RW_fn2, RW_fnL, dr_fz, dr_sl, frz_fz, frz_sl, frzs_nil, frzs_cons, RW_add, RW_sub, RW_lt, RW_le, RW_gt, RW_ge, RW_neg, RW_mul, RW_div, RW_mod, RW_pow, RW_eq0, RW_eq1, eqD_ii, eqD_ss, eqD_bb, Int.cast_ofNat_Int, RW_in, RW_is, RW_ix, getD_lst, getD_tup, atI_0, atI_1, atI_2, atI_3, atI_4, atI_5, RW_eFn, RW_gFn, RW_call, FW_nx, FW_nil, FW_break, FW_cont, FW_seq, FW_if, FW_expr, FW_ret, FW_retG, FW_retN, FW_put, FW_asg, FW_asgG, FW_asgT, FW_par, FW_sub, FW_store, FW_aug, FW_raise, FW_try, keepP, RW_rng1, RW_rng2, rng1_int, RW_seq, startD_eq, startA, setT_nm, setT_tp, setN_nil, setN_cons, bindA, argD, pairsA, putM, ndup, mutsD, mutIdx, intD, absD, lenD, tupD, max2D, min2D, szl, items_lst, items_tup, RW_comp, RW_yes, wipeD, RW_addL, RW_addT, RW_addS, RW_iadd, RW_gCat, RW_gRep, RW_gRev, RW_zip, RW_enum, stF, RW_oN, RW_oS, RW_sl, RW_mut, RW_mutF, isOwn, lm_app, ixN_l0, ixN_l1, ixN_l2, ixN_l3, ixN_l4, ixN_l5, List.reverse_cons, List.reverse_nil, List.getElem?_nil, Nat.reduceAdd, Nat.reduceLeDiff, Nat.reduceLT, Int.reduceLT, Int.reduceLE, Int.reduceAdd, Int.reduceSub, Int.reduceMul, Int.reduceNeg, Int.reduceEq, Int.reduceToNat, Nat.reduceEqDiff, List.replicate_succ, List.replicate_zero, List.cons_append, List.nil_append, List.getElem?_cons_zero, List.getElem?_cons_succ, List.set_cons_zero, List.set_cons_succ, List.length_cons, List.length_nil, List.map_cons, List.map_nil, List.contains_nil, List.contains_cons, Option.map_some, Option.bind_some, decide_eq_true_eq, decide_eq_false_iff_not, decide_true, decide_false, Bool.not_true, Bool.not_false, Bool.and_true, Bool.true_and, Bool.and_false, Bool.false_and, Bool.or_false, Bool.false_or, Bool.or_true, Bool.true_or, Bool.not_eq_true', Bool.not_eq_false', Bool.false_eq_true, Bool.true_eq_false, reduceCtorEq, true_implies, false_implies, forall_const, not_true_eq_false, not_false_eq_true, and_true, true_and, and_self, if_true, if_false, ite_true, ite_false, eq_self])
      walk_at "st"
      walk_at "st"
      refine ⟨fun d => ?_, fun d => ?_⟩
      · walk_at "st"
        exact ⟨_, _, _, _, rfl, by omega, by omega, hc.1, hc.2, fun _ => by omega⟩
      · walk_at "st"
        exact ⟨_, _, _, _, rfl, by omega, by omega, i2, j2, fun _ => by omega⟩
    · walk_at "st"; exact base
    · walk_at "st"; exact base
    · walk_at "st"; exact base
  rintro δ1 ⟨q1, q2, q3, x2, rfl, i1, j1, i2, j2, i3⟩
  walk_at "st"
  refine ⟨fun a => ?_, fun a => ?_⟩
  · walk_at "st"
    refine ⟨by omega, ?_⟩
    walk_at "st"
    refine ⟨sm_div (by omega) (sm_100 (by omega) hm), ?_⟩
    walk_at "st"
    refine k _ ⟨cs, q1, q2 / many, q3, p4 + 1, p5⟩ ⟨ic, il, i1, j1, Int.ediv_nonneg i2 h0, ?_, i3, by dsimp only; omega, by dsimp only; omega, i5, j5⟩ (Int.emod_nonneg _ (by omega)) (.inl (Int.emod_lt_of_pos _ (by omega)))
    exact Int.le_trans (Int.ediv_le_self _ i2) j2
  walk_at "st"
  walk_at "st"
  refine LZ_cut (J := fun δ => ∃ q3' b, δ = [some (1, .lst [.lst (cs.map cD), .int q1, .int q2, .int q3', .int (p4 + 1), .int p5]), some (0, .int many), x2, none, some (0, .int b), none, none] ∧ (0 < q3' → 1 ≤ q1) ∧ 0 ≤ b ∧ b ≤ 10 ^ 810) ?_ ?_
  · walk_at "st"
    refine ⟨fun b => ?_, fun b => ?_⟩
    · walk_at "st"
      have hq := i3 b
      have hlt : (q1 - 1).toNat < cs.length := by omega
      have e : (cs.map cD)[(q1 - 1).toNat]? = some (cD cs[(q1 - 1).toNat]) := by rw [List.getElem?_map, List.getElem?_eq_getElem hlt]; rfl
      have hc := ic _ (List.getElem_mem hlt)
      generalize cs[(q1 - 1).toNat] = cell at e hc
      (refine LZ_in ?_; simp only [atI_ge (show 0 ≤ q1 - 1 by omega), e, cD, RW_ok, RW_exc, RW_stuck, RW_C, RW_var, RW_bin, RW_un, RW_vB, RW_T, RW_bAnd, RW_bOr, RW_bNot, RW_eAnd, RW_eOr, RW_eNot, RW_eIf, RW_aNil, RW_aCons, RW_gFz, RW_gDis, RW_eCall, RW_gCall, RW_fn1, RW_fn2, RW_fnL, dr_fz, dr_sl, frz_fz, frz_sl, frzs_nil, frzs_cons, RW_add, RW_sub, RW_lt, RW_le, RW_gt, RW_ge, RW_neg, RW_mul, RW_div, RW_mod, RW_pow, RW_eq0, RW_eq1, eqD_ii, eqD_ss, eqD_bb, Int.cast_ofNat_Int, RW_in, RW_is, RW_ix, getD_lst, getD_tup, atI_0, atI_1, atI_2, atI_3, atI_4, atI_5, RW_eFn, RW_gFn, RW_call, FW_nx, FW_nil, FW_break, FW_cont, FW_seq, FW_if, FW_expr, FW_ret, FW_retG, FW_retN, FW_put, FW_asg, FW_asgG, FW_asgT, FW_par, FW_sub, FW_store, FW_aug, FW_raise, FW_try, keepP, RW_rng1, RW_rng2, rng1_int, RW_seq, startD_eq, startA, setT_nm, setT_tp, setN_nil, setN_cons, bindA, argD, pairsA, putM, ndup, mutsD, mutIdx, intD, absD, lenD, tupD, max2D, min2D, szl, items_lst, items_tup, RW_comp, RW_yes, wipeD, RW_addL, RW_addT, RW_addS, RW_iadd, RW_gCat, RW_gRep, RW_gRev, RW_zip, RW_enum, stF, RW_oN, RW_oS, RW_sl, RW_mut, RW_mutF, isOwn, lm_app, ixN_l0, ixN_l1, ixN_l2, ixN_l3, ixN_l4, ixN_l5, List.reverse_cons, List.reverse_nil, List.getElem?_nil, Nat.reduceAdd, Nat.reduceLeDiff, Nat.reduceLT, Int.reduceLT, Int.reduceLE, Int.reduceAdd, Int.reduceSub, Int.reduceMul, Int.reduceNeg, Int.reduceEq, Int.reduceToNat, Nat.reduceEqDiff, List.replicate_succ, List.replicate_zero, List.cons_append, List.nil_append, List.getElem?_cons_zero, List.getElem?_cons_succ, List.set_cons_zero, List.set_cons_succ, List.length_cons, List.length_nil, List.map_cons, List.map_nil, List.contains_nil, List.contains_cons, Option.map_some, Option.bind_some, decide_eq_true_eq, decide_eq_false_iff_not, decide_true, decide_false, Bool.not_true, Bool.not_false, Bool.and_true, Bool.true_and, Bool.and_false, Bool.false_and, Bool.or_false, Bool.false_or, Bool.or_true, Bool.true_or, Bool.not_eq_true', Bool.not_eq_false', Bool.false_eq_true, Bool.true_eq_false, reduceCtorEq, true_implies, false_implies, forall_const, not_true_eq_false, not_false_eq_true, and_true, true_and, and_self, if_true, if_false, ite_true, ite_false, eq_self])
      exact ⟨_, _, rfl, fun _ => hq, hc.1, hc.2⟩
    · walk_at "st"
      exact ⟨q3, p5, rfl, i3, i5, j5⟩
  rintro δ1 ⟨q3', b, rfl, i3, ib, jb⟩
  walk_at "st"
  walk_at "st"
  refine LZ_cut (J := fun δ => ∃ v x5 x6, δ = [some (1, .lst [.lst (cs.map cD), .int q1, .int q2, .int q3', .int (p4 + 1), .int p5]), some (0, .int many), x2, some (0, .int v), some (0, .int b), x5, x6] ∧ 0 ≤ v) ?_ ?_
  · refine LZ_in ?_
    rw [FW_for]
    walk_at "ev"
    rw [if_pos (by decide)]
    dsimp only
    refine FW_inv (fun i δ => ∃ v sp x6, δ = [some (1, .lst [.lst (cs.map cD), .int q1, .int q2, .int q3', .int (p4 + 1), .int p5]), some (0, .int many), x2, some (0, .int v), some (0, .int b), some (0, .int sp), x6] ∧ 0 ≤ v ∧ v < (288230376151711744 : Int) ^ i ∧ 0 ≤ sp ∧ sp ≤ (288230376151711744 : Int) ^ i) (k := 0) ⟨0, 1, none, rfl, by omega, by decide, by omega, by decide⟩ ?_ ?_
    · rintro i d δ hd ⟨v, sp, x6, rfl, v0, v1, s0, s1⟩
      rw [Nat.zero_add] at *
      obtain ⟨rfl, hi⟩ := rangeD_at hd
      refine ⟨_, rfl, ?_⟩
      have hi40 : i ≤ 40 := by omega
      have hp : (288230376151711744 : Int) ^ i ≤ 10 ^ 900 := powB ⟨i, by omega⟩
      have hs : (288230376151711744 : Int) ^ (i + 1) = (288230376151711744 : Int) ^ i * 288230376151711744 := Int.pow_succ _ _
      have hp0 : 0 < (288230376151711744 : Int) ^ i := Int.pow_pos (by decide)
      rw [hs]
      generalize (288230376151711744 : Int) ^ i = W at v1 s1 hp hp0
      walk_at "st"
      refine ⟨sm_mul (sm_100 (by omega) hm) (sm_100 (by decide) (by decide)), fun c => ?_, fun c => ?_⟩
      · walk_at "st"
        refine ⟨sm_mul (sm_800 v0 (by omega)) (sm_100 (by decide) (by decide)), sm_mul (sm_100 (by decide) (by decide)) (sm_100 (by omega) (by omega)), ?_⟩
        refine mix_spec (sm_810 ib jb) (sm_100 (by omega) (by omega)) (sm_100 (by omega) (by omega)) fun r r0 r1 => ?_
        walk_at "ev"
        walk_at "st"
        refine ⟨sm_mul (sm_800 s0 (by omega)) (sm_100 (by decide) (by decide)), ?_⟩
        exact ⟨_, _, _, rfl, by omega, by omega, by omega, by omega⟩
      · walk_at "st"
        exact ⟨_, _, _, rfl, by omega, by omega, by omega, by omega⟩
    · rintro δ ⟨v, sp, x6, rfl, v0, _⟩
      exact ⟨v, _, x6, rfl, v0⟩
  rintro δ1 ⟨v, x5, x6, rfl, v0⟩
  walk_at "st"
  refine ⟨by omega, ?_⟩
  exact k _ ⟨cs, q1, q2, q3', p4 + 1, p5⟩ ⟨ic, il, i1, j1, i2, j2, i3, by dsimp only; omega, by dsimp only; omega, i5, j5⟩ (Int.emod_nonneg _ (by omega)) (.inl (Int.emod_lt_of_pos _ (by omega)))
theorem store_spec {ns : List Int} (hl : ns.length ≤ 63) (k : ∀ s, Inv 0 s → G (stD s) []) : MW (m_law_store [.scr ns]) Q G E := by
  refine MW_run (t := t_law_store) ?_
  delta t_law_store
  walk_at "st"
  refine ⟨by decide +kernel, ?_⟩
  refine LZ_cut (J := fun δ => ∃ lim x2, δ = [some (0, .scr ns), some (0, .int lim), x2, none, none, none, none, none, none] ∧ 0 < lim ∧ lim ≤ 10 ^ 800) ?_ ?_
  · refine LZ_in ?_
    rw [FW_for]
    walk_at "ev"
    rw [if_pos (by decide)]
    dsimp only
    rw [show rangeD 0 4 = [.int 0, .int 1, .int 2, .int 3] from rfl]
    refine LZ_in ?_
    rw [FW_forC]
    walk_at "st"
    refine ⟨by decide +kernel, ?_⟩
    refine LZ_in ?_
    rw [FW_forC]
    walk_at "st"
    refine ⟨by decide +kernel, ?_⟩
    refine LZ_in ?_
    rw [FW_forC]
    walk_at "st"
    refine ⟨by decide +kernel, ?_⟩
    refine LZ_in ?_
    rw [FW_forC]
    walk_at "st"
    refine ⟨by decide +kernel, ?_⟩
    refine LZ_in ?_
    rw [FW_forN]
    exact ⟨_, _, rfl, by decide +kernel, by decide +kernel⟩
  rintro δ1 ⟨lim, x2, rfl, l0, l1⟩
  walk_at "st"
  walk_at "st"
  obtain ⟨js, ej, hj⟩ := scr_cut ns none (some 63)
  refine LZ_cut (J := fun δ => ∃ (cs : List (Int × Int)) (seed : Int) (x5 x6 x7 x8 : Option (Nat × D)), δ = [some (0, .scr ns), some (0, .int lim), x2, some (1, .lst (cs.map cD)), some (0, .int seed), x5, x6, x7, x8] ∧ cs.length ≤ 1000 ∧ 0 ≤ seed ∧ seed ≤ 10 ^ 810 ∧ ∀ c ∈ cs, 0 ≤ c.2 ∧ c.2 ≤ 10 ^ 810) ?_ ?_
  · refine LZ_in ?_
    rw [FW_for]
    simp only [ej, RW_ok, RW_exc, RW_stuck, RW_C, RW_var, RW_bin, RW_un, RW_vB, RW_T, RW_bAnd, RW_bOr, RW_bNot, RW_eAnd, RW_eOr, RW_eNot, RW_eIf, RW_aNil, RW_aCons, RW_gFz, RW_gDis, RW_eCall, RW_gCall, RW_fn1, RW_fn2, RW_fnL, dr_fz, dr_sl, frz_fz, frz_sl, frzs_nil, frzs_cons, RW_add, RW_sub, RW_lt, RW_le, RW_gt, RW_ge, RW_neg, RW_mul, RW_div, RW_mod, RW_pow, RW_eq0, RW_eq1, eqD_ii, eqD_ss, eqD_bb, Int.cast_ofNat_Int, RW_in, RW_is, RW_ix, getD_lst, getD_tup, atI_0, atI_1, atI_2, atI_3, atI_4, atI_5, RW_eFn, RW_gFn, RW_call, FW_nx, FW_nil, FW_break, FW_cont, FW_seq, FW_if, FW_expr, FW_ret, FW_retG, FW_retN, FW_put, FW_asg, FW_asgG, FW_asgT, FW_par, FW_sub, FW_store, FW_aug, FW_raise, FW_try, keepP, RW_rng1, RW_rng2, rng1_int, RW_seq, startD_eq, startA, setT_nm, setT_tp, setN_nil, setN_cons, bindA, argD, pairsA, putM, ndup, mutsD, mutIdx, intD, absD, lenD, tupD, max2D, min2D, szl, items_lst, items_tup, RW_comp, RW_yes, wipeD, RW_addL, RW_addT, RW_addS, RW_iadd, RW_gCat, RW_gRep, RW_gRev, RW_zip, RW_enum, stF, RW_oN, RW_oS, RW_sl, RW_mut, RW_mutF, isOwn, lm_app, ixN_l0, ixN_l1, ixN_l2, ixN_l3, ixN_l4, ixN_l5, List.reverse_cons, List.reverse_nil, List.getElem?_nil, Nat.reduceAdd, Nat.reduceLeDiff, Nat.reduceLT, Int.reduceLT, Int.reduceLE, Int.reduceAdd, Int.reduceSub, Int.reduceMul, Int.reduceNeg, Int.reduceEq, Int.reduceToNat, Nat.reduceEqDiff, List.replicate_succ, List.replicate_zero, List.cons_append, List.nil_append, List.getElem?_cons_zero, List.getElem?_cons_succ, List.set_cons_zero, List.set_cons_succ, List.length_cons, List.length_nil, List.map_cons, List.map_nil, List.contains_nil, List.contains_cons, Option.map_some, Option.bind_some, decide_eq_true_eq, decide_eq_false_iff_not, decide_true, decide_false, Bool.not_true, Bool.not_false, Bool.and_true, Bool.true_and, Bool.and_false, Bool.false_and, Bool.or_false, Bool.false_or, Bool.or_true, Bool.true_or, Bool.not_eq_true', Bool.not_eq_false', Bool.false_eq_true, Bool.true_eq_false, reduceCtorEq, true_implies, false_implies, forall_const, not_true_eq_false, not_false_eq_true, and_true, true_and, and_self, if_true, if_false, ite_true, ite_false, eq_self]
    refine FW_inv (fun i δ => ∃ (cs : List (Int × Int)) (seed : Int) (x5 x6 x7 x8 : Option (Nat × D)), δ = [some (0, .scr ns), some (0, .int lim), x2, some (1, .lst (cs.map cD)), some (0, .int seed), x5, x6, x7, x8] ∧ cs.length ≤ i ∧ 0 ≤ seed ∧ seed ≤ 10 ^ 810 ∧ ∀ c ∈ cs, 0 ≤ c.2 ∧ c.2 ≤ 10 ^ 810) (k := 0) ⟨[], 11, _, _, _, _, rfl, by simp, by omega, by decide +kernel, by simp⟩ ?_ ?_
    · rintro i d δ hd ⟨cs, seed, x5, x6, x7, x8, rfl, hc, s0, s1, hcs⟩
      rw [Nat.zero_add] at *
      obtain ⟨hi, _⟩ := List.getElem?_eq_some_iff.mp hd
      rw [List.length_map] at hi
      rw [List.getElem?_map] at hd
      cases q : js[i]? with
      | none => rw [q] at hd; cases hd
      | some z =>
        rw [q] at hd
        cases hd
        refine ⟨_, rfl, ?_⟩
        walk_at "st"
        walk_at "st"
        refine ⟨by decide +kernel, ?_⟩
        generalize (if z < 0 then -z else z) = size0
        walk_at "st"
        refine ⟨l0, ?_⟩
        have a0 := Int.emod_nonneg size0 (show lim ≠ 0 by omega)
        have a1 := Int.emod_lt_of_pos size0 l0
        generalize size0 % lim = size at a0 a1
        have k810 : (2 : Int) * 10 ^ 800 + 1 ≤ 10 ^ 810 := by decide +kernel
        walk_at "st"
        refine ⟨sm_mul (sm_100 (by decide) (by decide)) (sm_810 a0 (by omega)), ?_⟩
        have b0 : 0 ≤ (if z < 0 then (1 : Int) else 0) ∧ (if z < 0 then (1 : Int) else 0) ≤ 1 := by split <;> omega
        generalize (if z < 0 then (1 : Int) else 0) = sg at b0 ⊢
        walk_at "st"
        refine mix_spec (sm_810 s0 s1) (sm_100 (by omega) (by omega)) (sm_100 (by omega) (by simp only [List.length_map]; omega)) fun r r0 r1 => ?_
        walk_at "ev"
        walk_at "st"
        refine ⟨fun hgr => ?_, fun hgr => ?_⟩
        · walk_at "st"
          rw [if_pos (by rw [List.length_map]; omega)]
          dsimp only
          refine ⟨cs ++ [(1, size)], r, _, _, _, _, by rw [List.map_append]; rfl, by rw [List.length_append]; simp; omega, r0, Int.le_trans (Int.le_of_lt r1) (by decide +kernel), ?_⟩
          intro c hc'
          rcases List.mem_append.mp hc' with h | h
          · exact hcs c h
          · cases List.mem_singleton.mp h
            exact ⟨a0, by dsimp only; omega⟩
        · walk_at "st"
          rw [if_pos (by rw [List.length_map]; omega)]
          dsimp only
          refine ⟨cs ++ [(0, 2 * size + sg)], r, _, _, _, _, by rw [List.map_append]; rfl, by rw [List.length_append]; simp; omega, r0, Int.le_trans (Int.le_of_lt r1) (by decide +kernel), ?_⟩
          intro c hc'
          rcases List.mem_append.mp hc' with h | h
          · exact hcs c h
          · cases List.mem_singleton.mp h
            exact ⟨by dsimp only; omega, by dsimp only; omega⟩
    · rintro δ ⟨cs, seed, x5, x6, x7, x8, rfl, hc, r⟩
      refine ⟨cs, seed, x5, x6, x7, x8, rfl, ?_, r⟩
      rw [List.length_map] at hc
      omega
  rintro δ1 ⟨cs, seed, x5, x6, x7, x8, rfl, hc, s0, s1, hcs⟩
  walk_at "st"
  exact k ⟨cs, 0, 0, 0, 0, seed⟩ ⟨hcs, hc, by dsimp only; omega, by dsimp only; omega, by dsimp only; omega, (by show (0 : Int) ≤ 10 ^ 810; decide +kernel), by dsimp only; omega, by dsimp only; omega, by dsimp only; omega, s0, s1⟩
end
end LK

set_option Elab.async false
set_option linter.all false
set_option maxRecDepth 10000
set_option exponentiation.threshold 40000
namespace LK
open PySem L2 DL Comb
section
variable {Q G : D → List D → Prop} {E : Str → List Str → List D → List D → Prop}
theorem isi_tt {ds : List D} : isiD (.tup ds) (.ty "tuple") = some (.bl true) := by
  show (kitB "tuple" "tuple").map D.bl = _
  rw [show kitB "tuple" "tuple" = some true by decide +kernel]; rfl
theorem isi_ii {i : Int} : isiD (.int i) (.ty "int") = some (.bl true) := by
  show (kitB "int" "int").map D.bl = _
  rw [show kitB "int" "int" = some true by decide +kernel]; rfl
theorem isi_ib {i : Int} : isiD (.int i) (.ty "bool") = some (.bl false) := by
  show (kitB "int" "bool").map D.bl = _
  rw [show kitB "int" "bool" = some false by decide +kernel]; rfl
theorem isint_ok {i : Int} (k : Q (.bl true) []) : MW (m_law_is_int [.int i]) Q G E := by
  refine MW_run (t := t_law_is_int) ?_
  delta t_law_is_int
  (refine LZ_in ?_; simp only [isi_ii, isi_ib, RW_ok, RW_exc, RW_stuck, RW_C, RW_var, RW_bin, RW_un, RW_vB, RW_T, RW_bAnd, RW_bOr, RW_bNot, RW_eAnd, RW_eOr, RW_eNot, RW_eIf, RW_aNil, RW_aCons, RW_gFz, RW_gDis, RW_eCall, RW_gCall, RW_fn1, RW_fn2, RW_fnL, dr_fz, dr_sl, frz_fz, frz_sl, frzs_nil, frzs_cons, RW_add, RW_sub, RW_lt, RW_le, RW_gt, RW_ge, RW_neg, RW_mul, RW_div, RW_mod, RW_pow, RW_eq0, RW_eq1, eqD_ii, eqD_ss, eqD_bb, Int.cast_ofNat_Int, RW_in, RW_is, RW_ix, getD_lst, getD_tup, atI_0, atI_1, atI_2, atI_3, atI_4, atI_5, RW_eFn, RW_gFn, RW_call, FW_nx, FW_nil, FW_break, FW_cont, FW_seq, FW_if, FW_expr, FW_ret, FW_retG, FW_retN, FW_put, FW_asg, FW_asgG, FW_asgT, FW_par, FW_sub, FW_store, FW_aug, FW_raise, FW_try, keepP, RW_rng1, RW_rng2, rng1_int, RW_seq, startD_eq, startA, setT_nm, setT_tp, setN_nil, setN_cons, bindA, argD, pairsA, putM, ndup, mutsD, mutIdx, intD, absD, lenD, tupD, max2D, min2D, szl, items_lst, items_tup, RW_comp, RW_yes, wipeD, RW_addL, RW_addT, RW_addS, RW_iadd, RW_gCat, RW_gRep, RW_gRev, RW_zip, RW_enum, stF, RW_oN, RW_oS, RW_sl, RW_mut, RW_mutF, isOwn, lm_app, ixN_l0, ixN_l1, ixN_l2, ixN_l3, ixN_l4, ixN_l5, List.reverse_cons, List.reverse_nil, List.getElem?_nil, Nat.reduceAdd, Nat.reduceLeDiff, Nat.reduceLT, Int.reduceLT, Int.reduceLE, Int.reduceAdd, Int.reduceSub, Int.reduceMul, Int.reduceNeg, Int.reduceEq, Int.reduceToNat, Nat.reduceEqDiff, List.replicate_succ, List.replicate_zero, List.cons_append, List.nil_append, List.getElem?_cons_zero, List.getElem?_cons_succ, List.set_cons_zero, List.set_cons_succ, List.length_cons, List.length_nil, List.map_cons, List.map_nil, List.contains_nil, List.contains_cons, Option.map_some, Option.bind_some, decide_eq_true_eq, decide_eq_false_iff_not, decide_true, decide_false, Bool.not_true, Bool.not_false, Bool.and_true, Bool.true_and, Bool.and_false, Bool.false_and, Bool.or_false, Bool.false_or, Bool.or_true, Bool.true_or, Bool.not_eq_true', Bool.not_eq_false', Bool.false_eq_true, Bool.true_eq_false, reduceCtorEq, true_implies, false_implies, forall_const, not_true_eq_false, not_false_eq_true, and_true, true_and, and_self, if_true, if_false, ite_true, ite_false, eq_self])
  exact k
theorem p10 : ∀ i : Fin 31, (10 : Int) ^ i.val ≤ 10 ^ 30 := by decide +kernel
theorem number_spec {s : Sto} {n dg : Int} (I : Inv n s) (hn : n ≤ 900000) (d0 : 1 ≤ dg) (d1 : dg ≤ 30) (k : ∀ r s', Inv (n + 4) s' → 0 ≤ r → r ≤ 10 ^ 30 → Q (.int r) [stD s']) : MW (m_law_number [stD s, .int dg]) Q G E := by
  refine MW_run (t := t_law_number) ?_
  delta t_law_number
  walk_at "st"
  refine take_spec I (by omega) (by omega) (by omega) fun kind s1 I1 a0 a1 => ?_
  walk_at "ev"
  walk_at "st"
  refine ⟨fun h => ?_, fun h => ?_⟩
  · walk_at "st"
    exact k _ _ (I1.mono (by omega)) a0 (by omega)
  walk_at "st"
  walk_at "st"
  generalize hm : (if (2 : Int) < dg then (2 : Int) else dg) = mn
  have hmn : 1 ≤ mn ∧ mn ≤ 2 := by split at hm <;> omega
  refine take_spec I1 (by omega) (by omega) (by omega) fun c s2 I2 b0 b1 => ?_
  walk_at "ev"
  refine LZ_cut (J := fun δ => ∃ cnt, δ = [some (1, stD s2), some (0, .int dg), some (0, .int kind), some (0, .int cnt), none, none] ∧ 1 ≤ cnt ∧ cnt ≤ 30) ?_ ?_
  · walk_at "st"
    refine ⟨fun h => ?_, fun h => ?_⟩
    · walk_at "st"; exact ⟨_, rfl, d0, d1⟩
    · walk_at "st"; exact ⟨_, rfl, by omega, by omega⟩
  rintro δ1 ⟨cnt, rfl, c0, c1⟩
  refine LZ_cut (J := fun δ => ∃ cnt s3, δ = [some (1, stD s3), some (0, .int dg), some (0, .int kind), some (0, .int cnt), none, none] ∧ 1 ≤ cnt ∧ cnt ≤ 30 ∧ Inv (n + 3) s3) ?_ ?_
  · walk_at "st"
    refine ⟨fun h => ?_, fun h => ?_⟩
    · walk_at "st"
      refine take_spec I2 (by omega) (by omega) (by omega) fun c s3 I3 e0 e1 => ?_
      walk_at "ev"
      exact ⟨_, _, rfl, by omega, by omega, I3.mono (by omega)⟩
    · walk_at "st"; exact ⟨_, _, rfl, by omega, by omega, I2.mono (by omega)⟩
  rintro δ1 ⟨cnt, s3, rfl, c0, c1, I3⟩
  walk_at "st"
  refine LZ_cut (J := fun δ => ∃ top x5, δ = [some (1, stD s3), some (0, .int dg), some (0, .int kind), some (0, .int cnt), some (0, .int top), x5] ∧ 1 ≤ top ∧ top ≤ 10 ^ 30) ?_ ?_
  · refine LZ_in ?_
    rw [FW_for]
    walk_at "ev"
    rw [if_pos (by unfold smallI; rw [Bool.and_eq_true]; exact ⟨decide_eq_true (by omega), decide_eq_true (by omega)⟩)]
    dsimp only
    refine FW_inv (fun i δ => ∃ top x5, δ = [some (1, stD s3), some (0, .int dg), some (0, .int kind), some (0, .int cnt), some (0, .int top), x5] ∧ 1 ≤ top ∧ top ≤ (10 : Int) ^ i) (k := 0) ⟨1, _, rfl, by omega, by decide⟩ ?_ ?_
    · rintro i d δ hd ⟨top, x5, rfl, t0, t1⟩
      rw [Nat.zero_add] at *
      obtain ⟨rfl, hi⟩ := rangeD_at hd
      refine ⟨_, rfl, ?_⟩
      have hp : (10 : Int) ^ i ≤ 10 ^ 30 := p10 ⟨i, by omega⟩
      have hs : (10 : Int) ^ (i + 1) = (10 : Int) ^ i * 10 := Int.pow_succ _ _
      rw [hs]
      generalize (10 : Int) ^ i = W at t1 hp ⊢
      walk_at "st"
      exact ⟨sm_mul (sm_100 (by omega) (by omega)) (sm_100 (by decide) (by decide)), _, _, rfl, by omega, by omega⟩
    · rintro δ ⟨top, x5, rfl, t0, t1⟩
      rw [rangeD_len, Nat.zero_add] at t1
      have hp : (10 : Int) ^ (cnt - 0).toNat ≤ 10 ^ 30 := p10 ⟨(cnt - 0).toNat, by omega⟩
      exact ⟨_, _, rfl, t0, by omega⟩
  rintro δ1 ⟨top, x5, rfl, t0, t1⟩
  walk_at "st"
  refine ⟨fun h => ?_, fun h => ?_⟩
  · walk_at "st"
    exact k _ _ (I3.mono (by omega)) (by omega) (by omega)
  walk_at "st"
  walk_at "st"
  refine ⟨fun h => ?_, fun h => ?_⟩
  · walk_at "st"
    exact ⟨divOk_lit (by decide +kernel), k _ _ (I3.mono (by omega)) (by omega) (by omega)⟩
  walk_at "st"
  walk_at "st"
  refine take_spec I3 (by omega) (by omega) (by omega) fun c s3 I3 e0 e1 => ?_
  walk_at "ev"
  exact k _ _ (I3.mono (by omega)) e0 (by omega)
/-! sizes for products -/
def bg (x : Int) : Prop := x.natAbs < 2 ^ 30000
theorem bg_bits {x : Int} (h : bg x) : Builtin.Int.intBits x ≤ 30000 := by
  unfold Builtin.Int.intBits
  split
  · omega
  · rename_i hx
    have hne : x.natAbs ≠ 0 := by
      intro z
      apply hx
      rw [Int.natAbs_eq_zero.mp z] <;> rfl
    have := (Nat.log2_lt hne).mpr h
    omega
theorem bg_mul {i j : Int} (h1 : bg i) (h2 : bg j) : mulOk i j = true := by
  have a := bg_bits h1
  have b := bg_bits h2
  unfold mulOk
  exact decide_eq_true (by omega)
theorem bg_sm {x : Int} (h : sm x) : bg x := Nat.lt_trans h (Nat.pow_lt_pow_right (by decide) (by decide))
theorem bg_nat {n : Nat} (h : n ≤ 2 ^ 20000) : bg (n : Int) := by
  unfold bg
  rw [Int.natAbs_natCast]
  exact Nat.lt_of_le_of_lt h (Nat.pow_lt_pow_right (by decide) (by decide))
theorem chs_bg {n k : Nat} (h : n ≤ 1000) : chs n k ≤ 2 ^ 1000 := Nat.le_trans (chs_le n k) (Nat.pow_le_pow_right (by decide) h)
theorem fct_bg {n : Nat} (h : n ≤ 1000) : fct n ≤ 2 ^ 10000 := by
  have a := fct_le n 1000 h
  have b : 1000 ^ n ≤ 1000 ^ 1000 := Nat.pow_le_pow_right (by decide) h
  have c : 1000 ^ 1000 ≤ 1024 ^ 1000 := Nat.pow_le_pow_left (by decide) 1000
  have d : 1024 ^ 1000 = 2 ^ 10000 := by rw [show 1024 = 2 ^ 10 from rfl, ← Nat.pow_mul]
  omega
theorem ways_ok0 {n : Nat} {k : Int} (hn : n ≤ 1000) (q : Q (.int (wI n k)) []) : MW (m_ways [.int (n : Int), .int k]) Q G E := by
  refine MW_run (t := t_ways) ?_
  delta t_ways
  walk_at "st"
  refine ⟨fun h => by omega, fun _ => ?_⟩
  walk_at "st"
  walk_at "st"
  refine ⟨fun h => by omega, fun _ => ?_⟩
  walk_at "st"
  walk_at "st"
  refine ⟨fun h => ?_, fun h => ⟨fun h2 => ?_, fun h2 => ?_⟩⟩
  · walk_at "st"
    unfold wI at q
    rw [if_pos h] at q
    exact q
  · walk_at "st"
    unfold wI at q
    rw [if_neg h, chs_gt (by omega)] at q
    exact q
  walk_at "st"
  walk_at "st"
  obtain ⟨j, rfl⟩ := Int.eq_ofNat_of_zero_le (show 0 ≤ k by omega)
  have hj : j ≤ n := by omega
  unfold wI at q
  rw [if_neg h, Int.toNat_natCast] at q
  generalize hm : (if (n : Int) - (j : Int) < (j : Int) then (n : Int) - (j : Int) else (j : Int)) = mn
  have hmn : 0 ≤ mn ∧ mn ≤ 1000 := by split at hm <;> omega
  have hc : chs n mn.toNat = chs n j := by
    split at hm
    · subst hm
      rw [show ((n : Int) - (j : Int)).toNat = n - j by omega]
      exact chs_sym hj
    · subst hm
      rw [Int.toNat_natCast]
  have hle : mn.toNat ≤ n := by split at hm <;> omega
  refine LZ_cut (J := fun δ => ∃ x3, δ = [some (0, .int (n : Int)), some (0, .int (j : Int)), some (0, .int ((chs n mn.toNat : Nat) : Int)), x3]) ?_ ?_
  · refine LZ_in ?_
    rw [FW_for]
    simp only [hm, RW_ok, RW_exc, RW_stuck, RW_C, RW_var, RW_bin, RW_un, RW_vB, RW_T, RW_bAnd, RW_bOr, RW_bNot, RW_eAnd, RW_eOr, RW_eNot, RW_eIf, RW_aNil, RW_aCons, RW_gFz, RW_gDis, RW_eCall, RW_gCall, RW_fn1, RW_fn2, RW_fnL, dr_fz, dr_sl, frz_fz, frz_sl, frzs_nil, frzs_cons, RW_add, RW_sub, RW_lt, RW_le, RW_gt, RW_ge, RW_neg, RW_mul, RW_div, RW_mod, RW_pow, RW_eq0, RW_eq1, eqD_ii, eqD_ss, eqD_bb, Int.cast_ofNat_Int, RW_in, RW_is, RW_ix, getD_lst, getD_tup, atI_0, atI_1, atI_2, atI_3, atI_4, atI_5, RW_eFn, RW_gFn, RW_call, FW_nx, FW_nil, FW_break, FW_cont, FW_seq, FW_if, FW_expr, FW_ret, FW_retG, FW_retN, FW_put, FW_asg, FW_asgG, FW_asgT, FW_par, FW_sub, FW_store, FW_aug, FW_raise, FW_try, keepP, RW_rng1, RW_rng2, rng1_int, RW_seq, startD_eq, startA, setT_nm, setT_tp, setN_nil, setN_cons, bindA, argD, pairsA, putM, ndup, mutsD, mutIdx, intD, absD, lenD, tupD, max2D, min2D, szl, items_lst, items_tup, RW_comp, RW_yes, wipeD, RW_addL, RW_addT, RW_addS, RW_iadd, RW_gCat, RW_gRep, RW_gRev, RW_zip, RW_enum, stF, RW_oN, RW_oS, RW_sl, RW_mut, RW_mutF, isOwn, lm_app, ixN_l0, ixN_l1, ixN_l2, ixN_l3, ixN_l4, ixN_l5, List.reverse_cons, List.reverse_nil, List.getElem?_nil, Nat.reduceAdd, Nat.reduceLeDiff, Nat.reduceLT, Int.reduceLT, Int.reduceLE, Int.reduceAdd, Int.reduceSub, Int.reduceMul, Int.reduceNeg, Int.reduceEq, Int.reduceToNat, Nat.reduceEqDiff, List.replicate_succ, List.replicate_zero, List.cons_append, List.nil_append, List.getElem?_cons_zero, List.getElem?_cons_succ, List.set_cons_zero, List.set_cons_succ, List.length_cons, List.length_nil, List.map_cons, List.map_nil, List.contains_nil, List.contains_cons, Option.map_some, Option.bind_some, decide_eq_true_eq, decide_eq_false_iff_not, decide_true, decide_false, Bool.not_true, Bool.not_false, Bool.and_true, Bool.true_and, Bool.and_false, Bool.false_and, Bool.or_false, Bool.false_or, Bool.or_true, Bool.true_or, Bool.not_eq_true', Bool.not_eq_false', Bool.false_eq_true, Bool.true_eq_false, reduceCtorEq, true_implies, false_implies, forall_const, not_true_eq_false, not_false_eq_true, and_true, true_and, and_self, if_true, if_false, ite_true, ite_false, eq_self]
    rw [if_pos (by unfold smallI; rw [Bool.and_eq_true]; exact ⟨decide_eq_true (by omega), decide_eq_true (by omega)⟩)]
    dsimp only
    refine FW_inv (fun i δ => ∃ x3, δ = [some (0, .int (n : Int)), some (0, .int (j : Int)), some (0, .int ((chs n i : Nat) : Int)), x3]) (k := 0) ⟨_, by rw [chs_zero]; rfl⟩ ?_ ?_
    · rintro i d δ hd ⟨x3, rfl⟩
      rw [Nat.zero_add] at *
      obtain ⟨rfl, hi⟩ := rangeD_at hd
      refine ⟨_, rfl, ?_⟩
      have hin : i < n := by omega
      have step := chs_step hin
      walk_at "st"
      refine ⟨bg_mul (bg_nat (Nat.le_trans (chs_bg hn) (Nat.pow_le_pow_right (by decide) (by decide)))) (bg_sm (sm_100 (by omega) (by omega))), sm_div (by omega) (sm_100 (by omega) (by omega)), some (0, .int (0 + (i : Int))), ?_⟩
      have e : ((chs n i : Nat) : Int) * ((n : Int) - (0 + (i : Int))) / (0 + (i : Int) + 1) = ((chs n (i + 1) : Nat) : Int) := by
        have e1 : ((chs n i : Nat) : Int) * ((n : Int) - (0 + (i : Int))) = ((chs n (i + 1) * (i + 1) : Nat) : Int) := by
          rw [← step, show (n : Int) - (0 + (i : Int)) = ((n - i : Nat) : Int) by omega]
          exact (Int.natCast_mul _ _).symm
        rw [e1, show 0 + (i : Int) + 1 = ((i + 1 : Nat) : Int) by omega, ← Int.natCast_ediv, Nat.mul_div_cancel _ (Nat.succ_pos i)]
      rw [e]
    · rintro δ ⟨x3, rfl⟩
      rw [rangeD_len, Nat.zero_add, show (mn - 0).toNat = mn.toNat by omega]
      exact ⟨_, rfl⟩
  rintro δ1 ⟨x3, rfl⟩
  walk_at "st"
  rw [hc]
  exact q
theorem ways_ok {n k : Int} (h0 : 0 ≤ n) (hn : n ≤ 1000) (q : Q (.int (wI n.toNat k)) []) : MW (m_ways [.int n, .int k]) Q G E := by
  obtain ⟨m, rfl⟩ := Int.eq_ofNat_of_zero_le h0
  exact ways_ok0 (by omega) q
theorem k1020 : 2 ^ 10000 ≤ 2 ^ 20000 := Nat.pow_le_pow_right (by decide) (by decide)
theorem fct_bgn {n : Nat} (h : n ≤ 1000) : bg ((fct n : Nat) : Int) := bg_nat (Nat.le_trans (fct_bg h) k1020)
theorem fct_succ (n : Nat) : fct (n + 1) = (n + 1) * fct n := rfl
theorem fct_0 : ((fct 0 : Nat) : Int) = 1 := rfl
theorem fact_ok {n : Int} (h0 : 0 ≤ n) (hn : n ≤ 1000) (q : Q (.int ((fct n.toNat : Nat) : Int)) []) : MW (m_law_factorial [.int n]) Q G E := by
  refine MW_run (t := t_law_factorial) ?_
  delta t_law_factorial
  walk_at "st"
  refine LZ_cut (J := fun δ => ∃ x2, δ = [some (0, .int n), some (0, .int ((fct n.toNat : Nat) : Int)), x2]) ?_ ?_
  · refine LZ_in ?_
    rw [FW_for]
    walk_at "ev"
    rw [if_pos (by unfold smallI; rw [Bool.and_eq_true]; exact ⟨decide_eq_true (by omega), decide_eq_true (by omega)⟩)]
    dsimp only
    refine FW_inv (fun i δ => ∃ x2, δ = [some (0, .int n), some (0, .int ((fct i : Nat) : Int)), x2]) (k := 0) ⟨none, by rw [fct_0]⟩ ?_ ?_
    · rintro i d δ hd ⟨x3, rfl⟩
      rw [Nat.zero_add] at *
      obtain ⟨rfl, hi⟩ := rangeD_at hd
      refine ⟨_, rfl, ?_⟩
      walk_at "st"
      refine ⟨bg_mul (fct_bgn (by omega)) (bg_sm (sm_100 (by omega) (by omega))), some (0, .int (0 + (i : Int))), ?_⟩
      have e : ((fct i : Nat) : Int) * (0 + (i : Int) + 1) = ((fct (i + 1) : Nat) : Int) := by
        rw [show 0 + (i : Int) + 1 = ((i + 1 : Nat) : Int) by omega, ← Int.natCast_mul, fct_succ, Nat.mul_comm]
      rw [e]
    · rintro δ ⟨x3, rfl⟩
      rw [rangeD_len, Nat.zero_add, show (n - 0).toNat = n.toNat by omega]
      exact ⟨_, rfl⟩
  rintro δ1 ⟨x2, rfl⟩
  walk_at "st"
  exact q
theorem isways_ok {n k : Int} (h0 : 0 ≤ n) (hn : n ≤ 1000) (q : Q (.bl true) []) : MW (m_law_is_ways [.int (wI n.toNat k), .int n, .int k]) Q G E := by
  refine MW_run (t := t_law_is_ways) ?_
  delta t_law_is_ways
  walk_at "st"
  refine isint_ok ?_
  walk_at "ev"
  walk_at "st"
  walk_at "st"
  refine ⟨fun h => ?_, fun h => ⟨fun h2 => ?_, fun h2 => ?_⟩⟩
  · walk_at "st"
    rw [show wI n.toNat k = 0 by unfold wI; rw [if_pos h]]
    exact q
  · walk_at "st"
    rw [show wI n.toNat k = 0 by unfold wI; rw [if_neg h, chs_gt (by omega)]; rfl]
    exact q
  walk_at "st"
  have hk : k.toNat ≤ n.toNat := by omega
  have e := chs_f hk
  have ew : wI n.toNat k = ((chs n.toNat k.toNat : Nat) : Int) := by unfold wI; rw [if_neg h]
  have ed : (n - k).toNat = n.toNat - k.toNat := by omega
  have big : fct n.toNat ≤ 2 ^ 20000 := Nat.le_trans (fct_bg (by omega)) k1020
  rw [ew]
  walk_at "st"
  refine fact_ok (by omega) (by omega) ?_
  walk_at "ev"
  have m1 : chs n.toNat k.toNat * fct k.toNat ≤ 2 ^ 20000 := by
    refine Nat.le_trans ?_ big
    rw [← e]
    exact Nat.le_mul_of_pos_right _ (fct_pos _)
  refine ⟨bg_mul (bg_nat (Nat.le_trans (Nat.le_mul_of_pos_right _ (fct_pos k.toNat)) m1)) (fct_bgn (by omega)), ?_⟩
  refine fact_ok (by omega) (by omega) ?_
  walk_at "ev"
  rw [← Int.natCast_mul]
  refine ⟨bg_mul (bg_nat m1) (fct_bgn (by omega)), ?_⟩
  refine fact_ok h0 hn ?_
  walk_at "ev"
  rw [← Int.natCast_mul, ed, e]
  rw [decide_eq_true rfl]
  exact q
end
end LK

set_option Elab.async false
set_option linter.all false
set_option maxRecDepth 10000
set_option exponentiation.threshold 40000
namespace LK
open PySem L2 DL Comb
section
variable {Q G : D → List D → Prop} {E : Str → List Str → List D → List D → Prop}
theorem pick_spec {s : Sto} {n : Int} {ds : List D} (I : Inv n s) (hn : n ≤ 900000) (h0 : 1 ≤ ds.length) (h1 : ds.length ≤ 100000) (k : ∀ (i : Nat) (d : D) (s' : Sto), ds[i]? = some d → Inv (n + 1) s' → Q d [stD s']) : MW (m_law_pick [stD s, .lst ds]) Q G E := by
  refine MW_run (t := t_law_pick) ?_
  delta t_law_pick
  walk_at "st"
  refine take_spec I (by omega) (by omega) (by omega) fun r s1 I1 r0 r1 => ?_
  walk_at "ev"
  rw [atI_ge r0]
  have hlt : r.toNat < ds.length := by omega
  have e : ds[r.toNat]? = some ds[r.toNat] := List.getElem?_eq_getElem hlt
  rw [e]
  dsimp only
  exact k _ _ _ e I1
theorem between_spec {s : Sto} {n lo hi : Int} (I : Inv n s) (hn : n ≤ 900000) (h0 : lo ≤ hi) (h1 : hi - lo ≤ 10 ^ 60) (k : ∀ v s', Inv (n + 1) s' → lo ≤ v → v ≤ hi → Q (.int v) [stD s']) : MW (m_law_between [stD s, .int lo, .int hi]) Q G E := by
  refine MW_run (t := t_law_between) ?_
  delta t_law_between
  walk_at "st"
  refine take_spec I (by omega) (by omega) (by omega) fun r s1 I1 r0 r1 => ?_
  walk_at "ev"
  exact k _ _ I1 (by omega) (by omega)
theorem edge_spec {s : Sto} {n lo hi : Int} (I : Inv n s) (hn : n ≤ 800000) (h0 : lo ≤ hi) (h1 : hi - lo ≤ 10 ^ 60) (k : ∀ v s', Inv (n + 2) s' → lo ≤ v → v ≤ hi → Q (.int v) [stD s']) : MW (m_law_edge [stD s, .int lo, .int hi]) Q G E := by
  refine MW_run (t := t_law_edge) ?_
  delta t_law_edge
  walk_at "st"
  refine take_spec I (by omega) (by omega) (by omega) fun r s1 I1 r0 r1 => ?_
  walk_at "ev"
  walk_at "st"
  refine ⟨fun h => ?_, fun h => ⟨fun h2 => ?_, fun h2 => ?_⟩⟩
  · walk_at "st"
    exact k _ _ (I1.mono (by omega)) (by omega) (by omega)
  · walk_at "st"
    exact k _ _ (I1.mono (by omega)) (by omega) (by omega)
  walk_at "st"
  walk_at "st"
  refine ⟨fun h => ?_, fun h => ?_⟩
  · walk_at "st"
    exact k _ _ (I1.mono (by omega)) (by omega) (by omega)
  walk_at "st"
  walk_at "st"
  refine ⟨fun h => ?_, fun h => ?_⟩
  · walk_at "st"
    refine k _ _ (I1.mono (by omega)) ?_ ?_ <;> split <;> omega
  walk_at "st"
  walk_at "st"
  refine between_spec I1 (by omega) h0 h1 fun v s2 I2 v0 v1 => ?_
  walk_at "ev"
  exact k _ _ (I2.mono (by omega)) v0 v1
theorem signed_spec {s : Sto} {n dg : Int} (I : Inv n s) (hn : n ≤ 800000) (d0 : 1 ≤ dg) (d1 : dg ≤ 30) (k : ∀ v s', Inv (n + 5) s' → Q (.int v) [stD s']) : MW (m_law_signed [stD s, .int dg]) Q G E := by
  refine MW_run (t := t_law_signed) ?_
  delta t_law_signed
  walk_at "st"
  refine number_spec I (by omega) d0 d1 fun v s1 I1 v0 v1 => ?_
  walk_at "ev"
  walk_at "st"
  refine take_spec I1 (by omega) (by omega) (by omega) fun r s2 I2 r0 r1 => ?_
  walk_at "ev"
  refine ⟨fun h => ?_, fun h => ?_⟩
  · walk_at "st"
    exact k _ _ (I2.mono (by omega))
  walk_at "st"
  walk_at "st"
  exact k _ _ (I2.mono (by omega))
theorem index_spec {s : Sto} {n c dg : Int} (I : Inv n s) (hn : n ≤ 800000) (c0 : 0 ≤ c) (c1 : c ≤ 10 ^ 60) (d0 : 1 ≤ dg) (d1 : dg ≤ 30) (k : ∀ v s', Inv (n + 5) s' → Q (.int v) [stD s']) : MW (m_law_index [stD s, .int c, .int dg]) Q G E := by
  refine MW_run (t := t_law_index) ?_
  delta t_law_index
  walk_at "st"
  refine take_spec I (by omega) (by omega) (by omega) fun r s1 I1 r0 r1 => ?_
  walk_at "ev"
  walk_at "st"
  refine ⟨fun h => ?_, fun h => ?_⟩
  · walk_at "st"
    exact k _ _ (I1.mono (by omega))
  walk_at "st"
  walk_at "st"
  refine ⟨fun h => ?_, fun h => ?_⟩
  · walk_at "st"
    exact k _ _ (I1.mono (by omega))
  walk_at "st"
  walk_at "st"
  refine ⟨fun h => ?_, fun h => ?_⟩
  · walk_at "st"
    refine number_spec I1 (by omega) d0 d1 fun v s2 I2 v0 v1 => ?_
    walk_at "ev"
    exact k _ _ (I2.mono (by omega))
  walk_at "st"
  walk_at "st"
  refine ⟨fun h => ?_, fun h => ?_⟩
  · walk_at "st"
    refine number_spec I1 (by omega) d0 d1 fun v s2 I2 v0 v1 => ?_
    walk_at "ev"
    exact k _ _ (I2.mono (by omega))
  walk_at "st"
  walk_at "st"
  refine ⟨fun h => ?_, fun h => ?_⟩
  · walk_at "st"
    exact k _ _ (I1.mono (by omega))
  walk_at "st"
  walk_at "st"
  refine ⟨fun h => ?_, fun h => ?_⟩
  · walk_at "st"
    exact k _ _ (I1.mono (by omega))
  walk_at "st"
  walk_at "st"
  refine take_spec I1 (by omega) c0 (by omega) fun v s2 I2 v0 v1 => ?_
  walk_at "ev"
  exact k _ _ (I2.mono (by omega))
theorem ways_met_spec {s : Sto} {n : Int} (I : Inv n s) (hn : n ≤ 700000) (k : ∀ s', Inv (n + 20) s' → Q (.bl true) [stD s']) : MW (m_law_ways_met [stD s]) Q G E := by
  refine MW_run (t := t_law_ways_met) ?_
  delta t_law_ways_met
  walk_at "st"
  refine take_spec I (by omega) (by omega) (by omega) fun a s1 I1 a0 a1 => ?_
  walk_at "ev"
  refine take_spec I1 (by omega) (by omega) (by omega) fun b s2 I2 b0 b1 => ?_
  walk_at "ev"
  refine edge_spec I2 (by omega) (by omega) (by omega) fun c s3 I3 c0 c1 => ?_
  walk_at "ev"
  refine pick_spec I3 (by omega) (by simp) (by simp) fun i d s4 hd I4 => ?_
  obtain ⟨m, rfl, m0, m1⟩ : ∃ m : Int, d = .int m ∧ 0 ≤ m ∧ m ≤ 1000 := by
    match i, hd with
    | 0, hd => cases hd; exact ⟨_, rfl, by omega, by omega⟩
    | 1, hd => cases hd; exact ⟨_, rfl, by omega, by omega⟩
    | 2, hd => cases hd; exact ⟨_, rfl, by omega, by omega⟩
    | 3, hd => cases hd; exact ⟨_, rfl, by omega, by omega⟩
    | i + 4, hd => cases hd
  walk_at "ev"
  walk_at "st"
  refine index_spec I4 (by omega) (by omega) (by omega) (by omega) (by omega) fun kk s5 I5 => ?_
  walk_at "ev"
  walk_at "st"
  refine ways_ok m0 m1 ?_
  walk_at "ev"
  refine isways_ok m0 m1 ?_
  walk_at "ev"
  walk_at "st"
  walk_at "st"
  refine ⟨fun h => ?_, fun h => ?_⟩
  · walk_at "st"
    exact k _ (I5.mono (by omega))
  walk_at "st"
  walk_at "st"
  refine ways_ok (by omega) (by omega) ?_
  walk_at "ev"
  walk_at "st"
  refine ways_ok (by omega) (by omega) ?_
  walk_at "ev"
  walk_at "st"
  refine isint_ok ?_
  walk_at "ev"
  refine isint_ok ?_
  walk_at "ev"
  walk_at "st"
  walk_at "st"
  refine ⟨fun _ => ⟨fun _ => ?_, fun h => ?_⟩, fun h => ?_⟩
  · refine ways_ok m0 m1 ?_
    walk_at "ev"
    have e := wI_pascal (m - 1).toNat kk
    rw [show (m - 1).toNat + 1 = m.toNat by omega] at e
    rw [decide_eq_true e]
    exact k _ (I5.mono (by omega))
  · exact absurd (wI_nonneg _ _) h
  · exact absurd (wI_nonneg _ _) h
end
end LK

set_option Elab.async false
set_option linter.all false
set_option maxRecDepth 10000
set_option exponentiation.threshold 40000
namespace LK
open PySem L2 DL Comb
section
variable {Q G : D → List D → Prop} {E : Str → List Str → List D → List D → Prop}
def nD (x : Nat) : D := .int (x : Int)
theorem zip_nD : ∀ (a b : List Nat), (zipD (a.map nD) (b.map nD)) = (a.zip b).map fun p => D.tup [nD p.1, nD p.2]
  | [], _ => by simp [zipD]
  | _ :: _, [] => by simp [zipD]
  | x :: a, y :: b => by
    have z := zip_nD a b
    unfold zipD at z ⊢
    simp only [List.map_cons, List.zip_cons_cons]
    rw [z]
theorem rise_le : ∀ r : Fin 41, fct r.val ≤ 10 ^ 50 := by decide +kernel
theorem crow_le {r x : Nat} (hr : r ≤ 40) (h : x ∈ crow r) : x ≤ 10 ^ 50 := by
  have := mem_le_sum h
  rw [crow_sum] at this
  exact Nat.le_trans this (rise_le ⟨r, by omega⟩)
theorem cyc_ok {r : Int} (h0 : 0 ≤ r) (h1 : r ≤ 40) (q : Q (.tup ((crow r.toNat).map nD)) []) : MW (m_cycle_counts [.int r]) Q G E := by
  refine MW_run (t := t_cycle_counts) ?_
  delta t_cycle_counts
  walk_at "st"
  refine ⟨fun h => by omega, fun _ => ?_⟩
  walk_at "st"
  walk_at "st"
  refine ⟨fun h => by omega, fun _ => ?_⟩
  walk_at "st"
  walk_at "st"
  refine LZ_cut (J := fun δ => ∃ x2 x3 x4 x5 x6 x7, δ = [some (0, .int r), some (0, .lst ((crow r.toNat).map nD)), x2, x3, x4, x5, x6, x7]) ?_ ?_
  · refine LZ_in ?_
    rw [FW_for]
    walk_at "ev"
    rw [if_pos (by unfold smallI; rw [Bool.and_eq_true]; exact ⟨decide_eq_true (by omega), decide_eq_true (by omega)⟩)]
    dsimp only
    refine FW_inv (fun i δ => ∃ x2 x3 x4 x5 x6 x7, δ = [some (0, .int r), some (0, .lst ((crow i).map nD)), x2, x3, x4, x5, x6, x7]) (k := 0) ⟨none, none, none, none, none, none, rfl⟩ ?_ ?_
    · rintro i d δ hd ⟨x2, x3, x4, x5, x6, x7, rfl⟩
      rw [Nat.zero_add] at *
      obtain ⟨rfl, hi⟩ := rangeD_at hd
      refine ⟨_, rfl, ?_⟩
      have hl := crow_len i
      have hi40 : i ≤ 40 := by omega
      walk_at "st"
      refine ⟨by rw [List.length_map, hl]; omega, ?_⟩
      refine LZ_in ?_
      rw [FW_seq, FW_asg]
      walk_at "ev"
      refine comp_inv (fun k acc δ => δ = [some (0, .int r), some (0, .lst ((crow i).map nD)), some (0, .int (0 + (i : Int))), some (0, .lst (D.int 0 :: (crow i).map nD)), x4, none, x6, x7] ∧ acc = ((crow i).take k).map fun y => nD (i * y)) (k := 0) ⟨rfl, by simp⟩ ?_ ?_
      · rintro k d acc δ hd ⟨rfl, rfl⟩
        rw [Nat.zero_add] at *
        rw [List.getElem?_map] at hd
        cases qk : (crow i)[k]? with
        | none => rw [qk] at hd; cases hd
        | some y =>
          rw [qk] at hd
          cases hd
          refine ⟨_, rfl, ?_⟩
          have hy := crow_le hi40 (List.mem_of_getElem? qk)
          obtain ⟨hk, _⟩ := List.getElem?_eq_some_iff.mp qk
          unfold nD
          walk_at "ev"
          refine ⟨sm_mul (sm_100 (by omega) (by omega)) (sm_100 (by omega) (by omega)), by rw [List.length_map, List.length_take]; omega, ?_⟩
          rw [List.take_add_one, qk, List.map_append]
          show _ = _ ++ [D.int ((i * y : Nat) : Int)]
          rw [Int.natCast_mul, Int.zero_add]
      · rintro acc δ ⟨rfl, rfl⟩
        have et : (crow i).take (0 + ((crow i).map nD).length) = crow i := List.take_of_length_le (by rw [List.length_map]; omega)
        rw [et]
        refine ⟨by rw [List.length_map]; omega, ?_⟩
        have ej : ((crow i).map fun y => nD (i * y)) ++ [D.int 0] = ((crow i).map (i * ·) ++ [0]).map nD := by
          rw [List.map_append, List.map_map]; rfl
        have ea : D.int 0 :: (crow i).map nD = (0 :: crow i).map nD := rfl
        rw [ej, ea]
        have el : (0 :: crow i).length = ((crow i).map (i * ·) ++ [0]).length := by rw [List.length_cons, List.length_append, List.length_map]; rfl
        have ll : (0 :: crow i).length = i + 2 := by rw [List.length_cons, hl]
        have ez : crow (i + 1) = List.zipWith (· + ·) (0 :: crow i) ((crow i).map (i * ·) ++ [0]) := rfl
        generalize 0 :: crow i = A at el ez ll ⊢
        generalize (crow i).map (i * ·) ++ [0] = B at el ez ⊢
        refine LZ_in ?_
        rw [FW_asg]
        walk_at "ev"
        rw [zip_nD]
        refine comp_inv (fun k acc δ => δ = [some (0, .int r), some (0, .lst ((crow i).map nD)), some (0, .int (0 + (i : Int))), some (0, .lst (A.map nD)), some (0, .lst (B.map nD)), none, none, none] ∧ acc = ((A.zip B).take k).map fun p => nD (p.1 + p.2)) (k := 0) ⟨rfl, by simp⟩ ?_ ?_
        · rintro k d acc δ hd ⟨rfl, rfl⟩
          rw [Nat.zero_add] at *
          rw [List.getElem?_map] at hd
          cases qk : (A.zip B)[k]? with
          | none => rw [qk] at hd; cases hd
          | some p =>
            rw [qk] at hd
            cases hd
            refine ⟨_, rfl, ?_⟩
            obtain ⟨hk, _⟩ := List.getElem?_eq_some_iff.mp qk
            rw [List.length_zip] at hk
            unfold nD
            walk_at "ev"
            refine ⟨by rw [List.length_map, List.length_take, List.length_zip]; omega, ?_⟩
            rw [List.take_add_one, qk, List.map_append]
            show _ = _ ++ [D.int ((p.1 + p.2 : Nat) : Int)]
            rw [Int.natCast_add]
        · rintro acc δ ⟨rfl, rfl⟩
          walk_at "ev"
          have ec : ((A.zip B).take (0 + ((A.zip B).map fun p => D.tup [nD p.1, nD p.2]).length)).map (fun p => nD (p.1 + p.2)) = (crow (i + 1)).map nD := by
            rw [List.take_of_length_le (by rw [List.length_map]; omega), ez, List.zip, List.map_zipWith, List.map_zipWith]
          rw [ec]
          exact ⟨_, _, _, _, _, _, rfl⟩
    · rintro δ ⟨x2, x3, x4, x5, x6, x7, rfl⟩
      rw [rangeD_len, Nat.zero_add, show (r - 0).toNat = r.toNat by omega]
      exact ⟨_, _, _, _, _, _, rfl⟩
  rintro δ1 ⟨x2, x3, x4, x5, x6, x7, rfl⟩
  walk_at "st"
  exact q
end
end LK

set_option Elab.async false
set_option linter.all false
set_option maxRecDepth 10000
set_option exponentiation.threshold 40000
namespace LK
open PySem L2 DL Comb
section
variable {Q G : D → List D → Prop} {E : Str → List Str → List D → List D → Prop}
def xB : Nat := 10 ^ 60
theorem xB_e : ((xB : Nat) : Int) = 10 ^ 60 := by decide +kernel
theorem xp : ∀ i : Fin 42, xB ^ i.val ≤ 2 ^ 20000 := fun i => Nat.le_trans (Nat.pow_le_pow_right (by decide +kernel) (show i.val ≤ 42 by omega)) (by decide +kernel)
theorem rise_b {r : Nat} (h : r ≤ 41) : ∀ i, i ≤ r → rise xB i ≤ (2 * xB) ^ i
  | 0, _ => by show 1 ≤ _; simp
  | i + 1, hi => by
    have z := rise_b h i (by omega)
    show rise xB i * (xB + i) ≤ _
    rw [Nat.pow_succ]
    refine Nat.mul_le_mul z ?_
    have : 41 ≤ xB := by decide +kernel
    omega
theorem rise_p {r : Nat} (h : r ≤ 41) : rise xB r ≤ 2 ^ 20000 := Nat.le_trans (rise_b h r (Nat.le_refl _)) (Nat.le_trans (Nat.pow_le_pow_right (by decide +kernel) h) (by decide +kernel))
theorem iscyc_ok {r : Int} (h0 : 0 ≤ r) (h1 : r ≤ 40) (q : Q (.bl true) []) : MW (m_law_is_cycles [.tup ((crow r.toNat).map nD), .int r]) Q G E := by
  have hl := crow_len r.toNat
  have hmem : ∀ x ∈ crow r.toNat, x ≤ 10 ^ 50 := fun x hx => crow_le (by omega) hx
  have hpol := pol_crow xB r.toNat
  generalize crow r.toNat = row at hl hmem hpol ⊢
  refine MW_run (t := t_law_is_cycles) ?_
  delta t_law_is_cycles
  (refine LZ_in ?_; simp only [isi_tt, RW_ok, RW_exc, RW_stuck, RW_C, RW_var, RW_bin, RW_un, RW_vB, RW_T, RW_bAnd, RW_bOr, RW_bNot, RW_eAnd, RW_eOr, RW_eNot, RW_eIf, RW_aNil, RW_aCons, RW_gFz, RW_gDis, RW_eCall, RW_gCall, RW_fn1, RW_fn2, RW_fnL, dr_fz, dr_sl, frz_fz, frz_sl, frzs_nil, frzs_cons, RW_add, RW_sub, RW_lt, RW_le, RW_gt, RW_ge, RW_neg, RW_mul, RW_div, RW_mod, RW_pow, RW_eq0, RW_eq1, eqD_ii, eqD_ss, eqD_bb, Int.cast_ofNat_Int, RW_in, RW_is, RW_ix, getD_lst, getD_tup, atI_0, atI_1, atI_2, atI_3, atI_4, atI_5, RW_eFn, RW_gFn, RW_call, FW_nx, FW_nil, FW_break, FW_cont, FW_seq, FW_if, FW_expr, FW_ret, FW_retG, FW_retN, FW_put, FW_asg, FW_asgG, FW_asgT, FW_par, FW_sub, FW_store, FW_aug, FW_raise, FW_try, keepP, RW_rng1, RW_rng2, rng1_int, RW_seq, startD_eq, startA, setT_nm, setT_tp, setN_nil, setN_cons, bindA, argD, pairsA, putM, ndup, mutsD, mutIdx, intD, absD, lenD, tupD, max2D, min2D, szl, items_lst, items_tup, RW_comp, RW_yes, wipeD, RW_addL, RW_addT, RW_addS, RW_iadd, RW_gCat, RW_gRep, RW_gRev, RW_zip, RW_enum, stF, RW_oN, RW_oS, RW_sl, RW_mut, RW_mutF, isOwn, lm_app, ixN_l0, ixN_l1, ixN_l2, ixN_l3, ixN_l4, ixN_l5, List.reverse_cons, List.reverse_nil, List.getElem?_nil, Nat.reduceAdd, Nat.reduceLeDiff, Nat.reduceLT, Int.reduceLT, Int.reduceLE, Int.reduceAdd, Int.reduceSub, Int.reduceMul, Int.reduceNeg, Int.reduceEq, Int.reduceToNat, Nat.reduceEqDiff, List.replicate_succ, List.replicate_zero, List.cons_append, List.nil_append, List.getElem?_cons_zero, List.getElem?_cons_succ, List.set_cons_zero, List.set_cons_succ, List.length_cons, List.length_nil, List.map_cons, List.map_nil, List.contains_nil, List.contains_cons, Option.map_some, Option.bind_some, decide_eq_true_eq, decide_eq_false_iff_not, decide_true, decide_false, Bool.not_true, Bool.not_false, Bool.and_true, Bool.true_and, Bool.and_false, Bool.false_and, Bool.or_false, Bool.false_or, Bool.or_true, Bool.true_or, Bool.not_eq_true', Bool.not_eq_false', Bool.false_eq_true, Bool.true_eq_false, reduceCtorEq, true_implies, false_implies, forall_const, not_true_eq_false, not_false_eq_true, and_true, true_and, and_self, if_true, if_false, ite_true, ite_false, eq_self])
  refine ⟨fun h => absurd (show ((row.map nD).length : Int) = r + 1 by rw [List.length_map, hl]; omega) h, fun _ => ?_⟩
  walk_at "st"
  walk_at "st"
  refine ⟨by decide +kernel, ?_⟩
  rw [← xB_e]
  walk_at "st"
  walk_at "st"
  refine LZ_cut (J := fun δ => ∃ x4 x5 x6 x7, δ = [some (0, .tup (row.map nD)), some (0, .int r), some (0, .int ((xB : Nat) : Int)), some (0, .int ((rise xB r.toNat : Nat) : Int)), x4, x5, x6, x7]) ?_ ?_
  · refine LZ_in ?_
    rw [FW_for]
    walk_at "ev"
    refine FW_inv (fun i δ => ∃ (v : Nat) (x5 x6 x7 : Option (Nat × D)), δ = [some (0, .tup (row.map nD)), some (0, .int r), some (0, .int ((xB : Nat) : Int)), some (0, .int ((v : Nat) : Int)), some (0, .int ((xB ^ i : Nat) : Int)), x5, x6, x7] ∧ v + xB ^ i * pol xB (row.drop i) = rise xB r.toNat) (k := 0) ⟨0, none, none, none, rfl, by simp [hpol]⟩ ?_ ?_
    · rintro i d δ hd ⟨v, x5, x6, x7, rfl, hv⟩
      rw [Nat.zero_add] at *
      rw [List.getElem?_map] at hd
      cases qk : row[i]? with
      | none => rw [qk] at hd; cases hd
      | some y =>
        rw [qk] at hd
        cases hd
        refine ⟨_, rfl, ?_⟩
        obtain ⟨hk, hy0⟩ := List.getElem?_eq_some_iff.mp qk
        have hy := hmem y (List.mem_of_getElem? qk)
        have ed : row.drop i = y :: row.drop (i + 1) := by rw [List.drop_eq_getElem_cons hk, hy0]
        rw [ed] at hv
        have hv : v + xB ^ i * (y + xB * pol xB (row.drop (i + 1))) = rise xB r.toNat := hv
        have hxp := xp ⟨i, by omega⟩
        have hx1 := xp ⟨1, by decide⟩
        have hxb : (10 : Int) ^ 50 < ((xB : Nat) : Int) := by rw [xB_e]; decide +kernel
        unfold nD
        walk_at "st"
        refine isint_ok ?_
        walk_at "ev"
        refine ⟨fun h => by omega, fun _ => ⟨fun h => by omega, fun _ => ?_⟩⟩
        walk_at "st"
        walk_at "st"
        refine ⟨bg_mul (bg_sm (sm_100 (by omega) (by omega))) (bg_nat hxp), ?_⟩
        walk_at "st"
        refine ⟨bg_mul (bg_nat hxp) (bg_nat (by simpa using hx1)), v + y * xB ^ i, some (0, .int ((y : Nat) : Int)), x6, x7, ?_, ?_⟩
        · rw [Nat.pow_succ, Int.natCast_add, Int.natCast_mul, Int.natCast_mul]
        · rw [Nat.pow_succ, ← hv]
          grind
    · rintro δ ⟨v, x5, x6, x7, rfl, hv⟩
      have e : row.drop (0 + (row.map nD).length) = [] := List.drop_of_length_le (by rw [List.length_map]; omega)
      rw [e] at hv
      have hv : v + xB ^ (0 + (row.map nD).length) * 0 = rise xB r.toNat := hv
      rw [Nat.mul_zero, Nat.add_zero] at hv
      subst hv
      exact ⟨_, _, _, _, rfl⟩
  rintro δ1 ⟨x4, x5, x6, x7, rfl⟩
  walk_at "st"
  refine LZ_cut (J := fun δ => ∃ x7, δ = [some (0, .tup (row.map nD)), some (0, .int r), some (0, .int ((xB : Nat) : Int)), some (0, .int ((rise xB r.toNat : Nat) : Int)), x4, x5, some (0, .int ((rise xB r.toNat : Nat) : Int)), x7]) ?_ ?_
  · refine LZ_in ?_
    rw [FW_for]
    walk_at "ev"
    rw [if_pos (by unfold smallI; rw [Bool.and_eq_true]; exact ⟨decide_eq_true (by omega), decide_eq_true (by omega)⟩)]
    dsimp only
    refine FW_inv (fun i δ => ∃ x7, δ = [some (0, .tup (row.map nD)), some (0, .int r), some (0, .int ((xB : Nat) : Int)), some (0, .int ((rise xB r.toNat : Nat) : Int)), x4, x5, some (0, .int ((rise xB i : Nat) : Int)), x7]) (k := 0) ⟨x7, rfl⟩ ?_ ?_
    · rintro i d δ hd ⟨x7, rfl⟩
      rw [Nat.zero_add] at *
      obtain ⟨rfl, hi⟩ := rangeD_at hd
      refine ⟨_, rfl, ?_⟩
      have hx1 := xp ⟨1, by decide⟩
      walk_at "st"
      refine ⟨bg_mul (bg_nat (rise_p (by omega))) (bg_sm (sm_100 (by rw [xB_e]; omega) (by rw [xB_e]; omega))), some (0, .int (0 + (i : Int))), ?_⟩
      have e : ((rise xB i : Nat) : Int) * (((xB : Nat) : Int) + (0 + (i : Int))) = ((rise xB (i + 1) : Nat) : Int) := by
        show _ = ((rise xB i * (xB + i) : Nat) : Int)
        rw [Int.natCast_mul, Int.natCast_add, Int.zero_add]
      rw [e]
    · rintro δ ⟨x7, rfl⟩
      rw [rangeD_len, Nat.zero_add, show (r - 0).toNat = r.toNat by omega]
      exact ⟨_, rfl⟩
  rintro δ1 ⟨x7, rfl⟩
  walk_at "st"
  exact q
end
end LK

set_option Elab.async false
set_option linter.all false
set_option maxRecDepth 10000
set_option exponentiation.threshold 40000
namespace LK
open PySem L2 DL Comb
section
variable {Q G : D → List D → Prop} {E : Str → List Str → List D → List D → Prop}
theorem ways_bad1 {n k : Int} (h : n < 0) (q : E "BadNumber" ["what"] [.str "n"] []) : MW (m_ways [.int n, .int k]) Q G E := by
  refine MW_run (t := t_ways) ?_
  delta t_ways
  walk_at "st"
  refine ⟨fun _ => ?_, fun h2 => absurd h h2⟩
  walk_at "st"
  exact q
theorem ways_bad2 {n k : Int} (h : 1000 < n) (q : E "TooMany" ["limit", "what"] [.int 1000, .str "n"] []) : MW (m_ways [.int n, .int k]) Q G E := by
  refine MW_run (t := t_ways) ?_
  delta t_ways
  walk_at "st"
  refine ⟨fun h2 => by omega, fun _ => ?_⟩
  walk_at "st"
  walk_at "st"
  refine ⟨fun _ => ?_, fun h2 => absurd h h2⟩
  walk_at "st"
  exact q
theorem cyc_bad1 {n : Int} (h : n < 0) (q : E "BadNumber" ["what"] [.str "r"] []) : MW (m_cycle_counts [.int n]) Q G E := by
  refine MW_run (t := t_cycle_counts) ?_
  delta t_cycle_counts
  walk_at "st"
  refine ⟨fun _ => ?_, fun h2 => absurd h h2⟩
  walk_at "st"
  exact q
theorem cyc_bad2 {n : Int} (h : 40 < n) (q : E "TooMany" ["limit", "what"] [.int 40, .str "r"] []) : MW (m_cycle_counts [.int n]) Q G E := by
  refine MW_run (t := t_cycle_counts) ?_
  delta t_cycle_counts
  walk_at "st"
  refine ⟨fun h2 => by omega, fun _ => ?_⟩
  walk_at "st"
  walk_at "st"
  refine ⟨fun _ => ?_, fun h2 => absurd h h2⟩
  walk_at "st"
  exact q
/-- what is due -/
def dBad (w : Str) : D := .tup [.str "BadNumber", .tup [.str w]]
def dMany (w : Str) (l : Int) : D := .tup [.str "TooMany", .tup [.str w, .int l]]
theorem ref_bad {w : Str} : mE_law_refusal [.exc "BadNumber" ["what"] [.str w]] = .ok (dBad w) [] := by kernel_rfl
theorem ref_many {w : Str} {l : Int} : mE_law_refusal [.exc "TooMany" ["limit", "what"] [.int l, .str w]] = .ok (dMany w l) [] := by kernel_rfl
theorem far_spec {s : Sto} {n top : Int} (I : Inv n s) (hn : n ≤ 700000) (h0 : 0 ≤ top) (k : ∀ v s', Inv (n + 10) s' → (v < 0 ∨ top < v) → Q (.int v) [stD s']) : MW (m_law_far [stD s, .int top]) Q G E := by
  refine MW_run (t := t_law_far) ?_
  delta t_law_far
  walk_at "st"
  refine number_spec I (by omega) (by omega) (by omega) fun a s1 I1 a0 a1 => ?_
  walk_at "ev"
  refine number_spec I1 (by omega) (by omega) (by omega) fun b s2 I2 b0 b1 => ?_
  walk_at "ev"
  refine pick_spec I2 (by omega) (by simp) (by simp) fun i d s4 hd I4 => ?_
  obtain ⟨m, rfl, hm⟩ : ∃ m : Int, d = .int m ∧ (m < 0 ∨ top < m) := by
    match i, hd with
    | 0, hd => cases hd; exact ⟨_, rfl, by omega⟩
    | 1, hd => cases hd; exact ⟨_, rfl, by omega⟩
    | 2, hd => cases hd; exact ⟨_, rfl, by omega⟩
    | 3, hd => cases hd; exact ⟨_, rfl, by omega⟩
    | i + 4, hd => cases hd
  walk_at "ev"
  exact k _ _ (I4.mono (by omega)) hm
end
end LK

set_option Elab.async false
set_option linter.all false
set_option maxRecDepth 10000
set_option exponentiation.threshold 40000
namespace LK
open PySem L2 DL Comb
section
variable {Q G : D → List D → Prop} {E : Str → List Str → List D → List D → Prop}
theorem ask_far {which top v k : Int} {what : Str} (hw : (which = 0 ∧ top = 1000 ∧ what = "n") ∨ (which = 1 ∧ top = 40 ∧ what = "r")) (hv : v < 0 ∨ top < v) (k1 : v < 0 → Q (.tup [.str "refused", dBad what]) []) (k2 : ¬ v < 0 → Q (.tup [.str "refused", dMany what top]) []) : MW (m_law_ask [.int which, .int v, .int k]) Q G E := by
  refine MW_run (t := t_law_ask) ?_
  delta t_law_ask
  refine LZ_in ?_
  rw [FW_try]
  refine LZ_out ?_
  rcases hw with ⟨rfl, rfl, rfl⟩ | ⟨rfl, rfl, rfl⟩
  · walk_at "st"
    walk_at "st"
    by_cases h : v < 0
    · refine ways_bad1 h ?_
      walk_at "ev"
      refine ⟨by decide, by rfl, ?_⟩
      walk_at "st"
      refine MW_ok ref_bad ?_
      walk_at "ev"
      exact k1 h
    · refine ways_bad2 (by omega) ?_
      walk_at "ev"
      refine ⟨by decide, by rfl, ?_⟩
      walk_at "st"
      refine MW_ok ref_many ?_
      walk_at "ev"
      exact k2 h
  · walk_at "st"
    walk_at "st"
    walk_at "st"
    walk_at "st"
    by_cases h : v < 0
    · refine cyc_bad1 h ?_
      walk_at "ev"
      refine ⟨by decide, by rfl, ?_⟩
      walk_at "st"
      refine MW_ok ref_bad ?_
      walk_at "ev"
      exact k1 h
    · refine cyc_bad2 (by omega) ?_
      walk_at "ev"
      refine ⟨by decide, by rfl, ?_⟩
      walk_at "st"
      refine MW_ok ref_many ?_
      walk_at "ev"
      exact k2 h
theorem same_b1 : m_law_same [dBad "n", dBad "n"] = .ok (.bl true) [] := by kernel_rfl
theorem same_b2 : m_law_same [dBad "r", dBad "r"] = .ok (.bl true) [] := by kernel_rfl
theorem same_m1 : m_law_same [dMany "n" 1000, dMany "n" 1000] = .ok (.bl true) [] := by kernel_rfl
theorem same_m2 : m_law_same [dMany "r" 40, dMany "r" 40] = .ok (.bl true) [] := by kernel_rfl
theorem far_met_spec {s : Sto} {n which top k : Int} {what : Str} (I : Inv n s) (hn : n ≤ 700000) (hw : (which = 0 ∧ top = 1000 ∧ what = "n") ∨ (which = 1 ∧ top = 40 ∧ what = "r")) (q : ∀ s', Inv (n + 10) s' → Q (.bl true) [stD s']) : MW (m_law_far_met [stD s, .int which, .int top, .str what, .int k]) Q G E := by
  refine MW_run (t := t_law_far_met) ?_
  delta t_law_far_met
  walk_at "st"
  refine far_spec I hn (by omega) fun v s1 I1 hv => ?_
  walk_at "ev"
  walk_at "st"
  refine LZ_cut (J := fun δ => δ = [some (1, stD s1), some (0, .int which), some (0, .int top), some (0, .str what), some (0, .int k), some (0, .int v), some (0, if v < 0 then dBad what else dMany what top), none]) ?_ ?_
  · walk_at "st"
    refine ⟨fun h => ?_, fun h => ?_⟩
    · walk_at "st"
      rw [if_pos h]; rfl
    · walk_at "st"
      rw [if_neg h]; rfl
  rintro δ1 rfl
  walk_at "st"
  refine ask_far hw hv (fun h => ?_) (fun h => ?_)
  · walk_at "ev"
    rw [if_pos h]
    walk_at "st"
    rcases hw with ⟨rfl, rfl, rfl⟩ | ⟨rfl, rfl, rfl⟩
    · refine MW_ok same_b1 ?_
      walk_at "ev"
      exact q _ I1
    · refine MW_ok same_b2 ?_
      walk_at "ev"
      exact q _ I1
  · walk_at "ev"
    rw [if_neg h]
    walk_at "st"
    rcases hw with ⟨rfl, rfl, rfl⟩ | ⟨rfl, rfl, rfl⟩
    · refine MW_ok same_m1 ?_
      walk_at "ev"
      exact q _ I1
    · refine MW_ok same_m2 ?_
      walk_at "ev"
      exact q _ I1
end
end LK

set_option Elab.async false
set_option linter.all false
set_option maxRecDepth 10000
set_option exponentiation.threshold 40000
namespace LK
open PySem L2 DL Comb
section
variable {Q G : D → List D → Prop} {E : Str → List Str → List D → List D → Prop}
theorem rng2_int {i j : Int} {δ : DSt} : (ints2 δ [.fz (.int i), .fz (.int j)]).bind rngF2 = if smallI i && smallI j then some (rangeD i j) else none := id rfl
theorem ints_nD : ∀ l : List Nat, intsD (l.map nD) = some (l.map fun (x : Nat) => (x : Int))
  | [] => rfl
  | x :: l => by
    have z := ints_nD l
    show intsD (D.int (x : Int) :: l.map nD) = _
    unfold intsD
    rw [z]
    rfl
theorem sum_cast : ∀ l : List Nat, (l.map fun (x : Nat) => (x : Int)).sum = ((l.sum : Nat) : Int)
  | [] => rfl
  | x :: l => by rw [List.map_cons, List.sum_cons, List.sum_cons, sum_cast l, Int.natCast_add]
theorem sum_nD (l : List Nat) : sumD (.tup (l.map nD)) = some (.int ((l.sum : Nat) : Int)) := by
  unfold sumD
  dsimp only
  rw [ints_nD, Option.map_some, sum_cast]
theorem cycles_met_spec {s : Sto} {n : Int} (I : Inv n s) (hn : n ≤ 700000) (k : ∀ s', Inv (n + 10) s' → Q (.bl true) [stD s']) : MW (m_law_cycles_met [stD s]) Q G E := by
  refine MW_run (t := t_law_cycles_met) ?_
  delta t_law_cycles_met
  walk_at "st"
  refine take_spec I (by omega) (by omega) (by omega) fun a s1 I1 a0 a1 => ?_
  walk_at "ev"
  refine edge_spec I1 (by omega) (by omega) (by omega) fun c s3 I3 c0 c1 => ?_
  walk_at "ev"
  refine pick_spec I3 (by omega) (by simp) (by simp) fun i d s4 hd I4 => ?_
  obtain ⟨r, rfl, r0, r1⟩ : ∃ m : Int, d = .int m ∧ 0 ≤ m ∧ m ≤ 40 := by
    match i, hd with
    | 0, hd => cases hd; exact ⟨_, rfl, by omega, by omega⟩
    | 1, hd => cases hd; exact ⟨_, rfl, by omega, by omega⟩
    | 2, hd => cases hd; exact ⟨_, rfl, by omega, by omega⟩
    | i + 3, hd => cases hd
  walk_at "ev"
  walk_at "st"
  refine cyc_ok r0 r1 ?_
  walk_at "ev"
  walk_at "st"
  refine iscyc_ok r0 r1 ?_
  simp only [sum_nD, RW_ok, RW_exc, RW_stuck, RW_C, RW_var, RW_bin, RW_un, RW_vB, RW_T, RW_bAnd, RW_bOr, RW_bNot, RW_eAnd, RW_eOr, RW_eNot, RW_eIf, RW_aNil, RW_aCons, RW_gFz, RW_gDis, RW_eCall, RW_gCall, RW_fn1, RW_fn2, RW_fnL, dr_fz, dr_sl, frz_fz, frz_sl, frzs_nil, frzs_cons, RW_add, RW_sub, RW_lt, RW_le, RW_gt, RW_ge, RW_neg, RW_mul, RW_div, RW_mod, RW_pow, RW_eq0, RW_eq1, eqD_ii, eqD_ss, eqD_bb, Int.cast_ofNat_Int, RW_in, RW_is, RW_ix, getD_lst, getD_tup, atI_0, atI_1, atI_2, atI_3, atI_4, atI_5, RW_eFn, RW_gFn, RW_call, FW_nx, FW_nil, FW_break, FW_cont, FW_seq, FW_if, FW_expr, FW_ret, FW_retG, FW_retN, FW_put, FW_asg, FW_asgG, FW_asgT, FW_par, FW_sub, FW_store, FW_aug, FW_raise, FW_try, keepP, RW_rng1, RW_rng2, rng1_int, RW_seq, startD_eq, startA, setT_nm, setT_tp, setN_nil, setN_cons, bindA, argD, pairsA, putM, ndup, mutsD, mutIdx, intD, absD, lenD, tupD, max2D, min2D, szl, items_lst, items_tup, RW_comp, RW_yes, wipeD, RW_addL, RW_addT, RW_addS, RW_iadd, RW_gCat, RW_gRep, RW_gRev, RW_zip, RW_enum, stF, RW_oN, RW_oS, RW_sl, RW_mut, RW_mutF, isOwn, lm_app, ixN_l0, ixN_l1, ixN_l2, ixN_l3, ixN_l4, ixN_l5, List.reverse_cons, List.reverse_nil, List.getElem?_nil, Nat.reduceAdd, Nat.reduceLeDiff, Nat.reduceLT, Int.reduceLT, Int.reduceLE, Int.reduceAdd, Int.reduceSub, Int.reduceMul, Int.reduceNeg, Int.reduceEq, Int.reduceToNat, Nat.reduceEqDiff, List.replicate_succ, List.replicate_zero, List.cons_append, List.nil_append, List.getElem?_cons_zero, List.getElem?_cons_succ, List.set_cons_zero, List.set_cons_succ, List.length_cons, List.length_nil, List.map_cons, List.map_nil, List.contains_nil, List.contains_cons, Option.map_some, Option.bind_some, decide_eq_true_eq, decide_eq_false_iff_not, decide_true, decide_false, Bool.not_true, Bool.not_false, Bool.and_true, Bool.true_and, Bool.and_false, Bool.false_and, Bool.or_false, Bool.false_or, Bool.or_true, Bool.true_or, Bool.not_eq_true', Bool.not_eq_false', Bool.false_eq_true, Bool.true_eq_false, reduceCtorEq, true_implies, false_implies, forall_const, not_true_eq_false, not_false_eq_true, and_true, true_and, and_self, if_true, if_false, ite_true, ite_false, eq_self]
  refine fact_ok r0 (by omega) ?_
  simp only [crow_sum, RW_ok, RW_exc, RW_stuck, RW_C, RW_var, RW_bin, RW_un, RW_vB, RW_T, RW_bAnd, RW_bOr, RW_bNot, RW_eAnd, RW_eOr, RW_eNot, RW_eIf, RW_aNil, RW_aCons, RW_gFz, RW_gDis, RW_eCall, RW_gCall, RW_fn1, RW_fn2, RW_fnL, dr_fz, dr_sl, frz_fz, frz_sl, frzs_nil, frzs_cons, RW_add, RW_sub, RW_lt, RW_le, RW_gt, RW_ge, RW_neg, RW_mul, RW_div, RW_mod, RW_pow, RW_eq0, RW_eq1, eqD_ii, eqD_ss, eqD_bb, Int.cast_ofNat_Int, RW_in, RW_is, RW_ix, getD_lst, getD_tup, atI_0, atI_1, atI_2, atI_3, atI_4, atI_5, RW_eFn, RW_gFn, RW_call, FW_nx, FW_nil, FW_break, FW_cont, FW_seq, FW_if, FW_expr, FW_ret, FW_retG, FW_retN, FW_put, FW_asg, FW_asgG, FW_asgT, FW_par, FW_sub, FW_store, FW_aug, FW_raise, FW_try, keepP, RW_rng1, RW_rng2, rng1_int, RW_seq, startD_eq, startA, setT_nm, setT_tp, setN_nil, setN_cons, bindA, argD, pairsA, putM, ndup, mutsD, mutIdx, intD, absD, lenD, tupD, max2D, min2D, szl, items_lst, items_tup, RW_comp, RW_yes, wipeD, RW_addL, RW_addT, RW_addS, RW_iadd, RW_gCat, RW_gRep, RW_gRev, RW_zip, RW_enum, stF, RW_oN, RW_oS, RW_sl, RW_mut, RW_mutF, isOwn, lm_app, ixN_l0, ixN_l1, ixN_l2, ixN_l3, ixN_l4, ixN_l5, List.reverse_cons, List.reverse_nil, List.getElem?_nil, Nat.reduceAdd, Nat.reduceLeDiff, Nat.reduceLT, Int.reduceLT, Int.reduceLE, Int.reduceAdd, Int.reduceSub, Int.reduceMul, Int.reduceNeg, Int.reduceEq, Int.reduceToNat, Nat.reduceEqDiff, List.replicate_succ, List.replicate_zero, List.cons_append, List.nil_append, List.getElem?_cons_zero, List.getElem?_cons_succ, List.set_cons_zero, List.set_cons_succ, List.length_cons, List.length_nil, List.map_cons, List.map_nil, List.contains_nil, List.contains_cons, Option.map_some, Option.bind_some, decide_eq_true_eq, decide_eq_false_iff_not, decide_true, decide_false, Bool.not_true, Bool.not_false, Bool.and_true, Bool.true_and, Bool.and_false, Bool.false_and, Bool.or_false, Bool.false_or, Bool.or_true, Bool.true_or, Bool.not_eq_true', Bool.not_eq_false', Bool.false_eq_true, Bool.true_eq_false, reduceCtorEq, true_implies, false_implies, forall_const, not_true_eq_false, not_false_eq_true, and_true, true_and, and_self, if_true, if_false, ite_true, ite_false, eq_self]
  walk_at "st"
  walk_at "st"
  refine ⟨fun h => ?_, fun h => ?_⟩
  · walk_at "st"
    exact k _ (I4.mono (by omega))
  walk_at "st"
  walk_at "st"
  refine cyc_ok (by omega) (by omega) ?_
  walk_at "ev"
  walk_at "st"
  refine iscyc_ok (by omega) (by omega) ?_
  walk_at "ev"
  walk_at "st"
  refine LZ_cut (J := fun δ => ∃ x4, δ = [some (1, stD s4), some (0, .int r), some (0, .tup ((crow r.toNat).map nD)), some (0, .tup ((crow (r + 1).toNat).map nD)), x4]) ?_ ?_
  · refine LZ_in ?_
    rw [FW_for]
    simp only [rng2_int, RW_ok, RW_exc, RW_stuck, RW_C, RW_var, RW_bin, RW_un, RW_vB, RW_T, RW_bAnd, RW_bOr, RW_bNot, RW_eAnd, RW_eOr, RW_eNot, RW_eIf, RW_aNil, RW_aCons, RW_gFz, RW_gDis, RW_eCall, RW_gCall, RW_fn1, RW_fn2, RW_fnL, dr_fz, dr_sl, frz_fz, frz_sl, frzs_nil, frzs_cons, RW_add, RW_sub, RW_lt, RW_le, RW_gt, RW_ge, RW_neg, RW_mul, RW_div, RW_mod, RW_pow, RW_eq0, RW_eq1, eqD_ii, eqD_ss, eqD_bb, Int.cast_ofNat_Int, RW_in, RW_is, RW_ix, getD_lst, getD_tup, atI_0, atI_1, atI_2, atI_3, atI_4, atI_5, RW_eFn, RW_gFn, RW_call, FW_nx, FW_nil, FW_break, FW_cont, FW_seq, FW_if, FW_expr, FW_ret, FW_retG, FW_retN, FW_put, FW_asg, FW_asgG, FW_asgT, FW_par, FW_sub, FW_store, FW_aug, FW_raise, FW_try, keepP, RW_rng1, RW_rng2, rng1_int, RW_seq, startD_eq, startA, setT_nm, setT_tp, setN_nil, setN_cons, bindA, argD, pairsA, putM, ndup, mutsD, mutIdx, intD, absD, lenD, tupD, max2D, min2D, szl, items_lst, items_tup, RW_comp, RW_yes, wipeD, RW_addL, RW_addT, RW_addS, RW_iadd, RW_gCat, RW_gRep, RW_gRev, RW_zip, RW_enum, stF, RW_oN, RW_oS, RW_sl, RW_mut, RW_mutF, isOwn, lm_app, ixN_l0, ixN_l1, ixN_l2, ixN_l3, ixN_l4, ixN_l5, List.reverse_cons, List.reverse_nil, List.getElem?_nil, Nat.reduceAdd, Nat.reduceLeDiff, Nat.reduceLT, Int.reduceLT, Int.reduceLE, Int.reduceAdd, Int.reduceSub, Int.reduceMul, Int.reduceNeg, Int.reduceEq, Int.reduceToNat, Nat.reduceEqDiff, List.replicate_succ, List.replicate_zero, List.cons_append, List.nil_append, List.getElem?_cons_zero, List.getElem?_cons_succ, List.set_cons_zero, List.set_cons_succ, List.length_cons, List.length_nil, List.map_cons, List.map_nil, List.contains_nil, List.contains_cons, Option.map_some, Option.bind_some, decide_eq_true_eq, decide_eq_false_iff_not, decide_true, decide_false, Bool.not_true, Bool.not_false, Bool.and_true, Bool.true_and, Bool.and_false, Bool.false_and, Bool.or_false, Bool.false_or, Bool.or_true, Bool.true_or, Bool.not_eq_true', Bool.not_eq_false', Bool.false_eq_true, Bool.true_eq_false, reduceCtorEq, true_implies, false_implies, forall_const, not_true_eq_false, not_false_eq_true, and_true, true_and, and_self, if_true, if_false, ite_true, ite_false, eq_self]
    rw [if_pos (by unfold smallI; simp only [Bool.and_eq_true]; exact ⟨⟨decide_eq_true (by omega), decide_eq_true (by omega)⟩, decide_eq_true (by omega), decide_eq_true (by omega)⟩)]
    dsimp only
    refine FW_inv (fun i δ => ∃ x4, δ = [some (1, stD s4), some (0, .int r), some (0, .tup ((crow r.toNat).map nD)), some (0, .tup ((crow (r + 1).toNat).map nD)), x4]) (k := 0) ⟨_, rfl⟩ ?_ ?_
    · rintro i d δ hd ⟨x4, rfl⟩
      obtain ⟨rfl, hi⟩ := rangeD_at hd
      refine ⟨_, rfl, ?_⟩
      obtain ⟨a, b, c, ea, eb, ec, e⟩ := crow_step (r := r.toNat) (j := i + 1) (by omega) (by omega)
      have hc := crow_le (by omega) (List.mem_of_getElem? ec)
      have g1 : atI ((crow (r + 1).toNat).map nD) (1 + (i : Int)) = some (nD a) := by
        rw [atI_ge (by omega), show (1 + (i : Int)).toNat = i + 1 by omega, show (r + 1).toNat = r.toNat + 1 by omega, List.getElem?_map, ea]; rfl
      have g2 : atI ((crow r.toNat).map nD) (1 + (i : Int) - 1) = some (nD b) := by
        rw [atI_ge (by omega), show (1 + (i : Int) - 1).toNat = i + 1 - 1 by omega, List.getElem?_map, eb]; rfl
      have g3 : atI ((crow r.toNat).map nD) (1 + (i : Int)) = some (nD c) := by
        rw [atI_ge (by omega), show (1 + (i : Int)).toNat = i + 1 by omega, List.getElem?_map, ec]; rfl
      (refine LZ_in ?_; simp only [g1, g2, g3, RW_ok, RW_exc, RW_stuck, RW_C, RW_var, RW_bin, RW_un, RW_vB, RW_T, RW_bAnd, RW_bOr, RW_bNot, RW_eAnd, RW_eOr, RW_eNot, RW_eIf, RW_aNil, RW_aCons, RW_gFz, RW_gDis, RW_eCall, RW_gCall, RW_fn1, RW_fn2, RW_fnL, dr_fz, dr_sl, frz_fz, frz_sl, frzs_nil, frzs_cons, RW_add, RW_sub, RW_lt, RW_le, RW_gt, RW_ge, RW_neg, RW_mul, RW_div, RW_mod, RW_pow, RW_eq0, RW_eq1, eqD_ii, eqD_ss, eqD_bb, Int.cast_ofNat_Int, RW_in, RW_is, RW_ix, getD_lst, getD_tup, atI_0, atI_1, atI_2, atI_3, atI_4, atI_5, RW_eFn, RW_gFn, RW_call, FW_nx, FW_nil, FW_break, FW_cont, FW_seq, FW_if, FW_expr, FW_ret, FW_retG, FW_retN, FW_put, FW_asg, FW_asgG, FW_asgT, FW_par, FW_sub, FW_store, FW_aug, FW_raise, FW_try, keepP, RW_rng1, RW_rng2, rng1_int, RW_seq, startD_eq, startA, setT_nm, setT_tp, setN_nil, setN_cons, bindA, argD, pairsA, putM, ndup, mutsD, mutIdx, intD, absD, lenD, tupD, max2D, min2D, szl, items_lst, items_tup, RW_comp, RW_yes, wipeD, RW_addL, RW_addT, RW_addS, RW_iadd, RW_gCat, RW_gRep, RW_gRev, RW_zip, RW_enum, stF, RW_oN, RW_oS, RW_sl, RW_mut, RW_mutF, isOwn, lm_app, ixN_l0, ixN_l1, ixN_l2, ixN_l3, ixN_l4, ixN_l5, List.reverse_cons, List.reverse_nil, List.getElem?_nil, Nat.reduceAdd, Nat.reduceLeDiff, Nat.reduceLT, Int.reduceLT, Int.reduceLE, Int.reduceAdd, Int.reduceSub, Int.reduceMul, Int.reduceNeg, Int.reduceEq, Int.reduceToNat, Nat.reduceEqDiff, List.replicate_succ, List.replicate_zero, List.cons_append, List.nil_append, List.getElem?_cons_zero, List.getElem?_cons_succ, List.set_cons_zero, List.set_cons_succ, List.length_cons, List.length_nil, List.map_cons, List.map_nil, List.contains_nil, List.contains_cons, Option.map_some, Option.bind_some, decide_eq_true_eq, decide_eq_false_iff_not, decide_true, decide_false, Bool.not_true, Bool.not_false, Bool.and_true, Bool.true_and, Bool.and_false, Bool.false_and, Bool.or_false, Bool.false_or, Bool.or_true, Bool.true_or, Bool.not_eq_true', Bool.not_eq_false', Bool.false_eq_true, Bool.true_eq_false, reduceCtorEq, true_implies, false_implies, forall_const, not_true_eq_false, not_false_eq_true, and_true, true_and, and_self, if_true, if_false, ite_true, ite_false, eq_self])
      unfold nD
      walk_at "ev"
      refine ⟨sm_mul (sm_100 (by omega) (by omega)) (sm_100 (by omega) (by omega)), fun h => ?_, fun _ => ?_⟩
      · refine absurd ?_ h
        rw [e, Int.natCast_add, Int.natCast_mul, show ((r.toNat : Nat) : Int) = r by omega]
      · walk_at "st"
        exact ⟨_, rfl⟩
    · rintro δ ⟨x4, rfl⟩
      exact ⟨_, rfl⟩
  rintro δ1 ⟨x4, rfl⟩
  walk_at "st"
  exact k _ (I4.mono (by omega))
end
end LK

set_option Elab.async false
set_option linter.all false
set_option maxRecDepth 10000
set_option exponentiation.threshold 40000
namespace LK
open PySem L2 DL Comb
section
variable {Q G : D → List D → Prop} {E : Str → List Str → List D → List D → Prop}
/-- the factorials of a row, multiplied -/
def pf : List Nat → Nat
  | [] => 1
  | a :: r => fct a * pf r
/-- the ways of a row, one part behind another, t things ahead -/
def arr (t : Nat) : List Nat → Nat
  | [] => 1
  | a :: r => chs (t + a) a * arr (t + a) r
theorem arr_pf : ∀ (l : List Nat) (t : Nat), arr t l * pf l * fct t = fct (t + l.sum)
  | [], t => by
    show 1 * 1 * fct t = fct (t + 0)
    rw [Nat.add_zero]; omega
  | a :: l, t => by
    have z := arr_pf l (t + a)
    have e := chs_fct (a + t) a t rfl
    rw [Nat.add_comm a t] at e
    rw [List.sum_cons, ← Nat.add_assoc, ← z]
    show chs (t + a) a * arr (t + a) l * (fct a * pf l) * fct t = arr (t + a) l * pf l * fct (t + a)
    rw [← e]
    grind
theorem arr_app : ∀ (l : List Nat) (t i : Nat), i ≤ l.length → arr t l = arr t (l.take i) * arr (t + (l.take i).sum) (l.drop i)
  | l, t, 0, _ => by
    rw [List.take_zero, List.drop_zero]
    show arr t l = 1 * arr (t + 0) l
    rw [Nat.add_zero, Nat.one_mul]
  | [], t, i + 1, h => by simp at h
  | a :: l, t, i + 1, h => by
    have z := arr_app l (t + a) i (by simpa using h)
    rw [List.take_succ_cons, List.drop_succ_cons, List.sum_cons]
    show chs (t + a) a * arr (t + a) l = chs (t + a) a * arr (t + a) (l.take i) * arr (t + (a + (l.take i).sum)) (l.drop i)
    rw [z, ← Nat.add_assoc, Nat.mul_assoc]
theorem arr_ok {d : D} {l : List Nat} (hd : items d = some (l.map nD)) (hs : sumD d = some (.int ((l.sum : Nat) : Int))) (h : l.sum ≤ 1000) (q : Q (.int ((arr 0 l : Nat) : Int)) []) : MW (m_arrangements [d]) Q G E := by
  refine MW_run (t := t_arrangements) ?_
  delta t_arrangements
  refine LZ_cut (J := fun δ => ∃ x1, δ = [some (0, d), x1, none, none]) ?_ ?_
  · refine LZ_in ?_
    rw [FW_for]
    simp only [hd, RW_ok, RW_exc, RW_stuck, RW_C, RW_var, RW_bin, RW_un, RW_vB, RW_T, RW_bAnd, RW_bOr, RW_bNot, RW_eAnd, RW_eOr, RW_eNot, RW_eIf, RW_aNil, RW_aCons, RW_gFz, RW_gDis, RW_eCall, RW_gCall, RW_fn1, RW_fn2, RW_fnL, dr_fz, dr_sl, frz_fz, frz_sl, frzs_nil, frzs_cons, RW_add, RW_sub, RW_lt, RW_le, RW_gt, RW_ge, RW_neg, RW_mul, RW_div, RW_mod, RW_pow, RW_eq0, RW_eq1, eqD_ii, eqD_ss, eqD_bb, Int.cast_ofNat_Int, RW_in, RW_is, RW_ix, getD_lst, getD_tup, atI_0, atI_1, atI_2, atI_3, atI_4, atI_5, RW_eFn, RW_gFn, RW_call, FW_nx, FW_nil, FW_break, FW_cont, FW_seq, FW_if, FW_expr, FW_ret, FW_retG, FW_retN, FW_put, FW_asg, FW_asgG, FW_asgT, FW_par, FW_sub, FW_store, FW_aug, FW_raise, FW_try, keepP, RW_rng1, RW_rng2, rng1_int, RW_seq, startD_eq, startA, setT_nm, setT_tp, setN_nil, setN_cons, bindA, argD, pairsA, putM, ndup, mutsD, mutIdx, intD, absD, lenD, tupD, max2D, min2D, szl, items_lst, items_tup, RW_comp, RW_yes, wipeD, RW_addL, RW_addT, RW_addS, RW_iadd, RW_gCat, RW_gRep, RW_gRev, RW_zip, RW_enum, stF, RW_oN, RW_oS, RW_sl, RW_mut, RW_mutF, isOwn, lm_app, ixN_l0, ixN_l1, ixN_l2, ixN_l3, ixN_l4, ixN_l5, List.reverse_cons, List.reverse_nil, List.getElem?_nil, Nat.reduceAdd, Nat.reduceLeDiff, Nat.reduceLT, Int.reduceLT, Int.reduceLE, Int.reduceAdd, Int.reduceSub, Int.reduceMul, Int.reduceNeg, Int.reduceEq, Int.reduceToNat, Nat.reduceEqDiff, List.replicate_succ, List.replicate_zero, List.cons_append, List.nil_append, List.getElem?_cons_zero, List.getElem?_cons_succ, List.set_cons_zero, List.set_cons_succ, List.length_cons, List.length_nil, List.map_cons, List.map_nil, List.contains_nil, List.contains_cons, Option.map_some, Option.bind_some, decide_eq_true_eq, decide_eq_false_iff_not, decide_true, decide_false, Bool.not_true, Bool.not_false, Bool.and_true, Bool.true_and, Bool.and_false, Bool.false_and, Bool.or_false, Bool.false_or, Bool.or_true, Bool.true_or, Bool.not_eq_true', Bool.not_eq_false', Bool.false_eq_true, Bool.true_eq_false, reduceCtorEq, true_implies, false_implies, forall_const, not_true_eq_false, not_false_eq_true, and_true, true_and, and_self, if_true, if_false, ite_true, ite_false, eq_self]
    refine FW_inv (fun i δ => ∃ x1, δ = [some (0, d), x1, none, none]) (k := 0) ⟨_, rfl⟩ ?_ ?_
    · rintro i dd δ hdd ⟨x1, rfl⟩
      rw [List.getElem?_map] at hdd
      cases qk : l[i]? with
      | none => rw [qk] at hdd; cases hdd
      | some y =>
        rw [qk] at hdd
        cases hdd
        refine ⟨_, rfl, ?_⟩
        unfold nD
        walk_at "st"
        refine ⟨fun h2 => by omega, fun _ => ?_⟩
        walk_at "st"
        exact ⟨_, rfl⟩
    · rintro δ ⟨x1, rfl⟩
      exact ⟨_, rfl⟩
  rintro δ1 ⟨x1, rfl⟩
  (refine LZ_in ?_; simp only [hs, RW_ok, RW_exc, RW_stuck, RW_C, RW_var, RW_bin, RW_un, RW_vB, RW_T, RW_bAnd, RW_bOr, RW_bNot, RW_eAnd, RW_eOr, RW_eNot, RW_eIf, RW_aNil, RW_aCons, RW_gFz, RW_gDis, RW_eCall, RW_gCall, RW_fn1, RW_fn2, RW_fnL, dr_fz, dr_sl, frz_fz, frz_sl, frzs_nil, frzs_cons, RW_add, RW_sub, RW_lt, RW_le, RW_gt, RW_ge, RW_neg, RW_mul, RW_div, RW_mod, RW_pow, RW_eq0, RW_eq1, eqD_ii, eqD_ss, eqD_bb, Int.cast_ofNat_Int, RW_in, RW_is, RW_ix, getD_lst, getD_tup, atI_0, atI_1, atI_2, atI_3, atI_4, atI_5, RW_eFn, RW_gFn, RW_call, FW_nx, FW_nil, FW_break, FW_cont, FW_seq, FW_if, FW_expr, FW_ret, FW_retG, FW_retN, FW_put, FW_asg, FW_asgG, FW_asgT, FW_par, FW_sub, FW_store, FW_aug, FW_raise, FW_try, keepP, RW_rng1, RW_rng2, rng1_int, RW_seq, startD_eq, startA, setT_nm, setT_tp, setN_nil, setN_cons, bindA, argD, pairsA, putM, ndup, mutsD, mutIdx, intD, absD, lenD, tupD, max2D, min2D, szl, items_lst, items_tup, RW_comp, RW_yes, wipeD, RW_addL, RW_addT, RW_addS, RW_iadd, RW_gCat, RW_gRep, RW_gRev, RW_zip, RW_enum, stF, RW_oN, RW_oS, RW_sl, RW_mut, RW_mutF, isOwn, lm_app, ixN_l0, ixN_l1, ixN_l2, ixN_l3, ixN_l4, ixN_l5, List.reverse_cons, List.reverse_nil, List.getElem?_nil, Nat.reduceAdd, Nat.reduceLeDiff, Nat.reduceLT, Int.reduceLT, Int.reduceLE, Int.reduceAdd, Int.reduceSub, Int.reduceMul, Int.reduceNeg, Int.reduceEq, Int.reduceToNat, Nat.reduceEqDiff, List.replicate_succ, List.replicate_zero, List.cons_append, List.nil_append, List.getElem?_cons_zero, List.getElem?_cons_succ, List.set_cons_zero, List.set_cons_succ, List.length_cons, List.length_nil, List.map_cons, List.map_nil, List.contains_nil, List.contains_cons, Option.map_some, Option.bind_some, decide_eq_true_eq, decide_eq_false_iff_not, decide_true, decide_false, Bool.not_true, Bool.not_false, Bool.and_true, Bool.true_and, Bool.and_false, Bool.false_and, Bool.or_false, Bool.false_or, Bool.or_true, Bool.true_or, Bool.not_eq_true', Bool.not_eq_false', Bool.false_eq_true, Bool.true_eq_false, reduceCtorEq, true_implies, false_implies, forall_const, not_true_eq_false, not_false_eq_true, and_true, true_and, and_self, if_true, if_false, ite_true, ite_false, eq_self])
  refine ⟨fun h2 => by omega, fun _ => ?_⟩
  walk_at "st"
  walk_at "st"
  walk_at "st"
  have az := arr_pf l 0
  rw [Nat.zero_add] at az
  have az : arr 0 l * pf l * 1 = fct l.sum := az
  have apos : 0 < arr 0 l := by
    rcases Nat.eq_zero_or_pos (arr 0 l) with e | e
    · rw [e, Nat.zero_mul, Nat.zero_mul] at az
      have := fct_pos l.sum
      omega
    · exact e
  have ppos : 0 < pf l := by
    rcases Nat.eq_zero_or_pos (pf l) with e | e
    · rw [e, Nat.mul_zero, Nat.zero_mul] at az
      have := fct_pos l.sum
      omega
    · exact e
  have ale : arr 0 l ≤ 2 ^ 20000 := by
    refine Nat.le_trans ?_ (Nat.le_trans (fct_bg h) k1020)
    rw [← az, Nat.mul_one]
    exact Nat.le_mul_of_pos_right _ ppos
  refine LZ_cut (J := fun δ => ∃ x1 x2, δ = [some (0, d), x1, x2, some (0, .int ((arr 0 l : Nat) : Int))]) ?_ ?_
  · refine LZ_in ?_
    rw [FW_for]
    simp only [hd, RW_ok, RW_exc, RW_stuck, RW_C, RW_var, RW_bin, RW_un, RW_vB, RW_T, RW_bAnd, RW_bOr, RW_bNot, RW_eAnd, RW_eOr, RW_eNot, RW_eIf, RW_aNil, RW_aCons, RW_gFz, RW_gDis, RW_eCall, RW_gCall, RW_fn1, RW_fn2, RW_fnL, dr_fz, dr_sl, frz_fz, frz_sl, frzs_nil, frzs_cons, RW_add, RW_sub, RW_lt, RW_le, RW_gt, RW_ge, RW_neg, RW_mul, RW_div, RW_mod, RW_pow, RW_eq0, RW_eq1, eqD_ii, eqD_ss, eqD_bb, Int.cast_ofNat_Int, RW_in, RW_is, RW_ix, getD_lst, getD_tup, atI_0, atI_1, atI_2, atI_3, atI_4, atI_5, RW_eFn, RW_gFn, RW_call, FW_nx, FW_nil, FW_break, FW_cont, FW_seq, FW_if, FW_expr, FW_ret, FW_retG, FW_retN, FW_put, FW_asg, FW_asgG, FW_asgT, FW_par, FW_sub, FW_store, FW_aug, FW_raise, FW_try, keepP, RW_rng1, RW_rng2, rng1_int, RW_seq, startD_eq, startA, setT_nm, setT_tp, setN_nil, setN_cons, bindA, argD, pairsA, putM, ndup, mutsD, mutIdx, intD, absD, lenD, tupD, max2D, min2D, szl, items_lst, items_tup, RW_comp, RW_yes, wipeD, RW_addL, RW_addT, RW_addS, RW_iadd, RW_gCat, RW_gRep, RW_gRev, RW_zip, RW_enum, stF, RW_oN, RW_oS, RW_sl, RW_mut, RW_mutF, isOwn, lm_app, ixN_l0, ixN_l1, ixN_l2, ixN_l3, ixN_l4, ixN_l5, List.reverse_cons, List.reverse_nil, List.getElem?_nil, Nat.reduceAdd, Nat.reduceLeDiff, Nat.reduceLT, Int.reduceLT, Int.reduceLE, Int.reduceAdd, Int.reduceSub, Int.reduceMul, Int.reduceNeg, Int.reduceEq, Int.reduceToNat, Nat.reduceEqDiff, List.replicate_succ, List.replicate_zero, List.cons_append, List.nil_append, List.getElem?_cons_zero, List.getElem?_cons_succ, List.set_cons_zero, List.set_cons_succ, List.length_cons, List.length_nil, List.map_cons, List.map_nil, List.contains_nil, List.contains_cons, Option.map_some, Option.bind_some, decide_eq_true_eq, decide_eq_false_iff_not, decide_true, decide_false, Bool.not_true, Bool.not_false, Bool.and_true, Bool.true_and, Bool.and_false, Bool.false_and, Bool.or_false, Bool.false_or, Bool.or_true, Bool.true_or, Bool.not_eq_true', Bool.not_eq_false', Bool.false_eq_true, Bool.true_eq_false, reduceCtorEq, true_implies, false_implies, forall_const, not_true_eq_false, not_false_eq_true, and_true, true_and, and_self, if_true, if_false, ite_true, ite_false, eq_self]
    refine FW_inv (fun i δ => ∃ (x1 : Option (Nat × D)) (m t : Nat), δ = [some (0, d), x1, some (0, .int (t : Int)), some (0, .int (m : Int))] ∧ t = (l.take i).sum ∧ m * arr t (l.drop i) = arr 0 l) (k := 0) ⟨x1, 1, 0, rfl, rfl, by rw [Nat.one_mul]; rfl⟩ ?_ ?_
    · rintro i dd δ hdd ⟨x1, m, t, rfl, ht, hm⟩
      rw [Nat.zero_add] at *
      rw [List.getElem?_map] at hdd
      cases qk : l[i]? with
      | none => rw [qk] at hdd; cases hdd
      | some y =>
        rw [qk] at hdd
        cases hdd
        refine ⟨_, rfl, ?_⟩
        obtain ⟨hk, hy0⟩ := List.getElem?_eq_some_iff.mp qk
        have ed : l.drop i = y :: l.drop (i + 1) := by rw [List.drop_eq_getElem_cons hk, hy0]
        rw [ed] at hm
        have hm : m * (chs (t + y) y * arr (t + y) (l.drop (i + 1))) = arr 0 l := hm
        have hsum : (l.take (i + 1)).sum = t + y := by rw [List.take_add_one, qk, List.sum_append, ← ht]; simp
        have hle : t + y ≤ 1000 := by
          have e := congrArg List.sum (List.take_append_drop (i + 1) l)
          rw [List.sum_append, hsum] at e
          omega
        have mle : m ≤ arr 0 l := by
          rw [← hm]
          refine Nat.le_mul_of_pos_right _ ?_
          rcases Nat.eq_zero_or_pos (chs (t + y) y * arr (t + y) (l.drop (i + 1))) with e | e
          · rw [e, Nat.mul_zero] at hm; omega
          · exact e
        unfold nD
        walk_at "st"
        walk_at "st"
        refine ways_ok (by omega) (by omega) ?_
        have ew : wI ((t : Int) + (y : Int)).toNat (y : Int) = ((chs (t + y) y : Nat) : Int) := by
          unfold wI
          rw [if_neg (by omega), Int.toNat_natCast, show ((t : Int) + (y : Int)).toNat = t + y by omega]
        rw [ew]
        walk_at "ev"
        refine ⟨bg_mul (bg_nat (Nat.le_trans mle ale)) (bg_nat (Nat.le_trans (chs_bg hle) (Nat.pow_le_pow_right (by decide) (by decide)))), some (0, .int ((y : Nat) : Int)), m * chs (t + y) y, t + y, ?_, hsum.symm, ?_⟩
        · rw [Int.natCast_mul, Int.natCast_add]
        · rw [← hm, Nat.mul_assoc]
    · rintro δ ⟨x1, m, t, rfl, ht, hm⟩
      have e : l.drop (0 + (l.map nD).length) = [] := List.drop_of_length_le (by rw [List.length_map]; omega)
      rw [e] at hm
      have hm : m * 1 = arr 0 l := hm
      rw [Nat.mul_one] at hm
      subst hm
      exact ⟨_, _, rfl⟩
  rintro δ1 ⟨x1, x2, rfl⟩
  walk_at "st"
  exact q
end
end LK

set_option Elab.async false
set_option linter.all false
set_option maxRecDepth 10000
set_option exponentiation.threshold 40000
namespace LK
open PySem L2 DL Comb
section
variable {Q G : D → List D → Prop} {E : Str → List Str → List D → List D → Prop}
theorem arr_bad1 {d : D} {ns : List Int} (hd : items d = some (ns.map D.int)) (hn : ∃ x ∈ ns, x < 0) (q : E "BadNumber" ["what"] [.str "counts"] []) : MW (m_arrangements [d]) Q G E := by
  refine MW_run (t := t_arrangements) ?_
  delta t_arrangements
  refine LZ_cut (J := fun _ => False) ?_ (fun _ h => h.elim)
  refine LZ_in ?_
  rw [FW_for]
  simp only [hd, RW_ok, RW_exc, RW_stuck, RW_C, RW_var, RW_bin, RW_un, RW_vB, RW_T, RW_bAnd, RW_bOr, RW_bNot, RW_eAnd, RW_eOr, RW_eNot, RW_eIf, RW_aNil, RW_aCons, RW_gFz, RW_gDis, RW_eCall, RW_gCall, RW_fn1, RW_fn2, RW_fnL, dr_fz, dr_sl, frz_fz, frz_sl, frzs_nil, frzs_cons, RW_add, RW_sub, RW_lt, RW_le, RW_gt, RW_ge, RW_neg, RW_mul, RW_div, RW_mod, RW_pow, RW_eq0, RW_eq1, eqD_ii, eqD_ss, eqD_bb, Int.cast_ofNat_Int, RW_in, RW_is, RW_ix, getD_lst, getD_tup, atI_0, atI_1, atI_2, atI_3, atI_4, atI_5, RW_eFn, RW_gFn, RW_call, FW_nx, FW_nil, FW_break, FW_cont, FW_seq, FW_if, FW_expr, FW_ret, FW_retG, FW_retN, FW_put, FW_asg, FW_asgG, FW_asgT, FW_par, FW_sub, FW_store, FW_aug, FW_raise, FW_try, keepP, RW_rng1, RW_rng2, rng1_int, RW_seq, startD_eq, startA, setT_nm, setT_tp, setN_nil, setN_cons, bindA, argD, pairsA, putM, ndup, mutsD, mutIdx, intD, absD, lenD, tupD, max2D, min2D, szl, items_lst, items_tup, RW_comp, RW_yes, wipeD, RW_addL, RW_addT, RW_addS, RW_iadd, RW_gCat, RW_gRep, RW_gRev, RW_zip, RW_enum, stF, RW_oN, RW_oS, RW_sl, RW_mut, RW_mutF, isOwn, lm_app, ixN_l0, ixN_l1, ixN_l2, ixN_l3, ixN_l4, ixN_l5, List.reverse_cons, List.reverse_nil, List.getElem?_nil, Nat.reduceAdd, Nat.reduceLeDiff, Nat.reduceLT, Int.reduceLT, Int.reduceLE, Int.reduceAdd, Int.reduceSub, Int.reduceMul, Int.reduceNeg, Int.reduceEq, Int.reduceToNat, Nat.reduceEqDiff, List.replicate_succ, List.replicate_zero, List.cons_append, List.nil_append, List.getElem?_cons_zero, List.getElem?_cons_succ, List.set_cons_zero, List.set_cons_succ, List.length_cons, List.length_nil, List.map_cons, List.map_nil, List.contains_nil, List.contains_cons, Option.map_some, Option.bind_some, decide_eq_true_eq, decide_eq_false_iff_not, decide_true, decide_false, Bool.not_true, Bool.not_false, Bool.and_true, Bool.true_and, Bool.and_false, Bool.false_and, Bool.or_false, Bool.false_or, Bool.or_true, Bool.true_or, Bool.not_eq_true', Bool.not_eq_false', Bool.false_eq_true, Bool.true_eq_false, reduceCtorEq, true_implies, false_implies, forall_const, not_true_eq_false, not_false_eq_true, and_true, true_and, and_self, if_true, if_false, ite_true, ite_false, eq_self]
  refine FW_inv (fun i δ => (∃ x1, δ = [some (0, d), x1, none, none]) ∧ ∀ x ∈ ns.take i, ¬ x < 0) (k := 0) ⟨⟨_, rfl⟩, by simp⟩ ?_ ?_
  · rintro i dd δ hdd ⟨⟨x1, rfl⟩, hp⟩
    rw [Nat.zero_add] at *
    rw [List.getElem?_map] at hdd
    cases qk : ns[i]? with
    | none => rw [qk] at hdd; cases hdd
    | some y =>
      rw [qk] at hdd
      cases hdd
      refine ⟨_, rfl, ?_⟩
      walk_at "st"
      refine ⟨fun h2 => ?_, fun h2 => ?_⟩
      · walk_at "st"
        exact q
      · walk_at "st"
        refine ⟨⟨_, rfl⟩, fun x hx => ?_⟩
        rw [List.take_add_one, qk] at hx
        rcases List.mem_append.mp hx with hx | hx
        · exact hp x hx
        · have e : x = y := by simpa using hx
          rw [e]; exact h2
  · rintro δ ⟨_, hp⟩
    obtain ⟨x, hx, h0⟩ := hn
    rw [List.take_of_length_le (by rw [List.length_map]; omega)] at hp
    exact hp x hx h0
theorem arr_bad2 {d : D} {ns : List Int} (hd : items d = some (ns.map D.int)) (hs : sumD d = some (.int ns.sum)) (hn : ∀ x ∈ ns, ¬ x < 0) (h : 1000 < ns.sum) (q : E "TooMany" ["limit", "what"] [.int 1000, .str "counts"] []) : MW (m_arrangements [d]) Q G E := by
  refine MW_run (t := t_arrangements) ?_
  delta t_arrangements
  refine LZ_cut (J := fun δ => ∃ x1, δ = [some (0, d), x1, none, none]) ?_ ?_
  · refine LZ_in ?_
    rw [FW_for]
    simp only [hd, RW_ok, RW_exc, RW_stuck, RW_C, RW_var, RW_bin, RW_un, RW_vB, RW_T, RW_bAnd, RW_bOr, RW_bNot, RW_eAnd, RW_eOr, RW_eNot, RW_eIf, RW_aNil, RW_aCons, RW_gFz, RW_gDis, RW_eCall, RW_gCall, RW_fn1, RW_fn2, RW_fnL, dr_fz, dr_sl, frz_fz, frz_sl, frzs_nil, frzs_cons, RW_add, RW_sub, RW_lt, RW_le, RW_gt, RW_ge, RW_neg, RW_mul, RW_div, RW_mod, RW_pow, RW_eq0, RW_eq1, eqD_ii, eqD_ss, eqD_bb, Int.cast_ofNat_Int, RW_in, RW_is, RW_ix, getD_lst, getD_tup, atI_0, atI_1, atI_2, atI_3, atI_4, atI_5, RW_eFn, RW_gFn, RW_call, FW_nx, FW_nil, FW_break, FW_cont, FW_seq, FW_if, FW_expr, FW_ret, FW_retG, FW_retN, FW_put, FW_asg, FW_asgG, FW_asgT, FW_par, FW_sub, FW_store, FW_aug, FW_raise, FW_try, keepP, RW_rng1, RW_rng2, rng1_int, RW_seq, startD_eq, startA, setT_nm, setT_tp, setN_nil, setN_cons, bindA, argD, pairsA, putM, ndup, mutsD, mutIdx, intD, absD, lenD, tupD, max2D, min2D, szl, items_lst, items_tup, RW_comp, RW_yes, wipeD, RW_addL, RW_addT, RW_addS, RW_iadd, RW_gCat, RW_gRep, RW_gRev, RW_zip, RW_enum, stF, RW_oN, RW_oS, RW_sl, RW_mut, RW_mutF, isOwn, lm_app, ixN_l0, ixN_l1, ixN_l2, ixN_l3, ixN_l4, ixN_l5, List.reverse_cons, List.reverse_nil, List.getElem?_nil, Nat.reduceAdd, Nat.reduceLeDiff, Nat.reduceLT, Int.reduceLT, Int.reduceLE, Int.reduceAdd, Int.reduceSub, Int.reduceMul, Int.reduceNeg, Int.reduceEq, Int.reduceToNat, Nat.reduceEqDiff, List.replicate_succ, List.replicate_zero, List.cons_append, List.nil_append, List.getElem?_cons_zero, List.getElem?_cons_succ, List.set_cons_zero, List.set_cons_succ, List.length_cons, List.length_nil, List.map_cons, List.map_nil, List.contains_nil, List.contains_cons, Option.map_some, Option.bind_some, decide_eq_true_eq, decide_eq_false_iff_not, decide_true, decide_false, Bool.not_true, Bool.not_false, Bool.and_true, Bool.true_and, Bool.and_false, Bool.false_and, Bool.or_false, Bool.false_or, Bool.or_true, Bool.true_or, Bool.not_eq_true', Bool.not_eq_false', Bool.false_eq_true, Bool.true_eq_false, reduceCtorEq, true_implies, false_implies, forall_const, not_true_eq_false, not_false_eq_true, and_true, true_and, and_self, if_true, if_false, ite_true, ite_false, eq_self]
    refine FW_inv (fun i δ => ∃ x1, δ = [some (0, d), x1, none, none]) (k := 0) ⟨_, rfl⟩ ?_ ?_
    · rintro i dd δ hdd ⟨x1, rfl⟩
      rw [List.getElem?_map] at hdd
      cases qk : ns[i]? with
      | none => rw [qk] at hdd; cases hdd
      | some y =>
        rw [qk] at hdd
        cases hdd
        refine ⟨_, rfl, ?_⟩
        have hy := hn y (List.mem_of_getElem? qk)
        walk_at "st"
        refine ⟨fun h2 => absurd h2 hy, fun _ => ?_⟩
        walk_at "st"
        exact ⟨_, rfl⟩
    · rintro δ ⟨x1, rfl⟩
      exact ⟨_, rfl⟩
  rintro δ1 ⟨x1, rfl⟩
  (refine LZ_in ?_; simp only [hs, RW_ok, RW_exc, RW_stuck, RW_C, RW_var, RW_bin, RW_un, RW_vB, RW_T, RW_bAnd, RW_bOr, RW_bNot, RW_eAnd, RW_eOr, RW_eNot, RW_eIf, RW_aNil, RW_aCons, RW_gFz, RW_gDis, RW_eCall, RW_gCall, RW_fn1, RW_fn2, RW_fnL, dr_fz, dr_sl, frz_fz, frz_sl, frzs_nil, frzs_cons, RW_add, RW_sub, RW_lt, RW_le, RW_gt, RW_ge, RW_neg, RW_mul, RW_div, RW_mod, RW_pow, RW_eq0, RW_eq1, eqD_ii, eqD_ss, eqD_bb, Int.cast_ofNat_Int, RW_in, RW_is, RW_ix, getD_lst, getD_tup, atI_0, atI_1, atI_2, atI_3, atI_4, atI_5, RW_eFn, RW_gFn, RW_call, FW_nx, FW_nil, FW_break, FW_cont, FW_seq, FW_if, FW_expr, FW_ret, FW_retG, FW_retN, FW_put, FW_asg, FW_asgG, FW_asgT, FW_par, FW_sub, FW_store, FW_aug, FW_raise, FW_try, keepP, RW_rng1, RW_rng2, rng1_int, RW_seq, startD_eq, startA, setT_nm, setT_tp, setN_nil, setN_cons, bindA, argD, pairsA, putM, ndup, mutsD, mutIdx, intD, absD, lenD, tupD, max2D, min2D, szl, items_lst, items_tup, RW_comp, RW_yes, wipeD, RW_addL, RW_addT, RW_addS, RW_iadd, RW_gCat, RW_gRep, RW_gRev, RW_zip, RW_enum, stF, RW_oN, RW_oS, RW_sl, RW_mut, RW_mutF, isOwn, lm_app, ixN_l0, ixN_l1, ixN_l2, ixN_l3, ixN_l4, ixN_l5, List.reverse_cons, List.reverse_nil, List.getElem?_nil, Nat.reduceAdd, Nat.reduceLeDiff, Nat.reduceLT, Int.reduceLT, Int.reduceLE, Int.reduceAdd, Int.reduceSub, Int.reduceMul, Int.reduceNeg, Int.reduceEq, Int.reduceToNat, Nat.reduceEqDiff, List.replicate_succ, List.replicate_zero, List.cons_append, List.nil_append, List.getElem?_cons_zero, List.getElem?_cons_succ, List.set_cons_zero, List.set_cons_succ, List.length_cons, List.length_nil, List.map_cons, List.map_nil, List.contains_nil, List.contains_cons, Option.map_some, Option.bind_some, decide_eq_true_eq, decide_eq_false_iff_not, decide_true, decide_false, Bool.not_true, Bool.not_false, Bool.and_true, Bool.true_and, Bool.and_false, Bool.false_and, Bool.or_false, Bool.false_or, Bool.or_true, Bool.true_or, Bool.not_eq_true', Bool.not_eq_false', Bool.false_eq_true, Bool.true_eq_false, reduceCtorEq, true_implies, false_implies, forall_const, not_true_eq_false, not_false_eq_true, and_true, true_and, and_self, if_true, if_false, ite_true, ite_false, eq_self])
  refine ⟨fun _ => ?_, fun h2 => absurd h h2⟩
  walk_at "st"
  exact q
end
end LK

set_option Elab.async false
set_option linter.all false
set_option maxRecDepth 10000
set_option exponentiation.threshold 40000
namespace LK
open PySem L2 DL Comb
section
variable {Q G : D → List D → Prop} {E : Str → List Str → List D → List D → Prop}
/-- a row of ints: a list or a tuple -/
def RowI (d : D) (ns : List Int) : Prop := d = .lst (ns.map D.int) ∨ d = .tup (ns.map D.int)
theorem RowI.items {d : D} {ns : List Int} (h : RowI d ns) : items d = some (ns.map D.int) := by rcases h with rfl | rfl <;> rfl
theorem RowI.sum {d : D} {ns : List Int} (h : RowI d ns) : sumD d = some (.int ns.sum) := by
  rcases h with rfl | rfl <;> (unfold sumD; dsimp only; rw [intsD_map]; rfl)
theorem RowI.tup {d : D} {ns : List Int} (h : RowI d ns) : tupD d = some (.tup (ns.map D.int)) := by rcases h with rfl | rfl <;> rfl
theorem nats_of : ∀ {ns : List Int}, (∀ x ∈ ns, ¬ x < 0) → ∃ l : List Nat, ns = l.map fun (x : Nat) => (x : Int)
  | [], _ => ⟨[], rfl⟩
  | x :: ns, h => by
    obtain ⟨l, e⟩ := nats_of (ns := ns) fun y hy => h y (List.mem_cons_of_mem _ hy)
    obtain ⟨y, hy⟩ := Int.eq_ofNat_of_zero_le (show 0 ≤ x by have := h x List.mem_cons_self; omega)
    exact ⟨y :: l, by rw [e, hy]; rfl⟩
theorem ask_arr {d : D} {ns : List Int} {k0 : Int} (hr : RowI d ns) (k1 : (∃ x ∈ ns, x < 0) → Q (.tup [.str "refused", dBad "counts"]) []) (k2 : (∀ x ∈ ns, ¬ x < 0) → 1000 < ns.sum → Q (.tup [.str "refused", dMany "counts" 1000]) [])
    (k3 : ∀ l : List Nat, ns = (l.map fun (x : Nat) => (x : Int)) → l.sum ≤ 1000 → Q (.tup [.str "answer", .int ((arr 0 l : Nat) : Int)]) []) : MW (m_law_ask [.int 2, d, .int k0]) Q G E := by
  refine MW_run (t := t_law_ask) ?_
  delta t_law_ask
  refine LZ_in ?_
  rw [FW_try]
  refine LZ_out ?_
  walk_at "st"
  walk_at "st"
  walk_at "st"
  walk_at "st"
  walk_at "st"
  by_cases hn : ∃ x ∈ ns, x < 0
  · refine arr_bad1 hr.items hn ?_
    walk_at "ev"
    refine ⟨by decide, by rfl, ?_⟩
    walk_at "st"
    refine MW_ok ref_bad ?_
    walk_at "ev"
    exact k1 hn
  · have hp : ∀ x ∈ ns, ¬ x < 0 := fun x hx h => hn ⟨x, hx, h⟩
    by_cases hs : 1000 < ns.sum
    · refine arr_bad2 hr.items hr.sum hp hs ?_
      walk_at "ev"
      refine ⟨by decide, by rfl, ?_⟩
      walk_at "st"
      refine MW_ok ref_many ?_
      walk_at "ev"
      exact k2 hp hs
    · obtain ⟨l, e⟩ := nats_of hp
      have es : ns.sum = ((l.sum : Nat) : Int) := by rw [e, sum_cast]
      refine arr_ok (l := l) (by rw [hr.items, e, List.map_map]; rfl) (by rw [hr.sum, es]) (by omega) ?_
      walk_at "ev"
      exact k3 l e (by omega)
end
end LK

set_option Elab.async false
set_option linter.all false
set_option maxRecDepth 10000
set_option exponentiation.threshold 40000
namespace LK
open PySem L2 DL Comb
section
variable {Q G : D → List D → Prop} {E : Str → List Str → List D → List D → Prop}
theorem same_b3 : m_law_same [dBad "counts", dBad "counts"] = .ok (.bl true) [] := by kernel_rfl
theorem same_m3 : m_law_same [dMany "counts" 1000, dMany "counts" 1000] = .ok (.bl true) [] := by kernel_rfl
theorem eq_b3 : eqD (dBad "counts") (.tup []) = some false := by kernel_rfl
theorem eq_m3 : eqD (dMany "counts" 1000) (.tup []) = some false := by kernel_rfl
theorem eq_n3 : eqD (.tup []) (.tup []) = some true := by kernel_rfl
/-- what is due -/
def dueA (ns : List Int) : D := if (∃ x ∈ ns, x < 0) then dBad "counts" else if 1000 < ns.sum then dMany "counts" 1000 else .tup []
theorem pf_take : ∀ (l : List Nat) (i : Nat) (y : Nat), l[i]? = some y → pf (l.take (i + 1)) = pf (l.take i) * fct y
  | [], i, y, h => by simp at h
  | a :: l, 0, y, h => by
    simp at h
    subst h
    show fct a * pf [] = 1 * fct a
    show fct a * 1 = 1 * fct a
    omega
  | a :: l, i + 1, y, h => by
    have z := pf_take l i y (by simpa using h)
    rw [List.take_succ_cons, List.take_succ_cons]
    show fct a * pf (l.take (i + 1)) = fct a * pf (l.take i) * fct y
    rw [z, Nat.mul_assoc]
theorem pf_drop : ∀ (l : List Nat) (i : Nat), pf (l.take i) * pf (l.drop i) = pf l
  | l, 0 => by
    rw [List.take_zero, List.drop_zero]
    show 1 * pf l = pf l
    omega
  | [], i + 1 => rfl
  | a :: l, i + 1 => by
    rw [List.take_succ_cons, List.drop_succ_cons]
    show fct a * pf (l.take i) * pf (l.drop i) = fct a * pf l
    rw [← pf_drop l i, Nat.mul_assoc]
theorem pf_pos : ∀ l : List Nat, 0 < pf l
  | [] => Nat.one_pos
  | a :: l => Nat.mul_pos (fct_pos a) (pf_pos l)
theorem le_sum_of : ∀ {l : List Nat} {y : Nat}, y ∈ l → y ≤ l.sum
  | [], y, h => by simp at h
  | a :: l, y, h => by
    rw [List.sum_cons]
    rcases List.mem_cons.mp h with rfl | h
    · omega
    · have := le_sum_of h
      omega
theorem arrmet_spec {d : D} {ns : List Int} (hr : RowI d ns) (q : Q (.bl true) []) : MW (m_law_arrangements_met [d]) Q G E := by
  refine MW_run (t := t_law_arrangements_met) ?_
  delta t_law_arrangements_met
  walk_at "st"
  refine LZ_cut (J := fun δ => δ = [some (0, d), some (0, if 1000 < ns.sum then dMany "counts" 1000 else .tup []), none, none, none, none]) ?_ ?_
  · (refine LZ_in ?_; simp only [hr.sum, RW_ok, RW_exc, RW_stuck, RW_C, RW_var, RW_bin, RW_un, RW_vB, RW_T, RW_bAnd, RW_bOr, RW_bNot, RW_eAnd, RW_eOr, RW_eNot, RW_eIf, RW_aNil, RW_aCons, RW_gFz, RW_gDis, RW_eCall, RW_gCall, RW_fn1, RW_fn2, RW_fnL, dr_fz, dr_sl, frz_fz, frz_sl, frzs_nil, frzs_cons, RW_add, RW_sub, RW_lt, RW_le, RW_gt, RW_ge, RW_neg, RW_mul, RW_div, RW_mod, RW_pow, RW_eq0, RW_eq1, eqD_ii, eqD_ss, eqD_bb, Int.cast_ofNat_Int, RW_in, RW_is, RW_ix, getD_lst, getD_tup, atI_0, atI_1, atI_2, atI_3, atI_4, atI_5, RW_eFn, RW_gFn, RW_call, FW_nx, FW_nil, FW_break, FW_cont, FW_seq, FW_if, FW_expr, FW_ret, FW_retG, FW_retN, FW_put, FW_asg, FW_asgG, FW_asgT, FW_par, FW_sub, FW_store, FW_aug, FW_raise, FW_try, keepP, RW_rng1, RW_rng2, rng1_int, RW_seq, startD_eq, startA, setT_nm, setT_tp, setN_nil, setN_cons, bindA, argD, pairsA, putM, ndup, mutsD, mutIdx, intD, absD, lenD, tupD, max2D, min2D, szl, items_lst, items_tup, RW_comp, RW_yes, wipeD, RW_addL, RW_addT, RW_addS, RW_iadd, RW_gCat, RW_gRep, RW_gRev, RW_zip, RW_enum, stF, RW_oN, RW_oS, RW_sl, RW_mut, RW_mutF, isOwn, lm_app, ixN_l0, ixN_l1, ixN_l2, ixN_l3, ixN_l4, ixN_l5, List.reverse_cons, List.reverse_nil, List.getElem?_nil, Nat.reduceAdd, Nat.reduceLeDiff, Nat.reduceLT, Int.reduceLT, Int.reduceLE, Int.reduceAdd, Int.reduceSub, Int.reduceMul, Int.reduceNeg, Int.reduceEq, Int.reduceToNat, Nat.reduceEqDiff, List.replicate_succ, List.replicate_zero, List.cons_append, List.nil_append, List.getElem?_cons_zero, List.getElem?_cons_succ, List.set_cons_zero, List.set_cons_succ, List.length_cons, List.length_nil, List.map_cons, List.map_nil, List.contains_nil, List.contains_cons, Option.map_some, Option.bind_some, decide_eq_true_eq, decide_eq_false_iff_not, decide_true, decide_false, Bool.not_true, Bool.not_false, Bool.and_true, Bool.true_and, Bool.and_false, Bool.false_and, Bool.or_false, Bool.false_or, Bool.or_true, Bool.true_or, Bool.not_eq_true', Bool.not_eq_false', Bool.false_eq_true, Bool.true_eq_false, reduceCtorEq, true_implies, false_implies, forall_const, not_true_eq_false, not_false_eq_true, and_true, true_and, and_self, if_true, if_false, ite_true, ite_false, eq_self])
    refine ⟨fun h => ?_, fun h => ?_⟩
    · walk_at "st"
      rw [if_pos h]; rfl
    · walk_at "st"
      rw [if_neg h]
  rintro δ1 rfl
  refine LZ_cut (J := fun δ => ∃ x2, δ = [some (0, d), some (0, dueA ns), x2, none, none, none]) ?_ ?_
  · refine LZ_in ?_
    rw [FW_for]
    simp only [hr.items, RW_ok, RW_exc, RW_stuck, RW_C, RW_var, RW_bin, RW_un, RW_vB, RW_T, RW_bAnd, RW_bOr, RW_bNot, RW_eAnd, RW_eOr, RW_eNot, RW_eIf, RW_aNil, RW_aCons, RW_gFz, RW_gDis, RW_eCall, RW_gCall, RW_fn1, RW_fn2, RW_fnL, dr_fz, dr_sl, frz_fz, frz_sl, frzs_nil, frzs_cons, RW_add, RW_sub, RW_lt, RW_le, RW_gt, RW_ge, RW_neg, RW_mul, RW_div, RW_mod, RW_pow, RW_eq0, RW_eq1, eqD_ii, eqD_ss, eqD_bb, Int.cast_ofNat_Int, RW_in, RW_is, RW_ix, getD_lst, getD_tup, atI_0, atI_1, atI_2, atI_3, atI_4, atI_5, RW_eFn, RW_gFn, RW_call, FW_nx, FW_nil, FW_break, FW_cont, FW_seq, FW_if, FW_expr, FW_ret, FW_retG, FW_retN, FW_put, FW_asg, FW_asgG, FW_asgT, FW_par, FW_sub, FW_store, FW_aug, FW_raise, FW_try, keepP, RW_rng1, RW_rng2, rng1_int, RW_seq, startD_eq, startA, setT_nm, setT_tp, setN_nil, setN_cons, bindA, argD, pairsA, putM, ndup, mutsD, mutIdx, intD, absD, lenD, tupD, max2D, min2D, szl, items_lst, items_tup, RW_comp, RW_yes, wipeD, RW_addL, RW_addT, RW_addS, RW_iadd, RW_gCat, RW_gRep, RW_gRev, RW_zip, RW_enum, stF, RW_oN, RW_oS, RW_sl, RW_mut, RW_mutF, isOwn, lm_app, ixN_l0, ixN_l1, ixN_l2, ixN_l3, ixN_l4, ixN_l5, List.reverse_cons, List.reverse_nil, List.getElem?_nil, Nat.reduceAdd, Nat.reduceLeDiff, Nat.reduceLT, Int.reduceLT, Int.reduceLE, Int.reduceAdd, Int.reduceSub, Int.reduceMul, Int.reduceNeg, Int.reduceEq, Int.reduceToNat, Nat.reduceEqDiff, List.replicate_succ, List.replicate_zero, List.cons_append, List.nil_append, List.getElem?_cons_zero, List.getElem?_cons_succ, List.set_cons_zero, List.set_cons_succ, List.length_cons, List.length_nil, List.map_cons, List.map_nil, List.contains_nil, List.contains_cons, Option.map_some, Option.bind_some, decide_eq_true_eq, decide_eq_false_iff_not, decide_true, decide_false, Bool.not_true, Bool.not_false, Bool.and_true, Bool.true_and, Bool.and_false, Bool.false_and, Bool.or_false, Bool.false_or, Bool.or_true, Bool.true_or, Bool.not_eq_true', Bool.not_eq_false', Bool.false_eq_true, Bool.true_eq_false, reduceCtorEq, true_implies, false_implies, forall_const, not_true_eq_false, not_false_eq_true, and_true, true_and, and_self, if_true, if_false, ite_true, ite_false, eq_self]
    refine FW_inv (fun i δ => ∃ x2, δ = [some (0, d), some (0, if (∃ x ∈ ns.take i, x < 0) then dBad "counts" else if 1000 < ns.sum then dMany "counts" 1000 else .tup []), x2, none, none, none]) (k := 0) ⟨none, by rw [List.take_zero, if_neg (c := ∃ x ∈ ([] : List Int), x < 0) (by simp)]⟩ ?_ ?_
    · rintro i dd δ hdd ⟨x2, rfl⟩
      rw [Nat.zero_add] at *
      rw [List.getElem?_map] at hdd
      cases qk : ns[i]? with
      | none => rw [qk] at hdd; cases hdd
      | some y =>
        rw [qk] at hdd
        cases hdd
        refine ⟨_, rfl, ?_⟩
        walk_at "st"
        refine ⟨fun h2 => ?_, fun h2 => ?_⟩
        · walk_at "st"
          refine ⟨some (0, .int y), ?_⟩
          rw [if_pos (c := ∃ x ∈ ns.take (i + 1), x < 0) ⟨y, by rw [List.take_add_one, qk]; exact List.mem_append_right _ (by simp), h2⟩]
          rfl
        · walk_at "st"
          refine ⟨some (0, .int y), ?_⟩
          have e : (∃ x ∈ ns.take (i + 1), x < 0) = (∃ x ∈ ns.take i, x < 0) := by
            rw [List.take_add_one, qk]
            refine propext ⟨?_, ?_⟩
            · rintro ⟨x, hx, h0⟩
              rcases List.mem_append.mp hx with hx | hx
              · exact ⟨x, hx, h0⟩
              · have e : x = y := by simpa using hx
                rw [e] at h0
                exact absurd h0 h2
            · rintro ⟨x, hx, h0⟩
              exact ⟨x, List.mem_append_left _ hx, h0⟩
          simp only [e]
    · rintro δ ⟨x2, rfl⟩
      refine ⟨x2, ?_⟩
      rw [Nat.zero_add, List.length_map, List.take_of_length_le (Nat.le_refl _)]
      rfl
  rintro δ1 ⟨x2, rfl⟩
  have ht := hr.tup
  unfold tupD at ht
  (refine LZ_in ?_; simp only [ht, RW_ok, RW_exc, RW_stuck, RW_C, RW_var, RW_bin, RW_un, RW_vB, RW_T, RW_bAnd, RW_bOr, RW_bNot, RW_eAnd, RW_eOr, RW_eNot, RW_eIf, RW_aNil, RW_aCons, RW_gFz, RW_gDis, RW_eCall, RW_gCall, RW_fn1, RW_fn2, RW_fnL, dr_fz, dr_sl, frz_fz, frz_sl, frzs_nil, frzs_cons, RW_add, RW_sub, RW_lt, RW_le, RW_gt, RW_ge, RW_neg, RW_mul, RW_div, RW_mod, RW_pow, RW_eq0, RW_eq1, eqD_ii, eqD_ss, eqD_bb, Int.cast_ofNat_Int, RW_in, RW_is, RW_ix, getD_lst, getD_tup, atI_0, atI_1, atI_2, atI_3, atI_4, atI_5, RW_eFn, RW_gFn, RW_call, FW_nx, FW_nil, FW_break, FW_cont, FW_seq, FW_if, FW_expr, FW_ret, FW_retG, FW_retN, FW_put, FW_asg, FW_asgG, FW_asgT, FW_par, FW_sub, FW_store, FW_aug, FW_raise, FW_try, keepP, RW_rng1, RW_rng2, rng1_int, RW_seq, startD_eq, startA, setT_nm, setT_tp, setN_nil, setN_cons, bindA, argD, pairsA, putM, ndup, mutsD, mutIdx, intD, absD, lenD, tupD, max2D, min2D, szl, items_lst, items_tup, RW_comp, RW_yes, wipeD, RW_addL, RW_addT, RW_addS, RW_iadd, RW_gCat, RW_gRep, RW_gRev, RW_zip, RW_enum, stF, RW_oN, RW_oS, RW_sl, RW_mut, RW_mutF, isOwn, lm_app, ixN_l0, ixN_l1, ixN_l2, ixN_l3, ixN_l4, ixN_l5, List.reverse_cons, List.reverse_nil, List.getElem?_nil, Nat.reduceAdd, Nat.reduceLeDiff, Nat.reduceLT, Int.reduceLT, Int.reduceLE, Int.reduceAdd, Int.reduceSub, Int.reduceMul, Int.reduceNeg, Int.reduceEq, Int.reduceToNat, Nat.reduceEqDiff, List.replicate_succ, List.replicate_zero, List.cons_append, List.nil_append, List.getElem?_cons_zero, List.getElem?_cons_succ, List.set_cons_zero, List.set_cons_succ, List.length_cons, List.length_nil, List.map_cons, List.map_nil, List.contains_nil, List.contains_cons, Option.map_some, Option.bind_some, decide_eq_true_eq, decide_eq_false_iff_not, decide_true, decide_false, Bool.not_true, Bool.not_false, Bool.and_true, Bool.true_and, Bool.and_false, Bool.false_and, Bool.or_false, Bool.false_or, Bool.or_true, Bool.true_or, Bool.not_eq_true', Bool.not_eq_false', Bool.false_eq_true, Bool.true_eq_false, reduceCtorEq, true_implies, false_implies, forall_const, not_true_eq_false, not_false_eq_true, and_true, true_and, and_self, if_true, if_false, ite_true, ite_false, eq_self])
  walk_at "st"
  refine ask_arr hr (fun h => ?_) (fun hn h => ?_) (fun l el h => ?_)
  · walk_at "ev"
    have e : dueA ns = dBad "counts" := by unfold dueA; rw [if_pos h]
    rw [e]
    (refine LZ_in ?_; simp only [ht, eqD_tupI, RW_ok, RW_exc, RW_stuck, RW_C, RW_var, RW_bin, RW_un, RW_vB, RW_T, RW_bAnd, RW_bOr, RW_bNot, RW_eAnd, RW_eOr, RW_eNot, RW_eIf, RW_aNil, RW_aCons, RW_gFz, RW_gDis, RW_eCall, RW_gCall, RW_fn1, RW_fn2, RW_fnL, dr_fz, dr_sl, frz_fz, frz_sl, frzs_nil, frzs_cons, RW_add, RW_sub, RW_lt, RW_le, RW_gt, RW_ge, RW_neg, RW_mul, RW_div, RW_mod, RW_pow, RW_eq0, RW_eq1, eqD_ii, eqD_ss, eqD_bb, Int.cast_ofNat_Int, RW_in, RW_is, RW_ix, getD_lst, getD_tup, atI_0, atI_1, atI_2, atI_3, atI_4, atI_5, RW_eFn, RW_gFn, RW_call, FW_nx, FW_nil, FW_break, FW_cont, FW_seq, FW_if, FW_expr, FW_ret, FW_retG, FW_retN, FW_put, FW_asg, FW_asgG, FW_asgT, FW_par, FW_sub, FW_store, FW_aug, FW_raise, FW_try, keepP, RW_rng1, RW_rng2, rng1_int, RW_seq, startD_eq, startA, setT_nm, setT_tp, setN_nil, setN_cons, bindA, argD, pairsA, putM, ndup, mutsD, mutIdx, intD, absD, lenD, tupD, max2D, min2D, szl, items_lst, items_tup, RW_comp, RW_yes, wipeD, RW_addL, RW_addT, RW_addS, RW_iadd, RW_gCat, RW_gRep, RW_gRev, RW_zip, RW_enum, stF, RW_oN, RW_oS, RW_sl, RW_mut, RW_mutF, isOwn, lm_app, ixN_l0, ixN_l1, ixN_l2, ixN_l3, ixN_l4, ixN_l5, List.reverse_cons, List.reverse_nil, List.getElem?_nil, Nat.reduceAdd, Nat.reduceLeDiff, Nat.reduceLT, Int.reduceLT, Int.reduceLE, Int.reduceAdd, Int.reduceSub, Int.reduceMul, Int.reduceNeg, Int.reduceEq, Int.reduceToNat, Nat.reduceEqDiff, List.replicate_succ, List.replicate_zero, List.cons_append, List.nil_append, List.getElem?_cons_zero, List.getElem?_cons_succ, List.set_cons_zero, List.set_cons_succ, List.length_cons, List.length_nil, List.map_cons, List.map_nil, List.contains_nil, List.contains_cons, Option.map_some, Option.bind_some, decide_eq_true_eq, decide_eq_false_iff_not, decide_true, decide_false, Bool.not_true, Bool.not_false, Bool.and_true, Bool.true_and, Bool.and_false, Bool.false_and, Bool.or_false, Bool.false_or, Bool.or_true, Bool.true_or, Bool.not_eq_true', Bool.not_eq_false', Bool.false_eq_true, Bool.true_eq_false, reduceCtorEq, true_implies, false_implies, forall_const, not_true_eq_false, not_false_eq_true, and_true, true_and, and_self, if_true, if_false, ite_true, ite_false, eq_self])
    walk_at "st"
    (refine LZ_in ?_; simp only [eq_b3, RW_ok, RW_exc, RW_stuck, RW_C, RW_var, RW_bin, RW_un, RW_vB, RW_T, RW_bAnd, RW_bOr, RW_bNot, RW_eAnd, RW_eOr, RW_eNot, RW_eIf, RW_aNil, RW_aCons, RW_gFz, RW_gDis, RW_eCall, RW_gCall, RW_fn1, RW_fn2, RW_fnL, dr_fz, dr_sl, frz_fz, frz_sl, frzs_nil, frzs_cons, RW_add, RW_sub, RW_lt, RW_le, RW_gt, RW_ge, RW_neg, RW_mul, RW_div, RW_mod, RW_pow, RW_eq0, RW_eq1, eqD_ii, eqD_ss, eqD_bb, Int.cast_ofNat_Int, RW_in, RW_is, RW_ix, getD_lst, getD_tup, atI_0, atI_1, atI_2, atI_3, atI_4, atI_5, RW_eFn, RW_gFn, RW_call, FW_nx, FW_nil, FW_break, FW_cont, FW_seq, FW_if, FW_expr, FW_ret, FW_retG, FW_retN, FW_put, FW_asg, FW_asgG, FW_asgT, FW_par, FW_sub, FW_store, FW_aug, FW_raise, FW_try, keepP, RW_rng1, RW_rng2, rng1_int, RW_seq, startD_eq, startA, setT_nm, setT_tp, setN_nil, setN_cons, bindA, argD, pairsA, putM, ndup, mutsD, mutIdx, intD, absD, lenD, tupD, max2D, min2D, szl, items_lst, items_tup, RW_comp, RW_yes, wipeD, RW_addL, RW_addT, RW_addS, RW_iadd, RW_gCat, RW_gRep, RW_gRev, RW_zip, RW_enum, stF, RW_oN, RW_oS, RW_sl, RW_mut, RW_mutF, isOwn, lm_app, ixN_l0, ixN_l1, ixN_l2, ixN_l3, ixN_l4, ixN_l5, List.reverse_cons, List.reverse_nil, List.getElem?_nil, Nat.reduceAdd, Nat.reduceLeDiff, Nat.reduceLT, Int.reduceLT, Int.reduceLE, Int.reduceAdd, Int.reduceSub, Int.reduceMul, Int.reduceNeg, Int.reduceEq, Int.reduceToNat, Nat.reduceEqDiff, List.replicate_succ, List.replicate_zero, List.cons_append, List.nil_append, List.getElem?_cons_zero, List.getElem?_cons_succ, List.set_cons_zero, List.set_cons_succ, List.length_cons, List.length_nil, List.map_cons, List.map_nil, List.contains_nil, List.contains_cons, Option.map_some, Option.bind_some, decide_eq_true_eq, decide_eq_false_iff_not, decide_true, decide_false, Bool.not_true, Bool.not_false, Bool.and_true, Bool.true_and, Bool.and_false, Bool.false_and, Bool.or_false, Bool.false_or, Bool.or_true, Bool.true_or, Bool.not_eq_true', Bool.not_eq_false', Bool.false_eq_true, Bool.true_eq_false, reduceCtorEq, true_implies, false_implies, forall_const, not_true_eq_false, not_false_eq_true, and_true, true_and, and_self, if_true, if_false, ite_true, ite_false, eq_self])
    walk_at "st"
    refine MW_ok same_b3 ?_
    walk_at "ev"
    exact q
  · walk_at "ev"
    have e : dueA ns = dMany "counts" 1000 := by
      unfold dueA
      rw [if_neg (fun ⟨x, hx, h0⟩ => hn x hx h0), if_pos h]
    rw [e]
    (refine LZ_in ?_; simp only [ht, eqD_tupI, RW_ok, RW_exc, RW_stuck, RW_C, RW_var, RW_bin, RW_un, RW_vB, RW_T, RW_bAnd, RW_bOr, RW_bNot, RW_eAnd, RW_eOr, RW_eNot, RW_eIf, RW_aNil, RW_aCons, RW_gFz, RW_gDis, RW_eCall, RW_gCall, RW_fn1, RW_fn2, RW_fnL, dr_fz, dr_sl, frz_fz, frz_sl, frzs_nil, frzs_cons, RW_add, RW_sub, RW_lt, RW_le, RW_gt, RW_ge, RW_neg, RW_mul, RW_div, RW_mod, RW_pow, RW_eq0, RW_eq1, eqD_ii, eqD_ss, eqD_bb, Int.cast_ofNat_Int, RW_in, RW_is, RW_ix, getD_lst, getD_tup, atI_0, atI_1, atI_2, atI_3, atI_4, atI_5, RW_eFn, RW_gFn, RW_call, FW_nx, FW_nil, FW_break, FW_cont, FW_seq, FW_if, FW_expr, FW_ret, FW_retG, FW_retN, FW_put, FW_asg, FW_asgG, FW_asgT, FW_par, FW_sub, FW_store, FW_aug, FW_raise, FW_try, keepP, RW_rng1, RW_rng2, rng1_int, RW_seq, startD_eq, startA, setT_nm, setT_tp, setN_nil, setN_cons, bindA, argD, pairsA, putM, ndup, mutsD, mutIdx, intD, absD, lenD, tupD, max2D, min2D, szl, items_lst, items_tup, RW_comp, RW_yes, wipeD, RW_addL, RW_addT, RW_addS, RW_iadd, RW_gCat, RW_gRep, RW_gRev, RW_zip, RW_enum, stF, RW_oN, RW_oS, RW_sl, RW_mut, RW_mutF, isOwn, lm_app, ixN_l0, ixN_l1, ixN_l2, ixN_l3, ixN_l4, ixN_l5, List.reverse_cons, List.reverse_nil, List.getElem?_nil, Nat.reduceAdd, Nat.reduceLeDiff, Nat.reduceLT, Int.reduceLT, Int.reduceLE, Int.reduceAdd, Int.reduceSub, Int.reduceMul, Int.reduceNeg, Int.reduceEq, Int.reduceToNat, Nat.reduceEqDiff, List.replicate_succ, List.replicate_zero, List.cons_append, List.nil_append, List.getElem?_cons_zero, List.getElem?_cons_succ, List.set_cons_zero, List.set_cons_succ, List.length_cons, List.length_nil, List.map_cons, List.map_nil, List.contains_nil, List.contains_cons, Option.map_some, Option.bind_some, decide_eq_true_eq, decide_eq_false_iff_not, decide_true, decide_false, Bool.not_true, Bool.not_false, Bool.and_true, Bool.true_and, Bool.and_false, Bool.false_and, Bool.or_false, Bool.false_or, Bool.or_true, Bool.true_or, Bool.not_eq_true', Bool.not_eq_false', Bool.false_eq_true, Bool.true_eq_false, reduceCtorEq, true_implies, false_implies, forall_const, not_true_eq_false, not_false_eq_true, and_true, true_and, and_self, if_true, if_false, ite_true, ite_false, eq_self])
    walk_at "st"
    (refine LZ_in ?_; simp only [eq_m3, RW_ok, RW_exc, RW_stuck, RW_C, RW_var, RW_bin, RW_un, RW_vB, RW_T, RW_bAnd, RW_bOr, RW_bNot, RW_eAnd, RW_eOr, RW_eNot, RW_eIf, RW_aNil, RW_aCons, RW_gFz, RW_gDis, RW_eCall, RW_gCall, RW_fn1, RW_fn2, RW_fnL, dr_fz, dr_sl, frz_fz, frz_sl, frzs_nil, frzs_cons, RW_add, RW_sub, RW_lt, RW_le, RW_gt, RW_ge, RW_neg, RW_mul, RW_div, RW_mod, RW_pow, RW_eq0, RW_eq1, eqD_ii, eqD_ss, eqD_bb, Int.cast_ofNat_Int, RW_in, RW_is, RW_ix, getD_lst, getD_tup, atI_0, atI_1, atI_2, atI_3, atI_4, atI_5, RW_eFn, RW_gFn, RW_call, FW_nx, FW_nil, FW_break, FW_cont, FW_seq, FW_if, FW_expr, FW_ret, FW_retG, FW_retN, FW_put, FW_asg, FW_asgG, FW_asgT, FW_par, FW_sub, FW_store, FW_aug, FW_raise, FW_try, keepP, RW_rng1, RW_rng2, rng1_int, RW_seq, startD_eq, startA, setT_nm, setT_tp, setN_nil, setN_cons, bindA, argD, pairsA, putM, ndup, mutsD, mutIdx, intD, absD, lenD, tupD, max2D, min2D, szl, items_lst, items_tup, RW_comp, RW_yes, wipeD, RW_addL, RW_addT, RW_addS, RW_iadd, RW_gCat, RW_gRep, RW_gRev, RW_zip, RW_enum, stF, RW_oN, RW_oS, RW_sl, RW_mut, RW_mutF, isOwn, lm_app, ixN_l0, ixN_l1, ixN_l2, ixN_l3, ixN_l4, ixN_l5, List.reverse_cons, List.reverse_nil, List.getElem?_nil, Nat.reduceAdd, Nat.reduceLeDiff, Nat.reduceLT, Int.reduceLT, Int.reduceLE, Int.reduceAdd, Int.reduceSub, Int.reduceMul, Int.reduceNeg, Int.reduceEq, Int.reduceToNat, Nat.reduceEqDiff, List.replicate_succ, List.replicate_zero, List.cons_append, List.nil_append, List.getElem?_cons_zero, List.getElem?_cons_succ, List.set_cons_zero, List.set_cons_succ, List.length_cons, List.length_nil, List.map_cons, List.map_nil, List.contains_nil, List.contains_cons, Option.map_some, Option.bind_some, decide_eq_true_eq, decide_eq_false_iff_not, decide_true, decide_false, Bool.not_true, Bool.not_false, Bool.and_true, Bool.true_and, Bool.and_false, Bool.false_and, Bool.or_false, Bool.false_or, Bool.or_true, Bool.true_or, Bool.not_eq_true', Bool.not_eq_false', Bool.false_eq_true, Bool.true_eq_false, reduceCtorEq, true_implies, false_implies, forall_const, not_true_eq_false, not_false_eq_true, and_true, true_and, and_self, if_true, if_false, ite_true, ite_false, eq_self])
    walk_at "st"
    refine MW_ok same_m3 ?_
    walk_at "ev"
    exact q
  · walk_at "ev"
    have hs : ns.sum = ((l.sum : Nat) : Int) := by rw [el]; exact sum_cast l
    have e : dueA ns = .tup [] := by
      unfold dueA
      rw [if_neg (fun ⟨x, hx, h0⟩ => by
        rw [el] at hx
        obtain ⟨y, _, e⟩ := List.mem_map.mp hx
        omega), if_neg (by omega)]
    rw [e]
    (refine LZ_in ?_; simp only [ht, eqD_tupI, RW_ok, RW_exc, RW_stuck, RW_C, RW_var, RW_bin, RW_un, RW_vB, RW_T, RW_bAnd, RW_bOr, RW_bNot, RW_eAnd, RW_eOr, RW_eNot, RW_eIf, RW_aNil, RW_aCons, RW_gFz, RW_gDis, RW_eCall, RW_gCall, RW_fn1, RW_fn2, RW_fnL, dr_fz, dr_sl, frz_fz, frz_sl, frzs_nil, frzs_cons, RW_add, RW_sub, RW_lt, RW_le, RW_gt, RW_ge, RW_neg, RW_mul, RW_div, RW_mod, RW_pow, RW_eq0, RW_eq1, eqD_ii, eqD_ss, eqD_bb, Int.cast_ofNat_Int, RW_in, RW_is, RW_ix, getD_lst, getD_tup, atI_0, atI_1, atI_2, atI_3, atI_4, atI_5, RW_eFn, RW_gFn, RW_call, FW_nx, FW_nil, FW_break, FW_cont, FW_seq, FW_if, FW_expr, FW_ret, FW_retG, FW_retN, FW_put, FW_asg, FW_asgG, FW_asgT, FW_par, FW_sub, FW_store, FW_aug, FW_raise, FW_try, keepP, RW_rng1, RW_rng2, rng1_int, RW_seq, startD_eq, startA, setT_nm, setT_tp, setN_nil, setN_cons, bindA, argD, pairsA, putM, ndup, mutsD, mutIdx, intD, absD, lenD, tupD, max2D, min2D, szl, items_lst, items_tup, RW_comp, RW_yes, wipeD, RW_addL, RW_addT, RW_addS, RW_iadd, RW_gCat, RW_gRep, RW_gRev, RW_zip, RW_enum, stF, RW_oN, RW_oS, RW_sl, RW_mut, RW_mutF, isOwn, lm_app, ixN_l0, ixN_l1, ixN_l2, ixN_l3, ixN_l4, ixN_l5, List.reverse_cons, List.reverse_nil, List.getElem?_nil, Nat.reduceAdd, Nat.reduceLeDiff, Nat.reduceLT, Int.reduceLT, Int.reduceLE, Int.reduceAdd, Int.reduceSub, Int.reduceMul, Int.reduceNeg, Int.reduceEq, Int.reduceToNat, Nat.reduceEqDiff, List.replicate_succ, List.replicate_zero, List.cons_append, List.nil_append, List.getElem?_cons_zero, List.getElem?_cons_succ, List.set_cons_zero, List.set_cons_succ, List.length_cons, List.length_nil, List.map_cons, List.map_nil, List.contains_nil, List.contains_cons, Option.map_some, Option.bind_some, decide_eq_true_eq, decide_eq_false_iff_not, decide_true, decide_false, Bool.not_true, Bool.not_false, Bool.and_true, Bool.true_and, Bool.and_false, Bool.false_and, Bool.or_false, Bool.false_or, Bool.or_true, Bool.true_or, Bool.not_eq_true', Bool.not_eq_false', Bool.false_eq_true, Bool.true_eq_false, reduceCtorEq, true_implies, false_implies, forall_const, not_true_eq_false, not_false_eq_true, and_true, true_and, and_self, if_true, if_false, ite_true, ite_false, eq_self])
    walk_at "st"
    (refine LZ_in ?_; simp only [eq_n3, RW_ok, RW_exc, RW_stuck, RW_C, RW_var, RW_bin, RW_un, RW_vB, RW_T, RW_bAnd, RW_bOr, RW_bNot, RW_eAnd, RW_eOr, RW_eNot, RW_eIf, RW_aNil, RW_aCons, RW_gFz, RW_gDis, RW_eCall, RW_gCall, RW_fn1, RW_fn2, RW_fnL, dr_fz, dr_sl, frz_fz, frz_sl, frzs_nil, frzs_cons, RW_add, RW_sub, RW_lt, RW_le, RW_gt, RW_ge, RW_neg, RW_mul, RW_div, RW_mod, RW_pow, RW_eq0, RW_eq1, eqD_ii, eqD_ss, eqD_bb, Int.cast_ofNat_Int, RW_in, RW_is, RW_ix, getD_lst, getD_tup, atI_0, atI_1, atI_2, atI_3, atI_4, atI_5, RW_eFn, RW_gFn, RW_call, FW_nx, FW_nil, FW_break, FW_cont, FW_seq, FW_if, FW_expr, FW_ret, FW_retG, FW_retN, FW_put, FW_asg, FW_asgG, FW_asgT, FW_par, FW_sub, FW_store, FW_aug, FW_raise, FW_try, keepP, RW_rng1, RW_rng2, rng1_int, RW_seq, startD_eq, startA, setT_nm, setT_tp, setN_nil, setN_cons, bindA, argD, pairsA, putM, ndup, mutsD, mutIdx, intD, absD, lenD, tupD, max2D, min2D, szl, items_lst, items_tup, RW_comp, RW_yes, wipeD, RW_addL, RW_addT, RW_addS, RW_iadd, RW_gCat, RW_gRep, RW_gRev, RW_zip, RW_enum, stF, RW_oN, RW_oS, RW_sl, RW_mut, RW_mutF, isOwn, lm_app, ixN_l0, ixN_l1, ixN_l2, ixN_l3, ixN_l4, ixN_l5, List.reverse_cons, List.reverse_nil, List.getElem?_nil, Nat.reduceAdd, Nat.reduceLeDiff, Nat.reduceLT, Int.reduceLT, Int.reduceLE, Int.reduceAdd, Int.reduceSub, Int.reduceMul, Int.reduceNeg, Int.reduceEq, Int.reduceToNat, Nat.reduceEqDiff, List.replicate_succ, List.replicate_zero, List.cons_append, List.nil_append, List.getElem?_cons_zero, List.getElem?_cons_succ, List.set_cons_zero, List.set_cons_succ, List.length_cons, List.length_nil, List.map_cons, List.map_nil, List.contains_nil, List.contains_cons, Option.map_some, Option.bind_some, decide_eq_true_eq, decide_eq_false_iff_not, decide_true, decide_false, Bool.not_true, Bool.not_false, Bool.and_true, Bool.true_and, Bool.and_false, Bool.false_and, Bool.or_false, Bool.false_or, Bool.or_true, Bool.true_or, Bool.not_eq_true', Bool.not_eq_false', Bool.false_eq_true, Bool.true_eq_false, reduceCtorEq, true_implies, false_implies, forall_const, not_true_eq_false, not_false_eq_true, and_true, true_and, and_self, if_true, if_false, ite_true, ite_false, eq_self])
    walk_at "st"
    walk_at "st"
    refine isint_ok ?_
    walk_at "ev"
    walk_at "st"
    walk_at "st"
    have tot := arr_pf l 0
    rw [Nat.zero_add, show fct 0 = 1 from rfl, Nat.mul_one] at tot
    have big : fct l.sum ≤ 2 ^ 20000 := Nat.le_trans (fct_bg h) k1020
    have s0 : 0 ≤ ns.sum := by omega
    have s1 : ns.sum ≤ 1000 := by omega
    refine LZ_cut (J := fun δ => ∃ x2 x3 x4, δ = [some (0, d), x2, x3, x4, some (0, .tup [.str "answer", .int ((arr 0 l : Nat) : Int)]), some (0, .int ((fct l.sum : Nat) : Int))]) ?_ ?_
    · refine LZ_in ?_
      rw [FW_for]
      simp only [hr.items, RW_ok, RW_exc, RW_stuck, RW_C, RW_var, RW_bin, RW_un, RW_vB, RW_T, RW_bAnd, RW_bOr, RW_bNot, RW_eAnd, RW_eOr, RW_eNot, RW_eIf, RW_aNil, RW_aCons, RW_gFz, RW_gDis, RW_eCall, RW_gCall, RW_fn1, RW_fn2, RW_fnL, dr_fz, dr_sl, frz_fz, frz_sl, frzs_nil, frzs_cons, RW_add, RW_sub, RW_lt, RW_le, RW_gt, RW_ge, RW_neg, RW_mul, RW_div, RW_mod, RW_pow, RW_eq0, RW_eq1, eqD_ii, eqD_ss, eqD_bb, Int.cast_ofNat_Int, RW_in, RW_is, RW_ix, getD_lst, getD_tup, atI_0, atI_1, atI_2, atI_3, atI_4, atI_5, RW_eFn, RW_gFn, RW_call, FW_nx, FW_nil, FW_break, FW_cont, FW_seq, FW_if, FW_expr, FW_ret, FW_retG, FW_retN, FW_put, FW_asg, FW_asgG, FW_asgT, FW_par, FW_sub, FW_store, FW_aug, FW_raise, FW_try, keepP, RW_rng1, RW_rng2, rng1_int, RW_seq, startD_eq, startA, setT_nm, setT_tp, setN_nil, setN_cons, bindA, argD, pairsA, putM, ndup, mutsD, mutIdx, intD, absD, lenD, tupD, max2D, min2D, szl, items_lst, items_tup, RW_comp, RW_yes, wipeD, RW_addL, RW_addT, RW_addS, RW_iadd, RW_gCat, RW_gRep, RW_gRev, RW_zip, RW_enum, stF, RW_oN, RW_oS, RW_sl, RW_mut, RW_mutF, isOwn, lm_app, ixN_l0, ixN_l1, ixN_l2, ixN_l3, ixN_l4, ixN_l5, List.reverse_cons, List.reverse_nil, List.getElem?_nil, Nat.reduceAdd, Nat.reduceLeDiff, Nat.reduceLT, Int.reduceLT, Int.reduceLE, Int.reduceAdd, Int.reduceSub, Int.reduceMul, Int.reduceNeg, Int.reduceEq, Int.reduceToNat, Nat.reduceEqDiff, List.replicate_succ, List.replicate_zero, List.cons_append, List.nil_append, List.getElem?_cons_zero, List.getElem?_cons_succ, List.set_cons_zero, List.set_cons_succ, List.length_cons, List.length_nil, List.map_cons, List.map_nil, List.contains_nil, List.contains_cons, Option.map_some, Option.bind_some, decide_eq_true_eq, decide_eq_false_iff_not, decide_true, decide_false, Bool.not_true, Bool.not_false, Bool.and_true, Bool.true_and, Bool.and_false, Bool.false_and, Bool.or_false, Bool.false_or, Bool.or_true, Bool.true_or, Bool.not_eq_true', Bool.not_eq_false', Bool.false_eq_true, Bool.true_eq_false, reduceCtorEq, true_implies, false_implies, forall_const, not_true_eq_false, not_false_eq_true, and_true, true_and, and_self, if_true, if_false, ite_true, ite_false, eq_self]
      refine FW_inv (fun i δ => ∃ x2 x3 x4, δ = [some (0, d), x2, x3, x4, some (0, .tup [.str "answer", .int ((arr 0 l : Nat) : Int)]), some (0, .int ((arr 0 l * pf (l.take i) : Nat) : Int))]) (k := 0) ⟨_, _, _, by rw [List.take_zero, show pf [] = 1 from rfl, Nat.mul_one]⟩ ?_ ?_
      · rintro i dd δ hdd ⟨x2, x3, x4, rfl⟩
        rw [Nat.zero_add] at *
        rw [el, List.map_map, List.getElem?_map] at hdd
        cases qk : l[i]? with
        | none => rw [qk] at hdd; cases hdd
        | some y =>
          rw [qk] at hdd
          cases hdd
          refine ⟨_, rfl, ?_⟩
          have hy : y ≤ l.sum := le_sum_of (List.mem_of_getElem? qk)
          have hb : arr 0 l * pf (l.take i) ≤ 2 ^ 20000 := by
            refine Nat.le_trans ?_ big
            rw [← tot, ← pf_drop l i, ← Nat.mul_assoc]
            exact Nat.le_mul_of_pos_right _ (pf_pos _)
          show LZ _ [some (0, d), x2, some (0, .int ((y : Nat) : Int)), x4, some (0, .tup [.str "answer", .int ((arr 0 l : Nat) : Int)]), some (0, .int ((arr 0 l * pf (l.take i) : Nat) : Int))] _ _ _ _ _ _
          walk_at "st"
          have y0 : (0 : Int) ≤ (y : Int) := Int.natCast_nonneg y
          have y1 : y ≤ 1000 := Nat.le_trans hy h
          have y2 : (y : Int) ≤ 1000 := Int.ofNat_le.mpr y1
          refine fact_ok y0 y2 ?_
          walk_at "ev"
          refine ⟨bg_mul (bg_nat hb) (fct_bgn (by rw [Int.toNat_natCast]; exact y1)), x2, some (0, .int ((y : Nat) : Int)), x4, ?_⟩
          rw [Int.toNat_natCast, ← Int.natCast_mul, pf_take l i y qk, ← Nat.mul_assoc]
      · rintro δ ⟨x2, x3, x4, rfl⟩
        refine ⟨x2, x3, x4, ?_⟩
        rw [Nat.zero_add, el, List.length_map, List.length_map, List.take_of_length_le (Nat.le_refl _), tot]
    rintro δ1 ⟨x2, x3, x4, rfl⟩
    (refine LZ_in ?_; simp only [hr.sum, RW_ok, RW_exc, RW_stuck, RW_C, RW_var, RW_bin, RW_un, RW_vB, RW_T, RW_bAnd, RW_bOr, RW_bNot, RW_eAnd, RW_eOr, RW_eNot, RW_eIf, RW_aNil, RW_aCons, RW_gFz, RW_gDis, RW_eCall, RW_gCall, RW_fn1, RW_fn2, RW_fnL, dr_fz, dr_sl, frz_fz, frz_sl, frzs_nil, frzs_cons, RW_add, RW_sub, RW_lt, RW_le, RW_gt, RW_ge, RW_neg, RW_mul, RW_div, RW_mod, RW_pow, RW_eq0, RW_eq1, eqD_ii, eqD_ss, eqD_bb, Int.cast_ofNat_Int, RW_in, RW_is, RW_ix, getD_lst, getD_tup, atI_0, atI_1, atI_2, atI_3, atI_4, atI_5, RW_eFn, RW_gFn, RW_call, FW_nx, FW_nil, FW_break, FW_cont, FW_seq, FW_if, FW_expr, FW_ret, FW_retG, FW_retN, FW_put, FW_asg, FW_asgG, FW_asgT, FW_par, FW_sub, FW_store, FW_aug, FW_raise, FW_try, keepP, RW_rng1, RW_rng2, rng1_int, RW_seq, startD_eq, startA, setT_nm, setT_tp, setN_nil, setN_cons, bindA, argD, pairsA, putM, ndup, mutsD, mutIdx, intD, absD, lenD, tupD, max2D, min2D, szl, items_lst, items_tup, RW_comp, RW_yes, wipeD, RW_addL, RW_addT, RW_addS, RW_iadd, RW_gCat, RW_gRep, RW_gRev, RW_zip, RW_enum, stF, RW_oN, RW_oS, RW_sl, RW_mut, RW_mutF, isOwn, lm_app, ixN_l0, ixN_l1, ixN_l2, ixN_l3, ixN_l4, ixN_l5, List.reverse_cons, List.reverse_nil, List.getElem?_nil, Nat.reduceAdd, Nat.reduceLeDiff, Nat.reduceLT, Int.reduceLT, Int.reduceLE, Int.reduceAdd, Int.reduceSub, Int.reduceMul, Int.reduceNeg, Int.reduceEq, Int.reduceToNat, Nat.reduceEqDiff, List.replicate_succ, List.replicate_zero, List.cons_append, List.nil_append, List.getElem?_cons_zero, List.getElem?_cons_succ, List.set_cons_zero, List.set_cons_succ, List.length_cons, List.length_nil, List.map_cons, List.map_nil, List.contains_nil, List.contains_cons, Option.map_some, Option.bind_some, decide_eq_true_eq, decide_eq_false_iff_not, decide_true, decide_false, Bool.not_true, Bool.not_false, Bool.and_true, Bool.true_and, Bool.and_false, Bool.false_and, Bool.or_false, Bool.false_or, Bool.or_true, Bool.true_or, Bool.not_eq_true', Bool.not_eq_false', Bool.false_eq_true, Bool.true_eq_false, reduceCtorEq, true_implies, false_implies, forall_const, not_true_eq_false, not_false_eq_true, and_true, true_and, and_self, if_true, if_false, ite_true, ite_false, eq_self])
    refine fact_ok s0 s1 ?_
    walk_at "ev"
    rw [hs, Int.toNat_natCast, decide_eq_true rfl]
    exact q
end
end LK

set_option Elab.async false
set_option linter.all false
set_option maxRecDepth 10000
set_option exponentiation.threshold 40000
namespace LK
open PySem L2 DL Comb
section
variable {Q G : D → List D → Prop} {E : Str → List Str → List D → List D → Prop}
theorem cut_int {ns : List Int} {lo hi : Option Int} : ∃ ms : List Int, cutD (ns.map D.int) lo hi = ms.map D.int ∧ ms.length ≤ ns.length := by
  unfold cutD
  rw [← List.map_drop, ← List.map_take]
  exact ⟨_, rfl, by rw [List.length_take, List.length_drop]; omega⟩
theorem slice_int {ns : List Int} {lo hi : Option Int} : ∃ ms : List Int, sliceD (.lst (ns.map D.int)) lo hi = some (.lst (ms.map D.int)) ∧ ms.length ≤ ns.length := by
  obtain ⟨ms, e, h⟩ := cut_int (ns := ns) (lo := lo) (hi := hi)
  exact ⟨ms, by show some (D.lst (cutD _ _ _)) = _; rw [e], h⟩
theorem counts_spec {s : Sto} {n : Int} (I : Inv n s) (hn : n ≤ 700000) (k : ∀ (ns : List Int) s', Inv (n + 30) s' → Q (.lst (ns.map D.int)) [stD s']) : MW (m_law_counts [stD s]) Q G E := by
  refine MW_run (t := t_law_counts) ?_
  delta t_law_counts
  walk_at "st"
  refine take_spec I (by omega) (by omega) (by omega) fun kind s1 I1 a0 a1 => ?_
  walk_at "ev"
  -- the row
  refine LZ_cut (J := fun δ => ∃ (s2 : Sto) (ns : List Int), δ = [some (1, stD s2), some (0, .int kind), some (0, .lst (ns.map D.int)), none, none, none, none, none] ∧ Inv (n + 10) s2 ∧ ns.length ≤ 7) ?_ ?_
  · walk_at "st"
    refine take_spec I1 (by omega) (by omega) (by omega) fun m s2 I2 m0 m1 => ?_
    walk_at "ev"
    rw [if_pos (by unfold smallI; rw [Bool.and_eq_true]; exact ⟨decide_eq_true (by omega), decide_eq_true (by omega)⟩)]
    dsimp only
    refine comp_inv (fun i acc δ => ∃ (s3 : Sto) (ns : List Int), δ = [some (1, stD s3), some (0, .int kind), none, none, none, none, none, none] ∧ Inv (n + 2 + i) s3 ∧ acc = ns.map D.int ∧ ns.length = i) (k := 0) ⟨s2, [], rfl, I2.mono (by omega), rfl, rfl⟩ ?_ ?_
    · rintro i d acc δ hd ⟨s3, ns, rfl, I3, rfl, hl⟩
      rw [Nat.zero_add] at *
      obtain ⟨rfl, hi⟩ := rangeD_at hd
      refine ⟨_, rfl, ?_⟩
      walk_at "ev"
      refine take_spec I3 (by omega) (by omega) (by omega) fun x s4 I4 x0 x1 => ?_
      walk_at "ev"
      refine ⟨by rw [List.length_map]; omega, s4, ns ++ [x], rfl, I4.mono (by omega), by rw [List.map_append]; rfl, by rw [List.length_append]; simp [hl]⟩
    · rintro acc δ ⟨s3, ns, rfl, I3, rfl, hl⟩
      rw [rangeD_len] at I3 hl
      walk_at "ev"
      exact ⟨s3, ns, rfl, I3.mono (by omega), by omega⟩
  rintro δ1 ⟨s2, ns, rfl, I2, hl⟩
  refine LZ_cut (J := fun δ => ∃ (s2 : Sto) (ns : List Int), δ = [some (1, stD s2), some (0, .int kind), some (0, .lst (ns.map D.int)), none, none, none, none, none] ∧ Inv (n + 17) s2 ∧ ns.length ≤ 1000) ?_ ?_
  · walk_at "st"
    refine ⟨fun h => ?_, fun h => ?_⟩
    · walk_at "st"
      rw [if_pos (by decide)]
      dsimp only
      refine comp_inv (fun i acc δ => ∃ (s3 : Sto) (ms : List Int), δ = [some (1, stD s3), some (0, .int kind), some (0, .lst (ns.map D.int)), none, none, none, none, none] ∧ Inv (n + 10 + i) s3 ∧ acc = ms.map D.int ∧ ms.length = i) (k := 0) ⟨s2, [], rfl, I2.mono (by omega), rfl, rfl⟩ ?_ ?_
      · rintro i d acc δ hd ⟨s3, ms, rfl, I3, rfl, hl⟩
        rw [Nat.zero_add] at *
        obtain ⟨rfl, hi⟩ := rangeD_at hd
        refine ⟨_, rfl, ?_⟩
        walk_at "ev"
        refine take_spec I3 (by omega) (by omega) (by omega) fun x s4 I4 x0 x1 => ?_
        walk_at "ev"
        refine ⟨by rw [List.length_map]; omega, s4, ms ++ [x], rfl, I4.mono (by omega), by rw [List.map_append]; rfl, by rw [List.length_append]; simp [hl]⟩
      · rintro acc δ ⟨s3, ms, rfl, I3, rfl, hl⟩
        rw [rangeD_len] at I3 hl
        walk_at "ev"
        have hl : ms.length = 6 := hl
        refine ⟨⟨by decide, by rw [List.length_map, hl]; decide⟩, ?_⟩
        refine ⟨?_, s3, (List.replicate 166 ms).flatten ++ [0, 1, 1, 0], ?_, I3.mono (by omega), ?_⟩
        · simp [hl]
        · rw [List.map_append, List.map_flatten, List.map_replicate]
          rfl
        · simp [hl]
    · walk_at "st"
      exact ⟨s2, ns, rfl, I2.mono (by omega), by omega⟩
  clear I2 hl
  rintro δ1 ⟨s2, ns, rfl, I2, hl⟩
  refine LZ_cut (J := fun δ => ∃ (s2 : Sto) (ns : List Int) (x4 x5 : Option (Nat × D)), δ = [some (1, stD s2), some (0, .int kind), some (0, .lst (ns.map D.int)), none, x4, x5, none, none] ∧ Inv (n + 20) s2 ∧ ns.length ≤ 1000) ?_ ?_
  · walk_at "st"
    have go : LZ (sSeq (sAsg 4 (eFn [true, false] m_law_take (aCons (eVar 0) (aCons (eC (.int 1000)) aNil))))
    (sSeq (sAsg 5 (eFn [true, false] m_law_take (aCons (eVar 0) (aCons (eBin opSub (eC (.int 1000)) (eVar 4)) aNil))))
    (sAsg 2 (gFz (gDis .lst (aCons (eVar 4) (aCons (eBin opSub (eBin opSub (eBin opAdd (eC (.int 999)) (eFn [true, false] m_law_take (aCons (eVar 0) (aCons (eC (.int 3)) aNil)))) (eVar 4)) (eVar 5)) (aCons (eVar 5) aNil)))))))) [some (1, stD s2), some (0, .int kind), some (0, .lst (ns.map D.int)), none, none, none, none, none]
      (fun δ => ∃ (s2 : Sto) (ns : List Int) (x4 x5 : Option (Nat × D)), δ = [some (1, stD s2), some (0, .int kind), some (0, .lst (ns.map D.int)), none, x4, x5, none, none] ∧ Inv (n + 20) s2 ∧ ns.length ≤ 1000)
      (fun x δ => match frz δ x with
        | some (d, δ1) => (match mutsD δ1 (mutIdx 0 [true]) with
          | some ms => Q d ms
          | none => False)
        | none => False) (fun d δ => match mutsD δ (mutIdx 0 [true]) with
        | some ms => G d ms
        | none => False) (fun _ => False) (fun _ => False) (fun c ns es δ => match mutsD δ (mutIdx 0 [true]) with
        | some ms => E c ns es ms
        | none => False) := by
      walk_at "st"
      refine take_spec I2 (by omega) (by omega) (by omega) fun x s3 I3 x0 x1 => ?_
      walk_at "ev"
      walk_at "st"
      refine take_spec I3 (by omega) (by omega) (by omega) fun y s4 I4 y0 y1 => ?_
      walk_at "ev"
      walk_at "st"
      refine take_spec I4 (by omega) (by omega) (by omega) fun z s5 I5 z0 z1 => ?_
      walk_at "ev"
      exact ⟨s5, [x, 999 + z - x - y, y], _, _, rfl, I5.mono (by omega), by simp⟩
    refine ⟨fun h => ?_, fun h => ⟨fun h2 => ?_, fun h2 => ?_⟩⟩
    · exact go
    · exact go
    · walk_at "st"
      exact ⟨s2, ns, _, _, rfl, I2.mono (by omega), hl⟩
  clear I2 hl
  rintro δ1 ⟨s2, ns, x4, x5, rfl, I2, hl⟩
  refine LZ_cut (J := fun δ => ∃ (s2 : Sto) (ns : List Int) (x6 x7 : Option (Nat × D)), δ = [some (1, stD s2), some (0, .int kind), some (0, .lst (ns.map D.int)), none, x4, x5, x6, x7] ∧ Inv (n + 30) s2 ∧ ns.length ≤ 2001) ?_ ?_
  · walk_at "st"
    refine ⟨fun h => ?_, fun h => ?_⟩
    · walk_at "st"
      refine take_spec I2 (by omega) (by omega) (by rw [List.length_map]; omega) fun x s3 I3 x0 x1 => ?_
      walk_at "ev"
      walk_at "st"
      refine number_spec I3 (by omega) (by omega) (by omega) fun y s4 I4 y0 y1 => ?_
      walk_at "ev"
      refine number_spec I4 (by omega) (by omega) (by omega) fun z s5 I5 z0 z1 => ?_
      walk_at "ev"
      refine pick_spec I5 (by omega) (by simp) (by simp) fun i d s6 hd I6 => ?_
      obtain ⟨v, rfl⟩ : ∃ v, d = D.int v := by
        match i, hd with
        | 0, hd => exact ⟨_, (Option.some.inj hd).symm⟩
        | 1, hd => exact ⟨_, (Option.some.inj hd).symm⟩
        | 2, hd => exact ⟨_, (Option.some.inj hd).symm⟩
        | 3, hd => exact ⟨_, (Option.some.inj hd).symm⟩
      walk_at "ev"
      obtain ⟨m1, e1, l1⟩ := slice_int (ns := ns) (lo := none) (hi := some x)
      obtain ⟨m2, e2, l2⟩ := slice_int (ns := ns) (lo := some x) (hi := none)
      (refine LZ_in ?_; simp only [e1, e2, RW_ok, RW_exc, RW_stuck, RW_C, RW_var, RW_bin, RW_un, RW_vB, RW_T, RW_bAnd, RW_bOr, RW_bNot, RW_eAnd, RW_eOr, RW_eNot, RW_eIf, RW_aNil, RW_aCons, RW_gFz, RW_gDis, RW_eCall, RW_gCall, RW_fn1, RW_fn2, RW_fnL, dr_fz, dr_sl, frz_fz, frz_sl, frzs_nil, frzs_cons, RW_add, RW_sub, RW_lt, RW_le, RW_gt, RW_ge, RW_neg, RW_mul, RW_div, RW_mod, RW_pow, RW_eq0, RW_eq1, eqD_ii, eqD_ss, eqD_bb, Int.cast_ofNat_Int, RW_in, RW_is, RW_ix, getD_lst, getD_tup, atI_0, atI_1, atI_2, atI_3, atI_4, atI_5, RW_eFn, RW_gFn, RW_call, FW_nx, FW_nil, FW_break, FW_cont, FW_seq, FW_if, FW_expr, FW_ret, FW_retG, FW_retN, FW_put, FW_asg, FW_asgG, FW_asgT, FW_par, FW_sub, FW_store, FW_aug, FW_raise, FW_try, keepP, RW_rng1, RW_rng2, rng1_int, RW_seq, startD_eq, startA, setT_nm, setT_tp, setN_nil, setN_cons, bindA, argD, pairsA, putM, ndup, mutsD, mutIdx, intD, absD, lenD, tupD, max2D, min2D, szl, items_lst, items_tup, RW_comp, RW_yes, wipeD, RW_addL, RW_addT, RW_addS, RW_iadd, RW_gCat, RW_gRep, RW_gRev, RW_zip, RW_enum, stF, RW_oN, RW_oS, RW_sl, RW_mut, RW_mutF, isOwn, lm_app, ixN_l0, ixN_l1, ixN_l2, ixN_l3, ixN_l4, ixN_l5, List.reverse_cons, List.reverse_nil, List.getElem?_nil, Nat.reduceAdd, Nat.reduceLeDiff, Nat.reduceLT, Int.reduceLT, Int.reduceLE, Int.reduceAdd, Int.reduceSub, Int.reduceMul, Int.reduceNeg, Int.reduceEq, Int.reduceToNat, Nat.reduceEqDiff, List.replicate_succ, List.replicate_zero, List.cons_append, List.nil_append, List.getElem?_cons_zero, List.getElem?_cons_succ, List.set_cons_zero, List.set_cons_succ, List.length_cons, List.length_nil, List.map_cons, List.map_nil, List.contains_nil, List.contains_cons, Option.map_some, Option.bind_some, decide_eq_true_eq, decide_eq_false_iff_not, decide_true, decide_false, Bool.not_true, Bool.not_false, Bool.and_true, Bool.true_and, Bool.and_false, Bool.false_and, Bool.or_false, Bool.false_or, Bool.or_true, Bool.true_or, Bool.not_eq_true', Bool.not_eq_false', Bool.false_eq_true, Bool.true_eq_false, reduceCtorEq, true_implies, false_implies, forall_const, not_true_eq_false, not_false_eq_true, and_true, true_and, and_self, if_true, if_false, ite_true, ite_false, eq_self])
      refine ⟨by rw [List.length_map]; omega, by rw [List.length_append, List.length_map, List.length_map]; simp only [List.length_cons, List.length_nil]; omega, s6, m1 ++ [v] ++ m2, some (0, .int x), some (0, .int v), ?_, I6.mono (by omega), ?_⟩
      · rw [List.map_append, List.map_append]; rfl
      · rw [List.length_append, List.length_append]; simp only [List.length_cons, List.length_nil]; omega
    · walk_at "st"
      exact ⟨s2, ns, _, _, rfl, I2.mono (by omega), by omega⟩
  clear I2 hl
  rintro δ1 ⟨s2, ns, x6, x7, rfl, I2, hl⟩
  refine LZ_cut (J := fun δ => ∃ (ns : List Int), δ = [some (1, stD s2), some (0, .int kind), some (0, .lst (ns.map D.int)), none, x4, x5, x6, x7]) ?_ ?_
  · walk_at "st"
    refine ⟨fun h => ?_, fun h => ?_⟩
    · walk_at "st"
      refine ⟨by rw [List.length_map]; omega, ns ++ [1001], ?_⟩
      rw [List.map_append]; rfl
    · walk_at "st"
      exact ⟨ns, rfl⟩
  rintro δ1 ⟨ns, rfl⟩
  walk_at "st"
  exact k _ _ I2
end
end LK

set_option Elab.async false
set_option linter.all false
set_option maxRecDepth 10000
set_option exponentiation.threshold 40000
namespace LK
open PySem L2 DL Comb
theorem same_c0 : m_law_same [.tup [.int 1], .tup [.int 1]] = .ok (.bl true) [] := by kernel_rfl
theorem cyc_0 : m_cycle_counts [.int 0] = .ok (.tup [.int 1]) [] := by kernel_rfl
theorem pure_law (ns : List Int) (hl : ns.length ≤ 63) : m_law [.scr ns] = .ok (.bl true) [] := by
  refine MW_eq ?_
  refine MW_run (t := t_law) ?_
  delta t_law
  walk_at "st"
  refine MW_noG ?_
  refine store_spec hl fun s I => ?_
  walk_at "ev"
  refine LZ_cut (J := fun δ => ∃ s2 x2, δ = [some (0, .scr ns), some (1, stD s2), x2, none] ∧ Inv 1000 s2) ?_ ?_
  · refine LZ_in ?_
    rw [FW_for]
    walk_at "ev"
    rw [if_pos (by decide)]
    dsimp only
    refine FW_inv (fun i δ => ∃ s2 x2, δ = [some (0, .scr ns), some (1, stD s2), x2, none] ∧ Inv (100 * i) s2) (k := 0) ⟨_, _, rfl, I.mono (by omega)⟩ ?_ ?_
    · rintro i d δ hd ⟨s2, x2, rfl, I2⟩
      rw [Nat.zero_add] at *
      obtain ⟨rfl, hi⟩ := rangeD_at hd
      refine ⟨_, rfl, ?_⟩
      walk_at "st"
      refine ways_met_spec I2 (by omega) fun s3 I3 => ?_
      walk_at "ev"
      walk_at "st"
      exact ⟨_, _, rfl, I3.mono (by omega)⟩
    · rintro δ ⟨s2, x2, rfl, I2⟩
      rw [rangeD_len] at I2
      exact ⟨_, _, rfl, I2.mono (by omega)⟩
  rintro δ1 ⟨s2, x2, rfl, I2⟩
  walk_at "st"
  refine signed_spec I2 (by omega) (by omega) (by omega) fun v s3 I3 => ?_
  walk_at "ev"
  walk_at "st"
  refine far_met_spec I3 (by omega) (.inl ⟨rfl, rfl, rfl⟩) fun s4 I4 => ?_
  walk_at "ev"
  refine far_met_spec I4 (by omega) (.inr ⟨rfl, rfl, rfl⟩) fun s5 I5 => ?_
  walk_at "ev"
  walk_at "st"
  walk_at "st"
  refine cycles_met_spec I5 (by omega) fun s6 I6 => ?_
  walk_at "ev"
  refine MW_ok cyc_0 ?_
  walk_at "ev"
  refine MW_ok same_c0 ?_
  walk_at "ev"
  walk_at "st"
  refine LZ_cut (J := fun δ => ∃ x1 x2, δ = [some (0, .scr ns), x1, x2, some (0, .int v)]) ?_ ?_
  · refine LZ_in ?_
    rw [FW_for]
    walk_at "ev"
    rw [if_pos (by decide)]
    dsimp only
    refine FW_inv (fun i δ => ∃ s2 x2, δ = [some (0, .scr ns), some (1, stD s2), x2, some (0, .int v)] ∧ Inv (2000 + 100 * i) s2) (k := 0) ⟨_, _, rfl, I6.mono (by omega)⟩ ?_ ?_
    · rintro i d δ hd ⟨s2, x2, rfl, I2⟩
      rw [Nat.zero_add] at *
      obtain ⟨rfl, hi⟩ := rangeD_at hd
      refine ⟨_, rfl, ?_⟩
      walk_at "st"
      refine counts_spec I2 (by omega) fun ms s3 I3 => ?_
      walk_at "ev"
      refine arrmet_spec (.inl rfl) ?_
      walk_at "ev"
      walk_at "st"
      exact ⟨_, _, rfl, I3.mono (by omega)⟩
    · rintro δ ⟨s2, x2, rfl, I2⟩
      exact ⟨_, _, rfl⟩
  rintro δ1 ⟨x1, x2, rfl⟩
  walk_at "st"
  refine arrmet_spec (ns := []) (.inl rfl) ?_
  walk_at "ev"
  refine arrmet_spec (ns := [3, 0, 2]) (.inr rfl) ?_
  walk_at "ev"
  refine ways_ok (n := 1000) (k := 3) (by decide) (by decide) ?_
  have f : ∀ {Q G : D → List D → Prop} {E : Str → List Str → List D → List D → Prop}, Q (.bl true) [] → MW (m_law_is_ways [.int (wI (1000 : Int).toNat 3), .int 1000, .int 3]) Q G E := fun q => isways_ok (n := 1000) (k := 3) (by decide) (by decide) q
  generalize wI (1000 : Int).toNat 3 = W at f ⊢
  walk_at "ev"
  refine f ?_
  walk_at "ev"
end LK

set_option Elab.async false
set_option linter.all false
set_option maxRecDepth 100000
set_option maxHeartbeats 0
namespace LK
open PySem PySem.Spec PyProof.Rows L2 DL
abbrev RR : PySem.W.OpenRow := PySem.W.OpenLaw.row PySem.Challenge.rw_lastslips_k03_ways_and_arrangements
def meth0 (s : Stmt) : Stmt := match s with
  | .ClassDef _ _ _ b .. => b.getD 0 (.Pass ⟨0, 0, 0, 0⟩)
  | _ => .Pass ⟨0, 0, 0, 0⟩
def d_ways : He.DefD := ⟨("ways", none), "ways", "ways", defArgs st_ways, defBody st_ways, defScope st_ways, [], []⟩
def d_arrangements : He.DefD := ⟨("arrangements", none), "arrangements", "arrangements", defArgs st_arrangements, defBody st_arrangements, defScope st_arrangements, [], []⟩
def d_cycle_counts : He.DefD := ⟨("cycle_counts", none), "cycle_counts", "cycle_counts", defArgs st_cycle_counts, defBody st_cycle_counts, defScope st_cycle_counts, [], []⟩
def d_law_mix : He.DefD := ⟨("_law_mix", none), "_law_mix", "_law_mix", defArgs st_law_mix, defBody st_law_mix, defScope st_law_mix, [], []⟩
def d_law_store : He.DefD := ⟨("_law_store", none), "_law_store", "_law_store", defArgs st_law_store, defBody st_law_store, defScope st_law_store, [], []⟩
def d_law_take : He.DefD := ⟨("_law_take", none), "_law_take", "_law_take", defArgs st_law_take, defBody st_law_take, defScope st_law_take, [], []⟩
def d_law_between : He.DefD := ⟨("_law_between", none), "_law_between", "_law_between", defArgs st_law_between, defBody st_law_between, defScope st_law_between, [], []⟩
def d_law_pick : He.DefD := ⟨("_law_pick", none), "_law_pick", "_law_pick", defArgs st_law_pick, defBody st_law_pick, defScope st_law_pick, [], []⟩
def d_law_edge : He.DefD := ⟨("_law_edge", none), "_law_edge", "_law_edge", defArgs st_law_edge, defBody st_law_edge, defScope st_law_edge, [], []⟩
def d_law_number : He.DefD := ⟨("_law_number", none), "_law_number", "_law_number", defArgs st_law_number, defBody st_law_number, defScope st_law_number, [], []⟩
def d_law_signed : He.DefD := ⟨("_law_signed", none), "_law_signed", "_law_signed", defArgs st_law_signed, defBody st_law_signed, defScope st_law_signed, [], []⟩
def d_law_index : He.DefD := ⟨("_law_index", none), "_law_index", "_law_index", defArgs st_law_index, defBody st_law_index, defScope st_law_index, [], []⟩
def d_law_is_int : He.DefD := ⟨("_law_is_int", none), "_law_is_int", "_law_is_int", defArgs st_law_is_int, defBody st_law_is_int, defScope st_law_is_int, [], []⟩
def d_law_same : He.DefD := ⟨("_law_same", none), "_law_same", "_law_same", defArgs st_law_same, defBody st_law_same, defScope st_law_same, [], []⟩
def d_law_same_leaf : He.DefD := ⟨("_law_same_leaf", none), "_law_same_leaf", "_law_same_leaf", defArgs st_law_same_leaf, defBody st_law_same_leaf, defScope st_law_same_leaf, [], []⟩
def d_law_refusal : He.DefD := ⟨("_law_refusal", none), "_law_refusal", "_law_refusal", defArgs st_law_refusal, defBody st_law_refusal, defScope st_law_refusal, [], []⟩
def d_law_refusal_one : He.DefD := ⟨("_law_refusal_one", none), "_law_refusal_one", "_law_refusal_one", defArgs st_law_refusal_one, defBody st_law_refusal_one, defScope st_law_refusal_one, [], []⟩
def d_law_refusal_two : He.DefD := ⟨("_law_refusal_two", none), "_law_refusal_two", "_law_refusal_two", defArgs st_law_refusal_two, defBody st_law_refusal_two, defScope st_law_refusal_two, [], []⟩
def d_law_ask : He.DefD := ⟨("_law_ask", none), "_law_ask", "_law_ask", defArgs st_law_ask, defBody st_law_ask, defScope st_law_ask, [], []⟩
def d_law_factorial : He.DefD := ⟨("_law_factorial", none), "_law_factorial", "_law_factorial", defArgs st_law_factorial, defBody st_law_factorial, defScope st_law_factorial, [], []⟩
def d_law_is_ways : He.DefD := ⟨("_law_is_ways", none), "_law_is_ways", "_law_is_ways", defArgs st_law_is_ways, defBody st_law_is_ways, defScope st_law_is_ways, [], []⟩
def d_law_ways_met : He.DefD := ⟨("_law_ways_met", none), "_law_ways_met", "_law_ways_met", defArgs st_law_ways_met, defBody st_law_ways_met, defScope st_law_ways_met, [], []⟩
def d_law_far : He.DefD := ⟨("_law_far", none), "_law_far", "_law_far", defArgs st_law_far, defBody st_law_far, defScope st_law_far, [], []⟩
def d_law_far_met : He.DefD := ⟨("_law_far_met", none), "_law_far_met", "_law_far_met", defArgs st_law_far_met, defBody st_law_far_met, defScope st_law_far_met, [], []⟩
def d_law_is_cycles : He.DefD := ⟨("_law_is_cycles", none), "_law_is_cycles", "_law_is_cycles", defArgs st_law_is_cycles, defBody st_law_is_cycles, defScope st_law_is_cycles, [], []⟩
def d_law_cycles_met : He.DefD := ⟨("_law_cycles_met", none), "_law_cycles_met", "_law_cycles_met", defArgs st_law_cycles_met, defBody st_law_cycles_met, defScope st_law_cycles_met, [], []⟩
def d_law_counts : He.DefD := ⟨("_law_counts", none), "_law_counts", "_law_counts", defArgs st_law_counts, defBody st_law_counts, defScope st_law_counts, [], []⟩
def d_law_arrangements_met : He.DefD := ⟨("_law_arrangements_met", none), "_law_arrangements_met", "_law_arrangements_met", defArgs st_law_arrangements_met, defBody st_law_arrangements_met, defScope st_law_arrangements_met, [], []⟩
def d_law : He.DefD := ⟨("law", none), "law", "law", defArgs st_law, defBody st_law, defScope st_law, [], []⟩
abbrev si_BadNumber : Stmt := meth0 (top 6)
def d_BadNumber : He.DefD := ⟨("BadNumber", some "__init__"), "__init__", "BadNumber.__init__", defArgs si_BadNumber, defBody si_BadNumber, defScope si_BadNumber, [], []⟩
abbrev si_TooMany : Stmt := meth0 (top 7)
def d_TooMany : He.DefD := ⟨("TooMany", some "__init__"), "__init__", "TooMany.__init__", defArgs si_TooMany, defBody si_TooMany, defScope si_TooMany, [], []⟩
def fns : List He.DefD := [d_ways, d_arrangements, d_cycle_counts, d_law_mix, d_law_store, d_law_take, d_law_between, d_law_pick, d_law_edge, d_law_number, d_law_signed, d_law_index, d_law_is_int, d_law_same, d_law_same_leaf, d_law_refusal, d_law_refusal_one, d_law_refusal_two, d_law_ask, d_law_factorial, d_law_is_ways, d_law_ways_met, d_law_far, d_law_far_met, d_law_is_cycles, d_law_cycles_met, d_law_counts, d_law_arrangements_met, d_law, d_BadNumber, d_TooMany]
def fas : List He.Fa := [.glo "ways", .glo "arrangements", .glo "cycle_counts", .glo "_law_mix", .glo "_law_store", .glo "_law_take", .glo "_law_between", .glo "_law_pick", .glo "_law_edge", .glo "_law_number", .glo "_law_signed", .glo "_law_index", .glo "_law_is_int", .glo "_law_same", .glo "_law_same_leaf", .glo "_law_refusal", .glo "_law_refusal_one", .glo "_law_refusal_two", .glo "_law_ask", .glo "_law_factorial", .glo "_law_is_ways", .glo "_law_ways_met", .glo "_law_far", .glo "_law_far_met", .glo "_law_is_cycles", .glo "_law_cycles_met", .glo "_law_counts", .glo "_law_arrangements_met", .glo "law", .glo "BadCard", .glo "BadNumber", .glo "BadPlace", .glo "BadStation", .glo "BadText", .glo "Blocked", .glo "Doubled", .glo "Empty", .glo "LeftOver", .glo "Malformed", .glo "Missing", .glo "NoPlan", .glo "NotEnd", .glo "NotLocal", .glo "NotPack", .glo "NotTrail", .glo "NothingBack", .glo "Opened", .glo "Refused", .glo "Stuck", .glo "TooMany", .glo "Unframed", .glo "Unknown", .glo "Unlike", .glo "Unnamed", .free "ValueError", .free "abs", .free "bool", .free "int", .free "isinstance", .free "len", .free "list", .free "min", .free "range", .free "str", .free "sum", .free "tuple", .free "zip", .int "MOST_RINGS" 40, .int "MOST_THINGS" 1000, .exm "BadNumber" "Refused" true, .exm "TooMany" "Refused" true]
def rxs : List (Str × List Str) := [("BadNumber", ["what"]), ("TooMany", ["what", "limit"])]
def gts : List (Str × List D) := []
def exq (K : Frag) : Bool := rxs.all (rxB K) && (gts.all (gtB K) && (etB K "Refused" excAll raisedC excFields))
def loose0 : List PySem.Str := ["__name__", "Refused", "BadText", "Malformed", "BadStation", "BadPlace", "BadNumber", "TooMany", "Empty", "Unframed", "NotPack", "Unlike", "Stuck", "NothingBack", "LeftOver", "NotTrail", "Blocked", "Unnamed", "Opened", "Missing", "NotLocal", "NoPlan", "Doubled", "BadCard", "Unknown", "NotEnd", "MOST_THINGS", "MOST_RINGS", "ways", "arrangements"]
def loose1 : List PySem.Str := ["cycle_counts", "_law_mix", "_law_store", "_law_take", "_law_between", "_law_pick", "_law_edge", "_law_number", "_law_signed", "_law_index", "_law_is_int", "_law_same", "_law_same_leaf", "_law_refusal", "_law_refusal_one", "_law_refusal_two", "_law_ask", "_law_factorial", "_law_is_ways", "_law_ways_met", "_law_far", "_law_far_met", "_law_is_cycles", "_law_cycles_met", "_law_counts", "_law_arrangements_met"]
def loose : List PySem.Str := loose0 ++ loose1
abbrev hk : PySem.W.Hook := He.hookX 4 fas fns [] [] exq
def ob (s : PySem.W.SharedT) : He.AlX := He.obsX 4 fas fns [] [] exq (HandSHeadRun.getT s)
theorem ob_eq (s : PySem.W.SharedT) : ob s = hk.obs s.abs := He.obsX_eq (HandSHeadRun.getT_eq s)
abbrev qv : Program := PySem.W.view RR.prog [58]
theorem run (w : World) : HandSHeadRun.RunEq RR qv hk ob 12000 loose w := by
  intro os
  kernel_rfl
section
variable {P : Program} {w : World} {K : Frag} {mg : Str → Option Value} {h : Heap}
theorem txt_of (X : K.In h) (G : h.Ns mainGlobals mg) (c : He.SaysX fas fns [] [] exq w h K) : Txt K mg := by
  have d := He.SaysT.d c.t
  exact ⟨He.free_ok X G (d.fact 54 (f := .free "ValueError") rfl),
    He.free_ok X G (d.fact 55 (f := .free "abs") rfl),
    He.free_ok X G (d.fact 56 (f := .free "bool") rfl),
    He.free_ok X G (d.fact 57 (f := .free "int") rfl),
    He.free_ok X G (d.fact 58 (f := .free "isinstance") rfl),
    He.free_ok X G (d.fact 59 (f := .free "len") rfl),
    He.free_ok X G (d.fact 60 (f := .free "list") rfl),
    He.free_ok X G (d.fact 61 (f := .free "min") rfl),
    He.free_ok X G (d.fact 62 (f := .free "range") rfl),
    He.free_ok X G (d.fact 63 (f := .free "str") rfl),
    He.free_ok X G (d.fact 64 (f := .free "sum") rfl),
    He.free_ok X G (d.fact 65 (f := .free "tuple") rfl),
    He.free_ok X G (d.fact 66 (f := .free "zip") rfl),
    He.glo_ok X G (d.fact 29 (f := .glo "BadCard") rfl),
    He.glo_ok X G (d.fact 30 (f := .glo "BadNumber") rfl),
    He.glo_ok X G (d.fact 31 (f := .glo "BadPlace") rfl),
    He.glo_ok X G (d.fact 32 (f := .glo "BadStation") rfl),
    He.glo_ok X G (d.fact 33 (f := .glo "BadText") rfl),
    He.glo_ok X G (d.fact 34 (f := .glo "Blocked") rfl),
    He.glo_ok X G (d.fact 35 (f := .glo "Doubled") rfl),
    He.glo_ok X G (d.fact 36 (f := .glo "Empty") rfl),
    He.glo_ok X G (d.fact 37 (f := .glo "LeftOver") rfl),
    He.int_ok X G (d.fact 67 (f := .int "MOST_RINGS" 40) rfl),
    He.int_ok X G (d.fact 68 (f := .int "MOST_THINGS" 1000) rfl),
    He.glo_ok X G (d.fact 38 (f := .glo "Malformed") rfl),
    He.glo_ok X G (d.fact 39 (f := .glo "Missing") rfl),
    He.glo_ok X G (d.fact 40 (f := .glo "NoPlan") rfl),
    He.glo_ok X G (d.fact 41 (f := .glo "NotEnd") rfl),
    He.glo_ok X G (d.fact 42 (f := .glo "NotLocal") rfl),
    He.glo_ok X G (d.fact 43 (f := .glo "NotPack") rfl),
    He.glo_ok X G (d.fact 44 (f := .glo "NotTrail") rfl),
    He.glo_ok X G (d.fact 45 (f := .glo "NothingBack") rfl),
    He.glo_ok X G (d.fact 46 (f := .glo "Opened") rfl),
    He.glo_ok X G (d.fact 47 (f := .glo "Refused") rfl),
    He.glo_ok X G (d.fact 48 (f := .glo "Stuck") rfl),
    He.glo_ok X G (d.fact 49 (f := .glo "TooMany") rfl),
    He.glo_ok X G (d.fact 50 (f := .glo "Unframed") rfl),
    He.glo_ok X G (d.fact 51 (f := .glo "Unknown") rfl),
    He.glo_ok X G (d.fact 52 (f := .glo "Unlike") rfl),
    He.glo_ok X G (d.fact 53 (f := .glo "Unnamed") rfl),
    (fun k hk => by
    simp only [raisedC, List.mem_cons, List.not_mem_nil, or_false] at hk
    rcases hk with rfl | rfl
    · exact of_decide_eq_true (d.fact 69 (f := .exm "BadNumber" "Refused" true) rfl)
    · exact of_decide_eq_true (d.fact 70 (f := .exm "TooMany" "Refused" true) rfl))⟩
theorem law_fn (X : K.In h) (G : h.Ns mainGlobals mg) (c : He.SaysX fas fns [] [] exq w h K) (base : Heap) {fd : FuncData} (F : FunD K "law" "law" (defArgs st_law) (defBody st_law) (defScope st_law) [] [] (He.ga K "law") fd) : FnOk P w K mg base (L2N.CX P w) 7 (He.ga K "law") fd ["script"] (spD K [false] m_law) := by
  have d := He.SaysT.d c.t
  have T := txt_of X G c
  have rq : rxs.all (rxB K) = true := by
    have z := c.more
    unfold exq at z
    exact (an z).1
  have XX_BadNumber : ExcF P w K mg base "BadNumber" ["what"] := rx1 (List.all_eq_true.mp rq ("BadNumber", ["what"]) (by simp [rxs])) (He.glo_ok X G (d.fact 30 (f := .glo "BadNumber") rfl)) (d.def_ 29 (d := d_BadNumber) rfl) ⟨rfl, rfl, rfl, by decide +kernel, rfl, by decide +kernel, by decide +kernel⟩ rfl (fun _ _ _ _ _ _ us hl => match us, hl with | [_, _], _ => rfl)
  have XX_TooMany : ExcF P w K mg base "TooMany" ["what", "limit"] := rx2 (List.all_eq_true.mp rq ("TooMany", ["what", "limit"]) (by simp [rxs])) (He.glo_ok X G (d.fact 49 (f := .glo "TooMany") rfl)) (d.def_ 30 (d := d_TooMany) rfl) ⟨rfl, rfl, rfl, by decide +kernel, rfl, by decide +kernel, by decide +kernel⟩ rfl (fun _ _ _ _ _ _ us hl => match us, hl with | [_, _, _], _ => rfl)
  have TX : ExcT K "Refused" excAll raisedC excFields := by
    have z := c.more
    unfold exq at z
    exact et_ok (an (an z).2).2
  have F_law_mix : Fn P w K mg base "_law_mix" 1 [] [false, false, false] m_law_mix := ok_law_mix T (d.def_ 3 (d := d_law_mix) rfl) (He.glo_ok X G (d.fact 3 (f := .glo "_law_mix") rfl))
  have F_law_is_int : Fn P w K mg base "_law_is_int" 1 [] [false] m_law_is_int := ok_law_is_int T (d.def_ 12 (d := d_law_is_int) rfl) (He.glo_ok X G (d.fact 12 (f := .glo "_law_is_int") rfl))
  have F_law_same_leaf : Fn P w K mg base "_law_same_leaf" 1 [] [false, false] m_law_same_leaf := ok_law_same_leaf T (d.def_ 14 (d := d_law_same_leaf) rfl) (He.glo_ok X G (d.fact 14 (f := .glo "_law_same_leaf") rfl))
  have E_law_refusal_one : FnE P w K mg base "_law_refusal_one" 1 [false] mE_law_refusal_one raisedC := okE_law_refusal_one T (d.def_ 16 (d := d_law_refusal_one) rfl) (He.glo_ok X G (d.fact 16 (f := .glo "_law_refusal_one") rfl)) TX
  have E_law_refusal_two : FnE P w K mg base "_law_refusal_two" 1 [false] mE_law_refusal_two raisedC := okE_law_refusal_two T (d.def_ 17 (d := d_law_refusal_two) rfl) (He.glo_ok X G (d.fact 17 (f := .glo "_law_refusal_two") rfl)) TX
  have F_law_factorial : Fn P w K mg base "_law_factorial" 1 [] [false] m_law_factorial := ok_law_factorial T (d.def_ 19 (d := d_law_factorial) rfl) (He.glo_ok X G (d.fact 19 (f := .glo "_law_factorial") rfl))
  have F_law_store : Fn P w K mg base "_law_store" 2 [] [false] m_law_store := ok_law_store T (d.def_ 4 (d := d_law_store) rfl) (He.glo_ok X G (d.fact 4 (f := .glo "_law_store") rfl)) F_law_mix
  have F_law_take : Fn P w K mg base "_law_take" 2 [] [true, false] m_law_take := ok_law_take T (d.def_ 5 (d := d_law_take) rfl) (He.glo_ok X G (d.fact 5 (f := .glo "_law_take") rfl)) F_law_mix
  have F_law_same : Fn P w K mg base "_law_same" 2 [] [false, false] m_law_same := ok_law_same T (d.def_ 13 (d := d_law_same) rfl) (He.glo_ok X G (d.fact 13 (f := .glo "_law_same") rfl)) F_law_same_leaf
  have E_law_refusal : FnE P w K mg base "_law_refusal" 2 [false] mE_law_refusal raisedC := okE_law_refusal T (d.def_ 15 (d := d_law_refusal) rfl) (He.glo_ok X G (d.fact 15 (f := .glo "_law_refusal") rfl)) E_law_refusal_one E_law_refusal_two TX
  have F_law_is_ways : Fn P w K mg base "_law_is_ways" 2 [] [false, false, false] m_law_is_ways := ok_law_is_ways T (d.def_ 20 (d := d_law_is_ways) rfl) (He.glo_ok X G (d.fact 20 (f := .glo "_law_is_ways") rfl)) F_law_is_int F_law_factorial
  have F_law_is_cycles : Fn P w K mg base "_law_is_cycles" 2 [] [false, false] m_law_is_cycles := ok_law_is_cycles T (d.def_ 24 (d := d_law_is_cycles) rfl) (He.glo_ok X G (d.fact 24 (f := .glo "_law_is_cycles") rfl)) F_law_is_int
  have F_ways : Fn P w K mg base "ways" 3 [] [false, false] m_ways := ok_ways T (d.def_ 0 (d := d_ways) rfl) (He.glo_ok X G (d.fact 0 (f := .glo "ways") rfl)) XX_BadNumber XX_TooMany
  have F_cycle_counts : Fn P w K mg base "cycle_counts" 3 [] [false] m_cycle_counts := ok_cycle_counts T (d.def_ 2 (d := d_cycle_counts) rfl) (He.glo_ok X G (d.fact 2 (f := .glo "cycle_counts") rfl)) XX_BadNumber XX_TooMany
  have F_law_between : Fn P w K mg base "_law_between" 3 [] [true, false, false] m_law_between := ok_law_between T (d.def_ 6 (d := d_law_between) rfl) (He.glo_ok X G (d.fact 6 (f := .glo "_law_between") rfl)) F_law_take
  have F_law_pick : Fn P w K mg base "_law_pick" 3 [] [true, false] m_law_pick := ok_law_pick T (d.def_ 7 (d := d_law_pick) rfl) (He.glo_ok X G (d.fact 7 (f := .glo "_law_pick") rfl)) F_law_take
  have F_law_number : Fn P w K mg base "_law_number" 3 [] [true, false] m_law_number := ok_law_number T (d.def_ 9 (d := d_law_number) rfl) (He.glo_ok X G (d.fact 9 (f := .glo "_law_number") rfl)) F_law_take
  have F_arrangements : Fn P w K mg base "arrangements" 4 [] [false] m_arrangements := ok_arrangements T (d.def_ 1 (d := d_arrangements) rfl) (He.glo_ok X G (d.fact 1 (f := .glo "arrangements") rfl)) F_ways XX_BadNumber XX_TooMany
  have F_law_edge : Fn P w K mg base "_law_edge" 4 [] [true, false, false] m_law_edge := ok_law_edge T (d.def_ 8 (d := d_law_edge) rfl) (He.glo_ok X G (d.fact 8 (f := .glo "_law_edge") rfl)) F_law_take F_law_between
  have F_law_signed : Fn P w K mg base "_law_signed" 4 [] [true, false] m_law_signed := ok_law_signed T (d.def_ 10 (d := d_law_signed) rfl) (He.glo_ok X G (d.fact 10 (f := .glo "_law_signed") rfl)) F_law_number F_law_take
  have F_law_index : Fn P w K mg base "_law_index" 4 [] [true, false, false] m_law_index := ok_law_index T (d.def_ 11 (d := d_law_index) rfl) (He.glo_ok X G (d.fact 11 (f := .glo "_law_index") rfl)) F_law_take F_law_number
  have F_law_far : Fn P w K mg base "_law_far" 4 [] [true, false] m_law_far := ok_law_far T (d.def_ 22 (d := d_law_far) rfl) (He.glo_ok X G (d.fact 22 (f := .glo "_law_far") rfl)) F_law_number F_law_pick
  have F_law_counts : Fn P w K mg base "_law_counts" 4 [] [true] m_law_counts := ok_law_counts T (d.def_ 26 (d := d_law_counts) rfl) (He.glo_ok X G (d.fact 26 (f := .glo "_law_counts") rfl)) F_law_take F_law_number F_law_pick
  have F_law_ask : Fn P w K mg base "_law_ask" 5 [] [false, false, false] m_law_ask := ok_law_ask T (d.def_ 18 (d := d_law_ask) rfl) (He.glo_ok X G (d.fact 18 (f := .glo "_law_ask") rfl)) F_ways F_cycle_counts F_arrangements E_law_refusal
  have F_law_ways_met : Fn P w K mg base "_law_ways_met" 5 [] [true] m_law_ways_met := ok_law_ways_met T (d.def_ 21 (d := d_law_ways_met) rfl) (He.glo_ok X G (d.fact 21 (f := .glo "_law_ways_met") rfl)) F_law_edge F_law_take F_law_pick F_law_index F_ways F_law_is_ways F_law_is_int
  have F_law_cycles_met : Fn P w K mg base "_law_cycles_met" 5 [] [true] m_law_cycles_met := ok_law_cycles_met T (d.def_ 25 (d := d_law_cycles_met) rfl) (He.glo_ok X G (d.fact 25 (f := .glo "_law_cycles_met") rfl)) F_law_edge F_law_take F_law_pick F_cycle_counts F_law_is_cycles F_law_factorial
  have F_law_far_met : Fn P w K mg base "_law_far_met" 6 [] [true, false, false, false, false] m_law_far_met := ok_law_far_met T (d.def_ 23 (d := d_law_far_met) rfl) (He.glo_ok X G (d.fact 23 (f := .glo "_law_far_met") rfl)) F_law_far F_law_ask F_law_same
  have F_law_arrangements_met : Fn P w K mg base "_law_arrangements_met" 6 [] [false] m_law_arrangements_met := ok_law_arrangements_met T (d.def_ 27 (d := d_law_arrangements_met) rfl) (He.glo_ok X G (d.fact 27 (f := .glo "_law_arrangements_met") rfl)) F_law_ask F_law_same F_law_is_int F_law_factorial
  exact ok_law T F F_law_store F_law_ways_met F_law_signed F_law_far_met F_law_cycles_met F_cycle_counts F_law_same F_law_counts F_law_arrangements_met F_ways F_law_is_ways
end
end LK
open PySem PySem.W PySem.Calls PyProof.Rows
theorem LK.holds (pure_law : ∀ ns : List Int, ns.length ≤ 63 → LK.m_law [DL.D.scr ns] = .ok (.bl true) []) : PySem.Challenge.rw_lastslips_k03_ways_and_arrangements.Holds := by
  w_on; o_law
  refine HandSHeadRun.head_any (r := LK.RR) (q := LK.qv) (H := LK.hk) (ob := LK.ob) (M := 12000) (loose := LK.loose) (d := HandSHeadRun.topDef LK.RR.prog 58) (kwd := []) LK.ob_eq
    (by kernel_rfl) (fun s => by kernel_rfl) LK.run (by kernel_rfl) (by kernel_rfl) (by kernel_rfl) (by rfl) (by first | assumption | decide +kernel) (by decide +kernel) ⟨rfl, rfl, rfl, rfl, rfl, by decide +kernel⟩ ?hw ?hc
  case hw => w_witness2
  case hc =>
    refine L2.walk_ofE (l := PySem.Challenge.rw_lastslips_k03_ways_and_arrangements) (n := 63) (k := 7) (x := "script") (CX := L2.CX0) rfl (by decide) (by kernel_rfl) ⟨rfl, by decide, by decide⟩ ?F (fun _ _ _ _ z => z)
    intro w mg fa h Y G hmg0
    obtain ⟨K, KX, c⟩ := Y
    have hmg : mg ("law" : PySem.Str) = some (.ref fa) := by
      have e : (HandSHeadRun.topDef LK.RR.prog 58).name = ("law" : PySem.Str) := by kernel_rfl
      rw [← e]
      exact hmg0
    have gl := He.glo_ok KX G ((He.SaysT.d c.t).fact 28 (f := .glo "law") rfl)
    have ef : fa = He.ga K "law" := by
      have z := hmg.symm.trans gl
      cases z
      rfl
    obtain ⟨fd, F⟩ := (He.SaysT.d c.t).def_ 28 (d := LK.d_law) rfl
    have b := L2.FunD.bindsA (ps := ["script"]) F fun _ _ _ _ _ _ us hl => match us, hl with | [_], _ => rfl
    subst ef
    refine ⟨K, fd, fun vs H Q _ => DL.spD K [false] LK.m_law vs H Q fun _ _ _ => False, KX, fun s v => b s [v] rfl, fun H a ns hl hO hS => DL.law_sp hO hS (pure_law ns hl), fun base _ _ => DL.fn_cx0 ?_⟩
    exact LK.law_fn KX G c base F

theorem PySem.Challenge.cw_lastslips_k03_ways_and_arrangements_holds : PySem.Challenge.rw_lastslips_k03_ways_and_arrangements.Holds :=
  LK.holds LK.pure_law
