import PyProof.Rows.All
import Wide.All
import OpenK.AllK
import Wide.FinOn
import HandS.ForExc
import HandS.ForMost
import HandS.Walk
import HandS.Defaults
import HandS.CallSlots
import HandS.ExcCtx
import HandS.HotCalls
import HandS.ExcInit
import HandS.ExcInitHot
import HandS.ExcIs
import KE.KExcIs
import HandS.ExcField
import HandS.IsInst
import HandS.HeadHook1
import HandS.HeadHook2
import HandS.TupAny
import HandS.Deep
import HandS.Wide
import HandS.WideBits
import HandS.Style
import HandS.SortInts
import KE.KTupSum
import HandS.Zip
import HandS.Rev
import KE.KStateDown
import Lean
import HandS.Base
import HandS.More
import HandS.Head0
import HandS.Head1
import HandS.Head2
import HandS.HeadEnd
import HandS.HeadHook3
import HandS.HeadHook4
import HandS.Conv
import HandS.Text
import HandS.Comp
import HandS.Iter
import KE.GoesMore
import PySem.Challenge.RW_lastslips_k20_taking_places
import HandS.JoinGen
set_option Elab.async false
set_option linter.all false
set_option maxRecDepth 100000
/-! DL: data of any depth over the hand layer: what a def computes, as a plain function of data. -/
namespace DL
open PySem PySem.Spec PyProof.Rows L2
abbrev Frag := PySem.W.Frag

/-- data -/
inductive D where
  | non | bl (b : Bool) | int (i : Int) | str (x : Str) | ty (n : String) | adr (a : Addr)
  | lst (xs : List D) | tup (xs : List D) | scr (is : List Int) | cls (c : Str)
  | ins (c : Str) (ns : List Str) (ds : List D) | exc (c : Str) (ns : List Str) (ds : List D)
  /-- a list that is not ours and stays as it is as long as this def runs -/
  | brw (xs : List D)

/-- whose an address is: not of this def; frozen; slot i's own -/
inductive Tg where
  | out | fz | own (i : Nat) | bor
  deriving DecidableEq
abbrev Om := Addr → Tg
/-- the exception held in a suite: its address, its class's name, its own dict -/
abbrev Xi := Option (Addr × Str × Option Addr)

def KT (K : Frag) (a : Addr) (xs : List V) : Prop := ∃ (o : Obj) (its : Array Value) (n : Nat), K.lookup a = some o ∧ o.cls = .type "tuple" ∧ o.data = .seq its n ∧ its.size ≤ sizeLine ∧ Vals xs its.toList
def NdL (ω : Om) (H : Hp) (a : Addr) (xs : List V) : Prop := ω a = .fz ∧ H a = some (.lst xs)
def NdT (K : Frag) (ω : Om) (H : Hp) (a : Addr) (xs : List V) : Prop := (ω a = .fz ∧ H a = some (.tup xs)) ∨ KT K a xs
def NdS (K : Frag) (ω : Om) (H : Hp) (a : Addr) (xs : List V) : Prop := (ω a = .fz ∧ Rd H a (.lst xs)) ∨ ∀ H', SqL K H' a xs
theorem NdL.sq {K : Frag} {ω : Om} {H : Hp} {a : Addr} {xs : List V} (h : NdL ω H a xs) : SqL K H a xs := SqL.of h.2
theorem NdS.sq {K : Frag} {ω : Om} {H : Hp} {a : Addr} {xs : List V} (h : NdS K ω H a xs) : SqL K H a xs := h.elim (fun z => .inl z.2) fun z => z H
theorem NdT.sq {K : Frag} {ω : Om} {H : Hp} {a : Addr} {xs : List V} (h : NdT K ω H a xs) : SqT K H a xs := h.imp (fun z => .inl z.2) id

mutual
/-- v stands for d; what it is made of is frozen -/
def Is (K : Frag) (ω : Om) (H : Hp) (xi : Xi) : D → V → Prop
  | .non, v => v = .non
  | .bl b, v => v = .bl b
  | .int i, v => v = .int i
  | .str x, v => v = .str x
  | .ty n, v => v = .ty n
  | .adr a, v => v = .ref a
  | .cls c, v => v = .ref (He.ga K c)
  | .lst ds, v => ∃ a vs, v = .ref a ∧ NdL ω H a vs ∧ IsL K ω H xi ds vs
  | .tup ds, v => ∃ a vs, v = .ref a ∧ NdT K ω H a vs ∧ IsL K ω H xi ds vs
  | .scr is, v => ∃ a, v = .ref a ∧ NdS K ω H a (is.map V.int)
  | .ins c ns ds, v => ∃ a dx vs, v = .ref a ∧ ω a = .fz ∧ H a = some (.ins (He.ga K c) dx (ns.zip vs)) ∧ ns.length = vs.length ∧ IsL K ω H xi ds vs
  | .exc c ns ds, v => ∃ a, v = .ref a ∧ ∀ a' c' d', xi = some (a', c', d') → a' = a ∧ c' = c ∧ ((ns = [] ∧ ds = [] ∧ d' = none) ∨ ∃ e vs, d' = some e ∧ ω e = .fz ∧ H e = some (.xd (ns.zip vs)) ∧ ns.length = vs.length ∧ IsL K ω H xi ds vs)
  | .brw ds, v => ∃ a vs, v = .ref a ∧ ω a = .bor ∧ H a = some (.lst vs) ∧ IsL K ω H xi ds vs
def IsL (K : Frag) (ω : Om) (H : Hp) (xi : Xi) : List D → List V → Prop
  | [], vs => vs = []
  | d :: ds, vs => ∃ v r, vs = v :: r ∧ Is K ω H xi d v ∧ IsL K ω H xi ds r
end

structure Ext (ω : Om) (H : Hp) (ω' : Om) (H' : Hp) : Prop where
  fx : ∀ b, ω b = .fz ∨ ω b = .bor → ω' b = ω b ∧ H' b = H b
  out : ∀ b o, H b = some o → ω b = .out → ω' b = .out ∧ H' b = some o
theorem Ext.fz {ω ω' : Om} {H H' : Hp} (e : Ext ω H ω' H') (b : Addr) (h : ω b = .fz) : ω' b = .fz ∧ H' b = H b := ⟨(e.fx b (.inl h)).1.trans h, (e.fx b (.inl h)).2⟩
theorem Ext.bo {ω ω' : Om} {H H' : Hp} (e : Ext ω H ω' H') (b : Addr) (h : ω b = .bor) : ω' b = .bor ∧ H' b = H b := ⟨(e.fx b (.inr h)).1.trans h, (e.fx b (.inr h)).2⟩
theorem Ext.refl (ω : Om) (H : Hp) : Ext ω H ω H := ⟨fun _ h => ⟨rfl, rfl⟩, fun _ _ h h' => ⟨h', h⟩⟩
theorem Ext.trans {ω ω1 ω2 : Om} {H H1 H2 : Hp} (a : Ext ω H ω1 H1) (b : Ext ω1 H1 ω2 H2) : Ext ω H ω2 H2 :=
  ⟨fun c h => by
    have x := a.fx c h
    have y := b.fx c (by rw [x.1]; exact h)
    exact ⟨y.1.trans x.1, y.2.trans x.2⟩, fun c o h h' => b.out c o (a.out c o h h').2 (a.out c o h h').1⟩
/-- the frozen part alone -/
def Fz (ω : Om) (H : Hp) (ω' : Om) (H' : Hp) : Prop := ∀ b, ω b = .fz ∨ ω b = .bor → ω' b = ω b ∧ H' b = H b
theorem Fz.z {ω ω' : Om} {H H' : Hp} (f : Fz ω H ω' H') (b : Addr) (h : ω b = .fz) : ω' b = .fz ∧ H' b = H b := ⟨(f b (.inl h)).1.trans h, (f b (.inl h)).2⟩
/-- what is frozen alone -/
def Fz0 (ω : Om) (H : Hp) (ω' : Om) (H' : Hp) : Prop := ∀ b, ω b = .fz → ω' b = .fz ∧ H' b = H b
theorem Fz.to0 {ω ω' : Om} {H H' : Hp} (f : Fz ω H ω' H') : Fz0 ω H ω' H' := f.z
theorem Rd.mono {H H' : Hp} {a : Addr} {u : HO} (e : H' a = H a) (h : Rd H a u) : Rd H' a u := h.imp (fun z => e.trans z) fun ⟨o, z⟩ => ⟨o, e.trans z⟩
section
variable {K : Frag} {ω ω' : Om} {H H' : Hp} {xi : Xi}
theorem NdL.mono (f : Fz ω H ω' H') {a : Addr} {xs : List V} (h : NdL ω H a xs) : NdL ω' H' a xs := ⟨(f.z a h.1).1, (f.z a h.1).2.trans h.2⟩
theorem NdS.mono (f : Fz ω H ω' H') {a : Addr} {xs : List V} (h : NdS K ω H a xs) : NdS K ω' H' a xs := h.imp (fun z => ⟨(f.z a z.1).1, Rd.mono (f.z a z.1).2 z.2⟩) id
theorem NdT.mono (f : Fz ω H ω' H') {a : Addr} {xs : List V} (h : NdT K ω H a xs) : NdT K ω' H' a xs := h.imp (fun z => ⟨(f.z a z.1).1, (f.z a z.1).2.trans z.2⟩) id
mutual
theorem Is.mono (f : Fz ω H ω' H') : ∀ {d : D} {v : V}, Is K ω H xi d v → Is K ω' H' xi d v
  | .non, _, h => h
  | .bl _, _, h => h
  | .int _, _, h => h
  | .str _, _, h => h
  | .ty _, _, h => h
  | .adr _, _, h => h
  | .cls _, _, h => h
  | .lst ds, _, h => by
    obtain ⟨a, vs, e, n, l⟩ := h
    exact ⟨a, vs, e, n.mono f, IsL.mono f l⟩
  | .tup ds, _, h => by
    obtain ⟨a, vs, e, n, l⟩ := h
    exact ⟨a, vs, e, n.mono f, IsL.mono f l⟩
  | .scr _, _, h => by
    obtain ⟨a, e, n⟩ := h
    exact ⟨a, e, n.mono f⟩
  | .ins c ns ds, _, h => by
    obtain ⟨a, dx, vs, e, n, q, z, l⟩ := h
    exact ⟨a, dx, vs, e, (f.z a n).1, (f.z a n).2.trans q, z, IsL.mono f l⟩
  | .exc c ns ds, _, h => by
    obtain ⟨a, e, x⟩ := h
    refine ⟨a, e, fun a' c' d' z => ?_⟩
    obtain ⟨z1, z2, q⟩ := x a' c' d' z
    refine ⟨z1, z2, q.imp id ?_⟩
    rintro ⟨b, vs, e1, n, q, z, l⟩
    exact ⟨b, vs, e1, (f.z b n).1, (f.z b n).2.trans q, z, IsL.mono f l⟩
  | .brw ds, _, h => by
    obtain ⟨a, vs, e, n, q, l⟩ := h
    exact ⟨a, vs, e, (f a (.inr n)).1.trans n, (f a (.inr n)).2.trans q, IsL.mono f l⟩
theorem IsL.mono (f : Fz ω H ω' H') : ∀ {ds : List D} {vs : List V}, IsL K ω H xi ds vs → IsL K ω' H' xi ds vs
  | [], _, h => h
  | d :: ds, _, h => by
    obtain ⟨v, r, e, h1, h2⟩ := h
    exact ⟨v, r, e, Is.mono f h1, IsL.mono f h2⟩
end
mutual
/-- no exception within -/
def plain : D → Bool
  | .lst ds => plainL ds
  | .tup ds => plainL ds
  | .ins _ _ ds => plainL ds
  | .exc _ _ _ => false
  | .brw ds => plainL ds
  | _ => true
def plainL : List D → Bool
  | [] => true
  | d :: ds => plain d && plainL ds
end
theorem Ext.f (e : Ext ω H ω' H') : Fz ω H ω' H' := e.fx
mutual
theorem Is.plain {xi' : Xi} : ∀ {d : D} {v : V}, DL.plain d = true → Is K ω H xi d v → Is K ω H xi' d v
  | .non, _, _, h => h
  | .bl _, _, _, h => h
  | .int _, _, _, h => h
  | .str _, _, _, h => h
  | .ty _, _, _, h => h
  | .adr _, _, _, h => h
  | .cls _, _, _, h => h
  | .lst ds, _, p, h => by
    obtain ⟨a, vs, e, n, l⟩ := h
    exact ⟨a, vs, e, n, IsL.plain (by simpa [DL.plain] using p) l⟩
  | .tup ds, _, p, h => by
    obtain ⟨a, vs, e, n, l⟩ := h
    exact ⟨a, vs, e, n, IsL.plain (by simpa [DL.plain] using p) l⟩
  | .scr _, _, _, h => h
  | .ins c ns ds, _, p, h => by
    obtain ⟨a, dx, vs, e, n, q, z, l⟩ := h
    exact ⟨a, dx, vs, e, n, q, z, IsL.plain (by simpa [DL.plain] using p) l⟩
  | .exc c ns ds, _, p, h => by simp [DL.plain] at p
  | .brw ds, _, p, h => by
    obtain ⟨a, vs, e, n, q, l⟩ := h
    exact ⟨a, vs, e, n, q, IsL.plain (by simpa [DL.plain] using p) l⟩
theorem IsL.plain {xi' : Xi} : ∀ {ds : List D} {vs : List V}, plainL ds = true → IsL K ω H xi ds vs → IsL K ω H xi' ds vs
  | [], _, _, h => h
  | d :: ds, _, p, h => by
    obtain ⟨v, r, e, h1, h2⟩ := h
    unfold plainL at p
    obtain ⟨p1, p2⟩ := Bool.and_eq_true_iff.mp p
    exact ⟨v, r, e, Is.plain p1 h1, IsL.plain p2 h2⟩
end
mutual
theorem Is.weak : ∀ {d : D} {v : V}, Is K ω H xi d v → Is K ω H none d v
  | .non, _, h => h
  | .bl _, _, h => h
  | .int _, _, h => h
  | .str _, _, h => h
  | .ty _, _, h => h
  | .adr _, _, h => h
  | .cls _, _, h => h
  | .lst ds, _, h => by
    obtain ⟨a, vs, e, n, l⟩ := h
    exact ⟨a, vs, e, n, IsL.weak l⟩
  | .tup ds, _, h => by
    obtain ⟨a, vs, e, n, l⟩ := h
    exact ⟨a, vs, e, n, IsL.weak l⟩
  | .scr _, _, h => h
  | .ins c ns ds, _, h => by
    obtain ⟨a, dx, vs, e, n, q, z, l⟩ := h
    exact ⟨a, dx, vs, e, n, q, z, IsL.weak l⟩
  | .exc c ns ds, _, h => by
    obtain ⟨a, e, _⟩ := h
    exact ⟨a, e, fun _ _ _ z => by cases z⟩
  | .brw ds, _, h => by
    obtain ⟨a, vs, e, n, q, l⟩ := h
    exact ⟨a, vs, e, n, q, IsL.weak l⟩
theorem IsL.weak : ∀ {ds : List D} {vs : List V}, IsL K ω H xi ds vs → IsL K ω H none ds vs
  | [], _, h => h
  | d :: ds, _, h => by
    obtain ⟨v, r, e, h1, h2⟩ := h
    exact ⟨v, r, e, Is.weak h1, IsL.weak h2⟩
end
mutual
/-- nothing borrowed within -/
def nob : D → Bool
  | .lst ds => nobL ds
  | .tup ds => nobL ds
  | .ins _ _ ds => nobL ds
  | .exc _ _ ds => nobL ds
  | .brw _ => false
  | _ => true
def nobL : List D → Bool
  | [] => true
  | d :: ds => nob d && nobL ds
end
mutual
theorem Is.mono0 (f : Fz0 ω H ω' H') : ∀ {d : D} {v : V}, nob d = true → Is K ω H xi d v → Is K ω' H' xi d v
  | .non, _, _, h => h
  | .bl _, _, _, h => h
  | .int _, _, _, h => h
  | .str _, _, _, h => h
  | .ty _, _, _, h => h
  | .adr _, _, _, h => h
  | .cls _, _, _, h => h
  | .lst ds, _, p, h => by
    obtain ⟨a, vs, e, n, l⟩ := h
    exact ⟨a, vs, e, ⟨(f a n.1).1, (f a n.1).2.trans n.2⟩, IsL.mono0 f (by simpa [nob] using p) l⟩
  | .tup ds, _, p, h => by
    obtain ⟨a, vs, e, n, l⟩ := h
    exact ⟨a, vs, e, n.imp (fun z => ⟨(f a z.1).1, (f a z.1).2.trans z.2⟩) id, IsL.mono0 f (by simpa [nob] using p) l⟩
  | .scr _, _, _, h => by
    obtain ⟨a, e, n⟩ := h
    exact ⟨a, e, n.imp (fun z => ⟨(f a z.1).1, Rd.mono (f a z.1).2 z.2⟩) id⟩
  | .ins c ns ds, _, p, h => by
    obtain ⟨a, dx, vs, e, n, q, z, l⟩ := h
    exact ⟨a, dx, vs, e, (f a n).1, (f a n).2.trans q, z, IsL.mono0 f (by simpa [nob] using p) l⟩
  | .exc c ns ds, _, p, h => by
    obtain ⟨a, e, x⟩ := h
    refine ⟨a, e, fun a' c' d' z => ?_⟩
    obtain ⟨z1, z2, q⟩ := x a' c' d' z
    refine ⟨z1, z2, q.imp id ?_⟩
    rintro ⟨b, vs, e1, n, q, z, l⟩
    exact ⟨b, vs, e1, (f b n).1, (f b n).2.trans q, z, IsL.mono0 f (by simpa [nob] using p) l⟩
  | .brw ds, _, p, h => by simp [nob] at p
theorem IsL.mono0 (f : Fz0 ω H ω' H') : ∀ {ds : List D} {vs : List V}, nobL ds = true → IsL K ω H xi ds vs → IsL K ω' H' xi ds vs
  | [], _, _, h => h
  | d :: ds, _, p, h => by
    obtain ⟨v, r, e, h1, h2⟩ := h
    unfold nobL at p
    obtain ⟨p1, p2⟩ := Bool.and_eq_true_iff.mp p
    exact ⟨v, r, e, Is.mono0 f p1 h1, IsL.mono0 f p2 h2⟩
end
theorem IsL.length : ∀ {ds : List D} {vs : List V}, IsL K ω H xi ds vs → vs.length = ds.length
  | [], _, h => by rw [show _ = ([] : List V) from h] <;> rfl
  | d :: ds, _, h => by
    obtain ⟨v, r, e, _, h2⟩ := h
    rw [e, List.length_cons, List.length_cons, IsL.length h2]
theorem IsL.get : ∀ {ds : List D} {vs : List V}, IsL K ω H xi ds vs → ∀ {i : Nat} {d : D}, ds[i]? = some d → ∃ v, vs[i]? = some v ∧ Is K ω H xi d v
  | [], _, _, _, _, e => by simp at e
  | d :: ds, _, h, 0, x, e => by
    obtain ⟨v, r, rfl, h1, h2⟩ := h
    simp at e
    subst e
    exact ⟨v, by simp, h1⟩
  | d :: ds, _, h, i + 1, x, e => by
    obtain ⟨v, r, rfl, h1, h2⟩ := h
    obtain ⟨u, q1, q2⟩ := IsL.get h2 (i := i) (d := x) (by simpa using e)
    exact ⟨u, by simpa using q1, q2⟩
theorem IsL.getV {ds : List D} {vs : List V} (h : IsL K ω H xi ds vs) {i : Nat} {v : V} (e : vs[i]? = some v) : ∃ d, ds[i]? = some d ∧ Is K ω H xi d v := by
  have hl := h.length
  obtain ⟨hi, _⟩ := List.getElem?_eq_some_iff.mp e
  have hd : ds[i]? = some (ds[i]'(by omega)) := List.getElem?_eq_getElem (by omega)
  obtain ⟨u, q1, q2⟩ := h.get hd
  rw [e] at q1
  cases q1
  exact ⟨_, hd, q2⟩
theorem IsL.append : ∀ {ds es : List D} {vs ws : List V}, IsL K ω H xi ds vs → IsL K ω H xi es ws → IsL K ω H xi (ds ++ es) (vs ++ ws)
  | [], _, _, _, h, q => by rw [show _ = ([] : List V) from h]; exact q
  | d :: ds, es, _, _, h, q => by
    obtain ⟨v, r, rfl, h1, h2⟩ := h
    exact ⟨v, r ++ _, rfl, h1, IsL.append h2 q⟩
theorem IsL.one {d : D} {v : V} (h : Is K ω H xi d v) : IsL K ω H xi [d] [v] := ⟨v, [], rfl, h, rfl⟩
theorem IsL.take : ∀ {ds : List D} {vs : List V} (n : Nat), IsL K ω H xi ds vs → IsL K ω H xi (ds.take n) (vs.take n)
  | _, _, 0, _ => by simp [IsL]
  | [], _, n + 1, h => by rw [show _ = ([] : List V) from h]; simp [IsL]
  | d :: ds, _, n + 1, h => by
    obtain ⟨v, r, rfl, h1, h2⟩ := h
    exact ⟨v, r.take n, rfl, h1, IsL.take n h2⟩
theorem IsL.drop : ∀ {ds : List D} {vs : List V} (n : Nat), IsL K ω H xi ds vs → IsL K ω H xi (ds.drop n) (vs.drop n)
  | _, _, 0, h => h
  | [], _, n + 1, h => by rw [show _ = ([] : List V) from h]; simp [IsL]
  | d :: ds, _, n + 1, h => by
    obtain ⟨v, r, rfl, h1, h2⟩ := h
    exact IsL.drop n h2
theorem IsL.set {d : D} {v : V} (q : Is K ω H xi d v) : ∀ {ds : List D} {vs : List V} (n : Nat), IsL K ω H xi ds vs → IsL K ω H xi (ds.set n d) (vs.set n v)
  | [], _, n, h => by rw [show _ = ([] : List V) from h]; simp [IsL]
  | e :: ds, _, 0, h => by
    obtain ⟨u, r, rfl, h1, h2⟩ := h
    exact ⟨v, r, rfl, q, h2⟩
  | e :: ds, _, n + 1, h => by
    obtain ⟨u, r, rfl, h1, h2⟩ := h
    exact ⟨u, r.set n v, rfl, h1, IsL.set q n h2⟩
theorem IsL.of_get : ∀ {ds : List D} {vs : List V}, vs.length = ds.length → (∀ (i : Nat) (d : D) (v : V), ds[i]? = some d → vs[i]? = some v → Is K ω H xi d v) → IsL K ω H xi ds vs
  | [], vs, h, _ => List.eq_nil_of_length_eq_zero (by simpa using h)
  | d :: ds, [], h, _ => by simp at h
  | d :: ds, v :: vs, h, q => ⟨v, vs, rfl, q 0 d v (by simp) (by simp), IsL.of_get (by simpa using h) fun i e u h1 h2 => q (i + 1) e u (by simpa using h1) (by simpa using h2)⟩
theorem IsL.mapV {α : Type} {f : α → D} {g : α → V} (h : ∀ x, Is K ω H xi (f x) (g x)) : ∀ l : List α, IsL K ω H xi (l.map f) (l.map g)
  | [] => rfl
  | x :: l => ⟨g x, l.map g, rfl, h x, IsL.mapV h l⟩
end

/-! ### slots -/
abbrev DSt := List (Option (Nat × D))
/-- pinned slots (parameters whose list the def may change), the held exception -/
structure Gm where
  M : List (Nat × V) := []
  idx : List Nat := []
  ok : ∀ q ∈ M, q.1 ∈ idx := by simp
  xi : Xi := none

def Sl (K : Frag) (ω : Om) (H : Hp) (xi : Xi) (i : Nat) : Option (Nat × D) → Option V → Prop
  | none, _ => True
  | some (0, d), w => ∃ v, w = some v ∧ Is K ω H xi d v
  | some (1, d), w => ∃ a vs ds, w = some (.ref a) ∧ d = .lst ds ∧ ω a = .own i ∧ H a = some (.lst vs) ∧ IsL K ω H xi ds vs
  | some (_ + 2, _), _ => False

structure Rel (K : Frag) (Γ : Gm) (ω : Om) (H : Hp) (σ : L2.St) (δ : DSt) : Prop where
  wf : ∀ b, ω b ≠ .out → ∃ o, H b = some o
  len : σ.length = δ.length
  sl : ∀ i e, δ[i]? = some e → Sl K ω H Γ.xi i e (σ[i]?.join)
  pin : ∀ q ∈ Γ.M, σ[q.1]? = some (some q.2)

/-- a value on the way: data, or what slot i refers to -/
inductive Vl where
  | fz (d : D) | sl (i : Nat)
def IsV (K : Frag) (Γ : Gm) (ω : Om) (H : Hp) (σ : L2.St) : Vl → V → Prop
  | .fz d, v => Is K ω H Γ.xi d v
  | .sl i, v => σ[i]? = some (some v)
theorem IsV.mono {K : Frag} {Γ : Gm} {ω ω' : Om} {H H' : Hp} {σ : L2.St} (f : Fz ω H ω' H') : ∀ {x : Vl} {v : V}, IsV K Γ ω H σ x v → IsV K Γ ω' H' σ x v
  | .fz _, _, h => Is.mono f h
  | .sl _, _, h => h

/-- the data of a value -/
def unb : D → D
  | .brw ds => .lst ds
  | d => d
def dr (δ : DSt) : Vl → Option D
  | .fz d => some (unb d)
  | .sl i => match δ[i]? with
    | some (some (_, d)) => some (unb d)
    | _ => none
/-- the data of a value that is to be kept: what a slot owns is frozen -/
def frz (δ : DSt) : Vl → Option (D × DSt)
  | .fz d => some (d, δ)
  | .sl i => match δ[i]? with
    | some (some (_, d)) => some (d, δ.set i (some (0, d)))
    | _ => none

/-- a value that may be read as d -/
def Rb (K : Frag) (ω : Om) (H : Hp) (xi : Xi) (d : D) (v : V) : Prop := Is K ω H xi d v ∨ ∃ a vs ds, v = .ref a ∧ d = .lst ds ∧ H a = some (.lst vs) ∧ IsL K ω H xi ds vs
section
variable {K : Frag} {Γ : Gm} {ω ω' : Om} {H H' : Hp} {σ : L2.St} {δ δ' : DSt} {xi : Xi}
theorem Rb.lst {ds : List D} {v : V} (h : Rb K ω H xi (.lst ds) v) : ∃ a vs, v = .ref a ∧ SqL K H a vs ∧ IsL K ω H xi ds vs := by
  rcases h with ⟨a, vs, e, n, l⟩ | ⟨a, vs, es, e, e2, h, l⟩
  · exact ⟨a, vs, e, n.sq, l⟩
  · cases e2
    exact ⟨a, vs, e, SqL.of h, l⟩
theorem Rb.lstH {ds : List D} {v : V} (h : Rb K ω H xi (.lst ds) v) : ∃ a vs, v = .ref a ∧ H a = some (.lst vs) ∧ IsL K ω H xi ds vs := by
  rcases h with ⟨a, vs, e, n, l⟩ | ⟨a, vs, es, e, e2, h, l⟩
  · exact ⟨a, vs, e, n.2, l⟩
  · cases e2
    exact ⟨a, vs, e, h, l⟩
theorem Rb.scr {is : List Int} {v : V} (h : Rb K ω H xi (.scr is) v) : ∃ a, v = .ref a ∧ SqL K H a (is.map V.int) := by
  rcases h with ⟨a, e, n⟩ | ⟨a, vs, es, e, e2, h, l⟩
  · exact ⟨a, e, n.sq⟩
  · cases e2
theorem Rb.tup {ds : List D} {v : V} (h : Rb K ω H xi (.tup ds) v) : ∃ a vs, v = .ref a ∧ NdT K ω H a vs ∧ SqT K H a vs ∧ IsL K ω H xi ds vs := by
  rcases h with ⟨a, vs, e, n, l⟩ | ⟨a, vs, es, e, e2, h, l⟩
  · exact ⟨a, vs, e, n, n.sq, l⟩
  · cases e2
theorem Rb.is {d : D} {v : V} (h : Rb K ω H xi d v) (hl : ∀ ds, d ≠ .lst ds) : Is K ω H xi d v := by
  rcases h with h | ⟨a, vs, es, e, e2, h, l⟩
  · exact h
  · exact absurd e2 (hl es)
theorem Rb.int {i : Int} {v : V} (h : Rb K ω H xi (.int i) v) : v = .int i := h.is fun _ => D.noConfusion
theorem Rb.str {i : Str} {v : V} (h : Rb K ω H xi (.str i) v) : v = .str i := h.is fun _ => D.noConfusion
theorem Rb.bl {i : Bool} {v : V} (h : Rb K ω H xi (.bl i) v) : v = .bl i := h.is fun _ => D.noConfusion
theorem Rb.non {v : V} (h : Rb K ω H xi .non v) : v = .non := h.is fun _ => D.noConfusion
theorem slot_some {i : Nat} {v : V} (h : σ[i]? = some (some v)) : σ[i]?.join = some v := by rw [h] <;> rfl
theorem slot_of {i : Nat} {v : V} (h : σ[i]?.join = some v) : σ[i]? = some (some v) := by
  cases e : σ[i]? with
  | none => rw [e] at h; cases h
  | some w => rw [e] at h; exact congrArg some h
theorem unb_ok {d : D} {v : V} (h : Is K ω H xi d v) : Rb K ω H xi (unb d) v := by
  cases d with
  | brw ds =>
    obtain ⟨a, vs, e, _, q, l⟩ := h
    exact .inr ⟨a, vs, ds, e, rfl, q, l⟩
  | _ => exact .inl h
theorem dr_ok (R : Rel K Γ ω H σ δ) {x : Vl} {v : V} {d : D} (h : IsV K Γ ω H σ x v) (e : dr δ x = some d) : Rb K ω H Γ.xi d v := by
  cases x with
  | fz d' => cases e; exact unb_ok h
  | sl i =>
    unfold dr at e
    cases q : δ[i]? with
    | none => simp [q] at e
    | some r =>
      cases r with
      | none => simp [q] at e
      | some r =>
        obtain ⟨l, d'⟩ := r
        simp [q] at e
        subst e
        have s := R.sl i _ q
        rw [slot_some (show σ[i]? = some (some v) from h)] at s
        match l, s with
        | 0, ⟨w, e1, s1⟩ => cases e1; exact unb_ok s1
        | 1, ⟨a, vs, ds, e1, e2, _, s1, t⟩ => cases e1; subst e2; exact .inr ⟨a, vs, ds, rfl, rfl, s1, t⟩
/-- the tags with slot i's frozen -/
def frO (ω : Om) (i : Nat) : Om := fun b => if ω b = .own i then .fz else ω b
theorem frO_ext (i : Nat) : Ext ω H (frO ω i) H :=
  ⟨fun b h => ⟨by unfold frO; rw [if_neg (by rcases h with h | h <;> (rw [h]; intro z; cases z))], rfl⟩, fun b o h h' => ⟨by unfold frO; rw [if_neg (by rw [h']; intro z; cases z)]; exact h', h⟩⟩
theorem Sl.mono (f : Fz ω H ω' H') {i : Nat} {e : Option (Nat × D)} {w : Option V} (h : Sl K ω H xi i e w) (g : ∀ b, ω b = .own i → ω' b = .own i ∧ H' b = H b) : Sl K ω' H' xi i e w := by
  match e, h with
  | none, _ => trivial
  | some (0, d), ⟨v, e, h⟩ => exact ⟨v, e, h.mono f⟩
  | some (1, d), ⟨a, vs, ds, e, e2, o, h, l⟩ => exact ⟨a, vs, ds, e, e2, (g a o).1, (g a o).2.trans h, l.mono f⟩
theorem frz_ok (R : Rel K Γ ω H σ δ) {x : Vl} {v : V} {d : D} (h : IsV K Γ ω H σ x v) (e : frz δ x = some (d, δ')) : ∃ ω', Ext ω H ω' H ∧ Rel K Γ ω' H σ δ' ∧ Is K ω' H Γ.xi d v := by
  cases x with
  | fz d' => cases e; exact ⟨ω, Ext.refl _ _, R, h⟩
  | sl i =>
    unfold frz at e
    cases q : δ[i]? with
    | none => simp [q] at e
    | some r =>
      cases r with
      | none => simp [q] at e
      | some r =>
        obtain ⟨l, d'⟩ := r
        simp only [q, Option.some.injEq, Prod.mk.injEq] at e
        obtain ⟨rfl, rfl⟩ := e
        have s := R.sl i _ q
        have hj := slot_some (show σ[i]? = some (some v) from h)
        rw [hj] at s
        have X := frO_ext (ω := ω) (H := H) i
        have isd : Is K (frO ω i) H Γ.xi d' v := by
          match l, s with
          | 0, ⟨w, e1, s1⟩ => cases e1; exact s1.mono X.f
          | 1, ⟨a, vs, ds, e1, e2, o, s1, t⟩ =>
            cases e1
            rw [e2]
            exact ⟨a, vs, rfl, ⟨by unfold frO; rw [if_pos o], s1⟩, t.mono X.f⟩
        refine ⟨frO ω i, X, ⟨fun b hb => R.wf b fun z => hb (by unfold frO; rw [if_neg (by rw [z]; intro z; cases z)]; exact z), by rw [R.len, List.length_set], fun j e hj' => ?_, R.pin⟩, isd⟩
        by_cases hij : i = j
        · subst hij
          rw [List.getElem?_set_self (List.getElem?_eq_some_iff.mp q).1] at hj'
          cases hj'
          exact ⟨v, hj, isd⟩
        · rw [List.getElem?_set_ne hij] at hj'
          refine (R.sl j e hj').mono X.f fun b hb => ⟨?_, rfl⟩
          unfold frO
          rw [if_neg (by rw [hb]; intro z; cases z; exact hij rfl)]
          exact hb
end
end DL

set_option Elab.async false
set_option linter.all false
set_option maxRecDepth 100000
namespace DL
open PySem PySem.Spec PyProof.Rows L2
/-- what comes of a piece of code: a result and the slots, an exception, or nothing that is known -/
inductive R (α : Type) where
  | ok (a : α) (δ : DSt) | exc (c : Str) (ns : List Str) (ds : List D) (δ : DSt) | stuck
def R.bind {α β : Type} : R α → (α → DSt → R β) → R β
  | .ok a δ, f => f a δ
  | .exc c ns ds δ, _ => .exc c ns ds δ
  | .stuck, _ => .stuck
abbrev TD := DSt → R Vl
abbrev TDT := DSt → R Bool
abbrev TDA := DSt → R (List Vl)
/-- an exception's own dict -/
def XIs (K : Frag) (Γ : Gm) (ω : Om) (H : Hp) (ns : List Str) (ds : List D) (d : Option Addr) : Prop :=
  (ns = [] ∧ ds = [] ∧ d = none) ∨ ∃ e vs, d = some e ∧ ω e = .fz ∧ H e = some (.xd (ns.zip vs)) ∧ ns.length = vs.length ∧ IsL K ω H Γ.xi ds vs
/-- what is wanted behind: by the result -/
def okR {α β : Type} (K : Frag) (Γ : Gm) (W : WX) (ω : Om) (H : Hp) (σ : L2.St) (rel : Om → Hp → L2.St → α → β → Prop) : R α → (β → Hp → Prop) → Prop
  | .ok x δ', Q => ∀ v H' ω', Ext ω H ω' H' → Rel K Γ ω' H' σ δ' → rel ω' H' σ x v → Q v H'
  | .exc c ns ds δ', _ => ∀ d H' ω', Ext ω H ω' H' → Rel K Γ ω' H' σ δ' → XIs K Γ ω' H' ns ds d → W (.ref (He.ga K c)) d σ H'
  | .stuck, _ => False
def rlV (K : Frag) (Γ : Gm) : Om → Hp → L2.St → Vl → V → Prop := fun ω H σ x v => IsV K Γ ω H σ x v
def rlB : Om → Hp → L2.St → Bool → Bool → Prop := fun _ _ _ x v => v = x
def IsVs (K : Frag) (Γ : Gm) (ω : Om) (H : Hp) (σ : L2.St) : List Vl → List V → Prop
  | [], vs => vs = []
  | x :: xs, vs => ∃ v r, vs = v :: r ∧ IsV K Γ ω H σ x v ∧ IsVs K Γ ω H σ xs r
theorem IsVs.mono {K : Frag} {Γ : Gm} {ω ω' : Om} {H H' : Hp} {σ : L2.St} (f : Fz ω H ω' H') : ∀ {xs : List Vl} {vs : List V}, IsVs K Γ ω H σ xs vs → IsVs K Γ ω' H' σ xs vs
  | [], _, h => h
  | x :: xs, _, h => by
    obtain ⟨v, r, e, h1, h2⟩ := h
    exact ⟨v, r, e, h1.mono f, IsVs.mono f h2⟩
abbrev okV (K : Frag) (Γ : Gm) (W : WX) (ω : Om) (H : Hp) (σ : L2.St) : R Vl → VK → Prop := okR K Γ W ω H σ (rlV K Γ)
abbrev okB (K : Frag) (Γ : Gm) (W : WX) (ω : Om) (H : Hp) (σ : L2.St) : R Bool → (Bool → Hp → Prop) → Prop := okR K Γ W ω H σ rlB
abbrev okA (K : Frag) (Γ : Gm) (W : WX) (ω : Om) (H : Hp) (σ : L2.St) : R (List Vl) → (List V → Hp → Prop) → Prop := okR K Γ W ω H σ fun ω H σ xs vs => IsVs K Γ ω H σ xs vs
/-- lifted: where the slots stand for data of which t tells -/
def up {α β : Type} (K : Frag) (Γ : Gm) (W : WX) (rel : Om → Hp → L2.St → α → β → Prop) (t : DSt → R α) : L2.St → Hp → (β → Hp → Prop) → Prop := fun σ H Q => ∃ ω δ, Rel K Γ ω H σ δ ∧ okR K Γ W ω H σ rel (t δ) Q
abbrev upE (K : Frag) (Γ : Gm) (W : WX) (t : TD) : TE := up K Γ W (rlV K Γ) t
abbrev upT (K : Frag) (Γ : Gm) (W : WX) (t : TDT) : TT := up K Γ W rlB t
abbrev upA (K : Frag) (Γ : Gm) (W : WX) (t : TDA) : TA := up K Γ W (fun ω H σ xs vs => IsVs K Γ ω H σ xs vs) t

structure DE (X : Cx) (Γ : Gm) (e : Expr) (t : TD) : Prop where
  run : ∀ W, L2N.Takes X W → PE X e (upE X.K Γ W t)
structure DT (X : Cx) (Γ : Gm) (e : Expr) (t : TDT) : Prop where
  run : ∀ W, L2N.Takes X W → PT X e (upT X.K Γ W t)
structure DW (X : Cx) (Γ : Gm) (e : Expr) (t : TDT) : Prop where
  run : ∀ W, L2N.Takes X W → PW X e (upT X.K Γ W t)
structure DA (X : Cx) (Γ : Gm) (es : List Expr) (t : TDA) : Prop where
  run : ∀ W, L2N.Takes X W → PA X es (upA X.K Γ W t)
theorem PE.imp {X : Cx} {e : Expr} {t t' : TE} (h : PE X e t) (k : ∀ σ H Q, t' σ H Q → t σ H Q) : PE X e t' := ⟨fun p s σ H Q I q => h.run p s σ H Q I (k σ H Q q)⟩
theorem PT.imp {X : Cx} {e : Expr} {t t' : TT} (h : PT X e t) (k : ∀ σ H Q, t' σ H Q → t σ H Q) : PT X e t' := ⟨fun p s σ H Q I q => h.run p s σ H Q I (k σ H Q q)⟩
theorem PW.imp {X : Cx} {e : Expr} {t t' : TT} (h : PW X e t) (k : ∀ σ H Q, t' σ H Q → t σ H Q) : PW X e t' := ⟨fun w p s σ H Q I q => h.run w p s σ H Q I (k σ H Q q)⟩
theorem PA.imp {X : Cx} {e : List Expr} {t t' : TA} (h : PA X e t) (k : ∀ σ H Q, t' σ H Q → t σ H Q) : PA X e t' := ⟨fun w p s σ H Q I q => h.run w p s σ H Q I (k σ H Q q)⟩
theorem PS.imp {X : Cx} {e : Stmt} {t t' : TS} (h : PS X e t) (k : ∀ D σ H, t' D σ H → t D σ H) : PS X e t' := ⟨fun p s σ H D I q => h.run p s σ H D I (k D σ H q)⟩
theorem PSs.imp {X : Cx} {e : List Stmt} {t t' : TS} (h : PSs X e t) (k : ∀ D σ H, t' D σ H → t D σ H) : PSs X e t' := ⟨fun p s σ H D I q => h.run p s σ H D I (k D σ H q)⟩
section
variable {K : Frag} {Γ : Gm} {W : WX} {ω ω' : Om} {H H' : Hp} {σ : L2.St} {δ δ' : DSt} {α β α' β' : Type} {rel : Om → Hp → L2.St → α → β → Prop} {rel' : Om → Hp → L2.St → α' → β' → Prop}
theorem okR.ext (e : Ext ω H ω' H') {r : R α} {Q : β → Hp → Prop} (h : okR K Γ W ω H σ rel r Q) : okR K Γ W ω' H' σ rel r Q := by
  cases r with
  | ok x δ' => exact fun v H2 ω2 e2 => h v H2 ω2 (e.trans e2)
  | exc c ns ds δ' => exact fun d H2 ω2 e2 => h d H2 ω2 (e.trans e2)
  | stuck => exact h
/-- one after another -/
theorem up_bind (Rl : Rel K Γ ω H σ δ) {t : DSt → R α} {f : α → DSt → R α'} {Q : β' → Hp → Prop} (h : okR K Γ W ω H σ rel' ((t δ).bind f) Q) {P : β → Hp → Prop}
    (hP : ∀ v H1 ω1 δ1 x, Ext ω H ω1 H1 → Rel K Γ ω1 H1 σ δ1 → rel ω1 H1 σ x v → okR K Γ W ω1 H1 σ rel' (f x δ1) Q → P v H1) : up K Γ W rel t σ H P := by
  refine ⟨ω, δ, Rl, ?_⟩
  cases e : t δ with
  | ok x δ1 =>
    rw [e] at h
    exact fun v H1 ω1 e1 r1 i1 => hP v H1 ω1 δ1 x e1 r1 i1 (okR.ext e1 h)
  | exc c ns ds δ1 =>
    rw [e] at h
    exact h
  | stuck =>
    rw [e] at h
    exact h
theorem okR.now {x : α} {v : β} {Q : β → Hp → Prop} (h : okR K Γ W ω H σ rel (.ok x δ) Q) (R : Rel K Γ ω H σ δ) (i : rel ω H σ x v) : Q v H := h v H ω (Ext.refl _ _) R i
theorem okR.at {x : α} {v : β} {Q : β → Hp → Prop} (h : okR K Γ W ω H σ rel (.ok x δ) Q) (e : Ext ω H ω' H') (R : Rel K Γ ω' H' σ δ) (i : rel ω' H' σ x v) : Q v H' := h v H' ω' e R i
end

/-! ### names, constants -/
section
variable {X : Cx} {Γ : Gm} {pos : Pos}
def eVar (i : Nat) : TD := fun δ => match δ[i]? with
  | some (some (0, d)) => .ok (.fz d) δ
  | some (some (_, _)) => .ok (.sl i) δ
  | _ => .stuck
def eC (d : D) : TD := fun δ => .ok (.fz d) δ
theorem de_var {i : Nat} {e : Expr} (h : PE X e (tVar i)) : DE X Γ e (eVar i) := ⟨fun W tk => PE.imp h fun σ H Q hq => by
  obtain ⟨ω, δ, R, h⟩ := hq
  unfold eVar at h
  cases q : δ[i]? with
  | none => rw [q] at h; exact h.elim
  | some r =>
    rw [q] at h
    cases r with
    | none => exact h.elim
    | some r =>
      obtain ⟨l, d⟩ := r
      have s := R.sl i _ q
      match l, h, s with
      | 0, h, ⟨v, e, s⟩ => exact ⟨v, slot_of e, h.now R s⟩
      | 1, h, ⟨a, vs, ds, e, _⟩ => exact ⟨.ref a, slot_of e, h.now R (slot_of e)⟩⟩
theorem de_c {e : Expr} {v : V} {d : D} (h : PE X e (tC v)) (hd : ∀ ω H xi, Is X.K ω H xi d v) : DE X Γ e (eC d) := ⟨fun W tk => PE.imp h fun σ H Q hq => by
  obtain ⟨ω, δ, R, h⟩ := hq
  exact h.now R (hd _ _ _)⟩
theorem de_int {i j pos} : DE X Γ (.Constant (.int i) j pos) (eC (.int i)) := de_c pe_int fun _ _ _ => rfl
theorem de_bl {i j pos} : DE X Γ (.Constant (.bool i) j pos) (eC (.bl i)) := de_c pe_bl fun _ _ _ => rfl
theorem de_str {i j pos} : DE X Γ (.Constant (.str i) j pos) (eC (.str i)) := de_c pe_str fun _ _ _ => rfl
theorem de_non {j pos} : DE X Γ (.Constant .none j pos) (eC .non) := de_c pe_non fun _ _ _ => rfl

/-! ### two operands, one operand -/
def eBin (f : Vl → Vl → DSt → R Vl) (ta tb : TD) : TD := fun δ => (ta δ).bind fun x δ1 => (tb δ1).bind fun y δ2 => f x y δ2
def eUn (f : Vl → DSt → R Vl) (ta : TD) : TD := fun δ => (ta δ).bind fun x δ1 => f x δ1
/-- the rule r by values is what f tells of data -/
def Op2 (K : Frag) (Γ : Gm) (r : R2) (f : Vl → Vl → DSt → R Vl) : Prop :=
  ∀ (W : WX) (ω : Om) (H : Hp) (σ : L2.St) (δ : DSt) (x y : Vl) (v w : V) (Q : VK), Rel K Γ ω H σ δ → IsV K Γ ω H σ x v → IsV K Γ ω H σ y w → okV K Γ W ω H σ (f x y δ) Q → r v w H Q
def Op1 (K : Frag) (Γ : Gm) (r : V → Hp → VK → Prop) (f : Vl → DSt → R Vl) : Prop :=
  ∀ (W : WX) (ω : Om) (H : Hp) (σ : L2.St) (δ : DSt) (x : Vl) (v : V) (Q : VK), Rel K Γ ω H σ δ → IsV K Γ ω H σ x v → okV K Γ W ω H σ (f x δ) Q → r v H Q
variable {a b e : Expr} {ta tb : TD} {r : R2} {f : Vl → Vl → DSt → R Vl}
theorem up_op2 {K : Frag} {W : WX} (ho : Op2 K Γ r f) {σ : L2.St} {H : Hp} {Q : VK} (h : upE K Γ W (eBin f ta tb) σ H Q) : tOp r (upE K Γ W ta) (upE K Γ W tb) σ H Q := by
  obtain ⟨ω, δ, R, h⟩ := h
  refine up_bind (t := ta) R h fun v H1 ω1 δ1 x e1 R1 i1 h1 => ?_
  exact up_bind (t := tb) R1 h1 fun w H2 ω2 δ2 y e2 R2 i2 h2 => ho W ω2 H2 σ δ2 x y v w Q R2 (IsV.mono e2.f i1) i2 h2
theorem de_op {op : Operator} (hr : OpR X (binaryOp op) r) (ho : Op2 X.K Γ r f) (ha : DE X Γ a ta) (hb : DE X Γ b tb) : DE X Γ (.BinOp a op b pos) (eBin f ta tb) :=
  ⟨fun W tk => PE.imp (pe_op hr (ha.run W tk) (hb.run W tk)) fun _ _ _ => up_op2 ho⟩
theorem de_cmp {op : CmpOp} (hr : OpR X (compareOp op) r) (ho : Op2 X.K Γ r f) (ha : DE X Γ a ta) (hb : DE X Γ b tb) (hm : behindInMarks op b = false := by first | exact nobehind _ (by decide) (by decide) | rfl) : DE X Γ (.Compare a [op] [b] pos) (eBin f ta tb) :=
  ⟨fun W tk => PE.imp (pe_cmpR hr (ha.run W tk) (hb.run W tk) hm) fun _ _ _ => up_op2 ho⟩
/-- a value that is a bool, as a test -/
def vB (δ : DSt) : Vl → R Bool
  | .fz (.bl b) => .ok b δ
  | _ => .stuck
def eT (t : TD) : TDT := fun δ => (t δ).bind fun x δ1 => vB δ1 x
theorem vB_ok {K : Frag} {W : WX} {ω : Om} {H : Hp} {σ : L2.St} {δ : DSt} {x : Vl} {v : V} {Q : Bool → Hp → Prop} (R : Rel K Γ ω H σ δ) (i : IsV K Γ ω H σ x v) (h : okB K Γ W ω H σ (vB δ x) Q) : ∃ c, v = .bl c ∧ Q c H := by
  match x, h, i with
  | .fz (.bl b), h, i => exact ⟨b, i, h.now R rfl⟩
theorem up_T {K : Frag} {W : WX} {t : TD} {σ : L2.St} {H : Hp} {Q : Bool → Hp → Prop} (h : upT K Γ W (eT t) σ H Q) : upE K Γ W t σ H fun x H' => ∃ k, x = .bl k ∧ Q k H' := by
  obtain ⟨ω, δ, R, h⟩ := h
  exact up_bind R h fun v H1 ω1 δ1 x e1 R1 i1 h1 => vB_ok R1 i1 h1
theorem dt_cmp {op : CmpOp} (hr : OpR X (compareOp op) r) (ho : Op2 X.K Γ r f) (ha : DE X Γ a ta) (hb : DE X Γ b tb) (hm : behindInMarks op b = false := by first | exact nobehind _ (by decide) (by decide) | rfl) : DT X Γ (.Compare a [op] [b] pos) (eT (eBin f ta tb)) :=
  ⟨fun W tk => PT.imp (pt_cmpR hr (ha.run W tk) (hb.run W tk) hm) fun σ H Q h => by
    obtain ⟨ω, δ, R, h⟩ := up_T h
    exact up_op2 ho ⟨ω, δ, R, h⟩⟩
/-- any expression that gives a bool, as a test -/
theorem dt_val {t : TD} (h : DE X Γ e t) (he : ∀ whole, isTrue e X.env whole = (do let v ← whole; standAt e.pos; holding [v] (truthy v)) := by intro _; rfl) : DT X Γ e (eT t) :=
  ⟨fun W tk => PT.imp (pt_val (h.run W tk) he) fun _ _ _ h => up_T h⟩
theorem up_op1 {K : Frag} {W : WX} {r : V → Hp → VK → Prop} {f : Vl → DSt → R Vl} (ho : Op1 K Γ r f) {σ : L2.St} {H : Hp} {Q : VK} (h : upE K Γ W (eUn f ta) σ H Q) : tUn r (upE K Γ W ta) σ H Q := by
  obtain ⟨ω, δ, R, h⟩ := h
  exact up_bind (t := ta) R h fun v H1 ω1 δ1 x e1 R1 i1 h1 => ho W ω1 H1 σ δ1 x v Q R1 i1 h1
theorem de_un {op : UnaryOp} {r : V → Hp → VK → Prop} {f : Vl → DSt → R Vl} (hr : UnR X (unaryOp op) r) (ho : Op1 X.K Γ r f) (ha : DE X Γ a ta) : DE X Γ (.UnaryOp op a pos) (eUn f ta) :=
  ⟨fun W tk => PE.imp (pe_un hr (ha.run W tk)) fun _ _ _ => up_op1 ho⟩

/-! ### and, or, not, a if t else b -/
variable {tA tB : TDT} {rest : List Expr}
def bAnd (t u : TDT) : TDT := fun δ => (t δ).bind fun c δ1 => if c = true then u δ1 else .ok false δ1
def bOr (t u : TDT) : TDT := fun δ => (t δ).bind fun c δ1 => if c = true then .ok true δ1 else u δ1
def bNot (t : TDT) : TDT := fun δ => (t δ).bind fun c δ1 => .ok (!c) δ1
theorem dw_and1 (ha : DT X Γ a tA) : DW X Γ (.BoolOp .And [a] pos) tA := ⟨fun W tk => pw_and1 (ha.run W tk)⟩
theorem dw_or1 (ha : DT X Γ a tA) : DW X Γ (.BoolOp .Or [a] pos) tA := ⟨fun W tk => pw_or1 (ha.run W tk)⟩
theorem dw_and (ha : DT X Γ a tA) (hb : DW X Γ (.BoolOp .And (b :: rest) pos) tB) : DW X Γ (.BoolOp .And (a :: b :: rest) pos) (bAnd tA tB) :=
  ⟨fun W tk => PW.imp (pw_and (ha.run W tk) (hb.run W tk)) fun σ H Q h => by
    obtain ⟨ω, δ, R, h⟩ := h
    refine up_bind (t := tA) R h fun v H1 ω1 δ1 x e1 R1 i1 h1 => ?_
    cases i1
    cases v with
    | true => exact iteT ⟨ω1, δ1, R1, h1⟩
    | false => exact iteF (okR.now (rel := rlB) (δ := δ1) (x := false) h1 R1 rfl)⟩
theorem dw_or (ha : DT X Γ a tA) (hb : DW X Γ (.BoolOp .Or (b :: rest) pos) tB) : DW X Γ (.BoolOp .Or (a :: b :: rest) pos) (bOr tA tB) :=
  ⟨fun W tk => PW.imp (pw_or (ha.run W tk) (hb.run W tk)) fun σ H Q h => by
    obtain ⟨ω, δ, R, h⟩ := h
    refine up_bind (t := tA) R h fun v H1 ω1 δ1 x e1 R1 i1 h1 => ?_
    cases i1
    cases v with
    | true => exact iteT (okR.now (rel := rlB) (δ := δ1) (x := true) h1 R1 rfl)
    | false => exact iteF ⟨ω1, δ1, R1, h1⟩⟩
theorem DW.pt {t : TDT} (h : DW X Γ e t) : DT X Γ e t := ⟨fun W tk => (h.run W tk).pt⟩
theorem dt_not (ha : DT X Γ a tA) : DT X Γ (.UnaryOp .Not a pos) (bNot tA) :=
  ⟨fun W tk => PT.imp (pt_not (ha.run W tk)) fun σ H Q h => by
    obtain ⟨ω, δ, R, h⟩ := h
    refine up_bind (t := tA) R h fun v H1 ω1 δ1 x e1 R1 i1 h1 => ?_
    cases i1
    exact okR.now h1 R1 rfl⟩
/-- as values, all of them bools -/
def eAnd (ta tb : TD) : TD := fun δ => ((ta δ).bind fun x δ1 => vB δ1 x).bind fun c δ1 => if c = true then tb δ1 else .ok (.fz (.bl false)) δ1
def eOr (ta tb : TD) : TD := fun δ => ((ta δ).bind fun x δ1 => vB δ1 x).bind fun c δ1 => if c = true then .ok (.fz (.bl true)) δ1 else tb δ1
def eNot (ta : TD) : TD := fun δ => ((ta δ).bind fun x δ1 => vB δ1 x).bind fun c δ1 => .ok (.fz (.bl (!c))) δ1
theorem de_one {op} {t : TD} (h : DE X Γ a t) : DE X Γ (.BoolOp op [a] pos) t := ⟨fun W tk => pe_one (h.run W tk)⟩
theorem up_vB {K : Frag} {W : WX} {ω : Om} {H : Hp} {σ : L2.St} {δ : DSt} {t : TD} {f : Bool → DSt → R Vl} {Q : VK} (Rl : Rel K Γ ω H σ δ) (h : okV K Γ W ω H σ (((t δ).bind fun x δ1 => vB δ1 x).bind f) Q) :
    upE K Γ W t σ H fun v H1 => ∃ c ω1 δ1, v = .bl c ∧ Rel K Γ ω1 H1 σ δ1 ∧ okV K Γ W ω1 H1 σ (f c δ1) Q := by
  refine ⟨ω, δ, Rl, ?_⟩
  cases q : t δ with
  | ok x δ1 =>
    rw [q] at h
    intro v H1 ω1 e1 R1 i1
    match x, h, i1 with
    | .fz (.bl b), h, i1 => exact ⟨b, ω1, δ1, i1, R1, okR.ext e1 h⟩
    | .fz .non, h, _ => exact (show False from h).elim
    | .fz (.int _), h, _ => exact (show False from h).elim
    | .fz (.str _), h, _ => exact (show False from h).elim
    | .fz (.ty _), h, _ => exact (show False from h).elim
    | .fz (.adr _), h, _ => exact (show False from h).elim
    | .fz (.cls _), h, _ => exact (show False from h).elim
    | .fz (.lst _), h, _ => exact (show False from h).elim
    | .fz (.tup _), h, _ => exact (show False from h).elim
    | .fz (.scr _), h, _ => exact (show False from h).elim
    | .fz (.ins ..), h, _ => exact (show False from h).elim
    | .fz (.exc ..), h, _ => exact (show False from h).elim
    | .sl _, h, _ => exact (show False from h).elim
  | exc c ns ds δ1 => rw [q] at h; exact h
  | stuck => rw [q] at h; exact h
theorem de_and (ha : DE X Γ a ta) (hb : DE X Γ (.BoolOp .And (b :: rest) pos) tb) : DE X Γ (.BoolOp .And (a :: b :: rest) pos) (eAnd ta tb) :=
  ⟨fun W tk => PE.imp (pe_and (ha.run W tk) (hb.run W tk)) fun σ H Q h => by
    obtain ⟨ω, δ, R, h⟩ := h
    obtain ⟨ω0, δ0, R0, h0⟩ := up_vB (f := fun c δ1 => if c = true then tb δ1 else .ok (.fz (.bl false)) δ1) R h
    refine ⟨ω0, δ0, R0, ?_⟩
    revert h0
    cases ta δ0 with
    | ok x δ1 =>
      intro h0 v H1 ω1 e1 R1 i1
      obtain ⟨c, ω2, δ2, e, R2, q⟩ := h0 v H1 ω1 e1 R1 i1
      refine ⟨c, e, ?_⟩
      cases c with
      | true => exact iteT ⟨ω2, δ2, R2, q⟩
      | false => exact iteF (okR.now (δ := δ2) (x := Vl.fz (.bl false)) q R2 rfl)
    | exc c ns ds δ1 => exact id
    | stuck => exact id⟩
theorem de_or (ha : DE X Γ a ta) (hb : DE X Γ (.BoolOp .Or (b :: rest) pos) tb) : DE X Γ (.BoolOp .Or (a :: b :: rest) pos) (eOr ta tb) :=
  ⟨fun W tk => PE.imp (pe_or (ha.run W tk) (hb.run W tk)) fun σ H Q h => by
    obtain ⟨ω, δ, R, h⟩ := h
    obtain ⟨ω0, δ0, R0, h0⟩ := up_vB (f := fun c δ1 => if c = true then .ok (.fz (.bl true)) δ1 else tb δ1) R h
    refine ⟨ω0, δ0, R0, ?_⟩
    revert h0
    cases ta δ0 with
    | ok x δ1 =>
      intro h0 v H1 ω1 e1 R1 i1
      obtain ⟨c, ω2, δ2, e, R2, q⟩ := h0 v H1 ω1 e1 R1 i1
      refine ⟨c, e, ?_⟩
      cases c with
      | true => exact iteT (okR.now (δ := δ2) (x := Vl.fz (.bl true)) q R2 rfl)
      | false => exact iteF ⟨ω2, δ2, R2, q⟩
    | exc c ns ds δ1 => exact id
    | stuck => exact id⟩
theorem de_not (ha : DE X Γ a ta) : DE X Γ (.UnaryOp .Not a pos) (eNot ta) :=
  ⟨fun W tk => PE.imp (pe_not (ha.run W tk)) fun σ H Q h => by
    obtain ⟨ω, δ, R, h⟩ := h
    obtain ⟨ω0, δ0, R0, h0⟩ := up_vB (f := fun c δ1 => .ok (.fz (.bl (!c))) δ1) R h
    refine ⟨ω0, δ0, R0, ?_⟩
    revert h0
    cases ta δ0 with
    | ok x δ1 =>
      intro h0 v H1 ω1 e1 R1 i1
      obtain ⟨c, ω2, δ2, e, R2, q⟩ := h0 v H1 ω1 e1 R1 i1
      exact ⟨c, e, okR.now (δ := δ2) q R2 rfl⟩
    | exc c ns ds δ1 => exact id
    | stuck => exact id⟩
def eIf (t : TDT) (ta tb : TD) : TD := fun δ => (t δ).bind fun c δ1 => if c = true then ta δ1 else tb δ1
theorem de_if {c : Expr} (hc : DT X Γ c tA) (ha : DE X Γ a ta) (hb : DE X Γ b tb) : DE X Γ (.IfExp c a b pos) (eIf tA ta tb) :=
  ⟨fun W tk => PE.imp (pe_ifExp (hc.run W tk) (ha.run W tk) (hb.run W tk)) fun σ H Q h => by
    obtain ⟨ω, δ, R, h⟩ := h
    refine up_bind (t := tA) R h fun v H1 ω1 δ1 x e1 R1 i1 h1 => ?_
    cases i1
    cases v with
    | true => exact iteT ⟨ω1, δ1, R1, h1⟩
    | false => exact iteF ⟨ω1, δ1, R1, h1⟩⟩
/-! ### arguments -/
def aNil : TDA := fun δ => .ok [] δ
def aCons (t : TD) (r : TDA) : TDA := fun δ => (t δ).bind fun x δ1 => (r δ1).bind fun xs δ2 => .ok (x :: xs) δ2
theorem da_nil : DA X Γ [] aNil := ⟨fun W tk => PA.imp pa_nil fun σ H Q h => by
  obtain ⟨ω, δ, R, h⟩ := h
  exact okR.now (δ := δ) h R rfl⟩
theorem da_cons {es : List Expr} {t : TD} {u : TDA} (ha : DE X Γ e t) (hr : DA X Γ es u) (hs : starEach (e :: es) X.env = (false, eval e X.env) :: starEach es X.env := by rfl) : DA X Γ (e :: es) (aCons t u) :=
  ⟨fun W tk => PA.imp (pa_cons (ha.run W tk) (hr.run W tk) hs) fun σ H Q h => by
    obtain ⟨ω, δ, R, h⟩ := h
    refine up_bind (t := t) R h fun v H1 ω1 δ1 x e1 R1 i1 h1 => ?_
    refine up_bind (t := u) R1 h1 fun w H2 ω2 δ2 y e2 R2 i2 h2 => ?_
    exact okR.now (δ := δ2) h2 R2 ⟨v, w, rfl, IsV.mono e2.f i1, i2⟩⟩
end
end DL

set_option Elab.async false
set_option linter.all false
set_option maxRecDepth 100000
namespace DL
open PySem PySem.Spec PyProof.Rows L2
/-! ### new objects -/
/-- a tag that a new object is to have -/
def rlG (K : Frag) (Γ : Gm) (τ : Tg) : Om → Hp → L2.St → D → V → Prop := fun ω H _ d v => match τ with
  | .own i => ∃ a vs ds, v = .ref a ∧ d = .lst ds ∧ ω a = .own i ∧ H a = some (.lst vs) ∧ IsL K ω H Γ.xi ds vs
  | .bor => True
  | _ => Is K ω H Γ.xi d v
abbrev TDG := DSt → R D
structure DG (X : Cx) (Γ : Gm) (τ : Tg) (e : Expr) (t : TDG) : Prop where
  run : ∀ W, L2N.Takes X W → PE X e (up X.K Γ W (rlG X.K Γ τ) t)
abbrev okG (K : Frag) (Γ : Gm) (W : WX) (τ : Tg) (ω : Om) (H : Hp) (σ : L2.St) : R D → VK → Prop := okR K Γ W ω H σ (rlG K Γ τ)
section
variable {K : Frag} {Γ : Gm} {W : WX} {ω ω' : Om} {H H' : Hp} {σ : L2.St} {δ δ' : DSt} {τ : Tg}
/-- a new object at p with the tag τ -/
def nwO (ω : Om) (p : Addr) (τ : Tg) : Om := fun b => if b = p then τ else ω b
theorem nwO_self {p : Addr} : nwO ω p τ p = τ := by unfold nwO; rw [if_pos rfl]
theorem nwO_ne {p b : Addr} (h : b ≠ p) : nwO ω p τ b = ω b := by unfold nwO; rw [if_neg h]
theorem Rel.fresh (R : Rel K Γ ω H σ δ) {p : Addr} (hp : H p = none) : ω p = .out := by
  cases e : ω p with
  | out => rfl
  | fz =>
    obtain ⟨o, q⟩ := R.wf p (by rw [e]; intro z; cases z)
    rw [hp] at q; cases q
  | own i =>
    obtain ⟨o, q⟩ := R.wf p (by rw [e]; intro z; cases z)
    rw [hp] at q; cases q
  | bor =>
    obtain ⟨o, q⟩ := R.wf p (by rw [e]; intro z; cases z)
    rw [hp] at q; cases q
theorem Rel.nwExt (R : Rel K Γ ω H σ δ) {p : Addr} (hp : H p = none) (o : HO) : Ext ω H (nwO ω p τ) (upd H p o) := by
  have hw := R.fresh hp
  refine ⟨fun b h => ?_, fun b u h h' => ?_⟩
  · have ne : b ≠ p := fun z => by rw [z, hw] at h; rcases h with h | h <;> cases h
    exact ⟨nwO_ne ne, upd_ne ne⟩
  · have ne : b ≠ p := fun z => by rw [z, hp] at h; cases h
    exact ⟨by rw [nwO_ne ne]; exact h', by rw [upd_ne ne]; exact h⟩
theorem Rel.new (R : Rel K Γ ω H σ δ) {p : Addr} (hp : H p = none) (o : HO) : Rel K Γ (nwO ω p τ) (upd H p o) σ δ := by
  have X := R.nwExt (τ := τ) hp o
  have hw := R.fresh hp
  refine ⟨fun b h => ?_, R.len, fun i e hi => (R.sl i e hi).mono X.f fun b hb => ?_, R.pin⟩
  · by_cases e : b = p
    · exact ⟨o, by rw [e]; exact upd_same⟩
    · rw [nwO_ne e] at h
      obtain ⟨u, q⟩ := R.wf b h
      exact ⟨u, by rw [upd_ne e]; exact q⟩
  · have ne : b ≠ p := fun z => by rw [z, hw] at hb; cases hb
    exact ⟨by rw [nwO_ne ne]; exact hb, upd_ne ne⟩
theorem new_lst (hτ : τ ≠ .out) (R : Rel K Γ ω H σ δ) {ds : List D} {vs : List V} {Q : VK} (hl : IsL K ω H Γ.xi ds vs) (h : okG K Γ W τ ω H σ (.ok (.lst ds) δ) Q) : ∀ p, H p = none → Q (.ref p) (upd H p (.lst vs)) := fun p hp => by
  have X := R.nwExt (τ := τ) hp (.lst vs)
  refine okR.at (x := D.lst ds) h X (R.new hp _) ?_
  cases τ with
  | out => exact absurd rfl hτ
  | fz => exact ⟨p, vs, rfl, ⟨nwO_self, upd_same⟩, hl.mono X.f⟩
  | own i => exact ⟨p, vs, ds, rfl, rfl, nwO_self, upd_same, hl.mono X.f⟩
  | bor => trivial
theorem new_tup (R : Rel K Γ ω H σ δ) {ds : List D} {vs : List V} {Q : VK} (hl : IsL K ω H Γ.xi ds vs) (h : okV K Γ W ω H σ (.ok (.fz (.tup ds)) δ) Q) : ∀ p, H p = none → Q (.ref p) (upd H p (.tup vs)) := fun p hp => by
  have X := R.nwExt (τ := .fz) hp (.tup vs)
  exact okR.at (x := Vl.fz (.tup ds)) h X (R.new hp _) ⟨p, vs, rfl, .inl ⟨nwO_self, upd_same⟩, hl.mono X.f⟩
theorem new_lstV (R : Rel K Γ ω H σ δ) {ds : List D} {vs : List V} {Q : VK} (hl : IsL K ω H Γ.xi ds vs) (h : okV K Γ W ω H σ (.ok (.fz (.lst ds)) δ) Q) : ∀ p, H p = none → Q (.ref p) (upd H p (.lst vs)) := fun p hp => by
  have X := R.nwExt (τ := .fz) hp (.lst vs)
  exact okR.at (x := Vl.fz (.lst ds)) h X (R.new hp _) ⟨p, vs, rfl, ⟨nwO_self, upd_same⟩, hl.mono X.f⟩
end
/-- a new object at once frozen -/
def gFz (t : TDG) : TD := fun δ => (t δ).bind fun d δ1 => .ok (.fz d) δ1
theorem de_g {X : Cx} {Γ : Gm} {e : Expr} {t : TDG} (h : DG X Γ .fz e t) : DE X Γ e (gFz t) := ⟨fun W tk => PE.imp (h.run W tk) fun σ H Q hq => by
  obtain ⟨ω, δ, R, hq⟩ := hq
  refine ⟨ω, δ, R, ?_⟩
  unfold gFz at hq
  cases e : t δ with
  | ok d δ1 =>
    rw [e] at hq
    exact fun v H' ω' x r i => hq v H' ω' x r i
  | exc c ns ds δ1 => rw [e] at hq; exact hq
  | stuck => rw [e] at hq; exact hq⟩

/-! ### equality -/
mutual
def toPy : D → PyData
  | .non => .none
  | .bl b => .bool b
  | .int i => .int i
  | .str x => .str x
  | .lst xs => .list (toPyL xs)
  | .tup xs => .tuple (toPyL xs)
  | _ => .dict []
def toPyL : List D → List PyData
  | [] => []
  | x :: xs => toPy x :: toPyL xs
end
section
variable {K : Frag} {Γ : Gm} {W : WX} {ω ω' : Om} {H H' : Hp} {σ : L2.St} {δ δ' : DSt} {xi : Xi}
theorem NdT.sq' {a : Addr} {xs : List V} (h : NdT K ω H a xs) : SqT K H a xs := h.sq
mutual
theorem is_dp : ∀ {d : D} {v : V}, Is K ω H xi d v → PyData.canLay0 (toPy d) = true → Dp K H v (toPy d)
  | .non, v, h, _ => by cases (show v = V.non from h); unfold toPy; exact .non
  | .bl b, v, h, _ => by cases (show v = V.bl b from h); unfold toPy; exact .bl b
  | .int i, v, h, _ => by cases (show v = V.int i from h); unfold toPy; exact .int i
  | .str x, v, h, _ => by cases (show v = V.str x from h); unfold toPy; exact .str x
  | .ty n, v, h, c => by simp [toPy, PyData.canLay0] at c
  | .adr n, v, h, c => by simp [toPy, PyData.canLay0] at c
  | .cls n, v, h, c => by simp [toPy, PyData.canLay0] at c
  | .scr n, v, h, c => by simp [toPy, PyData.canLay0] at c
  | .ins _ _ _, v, h, c => by simp [toPy, PyData.canLay0] at c
  | .exc _ _ _, v, h, c => by simp [toPy, PyData.canLay0] at c
  | .lst ds, v, h, c => by
    obtain ⟨a, vs, rfl, n, l⟩ := h
    unfold toPy at c ⊢
    exact .lst n.sq (is_dpL l c)
  | .tup ds, v, h, c => by
    obtain ⟨a, vs, rfl, n, l⟩ := h
    unfold toPy at c ⊢
    exact .tup n.sq (is_dpL l c)
theorem is_dpL : ∀ {ds : List D} {vs : List V}, IsL K ω H xi ds vs → PyData.canLayAll0 (toPyL ds) = true → DpAll K H vs (toPyL ds)
  | [], vs, h, _ => by cases (show vs = [] from h); unfold toPyL; exact .nil
  | d :: ds, vs, h, c => by
    obtain ⟨v, r, rfl, h1, h2⟩ := h
    unfold toPyL at c ⊢
    unfold PyData.canLayAll0 at c
    obtain ⟨c1, c2⟩ := Bool.and_eq_true_iff.mp c
    exact .cons (is_dp h1 c1) (is_dpL h2 c2)
end
theorem rb_dp {d : D} {v : V} (h : Rb K ω H xi d v) (c : SeqAt.shaped (toPy d) = true) : Dp K H v (toPy d) := by
  have c1 := SeqAt.canLay_of_shaped c
  rcases h with h | ⟨a, vs, ds, rfl, rfl, h, l⟩
  · exact is_dp h c1
  · unfold toPy at c1 ⊢
    exact .lst (SqL.of h) (is_dpL l c1)
/-- == of scalars -/
def eqS : D → D → Option Bool
  | .int i, .int j => some (decide (i = j))
  | .str x, .str y => some (decide (x = y))
  | .bl a, .bl b => some (decide (a = b))
  | .non, .non => some true
  | .non, .int _ => some false
  | .int _, .non => some false
  | .non, .str _ => some false
  | .str _, .non => some false
  | .non, .bl _ => some false
  | .bl _, .non => some false
  | _, _ => none
def eqD (d e : D) : Option Bool := match eqS d e with
  | some b => some b
  | none => if SeqAt.shaped (toPy d) && SeqAt.shaped (toPy e) then some (PyData.eqv (toPy d) (toPy e)) else none
def opEq (neg : Bool) (x y : Vl) (δ : DSt) : R Vl := match dr δ x, dr δ y with
  | some d, some e => (match eqD d e with
    | some b => .ok (.fz (.bl (if neg then !b else b))) δ
    | none => .stuck)
  | _, _ => .stuck
theorem eqS_ok {d e : D} {v w : V} {b : Bool} (h1 : Rb K ω H xi d v) (h2 : Rb K ω H xi e w) (h : eqS d e = some b) : scal v w = true ∧ decide (v = w) = b := by
  cases d with
  | int i =>
    cases e with
    | int j => cases h; rw [h1.int, h2.int]; exact ⟨rfl, by simp⟩
    | non => cases h; rw [h1.int, h2.non]; exact ⟨rfl, by simp⟩
    | _ => cases h
  | str i =>
    cases e with
    | str j => cases h; rw [h1.str, h2.str]; exact ⟨rfl, by simp⟩
    | non => cases h; rw [h1.str, h2.non]; exact ⟨rfl, by simp⟩
    | _ => cases h
  | bl i =>
    cases e with
    | bl j => cases h; rw [h1.bl, h2.bl]; exact ⟨rfl, by simp⟩
    | non => cases h; rw [h1.bl, h2.non]; exact ⟨rfl, by simp⟩
    | _ => cases h
  | non =>
    cases e with
    | int j => cases h; rw [h1.non, h2.int]; exact ⟨rfl, by simp⟩
    | str j => cases h; rw [h1.non, h2.str]; exact ⟨rfl, by simp⟩
    | bl j => cases h; rw [h1.non, h2.bl]; exact ⟨rfl, by simp⟩
    | non => cases h; rw [h1.non, h2.non]; exact ⟨rfl, by simp⟩
    | _ => cases h
  | _ => cases h
theorem opEq_ok {x y : Vl} {v w : V} {Q : VK} {neg : Bool} (R : Rel K Γ ω H σ δ) (i1 : IsV K Γ ω H σ x v) (i2 : IsV K Γ ω H σ y w) (h : okV K Γ W ω H σ (opEq neg x y δ) Q) :
    ∃ b, ((scal v w = true ∧ decide (v = w) = b) ∨ ∃ d e, Dp K H v d ∧ Dp K H w e ∧ SeqAt.shaped d = true ∧ SeqAt.shaped e = true ∧ PyData.eqv d e = b) ∧ Q (.bl (if neg then !b else b)) H := by
  unfold opEq at h
  cases e1 : dr δ x with
  | none => rw [e1] at h; exact h.elim
  | some d =>
    cases e2 : dr δ y with
    | none => rw [e1, e2] at h; exact h.elim
    | some e =>
      rw [e1, e2] at h
      have r1 := dr_ok R i1 e1
      have r2 := dr_ok R i2 e2
      dsimp only at h
      cases q : eqD d e with
      | none => rw [q] at h; exact h.elim
      | some b =>
        rw [q] at h
        refine ⟨b, ?_, h.now R rfl⟩
        unfold eqD at q
        cases qs : eqS d e with
        | some c => rw [qs] at q; cases q; exact .inl (eqS_ok r1 r2 qs)
        | none =>
          rw [qs] at q
          dsimp only at q
          split at q
          · rename_i hs
            cases q
            obtain ⟨s1, s2⟩ := Bool.and_eq_true_iff.mp hs
            exact .inr ⟨_, _, rb_dp r1 s1, rb_dp r2 s2, s1, s2, rfl⟩
          · cases q
theorem op2_eq : Op2 K Γ (fun x y H Q => rEq x y H Q ∨ rEqD K x y H Q) (opEq false) := fun W ω H σ δ x y v w Q R i1 i2 h => by
  obtain ⟨b, hb, q⟩ := opEq_ok R i1 i2 h
  rcases hb with ⟨s, e⟩ | ⟨d, e, h1, h2, h3, h4, h5⟩
  · exact .inl ⟨s, by rw [e]; exact q⟩
  · exact .inr ⟨d, e, h1, h2, h3, h4, by rw [h5]; exact q⟩
theorem op2_ne : Op2 K Γ (fun x y H Q => rNe x y H Q ∨ rNeD K x y H Q) (opEq true) := fun W ω H σ δ x y v w Q R i1 i2 h => by
  obtain ⟨b, hb, q⟩ := opEq_ok R i1 i2 h
  rcases hb with ⟨s, e⟩ | ⟨d, e, h1, h2, h3, h4, h5⟩
  · exact .inl ⟨s, by rw [e]; exact q⟩
  · exact .inr ⟨d, e, h1, h2, h3, h4, by rw [h5]; exact q⟩

/-! ### numbers -/
/-- two ints -/
def op2I (f : Int → Int → Option D) (x y : Vl) (δ : DSt) : R Vl := match dr δ x, dr δ y with
  | some (.int i), some (.int j) => (match f i j with
    | some d => .ok (.fz d) δ
    | none => .stuck)
  | _, _ => .stuck
theorem op2I_ok {f : Int → Int → Option D} {x y : Vl} {v w : V} {Q : VK} (R : Rel K Γ ω H σ δ) (i1 : IsV K Γ ω H σ x v) (i2 : IsV K Γ ω H σ y w) (h : okV K Γ W ω H σ (op2I f x y δ) Q) :
    ∃ i j d, v = .int i ∧ w = .int j ∧ f i j = some d ∧ ∀ u, Is K ω H Γ.xi d u → Q u H := by
  unfold op2I at h
  split at h
  · rename_i i j e1 e2
    have h1 := (dr_ok R i1 e1).int
    have h2 := (dr_ok R i2 e2).int
    cases q : f i j with
    | none => rw [q] at h; exact h.elim
    | some d => rw [q] at h; exact ⟨i, j, d, h1, h2, q, fun u hu => okR.now (x := Vl.fz d) h R hu⟩
  · exact h.elim
theorem op2_I0 {g : Int → Int → V} {f : Int → Int → D} (hg : ∀ i j K ω H xi, Is K ω H xi (f i j) (g i j)) : Op2 K Γ (rI0 g) (op2I fun i j => some (f i j)) := fun W ω H σ δ x y v w Q R i1 i2 h => by
  obtain ⟨i, j, d, e1, e2, e3, q⟩ := op2I_ok R i1 i2 h
  cases e3
  exact ⟨i, j, e1, e2, q _ (hg _ _ _ _ _ _)⟩
/-- .. under a condition -/
theorem op2_Ic {C : Int → Int → Prop} {c : Int → Int → Bool} {g : Int → Int → V} {f : Int → Int → D} (hg : ∀ i j K ω H xi, Is K ω H xi (f i j) (g i j)) (hc : ∀ i j, c i j = true → C i j) : Op2 K Γ (rI C g) (op2I fun i j => if c i j then some (f i j) else none) := fun W ω H σ δ x y v w Q R i1 i2 h => by
  obtain ⟨i, j, d, e1, e2, e3, q⟩ := op2I_ok R i1 i2 h
  by_cases z : c i j = true
  · rw [if_pos z] at e3
    cases e3
    exact ⟨i, j, e1, e2, hc _ _ z, q _ (hg _ _ _ _ _ _)⟩
  · rw [if_neg z] at e3
    cases e3
def opSub := op2I fun i j => some (.int (i - j))
def mulOk (i j : Int) : Bool := decide ((Builtin.Int.intBits i : Int) + (Builtin.Int.intBits j : Int) ≤ 134217728)
def opMul := op2I fun i j => if mulOk i j then some (.int (i * j)) else none
/-- a divisor above 0, below 2 ^ 9000 -/
def divOk (_ j : Int) : Bool := decide (0 < j) && decide (j.natAbs.log2 < 9000)
def opDiv := op2I fun i j => if divOk i j then some (.int (i / j)) else none
def opMod := op2I fun i j => if decide (0 < j) then some (.int (i % j)) else none
def powOk (i j : Int) : Bool := decide (0 ≤ j) && decide (j ≤ 1000000) && decide (i.natAbs < 2 ^ 64)
def opPow := op2I fun i j => if powOk i j then some (.int (i ^ j.toNat)) else none
def opLt := op2I fun i j => some (.bl (decide (i < j)))
def opLe := op2I fun i j => some (.bl (decide (i ≤ j)))
def opGt := op2I fun i j => some (.bl (decide (j < i)))
def opGe := op2I fun i j => some (.bl (decide (j ≤ i)))
theorem op2_sub : Op2 K Γ (rI0 fun i j => .int (i - j)) opSub := op2_I0 fun _ _ _ _ _ _ => rfl
theorem op2_lt : Op2 K Γ (rI0 fun i j => .bl (decide (i < j))) opLt := op2_I0 fun _ _ _ _ _ _ => rfl
theorem op2_le : Op2 K Γ (rI0 fun i j => .bl (decide (i ≤ j))) opLe := op2_I0 fun _ _ _ _ _ _ => rfl
theorem op2_gt : Op2 K Γ (rI0 fun i j => .bl (decide (j < i))) opGt := op2_I0 fun _ _ _ _ _ _ => rfl
theorem op2_ge : Op2 K Γ (rI0 fun i j => .bl (decide (j ≤ i))) opGe := op2_I0 fun _ _ _ _ _ _ => rfl
theorem op2_mul : Op2 K Γ (rI CMulX fun i j => .int (i * j)) opMul := op2_Ic (fun _ _ _ _ _ _ => rfl) fun i j h => of_decide_eq_true (p := (Builtin.Int.intBits i : Int) + (Builtin.Int.intBits j : Int) ≤ 134217728) h
theorem op2_div : Op2 K Γ (rI CDivW fun i j => .int (i / j)) opDiv := op2_Ic (fun _ _ _ _ _ _ => rfl) fun _ _ h => ⟨of_decide_eq_true (Bool.and_eq_true_iff.mp h).1, of_decide_eq_true (Bool.and_eq_true_iff.mp h).2⟩
theorem op2_mod : Op2 K Γ (rI (fun _ j => 0 < j) fun i j => .int (i % j)) opMod := op2_Ic (c := fun _ j => decide (0 < j)) (fun _ _ _ _ _ _ => rfl) fun _ _ h => of_decide_eq_true h
theorem op2_pow : Op2 K Γ (rI CPow fun i j => .int (i ^ j.toNat)) opPow := op2_Ic (fun _ _ _ _ _ _ => rfl) fun _ _ h =>
  ⟨of_decide_eq_true (Bool.and_eq_true_iff.mp (Bool.and_eq_true_iff.mp h).1).1, of_decide_eq_true (Bool.and_eq_true_iff.mp (Bool.and_eq_true_iff.mp h).1).2, of_decide_eq_true (Bool.and_eq_true_iff.mp h).2⟩
def op1I (f : Int → D) (x : Vl) (δ : DSt) : R Vl := match dr δ x with
  | some (.int i) => .ok (.fz (f i)) δ
  | _ => .stuck
def opNeg := op1I fun i => .int (-i)
theorem op1_neg : Op1 K Γ (rU fun i => .int (-i)) opNeg := fun W ω H σ δ x v Q R i1 h => by
  unfold opNeg op1I at h
  split at h
  · rename_i i e1
    exact ⟨i, (dr_ok R i1 e1).int, okR.now (x := Vl.fz (D.int (-i))) h R rfl⟩
  · exact h.elim

/-! ### + -/
def opAdd (x y : Vl) (δ : DSt) : R Vl := match dr δ x, dr δ y with
  | some (.int i), some (.int j) => .ok (.fz (.int (i + j))) δ
  | some (.str a), some (.str b) => if a.length + b.length ≤ sizeLine then .ok (.fz (.str (a ++ b))) δ else .stuck
  | some (.lst xs), some (.lst ys) => if xs.length + ys.length ≤ sizeLine then .ok (.fz (.lst (xs ++ ys))) δ else .stuck
  | some (.tup xs), some (.tup ys) => if xs.length + ys.length ≤ sizeLine then .ok (.fz (.tup (xs ++ ys))) δ else .stuck
  | _, _ => .stuck
def rAdd4 (K : Frag) : R2 := fun x y H Q => ((rI0 (fun i j => .int (i + j))) x y H Q ∨ (∃ i j, x = .str i ∧ y = .str j ∧ i.length + j.length ≤ sizeLine ∧ Q (.str (i ++ j)) H)) ∨ (rCat x y H Q ∨ rCatA K x y H Q)
theorem opr_add {X : Cx} : OpR X (binaryOp .Add) (rAdd4 X.K) := (op_add.or op_add_str).or (op_cat.or op_catA)
theorem op2_add : Op2 K Γ (rAdd4 K) opAdd := fun W ω H σ δ x y v w Q R i1 i2 h => by
  unfold opAdd at h
  split at h
  · rename_i i j e1 e2
    exact .inl (.inl ⟨i, j, (dr_ok R i1 e1).int, (dr_ok R i2 e2).int, okR.now (x := Vl.fz (D.int (i + j))) h R rfl⟩)
  · rename_i a b e1 e2
    by_cases hz : a.length + b.length ≤ sizeLine
    · rw [if_pos hz] at h
      exact .inl (.inr ⟨a, b, (dr_ok R i1 e1).str, (dr_ok R i2 e2).str, hz, okR.now (x := Vl.fz (D.str (a ++ b))) h R rfl⟩)
    · rw [if_neg hz] at h; exact h.elim
  · rename_i xs ys e1 e2
    by_cases hz : xs.length + ys.length ≤ sizeLine
    · rw [if_pos hz] at h
      obtain ⟨a, vs, rfl, h1, l1⟩ := (dr_ok R i1 e1).lstH
      obtain ⟨b, ws, rfl, h2, l2⟩ := (dr_ok R i2 e2).lstH
      exact .inr (.inl ⟨a, b, vs, ws, rfl, rfl, h1, h2, by rw [l1.length, l2.length]; exact hz, new_lstV R (l1.append l2) h⟩)
    · rw [if_neg hz] at h; exact h.elim
  · rename_i xs ys e1 e2
    by_cases hz : xs.length + ys.length ≤ sizeLine
    · rw [if_pos hz] at h
      obtain ⟨a, vs, rfl, n1, h1, l1⟩ := (dr_ok R i1 e1).tup
      obtain ⟨b, ws, rfl, n2, h2, l2⟩ := (dr_ok R i2 e2).tup
      refine .inr (.inr ⟨a, b, vs, ws, rfl, rfl, h1, h2, by rw [l1.length, l2.length]; exact hz, fun z => ?_, fun _ z => ?_, fun _ _ => new_tup R (l1.append l2) h⟩)
      · have : xs = [] := List.eq_nil_of_length_eq_zero (by rw [← l1.length, z] <;> rfl)
        subst this
        exact okR.now (x := Vl.fz (D.tup ([] ++ ys))) h R ⟨b, ws, rfl, n2, l2⟩
      · have : ys = [] := List.eq_nil_of_length_eq_zero (by rw [← l2.length, z] <;> rfl)
        subst this
        exact okR.now (x := Vl.fz (D.tup (xs ++ []))) h R ⟨a, vs, rfl, n1, by rw [List.append_nil]; exact l1⟩
    · rw [if_neg hz] at h; exact h.elim
  · exact h.elim

/-! ### in -/
def flatD : D → Bool
  | .non | .bl _ | .int _ | .str _ => true
  | _ => false
/-- == of flat data -/
def eqF : D → D → Bool
  | .non, .non => true
  | .bl a, .bl b => a == b
  | .bl a, .int b => (if a then 1 else 0) == b
  | .int a, .bl b => a == (if b then 1 else 0)
  | .int a, .int b => a == b
  | .str a, .str b => a == b
  | _, _ => false
theorem flat_v {d : D} {v : V} (h : Is K ω H xi d v) (f : flatD d = true) : flatV v = true := by
  cases d with
  | non => cases (show v = V.non from h); rfl
  | bl b => cases (show v = V.bl b from h); rfl
  | int b => cases (show v = V.int b from h); rfl
  | str b => cases (show v = V.str b from h); rfl
  | _ => cases f
theorem flat_eq {d e : D} {v w : V} (h : Is K ω H xi d v) (h' : Is K ω H xi e w) (f : flatD d = true) (g : flatD e = true) : eqV v w = eqF d e := by
  cases d with
  | non =>
    cases (show v = V.non from h)
    cases e with
    | non => cases (show w = V.non from h'); rfl
    | bl b => cases (show w = V.bl b from h'); rfl
    | int b => cases (show w = V.int b from h'); rfl
    | str b => cases (show w = V.str b from h'); rfl
    | _ => cases g
  | bl a =>
    cases (show v = V.bl a from h)
    cases e with
    | non => cases (show w = V.non from h'); rfl
    | bl b => cases (show w = V.bl b from h'); rfl
    | int b => cases (show w = V.int b from h'); rfl
    | str b => cases (show w = V.str b from h'); rfl
    | _ => cases g
  | int a =>
    cases (show v = V.int a from h)
    cases e with
    | non => cases (show w = V.non from h'); rfl
    | bl b => cases (show w = V.bl b from h'); rfl
    | int b => cases (show w = V.int b from h'); rfl
    | str b => cases (show w = V.str b from h'); rfl
    | _ => cases g
  | str a =>
    cases (show v = V.str a from h)
    cases e with
    | non => cases (show w = V.non from h'); rfl
    | bl b => cases (show w = V.bl b from h'); rfl
    | int b => cases (show w = V.int b from h'); rfl
    | str b => cases (show w = V.str b from h'); rfl
    | _ => cases g
  | _ => cases f
theorem flat_all : ∀ {ds : List D} {vs : List V}, IsL K ω H xi ds vs → ds.all flatD = true → vs.all flatV = true
  | [], _, h, _ => by cases (show _ = ([] : List V) from h); rfl
  | d :: ds, _, h, f => by
    obtain ⟨v, r, rfl, h1, h2⟩ := h
    rw [List.all_cons, Bool.and_eq_true] at f ⊢
    exact ⟨flat_v h1 f.1, flat_all h2 f.2⟩
theorem flat_in {e : D} {w : V} (h' : Is K ω H xi e w) (g : flatD e = true) : ∀ {ds : List D} {vs : List V}, IsL K ω H xi ds vs → ds.all flatD = true → inV w vs = ds.any fun d => eqF d e
  | [], _, h, _ => by cases (show _ = ([] : List V) from h); rfl
  | d :: ds, _, h, f => by
    obtain ⟨v, r, rfl, h1, h2⟩ := h
    rw [List.all_cons, Bool.and_eq_true] at f
    have e2 := flat_in h' g h2 f.2
    unfold inV at e2 ⊢
    rw [List.any_cons, List.any_cons, e2, flat_eq h1 h' f.1 g]
def items : D → Option (List D)
  | .lst xs => some xs
  | .tup xs => some xs
  | .brw xs => some xs
  | _ => none
theorem Rb.items {d : D} {v : V} {xs : List D} (h : Rb K ω H xi d v) (e : items d = some xs) : ∃ a vs, v = .ref a ∧ (SqL K H a vs ∨ SqT K H a vs) ∧ IsL K ω H xi xs vs := by
  cases d with
  | lst ys =>
    cases e
    obtain ⟨a, vs, e, n, l⟩ := h.lst
    exact ⟨a, vs, e, .inl n, l⟩
  | tup ys =>
    cases e
    obtain ⟨a, vs, e, _, n, l⟩ := h.tup
    exact ⟨a, vs, e, .inr n, l⟩
  | brw ys =>
    cases e
    obtain ⟨a, vs, e, _, n, l⟩ := h.is fun _ => D.noConfusion
    exact ⟨a, vs, e, .inl (SqL.of n), l⟩
  | _ => cases e
/-- x in xs: flat, or a list of data of any depth -/
def inD (d e : D) : Option Bool := match items e with
  | some xs => if flatD d && xs.all flatD then some (xs.any fun z => eqF z d) else none
  | none => none
def opIn (neg : Bool) (x y : Vl) (δ : DSt) : R Vl := match dr δ x, dr δ y with
  | some d, some e => (match inD d e with
    | some b => .ok (.fz (.bl (if neg then !b else b))) δ
    | none => .stuck)
  | _, _ => .stuck
theorem op2_in {neg : Bool} : Op2 K Γ (rIn K neg) (opIn neg) := fun W ω H σ δ x y v w Q R i1 i2 h => by
  unfold opIn at h
  split at h
  · rename_i d e e1 e2
    have r1 := dr_ok R i1 e1
    have r2 := dr_ok R i2 e2
    cases q : inD d e with
    | none => rw [q] at h; exact h.elim
    | some b =>
      rw [q] at h
      unfold inD at q
      cases qi : items e with
      | none => rw [qi] at q; cases q
      | some xs =>
        rw [qi] at q
        dsimp only at q
        obtain ⟨a, vs, rfl, n, l⟩ := r2.items qi
        by_cases hf : (flatD d && xs.all flatD) = true
        · rw [if_pos hf] at q
          cases q
          obtain ⟨f1, f2⟩ := Bool.and_eq_true_iff.mp hf
          have isd : Is K ω H Γ.xi d v := r1.is fun ds z => by rw [z] at f1; cases f1
          refine ⟨a, vs, rfl, n, flat_v isd f1, flat_all l f2, ?_⟩
          rw [flat_in isd f1 l f2]
          exact okR.now (x := Vl.fz _) h R rfl
        · rw [if_neg hf] at q; cases q
  · exact h.elim

/-! ### x[i], x[lo:hi] -/
def getD? (d : D) (i : Int) : Option D := match d with
  | .lst xs => atI xs i
  | .tup xs => atI xs i
  | .str z => if z.length ≤ sizeLine then (atI z.cps.toList i).map fun c => .str ⟨#[c]⟩ else none
  | _ => none
def opIx (x y : Vl) (δ : DSt) : R Vl := match dr δ x, dr δ y with
  | some d, some (.int i) => (match getD? d i with
    | some e => .ok (.fz e) δ
    | none => .stuck)
  | _, _ => .stuck
theorem IsL.atI {ds : List D} {vs : List V} (l : IsL K ω H xi ds vs) {i : Int} {d : D} (h : atI ds i = some d) : ∃ v, L2.atI vs i = some v ∧ Is K ω H xi d v := by
  unfold L2.atI at h ⊢
  rw [l.length]
  cases e : ixN ds.length i with
  | none => rw [e] at h; cases h
  | some j =>
    rw [e] at h
    exact l.get h
theorem op2_ix : Op2 K Γ (rIx K) opIx := fun W ω H σ δ x y v w Q R i1 i2 h => by
  unfold opIx at h
  split at h
  · rename_i d i e1 e2
    have r1 := dr_ok R i1 e1
    have hw := (dr_ok R i2 e2).int
    subst hw
    cases q : getD? d i with
    | none => rw [q] at h; exact h.elim
    | some e =>
      rw [q] at h
      cases d with
      | lst xs =>
        obtain ⟨a, vs, rfl, n, l⟩ := r1.lst
        obtain ⟨u, q1, q2⟩ := IsL.atI l q
        exact .inl ⟨a, vs, i, u, rfl, rfl, n, q1, okR.now (x := Vl.fz e) h R q2⟩
      | tup xs =>
        obtain ⟨a, vs, rfl, _, n, l⟩ := r1.tup
        obtain ⟨u, q1, q2⟩ := IsL.atI l q
        exact .inr (.inl ⟨a, vs, i, u, rfl, rfl, n, q1, okR.now (x := Vl.fz e) h R q2⟩)
      | str z =>
        have hv := r1.str
        subst hv
        unfold getD? at q
        dsimp only at q
        by_cases hz : z.length ≤ sizeLine
        · rw [if_pos hz] at q
          cases qa : L2.atI z.cps.toList i with
          | none => rw [qa] at q; cases q
          | some c =>
            rw [qa] at q
            cases q
            exact .inr (.inr ⟨z, i, c, rfl, rfl, hz, qa, okR.now (x := Vl.fz _) h R rfl⟩)
        · rw [if_neg hz] at q; cases q
      | _ => cases q
  · exact h.elim
def cutD (xs : List D) (lo hi : Option Int) : List D := (xs.drop (HT.sIx xs.length 0 lo)).take (HT.sIx xs.length xs.length hi - HT.sIx xs.length 0 lo)
theorem IsL.cut {ds : List D} {vs : List V} (l : IsL K ω H xi ds vs) (lo hi : Option Int) : IsL K ω H xi (cutD ds lo hi) (cutV vs lo hi) := by
  unfold cutD cutV
  rw [l.length]
  exact (l.drop _).take _
end
/-- a bound of a slice -/
abbrev TDO := DSt → R (Option Int)
structure DO (X : Cx) (Γ : Gm) (e : Option Expr) (t : TDO) : Prop where
  run : ∀ W, L2N.Takes X W → PO X e (up X.K Γ W (fun _ _ _ x v => v = x) t)
section
variable {X : Cx} {Γ : Gm} {e : Expr} {t : TD} {lo hi : Option Expr} {pos p2 : Pos}
theorem PO.imp {X : Cx} {e : Option Expr} {t t' : TO} (h : PO X e t) (k : ∀ σ H Q, t' σ H Q → t σ H Q) : PO X e t' := ⟨fun p s σ H Q I q => h.run p s σ H Q I (k σ H Q q)⟩
def oNone : TDO := fun δ => .ok none δ
def oSome (t : TD) : TDO := fun δ => (t δ).bind fun x δ1 => match dr δ1 x with
  | some (.int i) => .ok (some i) δ1
  | _ => .stuck
theorem do_none : DO X Γ none oNone := ⟨fun W tk => PO.imp po_none fun σ H Q h => by
  obtain ⟨ω, δ, R, h⟩ := h
  exact okR.now (x := (none : Option Int)) h R rfl⟩
theorem do_some (h : DE X Γ e t) : DO X Γ (some e) (oSome t) := ⟨fun W tk => PO.imp (po_some (h.run W tk)) fun σ H Q h => by
  obtain ⟨ω, δ, R, h⟩ := h
  refine up_bind (t := t) R h fun v H1 ω1 δ1 x e1 R1 i1 h1 => ?_
  split at h1
  · rename_i i q
    exact ⟨i, (dr_ok R1 i1 q).int, okR.now (x := some i) h1 R1 rfl⟩
  · exact h1.elim⟩
def sliceD (d : D) (lo hi : Option Int) : Option D := match d with
  | .lst xs => some (.lst (cutD xs lo hi))
  | .tup xs => some (.tup (cutD xs lo hi))
  | .str z => if z.length ≤ sizeLine then some (.str (cutS z lo hi)) else none
  | .scr is => some (.lst ((cutV (is.map V.int) lo hi).filterMap fun v => match v with | .int i => some (D.int i) | _ => none))
  | _ => none
def eSl (t : TD) (l h : TDO) : TD := fun δ => (t δ).bind fun x δ1 => (l δ1).bind fun a δ2 => (h δ2).bind fun b δ3 => match dr δ3 x with
  | some d => (match sliceD d a b with
    | some e => .ok (.fz e) δ3
    | none => .stuck)
  | none => .stuck
theorem cutV_ints (is : List Int) (lo hi : Option Int) : ∃ js : List Int, cutV (is.map V.int) lo hi = js.map V.int := by
  refine ⟨(is.drop (HT.sIx is.length 0 lo)).take (HT.sIx is.length is.length hi - HT.sIx is.length 0 lo), ?_⟩
  unfold cutV
  rw [List.length_map, List.map_take, List.map_drop]
theorem fm_ints (js : List Int) : ((js.map V.int).filterMap fun v => match v with | .int i => some (D.int i) | _ => none) = js.map D.int := by
  induction js with
  | nil => rfl
  | cons j r ih => rw [List.map_cons, List.filterMap_cons, List.map_cons, ih]
def rSl3 (K : Frag) : V → Option Int → Option Int → Hp → VK → Prop := fun x lo hi H Q => (rSlL K x lo hi H Q ∨ rSlA K x lo hi H Q) ∨ rSlS x lo hi H Q
theorem de_slice {tl th : TDO} (he : DE X Γ e t) (hl : DO X Γ lo tl) (hh : DO X Γ hi th) : DE X Γ (.Subscript e (.Slice lo hi none p2) pos) (eSl t tl th) :=
  ⟨fun W tk => PE.imp (pe_slice (r := rSl3 X.K) ((sl_list.or sl_tupA).or sl_str) (he.run W tk) (hl.run W tk) (hh.run W tk)) fun σ H Q h => by
    obtain ⟨ω, δ, R, h⟩ := h
    refine up_bind (t := t) R h fun v H1 ω1 δ1 x e1 R1 i1 h1 => ?_
    refine up_bind (t := tl) R1 h1 fun l H2 ω2 δ2 a e2 R2 i2 h2 => ?_
    refine up_bind (t := th) R2 h2 fun u H3 ω3 δ3 b e3 R3 i3 h3 => ?_
    cases i2
    cases i3
    have i1' := IsV.mono (e2.trans e3).f i1
    split at h3
    · rename_i d q
      have rb := dr_ok R3 i1' q
      cases qs : sliceD d l u with
      | none => rw [qs] at h3; exact h3.elim
      | some r =>
        rw [qs] at h3
        cases d with
        | lst xs =>
          cases qs
          obtain ⟨p, vs, rfl, n, ll⟩ := rb.lst
          exact .inl (.inl ⟨p, vs, rfl, n, new_lstV R3 (ll.cut l u) h3⟩)
        | scr is =>
          obtain ⟨p, rfl, n⟩ := rb.scr
          obtain ⟨js, ej⟩ := cutV_ints is l u
          unfold sliceD at qs
          dsimp only at qs
          rw [ej, fm_ints] at qs
          cases qs
          refine .inl (.inl ⟨p, _, rfl, n, ?_⟩)
          rw [ej]
          exact new_lstV R3 (IsL.mapV (f := D.int) (g := V.int) (fun _ => rfl) js) h3
        | tup xs =>
          cases qs
          obtain ⟨p, vs, rfl, n0, n, ll⟩ := rb.tup
          refine .inl (.inr ⟨p, vs, rfl, n, fun z => ?_, fun _ => new_tup R3 (ll.cut l u) h3⟩)
          refine okR.now (x := Vl.fz _) h3 R3 ⟨p, vs, rfl, n0, ?_⟩
          unfold cutD
          rw [← ll.length, z.1, z.2]
          rw [List.drop_zero, Nat.sub_zero, List.take_of_length_le (by rw [ll.length]; exact Nat.le_refl _)]
          exact ll
        | str z =>
          have hv := rb.str
          subst hv
          unfold sliceD at qs
          dsimp only at qs
          by_cases hz : z.length ≤ sizeLine
          · rw [if_pos hz] at qs
            cases qs
            exact .inr ⟨z, rfl, hz, okR.now (x := Vl.fz _) h3 R3 rfl⟩
          · rw [if_neg hz] at qs; cases qs
        | _ => cases qs
    · exact h3.elim⟩
theorem de_ix {b : Expr} {tb : TD} (ha : DE X Γ e t) (hb : DE X Γ b tb) (hs : PlainIx b := by exact fun _ _ => rfl) : DE X Γ (.Subscript e b pos) (eBin opIx t tb) :=
  ⟨fun W tk => PE.imp (pe_ix ix_seq (ha.run W tk) (hb.run W tk) hs) fun _ _ _ => up_op2 op2_ix⟩
end
end DL

set_option Elab.async false
set_option linter.all false
set_option maxRecDepth 100000
namespace DL
open PySem PySem.Spec PyProof.Rows L2
/-! ### several values kept -/
def frzs (δ : DSt) : List Vl → Option (List D × DSt)
  | [] => some ([], δ)
  | x :: xs => match frz δ x with
    | some (d, δ1) => (match frzs δ1 xs with
      | some (ds, δ2) => some (d :: ds, δ2)
      | none => none)
    | none => none
section
variable {K : Frag} {Γ : Gm} {W : WX} {ω ω' : Om} {H H' : Hp} {σ : L2.St} {δ δ' : DSt} {τ : Tg}
theorem frzs_ok : ∀ {xs : List Vl} {vs : List V} {ds : List D} {δ δ' : DSt} {ω : Om}, Rel K Γ ω H σ δ → IsVs K Γ ω H σ xs vs → frzs δ xs = some (ds, δ') → ∃ ω', Ext ω H ω' H ∧ Rel K Γ ω' H σ δ' ∧ IsL K ω' H Γ.xi ds vs
  | [], vs, ds, δ, δ', ω, R, i, e => by
    cases e
    cases (show vs = [] from i)
    exact ⟨ω, Ext.refl _ _, R, rfl⟩
  | x :: xs, vs, ds, δ, δ', ω, R, i, e => by
    obtain ⟨v, r, rfl, i1, i2⟩ := i
    unfold frzs at e
    cases q : frz δ x with
    | none => rw [q] at e; cases e
    | some p =>
      obtain ⟨d, δ1⟩ := p
      rw [q] at e
      dsimp only at e
      cases q2 : frzs δ1 xs with
      | none => rw [q2] at e; cases e
      | some p2 =>
        obtain ⟨ds2, δ2⟩ := p2
        rw [q2] at e
        cases e
        obtain ⟨ω1, X1, R1, h1⟩ := frz_ok R i1 q
        obtain ⟨ω2, X2, R2, h2⟩ := frzs_ok R1 (IsVs.mono X1.f i2) q2
        exact ⟨ω2, X1.trans X2, R2, v, r, rfl, h1.mono X2.f, h2⟩
theorem IsVs.length : ∀ {xs : List Vl} {vs : List V}, IsVs K Γ ω H σ xs vs → vs.length = xs.length
  | [], _, h => by rw [show _ = ([] : List V) from h] <;> rfl
  | x :: xs, _, h => by
    obtain ⟨v, r, rfl, _, h2⟩ := h
    rw [List.length_cons, List.length_cons, IsVs.length h2]
end
/-! ### displays -/
def gDis (f : List D → D) (t : TDA) : TDG := fun δ => (t δ).bind fun xs δ1 => match frzs δ1 xs with
  | some (ds, δ2) => if ds.length ≤ sizeLine then .ok (f ds) δ2 else .stuck
  | none => .stuck
section
variable {X : Cx} {Γ : Gm} {es : List Expr} {t : TDA} {pos : Pos} {τ : Tg} {x1 : Nat}
theorem dg_lst (hτ : τ ≠ .out) (h : DA X Γ es t) : DG X Γ τ (.List es pos) (gDis .lst t) := ⟨fun W tk => PE.imp (pe_lst (h.run W tk)) fun σ H Q hq => by
  obtain ⟨ω, δ, R, hq⟩ := hq
  refine up_bind (t := t) R hq fun vs H1 ω1 δ1 xs e1 R1 i1 h1 => ?_
  split at h1
  · rename_i ds δ2 q
    obtain ⟨ω2, X2, R2, l2⟩ := frzs_ok R1 i1 q
    by_cases hz : ds.length ≤ sizeLine
    · rw [if_pos hz] at h1
      exact ⟨by rw [l2.length]; exact hz, new_lst hτ R2 l2 (okR.ext X2 h1)⟩
    · rw [if_neg hz] at h1; exact h1.elim
  · exact h1.elim⟩
theorem de_lst (h : DA X Γ es t) : DE X Γ (.List es pos) (gFz (gDis .lst t)) := de_g (dg_lst (by intro z; cases z) h)
theorem dg_tup (h : DA X Γ es t) : DG X Γ .fz (.Tuple es x1 pos) (gDis .tup t) := ⟨fun W tk => PE.imp (pe_tup (h.run W tk)) fun σ H Q hq => by
  obtain ⟨ω, δ, R, hq⟩ := hq
  refine up_bind (t := t) R hq fun vs H1 ω1 δ1 xs e1 R1 i1 h1 => ?_
  split at h1
  · rename_i ds δ2 q
    obtain ⟨ω2, X2, R2, l2⟩ := frzs_ok R1 i1 q
    by_cases hz : ds.length ≤ sizeLine
    · rw [if_pos hz] at h1
      refine ⟨by rw [l2.length]; exact hz, fun p hp => ?_⟩
      have X3 := R2.nwExt (τ := .fz) hp (.tup vs)
      exact okR.at (x := D.tup ds) (okR.ext X2 h1) X3 (R2.new hp _) ⟨p, vs, rfl, .inl ⟨nwO_self, upd_same⟩, l2.mono X3.f⟩
    · rw [if_neg hz] at h1; exact h1.elim
  · exact h1.elim⟩
theorem de_tup (h : DA X Γ es t) : DE X Γ (.Tuple es x1 pos) (gFz (gDis .tup t)) := de_g (dg_tup h)

/-! ### built-in functions -/
def eCall (f : List Vl → DSt → R Vl) (t : TDA) : TD := fun δ => (t δ).bind fun xs δ1 => f xs δ1
def gCall (f : List Vl → DSt → R D) (t : TDA) : TDG := fun δ => (t δ).bind fun xs δ1 => f xs δ1
def OpN (K : Frag) (Γ : Gm) (r : List V → Hp → VK → Prop) (f : List Vl → DSt → R Vl) : Prop :=
  ∀ (W : WX) (ω : Om) (H : Hp) (σ : L2.St) (δ : DSt) (xs : List Vl) (vs : List V) (Q : VK), Rel K Γ ω H σ δ → IsVs K Γ ω H σ xs vs → okV K Γ W ω H σ (f xs δ) Q → r vs H Q
def OpNG (K : Frag) (Γ : Gm) (τ : Tg) (r : List V → Hp → VK → Prop) (f : List Vl → DSt → R D) : Prop :=
  ∀ (W : WX) (ω : Om) (H : Hp) (σ : L2.St) (δ : DSt) (xs : List Vl) (vs : List V) (Q : VK), Rel K Γ ω H σ δ → IsVs K Γ ω H σ xs vs → okG K Γ W τ ω H σ (f xs δ) Q → r vs H Q
variable {e : Expr} {x : Str} {p : Pos} {id T : String} {r : List V → Hp → VK → Prop} {f : List Vl → DSt → R Vl} {g : List Vl → DSt → R D}
theorem de_callB (hc : CallR X (.builtin id) r) (ho : OpN X.K Γ r f) (hm : X.mg x = none) (hv : bootBuiltins x = some (.builtin id)) (ha : DA X Γ (e :: es) t) (hg : Gl X x := by rfl) (hn : x ≠ "__name__" := by decide) (hdb : (x == ("__debug__" : Str)) = false := by decide)
    (he : starEach (e :: es) X.env = (false, eval e X.env) :: starEach es X.env := by rfl) (hpl : (backTo pos (starEach es X.env)).any (·.1) = false := by rfl) : DE X Γ (.Call (.Name x p) (e :: es) [] pos) (eCall f t) :=
  ⟨fun W tk => PE.imp (pe_callB hc hg hm hv (ha.run W tk) hn hdb he hpl) fun σ H Q h => by
    obtain ⟨ω, δ, R, h⟩ := h
    exact up_bind (t := t) R h fun vs H1 ω1 δ1 xs e1 R1 i1 h1 => ho W ω1 H1 σ δ1 xs vs Q R1 i1 h1⟩
theorem de_callTy (hc : CallR X (.type T) r) (ho : OpN X.K Γ r f) (hm : X.mg x = none) (hv : bootBuiltins x = some (.type T)) (ha : DA X Γ (e :: es) t) (hg : Gl X x := by rfl) (hn : x ≠ "__name__" := by decide) (hdb : (x == ("__debug__" : Str)) = false := by decide)
    (he : starEach (e :: es) X.env = (false, eval e X.env) :: starEach es X.env := by rfl) (hpl : (backTo pos (starEach es X.env)).any (·.1) = false := by rfl) : DE X Γ (.Call (.Name x p) (e :: es) [] pos) (eCall f t) :=
  ⟨fun W tk => PE.imp (pe_callTy hc hg hm hv (ha.run W tk) hn hdb he hpl) fun σ H Q h => by
    obtain ⟨ω, δ, R, h⟩ := h
    exact up_bind (t := t) R h fun vs H1 ω1 δ1 xs e1 R1 i1 h1 => ho W ω1 H1 σ δ1 xs vs Q R1 i1 h1⟩
theorem dg_callTy (hc : CallR X (.type T) r) (ho : OpNG X.K Γ τ r g) (hm : X.mg x = none) (hv : bootBuiltins x = some (.type T)) (ha : DA X Γ (e :: es) t) (hg : Gl X x := by rfl) (hn : x ≠ "__name__" := by decide) (hdb : (x == ("__debug__" : Str)) = false := by decide)
    (he : starEach (e :: es) X.env = (false, eval e X.env) :: starEach es X.env := by rfl) (hpl : (backTo pos (starEach es X.env)).any (·.1) = false := by rfl) : DG X Γ τ (.Call (.Name x p) (e :: es) [] pos) (gCall g t) :=
  ⟨fun W tk => PE.imp (pe_callTy hc hg hm hv (ha.run W tk) hn hdb he hpl) fun σ H Q h => by
    obtain ⟨ω, δ, R, h⟩ := h
    exact up_bind (t := t) R h fun vs H1 ω1 δ1 xs e1 R1 i1 h1 => ho W ω1 H1 σ δ1 xs vs Q R1 i1 h1⟩
end
section
variable {K : Frag} {Γ : Gm} {W : WX} {ω ω' : Om} {H H' : Hp} {σ : L2.St} {δ δ' : DSt} {τ : Tg}
/-- one argument, by its data -/
def fn1 (f : D → Option D) : List Vl → DSt → R Vl
  | [x], δ => (match dr δ x with
    | some d => (match f d with
      | some r => .ok (.fz r) δ
      | none => .stuck)
    | none => .stuck)
  | _, _ => .stuck
theorem fn1_ok {f : D → Option D} {xs : List Vl} {vs : List V} {Q : VK} (R : Rel K Γ ω H σ δ) (i : IsVs K Γ ω H σ xs vs) (h : okV K Γ W ω H σ (fn1 f xs δ) Q) : ∃ v d r, vs = [v] ∧ Rb K ω H Γ.xi d v ∧ f d = some r ∧ okV K Γ W ω H σ (.ok (.fz r) δ) Q := by
  match xs, i, h with
  | [], _, h => exact h.elim
  | [x], i, h =>
    obtain ⟨v, r, rfl, i1, i2⟩ := i
    cases (show r = [] from i2)
    unfold fn1 at h
    cases q : dr δ x with
    | none => simp only [q] at h; exact h.elim
    | some d =>
      simp only [q] at h
      cases q2 : f d with
      | none => simp only [q2] at h; exact h.elim
      | some r =>
        simp only [q2] at h
        exact ⟨v, d, r, rfl, dr_ok R i1 q, q2, h⟩
  | _ :: _ :: _, _, h => exact h.elim
/-- two arguments -/
def fn2 (f : D → D → Option D) : List Vl → DSt → R Vl
  | [x, y], δ => (match dr δ x, dr δ y with
    | some d, some e => (match f d e with
      | some r => .ok (.fz r) δ
      | none => .stuck)
    | _, _ => .stuck)
  | _, _ => .stuck
theorem fn2_ok {f : D → D → Option D} {xs : List Vl} {vs : List V} {Q : VK} (R : Rel K Γ ω H σ δ) (i : IsVs K Γ ω H σ xs vs) (h : okV K Γ W ω H σ (fn2 f xs δ) Q) : ∃ v w d e r, vs = [v, w] ∧ Rb K ω H Γ.xi d v ∧ Rb K ω H Γ.xi e w ∧ f d e = some r ∧ okV K Γ W ω H σ (.ok (.fz r) δ) Q := by
  match xs, i, h with
  | [], _, h => exact h.elim
  | [x], _, h => exact h.elim
  | [x, y], i, h =>
    obtain ⟨v, r, rfl, i1, i2⟩ := i
    obtain ⟨w, r, rfl, i2, i3⟩ := i2
    cases (show r = [] from i3)
    unfold fn2 at h
    cases q : dr δ x with
    | none => simp only [q] at h; exact h.elim
    | some d =>
      cases q1 : dr δ y with
      | none => simp only [q, q1] at h; exact h.elim
      | some e =>
        simp only [q, q1] at h
        cases q2 : f d e with
        | none => simp only [q2] at h; exact h.elim
        | some r =>
          simp only [q2] at h
          exact ⟨v, w, d, e, r, rfl, dr_ok R i1 q, dr_ok R i2 q1, q2, h⟩
  | _ :: _ :: _ :: _, _, h => exact h.elim
def lenD : D → Option D
  | .lst xs => some (.int xs.length)
  | .tup xs => some (.int xs.length)
  | .str z => if z.length ≤ sizeLine then some (.int z.length) else none
  | _ => none
theorem opn_len : OpN K Γ (fun xs H Q => ∃ x n, xs = [x] ∧ LenV K x H n ∧ Q (.int n) H) (fn1 lenD) := fun W ω H σ δ xs vs Q R i h => by
  obtain ⟨v, d, r, rfl, rb, e, h⟩ := fn1_ok R i h
  cases d with
  | lst ds =>
    cases e
    obtain ⟨a, ws, rfl, n, l⟩ := rb.lst
    exact ⟨_, ws.length, rfl, .inl ⟨ws, n, rfl⟩, by rw [l.length]; exact okR.now (x := Vl.fz _) h R rfl⟩
  | tup ds =>
    cases e
    obtain ⟨a, ws, rfl, _, n, l⟩ := rb.tup
    exact ⟨_, ws.length, rfl, .inr ⟨ws, n, rfl⟩, by rw [l.length]; exact okR.now (x := Vl.fz _) h R rfl⟩
  | str z =>
    cases rb.str
    unfold lenD at e
    dsimp only at e
    by_cases hz : z.length ≤ sizeLine
    · rw [if_pos hz] at e
      cases e
      exact ⟨_, z.length, rfl, ⟨hz, rfl⟩, okR.now (x := Vl.fz _) h R rfl⟩
    · rw [if_neg hz] at e; cases e
  | _ => cases e
def intD : D → Option D
  | .int i => some (.int i)
  | .bl b => some (.int (if b then 1 else 0))
  | _ => none
theorem opn_int : OpN K Γ (fun xs H Q => (∃ i, xs = [.int i] ∧ Q (.int i) H) ∨ ∃ k, xs = [.bl k] ∧ Q (.int (if k then 1 else 0)) H) (fn1 intD) := fun W ω H σ δ xs vs Q R i h => by
  obtain ⟨v, d, r, rfl, rb, e, h⟩ := fn1_ok R i h
  cases d with
  | int i => cases e; cases rb.int; exact .inl ⟨_, rfl, okR.now (x := Vl.fz _) h R rfl⟩
  | bl b => cases e; cases rb.bl; exact .inr ⟨_, rfl, okR.now (x := Vl.fz _) h R rfl⟩
  | _ => cases e
def absD : D → Option D
  | .int i => some (.int (if i < 0 then -i else i))
  | _ => none
theorem opn_abs : OpN K Γ (fun xs H Q => ∃ i, xs = [.int i] ∧ Q (.int (if i < 0 then -i else i)) H) (fn1 absD) := fun W ω H σ δ xs vs Q R i h => by
  obtain ⟨v, d, r, rfl, rb, e, h⟩ := fn1_ok R i h
  cases d with
  | int i => cases e; cases rb.int; exact ⟨_, rfl, okR.now (x := Vl.fz _) h R rfl⟩
  | _ => cases e
def max2D : D → D → Option D
  | .int i, .int j => some (.int (if j > i then j else i))
  | _, _ => none
def min2D : D → D → Option D
  | .int i, .int j => some (.int (if j < i then j else i))
  | _, _ => none
theorem opn_max2 : OpN K Γ (fun xs H Q => ∃ i j, xs = [.int i, .int j] ∧ Q (.int (if j > i then j else i)) H) (fn2 max2D) := fun W ω H σ δ xs vs Q R i h => by
  obtain ⟨v, w, d, e, r, rfl, rb, rc, eq, h⟩ := fn2_ok R i h
  cases d with
  | int i =>
    cases e with
    | int j => cases eq; cases rb.int; cases rc.int; exact ⟨_, _, rfl, okR.now (x := Vl.fz _) h R rfl⟩
    | _ => cases eq
  | _ => cases eq
theorem opn_min2 : OpN K Γ (fun xs H Q => ∃ i j, xs = [.int i, .int j] ∧ Q (.int (if j < i then j else i)) H) (fn2 min2D) := fun W ω H σ δ xs vs Q R i h => by
  obtain ⟨v, w, d, e, r, rfl, rb, rc, eq, h⟩ := fn2_ok R i h
  cases d with
  | int i =>
    cases e with
    | int j => cases eq; cases rb.int; cases rc.int; exact ⟨_, _, rfl, okR.now (x := Vl.fz _) h R rfl⟩
    | _ => cases eq
  | _ => cases eq
def intsD : List D → Option (List Int)
  | [] => some []
  | .int i :: r => (match intsD r with
    | some s => some (i :: s)
    | none => none)
  | _ => none
theorem intsD_ok : ∀ {ds : List D} {is : List Int}, intsD ds = some is → ds = is.map D.int
  | [], _, e => by cases e; rfl
  | d :: ds, is, e => by
    cases d with
    | int i =>
      unfold intsD at e
      cases q : intsD ds with
      | none => rw [q] at e; cases e
      | some s =>
        rw [q] at e
        cases e
        rw [List.map_cons, intsD_ok q]
    | _ => cases e
theorem intsD_map (is : List Int) : intsD (is.map D.int) = some is := by
  induction is with
  | nil => rfl
  | cons i r ih => rw [List.map_cons]; unfold intsD; rw [ih]
theorem IsL.ints : ∀ {is : List Int} {vs : List V}, IsL K ω H Γ.xi (is.map D.int) vs → vs = is.map V.int
  | [], _, h => h
  | i :: is, _, h => by
    obtain ⟨v, r, rfl, h1, h2⟩ := h
    rw [List.map_cons, IsL.ints h2, show v = V.int i from h1]
def sumD : D → Option D
  | .lst xs => (intsD xs).map fun is => .int is.sum
  | .tup xs => (intsD xs).map fun is => .int is.sum
  | _ => none
/-- sum of a list or a tuple of ints -/
def rSum2 (K : Frag) : List V → Hp → VK → Prop := fun vs H Q => rSum K vs H Q ∨ ∃ (a : Addr) (ns : List Int), vs = [V.ref a] ∧ SqT K H a (ns.map V.int) ∧ Q (.int ns.sum) H
theorem call_sum2 {X : Cx} (hc : X.calm = true) : CallR X (.builtin "sum") (rSum2 X.K) := fun pins s σ H vs us Q I r h => by
  rcases h with h | ⟨a, ns, rfl, hs, q⟩
  · exact cr_sum hc pins s σ H vs us Q I r h
  · obtain ⟨its, rv, ht, _⟩ := I.tuple hs
    rw [Vals.ref1 r]
    have hi := rv.ints
    obtain ⟨xs, hx⟩ := hi.allInts.items
    have hn : numsOf its.toArray.toList = ns := by rw [show its.toArray.toList = its from rfl, hi.numsOf]
    rw [hx] at hn
    rw [nums_intItems] at hn
    have ht2 : s.heap.IsTuple a (intItems xs) := by rw [← hx]; exact ht
    refine PySem.W.ktm_sumG (I.ok.hd hc) ht2 fun h' tk t' hk => ?_
    rw [preSum_eq, List.take_of_length_le (by simp), hn]
    exact ⟨.int _, H, I.kept hk, ⟨_, rfl⟩, q⟩
theorem opn_sum : OpN K Γ (rSum2 K) (fn1 sumD) := fun W ω H σ δ xs vs Q R i h => by
  obtain ⟨v, d, r, rfl, rb, e, h⟩ := fn1_ok R i h
  cases d with
  | lst ds =>
    unfold sumD at e
    dsimp only at e
    cases q : intsD ds with
    | none => rw [q] at e; cases e
    | some is =>
      rw [q] at e
      cases e
      obtain ⟨a, ws, rfl, n, l⟩ := rb.lst
      rw [intsD_ok q] at l
      exact .inl ⟨a, is, rfl, by rw [← l.ints]; exact n, okR.now (x := Vl.fz _) h R rfl⟩
  | tup ds =>
    unfold sumD at e
    dsimp only at e
    cases q : intsD ds with
    | none => rw [q] at e; cases e
    | some is =>
      rw [q] at e
      cases e
      obtain ⟨a, ws, rfl, _, n, l⟩ := rb.tup
      rw [intsD_ok q] at l
      exact .inr ⟨a, is, rfl, by rw [← l.ints]; exact n, okR.now (x := Vl.fz _) h R rfl⟩
  | _ => cases e
/-- list(x), tuple(x) -/
def fnL : List Vl → DSt → R D
  | [x], δ => (match dr δ x with
    | some d => (match items d with
      | some ds => .ok (.lst ds) δ
      | none => .stuck)
    | none => .stuck)
  | _, _ => .stuck
theorem opn_list (hτ : τ ≠ .out) : OpNG K Γ τ (fun xs H Q => ∃ p ys, xs = [.ref p] ∧ (SqL K H p ys ∨ SqT K H p ys) ∧ ∀ l, H l = none → Q (.ref l) (upd H l (.lst ys))) fnL := fun W ω H σ δ xs vs Q R i h => by
  match xs, i, h with
  | [], _, h => exact h.elim
  | [x], i, h =>
    obtain ⟨v, r, rfl, i1, i2⟩ := i
    cases (show r = [] from i2)
    unfold fnL at h
    cases q : dr δ x with
    | none => simp only [q] at h; exact h.elim
    | some d =>
      simp only [q] at h
      cases q2 : items d with
      | none => simp only [q2] at h; exact h.elim
      | some ds =>
        simp only [q2] at h
        obtain ⟨a, ws, rfl, n, l⟩ := (dr_ok R i1 q).items q2
        exact ⟨a, ws, rfl, n, new_lst hτ R l h⟩
  | _ :: _ :: _, _, h => exact h.elim
def tupD : D → Option D
  | .lst xs => some (.tup xs)
  | .tup xs => some (.tup xs)
  | _ => none
theorem opn_tuple : OpN K Γ (fun xs H Q => ∃ p ys, xs = [.ref p] ∧ ((SqL K H p ys ∧ ∀ l, H l = none → Q (.ref l) (upd H l (.tup ys))) ∨ (SqT K H p ys ∧ Q (.ref p) H))) (fn1 tupD) := fun W ω H σ δ xs vs Q R i h => by
  obtain ⟨v, d, r, rfl, rb, e, h⟩ := fn1_ok R i h
  cases d with
  | lst ds =>
    cases e
    obtain ⟨a, ws, rfl, n, l⟩ := rb.lst
    exact ⟨a, ws, rfl, .inl ⟨n, new_tup R l h⟩⟩
  | tup ds =>
    cases e
    obtain ⟨a, ws, rfl, n0, n, l⟩ := rb.tup
    exact ⟨a, ws, rfl, .inr ⟨n, okR.now (x := Vl.fz _) h R ⟨a, ws, rfl, n0, l⟩⟩⟩
  | _ => cases e
/-! isinstance -/
def tyD : D → Option String
  | .non => some "NoneType"
  | .bl _ => some "bool"
  | .int _ => some "int"
  | .str _ => some "str"
  | .lst _ => some "list"
  | .tup _ => some "tuple"
  | _ => none
theorem NdT.ty {a : Addr} {vs : List V} (h : NdT K ω H a vs) : TyX K H (.ref a) (.type "tuple") := by
  rcases h with ⟨_, h⟩ | ⟨o, its, n, h, c, _⟩
  · exact .base (.tup h)
  · exact .kTuple h c
theorem ty_ok {d : D} {v : V} {n : String} (h : Rb K ω H Γ.xi d v) (e : tyD d = some n) : TyX K H v (.type n) := by
  cases d with
  | non => cases e; cases h.non; exact .base .non
  | bl b => cases e; cases h.bl; exact .base (.bl b)
  | int b => cases e; cases h.int; exact .base (.int b)
  | str b => cases e; cases h.str; exact .base (.str b)
  | lst ds =>
    cases e
    obtain ⟨a, vs, rfl, q, _⟩ := h.lstH
    exact .base (.lst q)
  | tup ds =>
    cases e
    obtain ⟨a, vs, rfl, q, _⟩ := h.tup
    exact q.ty
  | _ => cases e
/-- isinstance of a built-in type -/
def isiD : D → D → Option D
  | d, .ty m => (match tyD d with
    | some n => (kitB n m).map D.bl
    | none => none)
  | _, _ => none
theorem opn_isi : OpN K Γ (rIsi K) (fn2 isiD) := fun W ω H σ δ xs vs Q R i h => by
  obtain ⟨v, w, d, e, r, rfl, rb, rc, eq, h⟩ := fn2_ok R i h
  cases e with
  | ty m =>
    unfold isiD at eq
    dsimp only at eq
    cases q : tyD d with
    | none => rw [q] at eq; cases eq
    | some n =>
      rw [q] at eq
      dsimp only at eq
      cases q2 : kitB n m with
      | none => rw [q2] at eq; cases eq
      | some b =>
        rw [q2] at eq
        cases eq
        have hw : w = .ty m := rc.is fun _ => D.noConfusion
        subst hw
        exact ⟨v, .ty m, _, _, b, rfl, .ty m, ty_ok rb q, kit_ty q2, okR.now (x := Vl.fz _) h R rfl⟩
  | _ => cases eq
end
/-- a built-in type as a value -/
theorem de_ty {X : Cx} {Γ : Gm} {x : Str} {n : String} {pos : Pos} (hm : X.mg x = none) (hv : bootBuiltins x = some (.type n)) (hg : Gl X x := by rfl) (hn : x ≠ "__name__" := by decide) (hd : (x == ("__debug__" : Str)) = false := by decide) : DE X Γ (.Name x pos) (eC (.ty n)) :=
  de_c (pe_bltn (v := .ty n) hg hm hv rfl hn hd) fun _ _ _ => rfl
end DL

set_option Elab.async false
set_option linter.all false
set_option maxRecDepth 100000
namespace DL
open PySem PySem.Spec PyProof.Rows L2
inductive Fl where
  | nx (δ : DSt) | rt (x : Vl) (δ : DSt) | rg (d : D) (δ : DSt) | bk (δ : DSt) | ct (δ : DSt) | ex (c : Str) (ns : List Str) (ds : List D) (δ : DSt) | stuck
/-- an own result's tag -/
abbrev tagR : Nat := 1000
def okS (K : Frag) (Γ : Gm) (W : WX) (ω : Om) (H : Hp) : Fl → Ends → Prop
  | .nx δ, D => ∀ σ' H' ω', Ext ω H ω' H' → Rel K Γ ω' H' σ' δ → D.nx σ' H'
  | .bk δ, D => ∀ σ' H' ω', Ext ω H ω' H' → Rel K Γ ω' H' σ' δ → D.bk σ' H'
  | .ct δ, D => ∀ σ' H' ω', Ext ω H ω' H' → Rel K Γ ω' H' σ' δ → D.ct σ' H'
  | .rt x δ, D => ∀ v σ' H' ω', Ext ω H ω' H' → Rel K Γ ω' H' σ' δ → IsV K Γ ω' H' σ' x v → D.rt v H'
  | .rg d δ, D => ∀ v σ' H' ω', Ext ω H ω' H' → Rel K Γ ω' H' σ' δ → rlG K Γ (.own tagR) ω' H' σ' d v → D.rt v H'
  | .ex c ns ds δ, _ => ∀ d σ' H' ω', Ext ω H ω' H' → Rel K Γ ω' H' σ' δ → XIs K Γ ω' H' ns ds d → W (.ref (He.ga K c)) d σ' H'
  | .stuck, _ => False
abbrev TDS := DSt → Fl
def upS (K : Frag) (Γ : Gm) (W : WX) (t : TDS) : TS := fun D σ H => ∃ ω δ, Rel K Γ ω H σ δ ∧ okS K Γ W ω H (t δ) D
structure DS (X : Cx) (Γ : Gm) (st : Stmt) (t : TDS) : Prop where
  run : ∀ W, L2N.Takes X W → PS X st (upS X.K Γ W t)
structure DB (X : Cx) (Γ : Gm) (st : List Stmt) (t : TDS) : Prop where
  run : ∀ W, L2N.Takes X W → PSs X st (upS X.K Γ W t)
section
variable {K : Frag} {Γ : Gm} {W : WX} {ω ω' : Om} {H H' : Hp} {σ : L2.St} {δ δ' : DSt} {α β : Type} {rel : Om → Hp → L2.St → α → β → Prop}
theorem okS.ext (e : Ext ω H ω' H') {f : Fl} {D : Ends} (h : okS K Γ W ω H f D) : okS K Γ W ω' H' f D := by
  cases f with
  | nx δ => exact fun s H2 ω2 x => h s H2 ω2 (e.trans x)
  | bk δ => exact fun s H2 ω2 x => h s H2 ω2 (e.trans x)
  | ct δ => exact fun s H2 ω2 x => h s H2 ω2 (e.trans x)
  | rt y δ => exact fun v s H2 ω2 x => h v s H2 ω2 (e.trans x)
  | rg y δ => exact fun v s H2 ω2 x => h v s H2 ω2 (e.trans x)
  | ex c ns ds δ => exact fun d s H2 ω2 x => h d s H2 ω2 (e.trans x)
  | stuck => exact h
/-- the ends but nx as they are -/
theorem okS.imp {f : Fl} {D D' : Ends} (h : okS K Γ W ω H f D) (h1 : ∀ δ, f = .nx δ → ∀ σ' H' ω', Ext ω H ω' H' → Rel K Γ ω' H' σ' δ → D.nx σ' H' → D'.nx σ' H') (h2 : ∀ v H, D.rt v H → D'.rt v H) (h3 : ∀ v H, D.bk v H → D'.bk v H) (h4 : ∀ v H, D.ct v H → D'.ct v H) : okS K Γ W ω H f D' := by
  cases f with
  | nx δ => exact fun s H2 ω2 x r => h1 δ rfl s H2 ω2 x r (h s H2 ω2 x r)
  | bk δ => exact fun s H2 ω2 x r => h3 _ _ (h s H2 ω2 x r)
  | ct δ => exact fun s H2 ω2 x r => h4 _ _ (h s H2 ω2 x r)
  | rt y δ => exact fun v s H2 ω2 x r i => h2 _ _ (h v s H2 ω2 x r i)
  | rg y δ => exact fun v s H2 ω2 x r i => h2 _ _ (h v s H2 ω2 x r i)
  | ex c ns ds δ => exact h
  | stuck => exact h
/-- a result, then a statement's end -/
def R.fl {α : Type} : R α → (α → DSt → Fl) → Fl
  | .ok a δ, f => f a δ
  | .exc c ns ds δ, _ => .ex c ns ds δ
  | .stuck, _ => .stuck
theorem up_fl (Rl : Rel K Γ ω H σ δ) {t : DSt → R α} {f : α → DSt → Fl} {D : Ends} (h : okS K Γ W ω H ((t δ).fl f) D) {P : β → Hp → Prop}
    (hP : ∀ v H1 ω1 δ1 x, Ext ω H ω1 H1 → Rel K Γ ω1 H1 σ δ1 → rel ω1 H1 σ x v → okS K Γ W ω1 H1 (f x δ1) D → P v H1) : up K Γ W rel t σ H P := by
  refine ⟨ω, δ, Rl, ?_⟩
  cases e : t δ with
  | ok x δ1 =>
    rw [e] at h
    exact fun v H1 ω1 e1 r1 i1 => hP v H1 ω1 δ1 x e1 r1 i1 (okS.ext e1 h)
  | exc c ns ds δ1 =>
    rw [e] at h
    exact fun d H1 ω1 e1 r1 i1 => h d σ H1 ω1 e1 r1 i1
  | stuck =>
    rw [e] at h
    exact h
theorem Rel.put (R : Rel K Γ ω H σ δ) {i : Nat} {e : Option (Nat × D)} {v : V} (hp : Γ.idx.contains i = false) (s : Sl K ω H Γ.xi i e (some v)) : Rel K Γ ω H (σ.set i (some v)) (δ.set i e) := by
  refine ⟨R.wf, by rw [List.length_set, List.length_set, R.len], fun j e' hj => ?_, fun q hq => ?_⟩
  · by_cases h : i = j
    · subst h
      have hl : i < δ.length := by
        have := (List.getElem?_eq_some_iff.mp hj).1
        rwa [List.length_set] at this
      rw [List.getElem?_set_self hl] at hj
      cases hj
      rw [List.getElem?_set_self (by rw [R.len]; exact hl)]
      exact s
    · rw [List.getElem?_set_ne h] at hj ⊢
      exact R.sl j e' hj
  · have hne : i ≠ q.1 := fun z => by
      have hm := Γ.ok q hq
      rw [← z] at hm
      rw [List.contains_iff_mem.mpr hm] at hp
      cases hp
    rw [List.getElem?_set_ne hne]
    exact R.pin q hq
/-- a slot forgotten -/
theorem Rel.drop (R : Rel K Γ ω H σ δ) (i : Nat) : Rel K Γ ω H σ (δ.set i none) := by
  refine ⟨R.wf, by rw [List.length_set, R.len], fun j e hj => ?_, R.pin⟩
  by_cases h : i = j
  · subst h
    have hl : i < δ.length := by
      have := (List.getElem?_eq_some_iff.mp hj).1
      rwa [List.length_set] at this
    rw [List.getElem?_set_self hl] at hj
    cases hj
    trivial
  · rw [List.getElem?_set_ne h] at hj
    exact R.sl j e hj
end
section
variable {X : Cx} {Γ : Gm} {st : Stmt} {rest : List Stmt} {t u : TDS} {e : Expr} {te : TD} {tg : TDG} {pos : Pos}
def sNil : TDS := fun δ => .nx δ
def sSeq (t u : TDS) : TDS := fun δ => match t δ with
  | .nx δ1 => u δ1
  | f => f
theorem db_nil : DB X Γ [] sNil := ⟨fun W tk => PSs.imp pss_nil fun D σ H h => by
  obtain ⟨ω, δ, R, h⟩ := h
  exact h σ H ω (Ext.refl _ _) R⟩
theorem up_seq {K : Frag} {W : WX} {D : Ends} {σ : L2.St} {H : Hp} (h : upS K Γ W (sSeq t u) D σ H) : upS K Γ W t { D with nx := upS K Γ W u D } σ H := by
  obtain ⟨ω, δ, R, h⟩ := h
  refine ⟨ω, δ, R, ?_⟩
  unfold sSeq at h
  cases q : t δ with
  | nx δ1 =>
    rw [q] at h
    exact fun σ' H' ω' x r => ⟨ω', δ1, r, okS.ext x h⟩
  | bk δ => rw [q] at h; exact h
  | ct δ => rw [q] at h; exact h
  | rt y δ => rw [q] at h; exact h
  | rg y δ => rw [q] at h; exact h
  | ex c ns ds δ => rw [q] at h; exact h
  | stuck => rw [q] at h; exact h
theorem db_cons (h1 : DS X Γ st t) (h2 : DB X Γ rest u) : DB X Γ (st :: rest) (sSeq t u) :=
  ⟨fun W tk => PSs.imp (pss_cons (h1.run W tk) (h2.run W tk)) fun D σ H h => up_seq h⟩
theorem db_one (h1 : DS X Γ st t) : DB X Γ [st] t := ⟨fun W tk => pss_one (h1.run W tk)⟩
theorem ds_pass : DS X Γ (.Pass pos) sNil := ⟨fun W tk => PS.imp ps_pass fun D σ H h => by
  obtain ⟨ω, δ, R, h⟩ := h
  exact h σ H ω (Ext.refl _ _) R⟩
def sBreak : TDS := fun δ => .bk δ
def sCont : TDS := fun δ => .ct δ
theorem ds_break : DS X Γ (.Break pos) sBreak := ⟨fun W tk => PS.imp ps_break fun D σ H h => by
  obtain ⟨ω, δ, R, h⟩ := h
  exact h σ H ω (Ext.refl _ _) R⟩
theorem ds_continue : DS X Γ (.Continue pos) sCont := ⟨fun W tk => PS.imp ps_continue fun D σ H h => by
  obtain ⟨ω, δ, R, h⟩ := h
  exact h σ H ω (Ext.refl _ _) R⟩
def sExpr (t : TD) : TDS := fun δ => (t δ).fl fun _ δ1 => .nx δ1
theorem ds_expr (he : DE X Γ e te) (hs : swapsWith e none pos.line X.env = pure false := by rfl) : DS X Γ (.Expr e pos) (sExpr te) := ⟨fun W tk => PS.imp (ps_expr (he.run W tk) hs) fun D σ H h => by
  obtain ⟨ω, δ, R, h⟩ := h
  exact up_fl (t := te) R h fun v H1 ω1 δ1 x e1 R1 i1 h1 => h1 σ H1 ω1 (Ext.refl _ _) R1⟩
def sRet (t : TD) : TDS := fun δ => (t δ).fl fun x δ1 => .rt x δ1
def sRetG (t : TDG) : TDS := fun δ => (t δ).fl fun x δ1 => .rg x δ1
theorem ds_ret (he : DE X Γ e te) : DS X Γ (.Return (some e) pos) (sRet te) := ⟨fun W tk => PS.imp (ps_ret (he.run W tk)) fun D σ H h => by
  obtain ⟨ω, δ, R, h⟩ := h
  exact up_fl (t := te) R h fun v H1 ω1 δ1 x e1 R1 i1 h1 => h1 v σ H1 ω1 (Ext.refl _ _) R1 i1⟩
theorem ds_retG (he : DG X Γ (.own tagR) e tg) : DS X Γ (.Return (some e) pos) (sRetG tg) := ⟨fun W tk => PS.imp (ps_ret (he.run W tk)) fun D σ H h => by
  obtain ⟨ω, δ, R, h⟩ := h
  exact up_fl (t := tg) R h fun v H1 ω1 δ1 x e1 R1 i1 h1 => h1 v σ H1 ω1 (Ext.refl _ _) R1 i1⟩
def sRetN : TDS := fun δ => .rt (.fz .non) δ
theorem ds_retN : DS X Γ (.Return none pos) sRetN := ⟨fun W tk => PS.imp ps_retN fun D σ H h => by
  obtain ⟨ω, δ, R, h⟩ := h
  exact h .non σ H ω (Ext.refl _ _) R rfl⟩
def sIf (c : TDT) (t u : TDS) : TDS := fun δ => (c δ).fl fun b δ1 => if b = true then t δ1 else u δ1
theorem ds_if {c : Expr} {a b : List Stmt} {tc : TDT} (hc : DT X Γ c tc) (ha : DB X Γ a t) (hb : DB X Γ b u) : DS X Γ (.If c a b pos) (sIf tc t u) := ⟨fun W tk => PS.imp (ps_if (hc.run W tk) (ha.run W tk) (hb.run W tk)) fun D σ H h => by
  obtain ⟨ω, δ, R, h⟩ := h
  refine up_fl (t := tc) R h fun v H1 ω1 δ1 x e1 R1 i1 h1 => ?_
  cases i1
  cases v with
  | true => exact iteT ⟨ω1, δ1, R1, h1⟩
  | false => exact iteF ⟨ω1, δ1, R1, h1⟩⟩
/-! ### x = e -/
def putF (i : Nat) (x : Vl) (δ : DSt) : Fl := match frz δ x with
  | some (d, δ1) => .nx (δ1.set i (some (0, d)))
  | none => .stuck
def sAsg (i : Nat) (t : TD) : TDS := fun δ => (t δ).fl (putF i)
def sAsgG (i : Nat) (t : TDG) : TDS := fun δ => (t δ).fl fun d δ1 => .nx (δ1.set i (some (1, d)))
theorem putF_ok {K : Frag} {W : WX} {ω : Om} {H : Hp} {σ : L2.St} {δ : DSt} {i : Nat} {x : Vl} {v : V} {D : Ends} (hp : Γ.idx.contains i = false) (R : Rel K Γ ω H σ δ) (iv : IsV K Γ ω H σ x v) (h : okS K Γ W ω H (putF i x δ) D) : D.nx (σ.set i (some v)) H := by
  unfold putF at h
  cases q : frz δ x with
  | none => rw [q] at h; exact h.elim
  | some p =>
    obtain ⟨d, δ1⟩ := p
    rw [q] at h
    obtain ⟨ω1, X1, R1, h1⟩ := frz_ok R iv q
    exact h _ H ω1 X1 (R1.put hp ⟨v, rfl, h1⟩)
theorem ds_asg {i : Nat} {x : Str} {p : Pos} (hN : X.N.Nodup) (hi : X.N[i]? = some x) (he : DE X Γ e te) (hx : Loc X.env.scope x := by first | exact .inl rfl | exact .inr rfl) (hf : X.fn x = true ∨ X.env.scope.names.lookup x = some .local := by first | exact .inl rfl | exact .inr rfl) (hp : Γ.idx.contains i = false := by rfl)
    (hs : swapsWithSole [.Name x p] e pos.line X.env = pure false := by rfl) (hw : swappedStores [.Name x p] e X.env = pure none := by rfl) (h1 : (assignEach [.Name x p] X.env).map (·.2) = [assign (.Name x p) X.env] := by rfl) : DS X Γ (.Assign [.Name x p] e pos) (sAsg i te) :=
  ⟨fun W tk => PS.imp (ps_asg (he.run W tk) (pg_name hN hi hx hf) hs hw h1) fun D σ H h => by
    obtain ⟨ω, δ, R, h⟩ := h
    exact up_fl (t := te) R h fun v H1 ω1 δ1 x e1 R1 i1 h1 => putF_ok hp R1 i1 h1⟩
theorem ds_asgG {i : Nat} {x : Str} {p : Pos} (hN : X.N.Nodup) (hi : X.N[i]? = some x) (he : DG X Γ (.own i) e tg) (hx : Loc X.env.scope x := by first | exact .inl rfl | exact .inr rfl) (hf : X.fn x = true ∨ X.env.scope.names.lookup x = some .local := by first | exact .inl rfl | exact .inr rfl) (hp : Γ.idx.contains i = false := by rfl)
    (hs : swapsWithSole [.Name x p] e pos.line X.env = pure false := by rfl) (hw : swappedStores [.Name x p] e X.env = pure none := by rfl) (h1 : (assignEach [.Name x p] X.env).map (·.2) = [assign (.Name x p) X.env] := by rfl) : DS X Γ (.Assign [.Name x p] e pos) (sAsgG i tg) :=
  ⟨fun W tk => PS.imp (ps_asg (he.run W tk) (pg_name hN hi hx hf) hs hw h1) fun D σ H h => by
    obtain ⟨ω, δ, R, h⟩ := h
    refine up_fl (t := tg) R h fun v H1 ω1 δ1 x e1 R1 i1 h1 => ?_
    obtain ⟨a, vs, ds, rfl, rfl, o, hl, l⟩ := i1
    exact h1 _ H1 ω1 (Ext.refl _ _) (R1.put hp ⟨a, vs, ds, rfl, rfl, o, hl, l⟩)⟩
/-! ### a, b = e1, e2 -/
def sPar (i j : Nat) (ta tb : TD) : TDS := fun δ => (ta δ).fl fun x δ1 => (tb δ1).fl fun y δ2 => match frz δ2 x with
  | some (d, δ3) => (match frz δ3 y with
    | some (e, δ4) => .nx ((δ4.set i (some (0, d))).set j (some (0, e)))
    | none => .stuck)
  | none => .stuck
end
end DL

set_option Elab.async false
set_option linter.all false
set_option maxRecDepth 100000
namespace DL
open PySem PySem.Spec PyProof.Rows L2
/-! ### targets: a name, or a tuple of names -/
inductive Tgt where
  | nm (i : Nat) | tp (is : List Nat)
def setN : List Nat → List D → DSt → Option DSt
  | [], [], δ => some δ
  | i :: is, d :: ds, δ => setN is ds (δ.set i (some (0, d)))
  | _, _, _ => none
def setT : Tgt → D → DSt → Option DSt
  | .nm i, d, δ => some (δ.set i (some (0, d)))
  | .tp is, .tup ds, δ => setN is ds δ
  | .tp _, _, _ => none
def Tgt.vs : Tgt → List Nat
  | .nm i => [i]
  | .tp is => is
def setNV : List Nat → List V → L2.St → L2.St
  | [], _, σ => σ
  | i :: is, v :: vs, σ => setNV is vs (σ.set i (some v))
  | _ :: _, [], σ => σ
def gNames (is : List Nat) : TGs := fun vs σ H Q => vs.length = is.length ∧ Q (setNV is vs σ) H
def gT (K : Frag) : Tgt → TG
  | .nm i => gName i
  | .tp is => gTup K is.length (gNames is)
structure PN (X : Cx) (es : List Expr) (is : List Nat) : Prop where
  run : PGs X es (gNames is)
section
variable {X : Cx}
theorem PGs.imp {es : List Expr} {t t' : TGs} (h : PGs X es t) (k : ∀ vs σ H Q, t' vs σ H Q → t vs σ H Q) : PGs X es t' := ⟨fun p s σ H vs us Q I r q => h.run p s σ H vs us Q I r (k vs σ H Q q)⟩
theorem pn_nil : PN X [] [] := ⟨PGs.imp pgs_nil fun vs σ H Q h => ⟨List.eq_nil_of_length_eq_zero h.1, h.2⟩⟩
theorem pn_cons {i : Nat} {x : Str} {p : Pos} {es : List Expr} {is : List Nat} (hN : X.N.Nodup) (hi : X.N[i]? = some x) (h2 : PN X es is) (hx : Loc X.env.scope x := by first | exact .inl rfl | exact .inr rfl) (hf : X.fn x = true ∨ X.env.scope.names.lookup x = some .local := by first | exact .inl rfl | exact .inr rfl)
    (hs : (assignEach (.Name x p :: es) X.env).map (·.2) = assign (.Name x p) X.env :: (assignEach es X.env).map (·.2) := by rfl) : PN X (.Name x p :: es) (i :: is) := ⟨PGs.imp (pgs_cons (pg_name hN hi hx hf) h2.run hs) fun vs σ H Q h => by
  obtain ⟨hl, q⟩ := h
  cases vs with
  | nil => cases hl
  | cons v r => exact ⟨v, r, rfl, Nat.succ.inj hl, q⟩⟩
structure DTg (X : Cx) (tg : Expr) (t : Tgt) : Prop where
  run : PG X tg (gT X.K t)
theorem dtg_nm {i : Nat} {x : Str} {p : Pos} (hN : X.N.Nodup) (hi : X.N[i]? = some x) (hx : Loc X.env.scope x := by first | exact .inl rfl | exact .inr rfl) (hf : X.fn x = true ∨ X.env.scope.names.lookup x = some .local := by first | exact .inl rfl | exact .inr rfl) : DTg X (.Name x p) (.nm i) := ⟨pg_name hN hi hx hf⟩
theorem dtg_tp {es : List Expr} {is : List Nat} {k : Nat} {pos : Pos} (hc : X.calm = true) (h : PN X es is) (hn : (assignEach es X.env).length = is.length := by rfl) (hst : (assignEach es X.env).findIdx? (·.1) = none := by rfl) : DTg X (.Tuple es k pos) (.tp is) := ⟨pg_tup hc h.run hn hst⟩
end
section
variable {K : Frag} {Γ : Gm} {W : WX} {ω ω' : Om} {H H' : Hp} {σ : L2.St} {δ δ' : DSt}
theorem setN_ok : ∀ {is : List Nat} {ds : List D} {vs : List V} {σ : L2.St} {δ δ' : DSt}, (∀ i ∈ is, Γ.idx.contains i = false) → Rel K Γ ω H σ δ → IsL K ω H Γ.xi ds vs → setN is ds δ = some δ' → vs.length = is.length ∧ Rel K Γ ω H (setNV is vs σ) δ'
  | [], [], vs, σ, δ, δ', _, R, l, e => by
    cases e
    cases (show vs = [] from l)
    exact ⟨rfl, R⟩
  | i :: is, d :: ds, vs, σ, δ, δ', hp, R, l, e => by
    obtain ⟨v, r, rfl, h1, h2⟩ := l
    obtain ⟨q1, q2⟩ := setN_ok (is := is) (ds := ds) (fun j hj => hp j (List.mem_cons_of_mem _ hj)) (R.put (e := some (0, d)) (hp i List.mem_cons_self) ⟨v, rfl, h1⟩) h2 e
    exact ⟨by rw [List.length_cons, List.length_cons, q1], q2⟩
  | [], _ :: _, _, _, _, _, _, _, _, e => by cases e
  | _ :: _, [], _, _, _, _, _, _, _, e => by cases e
def pinOk (Γ : Gm) (t : Tgt) : Bool := t.vs.all fun i => !Γ.idx.contains i
/-- what the slots are behind a target -/
def setTV (K : Frag) (t : Tgt) (vs : List V) (v : V) (σ : L2.St) : L2.St := match t with
  | .nm i => σ.set i (some v)
  | .tp is => setNV is vs σ
theorem pin_of {t : Tgt} (h : pinOk Γ t = true) : ∀ i ∈ t.vs, Γ.idx.contains i = false := fun i hi => by
  have := List.all_eq_true.mp h i hi
  simpa using this
theorem setT_ok {t : Tgt} {d : D} {v : V} {Q : L2.St → Hp → Prop} (hp : pinOk Γ t = true) (R : Rel K Γ ω H σ δ) (i : Is K ω H Γ.xi d v) (e : setT t d δ = some δ') (h : ∀ vs, Rel K Γ ω H (setTV K t vs v σ) δ' → Q (setTV K t vs v σ) H) : gT K t v σ H Q := by
  cases t with
  | nm j =>
    cases e
    exact h [] (R.put (pin_of hp j (by simp [Tgt.vs])) ⟨v, rfl, i⟩)
  | tp is =>
    cases d with
    | tup ds =>
      obtain ⟨a, vs, rfl, n, l⟩ := i
      obtain ⟨q1, q2⟩ := setN_ok (pin_of hp) R l e
      exact ⟨a, vs, rfl, n.sq, q1, q1, h vs q2⟩
    | _ => cases e
theorem wipe_setNV : ∀ {is : List Nat} {vs : List V} {σ : L2.St} {ws : List Nat}, (∀ i ∈ is, i ∈ ws) → wipe (setNV is vs σ) ws = wipe σ ws
  | [], _, _, _, _ => rfl
  | _ :: _, [], _, _, _ => rfl
  | i :: is, v :: vs, σ, ws, h => by
    show wipe (setNV is vs (σ.set i (some v))) ws = _
    rw [wipe_setNV fun j hj => h j (List.mem_cons_of_mem _ hj)]
    have hi := h i List.mem_cons_self
    clear h
    induction ws with
    | nil => simp at hi
    | cons w ws ih =>
      by_cases e : w = i
      · subst e
        unfold wipe
        by_cases hm : w ∈ ws
        · rw [ih hm]
        · have : ∀ (ws : List Nat), w ∉ ws → wipe (σ.set w (some v)) ws = (wipe σ ws).set w (some v) := fun ws => by
            induction ws with
            | nil => intro _; rfl
            | cons u us ih2 =>
              intro hu
              simp only [List.mem_cons, not_or] at hu
              unfold wipe
              rw [ih2 hu.2, List.set_comm _ _ hu.1]
          rw [this ws hm, List.set_set]
      · unfold wipe
        rw [ih (by simpa [Ne.symm e] using hi)]
theorem wipe_setTV {t : Tgt} {vs : List V} {v : V} {ws : List Nat} (h : ∀ i ∈ t.vs, i ∈ ws) : wipe (setTV K t vs v σ) ws = wipe σ ws := by
  cases t with
  | nm i => exact wipe_setNV (is := [i]) (vs := [v]) h
  | tp is => exact wipe_setNV h
def wipeD (δ : DSt) : List Nat → DSt
  | [] => δ
  | v :: vs => (wipeD δ vs).set v none
theorem Rel.wipe (R : Rel K Γ ω H σ δ) : ∀ vs : List Nat, (∀ i ∈ vs, Γ.idx.contains i = false) → Rel K Γ ω H (L2.wipe σ vs) (wipeD δ vs)
  | [], _ => R
  | v :: vs, h => by
    have R1 := R.wipe vs fun i hi => h i (List.mem_cons_of_mem _ hi)
    unfold L2.wipe wipeD
    refine ⟨R1.wf, by rw [List.length_set, List.length_set, R1.len], fun j e hj => ?_, fun q hq => ?_⟩
    · by_cases z : v = j
      · subst z
        have hl : v < (wipeD δ vs).length := by
          have := (List.getElem?_eq_some_iff.mp hj).1
          rwa [List.length_set] at this
        rw [List.getElem?_set_self hl] at hj
        cases hj
        trivial
      · rw [List.getElem?_set_ne z] at hj ⊢
        exact R1.sl j e hj
    · have hne : v ≠ q.1 := fun z => by
        have hm := Γ.ok q hq
        rw [← z] at hm
        have := h v List.mem_cons_self
        rw [List.contains_iff_mem.mpr hm] at this
        cases this
      rw [List.getElem?_set_ne hne]
      exact R1.pin q hq
/-- the slots of the caller behind a block: those of the block are forgotten -/
theorem Rel.unwipe {σ2 : L2.St} (R : Rel K Γ ω H σ2 δ) {vs : List Nat} (e : L2.wipe σ2 vs = L2.wipe σ vs) (hv : ∀ i ∈ vs, Γ.idx.contains i = false) : Rel K Γ ω H σ (wipeD δ vs) := by
  have R1 := R.wipe vs hv
  rw [e] at R1
  have len : (L2.wipe σ vs).length = σ.length := wipe_length σ vs
  have same : ∀ j, j ∉ vs → (L2.wipe σ vs)[j]? = σ[j]? := by
    intro j
    clear R1 e hv len
    induction vs with
    | nil => intro _; rfl
    | cons u us ih =>
      intro h
      simp only [List.mem_cons, not_or] at h
      unfold L2.wipe
      rw [List.getElem?_set_ne (Ne.symm h.1), ih h.2]
  have gone : ∀ j, j ∈ vs → ∀ e, (wipeD δ vs)[j]? = some e → e = none := by
    intro j
    clear R1 e hv len same
    induction vs with
    | nil => intro h; simp at h
    | cons u us ih =>
      intro h e he
      unfold wipeD at he
      by_cases z : u = j
      · subst z
        have hl : u < (wipeD δ us).length := by
          have := (List.getElem?_eq_some_iff.mp he).1
          rwa [List.length_set] at this
        rw [List.getElem?_set_self hl] at he
        cases he
        rfl
      · rw [List.getElem?_set_ne z] at he
        exact ih (by simpa [Ne.symm z] using h) e he
  refine ⟨R1.wf, by rw [← len, R1.len], fun j e hj => ?_, fun q hq => ?_⟩
  · by_cases z : j ∈ vs
    · cases gone j z e hj
      trivial
    · rw [← same j z]
      exact R1.sl j e hj
  · have hn : q.1 ∉ vs := fun z => by
      have := hv q.1 z
      rw [List.contains_iff_mem.mpr (Γ.ok q hq)] at this
      cases this
    rw [← same q.1 hn]
    exact R1.pin q hq
end
/-! ### what a for walks -/
/-- at each turn one of ds -/
structure WalkD (K : Frag) (Γ : Gm) (ω : Om) (H : Hp) (J : It) (ds : List D) : Prop where
  ex : ∃ (G : Hp → Prop) (Y : Nat → Hp → V → Hp → Prop), Walk J ds.length G Y ∧ (∀ ω' H', Ext ω H ω' H' → G H') ∧
    ∀ i H' x H'' ω', i < ds.length → Ext ω H ω' H' → (∀ b, ω' b ≠ .out → ∃ o, H' b = some o) → Y i H' x H'' → ∃ d ω'', ds[i]? = some d ∧ Ext ω' H' ω'' H'' ∧ Is K ω'' H'' Γ.xi d x ∧ ∀ σ δ, Rel K Γ ω' H' σ δ → Rel K Γ ω'' H'' σ δ
abbrev TDI := DSt → R (List D)
def rlI (K : Frag) (Γ : Gm) : Om → Hp → L2.St → List D → It → Prop := fun ω H _ ds J => WalkD K Γ ω H J ds
abbrev upI (K : Frag) (Γ : Gm) (W : WX) (t : TDI) : TI := up K Γ W (rlI K Γ) t
structure DI (X : Cx) (Γ : Gm) (tg iter : Expr) (t : TDI) : Prop where
  run : ∀ W, L2N.Takes X W → PI X tg iter (upI X.K Γ W t)
theorem PI.imp {X : Cx} {tg e : Expr} {t t' : TI} (h : PI X tg e t) (k : ∀ σ H Q, t' σ H Q → t σ H Q) : PI X tg e t' := ⟨fun p s σ H Q I q => h.run p s σ H Q I (k σ H Q q)⟩
theorem PI.or {X : Cx} {tg e : Expr} {t t' : TI} (h : PI X tg e t) (h' : PI X tg e t') : PI X tg e (fun σ H Q => t σ H Q ∨ t' σ H Q) := ⟨fun p s σ H Q I q => q.elim (h.run p s σ H Q I) (h'.run p s σ H Q I)⟩
section
variable {K : Frag} {Γ : Gm} {W : WX} {ω ω' : Om} {H H' : Hp} {σ : L2.St} {δ δ' : DSt} {J : It}
/-- items that stand: at turn i the i-th of vs, the heap as it was -/
theorem walkD_of {ds : List D} {vs : List V} {G : Hp → Prop} (w : Walk J vs.length G (YAt vs)) (l : IsL K ω H Γ.xi ds vs) (hG : ∀ ω' H', Ext ω H ω' H' → G H') : WalkD K Γ ω H J ds := by
  refine ⟨⟨G, YAt vs, by rw [← l.length]; exact w, hG, fun i H' x H'' ω' hi X _ y => ?_⟩⟩
  obtain ⟨rfl, e⟩ := y
  obtain ⟨d, q1, q2⟩ := (l.mono X.f).getV e
  exact ⟨d, ω', q1, Ext.refl _ _, q2, fun _ _ R => R⟩
theorem walkD_fn {n : Nat} {f : Nat → V} {g : Nat → D} {G : Hp → Prop} (w : Walk J n G (YFn f)) (hG : ∀ H', G H') (h : ∀ i ω' H', Is K ω' H' Γ.xi (g i) (f i)) : WalkD K Γ ω H J ((List.range n).map g) := by
  refine ⟨⟨G, YFn f, by simpa using w, fun _ Hx _ => hG Hx, fun i H' x H'' ω' hi X _ y => ?_⟩⟩
  obtain ⟨rfl, rfl⟩ := y
  have hi' : i < n := by simpa using hi
  exact ⟨g i, ω', by simp [hi'], Ext.refl _ _, h i ω' _, fun _ _ R => R⟩
/-- new pairs -/
theorem walkD_pair {n : Nat} {xs ys : Nat → Option V} {ds : List D} {G : Hp → Prop} (w : Walk J n G (YPair xs ys)) (hn : ds.length = n) (hG : ∀ ω' H', Ext ω H ω' H' → G H')
    (h : ∀ i x y, i < n → xs i = some x → ys i = some y → ∃ d e, ds[i]? = some (.tup [d, e]) ∧ Is K ω H Γ.xi d x ∧ Is K ω H Γ.xi e y) : WalkD K Γ ω H J ds := by
  subst hn
  refine ⟨⟨G, YPair xs ys, w, hG, fun i H' v H'' ω' hi X wf y => ?_⟩⟩
  obtain ⟨T, x, y, rfl, hT, rfl, e1, e2⟩ := y
  obtain ⟨d, e, q0, q1, q2⟩ := h i x y hi e1 e2
  have hw : ω' T = .out := by
    cases z : ω' T with
    | out => rfl
    | _ =>
      obtain ⟨o, q⟩ := wf T (by rw [z]; intro k; cases k)
      rw [hT] at q; cases q
  have X2 : Ext ω' H' (nwO ω' T .fz) (upd H' T (.tup [x, y])) := by
    refine ⟨fun b hb => ?_, fun b u hb hb' => ?_⟩
    · have ne : b ≠ T := fun z => by rw [z, hw] at hb; rcases hb with hb | hb <;> cases hb
      exact ⟨nwO_ne ne, upd_ne ne⟩
    · have ne : b ≠ T := fun z => by rw [z, hT] at hb; cases hb
      exact ⟨by rw [nwO_ne ne]; exact hb', by rw [upd_ne ne]; exact hb⟩
  exact ⟨.tup [d, e], nwO ω' T .fz, q0, X2, ⟨T, [x, y], rfl, .inl ⟨nwO_self, upd_same⟩, _, _, rfl, (q1.mono X.f).mono X2.f, IsL.one ((q2.mono X.f).mono X2.f)⟩, fun σ δ R => R.new hT _⟩
end
section
variable {X : Cx} {Γ : Gm} {tg e e2 a b : Expr} {t ta tb : TD} {p pos tpos : Pos} {elts : List Expr} {kk : Nat}
/-- a list or a tuple -/
def iSeq (t : TD) : TDI := fun δ => (t δ).bind fun x δ1 => match frz δ1 x with
  | some (d, δ2) => (match items d with
    | some ds => .ok ds δ2
    | none => .stuck)
  | none => .stuck
theorem di_seq (he : DE X Γ e t) : DI X Γ tg e (iSeq t) := ⟨fun W tk => PI.imp (PI.or (pi_list (he.run W tk)) (pi_tup (he.run W tk))) fun σ H P h => by
  obtain ⟨ω, δ, Rl, h⟩ := h
  unfold iSeq at h
  cases q : t δ with
  | stuck => rw [q] at h; exact h.elim
  | exc c ns ds δ1 =>
    rw [q] at h
    exact .inl ⟨ω, δ, Rl, by rw [q]; exact h⟩
  | ok x δ1 =>
    rw [q] at h
    have h : okR X.K Γ W ω H σ (rlI X.K Γ) (match frz δ1 x with
      | some (d, δ2) => (match items d with
        | some ds => R.ok ds δ2
        | none => R.stuck)
      | none => R.stuck) P := h
    cases qf : frz δ1 x with
    | none => rw [qf] at h; exact h.elim
    | some pr =>
      obtain ⟨d, δ2⟩ := pr
      rw [qf] at h
      dsimp only at h
      cases d with
      | lst ds =>
        refine .inl ⟨ω, δ, Rl, ?_⟩
        rw [q]
        intro v H1 ω1 X1 R1 i1
        obtain ⟨ω2, X2, R2, h2⟩ := frz_ok R1 i1 qf
        obtain ⟨a, vs, rfl, n, l⟩ := h2
        exact ⟨a, rfl, ⟨vs, n.sq⟩, h _ H1 ω2 (X1.trans X2) R2 (walkD_of walk_list l fun ω' H' X' => (n.mono X'.f).sq)⟩
      | tup ds =>
        refine .inr ⟨ω, δ, Rl, ?_⟩
        rw [q]
        intro v H1 ω1 X1 R1 i1
        obtain ⟨ω2, X2, R2, h2⟩ := frz_ok R1 i1 qf
        obtain ⟨a, vs, rfl, n, l⟩ := h2
        exact ⟨a, rfl, ⟨vs, n.sq⟩, h _ H1 ω2 (X1.trans X2) R2 (walkD_of walk_tup l fun ω' H' X' => (n.mono X'.f).sq)⟩
      | brw ds =>
        refine .inl ⟨ω, δ, Rl, ?_⟩
        rw [q]
        intro v H1 ω1 X1 R1 i1
        obtain ⟨ω2, X2, R2, h2⟩ := frz_ok R1 i1 qf
        obtain ⟨a, vs, rfl, n, n2, l⟩ := h2
        exact ⟨a, rfl, ⟨vs, SqL.of n2⟩, h _ H1 ω2 (X1.trans X2) R2 (walkD_of walk_list l fun ω' H' X' => SqL.of ((X'.bo a n).2.trans n2))⟩
      | _ => exact h.elim⟩
def smallI (i : Int) : Bool := decide (-(2 ^ 62) ≤ i) && decide (i < 2 ^ 62)
theorem smallI_ok {i : Int} (h : smallI i = true) : -(2 ^ 62) ≤ i ∧ i < 2 ^ 62 := ⟨of_decide_eq_true (Bool.and_eq_true_iff.mp h).1, of_decide_eq_true (Bool.and_eq_true_iff.mp h).2⟩
def rangeD (i j : Int) : List D := (List.range (j - i).toNat).map fun (k : Nat) => D.int (i + (k : Int))
theorem rng_walk {K : Frag} {ω : Om} {H : Hp} {lo : Int} {n : Nat} : WalkD K Γ ω H (Itr lo n) ((List.range n).map fun (k : Nat) => D.int (lo + (k : Int))) :=
  walkD_fn (g := fun (k : Nat) => D.int (lo + (k : Int))) walk_range (fun _ => trivial) fun _ _ _ => rfl
def ints2 (δ : DSt) : List Vl → Option (List Int)
  | [] => some []
  | x :: xs => match dr δ x with
    | some (.int i) => (match ints2 δ xs with
      | some r => some (i :: r)
      | none => none)
    | _ => none
theorem ints2_ok {K : Frag} {ω : Om} {H : Hp} {σ : L2.St} {δ : DSt} (R : Rel K Γ ω H σ δ) : ∀ {xs : List Vl} {vs : List V} {is : List Int}, IsVs K Γ ω H σ xs vs → ints2 δ xs = some is → vs = is.map V.int
  | [], vs, is, h, e => by
    cases e
    exact h
  | x :: xs, vs, is, h, e => by
    obtain ⟨v, r, rfl, i1, i2⟩ := h
    unfold ints2 at e
    cases q : dr δ x with
    | none => rw [q] at e; cases e
    | some d =>
      rw [q] at e
      cases d with
      | int i =>
        dsimp only at e
        cases q2 : ints2 δ xs with
        | none => rw [q2] at e; cases e
        | some r2 =>
          rw [q2] at e
          cases e
          rw [List.map_cons, ints2_ok R i2 q2, (dr_ok R i1 q).int]
      | _ => cases e
def rngF1 : List Int → Option (List D)
  | [j] => if smallI j then some (rangeD 0 j) else none
  | _ => none
def rngF2 : List Int → Option (List D)
  | [i, j] => if smallI i && smallI j then some (rangeD i j) else none
  | _ => none
def iRng (f : List Int → Option (List D)) (t : TDA) : TDI := fun δ => (t δ).bind fun xs δ1 => match (ints2 δ1 xs).bind f with
  | some ds => .ok ds δ1
  | none => .stuck
theorem di_range1 {ta : TDA} (hm : X.mg "range" = none) (ha : DA X Γ [a] ta) (hg : Gl X "range" := by rfl) (hs : starEach [a] X.env = [(false, eval a X.env)] := by rfl) : DI X Γ tg (.Call (.Name "range" p) [a] [] pos) (iRng rngF1 ta) := ⟨fun W tk => PI.imp (pi_range1 hg hm (ha.run W tk) hs) fun σ H P h => by
  obtain ⟨ω, δ, Rl, h⟩ := h
  refine up_bind (t := ta) Rl h fun vs H1 ω1 δ1 xs e1 R1 i1 h1 => ?_
  cases q : ints2 δ1 xs with
  | none => rw [q] at h1; exact h1.elim
  | some is =>
    rw [q] at h1
    have ev := ints2_ok R1 i1 q
    subst ev
    match is, h1 with
    | [j], h1 =>
      dsimp only [Option.bind, rngF1] at h1
      by_cases hz : smallI j = true
      · rw [if_pos hz] at h1
        have z := smallI_ok hz
        refine ⟨j, rfl, z.1, z.2, okR.now h1 R1 ?_⟩
        unfold rangeD
        rw [Int.sub_zero]
        exact rng_walk
      · rw [if_neg hz] at h1; exact h1.elim
    | [], h1 => exact h1.elim
    | _ :: _ :: _, h1 => exact h1.elim⟩
theorem di_range2 {ta : TDA} (hm : X.mg "range" = none) (ha : DA X Γ [a, b] ta) (hg : Gl X "range" := by rfl) (hs : starEach [a, b] X.env = [(false, eval a X.env), (false, eval b X.env)] := by rfl) (hs2 : starEach [b] X.env = [(false, eval b X.env)] := by rfl) :
    DI X Γ tg (.Call (.Name "range" p) [a, b] [] pos) (iRng rngF2 ta) := ⟨fun W tk => PI.imp (pi_range2 hg hm (ha.run W tk) hs hs2) fun σ H P h => by
  obtain ⟨ω, δ, Rl, h⟩ := h
  refine up_bind (t := ta) Rl h fun vs H1 ω1 δ1 xs e1 R1 i1 h1 => ?_
  cases q : ints2 δ1 xs with
  | none => rw [q] at h1; exact h1.elim
  | some is =>
    rw [q] at h1
    have ev := ints2_ok R1 i1 q
    subst ev
    match is, h1 with
    | [i, j], h1 =>
      dsimp only [Option.bind, rngF2] at h1
      by_cases hz : (smallI i && smallI j) = true
      · rw [if_pos hz] at h1
        obtain ⟨z1, z2⟩ := Bool.and_eq_true_iff.mp hz
        have y1 := smallI_ok z1
        have y2 := smallI_ok z2
        exact ⟨i, j, rfl, ⟨y1.1, y1.2, y2.1, y2.2⟩, okR.now h1 R1 rng_walk⟩
      · rw [if_neg hz] at h1; exact h1.elim
    | [], h1 => exact h1.elim
    | [_], h1 => exact h1.elim
    | _ :: _ :: _ :: _, h1 => exact h1.elim⟩
/-- enumerate(list) -/
def enumD : Nat → List D → List D
  | _, [] => []
  | k, d :: ds => .tup [.int (k : Int), d] :: enumD (k + 1) ds
theorem enumD_len : ∀ {k : Nat} {ds : List D}, (enumD k ds).length = ds.length
  | _, [] => rfl
  | k, d :: ds => by unfold enumD; rw [List.length_cons, List.length_cons, enumD_len]
theorem enumD_at : ∀ {k : Nat} {ds : List D} {i : Nat} {d : D}, ds[i]? = some d → (enumD k ds)[i]? = some (.tup [.int ((k + i : Nat) : Int), d])
  | _, [], _, _, h => by simp at h
  | k, d :: ds, 0, x, h => by
    simp at h
    subst h
    rfl
  | k, d :: ds, i + 1, x, h => by
    unfold enumD
    rw [List.getElem?_cons_succ, enumD_at (k := k + 1) (by simpa using h), show k + 1 + i = k + (i + 1) by omega]
def iEn (t : TDA) : TDI := fun δ => (t δ).bind fun xs δ1 => match frzs δ1 xs with
  | some ([.lst ds], δ2) => .ok (enumD 0 ds) δ2
  | _ => .stuck
theorem di_enum {ta : TDA} (hm : X.mg "enumerate" = none) (ha : DA X Γ [a] ta) (hg : Gl X "enumerate" := by rfl) (hs : starEach [a] X.env = [(false, eval a X.env)] := by rfl) : DI X Γ (.Tuple elts kk tpos) (.Call (.Name "enumerate" p) [a] [] pos) (iEn ta) :=
  ⟨fun W tk => PI.imp (pi_enum hg hm (ha.run W tk) hs) fun σ H P h => by
    obtain ⟨ω, δ, Rl, h⟩ := h
    refine up_bind (t := ta) Rl h fun vs H1 ω1 δ1 xs e1 R1 i1 h1 => ?_
    split at h1
    · rename_i ds δ2 q
      obtain ⟨ω2, X2, R2, l2⟩ := frzs_ok R1 i1 q
      obtain ⟨v, r, rfl, ⟨a, ws, rfl, n, l⟩, e0⟩ := l2
      cases (show r = [] from e0)
      refine ⟨a, ws, rfl, n.sq, okR.at h1 X2 R2 ?_⟩
      refine walkD_pair (n := ws.length) walk_enum (by rw [enumD_len, l.length]) (fun ω' H' X' => (n.mono X'.f).sq) fun i x y hi hx hy => ?_
      cases hx
      obtain ⟨d, q1, q2⟩ := l.getV hy
      exact ⟨.int (i : Nat), d, by rw [enumD_at q1, Nat.zero_add], rfl, q2⟩
    · exact h1.elim⟩
/-- zip(xs, ys) -/
def zipD (xs ys : List D) : List D := (xs.zip ys).map fun q => .tup [q.1, q.2]
def iZp (t : TDA) : TDI := fun δ => (t δ).bind fun xs δ1 => match frzs δ1 xs with
  | some ([.lst ds, .lst es], δ2) => .ok (zipD ds es) δ2
  | some ([.tup ds, .tup es], δ2) => .ok (zipD ds es) δ2
  | _ => .stuck
theorem zipD_at {xs ys : List D} {i : Nat} {d e : D} (h1 : xs[i]? = some d) (h2 : ys[i]? = some e) : (zipD xs ys)[i]? = some (.tup [d, e]) := by
  unfold zipD
  rw [List.getElem?_map, (List.getElem?_zip_eq_some (z := (d, e))).mpr ⟨h1, h2⟩] <;> rfl
theorem zipT_walk {K : Frag} {a b : Addr} {xs ys : List V} {n : Nat} (hn : n = min xs.length ys.length) : Walk (RZ.ItzT K a b) n (fun H => SqT K H a xs ∧ SqT K H b ys) (YPair (fun i => xs[i]?) (fun i => ys[i]?)) where
  goes := fun i _ hi q => ⟨xs, ys, xs[i]'(by omega), ys[i]'(by omega), q.1, q.2, List.getElem?_eq_getElem _, List.getElem?_eq_getElem _⟩
  stops := fun _ q => ⟨xs, ys, q.1, q.2, by omega⟩
  yields := fun i H v H' _ q y => by
    obtain ⟨T, x, z, h1, h2, h3, h4, h5⟩ := y
    exact ⟨T, x, z, h1, h2, h3, h4 xs q.1, h5 ys q.2⟩
theorem di_zip {ta : TDA} (hm : X.mg "zip" = none) (ha : DA X Γ [a, b] ta) (hg : Gl X "zip" := by rfl) (hs : starEach [a, b] X.env = (false, eval a X.env) :: starEach [b] X.env := by rfl) (hpl : (backTo pos (starEach [b] X.env)).any (·.1) = false := by rfl) :
    DI X Γ (.Tuple elts kk tpos) (.Call (.Name "zip" p) [a, b] [] pos) (iZp ta) :=
  ⟨fun W tk => PI.imp (RZ.pi_zipA hg hm (ha.run W tk) hs hpl) fun σ H P h => by
    obtain ⟨ω, δ, Rl, h⟩ := h
    refine up_bind (t := ta) Rl h fun vs H1 ω1 δ1 xs e1 R1 i1 h1 => ?_
    split at h1
    · rename_i ds es δ2 q
      obtain ⟨ω2, X2, R2, l2⟩ := frzs_ok R1 i1 q
      obtain ⟨v, r, rfl, ⟨a, ws, rfl, n, l⟩, w, r2, rfl, ⟨b, us, rfl, m, k⟩, e0⟩ := l2
      cases (show r2 = [] from e0)
      refine ⟨a, b, ws, us, rfl, .inl ⟨n.sq, m.sq, okR.at h1 X2 R2 ?_⟩⟩
      refine walkD_pair (n := min ws.length us.length) (walk_zip rfl) (by unfold zipD; rw [List.length_map, List.length_zip, l.length, k.length]) (fun ω' H' X' => ⟨(n.mono X'.f).sq, (m.mono X'.f).sq⟩) fun i x y hi hx hy => ?_
      obtain ⟨d, q1, q2⟩ := l.getV hx
      obtain ⟨e, q3, q4⟩ := k.getV hy
      exact ⟨d, e, zipD_at q1 q3, q2, q4⟩
    · rename_i ds es δ2 q
      obtain ⟨ω2, X2, R2, l2⟩ := frzs_ok R1 i1 q
      obtain ⟨v, r, rfl, ⟨a, ws, rfl, n, l⟩, w, r2, rfl, ⟨b, us, rfl, m, k⟩, e0⟩ := l2
      cases (show r2 = [] from e0)
      refine ⟨a, b, ws, us, rfl, .inr ⟨n.sq, m.sq, okR.at h1 X2 R2 ?_⟩⟩
      refine walkD_pair (n := min ws.length us.length) (zipT_walk rfl) (by unfold zipD; rw [List.length_map, List.length_zip, l.length, k.length]) (fun ω' H' X' => ⟨(n.mono X'.f).sq, (m.mono X'.f).sq⟩) fun i x y hi hx hy => ?_
      obtain ⟨d, q1, q2⟩ := l.getV hx
      obtain ⟨e, q3, q4⟩ := k.getV hy
      exact ⟨d, e, zipD_at q1 q3, q2, q4⟩
    · exact h1.elim⟩
/-! ### for, while -/
def forF (t : Tgt) (b : TDS) : List D → TDS
  | [], δ => .nx δ
  | d :: ds, δ => match setT t d δ with
    | some δ1 => (match b δ1 with
      | .nx δ2 => forF t b ds δ2
      | .ct δ2 => forF t b ds δ2
      | .bk δ2 => .nx δ2
      | f => f)
    | none => .stuck
def sFor (t : Tgt) (i : TDI) (b : TDS) : TDS := fun δ => (i δ).fl fun ds δ1 => forF t b ds δ1
theorem ds_for {iter : Expr} {body : List Stmt} {t : Tgt} {ti : TDI} {tb : TDS} (hp : PassesOwn (model X.prog X.w) X.A X.env X.xe) (hc : X.calm = true) (hi : DI X Γ tg iter ti) (hg : DTg X tg t) (hb : DB X Γ body tb) (hpin : pinOk Γ t = true := by rfl)
    (hs : ∀ x, foldedSetIterable iter X.env x = pure x := by intro _; rfl) : DS X Γ (.For tg iter body [] pos) (sFor t ti tb) :=
  ⟨fun W tk => PS.imp (ps_for hp hc (hi.run W tk) hg.run (hb.run W tk) hs) fun D σ H h => by
    obtain ⟨ω, δ, Rl, h⟩ := h
    refine up_fl (t := ti) Rl h fun J H1 ω1 δ1 ds e1 R1 i1 h1 => ?_
    obtain ⟨G, Y, w, hG, hY⟩ := i1.ex
    refine for_it w (fun i σ' H' => ∃ ω' δ', Ext ω1 H1 ω' H' ∧ Rel X.K Γ ω' H' σ' δ' ∧ okS X.K Γ W ω' H' (forF t tb (ds.drop i) δ') D) ⟨ω1, δ1, Ext.refl _ _, R1, by rw [List.drop_zero]; exact h1⟩ (fun i σ' H' _ ⟨ω', _, X', _⟩ => hG ω' H' X') ?_ ?_
    · rintro i x σ' H' H'' hlt ⟨ω', δ', X', R', ok⟩ y
      obtain ⟨d, ω'', q1, X'', isd, hR⟩ := hY i H' x H'' ω' hlt X' R'.wf y
      have R'' := hR σ' δ' R'
      rw [List.drop_eq_getElem_cons hlt] at ok
      have ed : ds[i] = d := by
        rw [List.getElem?_eq_getElem hlt] at q1
        exact Option.some.inj q1
      rw [ed] at ok
      unfold forF at ok
      cases qs : setT t d δ' with
      | none => rw [qs] at ok; exact ok.elim
      | some δ2 =>
        rw [qs] at ok
        dsimp only at ok
        have ok := okS.ext X'' ok
        refine setT_ok hpin R'' isd qs fun vs R2 => ⟨ω'', δ2, R2, ?_⟩
        revert ok
        cases tb δ2 with
        | nx δ3 => exact fun ok σ3 H3 ω3 X3 R3 => ⟨ω3, δ3, (X'.trans X'').trans X3, R3, okS.ext X3 ok⟩
        | ct δ3 => exact fun ok σ3 H3 ω3 X3 R3 => ⟨ω3, δ3, (X'.trans X'').trans X3, R3, okS.ext X3 ok⟩
        | bk δ3 => exact fun ok => ok
        | rt x δ3 => exact fun ok => ok
        | rg x δ3 => exact fun ok => ok
        | ex c ns ds δ3 => exact fun ok => ok
        | stuck => exact fun ok => ok
    · rintro σ' H' ⟨ω', δ', X', R', ok⟩
      rw [List.drop_length] at ok
      exact ok σ' H' ω' (Ext.refl _ _) R'⟩
def whF (c : TDT) (b : TDS) : Nat → TDS
  | 0, _ => .stuck
  | n + 1, δ => (c δ).fl fun k δ1 => if k = true then (match b δ1 with
      | .nx δ2 => whF c b n δ2
      | .ct δ2 => whF c b n δ2
      | .bk δ2 => .nx δ2
      | f => f) else .nx δ1
/-- at most as many turns as fuel tells -/
def sWhile (fuel : DSt → Nat) (c : TDT) (b : TDS) : TDS := fun δ => whF c b (fuel δ) δ
theorem ds_while {c : Expr} {body : List Stmt} {tc : TDT} {tb : TDS} (fuel : DSt → Nat) (hp : PassesOwn (model X.prog X.w) X.A X.env X.xe) (hc : DT X Γ c tc) (hb : DB X Γ body tb) : DS X Γ (.While c body [] pos) (sWhile fuel tc tb) :=
  ⟨fun W tk => PS.imp (ps_while hp (hc.run W tk) (hb.run W tk)) fun D σ H h => by
    obtain ⟨ω, δ, Rl, h⟩ := h
    refine ⟨fun n σ' H' => ∃ ω' δ', Rel X.K Γ ω' H' σ' δ' ∧ okS X.K Γ W ω' H' (whF tc tb n δ') D, ⟨_, ω, δ, Rl, h⟩, ?_⟩
    rintro n σ' H' ⟨ω', δ', R', ok⟩
    cases n with
    | zero => exact ok.elim
    | succ n =>
      unfold whF at ok
      refine up_fl (t := tc) R' ok fun v H1 ω1 δ1 x e1 R1 i1 h1 => ?_
      cases i1
      cases v with
      | false => exact iteF (h1 σ' H1 ω1 (Ext.refl _ _) R1)
      | true =>
        refine iteT ⟨fun σ2 H2 => ∃ ω2 δ2, Rel X.K Γ ω2 H2 σ2 δ2 ∧ okS X.K Γ W ω2 H2 (whF tc tb n δ2) D, fun σ2 H2 q => ⟨n, Nat.lt_succ_self n, q⟩, ω1, δ1, R1, ?_⟩
        have h1 : okS X.K Γ W ω1 H1 (match tb δ1 with
          | .nx δ2 => whF tc tb n δ2
          | .ct δ2 => whF tc tb n δ2
          | .bk δ2 => .nx δ2
          | f => f) D := h1
        revert h1
        cases tb δ1 with
        | nx δ3 => exact fun ok σ3 H3 ω3 X3 R3 => ⟨ω3, δ3, R3, okS.ext X3 ok⟩
        | ct δ3 => exact fun ok σ3 H3 ω3 X3 R3 => ⟨ω3, δ3, R3, okS.ext X3 ok⟩
        | bk δ3 => exact fun ok => ok
        | rt x δ3 => exact fun ok => ok
        | rg x δ3 => exact fun ok => ok
        | ex c ns ds δ3 => exact fun ok => ok
        | stuck => exact fun ok => ok⟩
end
end DL

set_option Elab.async false
set_option linter.all false
set_option maxRecDepth 100000
namespace DL
open PySem PySem.Spec PyProof.Rows L2
/-! ### comprehensions -/
def W0 : WX := fun _ _ _ _ => False
theorem tk0 {X : Cx} : L2N.Takes X W0 := fun u s' x => by
  obtain ⟨_, _, _, _, _, _, _, _, _, _, _, _, _, _, _, _, z⟩ := x
  exact z.elim
section
variable {K : Frag} {Γ : Gm} {W : WX} {ω ω' : Om} {H H' : Hp} {σ : L2.St} {δ δ' : DSt} {τ : Tg}
theorem fz_out {p : Addr} (hw : ω p = .out) (o : HO) : Fz ω H ω (upd H p o) := fun b h => ⟨rfl, upd_ne fun z => by rw [z, hw] at h; rcases h with h | h <;> cases h⟩
theorem Rel.updOut (R : Rel K Γ ω H σ δ) {p : Addr} (hw : ω p = .out) (o : HO) : Rel K Γ ω (upd H p o) σ δ := by
  refine ⟨fun b h => ?_, R.len, fun i e hi => (R.sl i e hi).mono (fz_out hw o) fun b hb => ⟨hb, upd_ne fun z => by rw [z, hw] at hb; cases hb⟩, R.pin⟩
  by_cases e : b = p
  · exact ⟨o, by rw [e]; exact upd_same⟩
  · obtain ⟨u, q⟩ := R.wf b h
    exact ⟨u, by rw [upd_ne e]; exact q⟩
theorem fz_retag {p : Addr} (hw : ω p = .out) : Fz ω H (nwO ω p τ) H := fun b h => ⟨nwO_ne fun z => by (rw [z, hw] at h; rcases h with h | h <;> cases h), rfl⟩
theorem Rel.retag (R : Rel K Γ ω H σ δ) {p : Addr} {o : HO} (hw : ω p = .out) (hp : H p = some o) : Rel K Γ (nwO ω p τ) H σ δ := by
  refine ⟨fun b h => ?_, R.len, fun i e hi => (R.sl i e hi).mono (fz_retag hw) fun b hb => ⟨by rw [nwO_ne fun z => by rw [z, hw] at hb; cases hb]; exact hb, rfl⟩, R.pin⟩
  by_cases e : b = p
  · exact ⟨o, by rw [e]; exact hp⟩
  · rw [nwO_ne e] at h
    exact R.wf b h
end
theorem wipe_wipe {σ : L2.St} {vs : List Nat} : ∀ ws : List Nat, (∀ j ∈ ws, j ∈ vs) → wipe (wipe σ vs) ws = wipe σ vs
  | [], _ => rfl
  | u :: r, hr => by
    show (wipe (wipe σ vs) r).set u none = wipe σ vs
    rw [wipe_wipe r fun j hj => hr j (List.mem_cons_of_mem _ hj)]
    have hu := hr u List.mem_cons_self
    generalize hg : wipe σ vs = τ
    refine List.ext_getElem? fun k => ?_
    by_cases z : u = k
    · subst z
      by_cases hl : u < τ.length
      · rw [List.getElem?_set_self hl]
        cases q : τ[u]? with
        | none =>
          rw [List.getElem?_eq_none_iff] at q
          omega
        | some v =>
          cases v with
          | none => rfl
          | some v => exact absurd hu (wipe_some (hg.symm ▸ q)).2
      · rw [List.getElem?_eq_none (by rw [List.length_set]; omega), List.getElem?_eq_none (by omega)]
    · rw [List.getElem?_set_ne z]
def compF (vs : List Nat) (t : Tgt) (c : TDT) (e : TD) : List D → List D → DSt → R (List D)
  | [], acc, δ => .ok acc δ
  | d :: ds, acc, δ => match setT t d δ with
    | none => .stuck
    | some δ1 => match c δ1 with
      | .ok true δ2 => (match e δ2 with
        | .ok x δ3 => (match frz δ3 x with
          | some (y, δ4) => if acc.length < sizeLine then compF vs t c e ds (acc ++ [y]) (wipeD δ4 vs) else .stuck
          | none => .stuck)
        | _ => .stuck)
      | .ok false δ2 => compF vs t c e ds acc (wipeD δ2 vs)
      | _ => .stuck
def gComp (vs : List Nat) (t : Tgt) (i : TDI) (c : TDT) (e : TD) : TDG := fun δ => (i δ).bind fun ds δ1 => (compF vs t c e ds [] (wipeD δ1 vs)).bind fun acc δ2 => .ok (.lst acc) (wipeD δ2 vs)
def tYesD : TDT := fun δ => .ok true δ
structure DIfs (X : Cx) (Γ : Gm) (ifs : List Expr) (t : TDT) : Prop where
  run : PTs X ifs (upT X.K Γ W0 t)
section
variable {X : Cx} {Γ : Gm} {pos : Pos}
theorem PTs.imp {ifs : List Expr} {t t' : TT} (h : PTs X ifs t) (k : ∀ σ H Q, t' σ H Q → t σ H Q) : PTs X ifs t' := ⟨fun p s σ H Q I q => h.run p s σ H Q I (k σ H Q q)⟩
theorem difs_nil : DIfs X Γ [] tYesD := ⟨PTs.imp pts_nil fun σ H Q h => by
  obtain ⟨ω, δ, R, h⟩ := h
  exact okR.now (x := true) h R rfl⟩
theorem difs_one {c : Expr} {t : TDT} (h : DT X Γ c t) : DIfs X Γ [c] t := ⟨pts_one (h.run W0 tk0)⟩
abbrev blkX (X : Cx) (s : Shared) (H : Hp) (scope : Scope) (C : Addr) (cl : List (Str × Addr)) (fp : List Addr) : Cx := X.blk s H scope (compEnvC scope cl C X.env) fp
theorem up_lc {K : Frag} {W : WX} {τ : Tg} (hτ : τ ≠ .out) {vs : List Nat} {t : Tgt} {ti : TDI} {tt : TDT} {te : TD} (hvs : ∀ i ∈ t.vs, i ∈ vs) (hp : ∀ i ∈ vs, Γ.idx.contains i = false) {σ : L2.St} {H : Hp} {Q : VK}
    (h : up K Γ W (rlG K Γ τ) (gComp vs t ti tt te) σ H Q) : tLc (upI K Γ W ti) (gT K t) (upT K Γ W0 tt) (upE K Γ W0 te) vs σ H Q := by
  obtain ⟨ω, δ, Rl, h⟩ := h
  refine up_bind (t := ti) Rl h fun J H1 ω1 δ1 ds e1 R1 i1 h1 => ?_
  obtain ⟨G, Y, w, hG, hY⟩ := i1.ex
  intro p hpn
  have hw := R1.fresh hpn
  have hpin : pinOk Γ t = true := List.all_eq_true.mpr fun i hi => by rw [hp i (hvs i hi)] <;> rfl
  have extU : ∀ {ω' : Om} {H' : Hp} (o : HO), Ext ω1 H1 ω' H' → ω' p = .out → Ext ω1 H1 ω' (upd H' p o) := fun {ω' H'} o X hw' => by
    refine ⟨fun b hb => ⟨(X.fx b hb).1, ?_⟩, fun b u hb hb' => ⟨(X.out b u hb hb').1, ?_⟩⟩
    · rw [upd_ne fun z => by rw [z, hw] at hb; rcases hb with hb | hb <;> cases hb]
      exact (X.fx b hb).2
    · rw [upd_ne fun z => by rw [z, hpn] at hb; cases hb]
      exact (X.out b u hb hb').2
  refine lc_it w (fun i H' => ∃ ω' δ' acc ws, Ext ω1 H1 ω' H' ∧ ω' p = .out ∧ H' p = some (.lst ws) ∧ IsL K ω' H' Γ.xi acc ws ∧ Rel K Γ ω' H' (wipe σ vs) δ' ∧
    okR K Γ W ω1 H1 σ (rlG K Γ τ) ((compF vs t tt te (ds.drop i) acc δ').bind fun acc δ2 => .ok (.lst acc) (wipeD δ2 vs)) Q)
    ⟨ω1, wipeD δ1 vs, [], [], extU _ (Ext.refl _ _) hw, hw, upd_same, rfl, (R1.wipe vs hp).updOut hw _, by rw [List.drop_zero]; exact h1⟩ (fun i H' _ ⟨ω', _, _, _, X', _⟩ => hG ω' H' X') ?_ ?_
  · rintro i x H' H'' hlt ⟨ω', δ', acc, ws, X', hw', hpl, l, R', ok⟩ y
    obtain ⟨d, ω2, q1, X2, isd, hR⟩ := hY i H' x H'' ω' hlt X' R'.wf y
    have R2 := hR _ δ' R'
    have hw2 := X2.out p _ hpl hw'
    rw [List.drop_eq_getElem_cons hlt] at ok
    have ed : ds[i] = d := by
      rw [List.getElem?_eq_getElem hlt] at q1
      exact Option.some.inj q1
    rw [ed] at ok
    unfold compF at ok
    cases qs : setT t d δ' with
    | none => rw [qs] at ok; exact ok.elim
    | some δ2 =>
      rw [qs] at ok
      dsimp only at ok
      refine setT_ok hpin R2 isd qs fun us R3 => ?_
      have ew : wipe (setTV K t us x (wipe σ vs)) vs = wipe σ vs := by
        rw [wipe_setTV hvs]
        exact wipe_wipe vs fun _ z => z
      refine ⟨ew, ω2, δ2, R3, ?_⟩
      revert ok
      cases tt δ2 with
      | exc c ns ds δ3 => exact fun ok => ok.elim
      | stuck => exact fun ok => ok.elim
      | ok b δ3 =>
        intro ok b' H3 ω3 X3 R4 hb
        cases hb
        have hw3 := X3.out p _ hw2.2 hw2.1
        cases b with
        | false =>
          refine iteF ⟨ω3, wipeD δ3 vs, acc, ws, (X'.trans X2).trans X3, hw3.1, hw3.2, (l.mono X2.f).mono X3.f, ?_, ok⟩
          have z := R4.wipe vs hp
          rwa [ew] at z
        | true =>
          refine iteT ⟨ω3, δ3, R4, ?_⟩
          dsimp only at ok
          revert ok
          cases te δ3 with
          | exc c ns ds δ4 => exact fun ok => ok.elim
          | stuck => exact fun ok => ok.elim
          | ok y δ4 =>
            dsimp only
            intro ok v H4 ω4 X4 R5 iv
            have hw4 := X4.out p _ hw3.2 hw3.1
            cases qf : frz δ4 y with
            | none => rw [qf] at ok; exact ok.elim
            | some pr =>
              obtain ⟨dy, δ5⟩ := pr
              rw [qf] at ok
              dsimp only at ok
              obtain ⟨ω5, X5, R6, isy⟩ := frz_ok R5 iv qf
              have hw5 := X5.out p _ hw4.2 hw4.1
              have l5 := ((((l.mono X2.f).mono X3.f).mono X4.f).mono X5.f)
              by_cases hz : acc.length < sizeLine
              · rw [if_pos hz] at ok
                have F := fz_out (H := H4) hw5.1 (.lst (ws ++ [v]))
                refine ⟨ws, hw4.2, by rw [l.length]; exact hz, ω5, wipeD δ5 vs, acc ++ [dy], ws ++ [v], extU _ ((((X'.trans X2).trans X3).trans X4).trans X5) hw5.1, hw5.1, upd_same, (l5.mono F).append (IsL.one (isy.mono F)), ?_, ok⟩
                have z := (R6.updOut hw5.1 (.lst (ws ++ [v]))).wipe vs hp
                rwa [ew] at z
              · rw [if_neg hz] at ok; exact ok.elim
  · rintro H' ⟨ω', δ', acc, ws, X', hw', hpl, l, R', ok⟩
    rw [List.drop_length] at ok
    have F := fz_retag (τ := τ) (H := H') hw'
    have X2 : Ext ω1 H1 (nwO ω' p τ) H' := by
      refine ⟨fun b hb => ?_, fun b u hb hb' => ?_⟩
      · have z := X'.fx b hb
        exact ⟨(F b (by rw [z.1]; exact hb)).1.trans z.1, z.2⟩
      · have z := X'.out b u hb hb'
        exact ⟨by rw [nwO_ne fun q => by rw [q, hpn] at hb; cases hb]; exact z.1, z.2⟩
    have R2 : Rel K Γ ω' H' σ (wipeD δ' vs) := R'.unwipe (wipe_wipe vs fun _ z => z) hp
    refine okR.at (x := D.lst acc) ok X2 (R2.retag hw' hpl) ?_
    cases τ with
    | out => exact absurd rfl hτ
    | fz => exact ⟨p, ws, rfl, ⟨nwO_self, hpl⟩, l.mono F⟩
    | own i => exact ⟨p, ws, acc, rfl, rfl, nwO_self, hpl, l.mono F⟩
    | bor => trivial
variable {elt tg iter : Expr} {ifs : List Expr} {scope : Scope} {own : List (Str × Nat)} {t : Tgt} {ti : TDI} {tt : TDT} {te : TD} {τ : Tg}
theorem pin_all {l : List Nat} (h : l.all (fun i => !Γ.idx.contains i) = true) : ∀ i ∈ l, Γ.idx.contains i = false := fun i hi => by
  have := List.all_eq_true.mp h i hi
  simpa using this
theorem dg_lc (hτ : τ ≠ .out) (hc : X.calm = true) (hN : X.N.Nodup) (hi : DI X Γ tg iter ti) (ok : BlkOk X.N X.env.scope scope own)
    (hg : ∀ (s : Shared) (H : Hp) (C : Addr) (cl : List (Str × Addr)) (fp : List Addr), DTg (blkX X s H scope C cl fp) tg t)
    (ht : ∀ (s : Shared) (H : Hp) (C : Addr) (cl : List (Str × Addr)) (fp : List Addr), DIfs (blkX X s H scope C cl fp) Γ ifs tt)
    (he : ∀ (s : Shared) (H : Hp) (C : Addr) (cl : List (Str × Addr)) (fp : List Addr), DE (blkX X s H scope C cl fp) Γ elt te)
    (hvs : ∀ i ∈ t.vs, i ∈ own.map (·.2) := by decide) (hp0 : (own.map (·.2)).all (fun i => !Γ.idx.contains i) = true := by rfl) (hs : ∀ x, foldedSetIterable iter X.env x = pure x := by intro _; rfl) :
    DG X Γ τ (.ListComp elt [⟨tg, iter, ifs, 0⟩] scope pos) (gComp (own.map (·.2)) t ti tt te) :=
  ⟨fun W tk => PE.imp (pe_lc hc hN (hi.run W tk) ok (fun s H C cl fp => (hg s H C cl fp).run) (fun s H C cl fp => (ht s H C cl fp).run) (fun s H C cl fp => (he s H C cl fp).run W0 tk0) hs) fun σ H Q h => up_lc hτ hvs (pin_all hp0) h⟩
/-- y = [..] of a local name, on one line -/
theorem ds_setLc {i : Nat} {y : Str} {py spos : Pos} (o : Bool) (hc : X.calm = true) (hN : X.N.Nodup) (hy : X.N[i]? = some y) (hyl : X.env.scope.names.lookup y = some .local)
    (hsw : swapsWith (.ListComp elt [⟨tg, iter, ifs, 0⟩] scope pos) (some (.Name y py)) spos.line X.env = pure true) (hi : DI X Γ tg iter ti) (ok : BlkOk X.N X.env.scope scope own)
    (hg : ∀ (s : Shared) (H : Hp) (C : Addr) (cl : List (Str × Addr)) (fp : List Addr), DTg (blkX X s H scope C cl fp) tg t)
    (ht : ∀ (s : Shared) (H : Hp) (C : Addr) (cl : List (Str × Addr)) (fp : List Addr), DIfs (blkX X s H scope C cl fp) Γ ifs tt)
    (he : ∀ (s : Shared) (H : Hp) (C : Addr) (cl : List (Str × Addr)) (fp : List Addr), DE (blkX X s H scope C cl fp) Γ elt te)
    (hvs : ∀ i ∈ t.vs, i ∈ own.map (·.2) := by decide) (hp0 : (own.map (·.2)).all (fun i => !Γ.idx.contains i) = true := by rfl) (hpi : Γ.idx.contains i = false := by rfl) (hs : ∀ x, foldedSetIterable iter X.env x = pure x := by intro _; rfl) :
    DS X Γ (.Assign [.Name y py] (.ListComp elt [⟨tg, iter, ifs, 0⟩] scope pos) spos) (if o then sAsgG i (gComp (own.map (·.2)) t ti tt te) else sAsg i (gFz (gComp (own.map (·.2)) t ti tt te))) :=
  ⟨fun W tk => PS.imp (ps_setLc hc hN hy hyl hsw (hi.run W tk) ok (fun s H C cl fp => (hg s H C cl fp).run) (fun s H C cl fp => (ht s H C cl fp).run) (fun s H C cl fp => (he s H C cl fp).run W0 tk0) hs) fun D σ H h => by
    cases o with
    | true =>
      refine up_lc (W := W) (tt := tt) (te := te) (τ := .own i) (by intro z; cases z) hvs (pin_all hp0) ?_
      obtain ⟨ω, δ, R, h⟩ := h
      refine up_fl (t := gComp (own.map (·.2)) t ti tt te) R h fun v H1 ω1 δ1 x e1 R1 i1 h1 => ?_
      obtain ⟨a, vs, ds, rfl, rfl, o, hl, l⟩ := i1
      exact h1 _ H1 ω1 (Ext.refl _ _) (R1.put hpi ⟨a, vs, ds, rfl, rfl, o, hl, l⟩)
    | false =>
      refine up_lc (W := W) (tt := tt) (te := te) (τ := .fz) (by intro z; cases z) hvs (pin_all hp0) ?_
      obtain ⟨ω, δ, R, h⟩ := h
      have h : okS X.K Γ W ω H (DL.R.fl (gComp (own.map (·.2)) t ti tt te δ) fun d δ1 => .nx (δ1.set i (some (0, d)))) D := by
        have h0 : okS X.K Γ W ω H (DL.R.fl (DL.R.bind (gComp (own.map (·.2)) t ti tt te δ) fun d δ1 => .ok (.fz d) δ1) (putF i)) D := h
        revert h0
        cases gComp (own.map (·.2)) t ti tt te δ with
        | ok d δ1 => exact id
        | exc c ns ds δ1 => exact id
        | stuck => exact id
      refine up_fl (t := gComp (own.map (·.2)) t ti tt te) R h fun v H1 ω1 δ1 x e1 R1 i1 h1 => ?_
      exact h1 _ H1 ω1 (Ext.refl _ _) (R1.put hpi ⟨v, rfl, i1⟩)⟩
end
end DL

set_option Elab.async false
set_option linter.all false
set_option maxRecDepth 100000
namespace DL
open PySem PySem.Spec PyProof.Rows L2
/-! ### a slot's own list changed -/
section
variable {K : Frag} {Γ : Gm} {W : WX} {ω ω' : Om} {H H' : Hp} {σ : L2.St} {δ δ' : DSt} {τ : Tg}
theorem Rel.own (R : Rel K Γ ω H σ δ) {j : Nat} {d : D} (h : δ[j]? = some (some (1, d))) : ∃ a vs ds, σ[j]? = some (some (.ref a)) ∧ d = .lst ds ∧ ω a = .own j ∧ H a = some (.lst vs) ∧ IsL K ω H Γ.xi ds vs := by
  obtain ⟨a, vs, ds, e, r⟩ := R.sl j _ h
  exact ⟨a, vs, ds, slot_of e, r⟩
theorem own_ext {a : Addr} {j : Nat} (o : ω a = .own j) (u : HO) : Ext ω H ω (upd H a u) :=
  ⟨fun b hb => ⟨rfl, upd_ne fun z => by rw [z, o] at hb; rcases hb with hb | hb <;> cases hb⟩, fun b v hb hb' => ⟨hb', by rw [upd_ne fun z => by rw [z, o] at hb'; cases hb']; exact hb⟩⟩
theorem Rel.updOwn (R : Rel K Γ ω H σ δ) {j : Nat} {a : Addr} {d : Option (Nat × D)} (hj : δ[j]? = some d) (ha : σ[j]? = some (some (.ref a))) (o : ω a = .own j) {vs : List V} {ds : List D} (l : IsL K ω H Γ.xi ds vs) :
    Rel K Γ ω (upd H a (.lst vs)) σ (δ.set j (some (1, .lst ds))) := by
  have X := own_ext (H := H) o (.lst vs)
  refine ⟨fun b hb => ?_, by rw [List.length_set]; exact R.len, fun i e hi => ?_, R.pin⟩
  · by_cases z : b = a
    · exact ⟨_, by rw [z]; exact upd_same⟩
    · rw [upd_ne z]
      exact R.wf b hb
  · by_cases z : j = i
    · subst z
      rw [List.getElem?_set_self (List.getElem?_eq_some_iff.mp hj).1] at hi
      cases hi
      exact ⟨a, vs, ds, slot_some ha, rfl, o, upd_same, l.mono X.f⟩
    · rw [List.getElem?_set_ne z] at hi
      refine (R.sl i e hi).mono X.f fun b hb => ⟨hb, upd_ne fun q => ?_⟩
      rw [q, o] at hb
      cases hb
      exact z rfl
end
/-! ### x[i] = e -/
def stF (j : Nat) (d : D) (i : Vl) (δ : DSt) : Option DSt := match dr δ i, δ[j]? with
  | some (.int k), some (some (1, .lst ds)) => (match ixN ds.length k with
    | some n => some (δ.set j (some (1, .lst (ds.set n d))))
    | none => none)
  | _, _ => none
def storeF (o i x : Vl) (δ : DSt) : Fl := match o, frz δ x with
  | .sl j, some (d, δ1) => (match stF j d i δ1 with
    | some δ2 => .nx δ2
    | none => .stuck)
  | _, _ => .stuck
def sSub (tv to ti : TD) : TDS := fun δ => (tv δ).fl fun x δ1 => (to δ1).fl fun o δ2 => (ti δ2).fl fun i δ3 => storeF o i x δ3
section
variable {X : Cx} {Γ : Gm} {e o i : Expr} {tv to ti te : TD} {pos p : Pos}
theorem stF_ok {K : Frag} {ω : Om} {H : Hp} {σ : L2.St} {δ δ' : DSt} {j : Nat} {d : D} {i : Vl} {iv xv ov : V} (R : Rel K Γ ω H σ δ) (hi : IsV K Γ ω H σ i iv) (hd : Is K ω H Γ.xi d xv) (ho : σ[j]? = some (some ov)) (h : stF j d i δ = some δ') :
    ∃ a vs k n, ov = .ref a ∧ iv = .int k ∧ H a = some (.lst vs) ∧ ixN vs.length k = some n ∧ Ext ω H ω (upd H a (.lst (vs.set n xv))) ∧ Rel K Γ ω (upd H a (.lst (vs.set n xv))) σ δ' := by
  unfold stF at h
  split at h
  · rename_i k ds e1 e2
    cases q : ixN ds.length k with
    | none => rw [q] at h; cases h
    | some n =>
      rw [q] at h
      cases h
      obtain ⟨a, vs, ds', s1, s2, s3, s4, l⟩ := R.own e2
      cases s2
      rw [ho] at s1
      cases s1
      exact ⟨a, vs, k, n, rfl, (dr_ok R hi e1).int, s4, by rw [l.length]; exact q, own_ext s3 _, R.updOwn e2 ho s3 (l.set hd n)⟩
  · cases h
theorem ds_sub (he : DE X Γ e tv) (ho : DE X Γ o to) (hi : DE X Γ i ti)
    (ha : ∀ v, assign (.Subscript o i p) X.env v = (do
      let ov ← holding [v] (eval o X.env)
      let iv ← holding [v, ov] (eval i X.env)
      standAt p
      holding [v, ov, iv] (setItem ov iv v)
      release [v, ov, iv] []) := by intro _; rfl)
    (hs : swapsWithSole [.Subscript o i p] e pos.line X.env = pure false := by rfl) (hw : swappedStores [.Subscript o i p] e X.env = pure none := by rfl) (h1 : (assignEach [.Subscript o i p] X.env).map (·.2) = [assign (.Subscript o i p) X.env] := by rfl) :
    DS X Γ (.Assign [.Subscript o i p] e pos) (sSub tv to ti) :=
  ⟨fun W tk => PS.imp (ps_asg (he.run W tk) (pg_sub (ho.run W tk) (hi.run W tk) set_list ha) hs hw h1) fun D σ H h => by
    obtain ⟨ω, δ, R, h⟩ := h
    refine up_fl (t := tv) R h fun x H1 ω1 δ1 vx e1 R1 i1 h1 => ?_
    refine up_fl (t := to) R1 h1 fun ov H2 ω2 δ2 vo e2 R2 i2 h2 => ?_
    refine up_fl (t := ti) R2 h2 fun iv H3 ω3 δ3 vi e3 R3 i3 h3 => ?_
    unfold storeF at h3
    split at h3
    · rename_i j d δ4 q
      obtain ⟨ω4, X4, R4, h4⟩ := frz_ok R3 (IsV.mono (e2.trans e3).f i1) q
      cases qs : stF j d vi δ4 with
      | none => rw [qs] at h3; exact h3.elim
      | some δ5 =>
        rw [qs] at h3
        obtain ⟨a, vs, k, n, rfl, rfl, q1, q2, X5, R5⟩ := stF_ok R4 (IsV.mono X4.f i3) h4 i2 qs
        exact ⟨a, vs, k, n, rfl, rfl, q1, q2, h3 σ _ ω4 (X4.trans X5) R5⟩
    · exact h3.elim⟩
/-! ### x op= e, x[i] op= e -/
def sAug (i : Nat) (f : Vl → Vl → DSt → R Vl) (te : TD) : TDS := fun δ => (eVar i δ).fl fun x δ1 => (te δ1).fl fun y δ2 => (f x y δ2).fl fun z δ3 => putF i z δ3
theorem ds_aug {j : Nat} {x : Str} {op : Operator} {r : R2} {f : Vl → Vl → DSt → R Vl} (hr : OpR X (inplaceOp op) r) (ho : Op2 X.K Γ r f) (hN : X.N.Nodup) (hi : X.N[j]? = some x) (he : DE X Γ e te)
    (hx : Loc X.env.scope x := by first | exact .inl rfl | exact .inr rfl) (hf : X.fn x = true ∨ X.env.scope.names.lookup x = some .local := by first | exact .inl rfl | exact .inr rfl) (hp : Γ.idx.contains j = false := by rfl) : DS X Γ (.AugAssign (.Name x p) op e pos) (sAug j f te) :=
  ⟨fun W tk => PS.imp (ps_aug (ti := r) hN hi hx (he.run W tk) hr hf) fun D σ H h => by
    obtain ⟨ω, δ, R, h⟩ := h
    have hv : upE X.K Γ W (eVar j) σ H fun x H1 => up X.K Γ W (rlV X.K Γ) te σ H1 fun y H2 => r x y H2 fun z H3 => D.nx (σ.set j (some z)) H3 := by
      refine up_fl (t := eVar j) R h fun x H1 ω1 δ1 vx e1 R1 i1 h1 => ?_
      refine up_fl (t := te) R1 h1 fun y H2 ω2 δ2 vy e2 R2 i2 h2 => ?_
      refine ho W ω2 H2 σ δ2 vx vy x y _ R2 (IsV.mono e2.f i1) i2 ?_
      revert h2
      cases f vx vy δ2 with
      | ok z δ3 => exact fun h2 v H3 ω3 e3 R3 i3 => putF_ok hp R3 i3 (okS.ext e3 h2)
      | exc c ns ds δ3 => exact fun h2 d H3 ω3 e3 R3 i3 => h2 d σ H3 ω3 e3 R3 i3
      | stuck => exact fun h2 => h2
    obtain ⟨ω0, δ0, R0, h0⟩ := hv
    unfold eVar at h0
    cases q : δ0[j]? with
    | none => rw [q] at h0; exact h0.elim
    | some rr =>
      rw [q] at h0
      cases rr with
      | none => exact h0.elim
      | some rr =>
        obtain ⟨l, d⟩ := rr
        have s := R0.sl j _ q
        match l, h0, s with
        | 0, h0, ⟨v, e, s⟩ => exact ⟨v, slot_of e, okR.now h0 R0 s⟩
        | 1, h0, ⟨a, vs, ds, e, _⟩ => exact ⟨.ref a, slot_of e, okR.now h0 R0 (slot_of e)⟩⟩
def opIAdd (x y : Vl) (δ : DSt) : R Vl := match dr δ x, dr δ y with
  | some (.int i), some (.int j) => .ok (.fz (.int (i + j))) δ
  | some (.str a), some (.str b) => if a.length + b.length ≤ sizeLine then .ok (.fz (.str (a ++ b))) δ else .stuck
  | _, _ => .stuck
def rIAdd : R2 := fun x y H Q => (rI0 (fun i j => .int (i + j))) x y H Q ∨ (∃ i j, x = .str i ∧ y = .str j ∧ i.length + j.length ≤ sizeLine ∧ Q (.str (i ++ j)) H)
theorem opr_iadd {X : Cx} : OpR X (inplaceOp .Add) rIAdd := iop_add.or iop_add_str
theorem op2_iadd {K : Frag} : Op2 K Γ rIAdd opIAdd := fun W ω H σ δ x y v w Q R i1 i2 h => by
  unfold opIAdd at h
  split at h
  · rename_i i j e1 e2
    exact .inl ⟨i, j, (dr_ok R i1 e1).int, (dr_ok R i2 e2).int, okR.now (x := Vl.fz (D.int (i + j))) h R rfl⟩
  · rename_i a b e1 e2
    by_cases hz : a.length + b.length ≤ sizeLine
    · rw [if_pos hz] at h
      exact .inr ⟨a, b, (dr_ok R i1 e1).str, (dr_ok R i2 e2).str, hz, okR.now (x := Vl.fz (D.str (a ++ b))) h R rfl⟩
    · rw [if_neg hz] at h; exact h.elim
  · exact h.elim
/-- o[i] of a list, by values -/
theorem pget_list : PGet X (rIxL X.K) := by
  intro pins s σ H x y v u Q I rx ry h
  obtain ⟨p, xs, i, z, rfl, rfl, hq, he, q⟩ := h
  cases rx
  obtain ⟨t, rfl⟩ := ry
  obtain ⟨its, r, pl, hz⟩ := I.list hq
  have hl := r.length
  have hn := line63
  unfold atI at he
  cases ej : ixN xs.length i with
  | none => rw [ej] at he; cases he
  | some j =>
    rw [ej] at he
    obtain ⟨w, ew, rw'⟩ := r.get (show xs[j]? = some z from he)
    obtain ⟨_, hjl, hb1, hb2⟩ := ixN_seq ej
    unfold ixN at ej
    by_cases h0 : 0 ≤ i
    · rw [if_pos h0] at ej
      split at ej
      · cases ej
        exact wpAny_getItem_list pl.isList h0 (by omega) (by simpa using ew) ⟨z, H, I, rw', q⟩
      · exact absurd hb2 (by assumption)
    · rw [if_neg h0] at ej
      split at ej
      · cases ej
        exact wpAny_getItem_list_neg pl.isList (by omega) (by rw [List.size_toArray] <;> omega) (by omega) (by rw [List.size_toArray, ← hl]; simpa using ew) ⟨z, H, I, rw', q⟩
      · exact absurd hb1 (by assumption)
def sAugS (to ti : TD) (f : Vl → Vl → DSt → R Vl) (te : TD) : TDS := fun δ => (to δ).fl fun o δ1 => (ti δ1).fl fun i δ2 => (match dr δ2 o with
  | some (.lst _) => opIx o i δ2
  | _ => .stuck).fl fun x δ3 => (te δ3).fl fun y δ4 => (f x y δ4).fl fun z δ5 => storeF o i z δ5
theorem ds_augS {op : Operator} {r : R2} {f : Vl → Vl → DSt → R Vl} (hr : OpR X (inplaceOp op) r) (hop : Op2 X.K Γ r f) (ho : DE X Γ o to) (hi : DE X Γ i ti) (he : DE X Γ e te)
    (ha : ∀ ov iv new, augStore i ov iv new = (do holding [new, ov, iv] (setItem ov iv new); release [new, ov, iv] []; pure .next) := by intros; rfl) : DS X Γ (.AugAssign (.Subscript o i p) op e pos) (sAugS to ti f te) :=
  ⟨fun W tk => PS.imp (ps_augS (tip := r) (ho.run W tk) (hi.run W tk) pget_list (he.run W tk) hr set_list ha) fun D σ H h => by
    obtain ⟨ω, δ, R, h⟩ := h
    refine up_fl (t := to) R h fun ov H1 ω1 δ1 vo e1 R1 i1 h1 => ?_
    refine up_fl (t := ti) R1 h1 fun iv H2 ω2 δ2 vi e2 R2 i2 h2 => ?_
    have i1' := IsV.mono e2.f i1
    split at h2
    case h_2 => exact h2.elim
    rename_i ds0 qd
    obtain ⟨a, vs, rfl, hsq, l⟩ := (dr_ok R2 i1' qd).lst
    unfold opIx at h2
    rw [qd] at h2
    cases qi : dr δ2 vi with
    | none => rw [qi] at h2; exact h2.elim
    | some di =>
      rw [qi] at h2
      cases di with
      | int k =>
        dsimp only at h2
        cases qg : getD? (.lst ds0) k with
        | none => rw [qg] at h2; exact h2.elim
        | some d =>
          rw [qg] at h2
          obtain ⟨u, q1, q2⟩ := IsL.atI l qg
          refine ⟨a, vs, k, u, rfl, (dr_ok R2 i2 qi).int, hsq, q1, ?_⟩
          refine up_fl (t := te) R2 h2 fun y H3 ω3 δ3 vy e3 R3 i3 h3 => ?_
          refine hop W ω3 H3 σ δ3 (.fz d) vy u y _ R3 (q2.mono e3.f) i3 ?_
          have h3 : okS X.K Γ W ω3 H3 ((f (.fz d) vy δ3).fl fun z δ5 => storeF vo vi z δ5) D := h3
          revert h3
          cases f (.fz d) vy δ3 with
          | exc c ns ds δ3 => exact fun h2 d H3 ω3 e3 R3 i3 => h2 d σ H3 ω3 e3 R3 i3
          | stuck => exact fun h2 => h2
          | ok z δ4 =>
            intro h3 vz H4 ω4 e4 R4 i4
            have h4 : okS X.K Γ W ω4 H4 (storeF vo vi z δ4) D := okS.ext e4 h3
            cases vo with
            | fz dd => exact (show False from h4).elim
            | sl j =>
              cases q5 : frz δ4 z with
              | none => simp only [storeF, q5] at h4; exact h4.elim
              | some pr =>
                obtain ⟨dz, δ5⟩ := pr
                simp only [storeF, q5] at h4
                obtain ⟨ω5, X5, R5, h5⟩ := frz_ok R4 i4 q5
                cases qs : stF j dz vi δ5 with
                | none => rw [qs] at h4; exact h4.elim
                | some δ6 =>
                  rw [qs] at h4
                  obtain ⟨a', vs', k', n, ea, rfl, r1, r2, X6, R6⟩ := stF_ok R5 (IsV.mono ((e3.trans e4).trans X5).f i2) h5 (show σ[j]? = some (some (.ref a)) from i1) qs
                  exact ⟨a', vs', k', n, ea, rfl, r1, r2, h4 σ _ ω5 (X5.trans X6) R6⟩
      | _ => exact h2.elim⟩
/-! ### a, b = e1, e2 -/
theorem ds_par {i j : Nat} {x y : Str} {a b : Expr} {ta tb : TD} {px py pt : Pos} {kt k2 pt2} (hc : X.calm = true) (hN : X.N.Nodup) (hi : X.N[i]? = some x) (hj : X.N[j]? = some y) (hij : i ≠ j)
    (hx : X.env.scope.names.lookup x = some .local) (hy : X.env.scope.names.lookup y = some .local) (ha : DA X Γ [a, b] (aCons ta (aCons tb aNil))) (hw : swappedStores [.Tuple [.Name x px, .Name y py] kt pt] (.Tuple [a, b] k2 pt2) X.env = pure (some [x, y]))
    (hp : Γ.idx.contains i = false := by rfl) (hq : Γ.idx.contains j = false := by rfl) (hs : swapsWithSole [.Tuple [.Name x px, .Name y py] kt pt] (.Tuple [a, b] k2 pt2) pos.line X.env = pure false := by rfl) :
    DS X Γ (.Assign [.Tuple [.Name x px, .Name y py] kt pt] (.Tuple [a, b] k2 pt2) pos) (fun δ => (aCons ta (aCons tb aNil) δ).fl fun xs δ1 => match frzs δ1 xs with
      | some ([d, e], δ2) => .nx ((δ2.set i (some (0, d))).set j (some (0, e)))
      | _ => .stuck) :=
  ⟨fun W tk => PS.imp (ps_par hc hN hi hj hij hx hy (ha.run W tk) hw hs) fun D σ H h => by
    obtain ⟨ω, δ, R, h⟩ := h
    refine up_fl (t := aCons ta (aCons tb aNil)) R h fun vs H1 ω1 δ1 xs e1 R1 i1 h1 => ?_
    split at h1
    · rename_i d e δ2 q
      obtain ⟨ω2, X2, R2, v, r, rfl, h3, w, r2, rfl, h4, h5⟩ := frzs_ok R1 i1 q
      cases (show r2 = [] from h5)
      exact ⟨v, w, rfl, h1 _ H1 ω2 X2 ((R2.put (e := some (0, d)) hp ⟨v, rfl, h3⟩).put (e := some (0, e)) hq ⟨w, rfl, h4⟩)⟩
    · exact h1.elim⟩
/-- a, b, .. = a tuple -/
def sAsgT (t : Tgt) (te : TD) : TDS := fun δ => (te δ).fl fun x δ1 => match frz δ1 x with
  | some (d, δ2) => (match setT t d δ2 with
    | some δ3 => .nx δ3
    | none => .stuck)
  | none => .stuck
theorem ds_asgT {tg : Expr} {t : Tgt} (he : DE X Γ e te) (hg : DTg X tg t) (hpin : pinOk Γ t = true := by rfl) (hs : swapsWithSole [tg] e pos.line X.env = pure false := by rfl) (hw : swappedStores [tg] e X.env = pure none := by rfl)
    (h1 : (assignEach [tg] X.env).map (·.2) = [assign tg X.env] := by rfl) : DS X Γ (.Assign [tg] e pos) (sAsgT t te) :=
  ⟨fun W tk => PS.imp (ps_asg (he.run W tk) hg.run hs hw h1) fun D σ H h => by
    obtain ⟨ω, δ, R, h⟩ := h
    refine up_fl (t := te) R h fun v H1 ω1 δ1 x e1 R1 i1 h1 => ?_
    split at h1
    · rename_i d δ2 q
      obtain ⟨ω2, X2, R2, h2⟩ := frz_ok R1 i1 q
      cases qs : setT t d δ2 with
      | none => rw [qs] at h1; exact h1.elim
      | some δ3 =>
        rw [qs] at h1
        exact setT_ok hpin R2 h2 qs fun vs R3 => h1 _ H1 ω2 X2 R3
    · exact h1.elim⟩
/-! ### methods of a slot's own list -/
def mutF (lm : List D → List D → Option (D × List D)) (o : Vl) (xs : List Vl) (δ : DSt) : R Vl := match o, frzs δ xs with
  | .sl j, some (as, δ1) => (match δ1[j]? with
    | some (some (1, .lst ds)) => (match lm ds as with
      | some (r, ds') => .ok (.fz r) (δ1.set j (some (1, .lst ds')))
      | none => .stuck)
    | _ => .stuck)
  | _, _ => .stuck
/-- the receiver is a list that a slot owns -/
def isOwn (δ : DSt) : Vl → Bool
  | .sl j => (match δ[j]? with
    | some (some (1, .lst _)) => true
    | _ => false)
  | _ => false
def eMut (lm : List D → List D → Option (D × List D)) (to : TD) (ta : TDA) : TD := fun δ => (to δ).bind fun o δ1 => if isOwn δ1 o then (ta δ1).bind fun xs δ2 => mutF lm o xs δ2 else .stuck
def MtL (r : V → List V → Hp → VK → Prop) (lm : List D → List D → Option (D × List D)) : Prop :=
  ∀ (K : Frag) (ω : Om) (H : Hp) (xi : Xi) (a : Addr) (vs ws : List V) (ds as ds' : List D) (rd : D) (Q : VK), H a = some (.lst vs) → IsL K ω H xi ds vs → IsL K ω H xi as ws → lm ds as = some (rd, ds') →
    (∀ u us, Is K ω H xi rd u → IsL K ω H xi ds' us → Q u (upd H a (.lst us))) → r (.ref a) ws H Q
theorem mut_ok {K : Frag} {W : WX} {r : V → List V → Hp → VK → Prop} {lm : List D → List D → Option (D × List D)} (hr : MtL r lm) {ω : Om} {H : Hp} {σ : L2.St} {δ : DSt} {o : Vl} {xs : List Vl} {v : V} {ws : List V} {Q : VK} (R : Rel K Γ ω H σ δ) (iv : IsV K Γ ω H σ o v) (ix : IsVs K Γ ω H σ xs ws) (h : okV K Γ W ω H σ (mutF lm o xs δ) Q) : r v ws H Q := by
  unfold mutF at h
  split at h
  · rename_i j as δ1 q
    obtain ⟨ω1, X1, R1, l1⟩ := frzs_ok R ix q
    split at h
    · rename_i ds q2
      obtain ⟨a, vs, ds0, s1, s2, s3, s4, l⟩ := R1.own q2
      cases s2
      rw [show σ[j]? = some (some v) from iv] at s1
      cases s1
      cases q3 : lm ds as with
      | none => rw [q3] at h; exact h.elim
      | some pr =>
        obtain ⟨rd, ds'⟩ := pr
        rw [q3] at h
        refine hr K ω1 H Γ.xi a vs ws ds as ds' rd Q s4 l l1 q3 fun u us hu hus => ?_
        have X2 := own_ext (H := H) s3 (.lst us)
        exact okR.at (x := Vl.fz rd) h (X1.trans X2) (R1.updOwn q2 iv s3 hus) (hu.mono X2.f)
    · exact h.elim
  · exact h.elim
theorem own_ty {K : Frag} {ω : Om} {H : Hp} {σ : L2.St} {δ : DSt} {o : Vl} {v : V} (R : Rel K Γ ω H σ δ) (iv : IsV K Γ ω H σ o v) (h : isOwn δ o = true) : tyV K "list" v H := by
  unfold isOwn at h
  split at h
  · rename_i j
    split at h
    · rename_i ds q
      obtain ⟨a, vs, ds0, s1, s2, s3, s4, l⟩ := R.own q
      rw [show σ[j]? = some (some v) from iv] at s1
      cases s1
      exact .inl ⟨rfl, vs, SqL.of s4⟩
    · cases h
  · cases h
variable {es : List Expr} {ta : TDA} {name : Str} {apos cpos : Pos} {id : String} {r : V → List V → Hp → VK → Prop} {lm : List D → List D → Option (D × List D)}
theorem de_mut (slot : Slot "list" name id) (hty : typeOf (.builtin id) = pure (.type "method_descriptor")) (hm : MtR X id r) (hr : MtL r lm) (ho : DE X Γ o to) (ha : DA X Γ (e :: es) ta)
    (hbase : attributeBase o name X.env (eval o X.env) = eval o X.env := by rfl)
    (hfew : ((backTo cpos (starEach (e :: es) X.env)).all (fun x => !x.1) && (backToKw cpos (keywordEach [] X.env)).all (fun x => x.1.isSome)
      && decide ((e :: es).length + ([] : List Keyword).length + (if ([] : List Keyword).isEmpty then 0 else 1) < 30)) = true := by rfl)
    (hline : (apos.endLine == cpos.line) = true := by rfl) (hs : starEach (e :: es) X.env = (false, eval e X.env) :: starEach es X.env := by rfl) (hplain : (backTo cpos (starEach es X.env)).any (·.1) = false := by rfl) :
    DE X Γ (.Call (.Attribute o name apos) (e :: es) [] cpos) (eMut lm to ta) :=
  ⟨fun W tk => PE.imp (pe_bm PySem.F.plainAttrs_list slot hty hm (ho.run W tk) (ha.run W tk) hbase hfew hline hs hplain) fun σ H Q h => by
    obtain ⟨ω, δ, R, h⟩ := h
    refine up_bind (t := to) R h fun v H1 ω1 δ1 o e1 R1 i1 h1 => ?_
    by_cases hz : isOwn δ1 o = true
    · rw [if_pos hz] at h1
      exact ⟨own_ty R1 i1 hz, up_bind (t := ta) R1 h1 fun ws H2 ω2 δ2 xs e2 R2 i2 h2 => mut_ok hr R2 (IsV.mono e2.f i1) i2 h2⟩
    · rw [if_neg hz] at h1; exact h1.elim⟩
def eMut0 (lm : List D → List D → Option (D × List D)) (to : TD) : TD := fun δ => (to δ).bind fun o δ1 => if isOwn δ1 o then mutF lm o [] δ1 else .stuck
theorem de_mut0 (slot : Slot "list" name id) (hty : typeOf (.builtin id) = pure (.type "method_descriptor")) (hm : MtR X id r) (hr : MtL r lm) (ho : DE X Γ o to)
    (hbase : attributeBase o name X.env (eval o X.env) = eval o X.env := by rfl) (hline : (apos.endLine == cpos.line) = true := by rfl) : DE X Γ (.Call (.Attribute o name apos) [] [] cpos) (eMut0 lm to) :=
  ⟨fun W tk => PE.imp (pe_bm0 PySem.F.plainAttrs_list slot hty hm (ho.run W tk) hbase hline) fun σ H Q h => by
    obtain ⟨ω, δ, R, h⟩ := h
    refine up_bind (t := to) R h fun v H1 ω1 δ1 o e1 R1 i1 h1 => ?_
    by_cases hz : isOwn δ1 o = true
    · rw [if_pos hz] at h1
      exact ⟨own_ty R1 i1 hz, mut_ok (xs := []) (ws := []) hr R1 i1 rfl h1⟩
    · rw [if_neg hz] at h1; exact h1.elim⟩
def lmApp : List D → List D → Option (D × List D)
  | ds, [d] => if ds.length < sizeLine then some (.non, ds ++ [d]) else none
  | _, _ => none
theorem mtl_app : MtL rAppend lmApp := fun K ω H xi a vs ws ds as ds' rd Q hv l la e h => by
  match as, la, e with
  | [d], ⟨v, r, e0, h1, h2⟩, e =>
    cases e0
    cases (show r = [] from h2)
    unfold lmApp at e
    dsimp only at e
    by_cases hz : ds.length < sizeLine
    · rw [if_pos hz] at e
      cases e
      exact ⟨a, vs, v, rfl, rfl, hv, by rw [l.length]; exact hz, h _ _ rfl (l.append (IsL.one h1))⟩
    · rw [if_neg hz] at e; cases e
  | [], _, e => cases e
  | _ :: _ :: _, _, e => cases e
def lmExt : List D → List D → Option (D × List D)
  | ds, [.lst es] => if ds.length + es.length ≤ sizeLine then some (.non, ds ++ es) else none
  | _, _ => none
theorem mtl_ext : MtL rExtend lmExt := fun K ω H xi a vs ws ds as ds' rd Q hv l la e h => by
  unfold lmExt at e
  split at e
  · rename_i es
    obtain ⟨v, r, e0, ⟨b, us, e1, n, k⟩, h2⟩ := la
    cases e0
    cases e1
    cases (show r = [] from h2)
    split at e
    · rename_i hz
      cases e
      exact ⟨a, b, vs, us, rfl, rfl, hv, n.2, by rw [l.length, k.length]; exact hz, h _ _ rfl (l.append k)⟩
    · cases e
  · cases e
def lmPop : List D → List D → Option (D × List D)
  | ds, [] => (match ds[ds.length - 1]? with
    | some d => some (d, ds.dropLast)
    | none => none)
  | _, _ => none
theorem mtl_pop : MtL rPop lmPop := fun K ω H xi a vs ws ds as ds' rd Q hv l la e h => by
  match as, la, e with
  | [], la, e =>
    cases (show ws = [] from la)
    unfold lmPop at e
    dsimp only at e
    cases q : ds[ds.length - 1]? with
    | none => rw [q] at e; cases e
    | some d =>
      rw [q] at e
      cases e
      obtain ⟨v, q1, q2⟩ := l.get q
      refine ⟨a, vs, v, rfl, rfl, hv, by rw [l.length]; exact q1, h _ _ q2 ?_⟩
      rw [List.dropLast_eq_take, List.dropLast_eq_take, l.length]
      exact l.take _
  | _ :: _, _, e => cases e
theorem IsL.eraseIdx {K : Frag} {ω : Om} {H : Hp} {xi : Xi} {ds : List D} {vs : List V} (l : IsL K ω H xi ds vs) (k : Nat) : IsL K ω H xi (ds.eraseIdx k) (vs.eraseIdx k) := by
  rw [List.eraseIdx_eq_take_drop_succ, List.eraseIdx_eq_take_drop_succ]
  exact (l.take k).append (l.drop (k + 1))
def lmPopAt : List D → List D → Option (D × List D)
  | ds, [.int i] => if -(2 ^ 63) ≤ i ∧ i < 2 ^ 63 then (match seqIndex? i ds.length with
    | some k => (match ds[k]? with
      | some d => some (d, ds.eraseIdx k)
      | none => none)
    | none => none) else none
  | _, _ => none
theorem mtl_popAt : MtL rPopAt lmPopAt := fun K ω H xi a vs ws ds as ds' rd Q hv l la e h => by
  unfold lmPopAt at e
  split at e
  · rename_i i
    obtain ⟨v, r, e0, e1, h2⟩ := la
    cases e0
    cases (show v = V.int i from e1)
    cases (show r = [] from h2)
    split at e
    · rename_i hz
      split at e
      · rename_i k q1
        split at e
        · rename_i d q2
          cases e
          obtain ⟨u, q3, q4⟩ := l.get q2
          exact ⟨a, vs, i, k, u, rfl, rfl, hv, hz.1, hz.2, by rw [l.length]; exact q1, q3, h _ _ q4 (l.eraseIdx k)⟩
        · cases e
      · cases e
    · cases e
  · cases e
def rIns : V → List V → Hp → VK → Prop := fun x vs H Q => ∃ (l : Addr) (xs : List V) (i : Int) (y : V), x = .ref l ∧ vs = [.int i, y] ∧ H l = some (.lst xs) ∧ xs.length < sizeLine ∧ 0 ≤ i ∧ i < 2 ^ 63 ∧ Q .non (upd H l (.lst (xs.take i.toNat ++ [y] ++ xs.drop i.toNat)))
def lmIns : List D → List D → Option (D × List D)
  | ds, [.int i, d] => if ds.length < sizeLine ∧ 0 ≤ i ∧ i < 2 ^ 63 then some (.non, ds.take i.toNat ++ [d] ++ ds.drop i.toNat) else none
  | _, _ => none
theorem mtl_ins : MtL rIns lmIns := fun K ω H xi a vs ws ds as ds' rd Q hv l la e h => by
  unfold lmIns at e
  split at e
  · rename_i i d
    obtain ⟨v, r, e0, e1, w, r2, e2, h2, h3⟩ := la
    cases e0
    cases e2
    cases (show v = V.int i from e1)
    cases (show r2 = [] from h3)
    split at e
    · rename_i hz
      cases e
      exact ⟨a, vs, i, w, rfl, rfl, hv, by rw [l.length]; exact hz.1, hz.2.1, hz.2.2, h _ _ rfl (((l.take _).append (IsL.one h2)).append (l.drop _))⟩
    · cases e
  · cases e
end
end DL

set_option Elab.async false
set_option linter.all false
set_option maxRecDepth 100000
namespace DL
open PySem PySem.Spec PyProof.Rows L2
/-! ### what a def computes -/
inductive FR where
  | ok (r : D) (ms : List D) | rg (r : D) (ms : List D) | exc (c : Str) (ns : List Str) (ds ms : List D) | stuck
def mutIdx : Nat → List Bool → List Nat
  | _, [] => []
  | k, true :: r => k :: mutIdx (k + 1) r
  | k, false :: r => mutIdx (k + 1) r
def mutPins : Nat → List Bool → List V → List (Nat × V)
  | k, true :: r, v :: vs => (k, v) :: mutPins (k + 1) r vs
  | k, false :: r, _ :: vs => mutPins (k + 1) r vs
  | _, _, _ => []
theorem mutPins_idx : ∀ {k : Nat} {modes : List Bool} {vs : List V}, ∀ q ∈ mutPins k modes vs, q.1 ∈ mutIdx k modes
  | k, true :: r, v :: vs, q, h => by
    unfold mutPins at h
    unfold mutIdx
    rcases List.mem_cons.mp h with e | h
    · rw [e]; exact List.mem_cons_self
    · exact List.mem_cons_of_mem _ (mutPins_idx q h)
  | k, false :: r, _ :: vs, q, h => by
    unfold mutPins at h
    unfold mutIdx
    exact mutPins_idx q h
  | k, [], vs, q, h => by simp [mutPins] at h
  | k, true :: r, [], q, h => by simp [mutPins] at h
  | k, false :: r, [], q, h => by simp [mutPins] at h
abbrev gm (modes : List Bool) (vs : List V) (xi : Xi) : Gm := ⟨mutPins 0 modes vs, mutIdx 0 modes, mutPins_idx, xi⟩
def OwnL (K : Frag) (ω : Om) (H : Hp) (xi : Xi) (i : Nat) (d : D) (v : V) : Prop := ∃ a ws es, v = .ref a ∧ d = .lst es ∧ ω a = .own i ∧ H a = some (.lst ws) ∧ IsL K ω H xi es ws
def ArgsR (K : Frag) (ω : Om) (H : Hp) (xi : Xi) : Nat → List Bool → List V → List D → Prop
  | _, [], [], [] => True
  | k, false :: ms, v :: vs, d :: ds => Is K ω H xi d v ∧ ArgsR K ω H xi (k + 1) ms vs ds
  | k, true :: ms, v :: vs, d :: ds => OwnL K ω H xi k d v ∧ ArgsR K ω H xi (k + 1) ms vs ds
  | _, _, _, _ => False
def MutR (K : Frag) (ω : Om) (H : Hp) (xi : Xi) : Nat → List Bool → List V → List D → Prop
  | _, [], [], [] => True
  | k, false :: ms, _ :: vs, es => MutR K ω H xi (k + 1) ms vs es
  | k, true :: ms, v :: vs, e :: es => OwnL K ω H xi k e v ∧ MutR K ω H xi (k + 1) ms vs es
  | _, _, _, _ => False
def WFO (ω : Om) (H : Hp) : Prop := ∀ b, ω b ≠ .out → ∃ o, H b = some o
/-- the promise of a def that computes m -/
def spX (K : Frag) (xi : Xi) (modes : List Bool) (m : List D → FR) : Sp := fun vs H Q E => ∃ ω ds, WFO ω H ∧ ArgsR K ω H xi 0 modes vs ds ∧ (match m ds with
  | .ok r ms => ∀ v H' ω', Ext ω H ω' H' → WFO ω' H' → Is K ω' H' xi r v → MutR K ω' H' xi 0 modes vs ms → Q v H'
  | .rg r ms => ∀ v H' ω', Ext ω H ω' H' → WFO ω' H' → OwnL K ω' H' xi tagR r v → MutR K ω' H' xi 0 modes vs ms → Q v H'
  | .exc c ns es ms => ∀ d H' ω', Ext ω H ω' H' → WFO ω' H' → XIs K { xi := xi } ω' H' ns es d → MutR K ω' H' xi 0 modes vs ms → E (.ref (He.ga K c)) d H'
  | .stuck => False)
abbrev spD (K : Frag) (modes : List Bool) (m : List D → FR) : Sp := spX K none modes m
theorem ArgsR.len {K : Frag} {ω : Om} {H : Hp} {xi : Xi} : ∀ {k : Nat} {modes : List Bool} {vs : List V} {ds : List D}, ArgsR K ω H xi k modes vs ds → vs.length = modes.length ∧ ds.length = modes.length
  | k, [], [], [], h => ⟨rfl, rfl⟩
  | k, [], _ :: _, [], h => h.elim
  | k, [], [], _ :: _, h => h.elim
  | k, [], _ :: _, _ :: _, h => h.elim
  | k, false :: ms, v :: vs, d :: ds, h => by
    have z := ArgsR.len h.2
    exact ⟨by rw [List.length_cons, List.length_cons, z.1], by rw [List.length_cons, List.length_cons, z.2]⟩
  | k, true :: ms, v :: vs, d :: ds, h => by
    have z := ArgsR.len h.2
    exact ⟨by rw [List.length_cons, List.length_cons, z.1], by rw [List.length_cons, List.length_cons, z.2]⟩
  | k, false :: ms, [], _, h => h.elim
  | k, true :: ms, [], _, h => h.elim
  | k, false :: ms, _ :: _, [], h => h.elim
  | k, true :: ms, _ :: _, [], h => h.elim
theorem spX.len {K : Frag} {xi : Xi} {modes : List Bool} {m : List D → FR} {vs : List V} {H : Hp} {Q : VK} {E : XK} (h : spX K xi modes m vs H Q E) : vs.length = modes.length := by
  obtain ⟨ω, ds, _, a, _⟩ := h
  exact a.len.1
/-! ### a def's body -/
def startA : List Bool → List D → DSt
  | true :: ms, d :: ds => some (1, d) :: startA ms ds
  | false :: ms, d :: ds => some (0, d) :: startA ms ds
  | _, _ => []
def startD (modes : List Bool) (n : Nat) (ds : List D) : DSt := startA modes ds ++ List.replicate n none
def mutsD (δ : DSt) : List Nat → Option (List D)
  | [] => some []
  | i :: is => match δ[i]? with
    | some (some (1, d)) => (match mutsD δ is with
      | some r => some (d :: r)
      | none => none)
    | _ => none
def fin (modes : List Bool) : Fl → FR
  | .rt x δ => (match frz δ x with
    | some (d, δ1) => (match mutsD δ1 (mutIdx 0 modes) with
      | some ms => .ok d ms
      | none => .stuck)
    | none => .stuck)
  | .nx δ => (match mutsD δ (mutIdx 0 modes) with
      | some ms => .ok .non ms
      | none => .stuck)
  | .rg d δ => (match mutsD δ (mutIdx 0 modes) with
      | some ms => .rg d ms
      | none => .stuck)
  | .ex c ns ds δ => (match mutsD δ (mutIdx 0 modes) with
      | some ms => .exc c ns ds ms
      | none => .stuck)
  | _ => .stuck
section
variable {K : Frag} {ω ω' : Om} {H H' : Hp} {xi : Xi} {σ : L2.St} {δ δ' : DSt}
theorem start_sl : ∀ {k : Nat} {modes : List Bool} {vs : List V} {ds : List D}, ArgsR K ω H xi k modes vs ds → ∀ i e, (startA modes ds)[i]? = some e → Sl K ω H xi (k + i) e (vs[i]?)
  | k, [], [], [], h, i, e, q => by simp [startA] at q
  | k, false :: ms, v :: vs, d :: ds, h, 0, e, q => by
    simp [startA] at q
    subst q
    exact ⟨v, by simp, h.1⟩
  | k, true :: ms, v :: vs, d :: ds, h, 0, e, q => by
    simp [startA] at q
    subst q
    obtain ⟨a, ws, es, e1, e2, e3, e4, e5⟩ := h.1
    exact ⟨a, ws, es, by simp [e1], e2, e3, e4, e5⟩
  | k, false :: ms, v :: vs, d :: ds, h, i + 1, e, q => by
    have z := start_sl h.2 i e (by simpa [startA] using q)
    rw [show k + 1 + i = k + (i + 1) by omega] at z
    simpa using z
  | k, true :: ms, v :: vs, d :: ds, h, i + 1, e, q => by
    have z := start_sl h.2 i e (by simpa [startA] using q)
    rw [show k + 1 + i = k + (i + 1) by omega] at z
    simpa using z
  | k, [], _ :: _, [], h, _, _, _ => h.elim
  | k, [], [], _ :: _, h, _, _, _ => h.elim
  | k, [], _ :: _, _ :: _, h, _, _, _ => h.elim
  | k, false :: ms, [], _, h, _, _, _ => h.elim
  | k, true :: ms, [], _, h, _, _, _ => h.elim
  | k, false :: ms, _ :: _, [], h, _, _, _ => h.elim
  | k, true :: ms, _ :: _, [], h, _, _, _ => h.elim
theorem startA_len : ∀ {modes : List Bool} {ds : List D}, ds.length = modes.length → (startA modes ds).length = modes.length
  | [], _, _ => rfl
  | true :: ms, d :: ds, h => by
    unfold startA
    rw [List.length_cons, List.length_cons, startA_len (by simpa using h)]
  | false :: ms, d :: ds, h => by
    unfold startA
    rw [List.length_cons, List.length_cons, startA_len (by simpa using h)]
  | true :: ms, [], h => by simp at h
  | false :: ms, [], h => by simp at h
theorem pins_at : ∀ {k : Nat} {modes : List Bool} {vs : List V} {q : Nat × V}, q ∈ mutPins k modes vs → k ≤ q.1 ∧ vs[q.1 - k]? = some q.2
  | k, true :: r, v :: vs, q, h => by
    unfold mutPins at h
    rcases List.mem_cons.mp h with e | h
    · rw [e]; exact ⟨Nat.le_refl _, by simp⟩
    · obtain ⟨z1, z2⟩ := pins_at h
      exact ⟨by omega, by rw [show q.1 - k = (q.1 - (k + 1)) + 1 by omega, List.getElem?_cons_succ]; exact z2⟩
  | k, false :: r, _ :: vs, q, h => by
    unfold mutPins at h
    obtain ⟨z1, z2⟩ := pins_at h
    exact ⟨by omega, by rw [show q.1 - k = (q.1 - (k + 1)) + 1 by omega, List.getElem?_cons_succ]; exact z2⟩
  | k, [], vs, q, h => by simp [mutPins] at h
  | k, true :: r, [], q, h => by simp [mutPins] at h
  | k, false :: r, [], q, h => by simp [mutPins] at h
theorem rel_start {modes : List Bool} {vs : List V} {ds : List D} {N : List Str} (wf : WFO ω H) (h : ArgsR K ω H xi 0 modes vs ds) (hn : modes.length ≤ N.length) : Rel K (gm modes vs xi) ω H (L2.start N vs) (startD modes (N.length - modes.length) ds) := by
  have hl := h.len
  have ha := startA_len hl.2
  refine ⟨wf, ?_, fun i e hi => ?_, fun q hq => ?_⟩
  · unfold L2.start startD
    rw [List.length_append, List.length_append, List.length_map, List.length_replicate, List.length_replicate, ha, hl.1]
  · unfold startD at hi
    by_cases z : i < modes.length
    · rw [List.getElem?_append_left (by omega)] at hi
      have s := start_sl h i e hi
      rw [Nat.zero_add] at s
      have : (L2.start N vs)[i]?.join = vs[i]? := by
        unfold L2.start
        rw [List.getElem?_append_left (by rw [List.length_map]; omega), List.getElem?_map]
        cases vs[i]? <;> rfl
      rw [this]
      exact s
    · rw [List.getElem?_append_right (by omega), List.getElem?_replicate] at hi
      split at hi
      · cases hi; trivial
      · cases hi
  · obtain ⟨_, z⟩ := pins_at hq
    rw [Nat.sub_zero] at z
    unfold L2.start
    rw [List.getElem?_append_left (by rw [List.length_map]; exact (List.getElem?_eq_some_iff.mp z).1), List.getElem?_map, z]
    rfl
theorem muts_ok : ∀ {k : Nat} {modes : List Bool} {vs : List V} {ms : List D}, vs.length = modes.length → (∀ i v, (i, v) ∈ mutPins k modes vs → σ[i]? = some (some v)) → (∀ i e, δ[i]? = some e → Sl K ω H xi i e (σ[i]?.join)) → mutsD δ (mutIdx k modes) = some ms → MutR K ω H xi k modes vs ms
  | k, [], [], ms, _, _, _, e => by
    simp [mutIdx, mutsD] at e
    subst e
    trivial
  | k, [], _ :: _, ms, h, _, _, e => by simp at h
  | k, false :: r, v :: vs, ms, hl, hp, hs, e => muts_ok (k := k + 1) (modes := r) (vs := vs) (by simpa using hl) (fun i v h => hp i v h) hs e
  | k, true :: r, v :: vs, ms, hl, hp, hs, e => by
    unfold mutIdx mutsD at e
    split at e
    · rename_i d q
      cases q2 : mutsD δ (mutIdx (k + 1) r) with
      | none => rw [q2] at e; cases e
      | some rr =>
        rw [q2] at e
        cases e
        have s := hs k _ q
        rw [slot_some (hp k v (by unfold mutPins; exact List.mem_cons_self))] at s
        obtain ⟨a, ws, es, e1, e2, e3, e4, e5⟩ := s
        cases e1
        exact ⟨⟨a, ws, es, rfl, e2, e3, e4, e5⟩, muts_ok (k := k + 1) (modes := r) (vs := vs) (by simpa using hl) (fun i v h => hp i v (by unfold mutPins; exact List.mem_cons_of_mem _ h)) hs q2⟩
    · cases e
  | k, false :: r, [], ms, h, _, _, e => by simp at h
  | k, true :: r, [], ms, h, _, _, e => by simp at h
theorem Rel.muts {modes : List Bool} {vs : List V} {ms : List D} (R : Rel K (gm modes vs xi) ω H σ δ) (hl : vs.length = modes.length) (e : mutsD δ (mutIdx 0 modes) = some ms) : MutR K ω H xi 0 modes vs ms :=
  muts_ok hl (fun i v h => R.pin (i, v) h) R.sl e
end
section
variable {P : Program} {w : World} {K : Frag} {mg : Str → Option Value} {base : Heap} {x qual : Str} {params : Arguments} {body : List Stmt} {scope : Scope} {dvs : List V} {kws : List (Str × V)} {f : Addr} {fd : FuncData}
abbrev cxD (P : Program) (w : World) (K : Frag) (mg : Str → Option Value) (base : Heap) (N : List Str) (qual : Str) (scope : Scope) (f : Addr) (cd : Value) (A : Around) (outer : List Env) (s : Shared) (H : Hp) (E : XK) : Cx := cxOf (L2N.CX P w) P w K mg base N qual scope f cd A outer s H E
/-- what a def's body computes, run from its arguments -/
def runB (modes : List Bool) (n : Nat) (t : TDS) : List D → FR := fun ds => fin modes (t (startD modes n ds))
theorem body_ok {X : Cx} {xi : Xi} {modes : List Bool} {N : List Str} {t : TDS} {W : WX} {vs : List V} {H : Hp} {Q : VK} {E : XK} (hn : modes.length ≤ N.length) (hW : ∀ cls d σ H, E cls d H → W cls d σ H) (h : spX K xi modes (runB modes (N.length - modes.length) t) vs H Q E) :
    upS K (gm modes vs xi) W t { nx := fun _ H' => Q .non H', rt := Q } (L2.start N vs) H := by
  obtain ⟨ω, ds, wf, a, h⟩ := h
  have hl := a.len.1
  refine ⟨ω, startD modes (N.length - modes.length) ds, rel_start wf a hn, ?_⟩
  unfold runB at h
  revert h
  cases t (startD modes (N.length - modes.length) ds) with
  | nx δ =>
    intro h σ' H' ω' X' R'
    unfold fin at h
    dsimp only at h
    cases q : mutsD δ (mutIdx 0 modes) with
    | none => rw [q] at h; exact h.elim
    | some ms => rw [q] at h; exact h .non H' ω' X' R'.wf rfl (R'.muts hl q)
  | rt y δ =>
    intro h v σ' H' ω' X' R' iv
    unfold fin at h
    dsimp only at h
    cases qf : frz δ y with
    | none => rw [qf] at h; exact h.elim
    | some pr =>
      obtain ⟨d, δ1⟩ := pr
      rw [qf] at h
      dsimp only at h
      obtain ⟨ω2, X2, R2, h2⟩ := frz_ok R' iv qf
      cases q : mutsD δ1 (mutIdx 0 modes) with
      | none => rw [q] at h; exact h.elim
      | some ms => rw [q] at h; exact h v H' ω2 (X'.trans X2) R2.wf h2 (R2.muts hl q)
  | rg d δ =>
    intro h v σ' H' ω' X' R' iv
    unfold fin at h
    dsimp only at h
    cases q : mutsD δ (mutIdx 0 modes) with
    | none => rw [q] at h; exact h.elim
    | some ms => rw [q] at h; exact h v H' ω' X' R'.wf iv (R'.muts hl q)
  | ex c ns es δ =>
    intro h d σ' H' ω' X' R' ix
    unfold fin at h
    dsimp only at h
    cases q : mutsD δ (mutIdx 0 modes) with
    | none => rw [q] at h; exact h.elim
    | some ms => rw [q] at h; exact hW _ _ _ _ (h d H' ω' X' R'.wf ix (R'.muts hl q))
  | bk δ => exact fun h => h.elim
  | ct δ => exact fun h => h.elim
  | stuck => exact fun h => h.elim
theorem fn_deep {modes : List Bool} {N ps : List Str} {k : Nat} {t : TDS} (F : FunD K x qual params body scope dvs kws f fd) (S : FnScope N ps scope) (hm : modes.length = ps.length) (hn : modes.length ≤ N.length)
    (hb : ∀ (cdv : Value) (A : Around) (outer : List Env) (s : Shared) (H : Hp) (vs : List V) (E : XK), Room k (A.deeper (envOfC qual scope s.heap.objs.size f cdv)) → DB (cxD P w K mg base N qual scope f cdv A outer s H E) (gm modes vs none) body t) :
    FnOk P w K mg base (L2N.CX P w) (k + 1) f fd ps (spD K modes (runB modes (N.length - modes.length) t)) :=
  F.ok S (fun vs H Q E h => by rw [← hm]; exact h.len) fun cdv A outer s H vs Q E hr h =>
    ⟨_, (hb cdv A outer s H vs E hr).run (fun cls d _ H => E cls d H) (L2N.takes_of rfl rfl rfl rfl), body_ok (X := cxD P w K mg base N qual scope f cdv A outer s H E) hn (fun _ _ _ _ z => z) h⟩
end
end DL

set_option Elab.async false
set_option linter.all false
set_option maxRecDepth 100000
namespace DL
open PySem PySem.Spec PyProof.Rows L2
/-! ### a call of a def -/
def bindA : List Bool → List Vl → DSt → Option DSt
  | [], [], δ => some δ
  | false :: ms, x :: xs, δ => (match frz δ x with
    | some (_, δ1) => bindA ms xs δ1
    | none => none)
  | true :: ms, _ :: xs, δ => bindA ms xs δ
  | _, _, _ => none
def argD (δ : DSt) : List Bool → List Vl → Option (List D)
  | [], [] => some []
  | false :: ms, .fz d :: xs => (argD δ ms xs).map fun r => d :: r
  | false :: ms, .sl j :: xs => (match δ[j]? with
    | some (some (0, d)) => (argD δ ms xs).map fun r => d :: r
    | _ => none)
  | true :: ms, .sl j :: xs => (match δ[j]? with
    | some (some (1, d)) => (argD δ ms xs).map fun r => d :: r
    | _ => none)
  | _, _ => none
/-- parameter, slot -/
def pairsA : Nat → List Bool → List Vl → List (Nat × Nat)
  | k, true :: ms, .sl j :: xs => (k, j) :: pairsA (k + 1) ms xs
  | k, _ :: ms, _ :: xs => pairsA (k + 1) ms xs
  | _, _, _ => []
def putM : List (Nat × Nat) → List D → DSt → Option DSt
  | [], [], δ => some δ
  | (_, j) :: L, d :: ds, δ => putM L ds (δ.set j (some (1, d)))
  | _, _, _ => none
def ndup : List Nat → Bool
  | [] => true
  | a :: r => !r.contains a && ndup r
def callF {α : Type} (f : D → α) (g : D → α) (modes : List Bool) (m : List D → FR) (xs : List Vl) (δ : DSt) : R α := match bindA modes xs δ with
  | none => .stuck
  | some δ1 => match argD δ1 modes xs with
    | none => .stuck
    | some ds => if ndup ((pairsA 0 modes xs).map (·.2)) then (match m ds with
      | .ok r ms => (match putM (pairsA 0 modes xs) ms δ1 with
        | some δ2 => .ok (f r) δ2
        | none => .stuck)
      | .rg r ms => (match putM (pairsA 0 modes xs) ms δ1 with
        | some δ2 => .ok (g r) δ2
        | none => .stuck)
      | .exc c ns es ms => (match putM (pairsA 0 modes xs) ms δ1 with
        | some δ2 => .exc c ns es δ2
        | none => .stuck)
      | .stuck => .stuck) else .stuck
/-- the value of a call is frozen -/
def eFn (modes : List Bool) (m : List D → FR) (ta : TDA) : TD := fun δ => (ta δ).bind fun xs δ1 => callF Vl.fz Vl.fz modes m xs δ1
/-- the value of a call is an own list -/
def noG (m : List D → FR) : List D → FR := fun ds => match m ds with
  | .ok _ _ => .stuck
  | r => r
def gFn (modes : List Bool) (m : List D → FR) (ta : TDA) : TDG := fun δ => (ta δ).bind fun xs δ1 => callF id id modes (noG m) xs δ1
theorem find2 : ∀ {L : List (Nat × Nat)} {q : Nat × Nat}, ndup (L.map (·.2)) = true → q ∈ L → L.find? (fun r => r.2 == q.2) = some q
  | [], q, _, h => by simp at h
  | p :: L, q, n, h => by
    unfold ndup at n
    simp only [List.map_cons, Bool.and_eq_true, Bool.not_eq_true'] at n
    rcases List.mem_cons.mp h with e | h
    · subst e
      simp
    · have hne : (p.2 == q.2) = false := by
        refine Bool.eq_false_iff.mpr fun z => ?_
        have e : p.2 = q.2 := by simpa using z
        have hm : q.2 ∈ L.map (·.2) := List.mem_map_of_mem h
        rw [← e] at hm
        have := n.1
        rw [List.contains_iff_mem.mpr hm] at this
        cases this
      rw [List.find?_cons, hne]
      exact find2 (by unfold ndup at n; first | exact n.2 | (cases L with | nil => rfl | cons _ _ => exact n.2)) h
theorem pairs_ge : ∀ {k : Nat} {modes : List Bool} {xs : List Vl} {q : Nat × Nat}, q ∈ pairsA k modes xs → k ≤ q.1
  | k, [], _, q, h => by simp [pairsA] at h
  | k, true :: ms, [], q, h => by simp [pairsA] at h
  | k, false :: ms, [], q, h => by simp [pairsA] at h
  | k, true :: ms, .sl j :: xs, q, h => by
    unfold pairsA at h
    rcases List.mem_cons.mp h with e | h
    · rw [e]; exact Nat.le_refl _
    · have := pairs_ge h; omega
  | k, true :: ms, .fz d :: xs, q, h => by
    have := pairs_ge (k := k + 1) (modes := ms) (xs := xs) (by simpa [pairsA] using h)
    omega
  | k, false :: ms, x :: xs, q, h => by
    have := pairs_ge (k := k + 1) (modes := ms) (xs := xs) (by simpa [pairsA] using h)
    omega
theorem find1 : ∀ {k : Nat} {modes : List Bool} {xs : List Vl} {q : Nat × Nat}, q ∈ pairsA k modes xs → (pairsA k modes xs).find? (fun r => r.1 == q.1) = some q
  | k, [], _, q, h => by simp [pairsA] at h
  | k, true :: ms, [], q, h => by simp [pairsA] at h
  | k, false :: ms, [], q, h => by simp [pairsA] at h
  | k, true :: ms, .sl j :: xs, q, h => by
    unfold pairsA at h ⊢
    rcases List.mem_cons.mp h with e | h
    · subst e; simp
    · have hge := pairs_ge h
      rw [List.find?_cons, show ((k, j).1 == q.1) = false by simp; omega]
      exact find1 h
  | k, true :: ms, .fz d :: xs, q, h => find1 (k := k + 1) (modes := ms) (xs := xs) h
  | k, false :: ms, x :: xs, q, h => find1 (k := k + 1) (modes := ms) (xs := xs) h
section
variable {K : Frag} {Γ : Gm} {W : WX} {ω ω' : Om} {H H' : Hp} {σ : L2.St} {δ δ' : DSt}
theorem bindA_ok : ∀ {modes : List Bool} {xs : List Vl} {vs : List V} {δ δ' : DSt} {ω : Om}, Rel K Γ ω H σ δ → IsVs K Γ ω H σ xs vs → bindA modes xs δ = some δ' → ∃ ω', Ext ω H ω' H ∧ Rel K Γ ω' H σ δ'
  | [], [], vs, δ, δ', ω, R, i, e => by cases e; exact ⟨ω, Ext.refl _ _, R⟩
  | [], _ :: _, vs, δ, δ', ω, R, i, e => by cases e
  | false :: ms, [], vs, δ, δ', ω, R, i, e => by cases e
  | true :: ms, [], vs, δ, δ', ω, R, i, e => by cases e
  | false :: ms, x :: xs, vs, δ, δ', ω, R, i, e => by
    obtain ⟨v, r, rfl, i1, i2⟩ := i
    unfold bindA at e
    cases q : frz δ x with
    | none => rw [q] at e; cases e
    | some pr =>
      obtain ⟨d, δ1⟩ := pr
      rw [q] at e
      obtain ⟨ω1, X1, R1, _⟩ := frz_ok R i1 q
      obtain ⟨ω2, X2, R2⟩ := bindA_ok R1 (IsVs.mono X1.f i2) e
      exact ⟨ω2, X1.trans X2, R2⟩
  | true :: ms, x :: xs, vs, δ, δ', ω, R, i, e => by
    obtain ⟨v, r, rfl, i1, i2⟩ := i
    exact bindA_ok (modes := ms) R i2 e
/-- the callee's tags -/
def calO (L : List (Nat × Nat)) (ω : Om) : Om := fun b => match ω b with
  | .own i => (match L.find? (fun r => r.2 == i) with
    | some q => .own q.1
    | none => .out)
  | t => t
theorem calO_fz {L : List (Nat × Nat)} : Fz ω H (calO L ω) H := fun b h => ⟨by unfold calO; rcases h with h | h <;> rw [h], rfl⟩
theorem argD_ok (R : Rel K Γ ω H σ δ) (L : List (Nat × Nat)) (hL : ndup (L.map (·.2)) = true) : ∀ {k : Nat} {modes : List Bool} {xs : List Vl} {vs : List V} {ds : List D}, (∀ q ∈ pairsA k modes xs, q ∈ L) → IsVs K Γ ω H σ xs vs → argD δ modes xs = some ds → ArgsR K (calO L ω) H Γ.xi k modes vs ds
  | k, [], [], vs, ds, _, i, e => by
    cases e
    cases (show vs = [] from i)
    trivial
  | k, [], _ :: _, vs, ds, _, i, e => by cases e
  | k, false :: ms, [], vs, ds, _, i, e => by cases e
  | k, true :: ms, [], vs, ds, _, i, e => by cases e
  | k, true :: ms, .fz d :: xs, vs, ds, _, i, e => by cases e
  | k, false :: ms, .fz d :: xs, vs, ds, h, i, e => by
    obtain ⟨v, r, rfl, i1, i2⟩ := i
    unfold argD at e
    cases q : argD δ ms xs with
    | none => rw [q] at e; cases e
    | some rr =>
      rw [q] at e
      cases e
      exact ⟨Is.mono calO_fz i1, argD_ok R L hL (k := k + 1) h i2 q⟩
  | k, false :: ms, .sl j :: xs, vs, ds, h, i, e => by
    obtain ⟨v, r, rfl, i1, i2⟩ := i
    unfold argD at e
    split at e
    · rename_i d qd
      cases q : argD δ ms xs with
      | none => rw [q] at e; cases e
      | some rr =>
        rw [q] at e
        cases e
        obtain ⟨w, e1, s⟩ := R.sl j _ qd
        rw [slot_some (show σ[j]? = some (some v) from i1)] at e1
        cases e1
        exact ⟨s.mono calO_fz, argD_ok R L hL (k := k + 1) h i2 q⟩
    · cases e
  | k, true :: ms, .sl j :: xs, vs, ds, h, i, e => by
    obtain ⟨v, r, rfl, i1, i2⟩ := i
    unfold argD at e
    split at e
    · rename_i d qd
      cases q : argD δ ms xs with
      | none => rw [q] at e; cases e
      | some rr =>
        rw [q] at e
        cases e
        obtain ⟨a, ws, es, e1, e2, e3, e4, e5⟩ := R.own qd
        rw [show σ[j]? = some (some v) from i1] at e1
        cases e1
        have hm : (k, j) ∈ L := h (k, j) (by unfold pairsA; exact List.mem_cons_self)
        have hf := find2 hL hm
        refine ⟨⟨a, ws, es, rfl, e2, ?_, e4, e5.mono calO_fz⟩, argD_ok R L hL (k := k + 1) (fun z hz => h z (by unfold pairsA; exact List.mem_cons_of_mem _ hz)) i2 q⟩
        unfold calO
        rw [e3]
        dsimp only at hf ⊢
        rw [hf]
    · cases e
open Classical in
/-- the caller's tags behind the call -/
noncomputable def retO (L : List (Nat × Nat)) (ω : Om) (H : Hp) (τ : Tg) (ω2 : Om) : Om := fun b =>
  if (H b).isSome = true ∧ (∀ i, ω b = .own i → L.find? (fun r => r.2 == i) = none) then ω b else match ω2 b with
    | .own k => if k = tagR then τ else (match L.find? (fun r => r.1 == k) with
      | some q => .own q.2
      | none => .out)
    | t => t
theorem ret_ok (Rl : Rel K Γ ω H σ δ) {L : List (Nat × Nat)} {τ : Tg} {ω2 : Om} {H2 : Hp} (X : Ext (calO L ω) H ω2 H2) (wf : WFO ω2 H2) (hτ : τ = .out ∨ True) : Ext ω H (retO L ω H τ ω2) H2 ∧ WFO (retO L ω H τ ω2) H2 ∧ Fz ω2 H2 (retO L ω H τ ω2) H2 := by
  have keep : ∀ b, (H b).isSome = true → (∀ i, ω b = .own i → L.find? (fun r => r.2 == i) = none) → retO L ω H τ ω2 b = ω b := fun b h1 h2 => by unfold retO; rw [if_pos ⟨h1, h2⟩]
  have alive : ∀ b, ω b ≠ .out → (H b).isSome = true := fun b h => by
    obtain ⟨o, q⟩ := Rl.wf b h
    rw [q] <;> rfl
  refine ⟨⟨fun b hb => ?_, fun b o hb hb' => ?_⟩, fun b hb => ?_, fun b hb => ?_⟩
  · have e := keep b (alive b (by rcases hb with hb | hb <;> (rw [hb]; intro z; cases z))) fun i z => by rcases hb with hb | hb <;> (rw [hb] at z; cases z)
    exact ⟨e, (X.fx b (by rcases hb with hb | hb <;> (unfold calO; rw [hb]; simp))).2⟩
  · have e := keep b (by rw [hb] <;> rfl) fun i z => by rw [hb'] at z; cases z
    exact ⟨by rw [e]; exact hb', (X.out b o hb (by unfold calO; rw [hb'])).2⟩
  · by_cases z : (H b).isSome = true ∧ (∀ i, ω b = .own i → L.find? (fun r => r.2 == i) = none)
    · obtain ⟨o, ho⟩ := Option.isSome_iff_exists.mp z.1
      cases q : ω b with
      | fz => exact ⟨o, ((X.fz b (by unfold calO; rw [q])).2).trans ho⟩
      | bor => exact ⟨o, ((X.bo b (by unfold calO; rw [q])).2).trans ho⟩
      | out => exact ⟨o, (X.out b o ho (by unfold calO; rw [q])).2⟩
      | own i => exact ⟨o, (X.out b o ho (by unfold calO; rw [q]; dsimp only; rw [z.2 i q])).2⟩
    · unfold retO at hb
      rw [if_neg z] at hb
      refine wf b fun q => hb ?_
      rw [q]
  · by_cases z : (H b).isSome = true ∧ (∀ i, ω b = .own i → L.find? (fun r => r.2 == i) = none)
    · rw [keep b z.1 z.2]
      obtain ⟨o, ho⟩ := Option.isSome_iff_exists.mp z.1
      cases q : ω b with
      | fz => exact ⟨((X.fz b (by unfold calO; rw [q])).1).symm, rfl⟩
      | bor => exact ⟨((X.bo b (by unfold calO; rw [q])).1).symm, rfl⟩
      | out =>
        have := (X.out b o ho (by unfold calO; rw [q])).1
        rw [this] at hb; rcases hb with hb | hb <;> cases hb
      | own i =>
        have := (X.out b o ho (by unfold calO; rw [q]; dsimp only; rw [z.2 i q])).1
        rw [this] at hb; rcases hb with hb | hb <;> cases hb
    · unfold retO
      rw [if_neg z]
      rcases hb with hb | hb <;> (rw [hb]; exact ⟨rfl, rfl⟩)
/-- the slots behind the call -/
theorem ret_rel (Rl : Rel K Γ ω H σ δ) {modes : List Bool} {xs : List Vl} {vs : List V} {τ : Tg} {ω2 : Om} {H2 : Hp} (hL : ndup ((pairsA 0 modes xs).map (·.2)) = true) (ix : IsVs K Γ ω H σ xs vs) (X : Ext (calO (pairsA 0 modes xs) ω) H ω2 H2) (wf : WFO ω2 H2) (hr : ∀ q ∈ pairsA 0 modes xs, q.1 ≠ tagR) :
    ∀ {ms : List D} {δ2 : DSt}, (∃ ds, argD δ modes xs = some ds) → MutR K ω2 H2 Γ.xi 0 modes vs ms → putM (pairsA 0 modes xs) ms δ = some δ2 → Rel K Γ (retO (pairsA 0 modes xs) ω H τ ω2) H2 σ δ2 := by
  intro ms δ2 ⟨ds, ha⟩ hm hput
  obtain ⟨XE, WE, FE⟩ := ret_ok (τ := τ) Rl X wf (.inr trivial)
  -- slots that are not handed over
  have other : ∀ i e, (pairsA 0 modes xs).find? (fun r => r.2 == i) = none → δ[i]? = some e → Sl K (retO (pairsA 0 modes xs) ω H τ ω2) H2 Γ.xi i e (σ[i]?.join) := fun i e hn hi => by
    refine (Rl.sl i e hi).mono XE.f fun b hb => ?_
    obtain ⟨o, ho⟩ := Rl.wf b (by rw [hb]; intro z; cases z)
    have z : (H b).isSome = true ∧ (∀ j, ω b = .own j → (pairsA 0 modes xs).find? (fun r => r.2 == j) = none) := ⟨by rw [ho] <;> rfl, fun j q => by rw [hb] at q; cases q; exact hn⟩
    refine ⟨by unfold retO; rw [if_pos z]; exact hb, ?_⟩
    have := (X.out b o ho (by unfold calO; rw [hb]; dsimp only; rw [hn])).2
    rw [this, ho]
  -- the handed over ones
  have gen : ∀ (k : Nat) (modes1 : List Bool) (xs1 : List Vl) (vs1 : List V) (ms1 : List D) (ds1 : List D) (δ1 δ3 : DSt), (∀ q ∈ pairsA k modes1 xs1, q ∈ pairsA 0 modes xs) → IsVs K Γ ω H σ xs1 vs1 → argD δ modes1 xs1 = some ds1 → MutR K ω2 H2 Γ.xi k modes1 vs1 ms1 → putM (pairsA k modes1 xs1) ms1 δ1 = some δ3 → δ1.length = δ.length →
      (∀ i e, (pairsA k modes1 xs1).find? (fun r => r.2 == i) = none → δ1[i]? = some e → Sl K (retO (pairsA 0 modes xs) ω H τ ω2) H2 Γ.xi i e (σ[i]?.join)) → δ3.length = δ.length ∧ ∀ i e, δ3[i]? = some e → Sl K (retO (pairsA 0 modes xs) ω H τ ω2) H2 Γ.xi i e (σ[i]?.join) := by
    intro k modes1
    induction modes1 generalizing k with
    | nil =>
      intro xs1 vs1 ms1 ds1 δ1 δ3 hq i ha hm hp hl hs
      cases xs1 with
      | cons _ _ => cases ha
      | nil =>
        simp only [pairsA] at hp hs
        cases ms1 with
        | cons _ _ => cases hp
        | nil =>
          cases hp
          exact ⟨hl, fun i e h => hs i e (by simp) h⟩
    | cons md mr ih =>
      intro xs1 vs1 ms1 ds1 δ1 δ3 hq i ha hm hp hl hs
      cases xs1 with
      | nil => cases md <;> cases ha
      | cons x xr =>
        obtain ⟨v, vr, rfl, i1, i2⟩ := i
        cases md with
        | false =>
          have ha2 : ∃ d2, argD δ mr xr = some d2 := by
            cases x with
            | fz d =>
              unfold argD at ha
              cases q : argD δ mr xr with
              | none => rw [q] at ha; cases ha
              | some r => exact ⟨r, rfl⟩
            | sl j =>
              unfold argD at ha
              split at ha
              · cases q : argD δ mr xr with
                | none => rw [q] at ha; cases ha
                | some r => exact ⟨r, rfl⟩
              · cases ha
          obtain ⟨d2, ha2⟩ := ha2
          have ep : pairsA k (false :: mr) (x :: xr) = pairsA (k + 1) mr xr := by cases x <;> rfl
          rw [ep] at hq hp hs
          exact ih (k + 1) xr vr ms1 d2 δ1 δ3 hq i2 ha2 hm hp hl hs
        | true =>
          cases x with
          | fz d => cases ha
          | sl j =>
            unfold argD at ha
            split at ha
            · rename_i d qd
              cases q : argD δ mr xr with
              | none => rw [q] at ha; cases ha
              | some d2 =>
                cases ms1 with
                | nil => exact hm.elim
                | cons e es =>
                  obtain ⟨⟨a, ws, ls, e1, e2, e3, e4, e5⟩, hm2⟩ := hm
                  obtain ⟨a0, ws0, ls0, s1, s2, s3, s4, s5⟩ := Rl.own qd
                  rw [show σ[j]? = some (some v) from i1, e1] at s1
                  cases s1
                  have hmem : (k, j) ∈ pairsA 0 modes xs := hq (k, j) (by unfold pairsA; exact List.mem_cons_self)
                  have hf1 := find1 hmem
                  have hf2 := find2 hL hmem
                  have hk := hr _ hmem
                  have tagA : retO (pairsA 0 modes xs) ω H τ ω2 a = .own j := by
                    unfold retO
                    rw [if_neg (fun z => by have := z.2 j s3; dsimp only at hf2; rw [hf2] at this; cases this), e3]
                    dsimp only at hf1 hk ⊢
                    rw [if_neg hk, hf1]
                  refine ih (k + 1) xr vr es d2 (δ1.set j (some (1, e))) δ3 (fun z hz => hq z (by unfold pairsA; exact List.mem_cons_of_mem _ hz)) i2 q hm2 (by unfold pairsA putM at hp; exact hp) (by rw [List.length_set]; exact hl) fun i e' hn hi => ?_
                  by_cases z : j = i
                  · subst z
                    have hlt : j < δ1.length := by
                      have := (List.getElem?_eq_some_iff.mp hi).1
                      rwa [List.length_set] at this
                    rw [List.getElem?_set_self hlt] at hi
                    cases hi
                    exact ⟨a, ws, ls, slot_some (by rw [← e1]; exact i1), e2, tagA, e4, e5.mono FE⟩
                  · rw [List.getElem?_set_ne z] at hi
                    refine hs i e' ?_ hi
                    unfold pairsA
                    rw [List.find?_cons, show ((k, j).2 == i) = false by simp; exact z]
                    exact hn
            · cases ha
  obtain ⟨g1, g2⟩ := gen 0 modes xs vs ms ds δ δ2 (fun _ z => z) ix ha hm hput rfl other
  exact ⟨WE, by rw [g1]; exact Rl.len, g2, Rl.pin⟩
end
theorem ret_tag {K : Frag} {Γ : Gm} {ω ω2 : Om} {H H2 : Hp} {σ : L2.St} {δ : DSt} {L : List (Nat × Nat)} {τ : Tg} (X : Ext (calO L ω) H ω2 H2) {b : Addr} (h : ω2 b = .own tagR) : retO L ω H τ ω2 b = τ := by
  unfold retO
  rw [if_neg, h]
  · dsimp only
    rw [if_pos rfl]
  · intro z
    obtain ⟨o, ho⟩ := Option.isSome_iff_exists.mp z.1
    cases q : ω b with
    | fz =>
      have := (X.fz b (by unfold calO; rw [q])).1
      rw [h] at this; cases this
    | bor =>
      have := (X.bo b (by unfold calO; rw [q])).1
      rw [h] at this; cases this
    | out =>
      have := (X.out b o ho (by unfold calO; rw [q])).1
      rw [h] at this; cases this
    | own i =>
      have := (X.out b o ho (by unfold calO; rw [q]; dsimp only; rw [z.2 i q])).1
      rw [h] at this; cases this
/-- a def as its callers know it -/
structure Fn (P : Program) (w : World) (K : Frag) (mg : Str → Option Value) (base : Heap) (x : Str) (k : Nat) (dvs : List V) (modes : List Bool) (m : List D → FR) : Prop where
  ex : ∃ (f : Addr) (fd : FuncData) (ps : List Str) (dus : List Value), mg x = some (.ref f) ∧ PySem.W.keepIn K (.ref f) = true ∧ Binds K fd ps dus ∧ Vals dvs dus ∧ FnOk P w K mg base (L2N.CX P w) k f fd ps (spD K modes m)
theorem Fn.cong {P : Program} {w : World} {K : Frag} {mg : Str → Option Value} {base : Heap} {x : Str} {k : Nat} {dvs : List V} {modes : List Bool} {m m' : List D → FR} (F : Fn P w K mg base x k dvs modes m) (e : m = m') : Fn P w K mg base x k dvs modes m' := e ▸ F
theorem pairs_lt : ∀ {k : Nat} {ms : List Bool} {ys : List Vl} {q : Nat × Nat}, q ∈ pairsA k ms ys → q.1 < k + ms.length
  | k, [], ys, q, h => by simp [pairsA] at h
  | k, true :: r, [], q, h => by simp [pairsA] at h
  | k, false :: r, [], q, h => by simp [pairsA] at h
  | k, false :: r, y :: yr, q, h => by
    have := pairs_lt (k := k + 1) (ms := r) (ys := yr) (by simpa [pairsA] using h)
    rw [List.length_cons]; omega
  | k, true :: r, .fz d :: yr, q, h => by
    have := pairs_lt (k := k + 1) (ms := r) (ys := yr) (by simpa [pairsA] using h)
    rw [List.length_cons]; omega
  | k, true :: r, .sl j :: yr, q, h => by
    unfold pairsA at h
    rw [List.length_cons]
    rcases List.mem_cons.mp h with z | z
    · rw [z]; dsimp only; omega
    · have := pairs_lt z
      omega
theorem XIs.mono {K : Frag} {Γ Γ' : Gm} {ω ω' : Om} {H : Hp} {ns : List Str} {ds : List D} {d : Option Addr} (hx : Γ.xi = Γ'.xi) (F : Fz ω H ω' H) (h : XIs K Γ ω H ns ds d) : XIs K Γ' ω' H ns ds d := by
  rcases h with h | ⟨e, ws, e1, e2, e3, e4, e5⟩
  · exact .inl h
  · exact .inr ⟨e, ws, e1, (F.z e e2).1, e3, e4, by rw [← hx]; exact e5.mono F⟩
theorem call_ok {K : Frag} {Γ : Gm} {W : WX} {ω : Om} {H : Hp} {σ : L2.St} {δ : DSt} {modes : List Bool} {m : List D → FR} {xs : List Vl} {vs : List V} {Q : VK} {α : Type} {rel : Om → Hp → L2.St → α → V → Prop} {f g : D → α} {τ : Tg} (hlen : modes.length ≤ 900)
    (hf : ∀ ds r ms ω H v, m ds = .ok r ms → Is K ω H Γ.xi r v → rel ω H σ (f r) v) (hg : ∀ ω' ω2 H2 r v, Fz ω2 H2 ω' H2 → (∀ b, ω2 b = .own tagR → ω' b = τ) → OwnL K ω2 H2 Γ.xi tagR r v → rel ω' H2 σ (g r) v)
    (Rl : Rel K Γ ω H σ δ) (ix : IsVs K Γ ω H σ xs vs) (h : okR K Γ W ω H σ rel (callF f g modes m xs δ) Q) : spX K Γ.xi modes m vs H Q fun cls d H' => W cls d σ H' := by
  unfold callF at h
  cases qb : bindA modes xs δ with
  | none => rw [qb] at h; exact h.elim
  | some δ1 =>
    rw [qb] at h
    dsimp only at h
    obtain ⟨ω1, X1, R1⟩ := bindA_ok Rl ix qb
    have ix1 := IsVs.mono X1.f ix
    cases qa : argD δ1 modes xs with
    | none => rw [qa] at h; exact h.elim
    | some ds =>
      rw [qa] at h
      dsimp only at h
      by_cases hL : ndup ((pairsA 0 modes xs).map (·.2)) = true
      · rw [if_pos hL] at h
        have A := argD_ok R1 (pairsA 0 modes xs) hL (k := 0) (fun _ z => z) ix1 qa
        have hr : ∀ q ∈ pairsA 0 modes xs, q.1 ≠ tagR := fun q hq => by
          have := pairs_lt hq
          show q.1 ≠ 1000
          omega
        have wfc : WFO (calO (pairsA 0 modes xs) ω1) H := fun b hb => R1.wf b fun z => hb (by unfold calO; rw [z])
        refine ⟨calO (pairsA 0 modes xs) ω1, ds, wfc, A, ?_⟩
        cases qm : m ds with
        | stuck => rw [qm] at h; exact h.elim
        | rg r ms =>
          rw [qm] at h
          dsimp only at h ⊢
          intro v H2 ω2 X2 wf2 ir mu
          cases qp : putM (pairsA 0 modes xs) ms δ1 with
          | none => rw [qp] at h; exact h.elim
          | some δ2 =>
            rw [qp] at h
            have R2 := ret_rel (τ := τ) R1 hL ix1 X2 wf2 hr ⟨ds, qa⟩ mu qp
            obtain ⟨X3, _, F3⟩ := ret_ok (τ := τ) R1 X2 wf2 (.inr trivial)
            exact okR.at h (X1.trans X3) R2 (hg _ _ _ _ _ F3 (fun b hb => ret_tag (K := K) (Γ := Γ) (σ := σ) (δ := δ) X2 hb) ir)
        | ok r ms =>
          rw [qm] at h
          dsimp only at h ⊢
          intro v H2 ω2 X2 wf2 ir mu
          cases qp : putM (pairsA 0 modes xs) ms δ1 with
          | none => rw [qp] at h; exact h.elim
          | some δ2 =>
            rw [qp] at h
            have R2 := ret_rel (τ := τ) R1 hL ix1 X2 wf2 hr ⟨ds, qa⟩ mu qp
            obtain ⟨X3, _, F3⟩ := ret_ok (τ := τ) R1 X2 wf2 (.inr trivial)
            exact okR.at h (X1.trans X3) R2 (hf _ _ _ _ _ _ qm (ir.mono F3))
        | exc c ns es ms =>
          rw [qm] at h
          dsimp only at h ⊢
          intro d H2 ω2 X2 wf2 ie mu
          cases qp : putM (pairsA 0 modes xs) ms δ1 with
          | none => rw [qp] at h; exact h.elim
          | some δ2 =>
            rw [qp] at h
            have R2 := ret_rel (τ := τ) R1 hL ix1 X2 wf2 hr ⟨ds, qa⟩ mu qp
            obtain ⟨X3, _, F3⟩ := ret_ok (τ := τ) R1 X2 wf2 (.inr trivial)
            exact h d H2 _ (X1.trans X3) R2 (XIs.mono rfl F3 ie)
      · rw [if_neg hL] at h; exact h.elim
theorem noG_imp {K : Frag} {xi : Xi} {modes : List Bool} {m : List D → FR} {vs : List V} {H : Hp} {Q : VK} {E : XK} (h : spX K xi modes (noG m) vs H Q E) : spX K xi modes m vs H Q E := by
  obtain ⟨ω, ds, wf, a, h⟩ := h
  refine ⟨ω, ds, wf, a, ?_⟩
  unfold noG at h
  revert h
  cases m ds with
  | ok r ms => exact fun h => h.elim
  | rg r ms => exact id
  | exc c ns es ms => exact id
  | stuck => exact id
section
variable {X : Cx} {Γ : Gm} {x : Str} {p pos : Pos} {e : Expr} {es : List Expr} {ta : TDA} {k j : Nat} {dvs : List V} {modes : List Bool} {m : List D → FR} {τ : Tg}
theorem rel_fz {K : Frag} {Γ : Gm} {ω' ω2 : Om} {H2 : Hp} {r : D} {v : V} (F : Fz ω2 H2 ω' H2) (ht : ∀ b, ω2 b = .own tagR → ω' b = .fz) (h : OwnL K ω2 H2 Γ.xi tagR r v) : Is K ω' H2 Γ.xi r v := by
  obtain ⟨a, ws, ls, rfl, rfl, e3, e4, e5⟩ := h
  exact ⟨a, ws, rfl, ⟨ht a e3, e4⟩, e5.mono F⟩
theorem rel_own {K : Frag} {Γ : Gm} {σ : L2.St} {ω' ω2 : Om} {H2 : Hp} {r : D} {v : V} {τ : Tg} (hτ : τ ≠ .out) (F : Fz ω2 H2 ω' H2) (ht : ∀ b, ω2 b = .own tagR → ω' b = τ) (h : OwnL K ω2 H2 Γ.xi tagR r v) : rlG K Γ τ ω' H2 σ r v := by
  cases τ with
  | out => exact absurd rfl hτ
  | fz => exact rel_fz F ht h
  | own i =>
    obtain ⟨a, ws, ls, rfl, rfl, e3, e4, e5⟩ := h
    exact ⟨a, ws, ls, rfl, rfl, ht a e3, e4, e5.mono F⟩
  | bor => trivial
/-- f(e, ..), every parameter given -/
theorem de_fn (F : Fn X.prog X.w X.K X.mg X.base x j [] modes m) (hr : Room k X.A) (hx : Γ.xi = none := by rfl) (hj : j ≤ k := by decide) (hlen : modes.length ≤ 900 := by decide) (ha : DA X Γ (e :: es) ta) (hg : Gl X x := by rfl) (hdb : (x == ("__debug__" : Str)) = false := by decide)
    (he : starEach (e :: es) X.env = (false, eval e X.env) :: starEach es X.env := by rfl) (hpl : (backTo pos (starEach es X.env)).any (·.1) = false := by rfl) : DE X Γ (.Call (.Name x p) (e :: es) [] pos) (eFn modes m ta) := by
  obtain ⟨f, fd, ps, dus, hm, hk, hb, hd, ok⟩ := F.ex
  cases hd
  refine ⟨fun W tk => PE.imp (pe_callSD (E := WE W) (dvs := []) ok (hr.mono hj) hg hm hk hb .nil (fun σ => L2N.passAt tk σ) (ha.run W tk) hdb he hpl) fun σ H Q h => ?_⟩
  obtain ⟨ω, δ, R, h⟩ := h
  refine up_bind (t := ta) R h fun vs H1 ω1 δ1 xs e1 R1 i1 h1 => ?_
  rw [List.append_nil]
  have z := call_ok (τ := .fz) (rel := rlV X.K Γ) (f := Vl.fz) (g := Vl.fz) hlen (fun _ _ _ _ _ _ _ h => h) (fun _ _ _ _ _ F ht h => rel_fz F ht h) R1 i1 h1
  rw [hx] at z
  exact z
/-- .. an own list comes back -/
theorem dg_fn (hτ : τ ≠ .out) (F : Fn X.prog X.w X.K X.mg X.base x j [] modes m) (hr : Room k X.A) (hx : Γ.xi = none := by rfl) (hj : j ≤ k := by decide) (hlen : modes.length ≤ 900 := by decide) (ha : DA X Γ (e :: es) ta) (hg : Gl X x := by rfl) (hdb : (x == ("__debug__" : Str)) = false := by decide)
    (he : starEach (e :: es) X.env = (false, eval e X.env) :: starEach es X.env := by rfl) (hpl : (backTo pos (starEach es X.env)).any (·.1) = false := by rfl) : DG X Γ τ (.Call (.Name x p) (e :: es) [] pos) (gFn modes m ta) := by
  obtain ⟨f, fd, ps, dus, hm, hk, hb, hd, ok⟩ := F.ex
  cases hd
  refine ⟨fun W tk => PE.imp (pe_callSD (E := WE W) (dvs := []) ok (hr.mono hj) hg hm hk hb .nil (fun σ => L2N.passAt tk σ) (ha.run W tk) hdb he hpl) fun σ H Q h => ?_⟩
  obtain ⟨ω, δ, R, h⟩ := h
  refine up_bind (t := ta) R h fun vs H1 ω1 δ1 xs e1 R1 i1 h1 => ?_
  rw [List.append_nil]
  have z := call_ok (τ := τ) (rel := rlG X.K Γ τ) (f := id) (g := id) hlen (fun ds r ms _ _ _ e _ => by
    unfold noG at e
    split at e
    · cases e
    · rename_i q
      exact absurd e (q r ms)) (fun _ _ _ _ _ F ht h => rel_own hτ F ht h) R1 i1 h1
  rw [hx] at z
  exact noG_imp z
end
end DL

set_option Elab.async false
set_option linter.all false
set_option maxRecDepth 100000
namespace DL
open PySem PySem.Spec PyProof.Rows L2
/-! ### own errors whose __init__ stores its arguments -/
/-- what such an __init__ does -/
def spI (K : Frag) (fs : List Str) : Sp := fun vs H Q _ => ∃ (a C : Addr) (ws : List V), vs = .ref a :: ws ∧ ws.length = fs.length ∧ H a = some (exo a C none) ∧ OexC K C ∧ (∀ f ∈ fs, PySem.W.findIn K (.ref C) f = some none) ∧
  ∀ d, H d = none → d ≠ a → Q .non (upd (upd H d (exd d (fs.zip ws).reverse)) a (exo a C (some d)))
section
variable {P : Program} {w : World} {K : Frag} {mg : Str → Option Value} {base : Heap} {q : Str} {args : Arguments} {body : List Stmt} {scope : Scope} {fI : Addr} {fd : FuncData} {f g : Str}
theorem vis_of {N ps : List Str} {sc : Scope} (S : FnScope N ps sc) {x : Str} (h : x ∈ ps) : Vis sc x := (S.par x h).imp id .inl
theorem init1 (F : FunD K "__init__" q args body scope [] [] fI fd) (S : FnScope ["self", f] ["self", f] scope) {p1 p2 p3 p4 : Pos} (hb : body = [.Assign [.Attribute (.Name "self" p1) f p2] (.Name f p3) p4])
    (h1 : (f == ("__debug__" : Str)) = false) (h2 : (f == ("__classdict__" : Str)) = false) : FnOk P w K mg base (L2N.CX P w) 1 fI fd ["self", f] (spI K [f]) := by
  subst hb
  refine F.ok S (fun vs H Q E h => ?_) fun cdv A outer s H vs Q E hr h => ⟨_, pss_one (ps_ost (pe_var (i := 0) rfl (vis_of S (by simp))) (pe_var (i := 1) rfl (vis_of S (by simp)) h1 h2)), ?_⟩
  · obtain ⟨a, C, ws, rfl, hl, _⟩ := h
    simpa using hl
  · obtain ⟨a, C, ws, rfl, hl, ha, T, hn, k⟩ := h
    match ws, hl with
    | [v], _ =>
      exact ⟨v, rfl, .ref a, rfl, a, C, rfl, T, hn f (by simp), .inl ⟨ha, fun d hd ne => k d hd ne⟩⟩
theorem init2 (F : FunD K "__init__" q args body scope [] [] fI fd) (S : FnScope ["self", f, g] ["self", f, g] scope) {p1 p2 p3 p4 q1 q2 q3 q4 : Pos} (hb : body = [.Assign [.Attribute (.Name "self" p1) f p2] (.Name f p3) p4, .Assign [.Attribute (.Name "self" q1) g q2] (.Name g q3) q4])
    (h1 : (f == ("__debug__" : Str)) = false) (h2 : (f == ("__classdict__" : Str)) = false) (h3 : (g == ("__debug__" : Str)) = false) (h4 : (g == ("__classdict__" : Str)) = false) : FnOk P w K mg base (L2N.CX P w) 1 fI fd ["self", f, g] (spI K [f, g]) := by
  subst hb
  refine F.ok S (fun vs H Q E h => ?_) fun cdv A outer s H vs Q E hr h => ⟨_, pss_cons (ps_ost (pe_var (i := 0) rfl (vis_of S (by simp))) (pe_var (i := 1) rfl (vis_of S (by simp)) h1 h2)) (pss_one (ps_ost (pe_var (i := 0) rfl (vis_of S (by simp))) (pe_var (i := 2) rfl (vis_of S (by simp)) h3 h4))), ?_⟩
  · obtain ⟨a, C, ws, rfl, hl, _⟩ := h
    simpa using hl
  · obtain ⟨a, C, ws, rfl, hl, ha, T, hn, k⟩ := h
    match ws, hl with
    | [v, u], _ =>
      refine ⟨v, rfl, .ref a, rfl, a, C, rfl, T, hn f (by simp), .inl ⟨ha, fun d hd ne => ?_⟩⟩
      refine ⟨u, rfl, .ref a, rfl, a, C, rfl, T, hn g (by simp), .inr ⟨d, [(f, v)], upd_same, by rw [upd_ne ne]; exact upd_same, by show 1 ≤ 900; decide, ?_⟩⟩
      have e : upd (upd (upd H d (exd d [(f, v)])) a (exo a C (some d))) d (exd d ((g, u) :: [(f, v)])) = upd (upd H d (exd d (([f, g].zip [v, u]).reverse))) a (exo a C (some d)) := by
        funext b
        by_cases z : b = d
        · subst z
          rw [upd_same, upd_ne ne, upd_same]
          rfl
        · rw [upd_ne z]
          by_cases y : b = a
          · subst y; rw [upd_same, upd_same]
          · rw [upd_ne y, upd_ne y, upd_ne z, upd_ne z]
      show Q .non _
      rw [e]
      exact k d hd ne
end
/-- the class c of own errors, its __init__ storing fs -/
structure ExcF (P : Program) (w : World) (K : Frag) (mg : Str → Option Value) (base : Heap) (c : Str) (fs : List Str) : Prop where
  hm : mg c = some (.ref (He.ga K c))
  ox : OexC K (He.ga K c)
  init : ∃ (fI : Addr) (fd : FuncData) (ps : List Str), PySem.W.findIn K (.ref (He.ga K c)) "__init__" = some (some (.ref fI)) ∧ PySem.W.typeIn K (.ref fI) = some (.type "function") ∧ Binds K fd ps [] ∧ FnOk P w K mg base (L2N.CX P w) 1 fI fd ps (spI K fs)
  nof : ∀ f ∈ fs, PySem.W.findIn K (.ref (He.ga K c)) f = some none
section
variable {X : Cx}
/-- making such an error where nothing is handled, its context None -/
theorem pmk_own_init {x : Str} {C fI : Addr} {k : Nat} {fd : FuncData} {ps : List Str} {sp : Sp} {e : Expr} {es : List Expr} {ta : TA} {p pos : Pos} (T : OexC X.K C) (hI : PySem.W.findIn X.K (.ref C) "__init__" = some (some (.ref fI))) (hT : PySem.W.typeIn X.K (.ref fI) = some (.type "function"))
    (Fi : FnOk X.prog X.w X.K X.mg X.base (L2N.CX X.prog X.w) k fI fd ps sp) (room : Room (k + 1) X.A) (hB : Binds X.K fd ps []) (hP : Passes (L2N.CX X.prog X.w) X (fun _ _ _ => False)) (hg : Gl X x) (hm : X.mg x = some (.ref C)) (ha : PA X (e :: es) ta)
    (hdb : (x == ("__debug__" : Str)) = false) (he : starEach (e :: es) X.env = (false, eval e X.env) :: starEach es X.env) (hpl : (backTo pos (starEach es X.env)).any (·.1) = false) :
    L2N.PMk X (.Call (.Name x p) (e :: es) [] pos) (tMkO C sp [] ta) := fun pins s σ H Q I h => by
  obtain ⟨_, _, _, _, bm, _, _, _, _, _, _, _, _, _, _, look, hbm⟩ := T.cls
  refine wpAny_Call_Name_kw (ld_glob I hg hm (PySem.W.callWith_K (h₀ := X.base) I.ok.mod.kin T.kC (thn (ha.run pos pins s σ H _ I h) fun us s1 got => ?_) he hpl) hdb)
  obtain ⟨vs, H1, I1, r1, few, want⟩ := got
  refine ⟨I1.kIn, ?_⟩
  obtain ⟨hp, gs, dr, tk, os⟩ := s1
  show wpAny _ _ (call (.ref C) us) _ _ _
  have newA : hp.objs.size ≤ hp.objs.size + 1 := Nat.le_succ _
  generalize hnx : hp.objs.size + 1 = n at newA
  have free : H1 n = none := I1.hok.fresh newA
  have goal0 := want n free
  rw [List.append_nil] at goal0
  have stay : ∀ b o, hp.get? b = some o → ((hp.push (PySem.W.kdv_tup us)).push (PySem.HandSPX.excO C hp.objs.size)).get? b = some o := fun b o z => Heap.get?_push_of_some _ (Heap.get?_push_of_some _ z)
  have at_n : ((hp.push (PySem.W.kdv_tup us)).push (PySem.HandSPX.excO C hp.objs.size)).get? n = some (PySem.HandSPX.excO C hp.objs.size) := by
    rw [← hnx]
    heap_get
  have J := I1.laid (t' := tk) (a := n) (o := exo n C none) (h' := (hp.push (PySem.W.kdv_tup us)).push (PySem.HandSPX.excO C hp.objs.size)) stay newA (exo_ok at_n)
  have r2 : Vals (V.ref n :: vs) (Value.ref n :: us) := .cons rfl r1
  have len2 : ((Value.ref n :: us) ++ []).length = ps.length := by
    rw [List.append_nil, ← r2.length]
    exact Fi.len _ _ _ _ goal0
  have small : us.length ≤ sizeLine := Nat.le_trans (by rw [← Paired.length r1]; exact few) (by rw [sizeLine_eq]; decide)
  have bnd := hB _ (Value.ref n :: us) J.kIn len2
  rw [List.append_nil] at bnd
  have ran := Fi.run _ X.stack _ _ ⟨Value.ref n :: us, []⟩ (Value.ref n :: us) _ _ (fun _ _ _ => False) (room.make C us []) (J.env0.make C us []) bnd r2 goal0
  refine wpAny_call (PySem.HandSPX.call_own PySem.F.excBase_ValueError (fun Y => PySem.HandSPX.refsVE_contains Y bm hbm) (I1.kIn _ _ look) (PySem.W.looks_findIn I1.kIn hI) (fun self => PySem.W.bind_fn I1.kIn self hT) small ?_)
  rw [hnx]
  refine codeAny_mono ran fun r s' fin => ?_
  match r, fin with
  | .error er, fin => exact hP pins σ _ _ er s' J fin
  | .ok (.ret u), fin =>
    obtain ⟨v, H2, os2, bare2, un2, hok2, rv, ev, d, fs, ea, ed, hd1, q2⟩ := fin
    subst ev
    obtain ⟨h2, g2, d2, t2, os'⟩ := s'
    obtain ⟨t0, G, JG, kG, ge, hoe, na⟩ := mk_end0 (d2 := d2) (t2 := t2) I1 newA stay un2 hok2 os2 bare2 ea ed hd1
    refine ⟨rv, n, _, _, ⟨G, g2, d2, t2, os'⟩, _, .ref C, some d, rfl, JG, kG, ge, hoe, ⟨rfl, rfl, fun ws z => ?_⟩, rfl, rfl, na, rfl, bare2, raises_own T.exC T.tyC, q2⟩
    cases z
    rfl
  | .ok .next, fin => exact False.elim fin
  | .ok .brk, fin => exact False.elim fin
  | .ok .cont, fin => exact False.elim fin
end
def sRaise (c : Str) (fs : List Str) (ta : TDA) : TDS := fun δ => (ta δ).fl fun xs δ1 => match frzs δ1 xs with
  | some (ds, δ2) => if ds.length = fs.length ∧ ds.length ≤ 1000 then .ex c fs.reverse ds.reverse δ2 else .stuck
  | none => .stuck
section
variable {X : Cx} {Γ : Gm} {c : Str} {fs : List Str} {e : Expr} {es : List Expr} {ta : TDA} {p pos pos' : Pos} {k : Nat}
theorem IsL.reverse {K : Frag} {ω : Om} {H : Hp} {xi : Xi} : ∀ {ds : List D} {vs : List V}, IsL K ω H xi ds vs → IsL K ω H xi ds.reverse vs.reverse
  | [], _, h => by rw [show _ = ([] : List V) from h]; rfl
  | d :: ds, _, h => by
    obtain ⟨v, r, rfl, h1, h2⟩ := h
    rw [List.reverse_cons, List.reverse_cons]
    exact h2.reverse.append (IsL.one h1)
theorem zip_rev : ∀ {α β : Type} {xs : List α} {ys : List β}, xs.length = ys.length → (xs.zip ys).reverse = xs.reverse.zip ys.reverse := fun {α β xs ys} h => by
  induction xs generalizing ys with
  | nil => rfl
  | cons x xs ih =>
    cases ys with
    | nil => simp at h
    | cons y ys =>
      have h' : xs.length = ys.length := by simpa using h
      rw [List.zip_cons_cons, List.reverse_cons, ih h', List.reverse_cons, List.reverse_cons, List.zip_append (by simp [h'])]
      rfl
theorem passN0 {X : Cx} : Passes (L2N.CX X.prog X.w) X (fun _ _ _ => False) := fun pins σ H s e s' I h => by
  obtain ⟨_, _, _, _, _, _, _, _, _, _, _, _, z⟩ := h
  exact z.elim
theorem ds_raise (F : ExcF X.prog X.w X.K X.mg X.base c fs) (hc : X.calm = true) (room : Room k X.A) (ha : DA X Γ (e :: es) ta) (hk : 2 ≤ k := by decide) (hg : Gl X c := by rfl) (hdb : (c == ("__debug__" : Str)) = false := by decide)
    (he : starEach (e :: es) X.env = (false, eval e X.env) :: starEach es X.env := by rfl) (hpl : (backTo pos (starEach es X.env)).any (·.1) = false := by rfl) : DS X Γ (.Raise (some (.Call (.Name c p) (e :: es) [] pos)) none pos') (sRaise c fs ta) := by
  obtain ⟨fI, fd, ps, hI, hT, hB, ok⟩ := F.init
  refine ⟨fun W tk => PS.imp (L2N.ps_raise hc tk (pmk_own_init F.ox hI hT ok (room.mono hk) hB passN0 hg F.hm (ha.run W tk) hdb he hpl)) fun D σ H h => ?_⟩
  obtain ⟨ω, δ, R, h⟩ := h
  refine up_fl (t := ta) R h fun vs H1 ω1 δ1 xs e1 R1 i1 h1 => ?_
  split at h1
  · rename_i ds δ2 q
    obtain ⟨ω2, X2, R2, l2⟩ := frzs_ok R1 i1 q
    split at h1
    · rename_i hl
      refine ⟨by rw [l2.length]; exact hl.2, fun a hna => ?_⟩
      rw [List.append_nil]
      refine ⟨a, He.ga X.K c, vs, rfl, by rw [l2.length]; exact hl.1, upd_same, F.ox, F.nof, fun d hd ne => ⟨rfl, d, _, upd_same, by rw [upd_ne ne]; exact upd_same, ?_, ?_⟩⟩
      · rwa [upd_ne ne] at hd
      · have hd1 : H1 d = none := by rwa [upd_ne ne] at hd
        have eh : upd (L2.del (upd (upd (upd H1 a (exo a (He.ga X.K c) none)) d (exd d (fs.zip vs).reverse)) a (exo a (He.ga X.K c) (some d))) a) d (.xd (fs.zip vs).reverse) = upd H1 d (.xd (fs.zip vs).reverse) := by
          funext b
          by_cases z : b = d
          · subst z; rw [upd_same, upd_same]
          · rw [upd_ne z, upd_ne z]
            by_cases y : b = a
            · subst y; rw [L2.del_same, hna]
            · rw [L2.del_ne y, upd_ne y, upd_ne z, upd_ne y]
        rw [eh]
        have X3 := R2.nwExt (τ := .fz) hd1 (.xd (fs.zip vs).reverse)
        refine h1 (some d) σ _ (nwO ω2 d .fz) (X2.trans X3) (R2.new hd1 _) (.inr ⟨d, vs.reverse, rfl, nwO_self, ?_, ?_, (l2.mono X3.f).reverse⟩)
        · rw [upd_same, zip_rev (by rw [l2.length]; exact hl.1.symm)]
        · rw [List.length_reverse, List.length_reverse, l2.length]
          exact hl.1.symm
    · exact h1.elim
  · exact h1.elim
end
end DL

set_option Elab.async false
set_option linter.all false
set_option maxRecDepth 100000
namespace DL
open PySem PySem.Spec PyProof.Rows L2
/-! ### try .. except C as e -/
abbrev Gm.x (Γ : Gm) (xi : Xi) : Gm := ⟨Γ.M, Γ.idx, Γ.ok, xi⟩
section
variable {K : Frag} {Γ : Gm} {ω ω' : Om} {H H' : Hp} {σ : L2.St} {δ δ' : DSt} {xi xi' : Xi}
theorem Rel.weak (R : Rel K (Γ.x xi) ω H σ δ) : Rel K (Γ.x none) ω H σ δ := by
  refine ⟨R.wf, R.len, fun i e hi => ?_, R.pin⟩
  have s := R.sl i e hi
  match e, s with
  | none, _ => trivial
  | some (0, d), ⟨v, e1, h⟩ => exact ⟨v, e1, h.weak⟩
  | some (1, d), ⟨a, vs, ds, e1, e2, o, h, l⟩ => exact ⟨a, vs, ds, e1, e2, o, h, l.weak⟩
def keepP : List Nat → Nat → DSt → DSt
  | _, _, [] => []
  | ks, i, some (l, d) :: r => (if ks.contains i && plain d then some (l, d) else none) :: keepP ks (i + 1) r
  | ks, i, none :: r => none :: keepP ks (i + 1) r
theorem keepP_len : ∀ {ks : List Nat} {i : Nat} {δ : DSt}, (keepP ks i δ).length = δ.length
  | _, _, [] => rfl
  | ks, i, some (l, d) :: r => by
    unfold keepP
    rw [List.length_cons, List.length_cons, keepP_len]
  | ks, i, none :: r => by
    unfold keepP
    rw [List.length_cons, List.length_cons, keepP_len]
theorem keepP_at : ∀ {ks : List Nat} {i : Nat} {δ : DSt} {j : Nat} {l : Nat} {d : D}, (keepP ks i δ)[j]? = some (some (l, d)) → δ[j]? = some (some (l, d)) ∧ plain d = true
  | _, _, [], j, l, d, h => by simp [keepP] at h
  | ks, i, some (l', d') :: r, 0, l, d, h => by
    unfold keepP at h
    simp only [List.getElem?_cons_zero, Option.some.injEq] at h
    split at h
    · rename_i c
      cases h
      exact ⟨rfl, (Bool.and_eq_true_iff.mp c).2⟩
    · cases h
  | ks, i, none :: r, 0, l, d, h => by
    unfold keepP at h
    simp at h
  | ks, i, some (l', d') :: r, j + 1, l, d, h => by
    unfold keepP at h
    rw [List.getElem?_cons_succ] at h ⊢
    exact keepP_at h
  | ks, i, none :: r, j + 1, l, d, h => by
    unfold keepP at h
    rw [List.getElem?_cons_succ] at h ⊢
    exact keepP_at h
theorem Rel.strong (R : Rel K (Γ.x xi) ω H σ δ) (ks : List Nat) : Rel K (Γ.x xi') ω H σ (keepP ks 0 δ) := by
  refine ⟨R.wf, by rw [keepP_len]; exact R.len, fun i e hi => ?_, R.pin⟩
  cases e with
  | none => trivial
  | some p =>
    obtain ⟨l, d⟩ := p
    obtain ⟨h1, h2⟩ := keepP_at hi
    have s := R.sl i _ h1
    match l, s with
    | 0, ⟨v, e1, h⟩ => exact ⟨v, e1, h.plain h2⟩
    | 1, ⟨a, vs, ds, e1, e2, o, h, l⟩ =>
      subst e2
      exact ⟨a, vs, ds, e1, rfl, o, h, l.plain (by simpa [DL.plain] using h2)⟩
theorem Rel.gone (R : Rel K Γ ω H σ δ) {i : Nat} (hp : Γ.idx.contains i = false) : Rel K Γ ω H (σ.set i none) (δ.set i none) := by
  refine ⟨R.wf, by rw [List.length_set, List.length_set, R.len], fun j e hj => ?_, fun q hq => ?_⟩
  · by_cases h : i = j
    · subst h
      have hl : i < δ.length := by
        have := (List.getElem?_eq_some_iff.mp hj).1
        rwa [List.length_set] at this
      rw [List.getElem?_set_self hl] at hj
      cases hj
      trivial
    · rw [List.getElem?_set_ne h] at hj ⊢
      exact R.sl j e hj
  · have hne : i ≠ q.1 := fun z => by
      have hm := Γ.ok q hq
      rw [← z] at hm
      rw [List.contains_iff_mem.mpr hm] at hp
      cases hp
    rw [List.getElem?_set_ne hne]
    exact R.pin q hq
end
/-- what a suite comes to -/
def suF (i : Nat) : Fl → Fl
  | .nx δ => .nx (δ.set i none)
  | .bk δ => .bk (δ.set i none)
  | .ct δ => .ct (δ.set i none)
  | .rt x δ => .rt x δ
  | .rg d δ => .rg d δ
  | _ => .stuck
/-- cs: the classes that are caught; ks: the slots that the suite, and what follows, may read -/
def sTry (cs : List Str) (ks : List Nat) (i : Nat) (tb ts : TDS) : TDS := fun δ => match tb δ with
  | .ex c ns ds δ1 => if cs.contains c && plainL ds then suF i (ts ((keepP ks 0 δ1).set i (some (0, .exc c ns ds)))) else .stuck
  | f => f
/-- the exception e that is handled is known to the context -/
structure HotX (X : Cx) (Γ : Gm) (cs : List Str) : Prop where
  ex : ∃ (a : Addr) (c : Str) (d : Option Addr) (oe : Obj), Γ.xi = some (a, c, d) ∧ c ∈ cs ∧ L2H.Hot1 X.A (a, oe) ∧ (a, oe) ∈ X.pn ∧ Zc (.ref (He.ga X.K c)) d oe
section
variable {X : Cx} {Γ : Gm} {x n : Str} {cv : Value} {i : Nat} {body suite : List Stmt} {b₀ : Stmt} {np pos pos' : Pos} {tb ts : TDS} {cs : List Str} {ks : List Nat}
theorem ds_try (hx : Γ.xi = none) (hs : X.stack = X.env :: X.outer) (hf : X.env.frame = some X.env.locals) (hN : X.N.Nodup) (hi : X.N[i]? = some n) (hln : X.env.kindOf n = some .local) (hc : Names X x cv) (hp : Γ.idx.contains i = false)
    (hexm : ∀ c ∈ cs, PySem.W.exmOne X.K (.ref (He.ga X.K c)) cv = some true)
    (hb : ∀ (pn : List (Addr × Obj)) (xe : Value → Shared → Prop), PassesOwn (model X.prog X.w) X.A X.env xe → DB (X.tr pn xe) Γ body tb)
    (hsu : ∀ (a : Addr) (oe : Obj) (c : Str) (d : Option Addr) (pn : List (Addr × Obj)), HotX (X.suite a ((a, oe) :: pn)) (Γ.x (some (a, c, d))) cs → DB (X.suite a ((a, oe) :: pn)) (Γ.x (some (a, c, d))) (b₀ :: suite) ts) :
    DS X Γ (.Try body [.ExceptHandler (some (.Name x np)) (some n) (b₀ :: suite) pos'] [] [] pos) (sTry cs ks i tb ts) := by
  obtain ⟨M, idx, gok, xi⟩ := Γ
  cases (show xi = none from hx)
  refine ⟨fun Wo tk => PS.imp (L2N.ps_try_as (tb := fun W => upS X.K ⟨M, idx, gok, none⟩ W tb) (ts := fun a cls d D σ H => ∃ (c : Str) (oe : Obj), c ∈ cs ∧ cls = .ref (He.ga X.K c) ∧ upS X.K ⟨M, idx, gok, some (a, c, d)⟩ W0 ts D σ H) hs hf hN hi hln hc tk (fun W pn xe tk' po => (hb pn xe po).run W tk') fun a oe cls d pn hz hf' => ?_) fun D σ H h => ?_⟩
  · refine ⟨fun pins s σ H D I q => ?_⟩
    obtain ⟨c, _, hcs, rfl, q⟩ := q
    obtain ⟨vs, hv⟩ := hf'
    have hot : HotX (X.suite a ((a, oe) :: pn)) (Gm.x ⟨M, idx, gok, none⟩ (some (a, c, d))) cs := ⟨a, c, d, oe, rfl, hcs, ⟨rfl, vs, hv, hz.2.2 vs hv⟩, List.mem_cons_self, hz.zc⟩
    exact ((hsu a oe c d pn hot).run W0 tk0).run pins s σ H D I q
  · obtain ⟨ω, δ, R, h⟩ := h
    refine ⟨ω, δ, R, ?_⟩
    unfold sTry at h
    cases q : tb δ with
    | nx δ1 => rw [q] at h; exact h
    | bk δ1 => rw [q] at h; exact h
    | ct δ1 => rw [q] at h; exact h
    | rt y δ1 => rw [q] at h; exact h
    | rg y δ1 => rw [q] at h; exact h
    | stuck => rw [q] at h; exact h
    | ex c ns ds δ1 =>
      rw [q] at h
      dsimp only at h
      by_cases hcc : (cs.contains c && plainL ds) = true
      · rw [if_pos hcc] at h
        obtain ⟨hc1, hpl⟩ := Bool.and_eq_true_iff.mp hcc
        have hcm : c ∈ cs := List.contains_iff_mem.mp hc1
        intro d σ1 H1 ω1 X1 R1 ix
        refine ⟨true, hexm c hcm, fun _ a hna => ⟨c, default, hcm, rfl, ω1, (keepP ks 0 δ1).set i (some (0, .exc c ns ds)), ?_, ?_⟩, fun z => by cases z⟩
        · have R2 : Rel X.K ⟨M, idx, gok, some (a, c, d)⟩ ω1 H1 σ1 (keepP ks 0 δ1) := Rel.strong (Γ := ⟨M, idx, gok, none⟩) (xi := none) (xi' := some (a, c, d)) R1 ks
          refine R2.put hp ⟨.ref a, rfl, a, rfl, fun a' c' d' z => ?_⟩
          cases z
          refine ⟨rfl, rfl, ix.imp id ?_⟩
          rintro ⟨e, ws, e1, e2, e3, e4, e5⟩
          exact ⟨e, ws, e1, e2, e3, e4, e5.plain hpl⟩
        · have h := okS.ext X1 h
          revert h
          cases ts ((keepP ks 0 δ1).set i (some (0, .exc c ns ds))) with
          | nx δ2 => exact fun h σ2 H2 ω2 X2 R2 => h _ H2 ω2 X2 (Rel.gone (Rel.weak (Γ := ⟨M, idx, gok, none⟩) R2) hp)
          | bk δ2 => exact fun h σ2 H2 ω2 X2 R2 => h _ H2 ω2 X2 (Rel.gone (Rel.weak (Γ := ⟨M, idx, gok, none⟩) R2) hp)
          | ct δ2 => exact fun h σ2 H2 ω2 X2 R2 => h _ H2 ω2 X2 (Rel.gone (Rel.weak (Γ := ⟨M, idx, gok, none⟩) R2) hp)
          | rt y δ2 =>
            intro h v σ2 H2 ω2 X2 R2 iv
            refine h v σ2 H2 ω2 X2 (Rel.weak (Γ := ⟨M, idx, gok, none⟩) R2) ?_
            cases y with
            | fz d' => exact Is.weak iv
            | sl j => exact iv
          | rg d' δ2 =>
            intro h v σ2 H2 ω2 X2 R2 iv
            refine h v σ2 H2 ω2 X2 (Rel.weak (Γ := ⟨M, idx, gok, none⟩) R2) ?_
            obtain ⟨b, ws, ls, e1, e2, e3, e4, e5⟩ := iv
            exact ⟨b, ws, ls, e1, e2, e3, e4, e5.weak⟩
          | ex _ _ _ _ => exact fun h => h.elim
          | stuck => exact fun h => h.elim
      · rw [if_neg hcc] at h; exact h.elim
end
/-! ### defs called within a suite -/
/-- as Fn, while an exception of one of the classes cs is handled -/
structure FnE (P : Program) (w : World) (K : Frag) (mg : Str → Option Value) (base : Heap) (x : Str) (k : Nat) (modes : List Bool) (m : List D → FR) (cs : List Str) : Prop where
  ex : ∃ (f : Addr) (fd : FuncData) (ps : List Str), mg x = some (.ref f) ∧ PySem.W.keepIn K (.ref f) = true ∧ Binds K fd ps [] ∧ modes.length = ps.length ∧
    ∀ (A : Around) (outer : List Env) (s : Shared) (H : Hp) (args : Args) (us : List Value) (vs : List V) (Q : VK) (E : XK) (p : Addr × Obj) (c : Str) (d : Option Addr), L2H.RoomH k A → L2H.Hot1 A p → L2H.PinOk outer H s p → c ∈ cs → Zc (.ref (He.ga K c)) d p.2 → Env0 P w K mg base A outer s H → BindsTo s fd args (ps.zip us) → Vals vs us →
      spX K (some (p.1, c, d)) modes m vs H Q E → codeAny (model P w) A (.call (.ref f) args) (CR (L2N.CX P w) outer P w H s Q E) s
theorem FnE.cong {P : Program} {w : World} {K : Frag} {mg : Str → Option Value} {base : Heap} {x : Str} {k : Nat} {modes : List Bool} {m m' : List D → FR} {cs : List Str} (F : FnE P w K mg base x k modes m cs) (e : m = m') : FnE P w K mg base x k modes m' cs := e ▸ F
/-- nothing is raised -/
def noX (m : List D → FR) : List D → FR := fun ds => match m ds with
  | .exc _ _ _ _ => .stuck
  | r => r
theorem up_noX0 {K : Frag} {Γ : Gm} {W : WX} {t : TDS} {D : Ends} {σ : L2.St} {H : Hp} (h : upS K Γ W t D σ H) (hn : ∀ δ, ∀ c ns ds δ', t δ ≠ .ex c ns ds δ') : upS K Γ W0 t D σ H := by
  obtain ⟨ω, δ, R, h⟩ := h
  refine ⟨ω, δ, R, ?_⟩
  cases q : t δ with
  | ex c ns ds δ' => exact absurd q (hn δ c ns ds δ')
  | nx δ1 => rw [q] at h; exact h
  | bk δ1 => rw [q] at h; exact h
  | ct δ1 => rw [q] at h; exact h
  | rt y δ1 => rw [q] at h; exact h
  | rg y δ1 => rw [q] at h; exact h
  | stuck => rw [q] at h; exact h
def noE : Fl → Fl
  | .ex _ _ _ _ => .stuck
  | f => f
theorem fin_noE {modes : List Bool} {f : Fl} (h : ∀ c ns ds ms, fin modes f ≠ .exc c ns ds ms) : fin modes (noE f) = fin modes f ∨ fin modes f = .stuck := by
  cases f with
  | ex c ns es δ =>
    have h2 : fin modes (.ex c ns es δ) = (match mutsD δ (mutIdx 0 modes) with
      | some ms => .exc c ns es ms
      | none => .stuck) := rfl
    rw [h2]
    cases q : mutsD δ (mutIdx 0 modes) with
    | none => exact .inr rfl
    | some ms =>
      rw [q] at h2
      exact absurd h2 (h c ns es ms)
  | _ => exact .inl rfl
abbrev cxE (P : Program) (w : World) (K : Frag) (mg : Str → Option Value) (base : Heap) (N : List Str) (qual : Str) (scope : Scope) (f : Addr) (cd : Value) (A : Around) (outer : List Env) (s : Shared) (H : Hp) (E : XK) (p : Addr × Obj) : Cx := L2H.cxH (L2N.CX P w) P w K mg base N qual scope f cd A outer s H E p
section
variable {P : Program} {w : World} {K : Frag} {mg : Str → Option Value} {base : Heap} {x nm qual : Str} {params : Arguments} {body : List Stmt} {scope : Scope} {kws : List (Str × V)} {fd : FuncData}
theorem fn_deepE {f : Addr} {modes : List Bool} {N ps : List Str} {k : Nat} {t : TDS} {cs : List Str} (F : FunD K nm qual params body scope [] kws f fd) (hmg : mg x = some (.ref f)) (hB : Binds K fd ps []) (S : FnScope N ps scope) (hm : modes.length = ps.length) (hn : modes.length ≤ N.length)
    (hb : ∀ (cdv : Value) (A : Around) (outer : List Env) (s : Shared) (H : Hp) (vs : List V) (E : XK) (a : Addr) (oe : Obj) (c : Str) (d : Option Addr), L2H.RoomH k (A.deeper (envOfC qual scope s.heap.objs.size f cdv)) →
      HotX (cxE P w K mg base N qual scope f cdv A outer s H E (a, oe)) (gm modes vs (some (a, c, d))) cs → DB (cxE P w K mg base N qual scope f cdv A outer s H E (a, oe)) (gm modes vs (some (a, c, d))) body t) :
    FnE P w K mg base x (k + 1) modes (noX (runB modes (N.length - modes.length) t)) cs := by
  obtain ⟨oc, od, dV, kV, doc, pm, an, cdv, ct, osl, e0, lk, hcd, _, _⟩ := F.ex
  refine ⟨f, fd, ps, hmg, F.kp, hB, hm, fun A outer s H args us vs Q E p c d room hot pin hc hz env bnd rv hsp => ?_⟩
  obtain ⟨pa, oe⟩ := p
  subst e0
  have lvs : vs.length = ps.length := by
    rw [← hm]
    exact hsp.len
  have inK : K.In s.heap := env.mod.kin.keeps fun b o z => (env.bs b o z).1
  have lim : s.heap.NoLimit := env.mod.nolimit.keeps fun b o z => (env.bs b o z).1
  refine codeAny_call_function room.depth (inK _ _ lk) rfl S.co S.gen rfl (PySem.W.codeRec_of inK hcd) (bnd _ _ _ _ ?_)
  refine wpAny_newFunctionEnv_cells S.kind (fun y hy => ?_) fun e1 he1 s1 x1 => ?_
  · obtain ⟨nm', v'⟩ := y
    exact (S.par nm' (List.of_mem_zip hy).1).imp id fun z => ⟨z, PySem.W.cellsFrom_some _ _ _ (.inl z)⟩
  · subst he1
    refine ⟨lim.keeps x1.toInCall.keep, codeAny_func ?_⟩
    have hotX : HotX (cxE P w K mg base N qual scope f cdv A outer s H E (pa, oe)) (gm modes vs (some (pa, c, d))) cs := ⟨pa, c, d, oe, rfl, hc, ⟨hot.1, hot.2⟩, List.mem_cons_self, hz⟩
    have start := L2H.inv_startH (CX := L2N.CX P w) (E := E) S pin env lvs rv x1
    have body := (hb cdv A outer s H vs E pa oe c d (room.deeper _) hotX).run W0 tk0
    have ups : upS K (gm modes vs (some (pa, c, d))) W0 t { nx := fun _ H' => Q .non H', rt := Q } (L2.start N vs) H := by
      obtain ⟨ω, ds, wf, ar, h⟩ := hsp
      refine ⟨ω, startD modes (N.length - modes.length) ds, rel_start wf ar hn, ?_⟩
      have hl := ar.len.1
      have h : (match noX (runB modes (N.length - modes.length) t) ds with
        | .ok r ms => ∀ v H' ω', Ext ω H ω' H' → WFO ω' H' → Is K ω' H' (some (pa, c, d)) r v → MutR K ω' H' (some (pa, c, d)) 0 modes vs ms → Q v H'
        | .rg r ms => ∀ v H' ω', Ext ω H ω' H' → WFO ω' H' → OwnL K ω' H' (some (pa, c, d)) tagR r v → MutR K ω' H' (some (pa, c, d)) 0 modes vs ms → Q v H'
        | .exc c' ns es ms => ∀ d' H' ω', Ext ω H ω' H' → WFO ω' H' → XIs K { xi := some (pa, c, d) } ω' H' ns es d' → MutR K ω' H' (some (pa, c, d)) 0 modes vs ms → E (.ref (He.ga K c')) d' H'
        | .stuck => False) := h
      unfold noX runB at h
      revert h
      cases t (startD modes (N.length - modes.length) ds) with
      | nx δ =>
        intro h σ' H' ω' X' R'
        unfold fin at h
        dsimp only at h
        cases q : mutsD δ (mutIdx 0 modes) with
        | none => rw [q] at h; exact h.elim
        | some ms => rw [q] at h; exact h .non H' ω' X' R'.wf rfl (R'.muts hl q)
      | rt y δ =>
        intro h v σ' H' ω' X' R' iv
        unfold fin at h
        dsimp only at h
        cases qf : frz δ y with
        | none => rw [qf] at h; exact h.elim
        | some pr =>
          obtain ⟨d', δ1⟩ := pr
          rw [qf] at h
          dsimp only at h
          obtain ⟨ω2, X2, R2, h2⟩ := frz_ok R' iv qf
          cases q : mutsD δ1 (mutIdx 0 modes) with
          | none => rw [q] at h; exact h.elim
          | some ms => rw [q] at h; exact h v H' ω2 (X'.trans X2) R2.wf h2 (R2.muts hl q)
      | rg d' δ =>
        intro h v σ' H' ω' X' R' iv
        unfold fin at h
        dsimp only at h
        cases q : mutsD δ (mutIdx 0 modes) with
        | none => rw [q] at h; exact h.elim
        | some ms => rw [q] at h; exact h v H' ω' X' R'.wf iv (R'.muts hl q)
      | ex c' ns es δ =>
        intro h
        unfold fin at h
        dsimp only at h
        cases q : mutsD δ (mutIdx 0 modes) with
        | none => rw [q] at h; exact h.elim
        | some ms => rw [q] at h; exact h.elim
      | bk δ => exact fun h => h.elim
      | ct δ => exact fun h => h.elim
      | stuck => exact fun h => h.elim
    have back : ∀ {σ' : L2.St} {H' : Hp} {v : V} {u : Value} {s' : Shared}, Inv (cxE P w K mg base N qual scope f cdv A outer s H E (pa, oe)) [] σ' H' s' → RelV v u → Q v H' → CE outer P w H s Q u s' :=
      fun {σ' H' v u s'} J r q => ⟨v, H', J.os, J.bare, J.base, J.hok, r, q⟩
    refine wpAny_mono (body.run [] s1 _ H _ start ups) (fun fl s' got => ?_) fun e' s' z => z
    match fl, got with
    | .ret u, ⟨v, σ', H', J, r, q⟩ => exact back J r q
    | .next, ⟨σ', H', J, q⟩ => exact back (v := V.non) (u := Value.none) J rfl q
    | .brk, ⟨_, _, _, q⟩ => exact q.elim
    | .cont, ⟨_, _, _, q⟩ => exact q.elim
end
end DL

set_option Elab.async false
set_option linter.all false
set_option maxRecDepth 100000
namespace DL
open PySem PySem.Spec PyProof.Rows L2
/-! ### in a suite: a call, isinstance, a field -/
section
variable {X : Cx} {Γ : Gm} {x : Str} {p pos : Pos} {e : Expr} {es : List Expr} {ta : TDA} {k j : Nat} {modes : List Bool} {m : List D → FR} {cs : List Str}
theorem pe_callE {W : WX} {t : TA} (F : FnE X.prog X.w X.K X.mg X.base x j modes m cs) (hot : HotX X Γ cs) (room : L2H.RoomH j X.A) (tk : L2N.Takes X W) (ha : PA X (e :: es) t) (hg : Gl X x) (hdb : (x == ("__debug__" : Str)) = false)
    (he : starEach (e :: es) X.env = (false, eval e X.env) :: starEach es X.env) (hpl : (backTo pos (starEach es X.env)).any (·.1) = false) : PE X (.Call (.Name x p) (e :: es) [] pos) (fun σ H Q => t σ H fun vs H1 => spX X.K Γ.xi modes m vs H1 Q fun cls d H' => W cls d σ H') := by
  obtain ⟨f, fd, ps, hm, hk, hb, hml, run⟩ := F.ex
  obtain ⟨a, c, d, oe, hxi, hc, h1, hp, hz⟩ := hot.ex
  refine ⟨fun pins s σ H Q I h => ?_⟩
  refine wpAny_Call_Name_kw (ld_glob I hg hm (PySem.W.callWith_K (h₀ := X.base) I.ok.mod.kin hk (thn (ha.run pos pins s σ H _ I h) fun us s1 got => ?_) he hpl) hdb)
  obtain ⟨vs, H1, I1, r, q⟩ := got
  refine ⟨I1.kIn, ?_⟩
  have len : us.length = ps.length := by
    rw [← r.length, q.len, hml]
  have bnd := hb s1 us I1.kIn (by rw [List.append_nil]; exact len)
  rw [List.append_nil] at bnd
  have pn := I1.pin (a, oe) (List.mem_append_left _ hp)
  have pin : L2H.PinOk X.stack H1 s1 (a, oe) := ⟨pn.1, pn.2.1, fun z => (List.mem_cons.mp (I1.stkSub a z)).elim pn.2.2.1 pn.2.2.2.1, pn.2.2.2.2⟩
  rw [hxi] at q
  refine wpAny_call (codeAny_mono (run X.A X.stack s1 H1 ⟨us, []⟩ us vs Q (fun cls d H' => W cls d σ H') (a, oe) c d room h1 pin hc hz I1.env0 bnd r q) fun r s' got => ?_)
  match r, got with
  | .error er, got => exact L2N.passAt tk σ pins H1 s1 er s' I1 got
  | .ok (.ret u), got => exact I1.after got
  | .ok .next, got => exact False.elim got
  | .ok .brk, got => exact False.elim got
  | .ok .cont, got => exact False.elim got
theorem de_fnE (F : FnE X.prog X.w X.K X.mg X.base x j modes m cs) (hot : HotX X Γ cs) (room : L2H.RoomH k X.A) (ha : DA X Γ (e :: es) ta) (hj : j ≤ k := by decide) (hlen : modes.length ≤ 900 := by decide) (hg : Gl X x := by rfl) (hdb : (x == ("__debug__" : Str)) = false := by decide)
    (he : starEach (e :: es) X.env = (false, eval e X.env) :: starEach es X.env := by rfl) (hpl : (backTo pos (starEach es X.env)).any (·.1) = false := by rfl) : DE X Γ (.Call (.Name x p) (e :: es) [] pos) (eFn modes m ta) :=
  ⟨fun W tk => PE.imp (pe_callE F hot (room.mono hj) tk (ha.run W tk) hg hdb he hpl) fun σ H Q h => by
    obtain ⟨ω, δ, R, h⟩ := h
    refine up_bind (t := ta) R h fun vs H1 ω1 δ1 xs e1 R1 i1 h1 => ?_
    exact call_ok (τ := .fz) (rel := rlV X.K Γ) (f := Vl.fz) (g := Vl.fz) hlen (fun _ _ _ _ _ _ _ h => h) (fun _ _ _ _ _ F ht h => rel_fz F ht h) R1 i1 h1⟩
/-- a class's name as a value -/
theorem de_cls {c : Str} (hm : X.mg c = some (.ref (He.ga X.K c))) (hg : Gl X c := by rfl) (hd : (c == ("__debug__" : Str)) = false := by decide) : DE X Γ (.Name c pos) (eC (.cls c)) :=
  de_c (pe_glob (v := .ref (He.ga X.K c)) hg hm rfl hd) fun _ _ _ => rfl
/-- what the text says of the error classes cs: all stand below the class top alone -/
def subX (top : Str) (c c' : Str) : Bool := decide (c' = c) || decide (c' = top)
structure ExcT (K : Frag) (top : Str) (all cs : List Str) (fs : List Str) : Prop where
  ec : ∀ c ∈ cs, ExcC K (He.ga K c)
  xf : ∀ c ∈ cs, XfC K (He.ga K c)
  kit : ∀ c ∈ cs, ∀ c' ∈ all, PySem.W.kitOne K (.ref (He.ga K c)) (.ref (He.ga K c')) = some (subX top c c')
  ve : ∀ c ∈ cs, PySem.W.kitOne K (.ref (He.ga K c)) (.type "ValueError") = some true
  nof : ∀ c ∈ cs, ∀ f ∈ fs, PySem.W.findIn K (.ref (He.ga K c)) f = some none
/-- isinstance(e, C) of the handled exception -/
def isiX (top : Str) (all : List Str) : D → D → Option D
  | .exc c _ _, .cls c' => if all.contains c' then some (.bl (subX top c c')) else none
  | .exc _ _ _, .ty n => if n = "ValueError" then some (.bl true) else none
  | _, _ => none
def rIsX (K : Frag) (a : Addr) (c : Str) (d : Option Addr) : List V → Hp → VK → Prop := fun xs H Q => ∃ (y : V) (cv : Value) (b : Bool), xs = [.ref a, y] ∧ (∀ u, RelV y u → u = cv) ∧ (d = none ∨ ∃ e fs, d = some e ∧ H e = some (.xd fs)) ∧ PySem.W.kitOne K (.ref (He.ga K c)) cv = some b ∧ Q (.bl b) H
theorem call_isX {a : Addr} {c : Str} {d : Option Addr} {oe : Obj} (C : ExcC X.K (He.ga X.K c)) (h1 : L2H.Hot1 X.A (a, oe)) (hp : (a, oe) ∈ X.pn) (hz : Zc (.ref (He.ga X.K c)) d oe) : CallR X (.builtin "isinstance") (rIsX X.K a c d) := fun pins s σ H xs us Q I r h => by
  obtain ⟨y, cv, b, rfl, hy, hd, hk, q⟩ := h
  obtain ⟨u1, u2, rfl, r1, r2⟩ := vals2 r
  cases (show u1 = Value.ref a from r1)
  have e2 := hy _ r2
  subst e2
  obtain ⟨hat, _⟩ := I.pin (a, oe) (List.mem_append_left _ hp)
  obtain ⟨_, vs, hv, _⟩ := h1
  dsimp only at hat hv
  have hcl : (PySem.W.clsIn X.K (He.ga X.K c)).isSome = true := by
    have z := C.hd
    unfold PySem.W.hasDictIn at z
    cases q : PySem.W.clsIn X.K (He.ga X.K c) with
    | none => rw [q] at z; cases z
    | some _ => rfl
  have J : ∃ od, PySem.W.InstAt s.heap a oe (He.ga X.K c) od := by
    rcases hd with hd | ⟨e, fs, hd, he⟩
    · exact ⟨none, hat, hz.1, by unfold PySem.W.notCls; rw [hv] <;> rfl, by rw [hz.2, hd]; trivial⟩
    · have hx : ObjOk X.prog X.w H s.heap e (.xd fs) := I.hok e _ he
      obtain ⟨mA, hns, _⟩ := hx
      obtain ⟨od, ho, _⟩ := lookIn_ns hns
      exact ⟨some od, hat, hz.1, by unfold PySem.W.notCls; rw [hv] <;> rfl, by rw [hz.2, hd]; exact ho⟩
  obtain ⟨od, J⟩ := J
  exact PySem.W.kia_one (PySem.W.kitx_exc hcl C.hg C.hk C.hs C.ha C.hn C.ht C.hm) I.kIn J hk (fun z => nomatch z) fun tk => ⟨.bl b, H, I.kept (t' := tk) fun _ _ z => z, rfl, q⟩
theorem de_isX {top : Str} {all : List Str} {fs : List Str} {e2 : Expr} (T : ExcT X.K top all cs fs) (hot : HotX X Γ cs) (hm : X.mg "isinstance" = none) (ha : DA X Γ [e, e2] ta) (hg : Gl X "isinstance" := by rfl)
    (he : starEach [e, e2] X.env = (false, eval e X.env) :: starEach [e2] X.env := by rfl) (hpl : (backTo pos (starEach [e2] X.env)).any (·.1) = false := by rfl) : DE X Γ (.Call (.Name "isinstance" p) [e, e2] [] pos) (eCall (fn2 (isiX top all)) ta) := by
  obtain ⟨a, c, d, oe, hxi, hc, h1, hp, hz⟩ := hot.ex
  refine de_callB (call_isX (T.ec c hc) h1 hp hz) (fun W ω H σ δ xs vs Q R i h => ?_) hm (by decide +kernel) ha hg (by decide) (by decide) he hpl
  obtain ⟨v, w, d1, d2, r, rfl, rb, rc, eq, h⟩ := fn2_ok R i h
  unfold isiX at eq
  split at eq
  · rename_i c1 ns ds c2
    have iv := rb.is fun _ => D.noConfusion
    have iw : w = .ref (He.ga X.K c2) := rc.is fun _ => D.noConfusion
    subst iw
    obtain ⟨a1, rfl, z⟩ := iv
    obtain ⟨rfl, rfl, zd⟩ := z a c d hxi
    split at eq
    · rename_i hm2
      cases eq
      refine ⟨_, _, _, rfl, fun u hu => hu, ?_, T.kit c hc c2 (List.contains_iff_mem.mp hm2), okR.now (x := Vl.fz _) h R rfl⟩
      rcases zd with ⟨_, _, zd⟩ | ⟨e3, ws, zd, _, ze, _⟩
      · exact .inl zd
      · exact .inr ⟨e3, _, zd, ze⟩
    · cases eq
  · rename_i c1 ns ds n
    have iv := rb.is fun _ => D.noConfusion
    have iw : w = .ty n := rc.is fun _ => D.noConfusion
    subst iw
    obtain ⟨a1, rfl, z⟩ := iv
    obtain ⟨rfl, rfl, zd⟩ := z a c d hxi
    split at eq
    · rename_i hn
      subst hn
      cases eq
      refine ⟨_, _, _, rfl, fun u hu => hu, ?_, T.ve c hc, okR.now (x := Vl.fz _) h R rfl⟩
      rcases zd with ⟨_, _, zd⟩ | ⟨e3, ws, zd, _, ze, _⟩
      · exact .inl zd
      · exact .inr ⟨e3, _, zd, ze⟩
    · cases eq
  · cases eq
/-- e.f of the handled exception -/
def atX (f : Str) : D → Option D
  | .exc _ ns ds => if ns.length = ds.length then (ns.zip ds).lookup f else none
  | _ => none
def eAtX (f : Str) (t : TD) : TD := fun δ => (t δ).bind fun x δ1 => match dr δ1 x with
  | some d => (match atX f d with
    | some r => .ok (.fz r) δ1
    | none => .stuck)
  | none => .stuck
theorem IsL.lookup {K : Frag} {ω : Om} {H : Hp} {xi : Xi} {f : Str} : ∀ {ns : List Str} {ds : List D} {vs : List V} {d : D}, IsL K ω H xi ds vs → (ns.zip ds).lookup f = some d → ∃ v, (ns.zip vs).lookup f = some v ∧ Is K ω H xi d v
  | [], _, _, _, _, e => by simp at e
  | n :: ns, [], _, _, _, e => by simp at e
  | n :: ns, d :: ds, _, d', l, e => by
    obtain ⟨v, r, rfl, h1, h2⟩ := l
    rw [List.zip_cons_cons, List.lookup_cons] at e ⊢
    cases q : f == n with
    | true =>
      rw [q] at e
      cases e
      exact ⟨v, rfl, h1⟩
    | false =>
      rw [q] at e
      exact IsL.lookup h2 e
theorem de_atX {top f : Str} {all : List Str} {fs : List Str} {tx : TD} (T : ExcT X.K top all cs fs) (hot : HotX X Γ cs) (he : DE X Γ e tx) (hf : f ∈ fs := by decide) (hb : attributeBase e f X.env (eval e X.env) = eval e X.env := by rfl) : DE X Γ (.Attribute e f pos) (eAtX f tx) := by
  obtain ⟨a, c, d, oe, hxi, hc, h1, hp, hz⟩ := hot.ex
  have XF := T.xf c hc
  refine ⟨fun W tk => ⟨fun pins s σ H Q I h => attr_of hb ?_⟩⟩
  have rd : upE X.K Γ W tx σ H fun v H1 => ∃ (dd : Addr) (fv : List (Str × V)) (u : V), v = .ref a ∧ d = some dd ∧ H1 dd = some (.xd fv) ∧ fv.lookup f = some u ∧ Q u H1 := by
    obtain ⟨ω, δ, R, h⟩ := h
    refine up_bind (t := tx) R h fun v H1 ω1 δ1 x e1 R1 i1 h1 => ?_
    cases q : dr δ1 x with
    | none => rw [q] at h1; exact h1.elim
    | some dv =>
      rw [q] at h1
      cases q2 : atX f dv with
      | none => simp only [q2] at h1; exact h1.elim
      | some r =>
        simp only [q2] at h1
        cases dv with
        | exc c1 ns ds =>
          have iv := (dr_ok R1 i1 q).is fun _ => D.noConfusion
          obtain ⟨a1, rfl, z⟩ := iv
          obtain ⟨rfl, rfl, zd⟩ := z a c d hxi
          unfold atX at q2
          dsimp only at q2
          split at q2
          · rcases zd with ⟨zn, zds, _⟩ | ⟨e3, ws, zd, _, ze, _, zl⟩
            · rw [zn] at q2; simp at q2
            · obtain ⟨u, u1, u2⟩ := zl.lookup q2
              exact ⟨e3, _, u, rfl, zd, ze, u1, okR.now (x := Vl.fz r) h1 R1 u2⟩
          · cases q2
        | _ => cases q2
  refine thn ((he.run W tk).run pins s σ H _ I rd) fun uv s1 got => ?_
  obtain ⟨x, H1, I1, rx, dd, fv, v, rfl, ed, ea, l, q⟩ := got
  cases (show uv = Value.ref a from rx)
  obtain ⟨hat, _⟩ := I1.pin (a, oe) (List.mem_append_left _ hp)
  obtain ⟨_, vs, hv, _⟩ := h1
  dsimp only at hat hv
  have hx : ObjOk X.prog X.w H1 s1.heap dd (.xd fv) := I1.hok dd _ ea
  obtain ⟨mA, hns, hr⟩ := hx
  obtain ⟨od, ho, hl⟩ := lookIn_ns hns
  obtain ⟨u, hu, ru⟩ := RelO.some_of (v := v) (o := mA f) (by rw [← l]; exact hr f)
  have J : PySem.W.InstAt s1.heap a oe (He.ga X.K c) (some od) := ⟨hat, hz.1, by unfold PySem.W.notCls; rw [hv] <;> rfl, by rw [hz.2, ed]; exact ho⟩
  exact HandSPX.exc_get I1.kIn J XF.ga XF.gg XF.exC (PySem.W.findObj_own XF.hdC (T.nof c hc f hf) rfl (by rw [hl, hu])) (handed_of ru) ⟨v, H1, I1.tok _, ru, q⟩
end
end DL

set_option Elab.async false
set_option linter.all false
set_option maxRecDepth 100000
namespace DL
open PySem PySem.Spec PyProof.Rows L2
/-! ### what the printer leans on besides -/
theorem hu_hot {k : Nat} {A : Around} (r : L2H.RoomH k A) : A.units + 64 < cLine := by
  have := r.un
  omega
section
variable {X : Cx} {Γ : Gm} {a b c e : Expr} {ta tb tc te : TD} {pos : Pos}
/-! constants of the module -/
theorem de_gint {x : Str} {i : Int} (hm : ∃ t, X.mg x = some (.int i t)) (hg : Gl X x := by rfl) (hd : (x == ("__debug__" : Str)) = false := by decide) : DE X Γ (.Name x pos) (eC (.int i)) := by
  obtain ⟨t, hm⟩ := hm
  exact de_c (pe_glob (v := V.int i) hg hm ⟨t, rfl⟩ hd) fun _ _ _ => rfl
/-- a name of the module that stands for a tuple of flat data -/
def GTup (K : Frag) (mg : Str → Option Value) (x : Str) (d : D) : Prop := ∃ p, mg x = some (.ref p) ∧ ∀ ω H xi, Is K ω H xi d (.ref p)
theorem de_gtup {x : Str} {d : D} (h : GTup X.K X.mg x d) (hg : Gl X x := by rfl) (hd : (x == ("__debug__" : Str)) = false := by decide) : DE X Γ (.Name x pos) (eC d) := by
  obtain ⟨p, hm, hi⟩ := h
  exact de_c (pe_glob (v := V.ref p) hg hm rfl hd) hi
/-! is None -/
def isNon : D → Bool
  | .non => true
  | _ => false
def opIs (neg : Bool) (x y : Vl) (δ : DSt) : R Vl := match dr δ x, dr δ y with
  | some d, some .non => .ok (.fz (.bl (if neg then !isNon d else isNon d))) δ
  | _, _ => .stuck
theorem is_non {K : Frag} {ω : Om} {H : Hp} {xi : Xi} {d : D} {v : V} (h : Rb K ω H xi d v) : decide (v = .non) = isNon d := by
  cases d with
  | non => rw [h.non]; rfl
  | bl i => rw [h.bl]; rfl
  | int i => rw [h.int]; rfl
  | str i => rw [h.str]; rfl
  | lst ds => obtain ⟨a, vs, rfl, _⟩ := h.lst; rfl
  | tup ds => obtain ⟨a, vs, rfl, _⟩ := h.tup; rfl
  | scr ds => obtain ⟨a, rfl, _⟩ := h.scr; rfl
  | ty n => rw [show v = .ty n from h.is fun _ => D.noConfusion]; rfl
  | adr n => rw [show v = .ref n from h.is fun _ => D.noConfusion]; rfl
  | cls n => rw [show v = .ref (He.ga K n) from h.is fun _ => D.noConfusion]; rfl
  | ins c ns ds =>
    have z := h.is fun _ => D.noConfusion
    obtain ⟨a, dx, vs, rfl, _⟩ := z
    rfl
  | exc c ns ds =>
    have z := h.is fun _ => D.noConfusion
    obtain ⟨a, rfl, _⟩ := z
    rfl
  | brw ds =>
    have z := h.is fun _ => D.noConfusion
    obtain ⟨a, vs, rfl, _⟩ := z
    rfl
theorem opIs_ok {K : Frag} {W : WX} {ω : Om} {H : Hp} {σ : L2.St} {δ : DSt} {neg : Bool} {x y : Vl} {v w : V} {Q : VK} (R : Rel K Γ ω H σ δ) (i1 : IsV K Γ ω H σ x v) (i2 : IsV K Γ ω H σ y w) (h : okV K Γ W ω H σ (opIs neg x y δ) Q) :
    w = .non ∧ Q (.bl (if neg then !decide (v = .non) else decide (v = .non))) H := by
  unfold opIs at h
  split at h
  · rename_i d e1 e2
    refine ⟨(dr_ok R i2 e2).non, ?_⟩
    rw [is_non (dr_ok R i1 e1)]
    exact okR.now (x := Vl.fz _) h R rfl
  · exact h.elim
theorem op2_is {K : Frag} : Op2 K Γ (fun x y H Q => y = .non ∧ Q (.bl (decide (x = .non))) H) (opIs false) := fun W ω H σ δ x y v w Q R i1 i2 h => opIs_ok R i1 i2 h
theorem op2_isnt {K : Frag} : Op2 K Γ (fun x y H Q => y = .non ∧ Q (.bl (!decide (x = .non))) H) (opIs true) := fun W ω H σ δ x y v w Q R i1 i2 h => opIs_ok R i1 i2 h
/-! a op b op c -/
def eChain (f g : Vl → Vl → DSt → R Vl) (ta tb tc : TD) : TD := fun δ => (ta δ).bind fun x δ1 => (tb δ1).bind fun y δ2 => match f x y δ2 with
  | .ok z δ3 => (match z with
    | .fz (.bl true) => (tc δ3).bind fun u δ4 => g y u δ4
    | .fz (.bl false) => .ok (.fz (.bl false)) δ3
    | _ => .stuck)
  | .exc c ns ds δ3 => .exc c ns ds δ3
  | .stuck => .stuck
theorem up_chain {K : Frag} {W : WX} {r r' : R2} {f g : Vl → Vl → DSt → R Vl} (h1 : Op2 K Γ r f) (h2 : Op2 K Γ r' g) {σ : L2.St} {H : Hp} {Q : VK} (h : upE K Γ W (eChain f g ta tb tc) σ H Q) : tChain r r' (upE K Γ W ta) (upE K Γ W tb) (upE K Γ W tc) σ H Q := by
  obtain ⟨ω, δ, R, h⟩ := h
  refine up_bind (t := ta) R h fun v H1 ω1 δ1 x e1 R1 i1 hh => ?_
  refine up_bind (t := tb) R1 hh fun w H2 ω2 δ2 y e2 R2 i2 hh => ?_
  refine h1 W ω2 H2 σ δ2 x y v w _ R2 (IsV.mono e2.f i1) i2 ?_
  revert hh
  cases q : f x y δ2 with
  | exc c ns ds δ3 => exact fun hh => hh
  | stuck => exact fun hh => hh
  | ok z δ3 =>
    intro hh k H3 ω3 e3 R3 i3
    match z, hh, i3 with
    | .fz (.bl true), hh, i3 =>
      refine ⟨true, i3, iteT ?_⟩
      refine up_bind (t := tc) R3 (okR.ext e3 hh) fun u H4 ω4 δ4 z4 e4 R4 i4 hh => ?_
      exact h2 W ω4 H4 σ δ4 y z4 w u Q R4 (IsV.mono (e3.trans e4).f i2) i4 hh
    | .fz (.bl false), hh, i3 => exact ⟨false, i3, iteF (okR.at (x := Vl.fz (.bl false)) hh e3 R3 rfl)⟩
    | .fz .non, hh, _ => exact (show False from hh).elim
    | .fz (.int _), hh, _ => exact (show False from hh).elim
    | .fz (.str _), hh, _ => exact (show False from hh).elim
    | .fz (.ty _), hh, _ => exact (show False from hh).elim
    | .fz (.adr _), hh, _ => exact (show False from hh).elim
    | .fz (.cls _), hh, _ => exact (show False from hh).elim
    | .fz (.lst _), hh, _ => exact (show False from hh).elim
    | .fz (.tup _), hh, _ => exact (show False from hh).elim
    | .fz (.scr _), hh, _ => exact (show False from hh).elim
    | .fz (.ins ..), hh, _ => exact (show False from hh).elim
    | .fz (.exc ..), hh, _ => exact (show False from hh).elim
    | .sl _, hh, _ => exact (show False from hh).elim
theorem de_chain {op op' : CmpOp} {r r' : R2} {f g : Vl → Vl → DSt → R Vl} (hr : OpR X (compareOp op) r) (hr' : OpR X (compareOp op') r') (ho : Op2 X.K Γ r f) (ho' : Op2 X.K Γ r' g) (ha : DE X Γ a ta) (hb : DE X Γ b tb) (hc : DE X Γ c tc)
    (hm : lastMarks [op, op'] [b, c] = false := by with_unfolding_all rfl) : DE X Γ (.Compare a [op, op'] [b, c] pos) (eChain f g ta tb tc) :=
  ⟨fun W tk => PE.imp (pe_chain hr hr' (ha.run W tk) (hb.run W tk) (hc.run W tk) hm) fun _ _ _ => up_chain ho ho'⟩
theorem dt_chain {op op' : CmpOp} {r r' : R2} {f g : Vl → Vl → DSt → R Vl} (hr : OpR X (compareOp op) r) (hr' : OpR X (compareOp op') r') (ho : Op2 X.K Γ r f) (ho' : Op2 X.K Γ r' g) (ha : DE X Γ a ta) (hb : DE X Γ b tb) (hc : DE X Γ c tc)
    (hm : lastMarks [op, op'] [b, c] = false := by with_unfolding_all rfl) : DT X Γ (.Compare a [op, op'] [b, c] pos) (eT (eChain f g ta tb tc)) :=
  ⟨fun W tk => PT.imp (pt_chain hr hr' (ha.run W tk) (hb.run W tk) (hc.run W tk) hm) fun σ H Q h => up_chain ho ho' (up_T h)⟩
/-! new lists: reversed, joined, repeated, a slice -/
variable {τ : Tg}
def gRev (t : TD) : TDG := fun δ => (t δ).bind fun x δ1 => match dr δ1 x with
  | some (.lst ds) => .ok (.lst ds.reverse) δ1
  | _ => .stuck
theorem IsL.rev {K : Frag} {ω : Om} {H : Hp} {xi : Xi} {ds : List D} {vs : List V} (h : IsL K ω H xi ds vs) : IsL K ω H xi ds.reverse vs.reverse := IsL.reverse h
theorem dg_rev {k : Nat} {p1 p2 p3 : Pos} (hτ : τ ≠ .out) (he : DE X Γ e te) : DG X Γ τ (.Subscript e (.Slice none none (some (.UnaryOp .USub (.Constant (.int 1) k p1) p2)) p3) pos) (gRev te) :=
  ⟨fun W tk => PE.imp (pe_revL (he.run W tk)) fun σ H Q h => by
    obtain ⟨ω, δ, R, h⟩ := h
    refine up_bind (t := te) R h fun v H1 ω1 δ1 x e1 R1 i1 hh => ?_
    split at hh
    · rename_i ds q
      obtain ⟨p, vs, rfl, n, l⟩ := (dr_ok R1 i1 q).lst
      exact ⟨p, vs, rfl, n, new_lst hτ R1 l.rev hh⟩
    · exact hh.elim⟩
def gCat (ta tb : TD) : TDG := fun δ => (ta δ).bind fun x δ1 => (tb δ1).bind fun y δ2 => match dr δ2 x, dr δ2 y with
  | some (.lst xs), some (.lst ys) => if xs.length + ys.length ≤ sizeLine then .ok (.lst (xs ++ ys)) δ2 else .stuck
  | _, _ => .stuck
theorem dg_cat (hτ : τ ≠ .out) (ha : DE X Γ a ta) (hb : DE X Γ b tb) : DG X Γ τ (.BinOp a .Add b pos) (gCat ta tb) :=
  ⟨fun W tk => PE.imp (pe_op op_cat (ha.run W tk) (hb.run W tk)) fun σ H Q h => by
    obtain ⟨ω, δ, R, h⟩ := h
    refine up_bind (t := ta) R h fun v H1 ω1 δ1 x e1 R1 i1 hh => ?_
    refine up_bind (t := tb) R1 hh fun w H2 ω2 δ2 y e2 R2 i2 hh => ?_
    have i1 := IsV.mono e2.f i1
    split at hh
    · rename_i xs ys q1 q2
      split at hh
      · rename_i hz
        obtain ⟨p, vs, rfl, n1, l1⟩ := (dr_ok R2 i1 q1).lstH
        obtain ⟨p2, ws, rfl, n2, l2⟩ := (dr_ok R2 i2 q2).lstH
        exact ⟨p, p2, vs, ws, rfl, rfl, n1, n2, by rw [l1.length, l2.length]; exact hz, new_lst hτ R2 (l1.append l2) hh⟩
      · exact hh.elim
    · exact hh.elim⟩
def gRep (ta tb : TD) : TDG := fun δ => (ta δ).bind fun x δ1 => (tb δ1).bind fun y δ2 => match dr δ2 x, dr δ2 y with
  | some (.lst xs), some (.int k) => if k.natAbs < 2 ^ 62 ∧ xs.length * k.toNat ≤ sizeLine then .ok (.lst (List.replicate k.toNat xs).flatten) δ2 else .stuck
  | _, _ => .stuck
theorem IsL.rep {K : Frag} {ω : Om} {H : Hp} {xi : Xi} {ds : List D} {vs : List V} (h : IsL K ω H xi ds vs) : ∀ n, IsL K ω H xi (List.replicate n ds).flatten (List.replicate n vs).flatten
  | 0 => rfl
  | n + 1 => by
    rw [List.replicate_succ, List.replicate_succ, List.flatten_cons, List.flatten_cons]
    exact h.append (IsL.rep h n)
theorem dg_rep (hτ : τ ≠ .out) (ha : DE X Γ a ta) (hb : DE X Γ b tb) : DG X Γ τ (.BinOp a .Mult b pos) (gRep ta tb) :=
  ⟨fun W tk => PE.imp (pe_op op_rep (ha.run W tk) (hb.run W tk)) fun σ H Q h => by
    obtain ⟨ω, δ, R, h⟩ := h
    refine up_bind (t := ta) R h fun v H1 ω1 δ1 x e1 R1 i1 hh => ?_
    refine up_bind (t := tb) R1 hh fun w H2 ω2 δ2 y e2 R2 i2 hh => ?_
    have i1 := IsV.mono e2.f i1
    split at hh
    · rename_i xs k q1 q2
      split at hh
      · rename_i hz
        obtain ⟨p, vs, rfl, n1, l1⟩ := (dr_ok R2 i1 q1).lstH
        have hk := (dr_ok R2 i2 q2).int
        refine ⟨p, k, vs, rfl, hk, n1, ?_, ?_, by rw [l1.length]; exact hz.2, new_lst hτ R2 (l1.rep k.toNat) hh⟩
        · have := hz.1
          have h62 : (2 : Int) ^ 63 = 2 * ((2 ^ 62 : Nat) : Int) := by decide
          omega
        · have := hz.1
          have h62 : (2 : Int) ^ 63 = 2 * ((2 ^ 62 : Nat) : Int) := by decide
          omega
      · exact hh.elim
    · exact hh.elim⟩
def gSl (t : TD) (l h : TDO) : TDG := fun δ => (t δ).bind fun x δ1 => (l δ1).bind fun a δ2 => (h δ2).bind fun b δ3 => match dr δ3 x with
  | some (.lst xs) => .ok (.lst (cutD xs a b)) δ3
  | _ => .stuck
theorem dg_slice {lo hi : Option Expr} {tl th : TDO} {p2 : Pos} (hτ : τ ≠ .out) (he : DE X Γ e te) (hl : DO X Γ lo tl) (hh : DO X Γ hi th) : DG X Γ τ (.Subscript e (.Slice lo hi none p2) pos) (gSl te tl th) :=
  ⟨fun W tk => PE.imp (pe_slice (r := rSlL X.K) sl_list (he.run W tk) (hl.run W tk) (hh.run W tk)) fun σ H Q h => by
    obtain ⟨ω, δ, R, h⟩ := h
    refine up_bind (t := te) R h fun v H1 ω1 δ1 x e1 R1 i1 h1 => ?_
    refine up_bind (t := tl) R1 h1 fun l H2 ω2 δ2 a e2 R2 i2 h2 => ?_
    refine up_bind (t := th) R2 h2 fun u H3 ω3 δ3 b e3 R3 i3 h3 => ?_
    cases i2
    cases i3
    have i1 := IsV.mono (e2.trans e3).f i1
    split at h3
    · rename_i ds q
      obtain ⟨p, vs, rfl, n, ll⟩ := (dr_ok R3 i1 q).lst
      exact ⟨p, vs, rfl, n, new_lst hτ R3 (ll.cut l u) h3⟩
    · exact h3.elim⟩
/-! return of an own list of a slot that is no parameter -/
def ownO (ω : Om) (i j : Nat) : Om := fun b => if ω b = .own i then .own j else ω b
def sRetO (idx : List Nat) (t : TD) : TDS := fun δ => (t δ).fl fun x δ1 => match x with
  | .sl i => (match δ1[i]? with
    | some (some (1, d)) => if idx.contains i then .stuck else .rg d (δ1.set i none)
    | _ => .stuck)
  | .fz _ => .stuck
theorem ds_retO {idx : List Nat} (he : DE X Γ e te) : DS X Γ (.Return (some e) pos) (sRetO idx te) := ⟨fun W tk => PS.imp (ps_ret (he.run W tk)) fun D σ H h => by
  obtain ⟨ω, δ, R, h⟩ := h
  refine up_fl (t := te) R h fun v H1 ω1 δ1 x e1 R1 i1 h1 => ?_
  cases x with
  | fz d => exact h1.elim
  | sl i =>
    dsimp only at h1
    split at h1
    · rename_i d q
      split at h1
      · exact h1.elim
      · obtain ⟨a, vs, ds, s1, s2, s3, s4, l⟩ := R1.own q
        rw [show σ[i]? = some (some v) from i1] at s1
        cases s1
        have fz : Fz ω1 H1 (ownO ω1 i tagR) H1 := fun b hb => ⟨by unfold ownO; rw [if_neg (by rcases hb with hb | hb <;> (rw [hb]; intro z; cases z))], rfl⟩
        have X1 : Ext ω1 H1 (ownO ω1 i tagR) H1 := ⟨fz, fun b o hb hb' => ⟨by unfold ownO; rw [if_neg (by rw [hb']; intro z; cases z)]; exact hb', hb⟩⟩
        refine h1 (.ref a) σ H1 (ownO ω1 i tagR) X1 ⟨fun b hb => R1.wf b fun z => hb (by unfold ownO; rw [if_neg (by rw [z]; intro z; cases z)]; exact z), by rw [List.length_set]; exact R1.len, fun j e' hj => ?_, R1.pin⟩ ⟨a, vs, ds, rfl, s2, by unfold ownO; rw [if_pos s3], s4, l.mono fz⟩
        by_cases z : i = j
        · subst z
          rw [List.getElem?_set_self (List.getElem?_eq_some_iff.mp q).1] at hj
          cases hj
          trivial
        · rw [List.getElem?_set_ne z] at hj
          refine (R1.sl j e' hj).mono fz fun b hb => ⟨?_, rfl⟩
          unfold ownO
          rw [if_neg (by rw [hb]; intro y; cases y; exact z rfl)]
          exact hb
    · exact h1.elim⟩
/-! both at once -/
def sPar2 (i j : Nat) (ta tb : TD) : TDS := fun δ => (aCons ta (aCons tb aNil) δ).fl fun xs δ1 => match frzs δ1 xs with
      | some ([d, e], δ2) => .nx ((δ2.set i (some (0, d))).set j (some (0, e)))
      | _ => .stuck
/-! in place -/
def opMulS := op2I fun i j => if decide (i.natAbs < 2 ^ 64) || decide (j.natAbs < 2 ^ 64) then some (.int (i * j)) else none
theorem op2_mulS {K : Frag} : Op2 K Γ (rI CMul fun i j => .int (i * j)) opMulS := op2_Ic (fun _ _ _ _ _ _ => rfl) fun i j h => by
  have h64 : (2 : Int) ^ 64 = ((2 ^ 64 : Nat) : Int) := by decide
  rcases Bool.or_eq_true_iff.mp h with z | z
  · exact .inl (by have := of_decide_eq_true z; omega)
  · exact .inr (by have := of_decide_eq_true z; omega)
/-! the truth of a value -/
def truD : D → Option Bool
  | .non => some false
  | .bl b => some b
  | .int i => some (decide (i ≠ 0))
  | .lst ds => some (!ds.isEmpty)
  | _ => none
def eTru (t : TD) : TDT := fun δ => (t δ).bind fun x δ1 => match dr δ1 x with
  | some d => (match truD d with
    | some b => .ok b δ1
    | none => .stuck)
  | none => .stuck
/-- the turns a loop may take: from slot i's int -/
def fuelN (i : Nat) : DSt → Nat := fun δ => match δ[i]? with
  | some (some (_, .int n)) => n.toNat + 1
  | _ => 0
end
end DL

set_option Elab.async false
set_option linter.all false
set_option maxRecDepth 100000
namespace DL
open PySem PySem.Spec PyProof.Rows L2
/-! ### the head's facts beyond He's: own errors, tuples of the module -/
theorem an {a b : Bool} (h : (a && b) = true) : a = true ∧ b = true := Bool.and_eq_true_iff.mp h
def shB (K : Frag) (C : Addr) : Bool := match K.lookup C with
  | some ⟨.type z, _, .cls q, ⟨l⟩⟩ => decide (z = "type") && (match q.mro, l with
    | .ref C1 :: tl, [_, _, _, _, some (.builtin y), _] => decide (C1 = C) && (decide (y = "ValueError.__new__") && ((!q.hasDel) && (q.hasDict && PySem.HandSPX.refsVE tl)))
    | _, _ => false)
  | _ => false
theorem shB_ok {K : Frag} {C : Addr} (h : shB K C = true) : ∃ nm q N bs bm sn sub ab col dd k0 k1 k2 k3 k5, K.lookup C = some (excClassObj nm q C N bs bm true sn sub ab col dd k0 k1 k2 k3 k5 "ValueError.__new__") ∧ PySem.HandSPX.refsVE bm = true := by
  unfold shB at h
  split at h
  · rename_i z dd q l lk
    obtain ⟨hz, h⟩ := an h
    cases of_decide_eq_true hz
    split at h
    · rename_i C1 tl k0 k1 k2 k3 y k5 hm _hh
      obtain ⟨_, h⟩ := an h
      obtain ⟨h1, h⟩ := an h
      obtain ⟨h2, h⟩ := an h
      obtain ⟨h3, h⟩ := an h
      obtain ⟨h4, h5⟩ := an h
      cases of_decide_eq_true h1
      cases of_decide_eq_true h2
      obtain ⟨nm, bs, mro, ns, qn, hd, sn, sub, ab, col, del⟩ := q
      dsimp only at hm h3 h4
      subst hm h4
      have hdel : del = false := by cases del <;> simp_all
      subst hdel
      exact ⟨nm, qn, ns, bs, tl, sn, sub, ab, col, dd, k0, k1, k2, k3, k5, lk, h5⟩
    · cases h
  · cases h
def fdB (K : Frag) (v : Value) (x : Str) (r : Option Value) : Bool := decide (PySem.W.findIn K v x = some r)
theorem fdB_ok {K : Frag} {v : Value} {x : Str} {r : Option Value} (h : fdB K v x r = true) : PySem.W.findIn K v x = some r := of_decide_eq_true h
def oxB (K : Frag) (C : Addr) : Bool := shB K C && (fdB K (.ref C) "__setattr__" (some (.builtin "object.__setattr__")) && (decide (PySem.W.subIn K (.ref C) (.type "BaseException") = some true) && (decide (PySem.W.typeIn K (.ref C) = some (.type "type")) && PySem.W.keepIn K (.ref C))))
theorem oxB_ok {K : Frag} {C : Addr} (h : oxB K C = true) : OexC K C := by
  obtain ⟨h1, h⟩ := an h
  obtain ⟨h2, h⟩ := an h
  obtain ⟨h3, h⟩ := an h
  obtain ⟨h4, h5⟩ := an h
  exact ⟨shB_ok h1, fdB_ok h2, of_decide_eq_true h3, of_decide_eq_true h4, h5⟩
/-- the raised class c, its __init__ storing fs -/
def rxB (K : Frag) (p : Str × List Str) : Bool := oxB K (He.ga K p.1) && (fdB K (.ref (He.ga K p.1)) "__init__" (some (.ref (He.ma K (He.ga K p.1) "__init__"))) && (decide (PySem.W.typeIn K (.ref (He.ma K (He.ga K p.1) "__init__")) = some (.type "function")) && p.2.all fun f => fdB K (.ref (He.ga K p.1)) f none))
theorem rx_ok {P : Program} {w : World} {K : Frag} {mg : Str → Option Value} {base : Heap} {c : Str} {fs ps : List Str} {fd : FuncData} (h : rxB K (c, fs) = true) (hm : mg c = some (.ref (He.ga K c))) (hB : Binds K fd ps []) (hF : FnOk P w K mg base (L2N.CX P w) 1 (He.ma K (He.ga K c) "__init__") fd ps (spI K fs)) : ExcF P w K mg base c fs := by
  obtain ⟨h1, h⟩ := an h
  obtain ⟨h2, h⟩ := an h
  obtain ⟨h3, h4⟩ := an h
  exact ⟨hm, oxB_ok h1, ⟨_, fd, ps, fdB_ok h2, of_decide_eq_true h3, hB, hF⟩, fun f hf => fdB_ok (List.all_eq_true.mp h4 f hf)⟩
/-- an __init__ of one, of two fields -/
theorem rx1 {P : Program} {w : World} {K : Frag} {mg : Str → Option Value} {base : Heap} {c f q : Str} {args : Arguments} {body : List Stmt} {scope : Scope} (h : rxB K (c, [f]) = true) (hm : mg c = some (.ref (He.ga K c)))
    (hF : ∃ fd, FunD K "__init__" q args body scope [] [] (He.fAd K (c, some "__init__")) fd) (S : FnScope ["self", f] ["self", f] scope) {p1 p2 p3 p4 : Pos} (hb : body = [.Assign [.Attribute (.Name "self" p1) f p2] (.Name f p3) p4])
    (hbd : ∀ (kV doc pm : Value) (an : Option Addr) (cdv ct : Value) (us : List Value), us.length = 2 → bindArgs (PySem.W.fnOf "__init__" q args body scope .none kV doc pm an cdv ct) ⟨us, []⟩ = pure ((["self", f] : List Str).zip us))
    (h1 : (f == ("__debug__" : Str)) = false := by decide) (h2 : (f == ("__classdict__" : Str)) = false := by decide) : ExcF P w K mg base c [f] := by
  obtain ⟨fd, F⟩ := hF
  exact rx_ok h hm (F.bindsN (ps := ["self", f]) hbd) (init1 F S hb h1 h2)
theorem rx2 {P : Program} {w : World} {K : Frag} {mg : Str → Option Value} {base : Heap} {c f g q : Str} {args : Arguments} {body : List Stmt} {scope : Scope} (h : rxB K (c, [f, g]) = true) (hm : mg c = some (.ref (He.ga K c)))
    (hF : ∃ fd, FunD K "__init__" q args body scope [] [] (He.fAd K (c, some "__init__")) fd) (S : FnScope ["self", f, g] ["self", f, g] scope) {p1 p2 p3 p4 q1 q2 q3 q4 : Pos} (hb : body = [.Assign [.Attribute (.Name "self" p1) f p2] (.Name f p3) p4, .Assign [.Attribute (.Name "self" q1) g q2] (.Name g q3) q4])
    (hbd : ∀ (kV doc pm : Value) (an : Option Addr) (cdv ct : Value) (us : List Value), us.length = 3 → bindArgs (PySem.W.fnOf "__init__" q args body scope .none kV doc pm an cdv ct) ⟨us, []⟩ = pure ((["self", f, g] : List Str).zip us))
    (h1 : (f == ("__debug__" : Str)) = false := by decide) (h2 : (f == ("__classdict__" : Str)) = false := by decide) (h3 : (g == ("__debug__" : Str)) = false := by decide) (h4 : (g == ("__classdict__" : Str)) = false := by decide) : ExcF P w K mg base c [f, g] := by
  obtain ⟨fd, F⟩ := hF
  exact rx_ok h hm (F.bindsN (ps := ["self", f, g]) hbd) (init2 F S hb h1 h2 h3 h4)
def ecB (K : Frag) (C : Addr) : Bool := L2.xfB K C && (fdB K (.ref C) "__class__" (some (.builtin "object.__class__")) && (decide (PySem.W.specialIn K (.builtin "object.__class__") "__get__" = some (some (.builtin "getset_descriptor.__get__"))) && (decide (PySem.W.takesIn K (.builtin "object.__class__") = some true) && decide (PySem.W.mroIn K C (.type "object") = some true))))
def etB (K : Frag) (top : Str) (all cs fs : List Str) : Bool := cs.all fun c => ecB K (He.ga K c) && ((all.all fun c' => decide (PySem.W.kitOne K (.ref (He.ga K c)) (.ref (He.ga K c')) = some (subX top c c'))) && (decide (PySem.W.kitOne K (.ref (He.ga K c)) (.type "ValueError") = some true) && fs.all fun f => fdB K (.ref (He.ga K c)) f none))
theorem et_ok {K : Frag} {top : Str} {all cs fs : List Str} (h : etB K top all cs fs = true) : ExcT K top all cs fs := by
  have key : ∀ c ∈ cs, ExcC K (He.ga K c) ∧ XfC K (He.ga K c) ∧ (∀ c' ∈ all, PySem.W.kitOne K (.ref (He.ga K c)) (.ref (He.ga K c')) = some (subX top c c')) ∧ PySem.W.kitOne K (.ref (He.ga K c)) (.type "ValueError") = some true ∧ ∀ f ∈ fs, PySem.W.findIn K (.ref (He.ga K c)) f = some none := fun c hc => by
    obtain ⟨h1, h⟩ := an (List.all_eq_true.mp h c hc)
    obtain ⟨h2, h⟩ := an h
    obtain ⟨h3, h4⟩ := an h
    obtain ⟨e1, h1⟩ := an h1
    obtain ⟨e2, h1⟩ := an h1
    obtain ⟨e3, h1⟩ := an h1
    obtain ⟨e4, e5⟩ := an h1
    have X := L2.xfB_ok e1
    exact ⟨⟨X.ga, X.gg, X.exC, X.hdC, fdB_ok e2, of_decide_eq_true e3, of_decide_eq_true e4, of_decide_eq_true e5⟩, X, fun c' hc' => of_decide_eq_true (List.all_eq_true.mp h2 c' hc'), of_decide_eq_true h3, fun f hf => fdB_ok (List.all_eq_true.mp h4 f hf)⟩
  exact ⟨fun c hc => (key c hc).1, fun c hc => (key c hc).2.1, fun c hc => (key c hc).2.2.1, fun c hc => (key c hc).2.2.2.1, fun c hc => (key c hc).2.2.2.2⟩
/-! tuples of the module: flat -/
def fvB : D → Value → Bool
  | .int i, .int j _ => decide (j = i)
  | .str x, .str y _ => decide (y = x)
  | .non, .none => true
  | .bl b, .bool c => b == c
  | _, _ => false
def fvsB : List D → List Value → Bool
  | [], [] => true
  | d :: ds, v :: vs => fvB d v && fvsB ds vs
  | _, _ => false
theorem fvB_ok {K : Frag} {d : D} {u : Value} (h : fvB d u = true) : ∃ v, RelV v u ∧ ∀ ω H xi, Is K ω H xi d v := by
  unfold fvB at h
  split at h
  · exact ⟨.int _, ⟨_, by rw [← of_decide_eq_true h]⟩, fun _ _ _ => rfl⟩
  · exact ⟨.str _, ⟨_, by rw [← of_decide_eq_true h]⟩, fun _ _ _ => rfl⟩
  · exact ⟨.non, rfl, fun _ _ _ => rfl⟩
  · rename_i b c
    exact ⟨.bl b, by rw [show b = c by simpa using h]; rfl, fun _ _ _ => rfl⟩
  · cases h
theorem fvsB_ok {K : Frag} : ∀ {ds : List D} {us : List Value}, fvsB ds us = true → ∃ vs, Vals vs us ∧ ∀ ω H xi, IsL K ω H xi ds vs
  | [], [], _ => ⟨[], .nil, fun _ _ _ => rfl⟩
  | d :: ds, u :: us, h => by
    obtain ⟨h1, h2⟩ := an (show (fvB d u && fvsB ds us) = true from h)
    obtain ⟨v, r, i⟩ := fvB_ok (K := K) h1
    obtain ⟨vs, rs, is⟩ := fvsB_ok (K := K) h2
    exact ⟨v :: vs, .cons r rs, fun ω H xi => ⟨v, vs, rfl, i ω H xi, is ω H xi⟩⟩
  | [], _ :: _, h => by cases h
  | _ :: _, [], h => by cases h
def gtB (K : Frag) (p : Str × List D) : Bool := decide (PySem.W.nsIn K mainGlobals p.1 = some (some (.ref (He.ga K p.1)))) && (match K.lookup (He.ga K p.1) with
  | some ⟨.type z, _, .seq its _, _⟩ => decide (z = "tuple") && (decide (its.size ≤ sizeLine) && fvsB p.2 its.toList)
  | _ => false)
theorem gt_ok {K : Frag} {h : Heap} {mg : Str → Option Value} (X : K.In h) (G : h.Ns mainGlobals mg) {x : Str} {ds : List D} (q : gtB K (x, ds) = true) : GTup K mg x (.tup ds) := by
  obtain ⟨h1, h2⟩ := an q
  refine ⟨He.ga K x, PySem.W.mg_of X G (of_decide_eq_true h1), ?_⟩
  dsimp only at h2
  split at h2
  · rename_i z dd its n sl lk
    obtain ⟨e1, e2⟩ := an h2
    obtain ⟨e2, e3⟩ := an e2
    cases of_decide_eq_true e1
    obtain ⟨vs, r, i⟩ := fvsB_ok (K := K) e3
    exact fun ω H xi => ⟨_, vs, rfl, .inr ⟨_, its, n, lk, rfl, rfl, of_decide_eq_true e2, r⟩, i ω H xi⟩
  · cases h2
/-! ### the end -/
theorem fn_cx0 {P : Program} {w : World} {K : Frag} {mg : Str → Option Value} {base : Heap} {k : Nat} {f : Addr} {fd : FuncData} {ps : List Str} {sp : Sp} (F : FnOk P w K mg base (L2N.CX P w) k f fd ps sp) : FnOk P w K mg base L2.CX0 k f fd ps (fun vs H Q _ => sp vs H Q fun _ _ _ => False) := by
  refine ⟨fun vs H Q E h => F.len _ _ _ _ h, fun A outer s H args us vs Q E hr he hb hv hs => codeAny_mono (F.run A outer s H args us vs Q (fun _ _ _ => False) hr he hb hv hs) fun r s' z => ?_⟩
  match r, z with
  | .ok (.ret u), z => exact z
  | .ok .next, z => exact z
  | .ok .brk, z => exact z
  | .ok .cont, z => exact z
  | .error e, z =>
    obtain ⟨_, _, _, _, _, _, _, _, _, _, _, _, q⟩ := z
    exact q.elim
theorem law_sp {K : Frag} {m : List D → FR} {H : Hp} {a : Addr} {ns : List Int} (hO : Only H) (hS : SqL K H a (ns.map V.int)) (hm : m [.scr ns] = .ok (.bl true) []) : spD K [false] m [.ref a] H (fun v _ => v = .bl true) fun _ _ _ => False := by
  refine ⟨fun b => if (H b).isSome then .fz else .out, [.scr ns], fun b hb => ?_, ⟨⟨a, rfl, ?_⟩, trivial⟩, ?_⟩
  · cases q : H b with
    | none => exact absurd (by show (if (H b).isSome then Tg.fz else Tg.out) = Tg.out; rw [q]; rfl) hb
    | some o => exact ⟨o, rfl⟩
  · rcases hS with h | h
    · refine .inl ⟨?_, h⟩
      have hs : (H a).isSome = true := by
        rcases h with h | ⟨o, h⟩ <;> rw [h] <;> rfl
      exact if_pos hs
    · exact .inr fun H' => .inr h
  · rw [hm]
    exact fun v H' ω' _ _ i _ => i
end DL

set_option Elab.async false
set_option linter.all false
set_option maxRecDepth 100000
namespace DL
open PySem PySem.Spec PyProof.Rows L2
/-! ### list(range(..)), tuple(range(..)) -/
structure DRg (X : Cx) (Γ : Gm) (e : Expr) (t : DSt → R (Int × Int)) : Prop where
  run : ∀ W, L2N.Takes X W → PRg X e (fun σ H Q => up X.K Γ W (fun _ _ _ (x : Int × Int) (v : Int × Int) => v = x) t σ H fun p H' => Q p.1 p.2 H')
theorem PRg.imp {X : Cx} {e : Expr} {t t' : L2.St → Hp → (Int → Int → Hp → Prop) → Prop} (h : PRg X e t) (k : ∀ σ H Q, t' σ H Q → t σ H Q) : PRg X e t' := fun p s σ H Q I q => h p s σ H Q I (k σ H Q q)
section
variable {X : Cx} {Γ : Gm} {τ : Tg} {a b e : Expr} {ta tb : TD} {p pos : Pos}
/-- the int of a value -/
def vI (δ : DSt) (x : Vl) : R Int := match dr δ x with
  | some (.int i) => .ok i δ
  | _ => .stuck
def rRg1 (ta : TD) : DSt → R (Int × Int) := fun δ => (ta δ).bind fun x δ1 => match dr δ1 x with
  | some (.int i) => .ok (0, i) δ1
  | _ => .stuck
def rRg2 (ta tb : TD) : DSt → R (Int × Int) := fun δ => (ta δ).bind fun x δ1 => (tb δ1).bind fun y δ2 => match dr δ2 x, dr δ2 y with
  | some (.int i), some (.int j) => .ok (i, j) δ2
  | _, _ => .stuck
theorem drg_1 (hm : X.mg "range" = none) (ha : DE X Γ a ta) (hg : Gl X "range" := by rfl) (hs : starEach [a] X.env = (false, eval a X.env) :: starEach [] X.env := by rfl) : DRg X Γ (.Call (.Name "range" p) [a] [] pos) (rRg1 ta) :=
  ⟨fun W tk => PRg.imp (prg_1 hg hm (ha.run W tk) hs) fun σ H Q h => by
    obtain ⟨ω, δ, R, h⟩ := h
    refine up_bind (t := ta) R h fun v H1 ω1 δ1 x e1 R1 i1 h1 => ?_
    split at h1
    · rename_i i q
      exact ⟨i, (dr_ok R1 i1 q).int, okR.now (x := ((0 : Int), i)) (v := ((0 : Int), i)) h1 R1 rfl⟩
    · exact h1.elim⟩
theorem drg_2 (hm : X.mg "range" = none) (ha : DE X Γ a ta) (hb : DE X Γ b tb) (hg : Gl X "range" := by rfl) (hs : starEach [a, b] X.env = (false, eval a X.env) :: starEach [b] X.env := by rfl) (hs2 : starEach [b] X.env = (false, eval b X.env) :: starEach [] X.env := by rfl)
    (hpl : (backTo pos (starEach [b] X.env)).any (·.1) = false := by rfl) : DRg X Γ (.Call (.Name "range" p) [a, b] [] pos) (rRg2 ta tb) :=
  ⟨fun W tk => PRg.imp (prg_2 hg hm (ha.run W tk) (hb.run W tk) hs hs2 hpl) fun σ H Q h => by
    obtain ⟨ω, δ, R, h⟩ := h
    refine up_bind (t := ta) R h fun v H1 ω1 δ1 x e1 R1 i1 h1 => ?_
    refine up_bind (t := tb) R1 h1 fun w H2 ω2 δ2 y e2 R2 i2 h2 => ?_
    split at h2
    · rename_i i j q q2
      exact ⟨i, j, (dr_ok R2 (IsV.mono e2.f i1) q).int, (dr_ok R2 i2 q2).int, okR.now (x := (i, j)) (v := (i, j)) h2 R2 rfl⟩
    · exact h2.elim⟩
def rgOk (i j : Int) : Bool := smallI i && smallI j && decide ((j - i).toNat ≤ 2 ^ 24)
theorem rgOk_ok {i j : Int} (h : rgOk i j = true) : RgOk i j := by
  unfold rgOk at h
  rw [Bool.and_eq_true, Bool.and_eq_true] at h
  have a := smallI_ok h.1.1
  have b := smallI_ok h.1.2
  exact ⟨a.1, a.2, b.1, b.2, of_decide_eq_true h.2⟩
theorem rg_is {K : Frag} {ω : Om} {H : Hp} {xi : Xi} (i j : Int) : IsL K ω H xi (rangeD i j) (rgV i j) := by
  unfold rangeD rgV
  exact IsL.mapV (f := fun (k : Nat) => D.int (i + (k : Int))) (g := fun (k : Nat) => V.int (i + (k : Int))) (fun _ => rfl) _
def gRg (f : List D → D) (t : DSt → R (Int × Int)) : TDG := fun δ => (t δ).bind fun p δ1 => if rgOk p.1 p.2 then .ok (f (rangeD p.1 p.2)) δ1 else .stuck
theorem dg_listRg {t : DSt → R (Int × Int)} {p2 pos2 : Pos} (hτ : τ ≠ .out) (hc : X.calm = true) (hm : X.mg "list" = none) (he : DRg X Γ e t) (hg : Gl X "list" := by rfl) (hs : starEach [e] X.env = (false, eval e X.env) :: starEach [] X.env := by rfl) : DG X Γ τ (.Call (.Name "list" p2) [e] [] pos2) (gRg .lst t) :=
  ⟨fun W tk => PE.imp (pe_listRg hc hg hm (he.run W tk) hs) fun σ H Q h => by
    obtain ⟨ω, δ, R, h⟩ := h
    refine up_bind (t := t) R h fun v H1 ω1 δ1 x e1 R1 i1 h1 => ?_
    subst i1
    by_cases z : rgOk v.1 v.2 = true
    · rw [if_pos z] at h1
      exact ⟨rgOk_ok z, new_lst hτ R1 (rg_is _ _) h1⟩
    · rw [if_neg z] at h1; exact h1.elim⟩
theorem dg_tupRg {t : DSt → R (Int × Int)} {p2 pos2 : Pos} (hc : X.calm = true) (hm : X.mg "tuple" = none) (he : DRg X Γ e t) (hg : Gl X "tuple" := by rfl) (hs : starEach [e] X.env = (false, eval e X.env) :: starEach [] X.env := by rfl) : DG X Γ .fz (.Call (.Name "tuple" p2) [e] [] pos2) (gRg .tup t) :=
  ⟨fun W tk => PE.imp (pe_tupRg hc hg hm (he.run W tk) hs) fun σ H Q h => by
    obtain ⟨ω, δ, R, h⟩ := h
    refine up_bind (t := t) R h fun v H1 ω1 δ1 x e1 R1 i1 h1 => ?_
    subst i1
    by_cases z : rgOk v.1 v.2 = true
    · rw [if_pos z] at h1
      refine ⟨rgOk_ok z, fun q hq => ?_⟩
      have X := R1.nwExt (τ := .fz) hq (.tup (rgV v.1 v.2))
      exact okR.at (x := D.tup (rangeD v.1 v.2)) h1 X (R1.new hq _) ⟨q, _, rfl, .inl ⟨nwO_self, upd_same⟩, (rg_is _ _).mono X.f⟩
    · rw [if_neg z] at h1; exact h1.elim⟩
/-! ### methods of texts -/
def op1S (f : Str → Option D) (x : Vl) (δ : DSt) : R Vl := match dr δ x with
  | some (.str s) => (match f s with
    | some d => .ok (.fz d) δ
    | none => .stuck)
  | _ => .stuck
theorem op1S_ok {K : Frag} {W : WX} {ω : Om} {H : Hp} {σ : L2.St} {δ : DSt} {f : Str → Option D} {x : Vl} {v : V} {Q : VK} (R : Rel K Γ ω H σ δ) (i1 : IsV K Γ ω H σ x v) (h : okV K Γ W ω H σ (op1S f x δ) Q) : ∃ s d, v = .str s ∧ f s = some d ∧ okV K Γ W ω H σ (.ok (.fz d) δ) Q := by
  unfold op1S at h
  split at h
  · rename_i s q
    cases q2 : f s with
    | none => rw [q2] at h; exact h.elim
    | some d => rw [q2] at h; exact ⟨s, d, (dr_ok R i1 q).str, q2, h⟩
  · exact h.elim
def sUpper (s : Str) : Option D := if s.length ≤ 5592405 then some (.str (Txt.upper s)) else none
theorem de_upper {o : Expr} {to : TD} {apos : Pos} (ho : DE X Γ o to) (hb : attributeBase o "upper" X.env (eval o X.env) = eval o X.env := by rfl) (hl : (apos.endLine == pos.line) = true := by rfl) : DE X Γ (.Call (.Attribute o "upper" apos) [] [] pos) (eUn (op1S sUpper) to) :=
  ⟨fun W tk => PE.imp (pe_upper (ho.run W tk) hb hl) fun σ H Q h => by
    obtain ⟨ω, δ, R, h⟩ := h
    refine up_bind (t := to) R h fun v H1 ω1 δ1 x e1 R1 i1 h1 => ?_
    obtain ⟨s, d, rfl, q, h2⟩ := op1S_ok R1 i1 h1
    unfold sUpper at q
    by_cases z : s.length ≤ 5592405
    · rw [if_pos z] at q
      cases q
      exact ⟨⟨s, rfl⟩, s, rfl, rfl, z, okR.now (x := Vl.fz (.str (Txt.upper s))) h2 R1 rfl⟩
    · rw [if_neg z] at q; cases q⟩
end
end DL

set_option Elab.async false
set_option linter.all false
set_option maxRecDepth 100000
set_option maxHeartbeats 2000000
namespace HotX
open PySem PySem.Spec PyProof.Rows
section
variable {prog : Program} {w : World} {A : Around} {E : Value → Shared → Prop} {s : Shared}
theorem pyNext_list_end_hot {it l x1 : Addr} {i : Nat} {items : Array Value} {Q : Option Value → Shared → Prop} (hot : HotAt A x1 s.heap) (hne : x1 ≠ it) (hit : s.heap.IsListIter it l i) (hl : s.heap.IsList l items) (hx : items[i]? = none)
    (hQ : ∀ h', (∀ b o, b ≠ it → s.heap.get? b = some o → h'.get? b = some o) → Q none { s with heap := h' }) : wpAny (model prog w) A (pyNext (.ref it)) Q E s := by
  obtain ⟨o, ho, hc, hd⟩ := id hit
  obtain ⟨ol, hol, _, nl, hdl⟩ := hl
  obtain ⟨hh, o1, vs1, h1, d1, c1⟩ := hot
  unfold pyNext
  refine wpAny_bind (wpAny_attempt (wpAny_callSpecial?_slot (name := Str.ofString "__next__") hit.typeIs slot_listiter_next
    (wpAny_call_entry slot_listiter_next hit.typeIs entry_listiter_next ?_ (args_listiter_next _))))
  show wpAny _ _ (field (.ref it) 0 >>= _) _ _ s
  refine wpAny_bind (wpAny_field ho hd (x := .ref l) rfl ?_)
  show wpAny _ _ (if (Value.ref l == Value.none) = true then _ else _) _ _ s
  rw [if_neg (show ¬ ((Value.ref l == Value.none) = true) from Bool.false_ne_true)]
  show wpAny _ _ (field (.ref it) 1 >>= _) _ _ s
  refine wpAny_bind (wpAny_field ho hd (x := .int i 0) rfl ?_)
  show wpAny _ _ (seqItems? (.ref l) >>= _) _ _ s
  refine wpAny_bind (wpAny_seqItems hol hdl ?_)
  simp only [Int.toNat_natCast, hx]
  refine wpAny_bind (wpAny_rule (wpAny_bind (wpAny_setField ho hd (by simp) ?_)))
  show wpAny _ _ (newExc (.type "StopIteration") [] >>= _) _ _ _
  refine wpAny_bind ?_
  simp only [newExc, newTuple]
  refine wpAny_bind (wpAny_newObj_type ?_ (by size_fits))
  refine wpAny_bind (m := firstArgMember _ _) (wpAny_of_eq (a := Value.none) (by first | rfl | (simp only [firstArgMember]; rfl)) ?_)
  refine wpAny_newObj_type ?_ (by size_fits)
  have k : ∀ {h : Heap} {f : Obj → Obj} {b : Addr} {u : Obj}, b ≠ it → h.get? b = some u → (h.update it f).get? b = some u := fun {h f b u} nb e => (Heap.get?_update_other _ _ (fun z => nb z.symm)).trans e
  refine raiseNew_hot ⟨hh, o1, vs1, Heap.get?_push_of_some _ (Heap.get?_push_of_some _ (k hne h1)), d1, c1⟩ (Nat.ne_of_lt (Heap.lt_size (Heap.get?_push_of_some _ (k hne h1)))) (Heap.get?_push_size _ rfl) rfl (by first | (simp; done) | (simp; omega) | (simp only [Array.size_append]; simp; omega)) ?_
  refine wpAny_bind (wpAny_isInstance (T := "StopIteration") (b := true) ⟨_, Heap.get?_update_self _ (Heap.get?_push_size _ rfl) rfl, rfl⟩ isSubtype_stop ?_)
  refine wpAny_pure (hQ _ fun b u nb e => ?_)
  rw [Heap.get?_update_other _ _ (Nat.ne_of_gt (Heap.lt_size (Heap.get?_push_of_some _ (k nb e))))]
  exact Heap.get?_push_of_some _ (Heap.get?_push_of_some _ (k nb e))
end
end HotX
namespace L2H
open PySem PySem.Spec PyProof.Rows L2 HotX
theorem turn_listH {P : Program} {w : World} {K : PySem.W.Frag} {tg : Expr} (a it : Addr) : TurnH P w K tg (Itl K a) [it] it (fun i h => h.IsListIter it a i) where
  mem := (turn_list (P := P) (w := w) (K := K) (tg := tg) a it).mem
  obj := (turn_list (P := P) (w := w) (K := K) (tg := tg) a it).obj
  keep := (turn_list (P := P) (w := w) (K := K) (tg := tg) a it).keep
  item := by
    intro X hP hw hK hc i pins s σ H E I hf st hg
    subst hP hw hK
    obtain ⟨xs, x, hq, hx⟩ := hg
    obtain ⟨its, rv, p, hz⟩ := I.list hq
    obtain ⟨u, hu, ru⟩ := rv.get hx
    obtain ⟨f0, f1, f2, f3, f4, f5⟩ := hf it (by simp)
    refine wpAny_pyNext_list_item st p.isList (x := u) (by simpa using hu) fun h' st' sb => ?_
    have I1 : Inv X pins σ H { s with heap := h' } := I.turned (t' := s.toks) (fun b o hb e => (sb.2 b hb).trans e) f0 f1 f3 f4 f5
    obtain ⟨o, e, c, d⟩ := id st'
    exact ⟨u, rfl, go_of (s := { s with heap := h' }) e c d (by decide) ⟨x, H, I1, ru, ⟨rfl, fun ys hy => by rw [I.list_inj hy hq]; exact hx⟩, st', fun b hb => (hf b hb).1⟩⟩
  done := by
    intro X hP hw hK hc i pins s σ H E I hf st hg
    subst hP hw hK
    obtain ⟨xs, hq, hx⟩ := hg
    obtain ⟨its, rv, p, hz⟩ := I.list hq
    have hfit := hf it (by simp)
    obtain ⟨f0, f1, f2, f3, f4, f5⟩ := hfit
    have hl := rv.length
    obtain ⟨q, ⟨hh, v1, e1, c1⟩, hp⟩ := hc
    exact pyNext_list_end_hot ⟨hh, q.2, v1, (I.pin q (List.mem_append_left _ hp)).1, e1, c1⟩ (f5 q (List.mem_append_left _ hp)) st p.isList (by simp; omega) fun h' eb => ⟨rfl, I.turned (t' := s.toks) (fun b o hb e => eb b o hb e) f0 f1 f3 f4 f5⟩
  self := (turn_list (P := P) (w := w) (K := K) (tg := tg) a it).self
section
variable {X : Cx} {tg : Expr}
theorem pi_listH {l : Expr} {tl : TE} (hl : PE X l tl) : PIH X tg l (iList X.K tl) := by
  refine ⟨fun pins s σ H R I h => ?_⟩
  refine thn (hl.run pins s σ H _ I h) fun v s1 ⟨x, H1, I1, r1, q1⟩ => ?_
  obtain ⟨a, e, ⟨xs, hq⟩, q⟩ := q1
  subst e
  cases r1
  obtain ⟨its, rv, p, hz⟩ := I1.list hq
  refine wpAny_pyIter_list p.isList ?_
  refine ⟨s1.heap.objs.size, [s1.heap.objs.size], _, _, H1, rfl, I1.kept (t' := s1.toks) fun b o e => Heap.get?_push_of_some _ e, turn_listH a _, ⟨_, Heap.get?_push_size _ rfl, rfl, rfl⟩, fun b hb => ?_, q⟩
  have e : b = s1.heap.objs.size := by simpa using hb
  subst e
  exact I1.fpOk (Nat.le_refl _) (I1.hok.fresh (Nat.le_refl _))
end
/-! ### comprehensions within an except suite -/
abbrev blkH (X : Cx) (s : Shared) (H : Hp) (scope : Scope) (cenv : Env) (fp : List Addr) : Cx := { X.blk s H scope cenv fp with pn := X.pn }
section
variable {X : Cx} {pins : List (Addr × Obj)} {σ : L2.St} {H : Hp} {s : Shared}
theorem block_startH {scope : Scope} {own : List (Str × Nat)} {fp : List Addr} (I : Inv X pins σ H s) (ok : BlkOk X.N X.env.scope scope own) (hN : X.N.Nodup) (hfp : ∀ b ∈ fp, FpOk X pins H b ∧ b < s.heap.objs.size) :
    Inv (blkH X s H scope (compEnvC scope (cellsFrom (s.heap.objs.size + 1) scope.names (cloFrom X.env.cells scope.names [])) s.heap.objs.size X.env) fp) [] (wipe σ (own.map (·.2))) H { s with heap := pushCells (s.heap.push { cls := .type "dict", data := .dict #[] }) scope.names } := by
  have J := block_start I ok hN hfp
  have o := J.ok
  refine ⟨⟨o.mod, o.kind, o.glob, o.blt, o.above, o.inj, o.has, o.cab, o.hd, o.frames, o.stk, o.exf, o.bs, o.bsz, o.noex, o.exfs, o.funs, o.frf⟩, J.os, J.bare, J.base, J.loc, J.cell, J.free, J.freeC, fun p hp => ?_, J.hok, J.len⟩
  have hp : p ∈ X.pn := by
    have z : p ∈ X.pn ++ ([] : List (Addr × Obj)) := hp
    simpa using z
  have P1 := I.pin p (List.mem_append_left _ hp)
  exact ⟨pushCells_keeps _ _ _ _ (Heap.get?_push_of_some _ P1.1), P1.2.1, Nat.ne_of_lt (Heap.lt_size P1.1), fun hm => (List.mem_cons.mp (I.stkSub p.1 hm)).elim P1.2.2.1 P1.2.2.2.1, P1.2.2.2.2⟩
end
section
variable {X : Cx}
theorem lc_coreH {pins : List (Addr × Obj)} {s : Shared} {σ : St} {H : Hp} {Q : VK} {elt tg iter : Expr} {ifs : List Expr} {scope : Scope} {own : List (Str × Nat)} {pos pos' : Pos} {wi : TI} {g : TG} {tt : TT} {te : TE} {use : Option (Value → Sem Unit)} {Qf : Value → Shared → Prop}
    (hc : HotC X) (hN : X.N.Nodup) (I : Inv X pins σ H s) (hi : PIH X tg iter wi) (ok : BlkOk X.N X.env.scope scope own)
    (hg : ∀ (s : Shared) (H : Hp) (C : Addr) (cl : List (Str × Addr)) (fp : List Addr), PG (blkH X s H scope (compEnvC scope cl C X.env) fp) tg g) (ht : ∀ (s : Shared) (H : Hp) (C : Addr) (cl : List (Str × Addr)) (fp : List Addr), PTs (blkH X s H scope (compEnvC scope cl C X.env) fp) ifs tt)
    (he : ∀ (s : Shared) (H : Hp) (C : Addr) (cl : List (Str × Addr)) (fp : List Addr), PE (blkH X s H scope (compEnvC scope cl C X.env) fp) elt te) (hs : ∀ x, foldedSetIterable iter X.env x = pure x)
    (h : tLc wi g tt te (own.map (·.2)) σ H Q)
    (hRR : ∀ D C s' m H', Inv X pins σ H' s' → Q (.ref D) H' → s'.heap.Ns C m → FpOk X pins H' C → compPost (model X.prog X.w) X.A X.xe use Qf (.ref D) C (.ok .next) s') :
    wpAny (model X.prog X.w) X.A (comprehension (.ListComp elt [⟨tg, iter, ifs, 0⟩] scope pos) scope X.env pos' (newList []) false (eval iter X.env) use) Qf X.xe s := by
  have hfree : ∀ y ∈ scope.names, y.2 = .free → ∃ c, X.env.cells.lookup y.1 = some c := fun y hy e => by
    rcases ok.free y hy e with k | k
    · exact I.ok.has _ (.inl k)
    · exact I.ok.has _ (.inr k)
  refine wpAny_comprehension_free (use := use) rfl hs (closure_ok hfree) ok.kind (fun y hy e => by rw [ok.uniq y hy, e])
    (thn (hi.run pins s σ H _ I h) fun xv s1 hx => thn hx fun itv s2 h2 => ?_)
  obtain ⟨it, fp, tn, J, H2, e, I2, T, st2, f2, q⟩ := h2
  subst e
  refine wpAny_newObj_type (newEnv_comp ?_) (by show 0 ≤ sizeLine; decide)
  generalize hD : s2.heap.objs.size = D
  have hDn : H2 D = none := I2.hok.fresh (Nat.le_of_eq hD)
  obtain ⟨W, ⟨m0, w0⟩, turn⟩ := q D hDn
  -- the new list
  generalize hs3 : ({ s2 with heap := s2.heap.push { cls := .type "list", data := .seq ([] : List Value).toArray } } : Shared) = s3
  have I3 : Inv X pins σ (upd H2 D (.lst [])) s3 := by
    rw [← hs3]
    refine I2.laid (t' := s2.toks) (fun b o e => Heap.get?_push_of_some _ e) (Nat.le_of_eq hD) ⟨Nat.zero_le _, [], 0, .nil, ?_⟩
    rw [← hD]
    exact Heap.get?_push_size _ rfl
  have h3 : s3.heap = s2.heap.push { cls := .type "list", data := .seq ([] : List Value).toArray } := by rw [← hs3]
  have sz : ∀ b ∈ fp, b < s2.heap.objs.size := fun b hb => by
    obtain ⟨o, e, _⟩ := T.obj _ _ st2 b hb
    exact Heap.lt_size e
  have f3 : ∀ b ∈ fp, FpOk X pins (upd H2 D (.lst [])) b ∧ b < s3.heap.objs.size := fun b hb => by
    have hlt := sz b hb
    refine ⟨⟨?_, (f2 b hb).2⟩, by rw [h3, Heap.size_push]; exact Nat.lt_succ_of_lt hlt⟩
    rw [upd_ne (by rw [← hD]; exact Nat.ne_of_lt hlt)]
    exact (f2 b hb).1
  have st3 : tn 0 s3.heap := T.keep _ _ _ st2 fun b _ o e => by rw [h3]; exact Heap.get?_push_of_some _ e
  have I4 := block_startH I3 ok hN f3
  have pg := hg s3 (upd H2 D (.lst [])) s3.heap.objs.size (cellsFrom (s3.heap.objs.size + 1) scope.names (cloFrom X.env.cells scope.names [])) fp
  have pt := ht s3 (upd H2 D (.lst [])) s3.heap.objs.size (cellsFrom (s3.heap.objs.size + 1) scope.names (cloFrom X.env.cells scope.names [])) fp
  have pe := he s3 (upd H2 D (.lst [])) s3.heap.objs.size (cellsFrom (s3.heap.objs.size + 1) scope.names (cloFrom X.env.cells scope.names [])) fp
  show codeAny _ _ (.compStart (.ListComp elt [⟨tg, iter, ifs, 0⟩] scope pos) 0 (.ref it) (.ref D) (compEnvC scope (cellsFrom (s3.heap.objs.size + 1) scope.names (cloFrom X.env.cells scope.names [])) s3.heap.objs.size X.env)) (compPost (model X.prog X.w) X.A X.xe use Qf (.ref D) s3.heap.objs.size) { s3 with heap := pushCells (s3.heap.push { cls := .type "dict", data := .dict #[] }) scope.names }
  have nfp : ∀ b ∈ fp, (upd H2 D (.lst [])) b = none := fun b hb => (f3 b hb).1.1
  generalize hce : compEnvC scope (cellsFrom (s3.heap.objs.size + 1) scope.names (cloFrom X.env.cells scope.names [])) s3.heap.objs.size X.env = ce at I4 pg pt pe ⊢
  have cL : ce.locals = s3.heap.objs.size := by subst hce; rfl
  generalize hH3 : upd H2 D (.lst []) = H3 at I3 I4 pg pt pe w0 nfp f3
  generalize hs4 : ({ s3 with heap := pushCells (s3.heap.push { cls := .type "dict", data := .dict #[] }) scope.names } : Shared) = s4 at I4 ⊢
  have st4 : tn 0 s4.heap := T.keep _ _ _ st3 fun b _ o e => by rw [← hs4]; exact pushCells_keeps _ _ _ _ (Heap.get?_push_of_some _ e)
  have stat : ∀ {σ' : St} {H' : Hp} {s' : Shared}, Inv (blkH X s3 H3 scope ce fp) [] σ' H' s' → (∀ b ∈ fp, H' b = none) → ∀ b ∈ fp, FpOk (blkH X s3 H3 scope ce fp) [] H' b := fun {σ' H' s'} I' hn b hb =>
    ⟨hn b hb, (I'.ok.exf b hb).1, I'.ok.exfs b hb, .inl hb, fun x c e => (I'.ok.exf b hb).2 x c e, fun p hp => (f3 b hb).1.2.2.2.2.2 p (List.mem_append_left _ (by simpa using hp))⟩
  have loop : codeAny (model X.prog X.w) X.A (.compLoop (.ListComp elt [⟨tg, iter, ifs, 0⟩] scope pos) 0 (.ref it) (.ref D) ce) (compPost (model X.prog X.w) X.A X.xe use Qf (.ref D) s3.heap.objs.size) s4 := by
    refine compLoop_any (fun n s' => ∃ i H', Inv (blkH X s3 H3 scope ce fp) [] (wipe σ (own.map (·.2))) H' s' ∧ tn i s'.heap ∧ (∀ b ∈ fp, H' b = none) ∧ W i n H') ?_ m0 ⟨0, H3, I4, st4, nfp, w0⟩
    rintro n s5 ⟨i, H5, I5, st5, n5, w5⟩
    rcases turn i n H5 w5 with ⟨stop, qq⟩ | ⟨go, Nx, hNx, step⟩
    · have td := T.done (blkH X s3 H3 scope ce fp) rfl rfl rfl hc i [] s5 _ H5 (fun _ _ => False) I5 (stat I5 n5) st5 stop
      refine thnF td fun r s6 ⟨hr, I6⟩ => ?_
      subst hr
      -- back in the def's context
      have I7 : Inv X pins σ H5 s6 := I3.call' (ch := fp) I6.os I6.base I6.hok I6.bare fun b hb => ⟨(f3 b hb).1.2.2.2.1, (f3 b hb).1.2.1, (f3 b hb).1.2.2.2.2.1, (f3 b hb).1.2.2.2.2.2⟩
      have nC : H5 s3.heap.objs.size = none := by
        have z : H5 ce.locals = none := I6.free
        rw [cL] at z
        exact z
      obtain ⟨m, hn, _⟩ := I6.loc
      have hn : s6.heap.Ns ce.locals m := hn
      rw [cL] at hn
      exact hRR D s3.heap.objs.size s6 m H5 I7 qq hn (I3.fpOk (Nat.le_refl _) nC)
    · have ti := T.item (blkH X s3 H3 scope ce fp) rfl rfl rfl hc i [] s5 _ H5 (fun _ _ => False) I5 (stat I5 n5) st5 go
      refine thnF ti fun r s6 ⟨u, hr, h6⟩ => ?_
      subst hr
      refine thnF h6 fun _ s7 ⟨x, H7, I7, r7, y7, st7, n7⟩ => ?_
      have I7' := I7.pinned (stat I7 n7) (T.obj _ _ st7)
      refine thnF (pg.run _ s7 _ H7 x u _ I7' r7 (step x H7 y7)) fun _ s8 ⟨σ8, H8, I8, hw8, q8⟩ => ?_
      refine thnF (pt.run _ s8 σ8 H8 _ I8 q8) fun b s9 ⟨H9, I9, q9⟩ => ?_
      -- the turn's end
      have fin : ∀ {s' : Shared} {H' : Hp}, Inv (blkH X s3 H3 scope ce fp) ([] ++ pinsAt fp s7.heap) σ8 H' s' → Nx H' → ∃ m, m < n ∧ ∃ i H', Inv (blkH X s3 H3 scope ce fp) [] (wipe σ (own.map (·.2))) H' s' ∧ tn i s'.heap ∧ (∀ b ∈ fp, H' b = none) ∧ W i m H' := fun {s' H'} I' nx => by
        obtain ⟨m', hm, w'⟩ := hNx H' nx
        have pin' : ∀ b ∈ fp, ∀ o, s7.heap.get? b = some o → s'.heap.get? b = some o ∧ H' b = none := fun b hb o e =>
          let z := I'.pin (b, o) (List.mem_append_right _ (List.mem_append_right _ (mem_pinsAt hb e)))
          ⟨z.1, z.2.1⟩
        have hl : (wipe σ (own.map (·.2))).length = σ8.length := by rw [← hw8, wipe_length]
        refine ⟨m', hm, i + 1, H', (I'.unpinned (pins := [])).weak hl (fun j v e => ?_), T.keep _ _ _ st7 fun b hb o e => (pin' b hb o e).1, fun b hb => ?_, w'⟩
        · rw [← hw8] at e
          exact (wipe_some e).1
        · obtain ⟨o, e, _⟩ := T.obj _ _ st7 b hb
          exact (pin' b hb o e).2
      cases b with
      | false =>
        simp only [Bool.false_eq_true, if_false] at q9 ⊢
        exact fin I9 q9
      | true =>
        simp only [if_true] at q9 ⊢
        refine thnF (pe.run _ s9 σ8 H9 _ I9 q9) fun z s10 ⟨yv, H10, I10, r10, acc, hD10, hz10, nx⟩ => ?_
        exact app_ok (X := blkH X s3 H3 scope ce fp) I10 hD10 hz10 r10 fun s11 I11 => fin I11 nx
  exact codeAny_compStart_list loop (T.self X.A 0 _ _ _ st4 loop)
theorem pe_lcH {elt tg iter : Expr} {ifs : List Expr} {scope : Scope} {own : List (Str × Nat)} {pos : Pos} {wi : TI} {g : TG} {tt : TT} {te : TE} (hc : HotC X) (hN : X.N.Nodup) (hi : PIH X tg iter wi) (ok : BlkOk X.N X.env.scope scope own)
    (hg : ∀ (s : Shared) (H : Hp) (C : Addr) (cl : List (Str × Addr)) (fp : List Addr), PG (blkH X s H scope (compEnvC scope cl C X.env) fp) tg g) (ht : ∀ (s : Shared) (H : Hp) (C : Addr) (cl : List (Str × Addr)) (fp : List Addr), PTs (blkH X s H scope (compEnvC scope cl C X.env) fp) ifs tt)
    (he : ∀ (s : Shared) (H : Hp) (C : Addr) (cl : List (Str × Addr)) (fp : List Addr), PE (blkH X s H scope (compEnvC scope cl C X.env) fp) elt te) (hs : ∀ x, foldedSetIterable iter X.env x = pure x := by intro _; rfl) :
    PE X (.ListComp elt [⟨tg, iter, ifs, 0⟩] scope pos) (tLc wi g tt te (own.map (·.2))) := by
  refine ⟨fun pins s σ H Q I h => ?_⟩
  rw [eval_ListComp]
  refine lc_coreH hc hN I hi ok hg ht he hs h fun D C s' m H' I' q hn f => ⟨m, hn, fun h'' sb => ?_⟩
  obtain ⟨f0, f1, f2, f3, f4, f5⟩ := f
  exact ⟨.ref D, H', I'.turned (t' := s'.toks) (fun b o hb e => (sb.2 b hb).trans e) f0 f1 f3 f4 f5, rfl, q⟩
/-- name = [..] on one line, the name a local -/
theorem ps_setLcH {i : Nat} {y : Str} {py : Pos} {elt tg iter : Expr} {ifs : List Expr} {scope : Scope} {own : List (Str × Nat)} {pos spos : Pos} {wi : TI} {g : TG} {tt : TT} {te : TE} (hc : HotC X) (hN : X.N.Nodup) (hy : X.N[i]? = some y) (hyl : X.env.scope.names.lookup y = some .local)
    (hsw : swapsWith (.ListComp elt [⟨tg, iter, ifs, 0⟩] scope pos) (some (.Name y py)) spos.line X.env = pure true) (hi : PIH X tg iter wi) (ok : BlkOk X.N X.env.scope scope own)
    (hg : ∀ (s : Shared) (H : Hp) (C : Addr) (cl : List (Str × Addr)) (fp : List Addr), PG (blkH X s H scope (compEnvC scope cl C X.env) fp) tg g) (ht : ∀ (s : Shared) (H : Hp) (C : Addr) (cl : List (Str × Addr)) (fp : List Addr), PTs (blkH X s H scope (compEnvC scope cl C X.env) fp) ifs tt)
    (he : ∀ (s : Shared) (H : Hp) (C : Addr) (cl : List (Str × Addr)) (fp : List Addr), PE (blkH X s H scope (compEnvC scope cl C X.env) fp) elt te) (hs : ∀ x, foldedSetIterable iter X.env x = pure x := by intro _; rfl) :
    PS X (.Assign [.Name y py] (.ListComp elt [⟨tg, iter, ifs, 0⟩] scope pos) spos) (tAsg (tLc wi g tt te (own.map (·.2))) (gName i)) := by
  refine ⟨fun pins s σ H D I h => ?_⟩
  rw [exec_Assign_Name_used _ _ _ _ hsw]
  refine wpAny_bind (wpAny_standAt (wpAny_bind ?_))
  show wpAny _ X.A (do let _ ← comprehension (.ListComp elt [⟨tg, iter, ifs, 0⟩] scope pos) scope X.env (firstIterPos [⟨tg, iter, ifs, 0⟩] pos) (newList []) false (eval iter X.env) (some (assign (.Name y py) X.env))) _ _ s
  have h : tLc wi g tt te (own.map (·.2)) σ H (fun x H1 => gName i x σ H1 D.nx) := h
  refine wpAny_bind (thn (lc_coreH (Qf := fun _ s' => SP X pins D .next s') hc hN I hi ok hg ht he hs h fun L C s' m H' I' q hn f => ?_) fun _ s' hq => wpAny_pure (wpAny_pure hq))
  show wpAny _ _ (assign (.Name y py) X.env (.ref L)) _ _ _
  refine wpAny_assign_Name (store_ok2 (v := V.ref L) I' hN hy (.inl hyl) rfl (fun s2 I2 ⟨a, sb, ha⟩ => ?_) (.inr hyl))
  obtain ⟨f0, f1, f2, f3, f4, f5⟩ := f
  have haC : C ≠ a := by
    rcases ha with z | z
    · rw [z]; exact f1
    · exact fun e => f4 y a z e.symm
  refine ⟨m, hn.sameBut sb haC, fun h3 sb3 => ?_⟩
  exact ⟨_, H', I2.turned (t' := s2.toks) (fun b o hb e => (sb3.2 b hb).trans e) f0 f1 f3 f4 f5, q⟩
end
end L2H
namespace DL
open PySem PySem.Spec PyProof.Rows L2 L2H
theorem HotX.c {X : Cx} {Γ : Gm} {cs : List Str} (h : HotX X Γ cs) : HotC X := by
  obtain ⟨a, c, d, oe, _, _, h1, hp, _⟩ := h.ex
  exact ⟨(a, oe), h1, hp⟩
abbrev blkXH (X : Cx) (s : Shared) (H : Hp) (scope : Scope) (C : Addr) (cl : List (Str × Addr)) (fp : List Addr) : Cx := L2H.blkH X s H scope (compEnvC scope cl C X.env) fp
/-- what a for or a comprehension walks within an except suite -/
structure DIH (X : Cx) (Γ : Gm) (tg iter : Expr) (t : TDI) : Prop where
  run : ∀ W, L2N.Takes X W → PIH X tg iter (upI X.K Γ W t)
theorem PIH.imp {X : Cx} {tg e : Expr} {t t' : TI} (h : PIH X tg e t) (k : ∀ σ H Q, t' σ H Q → t σ H Q) : PIH X tg e t' := ⟨fun p s σ H Q I q => h.run p s σ H Q I (k σ H Q q)⟩
section
variable {X : Cx} {Γ : Gm} {tg a e : Expr} {p pos : Pos}
theorem dih_range1 {ta : TDA} (hm : X.mg "range" = none) (ha : DA X Γ [a] ta) (hg : Gl X "range" := by rfl) (hs : starEach [a] X.env = [(false, eval a X.env)] := by rfl) : DIH X Γ tg (.Call (.Name "range" p) [a] [] pos) (iRng rngF1 ta) := ⟨fun W tk => PIH.imp (pi_range1H hg hm (ha.run W tk) hs) fun σ H P h => by
  obtain ⟨ω, δ, Rl, h⟩ := h
  refine up_bind (t := ta) Rl h fun vs H1 ω1 δ1 xs e1 R1 i1 h1 => ?_
  cases q : ints2 δ1 xs with
  | none => rw [q] at h1; exact h1.elim
  | some is =>
    rw [q] at h1
    have ev := ints2_ok R1 i1 q
    subst ev
    match is, h1 with
    | [j], h1 =>
      dsimp only [Option.bind, rngF1] at h1
      by_cases hz : smallI j = true
      · rw [if_pos hz] at h1
        have z := smallI_ok hz
        refine ⟨j, rfl, z.1, z.2, okR.now h1 R1 ?_⟩
        unfold rangeD
        rw [Int.sub_zero]
        exact rng_walk
      · rw [if_neg hz] at h1; exact h1.elim
    | [], h1 => exact h1.elim
    | _ :: _ :: _, h1 => exact h1.elim⟩
/-- a list -/
def iLst (t : TD) : TDI := fun δ => (t δ).bind fun x δ1 => match frz δ1 x with
  | some (.lst ds, δ2) => .ok ds δ2
  | _ => .stuck
theorem dih_lst {te : TD} (he : DE X Γ e te) : DIH X Γ tg e (iLst te) := ⟨fun W tk => PIH.imp (pi_listH (he.run W tk)) fun σ H P h => by
  obtain ⟨ω, δ, Rl, h⟩ := h
  refine ⟨ω, δ, Rl, ?_⟩
  unfold iLst at h
  cases q : te δ with
  | stuck => rw [q] at h; exact h.elim
  | exc c ns ds δ1 => rw [q] at h; exact h
  | ok x δ1 =>
    rw [q] at h
    have h : okR X.K Γ W ω H σ (rlI X.K Γ) (match frz δ1 x with
      | some (.lst ds, δ2) => R.ok ds δ2
      | _ => R.stuck) P := h
    cases qf : frz δ1 x with
    | none => rw [qf] at h; exact h.elim
    | some pr =>
      obtain ⟨d, δ2⟩ := pr
      rw [qf] at h
      cases d with
      | lst ds =>
        intro v H1 ω1 X1 R1 i1
        obtain ⟨ω2, X2, R2, h2⟩ := frz_ok R1 i1 qf
        obtain ⟨a, vs, rfl, n, l⟩ := h2
        exact ⟨a, rfl, ⟨vs, n.sq⟩, h _ H1 ω2 (X1.trans X2) R2 (walkD_of walk_list l fun ω' H' X' => (n.mono X'.f).sq)⟩
      | _ => exact h.elim⟩
end
section
variable {X : Cx} {Γ : Gm} {pos : Pos} {elt tg iter : Expr} {ifs : List Expr} {scope : Scope} {own : List (Str × Nat)} {t : Tgt} {ti : TDI} {tt : TDT} {te : TD} {τ : Tg}
theorem dg_lcH (hτ : τ ≠ .out) (hc : HotC X) (hN : X.N.Nodup) (hi : DIH X Γ tg iter ti) (ok : BlkOk X.N X.env.scope scope own)
    (hg : ∀ (s : Shared) (H : Hp) (C : Addr) (cl : List (Str × Addr)) (fp : List Addr), DTg (blkXH X s H scope C cl fp) tg t)
    (ht : ∀ (s : Shared) (H : Hp) (C : Addr) (cl : List (Str × Addr)) (fp : List Addr), DIfs (blkXH X s H scope C cl fp) Γ ifs tt)
    (he : ∀ (s : Shared) (H : Hp) (C : Addr) (cl : List (Str × Addr)) (fp : List Addr), DE (blkXH X s H scope C cl fp) Γ elt te)
    (hvs : ∀ i ∈ t.vs, i ∈ own.map (·.2) := by decide) (hp0 : (own.map (·.2)).all (fun i => !Γ.idx.contains i) = true := by rfl) (hs : ∀ x, foldedSetIterable iter X.env x = pure x := by intro _; rfl) :
    DG X Γ τ (.ListComp elt [⟨tg, iter, ifs, 0⟩] scope pos) (gComp (own.map (·.2)) t ti tt te) :=
  ⟨fun W tk => PE.imp (pe_lcH hc hN (hi.run W tk) ok (fun s H C cl fp => (hg s H C cl fp).run) (fun s H C cl fp => (ht s H C cl fp).run) (fun s H C cl fp => (he s H C cl fp).run W0 tk0) hs) fun σ H Q h => up_lc hτ hvs (pin_all hp0) h⟩
/-- y = [..] of a local name, on one line -/
theorem ds_setLcH {i : Nat} {y : Str} {py spos : Pos} (o : Bool) (hc : HotC X) (hN : X.N.Nodup) (hy : X.N[i]? = some y) (hyl : X.env.scope.names.lookup y = some .local)
    (hsw : swapsWith (.ListComp elt [⟨tg, iter, ifs, 0⟩] scope pos) (some (.Name y py)) spos.line X.env = pure true) (hi : DIH X Γ tg iter ti) (ok : BlkOk X.N X.env.scope scope own)
    (hg : ∀ (s : Shared) (H : Hp) (C : Addr) (cl : List (Str × Addr)) (fp : List Addr), DTg (blkXH X s H scope C cl fp) tg t)
    (ht : ∀ (s : Shared) (H : Hp) (C : Addr) (cl : List (Str × Addr)) (fp : List Addr), DIfs (blkXH X s H scope C cl fp) Γ ifs tt)
    (he : ∀ (s : Shared) (H : Hp) (C : Addr) (cl : List (Str × Addr)) (fp : List Addr), DE (blkXH X s H scope C cl fp) Γ elt te)
    (hvs : ∀ i ∈ t.vs, i ∈ own.map (·.2) := by decide) (hp0 : (own.map (·.2)).all (fun i => !Γ.idx.contains i) = true := by rfl) (hpi : Γ.idx.contains i = false := by rfl) (hs : ∀ x, foldedSetIterable iter X.env x = pure x := by intro _; rfl) :
    DS X Γ (.Assign [.Name y py] (.ListComp elt [⟨tg, iter, ifs, 0⟩] scope pos) spos) (if o then sAsgG i (gComp (own.map (·.2)) t ti tt te) else sAsg i (gFz (gComp (own.map (·.2)) t ti tt te))) :=
  ⟨fun W tk => PS.imp (ps_setLcH hc hN hy hyl hsw (hi.run W tk) ok (fun s H C cl fp => (hg s H C cl fp).run) (fun s H C cl fp => (ht s H C cl fp).run) (fun s H C cl fp => (he s H C cl fp).run W0 tk0) hs) fun D σ H h => by
    cases o with
    | true =>
      refine up_lc (W := W) (tt := tt) (te := te) (τ := .own i) (by intro z; cases z) hvs (pin_all hp0) ?_
      obtain ⟨ω, δ, R, h⟩ := h
      refine up_fl (t := gComp (own.map (·.2)) t ti tt te) R h fun v H1 ω1 δ1 x e1 R1 i1 h1 => ?_
      obtain ⟨a, vs, ds, rfl, rfl, o, hl, l⟩ := i1
      exact h1 _ H1 ω1 (Ext.refl _ _) (R1.put hpi ⟨a, vs, ds, rfl, rfl, o, hl, l⟩)
    | false =>
      refine up_lc (W := W) (tt := tt) (te := te) (τ := .fz) (by intro z; cases z) hvs (pin_all hp0) ?_
      obtain ⟨ω, δ, R, h⟩ := h
      have h : okS X.K Γ W ω H (DL.R.fl (gComp (own.map (·.2)) t ti tt te δ) fun d δ1 => .nx (δ1.set i (some (0, d)))) D := by
        have h0 : okS X.K Γ W ω H (DL.R.fl (DL.R.bind (gComp (own.map (·.2)) t ti tt te δ) fun d δ1 => .ok (.fz d) δ1) (putF i)) D := h
        revert h0
        cases gComp (own.map (·.2)) t ti tt te δ with
        | ok d δ1 => exact id
        | exc c ns ds δ1 => exact id
        | stuck => exact id
      refine up_fl (t := gComp (own.map (·.2)) t ti tt te) R h fun v H1 ω1 δ1 x e1 R1 i1 h1 => ?_
      exact h1 _ H1 ω1 (Ext.refl _ _) (R1.put hpi ⟨v, rfl, i1⟩)⟩
end
end DL

set_option Elab.async false
set_option linter.all false
set_option maxRecDepth 100000
set_option maxHeartbeats 2000000
/-! ### enumerate of a tuple -/
namespace PySem
open Sem (wp)
set_option maxHeartbeats 1000000 in
theorem meets_enumerate_newB1 {v : Value} {o : Obj} {H : Heap → Prop} (B : Begins v o H) :
    Meets (Builtin.«enumerate.__new__» ⟨[.type "enumerate", v], []⟩) (fun _ R s => H s.heap ∧
      R (.ok (.ret (.ref (s.heap.push o).objs.size))) { s with heap := (s.heap.push o).push { cls := .type "enumerate", data := .fields #[.none, .bool false, .ref s.heap.objs.size, rawInt 0, .none, .none] } }) :=
  .of_wp fun prog w A R s h => by
    obtain ⟨hp, g, d, tk, os⟩ := s; obtain ⟨h1, h⟩ := h
    have hsub := sub_enumerate
    have q1 : ∀ {A' : Around} {E : Value → Shared → Prop} {Q : Value → Shared → Prop}, Q (.ref hp.objs.size) ⟨hp.push o, g, d, tk, os⟩ → wpAny (model prog w) A' (pyIter v) Q E ⟨hp, g, d, tk, os⟩ :=
      fun q => B.iter prog w _ _ ⟨hp, g, d, tk, os⟩ _ h1 q
    wp_walk using q1
    refine wpAny_stack_any fun st => wpAny_pure ?_
    split
    · rename_i c _ _ _ _ _
      cases (c == Value.type "enumerate")
      · wp_walk using q1
        exact ⟨_, rfl, h⟩
      · wp_walk using q1
        exact ⟨_, rfl, h⟩
    · wp_walk using q1
      exact ⟨_, rfl, h⟩
theorem enum_begins1 {prog : Program} {w : World} {A : Around} {E : Value → Shared → Prop} {s : Shared} {v : Value} {o : Obj} {H : Heap → Prop} {Q : Value → Shared → Prop} (B : Begins v o H) (h1 : H s.heap)
    (h : ∀ h', IsEnum h' (s.heap.objs.size + 1) s.heap.objs.size 0 .none → h'.get? s.heap.objs.size = some o → h'.objs.size = s.heap.objs.size + 2 →
      (∀ b o, s.heap.get? b = some o → h'.get? b = some o) → Q (.ref (s.heap.objs.size + 1)) { s with heap := h' }) :
    wpAny (model prog w) A (call (.type "enumerate") [v]) Q E s := by
  refine callType_new F.called_enumerate (by decide) (F.typeCall_enumerate_1 _) (F.newCall_enumerate_1 _) (fun obj => F.args_object_init_2 obj _) F.entry_enumerate_new
    (meets_enumerate_newB1 B) ⟨h1, ?_⟩
  have hz : (s.heap.push o).objs.size = s.heap.objs.size + 1 := Heap.size_push ..
  show _ ∧ _
  rw [hz]
  have he : IsEnum ((s.heap.push o).push { cls := .type "enumerate", data := .fields #[.none, .bool false, .ref s.heap.objs.size, rawInt 0, .none, .none] }) (s.heap.objs.size + 1) s.heap.objs.size 0 .none := by
    have := Heap.get?_push_size (s.heap.push o) (o := { cls := .type "enumerate", data := .fields #[.none, .bool false, .ref s.heap.objs.size, rawInt 0, .none, .none] }) rfl
    rw [hz] at this; exact this
  refine ⟨⟨_, he, rfl⟩, h _ he (Heap.get?_push_of_some _ (Heap.get?_push_size _ B.free)) (by rw [Heap.size_push, hz]) fun b o x => Heap.get?_push_of_some _ (Heap.get?_push_of_some _ x)⟩
end PySem
namespace DL
open PySem PySem.Spec PyProof.Rows L2
def IteT (K : PySem.W.Frag) (a : Addr) : It :=
  ⟨fun i H => ∃ (xs : List V) (x : V), SqT K H a xs ∧ xs[i]? = some x, fun i H v H' => ∃ T x, v = .ref T ∧ H T = none ∧ H' = upd H T (.tup [.int (i : Nat), x]) ∧ ∀ xs, SqT K H a xs → xs[i]? = some x, fun i H => ∃ xs : List V, SqT K H a xs ∧ xs.length ≤ i⟩
theorem turn_enumT {P : Program} {w : World} {K : PySem.W.Frag} {elts : List Expr} {kk : Nat} {tpos : Pos} {a e it : Addr} (ai : a ≠ it) (ae : a ≠ e) :
    Turn P w K (.Tuple elts kk tpos) (IteT K a) [e, it] e (fun i h => (∃ old, IsEnum h e it ((i : Nat) : Int) old) ∧ h.IsTupleIter it a i ∧ e ≠ it) where
  mem := by simp
  obj := fun i h st b hb => by
    obtain ⟨⟨old, he⟩, ⟨o, ho, hc, hd⟩, _⟩ := st
    have e' : b = e ∨ b = it := by simpa using hb
    rcases e' with z | z
    · rw [z]; exact ⟨_, he, fun v q => nomatch q⟩
    · rw [z]; exact ⟨o, ho, fun v q => by rw [hd] at q; cases q⟩
  keep := fun i h h' st k => let ⟨⟨old, he⟩, hi, hne⟩ := st; ⟨⟨old, k e (by simp) _ he⟩, hi.at fun o q => k it (by simp) o q, hne⟩
  item := by
    intro X hP hw hK hc i pins s σ H E I hf st hg
    subst hP hw hK
    obtain ⟨⟨old, he⟩, hit, hne⟩ := st
    obtain ⟨xs, x, hq, hx⟩ := hg
    obtain ⟨its, rv, p, hz⟩ := I.tuple hq
    obtain ⟨u, hu, ru⟩ := rv.get hx
    have hel : e < s.heap.objs.size := Heap.lt_size he
    have hil : it < s.heap.objs.size := by obtain ⟨_, q, _⟩ := hit; exact Heap.lt_size q
    have hsz0 : i < its.toArray.size := by
      have := (List.getElem?_eq_some_iff.mp hu).1
      simpa using this
    have D := Draws.tuple (prog := X.prog) (w := X.w) (A := X.A.in1) (I.ok.hd hc) it a ai its.toArray
    refine wpAny_pyNext_enum_itemD D he ⟨hit, show s.heap.IsTuple a its.toArray from p⟩ hsz0 hne (by simp only [List.mem_cons, List.not_mem_nil, or_false, not_or]; exact ⟨hne, fun z => ae z.symm⟩) fun x' h' tk hP ho hst' hT hsz hk => ?_
    have ex : x' = u := by
      have z : its.toArray[i]? = some x' := hP
      have z2 : its[i]? = some x' := by simpa using z
      rw [hu] at z2
      exact (Option.some.inj z2).symm
    subst ex
    have hit' := hst'.1
    refine ⟨_, rfl, wpAny_letOwnedTupleGo_enum (s := { s with heap := h', toks := tk + 1 }) ho fun h'' he' sb => ?_⟩
    have hT2 : h''.get? s.heap.objs.size = some { cls := .type "tuple", data := .seq #[.int i tk, x'] } := (sb.2 _ (Nat.ne_of_gt hel)).trans hT
    have new : ObjOk X.prog X.w (upd H s.heap.objs.size (.tup [.int (i : Nat), x])) h'' s.heap.objs.size (.tup [.int (i : Nat), x]) :=
      ⟨by show 2 ≤ sizeLine; decide, [.int i tk, x'], .cons ⟨_, rfl⟩ (.cons ru .nil), ⟨_, hT2, rfl, _, rfl⟩⟩
    have I1 : Inv X pins σ (upd H s.heap.objs.size (.tup [.int (i : Nat), x])) { s with heap := h'', toks := tk + 1 } :=
      I.turnedNew (ch := [e, it]) (fun b ob hb q => (sb.2 b (fun z => hb (by simp [z]))).trans (hk b ob (fun z => hb (by simp [z])) (fun z => hb (by simp [z])) q)) hf (Nat.le_refl _) new
    refine ⟨.ref s.heap.objs.size, _, I1, rfl, ⟨_, x, rfl, I.hok.fresh (Nat.le_refl _), rfl, fun ys hy => by rw [I.tuple_inj hy hq]; exact hx⟩, ⟨⟨x', ?_⟩, hit'.at fun o q => (sb.2 it (Ne.symm hne)).trans q, hne⟩, fun b hb => ?_⟩
    · have e1 : ((i + 1 : Nat) : Int) = (i : Int) + 1 := by omega
      rw [e1]; exact he'
    · have hb' : b < s.heap.objs.size := by
        have e' : b = e ∨ b = it := by simpa using hb
        rcases e' with z | z
        · rw [z]; exact hel
        · rw [z]; exact hil
      rw [upd_ne (Nat.ne_of_lt hb')]
      exact (hf b hb).1
  done := by
    intro X hP hw hK hc i pins s σ H E I hf st hg
    subst hP hw hK
    obtain ⟨⟨old, he⟩, hit, hne⟩ := st
    obtain ⟨xs, hq, hx⟩ := hg
    obtain ⟨its, rv, p, hz⟩ := I.tuple hq
    obtain ⟨f0, f1, f2, f3, f4, f5⟩ := hf it (by simp)
    have hl := rv.length
    have hT : s.TypeIs (.ref e) "enumerate" := ⟨_, he, rfl⟩
    unfold pyNext
    refine wpAny_bind (wpAny_attempt (wpAny_callSpecial?_slot (name := Str.ofString "__next__") hT PySem.F.slot_enumerate_next
      (wpAny_call_entry PySem.F.slot_enumerate_next hT PySem.F.entry_enumerate_next ?_ (PySem.F.args_enumerate_next_1 _))))
    show wpAny _ _ (field (.ref e) 2 >>= _) _ _ _
    refine wpAny_bind (wpAny_field he rfl (x := .ref it) rfl ?_)
    refine wpAny_bind (wpAny_nextOf_tuple_end (I.ok.hd hc) hit (show s.heap.IsTuple a its.toArray from p) (by simp; omega) fun h' x he' hx' => ?_)
    obtain ⟨o, ho, hc2⟩ := hx'
    refine wpAny_bind (wpAny_isInstance (T := "StopIteration") (b := true) ⟨o, ho, hc2⟩ isSubtype_stop ?_)
    exact wpAny_pure ⟨rfl, I.turned (t' := s.toks) (fun b o hb q => he' b o hb q) f0 f1 f3 f4 f5⟩
  self := fun A i s Q E st h => let ⟨⟨_, he⟩, _⟩ := st; wpAny_pyIter_enum he h
def iEnumT (K : PySem.W.Frag) (ta : TA) : TI := fun σ H R => ta σ H fun vs H1 => ∃ a xs, vs = [.ref a] ∧ SqT K H1 a xs ∧ R (IteT K a) H1
theorem pi_enumT {X : Cx} {e : Expr} {ta : TA} {p pos tpos : Pos} {elts : List Expr} {kk : Nat} (hg : Gl X "enumerate") (hm : X.mg "enumerate" = none) (ha : PA X [e] ta) (hs : starEach [e] X.env = [(false, eval e X.env)] := by rfl) :
    PI X (.Tuple elts kk tpos) (.Call (.Name "enumerate" p) [e] [] pos) (iEnumT X.K ta) := by
  refine ⟨fun pins s σ H R I h => ?_⟩
  refine Call_ (ld_blt I hg hm boot_enumerate (PyProof.Rows.callWith_type1 (thn (ha.run pos pins s σ H _ I h) fun us s1 ⟨vs, H1, I1, r1, q1⟩ => ?_) hs rfl))
  obtain ⟨a, xs, ex, hq, q⟩ := q1
  subst ex
  cases r1 with
  | cons r rr =>
    cases rr
    cases r
    obtain ⟨its, rv, p', hz⟩ := I1.tuple hq
    have hlt : a < s1.heap.objs.size := by
      obtain ⟨o, ho, _⟩ := (show s1.heap.IsTuple a its.toArray from p')
      exact Heap.lt_size ho
    refine enum_begins1 (begins_tuple a its.toArray) (show s1.heap.IsTuple a its.toArray from p') fun h' he hit hsz hk => wpAny_pyIter_enum he ?_
    have I2 : Inv X pins σ H1 { s1 with heap := h' } := I1.kept (t' := s1.toks) hk
    refine ⟨s1.heap.objs.size + 1, [s1.heap.objs.size + 1, s1.heap.objs.size], _, _, H1, rfl, I2, turn_enumT (a := a) (e := s1.heap.objs.size + 1) (it := s1.heap.objs.size) (Nat.ne_of_lt hlt) (Nat.ne_of_lt (Nat.lt_succ_of_lt hlt)), ⟨⟨.none, he⟩, ⟨_, hit, rfl, rfl⟩, Nat.succ_ne_self _⟩, fun b hb => ?_, q⟩
    have e' : b = s1.heap.objs.size + 1 ∨ b = s1.heap.objs.size := by simpa using hb
    have hle : s1.heap.objs.size ≤ b := by
      rcases e' with z | z
      · rw [z]; exact Nat.le_add_right _ _
      · rw [z]; exact Nat.le_refl _
    exact I1.fpOk hle (I1.hok.fresh hle)
theorem walk_enumT {K : PySem.W.Frag} {a : Addr} {xs : List V} : Walk (IteT K a) xs.length (fun H => SqT K H a xs) (YPair (fun i => some (.int (i : Nat))) (fun i => xs[i]?)) := by
  refine ⟨fun i _ hi q => ⟨xs, xs[i], q, by simp [hi]⟩, fun _ q => ⟨xs, q, Nat.le_refl _⟩, fun i H v H' _ q y => ?_⟩
  obtain ⟨T, x, h1, h2, h3, h4⟩ := y
  exact ⟨T, .int (i : Nat), x, h1, h2, h3, rfl, h4 xs q⟩
section
variable {X : Cx} {Γ : Gm} {a : Expr} {elts : List Expr} {kk : Nat} {p pos tpos : Pos}
/-- enumerate(list or tuple) -/
def iEn2 (t : TDA) : TDI := fun δ => (t δ).bind fun xs δ1 => match frzs δ1 xs with
  | some ([d], δ2) => (match items d with
    | some ds => .ok (enumD 0 ds) δ2
    | none => .stuck)
  | _ => .stuck
theorem di_enum2 {ta : TDA} (hm : X.mg "enumerate" = none) (ha : DA X Γ [a] ta) (hg : Gl X "enumerate" := by rfl) (hs : starEach [a] X.env = [(false, eval a X.env)] := by rfl) : DI X Γ (.Tuple elts kk tpos) (.Call (.Name "enumerate" p) [a] [] pos) (iEn2 ta) :=
  ⟨fun W tk => PI.imp (PI.or (pi_enum hg hm (ha.run W tk) hs) (pi_enumT hg hm (ha.run W tk) hs)) fun σ H P h => by
    obtain ⟨ω, δ, Rl, h⟩ := h
    unfold iEn2 at h
    cases q : ta δ with
    | stuck => rw [q] at h; exact h.elim
    | exc c ns ds δ1 =>
      rw [q] at h
      exact .inl ⟨ω, δ, Rl, by rw [q]; exact h⟩
    | ok xs δ1 =>
      rw [q] at h
      have h : okR X.K Γ W ω H σ (rlI X.K Γ) (match frzs δ1 xs with
        | some ([d], δ2) => (match items d with
          | some ds => R.ok (enumD 0 ds) δ2
          | none => R.stuck)
        | _ => R.stuck) P := h
      split at h
      · rename_i d δ2 qf
        cases d with
        | lst ds =>
          refine .inl ⟨ω, δ, Rl, ?_⟩
          rw [q]
          intro vs H1 ω1 X1 R1 i1
          obtain ⟨ω2, X2, R2, l2⟩ := frzs_ok R1 i1 qf
          obtain ⟨v, r, rfl, ⟨a, ws, rfl, n, l⟩, e0⟩ := l2
          cases (show r = [] from e0)
          refine ⟨a, ws, rfl, n.sq, h _ H1 ω2 (X1.trans X2) R2 ?_⟩
          refine walkD_pair (n := ws.length) walk_enum (by rw [enumD_len, l.length]) (fun ω' H' X' => (n.mono X'.f).sq) fun i x y hi hx hy => ?_
          cases hx
          obtain ⟨d, q1, q2⟩ := l.getV hy
          exact ⟨.int (i : Nat), d, by rw [enumD_at q1, Nat.zero_add], rfl, q2⟩
        | tup ds =>
          refine .inr ⟨ω, δ, Rl, ?_⟩
          rw [q]
          intro vs H1 ω1 X1 R1 i1
          obtain ⟨ω2, X2, R2, l2⟩ := frzs_ok R1 i1 qf
          obtain ⟨v, r, rfl, ⟨a, ws, rfl, n, l⟩, e0⟩ := l2
          cases (show r = [] from e0)
          refine ⟨a, ws, rfl, n.sq, h _ H1 ω2 (X1.trans X2) R2 ?_⟩
          refine walkD_pair (n := ws.length) walk_enumT (by rw [enumD_len, l.length]) (fun ω' H' X' => (n.mono X'.f).sq) fun i x y hi hx hy => ?_
          cases hx
          obtain ⟨d, q1, q2⟩ := l.getV hy
          exact ⟨.int (i : Nat), d, by rw [enumD_at q1, Nat.zero_add], rfl, q2⟩
        | brw ds =>
          refine .inl ⟨ω, δ, Rl, ?_⟩
          rw [q]
          intro vs H1 ω1 X1 R1 i1
          obtain ⟨ω2, X2, R2, l2⟩ := frzs_ok R1 i1 qf
          obtain ⟨v, r, rfl, ⟨a, ws, rfl, n, n2, l⟩, e0⟩ := l2
          cases (show r = [] from e0)
          refine ⟨a, ws, rfl, SqL.of n2, h _ H1 ω2 (X1.trans X2) R2 ?_⟩
          refine walkD_pair (n := ws.length) walk_enum (by rw [enumD_len, l.length]) (fun ω' H' X' => SqL.of ((X'.bo a n).2.trans n2)) fun i x y hi hx hy => ?_
          cases hx
          obtain ⟨d, q1, q2⟩ := l.getV hy
          exact ⟨.int (i : Nat), d, by rw [enumD_at q1, Nat.zero_add], rfl, q2⟩
        | _ => exact h.elim
      · exact h.elim⟩
end
end DL

set_option Elab.async false
set_option linter.all false
set_option maxRecDepth 100000
namespace DL
open PySem PySem.Spec PyProof.Rows L2
/-! ### lists lent while an expression is worked out -/
def lnD (js : List Nat) : Nat → DSt → DSt
  | _, [] => []
  | i, e :: r => (match e with
    | some (1, .lst ds) => if js.contains i = true then some (0, .brw ds) else some (1, .lst ds)
    | e => e) :: lnD js (i + 1) r
/-- the slots behind: those lent are as they were, other own ones as they are now -/
def mrg (js : List Nat) : Nat → DSt → DSt → Option DSt
  | _, [], [] => some []
  | i, e :: r, y :: r2 => (match e with
    | some (1, d) => if js.contains i = true then (mrg js (i + 1) r r2).map (some (1, d) :: ·) else (match y with
      | some (k, d2) => if nob d2 = true then (mrg js (i + 1) r r2).map (some (k, d2) :: ·) else none
      | none => (mrg js (i + 1) r r2).map (none :: ·))
    | e => (mrg js (i + 1) r r2).map (e :: ·))
  | _, _, _ => none
def nobV : Vl → Bool
  | .fz d => nob d
  | .sl _ => true
def eBor (js : List Nat) (t : TD) : TD := fun δ => match t (lnD js 0 δ) with
  | .ok x δ2 => if nobV x = true then (match mrg js 0 δ δ2 with
    | some δ3 => .ok x δ3
    | none => .stuck) else .stuck
  | .exc c ns ds δ2 => if nobL ds = true then (match mrg js 0 δ δ2 with
    | some δ3 => .exc c ns ds δ3
    | none => .stuck) else .stuck
  | .stuck => .stuck
def lnO (ω : Om) (js : List Nat) : Om := fun b => match ω b with
  | .own i => if js.contains i = true then .bor else .own i
  | t => t
def bkO (ω : Om) (js : List Nat) (ω2 : Om) : Om := fun b => match ω b with
  | .own i => if js.contains i = true then .own i else ω2 b
  | _ => ω2 b
theorem lnD_len (js : List Nat) : ∀ (i : Nat) (δ : DSt), (lnD js i δ).length = δ.length
  | _, [] => rfl
  | i, e :: r => by unfold lnD; rw [List.length_cons, List.length_cons, lnD_len js (i + 1) r]
theorem lnD_at (js : List Nat) : ∀ (k : Nat) (δ : DSt) (i : Nat) (e : Option (Nat × D)), (lnD js k δ)[i]? = some e → ∃ e0, δ[i]? = some e0 ∧ ((∃ ds, e0 = some (1, .lst ds) ∧ js.contains (k + i) = true ∧ e = some (0, .brw ds)) ∨ (e = e0 ∧ ∀ ds, e0 = some (1, .lst ds) → js.contains (k + i) = false))
  | k, [], i, e, h => by unfold lnD at h; simp at h
  | k, e0 :: r, 0, e, h => by
    unfold lnD at h
    rw [List.getElem?_cons_zero] at h
    replace h := Option.some.inj h
    refine ⟨e0, by simp, ?_⟩
    split at h
    · rename_i ds
      by_cases z : js.contains k = true
      · rw [if_pos z] at h
        exact .inl ⟨ds, rfl, by rw [Nat.add_zero]; exact z, h.symm⟩
      · rw [if_neg z] at h
        exact .inr ⟨h.symm, fun _ _ => by rw [Nat.add_zero]; simpa using z⟩
    · rename_i hne
      exact .inr ⟨h.symm, fun ds q => absurd q (hne ds)⟩
  | k, e0 :: r, i + 1, e, h => by
    unfold lnD at h
    rw [List.getElem?_cons_succ] at h
    obtain ⟨e1, a, b⟩ := lnD_at js (k + 1) r i e h
    rw [show k + 1 + i = k + (i + 1) by omega] at b
    exact ⟨e1, by simpa using a, b⟩
theorem mrg_at (js : List Nat) : ∀ (k : Nat) (δ δ2 δ3 : DSt), mrg js k δ δ2 = some δ3 → δ3.length = δ.length ∧ ∀ (i : Nat) (e : Option (Nat × D)), δ3[i]? = some e → ∃ e0, δ[i]? = some e0 ∧ (e = e0 ∧ (∀ d, e0 = some (1, d) → js.contains (k + i) = true) ∨ ∃ d y, e0 = some (1, d) ∧ js.contains (k + i) = false ∧ δ2[i]? = some y ∧ e = y ∧ ∀ l d2, y = some (l, d2) → nob d2 = true)
  | k, [], [], δ3, h => by cases h; exact ⟨rfl, fun i e q => by simp at q⟩
  | k, [], _ :: _, δ3, h => by cases h
  | k, _ :: _, [], δ3, h => by unfold mrg at h; cases h
  | k, e0 :: r, y :: r2, δ3, h => by
    have go : ∀ (e : Option (Nat × D)), (mrg js (k + 1) r r2).map (e :: ·) = some δ3 → (e = e0 ∧ (∀ d, e0 = some (1, d) → js.contains (k + 0) = true) ∨ ∃ d y1, e0 = some (1, d) ∧ js.contains (k + 0) = false ∧ (y :: r2)[0]? = some y1 ∧ e = y1 ∧ ∀ l d2, y1 = some (l, d2) → nob d2 = true) →
        δ3.length = (e0 :: r).length ∧ ∀ (i : Nat) (e : Option (Nat × D)), δ3[i]? = some e → ∃ e1, (e0 :: r)[i]? = some e1 ∧ (e = e1 ∧ (∀ d, e1 = some (1, d) → js.contains (k + i) = true) ∨ ∃ d y1, e1 = some (1, d) ∧ js.contains (k + i) = false ∧ (y :: r2)[i]? = some y1 ∧ e = y1 ∧ ∀ l d2, y1 = some (l, d2) → nob d2 = true) := fun e q hz => by
      cases qm : mrg js (k + 1) r r2 with
      | none => rw [qm] at q; cases q
      | some w =>
        rw [qm] at q
        replace q := Option.some.inj q
        subst q
        obtain ⟨l1, l2⟩ := mrg_at js (k + 1) r r2 w qm
        refine ⟨by rw [List.length_cons, List.length_cons, l1], fun i e' hi => ?_⟩
        cases i with
        | zero =>
          have : e = e' := by simpa using hi
          subst this
          exact ⟨e0, by simp, hz⟩
        | succ i =>
          obtain ⟨e1, a, b⟩ := l2 i e' (by simpa using hi)
          rw [show k + 1 + i = k + (i + 1) by omega] at b
          exact ⟨e1, by simpa using a, by simpa using b⟩
    unfold mrg at h
    split at h
    · rename_i d
      by_cases z : js.contains k = true
      · rw [if_pos z] at h
        exact go _ h (.inl ⟨rfl, fun _ _ => by rw [Nat.add_zero]; exact z⟩)
      · rw [if_neg z] at h
        replace z : js.contains k = false := by simpa using z
        split at h
        · rename_i l d2
          by_cases n : nob d2 = true
          · rw [if_pos n] at h
            exact go _ h (.inr ⟨d, _, rfl, by rw [Nat.add_zero]; exact z, rfl, rfl, fun l' d' q => by cases q; exact n⟩)
          · rw [if_neg n] at h; cases h
        · exact go _ h (.inr ⟨d, _, rfl, by rw [Nat.add_zero]; exact z, rfl, rfl, fun l' d' q => by cases q⟩)
    · rename_i hne
      exact go _ h (.inl ⟨rfl, fun d q => absurd q (hne d)⟩)
section
variable {K : Frag} {Γ : Gm} {W : WX} {ω ω2 : Om} {H H2 : Hp} {σ : L2.St} {δ δ2 δ3 : DSt} {js : List Nat}
theorem lnO_ext : Ext ω H (lnO ω js) H :=
  ⟨fun b h => ⟨by unfold lnO; rcases h with h | h <;> rw [h], rfl⟩, fun b o h h' => ⟨by unfold lnO; rw [h'], h⟩⟩
theorem lnO_own {b : Addr} {i : Nat} (h : ω b = .own i) (z : js.contains i = false) : lnO ω js b = .own i := by
  unfold lnO; rw [h]; dsimp only; rw [if_neg (by rw [z]; decide)]
theorem lnO_bor {b : Addr} {i : Nat} (h : ω b = .own i) (z : js.contains i = true) : lnO ω js b = .bor := by
  unfold lnO; rw [h]; dsimp only; rw [if_pos z]
theorem lend_rel (R : Rel K Γ ω H σ δ) : Rel K Γ (lnO ω js) H σ (lnD js 0 δ) := by
  refine ⟨fun b h => R.wf b fun z => h (by unfold lnO; rw [z]), by rw [lnD_len]; exact R.len, fun i e h => ?_, R.pin⟩
  obtain ⟨e0, h0, h1⟩ := lnD_at js 0 δ i e h
  rw [Nat.zero_add] at h1
  have s := R.sl i e0 h0
  have F : Fz ω H (lnO ω js) H := lnO_ext.f
  rcases h1 with ⟨ds, rfl, z, rfl⟩ | ⟨rfl, z⟩
  · obtain ⟨a, vs, ds', e1, e2, o, q, l⟩ := s
    cases e2
    exact ⟨.ref a, e1, a, vs, rfl, lnO_bor o z, q, l.mono F⟩
  · match e, s, z with
    | none, _, _ => trivial
    | some (0, d), ⟨v, e1, s⟩, _ => exact ⟨v, e1, s.mono F⟩
    | some (1, d), ⟨a, vs, ds, e1, e2, o, q, l⟩, z =>
      exact ⟨a, vs, ds, e1, e2, lnO_own o (z ds (by rw [e2])), q, l.mono F⟩
theorem back_ext (R : Rel K Γ ω H σ δ) (X : Ext (lnO ω js) H ω2 H2) : Ext ω H (bkO ω js ω2) H2 := by
  refine ⟨fun b h => ?_, fun b o h h' => ?_⟩
  · have e : lnO ω js b = ω b := by unfold lnO; rcases h with h | h <;> rw [h]
    have x := X.fx b (by rw [e]; exact h)
    rw [e] at x
    refine ⟨?_, x.2⟩
    unfold bkO
    rcases h with h | h <;> (rw [h]; dsimp only; rw [x.1, h])
  · have e : lnO ω js b = .out := by unfold lnO; rw [h']
    have x := X.out b o h e
    exact ⟨by unfold bkO; rw [h']; exact x.1, x.2⟩
theorem back_fz (X : Ext (lnO ω js) H ω2 H2) : Fz0 ω2 H2 (bkO ω js ω2) H2 := fun b h => by
  refine ⟨?_, rfl⟩
  unfold bkO
  split
  · rename_i i q
    by_cases z : js.contains i = true
    · have x := (X.bo b (lnO_bor q z)).1
      rw [h] at x; cases x
    · rw [if_neg z]; exact h
  · exact h
theorem back_own (X : Ext (lnO ω js) H ω2 H2) {b : Addr} {k : Nat} (h : ω2 b = .own k) : bkO ω js ω2 b = .own k := by
  unfold bkO
  split
  · rename_i i q
    by_cases z : js.contains i = true
    · have x := (X.bo b (lnO_bor q z)).1
      rw [h] at x; cases x
    · rw [if_neg z]; exact h
  · exact h
theorem back_rel (R : Rel K Γ ω H σ δ) (X : Ext (lnO ω js) H ω2 H2) (R2 : Rel K Γ ω2 H2 σ δ2) (e : mrg js 0 δ δ2 = some δ3) : Rel K Γ (bkO ω js ω2) H2 σ δ3 := by
  obtain ⟨m1, m2⟩ := mrg_at js 0 δ δ2 δ3 e
  have X4 := back_ext R X
  refine ⟨fun b h => ?_, by rw [m1]; exact R.len, fun i e' h => ?_, R.pin⟩
  · unfold bkO at h
    split at h
    · rename_i k q
      by_cases z : js.contains k = true
      · obtain ⟨o, ho⟩ := R.wf b (by rw [q]; intro z; cases z)
        exact ⟨o, ((X.bo b (lnO_bor q z)).2).trans ho⟩
      · rw [if_neg z] at h
        exact R2.wf b h
    · exact R2.wf b h
  · obtain ⟨e0, h0, h1⟩ := m2 i e' h
    rw [Nat.zero_add] at h1
    rcases h1 with ⟨rfl, z⟩ | ⟨d, y, rfl, z, h2, rfl, n⟩
    · have s := R.sl i e' h0
      match e', s, z with
      | none, _, _ => trivial
      | some (0, d), ⟨v, e1, s⟩, _ => exact ⟨v, e1, s.mono X4.f⟩
      | some (1, d), ⟨a, vs, ds, e1, e2, o, q, l⟩, z =>
        have hz := z d rfl
        refine ⟨a, vs, ds, e1, e2, ?_, ((X.bo a (lnO_bor o hz)).2).trans q, l.mono X4.f⟩
        unfold bkO
        rw [o]
        dsimp only
        rw [if_pos hz]
    · have s := R2.sl i e' h2
      match e', s, n with
      | none, _, _ => trivial
      | some (0, d), ⟨v, e1, s⟩, n => exact ⟨v, e1, s.mono0 (back_fz X) (n _ _ rfl)⟩
      | some (1, d), ⟨a, vs, ds, e1, e2, o, q, l⟩, n =>
        have nn := n _ _ rfl
        rw [e2] at nn
        exact ⟨a, vs, ds, e1, e2, back_own X o, q, l.mono0 (back_fz X) (by unfold nob at nn; exact nn)⟩
end
theorem de_bor {X : Cx} {Γ : Gm} {e : Expr} {t : TD} (js : List Nat) (h : DE X Γ e t) : DE X Γ e (eBor js t) := ⟨fun W tk => PE.imp (h.run W tk) fun σ H Q hq => by
  obtain ⟨ω, δ, R, hq⟩ := hq
  refine ⟨lnO ω js, lnD js 0 δ, lend_rel R, ?_⟩
  unfold eBor at hq
  cases q : t (lnD js 0 δ) with
  | stuck => rw [q] at hq; exact hq
  | ok x δ2 =>
    rw [q] at hq
    dsimp only at hq
    intro v H2 ω2 X2 R2 i2
    by_cases n : nobV x = true
    · rw [if_pos n] at hq
      cases qm : mrg js 0 δ δ2 with
      | none => rw [qm] at hq; exact hq.elim
      | some δ3 =>
        rw [qm] at hq
        refine hq v H2 (bkO ω js ω2) (back_ext R X2) (back_rel R X2 R2 qm) ?_
        cases x with
        | fz d => exact Is.mono0 (back_fz X2) n i2
        | sl i => exact i2
    · rw [if_neg n] at hq; exact hq.elim
  | exc c ns ds δ2 =>
    rw [q] at hq
    dsimp only at hq
    intro d H2 ω2 X2 R2 i2
    by_cases n : nobL ds = true
    · rw [if_pos n] at hq
      cases qm : mrg js 0 δ δ2 with
      | none => rw [qm] at hq; exact hq.elim
      | some δ3 =>
        rw [qm] at hq
        refine hq d H2 (bkO ω js ω2) (back_ext R X2) (back_rel R X2 R2 qm) ?_
        rcases i2 with i2 | ⟨e, ws, e1, e2, e3, e4, e5⟩
        · exact .inl i2
        · exact .inr ⟨e, ws, e1, (back_fz X2 e e2).1, e3, e4, IsL.mono0 (back_fz X2) n e5⟩
    · rw [if_neg n] at hq; exact hq.elim⟩
end DL

set_option Elab.async false
set_option linter.all false
namespace DL
open PySem L2
theorem isi_k {d : D} {n m : String} {b : Bool} (h : tyD d = some n) (k : kitB n m = some b) : isiD d (.ty m) = some (.bl b) := by
  unfold isiD
  dsimp only
  rw [h]
  dsimp only
  rw [k]
  rfl
variable {b : Bool} {i : Int} {x : Str} {xs : List D}
theorem isN_non : DL.isNon .non = true := id rfl
theorem isi_non_tuple : isiD .non (.ty "tuple") = some (.bl false) := isi_k (n := "NoneType") rfl (by decide +kernel)
theorem isi_non_list : isiD .non (.ty "list") = some (.bl false) := isi_k (n := "NoneType") rfl (by decide +kernel)
theorem isi_non_bool : isiD .non (.ty "bool") = some (.bl false) := isi_k (n := "NoneType") rfl (by decide +kernel)
theorem isi_non_int : isiD .non (.ty "int") = some (.bl false) := isi_k (n := "NoneType") rfl (by decide +kernel)
theorem isi_non_str : isiD .non (.ty "str") = some (.bl false) := isi_k (n := "NoneType") rfl (by decide +kernel)
theorem isN_bl : DL.isNon (.bl b) = false := id rfl
theorem isi_bl_tuple : isiD (.bl b) (.ty "tuple") = some (.bl false) := isi_k (n := "bool") rfl (by decide +kernel)
theorem isi_bl_list : isiD (.bl b) (.ty "list") = some (.bl false) := isi_k (n := "bool") rfl (by decide +kernel)
theorem isi_bl_bool : isiD (.bl b) (.ty "bool") = some (.bl true) := isi_k (n := "bool") rfl (by decide +kernel)
theorem isi_bl_int : isiD (.bl b) (.ty "int") = some (.bl true) := isi_k (n := "bool") rfl (by decide +kernel)
theorem isi_bl_str : isiD (.bl b) (.ty "str") = some (.bl false) := isi_k (n := "bool") rfl (by decide +kernel)
theorem isN_int : DL.isNon (.int i) = false := id rfl
theorem isi_int_tuple : isiD (.int i) (.ty "tuple") = some (.bl false) := isi_k (n := "int") rfl (by decide +kernel)
theorem isi_int_list : isiD (.int i) (.ty "list") = some (.bl false) := isi_k (n := "int") rfl (by decide +kernel)
theorem isi_int_bool : isiD (.int i) (.ty "bool") = some (.bl false) := isi_k (n := "int") rfl (by decide +kernel)
theorem isi_int_int : isiD (.int i) (.ty "int") = some (.bl true) := isi_k (n := "int") rfl (by decide +kernel)
theorem isi_int_str : isiD (.int i) (.ty "str") = some (.bl false) := isi_k (n := "int") rfl (by decide +kernel)
theorem isN_str : DL.isNon (.str x) = false := id rfl
theorem isi_str_tuple : isiD (.str x) (.ty "tuple") = some (.bl false) := isi_k (n := "str") rfl (by decide +kernel)
theorem isi_str_list : isiD (.str x) (.ty "list") = some (.bl false) := isi_k (n := "str") rfl (by decide +kernel)
theorem isi_str_bool : isiD (.str x) (.ty "bool") = some (.bl false) := isi_k (n := "str") rfl (by decide +kernel)
theorem isi_str_int : isiD (.str x) (.ty "int") = some (.bl false) := isi_k (n := "str") rfl (by decide +kernel)
theorem isi_str_str : isiD (.str x) (.ty "str") = some (.bl true) := isi_k (n := "str") rfl (by decide +kernel)
theorem isN_lst : DL.isNon (.lst xs) = false := id rfl
theorem isi_lst_tuple : isiD (.lst xs) (.ty "tuple") = some (.bl false) := isi_k (n := "list") rfl (by decide +kernel)
theorem isi_lst_list : isiD (.lst xs) (.ty "list") = some (.bl true) := isi_k (n := "list") rfl (by decide +kernel)
theorem isi_lst_bool : isiD (.lst xs) (.ty "bool") = some (.bl false) := isi_k (n := "list") rfl (by decide +kernel)
theorem isi_lst_int : isiD (.lst xs) (.ty "int") = some (.bl false) := isi_k (n := "list") rfl (by decide +kernel)
theorem isi_lst_str : isiD (.lst xs) (.ty "str") = some (.bl false) := isi_k (n := "list") rfl (by decide +kernel)
theorem isN_tup : DL.isNon (.tup xs) = false := id rfl
theorem isi_tup_tuple : isiD (.tup xs) (.ty "tuple") = some (.bl true) := isi_k (n := "tuple") rfl (by decide +kernel)
theorem isi_tup_list : isiD (.tup xs) (.ty "list") = some (.bl false) := isi_k (n := "tuple") rfl (by decide +kernel)
theorem isi_tup_bool : isiD (.tup xs) (.ty "bool") = some (.bl false) := isi_k (n := "tuple") rfl (by decide +kernel)
theorem isi_tup_int : isiD (.tup xs) (.ty "int") = some (.bl false) := isi_k (n := "tuple") rfl (by decide +kernel)
theorem isi_tup_str : isiD (.tup xs) (.ty "str") = some (.bl false) := isi_k (n := "tuple") rfl (by decide +kernel)
end DL

set_option Elab.async false
set_option linter.all false
set_option maxRecDepth 100000
namespace DL
open PySem L2
/-! ### a logic of the mirrors: no program in sight -/
abbrev XE := Str → List Str → List D → DSt → Prop
def RW {α : Type} (r : R α) (Q : α → DSt → Prop) (E : XE) : Prop := match r with
  | .ok a δ => Q a δ
  | .exc c ns ds δ => E c ns ds δ
  | .stuck => False
def FW (f : Fl) (nx : DSt → Prop) (rt : Vl → DSt → Prop) (rg : D → DSt → Prop) (bk ct : DSt → Prop) (ex : XE) : Prop := match f with
  | .nx δ => nx δ
  | .rt x δ => rt x δ
  | .rg x δ => rg x δ
  | .bk δ => bk δ
  | .ct δ => ct δ
  | .ex c ns ds δ => ex c ns ds δ
  | .stuck => False
def MW0 (r : FR) (Q G : D → List D → Prop) (E : Str → List Str → List D → List D → Prop) : Prop := match r with
  | .ok r ms => Q r ms
  | .rg r ms => G r ms
  | .exc c ns ds ms => E c ns ds ms
  | .stuck => False
structure MW (r : FR) (Q G : D → List D → Prop) (E : Str → List Str → List D → List D → Prop) : Prop where
  h : MW0 r Q G E
theorem MW_d {r : FR} {Q G : D → List D → Prop} {E : Str → List Str → List D → List D → Prop} : MW r Q G E = MW0 r Q G E := propext ⟨fun z => z.h, fun z => ⟨z⟩⟩
section
variable {α β : Type} {Q : α → DSt → Prop} {E : XE} {δ : DSt} {QV : Vl → DSt → Prop} {QB : Bool → DSt → Prop} {QA : List Vl → DSt → Prop} {QD : D → DSt → Prop} {QL : List D → DSt → Prop}
theorem szl : sizeLine = 16777216 := sizeLine_eq
theorem RW_ok {a : α} : RW (.ok a δ) Q E = Q a δ := id rfl
theorem RW_exc {c ns ds} : RW (.exc c ns ds δ) Q E = E c ns ds δ := id rfl
theorem RW_stuck : RW .stuck Q E = False := id rfl
theorem RW_bind {r : R β} {f : β → DSt → R α} : RW (r.bind f) Q E = RW r (fun a δ1 => RW (f a δ1) Q E) E := by cases r <;> rfl
/-- a piece that is looked at when its slots are known -/
structure LR (r : DSt → R α) (δ : DSt) (Q : α → DSt → Prop) (E : XE) : Prop where
  h : RW (r δ) Q E
theorem LR_eq {r : DSt → R α} : LR r δ Q E = RW (r δ) Q E := propext ⟨fun z => z.h, fun z => ⟨z⟩⟩
theorem LR_c {r : DSt → R α} {a : Option (Nat × D)} {l : DSt} : LR r (a :: l) Q E = RW (r (a :: l)) Q E := LR_eq
theorem LR_n {r : DSt → R α} : LR r [] Q E = RW (r []) Q E := LR_eq
theorem RW_C {d : D} : RW (eC d δ) QV E = QV (.fz d) δ := id rfl
theorem RW_var {i : Nat} : RW (eVar i δ) QV E = (match δ[i]? with
  | some (some (0, d)) => QV (.fz d) δ
  | some (some (_ + 1, _)) => QV (.sl i) δ
  | _ => False) := by
  unfold eVar
  cases δ[i]? with
  | none => rfl
  | some r =>
    cases r with
    | none => rfl
    | some r =>
      obtain ⟨l, d⟩ := r
      cases l <;> rfl
theorem RW_bin {f : Vl → Vl → DSt → R Vl} {a b : TD} : RW (eBin f a b δ) QV E = RW (a δ) (fun x δ1 => LR b δ1 (fun y δ2 => LR (f x y) δ2 QV E) E) E := by
  unfold eBin; rw [RW_bind]; simp only [RW_bind, LR_eq]
theorem RW_un {f : Vl → DSt → R Vl} {a : TD} : RW (eUn f a δ) QV E = RW (a δ) (fun x δ1 => LR (f x) δ1 QV E) E := by
  unfold eUn; rw [RW_bind]; simp only [LR_eq]
theorem RW_vB {b : Bool} : RW (vB δ (.fz (.bl b))) QB E = QB b δ := id rfl
theorem RW_T {t : TD} : RW (eT t δ) QB E = RW (t δ) (fun x δ1 => RW (vB δ1 x) QB E) E := by unfold eT; rw [RW_bind]
theorem RW_bAnd {t u : TDT} : RW (bAnd t u δ) QB E = RW (t δ) (fun c δ1 => (c = true → LR u δ1 QB E) ∧ (c = false → QB false δ1)) E := by
  unfold bAnd; rw [RW_bind]; congr 1; funext c δ1; cases c <;> simp [RW_ok, LR_eq]
theorem RW_bOr {t u : TDT} : RW (bOr t u δ) QB E = RW (t δ) (fun c δ1 => (c = true → QB true δ1) ∧ (c = false → LR u δ1 QB E)) E := by
  unfold bOr; rw [RW_bind]; congr 1; funext c δ1; cases c <;> simp [RW_ok, LR_eq]
theorem RW_bNot {t : TDT} : RW (bNot t δ) QB E = RW (t δ) (fun c δ1 => QB (!c) δ1) E := by
  unfold bNot; rw [RW_bind]; rfl
theorem RW_eAnd {t u : TD} : RW (eAnd t u δ) QV E = RW (t δ) (fun x δ1 => RW (vB δ1 x) (fun c δ2 => (c = true → LR u δ2 QV E) ∧ (c = false → QV (.fz (.bl false)) δ2)) E) E := by
  unfold eAnd; rw [RW_bind, RW_bind]; congr 1; funext x δ1; congr 1; funext c δ1; cases c <;> simp [RW_ok, LR_eq]
theorem RW_eOr {t u : TD} : RW (eOr t u δ) QV E = RW (t δ) (fun x δ1 => RW (vB δ1 x) (fun c δ2 => (c = true → QV (.fz (.bl true)) δ2) ∧ (c = false → LR u δ2 QV E)) E) E := by
  unfold eOr; rw [RW_bind, RW_bind]; congr 1; funext x δ1; congr 1; funext c δ1; cases c <;> simp [RW_ok, LR_eq]
theorem RW_eNot {t : TD} : RW (eNot t δ) QV E = RW (t δ) (fun x δ1 => RW (vB δ1 x) (fun c δ2 => QV (.fz (.bl (!c))) δ2) E) E := by
  unfold eNot; rw [RW_bind, RW_bind]; rfl
theorem RW_eIf {c : TDT} {a b : TD} : RW (eIf c a b δ) QV E = RW (c δ) (fun k δ1 => (k = true → LR a δ1 QV E) ∧ (k = false → LR b δ1 QV E)) E := by
  unfold eIf; rw [RW_bind]; congr 1; funext k δ1; cases k <;> simp [LR_eq]
theorem RW_aNil : RW (aNil δ) QA E = QA [] δ := id rfl
theorem RW_aCons {t : TD} {r : TDA} : RW (aCons t r δ) QA E = RW (t δ) (fun x δ1 => LR r δ1 (fun xs δ2 => QA (x :: xs) δ2) E) E := by
  unfold aCons; rw [RW_bind]; simp only [RW_bind, RW_ok, LR_eq]
theorem RW_gFz {t : TDG} : RW (gFz t δ) QV E = RW (t δ) (fun d δ1 => QV (.fz d) δ1) E := by unfold gFz; rw [RW_bind]; rfl
theorem RW_gDis {f : List D → D} {t : TDA} : RW (gDis f t δ) QD E = RW (t δ) (fun xs δ1 => match frzs δ1 xs with
    | some (ds, δ2) => ds.length ≤ sizeLine ∧ QD (f ds) δ2
    | none => False) E := by
  unfold gDis; rw [RW_bind]; congr 1; funext xs δ1
  cases frzs δ1 xs with
  | none => rfl
  | some p =>
    obtain ⟨ds, δ2⟩ := p
    dsimp only
    by_cases h : ds.length ≤ sizeLine
    · rw [if_pos h]; exact propext ⟨fun z => ⟨h, z⟩, fun z => z.2⟩
    · rw [if_neg h]; exact propext ⟨fun z => z.elim, fun z => (h z.1).elim⟩
theorem RW_eCall {f : List Vl → DSt → R Vl} {t : TDA} : RW (eCall f t δ) QV E = RW (t δ) (fun xs δ1 => LR (f xs) δ1 QV E) E := by unfold eCall; rw [RW_bind]; simp only [LR_eq]
theorem RW_gCall {f : List Vl → DSt → R D} {t : TDA} : RW (gCall f t δ) QD E = RW (t δ) (fun xs δ1 => LR (f xs) δ1 QD E) E := by unfold gCall; rw [RW_bind]; simp only [LR_eq]
theorem RW_fn1 {f : D → Option D} {x : Vl} : RW (fn1 f [x] δ) QV E = (match dr δ x with
    | some d => (match f d with
      | some r => QV (.fz r) δ
      | none => False)
    | none => False) := by
  simp only [fn1]; cases dr δ x with
  | none => rfl
  | some d => dsimp only; cases f d <;> rfl
theorem RW_fn2 {f : D → D → Option D} {x y : Vl} : RW (fn2 f [x, y] δ) QV E = (match dr δ x, dr δ y with
    | some d, some e => (match f d e with
      | some r => QV (.fz r) δ
      | none => False)
    | _, _ => False) := by
  simp only [fn2]; cases dr δ x with
  | none => rfl
  | some d =>
    cases dr δ y with
    | none => rfl
    | some e => dsimp only; cases f d e <;> rfl
theorem RW_fnL {x : Vl} : RW (fnL [x] δ) QD E = (match dr δ x with
    | some d => (match items d with
      | some ds => QD (.lst ds) δ
      | none => False)
    | none => False) := by
  simp only [fnL]; cases dr δ x with
  | none => rfl
  | some d => dsimp only; cases items d <;> rfl
theorem dr_fz {d : D} : dr δ (.fz d) = some (unb d) := id rfl
theorem dr_sl {i : Nat} : dr δ (.sl i) = (match δ[i]? with
    | some (some (_, d)) => some (unb d)
    | _ => none) := id rfl
theorem unb_non : unb .non = .non := id rfl
theorem unb_bl {b : Bool} : unb (.bl b) = .bl b := id rfl
theorem unb_int {i : Int} : unb (.int i) = .int i := id rfl
theorem unb_str {x : Str} : unb (.str x) = .str x := id rfl
theorem unb_ty {x : String} : unb (.ty x) = .ty x := id rfl
theorem unb_cls {x : Str} : unb (.cls x) = .cls x := id rfl
theorem unb_lst {xs : List D} : unb (.lst xs) = .lst xs := id rfl
theorem unb_tup {xs : List D} : unb (.tup xs) = .tup xs := id rfl
theorem unb_brw {xs : List D} : unb (.brw xs) = .lst xs := id rfl
theorem unb_scr {xs : List Int} : unb (.scr xs) = .scr xs := id rfl
theorem unb_ins {c : Str} {ns : List Str} {xs : List D} : unb (.ins c ns xs) = .ins c ns xs := id rfl
theorem unb_exc {c : Str} {ns : List Str} {xs : List D} : unb (.exc c ns xs) = .exc c ns xs := id rfl
theorem frz_fz {d : D} : frz δ (.fz d) = some (d, δ) := id rfl
theorem frz_sl {i : Nat} : frz δ (.sl i) = (match δ[i]? with
    | some (some (_, d)) => some (d, δ.set i (some (0, d)))
    | _ => none) := id rfl
theorem frzs_nil : frzs δ [] = some ([], δ) := id rfl
theorem frzs_cons {x : Vl} {xs : List Vl} : frzs δ (x :: xs) = (match frz δ x with
    | some (d, δ1) => (match frzs δ1 xs with
      | some (ds, δ2) => some (d :: ds, δ2)
      | none => none)
    | none => none) := id rfl
/-! operators over ints -/
variable {i j : Int} {P : Prop}
theorem RW_add : RW (opAdd (.fz (.int i)) (.fz (.int j)) δ) QV E = QV (.fz (.int (i + j))) δ := id rfl
theorem RW_sub : RW (opSub (.fz (.int i)) (.fz (.int j)) δ) QV E = QV (.fz (.int (i - j))) δ := id rfl
theorem RW_lt : RW (opLt (.fz (.int i)) (.fz (.int j)) δ) QV E = QV (.fz (.bl (decide (i < j)))) δ := id rfl
theorem RW_le : RW (opLe (.fz (.int i)) (.fz (.int j)) δ) QV E = QV (.fz (.bl (decide (i ≤ j)))) δ := id rfl
theorem RW_gt : RW (opGt (.fz (.int i)) (.fz (.int j)) δ) QV E = QV (.fz (.bl (decide (j < i)))) δ := id rfl
theorem RW_ge : RW (opGe (.fz (.int i)) (.fz (.int j)) δ) QV E = QV (.fz (.bl (decide (j ≤ i)))) δ := id rfl
theorem RW_neg : RW (opNeg (.fz (.int i)) δ) QV E = QV (.fz (.int (-i))) δ := id rfl
theorem RW_c2 {c : Int → Int → Bool} {g : Int → Int → D} : RW (op2I (fun i j => if c i j then some (g i j) else none) (.fz (.int i)) (.fz (.int j)) δ) QV E = (c i j = true ∧ QV (.fz (g i j)) δ) := by
  show RW (match (if c i j = true then some (g i j) else none) with
    | some d => R.ok (Vl.fz d) δ
    | none => .stuck) QV E = _
  by_cases h : c i j = true
  · rw [if_pos h]; exact propext ⟨fun z => ⟨h, z⟩, fun z => z.2⟩
  · rw [if_neg h]; exact propext ⟨fun z => z.elim, fun z => (h z.1).elim⟩
theorem RW_mul : RW (opMul (.fz (.int i)) (.fz (.int j)) δ) QV E = (mulOk i j = true ∧ QV (.fz (.int (i * j))) δ) := RW_c2 (c := mulOk) (g := fun i j => .int (i * j))
theorem RW_div : RW (opDiv (.fz (.int i)) (.fz (.int j)) δ) QV E = (divOk i j = true ∧ QV (.fz (.int (i / j))) δ) := RW_c2 (c := divOk) (g := fun i j => .int (i / j))
theorem RW_mod : RW (opMod (.fz (.int i)) (.fz (.int j)) δ) QV E = (0 < j ∧ QV (.fz (.int (i % j))) δ) := by
  have z := RW_c2 (QV := QV) (E := E) (δ := δ) (i := i) (j := j) (c := fun _ j => decide (0 < j)) (g := fun i j => .int (i % j))
  have e : (decide (0 < j) = true) = (0 < j) := propext decide_eq_true_iff
  rw [e] at z
  exact z
theorem RW_pow : RW (opPow (.fz (.int i)) (.fz (.int j)) δ) QV E = (powOk i j = true ∧ QV (.fz (.int (i ^ j.toNat))) δ) := RW_c2 (c := powOk) (g := fun i j => .int (i ^ j.toNat))

theorem RW_eq0 {x y : Vl} : RW (opEq false x y δ) QV E = (match dr δ x, dr δ y with
    | some d, some e => (match eqD d e with
      | some b => QV (.fz (.bl b)) δ
      | none => False)
    | _, _ => False) := by
  unfold opEq
  cases dr δ x with
  | none => rfl
  | some d =>
    cases dr δ y with
    | none => rfl
    | some e => dsimp only; cases eqD d e <;> rfl
theorem RW_eq1 {x y : Vl} : RW (opEq true x y δ) QV E = (match dr δ x, dr δ y with
    | some d, some e => (match eqD d e with
      | some b => QV (.fz (.bl (!b))) δ
      | none => False)
    | _, _ => False) := by
  unfold opEq
  cases dr δ x with
  | none => rfl
  | some d =>
    cases dr δ y with
    | none => rfl
    | some e => dsimp only; cases eqD d e <;> rfl
theorem eqD_ii : eqD (.int i) (.int j) = some (decide (i = j)) := rfl
theorem eqD_ss {x y : Str} : eqD (.str x) (.str y) = some (decide (x = y)) := rfl
theorem eqD_bb {x y : Bool} : eqD (.bl x) (.bl y) = some (decide (x = y)) := rfl
theorem RW_in {n : Bool} {x y : Vl} : RW (opIn n x y δ) QV E = (match dr δ x, dr δ y with
    | some d, some e => (match inD d e with
      | some b => QV (.fz (.bl (if n then !b else b))) δ
      | none => False)
    | _, _ => False) := by
  unfold opIn
  cases dr δ x with
  | none => rfl
  | some d =>
    cases dr δ y with
    | none => rfl
    | some e => dsimp only; cases inD d e <;> rfl
theorem RW_is {n : Bool} {x : Vl} : RW (opIs n x (.fz .non) δ) QV E = (match dr δ x with
    | some d => QV (.fz (.bl (if n then !isNon d else isNon d))) δ
    | none => False) := by
  unfold opIs
  cases dr δ x with
  | none => rfl
  | some d => rfl
theorem RW_ix {x : Vl} {k : Int} : RW (opIx x (.fz (.int k)) δ) QV E = (match dr δ x with
    | some d => (match getD? d k with
      | some e => QV (.fz e) δ
      | none => False)
    | none => False) := by
  unfold opIx
  cases dr δ x with
  | none => rfl
  | some d => simp only [dr_fz, unb_int]; cases getD? d k <;> rfl
theorem getD_lst {xs : List D} {k : Int} : getD? (.lst xs) k = atI xs k := id rfl
theorem getD_tup {xs : List D} {k : Int} : getD? (.tup xs) k = atI xs k := id rfl
theorem atI_nat {γ : Type} {xs : List γ} {k : Nat} : atI xs (k : Int) = xs[k]? := by
  unfold atI ixN
  by_cases h : (k : Int) < (xs.length : Int)
  · rw [if_pos (by omega), if_pos h]; simp
  · rw [if_pos (by omega), if_neg h]
    have : xs.length ≤ k := by omega
    simp [List.getElem?_eq_none this]
theorem atI_0 {γ : Type} {xs : List γ} : atI xs 0 = xs[0]? := atI_nat (k := 0)
theorem atI_1 {γ : Type} {xs : List γ} : atI xs 1 = xs[1]? := atI_nat (k := 1)
theorem atI_2 {γ : Type} {xs : List γ} : atI xs 2 = xs[2]? := atI_nat (k := 2)
theorem atI_3 {γ : Type} {xs : List γ} : atI xs 3 = xs[3]? := atI_nat (k := 3)
theorem atI_4 {γ : Type} {xs : List γ} : atI xs 4 = xs[4]? := atI_nat (k := 4)
theorem atI_5 {γ : Type} {xs : List γ} : atI xs 5 = xs[5]? := atI_nat (k := 5)
theorem atI_ge {γ : Type} {xs : List γ} {i : Int} (h : 0 ≤ i) : atI xs i = xs[i.toNat]? := by
  obtain ⟨k, rfl⟩ := Int.eq_ofNat_of_zero_le h
  rw [atI_nat]; rfl
theorem ixN_lit {n : Nat} {k : Nat} (h : k < n) : ixN n (k : Int) = some k := by
  unfold ixN
  rw [if_pos (by omega), if_pos (by omega)]; rfl
theorem ixN_l0 {n : Nat} : ixN (n + 1) 0 = some 0 := ixN_lit (k := 0) (by omega)
theorem ixN_l1 {n : Nat} : ixN (n + 2) 1 = some 1 := ixN_lit (k := 1) (by omega)
theorem ixN_l2 {n : Nat} : ixN (n + 3) 2 = some 2 := ixN_lit (k := 2) (by omega)
theorem ixN_l3 {n : Nat} : ixN (n + 4) 3 = some 3 := ixN_lit (k := 3) (by omega)
theorem ixN_l4 {n : Nat} : ixN (n + 5) 4 = some 4 := ixN_lit (k := 4) (by omega)
theorem ixN_l5 {n : Nat} : ixN (n + 6) 5 = some 5 := ixN_lit (k := 5) (by omega)
/-! slices, methods -/
theorem RW_oN {QO : Option Int → DSt → Prop} : RW (oNone δ) QO E = QO none δ := id rfl
theorem RW_oS {QO : Option Int → DSt → Prop} {t : TD} : RW (oSome t δ) QO E = RW (t δ) (fun x δ1 => match dr δ1 x with
    | some (.int i) => QO (some i) δ1
    | _ => False) E := by
  unfold oSome; rw [RW_bind]; congr 1; funext x δ1
  cases dr δ1 x with
  | none => rfl
  | some d => cases d <;> rfl
theorem RW_sl {t : TD} {l h : TDO} : RW (eSl t l h δ) QV E = RW (t δ) (fun x δ1 => LR l δ1 (fun a δ2 => LR h δ2 (fun b δ3 => match dr δ3 x with
    | some d => (match sliceD d a b with
      | some e => QV (.fz e) δ3
      | none => False)
    | none => False) E) E) E := by
  unfold eSl; simp only [RW_bind, LR_eq]; congr 1; funext x δ1; congr 1; funext a δ2; congr 1; funext b δ3
  cases dr δ3 x with
  | none => rfl
  | some d => dsimp only; cases sliceD d a b <;> rfl
theorem scr_cut (is : List Int) (lo hi : Option Int) : ∃ js : List Int, sliceD (.scr is) lo hi = some (.lst (js.map D.int)) ∧ js.length ≤ is.length := by
  refine ⟨(is.drop (HT.sIx is.length 0 lo)).take (HT.sIx is.length is.length hi - HT.sIx is.length 0 lo), ?_, ?_⟩
  · unfold sliceD
    dsimp only
    have e : cutV (is.map V.int) lo hi = ((is.drop (HT.sIx is.length 0 lo)).take (HT.sIx is.length is.length hi - HT.sIx is.length 0 lo)).map V.int := by
      unfold cutV
      rw [List.length_map, List.map_take, List.map_drop]
    rw [e, fm_ints]
  · rw [List.length_take, List.length_drop]
    omega
theorem RW_mut {lm : List D → List D → Option (D × List D)} {to : TD} {ta : TDA} : RW (eMut lm to ta δ) QV E = RW (to δ) (fun o δ1 => isOwn δ1 o = true ∧ LR ta δ1 (fun xs δ2 => LR (mutF lm o xs) δ2 QV E) E) E := by
  unfold eMut; simp only [LR_eq]; rw [RW_bind]; congr 1; funext o δ1
  by_cases h : isOwn δ1 o = true
  · rw [if_pos h, RW_bind]; exact propext ⟨fun z => ⟨h, z⟩, fun z => z.2⟩
  · rw [if_neg h]; exact propext ⟨fun z => z.elim, fun z => (h z.1).elim⟩
theorem RW_mutF {lm : List D → List D → Option (D × List D)} {j : Nat} {xs : List Vl} : RW (mutF lm (.sl j) xs δ) QV E = (match frzs δ xs with
    | some (as, δ1) => (match δ1[j]? with
      | some (some (1, .lst ds)) => (match lm ds as with
        | some (r, ds') => QV (.fz r) (δ1.set j (some (1, .lst ds')))
        | none => False)
      | _ => False)
    | none => False) := by
  unfold mutF
  cases frzs δ xs with
  | none => rfl
  | some p =>
    obtain ⟨as, δ1⟩ := p
    dsimp only
    cases δ1[j]? with
    | none => rfl
    | some o =>
      cases o with
      | none => rfl
      | some p =>
        obtain ⟨l, d⟩ := p
        match l, d with
        | 0, _ => rfl
        | 1, d =>
          cases d with
          | lst ds =>
            have key : ∀ o : Option (D × List D), RW (match o with
              | some (r, ds') => .ok (.fz r) (δ1.set j (some (1, .lst ds')))
              | none => .stuck) QV E = (match o with
              | some (r, ds') => QV (.fz r) (δ1.set j (some (1, .lst ds')))
              | none => False) := fun o => by cases o <;> rfl
            exact key (lm ds as)
          | _ => rfl
        | n + 2, _ => rfl
theorem items_lst {xs : List D} : items (.lst xs) = some xs := rfl
theorem items_brw {xs : List D} : items (.brw xs) = some xs := rfl
theorem items_tup {xs : List D} : items (.tup xs) = some xs := rfl
theorem lm_app {ds : List D} {d : D} : lmApp ds [d] = if ds.length < sizeLine then some (.non, ds ++ [d]) else none := rfl
/-! lists joined, pairs -/
theorem RW_addL {xs ys : List D} : RW (opAdd (.fz (.lst xs)) (.fz (.lst ys)) δ) QV E = (xs.length + ys.length ≤ sizeLine ∧ QV (.fz (.lst (xs ++ ys))) δ) := by
  show RW (if xs.length + ys.length ≤ sizeLine then R.ok (.fz (.lst (xs ++ ys))) δ else .stuck) QV E = _
  by_cases h : xs.length + ys.length ≤ sizeLine
  · rw [if_pos h]; exact propext ⟨fun z => ⟨h, z⟩, fun z => z.2⟩
  · rw [if_neg h]; exact propext ⟨fun z => z.elim, fun z => (h z.1).elim⟩
theorem RW_addT {xs ys : List D} : RW (opAdd (.fz (.tup xs)) (.fz (.tup ys)) δ) QV E = (xs.length + ys.length ≤ sizeLine ∧ QV (.fz (.tup (xs ++ ys))) δ) := by
  show RW (if xs.length + ys.length ≤ sizeLine then R.ok (.fz (.tup (xs ++ ys))) δ else .stuck) QV E = _
  by_cases h : xs.length + ys.length ≤ sizeLine
  · rw [if_pos h]; exact propext ⟨fun z => ⟨h, z⟩, fun z => z.2⟩
  · rw [if_neg h]; exact propext ⟨fun z => z.elim, fun z => (h z.1).elim⟩
theorem RW_addS {xs ys : Str} : RW (opAdd (.fz (.str xs)) (.fz (.str ys)) δ) QV E = (xs.length + ys.length ≤ sizeLine ∧ QV (.fz (.str (xs ++ ys))) δ) := by
  show RW (if xs.length + ys.length ≤ sizeLine then R.ok (.fz (.str (xs ++ ys))) δ else .stuck) QV E = _
  by_cases h : xs.length + ys.length ≤ sizeLine
  · rw [if_pos h]; exact propext ⟨fun z => ⟨h, z⟩, fun z => z.2⟩
  · rw [if_neg h]; exact propext ⟨fun z => z.elim, fun z => (h z.1).elim⟩
theorem RW_iadd : RW (opIAdd (.fz (.int i)) (.fz (.int j)) δ) QV E = QV (.fz (.int (i + j))) δ := id rfl
theorem RW_gCat {a b : TD} : RW (gCat a b δ) QD E = RW (a δ) (fun x δ1 => LR b δ1 (fun y δ2 => match dr δ2 x, dr δ2 y with
    | some (.lst xs), some (.lst ys) => xs.length + ys.length ≤ sizeLine ∧ QD (.lst (xs ++ ys)) δ2
    | _, _ => False) E) E := by
  unfold gCat; simp only [RW_bind, LR_eq]; congr 1; funext x δ1; congr 1; funext y δ2
  cases dr δ2 x with
  | none => rfl
  | some d =>
    cases dr δ2 y with
    | none => cases d <;> rfl
    | some e =>
      cases d with
      | lst xs =>
        cases e with
        | lst ys =>
          dsimp only
          by_cases h : xs.length + ys.length ≤ sizeLine
          · rw [if_pos h]; exact propext ⟨fun z => ⟨h, z⟩, fun z => z.2⟩
          · rw [if_neg h]; exact propext ⟨fun z => z.elim, fun z => (h z.1).elim⟩
        | _ => rfl
      | _ => rfl
theorem RW_gRep {a b : TD} : RW (gRep a b δ) QD E = RW (a δ) (fun x δ1 => LR b δ1 (fun y δ2 => match dr δ2 x, dr δ2 y with
    | some (.lst xs), some (.int k) => (k.natAbs < 2 ^ 62 ∧ xs.length * k.toNat ≤ sizeLine) ∧ QD (.lst (List.replicate k.toNat xs).flatten) δ2
    | _, _ => False) E) E := by
  unfold gRep; simp only [RW_bind, LR_eq]; congr 1; funext x δ1; congr 1; funext y δ2
  cases dr δ2 x with
  | none => rfl
  | some d =>
    cases dr δ2 y with
    | none => cases d <;> rfl
    | some e =>
      cases d with
      | lst xs =>
        cases e with
        | int k =>
          dsimp only
          by_cases h : k.natAbs < 2 ^ 62 ∧ xs.length * k.toNat ≤ sizeLine
          · rw [if_pos h]; exact propext ⟨fun z => ⟨h, z⟩, fun z => z.2⟩
          · rw [if_neg h]; exact propext ⟨fun z => z.elim, fun z => (h z.1).elim⟩
        | _ => rfl
      | _ => rfl
theorem RW_gRev {a : TD} : RW (gRev a δ) QD E = RW (a δ) (fun x δ1 => match dr δ1 x with
    | some (.lst ds) => QD (.lst ds.reverse) δ1
    | _ => False) E := by
  unfold gRev; rw [RW_bind]; congr 1; funext x δ1
  cases dr δ1 x with
  | none => rfl
  | some d => cases d <;> rfl
theorem RW_zip {ta : TDA} : RW (iZp ta δ) QL E = RW (ta δ) (fun xs δ1 => match frzs δ1 xs with
    | some ([.lst ds, .lst es], δ2) => QL (zipD ds es) δ2
    | some ([.tup ds, .tup es], δ2) => QL (zipD ds es) δ2
    | _ => False) E := by
  unfold iZp; rw [RW_bind]; congr 1; funext xs δ1
  generalize frzs δ1 xs = o
  rcases o with _ | ⟨l, δ2⟩
  · rfl
  · match l with
    | [] => rfl
    | [a] => cases a <;> rfl
    | [a, b] => cases a <;> cases b <;> rfl
    | a :: b :: c :: r => cases a <;> cases b <;> rfl
theorem RW_enum {ta : TDA} : RW (iEn ta δ) QL E = RW (ta δ) (fun xs δ1 => match frzs δ1 xs with
    | some ([.lst ds], δ2) => QL (enumD 0 ds) δ2
    | _ => False) E := by
  unfold iEn; rw [RW_bind]; congr 1; funext xs δ1
  generalize frzs δ1 xs = o
  rcases o with _ | ⟨l, δ2⟩
  · rfl
  · match l with
    | [] => rfl
    | [a] => cases a <;> rfl
    | a :: b :: r => cases a <;> rfl
/-! comprehensions -/
theorem RW_comp {vs : List Nat} {t : Tgt} {i : TDI} {c : TDT} {e : TD} : RW (gComp vs t i c e δ) QD E = RW (i δ) (fun ds δ1 => RW (compF vs t c e ds [] (wipeD δ1 vs)) (fun acc δ2 => QD (.lst acc) (wipeD δ2 vs)) E) E := by
  unfold gComp; rw [RW_bind]; congr 1; funext ds δ1; rw [RW_bind]; rfl
theorem comp_inv {vs : List Nat} {t : Tgt} {c : TDT} {e : TD} (J : Nat → List D → DSt → Prop) : ∀ {ds : List D} {acc : List D} {δ : DSt} {k : Nat}, J k acc δ →
    (∀ (i : Nat) (d : D) (acc : List D) (δ : DSt), ds[i]? = some d → J (k + i) acc δ → ∃ δ1, setT t d δ = some δ1 ∧ RW (c δ1) (fun b δ2 => (b = true → RW (e δ2) (fun x δ3 => match frz δ3 x with
        | some (y, δ4) => acc.length < sizeLine ∧ J (k + i + 1) (acc ++ [y]) (wipeD δ4 vs)
        | none => False) (fun _ _ _ _ => False)) ∧ (b = false → J (k + i + 1) acc (wipeD δ2 vs))) (fun _ _ _ _ => False)) →
    (∀ acc δ, J (k + ds.length) acc δ → QL acc δ) → RW (compF vs t c e ds acc δ) QL E
  | [], acc, δ, k, h, _, q => q acc δ h
  | d :: ds, acc, δ, k, h, s, q => by
    obtain ⟨δ1, e1, w⟩ := s 0 d acc δ (by simp) (by simpa using h)
    have again : ∀ acc' δ', J (k + 1) acc' δ' → RW (compF vs t c e ds acc' δ') QL E := fun acc' δ' h' => comp_inv J (k := k + 1) h' (fun i d' a' δ'' hi hj => by
      have z := s (i + 1) d' a' δ'' (by simpa using hi) (by rw [show k + (i + 1) = k + 1 + i by omega]; exact hj)
      rw [show k + (i + 1) = k + 1 + i by omega] at z
      exact z) fun a' δ'' h'' => q a' δ'' (by rw [List.length_cons, show k + (ds.length + 1) = k + 1 + ds.length by omega]; exact h'')
    rw [show k + 0 + 1 = k + 1 by omega] at w
    unfold compF
    rw [e1]
    dsimp only
    revert w
    cases c δ1 with
    | exc _ _ _ _ => exact fun w => w.elim
    | stuck => exact fun w => w.elim
    | ok b δ2 =>
      intro w
      obtain ⟨w1, w2⟩ : (b = true → RW (e δ2) _ _) ∧ (b = false → J (k + 1) acc (wipeD δ2 vs)) := w
      cases b with
      | false => exact again _ _ (w2 rfl)
      | true =>
        have w3 := w1 rfl
        dsimp only
        revert w3
        cases e δ2 with
        | exc _ _ _ _ => exact fun w => w.elim
        | stuck => exact fun w => w.elim
        | ok x δ3 =>
          intro w3
          have w4 : (match frz δ3 x with
            | some (y, δ4) => acc.length < sizeLine ∧ J (k + 1) (acc ++ [y]) (wipeD δ4 vs)
            | none => False) := w3
          dsimp only
          revert w4
          cases frz δ3 x with
          | none => exact fun w => w.elim
          | some p =>
            dsimp only
            intro w4
            rw [if_pos w4.1]
            exact again _ _ w4.2
theorem RW_enum2 {ta : TDA} : RW (iEn2 ta δ) QL E = RW (ta δ) (fun xs δ1 => match frzs δ1 xs with
    | some ([d], δ2) => (match items d with
      | some ds => QL (enumD 0 ds) δ2
      | none => False)
    | _ => False) E := by
  unfold iEn2; rw [RW_bind]; congr 1; funext xs δ1
  generalize frzs δ1 xs = o
  rcases o with _ | ⟨l, δ2⟩
  · rfl
  · match l with
    | [] => rfl
    | [a] => dsimp only; cases items a <;> rfl
    | a :: b :: r => rfl
/-- a comprehension that reads alone -/
theorem comp_fm {vs : List Nat} {t : Tgt} {c : TDT} {e : TD} (p : D → Bool) (g : D → D) {ds : List D} {δ0 : DSt} (hs : ds.length ≤ sizeLine) (h : ∀ (i : Nat) (d : D), ds[i]? = some d → ∃ δ1, setT t d δ0 = some δ1 ∧ RW (c δ1) (fun b δ2 => b = p d ∧ (b = false → wipeD δ2 vs = δ0) ∧ (b = true → RW (e δ2) (fun x δ3 => match frz δ3 x with
      | some (y, δ4) => y = g d ∧ wipeD δ4 vs = δ0
      | none => False) (fun _ _ _ _ => False))) (fun _ _ _ _ => False)) (q : QL ((ds.filter p).map g) δ0) : RW (compF vs t c e ds [] δ0) QL E := by
  refine comp_inv (fun k acc δ => δ = δ0 ∧ acc = ((ds.take k).filter p).map g) (k := 0) ⟨rfl, by rw [List.take_zero]; rfl⟩ ?_ ?_
  · rintro i d acc δ hd ⟨rfl, rfl⟩
    rw [Nat.zero_add] at *
    obtain ⟨δ1, e1, w⟩ := h i d hd
    refine ⟨δ1, e1, ?_⟩
    have step : (ds.take (i + 1)).filter p = (ds.take i).filter p ++ (if p d = true then [d] else []) := by
      rw [List.take_add_one, hd, List.filter_append]
      congr 1
      show List.filter p [d] = _
      by_cases z : p d = true
      · rw [if_pos z, List.filter_cons_of_pos z]; rfl
      · rw [if_neg z, List.filter_cons_of_neg z]; rfl
    have hl : (((ds.take i).filter p).map g).length < sizeLine := by
      have a : i < ds.length := (List.getElem?_eq_some_iff.mp hd).1
      have b : ((ds.take i).filter p).length ≤ (ds.take i).length := List.length_filter_le _ _
      rw [List.length_take] at b
      rw [List.length_map]
      omega
    rw [step]
    revert w
    cases c δ1 with
    | exc _ _ _ _ => exact fun w => w.elim
    | stuck => exact fun w => w.elim
    | ok b δ2 =>
      intro w
      obtain ⟨w1, w2, w3⟩ : b = p d ∧ (b = false → wipeD δ2 vs = δ) ∧ (b = true → RW (e δ2) _ _) := w
      refine ⟨fun hb => ?_, fun hb => ?_⟩
      · have w4 := w3 hb
        rw [← w1, if_pos hb]
        revert w4
        cases e δ2 with
        | exc _ _ _ _ => exact fun w => w.elim
        | stuck => exact fun w => w.elim
        | ok x δ3 =>
          intro w4
          have w5 : (match frz δ3 x with
            | some (y, δ4) => y = g d ∧ wipeD δ4 vs = δ
            | none => False) := w4
          show (match frz δ3 x with
            | some (y, δ4) => _ ∧ (wipeD δ4 vs = δ ∧ _ = _)
            | none => False)
          revert w5
          cases frz δ3 x with
          | none => exact id
          | some q =>
            obtain ⟨y, δ4⟩ := q
            rintro ⟨rfl, w5⟩
            exact ⟨hl, w5, by rw [List.map_append]; rfl⟩
      · rw [← w1, hb]
        exact ⟨w2 hb, by simp⟩
  · rintro acc δ ⟨rfl, rfl⟩
    rw [Nat.zero_add, List.take_of_length_le (Nat.le_refl _)]
    exact q
/-- .. without a test -/
theorem comp_map {vs : List Nat} {t : Tgt} {e : TD} (g : D → D) {ds : List D} {δ0 : DSt} (hs : ds.length ≤ sizeLine) (h : ∀ (i : Nat) (d : D), ds[i]? = some d → ∃ δ1, setT t d δ0 = some δ1 ∧ RW (e δ1) (fun x δ3 => match frz δ3 x with
      | some (y, δ4) => y = g d ∧ wipeD δ4 vs = δ0
      | none => False) (fun _ _ _ _ => False)) (q : QL (ds.map g) δ0) : RW (compF vs t tYesD e ds [] δ0) QL E := by
  refine comp_fm (fun _ => true) g hs (fun i d hd => ?_) (by rw [List.filter_eq_self.mpr (fun _ _ => rfl)]; exact q)
  obtain ⟨δ1, e1, w⟩ := h i d hd
  exact ⟨δ1, e1, rfl, fun z => Bool.noConfusion z, fun _ => w⟩
theorem RW_yes : RW (tYesD δ) QB E = QB true δ := rfl
/-! a def's call -/
theorem RW_eFn {modes : List Bool} {m : List D → FR} {ta : TDA} : RW (eFn modes m ta δ) QV E = RW (ta δ) (fun xs δ1 => LR (callF Vl.fz Vl.fz modes m xs) δ1 QV E) E := by unfold eFn; rw [RW_bind]; simp only [LR_eq]
theorem RW_gFn {modes : List Bool} {m : List D → FR} {ta : TDA} : RW (gFn modes m ta δ) QD E = RW (ta δ) (fun xs δ1 => LR (callF id id modes (noG m) xs) δ1 QD E) E := by unfold gFn; rw [RW_bind]; simp only [LR_eq]
theorem RW_call {f g : D → α} {modes : List Bool} {m : List D → FR} {xs : List Vl} : RW (callF f g modes m xs δ) Q E = (match bindA modes xs δ with
    | none => False
    | some δ1 => match argD δ1 modes xs with
      | none => False
      | some ds => ndup ((pairsA 0 modes xs).map (·.2)) = true ∧ MW (m ds) (fun r ms => match putM (pairsA 0 modes xs) ms δ1 with
          | some δ2 => Q (f r) δ2
          | none => False) (fun r ms => match putM (pairsA 0 modes xs) ms δ1 with
          | some δ2 => Q (g r) δ2
          | none => False) (fun c ns es ms => match putM (pairsA 0 modes xs) ms δ1 with
          | some δ2 => E c ns es δ2
          | none => False)) := by
  unfold callF
  cases bindA modes xs δ with
  | none => rfl
  | some δ1 =>
    dsimp only
    cases argD δ1 modes xs with
    | none => rfl
    | some ds =>
      dsimp only
      by_cases h : ndup ((pairsA 0 modes xs).map (·.2)) = true
      · rw [if_pos h]
        have e : ∀ P : Prop, (ndup ((pairsA 0 modes xs).map (·.2)) = true ∧ P) = P := fun P => propext ⟨fun z => z.2, fun z => ⟨h, z⟩⟩
        rw [e]
        simp only [MW_d]; unfold MW0
        cases m ds with
        | stuck => rfl
        | ok r ms => dsimp only; cases putM (pairsA 0 modes xs) ms δ1 <;> rfl
        | rg r ms => dsimp only; cases putM (pairsA 0 modes xs) ms δ1 <;> rfl
        | exc c ns es ms => dsimp only; cases putM (pairsA 0 modes xs) ms δ1 <;> rfl
      · rw [if_neg h]; exact propext ⟨fun z => z.elim, fun z => (h z.1).elim⟩
theorem MW_noG {m : List D → FR} {ds : List D} {Q G : D → List D → Prop} {E : Str → List Str → List D → List D → Prop} (h : MW (m ds) (fun _ _ => False) G E) : MW (noG m ds) Q G E := by
  simp only [MW_d] at h ⊢
  unfold MW0 at h ⊢
  unfold noG
  revert h
  cases m ds <;> exact id
/-! lists lent -/
def MG (js : List Nat) (δ δ2 : DSt) (P : DSt → Prop) : Prop := match mrg js 0 δ δ2 with
  | some δ3 => P δ3
  | none => False
theorem RW_eBor {js : List Nat} {t : TD} : RW (eBor js t δ) QV E = LR t (lnD js 0 δ) (fun x δ2 => nobV x = true ∧ MG js δ δ2 (QV x)) (fun c ns ds δ2 => nobL ds = true ∧ MG js δ δ2 (E c ns ds)) := by
  rw [LR_eq]
  unfold eBor MG
  cases t (lnD js 0 δ) with
  | stuck => rfl
  | ok x δ2 =>
    dsimp only
    by_cases h : nobV x = true
    · rw [if_pos h]
      show _ = (nobV x = true ∧ _)
      cases mrg js 0 δ δ2 <;> exact propext ⟨fun z => ⟨h, z⟩, fun z => z.2⟩
    · rw [if_neg h]; exact propext ⟨fun z => z.elim, fun z => (h z.1).elim⟩
  | exc c ns ds δ2 =>
    dsimp only
    by_cases h : nobL ds = true
    · rw [if_pos h]
      show _ = (nobL ds = true ∧ _)
      cases mrg js 0 δ δ2 <;> exact propext ⟨fun z => ⟨h, z⟩, fun z => z.2⟩
    · rw [if_neg h]; exact propext ⟨fun z => z.elim, fun z => (h z.1).elim⟩
variable {js : List Nat} {k : Nat} {r r2 : DSt} {P : DSt → Prop} {y : Option (Nat × D)}
theorem lnD_n : lnD js k [] = [] := id rfl
theorem lnD_k {e : Option (Nat × D)} (h : js.contains k = false) : lnD js k (e :: r) = e :: lnD js (k + 1) r := by
  show (match e with
    | some (1, .lst ds) => if js.contains k = true then some (0, .brw ds) else some (1, .lst ds)
    | e => e) :: lnD js (k + 1) r = _
  congr 1
  split
  · rw [if_neg (by rw [h]; decide)]
  · rfl
theorem lnD_l {ds : List D} (h : js.contains k = true) : lnD js k (some (1, .lst ds) :: r) = some (0, .brw ds) :: lnD js (k + 1) r := by
  rw [lnD]
  rw [if_pos h]
theorem MG_d {δ2 : DSt} : MG js δ δ2 P = (match mrg js 0 δ δ2 with
  | some δ3 => P δ3
  | none => False) := id rfl
theorem mrg_n : mrg js k [] [] = some [] := id rfl
theorem mrg_0 : mrg js k (none :: r) (y :: r2) = (mrg js (k + 1) r r2).map (none :: ·) := id rfl
theorem mrg_f {d : D} : mrg js k (some (0, d) :: r) (y :: r2) = (mrg js (k + 1) r r2).map (some (0, d) :: ·) := id rfl
theorem mrg_l {d : D} (h : js.contains k = true) : mrg js k (some (1, d) :: r) (y :: r2) = (mrg js (k + 1) r r2).map (some (1, d) :: ·) := by
  show (if js.contains k = true then (mrg js (k + 1) r r2).map (some (1, d) :: ·) else _) = _
  rw [if_pos h]
theorem mrg_o {d d2 : D} {l : Nat} (h : js.contains k = false) (h2 : nob d2 = true) : mrg js k (some (1, d) :: r) (some (l, d2) :: r2) = (mrg js (k + 1) r r2).map (some (l, d2) :: ·) := by
  show (if js.contains k = true then _ else if nob d2 = true then (mrg js (k + 1) r r2).map (some (l, d2) :: ·) else none) = _
  rw [if_neg (by rw [h]; decide), if_pos h2]
theorem mrg_on {d : D} (h : js.contains k = false) : mrg js k (some (1, d) :: r) (none :: r2) = (mrg js (k + 1) r r2).map (none :: ·) := by
  show (if js.contains k = true then _ else (mrg js (k + 1) r r2).map (none :: ·)) = _
  rw [if_neg (by rw [h]; decide)]
/-- no own list -/
def NoOwn (e : Option (Nat × D)) : Prop := ∀ d, e ≠ some (1, d)
theorem no_f {d : D} : NoOwn (some (0, d)) := fun _ h => by cases h
theorem no_n : NoOwn none := fun _ h => by cases h
theorem mrg_v {e : Option (Nat × D)} (h : NoOwn e) : mrg js k (e :: r) (y :: r2) = (mrg js (k + 1) r r2).map (e :: ·) := by
  match e, h with
  | none, _ => rfl
  | some (0, d), _ => rfl
  | some (1, d), h => exact absurd rfl (h d)
  | some (n + 2, d), _ => rfl
theorem nobV_fz {d : D} : nobV (.fz d) = nob d := id rfl
theorem nob_int {i : Int} : nob (.int i) = true := id rfl
theorem nob_str {i : Str} : nob (.str i) = true := id rfl
theorem nob_bl {i : Bool} : nob (.bl i) = true := id rfl
theorem nob_non : nob .non = true := id rfl
theorem nob_lst {xs : List D} : nob (.lst xs) = nobL xs := by rw [nob]
theorem nob_tup {xs : List D} : nob (.tup xs) = nobL xs := by rw [nob]
theorem nobL_n : nobL [] = true := by rw [nobL]
theorem nobL_c {d : D} {xs : List D} : nobL (d :: xs) = (nob d && nobL xs) := by rw [nobL]
theorem nobL_a {xs ys : List D} : nobL (xs ++ ys) = (nobL xs && nobL ys) := by
  induction xs with
  | nil => rw [List.nil_append, nobL_n, Bool.true_and]
  | cons x xs ih => rw [List.cons_append, nobL_c, nobL_c, ih, Bool.and_assoc]
theorem nobL_i {ns : List Int} : nobL (ns.map D.int) = true := by
  induction ns with
  | nil => exact nobL_n
  | cons n ns ih => rw [List.map_cons, nobL_c, ih]; rfl
theorem nobL_s {ns : List Str} : nobL (ns.map D.str) = true := by
  induction ns with
  | nil => exact nobL_n
  | cons n ns ih => rw [List.map_cons, nobL_c, ih]; rfl
/-! statements -/
variable {nx : DSt → Prop} {rt : Vl → DSt → Prop} {rg : D → DSt → Prop} {bk ct : DSt → Prop} {ex : XE}
theorem FW_fl {r : R α} {f : α → DSt → Fl} : FW (r.fl f) nx rt rg bk ct ex = RW r (fun a δ1 => FW (f a δ1) nx rt rg bk ct ex) ex := by cases r <;> rfl
theorem FW_nx : FW (.nx δ) nx rt rg bk ct ex = nx δ := id rfl
theorem FW_nil : FW (sNil δ) nx rt rg bk ct ex = nx δ := id rfl
theorem FW_break : FW (sBreak δ) nx rt rg bk ct ex = bk δ := id rfl
theorem FW_cont : FW (sCont δ) nx rt rg bk ct ex = ct δ := id rfl
/-- not yet looked at -/
structure LZ (t : TDS) (δ : DSt) (nx : DSt → Prop) (rt : Vl → DSt → Prop) (rg : D → DSt → Prop) (bk ct : DSt → Prop) (ex : XE) : Prop where
  h : FW (t δ) nx rt rg bk ct ex
theorem LZ_eq {t : TDS} : LZ t δ nx rt rg bk ct ex = FW (t δ) nx rt rg bk ct ex := propext ⟨fun z => z.h, fun z => ⟨z⟩⟩
theorem LZ_in {t : TDS} (h : FW (t δ) nx rt rg bk ct ex) : LZ t δ nx rt rg bk ct ex := ⟨h⟩
/-- a place between two statements -/
theorem LZ_cut {t u : TDS} (J : DSt → Prop) (h1 : LZ t δ J rt rg bk ct ex) (h2 : ∀ δ1, J δ1 → LZ u δ1 nx rt rg bk ct ex) : LZ (sSeq t u) δ nx rt rg bk ct ex := by
  simp only [LZ_eq] at h1 h2 ⊢
  unfold sSeq
  revert h1
  cases t δ with
  | nx δ1 => exact fun h => h2 δ1 h
  | _ => exact id
theorem LZ_out {t : TDS} (h : LZ t δ nx rt rg bk ct ex) : FW (t δ) nx rt rg bk ct ex := h.h
theorem FW_seq {t u : TDS} : FW (sSeq t u δ) nx rt rg bk ct ex = FW (t δ) (fun δ1 => LZ u δ1 nx rt rg bk ct ex) rt rg bk ct ex := by
  simp only [LZ_eq]; unfold sSeq; cases t δ <;> rfl
theorem FW_if {c : TDT} {t u : TDS} : FW (sIf c t u δ) nx rt rg bk ct ex = RW (c δ) (fun b δ1 => (b = true → LZ t δ1 nx rt rg bk ct ex) ∧ (b = false → LZ u δ1 nx rt rg bk ct ex)) ex := by
  simp only [LZ_eq]; unfold sIf; rw [FW_fl]; congr 1; funext b δ1; cases b <;> simp
theorem FW_expr {t : TD} : FW (sExpr t δ) nx rt rg bk ct ex = RW (t δ) (fun _ δ1 => nx δ1) ex := by unfold sExpr; rw [FW_fl]; rfl
theorem FW_ret {t : TD} : FW (sRet t δ) nx rt rg bk ct ex = RW (t δ) rt ex := by unfold sRet; rw [FW_fl]; rfl
theorem FW_retG {t : TDG} : FW (sRetG t δ) nx rt rg bk ct ex = RW (t δ) rg ex := by unfold sRetG; rw [FW_fl]; rfl
theorem FW_retN : FW (sRetN δ) nx rt rg bk ct ex = rt (.fz .non) δ := id rfl
theorem FW_put {i : Nat} {x : Vl} : FW (putF i x δ) nx rt rg bk ct ex = (match frz δ x with
    | some (d, δ1) => nx (δ1.set i (some (0, d)))
    | none => False) := by unfold putF; cases frz δ x <;> rfl
theorem FW_asg {i : Nat} {t : TD} : FW (sAsg i t δ) nx rt rg bk ct ex = RW (t δ) (fun x δ1 => match frz δ1 x with
    | some (d, δ2) => nx (δ2.set i (some (0, d)))
    | none => False) ex := by unfold sAsg; rw [FW_fl]; simp only [FW_put]
theorem FW_asgG {i : Nat} {t : TDG} : FW (sAsgG i t δ) nx rt rg bk ct ex = RW (t δ) (fun d δ1 => nx (δ1.set i (some (1, d)))) ex := by unfold sAsgG; rw [FW_fl]; rfl
theorem FW_asgT {g : Tgt} {t : TD} : FW (sAsgT g t δ) nx rt rg bk ct ex = RW (t δ) (fun x δ1 => match frz δ1 x with
    | some (d, δ2) => (match setT g d δ2 with
      | some δ3 => nx δ3
      | none => False)
    | none => False) ex := by
  unfold sAsgT; rw [FW_fl]; congr 1; funext x δ1
  cases frz δ1 x with
  | none => rfl
  | some p => dsimp only; cases setT g p.1 p.2 <;> rfl
theorem FW_par {i j : Nat} {ta tb : TD} : FW (sPar2 i j ta tb δ) nx rt rg bk ct ex = RW (ta δ) (fun x δ1 => LR tb δ1 (fun y δ2 => match frzs δ2 [x, y] with
    | some ([d, e], δ3) => nx ((δ3.set i (some (0, d))).set j (some (0, e)))
    | _ => False) ex) ex := by
  unfold sPar2; rw [FW_fl, RW_aCons]; simp only [LR_eq]; congr 1; funext x δ1; rw [RW_aCons]; simp only [LR_eq]; congr 1; funext y δ2
  show FW (match frzs δ2 [x, y] with
    | some ([d, e], δ3) => Fl.nx ((δ3.set i (some (0, d))).set j (some (0, e)))
    | _ => .stuck) nx rt rg bk ct ex = _
  split <;> rfl
theorem FW_sub {tv to ti : TD} : FW (sSub tv to ti δ) nx rt rg bk ct ex = RW (tv δ) (fun x δ1 => LR to δ1 (fun o δ2 => LR ti δ2 (fun i δ3 => FW (storeF o i x δ3) nx rt rg bk ct ex) ex) ex) ex := by
  unfold sSub; simp only [FW_fl, LR_eq]
theorem FW_store {j : Nat} {i x : Vl} : FW (storeF (.sl j) i x δ) nx rt rg bk ct ex = (match frz δ x with
    | some (d, δ1) => (match stF j d i δ1 with
      | some δ2 => nx δ2
      | none => False)
    | none => False) := by
  unfold storeF
  cases frz δ x with
  | none => rfl
  | some p => dsimp only; cases stF j p.1 i p.2 <;> rfl
theorem FW_aug {i : Nat} {f : Vl → Vl → DSt → R Vl} {te : TD} : FW (sAug i f te δ) nx rt rg bk ct ex = RW (eVar i δ) (fun x δ1 => LR te δ1 (fun y δ2 => LR (f x y) δ2 (fun z δ3 => FW (putF i z δ3) nx rt rg bk ct ex) ex) ex) ex := by
  unfold sAug; simp only [FW_fl, LR_eq]
theorem FW_raise {c : Str} {fs : List Str} {ta : TDA} : FW (sRaise c fs ta δ) nx rt rg bk ct ex = RW (ta δ) (fun xs δ1 => match frzs δ1 xs with
    | some (ds, δ2) => (ds.length = fs.length ∧ ds.length ≤ 1000) ∧ ex c fs.reverse ds.reverse δ2
    | none => False) ex := by
  unfold sRaise; rw [FW_fl]; congr 1; funext xs δ1
  cases frzs δ1 xs with
  | none => rfl
  | some p =>
    obtain ⟨ds, δ2⟩ := p
    dsimp only
    by_cases h : ds.length = fs.length ∧ ds.length ≤ 1000
    · rw [if_pos h]; exact propext ⟨fun z => ⟨h, z⟩, fun z => z.2⟩
    · rw [if_neg h]; exact propext ⟨fun z => z.elim, fun z => (h z.1).elim⟩
theorem FW_for {t : Tgt} {i : TDI} {b : TDS} : FW (sFor t i b δ) nx rt rg bk ct ex = RW (i δ) (fun ds δ1 => LZ (forF t b ds) δ1 nx rt rg bk ct ex) ex := by simp only [LZ_eq]; unfold sFor; rw [FW_fl]
theorem FW_forN {t : Tgt} {b : TDS} : FW (forF t b [] δ) nx rt rg bk ct ex = nx δ := id rfl
theorem FW_forC {t : Tgt} {b : TDS} {d : D} {ds : List D} : FW (forF t b (d :: ds) δ) nx rt rg bk ct ex = (match setT t d δ with
    | some δ1 => LZ b δ1 (fun δ2 => LZ (forF t b ds) δ2 nx rt rg bk ct ex) rt rg nx (fun δ2 => LZ (forF t b ds) δ2 nx rt rg bk ct ex) ex
    | none => False) := by
  rw [forF]; simp only [LZ_eq]
  cases setT t d δ with
  | none => rfl
  | some δ1 => dsimp only; cases b δ1 <;> rfl
/-- a loop by an invariant over the items that are left -/
theorem FW_inv {t : Tgt} {b : TDS} (J : Nat → DSt → Prop) : ∀ {ds : List D} {δ : DSt} {k : Nat}, J k δ → (∀ (i : Nat) (d : D) (δ : DSt), ds[i]? = some d → J (k + i) δ → ∃ δ1, setT t d δ = some δ1 ∧ LZ b δ1 (J (k + i + 1)) rt rg nx (J (k + i + 1)) ex) → (∀ δ, J (k + ds.length) δ → nx δ) → LZ (forF t b ds) δ nx rt rg bk ct ex
  | [], δ, k, h, _, q => LZ_in (by rw [FW_forN]; exact q δ h)
  | d :: ds, δ, k, h, s, q => by
    refine LZ_in ?_
    rw [FW_forC]
    obtain ⟨δ1, e, w⟩ := s 0 d δ (by simp) (by simpa using h)
    rw [e]
    dsimp only
    simp only [LZ_eq] at w ⊢
    have again : ∀ δ2, J (k + 1) δ2 → FW (forF t b ds δ2) nx rt rg bk ct ex := fun δ2 h2 => LZ_out <| FW_inv J (k := k + 1) h2 (fun i d' δ' hi hj => by
      have z := s (i + 1) d' δ' (by simpa using hi) (by rw [show k + (i + 1) = k + 1 + i by omega]; exact hj)
      rw [show k + (i + 1) = k + 1 + i by omega] at z
      exact z) fun δ' h' => q δ' (by rw [List.length_cons, show k + (ds.length + 1) = k + 1 + ds.length by omega]; exact h')
    revert w
    rw [show k + 0 + 1 = k + 1 by omega]
    cases b δ1 with
    | nx δ2 => exact fun w => again δ2 w
    | ct δ2 => exact fun w => again δ2 w
    | bk δ2 => exact id
    | rt x δ2 => exact id
    | rg x δ2 => exact id
    | ex c ns ds δ2 => exact id
    | stuck => exact id
theorem RW_rng1 {ta : TDA} : RW (iRng rngF1 ta δ) QL E = RW (ta δ) (fun xs δ1 => match ints2 δ1 xs with
    | some [j] => smallI j = true ∧ QL (rangeD 0 j) δ1
    | _ => False) E := by
  unfold iRng; rw [RW_bind]; congr 1; funext xs δ1
  generalize ints2 δ1 xs = o
  rcases o with _ | l
  · rfl
  · match l with
    | [] => rfl
    | [j] =>
      show RW (match (if smallI j = true then some (rangeD 0 j) else none) with
        | some ds => R.ok ds δ1
        | none => R.stuck) QL E = _
      by_cases h : smallI j = true
      · rw [if_pos h]; exact propext ⟨fun z => ⟨h, z⟩, fun z => z.2⟩
      · rw [if_neg h]; exact propext ⟨fun z => z.elim, fun z => (h z.1).elim⟩
    | _ :: _ :: _ => rfl
theorem RW_rng2 {ta : TDA} : RW (iRng rngF2 ta δ) QL E = RW (ta δ) (fun xs δ1 => match ints2 δ1 xs with
    | some [i, j] => (smallI i && smallI j) = true ∧ QL (rangeD i j) δ1
    | _ => False) E := by
  unfold iRng; rw [RW_bind]; congr 1; funext xs δ1
  generalize ints2 δ1 xs = o
  rcases o with _ | l
  · rfl
  · match l with
    | [] => rfl
    | [j] => rfl
    | [i, j] =>
      show RW (match (if (smallI i && smallI j) = true then some (rangeD i j) else none) with
        | some ds => R.ok ds δ1
        | none => R.stuck) QL E = _
      by_cases h : (smallI i && smallI j) = true
      · rw [if_pos h]; exact propext ⟨fun z => ⟨h, z⟩, fun z => z.2⟩
      · rw [if_neg h]; exact propext ⟨fun z => z.elim, fun z => (h z.1).elim⟩
    | _ :: _ :: _ :: _ => rfl
theorem ints2_1 {j : Int} : ints2 δ [.fz (.int j)] = some [j] := id rfl
theorem ints2_2 {i j : Int} : ints2 δ [.fz (.int i), .fz (.int j)] = some [i, j] := id rfl
theorem small_of {j : Int} (h1 : -(2 ^ 62) ≤ j) (h2 : j < 2 ^ 62) : smallI j = true := by
  unfold smallI; rw [Bool.and_eq_true]; exact ⟨decide_eq_true h1, decide_eq_true h2⟩
theorem small2_of {i j : Int} (h1 : -(2 ^ 62) ≤ i) (h2 : i < 2 ^ 62) (h3 : -(2 ^ 62) ≤ j) (h4 : j < 2 ^ 62) : (smallI i && smallI j) = true := by
  rw [small_of h1 h2, small_of h3 h4]; rfl
theorem RW_seq {t : TD} : RW (iSeq t δ) QL E = RW (t δ) (fun x δ1 => match frz δ1 x with
    | some (d, δ2) => (match items d with
      | some ds => QL ds δ2
      | none => False)
    | none => False) E := by
  unfold iSeq; rw [RW_bind]; congr 1; funext x δ1
  cases frz δ1 x with
  | none => rfl
  | some p => dsimp only; cases items p.1 <;> rfl
theorem RW_rg1 {QP : Int × Int → DSt → Prop} {ta : TD} : RW (rRg1 ta δ) QP E = RW (ta δ) (fun x δ1 => match dr δ1 x with
    | some (.int i) => QP (0, i) δ1
    | _ => False) E := by
  unfold rRg1; rw [RW_bind]; congr 1; funext x δ1
  cases dr δ1 x with
  | none => rfl
  | some d => cases d <;> rfl
theorem RW_rg2 {QP : Int × Int → DSt → Prop} {ta tb : TD} : RW (rRg2 ta tb δ) QP E = RW (ta δ) (fun x δ1 => LR tb δ1 (fun y δ2 => match dr δ2 x, dr δ2 y with
    | some (.int i), some (.int j) => QP (i, j) δ2
    | _, _ => False) E) E := by
  unfold rRg2; simp only [RW_bind, LR_eq]; congr 1; funext x δ1; congr 1; funext y δ2
  cases dr δ2 x with
  | none => rfl
  | some d =>
    cases dr δ2 y with
    | none => cases d <;> rfl
    | some e => cases d <;> cases e <;> rfl
theorem RW_lst {t : TD} : RW (iLst t δ) QL E = RW (t δ) (fun x δ1 => match frz δ1 x with
    | some (.lst ds, δ2) => QL ds δ2
    | _ => False) E := by
  unfold iLst; rw [RW_bind]; congr 1; funext x δ1
  cases frz δ1 x with
  | none => rfl
  | some p =>
    obtain ⟨d, δ2⟩ := p
    cases d <;> rfl
theorem RW_gRg {f : List D → D} {t : DSt → R (Int × Int)} : RW (gRg f t δ) QD E = RW (t δ) (fun p δ1 => rgOk p.1 p.2 = true ∧ QD (f (rangeD p.1 p.2)) δ1) E := by
  unfold gRg; rw [RW_bind]; congr 1; funext p δ1
  by_cases h : rgOk p.1 p.2 = true
  · rw [if_pos h]; exact propext ⟨fun z => ⟨h, z⟩, fun z => z.2⟩
  · rw [if_neg h]; exact propext ⟨fun z => z.elim, fun z => (h z.1).elim⟩
theorem RW_op1S {f : Str → Option D} {x : Vl} : RW (op1S f x δ) QV E = (match dr δ x with
    | some (.str s) => (match f s with
      | some d => QV (.fz d) δ
      | none => False)
    | _ => False) := by
  unfold op1S
  cases dr δ x with
  | none => rfl
  | some d =>
    cases d with
    | str s => dsimp only; cases f s <;> rfl
    | _ => rfl
theorem lit_rgOk {i j : Int} (h1 : -(2 ^ 62) ≤ i) (h2 : i < 2 ^ 62) (h3 : -(2 ^ 62) ≤ j) (h4 : j < 2 ^ 62) (h5 : j - i ≤ 2 ^ 24) : rgOk i j = true := by
  unfold rgOk smallI
  rw [Bool.and_eq_true, Bool.and_eq_true, Bool.and_eq_true, Bool.and_eq_true]
  exact ⟨⟨⟨decide_eq_true h1, decide_eq_true h2⟩, ⟨decide_eq_true h3, decide_eq_true h4⟩⟩, decide_eq_true (by omega)⟩
theorem lenD_lst {xs : List D} : lenD (.lst xs) = some (.int (xs.length : Int)) := id rfl
theorem lenD_tup {xs : List D} : lenD (.tup xs) = some (.int (xs.length : Int)) := id rfl
theorem lenD_str {z : Str} : lenD (.str z) = if z.length ≤ 16777216 then some (.int (z.length : Int)) else none := by
  rw [← szl]; exact id rfl
theorem intD_int {i : Int} : intD (.int i) = some (.int i) := id rfl
theorem intD_bl {b : Bool} : intD (.bl b) = some (.int (if b = true then 1 else 0)) := by cases b <;> exact id rfl
theorem absD_int {i : Int} : absD (.int i) = some (.int (if i < 0 then -i else i)) := id rfl
theorem tupD_lst {xs : List D} : tupD (.lst xs) = some (.tup xs) := id rfl
theorem tupD_tup {xs : List D} : tupD (.tup xs) = some (.tup xs) := id rfl
theorem max2D_ii {i j : Int} : max2D (.int i) (.int j) = some (.int (if j > i then j else i)) := id rfl
theorem min2D_ii {i j : Int} : min2D (.int i) (.int j) = some (.int (if j < i then j else i)) := id rfl
theorem sliceD_lst {xs : List D} {a b : Option Int} : sliceD (.lst xs) a b = some (.lst (cutD xs a b)) := id rfl
theorem sliceD_tup {xs : List D} {a b : Option Int} : sliceD (.tup xs) a b = some (.tup (cutD xs a b)) := id rfl
theorem cutD_len (xs : List D) (a b : Option Int) : (cutD xs a b).length ≤ xs.length := by
  unfold cutD
  rw [List.length_take, List.length_drop]
  omega
/-! a while loop: by induction over what is left -/
theorem FW_while {fuel : DSt → Nat} {c : TDT} {b : TDS} : FW (sWhile fuel c b δ) nx rt rg bk ct ex = FW (whF c b (fuel δ) δ) nx rt rg bk ct ex := id rfl
theorem FW_wh {n : Nat} {c : TDT} {b : TDS} : FW (whF c b (n + 1) δ) nx rt rg bk ct ex = RW (c δ) (fun k δ1 => (k = true → LZ b δ1 (fun δ2 => LZ (whF c b n) δ2 nx rt rg bk ct ex) rt rg nx (fun δ2 => LZ (whF c b n) δ2 nx rt rg bk ct ex) ex) ∧ (k = false → nx δ1)) ex := by
  simp only [LZ_eq]; rw [whF, FW_fl]; congr 1; funext k δ1
  cases k with
  | false => simp [FW_nx]
  | true =>
    simp only [if_true, forall_const, Bool.true_eq_false, false_implies, and_true]
    cases b δ1 <;> rfl
/-! try -/
theorem FW_try {cs : List Str} {ks : List Nat} {i : Nat} {tb ts : TDS} : FW (sTry cs ks i tb ts δ) nx rt rg bk ct ex = FW (tb δ) nx rt rg bk ct (fun c ns ds δ1 => cs.contains c = true ∧ plainL ds = true ∧ LZ ts ((keepP ks 0 δ1).set i (some (0, .exc c ns ds))) (fun δ2 => nx (δ2.set i none)) rt rg (fun δ2 => bk (δ2.set i none)) (fun δ2 => ct (δ2.set i none)) (fun _ _ _ _ => False)) := by
  simp only [LZ_eq]
  unfold sTry
  cases tb δ with
  | ex c ns ds δ1 =>
    show FW (if cs.contains c && plainL ds then suF i (ts ((keepP ks 0 δ1).set i (some (0, .exc c ns ds)))) else .stuck) nx rt rg bk ct ex = _
    by_cases h : (cs.contains c && plainL ds) = true
    · rw [if_pos h]
      obtain ⟨h1, h2⟩ := Bool.and_eq_true_iff.mp h
      have e : ∀ P : Prop, (cs.contains c = true ∧ plainL ds = true ∧ P) = P := fun P => propext ⟨fun z => z.2.2, fun z => ⟨h1, h2, z⟩⟩
      show _ = (cs.contains c = true ∧ plainL ds = true ∧ _)
      rw [e]
      cases ts ((keepP ks 0 δ1).set i (some (0, .exc c ns ds))) <;> rfl
    · rw [if_neg h]
      exact propext ⟨fun z => z.elim, fun z => (h (Bool.and_eq_true_iff.mpr ⟨z.1, z.2.1⟩)).elim⟩
  | _ => rfl
/-! the def's end -/
theorem MW_run {modes : List Bool} {n : Nat} {t : TDS} {ds : List D} {Q G : D → List D → Prop} {E : Str → List Str → List D → List D → Prop} (h : LZ t (startD modes n ds) (fun δ => match mutsD δ (mutIdx 0 modes) with
      | some ms => Q .non ms
      | none => False) (fun x δ => match frz δ x with
      | some (d, δ1) => (match mutsD δ1 (mutIdx 0 modes) with
        | some ms => Q d ms
        | none => False)
      | none => False) (fun d δ => match mutsD δ (mutIdx 0 modes) with
      | some ms => G d ms
      | none => False) (fun _ => False) (fun _ => False) (fun c ns es δ => match mutsD δ (mutIdx 0 modes) with
      | some ms => E c ns es ms
      | none => False)) : MW (runB modes n t ds) Q G E := by
  simp only [MW_d]
  unfold MW0 runB fin
  simp only [LZ_eq] at h
  revert h
  cases t (startD modes n ds) with
  | nx δ => dsimp only [FW]; cases mutsD δ (mutIdx 0 modes) <;> exact id
  | rt x δ =>
    dsimp only [FW]
    cases frz δ x with
    | none => exact id
    | some p => dsimp only; cases mutsD p.2 (mutIdx 0 modes) <;> exact id
  | rg x δ => dsimp only [FW]; cases mutsD δ (mutIdx 0 modes) <;> exact id
  | ex c ns es δ => dsimp only [FW]; cases mutsD δ (mutIdx 0 modes) <;> exact id
  | bk δ => exact id
  | ct δ => exact id
  | stuck => exact id
theorem MW_ok {r : FR} {Q G : D → List D → Prop} {E : Str → List Str → List D → List D → Prop} {d : D} {ms : List D} (h : r = .ok d ms) (q : Q d ms) : MW r Q G E := by simp only [MW_d]; unfold MW0; rw [h]; exact q
theorem MW_eq {r : FR} {d : D} {ms : List D} (h : MW r (fun d' ms' => d' = d ∧ ms' = ms) (fun _ _ => False) (fun _ _ _ _ => False)) : r = .ok d ms := by
  simp only [MW_d] at h
  unfold MW0 at h
  cases r with
  | ok a b => obtain ⟨rfl, rfl⟩ := h; rfl
  | rg a b => exact h.elim
  | exc a b c d => exact h.elim
  | stuck => exact h.elim
theorem MW_imp {r : FR} {Q G Q' G' : D → List D → Prop} {E E' : Str → List Str → List D → List D → Prop} (h : MW r Q G E) (h1 : ∀ d ms, Q d ms → Q' d ms) (h2 : ∀ d ms, G d ms → G' d ms) (h3 : ∀ c ns es ms, E c ns es ms → E' c ns es ms) : MW r Q' G' E' := by
  simp only [MW_d] at h ⊢
  unfold MW0 at h ⊢
  cases r with
  | ok a b => exact h1 _ _ h
  | rg a b => exact h2 _ _ h
  | exc a b c d => exact h3 _ _ _ _ h
  | stuck => exact h.elim
end
theorem rangeD_len {a b : Int} : (rangeD a b).length = (b - a).toNat := by unfold rangeD; simp
theorem rangeD_at {a b : Int} {i : Nat} {d : D} (h : (rangeD a b)[i]? = some d) : d = .int (a + (i : Int)) ∧ (i : Int) < b - a := by
  unfold rangeD at h
  rw [List.getElem?_map] at h
  cases q : (List.range (b - a).toNat)[i]? with
  | none => rw [q] at h; cases h
  | some k =>
    rw [q] at h
    obtain ⟨h1, h2⟩ := List.getElem?_eq_some_iff.mp q
    simp only [List.length_range] at h1
    simp only [List.getElem_range] at h2
    subst h2
    cases h
    exact ⟨rfl, by omega⟩
/-! sizes -/
def sm (x : Int) : Prop := x.natAbs < 2 ^ 6000
theorem sm_bits {x : Int} (h : sm x) : Builtin.Int.intBits x ≤ 6000 := by
  unfold Builtin.Int.intBits
  split
  · omega
  · rename_i hx
    have hne : x.natAbs ≠ 0 := by
      intro z
      apply hx
      rw [Int.natAbs_eq_zero.mp z] <;> rfl
    have := (Nat.log2_lt hne).mpr h
    omega
theorem sm_mul {i j : Int} (h1 : sm i) (h2 : sm j) : mulOk i j = true := by
  have a := sm_bits h1
  have b := sm_bits h2
  unfold mulOk
  exact decide_eq_true (by omega)
theorem sm_div {i j : Int} (h0 : 0 < j) (h2 : sm j) : divOk i j = true := by
  unfold divOk
  rw [Bool.and_eq_true]
  refine ⟨decide_eq_true h0, decide_eq_true ?_⟩
  have hne : j.natAbs ≠ 0 := by omega
  have := (Nat.log2_lt hne).mpr h2
  omega
theorem sm_le {x y : Int} (h : sm y) (h0 : -y ≤ x) (h1 : x ≤ y) : sm x := by
  unfold sm at *
  omega
theorem sm_k : sm (10 ^ 900) := by
  unfold sm
  decide +kernel
theorem sm_100 {x : Int} (h0 : -(10 ^ 100) ≤ x) (h1 : x ≤ 10 ^ 100) : sm x := by
  refine sm_le sm_k ?_ ?_
  · exact Int.le_trans (by decide +kernel) h0
  · exact Int.le_trans h1 (by decide +kernel)
theorem sm_800 {x : Int} (h0 : 0 ≤ x) (h1 : x ≤ 10 ^ 900) : sm x := sm_le sm_k (Int.le_trans (by decide +kernel) h0) h1
theorem startD_eq {modes : List Bool} {n : Nat} {ds : List D} : startD modes n ds = startA modes ds ++ List.replicate n none := id rfl
theorem setT_nm {i : Nat} {d : D} {δ : DSt} : setT (.nm i) d δ = some (δ.set i (some (0, d))) := id rfl
theorem setT_tp {is : List Nat} {ds : List D} {δ : DSt} : setT (.tp is) (.tup ds) δ = setN is ds δ := id rfl
theorem setN_nil {δ : DSt} : setN [] [] δ = some δ := id rfl
theorem setN_cons {i : Nat} {is : List Nat} {d : D} {ds : List D} {δ : DSt} : setN (i :: is) (d :: ds) δ = setN is ds (δ.set i (some (0, d))) := id rfl
end DL

set_option Elab.async false
set_option linter.all false
set_option maxRecDepth 10000
namespace DL
open PySem L2
/-! == of rows of ints -/
theorem ints_lay : ∀ ns : List Int, PyData.canLayAll0 (toPyL (ns.map D.int)) = true
  | [] => by simp only [List.map_nil, toPyL, PyData.canLayAll0]
  | n :: ns => by
    simp only [List.map_cons, toPyL, toPy, PyData.canLayAll0, PyData.canLay0, Bool.true_and]
    exact ints_lay ns
theorem ints_dep : ∀ ns : List Int, PyData.depthAll (toPyL (ns.map D.int)) = 0
  | [] => by simp only [List.map_nil, toPyL, PyData.depthAll]
  | n :: ns => by
    simp only [List.map_cons, toPyL, toPy, PyData.depthAll, PyData.depth]
    rw [ints_dep ns]
    rfl
theorem ints_eqv : ∀ ns ms : List Int, PyData.eqvAll (toPyL (ns.map D.int)) (toPyL (ms.map D.int)) = decide (ns = ms)
  | [], [] => by simp [toPyL, PyData.eqvAll]
  | [], m :: ms => by simp [toPyL, PyData.eqvAll]
  | n :: ns, [] => by simp [toPyL, PyData.eqvAll]
  | n :: ns, m :: ms => by
    simp only [List.map_cons, toPyL, toPy, PyData.eqvAll, PyData.eqv]
    rw [ints_eqv ns ms]
    by_cases h : n = m <;> by_cases h2 : ns = ms <;> simp [h, h2]
theorem eqD_tupI (ns ms : List Int) : eqD (.tup (ns.map D.int)) (.tup (ms.map D.int)) = some (decide (ns = ms)) := by
  unfold eqD
  have e : eqS (.tup (ns.map D.int)) (.tup (ms.map D.int)) = none := rfl
  rw [e]
  dsimp only
  have sh : ∀ l : List Int, SeqAt.shaped (toPy (.tup (l.map D.int))) = true := fun l => by
    unfold SeqAt.shaped
    simp only [toPy, PyData.canLay0, PyData.depth, ints_lay, ints_dep]
    rfl
  rw [sh, sh]
  simp only [Bool.and_self, if_true, toPy, PyData.eqv, ints_eqv]
theorem eqD_lstI (ns ms : List Int) : eqD (.lst (ns.map D.int)) (.lst (ms.map D.int)) = some (decide (ns = ms)) := by
  unfold eqD
  have e : eqS (.lst (ns.map D.int)) (.lst (ms.map D.int)) = none := rfl
  rw [e]
  dsimp only
  have sh : ∀ l : List Int, SeqAt.shaped (toPy (.lst (l.map D.int))) = true := fun l => by
    unfold SeqAt.shaped
    simp only [toPy, PyData.canLay0, PyData.depth, ints_lay, ints_dep]
    rfl
  rw [sh, sh]
  simp only [Bool.and_self, if_true, toPy, PyData.eqv, ints_eqv]
end DL

set_option Elab.async false
set_option linter.all false
set_option maxRecDepth 100000
namespace LK
open PySem PySem.Spec PyProof.Rows L2 DL
def top (i : Nat) : Stmt := PySem.Challenge.pw_lastslips_k20_taking_places.main.body.getD i (.Pass ⟨0, 0, 0, 0⟩)

def raisedC : List Str := ["NotLocal", "Unknown"]
def excAll : List Str := ["Refused", "BadText", "Malformed", "BadStation", "BadPlace", "BadNumber", "TooMany", "Empty", "Unframed", "NotPack", "Unlike", "Stuck", "NothingBack", "LeftOver", "NotTrail", "Blocked", "Unnamed", "Opened", "Missing", "NotLocal", "NoPlan", "Doubled", "BadCard", "Unknown", "NotEnd"]
def excFields : List Str := ["at", "card", "courier", "limit", "name", "ring", "side", "station", "stations", "what"]
abbrev isX : D → D → Option D := isiX "Refused" excAll
def d_CHOOSING : D := .tup [.str "friend", .str "foe", .str "shun"]
def d_MODES : D := .tup [.str "top", .str "bottom", .str "turns", .str "hold", .str "shy", .str "late", .str "friend", .str "foe", .str "shun"]
structure Txt (K : Frag) (mg : Str → Option Value) : Prop where
  b_ValueError : mg "ValueError" = none
  b_abs : mg "abs" = none
  b_bool : mg "bool" = none
  b_enumerate : mg "enumerate" = none
  b_int : mg "int" = none
  b_isinstance : mg "isinstance" = none
  b_len : mg "len" = none
  b_list : mg "list" = none
  b_min : mg "min" = none
  b_range : mg "range" = none
  b_str : mg "str" = none
  b_tuple : mg "tuple" = none
  c_BadCard : mg "BadCard" = some (.ref (He.ga K "BadCard"))
  c_BadNumber : mg "BadNumber" = some (.ref (He.ga K "BadNumber"))
  c_BadPlace : mg "BadPlace" = some (.ref (He.ga K "BadPlace"))
  c_BadStation : mg "BadStation" = some (.ref (He.ga K "BadStation"))
  c_BadText : mg "BadText" = some (.ref (He.ga K "BadText"))
  c_Blocked : mg "Blocked" = some (.ref (He.ga K "Blocked"))
  c_CHOOSING : GTup K mg "CHOOSING" d_CHOOSING
  c_Doubled : mg "Doubled" = some (.ref (He.ga K "Doubled"))
  c_Empty : mg "Empty" = some (.ref (He.ga K "Empty"))
  c_LeftOver : mg "LeftOver" = some (.ref (He.ga K "LeftOver"))
  c_MODES : GTup K mg "MODES" d_MODES
  c_Malformed : mg "Malformed" = some (.ref (He.ga K "Malformed"))
  c_Missing : mg "Missing" = some (.ref (He.ga K "Missing"))
  c_NoPlan : mg "NoPlan" = some (.ref (He.ga K "NoPlan"))
  c_NotEnd : mg "NotEnd" = some (.ref (He.ga K "NotEnd"))
  c_NotLocal : mg "NotLocal" = some (.ref (He.ga K "NotLocal"))
  c_NotPack : mg "NotPack" = some (.ref (He.ga K "NotPack"))
  c_NotTrail : mg "NotTrail" = some (.ref (He.ga K "NotTrail"))
  c_NothingBack : mg "NothingBack" = some (.ref (He.ga K "NothingBack"))
  c_Opened : mg "Opened" = some (.ref (He.ga K "Opened"))
  c_Refused : mg "Refused" = some (.ref (He.ga K "Refused"))
  c_Stuck : mg "Stuck" = some (.ref (He.ga K "Stuck"))
  c_TooMany : mg "TooMany" = some (.ref (He.ga K "TooMany"))
  c_Unframed : mg "Unframed" = some (.ref (He.ga K "Unframed"))
  c_Unknown : mg "Unknown" = some (.ref (He.ga K "Unknown"))
  c_Unlike : mg "Unlike" = some (.ref (He.ga K "Unlike"))
  c_Unnamed : mg "Unnamed" = some (.ref (He.ga K "Unnamed"))
  exm_Refused : ∀ c ∈ raisedC, PySem.W.exmOne K (.ref (He.ga K c)) (.ref (He.ga K "Refused")) = some true
section
variable {P : Program} {w : World} {K : Frag} {mg : Str → Option Value} {base : Heap}
abbrev st_turn_places : Stmt := top 29
abbrev nm_turn_places : List Str := ["m", "k"]
theorem sc_turn_places : FnScope nm_turn_places ["m"] (defScope st_turn_places) := ⟨rfl, rfl, rfl, by decide +kernel, rfl, by decide +kernel, by decide +kernel⟩
def t_turn_places : TDS :=
  (sRet (eCall (fn1 tupD) (aCons (gFz (gComp [1] (.nm 1) (iRng rngF1 (aCons (eVar 0) aNil)) tYesD (eIf (eT (eBin (opEq false) (eBin opMod (eVar 1) (eC (.int 2))) (eC (.int 0)))) (eBin opDiv (eVar 1) (eC (.int 2))) (eBin opSub (eBin opSub (eVar 0) (eC (.int 1))) (eBin opDiv (eVar 1) (eC (.int 2))))))) aNil)))
def m_turn_places : List D → FR := runB [false] 1 t_turn_places
theorem ok_turn_places (T : Txt K mg) (hF : ∃ fd, FunD K "turn_places" "turn_places" (defArgs st_turn_places) (defBody st_turn_places) (defScope st_turn_places) [] [] (He.ga K "turn_places") fd) (hm : mg "turn_places" = some (.ref (He.ga K "turn_places"))) : Fn P w K mg base "turn_places" 1 [] [false] m_turn_places := by
  obtain ⟨fd, F⟩ := hF
  have nd := sc_turn_places.nd
  refine ⟨_, fd, ["m"], [], hm, F.kp, F.bindsN (fun _ _ _ _ _ _ us hl => match us, hl with | [_], _ => rfl), .nil, fn_deep (N := nm_turn_places) (t := t_turn_places) F sc_turn_places rfl (by decide) fun cdv A outer s H vs E hr => ?_⟩
  have hu := hr.units
  have po := passes_of (X := cxD P w K mg base nm_turn_places "turn_places" (defScope st_turn_places) (He.ga K "turn_places") cdv A outer s H E) rfl
  exact (db_one (ds_ret (de_callTy call_tuple_of opn_tuple T.b_tuple (by decide +kernel) (da_cons (de_g (dg_lc (own := [("k", 1)]) (by decide) rfl nd (di_range1 T.b_range (da_cons (de_var (pv 0)) da_nil)) (blkOk_by (own := [("k", 1)]) (N := nm_turn_places) (sc := defScope st_turn_places) (by decide +kernel)) (fun _ _ _ _ _ => (dtg_nm nd rfl)) (fun _ _ _ _ _ => difs_nil) (fun _ _ _ _ _ => (de_if (dt_cmp (op_eq.or (op_eqD hu)) op2_eq (de_op op_mod op2_mod (de_var (pv 1)) de_int) de_int) (de_op op_fdivW op2_div (de_var (pv 1)) de_int) (de_op op_sub op2_sub (de_op op_sub op2_sub (de_var (pv 0)) de_int) (de_op op_fdivW op2_div (de_var (pv 1)) de_int)))))) da_nil))))
abbrev st_parted_places : Stmt := top 30
abbrev nm_parted_places : List Str := ["pile", "names", "early", "i", "slip", "behind"]
theorem sc_parted_places : FnScope nm_parted_places ["pile", "names"] (defScope st_parted_places) := ⟨rfl, rfl, rfl, by decide +kernel, rfl, by decide +kernel, by decide +kernel⟩
def t_parted_places : TDS :=
  (sSeq (sAsg 2 (gFz (gComp [3, 4] (.tp [3, 4]) (iEn2 (aCons (eVar 0) aNil)) (eT (eBin (opIn true) (eVar 4) (eVar 1))) (eVar 3))))
    (sSeq (sAsg 5 (gFz (gComp [3, 4] (.tp [3, 4]) (iEn2 (aCons (eVar 0) aNil)) (eT (eBin (opIn false) (eVar 4) (eVar 1))) (eVar 3))))
    (sRet (eCall (fn1 tupD) (aCons (eBin opAdd (eVar 2) (eVar 5)) aNil)))))
def m_parted_places : List D → FR := runB [false, false] 4 t_parted_places
theorem ok_parted_places (T : Txt K mg) (hF : ∃ fd, FunD K "parted_places" "parted_places" (defArgs st_parted_places) (defBody st_parted_places) (defScope st_parted_places) [] [] (He.ga K "parted_places") fd) (hm : mg "parted_places" = some (.ref (He.ga K "parted_places"))) : Fn P w K mg base "parted_places" 1 [] [false, false] m_parted_places := by
  obtain ⟨fd, F⟩ := hF
  have nd := sc_parted_places.nd
  refine ⟨_, fd, ["pile", "names"], [], hm, F.kp, F.bindsN (fun _ _ _ _ _ _ us hl => match us, hl with | [_, _], _ => rfl), .nil, fn_deep (N := nm_parted_places) (t := t_parted_places) F sc_parted_places rfl (by decide) fun cdv A outer s H vs E hr => ?_⟩
  have hu := hr.units
  have po := passes_of (X := cxD P w K mg base nm_parted_places "parted_places" (defScope st_parted_places) (He.ga K "parted_places") cdv A outer s H E) rfl
  exact (db_cons (ds_setLc (own := [("i", 3), ("slip", 4)]) (i := 2) false rfl nd rfl rfl (sw_true rfl rfl rfl (by decide +kernel)) (di_enum2 T.b_enumerate (da_cons (de_var (pv 0)) da_nil)) (blkOk_by (own := [("i", 3), ("slip", 4)]) (N := nm_parted_places) (sc := defScope st_parted_places) (by decide +kernel)) (fun _ _ _ _ _ => (dtg_tp rfl (pn_cons (i := 3) nd rfl (pn_cons (i := 4) nd rfl pn_nil)))) (fun _ _ _ _ _ => (difs_one (dt_cmp op_notIn_seq op2_in (de_var (pv 4)) (de_var (pv 1))))) (fun _ _ _ _ _ => (de_var (pv 3))))
    (db_cons (ds_setLc (own := [("i", 3), ("slip", 4)]) (i := 5) false rfl nd rfl rfl (sw_true rfl rfl rfl (by decide +kernel)) (di_enum2 T.b_enumerate (da_cons (de_var (pv 0)) da_nil)) (blkOk_by (own := [("i", 3), ("slip", 4)]) (N := nm_parted_places) (sc := defScope st_parted_places) (by decide +kernel)) (fun _ _ _ _ _ => (dtg_tp rfl (pn_cons (i := 3) nd rfl (pn_cons (i := 4) nd rfl pn_nil)))) (fun _ _ _ _ _ => (difs_one (dt_cmp op_in_seq op2_in (de_var (pv 4)) (de_var (pv 1))))) (fun _ _ _ _ _ => (de_var (pv 3))))
    (db_one (ds_ret (de_callTy call_tuple_of opn_tuple T.b_tuple (by decide +kernel) (da_cons (de_op opr_add op2_add (de_var (pv 2)) (de_var (pv 5))) da_nil))))))
abbrev st_law_mix : Stmt := top 34
abbrev nm_law_mix : List Str := ["base", "turn", "place", "prime", "one", "two", "three"]
theorem sc_law_mix : FnScope nm_law_mix ["base", "turn", "place"] (defScope st_law_mix) := ⟨rfl, rfl, rfl, by decide +kernel, rfl, by decide +kernel, by decide +kernel⟩
def t_law_mix : TDS :=
  (sSeq (sAsg 3 (eC (.int 2305843009213693951)))
    (sSeq (sAsg 4 (eBin opAdd (eBin opAdd (eBin opAdd (eBin opMul (eVar 0) (eC (.int 6364136223846793005))) (eBin opMul (eVar 1) (eC (.int 1442695040888963407)))) (eBin opMul (eVar 2) (eC (.int 2862933555777941757)))) (eC (.int 3037000493))))
    (sSeq (sAsg 4 (eBin opMod (eCall (fn1 intD) (aCons (eVar 4) aNil)) (eVar 3)))
    (sSeq (sAsg 5 (eBin opMod (eCall (fn1 intD) (aCons (eBin opAdd (eBin opAdd (eBin opMul (eBin opDiv (eVar 4) (eC (.int 65537))) (eC (.int 2685821657736338717))) (eBin opMul (eVar 4) (eC (.int 1181783497276652981)))) (eVar 1)) aNil)) (eVar 3)))
    (sSeq (sAsg 6 (eBin opMod (eCall (fn1 intD) (aCons (eBin opAdd (eBin opAdd (eBin opMul (eVar 5) (eVar 5)) (eBin opMul (eBin opDiv (eVar 4) (eC (.int 4294967296))) (eC (.int 3935559000370003845)))) (eVar 2)) aNil)) (eVar 3)))
    (sRet (eBin opDiv (eVar 6) (eC (.int 8)))))))))
def m_law_mix : List D → FR := runB [false, false, false] 4 t_law_mix
theorem ok_law_mix (T : Txt K mg) (hF : ∃ fd, FunD K "_law_mix" "_law_mix" (defArgs st_law_mix) (defBody st_law_mix) (defScope st_law_mix) [] [] (He.ga K "_law_mix") fd) (hm : mg "_law_mix" = some (.ref (He.ga K "_law_mix"))) : Fn P w K mg base "_law_mix" 1 [] [false, false, false] m_law_mix := by
  obtain ⟨fd, F⟩ := hF
  have nd := sc_law_mix.nd
  refine ⟨_, fd, ["base", "turn", "place"], [], hm, F.kp, F.bindsN (fun _ _ _ _ _ _ us hl => match us, hl with | [_, _, _], _ => rfl), .nil, fn_deep (N := nm_law_mix) (t := t_law_mix) F sc_law_mix rfl (by decide) fun cdv A outer s H vs E hr => ?_⟩
  have hu := hr.units
  have po := passes_of (X := cxD P w K mg base nm_law_mix "_law_mix" (defScope st_law_mix) (He.ga K "_law_mix") cdv A outer s H E) rfl
  exact (db_cons (ds_asg (i := 3) nd rfl de_int)
    (db_cons (ds_asg (i := 4) nd rfl (de_op opr_add op2_add (de_op opr_add op2_add (de_op opr_add op2_add (de_op op_mulX op2_mul (de_var (pv 0)) de_int) (de_op op_mulX op2_mul (de_var (pv 1)) de_int)) (de_op op_mulX op2_mul (de_var (pv 2)) de_int)) de_int))
    (db_cons (ds_asg (i := 4) nd rfl (de_op op_mod op2_mod (de_callTy call_int1 opn_int T.b_int (by decide +kernel) (da_cons (de_var (pv 4)) da_nil)) (de_var (pv 3))))
    (db_cons (ds_asg (i := 5) nd rfl (de_op op_mod op2_mod (de_callTy call_int1 opn_int T.b_int (by decide +kernel) (da_cons (de_op opr_add op2_add (de_op opr_add op2_add (de_op op_mulX op2_mul (de_op op_fdivW op2_div (de_var (pv 4)) de_int) de_int) (de_op op_mulX op2_mul (de_var (pv 4)) de_int)) (de_var (pv 1))) da_nil)) (de_var (pv 3))))
    (db_cons (ds_asg (i := 6) nd rfl (de_op op_mod op2_mod (de_callTy call_int1 opn_int T.b_int (by decide +kernel) (da_cons (de_op opr_add op2_add (de_op opr_add op2_add (de_op op_mulX op2_mul (de_var (pv 5)) (de_var (pv 5))) (de_op op_mulX op2_mul (de_op op_fdivW op2_div (de_var (pv 4)) de_int) de_int)) (de_var (pv 2))) da_nil)) (de_var (pv 3))))
    (db_one (ds_ret (de_op op_fdivW op2_div (de_var (pv 6)) de_int))))))))
abbrev st_law_same_leaf : Stmt := top 41
abbrev nm_law_same_leaf : List Str := ["actual", "due"]
theorem sc_law_same_leaf : FnScope nm_law_same_leaf ["actual", "due"] (defScope st_law_same_leaf) := ⟨rfl, rfl, rfl, by decide +kernel, rfl, by decide +kernel, by decide +kernel⟩
def t_law_same_leaf : TDS :=
  (sSeq (sIf (eT (eBin (opIs false) (eVar 1) (eC .non)))
    (sRet (eBin (opIs false) (eVar 0) (eC .non))) sNil)
    (sSeq (sIf (eT (eCall (fn2 isiD) (aCons (eVar 1) (aCons (eC (.ty "bool")) aNil))))
    (sRet (eAnd (eCall (fn2 isiD) (aCons (eVar 0) (aCons (eC (.ty "bool")) aNil))) (eBin (opEq false) (eVar 0) (eVar 1)))) sNil)
    (sSeq (sIf (eT (eCall (fn2 isiD) (aCons (eVar 1) (aCons (eC (.ty "int")) aNil))))
    (sRet (eAnd (eCall (fn2 isiD) (aCons (eVar 0) (aCons (eC (.ty "int")) aNil))) (eAnd (eNot (eCall (fn2 isiD) (aCons (eVar 0) (aCons (eC (.ty "bool")) aNil)))) (eBin (opEq false) (eVar 0) (eVar 1))))) sNil)
    (sSeq (sIf (eT (eCall (fn2 isiD) (aCons (eVar 1) (aCons (eC (.ty "str")) aNil))))
    (sRet (eAnd (eCall (fn2 isiD) (aCons (eVar 0) (aCons (eC (.ty "str")) aNil))) (eBin (opEq false) (eVar 0) (eVar 1)))) sNil)
    (sRet (eC (.bl false)))))))
def m_law_same_leaf : List D → FR := runB [false, false] 0 t_law_same_leaf
theorem ok_law_same_leaf (T : Txt K mg) (hF : ∃ fd, FunD K "_law_same_leaf" "_law_same_leaf" (defArgs st_law_same_leaf) (defBody st_law_same_leaf) (defScope st_law_same_leaf) [] [] (He.ga K "_law_same_leaf") fd) (hm : mg "_law_same_leaf" = some (.ref (He.ga K "_law_same_leaf"))) : Fn P w K mg base "_law_same_leaf" 1 [] [false, false] m_law_same_leaf := by
  obtain ⟨fd, F⟩ := hF
  have nd := sc_law_same_leaf.nd
  refine ⟨_, fd, ["actual", "due"], [], hm, F.kp, F.bindsN (fun _ _ _ _ _ _ us hl => match us, hl with | [_, _], _ => rfl), .nil, fn_deep (N := nm_law_same_leaf) (t := t_law_same_leaf) F sc_law_same_leaf rfl (by decide) fun cdv A outer s H vs E hr => ?_⟩
  have hu := hr.units
  have po := passes_of (X := cxD P w K mg base nm_law_same_leaf "_law_same_leaf" (defScope st_law_same_leaf) (He.ga K "_law_same_leaf") cdv A outer s H E) rfl
  exact (db_cons (ds_if (dt_cmp op_isN op2_is (de_var (pv 1)) de_non)
    (db_one (ds_ret (de_cmp op_isN op2_is (de_var (pv 0)) de_non))) db_nil)
    (db_cons (ds_if (dt_val (de_callB call_isi opn_isi T.b_isinstance (by decide +kernel) (da_cons (de_var (pv 1)) (da_cons (de_ty T.b_bool (by decide +kernel)) da_nil))))
    (db_one (ds_ret (de_and (de_callB call_isi opn_isi T.b_isinstance (by decide +kernel) (da_cons (de_var (pv 0)) (da_cons (de_ty T.b_bool (by decide +kernel)) da_nil))) (de_one (de_cmp (op_eq.or (op_eqD hu)) op2_eq (de_var (pv 0)) (de_var (pv 1))))))) db_nil)
    (db_cons (ds_if (dt_val (de_callB call_isi opn_isi T.b_isinstance (by decide +kernel) (da_cons (de_var (pv 1)) (da_cons (de_ty T.b_int (by decide +kernel)) da_nil))))
    (db_one (ds_ret (de_and (de_callB call_isi opn_isi T.b_isinstance (by decide +kernel) (da_cons (de_var (pv 0)) (da_cons (de_ty T.b_int (by decide +kernel)) da_nil))) (de_and (de_not (de_callB call_isi opn_isi T.b_isinstance (by decide +kernel) (da_cons (de_var (pv 0)) (da_cons (de_ty T.b_bool (by decide +kernel)) da_nil)))) (de_one (de_cmp (op_eq.or (op_eqD hu)) op2_eq (de_var (pv 0)) (de_var (pv 1)))))))) db_nil)
    (db_cons (ds_if (dt_val (de_callB call_isi opn_isi T.b_isinstance (by decide +kernel) (da_cons (de_var (pv 1)) (da_cons (de_ty T.b_str (by decide +kernel)) da_nil))))
    (db_one (ds_ret (de_and (de_callB call_isi opn_isi T.b_isinstance (by decide +kernel) (da_cons (de_var (pv 0)) (da_cons (de_ty T.b_str (by decide +kernel)) da_nil))) (de_one (de_cmp (op_eq.or (op_eqD hu)) op2_eq (de_var (pv 0)) (de_var (pv 1))))))) db_nil)
    (db_one (ds_ret de_bl))))))
abbrev st_law_class : Stmt := top 42
abbrev nm_law_class : List Str := ["e", "told", "flags", "found", "k"]
theorem sc_law_class : FnScope nm_law_class ["e"] (defScope st_law_class) := ⟨rfl, rfl, rfl, by decide +kernel, rfl, by decide +kernel, by decide +kernel⟩
def tE_law_class : TDS :=
  (sSeq (sAsg 1 (gFz (gDis .lst (aCons (eC (.str "BadText")) (aCons (eC (.str "Malformed")) (aCons (eC (.str "BadStation")) (aCons (eC (.str "BadPlace")) (aCons (eC (.str "BadNumber")) (aCons (eC (.str "TooMany")) (aCons (eC (.str "Empty")) (aCons (eC (.str "Unframed")) (aCons (eC (.str "NotPack")) aNil))))))))))))
    (sSeq (sAsg 1 (eBin opAdd (eVar 1) (gFz (gDis .lst (aCons (eC (.str "Unlike")) (aCons (eC (.str "Stuck")) (aCons (eC (.str "NothingBack")) (aCons (eC (.str "LeftOver")) (aCons (eC (.str "NotTrail")) (aCons (eC (.str "Blocked")) (aCons (eC (.str "Unnamed")) (aCons (eC (.str "Opened")) (aCons (eC (.str "Missing")) aNil)))))))))))))
    (sSeq (sAsg 1 (eBin opAdd (eVar 1) (gFz (gDis .lst (aCons (eC (.str "NotLocal")) (aCons (eC (.str "NoPlan")) (aCons (eC (.str "Doubled")) (aCons (eC (.str "BadCard")) (aCons (eC (.str "Unknown")) (aCons (eC (.str "NotEnd")) aNil))))))))))
    (sSeq (sAsg 2 (gFz (gDis .lst (aCons (eCall (fn2 isX) (aCons (eVar 0) (aCons (eC (.cls "BadText")) aNil))) (aCons (eCall (fn2 isX) (aCons (eVar 0) (aCons (eC (.cls "Malformed")) aNil))) (aCons (eCall (fn2 isX) (aCons (eVar 0) (aCons (eC (.cls "BadStation")) aNil))) (aCons (eCall (fn2 isX) (aCons (eVar 0) (aCons (eC (.cls "BadPlace")) aNil))) aNil)))))))
    (sSeq (sAsg 2 (eBin opAdd (eVar 2) (gFz (gDis .lst (aCons (eCall (fn2 isX) (aCons (eVar 0) (aCons (eC (.cls "BadNumber")) aNil))) (aCons (eCall (fn2 isX) (aCons (eVar 0) (aCons (eC (.cls "TooMany")) aNil))) (aCons (eCall (fn2 isX) (aCons (eVar 0) (aCons (eC (.cls "Empty")) aNil))) (aCons (eCall (fn2 isX) (aCons (eVar 0) (aCons (eC (.cls "Unframed")) aNil))) aNil))))))))
    (sSeq (sAsg 2 (eBin opAdd (eVar 2) (gFz (gDis .lst (aCons (eCall (fn2 isX) (aCons (eVar 0) (aCons (eC (.cls "NotPack")) aNil))) (aCons (eCall (fn2 isX) (aCons (eVar 0) (aCons (eC (.cls "Unlike")) aNil))) (aCons (eCall (fn2 isX) (aCons (eVar 0) (aCons (eC (.cls "Stuck")) aNil))) (aCons (eCall (fn2 isX) (aCons (eVar 0) (aCons (eC (.cls "NothingBack")) aNil))) aNil))))))))
    (sSeq (sAsg 2 (eBin opAdd (eVar 2) (gFz (gDis .lst (aCons (eCall (fn2 isX) (aCons (eVar 0) (aCons (eC (.cls "LeftOver")) aNil))) (aCons (eCall (fn2 isX) (aCons (eVar 0) (aCons (eC (.cls "NotTrail")) aNil))) (aCons (eCall (fn2 isX) (aCons (eVar 0) (aCons (eC (.cls "Blocked")) aNil))) (aCons (eCall (fn2 isX) (aCons (eVar 0) (aCons (eC (.cls "Unnamed")) aNil))) aNil))))))))
    (sSeq (sAsg 2 (eBin opAdd (eVar 2) (gFz (gDis .lst (aCons (eCall (fn2 isX) (aCons (eVar 0) (aCons (eC (.cls "Opened")) aNil))) (aCons (eCall (fn2 isX) (aCons (eVar 0) (aCons (eC (.cls "Missing")) aNil))) (aCons (eCall (fn2 isX) (aCons (eVar 0) (aCons (eC (.cls "NotLocal")) aNil))) (aCons (eCall (fn2 isX) (aCons (eVar 0) (aCons (eC (.cls "NoPlan")) aNil))) aNil))))))))
    (sSeq (sAsg 2 (eBin opAdd (eVar 2) (gFz (gDis .lst (aCons (eCall (fn2 isX) (aCons (eVar 0) (aCons (eC (.cls "Doubled")) aNil))) (aCons (eCall (fn2 isX) (aCons (eVar 0) (aCons (eC (.cls "BadCard")) aNil))) (aCons (eCall (fn2 isX) (aCons (eVar 0) (aCons (eC (.cls "Unknown")) aNil))) (aCons (eCall (fn2 isX) (aCons (eVar 0) (aCons (eC (.cls "NotEnd")) aNil))) aNil))))))))
    (sSeq (sAsg 3 (gFz (gComp [4] (.nm 4) (iRng rngF1 (aCons (eC (.int 24)) aNil)) (eT (eBin opIx (eVar 2) (eVar 4))) (eBin opIx (eVar 1) (eVar 4)))))
    (sSeq (sIf (bAnd (eT (eBin (opEq false) (eCall (fn1 lenD) (aCons (eVar 3) aNil)) (eC (.int 1)))) (bAnd (eT (eCall (fn2 isX) (aCons (eVar 0) (aCons (eC (.cls "Refused")) aNil)))) (eT (eCall (fn2 isX) (aCons (eVar 0) (aCons (eC (.ty "ValueError")) aNil))))))
    (sRet (eBin opIx (eVar 3) (eC (.int 0)))) sNil)
    (sRet (eC (.str ""))))))))))))))
def mE_law_class : List D → FR := noX (runB [false] 4 tE_law_class)
theorem okE_law_class (T : Txt K mg) (hF : ∃ fd, FunD K "_law_class" "_law_class" (defArgs st_law_class) (defBody st_law_class) (defScope st_law_class) [] [] (He.ga K "_law_class") fd) (hm : mg "_law_class" = some (.ref (He.ga K "_law_class"))) (TX : ExcT K "Refused" excAll raisedC excFields) : FnE P w K mg base "_law_class" 1 [false] mE_law_class raisedC := by
  obtain ⟨fd, F⟩ := hF
  have nd := sc_law_class.nd
  refine fn_deepE (N := nm_law_class) (ps := ["e"]) (t := tE_law_class) F hm (F.bindsN fun _ _ _ _ _ _ us hl => match us, hl with | [_], _ => rfl) sc_law_class rfl (by decide) fun cdv A outer s H vs E a oe c d hr hot => ?_
  have hu := hu_hot hr
  exact (db_cons (ds_asg (i := 1) nd rfl (de_lst (da_cons de_str (da_cons de_str (da_cons de_str (da_cons de_str (da_cons de_str (da_cons de_str (da_cons de_str (da_cons de_str (da_cons de_str da_nil)))))))))))
    (db_cons (ds_asg (i := 1) nd rfl (de_op opr_add op2_add (de_var (pv 1)) (de_lst (da_cons de_str (da_cons de_str (da_cons de_str (da_cons de_str (da_cons de_str (da_cons de_str (da_cons de_str (da_cons de_str (da_cons de_str da_nil))))))))))))
    (db_cons (ds_asg (i := 1) nd rfl (de_op opr_add op2_add (de_var (pv 1)) (de_lst (da_cons de_str (da_cons de_str (da_cons de_str (da_cons de_str (da_cons de_str (da_cons de_str da_nil)))))))))
    (db_cons (ds_asg (i := 2) nd rfl (de_lst (da_cons (de_isX TX hot T.b_isinstance (da_cons (de_var (pv 0)) (da_cons (de_cls T.c_BadText) da_nil))) (da_cons (de_isX TX hot T.b_isinstance (da_cons (de_var (pv 0)) (da_cons (de_cls T.c_Malformed) da_nil))) (da_cons (de_isX TX hot T.b_isinstance (da_cons (de_var (pv 0)) (da_cons (de_cls T.c_BadStation) da_nil))) (da_cons (de_isX TX hot T.b_isinstance (da_cons (de_var (pv 0)) (da_cons (de_cls T.c_BadPlace) da_nil))) da_nil))))))
    (db_cons (ds_asg (i := 2) nd rfl (de_op opr_add op2_add (de_var (pv 2)) (de_lst (da_cons (de_isX TX hot T.b_isinstance (da_cons (de_var (pv 0)) (da_cons (de_cls T.c_BadNumber) da_nil))) (da_cons (de_isX TX hot T.b_isinstance (da_cons (de_var (pv 0)) (da_cons (de_cls T.c_TooMany) da_nil))) (da_cons (de_isX TX hot T.b_isinstance (da_cons (de_var (pv 0)) (da_cons (de_cls T.c_Empty) da_nil))) (da_cons (de_isX TX hot T.b_isinstance (da_cons (de_var (pv 0)) (da_cons (de_cls T.c_Unframed) da_nil))) da_nil)))))))
    (db_cons (ds_asg (i := 2) nd rfl (de_op opr_add op2_add (de_var (pv 2)) (de_lst (da_cons (de_isX TX hot T.b_isinstance (da_cons (de_var (pv 0)) (da_cons (de_cls T.c_NotPack) da_nil))) (da_cons (de_isX TX hot T.b_isinstance (da_cons (de_var (pv 0)) (da_cons (de_cls T.c_Unlike) da_nil))) (da_cons (de_isX TX hot T.b_isinstance (da_cons (de_var (pv 0)) (da_cons (de_cls T.c_Stuck) da_nil))) (da_cons (de_isX TX hot T.b_isinstance (da_cons (de_var (pv 0)) (da_cons (de_cls T.c_NothingBack) da_nil))) da_nil)))))))
    (db_cons (ds_asg (i := 2) nd rfl (de_op opr_add op2_add (de_var (pv 2)) (de_lst (da_cons (de_isX TX hot T.b_isinstance (da_cons (de_var (pv 0)) (da_cons (de_cls T.c_LeftOver) da_nil))) (da_cons (de_isX TX hot T.b_isinstance (da_cons (de_var (pv 0)) (da_cons (de_cls T.c_NotTrail) da_nil))) (da_cons (de_isX TX hot T.b_isinstance (da_cons (de_var (pv 0)) (da_cons (de_cls T.c_Blocked) da_nil))) (da_cons (de_isX TX hot T.b_isinstance (da_cons (de_var (pv 0)) (da_cons (de_cls T.c_Unnamed) da_nil))) da_nil)))))))
    (db_cons (ds_asg (i := 2) nd rfl (de_op opr_add op2_add (de_var (pv 2)) (de_lst (da_cons (de_isX TX hot T.b_isinstance (da_cons (de_var (pv 0)) (da_cons (de_cls T.c_Opened) da_nil))) (da_cons (de_isX TX hot T.b_isinstance (da_cons (de_var (pv 0)) (da_cons (de_cls T.c_Missing) da_nil))) (da_cons (de_isX TX hot T.b_isinstance (da_cons (de_var (pv 0)) (da_cons (de_cls T.c_NotLocal) da_nil))) (da_cons (de_isX TX hot T.b_isinstance (da_cons (de_var (pv 0)) (da_cons (de_cls T.c_NoPlan) da_nil))) da_nil)))))))
    (db_cons (ds_asg (i := 2) nd rfl (de_op opr_add op2_add (de_var (pv 2)) (de_lst (da_cons (de_isX TX hot T.b_isinstance (da_cons (de_var (pv 0)) (da_cons (de_cls T.c_Doubled) da_nil))) (da_cons (de_isX TX hot T.b_isinstance (da_cons (de_var (pv 0)) (da_cons (de_cls T.c_BadCard) da_nil))) (da_cons (de_isX TX hot T.b_isinstance (da_cons (de_var (pv 0)) (da_cons (de_cls T.c_Unknown) da_nil))) (da_cons (de_isX TX hot T.b_isinstance (da_cons (de_var (pv 0)) (da_cons (de_cls T.c_NotEnd) da_nil))) da_nil)))))))
    (db_cons (ds_setLcH (own := [("k", 4)]) (i := 3) false hot.c nd rfl rfl (sw_true rfl rfl rfl (by decide +kernel)) (dih_range1 T.b_range (da_cons de_int da_nil)) (blkOk_by (own := [("k", 4)]) (N := nm_law_class) (sc := defScope st_law_class) (by decide +kernel)) (fun _ _ _ _ _ => (dtg_nm nd rfl)) (fun _ _ _ _ _ => (difs_one (dt_val (de_ix (de_var (pv 2)) (de_var (pv 4)))))) (fun _ _ _ _ _ => (de_ix (de_var (pv 1)) (de_var (pv 4)))))
    (db_cons (ds_if (DW.pt (dw_and (dt_cmp (op_eq.or (op_eqD hu)) op2_eq (de_callB call_len opn_len T.b_len (by decide +kernel) (da_cons (de_var (pv 3)) da_nil)) de_int) (dw_and (dt_val (de_isX TX hot T.b_isinstance (da_cons (de_var (pv 0)) (da_cons (de_cls T.c_Refused) da_nil)))) (dw_and1 (dt_val (de_isX TX hot T.b_isinstance (da_cons (de_var (pv 0)) (da_cons (de_ty T.b_ValueError (by decide +kernel)) da_nil))))))))
    (db_one (ds_ret (de_ix (de_var (pv 3)) de_int))) db_nil)
    (db_one (ds_ret de_str)))))))))))))
abbrev st_law_taken_places : Stmt := top 44
abbrev nm_law_taken_places : List Str := ["mode", "v", "pile", "goals", "left", "made", "k", "last", "i"]
theorem sc_law_taken_places : FnScope nm_law_taken_places ["mode", "v", "pile", "goals"] (defScope st_law_taken_places) := ⟨rfl, rfl, rfl, by decide +kernel, rfl, by decide +kernel, by decide +kernel⟩
def t_law_taken_places : TDS :=
  (sSeq (sAsgG 4 (gRg .lst (rRg1 (eCall (fn1 lenD) (aCons (eVar 2) aNil)))))
    (sSeq (sIf (eT (eBin (opEq false) (eVar 0) (eC (.str "top"))))
    (sRet (eVar 4)) sNil)
    (sSeq (sIf (eT (eBin (opEq false) (eVar 0) (eC (.str "bottom"))))
    (sRet (gFz (gRev (eVar 4)))) sNil)
    (sSeq (sIf (eT (eBin (opEq false) (eVar 0) (eC (.str "hold"))))
    (sRet (eBin opAdd (eSl (eVar 4) (oSome (eC (.int 1))) oNone) (eSl (eVar 4) oNone (oSome (eC (.int 1)))))) sNil)
    (sSeq (sIf (eT (eBin (opEq false) (eVar 0) (eC (.str "turns"))))
    (sSeq (sAsgG 5 (gDis .lst aNil))
    (sSeq (sFor (.nm 6) (iRng rngF1 (aCons (eCall (fn1 lenD) (aCons (eVar 2) aNil)) aNil))
    (sExpr (eMut lmApp (eVar 5) (aCons (eMut lmPopAt (eVar 4) (aCons (eBin opSub (eBin opMul (eBin opDiv (eVar 6) (eC (.int 2))) (eC (.int 2))) (eVar 6)) aNil)) aNil))))
    (sRet (eVar 5)))) sNil)
    (sSeq (sAsg 7 (gFz (gDis .lst (aCons (eVar 1) aNil))))
    (sSeq (sIf (eT (eBin (opEq false) (eVar 0) (eC (.str "late"))))
    (sAsg 7 (gFz (gCall fnL (aCons (eVar 3) aNil)))) sNil)
    (sRet (eBin opAdd (gFz (gComp [8] (.nm 8) (iSeq (eVar 4)) (eT (eBin (opIn true) (eBin opIx (eVar 2) (eVar 8)) (eVar 7))) (eVar 8))) (gFz (gComp [8] (.nm 8) (iSeq (eVar 4)) (eT (eBin (opIn false) (eBin opIx (eVar 2) (eVar 8)) (eVar 7))) (eVar 8))))))))))))
def m_law_taken_places : List D → FR := runB [false, false, false, false] 5 t_law_taken_places
theorem ok_law_taken_places (T : Txt K mg) (hF : ∃ fd, FunD K "_law_taken_places" "_law_taken_places" (defArgs st_law_taken_places) (defBody st_law_taken_places) (defScope st_law_taken_places) [] [] (He.ga K "_law_taken_places") fd) (hm : mg "_law_taken_places" = some (.ref (He.ga K "_law_taken_places"))) : Fn P w K mg base "_law_taken_places" 1 [] [false, false, false, false] m_law_taken_places := by
  obtain ⟨fd, F⟩ := hF
  have nd := sc_law_taken_places.nd
  refine ⟨_, fd, ["mode", "v", "pile", "goals"], [], hm, F.kp, F.bindsN (fun _ _ _ _ _ _ us hl => match us, hl with | [_, _, _, _], _ => rfl), .nil, fn_deep (N := nm_law_taken_places) (t := t_law_taken_places) F sc_law_taken_places rfl (by decide) fun cdv A outer s H vs E hr => ?_⟩
  have hu := hr.units
  have po := passes_of (X := cxD P w K mg base nm_law_taken_places "_law_taken_places" (defScope st_law_taken_places) (He.ga K "_law_taken_places") cdv A outer s H E) rfl
  exact (db_cons (ds_asgG (i := 4) nd rfl (dg_listRg (by decide) rfl T.b_list (drg_1 T.b_range (de_callB call_len opn_len T.b_len (by decide +kernel) (da_cons (de_var (pv 2)) da_nil)))))
    (db_cons (ds_if (dt_cmp (op_eq.or (op_eqD hu)) op2_eq (de_var (pv 0)) de_str)
    (db_one (ds_ret (de_var (pv 4)))) db_nil)
    (db_cons (ds_if (dt_cmp (op_eq.or (op_eqD hu)) op2_eq (de_var (pv 0)) de_str)
    (db_one (ds_ret (de_g (dg_rev (by decide) (de_var (pv 4)))))) db_nil)
    (db_cons (ds_if (dt_cmp (op_eq.or (op_eqD hu)) op2_eq (de_var (pv 0)) de_str)
    (db_one (ds_ret (de_op opr_add op2_add (de_slice (de_var (pv 4)) (do_some de_int) do_none) (de_slice (de_var (pv 4)) do_none (do_some de_int))))) db_nil)
    (db_cons (ds_if (dt_cmp (op_eq.or (op_eqD hu)) op2_eq (de_var (pv 0)) de_str)
    (db_cons (ds_asgG (i := 5) nd rfl (dg_lst (by decide) da_nil))
    (db_cons (ds_for po rfl (di_range1 T.b_range (da_cons (de_callB call_len opn_len T.b_len (by decide +kernel) (da_cons (de_var (pv 2)) da_nil)) da_nil)) (dtg_nm nd rfl)
    (db_one (ds_expr (de_mut PySem.F.slot_list_append PySem.F.type_list_append mt_append mtl_app (de_var (pv 5)) (da_cons (de_mut PySem.F.slot_list_pop PySem.F.type_list_pop mt_popAt mtl_popAt (de_var (pv 4)) (da_cons (de_op op_sub op2_sub (de_op op_mulX op2_mul (de_op op_fdivW op2_div (de_var (pv 6)) de_int) de_int) (de_var (pv 6))) da_nil)) da_nil)))))
    (db_one (ds_ret (de_var (pv 5)))))) db_nil)
    (db_cons (ds_asg (i := 7) nd rfl (de_lst (da_cons (de_var (pv 1)) da_nil)))
    (db_cons (ds_if (dt_cmp (op_eq.or (op_eqD hu)) op2_eq (de_var (pv 0)) de_str)
    (db_one (ds_asg (i := 7) nd rfl (de_g (dg_callTy call_list_of (opn_list (by decide)) T.b_list (by decide +kernel) (da_cons (de_var (pv 3)) da_nil))))) db_nil)
    (db_one (ds_ret (de_op opr_add op2_add (de_g (dg_lc (own := [("i", 8)]) (by decide) rfl nd (di_seq (de_var (pv 4))) (blkOk_by (own := [("i", 8)]) (N := nm_law_taken_places) (sc := defScope st_law_taken_places) (by decide +kernel)) (fun _ _ _ _ _ => (dtg_nm nd rfl)) (fun _ _ _ _ _ => (difs_one (dt_cmp op_notIn_seq op2_in (de_ix (de_var (pv 2)) (de_var (pv 8))) (de_var (pv 7))))) (fun _ _ _ _ _ => (de_var (pv 8))))) (de_g (dg_lc (own := [("i", 8)]) (by decide) rfl nd (di_seq (de_var (pv 4))) (blkOk_by (own := [("i", 8)]) (N := nm_law_taken_places) (sc := defScope st_law_taken_places) (by decide +kernel)) (fun _ _ _ _ _ => (dtg_nm nd rfl)) (fun _ _ _ _ _ => (difs_one (dt_cmp op_in_seq op2_in (de_ix (de_var (pv 2)) (de_var (pv 8))) (de_var (pv 7))))) (fun _ _ _ _ _ => (de_var (pv 8)))))))))))))))
abbrev st_law_store : Stmt := top 35
abbrev nm_law_store : List Str := ["script", "limit", "k", "cells", "seed", "cell", "size", "great", "code"]
theorem sc_law_store : FnScope nm_law_store ["script"] (defScope st_law_store) := ⟨rfl, rfl, rfl, by decide +kernel, rfl, by decide +kernel, by decide +kernel⟩
def t_law_store : TDS :=
  (sSeq (sAsg 1 (eBin opPow (eC (.int 10)) (eC (.int 50))))
    (sSeq (sFor (.nm 2) (iRng rngF1 (aCons (eC (.int 4)) aNil))
    (sAsg 1 (eBin opMul (eVar 1) (eVar 1))))
    (sSeq (sAsgG 3 (gDis .lst aNil))
    (sSeq (sAsg 4 (eC (.int 11)))
    (sSeq (sFor (.nm 5) (iSeq (eSl (eVar 0) oNone (oSome (eC (.int 63)))))
    (sSeq (sAsg 6 (eCall (fn1 absD) (aCons (eCall (fn1 intD) (aCons (eVar 5) aNil)) aNil)))
    (sSeq (sAsg 7 (eCall (fn1 intD) (aCons (eBin opGe (eVar 6) (eBin opPow (eC (.int 10)) (eC (.int 18)))) aNil)))
    (sSeq (sAsg 6 (eBin opMod (eCall (fn1 intD) (aCons (eVar 6) aNil)) (eVar 1)))
    (sSeq (sAsg 8 (eBin opAdd (eBin opMul (eC (.int 2)) (eVar 6)) (eCall (fn1 intD) (aCons (eBin opLt (eVar 5) (eC (.int 0))) aNil))))
    (sSeq (sAsg 4 (eFn [false, false, false] m_law_mix (aCons (eVar 4) (aCons (eBin opMod (eCall (fn1 intD) (aCons (eVar 8) aNil)) (eC (.int 2305843009213693951))) (aCons (eBin opAdd (eCall (fn1 lenD) (aCons (eVar 3) aNil)) (eC (.int 1))) aNil)))))
    (sIf (eT (eBin (opEq false) (eVar 7) (eC (.int 1))))
    (sExpr (eMut lmApp (eVar 3) (aCons (gFz (gDis .tup (aCons (eC (.int 1)) (aCons (eVar 6) aNil)))) aNil))) (sExpr (eMut lmApp (eVar 3) (aCons (gFz (gDis .tup (aCons (eC (.int 0)) (aCons (eVar 8) aNil)))) aNil))))))))))
    (sRetG (gDis .lst (aCons (eVar 3) (aCons (eC (.int 0)) (aCons (eC (.int 0)) (aCons (eC (.int 0)) (aCons (eC (.int 0)) (aCons (eVar 4) aNil)))))))))))))
def m_law_store : List D → FR := runB [false] 8 t_law_store
theorem ok_law_store (T : Txt K mg) (hF : ∃ fd, FunD K "_law_store" "_law_store" (defArgs st_law_store) (defBody st_law_store) (defScope st_law_store) [] [] (He.ga K "_law_store") fd) (hm : mg "_law_store" = some (.ref (He.ga K "_law_store"))) (F_law_mix : Fn P w K mg base "_law_mix" 1 [] [false, false, false] m_law_mix) : Fn P w K mg base "_law_store" 2 [] [false] m_law_store := by
  obtain ⟨fd, F⟩ := hF
  have nd := sc_law_store.nd
  refine ⟨_, fd, ["script"], [], hm, F.kp, F.bindsN (fun _ _ _ _ _ _ us hl => match us, hl with | [_], _ => rfl), .nil, fn_deep (N := nm_law_store) (t := t_law_store) F sc_law_store rfl (by decide) fun cdv A outer s H vs E hr => ?_⟩
  have hu := hr.units
  have po := passes_of (X := cxD P w K mg base nm_law_store "_law_store" (defScope st_law_store) (He.ga K "_law_store") cdv A outer s H E) rfl
  exact (db_cons (ds_asg (i := 1) nd rfl (de_op op_pow op2_pow de_int de_int))
    (db_cons (ds_for po rfl (di_range1 T.b_range (da_cons de_int da_nil)) (dtg_nm nd rfl)
    (db_one (ds_asg (i := 1) nd rfl (de_op op_mulX op2_mul (de_var (pv 1)) (de_var (pv 1))))))
    (db_cons (ds_asgG (i := 3) nd rfl (dg_lst (by decide) da_nil))
    (db_cons (ds_asg (i := 4) nd rfl de_int)
    (db_cons (ds_for po rfl (di_seq (de_slice (de_var (pv 0)) do_none (do_some de_int))) (dtg_nm nd rfl)
    (db_cons (ds_asg (i := 6) nd rfl (de_callB call_abs opn_abs T.b_abs (by decide +kernel) (da_cons (de_callTy call_int1 opn_int T.b_int (by decide +kernel) (da_cons (de_var (pv 5)) da_nil)) da_nil)))
    (db_cons (ds_asg (i := 7) nd rfl (de_callTy call_int1 opn_int T.b_int (by decide +kernel) (da_cons (de_cmp op_ge op2_ge (de_var (pv 6)) (de_op op_pow op2_pow de_int de_int)) da_nil)))
    (db_cons (ds_asg (i := 6) nd rfl (de_op op_mod op2_mod (de_callTy call_int1 opn_int T.b_int (by decide +kernel) (da_cons (de_var (pv 6)) da_nil)) (de_var (pv 1))))
    (db_cons (ds_asg (i := 8) nd rfl (de_op opr_add op2_add (de_op op_mulX op2_mul de_int (de_var (pv 6))) (de_callTy call_int1 opn_int T.b_int (by decide +kernel) (da_cons (de_cmp op_lt op2_lt (de_var (pv 5)) de_int) da_nil))))
    (db_cons (ds_asg (i := 4) nd rfl (de_fn F_law_mix hr (ha := (da_cons (de_var (pv 4)) (da_cons (de_op op_mod op2_mod (de_callTy call_int1 opn_int T.b_int (by decide +kernel) (da_cons (de_var (pv 8)) da_nil)) de_int) (da_cons (de_op opr_add op2_add (de_callB call_len opn_len T.b_len (by decide +kernel) (da_cons (de_var (pv 3)) da_nil)) de_int) da_nil))))))
    (db_one (ds_if (dt_cmp (op_eq.or (op_eqD hu)) op2_eq (de_var (pv 7)) de_int)
    (db_one (ds_expr (de_mut PySem.F.slot_list_append PySem.F.type_list_append mt_append mtl_app (de_var (pv 3)) (da_cons (de_tup (da_cons de_int (da_cons (de_var (pv 6)) da_nil))) da_nil)))) (db_one (ds_expr (de_mut PySem.F.slot_list_append PySem.F.type_list_append mt_append mtl_app (de_var (pv 3)) (da_cons (de_tup (da_cons de_int (da_cons (de_var (pv 8)) da_nil))) da_nil))))))))))))
    (db_one (ds_retG (dg_lst (by decide) (da_cons (de_var (pv 3)) (da_cons de_int (da_cons de_int (da_cons de_int (da_cons de_int (da_cons (de_var (pv 4)) da_nil))))))))))))))
abbrev st_law_take : Stmt := top 36
abbrev nm_law_take : List Str := ["store", "many", "cell", "value", "base", "span", "part"]
theorem sc_law_take : FnScope nm_law_take ["store", "many"] (defScope st_law_take) := ⟨rfl, rfl, rfl, by decide +kernel, rfl, by decide +kernel, by decide +kernel⟩
def t_law_take : TDS :=
  (sSeq (sIf (eT (eBin opLt (eVar 1) (eC (.int 2))))
    (sRet (eC (.int 0))) sNil)
    (sSeq (sSub (eBin opAdd (eBin opIx (eVar 0) (eC (.int 4))) (eC (.int 1))) (eVar 0) (eC (.int 4)))
    (sSeq (sIf (bAnd (eT (eBin opLt (eBin opIx (eVar 0) (eC (.int 2))) (eC (.int 2)))) (bAnd (eT (eBin opLt (eBin opIx (eVar 0) (eC (.int 3))) (eC (.int 1)))) (eT (eBin opLt (eBin opIx (eVar 0) (eC (.int 1))) (eCall (fn1 lenD) (aCons (eBin opIx (eVar 0) (eC (.int 0))) aNil))))))
    (sSeq (sAsg 2 (eBin opIx (eBin opIx (eVar 0) (eC (.int 0))) (eBin opIx (eVar 0) (eC (.int 1)))))
    (sSeq (sSub (eBin opAdd (eBin opIx (eVar 0) (eC (.int 1))) (eC (.int 1))) (eVar 0) (eC (.int 1)))
    (sIf (eT (eBin (opEq false) (eBin opIx (eVar 2) (eC (.int 0))) (eC (.int 1))))
    (sSub (eBin opIx (eVar 2) (eC (.int 1))) (eVar 0) (eC (.int 2))) (sSub (eC (.int 4)) (eVar 0) (eC (.int 3)))))) sNil)
    (sSeq (sIf (eT (eBin opGt (eBin opIx (eVar 0) (eC (.int 2))) (eC (.int 1))))
    (sSeq (sAsg 3 (eBin opMod (eCall (fn1 intD) (aCons (eBin opIx (eVar 0) (eC (.int 2))) aNil)) (eVar 1)))
    (sSeq (sSub (eBin opDiv (eCall (fn1 intD) (aCons (eBin opIx (eVar 0) (eC (.int 2))) aNil)) (eVar 1)) (eVar 0) (eC (.int 2)))
    (sRet (eVar 3)))) sNil)
    (sSeq (sAsg 4 (eBin opIx (eVar 0) (eC (.int 5))))
    (sSeq (sIf (eT (eBin opGt (eBin opIx (eVar 0) (eC (.int 3))) (eC (.int 0))))
    (sSeq (sSub (eBin opSub (eBin opIx (eVar 0) (eC (.int 3))) (eC (.int 1))) (eVar 0) (eC (.int 3)))
    (sAsg 4 (eBin opIx (eBin opIx (eBin opIx (eVar 0) (eC (.int 0))) (eBin opSub (eBin opIx (eVar 0) (eC (.int 1))) (eC (.int 1)))) (eC (.int 1))))) sNil)
    (sSeq (sAsg 3 (eC (.int 0)))
    (sSeq (sAsg 5 (eC (.int 1)))
    (sSeq (sFor (.nm 6) (iRng rngF1 (aCons (eC (.int 40)) aNil))
    (sIf (eT (eBin opLt (eVar 5) (eBin opMul (eVar 1) (eC (.int 1024)))))
    (sSeq (sAsg 3 (eBin opAdd (eBin opMul (eVar 3) (eC (.int 288230376151711744))) (eFn [false, false, false] m_law_mix (aCons (eVar 4) (aCons (eBin opIx (eVar 0) (eC (.int 4))) (aCons (eBin opAdd (eBin opMul (eC (.int 64)) (eBin opIx (eVar 0) (eC (.int 1)))) (eVar 6)) aNil))))))
    (sAsg 5 (eBin opMul (eVar 5) (eC (.int 288230376151711744))))) sNil))
    (sRet (eBin opMod (eCall (fn1 intD) (aCons (eVar 3) aNil)) (eVar 1))))))))))))
def m_law_take : List D → FR := runB [true, false] 5 t_law_take
theorem ok_law_take (T : Txt K mg) (hF : ∃ fd, FunD K "_law_take" "_law_take" (defArgs st_law_take) (defBody st_law_take) (defScope st_law_take) [] [] (He.ga K "_law_take") fd) (hm : mg "_law_take" = some (.ref (He.ga K "_law_take"))) (F_law_mix : Fn P w K mg base "_law_mix" 1 [] [false, false, false] m_law_mix) : Fn P w K mg base "_law_take" 2 [] [true, false] m_law_take := by
  obtain ⟨fd, F⟩ := hF
  have nd := sc_law_take.nd
  refine ⟨_, fd, ["store", "many"], [], hm, F.kp, F.bindsN (fun _ _ _ _ _ _ us hl => match us, hl with | [_, _], _ => rfl), .nil, fn_deep (N := nm_law_take) (t := t_law_take) F sc_law_take rfl (by decide) fun cdv A outer s H vs E hr => ?_⟩
  have hu := hr.units
  have po := passes_of (X := cxD P w K mg base nm_law_take "_law_take" (defScope st_law_take) (He.ga K "_law_take") cdv A outer s H E) rfl
  exact (db_cons (ds_if (dt_cmp op_lt op2_lt (de_var (pv 1)) de_int)
    (db_one (ds_ret de_int)) db_nil)
    (db_cons (ds_sub (de_op opr_add op2_add (de_ix (de_var (pv 0)) de_int) de_int) (de_var (pv 0)) de_int)
    (db_cons (ds_if (DW.pt (dw_and (dt_cmp op_lt op2_lt (de_ix (de_var (pv 0)) de_int) de_int) (dw_and (dt_cmp op_lt op2_lt (de_ix (de_var (pv 0)) de_int) de_int) (dw_and1 (dt_cmp op_lt op2_lt (de_ix (de_var (pv 0)) de_int) (de_callB call_len opn_len T.b_len (by decide +kernel) (da_cons (de_ix (de_var (pv 0)) de_int) da_nil)))))))
    (db_cons (ds_asg (i := 2) nd rfl (de_ix (de_ix (de_var (pv 0)) de_int) (de_ix (de_var (pv 0)) de_int)))
    (db_cons (ds_sub (de_op opr_add op2_add (de_ix (de_var (pv 0)) de_int) de_int) (de_var (pv 0)) de_int)
    (db_one (ds_if (dt_cmp (op_eq.or (op_eqD hu)) op2_eq (de_ix (de_var (pv 2)) de_int) de_int)
    (db_one (ds_sub (de_ix (de_var (pv 2)) de_int) (de_var (pv 0)) de_int)) (db_one (ds_sub de_int (de_var (pv 0)) de_int)))))) db_nil)
    (db_cons (ds_if (dt_cmp op_gt op2_gt (de_ix (de_var (pv 0)) de_int) de_int)
    (db_cons (ds_asg (i := 3) nd rfl (de_op op_mod op2_mod (de_callTy call_int1 opn_int T.b_int (by decide +kernel) (da_cons (de_ix (de_var (pv 0)) de_int) da_nil)) (de_var (pv 1))))
    (db_cons (ds_sub (de_op op_fdivW op2_div (de_callTy call_int1 opn_int T.b_int (by decide +kernel) (da_cons (de_ix (de_var (pv 0)) de_int) da_nil)) (de_var (pv 1))) (de_var (pv 0)) de_int)
    (db_one (ds_ret (de_var (pv 3)))))) db_nil)
    (db_cons (ds_asg (i := 4) nd rfl (de_ix (de_var (pv 0)) de_int))
    (db_cons (ds_if (dt_cmp op_gt op2_gt (de_ix (de_var (pv 0)) de_int) de_int)
    (db_cons (ds_sub (de_op op_sub op2_sub (de_ix (de_var (pv 0)) de_int) de_int) (de_var (pv 0)) de_int)
    (db_one (ds_asg (i := 4) nd rfl (de_ix (de_ix (de_ix (de_var (pv 0)) de_int) (de_op op_sub op2_sub (de_ix (de_var (pv 0)) de_int) de_int)) de_int)))) db_nil)
    (db_cons (ds_asg (i := 3) nd rfl de_int)
    (db_cons (ds_asg (i := 5) nd rfl de_int)
    (db_cons (ds_for po rfl (di_range1 T.b_range (da_cons de_int da_nil)) (dtg_nm nd rfl)
    (db_one (ds_if (dt_cmp op_lt op2_lt (de_var (pv 5)) (de_op op_mulX op2_mul (de_var (pv 1)) de_int))
    (db_cons (ds_asg (i := 3) nd rfl (de_op opr_add op2_add (de_op op_mulX op2_mul (de_var (pv 3)) de_int) (de_fn F_law_mix hr (ha := (da_cons (de_var (pv 4)) (da_cons (de_ix (de_var (pv 0)) de_int) (da_cons (de_op opr_add op2_add (de_op op_mulX op2_mul de_int (de_ix (de_var (pv 0)) de_int)) (de_var (pv 6))) da_nil)))))))
    (db_one (ds_asg (i := 5) nd rfl (de_op op_mulX op2_mul (de_var (pv 5)) de_int)))) db_nil)))
    (db_one (ds_ret (de_op op_mod op2_mod (de_callTy call_int1 opn_int T.b_int (by decide +kernel) (da_cons (de_var (pv 3)) da_nil)) (de_var (pv 1))))))))))))))
abbrev st_law_same : Stmt := top 40
abbrev nm_law_same : List Str := ["actual", "due", "pairs", "level", "deeper", "pair", "k"]
theorem sc_law_same : FnScope nm_law_same ["actual", "due"] (defScope st_law_same) := ⟨rfl, rfl, rfl, by decide +kernel, rfl, by decide +kernel, by decide +kernel⟩
def t_law_same : TDS :=
  (sSeq (sAsg 2 (gFz (gDis .lst (aCons (gFz (gDis .tup (aCons (eVar 0) (aCons (eVar 1) aNil)))) aNil))))
    (sSeq (sFor (.nm 3) (iRng rngF1 (aCons (eC (.int 9)) aNil))
    (sSeq (sAsgG 4 (gDis .lst aNil))
    (sSeq (sFor (.nm 5) (iSeq (eVar 2))
    (sIf (bOr (eT (eCall (fn2 isiD) (aCons (eBin opIx (eVar 5) (eC (.int 1))) (aCons (eC (.ty "tuple")) aNil)))) (eT (eCall (fn2 isiD) (aCons (eBin opIx (eVar 5) (eC (.int 1))) (aCons (eC (.ty "list")) aNil)))))
    (sSeq (sIf (eT (eBin (opEq true) (eCall (fn2 isiD) (aCons (eBin opIx (eVar 5) (eC (.int 1))) (aCons (eC (.ty "tuple")) aNil))) (eCall (fn2 isiD) (aCons (eBin opIx (eVar 5) (eC (.int 0))) (aCons (eC (.ty "tuple")) aNil)))))
    (sRet (eC (.bl false))) sNil)
    (sSeq (sIf (eT (eBin (opEq true) (eCall (fn2 isiD) (aCons (eBin opIx (eVar 5) (eC (.int 1))) (aCons (eC (.ty "list")) aNil))) (eCall (fn2 isiD) (aCons (eBin opIx (eVar 5) (eC (.int 0))) (aCons (eC (.ty "list")) aNil)))))
    (sRet (eC (.bl false))) sNil)
    (sSeq (sIf (eT (eBin (opEq true) (eCall (fn1 lenD) (aCons (eBin opIx (eVar 5) (eC (.int 0))) aNil)) (eCall (fn1 lenD) (aCons (eBin opIx (eVar 5) (eC (.int 1))) aNil))))
    (sRet (eC (.bl false))) sNil)
    (sFor (.nm 6) (iRng rngF1 (aCons (eCall (fn1 lenD) (aCons (eBin opIx (eVar 5) (eC (.int 1))) aNil)) aNil))
    (sExpr (eMut lmApp (eVar 4) (aCons (gFz (gDis .tup (aCons (eBin opIx (eBin opIx (eVar 5) (eC (.int 0))) (eVar 6)) (aCons (eBin opIx (eBin opIx (eVar 5) (eC (.int 1))) (eVar 6)) aNil)))) aNil))))))) (sIf (bNot (eT (eFn [false, false] m_law_same_leaf (aCons (eBin opIx (eVar 5) (eC (.int 0))) (aCons (eBin opIx (eVar 5) (eC (.int 1))) aNil)))))
    (sRet (eC (.bl false))) sNil)))
    (sAsg 2 (gFz (gCall fnL (aCons (eVar 4) aNil)))))))
    (sRet (eBin (opEq false) (eCall (fn1 lenD) (aCons (eVar 2) aNil)) (eC (.int 0))))))
def m_law_same : List D → FR := runB [false, false] 5 t_law_same
theorem ok_law_same (T : Txt K mg) (hF : ∃ fd, FunD K "_law_same" "_law_same" (defArgs st_law_same) (defBody st_law_same) (defScope st_law_same) [] [] (He.ga K "_law_same") fd) (hm : mg "_law_same" = some (.ref (He.ga K "_law_same"))) (F_law_same_leaf : Fn P w K mg base "_law_same_leaf" 1 [] [false, false] m_law_same_leaf) : Fn P w K mg base "_law_same" 2 [] [false, false] m_law_same := by
  obtain ⟨fd, F⟩ := hF
  have nd := sc_law_same.nd
  refine ⟨_, fd, ["actual", "due"], [], hm, F.kp, F.bindsN (fun _ _ _ _ _ _ us hl => match us, hl with | [_, _], _ => rfl), .nil, fn_deep (N := nm_law_same) (t := t_law_same) F sc_law_same rfl (by decide) fun cdv A outer s H vs E hr => ?_⟩
  have hu := hr.units
  have po := passes_of (X := cxD P w K mg base nm_law_same "_law_same" (defScope st_law_same) (He.ga K "_law_same") cdv A outer s H E) rfl
  exact (db_cons (ds_asg (i := 2) nd rfl (de_lst (da_cons (de_tup (da_cons (de_var (pv 0)) (da_cons (de_var (pv 1)) da_nil))) da_nil)))
    (db_cons (ds_for po rfl (di_range1 T.b_range (da_cons de_int da_nil)) (dtg_nm nd rfl)
    (db_cons (ds_asgG (i := 4) nd rfl (dg_lst (by decide) da_nil))
    (db_cons (ds_for po rfl (di_seq (de_var (pv 2))) (dtg_nm nd rfl)
    (db_one (ds_if (DW.pt (dw_or (dt_val (de_callB call_isi opn_isi T.b_isinstance (by decide +kernel) (da_cons (de_ix (de_var (pv 5)) de_int) (da_cons (de_ty T.b_tuple (by decide +kernel)) da_nil)))) (dw_or1 (dt_val (de_callB call_isi opn_isi T.b_isinstance (by decide +kernel) (da_cons (de_ix (de_var (pv 5)) de_int) (da_cons (de_ty T.b_list (by decide +kernel)) da_nil)))))))
    (db_cons (ds_if (dt_cmp (op_ne.or (op_neD hu)) op2_ne (de_callB call_isi opn_isi T.b_isinstance (by decide +kernel) (da_cons (de_ix (de_var (pv 5)) de_int) (da_cons (de_ty T.b_tuple (by decide +kernel)) da_nil))) (de_callB call_isi opn_isi T.b_isinstance (by decide +kernel) (da_cons (de_ix (de_var (pv 5)) de_int) (da_cons (de_ty T.b_tuple (by decide +kernel)) da_nil))))
    (db_one (ds_ret de_bl)) db_nil)
    (db_cons (ds_if (dt_cmp (op_ne.or (op_neD hu)) op2_ne (de_callB call_isi opn_isi T.b_isinstance (by decide +kernel) (da_cons (de_ix (de_var (pv 5)) de_int) (da_cons (de_ty T.b_list (by decide +kernel)) da_nil))) (de_callB call_isi opn_isi T.b_isinstance (by decide +kernel) (da_cons (de_ix (de_var (pv 5)) de_int) (da_cons (de_ty T.b_list (by decide +kernel)) da_nil))))
    (db_one (ds_ret de_bl)) db_nil)
    (db_cons (ds_if (dt_cmp (op_ne.or (op_neD hu)) op2_ne (de_callB call_len opn_len T.b_len (by decide +kernel) (da_cons (de_ix (de_var (pv 5)) de_int) da_nil)) (de_callB call_len opn_len T.b_len (by decide +kernel) (da_cons (de_ix (de_var (pv 5)) de_int) da_nil)))
    (db_one (ds_ret de_bl)) db_nil)
    (db_one (ds_for po rfl (di_range1 T.b_range (da_cons (de_callB call_len opn_len T.b_len (by decide +kernel) (da_cons (de_ix (de_var (pv 5)) de_int) da_nil)) da_nil)) (dtg_nm nd rfl)
    (db_one (ds_expr (de_mut PySem.F.slot_list_append PySem.F.type_list_append mt_append mtl_app (de_var (pv 4)) (da_cons (de_tup (da_cons (de_ix (de_ix (de_var (pv 5)) de_int) (de_var (pv 6))) (da_cons (de_ix (de_ix (de_var (pv 5)) de_int) (de_var (pv 6))) da_nil))) da_nil))))))))) (db_one (ds_if (dt_not (dt_val (de_fn F_law_same_leaf hr (ha := (da_cons (de_ix (de_var (pv 5)) de_int) (da_cons (de_ix (de_var (pv 5)) de_int) da_nil))))))
    (db_one (ds_ret de_bl)) db_nil)))))
    (db_one (ds_asg (i := 2) nd rfl (de_g (dg_callTy call_list_of (opn_list (by decide)) T.b_list (by decide +kernel) (da_cons (de_var (pv 4)) da_nil))))))))
    (db_one (ds_ret (de_cmp (op_eq.or (op_eqD hu)) op2_eq (de_callB call_len opn_len T.b_len (by decide +kernel) (da_cons (de_var (pv 2)) da_nil)) de_int)))))
abbrev st_law_told : Stmt := top 43
abbrev nm_law_told : List Str := ["e", "name"]
theorem sc_law_told : FnScope nm_law_told ["e"] (defScope st_law_told) := ⟨rfl, rfl, rfl, by decide +kernel, rfl, by decide +kernel, by decide +kernel⟩
def tE_law_told : TDS :=
  (sSeq (sAsg 1 (eFn [false] mE_law_class (aCons (eVar 0) aNil)))
    (sSeq (sIf (eT (eBin (opEq false) (eVar 1) (eC (.str "Unknown"))))
    (sRet (gFz (gDis .tup (aCons (eVar 1) (aCons (gFz (gDis .tup (aCons (eAtX "name" (eVar 0)) aNil))) aNil))))) sNil)
    (sSeq (sIf (eT (eBin (opEq false) (eVar 1) (eC (.str "NotLocal"))))
    (sRet (gFz (gDis .tup (aCons (eVar 1) (aCons (gFz (gDis .tup (aCons (eAtX "station" (eVar 0)) aNil))) aNil))))) sNil)
    (sRet (gFz (gDis .tup (aCons (eVar 1) (aCons (gFz (gDis .tup aNil)) aNil))))))))
def mE_law_told : List D → FR := noX (runB [false] 1 tE_law_told)
theorem okE_law_told (T : Txt K mg) (hF : ∃ fd, FunD K "_law_told" "_law_told" (defArgs st_law_told) (defBody st_law_told) (defScope st_law_told) [] [] (He.ga K "_law_told") fd) (hm : mg "_law_told" = some (.ref (He.ga K "_law_told"))) (E_law_class : FnE P w K mg base "_law_class" 1 [false] mE_law_class raisedC) (TX : ExcT K "Refused" excAll raisedC excFields) : FnE P w K mg base "_law_told" 2 [false] mE_law_told raisedC := by
  obtain ⟨fd, F⟩ := hF
  have nd := sc_law_told.nd
  refine fn_deepE (N := nm_law_told) (ps := ["e"]) (t := tE_law_told) F hm (F.bindsN fun _ _ _ _ _ _ us hl => match us, hl with | [_], _ => rfl) sc_law_told rfl (by decide) fun cdv A outer s H vs E a oe c d hr hot => ?_
  have hu := hu_hot hr
  exact (db_cons (ds_asg (i := 1) nd rfl (de_fnE E_law_class hot hr (da_cons (de_var (pv 0)) da_nil)))
    (db_cons (ds_if (dt_cmp (op_eq.or (op_eqD hu)) op2_eq (de_var (pv 1)) de_str)
    (db_one (ds_ret (de_tup (da_cons (de_var (pv 1)) (da_cons (de_tup (da_cons (de_atX TX hot (de_var (pv 0))) da_nil)) da_nil))))) db_nil)
    (db_cons (ds_if (dt_cmp (op_eq.or (op_eqD hu)) op2_eq (de_var (pv 1)) de_str)
    (db_one (ds_ret (de_tup (da_cons (de_var (pv 1)) (da_cons (de_tup (da_cons (de_atX TX hot (de_var (pv 0))) da_nil)) da_nil))))) db_nil)
    (db_one (ds_ret (de_tup (da_cons (de_var (pv 1)) (da_cons (de_tup da_nil) da_nil))))))))
abbrev st_law_due_taking : Stmt := top 47
abbrev nm_law_due_taking : List Str := ["mode", "v", "pile", "goals", "spots", "i"]
theorem sc_law_due_taking : FnScope nm_law_due_taking ["mode", "v", "pile", "goals"] (defScope st_law_due_taking) := ⟨rfl, rfl, rfl, by decide +kernel, rfl, by decide +kernel, by decide +kernel⟩
def t_law_due_taking : TDS :=
  (sSeq (sIf (eT (eBin (opIn false) (eVar 0) (gFz (gDis .tup (aCons (eC (.str "friend")) (aCons (eC (.str "foe")) (aCons (eC (.str "shun")) aNil)))))))
    (sRet (gFz (gDis .tup (aCons (gFz (gDis .tup (aCons (eC (.str "refused")) (aCons (gFz (gDis .tup (aCons (eC (.str "NotLocal")) (aCons (gFz (gDis .tup (aCons (eVar 1) aNil))) aNil)))) aNil)))) (aCons (gFz (gDis .tup (aCons (eC (.str "refused")) (aCons (gFz (gDis .tup (aCons (eC (.str "NotLocal")) (aCons (gFz (gDis .tup (aCons (eVar 1) aNil))) aNil)))) aNil)))) aNil))))) sNil)
    (sSeq (sIf (eT (eBin (opIn true) (eVar 0) (gFz (gDis .tup (aCons (eC (.str "top")) (aCons (eC (.str "bottom")) (aCons (eC (.str "turns")) (aCons (eC (.str "hold")) (aCons (eC (.str "shy")) (aCons (eC (.str "late")) aNil))))))))))
    (sRet (gFz (gDis .tup (aCons (gFz (gDis .tup (aCons (eC (.str "refused")) (aCons (gFz (gDis .tup (aCons (eC (.str "Unknown")) (aCons (gFz (gDis .tup (aCons (eVar 0) aNil))) aNil)))) aNil)))) (aCons (gFz (gDis .tup (aCons (eC (.str "refused")) (aCons (gFz (gDis .tup (aCons (eC (.str "Unknown")) (aCons (gFz (gDis .tup (aCons (eVar 0) aNil))) aNil)))) aNil)))) aNil))))) sNil)
    (sSeq (sAsg 4 (eFn [false, false, false, false] m_law_taken_places (aCons (eVar 0) (aCons (eVar 1) (aCons (eVar 2) (aCons (eVar 3) aNil))))))
    (sRet (gFz (gDis .tup (aCons (gFz (gDis .tup (aCons (eC (.str "told")) (aCons (eCall (fn1 tupD) (aCons (eVar 4) aNil)) aNil)))) (aCons (gFz (gDis .tup (aCons (eC (.str "told")) (aCons (eCall (fn1 tupD) (aCons (gFz (gComp [5] (.nm 5) (iSeq (eVar 4)) tYesD (eBin opIx (eVar 2) (eVar 5)))) aNil)) aNil)))) aNil))))))))
def m_law_due_taking : List D → FR := runB [false, false, false, false] 2 t_law_due_taking
theorem ok_law_due_taking (T : Txt K mg) (hF : ∃ fd, FunD K "_law_due_taking" "_law_due_taking" (defArgs st_law_due_taking) (defBody st_law_due_taking) (defScope st_law_due_taking) [] [] (He.ga K "_law_due_taking") fd) (hm : mg "_law_due_taking" = some (.ref (He.ga K "_law_due_taking"))) (F_law_taken_places : Fn P w K mg base "_law_taken_places" 1 [] [false, false, false, false] m_law_taken_places) : Fn P w K mg base "_law_due_taking" 2 [] [false, false, false, false] m_law_due_taking := by
  obtain ⟨fd, F⟩ := hF
  have nd := sc_law_due_taking.nd
  refine ⟨_, fd, ["mode", "v", "pile", "goals"], [], hm, F.kp, F.bindsN (fun _ _ _ _ _ _ us hl => match us, hl with | [_, _, _, _], _ => rfl), .nil, fn_deep (N := nm_law_due_taking) (t := t_law_due_taking) F sc_law_due_taking rfl (by decide) fun cdv A outer s H vs E hr => ?_⟩
  have hu := hr.units
  have po := passes_of (X := cxD P w K mg base nm_law_due_taking "_law_due_taking" (defScope st_law_due_taking) (He.ga K "_law_due_taking") cdv A outer s H E) rfl
  exact (db_cons (ds_if (dt_cmp op_in_seq op2_in (de_var (pv 0)) (de_tup (da_cons de_str (da_cons de_str (da_cons de_str da_nil)))))
    (db_one (ds_ret (de_tup (da_cons (de_tup (da_cons de_str (da_cons (de_tup (da_cons de_str (da_cons (de_tup (da_cons (de_var (pv 1)) da_nil)) da_nil))) da_nil))) (da_cons (de_tup (da_cons de_str (da_cons (de_tup (da_cons de_str (da_cons (de_tup (da_cons (de_var (pv 1)) da_nil)) da_nil))) da_nil))) da_nil))))) db_nil)
    (db_cons (ds_if (dt_cmp op_notIn_seq op2_in (de_var (pv 0)) (de_tup (da_cons de_str (da_cons de_str (da_cons de_str (da_cons de_str (da_cons de_str (da_cons de_str da_nil))))))))
    (db_one (ds_ret (de_tup (da_cons (de_tup (da_cons de_str (da_cons (de_tup (da_cons de_str (da_cons (de_tup (da_cons (de_var (pv 0)) da_nil)) da_nil))) da_nil))) (da_cons (de_tup (da_cons de_str (da_cons (de_tup (da_cons de_str (da_cons (de_tup (da_cons (de_var (pv 0)) da_nil)) da_nil))) da_nil))) da_nil))))) db_nil)
    (db_cons (ds_asg (i := 4) nd rfl (de_fn F_law_taken_places hr (ha := (da_cons (de_var (pv 0)) (da_cons (de_var (pv 1)) (da_cons (de_var (pv 2)) (da_cons (de_var (pv 3)) da_nil)))))))
    (db_one (ds_ret (de_tup (da_cons (de_tup (da_cons de_str (da_cons (de_callTy call_tuple_of opn_tuple T.b_tuple (by decide +kernel) (da_cons (de_var (pv 4)) da_nil)) da_nil))) (da_cons (de_tup (da_cons de_str (da_cons (de_callTy call_tuple_of opn_tuple T.b_tuple (by decide +kernel) (da_cons (de_g (dg_lc (own := [("i", 5)]) (by decide) rfl nd (di_seq (de_var (pv 4))) (blkOk_by (own := [("i", 5)]) (N := nm_law_due_taking) (sc := defScope st_law_due_taking) (by decide +kernel)) (fun _ _ _ _ _ => (dtg_nm nd rfl)) (fun _ _ _ _ _ => difs_nil) (fun _ _ _ _ _ => (de_ix (de_var (pv 2)) (de_var (pv 5)))))) da_nil)) da_nil))) da_nil))))))))
abbrev st_taking_places : Stmt := top 31
abbrev nm_taking_places : List Str := ["mode", "v", "pile", "homes", "whole"]
theorem sc_taking_places : FnScope nm_taking_places ["mode", "v", "pile", "homes"] (defScope st_taking_places) := ⟨rfl, rfl, rfl, by decide +kernel, rfl, by decide +kernel, by decide +kernel⟩
def t_taking_places : TDS :=
  (sSeq (sIf (eT (eBin (opIn true) (eVar 0) (eC d_MODES)))
    (sRaise "Unknown" ["name"] (aCons (eVar 0) aNil)) sNil)
    (sSeq (sIf (eT (eBin (opIn false) (eVar 0) (eC d_CHOOSING)))
    (sRaise "NotLocal" ["station"] (aCons (eVar 1) aNil)) sNil)
    (sSeq (sAsg 4 (gFz (gRg .lst (rRg1 (eCall (fn1 lenD) (aCons (eVar 2) aNil))))))
    (sSeq (sIf (eT (eBin (opEq false) (eVar 0) (eC (.str "bottom"))))
    (sRet (eCall (fn1 tupD) (aCons (gFz (gRev (eVar 4))) aNil))) sNil)
    (sSeq (sIf (eT (eBin (opEq false) (eVar 0) (eC (.str "turns"))))
    (sRet (eFn [false] m_turn_places (aCons (eCall (fn1 lenD) (aCons (eVar 2) aNil)) aNil))) sNil)
    (sSeq (sIf (eT (eBin (opEq false) (eVar 0) (eC (.str "hold"))))
    (sRet (eCall (fn1 tupD) (aCons (eBin opAdd (eSl (eVar 4) (oSome (eC (.int 1))) oNone) (eSl (eVar 4) oNone (oSome (eC (.int 1))))) aNil))) sNil)
    (sSeq (sIf (eT (eBin (opEq false) (eVar 0) (eC (.str "shy"))))
    (sRet (eFn [false, false] m_parted_places (aCons (eVar 2) (aCons (gFz (gDis .tup (aCons (eVar 1) aNil))) aNil)))) sNil)
    (sSeq (sIf (eT (eBin (opEq false) (eVar 0) (eC (.str "late"))))
    (sRet (eFn [false, false] m_parted_places (aCons (eVar 2) (aCons (eVar 3) aNil)))) sNil)
    (sRet (eCall (fn1 tupD) (aCons (eVar 4) aNil)))))))))))
def m_taking_places : List D → FR := runB [false, false, false, false] 1 t_taking_places
theorem ok_taking_places (T : Txt K mg) (hF : ∃ fd, FunD K "taking_places" "taking_places" (defArgs st_taking_places) (defBody st_taking_places) (defScope st_taking_places) [] [] (He.ga K "taking_places") fd) (hm : mg "taking_places" = some (.ref (He.ga K "taking_places"))) (F_turn_places : Fn P w K mg base "turn_places" 1 [] [false] m_turn_places) (F_parted_places : Fn P w K mg base "parted_places" 1 [] [false, false] m_parted_places) (XX_NotLocal : ExcF P w K mg base "NotLocal" ["station"]) (XX_Unknown : ExcF P w K mg base "Unknown" ["name"]) : Fn P w K mg base "taking_places" 3 [] [false, false, false, false] m_taking_places := by
  obtain ⟨fd, F⟩ := hF
  have nd := sc_taking_places.nd
  refine ⟨_, fd, ["mode", "v", "pile", "homes"], [], hm, F.kp, F.bindsN (fun _ _ _ _ _ _ us hl => match us, hl with | [_, _, _, _], _ => rfl), .nil, fn_deep (N := nm_taking_places) (t := t_taking_places) F sc_taking_places rfl (by decide) fun cdv A outer s H vs E hr => ?_⟩
  have hu := hr.units
  have po := passes_of (X := cxD P w K mg base nm_taking_places "taking_places" (defScope st_taking_places) (He.ga K "taking_places") cdv A outer s H E) rfl
  exact (db_cons (ds_if (dt_cmp op_notIn_seq op2_in (de_var (pv 0)) (de_gtup T.c_MODES))
    (db_one (ds_raise XX_Unknown rfl hr (da_cons (de_var (pv 0)) da_nil))) db_nil)
    (db_cons (ds_if (dt_cmp op_in_seq op2_in (de_var (pv 0)) (de_gtup T.c_CHOOSING))
    (db_one (ds_raise XX_NotLocal rfl hr (da_cons (de_var (pv 1)) da_nil))) db_nil)
    (db_cons (ds_asg (i := 4) nd rfl (de_g (dg_listRg (by decide) rfl T.b_list (drg_1 T.b_range (de_callB call_len opn_len T.b_len (by decide +kernel) (da_cons (de_var (pv 2)) da_nil))))))
    (db_cons (ds_if (dt_cmp (op_eq.or (op_eqD hu)) op2_eq (de_var (pv 0)) de_str)
    (db_one (ds_ret (de_callTy call_tuple_of opn_tuple T.b_tuple (by decide +kernel) (da_cons (de_g (dg_rev (by decide) (de_var (pv 4)))) da_nil)))) db_nil)
    (db_cons (ds_if (dt_cmp (op_eq.or (op_eqD hu)) op2_eq (de_var (pv 0)) de_str)
    (db_one (ds_ret (de_fn F_turn_places hr (ha := (da_cons (de_callB call_len opn_len T.b_len (by decide +kernel) (da_cons (de_var (pv 2)) da_nil)) da_nil))))) db_nil)
    (db_cons (ds_if (dt_cmp (op_eq.or (op_eqD hu)) op2_eq (de_var (pv 0)) de_str)
    (db_one (ds_ret (de_callTy call_tuple_of opn_tuple T.b_tuple (by decide +kernel) (da_cons (de_op opr_add op2_add (de_slice (de_var (pv 4)) (do_some de_int) do_none) (de_slice (de_var (pv 4)) do_none (do_some de_int))) da_nil)))) db_nil)
    (db_cons (ds_if (dt_cmp (op_eq.or (op_eqD hu)) op2_eq (de_var (pv 0)) de_str)
    (db_one (ds_ret (de_fn F_parted_places hr (ha := (da_cons (de_var (pv 2)) (da_cons (de_tup (da_cons (de_var (pv 1)) da_nil)) da_nil)))))) db_nil)
    (db_cons (ds_if (dt_cmp (op_eq.or (op_eqD hu)) op2_eq (de_var (pv 0)) de_str)
    (db_one (ds_ret (de_fn F_parted_places hr (ha := (da_cons (de_var (pv 2)) (da_cons (de_var (pv 3)) da_nil)))))) db_nil)
    (db_one (ds_ret (de_callTy call_tuple_of opn_tuple T.b_tuple (by decide +kernel) (da_cons (de_var (pv 4)) da_nil))))))))))))
abbrev st_law_pick : Stmt := top 37
abbrev nm_law_pick : List Str := ["store", "items"]
theorem sc_law_pick : FnScope nm_law_pick ["store", "items"] (defScope st_law_pick) := ⟨rfl, rfl, rfl, by decide +kernel, rfl, by decide +kernel, by decide +kernel⟩
def t_law_pick : TDS :=
  (sRet (eBin opIx (eVar 1) (eFn [true, false] m_law_take (aCons (eVar 0) (aCons (eCall (fn1 lenD) (aCons (eVar 1) aNil)) aNil)))))
def m_law_pick : List D → FR := runB [true, false] 0 t_law_pick
theorem ok_law_pick (T : Txt K mg) (hF : ∃ fd, FunD K "_law_pick" "_law_pick" (defArgs st_law_pick) (defBody st_law_pick) (defScope st_law_pick) [] [] (He.ga K "_law_pick") fd) (hm : mg "_law_pick" = some (.ref (He.ga K "_law_pick"))) (F_law_take : Fn P w K mg base "_law_take" 2 [] [true, false] m_law_take) : Fn P w K mg base "_law_pick" 3 [] [true, false] m_law_pick := by
  obtain ⟨fd, F⟩ := hF
  have nd := sc_law_pick.nd
  refine ⟨_, fd, ["store", "items"], [], hm, F.kp, F.bindsN (fun _ _ _ _ _ _ us hl => match us, hl with | [_, _], _ => rfl), .nil, fn_deep (N := nm_law_pick) (t := t_law_pick) F sc_law_pick rfl (by decide) fun cdv A outer s H vs E hr => ?_⟩
  have hu := hr.units
  have po := passes_of (X := cxD P w K mg base nm_law_pick "_law_pick" (defScope st_law_pick) (He.ga K "_law_pick") cdv A outer s H E) rfl
  exact (db_one (ds_ret (de_ix (de_var (pv 1)) (de_fn F_law_take hr (ha := (da_cons (de_var (pv 0)) (da_cons (de_callB call_len opn_len T.b_len (by decide +kernel) (da_cons (de_var (pv 1)) da_nil)) da_nil)))))))
abbrev st_law_number : Stmt := top 38
abbrev nm_law_number : List Str := ["store", "digits", "kind", "count", "top", "k"]
theorem sc_law_number : FnScope nm_law_number ["store", "digits"] (defScope st_law_number) := ⟨rfl, rfl, rfl, by decide +kernel, rfl, by decide +kernel, by decide +kernel⟩
def t_law_number : TDS :=
  (sSeq (sAsg 2 (eFn [true, false] m_law_take (aCons (eVar 0) (aCons (eC (.int 8)) aNil))))
    (sSeq (sIf (eT (eBin opLt (eVar 2) (eC (.int 2))))
    (sRet (eVar 2)) sNil)
    (sSeq (sAsg 3 (eBin opAdd (eC (.int 1)) (eFn [true, false] m_law_take (aCons (eVar 0) (aCons (eCall (fn2 min2D) (aCons (eVar 1) (aCons (eC (.int 2)) aNil))) aNil)))))
    (sSeq (sIf (eT (eBin opLt (eVar 2) (eC (.int 5))))
    (sAsg 3 (eVar 1)) sNil)
    (sSeq (sIf (eT (eBin (opEq false) (eVar 2) (eC (.int 5))))
    (sAsg 3 (eBin opAdd (eC (.int 1)) (eFn [true, false] m_law_take (aCons (eVar 0) (aCons (eVar 1) aNil))))) sNil)
    (sSeq (sAsg 4 (eC (.int 1)))
    (sSeq (sFor (.nm 5) (iRng rngF1 (aCons (eVar 3) aNil))
    (sAsg 4 (eBin opMul (eVar 4) (eC (.int 10)))))
    (sSeq (sIf (eT (eBin (opEq false) (eVar 2) (eC (.int 2))))
    (sRet (eBin opSub (eVar 4) (eC (.int 1)))) sNil)
    (sSeq (sIf (eT (eBin (opEq false) (eVar 2) (eC (.int 3))))
    (sRet (eBin opDiv (eVar 4) (eC (.int 10)))) sNil)
    (sRet (eFn [true, false] m_law_take (aCons (eVar 0) (aCons (eVar 4) aNil)))))))))))))
def m_law_number : List D → FR := runB [true, false] 4 t_law_number
theorem ok_law_number (T : Txt K mg) (hF : ∃ fd, FunD K "_law_number" "_law_number" (defArgs st_law_number) (defBody st_law_number) (defScope st_law_number) [] [] (He.ga K "_law_number") fd) (hm : mg "_law_number" = some (.ref (He.ga K "_law_number"))) (F_law_take : Fn P w K mg base "_law_take" 2 [] [true, false] m_law_take) : Fn P w K mg base "_law_number" 3 [] [true, false] m_law_number := by
  obtain ⟨fd, F⟩ := hF
  have nd := sc_law_number.nd
  refine ⟨_, fd, ["store", "digits"], [], hm, F.kp, F.bindsN (fun _ _ _ _ _ _ us hl => match us, hl with | [_, _], _ => rfl), .nil, fn_deep (N := nm_law_number) (t := t_law_number) F sc_law_number rfl (by decide) fun cdv A outer s H vs E hr => ?_⟩
  have hu := hr.units
  have po := passes_of (X := cxD P w K mg base nm_law_number "_law_number" (defScope st_law_number) (He.ga K "_law_number") cdv A outer s H E) rfl
  exact (db_cons (ds_asg (i := 2) nd rfl (de_fn F_law_take hr (ha := (da_cons (de_var (pv 0)) (da_cons de_int da_nil)))))
    (db_cons (ds_if (dt_cmp op_lt op2_lt (de_var (pv 2)) de_int)
    (db_one (ds_ret (de_var (pv 2)))) db_nil)
    (db_cons (ds_asg (i := 3) nd rfl (de_op opr_add op2_add de_int (de_fn F_law_take hr (ha := (da_cons (de_var (pv 0)) (da_cons (de_callB (call_min2 rfl) opn_min2 T.b_min (by decide +kernel) (da_cons (de_var (pv 1)) (da_cons de_int da_nil))) da_nil))))))
    (db_cons (ds_if (dt_cmp op_lt op2_lt (de_var (pv 2)) de_int)
    (db_one (ds_asg (i := 3) nd rfl (de_var (pv 1)))) db_nil)
    (db_cons (ds_if (dt_cmp (op_eq.or (op_eqD hu)) op2_eq (de_var (pv 2)) de_int)
    (db_one (ds_asg (i := 3) nd rfl (de_op opr_add op2_add de_int (de_fn F_law_take hr (ha := (da_cons (de_var (pv 0)) (da_cons (de_var (pv 1)) da_nil))))))) db_nil)
    (db_cons (ds_asg (i := 4) nd rfl de_int)
    (db_cons (ds_for po rfl (di_range1 T.b_range (da_cons (de_var (pv 3)) da_nil)) (dtg_nm nd rfl)
    (db_one (ds_asg (i := 4) nd rfl (de_op op_mulX op2_mul (de_var (pv 4)) de_int))))
    (db_cons (ds_if (dt_cmp (op_eq.or (op_eqD hu)) op2_eq (de_var (pv 2)) de_int)
    (db_one (ds_ret (de_op op_sub op2_sub (de_var (pv 4)) de_int))) db_nil)
    (db_cons (ds_if (dt_cmp (op_eq.or (op_eqD hu)) op2_eq (de_var (pv 2)) de_int)
    (db_one (ds_ret (de_op op_fdivW op2_div (de_var (pv 4)) de_int))) db_nil)
    (db_one (ds_ret (de_fn F_law_take hr (ha := (da_cons (de_var (pv 0)) (da_cons (de_var (pv 4)) da_nil)))))))))))))))
abbrev st_law_as_row : Stmt := top 39
abbrev nm_law_as_row : List Str := ["store", "row"]
theorem sc_law_as_row : FnScope nm_law_as_row ["store", "row"] (defScope st_law_as_row) := ⟨rfl, rfl, rfl, by decide +kernel, rfl, by decide +kernel, by decide +kernel⟩
def t_law_as_row : TDS :=
  (sSeq (sIf (eT (eBin (opEq false) (eFn [true, false] m_law_take (aCons (eVar 0) (aCons (eC (.int 2)) aNil))) (eC (.int 1))))
    (sRet (gFz (gCall fnL (aCons (eVar 1) aNil)))) sNil)
    (sRet (eCall (fn1 tupD) (aCons (eVar 1) aNil))))
def m_law_as_row : List D → FR := runB [true, false] 0 t_law_as_row
theorem ok_law_as_row (T : Txt K mg) (hF : ∃ fd, FunD K "_law_as_row" "_law_as_row" (defArgs st_law_as_row) (defBody st_law_as_row) (defScope st_law_as_row) [] [] (He.ga K "_law_as_row") fd) (hm : mg "_law_as_row" = some (.ref (He.ga K "_law_as_row"))) (F_law_take : Fn P w K mg base "_law_take" 2 [] [true, false] m_law_take) : Fn P w K mg base "_law_as_row" 3 [] [true, false] m_law_as_row := by
  obtain ⟨fd, F⟩ := hF
  have nd := sc_law_as_row.nd
  refine ⟨_, fd, ["store", "row"], [], hm, F.kp, F.bindsN (fun _ _ _ _ _ _ us hl => match us, hl with | [_, _], _ => rfl), .nil, fn_deep (N := nm_law_as_row) (t := t_law_as_row) F sc_law_as_row rfl (by decide) fun cdv A outer s H vs E hr => ?_⟩
  have hu := hr.units
  have po := passes_of (X := cxD P w K mg base nm_law_as_row "_law_as_row" (defScope st_law_as_row) (He.ga K "_law_as_row") cdv A outer s H E) rfl
  exact (db_cons (ds_if (dt_cmp (op_eq.or (op_eqD hu)) op2_eq (de_fn F_law_take hr (ha := (da_cons (de_var (pv 0)) (da_cons de_int da_nil)))) de_int)
    (db_one (ds_ret (de_g (dg_callTy call_list_of (opn_list (by decide)) T.b_list (by decide +kernel) (da_cons (de_var (pv 1)) da_nil))))) db_nil)
    (db_one (ds_ret (de_callTy call_tuple_of opn_tuple T.b_tuple (by decide +kernel) (da_cons (de_var (pv 1)) da_nil)))))
abbrev st_taking_order : Stmt := top 32
abbrev nm_taking_order : List Str := ["mode", "v", "pile", "homes", "i"]
theorem sc_taking_order : FnScope nm_taking_order ["mode", "v", "pile", "homes"] (defScope st_taking_order) := ⟨rfl, rfl, rfl, by decide +kernel, rfl, by decide +kernel, by decide +kernel⟩
def t_taking_order : TDS :=
  (sRet (eCall (fn1 tupD) (aCons (gFz (gComp [4] (.nm 4) (iSeq (eFn [false, false, false, false] m_taking_places (aCons (eVar 0) (aCons (eVar 1) (aCons (eVar 2) (aCons (eVar 3) aNil)))))) tYesD (eBin opIx (eVar 2) (eVar 4)))) aNil)))
def m_taking_order : List D → FR := runB [false, false, false, false] 1 t_taking_order
theorem ok_taking_order (T : Txt K mg) (hF : ∃ fd, FunD K "taking_order" "taking_order" (defArgs st_taking_order) (defBody st_taking_order) (defScope st_taking_order) [] [] (He.ga K "taking_order") fd) (hm : mg "taking_order" = some (.ref (He.ga K "taking_order"))) (F_taking_places : Fn P w K mg base "taking_places" 3 [] [false, false, false, false] m_taking_places) : Fn P w K mg base "taking_order" 4 [] [false, false, false, false] m_taking_order := by
  obtain ⟨fd, F⟩ := hF
  have nd := sc_taking_order.nd
  refine ⟨_, fd, ["mode", "v", "pile", "homes"], [], hm, F.kp, F.bindsN (fun _ _ _ _ _ _ us hl => match us, hl with | [_, _, _, _], _ => rfl), .nil, fn_deep (N := nm_taking_order) (t := t_taking_order) F sc_taking_order rfl (by decide) fun cdv A outer s H vs E hr => ?_⟩
  have hu := hr.units
  have po := passes_of (X := cxD P w K mg base nm_taking_order "taking_order" (defScope st_taking_order) (He.ga K "taking_order") cdv A outer s H E) rfl
  exact (db_one (ds_ret (de_callTy call_tuple_of opn_tuple T.b_tuple (by decide +kernel) (da_cons (de_g (dg_lc (own := [("i", 4)]) (by decide) rfl nd (di_seq (de_fn F_taking_places hr (ha := (da_cons (de_var (pv 0)) (da_cons (de_var (pv 1)) (da_cons (de_var (pv 2)) (da_cons (de_var (pv 3)) da_nil))))))) (blkOk_by (own := [("i", 4)]) (N := nm_taking_order) (sc := defScope st_taking_order) (by decide +kernel)) (fun _ _ _ _ _ => (dtg_nm nd rfl)) (fun _ _ _ _ _ => difs_nil) (fun _ _ _ _ _ => (de_ix (de_var (pv 2)) (de_var (pv 4)))))) da_nil))))
abbrev st_law_ask_places : Stmt := top 45
abbrev nm_law_ask_places : List Str := ["mode", "v", "pile", "goals", "actual", "e"]
theorem sc_law_ask_places : FnScope nm_law_ask_places ["mode", "v", "pile", "goals"] (defScope st_law_ask_places) := ⟨rfl, rfl, rfl, by decide +kernel, rfl, by decide +kernel, by decide +kernel⟩
def t_law_ask_places : TDS :=
  (sSeq (sTry raisedC [] 5 (sAsg 4 (eFn [false, false, false, false] m_taking_places (aCons (eVar 0) (aCons (eVar 1) (aCons (eVar 2) (aCons (eVar 3) aNil))))))
    (sRet (gFz (gDis .tup (aCons (eC (.str "refused")) (aCons (eFn [false] mE_law_told (aCons (eVar 5) aNil)) aNil))))))
    (sRet (gFz (gDis .tup (aCons (eC (.str "told")) (aCons (eVar 4) aNil))))))
def m_law_ask_places : List D → FR := runB [false, false, false, false] 2 t_law_ask_places
theorem ok_law_ask_places (T : Txt K mg) (hF : ∃ fd, FunD K "_law_ask_places" "_law_ask_places" (defArgs st_law_ask_places) (defBody st_law_ask_places) (defScope st_law_ask_places) [] [] (He.ga K "_law_ask_places") fd) (hm : mg "_law_ask_places" = some (.ref (He.ga K "_law_ask_places"))) (F_taking_places : Fn P w K mg base "taking_places" 3 [] [false, false, false, false] m_taking_places) (E_law_told : FnE P w K mg base "_law_told" 2 [false] mE_law_told raisedC) : Fn P w K mg base "_law_ask_places" 4 [] [false, false, false, false] m_law_ask_places := by
  obtain ⟨fd, F⟩ := hF
  have nd := sc_law_ask_places.nd
  refine ⟨_, fd, ["mode", "v", "pile", "goals"], [], hm, F.kp, F.bindsN (fun _ _ _ _ _ _ us hl => match us, hl with | [_, _, _, _], _ => rfl), .nil, fn_deep (N := nm_law_ask_places) (t := t_law_ask_places) F sc_law_ask_places rfl (by decide) fun cdv A outer s H vs E hr => ?_⟩
  have hu := hr.units
  have po := passes_of (X := cxD P w K mg base nm_law_ask_places "_law_ask_places" (defScope st_law_ask_places) (He.ga K "_law_ask_places") cdv A outer s H E) rfl
  exact (db_cons (ds_try (cv := .ref (He.ga K "Refused")) rfl rfl rfl nd (i := 5) rfl rfl ⟨rfl, by decide, .inl T.c_Refused⟩ rfl T.exm_Refused
    (fun pn xe po => (db_one (ds_asg (i := 4) nd rfl (de_fn F_taking_places hr (ha := (da_cons (de_var (pv 0)) (da_cons (de_var (pv 1)) (da_cons (de_var (pv 2)) (da_cons (de_var (pv 3)) da_nil)))))))))
    (fun a oe c d pn hot => by
      have hr0 := hr
      have hr := L2H.roomH_mark hr0 (some (Value.ref a))
      have hu := hu_hot hr
      exact (db_one (ds_ret (de_tup (da_cons de_str (da_cons (de_fnE E_law_told hot hr (da_cons (de_var (pv 5)) da_nil)) da_nil)))))))
    (db_one (ds_ret (de_tup (da_cons de_str (da_cons (de_var (pv 4)) da_nil))))))
abbrev st_law_odd_mode : Stmt := top 48
abbrev nm_law_odd_mode : List Str := ["store", "mode", "at", "odd"]
theorem sc_law_odd_mode : FnScope nm_law_odd_mode ["store", "mode"] (defScope st_law_odd_mode) := ⟨rfl, rfl, rfl, by decide +kernel, rfl, by decide +kernel, by decide +kernel⟩
def t_law_odd_mode : TDS :=
  (sSeq (sAsg 2 (eFn [true, false] m_law_take (aCons (eVar 0) (aCons (eCall (fn1 lenD) (aCons (eVar 1) aNil)) aNil))))
    (sSeq (sAsg 3 (gFz (gDis .lst (aCons (eBin opAdd (eSl (eVar 1) oNone (oSome (eVar 2))) (eSl (eVar 1) (oSome (eBin opAdd (eVar 2) (eC (.int 1)))) oNone)) (aCons (eBin opAdd (eVar 1) (eC (.str " "))) (aCons (eBin opAdd (eC (.str " ")) (eVar 1)) (aCons (eBin opAdd (eBin opAdd (eSl (eVar 1) oNone (oSome (eVar 2))) (eUn (op1S sUpper) (eBin opIx (eVar 1) (eVar 2)))) (eSl (eVar 1) (oSome (eBin opAdd (eVar 2) (eC (.int 1)))) oNone)) (aCons (eC (.str "")) (aCons (eC (.str "TOP")) aNil)))))))))
    (sSeq (sAsg 3 (eBin opAdd (eVar 3) (gFz (gDis .lst (aCons (eBin opAdd (eVar 1) (eC (.str "s"))) (aCons (eBin opAdd (eBin opAdd (eSl (eVar 1) oNone (oSome (eVar 2))) (eC (.str "z"))) (eSl (eVar 1) (oSome (eBin opAdd (eVar 2) (eC (.int 1)))) oNone)) (aCons (eC (.str "all")) (aCons (eC (.str "left")) (aCons (eC (.str "run")) (aCons (eC (.str "0")) (aCons (eBin opAdd (eVar 1) (eC (.str "\n"))) (aCons (eBin opAdd (eVar 1) (eVar 1)) aNil))))))))))))
    (sRet (eFn [true, false] m_law_pick (aCons (eVar 0) (aCons (eVar 3) aNil)))))))
def m_law_odd_mode : List D → FR := runB [true, false] 2 t_law_odd_mode
theorem ok_law_odd_mode (T : Txt K mg) (hF : ∃ fd, FunD K "_law_odd_mode" "_law_odd_mode" (defArgs st_law_odd_mode) (defBody st_law_odd_mode) (defScope st_law_odd_mode) [] [] (He.ga K "_law_odd_mode") fd) (hm : mg "_law_odd_mode" = some (.ref (He.ga K "_law_odd_mode"))) (F_law_take : Fn P w K mg base "_law_take" 2 [] [true, false] m_law_take) (F_law_pick : Fn P w K mg base "_law_pick" 3 [] [true, false] m_law_pick) : Fn P w K mg base "_law_odd_mode" 4 [] [true, false] m_law_odd_mode := by
  obtain ⟨fd, F⟩ := hF
  have nd := sc_law_odd_mode.nd
  refine ⟨_, fd, ["store", "mode"], [], hm, F.kp, F.bindsN (fun _ _ _ _ _ _ us hl => match us, hl with | [_, _], _ => rfl), .nil, fn_deep (N := nm_law_odd_mode) (t := t_law_odd_mode) F sc_law_odd_mode rfl (by decide) fun cdv A outer s H vs E hr => ?_⟩
  have hu := hr.units
  have po := passes_of (X := cxD P w K mg base nm_law_odd_mode "_law_odd_mode" (defScope st_law_odd_mode) (He.ga K "_law_odd_mode") cdv A outer s H E) rfl
  exact (db_cons (ds_asg (i := 2) nd rfl (de_fn F_law_take hr (ha := (da_cons (de_var (pv 0)) (da_cons (de_callB call_len opn_len T.b_len (by decide +kernel) (da_cons (de_var (pv 1)) da_nil)) da_nil)))))
    (db_cons (ds_asg (i := 3) nd rfl (de_lst (da_cons (de_op opr_add op2_add (de_slice (de_var (pv 1)) do_none (do_some (de_var (pv 2)))) (de_slice (de_var (pv 1)) (do_some (de_op opr_add op2_add (de_var (pv 2)) de_int)) do_none)) (da_cons (de_op opr_add op2_add (de_var (pv 1)) de_str) (da_cons (de_op opr_add op2_add de_str (de_var (pv 1))) (da_cons (de_op opr_add op2_add (de_op opr_add op2_add (de_slice (de_var (pv 1)) do_none (do_some (de_var (pv 2)))) (de_upper (de_ix (de_var (pv 1)) (de_var (pv 2))))) (de_slice (de_var (pv 1)) (do_some (de_op opr_add op2_add (de_var (pv 2)) de_int)) do_none)) (da_cons de_str (da_cons de_str da_nil))))))))
    (db_cons (ds_asg (i := 3) nd rfl (de_op opr_add op2_add (de_var (pv 3)) (de_lst (da_cons (de_op opr_add op2_add (de_var (pv 1)) de_str) (da_cons (de_op opr_add op2_add (de_op opr_add op2_add (de_slice (de_var (pv 1)) do_none (do_some (de_var (pv 2)))) de_str) (de_slice (de_var (pv 1)) (do_some (de_op opr_add op2_add (de_var (pv 2)) de_int)) do_none)) (da_cons de_str (da_cons de_str (da_cons de_str (da_cons de_str (da_cons (de_op opr_add op2_add (de_var (pv 1)) de_str) (da_cons (de_op opr_add op2_add (de_var (pv 1)) (de_var (pv 1))) da_nil)))))))))))
    (db_one (ds_ret (de_fn F_law_pick hr (ha := (da_cons (de_var (pv 0)) (da_cons (de_var (pv 3)) da_nil)))))))))
abbrev st_law_ask_order : Stmt := top 46
abbrev nm_law_ask_order : List Str := ["mode", "v", "pile", "goals", "actual", "e"]
theorem sc_law_ask_order : FnScope nm_law_ask_order ["mode", "v", "pile", "goals"] (defScope st_law_ask_order) := ⟨rfl, rfl, rfl, by decide +kernel, rfl, by decide +kernel, by decide +kernel⟩
def t_law_ask_order : TDS :=
  (sSeq (sTry raisedC [] 5 (sAsg 4 (eFn [false, false, false, false] m_taking_order (aCons (eVar 0) (aCons (eVar 1) (aCons (eVar 2) (aCons (eVar 3) aNil))))))
    (sRet (gFz (gDis .tup (aCons (eC (.str "refused")) (aCons (eFn [false] mE_law_told (aCons (eVar 5) aNil)) aNil))))))
    (sRet (gFz (gDis .tup (aCons (eC (.str "told")) (aCons (eVar 4) aNil))))))
def m_law_ask_order : List D → FR := runB [false, false, false, false] 2 t_law_ask_order
theorem ok_law_ask_order (T : Txt K mg) (hF : ∃ fd, FunD K "_law_ask_order" "_law_ask_order" (defArgs st_law_ask_order) (defBody st_law_ask_order) (defScope st_law_ask_order) [] [] (He.ga K "_law_ask_order") fd) (hm : mg "_law_ask_order" = some (.ref (He.ga K "_law_ask_order"))) (F_taking_order : Fn P w K mg base "taking_order" 4 [] [false, false, false, false] m_taking_order) (E_law_told : FnE P w K mg base "_law_told" 2 [false] mE_law_told raisedC) : Fn P w K mg base "_law_ask_order" 5 [] [false, false, false, false] m_law_ask_order := by
  obtain ⟨fd, F⟩ := hF
  have nd := sc_law_ask_order.nd
  refine ⟨_, fd, ["mode", "v", "pile", "goals"], [], hm, F.kp, F.bindsN (fun _ _ _ _ _ _ us hl => match us, hl with | [_, _, _, _], _ => rfl), .nil, fn_deep (N := nm_law_ask_order) (t := t_law_ask_order) F sc_law_ask_order rfl (by decide) fun cdv A outer s H vs E hr => ?_⟩
  have hu := hr.units
  have po := passes_of (X := cxD P w K mg base nm_law_ask_order "_law_ask_order" (defScope st_law_ask_order) (He.ga K "_law_ask_order") cdv A outer s H E) rfl
  exact (db_cons (ds_try (cv := .ref (He.ga K "Refused")) rfl rfl rfl nd (i := 5) rfl rfl ⟨rfl, by decide, .inl T.c_Refused⟩ rfl T.exm_Refused
    (fun pn xe po => (db_one (ds_asg (i := 4) nd rfl (de_fn F_taking_order hr (ha := (da_cons (de_var (pv 0)) (da_cons (de_var (pv 1)) (da_cons (de_var (pv 2)) (da_cons (de_var (pv 3)) da_nil)))))))))
    (fun a oe c d pn hot => by
      have hr0 := hr
      have hr := L2H.roomH_mark hr0 (some (Value.ref a))
      have hu := hu_hot hr
      exact (db_one (ds_ret (de_tup (da_cons de_str (da_cons (de_fnE E_law_told hot hr (da_cons (de_var (pv 5)) da_nil)) da_nil)))))))
    (db_one (ds_ret (de_tup (da_cons de_str (da_cons (de_var (pv 4)) da_nil))))))
abbrev st_law : Stmt := top 49
abbrev nm_law : List Str := ["script", "store", "known", "pool", "k", "v", "pile", "goals", "modes", "one", "two", "mode", "due", "told"]
theorem sc_law : FnScope nm_law ["script"] (defScope st_law) := ⟨rfl, rfl, rfl, by decide +kernel, rfl, by decide +kernel, by decide +kernel⟩
def t_law : TDS :=
  (sSeq (sAsgG 1 (gFn [false] m_law_store (aCons (eVar 0) aNil)))
    (sSeq (sAsg 2 (gFz (gDis .tup (aCons (eC (.str "top")) (aCons (eC (.str "bottom")) (aCons (eC (.str "turns")) (aCons (eC (.str "hold")) (aCons (eC (.str "shy")) (aCons (eC (.str "late")) (aCons (eC (.str "friend")) (aCons (eC (.str "foe")) (aCons (eC (.str "shun")) aNil))))))))))))
    (sSeq (sIf (bNot (eT (eFn [false, false] m_law_same (aCons (eC d_MODES) (aCons (eVar 2) aNil)))))
    (sRet (eC (.bl false))) sNil)
    (sSeq (sAsg 3 (gFz (gDis .lst (aCons (eC (.int 0)) (aCons (eC (.int 1)) (aCons (eC (.int 2)) (aCons (eC (.int 3)) (aCons (eC (.int 4)) aNil))))))))
    (sSeq (sIf (eT (eBin (opEq false) (eFn [true, false] m_law_take (aCons (eVar 1) (aCons (eC (.int 4)) aNil))) (eC (.int 0))))
    (sAsg 3 (gFz (gComp [4] (.nm 4) (iRng rngF1 (aCons (eC (.int 5)) aNil)) tYesD (eFn [true, false] m_law_number (aCons (eVar 1) (aCons (eC (.int 30)) aNil)))))) sNil)
    (sSeq (sAsg 5 (eFn [true, false] m_law_pick (aCons (eVar 1) (aCons (eVar 3) aNil))))
    (sSeq (sAsg 6 (gFz (gComp [4] (.nm 4) (iRng rngF1 (aCons (eFn [true, false] m_law_pick (aCons (eVar 1) (aCons (gFz (gDis .lst (aCons (eC (.int 0)) (aCons (eC (.int 1)) (aCons (eC (.int 2)) (aCons (eC (.int 3)) (aCons (eC (.int 4)) (aCons (eC (.int 5)) (aCons (eC (.int 6)) (aCons (eC (.int 7)) (aCons (eC (.int 8)) (aCons (eC (.int 9)) aNil)))))))))))) aNil))) aNil)) tYesD (eFn [true, false] m_law_pick (aCons (eVar 1) (aCons (eBin opAdd (eVar 3) (gFz (gDis .lst (aCons (eVar 5) (aCons (eVar 5) aNil))))) aNil))))))
    (sSeq (sIf (eT (eBin (opEq false) (eFn [true, false] m_law_take (aCons (eVar 1) (aCons (eC (.int 16)) aNil))) (eC (.int 0))))
    (sAsg 6 (gFz (gComp [4] (.nm 4) (iRng rngF1 (aCons (eC (.int 60)) aNil)) tYesD (eFn [true, false] m_law_pick (aCons (eVar 1) (aCons (eBin opAdd (eVar 3) (gFz (gDis .lst (aCons (eVar 5) aNil)))) aNil)))))) sNil)
    (sSeq (sAsg 7 (gFz (gComp [4] (.nm 4) (iRng rngF1 (aCons (eFn [true, false] m_law_take (aCons (eVar 1) (aCons (eC (.int 5)) aNil))) aNil)) tYesD (eFn [true, false] m_law_pick (aCons (eVar 1) (aCons (eVar 3) aNil))))))
    (sSeq (sAsg 8 (gFz (gDis .lst (aCons (eFn [true, false] m_law_pick (aCons (eVar 1) (aCons (eSl (eVar 2) oNone (oSome (eC (.int 6)))) aNil))) (aCons (eFn [true, false] m_law_pick (aCons (eVar 1) (aCons (eSl (eVar 2) (oSome (eC (.int 6))) oNone) aNil))) (aCons (eFn [true, false] m_law_odd_mode (aCons (eVar 1) (aCons (eFn [true, false] m_law_pick (aCons (eVar 1) (aCons (eVar 2) aNil))) aNil))) aNil))))))
    (sSeq (sAsg 8 (eBin opAdd (eVar 8) (gFz (gDis .lst (aCons (eFn [true, false] m_law_pick (aCons (eVar 1) (aCons (eSl (eVar 2) (oSome (eC (.int 2))) (oSome (eC (.int 6)))) aNil))) (aCons (eBin opIx (eVar 8) (eC (.int 0))) aNil))))))
    (sSeq (sAsgG 9 (gCall fnL (aCons (eVar 6) aNil)))
    (sSeq (sAsg 10 (eFn [true, false] m_law_as_row (aCons (eVar 1) (aCons (eVar 7) aNil))))
    (sSeq (sFor (.nm 11) (iSeq (eVar 8))
    (sSeq (sAsg 12 (eFn [false, false, false, false] m_law_due_taking (aCons (eVar 11) (aCons (eVar 5) (aCons (eVar 6) (aCons (eVar 7) aNil))))))
    (sSeq (sAsg 13 (gFz (gDis .tup (aCons (eBor [9] (eFn [false, false, false, false] m_law_ask_places (aCons (eVar 11) (aCons (eVar 5) (aCons (eVar 9) (aCons (eVar 10) aNil)))))) (aCons (eFn [false, false, false, false] m_law_ask_order (aCons (eVar 11) (aCons (eVar 5) (aCons (eCall (fn1 tupD) (aCons (eVar 6) aNil)) (aCons (gFz (gCall fnL (aCons (eVar 7) aNil))) aNil))))) aNil)))))
    (sSeq (sIf (bOr (bNot (eT (eFn [false, false] m_law_same (aCons (eVar 13) (aCons (eVar 12) aNil))))) (bOr (eT (eBin (opEq true) (eVar 9) (eVar 6))) (eT (eBin (opEq true) (gFz (gCall fnL (aCons (eVar 10) aNil))) (eVar 7)))))
    (sRet (eC (.bl false))) sNil)
    (sSeq (sAsg 13 (gFz (gDis .tup (aCons (eFn [false, false, false, false] m_law_ask_places (aCons (eVar 11) (aCons (eVar 5) (aCons (eCall (fn1 tupD) (aCons (eVar 6) aNil)) (aCons (eVar 10) aNil))))) (aCons (eBor [9] (eFn [false, false, false, false] m_law_ask_order (aCons (eVar 11) (aCons (eVar 5) (aCons (eVar 9) (aCons (eVar 10) aNil)))))) aNil)))))
    (sSeq (sIf (bOr (bNot (eT (eFn [false, false] m_law_same (aCons (eVar 13) (aCons (eVar 12) aNil))))) (eT (eBin (opEq true) (eVar 9) (eVar 6))))
    (sRet (eC (.bl false))) sNil)
    (sSeq (sAsg 6 (eSl (eBin opAdd (eVar 6) (gFz (gDis .lst (aCons (eVar 5) aNil)))) (oSome (eC (.int 1))) oNone))
    (sSeq (sExpr (eMut lmApp (eVar 9) (aCons (eVar 5) aNil)))
    (sExpr (eMut lmPopAt (eVar 9) (aCons (eC (.int 0)) aNil)))))))))))
    (sRet (eC (.bl true)))))))))))))))))
def m_law : List D → FR := runB [false] 13 t_law
theorem ok_law (T : Txt K mg) {fd : FuncData} (F : FunD K "law" "law" (defArgs st_law) (defBody st_law) (defScope st_law) [] [] (He.ga K "law") fd) (F_law_store : Fn P w K mg base "_law_store" 2 [] [false] m_law_store) (F_law_same : Fn P w K mg base "_law_same" 2 [] [false, false] m_law_same) (F_law_take : Fn P w K mg base "_law_take" 2 [] [true, false] m_law_take) (F_law_number : Fn P w K mg base "_law_number" 3 [] [true, false] m_law_number) (F_law_pick : Fn P w K mg base "_law_pick" 3 [] [true, false] m_law_pick) (F_law_odd_mode : Fn P w K mg base "_law_odd_mode" 4 [] [true, false] m_law_odd_mode) (F_law_as_row : Fn P w K mg base "_law_as_row" 3 [] [true, false] m_law_as_row) (F_law_due_taking : Fn P w K mg base "_law_due_taking" 2 [] [false, false, false, false] m_law_due_taking) (F_law_ask_order : Fn P w K mg base "_law_ask_order" 5 [] [false, false, false, false] m_law_ask_order) (F_law_ask_places : Fn P w K mg base "_law_ask_places" 4 [] [false, false, false, false] m_law_ask_places) : FnOk P w K mg base (L2N.CX P w) 6 (He.ga K "law") fd ["script"] (spD K [false] m_law) := by
  have nd := sc_law.nd
  refine fn_deep (N := nm_law) (t := t_law) F sc_law rfl (by decide) fun cdv A outer s H vs E hr => ?_
  have hu := hr.units
  have po := passes_of (X := cxD P w K mg base nm_law "law" (defScope st_law) (He.ga K "law") cdv A outer s H E) rfl
  exact (db_cons (ds_asgG (i := 1) nd rfl (dg_fn (by decide) F_law_store hr (ha := (da_cons (de_var (pv 0)) da_nil))))
    (db_cons (ds_asg (i := 2) nd rfl (de_tup (da_cons de_str (da_cons de_str (da_cons de_str (da_cons de_str (da_cons de_str (da_cons de_str (da_cons de_str (da_cons de_str (da_cons de_str da_nil)))))))))))
    (db_cons (ds_if (dt_not (dt_val (de_fn F_law_same hr (ha := (da_cons (de_gtup T.c_MODES) (da_cons (de_var (pv 2)) da_nil))))))
    (db_one (ds_ret de_bl)) db_nil)
    (db_cons (ds_asg (i := 3) nd rfl (de_lst (da_cons de_int (da_cons de_int (da_cons de_int (da_cons de_int (da_cons de_int da_nil)))))))
    (db_cons (ds_if (dt_cmp (op_eq.or (op_eqD hu)) op2_eq (de_fn F_law_take hr (ha := (da_cons (de_var (pv 1)) (da_cons de_int da_nil)))) de_int)
    (db_one (ds_asg (i := 3) nd rfl (de_g (dg_lc (own := [("k", 4)]) (by decide) rfl nd (di_range1 T.b_range (da_cons de_int da_nil)) (blkOk_by (own := [("k", 4)]) (N := nm_law) (sc := defScope st_law) (by decide +kernel)) (fun _ _ _ _ _ => (dtg_nm nd rfl)) (fun _ _ _ _ _ => difs_nil) (fun _ _ _ _ _ => (de_fn F_law_number hr (ha := (da_cons (de_var (pv 1)) (da_cons de_int da_nil))))))))) db_nil)
    (db_cons (ds_asg (i := 5) nd rfl (de_fn F_law_pick hr (ha := (da_cons (de_var (pv 1)) (da_cons (de_var (pv 3)) da_nil)))))
    (db_cons (ds_setLc (own := [("k", 4)]) (i := 6) false rfl nd rfl rfl (sw_true rfl rfl rfl (by decide +kernel)) (di_range1 T.b_range (da_cons (de_fn F_law_pick hr (ha := (da_cons (de_var (pv 1)) (da_cons (de_lst (da_cons de_int (da_cons de_int (da_cons de_int (da_cons de_int (da_cons de_int (da_cons de_int (da_cons de_int (da_cons de_int (da_cons de_int (da_cons de_int da_nil))))))))))) da_nil)))) da_nil)) (blkOk_by (own := [("k", 4)]) (N := nm_law) (sc := defScope st_law) (by decide +kernel)) (fun _ _ _ _ _ => (dtg_nm nd rfl)) (fun _ _ _ _ _ => difs_nil) (fun _ _ _ _ _ => (de_fn F_law_pick hr (ha := (da_cons (de_var (pv 1)) (da_cons (de_op opr_add op2_add (de_var (pv 3)) (de_lst (da_cons (de_var (pv 5)) (da_cons (de_var (pv 5)) da_nil)))) da_nil))))))
    (db_cons (ds_if (dt_cmp (op_eq.or (op_eqD hu)) op2_eq (de_fn F_law_take hr (ha := (da_cons (de_var (pv 1)) (da_cons de_int da_nil)))) de_int)
    (db_one (ds_setLc (own := [("k", 4)]) (i := 6) false rfl nd rfl rfl (sw_true rfl rfl rfl (by decide +kernel)) (di_range1 T.b_range (da_cons de_int da_nil)) (blkOk_by (own := [("k", 4)]) (N := nm_law) (sc := defScope st_law) (by decide +kernel)) (fun _ _ _ _ _ => (dtg_nm nd rfl)) (fun _ _ _ _ _ => difs_nil) (fun _ _ _ _ _ => (de_fn F_law_pick hr (ha := (da_cons (de_var (pv 1)) (da_cons (de_op opr_add op2_add (de_var (pv 3)) (de_lst (da_cons (de_var (pv 5)) da_nil))) da_nil))))))) db_nil)
    (db_cons (ds_setLc (own := [("k", 4)]) (i := 7) false rfl nd rfl rfl (sw_true rfl rfl rfl (by decide +kernel)) (di_range1 T.b_range (da_cons (de_fn F_law_take hr (ha := (da_cons (de_var (pv 1)) (da_cons de_int da_nil)))) da_nil)) (blkOk_by (own := [("k", 4)]) (N := nm_law) (sc := defScope st_law) (by decide +kernel)) (fun _ _ _ _ _ => (dtg_nm nd rfl)) (fun _ _ _ _ _ => difs_nil) (fun _ _ _ _ _ => (de_fn F_law_pick hr (ha := (da_cons (de_var (pv 1)) (da_cons (de_var (pv 3)) da_nil))))))
    (db_cons (ds_asg (i := 8) nd rfl (de_lst (da_cons (de_fn F_law_pick hr (ha := (da_cons (de_var (pv 1)) (da_cons (de_slice (de_var (pv 2)) do_none (do_some de_int)) da_nil)))) (da_cons (de_fn F_law_pick hr (ha := (da_cons (de_var (pv 1)) (da_cons (de_slice (de_var (pv 2)) (do_some de_int) do_none) da_nil)))) (da_cons (de_fn F_law_odd_mode hr (ha := (da_cons (de_var (pv 1)) (da_cons (de_fn F_law_pick hr (ha := (da_cons (de_var (pv 1)) (da_cons (de_var (pv 2)) da_nil)))) da_nil)))) da_nil)))))
    (db_cons (ds_asg (i := 8) nd rfl (de_op opr_add op2_add (de_var (pv 8)) (de_lst (da_cons (de_fn F_law_pick hr (ha := (da_cons (de_var (pv 1)) (da_cons (de_slice (de_var (pv 2)) (do_some de_int) (do_some de_int)) da_nil)))) (da_cons (de_ix (de_var (pv 8)) de_int) da_nil)))))
    (db_cons (ds_asgG (i := 9) nd rfl (dg_callTy call_list_of (opn_list (by decide)) T.b_list (by decide +kernel) (da_cons (de_var (pv 6)) da_nil)))
    (db_cons (ds_asg (i := 10) nd rfl (de_fn F_law_as_row hr (ha := (da_cons (de_var (pv 1)) (da_cons (de_var (pv 7)) da_nil)))))
    (db_cons (ds_for po rfl (di_seq (de_var (pv 8))) (dtg_nm nd rfl)
    (db_cons (ds_asg (i := 12) nd rfl (de_fn F_law_due_taking hr (ha := (da_cons (de_var (pv 11)) (da_cons (de_var (pv 5)) (da_cons (de_var (pv 6)) (da_cons (de_var (pv 7)) da_nil)))))))
    (db_cons (ds_asg (i := 13) nd rfl (de_tup (da_cons (de_bor [9] (de_fn F_law_ask_places hr (ha := (da_cons (de_var (pv 11)) (da_cons (de_var (pv 5)) (da_cons (de_var (pv 9)) (da_cons (de_var (pv 10)) da_nil))))))) (da_cons (de_fn F_law_ask_order hr (ha := (da_cons (de_var (pv 11)) (da_cons (de_var (pv 5)) (da_cons (de_callTy call_tuple_of opn_tuple T.b_tuple (by decide +kernel) (da_cons (de_var (pv 6)) da_nil)) (da_cons (de_g (dg_callTy call_list_of (opn_list (by decide)) T.b_list (by decide +kernel) (da_cons (de_var (pv 7)) da_nil))) da_nil)))))) da_nil))))
    (db_cons (ds_if (DW.pt (dw_or (dt_not (dt_val (de_fn F_law_same hr (ha := (da_cons (de_var (pv 13)) (da_cons (de_var (pv 12)) da_nil)))))) (dw_or (dt_cmp (op_ne.or (op_neD hu)) op2_ne (de_var (pv 9)) (de_var (pv 6))) (dw_or1 (dt_cmp (op_ne.or (op_neD hu)) op2_ne (de_g (dg_callTy call_list_of (opn_list (by decide)) T.b_list (by decide +kernel) (da_cons (de_var (pv 10)) da_nil))) (de_var (pv 7)))))))
    (db_one (ds_ret de_bl)) db_nil)
    (db_cons (ds_asg (i := 13) nd rfl (de_tup (da_cons (de_fn F_law_ask_places hr (ha := (da_cons (de_var (pv 11)) (da_cons (de_var (pv 5)) (da_cons (de_callTy call_tuple_of opn_tuple T.b_tuple (by decide +kernel) (da_cons (de_var (pv 6)) da_nil)) (da_cons (de_var (pv 10)) da_nil)))))) (da_cons (de_bor [9] (de_fn F_law_ask_order hr (ha := (da_cons (de_var (pv 11)) (da_cons (de_var (pv 5)) (da_cons (de_var (pv 9)) (da_cons (de_var (pv 10)) da_nil))))))) da_nil))))
    (db_cons (ds_if (DW.pt (dw_or (dt_not (dt_val (de_fn F_law_same hr (ha := (da_cons (de_var (pv 13)) (da_cons (de_var (pv 12)) da_nil)))))) (dw_or1 (dt_cmp (op_ne.or (op_neD hu)) op2_ne (de_var (pv 9)) (de_var (pv 6))))))
    (db_one (ds_ret de_bl)) db_nil)
    (db_cons (ds_asg (i := 6) nd rfl (de_slice (de_op opr_add op2_add (de_var (pv 6)) (de_lst (da_cons (de_var (pv 5)) da_nil))) (do_some de_int) do_none))
    (db_cons (ds_expr (de_mut PySem.F.slot_list_append PySem.F.type_list_append mt_append mtl_app (de_var (pv 9)) (da_cons (de_var (pv 5)) da_nil)))
    (db_one (ds_expr (de_mut PySem.F.slot_list_pop PySem.F.type_list_pop mt_popAt mtl_popAt (de_var (pv 9)) (da_cons de_int da_nil))))))))))))
    (db_one (ds_ret de_bl))))))))))))))))
end
end LK

set_option Elab.async false
set_option linter.all false
set_option maxRecDepth 10000
set_option exponentiation.threshold 4000
local macro_rules | `(tactic| walk_at "ev") => `(tactic| simp only [DL.LR_c, DL.LR_n, DL.RW_eBor, DL.lnD_n, DL.lnD_k, DL.lnD_l, DL.MG_d, DL.mrg_n, DL.mrg_0, DL.mrg_f, DL.mrg_l, DL.mrg_o, DL.mrg_on, DL.nobV_fz, DL.nob_int, DL.nob_str, DL.nob_bl, DL.nob_non, DL.nob_lst, DL.nob_tup, DL.nobL_n, DL.nobL_c, DL.nobL_a, DL.nobL_i, DL.nobL_s, Nat.reduceBEq, beq_self_eq_true, DL.unb_non, DL.unb_bl, DL.unb_int, DL.unb_str, DL.unb_ty, DL.unb_cls, DL.unb_lst, DL.unb_tup, DL.unb_brw, DL.unb_scr, DL.unb_ins, DL.unb_exc, DL.items_brw, DL.RW_ok, DL.RW_exc, DL.RW_stuck, DL.RW_C, DL.RW_var, DL.RW_bin, DL.RW_un, DL.RW_vB, DL.RW_T, DL.RW_bAnd, DL.RW_bOr, DL.RW_bNot, DL.RW_eAnd, DL.RW_eOr, DL.RW_eNot, DL.RW_eIf, DL.RW_aNil, DL.RW_aCons, DL.RW_gFz, DL.RW_gDis, DL.RW_eCall, DL.RW_gCall, DL.RW_fn1, DL.RW_fn2, DL.RW_fnL, DL.dr_fz, DL.dr_sl, DL.frz_fz, DL.frz_sl, DL.frzs_nil, DL.frzs_cons, DL.RW_add, DL.RW_sub, DL.RW_lt, DL.RW_le, DL.RW_gt, DL.RW_ge, DL.RW_neg, DL.RW_mul, DL.RW_div, DL.RW_mod, DL.RW_pow, DL.RW_eq0, DL.RW_eq1, DL.eqD_ii, DL.eqD_ss, DL.eqD_bb, Int.cast_ofNat_Int, DL.RW_in, DL.RW_is, DL.RW_ix, DL.getD_lst, DL.getD_tup, DL.atI_0, DL.atI_1, DL.atI_2, DL.atI_3, DL.atI_4, DL.atI_5, DL.RW_eFn, DL.RW_gFn, DL.RW_call, DL.FW_nx, DL.FW_nil, DL.FW_break, DL.FW_cont, DL.FW_seq, DL.FW_if, DL.FW_expr, DL.FW_ret, DL.FW_retG, DL.FW_retN, DL.FW_put, DL.FW_asg, DL.FW_asgG, DL.FW_asgT, DL.FW_par, DL.FW_sub, DL.FW_store, DL.FW_aug, DL.FW_raise, DL.FW_try, DL.keepP, DL.RW_rng1, DL.RW_rng2, DL.ints2_1, DL.ints2_2, DL.RW_rg1, DL.RW_rg2, DL.RW_gRg, DL.RW_op1S, DL.RW_lst, DL.isN_non, DL.isi_non_tuple, DL.isi_non_list, DL.isi_non_bool, DL.isi_non_int, DL.isi_non_str, DL.isN_bl, DL.isi_bl_tuple, DL.isi_bl_list, DL.isi_bl_bool, DL.isi_bl_int, DL.isi_bl_str, DL.isN_int, DL.isi_int_tuple, DL.isi_int_list, DL.isi_int_bool, DL.isi_int_int, DL.isi_int_str, DL.isN_str, DL.isi_str_tuple, DL.isi_str_list, DL.isi_str_bool, DL.isi_str_int, DL.isi_str_str, DL.isN_lst, DL.isi_lst_tuple, DL.isi_lst_list, DL.isi_lst_bool, DL.isi_lst_int, DL.isi_lst_str, DL.isN_tup, DL.isi_tup_tuple, DL.isi_tup_list, DL.isi_tup_bool, DL.isi_tup_int, DL.isi_tup_str, DL.RW_seq, DL.startD_eq, DL.startA, DL.setT_nm, DL.setT_tp, DL.setN_nil, DL.setN_cons, DL.bindA, DL.argD, DL.pairsA, DL.putM, DL.ndup, DL.mutsD, DL.mutIdx, DL.intD_int, DL.intD_bl, DL.absD_int, DL.lenD_lst, DL.lenD_tup, DL.lenD_str, DL.tupD_lst, DL.tupD_tup, DL.max2D_ii, DL.min2D_ii, DL.szl, DL.items_lst, DL.items_tup, DL.RW_comp, DL.RW_yes, DL.wipeD, DL.RW_addL, DL.RW_addT, DL.RW_addS, DL.RW_iadd, DL.RW_gCat, DL.RW_gRep, DL.RW_gRev, DL.RW_zip, DL.RW_enum, DL.RW_enum2, DL.stF, DL.RW_oN, DL.RW_oS, DL.RW_sl, DL.sliceD_lst, DL.sliceD_tup, DL.RW_mut, DL.RW_mutF, DL.isOwn, DL.lm_app, DL.ixN_l0, DL.ixN_l1, DL.ixN_l2, DL.ixN_l3, DL.ixN_l4, DL.ixN_l5, List.reverse_cons, List.reverse_nil, List.getElem?_nil, Nat.reduceAdd, Nat.reduceLeDiff, Nat.reduceLT, Int.reduceLT, Int.reduceLE, Int.reduceAdd, Int.reduceSub, Int.reduceMul, Int.reduceNeg, Int.reduceEq, Int.reduceToNat, Nat.reduceEqDiff, List.replicate_succ, List.replicate_zero, List.cons_append, List.nil_append, List.getElem?_cons_zero, List.getElem?_cons_succ, List.set_cons_zero, List.set_cons_succ, List.length_cons, List.length_nil, List.map_cons, List.map_nil, List.contains_nil, List.contains_cons, Option.map_some, Option.bind_some, decide_eq_true_eq, decide_eq_false_iff_not, decide_true, decide_false, Bool.not_true, Bool.not_false, Bool.and_true, Bool.true_and, Bool.and_false, Bool.false_and, Bool.or_false, Bool.false_or, Bool.or_true, Bool.true_or, Bool.not_eq_true', Bool.not_eq_false', Bool.false_eq_true, Bool.true_eq_false, reduceCtorEq, true_implies, false_implies, forall_const, not_true_eq_false, not_false_eq_true, and_true, true_and, and_self, if_true, if_false, ite_true, ite_false, eq_self])
local macro_rules | `(tactic| walk_at "st") => `(tactic| (refine DL.LZ_in ?_; simp only [DL.LR_c, DL.LR_n, DL.RW_eBor, DL.lnD_n, DL.lnD_k, DL.lnD_l, DL.MG_d, DL.mrg_n, DL.mrg_0, DL.mrg_f, DL.mrg_l, DL.mrg_o, DL.mrg_on, DL.nobV_fz, DL.nob_int, DL.nob_str, DL.nob_bl, DL.nob_non, DL.nob_lst, DL.nob_tup, DL.nobL_n, DL.nobL_c, DL.nobL_a, DL.nobL_i, DL.nobL_s, Nat.reduceBEq, beq_self_eq_true, DL.unb_non, DL.unb_bl, DL.unb_int, DL.unb_str, DL.unb_ty, DL.unb_cls, DL.unb_lst, DL.unb_tup, DL.unb_brw, DL.unb_scr, DL.unb_ins, DL.unb_exc, DL.items_brw, DL.RW_ok, DL.RW_exc, DL.RW_stuck, DL.RW_C, DL.RW_var, DL.RW_bin, DL.RW_un, DL.RW_vB, DL.RW_T, DL.RW_bAnd, DL.RW_bOr, DL.RW_bNot, DL.RW_eAnd, DL.RW_eOr, DL.RW_eNot, DL.RW_eIf, DL.RW_aNil, DL.RW_aCons, DL.RW_gFz, DL.RW_gDis, DL.RW_eCall, DL.RW_gCall, DL.RW_fn1, DL.RW_fn2, DL.RW_fnL, DL.dr_fz, DL.dr_sl, DL.frz_fz, DL.frz_sl, DL.frzs_nil, DL.frzs_cons, DL.RW_add, DL.RW_sub, DL.RW_lt, DL.RW_le, DL.RW_gt, DL.RW_ge, DL.RW_neg, DL.RW_mul, DL.RW_div, DL.RW_mod, DL.RW_pow, DL.RW_eq0, DL.RW_eq1, DL.eqD_ii, DL.eqD_ss, DL.eqD_bb, Int.cast_ofNat_Int, DL.RW_in, DL.RW_is, DL.RW_ix, DL.getD_lst, DL.getD_tup, DL.atI_0, DL.atI_1, DL.atI_2, DL.atI_3, DL.atI_4, DL.atI_5, DL.RW_eFn, DL.RW_gFn, DL.RW_call, DL.FW_nx, DL.FW_nil, DL.FW_break, DL.FW_cont, DL.FW_seq, DL.FW_if, DL.FW_expr, DL.FW_ret, DL.FW_retG, DL.FW_retN, DL.FW_put, DL.FW_asg, DL.FW_asgG, DL.FW_asgT, DL.FW_par, DL.FW_sub, DL.FW_store, DL.FW_aug, DL.FW_raise, DL.FW_try, DL.keepP, DL.RW_rng1, DL.RW_rng2, DL.ints2_1, DL.ints2_2, DL.RW_rg1, DL.RW_rg2, DL.RW_gRg, DL.RW_op1S, DL.RW_lst, DL.isN_non, DL.isi_non_tuple, DL.isi_non_list, DL.isi_non_bool, DL.isi_non_int, DL.isi_non_str, DL.isN_bl, DL.isi_bl_tuple, DL.isi_bl_list, DL.isi_bl_bool, DL.isi_bl_int, DL.isi_bl_str, DL.isN_int, DL.isi_int_tuple, DL.isi_int_list, DL.isi_int_bool, DL.isi_int_int, DL.isi_int_str, DL.isN_str, DL.isi_str_tuple, DL.isi_str_list, DL.isi_str_bool, DL.isi_str_int, DL.isi_str_str, DL.isN_lst, DL.isi_lst_tuple, DL.isi_lst_list, DL.isi_lst_bool, DL.isi_lst_int, DL.isi_lst_str, DL.isN_tup, DL.isi_tup_tuple, DL.isi_tup_list, DL.isi_tup_bool, DL.isi_tup_int, DL.isi_tup_str, DL.RW_seq, DL.startD_eq, DL.startA, DL.setT_nm, DL.setT_tp, DL.setN_nil, DL.setN_cons, DL.bindA, DL.argD, DL.pairsA, DL.putM, DL.ndup, DL.mutsD, DL.mutIdx, DL.intD_int, DL.intD_bl, DL.absD_int, DL.lenD_lst, DL.lenD_tup, DL.lenD_str, DL.tupD_lst, DL.tupD_tup, DL.max2D_ii, DL.min2D_ii, DL.szl, DL.items_lst, DL.items_tup, DL.RW_comp, DL.RW_yes, DL.wipeD, DL.RW_addL, DL.RW_addT, DL.RW_addS, DL.RW_iadd, DL.RW_gCat, DL.RW_gRep, DL.RW_gRev, DL.RW_zip, DL.RW_enum, DL.RW_enum2, DL.stF, DL.RW_oN, DL.RW_oS, DL.RW_sl, DL.sliceD_lst, DL.sliceD_tup, DL.RW_mut, DL.RW_mutF, DL.isOwn, DL.lm_app, DL.ixN_l0, DL.ixN_l1, DL.ixN_l2, DL.ixN_l3, DL.ixN_l4, DL.ixN_l5, List.reverse_cons, List.reverse_nil, List.getElem?_nil, Nat.reduceAdd, Nat.reduceLeDiff, Nat.reduceLT, Int.reduceLT, Int.reduceLE, Int.reduceAdd, Int.reduceSub, Int.reduceMul, Int.reduceNeg, Int.reduceEq, Int.reduceToNat, Nat.reduceEqDiff, List.replicate_succ, List.replicate_zero, List.cons_append, List.nil_append, List.getElem?_cons_zero, List.getElem?_cons_succ, List.set_cons_zero, List.set_cons_succ, List.length_cons, List.length_nil, List.map_cons, List.map_nil, List.contains_nil, List.contains_cons, Option.map_some, Option.bind_some, decide_eq_true_eq, decide_eq_false_iff_not, decide_true, decide_false, Bool.not_true, Bool.not_false, Bool.and_true, Bool.true_and, Bool.and_false, Bool.false_and, Bool.or_false, Bool.false_or, Bool.or_true, Bool.true_or, Bool.not_eq_true', Bool.not_eq_false', Bool.false_eq_true, Bool.true_eq_false, reduceCtorEq, true_implies, false_implies, forall_const, not_true_eq_false, not_false_eq_true, and_true, true_and, and_self, if_true, if_false, ite_true, ite_false, eq_self]))
namespace LK
open PySem L2 DL
/-! ### the law's own helpers -/
section
variable {Q G : D → List D → Prop} {E : Str → List Str → List D → List D → Prop}
theorem powB : ∀ i : Fin 41, (288230376151711744 : Int) ^ i.val ≤ 10 ^ 900 := by decide +kernel
theorem divOk_lit {i j : Int} (h : divOk 0 j = true) : divOk i j = true := h
theorem mix_spec {base turn place : Int} (h1 : sm base) (h2 : sm turn) (h3 : sm place) (k : ∀ r, 0 ≤ r → r < 288230376151711744 → Q (.int r) []) : MW (m_law_mix [.int base, .int turn, .int place]) Q G E := by
  refine MW_run (t := t_law_mix) ?_
  delta t_law_mix
  walk_at "st"
  walk_at "st"
  refine ⟨sm_mul h1 (sm_100 (by decide) (by decide)), sm_mul h2 (sm_100 (by decide) (by decide)), sm_mul h3 (sm_100 (by decide) (by decide)), ?_⟩
  generalize base * 6364136223846793005 + turn * 1442695040888963407 + place * 2862933555777941757 + 3037000493 = one0
  walk_at "st"
  have a0 := Int.emod_nonneg one0 (show (2305843009213693951 : Int) ≠ 0 by decide)
  have a1 := Int.emod_lt_of_pos one0 (show (0 : Int) < 2305843009213693951 by decide)
  generalize one0 % 2305843009213693951 = one at a0 a1
  walk_at "st"
  refine ⟨divOk_lit (by decide +kernel), sm_mul (sm_100 (by omega) (by omega)) (sm_100 (by decide) (by decide)), sm_mul (sm_100 (by omega) (by omega)) (sm_100 (by decide) (by decide)), ?_⟩
  generalize one / 65537 * 2685821657736338717 + one * 1181783497276652981 + turn = two0
  have b0 := Int.emod_nonneg two0 (show (2305843009213693951 : Int) ≠ 0 by decide)
  have b1 := Int.emod_lt_of_pos two0 (show (0 : Int) < 2305843009213693951 by decide)
  generalize two0 % 2305843009213693951 = two at b0 b1
  walk_at "st"
  refine ⟨sm_mul (sm_100 (by omega) (by omega)) (sm_100 (by omega) (by omega)), divOk_lit (by decide +kernel), sm_mul (sm_100 (by omega) (by omega)) (sm_100 (by decide) (by decide)), ?_⟩
  generalize two * two + one / 4294967296 * 3935559000370003845 + place = three0
  have c0 := Int.emod_nonneg three0 (show (2305843009213693951 : Int) ≠ 0 by decide)
  have c1 := Int.emod_lt_of_pos three0 (show (0 : Int) < 2305843009213693951 by decide)
  generalize three0 % 2305843009213693951 = three at c0 c1
  walk_at "st"
  exact ⟨divOk_lit (by decide +kernel), k _ (by omega) (by omega)⟩
/-- the store that a law draws from -/
structure Sto where
  cs : List (Int × Int)
  p1 : Int
  p2 : Int
  p3 : Int
  p4 : Int
  p5 : Int
def cD (c : Int × Int) : D := .tup [.int c.1, .int c.2]
def stD (s : Sto) : D := .lst [.lst (s.cs.map cD), .int s.p1, .int s.p2, .int s.p3, .int s.p4, .int s.p5]
structure Inv (n : Int) (s : Sto) : Prop where
  c : ∀ c ∈ s.cs, 0 ≤ c.2 ∧ c.2 ≤ 10 ^ 810
  l : s.cs.length ≤ 1000
  a1 : 0 ≤ s.p1
  b1 : s.p1 ≤ s.cs.length
  a2 : 0 ≤ s.p2
  b2 : s.p2 ≤ 10 ^ 810
  a3 : 0 < s.p3 → 1 ≤ s.p1
  a4 : 0 ≤ s.p4
  b4 : s.p4 ≤ n
  a5 : 0 ≤ s.p5
  b5 : s.p5 ≤ 10 ^ 810
theorem Inv.mono {n m : Int} {s : Sto} (I : Inv n s) (h : n ≤ m) : Inv m s := ⟨I.c, I.l, I.a1, I.b1, I.a2, I.b2, I.a3, I.a4, Int.le_trans I.b4 h, I.a5, I.b5⟩
theorem sm_810 {x : Int} (h0 : 0 ≤ x) (h1 : x ≤ 10 ^ 810) : sm x := sm_800 h0 (Int.le_trans h1 (by decide +kernel))
theorem take_spec {s : Sto} {n many : Int} (I : Inv n s) (hn : n ≤ 1000000) (h0 : 0 ≤ many) (hm : many ≤ 10 ^ 100) (k : ∀ r s', Inv (n + 1) s' → 0 ≤ r → (r < many ∨ r = 0) → Q (.int r) [stD s']) : MW (m_law_take [stD s, .int many]) Q G E := by
  obtain ⟨cs, p1, p2, p3, p4, p5⟩ := s
  obtain ⟨ic, il, i1, j1, i2, j2, i3, i4, j4, i5, j5⟩ := I
  dsimp only at ic il i1 j1 i2 j2 i3 i4 j4 i5 j5
  unfold stD
  refine MW_run (t := t_law_take) ?_
  delta t_law_take
  dsimp only
  walk_at "st"
  refine ⟨fun h => ?_, fun h => ?_⟩
  · walk_at "st"
    exact k 0 ⟨cs, p1, p2, p3, p4, p5⟩ ⟨ic, il, i1, j1, i2, j2, i3, i4, by dsimp only; omega, i5, j5⟩ (by omega) (.inr rfl)
  walk_at "st"
  walk_at "st"
  refine LZ_cut (J := fun δ => ∃ q1 q2 q3 x2, δ = [some (1, .lst [.lst (cs.map cD), .int q1, .int q2, .int q3, .int (p4 + 1), .int p5]), some (0, .int many), x2, none, none, none, none] ∧ 0 ≤ q1 ∧ q1 ≤ cs.length ∧ 0 ≤ q2 ∧ q2 ≤ 10 ^ 810 ∧ (0 < q3 → 1 ≤ q1)) ?_ ?_
  · walk_at "st"
    have base : ∃ q1 q2 q3 x2, [some (1, D.lst [.lst (cs.map cD), .int p1, .int p2, .int p3, .int (p4 + 1), .int p5]), some (0, .int many), none, none, none, none, none] = [some (1, D.lst [.lst (cs.map cD), .int q1, .int q2, .int q3, .int (p4 + 1), .int p5]), some (0, .int many), x2, none, none, none, none] ∧ 0 ≤ q1 ∧ q1 ≤ cs.length ∧ 0 ≤ q2 ∧ q2 ≤ 10 ^ 810 ∧ (0 < q3 → 1 ≤ q1) := ⟨p1, p2, p3, none, rfl, i1, j1, i2, j2, i3⟩
    refine ⟨fun a => ⟨fun b => ⟨fun c => ?_, fun c => ?_⟩, fun b => ?_⟩, fun a => ?_⟩
    · simp only [List.length_map] at c
      have hlt : p1.toNat < cs.length := by omega
      have e : (cs.map cD)[p1.toNat]? = some (cD cs[p1.toNat]) := by rw [List.getElem?_map, List.getElem?_eq_getElem hlt]; rfl
      have hc := ic _ (List.getElem_mem hlt)
      generalize cs[p1.toNat] = cell at e hc
      (refine LZ_in ?_; simp only [atI_ge i1, e, cD, LR_c, LR_n, RW_eBor, lnD_n, lnD_k, lnD_l, MG_d, mrg_n, mrg_0, mrg_f, mrg_l, mrg_o, mrg_on, nobV_fz, nob_int, nob_str, nob_bl, nob_non, nob_lst, nob_tup, nobL_n, nobL_c, nobL_a, nobL_i, nobL_s, Nat.reduceBEq, beq_self_eq_true, unb_non, unb_bl, unb_int, unb_str, unb_ty, unb_cls, unb_lst, unb_tup, unb_brw, unb_scr, unb_ins, unb_exc, items_brw, RW_ok, RW_exc, RW_stuck, RW_C, RW_var, RW_bin, RW_un, RW_vB, RW_T, RW_bAnd, RW_bOr, RW_bNot, RW_eAnd, RW_eOr, RW_eNot, RW_eIf, RW_aNil, RW_aCons, RW_gFz, RW_gDis, RW_eCall, RW_gCall, RW_fn1, RW_fn2, RW_fnL, dr_fz, dr_sl, frz_fz, frz_sl, frzs_nil, frzs_cons, RW_add, RW_sub, RW_lt, RW_le, RW_gt, RW_ge, RW_neg, RW_mul, RW_div, RW_mod, RW_pow, RW_eq0, RW_eq1, eqD_ii, eqD_ss, eqD_bb, Int.cast_ofNat_Int, RW_in, RW_is, RW_ix, getD_lst, getD_tup, atI_0, atI_1, atI_2, atI_3, atI_4, atI_5, RW_eFn, RW_gFn, RW_call, FW_nx, FW_nil, FW_break, FW_cont, FW_seq, FW_if, FW_expr, FW_ret, FW_retG, FW_retN, FW_put, FW_asg, FW_asgG, FW_asgT, FW_par, FW_sub, FW_store, FW_aug, FW_raise, FW_try, keepP, RW_rng1, RW_rng2, ints2_1, ints2_2, RW_rg1, RW_rg2, RW_gRg, RW_op1S, RW_lst, isN_non, isi_non_tuple, isi_non_list, isi_non_bool, isi_non_int, isi_non_str, isN_bl, isi_bl_tuple, isi_bl_list, isi_bl_bool, isi_bl_int, isi_bl_str, isN_int, isi_int_tuple, isi_int_list, isi_int_bool, isi_int_int, isi_int_str, isN_str, isi_str_tuple, isi_str_list, isi_str_bool, isi_str_int, isi_str_str, isN_lst, isi_lst_tuple, isi_lst_list, isi_lst_bool, isi_lst_int, isi_lst_str, isN_tup, isi_tup_tuple, isi_tup_list, isi_tup_bool, isi_tup_int, isi_tup_str, RW_seq, startD_eq, startA, setT_nm, setT_tp, setN_nil, setN_cons, bindA, argD, pairsA, putM, ndup, mutsD, mutIdx, intD_int, intD_bl, absD_int, lenD_lst, lenD_tup, lenD_str, tupD_lst, tupD_tup, max2D_ii, min2D_ii, szl, items_lst, items_tup, RW_comp, RW_yes, wipeD, RW_addL, RW_addT, RW_addS, RW_iadd, RW_gCat, RW_gRep, RW_gRev, RW_zip, RW_enum, RW_enum2, stF, RW_oN, RW_oS, RW_sl, sliceD_lst, sliceD_tup, RW_mut, RW_mutF, isOwn, lm_app, ixN_l0, ixN_l1, ixN_l2, ixN_l3, ixN_l4, ixN_l5, List.reverse_cons, List.reverse_nil, List.getElem?_nil, Nat.reduceAdd, Nat.reduceLeDiff, Nat.reduceLT, Int.reduceLT, Int.reduceLE, Int.reduceAdd, Int.reduceSub, Int.reduceMul, Int.reduceNeg, Int.reduceEq, Int.reduceToNat, Nat.reduceEqDiff, List.replicate_succ, List.replicate_zero, List.cons_append, List.nil_append, List.getElem?_cons_zero, List.getElem?_cons_succ, List.set_cons_zero, List.set_cons_succ, List.length_cons, List.length_nil, List.map_cons, List.map_nil, List.contains_nil, List.contains_cons, Option.map_some, Option.bind_some, decide_eq_true_eq, decide_eq_false_iff_not, decide_true, decide_false, Bool.not_true, Bool.not_false, Bool.and_true, Bool.true_and, Bool.and_false, Bool.false_and, Bool.or_false, Bool.false_or, Bool.or_true, Bool.true_or, Bool.not_eq_true', Bool.not_eq_false', Bool.false_eq_true, Bool.true_eq_false, reduceCtorEq, true_implies, false_implies, forall_const, not_true_eq_false, not_false_eq_true, and_true, true_and, and_self, if_true, if_false, ite_true, ite_false, eq_self])
      walk_at "st"
      walk_at "st"
      refine ⟨fun d => ?_, fun d => ?_⟩
      · walk_at "st"
        exact ⟨_, _, _, _, rfl, by omega, by omega, hc.1, hc.2, fun _ => by omega⟩
      · walk_at "st"
        exact ⟨_, _, _, _, rfl, by omega, by omega, i2, j2, fun _ => by omega⟩
    · walk_at "st"; exact base
    · walk_at "st"; exact base
    · walk_at "st"; exact base
  rintro δ1 ⟨q1, q2, q3, x2, rfl, i1, j1, i2, j2, i3⟩
  walk_at "st"
  refine ⟨fun a => ?_, fun a => ?_⟩
  · walk_at "st"
    refine ⟨by omega, ?_⟩
    walk_at "st"
    refine ⟨sm_div (by omega) (sm_100 (by omega) hm), ?_⟩
    walk_at "st"
    refine k _ ⟨cs, q1, q2 / many, q3, p4 + 1, p5⟩ ⟨ic, il, i1, j1, Int.ediv_nonneg i2 h0, ?_, i3, by dsimp only; omega, by dsimp only; omega, i5, j5⟩ (Int.emod_nonneg _ (by omega)) (.inl (Int.emod_lt_of_pos _ (by omega)))
    exact Int.le_trans (Int.ediv_le_self _ i2) j2
  walk_at "st"
  walk_at "st"
  refine LZ_cut (J := fun δ => ∃ q3' b, δ = [some (1, .lst [.lst (cs.map cD), .int q1, .int q2, .int q3', .int (p4 + 1), .int p5]), some (0, .int many), x2, none, some (0, .int b), none, none] ∧ (0 < q3' → 1 ≤ q1) ∧ 0 ≤ b ∧ b ≤ 10 ^ 810) ?_ ?_
  · walk_at "st"
    refine ⟨fun b => ?_, fun b => ?_⟩
    · walk_at "st"
      have hq := i3 b
      have hlt : (q1 - 1).toNat < cs.length := by omega
      have e : (cs.map cD)[(q1 - 1).toNat]? = some (cD cs[(q1 - 1).toNat]) := by rw [List.getElem?_map, List.getElem?_eq_getElem hlt]; rfl
      have hc := ic _ (List.getElem_mem hlt)
      generalize cs[(q1 - 1).toNat] = cell at e hc
      (refine LZ_in ?_; simp only [atI_ge (show 0 ≤ q1 - 1 by omega), e, cD, LR_c, LR_n, RW_eBor, lnD_n, lnD_k, lnD_l, MG_d, mrg_n, mrg_0, mrg_f, mrg_l, mrg_o, mrg_on, nobV_fz, nob_int, nob_str, nob_bl, nob_non, nob_lst, nob_tup, nobL_n, nobL_c, nobL_a, nobL_i, nobL_s, Nat.reduceBEq, beq_self_eq_true, unb_non, unb_bl, unb_int, unb_str, unb_ty, unb_cls, unb_lst, unb_tup, unb_brw, unb_scr, unb_ins, unb_exc, items_brw, RW_ok, RW_exc, RW_stuck, RW_C, RW_var, RW_bin, RW_un, RW_vB, RW_T, RW_bAnd, RW_bOr, RW_bNot, RW_eAnd, RW_eOr, RW_eNot, RW_eIf, RW_aNil, RW_aCons, RW_gFz, RW_gDis, RW_eCall, RW_gCall, RW_fn1, RW_fn2, RW_fnL, dr_fz, dr_sl, frz_fz, frz_sl, frzs_nil, frzs_cons, RW_add, RW_sub, RW_lt, RW_le, RW_gt, RW_ge, RW_neg, RW_mul, RW_div, RW_mod, RW_pow, RW_eq0, RW_eq1, eqD_ii, eqD_ss, eqD_bb, Int.cast_ofNat_Int, RW_in, RW_is, RW_ix, getD_lst, getD_tup, atI_0, atI_1, atI_2, atI_3, atI_4, atI_5, RW_eFn, RW_gFn, RW_call, FW_nx, FW_nil, FW_break, FW_cont, FW_seq, FW_if, FW_expr, FW_ret, FW_retG, FW_retN, FW_put, FW_asg, FW_asgG, FW_asgT, FW_par, FW_sub, FW_store, FW_aug, FW_raise, FW_try, keepP, RW_rng1, RW_rng2, ints2_1, ints2_2, RW_rg1, RW_rg2, RW_gRg, RW_op1S, RW_lst, isN_non, isi_non_tuple, isi_non_list, isi_non_bool, isi_non_int, isi_non_str, isN_bl, isi_bl_tuple, isi_bl_list, isi_bl_bool, isi_bl_int, isi_bl_str, isN_int, isi_int_tuple, isi_int_list, isi_int_bool, isi_int_int, isi_int_str, isN_str, isi_str_tuple, isi_str_list, isi_str_bool, isi_str_int, isi_str_str, isN_lst, isi_lst_tuple, isi_lst_list, isi_lst_bool, isi_lst_int, isi_lst_str, isN_tup, isi_tup_tuple, isi_tup_list, isi_tup_bool, isi_tup_int, isi_tup_str, RW_seq, startD_eq, startA, setT_nm, setT_tp, setN_nil, setN_cons, bindA, argD, pairsA, putM, ndup, mutsD, mutIdx, intD_int, intD_bl, absD_int, lenD_lst, lenD_tup, lenD_str, tupD_lst, tupD_tup, max2D_ii, min2D_ii, szl, items_lst, items_tup, RW_comp, RW_yes, wipeD, RW_addL, RW_addT, RW_addS, RW_iadd, RW_gCat, RW_gRep, RW_gRev, RW_zip, RW_enum, RW_enum2, stF, RW_oN, RW_oS, RW_sl, sliceD_lst, sliceD_tup, RW_mut, RW_mutF, isOwn, lm_app, ixN_l0, ixN_l1, ixN_l2, ixN_l3, ixN_l4, ixN_l5, List.reverse_cons, List.reverse_nil, List.getElem?_nil, Nat.reduceAdd, Nat.reduceLeDiff, Nat.reduceLT, Int.reduceLT, Int.reduceLE, Int.reduceAdd, Int.reduceSub, Int.reduceMul, Int.reduceNeg, Int.reduceEq, Int.reduceToNat, Nat.reduceEqDiff, List.replicate_succ, List.replicate_zero, List.cons_append, List.nil_append, List.getElem?_cons_zero, List.getElem?_cons_succ, List.set_cons_zero, List.set_cons_succ, List.length_cons, List.length_nil, List.map_cons, List.map_nil, List.contains_nil, List.contains_cons, Option.map_some, Option.bind_some, decide_eq_true_eq, decide_eq_false_iff_not, decide_true, decide_false, Bool.not_true, Bool.not_false, Bool.and_true, Bool.true_and, Bool.and_false, Bool.false_and, Bool.or_false, Bool.false_or, Bool.or_true, Bool.true_or, Bool.not_eq_true', Bool.not_eq_false', Bool.false_eq_true, Bool.true_eq_false, reduceCtorEq, true_implies, false_implies, forall_const, not_true_eq_false, not_false_eq_true, and_true, true_and, and_self, if_true, if_false, ite_true, ite_false, eq_self])
      exact ⟨_, _, rfl, fun _ => hq, hc.1, hc.2⟩
    · walk_at "st"
      exact ⟨q3, p5, rfl, i3, i5, j5⟩
  rintro δ1 ⟨q3', b, rfl, i3, ib, jb⟩
  walk_at "st"
  walk_at "st"
  refine LZ_cut (J := fun δ => ∃ v x5 x6, δ = [some (1, .lst [.lst (cs.map cD), .int q1, .int q2, .int q3', .int (p4 + 1), .int p5]), some (0, .int many), x2, some (0, .int v), some (0, .int b), x5, x6] ∧ 0 ≤ v) ?_ ?_
  · refine LZ_in ?_
    rw [FW_for]
    walk_at "ev"
    refine ⟨by decide, ?_⟩
    refine FW_inv (fun i δ => ∃ v sp x6, δ = [some (1, .lst [.lst (cs.map cD), .int q1, .int q2, .int q3', .int (p4 + 1), .int p5]), some (0, .int many), x2, some (0, .int v), some (0, .int b), some (0, .int sp), x6] ∧ 0 ≤ v ∧ v < (288230376151711744 : Int) ^ i ∧ 0 ≤ sp ∧ sp ≤ (288230376151711744 : Int) ^ i) (k := 0) ⟨0, 1, none, rfl, by omega, by decide, by omega, by decide⟩ ?_ ?_
    · rintro i d δ hd ⟨v, sp, x6, rfl, v0, v1, s0, s1⟩
      rw [Nat.zero_add] at *
      obtain ⟨rfl, hi⟩ := rangeD_at hd
      refine ⟨_, rfl, ?_⟩
      have hi40 : i ≤ 40 := by omega
      have hp : (288230376151711744 : Int) ^ i ≤ 10 ^ 900 := powB ⟨i, by omega⟩
      have hs : (288230376151711744 : Int) ^ (i + 1) = (288230376151711744 : Int) ^ i * 288230376151711744 := Int.pow_succ _ _
      have hp0 : 0 < (288230376151711744 : Int) ^ i := Int.pow_pos (by decide)
      rw [hs]
      generalize (288230376151711744 : Int) ^ i = W at v1 s1 hp hp0
      walk_at "st"
      refine ⟨sm_mul (sm_100 (by omega) hm) (sm_100 (by decide) (by decide)), fun c => ?_, fun c => ?_⟩
      · walk_at "st"
        refine ⟨sm_mul (sm_800 v0 (by omega)) (sm_100 (by decide) (by decide)), sm_mul (sm_100 (by decide) (by decide)) (sm_100 (by omega) (by omega)), ?_⟩
        refine mix_spec (sm_810 ib jb) (sm_100 (by omega) (by omega)) (sm_100 (by omega) (by omega)) fun r r0 r1 => ?_
        walk_at "ev"
        walk_at "st"
        refine ⟨sm_mul (sm_800 s0 (by omega)) (sm_100 (by decide) (by decide)), ?_⟩
        exact ⟨_, _, _, rfl, by omega, by omega, by omega, by omega⟩
      · walk_at "st"
        exact ⟨_, _, _, rfl, by omega, by omega, by omega, by omega⟩
    · rintro δ ⟨v, sp, x6, rfl, v0, _⟩
      exact ⟨v, _, x6, rfl, v0⟩
  rintro δ1 ⟨v, x5, x6, rfl, v0⟩
  walk_at "st"
  refine ⟨by omega, ?_⟩
  exact k _ ⟨cs, q1, q2, q3', p4 + 1, p5⟩ ⟨ic, il, i1, j1, i2, j2, i3, by dsimp only; omega, by dsimp only; omega, i5, j5⟩ (Int.emod_nonneg _ (by omega)) (.inl (Int.emod_lt_of_pos _ (by omega)))
theorem store_spec {ns : List Int} (hl : ns.length ≤ 63) (k : ∀ s, Inv 0 s → G (stD s) []) : MW (m_law_store [.scr ns]) Q G E := by
  refine MW_run (t := t_law_store) ?_
  delta t_law_store
  walk_at "st"
  refine ⟨by decide +kernel, ?_⟩
  refine LZ_cut (J := fun δ => ∃ lim x2, δ = [some (0, .scr ns), some (0, .int lim), x2, none, none, none, none, none, none] ∧ 0 < lim ∧ lim ≤ 10 ^ 800) ?_ ?_
  · refine LZ_in ?_
    rw [FW_for]
    walk_at "ev"
    refine ⟨by decide, ?_⟩
    rw [show rangeD 0 4 = [.int 0, .int 1, .int 2, .int 3] from rfl]
    refine LZ_in ?_
    rw [FW_forC]
    walk_at "st"
    refine ⟨by decide +kernel, ?_⟩
    refine LZ_in ?_
    rw [FW_forC]
    walk_at "st"
    refine ⟨by decide +kernel, ?_⟩
    refine LZ_in ?_
    rw [FW_forC]
    walk_at "st"
    refine ⟨by decide +kernel, ?_⟩
    refine LZ_in ?_
    rw [FW_forC]
    walk_at "st"
    refine ⟨by decide +kernel, ?_⟩
    refine LZ_in ?_
    rw [FW_forN]
    exact ⟨_, _, rfl, by decide +kernel, by decide +kernel⟩
  rintro δ1 ⟨lim, x2, rfl, l0, l1⟩
  walk_at "st"
  walk_at "st"
  obtain ⟨js, ej, hj⟩ := scr_cut ns none (some 63)
  refine LZ_cut (J := fun δ => ∃ (cs : List (Int × Int)) (seed : Int) (x5 x6 x7 x8 : Option (Nat × D)), δ = [some (0, .scr ns), some (0, .int lim), x2, some (1, .lst (cs.map cD)), some (0, .int seed), x5, x6, x7, x8] ∧ cs.length ≤ 1000 ∧ 0 ≤ seed ∧ seed ≤ 10 ^ 810 ∧ ∀ c ∈ cs, 0 ≤ c.2 ∧ c.2 ≤ 10 ^ 810) ?_ ?_
  · refine LZ_in ?_
    rw [FW_for]
    simp only [ej, LR_c, LR_n, RW_eBor, lnD_n, lnD_k, lnD_l, MG_d, mrg_n, mrg_0, mrg_f, mrg_l, mrg_o, mrg_on, nobV_fz, nob_int, nob_str, nob_bl, nob_non, nob_lst, nob_tup, nobL_n, nobL_c, nobL_a, nobL_i, nobL_s, Nat.reduceBEq, beq_self_eq_true, unb_non, unb_bl, unb_int, unb_str, unb_ty, unb_cls, unb_lst, unb_tup, unb_brw, unb_scr, unb_ins, unb_exc, items_brw, RW_ok, RW_exc, RW_stuck, RW_C, RW_var, RW_bin, RW_un, RW_vB, RW_T, RW_bAnd, RW_bOr, RW_bNot, RW_eAnd, RW_eOr, RW_eNot, RW_eIf, RW_aNil, RW_aCons, RW_gFz, RW_gDis, RW_eCall, RW_gCall, RW_fn1, RW_fn2, RW_fnL, dr_fz, dr_sl, frz_fz, frz_sl, frzs_nil, frzs_cons, RW_add, RW_sub, RW_lt, RW_le, RW_gt, RW_ge, RW_neg, RW_mul, RW_div, RW_mod, RW_pow, RW_eq0, RW_eq1, eqD_ii, eqD_ss, eqD_bb, Int.cast_ofNat_Int, RW_in, RW_is, RW_ix, getD_lst, getD_tup, atI_0, atI_1, atI_2, atI_3, atI_4, atI_5, RW_eFn, RW_gFn, RW_call, FW_nx, FW_nil, FW_break, FW_cont, FW_seq, FW_if, FW_expr, FW_ret, FW_retG, FW_retN, FW_put, FW_asg, FW_asgG, FW_asgT, FW_par, FW_sub, FW_store, FW_aug, FW_raise, FW_try, keepP, RW_rng1, RW_rng2, ints2_1, ints2_2, RW_rg1, RW_rg2, RW_gRg, RW_op1S, RW_lst, isN_non, isi_non_tuple, isi_non_list, isi_non_bool, isi_non_int, isi_non_str, isN_bl, isi_bl_tuple, isi_bl_list, isi_bl_bool, isi_bl_int, isi_bl_str, isN_int, isi_int_tuple, isi_int_list, isi_int_bool, isi_int_int, isi_int_str, isN_str, isi_str_tuple, isi_str_list, isi_str_bool, isi_str_int, isi_str_str, isN_lst, isi_lst_tuple, isi_lst_list, isi_lst_bool, isi_lst_int, isi_lst_str, isN_tup, isi_tup_tuple, isi_tup_list, isi_tup_bool, isi_tup_int, isi_tup_str, RW_seq, startD_eq, startA, setT_nm, setT_tp, setN_nil, setN_cons, bindA, argD, pairsA, putM, ndup, mutsD, mutIdx, intD_int, intD_bl, absD_int, lenD_lst, lenD_tup, lenD_str, tupD_lst, tupD_tup, max2D_ii, min2D_ii, szl, items_lst, items_tup, RW_comp, RW_yes, wipeD, RW_addL, RW_addT, RW_addS, RW_iadd, RW_gCat, RW_gRep, RW_gRev, RW_zip, RW_enum, RW_enum2, stF, RW_oN, RW_oS, RW_sl, sliceD_lst, sliceD_tup, RW_mut, RW_mutF, isOwn, lm_app, ixN_l0, ixN_l1, ixN_l2, ixN_l3, ixN_l4, ixN_l5, List.reverse_cons, List.reverse_nil, List.getElem?_nil, Nat.reduceAdd, Nat.reduceLeDiff, Nat.reduceLT, Int.reduceLT, Int.reduceLE, Int.reduceAdd, Int.reduceSub, Int.reduceMul, Int.reduceNeg, Int.reduceEq, Int.reduceToNat, Nat.reduceEqDiff, List.replicate_succ, List.replicate_zero, List.cons_append, List.nil_append, List.getElem?_cons_zero, List.getElem?_cons_succ, List.set_cons_zero, List.set_cons_succ, List.length_cons, List.length_nil, List.map_cons, List.map_nil, List.contains_nil, List.contains_cons, Option.map_some, Option.bind_some, decide_eq_true_eq, decide_eq_false_iff_not, decide_true, decide_false, Bool.not_true, Bool.not_false, Bool.and_true, Bool.true_and, Bool.and_false, Bool.false_and, Bool.or_false, Bool.false_or, Bool.or_true, Bool.true_or, Bool.not_eq_true', Bool.not_eq_false', Bool.false_eq_true, Bool.true_eq_false, reduceCtorEq, true_implies, false_implies, forall_const, not_true_eq_false, not_false_eq_true, and_true, true_and, and_self, if_true, if_false, ite_true, ite_false, eq_self]
    refine FW_inv (fun i δ => ∃ (cs : List (Int × Int)) (seed : Int) (x5 x6 x7 x8 : Option (Nat × D)), δ = [some (0, .scr ns), some (0, .int lim), x2, some (1, .lst (cs.map cD)), some (0, .int seed), x5, x6, x7, x8] ∧ cs.length ≤ i ∧ 0 ≤ seed ∧ seed ≤ 10 ^ 810 ∧ ∀ c ∈ cs, 0 ≤ c.2 ∧ c.2 ≤ 10 ^ 810) (k := 0) ⟨[], 11, _, _, _, _, rfl, by simp, by omega, by decide +kernel, by simp⟩ ?_ ?_
    · rintro i d δ hd ⟨cs, seed, x5, x6, x7, x8, rfl, hc, s0, s1, hcs⟩
      rw [Nat.zero_add] at *
      obtain ⟨hi, _⟩ := List.getElem?_eq_some_iff.mp hd
      rw [List.length_map] at hi
      rw [List.getElem?_map] at hd
      cases q : js[i]? with
      | none => rw [q] at hd; cases hd
      | some z =>
        rw [q] at hd
        cases hd
        refine ⟨_, rfl, ?_⟩
        walk_at "st"
        walk_at "st"
        refine ⟨by decide +kernel, ?_⟩
        generalize (if z < 0 then -z else z) = size0
        walk_at "st"
        refine ⟨l0, ?_⟩
        have a0 := Int.emod_nonneg size0 (show lim ≠ 0 by omega)
        have a1 := Int.emod_lt_of_pos size0 l0
        generalize size0 % lim = size at a0 a1
        have k810 : (2 : Int) * 10 ^ 800 + 1 ≤ 10 ^ 810 := by decide +kernel
        walk_at "st"
        refine ⟨sm_mul (sm_100 (by decide) (by decide)) (sm_810 a0 (by omega)), ?_⟩
        have b0 : 0 ≤ (if z < 0 then (1 : Int) else 0) ∧ (if z < 0 then (1 : Int) else 0) ≤ 1 := by split <;> omega
        generalize (if z < 0 then (1 : Int) else 0) = sg at b0 ⊢
        walk_at "st"
        refine mix_spec (sm_810 s0 s1) (sm_100 (by omega) (by omega)) (sm_100 (by omega) (by simp only [List.length_map]; omega)) fun r r0 r1 => ?_
        walk_at "ev"
        walk_at "st"
        refine ⟨fun hgr => ?_, fun hgr => ?_⟩
        · walk_at "st"
          rw [if_pos (by rw [List.length_map]; omega)]
          dsimp only
          refine ⟨cs ++ [(1, size)], r, _, _, _, _, by rw [List.map_append]; rfl, by rw [List.length_append]; simp; omega, r0, Int.le_trans (Int.le_of_lt r1) (by decide +kernel), ?_⟩
          intro c hc'
          rcases List.mem_append.mp hc' with h | h
          · exact hcs c h
          · cases List.mem_singleton.mp h
            exact ⟨a0, by dsimp only; omega⟩
        · walk_at "st"
          rw [if_pos (by rw [List.length_map]; omega)]
          dsimp only
          refine ⟨cs ++ [(0, 2 * size + sg)], r, _, _, _, _, by rw [List.map_append]; rfl, by rw [List.length_append]; simp; omega, r0, Int.le_trans (Int.le_of_lt r1) (by decide +kernel), ?_⟩
          intro c hc'
          rcases List.mem_append.mp hc' with h | h
          · exact hcs c h
          · cases List.mem_singleton.mp h
            exact ⟨by dsimp only; omega, by dsimp only; omega⟩
    · rintro δ ⟨cs, seed, x5, x6, x7, x8, rfl, hc, r⟩
      refine ⟨cs, seed, x5, x6, x7, x8, rfl, ?_, r⟩
      rw [List.length_map] at hc
      omega
  rintro δ1 ⟨cs, seed, x5, x6, x7, x8, rfl, hc, s0, s1, hcs⟩
  walk_at "st"
  exact k ⟨cs, 0, 0, 0, 0, seed⟩ ⟨hcs, hc, by dsimp only; omega, by dsimp only; omega, by dsimp only; omega, (by show (0 : Int) ≤ 10 ^ 810; decide +kernel), by dsimp only; omega, by dsimp only; omega, by dsimp only; omega, s0, s1⟩
end
end LK

set_option Elab.async false
set_option linter.all false
set_option maxRecDepth 10000
set_option exponentiation.threshold 4000
namespace LK
open PySem L2 DL
/-! ### _law_same of a thing with itself -/
section
variable {Q G : D → List D → Prop} {E : Str → List Str → List D → List D → Prop}
def kids : D → List D
  | .lst xs => xs
  | .tup xs => xs
  | _ => []
mutual
def clean : D → Bool
  | .non => true
  | .bl _ => true
  | .int _ => true
  | .str _ => true
  | .lst xs => cleanL xs
  | .tup xs => cleanL xs
  | _ => false
def cleanL : List D → Bool
  | [] => true
  | d :: ds => clean d && cleanL ds
end
mutual
def dep : D → Nat
  | .lst xs => depL xs + 1
  | .tup xs => depL xs + 1
  | _ => 0
def depL : List D → Nat
  | [] => 0
  | d :: ds => max (dep d) (depL ds)
end
mutual
def nod : D → Nat
  | .lst xs => nodL xs + 1
  | .tup xs => nodL xs + 1
  | _ => 1
def nodL : List D → Nat
  | [] => 0
  | d :: ds => nod d + nodL ds
end
theorem cleanL_mem : ∀ {L : List D}, cleanL L = true → ∀ d ∈ L, clean d = true
  | [], _, d, h => by simp at h
  | x :: L, h, d, hd => by
    unfold cleanL at h
    obtain ⟨h1, h2⟩ := Bool.and_eq_true_iff.mp h
    rcases List.mem_cons.mp hd with rfl | hd
    · exact h1
    · exact cleanL_mem h2 d hd
theorem cleanL_app : ∀ {L M : List D}, cleanL L = true → cleanL M = true → cleanL (L ++ M) = true
  | [], M, _, h => h
  | x :: L, M, h, h' => by
    unfold cleanL at h
    obtain ⟨h1, h2⟩ := Bool.and_eq_true_iff.mp h
    show (clean x && cleanL (L ++ M)) = true
    rw [h1, cleanL_app h2 h']
    rfl
theorem clean_kids {d : D} (h : clean d = true) : cleanL (kids d) = true := by
  cases d with
  | lst xs => unfold clean at h; exact h
  | tup xs => unfold clean at h; exact h
  | _ => rfl
def nxt (L : List D) : List D := L.flatMap kids
theorem nxt_cons (d : D) (L : List D) : nxt (d :: L) = kids d ++ nxt L := List.flatMap_cons
theorem clean_nxt : ∀ {L : List D}, cleanL L = true → cleanL (nxt L) = true
  | [], _ => rfl
  | d :: L, h => by
    unfold cleanL at h
    obtain ⟨h1, h2⟩ := Bool.and_eq_true_iff.mp h
    rw [nxt_cons]
    exact cleanL_app (clean_kids h1) (clean_nxt h2)
theorem depL_app : ∀ {L M : List D}, depL (L ++ M) = max (depL L) (depL M)
  | [], M => by simp [depL]
  | x :: L, M => by
    show max (dep x) (depL (L ++ M)) = max (max (dep x) (depL L)) (depL M)
    rw [depL_app]; omega
theorem dep_kids (d : D) : depL (kids d) ≤ dep d - 1 := by
  cases d with
  | lst xs => show depL xs ≤ depL xs + 1 - 1; omega
  | tup xs => show depL xs ≤ depL xs + 1 - 1; omega
  | _ => exact Nat.zero_le _
theorem dep_nxt : ∀ (L : List D), depL (nxt L) ≤ depL L - 1
  | [] => Nat.zero_le _
  | d :: L => by
    rw [nxt_cons, depL_app]
    have a := dep_kids d
    have b := dep_nxt L
    show _ ≤ max (dep d) (depL L) - 1
    omega
theorem nodL_app : ∀ {L M : List D}, nodL (L ++ M) = nodL L + nodL M
  | [], M => by simp [nodL]
  | x :: L, M => by
    show nod x + nodL (L ++ M) = nod x + nodL L + nodL M
    rw [nodL_app]; omega
theorem nod_kids (d : D) : nodL (kids d) ≤ nod d := by
  cases d with
  | lst xs => show nodL xs ≤ nodL xs + 1; omega
  | tup xs => show nodL xs ≤ nodL xs + 1; omega
  | _ => exact Nat.zero_le _
theorem nod_nxt : ∀ (L : List D), nodL (nxt L) ≤ nodL L
  | [] => Nat.le_refl _
  | d :: L => by
    rw [nxt_cons, nodL_app]
    have a := nod_kids d
    have b := nod_nxt L
    show _ ≤ nod d + nodL L
    omega
theorem nod_pos (d : D) : 1 ≤ nod d := by
  cases d with
  | lst xs => show 1 ≤ nodL xs + 1; omega
  | tup xs => show 1 ≤ nodL xs + 1; omega
  | _ => exact Nat.le_refl _
theorem len_nod : ∀ (L : List D), L.length ≤ nodL L
  | [] => Nat.le_refl _
  | d :: L => by
    have a := nod_pos d
    have b := len_nod L
    rw [List.length_cons]
    show _ ≤ nod d + nodL L
    omega
def levs (d : D) : Nat → List D
  | 0 => [d]
  | n + 1 => nxt (levs d n)
theorem levs_clean {d : D} (h : clean d = true) : ∀ n, cleanL (levs d n) = true
  | 0 => by show (clean d && true) = true; rw [h]; rfl
  | n + 1 => clean_nxt (levs_clean h n)
theorem levs_dep {d : D} : ∀ n, depL (levs d n) ≤ dep d - n
  | 0 => by show max (dep d) 0 ≤ _; omega
  | n + 1 => by
    have a := dep_nxt (levs d n)
    have b := levs_dep (d := d) n
    show depL (nxt (levs d n)) ≤ _
    omega
theorem levs_nod {d : D} : ∀ n, nodL (levs d n) ≤ nod d
  | 0 => by show nod d + 0 ≤ _; omega
  | n + 1 => Nat.le_trans (nod_nxt _) (levs_nod n)
theorem nxt_atoms : ∀ {L : List D}, cleanL L = true → depL L = 0 → nxt L = []
  | [], _, _ => rfl
  | d :: L, h, h0 => by
    unfold cleanL at h
    obtain ⟨h1, h2⟩ := Bool.and_eq_true_iff.mp h
    have h0 : max (dep d) (depL L) = 0 := h0
    rw [nxt_cons, nxt_atoms h2 (by omega)]
    cases d with
    | lst xs => have : depL xs + 1 = 0 := by have z : max (depL xs + 1) (depL L) = 0 := h0; omega
                omega
    | tup xs => have : depL xs + 1 = 0 := by have z : max (depL xs + 1) (depL L) = 0 := h0; omega
                omega
    | _ => rfl
theorem levs_end {d : D} (h : clean d = true) (hd : dep d ≤ 8) : levs d 9 = [] := by
  have a := levs_dep (d := d) 8
  have e : levs d 9 = nxt (levs d 8) := rfl
  rw [e]
  exact nxt_atoms (levs_clean h 8) (by omega)
def pr (d : D) : D := .tup [d, d]
/-- what is no list and no tuple -/
def atom : D → Bool
  | .lst _ => false
  | .tup _ => false
  | _ => true
theorem leaf_spec {d : D} (h : clean d = true) (ha : atom d = true) (q : Q (.bl true) []) : MW (m_law_same_leaf [d, d]) Q G E := by
  refine MW_run (t := t_law_same_leaf) ?_
  delta t_law_same_leaf
  cases d with
  | non =>
    (repeat walk_at "st")
    exact q
  | bl b =>
    (repeat walk_at "st")
    exact q
  | int i =>
    (repeat walk_at "st")
    exact q
  | str x =>
    (repeat walk_at "st")
    exact q
  | lst xs => cases ha
  | tup xs => cases ha
  | _ => cases h
theorem nxt_take {L : List D} {i : Nat} {x : D} (h : L[i]? = some x) : nxt (L.take (i + 1)) = nxt (L.take i) ++ kids x := by
  unfold nxt
  rw [List.take_add_one, h, List.flatMap_append]
  show _ ++ (kids x ++ []) = _
  rw [List.append_nil]
theorem nodL_take : ∀ (L : List D) (i : Nat), nodL (L.take i) ≤ nodL L
  | L, 0 => by rw [List.take_zero]; exact Nat.zero_le _
  | [], i + 1 => by rw [List.take_nil]; exact Nat.le_refl _
  | d :: L, i + 1 => by
    rw [List.take_succ_cons]
    show nod d + nodL (L.take i) ≤ nod d + nodL L
    have := nodL_take L i
    omega
theorem items_pr {L : List D} {i : Nat} {d : D} (h : (L.map pr)[i]? = some d) : ∃ x, L[i]? = some x ∧ d = pr x := by
  rw [List.getElem?_map] at h
  cases q : L[i]? with
  | none => rw [q] at h; cases h
  | some x => rw [q] at h; cases h; exact ⟨x, rfl, rfl⟩
theorem lv_e {L : List D} {i : Nat} {x : D} (h : L[i]? = some x) (hc : cleanL L = true) : clean x = true := cleanL_mem hc x (List.mem_of_getElem? h)
/-- the pairs of the kids, one behind another -/
theorem kids_for {x y z u : Option (Nat × D)} {c : D} {base cs : List D} {v : Option (Nat × D)} (hb : base.length + cs.length ≤ 1000000) (ht : c = .lst cs ∨ c = .tup cs) {nx : DSt → Prop} {rt : Vl → DSt → Prop} {rg : D → DSt → Prop} {bk ct : DSt → Prop} {ex : XE}
    (q : ∀ w, nx [x, y, z, u, some (1, .lst ((base ++ cs).map pr)), some (0, pr c), w]) :
    LZ (sFor (.nm 6) (iRng rngF1 (aCons (eCall (fn1 lenD) (aCons (eBin opIx (eVar 5) (eC (.int 1))) aNil)) aNil)) (sExpr (eMut lmApp (eVar 4) (aCons (gFz (gDis .tup (aCons (eBin opIx (eBin opIx (eVar 5) (eC (.int 0))) (eVar 6)) (aCons (eBin opIx (eBin opIx (eVar 5) (eC (.int 1))) (eVar 6)) aNil)))) aNil))))
      [x, y, z, u, some (1, .lst (base.map pr)), some (0, pr c), v] nx rt rg bk ct ex := by
  have hit : getD? (unb c) = atI cs := by
    funext i
    rcases ht with rfl | rfl <;> rfl
  have hl : lenD (unb c) = some (.int (cs.length : Int)) := by rcases ht with rfl | rfl <;> rfl
  obtain ⟨n, hn⟩ : ∃ n : Int, n = (cs.length : Int) := ⟨_, rfl⟩
  rw [← hn] at hl
  refine LZ_in ?_
  rw [FW_for]
  simp only [pr, hl, LR_c, LR_n, RW_eBor, lnD_n, lnD_k, lnD_l, MG_d, mrg_n, mrg_0, mrg_f, mrg_l, mrg_o, mrg_on, nobV_fz, nob_int, nob_str, nob_bl, nob_non, nob_lst, nob_tup, nobL_n, nobL_c, nobL_a, nobL_i, nobL_s, Nat.reduceBEq, beq_self_eq_true, unb_non, unb_bl, unb_int, unb_str, unb_ty, unb_cls, unb_lst, unb_tup, unb_brw, unb_scr, unb_ins, unb_exc, items_brw, RW_ok, RW_exc, RW_stuck, RW_C, RW_var, RW_bin, RW_un, RW_vB, RW_T, RW_bAnd, RW_bOr, RW_bNot, RW_eAnd, RW_eOr, RW_eNot, RW_eIf, RW_aNil, RW_aCons, RW_gFz, RW_gDis, RW_eCall, RW_gCall, RW_fn1, RW_fn2, RW_fnL, dr_fz, dr_sl, frz_fz, frz_sl, frzs_nil, frzs_cons, RW_add, RW_sub, RW_lt, RW_le, RW_gt, RW_ge, RW_neg, RW_mul, RW_div, RW_mod, RW_pow, RW_eq0, RW_eq1, eqD_ii, eqD_ss, eqD_bb, Int.cast_ofNat_Int, RW_in, RW_is, RW_ix, getD_lst, getD_tup, atI_0, atI_1, atI_2, atI_3, atI_4, atI_5, RW_eFn, RW_gFn, RW_call, FW_nx, FW_nil, FW_break, FW_cont, FW_seq, FW_if, FW_expr, FW_ret, FW_retG, FW_retN, FW_put, FW_asg, FW_asgG, FW_asgT, FW_par, FW_sub, FW_store, FW_aug, FW_raise, FW_try, keepP, RW_rng1, RW_rng2, ints2_1, ints2_2, RW_rg1, RW_rg2, RW_gRg, RW_op1S, RW_lst, isN_non, isi_non_tuple, isi_non_list, isi_non_bool, isi_non_int, isi_non_str, isN_bl, isi_bl_tuple, isi_bl_list, isi_bl_bool, isi_bl_int, isi_bl_str, isN_int, isi_int_tuple, isi_int_list, isi_int_bool, isi_int_int, isi_int_str, isN_str, isi_str_tuple, isi_str_list, isi_str_bool, isi_str_int, isi_str_str, isN_lst, isi_lst_tuple, isi_lst_list, isi_lst_bool, isi_lst_int, isi_lst_str, isN_tup, isi_tup_tuple, isi_tup_list, isi_tup_bool, isi_tup_int, isi_tup_str, RW_seq, startD_eq, startA, setT_nm, setT_tp, setN_nil, setN_cons, bindA, argD, pairsA, putM, ndup, mutsD, mutIdx, intD_int, intD_bl, absD_int, lenD_lst, lenD_tup, lenD_str, tupD_lst, tupD_tup, max2D_ii, min2D_ii, szl, items_lst, items_tup, RW_comp, RW_yes, wipeD, RW_addL, RW_addT, RW_addS, RW_iadd, RW_gCat, RW_gRep, RW_gRev, RW_zip, RW_enum, RW_enum2, stF, RW_oN, RW_oS, RW_sl, sliceD_lst, sliceD_tup, RW_mut, RW_mutF, isOwn, lm_app, ixN_l0, ixN_l1, ixN_l2, ixN_l3, ixN_l4, ixN_l5, List.reverse_cons, List.reverse_nil, List.getElem?_nil, Nat.reduceAdd, Nat.reduceLeDiff, Nat.reduceLT, Int.reduceLT, Int.reduceLE, Int.reduceAdd, Int.reduceSub, Int.reduceMul, Int.reduceNeg, Int.reduceEq, Int.reduceToNat, Nat.reduceEqDiff, List.replicate_succ, List.replicate_zero, List.cons_append, List.nil_append, List.getElem?_cons_zero, List.getElem?_cons_succ, List.set_cons_zero, List.set_cons_succ, List.length_cons, List.length_nil, List.map_cons, List.map_nil, List.contains_nil, List.contains_cons, Option.map_some, Option.bind_some, decide_eq_true_eq, decide_eq_false_iff_not, decide_true, decide_false, Bool.not_true, Bool.not_false, Bool.and_true, Bool.true_and, Bool.and_false, Bool.false_and, Bool.or_false, Bool.false_or, Bool.or_true, Bool.true_or, Bool.not_eq_true', Bool.not_eq_false', Bool.false_eq_true, Bool.true_eq_false, reduceCtorEq, true_implies, false_implies, forall_const, not_true_eq_false, not_false_eq_true, and_true, true_and, and_self, if_true, if_false, ite_true, ite_false, eq_self]
  have hs : smallI n = true := by unfold smallI; rw [Bool.and_eq_true]; exact ⟨decide_eq_true (by omega), decide_eq_true (by omega)⟩
  refine ⟨hs, ?_⟩
  refine FW_inv (fun i δ => ∃ w, δ = [x, y, z, u, some (1, .lst ((base ++ cs.take i).map pr)), some (0, pr c), w]) (k := 0) ⟨v, by rw [List.take_zero, List.append_nil]; rfl⟩ ?_ ?_
  · rintro i d δ hd ⟨w, rfl⟩
    rw [Nat.zero_add] at *
    obtain ⟨rfl, hi⟩ := rangeD_at hd
    have hi : i < cs.length := by omega
    refine ⟨_, rfl, ?_⟩
    (refine LZ_in ?_; simp only [pr, hit, LR_c, LR_n, RW_eBor, lnD_n, lnD_k, lnD_l, MG_d, mrg_n, mrg_0, mrg_f, mrg_l, mrg_o, mrg_on, nobV_fz, nob_int, nob_str, nob_bl, nob_non, nob_lst, nob_tup, nobL_n, nobL_c, nobL_a, nobL_i, nobL_s, Nat.reduceBEq, beq_self_eq_true, unb_non, unb_bl, unb_int, unb_str, unb_ty, unb_cls, unb_lst, unb_tup, unb_brw, unb_scr, unb_ins, unb_exc, items_brw, RW_ok, RW_exc, RW_stuck, RW_C, RW_var, RW_bin, RW_un, RW_vB, RW_T, RW_bAnd, RW_bOr, RW_bNot, RW_eAnd, RW_eOr, RW_eNot, RW_eIf, RW_aNil, RW_aCons, RW_gFz, RW_gDis, RW_eCall, RW_gCall, RW_fn1, RW_fn2, RW_fnL, dr_fz, dr_sl, frz_fz, frz_sl, frzs_nil, frzs_cons, RW_add, RW_sub, RW_lt, RW_le, RW_gt, RW_ge, RW_neg, RW_mul, RW_div, RW_mod, RW_pow, RW_eq0, RW_eq1, eqD_ii, eqD_ss, eqD_bb, Int.cast_ofNat_Int, RW_in, RW_is, RW_ix, getD_lst, getD_tup, atI_0, atI_1, atI_2, atI_3, atI_4, atI_5, RW_eFn, RW_gFn, RW_call, FW_nx, FW_nil, FW_break, FW_cont, FW_seq, FW_if, FW_expr, FW_ret, FW_retG, FW_retN, FW_put, FW_asg, FW_asgG, FW_asgT, FW_par, FW_sub, FW_store, FW_aug, FW_raise, FW_try, keepP, RW_rng1, RW_rng2, ints2_1, ints2_2, RW_rg1, RW_rg2, RW_gRg, RW_op1S, RW_lst, isN_non, isi_non_tuple, isi_non_list, isi_non_bool, isi_non_int, isi_non_str, isN_bl, isi_bl_tuple, isi_bl_list, isi_bl_bool, isi_bl_int, isi_bl_str, isN_int, isi_int_tuple, isi_int_list, isi_int_bool, isi_int_int, isi_int_str, isN_str, isi_str_tuple, isi_str_list, isi_str_bool, isi_str_int, isi_str_str, isN_lst, isi_lst_tuple, isi_lst_list, isi_lst_bool, isi_lst_int, isi_lst_str, isN_tup, isi_tup_tuple, isi_tup_list, isi_tup_bool, isi_tup_int, isi_tup_str, RW_seq, startD_eq, startA, setT_nm, setT_tp, setN_nil, setN_cons, bindA, argD, pairsA, putM, ndup, mutsD, mutIdx, intD_int, intD_bl, absD_int, lenD_lst, lenD_tup, lenD_str, tupD_lst, tupD_tup, max2D_ii, min2D_ii, szl, items_lst, items_tup, RW_comp, RW_yes, wipeD, RW_addL, RW_addT, RW_addS, RW_iadd, RW_gCat, RW_gRep, RW_gRev, RW_zip, RW_enum, RW_enum2, stF, RW_oN, RW_oS, RW_sl, sliceD_lst, sliceD_tup, RW_mut, RW_mutF, isOwn, lm_app, ixN_l0, ixN_l1, ixN_l2, ixN_l3, ixN_l4, ixN_l5, List.reverse_cons, List.reverse_nil, List.getElem?_nil, Nat.reduceAdd, Nat.reduceLeDiff, Nat.reduceLT, Int.reduceLT, Int.reduceLE, Int.reduceAdd, Int.reduceSub, Int.reduceMul, Int.reduceNeg, Int.reduceEq, Int.reduceToNat, Nat.reduceEqDiff, List.replicate_succ, List.replicate_zero, List.cons_append, List.nil_append, List.getElem?_cons_zero, List.getElem?_cons_succ, List.set_cons_zero, List.set_cons_succ, List.length_cons, List.length_nil, List.map_cons, List.map_nil, List.contains_nil, List.contains_cons, Option.map_some, Option.bind_some, decide_eq_true_eq, decide_eq_false_iff_not, decide_true, decide_false, Bool.not_true, Bool.not_false, Bool.and_true, Bool.true_and, Bool.and_false, Bool.false_and, Bool.or_false, Bool.false_or, Bool.or_true, Bool.true_or, Bool.not_eq_true', Bool.not_eq_false', Bool.false_eq_true, Bool.true_eq_false, reduceCtorEq, true_implies, false_implies, forall_const, not_true_eq_false, not_false_eq_true, and_true, true_and, and_self, if_true, if_false, ite_true, ite_false, eq_self])
    rw [Int.zero_add, DL.atI_nat, List.getElem?_eq_getElem hi]
    walk_at "ev"
    rw [if_pos (by rw [List.length_map, List.length_append, List.length_take]; omega)]
    walk_at "ev"
    refine ⟨some (0, .int (i : Int)), ?_⟩
    rw [List.take_add_one, List.getElem?_eq_getElem hi, ← List.append_assoc]
    simp only [List.map_append, Option.toList, List.map_cons, List.map_nil, pr]
  · rintro δ ⟨w, rfl⟩
    rw [rangeD_len, Nat.zero_add, List.take_of_length_le (by omega)]
    exact q w
theorem same_spec {d : D} (hc : clean d = true) (hd : dep d ≤ 8) (hn : nod d ≤ 1000000) (q : Q (.bl true) []) : MW (m_law_same [d, d]) Q G E := by
  refine MW_run (t := t_law_same) ?_
  delta t_law_same
  walk_at "st"
  refine LZ_cut (J := fun δ => ∃ x3 x4 x5 x6, δ = [some (0, d), some (0, d), some (0, .lst []), x3, x4, x5, x6]) ?_ ?_
  · refine LZ_in ?_
    rw [FW_for]
    walk_at "ev"
    refine ⟨by decide, ?_⟩
    refine FW_inv (fun i δ => ∃ x3 x4 x5 x6, δ = [some (0, d), some (0, d), some (0, .lst ((levs d i).map pr)), x3, x4, x5, x6]) (k := 0) ⟨_, _, _, _, rfl⟩ ?_ ?_
    · rintro i dd δ hdd ⟨x3, x4, x5, x6, rfl⟩
      rw [Nat.zero_add] at *
      refine ⟨_, rfl, ?_⟩
      have cl := levs_clean hc i
      have nl := levs_nod (d := d) i
      have e : levs d (i + 1) = nxt (levs d i) := rfl
      rw [e]
      generalize levs d i = L at cl nl ⊢
      walk_at "st"
      refine LZ_cut (J := fun δ => ∃ x3 x5 x6, δ = [some (0, d), some (0, d), some (0, .lst (L.map pr)), x3, some (1, .lst ((nxt L).map pr)), x5, x6]) ?_ ?_
      · refine LZ_in ?_
        rw [FW_for]
        walk_at "ev"
        refine FW_inv (fun i δ => ∃ x3 x5 x6, δ = [some (0, d), some (0, d), some (0, .lst (L.map pr)), x3, some (1, .lst ((nxt (L.take i)).map pr)), x5, x6]) (k := 0) ⟨_, _, _, rfl⟩ ?_ ?_
        · rintro j dj δ hj ⟨x3, x5, x6, rfl⟩
          rw [Nat.zero_add] at *
          obtain ⟨x, hx, rfl⟩ := items_pr hj
          refine ⟨_, rfl, ?_⟩
          have cx := lv_e hx cl
          have bound : (nxt (L.take j)).length + (kids x).length ≤ 1000000 := by
            have a := len_nod (nxt (L.take (j + 1)))
            have b := nod_nxt (L.take (j + 1))
            have c := nodL_take L (j + 1)
            rw [nxt_take hx, List.length_append] at a
            rw [nxt_take hx] at b
            omega
          rw [nxt_take hx]
          have here : ∀ y : D, clean y = true → atom y = true → kids y = [] → ∀ A : List D, LZ (sIf (bOr (eT (eCall (fn2 isiD) (aCons (eBin opIx (eVar 5) (eC (.int 1))) (aCons (eC (.ty "tuple")) aNil)))) (eT (eCall (fn2 isiD) (aCons (eBin opIx (eVar 5) (eC (.int 1))) (aCons (eC (.ty "list")) aNil))))) sNil sNil) [] (fun _ => True) (fun _ _ => True) (fun _ _ => True) (fun _ => True) (fun _ => True) (fun _ _ _ _ => True) → True := fun _ _ _ _ _ _ => trivial
          clear here
          cases x with
          | lst cs =>
            (refine LZ_in ?_; simp only [pr, LR_c, LR_n, RW_eBor, lnD_n, lnD_k, lnD_l, MG_d, mrg_n, mrg_0, mrg_f, mrg_l, mrg_o, mrg_on, nobV_fz, nob_int, nob_str, nob_bl, nob_non, nob_lst, nob_tup, nobL_n, nobL_c, nobL_a, nobL_i, nobL_s, Nat.reduceBEq, beq_self_eq_true, unb_non, unb_bl, unb_int, unb_str, unb_ty, unb_cls, unb_lst, unb_tup, unb_brw, unb_scr, unb_ins, unb_exc, items_brw, RW_ok, RW_exc, RW_stuck, RW_C, RW_var, RW_bin, RW_un, RW_vB, RW_T, RW_bAnd, RW_bOr, RW_bNot, RW_eAnd, RW_eOr, RW_eNot, RW_eIf, RW_aNil, RW_aCons, RW_gFz, RW_gDis, RW_eCall, RW_gCall, RW_fn1, RW_fn2, RW_fnL, dr_fz, dr_sl, frz_fz, frz_sl, frzs_nil, frzs_cons, RW_add, RW_sub, RW_lt, RW_le, RW_gt, RW_ge, RW_neg, RW_mul, RW_div, RW_mod, RW_pow, RW_eq0, RW_eq1, eqD_ii, eqD_ss, eqD_bb, Int.cast_ofNat_Int, RW_in, RW_is, RW_ix, getD_lst, getD_tup, atI_0, atI_1, atI_2, atI_3, atI_4, atI_5, RW_eFn, RW_gFn, RW_call, FW_nx, FW_nil, FW_break, FW_cont, FW_seq, FW_if, FW_expr, FW_ret, FW_retG, FW_retN, FW_put, FW_asg, FW_asgG, FW_asgT, FW_par, FW_sub, FW_store, FW_aug, FW_raise, FW_try, keepP, RW_rng1, RW_rng2, ints2_1, ints2_2, RW_rg1, RW_rg2, RW_gRg, RW_op1S, RW_lst, isN_non, isi_non_tuple, isi_non_list, isi_non_bool, isi_non_int, isi_non_str, isN_bl, isi_bl_tuple, isi_bl_list, isi_bl_bool, isi_bl_int, isi_bl_str, isN_int, isi_int_tuple, isi_int_list, isi_int_bool, isi_int_int, isi_int_str, isN_str, isi_str_tuple, isi_str_list, isi_str_bool, isi_str_int, isi_str_str, isN_lst, isi_lst_tuple, isi_lst_list, isi_lst_bool, isi_lst_int, isi_lst_str, isN_tup, isi_tup_tuple, isi_tup_list, isi_tup_bool, isi_tup_int, isi_tup_str, RW_seq, startD_eq, startA, setT_nm, setT_tp, setN_nil, setN_cons, bindA, argD, pairsA, putM, ndup, mutsD, mutIdx, intD_int, intD_bl, absD_int, lenD_lst, lenD_tup, lenD_str, tupD_lst, tupD_tup, max2D_ii, min2D_ii, szl, items_lst, items_tup, RW_comp, RW_yes, wipeD, RW_addL, RW_addT, RW_addS, RW_iadd, RW_gCat, RW_gRep, RW_gRev, RW_zip, RW_enum, RW_enum2, stF, RW_oN, RW_oS, RW_sl, sliceD_lst, sliceD_tup, RW_mut, RW_mutF, isOwn, lm_app, ixN_l0, ixN_l1, ixN_l2, ixN_l3, ixN_l4, ixN_l5, List.reverse_cons, List.reverse_nil, List.getElem?_nil, Nat.reduceAdd, Nat.reduceLeDiff, Nat.reduceLT, Int.reduceLT, Int.reduceLE, Int.reduceAdd, Int.reduceSub, Int.reduceMul, Int.reduceNeg, Int.reduceEq, Int.reduceToNat, Nat.reduceEqDiff, List.replicate_succ, List.replicate_zero, List.cons_append, List.nil_append, List.getElem?_cons_zero, List.getElem?_cons_succ, List.set_cons_zero, List.set_cons_succ, List.length_cons, List.length_nil, List.map_cons, List.map_nil, List.contains_nil, List.contains_cons, Option.map_some, Option.bind_some, decide_eq_true_eq, decide_eq_false_iff_not, decide_true, decide_false, Bool.not_true, Bool.not_false, Bool.and_true, Bool.true_and, Bool.and_false, Bool.false_and, Bool.or_false, Bool.false_or, Bool.or_true, Bool.true_or, Bool.not_eq_true', Bool.not_eq_false', Bool.false_eq_true, Bool.true_eq_false, reduceCtorEq, true_implies, false_implies, forall_const, not_true_eq_false, not_false_eq_true, and_true, true_and, and_self, if_true, if_false, ite_true, ite_false, eq_self])
            (refine LZ_in ?_; simp only [pr, LR_c, LR_n, RW_eBor, lnD_n, lnD_k, lnD_l, MG_d, mrg_n, mrg_0, mrg_f, mrg_l, mrg_o, mrg_on, nobV_fz, nob_int, nob_str, nob_bl, nob_non, nob_lst, nob_tup, nobL_n, nobL_c, nobL_a, nobL_i, nobL_s, Nat.reduceBEq, beq_self_eq_true, unb_non, unb_bl, unb_int, unb_str, unb_ty, unb_cls, unb_lst, unb_tup, unb_brw, unb_scr, unb_ins, unb_exc, items_brw, RW_ok, RW_exc, RW_stuck, RW_C, RW_var, RW_bin, RW_un, RW_vB, RW_T, RW_bAnd, RW_bOr, RW_bNot, RW_eAnd, RW_eOr, RW_eNot, RW_eIf, RW_aNil, RW_aCons, RW_gFz, RW_gDis, RW_eCall, RW_gCall, RW_fn1, RW_fn2, RW_fnL, dr_fz, dr_sl, frz_fz, frz_sl, frzs_nil, frzs_cons, RW_add, RW_sub, RW_lt, RW_le, RW_gt, RW_ge, RW_neg, RW_mul, RW_div, RW_mod, RW_pow, RW_eq0, RW_eq1, eqD_ii, eqD_ss, eqD_bb, Int.cast_ofNat_Int, RW_in, RW_is, RW_ix, getD_lst, getD_tup, atI_0, atI_1, atI_2, atI_3, atI_4, atI_5, RW_eFn, RW_gFn, RW_call, FW_nx, FW_nil, FW_break, FW_cont, FW_seq, FW_if, FW_expr, FW_ret, FW_retG, FW_retN, FW_put, FW_asg, FW_asgG, FW_asgT, FW_par, FW_sub, FW_store, FW_aug, FW_raise, FW_try, keepP, RW_rng1, RW_rng2, ints2_1, ints2_2, RW_rg1, RW_rg2, RW_gRg, RW_op1S, RW_lst, isN_non, isi_non_tuple, isi_non_list, isi_non_bool, isi_non_int, isi_non_str, isN_bl, isi_bl_tuple, isi_bl_list, isi_bl_bool, isi_bl_int, isi_bl_str, isN_int, isi_int_tuple, isi_int_list, isi_int_bool, isi_int_int, isi_int_str, isN_str, isi_str_tuple, isi_str_list, isi_str_bool, isi_str_int, isi_str_str, isN_lst, isi_lst_tuple, isi_lst_list, isi_lst_bool, isi_lst_int, isi_lst_str, isN_tup, isi_tup_tuple, isi_tup_list, isi_tup_bool, isi_tup_int, isi_tup_str, RW_seq, startD_eq, startA, setT_nm, setT_tp, setN_nil, setN_cons, bindA, argD, pairsA, putM, ndup, mutsD, mutIdx, intD_int, intD_bl, absD_int, lenD_lst, lenD_tup, lenD_str, tupD_lst, tupD_tup, max2D_ii, min2D_ii, szl, items_lst, items_tup, RW_comp, RW_yes, wipeD, RW_addL, RW_addT, RW_addS, RW_iadd, RW_gCat, RW_gRep, RW_gRev, RW_zip, RW_enum, RW_enum2, stF, RW_oN, RW_oS, RW_sl, sliceD_lst, sliceD_tup, RW_mut, RW_mutF, isOwn, lm_app, ixN_l0, ixN_l1, ixN_l2, ixN_l3, ixN_l4, ixN_l5, List.reverse_cons, List.reverse_nil, List.getElem?_nil, Nat.reduceAdd, Nat.reduceLeDiff, Nat.reduceLT, Int.reduceLT, Int.reduceLE, Int.reduceAdd, Int.reduceSub, Int.reduceMul, Int.reduceNeg, Int.reduceEq, Int.reduceToNat, Nat.reduceEqDiff, List.replicate_succ, List.replicate_zero, List.cons_append, List.nil_append, List.getElem?_cons_zero, List.getElem?_cons_succ, List.set_cons_zero, List.set_cons_succ, List.length_cons, List.length_nil, List.map_cons, List.map_nil, List.contains_nil, List.contains_cons, Option.map_some, Option.bind_some, decide_eq_true_eq, decide_eq_false_iff_not, decide_true, decide_false, Bool.not_true, Bool.not_false, Bool.and_true, Bool.true_and, Bool.and_false, Bool.false_and, Bool.or_false, Bool.false_or, Bool.or_true, Bool.true_or, Bool.not_eq_true', Bool.not_eq_false', Bool.false_eq_true, Bool.true_eq_false, reduceCtorEq, true_implies, false_implies, forall_const, not_true_eq_false, not_false_eq_true, and_true, true_and, and_self, if_true, if_false, ite_true, ite_false, eq_self])
            (repeat walk_at "st")
            refine kids_for (c := .lst cs) bound (.inl rfl) fun w => ?_
            exact ⟨_, _, _, rfl⟩
          | tup cs =>
            (refine LZ_in ?_; simp only [pr, LR_c, LR_n, RW_eBor, lnD_n, lnD_k, lnD_l, MG_d, mrg_n, mrg_0, mrg_f, mrg_l, mrg_o, mrg_on, nobV_fz, nob_int, nob_str, nob_bl, nob_non, nob_lst, nob_tup, nobL_n, nobL_c, nobL_a, nobL_i, nobL_s, Nat.reduceBEq, beq_self_eq_true, unb_non, unb_bl, unb_int, unb_str, unb_ty, unb_cls, unb_lst, unb_tup, unb_brw, unb_scr, unb_ins, unb_exc, items_brw, RW_ok, RW_exc, RW_stuck, RW_C, RW_var, RW_bin, RW_un, RW_vB, RW_T, RW_bAnd, RW_bOr, RW_bNot, RW_eAnd, RW_eOr, RW_eNot, RW_eIf, RW_aNil, RW_aCons, RW_gFz, RW_gDis, RW_eCall, RW_gCall, RW_fn1, RW_fn2, RW_fnL, dr_fz, dr_sl, frz_fz, frz_sl, frzs_nil, frzs_cons, RW_add, RW_sub, RW_lt, RW_le, RW_gt, RW_ge, RW_neg, RW_mul, RW_div, RW_mod, RW_pow, RW_eq0, RW_eq1, eqD_ii, eqD_ss, eqD_bb, Int.cast_ofNat_Int, RW_in, RW_is, RW_ix, getD_lst, getD_tup, atI_0, atI_1, atI_2, atI_3, atI_4, atI_5, RW_eFn, RW_gFn, RW_call, FW_nx, FW_nil, FW_break, FW_cont, FW_seq, FW_if, FW_expr, FW_ret, FW_retG, FW_retN, FW_put, FW_asg, FW_asgG, FW_asgT, FW_par, FW_sub, FW_store, FW_aug, FW_raise, FW_try, keepP, RW_rng1, RW_rng2, ints2_1, ints2_2, RW_rg1, RW_rg2, RW_gRg, RW_op1S, RW_lst, isN_non, isi_non_tuple, isi_non_list, isi_non_bool, isi_non_int, isi_non_str, isN_bl, isi_bl_tuple, isi_bl_list, isi_bl_bool, isi_bl_int, isi_bl_str, isN_int, isi_int_tuple, isi_int_list, isi_int_bool, isi_int_int, isi_int_str, isN_str, isi_str_tuple, isi_str_list, isi_str_bool, isi_str_int, isi_str_str, isN_lst, isi_lst_tuple, isi_lst_list, isi_lst_bool, isi_lst_int, isi_lst_str, isN_tup, isi_tup_tuple, isi_tup_list, isi_tup_bool, isi_tup_int, isi_tup_str, RW_seq, startD_eq, startA, setT_nm, setT_tp, setN_nil, setN_cons, bindA, argD, pairsA, putM, ndup, mutsD, mutIdx, intD_int, intD_bl, absD_int, lenD_lst, lenD_tup, lenD_str, tupD_lst, tupD_tup, max2D_ii, min2D_ii, szl, items_lst, items_tup, RW_comp, RW_yes, wipeD, RW_addL, RW_addT, RW_addS, RW_iadd, RW_gCat, RW_gRep, RW_gRev, RW_zip, RW_enum, RW_enum2, stF, RW_oN, RW_oS, RW_sl, sliceD_lst, sliceD_tup, RW_mut, RW_mutF, isOwn, lm_app, ixN_l0, ixN_l1, ixN_l2, ixN_l3, ixN_l4, ixN_l5, List.reverse_cons, List.reverse_nil, List.getElem?_nil, Nat.reduceAdd, Nat.reduceLeDiff, Nat.reduceLT, Int.reduceLT, Int.reduceLE, Int.reduceAdd, Int.reduceSub, Int.reduceMul, Int.reduceNeg, Int.reduceEq, Int.reduceToNat, Nat.reduceEqDiff, List.replicate_succ, List.replicate_zero, List.cons_append, List.nil_append, List.getElem?_cons_zero, List.getElem?_cons_succ, List.set_cons_zero, List.set_cons_succ, List.length_cons, List.length_nil, List.map_cons, List.map_nil, List.contains_nil, List.contains_cons, Option.map_some, Option.bind_some, decide_eq_true_eq, decide_eq_false_iff_not, decide_true, decide_false, Bool.not_true, Bool.not_false, Bool.and_true, Bool.true_and, Bool.and_false, Bool.false_and, Bool.or_false, Bool.false_or, Bool.or_true, Bool.true_or, Bool.not_eq_true', Bool.not_eq_false', Bool.false_eq_true, Bool.true_eq_false, reduceCtorEq, true_implies, false_implies, forall_const, not_true_eq_false, not_false_eq_true, and_true, true_and, and_self, if_true, if_false, ite_true, ite_false, eq_self])
            (repeat walk_at "st")
            refine kids_for (c := .tup cs) bound (.inr rfl) fun w => ?_
            exact ⟨_, _, _, rfl⟩
          | non =>
            (refine LZ_in ?_; simp only [pr, LR_c, LR_n, RW_eBor, lnD_n, lnD_k, lnD_l, MG_d, mrg_n, mrg_0, mrg_f, mrg_l, mrg_o, mrg_on, nobV_fz, nob_int, nob_str, nob_bl, nob_non, nob_lst, nob_tup, nobL_n, nobL_c, nobL_a, nobL_i, nobL_s, Nat.reduceBEq, beq_self_eq_true, unb_non, unb_bl, unb_int, unb_str, unb_ty, unb_cls, unb_lst, unb_tup, unb_brw, unb_scr, unb_ins, unb_exc, items_brw, RW_ok, RW_exc, RW_stuck, RW_C, RW_var, RW_bin, RW_un, RW_vB, RW_T, RW_bAnd, RW_bOr, RW_bNot, RW_eAnd, RW_eOr, RW_eNot, RW_eIf, RW_aNil, RW_aCons, RW_gFz, RW_gDis, RW_eCall, RW_gCall, RW_fn1, RW_fn2, RW_fnL, dr_fz, dr_sl, frz_fz, frz_sl, frzs_nil, frzs_cons, RW_add, RW_sub, RW_lt, RW_le, RW_gt, RW_ge, RW_neg, RW_mul, RW_div, RW_mod, RW_pow, RW_eq0, RW_eq1, eqD_ii, eqD_ss, eqD_bb, Int.cast_ofNat_Int, RW_in, RW_is, RW_ix, getD_lst, getD_tup, atI_0, atI_1, atI_2, atI_3, atI_4, atI_5, RW_eFn, RW_gFn, RW_call, FW_nx, FW_nil, FW_break, FW_cont, FW_seq, FW_if, FW_expr, FW_ret, FW_retG, FW_retN, FW_put, FW_asg, FW_asgG, FW_asgT, FW_par, FW_sub, FW_store, FW_aug, FW_raise, FW_try, keepP, RW_rng1, RW_rng2, ints2_1, ints2_2, RW_rg1, RW_rg2, RW_gRg, RW_op1S, RW_lst, isN_non, isi_non_tuple, isi_non_list, isi_non_bool, isi_non_int, isi_non_str, isN_bl, isi_bl_tuple, isi_bl_list, isi_bl_bool, isi_bl_int, isi_bl_str, isN_int, isi_int_tuple, isi_int_list, isi_int_bool, isi_int_int, isi_int_str, isN_str, isi_str_tuple, isi_str_list, isi_str_bool, isi_str_int, isi_str_str, isN_lst, isi_lst_tuple, isi_lst_list, isi_lst_bool, isi_lst_int, isi_lst_str, isN_tup, isi_tup_tuple, isi_tup_list, isi_tup_bool, isi_tup_int, isi_tup_str, RW_seq, startD_eq, startA, setT_nm, setT_tp, setN_nil, setN_cons, bindA, argD, pairsA, putM, ndup, mutsD, mutIdx, intD_int, intD_bl, absD_int, lenD_lst, lenD_tup, lenD_str, tupD_lst, tupD_tup, max2D_ii, min2D_ii, szl, items_lst, items_tup, RW_comp, RW_yes, wipeD, RW_addL, RW_addT, RW_addS, RW_iadd, RW_gCat, RW_gRep, RW_gRev, RW_zip, RW_enum, RW_enum2, stF, RW_oN, RW_oS, RW_sl, sliceD_lst, sliceD_tup, RW_mut, RW_mutF, isOwn, lm_app, ixN_l0, ixN_l1, ixN_l2, ixN_l3, ixN_l4, ixN_l5, List.reverse_cons, List.reverse_nil, List.getElem?_nil, Nat.reduceAdd, Nat.reduceLeDiff, Nat.reduceLT, Int.reduceLT, Int.reduceLE, Int.reduceAdd, Int.reduceSub, Int.reduceMul, Int.reduceNeg, Int.reduceEq, Int.reduceToNat, Nat.reduceEqDiff, List.replicate_succ, List.replicate_zero, List.cons_append, List.nil_append, List.getElem?_cons_zero, List.getElem?_cons_succ, List.set_cons_zero, List.set_cons_succ, List.length_cons, List.length_nil, List.map_cons, List.map_nil, List.contains_nil, List.contains_cons, Option.map_some, Option.bind_some, decide_eq_true_eq, decide_eq_false_iff_not, decide_true, decide_false, Bool.not_true, Bool.not_false, Bool.and_true, Bool.true_and, Bool.and_false, Bool.false_and, Bool.or_false, Bool.false_or, Bool.or_true, Bool.true_or, Bool.not_eq_true', Bool.not_eq_false', Bool.false_eq_true, Bool.true_eq_false, reduceCtorEq, true_implies, false_implies, forall_const, not_true_eq_false, not_false_eq_true, and_true, true_and, and_self, if_true, if_false, ite_true, ite_false, eq_self])
            walk_at "st"
            refine leaf_spec cx rfl ?_
            walk_at "ev"
            walk_at "st"
            exact ⟨_, _, _, by rw [show kids D.non = [] from rfl, List.append_nil]⟩
          | bl b =>
            (refine LZ_in ?_; simp only [pr, LR_c, LR_n, RW_eBor, lnD_n, lnD_k, lnD_l, MG_d, mrg_n, mrg_0, mrg_f, mrg_l, mrg_o, mrg_on, nobV_fz, nob_int, nob_str, nob_bl, nob_non, nob_lst, nob_tup, nobL_n, nobL_c, nobL_a, nobL_i, nobL_s, Nat.reduceBEq, beq_self_eq_true, unb_non, unb_bl, unb_int, unb_str, unb_ty, unb_cls, unb_lst, unb_tup, unb_brw, unb_scr, unb_ins, unb_exc, items_brw, RW_ok, RW_exc, RW_stuck, RW_C, RW_var, RW_bin, RW_un, RW_vB, RW_T, RW_bAnd, RW_bOr, RW_bNot, RW_eAnd, RW_eOr, RW_eNot, RW_eIf, RW_aNil, RW_aCons, RW_gFz, RW_gDis, RW_eCall, RW_gCall, RW_fn1, RW_fn2, RW_fnL, dr_fz, dr_sl, frz_fz, frz_sl, frzs_nil, frzs_cons, RW_add, RW_sub, RW_lt, RW_le, RW_gt, RW_ge, RW_neg, RW_mul, RW_div, RW_mod, RW_pow, RW_eq0, RW_eq1, eqD_ii, eqD_ss, eqD_bb, Int.cast_ofNat_Int, RW_in, RW_is, RW_ix, getD_lst, getD_tup, atI_0, atI_1, atI_2, atI_3, atI_4, atI_5, RW_eFn, RW_gFn, RW_call, FW_nx, FW_nil, FW_break, FW_cont, FW_seq, FW_if, FW_expr, FW_ret, FW_retG, FW_retN, FW_put, FW_asg, FW_asgG, FW_asgT, FW_par, FW_sub, FW_store, FW_aug, FW_raise, FW_try, keepP, RW_rng1, RW_rng2, ints2_1, ints2_2, RW_rg1, RW_rg2, RW_gRg, RW_op1S, RW_lst, isN_non, isi_non_tuple, isi_non_list, isi_non_bool, isi_non_int, isi_non_str, isN_bl, isi_bl_tuple, isi_bl_list, isi_bl_bool, isi_bl_int, isi_bl_str, isN_int, isi_int_tuple, isi_int_list, isi_int_bool, isi_int_int, isi_int_str, isN_str, isi_str_tuple, isi_str_list, isi_str_bool, isi_str_int, isi_str_str, isN_lst, isi_lst_tuple, isi_lst_list, isi_lst_bool, isi_lst_int, isi_lst_str, isN_tup, isi_tup_tuple, isi_tup_list, isi_tup_bool, isi_tup_int, isi_tup_str, RW_seq, startD_eq, startA, setT_nm, setT_tp, setN_nil, setN_cons, bindA, argD, pairsA, putM, ndup, mutsD, mutIdx, intD_int, intD_bl, absD_int, lenD_lst, lenD_tup, lenD_str, tupD_lst, tupD_tup, max2D_ii, min2D_ii, szl, items_lst, items_tup, RW_comp, RW_yes, wipeD, RW_addL, RW_addT, RW_addS, RW_iadd, RW_gCat, RW_gRep, RW_gRev, RW_zip, RW_enum, RW_enum2, stF, RW_oN, RW_oS, RW_sl, sliceD_lst, sliceD_tup, RW_mut, RW_mutF, isOwn, lm_app, ixN_l0, ixN_l1, ixN_l2, ixN_l3, ixN_l4, ixN_l5, List.reverse_cons, List.reverse_nil, List.getElem?_nil, Nat.reduceAdd, Nat.reduceLeDiff, Nat.reduceLT, Int.reduceLT, Int.reduceLE, Int.reduceAdd, Int.reduceSub, Int.reduceMul, Int.reduceNeg, Int.reduceEq, Int.reduceToNat, Nat.reduceEqDiff, List.replicate_succ, List.replicate_zero, List.cons_append, List.nil_append, List.getElem?_cons_zero, List.getElem?_cons_succ, List.set_cons_zero, List.set_cons_succ, List.length_cons, List.length_nil, List.map_cons, List.map_nil, List.contains_nil, List.contains_cons, Option.map_some, Option.bind_some, decide_eq_true_eq, decide_eq_false_iff_not, decide_true, decide_false, Bool.not_true, Bool.not_false, Bool.and_true, Bool.true_and, Bool.and_false, Bool.false_and, Bool.or_false, Bool.false_or, Bool.or_true, Bool.true_or, Bool.not_eq_true', Bool.not_eq_false', Bool.false_eq_true, Bool.true_eq_false, reduceCtorEq, true_implies, false_implies, forall_const, not_true_eq_false, not_false_eq_true, and_true, true_and, and_self, if_true, if_false, ite_true, ite_false, eq_self])
            walk_at "st"
            refine leaf_spec cx rfl ?_
            walk_at "ev"
            walk_at "st"
            exact ⟨_, _, _, by rw [show kids (D.bl b) = [] from rfl, List.append_nil]⟩
          | int b =>
            (refine LZ_in ?_; simp only [pr, LR_c, LR_n, RW_eBor, lnD_n, lnD_k, lnD_l, MG_d, mrg_n, mrg_0, mrg_f, mrg_l, mrg_o, mrg_on, nobV_fz, nob_int, nob_str, nob_bl, nob_non, nob_lst, nob_tup, nobL_n, nobL_c, nobL_a, nobL_i, nobL_s, Nat.reduceBEq, beq_self_eq_true, unb_non, unb_bl, unb_int, unb_str, unb_ty, unb_cls, unb_lst, unb_tup, unb_brw, unb_scr, unb_ins, unb_exc, items_brw, RW_ok, RW_exc, RW_stuck, RW_C, RW_var, RW_bin, RW_un, RW_vB, RW_T, RW_bAnd, RW_bOr, RW_bNot, RW_eAnd, RW_eOr, RW_eNot, RW_eIf, RW_aNil, RW_aCons, RW_gFz, RW_gDis, RW_eCall, RW_gCall, RW_fn1, RW_fn2, RW_fnL, dr_fz, dr_sl, frz_fz, frz_sl, frzs_nil, frzs_cons, RW_add, RW_sub, RW_lt, RW_le, RW_gt, RW_ge, RW_neg, RW_mul, RW_div, RW_mod, RW_pow, RW_eq0, RW_eq1, eqD_ii, eqD_ss, eqD_bb, Int.cast_ofNat_Int, RW_in, RW_is, RW_ix, getD_lst, getD_tup, atI_0, atI_1, atI_2, atI_3, atI_4, atI_5, RW_eFn, RW_gFn, RW_call, FW_nx, FW_nil, FW_break, FW_cont, FW_seq, FW_if, FW_expr, FW_ret, FW_retG, FW_retN, FW_put, FW_asg, FW_asgG, FW_asgT, FW_par, FW_sub, FW_store, FW_aug, FW_raise, FW_try, keepP, RW_rng1, RW_rng2, ints2_1, ints2_2, RW_rg1, RW_rg2, RW_gRg, RW_op1S, RW_lst, isN_non, isi_non_tuple, isi_non_list, isi_non_bool, isi_non_int, isi_non_str, isN_bl, isi_bl_tuple, isi_bl_list, isi_bl_bool, isi_bl_int, isi_bl_str, isN_int, isi_int_tuple, isi_int_list, isi_int_bool, isi_int_int, isi_int_str, isN_str, isi_str_tuple, isi_str_list, isi_str_bool, isi_str_int, isi_str_str, isN_lst, isi_lst_tuple, isi_lst_list, isi_lst_bool, isi_lst_int, isi_lst_str, isN_tup, isi_tup_tuple, isi_tup_list, isi_tup_bool, isi_tup_int, isi_tup_str, RW_seq, startD_eq, startA, setT_nm, setT_tp, setN_nil, setN_cons, bindA, argD, pairsA, putM, ndup, mutsD, mutIdx, intD_int, intD_bl, absD_int, lenD_lst, lenD_tup, lenD_str, tupD_lst, tupD_tup, max2D_ii, min2D_ii, szl, items_lst, items_tup, RW_comp, RW_yes, wipeD, RW_addL, RW_addT, RW_addS, RW_iadd, RW_gCat, RW_gRep, RW_gRev, RW_zip, RW_enum, RW_enum2, stF, RW_oN, RW_oS, RW_sl, sliceD_lst, sliceD_tup, RW_mut, RW_mutF, isOwn, lm_app, ixN_l0, ixN_l1, ixN_l2, ixN_l3, ixN_l4, ixN_l5, List.reverse_cons, List.reverse_nil, List.getElem?_nil, Nat.reduceAdd, Nat.reduceLeDiff, Nat.reduceLT, Int.reduceLT, Int.reduceLE, Int.reduceAdd, Int.reduceSub, Int.reduceMul, Int.reduceNeg, Int.reduceEq, Int.reduceToNat, Nat.reduceEqDiff, List.replicate_succ, List.replicate_zero, List.cons_append, List.nil_append, List.getElem?_cons_zero, List.getElem?_cons_succ, List.set_cons_zero, List.set_cons_succ, List.length_cons, List.length_nil, List.map_cons, List.map_nil, List.contains_nil, List.contains_cons, Option.map_some, Option.bind_some, decide_eq_true_eq, decide_eq_false_iff_not, decide_true, decide_false, Bool.not_true, Bool.not_false, Bool.and_true, Bool.true_and, Bool.and_false, Bool.false_and, Bool.or_false, Bool.false_or, Bool.or_true, Bool.true_or, Bool.not_eq_true', Bool.not_eq_false', Bool.false_eq_true, Bool.true_eq_false, reduceCtorEq, true_implies, false_implies, forall_const, not_true_eq_false, not_false_eq_true, and_true, true_and, and_self, if_true, if_false, ite_true, ite_false, eq_self])
            walk_at "st"
            refine leaf_spec cx rfl ?_
            walk_at "ev"
            walk_at "st"
            exact ⟨_, _, _, by rw [show kids (D.int b) = [] from rfl, List.append_nil]⟩
          | str b =>
            (refine LZ_in ?_; simp only [pr, LR_c, LR_n, RW_eBor, lnD_n, lnD_k, lnD_l, MG_d, mrg_n, mrg_0, mrg_f, mrg_l, mrg_o, mrg_on, nobV_fz, nob_int, nob_str, nob_bl, nob_non, nob_lst, nob_tup, nobL_n, nobL_c, nobL_a, nobL_i, nobL_s, Nat.reduceBEq, beq_self_eq_true, unb_non, unb_bl, unb_int, unb_str, unb_ty, unb_cls, unb_lst, unb_tup, unb_brw, unb_scr, unb_ins, unb_exc, items_brw, RW_ok, RW_exc, RW_stuck, RW_C, RW_var, RW_bin, RW_un, RW_vB, RW_T, RW_bAnd, RW_bOr, RW_bNot, RW_eAnd, RW_eOr, RW_eNot, RW_eIf, RW_aNil, RW_aCons, RW_gFz, RW_gDis, RW_eCall, RW_gCall, RW_fn1, RW_fn2, RW_fnL, dr_fz, dr_sl, frz_fz, frz_sl, frzs_nil, frzs_cons, RW_add, RW_sub, RW_lt, RW_le, RW_gt, RW_ge, RW_neg, RW_mul, RW_div, RW_mod, RW_pow, RW_eq0, RW_eq1, eqD_ii, eqD_ss, eqD_bb, Int.cast_ofNat_Int, RW_in, RW_is, RW_ix, getD_lst, getD_tup, atI_0, atI_1, atI_2, atI_3, atI_4, atI_5, RW_eFn, RW_gFn, RW_call, FW_nx, FW_nil, FW_break, FW_cont, FW_seq, FW_if, FW_expr, FW_ret, FW_retG, FW_retN, FW_put, FW_asg, FW_asgG, FW_asgT, FW_par, FW_sub, FW_store, FW_aug, FW_raise, FW_try, keepP, RW_rng1, RW_rng2, ints2_1, ints2_2, RW_rg1, RW_rg2, RW_gRg, RW_op1S, RW_lst, isN_non, isi_non_tuple, isi_non_list, isi_non_bool, isi_non_int, isi_non_str, isN_bl, isi_bl_tuple, isi_bl_list, isi_bl_bool, isi_bl_int, isi_bl_str, isN_int, isi_int_tuple, isi_int_list, isi_int_bool, isi_int_int, isi_int_str, isN_str, isi_str_tuple, isi_str_list, isi_str_bool, isi_str_int, isi_str_str, isN_lst, isi_lst_tuple, isi_lst_list, isi_lst_bool, isi_lst_int, isi_lst_str, isN_tup, isi_tup_tuple, isi_tup_list, isi_tup_bool, isi_tup_int, isi_tup_str, RW_seq, startD_eq, startA, setT_nm, setT_tp, setN_nil, setN_cons, bindA, argD, pairsA, putM, ndup, mutsD, mutIdx, intD_int, intD_bl, absD_int, lenD_lst, lenD_tup, lenD_str, tupD_lst, tupD_tup, max2D_ii, min2D_ii, szl, items_lst, items_tup, RW_comp, RW_yes, wipeD, RW_addL, RW_addT, RW_addS, RW_iadd, RW_gCat, RW_gRep, RW_gRev, RW_zip, RW_enum, RW_enum2, stF, RW_oN, RW_oS, RW_sl, sliceD_lst, sliceD_tup, RW_mut, RW_mutF, isOwn, lm_app, ixN_l0, ixN_l1, ixN_l2, ixN_l3, ixN_l4, ixN_l5, List.reverse_cons, List.reverse_nil, List.getElem?_nil, Nat.reduceAdd, Nat.reduceLeDiff, Nat.reduceLT, Int.reduceLT, Int.reduceLE, Int.reduceAdd, Int.reduceSub, Int.reduceMul, Int.reduceNeg, Int.reduceEq, Int.reduceToNat, Nat.reduceEqDiff, List.replicate_succ, List.replicate_zero, List.cons_append, List.nil_append, List.getElem?_cons_zero, List.getElem?_cons_succ, List.set_cons_zero, List.set_cons_succ, List.length_cons, List.length_nil, List.map_cons, List.map_nil, List.contains_nil, List.contains_cons, Option.map_some, Option.bind_some, decide_eq_true_eq, decide_eq_false_iff_not, decide_true, decide_false, Bool.not_true, Bool.not_false, Bool.and_true, Bool.true_and, Bool.and_false, Bool.false_and, Bool.or_false, Bool.false_or, Bool.or_true, Bool.true_or, Bool.not_eq_true', Bool.not_eq_false', Bool.false_eq_true, Bool.true_eq_false, reduceCtorEq, true_implies, false_implies, forall_const, not_true_eq_false, not_false_eq_true, and_true, true_and, and_self, if_true, if_false, ite_true, ite_false, eq_self])
            walk_at "st"
            refine leaf_spec cx rfl ?_
            walk_at "ev"
            walk_at "st"
            exact ⟨_, _, _, by rw [show kids (D.str b) = [] from rfl, List.append_nil]⟩
          | _ => cases cx
        · rintro δ ⟨x3, x5, x6, rfl⟩
          refine ⟨x3, x5, x6, ?_⟩
          rw [Nat.zero_add, List.length_map, List.take_of_length_le (Nat.le_refl _)]
      rintro δ1 ⟨x3, x5, x6, rfl⟩
      walk_at "st"
      exact ⟨_, _, _, _, rfl⟩
    · rintro δ ⟨x3, x4, x5, x6, rfl⟩
      rw [rangeD_len]
      have e := levs_end hc hd
      refine ⟨x3, x4, x5, x6, ?_⟩
      rw [show (0 + ((9 : Int) - 0).toNat) = 9 from rfl, e]
      rfl
  rintro δ1 ⟨x3, x4, x5, x6, rfl⟩
  walk_at "st"
  exact q
end
end LK

set_option Elab.async false
set_option linter.all false
set_option maxRecDepth 10000
set_option exponentiation.threshold 4000
namespace LK
open PySem L2 DL
/-! ### drawing -/
section
variable {Q G : D → List D → Prop} {E : Str → List Str → List D → List D → Prop}
theorem p10 : ∀ i : Fin 31, (10 : Int) ^ i.val ≤ 10 ^ 30 := by decide +kernel
theorem number_spec {s : Sto} {n dg : Int} (I : Inv n s) (hn : n ≤ 900000) (d0 : 1 ≤ dg) (d1 : dg ≤ 30) (k : ∀ r s', Inv (n + 4) s' → 0 ≤ r → r ≤ 10 ^ 30 → Q (.int r) [stD s']) : MW (m_law_number [stD s, .int dg]) Q G E := by
  refine MW_run (t := t_law_number) ?_
  delta t_law_number
  walk_at "st"
  refine take_spec I (by omega) (by omega) (by omega) fun kind s1 I1 a0 a1 => ?_
  walk_at "ev"
  walk_at "st"
  refine ⟨fun h => ?_, fun h => ?_⟩
  · walk_at "st"
    exact k _ _ (I1.mono (by omega)) a0 (by omega)
  walk_at "st"
  walk_at "st"
  generalize hm : (if (2 : Int) < dg then (2 : Int) else dg) = mn
  have hmn : 1 ≤ mn ∧ mn ≤ 2 := by split at hm <;> omega
  refine take_spec I1 (by omega) (by omega) (by omega) fun c s2 I2 b0 b1 => ?_
  walk_at "ev"
  refine LZ_cut (J := fun δ => ∃ cnt, δ = [some (1, stD s2), some (0, .int dg), some (0, .int kind), some (0, .int cnt), none, none] ∧ 1 ≤ cnt ∧ cnt ≤ 30) ?_ ?_
  · walk_at "st"
    refine ⟨fun h => ?_, fun h => ?_⟩
    · walk_at "st"; exact ⟨_, rfl, d0, d1⟩
    · walk_at "st"; exact ⟨_, rfl, by omega, by omega⟩
  rintro δ1 ⟨cnt, rfl, c0, c1⟩
  refine LZ_cut (J := fun δ => ∃ cnt s3, δ = [some (1, stD s3), some (0, .int dg), some (0, .int kind), some (0, .int cnt), none, none] ∧ 1 ≤ cnt ∧ cnt ≤ 30 ∧ Inv (n + 3) s3) ?_ ?_
  · walk_at "st"
    refine ⟨fun h => ?_, fun h => ?_⟩
    · walk_at "st"
      refine take_spec I2 (by omega) (by omega) (by omega) fun c s3 I3 e0 e1 => ?_
      walk_at "ev"
      exact ⟨_, _, rfl, by omega, by omega, I3.mono (by omega)⟩
    · walk_at "st"; exact ⟨_, _, rfl, by omega, by omega, I2.mono (by omega)⟩
  rintro δ1 ⟨cnt, s3, rfl, c0, c1, I3⟩
  walk_at "st"
  refine LZ_cut (J := fun δ => ∃ top x5, δ = [some (1, stD s3), some (0, .int dg), some (0, .int kind), some (0, .int cnt), some (0, .int top), x5] ∧ 1 ≤ top ∧ top ≤ 10 ^ 30) ?_ ?_
  · refine LZ_in ?_
    rw [FW_for]
    walk_at "ev"
    refine ⟨by unfold smallI; rw [Bool.and_eq_true]; exact ⟨decide_eq_true (by omega), decide_eq_true (by omega)⟩, ?_⟩
    refine FW_inv (fun i δ => ∃ top x5, δ = [some (1, stD s3), some (0, .int dg), some (0, .int kind), some (0, .int cnt), some (0, .int top), x5] ∧ 1 ≤ top ∧ top ≤ (10 : Int) ^ i) (k := 0) ⟨1, _, rfl, by omega, by decide⟩ ?_ ?_
    · rintro i d δ hd ⟨top, x5, rfl, t0, t1⟩
      rw [Nat.zero_add] at *
      obtain ⟨rfl, hi⟩ := rangeD_at hd
      refine ⟨_, rfl, ?_⟩
      have hp : (10 : Int) ^ i ≤ 10 ^ 30 := p10 ⟨i, by omega⟩
      have hs : (10 : Int) ^ (i + 1) = (10 : Int) ^ i * 10 := Int.pow_succ _ _
      rw [hs]
      generalize (10 : Int) ^ i = W at t1 hp ⊢
      walk_at "st"
      exact ⟨sm_mul (sm_100 (by omega) (by omega)) (sm_100 (by decide) (by decide)), _, _, rfl, by omega, by omega⟩
    · rintro δ ⟨top, x5, rfl, t0, t1⟩
      rw [rangeD_len, Nat.zero_add] at t1
      have hp : (10 : Int) ^ (cnt - 0).toNat ≤ 10 ^ 30 := p10 ⟨(cnt - 0).toNat, by omega⟩
      exact ⟨_, _, rfl, t0, by omega⟩
  rintro δ1 ⟨top, x5, rfl, t0, t1⟩
  walk_at "st"
  refine ⟨fun h => ?_, fun h => ?_⟩
  · walk_at "st"
    exact k _ _ (I3.mono (by omega)) (by omega) (by omega)
  walk_at "st"
  walk_at "st"
  refine ⟨fun h => ?_, fun h => ?_⟩
  · walk_at "st"
    exact ⟨divOk_lit (by decide +kernel), k _ _ (I3.mono (by omega)) (by omega) (by omega)⟩
  walk_at "st"
  walk_at "st"
  refine take_spec I3 (by omega) (by omega) (by omega) fun c s3 I3 e0 e1 => ?_
  walk_at "ev"
  exact k _ _ (I3.mono (by omega)) e0 (by omega)
/-- a list or a tuple of ds -/
def Seq (d : D) (ds : List D) : Prop := d = .lst ds ∨ d = .tup ds ∨ d = .brw ds
theorem Seq.len {d : D} {ds : List D} (h : Seq d ds) : lenD (unb d) = some (.int (ds.length : Int)) := by rcases h with rfl | rfl | rfl <;> rfl
theorem Seq.get {d : D} {ds : List D} (h : Seq d ds) {i : Int} : getD? (unb d) i = atI ds i := by rcases h with rfl | rfl | rfl <;> rfl
theorem Seq.items {d : D} {ds : List D} (h : Seq d ds) : DL.items d = some ds := by rcases h with rfl | rfl | rfl <;> rfl
theorem Seq.itemsU {d : D} {ds : List D} (h : Seq d ds) : DL.items (unb d) = some ds := by rcases h with rfl | rfl | rfl <;> rfl
theorem Seq.tup {d : D} {ds : List D} (h : Seq d ds) : tupD (unb d) = some (.tup ds) := by rcases h with rfl | rfl | rfl <;> rfl
theorem pick_spec {s : Sto} {n : Int} {d0 : D} {ds : List D} (hq : Seq d0 ds) (I : Inv n s) (hn : n ≤ 900000) (h0 : 1 ≤ ds.length) (h1 : ds.length ≤ 100000) (k : ∀ (i : Nat) (d : D) (s' : Sto), ds[i]? = some d → Inv (n + 1) s' → Q d [stD s']) : MW (m_law_pick [stD s, d0]) Q G E := by
  refine MW_run (t := t_law_pick) ?_
  delta t_law_pick
  obtain ⟨m, hm⟩ : ∃ m : Int, m = (ds.length : Int) := ⟨_, rfl⟩
  have hl := hq.len
  rw [← hm] at hl
  (refine LZ_in ?_; simp only [hl, LR_c, LR_n, RW_eBor, lnD_n, lnD_k, lnD_l, MG_d, mrg_n, mrg_0, mrg_f, mrg_l, mrg_o, mrg_on, nobV_fz, nob_int, nob_str, nob_bl, nob_non, nob_lst, nob_tup, nobL_n, nobL_c, nobL_a, nobL_i, nobL_s, Nat.reduceBEq, beq_self_eq_true, unb_non, unb_bl, unb_int, unb_str, unb_ty, unb_cls, unb_lst, unb_tup, unb_brw, unb_scr, unb_ins, unb_exc, items_brw, RW_ok, RW_exc, RW_stuck, RW_C, RW_var, RW_bin, RW_un, RW_vB, RW_T, RW_bAnd, RW_bOr, RW_bNot, RW_eAnd, RW_eOr, RW_eNot, RW_eIf, RW_aNil, RW_aCons, RW_gFz, RW_gDis, RW_eCall, RW_gCall, RW_fn1, RW_fn2, RW_fnL, dr_fz, dr_sl, frz_fz, frz_sl, frzs_nil, frzs_cons, RW_add, RW_sub, RW_lt, RW_le, RW_gt, RW_ge, RW_neg, RW_mul, RW_div, RW_mod, RW_pow, RW_eq0, RW_eq1, eqD_ii, eqD_ss, eqD_bb, Int.cast_ofNat_Int, RW_in, RW_is, RW_ix, getD_lst, getD_tup, atI_0, atI_1, atI_2, atI_3, atI_4, atI_5, RW_eFn, RW_gFn, RW_call, FW_nx, FW_nil, FW_break, FW_cont, FW_seq, FW_if, FW_expr, FW_ret, FW_retG, FW_retN, FW_put, FW_asg, FW_asgG, FW_asgT, FW_par, FW_sub, FW_store, FW_aug, FW_raise, FW_try, keepP, RW_rng1, RW_rng2, ints2_1, ints2_2, RW_rg1, RW_rg2, RW_gRg, RW_op1S, RW_lst, isN_non, isi_non_tuple, isi_non_list, isi_non_bool, isi_non_int, isi_non_str, isN_bl, isi_bl_tuple, isi_bl_list, isi_bl_bool, isi_bl_int, isi_bl_str, isN_int, isi_int_tuple, isi_int_list, isi_int_bool, isi_int_int, isi_int_str, isN_str, isi_str_tuple, isi_str_list, isi_str_bool, isi_str_int, isi_str_str, isN_lst, isi_lst_tuple, isi_lst_list, isi_lst_bool, isi_lst_int, isi_lst_str, isN_tup, isi_tup_tuple, isi_tup_list, isi_tup_bool, isi_tup_int, isi_tup_str, RW_seq, startD_eq, startA, setT_nm, setT_tp, setN_nil, setN_cons, bindA, argD, pairsA, putM, ndup, mutsD, mutIdx, intD_int, intD_bl, absD_int, lenD_lst, lenD_tup, lenD_str, tupD_lst, tupD_tup, max2D_ii, min2D_ii, szl, items_lst, items_tup, RW_comp, RW_yes, wipeD, RW_addL, RW_addT, RW_addS, RW_iadd, RW_gCat, RW_gRep, RW_gRev, RW_zip, RW_enum, RW_enum2, stF, RW_oN, RW_oS, RW_sl, sliceD_lst, sliceD_tup, RW_mut, RW_mutF, isOwn, lm_app, ixN_l0, ixN_l1, ixN_l2, ixN_l3, ixN_l4, ixN_l5, List.reverse_cons, List.reverse_nil, List.getElem?_nil, Nat.reduceAdd, Nat.reduceLeDiff, Nat.reduceLT, Int.reduceLT, Int.reduceLE, Int.reduceAdd, Int.reduceSub, Int.reduceMul, Int.reduceNeg, Int.reduceEq, Int.reduceToNat, Nat.reduceEqDiff, List.replicate_succ, List.replicate_zero, List.cons_append, List.nil_append, List.getElem?_cons_zero, List.getElem?_cons_succ, List.set_cons_zero, List.set_cons_succ, List.length_cons, List.length_nil, List.map_cons, List.map_nil, List.contains_nil, List.contains_cons, Option.map_some, Option.bind_some, decide_eq_true_eq, decide_eq_false_iff_not, decide_true, decide_false, Bool.not_true, Bool.not_false, Bool.and_true, Bool.true_and, Bool.and_false, Bool.false_and, Bool.or_false, Bool.false_or, Bool.or_true, Bool.true_or, Bool.not_eq_true', Bool.not_eq_false', Bool.false_eq_true, Bool.true_eq_false, reduceCtorEq, true_implies, false_implies, forall_const, not_true_eq_false, not_false_eq_true, and_true, true_and, and_self, if_true, if_false, ite_true, ite_false, eq_self])
  refine take_spec I (by omega) (by omega) (by omega) fun r s1 I1 r0 r1 => ?_
  simp only [hq.get, LR_c, LR_n, RW_eBor, lnD_n, lnD_k, lnD_l, MG_d, mrg_n, mrg_0, mrg_f, mrg_l, mrg_o, mrg_on, nobV_fz, nob_int, nob_str, nob_bl, nob_non, nob_lst, nob_tup, nobL_n, nobL_c, nobL_a, nobL_i, nobL_s, Nat.reduceBEq, beq_self_eq_true, unb_non, unb_bl, unb_int, unb_str, unb_ty, unb_cls, unb_lst, unb_tup, unb_brw, unb_scr, unb_ins, unb_exc, items_brw, RW_ok, RW_exc, RW_stuck, RW_C, RW_var, RW_bin, RW_un, RW_vB, RW_T, RW_bAnd, RW_bOr, RW_bNot, RW_eAnd, RW_eOr, RW_eNot, RW_eIf, RW_aNil, RW_aCons, RW_gFz, RW_gDis, RW_eCall, RW_gCall, RW_fn1, RW_fn2, RW_fnL, dr_fz, dr_sl, frz_fz, frz_sl, frzs_nil, frzs_cons, RW_add, RW_sub, RW_lt, RW_le, RW_gt, RW_ge, RW_neg, RW_mul, RW_div, RW_mod, RW_pow, RW_eq0, RW_eq1, eqD_ii, eqD_ss, eqD_bb, Int.cast_ofNat_Int, RW_in, RW_is, RW_ix, getD_lst, getD_tup, atI_0, atI_1, atI_2, atI_3, atI_4, atI_5, RW_eFn, RW_gFn, RW_call, FW_nx, FW_nil, FW_break, FW_cont, FW_seq, FW_if, FW_expr, FW_ret, FW_retG, FW_retN, FW_put, FW_asg, FW_asgG, FW_asgT, FW_par, FW_sub, FW_store, FW_aug, FW_raise, FW_try, keepP, RW_rng1, RW_rng2, ints2_1, ints2_2, RW_rg1, RW_rg2, RW_gRg, RW_op1S, RW_lst, isN_non, isi_non_tuple, isi_non_list, isi_non_bool, isi_non_int, isi_non_str, isN_bl, isi_bl_tuple, isi_bl_list, isi_bl_bool, isi_bl_int, isi_bl_str, isN_int, isi_int_tuple, isi_int_list, isi_int_bool, isi_int_int, isi_int_str, isN_str, isi_str_tuple, isi_str_list, isi_str_bool, isi_str_int, isi_str_str, isN_lst, isi_lst_tuple, isi_lst_list, isi_lst_bool, isi_lst_int, isi_lst_str, isN_tup, isi_tup_tuple, isi_tup_list, isi_tup_bool, isi_tup_int, isi_tup_str, RW_seq, startD_eq, startA, setT_nm, setT_tp, setN_nil, setN_cons, bindA, argD, pairsA, putM, ndup, mutsD, mutIdx, intD_int, intD_bl, absD_int, lenD_lst, lenD_tup, lenD_str, tupD_lst, tupD_tup, max2D_ii, min2D_ii, szl, items_lst, items_tup, RW_comp, RW_yes, wipeD, RW_addL, RW_addT, RW_addS, RW_iadd, RW_gCat, RW_gRep, RW_gRev, RW_zip, RW_enum, RW_enum2, stF, RW_oN, RW_oS, RW_sl, sliceD_lst, sliceD_tup, RW_mut, RW_mutF, isOwn, lm_app, ixN_l0, ixN_l1, ixN_l2, ixN_l3, ixN_l4, ixN_l5, List.reverse_cons, List.reverse_nil, List.getElem?_nil, Nat.reduceAdd, Nat.reduceLeDiff, Nat.reduceLT, Int.reduceLT, Int.reduceLE, Int.reduceAdd, Int.reduceSub, Int.reduceMul, Int.reduceNeg, Int.reduceEq, Int.reduceToNat, Nat.reduceEqDiff, List.replicate_succ, List.replicate_zero, List.cons_append, List.nil_append, List.getElem?_cons_zero, List.getElem?_cons_succ, List.set_cons_zero, List.set_cons_succ, List.length_cons, List.length_nil, List.map_cons, List.map_nil, List.contains_nil, List.contains_cons, Option.map_some, Option.bind_some, decide_eq_true_eq, decide_eq_false_iff_not, decide_true, decide_false, Bool.not_true, Bool.not_false, Bool.and_true, Bool.true_and, Bool.and_false, Bool.false_and, Bool.or_false, Bool.false_or, Bool.or_true, Bool.true_or, Bool.not_eq_true', Bool.not_eq_false', Bool.false_eq_true, Bool.true_eq_false, reduceCtorEq, true_implies, false_implies, forall_const, not_true_eq_false, not_false_eq_true, and_true, true_and, and_self, if_true, if_false, ite_true, ite_false, eq_self]
  rw [atI_ge r0]
  have hlt : r.toNat < ds.length := by omega
  have e : ds[r.toNat]? = some ds[r.toNat] := List.getElem?_eq_getElem hlt
  rw [e]
  dsimp only
  exact k _ _ _ e I1
theorem asrow_spec {s : Sto} {n : Int} {ds : List D} (I : Inv n s) (hn : n ≤ 900000) (k : ∀ (d : D) (s' : Sto), (d = .lst ds ∨ d = .tup ds) → Inv (n + 1) s' → Q d [stD s']) : MW (m_law_as_row [stD s, .lst ds]) Q G E := by
  refine MW_run (t := t_law_as_row) ?_
  delta t_law_as_row
  walk_at "st"
  refine take_spec I (by omega) (by omega) (by omega) fun r s1 I1 r0 r1 => ?_
  walk_at "ev"
  refine ⟨fun h => ?_, fun h => ?_⟩
  · walk_at "st"
    exact k _ _ (.inl rfl) I1
  walk_at "st"
  walk_at "st"
  exact k _ _ (.inr rfl) I1
end
end LK

set_option Elab.async false
set_option linter.all false
set_option maxRecDepth 10000
set_option exponentiation.threshold 4000
namespace LK
open PySem L2 DL
section
variable {Q G : D → List D → Prop} {E : Str → List Str → List D → List D → Prop}
/-- a row of ints -/
def Row (d : D) (ns : List Int) : Prop := Seq d (ns.map D.int)
theorem any_int (gs : List Int) (x : Int) : ((gs.map D.int).any fun z => eqF z (.int x)) = gs.contains x := by
  induction gs with
  | nil => rfl
  | cons g gs ih =>
    rw [List.map_cons, List.any_cons, ih, List.contains_cons]
    show (g == x || _) = (x == g || _)
    rw [Bool.beq_comm]
theorem all_int (gs : List Int) : (gs.map D.int).all flatD = true := by
  induction gs with
  | nil => rfl
  | cons g gs ih => rw [List.map_cons, List.all_cons, ih]; rfl
theorem inD_row {e : D} {gs : List Int} (h : Row e gs) (x : Int) : inD (.int x) (unb e) = some (gs.contains x) := by
  unfold inD
  rw [Seq.itemsU h]
  dsimp only
  rw [all_int, any_int]
  rfl
theorem enum_eq : ∀ (ds : List D) (k : Nat), enumD k ds = (List.range ds.length).map fun (i : Nat) => D.tup [.int ((k + i : Nat) : Int), ds.getD i .non] := fun ds k => by
  apply List.ext_getElem?
  intro i
  rw [List.getElem?_map]
  by_cases h : i < ds.length
  · rw [enumD_at (List.getElem?_eq_getElem h), List.getElem?_range h]
    show some _ = some (D.tup [.int ((k + i : Nat) : Int), ds.getD i .non])
    rw [List.getD_eq_getElem?_getD, List.getElem?_eq_getElem h]
    rfl
  · rw [List.getElem?_eq_none (by rw [enumD_len]; omega), List.getElem?_eq_none (by rw [List.length_range]; omega)]
    rfl
/-- the places whose name is in gs, or is not -/
def part (b : Bool) (ns gs : List Int) : List D := ((List.range ns.length).filter fun k => gs.contains (ns.getD k 0) == b).map fun (k : Nat) => D.int (k : Int)
theorem getD_int (ns : List Int) (i : Nat) (h : i < ns.length) : (ns.map D.int).getD i .non = .int (ns.getD i 0) := by
  rw [List.getD_eq_getElem?_getD, List.getElem?_map, List.getD_eq_getElem?_getD, List.getElem?_eq_getElem h]
  rfl
def fst2 : D → D
  | .tup [a, _] => a
  | _ => .non
def in2 (gs : List Int) (b : Bool) : D → Bool
  | .tup [_, .int x] => gs.contains x == b
  | _ => false
theorem part_enum (b : Bool) (ns gs : List Int) : ((enumD 0 (ns.map D.int)).filter (in2 gs b)).map fst2 = part b ns gs := by
  rw [enum_eq, List.filter_map, List.map_map, List.length_map]
  unfold part
  have e : (List.range ns.length).filter (in2 gs b ∘ fun (i : Nat) => D.tup [.int ((0 + i : Nat) : Int), (ns.map D.int).getD i .non]) = (List.range ns.length).filter fun k => gs.contains (ns.getD k 0) == b := by
    apply List.filter_congr
    intro k hk
    have hk : k < ns.length := by simpa using hk
    show in2 gs b (D.tup [.int ((0 + k : Nat) : Int), (ns.map D.int).getD k .non]) = _
    rw [getD_int ns k hk]
    rfl
  rw [e]
  apply List.map_congr_left
  intro k _
  show D.int ((0 + k : Nat) : Int) = _
  rw [Nat.zero_add]
theorem part_len (b : Bool) (ns gs : List Int) : (part b ns gs).length ≤ ns.length := by
  unfold part
  rw [List.length_map]
  have := List.length_filter_le (fun k => gs.contains (ns.getD k 0) == b) (List.range ns.length)
  rw [List.length_range] at this
  exact this
theorem enum_at {ns : List Int} {i : Nat} {d : D} (h : (enumD 0 (ns.map D.int))[i]? = some d) : ∃ x, ns[i]? = some x ∧ d = .tup [.int (i : Int), .int x] := by
  have hi : i < ns.length := by
    have := (List.getElem?_eq_some_iff.mp h).1
    rw [enumD_len, List.length_map] at this
    exact this
  have e : (ns.map D.int)[i]? = some (.int ns[i]) := by rw [List.getElem?_map, List.getElem?_eq_getElem hi]; rfl
  rw [enumD_at e, Nat.zero_add] at h
  exact ⟨ns[i], List.getElem?_eq_getElem hi, (Option.some.inj h).symm⟩
theorem parted_spec {d e : D} {ns gs : List Int} (hd : Row d ns) (he : Row e gs) (hn : ns.length ≤ 1000) (q : Q (.tup (part false ns gs ++ part true ns gs)) []) : MW (m_parted_places [d, e]) Q G E := by
  refine MW_run (t := t_parted_places) ?_
  delta t_parted_places
  (refine LZ_in ?_; simp only [Seq.items hd, LR_c, LR_n, RW_eBor, lnD_n, lnD_k, lnD_l, MG_d, mrg_n, mrg_0, mrg_f, mrg_l, mrg_o, mrg_on, nobV_fz, nob_int, nob_str, nob_bl, nob_non, nob_lst, nob_tup, nobL_n, nobL_c, nobL_a, nobL_i, nobL_s, Nat.reduceBEq, beq_self_eq_true, unb_non, unb_bl, unb_int, unb_str, unb_ty, unb_cls, unb_lst, unb_tup, unb_brw, unb_scr, unb_ins, unb_exc, items_brw, RW_ok, RW_exc, RW_stuck, RW_C, RW_var, RW_bin, RW_un, RW_vB, RW_T, RW_bAnd, RW_bOr, RW_bNot, RW_eAnd, RW_eOr, RW_eNot, RW_eIf, RW_aNil, RW_aCons, RW_gFz, RW_gDis, RW_eCall, RW_gCall, RW_fn1, RW_fn2, RW_fnL, dr_fz, dr_sl, frz_fz, frz_sl, frzs_nil, frzs_cons, RW_add, RW_sub, RW_lt, RW_le, RW_gt, RW_ge, RW_neg, RW_mul, RW_div, RW_mod, RW_pow, RW_eq0, RW_eq1, eqD_ii, eqD_ss, eqD_bb, Int.cast_ofNat_Int, RW_in, RW_is, RW_ix, getD_lst, getD_tup, atI_0, atI_1, atI_2, atI_3, atI_4, atI_5, RW_eFn, RW_gFn, RW_call, FW_nx, FW_nil, FW_break, FW_cont, FW_seq, FW_if, FW_expr, FW_ret, FW_retG, FW_retN, FW_put, FW_asg, FW_asgG, FW_asgT, FW_par, FW_sub, FW_store, FW_aug, FW_raise, FW_try, keepP, RW_rng1, RW_rng2, ints2_1, ints2_2, RW_rg1, RW_rg2, RW_gRg, RW_op1S, RW_lst, isN_non, isi_non_tuple, isi_non_list, isi_non_bool, isi_non_int, isi_non_str, isN_bl, isi_bl_tuple, isi_bl_list, isi_bl_bool, isi_bl_int, isi_bl_str, isN_int, isi_int_tuple, isi_int_list, isi_int_bool, isi_int_int, isi_int_str, isN_str, isi_str_tuple, isi_str_list, isi_str_bool, isi_str_int, isi_str_str, isN_lst, isi_lst_tuple, isi_lst_list, isi_lst_bool, isi_lst_int, isi_lst_str, isN_tup, isi_tup_tuple, isi_tup_list, isi_tup_bool, isi_tup_int, isi_tup_str, RW_seq, startD_eq, startA, setT_nm, setT_tp, setN_nil, setN_cons, bindA, argD, pairsA, putM, ndup, mutsD, mutIdx, intD_int, intD_bl, absD_int, lenD_lst, lenD_tup, lenD_str, tupD_lst, tupD_tup, max2D_ii, min2D_ii, szl, items_lst, items_tup, RW_comp, RW_yes, wipeD, RW_addL, RW_addT, RW_addS, RW_iadd, RW_gCat, RW_gRep, RW_gRev, RW_zip, RW_enum, RW_enum2, stF, RW_oN, RW_oS, RW_sl, sliceD_lst, sliceD_tup, RW_mut, RW_mutF, isOwn, lm_app, ixN_l0, ixN_l1, ixN_l2, ixN_l3, ixN_l4, ixN_l5, List.reverse_cons, List.reverse_nil, List.getElem?_nil, Nat.reduceAdd, Nat.reduceLeDiff, Nat.reduceLT, Int.reduceLT, Int.reduceLE, Int.reduceAdd, Int.reduceSub, Int.reduceMul, Int.reduceNeg, Int.reduceEq, Int.reduceToNat, Nat.reduceEqDiff, List.replicate_succ, List.replicate_zero, List.cons_append, List.nil_append, List.getElem?_cons_zero, List.getElem?_cons_succ, List.set_cons_zero, List.set_cons_succ, List.length_cons, List.length_nil, List.map_cons, List.map_nil, List.contains_nil, List.contains_cons, Option.map_some, Option.bind_some, decide_eq_true_eq, decide_eq_false_iff_not, decide_true, decide_false, Bool.not_true, Bool.not_false, Bool.and_true, Bool.true_and, Bool.and_false, Bool.false_and, Bool.or_false, Bool.false_or, Bool.or_true, Bool.true_or, Bool.not_eq_true', Bool.not_eq_false', Bool.false_eq_true, Bool.true_eq_false, reduceCtorEq, true_implies, false_implies, forall_const, not_true_eq_false, not_false_eq_true, and_true, true_and, and_self, if_true, if_false, ite_true, ite_false, eq_self])
  refine comp_fm (in2 gs false) fst2 (by rw [enumD_len, List.length_map, szl]; omega) (fun i dd h => ?_) ?_
  · obtain ⟨x, hx, rfl⟩ := enum_at h
    refine ⟨_, rfl, ?_⟩
    simp only [inD_row he, LR_c, LR_n, RW_eBor, lnD_n, lnD_k, lnD_l, MG_d, mrg_n, mrg_0, mrg_f, mrg_l, mrg_o, mrg_on, nobV_fz, nob_int, nob_str, nob_bl, nob_non, nob_lst, nob_tup, nobL_n, nobL_c, nobL_a, nobL_i, nobL_s, Nat.reduceBEq, beq_self_eq_true, unb_non, unb_bl, unb_int, unb_str, unb_ty, unb_cls, unb_lst, unb_tup, unb_brw, unb_scr, unb_ins, unb_exc, items_brw, RW_ok, RW_exc, RW_stuck, RW_C, RW_var, RW_bin, RW_un, RW_vB, RW_T, RW_bAnd, RW_bOr, RW_bNot, RW_eAnd, RW_eOr, RW_eNot, RW_eIf, RW_aNil, RW_aCons, RW_gFz, RW_gDis, RW_eCall, RW_gCall, RW_fn1, RW_fn2, RW_fnL, dr_fz, dr_sl, frz_fz, frz_sl, frzs_nil, frzs_cons, RW_add, RW_sub, RW_lt, RW_le, RW_gt, RW_ge, RW_neg, RW_mul, RW_div, RW_mod, RW_pow, RW_eq0, RW_eq1, eqD_ii, eqD_ss, eqD_bb, Int.cast_ofNat_Int, RW_in, RW_is, RW_ix, getD_lst, getD_tup, atI_0, atI_1, atI_2, atI_3, atI_4, atI_5, RW_eFn, RW_gFn, RW_call, FW_nx, FW_nil, FW_break, FW_cont, FW_seq, FW_if, FW_expr, FW_ret, FW_retG, FW_retN, FW_put, FW_asg, FW_asgG, FW_asgT, FW_par, FW_sub, FW_store, FW_aug, FW_raise, FW_try, keepP, RW_rng1, RW_rng2, ints2_1, ints2_2, RW_rg1, RW_rg2, RW_gRg, RW_op1S, RW_lst, isN_non, isi_non_tuple, isi_non_list, isi_non_bool, isi_non_int, isi_non_str, isN_bl, isi_bl_tuple, isi_bl_list, isi_bl_bool, isi_bl_int, isi_bl_str, isN_int, isi_int_tuple, isi_int_list, isi_int_bool, isi_int_int, isi_int_str, isN_str, isi_str_tuple, isi_str_list, isi_str_bool, isi_str_int, isi_str_str, isN_lst, isi_lst_tuple, isi_lst_list, isi_lst_bool, isi_lst_int, isi_lst_str, isN_tup, isi_tup_tuple, isi_tup_list, isi_tup_bool, isi_tup_int, isi_tup_str, RW_seq, startD_eq, startA, setT_nm, setT_tp, setN_nil, setN_cons, bindA, argD, pairsA, putM, ndup, mutsD, mutIdx, intD_int, intD_bl, absD_int, lenD_lst, lenD_tup, lenD_str, tupD_lst, tupD_tup, max2D_ii, min2D_ii, szl, items_lst, items_tup, RW_comp, RW_yes, wipeD, RW_addL, RW_addT, RW_addS, RW_iadd, RW_gCat, RW_gRep, RW_gRev, RW_zip, RW_enum, RW_enum2, stF, RW_oN, RW_oS, RW_sl, sliceD_lst, sliceD_tup, RW_mut, RW_mutF, isOwn, lm_app, ixN_l0, ixN_l1, ixN_l2, ixN_l3, ixN_l4, ixN_l5, List.reverse_cons, List.reverse_nil, List.getElem?_nil, Nat.reduceAdd, Nat.reduceLeDiff, Nat.reduceLT, Int.reduceLT, Int.reduceLE, Int.reduceAdd, Int.reduceSub, Int.reduceMul, Int.reduceNeg, Int.reduceEq, Int.reduceToNat, Nat.reduceEqDiff, List.replicate_succ, List.replicate_zero, List.cons_append, List.nil_append, List.getElem?_cons_zero, List.getElem?_cons_succ, List.set_cons_zero, List.set_cons_succ, List.length_cons, List.length_nil, List.map_cons, List.map_nil, List.contains_nil, List.contains_cons, Option.map_some, Option.bind_some, decide_eq_true_eq, decide_eq_false_iff_not, decide_true, decide_false, Bool.not_true, Bool.not_false, Bool.and_true, Bool.true_and, Bool.and_false, Bool.false_and, Bool.or_false, Bool.false_or, Bool.or_true, Bool.true_or, Bool.not_eq_true', Bool.not_eq_false', Bool.false_eq_true, Bool.true_eq_false, reduceCtorEq, true_implies, false_implies, forall_const, not_true_eq_false, not_false_eq_true, and_true, true_and, and_self, if_true, if_false, ite_true, ite_false, eq_self]
    refine ⟨?_, fun hb => trivial, fun hb => rfl⟩
    show _ = (gs.contains x == false)
    cases gs.contains x <;> rfl
  rw [part_enum]
  walk_at "ev"
  (refine LZ_in ?_; simp only [Seq.items hd, LR_c, LR_n, RW_eBor, lnD_n, lnD_k, lnD_l, MG_d, mrg_n, mrg_0, mrg_f, mrg_l, mrg_o, mrg_on, nobV_fz, nob_int, nob_str, nob_bl, nob_non, nob_lst, nob_tup, nobL_n, nobL_c, nobL_a, nobL_i, nobL_s, Nat.reduceBEq, beq_self_eq_true, unb_non, unb_bl, unb_int, unb_str, unb_ty, unb_cls, unb_lst, unb_tup, unb_brw, unb_scr, unb_ins, unb_exc, items_brw, RW_ok, RW_exc, RW_stuck, RW_C, RW_var, RW_bin, RW_un, RW_vB, RW_T, RW_bAnd, RW_bOr, RW_bNot, RW_eAnd, RW_eOr, RW_eNot, RW_eIf, RW_aNil, RW_aCons, RW_gFz, RW_gDis, RW_eCall, RW_gCall, RW_fn1, RW_fn2, RW_fnL, dr_fz, dr_sl, frz_fz, frz_sl, frzs_nil, frzs_cons, RW_add, RW_sub, RW_lt, RW_le, RW_gt, RW_ge, RW_neg, RW_mul, RW_div, RW_mod, RW_pow, RW_eq0, RW_eq1, eqD_ii, eqD_ss, eqD_bb, Int.cast_ofNat_Int, RW_in, RW_is, RW_ix, getD_lst, getD_tup, atI_0, atI_1, atI_2, atI_3, atI_4, atI_5, RW_eFn, RW_gFn, RW_call, FW_nx, FW_nil, FW_break, FW_cont, FW_seq, FW_if, FW_expr, FW_ret, FW_retG, FW_retN, FW_put, FW_asg, FW_asgG, FW_asgT, FW_par, FW_sub, FW_store, FW_aug, FW_raise, FW_try, keepP, RW_rng1, RW_rng2, ints2_1, ints2_2, RW_rg1, RW_rg2, RW_gRg, RW_op1S, RW_lst, isN_non, isi_non_tuple, isi_non_list, isi_non_bool, isi_non_int, isi_non_str, isN_bl, isi_bl_tuple, isi_bl_list, isi_bl_bool, isi_bl_int, isi_bl_str, isN_int, isi_int_tuple, isi_int_list, isi_int_bool, isi_int_int, isi_int_str, isN_str, isi_str_tuple, isi_str_list, isi_str_bool, isi_str_int, isi_str_str, isN_lst, isi_lst_tuple, isi_lst_list, isi_lst_bool, isi_lst_int, isi_lst_str, isN_tup, isi_tup_tuple, isi_tup_list, isi_tup_bool, isi_tup_int, isi_tup_str, RW_seq, startD_eq, startA, setT_nm, setT_tp, setN_nil, setN_cons, bindA, argD, pairsA, putM, ndup, mutsD, mutIdx, intD_int, intD_bl, absD_int, lenD_lst, lenD_tup, lenD_str, tupD_lst, tupD_tup, max2D_ii, min2D_ii, szl, items_lst, items_tup, RW_comp, RW_yes, wipeD, RW_addL, RW_addT, RW_addS, RW_iadd, RW_gCat, RW_gRep, RW_gRev, RW_zip, RW_enum, RW_enum2, stF, RW_oN, RW_oS, RW_sl, sliceD_lst, sliceD_tup, RW_mut, RW_mutF, isOwn, lm_app, ixN_l0, ixN_l1, ixN_l2, ixN_l3, ixN_l4, ixN_l5, List.reverse_cons, List.reverse_nil, List.getElem?_nil, Nat.reduceAdd, Nat.reduceLeDiff, Nat.reduceLT, Int.reduceLT, Int.reduceLE, Int.reduceAdd, Int.reduceSub, Int.reduceMul, Int.reduceNeg, Int.reduceEq, Int.reduceToNat, Nat.reduceEqDiff, List.replicate_succ, List.replicate_zero, List.cons_append, List.nil_append, List.getElem?_cons_zero, List.getElem?_cons_succ, List.set_cons_zero, List.set_cons_succ, List.length_cons, List.length_nil, List.map_cons, List.map_nil, List.contains_nil, List.contains_cons, Option.map_some, Option.bind_some, decide_eq_true_eq, decide_eq_false_iff_not, decide_true, decide_false, Bool.not_true, Bool.not_false, Bool.and_true, Bool.true_and, Bool.and_false, Bool.false_and, Bool.or_false, Bool.false_or, Bool.or_true, Bool.true_or, Bool.not_eq_true', Bool.not_eq_false', Bool.false_eq_true, Bool.true_eq_false, reduceCtorEq, true_implies, false_implies, forall_const, not_true_eq_false, not_false_eq_true, and_true, true_and, and_self, if_true, if_false, ite_true, ite_false, eq_self])
  refine comp_fm (in2 gs true) fst2 (by rw [enumD_len, List.length_map, szl]; omega) (fun i dd h => ?_) ?_
  · obtain ⟨x, hx, rfl⟩ := enum_at h
    refine ⟨_, rfl, ?_⟩
    simp only [inD_row he, LR_c, LR_n, RW_eBor, lnD_n, lnD_k, lnD_l, MG_d, mrg_n, mrg_0, mrg_f, mrg_l, mrg_o, mrg_on, nobV_fz, nob_int, nob_str, nob_bl, nob_non, nob_lst, nob_tup, nobL_n, nobL_c, nobL_a, nobL_i, nobL_s, Nat.reduceBEq, beq_self_eq_true, unb_non, unb_bl, unb_int, unb_str, unb_ty, unb_cls, unb_lst, unb_tup, unb_brw, unb_scr, unb_ins, unb_exc, items_brw, RW_ok, RW_exc, RW_stuck, RW_C, RW_var, RW_bin, RW_un, RW_vB, RW_T, RW_bAnd, RW_bOr, RW_bNot, RW_eAnd, RW_eOr, RW_eNot, RW_eIf, RW_aNil, RW_aCons, RW_gFz, RW_gDis, RW_eCall, RW_gCall, RW_fn1, RW_fn2, RW_fnL, dr_fz, dr_sl, frz_fz, frz_sl, frzs_nil, frzs_cons, RW_add, RW_sub, RW_lt, RW_le, RW_gt, RW_ge, RW_neg, RW_mul, RW_div, RW_mod, RW_pow, RW_eq0, RW_eq1, eqD_ii, eqD_ss, eqD_bb, Int.cast_ofNat_Int, RW_in, RW_is, RW_ix, getD_lst, getD_tup, atI_0, atI_1, atI_2, atI_3, atI_4, atI_5, RW_eFn, RW_gFn, RW_call, FW_nx, FW_nil, FW_break, FW_cont, FW_seq, FW_if, FW_expr, FW_ret, FW_retG, FW_retN, FW_put, FW_asg, FW_asgG, FW_asgT, FW_par, FW_sub, FW_store, FW_aug, FW_raise, FW_try, keepP, RW_rng1, RW_rng2, ints2_1, ints2_2, RW_rg1, RW_rg2, RW_gRg, RW_op1S, RW_lst, isN_non, isi_non_tuple, isi_non_list, isi_non_bool, isi_non_int, isi_non_str, isN_bl, isi_bl_tuple, isi_bl_list, isi_bl_bool, isi_bl_int, isi_bl_str, isN_int, isi_int_tuple, isi_int_list, isi_int_bool, isi_int_int, isi_int_str, isN_str, isi_str_tuple, isi_str_list, isi_str_bool, isi_str_int, isi_str_str, isN_lst, isi_lst_tuple, isi_lst_list, isi_lst_bool, isi_lst_int, isi_lst_str, isN_tup, isi_tup_tuple, isi_tup_list, isi_tup_bool, isi_tup_int, isi_tup_str, RW_seq, startD_eq, startA, setT_nm, setT_tp, setN_nil, setN_cons, bindA, argD, pairsA, putM, ndup, mutsD, mutIdx, intD_int, intD_bl, absD_int, lenD_lst, lenD_tup, lenD_str, tupD_lst, tupD_tup, max2D_ii, min2D_ii, szl, items_lst, items_tup, RW_comp, RW_yes, wipeD, RW_addL, RW_addT, RW_addS, RW_iadd, RW_gCat, RW_gRep, RW_gRev, RW_zip, RW_enum, RW_enum2, stF, RW_oN, RW_oS, RW_sl, sliceD_lst, sliceD_tup, RW_mut, RW_mutF, isOwn, lm_app, ixN_l0, ixN_l1, ixN_l2, ixN_l3, ixN_l4, ixN_l5, List.reverse_cons, List.reverse_nil, List.getElem?_nil, Nat.reduceAdd, Nat.reduceLeDiff, Nat.reduceLT, Int.reduceLT, Int.reduceLE, Int.reduceAdd, Int.reduceSub, Int.reduceMul, Int.reduceNeg, Int.reduceEq, Int.reduceToNat, Nat.reduceEqDiff, List.replicate_succ, List.replicate_zero, List.cons_append, List.nil_append, List.getElem?_cons_zero, List.getElem?_cons_succ, List.set_cons_zero, List.set_cons_succ, List.length_cons, List.length_nil, List.map_cons, List.map_nil, List.contains_nil, List.contains_cons, Option.map_some, Option.bind_some, decide_eq_true_eq, decide_eq_false_iff_not, decide_true, decide_false, Bool.not_true, Bool.not_false, Bool.and_true, Bool.true_and, Bool.and_false, Bool.false_and, Bool.or_false, Bool.false_or, Bool.or_true, Bool.true_or, Bool.not_eq_true', Bool.not_eq_false', Bool.false_eq_true, Bool.true_eq_false, reduceCtorEq, true_implies, false_implies, forall_const, not_true_eq_false, not_false_eq_true, and_true, true_and, and_self, if_true, if_false, ite_true, ite_false, eq_self]
    refine ⟨?_, fun hb => trivial, fun hb => rfl⟩
    show _ = (gs.contains x == true)
    cases gs.contains x <;> rfl
  rw [part_enum]
  walk_at "ev"
  walk_at "st"
  have a := part_len false ns gs
  have b := part_len true ns gs
  exact ⟨by omega, q⟩
/-- both ends by turns -/
def turnN (m k : Nat) : Int := if k % 2 = 0 then ((k / 2 : Nat) : Int) else (m : Int) - 1 - ((k / 2 : Nat) : Int)
def turnsD (m : Nat) : List D := (List.range m).map fun k => D.int (turnN m k)
theorem turn_spec {m : Nat} (hm : m ≤ 1000) (q : Q (.tup (turnsD m)) []) : MW (m_turn_places [.int (m : Int)]) Q G E := by
  refine MW_run (t := t_turn_places) ?_
  delta t_turn_places
  obtain ⟨n, hn⟩ : ∃ n : Int, n = (m : Int) := ⟨_, rfl⟩
  rw [← hn]
  walk_at "st"
  refine ⟨by unfold smallI; rw [Bool.and_eq_true]; exact ⟨decide_eq_true (by omega), decide_eq_true (by omega)⟩, ?_⟩
  refine comp_map (fun d => match d with | .int i => .int (turnN m i.toNat) | _ => .non) (by rw [rangeD_len, szl]; omega) (fun i dd h => ?_) ?_
  · obtain ⟨rfl, hi⟩ := rangeD_at h
    refine ⟨_, rfl, ?_⟩
    walk_at "ev"
    rw [Int.zero_add, Int.toNat_natCast]
    refine ⟨fun hb => ?_, fun hb => ?_⟩
    · refine ⟨divOk_lit (by decide +kernel), ?_⟩
      unfold turnN
      rw [if_pos (by omega), Int.natCast_ediv]
      rfl
    · refine ⟨divOk_lit (by decide +kernel), ?_⟩
      unfold turnN
      rw [if_neg (by omega), Int.natCast_ediv, hn]
      rfl
  have e : (rangeD 0 n).map (fun d => match d with | .int i => D.int (turnN m i.toNat) | _ => .non) = turnsD m := by
    unfold rangeD turnsD
    rw [List.map_map, hn, show ((m : Int) - 0).toNat = m by omega]
    apply List.map_congr_left
    intro k _
    show D.int (turnN m (0 + (k : Int)).toNat) = _
    rw [Int.zero_add, Int.toNat_natCast]
  rw [e]
  walk_at "ev"
  exact q
end
end LK

set_option Elab.async false
set_option linter.all false
set_option maxRecDepth 10000
set_option exponentiation.threshold 4000
namespace LK
open PySem L2 DL
section
variable {Q G : D → List D → Prop} {E : Str → List Str → List D → List D → Prop}
/-- the places in the order of an ordered rule -/
def spots (x : Str) (v : Int) (ns gs : List Int) : List D :=
  if x = "bottom" then (rangeD 0 (ns.length : Int)).reverse
  else if x = "turns" then turnsD ns.length
  else if x = "hold" then cutD (rangeD 0 (ns.length : Int)) (some 1) none ++ cutD (rangeD 0 (ns.length : Int)) none (some 1)
  else if x = "shy" then part false ns [v] ++ part true ns [v]
  else if x = "late" then part false ns gs ++ part true ns gs
  else rangeD 0 (ns.length : Int)
theorem taking_unknown {x : Str} {v : Int} {d e : D} (h : inD (.str x) (unb d_MODES) = some false) (k : E "Unknown" ["name"] [.str x] []) : MW (m_taking_places [.str x, .int v, d, e]) Q G E := by
  refine MW_run (t := t_taking_places) ?_
  delta t_taking_places
  (refine LZ_in ?_; simp only [h, LR_c, LR_n, RW_eBor, lnD_n, lnD_k, lnD_l, MG_d, mrg_n, mrg_0, mrg_f, mrg_l, mrg_o, mrg_on, nobV_fz, nob_int, nob_str, nob_bl, nob_non, nob_lst, nob_tup, nobL_n, nobL_c, nobL_a, nobL_i, nobL_s, Nat.reduceBEq, beq_self_eq_true, unb_non, unb_bl, unb_int, unb_str, unb_ty, unb_cls, unb_lst, unb_tup, unb_brw, unb_scr, unb_ins, unb_exc, items_brw, RW_ok, RW_exc, RW_stuck, RW_C, RW_var, RW_bin, RW_un, RW_vB, RW_T, RW_bAnd, RW_bOr, RW_bNot, RW_eAnd, RW_eOr, RW_eNot, RW_eIf, RW_aNil, RW_aCons, RW_gFz, RW_gDis, RW_eCall, RW_gCall, RW_fn1, RW_fn2, RW_fnL, dr_fz, dr_sl, frz_fz, frz_sl, frzs_nil, frzs_cons, RW_add, RW_sub, RW_lt, RW_le, RW_gt, RW_ge, RW_neg, RW_mul, RW_div, RW_mod, RW_pow, RW_eq0, RW_eq1, eqD_ii, eqD_ss, eqD_bb, Int.cast_ofNat_Int, RW_in, RW_is, RW_ix, getD_lst, getD_tup, atI_0, atI_1, atI_2, atI_3, atI_4, atI_5, RW_eFn, RW_gFn, RW_call, FW_nx, FW_nil, FW_break, FW_cont, FW_seq, FW_if, FW_expr, FW_ret, FW_retG, FW_retN, FW_put, FW_asg, FW_asgG, FW_asgT, FW_par, FW_sub, FW_store, FW_aug, FW_raise, FW_try, keepP, RW_rng1, RW_rng2, ints2_1, ints2_2, RW_rg1, RW_rg2, RW_gRg, RW_op1S, RW_lst, isN_non, isi_non_tuple, isi_non_list, isi_non_bool, isi_non_int, isi_non_str, isN_bl, isi_bl_tuple, isi_bl_list, isi_bl_bool, isi_bl_int, isi_bl_str, isN_int, isi_int_tuple, isi_int_list, isi_int_bool, isi_int_int, isi_int_str, isN_str, isi_str_tuple, isi_str_list, isi_str_bool, isi_str_int, isi_str_str, isN_lst, isi_lst_tuple, isi_lst_list, isi_lst_bool, isi_lst_int, isi_lst_str, isN_tup, isi_tup_tuple, isi_tup_list, isi_tup_bool, isi_tup_int, isi_tup_str, RW_seq, startD_eq, startA, setT_nm, setT_tp, setN_nil, setN_cons, bindA, argD, pairsA, putM, ndup, mutsD, mutIdx, intD_int, intD_bl, absD_int, lenD_lst, lenD_tup, lenD_str, tupD_lst, tupD_tup, max2D_ii, min2D_ii, szl, items_lst, items_tup, RW_comp, RW_yes, wipeD, RW_addL, RW_addT, RW_addS, RW_iadd, RW_gCat, RW_gRep, RW_gRev, RW_zip, RW_enum, RW_enum2, stF, RW_oN, RW_oS, RW_sl, sliceD_lst, sliceD_tup, RW_mut, RW_mutF, isOwn, lm_app, ixN_l0, ixN_l1, ixN_l2, ixN_l3, ixN_l4, ixN_l5, List.reverse_cons, List.reverse_nil, List.getElem?_nil, Nat.reduceAdd, Nat.reduceLeDiff, Nat.reduceLT, Int.reduceLT, Int.reduceLE, Int.reduceAdd, Int.reduceSub, Int.reduceMul, Int.reduceNeg, Int.reduceEq, Int.reduceToNat, Nat.reduceEqDiff, List.replicate_succ, List.replicate_zero, List.cons_append, List.nil_append, List.getElem?_cons_zero, List.getElem?_cons_succ, List.set_cons_zero, List.set_cons_succ, List.length_cons, List.length_nil, List.map_cons, List.map_nil, List.contains_nil, List.contains_cons, Option.map_some, Option.bind_some, decide_eq_true_eq, decide_eq_false_iff_not, decide_true, decide_false, Bool.not_true, Bool.not_false, Bool.and_true, Bool.true_and, Bool.and_false, Bool.false_and, Bool.or_false, Bool.false_or, Bool.or_true, Bool.true_or, Bool.not_eq_true', Bool.not_eq_false', Bool.false_eq_true, Bool.true_eq_false, reduceCtorEq, true_implies, false_implies, forall_const, not_true_eq_false, not_false_eq_true, and_true, true_and, and_self, if_true, if_false, ite_true, ite_false, eq_self])
  walk_at "st"
  exact k
theorem taking_local {x : Str} {v : Int} {d e : D} (h : inD (.str x) (unb d_MODES) = some true) (h2 : inD (.str x) (unb d_CHOOSING) = some true) (k : E "NotLocal" ["station"] [.int v] []) : MW (m_taking_places [.str x, .int v, d, e]) Q G E := by
  refine MW_run (t := t_taking_places) ?_
  delta t_taking_places
  (refine LZ_in ?_; simp only [h, LR_c, LR_n, RW_eBor, lnD_n, lnD_k, lnD_l, MG_d, mrg_n, mrg_0, mrg_f, mrg_l, mrg_o, mrg_on, nobV_fz, nob_int, nob_str, nob_bl, nob_non, nob_lst, nob_tup, nobL_n, nobL_c, nobL_a, nobL_i, nobL_s, Nat.reduceBEq, beq_self_eq_true, unb_non, unb_bl, unb_int, unb_str, unb_ty, unb_cls, unb_lst, unb_tup, unb_brw, unb_scr, unb_ins, unb_exc, items_brw, RW_ok, RW_exc, RW_stuck, RW_C, RW_var, RW_bin, RW_un, RW_vB, RW_T, RW_bAnd, RW_bOr, RW_bNot, RW_eAnd, RW_eOr, RW_eNot, RW_eIf, RW_aNil, RW_aCons, RW_gFz, RW_gDis, RW_eCall, RW_gCall, RW_fn1, RW_fn2, RW_fnL, dr_fz, dr_sl, frz_fz, frz_sl, frzs_nil, frzs_cons, RW_add, RW_sub, RW_lt, RW_le, RW_gt, RW_ge, RW_neg, RW_mul, RW_div, RW_mod, RW_pow, RW_eq0, RW_eq1, eqD_ii, eqD_ss, eqD_bb, Int.cast_ofNat_Int, RW_in, RW_is, RW_ix, getD_lst, getD_tup, atI_0, atI_1, atI_2, atI_3, atI_4, atI_5, RW_eFn, RW_gFn, RW_call, FW_nx, FW_nil, FW_break, FW_cont, FW_seq, FW_if, FW_expr, FW_ret, FW_retG, FW_retN, FW_put, FW_asg, FW_asgG, FW_asgT, FW_par, FW_sub, FW_store, FW_aug, FW_raise, FW_try, keepP, RW_rng1, RW_rng2, ints2_1, ints2_2, RW_rg1, RW_rg2, RW_gRg, RW_op1S, RW_lst, isN_non, isi_non_tuple, isi_non_list, isi_non_bool, isi_non_int, isi_non_str, isN_bl, isi_bl_tuple, isi_bl_list, isi_bl_bool, isi_bl_int, isi_bl_str, isN_int, isi_int_tuple, isi_int_list, isi_int_bool, isi_int_int, isi_int_str, isN_str, isi_str_tuple, isi_str_list, isi_str_bool, isi_str_int, isi_str_str, isN_lst, isi_lst_tuple, isi_lst_list, isi_lst_bool, isi_lst_int, isi_lst_str, isN_tup, isi_tup_tuple, isi_tup_list, isi_tup_bool, isi_tup_int, isi_tup_str, RW_seq, startD_eq, startA, setT_nm, setT_tp, setN_nil, setN_cons, bindA, argD, pairsA, putM, ndup, mutsD, mutIdx, intD_int, intD_bl, absD_int, lenD_lst, lenD_tup, lenD_str, tupD_lst, tupD_tup, max2D_ii, min2D_ii, szl, items_lst, items_tup, RW_comp, RW_yes, wipeD, RW_addL, RW_addT, RW_addS, RW_iadd, RW_gCat, RW_gRep, RW_gRev, RW_zip, RW_enum, RW_enum2, stF, RW_oN, RW_oS, RW_sl, sliceD_lst, sliceD_tup, RW_mut, RW_mutF, isOwn, lm_app, ixN_l0, ixN_l1, ixN_l2, ixN_l3, ixN_l4, ixN_l5, List.reverse_cons, List.reverse_nil, List.getElem?_nil, Nat.reduceAdd, Nat.reduceLeDiff, Nat.reduceLT, Int.reduceLT, Int.reduceLE, Int.reduceAdd, Int.reduceSub, Int.reduceMul, Int.reduceNeg, Int.reduceEq, Int.reduceToNat, Nat.reduceEqDiff, List.replicate_succ, List.replicate_zero, List.cons_append, List.nil_append, List.getElem?_cons_zero, List.getElem?_cons_succ, List.set_cons_zero, List.set_cons_succ, List.length_cons, List.length_nil, List.map_cons, List.map_nil, List.contains_nil, List.contains_cons, Option.map_some, Option.bind_some, decide_eq_true_eq, decide_eq_false_iff_not, decide_true, decide_false, Bool.not_true, Bool.not_false, Bool.and_true, Bool.true_and, Bool.and_false, Bool.false_and, Bool.or_false, Bool.false_or, Bool.or_true, Bool.true_or, Bool.not_eq_true', Bool.not_eq_false', Bool.false_eq_true, Bool.true_eq_false, reduceCtorEq, true_implies, false_implies, forall_const, not_true_eq_false, not_false_eq_true, and_true, true_and, and_self, if_true, if_false, ite_true, ite_false, eq_self])
  walk_at "st"
  (refine LZ_in ?_; simp only [h2, LR_c, LR_n, RW_eBor, lnD_n, lnD_k, lnD_l, MG_d, mrg_n, mrg_0, mrg_f, mrg_l, mrg_o, mrg_on, nobV_fz, nob_int, nob_str, nob_bl, nob_non, nob_lst, nob_tup, nobL_n, nobL_c, nobL_a, nobL_i, nobL_s, Nat.reduceBEq, beq_self_eq_true, unb_non, unb_bl, unb_int, unb_str, unb_ty, unb_cls, unb_lst, unb_tup, unb_brw, unb_scr, unb_ins, unb_exc, items_brw, RW_ok, RW_exc, RW_stuck, RW_C, RW_var, RW_bin, RW_un, RW_vB, RW_T, RW_bAnd, RW_bOr, RW_bNot, RW_eAnd, RW_eOr, RW_eNot, RW_eIf, RW_aNil, RW_aCons, RW_gFz, RW_gDis, RW_eCall, RW_gCall, RW_fn1, RW_fn2, RW_fnL, dr_fz, dr_sl, frz_fz, frz_sl, frzs_nil, frzs_cons, RW_add, RW_sub, RW_lt, RW_le, RW_gt, RW_ge, RW_neg, RW_mul, RW_div, RW_mod, RW_pow, RW_eq0, RW_eq1, eqD_ii, eqD_ss, eqD_bb, Int.cast_ofNat_Int, RW_in, RW_is, RW_ix, getD_lst, getD_tup, atI_0, atI_1, atI_2, atI_3, atI_4, atI_5, RW_eFn, RW_gFn, RW_call, FW_nx, FW_nil, FW_break, FW_cont, FW_seq, FW_if, FW_expr, FW_ret, FW_retG, FW_retN, FW_put, FW_asg, FW_asgG, FW_asgT, FW_par, FW_sub, FW_store, FW_aug, FW_raise, FW_try, keepP, RW_rng1, RW_rng2, ints2_1, ints2_2, RW_rg1, RW_rg2, RW_gRg, RW_op1S, RW_lst, isN_non, isi_non_tuple, isi_non_list, isi_non_bool, isi_non_int, isi_non_str, isN_bl, isi_bl_tuple, isi_bl_list, isi_bl_bool, isi_bl_int, isi_bl_str, isN_int, isi_int_tuple, isi_int_list, isi_int_bool, isi_int_int, isi_int_str, isN_str, isi_str_tuple, isi_str_list, isi_str_bool, isi_str_int, isi_str_str, isN_lst, isi_lst_tuple, isi_lst_list, isi_lst_bool, isi_lst_int, isi_lst_str, isN_tup, isi_tup_tuple, isi_tup_list, isi_tup_bool, isi_tup_int, isi_tup_str, RW_seq, startD_eq, startA, setT_nm, setT_tp, setN_nil, setN_cons, bindA, argD, pairsA, putM, ndup, mutsD, mutIdx, intD_int, intD_bl, absD_int, lenD_lst, lenD_tup, lenD_str, tupD_lst, tupD_tup, max2D_ii, min2D_ii, szl, items_lst, items_tup, RW_comp, RW_yes, wipeD, RW_addL, RW_addT, RW_addS, RW_iadd, RW_gCat, RW_gRep, RW_gRev, RW_zip, RW_enum, RW_enum2, stF, RW_oN, RW_oS, RW_sl, sliceD_lst, sliceD_tup, RW_mut, RW_mutF, isOwn, lm_app, ixN_l0, ixN_l1, ixN_l2, ixN_l3, ixN_l4, ixN_l5, List.reverse_cons, List.reverse_nil, List.getElem?_nil, Nat.reduceAdd, Nat.reduceLeDiff, Nat.reduceLT, Int.reduceLT, Int.reduceLE, Int.reduceAdd, Int.reduceSub, Int.reduceMul, Int.reduceNeg, Int.reduceEq, Int.reduceToNat, Nat.reduceEqDiff, List.replicate_succ, List.replicate_zero, List.cons_append, List.nil_append, List.getElem?_cons_zero, List.getElem?_cons_succ, List.set_cons_zero, List.set_cons_succ, List.length_cons, List.length_nil, List.map_cons, List.map_nil, List.contains_nil, List.contains_cons, Option.map_some, Option.bind_some, decide_eq_true_eq, decide_eq_false_iff_not, decide_true, decide_false, Bool.not_true, Bool.not_false, Bool.and_true, Bool.true_and, Bool.and_false, Bool.false_and, Bool.or_false, Bool.false_or, Bool.or_true, Bool.true_or, Bool.not_eq_true', Bool.not_eq_false', Bool.false_eq_true, Bool.true_eq_false, reduceCtorEq, true_implies, false_implies, forall_const, not_true_eq_false, not_false_eq_true, and_true, true_and, and_self, if_true, if_false, ite_true, ite_false, eq_self])
  walk_at "st"
  exact k
theorem taking_ok {x : Str} {v : Int} {d e : D} {ns gs : List Int} (hd : Row d ns) (he : Row e gs) (hn : ns.length ≤ 1000) (h : inD (.str x) (unb d_MODES) = some true) (h2 : inD (.str x) (unb d_CHOOSING) = some false) (q : Q (.tup (spots x v ns gs)) []) : MW (m_taking_places [.str x, .int v, d, e]) Q G E := by
  refine MW_run (t := t_taking_places) ?_
  delta t_taking_places
  (refine LZ_in ?_; simp only [h, LR_c, LR_n, RW_eBor, lnD_n, lnD_k, lnD_l, MG_d, mrg_n, mrg_0, mrg_f, mrg_l, mrg_o, mrg_on, nobV_fz, nob_int, nob_str, nob_bl, nob_non, nob_lst, nob_tup, nobL_n, nobL_c, nobL_a, nobL_i, nobL_s, Nat.reduceBEq, beq_self_eq_true, unb_non, unb_bl, unb_int, unb_str, unb_ty, unb_cls, unb_lst, unb_tup, unb_brw, unb_scr, unb_ins, unb_exc, items_brw, RW_ok, RW_exc, RW_stuck, RW_C, RW_var, RW_bin, RW_un, RW_vB, RW_T, RW_bAnd, RW_bOr, RW_bNot, RW_eAnd, RW_eOr, RW_eNot, RW_eIf, RW_aNil, RW_aCons, RW_gFz, RW_gDis, RW_eCall, RW_gCall, RW_fn1, RW_fn2, RW_fnL, dr_fz, dr_sl, frz_fz, frz_sl, frzs_nil, frzs_cons, RW_add, RW_sub, RW_lt, RW_le, RW_gt, RW_ge, RW_neg, RW_mul, RW_div, RW_mod, RW_pow, RW_eq0, RW_eq1, eqD_ii, eqD_ss, eqD_bb, Int.cast_ofNat_Int, RW_in, RW_is, RW_ix, getD_lst, getD_tup, atI_0, atI_1, atI_2, atI_3, atI_4, atI_5, RW_eFn, RW_gFn, RW_call, FW_nx, FW_nil, FW_break, FW_cont, FW_seq, FW_if, FW_expr, FW_ret, FW_retG, FW_retN, FW_put, FW_asg, FW_asgG, FW_asgT, FW_par, FW_sub, FW_store, FW_aug, FW_raise, FW_try, keepP, RW_rng1, RW_rng2, ints2_1, ints2_2, RW_rg1, RW_rg2, RW_gRg, RW_op1S, RW_lst, isN_non, isi_non_tuple, isi_non_list, isi_non_bool, isi_non_int, isi_non_str, isN_bl, isi_bl_tuple, isi_bl_list, isi_bl_bool, isi_bl_int, isi_bl_str, isN_int, isi_int_tuple, isi_int_list, isi_int_bool, isi_int_int, isi_int_str, isN_str, isi_str_tuple, isi_str_list, isi_str_bool, isi_str_int, isi_str_str, isN_lst, isi_lst_tuple, isi_lst_list, isi_lst_bool, isi_lst_int, isi_lst_str, isN_tup, isi_tup_tuple, isi_tup_list, isi_tup_bool, isi_tup_int, isi_tup_str, RW_seq, startD_eq, startA, setT_nm, setT_tp, setN_nil, setN_cons, bindA, argD, pairsA, putM, ndup, mutsD, mutIdx, intD_int, intD_bl, absD_int, lenD_lst, lenD_tup, lenD_str, tupD_lst, tupD_tup, max2D_ii, min2D_ii, szl, items_lst, items_tup, RW_comp, RW_yes, wipeD, RW_addL, RW_addT, RW_addS, RW_iadd, RW_gCat, RW_gRep, RW_gRev, RW_zip, RW_enum, RW_enum2, stF, RW_oN, RW_oS, RW_sl, sliceD_lst, sliceD_tup, RW_mut, RW_mutF, isOwn, lm_app, ixN_l0, ixN_l1, ixN_l2, ixN_l3, ixN_l4, ixN_l5, List.reverse_cons, List.reverse_nil, List.getElem?_nil, Nat.reduceAdd, Nat.reduceLeDiff, Nat.reduceLT, Int.reduceLT, Int.reduceLE, Int.reduceAdd, Int.reduceSub, Int.reduceMul, Int.reduceNeg, Int.reduceEq, Int.reduceToNat, Nat.reduceEqDiff, List.replicate_succ, List.replicate_zero, List.cons_append, List.nil_append, List.getElem?_cons_zero, List.getElem?_cons_succ, List.set_cons_zero, List.set_cons_succ, List.length_cons, List.length_nil, List.map_cons, List.map_nil, List.contains_nil, List.contains_cons, Option.map_some, Option.bind_some, decide_eq_true_eq, decide_eq_false_iff_not, decide_true, decide_false, Bool.not_true, Bool.not_false, Bool.and_true, Bool.true_and, Bool.and_false, Bool.false_and, Bool.or_false, Bool.false_or, Bool.or_true, Bool.true_or, Bool.not_eq_true', Bool.not_eq_false', Bool.false_eq_true, Bool.true_eq_false, reduceCtorEq, true_implies, false_implies, forall_const, not_true_eq_false, not_false_eq_true, and_true, true_and, and_self, if_true, if_false, ite_true, ite_false, eq_self])
  walk_at "st"
  (refine LZ_in ?_; simp only [h2, LR_c, LR_n, RW_eBor, lnD_n, lnD_k, lnD_l, MG_d, mrg_n, mrg_0, mrg_f, mrg_l, mrg_o, mrg_on, nobV_fz, nob_int, nob_str, nob_bl, nob_non, nob_lst, nob_tup, nobL_n, nobL_c, nobL_a, nobL_i, nobL_s, Nat.reduceBEq, beq_self_eq_true, unb_non, unb_bl, unb_int, unb_str, unb_ty, unb_cls, unb_lst, unb_tup, unb_brw, unb_scr, unb_ins, unb_exc, items_brw, RW_ok, RW_exc, RW_stuck, RW_C, RW_var, RW_bin, RW_un, RW_vB, RW_T, RW_bAnd, RW_bOr, RW_bNot, RW_eAnd, RW_eOr, RW_eNot, RW_eIf, RW_aNil, RW_aCons, RW_gFz, RW_gDis, RW_eCall, RW_gCall, RW_fn1, RW_fn2, RW_fnL, dr_fz, dr_sl, frz_fz, frz_sl, frzs_nil, frzs_cons, RW_add, RW_sub, RW_lt, RW_le, RW_gt, RW_ge, RW_neg, RW_mul, RW_div, RW_mod, RW_pow, RW_eq0, RW_eq1, eqD_ii, eqD_ss, eqD_bb, Int.cast_ofNat_Int, RW_in, RW_is, RW_ix, getD_lst, getD_tup, atI_0, atI_1, atI_2, atI_3, atI_4, atI_5, RW_eFn, RW_gFn, RW_call, FW_nx, FW_nil, FW_break, FW_cont, FW_seq, FW_if, FW_expr, FW_ret, FW_retG, FW_retN, FW_put, FW_asg, FW_asgG, FW_asgT, FW_par, FW_sub, FW_store, FW_aug, FW_raise, FW_try, keepP, RW_rng1, RW_rng2, ints2_1, ints2_2, RW_rg1, RW_rg2, RW_gRg, RW_op1S, RW_lst, isN_non, isi_non_tuple, isi_non_list, isi_non_bool, isi_non_int, isi_non_str, isN_bl, isi_bl_tuple, isi_bl_list, isi_bl_bool, isi_bl_int, isi_bl_str, isN_int, isi_int_tuple, isi_int_list, isi_int_bool, isi_int_int, isi_int_str, isN_str, isi_str_tuple, isi_str_list, isi_str_bool, isi_str_int, isi_str_str, isN_lst, isi_lst_tuple, isi_lst_list, isi_lst_bool, isi_lst_int, isi_lst_str, isN_tup, isi_tup_tuple, isi_tup_list, isi_tup_bool, isi_tup_int, isi_tup_str, RW_seq, startD_eq, startA, setT_nm, setT_tp, setN_nil, setN_cons, bindA, argD, pairsA, putM, ndup, mutsD, mutIdx, intD_int, intD_bl, absD_int, lenD_lst, lenD_tup, lenD_str, tupD_lst, tupD_tup, max2D_ii, min2D_ii, szl, items_lst, items_tup, RW_comp, RW_yes, wipeD, RW_addL, RW_addT, RW_addS, RW_iadd, RW_gCat, RW_gRep, RW_gRev, RW_zip, RW_enum, RW_enum2, stF, RW_oN, RW_oS, RW_sl, sliceD_lst, sliceD_tup, RW_mut, RW_mutF, isOwn, lm_app, ixN_l0, ixN_l1, ixN_l2, ixN_l3, ixN_l4, ixN_l5, List.reverse_cons, List.reverse_nil, List.getElem?_nil, Nat.reduceAdd, Nat.reduceLeDiff, Nat.reduceLT, Int.reduceLT, Int.reduceLE, Int.reduceAdd, Int.reduceSub, Int.reduceMul, Int.reduceNeg, Int.reduceEq, Int.reduceToNat, Nat.reduceEqDiff, List.replicate_succ, List.replicate_zero, List.cons_append, List.nil_append, List.getElem?_cons_zero, List.getElem?_cons_succ, List.set_cons_zero, List.set_cons_succ, List.length_cons, List.length_nil, List.map_cons, List.map_nil, List.contains_nil, List.contains_cons, Option.map_some, Option.bind_some, decide_eq_true_eq, decide_eq_false_iff_not, decide_true, decide_false, Bool.not_true, Bool.not_false, Bool.and_true, Bool.true_and, Bool.and_false, Bool.false_and, Bool.or_false, Bool.false_or, Bool.or_true, Bool.true_or, Bool.not_eq_true', Bool.not_eq_false', Bool.false_eq_true, Bool.true_eq_false, reduceCtorEq, true_implies, false_implies, forall_const, not_true_eq_false, not_false_eq_true, and_true, true_and, and_self, if_true, if_false, ite_true, ite_false, eq_self])
  walk_at "st"
  have hl := Seq.len hd
  rw [List.length_map] at hl
  obtain ⟨n, hnn⟩ : ∃ n : Int, n = (ns.length : Int) := ⟨_, rfl⟩
  unfold spots at q
  rw [← hnn] at hl q
  (refine LZ_in ?_; simp only [hl, LR_c, LR_n, RW_eBor, lnD_n, lnD_k, lnD_l, MG_d, mrg_n, mrg_0, mrg_f, mrg_l, mrg_o, mrg_on, nobV_fz, nob_int, nob_str, nob_bl, nob_non, nob_lst, nob_tup, nobL_n, nobL_c, nobL_a, nobL_i, nobL_s, Nat.reduceBEq, beq_self_eq_true, unb_non, unb_bl, unb_int, unb_str, unb_ty, unb_cls, unb_lst, unb_tup, unb_brw, unb_scr, unb_ins, unb_exc, items_brw, RW_ok, RW_exc, RW_stuck, RW_C, RW_var, RW_bin, RW_un, RW_vB, RW_T, RW_bAnd, RW_bOr, RW_bNot, RW_eAnd, RW_eOr, RW_eNot, RW_eIf, RW_aNil, RW_aCons, RW_gFz, RW_gDis, RW_eCall, RW_gCall, RW_fn1, RW_fn2, RW_fnL, dr_fz, dr_sl, frz_fz, frz_sl, frzs_nil, frzs_cons, RW_add, RW_sub, RW_lt, RW_le, RW_gt, RW_ge, RW_neg, RW_mul, RW_div, RW_mod, RW_pow, RW_eq0, RW_eq1, eqD_ii, eqD_ss, eqD_bb, Int.cast_ofNat_Int, RW_in, RW_is, RW_ix, getD_lst, getD_tup, atI_0, atI_1, atI_2, atI_3, atI_4, atI_5, RW_eFn, RW_gFn, RW_call, FW_nx, FW_nil, FW_break, FW_cont, FW_seq, FW_if, FW_expr, FW_ret, FW_retG, FW_retN, FW_put, FW_asg, FW_asgG, FW_asgT, FW_par, FW_sub, FW_store, FW_aug, FW_raise, FW_try, keepP, RW_rng1, RW_rng2, ints2_1, ints2_2, RW_rg1, RW_rg2, RW_gRg, RW_op1S, RW_lst, isN_non, isi_non_tuple, isi_non_list, isi_non_bool, isi_non_int, isi_non_str, isN_bl, isi_bl_tuple, isi_bl_list, isi_bl_bool, isi_bl_int, isi_bl_str, isN_int, isi_int_tuple, isi_int_list, isi_int_bool, isi_int_int, isi_int_str, isN_str, isi_str_tuple, isi_str_list, isi_str_bool, isi_str_int, isi_str_str, isN_lst, isi_lst_tuple, isi_lst_list, isi_lst_bool, isi_lst_int, isi_lst_str, isN_tup, isi_tup_tuple, isi_tup_list, isi_tup_bool, isi_tup_int, isi_tup_str, RW_seq, startD_eq, startA, setT_nm, setT_tp, setN_nil, setN_cons, bindA, argD, pairsA, putM, ndup, mutsD, mutIdx, intD_int, intD_bl, absD_int, lenD_lst, lenD_tup, lenD_str, tupD_lst, tupD_tup, max2D_ii, min2D_ii, szl, items_lst, items_tup, RW_comp, RW_yes, wipeD, RW_addL, RW_addT, RW_addS, RW_iadd, RW_gCat, RW_gRep, RW_gRev, RW_zip, RW_enum, RW_enum2, stF, RW_oN, RW_oS, RW_sl, sliceD_lst, sliceD_tup, RW_mut, RW_mutF, isOwn, lm_app, ixN_l0, ixN_l1, ixN_l2, ixN_l3, ixN_l4, ixN_l5, List.reverse_cons, List.reverse_nil, List.getElem?_nil, Nat.reduceAdd, Nat.reduceLeDiff, Nat.reduceLT, Int.reduceLT, Int.reduceLE, Int.reduceAdd, Int.reduceSub, Int.reduceMul, Int.reduceNeg, Int.reduceEq, Int.reduceToNat, Nat.reduceEqDiff, List.replicate_succ, List.replicate_zero, List.cons_append, List.nil_append, List.getElem?_cons_zero, List.getElem?_cons_succ, List.set_cons_zero, List.set_cons_succ, List.length_cons, List.length_nil, List.map_cons, List.map_nil, List.contains_nil, List.contains_cons, Option.map_some, Option.bind_some, decide_eq_true_eq, decide_eq_false_iff_not, decide_true, decide_false, Bool.not_true, Bool.not_false, Bool.and_true, Bool.true_and, Bool.and_false, Bool.false_and, Bool.or_false, Bool.false_or, Bool.or_true, Bool.true_or, Bool.not_eq_true', Bool.not_eq_false', Bool.false_eq_true, Bool.true_eq_false, reduceCtorEq, true_implies, false_implies, forall_const, not_true_eq_false, not_false_eq_true, and_true, true_and, and_self, if_true, if_false, ite_true, ite_false, eq_self])
  refine ⟨lit_rgOk (by omega) (by omega) (by omega) (by omega) (by omega), ?_⟩
  have rl : (rangeD 0 n).length ≤ 1000 := by rw [rangeD_len]; omega
  walk_at "st"
  refine ⟨fun hx => ?_, fun hx => ?_⟩
  · walk_at "st"
    rw [if_pos hx] at q
    exact q
  rw [if_neg hx] at q
  walk_at "st"
  walk_at "st"
  refine ⟨fun hx => ?_, fun hx => ?_⟩
  · rw [if_pos hx] at q
    (refine LZ_in ?_; simp only [hl, LR_c, LR_n, RW_eBor, lnD_n, lnD_k, lnD_l, MG_d, mrg_n, mrg_0, mrg_f, mrg_l, mrg_o, mrg_on, nobV_fz, nob_int, nob_str, nob_bl, nob_non, nob_lst, nob_tup, nobL_n, nobL_c, nobL_a, nobL_i, nobL_s, Nat.reduceBEq, beq_self_eq_true, unb_non, unb_bl, unb_int, unb_str, unb_ty, unb_cls, unb_lst, unb_tup, unb_brw, unb_scr, unb_ins, unb_exc, items_brw, RW_ok, RW_exc, RW_stuck, RW_C, RW_var, RW_bin, RW_un, RW_vB, RW_T, RW_bAnd, RW_bOr, RW_bNot, RW_eAnd, RW_eOr, RW_eNot, RW_eIf, RW_aNil, RW_aCons, RW_gFz, RW_gDis, RW_eCall, RW_gCall, RW_fn1, RW_fn2, RW_fnL, dr_fz, dr_sl, frz_fz, frz_sl, frzs_nil, frzs_cons, RW_add, RW_sub, RW_lt, RW_le, RW_gt, RW_ge, RW_neg, RW_mul, RW_div, RW_mod, RW_pow, RW_eq0, RW_eq1, eqD_ii, eqD_ss, eqD_bb, Int.cast_ofNat_Int, RW_in, RW_is, RW_ix, getD_lst, getD_tup, atI_0, atI_1, atI_2, atI_3, atI_4, atI_5, RW_eFn, RW_gFn, RW_call, FW_nx, FW_nil, FW_break, FW_cont, FW_seq, FW_if, FW_expr, FW_ret, FW_retG, FW_retN, FW_put, FW_asg, FW_asgG, FW_asgT, FW_par, FW_sub, FW_store, FW_aug, FW_raise, FW_try, keepP, RW_rng1, RW_rng2, ints2_1, ints2_2, RW_rg1, RW_rg2, RW_gRg, RW_op1S, RW_lst, isN_non, isi_non_tuple, isi_non_list, isi_non_bool, isi_non_int, isi_non_str, isN_bl, isi_bl_tuple, isi_bl_list, isi_bl_bool, isi_bl_int, isi_bl_str, isN_int, isi_int_tuple, isi_int_list, isi_int_bool, isi_int_int, isi_int_str, isN_str, isi_str_tuple, isi_str_list, isi_str_bool, isi_str_int, isi_str_str, isN_lst, isi_lst_tuple, isi_lst_list, isi_lst_bool, isi_lst_int, isi_lst_str, isN_tup, isi_tup_tuple, isi_tup_list, isi_tup_bool, isi_tup_int, isi_tup_str, RW_seq, startD_eq, startA, setT_nm, setT_tp, setN_nil, setN_cons, bindA, argD, pairsA, putM, ndup, mutsD, mutIdx, intD_int, intD_bl, absD_int, lenD_lst, lenD_tup, lenD_str, tupD_lst, tupD_tup, max2D_ii, min2D_ii, szl, items_lst, items_tup, RW_comp, RW_yes, wipeD, RW_addL, RW_addT, RW_addS, RW_iadd, RW_gCat, RW_gRep, RW_gRev, RW_zip, RW_enum, RW_enum2, stF, RW_oN, RW_oS, RW_sl, sliceD_lst, sliceD_tup, RW_mut, RW_mutF, isOwn, lm_app, ixN_l0, ixN_l1, ixN_l2, ixN_l3, ixN_l4, ixN_l5, List.reverse_cons, List.reverse_nil, List.getElem?_nil, Nat.reduceAdd, Nat.reduceLeDiff, Nat.reduceLT, Int.reduceLT, Int.reduceLE, Int.reduceAdd, Int.reduceSub, Int.reduceMul, Int.reduceNeg, Int.reduceEq, Int.reduceToNat, Nat.reduceEqDiff, List.replicate_succ, List.replicate_zero, List.cons_append, List.nil_append, List.getElem?_cons_zero, List.getElem?_cons_succ, List.set_cons_zero, List.set_cons_succ, List.length_cons, List.length_nil, List.map_cons, List.map_nil, List.contains_nil, List.contains_cons, Option.map_some, Option.bind_some, decide_eq_true_eq, decide_eq_false_iff_not, decide_true, decide_false, Bool.not_true, Bool.not_false, Bool.and_true, Bool.true_and, Bool.and_false, Bool.false_and, Bool.or_false, Bool.false_or, Bool.or_true, Bool.true_or, Bool.not_eq_true', Bool.not_eq_false', Bool.false_eq_true, Bool.true_eq_false, reduceCtorEq, true_implies, false_implies, forall_const, not_true_eq_false, not_false_eq_true, and_true, true_and, and_self, if_true, if_false, ite_true, ite_false, eq_self])
    rw [hnn]
    refine turn_spec hn ?_
    walk_at "ev"
    exact q
  rw [if_neg hx] at q
  walk_at "st"
  walk_at "st"
  refine ⟨fun hx => ?_, fun hx => ?_⟩
  · rw [if_pos hx] at q
    walk_at "st"
    have a := cutD_len (rangeD 0 n) (some 1) none
    have b := cutD_len (rangeD 0 n) none (some 1)
    exact ⟨by omega, q⟩
  rw [if_neg hx] at q
  walk_at "st"
  walk_at "st"
  refine ⟨fun hx => ?_, fun hx => ?_⟩
  · rw [if_pos hx] at q
    walk_at "st"
    refine parted_spec (gs := [v]) hd (.inr (.inl rfl)) hn ?_
    walk_at "ev"
    exact q
  rw [if_neg hx] at q
  walk_at "st"
  walk_at "st"
  refine ⟨fun hx => ?_, fun hx => ?_⟩
  · rw [if_pos hx] at q
    walk_at "st"
    refine parted_spec hd he hn ?_
    walk_at "ev"
    exact q
  rw [if_neg hx] at q
  walk_at "st"
  walk_at "st"
  exact q
end
end LK

set_option Elab.async false
set_option linter.all false
set_option maxRecDepth 10000
set_option exponentiation.threshold 4000
namespace LK
open PySem L2 DL
section
variable {Q G : D → List D → Prop} {E : Str → List Str → List D → List D → Prop}
theorem rangeD_get {a b : Int} {i : Nat} (h : (i : Int) < b - a) : (rangeD a b)[i]? = some (.int (a + (i : Int))) := by
  unfold rangeD
  rw [List.getElem?_map, List.getElem?_range (by omega)]
  rfl
theorem rangeD_tail {a b : Int} (h : a < b) : (rangeD a b).eraseIdx 0 = rangeD (a + 1) b := by
  apply List.ext_getElem?
  intro i
  rw [List.getElem?_eraseIdx, if_neg (by omega)]
  by_cases hi : (i : Int) < b - (a + 1)
  · rw [rangeD_get hi, rangeD_get (by omega)]
    rw [show a + ((i + 1 : Nat) : Int) = a + 1 + (i : Int) by omega]
  · rw [List.getElem?_eq_none (by rw [rangeD_len]; omega), List.getElem?_eq_none (by rw [rangeD_len]; omega)]
theorem rangeD_init {a b : Int} (h : a < b) : (rangeD a b).eraseIdx ((rangeD a b).length - 1) = rangeD a (b - 1) := by
  apply List.ext_getElem?
  intro i
  rw [List.getElem?_eraseIdx, rangeD_len]
  by_cases hi : (i : Int) < b - 1 - a
  · rw [if_pos (by omega), rangeD_get hi, rangeD_get (by omega)]
  · rw [List.getElem?_eq_none (l := rangeD a (b - 1)) (by rw [rangeD_len]; omega)]
    split
    · omega
    · exact List.getElem?_eq_none (by rw [rangeD_len]; omega)
theorem pop_first {a b : Int} (h : a < b) : lmPopAt (rangeD a b) [.int 0] = some (.int a, rangeD (a + 1) b) := by
  unfold lmPopAt
  dsimp only
  rw [if_pos (by decide)]
  have e : seqIndex? 0 (rangeD a b).length = some 0 := (ixN_seq (n := (rangeD a b).length) (i := 0) (j := 0) (by
    unfold ixN
    rw [if_pos (by omega), if_pos (by rw [rangeD_len]; omega)]
    rfl)).1
  rw [e]
  dsimp only
  rw [rangeD_get (by omega)]
  dsimp only
  rw [rangeD_tail h, Int.natCast_zero, Int.add_zero]
theorem pop_last {a b : Int} (h : a < b) : lmPopAt (rangeD a b) [.int (-1)] = some (.int (b - 1), rangeD a (b - 1)) := by
  unfold lmPopAt
  dsimp only
  rw [if_pos (by decide)]
  have e : seqIndex? (-1) (rangeD a b).length = some ((rangeD a b).length - 1) := (ixN_seq (n := (rangeD a b).length) (i := -1) (j := (rangeD a b).length - 1) (by
    unfold ixN
    rw [if_neg (by omega), if_pos (by rw [rangeD_len]; omega), rangeD_len]
    congr 1
    omega)).1
  rw [e]
  dsimp only
  have hl := rangeD_len (a := a) (b := b)
  rw [rangeD_get (by omega)]
  dsimp only
  rw [rangeD_init h, hl, show a + (((b - a).toNat - 1 : Nat) : Int) = b - 1 by omega]
theorem pop_turn {m k : Nat} (h : k < m) : lmPopAt (rangeD ((((k + 1) / 2 : Nat)) : Int) ((m : Int) - ((k / 2 : Nat) : Int))) [.int ((k : Int) / 2 * 2 - (k : Int))] = some (.int (turnN m k), rangeD ((((k + 1 + 1) / 2 : Nat)) : Int) ((m : Int) - (((k + 1) / 2 : Nat) : Int))) := by
  unfold turnN
  by_cases z : k % 2 = 0
  · rw [if_pos z, show (k : Int) / 2 * 2 - (k : Int) = 0 by omega, pop_first (by omega)]
    rw [show (k + 1) / 2 = k / 2 by omega, show (k + 1 + 1) / 2 = k / 2 + 1 by omega, Int.natCast_add]
    rfl
  · rw [if_neg z, show (k : Int) / 2 * 2 - (k : Int) = -1 by omega, pop_last (by omega)]
    rw [show (k + 1 + 1) / 2 = (k + 1) / 2 by omega]
    have e : (m : Int) - ((k / 2 : Nat) : Int) - 1 = (m : Int) - (((k + 1) / 2 : Nat) : Int) := by omega
    rw [e, show (m : Int) - 1 - ((k / 2 : Nat) : Int) = (m : Int) - (((k + 1) / 2 : Nat) : Int) by omega]
/-- the six -/
def Ord6 (x : Str) : Prop := x = "top" ∨ x = "bottom" ∨ x = "turns" ∨ x = "hold" ∨ x = "shy" ∨ x = "late"
theorem turnsD_take {m k : Nat} (h : k < m) : (turnsD m).take (k + 1) = (turnsD m).take k ++ [.int (turnN m k)] := by
  rw [List.take_add_one]
  unfold turnsD
  rw [List.getElem?_map, List.getElem?_range h]
  rfl
theorem turnsD_len (m : Nat) : (turnsD m).length = m := by unfold turnsD; simp
def inP (ns gs : List Int) (b : Bool) : D → Bool
  | .int i => gs.contains (ns.getD i.toNat 0) == b
  | _ => false
theorem part_range (b : Bool) (ns gs : List Int) : ((rangeD 0 (ns.length : Int)).filter (inP ns gs b)).map id = part b ns gs := by
  unfold rangeD part
  rw [List.map_id, List.filter_map, show ((ns.length : Int) - 0).toNat = ns.length by omega]
  have e : (List.range ns.length).filter (inP ns gs b ∘ fun (k : Nat) => D.int (0 + (k : Int))) = (List.range ns.length).filter fun k => gs.contains (ns.getD k 0) == b := by
    apply List.filter_congr
    intro k _
    show (gs.contains (ns.getD (0 + (k : Int)).toNat 0) == b) = _
    rw [Int.zero_add, Int.toNat_natCast]
  rw [e]
  apply List.map_congr_left
  intro k _
  rw [Int.zero_add]
theorem inD_rowL {gs : List Int} {x : Int} : inD (.int x) (.lst (gs.map D.int)) = some (gs.contains x) := inD_row (e := .lst (gs.map D.int)) (.inl rfl) x
theorem ltaken_spec {x : Str} {v : Int} {d e : D} {ns gs : List Int} (hd : Row d ns) (he : Row e gs) (hn : ns.length ≤ 1000) (hx : Ord6 x) (q : Q (.lst (spots x v ns gs)) []) : MW (m_law_taken_places [.str x, .int v, d, e]) Q G E := by
  refine MW_run (t := t_law_taken_places) ?_
  delta t_law_taken_places
  obtain ⟨n, hnn⟩ : ∃ n : Int, n = (ns.length : Int) := ⟨_, rfl⟩
  have hl : lenD (unb d) = some (.int n) := by rw [Seq.len hd, List.length_map, hnn]
  have rl : (rangeD 0 n).length ≤ 1000 := by rw [rangeD_len]; omega
  unfold spots at q
  rw [← hnn] at q
  (refine LZ_in ?_; simp only [hl, LR_c, LR_n, RW_eBor, lnD_n, lnD_k, lnD_l, MG_d, mrg_n, mrg_0, mrg_f, mrg_l, mrg_o, mrg_on, nobV_fz, nob_int, nob_str, nob_bl, nob_non, nob_lst, nob_tup, nobL_n, nobL_c, nobL_a, nobL_i, nobL_s, Nat.reduceBEq, beq_self_eq_true, unb_non, unb_bl, unb_int, unb_str, unb_ty, unb_cls, unb_lst, unb_tup, unb_brw, unb_scr, unb_ins, unb_exc, items_brw, RW_ok, RW_exc, RW_stuck, RW_C, RW_var, RW_bin, RW_un, RW_vB, RW_T, RW_bAnd, RW_bOr, RW_bNot, RW_eAnd, RW_eOr, RW_eNot, RW_eIf, RW_aNil, RW_aCons, RW_gFz, RW_gDis, RW_eCall, RW_gCall, RW_fn1, RW_fn2, RW_fnL, dr_fz, dr_sl, frz_fz, frz_sl, frzs_nil, frzs_cons, RW_add, RW_sub, RW_lt, RW_le, RW_gt, RW_ge, RW_neg, RW_mul, RW_div, RW_mod, RW_pow, RW_eq0, RW_eq1, eqD_ii, eqD_ss, eqD_bb, Int.cast_ofNat_Int, RW_in, RW_is, RW_ix, getD_lst, getD_tup, atI_0, atI_1, atI_2, atI_3, atI_4, atI_5, RW_eFn, RW_gFn, RW_call, FW_nx, FW_nil, FW_break, FW_cont, FW_seq, FW_if, FW_expr, FW_ret, FW_retG, FW_retN, FW_put, FW_asg, FW_asgG, FW_asgT, FW_par, FW_sub, FW_store, FW_aug, FW_raise, FW_try, keepP, RW_rng1, RW_rng2, ints2_1, ints2_2, RW_rg1, RW_rg2, RW_gRg, RW_op1S, RW_lst, isN_non, isi_non_tuple, isi_non_list, isi_non_bool, isi_non_int, isi_non_str, isN_bl, isi_bl_tuple, isi_bl_list, isi_bl_bool, isi_bl_int, isi_bl_str, isN_int, isi_int_tuple, isi_int_list, isi_int_bool, isi_int_int, isi_int_str, isN_str, isi_str_tuple, isi_str_list, isi_str_bool, isi_str_int, isi_str_str, isN_lst, isi_lst_tuple, isi_lst_list, isi_lst_bool, isi_lst_int, isi_lst_str, isN_tup, isi_tup_tuple, isi_tup_list, isi_tup_bool, isi_tup_int, isi_tup_str, RW_seq, startD_eq, startA, setT_nm, setT_tp, setN_nil, setN_cons, bindA, argD, pairsA, putM, ndup, mutsD, mutIdx, intD_int, intD_bl, absD_int, lenD_lst, lenD_tup, lenD_str, tupD_lst, tupD_tup, max2D_ii, min2D_ii, szl, items_lst, items_tup, RW_comp, RW_yes, wipeD, RW_addL, RW_addT, RW_addS, RW_iadd, RW_gCat, RW_gRep, RW_gRev, RW_zip, RW_enum, RW_enum2, stF, RW_oN, RW_oS, RW_sl, sliceD_lst, sliceD_tup, RW_mut, RW_mutF, isOwn, lm_app, ixN_l0, ixN_l1, ixN_l2, ixN_l3, ixN_l4, ixN_l5, List.reverse_cons, List.reverse_nil, List.getElem?_nil, Nat.reduceAdd, Nat.reduceLeDiff, Nat.reduceLT, Int.reduceLT, Int.reduceLE, Int.reduceAdd, Int.reduceSub, Int.reduceMul, Int.reduceNeg, Int.reduceEq, Int.reduceToNat, Nat.reduceEqDiff, List.replicate_succ, List.replicate_zero, List.cons_append, List.nil_append, List.getElem?_cons_zero, List.getElem?_cons_succ, List.set_cons_zero, List.set_cons_succ, List.length_cons, List.length_nil, List.map_cons, List.map_nil, List.contains_nil, List.contains_cons, Option.map_some, Option.bind_some, decide_eq_true_eq, decide_eq_false_iff_not, decide_true, decide_false, Bool.not_true, Bool.not_false, Bool.and_true, Bool.true_and, Bool.and_false, Bool.false_and, Bool.or_false, Bool.false_or, Bool.or_true, Bool.true_or, Bool.not_eq_true', Bool.not_eq_false', Bool.false_eq_true, Bool.true_eq_false, reduceCtorEq, true_implies, false_implies, forall_const, not_true_eq_false, not_false_eq_true, and_true, true_and, and_self, if_true, if_false, ite_true, ite_false, eq_self])
  refine ⟨lit_rgOk (by omega) (by omega) (by omega) (by omega) (by omega), ?_⟩
  walk_at "st"
  refine ⟨fun h => ?_, fun h1 => ?_⟩
  · subst h
    walk_at "st"
    rw [if_neg (by decide +kernel), if_neg (by decide +kernel), if_neg (by decide +kernel), if_neg (by decide +kernel), if_neg (by decide +kernel)] at q
    exact q
  walk_at "st"
  walk_at "st"
  refine ⟨fun h => ?_, fun h2 => ?_⟩
  · rw [if_pos h] at q
    walk_at "st"
    exact q
  rw [if_neg h2] at q
  walk_at "st"
  walk_at "st"
  refine ⟨fun h => ?_, fun h3 => ?_⟩
  · subst h
    rw [if_neg (by decide +kernel), if_pos rfl] at q
    walk_at "st"
    have a := cutD_len (rangeD 0 n) (some 1) none
    have b := cutD_len (rangeD 0 n) none (some 1)
    exact ⟨by omega, q⟩
  rw [if_neg h3] at q
  walk_at "st"
  walk_at "st"
  refine ⟨fun h => ?_, fun h4 => ?_⟩
  · rw [if_pos h] at q
    walk_at "st"
    refine LZ_cut (J := fun δ => ∃ x4 x6, δ = [some (0, .str x), some (0, .int v), some (0, d), some (0, e), x4, some (1, .lst (turnsD ns.length)), x6, none, none]) ?_ ?_
    · refine LZ_in ?_
      rw [FW_for]
      simp only [hl, LR_c, LR_n, RW_eBor, lnD_n, lnD_k, lnD_l, MG_d, mrg_n, mrg_0, mrg_f, mrg_l, mrg_o, mrg_on, nobV_fz, nob_int, nob_str, nob_bl, nob_non, nob_lst, nob_tup, nobL_n, nobL_c, nobL_a, nobL_i, nobL_s, Nat.reduceBEq, beq_self_eq_true, unb_non, unb_bl, unb_int, unb_str, unb_ty, unb_cls, unb_lst, unb_tup, unb_brw, unb_scr, unb_ins, unb_exc, items_brw, RW_ok, RW_exc, RW_stuck, RW_C, RW_var, RW_bin, RW_un, RW_vB, RW_T, RW_bAnd, RW_bOr, RW_bNot, RW_eAnd, RW_eOr, RW_eNot, RW_eIf, RW_aNil, RW_aCons, RW_gFz, RW_gDis, RW_eCall, RW_gCall, RW_fn1, RW_fn2, RW_fnL, dr_fz, dr_sl, frz_fz, frz_sl, frzs_nil, frzs_cons, RW_add, RW_sub, RW_lt, RW_le, RW_gt, RW_ge, RW_neg, RW_mul, RW_div, RW_mod, RW_pow, RW_eq0, RW_eq1, eqD_ii, eqD_ss, eqD_bb, Int.cast_ofNat_Int, RW_in, RW_is, RW_ix, getD_lst, getD_tup, atI_0, atI_1, atI_2, atI_3, atI_4, atI_5, RW_eFn, RW_gFn, RW_call, FW_nx, FW_nil, FW_break, FW_cont, FW_seq, FW_if, FW_expr, FW_ret, FW_retG, FW_retN, FW_put, FW_asg, FW_asgG, FW_asgT, FW_par, FW_sub, FW_store, FW_aug, FW_raise, FW_try, keepP, RW_rng1, RW_rng2, ints2_1, ints2_2, RW_rg1, RW_rg2, RW_gRg, RW_op1S, RW_lst, isN_non, isi_non_tuple, isi_non_list, isi_non_bool, isi_non_int, isi_non_str, isN_bl, isi_bl_tuple, isi_bl_list, isi_bl_bool, isi_bl_int, isi_bl_str, isN_int, isi_int_tuple, isi_int_list, isi_int_bool, isi_int_int, isi_int_str, isN_str, isi_str_tuple, isi_str_list, isi_str_bool, isi_str_int, isi_str_str, isN_lst, isi_lst_tuple, isi_lst_list, isi_lst_bool, isi_lst_int, isi_lst_str, isN_tup, isi_tup_tuple, isi_tup_list, isi_tup_bool, isi_tup_int, isi_tup_str, RW_seq, startD_eq, startA, setT_nm, setT_tp, setN_nil, setN_cons, bindA, argD, pairsA, putM, ndup, mutsD, mutIdx, intD_int, intD_bl, absD_int, lenD_lst, lenD_tup, lenD_str, tupD_lst, tupD_tup, max2D_ii, min2D_ii, szl, items_lst, items_tup, RW_comp, RW_yes, wipeD, RW_addL, RW_addT, RW_addS, RW_iadd, RW_gCat, RW_gRep, RW_gRev, RW_zip, RW_enum, RW_enum2, stF, RW_oN, RW_oS, RW_sl, sliceD_lst, sliceD_tup, RW_mut, RW_mutF, isOwn, lm_app, ixN_l0, ixN_l1, ixN_l2, ixN_l3, ixN_l4, ixN_l5, List.reverse_cons, List.reverse_nil, List.getElem?_nil, Nat.reduceAdd, Nat.reduceLeDiff, Nat.reduceLT, Int.reduceLT, Int.reduceLE, Int.reduceAdd, Int.reduceSub, Int.reduceMul, Int.reduceNeg, Int.reduceEq, Int.reduceToNat, Nat.reduceEqDiff, List.replicate_succ, List.replicate_zero, List.cons_append, List.nil_append, List.getElem?_cons_zero, List.getElem?_cons_succ, List.set_cons_zero, List.set_cons_succ, List.length_cons, List.length_nil, List.map_cons, List.map_nil, List.contains_nil, List.contains_cons, Option.map_some, Option.bind_some, decide_eq_true_eq, decide_eq_false_iff_not, decide_true, decide_false, Bool.not_true, Bool.not_false, Bool.and_true, Bool.true_and, Bool.and_false, Bool.false_and, Bool.or_false, Bool.false_or, Bool.or_true, Bool.true_or, Bool.not_eq_true', Bool.not_eq_false', Bool.false_eq_true, Bool.true_eq_false, reduceCtorEq, true_implies, false_implies, forall_const, not_true_eq_false, not_false_eq_true, and_true, true_and, and_self, if_true, if_false, ite_true, ite_false, eq_self]
      refine ⟨by unfold smallI; rw [Bool.and_eq_true]; exact ⟨decide_eq_true (by omega), decide_eq_true (by omega)⟩, ?_⟩
      refine FW_inv (fun i δ => ∃ x6, δ = [some (0, .str x), some (0, .int v), some (0, d), some (0, e), some (1, .lst (rangeD ((((i + 1) / 2 : Nat)) : Int) ((ns.length : Int) - ((i / 2 : Nat) : Int)))), some (1, .lst ((turnsD ns.length).take i)), x6, none, none]) (k := 0) ⟨none, ?_⟩ ?_ ?_
      · rw [List.take_zero]
        have er : rangeD ((((0 + 1) / 2 : Nat)) : Int) ((ns.length : Int) - ((0 / 2 : Nat) : Int)) = rangeD 0 n := by
          rw [hnn]
          congr 1
        rw [er]
      · rintro i dd δ hdd ⟨x6, rfl⟩
        rw [Nat.zero_add] at *
        obtain ⟨rfl, hi⟩ := rangeD_at hdd
        have hlt : i < ns.length := by omega
        refine ⟨_, rfl, ?_⟩
        have pt := pop_turn hlt
        rw [Int.zero_add]
        obtain ⟨ii, hii⟩ : ∃ ii : Int, ii = (i : Int) := ⟨_, rfl⟩
        rw [← hii] at pt ⊢
        (refine LZ_in ?_; simp only [pt, LR_c, LR_n, RW_eBor, lnD_n, lnD_k, lnD_l, MG_d, mrg_n, mrg_0, mrg_f, mrg_l, mrg_o, mrg_on, nobV_fz, nob_int, nob_str, nob_bl, nob_non, nob_lst, nob_tup, nobL_n, nobL_c, nobL_a, nobL_i, nobL_s, Nat.reduceBEq, beq_self_eq_true, unb_non, unb_bl, unb_int, unb_str, unb_ty, unb_cls, unb_lst, unb_tup, unb_brw, unb_scr, unb_ins, unb_exc, items_brw, RW_ok, RW_exc, RW_stuck, RW_C, RW_var, RW_bin, RW_un, RW_vB, RW_T, RW_bAnd, RW_bOr, RW_bNot, RW_eAnd, RW_eOr, RW_eNot, RW_eIf, RW_aNil, RW_aCons, RW_gFz, RW_gDis, RW_eCall, RW_gCall, RW_fn1, RW_fn2, RW_fnL, dr_fz, dr_sl, frz_fz, frz_sl, frzs_nil, frzs_cons, RW_add, RW_sub, RW_lt, RW_le, RW_gt, RW_ge, RW_neg, RW_mul, RW_div, RW_mod, RW_pow, RW_eq0, RW_eq1, eqD_ii, eqD_ss, eqD_bb, Int.cast_ofNat_Int, RW_in, RW_is, RW_ix, getD_lst, getD_tup, atI_0, atI_1, atI_2, atI_3, atI_4, atI_5, RW_eFn, RW_gFn, RW_call, FW_nx, FW_nil, FW_break, FW_cont, FW_seq, FW_if, FW_expr, FW_ret, FW_retG, FW_retN, FW_put, FW_asg, FW_asgG, FW_asgT, FW_par, FW_sub, FW_store, FW_aug, FW_raise, FW_try, keepP, RW_rng1, RW_rng2, ints2_1, ints2_2, RW_rg1, RW_rg2, RW_gRg, RW_op1S, RW_lst, isN_non, isi_non_tuple, isi_non_list, isi_non_bool, isi_non_int, isi_non_str, isN_bl, isi_bl_tuple, isi_bl_list, isi_bl_bool, isi_bl_int, isi_bl_str, isN_int, isi_int_tuple, isi_int_list, isi_int_bool, isi_int_int, isi_int_str, isN_str, isi_str_tuple, isi_str_list, isi_str_bool, isi_str_int, isi_str_str, isN_lst, isi_lst_tuple, isi_lst_list, isi_lst_bool, isi_lst_int, isi_lst_str, isN_tup, isi_tup_tuple, isi_tup_list, isi_tup_bool, isi_tup_int, isi_tup_str, RW_seq, startD_eq, startA, setT_nm, setT_tp, setN_nil, setN_cons, bindA, argD, pairsA, putM, ndup, mutsD, mutIdx, intD_int, intD_bl, absD_int, lenD_lst, lenD_tup, lenD_str, tupD_lst, tupD_tup, max2D_ii, min2D_ii, szl, items_lst, items_tup, RW_comp, RW_yes, wipeD, RW_addL, RW_addT, RW_addS, RW_iadd, RW_gCat, RW_gRep, RW_gRev, RW_zip, RW_enum, RW_enum2, stF, RW_oN, RW_oS, RW_sl, sliceD_lst, sliceD_tup, RW_mut, RW_mutF, isOwn, lm_app, ixN_l0, ixN_l1, ixN_l2, ixN_l3, ixN_l4, ixN_l5, List.reverse_cons, List.reverse_nil, List.getElem?_nil, Nat.reduceAdd, Nat.reduceLeDiff, Nat.reduceLT, Int.reduceLT, Int.reduceLE, Int.reduceAdd, Int.reduceSub, Int.reduceMul, Int.reduceNeg, Int.reduceEq, Int.reduceToNat, Nat.reduceEqDiff, List.replicate_succ, List.replicate_zero, List.cons_append, List.nil_append, List.getElem?_cons_zero, List.getElem?_cons_succ, List.set_cons_zero, List.set_cons_succ, List.length_cons, List.length_nil, List.map_cons, List.map_nil, List.contains_nil, List.contains_cons, Option.map_some, Option.bind_some, decide_eq_true_eq, decide_eq_false_iff_not, decide_true, decide_false, Bool.not_true, Bool.not_false, Bool.and_true, Bool.true_and, Bool.and_false, Bool.false_and, Bool.or_false, Bool.false_or, Bool.or_true, Bool.true_or, Bool.not_eq_true', Bool.not_eq_false', Bool.false_eq_true, Bool.true_eq_false, reduceCtorEq, true_implies, false_implies, forall_const, not_true_eq_false, not_false_eq_true, and_true, true_and, and_self, if_true, if_false, ite_true, ite_false, eq_self])
        refine ⟨divOk_lit (by decide +kernel), sm_mul (sm_100 (by omega) (by omega)) (sm_100 (by decide) (by decide)), ?_⟩
        rw [if_pos (by rw [List.length_take, turnsD_len]; omega)]
        refine ⟨some (0, .int ii), ?_⟩
        rw [turnsD_take hlt]
      · rintro δ ⟨x6, rfl⟩
        rw [rangeD_len, List.take_of_length_le (by rw [turnsD_len]; omega)]
        exact ⟨_, _, rfl⟩
    rintro δ1 ⟨x4, x6, rfl⟩
    walk_at "st"
    exact q
  rw [if_neg h4] at q
  walk_at "st"
  walk_at "st"
  have go : ∀ (ls : List Int), Q (.lst (part false ns ls ++ part true ns ls)) [] → LZ (sRet (eBin opAdd (gFz (gComp [8] (.nm 8) (iSeq (eVar 4)) (eT (eBin (opIn true) (eBin opIx (eVar 2) (eVar 8)) (eVar 7))) (eVar 8))) (gFz (gComp [8] (.nm 8) (iSeq (eVar 4)) (eT (eBin (opIn false) (eBin opIx (eVar 2) (eVar 8)) (eVar 7))) (eVar 8)))))
      [some (0, .str x), some (0, .int v), some (0, d), some (0, e), some (1, .lst (rangeD 0 n)), none, none, some (0, .lst (ls.map D.int)), none]
      (fun δ => Q .non []) (fun x δ => match frz δ x with
        | some (d, δ1) => Q d []
        | none => False) (fun d δ => G d []) (fun _ => False) (fun _ => False) (fun c ns es δ => E c ns es []) := fun ls q => by
    have w : ∀ (b : Bool) {Q2 : List D → DSt → Prop} {E2 : XE}, Q2 (part b ns ls) [some (0, .str x), some (0, .int v), some (0, d), some (0, e), some (0, .lst (rangeD 0 n)), none, none, some (0, .lst (ls.map D.int)), none] →
        RW (compF [8] (.nm 8) (eT (eBin (opIn (!b)) (eBin opIx (eVar 2) (eVar 8)) (eVar 7))) (eVar 8) (rangeD 0 n) [] [some (0, .str x), some (0, .int v), some (0, d), some (0, e), some (0, .lst (rangeD 0 n)), none, none, some (0, .lst (ls.map D.int)), none]) Q2 E2 := fun b {Q2 E2} qq => by
      refine comp_fm (inP ns ls b) id (by rw [szl]; omega) (fun i dd h => ?_) ?_
      · obtain ⟨rfl, hi⟩ := rangeD_at h
        have hlt : i < ns.length := by omega
        refine ⟨_, rfl, ?_⟩
        have ge : (ns.map D.int)[i]? = some (.int (ns.getD i 0)) := by
          rw [List.getElem?_map, List.getD_eq_getElem?_getD, List.getElem?_eq_getElem hlt]; rfl
        rw [Int.zero_add]
        simp only [Seq.get hd, DL.atI_nat, ge, inD_rowL, LR_c, LR_n, RW_eBor, lnD_n, lnD_k, lnD_l, MG_d, mrg_n, mrg_0, mrg_f, mrg_l, mrg_o, mrg_on, nobV_fz, nob_int, nob_str, nob_bl, nob_non, nob_lst, nob_tup, nobL_n, nobL_c, nobL_a, nobL_i, nobL_s, Nat.reduceBEq, beq_self_eq_true, unb_non, unb_bl, unb_int, unb_str, unb_ty, unb_cls, unb_lst, unb_tup, unb_brw, unb_scr, unb_ins, unb_exc, items_brw, RW_ok, RW_exc, RW_stuck, RW_C, RW_var, RW_bin, RW_un, RW_vB, RW_T, RW_bAnd, RW_bOr, RW_bNot, RW_eAnd, RW_eOr, RW_eNot, RW_eIf, RW_aNil, RW_aCons, RW_gFz, RW_gDis, RW_eCall, RW_gCall, RW_fn1, RW_fn2, RW_fnL, dr_fz, dr_sl, frz_fz, frz_sl, frzs_nil, frzs_cons, RW_add, RW_sub, RW_lt, RW_le, RW_gt, RW_ge, RW_neg, RW_mul, RW_div, RW_mod, RW_pow, RW_eq0, RW_eq1, eqD_ii, eqD_ss, eqD_bb, Int.cast_ofNat_Int, RW_in, RW_is, RW_ix, getD_lst, getD_tup, atI_0, atI_1, atI_2, atI_3, atI_4, atI_5, RW_eFn, RW_gFn, RW_call, FW_nx, FW_nil, FW_break, FW_cont, FW_seq, FW_if, FW_expr, FW_ret, FW_retG, FW_retN, FW_put, FW_asg, FW_asgG, FW_asgT, FW_par, FW_sub, FW_store, FW_aug, FW_raise, FW_try, keepP, RW_rng1, RW_rng2, ints2_1, ints2_2, RW_rg1, RW_rg2, RW_gRg, RW_op1S, RW_lst, isN_non, isi_non_tuple, isi_non_list, isi_non_bool, isi_non_int, isi_non_str, isN_bl, isi_bl_tuple, isi_bl_list, isi_bl_bool, isi_bl_int, isi_bl_str, isN_int, isi_int_tuple, isi_int_list, isi_int_bool, isi_int_int, isi_int_str, isN_str, isi_str_tuple, isi_str_list, isi_str_bool, isi_str_int, isi_str_str, isN_lst, isi_lst_tuple, isi_lst_list, isi_lst_bool, isi_lst_int, isi_lst_str, isN_tup, isi_tup_tuple, isi_tup_list, isi_tup_bool, isi_tup_int, isi_tup_str, RW_seq, startD_eq, startA, setT_nm, setT_tp, setN_nil, setN_cons, bindA, argD, pairsA, putM, ndup, mutsD, mutIdx, intD_int, intD_bl, absD_int, lenD_lst, lenD_tup, lenD_str, tupD_lst, tupD_tup, max2D_ii, min2D_ii, szl, items_lst, items_tup, RW_comp, RW_yes, wipeD, RW_addL, RW_addT, RW_addS, RW_iadd, RW_gCat, RW_gRep, RW_gRev, RW_zip, RW_enum, RW_enum2, stF, RW_oN, RW_oS, RW_sl, sliceD_lst, sliceD_tup, RW_mut, RW_mutF, isOwn, lm_app, ixN_l0, ixN_l1, ixN_l2, ixN_l3, ixN_l4, ixN_l5, List.reverse_cons, List.reverse_nil, List.getElem?_nil, Nat.reduceAdd, Nat.reduceLeDiff, Nat.reduceLT, Int.reduceLT, Int.reduceLE, Int.reduceAdd, Int.reduceSub, Int.reduceMul, Int.reduceNeg, Int.reduceEq, Int.reduceToNat, Nat.reduceEqDiff, List.replicate_succ, List.replicate_zero, List.cons_append, List.nil_append, List.getElem?_cons_zero, List.getElem?_cons_succ, List.set_cons_zero, List.set_cons_succ, List.length_cons, List.length_nil, List.map_cons, List.map_nil, List.contains_nil, List.contains_cons, Option.map_some, Option.bind_some, decide_eq_true_eq, decide_eq_false_iff_not, decide_true, decide_false, Bool.not_true, Bool.not_false, Bool.and_true, Bool.true_and, Bool.and_false, Bool.false_and, Bool.or_false, Bool.false_or, Bool.or_true, Bool.true_or, Bool.not_eq_true', Bool.not_eq_false', Bool.false_eq_true, Bool.true_eq_false, reduceCtorEq, true_implies, false_implies, forall_const, not_true_eq_false, not_false_eq_true, and_true, true_and, and_self, if_true, if_false, ite_true, ite_false, eq_self]
        refine ⟨?_, fun _ => trivial, fun _ => rfl⟩
        show _ = (ls.contains (ns.getD (i : Int).toNat 0) == b)
        rw [Int.toNat_natCast]
        cases b <;> cases ls.contains (ns.getD i 0) <;> rfl
      · have pe := part_range b ns ls
        rw [← hnn] at pe
        rw [pe]
        exact qq
    walk_at "st"
    refine w false ?_
    walk_at "ev"
    refine w true ?_
    walk_at "ev"
    have a := part_len false ns ls
    have b := part_len true ns ls
    exact ⟨by omega, q⟩
  walk_at "st"
  refine ⟨fun h => ?_, fun h5 => ?_⟩
  · subst h
    rw [if_neg (by decide +kernel), if_pos rfl] at q
    (refine LZ_in ?_; simp only [Seq.itemsU he, LR_c, LR_n, RW_eBor, lnD_n, lnD_k, lnD_l, MG_d, mrg_n, mrg_0, mrg_f, mrg_l, mrg_o, mrg_on, nobV_fz, nob_int, nob_str, nob_bl, nob_non, nob_lst, nob_tup, nobL_n, nobL_c, nobL_a, nobL_i, nobL_s, Nat.reduceBEq, beq_self_eq_true, unb_non, unb_bl, unb_int, unb_str, unb_ty, unb_cls, unb_lst, unb_tup, unb_brw, unb_scr, unb_ins, unb_exc, items_brw, RW_ok, RW_exc, RW_stuck, RW_C, RW_var, RW_bin, RW_un, RW_vB, RW_T, RW_bAnd, RW_bOr, RW_bNot, RW_eAnd, RW_eOr, RW_eNot, RW_eIf, RW_aNil, RW_aCons, RW_gFz, RW_gDis, RW_eCall, RW_gCall, RW_fn1, RW_fn2, RW_fnL, dr_fz, dr_sl, frz_fz, frz_sl, frzs_nil, frzs_cons, RW_add, RW_sub, RW_lt, RW_le, RW_gt, RW_ge, RW_neg, RW_mul, RW_div, RW_mod, RW_pow, RW_eq0, RW_eq1, eqD_ii, eqD_ss, eqD_bb, Int.cast_ofNat_Int, RW_in, RW_is, RW_ix, getD_lst, getD_tup, atI_0, atI_1, atI_2, atI_3, atI_4, atI_5, RW_eFn, RW_gFn, RW_call, FW_nx, FW_nil, FW_break, FW_cont, FW_seq, FW_if, FW_expr, FW_ret, FW_retG, FW_retN, FW_put, FW_asg, FW_asgG, FW_asgT, FW_par, FW_sub, FW_store, FW_aug, FW_raise, FW_try, keepP, RW_rng1, RW_rng2, ints2_1, ints2_2, RW_rg1, RW_rg2, RW_gRg, RW_op1S, RW_lst, isN_non, isi_non_tuple, isi_non_list, isi_non_bool, isi_non_int, isi_non_str, isN_bl, isi_bl_tuple, isi_bl_list, isi_bl_bool, isi_bl_int, isi_bl_str, isN_int, isi_int_tuple, isi_int_list, isi_int_bool, isi_int_int, isi_int_str, isN_str, isi_str_tuple, isi_str_list, isi_str_bool, isi_str_int, isi_str_str, isN_lst, isi_lst_tuple, isi_lst_list, isi_lst_bool, isi_lst_int, isi_lst_str, isN_tup, isi_tup_tuple, isi_tup_list, isi_tup_bool, isi_tup_int, isi_tup_str, RW_seq, startD_eq, startA, setT_nm, setT_tp, setN_nil, setN_cons, bindA, argD, pairsA, putM, ndup, mutsD, mutIdx, intD_int, intD_bl, absD_int, lenD_lst, lenD_tup, lenD_str, tupD_lst, tupD_tup, max2D_ii, min2D_ii, szl, items_lst, items_tup, RW_comp, RW_yes, wipeD, RW_addL, RW_addT, RW_addS, RW_iadd, RW_gCat, RW_gRep, RW_gRev, RW_zip, RW_enum, RW_enum2, stF, RW_oN, RW_oS, RW_sl, sliceD_lst, sliceD_tup, RW_mut, RW_mutF, isOwn, lm_app, ixN_l0, ixN_l1, ixN_l2, ixN_l3, ixN_l4, ixN_l5, List.reverse_cons, List.reverse_nil, List.getElem?_nil, Nat.reduceAdd, Nat.reduceLeDiff, Nat.reduceLT, Int.reduceLT, Int.reduceLE, Int.reduceAdd, Int.reduceSub, Int.reduceMul, Int.reduceNeg, Int.reduceEq, Int.reduceToNat, Nat.reduceEqDiff, List.replicate_succ, List.replicate_zero, List.cons_append, List.nil_append, List.getElem?_cons_zero, List.getElem?_cons_succ, List.set_cons_zero, List.set_cons_succ, List.length_cons, List.length_nil, List.map_cons, List.map_nil, List.contains_nil, List.contains_cons, Option.map_some, Option.bind_some, decide_eq_true_eq, decide_eq_false_iff_not, decide_true, decide_false, Bool.not_true, Bool.not_false, Bool.and_true, Bool.true_and, Bool.and_false, Bool.false_and, Bool.or_false, Bool.false_or, Bool.or_true, Bool.true_or, Bool.not_eq_true', Bool.not_eq_false', Bool.false_eq_true, Bool.true_eq_false, reduceCtorEq, true_implies, false_implies, forall_const, not_true_eq_false, not_false_eq_true, and_true, true_and, and_self, if_true, if_false, ite_true, ite_false, eq_self])
    exact go gs q
  · have hs : x = "shy" := by
      rcases hx with h | h | h | h | h | h
      · exact absurd h h1
      · exact absurd h h2
      · exact absurd h h4
      · exact absurd h h3
      · exact h
      · exact absurd h h5
    rw [if_pos hs] at q
    walk_at "st"
    exact go [v] q
end
end LK

set_option Elab.async false
set_option linter.all false
set_option maxRecDepth 10000
set_option exponentiation.threshold 4000
namespace LK
open PySem L2 DL
section
variable {Q G : D → List D → Prop} {E : Str → List Str → List D → List D → Prop}
theorem told_unknown {w : Str} : mE_law_told [.exc "Unknown" ["name"] [.str w]] = .ok (.tup [.str "Unknown", .tup [.str w]]) [] := by kernel_rfl
theorem told_local {v : Int} : mE_law_told [.exc "NotLocal" ["station"] [.int v]] = .ok (.tup [.str "NotLocal", .tup [.int v]]) [] := by kernel_rfl
theorem inD_strs (l : List Str) (x : Str) : inD (.str x) (.tup (l.map D.str)) = some (l.contains x) := by
  have a : (l.map D.str).all flatD = true := by
    induction l with
    | nil => rfl
    | cons g gs ih => rw [List.map_cons, List.all_cons, ih]; rfl
  have b : ((l.map D.str).any fun z => eqF z (.str x)) = l.contains x := by
    clear a
    induction l with
    | nil => rfl
    | cons g gs ih =>
      rw [List.map_cons, List.any_cons, ih, List.contains_cons]
      show (g == x || _) = (x == g || _)
      rw [Bool.beq_comm]
  unfold inD
  rw [items_tup]
  dsimp only
  rw [a, b]
  rfl
def six : List Str := ["top", "bottom", "turns", "hold", "shy", "late"]
def three : List Str := ["friend", "foe", "shun"]
theorem in_modes (x : Str) : inD (.str x) (unb d_MODES) = some (six.contains x || three.contains x) := by
  have e : unb d_MODES = .tup ((six ++ three).map D.str) := rfl
  rw [e, inD_strs]
  congr 1
  show List.elem x (six ++ three) = (List.elem x six || List.elem x three)
  rw [List.elem_eq_contains, List.elem_eq_contains, List.elem_eq_contains]
  simp
theorem in_choosing (x : Str) : inD (.str x) (unb d_CHOOSING) = some (three.contains x) := by
  have e : unb d_CHOOSING = .tup (three.map D.str) := rfl
  rw [e, inD_strs]
theorem ord6 {x : Str} (h : six.contains x = true) : Ord6 x := by
  unfold six at h
  simp only [List.contains_cons, List.contains_nil, Bool.or_false, Bool.or_eq_true, beq_iff_eq] at h
  exact h
theorem ord6_no3 {x : Str} (h : six.contains x = true) : three.contains x = false := by
  rcases ord6 h with rfl | rfl | rfl | rfl | rfl | rfl <;> decide +kernel
/-- what comes of a question -/
def resD (x : Str) (v : Int) (t : D) : D :=
  if three.contains x = true then .tup [.str "refused", .tup [.str "NotLocal", .tup [.int v]]]
  else if six.contains x = true then .tup [.str "told", t]
  else .tup [.str "refused", .tup [.str "Unknown", .tup [.str x]]]
theorem askp_spec {x : Str} {v : Int} {d e : D} {ns gs : List Int} (hd : Row d ns) (he : Row e gs) (hn : ns.length ≤ 1000) (q : Q (resD x v (.tup (spots x v ns gs))) []) : MW (m_law_ask_places [.str x, .int v, d, e]) Q G E := by
  refine MW_run (t := t_law_ask_places) ?_
  delta t_law_ask_places
  have hm := in_modes x
  have hc := in_choosing x
  walk_at "st"
  unfold resD at q
  by_cases h3 : three.contains x = true
  · rw [if_pos h3] at q
    rw [h3] at hm hc
    refine taking_local (by rw [hm, Bool.or_true]) hc ?_
    walk_at "ev"
    refine ⟨by decide, by rfl, ?_⟩
    walk_at "st"
    refine MW_ok told_local ?_
    walk_at "ev"
    exact q
  · rw [if_neg h3] at q
    have h3 : three.contains x = false := by simpa using h3
    rw [h3] at hm hc
    by_cases h6 : six.contains x = true
    · rw [if_pos h6] at q
      rw [h6] at hm
      refine taking_ok hd he hn (by rw [hm]; rfl) hc ?_
      walk_at "ev"
      walk_at "st"
      exact q
    · rw [if_neg h6] at q
      have h6 : six.contains x = false := by simpa using h6
      rw [h6] at hm
      refine taking_unknown (by rw [hm]; rfl) ?_
      walk_at "ev"
      refine ⟨by decide, by rfl, ?_⟩
      walk_at "st"
      refine MW_ok told_unknown ?_
      walk_at "ev"
      exact q
/-- the places are of the pile -/
def InP (n : Nat) (d : D) : Prop := ∃ k : Nat, k < n ∧ d = .int (k : Int)
theorem part_in {b : Bool} {ns gs : List Int} {d : D} (h : d ∈ part b ns gs) : InP ns.length d := by
  unfold part at h
  obtain ⟨k, hk, rfl⟩ := List.mem_map.mp h
  exact ⟨k, by simpa using (List.mem_filter.mp hk).1, rfl⟩
theorem range_in {n : Nat} {d : D} (h : d ∈ rangeD 0 (n : Int)) : InP n d := by
  unfold rangeD at h
  obtain ⟨k, hk, rfl⟩ := List.mem_map.mp h
  exact ⟨k, by have := List.mem_range.mp hk; omega, by rw [Int.zero_add]⟩
theorem cut_mem {ds : List D} {a b : Option Int} {d : D} (h : d ∈ cutD ds a b) : d ∈ ds := by
  unfold cutD at h
  exact List.mem_of_mem_drop (List.mem_of_mem_take h)
theorem spots_in {x : Str} {v : Int} {ns gs : List Int} {d : D} (h : d ∈ spots x v ns gs) : InP ns.length d := by
  unfold spots at h
  split at h
  · exact range_in (List.mem_reverse.mp h)
  split at h
  · unfold turnsD at h
    obtain ⟨k, hk, rfl⟩ := List.mem_map.mp h
    have hk := List.mem_range.mp hk
    unfold turnN
    split
    · exact ⟨k / 2, by omega, rfl⟩
    · exact ⟨ns.length - 1 - k / 2, by omega, by congr 1; omega⟩
  split at h
  · rcases List.mem_append.mp h with h | h
    · exact range_in (cut_mem h)
    · exact range_in (cut_mem h)
  split at h
  · rcases List.mem_append.mp h with h | h
    · exact part_in h
    · exact part_in h
  split at h
  · rcases List.mem_append.mp h with h | h
    · exact part_in h
    · exact part_in h
  exact range_in h
theorem spots_len {x : Str} {v : Int} {ns gs : List Int} : (spots x v ns gs).length ≤ 2 * ns.length := by
  have rl : (rangeD 0 (ns.length : Int)).length = ns.length := by rw [rangeD_len]; omega
  unfold spots
  split
  · rw [List.length_reverse]; omega
  split
  · rw [turnsD_len]; omega
  split
  · have a := cutD_len (rangeD 0 (ns.length : Int)) (some 1) none
    have b := cutD_len (rangeD 0 (ns.length : Int)) none (some 1)
    rw [List.length_append]; omega
  split
  · have a := part_len false ns [v]
    have b := part_len true ns [v]
    rw [List.length_append]; omega
  split
  · have a := part_len false ns gs
    have b := part_len true ns gs
    rw [List.length_append]; omega
  omega
/-- the names at the places -/
def nameAt (ns : List Int) : D → D
  | .int i => .int (ns.getD i.toNat 0)
  | _ => .non
theorem name_get {d : D} {ns : List Int} (hd : Row d ns) {p : D} (hp : InP ns.length p) : ∃ i : Int, p = .int i ∧ getD? (unb d) i = some (nameAt ns p) := by
  obtain ⟨k, hk, rfl⟩ := hp
  refine ⟨k, rfl, ?_⟩
  rw [Seq.get hd, DL.atI_nat, List.getElem?_map, List.getElem?_eq_getElem hk]
  show some (D.int ns[k]) = some (D.int (ns.getD (k : Int).toNat 0))
  rw [Int.toNat_natCast, List.getD_eq_getElem?_getD, List.getElem?_eq_getElem hk]
  rfl
theorem order_ok {x : Str} {v : Int} {d e : D} {ns gs : List Int} (hd : Row d ns) (he : Row e gs) (hn : ns.length ≤ 1000) (h : inD (.str x) (unb d_MODES) = some true) (h2 : inD (.str x) (unb d_CHOOSING) = some false) (q : Q (.tup ((spots x v ns gs).map (nameAt ns))) []) : MW (m_taking_order [.str x, .int v, d, e]) Q G E := by
  refine MW_run (t := t_taking_order) ?_
  delta t_taking_order
  walk_at "st"
  refine taking_ok hd he hn h h2 ?_
  walk_at "ev"
  refine comp_map (nameAt ns) (by have := spots_len (x := x) (v := v) (ns := ns) (gs := gs); rw [szl]; omega) (fun i p hp => ?_) ?_
  · obtain ⟨j, rfl, hg⟩ := name_get hd (spots_in (List.mem_of_getElem? hp))
    refine ⟨_, rfl, ?_⟩
    simp only [hg, LR_c, LR_n, RW_eBor, lnD_n, lnD_k, lnD_l, MG_d, mrg_n, mrg_0, mrg_f, mrg_l, mrg_o, mrg_on, nobV_fz, nob_int, nob_str, nob_bl, nob_non, nob_lst, nob_tup, nobL_n, nobL_c, nobL_a, nobL_i, nobL_s, Nat.reduceBEq, beq_self_eq_true, unb_non, unb_bl, unb_int, unb_str, unb_ty, unb_cls, unb_lst, unb_tup, unb_brw, unb_scr, unb_ins, unb_exc, items_brw, RW_ok, RW_exc, RW_stuck, RW_C, RW_var, RW_bin, RW_un, RW_vB, RW_T, RW_bAnd, RW_bOr, RW_bNot, RW_eAnd, RW_eOr, RW_eNot, RW_eIf, RW_aNil, RW_aCons, RW_gFz, RW_gDis, RW_eCall, RW_gCall, RW_fn1, RW_fn2, RW_fnL, dr_fz, dr_sl, frz_fz, frz_sl, frzs_nil, frzs_cons, RW_add, RW_sub, RW_lt, RW_le, RW_gt, RW_ge, RW_neg, RW_mul, RW_div, RW_mod, RW_pow, RW_eq0, RW_eq1, eqD_ii, eqD_ss, eqD_bb, Int.cast_ofNat_Int, RW_in, RW_is, RW_ix, getD_lst, getD_tup, atI_0, atI_1, atI_2, atI_3, atI_4, atI_5, RW_eFn, RW_gFn, RW_call, FW_nx, FW_nil, FW_break, FW_cont, FW_seq, FW_if, FW_expr, FW_ret, FW_retG, FW_retN, FW_put, FW_asg, FW_asgG, FW_asgT, FW_par, FW_sub, FW_store, FW_aug, FW_raise, FW_try, keepP, RW_rng1, RW_rng2, ints2_1, ints2_2, RW_rg1, RW_rg2, RW_gRg, RW_op1S, RW_lst, isN_non, isi_non_tuple, isi_non_list, isi_non_bool, isi_non_int, isi_non_str, isN_bl, isi_bl_tuple, isi_bl_list, isi_bl_bool, isi_bl_int, isi_bl_str, isN_int, isi_int_tuple, isi_int_list, isi_int_bool, isi_int_int, isi_int_str, isN_str, isi_str_tuple, isi_str_list, isi_str_bool, isi_str_int, isi_str_str, isN_lst, isi_lst_tuple, isi_lst_list, isi_lst_bool, isi_lst_int, isi_lst_str, isN_tup, isi_tup_tuple, isi_tup_list, isi_tup_bool, isi_tup_int, isi_tup_str, RW_seq, startD_eq, startA, setT_nm, setT_tp, setN_nil, setN_cons, bindA, argD, pairsA, putM, ndup, mutsD, mutIdx, intD_int, intD_bl, absD_int, lenD_lst, lenD_tup, lenD_str, tupD_lst, tupD_tup, max2D_ii, min2D_ii, szl, items_lst, items_tup, RW_comp, RW_yes, wipeD, RW_addL, RW_addT, RW_addS, RW_iadd, RW_gCat, RW_gRep, RW_gRev, RW_zip, RW_enum, RW_enum2, stF, RW_oN, RW_oS, RW_sl, sliceD_lst, sliceD_tup, RW_mut, RW_mutF, isOwn, lm_app, ixN_l0, ixN_l1, ixN_l2, ixN_l3, ixN_l4, ixN_l5, List.reverse_cons, List.reverse_nil, List.getElem?_nil, Nat.reduceAdd, Nat.reduceLeDiff, Nat.reduceLT, Int.reduceLT, Int.reduceLE, Int.reduceAdd, Int.reduceSub, Int.reduceMul, Int.reduceNeg, Int.reduceEq, Int.reduceToNat, Nat.reduceEqDiff, List.replicate_succ, List.replicate_zero, List.cons_append, List.nil_append, List.getElem?_cons_zero, List.getElem?_cons_succ, List.set_cons_zero, List.set_cons_succ, List.length_cons, List.length_nil, List.map_cons, List.map_nil, List.contains_nil, List.contains_cons, Option.map_some, Option.bind_some, decide_eq_true_eq, decide_eq_false_iff_not, decide_true, decide_false, Bool.not_true, Bool.not_false, Bool.and_true, Bool.true_and, Bool.and_false, Bool.false_and, Bool.or_false, Bool.false_or, Bool.or_true, Bool.true_or, Bool.not_eq_true', Bool.not_eq_false', Bool.false_eq_true, Bool.true_eq_false, reduceCtorEq, true_implies, false_implies, forall_const, not_true_eq_false, not_false_eq_true, and_true, true_and, and_self, if_true, if_false, ite_true, ite_false, eq_self]
  · walk_at "ev"
    exact q
theorem order_unknown {x : Str} {v : Int} {d e : D} (h : inD (.str x) (unb d_MODES) = some false) (k : E "Unknown" ["name"] [.str x] []) : MW (m_taking_order [.str x, .int v, d, e]) Q G E := by
  refine MW_run (t := t_taking_order) ?_
  delta t_taking_order
  walk_at "st"
  refine taking_unknown h ?_
  walk_at "ev"
  exact k
theorem order_local {x : Str} {v : Int} {d e : D} (h : inD (.str x) (unb d_MODES) = some true) (h2 : inD (.str x) (unb d_CHOOSING) = some true) (k : E "NotLocal" ["station"] [.int v] []) : MW (m_taking_order [.str x, .int v, d, e]) Q G E := by
  refine MW_run (t := t_taking_order) ?_
  delta t_taking_order
  walk_at "st"
  refine taking_local h h2 ?_
  walk_at "ev"
  exact k
theorem asko_spec {x : Str} {v : Int} {d e : D} {ns gs : List Int} (hd : Row d ns) (he : Row e gs) (hn : ns.length ≤ 1000) (q : Q (resD x v (.tup ((spots x v ns gs).map (nameAt ns)))) []) : MW (m_law_ask_order [.str x, .int v, d, e]) Q G E := by
  refine MW_run (t := t_law_ask_order) ?_
  delta t_law_ask_order
  have hm := in_modes x
  have hc := in_choosing x
  walk_at "st"
  unfold resD at q
  by_cases h3 : three.contains x = true
  · rw [if_pos h3] at q
    rw [h3] at hm hc
    refine order_local (by rw [hm, Bool.or_true]) hc ?_
    walk_at "ev"
    refine ⟨by decide, by rfl, ?_⟩
    walk_at "st"
    refine MW_ok told_local ?_
    walk_at "ev"
    exact q
  · rw [if_neg h3] at q
    have h3 : three.contains x = false := by simpa using h3
    rw [h3] at hm hc
    by_cases h6 : six.contains x = true
    · rw [if_pos h6] at q
      rw [h6] at hm
      refine order_ok hd he hn (by rw [hm]; rfl) hc ?_
      walk_at "ev"
      walk_at "st"
      exact q
    · rw [if_neg h6] at q
      have h6 : six.contains x = false := by simpa using h6
      rw [h6] at hm
      refine order_unknown (by rw [hm]; rfl) ?_
      walk_at "ev"
      refine ⟨by decide, by rfl, ?_⟩
      walk_at "st"
      refine MW_ok told_unknown ?_
      walk_at "ev"
      exact q
def dueD (x : Str) (v : Int) (ns gs : List Int) : D := .tup [resD x v (.tup (spots x v ns gs)), resD x v (.tup ((spots x v ns gs).map (nameAt ns)))]
theorem in3 (x : Str) : inD (.str x) (.tup [.str "friend", .str "foe", .str "shun"]) = some (three.contains x) := inD_strs three x
theorem in6 (x : Str) : inD (.str x) (.tup [.str "top", .str "bottom", .str "turns", .str "hold", .str "shy", .str "late"]) = some (six.contains x) := inD_strs six x
theorem due_spec {x : Str} {v : Int} {d e : D} {ns gs : List Int} (hd : Row d ns) (he : Row e gs) (hn : ns.length ≤ 1000) (q : Q (dueD x v ns gs) []) : MW (m_law_due_taking [.str x, .int v, d, e]) Q G E := by
  refine MW_run (t := t_law_due_taking) ?_
  delta t_law_due_taking
  unfold dueD resD at q
  (refine LZ_in ?_; simp only [in3, LR_c, LR_n, RW_eBor, lnD_n, lnD_k, lnD_l, MG_d, mrg_n, mrg_0, mrg_f, mrg_l, mrg_o, mrg_on, nobV_fz, nob_int, nob_str, nob_bl, nob_non, nob_lst, nob_tup, nobL_n, nobL_c, nobL_a, nobL_i, nobL_s, Nat.reduceBEq, beq_self_eq_true, unb_non, unb_bl, unb_int, unb_str, unb_ty, unb_cls, unb_lst, unb_tup, unb_brw, unb_scr, unb_ins, unb_exc, items_brw, RW_ok, RW_exc, RW_stuck, RW_C, RW_var, RW_bin, RW_un, RW_vB, RW_T, RW_bAnd, RW_bOr, RW_bNot, RW_eAnd, RW_eOr, RW_eNot, RW_eIf, RW_aNil, RW_aCons, RW_gFz, RW_gDis, RW_eCall, RW_gCall, RW_fn1, RW_fn2, RW_fnL, dr_fz, dr_sl, frz_fz, frz_sl, frzs_nil, frzs_cons, RW_add, RW_sub, RW_lt, RW_le, RW_gt, RW_ge, RW_neg, RW_mul, RW_div, RW_mod, RW_pow, RW_eq0, RW_eq1, eqD_ii, eqD_ss, eqD_bb, Int.cast_ofNat_Int, RW_in, RW_is, RW_ix, getD_lst, getD_tup, atI_0, atI_1, atI_2, atI_3, atI_4, atI_5, RW_eFn, RW_gFn, RW_call, FW_nx, FW_nil, FW_break, FW_cont, FW_seq, FW_if, FW_expr, FW_ret, FW_retG, FW_retN, FW_put, FW_asg, FW_asgG, FW_asgT, FW_par, FW_sub, FW_store, FW_aug, FW_raise, FW_try, keepP, RW_rng1, RW_rng2, ints2_1, ints2_2, RW_rg1, RW_rg2, RW_gRg, RW_op1S, RW_lst, isN_non, isi_non_tuple, isi_non_list, isi_non_bool, isi_non_int, isi_non_str, isN_bl, isi_bl_tuple, isi_bl_list, isi_bl_bool, isi_bl_int, isi_bl_str, isN_int, isi_int_tuple, isi_int_list, isi_int_bool, isi_int_int, isi_int_str, isN_str, isi_str_tuple, isi_str_list, isi_str_bool, isi_str_int, isi_str_str, isN_lst, isi_lst_tuple, isi_lst_list, isi_lst_bool, isi_lst_int, isi_lst_str, isN_tup, isi_tup_tuple, isi_tup_list, isi_tup_bool, isi_tup_int, isi_tup_str, RW_seq, startD_eq, startA, setT_nm, setT_tp, setN_nil, setN_cons, bindA, argD, pairsA, putM, ndup, mutsD, mutIdx, intD_int, intD_bl, absD_int, lenD_lst, lenD_tup, lenD_str, tupD_lst, tupD_tup, max2D_ii, min2D_ii, szl, items_lst, items_tup, RW_comp, RW_yes, wipeD, RW_addL, RW_addT, RW_addS, RW_iadd, RW_gCat, RW_gRep, RW_gRev, RW_zip, RW_enum, RW_enum2, stF, RW_oN, RW_oS, RW_sl, sliceD_lst, sliceD_tup, RW_mut, RW_mutF, isOwn, lm_app, ixN_l0, ixN_l1, ixN_l2, ixN_l3, ixN_l4, ixN_l5, List.reverse_cons, List.reverse_nil, List.getElem?_nil, Nat.reduceAdd, Nat.reduceLeDiff, Nat.reduceLT, Int.reduceLT, Int.reduceLE, Int.reduceAdd, Int.reduceSub, Int.reduceMul, Int.reduceNeg, Int.reduceEq, Int.reduceToNat, Nat.reduceEqDiff, List.replicate_succ, List.replicate_zero, List.cons_append, List.nil_append, List.getElem?_cons_zero, List.getElem?_cons_succ, List.set_cons_zero, List.set_cons_succ, List.length_cons, List.length_nil, List.map_cons, List.map_nil, List.contains_nil, List.contains_cons, Option.map_some, Option.bind_some, decide_eq_true_eq, decide_eq_false_iff_not, decide_true, decide_false, Bool.not_true, Bool.not_false, Bool.and_true, Bool.true_and, Bool.and_false, Bool.false_and, Bool.or_false, Bool.false_or, Bool.or_true, Bool.true_or, Bool.not_eq_true', Bool.not_eq_false', Bool.false_eq_true, Bool.true_eq_false, reduceCtorEq, true_implies, false_implies, forall_const, not_true_eq_false, not_false_eq_true, and_true, true_and, and_self, if_true, if_false, ite_true, ite_false, eq_self])
  refine ⟨fun h3 => ?_, fun h3 => ?_⟩
  · simp only [h3, if_true] at q
    walk_at "st"
    exact q
  simp only [h3, Bool.false_eq_true, if_false] at q
  walk_at "st"
  (refine LZ_in ?_; simp only [in6, LR_c, LR_n, RW_eBor, lnD_n, lnD_k, lnD_l, MG_d, mrg_n, mrg_0, mrg_f, mrg_l, mrg_o, mrg_on, nobV_fz, nob_int, nob_str, nob_bl, nob_non, nob_lst, nob_tup, nobL_n, nobL_c, nobL_a, nobL_i, nobL_s, Nat.reduceBEq, beq_self_eq_true, unb_non, unb_bl, unb_int, unb_str, unb_ty, unb_cls, unb_lst, unb_tup, unb_brw, unb_scr, unb_ins, unb_exc, items_brw, RW_ok, RW_exc, RW_stuck, RW_C, RW_var, RW_bin, RW_un, RW_vB, RW_T, RW_bAnd, RW_bOr, RW_bNot, RW_eAnd, RW_eOr, RW_eNot, RW_eIf, RW_aNil, RW_aCons, RW_gFz, RW_gDis, RW_eCall, RW_gCall, RW_fn1, RW_fn2, RW_fnL, dr_fz, dr_sl, frz_fz, frz_sl, frzs_nil, frzs_cons, RW_add, RW_sub, RW_lt, RW_le, RW_gt, RW_ge, RW_neg, RW_mul, RW_div, RW_mod, RW_pow, RW_eq0, RW_eq1, eqD_ii, eqD_ss, eqD_bb, Int.cast_ofNat_Int, RW_in, RW_is, RW_ix, getD_lst, getD_tup, atI_0, atI_1, atI_2, atI_3, atI_4, atI_5, RW_eFn, RW_gFn, RW_call, FW_nx, FW_nil, FW_break, FW_cont, FW_seq, FW_if, FW_expr, FW_ret, FW_retG, FW_retN, FW_put, FW_asg, FW_asgG, FW_asgT, FW_par, FW_sub, FW_store, FW_aug, FW_raise, FW_try, keepP, RW_rng1, RW_rng2, ints2_1, ints2_2, RW_rg1, RW_rg2, RW_gRg, RW_op1S, RW_lst, isN_non, isi_non_tuple, isi_non_list, isi_non_bool, isi_non_int, isi_non_str, isN_bl, isi_bl_tuple, isi_bl_list, isi_bl_bool, isi_bl_int, isi_bl_str, isN_int, isi_int_tuple, isi_int_list, isi_int_bool, isi_int_int, isi_int_str, isN_str, isi_str_tuple, isi_str_list, isi_str_bool, isi_str_int, isi_str_str, isN_lst, isi_lst_tuple, isi_lst_list, isi_lst_bool, isi_lst_int, isi_lst_str, isN_tup, isi_tup_tuple, isi_tup_list, isi_tup_bool, isi_tup_int, isi_tup_str, RW_seq, startD_eq, startA, setT_nm, setT_tp, setN_nil, setN_cons, bindA, argD, pairsA, putM, ndup, mutsD, mutIdx, intD_int, intD_bl, absD_int, lenD_lst, lenD_tup, lenD_str, tupD_lst, tupD_tup, max2D_ii, min2D_ii, szl, items_lst, items_tup, RW_comp, RW_yes, wipeD, RW_addL, RW_addT, RW_addS, RW_iadd, RW_gCat, RW_gRep, RW_gRev, RW_zip, RW_enum, RW_enum2, stF, RW_oN, RW_oS, RW_sl, sliceD_lst, sliceD_tup, RW_mut, RW_mutF, isOwn, lm_app, ixN_l0, ixN_l1, ixN_l2, ixN_l3, ixN_l4, ixN_l5, List.reverse_cons, List.reverse_nil, List.getElem?_nil, Nat.reduceAdd, Nat.reduceLeDiff, Nat.reduceLT, Int.reduceLT, Int.reduceLE, Int.reduceAdd, Int.reduceSub, Int.reduceMul, Int.reduceNeg, Int.reduceEq, Int.reduceToNat, Nat.reduceEqDiff, List.replicate_succ, List.replicate_zero, List.cons_append, List.nil_append, List.getElem?_cons_zero, List.getElem?_cons_succ, List.set_cons_zero, List.set_cons_succ, List.length_cons, List.length_nil, List.map_cons, List.map_nil, List.contains_nil, List.contains_cons, Option.map_some, Option.bind_some, decide_eq_true_eq, decide_eq_false_iff_not, decide_true, decide_false, Bool.not_true, Bool.not_false, Bool.and_true, Bool.true_and, Bool.and_false, Bool.false_and, Bool.or_false, Bool.false_or, Bool.or_true, Bool.true_or, Bool.not_eq_true', Bool.not_eq_false', Bool.false_eq_true, Bool.true_eq_false, reduceCtorEq, true_implies, false_implies, forall_const, not_true_eq_false, not_false_eq_true, and_true, true_and, and_self, if_true, if_false, ite_true, ite_false, eq_self])
  refine ⟨fun h6 => ?_, fun h6 => ?_⟩
  · simp only [h6, Bool.false_eq_true, if_false] at q
    walk_at "st"
    exact q
  simp only [h6, if_true] at q
  walk_at "st"
  walk_at "st"
  refine ltaken_spec hd he hn (ord6 h6) ?_
  walk_at "ev"
  walk_at "st"
  refine comp_map (nameAt ns) (by have := spots_len (x := x) (v := v) (ns := ns) (gs := gs); rw [szl]; omega) (fun i p hp => ?_) ?_
  · obtain ⟨j, rfl, hg⟩ := name_get hd (spots_in (List.mem_of_getElem? hp))
    refine ⟨_, rfl, ?_⟩
    simp only [hg, LR_c, LR_n, RW_eBor, lnD_n, lnD_k, lnD_l, MG_d, mrg_n, mrg_0, mrg_f, mrg_l, mrg_o, mrg_on, nobV_fz, nob_int, nob_str, nob_bl, nob_non, nob_lst, nob_tup, nobL_n, nobL_c, nobL_a, nobL_i, nobL_s, Nat.reduceBEq, beq_self_eq_true, unb_non, unb_bl, unb_int, unb_str, unb_ty, unb_cls, unb_lst, unb_tup, unb_brw, unb_scr, unb_ins, unb_exc, items_brw, RW_ok, RW_exc, RW_stuck, RW_C, RW_var, RW_bin, RW_un, RW_vB, RW_T, RW_bAnd, RW_bOr, RW_bNot, RW_eAnd, RW_eOr, RW_eNot, RW_eIf, RW_aNil, RW_aCons, RW_gFz, RW_gDis, RW_eCall, RW_gCall, RW_fn1, RW_fn2, RW_fnL, dr_fz, dr_sl, frz_fz, frz_sl, frzs_nil, frzs_cons, RW_add, RW_sub, RW_lt, RW_le, RW_gt, RW_ge, RW_neg, RW_mul, RW_div, RW_mod, RW_pow, RW_eq0, RW_eq1, eqD_ii, eqD_ss, eqD_bb, Int.cast_ofNat_Int, RW_in, RW_is, RW_ix, getD_lst, getD_tup, atI_0, atI_1, atI_2, atI_3, atI_4, atI_5, RW_eFn, RW_gFn, RW_call, FW_nx, FW_nil, FW_break, FW_cont, FW_seq, FW_if, FW_expr, FW_ret, FW_retG, FW_retN, FW_put, FW_asg, FW_asgG, FW_asgT, FW_par, FW_sub, FW_store, FW_aug, FW_raise, FW_try, keepP, RW_rng1, RW_rng2, ints2_1, ints2_2, RW_rg1, RW_rg2, RW_gRg, RW_op1S, RW_lst, isN_non, isi_non_tuple, isi_non_list, isi_non_bool, isi_non_int, isi_non_str, isN_bl, isi_bl_tuple, isi_bl_list, isi_bl_bool, isi_bl_int, isi_bl_str, isN_int, isi_int_tuple, isi_int_list, isi_int_bool, isi_int_int, isi_int_str, isN_str, isi_str_tuple, isi_str_list, isi_str_bool, isi_str_int, isi_str_str, isN_lst, isi_lst_tuple, isi_lst_list, isi_lst_bool, isi_lst_int, isi_lst_str, isN_tup, isi_tup_tuple, isi_tup_list, isi_tup_bool, isi_tup_int, isi_tup_str, RW_seq, startD_eq, startA, setT_nm, setT_tp, setN_nil, setN_cons, bindA, argD, pairsA, putM, ndup, mutsD, mutIdx, intD_int, intD_bl, absD_int, lenD_lst, lenD_tup, lenD_str, tupD_lst, tupD_tup, max2D_ii, min2D_ii, szl, items_lst, items_tup, RW_comp, RW_yes, wipeD, RW_addL, RW_addT, RW_addS, RW_iadd, RW_gCat, RW_gRep, RW_gRev, RW_zip, RW_enum, RW_enum2, stF, RW_oN, RW_oS, RW_sl, sliceD_lst, sliceD_tup, RW_mut, RW_mutF, isOwn, lm_app, ixN_l0, ixN_l1, ixN_l2, ixN_l3, ixN_l4, ixN_l5, List.reverse_cons, List.reverse_nil, List.getElem?_nil, Nat.reduceAdd, Nat.reduceLeDiff, Nat.reduceLT, Int.reduceLT, Int.reduceLE, Int.reduceAdd, Int.reduceSub, Int.reduceMul, Int.reduceNeg, Int.reduceEq, Int.reduceToNat, Nat.reduceEqDiff, List.replicate_succ, List.replicate_zero, List.cons_append, List.nil_append, List.getElem?_cons_zero, List.getElem?_cons_succ, List.set_cons_zero, List.set_cons_succ, List.length_cons, List.length_nil, List.map_cons, List.map_nil, List.contains_nil, List.contains_cons, Option.map_some, Option.bind_some, decide_eq_true_eq, decide_eq_false_iff_not, decide_true, decide_false, Bool.not_true, Bool.not_false, Bool.and_true, Bool.true_and, Bool.and_false, Bool.false_and, Bool.or_false, Bool.false_or, Bool.or_true, Bool.true_or, Bool.not_eq_true', Bool.not_eq_false', Bool.false_eq_true, Bool.true_eq_false, reduceCtorEq, true_implies, false_implies, forall_const, not_true_eq_false, not_false_eq_true, and_true, true_and, and_self, if_true, if_false, ite_true, ite_false, eq_self]
  · walk_at "ev"
    exact q
end
end LK

set_option Elab.async false
set_option linter.all false
set_option maxRecDepth 10000
set_option exponentiation.threshold 4000
namespace LK
open PySem L2 DL
section
variable {Q G : D → List D → Prop} {E : Str → List Str → List D → List D → Prop}
def nine : List Str := six ++ three
theorem nine_len : ∀ x ∈ nine, 1 ≤ x.length ∧ x.length ≤ 10 := by decide +kernel
theorem nine_up : ∀ x ∈ nine, ∀ c ∈ x.cps.toList, (Txt.upper ⟨#[c]⟩).length ≤ 100 := by decide +kernel
theorem str_at {x : Str} {r : Int} (h0 : 0 ≤ r) (h1 : r < x.length) (hl : x.length ≤ 1000) : ∃ c, c ∈ x.cps.toList ∧ getD? (.str x) r = some (.str ⟨#[c]⟩) := by
  have hz : r.toNat < x.cps.toList.length := by
    show r.toNat < x.cps.size
    have e : x.length = x.cps.size := rfl
    omega
  refine ⟨x.cps.toList[r.toNat], List.getElem_mem _, ?_⟩
  unfold getD?
  dsimp only
  rw [if_pos (by rw [szl]; omega), atI_ge h0, List.getElem?_eq_getElem hz]
  rfl
theorem slS {x : Str} {a b : Option Int} (hl : x.length ≤ 1000) : sliceD (.str x) a b = some (.str (cutS x a b)) := by
  unfold sliceD
  dsimp only
  rw [if_pos (by rw [szl]; omega)]
theorem odd_spec {s : Sto} {n : Int} {x : Str} (hx : x ∈ nine) (I : Inv n s) (hn : n ≤ 800000) (k : ∀ (y : Str) (s' : Sto), Inv (n + 2) s' → Q (.str y) [stD s']) : MW (m_law_odd_mode [stD s, .str x]) Q G E := by
  refine MW_run (t := t_law_odd_mode) ?_
  delta t_law_odd_mode
  obtain ⟨l1, l2⟩ := nine_len x hx
  have up := nine_up x hx
  clear hx
  obtain ⟨m, hm⟩ : ∃ m : Int, m = (x.length : Int) := ⟨_, rfl⟩
  have hl : lenD (unb (.str x)) = some (.int m) := by rw [unb_str, lenD_str, if_pos (by omega), hm]
  generalize hy : D.str x = dx at hl ⊢
  (refine LZ_in ?_; simp only [hl, LR_c, LR_n, RW_eBor, lnD_n, lnD_k, lnD_l, MG_d, mrg_n, mrg_0, mrg_f, mrg_l, mrg_o, mrg_on, nobV_fz, nob_int, nob_str, nob_bl, nob_non, nob_lst, nob_tup, nobL_n, nobL_c, nobL_a, nobL_i, nobL_s, Nat.reduceBEq, beq_self_eq_true, unb_non, unb_bl, unb_int, unb_str, unb_ty, unb_cls, unb_lst, unb_tup, unb_brw, unb_scr, unb_ins, unb_exc, items_brw, RW_ok, RW_exc, RW_stuck, RW_C, RW_var, RW_bin, RW_un, RW_vB, RW_T, RW_bAnd, RW_bOr, RW_bNot, RW_eAnd, RW_eOr, RW_eNot, RW_eIf, RW_aNil, RW_aCons, RW_gFz, RW_gDis, RW_eCall, RW_gCall, RW_fn1, RW_fn2, RW_fnL, dr_fz, dr_sl, frz_fz, frz_sl, frzs_nil, frzs_cons, RW_add, RW_sub, RW_lt, RW_le, RW_gt, RW_ge, RW_neg, RW_mul, RW_div, RW_mod, RW_pow, RW_eq0, RW_eq1, eqD_ii, eqD_ss, eqD_bb, Int.cast_ofNat_Int, RW_in, RW_is, RW_ix, getD_lst, getD_tup, atI_0, atI_1, atI_2, atI_3, atI_4, atI_5, RW_eFn, RW_gFn, RW_call, FW_nx, FW_nil, FW_break, FW_cont, FW_seq, FW_if, FW_expr, FW_ret, FW_retG, FW_retN, FW_put, FW_asg, FW_asgG, FW_asgT, FW_par, FW_sub, FW_store, FW_aug, FW_raise, FW_try, keepP, RW_rng1, RW_rng2, ints2_1, ints2_2, RW_rg1, RW_rg2, RW_gRg, RW_op1S, RW_lst, isN_non, isi_non_tuple, isi_non_list, isi_non_bool, isi_non_int, isi_non_str, isN_bl, isi_bl_tuple, isi_bl_list, isi_bl_bool, isi_bl_int, isi_bl_str, isN_int, isi_int_tuple, isi_int_list, isi_int_bool, isi_int_int, isi_int_str, isN_str, isi_str_tuple, isi_str_list, isi_str_bool, isi_str_int, isi_str_str, isN_lst, isi_lst_tuple, isi_lst_list, isi_lst_bool, isi_lst_int, isi_lst_str, isN_tup, isi_tup_tuple, isi_tup_list, isi_tup_bool, isi_tup_int, isi_tup_str, RW_seq, startD_eq, startA, setT_nm, setT_tp, setN_nil, setN_cons, bindA, argD, pairsA, putM, ndup, mutsD, mutIdx, intD_int, intD_bl, absD_int, lenD_lst, lenD_tup, lenD_str, tupD_lst, tupD_tup, max2D_ii, min2D_ii, szl, items_lst, items_tup, RW_comp, RW_yes, wipeD, RW_addL, RW_addT, RW_addS, RW_iadd, RW_gCat, RW_gRep, RW_gRev, RW_zip, RW_enum, RW_enum2, stF, RW_oN, RW_oS, RW_sl, sliceD_lst, sliceD_tup, RW_mut, RW_mutF, isOwn, lm_app, ixN_l0, ixN_l1, ixN_l2, ixN_l3, ixN_l4, ixN_l5, List.reverse_cons, List.reverse_nil, List.getElem?_nil, Nat.reduceAdd, Nat.reduceLeDiff, Nat.reduceLT, Int.reduceLT, Int.reduceLE, Int.reduceAdd, Int.reduceSub, Int.reduceMul, Int.reduceNeg, Int.reduceEq, Int.reduceToNat, Nat.reduceEqDiff, List.replicate_succ, List.replicate_zero, List.cons_append, List.nil_append, List.getElem?_cons_zero, List.getElem?_cons_succ, List.set_cons_zero, List.set_cons_succ, List.length_cons, List.length_nil, List.map_cons, List.map_nil, List.contains_nil, List.contains_cons, Option.map_some, Option.bind_some, decide_eq_true_eq, decide_eq_false_iff_not, decide_true, decide_false, Bool.not_true, Bool.not_false, Bool.and_true, Bool.true_and, Bool.and_false, Bool.false_and, Bool.or_false, Bool.false_or, Bool.or_true, Bool.true_or, Bool.not_eq_true', Bool.not_eq_false', Bool.false_eq_true, Bool.true_eq_false, reduceCtorEq, true_implies, false_implies, forall_const, not_true_eq_false, not_false_eq_true, and_true, true_and, and_self, if_true, if_false, ite_true, ite_false, eq_self])
  refine take_spec I (by omega) (by omega) (by omega) fun r s1 I1 r0 r1 => ?_
  walk_at "ev"
  subst hy
  obtain ⟨c, hc, hg⟩ := str_at r0 (show r < (x.length : Int) by omega) (by omega)
  have hu := up c hc
  have su : sUpper ⟨#[c]⟩ = some (.str (Txt.upper ⟨#[c]⟩)) := by unfold sUpper; rw [if_pos (show (⟨#[c]⟩ : Str).length ≤ 5592405 from (show (1 : Nat) ≤ 5592405 by decide))]
  have c1 : ∀ a b, (cutS x a b).length ≤ 10 := fun a b => Nat.le_trans (J1.cutS_len_le x a b) l2
  have k1 : (Str.ofString " ").length = 1 := by decide +kernel
  have k2 : (Str.ofString "s").length = 1 := by decide +kernel
  have k3 : (Str.ofString "z").length = 1 := by decide +kernel
  have k4 : (Str.ofString "\n").length = 1 := by decide +kernel
  (refine LZ_in ?_; simp only [slS (show x.length ≤ 1000 by omega), hg, su, LR_c, LR_n, RW_eBor, lnD_n, lnD_k, lnD_l, MG_d, mrg_n, mrg_0, mrg_f, mrg_l, mrg_o, mrg_on, nobV_fz, nob_int, nob_str, nob_bl, nob_non, nob_lst, nob_tup, nobL_n, nobL_c, nobL_a, nobL_i, nobL_s, Nat.reduceBEq, beq_self_eq_true, unb_non, unb_bl, unb_int, unb_str, unb_ty, unb_cls, unb_lst, unb_tup, unb_brw, unb_scr, unb_ins, unb_exc, items_brw, RW_ok, RW_exc, RW_stuck, RW_C, RW_var, RW_bin, RW_un, RW_vB, RW_T, RW_bAnd, RW_bOr, RW_bNot, RW_eAnd, RW_eOr, RW_eNot, RW_eIf, RW_aNil, RW_aCons, RW_gFz, RW_gDis, RW_eCall, RW_gCall, RW_fn1, RW_fn2, RW_fnL, dr_fz, dr_sl, frz_fz, frz_sl, frzs_nil, frzs_cons, RW_add, RW_sub, RW_lt, RW_le, RW_gt, RW_ge, RW_neg, RW_mul, RW_div, RW_mod, RW_pow, RW_eq0, RW_eq1, eqD_ii, eqD_ss, eqD_bb, Int.cast_ofNat_Int, RW_in, RW_is, RW_ix, getD_lst, getD_tup, atI_0, atI_1, atI_2, atI_3, atI_4, atI_5, RW_eFn, RW_gFn, RW_call, FW_nx, FW_nil, FW_break, FW_cont, FW_seq, FW_if, FW_expr, FW_ret, FW_retG, FW_retN, FW_put, FW_asg, FW_asgG, FW_asgT, FW_par, FW_sub, FW_store, FW_aug, FW_raise, FW_try, keepP, RW_rng1, RW_rng2, ints2_1, ints2_2, RW_rg1, RW_rg2, RW_gRg, RW_op1S, RW_lst, isN_non, isi_non_tuple, isi_non_list, isi_non_bool, isi_non_int, isi_non_str, isN_bl, isi_bl_tuple, isi_bl_list, isi_bl_bool, isi_bl_int, isi_bl_str, isN_int, isi_int_tuple, isi_int_list, isi_int_bool, isi_int_int, isi_int_str, isN_str, isi_str_tuple, isi_str_list, isi_str_bool, isi_str_int, isi_str_str, isN_lst, isi_lst_tuple, isi_lst_list, isi_lst_bool, isi_lst_int, isi_lst_str, isN_tup, isi_tup_tuple, isi_tup_list, isi_tup_bool, isi_tup_int, isi_tup_str, RW_seq, startD_eq, startA, setT_nm, setT_tp, setN_nil, setN_cons, bindA, argD, pairsA, putM, ndup, mutsD, mutIdx, intD_int, intD_bl, absD_int, lenD_lst, lenD_tup, lenD_str, tupD_lst, tupD_tup, max2D_ii, min2D_ii, szl, items_lst, items_tup, RW_comp, RW_yes, wipeD, RW_addL, RW_addT, RW_addS, RW_iadd, RW_gCat, RW_gRep, RW_gRev, RW_zip, RW_enum, RW_enum2, stF, RW_oN, RW_oS, RW_sl, sliceD_lst, sliceD_tup, RW_mut, RW_mutF, isOwn, lm_app, ixN_l0, ixN_l1, ixN_l2, ixN_l3, ixN_l4, ixN_l5, List.reverse_cons, List.reverse_nil, List.getElem?_nil, Nat.reduceAdd, Nat.reduceLeDiff, Nat.reduceLT, Int.reduceLT, Int.reduceLE, Int.reduceAdd, Int.reduceSub, Int.reduceMul, Int.reduceNeg, Int.reduceEq, Int.reduceToNat, Nat.reduceEqDiff, List.replicate_succ, List.replicate_zero, List.cons_append, List.nil_append, List.getElem?_cons_zero, List.getElem?_cons_succ, List.set_cons_zero, List.set_cons_succ, List.length_cons, List.length_nil, List.map_cons, List.map_nil, List.contains_nil, List.contains_cons, Option.map_some, Option.bind_some, decide_eq_true_eq, decide_eq_false_iff_not, decide_true, decide_false, Bool.not_true, Bool.not_false, Bool.and_true, Bool.true_and, Bool.and_false, Bool.false_and, Bool.or_false, Bool.false_or, Bool.or_true, Bool.true_or, Bool.not_eq_true', Bool.not_eq_false', Bool.false_eq_true, Bool.true_eq_false, reduceCtorEq, true_implies, false_implies, forall_const, not_true_eq_false, not_false_eq_true, and_true, true_and, and_self, if_true, if_false, ite_true, ite_false, eq_self])
  have b1 := c1 none (some r)
  have b2 := c1 (some (r + 1)) none
  have app : ∀ a b : Str, (a ++ b).length = a.length + b.length := Str.length_append
  refine ⟨by omega, by omega, by omega, by omega, by rw [app]; omega, ?_⟩
  (refine LZ_in ?_; simp only [slS (show x.length ≤ 1000 by omega), LR_c, LR_n, RW_eBor, lnD_n, lnD_k, lnD_l, MG_d, mrg_n, mrg_0, mrg_f, mrg_l, mrg_o, mrg_on, nobV_fz, nob_int, nob_str, nob_bl, nob_non, nob_lst, nob_tup, nobL_n, nobL_c, nobL_a, nobL_i, nobL_s, Nat.reduceBEq, beq_self_eq_true, unb_non, unb_bl, unb_int, unb_str, unb_ty, unb_cls, unb_lst, unb_tup, unb_brw, unb_scr, unb_ins, unb_exc, items_brw, RW_ok, RW_exc, RW_stuck, RW_C, RW_var, RW_bin, RW_un, RW_vB, RW_T, RW_bAnd, RW_bOr, RW_bNot, RW_eAnd, RW_eOr, RW_eNot, RW_eIf, RW_aNil, RW_aCons, RW_gFz, RW_gDis, RW_eCall, RW_gCall, RW_fn1, RW_fn2, RW_fnL, dr_fz, dr_sl, frz_fz, frz_sl, frzs_nil, frzs_cons, RW_add, RW_sub, RW_lt, RW_le, RW_gt, RW_ge, RW_neg, RW_mul, RW_div, RW_mod, RW_pow, RW_eq0, RW_eq1, eqD_ii, eqD_ss, eqD_bb, Int.cast_ofNat_Int, RW_in, RW_is, RW_ix, getD_lst, getD_tup, atI_0, atI_1, atI_2, atI_3, atI_4, atI_5, RW_eFn, RW_gFn, RW_call, FW_nx, FW_nil, FW_break, FW_cont, FW_seq, FW_if, FW_expr, FW_ret, FW_retG, FW_retN, FW_put, FW_asg, FW_asgG, FW_asgT, FW_par, FW_sub, FW_store, FW_aug, FW_raise, FW_try, keepP, RW_rng1, RW_rng2, ints2_1, ints2_2, RW_rg1, RW_rg2, RW_gRg, RW_op1S, RW_lst, isN_non, isi_non_tuple, isi_non_list, isi_non_bool, isi_non_int, isi_non_str, isN_bl, isi_bl_tuple, isi_bl_list, isi_bl_bool, isi_bl_int, isi_bl_str, isN_int, isi_int_tuple, isi_int_list, isi_int_bool, isi_int_int, isi_int_str, isN_str, isi_str_tuple, isi_str_list, isi_str_bool, isi_str_int, isi_str_str, isN_lst, isi_lst_tuple, isi_lst_list, isi_lst_bool, isi_lst_int, isi_lst_str, isN_tup, isi_tup_tuple, isi_tup_list, isi_tup_bool, isi_tup_int, isi_tup_str, RW_seq, startD_eq, startA, setT_nm, setT_tp, setN_nil, setN_cons, bindA, argD, pairsA, putM, ndup, mutsD, mutIdx, intD_int, intD_bl, absD_int, lenD_lst, lenD_tup, lenD_str, tupD_lst, tupD_tup, max2D_ii, min2D_ii, szl, items_lst, items_tup, RW_comp, RW_yes, wipeD, RW_addL, RW_addT, RW_addS, RW_iadd, RW_gCat, RW_gRep, RW_gRev, RW_zip, RW_enum, RW_enum2, stF, RW_oN, RW_oS, RW_sl, sliceD_lst, sliceD_tup, RW_mut, RW_mutF, isOwn, lm_app, ixN_l0, ixN_l1, ixN_l2, ixN_l3, ixN_l4, ixN_l5, List.reverse_cons, List.reverse_nil, List.getElem?_nil, Nat.reduceAdd, Nat.reduceLeDiff, Nat.reduceLT, Int.reduceLT, Int.reduceLE, Int.reduceAdd, Int.reduceSub, Int.reduceMul, Int.reduceNeg, Int.reduceEq, Int.reduceToNat, Nat.reduceEqDiff, List.replicate_succ, List.replicate_zero, List.cons_append, List.nil_append, List.getElem?_cons_zero, List.getElem?_cons_succ, List.set_cons_zero, List.set_cons_succ, List.length_cons, List.length_nil, List.map_cons, List.map_nil, List.contains_nil, List.contains_cons, Option.map_some, Option.bind_some, decide_eq_true_eq, decide_eq_false_iff_not, decide_true, decide_false, Bool.not_true, Bool.not_false, Bool.and_true, Bool.true_and, Bool.and_false, Bool.false_and, Bool.or_false, Bool.false_or, Bool.or_true, Bool.true_or, Bool.not_eq_true', Bool.not_eq_false', Bool.false_eq_true, Bool.true_eq_false, reduceCtorEq, true_implies, false_implies, forall_const, not_true_eq_false, not_false_eq_true, and_true, true_and, and_self, if_true, if_false, ite_true, ite_false, eq_self])
  refine ⟨by omega, by omega, by rw [app]; omega, by omega, by omega, ?_⟩
  walk_at "st"
  refine pick_spec (.inl rfl) I1 (by omega) (by simp) (by simp) fun i d s2 hd I2 => ?_
  have hs : ∃ y, d = .str y := by
    have hmem := List.mem_of_getElem? hd
    simp only [List.mem_cons, List.not_mem_nil, or_false] at hmem
    rcases hmem with h | h | h | h | h | h | h | h | h | h | h | h | h | h <;> exact ⟨_, h⟩
  obtain ⟨y, rfl⟩ := hs
  walk_at "ev"
  exact k y _ (I2.mono (by omega))
end
end LK

set_option Elab.async false
set_option linter.all false
set_option maxRecDepth 10000
set_option exponentiation.threshold 4000
namespace LK
open PySem L2 DL
section
variable {Q G : D → List D → Prop} {E : Str → List Str → List D → List D → Prop}
theorem cut_from {xs : List D} {k : Nat} : cutD xs (some (k : Int)) none = xs.drop k := by
  unfold cutD
  rw [HT.sIx_nat, HT.sIx_none]
  rcases Nat.le_total k xs.length with h | h
  · rw [Nat.min_eq_left h, List.take_of_length_le (by rw [List.length_drop]; omega)]
  · rw [Nat.min_eq_right h, List.drop_of_length_le (Nat.le_refl _), List.drop_of_length_le h, List.take_nil]
theorem cut_1 {xs : List D} : cutD xs (some 1) none = xs.drop 1 := cut_from (k := 1)
theorem pop0 {x : D} {xs : List D} : lmPopAt (x :: xs) [.int 0] = some (x, xs) := by
  unfold lmPopAt
  dsimp only
  rw [if_pos (by decide)]
  have e : seqIndex? 0 (x :: xs).length = some 0 := (ixN_seq (n := (x :: xs).length) (i := 0) (j := 0) (by
    unfold ixN
    rw [if_pos (by omega), if_pos (by rw [List.length_cons]; omega)]
    rfl)).1
  rw [e]
  rfl
theorem cleanL_int (ns : List Int) : cleanL (ns.map D.int) = true := by
  induction ns with
  | nil => rfl
  | cons n ns ih => show (clean (.int n) && cleanL (ns.map D.int)) = true; rw [ih]; rfl
theorem depL_int (ns : List Int) : depL (ns.map D.int) = 0 := by
  induction ns with
  | nil => rfl
  | cons n ns ih => show max (dep (.int n)) (depL (ns.map D.int)) = 0; rw [ih]; rfl
theorem nodL_int (ns : List Int) : nodL (ns.map D.int) = ns.length := by
  induction ns with
  | nil => rfl
  | cons n ns ih => show nod (.int n) + nodL (ns.map D.int) = ns.length + 1; rw [ih]; show 1 + _ = _; omega
theorem ints_of : ∀ {ds : List D} {n : Nat}, (∀ d ∈ ds, InP n d) → ∃ ks : List Int, ds = ks.map D.int ∧ ks.length = ds.length
  | [], n, _ => ⟨[], rfl, rfl⟩
  | d :: ds, n, h => by
    obtain ⟨ks, e, l⟩ := ints_of (ds := ds) fun x hx => h x (List.mem_cons_of_mem _ hx)
    obtain ⟨k, _, e2⟩ := h d List.mem_cons_self
    exact ⟨(k : Int) :: ks, by rw [e, e2]; rfl, by rw [List.length_cons, List.length_cons, l]⟩
theorem names_of {ns : List Int} : ∀ {ks : List Int}, ∃ ms : List Int, (ks.map D.int).map (nameAt ns) = ms.map D.int ∧ ms.length = ks.length
  | [] => ⟨[], rfl, rfl⟩
  | k :: ks => by
    obtain ⟨ms, e, l⟩ := names_of (ns := ns) (ks := ks)
    exact ⟨ns.getD k.toNat 0 :: ms, by rw [List.map_cons, List.map_cons, e]; rfl, by rw [List.length_cons, List.length_cons, l]⟩
theorem res_ok {x : Str} {v : Int} {ks : List Int} (h : ks.length ≤ 1000) : clean (resD x v (.tup (ks.map D.int))) = true ∧ dep (resD x v (.tup (ks.map D.int))) ≤ 3 ∧ nod (resD x v (.tup (ks.map D.int))) ≤ 1010 := by
  unfold resD
  split
  · exact ⟨rfl, by simp [dep, depL], by simp [nod, nodL]⟩
  split
  · refine ⟨?_, ?_, ?_⟩
    · show (true && (cleanL (ks.map D.int) && true)) = true
      rw [cleanL_int]; rfl
    · show max 0 (max (depL (ks.map D.int) + 1) 0) + 1 ≤ 3
      rw [depL_int]; decide
    · show 1 + (nodL (ks.map D.int) + 1 + 0) + 1 ≤ 1010
      rw [nodL_int]; omega
  · exact ⟨rfl, by simp [dep, depL], by simp [nod, nodL]⟩
theorem due_ok {x : Str} {v : Int} {ns gs : List Int} (hn : ns.length ≤ 100) : clean (dueD x v ns gs) = true ∧ dep (dueD x v ns gs) ≤ 8 ∧ nod (dueD x v ns gs) ≤ 1000000 := by
  unfold dueD
  have l := spots_len (x := x) (v := v) (ns := ns) (gs := gs)
  obtain ⟨ks, e, lk⟩ := ints_of (ds := spots x v ns gs) (n := ns.length) fun d hd => spots_in hd
  obtain ⟨ms, e2, lm⟩ := names_of (ns := ns) (ks := ks)
  rw [e, e2]
  obtain ⟨a1, a2, a3⟩ := res_ok (x := x) (v := v) (ks := ks) (by omega)
  obtain ⟨b1, b2, b3⟩ := res_ok (x := x) (v := v) (ks := ms) (by omega)
  refine ⟨?_, ?_, ?_⟩
  · show (clean (resD x v (.tup (ks.map D.int))) && (clean (resD x v (.tup (ms.map D.int))) && true)) = true
    rw [a1, b1]; rfl
  · show max (dep (resD x v (.tup (ks.map D.int)))) (max (dep (resD x v (.tup (ms.map D.int)))) 0) + 1 ≤ 8
    omega
  · show nod (resD x v (.tup (ks.map D.int))) + (nod (resD x v (.tup (ms.map D.int))) + 0) + 1 ≤ 1000000
    omega
theorem nob_cells : ∀ cs : List (Int × Int), nobL (cs.map cD) = true
  | [] => nobL_n
  | c :: cs => by rw [List.map_cons, nobL_c, nob_cells cs]; rfl
theorem nob_st (s : Sto) : nob (stD s) = true := by
  unfold stD
  rw [nob_lst, nobL_c, nob_lst, nob_cells]
  rfl
theorem nob_res {x : Str} {v : Int} {ks : List Int} : nob (resD x v (.tup (ks.map D.int))) = true := by
  unfold resD
  split
  · rfl
  split
  · rw [nob_tup, nobL_c, nobL_c, nob_tup, nobL_i]; rfl
  · rfl
theorem nob_res1 {x : Str} {v : Int} {ns gs : List Int} : nob (resD x v (.tup (spots x v ns gs))) = true := by
  obtain ⟨ks, e, lk⟩ := ints_of (ds := spots x v ns gs) (n := ns.length) fun d hd => spots_in hd
  rw [e]; exact nob_res
theorem nob_res2 {x : Str} {v : Int} {ns gs : List Int} : nob (resD x v (.tup ((spots x v ns gs).map (nameAt ns)))) = true := by
  obtain ⟨ks, e, lk⟩ := ints_of (ds := spots x v ns gs) (n := ns.length) fun d hd => spots_in hd
  obtain ⟨ms, e2, lm⟩ := names_of (ns := ns) (ks := ks)
  rw [e, e2]; exact nob_res
theorem same_modes : m_law_same [d_MODES, .tup [.str "top", .str "bottom", .str "turns", .str "hold", .str "shy", .str "late", .str "friend", .str "foe", .str "shun"]] = .ok (.bl true) [] := by kernel_rfl
theorem nine_e : [D.str "top", .str "bottom", .str "turns", .str "hold", .str "shy", .str "late", .str "friend", .str "foe", .str "shun"] = nine.map D.str := rfl
theorem kn06 : cutD (nine.map D.str) none (some 6) = six.map D.str := by kernel_rfl
theorem kn69 : cutD (nine.map D.str) (some 6) none = three.map D.str := by kernel_rfl
theorem kn26 : ∃ l : List Str, cutD (nine.map D.str) (some 2) (some 6) = l.map D.str ∧ l.length = 4 := ⟨["turns", "hold", "shy", "late"], by kernel_rfl, by decide⟩
theorem row_at {ns : List Int} {i : Nat} {d : D} (h : (ns.map D.int)[i]? = some d) : ∃ v, d = .int v := by
  rw [List.getElem?_map] at h
  cases q : ns[i]? with
  | none => rw [q] at h; cases h
  | some x => rw [q] at h; cases h; exact ⟨x, rfl⟩
theorem strs_at {l : List Str} {i : Nat} {d : D} (h : (l.map D.str)[i]? = some d) : ∃ y, y ∈ l ∧ d = .str y := by
  rw [List.getElem?_map] at h
  cases q : l[i]? with
  | none => rw [q] at h; cases h
  | some x => rw [q] at h; cases h; exact ⟨x, List.mem_of_getElem? q, rfl⟩
abbrev stL (ns : List Int) (sc : List Int) (s : Sto) (x3 x4 x5 x6 x7 x8 x9 x10 x11 x12 x13 : Option (Nat × D)) : DSt := [some (0, .scr sc), some (1, stD s), some (0, .tup (nine.map D.str)), x3, x4, x5, x6, x7, x8, x9, x10, x11, x12, x13]
set_option maxHeartbeats 4000000 in
theorem pure_law (sc : List Int) (hl : sc.length ≤ 63) : m_law [.scr sc] = .ok (.bl true) [] := by
  refine MW_eq ?_
  refine MW_run (t := t_law) ?_
  delta t_law
  walk_at "st"
  refine MW_noG ?_
  refine store_spec hl fun s I => ?_
  walk_at "ev"
  walk_at "st"
  walk_at "st"
  refine MW_ok same_modes ?_
  walk_at "ev"
  walk_at "st"
  walk_at "st"
  rw [nine_e]
  generalize hK : D.tup (nine.map D.str) = kn
  refine LZ_cut (J := fun δ => ∃ (s2 : Sto) (ns : List Int), δ = [some (0, .scr sc), some (1, stD s2), some (0, kn), some (0, .lst (ns.map D.int)), none, none, none, none, none, none, none, none, none, none] ∧ Inv 40 s2 ∧ ns.length = 5) ?_ ?_
  · walk_at "st"
    refine take_spec I (by omega) (by omega) (by omega) fun r s2 I2 r0 r1 => ?_
    walk_at "ev"
    refine ⟨fun h => ?_, fun h => ?_⟩
    · walk_at "st"
      refine ⟨by decide, ?_⟩
      refine comp_inv (fun i acc δ => ∃ (s3 : Sto) (ns : List Int), δ = [some (0, .scr sc), some (1, stD s3), some (0, kn), some (0, .lst [.int 0, .int 1, .int 2, .int 3, .int 4]), none, none, none, none, none, none, none, none, none, none] ∧ Inv (1 + 4 * i) s3 ∧ acc = ns.map D.int ∧ ns.length = i) (k := 0) ⟨s2, [], rfl, I2.mono (by omega), rfl, rfl⟩ ?_ ?_
      · rintro i d acc δ hd ⟨s3, ns, rfl, I3, rfl, hl⟩
        rw [Nat.zero_add] at *
        obtain ⟨rfl, hi⟩ := rangeD_at hd
        refine ⟨_, rfl, ?_⟩
        walk_at "ev"
        refine number_spec I3 (by omega) (by omega) (by omega) fun x s4 I4 x0 x1 => ?_
        walk_at "ev"
        refine ⟨by rw [List.length_map]; omega, s4, ns ++ [x], rfl, I4.mono (by omega), by rw [List.map_append]; rfl, by rw [List.length_append]; simp [hl]⟩
      · rintro acc δ ⟨s3, ns, rfl, I3, rfl, hl⟩
        rw [rangeD_len] at I3 hl
        exact ⟨s3, ns, rfl, I3.mono (by omega), by omega⟩
    · walk_at "st"
      exact ⟨s2, [0, 1, 2, 3, 4], rfl, I2.mono (by omega), rfl⟩
  clear I
  rintro δ1 ⟨s2, pool, rfl, I2, hp⟩
  have lp : (pool.map D.int).length = 5 := by rw [List.length_map]; exact hp
  walk_at "st"
  refine pick_spec (.inl rfl) I2 (by omega) (by omega) (by omega) fun i d s3 hd I3 => ?_
  obtain ⟨v, rfl⟩ := row_at hd
  walk_at "ev"
  -- the pile
  refine LZ_cut (J := fun δ => ∃ (s4 : Sto) (ns : List Int), δ = [some (0, .scr sc), some (1, stD s4), some (0, kn), some (0, .lst (pool.map D.int)), none, some (0, .int v), some (0, .lst (ns.map D.int)), none, none, none, none, none, none, none] ∧ Inv 100 s4 ∧ ns.length ≤ 60) ?_ ?_
  · walk_at "st"
    refine pick_spec (.inl rfl) I3 (by omega) (by simp) (by simp) fun i d s4 hd I4 => ?_
    have hm := List.mem_of_getElem? hd
    obtain ⟨c, rfl, c0, c1⟩ : ∃ c : Int, d = .int c ∧ 0 ≤ c ∧ c ≤ 9 := by
      simp only [List.mem_cons, List.not_mem_nil, or_false] at hm
      rcases hm with h | h | h | h | h | h | h | h | h | h <;> exact ⟨_, h, by decide, by decide⟩
    walk_at "ev"
    refine ⟨small_of (by omega) (by omega), ?_⟩
    refine comp_inv (fun i acc δ => ∃ (s5 : Sto) (ns : List Int), δ = [some (0, .scr sc), some (1, stD s5), some (0, kn), some (0, .lst (pool.map D.int)), none, some (0, .int v), none, none, none, none, none, none, none, none] ∧ Inv (50 + i) s5 ∧ acc = ns.map D.int ∧ ns.length = i) (k := 0) ⟨s4, [], rfl, I4.mono (by omega), rfl, rfl⟩ ?_ ?_
    · rintro i d acc δ hd ⟨s5, ns, rfl, I5, rfl, hl⟩
      rw [Nat.zero_add] at *
      obtain ⟨rfl, hi⟩ := rangeD_at hd
      refine ⟨_, rfl, ?_⟩
      walk_at "ev"
      refine ⟨by omega, ?_⟩
      have ep : pool.map D.int ++ [.int v, .int v] = (pool ++ [v, v]).map D.int := by rw [List.map_append]; rfl
      rw [ep]
      refine pick_spec (.inl rfl) I5 (by omega) (by simp) (by rw [List.length_map, List.length_append, hp]; simp) fun j d s6 hd I6 => ?_
      obtain ⟨x, rfl⟩ := row_at hd
      walk_at "ev"
      refine ⟨by rw [List.length_map]; omega, s6, ns ++ [x], rfl, I6.mono (by omega), by rw [List.map_append]; rfl, by rw [List.length_append]; simp [hl]⟩
    · rintro acc δ ⟨s5, ns, rfl, I5, rfl, hl⟩
      rw [rangeD_len] at I5 hl
      exact ⟨s5, ns, rfl, I5.mono (by omega), by omega⟩
  clear I2 I3
  rintro δ1 ⟨s4, ps, rfl, I4, lps⟩
  refine LZ_cut (J := fun δ => ∃ (s4 : Sto) (ns : List Int), δ = [some (0, .scr sc), some (1, stD s4), some (0, kn), some (0, .lst (pool.map D.int)), none, some (0, .int v), some (0, .lst (ns.map D.int)), none, none, none, none, none, none, none] ∧ Inv 200 s4 ∧ ns.length ≤ 60) ?_ ?_
  · walk_at "st"
    refine take_spec I4 (by omega) (by omega) (by omega) fun r s5 I5 r0 r1 => ?_
    walk_at "ev"
    refine ⟨fun h => ?_, fun h => ?_⟩
    · walk_at "st"
      refine ⟨by decide, ?_⟩
      refine comp_inv (fun i acc δ => ∃ (s6 : Sto) (ns : List Int), δ = [some (0, .scr sc), some (1, stD s6), some (0, kn), some (0, .lst (pool.map D.int)), none, some (0, .int v), some (0, .lst (ps.map D.int)), none, none, none, none, none, none, none] ∧ Inv (101 + i) s6 ∧ acc = ns.map D.int ∧ ns.length = i) (k := 0) ⟨s5, [], rfl, I5.mono (by omega), rfl, rfl⟩ ?_ ?_
      · rintro i d acc δ hd ⟨s6, ns, rfl, I6, rfl, hl⟩
        rw [Nat.zero_add] at *
        obtain ⟨rfl, hi⟩ := rangeD_at hd
        refine ⟨_, rfl, ?_⟩
        walk_at "ev"
        refine ⟨by omega, ?_⟩
        have ep : pool.map D.int ++ [.int v] = (pool ++ [v]).map D.int := by rw [List.map_append]; rfl
        rw [ep]
        refine pick_spec (.inl rfl) I6 (by omega) (by simp) (by rw [List.length_map, List.length_append, hp]; simp) fun j d s7 hd I7 => ?_
        obtain ⟨x, rfl⟩ := row_at hd
        walk_at "ev"
        refine ⟨by rw [List.length_map]; omega, s7, ns ++ [x], rfl, I7.mono (by omega), by rw [List.map_append]; rfl, by rw [List.length_append]; simp [hl]⟩
      · rintro acc δ ⟨s6, ns, rfl, I6, rfl, hl⟩
        rw [rangeD_len] at I6 hl
        exact ⟨s6, ns, rfl, I6.mono (by omega), by omega⟩
    · walk_at "st"
      exact ⟨s5, ps, rfl, I5.mono (by omega), lps⟩
  clear I4 lps
  rintro δ1 ⟨s4, ps, rfl, I4, lps⟩
  -- the homes
  refine LZ_cut (J := fun δ => ∃ (s4 : Sto) (gs : List Int), δ = [some (0, .scr sc), some (1, stD s4), some (0, kn), some (0, .lst (pool.map D.int)), none, some (0, .int v), some (0, .lst (ps.map D.int)), some (0, .lst (gs.map D.int)), none, none, none, none, none, none] ∧ Inv 300 s4) ?_ ?_
  · walk_at "st"
    refine take_spec I4 (by omega) (by omega) (by omega) fun r s5 I5 r0 r1 => ?_
    walk_at "ev"
    refine ⟨small_of (by omega) (by omega), ?_⟩
    refine comp_inv (fun i acc δ => ∃ (s6 : Sto) (ns : List Int), δ = [some (0, .scr sc), some (1, stD s6), some (0, kn), some (0, .lst (pool.map D.int)), none, some (0, .int v), some (0, .lst (ps.map D.int)), none, none, none, none, none, none, none] ∧ Inv (201 + i) s6 ∧ acc = ns.map D.int ∧ ns.length = i) (k := 0) ⟨s5, [], rfl, I5.mono (by omega), rfl, rfl⟩ ?_ ?_
    · rintro i d acc δ hd ⟨s6, ns, rfl, I6, rfl, hl⟩
      rw [Nat.zero_add] at *
      obtain ⟨rfl, hi⟩ := rangeD_at hd
      refine ⟨_, rfl, ?_⟩
      walk_at "ev"
      refine pick_spec (.inl rfl) I6 (by omega) (by omega) (by omega) fun j d s7 hd I7 => ?_
      obtain ⟨x, rfl⟩ := row_at hd
      walk_at "ev"
      refine ⟨by rw [List.length_map]; omega, s7, ns ++ [x], rfl, I7.mono (by omega), by rw [List.map_append]; rfl, by rw [List.length_append]; simp [hl]⟩
    · rintro acc δ ⟨s6, ns, rfl, I6, rfl, hl⟩
      rw [rangeD_len] at I6
      exact ⟨s6, ns, rfl, I6.mono (by omega)⟩
  clear I4
  rintro δ1 ⟨s4, gs, rfl, I4⟩
  -- the rules
  obtain ⟨d6, e6, q6⟩ : ∃ d6, sliceD (unb kn) none (some 6) = some d6 ∧ Seq d6 (six.map D.str) := ⟨.tup (six.map D.str), by rw [← hK, unb_tup, sliceD_tup, kn06], .inr (.inl rfl)⟩
  obtain ⟨d3, e3, q3⟩ : ∃ d3, sliceD (unb kn) (some 6) none = some d3 ∧ Seq d3 (three.map D.str) := ⟨.tup (three.map D.str), by rw [← hK, unb_tup, sliceD_tup, kn69], .inr (.inl rfl)⟩
  obtain ⟨l4, d4, e4, q4, n4⟩ : ∃ (l : List Str) (d4 : D), sliceD (unb kn) (some 2) (some 6) = some d4 ∧ Seq d4 (l.map D.str) ∧ l.length = 4 := by
    obtain ⟨l4, e4, n4⟩ := kn26
    exact ⟨l4, .tup (l4.map D.str), by rw [← hK, unb_tup, sliceD_tup, e4], .inr (.inl rfl), n4⟩
  have q9 : Seq kn (nine.map D.str) := .inr (.inl hK.symm)
  refine LZ_cut (J := fun δ => ∃ (s4 : Sto) (ms : List Str), δ = [some (0, .scr sc), some (1, stD s4), some (0, kn), some (0, .lst (pool.map D.int)), none, some (0, .int v), some (0, .lst (ps.map D.int)), some (0, .lst (gs.map D.int)), some (0, .lst (ms.map D.str)), none, none, none, none, none] ∧ Inv 400 s4 ∧ ms.length = 3) ?_ ?_
  · (refine LZ_in ?_; simp only [e6, LR_c, LR_n, RW_eBor, lnD_n, lnD_k, lnD_l, MG_d, mrg_n, mrg_0, mrg_f, mrg_l, mrg_o, mrg_on, nobV_fz, nob_int, nob_str, nob_bl, nob_non, nob_lst, nob_tup, nobL_n, nobL_c, nobL_a, nobL_i, nobL_s, Nat.reduceBEq, beq_self_eq_true, unb_non, unb_bl, unb_int, unb_str, unb_ty, unb_cls, unb_lst, unb_tup, unb_brw, unb_scr, unb_ins, unb_exc, items_brw, RW_ok, RW_exc, RW_stuck, RW_C, RW_var, RW_bin, RW_un, RW_vB, RW_T, RW_bAnd, RW_bOr, RW_bNot, RW_eAnd, RW_eOr, RW_eNot, RW_eIf, RW_aNil, RW_aCons, RW_gFz, RW_gDis, RW_eCall, RW_gCall, RW_fn1, RW_fn2, RW_fnL, dr_fz, dr_sl, frz_fz, frz_sl, frzs_nil, frzs_cons, RW_add, RW_sub, RW_lt, RW_le, RW_gt, RW_ge, RW_neg, RW_mul, RW_div, RW_mod, RW_pow, RW_eq0, RW_eq1, eqD_ii, eqD_ss, eqD_bb, Int.cast_ofNat_Int, RW_in, RW_is, RW_ix, getD_lst, getD_tup, atI_0, atI_1, atI_2, atI_3, atI_4, atI_5, RW_eFn, RW_gFn, RW_call, FW_nx, FW_nil, FW_break, FW_cont, FW_seq, FW_if, FW_expr, FW_ret, FW_retG, FW_retN, FW_put, FW_asg, FW_asgG, FW_asgT, FW_par, FW_sub, FW_store, FW_aug, FW_raise, FW_try, keepP, RW_rng1, RW_rng2, ints2_1, ints2_2, RW_rg1, RW_rg2, RW_gRg, RW_op1S, RW_lst, isN_non, isi_non_tuple, isi_non_list, isi_non_bool, isi_non_int, isi_non_str, isN_bl, isi_bl_tuple, isi_bl_list, isi_bl_bool, isi_bl_int, isi_bl_str, isN_int, isi_int_tuple, isi_int_list, isi_int_bool, isi_int_int, isi_int_str, isN_str, isi_str_tuple, isi_str_list, isi_str_bool, isi_str_int, isi_str_str, isN_lst, isi_lst_tuple, isi_lst_list, isi_lst_bool, isi_lst_int, isi_lst_str, isN_tup, isi_tup_tuple, isi_tup_list, isi_tup_bool, isi_tup_int, isi_tup_str, RW_seq, startD_eq, startA, setT_nm, setT_tp, setN_nil, setN_cons, bindA, argD, pairsA, putM, ndup, mutsD, mutIdx, intD_int, intD_bl, absD_int, lenD_lst, lenD_tup, lenD_str, tupD_lst, tupD_tup, max2D_ii, min2D_ii, szl, items_lst, items_tup, RW_comp, RW_yes, wipeD, RW_addL, RW_addT, RW_addS, RW_iadd, RW_gCat, RW_gRep, RW_gRev, RW_zip, RW_enum, RW_enum2, stF, RW_oN, RW_oS, RW_sl, sliceD_lst, sliceD_tup, RW_mut, RW_mutF, isOwn, lm_app, ixN_l0, ixN_l1, ixN_l2, ixN_l3, ixN_l4, ixN_l5, List.reverse_cons, List.reverse_nil, List.getElem?_nil, Nat.reduceAdd, Nat.reduceLeDiff, Nat.reduceLT, Int.reduceLT, Int.reduceLE, Int.reduceAdd, Int.reduceSub, Int.reduceMul, Int.reduceNeg, Int.reduceEq, Int.reduceToNat, Nat.reduceEqDiff, List.replicate_succ, List.replicate_zero, List.cons_append, List.nil_append, List.getElem?_cons_zero, List.getElem?_cons_succ, List.set_cons_zero, List.set_cons_succ, List.length_cons, List.length_nil, List.map_cons, List.map_nil, List.contains_nil, List.contains_cons, Option.map_some, Option.bind_some, decide_eq_true_eq, decide_eq_false_iff_not, decide_true, decide_false, Bool.not_true, Bool.not_false, Bool.and_true, Bool.true_and, Bool.and_false, Bool.false_and, Bool.or_false, Bool.false_or, Bool.or_true, Bool.true_or, Bool.not_eq_true', Bool.not_eq_false', Bool.false_eq_true, Bool.true_eq_false, reduceCtorEq, true_implies, false_implies, forall_const, not_true_eq_false, not_false_eq_true, and_true, true_and, and_self, if_true, if_false, ite_true, ite_false, eq_self])
    refine pick_spec q6 I4 (by omega) (by decide) (by decide) fun i d s5 hd I5 => ?_
    obtain ⟨a, ha, rfl⟩ := strs_at hd
    simp only [e3, LR_c, LR_n, RW_eBor, lnD_n, lnD_k, lnD_l, MG_d, mrg_n, mrg_0, mrg_f, mrg_l, mrg_o, mrg_on, nobV_fz, nob_int, nob_str, nob_bl, nob_non, nob_lst, nob_tup, nobL_n, nobL_c, nobL_a, nobL_i, nobL_s, Nat.reduceBEq, beq_self_eq_true, unb_non, unb_bl, unb_int, unb_str, unb_ty, unb_cls, unb_lst, unb_tup, unb_brw, unb_scr, unb_ins, unb_exc, items_brw, RW_ok, RW_exc, RW_stuck, RW_C, RW_var, RW_bin, RW_un, RW_vB, RW_T, RW_bAnd, RW_bOr, RW_bNot, RW_eAnd, RW_eOr, RW_eNot, RW_eIf, RW_aNil, RW_aCons, RW_gFz, RW_gDis, RW_eCall, RW_gCall, RW_fn1, RW_fn2, RW_fnL, dr_fz, dr_sl, frz_fz, frz_sl, frzs_nil, frzs_cons, RW_add, RW_sub, RW_lt, RW_le, RW_gt, RW_ge, RW_neg, RW_mul, RW_div, RW_mod, RW_pow, RW_eq0, RW_eq1, eqD_ii, eqD_ss, eqD_bb, Int.cast_ofNat_Int, RW_in, RW_is, RW_ix, getD_lst, getD_tup, atI_0, atI_1, atI_2, atI_3, atI_4, atI_5, RW_eFn, RW_gFn, RW_call, FW_nx, FW_nil, FW_break, FW_cont, FW_seq, FW_if, FW_expr, FW_ret, FW_retG, FW_retN, FW_put, FW_asg, FW_asgG, FW_asgT, FW_par, FW_sub, FW_store, FW_aug, FW_raise, FW_try, keepP, RW_rng1, RW_rng2, ints2_1, ints2_2, RW_rg1, RW_rg2, RW_gRg, RW_op1S, RW_lst, isN_non, isi_non_tuple, isi_non_list, isi_non_bool, isi_non_int, isi_non_str, isN_bl, isi_bl_tuple, isi_bl_list, isi_bl_bool, isi_bl_int, isi_bl_str, isN_int, isi_int_tuple, isi_int_list, isi_int_bool, isi_int_int, isi_int_str, isN_str, isi_str_tuple, isi_str_list, isi_str_bool, isi_str_int, isi_str_str, isN_lst, isi_lst_tuple, isi_lst_list, isi_lst_bool, isi_lst_int, isi_lst_str, isN_tup, isi_tup_tuple, isi_tup_list, isi_tup_bool, isi_tup_int, isi_tup_str, RW_seq, startD_eq, startA, setT_nm, setT_tp, setN_nil, setN_cons, bindA, argD, pairsA, putM, ndup, mutsD, mutIdx, intD_int, intD_bl, absD_int, lenD_lst, lenD_tup, lenD_str, tupD_lst, tupD_tup, max2D_ii, min2D_ii, szl, items_lst, items_tup, RW_comp, RW_yes, wipeD, RW_addL, RW_addT, RW_addS, RW_iadd, RW_gCat, RW_gRep, RW_gRev, RW_zip, RW_enum, RW_enum2, stF, RW_oN, RW_oS, RW_sl, sliceD_lst, sliceD_tup, RW_mut, RW_mutF, isOwn, lm_app, ixN_l0, ixN_l1, ixN_l2, ixN_l3, ixN_l4, ixN_l5, List.reverse_cons, List.reverse_nil, List.getElem?_nil, Nat.reduceAdd, Nat.reduceLeDiff, Nat.reduceLT, Int.reduceLT, Int.reduceLE, Int.reduceAdd, Int.reduceSub, Int.reduceMul, Int.reduceNeg, Int.reduceEq, Int.reduceToNat, Nat.reduceEqDiff, List.replicate_succ, List.replicate_zero, List.cons_append, List.nil_append, List.getElem?_cons_zero, List.getElem?_cons_succ, List.set_cons_zero, List.set_cons_succ, List.length_cons, List.length_nil, List.map_cons, List.map_nil, List.contains_nil, List.contains_cons, Option.map_some, Option.bind_some, decide_eq_true_eq, decide_eq_false_iff_not, decide_true, decide_false, Bool.not_true, Bool.not_false, Bool.and_true, Bool.true_and, Bool.and_false, Bool.false_and, Bool.or_false, Bool.false_or, Bool.or_true, Bool.true_or, Bool.not_eq_true', Bool.not_eq_false', Bool.false_eq_true, Bool.true_eq_false, reduceCtorEq, true_implies, false_implies, forall_const, not_true_eq_false, not_false_eq_true, and_true, true_and, and_self, if_true, if_false, ite_true, ite_false, eq_self]
    refine pick_spec q3 I5 (by omega) (by decide) (by decide) fun i d s6 hd I6 => ?_
    obtain ⟨b, hb, rfl⟩ := strs_at hd
    walk_at "ev"
    refine pick_spec q9 I6 (by omega) (by decide) (by decide) fun i d s7 hd I7 => ?_
    obtain ⟨c, hc, rfl⟩ := strs_at hd
    walk_at "ev"
    refine odd_spec hc I7 (by omega) fun y s8 I8 => ?_
    walk_at "ev"
    exact ⟨s8, [a, b, y], rfl, I8.mono (by omega), rfl⟩
  clear I4
  rintro δ1 ⟨s4, ms, rfl, I4, lm⟩
  refine LZ_cut (J := fun δ => ∃ (s4 : Sto) (ms : List Str), δ = [some (0, .scr sc), some (1, stD s4), some (0, kn), some (0, .lst (pool.map D.int)), none, some (0, .int v), some (0, .lst (ps.map D.int)), some (0, .lst (gs.map D.int)), some (0, .lst (ms.map D.str)), none, none, none, none, none] ∧ Inv 500 s4 ∧ ms.length = 5) ?_ ?_
  · (refine LZ_in ?_; simp only [e4, LR_c, LR_n, RW_eBor, lnD_n, lnD_k, lnD_l, MG_d, mrg_n, mrg_0, mrg_f, mrg_l, mrg_o, mrg_on, nobV_fz, nob_int, nob_str, nob_bl, nob_non, nob_lst, nob_tup, nobL_n, nobL_c, nobL_a, nobL_i, nobL_s, Nat.reduceBEq, beq_self_eq_true, unb_non, unb_bl, unb_int, unb_str, unb_ty, unb_cls, unb_lst, unb_tup, unb_brw, unb_scr, unb_ins, unb_exc, items_brw, RW_ok, RW_exc, RW_stuck, RW_C, RW_var, RW_bin, RW_un, RW_vB, RW_T, RW_bAnd, RW_bOr, RW_bNot, RW_eAnd, RW_eOr, RW_eNot, RW_eIf, RW_aNil, RW_aCons, RW_gFz, RW_gDis, RW_eCall, RW_gCall, RW_fn1, RW_fn2, RW_fnL, dr_fz, dr_sl, frz_fz, frz_sl, frzs_nil, frzs_cons, RW_add, RW_sub, RW_lt, RW_le, RW_gt, RW_ge, RW_neg, RW_mul, RW_div, RW_mod, RW_pow, RW_eq0, RW_eq1, eqD_ii, eqD_ss, eqD_bb, Int.cast_ofNat_Int, RW_in, RW_is, RW_ix, getD_lst, getD_tup, atI_0, atI_1, atI_2, atI_3, atI_4, atI_5, RW_eFn, RW_gFn, RW_call, FW_nx, FW_nil, FW_break, FW_cont, FW_seq, FW_if, FW_expr, FW_ret, FW_retG, FW_retN, FW_put, FW_asg, FW_asgG, FW_asgT, FW_par, FW_sub, FW_store, FW_aug, FW_raise, FW_try, keepP, RW_rng1, RW_rng2, ints2_1, ints2_2, RW_rg1, RW_rg2, RW_gRg, RW_op1S, RW_lst, isN_non, isi_non_tuple, isi_non_list, isi_non_bool, isi_non_int, isi_non_str, isN_bl, isi_bl_tuple, isi_bl_list, isi_bl_bool, isi_bl_int, isi_bl_str, isN_int, isi_int_tuple, isi_int_list, isi_int_bool, isi_int_int, isi_int_str, isN_str, isi_str_tuple, isi_str_list, isi_str_bool, isi_str_int, isi_str_str, isN_lst, isi_lst_tuple, isi_lst_list, isi_lst_bool, isi_lst_int, isi_lst_str, isN_tup, isi_tup_tuple, isi_tup_list, isi_tup_bool, isi_tup_int, isi_tup_str, RW_seq, startD_eq, startA, setT_nm, setT_tp, setN_nil, setN_cons, bindA, argD, pairsA, putM, ndup, mutsD, mutIdx, intD_int, intD_bl, absD_int, lenD_lst, lenD_tup, lenD_str, tupD_lst, tupD_tup, max2D_ii, min2D_ii, szl, items_lst, items_tup, RW_comp, RW_yes, wipeD, RW_addL, RW_addT, RW_addS, RW_iadd, RW_gCat, RW_gRep, RW_gRev, RW_zip, RW_enum, RW_enum2, stF, RW_oN, RW_oS, RW_sl, sliceD_lst, sliceD_tup, RW_mut, RW_mutF, isOwn, lm_app, ixN_l0, ixN_l1, ixN_l2, ixN_l3, ixN_l4, ixN_l5, List.reverse_cons, List.reverse_nil, List.getElem?_nil, Nat.reduceAdd, Nat.reduceLeDiff, Nat.reduceLT, Int.reduceLT, Int.reduceLE, Int.reduceAdd, Int.reduceSub, Int.reduceMul, Int.reduceNeg, Int.reduceEq, Int.reduceToNat, Nat.reduceEqDiff, List.replicate_succ, List.replicate_zero, List.cons_append, List.nil_append, List.getElem?_cons_zero, List.getElem?_cons_succ, List.set_cons_zero, List.set_cons_succ, List.length_cons, List.length_nil, List.map_cons, List.map_nil, List.contains_nil, List.contains_cons, Option.map_some, Option.bind_some, decide_eq_true_eq, decide_eq_false_iff_not, decide_true, decide_false, Bool.not_true, Bool.not_false, Bool.and_true, Bool.true_and, Bool.and_false, Bool.false_and, Bool.or_false, Bool.false_or, Bool.or_true, Bool.true_or, Bool.not_eq_true', Bool.not_eq_false', Bool.false_eq_true, Bool.true_eq_false, reduceCtorEq, true_implies, false_implies, forall_const, not_true_eq_false, not_false_eq_true, and_true, true_and, and_self, if_true, if_false, ite_true, ite_false, eq_self])
    refine pick_spec q4 I4 (by omega) (by rw [List.length_map]; omega) (by rw [List.length_map]; omega) fun i d s5 hd I5 => ?_
    obtain ⟨a, ha, rfl⟩ := strs_at hd
    match ms, lm with
    | [m0, m1, m2], _ =>
      walk_at "ev"
      exact ⟨s5, [m0, m1, m2, a, m0], rfl, I5.mono (by omega), rfl⟩
  clear I4 lm
  rintro δ1 ⟨s4, ms, rfl, I4, lm⟩
  walk_at "st"
  walk_at "st"
  refine asrow_spec I4 (by omega) fun two s5 htwo I5 => ?_
  walk_at "ev"
  have hrow : Row two gs := htwo.elim .inl fun h => .inr (.inl h)
  refine LZ_cut (J := fun δ => ∃ x1 x2 x3 x4 x5 x6 x7 x8 x9 x10 x11 x12 x13 : Option (Nat × D), δ = [some (0, .scr sc), x1, x2, x3, x4, x5, x6, x7, x8, x9, x10, x11, x12, x13]) ?_ ?_
  · refine LZ_in ?_
    rw [FW_for]
    walk_at "ev"
    refine FW_inv (fun i δ => ∃ (qs : List Int) (x11 x12 x13 : Option (Nat × D)), δ = [some (0, .scr sc), some (1, stD s5), some (0, kn), some (0, .lst (pool.map D.int)), none, some (0, .int v), some (0, .lst (qs.map D.int)), some (0, .lst (gs.map D.int)), some (0, .lst (ms.map D.str)), some (1, .lst (qs.map D.int)), some (0, two), x11, x12, x13] ∧ qs.length ≤ 60 ∧ NoOwn x13) (k := 0) ⟨ps, _, _, _, rfl, lps, no_n⟩ ?_ ?_
    · rintro i d δ hd ⟨qs, x11, x12, x13, rfl, lq, h13⟩
      obtain ⟨y, _, rfl⟩ := strs_at hd
      refine ⟨_, rfl, ?_⟩
      obtain ⟨c1, c2, c3⟩ := due_ok (x := y) (v := v) (ns := qs) (gs := gs) (by omega)
      have rq : Row (.lst (qs.map D.int)) qs := .inl rfl
      have rq2 : Row (.tup (qs.map D.int)) qs := .inr (.inl rfl)
      have rb : Row (.brw (qs.map D.int)) qs := .inr (.inr rfl)
      have rg : Row (.lst (gs.map D.int)) gs := .inl rfl
      walk_at "st"
      refine due_spec rq rg (by omega) ?_
      walk_at "ev"
      walk_at "st"
      refine askp_spec rb hrow (by omega) ?_
      simp only [nob_st, nob_res1, mrg_v h13, LR_c, LR_n, RW_eBor, lnD_n, lnD_k, lnD_l, MG_d, mrg_n, mrg_0, mrg_f, mrg_l, mrg_o, mrg_on, nobV_fz, nob_int, nob_str, nob_bl, nob_non, nob_lst, nob_tup, nobL_n, nobL_c, nobL_a, nobL_i, nobL_s, Nat.reduceBEq, beq_self_eq_true, unb_non, unb_bl, unb_int, unb_str, unb_ty, unb_cls, unb_lst, unb_tup, unb_brw, unb_scr, unb_ins, unb_exc, items_brw, RW_ok, RW_exc, RW_stuck, RW_C, RW_var, RW_bin, RW_un, RW_vB, RW_T, RW_bAnd, RW_bOr, RW_bNot, RW_eAnd, RW_eOr, RW_eNot, RW_eIf, RW_aNil, RW_aCons, RW_gFz, RW_gDis, RW_eCall, RW_gCall, RW_fn1, RW_fn2, RW_fnL, dr_fz, dr_sl, frz_fz, frz_sl, frzs_nil, frzs_cons, RW_add, RW_sub, RW_lt, RW_le, RW_gt, RW_ge, RW_neg, RW_mul, RW_div, RW_mod, RW_pow, RW_eq0, RW_eq1, eqD_ii, eqD_ss, eqD_bb, Int.cast_ofNat_Int, RW_in, RW_is, RW_ix, getD_lst, getD_tup, atI_0, atI_1, atI_2, atI_3, atI_4, atI_5, RW_eFn, RW_gFn, RW_call, FW_nx, FW_nil, FW_break, FW_cont, FW_seq, FW_if, FW_expr, FW_ret, FW_retG, FW_retN, FW_put, FW_asg, FW_asgG, FW_asgT, FW_par, FW_sub, FW_store, FW_aug, FW_raise, FW_try, keepP, RW_rng1, RW_rng2, ints2_1, ints2_2, RW_rg1, RW_rg2, RW_gRg, RW_op1S, RW_lst, isN_non, isi_non_tuple, isi_non_list, isi_non_bool, isi_non_int, isi_non_str, isN_bl, isi_bl_tuple, isi_bl_list, isi_bl_bool, isi_bl_int, isi_bl_str, isN_int, isi_int_tuple, isi_int_list, isi_int_bool, isi_int_int, isi_int_str, isN_str, isi_str_tuple, isi_str_list, isi_str_bool, isi_str_int, isi_str_str, isN_lst, isi_lst_tuple, isi_lst_list, isi_lst_bool, isi_lst_int, isi_lst_str, isN_tup, isi_tup_tuple, isi_tup_list, isi_tup_bool, isi_tup_int, isi_tup_str, RW_seq, startD_eq, startA, setT_nm, setT_tp, setN_nil, setN_cons, bindA, argD, pairsA, putM, ndup, mutsD, mutIdx, intD_int, intD_bl, absD_int, lenD_lst, lenD_tup, lenD_str, tupD_lst, tupD_tup, max2D_ii, min2D_ii, szl, items_lst, items_tup, RW_comp, RW_yes, wipeD, RW_addL, RW_addT, RW_addS, RW_iadd, RW_gCat, RW_gRep, RW_gRev, RW_zip, RW_enum, RW_enum2, stF, RW_oN, RW_oS, RW_sl, sliceD_lst, sliceD_tup, RW_mut, RW_mutF, isOwn, lm_app, ixN_l0, ixN_l1, ixN_l2, ixN_l3, ixN_l4, ixN_l5, List.reverse_cons, List.reverse_nil, List.getElem?_nil, Nat.reduceAdd, Nat.reduceLeDiff, Nat.reduceLT, Int.reduceLT, Int.reduceLE, Int.reduceAdd, Int.reduceSub, Int.reduceMul, Int.reduceNeg, Int.reduceEq, Int.reduceToNat, Nat.reduceEqDiff, List.replicate_succ, List.replicate_zero, List.cons_append, List.nil_append, List.getElem?_cons_zero, List.getElem?_cons_succ, List.set_cons_zero, List.set_cons_succ, List.length_cons, List.length_nil, List.map_cons, List.map_nil, List.contains_nil, List.contains_cons, Option.map_some, Option.bind_some, decide_eq_true_eq, decide_eq_false_iff_not, decide_true, decide_false, Bool.not_true, Bool.not_false, Bool.and_true, Bool.true_and, Bool.and_false, Bool.false_and, Bool.or_false, Bool.false_or, Bool.or_true, Bool.true_or, Bool.not_eq_true', Bool.not_eq_false', Bool.false_eq_true, Bool.true_eq_false, reduceCtorEq, true_implies, false_implies, forall_const, not_true_eq_false, not_false_eq_true, and_true, true_and, and_self, if_true, if_false, ite_true, ite_false, eq_self]
      refine asko_spec rq2 rg (by omega) ?_
      walk_at "ev"
      walk_at "st"
      refine same_spec c1 c2 c3 ?_
      simp only [eqD_lstI, Seq.itemsU hrow, LR_c, LR_n, RW_eBor, lnD_n, lnD_k, lnD_l, MG_d, mrg_n, mrg_0, mrg_f, mrg_l, mrg_o, mrg_on, nobV_fz, nob_int, nob_str, nob_bl, nob_non, nob_lst, nob_tup, nobL_n, nobL_c, nobL_a, nobL_i, nobL_s, Nat.reduceBEq, beq_self_eq_true, unb_non, unb_bl, unb_int, unb_str, unb_ty, unb_cls, unb_lst, unb_tup, unb_brw, unb_scr, unb_ins, unb_exc, items_brw, RW_ok, RW_exc, RW_stuck, RW_C, RW_var, RW_bin, RW_un, RW_vB, RW_T, RW_bAnd, RW_bOr, RW_bNot, RW_eAnd, RW_eOr, RW_eNot, RW_eIf, RW_aNil, RW_aCons, RW_gFz, RW_gDis, RW_eCall, RW_gCall, RW_fn1, RW_fn2, RW_fnL, dr_fz, dr_sl, frz_fz, frz_sl, frzs_nil, frzs_cons, RW_add, RW_sub, RW_lt, RW_le, RW_gt, RW_ge, RW_neg, RW_mul, RW_div, RW_mod, RW_pow, RW_eq0, RW_eq1, eqD_ii, eqD_ss, eqD_bb, Int.cast_ofNat_Int, RW_in, RW_is, RW_ix, getD_lst, getD_tup, atI_0, atI_1, atI_2, atI_3, atI_4, atI_5, RW_eFn, RW_gFn, RW_call, FW_nx, FW_nil, FW_break, FW_cont, FW_seq, FW_if, FW_expr, FW_ret, FW_retG, FW_retN, FW_put, FW_asg, FW_asgG, FW_asgT, FW_par, FW_sub, FW_store, FW_aug, FW_raise, FW_try, keepP, RW_rng1, RW_rng2, ints2_1, ints2_2, RW_rg1, RW_rg2, RW_gRg, RW_op1S, RW_lst, isN_non, isi_non_tuple, isi_non_list, isi_non_bool, isi_non_int, isi_non_str, isN_bl, isi_bl_tuple, isi_bl_list, isi_bl_bool, isi_bl_int, isi_bl_str, isN_int, isi_int_tuple, isi_int_list, isi_int_bool, isi_int_int, isi_int_str, isN_str, isi_str_tuple, isi_str_list, isi_str_bool, isi_str_int, isi_str_str, isN_lst, isi_lst_tuple, isi_lst_list, isi_lst_bool, isi_lst_int, isi_lst_str, isN_tup, isi_tup_tuple, isi_tup_list, isi_tup_bool, isi_tup_int, isi_tup_str, RW_seq, startD_eq, startA, setT_nm, setT_tp, setN_nil, setN_cons, bindA, argD, pairsA, putM, ndup, mutsD, mutIdx, intD_int, intD_bl, absD_int, lenD_lst, lenD_tup, lenD_str, tupD_lst, tupD_tup, max2D_ii, min2D_ii, szl, items_lst, items_tup, RW_comp, RW_yes, wipeD, RW_addL, RW_addT, RW_addS, RW_iadd, RW_gCat, RW_gRep, RW_gRev, RW_zip, RW_enum, RW_enum2, stF, RW_oN, RW_oS, RW_sl, sliceD_lst, sliceD_tup, RW_mut, RW_mutF, isOwn, lm_app, ixN_l0, ixN_l1, ixN_l2, ixN_l3, ixN_l4, ixN_l5, List.reverse_cons, List.reverse_nil, List.getElem?_nil, Nat.reduceAdd, Nat.reduceLeDiff, Nat.reduceLT, Int.reduceLT, Int.reduceLE, Int.reduceAdd, Int.reduceSub, Int.reduceMul, Int.reduceNeg, Int.reduceEq, Int.reduceToNat, Nat.reduceEqDiff, List.replicate_succ, List.replicate_zero, List.cons_append, List.nil_append, List.getElem?_cons_zero, List.getElem?_cons_succ, List.set_cons_zero, List.set_cons_succ, List.length_cons, List.length_nil, List.map_cons, List.map_nil, List.contains_nil, List.contains_cons, Option.map_some, Option.bind_some, decide_eq_true_eq, decide_eq_false_iff_not, decide_true, decide_false, Bool.not_true, Bool.not_false, Bool.and_true, Bool.true_and, Bool.and_false, Bool.false_and, Bool.or_false, Bool.false_or, Bool.or_true, Bool.true_or, Bool.not_eq_true', Bool.not_eq_false', Bool.false_eq_true, Bool.true_eq_false, reduceCtorEq, true_implies, false_implies, forall_const, not_true_eq_false, not_false_eq_true, and_true, true_and, and_self, if_true, if_false, ite_true, ite_false, eq_self]
      walk_at "st"
      walk_at "st"
      refine askp_spec rq2 hrow (by omega) ?_
      walk_at "ev"
      refine asko_spec rb hrow (by omega) ?_
      simp only [nob_st, nob_res2, LR_c, LR_n, RW_eBor, lnD_n, lnD_k, lnD_l, MG_d, mrg_n, mrg_0, mrg_f, mrg_l, mrg_o, mrg_on, nobV_fz, nob_int, nob_str, nob_bl, nob_non, nob_lst, nob_tup, nobL_n, nobL_c, nobL_a, nobL_i, nobL_s, Nat.reduceBEq, beq_self_eq_true, unb_non, unb_bl, unb_int, unb_str, unb_ty, unb_cls, unb_lst, unb_tup, unb_brw, unb_scr, unb_ins, unb_exc, items_brw, RW_ok, RW_exc, RW_stuck, RW_C, RW_var, RW_bin, RW_un, RW_vB, RW_T, RW_bAnd, RW_bOr, RW_bNot, RW_eAnd, RW_eOr, RW_eNot, RW_eIf, RW_aNil, RW_aCons, RW_gFz, RW_gDis, RW_eCall, RW_gCall, RW_fn1, RW_fn2, RW_fnL, dr_fz, dr_sl, frz_fz, frz_sl, frzs_nil, frzs_cons, RW_add, RW_sub, RW_lt, RW_le, RW_gt, RW_ge, RW_neg, RW_mul, RW_div, RW_mod, RW_pow, RW_eq0, RW_eq1, eqD_ii, eqD_ss, eqD_bb, Int.cast_ofNat_Int, RW_in, RW_is, RW_ix, getD_lst, getD_tup, atI_0, atI_1, atI_2, atI_3, atI_4, atI_5, RW_eFn, RW_gFn, RW_call, FW_nx, FW_nil, FW_break, FW_cont, FW_seq, FW_if, FW_expr, FW_ret, FW_retG, FW_retN, FW_put, FW_asg, FW_asgG, FW_asgT, FW_par, FW_sub, FW_store, FW_aug, FW_raise, FW_try, keepP, RW_rng1, RW_rng2, ints2_1, ints2_2, RW_rg1, RW_rg2, RW_gRg, RW_op1S, RW_lst, isN_non, isi_non_tuple, isi_non_list, isi_non_bool, isi_non_int, isi_non_str, isN_bl, isi_bl_tuple, isi_bl_list, isi_bl_bool, isi_bl_int, isi_bl_str, isN_int, isi_int_tuple, isi_int_list, isi_int_bool, isi_int_int, isi_int_str, isN_str, isi_str_tuple, isi_str_list, isi_str_bool, isi_str_int, isi_str_str, isN_lst, isi_lst_tuple, isi_lst_list, isi_lst_bool, isi_lst_int, isi_lst_str, isN_tup, isi_tup_tuple, isi_tup_list, isi_tup_bool, isi_tup_int, isi_tup_str, RW_seq, startD_eq, startA, setT_nm, setT_tp, setN_nil, setN_cons, bindA, argD, pairsA, putM, ndup, mutsD, mutIdx, intD_int, intD_bl, absD_int, lenD_lst, lenD_tup, lenD_str, tupD_lst, tupD_tup, max2D_ii, min2D_ii, szl, items_lst, items_tup, RW_comp, RW_yes, wipeD, RW_addL, RW_addT, RW_addS, RW_iadd, RW_gCat, RW_gRep, RW_gRev, RW_zip, RW_enum, RW_enum2, stF, RW_oN, RW_oS, RW_sl, sliceD_lst, sliceD_tup, RW_mut, RW_mutF, isOwn, lm_app, ixN_l0, ixN_l1, ixN_l2, ixN_l3, ixN_l4, ixN_l5, List.reverse_cons, List.reverse_nil, List.getElem?_nil, Nat.reduceAdd, Nat.reduceLeDiff, Nat.reduceLT, Int.reduceLT, Int.reduceLE, Int.reduceAdd, Int.reduceSub, Int.reduceMul, Int.reduceNeg, Int.reduceEq, Int.reduceToNat, Nat.reduceEqDiff, List.replicate_succ, List.replicate_zero, List.cons_append, List.nil_append, List.getElem?_cons_zero, List.getElem?_cons_succ, List.set_cons_zero, List.set_cons_succ, List.length_cons, List.length_nil, List.map_cons, List.map_nil, List.contains_nil, List.contains_cons, Option.map_some, Option.bind_some, decide_eq_true_eq, decide_eq_false_iff_not, decide_true, decide_false, Bool.not_true, Bool.not_false, Bool.and_true, Bool.true_and, Bool.and_false, Bool.false_and, Bool.or_false, Bool.false_or, Bool.or_true, Bool.true_or, Bool.not_eq_true', Bool.not_eq_false', Bool.false_eq_true, Bool.true_eq_false, reduceCtorEq, true_implies, false_implies, forall_const, not_true_eq_false, not_false_eq_true, and_true, true_and, and_self, if_true, if_false, ite_true, ite_false, eq_self]
      walk_at "st"
      refine same_spec c1 c2 c3 ?_
      simp only [eqD_lstI, Seq.itemsU hrow, LR_c, LR_n, RW_eBor, lnD_n, lnD_k, lnD_l, MG_d, mrg_n, mrg_0, mrg_f, mrg_l, mrg_o, mrg_on, nobV_fz, nob_int, nob_str, nob_bl, nob_non, nob_lst, nob_tup, nobL_n, nobL_c, nobL_a, nobL_i, nobL_s, Nat.reduceBEq, beq_self_eq_true, unb_non, unb_bl, unb_int, unb_str, unb_ty, unb_cls, unb_lst, unb_tup, unb_brw, unb_scr, unb_ins, unb_exc, items_brw, RW_ok, RW_exc, RW_stuck, RW_C, RW_var, RW_bin, RW_un, RW_vB, RW_T, RW_bAnd, RW_bOr, RW_bNot, RW_eAnd, RW_eOr, RW_eNot, RW_eIf, RW_aNil, RW_aCons, RW_gFz, RW_gDis, RW_eCall, RW_gCall, RW_fn1, RW_fn2, RW_fnL, dr_fz, dr_sl, frz_fz, frz_sl, frzs_nil, frzs_cons, RW_add, RW_sub, RW_lt, RW_le, RW_gt, RW_ge, RW_neg, RW_mul, RW_div, RW_mod, RW_pow, RW_eq0, RW_eq1, eqD_ii, eqD_ss, eqD_bb, Int.cast_ofNat_Int, RW_in, RW_is, RW_ix, getD_lst, getD_tup, atI_0, atI_1, atI_2, atI_3, atI_4, atI_5, RW_eFn, RW_gFn, RW_call, FW_nx, FW_nil, FW_break, FW_cont, FW_seq, FW_if, FW_expr, FW_ret, FW_retG, FW_retN, FW_put, FW_asg, FW_asgG, FW_asgT, FW_par, FW_sub, FW_store, FW_aug, FW_raise, FW_try, keepP, RW_rng1, RW_rng2, ints2_1, ints2_2, RW_rg1, RW_rg2, RW_gRg, RW_op1S, RW_lst, isN_non, isi_non_tuple, isi_non_list, isi_non_bool, isi_non_int, isi_non_str, isN_bl, isi_bl_tuple, isi_bl_list, isi_bl_bool, isi_bl_int, isi_bl_str, isN_int, isi_int_tuple, isi_int_list, isi_int_bool, isi_int_int, isi_int_str, isN_str, isi_str_tuple, isi_str_list, isi_str_bool, isi_str_int, isi_str_str, isN_lst, isi_lst_tuple, isi_lst_list, isi_lst_bool, isi_lst_int, isi_lst_str, isN_tup, isi_tup_tuple, isi_tup_list, isi_tup_bool, isi_tup_int, isi_tup_str, RW_seq, startD_eq, startA, setT_nm, setT_tp, setN_nil, setN_cons, bindA, argD, pairsA, putM, ndup, mutsD, mutIdx, intD_int, intD_bl, absD_int, lenD_lst, lenD_tup, lenD_str, tupD_lst, tupD_tup, max2D_ii, min2D_ii, szl, items_lst, items_tup, RW_comp, RW_yes, wipeD, RW_addL, RW_addT, RW_addS, RW_iadd, RW_gCat, RW_gRep, RW_gRev, RW_zip, RW_enum, RW_enum2, stF, RW_oN, RW_oS, RW_sl, sliceD_lst, sliceD_tup, RW_mut, RW_mutF, isOwn, lm_app, ixN_l0, ixN_l1, ixN_l2, ixN_l3, ixN_l4, ixN_l5, List.reverse_cons, List.reverse_nil, List.getElem?_nil, Nat.reduceAdd, Nat.reduceLeDiff, Nat.reduceLT, Int.reduceLT, Int.reduceLE, Int.reduceAdd, Int.reduceSub, Int.reduceMul, Int.reduceNeg, Int.reduceEq, Int.reduceToNat, Nat.reduceEqDiff, List.replicate_succ, List.replicate_zero, List.cons_append, List.nil_append, List.getElem?_cons_zero, List.getElem?_cons_succ, List.set_cons_zero, List.set_cons_succ, List.length_cons, List.length_nil, List.map_cons, List.map_nil, List.contains_nil, List.contains_cons, Option.map_some, Option.bind_some, decide_eq_true_eq, decide_eq_false_iff_not, decide_true, decide_false, Bool.not_true, Bool.not_false, Bool.and_true, Bool.true_and, Bool.and_false, Bool.false_and, Bool.or_false, Bool.false_or, Bool.or_true, Bool.true_or, Bool.not_eq_true', Bool.not_eq_false', Bool.false_eq_true, Bool.true_eq_false, reduceCtorEq, true_implies, false_implies, forall_const, not_true_eq_false, not_false_eq_true, and_true, true_and, and_self, if_true, if_false, ite_true, ite_false, eq_self]
      walk_at "st"
      (refine LZ_in ?_; simp only [cut_1, LR_c, LR_n, RW_eBor, lnD_n, lnD_k, lnD_l, MG_d, mrg_n, mrg_0, mrg_f, mrg_l, mrg_o, mrg_on, nobV_fz, nob_int, nob_str, nob_bl, nob_non, nob_lst, nob_tup, nobL_n, nobL_c, nobL_a, nobL_i, nobL_s, Nat.reduceBEq, beq_self_eq_true, unb_non, unb_bl, unb_int, unb_str, unb_ty, unb_cls, unb_lst, unb_tup, unb_brw, unb_scr, unb_ins, unb_exc, items_brw, RW_ok, RW_exc, RW_stuck, RW_C, RW_var, RW_bin, RW_un, RW_vB, RW_T, RW_bAnd, RW_bOr, RW_bNot, RW_eAnd, RW_eOr, RW_eNot, RW_eIf, RW_aNil, RW_aCons, RW_gFz, RW_gDis, RW_eCall, RW_gCall, RW_fn1, RW_fn2, RW_fnL, dr_fz, dr_sl, frz_fz, frz_sl, frzs_nil, frzs_cons, RW_add, RW_sub, RW_lt, RW_le, RW_gt, RW_ge, RW_neg, RW_mul, RW_div, RW_mod, RW_pow, RW_eq0, RW_eq1, eqD_ii, eqD_ss, eqD_bb, Int.cast_ofNat_Int, RW_in, RW_is, RW_ix, getD_lst, getD_tup, atI_0, atI_1, atI_2, atI_3, atI_4, atI_5, RW_eFn, RW_gFn, RW_call, FW_nx, FW_nil, FW_break, FW_cont, FW_seq, FW_if, FW_expr, FW_ret, FW_retG, FW_retN, FW_put, FW_asg, FW_asgG, FW_asgT, FW_par, FW_sub, FW_store, FW_aug, FW_raise, FW_try, keepP, RW_rng1, RW_rng2, ints2_1, ints2_2, RW_rg1, RW_rg2, RW_gRg, RW_op1S, RW_lst, isN_non, isi_non_tuple, isi_non_list, isi_non_bool, isi_non_int, isi_non_str, isN_bl, isi_bl_tuple, isi_bl_list, isi_bl_bool, isi_bl_int, isi_bl_str, isN_int, isi_int_tuple, isi_int_list, isi_int_bool, isi_int_int, isi_int_str, isN_str, isi_str_tuple, isi_str_list, isi_str_bool, isi_str_int, isi_str_str, isN_lst, isi_lst_tuple, isi_lst_list, isi_lst_bool, isi_lst_int, isi_lst_str, isN_tup, isi_tup_tuple, isi_tup_list, isi_tup_bool, isi_tup_int, isi_tup_str, RW_seq, startD_eq, startA, setT_nm, setT_tp, setN_nil, setN_cons, bindA, argD, pairsA, putM, ndup, mutsD, mutIdx, intD_int, intD_bl, absD_int, lenD_lst, lenD_tup, lenD_str, tupD_lst, tupD_tup, max2D_ii, min2D_ii, szl, items_lst, items_tup, RW_comp, RW_yes, wipeD, RW_addL, RW_addT, RW_addS, RW_iadd, RW_gCat, RW_gRep, RW_gRev, RW_zip, RW_enum, RW_enum2, stF, RW_oN, RW_oS, RW_sl, sliceD_lst, sliceD_tup, RW_mut, RW_mutF, isOwn, lm_app, ixN_l0, ixN_l1, ixN_l2, ixN_l3, ixN_l4, ixN_l5, List.reverse_cons, List.reverse_nil, List.getElem?_nil, Nat.reduceAdd, Nat.reduceLeDiff, Nat.reduceLT, Int.reduceLT, Int.reduceLE, Int.reduceAdd, Int.reduceSub, Int.reduceMul, Int.reduceNeg, Int.reduceEq, Int.reduceToNat, Nat.reduceEqDiff, List.replicate_succ, List.replicate_zero, List.cons_append, List.nil_append, List.getElem?_cons_zero, List.getElem?_cons_succ, List.set_cons_zero, List.set_cons_succ, List.length_cons, List.length_nil, List.map_cons, List.map_nil, List.contains_nil, List.contains_cons, Option.map_some, Option.bind_some, decide_eq_true_eq, decide_eq_false_iff_not, decide_true, decide_false, Bool.not_true, Bool.not_false, Bool.and_true, Bool.true_and, Bool.and_false, Bool.false_and, Bool.or_false, Bool.false_or, Bool.or_true, Bool.true_or, Bool.not_eq_true', Bool.not_eq_false', Bool.false_eq_true, Bool.true_eq_false, reduceCtorEq, true_implies, false_implies, forall_const, not_true_eq_false, not_false_eq_true, and_true, true_and, and_self, if_true, if_false, ite_true, ite_false, eq_self])
      refine ⟨by rw [List.length_map]; omega, ?_⟩
      walk_at "st"
      rw [if_pos (by rw [List.length_map]; omega)]
      walk_at "ev"
      have e : qs.map D.int ++ [.int v] = (qs ++ [v]).map D.int := by rw [List.map_append]; rfl
      rw [e, ← List.map_drop]
      cases hq : qs ++ [v] with
      | nil => simp at hq
      | cons z zs =>
        have lz : zs.length = qs.length := by
          have := congrArg List.length hq
          rw [List.length_append] at this
          simp at this
          omega
        (refine LZ_in ?_; simp only [List.map_cons, pop0, LR_c, LR_n, RW_eBor, lnD_n, lnD_k, lnD_l, MG_d, mrg_n, mrg_0, mrg_f, mrg_l, mrg_o, mrg_on, nobV_fz, nob_int, nob_str, nob_bl, nob_non, nob_lst, nob_tup, nobL_n, nobL_c, nobL_a, nobL_i, nobL_s, Nat.reduceBEq, beq_self_eq_true, unb_non, unb_bl, unb_int, unb_str, unb_ty, unb_cls, unb_lst, unb_tup, unb_brw, unb_scr, unb_ins, unb_exc, items_brw, RW_ok, RW_exc, RW_stuck, RW_C, RW_var, RW_bin, RW_un, RW_vB, RW_T, RW_bAnd, RW_bOr, RW_bNot, RW_eAnd, RW_eOr, RW_eNot, RW_eIf, RW_aNil, RW_aCons, RW_gFz, RW_gDis, RW_eCall, RW_gCall, RW_fn1, RW_fn2, RW_fnL, dr_fz, dr_sl, frz_fz, frz_sl, frzs_nil, frzs_cons, RW_add, RW_sub, RW_lt, RW_le, RW_gt, RW_ge, RW_neg, RW_mul, RW_div, RW_mod, RW_pow, RW_eq0, RW_eq1, eqD_ii, eqD_ss, eqD_bb, Int.cast_ofNat_Int, RW_in, RW_is, RW_ix, getD_lst, getD_tup, atI_0, atI_1, atI_2, atI_3, atI_4, atI_5, RW_eFn, RW_gFn, RW_call, FW_nx, FW_nil, FW_break, FW_cont, FW_seq, FW_if, FW_expr, FW_ret, FW_retG, FW_retN, FW_put, FW_asg, FW_asgG, FW_asgT, FW_par, FW_sub, FW_store, FW_aug, FW_raise, FW_try, keepP, RW_rng1, RW_rng2, ints2_1, ints2_2, RW_rg1, RW_rg2, RW_gRg, RW_op1S, RW_lst, isN_non, isi_non_tuple, isi_non_list, isi_non_bool, isi_non_int, isi_non_str, isN_bl, isi_bl_tuple, isi_bl_list, isi_bl_bool, isi_bl_int, isi_bl_str, isN_int, isi_int_tuple, isi_int_list, isi_int_bool, isi_int_int, isi_int_str, isN_str, isi_str_tuple, isi_str_list, isi_str_bool, isi_str_int, isi_str_str, isN_lst, isi_lst_tuple, isi_lst_list, isi_lst_bool, isi_lst_int, isi_lst_str, isN_tup, isi_tup_tuple, isi_tup_list, isi_tup_bool, isi_tup_int, isi_tup_str, RW_seq, startD_eq, startA, setT_nm, setT_tp, setN_nil, setN_cons, bindA, argD, pairsA, putM, ndup, mutsD, mutIdx, intD_int, intD_bl, absD_int, lenD_lst, lenD_tup, lenD_str, tupD_lst, tupD_tup, max2D_ii, min2D_ii, szl, items_lst, items_tup, RW_comp, RW_yes, wipeD, RW_addL, RW_addT, RW_addS, RW_iadd, RW_gCat, RW_gRep, RW_gRev, RW_zip, RW_enum, RW_enum2, stF, RW_oN, RW_oS, RW_sl, sliceD_lst, sliceD_tup, RW_mut, RW_mutF, isOwn, lm_app, ixN_l0, ixN_l1, ixN_l2, ixN_l3, ixN_l4, ixN_l5, List.reverse_cons, List.reverse_nil, List.getElem?_nil, Nat.reduceAdd, Nat.reduceLeDiff, Nat.reduceLT, Int.reduceLT, Int.reduceLE, Int.reduceAdd, Int.reduceSub, Int.reduceMul, Int.reduceNeg, Int.reduceEq, Int.reduceToNat, Nat.reduceEqDiff, List.replicate_succ, List.replicate_zero, List.cons_append, List.nil_append, List.getElem?_cons_zero, List.getElem?_cons_succ, List.set_cons_zero, List.set_cons_succ, List.length_cons, List.length_nil, List.map_cons, List.map_nil, List.contains_nil, List.contains_cons, Option.map_some, Option.bind_some, decide_eq_true_eq, decide_eq_false_iff_not, decide_true, decide_false, Bool.not_true, Bool.not_false, Bool.and_true, Bool.true_and, Bool.and_false, Bool.false_and, Bool.or_false, Bool.false_or, Bool.or_true, Bool.true_or, Bool.not_eq_true', Bool.not_eq_false', Bool.false_eq_true, Bool.true_eq_false, reduceCtorEq, true_implies, false_implies, forall_const, not_true_eq_false, not_false_eq_true, and_true, true_and, and_self, if_true, if_false, ite_true, ite_false, eq_self])
        exact ⟨zs, _, _, _, rfl, by omega, no_f⟩
    · rintro δ ⟨qs, x11, x12, x13, rfl, _, _⟩
      exact ⟨_, _, _, _, _, _, _, _, _, _, _, _, _, rfl⟩
  rintro δ1 ⟨x1, x2, x3, x4, x5, x6, x7, x8, x9, x10, x11, x12, x13, rfl⟩
  walk_at "st"
end
end LK

set_option Elab.async false
set_option linter.all false
set_option maxRecDepth 100000
set_option maxHeartbeats 0
namespace LK
open PySem PySem.Spec PyProof.Rows L2 DL
abbrev RR : PySem.W.OpenRow := PySem.W.OpenLaw.row PySem.Challenge.rw_lastslips_k20_taking_places
def meth0 (s : Stmt) : Stmt := match s with
  | .ClassDef _ _ _ b .. => b.getD 0 (.Pass ⟨0, 0, 0, 0⟩)
  | _ => .Pass ⟨0, 0, 0, 0⟩
def d_turn_places : He.DefD := ⟨("turn_places", none), "turn_places", "turn_places", defArgs st_turn_places, defBody st_turn_places, defScope st_turn_places, [], []⟩
def d_parted_places : He.DefD := ⟨("parted_places", none), "parted_places", "parted_places", defArgs st_parted_places, defBody st_parted_places, defScope st_parted_places, [], []⟩
def d_taking_places : He.DefD := ⟨("taking_places", none), "taking_places", "taking_places", defArgs st_taking_places, defBody st_taking_places, defScope st_taking_places, [], []⟩
def d_taking_order : He.DefD := ⟨("taking_order", none), "taking_order", "taking_order", defArgs st_taking_order, defBody st_taking_order, defScope st_taking_order, [], []⟩
def d_law_mix : He.DefD := ⟨("_law_mix", none), "_law_mix", "_law_mix", defArgs st_law_mix, defBody st_law_mix, defScope st_law_mix, [], []⟩
def d_law_store : He.DefD := ⟨("_law_store", none), "_law_store", "_law_store", defArgs st_law_store, defBody st_law_store, defScope st_law_store, [], []⟩
def d_law_take : He.DefD := ⟨("_law_take", none), "_law_take", "_law_take", defArgs st_law_take, defBody st_law_take, defScope st_law_take, [], []⟩
def d_law_pick : He.DefD := ⟨("_law_pick", none), "_law_pick", "_law_pick", defArgs st_law_pick, defBody st_law_pick, defScope st_law_pick, [], []⟩
def d_law_number : He.DefD := ⟨("_law_number", none), "_law_number", "_law_number", defArgs st_law_number, defBody st_law_number, defScope st_law_number, [], []⟩
def d_law_as_row : He.DefD := ⟨("_law_as_row", none), "_law_as_row", "_law_as_row", defArgs st_law_as_row, defBody st_law_as_row, defScope st_law_as_row, [], []⟩
def d_law_same : He.DefD := ⟨("_law_same", none), "_law_same", "_law_same", defArgs st_law_same, defBody st_law_same, defScope st_law_same, [], []⟩
def d_law_same_leaf : He.DefD := ⟨("_law_same_leaf", none), "_law_same_leaf", "_law_same_leaf", defArgs st_law_same_leaf, defBody st_law_same_leaf, defScope st_law_same_leaf, [], []⟩
def d_law_class : He.DefD := ⟨("_law_class", none), "_law_class", "_law_class", defArgs st_law_class, defBody st_law_class, defScope st_law_class, [], []⟩
def d_law_told : He.DefD := ⟨("_law_told", none), "_law_told", "_law_told", defArgs st_law_told, defBody st_law_told, defScope st_law_told, [], []⟩
def d_law_taken_places : He.DefD := ⟨("_law_taken_places", none), "_law_taken_places", "_law_taken_places", defArgs st_law_taken_places, defBody st_law_taken_places, defScope st_law_taken_places, [], []⟩
def d_law_ask_places : He.DefD := ⟨("_law_ask_places", none), "_law_ask_places", "_law_ask_places", defArgs st_law_ask_places, defBody st_law_ask_places, defScope st_law_ask_places, [], []⟩
def d_law_ask_order : He.DefD := ⟨("_law_ask_order", none), "_law_ask_order", "_law_ask_order", defArgs st_law_ask_order, defBody st_law_ask_order, defScope st_law_ask_order, [], []⟩
def d_law_due_taking : He.DefD := ⟨("_law_due_taking", none), "_law_due_taking", "_law_due_taking", defArgs st_law_due_taking, defBody st_law_due_taking, defScope st_law_due_taking, [], []⟩
def d_law_odd_mode : He.DefD := ⟨("_law_odd_mode", none), "_law_odd_mode", "_law_odd_mode", defArgs st_law_odd_mode, defBody st_law_odd_mode, defScope st_law_odd_mode, [], []⟩
def d_law : He.DefD := ⟨("law", none), "law", "law", defArgs st_law, defBody st_law, defScope st_law, [], []⟩
abbrev si_NotLocal : Stmt := meth0 (top 20)
def d_NotLocal : He.DefD := ⟨("NotLocal", some "__init__"), "__init__", "NotLocal.__init__", defArgs si_NotLocal, defBody si_NotLocal, defScope si_NotLocal, [], []⟩
abbrev si_Unknown : Stmt := meth0 (top 24)
def d_Unknown : He.DefD := ⟨("Unknown", some "__init__"), "__init__", "Unknown.__init__", defArgs si_Unknown, defBody si_Unknown, defScope si_Unknown, [], []⟩
def fns : List He.DefD := [d_turn_places, d_parted_places, d_taking_places, d_taking_order, d_law_mix, d_law_store, d_law_take, d_law_pick, d_law_number, d_law_as_row, d_law_same, d_law_same_leaf, d_law_class, d_law_told, d_law_taken_places, d_law_ask_places, d_law_ask_order, d_law_due_taking, d_law_odd_mode, d_law, d_NotLocal, d_Unknown]
def fas : List He.Fa := [.glo "turn_places", .glo "parted_places", .glo "taking_places", .glo "taking_order", .glo "_law_mix", .glo "_law_store", .glo "_law_take", .glo "_law_pick", .glo "_law_number", .glo "_law_as_row", .glo "_law_same", .glo "_law_same_leaf", .glo "_law_class", .glo "_law_told", .glo "_law_taken_places", .glo "_law_ask_places", .glo "_law_ask_order", .glo "_law_due_taking", .glo "_law_odd_mode", .glo "law", .glo "BadCard", .glo "BadNumber", .glo "BadPlace", .glo "BadStation", .glo "BadText", .glo "Blocked", .glo "Doubled", .glo "Empty", .glo "LeftOver", .glo "Malformed", .glo "Missing", .glo "NoPlan", .glo "NotEnd", .glo "NotLocal", .glo "NotPack", .glo "NotTrail", .glo "NothingBack", .glo "Opened", .glo "Refused", .glo "Stuck", .glo "TooMany", .glo "Unframed", .glo "Unknown", .glo "Unlike", .glo "Unnamed", .free "ValueError", .free "abs", .free "bool", .free "enumerate", .free "int", .free "isinstance", .free "len", .free "list", .free "min", .free "range", .free "str", .free "tuple", .exm "NotLocal" "Refused" true, .exm "Unknown" "Refused" true]
def rxs : List (Str × List Str) := [("NotLocal", ["station"]), ("Unknown", ["name"])]
def gts : List (Str × List D) := [("CHOOSING", [.str "friend", .str "foe", .str "shun"]), ("MODES", [.str "top", .str "bottom", .str "turns", .str "hold", .str "shy", .str "late", .str "friend", .str "foe", .str "shun"])]
def exq (K : Frag) : Bool := rxs.all (rxB K) && (gts.all (gtB K) && (etB K "Refused" excAll raisedC excFields))
def loose0 : List PySem.Str := ["__name__", "Refused", "BadText", "Malformed", "BadStation", "BadPlace", "BadNumber", "TooMany", "Empty", "Unframed", "NotPack", "Unlike", "Stuck", "NothingBack", "LeftOver", "NotTrail", "Blocked", "Unnamed", "Opened", "Missing", "NotLocal", "NoPlan", "Doubled", "BadCard", "Unknown", "NotEnd", "MODES", "CHOOSING", "turn_places", "parted_places"]
def loose1 : List PySem.Str := ["taking_places", "taking_order", "_law_mix", "_law_store", "_law_take", "_law_pick", "_law_number", "_law_as_row", "_law_same", "_law_same_leaf", "_law_class", "_law_told", "_law_taken_places", "_law_ask_places", "_law_ask_order", "_law_due_taking", "_law_odd_mode"]
def loose : List PySem.Str := loose0 ++ loose1
abbrev hk : PySem.W.Hook := He.hookX 4 fas fns [] [] exq
def ob (s : PySem.W.SharedT) : He.AlX := He.obsX 4 fas fns [] [] exq (HandSHeadRun.getT s)
theorem ob_eq (s : PySem.W.SharedT) : ob s = hk.obs s.abs := He.obsX_eq (HandSHeadRun.getT_eq s)
abbrev qv : Program := PySem.W.view RR.prog [49]
theorem run (w : World) : HandSHeadRun.RunEq RR qv hk ob 12000 loose w := by
  intro os
  kernel_rfl
section
variable {P : Program} {w : World} {K : Frag} {mg : Str → Option Value} {h : Heap}
theorem txt_of (X : K.In h) (G : h.Ns mainGlobals mg) (c : He.SaysX fas fns [] [] exq w h K) : Txt K mg := by
  have d := He.SaysT.d c.t
  have gq : gts.all (gtB K) = true := by
    have z := c.more
    unfold exq at z
    exact (an (an z).2).1
  exact ⟨He.free_ok X G (d.fact 45 (f := .free "ValueError") rfl),
    He.free_ok X G (d.fact 46 (f := .free "abs") rfl),
    He.free_ok X G (d.fact 47 (f := .free "bool") rfl),
    He.free_ok X G (d.fact 48 (f := .free "enumerate") rfl),
    He.free_ok X G (d.fact 49 (f := .free "int") rfl),
    He.free_ok X G (d.fact 50 (f := .free "isinstance") rfl),
    He.free_ok X G (d.fact 51 (f := .free "len") rfl),
    He.free_ok X G (d.fact 52 (f := .free "list") rfl),
    He.free_ok X G (d.fact 53 (f := .free "min") rfl),
    He.free_ok X G (d.fact 54 (f := .free "range") rfl),
    He.free_ok X G (d.fact 55 (f := .free "str") rfl),
    He.free_ok X G (d.fact 56 (f := .free "tuple") rfl),
    He.glo_ok X G (d.fact 20 (f := .glo "BadCard") rfl),
    He.glo_ok X G (d.fact 21 (f := .glo "BadNumber") rfl),
    He.glo_ok X G (d.fact 22 (f := .glo "BadPlace") rfl),
    He.glo_ok X G (d.fact 23 (f := .glo "BadStation") rfl),
    He.glo_ok X G (d.fact 24 (f := .glo "BadText") rfl),
    He.glo_ok X G (d.fact 25 (f := .glo "Blocked") rfl),
    gt_ok X G (List.all_eq_true.mp gq ("CHOOSING", [.str "friend", .str "foe", .str "shun"]) (by simp [gts])),
    He.glo_ok X G (d.fact 26 (f := .glo "Doubled") rfl),
    He.glo_ok X G (d.fact 27 (f := .glo "Empty") rfl),
    He.glo_ok X G (d.fact 28 (f := .glo "LeftOver") rfl),
    gt_ok X G (List.all_eq_true.mp gq ("MODES", [.str "top", .str "bottom", .str "turns", .str "hold", .str "shy", .str "late", .str "friend", .str "foe", .str "shun"]) (by simp [gts])),
    He.glo_ok X G (d.fact 29 (f := .glo "Malformed") rfl),
    He.glo_ok X G (d.fact 30 (f := .glo "Missing") rfl),
    He.glo_ok X G (d.fact 31 (f := .glo "NoPlan") rfl),
    He.glo_ok X G (d.fact 32 (f := .glo "NotEnd") rfl),
    He.glo_ok X G (d.fact 33 (f := .glo "NotLocal") rfl),
    He.glo_ok X G (d.fact 34 (f := .glo "NotPack") rfl),
    He.glo_ok X G (d.fact 35 (f := .glo "NotTrail") rfl),
    He.glo_ok X G (d.fact 36 (f := .glo "NothingBack") rfl),
    He.glo_ok X G (d.fact 37 (f := .glo "Opened") rfl),
    He.glo_ok X G (d.fact 38 (f := .glo "Refused") rfl),
    He.glo_ok X G (d.fact 39 (f := .glo "Stuck") rfl),
    He.glo_ok X G (d.fact 40 (f := .glo "TooMany") rfl),
    He.glo_ok X G (d.fact 41 (f := .glo "Unframed") rfl),
    He.glo_ok X G (d.fact 42 (f := .glo "Unknown") rfl),
    He.glo_ok X G (d.fact 43 (f := .glo "Unlike") rfl),
    He.glo_ok X G (d.fact 44 (f := .glo "Unnamed") rfl),
    (fun k hk => by
    simp only [raisedC, List.mem_cons, List.not_mem_nil, or_false] at hk
    rcases hk with rfl | rfl
    · exact of_decide_eq_true (d.fact 57 (f := .exm "NotLocal" "Refused" true) rfl)
    · exact of_decide_eq_true (d.fact 58 (f := .exm "Unknown" "Refused" true) rfl))⟩
theorem law_fn (X : K.In h) (G : h.Ns mainGlobals mg) (c : He.SaysX fas fns [] [] exq w h K) (base : Heap) {fd : FuncData} (F : FunD K "law" "law" (defArgs st_law) (defBody st_law) (defScope st_law) [] [] (He.ga K "law") fd) : FnOk P w K mg base (L2N.CX P w) 6 (He.ga K "law") fd ["script"] (spD K [false] m_law) := by
  have d := He.SaysT.d c.t
  have T := txt_of X G c
  have rq : rxs.all (rxB K) = true := by
    have z := c.more
    unfold exq at z
    exact (an z).1
  have XX_NotLocal : ExcF P w K mg base "NotLocal" ["station"] := rx1 (List.all_eq_true.mp rq ("NotLocal", ["station"]) (by simp [rxs])) (He.glo_ok X G (d.fact 33 (f := .glo "NotLocal") rfl)) (d.def_ 20 (d := d_NotLocal) rfl) ⟨rfl, rfl, rfl, by decide +kernel, rfl, by decide +kernel, by decide +kernel⟩ rfl (fun _ _ _ _ _ _ us hl => match us, hl with | [_, _], _ => rfl)
  have XX_Unknown : ExcF P w K mg base "Unknown" ["name"] := rx1 (List.all_eq_true.mp rq ("Unknown", ["name"]) (by simp [rxs])) (He.glo_ok X G (d.fact 42 (f := .glo "Unknown") rfl)) (d.def_ 21 (d := d_Unknown) rfl) ⟨rfl, rfl, rfl, by decide +kernel, rfl, by decide +kernel, by decide +kernel⟩ rfl (fun _ _ _ _ _ _ us hl => match us, hl with | [_, _], _ => rfl)
  have TX : ExcT K "Refused" excAll raisedC excFields := by
    have z := c.more
    unfold exq at z
    exact et_ok (an (an z).2).2
  have F_turn_places : Fn P w K mg base "turn_places" 1 [] [false] m_turn_places := ok_turn_places T (d.def_ 0 (d := d_turn_places) rfl) (He.glo_ok X G (d.fact 0 (f := .glo "turn_places") rfl))
  have F_parted_places : Fn P w K mg base "parted_places" 1 [] [false, false] m_parted_places := ok_parted_places T (d.def_ 1 (d := d_parted_places) rfl) (He.glo_ok X G (d.fact 1 (f := .glo "parted_places") rfl))
  have F_law_mix : Fn P w K mg base "_law_mix" 1 [] [false, false, false] m_law_mix := ok_law_mix T (d.def_ 4 (d := d_law_mix) rfl) (He.glo_ok X G (d.fact 4 (f := .glo "_law_mix") rfl))
  have F_law_same_leaf : Fn P w K mg base "_law_same_leaf" 1 [] [false, false] m_law_same_leaf := ok_law_same_leaf T (d.def_ 11 (d := d_law_same_leaf) rfl) (He.glo_ok X G (d.fact 11 (f := .glo "_law_same_leaf") rfl))
  have E_law_class : FnE P w K mg base "_law_class" 1 [false] mE_law_class raisedC := okE_law_class T (d.def_ 12 (d := d_law_class) rfl) (He.glo_ok X G (d.fact 12 (f := .glo "_law_class") rfl)) TX
  have F_law_taken_places : Fn P w K mg base "_law_taken_places" 1 [] [false, false, false, false] m_law_taken_places := ok_law_taken_places T (d.def_ 14 (d := d_law_taken_places) rfl) (He.glo_ok X G (d.fact 14 (f := .glo "_law_taken_places") rfl))
  have F_law_store : Fn P w K mg base "_law_store" 2 [] [false] m_law_store := ok_law_store T (d.def_ 5 (d := d_law_store) rfl) (He.glo_ok X G (d.fact 5 (f := .glo "_law_store") rfl)) F_law_mix
  have F_law_take : Fn P w K mg base "_law_take" 2 [] [true, false] m_law_take := ok_law_take T (d.def_ 6 (d := d_law_take) rfl) (He.glo_ok X G (d.fact 6 (f := .glo "_law_take") rfl)) F_law_mix
  have F_law_same : Fn P w K mg base "_law_same" 2 [] [false, false] m_law_same := ok_law_same T (d.def_ 10 (d := d_law_same) rfl) (He.glo_ok X G (d.fact 10 (f := .glo "_law_same") rfl)) F_law_same_leaf
  have E_law_told : FnE P w K mg base "_law_told" 2 [false] mE_law_told raisedC := okE_law_told T (d.def_ 13 (d := d_law_told) rfl) (He.glo_ok X G (d.fact 13 (f := .glo "_law_told") rfl)) E_law_class TX
  have F_law_due_taking : Fn P w K mg base "_law_due_taking" 2 [] [false, false, false, false] m_law_due_taking := ok_law_due_taking T (d.def_ 17 (d := d_law_due_taking) rfl) (He.glo_ok X G (d.fact 17 (f := .glo "_law_due_taking") rfl)) F_law_taken_places
  have F_taking_places : Fn P w K mg base "taking_places" 3 [] [false, false, false, false] m_taking_places := ok_taking_places T (d.def_ 2 (d := d_taking_places) rfl) (He.glo_ok X G (d.fact 2 (f := .glo "taking_places") rfl)) F_turn_places F_parted_places XX_NotLocal XX_Unknown
  have F_law_pick : Fn P w K mg base "_law_pick" 3 [] [true, false] m_law_pick := ok_law_pick T (d.def_ 7 (d := d_law_pick) rfl) (He.glo_ok X G (d.fact 7 (f := .glo "_law_pick") rfl)) F_law_take
  have F_law_number : Fn P w K mg base "_law_number" 3 [] [true, false] m_law_number := ok_law_number T (d.def_ 8 (d := d_law_number) rfl) (He.glo_ok X G (d.fact 8 (f := .glo "_law_number") rfl)) F_law_take
  have F_law_as_row : Fn P w K mg base "_law_as_row" 3 [] [true, false] m_law_as_row := ok_law_as_row T (d.def_ 9 (d := d_law_as_row) rfl) (He.glo_ok X G (d.fact 9 (f := .glo "_law_as_row") rfl)) F_law_take
  have F_taking_order : Fn P w K mg base "taking_order" 4 [] [false, false, false, false] m_taking_order := ok_taking_order T (d.def_ 3 (d := d_taking_order) rfl) (He.glo_ok X G (d.fact 3 (f := .glo "taking_order") rfl)) F_taking_places
  have F_law_ask_places : Fn P w K mg base "_law_ask_places" 4 [] [false, false, false, false] m_law_ask_places := ok_law_ask_places T (d.def_ 15 (d := d_law_ask_places) rfl) (He.glo_ok X G (d.fact 15 (f := .glo "_law_ask_places") rfl)) F_taking_places E_law_told
  have F_law_odd_mode : Fn P w K mg base "_law_odd_mode" 4 [] [true, false] m_law_odd_mode := ok_law_odd_mode T (d.def_ 18 (d := d_law_odd_mode) rfl) (He.glo_ok X G (d.fact 18 (f := .glo "_law_odd_mode") rfl)) F_law_take F_law_pick
  have F_law_ask_order : Fn P w K mg base "_law_ask_order" 5 [] [false, false, false, false] m_law_ask_order := ok_law_ask_order T (d.def_ 16 (d := d_law_ask_order) rfl) (He.glo_ok X G (d.fact 16 (f := .glo "_law_ask_order") rfl)) F_taking_order E_law_told
  exact ok_law T F F_law_store F_law_same F_law_take F_law_number F_law_pick F_law_odd_mode F_law_as_row F_law_due_taking F_law_ask_order F_law_ask_places
end
end LK
open PySem PySem.W PySem.Calls PyProof.Rows
theorem LK.holds (pure_law : ∀ ns : List Int, ns.length ≤ 63 → LK.m_law [DL.D.scr ns] = .ok (.bl true) []) : PySem.Challenge.rw_lastslips_k20_taking_places.Holds := by
  w_on; o_law
  refine HandSHeadRun.head_any (r := LK.RR) (q := LK.qv) (H := LK.hk) (ob := LK.ob) (M := 12000) (loose := LK.loose) (d := HandSHeadRun.topDef LK.RR.prog 49) (kwd := []) LK.ob_eq
    (by kernel_rfl) (fun s => by kernel_rfl) LK.run (by kernel_rfl) (by kernel_rfl) (by kernel_rfl) (by rfl) (by first | assumption | decide +kernel) (by decide +kernel) ⟨rfl, rfl, rfl, rfl, rfl, by decide +kernel⟩ ?hw ?hc
  case hw => w_witness2
  case hc =>
    refine L2.walk_ofE (l := PySem.Challenge.rw_lastslips_k20_taking_places) (n := 63) (k := 6) (x := "script") (CX := L2.CX0) rfl (by decide) (by kernel_rfl) ⟨rfl, by decide, by decide⟩ ?F (fun _ _ _ _ z => z)
    intro w mg fa h Y G hmg0
    obtain ⟨K, KX, c⟩ := Y
    have hmg : mg ("law" : PySem.Str) = some (.ref fa) := by
      have e : (HandSHeadRun.topDef LK.RR.prog 49).name = ("law" : PySem.Str) := by kernel_rfl
      rw [← e]
      exact hmg0
    have gl := He.glo_ok KX G ((He.SaysT.d c.t).fact 19 (f := .glo "law") rfl)
    have ef : fa = He.ga K "law" := by
      have z := hmg.symm.trans gl
      cases z
      rfl
    obtain ⟨fd, F⟩ := (He.SaysT.d c.t).def_ 19 (d := LK.d_law) rfl
    have b := L2.FunD.bindsA (ps := ["script"]) F fun _ _ _ _ _ _ us hl => match us, hl with | [_], _ => rfl
    subst ef
    refine ⟨K, fd, fun vs H Q _ => DL.spD K [false] LK.m_law vs H Q fun _ _ _ => False, KX, fun s v => b s [v] rfl, fun H a ns hl hO hS => DL.law_sp hO hS (pure_law ns hl), fun base _ _ => DL.fn_cx0 ?_⟩
    exact LK.law_fn KX G c base F

theorem PySem.Challenge.cw_lastslips_k20_taking_places_holds : PySem.Challenge.rw_lastslips_k20_taking_places.Holds :=
  LK.holds LK.pure_law
