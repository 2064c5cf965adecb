import PyProof.Rows.All
import Wide.All
import OpenK.AllK
import Wide.FinOn
import HandS.ForMost
import HandS.ForExc
import HandS.TryMany
import HandS.Wide
import HandS.IsInst
import HandS.Defaults
import HandS.FStr
import HandS.StrMore
import HandS.ExcIs
import HandS.EndBits
import PySem.Challenge.RW_halfcrumb_k01_fractions_made
set_option Elab.async false
set_option linter.all false
set_option maxRecDepth 100000
set_option exponentiation.threshold 5000
set_option maxHeartbeats 4000000
/-! A layer of our own over HandS: what a def computes, as a plain Lean function over data (D): each construct of the text has a rule that says which function it is. Lists that a def changes are its own (SL.own); all else is frozen data. -/
namespace Dn
open PySem PySem.Spec PyProof.Rows L2
/-- data -/
inductive D where
  | non | bl (b : Bool) | int (i : Int) | str (x : Str) | tup (l : List D) | lst (l : List D) | obj (c : Nat) (l : List D) | scr (l : List Int)
/-- the written part, the classes' addresses and their fields' names -/
structure Gm where
  K : PySem.W.Frag
  ca : Nat → Addr
  fn : Nat → List Str
  /-- the error that an except suite holds -/
  ea : Addr
mutual
inductive Is (G : Gm) (H : Hp) : V → D → Prop
  | non : Is G H .non .non
  | bl (b : Bool) : Is G H (.bl b) (.bl b)
  | int (i : Int) : Is G H (.int i) (.int i)
  | str (x : Str) : Is G H (.str x) (.str x)
  | tup {a : Addr} {xs : List V} {ds : List D} : SqT G.K H a xs → IsL G H xs ds → Is G H (.ref a) (.tup ds)
  | scr {a : Addr} {l : List Int} : SqL G.K H a (l.map V.int) → Is G H (.ref a) (.scr l)
  | lst {a : Addr} {xs : List V} {ds : List D} : H a = some (.lst xs) → IsL G H xs ds → Is G H (.ref a) (.lst ds)
  | obj {a dx : Addr} {c : Nat} {xs : List V} {ds : List D} : H a = some (.ins (G.ca c) dx ((G.fn c).zip xs)) → (G.fn c).length = xs.length → IsL G H xs ds → Is G H (.ref a) (.obj c ds)
inductive IsL (G : Gm) (H : Hp) : List V → List D → Prop
  | nil : IsL G H [] []
  | cons {v : V} {vs : List V} {d : D} {ds : List D} : Is G H v d → IsL G H vs ds → IsL G H (v :: vs) (d :: ds)
end
theorem same_t {K : PySem.W.Frag} {H H' : Hp} {a : Addr} {xs : List V} (e : Same H H') (h : SqT K H a xs) : SqT K H' a xs := by
  rcases h with (h | ⟨o, h⟩) | h
  · exact .inl (.inl (e _ _ h))
  · exact .inl (.inr ⟨o, e _ _ h⟩)
  · exact .inr h
mutual
theorem Is.mono {G : Gm} {H H' : Hp} (e : Same H H') : ∀ (d : D) {v : V}, Is G H v d → Is G H' v d
  | .non, _, h => by cases h; exact .non
  | .bl _, _, h => by cases h; exact .bl _
  | .int _, _, h => by cases h; exact .int _
  | .str _, _, h => by cases h; exact .str _
  | .tup ds, _, h => by cases h with | tup a b => exact .tup (same_t e a) (IsL.mono e ds b)
  | .lst ds, _, h => by cases h with | lst a b => exact .lst (e _ _ a) (IsL.mono e ds b)
  | .scr l, _, h => by cases h with | scr a => exact .scr (e.seq a)
  | .obj c ds, _, h => by cases h with | obj a l b => exact .obj (e _ _ a) l (IsL.mono e ds b)
theorem IsL.mono {G : Gm} {H H' : Hp} (e : Same H H') : ∀ (ds : List D) {vs : List V}, IsL G H vs ds → IsL G H' vs ds
  | [], _, h => by cases h; exact .nil
  | d :: ds, _, h => by cases h with | cons a b => exact .cons (Is.mono e d a) (IsL.mono e ds b)
end
def Gm.at_ (G : Gm) (a : Addr) : Gm := { G with ea := a }
mutual
theorem Is.ea {G : Gm} {H : Hp} (x : Addr) : ∀ (d : D) {v : V}, Is G H v d → Is (G.at_ x) H v d
  | .non, _, h => by cases h; exact .non
  | .bl _, _, h => by cases h; exact .bl _
  | .int _, _, h => by cases h; exact .int _
  | .str _, _, h => by cases h; exact .str _
  | .tup ds, _, h => by cases h with | tup a b => exact .tup a (IsL.ea x ds b)
  | .lst ds, _, h => by cases h with | lst a b => exact .lst a (IsL.ea x ds b)
  | .scr l, _, h => by cases h with | scr a => exact .scr a
  | .obj c ds, _, h => by cases h with | obj a l b => exact .obj a l (IsL.ea x ds b)
theorem IsL.ea {G : Gm} {H : Hp} (x : Addr) : ∀ (ds : List D) {vs : List V}, IsL G H vs ds → IsL (G.at_ x) H vs ds
  | [], _, h => by cases h; exact .nil
  | d :: ds, _, h => by cases h with | cons a b => exact .cons (Is.ea x d a) (IsL.ea x ds b)
end
theorem Is.up {G : Gm} {H H' : Hp} {v : V} {d : D} (h : Is G H v d) (e : Same H H') : Is G H' v d := Is.mono e d h
theorem IsL.up {G : Gm} {H H' : Hp} {v : List V} {d : List D} (h : IsL G H v d) (e : Same H H') : IsL G H' v d := IsL.mono e d h
theorem IsL.len {G : Gm} {H : Hp} : ∀ {ds : List D} {vs : List V}, IsL G H vs ds → vs.length = ds.length
  | [], _, h => by cases h; rfl
  | d :: ds, _, h => by cases h with | cons a b => exact congrArg Nat.succ b.len
theorem IsL.get {G : Gm} {H : Hp} : ∀ {ds : List D} {vs : List V} {i : Nat} {d : D}, IsL G H vs ds → ds[i]? = some d → ∃ v, vs[i]? = some v ∧ Is G H v d
  | [], _, _, _, _, e => by simp at e
  | d :: ds, _, 0, _, h, e => by cases h with | cons a b => simp at e; subst e; exact ⟨_, rfl, a⟩
  | d :: ds, _, i + 1, _, h, e => by
    cases h with
    | cons a b =>
      obtain ⟨v, h1, h2⟩ := IsL.get (i := i) b (by simpa using e)
      exact ⟨v, by simpa using h1, h2⟩
theorem IsL.getV {G : Gm} {H : Hp} {ds : List D} {vs : List V} {i : Nat} {v : V} (h : IsL G H vs ds) (e : vs[i]? = some v) : ∃ d, ds[i]? = some d ∧ Is G H v d := by
  have hl := h.len
  have hi : i < vs.length := (List.getElem?_eq_some_iff.mp e).1
  have : ds[i]? = some (ds[i]'(by omega)) := List.getElem?_eq_getElem (by omega)
  obtain ⟨w, h1, h2⟩ := h.get this
  rw [e] at h1
  cases h1
  exact ⟨_, this, h2⟩
theorem IsL.append {G : Gm} {H : Hp} : ∀ {ds es : List D} {vs ws : List V}, IsL G H vs ds → IsL G H ws es → IsL G H (vs ++ ws) (ds ++ es)
  | [], _, _, _, h, k => by cases h; exact k
  | d :: ds, _, _, _, h, k => by cases h with | cons a b => exact .cons a (IsL.append b k)
theorem IsL.one {G : Gm} {H : Hp} {v : V} {d : D} (h : Is G H v d) : IsL G H [v] [d] := .cons h .nil
theorem IsL.take {G : Gm} {H : Hp} : ∀ (n : Nat) {ds : List D} {vs : List V}, IsL G H vs ds → IsL G H (vs.take n) (ds.take n)
  | 0, _, _, _ => .nil
  | n + 1, [], _, h => by cases h; exact .nil
  | n + 1, d :: ds, _, h => by cases h with | cons a b => exact .cons a (IsL.take n b)
theorem IsL.drop {G : Gm} {H : Hp} : ∀ (n : Nat) {ds : List D} {vs : List V}, IsL G H vs ds → IsL G H (vs.drop n) (ds.drop n)
  | 0, _, _, h => h
  | n + 1, [], _, h => by cases h; exact .nil
  | n + 1, d :: ds, _, h => by cases h with | cons a b => exact IsL.drop n b
theorem IsL.set {G : Gm} {H : Hp} {v : V} {d : D} (q : Is G H v d) : ∀ (n : Nat) {ds : List D} {vs : List V}, IsL G H vs ds → IsL G H (vs.set n v) (ds.set n d)
  | _, [], _, h => by cases h; exact .nil
  | 0, _ :: ds, _, h => by cases h with | cons a b => exact .cons q b
  | n + 1, _ :: ds, _, h => by cases h with | cons a b => exact .cons a (IsL.set q n b)
theorem IsL.reverse {G : Gm} {H : Hp} : ∀ {ds : List D} {vs : List V}, IsL G H vs ds → IsL G H vs.reverse ds.reverse
  | [], _, h => by cases h; exact .nil
  | d :: ds, _, h => by
    cases h with
    | cons a b =>
      rw [List.reverse_cons, List.reverse_cons]
      exact (IsL.reverse b).append (.one a)
/-- data without an address -/
def flat : D → Bool
  | .non | .bl _ | .int _ | .str _ => true
  | _ => false
theorem Is.flat {G : Gm} {H : Hp} (H' : Hp) {v : V} {d : D} (h : Is G H v d) (f : flat d = true) : Is G H' v d := by
  cases h <;> first | exact .non | exact .bl _ | exact .int _ | exact .str _ | cases f
/-! ### the heap grows -/
/-- Hf, the frozen part, and H grow; what was not frozen is not frozen now -/
structure Gro (Hf H Hf' H' : Hp) : Prop where
  f : Same Hf Hf'
  h : Same H H'
  s : Same Hf' H'
  n : ∀ p o, H p = some o → Hf p = none → Hf' p = none
theorem Gro.refl {Hf H : Hp} (s : Same Hf H) : Gro Hf H Hf H := ⟨Same.refl _, Same.refl _, s, fun _ _ _ h => h⟩
theorem Gro.trans {Hf H Hf1 H1 Hf2 H2 : Hp} (a : Gro Hf H Hf1 H1) (b : Gro Hf1 H1 Hf2 H2) : Gro Hf H Hf2 H2 :=
  ⟨a.f.trans b.f, a.h.trans b.h, b.s, fun p o e q => b.n p o (a.h _ _ e) (a.n p o e q)⟩
theorem same_new {H : Hp} {p : Addr} {o : HO} (h : H p = none) : Same H (upd H p o) := fun a u e => by
  rw [upd_ne (ne_of_none e h)]
  exact e
/-- a new object, frozen at once -/
theorem Gro.new {Hf H : Hp} {p : Addr} {o : HO} (s : Same Hf H) (h : H p = none) : Gro Hf H (upd Hf p o) (upd H p o) := by
  refine ⟨same_new (s.free h), same_new h, fun a u e => ?_, fun a u e q => ?_⟩
  · by_cases z : a = p
    · subst z; rw [upd_same] at e ⊢; exact e
    · rw [upd_ne z] at e ⊢; exact s _ _ e
  · rw [upd_ne (ne_of_none e h)]; exact q
/-- a new object that is not frozen -/
theorem Gro.loose {Hf H : Hp} {p : Addr} {o : HO} (s : Same Hf H) (h : H p = none) : Gro Hf H Hf (upd H p o) :=
  ⟨Same.refl _, same_new h, s.trans (same_new h), fun _ _ _ q => q⟩
/-! ### values as they come: P frozen, B a list of the def's own, N a new list -/
inductive Md where | P | B | N
  deriving DecidableEq
def VOk (G : Gm) (H0 Hf H : Hp) : Md → V → D → Prop
  | .P, v, d => Is G Hf v d
  | .B, v, d => ∃ p vs l, v = .ref p ∧ d = .lst l ∧ H p = some (.lst vs) ∧ IsL G Hf vs l
  | .N, v, d => ∃ p vs l, v = .ref p ∧ d = .lst l ∧ H p = some (.lst vs) ∧ IsL G Hf vs l ∧ H0 p = none ∧ Hf p = none
/-- what every value is good for, at once -/
def U (G : Gm) (Hf H : Hp) (v : V) (d : D) : Prop := Is G Hf v d ∨ ∃ p vs l, v = .ref p ∧ d = .lst l ∧ H p = some (.lst vs) ∧ IsL G Hf vs l
theorem VOk.u {G : Gm} {H0 Hf H : Hp} {m : Md} {v : V} {d : D} (h : VOk G H0 Hf H m v d) : U G Hf H v d := by
  cases m with
  | P => exact .inl h
  | B => exact .inr h
  | N => obtain ⟨p, vs, l, a, b, c, e, _⟩ := h; exact .inr ⟨p, vs, l, a, b, c, e⟩
theorem U.up {G : Gm} {Hf H Hf' H' : Hp} {v : V} {d : D} (h : U G Hf H v d) (g : Gro Hf H Hf' H') : U G Hf' H' v d := by
  rcases h with h | ⟨p, vs, l, a, b, c, e⟩
  · exact .inl (h.up g.f)
  · exact .inr ⟨p, vs, l, a, b, g.h _ _ c, e.up g.f⟩
theorem U.is {G : Gm} {Hf H : Hp} {v : V} {d : D} (h : U G Hf H v d) (s : Same Hf H) : Is G H v d := by
  rcases h with h | ⟨p, vs, l, rfl, rfl, c, e⟩
  · exact h.up s
  · exact .lst c (e.up s)
theorem U.lst {G : Gm} {Hf H : Hp} {v : V} {l : List D} (h : U G Hf H v (.lst l)) (s : Same Hf H) : ∃ p vs, v = .ref p ∧ H p = some (.lst vs) ∧ IsL G Hf vs l := by
  rcases h with h | ⟨p, vs, l', rfl, e, c, q⟩
  · cases h with | lst a b => exact ⟨_, _, rfl, s _ _ a, b⟩
  · cases e; exact ⟨p, vs, rfl, c, q⟩
theorem U.scr {G : Gm} {Hf H : Hp} {v : V} {l : List Int} (h : U G Hf H v (.scr l)) (s : Same Hf H) : ∃ p, v = .ref p ∧ SqL G.K H p (l.map V.int) := by
  rcases h with h | ⟨p, vs, l', rfl, e, c, q⟩
  · cases h with | scr a => exact ⟨_, rfl, s.seq a⟩
  · cases e
theorem U.tup {G : Gm} {Hf H : Hp} {v : V} {l : List D} (h : U G Hf H v (.tup l)) (s : Same Hf H) : ∃ p vs, v = .ref p ∧ SqT G.K H p vs ∧ IsL G Hf vs l := by
  rcases h with h | ⟨p, vs, l', rfl, e, c, q⟩
  · cases h with | tup a b => exact ⟨_, _, rfl, same_t s a, b⟩
  · cases e
theorem U.int {G : Gm} {Hf H : Hp} {v : V} {i : Int} (h : U G Hf H v (.int i)) : v = .int i := by
  rcases h with h | ⟨p, vs, l', rfl, e, c, q⟩
  · cases h; rfl
  · cases e
theorem U.bl {G : Gm} {Hf H : Hp} {v : V} {i : Bool} (h : U G Hf H v (.bl i)) : v = .bl i := by
  rcases h with h | ⟨p, vs, l', rfl, e, c, q⟩
  · cases h; rfl
  · cases e
theorem U.str {G : Gm} {Hf H : Hp} {v : V} {i : Str} (h : U G Hf H v (.str i)) : v = .str i := by
  rcases h with h | ⟨p, vs, l', rfl, e, c, q⟩
  · cases h; rfl
  · cases e
theorem U.non {G : Gm} {Hf H : Hp} {v : V} (h : U G Hf H v .non) : v = .non := by
  rcases h with h | ⟨p, vs, l', rfl, e, c, q⟩
  · cases h; rfl
  · cases e
theorem VOk.up {G : Gm} {H0 Hf H Hf' H' : Hp} {m : Md} {v : V} {d : D} (h : VOk G H0 Hf H m v d) (g : Gro Hf H Hf' H') : VOk G H0 Hf' H' m v d := by
  cases m with
  | P => exact Is.up h g.f
  | B => obtain ⟨p, vs, l, a, b, c, e⟩ := h; exact ⟨p, vs, l, a, b, g.h _ _ c, e.up g.f⟩
  | N => obtain ⟨p, vs, l, a, b, c, e, n, z⟩ := h; exact ⟨p, vs, l, a, b, g.h _ _ c, e.up g.f, n, g.n _ _ c z⟩
theorem VOk.back {G : Gm} {H0 H1 Hf H : Hp} {m : Md} {v : V} {d : D} (h : VOk G H1 Hf H m v d) (s : Same H0 H1) : VOk G H0 Hf H m v d := by
  cases m with
  | P => exact h
  | B => exact h
  | N => obtain ⟨p, vs, l, a, b, c, e, n, z⟩ := h; exact ⟨p, vs, l, a, b, c, e, s.free n, z⟩
/-- what is new is frozen -/
theorem VOk.freeze {G : Gm} {Hf H Hf' H' : Hp} {m : Md} {v : V} {d : D} (h : VOk G H Hf' H' m v d) (g : Gro Hf H Hf' H') (hm : m ≠ .B) : ∃ Hf2, Gro Hf H Hf2 H' ∧ Same Hf' Hf2 ∧ (∀ q, Hf' q = none → H q ≠ none → Hf2 q = none) ∧ Is G Hf2 v d := by
  cases m with
  | P => exact ⟨Hf', g, Same.refl _, fun _ h _ => h, h⟩
  | B => exact absurd rfl hm
  | N =>
    obtain ⟨p, vs, l, rfl, rfl, c, e, n, z⟩ := h
    have s1 : Same Hf' (upd Hf' p (.lst vs)) := same_new z
    refine ⟨upd Hf' p (.lst vs), ⟨g.f.trans s1, g.h, fun a u q => ?_, fun a u q r => ?_⟩, s1, fun q h1 h2 => ?_, .lst upd_same (e.up s1)⟩
    · by_cases zz : a = p
      · subst zz; rw [upd_same] at q; rw [← q]; exact c
      · rw [upd_ne zz] at q; exact g.s _ _ q
    · rw [upd_ne (ne_of_none q n)]; exact g.n _ _ q r
    · by_cases zz : q = p
      · subst zz; exact absurd n h2
      · rw [upd_ne zz]; exact h1
/-! ### slots -/
inductive SL where | emp | val (d : D) | own (l : List D) | exn
abbrev DE := List SL
def SlotOk (G : Gm) (H0 Hf H : Hp) : Option V → SL → Prop
  | _, .emp => True
  | o, .exn => o = some (.ref G.ea)
  | o, .val d => ∃ v, o = some v ∧ Is G Hf v d
  | o, .own l => ∃ p vs, o = some (.ref p) ∧ H0 p = none ∧ Hf p = none ∧ H p = some (.lst vs) ∧ IsL G Hf vs l
structure EnvOk (G : Gm) (F0 H0 Hf H : Hp) (σ : L2.St) (e : DE) : Prop where
  gr : Gro F0 H0 Hf H
  len : σ.length = e.length
  at_ : ∀ (i : Nat) (o : Option V) (s : SL), σ[i]? = some o → e[i]? = some s → SlotOk G H0 Hf H o s
  dis : ∀ (i j : Nat) (p : Addr) (l m : List D), i ≠ j → σ[i]? = some (some (.ref p)) → e[i]? = some (.own l) → σ[j]? = some (some (.ref p)) → e[j]? = some (.own m) → False
theorem SlotOk.up {G : Gm} {H0 Hf H Hf' H' : Hp} {o : Option V} {s : SL} (h : SlotOk G H0 Hf H o s) (g : Gro Hf H Hf' H') : SlotOk G H0 Hf' H' o s := by
  cases s with
  | emp => trivial
  | exn => exact h
  | val d => obtain ⟨v, a, b⟩ := h; exact ⟨v, a, b.up g.f⟩
  | own l => obtain ⟨p, vs, a, b, c, d, e⟩ := h; exact ⟨p, vs, a, b, g.n _ _ d c, g.h _ _ d, e.up g.f⟩
theorem EnvOk.up {G : Gm} {F0 H0 Hf H Hf' H' : Hp} {σ : L2.St} {e : DE} (h : EnvOk G F0 H0 Hf H σ e) (g : Gro Hf H Hf' H') : EnvOk G F0 H0 Hf' H' σ e :=
  ⟨h.gr.trans g, h.len, fun i o s a b => (h.at_ i o s a b).up g, h.dis⟩
theorem EnvOk.s {G : Gm} {F0 H0 Hf H : Hp} {σ : L2.St} {e : DE} (h : EnvOk G F0 H0 Hf H σ e) : Same Hf H := h.gr.s
theorem EnvOk.slot {G : Gm} {F0 H0 Hf H : Hp} {σ : L2.St} {e : DE} {i : Nat} {s : SL} (h : EnvOk G F0 H0 Hf H σ e) (hs : e[i]? = some s) : ∃ o, σ[i]? = some o ∧ SlotOk G H0 Hf H o s := by
  have hi : i < e.length := (List.getElem?_eq_some_iff.mp hs).1
  have e1 : σ[i]? = some (σ[i]'(by have := h.len; omega)) := List.getElem?_eq_getElem _
  exact ⟨_, e1, h.at_ i _ s e1 hs⟩
/-- a slot takes a frozen value, or none that is known -/
theorem EnvOk.set {G : Gm} {F0 H0 Hf H : Hp} {σ : L2.St} {e : DE} {i : Nat} {o : Option V} {s : SL} (h : EnvOk G F0 H0 Hf H σ e) (hs : SlotOk G H0 Hf H o s) (hn : ∀ l, s ≠ .own l) : EnvOk G F0 H0 Hf H (σ.set i o) (e.set i s) := by
  refine ⟨h.gr, by simp [h.len], fun j o' s' a b => ?_, fun j k p l m hjk a b c d => ?_⟩
  · by_cases z : i = j
    · subst z
      have hi : i < σ.length := by
        have := (List.getElem?_eq_some_iff.mp a).1
        simpa using this
      rw [List.getElem?_set_self hi] at a
      rw [List.getElem?_set_self (by rw [← h.len]; exact hi)] at b
      cases a; cases b; exact hs
    · rw [List.getElem?_set_ne z] at a b
      exact h.at_ j o' s' a b
  · by_cases z : i = j
    · subst z
      have hi : i < e.length := by
        have := (List.getElem?_eq_some_iff.mp b).1
        simpa using this
      rw [List.getElem?_set_self hi] at b
      cases b
      exact absurd rfl (hn l)
    · by_cases z2 : i = k
      · subst z2
        have hi : i < e.length := by
          have := (List.getElem?_eq_some_iff.mp d).1
          simpa using this
        rw [List.getElem?_set_self hi] at d
        cases d
        exact absurd rfl (hn m)
      · rw [List.getElem?_set_ne z] at a b
        rw [List.getElem?_set_ne z2] at c d
        exact h.dis j k p l m hjk a b c d
/-- a slot takes a list of the def's own, whose address no other slot has -/
theorem EnvOk.setOwn {G : Gm} {F0 H0 Hf H : Hp} {σ : L2.St} {e : DE} {i : Nat} {p : Addr} {vs : List V} {l : List D} (h : EnvOk G F0 H0 Hf H σ e) (h0 : H0 p = none) (hf : Hf p = none) (hp : H p = some (.lst vs)) (hl : IsL G Hf vs l)
    (hne : ∀ (j : Nat) (m : List D), j ≠ i → σ[j]? = some (some (.ref p)) → e[j]? = some (.own m) → False) : EnvOk G F0 H0 Hf H (σ.set i (some (.ref p))) (e.set i (.own l)) := by
  refine ⟨h.gr, by simp [h.len], fun j o' s' a b => ?_, fun j k q l1 m hjk a b c d => ?_⟩
  · by_cases z : i = j
    · subst z
      have hi : i < σ.length := by
        have := (List.getElem?_eq_some_iff.mp a).1
        simpa using this
      rw [List.getElem?_set_self hi] at a
      rw [List.getElem?_set_self (by rw [← h.len]; exact hi)] at b
      cases a; cases b; exact ⟨p, vs, rfl, h0, hf, hp, hl⟩
    · rw [List.getElem?_set_ne z] at a b
      exact h.at_ j o' s' a b
  · by_cases z : i = j
    · subst z
      have hi : i < σ.length := by
        have := (List.getElem?_eq_some_iff.mp a).1
        simpa using this
      rw [List.getElem?_set_self hi] at a
      rw [List.getElem?_set_ne hjk] at c d
      cases a
      exact hne k m (fun z => hjk z.symm) c d
    · by_cases z2 : i = k
      · subst z2
        have hi : i < σ.length := by
          have := (List.getElem?_eq_some_iff.mp c).1
          simpa using this
        rw [List.getElem?_set_self hi] at c
        rw [List.getElem?_set_ne z] at a b
        cases c
        exact hne j l1 hjk a b
      · rw [List.getElem?_set_ne z] at a b
        rw [List.getElem?_set_ne z2] at c d
        exact h.dis j k q l1 m hjk a b c d
/-- an own list changes -/
theorem EnvOk.chg {G : Gm} {F0 H0 Hf H : Hp} {σ : L2.St} {e : DE} {i : Nat} {p : Addr} {vs : List V} {l l' : List D} (h : EnvOk G F0 H0 Hf H σ e) (hσ : σ[i]? = some (some (.ref p))) (he : e[i]? = some (.own l')) (h0 : H0 p = none) (hf : Hf p = none) (hl : IsL G Hf vs l) :
    EnvOk G F0 H0 Hf (upd H p (.lst vs)) σ (e.set i (.own l)) := by
  have ne0 : ∀ q o, H0 q = some o → q ≠ p := fun q o z => ne_of_none z h0
  have nef : ∀ q o, Hf q = some o → q ≠ p := fun q o z => ne_of_none z hf
  refine ⟨⟨h.gr.f, fun a u q => ?_, fun a u q => ?_, h.gr.n⟩, by simp [h.len], fun j o' s' a b => ?_, fun j k q l1 m hjk a b c d => ?_⟩
  · rw [upd_ne (ne0 _ _ q)]; exact h.gr.h _ _ q
  · rw [upd_ne (nef _ _ q)]; exact h.gr.s _ _ q
  · by_cases z : i = j
    · subst z
      have hi : i < e.length := (List.getElem?_eq_some_iff.mp he).1
      rw [List.getElem?_set_self hi] at b
      rw [hσ] at a
      cases a; cases b; exact ⟨p, vs, rfl, h0, hf, upd_same, hl⟩
    · rw [List.getElem?_set_ne z] at b
      have q := h.at_ j o' s' a b
      cases s' with
      | emp => trivial
      | exn => exact q
      | val d => exact q
      | own m =>
        obtain ⟨p', vs', rfl, b1, b2, b3, b4⟩ := q
        have : p' ≠ p := fun zz => by subst zz; exact h.dis i j p' l' m z hσ he a b
        exact ⟨p', vs', rfl, b1, b2, by rw [upd_ne this]; exact b3, b4⟩
  · have own_of : ∀ (j : Nat) (l1 : List D), (e.set i (.own l))[j]? = some (.own l1) → ∃ l2, e[j]? = some (.own l2) := fun j l1 b => by
      by_cases z : i = j
      · subst z; exact ⟨l', he⟩
      · rw [List.getElem?_set_ne z] at b; exact ⟨l1, b⟩
    obtain ⟨l2, b'⟩ := own_of j l1 b
    obtain ⟨l3, d'⟩ := own_of k m d
    exact h.dis j k q l2 l3 hjk a b' c d'
/-! ### results -/
inductive ER where | val (m : Md) (d : D) | exc (c : Nat) (l : List D) | bad
/-- an exception of the class c with the fields l: its own dict, frozen -/
def ExcOk (G : Gm) (Hf : Hp) (c : Nat) (l : List D) (x : Option Addr) : Prop :=
  (l = [] ∧ x = none) ∨ ∃ da xs, x = some da ∧ l ≠ [] ∧ Hf da = some (.xd ((G.fn c).zip xs)) ∧ (G.fn c).length = xs.length ∧ IsL G Hf xs l
theorem ExcOk.up {G : Gm} {Hf Hf' : Hp} {c : Nat} {l : List D} {x : Option Addr} (h : ExcOk G Hf c l x) (s : Same Hf Hf') : ExcOk G Hf' c l x := by
  rcases h with h | ⟨da, xs, a, b, c, d, e⟩
  · exact .inl h
  · exact .inr ⟨da, xs, a, b, s _ _ c, d, e.up s⟩
def RPost (G : Gm) (W : WX) (Hf H : Hp) (σ : L2.St) (Q : VK) : ER → Prop
  | .val m d => ∀ Hf' H' v, Gro Hf H Hf' H' → VOk G H Hf' H' m v d → Q v H'
  | .exc c l => ∀ Hf' H' x, Gro Hf H Hf' H' → ExcOk G Hf' c l x → W (.ref (G.ca c)) x σ H'
  | .bad => False
theorem RPost.step {G : Gm} {W : WX} {Hf H Hf1 H1 : Hp} {σ : L2.St} {Q : VK} {r : ER} (g : Gro Hf H Hf1 H1) (h : RPost G W Hf H σ Q r) : RPost G W Hf1 H1 σ Q r := by
  cases r with
  | val m d => exact fun Hf' H' v g' o => h Hf' H' v (g.trans g') (o.back g.h)
  | exc c l => exact fun Hf' H' x g' o => h Hf' H' x (g.trans g') o
  | bad => exact h
def ER.bind (r : ER) (k : D → ER) : ER := match r with
  | .val _ d => k d
  | .exc c l => .exc c l
  | .bad => .bad
@[simp] theorem ER.bind_val (m : Md) (d : D) (k : D → ER) : (ER.val m d).bind k = k d := rfl
@[simp] theorem ER.bind_exc (c : Nat) (l : List D) (k : D → ER) : (ER.exc c l).bind k = .exc c l := rfl
@[simp] theorem ER.bind_bad (k : D → ER) : ER.bad.bind k = .bad := rfl
/-- the expression's reading te is the function f of the slots -/
def DEv (G : Gm) (W : WX) (te : TE) (f : DE → ER) : Prop :=
  ∀ F0 H0 Hf H σ e, EnvOk G F0 H0 Hf H σ e → ∀ Q : VK, RPost G W Hf H σ Q (f e) → te σ H Q
/-- two results, one behind the other -/
theorem RPost.bind {G : Gm} {W : WX} {Hf H : Hp} {σ : L2.St} {Q Q' : VK} {r : ER} {k : D → ER} (h : RPost G W Hf H σ Q (r.bind k))
    (hk : ∀ m d Hf' H' v, Gro Hf H Hf' H' → VOk G H Hf' H' m v d → RPost G W Hf' H' σ Q (k d) → Q' v H') : RPost G W Hf H σ Q' r := by
  cases r with
  | val m d => exact fun Hf' H' v g o => hk m d Hf' H' v g o (RPost.step g h)
  | exc c l => exact h
  | bad => exact h
/-- the expression e of the text is the function f -/
def CE (G : Gm) (X : Cx) (W : WX) (e : Expr) (f : DE → ER) : Prop := X.K = G.K ∧ ∃ t, PE X e t ∧ DEv G W t f
end Dn
namespace Dn
open PySem PySem.Spec PyProof.Rows L2
/-! ### operators by values -/
def rOr (r r' : R2) : R2 := fun x y H Q => r x y H Q ∨ r' x y H Q
theorem opOr {X : Cx} {f : Value → Value → Sem Value} {r r' : R2} (h : OpR X f r) (h' : OpR X f r') : OpR X f (rOr r r') := by
  intro pins s σ H x y v u Q I rx ry q
  rcases q with q | q
  · exact h pins s σ H x y v u Q I rx ry q
  · exact h' pins s σ H x y v u Q I rx ry q
/-- the operator's reading r is the function o of data -/
def DOp (G : Gm) (r : R2) (o : D → D → ER) : Prop :=
  ∀ (W : WX) (σ : L2.St) (Hf H : Hp) (v w : V) (d d' : D), Same Hf H → U G Hf H v d → U G Hf H w d' → ∀ Q : VK, RPost G W Hf H σ Q (o d d') → r v w H Q
theorem RPost.now {G : Gm} {W : WX} {Hf H : Hp} {σ : L2.St} {Q : VK} {v : V} {d : D} (s : Same Hf H) (h : RPost G W Hf H σ Q (.val .P d)) (hv : Is G Hf v d) : Q v H := h Hf H v (Gro.refl s) hv
theorem RPost.newL {G : Gm} {W : WX} {Hf H : Hp} {σ : L2.St} {Q : VK} {vs : List V} {l : List D} (s : Same Hf H) (h : RPost G W Hf H σ Q (.val .N (.lst l))) (hv : IsL G Hf vs l) {p : Addr} (hp : H p = none) : Q (.ref p) (upd H p (.lst vs)) :=
  h Hf _ _ (Gro.loose s hp) ⟨p, vs, l, rfl, rfl, upd_same, hv, hp, s.free hp⟩
theorem RPost.newT {G : Gm} {W : WX} {Hf H : Hp} {σ : L2.St} {Q : VK} {vs : List V} {l : List D} (s : Same Hf H) (h : RPost G W Hf H σ Q (.val .P (.tup l))) (hv : IsL G Hf vs l) {p : Addr} (hp : H p = none) : Q (.ref p) (upd H p (.tup vs)) :=
  h _ _ _ (Gro.new s hp) (.tup (SqT.of upd_same) (hv.up (same_new (s.free hp))))
theorem RPost.cond {G : Gm} {W : WX} {Hf H : Hp} {σ : L2.St} {Q : VK} (c : Prop) [Decidable c] (r : ER) (h : RPost G W Hf H σ Q (if c then r else .bad)) : c ∧ RPost G W Hf H σ Q r := by
  by_cases q : c
  · rw [if_pos q] at h; exact ⟨q, h⟩
  · rw [if_neg q] at h; exact h.elim
def ofOpt {α : Type} (o : Option α) (k : α → ER) : ER := match o with
  | some d => k d
  | none => .bad
@[simp] theorem ofOpt_some {α : Type} (a : α) (k : α → ER) : ofOpt (some a) k = k a := rfl
@[simp] theorem ofOpt_none {α : Type} (k : α → ER) : ofOpt none k = .bad := rfl
theorem RPost.opt {α : Type} {G : Gm} {W : WX} {Hf H : Hp} {σ : L2.St} {Q : VK} (o : Option α) (k : α → ER) (h : RPost G W Hf H σ Q (ofOpt o k)) : ∃ d, o = some d ∧ RPost G W Hf H σ Q (k d) := by
  cases o with
  | none => exact h.elim
  | some d => exact ⟨d, rfl, h⟩
theorem sz {n : Nat} (h : n ≤ 1000000) : n ≤ sizeLine := Nat.le_trans h (by decide)
theorem szlt {n : Nat} (h : n < 1000000) : n < sizeLine := Nat.lt_of_lt_of_le h (by decide)
/-! + -/
def oAdd : D → D → ER
  | .int i, .int j => .val .P (.int (i + j))
  | .str a, .str b => if a.length + b.length ≤ 1000000 then .val .P (.str (a ++ b)) else .bad
  | .lst a, .lst b => if a.length + b.length ≤ 1000000 then .val .N (.lst (a ++ b)) else .bad
  | .tup a, .tup b => if a ≠ [] ∧ b ≠ [] ∧ a.length + b.length ≤ 1000000 then .val .P (.tup (a ++ b)) else .bad
  | _, _ => .bad
abbrev rAddS : R2 := fun x y H Q => ∃ i j, x = .str i ∧ y = .str j ∧ i.length + j.length ≤ sizeLine ∧ Q (.str (i ++ j)) H
abbrev rAddA (K : PySem.W.Frag) : R2 := rOr (rI0 fun i j => .int (i + j)) (rOr rAddS (rOr rCat (rCatT K)))
theorem or_add {X : Cx} : OpR X (binaryOp .Add) (rAddA X.K) := opOr op_add (opOr op_add_str (opOr op_cat op_catT))
theorem d_add {G : Gm} : DOp G (rAddA G.K) oAdd := by
  intro W σ Hf H v w d d' s hv hw Q post
  cases d <;> cases d' <;> try exact post.elim
  case int.int i j =>
    obtain rfl := hv.int; obtain rfl := hw.int
    exact .inl ⟨i, j, rfl, rfl, post.now s (.int _)⟩
  case str.str a b =>
    obtain rfl := hv.str; obtain rfl := hw.str
    obtain ⟨h, post⟩ := RPost.cond (a.length + b.length ≤ 1000000) (.val .P (.str (a ++ b))) post
    exact .inr (.inl ⟨a, b, rfl, rfl, sz h, post.now s (.str _)⟩)
  case lst.lst a b =>
    obtain ⟨p, vs, rfl, hp, hl⟩ := hv.lst s
    obtain ⟨q, ws, rfl, hq, hm⟩ := hw.lst s
    obtain ⟨h, post⟩ := RPost.cond (a.length + b.length ≤ 1000000) (.val .N (.lst (a ++ b))) post
    exact .inr (.inr (.inl ⟨p, q, vs, ws, rfl, rfl, hp, hq, by rw [hl.len, hm.len]; exact sz h, fun r hr => post.newL s (hl.append hm) hr⟩))
  case tup.tup a b =>
    obtain ⟨p, vs, rfl, hp, hl⟩ := hv.tup s
    obtain ⟨q, ws, rfl, hq, hm⟩ := hw.tup s
    obtain ⟨h, post⟩ := RPost.cond (a ≠ [] ∧ b ≠ [] ∧ a.length + b.length ≤ 1000000) (.val .P (.tup (a ++ b))) post
    obtain ⟨h1, h2, h3⟩ := h
    have n1 : vs ≠ [] := fun z => h1 (by have := hl.len; subst z; exact List.length_eq_zero_iff.mp this.symm)
    have n2 : ws ≠ [] := fun z => h2 (by have := hm.len; subst z; exact List.length_eq_zero_iff.mp this.symm)
    exact .inr (.inr (.inr ⟨p, q, vs, ws, rfl, rfl, hp, hq, n1, by rw [hl.len, hm.len]; exact sz h3, fun z => absurd z n2, fun _ r hr => post.newT s (hl.append hm) hr⟩))
/-! - -/
def oSub : D → D → ER
  | .int i, .int j => .val .P (.int (i - j))
  | _, _ => .bad
theorem d_sub {G : Gm} : DOp G (rI0 fun i j => .int (i - j)) oSub := by
  intro W σ Hf H v w d d' s hv hw Q post
  cases d <;> cases d' <;> try exact post.elim
  obtain rfl := hv.int; obtain rfl := hw.int
  exact ⟨_, _, rfl, rfl, post.now s (.int _)⟩
/-! * -/
theorem IsL.rep {G : Gm} {H : Hp} {vs : List V} {l : List D} (h : IsL G H vs l) : ∀ n : Nat, IsL G H (List.replicate n vs).flatten (List.replicate n l).flatten
  | 0 => .nil
  | n + 1 => by
    rw [List.replicate_succ, List.replicate_succ, List.flatten_cons, List.flatten_cons]
    exact h.append (IsL.rep h n)
def oMul : D → D → ER
  | .int i, .int j => if i.natAbs.log2 + j.natAbs.log2 < 1000000 then .val .P (.int (i * j)) else .bad
  | .lst a, .int k => if -(2 ^ 63) ≤ k ∧ k < 2 ^ 63 ∧ a.length * k.toNat ≤ 1000000 then .val .N (.lst (List.replicate k.toNat a).flatten) else .bad
  | _, _ => .bad
abbrev rMulA : R2 := rOr (rI CMulW fun i j => .int (i * j)) rRep
theorem or_mul {X : Cx} : OpR X (binaryOp .Mult) rMulA := opOr op_mulW op_rep
theorem d_mul {G : Gm} : DOp G rMulA oMul := by
  intro W σ Hf H v w d d' s hv hw Q post
  cases d <;> cases d' <;> try exact post.elim
  case int.int i j =>
    obtain rfl := hv.int; obtain rfl := hw.int
    obtain ⟨h, post⟩ := RPost.cond (i.natAbs.log2 + j.natAbs.log2 < 1000000) (.val .P (.int (i * j))) post
    exact .inl ⟨_, _, rfl, rfl, h, post.now s (.int _)⟩
  case lst.int a k =>
    obtain ⟨p, vs, rfl, hp, hl⟩ := hv.lst s
    obtain rfl := hw.int
    obtain ⟨h, post⟩ := RPost.cond (-(2 ^ 63) ≤ k ∧ k < 2 ^ 63 ∧ a.length * k.toNat ≤ 1000000) (.val .N (.lst (List.replicate k.toNat a).flatten)) post
    exact .inr ⟨p, k, vs, rfl, rfl, hp, h.1, h.2.1, by rw [hl.len]; exact sz h.2.2, fun r hr => post.newL s (hl.rep _) hr⟩
/-! // -/
def oDiv : D → D → ER
  | .int i, .int j => if j ≠ 0 ∧ j.natAbs.log2 < 9000 then .val .P (.int (i.fdiv j)) else .bad
  | _, _ => .bad
theorem or_div {X : Cx} : OpR X (binaryOp .FloorDiv) (rI (fun _ j => j ≠ 0 ∧ j.natAbs.log2 < 9000) fun i j => .int (i.fdiv j)) := opI fun i j _ _ _ _ _ hc q => floordiv_int hc.1 q (.inl (PyProof.noPylong_of_log2 hc.2))
theorem d_div {G : Gm} : DOp G (rI (fun _ j => j ≠ 0 ∧ j.natAbs.log2 < 9000) fun i j => .int (i.fdiv j)) oDiv := by
  intro W σ Hf H v w d d' s hv hw Q post
  cases d <;> cases d' <;> try exact post.elim
  rename_i i j
  obtain rfl := hv.int; obtain rfl := hw.int
  obtain ⟨h, post⟩ := RPost.cond (j ≠ 0 ∧ j.natAbs.log2 < 9000) (.val .P (.int (i.fdiv j))) post
  exact ⟨_, _, rfl, rfl, h, post.now s (.int _)⟩
/-! % -/
def oMod : D → D → ER
  | .int i, .int j => if j ≠ 0 then .val .P (.int (i.fmod j)) else .bad
  | _, _ => .bad
theorem d_mod {G : Gm} : DOp G (rI (fun _ j => j ≠ 0) fun i j => .int (i.fmod j)) oMod := by
  intro W σ Hf H v w d d' s hv hw Q post
  cases d <;> cases d' <;> try exact post.elim
  rename_i i j
  obtain rfl := hv.int; obtain rfl := hw.int
  obtain ⟨h, post⟩ := RPost.cond (j ≠ 0) (.val .P (.int (i.fmod j))) post
  exact ⟨_, _, rfl, rfl, h, post.now s (.int _)⟩
/-! ** -/
def oPow : D → D → ER
  | .int i, .int j => if 0 ≤ j ∧ j ≤ 1000000 ∧ i.natAbs < 2 ^ 64 then .val .P (.int (i ^ j.toNat)) else .bad
  | _, _ => .bad
theorem d_pow {G : Gm} : DOp G (rI CPow fun i j => .int (i ^ j.toNat)) oPow := by
  intro W σ Hf H v w d d' s hv hw Q post
  cases d <;> cases d' <;> try exact post.elim
  rename_i i j
  obtain rfl := hv.int; obtain rfl := hw.int
  obtain ⟨h, post⟩ := RPost.cond (0 ≤ j ∧ j ≤ 1000000 ∧ i.natAbs < 2 ^ 64) (.val .P (.int (i ^ j.toNat))) post
  exact ⟨_, _, rfl, rfl, h, post.now s (.int _)⟩
/-! order -/
def oCmp (p : Int → Int → Bool) : D → D → ER
  | .int i, .int j => .val .P (.bl (p i j))
  | _, _ => .bad
theorem d_cmp {G : Gm} {p : Int → Int → Bool} : DOp G (rI0 fun i j => .bl (p i j)) (oCmp p) := by
  intro W σ Hf H v w d d' s hv hw Q post
  cases d <;> cases d' <;> try exact post.elim
  obtain rfl := hv.int; obtain rfl := hw.int
  exact ⟨_, _, rfl, rfl, post.now s (.bl _)⟩
abbrev oLt := oCmp fun i j => decide (i < j)
abbrev oLe := oCmp fun i j => decide (i ≤ j)
abbrev oGt := oCmp fun i j => decide (j < i)
abbrev oGe := oCmp fun i j => decide (j ≤ i)
theorem d_lt {G : Gm} : DOp G (rI0 fun i j => .bl (decide (i < j))) oLt := d_cmp
theorem d_le {G : Gm} : DOp G (rI0 fun i j => .bl (decide (i ≤ j))) oLe := d_cmp
theorem d_gt {G : Gm} : DOp G (rI0 fun i j => .bl (decide (j < i))) oGt := d_cmp
theorem d_ge {G : Gm} : DOp G (rI0 fun i j => .bl (decide (j ≤ i))) oGe := d_cmp
/-! ### ==, != -/
mutual
def py : D → PyData
  | .non => .none
  | .bl b => .bool b
  | .int i => .int i
  | .str x => .str x
  | .tup l => .tuple (pyL l)
  | .lst l => .list (pyL l)
  | .obj _ _ => .none
  | .scr _ => .none
def pyL : List D → List PyData
  | [] => []
  | d :: l => py d :: pyL l
end
mutual
def isPy : D → Bool
  | .non | .bl _ | .int _ | .str _ => true
  | .tup l => isPyL l
  | .lst l => isPyL l
  | .obj _ _ => false
  | .scr _ => false
def isPyL : List D → Bool
  | [] => true
  | d :: l => isPy d && isPyL l
end
mutual
theorem dp_of {G : Gm} {H : Hp} : ∀ (d : D) {v : V}, isPy d = true → Is G H v d → Dp G.K H v (py d)
  | .non, _, _, h => by cases h; exact .non
  | .bl _, _, _, h => by cases h; exact .bl _
  | .int _, _, _, h => by cases h; exact .int _
  | .str _, _, _, h => by cases h; exact .str _
  | .tup l, _, q, h => by cases h with | tup a b => exact .tup a (dpL_of l (by simpa [isPy] using q) b)
  | .lst l, _, q, h => by cases h with | lst a b => exact .lst (SqL.of a) (dpL_of l (by simpa [isPy] using q) b)
  | .obj _ _, _, q, _ => by simp [isPy] at q
  | .scr _, _, q, _ => by simp [isPy] at q
theorem dpL_of {G : Gm} {H : Hp} : ∀ (l : List D) {vs : List V}, isPyL l = true → IsL G H vs l → DpAll G.K H vs (pyL l)
  | [], _, _, h => by cases h; exact .nil
  | d :: l, _, q, h => by
    cases h with
    | cons a b =>
      have q' : isPy d = true ∧ isPyL l = true := by simpa [isPyL] using q
      exact .cons (dp_of d q'.1 a) (dpL_of l q'.2 b)
end
/-- the flat data that == tells apart as data -/
def scalD : D → D → Bool
  | .non, .non | .non, .int _ | .int _, .non | .non, .bl _ | .bl _, .non | .non, .str _ | .str _, .non => true
  | .int _, .int _ | .bl _, .bl _ | .str _, .str _ | .int _, .str _ | .str _, .int _ | .bl _, .str _ | .str _, .bl _ => true
  | _, _ => false
def eqF : D → D → Bool
  | .non, .non => true
  | .int i, .int j => decide (i = j)
  | .bl i, .bl j => decide (i = j)
  | .str i, .str j => decide (i = j)
  | _, _ => false
def eqAny (a b : D) : Option Bool :=
  if scalD a b = true then some (eqF a b)
  else if isPy a = true ∧ isPy b = true ∧ SeqAt.shaped (py a) = true ∧ SeqAt.shaped (py b) = true then some (PyData.eqv (py a) (py b))
  else none
def oEq (a b : D) : ER := match eqAny a b with | some r => .val .P (.bl r) | none => .bad
def oNe (a b : D) : ER := match eqAny a b with | some r => .val .P (.bl (!r)) | none => .bad
abbrev rEqA (K : PySem.W.Frag) : R2 := rOr rEq (rEqD K)
abbrev rNeA (K : PySem.W.Frag) : R2 := rOr rNe (rNeD K)
theorem or_eq {X : Cx} (hu : X.A.units + 64 < cLine) : OpR X (compareOp .Eq) (rEqA X.K) := opOr op_eq (op_eqD hu)
theorem or_ne {X : Cx} (hu : X.A.units + 64 < cLine) : OpR X (compareOp .NotEq) (rNeA X.K) := opOr op_ne (op_neD hu)
theorem scal_of {G : Gm} {Hf H : Hp} {v w : V} {a b : D} (h : scalD a b = true) (hv : U G Hf H v a) (hw : U G Hf H w b) : scal v w = true ∧ decide (v = w) = eqF a b := by
  cases a <;> cases b <;> simp only [scalD] at h <;> first
    | (exact absurd h Bool.false_ne_true)
    | skip
  all_goals (first | obtain rfl := hv.int | obtain rfl := hv.str | obtain rfl := hv.bl | obtain rfl := hv.non)
  all_goals (first | obtain rfl := hw.int | obtain rfl := hw.str | obtain rfl := hw.bl | obtain rfl := hw.non)
  all_goals (refine ⟨rfl, ?_⟩; simp [eqF])
theorem d_eq {G : Gm} : DOp G (rEqA G.K) oEq := by
  intro W σ Hf H v w d d' s hv hw Q post
  unfold oEq eqAny at post
  by_cases h : scalD d d' = true
  · obtain ⟨h1, h2⟩ := scal_of h hv hw
    rw [if_pos h] at post
    exact .inl ⟨h1, by rw [h2]; exact post.now s (.bl _)⟩
  · rw [if_neg h] at post
    split at post
    · rename_i r hr
      split at hr
      · rename_i q
        cases hr
        exact .inr ⟨py d, py d', dp_of d q.1 (hv.is s), dp_of d' q.2.1 (hw.is s), q.2.2.1, q.2.2.2, post.now s (.bl _)⟩
      · cases hr
    · exact post.elim
theorem d_ne {G : Gm} : DOp G (rNeA G.K) oNe := by
  intro W σ Hf H v w d d' s hv hw Q post
  unfold oNe eqAny at post
  by_cases h : scalD d d' = true
  · obtain ⟨h1, h2⟩ := scal_of h hv hw
    rw [if_pos h] at post
    exact .inl ⟨h1, by rw [h2]; exact post.now s (.bl _)⟩
  · rw [if_neg h] at post
    split at post
    · rename_i r hr
      split at hr
      · rename_i q
        cases hr
        exact .inr ⟨py d, py d', dp_of d q.1 (hv.is s), dp_of d' q.2.1 (hw.is s), q.2.2.1, q.2.2.2, post.now s (.bl _)⟩
      · cases hr
    · exact post.elim
/-! ### a[i] -/
def oIx : D → D → ER
  | .lst l, .int i => ofOpt (atI l i) fun d => .val .P d
  | .tup l, .int i => ofOpt (atI l i) fun d => .val .P d
  | .scr l, .int i => ofOpt (atI l i) fun d => .val .P (.int d)
  | .str z, .int i => if z.length ≤ 1000000 then (ofOpt (atI z.cps.toList i) fun c => .val .P (.str ⟨#[c]⟩)) else .bad
  | _, _ => .bad
theorem atI_L {G : Gm} {H : Hp} {vs : List V} {l : List D} {i : Int} {d : D} (h : IsL G H vs l) (e : atI l i = some d) : ∃ v, atI vs i = some v ∧ Is G H v d := by
  unfold atI at e ⊢
  rw [h.len]
  cases q : ixN l.length i with
  | none => rw [q] at e; cases e
  | some j =>
    rw [q] at e
    exact h.get e
theorem atI_map {l : List Int} {i : Int} {d : Int} (e : atI l i = some d) : atI (l.map V.int) i = some (V.int d) := by
  unfold atI at e ⊢
  rw [List.length_map]
  cases q : ixN l.length i with
  | none => rw [q] at e; cases e
  | some j =>
    rw [q] at e
    have e' : l[j]? = some d := e
    show (l.map V.int)[j]? = some (V.int d)
    rw [List.getElem?_map, e']
    rfl
theorem d_ix {G : Gm} : DOp G (rIx G.K) oIx := by
  intro W σ Hf H v w d d' s hv hw Q post
  cases d <;> cases d' <;> try exact post.elim
  case lst.int l i =>
    obtain ⟨p, vs, rfl, hp, hl⟩ := hv.lst s
    obtain rfl := hw.int
    obtain ⟨y, q, post⟩ := RPost.opt (atI l i) (fun d => .val .P d) post
    obtain ⟨x, h1, h2⟩ := atI_L hl q
    exact .inl ⟨p, vs, i, x, rfl, rfl, SqL.of hp, h1, post.now s h2⟩
  case tup.int l i =>
    obtain ⟨p, vs, rfl, hp, hl⟩ := hv.tup s
    obtain rfl := hw.int
    obtain ⟨y, q, post⟩ := RPost.opt (atI l i) (fun d => .val .P d) post
    obtain ⟨x, h1, h2⟩ := atI_L hl q
    exact .inr (.inl ⟨p, vs, i, x, rfl, rfl, hp, h1, post.now s h2⟩)
  case scr.int l i =>
    obtain ⟨p, rfl, hp⟩ := hv.scr s
    obtain rfl := hw.int
    obtain ⟨y, q, post⟩ := RPost.opt (atI l i) (fun d => .val .P (.int d)) post
    exact .inl ⟨p, _, i, _, rfl, rfl, hp, atI_map q, post.now s (.int _)⟩
  case str.int z i =>
    obtain rfl := hv.str; obtain rfl := hw.int
    obtain ⟨h, post⟩ := RPost.cond (z.length ≤ 1000000) (ofOpt (atI z.cps.toList i) fun c => .val .P (.str ⟨#[c]⟩)) post
    obtain ⟨c, q, post⟩ := RPost.opt (atI z.cps.toList i) (fun c => .val .P (.str ⟨#[c]⟩)) post
    exact .inr (.inr ⟨z, i, c, rfl, rfl, sz h, q, post.now s (.str _)⟩)
/-! ### expressions -/
section
variable {G : Gm} {W : WX}
def dVar (i : Nat) : DE → ER := fun e => match e[i]? with
  | some (.val d) => .val .P d
  | some (.own l) => .val .B (.lst l)
  | _ => .bad
theorem v_var {i : Nat} : DEv G W (tVar i) (dVar i) := by
  intro F0 H0 Hf H σ e E Q post
  unfold dVar at post
  split at post
  · rename_i d q
    obtain ⟨o, h1, v, rfl, h2⟩ := E.slot q
    exact ⟨v, h1, post.now E.s h2⟩
  · rename_i l q
    obtain ⟨o, h1, p, vs, rfl, a, b, c, d⟩ := E.slot q
    exact ⟨_, h1, post Hf H _ (Gro.refl E.s) ⟨p, vs, l, rfl, rfl, c, d⟩⟩
  · exact post.elim
def dC (d : D) : DE → ER := fun _ => .val .P d
theorem v_int {n : Int} : DEv G W (tC (.int n)) (dC (.int n)) := fun _ _ _ _ _ _ E _ post => post.now E.s (.int _)
theorem v_str {n : Str} : DEv G W (tC (.str n)) (dC (.str n)) := fun _ _ _ _ _ _ E _ post => post.now E.s (.str _)
theorem v_bl {n : Bool} : DEv G W (tC (.bl n)) (dC (.bl n)) := fun _ _ _ _ _ _ E _ post => post.now E.s (.bl _)
theorem v_non : DEv G W (tC .non) (dC .non) := fun _ _ _ _ _ _ E _ post => post.now E.s .non
def dOp (o : D → D → ER) (f g : DE → ER) : DE → ER := fun e => (f e).bind fun x => (g e).bind fun y => o x y
theorem v_op {r : R2} {o : D → D → ER} {ta tb : TE} {f g : DE → ER} (hr : DOp G r o) (ha : DEv G W ta f) (hb : DEv G W tb g) : DEv G W (tOp r ta tb) (dOp o f g) := by
  intro F0 H0 Hf H σ e E Q post
  refine ha F0 H0 Hf H σ e E _ (RPost.bind post fun m d Hf1 H1 v g1 o1 p1 => ?_)
  refine hb F0 H0 Hf1 H1 σ e (E.up g1) _ (RPost.bind p1 fun m2 d2 Hf2 H2 w g2 o2 p2 => ?_)
  exact hr W σ Hf2 H2 v w d d2 g2.s ((o1.up g2).u) o2.u Q p2
/-- one-place operations by values -/
def DUn (G : Gm) (r : V → Hp → VK → Prop) (o : D → ER) : Prop :=
  ∀ (W : WX) (σ : L2.St) (Hf H : Hp) (v : V) (d : D), Same Hf H → U G Hf H v d → ∀ Q : VK, RPost G W Hf H σ Q (o d) → r v H Q
def dUn (o : D → ER) (f : DE → ER) : DE → ER := fun e => (f e).bind o
theorem v_un {r : V → Hp → VK → Prop} {o : D → ER} {ta : TE} {f : DE → ER} (hr : DUn G r o) (ha : DEv G W ta f) : DEv G W (tUn r ta) (dUn o f) := by
  intro F0 H0 Hf H σ e E Q post
  refine ha F0 H0 Hf H σ e E _ (RPost.bind post fun m d Hf1 H1 v g1 o1 p1 => ?_)
  exact hr W σ Hf1 H1 v d g1.s o1.u Q p1
def oNeg : D → ER
  | .int i => .val .P (.int (-i))
  | _ => .bad
theorem d_neg : DUn G (rU fun i => .int (-i)) oNeg := by
  intro W σ Hf H v d s hv Q post
  cases d <;> try exact post.elim
  obtain rfl := hv.int
  exact ⟨_, rfl, post.now s (.int _)⟩
/-! tests -/
def TPost (G : Gm) (W : WX) (Hf H : Hp) (σ : L2.St) (Q : Bool → Hp → Prop) : ER → Prop
  | .val _ (.bl b) => ∀ Hf' H', Gro Hf H Hf' H' → Q b H'
  | .exc c l => ∀ Hf' H' x, Gro Hf H Hf' H' → ExcOk G Hf' c l x → W (.ref (G.ca c)) x σ H'
  | _ => False
def DTt (G : Gm) (W : WX) (tt : TT) (f : DE → ER) : Prop :=
  ∀ F0 H0 Hf H σ e, EnvOk G F0 H0 Hf H σ e → ∀ Q : Bool → Hp → Prop, TPost G W Hf H σ Q (f e) → tt σ H Q
theorem TPost.step {Hf H Hf1 H1 : Hp} {σ : L2.St} {Q : Bool → Hp → Prop} {r : ER} (g : Gro Hf H Hf1 H1) (h : TPost G W Hf H σ Q r) : TPost G W Hf1 H1 σ Q r := by
  cases r with
  | val m d =>
    cases d <;> first | exact h.elim | skip
    exact fun Hf' H' g' => h Hf' H' (g.trans g')
  | exc c l => exact fun Hf' H' x g' o => h Hf' H' x (g.trans g') o
  | bad => exact h
def ER.bindB (r : ER) (k : Bool → ER) : ER := match r with
  | .val _ (.bl b) => k b
  | .exc c l => .exc c l
  | _ => .bad
@[simp] theorem ER.bindB_val (m : Md) (b : Bool) (k : Bool → ER) : (ER.val m (.bl b)).bindB k = k b := rfl
@[simp] theorem ER.bindB_exc (c : Nat) (l : List D) (k : Bool → ER) : (ER.exc c l).bindB k = .exc c l := rfl
@[simp] theorem ER.bindB_bad (k : Bool → ER) : ER.bad.bindB k = .bad := rfl
theorem t_val {te : TE} {f : DE → ER} (h : DEv G W te f) : DTt G W (tB te) f := by
  intro F0 H0 Hf H σ e E Q post
  refine h F0 H0 Hf H σ e E _ ?_
  cases q : f e with
  | val m d =>
    rw [q] at post
    intro Hf' H' v g o
    cases d <;> first | exact post.elim | skip
    obtain rfl := o.u.bl
    exact ⟨_, rfl, post Hf' H' g⟩
  | exc c l => rw [q] at post; exact post
  | bad => rw [q] at post; exact post
theorem t_test {te : TE} {f : DE → ER} (h : DEv G W te f) : DTt G W (tTest te) f := t_val h
theorem TPost.bindB {Hf H : Hp} {σ : L2.St} {Q Q' : Bool → Hp → Prop} {r : ER} {k : Bool → ER} (h : TPost G W Hf H σ Q (r.bindB k)) (hk : ∀ b Hf' H', Gro Hf H Hf' H' → TPost G W Hf' H' σ Q (k b) → Q' b H') : TPost G W Hf H σ Q' r := by
  cases r with
  | val m d =>
    cases d <;> first | exact h.elim | skip
    exact fun Hf' H' g => hk _ Hf' H' g (TPost.step g h)
  | exc c l => exact h
  | bad => exact h
def dAnd (f g : DE → ER) : DE → ER := fun e => (f e).bindB fun b => if b = true then g e else .val .P (.bl false)
def dOr (f g : DE → ER) : DE → ER := fun e => (f e).bindB fun b => if b = true then .val .P (.bl true) else g e
def dNot (f : DE → ER) : DE → ER := fun e => (f e).bindB fun b => .val .P (.bl (!b))
theorem TPost.of {Hf H : Hp} {σ : L2.St} {Q : Bool → Hp → Prop} {b : Bool} (s : Same Hf H) (h : TPost G W Hf H σ Q (.val .P (.bl b))) : Q b H := h Hf H (Gro.refl s)
theorem t_and {t u : TT} {f g : DE → ER} (ht : DTt G W t f) (hu : DTt G W u g) : DTt G W (tAnd t u) (dAnd f g) := by
  intro F0 H0 Hf H σ e E Q post
  refine ht F0 H0 Hf H σ e E _ (TPost.bindB post fun b Hf1 H1 g1 p1 => ?_)
  cases b with
  | true => exact iteT (hu F0 H0 Hf1 H1 σ e (E.up g1) Q p1)
  | false => exact iteF (p1.of g1.s)
theorem t_or {t u : TT} {f g : DE → ER} (ht : DTt G W t f) (hu : DTt G W u g) : DTt G W (tOr t u) (dOr f g) := by
  intro F0 H0 Hf H σ e E Q post
  refine ht F0 H0 Hf H σ e E _ (TPost.bindB post fun b Hf1 H1 g1 p1 => ?_)
  cases b with
  | false => exact iteF (hu F0 H0 Hf1 H1 σ e (E.up g1) Q p1)
  | true => exact iteT (p1.of g1.s)
theorem t_not {t : TT} {f : DE → ER} (ht : DTt G W t f) : DTt G W (tNot t) (dNot f) := by
  intro F0 H0 Hf H σ e E Q post
  exact ht F0 H0 Hf H σ e E _ (TPost.bindB post fun b Hf1 H1 g1 p1 => p1.of g1.s)
/-! bools as values -/
theorem RPost.bindB {Hf H : Hp} {σ : L2.St} {Q Q' : VK} {r : ER} {k : Bool → ER} (h : RPost G W Hf H σ Q (r.bindB k))
    (hk : ∀ b Hf' H', Gro Hf H Hf' H' → RPost G W Hf' H' σ Q (k b) → Q' (.bl b) H') : RPost G W Hf H σ Q' r := by
  cases r with
  | val m d =>
    cases d <;> first | exact h.elim | skip
    intro Hf' H' v g o
    obtain rfl := o.u.bl
    exact hk _ Hf' H' g (RPost.step g h)
  | exc c l => exact h
  | bad => exact h
theorem v_and {ta tb : TE} {f g : DE → ER} (ha : DEv G W ta f) (hb : DEv G W tb g) : DEv G W (tAndV ta tb) (dAnd f g) := by
  intro F0 H0 Hf H σ e E Q post
  refine ha F0 H0 Hf H σ e E _ (RPost.bindB post fun b Hf1 H1 g1 p1 => ?_)
  cases b with
  | true => exact ⟨true, rfl, iteT (hb F0 H0 Hf1 H1 σ e (E.up g1) Q p1)⟩
  | false => exact ⟨false, rfl, iteF (p1.now g1.s (.bl _))⟩
theorem v_or {ta tb : TE} {f g : DE → ER} (ha : DEv G W ta f) (hb : DEv G W tb g) : DEv G W (tOrV ta tb) (dOr f g) := by
  intro F0 H0 Hf H σ e E Q post
  refine ha F0 H0 Hf H σ e E _ (RPost.bindB post fun b Hf1 H1 g1 p1 => ?_)
  cases b with
  | false => exact ⟨false, rfl, iteF (hb F0 H0 Hf1 H1 σ e (E.up g1) Q p1)⟩
  | true => exact ⟨true, rfl, iteT (p1.now g1.s (.bl _))⟩
theorem v_not {ta : TE} {f : DE → ER} (ha : DEv G W ta f) : DEv G W (tNotV ta) (dNot f) := by
  intro F0 H0 Hf H σ e E Q post
  exact ha F0 H0 Hf H σ e E _ (RPost.bindB post fun b Hf1 H1 g1 p1 => ⟨b, rfl, p1.now g1.s (.bl _)⟩)
/-! a if t else b -/
def dIf (c f g : DE → ER) : DE → ER := fun e => (c e).bindB fun b => if b = true then f e else g e
/-- a test ahead of an expression -/
theorem TPost.thenR {Hf H : Hp} {σ : L2.St} {Q : VK} {Q' : Bool → Hp → Prop} {r : ER} {k : Bool → ER} (h : RPost G W Hf H σ Q (r.bindB k)) (hk : ∀ b Hf' H', Gro Hf H Hf' H' → RPost G W Hf' H' σ Q (k b) → Q' b H') : TPost G W Hf H σ Q' r := by
  cases r with
  | val m d =>
    cases d <;> first | exact h.elim | skip
    exact fun Hf' H' g => hk _ Hf' H' g (RPost.step g h)
  | exc c l => exact h
  | bad => exact h
theorem v_if {t : TT} {ta tb : TE} {c f g : DE → ER} (ht : DTt G W t c) (ha : DEv G W ta f) (hb : DEv G W tb g) : DEv G W (tIf t ta tb) (dIf c f g) := by
  intro F0 H0 Hf H σ e E Q post
  refine ht F0 H0 Hf H σ e E _ (TPost.thenR post fun b Hf1 H1 g1 p1 => ?_)
  cases b with
  | true => exact iteT (ha F0 H0 Hf1 H1 σ e (E.up g1) Q p1)
  | false => exact iteF (hb F0 H0 Hf1 H1 σ e (E.up g1) Q p1)
/-! a op b op' c -/
def dChain (o o' : D → D → ER) (f g h : DE → ER) : DE → ER := fun e => (f e).bind fun x => (g e).bind fun y => (o x y).bindB fun b => if b = true then (h e).bind fun z => o' y z else .val .P (.bl false)
theorem v_chain {r r' : R2} {o o' : D → D → ER} {ta tb tc : TE} {f g h : DE → ER} (hr : DOp G r o) (hr' : DOp G r' o') (ha : DEv G W ta f) (hb : DEv G W tb g) (hc : DEv G W tc h) : DEv G W (tChain r r' ta tb tc) (dChain o o' f g h) := by
  intro F0 H0 Hf H σ e E Q post
  refine ha F0 H0 Hf H σ e E _ (RPost.bind post fun m d Hf1 H1 v g1 o1 p1 => ?_)
  refine hb F0 H0 Hf1 H1 σ e (E.up g1) _ (RPost.bind p1 fun m2 d2 Hf2 H2 w g2 o2 p2 => ?_)
  refine hr W σ Hf2 H2 v w d d2 g2.s ((o1.up g2).u) o2.u _ (RPost.bindB p2 fun b Hf3 H3 g3 p3 => ?_)
  cases b with
  | false => exact ⟨false, rfl, iteF (p3.now g3.s (.bl _))⟩
  | true =>
    refine ⟨true, rfl, iteT ?_⟩
    refine hc F0 H0 Hf3 H3 σ e (((E.up g1).up g2).up g3) _ (RPost.bind p3 fun m4 d4 Hf4 H4 u g4 o4 p4 => ?_)
    exact hr' W σ Hf4 H4 w u d2 d4 g4.s (((o2.up g3).up g4).u) o4.u Q p4
end
end Dn
namespace Dn
open PySem PySem.Spec PyProof.Rows L2
/-! ### arguments -/
inductive UL (G : Gm) (Hf H : Hp) : List V → List D → Prop
  | nil : UL G Hf H [] []
  | cons {v : V} {vs : List V} {d : D} {ds : List D} : U G Hf H v d → UL G Hf H vs ds → UL G Hf H (v :: vs) (d :: ds)
theorem IsL.ul {G : Gm} {Hf H : Hp} : ∀ {ds : List D} {vs : List V}, IsL G Hf vs ds → UL G Hf H vs ds
  | [], _, h => by cases h; exact .nil
  | d :: ds, _, h => by cases h with | cons a b => exact .cons (.inl a) b.ul
theorem UL.is {G : Gm} {Hf H : Hp} (s : Same Hf H) : ∀ {ds : List D} {vs : List V}, UL G Hf H vs ds → IsL G H vs ds
  | [], _, h => by cases h; exact .nil
  | d :: ds, _, h => by cases h with | cons a b => exact .cons (a.is s) (UL.is s b)
inductive AR where | ok (p : Bool) (l : List D) | exc (c : Nat) (l : List D) | bad
def APost (G : Gm) (W : WX) (Hf H : Hp) (σ : L2.St) (Q : List V → Hp → Prop) : AR → Prop
  | .ok true l => ∀ Hf' H' vs, Gro Hf H Hf' H' → IsL G Hf' vs l → Q vs H'
  | .ok false l => ∀ Hf' H' vs, Gro Hf H Hf' H' → UL G Hf' H' vs l → Q vs H'
  | .exc c l => ∀ Hf' H' x, Gro Hf H Hf' H' → ExcOk G Hf' c l x → W (.ref (G.ca c)) x σ H'
  | .bad => False
theorem APost.step {G : Gm} {W : WX} {Hf H Hf1 H1 : Hp} {σ : L2.St} {Q : List V → Hp → Prop} {r : AR} (g : Gro Hf H Hf1 H1) (h : APost G W Hf H σ Q r) : APost G W Hf1 H1 σ Q r := by
  cases r with
  | ok p l => cases p <;> exact fun Hf' H' v g' o => h Hf' H' v (g.trans g') o
  | exc c l => exact fun Hf' H' x g' o => h Hf' H' x (g.trans g') o
  | bad => exact h
def AR.cons (p : Bool) (d : D) : AR → AR
  | .ok q l => .ok (p && q) (d :: l)
  | .exc c l => .exc c l
  | .bad => .bad
def ER.cons (r : ER) (a : AR) : AR := match r with
  | .val .B d => a.cons false d
  | .val _ d => a.cons true d
  | .exc c l => .exc c l
  | .bad => .bad
def DAr (G : Gm) (W : WX) (ta : TA) (f : DE → AR) : Prop :=
  ∀ F0 H0 Hf H σ e, EnvOk G F0 H0 Hf H σ e → ∀ Q : List V → Hp → Prop, APost G W Hf H σ Q (f e) → ta σ H Q
section
variable {G : Gm} {W : WX}
def aNil : DE → AR := fun _ => .ok true []
theorem a_nil : DAr G W tNil aNil := fun _ _ _ _ _ _ E _ post => post _ _ _ (Gro.refl E.s) .nil
def aCons (f : DE → ER) (g : DE → AR) : DE → AR := fun e => (f e).cons (g e)
theorem APost.consP {Hf H : Hp} {σ : L2.St} {Q : List V → Hp → Prop} {d : D} {v : V} {a : AR} (h : APost G W Hf H σ Q (a.cons true d)) (hv : Is G Hf v d) : APost G W Hf H σ (fun xs H2 => Q (v :: xs) H2) a := by
  cases a with
  | ok p l =>
    cases p with
    | true => exact fun Hf' H' vs g q => h Hf' H' (v :: vs) g (.cons (hv.up g.f) q)
    | false => exact fun Hf' H' vs g q => h Hf' H' (v :: vs) g (.cons (.inl (hv.up g.f)) q)
  | exc c l => exact h
  | bad => exact h
theorem APost.consB {Hf H : Hp} {σ : L2.St} {Q : List V → Hp → Prop} {d : D} {v : V} {a : AR} (h : APost G W Hf H σ Q (a.cons false d)) (hv : U G Hf H v d) : APost G W Hf H σ (fun xs H2 => Q (v :: xs) H2) a := by
  cases a with
  | ok p l =>
    cases p with
    | true => exact fun Hf' H' vs g q => h Hf' H' (v :: vs) g (.cons (hv.up g) q.ul)
    | false => exact fun Hf' H' vs g q => h Hf' H' (v :: vs) g (.cons (hv.up g) q)
  | exc c l => exact h
  | bad => exact h
theorem a_cons {te : TE} {tr : TA} {f : DE → ER} {g : DE → AR} (ha : DEv G W te f) (hr : DAr G W tr g) : DAr G W (tCons te tr) (aCons f g) := by
  intro F0 H0 Hf H σ e E Q post
  refine ha F0 H0 Hf H σ e E _ ?_
  unfold aCons at post
  cases q : f e with
  | val m d =>
    rw [q] at post
    intro Hf1 H1 v g1 o1
    cases m with
    | P => exact hr F0 H0 Hf1 H1 σ e (E.up g1) _ (APost.consP (APost.step g1 post) o1)
    | B => exact hr F0 H0 Hf1 H1 σ e (E.up g1) _ (APost.consB (APost.step g1 post) o1.u)
    | N =>
      obtain ⟨Hf2, g2, _, _, i2⟩ := o1.freeze g1 (by decide)
      exact hr F0 H0 Hf2 H1 σ e (E.up g2) _ (APost.consP (APost.step g2 post) i2)
  | exc c l => rw [q] at post; exact post
  | bad => rw [q] at post; exact post
/-! displays -/
def dTup (f : DE → AR) : DE → ER := fun e => match f e with
  | .ok true l => if l.length ≤ 1000000 then .val .P (.tup l) else .bad
  | .exc c l => .exc c l
  | _ => .bad
theorem v_tup {ta : TA} {f : DE → AR} (h : DAr G W ta f) : DEv G W (tTup ta) (dTup f) := by
  intro F0 H0 Hf H σ e E Q post
  refine h F0 H0 Hf H σ e E _ ?_
  unfold dTup at post
  cases q : f e with
  | ok p l =>
    rw [q] at post
    cases p with
    | false => exact post.elim
    | true =>
      obtain ⟨c, post⟩ := RPost.cond _ _ post
      exact fun Hf1 H1 vs g1 i1 => ⟨by rw [i1.len]; exact sz c, fun p hp => (RPost.step g1 post).newT g1.s i1 hp⟩
  | exc c l => rw [q] at post; exact post
  | bad => rw [q] at post; exact post
def dLst (f : DE → AR) : DE → ER := fun e => match f e with
  | .ok true l => if l.length ≤ 1000000 then .val .N (.lst l) else .bad
  | .exc c l => .exc c l
  | _ => .bad
theorem v_lst {ta : TA} {f : DE → AR} (h : DAr G W ta f) : DEv G W (tLst ta) (dLst f) := by
  intro F0 H0 Hf H σ e E Q post
  refine h F0 H0 Hf H σ e E _ ?_
  unfold dLst at post
  cases q : f e with
  | ok p l =>
    rw [q] at post
    cases p with
    | false => exact post.elim
    | true =>
      obtain ⟨c, post⟩ := RPost.cond _ _ post
      exact fun Hf1 H1 vs g1 i1 => ⟨by rw [i1.len]; exact sz c, fun p hp => (RPost.step g1 post).newL g1.s i1 hp⟩
  | exc c l => rw [q] at post; exact post
  | bad => rw [q] at post; exact post
/-! ### calls of defs -/
/-- the promise of a def: it is the function F of data -/
def spF (G : Gm) (F : List D → ER) : Sp := fun vs H Q E => ∃ Hf ds, Same Hf H ∧ IsL G Hf vs ds ∧ RPost G (fun c x _ H' => E c x H') Hf H [] Q (F ds)
def ER.flatOnly : ER → ER
  | .val _ d => if flat d = true then .val .P d else .bad
  | .exc c [] => .exc c []
  | _ => .bad
def dCall (F : List D → ER) (f : DE → AR) : DE → ER := fun e => match f e with
  | .ok true l => F l
  | .ok false l => (F l).flatOnly
  | .exc c l => .exc c l
  | .bad => .bad
theorem RPost.w {W' : WX} {Hf H : Hp} {σ σ' : L2.St} {Q : VK} {r : ER} (h : RPost G W Hf H σ Q r) (hw : ∀ c x H', W c x σ H' → W' c x σ' H') : RPost G W' Hf H σ' Q r := by
  cases r with
  | val m d => exact h
  | exc c l => exact fun Hf' H' x g o => hw _ _ _ (h Hf' H' x g o)
  | bad => exact h
theorem call_post {F : List D → ER} {ta : TA} {f : DE → AR} {E : XK} (ha : DAr G W ta f) {F0 H0 Hf H : Hp} {σ : L2.St} {e : DE} (En : EnvOk G F0 H0 Hf H σ e) {Q : VK} (post : RPost G W Hf H σ Q (dCall F f e)) (hE : ∀ c x H', W c x σ H' → E c x H') :
    ta σ H fun vs H1 => spF G F vs H1 Q E := by
  refine ha F0 H0 Hf H σ e En _ ?_
  unfold dCall at post
  cases q : f e with
  | ok p l =>
    rw [q] at post
    cases p with
    | true => exact fun Hf1 H1 vs g1 i1 => ⟨Hf1, l, g1.s, i1, (RPost.step g1 post).w (fun c x H' h => hE c x H' h)⟩
    | false =>
      intro Hf1 H1 vs g1 i1
      have post1 : RPost G W Hf1 H1 σ Q (F l).flatOnly := RPost.step g1 post
      refine ⟨H1, l, Same.refl _, i1.is g1.s, ?_⟩
      have gg : ∀ {Hf' H' : Hp}, Gro H1 H1 Hf' H' → Gro Hf1 H1 Hf1 H' := fun g => ⟨Same.refl _, g.h, g1.s.trans g.h, fun _ _ _ z => z⟩
      cases r : F l with
      | val m d =>
        rw [r] at post1
        obtain ⟨c, post2⟩ := RPost.cond (Dn.flat d = true) (.val .P d) post1
        exact fun Hf' H' v g o => post2 Hf1 H' v (gg g) ((o.u.is g.s).flat Hf1 c)
      | exc c l2 =>
        rw [r] at post1
        cases l2 with
        | nil =>
          intro Hf' H' x g o
          refine hE _ _ _ (post1 Hf1 H' x (gg g) ?_)
          rcases o with o | ⟨_, _, _, z, _⟩
          · exact .inl o
          · exact absurd rfl z
        | cons a b => exact post1.elim
      | bad => rw [r] at post1; exact post1.elim
  | exc c l => rw [q] at post; exact post
  | bad => rw [q] at post; exact post
theorem v_call {F : List D → ER} {ta : TA} {f : DE → AR} (ha : DAr G W ta f) : DEv G W (tCallS (spF G F) (WE W) ta) (dCall F f) := by
  intro F0 H0 Hf H σ e E Q post
  exact call_post ha E post fun _ _ _ h => h
/-! ### calls of built-ins by values -/
def DCal (G : Gm) (r : List V → Hp → VK → Prop) (o : List D → ER) : Prop :=
  ∀ (W : WX) (σ : L2.St) (Hf H : Hp) (vs : List V) (ds : List D), Same Hf H → UL G Hf H vs ds → ∀ Q : VK, RPost G W Hf H σ Q (o ds) → r vs H Q
def dCB (o : List D → ER) (f : DE → AR) : DE → ER := fun e => match f e with
  | .ok _ l => o l
  | .exc c l => .exc c l
  | .bad => .bad
theorem v_cb {r : List V → Hp → VK → Prop} {o : List D → ER} {ta : TA} {f : DE → AR} (hr : DCal G r o) (ha : DAr G W ta f) : DEv G W (tCB r ta) (dCB o f) := by
  intro F0 H0 Hf H σ e E Q post
  refine ha F0 H0 Hf H σ e E _ ?_
  unfold dCB at post
  cases q : f e with
  | ok p l =>
    rw [q] at post
    cases p with
    | true => exact fun Hf1 H1 vs g1 i1 => hr W σ Hf1 H1 vs l g1.s i1.ul Q (RPost.step g1 post)
    | false => exact fun Hf1 H1 vs g1 i1 => hr W σ Hf1 H1 vs l g1.s i1 Q (RPost.step g1 post)
  | exc c l => rw [q] at post; exact post
  | bad => rw [q] at post; exact post
theorem UL.one {Hf H : Hp} {vs : List V} {d : D} (h : UL G Hf H vs [d]) : ∃ v, vs = [v] ∧ U G Hf H v d := by
  cases h with | cons a b => cases b; exact ⟨_, rfl, a⟩
theorem UL.two {Hf H : Hp} {vs : List V} {d e : D} (h : UL G Hf H vs [d, e]) : ∃ v w, vs = [v, w] ∧ U G Hf H v d ∧ U G Hf H w e := by
  cases h with | cons a b => cases b with | cons c d => cases d; exact ⟨_, _, rfl, a, c⟩
def oAbs : List D → ER
  | [.int i] => .val .P (.int (if i < 0 then -i else i))
  | _ => .bad
/-- reduces a call by values to its one argument -/
theorem DCal.one1 {r : List V → Hp → VK → Prop} {o : List D → ER} (h0 : o [] = .bad) (h2 : ∀ a b l, o (a :: b :: l) = .bad)
    (h : ∀ (W : WX) (σ : L2.St) (Hf H : Hp) (v : V) (d : D), Same Hf H → U G Hf H v d → ∀ Q : VK, RPost G W Hf H σ Q (o [d]) → r [v] H Q) : DCal G r o := by
  intro W σ Hf H vs ds s hv Q post
  match ds, hv, post with
  | [], _, post => rw [h0] at post; exact post.elim
  | [d], hv, post => obtain ⟨v, rfl, hv1⟩ := hv.one; exact h W σ Hf H v d s hv1 Q post
  | a :: b :: l, _, post => rw [h2] at post; exact post.elim
theorem c_abs : DCal G (fun xs H Q => ∃ i, xs = [.int i] ∧ Q (.int (if i < 0 then -i else i)) H) oAbs := by
  refine DCal.one1 rfl (fun a b l => by cases a <;> rfl) fun W σ Hf H v d s hv Q post => ?_
  cases d <;> try exact post.elim
  obtain rfl := hv.int
  exact ⟨_, rfl, post.now s (.int _)⟩
def oLen : List D → ER
  | [.lst l] => .val .P (.int l.length)
  | [.tup l] => .val .P (.int l.length)
  | [.scr l] => .val .P (.int l.length)
  | [.str z] => if z.length ≤ 1000000 then .val .P (.int z.length) else .bad
  | _ => .bad
theorem c_len : DCal G (fun xs H Q => ∃ x n, xs = [x] ∧ LenV G.K x H n ∧ Q (.int n) H) oLen := by
  refine DCal.one1 rfl (fun a b l => by cases a <;> rfl) fun W σ Hf H v d s hv Q post => ?_
  cases d <;> try exact post.elim
  case lst l =>
    obtain ⟨p, vs, rfl, hp, hl⟩ := hv.lst s
    exact ⟨_, l.length, rfl, .inl ⟨vs, SqL.of hp, hl.len.symm⟩, post.now s (.int _)⟩
  case tup l =>
    obtain ⟨p, vs, rfl, hp, hl⟩ := hv.tup s
    exact ⟨_, l.length, rfl, .inr ⟨vs, hp, hl.len.symm⟩, post.now s (.int _)⟩
  case scr l =>
    obtain ⟨p, rfl, hp⟩ := hv.scr s
    exact ⟨_, l.length, rfl, .inl ⟨_, hp, by rw [List.length_map]⟩, post.now s (.int _)⟩
  case str z =>
    obtain rfl := hv.str
    obtain ⟨c, post⟩ := RPost.cond (z.length ≤ 1000000) (.val .P (.int z.length)) post
    exact ⟨_, z.length, rfl, ⟨sz c, rfl⟩, post.now s (.int _)⟩
/-! ### slices -/
def cutG {α : Type} (xs : List α) (lo hi : Option Int) : List α := (xs.drop (HT.sIx xs.length 0 lo)).take (HT.sIx xs.length xs.length hi - HT.sIx xs.length 0 lo)
theorem cut_L {Hf : Hp} {vs : List V} {l : List D} (h : IsL G Hf vs l) (lo hi : Option Int) : IsL G Hf (cutV vs lo hi) (cutG l lo hi) := by
  unfold cutV cutG
  rw [h.len]
  exact (h.drop _).take _
def DTo (G : Gm) (W : WX) (to : TO) (f : DE → Option ER) : Prop :=
  ∀ F0 H0 Hf H σ e, EnvOk G F0 H0 Hf H σ e → ∀ Q : Option Int → Hp → Prop,
    (match f e with
      | none => Q none H
      | some (.val _ (.int i)) => ∀ Hf' H', Gro Hf H Hf' H' → Q (some i) H'
      | _ => False) → to σ H Q
theorem o_none : DTo G W tNoPart (fun _ => none) := fun _ _ _ _ _ _ _ _ post => post
theorem o_some {te : TE} {f : DE → ER} (h : DEv G W te f) : DTo G W (tPart te) (fun e => some (f e)) := by
  intro F0 H0 Hf H σ e E Q post
  refine h F0 H0 Hf H σ e E _ ?_
  have post' : (match f e with | .val _ (.int i) => ∀ Hf' H', Gro Hf H Hf' H' → Q (some i) H' | _ => False) := by
    cases q : f e with
    | val m d => simp only [q] at post; cases d <;> exact post
    | exc c l => simp only [q] at post
    | bad => simp only [q] at post
  cases q : f e with
  | val m d =>
    rw [q] at post'
    cases d <;> first | exact post'.elim | skip
    intro Hf' H' v g o
    obtain rfl := o.u.int
    exact ⟨_, rfl, post' Hf' H' g⟩
  | exc c l => rw [q] at post'; exact post'.elim
  | bad => rw [q] at post'; exact post'.elim
def partI : Option ER → Option (Option Int)
  | none => some none
  | some (.val _ (.int i)) => some (some i)
  | _ => none
def DSl (G : Gm) (r : V → Option Int → Option Int → Hp → VK → Prop) (o : D → Option Int → Option Int → ER) : Prop :=
  ∀ (W : WX) (σ : L2.St) (Hf H : Hp) (v : V) (d : D) (lo hi : Option Int), Same Hf H → U G Hf H v d → ∀ Q : VK, RPost G W Hf H σ Q (o d lo hi) → r v lo hi H Q
def dSl (o : D → Option Int → Option Int → ER) (f : DE → ER) (lo hi : DE → Option ER) : DE → ER := fun e => (f e).bind fun x => ofOpt (partI (lo e)) fun l => ofOpt (partI (hi e)) fun u => o x l u
theorem part_post {tl : TO} {lo : DE → Option ER} (hl : DTo G W tl lo) {F0 H0 Hf H : Hp} {σ : L2.St} {e : DE} (E : EnvOk G F0 H0 Hf H σ e) {l : Option Int} (hp : partI (lo e) = some l) {Q : Option Int → Hp → Prop} (k : ∀ Hf' H', Gro Hf H Hf' H' → Q l H') : tl σ H Q := by
  refine hl F0 H0 Hf H σ e E _ ?_
  cases q : lo e with
  | none => rw [q] at hp; cases hp; exact k Hf H (Gro.refl E.s)
  | some r =>
    rw [q] at hp
    cases r with
    | val m d => cases d <;> first | (cases hp; done) | skip
                 cases hp; exact fun Hf' H' g => k Hf' H' g
    | exc c l => cases hp
    | bad => cases hp
theorem v_sl {r : V → Option Int → Option Int → Hp → VK → Prop} {o : D → Option Int → Option Int → ER} {te : TE} {tl th : TO} {f : DE → ER} {lo hi : DE → Option ER} (hr : DSl G r o) (he : DEv G W te f) (hl : DTo G W tl lo) (hh : DTo G W th hi) : DEv G W (tSl r te tl th) (dSl o f lo hi) := by
  intro F0 H0 Hf H σ e E Q post
  refine he F0 H0 Hf H σ e E _ (RPost.bind post fun m d Hf1 H1 v g1 o1 p1 => ?_)
  obtain ⟨l, h1, p1⟩ := RPost.opt _ _ p1
  obtain ⟨u, h2, p1⟩ := RPost.opt _ _ p1
  refine part_post hl (E.up g1) h1 fun Hf2 H2 g2 => part_post hh ((E.up g1).up g2) h2 fun Hf3 H3 g3 => ?_
  exact hr W σ Hf3 H3 v d l u g3.s (((o1.up g2).up g3).u) Q (RPost.step (g2.trans g3) p1)
abbrev rSlA (K : PySem.W.Frag) : V → Option Int → Option Int → Hp → VK → Prop := fun x lo hi H Q => rSlL K x lo hi H Q ∨ (fun x lo hi H Q => rSlT K x lo hi H Q ∨ rSlS x lo hi H Q) x lo hi H Q
theorem sl_any {X : Cx} : SlR X (rSlA X.K) := sl_list.or (sl_tup.or sl_str)
def oSl (d : D) (lo hi : Option Int) : ER := match d with
  | .lst l => .val .N (.lst (cutG l lo hi))
  | .scr l => .val .N (.lst ((cutG l lo hi).map .int))
  | .tup l => if HT.sIx l.length 0 lo = 0 ∧ HT.sIx l.length l.length hi = l.length then .bad else .val .P (.tup (cutG l lo hi))
  | .str z => if z.length ≤ 1000000 then .val .P (.str (cutS z lo hi)) else .bad
  | _ => .bad
theorem IsL.ints {H : Hp} : ∀ (l : List Int), IsL G H (l.map V.int) (l.map D.int)
  | [] => .nil
  | i :: l => .cons (.int i) (IsL.ints l)
theorem cut_map (l : List Int) (lo hi : Option Int) : cutV (l.map V.int) lo hi = (cutG l lo hi).map V.int := by
  unfold cutV cutG
  rw [List.length_map, List.map_take, List.map_drop]
theorem d_sl : DSl G (rSlA G.K) oSl := by
  intro W σ Hf H v d lo hi s hv Q post
  cases d <;> try exact post.elim
  case lst l =>
    obtain ⟨p, vs, rfl, hp, hl⟩ := hv.lst s
    exact .inl ⟨p, vs, rfl, SqL.of hp, fun r hr => RPost.newL s post (cut_L hl lo hi) hr⟩
  case scr l =>
    obtain ⟨p, rfl, hp⟩ := hv.scr s
    exact .inl ⟨p, _, rfl, hp, fun r hr => by rw [cut_map]; exact RPost.newL s post (IsL.ints _) hr⟩
  case tup l =>
    obtain ⟨p, vs, rfl, hp, hl⟩ := hv.tup s
    have post' : RPost G W Hf H σ Q (if HT.sIx l.length 0 lo = 0 ∧ HT.sIx l.length l.length hi = l.length then .bad else .val .P (.tup (cutG l lo hi))) := post
    by_cases c : HT.sIx l.length 0 lo = 0 ∧ HT.sIx l.length l.length hi = l.length
    · rw [if_pos c] at post'; exact post'.elim
    · rw [if_neg c] at post'
      exact .inr (.inl ⟨p, vs, rfl, hp, by rw [hl.len]; exact c, fun r hr => RPost.newT s post' (cut_L hl lo hi) hr⟩)
  case str z =>
    obtain rfl := hv.str
    obtain ⟨c, post⟩ := RPost.cond (z.length ≤ 1000000) (.val .P (.str (cutS z lo hi))) post
    exact .inr (.inr ⟨z, rfl, sz c, post.now s (.str _)⟩)
end
end Dn
namespace Dn
open PySem PySem.Spec PyProof.Rows L2
/-! ### targets -/
/-- the target takes the frozen datum d: the slots behind it; js: the slots it writes -/
def DTg (G : Gm) (g : TG) (js : List Nat) (h : D → DE → Option DE) : Prop :=
  ∀ F0 H0 Hf H σ e v d, EnvOk G F0 H0 Hf H σ e → Is G Hf v d → ∀ Q : L2.St → Hp → Prop, ∀ e', h d e = some e' →
    (∀ Hf' H' σ', Gro Hf H Hf' H' → EnvOk G F0 H0 Hf' H' σ' e' → σ'.length = σ.length → (∀ i, i ∉ js → σ'[i]? = σ[i]?) → Q σ' H') → g v σ H Q
def DTgs (G : Gm) (g : TGs) (js : List Nat) (h : List D → DE → Option DE) : Prop :=
  ∀ F0 H0 Hf H σ e vs ds, EnvOk G F0 H0 Hf H σ e → IsL G Hf vs ds → ∀ Q : L2.St → Hp → Prop, ∀ e', h ds e = some e' →
    (∀ Hf' H' σ', Gro Hf H Hf' H' → EnvOk G F0 H0 Hf' H' σ' e' → σ'.length = σ.length → (∀ i, i ∉ js → σ'[i]? = σ[i]?) → Q σ' H') → g vs σ H Q
section
variable {G : Gm} {W : WX}
def tgN (i : Nat) : D → DE → Option DE := fun d e => some (e.set i (.val d))
theorem g_name {i : Nat} : DTg G (gName i) [i] (tgN i) := by
  intro F0 H0 Hf H σ e v d E hv Q e' he k
  cases he
  refine k Hf H _ (Gro.refl E.s) (E.set ⟨v, rfl, hv⟩ (fun l z => nomatch z)) (by simp) fun j hj => ?_
  have : i ≠ j := fun z => hj (by simp [z])
  rw [List.getElem?_set_ne this]
def tgsNil : List D → DE → Option DE := fun l e => match l with | [] => some e | _ => none
theorem gs_nil : DTgs G gNil [] tgsNil := by
  intro F0 H0 Hf H σ e vs ds E hv Q e' he k
  cases ds with
  | nil => cases hv; cases he; exact ⟨rfl, k Hf H σ (Gro.refl E.s) E rfl fun _ _ => rfl⟩
  | cons d l => cases he
def tgsCons (t : D → DE → Option DE) (u : List D → DE → Option DE) : List D → DE → Option DE := fun l e => match l with
  | [] => none
  | d :: l => (t d e).bind (u l)
theorem gs_cons {g : TG} {gs : TGs} {js ks : List Nat} {t : D → DE → Option DE} {u : List D → DE → Option DE} (h1 : DTg G g js t) (h2 : DTgs G gs ks u) : DTgs G (gCons g gs) (js ++ ks) (tgsCons t u) := by
  intro F0 H0 Hf H σ e vs ds E hv Q e' he k
  cases ds with
  | nil => cases he
  | cons d l =>
    cases hv with
    | cons a b =>
      have he' : (t d e).bind (u l) = some e' := he
      cases q : t d e with
      | none => rw [q] at he'; cases he'
      | some e1 =>
        rw [q] at he'
        refine ⟨_, _, rfl, h1 F0 H0 Hf H σ e _ d E a _ e1 q fun Hf1 H1 σ1 g1 E1 l1 w1 => ?_⟩
        refine h2 F0 H0 Hf1 H1 σ1 e1 _ l E1 (b.up g1.f) _ e' he' fun Hf2 H2 σ2 g2 E2 l2 w2 => ?_
        refine k Hf2 H2 σ2 (g1.trans g2) E2 (l2.trans l1) fun i hi => ?_
        rw [w2 i (fun z => hi (List.mem_append_right _ z)), w1 i (fun z => hi (List.mem_append_left _ z))]
def tgT (n : Nat) (u : List D → DE → Option DE) : D → DE → Option DE := fun d e => match d with
  | .tup l => if l.length = n then u l e else none
  | .lst l => if l.length = n then u l e else none
  | _ => none
abbrev gTL (K : PySem.W.Frag) (n : Nat) (t : TGs) : TG := fun v σ H Q => gTup K n t v σ H Q ∨ gLst K n t v σ H Q
theorem pg_tl {X : Cx} {pos : Pos} {es : List Expr} {k : Nat} {t : TGs} {n : Nat} (hc : X.calm = true) (h : PGs X es t)
    (hn : (assignEach es X.env).length = n := by rfl) (hst : (assignEach es X.env).findIdx? (·.1) = none := by rfl) : PG X (.Tuple es k pos) (gTL X.K n t) :=
  ⟨fun pins s σ H v u Q I r hw => hw.elim (fun z => (pg_tup hc h hn hst).run pins s σ H v u Q I r z) (fun z => (pg_lst hc h hn hst).run pins s σ H v u Q I r z)⟩
theorem g_tl {n : Nat} {t : TGs} {js : List Nat} {u : List D → DE → Option DE} (h : DTgs G t js u) : DTg G (gTL G.K n t) js (tgT n u) := by
  intro F0 H0 Hf H σ e v d E hv Q e' he k
  cases d <;> try (cases he; done)
  case tup l =>
    have he' : (if l.length = n then u l e else none) = some e' := he
    split at he'
    · rename_i hn
      cases hv with
      | tup a b => exact .inl ⟨_, _, rfl, same_t E.s a, b.len.trans hn, h F0 H0 Hf H σ e _ l E b Q e' he' k⟩
    · cases he'
  case lst l =>
    have he' : (if l.length = n then u l e else none) = some e' := he
    split at he'
    · rename_i hn
      cases hv with
      | lst a b => exact .inr ⟨_, _, rfl, SqL.of (E.s _ _ a), b.len.trans hn, h F0 H0 Hf H σ e _ l E b Q e' he' k⟩
    · cases he'
end
/-! ### statements -/
inductive SR where | nx (e : DE) | rt (m : Md) (d : D) | bk (e : DE) | ct (e : DE) | exc (c : Nat) (l : List D) (e : DE) | bad
def SPost (G : Gm) (W : WX) (F0 H0 Hf : Hp) (N : Ends) : SR → Prop
  | .nx e => ∀ Hf' H' σ', Same Hf Hf' → EnvOk G F0 H0 Hf' H' σ' e → N.nx σ' H'
  | .rt m d => ∀ Hf' H' v, Same Hf Hf' → Gro F0 H0 Hf' H' → VOk G H0 Hf' H' m v d → N.rt v H'
  | .bk e => ∀ Hf' H' σ', Same Hf Hf' → EnvOk G F0 H0 Hf' H' σ' e → N.bk σ' H'
  | .ct e => ∀ Hf' H' σ', Same Hf Hf' → EnvOk G F0 H0 Hf' H' σ' e → N.ct σ' H'
  | .exc c l e => ∀ Hf' H' σ' x, Same Hf Hf' → EnvOk G F0 H0 Hf' H' σ' e → ExcOk G Hf' c l x → W (.ref (G.ca c)) x σ' H'
  | .bad => False
theorem SPost.mono {G : Gm} {W : WX} {F0 H0 Hf Hf1 : Hp} {N : Ends} {r : SR} (s : Same Hf Hf1) (h : SPost G W F0 H0 Hf N r) : SPost G W F0 H0 Hf1 N r := by
  cases r with
  | nx e => exact fun Hf' H' σ' q => h Hf' H' σ' (s.trans q)
  | rt m d => exact fun Hf' H' v q => h Hf' H' v (s.trans q)
  | bk e => exact fun Hf' H' σ' q => h Hf' H' σ' (s.trans q)
  | ct e => exact fun Hf' H' σ' q => h Hf' H' σ' (s.trans q)
  | exc c l e => exact fun Hf' H' σ' x q => h Hf' H' σ' x (s.trans q)
  | bad => exact h
def DSt (G : Gm) (W : WX) (t : TS) (g : DE → SR) : Prop :=
  ∀ F0 H0 Hf H σ e, EnvOk G F0 H0 Hf H σ e → ∀ N : Ends, SPost G W F0 H0 Hf N (g e) → t N σ H
def SR.bind (r : SR) (k : DE → SR) : SR := match r with
  | .nx e => k e
  | r => r
@[simp] theorem SR.bind_nx (e : DE) (k : DE → SR) : (SR.nx e).bind k = k e := rfl
@[simp] theorem SR.bind_rt (m : Md) (d : D) (k : DE → SR) : (SR.rt m d).bind k = .rt m d := rfl
@[simp] theorem SR.bind_bk (e : DE) (k : DE → SR) : (SR.bk e).bind k = .bk e := rfl
@[simp] theorem SR.bind_ct (e : DE) (k : DE → SR) : (SR.ct e).bind k = .ct e := rfl
@[simp] theorem SR.bind_exc (c : Nat) (l : List D) (e : DE) (k : DE → SR) : (SR.exc c l e).bind k = .exc c l e := rfl
@[simp] theorem SR.bind_bad (k : DE → SR) : SR.bad.bind k = .bad := rfl
section
variable {G : Gm} {W : WX}
def sSeq (f g : DE → SR) : DE → SR := fun e => (f e).bind g
theorem s_seq {t u : TS} {f g : DE → SR} (h1 : DSt G W t f) (h2 : DSt G W u g) : DSt G W (tSeq t u) (sSeq f g) := by
  intro F0 H0 Hf H σ e E N post
  refine h1 F0 H0 Hf H σ e E _ ?_
  unfold sSeq at post
  cases q : f e with
  | nx e1 => rw [q] at post; exact fun Hf' H' σ' s E' => h2 F0 H0 Hf' H' σ' e1 E' N (SPost.mono s post)
  | rt m d => rw [q] at post; exact post
  | bk e => rw [q] at post; exact post
  | ct e => rw [q] at post; exact post
  | exc c l e => rw [q] at post; exact post
  | bad => rw [q] at post; exact post
def sSkip : DE → SR := .nx
theorem s_skip : DSt G W tNext sSkip := fun F0 H0 Hf H σ e E N post => post Hf H σ (Same.refl _) E
def sBreak : DE → SR := .bk
theorem s_break : DSt G W tBreak sBreak := fun F0 H0 Hf H σ e E N post => post Hf H σ (Same.refl _) E
def sCont : DE → SR := .ct
theorem s_cont : DSt G W tCont sCont := fun F0 H0 Hf H σ e E N post => post Hf H σ (Same.refl _) E
/-- an expression's results lead on -/
theorem ev_st {te : TE} {f : DE → ER} (h : DEv G W te f) {F0 H0 Hf H : Hp} {σ : L2.St} {e : DE} (E : EnvOk G F0 H0 Hf H σ e) {N : Ends} {Q : VK} (hx : ∀ c l, f e = .exc c l → SPost G W F0 H0 Hf N (.exc c l e)) (hb : f e ≠ .bad)
    (hv : ∀ m d, f e = .val m d → ∀ Hf' H' v, Gro Hf H Hf' H' → VOk G H Hf' H' m v d → Q v H') : te σ H Q := by
  refine h F0 H0 Hf H σ e E _ ?_
  cases q : f e with
  | val m d => exact hv m d q
  | exc c l => exact fun Hf' H' x g o => hx c l q Hf' H' σ x g.f (E.up g) o
  | bad => exact absurd q hb
/-- x = e; a new list is the def's own -/
def sSet (i : Nat) (f : DE → ER) : DE → SR := fun e => match f e with
  | .val .P d => .nx (e.set i (.val d))
  | .val .N (.lst l) => .nx (e.set i (.own l))
  | .exc c l => .exc c l e
  | _ => .bad
theorem s_set {i : Nat} {te : TE} {f : DE → ER} (h : DEv G W te f) : DSt G W (tAsg te (gName i)) (sSet i f) := by
  intro F0 H0 Hf H σ e E N post
  unfold sSet at post
  refine ev_st (N := N) h E (fun c l q => by rw [q] at post; exact post) (fun q => by rw [q] at post; exact post) fun m d q Hf' H' v g o => ?_
  rw [q] at post
  cases m with
  | P => exact post Hf' H' _ g.f ((E.up g).set ⟨v, rfl, o⟩ (fun l z => nomatch z))
  | B => cases d <;> exact post.elim
  | N =>
    obtain ⟨p, vs, l, rfl, rfl, a, b, c, z⟩ := o
    refine post Hf' H' _ g.f ((E.up g).setOwn (E.gr.h.free c) z a b fun j m hj s1 s2 => ?_)
    obtain ⟨o, h1, p', vs', h2, _, _, h3, _⟩ := E.slot s2
    rw [s1] at h1; cases h1
    cases h2
    rw [c] at h3; cases h3
/-- x = e; a new list is frozen -/
def sSetF (i : Nat) (f : DE → ER) : DE → SR := fun e => match f e with
  | .val .P d => .nx (e.set i (.val d))
  | .val .N d => .nx (e.set i (.val d))
  | .exc c l => .exc c l e
  | _ => .bad
theorem s_setF {i : Nat} {te : TE} {f : DE → ER} (h : DEv G W te f) : DSt G W (tAsg te (gName i)) (sSetF i f) := by
  intro F0 H0 Hf H σ e E N post
  unfold sSetF at post
  refine ev_st (N := N) h E (fun c l q => by rw [q] at post; exact post) (fun q => by rw [q] at post; exact post) fun m d q Hf' H' v g o => ?_
  rw [q] at post
  cases m with
  | P => exact post Hf' H' _ g.f ((E.up g).set ⟨v, rfl, o⟩ (fun l z => nomatch z))
  | B => exact post.elim
  | N =>
    obtain ⟨Hf2, g2, s2, _, i2⟩ := o.freeze g (by decide)
    exact post Hf2 H' _ g2.f ((E.up g2).set ⟨v, rfl, i2⟩ (fun l z => nomatch z))
/-- target = e, the target of any form -/
def sAsg (t : D → DE → Option DE) (f : DE → ER) : DE → SR := fun e => match f e with
  | .val .B _ => .bad
  | .val _ d => (match t d e with | some e' => .nx e' | none => .bad)
  | .exc c l => .exc c l e
  | _ => .bad
theorem s_asg {te : TE} {g : TG} {js : List Nat} {f : DE → ER} {t : D → DE → Option DE} (h : DEv G W te f) (hg : DTg G g js t) : DSt G W (tAsg te g) (sAsg t f) := by
  intro F0 H0 Hf H σ e E N post
  unfold sAsg at post
  refine ev_st (N := N) h E (fun c l q => by rw [q] at post; exact post) (fun q => by rw [q] at post; exact post) fun m d q Hf' H' v g1 o => ?_
  rw [q] at post
  have fin : ∀ Hf2, Gro Hf H Hf2 H' → Is G Hf2 v d → SPost G W F0 H0 Hf N (match t d e with | some e' => .nx e' | none => .bad) → g v σ H' N.nx := fun Hf2 g2 i2 p => by
    cases q2 : t d e with
    | none => rw [q2] at p; exact p.elim
    | some e' =>
      rw [q2] at p
      exact hg F0 H0 Hf2 H' σ e v d (E.up g2) i2 _ e' q2 fun Hf3 H3 σ3 g3 E3 _ _ => p Hf3 H3 σ3 (g2.f.trans g3.f) E3
  cases m with
  | P => exact fin Hf' g1 o post
  | B => exact post.elim
  | N =>
    obtain ⟨Hf2, g2, s2, _, i2⟩ := o.freeze g1 (by decide)
    exact fin Hf2 g2 i2 post
/-- x, y = a, b -/
def sPar (i j : Nat) (f : DE → AR) : DE → SR := fun e => match f e with
  | .ok true [a, b] => .nx ((e.set i (.val a)).set j (.val b))
  | .exc c l => .exc c l e
  | _ => .bad
theorem s_par {i j : Nat} {ta : TA} {f : DE → AR} (h : DAr G W ta f) : DSt G W (tPar i j ta) (sPar i j f) := by
  intro F0 H0 Hf H σ e E N post
  unfold sPar at post
  refine h F0 H0 Hf H σ e E _ ?_
  cases q : f e with
  | ok p l =>
    rw [q] at post
    cases p with
    | false => exact post.elim
    | true =>
      match l, post with
      | [], post => exact post.elim
      | [a], post => exact post.elim
      | [a, b], post =>
        intro Hf' H' vs g i2
        cases i2 with
        | cons ia ib =>
          cases ib with
          | cons ib ic =>
            cases ic
            exact ⟨_, _, rfl, post Hf' H' _ g.f (((E.up g).set (s := .val a) ⟨_, rfl, ia⟩ (fun l z => nomatch z)).set (s := .val b) ⟨_, rfl, ib⟩ (fun l z => nomatch z))⟩
      | a :: b :: c :: l, post => exact post.elim
  | exc c l => rw [q] at post; exact fun Hf' H' x g o => post Hf' H' σ x g.f (E.up g) o
  | bad => rw [q] at post; exact post
/-- an expression alone -/
def sDrop (f : DE → ER) : DE → SR := fun e => match f e with
  | .val _ _ => .nx e
  | .exc c l => .exc c l e
  | .bad => .bad
theorem s_drop {te : TE} {f : DE → ER} (h : DEv G W te f) : DSt G W (tDrop te) (sDrop f) := by
  intro F0 H0 Hf H σ e E N post
  unfold sDrop at post
  refine ev_st (N := N) h E (fun c l q => by rw [q] at post; exact post) (fun q => by rw [q] at post; exact post) fun m d q Hf' H' v g o => ?_
  rw [q] at post
  exact post Hf' H' σ g.f (E.up g)
def sRet (f : DE → ER) : DE → SR := fun e => match f e with
  | .val .P d => .rt .P d
  | .val .N d => .rt .N d
  | .exc c l => .exc c l e
  | _ => .bad
theorem s_ret {te : TE} {f : DE → ER} (h : DEv G W te f) : DSt G W (tRet te) (sRet f) := by
  intro F0 H0 Hf H σ e E N post
  unfold sRet at post
  refine ev_st (N := N) h E (fun c l q => by rw [q] at post; exact post) (fun q => by rw [q] at post; exact post) fun m d q Hf' H' v g o => ?_
  rw [q] at post
  cases m with
  | P => exact post Hf' H' v g.f (E.gr.trans g) o
  | B => exact post.elim
  | N => exact post Hf' H' v g.f (E.gr.trans g) (o.back E.gr.h)
def sRetV (i : Nat) : DE → SR := fun e => match e[i]? with
  | some (.val d) => .rt .P d
  | some (.own l) => .rt .N (.lst l)
  | _ => .bad
theorem s_retV {i : Nat} : DSt G W (tRet (tVar i)) (sRetV i) := by
  intro F0 H0 Hf H σ e E N post
  unfold sRetV at post
  split at post
  · rename_i d q
    obtain ⟨o, h1, v, rfl, h2⟩ := E.slot q
    exact ⟨v, h1, post Hf H v (Same.refl _) E.gr h2⟩
  · rename_i l q
    obtain ⟨o, h1, p, vs, rfl, a, b, c, d⟩ := E.slot q
    exact ⟨_, h1, post Hf H _ (Same.refl _) E.gr ⟨p, vs, l, rfl, rfl, c, d, a, b⟩⟩
  · exact post.elim
def sRetN : DE → SR := fun _ => .rt .P .non
theorem s_retN : DSt G W tRetN sRetN := fun F0 H0 Hf H σ e E N post => post Hf H .non (Same.refl _) E.gr .non
def sIf (c : DE → ER) (f g : DE → SR) : DE → SR := fun e => match c e with
  | .val _ (.bl b) => if b = true then f e else g e
  | .exc c l => .exc c l e
  | _ => .bad
theorem tst_st {tt : TT} {f : DE → ER} (h : DTt G W tt f) {F0 H0 Hf H : Hp} {σ : L2.St} {e : DE} (E : EnvOk G F0 H0 Hf H σ e) {N : Ends} {Q : Bool → Hp → Prop} (hx : ∀ c l, f e = .exc c l → SPost G W F0 H0 Hf N (.exc c l e)) (hb : ∃ m b, f e = .val m (.bl b) ∨ ∃ c l, f e = .exc c l)
    (hv : ∀ m b, f e = .val m (.bl b) → ∀ Hf' H', Gro Hf H Hf' H' → Q b H') : tt σ H Q := by
  refine h F0 H0 Hf H σ e E _ ?_
  obtain ⟨m, b, q | ⟨c, l, q⟩⟩ := hb
  · rw [q]; exact hv m b q
  · rw [q]; exact fun Hf' H' x g o => hx c l q Hf' H' σ x g.f (E.up g) o
theorem s_if {tc : TT} {t u : TS} {c : DE → ER} {f g : DE → SR} (hc : DTt G W tc c) (ht : DSt G W t f) (hu : DSt G W u g) : DSt G W (tIfS tc t u) (sIf c f g) := by
  intro F0 H0 Hf H σ e E N post
  unfold sIf at post
  refine tst_st (N := N) hc E (fun c l q => by rw [q] at post; exact post) ?_ fun m b q Hf' H' g1 => ?_
  · cases q : c e with
    | val m d =>
      rw [q] at post
      cases d <;> first | exact post.elim | exact ⟨m, _, .inl rfl⟩
    | exc k l => exact ⟨.P, true, .inr ⟨k, l, rfl⟩⟩
    | bad => rw [q] at post; exact post.elim
  · rw [q] at post
    have post' : SPost G W F0 H0 Hf N (if b = true then f e else g e) := post
    cases b with
    | true => exact iteT (ht F0 H0 Hf' H' σ e (E.up g1) N (SPost.mono g1.f post'))
    | false => exact iteF (hu F0 H0 Hf' H' σ e (E.up g1) N (SPost.mono g1.f post'))
/-- own lists are frozen -/
def frz (i : Nat) (e : DE) : DE := match e[i]? with
  | some (.own l) => e.set i (.val (.lst l))
  | _ => e
theorem EnvOk.frz {F0 H0 Hf H : Hp} {σ : L2.St} {e : DE} (i : Nat) (E : EnvOk G F0 H0 Hf H σ e) : ∃ Hf', Same Hf Hf' ∧ EnvOk G F0 H0 Hf' H σ (frz i e) := by
  unfold Dn.frz
  split
  · rename_i l q
    obtain ⟨o, h1, p, vs, rfl, a, b, c, d⟩ := E.slot q
    have s1 : Same Hf (upd Hf p (.lst vs)) := same_new b
    refine ⟨upd Hf p (.lst vs), s1, ⟨⟨E.gr.f.trans s1, E.gr.h, fun x u z => ?_, fun x u z w => ?_⟩, by simp [E.len], fun j o s y z => ?_, fun j k x l1 m hjk y z w t => ?_⟩⟩
    · by_cases zz : x = p
      · subst zz; rw [upd_same] at z; rw [← z]; exact c
      · rw [upd_ne zz] at z; exact E.s _ _ z
    · rw [upd_ne (ne_of_none z a)]; exact E.gr.n _ _ z w
    · by_cases zz : i = j
      · subst zz
        rw [List.getElem?_set_self (List.getElem?_eq_some_iff.mp q).1] at z
        rw [h1] at y; cases y; cases z
        exact ⟨_, rfl, .lst upd_same (d.up s1)⟩
      · rw [List.getElem?_set_ne zz] at z
        have ok := E.at_ j o s y z
        cases s with
        | emp => trivial
        | exn => exact ok
        | val d => obtain ⟨v, a1, a2⟩ := ok; exact ⟨v, a1, a2.up s1⟩
        | own m =>
          obtain ⟨p', vs', rfl, b1, b2, b3, b4⟩ := ok
          have : p' ≠ p := fun zzz => by subst zzz; exact E.dis i j p' l m zz h1 q y z
          exact ⟨p', vs', rfl, b1, by rw [upd_ne this]; exact b2, b3, b4.up s1⟩
    · have own_of : ∀ (j : Nat) (l1 : List D), (e.set i (.val (.lst l)))[j]? = some (.own l1) → e[j]? = some (.own l1) := fun j l1 z => by
        by_cases zz : i = j
        · subst zz
          rw [List.getElem?_set_self (List.getElem?_eq_some_iff.mp q).1] at z
          cases z
        · rw [List.getElem?_set_ne zz] at z; exact z
      exact E.dis j k x l1 m hjk y (own_of j l1 z) w (own_of k m t)
  · exact ⟨Hf, Same.refl _, E⟩
theorem s_frz {i : Nat} {t : TS} {g : DE → SR} (h : DSt G W t g) : DSt G W t (fun e => g (frz i e)) := by
  intro F0 H0 Hf H σ e E N post
  obtain ⟨Hf', s, E'⟩ := E.frz i
  exact h F0 H0 Hf' H σ _ E' N (SPost.mono s post)
/-- x.append(e), x an own list -/
def sApp (i : Nat) (f : DE → ER) : DE → SR := fun e => match e[i]? with
  | some (.own l) => (match f e with
    | .val .B _ => .bad
    | .val _ d => if l.length < 1000000 then .nx (e.set i (.own (l ++ [d]))) else .bad
    | .exc c l => .exc c l e
    | .bad => .bad)
  | _ => .bad
theorem SPost.cond {F0 H0 Hf : Hp} {N : Ends} (c : Prop) [Decidable c] (r : SR) (h : SPost G W F0 H0 Hf N (if c then r else .bad)) : c ∧ SPost G W F0 H0 Hf N r := by
  by_cases q : c
  · rw [if_pos q] at h; exact ⟨q, h⟩
  · rw [if_neg q] at h; exact h.elim
theorem s_app {i : Nat} {te : TE} {f : DE → ER} (h : DEv G W te f) : DSt G W (tDrop (tBM G.K "list" rAppend (tVar i) (tCons te tNil))) (sApp i f) := by
  intro F0 H0 Hf H σ e E N post
  unfold sApp at post
  split at post
  · rename_i l q
    obtain ⟨o, h1, p, vs, rfl, a, b, c, d⟩ := E.slot q
    refine ⟨_, h1, .inl ⟨rfl, _, SqL.of c⟩, ?_⟩
    refine ev_st (N := N) h E (fun c l q => by rw [q] at post; exact post) (fun q => by rw [q] at post; exact post) fun m d2 q2 Hf' H' v g o => ?_
    rw [q2] at post
    have fin : ∀ Hf2, Gro Hf H Hf2 H' → Is G Hf2 v d2 → SPost G W F0 H0 Hf N (if l.length < 1000000 then .nx (e.set i (.own (l ++ [d2]))) else .bad) → rAppend (.ref p) [v] H' fun _ H1 => N.nx σ H1 := fun Hf2 g2 i2 post => by
      obtain ⟨c2, post⟩ := SPost.cond _ _ post
      have cl := d.len
      refine ⟨p, vs, v, rfl, rfl, g2.h _ _ c, by rw [cl]; exact szlt c2, post Hf2 _ σ g2.f ?_⟩
      exact (E.up g2).chg h1 q a (g2.n _ _ c b) ((d.up g2.f).append (.one i2))
    cases m with
    | P => exact fin Hf' g o post
    | B => exact post.elim
    | N =>
      obtain ⟨Hf2, g2, s2, _, i2⟩ := o.freeze g (by decide)
      exact fin Hf2 g2 i2 post
  · exact post.elim
/-! ### what is walked -/
def ItOk (G : Gm) (Hf1 : Hp) (J : It) (l : List D) : Prop := ∀ (i : Nat) (Hf H : Hp), Same Hf1 Hf → Same Hf H → (l.length ≤ i → J.stop i H) ∧
  ∀ d, l[i]? = some d → J.go i H ∧ ∀ x H', J.yld i H x H' → ∃ Hf', Gro Hf H Hf' H' ∧ Is G Hf' x d
def DIt (G : Gm) (W : WX) (wi : TI) (f : DE → AR) : Prop := ∀ F0 H0 Hf H σ e, EnvOk G F0 H0 Hf H σ e → ∀ R : It → Hp → Prop,
  (match f e with
    | .ok _ l => ∀ Hf' H' J, Gro Hf H Hf' H' → ItOk G Hf' J l → R J H'
    | .exc c l => ∀ Hf' H' x, Gro Hf H Hf' H' → ExcOk G Hf' c l x → W (.ref (G.ca c)) x σ H'
    | .bad => False) → wi σ H R
/-- of a list, a tuple, the script, a text -/
def iAny (K : PySem.W.Frag) (te : TE) : TI := fun σ H R => iList K te σ H R ∨ iTup K te σ H R ∨ iStr te σ H R
theorem pi_any {X : Cx} {tg e : Expr} {te : TE} (he : PE X e te) : PI X tg e (iAny X.K te) :=
  ⟨fun pins s σ H R I h => h.elim (fun z => (pi_list he).run pins s σ H R I z) fun z => z.elim (fun z => (pi_tup he).run pins s σ H R I z) (fun z => (pi_str he).run pins s σ H R I z)⟩
def itemsOf : D → Option (List D)
  | .lst l => some l
  | .tup l => some l
  | .scr l => some (l.map .int)
  | .str z => some (z.cps.toList.map fun c => .str ⟨#[c]⟩)
  | _ => none
def dIter (f : DE → ER) : DE → AR := fun e => match f e with
  | .val .B _ => .bad
  | .val _ d => (match itemsOf d with | some l => .ok true l | none => .bad)
  | .exc c l => .exc c l
  | .bad => .bad
theorem it_list {Hf1 : Hp} {a : Addr} {vs : List V} {l : List D} (h : ∀ Hf H, Same Hf1 Hf → Same Hf H → SqL G.K H a vs ∧ IsL G Hf vs l) : ItOk G Hf1 (Itl G.K a) l := by
  intro i Hf H s1 s2
  obtain ⟨q, il⟩ := h Hf H s1 s2
  refine ⟨fun hi => ⟨vs, q, by rw [il.len]; exact hi⟩, fun d hd => ?_⟩
  obtain ⟨v, h1, h2⟩ := il.get hd
  refine ⟨⟨vs, v, q, h1⟩, fun x H' y => ?_⟩
  obtain ⟨rfl, y⟩ := y
  have := y vs q
  rw [h1] at this; cases this
  exact ⟨Hf, Gro.refl s2, h2⟩
theorem it_tup {Hf1 : Hp} {a : Addr} {vs : List V} {l : List D} (h : ∀ Hf H, Same Hf1 Hf → Same Hf H → SqT G.K H a vs ∧ IsL G Hf vs l) : ItOk G Hf1 (Itt G.K a) l := by
  intro i Hf H s1 s2
  obtain ⟨q, il⟩ := h Hf H s1 s2
  refine ⟨fun hi => ⟨vs, q, by rw [il.len]; exact hi⟩, fun d hd => ?_⟩
  obtain ⟨v, h1, h2⟩ := il.get hd
  refine ⟨⟨vs, v, q, h1⟩, fun x H' y => ?_⟩
  obtain ⟨rfl, y⟩ := y
  have := y vs q
  rw [h1] at this; cases this
  exact ⟨Hf, Gro.refl s2, h2⟩
theorem it_str {Hf1 : Hp} (z : Str) : ItOk G Hf1 (Its z) (z.cps.toList.map fun c => .str ⟨#[c]⟩) := by
  intro i Hf H s1 s2
  refine ⟨fun hi => by (show z.cps.size ≤ i); simpa using hi, fun d hd => ?_⟩
  rw [List.getElem?_map] at hd
  cases q : z.cps.toList[i]? with
  | none => rw [q] at hd; cases hd
  | some c =>
    rw [q] at hd
    cases hd
    have hi : i < z.cps.size := by
      have := (List.getElem?_eq_some_iff.mp q).1
      simpa using this
    refine ⟨hi, fun x H' y => ?_⟩
    obtain ⟨rfl, c', h1, rfl⟩ := y
    have : z.cps[i]? = some c := by rw [← Array.getElem?_toList]; exact q
    rw [this] at h1; cases h1
    exact ⟨Hf, Gro.refl s2, .str _⟩
theorem i_any {te : TE} {f : DE → ER} (h : DEv G W te f) : DIt G W (iAny G.K te) (dIter f) := by
  intro F0 H0 Hf H σ e E R post
  have hx : ∀ {Q : VK}, (∀ m d, f e = .val m d → m ≠ .B → ∀ l, itemsOf d = some l → ∀ Hf' H' v, Gro Hf H Hf' H' → Is G Hf' v d → Q v H') → te σ H Q := fun {Q} k => by
    refine h F0 H0 Hf H σ e E _ ?_
    cases q : f e with
    | val m d =>
      simp only [dIter, q] at post
      intro Hf' H' v g o
      have nb : m ≠ .B := fun z => by subst z; exact post.elim
      have : ∃ l, itemsOf d = some l := by
        cases m <;> first | exact absurd rfl nb | (cases q2 : itemsOf d <;> first | (simp only [q2] at post; done) | exact ⟨_, rfl⟩)
      obtain ⟨l, hl⟩ := this
      obtain ⟨Hf2, g2, _, _, i2⟩ := o.freeze g nb
      exact k m d q nb l hl Hf2 H' v g2 i2
    | exc c l => simp only [dIter, q] at post; exact post
    | bad => simp only [dIter, q] at post
  have hp : ∀ m d l, f e = .val m d → m ≠ .B → itemsOf d = some l → ∀ Hf' H' J, Gro Hf H Hf' H' → ItOk G Hf' J l → R J H' := fun m d l q nb hl => by
    simp only [dIter, q] at post
    cases m <;> first | exact absurd rfl nb | (simp only [hl] at post; exact post)
  cases q : f e with
  | val m d =>
    cases d with
    | tup l0 =>
      refine .inr (.inl (hx fun m' d' q' nb l hl Hf' H' v g i2 => ?_))
      rw [q] at q'; cases q'; cases hl
      cases i2 with
      | tup a b => exact ⟨_, rfl, ⟨_, same_t g.s a⟩, hp m (.tup l0) l0 q nb rfl Hf' H' _ g (it_tup fun Hf2 H2 s1 s2 => ⟨same_t (s1.trans s2) a, b.up s1⟩)⟩
    | str z =>
      refine .inr (.inr (hx fun m' d' q' nb l hl Hf' H' v g i2 => ?_))
      rw [q] at q'; cases q'; cases hl
      cases i2 with
      | str => exact ⟨z, rfl, hp m (.str z) _ q nb rfl Hf' H' _ g (it_str z)⟩
    | lst l0 =>
      refine .inl (hx fun m' d' q' nb l hl Hf' H' v g i2 => ?_)
      rw [q] at q'; cases q'; cases hl
      cases i2 with
      | lst a b => exact ⟨_, rfl, ⟨_, SqL.of (g.s _ _ a)⟩, hp m (.lst l0) l0 q nb rfl Hf' H' _ g (it_list fun Hf2 H2 s1 s2 => ⟨SqL.of (s2 _ _ (s1 _ _ a)), b.up s1⟩)⟩
    | scr l0 =>
      refine .inl (hx fun m' d' q' nb l hl Hf' H' v g i2 => ?_)
      rw [q] at q'; cases q'; cases hl
      cases i2 with
      | scr a => exact ⟨_, rfl, ⟨_, g.s.seq a⟩, hp m (.scr l0) _ q nb rfl Hf' H' _ g (it_list fun Hf2 H2 s1 s2 => ⟨(s1.trans s2).seq a, IsL.ints _⟩)⟩
    | _ => refine .inl (hx fun m' d' q' nb l hl Hf' H' v g i2 => ?_); rw [q] at q'; cases q'; cases hl
  | exc c l => refine .inl (hx fun m' d' q' => ?_); rw [q] at q'; cases q'
  | bad => refine .inl (hx fun m' d' q' => ?_); rw [q] at q'; cases q'
/-! range -/
def rangeD (lo : Int) (n : Nat) : List D := (List.range n).map fun (k : Nat) => .int (lo + (k : Int))
theorem rangeD_get {lo : Int} {n i : Nat} {d : D} (h : (rangeD lo n)[i]? = some d) : i < n ∧ d = .int (lo + (i : Int)) := by
  unfold rangeD at h
  rw [List.getElem?_map] at h
  by_cases hi : i < n
  · rw [List.getElem?_range hi] at h; cases h; exact ⟨hi, rfl⟩
  · rw [List.getElem?_eq_none (by simpa using hi)] at h; cases h
theorem it_range {Hf1 : Hp} (lo : Int) (n : Nat) : ItOk G Hf1 (Itr lo n) (rangeD lo n) := by
  intro i Hf H s1 s2
  refine ⟨fun hi => by (show n ≤ i); simpa [rangeD] using hi, fun d hd => ?_⟩
  obtain ⟨hi, rfl⟩ := rangeD_get hd
  refine ⟨hi, fun x H' y => ?_⟩
  obtain ⟨rfl, rfl⟩ := y
  exact ⟨Hf, Gro.refl s2, .int _⟩
def dRange (f : DE → AR) : DE → AR := fun e => match f e with
  | .ok _ [.int j] => if -(2 ^ 62) ≤ j ∧ j < 2 ^ 62 then .ok true (rangeD 0 j.toNat) else .bad
  | .ok _ [.int i, .int j] => if -(2 ^ 62) ≤ i ∧ i < 2 ^ 62 ∧ -(2 ^ 62) ≤ j ∧ j < 2 ^ 62 then .ok true (rangeD i (j - i).toNat) else .bad
  | .exc c l => .exc c l
  | _ => .bad
theorem i_range1 {te : TE} {f : DE → ER} (h : DEv G W te f) : DIt G W (iRng1 (tCons te tNil)) (dRange (aCons f aNil)) := by
  intro F0 H0 Hf H σ e E R post
  refine a_cons h a_nil F0 H0 Hf H σ e E _ ?_
  unfold dRange at post
  cases q : aCons f aNil e with
  | ok p l =>
    rw [q] at post
    have key : ∀ vs Hf' H', Gro Hf H Hf' H' → UL G Hf' H' vs l → ∃ j : Int, vs = [.int j] ∧ -(2 ^ 62) ≤ j ∧ j < 2 ^ 62 ∧ R (Itr 0 j.toNat) H' := fun vs Hf' H' g u => by
      match l, post, u with
      | [], post, _ => exact post.elim
      | [d], post, u =>
        obtain ⟨v, rfl, hv⟩ := u.one
        cases d <;> first | exact post.elim | skip
        rename_i j
        obtain rfl := hv.int
        by_cases c : -(2 ^ 62) ≤ j ∧ j < 2 ^ 62
        · simp only [if_pos c] at post
          exact ⟨j, rfl, c.1, c.2, post Hf' H' _ g (it_range 0 j.toNat)⟩
        · simp only [if_neg c] at post
      | a :: b :: l, post, u =>
        exfalso
        have : (aCons f aNil e) ≠ .ok p (a :: b :: l) := by
          unfold aCons aNil ER.cons AR.cons
          cases f e with
          | val m d => cases m <;> simp
          | exc c l => simp
          | bad => simp
        exact this q
    cases p with
    | true => exact fun Hf' H' vs g i => key vs Hf' H' g i.ul
    | false => exact fun Hf' H' vs g i => key vs Hf' H' g i
  | exc c l => rw [q] at post; exact post
  | bad => rw [q] at post; exact post
theorem i_range2 {te tu : TE} {f f' : DE → ER} (h : DEv G W te f) (h' : DEv G W tu f') : DIt G W (iRng2 (tCons te (tCons tu tNil))) (dRange (aCons f (aCons f' aNil))) := by
  intro F0 H0 Hf H σ e E R post
  refine a_cons h (a_cons h' a_nil) F0 H0 Hf H σ e E _ ?_
  have len2 : ∀ p l, aCons f (aCons f' aNil) e = .ok p l → ∃ a b, l = [a, b] := fun p l q => by
    unfold aCons aNil ER.cons AR.cons at q
    cases h1 : f e with
    | val m d =>
      cases h2 : f' e with
      | val m' d' => rw [h1, h2] at q; cases m <;> cases m' <;> cases q <;> exact ⟨_, _, rfl⟩
      | exc c l => rw [h1, h2] at q; cases m <;> cases q
      | bad => rw [h1, h2] at q; cases m <;> cases q
    | exc c l => rw [h1] at q; cases q
    | bad => rw [h1] at q; cases q
  unfold dRange at post
  cases q : aCons f (aCons f' aNil) e with
  | ok p l =>
    obtain ⟨a, b, rfl⟩ := len2 p l q
    rw [q] at post
    have key : ∀ vs Hf' H', Gro Hf H Hf' H' → UL G Hf' H' vs [a, b] → ∃ i j : Int, vs = [.int i, .int j] ∧ (-(2 ^ 62) ≤ i ∧ i < 2 ^ 62 ∧ -(2 ^ 62) ≤ j ∧ j < 2 ^ 62) ∧ R (Itr i (j - i).toNat) H' := fun vs Hf' H' g u => by
      obtain ⟨v, w, rfl, hv, hw⟩ := u.two
      cases a <;> first | exact post.elim | skip
      cases b <;> first | exact post.elim | skip
      rename_i i j
      obtain rfl := hv.int
      obtain rfl := hw.int
      by_cases c : -(2 ^ 62) ≤ i ∧ i < 2 ^ 62 ∧ -(2 ^ 62) ≤ j ∧ j < 2 ^ 62
      · simp only [if_pos c] at post
        exact ⟨i, j, rfl, c, post Hf' H' _ g (it_range i _)⟩
      · simp only [if_neg c] at post
    cases p with
    | true => exact fun Hf' H' vs g i => key vs Hf' H' g i.ul
    | false => exact fun Hf' H' vs g i => key vs Hf' H' g i
  | exc c l => rw [q] at post; exact post
  | bad => rw [q] at post; exact post
end
end Dn
namespace Dn
open PySem PySem.Spec PyProof.Rows L2
section
variable {G : Gm} {W : WX}
/-! ### enumerate, zip -/
def enumD : Nat → List D → List D
  | _, [] => []
  | k, d :: l => .tup [.int (k : Int), d] :: enumD (k + 1) l
theorem enumD_get : ∀ {l : List D} {k i : Nat} {d : D}, (enumD k l)[i]? = some d → ∃ x, l[i]? = some x ∧ d = .tup [.int ((k + i : Nat) : Int), x]
  | [], _, _, _, h => by simp [enumD] at h
  | x :: l, k, 0, d, h => by simp [enumD] at h; subst h; exact ⟨x, rfl, rfl⟩
  | x :: l, k, i + 1, d, h => by
    obtain ⟨y, h1, h2⟩ := enumD_get (l := l) (k := k + 1) (i := i) (d := d) (by simpa [enumD] using h)
    refine ⟨y, by simpa using h1, ?_⟩
    rw [h2]
    have : k + 1 + i = k + (i + 1) := by omega
    rw [this]
theorem enumD_len : ∀ (l : List D) (k : Nat), (enumD k l).length = l.length
  | [], _ => rfl
  | x :: l, k => by simp [enumD, enumD_len l]
theorem it_enum {Hf1 : Hp} {a : Addr} {vs : List V} {l : List D} (h : ∀ Hf H, Same Hf1 Hf → Same Hf H → SqL G.K H a vs ∧ IsL G Hf vs l) : ItOk G Hf1 (Ite G.K a) (enumD 0 l) := by
  intro i Hf H s1 s2
  obtain ⟨q, il⟩ := h Hf H s1 s2
  refine ⟨fun hi => ⟨vs, q, by rw [il.len]; rw [enumD_len] at hi; exact hi⟩, fun d hd => ?_⟩
  obtain ⟨x, h1, rfl⟩ := enumD_get hd
  obtain ⟨v, h2, h3⟩ := il.get h1
  refine ⟨⟨vs, v, q, h2⟩, fun y H' z => ?_⟩
  obtain ⟨T, v', rfl, hT, rfl, z⟩ := z
  have := z vs q
  rw [h2] at this; cases this
  refine ⟨_, Gro.new s2 hT, .tup (SqT.of upd_same) (.cons ?_ (.cons (h3.up (same_new (s2.free hT))) .nil))⟩
  rw [Nat.zero_add]
  exact .int _
def dEnum (f : DE → AR) : DE → AR := fun e => match f e with
  | .ok true [.lst l] => .ok true (enumD 0 l)
  | .exc c l => .exc c l
  | _ => .bad
theorem i_enum {ta : TA} {f : DE → AR} (h : DAr G W ta f) : DIt G W (iEnum G.K ta) (dEnum f) := by
  intro F0 H0 Hf H σ e E R post
  refine h F0 H0 Hf H σ e E _ ?_
  unfold dEnum at post
  cases q : f e with
  | ok p l =>
    rw [q] at post
    cases p with
    | false => exact post.elim
    | true =>
      match l, post with
      | [], post => exact post.elim
      | [d], post =>
        cases d <;> first | exact post.elim | skip
        intro Hf' H' vs g i
        cases i with
        | cons i j =>
          cases j
          cases i with
          | lst a b => exact ⟨_, _, rfl, SqL.of (g.s _ _ a), post Hf' H' _ g (it_enum fun Hf2 H2 s1 s2 => ⟨SqL.of (s2 _ _ (s1 _ _ a)), b.up s1⟩)⟩
      | a :: b :: l, post => cases a <;> exact post.elim
  | exc c l => rw [q] at post; exact post
  | bad => rw [q] at post; exact post
def zipD : List D → List D → List D
  | a :: l, b :: m => .tup [a, b] :: zipD l m
  | _, _ => []
theorem zipD_get : ∀ {l m : List D} {i : Nat} {d : D}, (zipD l m)[i]? = some d → ∃ x y, l[i]? = some x ∧ m[i]? = some y ∧ d = .tup [x, y]
  | [], _, _, _, h => by simp [zipD] at h
  | _ :: _, [], _, _, h => by simp [zipD] at h
  | a :: l, b :: m, 0, d, h => by simp [zipD] at h; subst h; exact ⟨a, b, rfl, rfl, rfl⟩
  | a :: l, b :: m, i + 1, d, h => by
    obtain ⟨x, y, h1, h2, h3⟩ := zipD_get (l := l) (m := m) (i := i) (d := d) (by simpa [zipD] using h)
    exact ⟨x, y, by simpa using h1, by simpa using h2, h3⟩
theorem zipD_len : ∀ (l m : List D), (zipD l m).length = min l.length m.length
  | [], _ => by simp [zipD]
  | _ :: _, [] => by simp [zipD]
  | a :: l, b :: m => by simp [zipD, zipD_len l m]
theorem it_zip {Hf1 : Hp} {a b : Addr} {vs ws : List V} {l m : List D} (h : ∀ Hf H, Same Hf1 Hf → Same Hf H → SqL G.K H a vs ∧ IsL G Hf vs l) (h' : ∀ Hf H, Same Hf1 Hf → Same Hf H → SqL G.K H b ws ∧ IsL G Hf ws m) : ItOk G Hf1 (Itz G.K a b) (zipD l m) := by
  intro i Hf H s1 s2
  obtain ⟨q, il⟩ := h Hf H s1 s2
  obtain ⟨q', im⟩ := h' Hf H s1 s2
  refine ⟨fun hi => ⟨vs, ws, q, q', by rw [il.len, im.len]; rw [zipD_len] at hi; omega⟩, fun d hd => ?_⟩
  obtain ⟨x, y, h1, h2, rfl⟩ := zipD_get hd
  obtain ⟨v, h3, h4⟩ := il.get h1
  obtain ⟨w, h5, h6⟩ := im.get h2
  refine ⟨⟨vs, ws, v, w, q, q', h3, h5⟩, fun y H' z => ?_⟩
  obtain ⟨T, v', w', rfl, hT, rfl, z, z'⟩ := z
  have := z vs q
  rw [h3] at this; cases this
  have := z' ws q'
  rw [h5] at this; cases this
  have sn := same_new (o := .tup [v, w]) (s2.free hT)
  exact ⟨_, Gro.new s2 hT, .tup (SqT.of upd_same) (.cons (h4.up sn) (.cons (h6.up sn) .nil))⟩
def dZip (f : DE → AR) : DE → AR := fun e => match f e with
  | .ok true [.lst l, .lst m] => .ok true (zipD l m)
  | .exc c l => .exc c l
  | _ => .bad
theorem i_zip {ta : TA} {f : DE → AR} (h : DAr G W ta f) : DIt G W (iZip G.K ta) (dZip f) := by
  intro F0 H0 Hf H σ e E R post
  refine h F0 H0 Hf H σ e E _ ?_
  unfold dZip at post
  cases q : f e with
  | ok p l =>
    rw [q] at post
    cases p with
    | false => exact post.elim
    | true =>
      match l, post with
      | [], post => exact post.elim
      | [d], post => cases d <;> exact post.elim
      | [d, d'], post =>
        cases d <;> first | exact post.elim | skip
        cases d' <;> first | exact post.elim | skip
        intro Hf' H' vs g i
        cases i with
        | cons i j =>
          cases j with
          | cons j k =>
            cases k
            cases i with
            | lst a b =>
              cases j with
              | lst a' b' => exact ⟨_, _, _, _, rfl, SqL.of (g.s _ _ a), SqL.of (g.s _ _ a'), post Hf' H' _ g (it_zip (fun Hf2 H2 s1 s2 => ⟨SqL.of (s2 _ _ (s1 _ _ a)), b.up s1⟩) (fun Hf2 H2 s1 s2 => ⟨SqL.of (s2 _ _ (s1 _ _ a')), b'.up s1⟩))⟩
      | a :: b :: c :: l, post => cases a <;> first | exact post.elim | (cases b <;> exact post.elim)
  | exc c l => rw [q] at post; exact post
  | bad => rw [q] at post; exact post
/-! ### for -/
def forD (b : D → DE → SR) : List D → DE → SR
  | [], e => .nx e
  | x :: xs, e => match b x e with
    | .nx e' => forD b xs e'
    | .ct e' => forD b xs e'
    | .bk e' => .nx e'
    | r => r
def tgB (t : D → DE → Option DE) (b : DE → SR) : D → DE → SR := fun d e => match t d e with
  | some e' => b e'
  | none => .bad
def sFor (src : DE → AR) (t : D → DE → Option DE) (b : DE → SR) : DE → SR := fun e => match src e with
  | .ok _ l => forD (tgB t b) l e
  | .exc c l => .exc c l e
  | .bad => .bad
theorem s_for {wi : TI} {g : TG} {tb : TS} {src : DE → AR} {js : List Nat} {t : D → DE → Option DE} {b : DE → SR} (hi : DIt G W wi src) (hg : DTg G g js t) (hb : DSt G W tb b) : DSt G W (tFor wi g tb) (sFor src t b) := by
  intro F0 H0 Hf H σ e E N post
  refine hi F0 H0 Hf H σ e E _ ?_
  unfold sFor at post
  cases q : src e with
  | ok p l =>
    rw [q] at post
    have post : SPost G W F0 H0 Hf N (forD (tgB t b) l e) := post
    intro Hf1 H1 J g1 it
    refine ⟨fun i m σ H => m = l.length - i ∧ i ≤ l.length ∧ ∃ Hf2 e2, Same Hf1 Hf2 ∧ EnvOk G F0 H0 Hf2 H σ e2 ∧ SPost G W F0 H0 Hf2 N (forD (tgB t b) (l.drop i) e2),
      ⟨l.length, by simp, Nat.zero_le _, Hf1, e, Same.refl _, E.up g1, SPost.mono g1.f post⟩, ?_⟩
    rintro i m σ2 H2 ⟨rfl, hi, Hf2, e2, s2, E2, p2⟩
    obtain ⟨i1, i2⟩ := it i Hf2 H2 s2 E2.s
    by_cases hlt : i < l.length
    · right
      have hd : l[i]? = some l[i] := List.getElem?_eq_getElem hlt
      obtain ⟨go, y⟩ := i2 _ hd
      rw [List.drop_eq_getElem_cons hlt] at p2
      refine ⟨go, fun σ' H' => i + 1 ≤ l.length ∧ ∃ Hf2 e2, Same Hf1 Hf2 ∧ EnvOk G F0 H0 Hf2 H' σ' e2 ∧ SPost G W F0 H0 Hf2 N (forD (tgB t b) (l.drop (i + 1)) e2), fun σ' H' h => ⟨l.length - (i + 1), by omega, rfl, h⟩, fun x H' hy => ?_⟩
      obtain ⟨Hf3, g3, i3⟩ := y x H' hy
      cases q3 : t l[i] e2 with
      | none =>
        have : forD (tgB t b) (l[i] :: l.drop (i + 1)) e2 = .bad := by
          unfold forD tgB; rw [q3]
        rw [this] at p2
        exact p2.elim
      | some e3 =>
        have tgb : tgB t b l[i] e2 = b e3 := by unfold tgB; rw [q3]
        refine hg F0 H0 Hf3 H' σ2 e2 x l[i] (E2.up g3) i3 _ e3 q3 fun Hf4 H4 σ4 g4 E4 _ _ => ?_
        refine hb F0 H0 Hf4 H4 σ4 e3 E4 _ ?_
        have p4 := SPost.mono (g3.f.trans g4.f) p2
        unfold forD at p4
        rw [tgb] at p4
        cases q5 : b e3 with
        | nx e5 => rw [q5] at p4; exact fun Hf6 H6 σ6 s6 E6 => ⟨hlt, Hf6, e5, (s2.trans (g3.f.trans g4.f)).trans s6, E6, SPost.mono s6 p4⟩
        | ct e5 => rw [q5] at p4; exact fun Hf6 H6 σ6 s6 E6 => ⟨hlt, Hf6, e5, (s2.trans (g3.f.trans g4.f)).trans s6, E6, SPost.mono s6 p4⟩
        | bk e5 => rw [q5] at p4; exact p4
        | rt m d => rw [q5] at p4; exact p4
        | exc c l e => rw [q5] at p4; exact p4
        | bad => rw [q5] at p4; exact p4
    · left
      have : i = l.length := by omega
      subst this
      refine ⟨i1 (Nat.le_refl _), ?_⟩
      rw [List.drop_length] at p2
      exact p2 Hf2 H2 σ2 (Same.refl _) E2
  | exc c l => rw [q] at post; exact fun Hf' H' x g o => post Hf' H' σ x g.f (E.up g) o
  | bad => rw [q] at post; exact post
/-! ### while -/
def whN (c : DE → ER) (b : DE → SR) : Nat → DE → Option SR
  | 0, _ => none
  | n + 1, e => match c e with
    | .val _ (.bl true) => (match b e with
      | .nx e' => whN c b n e'
      | .ct e' => whN c b n e'
      | .bk e' => some (.nx e')
      | r => some r)
    | .val _ (.bl false) => some (.nx e)
    | .exc k l => some (.exc k l e)
    | _ => some .bad
theorem whN_mono {c : DE → ER} {b : DE → SR} : ∀ {n m : Nat} {e : DE} {r : SR}, whN c b n e = some r → n ≤ m → whN c b m e = some r
  | 0, _, _, _, h, _ => by cases h
  | n + 1, 0, _, _, _, hm => by omega
  | n + 1, m + 1, e, r, h, hm => by
    unfold whN at h ⊢
    split at h
    · split at h
      · rename_i q; exact whN_mono h (by omega)
      · rename_i q; exact whN_mono h (by omega)
      · exact h
      · exact h
    · exact h
    · exact h
    · exact h
open Classical in
noncomputable def sWhile (c : DE → ER) (b : DE → SR) : DE → SR := fun e => if h : ∃ n r, whN c b n e = some r then Classical.choose (Classical.choose_spec h) else .bad
theorem sWhile_eq {c : DE → ER} {b : DE → SR} {n : Nat} {e : DE} {r : SR} (h : whN c b n e = some r) : sWhile c b e = r := by
  have hx : ∃ n r, whN c b n e = some r := ⟨n, r, h⟩
  unfold sWhile
  rw [dif_pos hx]
  have h2 := Classical.choose_spec (Classical.choose_spec hx)
  have h3 := whN_mono h (Nat.le_max_left n (Classical.choose hx))
  have h4 := whN_mono h2 (Nat.le_max_right n (Classical.choose hx))
  rw [h3] at h4
  exact (Option.some.inj h4).symm
theorem s_while {tc : TT} {tb : TS} {c : DE → ER} {b : DE → SR} (hc : DTt G W tc c) (hb : DSt G W tb b) : DSt G W (tWhile tc tb) (sWhile c b) := by
  intro F0 H0 Hf H σ e E N post
  unfold sWhile at post
  split at post
  · rename_i hx
    have h2 := Classical.choose_spec (Classical.choose_spec hx)
    generalize Classical.choose (Classical.choose_spec hx) = r at post h2
    generalize Classical.choose hx = n at h2
    refine ⟨fun m σ H => ∃ Hf2 e2, Same Hf Hf2 ∧ EnvOk G F0 H0 Hf2 H σ e2 ∧ whN c b m e2 = some r, ⟨n, Hf, e, Same.refl _, E, h2⟩, ?_⟩
    rintro m σ2 H2 ⟨Hf2, e2, s2, E2, w2⟩
    cases m with
    | zero => cases w2
    | succ m =>
      unfold whN at w2
      refine tst_st (N := N) hc E2 (fun k l q => ?_) ?_ fun k bb q Hf3 H3 g3 => ?_
      · rw [q] at w2
        cases w2
        exact SPost.mono s2 post
      · cases q : c e2 with
        | val k d =>
          rw [q] at w2
          cases d with
          | bl x => exact ⟨k, x, .inl rfl⟩
          | _ => cases w2; exact post.elim
        | exc k l => exact ⟨.P, true, .inr ⟨k, l, rfl⟩⟩
        | bad => rw [q] at w2; cases w2; exact post.elim
      · rw [q] at w2
        cases bb with
        | false =>
          cases w2
          exact iteF (post Hf3 H3 σ2 (s2.trans g3.f) (E2.up g3))
        | true =>
          refine iteT ⟨fun σ H => ∃ Hf4 e4, Same Hf Hf4 ∧ EnvOk G F0 H0 Hf4 H σ e4 ∧ whN c b m e4 = some r, fun σ' H' h => ⟨m, Nat.lt_succ_self _, h⟩, ?_⟩
          refine hb F0 H0 Hf3 H3 σ2 e2 (E2.up g3) _ ?_
          have s3 := s2.trans g3.f
          have w3 : (match b e2 with | .nx e' => whN c b m e' | .ct e' => whN c b m e' | .bk e' => some (.nx e') | r => some r) = some r := w2
          cases q5 : b e2 with
          | nx e5 => rw [q5] at w3; exact fun Hf6 H6 σ6 s6 E6 => ⟨Hf6, e5, s3.trans s6, E6, w3⟩
          | ct e5 => rw [q5] at w3; exact fun Hf6 H6 σ6 s6 E6 => ⟨Hf6, e5, s3.trans s6, E6, w3⟩
          | bk e5 => rw [q5] at w3; cases w3; exact SPost.mono s3 post
          | rt k d => rw [q5] at w3; cases w3; exact SPost.mono s3 post
          | exc k l e => rw [q5] at w3; cases w3; exact SPost.mono s3 post
          | bad => rw [q5] at w3; cases w3; exact post.elim
  · exact post.elim
end
end Dn
namespace Dn
open PySem PySem.Spec PyProof.Rows L2
section
variable {G : Gm} {W : WX}
abbrev W0 : WX := fun _ _ _ _ => False
theorem Gro.chg {Hf H Hf' H' : Hp} {p : Addr} {o : HO} (g : Gro Hf H Hf' H') (h : H p = none) (hf : Hf' p = none) : Gro Hf H Hf' (upd H' p o) :=
  ⟨g.f, fun a u e => by rw [upd_ne (ne_of_none e h)]; exact g.h _ _ e, fun a u e => by rw [upd_ne (ne_of_none e hf)]; exact g.s _ _ e, g.n⟩
theorem EnvOk.other {F0 H0 Hf H : Hp} {σ : L2.St} {e : DE} {p : Addr} {o : HO} (E : EnvOk G F0 H0 Hf H σ e) (h0 : H0 p = none) (hf : Hf p = none)
    (hne : ∀ (j : Nat) (m : List D), σ[j]? = some (some (.ref p)) → e[j]? = some (.own m) → False) : EnvOk G F0 H0 Hf (upd H p o) σ e := by
  refine ⟨E.gr.chg h0 hf, E.len, fun i x s a b => ?_, E.dis⟩
  have ok := E.at_ i x s a b
  cases s with
  | emp => trivial
  | exn => exact ok
  | val d => exact ok
  | own l =>
    obtain ⟨q, vs, rfl, a1, a2, a3, a4⟩ := ok
    have : q ≠ p := fun z => by subst z; exact hne i l a b
    exact ⟨q, vs, rfl, a1, a2, by rw [upd_ne this]; exact a3, a4⟩
/-! ### list comprehensions -/
def wipeE (e : DE) : List Nat → DE
  | [] => e
  | v :: vs => (wipeE e vs).set v .emp
theorem EnvOk.wipe {F0 H0 Hf H : Hp} {σ : L2.St} {e : DE} (E : EnvOk G F0 H0 Hf H σ e) : ∀ vs : List Nat, EnvOk G F0 H0 Hf H (L2.wipe σ vs) (wipeE e vs)
  | [] => E
  | v :: vs => (E.wipe vs).set (s := .emp) trivial (fun l z => nomatch z)
theorem wipe_agree {σ τ : L2.St} {vs js : List Nat} (hl : τ.length = σ.length) (hj : ∀ j ∈ js, j ∈ vs) (h : ∀ i, i ∉ js → τ[i]? = (L2.wipe σ vs)[i]?) (hl2 : τ.length = (L2.wipe σ vs).length) : L2.wipe τ vs = L2.wipe σ vs := by
  have key : ∀ (σ : L2.St) (us : List Nat) (i : Nat), i ∈ us → i < σ.length → (L2.wipe σ us)[i]? = some none := by
    intro σ us
    induction us with
    | nil => intro i h; cases h
    | cons v us ih =>
      intro i h hi
      unfold L2.wipe
      by_cases z : v = i
      · subst z
        rw [List.getElem?_set_self (by rw [L2.wipe_length]; exact hi)]
      · rw [List.getElem?_set_ne z]
        rcases List.mem_cons.mp h with rfl | h
        · exact absurd rfl z
        · exact ih i h hi
  apply List.ext_getElem?
  intro i
  by_cases hi : i ∈ vs
  · by_cases hlt : i < σ.length
    · rw [key τ vs i hi (by omega), key σ vs i hi hlt]
    · rw [List.getElem?_eq_none (by rw [L2.wipe_length]; omega), List.getElem?_eq_none (by rw [L2.wipe_length]; omega)]
  · rw [L2.wipe_out hi, h i (fun z => hi (hj i z))]
def lcStep (t : D → DE → Option DE) (c f : DE → ER) (e : DE) (d : D) : Option (Option D) := match t d e with
  | none => none
  | some e2 => (match c e2 with
    | .val _ (.bl b) => if b = true then (match f e2 with | .val .P y => some (some y) | .val .N y => some (some y) | _ => none) else some none
    | _ => none)
def lcGo (st : D → Option (Option D)) : List D → Option (List D)
  | [] => some []
  | d :: l => (st d).bind fun o => (lcGo st l).bind fun r => some (o.toList ++ r)
def dLc (src : DE → AR) (t : D → DE → Option DE) (c f : DE → ER) (vs : List Nat) : DE → ER := fun e => match src e with
  | .ok _ l => if l.length ≤ 1000000 then ofOpt (lcGo (lcStep t c f (wipeE e vs)) l) fun r => .val .N (.lst r) else .bad
  | .exc k l => .exc k l
  | .bad => .bad
theorem t_yes : DTt G W tYes (fun _ => .val .P (.bl true)) := fun F0 H0 Hf H σ e E Q post => post Hf H (Gro.refl E.s)
theorem v_lc {wi : TI} {g : TG} {tt : TT} {te : TE} {vs js : List Nat} {src : DE → AR} {t : D → DE → Option DE} {c f : DE → ER} (hi : DIt G W wi src) (hg : DTg G g js t) (hj : ∀ j ∈ js, j ∈ vs) (ht : DTt G W0 tt c) (he : DEv G W0 te f) : DEv G W (tLc wi g tt te vs) (dLc src t c f vs) := by
  intro F0 H0 Hf H σ e E Q post
  refine hi F0 H0 Hf H σ e E _ ?_
  unfold dLc at post
  cases q : src e with
  | ok p l =>
    rw [q] at post
    obtain ⟨hlen, post⟩ := RPost.cond _ _ post
    obtain ⟨out, hout, post⟩ := RPost.opt _ _ post
    intro Hf1 H1 J g1 it Dl hD
    have hDH : H Dl = none := g1.h.free hD
    have hD0 : H0 Dl = none := E.gr.h.free hDH
    have hDf : Hf1 Dl = none := g1.s.free hD
    have Ew := (E.up g1).wipe vs
    have hne : ∀ (j : Nat) (m : List D), (L2.wipe σ vs)[j]? = some (some (.ref Dl)) → (wipeE e vs)[j]? = some (.own m) → False := fun j m a b => by
      obtain ⟨o, h1, p', vs', h2, _, _, h3, _⟩ := Ew.slot b
      rw [a] at h1; cases h1
      cases h2
      rw [hD] at h3; cases h3
    refine ⟨fun i m H' => m = l.length - i ∧ i ≤ l.length ∧ ∃ Hf2 acc vacc rest, Same Hf1 Hf2 ∧ Gro Hf H Hf2 H' ∧ EnvOk G F0 H0 Hf2 H' (L2.wipe σ vs) (wipeE e vs) ∧ H' Dl = some (.lst vacc) ∧ IsL G Hf2 vacc acc ∧ Hf2 Dl = none ∧ acc.length ≤ i ∧
      lcGo (lcStep t c f (wipeE e vs)) (l.drop i) = some rest ∧ acc ++ rest = out, ⟨l.length, by simp, Nat.zero_le _, Hf1, [], [], out, Same.refl _, g1.chg hDH hDf, Ew.other hD0 hDf hne, upd_same, .nil, hDf, Nat.zero_le _, hout, rfl⟩, ?_⟩
    rintro i m H2 ⟨rfl, hi, Hf2, acc, vacc, rest, s2, g2, E2, d2, a2, n2, l2, r2, o2⟩
    obtain ⟨i1, i2⟩ := it i Hf2 H2 s2 E2.s
    by_cases hlt : i < l.length
    · right
      have hd : l[i]? = some l[i] := List.getElem?_eq_getElem hlt
      obtain ⟨go, y⟩ := i2 _ hd
      rw [List.drop_eq_getElem_cons hlt] at r2
      refine ⟨go, fun H' => i + 1 ≤ l.length ∧ ∃ Hf2 acc vacc rest, Same Hf1 Hf2 ∧ Gro Hf H Hf2 H' ∧ EnvOk G F0 H0 Hf2 H' (L2.wipe σ vs) (wipeE e vs) ∧ H' Dl = some (.lst vacc) ∧ IsL G Hf2 vacc acc ∧ Hf2 Dl = none ∧ acc.length ≤ i + 1 ∧
        lcGo (lcStep t c f (wipeE e vs)) (l.drop (i + 1)) = some rest ∧ acc ++ rest = out, fun H' h => ⟨l.length - (i + 1), by omega, rfl, h⟩, fun x H' hy => ?_⟩
      obtain ⟨Hf3, g3, i3⟩ := y x H' hy
      unfold lcGo at r2
      cases st : lcStep t c f (wipeE e vs) l[i] with
      | none => rw [st] at r2; cases r2
      | some o =>
        rw [st] at r2
        cases lg : lcGo (lcStep t c f (wipeE e vs)) (l.drop (i + 1)) with
        | none => rw [lg] at r2; cases r2
        | some rest' =>
          rw [lg] at r2
          have r3 : o.toList ++ rest' = rest := Option.some.inj r2
          unfold lcStep at st
          cases q3 : t l[i] (wipeE e vs) with
          | none => rw [q3] at st; cases st
          | some e3 =>
            rw [q3] at st
            refine hg F0 H0 Hf3 H' (L2.wipe σ vs) (wipeE e vs) x l[i] (E2.up g3) i3 _ e3 q3 fun Hf4 H4 σ4 g4 E4 l4 w4 => ?_
            refine ⟨wipe_agree (by rw [l4, L2.wipe_length]) hj w4 l4, ?_⟩
            refine ht F0 H0 Hf4 H4 σ4 e3 E4 _ ?_
            have st' : (match c e3 with
              | .val _ (.bl b) => if b = true then (match f e3 with | .val .P y => some (some y) | .val .N y => some (some y) | _ => none) else some none
              | _ => none) = some o := st
            cases q4 : c e3 with
            | exc k l => rw [q4] at st'; cases st'
            | bad => rw [q4] at st'; cases st'
            | val mm d =>
              rw [q4] at st'
              cases d with
              | bl b =>
                intro Hf5 H5 g5
                have gg := (g3.trans g4).trans g5
                cases b with
                | false =>
                  cases st'
                  refine iteF ⟨hlt, Hf5, acc, vacc, rest', s2.trans gg.f, g2.trans gg, E2.up gg, gg.h _ _ d2, a2.up gg.f, gg.n _ _ d2 n2, by omega, rfl, ?_⟩
                  rw [← o2, ← r3]; rfl
                | true =>
                  refine iteT (he F0 H0 Hf5 H5 σ4 e3 (E4.up g5) _ ?_)
                  have fin : ∀ y Hf6 H6 v, Gro Hf5 H5 Hf6 H6 → Is G Hf6 v y → o = some y → ∃ acc, H6 Dl = some (.lst acc) ∧ acc.length < sizeLine ∧ (i + 1 ≤ l.length ∧ ∃ Hf2 acc_1 vacc rest, Same Hf1 Hf2 ∧ Gro Hf H Hf2 (upd H6 Dl (.lst (acc ++ [v]))) ∧ EnvOk G F0 H0 Hf2 (upd H6 Dl (.lst (acc ++ [v]))) (L2.wipe σ vs) (wipeE e vs) ∧
                      upd H6 Dl (.lst (acc ++ [v])) Dl = some (.lst vacc) ∧ IsL G Hf2 vacc acc_1 ∧ Hf2 Dl = none ∧ acc_1.length ≤ i + 1 ∧ some rest' = some rest ∧ acc_1 ++ rest = out) := fun y Hf6 H6 v g6 i6 ho => by
                    subst ho
                    have gh := gg.trans g6
                    have nn := gh.n _ _ d2 n2
                    have cl := a2.len
                    refine ⟨vacc, gh.h _ _ d2, by rw [cl]; exact szlt (by omega), hlt, Hf6, acc ++ [y], vacc ++ [v], rest', s2.trans gh.f, (g2.trans gh).chg hDH nn, (E2.up gh).other hD0 nn hne, upd_same, (a2.up gh.f).append (.one i6), nn, by simp; omega, rfl, ?_⟩
                    rw [← o2, ← r3]
                    simp
                  have st2 : (match f e3 with | .val .P y => some (some y) | .val .N y => some (some y) | _ => none) = some o := st'
                  cases q6 : f e3 with
                  | val m6 y =>
                    rw [q6] at st2
                    intro Hf6 H6 v g6 o6
                    cases m6 with
                    | P => exact fin y Hf6 H6 v g6 o6 (Option.some.inj st2).symm
                    | B => cases st2
                    | N =>
                      obtain ⟨Hf7, g7, _, _, i7⟩ := o6.freeze g6 (by decide)
                      exact fin y Hf7 H6 v g7 i7 (Option.some.inj st2).symm
                  | exc k l => rw [q6] at st2; cases st2
                  | bad => rw [q6] at st2; cases st2
              | _ => cases st'
    · left
      have : i = l.length := by omega
      subst this
      refine ⟨i1 (Nat.le_refl _), ?_⟩
      rw [List.drop_length] at r2
      cases r2
      rw [List.append_nil] at o2
      subst o2
      exact post Hf2 H2 _ g2 ⟨Dl, vacc, acc, rfl, rfl, d2, a2, hDH, n2⟩
  | exc c l => rw [q] at post; exact post
  | bad => rw [q] at post; exact post
/-! ### raise -/
def sRaise (c : Nat) : DE → SR := fun e => .exc c [] e
theorem s_raise {c : Nat} {C : Addr} (hc : G.ca c = C) : DSt G W (fun _ σ H => (fun (_ : L2.St) (H : Hp) (Q : XK) => Q (.ref C) none H) σ H fun cls d H' => W cls d σ H') (sRaise c) := by
  intro F0 H0 Hf H σ e E N post
  subst hc
  exact post Hf H σ none (Same.refl _) E (.inl ⟨rfl, rfl⟩)
/-! ### a def -/
def SR.ret : SR → ER
  | .nx _ => .val .P .non
  | .rt m d => .val m d
  | .exc c l _ => .exc c l
  | _ => .bad
def startE (n : Nat) (ds : List D) : DE := ds.map .val ++ List.replicate (n - ds.length) .emp
/-- n parameters, N slots, the body g -/
def fnD (n N : Nat) (g : DE → SR) : List D → ER := fun ds => if ds.length = n then (g (startE N ds)).ret else .bad
theorem start_ok {N : List Str} {Hf H : Hp} {vs : List V} {ds : List D} (s : Same Hf H) (h : IsL G Hf vs ds) : EnvOk G Hf H Hf H (L2.start N vs) (startE N.length ds) := by
  have hl := h.len
  have noown : ∀ (j : Nat) (m : List D), (startE N.length ds)[j]? ≠ some (.own m) := fun j m z => by
    unfold startE at z
    rw [List.getElem?_append] at z
    split at z
    · rw [List.getElem?_map] at z
      cases q : ds[j]? <;> rw [q] at z <;> cases z
    · rw [List.getElem?_replicate] at z
      split at z <;> cases z
  refine ⟨Gro.refl s, by simp [L2.start, startE, hl], fun i o sl a b => ?_, fun i j p l m hij a b => absurd b (noown i l)⟩
  unfold L2.start at a
  unfold startE at b
  rw [List.getElem?_append] at a b
  rw [List.length_map] at a b
  split at a
  · rename_i hi
    rw [if_pos (by omega)] at b
    rw [List.getElem?_map] at a b
    cases q : vs[i]? with
    | none => rw [q] at a; cases a
    | some v =>
      obtain ⟨d, h1, h2⟩ := h.getV q
      rw [q] at a; rw [h1] at b
      cases a; cases b
      exact ⟨v, rfl, h2⟩
  · rename_i hi
    rw [if_neg (by omega)] at b
    rw [List.getElem?_replicate] at b
    split at b
    · cases b; trivial
    · cases b
theorem fn_ok {P : Program} {w : World} {K : PySem.W.Frag} {mg : Str → Option Value} {base : Heap} {x qual : Str} {st : Stmt} {f : Addr} {fd : FuncData} {N ps : List Str} {k : Nat} {g : DE → SR} {n : Nat} (hn : ps.length = n) {m : Nat} (hm : N.length = m)
    (F : Fun K x qual st f fd) (S : FnScope N ps (defScope st))
    (hbody : ∀ (cdv : Value) (A : Around) (outer : List Env) (s : Shared) (H : Hp) (E : XK), Room k (A.deeper (envOfC qual (defScope st) s.heap.objs.size f cdv)) →
      ∃ t, PSs (cxOf (L2.CX P w) P w K mg base N qual (defScope st) f cdv A outer s H E) (defBody st) t ∧ DSt G (fun c x _ H => E c x H) t g) : FnOk P w K mg base (L2.CX P w) (k + 1) f fd ps (spF G (fnD n m g)) := by
  subst hn hm
  refine F.okX S (fun vs H Q E h => ?_) fun cdv A outer s H vs Q E hr h => ?_
  · obtain ⟨Hf, ds, s, i, p⟩ := h
    unfold fnD at p
    split at p
    · rename_i hl; rw [i.len]; exact hl
    · exact p.elim
  · obtain ⟨t, h1, h2⟩ := hbody cdv A outer s H E hr
    obtain ⟨Hf, ds, s, i, p⟩ := h
    obtain ⟨hl, p⟩ := RPost.cond _ _ p
    refine ⟨t, h1, h2 Hf H Hf H _ _ (start_ok s i) _ ?_⟩
    cases q : g (startE N.length ds) with
    | nx e => rw [q] at p; exact fun Hf' H' σ' s' E' => p Hf' H' .non E'.gr .non
    | rt m d => rw [q] at p; exact fun Hf' H' v s' g' o => p Hf' H' v g' o
    | bk e => rw [q] at p; exact p.elim
    | ct e => rw [q] at p; exact p.elim
    | exc c l e => rw [q] at p; exact fun Hf' H' σ' x s' E' o => p Hf' H' x E'.gr o
    | bad => rw [q] at p; exact p.elim
end
end Dn
namespace Dn
open PySem PySem.Spec PyProof.Rows L2
/-! ### calls with keywords and defaults -/
def pickL {α : Type} (idx : List Nat) (l : List α) : List α := idx.filterMap fun k => l[k]?
/-- how a call of n values and the keywords ks binds: the parameters by their places in values, keywords' values, defaults -/
structure CallB (K : PySem.W.Frag) (fd : FuncData) (ps : List Str) (n : Nat) (ks : List Str) (idx : List Nat) (dvs : List V) : Prop where
  ex : ∃ its : List Value, Vals dvs its ∧ ∀ (s : Shared) (us ws : List Value), K.In s.heap → us.length = n → ws.length = ks.length → BindsTo s fd ⟨us, ks.zip ws⟩ (ps.zip (pickL idx (us ++ ws ++ its)))
theorem vals_pick {vs : List V} {us : List Value} (h : Vals vs us) : ∀ idx : List Nat, Vals (pickL idx vs) (pickL idx us)
  | [] => .nil
  | k :: idx => by
    have ih := vals_pick h idx
    unfold pickL at ih ⊢
    rw [List.filterMap_cons, List.filterMap_cons]
    cases q : vs[k]? with
    | none => rw [h.none_of q]; exact ih
    | some v => obtain ⟨u, h1, h2⟩ := h.get q; rw [h1]; exact .cons h2 ih
theorem isL_pick {G : Gm} {H : Hp} {vs : List V} {ds : List D} (h : IsL G H vs ds) : ∀ idx : List Nat, IsL G H (pickL idx vs) (pickL idx ds)
  | [] => .nil
  | k :: idx => by
    have ih := isL_pick h idx
    unfold pickL at ih ⊢
    rw [List.filterMap_cons, List.filterMap_cons]
    cases q : ds[k]? with
    | none =>
      have : vs[k]? = none := by
        rw [List.getElem?_eq_none_iff] at q ⊢
        rw [h.len]; exact q
      rw [this]; exact ih
    | some d => obtain ⟨u, h1, h2⟩ := h.get q; rw [h1]; exact .cons h2 ih
def toV : D → V
  | .bl b => .bl b
  | .int i => .int i
  | .str x => .str x
  | _ => .non
theorem is_toV {G : Gm} {H : Hp} {d : D} (h : flat d = true) : Is G H (toV d) d := by
  cases d <;> first | exact .non | exact .bl _ | exact .int _ | exact .str _ | cases h
theorem isL_toV {G : Gm} {H : Hp} : ∀ {ds : List D}, ds.all flat = true → IsL G H (ds.map toV) ds
  | [], _ => .nil
  | d :: ds, h => by
    have h' : flat d = true ∧ ds.all flat = true := by simpa using h
    exact .cons (is_toV h'.1) (isL_toV h'.2)
def tCallG (n m : Nat) (idx : List Nat) (dvs : List V) (sp : Sp) (E : L2.St → XK) (t tk : TA) : TE := fun σ H Q => t σ H fun vs H1 => tk σ H1 fun zs H2 => vs.length = n ∧ zs.length = m ∧ sp (pickL idx (vs ++ zs ++ dvs)) H2 Q (E σ)
section
variable {X : Cx} {CX : CXT} {k n : Nat} {f : Addr} {fd : FuncData} {ps ks : List Str} {idx : List Nat} {dvs : List V} {sp : Sp} {E : L2.St → XK} {x : Str} {p pos : Pos} {e : Expr} {es : List Expr} {kws : List Keyword} {t tk : TA}
theorem run_fnG {pins : List (Addr × Obj)} {σ : L2.St} {H : Hp} {s : Shared} {Q : VK} {us ws : List Value} {vs zs : List V} (F : FnOk X.prog X.w X.K X.mg X.base CX k f fd ps sp) (hr : Room k X.A) (hb : CallB X.K fd ps n ks idx dvs) (hx : PassesAt CX X σ (E σ))
    (I : Inv X pins σ H s) (r : Vals vs us) (rz : Vals zs ws) (l1 : vs.length = n) (l2 : zs.length = ks.length) (h : sp (pickL idx (vs ++ zs ++ dvs)) H Q (E σ)) : wpAny (model X.prog X.w) X.A (call (.ref f) us (ks.zip ws)) (EP X pins σ Q) X.xe s := by
  obtain ⟨its, rd, hb⟩ := hb.ex
  refine wpAny_call (codeAny_mono (F.run X.A X.stack s H ⟨us, ks.zip ws⟩ (pickL idx (us ++ ws ++ its)) (pickL idx (vs ++ zs ++ dvs)) Q (E σ) hr I.env0 (hb s us ws I.kIn (r.length.symm.trans l1) (rz.length.symm.trans l2)) (vals_pick ((r.append rz).append rd) idx) h) fun r s' hq => ?_)
  cases r with
  | error e => exact hx pins H s e s' I hq
  | ok fl =>
    cases fl with
    | ret u => exact I.after hq
    | next => exact False.elim hq
    | brk => exact False.elim hq
    | cont => exact False.elim hq
theorem pe_gN (F : FnOk X.prog X.w X.K X.mg X.base CX k f fd ps sp) (hr : Room k X.A) (hg : Gl X x) (hm : X.mg x = some (.ref f)) (hk : PySem.W.keepIn X.K (.ref f) = true) (hb : CallB X.K fd ps n [] idx dvs) (hx : ∀ σ, PassesAt CX X σ (E σ))
    (ha : PA X (e :: es) t) (hdb : (x == ("__debug__" : Str)) = false := by decide) (he : starEach (e :: es) X.env = (false, eval e X.env) :: starEach es X.env := by rfl) (hpl : (backTo pos (starEach es X.env)).any (·.1) = false := by rfl) :
    PE X (.Call (.Name x p) (e :: es) [] pos) (tCallG n 0 idx dvs sp E t tNil) := by
  refine ⟨fun pins s σ H Q I h => ?_⟩
  refine wpAny_Call_Name_kw (ld_glob I hg hm ?_ hdb)
  refine PySem.W.callWith_K (h₀ := X.base) I.ok.mod.kin hk (thn (ha.run pos pins s σ H _ I h) fun us s1 ⟨vs, H1, I1, r, l1, l2, q⟩ => ⟨I1.kIn, ?_⟩) he hpl
  exact run_fnG (ks := []) (ws := []) (zs := []) F hr hb (hx σ) I1 r .nil l1 rfl q
theorem pe_gK {m : Nat} (F : FnOk X.prog X.w X.K X.mg X.base CX k f fd ps sp) (hr : Room k X.A) (hg : Gl X x) (hm : X.mg x = some (.ref f)) (hk : PySem.W.keepIn X.K (.ref f) = true) (hb : CallB X.K fd ps n ks idx dvs) (hx : ∀ σ, PassesAt CX X σ (E σ))
    (ha : PA X (e :: es) t) (hkw : PK X kws tk) (hall : (backToKw pos (keywordEach kws X.env)).all (·.1.isSome) = true := by rfl) (hks : (backToKw pos (keywordEach kws X.env)).filterMap (·.1) = ks := by rfl)
    (hdb : (x == ("__debug__" : Str)) = false := by decide) (he : starEach (e :: es) X.env = (false, eval e X.env) :: starEach es X.env := by rfl)
    (hpl : ((backTo pos (starEach (e :: es) X.env)).any (·.1) || (backToKw pos (keywordEach kws X.env)).any (·.1.isNone)) = false := by rfl) (hm2 : ks.length = m := by rfl) :
    PE X (.Call (.Name x p) (e :: es) kws pos) (tCallG n m idx dvs sp E t tk) := by
  subst hm2
  refine ⟨fun pins s σ H Q I h => ?_⟩
  refine wpAny_Call_Name_kw (ld_glob I hg hm ?_ hdb)
  refine PySem.W.callWith_KW (h₀ := X.base) I.ok.mod.kin hk hall (thn (ha.run pos pins s σ H _ I h) fun us s1 ⟨vs, H1, I1, r, q⟩ => ?_) hpl he
  refine thn (hkw.run pos pins s1 σ H1 _ I1 q) fun ws s2 ⟨zs, H2, I2, rz, l1, l2, q2⟩ => ⟨I2.kIn, ?_⟩
  rw [hks]
  exact run_fnG F hr hb (hx σ) I2 r rz l1 l2 q2
end
end Dn
namespace Dn
open PySem PySem.Spec PyProof.Rows L2
section
variable {X : Cx} {CX : CXT} {k n : Nat} {f : Addr} {fd : FuncData} {ps ks : List Str} {idx : List Nat} {dvs : List V} {sp : Sp} {E : L2.St → XK} {x : Str} {p pos : Pos} {e : Expr} {es : List Expr} {kws : List Keyword} {t tk : TA}
theorem pe_gK0 {m : Nat} (F : FnOk X.prog X.w X.K X.mg X.base CX k f fd ps sp) (hr : Room k X.A) (hg : Gl X x) (hm : X.mg x = some (.ref f)) (hk : PySem.W.keepIn X.K (.ref f) = true) (hb : CallB X.K fd ps 0 ks idx dvs) (hx : ∀ σ, PassesAt CX X σ (E σ))
    (hkw : PK X kws tk) (hall : (backToKw pos (keywordEach kws X.env)).all (·.1.isSome) = true := by rfl) (hks : (backToKw pos (keywordEach kws X.env)).filterMap (·.1) = ks := by rfl)
    (hdb : (x == ("__debug__" : Str)) = false := by decide)
    (hpl : ((backTo pos (starEach [] X.env)).any (·.1) || (backToKw pos (keywordEach kws X.env)).any (·.1.isNone)) = false := by rfl) (hm2 : ks.length = m := by rfl) :
    PE X (.Call (.Name x p) [] kws pos) (tCallG 0 m idx dvs sp E tNil tk) := by
  subst hm2
  refine ⟨fun pins s σ H Q I h => ?_⟩
  refine wpAny_Call_Name_kw (ld_glob I hg hm ?_ hdb)
  refine PySem.W.callWith_KW0 (h₀ := X.base) I.ok.mod.kin hk hall (thn (hkw.run pos pins s σ H _ I h) fun ws s2 ⟨zs, H2, I2, rz, l1, l2, q2⟩ => ⟨I2.kIn, ?_⟩) hpl
  rw [hks]
  exact run_fnG (us := []) (vs := []) F hr hb (hx σ) I2 .nil rz rfl l2 q2
theorem pe_g0 (F : FnOk X.prog X.w X.K X.mg X.base CX k f fd ps sp) (hr : Room k X.A) (hg : Gl X x) (hm : X.mg x = some (.ref f)) (hk : PySem.W.keepIn X.K (.ref f) = true) (hb : CallB X.K fd ps 0 [] idx dvs) (hx : ∀ σ, PassesAt CX X σ (E σ))
    (hdb : (x == ("__debug__" : Str)) = false := by decide) : PE X (.Call (.Name x p) [] [] pos) (tCallG 0 0 idx dvs sp E tNil tNil) := by
  refine ⟨fun pins s σ H Q I h => ?_⟩
  refine wpAny_Call_Name_kw (ld_glob I hg hm ?_ hdb)
  obtain ⟨l1, l2, q⟩ := h
  exact PySem.W.callWith_K0 I.kIn hk (run_fnG (ks := []) (us := []) (vs := []) (ws := []) (zs := []) F hr hb (hx σ) I .nil .nil rfl rfl q)
end
section
variable {G : Gm} {W : WX}
def AR.cat (a b : AR) : AR := match a with
  | .ok p l => (match b with
    | .ok q m => .ok (p && q) (l ++ m)
    | .exc c l => .exc c l
    | .bad => .bad)
  | .exc c l => .exc c l
  | .bad => .bad
def dCallG (F : List D → ER) (n m : Nat) (idx : List Nat) (dd : List D) (f g : DE → AR) : DE → ER := fun e => match f e with
  | .ok p l => (match g e with
    | .ok q z => if l.length = n ∧ z.length = m then (if (p && q) = true then F (pickL idx (l ++ z ++ dd)) else (F (pickL idx (l ++ z ++ dd))).flatOnly) else .bad
    | .exc c l => .exc c l
    | .bad => .bad)
  | .exc c l => .exc c l
  | .bad => .bad
theorem UL.len {Hf H : Hp} : ∀ {ds : List D} {vs : List V}, UL G Hf H vs ds → vs.length = ds.length
  | [], _, h => by cases h; rfl
  | d :: ds, _, h => by cases h with | cons a b => exact congrArg Nat.succ b.len
theorem UL.up {Hf H Hf' H' : Hp} (g : Gro Hf H Hf' H') : ∀ {ds : List D} {vs : List V}, UL G Hf H vs ds → UL G Hf' H' vs ds
  | [], _, h => by cases h; exact .nil
  | d :: ds, _, h => by cases h with | cons a b => exact .cons (a.up g) (UL.up g b)
/-- what a def promises, from its values -/
theorem sp_post {F : List D → ER} {E : XK} {Hf H : Hp} {σ : L2.St} {Q : VK} {vs : List V} {ds : List D} {p : Bool} (s : Same Hf H) (hp : p = true → IsL G Hf vs ds) (hu : IsL G H vs ds)
    (post : RPost G W Hf H σ Q (if p = true then F ds else (F ds).flatOnly)) (hE : ∀ c x H', W c x σ H' → E c x H') : spF G F vs H Q E := by
  cases p with
  | true =>
    rw [if_pos rfl] at post
    exact ⟨Hf, ds, s, hp rfl, post.w (fun c x H' h => hE c x H' h)⟩
  | false =>
    rw [if_neg Bool.false_ne_true] at post
    refine ⟨H, ds, Same.refl _, hu, ?_⟩
    have gg : ∀ {Hf' H' : Hp}, Gro H H Hf' H' → Gro Hf H Hf H' := fun g => ⟨Same.refl _, g.h, s.trans g.h, fun _ _ _ z => z⟩
    cases r : F ds with
    | val m d =>
      rw [r] at post
      obtain ⟨c, post2⟩ := RPost.cond (Dn.flat d = true) (.val .P d) post
      exact fun Hf' H' v g o => post2 Hf H' v (gg g) ((o.u.is g.s).flat Hf c)
    | exc c l2 =>
      rw [r] at post
      cases l2 with
      | nil =>
        intro Hf' H' x g o
        refine hE _ _ _ (post Hf H' x (gg g) ?_)
        rcases o with o | ⟨_, _, _, z, _⟩
        · exact .inl o
        · exact absurd rfl z
      | cons a b => exact post.elim
    | bad => rw [r] at post; exact post.elim
theorem APost.all {Hf H : Hp} {σ : L2.St} {Q : List V → Hp → Prop} {p : Bool} {l : List D} (h : ∀ Hf' H' vs, Gro Hf H Hf' H' → (p = true → IsL G Hf' vs l) → UL G Hf' H' vs l → Q vs H') : APost G W Hf H σ Q (.ok p l) := by
  cases p with
  | true => exact fun Hf' H' vs g i => h Hf' H' vs g (fun _ => i) i.ul
  | false => exact fun Hf' H' vs g i => h Hf' H' vs g (fun z => nomatch z) i
theorem v_callG {F : List D → ER} {n m : Nat} {idx : List Nat} {dd : List D} {ta tk : TA} {f g : DE → AR} (hd : dd.all flat = true) (ha : DAr G W ta f) (hk : DAr G W tk g) : DEv G W (tCallG n m idx (dd.map toV) (spF G F) (WE W) ta tk) (dCallG F n m idx dd f g) := by
  intro F0 H0 Hf H σ e E Q post
  refine ha F0 H0 Hf H σ e E _ ?_
  unfold dCallG at post
  cases q : f e with
  | ok p l =>
    rw [q] at post
    refine APost.all fun Hf1 H1 vs g1 i1 u1 => ?_
    refine hk F0 H0 Hf1 H1 σ e (E.up g1) _ ?_
    cases q2 : g e with
    | ok p2 z =>
      simp only [q2] at post
      obtain ⟨c, post⟩ := RPost.cond _ _ post
      refine APost.all fun Hf2 H2 zs g2 i2 u2 => ⟨by rw [u1.len]; exact c.1, by rw [u2.len]; exact c.2, ?_⟩
      refine sp_post (p := p && p2) g2.s (fun h => ?_) ?_ (RPost.step (g1.trans g2) post) fun _ _ _ h => h
      · have h' : p = true ∧ p2 = true := by simpa using h
        exact isL_pick ((((i1 h'.1).up g2.f).append (i2 h'.2)).append (isL_toV hd)) idx
      · exact isL_pick ((((u1.up g2).is g2.s).append (u2.is g2.s)).append (isL_toV hd)) idx
    | exc c l => simp only [q2] at post; exact RPost.step (r := .exc c l) g1 post
    | bad => simp only [q2] at post; exact post
  | exc c l => rw [q] at post; exact post
  | bad => rw [q] at post; exact post
/-! ### isinstance -/
def tyN : D → String
  | .non => "NoneType"
  | .bl _ => "bool"
  | .int _ => "int"
  | .str _ => "str"
  | .tup _ => "tuple"
  | .lst _ => "list"
  | .scr _ => "list"
  | .obj _ _ => "object"
def isT (T : String) : D → ER
  | .obj _ _ => .bad
  | .scr _ => .bad
  | d => ofOpt (kitB (tyN d) T) fun b => .val .P (.bl b)
def plainT : D → Prop
  | .obj _ _ => False
  | .scr _ => False
  | _ => True
theorem tyX_of {Hf H : Hp} {v : V} {d : D} (s : Same Hf H) (h : U G Hf H v d) (hd : plainT d) : TyX G.K H v (.type (tyN d)) := by
  have i := h.is s
  cases i with
  | non => exact .base .non
  | bl b => exact .base (.bl b)
  | int i => exact .base (.int i)
  | str x => exact .base (.str x)
  | tup a b =>
    rcases a with (a | ⟨o, a⟩) | ⟨o, its, n, hk, hc, _⟩
    · exact .base (.tup a)
    · exact .fTuple a
    · exact .kTuple hk hc
  | lst a b => exact .base (.lst a)
  | obj a l b => exact hd.elim
  | scr a => exact hd.elim
def dIsi (T : String) (f : DE → ER) : DE → ER := fun e => (f e).bind (isT T)
theorem v_isi {T : String} {te : TE} {f : DE → ER} (h : DEv G W te f) : DEv G W (tCB (rIsi G.K) (tCons te (tCons (tC (.ty T)) tNil))) (dIsi T f) := by
  intro F0 H0 Hf H σ e E Q post
  refine h F0 H0 Hf H σ e E _ (RPost.bind post fun m d Hf1 H1 v g1 o1 p1 => ?_)
  have key : ∀ (hd : plainT d) (p1 : RPost G W Hf1 H1 σ Q (ofOpt (kitB (tyN d) T) fun b => .val .P (.bl b))), rIsi G.K [v, .ty T] H1 Q := fun hd p1 => by
    obtain ⟨b, hb, p1⟩ := RPost.opt _ _ p1
    exact ⟨v, .ty T, _, _, b, rfl, .ty T, tyX_of g1.s o1.u hd, kit_ty hb, p1.now g1.s (.bl _)⟩
  cases d <;> first | exact key trivial p1 | exact p1.elim
/-! ### try .. except X as n -/
def clr (e : DE) : DE := e.map fun s => match s with | .exn => .emp | s => s
theorem SlotOk.ea {H0 Hf H : Hp} {o : Option V} {s : SL} (x : Addr) (h : SlotOk G H0 Hf H o s) (hs : s ≠ .exn) : SlotOk (G.at_ x) H0 Hf H o s := by
  cases s with
  | emp => trivial
  | exn => exact absurd rfl hs
  | val d => obtain ⟨v, a, b⟩ := h; exact ⟨v, a, b.ea x⟩
  | own l => obtain ⟨p, vs, a, b, c, d, e⟩ := h; exact ⟨p, vs, a, b, c, d, e.ea x⟩
theorem clr_get {e : DE} {i : Nat} {s : SL} (h : (clr e)[i]? = some s) : s ≠ .exn ∧ (s = .emp ∨ e[i]? = some s) := by
  unfold clr at h
  rw [List.getElem?_map] at h
  cases q : e[i]? with
  | none => rw [q] at h; cases h
  | some s' =>
    rw [q] at h
    cases s' <;> cases h <;> first | exact ⟨(fun z => nomatch z), .inl rfl⟩ | exact ⟨(fun z => nomatch z), .inr rfl⟩
/-- into an except suite, and out of it -/
theorem EnvOk.ea {F0 H0 Hf H : Hp} {σ : L2.St} {e : DE} (x : Addr) (E : EnvOk G F0 H0 Hf H σ e) : EnvOk (G.at_ x) F0 H0 Hf H σ (clr e) := by
  refine ⟨E.gr, by rw [E.len]; simp [clr], fun i o s a b => ?_, fun i j p l m hij a b c d => ?_⟩
  · obtain ⟨h1, h2 | h2⟩ := clr_get b
    · subst h2; trivial
    · exact (E.at_ i o s a h2).ea x h1
  · obtain ⟨_, h2 | h2⟩ := clr_get b
    · cases h2
    · obtain ⟨_, h3 | h3⟩ := clr_get d
      · cases h3
      · exact E.dis i j p l m hij a h2 c h3
theorem at_at (a : Addr) : (G.at_ a).at_ G.ea = G := rfl
/-- h c l: the suite, where it holds an error of the class c with the fields l -/
def sTryAs (i : Nat) (catch? : Nat → Option Bool) (g : DE → SR) (h : Nat → List D → DE → SR) : DE → SR := fun e => match g e with
  | .exc c l e1 => (match catch? c with
    | some true => (match h c l ((clr e1).set i .exn) with
      | .nx e2 => .nx ((clr e2).set i .emp)
      | .bk e2 => .bk ((clr e2).set i .emp)
      | .ct e2 => .ct ((clr e2).set i .emp)
      | .rt m d => .rt m d
      | _ => .bad)
    | some false => .exc c l e1
    | none => .bad)
  | r => r
theorem VOk.ea {H0 Hf H : Hp} {m : Md} {v : V} {d : D} (x : Addr) (h : VOk G H0 Hf H m v d) : VOk (G.at_ x) H0 Hf H m v d := by
  cases m with
  | P => exact Is.ea x _ h
  | B => obtain ⟨p, vs, l, a, b, c, e⟩ := h; exact ⟨p, vs, l, a, b, c, e.ea x⟩
  | N => obtain ⟨p, vs, l, a, b, c, e, n, z⟩ := h; exact ⟨p, vs, l, a, b, c, e.ea x, n, z⟩
theorem s_tryAs {i : Nat} {C : Value} {tb : WX → TS} {ts : Addr → Value → Option Addr → TS} {catch? : Nat → Option Bool} {g : DE → SR} {h : Nat → List D → DE → SR} (hb : ∀ W, DSt G W (tb W) g)
    (hc : ∀ c b, catch? c = some b → PySem.W.exmOne G.K (.ref (G.ca c)) C = some b)
    (hs : ∀ c l a x Hf, catch? c = some true → ExcOk G Hf c l x → ∀ F0 H0 H σ e, EnvOk (G.at_ a) F0 H0 Hf H σ e → ∀ N : Ends, SPost (G.at_ a) W0 F0 H0 Hf N (h c l e) → ts a (.ref (G.ca c)) x N σ H) :
    DSt G W (fun N σ H => tb (wAs G.K C i ts W N) N σ H) (sTryAs i catch? g h) := by
  intro F0 H0 Hf H σ e E N post
  refine hb _ F0 H0 Hf H σ e E N ?_
  unfold sTryAs at post
  cases q : g e with
  | nx e1 => rw [q] at post; exact post
  | rt m d => rw [q] at post; exact post
  | bk e1 => rw [q] at post; exact post
  | ct e1 => rw [q] at post; exact post
  | bad => rw [q] at post; exact post
  | exc c l e1 =>
    simp only [q] at post
    intro Hf1 H1 σ1 x s1 E1 ox
    cases q2 : catch? c with
    | none => simp only [q2] at post; exact post.elim
    | some b =>
      refine ⟨b, hc c b q2, fun hbt a ha => ?_, fun hbf => ?_⟩
      · subst hbt
        simp only [q2] at post
        have E2 := (E1.ea a).set (i := i) (o := some (.ref a)) (s := .exn) rfl (fun l z => nomatch z)
        refine hs c l a x Hf1 q2 ox F0 H0 H1 _ _ E2 _ ?_
        have back : ∀ {Hf' H' : Hp} {σ' : L2.St} {e2 : DE}, EnvOk (G.at_ a) F0 H0 Hf' H' σ' e2 → EnvOk G F0 H0 Hf' H' (σ'.set i none) ((clr e2).set i .emp) := fun E' =>
          EnvOk.set (G := G) (s := .emp) (E'.ea G.ea) trivial (fun l z => nomatch z)
        cases q3 : h c l ((clr e1).set i .exn) with
        | nx e2 => rw [q3] at post; exact fun Hf' H' σ' s' E' => post Hf' H' _ (s1.trans s') (back E')
        | bk e2 => rw [q3] at post; exact fun Hf' H' σ' s' E' => post Hf' H' _ (s1.trans s') (back E')
        | ct e2 => rw [q3] at post; exact fun Hf' H' σ' s' E' => post Hf' H' _ (s1.trans s') (back E')
        | rt m d => rw [q3] at post; exact fun Hf' H' v s' g' o => post Hf' H' v (s1.trans s') g' (o.ea G.ea)
        | exc c2 l2 e2 => rw [q3] at post; exact post.elim
        | bad => rw [q3] at post; exact post.elim
      · subst hbf
        simp only [q2] at post
        exact post Hf1 H1 σ1 x s1 E1 ox
/-- isinstance(e, C) in the suite, of an error without fields -/
def rIsEx (K : PySem.W.Frag) (a : Addr) (cls : Value) (d : Option Addr) : List V → Hp → VK → Prop := fun xs H Q => ∃ D, cls = .ref D ∧ d = none ∧ ExcC K D ∧ rIsE K D a xs H Q
theorem call_isEx {X : Cx} {a : Addr} {cls : Value} {d : Option Addr} {oe : Obj} {pn : List (Addr × Obj)} (hz : Zc cls d oe) (hf : ∃ vs, oe.data = .fields vs) : CallR (X.suite a ((a, oe) :: pn)) (.builtin "isinstance") (rIsEx X.K a cls d) := by
  intro pins s σ H xs us Q I r h
  obtain ⟨D, rfl, rfl, C, h⟩ := h
  exact call_isE C hz hf pins s σ H xs us Q I r h
/-- the answer by a table -/
def dIsE (i : Nat) (b : Option Bool) : DE → ER := fun e => match e[i]? with
  | some .exn => ofOpt b fun b => .val .P (.bl b)
  | _ => .bad
theorem v_isE {i : Nat} {b : Option Bool} {c : Nat} {a : Addr} {C : V} {cv : Value} (T : ExcC G.K (G.ca c)) (hC : ∀ u, RelV C u → u = cv) (hb : ∀ r, b = some r → PySem.W.kitOne G.K (.ref (G.ca c)) cv = some r) :
    DEv (G.at_ a) W (tCB (rIsEx G.K a (.ref (G.ca c)) none) (tCons (tVar i) (tCons (tC C) tNil))) (dIsE i b) := by
  intro F0 H0 Hf H σ e E Q post
  unfold dIsE at post
  split at post
  · rename_i q
    obtain ⟨o, h1, h2⟩ := E.slot q
    have h2 : o = some (.ref a) := h2
    subst h2
    obtain ⟨r, hr, post⟩ := RPost.opt _ _ post
    exact ⟨_, h1, G.ca c, rfl, rfl, T, C, cv, r, rfl, hC, hb r hr, post.now E.s (.bl _)⟩
  · exact post.elim
end
/-! ### a def with defaults -/
theorem fn_okD {G : Gm} {P : Program} {w : World} {K : PySem.W.Frag} {mg : Str → Option Value} {base : Heap} {x qual : Str} {params : Arguments} {body : List Stmt} {scope : Scope} {dvs : List V} {f : Addr} {fd : FuncData} {N ps : List Str} {k : Nat} {g : DE → SR} {n : Nat} (hn : ps.length = n) {m : Nat} (hm : N.length = m)
    (F : FunD K x qual params body scope dvs [] f fd) (S : FnScope N ps scope)
    (hbody : ∀ (cdv : Value) (A : Around) (outer : List Env) (s : Shared) (H : Hp) (E : XK), Room k (A.deeper (envOfC qual scope s.heap.objs.size f cdv)) →
      ∃ t, PSs (cxOf (L2.CX P w) P w K mg base N qual scope f cdv A outer s H E) body t ∧ DSt G (fun c x _ H => E c x H) t g) : FnOk P w K mg base (L2.CX P w) (k + 1) f fd ps (spF G (fnD n m g)) := by
  subst hn hm
  refine F.ok S (fun vs H Q E h => ?_) fun cdv A outer s H vs Q E hr h => ?_
  · obtain ⟨Hf, ds, s, i, p⟩ := h
    unfold fnD at p
    split at p
    · rename_i hl; rw [i.len]; exact hl
    · exact p.elim
  · obtain ⟨t, h1, h2⟩ := hbody cdv A outer s H E hr
    obtain ⟨Hf, ds, s, i, p⟩ := h
    obtain ⟨hl, p⟩ := RPost.cond _ _ p
    refine ⟨t, h1, h2 Hf H Hf H _ _ (start_ok s i) _ ?_⟩
    cases q : g (startE N.length ds) with
    | nx e => rw [q] at p; exact fun Hf' H' σ' s' E' => p Hf' H' .non E'.gr .non
    | rt m d => rw [q] at p; exact fun Hf' H' v s' g' o => p Hf' H' v g' o
    | bk e => rw [q] at p; exact p.elim
    | ct e => rw [q] at p; exact p.elim
    | exc c l e => rw [q] at p; exact fun Hf' H' σ' x s' E' o => p Hf' H' x E'.gr o
    | bad => rw [q] at p; exact p.elim
/-- how such a def binds -/
theorem callB_d {K : PySem.W.Frag} {x qual : Str} {params : Arguments} {body : List Stmt} {scope : Scope} {T : Addr} {kV doc pm : Value} {an : Option Addr} {cdv ct : Value} {o : Obj} {its : List Value} {m : Nat} {dvs : List V} {ps ks : List Str} {n : Nat} {idx : List Nat} (lT : K.lookup T = some o) (oT : o.data = .seq its.toArray m) (rd : Vals dvs its)
    (h : ∀ (us ws : List Value), us.length = n → ws.length = ks.length → ∃ k, bindArgs (PySem.W.fnOf x qual params body scope (.ref T) kV doc pm an cdv ct) ⟨us, ks.zip ws⟩ = seqItems? (.ref T) >>= k ∧ k (some its.toArray) = pure (ps.zip (pickL idx (us ++ ws ++ its)))) :
    CallB K (PySem.W.fnOf x qual params body scope (.ref T) kV doc pm an cdv ct) ps n ks idx dvs :=
  ⟨its, rd, fun s us ws X l1 l2 => BindsTo.of_looks fun M => by
    obtain ⟨k, e1, e2⟩ := h us ws l1 l2
    rw [e1]
    exact looks_items X lT oT (.of_pure e2)⟩
theorem callB_n {K : PySem.W.Frag} {fd : FuncData} {ps ks : List Str} {n : Nat} {idx : List Nat} (h : ∀ (us ws : List Value), us.length = n → ws.length = ks.length → bindArgs fd ⟨us, ks.zip ws⟩ = pure (ps.zip (pickL idx (us ++ ws ++ [])))) : CallB K fd ps n ks idx [] :=
  ⟨[], .nil, fun s us ws X l1 l2 => .of_eq (h us ws l1 l2)⟩
/-! ### the end -/
def nilOnly (l : List D) (g : DE → SR) : DE → SR := fun e => match l with
  | [] => g e
  | _ => .bad
theorem suite_of {G : Gm} {catch? : Nat → Option Bool} {ts : Addr → Value → Option Addr → TS} {h : Nat → DE → SR} (k : ∀ c a, catch? c = some true → DSt (G.at_ a) W0 (ts a (.ref (G.ca c)) none) (h c)) :
    ∀ (c : Nat) (l : List D) (a : Addr) (x : Option Addr) (Hf : Hp), catch? c = some true → ExcOk G Hf c l x → ∀ (F0 H0 H : Hp) (σ : L2.St) (e : DE), EnvOk (G.at_ a) F0 H0 Hf H σ e → ∀ N : Ends, SPost (G.at_ a) W0 F0 H0 Hf N (nilOnly l (h c) e) → ts a (.ref (G.ca c)) x N σ H := by
  intro c l a x Hf hc ox F0 H0 H σ e E N post
  rcases ox with ⟨rfl, rfl⟩ | ⟨da, xs, rfl, hl, _⟩
  · exact k c a hc F0 H0 Hf H σ e E N post
  · cases l with
    | nil => exact absurd rfl hl
    | cons d l => exact post.elim
def spLaw (K : PySem.W.Frag) : Sp := fun vs H Q _ => ∃ (a : Addr) (ns : List Int), vs = [.ref a] ∧ SqL K H a (ns.map V.int) ∧ ns.length ≤ 63 ∧ (∀ z ∈ ns, Builtin.Int.intBits z ≤ 1048576) ∧ ∀ H', Q (.bl true) H'
theorem law_imp {G : Gm} {F : List D → ER} (hF : ∀ ns : List Int, ns.length ≤ 63 → (∀ z ∈ ns, Builtin.Int.intBits z ≤ 1048576) → F [.scr ns] = .val .P (.bl true)) (vs : List V) (H : Hp) (Q : VK) (E : XK) (h : spLaw G.K vs H Q E) : spF G F vs H Q E := by
  obtain ⟨a, ns, rfl, hS, h1, h2, k⟩ := h
  refine ⟨H, [.scr ns], Same.refl _, .cons (.scr hS) .nil, ?_⟩
  rw [hF ns h1 h2]
  intro Hf' H' v g o
  cases o
  exact k H'
theorem walkL {k : Nat} (hk : Room k callerA) {l : PySem.W.OpenLaw} {q : Program} {loose : List Str} {XP : (Str → Option Value) → Heap → Prop} {YP : World → Heap → Prop} {d : DefRec} {K : Params → PySem.W.Frag} {x : Str} (hn : l.most = some 63) (hdf : d.params.defaults = [])
    (hY : ∀ (w : World) (h : Heap), YP w h → (K w.params).In h)
    (F : ∀ (w : World) (mg : Str → Option Value) (fa : Addr) (h : Heap), (K w.params).In h → h.Ns mainGlobals mg → mg d.name = some (.ref fa) →
      ∃ fd : FuncData, (∀ (s : Shared) (u : Value), BindsTo s fd ⟨[u], []⟩ [(x, u)]) ∧ ∀ base : Heap, (K w.params).In base → base.Ns mainGlobals mg → FnOk l.prog w (K w.params) mg base (L2.CX l.prog w) k fa fd [x] (spLaw (K w.params))) :
    PySem.W.WalkO q loose XP YP l.row.toRowW d [] (fun f vs => PySem.call f vs) :=
  L2.walk_ofB (n := 63) (k := k) (x := x) (CX := fun w => L2.CX l.prog w) (sp := fun w => spLaw (K w.params)) hn (by decide) hdf hk hY F (fun _ _ a ns hl hb _ hS => ⟨a, ns, rfl, hS, hl, hb, fun _ => rfl⟩) fun w H s e s' h => by
    obtain ⟨_, _, _, _, _, _, _, _, _, _, _, _, z⟩ := h
    exact z.elim
end Dn
namespace Dn
open PySem PySem.Spec PyProof.Rows L2
/-! ### the equations by which simp runs a def -/
section
variable {e : DE} {f g h c : DE → ER} {o o' : D → D → ER} {fs gs : DE → AR} {s t u : DE → SR} {i j : Nat}
@[simp] theorem e_dVar : dVar i e = match e[i]? with | some (.val d) => .val .P d | some (.own l) => .val .B (.lst l) | _ => .bad := rfl
@[simp] theorem e_dC {d : D} : dC d e = .val .P d := rfl
@[simp] theorem e_dOp : dOp o f g e = (f e).bind fun x => (g e).bind fun y => o x y := rfl
@[simp] theorem e_dUn {o : D → ER} : dUn o f e = (f e).bind o := rfl
@[simp] theorem e_dAnd : dAnd f g e = (f e).bindB fun b => if b = true then g e else .val .P (.bl false) := rfl
@[simp] theorem e_dOr : dOr f g e = (f e).bindB fun b => if b = true then .val .P (.bl true) else g e := rfl
@[simp] theorem e_dNot : dNot f e = (f e).bindB fun b => .val .P (.bl (!b)) := rfl
@[simp] theorem e_dIf : dIf c f g e = (c e).bindB fun b => if b = true then f e else g e := rfl
@[simp] theorem e_dChain : dChain o o' f g h e = (f e).bind fun x => (g e).bind fun y => (o x y).bindB fun b => if b = true then (h e).bind fun z => o' y z else .val .P (.bl false) := rfl
@[simp] theorem e_aNil : aNil e = .ok true [] := rfl
@[simp] theorem e_aCons : aCons f gs e = (f e).cons (gs e) := rfl
@[simp] theorem cons_P {d : D} {a : AR} : (ER.val .P d).cons a = a.cons true d := rfl
@[simp] theorem cons_N {d : D} {a : AR} : (ER.val .N d).cons a = a.cons true d := rfl
@[simp] theorem cons_B {d : D} {a : AR} : (ER.val .B d).cons a = a.cons false d := rfl
@[simp] theorem cons_exc {k : Nat} {l : List D} {a : AR} : (ER.exc k l).cons a = .exc k l := rfl
@[simp] theorem cons_bad {a : AR} : ER.bad.cons a = .bad := rfl
@[simp] theorem acons_ok {p q : Bool} {d : D} {l : List D} : (AR.ok q l).cons p d = .ok (p && q) (d :: l) := rfl
@[simp] theorem acons_exc {p : Bool} {d : D} {k : Nat} {l : List D} : (AR.exc k l).cons p d = .exc k l := rfl
@[simp] theorem acons_bad {p : Bool} {d : D} : AR.bad.cons p d = .bad := rfl
@[simp] theorem e_dTup : dTup fs e = match fs e with | .ok true l => if l.length ≤ 1000000 then .val .P (.tup l) else .bad | .exc c l => .exc c l | _ => .bad := rfl
@[simp] theorem e_dLst : dLst fs e = match fs e with | .ok true l => if l.length ≤ 1000000 then .val .N (.lst l) else .bad | .exc c l => .exc c l | _ => .bad := rfl
@[simp] theorem e_dCall {F : List D → ER} : dCall F fs e = match fs e with | .ok true l => F l | .ok false l => (F l).flatOnly | .exc c l => .exc c l | .bad => .bad := rfl
@[simp] theorem e_flat {m : Md} {d : D} : (ER.val m d).flatOnly = if flat d = true then .val .P d else .bad := rfl
@[simp] theorem e_dCallG {F : List D → ER} {n m : Nat} {idx : List Nat} {dd : List D} : dCallG F n m idx dd fs gs e = match fs e with
  | .ok p l => (match gs e with
    | .ok q z => if l.length = n ∧ z.length = m then (if (p && q) = true then F (pickL idx (l ++ z ++ dd)) else (F (pickL idx (l ++ z ++ dd))).flatOnly) else .bad
    | .exc c l => .exc c l
    | .bad => .bad)
  | .exc c l => .exc c l
  | .bad => .bad := rfl
@[simp] theorem e_pickNil {α : Type} {l : List α} : pickL [] l = [] := rfl
@[simp] theorem e_pickCons {α : Type} {k : Nat} {ks : List Nat} {l : List α} : pickL (k :: ks) l = (match l[k]? with | some x => [x] | none => []) ++ pickL ks l := by
  unfold pickL; rw [List.filterMap_cons]; cases l[k]? <;> rfl
@[simp] theorem e_dCB {o : List D → ER} : dCB o fs e = match fs e with | .ok _ l => o l | .exc c l => .exc c l | .bad => .bad := rfl
@[simp] theorem e_dSl {o : D → Option Int → Option Int → ER} {lo hi : DE → Option ER} : dSl o f lo hi e = (f e).bind fun x => ofOpt (partI (lo e)) fun l => ofOpt (partI (hi e)) fun u => o x l u := rfl
@[simp] theorem e_part0 : partI none = some none := rfl
@[simp] theorem e_partI {m : Md} {i : Int} : partI (some (.val m (.int i))) = some (some i) := rfl
@[simp] theorem e_dIsi {T : String} : dIsi T f e = (f e).bind (isT T) := rfl
@[simp] theorem e_dIsE {b : Option Bool} : dIsE i b e = match e[i]? with | some .exn => ofOpt b fun b => .val .P (.bl b) | _ => .bad := rfl
@[simp] theorem e_sSeq : sSeq s t e = (s e).bind t := rfl
@[simp] theorem e_sSkip : sSkip e = .nx e := rfl
@[simp] theorem e_sBreak : sBreak e = .bk e := rfl
@[simp] theorem e_sCont : sCont e = .ct e := rfl
@[simp] theorem e_sSet : sSet i f e = match f e with | .val .P d => .nx (e.set i (.val d)) | .val .N (.lst l) => .nx (e.set i (.own l)) | .exc c l => .exc c l e | _ => .bad := rfl
@[simp] theorem e_sSetF : sSetF i f e = match f e with | .val .P d => .nx (e.set i (.val d)) | .val .N d => .nx (e.set i (.val d)) | .exc c l => .exc c l e | _ => .bad := rfl
@[simp] theorem e_sAsg {q : D → DE → Option DE} : sAsg q f e = match f e with | .val .B _ => .bad | .val _ d => (match q d e with | some e' => .nx e' | none => .bad) | .exc c l => .exc c l e | _ => .bad := rfl
@[simp] theorem e_tgN {d : D} : tgN i d e = some (e.set i (.val d)) := rfl
@[simp] theorem e_tgsNil : tgsNil [] e = some e := rfl
@[simp] theorem e_tgsCons {q : D → DE → Option DE} {qs : List D → DE → Option DE} {d : D} {l : List D} : tgsCons q qs (d :: l) e = (q d e).bind (qs l) := rfl
@[simp] theorem e_tgTt {n : Nat} {qs : List D → DE → Option DE} {l : List D} : tgT n qs (.tup l) e = if l.length = n then qs l e else none := rfl
@[simp] theorem e_tgTl {n : Nat} {qs : List D → DE → Option DE} {l : List D} : tgT n qs (.lst l) e = if l.length = n then qs l e else none := rfl
@[simp] theorem e_sPar : sPar i j fs e = match fs e with | .ok true [a, b] => .nx ((e.set i (.val a)).set j (.val b)) | .exc c l => .exc c l e | _ => .bad := rfl
@[simp] theorem e_sDrop : sDrop f e = match f e with | .val _ _ => .nx e | .exc c l => .exc c l e | .bad => .bad := rfl
@[simp] theorem e_sRet : sRet f e = match f e with | .val .P d => .rt .P d | .val .N d => .rt .N d | .exc c l => .exc c l e | _ => .bad := rfl
@[simp] theorem e_sRetV : sRetV i e = match e[i]? with | some (.val d) => .rt .P d | some (.own l) => .rt .N (.lst l) | _ => .bad := rfl
@[simp] theorem e_sRetN : sRetN e = .rt .P .non := rfl
@[simp] theorem e_sIf : sIf c s t e = match c e with | .val _ (.bl b) => if b = true then s e else t e | .exc c l => .exc c l e | _ => .bad := rfl
@[simp] theorem e_sApp : sApp i f e = match e[i]? with
  | some (.own l) => (match f e with | .val .B _ => .bad | .val _ d => if l.length < 1000000 then .nx (e.set i (.own (l ++ [d]))) else .bad | .exc c l => .exc c l e | .bad => .bad)
  | _ => .bad := rfl
@[simp] theorem e_sRaise {k : Nat} : sRaise k e = .exc k [] e := rfl
@[simp] theorem e_sFor {src : DE → AR} {q : D → DE → Option DE} : sFor src q s e = match src e with | .ok _ l => forD (tgB q s) l e | .exc c l => .exc c l e | .bad => .bad := rfl
@[simp] theorem e_tgB {q : D → DE → Option DE} {d : D} : tgB q s d e = match q d e with | some e' => s e' | none => .bad := rfl
@[simp] theorem e_for0 {b : D → DE → SR} : forD b [] e = .nx e := rfl
theorem e_forC {b : D → DE → SR} {x : D} {xs : List D} : forD b (x :: xs) e = match b x e with | .nx e' => forD b xs e' | .ct e' => forD b xs e' | .bk e' => .nx e' | r => r := rfl
@[simp] theorem e_dIter : dIter f e = match f e with | .val .B _ => .bad | .val _ d => (match itemsOf d with | some l => .ok true l | none => .bad) | .exc c l => .exc c l | .bad => .bad := rfl
@[simp] theorem e_itL {l : List D} : itemsOf (.lst l) = some l := rfl
@[simp] theorem e_itT {l : List D} : itemsOf (.tup l) = some l := rfl
@[simp] theorem e_itS {z : Str} : itemsOf (.str z) = some (z.cps.toList.map fun c => .str ⟨#[c]⟩) := rfl
@[simp] theorem e_itR {l : List Int} : itemsOf (.scr l) = some (l.map .int) := rfl
@[simp] theorem e_dRange : dRange fs e = match fs e with
  | .ok _ [.int j] => if -(2 ^ 62) ≤ j ∧ j < 2 ^ 62 then .ok true (rangeD 0 j.toNat) else .bad
  | .ok _ [.int i, .int j] => if -(2 ^ 62) ≤ i ∧ i < 2 ^ 62 ∧ -(2 ^ 62) ≤ j ∧ j < 2 ^ 62 then .ok true (rangeD i (j - i).toNat) else .bad
  | .exc c l => .exc c l
  | _ => .bad := rfl
@[simp] theorem e_dEnum : dEnum fs e = match fs e with | .ok true [.lst l] => .ok true (enumD 0 l) | .exc c l => .exc c l | _ => .bad := rfl
@[simp] theorem e_dZip : dZip fs e = match fs e with | .ok true [.lst l, .lst m] => .ok true (zipD l m) | .exc c l => .exc c l | _ => .bad := rfl
@[simp] theorem e_dLc {src : DE → AR} {q : D → DE → Option DE} {vs : List Nat} : dLc src q c f vs e = match src e with
  | .ok _ l => if l.length ≤ 1000000 then ofOpt (lcGo (lcStep q c f (wipeE e vs)) l) fun r => .val .N (.lst r) else .bad
  | .exc k l => .exc k l
  | .bad => .bad := rfl
@[simp] theorem e_wipe0 : wipeE e [] = e := rfl
@[simp] theorem e_wipeC {v : Nat} {vs : List Nat} : wipeE e (v :: vs) = (wipeE e vs).set v .emp := rfl
@[simp] theorem e_lc0 {st : D → Option (Option D)} : lcGo st [] = some [] := rfl
theorem e_lcC {st : D → Option (Option D)} {d : D} {l : List D} : lcGo st (d :: l) = (st d).bind fun o => (lcGo st l).bind fun r => some (o.toList ++ r) := rfl
@[simp] theorem e_lcStep {q : D → DE → Option DE} {d : D} : lcStep q c f e d = match q d e with
  | none => none
  | some e2 => (match c e2 with
    | .val _ (.bl b) => if b = true then (match f e2 with | .val .P y => some (some y) | .val .N y => some (some y) | _ => none) else some none
    | _ => none) := rfl
@[simp] theorem e_tryAs {k? : Nat → Option Bool} {hd : Nat → List D → DE → SR} : sTryAs i k? s hd e = match s e with
  | .exc c l e1 => (match k? c with
    | some true => (match hd c l ((clr e1).set i .exn) with
      | .nx e2 => .nx ((clr e2).set i .emp)
      | .bk e2 => .bk ((clr e2).set i .emp)
      | .ct e2 => .ct ((clr e2).set i .emp)
      | .rt m d => .rt m d
      | _ => .bad)
    | some false => .exc c l e1
    | none => .bad)
  | r => r := rfl
@[simp] theorem e_nilOnly : nilOnly [] s e = s e := rfl
@[simp] theorem e_clr0 : clr [] = [] := rfl
@[simp] theorem e_clrC {x : SL} {r : DE} : clr (x :: r) = (match x with | .exn => .emp | s => s) :: clr r := rfl
@[simp] theorem e_ret_nx : (SR.nx e).ret = .val .P .non := rfl
@[simp] theorem e_ret_rt {m : Md} {d : D} : (SR.rt m d).ret = .val m d := rfl
@[simp] theorem e_ret_exc {k : Nat} {l : List D} : (SR.exc k l e).ret = .exc k l := rfl
@[simp] theorem e_ret_bad : SR.bad.ret = .bad := rfl
@[simp] theorem e_fnD {n m : Nat} {ds : List D} : fnD n m s ds = if ds.length = n then (s (startE m ds)).ret else .bad := rfl
@[simp] theorem e_startE {n : Nat} {ds : List D} : startE n ds = ds.map .val ++ List.replicate (n - ds.length) .emp := rfl
/-! operators -/
@[simp] theorem e_add {i j : Int} : oAdd (.int i) (.int j) = .val .P (.int (i + j)) := rfl
@[simp] theorem e_addS {a b : Str} : oAdd (.str a) (.str b) = if a.length + b.length ≤ 1000000 then .val .P (.str (a ++ b)) else .bad := rfl
@[simp] theorem e_addL {a b : List D} : oAdd (.lst a) (.lst b) = if a.length + b.length ≤ 1000000 then .val .N (.lst (a ++ b)) else .bad := rfl
@[simp] theorem e_sub {i j : Int} : oSub (.int i) (.int j) = .val .P (.int (i - j)) := rfl
@[simp] theorem e_neg {i : Int} : oNeg (.int i) = .val .P (.int (-i)) := rfl
@[simp] theorem e_mul {i j : Int} : oMul (.int i) (.int j) = if i.natAbs.log2 + j.natAbs.log2 < 1000000 then .val .P (.int (i * j)) else .bad := rfl
@[simp] theorem e_mulL {a : List D} {k : Int} : oMul (.lst a) (.int k) = if -(2 ^ 63) ≤ k ∧ k < 2 ^ 63 ∧ a.length * k.toNat ≤ 1000000 then .val .N (.lst (List.replicate k.toNat a).flatten) else .bad := rfl
@[simp] theorem e_div {i j : Int} : oDiv (.int i) (.int j) = if j ≠ 0 ∧ j.natAbs.log2 < 9000 then .val .P (.int (i.fdiv j)) else .bad := rfl
@[simp] theorem e_mod {i j : Int} : oMod (.int i) (.int j) = if j ≠ 0 then .val .P (.int (i.fmod j)) else .bad := rfl
@[simp] theorem e_pow {i j : Int} : oPow (.int i) (.int j) = if 0 ≤ j ∧ j ≤ 1000000 ∧ i.natAbs < 2 ^ 64 then .val .P (.int (i ^ j.toNat)) else .bad := rfl
@[simp] theorem e_cmp {p : Int → Int → Bool} {i j : Int} : oCmp p (.int i) (.int j) = .val .P (.bl (p i j)) := rfl
@[simp] theorem e_ixL {l : List D} {i : Int} : oIx (.lst l) (.int i) = ofOpt (atI l i) fun d => .val .P d := rfl
@[simp] theorem e_ixT {l : List D} {i : Int} : oIx (.tup l) (.int i) = ofOpt (atI l i) fun d => .val .P d := rfl
@[simp] theorem e_ixR {l : List Int} {i : Int} : oIx (.scr l) (.int i) = ofOpt (atI l i) fun d => .val .P (.int d) := rfl
@[simp] theorem e_abs {i : Int} : oAbs [.int i] = .val .P (.int (if i < 0 then -i else i)) := rfl
@[simp] theorem e_lenL {l : List D} : oLen [.lst l] = .val .P (.int l.length) := rfl
@[simp] theorem e_lenT {l : List D} : oLen [.tup l] = .val .P (.int l.length) := rfl
@[simp] theorem e_lenR {l : List Int} : oLen [.scr l] = .val .P (.int l.length) := rfl
@[simp] theorem e_lenS {z : Str} : oLen [.str z] = if z.length ≤ 1000000 then .val .P (.int z.length) else .bad := rfl
@[simp] theorem e_slL {l : List D} {lo hi : Option Int} : oSl (.lst l) lo hi = .val .N (.lst (cutG l lo hi)) := rfl
@[simp] theorem e_slR {l : List Int} {lo hi : Option Int} : oSl (.scr l) lo hi = .val .N (.lst ((cutG l lo hi).map .int)) := rfl
@[simp] theorem e_slS {z : Str} {lo hi : Option Int} : oSl (.str z) lo hi = if z.length ≤ 1000000 then .val .P (.str (cutS z lo hi)) else .bad := rfl
/-! == -/
@[simp] theorem e_eqI {i j : Int} : oEq (.int i) (.int j) = .val .P (.bl (decide (i = j))) := rfl
@[simp] theorem e_neI {i j : Int} : oNe (.int i) (.int j) = .val .P (.bl (!decide (i = j))) := rfl
@[simp] theorem e_eqS {i j : Str} : oEq (.str i) (.str j) = .val .P (.bl (decide (i = j))) := rfl
@[simp] theorem e_neS {i j : Str} : oNe (.str i) (.str j) = .val .P (.bl (!decide (i = j))) := rfl
/-! isinstance -/
theorem kit_ii : kitB "int" "int" = some true := by decide +kernel
theorem kit_ib : kitB "int" "bool" = some false := by decide +kernel
theorem kit_bi : kitB "bool" "int" = some true := by decide +kernel
theorem kit_bb : kitB "bool" "bool" = some true := by decide +kernel
theorem kit_tt : kitB "tuple" "tuple" = some true := by decide +kernel
theorem kit_ll : kitB "list" "list" = some true := by decide +kernel
@[simp] theorem e_is_ii {i : Int} : isT "int" (.int i) = .val .P (.bl true) := by simp only [isT, tyN, kit_ii, ofOpt_some]
@[simp] theorem e_is_ib {i : Int} : isT "bool" (.int i) = .val .P (.bl false) := by simp only [isT, tyN, kit_ib, ofOpt_some]
@[simp] theorem e_is_tt {l : List D} : isT "tuple" (.tup l) = .val .P (.bl true) := by simp only [isT, tyN, kit_tt, ofOpt_some]
@[simp] theorem e_is_ll {l : List D} : isT "list" (.lst l) = .val .P (.bl true) := by simp only [isT, tyN, kit_ll, ofOpt_some]
end
/-! equality of data, deep -/
theorem eqAny_of {a b : D} {r : Bool} (hs : scalD a b = false) (h1 : isPy a = true) (h2 : isPy b = true) (h3 : SeqAt.shaped (py a) = true) (h4 : SeqAt.shaped (py b) = true) (he : PyData.eqv (py a) (py b) = r) : oEq a b = .val .P (.bl r) := by
  unfold oEq eqAny
  rw [if_neg (by rw [hs]; exact Bool.false_ne_true), if_pos ⟨h1, h2, h3, h4⟩, he]
/-- tuples and lists of ints -/
theorem py_ints : ∀ l : List Int, pyL (l.map D.int) = l.map PyData.int
  | [] => rfl
  | i :: l => by simp [pyL, py, py_ints l]
theorem isPy_ints : ∀ l : List Int, isPyL (l.map D.int) = true
  | [] => rfl
  | i :: l => by simp [isPyL, isPy, isPy_ints l]
theorem eqv_ints : ∀ l m : List Int, PyData.eqvAll (l.map PyData.int) (m.map PyData.int) = decide (l = m)
  | [], [] => by simp [PyData.eqvAll]
  | [], _ :: _ => by simp [PyData.eqvAll]
  | _ :: _, [] => by simp [PyData.eqvAll]
  | i :: l, j :: m => by
    simp only [List.map_cons, PyData.eqvAll, PyData.eqv, eqv_ints l m]
    by_cases h : i = j <;> simp [h]
theorem lay_ints : ∀ l : List Int, PyData.canLayAll0 (l.map PyData.int) = true
  | [] => by simp [PyData.canLayAll0]
  | i :: l => by simp [PyData.canLayAll0, PyData.canLay0, lay_ints l]
theorem depth_ints : ∀ l : List Int, PyData.depthAll (l.map PyData.int) = 0
  | [] => by simp [PyData.depthAll]
  | i :: l => by simp [PyData.depthAll, PyData.depth, depth_ints l]
theorem eq_tupInts (l m : List Int) : oEq (.tup (l.map .int)) (.tup (m.map .int)) = .val .P (.bl (decide (l = m))) := by
  refine eqAny_of rfl ?_ ?_ ?_ ?_ ?_
  · simp [isPy, isPy_ints]
  · simp [isPy, isPy_ints]
  · simp [SeqAt.shaped, py, py_ints, PyData.canLay0, PyData.depth, lay_ints, depth_ints]
  · simp [SeqAt.shaped, py, py_ints, PyData.canLay0, PyData.depth, lay_ints, depth_ints]
  · simp [py, py_ints, PyData.eqv, eqv_ints]
@[simp] theorem eq_tup2 {a b c d : Int} : oEq (.tup [.int a, .int b]) (.tup [.int c, .int d]) = .val .P (.bl (decide (a = c ∧ b = d))) := by
  have h := eq_tupInts [a, b] [c, d]
  simp only [List.map_cons, List.map_nil] at h
  rw [h]
  simp
end Dn
namespace Dn
open PySem PySem.Spec PyProof.Rows L2
/-! ### numbers -/
theorem log2_lt {n k : Nat} (hk : 0 < k) (h : n < 2 ^ k) : n.log2 < k := by
  by_cases z : n = 0
  · subst z; simpa using hk
  · exact (Nat.log2_lt z).mpr h
theorem log2_mono {n m k : Nat} (hk : m.log2 < k) (h : n ≤ m) : n.log2 < k := by
  by_cases z : n = 0
  · subst z
    have : Nat.log2 0 = 0 := by decide
    omega
  · exact (Nat.log2_lt z).mpr (Nat.lt_of_le_of_lt h (by
      by_cases zm : m = 0
      · omega
      · exact (Nat.log2_lt zm).mp hk))
theorem mul_ok {i j : Int} {a b : Nat} (ha : i.natAbs < 2 ^ a) (hb : j.natAbs < 2 ^ b) (h : a + b ≤ 1000000) (h0 : 0 < a) (h1 : 0 < b) : i.natAbs.log2 + j.natAbs.log2 < 1000000 := by
  have := log2_lt h0 ha
  have := log2_lt h1 hb
  omega
/-- a product of numbers below 2 ^ 400000 -/
theorem mulB {i j : Int} (ha : i.natAbs < 2 ^ 400000) (hb : j.natAbs < 2 ^ 400000) : i.natAbs.log2 + j.natAbs.log2 < 1000000 := by
  have := log2_lt (by decide) ha
  have := log2_lt (by decide) hb
  omega
/-! ### while -/
theorem e_wh {c : DE → ER} {b : DE → SR} {n : Nat} {e : DE} {m : Md} {x : Bool} (h : c e = .val m (.bl x)) : whN c b (n + 1) e = if x = true then (match b e with
      | .nx e' => whN c b n e'
      | .ct e' => whN c b n e'
      | .bk e' => some (.nx e')
      | r => some r) else some (.nx e) := by
  rw [whN]
  rw [h]
  cases x <;> rfl
/-! ### draws in their ranges -/
def InR : List Int → List Int → Prop
  | [], [] => True
  | a :: l, b :: s => (0 ≤ a ∧ a < b) ∧ InR l s
  | _, _ => False
theorem InR.cons {l s : List Int} {b : Int} (h : InR l (b :: s)) : ∃ a l', l = a :: l' ∧ 0 ≤ a ∧ a < b ∧ InR l' s := by
  cases l with
  | nil => exact h.elim
  | cons a l => exact ⟨a, l, rfl, h.1.1, h.1.2, h.2⟩
theorem InR.nil {l : List Int} (h : InR l []) : l = [] := by
  cases l with
  | nil => rfl
  | cons a l => exact h.elim
theorem InR.len : ∀ {l s : List Int}, InR l s → l.length = s.length
  | [], [], _ => rfl
  | a :: l, b :: s, h => congrArg Nat.succ (InR.len h.2)
  | [], _ :: _, h => h.elim
  | _ :: _, [], h => h.elim
/-! ### the greatest divisor -/
theorem gcd_wh : ∀ (b a : Nat), ∃ n, whN (dOp oGt (dVar 1) (dC (.int 0))) (sPar 0 1 (aCons (dVar 1) (aCons (dOp oMod (dVar 0) (dVar 1)) aNil))) n [.val (.int a), .val (.int b)] = some (.nx [.val (.int (Nat.gcd a b)), .val (.int 0)]) := by
  intro b
  induction b using Nat.strongRecOn with
  | ind b ih =>
    intro a
    by_cases hb : b = 0
    · subst hb
      refine ⟨1, ?_⟩
      rw [e_wh (x := false) (m := .P) (by simp)]
      simp
    · obtain ⟨n, hn⟩ := ih (a % b) (Nat.mod_lt _ (Nat.pos_of_ne_zero hb)) b
      refine ⟨n + 1, ?_⟩
      rw [e_wh (x := true) (m := .P) (by simp; omega)]
      have hm : (a : Int).fmod (b : Int) = ((a % b : Nat) : Int) := by
        rw [Int.fmod_eq_emod_of_nonneg _ (Int.natCast_nonneg b)]
        rfl
      have hb' : ¬ (b : Int) = 0 := by omega
      simp only [if_true, e_sPar, e_aCons, e_aNil, e_dVar, e_dOp, List.getElem?_cons_succ, List.getElem?_cons_zero, ER.bind_val, e_mod, cons_P, acons_ok, ne_eq, hb', not_false_eq_true, Bool.and_self, List.set_cons_zero, List.set_cons_succ, hm]
      rw [hn]
      have : Nat.gcd a b = Nat.gcd b (a % b) := by
        rw [Nat.gcd_comm a b, Nat.gcd_rec b a, Nat.gcd_comm]
      rw [this]
theorem gcd_while (a b : Nat) : sWhile (dOp oGt (dVar 1) (dC (.int 0))) (sPar 0 1 (aCons (dVar 1) (aCons (dOp oMod (dVar 0) (dVar 1)) aNil))) [.val (.int a), .val (.int b)] = .nx [.val (.int (Nat.gcd a b)), .val (.int 0)] := by
  obtain ⟨n, h⟩ := gcd_wh b a
  exact sWhile_eq h
theorem absI (a : Int) : (if a < 0 then -a else a) = ((a.natAbs : Nat) : Int) := by split <;> omega
end Dn
namespace Dn
open PySem PySem.Spec PyProof.Rows L2
def sub_CrumbError : Nat → Option Bool
  | 0 => some true
  | 1 => some true
  | 2 => some true
  | _ => none
def sub_NoFraction : Nat → Option Bool
  | 0 => some false
  | 1 => some true
  | 2 => some false
  | _ => none
def sub_NoText : Nat → Option Bool
  | 0 => some false
  | 1 => some false
  | 2 => some true
  | _ => none
def sub_ValueError : Nat → Option Bool
  | 0 => some true
  | 1 => some true
  | 2 => some true
  | _ => none
noncomputable def wc_divisor_1 : DE → ER :=
  (dOp oGt (dVar 1) (dC (.int 0)))
theorem q_wc_divisor_1 {e : DE} : wc_divisor_1 e = (dOp oGt (dVar 1) (dC (.int 0))) e := rfl
noncomputable def wb_divisor_2 : DE → SR :=
  (sPar 0 1 (aCons (dVar 1) (aCons (dOp oMod (dVar 0) (dVar 1)) aNil)))
theorem q_wb_divisor_2 {e : DE} : wb_divisor_2 e = (sPar 0 1 (aCons (dVar 1) (aCons (dOp oMod (dVar 0) (dVar 1)) aNil))) e := rfl
noncomputable def g_divisor : DE → SR :=
  (sSeq (sSetF 0 (dCB oAbs (aCons (dVar 0) aNil)))
  (sSeq (sSetF 1 (dCB oAbs (aCons (dVar 1) aNil)))
  (sSeq (sWhile wc_divisor_1 wb_divisor_2)
  (sRetV 0))))
noncomputable def F_divisor : List D → ER := fnD 2 2 g_divisor
noncomputable def g_law_cell : DE → SR :=
  (sSeq (sIf (dOp oEq (dCB oLen (aCons (dVar 0) aNil)) (dC (.int 0))) (sRet (dOp oAdd (dOp oMul (dC (.int 48271)) (dVar 1)) (dC (.int 5)))) sSkip)
  (sSeq (sIf (dOp oLt (dVar 1) (dCB oLen (aCons (dVar 0) aNil))) (sRet (dOp oIx (dVar 0) (dVar 1))) sSkip)
  (sRet (dOp oAdd (dOp oMul (dOp oMod (dOp oIx (dVar 0) (dOp oMod (dVar 1) (dCB oLen (aCons (dVar 0) aNil)))) (dC (.int 1000033))) (dC (.int 39373))) (dOp oMul (dC (.int 7907)) (dVar 1))))))
noncomputable def F_law_cell : List D → ER := fnD 2 2 g_law_cell
noncomputable def fb_law_draws_1 : DE → SR :=
  (sIf (dOp oGt (dVar 2) (dC (.int 0))) (sSeq (sApp 3 (dOp oMod (dVar 2) (dVar 5)))
  (sSetF 2 (dOp oDiv (dVar 2) (dVar 5)))) (sSeq (sSetF 6 (dOp oMod (dOp oPow (dOp oAdd (dOp oAdd (dOp oAdd (dOp oMod (dVar 0) (dC (.int 2147483647))) (dOp oMul (dOp oMul (dC (.int 1009)) (dVar 4)) (dVar 4))) (dOp oMul (dC (.int 48611)) (dVar 4))) (dC (.int 17))) (dC (.int 5))) (dC (.int 2147483647))))
  (sApp 3 (dOp oMod (dOp oMod (dOp oAdd (dOp oMul (dVar 6) (dC (.int 48271))) (dOp oMul (dC (.int 7919)) (dVar 4))) (dC (.int 1000000007))) (dVar 5)))))
theorem q_fb_law_draws_1 {e : DE} : fb_law_draws_1 e = (sIf (dOp oGt (dVar 2) (dC (.int 0))) (sSeq (sApp 3 (dOp oMod (dVar 2) (dVar 5)))
  (sSetF 2 (dOp oDiv (dVar 2) (dVar 5)))) (sSeq (sSetF 6 (dOp oMod (dOp oPow (dOp oAdd (dOp oAdd (dOp oAdd (dOp oMod (dVar 0) (dC (.int 2147483647))) (dOp oMul (dOp oMul (dC (.int 1009)) (dVar 4)) (dVar 4))) (dOp oMul (dC (.int 48611)) (dVar 4))) (dC (.int 17))) (dC (.int 5))) (dC (.int 2147483647))))
  (sApp 3 (dOp oMod (dOp oMod (dOp oAdd (dOp oMul (dVar 6) (dC (.int 48271))) (dOp oMul (dC (.int 7919)) (dVar 4))) (dC (.int 1000000007))) (dVar 5))))) e := rfl
noncomputable def g_law_draws : DE → SR :=
  (sSeq (sSetF 2 (dC (.int 0)))
  (sSeq (sIf (dOp oGe (dVar 0) (dOp oPow (dC (.int 10)) (dC (.int 18)))) (sSetF 2 (dVar 0)) sSkip)
  (sSeq (sSet 3 (dLst aNil))
  (sSeq (sFor (dEnum (aCons (dVar 1) aNil)) (tgT 2 (tgsCons (tgN 4) (tgsCons (tgN 5) tgsNil))) fb_law_draws_1)
  (sRetV 3)))))
noncomputable def F_law_draws : List D → ER := fnD 2 7 g_law_draws
noncomputable def g_law_whole : DE → SR :=
  (sRet (dAnd (dIsi "int" (dVar 0)) (dNot (dIsi "bool" (dVar 0)))))
noncomputable def F_law_whole : List D → ER := fnD 1 1 g_law_whole
noncomputable def wc_law_divisor_1 : DE → ER :=
  (dOp oGt (dVar 1) (dC (.int 0)))
theorem q_wc_law_divisor_1 {e : DE} : wc_law_divisor_1 e = (dOp oGt (dVar 1) (dC (.int 0))) e := rfl
noncomputable def wb_law_divisor_2 : DE → SR :=
  (sPar 0 1 (aCons (dVar 1) (aCons (dOp oMod (dVar 0) (dVar 1)) aNil)))
theorem q_wb_law_divisor_2 {e : DE} : wb_law_divisor_2 e = (sPar 0 1 (aCons (dVar 1) (aCons (dOp oMod (dVar 0) (dVar 1)) aNil))) e := rfl
noncomputable def g_law_divisor : DE → SR :=
  (sSeq (sSetF 0 (dCB oAbs (aCons (dVar 0) aNil)))
  (sSeq (sSetF 1 (dCB oAbs (aCons (dVar 1) aNil)))
  (sSeq (sWhile wc_law_divisor_1 wb_law_divisor_2)
  (sRetV 0))))
noncomputable def F_law_divisor : List D → ER := fnD 2 2 g_law_divisor
noncomputable def fb_law_number_1 : DE → SR :=
  (sSetF 1 (dOp oAdd (dOp oMul (dVar 1) (dOp oPow (dC (.int 10)) (dC (.int 8)))) (dVar 2)))
theorem q_fb_law_number_1 {e : DE} : fb_law_number_1 e = (sSetF 1 (dOp oAdd (dOp oMul (dVar 1) (dOp oPow (dC (.int 10)) (dC (.int 8)))) (dVar 2))) e := rfl
noncomputable def g_law_number : DE → SR :=
  (sSeq (sAsg (tgT 2 (tgsCons (tgN 3) (tgsCons (tgN 4) tgsNil))) (dSl oSl (dVar 0) (fun _ => none) (fun e => some ((dC (.int 2)) e))))
  (sSeq (sSetF 1 (dC (.int 0)))
  (sSeq (sFor (dIter (dSl oSl (dVar 0) (fun e => some ((dC (.int 2)) e)) (fun _ => none))) (tgN 2) fb_law_number_1)
  (sSeq (sSetF 1 (dOp oMod (dVar 1) (dOp oIx (dLst (aCons (dC (.int 1)) (aCons (dC (.int 10)) (aCons (dC (.int 100)) (aCons (dC (.int 1000)) (aCons (dOp oPow (dC (.int 10)) (dC (.int 9))) (aCons (dOp oPow (dC (.int 10)) (dC (.int 20))) (aCons (dOp oPow (dC (.int 10)) (dC (.int 39))) (aCons (dOp oPow (dC (.int 10)) (dC (.int 40))) aNil))))))))) (dVar 3))))
  (sRet (dOp oIx (dLst (aCons (dVar 1) (aCons (dUn oNeg (dVar 1)) aNil))) (dVar 4)))))))
noncomputable def F_law_number : List D → ER := fnD 1 5 g_law_number
noncomputable def g_fraction_of : DE → SR :=
  (sSeq (sIf (dOp oEq (dVar 1) (dC (.int 0))) (sRaise 1) sSkip)
  (sSeq (sSetF 2 (dCall F_divisor (aCons (dVar 0) (aCons (dVar 1) aNil))))
  (sSeq (sIf (dOp oLt (dVar 1) (dC (.int 0))) (sSetF 2 (dUn oNeg (dVar 2))) sSkip)
  (sRet (dTup (aCons (dOp oDiv (dVar 0) (dVar 2)) (aCons (dOp oDiv (dVar 1) (dVar 2)) aNil)))))))
noncomputable def F_fraction_of : List D → ER := fnD 2 3 g_fraction_of
noncomputable def g_law_low : DE → SR :=
  (sSeq (sSetF 2 (dCall F_law_divisor (aCons (dVar 0) (aCons (dVar 1) aNil))))
  (sSeq (sIf (dOp oLt (dVar 1) (dC (.int 0))) (sSetF 2 (dUn oNeg (dVar 2))) sSkip)
  (sRet (dTup (aCons (dOp oDiv (dVar 0) (dVar 2)) (aCons (dOp oDiv (dVar 1) (dVar 2)) aNil))))))
noncomputable def F_law_low : List D → ER := fnD 2 3 g_law_low
noncomputable def g_law_is_fraction : DE → SR :=
  (sSeq (sIf (dOr (dNot (dIsi "tuple" (dVar 0))) (dOr (dOp oNe (dCB oLen (aCons (dVar 0) aNil)) (dC (.int 2))) (dOr (dNot (dCall F_law_whole (aCons (dOp oIx (dVar 0) (dC (.int 0))) aNil))) (dNot (dCall F_law_whole (aCons (dOp oIx (dVar 0) (dC (.int 1))) aNil)))))) (sRet (dC (.bl false))) sSkip)
  (sRet (dOp oEq (dVar 0) (dVar 1))))
noncomputable def F_law_is_fraction : List D → ER := fnD 2 2 g_law_is_fraction
noncomputable def ce_law_numbers_1 : DE → ER :=
  (dCall F_law_number (aCons (dSl oSl (dVar 2) (fun e => some ((dOp oMul (dC (.int 7)) (dVar 3)) e)) (fun e => some ((dOp oAdd (dOp oMul (dC (.int 7)) (dVar 3)) (dC (.int 7))) e))) aNil))
theorem q_ce_law_numbers_1 {e : DE} : ce_law_numbers_1 e = (dCall F_law_number (aCons (dSl oSl (dVar 2) (fun e => some ((dOp oMul (dC (.int 7)) (dVar 3)) e)) (fun e => some ((dOp oAdd (dOp oMul (dC (.int 7)) (dVar 3)) (dC (.int 7))) e))) aNil)) e := rfl
noncomputable def g_law_numbers : DE → SR :=
  (sSeq (sSetF 2 (dCall F_law_draws (aCons (dVar 0) (aCons (dOp oMul (dLst (aCons (dC (.int 8)) (aCons (dC (.int 2)) (aCons (dOp oPow (dC (.int 10)) (dC (.int 8))) (aCons (dOp oPow (dC (.int 10)) (dC (.int 8))) (aCons (dOp oPow (dC (.int 10)) (dC (.int 8))) (aCons (dOp oPow (dC (.int 10)) (dC (.int 8))) (aCons (dOp oPow (dC (.int 10)) (dC (.int 8))) aNil)))))))) (dVar 1)) aNil))))
  (sRet (dLc (dRange (aCons (dVar 1) aNil)) (tgN 3) (fun _ => .val .P (.bl true)) ce_law_numbers_1 [3])))
noncomputable def F_law_numbers : List D → ER := fnD 2 4 g_law_numbers
noncomputable def g_law_pair : DE → SR :=
  (sSeq (sAsg (tgT 2 (tgsCons (tgN 1) (tgsCons (tgN 2) tgsNil))) (dCall F_law_draws (aCons (dCall F_law_cell (aCons (dVar 0) (aCons (dC (.int 0)) aNil))) (aCons (dLst (aCons (dC (.int 8)) (aCons (dC (.int 2)) aNil))) aNil))))
  (sSeq (sAsg (tgT 3 (tgsCons (tgN 3) (tgsCons (tgN 4) (tgsCons (tgN 5) tgsNil)))) (dCall F_law_numbers (aCons (dCall F_law_cell (aCons (dVar 0) (aCons (dC (.int 1)) aNil))) (aCons (dC (.int 3)) aNil))))
  (sSeq (sIf (dOp oEq (dVar 1) (dC (.int 0))) (sSetF 4 (dC (.int 0))) sSkip)
  (sSeq (sIf (dOp oEq (dVar 1) (dC (.int 1))) (sSetF 4 (dVar 3)) sSkip)
  (sSeq (sIf (dOp oEq (dVar 1) (dC (.int 2))) (sSetF 4 (dUn oNeg (dVar 3))) sSkip)
  (sSeq (sIf (dOp oEq (dVar 1) (dC (.int 3))) (sSetF 4 (dC (.int 1))) sSkip)
  (sSeq (sIf (dOp oEq (dVar 2) (dC (.int 1))) (sSeq (sSetF 5 (dOp oAdd (dC (.int 1)) (dOp oMod (dCB oAbs (aCons (dVar 5) aNil)) (dOp oPow (dC (.int 10)) (dC (.int 19))))))
  (sSeq (sSetF 3 (dOp oMul (dOp oMod (dVar 3) (dOp oPow (dC (.int 10)) (dC (.int 20)))) (dVar 5)))
  (sSetF 4 (dOp oMul (dOp oMod (dVar 4) (dOp oPow (dC (.int 10)) (dC (.int 20)))) (dVar 5))))) sSkip)
  (sRet (dTup (aCons (dVar 3) (aCons (dVar 4) aNil)))))))))))
noncomputable def F_law_pair : List D → ER := fnD 1 6 g_law_pair
noncomputable def g_law_refused : DE → SR :=
  (sSeq (sSetF 1 (dLst aNil))
  (sSeq (sTryAs 2 sub_CrumbError (sDrop (dCallG F_fraction_of 2 0 [0, 1] [(.int 1)] (aCons (dVar 0) (aCons (dC (.int 0)) aNil)) aNil)) (fun c l => nilOnly l (sSetF 1 (dLst (aCons (dIsE 2 (sub_NoFraction c)) (aCons (dIsE 2 (sub_ValueError c)) (aCons (dIsE 2 (sub_NoText c)) aNil)))))))
  (sRet (dOp oEq (dVar 1) (dLst (aCons (dC (.bl true)) (aCons (dC (.bl true)) (aCons (dC (.bl false)) aNil))))))))
noncomputable def F_law_refused : List D → ER := fnD 1 3 g_law_refused
noncomputable def g_law : DE → SR :=
  (sSeq (sAsg (tgT 2 (tgsCons (tgN 2) (tgsCons (tgN 3) tgsNil))) (dCall F_law_pair (aCons (dVar 0) aNil)))
  (sSeq (sIf (dOr (dNot (dCall F_law_is_fraction (aCons (dCallG F_fraction_of 1 0 [0, 1] [(.int 1)] (aCons (dVar 2) aNil) aNil) (aCons (dTup (aCons (dVar 2) (aCons (dC (.int 1)) aNil))) aNil)))) (dNot (dCall F_law_refused (aCons (dVar 2) aNil)))) (sRet (dC (.bl false))) sSkip)
  (sSeq (sIf (dOp oEq (dVar 3) (dC (.int 0))) (sRet (dC (.bl true))) sSkip)
  (sSeq (sSetF 1 (dCall F_law_low (aCons (dVar 2) (aCons (dVar 3) aNil))))
  (sSeq (sIf (dNot (dCall F_law_is_fraction (aCons (dCallG F_fraction_of 0 2 [1, 0] [(.int 1)] aNil (aCons (dVar 3) (aCons (dVar 2) aNil))) (aCons (dVar 1) aNil)))) (sRet (dC (.bl false))) sSkip)
  (sRet (dCall F_law_is_fraction (aCons (dCallG F_fraction_of 2 0 [0, 1] [(.int 1)] (aCons (dVar 2) (aCons (dVar 3) aNil)) aNil) (aCons (dVar 1) aNil)))))))))
noncomputable def F_law : List D → ER := fnD 1 4 g_law
end Dn
namespace Dn
open PySem PySem.Spec PyProof.Rows L2
/-! divisor, fraction_of -/
theorem divisor_eq (a b : Int) : F_divisor [.int a, .int b] = .val .P (.int (Int.gcd a b)) := by
  simp [F_divisor, g_divisor, wc_divisor_1, wb_divisor_2, absI, gcd_while]
  rfl
/-- the number by which top and bottom are divided -/
def sgd (t b : Int) : Int := if b < 0 then -(Int.gcd t b : Int) else (Int.gcd t b : Int)
theorem sgd_ne {t b : Int} (hb : b ≠ 0) : sgd t b ≠ 0 := by
  have : Int.gcd t b ≠ 0 := fun h => hb (Int.gcd_eq_zero_iff.mp h).2
  unfold sgd
  split <;> omega
theorem sgd_log {t b : Int} (hb : b ≠ 0) {k : Nat} (h : b.natAbs.log2 < k) : (sgd t b).natAbs.log2 < k := by
  have h1 : Int.gcd t b ≤ b.natAbs := Nat.le_of_dvd (by omega) (Int.gcd_dvd_natAbs_right t b)
  have : (sgd t b).natAbs = Int.gcd t b := by unfold sgd; split <;> omega
  rw [this]
  exact log2_mono h h1
/-- top divided by bottom, as the program tells it -/
def frT (t b : Int) : Int := t.fdiv (sgd t b)
def frB (t b : Int) : Int := b.fdiv (sgd t b)
theorem fraction_of_eq {t b : Int} (hb : b ≠ 0) (h : b.natAbs.log2 < 9000) : F_fraction_of [.int t, .int b] = .val .P (.tup [.int (frT t b), .int (frB t b)]) := by
  have h1 := sgd_ne (t := t) hb
  have h2 := sgd_log (t := t) hb h
  unfold sgd at h1 h2
  simp only [frT, frB, sgd]
  by_cases hn : b < 0
  · simp only [hn, if_true] at h1 h2 ⊢
    have h1' : ¬ Int.gcd t b = 0 := by omega
    have h2' : (Int.gcd t b).log2 < 9000 := by simpa using h2
    simp [F_fraction_of, g_fraction_of, hb, divisor_eq, hn, h1', h2']
  · simp only [hn, if_false] at h1 h2 ⊢
    have h1' : ¬ Int.gcd t b = 0 := by omega
    have h2' : (Int.gcd t b).log2 < 9000 := by simpa using h2
    simp [F_fraction_of, g_fraction_of, hb, divisor_eq, hn, h1', h2']
theorem atI_mem {α : Type} {l : List α} {i : Int} (h0 : 0 ≤ i) (h : i < l.length) : ∃ x, x ∈ l ∧ atI l i = some x := by
  have hi : i.toNat < l.length := by omega
  refine ⟨l[i.toNat], List.getElem_mem hi, ?_⟩
  have := atI_nat (List.getElem?_eq_getElem hi)
  rwa [Int.toNat_of_nonneg h0] at this
theorem mulI {x y : Int} (h1 : x.natAbs < 2 ^ 4000) (h2 : y.natAbs < 2 ^ 4000) : x.natAbs.log2 + y.natAbs.log2 < 1000000 := mul_ok h1 h2 (by decide) (by decide) (by decide)
/-! the law's cells and draws -/
theorem atI_ok {α : Type} {l : List α} {i : Int} (h0 : 0 ≤ i) (h : i < l.length) : ∃ x, atI l i = some x := by
  have hi : i.toNat < l.length := by omega
  refine ⟨l[i.toNat], ?_⟩
  have := atI_nat (List.getElem?_eq_getElem hi)
  rwa [Int.toNat_of_nonneg h0] at this
theorem cell_ex (ns : List Int) (hl : ns.length ≤ 63) (k : Nat) (hk : k ≤ 100000) : ∃ c, F_law_cell [.scr ns, .int k] = .val .P (.int c) := by
  have m1 : Nat.log2 48271 + Nat.log2 k < 1000000 := by
    have : Nat.log2 48271 = 15 := by decide
    have := log2_lt (n := k) (k := 17) (by decide) (by omega)
    omega
  have m2 : Nat.log2 7907 + Nat.log2 k < 1000000 := by
    have : Nat.log2 7907 = 12 := by decide
    have := log2_lt (n := k) (k := 17) (by decide) (by omega)
    omega
  by_cases h0 : ns.length = 0
  · simp [F_law_cell, g_law_cell, h0, m1]
  · by_cases h1 : k < ns.length
    · obtain ⟨x, hx⟩ := atI_ok (l := ns) (i := (k : Int)) (by omega) (by omega)
      have h1' : (k : Int) < (ns.length : Int) := by omega
      simp [F_law_cell, g_law_cell, h0, h1', hx, h1]
    · have hm : (k : Int).fmod (ns.length : Int) = ((k % ns.length : Nat) : Int) := by
        rw [Int.fmod_eq_emod_of_nonneg _ (Int.natCast_nonneg _)]; rfl
      have hlt : k % ns.length < ns.length := Nat.mod_lt _ (by omega)
      obtain ⟨x, hx⟩ := atI_ok (l := ns) (i := ((k % ns.length : Nat) : Int)) (by omega) (by omega)
      have hb : (x.fmod 1000033).natAbs < 2 ^ 20 := by
        have h1 := Int.fmod_nonneg_of_pos x (b := 1000033) (by decide)
        have h2 := Int.fmod_lt_of_pos x (b := 1000033) (by decide)
        omega
      have m3 := mul_ok (i := x.fmod 1000033) (j := 39373) (a := 20) (b := 20) hb (by decide) (by decide) (by decide) (by decide)
      have h1' : ¬ (k : Int) < (ns.length : Int) := by omega
      have m3' : (x.fmod 1000033).natAbs.log2 + Nat.log2 39373 < 1000000 := m3
      have hx' : atI ns ((k : Int) % (ns.length : Int)) = some x := by rw [← hx]; rfl
      simp [F_law_cell, g_law_cell, h0, h1', h1, hm, hx', m2, m3']
/-- one draw -/
theorem fmod_in (x : Int) {s : Int} (h : 0 < s) : 0 ≤ x.fmod s ∧ x.fmod s < s := ⟨Int.fmod_nonneg_of_pos x h, Int.fmod_lt_of_pos x h⟩
theorem draws_loop (c : Int) (S : D) : ∀ (sizes : List Int), (∀ s ∈ sizes, 0 < s ∧ s < 2 ^ 1000) → ∀ (k : Nat) (r : Int) (acc : List D) (x4 x5 x6 : SL), k + sizes.length ≤ 10000 → acc.length = k →
    ∃ (l : List Int) (r' : Int) (y4 y5 y6 : SL), InR l sizes ∧ forD (tgB (tgT 2 (tgsCons (tgN 4) (tgsCons (tgN 5) tgsNil))) fb_law_draws_1) (enumD k (sizes.map .int)) [.val (.int c), .val S, .val (.int r), .own acc, x4, x5, x6] = .nx [.val (.int c), .val S, .val (.int r'), .own (acc ++ l.map .int), y4, y5, y6] := by
  intro sizes
  induction sizes with
  | nil =>
    intro _ k r acc x4 x5 x6 _ _
    exact ⟨[], r, x4, x5, x6, trivial, by simp [enumD]⟩
  | cons s sizes ih =>
    intro hs k r acc x4 x5 x6 hk ha
    obtain ⟨hs0, hs1⟩ := hs s (List.mem_cons_self ..)
    have hsne : ¬ s = 0 := by omega
    have hslog : s.natAbs.log2 < 9000 := Nat.lt_of_lt_of_le (log2_lt (k := 1000) (by decide) (by omega)) (by decide)
    have hac : acc.length < 1000000 := by simp at hk; omega
    have hs' : ∀ s ∈ sizes, 0 < s ∧ s < 2 ^ 1000 := fun x hx => hs x (List.mem_cons_of_mem _ hx)
    have hk' : k + 1 + sizes.length ≤ 10000 := by simp at hk; omega
    by_cases hr : 0 < r
    · obtain ⟨l, r', y4, y5, y6, h1, h2⟩ := ih hs' (k + 1) (r.fdiv s) (acc ++ [.int (r.fmod s)]) (.val (.int k)) (.val (.int s)) x6 hk' (by simp [ha])
      refine ⟨r.fmod s :: l, r', y4, y5, y6, ⟨fmod_in r hs0, h1⟩, ?_⟩
      rw [List.map_cons, enumD, e_forC]
      simp only [e_tgB, e_tgTt, e_tgsCons, e_tgN, e_tgsNil, Option.bind_some, List.length_cons, List.length_nil, if_true, List.set_cons_succ, List.set_cons_zero]
      simp [q_fb_law_draws_1, hr, hsne, hac, hslog]
      simpa using h2
    · have hkn : k < 10000 := by simp at hk; omega
      have hc := fmod_in c (s := 2147483647) (by decide)
      have q1 : Nat.log2 1009 + Nat.log2 k < 1000000 := by
        have : Nat.log2 1009 < 100 := by decide
        have := log2_lt (n := k) (k := 17) (by decide) (by omega)
        omega
      have e1 : ((1009 : Int) * k).natAbs = 1009 * k := by omega
      have q2 : (1009 * k).log2 + Nat.log2 k < 1000000 := by
        have := log2_lt (n := 1009 * k) (k := 30) (by decide) (by omega)
        have := log2_lt (n := k) (k := 17) (by decide) (by omega)
        omega
      have q3 : Nat.log2 48611 + Nat.log2 k < 1000000 := by
        have : Nat.log2 48611 < 100 := by decide
        have := log2_lt (n := k) (k := 17) (by decide) (by omega)
        omega
      have hkk : (1009 : Int) * k * k ≤ 1009 * 10000 * 10000 := by
        have h1 : (1009 : Int) * k ≤ 1009 * 10000 := by omega
        have h2 : (k : Int) ≤ 10000 := by omega
        exact Int.mul_le_mul h1 h2 (by omega) (by omega)
      have hkk0 : (0 : Int) ≤ 1009 * k * k := Int.mul_nonneg (by omega) (by omega)
      generalize hb : (c.fmod 2147483647 + 1009 * (k : Int) * k + 48611 * k + 17) = bb
      have q4 : bb.natAbs < 18446744073709551616 := by omega
      have hm := fmod_in (bb ^ 5) (s := 2147483647) (by decide)
      have q5 : ((bb ^ 5).fmod 2147483647).natAbs.log2 + Nat.log2 48271 < 1000000 := mul_ok (j := 48271) (a := 40) (b := 20) (by omega) (by decide) (by decide) (by decide) (by decide)
      have q6 : Nat.log2 7919 + Nat.log2 k < 1000000 := by
        have : Nat.log2 7919 < 100 := by decide
        have := log2_lt (n := k) (k := 17) (by decide) (by omega)
        omega
      obtain ⟨l, r', y4, y5, y6, h1, h2⟩ := ih hs' (k + 1) r (acc ++ [.int (((((bb ^ 5).fmod 2147483647) * 48271 + 7919 * k).fmod 1000000007).fmod s)]) (.val (.int k)) (.val (.int s)) (.val (.int ((bb ^ 5).fmod 2147483647))) hk' (by simp [ha])
      refine ⟨((((bb ^ 5).fmod 2147483647) * 48271 + 7919 * k).fmod 1000000007).fmod s :: l, r', y4, y5, y6, ⟨fmod_in _ hs0, h1⟩, ?_⟩
      rw [List.map_cons, enumD, e_forC]
      simp only [e_tgB, e_tgTt, e_tgsCons, e_tgN, e_tgsNil, Option.bind_some, List.length_cons, List.length_nil, if_true, List.set_cons_succ, List.set_cons_zero]
      simp [q_fb_law_draws_1, hr, hsne, hac, q1, e1, q2, q3, hb, q4, q5, q6]
      simpa using h2
theorem draws_ex (c : Int) (sizes : List Int) (hs : ∀ s ∈ sizes, 0 < s ∧ s < 2 ^ 1000) (hl : sizes.length ≤ 9000) : ∃ l : List Int, F_law_draws [.int c, .lst (sizes.map .int)] = .val .N (.lst (l.map .int)) ∧ InR l sizes := by
  have key : ∀ r : Int, ∃ l : List Int, ((sSeq (sSet 3 (dLst aNil))
  (sSeq (sFor (dEnum (aCons (dVar 1) aNil)) (tgT 2 (tgsCons (tgN 4) (tgsCons (tgN 5) tgsNil))) fb_law_draws_1)
  (sRetV 3))) [.val (.int c), .val (.lst (sizes.map .int)), .val (.int r), .emp, .emp, .emp, .emp]) = .rt .N (.lst (l.map .int)) ∧ InR l sizes := fun r => by
    obtain ⟨l, r', y4, y5, y6, h1, h2⟩ := draws_loop c (.lst (sizes.map .int)) sizes hs 0 r [] .emp .emp .emp (by omega) rfl
    refine ⟨l, ?_, h1⟩
    simp only [e_sSeq, e_sSet, e_dLst, e_aNil, List.length_nil, Nat.zero_le, if_true, List.set_cons_succ, List.set_cons_zero, SR.bind_nx, e_sFor, e_dEnum, e_aCons, e_dVar, List.getElem?_cons_succ, List.getElem?_cons_zero, cons_P, acons_ok, Bool.and_self, h2]
    simp
  by_cases h : (1000000000000000000 : Int) ≤ c
  · obtain ⟨l, h1, h2⟩ := key c
    refine ⟨l, ?_, h2⟩
    simp only [e_sSeq] at h1
    simp only [F_law_draws, g_law_draws, e_fnD, e_startE, List.length_cons, List.length_nil, if_true, e_sSeq, List.map_cons, List.map_nil, List.cons_append, List.nil_append]
    simp [h] at h1 ⊢
    rw [h1]; rfl
  · obtain ⟨l, h1, h2⟩ := key 0
    refine ⟨l, ?_, h2⟩
    simp only [e_sSeq] at h1
    simp only [F_law_draws, g_law_draws, e_fnD, e_startE, List.length_cons, List.length_nil, if_true, e_sSeq, List.map_cons, List.map_nil, List.cons_append, List.nil_append]
    simp [h] at h1 ⊢
    rw [h1]; rfl
/-! the law's numbers -/
theorem number_ex {d0 d1 d2 d3 d4 d5 d6 : Int} (h0 : 0 ≤ d0 ∧ d0 < 8) (h1 : 0 ≤ d1 ∧ d1 < 2) (h2 : 0 ≤ d2 ∧ d2 < 100000000) (h3 : 0 ≤ d3 ∧ d3 < 100000000) (h4 : 0 ≤ d4 ∧ d4 < 100000000) (h5 : 0 ≤ d5 ∧ d5 < 100000000) (h6 : 0 ≤ d6 ∧ d6 < 100000000) :
    ∃ n : Int, F_law_number [.lst [.int d0, .int d1, .int d2, .int d3, .int d4, .int d5, .int d6]] = .val .P (.int n) ∧ n.natAbs < 2 ^ 140 := by
  have m : ∀ x : Int, x.natAbs < 2 ^ 200 → x.natAbs.log2 + Nat.log2 100000000 < 1000000 := fun x h => mul_ok (j := 100000000) (a := 200) (b := 30) h (by decide) (by decide) (by decide) (by decide)
  obtain ⟨x, hx, hx2⟩ := atI_mem (l := [D.int 1, .int 10, .int 100, .int 1000, .int 1000000000, .int 100000000000000000000, .int 1000000000000000000000000000000000000000, .int 10000000000000000000000000000000000000000]) (i := d0) h0.1 h0.2
  have hm : ∃ q : Int, x = .int q ∧ 0 < q ∧ q < 2 ^ 140 := by
    simp only [List.mem_cons, List.not_mem_nil, or_false] at hx
    rcases hx with rfl | rfl | rfl | rfl | rfl | rfl | rfl | rfl <;> exact ⟨_, rfl, by decide, by decide⟩
  obtain ⟨q, rfl, q0, q1⟩ := hm
  have qn : ¬ q = 0 := by omega
  generalize hw : (((((0 * 100000000 + d2) * 100000000 + d3) * 100000000 + d4) * 100000000 + d5) * 100000000 + d6) = w
  have hq := fmod_in w q0
  obtain ⟨y, hy, hy2⟩ := atI_mem (l := [D.int (w.fmod q), .int (-(w.fmod q))]) (i := d1) h1.1 h1.2
  have hyy : ∃ n : Int, y = .int n ∧ n.natAbs < 2 ^ 140 := by
    simp only [List.mem_cons, List.not_mem_nil, or_false] at hy
    rcases hy with rfl | rfl
    · exact ⟨_, rfl, by omega⟩
    · exact ⟨_, rfl, by omega⟩
  obtain ⟨n, rfl, hn⟩ := hyy
  refine ⟨n, ?_, hn⟩
  have g0 := m 0 (by decide)
  have g1 := m (0 * 100000000 + d2) (by omega)
  have g2 := m ((0 * 100000000 + d2) * 100000000 + d3) (by omega)
  have g3 := m (((0 * 100000000 + d2) * 100000000 + d3) * 100000000 + d4) (by omega)
  have g4 := m ((((0 * 100000000 + d2) * 100000000 + d3) * 100000000 + d4) * 100000000 + d5) (by omega)
  simp at g0 g1 g2 g3 g4 hw
  simp [F_law_number, g_law_number, cutG, HT.sIx, e_forC, q_fb_law_number_1, g0, g1, g2, g3, g4, hw, hx2, qn, hy2]
theorem numbers_ex (c : Int) : ∃ a b d : Int, F_law_numbers [.int c, .int 3] = .val .N (.lst [.int a, .int b, .int d]) ∧ a.natAbs < 2 ^ 140 ∧ b.natAbs < 2 ^ 140 ∧ d.natAbs < 2 ^ 140 := by
  obtain ⟨l, hl, hr⟩ := draws_ex c [8, 2, 100000000, 100000000, 100000000, 100000000, 100000000, 8, 2, 100000000, 100000000, 100000000, 100000000, 100000000, 8, 2, 100000000, 100000000, 100000000, 100000000, 100000000] (by decide) (by decide)
  obtain ⟨a0, l, rfl, p0, p0', hr⟩ := hr.cons
  obtain ⟨a1, l, rfl, p1, p1', hr⟩ := hr.cons
  obtain ⟨a2, l, rfl, p2, p2', hr⟩ := hr.cons
  obtain ⟨a3, l, rfl, p3, p3', hr⟩ := hr.cons
  obtain ⟨a4, l, rfl, p4, p4', hr⟩ := hr.cons
  obtain ⟨a5, l, rfl, p5, p5', hr⟩ := hr.cons
  obtain ⟨a6, l, rfl, p6, p6', hr⟩ := hr.cons
  obtain ⟨b0, l, rfl, q0, q0', hr⟩ := hr.cons
  obtain ⟨b1, l, rfl, q1, q1', hr⟩ := hr.cons
  obtain ⟨b2, l, rfl, q2, q2', hr⟩ := hr.cons
  obtain ⟨b3, l, rfl, q3, q3', hr⟩ := hr.cons
  obtain ⟨b4, l, rfl, q4, q4', hr⟩ := hr.cons
  obtain ⟨b5, l, rfl, q5, q5', hr⟩ := hr.cons
  obtain ⟨b6, l, rfl, q6, q6', hr⟩ := hr.cons
  obtain ⟨c0, l, rfl, r0, r0', hr⟩ := hr.cons
  obtain ⟨c1, l, rfl, r1, r1', hr⟩ := hr.cons
  obtain ⟨c2, l, rfl, r2, r2', hr⟩ := hr.cons
  obtain ⟨c3, l, rfl, r3, r3', hr⟩ := hr.cons
  obtain ⟨c4, l, rfl, r4, r4', hr⟩ := hr.cons
  obtain ⟨c5, l, rfl, r5, r5', hr⟩ := hr.cons
  obtain ⟨c6, l, rfl, r6, r6', hr⟩ := hr.cons
  obtain rfl := hr.nil
  obtain ⟨x, hx, hx'⟩ := number_ex ⟨p0, p0'⟩ ⟨p1, p1'⟩ ⟨p2, p2'⟩ ⟨p3, p3'⟩ ⟨p4, p4'⟩ ⟨p5, p5'⟩ ⟨p6, p6'⟩
  obtain ⟨y, hy, hy'⟩ := number_ex ⟨q0, q0'⟩ ⟨q1, q1'⟩ ⟨q2, q2'⟩ ⟨q3, q3'⟩ ⟨q4, q4'⟩ ⟨q5, q5'⟩ ⟨q6, q6'⟩
  obtain ⟨z, hz, hz'⟩ := number_ex ⟨r0, r0'⟩ ⟨r1, r1'⟩ ⟨r2, r2'⟩ ⟨r3, r3'⟩ ⟨r4, r4'⟩ ⟨r5, r5'⟩ ⟨r6, r6'⟩
  refine ⟨x, y, z, ?_, hx', hy', hz'⟩
  simp only [List.map_cons, List.map_nil] at hl
  have l1 : Nat.log2 7 = 2 := by decide
  simp +decide [F_law_numbers, g_law_numbers, hl, List.replicate, rangeD, List.range, List.range.loop, e_lcC, q_ce_law_numbers_1, l1, cutG, HT.sIx, hx, hy, hz]
theorem pair_ex (ns : List Int) (hl : ns.length ≤ 63) : ∃ u v : Int, F_law_pair [.scr ns] = .val .P (.tup [.int u, .int v]) ∧ u.natAbs < 2 ^ 400 ∧ v.natAbs < 2 ^ 400 := by
  obtain ⟨c0, hc0⟩ := cell_ex ns hl 0 (by decide)
  obtain ⟨c1, hc1⟩ := cell_ex ns hl 1 (by decide)
  obtain ⟨l, hd, hr⟩ := draws_ex c0 [8, 2] (by decide) (by decide)
  obtain ⟨w, l, rfl, p0, p0', hr⟩ := hr.cons
  obtain ⟨m, l, rfl, p1, p1', hr⟩ := hr.cons
  obtain rfl := hr.nil
  obtain ⟨a, b, d, hn, ha, hb, hdd⟩ := numbers_ex c1
  simp only [List.map_cons, List.map_nil] at hd
  simp at hc0 hc1
  have key : ∀ b : Int, b.natAbs < 2 ^ 140 → ∃ u v : Int, ((sSeq (sIf (dOp oEq (dVar 2) (dC (.int 1))) (sSeq (sSetF 5 (dOp oAdd (dC (.int 1)) (dOp oMod (dCB oAbs (aCons (dVar 5) aNil)) (dOp oPow (dC (.int 10)) (dC (.int 19))))))
  (sSeq (sSetF 3 (dOp oMul (dOp oMod (dVar 3) (dOp oPow (dC (.int 10)) (dC (.int 20)))) (dVar 5)))
  (sSetF 4 (dOp oMul (dOp oMod (dVar 4) (dOp oPow (dC (.int 10)) (dC (.int 20)))) (dVar 5))))) sSkip)
  (sRet (dTup (aCons (dVar 3) (aCons (dVar 4) aNil))))) [.val (.scr ns), .val (.int w), .val (.int m), .val (.int a), .val (.int b), .val (.int d)]) = .rt .P (.tup [.int u, .int v]) ∧ u.natAbs < 2 ^ 400 ∧ v.natAbs < 2 ^ 400 := fun b hb => by
    by_cases hm : m = 1
    · have hs := fmod_in (if d < 0 then -d else d) (s := 10000000000000000000) (by decide)
      have h1 := fmod_in a (s := 100000000000000000000) (by decide)
      have h2 := fmod_in b (s := 100000000000000000000) (by decide)
      generalize hS : (if d < 0 then -d else d).fmod 10000000000000000000 = S at hs
      generalize hA : a.fmod 100000000000000000000 = A at h1
      generalize hB : b.fmod 100000000000000000000 = B at h2
      have m1 : A.natAbs.log2 + (1 + S).natAbs.log2 < 1000000 := mul_ok (a := 100) (b := 100) (by omega) (by omega) (by decide) (by decide) (by decide)
      have m2 : B.natAbs.log2 + (1 + S).natAbs.log2 < 1000000 := mul_ok (a := 100) (b := 100) (by omega) (by omega) (by decide) (by decide) (by decide)
      have bd : ∀ X : Int, 0 ≤ X ∧ X < 100000000000000000000 → (X * (1 + S)).natAbs < 2 ^ 400 := fun X hX => by
        have := wide_lt (i := X) (j := 1 + S) (a := 100) (b := 100) (by omega) (by omega)
        exact Nat.lt_of_lt_of_le this (by decide)
      refine ⟨A * (1 + S), B * (1 + S), ?_, bd A h1, bd B h2⟩
      simp [hm, hS, hA, hB, m1, m2]
    · refine ⟨a, b, ?_, Nat.lt_of_lt_of_le ha (by decide), Nat.lt_of_lt_of_le hb (by decide)⟩
      simp [hm]
  have h4 : w ≠ 0 ∧ w ≠ 1 ∧ w ≠ 2 ∧ w ≠ 3 ∨ w = 0 ∨ w = 1 ∨ w = 2 ∨ w = 3 := by omega
  rcases h4 with ⟨n0, n1, n2, n3⟩ | rfl | rfl | rfl | rfl
  · obtain ⟨u, v, h1, h2, h3⟩ := key b hb
    refine ⟨u, v, ?_, h2, h3⟩
    simp only [e_sSeq] at h1
    simp only [F_law_pair, g_law_pair, e_sSeq, e_fnD]
    simp [hc0, hc1, hd, hn, n0, n1, n2, n3] at h1 ⊢
    rw [h1]; rfl
  · obtain ⟨u, v, h1, h2, h3⟩ := key 0 (by decide)
    refine ⟨u, v, ?_, h2, h3⟩
    simp only [e_sSeq] at h1
    simp only [F_law_pair, g_law_pair, e_sSeq, e_fnD]
    simp [hc0, hc1, hd, hn] at h1 ⊢
    rw [h1]; rfl
  · obtain ⟨u, v, h1, h2, h3⟩ := key a ha
    refine ⟨u, v, ?_, h2, h3⟩
    simp only [e_sSeq] at h1
    simp only [F_law_pair, g_law_pair, e_sSeq, e_fnD]
    simp [hc0, hc1, hd, hn] at h1 ⊢
    rw [h1]; rfl
  · obtain ⟨u, v, h1, h2, h3⟩ := key (-a) (by omega)
    refine ⟨u, v, ?_, h2, h3⟩
    simp only [e_sSeq] at h1
    simp only [F_law_pair, g_law_pair, e_sSeq, e_fnD]
    simp [hc0, hc1, hd, hn] at h1 ⊢
    rw [h1]; rfl
  · obtain ⟨u, v, h1, h2, h3⟩ := key 1 (by decide)
    refine ⟨u, v, ?_, h2, h3⟩
    simp only [e_sSeq] at h1
    simp only [F_law_pair, g_law_pair, e_sSeq, e_fnD]
    simp [hc0, hc1, hd, hn] at h1 ⊢
    rw [h1]; rfl
theorem law_divisor_eq (a b : Int) : F_law_divisor [.int a, .int b] = .val .P (.int (Int.gcd a b)) := by
  simp [F_law_divisor, g_law_divisor, wc_law_divisor_1, wb_law_divisor_2, absI, gcd_while]
  rfl
theorem law_low_eq {t b : Int} (hb : b ≠ 0) (h : b.natAbs.log2 < 9000) : F_law_low [.int t, .int b] = .val .P (.tup [.int (frT t b), .int (frB t b)]) := by
  have h1 := sgd_ne (t := t) hb
  have h2 := sgd_log (t := t) hb h
  unfold sgd at h1 h2
  simp only [frT, frB, sgd]
  by_cases hn : b < 0
  · simp only [hn, if_true] at h1 h2 ⊢
    have h1' : ¬ Int.gcd t b = 0 := by omega
    have h2' : (Int.gcd t b).log2 < 9000 := by simpa using h2
    simp [F_law_low, g_law_low, law_divisor_eq, hn, h1', h2']
  · simp only [hn, if_false] at h1 h2 ⊢
    have h1' : ¬ Int.gcd t b = 0 := by omega
    have h2' : (Int.gcd t b).log2 < 9000 := by simpa using h2
    simp [F_law_low, g_law_low, law_divisor_eq, hn, h1', h2']
theorem is_fraction_eq (a b c d : Int) : F_law_is_fraction [.tup [.int a, .int b], .tup [.int c, .int d]] = .val .P (.bl (decide (a = c ∧ b = d))) := by
  simp [F_law_is_fraction, g_law_is_fraction, F_law_whole, g_law_whole, atI, ixN]
theorem refused_eq (x : Int) : F_law_refused [.int x] = .val .P (.bl true) := by
  have h : oEq (.lst [.bl true, .bl true, .bl false]) (.lst [.bl true, .bl true, .bl false]) = .val .P (.bl true) := by
    refine eqAny_of rfl ?_ ?_ ?_ ?_ ?_ <;> simp +decide [isPy, isPyL, py, pyL, SeqAt.shaped, PyData.canLay0, PyData.canLayAll0, PyData.depth, PyData.depthAll, PyData.eqv, PyData.eqvAll]
  simp [F_law_refused, g_law_refused, F_fraction_of, g_fraction_of, sub_CrumbError, sub_NoFraction, sub_ValueError, sub_NoText, h]
theorem fr_one (u : Int) : frT u 1 = u ∧ frB u 1 = 1 := by
  have : sgd u 1 = 1 := by simp [sgd]
  simp [frT, frB, this]
theorem law_true (ns : List Int) (hl : ns.length ≤ 63) (_ : ∀ z ∈ ns, Builtin.Int.intBits z ≤ 1048576) : F_law [.scr ns] = .val .P (.bl true) := by
  obtain ⟨u, v, hp, hu, hv⟩ := pair_ex ns hl
  have f1 : F_fraction_of [.int u, .int 1] = .val .P (.tup [.int u, .int 1]) := by
    rw [fraction_of_eq (by decide) (by decide), (fr_one u).1, (fr_one u).2]
  by_cases hv0 : v = 0
  · subst hv0
    simp [F_law, g_law, hp, f1, is_fraction_eq, refused_eq]
  · have hlog : v.natAbs.log2 < 9000 := Nat.lt_of_lt_of_le (log2_lt (k := 400) (by decide) hv) (by decide)
    have f2 := fraction_of_eq (t := u) hv0 hlog
    have f3 := law_low_eq (t := u) hv0 hlog
    simp [F_law, g_law, hp, f1, f2, f3, is_fraction_eq, refused_eq, hv0]
end Dn
namespace Dn
open PySem PySem.Spec PyProof.Rows L2
def top (i : Nat) : Stmt := PySem.Challenge.pw_halfcrumb_k01_fractions_made.main.body.getD i (.Pass ⟨0, 0, 0, 0⟩)
structure Adr where
  f_divisor : Addr
  d_divisor : FuncData
  f_law_cell : Addr
  d_law_cell : FuncData
  f_law_draws : Addr
  d_law_draws : FuncData
  f_law_whole : Addr
  d_law_whole : FuncData
  f_law_divisor : Addr
  d_law_divisor : FuncData
  f_law_number : Addr
  d_law_number : FuncData
  f_fraction_of : Addr
  d_fraction_of : FuncData
  f_law_low : Addr
  d_law_low : FuncData
  f_law_is_fraction : Addr
  d_law_is_fraction : FuncData
  f_law_numbers : Addr
  d_law_numbers : FuncData
  f_law_pair : Addr
  d_law_pair : FuncData
  f_law_refused : Addr
  d_law_refused : FuncData
  f_law : Addr
  d_law : FuncData
  c_CrumbError : Addr
  c_NoFraction : Addr
  c_NoText : Addr
def caOf (A : Adr) : Nat → Addr
  | 0 => A.c_CrumbError
  | 1 => A.c_NoFraction
  | 2 => A.c_NoText
  | _ => 0
def GG (K : PySem.W.Frag) (A : Adr) : Gm := { K := K, ca := caOf A, fn := fun _ => [], ea := 0 }
abbrev s_divisor : Stmt := top 5
abbrev n_divisor : List Str := ["one", "other"]
abbrev p_divisor : List Str := ["one", "other"]
theorem sc_divisor : FnScope n_divisor p_divisor (defScope s_divisor) := ⟨rfl, rfl, rfl, by decide +kernel, rfl, by decide +kernel, by decide +kernel⟩
abbrev s_law_cell : Stmt := top 8
abbrev n_law_cell : List Str := ["_law_script", "_law_k"]
abbrev p_law_cell : List Str := ["_law_script", "_law_k"]
theorem sc_law_cell : FnScope n_law_cell p_law_cell (defScope s_law_cell) := ⟨rfl, rfl, rfl, by decide +kernel, rfl, by decide +kernel, by decide +kernel⟩
abbrev s_law_draws : Stmt := top 9
abbrev n_law_draws : List Str := ["_law_cell_here", "_law_sizes", "_law_rest", "_law_found", "_law_k", "_law_size", "_law_mixed"]
abbrev p_law_draws : List Str := ["_law_cell_here", "_law_sizes"]
theorem sc_law_draws : FnScope n_law_draws p_law_draws (defScope s_law_draws) := ⟨rfl, rfl, rfl, by decide +kernel, rfl, by decide +kernel, by decide +kernel⟩
abbrev s_law_whole : Stmt := top 10
abbrev n_law_whole : List Str := ["_law_found"]
abbrev p_law_whole : List Str := ["_law_found"]
theorem sc_law_whole : FnScope n_law_whole p_law_whole (defScope s_law_whole) := ⟨rfl, rfl, rfl, by decide +kernel, rfl, by decide +kernel, by decide +kernel⟩
abbrev s_law_divisor : Stmt := top 11
abbrev n_law_divisor : List Str := ["_law_one", "_law_other"]
abbrev p_law_divisor : List Str := ["_law_one", "_law_other"]
theorem sc_law_divisor : FnScope n_law_divisor p_law_divisor (defScope s_law_divisor) := ⟨rfl, rfl, rfl, by decide +kernel, rfl, by decide +kernel, by decide +kernel⟩
abbrev s_law_number : Stmt := top 14
abbrev n_law_number : List Str := ["_law_draws_here", "_law_found", "_law_draw", "_law_kind", "_law_sign"]
abbrev p_law_number : List Str := ["_law_draws_here"]
theorem sc_law_number : FnScope n_law_number p_law_number (defScope s_law_number) := ⟨rfl, rfl, rfl, by decide +kernel, rfl, by decide +kernel, by decide +kernel⟩
abbrev s_fraction_of : Stmt := top 6
abbrev n_fraction_of : List Str := ["top", "bottom", "size"]
abbrev p_fraction_of : List Str := ["top", "bottom"]
theorem sc_fraction_of : FnScope n_fraction_of p_fraction_of (defScope s_fraction_of) := ⟨rfl, rfl, rfl, by decide +kernel, rfl, by decide +kernel, by decide +kernel⟩
abbrev s_law_low : Stmt := top 12
abbrev n_law_low : List Str := ["_law_upper", "_law_under", "_law_size"]
abbrev p_law_low : List Str := ["_law_upper", "_law_under"]
theorem sc_law_low : FnScope n_law_low p_law_low (defScope s_law_low) := ⟨rfl, rfl, rfl, by decide +kernel, rfl, by decide +kernel, by decide +kernel⟩
abbrev s_law_is_fraction : Stmt := top 13
abbrev n_law_is_fraction : List Str := ["_law_found", "_law_due"]
abbrev p_law_is_fraction : List Str := ["_law_found", "_law_due"]
theorem sc_law_is_fraction : FnScope n_law_is_fraction p_law_is_fraction (defScope s_law_is_fraction) := ⟨rfl, rfl, rfl, by decide +kernel, rfl, by decide +kernel, by decide +kernel⟩
abbrev s_law_numbers : Stmt := top 15
abbrev n_law_numbers : List Str := ["_law_cell_here", "_law_many", "_law_draws_here", "_law_k"]
abbrev p_law_numbers : List Str := ["_law_cell_here", "_law_many"]
theorem sc_law_numbers : FnScope n_law_numbers p_law_numbers (defScope s_law_numbers) := ⟨rfl, rfl, rfl, by decide +kernel, rfl, by decide +kernel, by decide +kernel⟩
abbrev s_law_pair : Stmt := top 16
abbrev n_law_pair : List Str := ["_law_script", "_law_way", "_law_more", "_law_upper", "_law_under", "_law_size"]
abbrev p_law_pair : List Str := ["_law_script"]
theorem sc_law_pair : FnScope n_law_pair p_law_pair (defScope s_law_pair) := ⟨rfl, rfl, rfl, by decide +kernel, rfl, by decide +kernel, by decide +kernel⟩
abbrev s_law_refused : Stmt := top 17
abbrev n_law_refused : List Str := ["_law_upper", "_law_word", "e"]
abbrev p_law_refused : List Str := ["_law_upper"]
theorem sc_law_refused : FnScope n_law_refused p_law_refused (defScope s_law_refused) := ⟨rfl, rfl, rfl, by decide +kernel, rfl, by decide +kernel, by decide +kernel⟩
abbrev s_law : Stmt := top 18
abbrev n_law : List Str := ["_law_script", "_law_due", "_law_upper", "_law_under"]
abbrev p_law : List Str := ["_law_script"]
theorem sc_law : FnScope n_law p_law (defScope s_law) := ⟨rfl, rfl, rfl, by decide +kernel, rfl, by decide +kernel, by decide +kernel⟩
structure Txt (K : PySem.W.Frag) (mg : Str → Option Value) (A : Adr) : Prop where
  F_divisor : Fun K "divisor" "divisor" s_divisor A.f_divisor A.d_divisor
  b_divisor : Binds K A.d_divisor p_divisor []
  g_divisor : mg "divisor" = some (.ref A.f_divisor)
  F_law_cell : Fun K "_law_cell" "_law_cell" s_law_cell A.f_law_cell A.d_law_cell
  b_law_cell : Binds K A.d_law_cell p_law_cell []
  g_law_cell : mg "_law_cell" = some (.ref A.f_law_cell)
  F_law_draws : Fun K "_law_draws" "_law_draws" s_law_draws A.f_law_draws A.d_law_draws
  b_law_draws : Binds K A.d_law_draws p_law_draws []
  g_law_draws : mg "_law_draws" = some (.ref A.f_law_draws)
  F_law_whole : Fun K "_law_whole" "_law_whole" s_law_whole A.f_law_whole A.d_law_whole
  b_law_whole : Binds K A.d_law_whole p_law_whole []
  g_law_whole : mg "_law_whole" = some (.ref A.f_law_whole)
  F_law_divisor : Fun K "_law_divisor" "_law_divisor" s_law_divisor A.f_law_divisor A.d_law_divisor
  b_law_divisor : Binds K A.d_law_divisor p_law_divisor []
  g_law_divisor : mg "_law_divisor" = some (.ref A.f_law_divisor)
  F_law_number : Fun K "_law_number" "_law_number" s_law_number A.f_law_number A.d_law_number
  b_law_number : Binds K A.d_law_number p_law_number []
  g_law_number : mg "_law_number" = some (.ref A.f_law_number)
  F_fraction_of : FunD K "fraction_of" "fraction_of" (defArgs s_fraction_of) (defBody s_fraction_of) (defScope s_fraction_of) ([(.int 1)].map toV) [] A.f_fraction_of A.d_fraction_of
  g_fraction_of : mg "fraction_of" = some (.ref A.f_fraction_of)
  F_law_low : Fun K "_law_low" "_law_low" s_law_low A.f_law_low A.d_law_low
  b_law_low : Binds K A.d_law_low p_law_low []
  g_law_low : mg "_law_low" = some (.ref A.f_law_low)
  F_law_is_fraction : Fun K "_law_is_fraction" "_law_is_fraction" s_law_is_fraction A.f_law_is_fraction A.d_law_is_fraction
  b_law_is_fraction : Binds K A.d_law_is_fraction p_law_is_fraction []
  g_law_is_fraction : mg "_law_is_fraction" = some (.ref A.f_law_is_fraction)
  F_law_numbers : Fun K "_law_numbers" "_law_numbers" s_law_numbers A.f_law_numbers A.d_law_numbers
  b_law_numbers : Binds K A.d_law_numbers p_law_numbers []
  g_law_numbers : mg "_law_numbers" = some (.ref A.f_law_numbers)
  F_law_pair : Fun K "_law_pair" "_law_pair" s_law_pair A.f_law_pair A.d_law_pair
  b_law_pair : Binds K A.d_law_pair p_law_pair []
  g_law_pair : mg "_law_pair" = some (.ref A.f_law_pair)
  F_law_refused : Fun K "_law_refused" "_law_refused" s_law_refused A.f_law_refused A.d_law_refused
  b_law_refused : Binds K A.d_law_refused p_law_refused []
  g_law_refused : mg "_law_refused" = some (.ref A.f_law_refused)
  F_law : Fun K "law" "law" s_law A.f_law A.d_law
  b_law : Binds K A.d_law p_law []
  g_law : mg "law" = some (.ref A.f_law)
  B_fraction_of_0_bottom_top : CallB K A.d_fraction_of p_fraction_of 0 ["bottom", "top"] [1, 0] (([(.int 1)] : List D).map toV)
  B_fraction_of_1_ : CallB K A.d_fraction_of p_fraction_of 1 [] [0, 1] (([(.int 1)] : List D).map toV)
  B_fraction_of_2_ : CallB K A.d_fraction_of p_fraction_of 2 [] [0, 1] (([(.int 1)] : List D).map toV)
  z_ValueError : mg "ValueError" = none
  z_abs : mg "abs" = none
  z_bool : mg "bool" = none
  z_enumerate : mg "enumerate" = none
  z_int : mg "int" = none
  z_isinstance : mg "isinstance" = none
  z_len : mg "len" = none
  z_range : mg "range" = none
  z_tuple : mg "tuple" = none
  g_CrumbError : mg "CrumbError" = some (.ref A.c_CrumbError)
  g_NoFraction : mg "NoFraction" = some (.ref A.c_NoFraction)
  g_NoText : mg "NoText" = some (.ref A.c_NoText)
  x_NoFraction : PySem.W.excIn K A.c_NoFraction [.type "ValueError", .type "Exception", .type "BaseException", .type "object"] "ValueError.__new__" = true
  k_NoFraction : PySem.W.keepIn K (.ref A.c_NoFraction) = true
  sb_NoFraction : PySem.W.subIn K (.ref A.c_NoFraction) (.type "BaseException") = some true
  t_NoFraction : PySem.W.typeIn K (.ref A.c_NoFraction) = some (.type "type")
  ex_CrumbError : ∀ c b, sub_CrumbError c = some b → PySem.W.exmOne K (.ref ((GG K A).ca c)) (.ref A.c_CrumbError) = some b
  ec_CrumbError : ∀ c, sub_CrumbError c = some true → ExcC K ((GG K A).ca c)
  ki_NoFraction : ∀ c b, sub_NoFraction c = some b → PySem.W.kitOne K (.ref ((GG K A).ca c)) (.ref A.c_NoFraction) = some b
  ki_NoText : ∀ c b, sub_NoText c = some b → PySem.W.kitOne K (.ref ((GG K A).ca c)) (.ref A.c_NoText) = some b
  ki_ValueError : ∀ c b, sub_ValueError c = some b → PySem.W.kitOne K (.ref ((GG K A).ca c)) (.type "ValueError") = some b
section
variable {P : Program} {w : World} {K : PySem.W.Frag} {mg : Str → Option Value} {base : Heap} {A : Adr}
theorem ok_divisor (T : Txt K mg A) : FnOk P w K mg base (L2.CX P w) 1 A.f_divisor A.d_divisor p_divisor (spF (GG K A) F_divisor) :=
  fn_ok (k := 0) rfl rfl T.F_divisor sc_divisor fun cdv Ar outer s H E hr => ⟨_,
    (pss_cons (ps_set (i := 0) sc_divisor.nd rfl (by first | exact Or.inl rfl | exact Or.inr rfl) (pe_callB call_abs (by rfl) T.z_abs (by decide +kernel) (pa_cons (pv 0) pa_nil)))
    (pss_cons (ps_set (i := 1) sc_divisor.nd rfl (by first | exact Or.inl rfl | exact Or.inr rfl) (pe_callB call_abs (by rfl) T.z_abs (by decide +kernel) (pa_cons (pv 1) pa_nil)))
    (pss_cons (ps_while (passes_of rfl) (pt_cmpR op_gt (pv 1) pe_int (nomark _)) (pss_one (ps_par rfl sc_divisor.nd rfl rfl (by decide) rfl rfl (pa_cons (pv 1) (pa_cons (pe_op op_modN (pv 0) (pv 1)) pa_nil)) rfl)))
    (pss_one (ps_ret (pv 0)))))),
    (s_seq (s_setF (v_cb c_abs (a_cons v_var a_nil)))
    (s_seq (s_setF (v_cb c_abs (a_cons v_var a_nil)))
    (s_seq (s_while (t_test (v_op d_gt v_var v_int)) (s_par (a_cons v_var (a_cons (v_op d_mod v_var v_var) a_nil))))
    s_retV)))⟩
theorem ok_law_cell (T : Txt K mg A) : FnOk P w K mg base (L2.CX P w) 1 A.f_law_cell A.d_law_cell p_law_cell (spF (GG K A) F_law_cell) :=
  fn_ok (k := 0) rfl rfl T.F_law_cell sc_law_cell fun cdv Ar outer s H E hr => ⟨_,
    (pss_cons (ps_if (pt_cmpR (or_eq hr.units) (pe_callB call_len (by rfl) T.z_len (by decide +kernel) (pa_cons (pv 0) pa_nil)) pe_int (nomark _)) (pss_one (ps_ret (pe_op or_add (pe_op or_mul pe_int (pv 1)) pe_int))) pss_nil)
    (pss_cons (ps_if (pt_cmpR op_lt (pv 1) (pe_callB call_len (by rfl) T.z_len (by decide +kernel) (pa_cons (pv 0) pa_nil)) (nomark _)) (pss_one (ps_ret (pe_ix ix_seq (pv 0) (pv 1) (fun _ _ => rfl)))) pss_nil)
    (pss_one (ps_ret (pe_op or_add (pe_op or_mul (pe_op op_modN (pe_ix ix_seq (pv 0) (pe_op op_modN (pv 1) (pe_callB call_len (by rfl) T.z_len (by decide +kernel) (pa_cons (pv 0) pa_nil))) (fun _ _ => rfl)) pe_int) pe_int) (pe_op or_mul pe_int (pv 1))))))),
    (s_seq (s_if (t_test (v_op d_eq (v_cb c_len (a_cons v_var a_nil)) v_int)) (s_ret (v_op d_add (v_op d_mul v_int v_var) v_int)) s_skip)
    (s_seq (s_if (t_test (v_op d_lt v_var (v_cb c_len (a_cons v_var a_nil)))) (s_ret (v_op d_ix v_var v_var)) s_skip)
    (s_ret (v_op d_add (v_op d_mul (v_op d_mod (v_op d_ix v_var (v_op d_mod v_var (v_cb c_len (a_cons v_var a_nil)))) v_int) v_int) (v_op d_mul v_int v_var)))))⟩
theorem ok_law_draws (T : Txt K mg A) : FnOk P w K mg base (L2.CX P w) 1 A.f_law_draws A.d_law_draws p_law_draws (spF (GG K A) F_law_draws) :=
  fn_ok (k := 0) rfl rfl T.F_law_draws sc_law_draws fun cdv Ar outer s H E hr => ⟨_,
    (pss_cons (ps_set (i := 2) sc_law_draws.nd rfl (by first | exact Or.inl rfl | exact Or.inr rfl) pe_int)
    (pss_cons (ps_if (pt_cmpR op_ge (pv 0) (pe_op op_pow pe_int pe_int) (nomark _)) (pss_one (ps_set (i := 2) sc_law_draws.nd rfl (by first | exact Or.inl rfl | exact Or.inr rfl) (pv 0))) pss_nil)
    (pss_cons (ps_set (i := 3) sc_law_draws.nd rfl (by first | exact Or.inl rfl | exact Or.inr rfl) (pe_lst pa_nil))
    (pss_cons (ps_for (passes_of rfl) rfl (pi_enum (by rfl) T.z_enumerate (pa_cons (pv 1) pa_nil)) (pg_tl rfl (pgs_cons (pg_name (i := 4) sc_law_draws.nd rfl (by first | exact Or.inl rfl | exact Or.inr rfl)) (pgs_cons (pg_name (i := 5) sc_law_draws.nd rfl (by first | exact Or.inl rfl | exact Or.inr rfl)) pgs_nil))) (pss_one (ps_if (pt_cmpR op_gt (pv 2) pe_int (nomark _)) (pss_cons (ps_expr (pe_bm PySem.F.plainAttrs_list PySem.F.slot_list_append PySem.F.type_list_append mt_append (pv 3) (pa_cons (pe_op op_modN (pv 2) (pv 5)) pa_nil)))
    (pss_one (ps_set (i := 2) sc_law_draws.nd rfl (by first | exact Or.inl rfl | exact Or.inr rfl) (pe_op or_div (pv 2) (pv 5))))) (pss_cons (ps_set (i := 6) sc_law_draws.nd rfl (by first | exact Or.inl rfl | exact Or.inr rfl) (pe_op op_modN (pe_op op_pow (pe_op or_add (pe_op or_add (pe_op or_add (pe_op op_modN (pv 0) pe_int) (pe_op or_mul (pe_op or_mul pe_int (pv 4)) (pv 4))) (pe_op or_mul pe_int (pv 4))) pe_int) pe_int) pe_int))
    (pss_one (ps_expr (pe_bm PySem.F.plainAttrs_list PySem.F.slot_list_append PySem.F.type_list_append mt_append (pv 3) (pa_cons (pe_op op_modN (pe_op op_modN (pe_op or_add (pe_op or_mul (pv 6) pe_int) (pe_op or_mul pe_int (pv 4))) pe_int) (pv 5)) pa_nil))))))))
    (pss_one (ps_ret (pv 3))))))),
    (s_seq (s_setF v_int)
    (s_seq (s_if (t_test (v_op d_ge v_var (v_op d_pow v_int v_int))) (s_setF v_var) s_skip)
    (s_seq (s_set (v_lst a_nil))
    (s_seq (s_for (i_enum (a_cons v_var a_nil)) (g_tl (gs_cons g_name (gs_cons g_name gs_nil))) (s_if (t_test (v_op d_gt v_var v_int)) (s_seq (s_app (v_op d_mod v_var v_var))
    (s_setF (v_op d_div v_var v_var))) (s_seq (s_setF (v_op d_mod (v_op d_pow (v_op d_add (v_op d_add (v_op d_add (v_op d_mod v_var v_int) (v_op d_mul (v_op d_mul v_int v_var) v_var)) (v_op d_mul v_int v_var)) v_int) v_int) v_int))
    (s_app (v_op d_mod (v_op d_mod (v_op d_add (v_op d_mul v_var v_int) (v_op d_mul v_int v_var)) v_int) v_var)))))
    s_retV))))⟩
theorem ok_law_whole (T : Txt K mg A) : FnOk P w K mg base (L2.CX P w) 1 A.f_law_whole A.d_law_whole p_law_whole (spF (GG K A) F_law_whole) :=
  fn_ok (k := 0) rfl rfl T.F_law_whole sc_law_whole fun cdv Ar outer s H E hr => ⟨_,
    (pss_one (ps_ret (pe_and (pe_callB call_isi (by rfl) T.z_isinstance (by decide +kernel) (pa_cons (pv 0) (pa_cons (pe_bltn (v := .ty "int") (by rfl) T.z_int (by decide +kernel) rfl) pa_nil))) (pe_one (pe_not (pe_callB call_isi (by rfl) T.z_isinstance (by decide +kernel) (pa_cons (pv 0) (pa_cons (pe_bltn (v := .ty "bool") (by rfl) T.z_bool (by decide +kernel) rfl) pa_nil)))))))),
    (s_ret (v_and (v_isi v_var) (v_not (v_isi v_var))))⟩
theorem ok_law_divisor (T : Txt K mg A) : FnOk P w K mg base (L2.CX P w) 1 A.f_law_divisor A.d_law_divisor p_law_divisor (spF (GG K A) F_law_divisor) :=
  fn_ok (k := 0) rfl rfl T.F_law_divisor sc_law_divisor fun cdv Ar outer s H E hr => ⟨_,
    (pss_cons (ps_set (i := 0) sc_law_divisor.nd rfl (by first | exact Or.inl rfl | exact Or.inr rfl) (pe_callB call_abs (by rfl) T.z_abs (by decide +kernel) (pa_cons (pv 0) pa_nil)))
    (pss_cons (ps_set (i := 1) sc_law_divisor.nd rfl (by first | exact Or.inl rfl | exact Or.inr rfl) (pe_callB call_abs (by rfl) T.z_abs (by decide +kernel) (pa_cons (pv 1) pa_nil)))
    (pss_cons (ps_while (passes_of rfl) (pt_cmpR op_gt (pv 1) pe_int (nomark _)) (pss_one (ps_par rfl sc_law_divisor.nd rfl rfl (by decide) rfl rfl (pa_cons (pv 1) (pa_cons (pe_op op_modN (pv 0) (pv 1)) pa_nil)) rfl)))
    (pss_one (ps_ret (pv 0)))))),
    (s_seq (s_setF (v_cb c_abs (a_cons v_var a_nil)))
    (s_seq (s_setF (v_cb c_abs (a_cons v_var a_nil)))
    (s_seq (s_while (t_test (v_op d_gt v_var v_int)) (s_par (a_cons v_var (a_cons (v_op d_mod v_var v_var) a_nil))))
    s_retV)))⟩
theorem ok_law_number (T : Txt K mg A) : FnOk P w K mg base (L2.CX P w) 1 A.f_law_number A.d_law_number p_law_number (spF (GG K A) F_law_number) :=
  fn_ok (k := 0) rfl rfl T.F_law_number sc_law_number fun cdv Ar outer s H E hr => ⟨_,
    (pss_cons (ps_asg (pe_slice sl_any (pv 0) po_none (po_some pe_int)) (pg_tl rfl (pgs_cons (pg_name (i := 3) sc_law_number.nd rfl (by first | exact Or.inl rfl | exact Or.inr rfl)) (pgs_cons (pg_name (i := 4) sc_law_number.nd rfl (by first | exact Or.inl rfl | exact Or.inr rfl)) pgs_nil))))
    (pss_cons (ps_set (i := 1) sc_law_number.nd rfl (by first | exact Or.inl rfl | exact Or.inr rfl) pe_int)
    (pss_cons (ps_for (passes_of rfl) rfl (pi_any (pe_slice sl_any (pv 0) (po_some pe_int) po_none)) (pg_name (i := 2) sc_law_number.nd rfl (by first | exact Or.inl rfl | exact Or.inr rfl)) (pss_one (ps_set (i := 1) sc_law_number.nd rfl (by first | exact Or.inl rfl | exact Or.inr rfl) (pe_op or_add (pe_op or_mul (pv 1) (pe_op op_pow pe_int pe_int)) (pv 2)))))
    (pss_cons (ps_set (i := 1) sc_law_number.nd rfl (by first | exact Or.inl rfl | exact Or.inr rfl) (pe_op op_modN (pv 1) (pe_ix ix_seq (pe_lst (pa_cons pe_int (pa_cons pe_int (pa_cons pe_int (pa_cons pe_int (pa_cons (pe_op op_pow pe_int pe_int) (pa_cons (pe_op op_pow pe_int pe_int) (pa_cons (pe_op op_pow pe_int pe_int) (pa_cons (pe_op op_pow pe_int pe_int) pa_nil))))))))) (pv 3) (fun _ _ => rfl))))
    (pss_one (ps_ret (pe_ix ix_seq (pe_lst (pa_cons (pv 1) (pa_cons (pe_un un_neg (pv 1)) pa_nil))) (pv 4) (fun _ _ => rfl)))))))),
    (s_seq (s_asg (v_sl d_sl v_var o_none (o_some v_int)) (g_tl (gs_cons g_name (gs_cons g_name gs_nil))))
    (s_seq (s_setF v_int)
    (s_seq (s_for (i_any (v_sl d_sl v_var (o_some v_int) o_none)) g_name (s_setF (v_op d_add (v_op d_mul v_var (v_op d_pow v_int v_int)) v_var)))
    (s_seq (s_setF (v_op d_mod v_var (v_op d_ix (v_lst (a_cons v_int (a_cons v_int (a_cons v_int (a_cons v_int (a_cons (v_op d_pow v_int v_int) (a_cons (v_op d_pow v_int v_int) (a_cons (v_op d_pow v_int v_int) (a_cons (v_op d_pow v_int v_int) a_nil))))))))) v_var)))
    (s_ret (v_op d_ix (v_lst (a_cons v_var (a_cons (v_un d_neg v_var) a_nil))) v_var))))))⟩
theorem ok_fraction_of (T : Txt K mg A) : FnOk P w K mg base (L2.CX P w) 2 A.f_fraction_of A.d_fraction_of p_fraction_of (spF (GG K A) F_fraction_of) :=
  fn_okD (k := 1) rfl rfl T.F_fraction_of sc_fraction_of fun cdv Ar outer s H E hr => ⟨_,
    (pss_cons (ps_if (pt_cmpR (or_eq hr.units) (pv 1) pe_int (nomark _)) (pss_one (ps_raise rfl (takes_of rfl rfl rfl rfl) (pmk_own PySem.F.excBase_ValueError T.x_NoFraction T.g_NoFraction T.k_NoFraction (raises_own T.sb_NoFraction T.t_NoFraction) rfl))) pss_nil)
    (pss_cons (ps_set (i := 2) sc_fraction_of.nd rfl (by first | exact Or.inl rfl | exact Or.inr rfl) (pe_callS (ok_divisor T) hr rfl T.g_divisor T.F_divisor.kp T.b_divisor (fun σ => passAt (takes_of rfl rfl rfl rfl) σ) (by exact (pa_cons (pv 0) (pa_cons (pv 1) pa_nil)))))
    (pss_cons (ps_if (pt_cmpR op_lt (pv 1) pe_int (nomark _)) (pss_one (ps_set (i := 2) sc_fraction_of.nd rfl (by first | exact Or.inl rfl | exact Or.inr rfl) (pe_un un_neg (pv 2)))) pss_nil)
    (pss_one (ps_ret (pe_tup (pa_cons (pe_op or_div (pv 0) (pv 2)) (pa_cons (pe_op or_div (pv 1) (pv 2)) pa_nil)))))))),
    (s_seq (s_if (t_test (v_op d_eq v_var v_int)) (s_raise rfl) s_skip)
    (s_seq (s_setF (v_call (a_cons v_var (a_cons v_var a_nil))))
    (s_seq (s_if (t_test (v_op d_lt v_var v_int)) (s_setF (v_un d_neg v_var)) s_skip)
    (s_ret (v_tup (a_cons (v_op d_div v_var v_var) (a_cons (v_op d_div v_var v_var) a_nil)))))))⟩
theorem ok_law_low (T : Txt K mg A) : FnOk P w K mg base (L2.CX P w) 2 A.f_law_low A.d_law_low p_law_low (spF (GG K A) F_law_low) :=
  fn_ok (k := 1) rfl rfl T.F_law_low sc_law_low fun cdv Ar outer s H E hr => ⟨_,
    (pss_cons (ps_set (i := 2) sc_law_low.nd rfl (by first | exact Or.inl rfl | exact Or.inr rfl) (pe_callS (ok_law_divisor T) hr rfl T.g_law_divisor T.F_law_divisor.kp T.b_law_divisor (fun σ => passAt (takes_of rfl rfl rfl rfl) σ) (by exact (pa_cons (pv 0) (pa_cons (pv 1) pa_nil)))))
    (pss_cons (ps_if (pt_cmpR op_lt (pv 1) pe_int (nomark _)) (pss_one (ps_set (i := 2) sc_law_low.nd rfl (by first | exact Or.inl rfl | exact Or.inr rfl) (pe_un un_neg (pv 2)))) pss_nil)
    (pss_one (ps_ret (pe_tup (pa_cons (pe_op or_div (pv 0) (pv 2)) (pa_cons (pe_op or_div (pv 1) (pv 2)) pa_nil))))))),
    (s_seq (s_setF (v_call (a_cons v_var (a_cons v_var a_nil))))
    (s_seq (s_if (t_test (v_op d_lt v_var v_int)) (s_setF (v_un d_neg v_var)) s_skip)
    (s_ret (v_tup (a_cons (v_op d_div v_var v_var) (a_cons (v_op d_div v_var v_var) a_nil))))))⟩
theorem ok_law_is_fraction (T : Txt K mg A) : FnOk P w K mg base (L2.CX P w) 2 A.f_law_is_fraction A.d_law_is_fraction p_law_is_fraction (spF (GG K A) F_law_is_fraction) :=
  fn_ok (k := 1) rfl rfl T.F_law_is_fraction sc_law_is_fraction fun cdv Ar outer s H E hr => ⟨_,
    (pss_cons (ps_if (PW.pt (pw_or (pt_not (pt_val (pe_callB call_isi (by rfl) T.z_isinstance (by decide +kernel) (pa_cons (pv 0) (pa_cons (pe_bltn (v := .ty "tuple") (by rfl) T.z_tuple (by decide +kernel) rfl) pa_nil))))) (pw_or (pt_cmpR (or_ne hr.units) (pe_callB call_len (by rfl) T.z_len (by decide +kernel) (pa_cons (pv 0) pa_nil)) pe_int (nomark _)) (pw_or (pt_not (pt_val (pe_callS (ok_law_whole T) hr rfl T.g_law_whole T.F_law_whole.kp T.b_law_whole (fun σ => passAt (takes_of rfl rfl rfl rfl) σ) (by exact (pa_cons (pe_ix ix_seq (pv 0) pe_int (fun _ _ => rfl)) pa_nil))))) (pw_or1 (pt_not (pt_val (pe_callS (ok_law_whole T) hr rfl T.g_law_whole T.F_law_whole.kp T.b_law_whole (fun σ => passAt (takes_of rfl rfl rfl rfl) σ) (by exact (pa_cons (pe_ix ix_seq (pv 0) pe_int (fun _ _ => rfl)) pa_nil)))))))))) (pss_one (ps_ret pe_bl)) pss_nil)
    (pss_one (ps_ret (pe_cmpR (or_eq hr.units) (pv 0) (pv 1) (nomark _))))),
    (s_seq (s_if (t_or (t_not (t_val (v_isi v_var))) (t_or (t_test (v_op d_ne (v_cb c_len (a_cons v_var a_nil)) v_int)) (t_or (t_not (t_val (v_call (a_cons (v_op d_ix v_var v_int) a_nil)))) (t_not (t_val (v_call (a_cons (v_op d_ix v_var v_int) a_nil))))))) (s_ret v_bl) s_skip)
    (s_ret (v_op d_eq v_var v_var)))⟩
theorem ok_law_numbers (T : Txt K mg A) : FnOk P w K mg base (L2.CX P w) 2 A.f_law_numbers A.d_law_numbers p_law_numbers (spF (GG K A) F_law_numbers) :=
  fn_ok (k := 1) rfl rfl T.F_law_numbers sc_law_numbers fun cdv Ar outer s H E hr => ⟨_,
    (pss_cons (ps_set (i := 2) sc_law_numbers.nd rfl (by first | exact Or.inl rfl | exact Or.inr rfl) (pe_callS (ok_law_draws T) hr rfl T.g_law_draws T.F_law_draws.kp T.b_law_draws (fun σ => passAt (takes_of rfl rfl rfl rfl) σ) (by exact (pa_cons (pv 0) (pa_cons (pe_op or_mul (pe_lst (pa_cons pe_int (pa_cons pe_int (pa_cons (pe_op op_pow pe_int pe_int) (pa_cons (pe_op op_pow pe_int pe_int) (pa_cons (pe_op op_pow pe_int pe_int) (pa_cons (pe_op op_pow pe_int pe_int) (pa_cons (pe_op op_pow pe_int pe_int) pa_nil)))))))) (pv 1)) pa_nil)))))
    (pss_one (ps_ret (pe_lc (own := [("_law_k", 3)]) rfl sc_law_numbers.nd (pi_range1 (by rfl) T.z_range (pa_cons (pv 1) pa_nil)) (blkOk_by (N := n_law_numbers) (sc := defScope (s_law_numbers)) (by decide +kernel)) (fun _ _ _ _ _ => (pg_name (i := 3) sc_law_numbers.nd rfl (by first | exact Or.inl rfl | exact Or.inr rfl))) (fun _ _ _ _ _ => pts_nil) (fun _ _ _ _ _ => (pe_callS (ok_law_number T) hr rfl T.g_law_number T.F_law_number.kp T.b_law_number (fun σ => passAt takes0 σ) (by exact (pa_cons (pe_slice sl_any (pv 2) (po_some (pe_op or_mul pe_int (pv 3))) (po_some (pe_op or_add (pe_op or_mul pe_int (pv 3)) pe_int))) pa_nil)))))))),
    (s_seq (s_setF (v_call (a_cons v_var (a_cons (v_op d_mul (v_lst (a_cons v_int (a_cons v_int (a_cons (v_op d_pow v_int v_int) (a_cons (v_op d_pow v_int v_int) (a_cons (v_op d_pow v_int v_int) (a_cons (v_op d_pow v_int v_int) (a_cons (v_op d_pow v_int v_int) a_nil)))))))) v_var) a_nil))))
    (s_ret (v_lc (vs := [3]) (i_range1 v_var) g_name (by decide) t_yes (v_call (a_cons (v_sl d_sl v_var (o_some (v_op d_mul v_int v_var)) (o_some (v_op d_add (v_op d_mul v_int v_var) v_int))) a_nil)))))⟩
theorem ok_law_pair (T : Txt K mg A) : FnOk P w K mg base (L2.CX P w) 3 A.f_law_pair A.d_law_pair p_law_pair (spF (GG K A) F_law_pair) :=
  fn_ok (k := 2) rfl rfl T.F_law_pair sc_law_pair fun cdv Ar outer s H E hr => ⟨_,
    (pss_cons (ps_asg (pe_callS (ok_law_draws T) (hr.mono (by decide)) rfl T.g_law_draws T.F_law_draws.kp T.b_law_draws (fun σ => passAt (takes_of rfl rfl rfl rfl) σ) (by exact (pa_cons (pe_callS (ok_law_cell T) (hr.mono (by decide)) rfl T.g_law_cell T.F_law_cell.kp T.b_law_cell (fun σ => passAt (takes_of rfl rfl rfl rfl) σ) (by exact (pa_cons (pv 0) (pa_cons pe_int pa_nil)))) (pa_cons (pe_lst (pa_cons pe_int (pa_cons pe_int pa_nil))) pa_nil)))) (pg_tl rfl (pgs_cons (pg_name (i := 1) sc_law_pair.nd rfl (by first | exact Or.inl rfl | exact Or.inr rfl)) (pgs_cons (pg_name (i := 2) sc_law_pair.nd rfl (by first | exact Or.inl rfl | exact Or.inr rfl)) pgs_nil))))
    (pss_cons (ps_asg (pe_callS (ok_law_numbers T) hr rfl T.g_law_numbers T.F_law_numbers.kp T.b_law_numbers (fun σ => passAt (takes_of rfl rfl rfl rfl) σ) (by exact (pa_cons (pe_callS (ok_law_cell T) (hr.mono (by decide)) rfl T.g_law_cell T.F_law_cell.kp T.b_law_cell (fun σ => passAt (takes_of rfl rfl rfl rfl) σ) (by exact (pa_cons (pv 0) (pa_cons pe_int pa_nil)))) (pa_cons pe_int pa_nil)))) (pg_tl rfl (pgs_cons (pg_name (i := 3) sc_law_pair.nd rfl (by first | exact Or.inl rfl | exact Or.inr rfl)) (pgs_cons (pg_name (i := 4) sc_law_pair.nd rfl (by first | exact Or.inl rfl | exact Or.inr rfl)) (pgs_cons (pg_name (i := 5) sc_law_pair.nd rfl (by first | exact Or.inl rfl | exact Or.inr rfl)) pgs_nil)))))
    (pss_cons (ps_if (pt_cmpR (or_eq hr.units) (pv 1) pe_int (nomark _)) (pss_one (ps_set (i := 4) sc_law_pair.nd rfl (by first | exact Or.inl rfl | exact Or.inr rfl) pe_int)) pss_nil)
    (pss_cons (ps_if (pt_cmpR (or_eq hr.units) (pv 1) pe_int (nomark _)) (pss_one (ps_set (i := 4) sc_law_pair.nd rfl (by first | exact Or.inl rfl | exact Or.inr rfl) (pv 3))) pss_nil)
    (pss_cons (ps_if (pt_cmpR (or_eq hr.units) (pv 1) pe_int (nomark _)) (pss_one (ps_set (i := 4) sc_law_pair.nd rfl (by first | exact Or.inl rfl | exact Or.inr rfl) (pe_un un_neg (pv 3)))) pss_nil)
    (pss_cons (ps_if (pt_cmpR (or_eq hr.units) (pv 1) pe_int (nomark _)) (pss_one (ps_set (i := 4) sc_law_pair.nd rfl (by first | exact Or.inl rfl | exact Or.inr rfl) pe_int)) pss_nil)
    (pss_cons (ps_if (pt_cmpR (or_eq hr.units) (pv 2) pe_int (nomark _)) (pss_cons (ps_set (i := 5) sc_law_pair.nd rfl (by first | exact Or.inl rfl | exact Or.inr rfl) (pe_op or_add pe_int (pe_op op_modN (pe_callB call_abs (by rfl) T.z_abs (by decide +kernel) (pa_cons (pv 5) pa_nil)) (pe_op op_pow pe_int pe_int))))
    (pss_cons (ps_set (i := 3) sc_law_pair.nd rfl (by first | exact Or.inl rfl | exact Or.inr rfl) (pe_op or_mul (pe_op op_modN (pv 3) (pe_op op_pow pe_int pe_int)) (pv 5)))
    (pss_one (ps_set (i := 4) sc_law_pair.nd rfl (by first | exact Or.inl rfl | exact Or.inr rfl) (pe_op or_mul (pe_op op_modN (pv 4) (pe_op op_pow pe_int pe_int)) (pv 5)))))) pss_nil)
    (pss_one (ps_ret (pe_tup (pa_cons (pv 3) (pa_cons (pv 4) pa_nil)))))))))))),
    (s_seq (s_asg (v_call (a_cons (v_call (a_cons v_var (a_cons v_int a_nil))) (a_cons (v_lst (a_cons v_int (a_cons v_int a_nil))) a_nil))) (g_tl (gs_cons g_name (gs_cons g_name gs_nil))))
    (s_seq (s_asg (v_call (a_cons (v_call (a_cons v_var (a_cons v_int a_nil))) (a_cons v_int a_nil))) (g_tl (gs_cons g_name (gs_cons g_name (gs_cons g_name gs_nil)))))
    (s_seq (s_if (t_test (v_op d_eq v_var v_int)) (s_setF v_int) s_skip)
    (s_seq (s_if (t_test (v_op d_eq v_var v_int)) (s_setF v_var) s_skip)
    (s_seq (s_if (t_test (v_op d_eq v_var v_int)) (s_setF (v_un d_neg v_var)) s_skip)
    (s_seq (s_if (t_test (v_op d_eq v_var v_int)) (s_setF v_int) s_skip)
    (s_seq (s_if (t_test (v_op d_eq v_var v_int)) (s_seq (s_setF (v_op d_add v_int (v_op d_mod (v_cb c_abs (a_cons v_var a_nil)) (v_op d_pow v_int v_int))))
    (s_seq (s_setF (v_op d_mul (v_op d_mod v_var (v_op d_pow v_int v_int)) v_var))
    (s_setF (v_op d_mul (v_op d_mod v_var (v_op d_pow v_int v_int)) v_var)))) s_skip)
    (s_ret (v_tup (a_cons v_var (a_cons v_var a_nil)))))))))))⟩
theorem ok_law_refused (T : Txt K mg A) : FnOk P w K mg base (L2.CX P w) 3 A.f_law_refused A.d_law_refused p_law_refused (spF (GG K A) F_law_refused) :=
  fn_ok (k := 2) rfl rfl T.F_law_refused sc_law_refused fun cdv Ar outer s H E hr => ⟨_,
    (pss_cons (ps_set (i := 1) sc_law_refused.nd rfl (by first | exact Or.inl rfl | exact Or.inr rfl) (pe_lst pa_nil))
    (pss_cons (ps_try_as (i := 2) rfl rfl sc_law_refused.nd rfl rfl ⟨rfl, by decide, Or.inl T.g_CrumbError⟩ (takes_of rfl rfl rfl rfl) (fun W pn xe tk po => (pss_one (ps_expr (by exact (pe_gN (ok_fraction_of T) hr rfl T.g_fraction_of T.F_fraction_of.kp T.B_fraction_of_2_ (fun σ => passAt tk σ) (by exact (pa_cons (pv 0) (pa_cons pe_int pa_nil)))))))) (fun a oe cls d pn hz hf => (pss_one (ps_set (i := 1) sc_law_refused.nd rfl (by first | exact Or.inl rfl | exact Or.inr rfl) (pe_lst (pa_cons (pe_callB (call_isEx hz hf) (by rfl) T.z_isinstance (by decide +kernel) (pa_cons (pv 2) (pa_cons (pe_glob (v := .ref A.c_NoFraction) rfl T.g_NoFraction rfl) pa_nil))) (pa_cons (pe_callB (call_isEx hz hf) (by rfl) T.z_isinstance (by decide +kernel) (pa_cons (pv 2) (pa_cons (pe_bltn (v := .ty "ValueError") (by rfl) T.z_ValueError (by decide +kernel) rfl) pa_nil))) (pa_cons (pe_callB (call_isEx hz hf) (by rfl) T.z_isinstance (by decide +kernel) (pa_cons (pv 2) (pa_cons (pe_glob (v := .ref A.c_NoText) rfl T.g_NoText rfl) pa_nil))) pa_nil))))))))
    (pss_one (ps_ret (pe_cmpR (or_eq hr.units) (pv 1) (pe_lst (pa_cons pe_bl (pa_cons pe_bl (pa_cons pe_bl pa_nil)))) (nomark _)))))),
    (s_seq (s_setF (v_lst a_nil))
    (s_seq (s_tryAs (fun W => (s_drop (v_callG (dd := [(.int 1)]) rfl (a_cons v_var (a_cons v_int a_nil)) a_nil))) T.ex_CrumbError (suite_of fun c a hc => (s_setF (v_lst (a_cons (v_isE (C := .ref A.c_NoFraction) (cv := .ref A.c_NoFraction) (T.ec_CrumbError c hc) (fun _ h => h) (T.ki_NoFraction c)) (a_cons (v_isE (C := .ty "ValueError") (cv := .type "ValueError") (T.ec_CrumbError c hc) (fun _ h => h) (T.ki_ValueError c)) (a_cons (v_isE (C := .ref A.c_NoText) (cv := .ref A.c_NoText) (T.ec_CrumbError c hc) (fun _ h => h) (T.ki_NoText c)) a_nil)))))))
    (s_ret (v_op d_eq v_var (v_lst (a_cons v_bl (a_cons v_bl (a_cons v_bl a_nil))))))))⟩
theorem ok_law (T : Txt K mg A) : FnOk P w K mg base (L2.CX P w) 4 A.f_law A.d_law p_law (spF (GG K A) F_law) :=
  fn_ok (k := 3) rfl rfl T.F_law sc_law fun cdv Ar outer s H E hr => ⟨_,
    (pss_cons (ps_asg (pe_callS (ok_law_pair T) hr rfl T.g_law_pair T.F_law_pair.kp T.b_law_pair (fun σ => passAt (takes_of rfl rfl rfl rfl) σ) (by exact (pa_cons (pv 0) pa_nil))) (pg_tl rfl (pgs_cons (pg_name (i := 2) sc_law.nd rfl (by first | exact Or.inl rfl | exact Or.inr rfl)) (pgs_cons (pg_name (i := 3) sc_law.nd rfl (by first | exact Or.inl rfl | exact Or.inr rfl)) pgs_nil))))
    (pss_cons (ps_if (PW.pt (pw_or (pt_not (pt_val (pe_callS (ok_law_is_fraction T) (hr.mono (by decide)) rfl T.g_law_is_fraction T.F_law_is_fraction.kp T.b_law_is_fraction (fun σ => passAt (takes_of rfl rfl rfl rfl) σ) (by exact (pa_cons (by exact (pe_gN (ok_fraction_of T) (hr.mono (by decide)) rfl T.g_fraction_of T.F_fraction_of.kp T.B_fraction_of_1_ (fun σ => passAt (takes_of rfl rfl rfl rfl) σ) (by exact (pa_cons (pv 2) pa_nil)))) (pa_cons (pe_tup (pa_cons (pv 2) (pa_cons pe_int pa_nil))) pa_nil)))))) (pw_or1 (pt_not (pt_val (pe_callS (ok_law_refused T) hr rfl T.g_law_refused T.F_law_refused.kp T.b_law_refused (fun σ => passAt (takes_of rfl rfl rfl rfl) σ) (by exact (pa_cons (pv 2) pa_nil)))))))) (pss_one (ps_ret pe_bl)) pss_nil)
    (pss_cons (ps_if (pt_cmpR (or_eq hr.units) (pv 3) pe_int (nomark _)) (pss_one (ps_ret pe_bl)) pss_nil)
    (pss_cons (ps_set (i := 1) sc_law.nd rfl (by first | exact Or.inl rfl | exact Or.inr rfl) (pe_callS (ok_law_low T) (hr.mono (by decide)) rfl T.g_law_low T.F_law_low.kp T.b_law_low (fun σ => passAt (takes_of rfl rfl rfl rfl) σ) (by exact (pa_cons (pv 2) (pa_cons (pv 3) pa_nil)))))
    (pss_cons (ps_if (pt_not (pt_val (pe_callS (ok_law_is_fraction T) (hr.mono (by decide)) rfl T.g_law_is_fraction T.F_law_is_fraction.kp T.b_law_is_fraction (fun σ => passAt (takes_of rfl rfl rfl rfl) σ) (by exact (pa_cons (by exact (pe_gK0 (ok_fraction_of T) (hr.mono (by decide)) rfl T.g_fraction_of T.F_fraction_of.kp T.B_fraction_of_0_bottom_top (fun σ => passAt (takes_of rfl rfl rfl rfl) σ) (by exact (pk_cons (pv 3) (pk_cons (pv 2) pk_nil))))) (pa_cons (pv 1) pa_nil)))))) (pss_one (ps_ret pe_bl)) pss_nil)
    (pss_one (ps_ret (pe_callS (ok_law_is_fraction T) (hr.mono (by decide)) rfl T.g_law_is_fraction T.F_law_is_fraction.kp T.b_law_is_fraction (fun σ => passAt (takes_of rfl rfl rfl rfl) σ) (by exact (pa_cons (by exact (pe_gN (ok_fraction_of T) (hr.mono (by decide)) rfl T.g_fraction_of T.F_fraction_of.kp T.B_fraction_of_2_ (fun σ => passAt (takes_of rfl rfl rfl rfl) σ) (by exact (pa_cons (pv 2) (pa_cons (pv 3) pa_nil))))) (pa_cons (pv 1) pa_nil))))))))))),
    (s_seq (s_asg (v_call (a_cons v_var a_nil)) (g_tl (gs_cons g_name (gs_cons g_name gs_nil))))
    (s_seq (s_if (t_or (t_not (t_val (v_call (a_cons (v_callG (dd := [(.int 1)]) rfl (a_cons v_var a_nil) a_nil) (a_cons (v_tup (a_cons v_var (a_cons v_int a_nil))) a_nil))))) (t_not (t_val (v_call (a_cons v_var a_nil))))) (s_ret v_bl) s_skip)
    (s_seq (s_if (t_test (v_op d_eq v_var v_int)) (s_ret v_bl) s_skip)
    (s_seq (s_setF (v_call (a_cons v_var (a_cons v_var a_nil))))
    (s_seq (s_if (t_not (t_val (v_call (a_cons (v_callG (dd := [(.int 1)]) rfl a_nil (a_cons v_var (a_cons v_var a_nil))) (a_cons v_var a_nil))))) (s_ret v_bl) s_skip)
    (s_ret (v_call (a_cons (v_callG (dd := [(.int 1)]) rfl (a_cons v_var (a_cons v_var a_nil)) a_nil) (a_cons v_var a_nil)))))))))⟩
end
end Dn
namespace Dn
open PySem PySem.Spec PyProof.Rows L2
theorem all_mk {l : PySem.W.OpenLaw} {w : World} {K : PySem.W.Frag} {h : Heap} {mg : Str → Option Value} {fa : Addr} (X : K.In h) (G : h.Ns mainGlobals mg) (hfa : mg "law" = some (.ref fa))
    {f0 : Addr} {od0 an0 : Option Addr} {sl0 : Array (Option Value)} {oc0 kV0 dc0 pm0 cd0 ct0 : Value}
    {f1 : Addr} {od1 an1 : Option Addr} {sl1 : Array (Option Value)} {oc1 kV1 dc1 pm1 cd1 ct1 : Value}
    {f2 : Addr} {od2 an2 : Option Addr} {sl2 : Array (Option Value)} {oc2 kV2 dc2 pm2 cd2 ct2 : Value}
    {f3 : Addr} {od3 an3 : Option Addr} {sl3 : Array (Option Value)} {oc3 kV3 dc3 pm3 cd3 ct3 : Value}
    {f4 : Addr} {od4 an4 : Option Addr} {sl4 : Array (Option Value)} {oc4 kV4 dc4 pm4 cd4 ct4 : Value}
    {f5 : Addr} {od5 an5 : Option Addr} {sl5 : Array (Option Value)} {oc5 kV5 dc5 pm5 cd5 ct5 : Value}
    {f6 : Addr} {od6 an6 : Option Addr} {sl6 : Array (Option Value)} {oc6 kV6 dc6 pm6 cd6 ct6 : Value}
    {T6 : Addr} {q6 : Value} {qd6 : Option Addr} {qn6 : Nat} {qs6 : Array (Option Value)}
    {tt6_0 : Tok}
    {f7 : Addr} {od7 an7 : Option Addr} {sl7 : Array (Option Value)} {oc7 kV7 dc7 pm7 cd7 ct7 : Value}
    {f8 : Addr} {od8 an8 : Option Addr} {sl8 : Array (Option Value)} {oc8 kV8 dc8 pm8 cd8 ct8 : Value}
    {f9 : Addr} {od9 an9 : Option Addr} {sl9 : Array (Option Value)} {oc9 kV9 dc9 pm9 cd9 ct9 : Value}
    {f10 : Addr} {od10 an10 : Option Addr} {sl10 : Array (Option Value)} {oc10 kV10 dc10 pm10 cd10 ct10 : Value}
    {f11 : Addr} {od11 an11 : Option Addr} {sl11 : Array (Option Value)} {oc11 kV11 dc11 pm11 cd11 ct11 : Value}
    {f12 : Addr} {od12 an12 : Option Addr} {sl12 : Array (Option Value)} {oc12 kV12 dc12 pm12 cd12 ct12 : Value}
    {c_CrumbError : Addr}
    {c_NoFraction : Addr}
    {c_NoText : Addr}
    (a0 : PySem.W.nsIn K mainGlobals "divisor" = some (some (.ref f0)))
    (l0 : K.lookup f0 = some ⟨oc0, od0, .func (PySem.W.fnOf "divisor" "divisor" (defArgs s_divisor) (defBody s_divisor) (defScope s_divisor) .none kV0 dc0 pm0 an0 cd0 ct0), sl0⟩)
    (c0 : PySem.W.codeIn K cd0 "divisor" = true)
    (k0 : PySem.W.keepIn K (.ref f0) = true)
    (a1 : PySem.W.nsIn K mainGlobals "_law_cell" = some (some (.ref f1)))
    (l1 : K.lookup f1 = some ⟨oc1, od1, .func (PySem.W.fnOf "_law_cell" "_law_cell" (defArgs s_law_cell) (defBody s_law_cell) (defScope s_law_cell) .none kV1 dc1 pm1 an1 cd1 ct1), sl1⟩)
    (c1 : PySem.W.codeIn K cd1 "_law_cell" = true)
    (k1 : PySem.W.keepIn K (.ref f1) = true)
    (a2 : PySem.W.nsIn K mainGlobals "_law_draws" = some (some (.ref f2)))
    (l2 : K.lookup f2 = some ⟨oc2, od2, .func (PySem.W.fnOf "_law_draws" "_law_draws" (defArgs s_law_draws) (defBody s_law_draws) (defScope s_law_draws) .none kV2 dc2 pm2 an2 cd2 ct2), sl2⟩)
    (c2 : PySem.W.codeIn K cd2 "_law_draws" = true)
    (k2 : PySem.W.keepIn K (.ref f2) = true)
    (a3 : PySem.W.nsIn K mainGlobals "_law_whole" = some (some (.ref f3)))
    (l3 : K.lookup f3 = some ⟨oc3, od3, .func (PySem.W.fnOf "_law_whole" "_law_whole" (defArgs s_law_whole) (defBody s_law_whole) (defScope s_law_whole) .none kV3 dc3 pm3 an3 cd3 ct3), sl3⟩)
    (c3 : PySem.W.codeIn K cd3 "_law_whole" = true)
    (k3 : PySem.W.keepIn K (.ref f3) = true)
    (a4 : PySem.W.nsIn K mainGlobals "_law_divisor" = some (some (.ref f4)))
    (l4 : K.lookup f4 = some ⟨oc4, od4, .func (PySem.W.fnOf "_law_divisor" "_law_divisor" (defArgs s_law_divisor) (defBody s_law_divisor) (defScope s_law_divisor) .none kV4 dc4 pm4 an4 cd4 ct4), sl4⟩)
    (c4 : PySem.W.codeIn K cd4 "_law_divisor" = true)
    (k4 : PySem.W.keepIn K (.ref f4) = true)
    (a5 : PySem.W.nsIn K mainGlobals "_law_number" = some (some (.ref f5)))
    (l5 : K.lookup f5 = some ⟨oc5, od5, .func (PySem.W.fnOf "_law_number" "_law_number" (defArgs s_law_number) (defBody s_law_number) (defScope s_law_number) .none kV5 dc5 pm5 an5 cd5 ct5), sl5⟩)
    (c5 : PySem.W.codeIn K cd5 "_law_number" = true)
    (k5 : PySem.W.keepIn K (.ref f5) = true)
    (a6 : PySem.W.nsIn K mainGlobals "fraction_of" = some (some (.ref f6)))
    (l6 : K.lookup f6 = some ⟨oc6, od6, .func (PySem.W.fnOf "fraction_of" "fraction_of" (defArgs s_fraction_of) (defBody s_fraction_of) (defScope s_fraction_of) (.ref T6) kV6 dc6 pm6 an6 cd6 ct6), sl6⟩)
    (c6 : PySem.W.codeIn K cd6 "fraction_of" = true)
    (k6 : PySem.W.keepIn K (.ref f6) = true)
    (lT6 : K.lookup T6 = some ⟨q6, qd6, .seq ([(.int 1 tt6_0)] : List Value).toArray qn6, qs6⟩)
    (a7 : PySem.W.nsIn K mainGlobals "_law_low" = some (some (.ref f7)))
    (l7 : K.lookup f7 = some ⟨oc7, od7, .func (PySem.W.fnOf "_law_low" "_law_low" (defArgs s_law_low) (defBody s_law_low) (defScope s_law_low) .none kV7 dc7 pm7 an7 cd7 ct7), sl7⟩)
    (c7 : PySem.W.codeIn K cd7 "_law_low" = true)
    (k7 : PySem.W.keepIn K (.ref f7) = true)
    (a8 : PySem.W.nsIn K mainGlobals "_law_is_fraction" = some (some (.ref f8)))
    (l8 : K.lookup f8 = some ⟨oc8, od8, .func (PySem.W.fnOf "_law_is_fraction" "_law_is_fraction" (defArgs s_law_is_fraction) (defBody s_law_is_fraction) (defScope s_law_is_fraction) .none kV8 dc8 pm8 an8 cd8 ct8), sl8⟩)
    (c8 : PySem.W.codeIn K cd8 "_law_is_fraction" = true)
    (k8 : PySem.W.keepIn K (.ref f8) = true)
    (a9 : PySem.W.nsIn K mainGlobals "_law_numbers" = some (some (.ref f9)))
    (l9 : K.lookup f9 = some ⟨oc9, od9, .func (PySem.W.fnOf "_law_numbers" "_law_numbers" (defArgs s_law_numbers) (defBody s_law_numbers) (defScope s_law_numbers) .none kV9 dc9 pm9 an9 cd9 ct9), sl9⟩)
    (c9 : PySem.W.codeIn K cd9 "_law_numbers" = true)
    (k9 : PySem.W.keepIn K (.ref f9) = true)
    (a10 : PySem.W.nsIn K mainGlobals "_law_pair" = some (some (.ref f10)))
    (l10 : K.lookup f10 = some ⟨oc10, od10, .func (PySem.W.fnOf "_law_pair" "_law_pair" (defArgs s_law_pair) (defBody s_law_pair) (defScope s_law_pair) .none kV10 dc10 pm10 an10 cd10 ct10), sl10⟩)
    (c10 : PySem.W.codeIn K cd10 "_law_pair" = true)
    (k10 : PySem.W.keepIn K (.ref f10) = true)
    (a11 : PySem.W.nsIn K mainGlobals "_law_refused" = some (some (.ref f11)))
    (l11 : K.lookup f11 = some ⟨oc11, od11, .func (PySem.W.fnOf "_law_refused" "_law_refused" (defArgs s_law_refused) (defBody s_law_refused) (defScope s_law_refused) .none kV11 dc11 pm11 an11 cd11 ct11), sl11⟩)
    (c11 : PySem.W.codeIn K cd11 "_law_refused" = true)
    (k11 : PySem.W.keepIn K (.ref f11) = true)
    (a12 : PySem.W.nsIn K mainGlobals "law" = some (some (.ref f12)))
    (l12 : K.lookup f12 = some ⟨oc12, od12, .func (PySem.W.fnOf "law" "law" (defArgs s_law) (defBody s_law) (defScope s_law) .none kV12 dc12 pm12 an12 cd12 ct12), sl12⟩)
    (c12 : PySem.W.codeIn K cd12 "law" = true)
    (k12 : PySem.W.keepIn K (.ref f12) = true)
    (z_ValueError : PySem.W.nsIn K mainGlobals "ValueError" = some none)
    (z_abs : PySem.W.nsIn K mainGlobals "abs" = some none)
    (z_bool : PySem.W.nsIn K mainGlobals "bool" = some none)
    (z_enumerate : PySem.W.nsIn K mainGlobals "enumerate" = some none)
    (z_int : PySem.W.nsIn K mainGlobals "int" = some none)
    (z_isinstance : PySem.W.nsIn K mainGlobals "isinstance" = some none)
    (z_len : PySem.W.nsIn K mainGlobals "len" = some none)
    (z_range : PySem.W.nsIn K mainGlobals "range" = some none)
    (z_tuple : PySem.W.nsIn K mainGlobals "tuple" = some none)
    (g_CrumbError : PySem.W.nsIn K mainGlobals "CrumbError" = some (some (.ref c_CrumbError)))
    (g_NoFraction : PySem.W.nsIn K mainGlobals "NoFraction" = some (some (.ref c_NoFraction)))
    (g_NoText : PySem.W.nsIn K mainGlobals "NoText" = some (some (.ref c_NoText)))
    (x_NoFraction : PySem.W.excIn K c_NoFraction [.type "ValueError", .type "Exception", .type "BaseException", .type "object"] "ValueError.__new__" = true)
    (k_NoFraction : PySem.W.keepIn K (.ref c_NoFraction) = true)
    (sb_CrumbError : PySem.W.subIn K (.ref c_CrumbError) (.type "BaseException") = some true)
    (t_CrumbError : PySem.W.typeIn K (.ref c_CrumbError) = some (.type "type"))
    (sb_NoFraction : PySem.W.subIn K (.ref c_NoFraction) (.type "BaseException") = some true)
    (t_NoFraction : PySem.W.typeIn K (.ref c_NoFraction) = some (.type "type"))
    (hd_CrumbError : PySem.W.hasDictIn K c_CrumbError = true)
    (su_CrumbError_CrumbError : PySem.W.subIn K (.ref c_CrumbError) (.ref c_CrumbError) = some true)
    (su_NoFraction_CrumbError : PySem.W.subIn K (.ref c_NoFraction) (.ref c_CrumbError) = some true)
    (su_NoText_CrumbError : PySem.W.subIn K (.ref c_NoText) (.ref c_CrumbError) = some true)
    (hg_CrumbError : PySem.W.findIn K (.ref c_CrumbError) "__getattribute__" = some (some (.builtin "BaseException.__getattribute__")))
    (hk_CrumbError : PySem.W.findIn K (.ref c_CrumbError) "__getattr__" = some none)
    (hs_CrumbError : PySem.W.subIn K (.ref c_CrumbError) (.type "BaseException") = some true)
    (hh_CrumbError : PySem.W.hasDictIn K c_CrumbError = true)
    (ha_CrumbError : PySem.W.findIn K (.ref c_CrumbError) "__class__" = some (some (.builtin "object.__class__")))
    (hn_CrumbError : PySem.W.specialIn K (.builtin "object.__class__") "__get__" = some (some (.builtin "getset_descriptor.__get__")))
    (ht_CrumbError : PySem.W.takesIn K (.builtin "object.__class__") = some true)
    (hm_CrumbError : PySem.W.mroIn K c_CrumbError (.type "object") = some true)
    (hg_NoFraction : PySem.W.findIn K (.ref c_NoFraction) "__getattribute__" = some (some (.builtin "BaseException.__getattribute__")))
    (hk_NoFraction : PySem.W.findIn K (.ref c_NoFraction) "__getattr__" = some none)
    (hs_NoFraction : PySem.W.subIn K (.ref c_NoFraction) (.type "BaseException") = some true)
    (hh_NoFraction : PySem.W.hasDictIn K c_NoFraction = true)
    (ha_NoFraction : PySem.W.findIn K (.ref c_NoFraction) "__class__" = some (some (.builtin "object.__class__")))
    (hn_NoFraction : PySem.W.specialIn K (.builtin "object.__class__") "__get__" = some (some (.builtin "getset_descriptor.__get__")))
    (ht_NoFraction : PySem.W.takesIn K (.builtin "object.__class__") = some true)
    (hm_NoFraction : PySem.W.mroIn K c_NoFraction (.type "object") = some true)
    (hg_NoText : PySem.W.findIn K (.ref c_NoText) "__getattribute__" = some (some (.builtin "BaseException.__getattribute__")))
    (hk_NoText : PySem.W.findIn K (.ref c_NoText) "__getattr__" = some none)
    (hs_NoText : PySem.W.subIn K (.ref c_NoText) (.type "BaseException") = some true)
    (hh_NoText : PySem.W.hasDictIn K c_NoText = true)
    (ha_NoText : PySem.W.findIn K (.ref c_NoText) "__class__" = some (some (.builtin "object.__class__")))
    (hn_NoText : PySem.W.specialIn K (.builtin "object.__class__") "__get__" = some (some (.builtin "getset_descriptor.__get__")))
    (ht_NoText : PySem.W.takesIn K (.builtin "object.__class__") = some true)
    (hm_NoText : PySem.W.mroIn K c_NoText (.type "object") = some true)
    (ki_CrumbError_NoFraction : PySem.W.kitOne K (.ref c_CrumbError) (.ref c_NoFraction) = some false)
    (ki_NoFraction_NoFraction : PySem.W.kitOne K (.ref c_NoFraction) (.ref c_NoFraction) = some true)
    (ki_NoText_NoFraction : PySem.W.kitOne K (.ref c_NoText) (.ref c_NoFraction) = some false)
    (ki_CrumbError_NoText : PySem.W.kitOne K (.ref c_CrumbError) (.ref c_NoText) = some false)
    (ki_NoFraction_NoText : PySem.W.kitOne K (.ref c_NoFraction) (.ref c_NoText) = some false)
    (ki_NoText_NoText : PySem.W.kitOne K (.ref c_NoText) (.ref c_NoText) = some true)
    (ki_CrumbError_ValueError : PySem.W.kitOne K (.ref c_CrumbError) (.type "ValueError") = some true)
    (ki_NoFraction_ValueError : PySem.W.kitOne K (.ref c_NoFraction) (.type "ValueError") = some true)
    (ki_NoText_ValueError : PySem.W.kitOne K (.ref c_NoText) (.type "ValueError") = some true) :
    ∃ fd : FuncData, (∀ (s : Shared) (v : Value), BindsTo s fd ⟨[v], []⟩ [("_law_script", v)]) ∧ ∀ base : Heap, K.In base → base.Ns mainGlobals mg → FnOk l.prog w K mg base (L2.CX l.prog w) 4 fa fd ["_law_script"] (spLaw K) := by
  have e := hfa.symm.trans (PySem.W.mg_of X G a12)
  cases e
  have ecCrumbError : ExcC K c_CrumbError := ⟨hg_CrumbError, hk_CrumbError, hs_CrumbError, hh_CrumbError, ha_CrumbError, hn_CrumbError, ht_CrumbError, hm_CrumbError⟩
  have ecNoFraction : ExcC K c_NoFraction := ⟨hg_NoFraction, hk_NoFraction, hs_NoFraction, hh_NoFraction, ha_NoFraction, hn_NoFraction, ht_NoFraction, hm_NoFraction⟩
  have ecNoText : ExcC K c_NoText := ⟨hg_NoText, hk_NoText, hs_NoText, hh_NoText, ha_NoText, hn_NoText, ht_NoText, hm_NoText⟩
  let A : Adr := { f_divisor := f0, d_divisor := (PySem.W.fnOf "divisor" "divisor" (defArgs s_divisor) (defBody s_divisor) (defScope s_divisor) .none kV0 dc0 pm0 an0 cd0 ct0), f_law_cell := f1, d_law_cell := (PySem.W.fnOf "_law_cell" "_law_cell" (defArgs s_law_cell) (defBody s_law_cell) (defScope s_law_cell) .none kV1 dc1 pm1 an1 cd1 ct1), f_law_draws := f2, d_law_draws := (PySem.W.fnOf "_law_draws" "_law_draws" (defArgs s_law_draws) (defBody s_law_draws) (defScope s_law_draws) .none kV2 dc2 pm2 an2 cd2 ct2), f_law_whole := f3, d_law_whole := (PySem.W.fnOf "_law_whole" "_law_whole" (defArgs s_law_whole) (defBody s_law_whole) (defScope s_law_whole) .none kV3 dc3 pm3 an3 cd3 ct3), f_law_divisor := f4, d_law_divisor := (PySem.W.fnOf "_law_divisor" "_law_divisor" (defArgs s_law_divisor) (defBody s_law_divisor) (defScope s_law_divisor) .none kV4 dc4 pm4 an4 cd4 ct4), f_law_number := f5, d_law_number := (PySem.W.fnOf "_law_number" "_law_number" (defArgs s_law_number) (defBody s_law_number) (defScope s_law_number) .none kV5 dc5 pm5 an5 cd5 ct5), f_fraction_of := f6, d_fraction_of := (PySem.W.fnOf "fraction_of" "fraction_of" (defArgs s_fraction_of) (defBody s_fraction_of) (defScope s_fraction_of) (.ref T6) kV6 dc6 pm6 an6 cd6 ct6), f_law_low := f7, d_law_low := (PySem.W.fnOf "_law_low" "_law_low" (defArgs s_law_low) (defBody s_law_low) (defScope s_law_low) .none kV7 dc7 pm7 an7 cd7 ct7), f_law_is_fraction := f8, d_law_is_fraction := (PySem.W.fnOf "_law_is_fraction" "_law_is_fraction" (defArgs s_law_is_fraction) (defBody s_law_is_fraction) (defScope s_law_is_fraction) .none kV8 dc8 pm8 an8 cd8 ct8), f_law_numbers := f9, d_law_numbers := (PySem.W.fnOf "_law_numbers" "_law_numbers" (defArgs s_law_numbers) (defBody s_law_numbers) (defScope s_law_numbers) .none kV9 dc9 pm9 an9 cd9 ct9), f_law_pair := f10, d_law_pair := (PySem.W.fnOf "_law_pair" "_law_pair" (defArgs s_law_pair) (defBody s_law_pair) (defScope s_law_pair) .none kV10 dc10 pm10 an10 cd10 ct10), f_law_refused := f11, d_law_refused := (PySem.W.fnOf "_law_refused" "_law_refused" (defArgs s_law_refused) (defBody s_law_refused) (defScope s_law_refused) .none kV11 dc11 pm11 an11 cd11 ct11), f_law := fa, d_law := (PySem.W.fnOf "law" "law" (defArgs s_law) (defBody s_law) (defScope s_law) .none kV12 dc12 pm12 an12 cd12 ct12), c_CrumbError := c_CrumbError, c_NoFraction := c_NoFraction, c_NoText := c_NoText }
  have T : Txt K mg A := {
    F_divisor := fun_mk (st := s_divisor) l0 c0 k0
    b_divisor := (fun_mk (st := s_divisor) l0 c0 k0).binds (ps := p_divisor) fun _ _ _ _ _ _ us hl => match us, hl with | [_, _], _ => rfl
    g_divisor := PySem.W.mg_of X G a0
    F_law_cell := fun_mk (st := s_law_cell) l1 c1 k1
    b_law_cell := (fun_mk (st := s_law_cell) l1 c1 k1).binds (ps := p_law_cell) fun _ _ _ _ _ _ us hl => match us, hl with | [_, _], _ => rfl
    g_law_cell := PySem.W.mg_of X G a1
    F_law_draws := fun_mk (st := s_law_draws) l2 c2 k2
    b_law_draws := (fun_mk (st := s_law_draws) l2 c2 k2).binds (ps := p_law_draws) fun _ _ _ _ _ _ us hl => match us, hl with | [_, _], _ => rfl
    g_law_draws := PySem.W.mg_of X G a2
    F_law_whole := fun_mk (st := s_law_whole) l3 c3 k3
    b_law_whole := (fun_mk (st := s_law_whole) l3 c3 k3).binds (ps := p_law_whole) fun _ _ _ _ _ _ us hl => match us, hl with | [_], _ => rfl
    g_law_whole := PySem.W.mg_of X G a3
    F_law_divisor := fun_mk (st := s_law_divisor) l4 c4 k4
    b_law_divisor := (fun_mk (st := s_law_divisor) l4 c4 k4).binds (ps := p_law_divisor) fun _ _ _ _ _ _ us hl => match us, hl with | [_, _], _ => rfl
    g_law_divisor := PySem.W.mg_of X G a4
    F_law_number := fun_mk (st := s_law_number) l5 c5 k5
    b_law_number := (fun_mk (st := s_law_number) l5 c5 k5).binds (ps := p_law_number) fun _ _ _ _ _ _ us hl => match us, hl with | [_], _ => rfl
    g_law_number := PySem.W.mg_of X G a5
    F_fraction_of := ⟨⟨_, _, _, _, _, _, _, _, _, _, rfl, l6, c6, .inr ⟨by simp, _, _, _, _, rfl, lT6, rfl, (.cons ⟨_, rfl⟩ .nil)⟩, .inl rfl⟩, k6⟩
    g_fraction_of := PySem.W.mg_of X G a6
    F_law_low := fun_mk (st := s_law_low) l7 c7 k7
    b_law_low := (fun_mk (st := s_law_low) l7 c7 k7).binds (ps := p_law_low) fun _ _ _ _ _ _ us hl => match us, hl with | [_, _], _ => rfl
    g_law_low := PySem.W.mg_of X G a7
    F_law_is_fraction := fun_mk (st := s_law_is_fraction) l8 c8 k8
    b_law_is_fraction := (fun_mk (st := s_law_is_fraction) l8 c8 k8).binds (ps := p_law_is_fraction) fun _ _ _ _ _ _ us hl => match us, hl with | [_, _], _ => rfl
    g_law_is_fraction := PySem.W.mg_of X G a8
    F_law_numbers := fun_mk (st := s_law_numbers) l9 c9 k9
    b_law_numbers := (fun_mk (st := s_law_numbers) l9 c9 k9).binds (ps := p_law_numbers) fun _ _ _ _ _ _ us hl => match us, hl with | [_, _], _ => rfl
    g_law_numbers := PySem.W.mg_of X G a9
    F_law_pair := fun_mk (st := s_law_pair) l10 c10 k10
    b_law_pair := (fun_mk (st := s_law_pair) l10 c10 k10).binds (ps := p_law_pair) fun _ _ _ _ _ _ us hl => match us, hl with | [_], _ => rfl
    g_law_pair := PySem.W.mg_of X G a10
    F_law_refused := fun_mk (st := s_law_refused) l11 c11 k11
    b_law_refused := (fun_mk (st := s_law_refused) l11 c11 k11).binds (ps := p_law_refused) fun _ _ _ _ _ _ us hl => match us, hl with | [_], _ => rfl
    g_law_refused := PySem.W.mg_of X G a11
    F_law := fun_mk (st := s_law) l12 c12 k12
    b_law := (fun_mk (st := s_law) l12 c12 k12).binds (ps := p_law) fun _ _ _ _ _ _ us hl => match us, hl with | [_], _ => rfl
    g_law := PySem.W.mg_of X G a12
    B_fraction_of_0_bottom_top := callB_d lT6 rfl (.cons ⟨_, rfl⟩ .nil) fun us ws h1 h2 => match us, h1, ws, h2 with | [], _, [_, _], _ => ⟨_, rfl, rfl⟩
    B_fraction_of_1_ := callB_d lT6 rfl (.cons ⟨_, rfl⟩ .nil) fun us ws h1 h2 => match us, h1, ws, h2 with | [_], _, [], _ => ⟨_, rfl, rfl⟩
    B_fraction_of_2_ := callB_d lT6 rfl (.cons ⟨_, rfl⟩ .nil) fun us ws h1 h2 => match us, h1, ws, h2 with | [_, _], _, [], _ => ⟨_, rfl, rfl⟩
    z_ValueError := PySem.W.mg_none_of X G z_ValueError
    z_abs := PySem.W.mg_none_of X G z_abs
    z_bool := PySem.W.mg_none_of X G z_bool
    z_enumerate := PySem.W.mg_none_of X G z_enumerate
    z_int := PySem.W.mg_none_of X G z_int
    z_isinstance := PySem.W.mg_none_of X G z_isinstance
    z_len := PySem.W.mg_none_of X G z_len
    z_range := PySem.W.mg_none_of X G z_range
    z_tuple := PySem.W.mg_none_of X G z_tuple
    g_CrumbError := PySem.W.mg_of X G g_CrumbError
    g_NoFraction := PySem.W.mg_of X G g_NoFraction
    g_NoText := PySem.W.mg_of X G g_NoText
    x_NoFraction := x_NoFraction
    k_NoFraction := k_NoFraction
    sb_NoFraction := sb_NoFraction
    t_NoFraction := t_NoFraction
    ex_CrumbError := fun c b h => match c, h with
      | 0, h => by cases h; exact PySem.W.exm_ref sb_CrumbError hd_CrumbError t_CrumbError su_CrumbError_CrumbError
      | 1, h => by cases h; exact PySem.W.exm_ref sb_CrumbError hd_CrumbError t_CrumbError su_NoFraction_CrumbError
      | 2, h => by cases h; exact PySem.W.exm_ref sb_CrumbError hd_CrumbError t_CrumbError su_NoText_CrumbError
    ec_CrumbError := fun c h => match c, h with
      | 0, h => ecCrumbError
      | 1, h => ecNoFraction
      | 2, h => ecNoText
    ki_NoFraction := fun c b h => match c, h with
      | 0, h => by cases h; exact ki_CrumbError_NoFraction
      | 1, h => by cases h; exact ki_NoFraction_NoFraction
      | 2, h => by cases h; exact ki_NoText_NoFraction
    ki_NoText := fun c b h => match c, h with
      | 0, h => by cases h; exact ki_CrumbError_NoText
      | 1, h => by cases h; exact ki_NoFraction_NoText
      | 2, h => by cases h; exact ki_NoText_NoText
    ki_ValueError := fun c b h => match c, h with
      | 0, h => by cases h; exact ki_CrumbError_ValueError
      | 1, h => by cases h; exact ki_NoFraction_ValueError
      | 2, h => by cases h; exact ki_NoText_ValueError }
  exact ⟨A.d_law, fun s v => .of_eq rfl, fun base _ _ => (ok_law T).imp fun vs H Q E q => law_imp (G := GG K A) law_true vs H Q E q⟩
end Dn
open PySem PySem.W PyProof.Rows
set_option maxRecDepth 100000 in
set_option maxHeartbeats 0 in
theorem PySem.Challenge.cw_halfcrumb_k01_fractions_made_holds : PySem.Challenge.rw_halfcrumb_k01_fractions_made.Holds := by
  w_on; o_law; k_head; (case hw => w_witness2)
  k_fill
  refine Dn.walkL (k := 4) (x := "_law_script") ⟨rfl, by decide, by decide⟩ (l := PySem.Challenge.rw_halfcrumb_k01_fractions_made) rfl rfl (fun w h Y => PySem.W.kIn_of Y) ?F
  case F =>
    intro w mg fa h KX G hmg
    refine' Dn.all_mk KX G hmg ?a0 ?l0 ?c0 ?k0 ?a1 ?l1 ?c1 ?k1 ?a2 ?l2 ?c2 ?k2 ?a3 ?l3 ?c3 ?k3 ?a4 ?l4 ?c4 ?k4 ?a5 ?l5 ?c5 ?k5 ?a6 ?l6 ?c6 ?k6 ?lT6 ?a7 ?l7 ?c7 ?k7 ?a8 ?l8 ?c8 ?k8 ?a9 ?l9 ?c9 ?k9 ?a10 ?l10 ?c10 ?k10 ?a11 ?l11 ?c11 ?k11 ?a12 ?l12 ?c12 ?k12 ?z_ValueError ?z_abs ?z_bool ?z_enumerate ?z_int ?z_isinstance ?z_len ?z_range ?z_tuple ?g_CrumbError ?g_NoFraction ?g_NoText ?x_NoFraction ?k_NoFraction ?sb_CrumbError ?t_CrumbError ?sb_NoFraction ?t_NoFraction ?hd_CrumbError ?su_CrumbError_CrumbError ?su_NoFraction_CrumbError ?su_NoText_CrumbError ?hg_CrumbError ?hk_CrumbError ?hs_CrumbError ?hh_CrumbError ?ha_CrumbError ?hn_CrumbError ?ht_CrumbError ?hm_CrumbError ?hg_NoFraction ?hk_NoFraction ?hs_NoFraction ?hh_NoFraction ?ha_NoFraction ?hn_NoFraction ?ht_NoFraction ?hm_NoFraction ?hg_NoText ?hk_NoText ?hs_NoText ?hh_NoText ?ha_NoText ?hn_NoText ?ht_NoText ?hm_NoText ?ki_CrumbError_NoFraction ?ki_NoFraction_NoFraction ?ki_NoText_NoFraction ?ki_CrumbError_NoText ?ki_NoFraction_NoText ?ki_NoText_NoText ?ki_CrumbError_ValueError ?ki_NoFraction_ValueError ?ki_NoText_ValueError
    (case a0 => k_is)
    (case l0 => k_is)
    (case c0 => k_is)
    (case k0 => k_is)
    (case a1 => k_is)
    (case l1 => k_is)
    (case c1 => k_is)
    (case k1 => k_is)
    (case a2 => k_is)
    (case l2 => k_is)
    (case c2 => k_is)
    (case k2 => k_is)
    (case a3 => k_is)
    (case l3 => k_is)
    (case c3 => k_is)
    (case k3 => k_is)
    (case a4 => k_is)
    (case l4 => k_is)
    (case c4 => k_is)
    (case k4 => k_is)
    (case a5 => k_is)
    (case l5 => k_is)
    (case c5 => k_is)
    (case k5 => k_is)
    (case a6 => k_is)
    (case l6 => k_is)
    (case c6 => k_is)
    (case k6 => k_is)
    (case lT6 => k_is)
    (case a7 => k_is)
    (case l7 => k_is)
    (case c7 => k_is)
    (case k7 => k_is)
    (case a8 => k_is)
    (case l8 => k_is)
    (case c8 => k_is)
    (case k8 => k_is)
    (case a9 => k_is)
    (case l9 => k_is)
    (case c9 => k_is)
    (case k9 => k_is)
    (case a10 => k_is)
    (case l10 => k_is)
    (case c10 => k_is)
    (case k10 => k_is)
    (case a11 => k_is)
    (case l11 => k_is)
    (case c11 => k_is)
    (case k11 => k_is)
    (case a12 => k_is)
    (case l12 => k_is)
    (case c12 => k_is)
    (case k12 => k_is)
    (case z_ValueError => k_is)
    (case z_abs => k_is)
    (case z_bool => k_is)
    (case z_enumerate => k_is)
    (case z_int => k_is)
    (case z_isinstance => k_is)
    (case z_len => k_is)
    (case z_range => k_is)
    (case z_tuple => k_is)
    (case g_CrumbError => k_is)
    (case g_NoFraction => k_is)
    (case g_NoText => k_is)
    (case x_NoFraction => k_exc)
    (case k_NoFraction => k_is)
    (case sb_CrumbError => k_is)
    (case t_CrumbError => k_is)
    (case sb_NoFraction => k_is)
    (case t_NoFraction => k_is)
    (case hd_CrumbError => k_is)
    (case su_CrumbError_CrumbError => first | rfl | k_is)
    (case su_NoFraction_CrumbError => first | rfl | k_is)
    (case su_NoText_CrumbError => first | rfl | k_is)
    (case hg_CrumbError => first | rfl | k_is)
    (case hk_CrumbError => first | rfl | k_is)
    (case hs_CrumbError => first | rfl | k_is)
    (case hh_CrumbError => first | rfl | k_is)
    (case ha_CrumbError => first | rfl | k_is)
    (case hn_CrumbError => first | rfl | k_is)
    (case ht_CrumbError => first | rfl | k_is)
    (case hm_CrumbError => first | rfl | k_is)
    (case hg_NoFraction => first | rfl | k_is)
    (case hk_NoFraction => first | rfl | k_is)
    (case hs_NoFraction => first | rfl | k_is)
    (case hh_NoFraction => first | rfl | k_is)
    (case ha_NoFraction => first | rfl | k_is)
    (case hn_NoFraction => first | rfl | k_is)
    (case ht_NoFraction => first | rfl | k_is)
    (case hm_NoFraction => first | rfl | k_is)
    (case hg_NoText => first | rfl | k_is)
    (case hk_NoText => first | rfl | k_is)
    (case hs_NoText => first | rfl | k_is)
    (case hh_NoText => first | rfl | k_is)
    (case ha_NoText => first | rfl | k_is)
    (case hn_NoText => first | rfl | k_is)
    (case ht_NoText => first | rfl | k_is)
    (case hm_NoText => first | rfl | k_is)
    (case ki_CrumbError_NoFraction => first | rfl | k_is)
    (case ki_NoFraction_NoFraction => first | rfl | k_is)
    (case ki_NoText_NoFraction => first | rfl | k_is)
    (case ki_CrumbError_NoText => first | rfl | k_is)
    (case ki_NoFraction_NoText => first | rfl | k_is)
    (case ki_NoText_NoText => first | rfl | k_is)
    (case ki_CrumbError_ValueError => first | rfl | k_is)
    (case ki_NoFraction_ValueError => first | rfl | k_is)
    (case ki_NoText_ValueError => first | rfl | k_is)
