import PyProof.Rows.All
import Wide.All
import OpenK.AllK
import Wide.FinOn
import HandS.Lambda
import HandS.EndTab
import HandS.ForMost
import HandS.ForExc
import HandS.TryMany
import HandS.Wide
import HandS.IsInst
import HandS.Defaults
import HandS.FStr
import HandS.StrMore
import HandS.TupAny
import HandS.ExcIs
import HandS.EndBits
import HandS.Style
import HandS.Deep
import HandS.Steps
import HandS.Conv
import HandS.More
import KE.KFmtOwn
import HandS.RaiseMore
import HandS.SortRule
import HandS.SortInts
import HandS.TryOnly
import HandS.ExcInit
import HandS.ExcField
import HandS.ClsMeth
import HandS.GenList
import HandS.Keys
import KE.KDictZip
import HandS.SetFor
import HandS.Zip
import HandS.Dict
import HandS.Set
import HandS.Strs
import HandS.OwnEq
import HandS.HeadWalk
import HandS.Head0
import HandS.Head1
import HandS.Head2
import HandS.HeadEnd
import HandS.HeadHook1
import HandS.HeadHook2
import HandS.HeadHook3
import HandS.HeadHook4
import PyProof.Rows.StrDigitsNeg
import PyProof.Rows.ReprOcc
import PySem.Challenge.RW_halfcrumb_k08_whole_worths_and_cuts
set_option Elab.async false
set_option linter.all false
set_option maxRecDepth 100000
set_option exponentiation.threshold 5000
set_option maxHeartbeats 40000000
namespace LamP
open PySem PySem.Spec PyProof.Rows L2 LamX
structure LamN (sc scope : Scope) (a b : Str) : Prop where
  kind : scope.kind = .function
  co : scope.isCoroutine = false
  gen : scope.isGenerator = false
  own : ∀ y ∈ scope.names, y.2 ≠ .cell ∧ (y.2 = .local → y.1 = a ∨ y.1 = b)
  pa : scope.names.lookup a = some .local
  pb : scope.names.lookup b = some .local
  ne : a ≠ b
  free : ∀ y ∈ scope.names, y.2 = .free → sc.names.lookup y.1 = some .cell ∨ sc.names.lookup y.1 = some .free
theorem nd_ix {N : List Str} (h : N.Nodup) {i j : Nat} {y : Str} (hi : N[i]? = some y) (hj : N[j]? = some y) : i = j := by
  have hil := (List.getElem?_eq_some_iff.mp hi).1
  have e := hi.trans hj.symm
  exact (List.getElem?_inj hil h).mp e
end LamP
namespace Dn
open PySem PySem.Spec PyProof.Rows L2
inductive D where
  | non | bl (b : Bool) | int (i : Int) | str (x : Str) | tup (l : List D) | lst (l : List D) | obj (c : Nat) (l : List D) | scr (l : List Int) | ptr (n : Nat)
inductive Ob where | lst (l : List D) | ins (c : Nat) (l : List D) | tbl (q : Str) | dct (l : List (Str × D))
abbrev Sto := List Ob
structure Gm where
  K : PySem.W.Frag
  ca : Nat → Addr
  fn : Nat → List Str
  ea : Addr
  cl : List (Option V) := []
  cc : Addr := 0
  cq : Str := Str.empty
  tb : List Addr := []
  ed : Option Addr := none
  en : List Str := []
  el : List D := []
structure Hs where
  as : List Addr
  f : Hp
  h : Hp
mutual
inductive Is (G : Gm) (as : List Addr) (H : Hp) : V → D → Prop
  | non : Is G as H .non .non
  | bl (b : Bool) : Is G as H (.bl b) (.bl b)
  | int (i : Int) : Is G as H (.int i) (.int i)
  | str (x : Str) : Is G as H (.str x) (.str x)
  | tup {a : Addr} {xs : List V} {ds : List D} : SqT G.K H a xs → IsL G as H xs ds → Is G as H (.ref a) (.tup ds)
  | lst {a : Addr} {xs : List V} {ds : List D} : H a = some (.lst xs) → IsL G as H xs ds → Is G as H (.ref a) (.lst ds)
  | obj {a dx : Addr} {c : Nat} {xs : List V} {ds : List D} : H a = some (.ins (G.ca c) dx ((G.fn c).zip xs)) → (G.fn c).length = xs.length → IsL G as H xs ds → Is G as H (.ref a) (.obj c ds)
  | scr {a : Addr} {l : List Int} : SqL G.K H a (l.map V.int) → Is G as H (.ref a) (.scr l)
  | ptr {a : Addr} {n : Nat} : as[n]? = some a → Is G as H (.ref a) (.ptr n)
inductive IsL (G : Gm) (as : List Addr) (H : Hp) : List V → List D → Prop
  | nil : IsL G as H [] []
  | cons {v : V} {vs : List V} {d : D} {ds : List D} : Is G as H v d → IsL G as H vs ds → IsL G as H (v :: vs) (d :: ds)
end
def Ext (as bs : List Addr) : Prop := ∀ (n : Nat) (a : Addr), as[n]? = some a → bs[n]? = some a
theorem Ext.refl (as : List Addr) : Ext as as := fun _ _ h => h
theorem Ext.trans {as bs cs : List Addr} (x : Ext as bs) (y : Ext bs cs) : Ext as cs := fun n a h => y n a (x n a h)
theorem Ext.mem {as bs : List Addr} (x : Ext as bs) {a : Addr} (h : a ∈ as) : a ∈ bs := by
  obtain ⟨n, hn⟩ := List.mem_iff_getElem?.mp h
  exact List.mem_iff_getElem?.mpr ⟨n, x n a hn⟩
theorem Ext.app (as bs : List Addr) : Ext as (as ++ bs) := fun n a h => by
  rw [List.getElem?_append_left (List.getElem?_eq_some_iff.mp h).1]; exact h
theorem same_t {K : PySem.W.Frag} {H H' : Hp} {a : Addr} {xs : List V} (e : Same H H') (h : SqT K H a xs) : SqT K H' a xs := by
  rcases h with (h | ⟨o, h⟩) | h
  · exact .inl (.inl (e _ _ h))
  · exact .inl (.inr ⟨o, e _ _ h⟩)
  · exact .inr h
mutual
theorem Is.mono {G : Gm} {as bs : List Addr} {H H' : Hp} (x : Ext as bs) (e : Same H H') : ∀ (d : D) {v : V}, Is G as H v d → Is G bs H' v d
  | .non, _, h => by cases h; exact .non
  | .bl _, _, h => by cases h; exact .bl _
  | .int _, _, h => by cases h; exact .int _
  | .str _, _, h => by cases h; exact .str _
  | .tup ds, _, h => by cases h with | tup a b => exact .tup (same_t e a) (IsL.mono x e ds b)
  | .lst ds, _, h => by cases h with | lst a b => exact .lst (e _ _ a) (IsL.mono x e ds b)
  | .scr l, _, h => by cases h with | scr a => exact .scr (e.seq a)
  | .ptr n, _, h => by cases h with | ptr a => exact .ptr (x _ _ a)
  | .obj c ds, _, h => by cases h with | obj a l b => exact .obj (e _ _ a) l (IsL.mono x e ds b)
theorem IsL.mono {G : Gm} {as bs : List Addr} {H H' : Hp} (x : Ext as bs) (e : Same H H') : ∀ (ds : List D) {vs : List V}, IsL G as H vs ds → IsL G bs H' vs ds
  | [], _, h => by cases h; exact .nil
  | d :: ds, _, h => by cases h with | cons a b => exact .cons (Is.mono x e d a) (IsL.mono x e ds b)
end
def Gm.at_ (G : Gm) (a : Addr) : Gm := { G with ea := a }
mutual
theorem Is.ea {G : Gm} {as : List Addr} {H : Hp} (x : Addr) : ∀ (d : D) {v : V}, Is G as H v d → Is (G.at_ x) as H v d
  | .non, _, h => by cases h; exact .non
  | .bl _, _, h => by cases h; exact .bl _
  | .int _, _, h => by cases h; exact .int _
  | .str _, _, h => by cases h; exact .str _
  | .tup ds, _, h => by cases h with | tup a b => exact .tup a (IsL.ea x ds b)
  | .lst ds, _, h => by cases h with | lst a b => exact .lst a (IsL.ea x ds b)
  | .scr l, _, h => by cases h with | scr a => exact .scr a
  | .ptr n, _, h => by cases h with | ptr a => exact .ptr a
  | .obj c ds, _, h => by cases h with | obj a l b => exact .obj a l (IsL.ea x ds b)
theorem IsL.ea {G : Gm} {as : List Addr} {H : Hp} (x : Addr) : ∀ (ds : List D) {vs : List V}, IsL G as H vs ds → IsL (G.at_ x) as H vs ds
  | [], _, h => by cases h; exact .nil
  | d :: ds, _, h => by cases h with | cons a b => exact .cons (Is.ea x d a) (IsL.ea x ds b)
end
section
variable {G : Gm} {as bs : List Addr} {H H' : Hp}
theorem Is.up {v : V} {d : D} (h : Is G as H v d) (x : Ext as bs) (e : Same H H') : Is G bs H' v d := Is.mono x e d h
theorem IsL.up {v : List V} {d : List D} (h : IsL G as H v d) (x : Ext as bs) (e : Same H H') : IsL G bs H' v d := IsL.mono x e d h
theorem IsL.len : ∀ {ds : List D} {vs : List V}, IsL G as H vs ds → vs.length = ds.length
  | [], _, h => by cases h; rfl
  | d :: ds, _, h => by cases h with | cons a b => exact congrArg Nat.succ b.len
theorem IsL.get : ∀ {ds : List D} {vs : List V} {i : Nat} {d : D}, IsL G as H vs ds → ds[i]? = some d → ∃ v, vs[i]? = some v ∧ Is G as H v d
  | [], _, _, _, _, e => by simp at e
  | d :: ds, _, 0, _, h, e => by cases h with | cons a b => simp at e; subst e; exact ⟨_, rfl, a⟩
  | d :: ds, _, i + 1, _, h, e => by
    cases h with
    | cons a b =>
      obtain ⟨v, h1, h2⟩ := IsL.get (i := i) b (by simpa using e)
      exact ⟨v, by simpa using h1, h2⟩
theorem IsL.getV {ds : List D} {vs : List V} {i : Nat} {v : V} (h : IsL G as H vs ds) (e : vs[i]? = some v) : ∃ d, ds[i]? = some d ∧ Is G as H v d := by
  have hl := h.len
  have hi : i < vs.length := (List.getElem?_eq_some_iff.mp e).1
  have : ds[i]? = some (ds[i]'(by omega)) := List.getElem?_eq_getElem (by omega)
  obtain ⟨w, h1, h2⟩ := h.get this
  rw [e] at h1
  cases h1
  exact ⟨_, this, h2⟩
theorem IsL.append : ∀ {ds es : List D} {vs ws : List V}, IsL G as H vs ds → IsL G as H ws es → IsL G as H (vs ++ ws) (ds ++ es)
  | [], _, _, _, h, k => by cases h; exact k
  | d :: ds, _, _, _, h, k => by cases h with | cons a b => exact .cons a (IsL.append b k)
theorem IsL.one {v : V} {d : D} (h : Is G as H v d) : IsL G as H [v] [d] := .cons h .nil
theorem IsL.take : ∀ (n : Nat) {ds : List D} {vs : List V}, IsL G as H vs ds → IsL G as H (vs.take n) (ds.take n)
  | 0, _, _, _ => .nil
  | n + 1, [], _, h => by cases h; exact .nil
  | n + 1, d :: ds, _, h => by cases h with | cons a b => exact .cons a (IsL.take n b)
theorem IsL.drop : ∀ (n : Nat) {ds : List D} {vs : List V}, IsL G as H vs ds → IsL G as H (vs.drop n) (ds.drop n)
  | 0, _, _, h => h
  | n + 1, [], _, h => by cases h; exact .nil
  | n + 1, d :: ds, _, h => by cases h with | cons a b => exact IsL.drop n b
theorem IsL.set {v : V} {d : D} (q : Is G as H v d) : ∀ (n : Nat) {ds : List D} {vs : List V}, IsL G as H vs ds → IsL G as H (vs.set n v) (ds.set n d)
  | _, [], _, h => by cases h; exact .nil
  | 0, _ :: ds, _, h => by cases h with | cons a b => exact .cons q b
  | n + 1, _ :: ds, _, h => by cases h with | cons a b => exact .cons a (IsL.set q n b)
theorem IsL.eraseIdx : ∀ (n : Nat) {ds : List D} {vs : List V}, IsL G as H vs ds → IsL G as H (vs.eraseIdx n) (ds.eraseIdx n)
  | _, [], _, h => by cases h; exact .nil
  | 0, _ :: ds, _, h => by cases h with | cons a b => exact b
  | n + 1, _ :: ds, _, h => by cases h with | cons a b => exact .cons a (IsL.eraseIdx n b)
theorem IsL.reverse : ∀ {ds : List D} {vs : List V}, IsL G as H vs ds → IsL G as H vs.reverse ds.reverse
  | [], _, h => by cases h; exact .nil
  | d :: ds, _, h => by
    cases h with
    | cons a b =>
      rw [List.reverse_cons, List.reverse_cons]
      exact (IsL.reverse b).append (.one a)
inductive KsR (G : Gm) (as : List Addr) (H : Hp) : List (Key × V) → List (Str × D) → Prop
  | nil : KsR G as H [] []
  | cons {x : Str} {v : V} {d : D} {ps : List (Key × V)} {ds : List (Str × D)} : Is G as H v d → KsR G as H ps ds → KsR G as H ((.inr x, v) :: ps) ((x, d) :: ds)
theorem KsR.up {ps : List (Key × V)} {ds : List (Str × D)} (h : KsR G as H ps ds) (x : Ext as bs) (e : Same H H') : KsR G bs H' ps ds := by
  induction h with
  | nil => exact .nil
  | cons a b ih => exact .cons (a.up x e) ih
theorem KsR.ea {ps : List (Key × V)} {ds : List (Str × D)} (x : Addr) (h : KsR G as H ps ds) : KsR (G.at_ x) as H ps ds := by
  induction h with
  | nil => exact .nil
  | cons a b ih => exact .cons (Is.ea x _ a) ih
def flat : D → Bool
  | .non | .bl _ | .int _ | .str _ => true
  | _ => false
theorem Is.flat (bs : List Addr) (H' : Hp) {v : V} {d : D} (h : Is G as H v d) (f : flat d = true) : Is G bs H' v d := by
  cases h <;> first | exact .non | exact .bl _ | exact .int _ | exact .str _ | cases f
end
theorem same_new {H : Hp} {p : Addr} {o : HO} (h : H p = none) : Same H (upd H p o) := fun a u e => by
  rw [upd_ne (ne_of_none e h)]
  exact e
structure Gro (s t : Hs) : Prop where
  a : Ext s.as t.as
  f : Same s.f t.f
  h : ∀ p o, s.h p = some o → p ∉ s.as → t.h p = some o
  sf : Same t.f t.h
  n : ∀ p o, s.h p = some o → s.f p = none → t.f p = none
  w : ∀ x, x ∈ t.as → x ∈ s.as ∨ s.h x = none
  z : ∀ x, x ∈ t.as → t.f x = none
theorem Gro.trans {s t u : Hs} (x : Gro s t) (y : Gro t u) : Gro s u where
  a := x.a.trans y.a
  f := x.f.trans y.f
  h := fun p o e q => y.h p o (x.h p o e q) fun m => (x.w p m).elim q fun z => by rw [e] at z; cases z
  sf := y.sf
  n := fun p o e q => by
    by_cases m : p ∈ s.as
    · exact y.z p (y.a.mem (x.a.mem m))
    · exact y.n p o (x.h p o e m) (x.n p o e q)
  w := fun p m => (y.w p m).elim (fun m => x.w p m) fun z => by
    by_cases m : p ∈ s.as
    · exact .inl m
    · cases e : s.h p with
      | none => exact .inr rfl
      | some o => rw [x.h p o e m] at z; cases z
  z := y.z
def ObOk (G : Gm) (s : Hs) (a : Addr) : Ob → Prop
  | .lst ds => ∃ vs, s.h a = some (.lst vs) ∧ IsL G s.as s.f vs ds
  | .ins c ds => ∃ dx vs, s.h a = some (.ins (G.ca c) dx ((G.fn c).zip vs)) ∧ vs.length ≤ (G.fn c).length ∧ IsL G s.as s.f vs ds
  | .tbl q => ∃ ps : Array Value, s.h a = some (.tbl ps) ∧ TriplesOk ps.toList ∧ ∀ (pos : Pos) (cv : Value), codeAmong pos ps.toList = some cv → ∃ c, cv = .ref c ∧ s.f c = some (LamX.CodeO c q)
  | .dct l => ∃ kvs : List (Key × V), s.h a = some (.dK kvs) ∧ KsR G s.as s.f kvs l
def ExF (G : Gm) (s : Hs) : Prop := ∀ da, G.ed = some da → ∃ xs, s.f da = some (.xd (G.en.zip xs)) ∧ G.en.length = xs.length ∧ IsL G s.as s.f xs G.el
theorem ExF.up {G : Gm} {s t : Hs} (k : ExF G s) (a : Ext s.as t.as) (f : Same s.f t.f) : ExF G t := fun da h => by
  obtain ⟨xs, h1, h2, h3⟩ := k da h
  exact ⟨xs, f _ _ h1, h2, h3.up a f⟩
structure StOk (G : Gm) (s : Hs) (st : Sto) : Prop where
  sf : Same s.f s.h
  len : s.as.length = st.length
  nd : s.as.Nodup
  ob : ∀ (n : Nat) (a : Addr) (o : Ob), s.as[n]? = some a → st[n]? = some o → ObOk G s a o
  nf : ∀ x, x ∈ s.as → s.f x = none
  tb : ∀ (n : Nat) (P : Addr), G.tb[n]? = some P → s.as[n]? = some P
  ex : ExF G s
theorem Gro.refl {G : Gm} {s : Hs} {st : Sto} (o : StOk G s st) : Gro s s := ⟨Ext.refl _, Same.refl _, fun _ _ e _ => e, o.sf, fun _ _ _ q => q, fun _ m => .inl m, o.nf⟩
theorem StOk.in_ {G : Gm} {s : Hs} {st : Sto} (o : StOk G s st) {x : Addr} (m : x ∈ s.as) : ∃ u, s.h x = some u := by
  obtain ⟨n, hn⟩ := List.mem_iff_getElem?.mp m
  have hl : n < st.length := by rw [← o.len]; exact (List.getElem?_eq_some_iff.mp hn).1
  have q := o.ob n x st[n] hn (List.getElem?_eq_getElem hl)
  cases e : st[n] with
  | lst ds => rw [e] at q; obtain ⟨vs, h, _⟩ := q; exact ⟨_, h⟩
  | ins c ds => rw [e] at q; obtain ⟨dx, vs, h, _⟩ := q; exact ⟨_, h⟩
  | tbl w => rw [e] at q; obtain ⟨ps, h, _⟩ := q; exact ⟨_, h⟩
  | dct l => rw [e] at q; obtain ⟨ps, h, _⟩ := q; exact ⟨_, h⟩
theorem StOk.new {G : Gm} {s : Hs} {st : Sto} (o : StOk G s st) {p : Addr} (h : s.h p = none) : p ∉ s.as := fun m => by
  obtain ⟨u, e⟩ := o.in_ m
  rw [h] at e; cases e
theorem ObOk.keep {G : Gm} {s t : Hs} {a : Addr} {o : Ob} (q : ObOk G s a o) (x : Ext s.as t.as) (f : Same s.f t.f) (h : ∀ u, s.h a = some u → t.h a = some u) : ObOk G t a o := by
  cases o with
  | lst ds => obtain ⟨vs, h1, h2⟩ := q; exact ⟨vs, h _ h1, h2.up x f⟩
  | ins c ds => obtain ⟨dx, vs, h1, hl, h2⟩ := q; exact ⟨dx, vs, h _ h1, hl, h2.up x f⟩
  | tbl w =>
    obtain ⟨ps, h1, h2, h3⟩ := q
    refine ⟨ps, h _ h1, h2, fun pos cv hc => ?_⟩
    obtain ⟨c, e1, e2⟩ := h3 pos cv hc
    exact ⟨c, e1, f _ _ e2⟩
  | dct l => obtain ⟨kvs, h1, h2⟩ := q; exact ⟨kvs, h _ h1, h2.up x f⟩
theorem Gro.new {G : Gm} {s : Hs} {st : Sto} {p : Addr} {o : HO} (k : StOk G s st) (h : s.h p = none) : Gro s ⟨s.as, upd s.f p o, upd s.h p o⟩ := by
  refine ⟨Ext.refl _, same_new (k.sf.free h), fun a u e _ => ?_, fun a u e => ?_, fun a u e q => ?_, fun _ m => .inl m, fun x m => ?_⟩
  · show upd s.h p o a = some u
    rw [upd_ne (ne_of_none e h)]; exact e
  · have e' : upd s.f p o a = some u := e
    show upd s.h p o a = some u
    by_cases z : a = p
    · subst z; rw [upd_same] at e' ⊢; exact e'
    · rw [upd_ne z] at e' ⊢; exact k.sf _ _ e'
  · show upd s.f p o a = none
    rw [upd_ne (ne_of_none e h)]; exact q
  · show upd s.f p o x = none
    have : x ≠ p := fun z => by subst z; exact k.new h m
    rw [upd_ne this]; exact k.nf x m
theorem Gro.loose {G : Gm} {s : Hs} {st : Sto} {p : Addr} {o : HO} (k : StOk G s st) (h : s.h p = none) : Gro s ⟨s.as, s.f, upd s.h p o⟩ :=
  ⟨Ext.refl _, Same.refl _, fun a u e _ => by show upd s.h p o a = some u; rw [upd_ne (ne_of_none e h)]; exact e, k.sf.trans (same_new h), fun _ _ _ q => q, fun _ m => .inl m, k.nf⟩
theorem StOk.grow {G : Gm} {s : Hs} {st : Sto} {p : Addr} {o : HO} (k : StOk G s st) (h : s.h p = none) : StOk G ⟨s.as, upd s.f p o, upd s.h p o⟩ st := by
  have g := Gro.new (o := o) k h
  refine ⟨g.sf, k.len, k.nd, fun n a b e1 e2 => (k.ob n a b e1 e2).keep g.a g.f fun u e => ?_, g.z, k.tb, k.ex.up g.a g.f⟩
  show upd s.h p o a = some u
  rw [upd_ne (ne_of_none e h)]; exact e
theorem StOk.loose {G : Gm} {s : Hs} {st : Sto} {p : Addr} {o : HO} (k : StOk G s st) (h : s.h p = none) : StOk G ⟨s.as, s.f, upd s.h p o⟩ st := by
  have g := Gro.loose (o := o) k h
  refine ⟨g.sf, k.len, k.nd, fun n a b e1 e2 => (k.ob n a b e1 e2).keep g.a g.f fun u e => ?_, g.z, k.tb, k.ex.up g.a g.f⟩
  show upd s.h p o a = some u
  rw [upd_ne (ne_of_none e h)]; exact e
theorem Gro.ice {G : Gm} {s t : Hs} {st : Sto} {p : Addr} {o : HO} (g : Gro s t) (k : StOk G t st) (hp : t.h p = some o) (hs : s.h p = none) (hf : t.f p = none) (ha : p ∉ t.as) : Gro s ⟨t.as, upd t.f p o, t.h⟩ := by
  refine ⟨g.a, g.f.trans (same_new hf), g.h, fun a u e => ?_, fun a u e q => ?_, g.w, fun x m => ?_⟩
  · have e' : upd t.f p o a = some u := e
    show t.h a = some u
    by_cases z : a = p
    · subst z; rw [upd_same] at e'; rw [← e']; exact hp
    · rw [upd_ne z] at e'; exact g.sf _ _ e'
  · show upd t.f p o a = none
    rw [upd_ne (ne_of_none e hs)]; exact g.n _ _ e q
  · show upd t.f p o x = none
    have : x ≠ p := fun z => by subst z; exact ha m
    rw [upd_ne this]; exact g.z x m
theorem StOk.ice {G : Gm} {t : Hs} {st : Sto} {p : Addr} {o : HO} (k : StOk G t st) (hp : t.h p = some o) (hf : t.f p = none) (ha : p ∉ t.as) : StOk G ⟨t.as, upd t.f p o, t.h⟩ st := by
  refine ⟨fun a u e => ?_, k.len, k.nd, fun n a b e1 e2 => (k.ob n a b e1 e2).keep (Ext.refl _) (same_new hf) fun u e => e, fun x m => ?_, k.tb, k.ex.up (Ext.refl _) (same_new hf)⟩
  · have e' : upd t.f p o a = some u := e
    show t.h a = some u
    by_cases z : a = p
    · subst z; rw [upd_same] at e'; rw [← e']; exact hp
    · rw [upd_ne z] at e'; exact k.sf _ _ e'
  · show upd t.f p o x = none
    have : x ≠ p := fun z => by subst z; exact ha m
    rw [upd_ne this]; exact k.nf x m
theorem Gro.chg {s t : Hs} {p : Addr} {o : HO} (g : Gro s t) (h : s.h p = none) (hf : t.f p = none) : Gro s ⟨t.as, t.f, upd t.h p o⟩ :=
  ⟨g.a, g.f, fun a u e q => by show upd t.h p o a = some u; rw [upd_ne (ne_of_none e h)]; exact g.h _ _ e q, fun a u e => by show upd t.h p o a = some u; rw [upd_ne (ne_of_none e hf)]; exact g.sf _ _ e, g.n, g.w, g.z⟩
theorem StOk.chg {G : Gm} {t : Hs} {st : Sto} {p : Addr} {o : HO} (k : StOk G t st) (hf : t.f p = none) (ha : p ∉ t.as) : StOk G ⟨t.as, t.f, upd t.h p o⟩ st := by
  refine ⟨fun a u e => by show upd t.h p o a = some u; rw [upd_ne (ne_of_none e hf)]; exact k.sf _ _ e, k.len, k.nd, fun n a b e1 e2 => (k.ob n a b e1 e2).keep (Ext.refl _) (Same.refl _) fun u e => ?_, k.nf, k.tb, k.ex.up (Ext.refl _) (Same.refl _)⟩
  show upd t.h p o a = some u
  have : a ≠ p := fun z => by subst z; exact ha (List.mem_iff_getElem?.mpr ⟨n, e1⟩)
  rw [upd_ne this]; exact e
theorem Gro.put {G : Gm} {s t : Hs} {st : Sto} {p : Addr} (g : Gro s t) (k : StOk G t st) (hs : s.h p = none) (hf : t.f p = none) : Gro s ⟨t.as ++ [p], t.f, t.h⟩ := by
  refine ⟨g.a.trans (Ext.app _ _), g.f, g.h, g.sf, g.n, fun x m => ?_, fun x m => ?_⟩
  · rcases List.mem_append.mp m with m | m
    · exact g.w x m
    · have : x = p := by simpa using m
      subst this; exact .inr hs
  · rcases List.mem_append.mp m with m | m
    · exact g.z x m
    · have : x = p := by simpa using m
      subst this; exact hf
theorem StOk.put {G : Gm} {t : Hs} {st : Sto} {p : Addr} {o : Ob} (k : StOk G t st) (hf : t.f p = none) (ha : p ∉ t.as) (ho : ObOk G ⟨t.as ++ [p], t.f, t.h⟩ p o) : StOk G ⟨t.as ++ [p], t.f, t.h⟩ (st ++ [o]) := by
  refine ⟨k.sf, by simp [k.len], ?_, fun n a b e1 e2 => ?_, fun x m => ?_, fun n P h => Ext.app _ _ n P (k.tb n P h), k.ex.up (Ext.app _ _) (Same.refl _)⟩
  · show (t.as ++ [p]).Nodup
    rw [List.nodup_append]
    refine ⟨k.nd, by simp, fun a h1 b h2 z => ?_⟩
    have : b = p := by simpa using h2
    subst this; subst z; exact ha h1
  · have e1' : (t.as ++ [p])[n]? = some a := e1
    by_cases hn : n < t.as.length
    · rw [List.getElem?_append_left hn] at e1'
      rw [List.getElem?_append_left (by rw [← k.len]; exact hn)] at e2
      exact (k.ob n a b e1' e2).keep (Ext.app _ _) (Same.refl _) fun u e => e
    · have hn' : n = t.as.length := by
        have := (List.getElem?_eq_some_iff.mp e1').1
        simp at this; omega
      subst hn'
      rw [List.getElem?_append_right (Nat.le_refl _)] at e1'
      rw [k.len, List.getElem?_append_right (Nat.le_refl _)] at e2
      simp at e1' e2
      subst e1'; subst e2
      exact ho
  · rcases List.mem_append.mp m with m | m
    · exact k.nf x m
    · have : x = p := by simpa using m
      subst this; exact hf
theorem Gro.mod {G : Gm} {s t : Hs} {st : Sto} {n : Nat} {a : Addr} {o : HO} (g : Gro s t) (k : StOk G t st) (ha : t.as[n]? = some a) : Gro s ⟨t.as, t.f, upd t.h a o⟩ := by
  have m : a ∈ t.as := List.mem_iff_getElem?.mpr ⟨n, ha⟩
  refine ⟨g.a, g.f, fun p u e q => ?_, fun p u e => ?_, g.n, g.w, g.z⟩
  · show upd t.h a o p = some u
    have : p ≠ a := fun z => by
      subst z
      exact (g.w p m).elim q fun z => by rw [e] at z; cases z
    rw [upd_ne this]; exact g.h _ _ e q
  · show upd t.h a o p = some u
    have : p ≠ a := fun z => by
      subst z
      have := k.nf p m
      rw [show t.f p = some u from e] at this; cases this
    rw [upd_ne this]; exact k.sf _ _ e
theorem StOk.mod {G : Gm} {t : Hs} {st : Sto} {n : Nat} {a : Addr} {o : HO} {b : Ob} (k : StOk G t st) (ha : t.as[n]? = some a) (ho : ObOk G ⟨t.as, t.f, upd t.h a o⟩ a b) : StOk G ⟨t.as, t.f, upd t.h a o⟩ (st.set n b) := by
  have m : a ∈ t.as := List.mem_iff_getElem?.mpr ⟨n, ha⟩
  refine ⟨fun p u e => ?_, by simp [k.len], k.nd, fun j x c e1 e2 => ?_, k.nf, k.tb, k.ex.up (Ext.refl _) (Same.refl _)⟩
  · show upd t.h a o p = some u
    have : p ≠ a := fun z => by
      subst z
      have := k.nf p m
      rw [show t.f p = some u from e] at this; cases this
    rw [upd_ne this]; exact k.sf _ _ e
  · by_cases z : n = j
    · subst z
      rw [List.getElem?_set_self (by rw [← k.len]; exact (List.getElem?_eq_some_iff.mp ha).1)] at e2
      cases e2
      have e1' : t.as[n]? = some x := e1
      rw [ha] at e1'; cases e1'
      exact ho
    · rw [List.getElem?_set_ne z] at e2
      refine (k.ob j x c e1 e2).keep (Ext.refl _) (Same.refl _) fun u e => ?_
      show upd t.h a o x = some u
      have : x ≠ a := fun y => by
        subst y
        have e1' : t.as[j]? = some x := e1
        exact z (nd_ix k.nd ha e1')
      rw [upd_ne this]; exact e
inductive Md where | P | B | N
  deriving DecidableEq
def VOk (G : Gm) (s t : Hs) : Md → V → D → Prop
  | .P, v, d => Is G t.as t.f v d
  | .B, v, d => ∃ p vs l, v = .ref p ∧ d = .lst l ∧ t.h p = some (.lst vs) ∧ IsL G t.as t.f vs l ∧ p ∉ t.as
  | .N, v, d => ∃ p vs l, v = .ref p ∧ d = .lst l ∧ t.h p = some (.lst vs) ∧ IsL G t.as t.f vs l ∧ p ∉ t.as ∧ s.h p = none ∧ t.f p = none
def U (G : Gm) (t : Hs) (v : V) (d : D) : Prop := Is G t.as t.f v d ∨ ∃ p vs l, v = .ref p ∧ d = .lst l ∧ t.h p = some (.lst vs) ∧ IsL G t.as t.f vs l ∧ p ∉ t.as
section
variable {G : Gm} {s t t' : Hs} {v : V} {d : D} {m : Md}
theorem VOk.u (h : VOk G s t m v d) : U G t v d := by
  cases m with
  | P => exact .inl h
  | B => exact .inr h
  | N => obtain ⟨p, vs, l, a, b, c, e, f, _⟩ := h; exact .inr ⟨p, vs, l, a, b, c, e, f⟩
theorem U.up (h : U G t v d) (g : Gro t t') : U G t' v d := by
  rcases h with h | ⟨p, vs, l, a, b, c, e, f⟩
  · exact .inl (h.up g.a g.f)
  · exact .inr ⟨p, vs, l, a, b, g.h _ _ c f, e.up g.a g.f, fun m => (g.w p m).elim f fun z => by rw [c] at z; cases z⟩
theorem U.lst {l : List D} (h : U G t v (.lst l)) (s : Same t.f t.h) : ∃ p vs, v = .ref p ∧ t.h p = some (.lst vs) ∧ IsL G t.as t.f vs l := by
  rcases h with h | ⟨p, vs, l', rfl, e, c, q, _⟩
  · cases h with | lst a b => exact ⟨_, _, rfl, s _ _ a, b⟩
  · cases e; exact ⟨p, vs, rfl, c, q⟩
theorem U.scr {l : List Int} (h : U G t v (.scr l)) (s : Same t.f t.h) : ∃ p, v = .ref p ∧ SqL G.K t.h p (l.map V.int) := by
  rcases h with h | ⟨p, vs, l', rfl, e, c, q, _⟩
  · cases h with | scr a => exact ⟨_, rfl, s.seq a⟩
  · cases e
theorem U.tup {l : List D} (h : U G t v (.tup l)) (s : Same t.f t.h) : ∃ p vs, v = .ref p ∧ SqT G.K t.h p vs ∧ IsL G t.as t.f vs l := by
  rcases h with h | ⟨p, vs, l', rfl, e, c, q, _⟩
  · cases h with | tup a b => exact ⟨_, _, rfl, same_t s a, b⟩
  · cases e
theorem U.tupI {l : List D} (h : U G t v (.tup l)) : Is G t.as t.f v (.tup l) := by
  rcases h with h | ⟨p, vs, l', a, b, _⟩
  · exact h
  · cases b
theorem U.ptr {n : Nat} (h : U G t v (.ptr n)) : ∃ p, v = .ref p ∧ t.as[n]? = some p := by
  rcases h with h | ⟨p, vs, l', rfl, e, c, q, _⟩
  · cases h with | ptr a => exact ⟨_, rfl, a⟩
  · cases e
theorem U.obj {c : Nat} {l : List D} (h : U G t v (.obj c l)) (s : Same t.f t.h) : ∃ p dx vs, v = .ref p ∧ t.h p = some (.ins (G.ca c) dx ((G.fn c).zip vs)) ∧ (G.fn c).length = vs.length ∧ IsL G t.as t.f vs l := by
  rcases h with h | ⟨p, vs, l', rfl, e, c, q, _⟩
  · cases h with | obj a l b => exact ⟨_, _, _, rfl, s _ _ a, l, b⟩
  · cases e
theorem U.int {i : Int} (h : U G t v (.int i)) : v = .int i := by
  rcases h with h | ⟨p, vs, l', rfl, e, _⟩
  · cases h; rfl
  · cases e
theorem U.bl {i : Bool} (h : U G t v (.bl i)) : v = .bl i := by
  rcases h with h | ⟨p, vs, l', rfl, e, _⟩
  · cases h; rfl
  · cases e
theorem U.str {i : Str} (h : U G t v (.str i)) : v = .str i := by
  rcases h with h | ⟨p, vs, l', rfl, e, _⟩
  · cases h; rfl
  · cases e
theorem U.non (h : U G t v .non) : v = .non := by
  rcases h with h | ⟨p, vs, l', rfl, e, _⟩
  · cases h; rfl
  · cases e
theorem VOk.up (h : VOk G s t m v d) (g : Gro t t') : VOk G s t' m v d := by
  have na : ∀ {p : Addr} {o : HO}, t.h p = some o → p ∉ t.as → p ∉ t'.as := fun {p o} c f m => (g.w p m).elim f fun z => by rw [c] at z; cases z
  cases m with
  | P => exact Is.up h g.a g.f
  | B => obtain ⟨p, vs, l, a, b, c, e, f⟩ := h; exact ⟨p, vs, l, a, b, g.h _ _ c f, e.up g.a g.f, na c f⟩
  | N => obtain ⟨p, vs, l, a, b, c, e, f, n, z⟩ := h; exact ⟨p, vs, l, a, b, g.h _ _ c f, e.up g.a g.f, na c f, n, g.n _ _ c z⟩
theorem VOk.back {r : Hs} {st : Sto} (h : VOk G s t m v d) (g : Gro r s) (k : StOk G s st) : VOk G r t m v d := by
  cases m with
  | P => exact h
  | B => exact h
  | N =>
    obtain ⟨p, vs, l, a, b, c, e, f, n, z⟩ := h
    refine ⟨p, vs, l, a, b, c, e, f, ?_, z⟩
    cases q : r.h p with
    | none => rfl
    | some o =>
      by_cases i : p ∈ r.as
      · exact absurd (g.a.mem i) (k.new n)
      · rw [g.h p o q i] at n; cases n
theorem VOk.freeze {st : Sto} (h : VOk G s t m v d) (g : Gro s t) (k : StOk G t st) (hm : m ≠ .B) : ∃ f, Gro s ⟨t.as, f, t.h⟩ ∧ StOk G ⟨t.as, f, t.h⟩ st ∧ Same t.f f ∧ Is G t.as f v d := by
  cases m with
  | P => exact ⟨t.f, g, k, Same.refl _, h⟩
  | B => exact absurd rfl hm
  | N =>
    obtain ⟨p, vs, l, rfl, rfl, c, e, f, n, z⟩ := h
    exact ⟨upd t.f p (.lst vs), g.ice k c n z f, k.ice c z f, same_new z, .lst upd_same (e.up (Ext.refl _) (same_new z))⟩
end
inductive SL where | emp | val (d : D) | own (l : List D) | exn | clo (ds : List (Option D))
abbrev DE := List SL
structure En where
  e : DE
  st : Sto
def SlotOk (G : Gm) (s t : Hs) : Option V → SL → Prop
  | _, .emp => True
  | o, .exn => o = some (.ref G.ea)
  | o, .clo ds => o = some (.ref G.ea) ∧ G.cl.length = ds.length ∧ t.f G.cc = some (LamX.CodeO G.cc G.cq) ∧ ∀ (i : Nat) (d : D), ds[i]? = some (some d) → ∃ v, G.cl[i]? = some (some v) ∧ Is G t.as t.f v d
  | o, .val d => ∃ v, o = some v ∧ Is G t.as t.f v d
  | o, .own l => ∃ p vs, o = some (.ref p) ∧ s.h p = none ∧ t.f p = none ∧ t.h p = some (.lst vs) ∧ IsL G t.as t.f vs l ∧ p ∉ t.as
structure EnvOk (G : Gm) (s t : Hs) (σ : L2.St) (e : DE) : Prop where
  gr : Gro s t
  len : σ.length = e.length
  at_ : ∀ (i : Nat) (o : Option V) (x : SL), σ[i]? = some o → e[i]? = some x → SlotOk G s t o x
  dis : ∀ (i j : Nat) (p : Addr) (l m : List D), i ≠ j → σ[i]? = some (some (.ref p)) → e[i]? = some (.own l) → σ[j]? = some (some (.ref p)) → e[j]? = some (.own m) → False
section
variable {G : Gm} {s t t' : Hs} {σ : L2.St} {e : DE} {st : Sto}
theorem SlotOk.up {o : Option V} {x : SL} (h : SlotOk G s t o x) (g : Gro t t') : SlotOk G s t' o x := by
  cases x with
  | emp => trivial
  | exn => exact h
  | clo ds =>
    obtain ⟨h1, h2, h3, h4⟩ := h
    refine ⟨h1, h2, g.f _ _ h3, fun i d hd => ?_⟩
    obtain ⟨v, a, b⟩ := h4 i d hd
    exact ⟨v, a, b.up g.a g.f⟩
  | val d => obtain ⟨v, a, b⟩ := h; exact ⟨v, a, b.up g.a g.f⟩
  | own l => obtain ⟨p, vs, a, b, c, d, e, f⟩ := h; exact ⟨p, vs, a, b, g.n _ _ d c, g.h _ _ d f, e.up g.a g.f, fun m => (g.w p m).elim f fun z => by rw [d] at z; cases z⟩
theorem EnvOk.up (h : EnvOk G s t σ e) (g : Gro t t') : EnvOk G s t' σ e :=
  ⟨h.gr.trans g, h.len, fun i o s a b => (h.at_ i o s a b).up g, h.dis⟩
theorem EnvOk.slot {i : Nat} {x : SL} (h : EnvOk G s t σ e) (hs : e[i]? = some x) : ∃ o, σ[i]? = some o ∧ SlotOk G s t o x := by
  have hi : i < e.length := (List.getElem?_eq_some_iff.mp hs).1
  have e1 : σ[i]? = some (σ[i]'(by have := h.len; omega)) := List.getElem?_eq_getElem _
  exact ⟨_, e1, h.at_ i _ x e1 hs⟩
theorem EnvOk.set {i : Nat} {o : Option V} {x : SL} (h : EnvOk G s t σ e) (hs : SlotOk G s t o x) (hn : ∀ l, x ≠ .own l) : EnvOk G s t (σ.set i o) (e.set i x) := by
  refine ⟨h.gr, by simp [h.len], fun j o' s' a b => ?_, fun j k p l m hjk a b c d => ?_⟩
  · by_cases z : i = j
    · subst z
      have hi : i < σ.length := by
        have := (List.getElem?_eq_some_iff.mp a).1
        simpa using this
      rw [List.getElem?_set_self hi] at a
      rw [List.getElem?_set_self (by rw [← h.len]; exact hi)] at b
      cases a; cases b; exact hs
    · rw [List.getElem?_set_ne z] at a b
      exact h.at_ j o' s' a b
  · by_cases z : i = j
    · subst z
      have hi : i < e.length := by
        have := (List.getElem?_eq_some_iff.mp b).1
        simpa using this
      rw [List.getElem?_set_self hi] at b
      cases b
      exact absurd rfl (hn l)
    · by_cases z2 : i = k
      · subst z2
        have hi : i < e.length := by
          have := (List.getElem?_eq_some_iff.mp d).1
          simpa using this
        rw [List.getElem?_set_self hi] at d
        cases d
        exact absurd rfl (hn m)
      · rw [List.getElem?_set_ne z] at a b
        rw [List.getElem?_set_ne z2] at c d
        exact h.dis j k p l m hjk a b c d
theorem EnvOk.setOwn {i : Nat} {p : Addr} {vs : List V} {l : List D} (h : EnvOk G s t σ e) (h0 : s.h p = none) (hf : t.f p = none) (hp : t.h p = some (.lst vs)) (hl : IsL G t.as t.f vs l) (ha : p ∉ t.as)
    (hne : ∀ (j : Nat) (m : List D), j ≠ i → σ[j]? = some (some (.ref p)) → e[j]? = some (.own m) → False) : EnvOk G s t (σ.set i (some (.ref p))) (e.set i (.own l)) := by
  refine ⟨h.gr, by simp [h.len], fun j o' s' a b => ?_, fun j k q l1 m hjk a b c d => ?_⟩
  · by_cases z : i = j
    · subst z
      have hi : i < σ.length := by
        have := (List.getElem?_eq_some_iff.mp a).1
        simpa using this
      rw [List.getElem?_set_self hi] at a
      rw [List.getElem?_set_self (by rw [← h.len]; exact hi)] at b
      cases a; cases b; exact ⟨p, vs, rfl, h0, hf, hp, hl, ha⟩
    · rw [List.getElem?_set_ne z] at a b
      exact h.at_ j o' s' a b
  · by_cases z : i = j
    · subst z
      have hi : i < σ.length := by
        have := (List.getElem?_eq_some_iff.mp a).1
        simpa using this
      rw [List.getElem?_set_self hi] at a
      rw [List.getElem?_set_ne hjk] at c d
      cases a
      exact hne k m (fun z => hjk z.symm) c d
    · by_cases z2 : i = k
      · subst z2
        have hi : i < σ.length := by
          have := (List.getElem?_eq_some_iff.mp c).1
          simpa using this
        rw [List.getElem?_set_self hi] at c
        rw [List.getElem?_set_ne z] at a b
        cases c
        exact hne j l1 hjk a b
      · rw [List.getElem?_set_ne z] at a b
        rw [List.getElem?_set_ne z2] at c d
        exact h.dis j k q l1 m hjk a b c d
theorem EnvOk.chg {i : Nat} {p : Addr} {vs : List V} {l l' : List D} (h : EnvOk G s t σ e) (hσ : σ[i]? = some (some (.ref p))) (he : e[i]? = some (.own l')) (h0 : s.h p = none) (hf : t.f p = none) (hl : IsL G t.as t.f vs l) (ha : p ∉ t.as) :
    EnvOk G s ⟨t.as, t.f, upd t.h p (.lst vs)⟩ σ (e.set i (.own l)) := by
  refine ⟨h.gr.chg h0 hf, by simp [h.len], fun j o' s' a b => ?_, fun j k q l1 m hjk a b c d => ?_⟩
  · by_cases z : i = j
    · subst z
      have hi : i < e.length := (List.getElem?_eq_some_iff.mp he).1
      rw [List.getElem?_set_self hi] at b
      rw [hσ] at a
      cases a; cases b; exact ⟨p, vs, rfl, h0, hf, upd_same, hl, ha⟩
    · rw [List.getElem?_set_ne z] at b
      have q := h.at_ j o' s' a b
      cases s' with
      | emp => trivial
      | exn => exact q
      | clo ds => exact q
      | val d => exact q
      | own m =>
        obtain ⟨p', vs', rfl, b1, b2, b3, b4, b5⟩ := q
        have : p' ≠ p := fun zz => by subst zz; exact h.dis i j p' l' m z hσ he a b
        exact ⟨p', vs', rfl, b1, b2, by show upd t.h p (.lst vs) p' = _; rw [upd_ne this]; exact b3, b4, b5⟩
  · have own_of : ∀ (j : Nat) (l1 : List D), (e.set i (.own l))[j]? = some (.own l1) → ∃ l2, e[j]? = some (.own l2) := fun j l1 b => by
      by_cases z : i = j
      · subst z; exact ⟨l', he⟩
      · rw [List.getElem?_set_ne z] at b; exact ⟨l1, b⟩
    obtain ⟨l2, b'⟩ := own_of j l1 b
    obtain ⟨l3, d'⟩ := own_of k m d
    exact h.dis j k q l2 l3 hjk a b' c d'
theorem EnvOk.other {p : Addr} {o : HO} (E : EnvOk G s t σ e) (h0 : s.h p = none) (hf : t.f p = none)
    (hne : ∀ (j : Nat) (m : List D), σ[j]? = some (some (.ref p)) → e[j]? = some (.own m) → False) : EnvOk G s ⟨t.as, t.f, upd t.h p o⟩ σ e := by
  refine ⟨E.gr.chg h0 hf, E.len, fun i x y a b => ?_, E.dis⟩
  have ok := E.at_ i x y a b
  cases y with
  | emp => trivial
  | exn => exact ok
  | clo ds => exact ok
  | val d => exact ok
  | own l =>
    obtain ⟨q, vs, rfl, a1, a2, a3, a4, a5⟩ := ok
    have : q ≠ p := fun z => by subst z; exact hne i l a b
    exact ⟨q, vs, rfl, a1, a2, by show upd t.h p o q = _; rw [upd_ne this]; exact a3, a4, a5⟩
end
inductive ER where | val (m : Md) (d : D) (st : Sto) | exc (c : Nat) (l : List D) (st : Sto) | bad
def ExcOk (G : Gm) (s : Hs) (c : Nat) (l : List D) (x : Option Addr) : Prop :=
  (l = [] ∧ x = none) ∨ ∃ da xs, x = some da ∧ l ≠ [] ∧ s.f da = some (.xd ((G.fn c).zip xs)) ∧ (G.fn c).length = xs.length ∧ IsL G s.as s.f xs l
theorem ExcOk.up {G : Gm} {s t : Hs} {c : Nat} {l : List D} {x : Option Addr} (h : ExcOk G s c l x) (g : Gro s t) : ExcOk G t c l x := by
  rcases h with h | ⟨da, xs, a, b, c, d, e⟩
  · exact .inl h
  · exact .inr ⟨da, xs, a, b, g.f _ _ c, d, e.up g.a g.f⟩
def RPost (G : Gm) (W : WX) (s : Hs) (σ : L2.St) (Q : VK) : ER → Prop
  | .val m d st => ∀ t v, Gro s t → StOk G t st → VOk G s t m v d → Q v t.h
  | .exc c l st => ∀ t x, Gro s t → StOk G t st → ExcOk G t c l x → W (.ref (G.ca c)) x σ t.h
  | .bad => False
section
variable {G : Gm} {W : WX} {s t : Hs} {σ : L2.St} {Q Q' : VK} {st : Sto}
theorem RPost.step {r : ER} (g : Gro s t) (k : StOk G t st) (h : RPost G W s σ Q r) : RPost G W t σ Q r := by
  cases r with
  | val m d st' => exact fun u v g' o' o => h u v (g.trans g') o' (o.back g k)
  | exc c l st' => exact fun u x g' o' o => h u x (g.trans g') o' o
  | bad => exact h
def ER.bind (r : ER) (k : D → Sto → ER) : ER := match r with
  | .val _ d st => k d st
  | .exc c l st => .exc c l st
  | .bad => .bad
@[simp] theorem ER.bind_val (m : Md) (d : D) (st : Sto) (k : D → Sto → ER) : (ER.val m d st).bind k = k d st := rfl
@[simp] theorem ER.bind_exc (c : Nat) (l : List D) (st : Sto) (k : D → Sto → ER) : (ER.exc c l st).bind k = .exc c l st := rfl
@[simp] theorem ER.bind_bad (k : D → Sto → ER) : ER.bad.bind k = .bad := rfl
def DEv (G : Gm) (W : WX) (te : TE) (f : En → ER) : Prop :=
  ∀ s t σ e st, EnvOk G s t σ e → StOk G t st → ∀ Q : VK, RPost G W t σ Q (f ⟨e, st⟩) → te σ t.h Q
theorem RPost.bind {r : ER} {k : D → Sto → ER} (h : RPost G W s σ Q (r.bind k))
    (hk : ∀ m d st t v, Gro s t → StOk G t st → VOk G s t m v d → RPost G W t σ Q (k d st) → Q' v t.h) : RPost G W s σ Q' r := by
  cases r with
  | val m d st => exact fun t v g o' o => hk m d st t v g o' o (RPost.step g o' h)
  | exc c l st => exact h
  | bad => exact h
end
end Dn
namespace Dn
open PySem PySem.Spec PyProof.Rows L2
def rOr (r r' : R2) : R2 := fun x y H Q => r x y H Q ∨ r' x y H Q
theorem opOr {X : Cx} {f : Value → Value → Sem Value} {r r' : R2} (h : OpR X f r) (h' : OpR X f r') : OpR X f (rOr r r') := by
  intro pins s σ H x y v u Q I rx ry q
  rcases q with q | q
  · exact h pins s σ H x y v u Q I rx ry q
  · exact h' pins s σ H x y v u Q I rx ry q
def DOp (G : Gm) (r : R2) (o : D → D → Sto → ER) : Prop :=
  ∀ (W : WX) (σ : L2.St) (s : Hs) (st : Sto) (v w : V) (d d' : D), StOk G s st → U G s v d → U G s w d' → ∀ Q : VK, RPost G W s σ Q (o d d' st) → r v w s.h Q
section
variable {G : Gm} {W : WX} {s : Hs} {σ : L2.St} {Q : VK} {st : Sto}
theorem RPost.now {v : V} {d : D} (k : StOk G s st) (h : RPost G W s σ Q (.val .P d st)) (hv : Is G s.as s.f v d) : Q v s.h := h s v (Gro.refl k) k hv
theorem RPost.newL {vs : List V} {l : List D} (k : StOk G s st) (h : RPost G W s σ Q (.val .N (.lst l) st)) (hv : IsL G s.as s.f vs l) {p : Addr} (hp : s.h p = none) : Q (.ref p) (upd s.h p (.lst vs)) :=
  h ⟨s.as, s.f, upd s.h p (.lst vs)⟩ _ (Gro.loose k hp) (k.loose hp) ⟨p, vs, l, rfl, rfl, upd_same, hv, k.new hp, hp, k.sf.free hp⟩
theorem RPost.newT {vs : List V} {l : List D} (k : StOk G s st) (h : RPost G W s σ Q (.val .P (.tup l) st)) (hv : IsL G s.as s.f vs l) {p : Addr} (hp : s.h p = none) : Q (.ref p) (upd s.h p (.tup vs)) :=
  h ⟨s.as, upd s.f p (.tup vs), upd s.h p (.tup vs)⟩ _ (Gro.new k hp) (k.grow hp) (.tup (SqT.of upd_same) (hv.up (Ext.refl _) (same_new (k.sf.free hp))))
theorem RPost.cond (c : Prop) [Decidable c] (r : ER) (h : RPost G W s σ Q (if c then r else .bad)) : c ∧ RPost G W s σ Q r := by
  by_cases q : c
  · rw [if_pos q] at h; exact ⟨q, h⟩
  · rw [if_neg q] at h; exact h.elim
def ofOpt {α : Type} (o : Option α) (k : α → ER) : ER := match o with
  | some d => k d
  | none => .bad
@[simp] theorem ofOpt_some {α : Type} (a : α) (k : α → ER) : ofOpt (some a) k = k a := rfl
@[simp] theorem ofOpt_none {α : Type} (k : α → ER) : ofOpt none k = .bad := rfl
theorem RPost.opt {α : Type} (o : Option α) (k : α → ER) (h : RPost G W s σ Q (ofOpt o k)) : ∃ d, o = some d ∧ RPost G W s σ Q (k d) := by
  cases o with
  | none => exact h.elim
  | some d => exact ⟨d, rfl, h⟩
end
theorem sz {n : Nat} (h : n ≤ 1000000) : n ≤ sizeLine := Nat.le_trans h (by decide)
theorem szlt {n : Nat} (h : n < 1000000) : n < sizeLine := Nat.lt_of_lt_of_le h (by decide)
section
variable {G : Gm}
def oAdd : D → D → Sto → ER
  | .int i, .int j, st => .val .P (.int (i + j)) st
  | .str a, .str b, st => if a.length + b.length ≤ 1000000 then .val .P (.str (a ++ b)) st else .bad
  | .lst a, .lst b, st => if a.length + b.length ≤ 1000000 then .val .N (.lst (a ++ b)) st else .bad
  | .tup a, .tup b, st => if a.length + b.length ≤ 1000000 then .val .P (.tup (a ++ b)) st else .bad
  | _, _, _ => .bad
abbrev rAddS : R2 := fun x y H Q => ∃ i j, x = .str i ∧ y = .str j ∧ i.length + j.length ≤ sizeLine ∧ Q (.str (i ++ j)) H
abbrev rAddA (K : PySem.W.Frag) : R2 := rOr (rI0 fun i j => .int (i + j)) (rOr rAddS (rOr rCat (L2.rCatA K)))
theorem or_add {X : Cx} : OpR X (binaryOp .Add) (rAddA X.K) := opOr op_add (opOr op_add_str (opOr op_cat L2.op_catA))
theorem d_add : DOp G (rAddA G.K) oAdd := by
  intro W σ s st v w d d' k hv hw Q post
  cases d <;> cases d' <;> try exact post.elim
  case int.int i j =>
    obtain rfl := hv.int; obtain rfl := hw.int
    exact .inl ⟨i, j, rfl, rfl, post.now k (.int _)⟩
  case str.str a b =>
    obtain rfl := hv.str; obtain rfl := hw.str
    obtain ⟨h, post⟩ := RPost.cond (a.length + b.length ≤ 1000000) (.val .P (.str (a ++ b)) st) post
    exact .inr (.inl ⟨a, b, rfl, rfl, sz h, post.now k (.str _)⟩)
  case lst.lst a b =>
    obtain ⟨p, vs, rfl, hp, hl⟩ := hv.lst k.sf
    obtain ⟨q, ws, rfl, hq, hm⟩ := hw.lst k.sf
    obtain ⟨h, post⟩ := RPost.cond (a.length + b.length ≤ 1000000) (.val .N (.lst (a ++ b)) st) post
    exact .inr (.inr (.inl ⟨p, q, vs, ws, rfl, rfl, hp, hq, by rw [hl.len, hm.len]; exact sz h, fun r hr => post.newL k (hl.append hm) hr⟩))
  case tup.tup a b =>
    obtain ⟨p, vs, rfl, hp, hl⟩ := hv.tup k.sf
    obtain ⟨q, ws, rfl, hq, hm⟩ := hw.tup k.sf
    obtain ⟨h, post⟩ := RPost.cond (a.length + b.length ≤ 1000000) (.val .P (.tup (a ++ b)) st) post
    refine .inr (.inr (.inr ⟨p, q, vs, ws, rfl, rfl, hp, hq, by rw [hl.len, hm.len]; exact sz h, fun z => ?_, fun _ z => ?_, fun _ _ r hr => post.newT k (hl.append hm) hr⟩))
    · have : a = [] := by have := hl.len; subst z; exact List.length_eq_zero_iff.mp this.symm
      subst this; exact post.now k hw.tupI
    · have : b = [] := by have := hm.len; subst z; exact List.length_eq_zero_iff.mp this.symm
      subst this; rw [List.append_nil] at post; exact post.now k hv.tupI
def oSub : D → D → Sto → ER
  | .int i, .int j, st => .val .P (.int (i - j)) st
  | _, _, _ => .bad
theorem d_sub : DOp G (rI0 fun i j => .int (i - j)) oSub := by
  intro W σ s st v w d d' k hv hw Q post
  cases d <;> cases d' <;> try exact post.elim
  obtain rfl := hv.int; obtain rfl := hw.int
  exact ⟨_, _, rfl, rfl, post.now k (.int _)⟩
theorem IsL.rep {as : List Addr} {H : Hp} {vs : List V} {l : List D} (h : IsL G as H vs l) : ∀ n : Nat, IsL G as H (List.replicate n vs).flatten (List.replicate n l).flatten
  | 0 => .nil
  | n + 1 => by
    rw [List.replicate_succ, List.replicate_succ, List.flatten_cons, List.flatten_cons]
    exact h.append (IsL.rep h n)
def oMul : D → D → Sto → ER
  | .int i, .int j, st => if i.natAbs.log2 + j.natAbs.log2 < 1000000 then .val .P (.int (i * j)) st else .bad
  | .lst a, .int k, st => if -(2 ^ 63) ≤ k ∧ k < 2 ^ 63 ∧ a.length * k.toNat ≤ 1000000 then .val .N (.lst (List.replicate k.toNat a).flatten) st else .bad
  | _, _, _ => .bad
abbrev rMulA : R2 := rOr (rI CMulW fun i j => .int (i * j)) rRep
theorem or_mul {X : Cx} : OpR X (binaryOp .Mult) rMulA := opOr op_mulW op_rep
theorem d_mul : DOp G rMulA oMul := by
  intro W σ s st v w d d' k hv hw Q post
  cases d <;> cases d' <;> try exact post.elim
  case int.int i j =>
    obtain rfl := hv.int; obtain rfl := hw.int
    obtain ⟨h, post⟩ := RPost.cond (i.natAbs.log2 + j.natAbs.log2 < 1000000) (.val .P (.int (i * j)) st) post
    exact .inl ⟨_, _, rfl, rfl, h, post.now k (.int _)⟩
  case lst.int a n =>
    obtain ⟨p, vs, rfl, hp, hl⟩ := hv.lst k.sf
    obtain rfl := hw.int
    obtain ⟨h, post⟩ := RPost.cond (-(2 ^ 63) ≤ n ∧ n < 2 ^ 63 ∧ a.length * n.toNat ≤ 1000000) (.val .N (.lst (List.replicate n.toNat a).flatten) st) post
    exact .inr ⟨p, n, vs, rfl, rfl, hp, h.1, h.2.1, by rw [hl.len]; exact sz h.2.2, fun r hr => post.newL k (hl.rep _) hr⟩
def oDiv : D → D → Sto → ER
  | .int i, .int j, st => if j ≠ 0 ∧ j.natAbs.log2 < 9000 then .val .P (.int (i.fdiv j)) st else .bad
  | _, _, _ => .bad
theorem or_div {X : Cx} : OpR X (binaryOp .FloorDiv) (rI (fun _ j => j ≠ 0 ∧ j.natAbs.log2 < 9000) fun i j => .int (i.fdiv j)) := opI fun i j _ _ _ _ _ hc q => floordiv_int hc.1 q (.inl (PyProof.noPylong_of_log2 hc.2))
theorem d_div : DOp G (rI (fun _ j => j ≠ 0 ∧ j.natAbs.log2 < 9000) fun i j => .int (i.fdiv j)) oDiv := by
  intro W σ s st v w d d' k hv hw Q post
  cases d <;> cases d' <;> try exact post.elim
  rename_i i j
  obtain rfl := hv.int; obtain rfl := hw.int
  obtain ⟨h, post⟩ := RPost.cond (j ≠ 0 ∧ j.natAbs.log2 < 9000) (.val .P (.int (i.fdiv j)) st) post
  exact ⟨_, _, rfl, rfl, h, post.now k (.int _)⟩
def oMod : D → D → Sto → ER
  | .int i, .int j, st => if j ≠ 0 then .val .P (.int (i.fmod j)) st else .bad
  | _, _, _ => .bad
theorem d_mod : DOp G (rI (fun _ j => j ≠ 0) fun i j => .int (i.fmod j)) oMod := by
  intro W σ s st v w d d' k hv hw Q post
  cases d <;> cases d' <;> try exact post.elim
  rename_i i j
  obtain rfl := hv.int; obtain rfl := hw.int
  obtain ⟨h, post⟩ := RPost.cond (j ≠ 0) (.val .P (.int (i.fmod j)) st) post
  exact ⟨_, _, rfl, rfl, h, post.now k (.int _)⟩
def oPow : D → D → Sto → ER
  | .int i, .int j, st => if 0 ≤ j ∧ j ≤ 1000000 ∧ i.natAbs < 2 ^ 64 then .val .P (.int (i ^ j.toNat)) st else .bad
  | _, _, _ => .bad
theorem d_pow : DOp G (rI CPow fun i j => .int (i ^ j.toNat)) oPow := by
  intro W σ s st v w d d' k hv hw Q post
  cases d <;> cases d' <;> try exact post.elim
  rename_i i j
  obtain rfl := hv.int; obtain rfl := hw.int
  obtain ⟨h, post⟩ := RPost.cond (0 ≤ j ∧ j ≤ 1000000 ∧ i.natAbs < 2 ^ 64) (.val .P (.int (i ^ j.toNat)) st) post
  exact ⟨_, _, rfl, rfl, h, post.now k (.int _)⟩
def oCmp (p : Int → Int → Bool) : D → D → Sto → ER
  | .int i, .int j, st => .val .P (.bl (p i j)) st
  | _, _, _ => .bad
theorem d_cmp {p : Int → Int → Bool} : DOp G (rI0 fun i j => .bl (p i j)) (oCmp p) := by
  intro W σ s st v w d d' k hv hw Q post
  cases d <;> cases d' <;> try exact post.elim
  obtain rfl := hv.int; obtain rfl := hw.int
  exact ⟨_, _, rfl, rfl, post.now k (.bl _)⟩
abbrev oLt := oCmp fun i j => decide (i < j)
abbrev oLe := oCmp fun i j => decide (i ≤ j)
abbrev oGt := oCmp fun i j => decide (j < i)
abbrev oGe := oCmp fun i j => decide (j ≤ i)
theorem d_lt : DOp G (rI0 fun i j => .bl (decide (i < j))) oLt := d_cmp
theorem d_le : DOp G (rI0 fun i j => .bl (decide (i ≤ j))) oLe := d_cmp
theorem d_gt : DOp G (rI0 fun i j => .bl (decide (j < i))) oGt := d_cmp
theorem d_ge : DOp G (rI0 fun i j => .bl (decide (j ≤ i))) oGe := d_cmp
def isNon : D → Bool
  | .non => true
  | _ => false
def oIsN (a b : D) (st : Sto) : ER := match b with
  | .non => .val .P (.bl (isNon a)) st
  | _ => .bad
def oNotN (a b : D) (st : Sto) : ER := match b with
  | .non => .val .P (.bl (!isNon a)) st
  | _ => .bad
theorem isN_of {s : Hs} {v : V} {d : D} (h : U G s v d) : decide (v = .non) = isNon d := by
  rcases h with h | ⟨p, vs, l', rfl, rfl, _⟩
  · cases h <;> simp [isNon]
  · simp [isNon]
theorem d_isN : DOp G (fun x y H Q => y = .non ∧ Q (.bl (decide (x = .non))) H) oIsN := by
  intro W σ s st v w d d' k hv hw Q post
  cases d' <;> try exact post.elim
  obtain rfl := hw.non
  exact ⟨rfl, by rw [isN_of hv]; exact RPost.now k post (.bl _)⟩
mutual
def py : D → PyData
  | .non => .none
  | .bl b => .bool b
  | .int i => .int i
  | .str x => .str x
  | .tup l => .tuple (pyL l)
  | .lst l => .list (pyL l)
  | .obj _ _ => .none
  | .scr _ => .none
  | .ptr _ => .none
def pyL : List D → List PyData
  | [] => []
  | d :: l => py d :: pyL l
end
mutual
def isPy : D → Bool
  | .non | .bl _ | .int _ | .str _ => true
  | .tup l => isPyL l
  | .lst l => isPyL l
  | .obj _ _ => false
  | .scr _ => false
  | .ptr _ => false
def isPyL : List D → Bool
  | [] => true
  | d :: l => isPy d && isPyL l
end
mutual
theorem dp_of {as : List Addr} {f H : Hp} (s : Same f H) : ∀ (d : D) {v : V}, isPy d = true → Is G as f v d → Dp G.K H v (py d)
  | .non, _, _, h => by cases h; exact .non
  | .bl _, _, _, h => by cases h; exact .bl _
  | .int _, _, _, h => by cases h; exact .int _
  | .str _, _, _, h => by cases h; exact .str _
  | .tup l, _, q, h => by cases h with | tup a b => exact .tup (same_t s a) (dpL_of s l (by simpa [isPy] using q) b)
  | .lst l, _, q, h => by cases h with | lst a b => exact .lst (SqL.of (s _ _ a)) (dpL_of s l (by simpa [isPy] using q) b)
  | .obj _ _, _, q, _ => by simp [isPy] at q
  | .scr _, _, q, _ => by simp [isPy] at q
  | .ptr _, _, q, _ => by simp [isPy] at q
theorem dpL_of {as : List Addr} {f H : Hp} (s : Same f H) : ∀ (l : List D) {vs : List V}, isPyL l = true → IsL G as f vs l → DpAll G.K H vs (pyL l)
  | [], _, _, h => by cases h; exact .nil
  | d :: l, _, q, h => by
    cases h with
    | cons a b =>
      have q' : isPy d = true ∧ isPyL l = true := by simpa [isPyL] using q
      exact .cons (dp_of s d q'.1 a) (dpL_of s l q'.2 b)
end
theorem dp_u {s : Hs} {v : V} {d : D} (sm : Same s.f s.h) (q : isPy d = true) (h : U G s v d) : Dp G.K s.h v (py d) := by
  rcases h with h | ⟨p, vs, l, rfl, rfl, c, e, _⟩
  · exact dp_of sm d q h
  · exact .lst (SqL.of c) (dpL_of sm l (by simpa [isPy] using q) e)
def scalD : D → D → Bool
  | .non, .non | .non, .int _ | .int _, .non | .non, .bl _ | .bl _, .non | .non, .str _ | .str _, .non => true
  | .int _, .int _ | .bl _, .bl _ | .str _, .str _ | .int _, .str _ | .str _, .int _ | .bl _, .str _ | .str _, .bl _ => true
  | _, _ => false
def eqF : D → D → Bool
  | .non, .non => true
  | .int i, .int j => decide (i = j)
  | .bl i, .bl j => decide (i = j)
  | .str i, .str j => decide (i = j)
  | _, _ => false
def eqAny (a b : D) : Option Bool :=
  if scalD a b = true then some (eqF a b)
  else if isPy a = true ∧ isPy b = true ∧ SeqAt.shaped (py a) = true ∧ SeqAt.shaped (py b) = true then some (PyData.eqv (py a) (py b))
  else none
def oEq (a b : D) (st : Sto) : ER := match eqAny a b with | some r => .val .P (.bl r) st | none => .bad
def oNe (a b : D) (st : Sto) : ER := match eqAny a b with | some r => .val .P (.bl (!r)) st | none => .bad
abbrev rEqA (K : PySem.W.Frag) : R2 := rOr rEq (rEqD K)
abbrev rNeA (K : PySem.W.Frag) : R2 := rOr rNe (rNeD K)
theorem or_eq {X : Cx} (hu : X.A.units + 64 < cLine) : OpR X (compareOp .Eq) (rEqA X.K) := opOr op_eq (op_eqD hu)
theorem or_ne {X : Cx} (hu : X.A.units + 64 < cLine) : OpR X (compareOp .NotEq) (rNeA X.K) := opOr op_ne (op_neD hu)
theorem scal_of {s : Hs} {v w : V} {a b : D} (h : scalD a b = true) (hv : U G s v a) (hw : U G s w b) : scal v w = true ∧ decide (v = w) = eqF a b := by
  cases a <;> cases b <;> simp only [scalD] at h <;> first
    | (exact absurd h Bool.false_ne_true)
    | skip
  all_goals (first | obtain rfl := hv.int | obtain rfl := hv.str | obtain rfl := hv.bl | obtain rfl := hv.non)
  all_goals (first | obtain rfl := hw.int | obtain rfl := hw.str | obtain rfl := hw.bl | obtain rfl := hw.non)
  all_goals (refine ⟨rfl, ?_⟩; simp [eqF])
theorem d_eq : DOp G (rEqA G.K) oEq := by
  intro W σ s st v w d d' k hv hw Q post
  unfold oEq eqAny at post
  by_cases h : scalD d d' = true
  · obtain ⟨h1, h2⟩ := scal_of h hv hw
    rw [if_pos h] at post
    exact .inl ⟨h1, by rw [h2]; exact RPost.now k post (.bl _)⟩
  · rw [if_neg h] at post
    split at post
    · rename_i r hr
      split at hr
      · rename_i q
        cases hr
        exact .inr ⟨py d, py d', dp_u k.sf q.1 hv, dp_u k.sf q.2.1 hw, q.2.2.1, q.2.2.2, post.now k (.bl _)⟩
      · cases hr
    · exact post.elim
theorem d_ne : DOp G (rNeA G.K) oNe := by
  intro W σ s st v w d d' k hv hw Q post
  unfold oNe eqAny at post
  by_cases h : scalD d d' = true
  · obtain ⟨h1, h2⟩ := scal_of h hv hw
    rw [if_pos h] at post
    exact .inl ⟨h1, by rw [h2]; exact RPost.now k post (.bl _)⟩
  · rw [if_neg h] at post
    split at post
    · rename_i r hr
      split at hr
      · rename_i q
        cases hr
        exact .inr ⟨py d, py d', dp_u k.sf q.1 hv, dp_u k.sf q.2.1 hw, q.2.2.1, q.2.2.2, post.now k (.bl _)⟩
      · cases hr
    · exact post.elim
def stLst (st : Sto) (n : Nat) : Option (List D) := match st[n]? with
  | some (.lst l) => some l
  | _ => none
theorem StOk.lst {s : Hs} {st : Sto} {n : Nat} {l : List D} {p : Addr} (k : StOk G s st) (ha : s.as[n]? = some p) (h : stLst st n = some l) : ∃ vs, s.h p = some (.lst vs) ∧ IsL G s.as s.f vs l := by
  unfold stLst at h
  split at h
  · rename_i l' q
    cases h
    exact k.ob n p _ ha q
  · cases h
def oIx : D → D → Sto → ER
  | .lst l, .int i, st => ofOpt (atI l i) fun d => .val .P d st
  | .tup l, .int i, st => ofOpt (atI l i) fun d => .val .P d st
  | .scr l, .int i, st => ofOpt (atI l i) fun d => .val .P (.int d) st
  | .str z, .int i, st => if z.length ≤ 1000000 then ofOpt (atI z.cps.toList i) (fun c => .val .P (.str ⟨#[c]⟩) st) else .bad
  | .ptr n, .int i, st => ofOpt (stLst st n) fun l => ofOpt (atI l i) fun d => .val .P d st
  | _, _, _ => .bad
theorem atI_L {as : List Addr} {H : Hp} {vs : List V} {l : List D} {i : Int} {d : D} (h : IsL G as H vs l) (e : atI l i = some d) : ∃ v, atI vs i = some v ∧ Is G as H v d := by
  unfold atI at e ⊢
  rw [h.len]
  cases q : ixN l.length i with
  | none => rw [q] at e; cases e
  | some j =>
    rw [q] at e
    exact h.get e
theorem atI_map {l : List Int} {i : Int} {d : Int} (e : atI l i = some d) : atI (l.map V.int) i = some (V.int d) := by
  unfold atI at e ⊢
  rw [List.length_map]
  cases q : ixN l.length i with
  | none => rw [q] at e; cases e
  | some j =>
    rw [q] at e
    have e' : l[j]? = some d := e
    show (l.map V.int)[j]? = some (V.int d)
    rw [List.getElem?_map, e']
    rfl
theorem d_ix : DOp G (rIx G.K) oIx := by
  intro W σ s st v w d d' k hv hw Q post
  cases d <;> cases d' <;> try exact post.elim
  case lst.int l i =>
    obtain ⟨p, vs, rfl, hp, hl⟩ := hv.lst k.sf
    obtain rfl := hw.int
    obtain ⟨y, q, post⟩ := RPost.opt (atI l i) (fun d => .val .P d st) post
    obtain ⟨x, h1, h2⟩ := atI_L hl q
    exact .inl ⟨p, vs, i, x, rfl, rfl, SqL.of hp, h1, post.now k h2⟩
  case ptr.int n i =>
    obtain ⟨p, rfl, hp⟩ := hv.ptr
    obtain rfl := hw.int
    obtain ⟨l, ql, post⟩ := RPost.opt (stLst st n) (fun l => ofOpt (atI l i) fun d => .val .P d st) post
    obtain ⟨y, q, post⟩ := RPost.opt (atI l i) (fun d => .val .P d st) post
    obtain ⟨vs, hh, hl⟩ := k.lst hp ql
    obtain ⟨x, h1, h2⟩ := atI_L hl q
    exact .inl ⟨p, vs, i, x, rfl, rfl, SqL.of hh, h1, post.now k h2⟩
  case tup.int l i =>
    obtain ⟨p, vs, rfl, hp, hl⟩ := hv.tup k.sf
    obtain rfl := hw.int
    obtain ⟨y, q, post⟩ := RPost.opt (atI l i) (fun d => .val .P d st) post
    obtain ⟨x, h1, h2⟩ := atI_L hl q
    exact .inr (.inl ⟨p, vs, i, x, rfl, rfl, hp, h1, post.now k h2⟩)
  case scr.int l i =>
    obtain ⟨p, rfl, hp⟩ := hv.scr k.sf
    obtain rfl := hw.int
    obtain ⟨y, q, post⟩ := RPost.opt (atI l i) (fun d => .val .P (.int d) st) post
    exact .inl ⟨p, _, i, _, rfl, rfl, hp, atI_map q, post.now k (.int _)⟩
  case str.int z i =>
    obtain rfl := hv.str; obtain rfl := hw.int
    obtain ⟨h, post⟩ := RPost.cond (z.length ≤ 1000000) (ofOpt (atI z.cps.toList i) (fun c => .val .P (.str ⟨#[c]⟩) st)) post
    obtain ⟨c, q, post⟩ := RPost.opt (atI z.cps.toList i) (fun c => .val .P (.str ⟨#[c]⟩) st) post
    exact .inr (.inr ⟨z, i, c, rfl, rfl, sz h, q, post.now k (.str _)⟩)
end
section
variable {G : Gm} {W : WX}
def dVar (i : Nat) : En → ER := fun E => match E.e[i]? with
  | some (.val d) => .val .P d E.st
  | some (.own l) => .val .B (.lst l) E.st
  | _ => .bad
theorem v_var {i : Nat} : DEv G W (tVar i) (dVar i) := by
  intro s t σ e st E k Q post
  unfold dVar at post
  split at post
  · rename_i d q
    obtain ⟨o, h1, v, rfl, h2⟩ := E.slot q
    exact ⟨v, h1, post.now k h2⟩
  · rename_i l q
    obtain ⟨o, h1, p, vs, rfl, a, b, c, d, f⟩ := E.slot q
    exact ⟨_, h1, post t _ (Gro.refl k) k ⟨p, vs, l, rfl, rfl, c, d, f⟩⟩
  · exact post.elim
def dC (d : D) : En → ER := fun E => .val .P d E.st
theorem v_int {n : Int} : DEv G W (tC (.int n)) (dC (.int n)) := fun _ _ _ _ _ _ k _ post => RPost.now k post (.int _)
theorem v_bl {n : Bool} : DEv G W (tC (.bl n)) (dC (.bl n)) := fun _ _ _ _ _ _ k _ post => RPost.now k post (.bl _)
theorem v_non : DEv G W (tC .non) (dC .non) := fun _ _ _ _ _ _ k _ post => RPost.now k post .non
theorem v_const {v : V} {d : D} (h : ∀ as H, Is G as H v d) : DEv G W (tC v) (dC d) := fun _ _ _ _ _ _ k _ post => RPost.now k post (h _ _)
def dOp (o : D → D → Sto → ER) (f g : En → ER) : En → ER := fun E => (f E).bind fun x st => (g ⟨E.e, st⟩).bind fun y st => o x y st
theorem v_op {r : R2} {o : D → D → Sto → ER} {ta tb : TE} {f g : En → ER} (hr : DOp G r o) (ha : DEv G W ta f) (hb : DEv G W tb g) : DEv G W (tOp r ta tb) (dOp o f g) := by
  intro s t σ e st E k Q post
  refine ha s t σ e st E k _ (RPost.bind post fun m d st1 t1 v g1 k1 o1 p1 => ?_)
  refine hb s t1 σ e st1 (E.up g1) k1 _ (RPost.bind p1 fun m2 d2 st2 t2 w g2 k2 o2 p2 => ?_)
  exact hr W σ t2 st2 v w d d2 k2 ((o1.up g2).u) o2.u Q p2
def DUn (G : Gm) (r : V → Hp → VK → Prop) (o : D → Sto → ER) : Prop :=
  ∀ (W : WX) (σ : L2.St) (s : Hs) (st : Sto) (v : V) (d : D), StOk G s st → U G s v d → ∀ Q : VK, RPost G W s σ Q (o d st) → r v s.h Q
def dUn (o : D → Sto → ER) (f : En → ER) : En → ER := fun E => (f E).bind o
theorem v_un {r : V → Hp → VK → Prop} {o : D → Sto → ER} {ta : TE} {f : En → ER} (hr : DUn G r o) (ha : DEv G W ta f) : DEv G W (tUn r ta) (dUn o f) := by
  intro s t σ e st E k Q post
  refine ha s t σ e st E k _ (RPost.bind post fun m d st1 t1 v g1 k1 o1 p1 => ?_)
  exact hr W σ t1 st1 v d k1 o1.u Q p1
def oNeg : D → Sto → ER
  | .int i, st => .val .P (.int (-i)) st
  | _, _ => .bad
theorem d_neg : DUn G (rU fun i => .int (-i)) oNeg := by
  intro W σ s st v d k hv Q post
  cases d <;> try exact post.elim
  obtain rfl := hv.int
  exact ⟨_, rfl, post.now k (.int _)⟩
def TPost (G : Gm) (W : WX) (s : Hs) (σ : L2.St) (Q : Bool → Hp → Prop) : ER → Prop
  | .val _ (.bl b) st => ∀ t, Gro s t → StOk G t st → Q b t.h
  | .exc c l st => ∀ t x, Gro s t → StOk G t st → ExcOk G t c l x → W (.ref (G.ca c)) x σ t.h
  | _ => False
def DTt (G : Gm) (W : WX) (tt : TT) (f : En → ER) : Prop :=
  ∀ s t σ e st, EnvOk G s t σ e → StOk G t st → ∀ Q : Bool → Hp → Prop, TPost G W t σ Q (f ⟨e, st⟩) → tt σ t.h Q
theorem TPost.step {s t : Hs} {σ : L2.St} {Q : Bool → Hp → Prop} {r : ER} (g : Gro s t) (h : TPost G W s σ Q r) : TPost G W t σ Q r := by
  cases r with
  | val m d st =>
    cases d <;> first | exact h.elim | skip
    exact fun u g' => h u (g.trans g')
  | exc c l st => exact fun u x g' => h u x (g.trans g')
  | bad => exact h
def ER.bindB (r : ER) (k : Bool → Sto → ER) : ER := match r with
  | .val _ (.bl b) st => k b st
  | .exc c l st => .exc c l st
  | _ => .bad
@[simp] theorem ER.bindB_val (m : Md) (b : Bool) (st : Sto) (k : Bool → Sto → ER) : (ER.val m (.bl b) st).bindB k = k b st := rfl
@[simp] theorem ER.bindB_exc (c : Nat) (l : List D) (st : Sto) (k : Bool → Sto → ER) : (ER.exc c l st).bindB k = .exc c l st := rfl
@[simp] theorem ER.bindB_bad (k : Bool → Sto → ER) : ER.bad.bindB k = .bad := rfl
theorem t_val {te : TE} {f : En → ER} (h : DEv G W te f) : DTt G W (tB te) f := by
  intro s t σ e st E k Q post
  refine h s t σ e st E k _ ?_
  cases q : f ⟨e, st⟩ with
  | val m d st' =>
    rw [q] at post
    intro t' v g k' o
    cases d <;> first | exact post.elim | skip
    obtain rfl := o.u.bl
    exact ⟨_, rfl, post t' g k'⟩
  | exc c l st' => rw [q] at post; exact post
  | bad => rw [q] at post; exact post
theorem t_test {te : TE} {f : En → ER} (h : DEv G W te f) : DTt G W (tTest te) f := t_val h
theorem TPost.bindB {s : Hs} {σ : L2.St} {Q Q' : Bool → Hp → Prop} {r : ER} {k : Bool → Sto → ER} (h : TPost G W s σ Q (r.bindB k)) (hk : ∀ b st t, Gro s t → StOk G t st → TPost G W t σ Q (k b st) → Q' b t.h) : TPost G W s σ Q' r := by
  cases r with
  | val m d st =>
    cases d <;> first | exact h.elim | skip
    exact fun t g k' => hk _ st t g k' (TPost.step g h)
  | exc c l st => exact h
  | bad => exact h
def dAnd (f g : En → ER) : En → ER := fun E => (f E).bindB fun b st => if b = true then g ⟨E.e, st⟩ else .val .P (.bl false) st
def dOr (f g : En → ER) : En → ER := fun E => (f E).bindB fun b st => if b = true then .val .P (.bl true) st else g ⟨E.e, st⟩
def dNot (f : En → ER) : En → ER := fun E => (f E).bindB fun b st => .val .P (.bl (!b)) st
theorem TPost.of {s : Hs} {st : Sto} {σ : L2.St} {Q : Bool → Hp → Prop} {b : Bool} (k : StOk G s st) (h : TPost G W s σ Q (.val .P (.bl b) st)) : Q b s.h := h s (Gro.refl k) k
theorem t_and {t u : TT} {f g : En → ER} (ht : DTt G W t f) (hu : DTt G W u g) : DTt G W (tAnd t u) (dAnd f g) := by
  intro s t σ e st E k Q post
  refine ht s t σ e st E k _ (TPost.bindB post fun b st1 t1 g1 k1 p1 => ?_)
  cases b with
  | true => exact iteT (hu s t1 σ e st1 (E.up g1) k1 Q p1)
  | false => exact iteF (TPost.of k1 p1)
theorem t_or {t u : TT} {f g : En → ER} (ht : DTt G W t f) (hu : DTt G W u g) : DTt G W (tOr t u) (dOr f g) := by
  intro s t σ e st E k Q post
  refine ht s t σ e st E k _ (TPost.bindB post fun b st1 t1 g1 k1 p1 => ?_)
  cases b with
  | false => exact iteF (hu s t1 σ e st1 (E.up g1) k1 Q p1)
  | true => exact iteT (TPost.of k1 p1)
theorem t_not {t : TT} {f : En → ER} (ht : DTt G W t f) : DTt G W (tNot t) (dNot f) := by
  intro s t σ e st E k Q post
  exact ht s t σ e st E k _ (TPost.bindB post fun b st1 t1 g1 k1 p1 => TPost.of k1 p1)
theorem RPost.bindB {s : Hs} {σ : L2.St} {Q Q' : VK} {r : ER} {k : Bool → Sto → ER} (h : RPost G W s σ Q (r.bindB k))
    (hk : ∀ b st t, Gro s t → StOk G t st → RPost G W t σ Q (k b st) → Q' (.bl b) t.h) : RPost G W s σ Q' r := by
  cases r with
  | val m d st =>
    cases d <;> first | exact h.elim | skip
    intro t v g k' o
    obtain rfl := o.u.bl
    exact hk _ st t g k' (RPost.step g k' h)
  | exc c l st => exact h
  | bad => exact h
theorem v_and {ta tb : TE} {f g : En → ER} (ha : DEv G W ta f) (hb : DEv G W tb g) : DEv G W (tAndV ta tb) (dAnd f g) := by
  intro s t σ e st E k Q post
  refine ha s t σ e st E k _ (RPost.bindB post fun b st1 t1 g1 k1 p1 => ?_)
  cases b with
  | true => exact ⟨true, rfl, iteT (hb s t1 σ e st1 (E.up g1) k1 Q p1)⟩
  | false => exact ⟨false, rfl, iteF (RPost.now k1 p1 (.bl _))⟩
def dIf (c f g : En → ER) : En → ER := fun E => (c E).bindB fun b st => if b = true then f ⟨E.e, st⟩ else g ⟨E.e, st⟩
theorem TPost.thenR {s : Hs} {σ : L2.St} {Q : VK} {Q' : Bool → Hp → Prop} {r : ER} {k : Bool → Sto → ER} (h : RPost G W s σ Q (r.bindB k)) (hk : ∀ b st t, Gro s t → StOk G t st → RPost G W t σ Q (k b st) → Q' b t.h) : TPost G W s σ Q' r := by
  cases r with
  | val m d st =>
    cases d <;> first | exact h.elim | skip
    exact fun t g k' => hk _ st t g k' (RPost.step g k' h)
  | exc c l st => exact h
  | bad => exact h
theorem v_if {t : TT} {ta tb : TE} {c f g : En → ER} (ht : DTt G W t c) (ha : DEv G W ta f) (hb : DEv G W tb g) : DEv G W (tIf t ta tb) (dIf c f g) := by
  intro s t σ e st E k Q post
  refine ht s t σ e st E k _ (TPost.thenR post fun b st1 t1 g1 k1 p1 => ?_)
  cases b with
  | true => exact iteT (ha s t1 σ e st1 (E.up g1) k1 Q p1)
  | false => exact iteF (hb s t1 σ e st1 (E.up g1) k1 Q p1)
def dChain (o o' : D → D → Sto → ER) (f g h : En → ER) : En → ER := fun E => (f E).bind fun x st => (g ⟨E.e, st⟩).bind fun y st => (o x y st).bindB fun b st => if b = true then (h ⟨E.e, st⟩).bind fun z st => o' y z st else .val .P (.bl false) st
theorem v_chain {r r' : R2} {o o' : D → D → Sto → ER} {ta tb tc : TE} {f g h : En → ER} (hr : DOp G r o) (hr' : DOp G r' o') (ha : DEv G W ta f) (hb : DEv G W tb g) (hc : DEv G W tc h) : DEv G W (tChain r r' ta tb tc) (dChain o o' f g h) := by
  intro s t σ e st E k Q post
  refine ha s t σ e st E k _ (RPost.bind post fun m d st1 t1 v g1 k1 o1 p1 => ?_)
  refine hb s t1 σ e st1 (E.up g1) k1 _ (RPost.bind p1 fun m2 d2 st2 t2 w g2 k2 o2 p2 => ?_)
  refine hr W σ t2 st2 v w d d2 k2 ((o1.up g2).u) o2.u _ (RPost.bindB p2 fun b st3 t3 g3 k3 p3 => ?_)
  cases b with
  | false => exact ⟨false, rfl, iteF (RPost.now k3 p3 (.bl _))⟩
  | true =>
    refine ⟨true, rfl, iteT ?_⟩
    refine hc s t3 σ e st3 (((E.up g1).up g2).up g3) k3 _ (RPost.bind p3 fun m4 d4 st4 t4 u g4 k4 o4 p4 => ?_)
    exact hr' W σ t4 st4 w u d2 d4 k4 (((o2.up g3).up g4).u) o4.u Q p4
end
end Dn
namespace Dn
open PySem PySem.Spec PyProof.Rows L2
inductive UL (G : Gm) (s : Hs) : List V → List D → Prop
  | nil : UL G s [] []
  | cons {v : V} {vs : List V} {d : D} {ds : List D} : U G s v d → UL G s vs ds → UL G s (v :: vs) (d :: ds)
theorem UL.len {G : Gm} {s : Hs} : ∀ {ds : List D} {vs : List V}, UL G s vs ds → vs.length = ds.length
  | [], _, h => by cases h; rfl
  | d :: ds, _, h => by cases h with | cons a b => exact congrArg Nat.succ b.len
theorem UL.up {G : Gm} {s t : Hs} (g : Gro s t) : ∀ {ds : List D} {vs : List V}, UL G s vs ds → UL G t vs ds
  | [], _, h => by cases h; exact .nil
  | d :: ds, _, h => by cases h with | cons a b => exact .cons (a.up g) (UL.up g b)
inductive AR where | ok (p : Bool) (l : List D) (st : Sto) | exc (c : Nat) (l : List D) (st : Sto) | bad
def APost (G : Gm) (W : WX) (s : Hs) (σ : L2.St) (Q : List V → Hp → Prop) : AR → Prop
  | .ok p l st => ∀ t vs, Gro s t → StOk G t st → (p = true → IsL G t.as t.f vs l) → UL G t vs l → Q vs t.h
  | .exc c l st => ∀ t x, Gro s t → StOk G t st → ExcOk G t c l x → W (.ref (G.ca c)) x σ t.h
  | .bad => False
theorem APost.step {G : Gm} {W : WX} {s t : Hs} {σ : L2.St} {Q : List V → Hp → Prop} {r : AR} (g : Gro s t) (h : APost G W s σ Q r) : APost G W t σ Q r := by
  cases r with
  | ok p l st => exact fun u v g' => h u v (g.trans g')
  | exc c l st => exact fun u x g' => h u x (g.trans g')
  | bad => exact h
def AR.cons (p : Bool) (d : D) : AR → AR
  | .ok q l st => .ok (p && q) (d :: l) st
  | .exc c l st => .exc c l st
  | .bad => .bad
def ER.cons (r : ER) (a : Sto → AR) : AR := match r with
  | .val .B d st => (a st).cons false d
  | .val .P d st => (a st).cons true d
  | .val .N d st => (a st).cons true d
  | .exc c l st => .exc c l st
  | .bad => .bad
def DAr (G : Gm) (W : WX) (ta : TA) (f : En → AR) : Prop :=
  ∀ s t σ e st, EnvOk G s t σ e → StOk G t st → ∀ Q : List V → Hp → Prop, APost G W t σ Q (f ⟨e, st⟩) → ta σ t.h Q
section
variable {G : Gm} {W : WX}
def aNil : En → AR := fun E => .ok true [] E.st
theorem a_nil : DAr G W tNil aNil := fun _ t _ _ _ _ k _ post => post t [] (Gro.refl k) k (fun _ => .nil) .nil
def aCons (f : En → ER) (g : En → AR) : En → AR := fun E => (f E).cons fun st => g ⟨E.e, st⟩
theorem APost.consP {s : Hs} {σ : L2.St} {Q : List V → Hp → Prop} {d : D} {v : V} {a : AR} (h : APost G W s σ Q (a.cons true d)) (hv : Is G s.as s.f v d) : APost G W s σ (fun xs H2 => Q (v :: xs) H2) a := by
  cases a with
  | ok p l st => exact fun t vs g k q u => h t (v :: vs) g k (fun z => .cons (hv.up g.a g.f) (q (by simpa using z))) (.cons (.inl (hv.up g.a g.f)) u)
  | exc c l st => exact h
  | bad => exact h
theorem APost.consB {s : Hs} {σ : L2.St} {Q : List V → Hp → Prop} {d : D} {v : V} {a : AR} (h : APost G W s σ Q (a.cons false d)) (hv : U G s v d) : APost G W s σ (fun xs H2 => Q (v :: xs) H2) a := by
  cases a with
  | ok p l st => exact fun t vs g k q u => h t (v :: vs) g k (fun z => by simp at z) (.cons (hv.up g) u)
  | exc c l st => exact h
  | bad => exact h
theorem a_cons {te : TE} {tr : TA} {f : En → ER} {g : En → AR} (ha : DEv G W te f) (hr : DAr G W tr g) : DAr G W (tCons te tr) (aCons f g) := by
  intro s t σ e st E k Q post
  refine ha s t σ e st E k _ ?_
  unfold aCons at post
  cases q : f ⟨e, st⟩ with
  | val m d st1 =>
    rw [q] at post
    intro t1 v g1 k1 o1
    cases m with
    | P => exact hr s t1 σ e st1 (E.up g1) k1 _ (APost.consP (APost.step g1 post) o1)
    | B => exact hr s t1 σ e st1 (E.up g1) k1 _ (APost.consB (APost.step g1 post) o1.u)
    | N =>
      obtain ⟨f2, g2, k2, _, i2⟩ := o1.freeze g1 k1 (by decide)
      exact hr s ⟨t1.as, f2, t1.h⟩ σ e st1 (E.up g2) k2 _ (APost.consP (APost.step g2 post) i2)
  | exc c l st1 => rw [q] at post; exact post
  | bad => rw [q] at post; exact post
def dTup (f : En → AR) : En → ER := fun E => match f E with
  | .ok true l st => if l.length ≤ 1000000 then .val .P (.tup l) st else .bad
  | .exc c l st => .exc c l st
  | _ => .bad
theorem v_tup {ta : TA} {f : En → AR} (h : DAr G W ta f) : DEv G W (tTup ta) (dTup f) := by
  intro s t σ e st E k Q post
  refine h s t σ e st E k _ ?_
  unfold dTup at post
  cases q : f ⟨e, st⟩ with
  | ok p l st1 =>
    rw [q] at post
    cases p with
    | false => exact post.elim
    | true =>
      obtain ⟨c, post⟩ := RPost.cond _ _ post
      exact fun t1 vs g1 k1 i1 u1 => ⟨by rw [u1.len]; exact sz c, fun p hp => (RPost.step g1 k1 post).newT k1 (i1 rfl) hp⟩
  | exc c l st1 => rw [q] at post; exact post
  | bad => rw [q] at post; exact post
def dLst (f : En → AR) : En → ER := fun E => match f E with
  | .ok true l st => if l.length ≤ 1000000 then .val .N (.lst l) st else .bad
  | .exc c l st => .exc c l st
  | _ => .bad
theorem v_lst {ta : TA} {f : En → AR} (h : DAr G W ta f) : DEv G W (tLst ta) (dLst f) := by
  intro s t σ e st E k Q post
  refine h s t σ e st E k _ ?_
  unfold dLst at post
  cases q : f ⟨e, st⟩ with
  | ok p l st1 =>
    rw [q] at post
    cases p with
    | false => exact post.elim
    | true =>
      obtain ⟨c, post⟩ := RPost.cond _ _ post
      exact fun t1 vs g1 k1 i1 u1 => ⟨by rw [u1.len]; exact sz c, fun p hp => (RPost.step g1 k1 post).newL k1 (i1 rfl) hp⟩
  | exc c l st1 => rw [q] at post; exact post
  | bad => rw [q] at post; exact post
def dPut (f : En → ER) : En → ER := fun E => match f E with
  | .val .N (.lst l) st => .val .P (.ptr st.length) (st ++ [.lst l])
  | .exc c l st => .exc c l st
  | _ => .bad
theorem v_put {te : TE} {f : En → ER} (h : DEv G W te f) : DEv G W te (dPut f) := by
  intro s t σ e st E k Q post
  refine h s t σ e st E k _ ?_
  unfold dPut at post
  cases q : f ⟨e, st⟩ with
  | val m d st1 =>
    rw [q] at post
    cases m with
    | P => cases d <;> exact post.elim
    | B => cases d <;> exact post.elim
    | N =>
      intro t1 v g1 k1 o1
      obtain ⟨p, vs, l, rfl, rfl, a, b, c, n, z⟩ := o1
      have k2 : StOk G ⟨t1.as ++ [p], t1.f, t1.h⟩ (st1 ++ [.lst l]) := k1.put z c ⟨vs, a, b.up (Ext.app _ _) (Same.refl _)⟩
      refine post ⟨t1.as ++ [p], t1.f, t1.h⟩ _ (g1.put k1 n z) k2 (.ptr ?_)
      show (t1.as ++ [p])[st1.length]? = some p
      rw [← k1.len, List.getElem?_append_right (Nat.le_refl _)]
      simp
  | exc c l st1 => rw [q] at post; exact post
  | bad => rw [q] at post; exact post
def spF (G : Gm) (F : List D → Sto → ER) : Sp := fun vs H Q E => ∃ (s : Hs) (ds : List D) (st : Sto), s.h = H ∧ StOk G s st ∧ IsL G s.as s.f vs ds ∧ RPost G (fun c x _ H' => E c x H') s [] Q (F ds st)
def dCall (F : List D → Sto → ER) (f : En → AR) : En → ER := fun E => match f E with
  | .ok true l st => F l st
  | .exc c l st => .exc c l st
  | _ => .bad
theorem RPost.w {W' : WX} {s : Hs} {σ σ' : L2.St} {Q : VK} {r : ER} (h : RPost G W s σ Q r) (hw : ∀ c x H', W c x σ H' → W' c x σ' H') : RPost G W' s σ' Q r := by
  cases r with
  | val m d st => exact h
  | exc c l st => exact fun t x g k o => hw _ _ _ (h t x g k o)
  | bad => exact h
theorem v_call {F : List D → Sto → ER} {ta : TA} {f : En → AR} (ha : DAr G W ta f) : DEv G W (tCallS (spF G F) (WE W) ta) (dCall F f) := by
  intro s t σ e st E k Q post
  refine ha s t σ e st E k _ ?_
  unfold dCall at post
  cases q : f ⟨e, st⟩ with
  | ok p l st1 =>
    rw [q] at post
    cases p with
    | true => exact fun t1 vs g1 k1 i1 u1 => ⟨t1, l, st1, rfl, k1, i1 rfl, (RPost.step g1 k1 post).w (fun c x H' h => h)⟩
    | false => exact post.elim
  | exc c l st1 => rw [q] at post; exact post
  | bad => rw [q] at post; exact post
def DCal (G : Gm) (r : List V → Hp → VK → Prop) (o : List D → Sto → ER) : Prop :=
  ∀ (W : WX) (σ : L2.St) (s : Hs) (st : Sto) (vs : List V) (ds : List D), StOk G s st → UL G s vs ds → ∀ Q : VK, RPost G W s σ Q (o ds st) → r vs s.h Q
def dCB (o : List D → Sto → ER) (f : En → AR) : En → ER := fun E => match f E with
  | .ok _ l st => o l st
  | .exc c l st => .exc c l st
  | .bad => .bad
theorem v_cb {r : List V → Hp → VK → Prop} {o : List D → Sto → ER} {ta : TA} {f : En → AR} (hr : DCal G r o) (ha : DAr G W ta f) : DEv G W (tCB r ta) (dCB o f) := by
  intro s t σ e st E k Q post
  refine ha s t σ e st E k _ ?_
  unfold dCB at post
  cases q : f ⟨e, st⟩ with
  | ok p l st1 => rw [q] at post; exact fun t1 vs g1 k1 i1 u1 => hr W σ t1 st1 vs l k1 u1 Q (RPost.step g1 k1 post)
  | exc c l st1 => rw [q] at post; exact post
  | bad => rw [q] at post; exact post
theorem UL.one {s : Hs} {vs : List V} {d : D} (h : UL G s vs [d]) : ∃ v, vs = [v] ∧ U G s v d := by
  cases h with | cons a b => cases b; exact ⟨_, rfl, a⟩
theorem UL.two {s : Hs} {vs : List V} {d e : D} (h : UL G s vs [d, e]) : ∃ v w, vs = [v, w] ∧ U G s v d ∧ U G s w e := by
  cases h with | cons a b => cases b with | cons c d => cases d; exact ⟨_, _, rfl, a, c⟩
theorem DCal.one1 {r : List V → Hp → VK → Prop} {o : List D → Sto → ER} (h0 : ∀ st, o [] st = .bad) (h2 : ∀ a b l st, o (a :: b :: l) st = .bad)
    (h : ∀ (W : WX) (σ : L2.St) (s : Hs) (st : Sto) (v : V) (d : D), StOk G s st → U G s v d → ∀ Q : VK, RPost G W s σ Q (o [d] st) → r [v] s.h Q) : DCal G r o := by
  intro W σ s st vs ds k hv Q post
  match ds, hv, post with
  | [], _, post => rw [h0] at post; exact post.elim
  | [d], hv, post => obtain ⟨v, rfl, hv1⟩ := hv.one; exact h W σ s st v d k hv1 Q post
  | a :: b :: l, _, post => rw [h2] at post; exact post.elim
def oAbs : List D → Sto → ER
  | [.int i], st => .val .P (.int (if i < 0 then -i else i)) st
  | _, _ => .bad
theorem c_abs : DCal G (fun xs H Q => ∃ i, xs = [.int i] ∧ Q (.int (if i < 0 then -i else i)) H) oAbs := by
  refine DCal.one1 (fun _ => rfl) (fun a b l _ => by cases a <;> rfl) fun W σ s st v d k hv Q post => ?_
  cases d <;> try exact post.elim
  obtain rfl := hv.int
  exact ⟨_, rfl, post.now k (.int _)⟩
def oLen : List D → Sto → ER
  | [.lst l], st => .val .P (.int l.length) st
  | [.tup l], st => .val .P (.int l.length) st
  | [.scr l], st => .val .P (.int l.length) st
  | [.ptr n], st => ofOpt (stLst st n) fun l => .val .P (.int l.length) st
  | [.str z], st => if z.length ≤ 1000000 then .val .P (.int z.length) st else .bad
  | _, _ => .bad
theorem c_len : DCal G (fun xs H Q => ∃ x n, xs = [x] ∧ LenV G.K x H n ∧ Q (.int n) H) oLen := by
  refine DCal.one1 (fun _ => rfl) (fun a b l _ => by cases a <;> rfl) fun W σ s st v d k hv Q post => ?_
  cases d <;> try exact post.elim
  case lst l =>
    obtain ⟨p, vs, rfl, hp, hl⟩ := hv.lst k.sf
    exact ⟨_, l.length, rfl, .inl ⟨vs, SqL.of hp, hl.len.symm⟩, post.now k (.int _)⟩
  case tup l =>
    obtain ⟨p, vs, rfl, hp, hl⟩ := hv.tup k.sf
    exact ⟨_, l.length, rfl, .inr ⟨vs, hp, hl.len.symm⟩, post.now k (.int _)⟩
  case scr l =>
    obtain ⟨p, rfl, hp⟩ := hv.scr k.sf
    exact ⟨_, l.length, rfl, .inl ⟨_, hp, by rw [List.length_map]⟩, post.now k (.int _)⟩
  case ptr n =>
    obtain ⟨p, rfl, hp⟩ := hv.ptr
    obtain ⟨l, ql, post⟩ := RPost.opt (stLst st n) (fun l => .val .P (.int l.length) st) post
    obtain ⟨vs, hh, hl⟩ := k.lst hp ql
    exact ⟨_, l.length, rfl, .inl ⟨vs, SqL.of hh, hl.len.symm⟩, post.now k (.int _)⟩
  case str z =>
    obtain rfl := hv.str
    obtain ⟨c, post⟩ := RPost.cond (z.length ≤ 1000000) (.val .P (.int z.length) st) post
    exact ⟨_, z.length, rfl, ⟨sz c, rfl⟩, post.now k (.int _)⟩
def oMax2 : List D → Sto → ER
  | [.int i, .int j], st => .val .P (.int (if j > i then j else i)) st
  | _, _ => .bad
def oMin2 : List D → Sto → ER
  | [.int i, .int j], st => .val .P (.int (if j < i then j else i)) st
  | _, _ => .bad
def intsOf : List D → Option (List Int)
  | [] => some []
  | .int i :: l => (intsOf l).map (i :: ·)
  | _ => none
theorem intsOf_V {as : List Addr} {H : Hp} : ∀ {l : List D} {vs : List V} {ns : List Int}, intsOf l = some ns → IsL G as H vs l → vs = ns.map V.int
  | [], _, _, h, i => by cases i; cases h; rfl
  | d :: l, _, ns, h, i => by
    cases i with
    | cons a b =>
      cases d <;> first | (cases h; done) | skip
      rename_i i
      have h' : (intsOf l).map (i :: ·) = some ns := h
      cases q : intsOf l with
      | none => rw [q] at h'; cases h'
      | some ms =>
        rw [q] at h'; cases h'
        cases a
        rw [intsOf_V q b]; rfl
def oSum : List D → Sto → ER
  | [.lst l], st => ofOpt (intsOf l) fun ns => .val .P (.int ns.sum) st
  | _, _ => .bad
theorem c_sum : DCal G (rSum G.K) oSum := by
  refine DCal.one1 (fun _ => rfl) (fun a b l _ => by cases a <;> rfl) fun W σ s st v d k hv Q post => ?_
  cases d <;> try exact post.elim
  rename_i l
  obtain ⟨p, vs, rfl, hp, hl⟩ := hv.lst k.sf
  obtain ⟨ns, h, post⟩ := RPost.opt (intsOf l) (fun ns => .val .P (.int ns.sum) st) post
  have := intsOf_V h hl
  subst this
  exact ⟨p, ns, rfl, SqL.of hp, post.now k (.int _)⟩
theorem IsL.ints {as : List Addr} {H : Hp} : ∀ (l : List Int), IsL G as H (l.map V.int) (l.map D.int)
  | [] => .nil
  | i :: l => .cons (.int i) (IsL.ints l)
def oList : List D → Sto → ER
  | [.lst l], st => .val .N (.lst l) st
  | [.tup l], st => .val .N (.lst l) st
  | [.scr l], st => .val .N (.lst (l.map .int)) st
  | [.ptr n], st => ofOpt (stLst st n) fun l => .val .N (.lst l) st
  | _, _ => .bad
theorem c_list : DCal G (fun xs H Q => ∃ p ys, xs = [.ref p] ∧ (SqL G.K H p ys ∨ SqT G.K H p ys) ∧ ∀ l, H l = none → Q (.ref l) (upd H l (.lst ys))) oList := by
  refine DCal.one1 (fun _ => rfl) (fun a b l _ => by cases a <;> rfl) fun W σ s st v d k hv Q post => ?_
  cases d <;> try exact post.elim
  case lst l =>
    obtain ⟨p, vs, rfl, hp, hl⟩ := hv.lst k.sf
    exact ⟨p, vs, rfl, .inl (SqL.of hp), fun r hr => RPost.newL k post hl hr⟩
  case tup l =>
    obtain ⟨p, vs, rfl, hp, hl⟩ := hv.tup k.sf
    exact ⟨p, vs, rfl, .inr hp, fun r hr => RPost.newL k post hl hr⟩
  case scr l =>
    obtain ⟨p, rfl, hp⟩ := hv.scr k.sf
    exact ⟨p, _, rfl, .inl hp, fun r hr => RPost.newL k post (IsL.ints _) hr⟩
  case ptr n =>
    obtain ⟨p, rfl, hp⟩ := hv.ptr
    obtain ⟨l, ql, post⟩ := RPost.opt (stLst st n) (fun l => .val .N (.lst l) st) post
    obtain ⟨vs, hh, hl⟩ := k.lst hp ql
    exact ⟨p, vs, rfl, .inl (SqL.of hh), fun r hr => RPost.newL k post hl hr⟩
def oTuple : List D → Sto → ER
  | [.lst l], st => .val .P (.tup l) st
  | [.tup l], st => .val .P (.tup l) st
  | _, _ => .bad
def cutG {α : Type} (xs : List α) (lo hi : Option Int) : List α := (xs.drop (HT.sIx xs.length 0 lo)).take (HT.sIx xs.length xs.length hi - HT.sIx xs.length 0 lo)
theorem cut_L {as : List Addr} {f : Hp} {vs : List V} {l : List D} (h : IsL G as f vs l) (lo hi : Option Int) : IsL G as f (cutV vs lo hi) (cutG l lo hi) := by
  unfold cutV cutG
  rw [h.len]
  exact (h.drop _).take _
def DTo (G : Gm) (W : WX) (to : TO) (f : En → Option ER) : Prop :=
  ∀ s t σ e st, EnvOk G s t σ e → StOk G t st → ∀ (Q : Option Int → Hp → Prop) (o : Option Int) (st' : Sto),
    (match f ⟨e, st⟩ with
      | none => o = none ∧ st' = st
      | some (.val _ (.int i) st1) => o = some i ∧ st' = st1
      | _ => False) → (∀ t', Gro t t' → StOk G t' st' → Q o t'.h) → to σ t.h Q
theorem o_none : DTo G W tNoPart (fun _ => none) := fun _ t _ _ _ _ k _ _ _ ⟨h1, h2⟩ post => by
  subst h1; subst h2; exact post t (Gro.refl k) k
theorem o_some {te : TE} {f : En → ER} (h : DEv G W te f) : DTo G W (tPart te) (fun E => some (f E)) := by
  intro s t σ e st E k Q o st' c post
  refine h s t σ e st E k _ ?_
  cases q : f ⟨e, st⟩ with
  | val m d st1 =>
    simp only [q] at c
    cases d <;> first | exact c.elim | skip
    obtain ⟨rfl, rfl⟩ := c
    intro t' v g k' o
    obtain rfl := o.u.int
    exact ⟨_, rfl, post t' g k'⟩
  | exc c' l st1 => simp only [q] at c
  | bad => simp only [q] at c
def partI (o : Option ER) (st : Sto) : Option (Option Int × Sto) := match o with
  | none => some (none, st)
  | some (.val _ (.int i) st1) => some (some i, st1)
  | _ => none
def DSl (G : Gm) (r : V → Option Int → Option Int → Hp → VK → Prop) (o : D → Option Int → Option Int → Sto → ER) : Prop :=
  ∀ (W : WX) (σ : L2.St) (s : Hs) (st : Sto) (v : V) (d : D) (lo hi : Option Int), StOk G s st → U G s v d → ∀ Q : VK, RPost G W s σ Q (o d lo hi st) → r v lo hi s.h Q
def dSl (o : D → Option Int → Option Int → Sto → ER) (f : En → ER) (lo hi : En → Option ER) : En → ER := fun E => (f E).bind fun x st => ofOpt (partI (lo ⟨E.e, st⟩) st) fun l => ofOpt (partI (hi ⟨E.e, l.2⟩) l.2) fun u => o x l.1 u.1 u.2
theorem part_post {tl : TO} {lo : En → Option ER} (hl : DTo G W tl lo) {s t : Hs} {σ : L2.St} {e : DE} {st : Sto} (E : EnvOk G s t σ e) (k : StOk G t st) {l : Option Int × Sto} (hp : partI (lo ⟨e, st⟩) st = some l) {Q : Option Int → Hp → Prop} (post : ∀ t', Gro t t' → StOk G t' l.2 → Q l.1 t'.h) : tl σ t.h Q := by
  refine hl s t σ e st E k Q l.1 l.2 ?_ post
  cases q : lo ⟨e, st⟩ with
  | none => rw [q] at hp; cases hp; exact ⟨rfl, rfl⟩
  | some r =>
    rw [q] at hp
    cases r with
    | val m d st1 =>
      cases d <;> first | (cases hp; done) | skip
      cases hp
      exact ⟨rfl, rfl⟩
    | exc c l st1 => cases hp
    | bad => cases hp
theorem v_sl {r : V → Option Int → Option Int → Hp → VK → Prop} {o : D → Option Int → Option Int → Sto → ER} {te : TE} {tl th : TO} {f : En → ER} {lo hi : En → Option ER} (hr : DSl G r o) (he : DEv G W te f) (hl : DTo G W tl lo) (hh : DTo G W th hi) : DEv G W (tSl r te tl th) (dSl o f lo hi) := by
  intro s t σ e st E k Q post
  refine he s t σ e st E k _ (RPost.bind post fun m d st1 t1 v g1 k1 o1 p1 => ?_)
  obtain ⟨l, h1, p1⟩ := RPost.opt _ _ p1
  obtain ⟨u, h2, p1⟩ := RPost.opt _ _ p1
  refine part_post hl (E.up g1) k1 h1 fun t2 g2 k2 => part_post hh ((E.up g1).up g2) k2 h2 fun t3 g3 k3 => ?_
  exact hr W σ t3 u.2 v d l.1 u.1 k3 (((o1.up g2).up g3).u) Q (RPost.step (g2.trans g3) k3 p1)
abbrev rSlA (K : PySem.W.Frag) : V → Option Int → Option Int → Hp → VK → Prop := fun x lo hi H Q => rSlL K x lo hi H Q ∨ (fun x lo hi H Q => L2.rSlA K x lo hi H Q ∨ rSlS x lo hi H Q) x lo hi H Q
theorem sl_any {X : Cx} : SlR X (rSlA X.K) := sl_list.or (L2.sl_tupA.or sl_str)
def oSl (d : D) (lo hi : Option Int) (st : Sto) : ER := match d with
  | .lst l => .val .N (.lst (cutG l lo hi)) st
  | .scr l => .val .N (.lst ((cutG l lo hi).map .int)) st
  | .tup l => .val .P (.tup (cutG l lo hi)) st
  | .str z => if z.length ≤ 1000000 then .val .P (.str (cutS z lo hi)) st else .bad
  | _ => .bad
theorem cut_map (l : List Int) (lo hi : Option Int) : cutV (l.map V.int) lo hi = (cutG l lo hi).map V.int := by
  unfold cutV cutG
  rw [List.length_map, List.map_take, List.map_drop]
theorem d_sl : DSl G (rSlA G.K) oSl := by
  intro W σ s st v d lo hi k hv Q post
  cases d <;> try exact post.elim
  case lst l =>
    obtain ⟨p, vs, rfl, hp, hl⟩ := hv.lst k.sf
    exact .inl ⟨p, vs, rfl, SqL.of hp, fun r hr => RPost.newL k post (cut_L hl lo hi) hr⟩
  case scr l =>
    obtain ⟨p, rfl, hp⟩ := hv.scr k.sf
    exact .inl ⟨p, _, rfl, hp, fun r hr => by rw [cut_map]; exact RPost.newL k post (IsL.ints _) hr⟩
  case tup l =>
    obtain ⟨p, vs, rfl, hp, hl⟩ := hv.tup k.sf
    refine .inr (.inl ⟨p, vs, rfl, hp, fun c => ?_, fun _ r hr => RPost.newT k post (cut_L hl lo hi) hr⟩)
    rw [hl.len] at c
    have e : cutG l lo hi = l := by
      unfold cutG
      rw [c.1, c.2]; simp
    rw [show oSl (.tup l) lo hi st = .val .P (.tup (cutG l lo hi)) st from rfl, e] at post
    exact RPost.now k post hv.tupI
  case str z =>
    obtain rfl := hv.str
    obtain ⟨c, post⟩ := RPost.cond (z.length ≤ 1000000) (.val .P (.str (cutS z lo hi)) st) post
    exact .inr (.inr ⟨z, rfl, sz c, post.now k (.str _)⟩)
end
end Dn
namespace Dn
open PySem PySem.Spec PyProof.Rows L2
structure Up (s t : Hs) : Prop where
  a : Ext s.as t.as
  f : Same s.f t.f
theorem Up.refl (s : Hs) : Up s s := ⟨Ext.refl _, Same.refl _⟩
theorem Up.trans {s t u : Hs} (x : Up s t) (y : Up t u) : Up s u := ⟨x.a.trans y.a, x.f.trans y.f⟩
theorem Gro.up {s t : Hs} (g : Gro s t) : Up s t := ⟨g.a, g.f⟩
def DTg (G : Gm) (g : TG) (js : List Nat) (h : D → DE → Option DE) : Prop :=
  ∀ s t σ e st v d, EnvOk G s t σ e → StOk G t st → Is G t.as t.f v d → ∀ Q : L2.St → Hp → Prop, ∀ e', h d e = some e' →
    (∀ σ', EnvOk G s t σ' e' → σ'.length = σ.length → (∀ i, i ∉ js → σ'[i]? = σ[i]?) → Q σ' t.h) → g v σ t.h Q
def DTgs (G : Gm) (g : TGs) (js : List Nat) (h : List D → DE → Option DE) : Prop :=
  ∀ s t σ e st vs ds, EnvOk G s t σ e → StOk G t st → IsL G t.as t.f vs ds → ∀ Q : L2.St → Hp → Prop, ∀ e', h ds e = some e' →
    (∀ σ', EnvOk G s t σ' e' → σ'.length = σ.length → (∀ i, i ∉ js → σ'[i]? = σ[i]?) → Q σ' t.h) → g vs σ t.h Q
section
variable {G : Gm} {W : WX}
def tgN (i : Nat) : D → DE → Option DE := fun d e => some (e.set i (.val d))
theorem g_name {i : Nat} : DTg G (gName i) [i] (tgN i) := by
  intro s t σ e st v d E k hv Q e' he post
  cases he
  refine post _ (E.set ⟨v, rfl, hv⟩ (fun l z => nomatch z)) (by simp) fun j hj => ?_
  have : i ≠ j := fun z => hj (by simp [z])
  rw [List.getElem?_set_ne this]
def tgsNil : List D → DE → Option DE := fun l e => match l with | [] => some e | _ => none
theorem gs_nil : DTgs G gNil [] tgsNil := by
  intro s t σ e st vs ds E k hv Q e' he post
  cases ds with
  | nil => cases hv; cases he; exact ⟨rfl, post σ E rfl fun _ _ => rfl⟩
  | cons d l => cases he
def tgsCons (t : D → DE → Option DE) (u : List D → DE → Option DE) : List D → DE → Option DE := fun l e => match l with
  | [] => none
  | d :: l => (t d e).bind (u l)
theorem gs_cons {g : TG} {gs : TGs} {js ks : List Nat} {t : D → DE → Option DE} {u : List D → DE → Option DE} (h1 : DTg G g js t) (h2 : DTgs G gs ks u) : DTgs G (gCons g gs) (js ++ ks) (tgsCons t u) := by
  intro s t0 σ e st vs ds E k hv Q e' he post
  cases ds with
  | nil => cases he
  | cons d l =>
    cases hv with
    | cons a b =>
      have he' : (t d e).bind (u l) = some e' := he
      cases q : t d e with
      | none => rw [q] at he'; cases he'
      | some e1 =>
        rw [q] at he'
        refine ⟨_, _, rfl, h1 s t0 σ e st _ d E k a _ e1 q fun σ1 E1 l1 w1 => ?_⟩
        refine h2 s t0 σ1 e1 st _ l E1 k b _ e' he' fun σ2 E2 l2 w2 => ?_
        refine post σ2 E2 (l2.trans l1) fun i hi => ?_
        rw [w2 i (fun z => hi (List.mem_append_right _ z)), w1 i (fun z => hi (List.mem_append_left _ z))]
def tgT (n : Nat) (u : List D → DE → Option DE) : D → DE → Option DE := fun d e => match d with
  | .tup l => if l.length = n then u l e else none
  | .lst l => if l.length = n then u l e else none
  | _ => none
abbrev gTL (K : PySem.W.Frag) (n : Nat) (t : TGs) : TG := fun v σ H Q => gTup K n t v σ H Q ∨ gLst K n t v σ H Q
theorem pg_tl {X : Cx} {pos : Pos} {es : List Expr} {k : Nat} {t : TGs} {n : Nat} (hc : X.calm = true) (h : PGs X es t)
    (hn : (assignEach es X.env).length = n := by rfl) (hst : (assignEach es X.env).findIdx? (·.1) = none := by rfl) : PG X (.Tuple es k pos) (gTL X.K n t) :=
  ⟨fun pins s σ H v u Q I r hw => hw.elim (fun z => (pg_tup hc h hn hst).run pins s σ H v u Q I r z) (fun z => (pg_lst hc h hn hst).run pins s σ H v u Q I r z)⟩
theorem g_tl {n : Nat} {t : TGs} {js : List Nat} {u : List D → DE → Option DE} (h : DTgs G t js u) : DTg G (gTL G.K n t) js (tgT n u) := by
  intro s t0 σ e st v d E k hv Q e' he post
  cases d <;> try (cases he; done)
  case tup l =>
    have he' : (if l.length = n then u l e else none) = some e' := he
    split at he'
    · rename_i hn
      cases hv with
      | tup a b => exact .inl ⟨_, _, rfl, same_t k.sf a, b.len.trans hn, h s t0 σ e st _ l E k b Q e' he' post⟩
    · cases he'
  case lst l =>
    have he' : (if l.length = n then u l e else none) = some e' := he
    split at he'
    · rename_i hn
      cases hv with
      | lst a b => exact .inr ⟨_, _, rfl, SqL.of (k.sf _ _ a), b.len.trans hn, h s t0 σ e st _ l E k b Q e' he' post⟩
    · cases he'
end
inductive SR where | nx (E : En) | rt (m : Md) (d : D) (st : Sto) | bk (E : En) | ct (E : En) | exc (c : Nat) (l : List D) (E : En) | bad
def SPost (G : Gm) (W : WX) (s t : Hs) (N : Ends) : SR → Prop
  | .nx E => ∀ t' σ', Up t t' → EnvOk G s t' σ' E.e → StOk G t' E.st → N.nx σ' t'.h
  | .rt m d st => ∀ t' v, Up t t' → Gro s t' → StOk G t' st → VOk G s t' m v d → N.rt v t'.h
  | .bk E => ∀ t' σ', Up t t' → EnvOk G s t' σ' E.e → StOk G t' E.st → N.bk σ' t'.h
  | .ct E => ∀ t' σ', Up t t' → EnvOk G s t' σ' E.e → StOk G t' E.st → N.ct σ' t'.h
  | .exc c l E => ∀ t' σ' x, Up t t' → EnvOk G s t' σ' E.e → StOk G t' E.st → ExcOk G t' c l x → W (.ref (G.ca c)) x σ' t'.h
  | .bad => False
theorem SPost.mono {G : Gm} {W : WX} {s t t1 : Hs} {N : Ends} {r : SR} (u : Up t t1) (h : SPost G W s t N r) : SPost G W s t1 N r := by
  cases r with
  | nx E => exact fun t' σ' q => h t' σ' (u.trans q)
  | rt m d st => exact fun t' v q => h t' v (u.trans q)
  | bk E => exact fun t' σ' q => h t' σ' (u.trans q)
  | ct E => exact fun t' σ' q => h t' σ' (u.trans q)
  | exc c l E => exact fun t' σ' x q => h t' σ' x (u.trans q)
  | bad => exact h
def DSt (G : Gm) (W : WX) (ts : TS) (g : En → SR) : Prop :=
  ∀ s t σ e st, EnvOk G s t σ e → StOk G t st → ∀ N : Ends, SPost G W s t N (g ⟨e, st⟩) → ts N σ t.h
def SR.bind (r : SR) (k : En → SR) : SR := match r with
  | .nx E => k E
  | r => r
@[simp] theorem SR.bind_nx (E : En) (k : En → SR) : (SR.nx E).bind k = k E := rfl
@[simp] theorem SR.bind_rt (m : Md) (d : D) (st : Sto) (k : En → SR) : (SR.rt m d st).bind k = .rt m d st := rfl
@[simp] theorem SR.bind_bk (E : En) (k : En → SR) : (SR.bk E).bind k = .bk E := rfl
@[simp] theorem SR.bind_ct (E : En) (k : En → SR) : (SR.ct E).bind k = .ct E := rfl
@[simp] theorem SR.bind_exc (c : Nat) (l : List D) (E : En) (k : En → SR) : (SR.exc c l E).bind k = .exc c l E := rfl
@[simp] theorem SR.bind_bad (k : En → SR) : SR.bad.bind k = .bad := rfl
section
variable {G : Gm} {W : WX}
def sSeq (f g : En → SR) : En → SR := fun E => (f E).bind g
theorem s_seq {t u : TS} {f g : En → SR} (h1 : DSt G W t f) (h2 : DSt G W u g) : DSt G W (tSeq t u) (sSeq f g) := by
  intro s t0 σ e st E k N post
  refine h1 s t0 σ e st E k _ ?_
  unfold sSeq at post
  cases q : f ⟨e, st⟩ with
  | nx E1 => rw [q] at post; exact fun t' σ' u E' k' => h2 s t' σ' E1.e E1.st E' k' N (SPost.mono u post)
  | rt m d st => rw [q] at post; exact post
  | bk e => rw [q] at post; exact post
  | ct e => rw [q] at post; exact post
  | exc c l e => rw [q] at post; exact post
  | bad => rw [q] at post; exact post
def sSkip : En → SR := .nx
theorem s_skip : DSt G W tNext sSkip := fun s t σ e st E k N post => post t σ (Up.refl _) E k
def sBreak : En → SR := .bk
def sCont : En → SR := .ct
theorem ev_st {te : TE} {f : En → ER} (h : DEv G W te f) {s t : Hs} {σ : L2.St} {e : DE} {st : Sto} (E : EnvOk G s t σ e) (k : StOk G t st) {N : Ends} {Q : VK} (hx : ∀ c l st1, f ⟨e, st⟩ = .exc c l st1 → SPost G W s t N (.exc c l ⟨e, st1⟩)) (hb : f ⟨e, st⟩ ≠ .bad)
    (hv : ∀ m d st1, f ⟨e, st⟩ = .val m d st1 → ∀ t' v, Gro t t' → StOk G t' st1 → VOk G t t' m v d → Q v t'.h) : te σ t.h Q := by
  refine h s t σ e st E k _ ?_
  cases q : f ⟨e, st⟩ with
  | val m d st1 => exact hv m d st1 q
  | exc c l st1 => exact fun t' x g k' o => hx c l st1 q t' σ x g.up (E.up g) k' o
  | bad => exact absurd q hb
def sSet (i : Nat) (f : En → ER) : En → SR := fun E => match f E with
  | .val .P d st => .nx ⟨E.e.set i (.val d), st⟩
  | .val .N (.lst l) st => .nx ⟨E.e.set i (.own l), st⟩
  | .exc c l st => .exc c l ⟨E.e, st⟩
  | _ => .bad
theorem s_set {i : Nat} {te : TE} {f : En → ER} (h : DEv G W te f) : DSt G W (tAsg te (gName i)) (sSet i f) := by
  intro s t σ e st E k N post
  unfold sSet at post
  refine ev_st (N := N) h E k (fun c l st1 q => by rw [q] at post; exact post) (fun q => by rw [q] at post; exact post) fun m d st1 q t' v g k' o => ?_
  rw [q] at post
  cases m with
  | P => exact post t' _ g.up ((E.up g).set ⟨v, rfl, o⟩ (fun l z => nomatch z)) k'
  | B => cases d <;> exact post.elim
  | N =>
    obtain ⟨p, vs, l, rfl, rfl, a, b, c, n, z⟩ := o
    have n0 : s.h p = none := by
      cases q : s.h p with
      | none => rfl
      | some o =>
        by_cases i : p ∈ s.as
        · exact absurd (E.gr.a.mem i) (k.new n)
        · rw [E.gr.h p o q i] at n; cases n
    refine post t' _ g.up ((E.up g).setOwn n0 z a b c fun j m hj s1 s2 => ?_) k'
    obtain ⟨o, h1, p', vs', h2, _, _, h3, _⟩ := E.slot s2
    rw [s1] at h1; cases h1
    cases h2
    rw [n] at h3; cases h3
def sSetF (i : Nat) (f : En → ER) : En → SR := fun E => match f E with
  | .val .P d st => .nx ⟨E.e.set i (.val d), st⟩
  | .val .N d st => .nx ⟨E.e.set i (.val d), st⟩
  | .exc c l st => .exc c l ⟨E.e, st⟩
  | _ => .bad
theorem s_setF {i : Nat} {te : TE} {f : En → ER} (h : DEv G W te f) : DSt G W (tAsg te (gName i)) (sSetF i f) := by
  intro s t σ e st E k N post
  unfold sSetF at post
  refine ev_st (N := N) h E k (fun c l st1 q => by rw [q] at post; exact post) (fun q => by rw [q] at post; exact post) fun m d st1 q t' v g k' o => ?_
  rw [q] at post
  cases m with
  | P => exact post t' _ g.up ((E.up g).set ⟨v, rfl, o⟩ (fun l z => nomatch z)) k'
  | B => exact post.elim
  | N =>
    obtain ⟨f2, g2, k2, _, i2⟩ := o.freeze g k' (by decide)
    exact post ⟨t'.as, f2, t'.h⟩ _ g2.up ((E.up g2).set ⟨v, rfl, i2⟩ (fun l z => nomatch z)) k2
def sAsg (t : D → DE → Option DE) (f : En → ER) : En → SR := fun E => match f E with
  | .val .B _ _ => .bad
  | .val _ d st => (match t d E.e with | some e' => .nx ⟨e', st⟩ | none => .bad)
  | .exc c l st => .exc c l ⟨E.e, st⟩
  | _ => .bad
theorem s_asg {te : TE} {g : TG} {js : List Nat} {f : En → ER} {tg : D → DE → Option DE} (h : DEv G W te f) (hg : DTg G g js tg) : DSt G W (tAsg te g) (sAsg tg f) := by
  intro s t σ e st E k N post
  unfold sAsg at post
  refine ev_st (N := N) h E k (fun c l st1 q => by rw [q] at post; exact post) (fun q => by rw [q] at post; exact post) fun m d st1 q t' v g1 k' o => ?_
  rw [q] at post
  have fin : ∀ f2, Gro t ⟨t'.as, f2, t'.h⟩ → StOk G ⟨t'.as, f2, t'.h⟩ st1 → Is G t'.as f2 v d → SPost G W s t N (match tg d e with | some e' => .nx ⟨e', st1⟩ | none => .bad) → g v σ t'.h N.nx := fun f2 g2 k2 i2 p => by
    cases q2 : tg d e with
    | none => rw [q2] at p; exact p.elim
    | some e' =>
      rw [q2] at p
      exact hg s ⟨t'.as, f2, t'.h⟩ σ e st1 v d (E.up g2) k2 i2 _ e' q2 fun σ3 E3 _ _ => p _ σ3 g2.up E3 k2
  cases m with
  | P => exact fin t'.f g1 k' o post
  | B => exact post.elim
  | N =>
    obtain ⟨f2, g2, k2, _, i2⟩ := o.freeze g1 k' (by decide)
    exact fin f2 g2 k2 i2 post
def sPar (i j : Nat) (f : En → AR) : En → SR := fun E => match f E with
  | .ok true [a, b] st => .nx ⟨(E.e.set i (.val a)).set j (.val b), st⟩
  | .exc c l st => .exc c l ⟨E.e, st⟩
  | _ => .bad
theorem s_par {i j : Nat} {ta : TA} {f : En → AR} (h : DAr G W ta f) : DSt G W (tPar i j ta) (sPar i j f) := by
  intro s t σ e st E k N post
  unfold sPar at post
  refine h s t σ e st E k _ ?_
  cases q : f ⟨e, st⟩ with
  | ok p l st1 =>
    rw [q] at post
    cases p with
    | false => exact post.elim
    | true =>
      match l, post with
      | [], post => exact post.elim
      | [a], post => exact post.elim
      | [a, b], post =>
        intro t' vs g k' i2 _
        have i2 := i2 rfl
        cases i2 with
        | cons ia ib =>
          cases ib with
          | cons ib ic =>
            cases ic
            exact ⟨_, _, rfl, post t' _ g.up (((E.up g).set (x := .val a) ⟨_, rfl, ia⟩ (fun l z => nomatch z)).set (x := .val b) ⟨_, rfl, ib⟩ (fun l z => nomatch z)) k'⟩
      | a :: b :: c :: l, post => exact post.elim
  | exc c l st1 => rw [q] at post; exact fun t' x g k' o => post t' σ x g.up (E.up g) k' o
  | bad => rw [q] at post; exact post
def sDrop (f : En → ER) : En → SR := fun E => match f E with
  | .val _ _ st => .nx ⟨E.e, st⟩
  | .exc c l st => .exc c l ⟨E.e, st⟩
  | .bad => .bad
theorem s_drop {te : TE} {f : En → ER} (h : DEv G W te f) : DSt G W (tDrop te) (sDrop f) := by
  intro s t σ e st E k N post
  unfold sDrop at post
  refine ev_st (N := N) h E k (fun c l st1 q => by rw [q] at post; exact post) (fun q => by rw [q] at post; exact post) fun m d st1 q t' v g k' o => ?_
  rw [q] at post
  exact post t' σ g.up (E.up g) k'
def sRet (f : En → ER) : En → SR := fun E => match f E with
  | .val .P d st => .rt .P d st
  | .val .N d st => .rt .N d st
  | .exc c l st => .exc c l ⟨E.e, st⟩
  | _ => .bad
theorem s_ret {te : TE} {f : En → ER} (h : DEv G W te f) : DSt G W (tRet te) (sRet f) := by
  intro s t σ e st E k N post
  unfold sRet at post
  refine ev_st (N := N) h E k (fun c l st1 q => by rw [q] at post; exact post) (fun q => by rw [q] at post; exact post) fun m d st1 q t' v g k' o => ?_
  rw [q] at post
  cases m with
  | P => exact post t' v g.up (E.gr.trans g) k' o
  | B => exact post.elim
  | N => exact post t' v g.up (E.gr.trans g) k' (o.back E.gr k)
def sRetV (i : Nat) : En → SR := fun E => match E.e[i]? with
  | some (.val d) => .rt .P d E.st
  | some (.own l) => .rt .N (.lst l) E.st
  | _ => .bad
theorem s_retV {i : Nat} : DSt G W (tRet (tVar i)) (sRetV i) := by
  intro s t σ e st E k N post
  unfold sRetV at post
  split at post
  · rename_i d q
    obtain ⟨o, h1, v, rfl, h2⟩ := E.slot q
    exact ⟨v, h1, post t v (Up.refl _) E.gr k h2⟩
  · rename_i l q
    obtain ⟨o, h1, p, vs, rfl, a, b, c, d, f⟩ := E.slot q
    exact ⟨_, h1, post t _ (Up.refl _) E.gr k ⟨p, vs, l, rfl, rfl, c, d, f, a, b⟩⟩
  · exact post.elim
def sRetN : En → SR := fun E => .rt .P .non E.st
def sIf (c : En → ER) (f g : En → SR) : En → SR := fun E => match c E with
  | .val _ (.bl b) st => if b = true then f ⟨E.e, st⟩ else g ⟨E.e, st⟩
  | .exc c l st => .exc c l ⟨E.e, st⟩
  | _ => .bad
theorem tst_st {tt : TT} {f : En → ER} (h : DTt G W tt f) {s t : Hs} {σ : L2.St} {e : DE} {st : Sto} (E : EnvOk G s t σ e) (k : StOk G t st) {N : Ends} {Q : Bool → Hp → Prop} (hx : ∀ c l st1, f ⟨e, st⟩ = .exc c l st1 → SPost G W s t N (.exc c l ⟨e, st1⟩)) (hb : ∃ m b st1, f ⟨e, st⟩ = .val m (.bl b) st1 ∨ ∃ c l, f ⟨e, st⟩ = .exc c l st1)
    (hv : ∀ m b st1, f ⟨e, st⟩ = .val m (.bl b) st1 → ∀ t', Gro t t' → StOk G t' st1 → Q b t'.h) : tt σ t.h Q := by
  refine h s t σ e st E k _ ?_
  obtain ⟨m, b, st1, q | ⟨c, l, q⟩⟩ := hb
  · rw [q]; exact hv m b st1 q
  · rw [q]; exact fun t' x g k' o => hx c l st1 q t' σ x g.up (E.up g) k' o
theorem s_if {tc : TT} {t u : TS} {c : En → ER} {f g : En → SR} (hc : DTt G W tc c) (ht : DSt G W t f) (hu : DSt G W u g) : DSt G W (tIfS tc t u) (sIf c f g) := by
  intro s t0 σ e st E k N post
  unfold sIf at post
  refine tst_st (N := N) hc E k (fun c l st1 q => by rw [q] at post; exact post) ?_ fun m b st1 q t' g1 k' => ?_
  · cases q : c ⟨e, st⟩ with
    | val m d st1 =>
      rw [q] at post
      cases d <;> first | exact post.elim | exact ⟨m, _, st1, .inl rfl⟩
    | exc k l st1 => exact ⟨.P, true, st1, .inr ⟨k, l, rfl⟩⟩
    | bad => rw [q] at post; exact post.elim
  · rw [q] at post
    have post' : SPost G W s t0 N (if b = true then f ⟨e, st1⟩ else g ⟨e, st1⟩) := post
    cases b with
    | true => exact iteT (ht s t' σ e st1 (E.up g1) k' N (SPost.mono g1.up post'))
    | false => exact iteF (hu s t' σ e st1 (E.up g1) k' N (SPost.mono g1.up post'))
def frz (i : Nat) (e : DE) : DE := match e[i]? with
  | some (.own l) => e.set i (.val (.lst l))
  | _ => e
theorem EnvOk.frz {s t : Hs} {σ : L2.St} {e : DE} {st : Sto} (i : Nat) (E : EnvOk G s t σ e) (k : StOk G t st) : ∃ f, Same t.f f ∧ EnvOk G s ⟨t.as, f, t.h⟩ σ (frz i e) ∧ StOk G ⟨t.as, f, t.h⟩ st := by
  unfold Dn.frz
  split
  · rename_i l q
    obtain ⟨o, h1, p, vs, rfl, a, b, c, d, f⟩ := E.slot q
    have s1 : Same t.f (upd t.f p (.lst vs)) := same_new b
    refine ⟨upd t.f p (.lst vs), s1, ⟨E.gr.ice k c a b f, by simp [E.len], fun j o x y z => ?_, fun j m x l1 l2 hjk y z w u => ?_⟩, k.ice c b f⟩
    · by_cases zz : i = j
      · subst zz
        rw [List.getElem?_set_self (List.getElem?_eq_some_iff.mp q).1] at z
        rw [h1] at y; cases y; cases z
        exact ⟨_, rfl, .lst upd_same (d.up (Ext.refl _) s1)⟩
      · rw [List.getElem?_set_ne zz] at z
        have ok := E.at_ j o x y z
        cases x with
        | emp => trivial
        | exn => exact ok
        | clo ds =>
          obtain ⟨h1, h2, h3, h4⟩ := ok
          refine ⟨h1, h2, s1 _ _ h3, fun i d hd => ?_⟩
          obtain ⟨v, a, b⟩ := h4 i d hd
          exact ⟨v, a, b.up (Ext.refl _) s1⟩
        | val d => obtain ⟨v, a1, a2⟩ := ok; exact ⟨v, a1, a2.up (Ext.refl _) s1⟩
        | own m =>
          obtain ⟨p', vs', rfl, b1, b2, b3, b4, b5⟩ := ok
          have : p' ≠ p := fun zzz => by subst zzz; exact E.dis i j p' l m zz h1 q y z
          exact ⟨p', vs', rfl, b1, by show upd t.f p (.lst vs) p' = none; rw [upd_ne this]; exact b2, b3, b4.up (Ext.refl _) s1, b5⟩
    · have own_of : ∀ (j : Nat) (l1 : List D), (e.set i (.val (.lst l)))[j]? = some (.own l1) → e[j]? = some (.own l1) := fun j l1 z => by
        by_cases zz : i = j
        · subst zz
          rw [List.getElem?_set_self (List.getElem?_eq_some_iff.mp q).1] at z
          cases z
        · rw [List.getElem?_set_ne zz] at z; exact z
      exact E.dis j m x l1 l2 hjk y (own_of j l1 z) w (own_of m l2 u)
  · exact ⟨t.f, Same.refl _, E, k⟩
def sFrz (i : Nat) (g : En → SR) : En → SR := fun E => g ⟨frz i E.e, E.st⟩
theorem s_frz {i : Nat} {t : TS} {g : En → SR} (h : DSt G W t g) : DSt G W t (sFrz i g) := by
  intro s t0 σ e st E k N post
  obtain ⟨f, sm, E', k'⟩ := E.frz i k
  exact h s ⟨t0.as, f, t0.h⟩ σ _ st E' k' N (SPost.mono (t := t0) (t1 := ⟨t0.as, f, t0.h⟩) ⟨Ext.refl _, sm⟩ post)
theorem SPost.cond {s t : Hs} {N : Ends} (c : Prop) [Decidable c] (r : SR) (h : SPost G W s t N (if c then r else .bad)) : c ∧ SPost G W s t N r := by
  by_cases q : c
  · rw [if_pos q] at h; exact ⟨q, h⟩
  · rw [if_neg q] at h; exact h.elim
def sApp (i : Nat) (f : En → ER) : En → SR := fun E => match E.e[i]? with
  | some (.own l) => (match f E with
    | .val .B _ _ => .bad
    | .val _ d st => if l.length < 1000000 then .nx ⟨E.e.set i (.own (l ++ [d])), st⟩ else .bad
    | .exc c l st => .exc c l ⟨E.e, st⟩
    | .bad => .bad)
  | _ => .bad
theorem EnvOk.modS {s t : Hs} {σ : L2.St} {e : DE} {st : Sto} {n : Nat} {a : Addr} {o : HO} (E : EnvOk G s t σ e) (k : StOk G t st) (ha : t.as[n]? = some a) : EnvOk G s ⟨t.as, t.f, upd t.h a o⟩ σ e := by
  have m : a ∈ t.as := List.mem_iff_getElem?.mpr ⟨n, ha⟩
  refine ⟨E.gr.mod k ha, E.len, fun i x y p q => ?_, E.dis⟩
  have ok := E.at_ i x y p q
  cases y with
  | emp => trivial
  | exn => exact ok
  | clo ds => exact ok
  | val d => exact ok
  | own l =>
    obtain ⟨p', vs, rfl, a1, a2, a3, a4, a5⟩ := ok
    have : p' ≠ a := fun z => by subst z; exact a5 m
    exact ⟨p', vs, rfl, a1, a2, by show upd t.h a o p' = _; rw [upd_ne this]; exact a3, a4, a5⟩
def sSetO (x : Nat) (f fi : En → ER) : En → SR := fun E => match E.e[x]? with
  | some (.own l) => (match f E with
    | .val .B _ _ => .bad
    | .val _ d st => (match fi ⟨E.e, st⟩ with
      | .val _ (.int i) st1 => (match ixN l.length i with | some j => .nx ⟨E.e.set x (.own (l.set j d)), st1⟩ | none => .bad)
      | .exc c l st => .exc c l ⟨E.e, st⟩
      | _ => .bad)
    | .exc c l st => .exc c l ⟨E.e, st⟩
    | .bad => .bad)
  | _ => .bad
theorem s_setO {x : Nat} {te ti : TE} {f fi : En → ER} (h : DEv G W te f) (hi : DEv G W ti fi) : DSt G W (tAsg te (gSub (tVar x) ti rSetL)) (sSetO x f fi) := by
  intro s t σ e st E k N post
  unfold sSetO at post
  split at post
  · rename_i l hx
    have hx : e[x]? = some (.own l) := hx
    obtain ⟨o, hσ, p, vs, rfl, p0, pf, ph, pl, pa⟩ := E.slot hx
    refine ev_st (N := N) h E k (fun c l st1 q => by rw [q] at post; exact post) (fun q => by rw [q] at post; exact post) fun m d st1 q t1 v g1 k1 o1 => ?_
    rw [q] at post
    have fin : ∀ f2, Gro t ⟨t1.as, f2, t1.h⟩ → StOk G ⟨t1.as, f2, t1.h⟩ st1 → Is G t1.as f2 v d → SPost G W s t N (match fi ⟨e, st1⟩ with
      | .val _ (.int i) st1 => (match ixN l.length i with | some j => .nx ⟨e.set x (.own (l.set j d)), st1⟩ | none => .bad)
      | .exc c l st => .exc c l ⟨e, st⟩
      | _ => .bad) → gSub (tVar x) ti rSetL v σ t1.h N.nx := fun f2 g2 k2 i2 post => by
      refine ⟨_, hσ, ?_⟩
      refine ev_st (N := N) hi (E.up g2) k2 (fun c l st3 q3 => ?_) (fun q3 => ?_) fun mi di st3 q3 t3 w g3 k3 o3 => ?_
      · rw [q3] at post; exact SPost.mono g2.up post
      · rw [q3] at post; exact post
      · rw [q3] at post
        cases di <;> try exact post.elim
        rename_i i
        obtain rfl := o3.u.int
        have g23 := g2.trans g3
        cases hj : ixN l.length i with
        | none => simp only [hj] at post; exact post.elim
        | some j =>
          simp only [hj] at post
          have hp' : t3.h p = some (.lst vs) := g23.h _ _ ph pa
          have hf' : t3.f p = none := g23.n _ _ ph pf
          have ha' : p ∉ t3.as := fun m => (g23.w p m).elim pa fun z => by rw [ph] at z; cases z
          refine ⟨p, vs, i, j, rfl, rfl, hp', by rw [pl.len]; exact hj, ?_⟩
          have pl' := (pl.up g23.a g23.f).set (i2.up g3.a g3.f) j
          exact post ⟨t3.as, t3.f, upd t3.h p (.lst (vs.set j v))⟩ σ ⟨g23.a, g23.f⟩ ((E.up g23).chg hσ hx p0 hf' pl' ha') (k3.chg hf' ha')
    cases m with
    | P => exact fin t1.f g1 k1 o1 post
    | B => exact post.elim
    | N =>
      obtain ⟨f2, g2, k2, _, i2⟩ := o1.freeze g1 k1 (by decide)
      exact fin f2 g2 k2 i2 post
  · exact post.elim
def sSetP (fb f fi : En → ER) : En → SR := fun E => match f E with
  | .val .B _ _ => .bad
  | .val _ d st => (match fb ⟨E.e, st⟩ with
    | .val _ (.ptr n) st1 => (match fi ⟨E.e, st1⟩ with
      | .val _ (.int i) st2 => (match stLst st2 n with
        | some l => (match ixN l.length i with | some j => .nx ⟨E.e, st2.set n (.lst (l.set j d))⟩ | none => .bad)
        | none => .bad)
      | .exc c l st => .exc c l ⟨E.e, st⟩
      | _ => .bad)
    | .exc c l st => .exc c l ⟨E.e, st⟩
    | _ => .bad)
  | .exc c l st => .exc c l ⟨E.e, st⟩
  | .bad => .bad
theorem s_setP {tb te ti : TE} {fb f fi : En → ER} (hb : DEv G W tb fb) (h : DEv G W te f) (hi : DEv G W ti fi) : DSt G W (tAsg te (gSub tb ti rSetL)) (sSetP fb f fi) := by
  intro s t σ e st E k N post
  unfold sSetP at post
  refine ev_st (N := N) h E k (fun c l st1 q => by rw [q] at post; exact post) (fun q => by rw [q] at post; exact post) fun m d st1 q t1 v g1 k1 o1 => ?_
  rw [q] at post
  have fin : ∀ f2, Gro t ⟨t1.as, f2, t1.h⟩ → StOk G ⟨t1.as, f2, t1.h⟩ st1 → Is G t1.as f2 v d → SPost G W s t N (match fb ⟨e, st1⟩ with
    | .val _ (.ptr n) st1 => (match fi ⟨e, st1⟩ with
      | .val _ (.int i) st2 => (match stLst st2 n with
        | some l => (match ixN l.length i with | some j => .nx ⟨e, st2.set n (.lst (l.set j d))⟩ | none => .bad)
        | none => .bad)
      | .exc c l st => .exc c l ⟨e, st⟩
      | _ => .bad)
    | .exc c l st => .exc c l ⟨e, st⟩
    | _ => .bad) → gSub tb ti rSetL v σ t1.h N.nx := fun f2 g2 k2 i2 post => by
    refine ev_st (N := N) hb (E.up g2) k2 (fun c l st3 q3 => ?_) (fun q3 => ?_) fun mb db st3 q3 t3 b g3 k3 o3 => ?_
    · rw [q3] at post; exact SPost.mono g2.up post
    · rw [q3] at post; exact post
    · rw [q3] at post
      cases db <;> try exact post.elim
      rename_i n
      obtain ⟨p, rfl, hp⟩ := o3.u.ptr
      have g23 := g2.trans g3
      have post : SPost G W s t N (match fi ⟨e, st3⟩ with
        | .val _ (.int i) st2 => (match stLst st2 n with
          | some l => (match ixN l.length i with | some j => .nx ⟨e, st2.set n (.lst (l.set j d))⟩ | none => .bad)
          | none => .bad)
        | .exc c l st => .exc c l ⟨e, st⟩
        | _ => .bad) := post
      refine ev_st (N := N) hi (E.up g23) k3 (fun c l st4 q4 => ?_) (fun q4 => ?_) fun mi di st4 q4 t4 w g4 k4 o4 => ?_
      · rw [q4] at post; exact SPost.mono g23.up post
      · rw [q4] at post; exact post
      · rw [q4] at post
        cases di <;> try exact post.elim
        rename_i i
        obtain rfl := o4.u.int
        have g24 := g23.trans g4
        have hp4 := g4.a n p hp
        have post : SPost G W s t N (match stLst st4 n with
          | some l => (match ixN l.length i with | some j => .nx ⟨e, st4.set n (.lst (l.set j d))⟩ | none => .bad)
          | none => .bad) := post
        cases hl : stLst st4 n with
        | none => simp only [hl] at post; exact post.elim
        | some l =>
          simp only [hl] at post
          cases hj : ixN l.length i with
          | none => simp only [hj] at post; exact post.elim
          | some j =>
            simp only [hj] at post
            obtain ⟨vs, hh, il⟩ := k4.lst hp4 hl
            refine ⟨p, vs, i, j, rfl, rfl, hh, by rw [il.len]; exact hj, ?_⟩
            have il' := il.set (i2.up (g3.trans g4).a (g3.trans g4).f) j
            exact post ⟨t4.as, t4.f, upd t4.h p (.lst (vs.set j v))⟩ σ ⟨g24.a, g24.f⟩ ((E.up g24).modS k4 hp4) (k4.mod hp4 ⟨_, upd_same, il'⟩)
  cases m with
  | P => exact fin t1.f g1 k1 o1 post
  | B => exact post.elim
  | N =>
    obtain ⟨f2, g2, k2, _, i2⟩ := o1.freeze g1 k1 (by decide)
    exact fin f2 g2 k2 i2 post
def sSetI (x : Nat) (f fi : En → ER) : En → SR := fun E => match E.e[x]? with
  | some (.own _) => sSetO x f fi E
  | _ => sSetP (dVar x) f fi E
theorem s_setI {x : Nat} {te ti : TE} {f fi : En → ER} (h : DEv G W te f) (hi : DEv G W ti fi) : DSt G W (tAsg te (gSub (tVar x) ti rSetL)) (sSetI x f fi) := by
  intro s t σ e st E k N post
  unfold sSetI at post
  split at post
  · exact s_setO h hi s t σ e st E k N post
  · exact s_setP v_var h hi s t σ e st E k N post
end
end Dn
namespace Dn
open PySem PySem.Spec PyProof.Rows L2
def ItOk (G : Gm) (t1 : Hs) (J : It) (l : List D) : Prop := ∀ (i : Nat) (t : Hs) (st : Sto), Up t1 t → StOk G t st → (l.length ≤ i → J.stop i t.h) ∧
  ∀ d, l[i]? = some d → J.go i t.h ∧ ∀ x H', J.yld i t.h x H' → ∃ t', t'.h = H' ∧ Gro t t' ∧ StOk G t' st ∧ Is G t'.as t'.f x d
def IPost (G : Gm) (W : WX) (t : Hs) (σ : L2.St) (R : It → Hp → Prop) : AR → Prop
  | .ok _ l st => ∀ t' J, Gro t t' → StOk G t' st → ItOk G t' J l → R J t'.h
  | .exc c l st => ∀ t' x, Gro t t' → StOk G t' st → ExcOk G t' c l x → W (.ref (G.ca c)) x σ t'.h
  | .bad => False
def DIt (G : Gm) (W : WX) (wi : TI) (f : En → AR) : Prop := ∀ s t σ e st, EnvOk G s t σ e → StOk G t st → ∀ R : It → Hp → Prop, IPost G W t σ R (f ⟨e, st⟩) → wi σ t.h R
section
variable {G : Gm} {W : WX}
def iAny (K : PySem.W.Frag) (te : TE) : TI := fun σ H R => iList K te σ H R ∨ iTup K te σ H R ∨ iStr te σ H R
theorem pi_any {X : Cx} {tg e : Expr} {te : TE} (he : PE X e te) : PI X tg e (iAny X.K te) :=
  ⟨fun pins s σ H R I h => h.elim (fun z => (pi_list he).run pins s σ H R I z) fun z => z.elim (fun z => (pi_tup he).run pins s σ H R I z) (fun z => (pi_str he).run pins s σ H R I z)⟩
def itemsOf : D → Option (List D)
  | .lst l => some l
  | .tup l => some l
  | .scr l => some (l.map .int)
  | .str z => some (z.cps.toList.map fun c => .str ⟨#[c]⟩)
  | _ => none
def dIter (f : En → ER) : En → AR := fun E => match f E with
  | .val .B _ _ => .bad
  | .val _ d st => (match itemsOf d with | some l => .ok true l st | none => .bad)
  | .exc c l st => .exc c l st
  | .bad => .bad
theorem it_list {t1 : Hs} {a : Addr} {vs : List V} {l : List D} (h : ∀ t, Up t1 t → Same t.f t.h → SqL G.K t.h a vs ∧ IsL G t.as t.f vs l) : ItOk G t1 (Itl G.K a) l := by
  intro i t st u k
  obtain ⟨q, il⟩ := h t u k.sf
  refine ⟨fun hi => ⟨vs, q, by rw [il.len]; exact hi⟩, fun d hd => ?_⟩
  obtain ⟨v, h1, h2⟩ := il.get hd
  refine ⟨⟨vs, v, q, h1⟩, fun x H' y => ?_⟩
  obtain ⟨rfl, y⟩ := y
  have := y vs q
  rw [h1] at this; cases this
  exact ⟨t, rfl, Gro.refl k, k, h2⟩
theorem it_tup {t1 : Hs} {a : Addr} {vs : List V} {l : List D} (h : ∀ t, Up t1 t → Same t.f t.h → SqT G.K t.h a vs ∧ IsL G t.as t.f vs l) : ItOk G t1 (Itt G.K a) l := by
  intro i t st u k
  obtain ⟨q, il⟩ := h t u k.sf
  refine ⟨fun hi => ⟨vs, q, by rw [il.len]; exact hi⟩, fun d hd => ?_⟩
  obtain ⟨v, h1, h2⟩ := il.get hd
  refine ⟨⟨vs, v, q, h1⟩, fun x H' y => ?_⟩
  obtain ⟨rfl, y⟩ := y
  have := y vs q
  rw [h1] at this; cases this
  exact ⟨t, rfl, Gro.refl k, k, h2⟩
theorem it_str {t1 : Hs} (z : Str) : ItOk G t1 (Its z) (z.cps.toList.map fun c => .str ⟨#[c]⟩) := by
  intro i t st u k
  refine ⟨fun hi => by (show z.cps.size ≤ i); simpa using hi, fun d hd => ?_⟩
  rw [List.getElem?_map] at hd
  cases q : z.cps.toList[i]? with
  | none => rw [q] at hd; cases hd
  | some c =>
    rw [q] at hd
    cases hd
    have hi : i < z.cps.size := by
      have := (List.getElem?_eq_some_iff.mp q).1
      simpa using this
    refine ⟨hi, fun x H' y => ?_⟩
    obtain ⟨rfl, c', h1, rfl⟩ := y
    have : z.cps[i]? = some c := by rw [← Array.getElem?_toList]; exact q
    rw [this] at h1; cases h1
    exact ⟨t, rfl, Gro.refl k, k, .str _⟩
theorem i_any {te : TE} {f : En → ER} (h : DEv G W te f) : DIt G W (iAny G.K te) (dIter f) := by
  intro s t σ e st E k0 R post
  have hx : ∀ {Q : VK}, (∀ m d st1, f ⟨e, st⟩ = .val m d st1 → m ≠ .B → ∀ l, itemsOf d = some l → ∀ t' v, Gro t t' → StOk G t' st1 → Is G t'.as t'.f v d → Q v t'.h) → te σ t.h Q := fun {Q} k => by
    refine h s t σ e st E k0 _ ?_
    cases q : f ⟨e, st⟩ with
    | val m d st1 =>
      simp only [dIter, q] at post
      intro t' v g k' o
      have nb : m ≠ .B := fun z => by subst z; exact post.elim
      have : ∃ l, itemsOf d = some l := by
        cases m <;> first | exact absurd rfl nb | (cases q2 : itemsOf d <;> first | (simp only [q2] at post; exact post.elim) | exact ⟨_, rfl⟩)
      obtain ⟨l, hl⟩ := this
      obtain ⟨f2, g2, k2, _, i2⟩ := o.freeze g k' nb
      exact k m d st1 q nb l hl ⟨t'.as, f2, t'.h⟩ v g2 k2 i2
    | exc c l st1 => simp only [dIter, q] at post; exact post
    | bad => simp only [dIter, q] at post; exact post
  have hp : ∀ m d l st1, f ⟨e, st⟩ = .val m d st1 → m ≠ .B → itemsOf d = some l → ∀ t' J, Gro t t' → StOk G t' st1 → ItOk G t' J l → R J t'.h := fun m d l st1 q nb hl => by
    simp only [dIter, q] at post
    cases m <;> first | exact absurd rfl nb | (simp only [hl] at post; exact post)
  cases q : f ⟨e, st⟩ with
  | val m d st1 =>
    cases d with
    | tup l0 =>
      refine .inr (.inl (hx fun m' d' st' q' nb l hl t' v g k' i2 => ?_))
      rw [q] at q'; cases q'; cases hl
      cases i2 with
      | tup a b => exact ⟨_, rfl, ⟨_, same_t k'.sf a⟩, hp m (.tup l0) l0 st1 q nb rfl t' _ g k' (it_tup fun t2 u s2 => ⟨same_t (u.f.trans s2) a, b.up u.a u.f⟩)⟩
    | str z =>
      refine .inr (.inr (hx fun m' d' st' q' nb l hl t' v g k' i2 => ?_))
      rw [q] at q'; cases q'; cases hl
      cases i2 with
      | str => exact ⟨z, rfl, hp m (.str z) _ st1 q nb rfl t' _ g k' (it_str z)⟩
    | lst l0 =>
      refine .inl (hx fun m' d' st' q' nb l hl t' v g k' i2 => ?_)
      rw [q] at q'; cases q'; cases hl
      cases i2 with
      | lst a b => exact ⟨_, rfl, ⟨_, SqL.of (k'.sf _ _ a)⟩, hp m (.lst l0) l0 st1 q nb rfl t' _ g k' (it_list fun t2 u s2 => ⟨SqL.of (s2 _ _ (u.f _ _ a)), b.up u.a u.f⟩)⟩
    | scr l0 =>
      refine .inl (hx fun m' d' st' q' nb l hl t' v g k' i2 => ?_)
      rw [q] at q'; cases q'; cases hl
      cases i2 with
      | scr a => exact ⟨_, rfl, ⟨_, k'.sf.seq a⟩, hp m (.scr l0) _ st1 q nb rfl t' _ g k' (it_list fun t2 u s2 => ⟨(u.f.trans s2).seq a, IsL.ints _⟩)⟩
    | _ => refine .inl (hx fun m' d' st' q' nb l hl t' v g k' i2 => ?_); rw [q] at q'; cases q'; cases hl
  | exc c l st1 => refine .inl (hx fun m' d' st' q' => ?_); rw [q] at q'; cases q'
  | bad => refine .inl (hx fun m' d' st' q' => ?_); rw [q] at q'; cases q'
def rangeD (lo : Int) (n : Nat) : List D := (List.range n).map fun (k : Nat) => .int (lo + (k : Int))
theorem rangeD_get {lo : Int} {n i : Nat} {d : D} (h : (rangeD lo n)[i]? = some d) : i < n ∧ d = .int (lo + (i : Int)) := by
  unfold rangeD at h
  rw [List.getElem?_map] at h
  by_cases hi : i < n
  · rw [List.getElem?_range hi] at h; cases h; exact ⟨hi, rfl⟩
  · rw [List.getElem?_eq_none (by simpa using hi)] at h; cases h
theorem it_range {t1 : Hs} (lo : Int) (n : Nat) : ItOk G t1 (Itr lo n) (rangeD lo n) := by
  intro i t st u k
  refine ⟨fun hi => by (show n ≤ i); simpa [rangeD] using hi, fun d hd => ?_⟩
  obtain ⟨hi, rfl⟩ := rangeD_get hd
  refine ⟨hi, fun x H' y => ?_⟩
  obtain ⟨rfl, rfl⟩ := y
  exact ⟨t, rfl, Gro.refl k, k, .int _⟩
def rng1 : List D → Option (Int × Nat)
  | [.int j] => if -(2 ^ 62) ≤ j ∧ j < 2 ^ 62 then some (0, j.toNat) else none
  | _ => none
def rng2 : List D → Option (Int × Nat)
  | [.int i, .int j] => if -(2 ^ 62) ≤ i ∧ i < 2 ^ 62 ∧ -(2 ^ 62) ≤ j ∧ j < 2 ^ 62 then some (i, (j - i).toNat) else none
  | _ => none
def dRng (r : List D → Option (Int × Nat)) (f : En → AR) : En → AR := fun E => match f E with
  | .ok _ l st => (match r l with | some r => .ok true (rangeD r.1 r.2) st | none => .bad)
  | .exc c l st => .exc c l st
  | _ => .bad
theorem i_rng {ta : TA} {f : En → AR} {ro : List D → Option (Int × Nat)} {r : List V → Hp → (It → Hp → Prop) → Prop} (h : DAr G W ta f) (hr : ∀ t vs l p R, UL G t vs l → ro l = some p → R (Itr p.1 p.2) t.h → r vs t.h R) : DIt G W (fun σ H R => ta σ H fun vs H1 => r vs H1 R) (dRng ro f) := by
  intro s t σ e st E k R post
  refine h s t σ e st E k _ ?_
  unfold dRng at post
  cases q : f ⟨e, st⟩ with
  | ok p l st1 =>
    rw [q] at post
    intro t1 vs g1 k1 _ u1
    cases hl : ro l with
    | none => simp only [hl] at post; exact post.elim
    | some p =>
      simp only [hl] at post
      exact hr t1 vs l p R u1 hl (post t1 _ g1 k1 (it_range _ _))
  | exc c l st1 => rw [q] at post; exact post
  | bad => rw [q] at post; exact post
theorem i_range1 {ta : TA} {f : En → AR} (h : DAr G W ta f) : DIt G W (iRng1 ta) (dRng rng1 f) :=
  i_rng (r := fun vs H1 R => ∃ j : Int, vs = [.int j] ∧ -(2 ^ 62) ≤ j ∧ j < 2 ^ 62 ∧ R (Itr 0 j.toNat) H1) h fun t vs l p R u hl hR => by
    unfold rng1 at hl
    split at hl
    · rename_i j
      split at hl
      · rename_i c
        cases hl
        obtain ⟨v, rfl, hv⟩ := u.one
        obtain rfl := hv.int
        exact ⟨j, rfl, c.1, c.2, hR⟩
      · cases hl
    · cases hl
def enumD : Nat → List D → List D
  | _, [] => []
  | k, d :: l => .tup [.int (k : Int), d] :: enumD (k + 1) l
theorem enumD_get : ∀ {l : List D} {k i : Nat} {d : D}, (enumD k l)[i]? = some d → ∃ x, l[i]? = some x ∧ d = .tup [.int ((k + i : Nat) : Int), x]
  | [], _, _, _, h => by simp [enumD] at h
  | x :: l, k, 0, d, h => by simp [enumD] at h; subst h; exact ⟨x, rfl, rfl⟩
  | x :: l, k, i + 1, d, h => by
    obtain ⟨y, h1, h2⟩ := enumD_get (l := l) (k := k + 1) (i := i) (d := d) (by simpa [enumD] using h)
    refine ⟨y, by simpa using h1, ?_⟩
    rw [h2]
    have : k + 1 + i = k + (i + 1) := by omega
    rw [this]
theorem enumD_len : ∀ (l : List D) (k : Nat), (enumD k l).length = l.length
  | [], _ => rfl
  | x :: l, k => by simp [enumD, enumD_len l]
theorem it_enum {t1 : Hs} {a : Addr} {vs : List V} {l : List D} (h : ∀ t, Up t1 t → Same t.f t.h → SqL G.K t.h a vs ∧ IsL G t.as t.f vs l) : ItOk G t1 (Ite G.K a) (enumD 0 l) := by
  intro i t st u k
  obtain ⟨q, il⟩ := h t u k.sf
  refine ⟨fun hi => ⟨vs, q, by rw [il.len]; rw [enumD_len] at hi; exact hi⟩, fun d hd => ?_⟩
  obtain ⟨x, h1, rfl⟩ := enumD_get hd
  obtain ⟨v, h2, h3⟩ := il.get h1
  refine ⟨⟨vs, v, q, h2⟩, fun y H' z => ?_⟩
  obtain ⟨T, v', rfl, hT, rfl, z⟩ := z
  have := z vs q
  rw [h2] at this; cases this
  refine ⟨⟨t.as, upd t.f T _, upd t.h T _⟩, rfl, Gro.new k hT, k.grow hT, .tup (SqT.of upd_same) (.cons ?_ (.cons (h3.up (Ext.refl _) (same_new (k.sf.free hT))) .nil))⟩
  rw [Nat.zero_add]
  exact .int _
def dEnum (f : En → AR) : En → AR := fun E => match f E with
  | .ok true [.lst l] st => .ok true (enumD 0 l) st
  | .exc c l st => .exc c l st
  | _ => .bad
theorem i_enum {ta : TA} {f : En → AR} (h : DAr G W ta f) : DIt G W (iEnum G.K ta) (dEnum f) := by
  intro s t σ e st E k R post
  refine h s t σ e st E k _ ?_
  unfold dEnum at post
  cases q : f ⟨e, st⟩ with
  | ok p l st1 =>
    rw [q] at post
    cases p with
    | false => exact post.elim
    | true =>
      match l, post with
      | [], post => exact post.elim
      | [d], post =>
        cases d <;> first | exact post.elim | skip
        intro t' vs g k' i0 _
        have i := i0 rfl
        clear i0
        cases i with
        | cons i j =>
          cases j
          cases i with
          | lst a b => exact ⟨_, _, rfl, SqL.of (k'.sf _ _ a), post t' _ g k' (it_enum fun t2 u s2 => ⟨SqL.of (s2 _ _ (u.f _ _ a)), b.up u.a u.f⟩)⟩
      | a :: b :: l, post => cases a <;> exact post.elim
  | exc c l st1 => rw [q] at post; exact post
  | bad => rw [q] at post; exact post
def zipD : List D → List D → List D
  | a :: l, b :: m => .tup [a, b] :: zipD l m
  | _, _ => []
def dZip (f : En → AR) : En → AR := fun E => match f E with
  | .ok true [.lst l, .lst m] st => .ok true (zipD l m) st
  | .exc c l st => .exc c l st
  | _ => .bad
def forD (b : D → En → SR) : List D → En → SR
  | [], e => .nx e
  | x :: xs, e => match b x e with
    | .nx e' => forD b xs e'
    | .ct e' => forD b xs e'
    | .bk e' => .nx e'
    | r => r
def tgB (t : D → DE → Option DE) (b : En → SR) : D → En → SR := fun d E => match t d E.e with
  | some e' => b ⟨e', E.st⟩
  | none => .bad
def sFor (src : En → AR) (t : D → DE → Option DE) (b : En → SR) : En → SR := fun E => match src E with
  | .ok _ l st => forD (tgB t b) l ⟨E.e, st⟩
  | .exc c l st => .exc c l ⟨E.e, st⟩
  | .bad => .bad
theorem s_for {wi : TI} {g : TG} {tb : TS} {src : En → AR} {js : List Nat} {t : D → DE → Option DE} {b : En → SR} (hi : DIt G W wi src) (hg : DTg G g js t) (hb : DSt G W tb b) : DSt G W (tFor wi g tb) (sFor src t b) := by
  intro s t0 σ e st E k0 N post
  refine hi s t0 σ e st E k0 _ ?_
  unfold sFor at post
  cases q : src ⟨e, st⟩ with
  | ok p l st1 =>
    rw [q] at post
    have post : SPost G W s t0 N (forD (tgB t b) l ⟨e, st1⟩) := post
    intro t1 J g1 k1 it
    refine ⟨fun i m σ H => m = l.length - i ∧ i ≤ l.length ∧ ∃ t2 E2, t2.h = H ∧ Up t1 t2 ∧ EnvOk G s t2 σ E2.e ∧ StOk G t2 E2.st ∧ SPost G W s t2 N (forD (tgB t b) (l.drop i) E2),
      ⟨l.length, by simp, Nat.zero_le _, t1, ⟨e, st1⟩, rfl, Up.refl _, E.up g1, k1, SPost.mono g1.up post⟩, ?_⟩
    rintro i m σ2 H2 ⟨rfl, hi, t2, F2, rfl, s2, E2, k2, p2⟩
    obtain ⟨i1, i2⟩ := it i t2 F2.st s2 k2
    by_cases hlt : i < l.length
    · right
      have hd : l[i]? = some l[i] := List.getElem?_eq_getElem hlt
      obtain ⟨go, y⟩ := i2 _ hd
      rw [List.drop_eq_getElem_cons hlt] at p2
      refine ⟨go, fun σ' H' => i + 1 ≤ l.length ∧ ∃ t2 E2, t2.h = H' ∧ Up t1 t2 ∧ EnvOk G s t2 σ' E2.e ∧ StOk G t2 E2.st ∧ SPost G W s t2 N (forD (tgB t b) (l.drop (i + 1)) E2), fun σ' H' h => ⟨l.length - (i + 1), by omega, rfl, h⟩, fun x H' hy => ?_⟩
      obtain ⟨t3, rfl, g3, k3, i3⟩ := y x H' hy
      cases q3 : t l[i] F2.e with
      | none =>
        have : forD (tgB t b) (l[i] :: l.drop (i + 1)) F2 = .bad := by
          unfold forD tgB; rw [q3]
        rw [this] at p2
        exact p2.elim
      | some e3 =>
        have tgb : tgB t b l[i] F2 = b ⟨e3, F2.st⟩ := by unfold tgB; rw [q3]
        refine hg s t3 σ2 F2.e F2.st x l[i] (E2.up g3) k3 i3 _ e3 q3 fun σ4 E4 _ _ => ?_
        refine hb s t3 σ4 e3 F2.st E4 k3 _ ?_
        have p4 := SPost.mono g3.up p2
        unfold forD at p4
        rw [tgb] at p4
        have s3 := s2.trans g3.up
        cases q5 : b ⟨e3, F2.st⟩ with
        | nx e5 => rw [q5] at p4; exact fun t6 σ6 s6 E6 k6 => ⟨hlt, t6, e5, rfl, s3.trans s6, E6, k6, SPost.mono s6 p4⟩
        | ct e5 => rw [q5] at p4; exact fun t6 σ6 s6 E6 k6 => ⟨hlt, t6, e5, rfl, s3.trans s6, E6, k6, SPost.mono s6 p4⟩
        | bk e5 => rw [q5] at p4; exact p4
        | rt m d st => rw [q5] at p4; exact p4
        | exc c l e => rw [q5] at p4; exact p4
        | bad => rw [q5] at p4; exact p4
    · left
      have : i = l.length := by omega
      subst this
      refine ⟨i1 (Nat.le_refl _), ?_⟩
      rw [List.drop_length] at p2
      exact p2 t2 σ2 (Up.refl _) E2 k2
  | exc c l st1 => rw [q] at post; exact fun t' x g k' o => post t' σ x g.up (E.up g) k' o
  | bad => rw [q] at post; exact post
def whN (c : En → ER) (b : En → SR) : Nat → En → Option SR
  | 0, _ => none
  | n + 1, E => match c E with
    | .val _ (.bl true) st => (match b ⟨E.e, st⟩ with
      | .nx e' => whN c b n e'
      | .ct e' => whN c b n e'
      | .bk e' => some (.nx e')
      | r => some r)
    | .val _ (.bl false) st => some (.nx ⟨E.e, st⟩)
    | .exc k l st => some (.exc k l ⟨E.e, st⟩)
    | _ => some .bad
theorem whN_mono {c : En → ER} {b : En → SR} : ∀ {n m : Nat} {e : En} {r : SR}, whN c b n e = some r → n ≤ m → whN c b m e = some r
  | 0, _, _, _, h, _ => by cases h
  | n + 1, 0, _, _, _, hm => by omega
  | n + 1, m + 1, e, r, h, hm => by
    unfold whN at h ⊢
    split at h
    · split at h
      · rename_i q; exact whN_mono h (by omega)
      · rename_i q; exact whN_mono h (by omega)
      · exact h
      · exact h
    · exact h
    · exact h
    · exact h
open Classical in
noncomputable def sWhile (c : En → ER) (b : En → SR) : En → SR := fun e => if h : ∃ n r, whN c b n e = some r then Classical.choose (Classical.choose_spec h) else .bad
theorem sWhile_eq {c : En → ER} {b : En → SR} {n : Nat} {e : En} {r : SR} (h : whN c b n e = some r) : sWhile c b e = r := by
  have hx : ∃ n r, whN c b n e = some r := ⟨n, r, h⟩
  unfold sWhile
  rw [dif_pos hx]
  have h2 := Classical.choose_spec (Classical.choose_spec hx)
  have h3 := whN_mono h (Nat.le_max_left n (Classical.choose hx))
  have h4 := whN_mono h2 (Nat.le_max_right n (Classical.choose hx))
  rw [h3] at h4
  exact (Option.some.inj h4).symm
theorem s_while {tc : TT} {tb : TS} {c : En → ER} {b : En → SR} (hc : DTt G W tc c) (hb : DSt G W tb b) : DSt G W (tWhile tc tb) (sWhile c b) := by
  intro s t σ e st E k N post
  unfold sWhile at post
  split at post
  · rename_i hx
    have h2 := Classical.choose_spec (Classical.choose_spec hx)
    generalize Classical.choose (Classical.choose_spec hx) = r at post h2
    generalize Classical.choose hx = n at h2
    refine ⟨fun m σ H => ∃ t2 F2, t2.h = H ∧ Up t t2 ∧ EnvOk G s t2 σ F2.e ∧ StOk G t2 F2.st ∧ whN c b m F2 = some r, ⟨n, t, ⟨e, st⟩, rfl, Up.refl _, E, k, h2⟩, ?_⟩
    rintro m σ2 H2 ⟨t2, F2, rfl, s2, E2, k2, w2⟩
    cases m with
    | zero => cases w2
    | succ m =>
      unfold whN at w2
      refine tst_st (N := N) hc E2 k2 (fun k l st1 q => ?_) ?_ fun k bb st1 q t3 g3 k3 => ?_
      · have q : c F2 = .exc k l st1 := q
        rw [q] at w2
        cases w2
        exact SPost.mono s2 post
      · show ∃ m b st1, c F2 = .val m (.bl b) st1 ∨ ∃ k l, c F2 = .exc k l st1
        cases q : c F2 with
        | val k d st1 =>
          rw [q] at w2
          cases d with
          | bl x => exact ⟨k, x, st1, .inl rfl⟩
          | _ => cases w2; exact post.elim
        | exc k l st1 => exact ⟨.P, true, st1, .inr ⟨k, l, rfl⟩⟩
        | bad => rw [q] at w2; cases w2; exact post.elim
      · have q : c F2 = .val k (.bl bb) st1 := q
        rw [q] at w2
        cases bb with
        | false =>
          cases w2
          exact iteF (post t3 σ2 (s2.trans g3.up) (E2.up g3) k3)
        | true =>
          refine iteT ⟨fun σ H => ∃ t4 F4, t4.h = H ∧ Up t t4 ∧ EnvOk G s t4 σ F4.e ∧ StOk G t4 F4.st ∧ whN c b m F4 = some r, fun σ' H' h => ⟨m, Nat.lt_succ_self _, h⟩, ?_⟩
          refine hb s t3 σ2 F2.e st1 (E2.up g3) k3 _ ?_
          have s3 := s2.trans g3.up
          have w3 : (match b ⟨F2.e, st1⟩ with | .nx e' => whN c b m e' | .ct e' => whN c b m e' | .bk e' => some (.nx e') | r => some r) = some r := w2
          cases q5 : b ⟨F2.e, st1⟩ with
          | nx e5 => rw [q5] at w3; exact fun t6 σ6 s6 E6 k6 => ⟨t6, e5, rfl, s3.trans s6, E6, k6, w3⟩
          | ct e5 => rw [q5] at w3; exact fun t6 σ6 s6 E6 k6 => ⟨t6, e5, rfl, s3.trans s6, E6, k6, w3⟩
          | bk e5 => rw [q5] at w3; cases w3; exact SPost.mono s3 post
          | rt k d st => rw [q5] at w3; cases w3; exact SPost.mono s3 post
          | exc k l e => rw [q5] at w3; cases w3; exact SPost.mono s3 post
          | bad => rw [q5] at w3; cases w3; exact post.elim
  · exact post.elim
end
end Dn
namespace Dn
open PySem PySem.Spec PyProof.Rows L2
section
variable {G : Gm} {W : WX}
abbrev W0 : WX := fun _ _ _ _ => False
def wipeE (e : DE) : List Nat → DE
  | [] => e
  | v :: vs => (wipeE e vs).set v .emp
theorem EnvOk.wipe {s t : Hs} {σ : L2.St} {e : DE} (E : EnvOk G s t σ e) : ∀ vs : List Nat, EnvOk G s t (L2.wipe σ vs) (wipeE e vs)
  | [] => E
  | v :: vs => (E.wipe vs).set (x := .emp) trivial (fun l z => nomatch z)
theorem wipe_agree {σ τ : L2.St} {vs js : List Nat} (hl : τ.length = σ.length) (hj : ∀ j ∈ js, j ∈ vs) (h : ∀ i, i ∉ js → τ[i]? = (L2.wipe σ vs)[i]?) (hl2 : τ.length = (L2.wipe σ vs).length) : L2.wipe τ vs = L2.wipe σ vs := by
  have key : ∀ (σ : L2.St) (us : List Nat) (i : Nat), i ∈ us → i < σ.length → (L2.wipe σ us)[i]? = some none := by
    intro σ us
    induction us with
    | nil => intro i h; cases h
    | cons v us ih =>
      intro i h hi
      unfold L2.wipe
      by_cases z : v = i
      · subst z
        rw [List.getElem?_set_self (by rw [L2.wipe_length]; exact hi)]
      · rw [List.getElem?_set_ne z]
        rcases List.mem_cons.mp h with rfl | h
        · exact absurd rfl z
        · exact ih i h hi
  apply List.ext_getElem?
  intro i
  by_cases hi : i ∈ vs
  · by_cases hlt : i < σ.length
    · rw [key τ vs i hi (by omega), key σ vs i hi hlt]
    · rw [List.getElem?_eq_none (by rw [L2.wipe_length]; omega), List.getElem?_eq_none (by rw [L2.wipe_length]; omega)]
  · rw [L2.wipe_out hi, h i (fun z => hi (hj i z))]
def lcStep (t : D → DE → Option DE) (c f : En → ER) (e : DE) (d : D) (st : Sto) : Option (Option D × Sto) := match t d e with
  | none => none
  | some e2 => (match c ⟨e2, st⟩ with
    | .val _ (.bl b) st1 => if b = true then (match f ⟨e2, st1⟩ with | .val .P y st2 => some (some y, st2) | .val .N y st2 => some (some y, st2) | _ => none) else some (none, st1)
    | _ => none)
def lcGo (k : D → Sto → Option (Option D × Sto)) : List D → Sto → Option (List D × Sto)
  | [], st => some ([], st)
  | d :: l, st => (k d st).bind fun o => (lcGo k l o.2).bind fun r => some (o.1.toList ++ r.1, r.2)
def dLc (src : En → AR) (t : D → DE → Option DE) (c f : En → ER) (vs : List Nat) : En → ER := fun E => match src E with
  | .ok _ l st => if l.length ≤ 1000000 then ofOpt (lcGo (lcStep t c f (wipeE E.e vs)) l st) fun r => .val .N (.lst r.1) r.2 else .bad
  | .exc k l st => .exc k l st
  | .bad => .bad
theorem t_yes : DTt G W tYes (fun E => .val .P (.bl true) E.st) := fun s t σ e st E k Q post => post t (Gro.refl k) k
theorem v_lc {wi : TI} {g : TG} {tt : TT} {te : TE} {vs js : List Nat} {src : En → AR} {t : D → DE → Option DE} {c f : En → ER} (hi : DIt G W wi src) (hg : DTg G g js t) (hj : ∀ j ∈ js, j ∈ vs) (ht : DTt G W0 tt c) (he : DEv G W0 te f) : DEv G W (tLc wi g tt te vs) (dLc src t c f vs) := by
  intro s t0 σ e st E k0 Q post
  refine hi s t0 σ e st E k0 _ ?_
  unfold dLc at post
  cases q : src ⟨e, st⟩ with
  | ok p l st1 =>
    rw [q] at post
    obtain ⟨hlen, post⟩ := RPost.cond _ _ post
    obtain ⟨out, hout, post⟩ := RPost.opt _ _ post
    intro t1 J g1 k1 it Dl hD
    have hDH : t0.h Dl = none := by
      cases q : t0.h Dl with
      | none => rfl
      | some o =>
        by_cases i : Dl ∈ t0.as
        · exact absurd (g1.a.mem i) (k1.new hD)
        · rw [g1.h Dl o q i] at hD; cases hD
    have hD0 : s.h Dl = none := by
      cases q : s.h Dl with
      | none => rfl
      | some o =>
        by_cases i : Dl ∈ s.as
        · exact absurd (E.gr.a.mem i) (k0.new hDH)
        · rw [E.gr.h Dl o q i] at hDH; cases hDH
    have hDf : t1.f Dl = none := k1.sf.free hD
    have hDa : Dl ∉ t1.as := k1.new hD
    have Ew := (E.up g1).wipe vs
    have hne : ∀ (j : Nat) (m : List D), (L2.wipe σ vs)[j]? = some (some (.ref Dl)) → (wipeE e vs)[j]? = some (.own m) → False := fun j m a b => by
      obtain ⟨o, h1, p', vs', h2, _, _, h3, _⟩ := Ew.slot b
      rw [a] at h1; cases h1
      cases h2
      rw [hD] at h3; cases h3
    have gd := g1.chg (o := .lst []) hDH hDf
    refine ⟨fun i m H' => m = l.length - i ∧ i ≤ l.length ∧ ∃ t2 st2 acc vacc rest, t2.h = H' ∧ Up t1 t2 ∧ Gro t0 t2 ∧ StOk G t2 st2 ∧ EnvOk G s t2 (L2.wipe σ vs) (wipeE e vs) ∧ t2.h Dl = some (.lst vacc) ∧ IsL G t2.as t2.f vacc acc ∧ t2.f Dl = none ∧ Dl ∉ t2.as ∧ acc.length ≤ i ∧
      lcGo (lcStep t c f (wipeE e vs)) (l.drop i) st2 = some (rest, out.2) ∧ acc ++ rest = out.1, ⟨l.length, by simp, Nat.zero_le _, ⟨t1.as, t1.f, upd t1.h Dl (.lst [])⟩, st1, [], [], out.1, rfl, ⟨Ext.refl _, Same.refl _⟩, gd, k1.chg hDf hDa, Ew.other hD0 hDf hne, upd_same, .nil, hDf, hDa, Nat.zero_le _, hout, rfl⟩, ?_⟩
    rintro i m H2 ⟨rfl, hi, t2, st2, acc, vacc, rest, rfl, s2, g2, k2, E2, d2, a2, n2, na2, l2, r2, o2⟩
    obtain ⟨i1, i2⟩ := it i t2 st2 s2 k2
    by_cases hlt : i < l.length
    · right
      have hd : l[i]? = some l[i] := List.getElem?_eq_getElem hlt
      obtain ⟨go, y⟩ := i2 _ hd
      rw [List.drop_eq_getElem_cons hlt] at r2
      refine ⟨go, fun H' => i + 1 ≤ l.length ∧ ∃ t2 st2 acc vacc rest, t2.h = H' ∧ Up t1 t2 ∧ Gro t0 t2 ∧ StOk G t2 st2 ∧ EnvOk G s t2 (L2.wipe σ vs) (wipeE e vs) ∧ t2.h Dl = some (.lst vacc) ∧ IsL G t2.as t2.f vacc acc ∧ t2.f Dl = none ∧ Dl ∉ t2.as ∧ acc.length ≤ i + 1 ∧
        lcGo (lcStep t c f (wipeE e vs)) (l.drop (i + 1)) st2 = some (rest, out.2) ∧ acc ++ rest = out.1, fun H' h => ⟨l.length - (i + 1), by omega, rfl, h⟩, fun x H' hy => ?_⟩
      obtain ⟨t3, rfl, g3, k3, i3⟩ := y x H' hy
      unfold lcGo at r2
      cases sk : lcStep t c f (wipeE e vs) l[i] st2 with
      | none => rw [sk] at r2; cases r2
      | some o =>
        rw [sk] at r2
        have r2 : ((lcGo (lcStep t c f (wipeE e vs)) (l.drop (i + 1)) o.2).bind fun r => some (o.1.toList ++ r.1, r.2)) = some (rest, out.2) := r2
        cases lg : lcGo (lcStep t c f (wipeE e vs)) (l.drop (i + 1)) o.2 with
        | none => rw [lg] at r2; cases r2
        | some rest' =>
          rw [lg] at r2
          have r3 : (o.1.toList ++ rest'.1, rest'.2) = (rest, out.2) := Option.some.inj r2
          have r4 : o.1.toList ++ rest'.1 = rest := (Prod.mk.inj r3).1
          have r5 : rest'.2 = out.2 := (Prod.mk.inj r3).2
          have lg' : lcGo (lcStep t c f (wipeE e vs)) (l.drop (i + 1)) o.2 = some (rest'.1, out.2) := by rw [lg, ← r5]
          unfold lcStep at sk
          cases q3 : t l[i] (wipeE e vs) with
          | none => rw [q3] at sk; cases sk
          | some e3 =>
            rw [q3] at sk
            refine hg s t3 (L2.wipe σ vs) (wipeE e vs) st2 x l[i] (E2.up g3) k3 i3 _ e3 q3 fun σ4 E4 l4 w4 => ?_
            refine ⟨wipe_agree (by rw [l4, L2.wipe_length]) hj w4 l4, ?_⟩
            refine ht s t3 σ4 e3 st2 E4 k3 _ ?_
            have sk' : (match c ⟨e3, st2⟩ with
              | .val _ (.bl b) st1 => if b = true then (match f ⟨e3, st1⟩ with | .val .P y st2 => some (some y, st2) | .val .N y st2 => some (some y, st2) | _ => none) else some (none, st1)
              | _ => none) = some o := sk
            cases q4 : c ⟨e3, st2⟩ with
            | exc k l st => rw [q4] at sk'; cases sk'
            | bad => rw [q4] at sk'; cases sk'
            | val mm d st4 =>
              rw [q4] at sk'
              cases d with
              | bl b =>
                intro t5 g5 k5
                have gg := g3.trans g5
                cases b with
                | false =>
                  cases sk'
                  refine iteF ⟨hlt, t5, st4, acc, vacc, rest'.1, rfl, s2.trans gg.up, g2.trans gg, k5, E2.up gg, gg.h _ _ d2 na2, a2.up gg.a gg.f, gg.n _ _ d2 n2, (fun m => (gg.w Dl m).elim na2 fun z => by rw [d2] at z; cases z), by omega, lg', ?_⟩
                  rw [← o2, ← r4]; rfl
                | true =>
                  refine iteT (he s t5 σ4 e3 st4 (E4.up g5) k5 _ ?_)
                  have fin : ∀ y st6 t6 v, Gro t5 t6 → StOk G t6 st6 → Is G t6.as t6.f v y → o = (some y, st6) → ∃ acc, t6.h Dl = some (.lst acc) ∧ acc.length < sizeLine ∧ (i + 1 ≤ l.length ∧ ∃ t2 st2 acc_1 vacc rest, t2.h = upd t6.h Dl (.lst (acc ++ [v])) ∧ Up t1 t2 ∧ Gro t0 t2 ∧ StOk G t2 st2 ∧ EnvOk G s t2 (L2.wipe σ vs) (wipeE e vs) ∧
                      t2.h Dl = some (.lst vacc) ∧ IsL G t2.as t2.f vacc acc_1 ∧ t2.f Dl = none ∧ Dl ∉ t2.as ∧ acc_1.length ≤ i + 1 ∧ lcGo (lcStep t c f (wipeE e vs)) (l.drop (i + 1)) st2 = some (rest, out.2) ∧ acc_1 ++ rest = out.1) := fun y st6 t6 v g6 k6 i6 ho => by
                    subst ho
                    have gh := gg.trans g6
                    have nn := gh.n _ _ d2 n2
                    have na : Dl ∉ t6.as := fun m => (gh.w Dl m).elim na2 fun z => by rw [d2] at z; cases z
                    have cl := a2.len
                    refine ⟨vacc, gh.h _ _ d2 na2, by rw [cl]; exact szlt (by omega), hlt, ⟨t6.as, t6.f, upd t6.h Dl (.lst (vacc ++ [v]))⟩, st6, acc ++ [y], vacc ++ [v], rest'.1, rfl, ?_, (g2.trans gh).chg hDH nn, k6.chg nn na, (E2.up gh).other hD0 nn hne, upd_same, (a2.up gh.a gh.f).append (.one i6), nn, na, by simp; omega, lg', ?_⟩
                    · exact ⟨s2.a.trans gh.a, s2.f.trans gh.f⟩
                    · rw [← o2, ← r4]
                      simp
                  have sk2 : (match f ⟨e3, st4⟩ with | .val .P y st2 => some (some y, st2) | .val .N y st2 => some (some y, st2) | _ => none) = some o := sk'
                  cases q6 : f ⟨e3, st4⟩ with
                  | val m6 y st6 =>
                    rw [q6] at sk2
                    intro t6 v g6 k6 o6
                    cases m6 with
                    | P => exact fin y st6 t6 v g6 k6 o6 (Option.some.inj sk2).symm
                    | B => cases sk2
                    | N =>
                      obtain ⟨f7, g7, k7, _, i7⟩ := o6.freeze g6 k6 (by decide)
                      exact fin y st6 ⟨t6.as, f7, t6.h⟩ v g7 k7 i7 (Option.some.inj sk2).symm
                  | exc k l st => rw [q6] at sk2; cases sk2
                  | bad => rw [q6] at sk2; cases sk2
              | _ => cases sk'
    · left
      have : i = l.length := by omega
      subst this
      refine ⟨i1 (Nat.le_refl _), ?_⟩
      rw [List.drop_length] at r2
      have r3 : (([] : List D), st2) = (rest, out.2) := Option.some.inj r2
      have r4 : [] = rest := (Prod.mk.inj r3).1
      have r5 : st2 = out.2 := (Prod.mk.inj r3).2
      subst r4
      rw [List.append_nil] at o2
      rw [← o2, ← r5] at post
      exact post t2 _ g2 k2 ⟨Dl, vacc, acc, rfl, rfl, d2, a2, na2, hDH, n2⟩
  | exc c l st1 => rw [q] at post; exact post
  | bad => rw [q] at post; exact post
def sRaise (c : Nat) : En → SR := fun E => .exc c [] E
theorem s_raise {c : Nat} {C : Addr} (hc : G.ca c = C) : DSt G W (fun _ σ H => (fun (_ : L2.St) (H : Hp) (Q : XK) => Q (.ref C) none H) σ H fun cls d H' => W cls d σ H') (sRaise c) := by
  intro s t σ e st E k N post
  subst hc
  exact post t σ none (Up.refl _) E k (.inl ⟨rfl, rfl⟩)
def SR.ret : SR → ER
  | .nx E => .val .P .non E.st
  | .rt m d st => .val m d st
  | .exc c l E => .exc c l E.st
  | _ => .bad
def startE (n : Nat) (ds : List D) : DE := ds.map .val ++ List.replicate (n - ds.length) .emp
def fnD (n N : Nat) (g : En → SR) : List D → Sto → ER := fun ds st => if ds.length = n then (g ⟨startE N ds, st⟩).ret else .bad
theorem start_ok {N : List Str} {t : Hs} {st : Sto} {vs : List V} {ds : List D} (k : StOk G t st) (h : IsL G t.as t.f vs ds) : EnvOk G t t (L2.start N vs) (startE N.length ds) := by
  have hl := h.len
  have noown : ∀ (j : Nat) (m : List D), (startE N.length ds)[j]? ≠ some (.own m) := fun j m z => by
    unfold startE at z
    rw [List.getElem?_append] at z
    split at z
    · rw [List.getElem?_map] at z
      cases q : ds[j]? <;> rw [q] at z <;> cases z
    · rw [List.getElem?_replicate] at z
      split at z <;> cases z
  refine ⟨Gro.refl k, by simp [L2.start, startE, hl], fun i o sl a b => ?_, fun i j p l m hij a b => absurd b (noown i l)⟩
  unfold L2.start at a
  unfold startE at b
  rw [List.getElem?_append] at a b
  rw [List.length_map] at a b
  split at a
  · rename_i hi
    rw [if_pos (by omega)] at b
    rw [List.getElem?_map] at a b
    cases q : vs[i]? with
    | none => rw [q] at a; cases a
    | some v =>
      obtain ⟨d, h1, h2⟩ := h.getV q
      rw [q] at a; rw [h1] at b
      cases a; cases b
      exact ⟨v, rfl, h2⟩
  · rename_i hi
    rw [if_neg (by omega)] at b
    rw [List.getElem?_replicate] at b
    split at b
    · cases b; trivial
    · cases b
theorem body_ok {N : List Str} {vs : List V} {H : Hp} {Q : VK} {E : XK} {ts : TS} {g : En → SR} {n : Nat} {D0 : Ends} (h2 : DSt G (fun c x _ H => E c x H) ts g) (hnx : D0.nx = fun _ H => Q .non H) (hrt : D0.rt = Q)
    (h : spF G (fnD n N.length g) vs H Q E) : ts D0 (L2.start N vs) H := by
  obtain ⟨t, ds, st, rfl, k, i, p⟩ := h
  obtain ⟨hl, p⟩ := RPost.cond _ _ p
  refine h2 t t _ _ st (start_ok k i) k _ ?_
  cases q : g ⟨startE N.length ds, st⟩ with
  | nx e => rw [q] at p; exact fun t' σ' s' E' k' => by rw [hnx]; exact p t' .non E'.gr k' .non
  | rt m d st1 => rw [q] at p; exact fun t' v s' g' k' o => by rw [hrt]; exact p t' v g' k' o
  | bk e => rw [q] at p; exact p.elim
  | ct e => rw [q] at p; exact p.elim
  | exc c l e => rw [q] at p; exact fun t' σ' x s' E' k' o => p t' x E'.gr k' o
  | bad => rw [q] at p; exact p.elim
theorem sp_len {n N : Nat} {g : En → SR} {vs : List V} {H : Hp} {Q : VK} {E : XK} (h : spF G (fnD n N g) vs H Q E) : vs.length = n := by
  obtain ⟨t, ds, st, rfl, k, i, p⟩ := h
  unfold fnD at p
  split at p
  · rename_i hl; rw [i.len]; exact hl
  · exact p.elim
theorem fn_ok {P : Program} {w : World} {K : PySem.W.Frag} {mg : Str → Option Value} {base : Heap} {x qual : Str} {st : Stmt} {f : Addr} {fd : FuncData} {N ps : List Str} {k : Nat} {g : En → SR} {n : Nat} (hn : ps.length = n) {m : Nat} (hm : N.length = m)
    (F : Fun K x qual st f fd) (S : FnScope N ps (defScope st))
    (hbody : ∀ (cdv : Value) (A : Around) (outer : List Env) (s : Shared) (H : Hp) (E : XK), Room k (A.deeper (envOfC qual (defScope st) s.heap.objs.size f cdv)) →
      ∃ t, PSs (cxOf (L2.CX P w) P w K mg base N qual (defScope st) f cdv A outer s H E) (defBody st) t ∧ DSt G (fun c x _ H => E c x H) t g) : FnOk P w K mg base (L2.CX P w) (k + 1) f fd ps (spF G (fnD n m g)) := by
  subst hn hm
  refine F.okX S (fun vs H Q E h => sp_len h) fun cdv A outer s H vs Q E hr h => ?_
  obtain ⟨t, h1, h2⟩ := hbody cdv A outer s H E hr
  exact ⟨t, h1, body_ok h2 rfl rfl h⟩
end
end Dn
namespace Dn
open PySem PySem.Spec PyProof.Rows L2
def pickL {α : Type} (idx : List Nat) (l : List α) : List α := idx.filterMap fun k => l[k]?
structure CallB (K : PySem.W.Frag) (fd : FuncData) (ps : List Str) (n : Nat) (ks : List Str) (idx : List Nat) (dvs : List V) : Prop where
  ex : ∃ its : List Value, Vals dvs its ∧ ∀ (s : Shared) (us ws : List Value), K.In s.heap → us.length = n → ws.length = ks.length → BindsTo s fd ⟨us, ks.zip ws⟩ (ps.zip (pickL idx (us ++ ws ++ its)))
theorem vals_pick {vs : List V} {us : List Value} (h : Vals vs us) : ∀ idx : List Nat, Vals (pickL idx vs) (pickL idx us)
  | [] => .nil
  | k :: idx => by
    have ih := vals_pick h idx
    unfold pickL at ih ⊢
    rw [List.filterMap_cons, List.filterMap_cons]
    cases q : vs[k]? with
    | none => rw [h.none_of q]; exact ih
    | some v => obtain ⟨u, h1, h2⟩ := h.get q; rw [h1]; exact .cons h2 ih
theorem isL_pick {G : Gm} {as : List Addr} {H : Hp} {vs : List V} {ds : List D} (h : IsL G as H vs ds) : ∀ idx : List Nat, IsL G as H (pickL idx vs) (pickL idx ds)
  | [] => .nil
  | k :: idx => by
    have ih := isL_pick h idx
    unfold pickL at ih ⊢
    rw [List.filterMap_cons, List.filterMap_cons]
    cases q : ds[k]? with
    | none =>
      have : vs[k]? = none := by
        rw [List.getElem?_eq_none_iff] at q ⊢
        rw [h.len]; exact q
      rw [this]; exact ih
    | some d => obtain ⟨u, h1, h2⟩ := h.get q; rw [h1]; exact .cons h2 ih
def toV : D → V
  | .bl b => .bl b
  | .int i => .int i
  | .str x => .str x
  | _ => .non
theorem is_toV {G : Gm} {as : List Addr} {H : Hp} {d : D} (h : flat d = true) : Is G as H (toV d) d := by
  cases d <;> first | exact .non | exact .bl _ | exact .int _ | exact .str _ | cases h
theorem isL_toV {G : Gm} {as : List Addr} {H : Hp} : ∀ {ds : List D}, ds.all flat = true → IsL G as H (ds.map toV) ds
  | [], _ => .nil
  | d :: ds, h => by
    have h' : flat d = true ∧ ds.all flat = true := by simpa using h
    exact .cons (is_toV h'.1) (isL_toV h'.2)
def tCallG (n m : Nat) (idx : List Nat) (dvs : List V) (sp : Sp) (E : L2.St → XK) (t tk : TA) : TE := fun σ H Q => t σ H fun vs H1 => tk σ H1 fun zs H2 => vs.length = n ∧ zs.length = m ∧ sp (pickL idx (vs ++ zs ++ dvs)) H2 Q (E σ)
section
variable {X : Cx} {CX : CXT} {k n : Nat} {f : Addr} {fd : FuncData} {ps ks : List Str} {idx : List Nat} {dvs : List V} {sp : Sp} {E : L2.St → XK} {x : Str} {p pos : Pos} {e : Expr} {es : List Expr} {kws : List Keyword} {t tk : TA}
theorem run_fnG {pins : List (Addr × Obj)} {σ : L2.St} {H : Hp} {s : Shared} {Q : VK} {us ws : List Value} {vs zs : List V} (F : FnOk X.prog X.w X.K X.mg X.base CX k f fd ps sp) (hr : Room k X.A) (hb : CallB X.K fd ps n ks idx dvs) (hx : PassesAt CX X σ (E σ))
    (I : Inv X pins σ H s) (r : Vals vs us) (rz : Vals zs ws) (l1 : vs.length = n) (l2 : zs.length = ks.length) (h : sp (pickL idx (vs ++ zs ++ dvs)) H Q (E σ)) : wpAny (model X.prog X.w) X.A (call (.ref f) us (ks.zip ws)) (EP X pins σ Q) X.xe s := by
  obtain ⟨its, rd, hb⟩ := hb.ex
  refine wpAny_call (codeAny_mono (F.run X.A X.stack s H ⟨us, ks.zip ws⟩ (pickL idx (us ++ ws ++ its)) (pickL idx (vs ++ zs ++ dvs)) Q (E σ) hr I.env0 (hb s us ws I.kIn (r.length.symm.trans l1) (rz.length.symm.trans l2)) (vals_pick ((r.append rz).append rd) idx) h) fun r s' hq => ?_)
  cases r with
  | error e => exact hx pins H s e s' I hq
  | ok fl =>
    cases fl with
    | ret u => exact I.after hq
    | next => exact False.elim hq
    | brk => exact False.elim hq
    | cont => exact False.elim hq
theorem pe_gN (F : FnOk X.prog X.w X.K X.mg X.base CX k f fd ps sp) (hr : Room k X.A) (hg : Gl X x) (hm : X.mg x = some (.ref f)) (hk : PySem.W.keepIn X.K (.ref f) = true) (hb : CallB X.K fd ps n [] idx dvs) (hx : ∀ σ, PassesAt CX X σ (E σ))
    (ha : PA X (e :: es) t) (hdb : (x == ("__debug__" : Str)) = false := by decide) (he : starEach (e :: es) X.env = (false, eval e X.env) :: starEach es X.env := by rfl) (hpl : (backTo pos (starEach es X.env)).any (·.1) = false := by rfl) :
    PE X (.Call (.Name x p) (e :: es) [] pos) (tCallG n 0 idx dvs sp E t tNil) := by
  refine ⟨fun pins s σ H Q I h => ?_⟩
  refine wpAny_Call_Name_kw (ld_glob I hg hm ?_ hdb)
  refine PySem.W.callWith_K (h₀ := X.base) I.ok.mod.kin hk (thn (ha.run pos pins s σ H _ I h) fun us s1 ⟨vs, H1, I1, r, l1, l2, q⟩ => ⟨I1.kIn, ?_⟩) he hpl
  exact run_fnG (ks := []) (ws := []) (zs := []) F hr hb (hx σ) I1 r .nil l1 rfl q
end
end Dn
namespace Dn
open PySem PySem.Spec PyProof.Rows L2
section
variable {G : Gm} {W : WX}
def dCallG (F : List D → Sto → ER) (n m : Nat) (idx : List Nat) (dd : List D) (f g : En → AR) : En → ER := fun E => match f E with
  | .ok true l st => (match g ⟨E.e, st⟩ with
    | .ok true z st1 => if l.length = n ∧ z.length = m then F (pickL idx (l ++ z ++ dd)) st1 else .bad
    | .exc c l st => .exc c l st
    | _ => .bad)
  | .exc c l st => .exc c l st
  | _ => .bad
theorem v_callG {F : List D → Sto → ER} {n m : Nat} {idx : List Nat} {dd : List D} {ta tk : TA} {f g : En → AR} (hd : dd.all flat = true) (ha : DAr G W ta f) (hk : DAr G W tk g) : DEv G W (tCallG n m idx (dd.map toV) (spF G F) (WE W) ta tk) (dCallG F n m idx dd f g) := by
  intro s t σ e st E k Q post
  refine ha s t σ e st E k _ ?_
  unfold dCallG at post
  cases q : f ⟨e, st⟩ with
  | ok p l st1 =>
    rw [q] at post
    cases p with
    | false => exact post.elim
    | true =>
      have post : RPost G W t σ Q (match g ⟨e, st1⟩ with
        | .ok true z st1 => if l.length = n ∧ z.length = m then F (pickL idx (l ++ z ++ dd)) st1 else .bad
        | .exc c l st => .exc c l st
        | _ => .bad) := post
      intro t1 vs g1 k1 i1 u1
      have i1 := i1 rfl
      refine hk s t1 σ e st1 (E.up g1) k1 _ ?_
      cases q2 : g ⟨e, st1⟩ with
      | ok p2 z st2 =>
        rw [q2] at post
        cases p2 with
        | false => exact post.elim
        | true =>
          obtain ⟨c, post⟩ := RPost.cond (l.length = n ∧ z.length = m) (F (pickL idx (l ++ z ++ dd)) st2) post
          intro t2 zs g2 k2 i2 u2
          have i2 := i2 rfl
          refine ⟨by rw [u1.len]; exact c.1, by rw [u2.len]; exact c.2, t2, _, st2, rfl, k2, isL_pick (((i1.up g2.a g2.f).append i2).append (isL_toV hd)) idx, (RPost.step (g1.trans g2) k2 post).w (fun c x H' h => h)⟩
      | exc c l st2 => rw [q2] at post; exact fun t' x g' => post t' x (g1.trans g')
      | bad => rw [q2] at post; exact post
  | exc c l st1 => rw [q] at post; exact post
  | bad => rw [q] at post; exact post
def tyN : D → String
  | .non => "NoneType"
  | .bl _ => "bool"
  | .int _ => "int"
  | .str _ => "str"
  | .tup _ => "tuple"
  | .lst _ => "list"
  | .scr _ => "list"
  | .obj _ _ => "object"
  | .ptr _ => "object"
def isT (T : String) : D → Sto → ER
  | .obj _ _, _ => .bad
  | .scr _, _ => .bad
  | .ptr _, _ => .bad
  | d, st => ofOpt (kitB (tyN d) T) fun b => .val .P (.bl b) st
def plainT : D → Prop
  | .obj _ _ => False
  | .scr _ => False
  | .ptr _ => False
  | _ => True
theorem tyX_of {t : Hs} {v : V} {d : D} (s : Same t.f t.h) (h : U G t v d) (hd : plainT d) : TyX G.K t.h v (.type (tyN d)) := by
  cases d with
  | non => obtain rfl := h.non; exact .base .non
  | bl b => obtain rfl := h.bl; exact .base (.bl b)
  | int i => obtain rfl := h.int; exact .base (.int i)
  | str x => obtain rfl := h.str; exact .base (.str x)
  | tup l =>
    obtain ⟨p, vs, rfl, a, b⟩ := h.tup s
    rcases a with (a | ⟨o, a⟩) | ⟨o, its, n, hk, hc, _⟩
    · exact .base (.tup a)
    · exact .fTuple a
    · exact .kTuple hk hc
  | lst l => obtain ⟨p, vs, rfl, a, b⟩ := h.lst s; exact .base (.lst a)
  | obj c l => exact hd.elim
  | scr a => exact hd.elim
  | ptr n => exact hd.elim
def dIsi (T : String) (f : En → ER) : En → ER := fun E => (f E).bind (isT T)
def clr (e : DE) : DE := e.map fun s => match s with | .exn => .emp | .clo _ => .emp | s => s
theorem SlotOk.ea {s t : Hs} {o : Option V} {sl : SL} (x : Addr) (h : SlotOk G s t o sl) (hs : sl ≠ .exn ∧ ∀ ds, sl ≠ .clo ds) : SlotOk (G.at_ x) s t o sl := by
  cases sl with
  | emp => trivial
  | exn => exact absurd rfl hs.1
  | clo ds => exact absurd rfl (hs.2 ds)
  | val d => obtain ⟨v, a, b⟩ := h; exact ⟨v, a, b.ea x⟩
  | own l => obtain ⟨p, vs, a, b, c, d, e, f⟩ := h; exact ⟨p, vs, a, b, c, d, e.ea x, f⟩
theorem clr_get {e : DE} {i : Nat} {s : SL} (h : (clr e)[i]? = some s) : (s ≠ .exn ∧ ∀ ds, s ≠ .clo ds) ∧ (s = .emp ∨ e[i]? = some s) := by
  unfold clr at h
  rw [List.getElem?_map] at h
  cases q : e[i]? with
  | none => rw [q] at h; cases h
  | some s' =>
    rw [q] at h
    cases s' <;> cases h <;> first | exact ⟨⟨(fun z => nomatch z), fun _ z => nomatch z⟩, .inl rfl⟩ | exact ⟨⟨(fun z => nomatch z), fun _ z => nomatch z⟩, .inr rfl⟩
theorem EnvOk.ea {s t : Hs} {σ : L2.St} {e : DE} (x : Addr) (E : EnvOk G s t σ e) : EnvOk (G.at_ x) s t σ (clr e) := by
  refine ⟨E.gr, by rw [E.len]; simp [clr], fun i o s a b => ?_, fun i j p l m hij a b c d => ?_⟩
  · obtain ⟨h1, h2 | h2⟩ := clr_get b
    · subst h2; trivial
    · exact (E.at_ i o s a h2).ea x h1
  · obtain ⟨_, h2 | h2⟩ := clr_get b
    · cases h2
    · obtain ⟨_, h3 | h3⟩ := clr_get d
      · cases h3
      · exact E.dis i j p l m hij a h2 c h3
theorem ObOk.ea {s : Hs} {a : Addr} {o : Ob} (x : Addr) (h : ObOk G s a o) : ObOk (G.at_ x) s a o := by
  cases o with
  | lst l => obtain ⟨vs, h1, h2⟩ := h; exact ⟨vs, h1, h2.ea x⟩
  | ins c l => obtain ⟨dx, vs, h1, h2, h3⟩ := h; exact ⟨dx, vs, h1, h2, h3.ea x⟩
  | tbl q => exact h
  | dct l => obtain ⟨kvs, h1, h2⟩ := h; exact ⟨kvs, h1, h2.ea x⟩
theorem StOk.ea {s : Hs} {st : Sto} (x : Addr) (k : StOk G s st) : StOk (G.at_ x) s st := ⟨k.sf, k.len, k.nd, fun n a o h1 h2 => (k.ob n a o h1 h2).ea x, k.nf, k.tb, fun da h => by
  obtain ⟨xs, h1, h2, h3⟩ := k.ex da h
  exact ⟨xs, h1, h2, h3.ea x⟩⟩
def sTryAs (i : Nat) (catch? : Nat → Option Bool) (g : En → SR) (h : Nat → List D → En → SR) : En → SR := fun E => match g E with
  | .exc c l E1 => (match catch? c with
    | some true => (match h c l ⟨(clr E1.e).set i .exn, E1.st⟩ with
      | .nx E2 => .nx ⟨(clr E2.e).set i .emp, E2.st⟩
      | .bk E2 => .bk ⟨(clr E2.e).set i .emp, E2.st⟩
      | .ct E2 => .ct ⟨(clr E2.e).set i .emp, E2.st⟩
      | .rt m d st => .rt m d st
      | _ => .bad)
    | some false => .exc c l E1
    | none => .bad)
  | r => r
theorem VOk.ea {s t : Hs} {m : Md} {v : V} {d : D} (x : Addr) (h : VOk G s t m v d) : VOk (G.at_ x) s t m v d := by
  cases m with
  | P => exact Is.ea x _ h
  | B => obtain ⟨p, vs, l, a, b, c, e, f⟩ := h; exact ⟨p, vs, l, a, b, c, e.ea x, f⟩
  | N => obtain ⟨p, vs, l, a, b, c, e, f, n, z⟩ := h; exact ⟨p, vs, l, a, b, c, e.ea x, f, n, z⟩
def dIsE (i : Nat) (b : Option Bool) : En → ER := fun E => match E.e[i]? with
  | some .exn => ofOpt b fun b => .val .P (.bl b) E.st
  | _ => .bad
end
theorem fn_okD {G : Gm} {P : Program} {w : World} {K : PySem.W.Frag} {mg : Str → Option Value} {base : Heap} {x qual : Str} {params : Arguments} {body : List Stmt} {scope : Scope} {dvs : List V} {f : Addr} {fd : FuncData} {N ps : List Str} {k : Nat} {g : En → SR} {n : Nat} (hn : ps.length = n) {m : Nat} (hm : N.length = m)
    (F : FunD K x qual params body scope dvs [] f fd) (S : FnScope N ps scope)
    (hbody : ∀ (cdv : Value) (A : Around) (outer : List Env) (s : Shared) (H : Hp) (E : XK), Room k (A.deeper (envOfC qual scope s.heap.objs.size f cdv)) →
      ∃ t, PSs (cxOf (L2.CX P w) P w K mg base N qual scope f cdv A outer s H E) body t ∧ DSt G (fun c x _ H => E c x H) t g) : FnOk P w K mg base (L2.CX P w) (k + 1) f fd ps (spF G (fnD n m g)) := by
  subst hn hm
  refine F.ok S (fun vs H Q E h => sp_len h) fun cdv A outer s H vs Q E hr h => ?_
  obtain ⟨t, h1, h2⟩ := hbody cdv A outer s H E hr
  exact ⟨t, h1, body_ok h2 rfl rfl h⟩
theorem callB_d {K : PySem.W.Frag} {x qual : Str} {params : Arguments} {body : List Stmt} {scope : Scope} {T : Addr} {kV doc pm : Value} {an : Option Addr} {cdv ct : Value} {o : Obj} {its : List Value} {m : Nat} {dvs : List V} {ps ks : List Str} {n : Nat} {idx : List Nat} (lT : K.lookup T = some o) (oT : o.data = .seq its.toArray m) (rd : Vals dvs its)
    (h : ∀ (us ws : List Value), us.length = n → ws.length = ks.length → ∃ k, bindArgs (PySem.W.fnOf x qual params body scope (.ref T) kV doc pm an cdv ct) ⟨us, ks.zip ws⟩ = seqItems? (.ref T) >>= k ∧ k (some its.toArray) = pure (ps.zip (pickL idx (us ++ ws ++ its)))) :
    CallB K (PySem.W.fnOf x qual params body scope (.ref T) kV doc pm an cdv ct) ps n ks idx dvs :=
  ⟨its, rd, fun s us ws X l1 l2 => BindsTo.of_looks fun M => by
    obtain ⟨k, e1, e2⟩ := h us ws l1 l2
    rw [e1]
    exact looks_items X lT oT (.of_pure e2)⟩
theorem callB_n {K : PySem.W.Frag} {fd : FuncData} {ps ks : List Str} {n : Nat} {idx : List Nat} (h : ∀ (us ws : List Value), us.length = n → ws.length = ks.length → bindArgs fd ⟨us, ks.zip ws⟩ = pure (ps.zip (pickL idx (us ++ ws ++ [])))) : CallB K fd ps n ks idx [] :=
  ⟨[], .nil, fun s us ws X l1 l2 => .of_eq (h us ws l1 l2)⟩
def nilOnly (l : List D) (g : En → SR) : En → SR := fun e => match l with
  | [] => g e
  | _ => .bad
def spLaw (K : PySem.W.Frag) : Sp := fun vs H Q _ => ∃ (a : Addr) (ns : List Int), vs = [.ref a] ∧ SqL K H a (ns.map V.int) ∧ ns.length ≤ 63 ∧ (∀ z ∈ ns, Builtin.Int.intBits z ≤ 1048576) ∧ ∀ H', Q (.bl true) H'
def Yes (r : ER) : Prop := ∃ st, r = .val .P (.bl true) st
theorem law_imp {G : Gm} {F : List D → Sto → ER} (hG : G.tb = []) (hF : ∀ ns : List Int, ns.length ≤ 63 → (∀ z ∈ ns, Builtin.Int.intBits z ≤ 1048576) → Yes (F [.scr ns] [])) (vs : List V) (H : Hp) (Q : VK) (E : XK) (h : spLaw G.K vs H Q E) (hE : G.ed = none := by rfl) : spF G F vs H Q E := by
  obtain ⟨a, ns, rfl, hS, h1, h2, k⟩ := h
  obtain ⟨st, hF⟩ := hF ns h1 h2
  refine ⟨⟨[], H, H⟩, [.scr ns], [], rfl, ⟨Same.refl _, rfl, List.nodup_nil, fun n a o h => by simp at h, fun x m => by simp at m, fun n P h => by rw [hG] at h; simp at h, fun da h => by rw [hE] at h; cases h⟩, .cons (.scr hS) .nil, ?_⟩
  rw [hF]
  intro t v g k' o
  cases o
  exact k t.h
end Dn
namespace Dn
open PySem PySem.Spec PyProof.Rows L2
section
variable {G : Gm} {W : WX}
def DMt (G : Gm) (r : V → List V → Hp → VK → Prop) (op : List D → List D → Option (D × List D)) : Prop :=
  ∀ (s : Hs) (p : Addr) (vs : List V) (l : List D) (xs : List V) (ds : List D) (o : D × List D), s.h p = some (.lst vs) → IsL G s.as s.f vs l → IsL G s.as s.f xs ds → op l ds = some o → Same s.f s.h →
    ∃ v vs', Is G s.as s.f v o.1 ∧ IsL G s.as s.f vs' o.2 ∧ ∀ Q : VK, Q v (upd s.h p (.lst vs')) → r (.ref p) xs s.h Q
def mAppend (l ds : List D) : Option (D × List D) := match ds with
  | [d] => if l.length < 1000000 then some (.non, l ++ [d]) else none
  | _ => none
def mInsert (l ds : List D) : Option (D × List D) := match ds with
  | [.int i, d] => if l.length < 1000000 ∧ 0 ≤ i ∧ i < 2 ^ 63 then some (.non, l.take i.toNat ++ [d] ++ l.drop i.toNat) else none
  | _ => none
def mPop (l ds : List D) : Option (D × List D) := match ds with
  | [] => (match l[l.length - 1]? with | some d => some (d, l.dropLast) | none => none)
  | _ => none
def mPopAt (l ds : List D) : Option (D × List D) := match ds with
  | [.int i] => if -(2 ^ 63) ≤ i ∧ i < 2 ^ 63 then (match seqIndex? i l.length with
    | some k => (match l[k]? with | some d => some (d, l.eraseIdx k) | none => none)
    | none => none) else none
  | _ => none
def mReverse (l ds : List D) : Option (D × List D) := match ds with
  | [] => some (.non, l.reverse)
  | _ => none
theorem m_append : DMt G rAppend mAppend := by
  intro s p vs l xs ds o hp il ix ho _sf
  unfold mAppend at ho
  split at ho
  · rename_i d
    split at ho
    · rename_i hl
      cases ho
      cases ix with
      | cons a b => cases b; exact ⟨.non, _, .non, il.append (.one a), fun Q q => ⟨p, vs, _, rfl, rfl, hp, by rw [il.len]; exact szlt hl, q⟩⟩
    · cases ho
  · cases ho
theorem IsL.dropLast {as : List Addr} {H : Hp} {ds : List D} {vs : List V} (h : IsL G as H vs ds) : IsL G as H vs.dropLast ds.dropLast := by
  rw [List.dropLast_eq_take, List.dropLast_eq_take, h.len]
  exact h.take _
theorem m_popAt : DMt G rPopAt mPopAt := by
  intro s p vs l xs ds o hp il ix ho _sf
  unfold mPopAt at ho
  split at ho
  · rename_i i
    split at ho
    · rename_i hi
      split at ho
      · rename_i k hk
        split at ho
        · rename_i d hd
          cases ho
          cases ix with
          | cons a b =>
            cases b
            cases a
            obtain ⟨v, h1, h2⟩ := il.get hd
            exact ⟨v, _, h2, il.eraseIdx k, fun Q q => ⟨p, vs, i, k, v, rfl, rfl, hp, hi.1, hi.2, by rw [il.len]; exact hk, h1, q⟩⟩
        · cases ho
      · cases ho
    · cases ho
  · cases ho
def dMtP (op : List D → List D → Option (D × List D)) (fb : En → ER) (fa : En → AR) : En → ER := fun E => match fb E with
  | .val _ (.ptr n) st => (match stLst st n with
    | some _ => (match fa ⟨E.e, st⟩ with
      | .ok true ds st1 => (match stLst st1 n with
        | some l => (match op l ds with | some o => .val .P o.1 (st1.set n (.lst o.2)) | none => .bad)
        | none => .bad)
      | .exc c l st => .exc c l st
      | _ => .bad)
    | none => .bad)
  | .exc c l st => .exc c l st
  | _ => .bad
theorem mt_end {r : V → List V → Hp → VK → Prop} {op : List D → List D → Option (D × List D)} (hm : DMt G r op) {t : Hs} {st : Sto} {n : Nat} {p : Addr} {xs : List V} {ds l : List D} {o : D × List D} (k : StOk G t st) (hp : t.as[n]? = some p) (hl : stLst st n = some l) (ix : IsL G t.as t.f xs ds) (ho : op l ds = some o) {σ : L2.St} {Q : VK}
    (post : RPost G W t σ Q (.val .P o.1 (st.set n (.lst o.2)))) : r (.ref p) xs t.h Q := by
  obtain ⟨vs, hh, il⟩ := k.lst hp hl
  obtain ⟨v, vs', h1, h2, h3⟩ := hm t p vs l xs ds o hh il ix ho k.sf
  exact h3 Q (post ⟨t.as, t.f, upd t.h p (.lst vs')⟩ v (Gro.mod (Gro.refl k) k hp) (k.mod hp ⟨vs', upd_same, h2⟩) h1)
theorem v_mtP {r : V → List V → Hp → VK → Prop} {op : List D → List D → Option (D × List D)} {tb : TE} {ta : TA} {fb : En → ER} {fa : En → AR} (hm : DMt G r op) (hb : DEv G W tb fb) (ha : DAr G W ta fa) : DEv G W (tBM G.K "list" r tb ta) (dMtP op fb fa) := by
  intro s t σ e st E k Q post
  unfold dMtP at post
  refine hb s t σ e st E k _ ?_
  cases q : fb ⟨e, st⟩ with
  | val m d st1 =>
    rw [q] at post
    cases d <;> first | exact post.elim | skip
    rename_i n
    cases hl : stLst st1 n with
    | none => simp only [hl] at post; exact post.elim
    | some l0 =>
      simp only [hl] at post
      intro t1 v g1 k1 o1
      obtain ⟨p, rfl, hp⟩ := o1.u.ptr
      obtain ⟨vs, hh, _⟩ := k1.lst hp hl
      refine ⟨.inl ⟨rfl, vs, SqL.of hh⟩, ha s t1 σ e st1 (E.up g1) k1 _ ?_⟩
      cases q2 : fa ⟨e, st1⟩ with
      | ok b ds st2 =>
        rw [q2] at post
        cases b with
        | false => exact post.elim
        | true =>
          intro t2 xs g2 k2 i2 _
          cases hl2 : stLst st2 n with
          | none => simp only [hl2] at post; exact post.elim
          | some l =>
            simp only [hl2] at post
            cases ho : op l ds with
            | none => simp only [ho] at post; exact post.elim
            | some o =>
              simp only [ho] at post
              exact mt_end hm k2 (g2.a n p hp) hl2 (i2 rfl) ho (RPost.step (g1.trans g2) k2 post)
      | exc c l st2 => rw [q2] at post; exact fun t' x g' => post t' x (g1.trans g')
      | bad => rw [q2] at post; exact post
  | exc c l st1 => rw [q] at post; exact post
  | bad => rw [q] at post; exact post
def putAt (j : Option Nat) (d : D) (e : DE) : DE := match j with
  | some j => e.set j (.val d)
  | none => e
def sMtO (j : Option Nat) (op : List D → List D → Option (D × List D)) (i : Nat) (fa : En → AR) : En → SR := fun E => match E.e[i]? with
  | some (.own l) => (match fa E with
    | .ok true ds st1 => (match op l ds with | some o => .nx ⟨putAt j o.1 (E.e.set i (.own o.2)), st1⟩ | none => .bad)
    | .exc c l st => .exc c l ⟨E.e, st⟩
    | _ => .bad)
  | _ => .bad
theorem mtO_run {r : V → List V → Hp → VK → Prop} {op : List D → List D → Option (D × List D)} {ta : TA} {fa : En → AR} {i : Nat} (hm : DMt G r op) (ha : DAr G W ta fa) {s t : Hs} {σ : L2.St} {e : DE} {st : Sto} {l : List D} (E : EnvOk G s t σ e) (k : StOk G t st) (hx : e[i]? = some (.own l)) {N : Ends} {Q : VK} {j : Option Nat}
    (post : SPost G W s t N (match fa ⟨e, st⟩ with
      | .ok true ds st1 => (match op l ds with | some o => .nx ⟨putAt j o.1 (e.set i (.own o.2)), st1⟩ | none => .bad)
      | .exc c l st => .exc c l ⟨e, st⟩
      | _ => .bad))
    (fin : ∀ t' v d st1 l', Up t t' → EnvOk G s t' σ (e.set i (.own l')) → StOk G t' st1 → Is G t'.as t'.f v d → SPost G W s t N (.nx ⟨putAt j d (e.set i (.own l')), st1⟩) → Q v t'.h) : tBM G.K "list" r (tVar i) ta σ t.h Q := by
  obtain ⟨o, hσ, p, vs, rfl, p0, pf, ph, pl, pa⟩ := E.slot hx
  refine ⟨_, hσ, .inl ⟨rfl, vs, SqL.of ph⟩, ha s t σ e st E k _ ?_⟩
  cases q2 : fa ⟨e, st⟩ with
  | ok b ds st2 =>
    rw [q2] at post
    cases b with
    | false => exact post.elim
    | true =>
      intro t2 xs g2 k2 i2 _
      cases ho : op l ds with
      | none => simp only [ho] at post; exact post.elim
      | some o =>
        simp only [ho] at post
        have hp' : t2.h p = some (.lst vs) := g2.h _ _ ph pa
        have hf' : t2.f p = none := g2.n _ _ ph pf
        have ha' : p ∉ t2.as := fun m => (g2.w p m).elim pa fun z => by rw [ph] at z; cases z
        obtain ⟨v, vs', h1, h2, h3⟩ := hm t2 p vs l xs ds o hp' (pl.up g2.a g2.f) (i2 rfl) ho k2.sf
        exact h3 _ (fin ⟨t2.as, t2.f, upd t2.h p (.lst vs')⟩ v o.1 st2 o.2 ⟨g2.a, g2.f⟩ ((E.up g2).chg hσ hx p0 hf' h2 ha') (k2.chg hf' ha') h1 post)
  | exc c l st2 => rw [q2] at post; exact fun t' x g' k' o => post t' σ x g'.up (E.up g') k' o
  | bad => rw [q2] at post; exact post
theorem s_mtO {r : V → List V → Hp → VK → Prop} {op : List D → List D → Option (D × List D)} {ta : TA} {fa : En → AR} {i : Nat} (hm : DMt G r op) (ha : DAr G W ta fa) : DSt G W (tDrop (tBM G.K "list" r (tVar i) ta)) (sMtO none op i fa) := by
  intro s t σ e st E k N post
  unfold sMtO at post
  split at post
  · rename_i l hx
    exact mtO_run hm ha E k hx post fun t' v d st1 l' u E' k' _ p => p t' σ u E' k'
  · exact post.elim
def sMt (op : List D → List D → Option (D × List D)) (i : Nat) (fa : En → AR) : En → SR := fun E => match E.e[i]? with
  | some (.own _) => sMtO none op i fa E
  | _ => sDrop (dMtP op (dVar i) fa) E
theorem s_mt {r : V → List V → Hp → VK → Prop} {op : List D → List D → Option (D × List D)} {ta : TA} {fa : En → AR} {i : Nat} (hm : DMt G r op) (ha : DAr G W ta fa) : DSt G W (tDrop (tBM G.K "list" r (tVar i) ta)) (sMt op i fa) := by
  intro s t σ e st E k N post
  unfold sMt at post
  split at post
  · exact s_mtO hm ha s t σ e st E k N post
  · exact s_drop (v_mtP hm v_var ha) s t σ e st E k N post
def sMtA (j : Nat) (op : List D → List D → Option (D × List D)) (i : Nat) (fa : En → AR) : En → SR := fun E => match E.e[i]? with
  | some (.own _) => sMtO (some j) op i fa E
  | _ => sSetF j (dMtP op (dVar i) fa) E
end
end Dn
namespace Dn
open PySem PySem.Spec PyProof.Rows L2
def stIns (st : Sto) (n : Nat) : Option (Nat × List D) := match st[n]? with
  | some (.ins c l) => some (c, l)
  | _ => none
section
variable {G : Gm} {W : WX}
theorem StOk.ins {s : Hs} {st : Sto} {n c : Nat} {l : List D} {p : Addr} (k : StOk G s st) (ha : s.as[n]? = some p) (h : stIns st n = some (c, l)) : ∃ dx vs, s.h p = some (.ins (G.ca c) dx ((G.fn c).zip vs)) ∧ vs.length ≤ (G.fn c).length ∧ IsL G s.as s.f vs l := by
  unfold stIns at h
  split at h
  · rename_i c' l' q
    cases h
    exact k.ob n p _ ha q
  · cases h
structure FldOk (G : Gm) (f : Str) (ix : Nat → Option Nat) : Prop where
  ok : ∀ c i, ix c = some i → (G.fn c)[i]? = some f ∧ (G.fn c).Nodup ∧ (G.fn c).length < 1000 ∧ Cls G.K (G.ca c) ∧ NoAttr G.K (G.ca c) f
theorem zip_lookup {f : Str} : ∀ {ns : List Str} {vs : List V} {i : Nat} {v : V}, ns.Nodup → ns[i]? = some f → vs[i]? = some v → (ns.zip vs).lookup f = some v
  | [], _, _, _, _, h, _ => by simp at h
  | n :: ns, [], _, _, _, _, h => by simp at h
  | n :: ns, w :: vs, 0, v, _, h1, h2 => by
    simp at h1 h2
    subst h1; subst h2
    simp [List.zip_cons_cons, List.lookup]
  | n :: ns, w :: vs, i + 1, v, hn, h1, h2 => by
    have hn' := List.nodup_cons.mp hn
    have h1' : ns[i]? = some f := by simpa using h1
    have h2' : vs[i]? = some v := by simpa using h2
    have ne : f ≠ n := fun z => hn'.1 (z ▸ List.mem_of_getElem? h1')
    have : (f == n) = false := by simpa using ne
    simp only [List.zip_cons_cons, List.lookup, this]
    exact zip_lookup hn'.2 h1' h2'
theorem zip_no {f : Str} : ∀ {ns : List Str} (vs : List V), f ∉ ns → (ns.zip vs).lookup f = none
  | [], _, _ => rfl
  | n :: ns, [], _ => rfl
  | n :: ns, w :: vs, h => by
    have h' : f ≠ n ∧ f ∉ ns := by simpa using h
    have : (f == n) = false := by simpa using h'.1
    simp only [List.zip_cons_cons, List.lookup, this]
    exact zip_no vs h'.2
def putI (i : Nat) (d : D) (l : List D) : Option (List D) := if i < l.length then some (l.set i d) else if i = l.length then some (l ++ [d]) else none
theorem zip_put {f : Str} {z : V} : ∀ {ns : List Str} {vs : List V} {i : Nat}, ns.Nodup → ns[i]? = some f → i ≤ vs.length → putF f z (ns.zip vs) = ns.zip (if i < vs.length then vs.set i z else vs ++ [z])
  | [], _, _, _, h, _ => by simp at h
  | n :: ns, [], i, _, h1, h2 => by
    have : i = 0 := by simpa using h2
    subst this
    simp at h1
    subst h1
    simp [putF]
  | n :: ns, w :: vs, 0, _, h1, _ => by
    simp at h1
    subst h1
    simp [putF, List.zip_cons_cons]
  | n :: ns, w :: vs, i + 1, hn, h1, h2 => by
    have hn' := List.nodup_cons.mp hn
    have h1' : ns[i]? = some f := by simpa using h1
    have ne : n ≠ f := fun z => hn'.1 (z ▸ List.mem_of_getElem? h1')
    have ih := zip_put (z := z) hn'.2 h1' (vs := vs) (by simpa using h2)
    simp only [List.zip_cons_cons, putF, if_neg ne, ih]
    by_cases c : i < vs.length
    · simp [c]
    · simp [c]
def dFld (ix : Nat → Option Nat) (fe : En → ER) : En → ER := fun E => (fe E).bind fun x st => match x with
  | .ptr n => (match stIns st n with
    | some (c, l) => (match ix c with
      | some i => ofOpt l[i]? fun d => .val .P d st
      | none => .bad)
    | none => .bad)
  | _ => .bad
theorem v_fld {f : Str} {ix : Nat → Option Nat} {te : TE} {fe : En → ER} (hf : FldOk G f ix) (he : DEv G W te fe) : DEv G W (tFld G.K te f) (dFld ix fe) := by
  intro s t σ e st E k Q post
  refine he s t σ e st E k _ (RPost.bind post fun m d st1 t1 v g1 k1 o1 p1 => ?_)
  cases d <;> first | exact p1.elim | skip
  rename_i n
  obtain ⟨p, rfl, hp⟩ := o1.u.ptr
  cases hi : stIns st1 n with
  | none => simp only [hi] at p1; exact p1.elim
  | some cl =>
    obtain ⟨c, l⟩ := cl
    simp only [hi] at p1
    cases hx : ix c with
    | none => simp only [hx] at p1; exact p1.elim
    | some i =>
      simp only [hx] at p1
      obtain ⟨d, hd, p1⟩ := RPost.opt _ _ p1
      obtain ⟨dx, vs, hh, hl, il⟩ := k1.ins hp hi
      obtain ⟨v, h1, h2⟩ := il.get hd
      obtain ⟨fi, fnd, _, fc, fa⟩ := hf.ok c i hx
      exact ⟨p, _, dx, _, v, rfl, hh, fc, fa, zip_lookup fnd fi h1, p1.now k1 h2⟩
def sFldS (ix : Nat → Option Nat) (fo fe : En → ER) : En → SR := fun E => match fe E with
  | .val .B _ _ => .bad
  | .val _ d st => (match fo ⟨E.e, st⟩ with
    | .val _ (.ptr n) st1 => (match stIns st1 n with
      | some (c, l) => (match ix c with
        | some i => (match putI i d l with
          | some l' => .nx ⟨E.e, st1.set n (.ins c l')⟩
          | none => .bad)
        | none => .bad)
      | none => .bad)
    | .exc c l st => .exc c l ⟨E.e, st⟩
    | _ => .bad)
  | .exc c l st => .exc c l ⟨E.e, st⟩
  | .bad => .bad
theorem s_fldS {f : Str} {ix : Nat → Option Nat} {to te : TE} {fo fe : En → ER} (hf : FldOk G f ix) (ho : DEv G W to fo) (he : DEv G W te fe) : DSt G W (sFld G.K to te f) (sFldS ix fo fe) := by
  intro s t σ e st E k N post
  unfold sFldS at post
  refine ev_st (N := N) he E k (fun c l st1 q => by rw [q] at post; exact post) (fun q => by rw [q] at post; exact post) fun m d st1 q t1 v g1 k1 o1 => ?_
  rw [q] at post
  have fin : ∀ f2, Gro t ⟨t1.as, f2, t1.h⟩ → StOk G ⟨t1.as, f2, t1.h⟩ st1 → Is G t1.as f2 v d → SPost G W s t N (match fo ⟨e, st1⟩ with
    | .val _ (.ptr n) st1 => (match stIns st1 n with
      | some (c, l) => (match ix c with
        | some i => (match putI i d l with
          | some l' => .nx ⟨e, st1.set n (.ins c l')⟩
          | none => .bad)
        | none => .bad)
      | none => .bad)
    | .exc c l st => .exc c l ⟨e, st⟩
    | _ => .bad) → to σ t1.h fun x H2 => ∃ a C dx fs, x = .ref a ∧ H2 a = some (.ins C dx fs) ∧ Cls G.K C ∧ NoAttr G.K C f ∧ fs.length < 1000 ∧ N.nx σ (upd H2 a (.ins C dx (putF f v fs))) := fun f2 g2 k2 i2 post => by
    refine ev_st (N := N) ho (E.up g2) k2 (fun c l st3 q3 => ?_) (fun q3 => ?_) fun mb db st3 q3 t3 b g3 k3 o3 => ?_
    · rw [q3] at post; exact SPost.mono g2.up post
    · rw [q3] at post; exact post
    · rw [q3] at post
      cases db <;> try exact post.elim
      rename_i n
      obtain ⟨p, rfl, hp⟩ := o3.u.ptr
      have g23 := g2.trans g3
      cases hi : stIns st3 n with
      | none => simp only [hi] at post; exact post.elim
      | some cl =>
        obtain ⟨c, l⟩ := cl
        simp only [hi] at post
        cases hx : ix c with
        | none => simp only [hx] at post; exact post.elim
        | some i =>
          simp only [hx] at post
          cases hu : putI i d l with
          | none => simp only [hu] at post; exact post.elim
          | some l' =>
            simp only [hu] at post
            obtain ⟨dx, vs, hh, hl, il⟩ := k3.ins hp hi
            obtain ⟨fi, fnd, flen, fc, fa⟩ := hf.ok c i hx
            have ile := il.len
            have hik : i ≤ vs.length := by
              rw [ile]
              unfold putI at hu
              split at hu
              · omega
              · split at hu
                · omega
                · cases hu
            refine ⟨p, _, dx, _, rfl, hh, fc, fa, by rw [List.length_zip]; omega, ?_⟩
            rw [zip_put fnd fi hik]
            have iv := i2.up g3.a g3.f
            have il' : IsL G t3.as t3.f (if i < vs.length then vs.set i v else vs ++ [v]) l' := by
              unfold putI at hu
              rw [ile]
              split at hu
              · rename_i c1
                cases hu
                rw [if_pos c1]; exact il.set iv i
              · rename_i c1
                split at hu
                · cases hu; rw [if_neg c1]; exact il.append (.one iv)
                · cases hu
            have hlen : (if i < vs.length then vs.set i v else vs ++ [v]).length ≤ (G.fn c).length := by
              have : i < (G.fn c).length := (List.getElem?_eq_some_iff.mp fi).1
              split
              · simpa using hl
              · simp; omega
            exact post ⟨t3.as, t3.f, upd t3.h p (.ins (G.ca c) dx ((G.fn c).zip _))⟩ σ ⟨g23.a, g23.f⟩ ((E.up g23).modS k3 hp) (k3.mod hp ⟨dx, _, upd_same, hlen, il'⟩)
  cases m with
  | P => exact fin t1.f g1 k1 o1 post
  | B => exact post.elim
  | N =>
    obtain ⟨f2, g2, k2, _, i2⟩ := o1.freeze g1 k1 (by decide)
    exact fin f2 g2 k2 i2 post
end
def tMethG (C : Addr) (m : Str) (n r : Nat) (idx : List Nat) (dvs : List V) (sp : Sp) (E : L2.St → XK) (ta : TE) (t tk : TA) : TE := fun σ H Q => ta σ H fun x H1 => ∃ a dx fs, x = .ref a ∧ H1 a = some (.ins C dx fs) ∧ fs.lookup m = none ∧
  t σ H1 fun vs H2 => tk σ H2 fun zs H3 => (x :: vs).length = n ∧ zs.length = r ∧ sp (pickL idx ((x :: vs) ++ zs ++ dvs)) H3 Q (E σ)
section
variable {X : Cx} {CX : CXT} {k n : Nat} {f C : Addr} {fd : FuncData} {ps ks : List Str} {idx : List Nat} {dvs : List V} {sp : Sp} {E : L2.St → XK} {x m : Str} {p pos apos : Pos} {o e : Expr} {es : List Expr} {kws : List Keyword} {ta : TE} {t tk : TA}
theorem pe_mN {pl : Sem Bool} (he : PE X o ta) (c : Cls X.K C) (hm : Meth X.K C m f) (F : FnOk X.prog X.w X.K X.mg X.base CX k f fd ps sp) (hr : Room k X.A) (hb : CallB X.K fd ps n [] idx dvs) (hx : ∀ σ, PassesAt CX X σ (E σ)) (ha : PA X (e :: es) t)
    (hst : starEach (e :: es) X.env = (false, eval e X.env) :: starEach es X.env := by rfl) (hpl : (backTo pos (starEach es X.env)).any (·.1) = false := by rfl)
    (ht : eval (.Call (.Attribute o m apos) (e :: es) [] pos) X.env = (do
      let ov ← eval o X.env
      standAt apos.atName
      let (f, first) ← holding [ov] (getMethod ov m pl)
      callWith pos f first (backTo pos (starEach (e :: es) X.env)) (backToKw pos (keywordEach [] X.env))) := by rfl) :
    PE X (.Call (.Attribute o m apos) (e :: es) [] pos) (tMethG C m n 0 idx dvs sp E ta t tNil) := by
  refine ⟨fun pins s σ H Q I h => ?_⟩
  refine PySem.W.methodCall_KW (pl := pl) (thn (he.run pins s σ H _ I h) fun u s1 ⟨x, H1, I1, rx, a, dx, fs, ex, ea, l, q⟩ => ?_) ht
  subst ex
  obtain rfl : u = Value.ref a := rx
  refine getmeth_ok I1 ea c hm l ?_
  refine PySem.W.callWith_K (first := [.ref a]) (h₀ := X.base) I.ok.mod.kin hm.kp (thn (ha.run pos pins s1 σ H1 _ I1 q) fun us s2 ⟨vs, H2, I2, r, l1, l2, q2⟩ => ⟨I2.kIn, ?_⟩) hst hpl
  exact run_fnG (us := .ref a :: us) (vs := .ref a :: vs) (ks := []) (ws := []) (zs := []) F hr hb (hx σ) I2 (.cons rfl r) .nil l1 rfl q2
theorem pe_m0 {pl : Sem Bool} (he : PE X o ta) (c : Cls X.K C) (hm : Meth X.K C m f) (F : FnOk X.prog X.w X.K X.mg X.base CX k f fd ps sp) (hr : Room k X.A) (hb : CallB X.K fd ps n [] idx dvs) (hx : ∀ σ, PassesAt CX X σ (E σ))
    (ht : eval (.Call (.Attribute o m apos) [] [] pos) X.env = (do
      let ov ← eval o X.env
      standAt apos.atName
      let (f, first) ← holding [ov] (getMethod ov m pl)
      callWith pos f first (backTo pos (starEach [] X.env)) (backToKw pos (keywordEach [] X.env))) := by rfl) :
    PE X (.Call (.Attribute o m apos) [] [] pos) (tMethG C m n 0 idx dvs sp E ta tNil tNil) := by
  refine ⟨fun pins s σ H Q I h => ?_⟩
  refine PySem.W.methodCall_KW (pl := pl) (thn (he.run pins s σ H _ I h) fun u s1 ⟨x, H1, I1, rx, a, dx, fs, ex, ea, l, q⟩ => ?_) ht
  subst ex
  obtain rfl : u = Value.ref a := rx
  refine getmeth_ok I1 ea c hm l ?_
  obtain ⟨l1, l2, q⟩ := q
  exact PySem.W.callWith_K0 (first := [.ref a]) I1.kIn hm.kp (run_fnG (us := [.ref a]) (vs := [.ref a]) (ks := []) (ws := []) (zs := []) F hr hb (hx σ) I1 (.cons rfl .nil) .nil l1 rfl q)
def tMakeG (C : Addr) (n r : Nat) (idx : List Nat) (dvs : List V) (sp : Sp) (E : L2.St → XK) (t tk : TA) : TE := fun σ H Q => t σ H fun vs H1 => tk σ H1 fun zs H2 => vs.length + 1 = n ∧ zs.length = r ∧ ∀ x dx, H2 x = none → H2 dx = none → dx ≠ x →
  sp (pickL idx ((.ref x :: vs) ++ zs ++ dvs)) (upd (upd H2 dx (.own x)) x (.ins C dx [])) (fun v H3 => v = .non ∧ Q (.ref x) H3) (E σ)
theorem run_makeG {pins : List (Addr × Obj)} {σ : L2.St} {H : Hp} {s : Shared} {Q : VK} {us ws : List Value} {vs zs : List V} (M : Mk X.K C f) (F : FnOk X.prog X.w X.K X.mg X.base CX k f fd ps sp) (hr : Room (k + 1) X.A) (hb : CallB X.K fd ps n ks idx dvs)
    (hx : PassesAt CX X σ (E σ)) (I : Inv X pins σ H s) (r : Vals vs us) (rz : Vals zs ws) (l1 : vs.length + 1 = n) (l2 : zs.length = ks.length)
    (h : ∀ x dx, H x = none → H dx = none → dx ≠ x → sp (pickL idx ((.ref x :: vs) ++ zs ++ dvs)) (upd (upd H dx (.own x)) x (.ins C dx [])) (fun v H2 => v = .non ∧ Q (.ref x) H2) (E σ)) :
    wpAny (model X.prog X.w) X.A (call (.ref C) us (ks.zip ws)) (EP X pins σ Q) X.xe s := by
  have hq := h (s.heap.objs.size + 1) s.heap.objs.size (I.hok.fresh (Nat.le_succ _)) (I.hok.fresh (Nat.le_refl _)) (Nat.ne_of_lt (Nat.lt_succ_self _))
  have I2 := Inv.made (C := C) I
  obtain ⟨its, rd, hb⟩ := hb.ex
  have r1 : Vals (V.ref (s.heap.objs.size + 1) :: vs) (Value.ref (s.heap.objs.size + 1) :: us) := .cons rfl r
  have l3 : (Value.ref (s.heap.objs.size + 1) :: us).length = n := by rw [← r1.length]; exact l1
  refine wpAny_call (make_map (f := f) I.kIn M.makes M.init (beq_iff_eq.mp M.fn) (codeAny_mono (F.run _ X.stack _ _ ⟨Value.ref (s.heap.objs.size + 1) :: us, ks.zip ws⟩ (pickL idx ((Value.ref (s.heap.objs.size + 1) :: us) ++ ws ++ its)) _ _ (E σ) (hr.make C us (ks.zip ws))
    (I2.env0.make C us (ks.zip ws)) (hb _ (Value.ref (s.heap.objs.size + 1) :: us) ws I2.kIn l3 (rz.length.symm.trans l2)) (vals_pick ((r1.append rz).append rd) idx) hq) fun r s' hq' => ?_))
  cases r with
  | error e => exact hx pins _ _ e s' I2 hq'
  | ok fl =>
    cases fl with
    | ret u =>
      obtain ⟨v, H', I3, rv, ev, q3⟩ := I2.after hq'
      subst ev
      exact ⟨rv, ⟨V.ref (s.heap.objs.size + 1), H', I3, rfl, q3⟩⟩
    | next => exact False.elim hq'
    | brk => exact False.elim hq'
    | cont => exact False.elim hq'
theorem pe_kN (M : Mk X.K C f) (F : FnOk X.prog X.w X.K X.mg X.base CX k f fd ps sp) (hr : Room (k + 1) X.A) (hg : Gl X x) (hm : X.mg x = some (.ref C)) (hb : CallB X.K fd ps n [] idx dvs) (hx : ∀ σ, PassesAt CX X σ (E σ))
    (ha : PA X (e :: es) t) (hdb : (x == ("__debug__" : Str)) = false := by decide) (he : starEach (e :: es) X.env = (false, eval e X.env) :: starEach es X.env := by rfl) (hpl : (backTo pos (starEach es X.env)).any (·.1) = false := by rfl) :
    PE X (.Call (.Name x p) (e :: es) [] pos) (tMakeG C n 0 idx dvs sp E t tNil) := by
  refine ⟨fun pins s σ H Q I h => ?_⟩
  refine wpAny_Call_Name_kw (ld_glob I hg hm ?_ hdb)
  refine PySem.W.callWith_K (h₀ := X.base) I.ok.mod.kin M.kp (thn (ha.run pos pins s σ H _ I h) fun us s1 ⟨vs, H1, I1, r, l1, l2, q⟩ => ⟨I1.kIn, ?_⟩) he hpl
  exact run_makeG (ks := []) (ws := []) (zs := []) M F hr hb (hx σ) I1 r .nil l1 rfl q
theorem PE.or {X : Cx} {e : Expr} {t u : TE} (h : PE X e t) (h' : PE X e u) : PE X e (fun σ H Q => t σ H Q ∨ u σ H Q) :=
  ⟨fun pins s σ H Q I z => z.elim (fun z => h.run pins s σ H Q I z) (fun z => h'.run pins s σ H Q I z)⟩
end
section
variable {G : Gm} {W : WX}
def dMeth (c : Nat) (F : List D → Sto → ER) (n r : Nat) (idx : List Nat) (dd : List D) (fo : En → ER) (fa fk : En → AR) : En → ER := fun E => (fo E).bind fun x st => match x with
  | .ptr p => (match stIns st p with
    | some (c', _) => if c' = c then (match fa ⟨E.e, st⟩ with
      | .ok true l st1 => (match fk ⟨E.e, st1⟩ with
        | .ok true z st2 => if l.length + 1 = n ∧ z.length = r then F (pickL idx ((.ptr p :: l) ++ z ++ dd)) st2 else .bad
        | .exc c l st => .exc c l st
        | _ => .bad)
      | .exc c l st => .exc c l st
      | _ => .bad) else .bad
    | none => .bad)
  | _ => .bad
theorem v_meth {c n r : Nat} {m : Str} {F : List D → Sto → ER} {idx : List Nat} {dd : List D} {to : TE} {ta tk : TA} {fo : En → ER} {fa fk : En → AR} (hm : m ∉ G.fn c) (hd : dd.all flat = true) (ho : DEv G W to fo) (ha : DAr G W ta fa) (hk : DAr G W tk fk) : DEv G W (tMethG (G.ca c) m n r idx (dd.map toV) (spF G F) (WE W) to ta tk) (dMeth c F n r idx dd fo fa fk) := by
  intro s t σ e st E k Q post
  refine ho s t σ e st E k _ (RPost.bind post fun mo d st1 t1 v g1 k1 o1 p1 => ?_)
  cases d <;> first | exact p1.elim | skip
  rename_i p
  obtain ⟨a, rfl, hp⟩ := o1.u.ptr
  cases hi : stIns st1 p with
  | none => simp only [hi] at p1; exact p1.elim
  | some cl =>
    obtain ⟨c', l0⟩ := cl
    simp only [hi] at p1
    obtain ⟨hc, p2⟩ := RPost.cond _ _ p1
    clear p1
    have p1 := p2
    clear p2
    subst hc
    obtain ⟨dx, fs, hh, hl, il⟩ := k1.ins hp hi
    refine ⟨a, dx, _, rfl, hh, zip_no fs hm, ha s t1 σ e st1 (E.up g1) k1 _ ?_⟩
    cases q : fa ⟨e, st1⟩ with
    | ok b l st2 =>
      rw [q] at p1
      cases b with
      | false => exact p1.elim
      | true =>
        have p1 : RPost G W t1 σ Q (match fk ⟨e, st2⟩ with
          | .ok true z st2 => if l.length + 1 = n ∧ z.length = r then F (pickL idx ((.ptr p :: l) ++ z ++ dd)) st2 else .bad
          | .exc c l st => .exc c l st
          | _ => .bad) := p1
        intro t2 vs g2 k2 i2 u2
        have i2 := i2 rfl
        refine hk s t2 σ e st2 ((E.up g1).up g2) k2 _ ?_
        cases q2 : fk ⟨e, st2⟩ with
        | ok b2 z st3 =>
          rw [q2] at p1
          cases b2 with
          | false => exact p1.elim
          | true =>
            obtain ⟨hc, p1⟩ := RPost.cond (l.length + 1 = n ∧ z.length = r) (F (pickL idx ((.ptr p :: l) ++ z ++ dd)) st3) p1
            intro t3 zs g3 k3 i3 u3
            have i3 := i3 rfl
            have ip : IsL G t3.as t3.f (.ref a :: vs) (.ptr p :: l) := .cons (.ptr (g3.a _ _ (g2.a _ _ hp))) (i2.up g3.a g3.f)
            exact ⟨by rw [← hc.1]; simp [u2.len], by rw [u3.len]; exact hc.2, t3, _, st3, rfl, k3, isL_pick ((ip.append i3).append (isL_toV hd)) idx, (RPost.step (g2.trans g3) k3 p1).w (fun c x H' h => h)⟩
        | exc c l st3 => rw [q2] at p1; exact fun t' x g' => p1 t' x (g2.trans g')
        | bad => rw [q2] at p1; exact p1
    | exc c l st2 => rw [q] at p1; exact p1
    | bad => rw [q] at p1; exact p1
def isC (c : Nat) (fo : En → ER) (E : En) : Bool := match fo E with
  | .val _ (.ptr n) st => (match stIns st n with | some (c', _) => c' == c | none => false)
  | _ => false
def dAlt (p : En → Bool) (f g : En → ER) : En → ER := fun E => if p E = true then f E else g E
def dMake (c : Nat) (F : List D → Sto → ER) (n r : Nat) (idx : List Nat) (dd : List D) (fa fk : En → AR) : En → ER := fun E => match fa E with
  | .ok true l st => (match fk ⟨E.e, st⟩ with
    | .ok true z st1 => if l.length + 1 = n ∧ z.length = r then (match F (pickL idx ((.ptr st1.length :: l) ++ z ++ dd)) (st1 ++ [.ins c []]) with
      | .val _ .non st2 => .val .P (.ptr st1.length) st2
      | .exc c l st => .exc c l st
      | _ => .bad) else .bad
    | .exc c l st => .exc c l st
    | _ => .bad)
  | .exc c l st => .exc c l st
  | _ => .bad
theorem v_make {c n r : Nat} {F : List D → Sto → ER} {idx : List Nat} {dd : List D} {ta tk : TA} {fa fk : En → AR} (hd : dd.all flat = true) (ha : DAr G W ta fa) (hk : DAr G W tk fk) : DEv G W (tMakeG (G.ca c) n r idx (dd.map toV) (spF G F) (WE W) ta tk) (dMake c F n r idx dd fa fk) := by
  intro s t σ e st E k Q post
  unfold dMake at post
  refine ha s t σ e st E k _ ?_
  cases q : fa ⟨e, st⟩ with
  | ok b l st2 =>
    rw [q] at post
    cases b with
    | false => exact post.elim
    | true =>
      have post : RPost G W t σ Q (match fk ⟨e, st2⟩ with
        | .ok true z st1 => if l.length + 1 = n ∧ z.length = r then (match F (pickL idx ((.ptr st1.length :: l) ++ z ++ dd)) (st1 ++ [.ins c []]) with
          | .val _ .non st2 => .val .P (.ptr st1.length) st2
          | .exc c l st => .exc c l st
          | _ => .bad) else .bad
        | .exc c l st => .exc c l st
        | _ => .bad) := post
      intro t2 vs g2 k2 i2 u2
      have i2 := i2 rfl
      refine hk s t2 σ e st2 (E.up g2) k2 _ ?_
      cases q2 : fk ⟨e, st2⟩ with
      | ok b2 z st3 =>
        rw [q2] at post
        cases b2 with
        | false => exact post.elim
        | true =>
          obtain ⟨hc, post⟩ := RPost.cond (l.length + 1 = n ∧ z.length = r) _ post
          intro t3 zs g3 k3 i3 u3
          have i3 := i3 rfl
          refine ⟨by rw [u2.len]; exact hc.1, by rw [u3.len]; exact hc.2, fun x dx hx hdx hne => ?_⟩
          have g4 := Gro.loose (o := .own x) k3 hdx
          have k4 := k3.loose (o := .own x) hdx
          have hx4 : upd t3.h dx (.own x) x = none := by rw [upd_ne (fun z => hne z.symm)]; exact hx
          have g5 := Gro.loose (o := .ins (G.ca c) dx []) k4 hx4
          have k5 := k4.loose (o := .ins (G.ca c) dx []) hx4
          have hf5 : t3.f x = none := k3.sf.free hx
          have hx0 : t.h x = none := by
            cases qx : t.h x with
            | none => rfl
            | some o =>
              by_cases i : x ∈ t.as
              · exact absurd ((g2.trans g3).a.mem i) (k3.new hx)
              · rw [(g2.trans g3).h x o qx i] at hx; cases hx
          have g6 := ((g2.trans g3).trans (g4.trans g5)).put k5 hx0 hf5
          have k6 : StOk G ⟨t3.as ++ [x], t3.f, upd (upd t3.h dx (.own x)) x (.ins (G.ca c) dx [])⟩ (st3 ++ [.ins c []]) :=
            k5.put (o := .ins c []) hf5 (k3.new hx) ⟨dx, [], by show upd _ x _ x = _; rw [upd_same, List.zip_nil_right], Nat.zero_le _, .nil⟩
          have hpx : (t3.as ++ [x])[st3.length]? = some x := by
            rw [← k3.len, List.getElem?_append_right (Nat.le_refl _)]; simp
          have ip : IsL G (t3.as ++ [x]) t3.f (.ref x :: vs) (.ptr st3.length :: l) := .cons (.ptr hpx) ((i2.up g3.a g3.f).up (Ext.app _ _) (Same.refl _))
          refine ⟨⟨t3.as ++ [x], t3.f, upd (upd t3.h dx (.own x)) x (.ins (G.ca c) dx [])⟩, _, st3 ++ [.ins c []], rfl, k6, isL_pick ((ip.append (i3.up (Ext.app _ _) (Same.refl _))).append (isL_toV hd)) idx, ?_⟩
          cases q3 : F (pickL idx ((.ptr st3.length :: l) ++ z ++ dd)) (st3 ++ [.ins c []]) with
          | val m d st4 =>
            rw [q3] at post
            cases d <;> first | exact post.elim | skip
            intro t7 v g7 k7 o7
            obtain rfl := o7.u.non
            exact ⟨rfl, post t7 _ (g6.trans g7) k7 (.ptr (g7.a _ _ hpx))⟩
          | exc c l st4 =>
            rw [q3] at post
            exact fun t7 x7 g7 k7 o7 => post t7 x7 (g6.trans g7) k7 o7
          | bad => rw [q3] at post; exact post.elim
      | exc c l st3 => rw [q2] at post; exact fun t' x g' => post t' x (g2.trans g')
      | bad => rw [q2] at post; exact post
  | exc c l st1 => rw [q] at post; exact post
  | bad => rw [q] at post; exact post
end
end Dn
namespace Dn
open PySem PySem.Spec PyProof.Rows L2
section
variable {G : Gm} {W : WX}
def ItOkE (G : Gm) (s : Hs) (σ : L2.St) (e : DE) (vs : List Nat) (t1 : Hs) (J : It) (l : List D) : Prop := ∀ (i : Nat) (t : Hs) (st : Sto), Up t1 t → EnvOk G s t (L2.wipe σ vs) (wipeE e vs) → StOk G t st → (l.length ≤ i → J.stop i t.h) ∧
  ∀ d, l[i]? = some d → J.go i t.h ∧ ∀ x H', J.yld i t.h x H' → ∃ t', t'.h = H' ∧ Gro t t' ∧ StOk G t' st ∧ Is G t'.as t'.f x d
def IPostE (G : Gm) (W : WX) (s : Hs) (e : DE) (vs : List Nat) (t : Hs) (σ : L2.St) (R : It → Hp → Prop) : AR → Prop
  | .ok _ l st => ∀ t' J, Gro t t' → StOk G t' st → ItOkE G s σ e vs t' J l → R J t'.h
  | .exc c l st => ∀ t' x, Gro t t' → StOk G t' st → ExcOk G t' c l x → W (.ref (G.ca c)) x σ t'.h
  | .bad => False
def DItE (G : Gm) (W : WX) (vs : List Nat) (wi : TI) (f : En → AR) : Prop := ∀ s t σ e st, EnvOk G s t σ e → StOk G t st → ∀ R : It → Hp → Prop, IPostE G W s e vs t σ R (f ⟨e, st⟩) → wi σ t.h R
theorem DIt.e {vs : List Nat} {wi : TI} {f : En → AR} (h : DIt G W wi f) : DItE G W vs wi f := by
  intro s t σ e st E k R post
  refine h s t σ e st E k R ?_
  cases q : f ⟨e, st⟩ with
  | ok p l st1 => rw [q] at post; exact fun t' J g k' it => post t' J g k' fun i t2 st2 u _ k2 => it i t2 st2 u k2
  | exc c l st1 => rw [q] at post; exact post
  | bad => rw [q] at post; exact post
def dIterV (i : Nat) : En → AR := fun E => match E.e[i]? with
  | some (.own l) => .ok false l E.st
  | _ => dIter (dVar i) E
theorem wipe_get {σ : L2.St} {e : DE} {i : Nat} : ∀ {vs : List Nat}, i ∉ vs → (L2.wipe σ vs)[i]? = σ[i]? ∧ (wipeE e vs)[i]? = e[i]?
  | [], _ => ⟨rfl, rfl⟩
  | v :: vs, h => by
    have h' : i ≠ v ∧ i ∉ vs := by simpa using h
    obtain ⟨a, b⟩ := wipe_get (σ := σ) (e := e) h'.2
    refine ⟨L2.wipe_out h, ?_⟩
    unfold wipeE
    rw [List.getElem?_set_ne (Ne.symm h'.1)]
    exact b
theorem i_own {i : Nat} {vs : List Nat} (hi : i ∉ vs) : DItE G W vs (iAny G.K (tVar i)) (dIterV i) := by
  intro s t σ e st E k R post
  unfold dIterV at post
  split at post
  · rename_i l q
    obtain ⟨o, h1, p, ws, rfl, a, b, c, d, f⟩ := E.slot q
    refine .inl ⟨_, h1, p, rfl, ⟨_, SqL.of c⟩, post t _ (Gro.refl k) k ?_⟩
    intro j t2 st2 u E2 k2
    obtain ⟨w1, w2⟩ := wipe_get (σ := σ) (e := e) hi
    obtain ⟨o2, g1, p2, vs2, g2, a2, b2, c2, d2, f2⟩ := E2.slot (w2.trans q)
    have w1' := w1.trans h1
    rw [g1] at w1'
    cases w1'
    cases g2
    refine ⟨fun hj => ⟨vs2, SqL.of c2, by rw [d2.len]; exact hj⟩, fun x hx => ?_⟩
    obtain ⟨v, v1, v2⟩ := d2.get hx
    refine ⟨⟨vs2, v, SqL.of c2, v1⟩, fun y H' z => ?_⟩
    obtain ⟨rfl, z⟩ := z
    have := z vs2 (SqL.of c2)
    rw [v1] at this; cases this
    exact ⟨t2, rfl, Gro.refl k2, k2, v2⟩
  · exact (DIt.e (vs := vs) (i_any v_var)) s t σ e st E k R post
theorem v_lcE {wi : TI} {g : TG} {tt : TT} {te : TE} {vs js : List Nat} {src : En → AR} {t : D → DE → Option DE} {c f : En → ER} (hi : DItE G W vs wi src) (hg : DTg G g js t) (hj : ∀ j ∈ js, j ∈ vs) (ht : DTt G W0 tt c) (he : DEv G W0 te f) : DEv G W (tLc wi g tt te vs) (dLc src t c f vs) := by
  intro s t0 σ e st E k0 Q post
  refine hi s t0 σ e st E k0 _ ?_
  unfold dLc at post
  cases q : src ⟨e, st⟩ with
  | ok p l st1 =>
    rw [q] at post
    obtain ⟨hlen, post⟩ := RPost.cond _ _ post
    obtain ⟨out, hout, post⟩ := RPost.opt _ _ post
    intro t1 J g1 k1 it Dl hD
    have hDH : t0.h Dl = none := by
      cases q : t0.h Dl with
      | none => rfl
      | some o =>
        by_cases i : Dl ∈ t0.as
        · exact absurd (g1.a.mem i) (k1.new hD)
        · rw [g1.h Dl o q i] at hD; cases hD
    have hD0 : s.h Dl = none := by
      cases q : s.h Dl with
      | none => rfl
      | some o =>
        by_cases i : Dl ∈ s.as
        · exact absurd (E.gr.a.mem i) (k0.new hDH)
        · rw [E.gr.h Dl o q i] at hDH; cases hDH
    have hDf : t1.f Dl = none := k1.sf.free hD
    have hDa : Dl ∉ t1.as := k1.new hD
    have Ew := (E.up g1).wipe vs
    have hne : ∀ (j : Nat) (m : List D), (L2.wipe σ vs)[j]? = some (some (.ref Dl)) → (wipeE e vs)[j]? = some (.own m) → False := fun j m a b => by
      obtain ⟨o, h1, p', vs', h2, _, _, h3, _⟩ := Ew.slot b
      rw [a] at h1; cases h1
      cases h2
      rw [hD] at h3; cases h3
    have gd := g1.chg (o := .lst []) hDH hDf
    refine ⟨fun i m H' => m = l.length - i ∧ i ≤ l.length ∧ ∃ t2 st2 acc vacc rest, t2.h = H' ∧ Up t1 t2 ∧ Gro t0 t2 ∧ StOk G t2 st2 ∧ EnvOk G s t2 (L2.wipe σ vs) (wipeE e vs) ∧ t2.h Dl = some (.lst vacc) ∧ IsL G t2.as t2.f vacc acc ∧ t2.f Dl = none ∧ Dl ∉ t2.as ∧ acc.length ≤ i ∧
      lcGo (lcStep t c f (wipeE e vs)) (l.drop i) st2 = some (rest, out.2) ∧ acc ++ rest = out.1, ⟨l.length, by simp, Nat.zero_le _, ⟨t1.as, t1.f, upd t1.h Dl (.lst [])⟩, st1, [], [], out.1, rfl, ⟨Ext.refl _, Same.refl _⟩, gd, k1.chg hDf hDa, Ew.other hD0 hDf hne, upd_same, .nil, hDf, hDa, Nat.zero_le _, hout, rfl⟩, ?_⟩
    rintro i m H2 ⟨rfl, hi, t2, st2, acc, vacc, rest, rfl, s2, g2, k2, E2, d2, a2, n2, na2, l2, r2, o2⟩
    obtain ⟨i1, i2⟩ := it i t2 st2 s2 E2 k2
    by_cases hlt : i < l.length
    · right
      have hd : l[i]? = some l[i] := List.getElem?_eq_getElem hlt
      obtain ⟨go, y⟩ := i2 _ hd
      rw [List.drop_eq_getElem_cons hlt] at r2
      refine ⟨go, fun H' => i + 1 ≤ l.length ∧ ∃ t2 st2 acc vacc rest, t2.h = H' ∧ Up t1 t2 ∧ Gro t0 t2 ∧ StOk G t2 st2 ∧ EnvOk G s t2 (L2.wipe σ vs) (wipeE e vs) ∧ t2.h Dl = some (.lst vacc) ∧ IsL G t2.as t2.f vacc acc ∧ t2.f Dl = none ∧ Dl ∉ t2.as ∧ acc.length ≤ i + 1 ∧
        lcGo (lcStep t c f (wipeE e vs)) (l.drop (i + 1)) st2 = some (rest, out.2) ∧ acc ++ rest = out.1, fun H' h => ⟨l.length - (i + 1), by omega, rfl, h⟩, fun x H' hy => ?_⟩
      obtain ⟨t3, rfl, g3, k3, i3⟩ := y x H' hy
      unfold lcGo at r2
      cases sk : lcStep t c f (wipeE e vs) l[i] st2 with
      | none => rw [sk] at r2; cases r2
      | some o =>
        rw [sk] at r2
        have r2 : ((lcGo (lcStep t c f (wipeE e vs)) (l.drop (i + 1)) o.2).bind fun r => some (o.1.toList ++ r.1, r.2)) = some (rest, out.2) := r2
        cases lg : lcGo (lcStep t c f (wipeE e vs)) (l.drop (i + 1)) o.2 with
        | none => rw [lg] at r2; cases r2
        | some rest' =>
          rw [lg] at r2
          have r3 : (o.1.toList ++ rest'.1, rest'.2) = (rest, out.2) := Option.some.inj r2
          have r4 : o.1.toList ++ rest'.1 = rest := (Prod.mk.inj r3).1
          have r5 : rest'.2 = out.2 := (Prod.mk.inj r3).2
          have lg' : lcGo (lcStep t c f (wipeE e vs)) (l.drop (i + 1)) o.2 = some (rest'.1, out.2) := by rw [lg, ← r5]
          unfold lcStep at sk
          cases q3 : t l[i] (wipeE e vs) with
          | none => rw [q3] at sk; cases sk
          | some e3 =>
            rw [q3] at sk
            refine hg s t3 (L2.wipe σ vs) (wipeE e vs) st2 x l[i] (E2.up g3) k3 i3 _ e3 q3 fun σ4 E4 l4 w4 => ?_
            refine ⟨wipe_agree (by rw [l4, L2.wipe_length]) hj w4 l4, ?_⟩
            refine ht s t3 σ4 e3 st2 E4 k3 _ ?_
            have sk' : (match c ⟨e3, st2⟩ with
              | .val _ (.bl b) st1 => if b = true then (match f ⟨e3, st1⟩ with | .val .P y st2 => some (some y, st2) | .val .N y st2 => some (some y, st2) | _ => none) else some (none, st1)
              | _ => none) = some o := sk
            cases q4 : c ⟨e3, st2⟩ with
            | exc k l st => rw [q4] at sk'; cases sk'
            | bad => rw [q4] at sk'; cases sk'
            | val mm d st4 =>
              rw [q4] at sk'
              cases d with
              | bl b =>
                intro t5 g5 k5
                have gg := g3.trans g5
                cases b with
                | false =>
                  cases sk'
                  refine iteF ⟨hlt, t5, st4, acc, vacc, rest'.1, rfl, s2.trans gg.up, g2.trans gg, k5, E2.up gg, gg.h _ _ d2 na2, a2.up gg.a gg.f, gg.n _ _ d2 n2, (fun m => (gg.w Dl m).elim na2 fun z => by rw [d2] at z; cases z), by omega, lg', ?_⟩
                  rw [← o2, ← r4]; rfl
                | true =>
                  refine iteT (he s t5 σ4 e3 st4 (E4.up g5) k5 _ ?_)
                  have fin : ∀ y st6 t6 v, Gro t5 t6 → StOk G t6 st6 → Is G t6.as t6.f v y → o = (some y, st6) → ∃ acc, t6.h Dl = some (.lst acc) ∧ acc.length < sizeLine ∧ (i + 1 ≤ l.length ∧ ∃ t2 st2 acc_1 vacc rest, t2.h = upd t6.h Dl (.lst (acc ++ [v])) ∧ Up t1 t2 ∧ Gro t0 t2 ∧ StOk G t2 st2 ∧ EnvOk G s t2 (L2.wipe σ vs) (wipeE e vs) ∧
                      t2.h Dl = some (.lst vacc) ∧ IsL G t2.as t2.f vacc acc_1 ∧ t2.f Dl = none ∧ Dl ∉ t2.as ∧ acc_1.length ≤ i + 1 ∧ lcGo (lcStep t c f (wipeE e vs)) (l.drop (i + 1)) st2 = some (rest, out.2) ∧ acc_1 ++ rest = out.1) := fun y st6 t6 v g6 k6 i6 ho => by
                    subst ho
                    have gh := gg.trans g6
                    have nn := gh.n _ _ d2 n2
                    have na : Dl ∉ t6.as := fun m => (gh.w Dl m).elim na2 fun z => by rw [d2] at z; cases z
                    have cl := a2.len
                    refine ⟨vacc, gh.h _ _ d2 na2, by rw [cl]; exact szlt (by omega), hlt, ⟨t6.as, t6.f, upd t6.h Dl (.lst (vacc ++ [v]))⟩, st6, acc ++ [y], vacc ++ [v], rest'.1, rfl, ?_, (g2.trans gh).chg hDH nn, k6.chg nn na, (E2.up gh).other hD0 nn hne, upd_same, (a2.up gh.a gh.f).append (.one i6), nn, na, by simp; omega, lg', ?_⟩
                    · exact ⟨s2.a.trans gh.a, s2.f.trans gh.f⟩
                    · rw [← o2, ← r4]
                      simp
                  have sk2 : (match f ⟨e3, st4⟩ with | .val .P y st2 => some (some y, st2) | .val .N y st2 => some (some y, st2) | _ => none) = some o := sk'
                  cases q6 : f ⟨e3, st4⟩ with
                  | val m6 y st6 =>
                    rw [q6] at sk2
                    intro t6 v g6 k6 o6
                    cases m6 with
                    | P => exact fin y st6 t6 v g6 k6 o6 (Option.some.inj sk2).symm
                    | B => cases sk2
                    | N =>
                      obtain ⟨f7, g7, k7, _, i7⟩ := o6.freeze g6 k6 (by decide)
                      exact fin y st6 ⟨t6.as, f7, t6.h⟩ v g7 k7 i7 (Option.some.inj sk2).symm
                  | exc k l st => rw [q6] at sk2; cases sk2
                  | bad => rw [q6] at sk2; cases sk2
              | _ => cases sk'
    · left
      have : i = l.length := by omega
      subst this
      refine ⟨i1 (Nat.le_refl _), ?_⟩
      rw [List.drop_length] at r2
      have r3 : (([] : List D), st2) = (rest, out.2) := Option.some.inj r2
      have r4 : [] = rest := (Prod.mk.inj r3).1
      have r5 : st2 = out.2 := (Prod.mk.inj r3).2
      subst r4
      rw [List.append_nil] at o2
      rw [← o2, ← r5] at post
      exact post t2 _ g2 k2 ⟨Dl, vacc, acc, rfl, rfl, d2, a2, na2, hDH, n2⟩
  | exc c l st1 => rw [q] at post; exact post
  | bad => rw [q] at post; exact post
end
end Dn
namespace Dn
open PySem PySem.Spec PyProof.Rows L2
section
variable {G : Gm} {W : WX}
def boolsOf : List D → Option (List Bool)
  | [] => some []
  | .bl i :: l => (boolsOf l).map (i :: ·)
  | _ => none
theorem boolsOf_V {as : List Addr} {H : Hp} : ∀ {l : List D} {vs : List V} {ns : List Bool}, boolsOf l = some ns → IsL G as H vs l → vs = ns.map V.bl
  | [], _, _, h, i => by cases i; cases h; rfl
  | d :: l, _, ns, h, i => by
    cases i with
    | cons a b =>
      cases d <;> first | (cases h; done) | skip
      rename_i i
      have h' : (boolsOf l).map (i :: ·) = some ns := h
      cases q : boolsOf l with
      | none => rw [q] at h'; cases h'
      | some ms =>
        rw [q] at h'; cases h'
        cases a
        rw [boolsOf_V q b]; rfl
def oAll : List D → Sto → ER
  | [.lst l], st => ofOpt (boolsOf l) fun ns => .val .P (.bl (ns.all id)) st
  | _, _ => .bad
def oAny : List D → Sto → ER
  | [.lst l], st => ofOpt (boolsOf l) fun ns => .val .P (.bl (ns.any id)) st
  | _, _ => .bad
theorem c_all : DCal G (rAll G.K) oAll := by
  refine DCal.one1 (fun _ => rfl) (fun a b l _ => by cases a <;> rfl) fun W σ s st v d k hv Q post => ?_
  cases d <;> try exact post.elim
  rename_i l
  obtain ⟨p, vs, rfl, hp, hl⟩ := hv.lst k.sf
  obtain ⟨ns, h, post⟩ := RPost.opt (boolsOf l) (fun ns => .val .P (.bl (ns.all id)) st) post
  have := boolsOf_V h hl
  subst this
  exact ⟨p, ns, rfl, SqL.of hp, post.now k (.bl _)⟩
def oRev : D → Sto → ER
  | .lst l, st => .val .N (.lst l.reverse) st
  | .ptr n, st => ofOpt (stLst st n) fun l => .val .N (.lst l.reverse) st
  | _, _ => .bad
def dRev (f : En → ER) : En → ER := fun E => (f E).bind oRev
theorem v_rev {te : TE} {f : En → ER} (h : DEv G W te f) : DEv G W (tRevL G.K te) (dRev f) := by
  intro s t σ e st E k Q post
  refine h s t σ e st E k _ (RPost.bind post fun m d st1 t1 v g1 k1 o1 p1 => ?_)
  cases d <;> try exact p1.elim
  case lst l =>
    obtain ⟨p, vs, rfl, hp, hl⟩ := o1.u.lst k1.sf
    exact ⟨p, vs, rfl, SqL.of hp, fun r hr => RPost.newL k1 p1 hl.reverse hr⟩
  case ptr n =>
    obtain ⟨p, rfl, hp⟩ := o1.u.ptr
    obtain ⟨l, ql, p1⟩ := RPost.opt (stLst st1 n) (fun l => .val .N (.lst l.reverse) st1) p1
    obtain ⟨vs, hh, hl⟩ := k1.lst hp ql
    exact ⟨p, vs, rfl, SqL.of hh, fun r hr => RPost.newL k1 p1 hl.reverse hr⟩
def mClear (l ds : List D) : Option (D × List D) := match ds with
  | [] => some (.non, [])
  | _ => none
def dMtX (op : List D → List D → Option (D × List D)) (fb : En → ER) (fa : En → AR) : En → ER := fun E => match fb E with
  | .val .N (.lst l) st => (match fa ⟨E.e, st⟩ with
    | .ok true ds st1 => (match op l ds with | some o => .val .P o.1 st1 | none => .bad)
    | .exc c l st => .exc c l st
    | _ => .bad)
  | _ => dMtP op fb fa E
theorem v_mtX {r : V → List V → Hp → VK → Prop} {op : List D → List D → Option (D × List D)} {tb : TE} {ta : TA} {fb : En → ER} {fa : En → AR} (hm : DMt G r op) (hb : DEv G W tb fb) (ha : DAr G W ta fa) : DEv G W (tBM G.K "list" r tb ta) (dMtX op fb fa) := by
  intro s t σ e st E k Q post
  unfold dMtX at post
  split at post
  · rename_i l st1 q
    refine hb s t σ e st E k _ ?_
    rw [q]
    intro t1 v g1 k1 o1
    obtain ⟨p, vs, l', rfl, e', c, il, na, n0, nf⟩ := o1
    cases e'
    refine ⟨.inl ⟨rfl, vs, SqL.of c⟩, ha s t1 σ e st1 (E.up g1) k1 _ ?_⟩
    cases q2 : fa ⟨e, st1⟩ with
    | ok b ds st2 =>
      rw [q2] at post
      cases b with
      | false => exact post.elim
      | true =>
        intro t2 xs g2 k2 i2 _
        cases ho : op l ds with
        | none => simp only [ho] at post; exact post.elim
        | some o =>
          simp only [ho] at post
          have hp' : t2.h p = some (.lst vs) := g2.h _ _ c na
          have hf' : t2.f p = none := g2.n _ _ c nf
          have ha' : p ∉ t2.as := fun m => (g2.w p m).elim na fun z => by rw [c] at z; cases z
          obtain ⟨v, vs', h1, h2, h3⟩ := hm t2 p vs l xs ds o hp' (il.up g2.a g2.f) (i2 rfl) ho k2.sf
          exact h3 _ (post ⟨t2.as, t2.f, upd t2.h p (.lst vs')⟩ v ((g1.trans g2).chg n0 hf') (k2.chg hf' ha') h1)
    | exc c l st2 => rw [q2] at post; exact fun t' x g' => post t' x (g1.trans g')
    | bad => rw [q2] at post; exact post
  · exact v_mtP hm hb ha s t σ e st E k Q post
end
end Dn
namespace Dn
open PySem PySem.Spec PyProof.Rows L2
theorem unit65 {k : Nat} {A : Around} (r : Room k A) : A.units + 65 < cLine := by have := r.un; omega
section
variable {G : Gm} {W : WX}
def inL (d : D) (l : List D) : Option Bool := if isPy d = true ∧ isPyL l = true ∧ SeqAt.shaped (py d) = true ∧ SeqAt.shaped (.list (pyL l)) = true then some ((pyL l).any fun z => PyData.eqv z (py d)) else none
def oIn (a b : D) (st : Sto) : ER := match b with
  | .lst l => ofOpt (inL a l) fun r => .val .P (.bl r) st
  | .ptr n => ofOpt (stLst st n) fun l => ofOpt (inL a l) fun r => .val .P (.bl r) st
  | .str z => (match a with
    | .str x => (match x.cps.toList with | [c] => .val .P (.bl (decide (c ∈ z.cps.toList))) st | _ => .bad)
    | _ => .bad)
  | _ => .bad
def oNotIn (a b : D) (st : Sto) : ER := match b with
  | .lst l => ofOpt (inL a l) fun r => .val .P (.bl (!r)) st
  | .ptr n => ofOpt (stLst st n) fun l => ofOpt (inL a l) fun r => .val .P (.bl (!r)) st
  | .str z => (match a with
    | .str x => (match x.cps.toList with | [c] => .val .P (.bl (!decide (c ∈ z.cps.toList))) st | _ => .bad)
    | _ => .bad)
  | _ => .bad
abbrev rInA (K : PySem.W.Frag) : R2 := rOr (rInD K) rInS
theorem or_in {X : Cx} (hu : X.A.units + 65 < cLine) : OpR X (compareOp .In) (rInA X.K) := opOr (op_inD hu) op_inS
theorem one_sign {x : Str} {c : Nat} (h : x.cps.toList = [c]) : x = ⟨#[c]⟩ := by
  cases x with | mk a =>
  have h' : a.toList = [c] := h
  have : a = #[c] := by apply Array.ext'; simpa using h'
  rw [this]
theorem inL_dp {s : Hs} {v w : V} {d : D} {l : List D} {r : Bool} (sm : Same s.f s.h) (hv : U G s v d) (p : Addr) (vs : List V) (hp : s.h p = some (.lst vs)) (hl : IsL G s.as s.f vs l) (h : inL d l = some r) : Dp G.K s.h v (py d) ∧ Dp G.K s.h (.ref p) (.list (pyL l)) ∧ SeqAt.shaped (py d) = true ∧ SeqAt.shaped (.list (pyL l)) = true ∧ r = (pyL l).any fun z => PyData.eqv z (py d) := by
  unfold inL at h
  split at h
  · rename_i c
    exact ⟨dp_u sm c.1 hv, .lst (SqL.of hp) (dpL_of sm l c.2.1 hl), c.2.2.1, c.2.2.2, (Option.some.inj h).symm⟩
  · cases h
theorem d_in : DOp G (rInA G.K) oIn := by
  intro W σ s st v w d d' k hv hw Q post
  cases d' <;> try exact post.elim
  case lst l =>
    obtain ⟨r, hr, post⟩ := RPost.opt (inL d l) (fun r => .val .P (.bl r) st) post
    obtain ⟨p, vs, rfl, hp, hl⟩ := hw.lst k.sf
    obtain ⟨a, b, c, e, f⟩ := inL_dp (w := .non) k.sf hv p vs hp hl hr
    exact .inl ⟨_, _, a, b, c, e, by rw [← f]; exact post.now k (.bl _)⟩
  case ptr n =>
    obtain ⟨l, hl, post⟩ := RPost.opt (stLst st n) (fun l => ofOpt (inL d l) fun r => .val .P (.bl r) st) post
    obtain ⟨r, hr, post⟩ := RPost.opt (inL d l) (fun r => .val .P (.bl r) st) post
    obtain ⟨p, rfl, hp⟩ := hw.ptr
    obtain ⟨vs, hh, il⟩ := k.lst hp hl
    obtain ⟨a, b, c, e, f⟩ := inL_dp (w := .non) k.sf hv p vs hh il hr
    exact .inl ⟨_, _, a, b, c, e, by rw [← f]; exact post.now k (.bl _)⟩
  case str z =>
    cases d <;> try exact post.elim
    rename_i x
    obtain rfl := hv.str; obtain rfl := hw.str
    cases q : x.cps.toList with
    | nil => simp only [oIn, q] at post; exact post.elim
    | cons c l =>
      cases l with
      | nil =>
        simp only [oIn, q] at post
        have := one_sign q
        subst this
        exact .inr ⟨c, z, rfl, rfl, RPost.now k post (.bl _)⟩
      | cons b l => simp only [oIn, q] at post; exact post.elim
end
end Dn
namespace Dn
open PySem PySem.Spec PyProof.Rows L2
section
variable {G : Gm} {W : WX}
def srt (ns : List Int) : List Int := ns.mergeSort (fun a b => decide (a ≤ b))
def oSorted : List D → Sto → ER
  | [.lst l], st => ofOpt (intsOf l) fun ns => if ns.length < 64 then .val .N (.lst ((srt ns).map .int)) st else .bad
  | _, _ => .bad
def dLr (f : En → ER) : En → ER := fun E => match f E with
  | .val _ (.int n) st => if -4611686018427387904 ≤ n ∧ n ≤ 1000000 then .val .N (.lst (rangeD 0 n.toNat)) st else .bad
  | .exc c l st => .exc c l st
  | _ => .bad
end
end Dn
namespace Dn
open PySem PySem.Spec PyProof.Rows L2 LamX
structure Alike (G G' : Gm) : Prop where
  K : G'.K = G.K
  ca : G'.ca = G.ca
  fn : G'.fn = G.fn
  tb : G'.tb = G.tb
  ed : G'.ed = G.ed
  en : G'.en = G.en
  el : G'.el = G.el
theorem Alike.symm {G G' : Gm} (a : Alike G G') : Alike G' G := ⟨a.K.symm, a.ca.symm, a.fn.symm, a.tb.symm, a.ed.symm, a.en.symm, a.el.symm⟩
mutual
theorem Is.sw {G G' : Gm} (a : Alike G G') {as : List Addr} {H : Hp} : ∀ (d : D) {v : V}, Is G as H v d → Is G' as H v d
  | .non, _, h => by cases h; exact .non
  | .bl _, _, h => by cases h; exact .bl _
  | .int _, _, h => by cases h; exact .int _
  | .str _, _, h => by cases h; exact .str _
  | .tup ds, _, h => by cases h with | tup p b => exact .tup (by rw [a.K]; exact p) (IsL.sw a ds b)
  | .lst ds, _, h => by cases h with | lst p b => exact .lst p (IsL.sw a ds b)
  | .scr l, _, h => by cases h with | scr p => exact .scr (by rw [a.K]; exact p)
  | .ptr n, _, h => by cases h with | ptr p => exact .ptr p
  | .obj c ds, _, h => by cases h with | obj p l b => exact .obj (by rw [a.ca, a.fn]; exact p) (by rw [a.fn]; exact l) (IsL.sw a ds b)
theorem IsL.sw {G G' : Gm} (a : Alike G G') {as : List Addr} {H : Hp} : ∀ (ds : List D) {vs : List V}, IsL G as H vs ds → IsL G' as H vs ds
  | [], _, h => by cases h; exact .nil
  | d :: ds, _, h => by cases h with | cons p b => exact .cons (Is.sw a d p) (IsL.sw a ds b)
end
section
variable {G G' : Gm} (a : Alike G G')
include a
theorem ObOk.sw {s : Hs} {x : Addr} {o : Ob} (h : ObOk G s x o) : ObOk G' s x o := by
  cases o with
  | lst l => obtain ⟨vs, h1, h2⟩ := h; exact ⟨vs, h1, IsL.sw a _ h2⟩
  | ins c l => obtain ⟨dx, vs, h1, h2, h3⟩ := h; exact ⟨dx, vs, by rw [a.ca, a.fn]; exact h1, by rw [a.fn]; exact h2, IsL.sw a _ h3⟩
  | tbl q => exact h
  | dct l => obtain ⟨kvs, h1, h2⟩ := h; exact ⟨kvs, h1, by
      clear h1
      induction h2 with
      | nil => exact .nil
      | cons p q ih => exact .cons (Is.sw a _ p) ih⟩
theorem StOk.sw {s : Hs} {st : Sto} (k : StOk G s st) : StOk G' s st := ⟨k.sf, k.len, k.nd, fun n x o h1 h2 => ObOk.sw a (k.ob n x o h1 h2), k.nf, by rw [a.tb]; exact k.tb, fun da h => by
  rw [a.ed] at h
  obtain ⟨xs, h1, h2, h3⟩ := k.ex da h
  rw [a.en, a.el]
  exact ⟨xs, h1, h2, IsL.sw a _ h3⟩⟩
theorem VOk.sw {s t : Hs} {m : Md} {v : V} {d : D} (h : VOk G s t m v d) : VOk G' s t m v d := by
  cases m with
  | P => exact Is.sw a _ h
  | B => obtain ⟨p, vs, l, x, b, c, e, f⟩ := h; exact ⟨p, vs, l, x, b, c, IsL.sw a _ e, f⟩
  | N => obtain ⟨p, vs, l, x, b, c, e, f, n, z⟩ := h; exact ⟨p, vs, l, x, b, c, IsL.sw a _ e, f, n, z⟩
theorem RPost.sw {s : Hs} {σ σ' : L2.St} {Q : VK} {r : ER} (h : RPost G' W0 s σ Q r) : RPost G W0 s σ' Q r := by
  cases r with
  | val m d st => exact fun t v g k o => h t v g (StOk.sw a k) (VOk.sw a o)
  | exc c l st =>
    intro t x g k o
    refine h t x g (StOk.sw a k) ?_
    rcases o with o | ⟨da, xs, o1, o2, o3, o4, o5⟩
    · exact .inl o
    · exact .inr ⟨da, xs, o1, o2, by rw [a.fn]; exact o3, by rw [a.fn]; exact o4, IsL.sw a _ o5⟩
  | bad => exact h
end
def slO : Option D → SL
  | some d => .val d
  | none => .emp
def cloOf (e : DE) : List (Option D) := e.map fun s => match s with | .val d => some d | _ => none
def cloE (ds : List (Option D)) (ja jb : Nat) (x y : D) : DE := ((ds.map slO).set ja (.val x)).set jb (.val y)
def startL (n : Nat) (d : D) (ds : List (Option D)) : DE := .val d :: .clo ds :: List.replicate (n - 2) .emp
section
variable {G : Gm}
def dHeld (i : Nat) (h : List (Option D) → D → D → Sto → ER) (fa : En → AR) : En → ER := fun E => match E.e[i]? with
  | some (.clo ds) => (match fa E with
    | .ok true [x, y] st => h ds x y st
    | .exc c l st => .exc c l st
    | _ => .bad)
  | _ => .bad
def valOnly : ER → ER
  | .val m d st => .val m d st
  | _ => .bad
def dLamC (np : Nat) (q : Str) (N : Nat) (g : En → SR) (f1 : En → ER) : En → ER := fun E => match f1 E with
  | .val .B _ _ => .bad
  | .val _ d1 st => (match st[np]? with
    | some (.tbl q') => if q' = q then valOnly (g ⟨startL N d1 (cloOf E.e), st⟩).ret else .bad
    | _ => .bad)
  | .exc c l st => .exc c l st
  | .bad => .bad
end
end Dn
namespace Dn
open PySem PySem.Spec PyProof.Rows L2 LamX
section
variable {G : Gm} {W : WX}
def sBad : En → SR := fun _ => .bad
def dBad : En → ER := fun _ => .bad
end
structure FunC (K : PySem.W.Frag) (x qual : Str) (st : Stmt) (f : Addr) (fd : FuncData) (c : Addr) : Prop where
  ex : ∃ (oc : Value) (od : Option Addr) (kV doc pm : Value) (an : Option Addr) (ct : Value) (osl : Array (Option Value)),
    fd = PySem.W.fnOf x qual (defArgs st) (defBody st) (defScope st) .none kV doc pm an (.ref c) ct ∧ K.lookup f = some ⟨oc, od, .func fd, osl⟩ ∧ PySem.W.codeIn K (.ref c) qual = true
  kp : PySem.W.keepIn K (.ref f) = true
end Dn
namespace Dn
open PySem PySem.Spec PyProof.Rows L2
section
variable {G : Gm} {W : WX}
open Classical in
noncomputable def forPD (n : Nat) (L : List D) (b : D → En → SR) : List D → En → SR
  | [], E => if stLst E.st n = some L then .nx E else .bad
  | x :: xs, E => if stLst E.st n = some L then (match b x E with
    | .nx E' => forPD n L b xs E'
    | .ct E' => forPD n L b xs E'
    | .bk E' => .nx E'
    | r => r) else .bad
noncomputable def sForX (f : En → ER) (t : D → DE → Option DE) (b : En → SR) : En → SR := fun E => match f E with
  | .val _ (.ptr n) st => (match stLst st n with | some l => forPD n l (tgB t b) l ⟨E.e, st⟩ | none => .bad)
  | _ => sFor (dIter f) t b E
def deref (st : Sto) (d : D) : D := match d with
  | .ptr n => (match stLst st n with | some l => .lst l | none => .ptr n)
  | d => d
def oEqX (a b : D) (st : Sto) : ER := oEq (deref st a) (deref st b) st
def oNeX (a b : D) (st : Sto) : ER := oNe (deref st a) (deref st b) st
end
end Dn
namespace Dn
open PySem PySem.Spec PySem.Calls PyProof.Rows L2
structure OwnM (P : Program) (w : World) (K : PySem.W.Frag) (mg : Str → Option Value) (base : Heap) (G : Gm) (m : Str) (n k : Nat) (c : Nat) (F : List D → Sto → ER) : Prop where
  ex : ∃ (f : Addr) (fd : FuncData) (ps : List Str), Meth K (G.ca c) m f ∧ FnOk P w K mg base (L2.CX P w) k f fd ps (spF G F) ∧ L2.Binds K fd ps [] ∧ ps.length = n
theorem cx_false {P : Program} {w : World} {st : List Env} {H : Hp} {s s' : Shared} {e : Value} (h : L2.CX P w st H s (fun _ _ _ => False) e s') : False := by
  obtain ⟨_, _, _, _, _, _, _, _, _, _, _, _, z⟩ := h
  exact z
section
variable {X : Cx} {G : Gm} {pins : List (Addr × Obj)} {σ : L2.St} {H : Hp} {s : Shared}
theorem run_own {m : Str} {n k c : Nat} {F : List D → Sto → ER} (O : OwnM X.prog X.w X.K X.mg X.base G m n k c F) : ∃ f, PySem.W.findIn X.K (.ref (G.ca c)) m = some (some (.ref f)) ∧ PySem.W.isFn X.K (.ref f) = true ∧
    ∀ (A : Around), Room k A → A.frames = X.A.frames → ∀ (pins : List (Addr × Obj)) (σ : L2.St) (H : Hp) (s : Shared) (vs : List V) (us : List Value) (Q : VK), Inv X pins σ H s → Vals vs us → vs.length = n → spF G F vs H Q (fun _ _ _ => False) → wpAny (model X.prog X.w) A (call (.ref f) us) (EP X pins σ Q) X.xe s := by
  obtain ⟨f, fd, ps, hm, hF, hb, hn⟩ := O.ex
  refine ⟨f, hm.at_, hm.fn, fun A hr fr pins σ H s vs us Q I r l h => ?_⟩
  have e := I.env0
  have e0 : Env0 X.prog X.w X.K X.mg X.base A X.stack s H := ⟨by rw [fr]; exact e.frames, e.mod, e.bs, e.bsz, e.funs, e.frf, e.hok, e.bare⟩
  have hbind : BindsTo s fd ⟨us, []⟩ (ps.zip us) := by
    have := hb s us I.kIn (by simp; rw [← r.length, l, hn])
    simpa using this
  refine wpAny_call (codeAny_mono (hF.run A X.stack s H ⟨us, []⟩ us vs Q (fun _ _ _ => False) hr e0 hbind r h) fun res s' hq => ?_)
  cases res with
  | error e => exact (cx_false hq).elim
  | ok fl =>
    cases fl with
    | ret u => exact I.after hq
    | next => exact False.elim hq
    | brk => exact False.elim hq
    | cont => exact False.elim hq
abbrev OwnL := List (Nat × (List D → Sto → ER))
def rLenO (G : Gm) (Os : OwnL) : List V → Hp → VK → Prop := fun xs H Q => ∃ x ∈ Os, ∃ a dx fs, xs = [.ref a] ∧ H a = some (.ins (G.ca x.1) dx fs) ∧ spF G x.2 [.ref a] H (fun v H' => ∃ n : Int, v = .int n ∧ 0 ≤ n ∧ n < 2 ^ 63 ∧ Q (.int n) H') (fun _ _ _ => False)
theorem call_lenO {Os : OwnL} {k : Nat} (hO : ∀ x ∈ Os, OwnM X.prog X.w X.K X.mg X.base G "__len__" 1 k x.1 x.2) (hr : Room (k + 1) X.A) : CallR X (.builtin "len") (rLenO G Os) := by
  intro pins s σ H xs us Q I r h
  obtain ⟨x, hx, a, dx, fs, rfl, ha, h⟩ := h
  obtain ⟨u, rfl, ru⟩ := vals1 r
  obtain rfl : u = Value.ref a := ru
  obtain ⟨f, hs, hf, run⟩ := run_own (hO x hx)
  obtain ⟨mA, J, _⟩ := ins_get I.hok ha
  obtain ⟨od, J, _⟩ := J.look
  obtain ⟨m, hF⟩ := I.fr
  refine PySem.W.len_K hF I.ok.mod.kin J hs hf (wpAny_mono (run X.A.in1 hr.in1 rfl pins σ H s [.ref a] [.ref a] _ I (.cons rfl .nil) rfl h) (fun v s' q => ?_) fun _ _ e => e)
  obtain ⟨v1, H', I', rv, n, rfl, h0, h1, q⟩ := q
  obtain ⟨t, rfl⟩ := rv
  exact ⟨⟨h0, h1⟩, .int n, H', I'.tok _, ⟨_, rfl⟩, q⟩
theorem CallR.or {f : Value} {r r' : List V → Hp → VK → Prop} (h : CallR X f r) (h' : CallR X f r') : CallR X f (fun xs H Q => r xs H Q ∨ r' xs H Q) := by
  intro pins s σ H xs us Q I rr z
  rcases z with z | z
  · exact h pins s σ H xs us Q I rr z
  · exact h' pins s σ H xs us Q I rr z
structure NeC (K : PySem.W.Frag) (C : Addr) : Prop where
  ne : PySem.W.findIn K (.ref C) "__ne__" = some (some (.builtin "object.__ne__"))
  mo : PySem.W.mroIn K C (.type "object") = some true
def rEqO (G : Gm) (Os : OwnL) (neg : Bool) : R2 := fun x y H Q => ∃ o ∈ Os, ∃ a dx fs t, x = .ref a ∧ H a = some (.ins (G.ca o.1) dx fs) ∧ TyX G.K H y t ∧ PySem.W.notFirst G.K (G.ca o.1) t = true ∧ spF G o.2 [.ref a, y] H (fun v H' => ∃ r : Bool, v = .bl r ∧ Q (.bl (r != neg)) H') (fun _ _ _ => False)
theorem op_eqO {Os : OwnL} {k : Nat} (hG : G.K = X.K) (hO : ∀ x ∈ Os, OwnM X.prog X.w X.K X.mg X.base G "__eq__" 2 k x.1 x.2) (hr : Room k X.A) : OpR X (compareOp .Eq) (rEqO G Os false) := by
  intro pins s σ H x y v u Q I rx ry h
  obtain ⟨o, ho, a, dx, fs, t, rfl, ha, ty, hn, h⟩ := h
  obtain rfl : v = Value.ref a := rx
  obtain ⟨f, hs, hf, run⟩ := run_own (hO o ho)
  obtain ⟨mA, J, _⟩ := ins_get I.hok ha
  obtain ⟨od, J, _⟩ := J.look
  obtain ⟨m, hF⟩ := I.fr
  rw [hG] at ty hn
  obtain ⟨P, kx, px, _⟩ := kit_of I ry ty
  show wpAny (model X.prog X.w) X.A (richCompare .Eq (.ref a) u) _ _ s
  refine PySem.W.cmp_K (op := .Eq) hr.units0 hF I.ok.mod.kin J (kx.ty _ _ I.kIn px) hn hs hf (wpAny_mono (run X.A hr rfl pins σ H s [.ref a, y] [.ref a, u] _ I (.cons rfl (.cons ry .nil)) rfl h) (fun v s' q => ?_) fun _ _ e => e)
  obtain ⟨v1, H', I', rv, r, rfl, q⟩ := q
  obtain rfl : v = Value.bool r := rv
  have : (r != false) = r := by cases r <;> rfl
  rw [this] at q
  exact ⟨.bl r, H', I', rfl, q⟩
end
def ownF : OwnL → Nat → Option (List D → Sto → ER)
  | [], _ => none
  | (c', F) :: l, c => if c = c' then some F else ownF l c
theorem ownF_mem : ∀ {Os : OwnL} {c : Nat} {F : List D → Sto → ER}, ownF Os c = some F → (c, F) ∈ Os
  | (c', F') :: l, c, F, h => by
    unfold ownF at h
    split at h
    · rename_i e
      cases h; subst e; exact List.mem_cons_self ..
    · exact List.mem_cons_of_mem _ (ownF_mem h)
section
variable {G : Gm} {W : WX}
def asLen : ER → ER
  | .val _ (.int i) st => if 0 ≤ i ∧ i < 2 ^ 63 then .val .P (.int i) st else .bad
  | _ => .bad
def dLenX (Os : OwnL) (f : En → ER) : En → ER := fun E => match f E with
  | .val _ (.ptr n) st => (match stIns st n with
    | some (c, _) => ofOpt (ownF Os c) fun F => asLen (F [.ptr n] st)
    | none => oLen [.ptr n] st)
  | .val _ d st => oLen [d] st
  | .exc c l st => .exc c l st
  | .bad => .bad
theorem v_lenX {Os : OwnL} {te : TE} {f : En → ER} (h : DEv G W te f) : DEv G W (tCB (fun xs H Q => (∃ x n, xs = [x] ∧ LenV G.K x H n ∧ Q (.int n) H) ∨ rLenO G Os xs H Q) (tCons te tNil)) (dLenX Os f) := by
  intro s t σ e st E k Q post
  refine h s t σ e st E k _ ?_
  unfold dLenX at post
  cases q : f ⟨e, st⟩ with
  | exc c l st1 => rw [q] at post; exact post
  | bad => rw [q] at post; exact post
  | val m d st1 =>
    rw [q] at post
    intro t1 v g1 k1 o1
    have plain : ∀ (d : D), U G t1 v d → RPost G W t σ Q (oLen [d] st1) → ∃ x n, [v] = [x] ∧ LenV G.K x t1.h n ∧ Q (.int n) t1.h := fun d u p => c_len W σ t1 st1 [v] [d] k1 (.cons u .nil) Q (RPost.step g1 k1 p)
    cases d with
    | ptr n =>
      cases hi : stIns st1 n with
      | none => simp only [hi] at post; exact .inl (plain _ o1.u post)
      | some cl =>
        obtain ⟨c, l0⟩ := cl
        simp only [hi] at post
        obtain ⟨F, hF, post⟩ := RPost.opt _ _ post
        obtain ⟨a, rfl, hp⟩ := o1.u.ptr
        obtain ⟨dx, fs, hh, hl, il⟩ := k1.ins hp hi
        refine .inr ⟨(c, F), ownF_mem hF, a, dx, _, rfl, hh, t1, [.ptr n], st1, rfl, k1, .cons (.ptr hp) .nil, ?_⟩
        have p1 := RPost.step g1 k1 post
        show RPost G _ t1 [] _ (F [.ptr n] st1)
        cases q2 : F [.ptr n] st1 with
        | exc c l st2 => simp only [asLen, q2] at p1; exact p1.elim
        | bad => simp only [asLen, q2] at p1; exact p1.elim
        | val m2 d2 st2 =>
          cases d2 <;> first | (simp only [asLen, q2] at p1; exact p1.elim) | skip
          rename_i i
          simp only [asLen, q2] at p1
          obtain ⟨c1, p1⟩ := RPost.cond (0 ≤ i ∧ i < 2 ^ 63) (.val .P (.int i) st2) p1
          intro t2 v2 g2 k2 o2
          obtain rfl := o2.u.int
          exact ⟨i, rfl, c1.1, c1.2, p1 t2 _ g2 k2 (.int _)⟩
    | _ => exact .inl (plain _ o1.u post)
def asStr : ER → ER
  | .val _ (.str i) st => .val .P (.str i) st
  | _ => .bad
def asBl (neg : Bool) : ER → ER
  | .val _ (.bl i) st => .val .P (.bl (i != neg)) st
  | _ => .bad
def oInt : List D → Sto → ER
  | [.int i], st => .val .P (.int i) st
  | [.bl b], st => .val .P (.int (if b then 1 else 0)) st
  | [.str a], st => if a.length ≤ 640 then ofOpt (PySem.intText? a) fun n => .val .P (.int n) st else .bad
  | _, _ => .bad
def itxt (i : Int) : Str := toString i
def oStr : List D → Sto → ER
  | [.int i], st => if i.natAbs.log2 < 1920 then .val .P (.str (itxt i)) st else .bad
  | [.str a], st => .val .P (.str a) st
  | _, _ => .bad
def dStrX (Os : OwnL) (f : En → ER) : En → ER := fun E => match f E with
  | .val _ (.ptr n) st => (match stIns st n with
    | some (c, _) => ofOpt (ownF Os c) fun F => asStr (F [.ptr n] st)
    | none => .bad)
  | .val _ d st => oStr [d] st
  | .exc c l st => .exc c l st
  | .bad => .bad
structure ClsI (K : PySem.W.Frag) (C : Addr) : Prop where
  cl : Cls K C
  ha : PySem.W.findIn K (.ref C) "__class__" = some (some (.builtin "object.__class__"))
  hn : PySem.W.specialIn K (.builtin "object.__class__") "__get__" = some (some (.builtin "getset_descriptor.__get__"))
  htk : PySem.W.takesIn K (.builtin "object.__class__") = some true
  hm : PySem.W.mroIn K C (.type "object") = some true
def plainTs : List String := ["NoneType", "bool", "int", "str", "tuple", "list"]
theorem tyN_plain {d : D} (h : plainT d) : tyN d ∈ plainTs := by
  cases d <;> first | exact h.elim | simp [tyN, plainTs]
def isO (tab : Nat → Option Bool) : D → Sto → ER
  | .ptr n, st => (match stIns st n with | some (c, _) => ofOpt (tab c) fun b => .val .P (.bl b) st | none => (match stLst st n with | some _ => .val .P (.bl false) st | none => .bad))
  | .obj _ _, _ => .bad
  | .scr _, _ => .bad
  | _, st => .val .P (.bl false) st
def dIsO (tab : Nat → Option Bool) (f : En → ER) : En → ER := fun E => (f E).bind (isO tab)
structure IsOk (G : Gm) (C : Addr) (tab : Nat → Option Bool) : Prop where
  ki : ∀ c b, tab c = some b → PySem.W.kitOne G.K (.ref (G.ca c)) (.ref C) = some b
  ci : ∀ c b, tab c = some b → ClsI G.K (G.ca c)
  kt : ∀ T ∈ plainTs, PySem.W.kitOne G.K (.type T) (.ref C) = some false
theorem v_isO {C : Addr} {tab : Nat → Option Bool} {te : TE} {f : En → ER} (T : IsOk G C tab) (h : DEv G W te f) : DEv G W (tCB (rIsi G.K) (tCons te (tCons (tC (.ref C)) tNil))) (dIsO tab f) := by
  intro s t σ e st E k Q post
  refine h s t σ e st E k _ (RPost.bind post fun m d st1 t1 v g1 k1 o1 p1 => ?_)
  have key : ∀ (hd : plainT d) (p1 : RPost G W t1 σ Q (.val .P (.bl false) st1)), rIsi G.K [v, .ref C] t1.h Q := fun hd p1 =>
    ⟨v, .ref C, _, _, false, rfl, .own C, tyX_of k1.sf o1.u hd, T.kt _ (tyN_plain hd), p1.now k1 (.bl _)⟩
  cases d with
  | ptr n =>
    obtain ⟨a, rfl, hp⟩ := o1.u.ptr
    have p1 : RPost G W t1 σ Q (match stIns st1 n with | some (c, _) => ofOpt (tab c) fun b => .val .P (.bl b) st1 | none => (match stLst st1 n with | some _ => .val .P (.bl false) st1 | none => .bad)) := p1
    cases hi : stIns st1 n with
    | none =>
      simp only [hi] at p1
      cases hl : stLst st1 n with
      | none => simp only [hl] at p1; exact p1.elim
      | some l =>
        simp only [hl] at p1
        obtain ⟨vs, hh, il⟩ := k1.lst hp hl
        exact ⟨_, .ref C, _, _, false, rfl, .own C, .base (.lst hh), T.kt "list" (by decide), p1.now k1 (.bl _)⟩
    | some cl =>
      obtain ⟨c, l0⟩ := cl
      simp only [hi] at p1
      obtain ⟨b, hb, p1⟩ := RPost.opt _ _ p1
      obtain ⟨dx, fs, hh, hl, il⟩ := k1.ins hp hi
      have ci := T.ci c b hb
      exact ⟨_, .ref C, _, _, b, rfl, .own C, .base (.ins hh ci.cl ci.ha ci.hn ci.htk ci.hm), T.ki c b hb, p1.now k1 (.bl _)⟩
  | obj c l => exact p1.elim
  | scr l => exact p1.elim
  | non => exact key trivial p1
  | bl b => exact key trivial p1
  | int i => exact key trivial p1
  | str x => exact key trivial p1
  | tup l => exact key trivial p1
  | lst l => exact key trivial p1
structure EqOk (G : Gm) (Os : OwnL) (Cs : List Nat) : Prop where
  pt : ∀ x ∈ Os, ∀ T ∈ plainTs, PySem.W.notFirst G.K (G.ca x.1) (.type T) = true
  pc : ∀ x ∈ Os, ∀ c ∈ Cs, PySem.W.notFirst G.K (G.ca x.1) (.ref (G.ca c)) = true
  ci : ∀ c ∈ Cs, ClsI G.K (G.ca c)
def eqArg (Cs : List Nat) : D → Sto → Bool
  | .ptr n, st => (match stIns st n with | some (c, _) => Cs.contains c | none => false)
  | .obj _ _, _ => false
  | .scr _, _ => false
  | _, _ => true
def eqO2 (Os : OwnL) (Cs : List Nat) (neg : Bool) (o : D → D → Sto → ER) (m : Md) (x y : D) (st : Sto) : ER := match x with
  | .ptr n => (match stIns st n with
    | some (c, _) => ofOpt (ownF Os c) fun F => if m ≠ .B ∧ eqArg Cs y st = true then asBl neg (F [.ptr n, y] st) else .bad
    | none => o x y st)
  | _ => o x y st
def dEqO (Os : OwnL) (Cs : List Nat) (neg : Bool) (o : D → D → Sto → ER) (f g : En → ER) : En → ER := fun E => match f E with
  | .val _ x st => (match g ⟨E.e, st⟩ with
    | .val m y st1 => eqO2 Os Cs neg o m x y st1
    | .exc c l st => .exc c l st
    | .bad => .bad)
  | .exc c l st => .exc c l st
  | .bad => .bad
theorem v_eqO {Os : OwnL} {Cs : List Nat} {neg : Bool} {o : D → D → Sto → ER} {r : R2} {ta tb : TE} {f g : En → ER} (hr : DOp G r o) (T : EqOk G Os Cs) (ha : DEv G W ta f) (hb : DEv G W tb g) : DEv G W (tOp (rOr r (rEqO G Os neg)) ta tb) (dEqO Os Cs neg o f g) := by
  intro s t σ e st E k Q post
  refine ha s t σ e st E k _ ?_
  unfold dEqO at post
  cases q : f ⟨e, st⟩ with
  | exc c l st1 => rw [q] at post; exact post
  | bad => rw [q] at post; exact post
  | val m x st1 =>
    rw [q] at post
    intro t1 v g1 k1 o1
    have post : RPost G W t1 σ Q (match g ⟨e, st1⟩ with
      | .val m y st1 => eqO2 Os Cs neg o m x y st1
      | .exc c l st => .exc c l st
      | .bad => .bad) := RPost.step g1 k1 post
    refine hb s t1 σ e st1 (E.up g1) k1 _ ?_
    cases q2 : g ⟨e, st1⟩ with
    | exc c l st2 => rw [q2] at post; exact post
    | bad => rw [q2] at post; exact post
    | val m2 y st2 =>
      rw [q2] at post
      intro t2 u g2 k2 o2
      have plain : RPost G W t1 σ Q (o x y st2) → rOr r (rEqO G Os neg) v u t2.h Q := fun p => .inl (hr W σ t2 st2 v u x y k2 ((o1.up g2).u) o2.u Q (RPost.step g2 k2 p))
      cases x with
      | ptr n =>
        have post : RPost G W t1 σ Q (match stIns st2 n with
          | some (c, _) => ofOpt (ownF Os c) fun F => if m2 ≠ .B ∧ eqArg Cs y st2 = true then asBl neg (F [.ptr n, y] st2) else .bad
          | none => o (.ptr n) y st2) := post
        cases hi : stIns st2 n with
        | none => simp only [hi] at post; exact plain post
        | some cl =>
          obtain ⟨c, l0⟩ := cl
          simp only [hi] at post
          obtain ⟨F, hF, post⟩ := RPost.opt _ _ post
          obtain ⟨hc, post2⟩ := RPost.cond _ _ post
          obtain ⟨a, rfl, hp⟩ := (o1.up g2).u.ptr
          obtain ⟨f2, gf, kf, sf, i2⟩ := o2.freeze g2 k2 hc.1
          have hp' : (⟨t2.as, f2, t2.h⟩ : Hs).as[n]? = some a := hp
          obtain ⟨dx, fs, hh, hl, il⟩ := kf.ins hp' hi
          have hmem := ownF_mem hF
          have ty : ∃ tv, TyX G.K t2.h u tv ∧ PySem.W.notFirst G.K (G.ca c) tv = true := by
            have pl : plainT y → ∃ tv, TyX G.K t2.h u tv ∧ PySem.W.notFirst G.K (G.ca c) tv = true := fun hd => ⟨_, tyX_of k2.sf o2.u hd, T.pt _ hmem _ (tyN_plain hd)⟩
            cases y with
            | ptr j =>
              have h2 : (match stIns st2 j with | some (c, _) => Cs.contains c | none => false) = true := hc.2
              cases hj : stIns st2 j with
              | none => simp only [hj] at h2; cases h2
              | some cl2 =>
                obtain ⟨c2, l2⟩ := cl2
                simp only [hj] at h2
                have hc2 : c2 ∈ Cs := by simpa using h2
                obtain ⟨b, rfl, hb2⟩ := o2.u.ptr
                obtain ⟨dx2, fs2, hh2, _, _⟩ := k2.ins hb2 hj
                have ci := T.ci c2 hc2
                exact ⟨_, .base (.ins hh2 ci.cl ci.ha ci.hn ci.htk ci.hm), T.pc _ hmem _ hc2⟩
            | obj c l => cases hc.2
            | scr l => cases hc.2
            | non => exact pl trivial
            | bl b => exact pl trivial
            | int i => exact pl trivial
            | str x => exact pl trivial
            | tup l => exact pl trivial
            | lst l => exact pl trivial
          obtain ⟨tv, ty, nf⟩ := ty
          refine .inr ⟨(c, F), hmem, a, dx, _, tv, rfl, hh, ty, nf, ⟨t2.as, f2, t2.h⟩, [.ptr n, y], st2, rfl, kf, .cons (.ptr hp) (.cons i2 .nil), ?_⟩
          have p1 : RPost G W ⟨t2.as, f2, t2.h⟩ σ Q (asBl neg (F [.ptr n, y] st2)) := RPost.step gf kf post2
          show RPost G _ ⟨t2.as, f2, t2.h⟩ [] _ (F [.ptr n, y] st2)
          cases q3 : F [.ptr n, y] st2 with
          | exc c l st2 => simp only [asBl, q3] at p1; exact p1.elim
          | bad => simp only [asBl, q3] at p1; exact p1.elim
          | val m3 d3 st3 =>
            cases d3 <;> first | (simp only [asBl, q3] at p1; exact p1.elim) | skip
            rename_i i
            simp only [asBl, q3] at p1
            intro t3 v3 g3 k3 o3
            obtain rfl := o3.u.bl
            exact ⟨i, rfl, p1 t3 _ g3 k3 (.bl _)⟩
      | _ => exact plain post
end
end Dn
namespace Dn
open PySem PySem.Spec PyProof.Rows L2
def lexLe (a b : Int × Int) : Bool := !SrtO.lexB b a
def srtP (rs : List (Int × Int)) : List (Int × Int) := rs.mergeSort lexLe
def rowsOf : List D → Option (List (Int × Int))
  | [] => some []
  | .tup [.int a, .int b] :: l => (rowsOf l).map ((a, b) :: ·)
  | _ => none
section
variable {G : Gm} {W : WX}
def oSortedX : List D → Sto → ER
  | [.lst l], st => (match intsOf l with
    | some ns => if ns.length < 64 then .val .N (.lst ((srt ns).map .int)) st else .bad
    | none => ofOpt (rowsOf l) fun rs => .val .N (.lst ((srtP rs).map fun r => .tup [.int r.1, .int r.2])) st)
  | _, _ => .bad
end
end Dn
namespace Dn
open PySem PySem.Spec PyProof.Rows L2
section
variable {G : Gm} {W : WX}
def dMs (op : Str → List D → Sto → ER) (fb : En → ER) (fa : En → AR) : En → ER := fun E => match fb E with
  | .val _ (.str x) st => (match fa ⟨E.e, st⟩ with
    | .ok _ ds st1 => op x ds st1
    | .exc c l st => .exc c l st
    | .bad => .bad)
  | .exc c l st => .exc c l st
  | _ => .bad
def strsOf : List D → Option (List Str)
  | [] => some []
  | .str i :: l => (strsOf l).map (i :: ·)
  | _ => none
def seqStrs : D → Sto → Option (List Str)
  | .lst l, _ => strsOf l
  | .tup l, _ => strsOf l
  | .ptr n, st => (stLst st n).bind strsOf
  | _, _ => none
def msJoin (a : Str) (ds : List D) (st : Sto) : ER := match ds with
  | [d] => ofOpt (seqStrs d st) fun ys => if (ys.map (·.length)).sum + ys.length * a.length ≤ 1000000 then .val .P (.str (Txt.join a ys)) st else .bad
  | _ => .bad
def msSplit (a : Str) (ds : List D) (st : Sto) : ER := match ds with
  | [.str b] => if (b.length == 0) = false ∧ a.length + 2 ≤ 1000000 then .val .N (.lst ((Txt.split a b).map .str)) st else .bad
  | _ => .bad
def msPartition (a : Str) (ds : List D) (st : Sto) : ER := match ds with
  | [.str b] => if (b.length == 0) = false ∧ a.length ≤ 1000000 then .val .P (.tup [.str (Txt.partition a b).1, .str (Txt.partition a b).2.1, .str (Txt.partition a b).2.2]) st else .bad
  | _ => .bad
def msCount (a : Str) (ds : List D) (st : Sto) : ER := match ds with
  | [.str b] => .val .P (.int (Txt.count a b)) st
  | _ => .bad
def dFmt (f : En → ER) : En → ER := fun E => match f E with
  | .val _ (.str y) st => if y.length ≤ 1000000 then .val .P (.str y) st else .bad
  | .val _ (.int i) st => if i.natAbs.log2 < 1920 then .val .P (.str (itxt i)) st else .bad
  | .exc c l st => .exc c l st
  | _ => .bad
inductive DJs (G : Gm) (W : WX) : List TE → List (En → ER) → Prop
  | nil : DJs G W [] []
  | cons {t : TE} {ts : List TE} {f : En → ER} {fs : List (En → ER)} : DEv G W t f → DJs G W ts fs → DJs G W (t :: ts) (f :: fs)
def jsGo : List (En → ER) → Str → DE → Sto → ER
  | [], acc, _, st => .val .P (.str acc) st
  | f :: fs, acc, e, st => match f ⟨e, st⟩ with
    | .val _ (.str y) st1 => if (acc ++ y).length ≤ 1000000 then jsGo fs (acc ++ y) e st1 else .bad
    | .exc c l st => .exc c l st
    | _ => .bad
def dJs (fs : List (En → ER)) : En → ER := fun E => jsGo fs Str.empty E.e E.st
end
end Dn
namespace Dn
open PySem PySem.Spec PyProof.Rows L2
section
variable {G : Gm} {W : WX}
def isTP (T : String) : D → Sto → ER
  | .ptr n, st => (match stLst st n with | some _ => ofOpt (kitB "list" T) fun b => .val .P (.bl b) st | none => .bad)
  | d, st => isT T d st
def dIsiP (T : String) (f : En → ER) : En → ER := fun E => (f E).bind (isTP T)
end
end Dn
namespace Dn
open PySem PySem.Spec PyProof.Rows L2
@[simp] theorem e_oAdd_1 : ∀ i j st, oAdd (.int i) (.int j) st = .val .P (.int (i + j)) st := fun _ _ _ => rfl
@[simp] theorem e_oAdd_2 : ∀ a b st, oAdd (.str a) (.str b) st = if a.length + b.length ≤ 1000000 then .val .P (.str (a ++ b)) st else .bad := fun _ _ _ => rfl
@[simp] theorem e_oAdd_3 : ∀ a b st, oAdd (.lst a) (.lst b) st = if a.length + b.length ≤ 1000000 then .val .N (.lst (a ++ b)) st else .bad := fun _ _ _ => rfl
@[simp] theorem e_oAdd_4 : ∀ a b st, oAdd (.tup a) (.tup b) st = if a.length + b.length ≤ 1000000 then .val .P (.tup (a ++ b)) st else .bad := fun _ _ _ => rfl
@[simp] theorem e_oSub_1 : ∀ i j st, oSub (.int i) (.int j) st = .val .P (.int (i - j)) st := fun _ _ _ => rfl
@[simp] theorem e_oMul_1 : ∀ i j st, oMul (.int i) (.int j) st = if i.natAbs.log2 + j.natAbs.log2 < 1000000 then .val .P (.int (i * j)) st else .bad := fun _ _ _ => rfl
@[simp] theorem e_oMul_2 : ∀ a k st, oMul (.lst a) (.int k) st = if -(2 ^ 63) ≤ k ∧ k < 2 ^ 63 ∧ a.length * k.toNat ≤ 1000000 then .val .N (.lst (List.replicate k.toNat a).flatten) st else .bad := fun _ _ _ => rfl
@[simp] theorem e_oDiv_1 : ∀ i j st, oDiv (.int i) (.int j) st = if j ≠ 0 ∧ j.natAbs.log2 < 9000 then .val .P (.int (i.fdiv j)) st else .bad := fun _ _ _ => rfl
@[simp] theorem e_oMod_1 : ∀ i j st, oMod (.int i) (.int j) st = if j ≠ 0 then .val .P (.int (i.fmod j)) st else .bad := fun _ _ _ => rfl
@[simp] theorem e_oPow_1 : ∀ i j st, oPow (.int i) (.int j) st = if 0 ≤ j ∧ j ≤ 1000000 ∧ i.natAbs < 2 ^ 64 then .val .P (.int (i ^ j.toNat)) st else .bad := fun _ _ _ => rfl
@[simp] theorem e_oCmp_1 {p : Int → Int → Bool} : ∀ i j st, oCmp p (.int i) (.int j) st = .val .P (.bl (p i j)) st := fun _ _ _ => rfl
@[simp] theorem e_oIx_1 : ∀ l i st, oIx (.lst l) (.int i) st = ofOpt (atI l i) fun d => .val .P d st := fun _ _ _ => rfl
@[simp] theorem e_oIx_2 : ∀ l i st, oIx (.tup l) (.int i) st = ofOpt (atI l i) fun d => .val .P d st := fun _ _ _ => rfl
@[simp] theorem e_oIx_3 : ∀ l i st, oIx (.scr l) (.int i) st = ofOpt (atI l i) fun d => .val .P (.int d) st := fun _ _ _ => rfl
@[simp] theorem e_oIx_4 : ∀ z i st, oIx (.str z) (.int i) st = if z.length ≤ 1000000 then ofOpt (atI z.cps.toList i) (fun c => .val .P (.str ⟨#[c]⟩) st) else .bad := fun _ _ _ => rfl
@[simp] theorem e_oIx_5 : ∀ n i st, oIx (.ptr n) (.int i) st = ofOpt (stLst st n) fun l => ofOpt (atI l i) fun d => .val .P d st := fun _ _ _ => rfl
@[simp] theorem e_dVar {i : Nat} {E : En} : dVar i E = match E.e[i]? with
  | some (.val d) => .val .P d E.st
  | some (.own l) => .val .B (.lst l) E.st
  | _ => .bad := rfl
@[simp] theorem e_dC {d : D} {E : En} : dC d E = .val .P d E.st := rfl
@[simp] theorem e_dOp {o : D → D → Sto → ER} {f g : En → ER} {E : En} : dOp o f g E = (f E).bind fun x st => (g ⟨E.e, st⟩).bind fun y st => o x y st := rfl
@[simp] theorem e_dUn {o : D → Sto → ER} {f : En → ER} {E : En} : dUn o f E = (f E).bind o := rfl
@[simp] theorem e_oNeg_1 : ∀ i st, oNeg (.int i) st = .val .P (.int (-i)) st := fun _ _ => rfl
@[simp] theorem e_dAnd {f g : En → ER} {E : En} : dAnd f g E = (f E).bindB fun b st => if b = true then g ⟨E.e, st⟩ else .val .P (.bl false) st := rfl
@[simp] theorem e_dOr {f g : En → ER} {E : En} : dOr f g E = (f E).bindB fun b st => if b = true then .val .P (.bl true) st else g ⟨E.e, st⟩ := rfl
@[simp] theorem e_dNot {f : En → ER} {E : En} : dNot f E = (f E).bindB fun b st => .val .P (.bl (!b)) st := rfl
@[simp] theorem e_dIf {c f g : En → ER} {E : En} : dIf c f g E = (c E).bindB fun b st => if b = true then f ⟨E.e, st⟩ else g ⟨E.e, st⟩ := rfl
@[simp] theorem e_dChain {o o' : D → D → Sto → ER} {f g h : En → ER} {E : En} : dChain o o' f g h E = (f E).bind fun x st => (g ⟨E.e, st⟩).bind fun y st => (o x y st).bindB fun b st => if b = true then (h ⟨E.e, st⟩).bind fun z st => o' y z st else .val .P (.bl false) st := rfl
@[simp] theorem e_aNil {E : En} : aNil  E = .ok true [] E.st := rfl
@[simp] theorem e_aCons {f : En → ER} {g : En → AR} {E : En} : aCons f g E = (f E).cons fun st => g ⟨E.e, st⟩ := rfl
@[simp] theorem e_dTup {f : En → AR} {E : En} : dTup f E = match f E with
  | .ok true l st => if l.length ≤ 1000000 then .val .P (.tup l) st else .bad
  | .exc c l st => .exc c l st
  | _ => .bad := rfl
@[simp] theorem e_dLst {f : En → AR} {E : En} : dLst f E = match f E with
  | .ok true l st => if l.length ≤ 1000000 then .val .N (.lst l) st else .bad
  | .exc c l st => .exc c l st
  | _ => .bad := rfl
@[simp] theorem e_dPut {f : En → ER} {E : En} : dPut f E = match f E with
  | .val .N (.lst l) st => .val .P (.ptr st.length) (st ++ [.lst l])
  | .exc c l st => .exc c l st
  | _ => .bad := rfl
@[simp] theorem e_dCall {F : List D → Sto → ER} {f : En → AR} {E : En} : dCall F f E = match f E with
  | .ok true l st => F l st
  | .exc c l st => .exc c l st
  | _ => .bad := rfl
@[simp] theorem e_dCB {o : List D → Sto → ER} {f : En → AR} {E : En} : dCB o f E = match f E with
  | .ok _ l st => o l st
  | .exc c l st => .exc c l st
  | .bad => .bad := rfl
@[simp] theorem e_oAbs_1 : ∀ i st, oAbs ([.int i]) st = .val .P (.int (if i < 0 then -i else i)) st := fun _ _ => rfl
@[simp] theorem e_oLen_1 : ∀ l st, oLen ([.lst l]) st = .val .P (.int l.length) st := fun _ _ => rfl
@[simp] theorem e_oLen_2 : ∀ l st, oLen ([.tup l]) st = .val .P (.int l.length) st := fun _ _ => rfl
@[simp] theorem e_oLen_3 : ∀ l st, oLen ([.scr l]) st = .val .P (.int l.length) st := fun _ _ => rfl
@[simp] theorem e_oLen_4 : ∀ n st, oLen ([.ptr n]) st = ofOpt (stLst st n) fun l => .val .P (.int l.length) st := fun _ _ => rfl
@[simp] theorem e_oLen_5 : ∀ z st, oLen ([.str z]) st = if z.length ≤ 1000000 then .val .P (.int z.length) st else .bad := fun _ _ => rfl
@[simp] theorem e_oMax2_1 : ∀ i j st, oMax2 ([.int i, .int j]) st = .val .P (.int (if j > i then j else i)) st := fun _ _ _ => rfl
@[simp] theorem e_oMin2_1 : ∀ i j st, oMin2 ([.int i, .int j]) st = .val .P (.int (if j < i then j else i)) st := fun _ _ _ => rfl
@[simp] theorem e_oSum_1 : ∀ l st, oSum ([.lst l]) st = ofOpt (intsOf l) fun ns => .val .P (.int ns.sum) st := fun _ _ => rfl
@[simp] theorem e_oList_1 : ∀ l st, oList ([.lst l]) st = .val .N (.lst l) st := fun _ _ => rfl
@[simp] theorem e_oList_2 : ∀ l st, oList ([.tup l]) st = .val .N (.lst l) st := fun _ _ => rfl
@[simp] theorem e_oList_3 : ∀ l st, oList ([.scr l]) st = .val .N (.lst (l.map .int)) st := fun _ _ => rfl
@[simp] theorem e_oList_4 : ∀ n st, oList ([.ptr n]) st = ofOpt (stLst st n) fun l => .val .N (.lst l) st := fun _ _ => rfl
@[simp] theorem e_oTuple_1 : ∀ l st, oTuple ([.lst l]) st = .val .P (.tup l) st := fun _ _ => rfl
@[simp] theorem e_oTuple_2 : ∀ l st, oTuple ([.tup l]) st = .val .P (.tup l) st := fun _ _ => rfl
@[simp] theorem e_dSl {o : D → Option Int → Option Int → Sto → ER} {f : En → ER} {lo hi : En → Option ER} {E : En} : dSl o f lo hi E = (f E).bind fun x st => ofOpt (partI (lo ⟨E.e, st⟩) st) fun l => ofOpt (partI (hi ⟨E.e, l.2⟩) l.2) fun u => o x l.1 u.1 u.2 := rfl
@[simp] theorem e_sSeq {f g : En → SR} {E : En} : sSeq f g E = (f E).bind g := rfl
@[simp] theorem e_sSet {i : Nat} {f : En → ER} {E : En} : sSet i f E = match f E with
  | .val .P d st => .nx ⟨E.e.set i (.val d), st⟩
  | .val .N (.lst l) st => .nx ⟨E.e.set i (.own l), st⟩
  | .exc c l st => .exc c l ⟨E.e, st⟩
  | _ => .bad := rfl
@[simp] theorem e_sSetF {i : Nat} {f : En → ER} {E : En} : sSetF i f E = match f E with
  | .val .P d st => .nx ⟨E.e.set i (.val d), st⟩
  | .val .N d st => .nx ⟨E.e.set i (.val d), st⟩
  | .exc c l st => .exc c l ⟨E.e, st⟩
  | _ => .bad := rfl
@[simp] theorem e_sAsg {t : D → DE → Option DE} {f : En → ER} {E : En} : sAsg t f E = match f E with
  | .val .B _ _ => .bad
  | .val _ d st => (match t d E.e with | some e' => .nx ⟨e', st⟩ | none => .bad)
  | .exc c l st => .exc c l ⟨E.e, st⟩
  | _ => .bad := rfl
@[simp] theorem e_sPar {i j : Nat} {f : En → AR} {E : En} : sPar i j f E = match f E with
  | .ok true [a, b] st => .nx ⟨(E.e.set i (.val a)).set j (.val b), st⟩
  | .exc c l st => .exc c l ⟨E.e, st⟩
  | _ => .bad := rfl
@[simp] theorem e_sDrop {f : En → ER} {E : En} : sDrop f E = match f E with
  | .val _ _ st => .nx ⟨E.e, st⟩
  | .exc c l st => .exc c l ⟨E.e, st⟩
  | .bad => .bad := rfl
@[simp] theorem e_sRet {f : En → ER} {E : En} : sRet f E = match f E with
  | .val .P d st => .rt .P d st
  | .val .N d st => .rt .N d st
  | .exc c l st => .exc c l ⟨E.e, st⟩
  | _ => .bad := rfl
@[simp] theorem e_sRetV {i : Nat} {E : En} : sRetV i E = match E.e[i]? with
  | some (.val d) => .rt .P d E.st
  | some (.own l) => .rt .N (.lst l) E.st
  | _ => .bad := rfl
@[simp] theorem e_sRetN {E : En} : sRetN  E = .rt .P .non E.st := rfl
@[simp] theorem e_sIf {c : En → ER} {f g : En → SR} {E : En} : sIf c f g E = match c E with
  | .val _ (.bl b) st => if b = true then f ⟨E.e, st⟩ else g ⟨E.e, st⟩
  | .exc c l st => .exc c l ⟨E.e, st⟩
  | _ => .bad := rfl
@[simp] theorem e_sFrz {i : Nat} {g : En → SR} {E : En} : sFrz i g E = g ⟨frz i E.e, E.st⟩ := rfl
@[simp] theorem e_sApp {i : Nat} {f : En → ER} {E : En} : sApp i f E = match E.e[i]? with
  | some (.own l) => (match f E with
    | .val .B _ _ => .bad
    | .val _ d st => if l.length < 1000000 then .nx ⟨E.e.set i (.own (l ++ [d])), st⟩ else .bad
    | .exc c l st => .exc c l ⟨E.e, st⟩
    | .bad => .bad)
  | _ => .bad := rfl
@[simp] theorem e_sSetO {x : Nat} {f fi : En → ER} {E : En} : sSetO x f fi E = match E.e[x]? with
  | some (.own l) => (match f E with
    | .val .B _ _ => .bad
    | .val _ d st => (match fi ⟨E.e, st⟩ with
      | .val _ (.int i) st1 => (match ixN l.length i with | some j => .nx ⟨E.e.set x (.own (l.set j d)), st1⟩ | none => .bad)
      | .exc c l st => .exc c l ⟨E.e, st⟩
      | _ => .bad)
    | .exc c l st => .exc c l ⟨E.e, st⟩
    | .bad => .bad)
  | _ => .bad := rfl
@[simp] theorem e_sSetP {fb f fi : En → ER} {E : En} : sSetP fb f fi E = match f E with
  | .val .B _ _ => .bad
  | .val _ d st => (match fb ⟨E.e, st⟩ with
    | .val _ (.ptr n) st1 => (match fi ⟨E.e, st1⟩ with
      | .val _ (.int i) st2 => (match stLst st2 n with
        | some l => (match ixN l.length i with | some j => .nx ⟨E.e, st2.set n (.lst (l.set j d))⟩ | none => .bad)
        | none => .bad)
      | .exc c l st => .exc c l ⟨E.e, st⟩
      | _ => .bad)
    | .exc c l st => .exc c l ⟨E.e, st⟩
    | _ => .bad)
  | .exc c l st => .exc c l ⟨E.e, st⟩
  | .bad => .bad := rfl
@[simp] theorem e_dIter {f : En → ER} {E : En} : dIter f E = match f E with
  | .val .B _ _ => .bad
  | .val _ d st => (match itemsOf d with | some l => .ok true l st | none => .bad)
  | .exc c l st => .exc c l st
  | .bad => .bad := rfl
@[simp] theorem e_dRng {r : List D → Option (Int × Nat)} {f : En → AR} {E : En} : dRng r f E = match f E with
  | .ok _ l st => (match r l with | some r => .ok true (rangeD r.1 r.2) st | none => .bad)
  | .exc c l st => .exc c l st
  | _ => .bad := rfl
@[simp] theorem e_dEnum {f : En → AR} {E : En} : dEnum f E = match f E with
  | .ok true [.lst l] st => .ok true (enumD 0 l) st
  | .exc c l st => .exc c l st
  | _ => .bad := rfl
@[simp] theorem e_dZip {f : En → AR} {E : En} : dZip f E = match f E with
  | .ok true [.lst l, .lst m] st => .ok true (zipD l m) st
  | .exc c l st => .exc c l st
  | _ => .bad := rfl
@[simp] theorem e_sFor {src : En → AR} {t : D → DE → Option DE} {b : En → SR} {E : En} : sFor src t b E = match src E with
  | .ok _ l st => forD (tgB t b) l ⟨E.e, st⟩
  | .exc c l st => .exc c l ⟨E.e, st⟩
  | .bad => .bad := rfl
@[simp] theorem e_dLc {src : En → AR} {t : D → DE → Option DE} {c f : En → ER} {vs : List Nat} {E : En} : dLc src t c f vs E = match src E with
  | .ok _ l st => if l.length ≤ 1000000 then ofOpt (lcGo (lcStep t c f (wipeE E.e vs)) l st) fun r => .val .N (.lst r.1) r.2 else .bad
  | .exc k l st => .exc k l st
  | .bad => .bad := rfl
@[simp] theorem e_sRaise {c : Nat} {E : En} : sRaise c E = .exc c [] E := rfl
@[simp] theorem e_dCallG {F : List D → Sto → ER} {n m : Nat} {idx : List Nat} {dd : List D} {f g : En → AR} {E : En} : dCallG F n m idx dd f g E = match f E with
  | .ok true l st => (match g ⟨E.e, st⟩ with
    | .ok true z st1 => if l.length = n ∧ z.length = m then F (pickL idx (l ++ z ++ dd)) st1 else .bad
    | .exc c l st => .exc c l st
    | _ => .bad)
  | .exc c l st => .exc c l st
  | _ => .bad := rfl
@[simp] theorem e_dIsi {T : String} {f : En → ER} {E : En} : dIsi T f E = (f E).bind (isT T) := rfl
@[simp] theorem e_sTryAs {i : Nat} {catch? : Nat → Option Bool} {g : En → SR} {h : Nat → List D → En → SR} {E : En} : sTryAs i catch? g h E = match g E with
  | .exc c l E1 => (match catch? c with
    | some true => (match h c l ⟨(clr E1.e).set i .exn, E1.st⟩ with
      | .nx E2 => .nx ⟨(clr E2.e).set i .emp, E2.st⟩
      | .bk E2 => .bk ⟨(clr E2.e).set i .emp, E2.st⟩
      | .ct E2 => .ct ⟨(clr E2.e).set i .emp, E2.st⟩
      | .rt m d st => .rt m d st
      | _ => .bad)
    | some false => .exc c l E1
    | none => .bad)
  | r => r := rfl
@[simp] theorem e_dIsE {i : Nat} {b : Option Bool} {E : En} : dIsE i b E = match E.e[i]? with
  | some .exn => ofOpt b fun b => .val .P (.bl b) E.st
  | _ => .bad := rfl
@[simp] theorem e_dMtP {op : List D → List D → Option (D × List D)} {fb : En → ER} {fa : En → AR} {E : En} : dMtP op fb fa E = match fb E with
  | .val _ (.ptr n) st => (match stLst st n with
    | some _ => (match fa ⟨E.e, st⟩ with
      | .ok true ds st1 => (match stLst st1 n with
        | some l => (match op l ds with | some o => .val .P o.1 (st1.set n (.lst o.2)) | none => .bad)
        | none => .bad)
      | .exc c l st => .exc c l st
      | _ => .bad)
    | none => .bad)
  | .exc c l st => .exc c l st
  | _ => .bad := rfl
@[simp] theorem e_sMtO {j : Option Nat} {op : List D → List D → Option (D × List D)} {i : Nat} {fa : En → AR} {E : En} : sMtO j op i fa E = match E.e[i]? with
  | some (.own l) => (match fa E with
    | .ok true ds st1 => (match op l ds with | some o => .nx ⟨putAt j o.1 (E.e.set i (.own o.2)), st1⟩ | none => .bad)
    | .exc c l st => .exc c l ⟨E.e, st⟩
    | _ => .bad)
  | _ => .bad := rfl
@[simp] theorem e_sMt {op : List D → List D → Option (D × List D)} {i : Nat} {fa : En → AR} {E : En} : sMt op i fa E = match E.e[i]? with
  | some (.own _) => sMtO none op i fa E
  | _ => sDrop (dMtP op (dVar i) fa) E := rfl
@[simp] theorem e_sMtA {j : Nat} {op : List D → List D → Option (D × List D)} {i : Nat} {fa : En → AR} {E : En} : sMtA j op i fa E = match E.e[i]? with
  | some (.own _) => sMtO (some j) op i fa E
  | _ => sSetF j (dMtP op (dVar i) fa) E := rfl
@[simp] theorem e_dFld {ix : Nat → Option Nat} {fe : En → ER} {E : En} : dFld ix fe E = (fe E).bind fun x st => match x with
  | .ptr n => (match stIns st n with
    | some (c, l) => (match ix c with
      | some i => ofOpt l[i]? fun d => .val .P d st
      | none => .bad)
    | none => .bad)
  | _ => .bad := rfl
@[simp] theorem e_sFldS {ix : Nat → Option Nat} {fo fe : En → ER} {E : En} : sFldS ix fo fe E = match fe E with
  | .val .B _ _ => .bad
  | .val _ d st => (match fo ⟨E.e, st⟩ with
    | .val _ (.ptr n) st1 => (match stIns st1 n with
      | some (c, l) => (match ix c with
        | some i => (match putI i d l with
          | some l' => .nx ⟨E.e, st1.set n (.ins c l')⟩
          | none => .bad)
        | none => .bad)
      | none => .bad)
    | .exc c l st => .exc c l ⟨E.e, st⟩
    | _ => .bad)
  | .exc c l st => .exc c l ⟨E.e, st⟩
  | .bad => .bad := rfl
@[simp] theorem e_dMeth {c : Nat} {F : List D → Sto → ER} {n r : Nat} {idx : List Nat} {dd : List D} {fo : En → ER} {fa fk : En → AR} {E : En} : dMeth c F n r idx dd fo fa fk E = (fo E).bind fun x st => match x with
  | .ptr p => (match stIns st p with
    | some (c', _) => if c' = c then (match fa ⟨E.e, st⟩ with
      | .ok true l st1 => (match fk ⟨E.e, st1⟩ with
        | .ok true z st2 => if l.length + 1 = n ∧ z.length = r then F (pickL idx ((.ptr p :: l) ++ z ++ dd)) st2 else .bad
        | .exc c l st => .exc c l st
        | _ => .bad)
      | .exc c l st => .exc c l st
      | _ => .bad) else .bad
    | none => .bad)
  | _ => .bad := rfl
@[simp] theorem e_dAlt {p : En → Bool} {f g : En → ER} {E : En} : dAlt p f g E = if p E = true then f E else g E := rfl
@[simp] theorem e_dMake {c : Nat} {F : List D → Sto → ER} {n r : Nat} {idx : List Nat} {dd : List D} {fa fk : En → AR} {E : En} : dMake c F n r idx dd fa fk E = match fa E with
  | .ok true l st => (match fk ⟨E.e, st⟩ with
    | .ok true z st1 => if l.length + 1 = n ∧ z.length = r then (match F (pickL idx ((.ptr st1.length :: l) ++ z ++ dd)) (st1 ++ [.ins c []]) with
      | .val _ .non st2 => .val .P (.ptr st1.length) st2
      | .exc c l st => .exc c l st
      | _ => .bad) else .bad
    | .exc c l st => .exc c l st
    | _ => .bad)
  | .exc c l st => .exc c l st
  | _ => .bad := rfl
@[simp] theorem e_oAll_1 : ∀ l st, oAll ([.lst l]) st = ofOpt (boolsOf l) fun ns => .val .P (.bl (ns.all id)) st := fun _ _ => rfl
@[simp] theorem e_oAny_1 : ∀ l st, oAny ([.lst l]) st = ofOpt (boolsOf l) fun ns => .val .P (.bl (ns.any id)) st := fun _ _ => rfl
@[simp] theorem e_oRev_1 : ∀ l st, oRev (.lst l) st = .val .N (.lst l.reverse) st := fun _ _ => rfl
@[simp] theorem e_oRev_2 : ∀ n st, oRev (.ptr n) st = ofOpt (stLst st n) fun l => .val .N (.lst l.reverse) st := fun _ _ => rfl
@[simp] theorem e_dRev {f : En → ER} {E : En} : dRev f E = (f E).bind oRev := rfl
@[simp] theorem e_dMtX {op : List D → List D → Option (D × List D)} {fb : En → ER} {fa : En → AR} {E : En} : dMtX op fb fa E = match fb E with
  | .val .N (.lst l) st => (match fa ⟨E.e, st⟩ with
    | .ok true ds st1 => (match op l ds with | some o => .val .P o.1 st1 | none => .bad)
    | .exc c l st => .exc c l st
    | _ => .bad)
  | _ => dMtP op fb fa E := rfl
@[simp] theorem e_oSorted_1 : ∀ l st, oSorted ([.lst l]) st = ofOpt (intsOf l) fun ns => if ns.length < 64 then .val .N (.lst ((srt ns).map .int)) st else .bad := fun _ _ => rfl
@[simp] theorem e_dLr {f : En → ER} {E : En} : dLr f E = match f E with
  | .val _ (.int n) st => if -4611686018427387904 ≤ n ∧ n ≤ 1000000 then .val .N (.lst (rangeD 0 n.toNat)) st else .bad
  | .exc c l st => .exc c l st
  | _ => .bad := rfl
@[simp] theorem e_dHeld {i : Nat} {h : List (Option D) → D → D → Sto → ER} {fa : En → AR} {E : En} : dHeld i h fa E = match E.e[i]? with
  | some (.clo ds) => (match fa E with
    | .ok true [x, y] st => h ds x y st
    | .exc c l st => .exc c l st
    | _ => .bad)
  | _ => .bad := rfl
@[simp] theorem e_dLamC {np : Nat} {q : Str} {N : Nat} {g : En → SR} {f1 : En → ER} {E : En} : dLamC np q N g f1 E = match f1 E with
  | .val .B _ _ => .bad
  | .val _ d1 st => (match st[np]? with
    | some (.tbl q') => if q' = q then valOnly (g ⟨startL N d1 (cloOf E.e), st⟩).ret else .bad
    | _ => .bad)
  | .exc c l st => .exc c l st
  | .bad => .bad := rfl
@[simp] theorem e_dLenX {Os : OwnL} {f : En → ER} {E : En} : dLenX Os f E = match f E with
  | .val _ (.ptr n) st => (match stIns st n with
    | some (c, _) => ofOpt (ownF Os c) fun F => asLen (F [.ptr n] st)
    | none => oLen [.ptr n] st)
  | .val _ d st => oLen [d] st
  | .exc c l st => .exc c l st
  | .bad => .bad := rfl
@[simp] theorem e_oInt_1 : ∀ i st, oInt ([.int i]) st = .val .P (.int i) st := fun _ _ => rfl
@[simp] theorem e_oInt_2 : ∀ b st, oInt ([.bl b]) st = .val .P (.int (if b then 1 else 0)) st := fun _ _ => rfl
@[simp] theorem e_oInt_3 : ∀ a st, oInt ([.str a]) st = if a.length ≤ 640 then ofOpt (PySem.intText? a) fun n => .val .P (.int n) st else .bad := fun _ _ => rfl
@[simp] theorem e_oStr_1 : ∀ i st, oStr ([.int i]) st = if i.natAbs.log2 < 1920 then .val .P (.str (itxt i)) st else .bad := fun _ _ => rfl
@[simp] theorem e_oStr_2 : ∀ a st, oStr ([.str a]) st = .val .P (.str a) st := fun _ _ => rfl
@[simp] theorem e_dStrX {Os : OwnL} {f : En → ER} {E : En} : dStrX Os f E = match f E with
  | .val _ (.ptr n) st => (match stIns st n with
    | some (c, _) => ofOpt (ownF Os c) fun F => asStr (F [.ptr n] st)
    | none => .bad)
  | .val _ d st => oStr [d] st
  | .exc c l st => .exc c l st
  | .bad => .bad := rfl
@[simp] theorem e_dIsO {tab : Nat → Option Bool} {f : En → ER} {E : En} : dIsO tab f E = (f E).bind (isO tab) := rfl
@[simp] theorem e_dEqO {Os : OwnL} {Cs : List Nat} {neg : Bool} {o : D → D → Sto → ER} {f g : En → ER} {E : En} : dEqO Os Cs neg o f g E = match f E with
  | .val _ x st => (match g ⟨E.e, st⟩ with
    | .val m y st1 => eqO2 Os Cs neg o m x y st1
    | .exc c l st => .exc c l st
    | .bad => .bad)
  | .exc c l st => .exc c l st
  | .bad => .bad := rfl
@[simp] theorem e_dMs {op : Str → List D → Sto → ER} {fb : En → ER} {fa : En → AR} {E : En} : dMs op fb fa E = match fb E with
  | .val _ (.str x) st => (match fa ⟨E.e, st⟩ with
    | .ok _ ds st1 => op x ds st1
    | .exc c l st => .exc c l st
    | .bad => .bad)
  | .exc c l st => .exc c l st
  | _ => .bad := rfl
@[simp] theorem e_dFmt {f : En → ER} {E : En} : dFmt f E = match f E with
  | .val _ (.str y) st => if y.length ≤ 1000000 then .val .P (.str y) st else .bad
  | .val _ (.int i) st => if i.natAbs.log2 < 1920 then .val .P (.str (itxt i)) st else .bad
  | .exc c l st => .exc c l st
  | _ => .bad := rfl
@[simp] theorem e_dJs {fs : List (En → ER)} {E : En} : dJs fs E = jsGo fs Str.empty E.e E.st := rfl
@[simp] theorem e_dIsiP {T : String} {f : En → ER} {E : En} : dIsiP T f E = (f E).bind (isTP T) := rfl
@[simp] theorem e_sSkip {E : En} : sSkip E = .nx E := rfl
@[simp] theorem e_sBreak {E : En} : sBreak E = .bk E := rfl
@[simp] theorem e_sCont {E : En} : sCont E = .ct E := rfl
@[simp] theorem cons_P {d : D} {st : Sto} {a : Sto → AR} : (ER.val .P d st).cons a = (a st).cons true d := rfl
@[simp] theorem cons_N {d : D} {st : Sto} {a : Sto → AR} : (ER.val .N d st).cons a = (a st).cons true d := rfl
@[simp] theorem cons_B {d : D} {st : Sto} {a : Sto → AR} : (ER.val .B d st).cons a = (a st).cons false d := rfl
@[simp] theorem cons_exc {k : Nat} {l : List D} {st : Sto} {a : Sto → AR} : (ER.exc k l st).cons a = .exc k l st := rfl
@[simp] theorem cons_bad {a : Sto → AR} : ER.bad.cons a = .bad := rfl
@[simp] theorem acons_ok {p q : Bool} {d : D} {l : List D} {st : Sto} : (AR.ok q l st).cons p d = .ok (p && q) (d :: l) st := rfl
@[simp] theorem acons_exc {p : Bool} {d : D} {k : Nat} {l : List D} {st : Sto} : (AR.exc k l st).cons p d = .exc k l st := rfl
@[simp] theorem acons_bad {p : Bool} {d : D} : AR.bad.cons p d = .bad := rfl
@[simp] theorem e_pickNil {α : Type} {l : List α} : pickL [] l = [] := rfl
@[simp] theorem e_pickCons {α : Type} {k : Nat} {ks : List Nat} {l : List α} : pickL (k :: ks) l = (match l[k]? with | some x => [x] | none => []) ++ pickL ks l := by
  unfold pickL; rw [List.filterMap_cons]; cases l[k]? <;> rfl
@[simp] theorem e_part0 {st : Sto} : partI none st = some (none, st) := rfl
@[simp] theorem e_partI {m : Md} {i : Int} {st st1 : Sto} : partI (some (.val m (.int i) st1)) st = some (some i, st1) := rfl
@[simp] theorem e_tgN {i : Nat} {e : DE} {d : D} : tgN i d e = some (e.set i (.val d)) := rfl
@[simp] theorem e_tgsNil {e : DE} : tgsNil [] e = some e := rfl
@[simp] theorem e_tgsCons {e : DE} {q : D → DE → Option DE} {qs : List D → DE → Option DE} {d : D} {l : List D} : tgsCons q qs (d :: l) e = (q d e).bind (qs l) := rfl
@[simp] theorem e_tgTt {e : DE} {n : Nat} {qs : List D → DE → Option DE} {l : List D} : tgT n qs (.tup l) e = if l.length = n then qs l e else none := rfl
@[simp] theorem e_tgTl {e : DE} {n : Nat} {qs : List D → DE → Option DE} {l : List D} : tgT n qs (.lst l) e = if l.length = n then qs l e else none := rfl
@[simp] theorem e_tgB {E : En} {s : En → SR} {q : D → DE → Option DE} {d : D} : tgB q s d E = match q d E.e with | some e' => s ⟨e', E.st⟩ | none => .bad := rfl
@[simp] theorem e_for0 {b : D → En → SR} {E : En} : forD b [] E = .nx E := rfl
theorem e_forC {b : D → En → SR} {x : D} {xs : List D} {E : En} : forD b (x :: xs) E = match b x E with | .nx e' => forD b xs e' | .ct e' => forD b xs e' | .bk e' => .nx e' | r => r := rfl
@[simp] theorem e_itL {l : List D} : itemsOf (.lst l) = some l := rfl
@[simp] theorem e_itT {l : List D} : itemsOf (.tup l) = some l := rfl
@[simp] theorem e_itS {z : Str} : itemsOf (.str z) = some (z.cps.toList.map fun c => .str ⟨#[c]⟩) := rfl
@[simp] theorem e_itR {l : List Int} : itemsOf (.scr l) = some (l.map .int) := rfl
@[simp] theorem e_rng1 {j : Int} : rng1 [.int j] = if -(2 ^ 62) ≤ j ∧ j < 2 ^ 62 then some (0, j.toNat) else none := rfl
@[simp] theorem e_rng2 {i j : Int} : rng2 [.int i, .int j] = if -(2 ^ 62) ≤ i ∧ i < 2 ^ 62 ∧ -(2 ^ 62) ≤ j ∧ j < 2 ^ 62 then some (i, (j - i).toNat) else none := rfl
@[simp] theorem e_wipe0 {e : DE} : wipeE e [] = e := rfl
@[simp] theorem e_wipeC {e : DE} {v : Nat} {vs : List Nat} : wipeE e (v :: vs) = (wipeE e vs).set v .emp := rfl
@[simp] theorem e_lc0 {k : D → Sto → Option (Option D × Sto)} {st : Sto} : lcGo k [] st = some ([], st) := rfl
theorem e_lcC {k : D → Sto → Option (Option D × Sto)} {d : D} {l : List D} {st : Sto} : lcGo k (d :: l) st = (k d st).bind fun o => (lcGo k l o.2).bind fun r => some (o.1.toList ++ r.1, r.2) := rfl
@[simp] theorem e_lcStep {q : D → DE → Option DE} {c f : En → ER} {e : DE} {d : D} {st : Sto} : lcStep q c f e d st = match q d e with
  | none => none
  | some e2 => (match c ⟨e2, st⟩ with
    | .val _ (.bl b) st1 => if b = true then (match f ⟨e2, st1⟩ with | .val .P y st2 => some (some y, st2) | .val .N y st2 => some (some y, st2) | _ => none) else some (none, st1)
    | _ => none) := rfl
@[simp] theorem e_nilOnly {s : En → SR} {E : En} : nilOnly [] s E = s E := rfl
@[simp] theorem e_clr0 : clr [] = [] := rfl
@[simp] theorem e_clrC {x : SL} {r : DE} : clr (x :: r) = (match x with | .exn => .emp | .clo _ => .emp | s => s) :: clr r := rfl
@[simp] theorem e_ret_nx {E : En} : (SR.nx E).ret = .val .P .non E.st := rfl
@[simp] theorem e_ret_rt {m : Md} {d : D} {st : Sto} : (SR.rt m d st).ret = .val m d st := rfl
@[simp] theorem e_ret_exc {k : Nat} {l : List D} {E : En} : (SR.exc k l E).ret = .exc k l E.st := rfl
@[simp] theorem e_ret_bad : SR.bad.ret = .bad := rfl
@[simp] theorem e_fnD {n m : Nat} {s : En → SR} {ds : List D} {st : Sto} : fnD n m s ds st = if ds.length = n then (s ⟨startE m ds, st⟩).ret else .bad := rfl
@[simp] theorem e_startE {n : Nat} {ds : List D} : startE n ds = ds.map .val ++ List.replicate (n - ds.length) .emp := rfl
@[simp] theorem e_frz {i : Nat} {e : DE} : frz i e = match e[i]? with | some (.own l) => e.set i (.val (.lst l)) | _ => e := rfl
@[simp] theorem e_sSetI {x : Nat} {f fi : En → ER} {E : En} : sSetI x f fi E = match E.e[x]? with | some (.own _) => sSetO x f fi E | _ => sSetP (dVar x) f fi E := rfl
@[simp] theorem e_stLst {st : Sto} {n : Nat} : stLst st n = match st[n]? with | some (.lst l) => some l | _ => none := rfl
@[simp] theorem e_slL {l : List D} {lo hi : Option Int} {st : Sto} : oSl (.lst l) lo hi st = .val .N (.lst (cutG l lo hi)) st := rfl
@[simp] theorem e_slR {l : List Int} {lo hi : Option Int} {st : Sto} : oSl (.scr l) lo hi st = .val .N (.lst ((cutG l lo hi).map .int)) st := rfl
@[simp] theorem e_slS {z : Str} {lo hi : Option Int} {st : Sto} : oSl (.str z) lo hi st = if z.length ≤ 1000000 then .val .P (.str (cutS z lo hi)) st else .bad := rfl
@[simp] theorem e_isN {a : D} {st : Sto} : oIsN a .non st = .val .P (.bl (isNon a)) st := rfl
@[simp] theorem e_notN {a : D} {st : Sto} : oNotN a .non st = .val .P (.bl (!isNon a)) st := rfl
@[simp] theorem isNon_non : isNon .non = true := rfl
@[simp] theorem isNon_int {i : Int} : isNon (.int i) = false := rfl
@[simp] theorem isNon_str {i : Str} : isNon (.str i) = false := rfl
@[simp] theorem isNon_lst {i : List D} : isNon (.lst i) = false := rfl
@[simp] theorem isNon_tup {i : List D} : isNon (.tup i) = false := rfl
@[simp] theorem isNon_obj {c : Nat} {i : List D} : isNon (.obj c i) = false := rfl
@[simp] theorem e_eqI {i j : Int} {st : Sto} : oEq (.int i) (.int j) st = .val .P (.bl (decide (i = j))) st := rfl
@[simp] theorem e_neI {i j : Int} {st : Sto} : oNe (.int i) (.int j) st = .val .P (.bl (!decide (i = j))) st := rfl
@[simp] theorem e_eqS {i j : Str} {st : Sto} : oEq (.str i) (.str j) st = .val .P (.bl (decide (i = j))) st := rfl
@[simp] theorem e_neS {i j : Str} {st : Sto} : oNe (.str i) (.str j) st = .val .P (.bl (!decide (i = j))) st := rfl
theorem kit_ii : kitB "int" "int" = some true := by decide +kernel
theorem kit_ib : kitB "int" "bool" = some false := by decide +kernel
theorem kit_tt : kitB "tuple" "tuple" = some true := by decide +kernel
theorem kit_ll : kitB "list" "list" = some true := by decide +kernel
theorem kit_ss : kitB "str" "str" = some true := by decide +kernel
theorem kit_si : kitB "str" "int" = some false := by decide +kernel
theorem kit_is : kitB "int" "str" = some false := by decide +kernel
theorem kit_ti : kitB "tuple" "int" = some false := by decide +kernel
theorem kit_it : kitB "int" "tuple" = some false := by decide +kernel
@[simp] theorem e_is_ii {i : Int} {st : Sto} : isT "int" (.int i) st = .val .P (.bl true) st := by simp only [isT, tyN, kit_ii, ofOpt_some]
@[simp] theorem e_is_ib {i : Int} {st : Sto} : isT "bool" (.int i) st = .val .P (.bl false) st := by simp only [isT, tyN, kit_ib, ofOpt_some]
@[simp] theorem e_is_tt {l : List D} {st : Sto} : isT "tuple" (.tup l) st = .val .P (.bl true) st := by simp only [isT, tyN, kit_tt, ofOpt_some]
@[simp] theorem e_is_ll {l : List D} {st : Sto} : isT "list" (.lst l) st = .val .P (.bl true) st := by simp only [isT, tyN, kit_ll, ofOpt_some]
@[simp] theorem e_is_ss {l : Str} {st : Sto} : isT "str" (.str l) st = .val .P (.bl true) st := by simp only [isT, tyN, kit_ss, ofOpt_some]
@[simp] theorem e_is_is {i : Int} {st : Sto} : isT "str" (.int i) st = .val .P (.bl false) st := by simp only [isT, tyN, kit_is, ofOpt_some]
@[simp] theorem e_is_it {i : Int} {st : Sto} : isT "tuple" (.int i) st = .val .P (.bl false) st := by simp only [isT, tyN, kit_it, ofOpt_some]
@[simp] theorem e_is_si {l : Str} {st : Sto} : isT "int" (.str l) st = .val .P (.bl false) st := by simp only [isT, tyN, kit_si, ofOpt_some]
@[simp] theorem e_is_ti {l : List D} {st : Sto} : isT "int" (.tup l) st = .val .P (.bl false) st := by simp only [isT, tyN, kit_ti, ofOpt_some]
theorem eqAny_of {a b : D} {r : Bool} {st : Sto} (hs : scalD a b = false) (h1 : isPy a = true) (h2 : isPy b = true) (h3 : SeqAt.shaped (py a) = true) (h4 : SeqAt.shaped (py b) = true) (he : PyData.eqv (py a) (py b) = r) : oEq a b st = .val .P (.bl r) st := by
  unfold oEq eqAny
  rw [if_neg (by rw [hs]; exact Bool.false_ne_true), if_pos ⟨h1, h2, h3, h4⟩, he]
theorem py_ints : ∀ l : List Int, pyL (l.map D.int) = l.map PyData.int
  | [] => rfl
  | i :: l => by simp [pyL, py, py_ints l]
theorem isPy_ints : ∀ l : List Int, isPyL (l.map D.int) = true
  | [] => rfl
  | i :: l => by simp [isPyL, isPy, isPy_ints l]
theorem eqv_ints : ∀ l m : List Int, PyData.eqvAll (l.map PyData.int) (m.map PyData.int) = decide (l = m)
  | [], [] => by simp [PyData.eqvAll]
  | [], _ :: _ => by simp [PyData.eqvAll]
  | _ :: _, [] => by simp [PyData.eqvAll]
  | i :: l, j :: m => by
    simp only [List.map_cons, PyData.eqvAll, PyData.eqv, eqv_ints l m]
    by_cases h : i = j <;> simp [h]
theorem lay_ints : ∀ l : List Int, PyData.canLayAll0 (l.map PyData.int) = true
  | [] => by simp [PyData.canLayAll0]
  | i :: l => by simp [PyData.canLayAll0, PyData.canLay0, lay_ints l]
theorem depth_ints : ∀ l : List Int, PyData.depthAll (l.map PyData.int) = 0
  | [] => by simp [PyData.depthAll]
  | i :: l => by simp [PyData.depthAll, PyData.depth, depth_ints l]
theorem eq_tupInts (l m : List Int) (st : Sto) : oEq (.tup (l.map .int)) (.tup (m.map .int)) st = .val .P (.bl (decide (l = m))) st := by
  refine eqAny_of rfl ?_ ?_ ?_ ?_ ?_
  · simp [isPy, isPy_ints]
  · simp [isPy, isPy_ints]
  · simp [SeqAt.shaped, py, py_ints, PyData.canLay0, PyData.depth, lay_ints, depth_ints]
  · simp [SeqAt.shaped, py, py_ints, PyData.canLay0, PyData.depth, lay_ints, depth_ints]
  · simp [py, py_ints, PyData.eqv, eqv_ints]
@[simp] theorem eq_tup2 {a b c d : Int} {st : Sto} : oEq (.tup [.int a, .int b]) (.tup [.int c, .int d]) st = .val .P (.bl (decide (a = c ∧ b = d))) st := by
  have h := eq_tupInts [a, b] [c, d] st
  simp only [List.map_cons, List.map_nil] at h
  rw [h]
  simp
theorem ne_of_eq {a b : D} {st : Sto} {r : Bool} (h : oEq a b st = .val .P (.bl r) st) : oNe a b st = .val .P (.bl (!r)) st := by
  unfold oEq at h; unfold oNe
  cases q : eqAny a b with
  | none => rw [q] at h; cases h
  | some x => rw [q] at h; cases h; rfl
@[simp] theorem ne_tup2 {a b c d : Int} {st : Sto} : oNe (.tup [.int a, .int b]) (.tup [.int c, .int d]) st = .val .P (.bl (!decide (a = c ∧ b = d))) st := ne_of_eq eq_tup2
@[simp] theorem e_stIns {st : Sto} {n : Nat} : stIns st n = match st[n]? with | some (.ins c l) => some (c, l) | _ => none := rfl
@[simp] theorem e_putI {i : Nat} {d : D} {l : List D} : putI i d l = if i < l.length then some (l.set i d) else if i = l.length then some (l ++ [d]) else none := rfl
@[simp] theorem e_mAppend {l : List D} {d : D} : mAppend l [d] = if l.length < 1000000 then some (.non, l ++ [d]) else none := rfl
@[simp] theorem e_mInsert {l : List D} {i : Int} {d : D} : mInsert l [.int i, d] = if l.length < 1000000 ∧ 0 ≤ i ∧ i < 2 ^ 63 then some (.non, l.take i.toNat ++ [d] ++ l.drop i.toNat) else none := rfl
@[simp] theorem e_mPop {l : List D} : mPop l [] = match l[l.length - 1]? with | some d => some (d, l.dropLast) | none => none := rfl
@[simp] theorem e_mPopAt {l : List D} {i : Int} : mPopAt l [.int i] = if -(2 ^ 63) ≤ i ∧ i < 2 ^ 63 then (match seqIndex? i l.length with | some k => (match l[k]? with | some d => some (d, l.eraseIdx k) | none => none) | none => none) else none := rfl
@[simp] theorem e_mReverse {l : List D} : mReverse l [] = some (.non, l.reverse) := rfl
@[simp] theorem e_putAt0 {d : D} {e : DE} : putAt none d e = e := rfl
@[simp] theorem e_putAt1 {d : D} {e : DE} {j : Nat} : putAt (some j) d e = e.set j (.val d) := rfl
@[simp] theorem e_isC {c : Nat} {fo : En → ER} {E : En} : isC c fo E = match fo E with
  | .val _ (.ptr n) st => (match stIns st n with | some (c', _) => c' == c | none => false)
  | _ => false := rfl
@[simp] theorem e_dIterV {i : Nat} {E : En} : dIterV i E = match E.e[i]? with
  | some (.own l) => .ok false l E.st
  | _ => dIter (dVar i) E := rfl
@[simp] theorem e_mClear {l : List D} : mClear l [] = some (.non, []) := rfl
@[simp] theorem boolsOf_map {α : Type} (f : α → Bool) : ∀ l : List α, boolsOf (l.map fun a => .bl (f a)) = some (l.map f)
  | [] => rfl
  | a :: l => by simp [boolsOf, boolsOf_map f l]
@[simp] theorem e_oIn_1 {a : D} {l : List D} {st : Sto} : oIn a (.lst l) st = ofOpt (inL a l) fun r => .val .P (.bl r) st := rfl
@[simp] theorem e_oIn_2 {a : D} {n : Nat} {st : Sto} : oIn a (.ptr n) st = ofOpt (stLst st n) fun l => ofOpt (inL a l) fun r => .val .P (.bl r) st := rfl
@[simp] theorem e_oNotIn_1 {a : D} {l : List D} {st : Sto} : oNotIn a (.lst l) st = ofOpt (inL a l) fun r => .val .P (.bl (!r)) st := rfl
@[simp] theorem e_oNotIn_2 {a : D} {n : Nat} {st : Sto} : oNotIn a (.ptr n) st = ofOpt (stLst st n) fun l => ofOpt (inL a l) fun r => .val .P (.bl (!r)) st := rfl
@[simp] theorem e_cloOf0 : cloOf [] = [] := rfl
@[simp] theorem e_cloOfC {x : SL} {r : DE} : cloOf (x :: r) = (match x with | .val d => some d | _ => none) :: cloOf r := rfl
@[simp] theorem e_cloE {ds : List (Option D)} {ja jb : Nat} {x y : D} : cloE ds ja jb x y = ((ds.map slO).set ja (.val x)).set jb (.val y) := rfl
@[simp] theorem e_slO1 {d : D} : slO (some d) = .val d := rfl
@[simp] theorem e_slO0 : slO none = .emp := rfl
@[simp] theorem e_startL {n : Nat} {d : D} {ds : List (Option D)} : startL n d ds = .val d :: .clo ds :: List.replicate (n - 2) .emp := rfl
@[simp] theorem e_valOnly {m : Md} {d : D} {st : Sto} : valOnly (.val m d st) = .val m d st := rfl
@[simp] theorem e_sBad {E : En} : sBad E = .bad := rfl
@[simp] theorem e_dBad {E : En} : dBad E = .bad := rfl
@[simp] theorem e_sForX {f : En → ER} {t : D → DE → Option DE} {b : En → SR} {E : En} : sForX f t b E = match f E with
  | .val _ (.ptr n) st => (match stLst st n with | some l => forPD n l (tgB t b) l ⟨E.e, st⟩ | none => .bad)
  | _ => sFor (dIter f) t b E := rfl
@[simp] theorem e_derefL {st : Sto} {l : List D} : deref st (.lst l) = .lst l := rfl
@[simp] theorem e_derefT {st : Sto} {l : List D} : deref st (.tup l) = .tup l := rfl
@[simp] theorem e_derefI {st : Sto} {i : Int} : deref st (.int i) = .int i := rfl
@[simp] theorem e_derefS {st : Sto} {x : Str} : deref st (.str x) = .str x := rfl
@[simp] theorem e_derefB {st : Sto} {x : Bool} : deref st (.bl x) = .bl x := rfl
@[simp] theorem e_derefN {st : Sto} : deref st .non = .non := rfl
@[simp] theorem e_derefP {st : Sto} {n : Nat} : deref st (.ptr n) = (match stLst st n with | some l => .lst l | none => .ptr n) := rfl
@[simp] theorem e_oEqX {a b : D} {st : Sto} : oEqX a b st = oEq (deref st a) (deref st b) st := rfl
@[simp] theorem e_oNeX {a b : D} {st : Sto} : oNeX a b st = oNe (deref st a) (deref st b) st := rfl
@[simp] theorem e_ownF0 {c : Nat} : ownF [] c = none := rfl
@[simp] theorem e_ownFC {c c' : Nat} {F : List D → Sto → ER} {l : OwnL} : ownF ((c', F) :: l) c = if c = c' then some F else ownF l c := rfl
@[simp] theorem e_asLen {m : Md} {i : Int} {st : Sto} : asLen (.val m (.int i) st) = if 0 ≤ i ∧ i < 2 ^ 63 then .val .P (.int i) st else .bad := rfl
@[simp] theorem e_asStr {m : Md} {i : Str} {st : Sto} : asStr (.val m (.str i) st) = .val .P (.str i) st := rfl
@[simp] theorem e_asBl {m : Md} {i n : Bool} {st : Sto} : asBl n (.val m (.bl i) st) = .val .P (.bl (i != n)) st := rfl
@[simp] theorem e_isOP {t : Nat → Option Bool} {n : Nat} {st : Sto} : isO t (.ptr n) st = (match stIns st n with | some (c, _) => ofOpt (t c) fun b => .val .P (.bl b) st | none => (match stLst st n with | some _ => .val .P (.bl false) st | none => .bad)) := rfl
@[simp] theorem e_isON {t : Nat → Option Bool} {st : Sto} : isO t .non st = .val .P (.bl false) st := rfl
@[simp] theorem e_isOI {t : Nat → Option Bool} {i : Int} {st : Sto} : isO t (.int i) st = .val .P (.bl false) st := rfl
@[simp] theorem e_isOB {t : Nat → Option Bool} {i : Bool} {st : Sto} : isO t (.bl i) st = .val .P (.bl false) st := rfl
@[simp] theorem e_isOS {t : Nat → Option Bool} {i : Str} {st : Sto} : isO t (.str i) st = .val .P (.bl false) st := rfl
@[simp] theorem e_isOT {t : Nat → Option Bool} {l : List D} {st : Sto} : isO t (.tup l) st = .val .P (.bl false) st := rfl
@[simp] theorem e_isOL {t : Nat → Option Bool} {l : List D} {st : Sto} : isO t (.lst l) st = .val .P (.bl false) st := rfl
@[simp] theorem e_eqArgP {Cs : List Nat} {n : Nat} {st : Sto} : eqArg Cs (.ptr n) st = (match stIns st n with | some (c, _) => Cs.contains c | none => false) := rfl
@[simp] theorem e_eqArgN {Cs : List Nat} {st : Sto} : eqArg Cs .non st = true := rfl
@[simp] theorem e_eqArgI {Cs : List Nat} {i : Int} {st : Sto} : eqArg Cs (.int i) st = true := rfl
@[simp] theorem e_eqArgB {Cs : List Nat} {i : Bool} {st : Sto} : eqArg Cs (.bl i) st = true := rfl
@[simp] theorem e_eqArgS {Cs : List Nat} {i : Str} {st : Sto} : eqArg Cs (.str i) st = true := rfl
@[simp] theorem e_eqArgT {Cs : List Nat} {i : List D} {st : Sto} : eqArg Cs (.tup i) st = true := rfl
@[simp] theorem e_eqArgL {Cs : List Nat} {i : List D} {st : Sto} : eqArg Cs (.lst i) st = true := rfl
@[simp] theorem e_eqO2P {Os : OwnL} {Cs : List Nat} {neg : Bool} {o : D → D → Sto → ER} {m : Md} {n : Nat} {y : D} {st : Sto} : eqO2 Os Cs neg o m (.ptr n) y st = (match stIns st n with
    | some (c, _) => ofOpt (ownF Os c) fun F => if m ≠ .B ∧ eqArg Cs y st = true then asBl neg (F [.ptr n, y] st) else .bad
    | none => o (.ptr n) y st) := rfl
@[simp] theorem e_eqO2I {Os : OwnL} {Cs : List Nat} {neg : Bool} {o : D → D → Sto → ER} {m : Md} {i : Int} {y : D} {st : Sto} : eqO2 Os Cs neg o m (.int i) y st = o (.int i) y st := rfl
@[simp] theorem e_eqO2L {Os : OwnL} {Cs : List Nat} {neg : Bool} {o : D → D → Sto → ER} {m : Md} {i : List D} {y : D} {st : Sto} : eqO2 Os Cs neg o m (.lst i) y st = o (.lst i) y st := rfl
@[simp] theorem e_rowsOf {α : Type} {f g : α → Int} : ∀ l : List α, rowsOf (l.map fun a => .tup [.int (f a), .int (g a)]) = some (l.map fun a => (f a, g a))
  | [] => rfl
  | a :: l => by simp only [List.map_cons, rowsOf, e_rowsOf l]; rfl
@[simp] theorem e_strsOf {α : Type} {f : α → Str} : ∀ l : List α, strsOf (l.map fun a => .str (f a)) = some (l.map f)
  | [] => rfl
  | a :: l => by simp only [List.map_cons, strsOf, e_strsOf l]; rfl
@[simp] theorem e_seqL {l : List D} {st : Sto} : seqStrs (.lst l) st = strsOf l := rfl
@[simp] theorem e_seqT {l : List D} {st : Sto} : seqStrs (.tup l) st = strsOf l := rfl
@[simp] theorem e_seqP {n : Nat} {st : Sto} : seqStrs (.ptr n) st = (stLst st n).bind strsOf := rfl
@[simp] theorem e_js0 {a : Str} {e : DE} {st : Sto} : jsGo [] a e st = .val .P (.str a) st := rfl
@[simp] theorem e_jsC {f : En → ER} {fs : List (En → ER)} {acc : Str} {e : DE} {st : Sto} : jsGo (f :: fs) acc e st = match f ⟨e, st⟩ with
    | .val _ (.str y) st1 => if (acc ++ y).length ≤ 1000000 then jsGo fs (acc ++ y) e st1 else .bad
    | .exc c l st => .exc c l st
    | _ => .bad := rfl
@[simp] theorem e_oSortedX {l : List D} {st : Sto} : oSortedX [.lst l] st = (match intsOf l with
    | some ns => if ns.length < 64 then .val .N (.lst ((srt ns).map .int)) st else .bad
    | none => ofOpt (rowsOf l) fun rs => .val .N (.lst ((srtP rs).map fun r => .tup [.int r.1, .int r.2])) st) := rfl
@[simp] theorem e_msJoin {a : Str} {d : D} {st : Sto} : msJoin a [d] st = ofOpt (seqStrs d st) fun ys => if (ys.map (·.length)).sum + ys.length * a.length ≤ 1000000 then .val .P (.str (Txt.join a ys)) st else .bad := rfl
@[simp] theorem e_msSplit {a b : Str} {st : Sto} : msSplit a [.str b] st = if (b.length == 0) = false ∧ a.length + 2 ≤ 1000000 then .val .N (.lst ((Txt.split a b).map .str)) st else .bad := rfl
@[simp] theorem e_msPartition {a b : Str} {st : Sto} : msPartition a [.str b] st = if (b.length == 0) = false ∧ a.length ≤ 1000000 then .val .P (.tup [.str (Txt.partition a b).1, .str (Txt.partition a b).2.1, .str (Txt.partition a b).2.2]) st else .bad := rfl
@[simp] theorem e_msCount {a b : Str} {st : Sto} : msCount a [.str b] st = .val .P (.int (Txt.count a b)) st := rfl
@[simp] theorem e_isTPp {T : String} {n : Nat} {st : Sto} : isTP T (.ptr n) st = (match stLst st n with | some _ => ofOpt (kitB "list" T) fun b => .val .P (.bl b) st | none => .bad) := rfl
@[simp] theorem e_isTPl {T : String} {l : List D} {st : Sto} : isTP T (.lst l) st = isT T (.lst l) st := rfl
@[simp] theorem e_isTPt {T : String} {l : List D} {st : Sto} : isTP T (.tup l) st = isT T (.tup l) st := rfl
end Dn
namespace Dn
open PySem PySem.Spec PyProof.Rows L2
def sThru (g : En → SR) : En → SR := fun E => match g E with
  | .exc _ _ _ => .bad
  | r => r
@[simp] theorem e_sThru {g : En → SR} {E : En} : sThru g E = match g E with
  | .exc _ _ _ => .bad
  | r => r := rfl
end Dn
namespace Dn
open PySem PySem.Spec PyProof.Rows L2
section
variable {G : Gm} {W : WX}
def sSwI (x : Nat) (f : En → ER) (f1 f2 : En → ER) : En → SR := fun E => match f E with
  | .val .P (.tup [a, b]) st => (match E.e[x]? with
    | some (.own l) => (match f1 ⟨E.e, st⟩ with
      | .val _ (.int i) st1 => (match ixN l.length i with
        | some j => (match f2 ⟨E.e.set x (.own (l.set j a)), st1⟩ with
          | .val _ (.int i2) st2 => (match ixN l.length i2 with
            | some j2 => .nx ⟨(E.e.set x (.own (l.set j a))).set x (.own ((l.set j a).set j2 b)), st2⟩
            | none => .bad)
          | _ => .bad)
        | none => .bad)
      | _ => .bad)
    | _ => .bad)
  | .exc c l st => .exc c l ⟨E.e, st⟩
  | _ => .bad
@[simp] theorem e_sSwI {x : Nat} {f f1 f2 : En → ER} {E : En} : sSwI x f f1 f2 E = match f E with
  | .val .P (.tup [a, b]) st => (match E.e[x]? with
    | some (.own l) => (match f1 ⟨E.e, st⟩ with
      | .val _ (.int i) st1 => (match ixN l.length i with
        | some j => (match f2 ⟨E.e.set x (.own (l.set j a)), st1⟩ with
          | .val _ (.int i2) st2 => (match ixN l.length i2 with
            | some j2 => .nx ⟨(E.e.set x (.own (l.set j a))).set x (.own ((l.set j a).set j2 b)), st2⟩
            | none => .bad)
          | _ => .bad)
        | none => .bad)
      | _ => .bad)
    | _ => .bad)
  | .exc c l st => .exc c l ⟨E.e, st⟩
  | _ => .bad := rfl
end
end Dn
namespace L2
open PySem PySem.Spec PyProof.Rows
end L2
namespace Dn
open PySem PySem.Spec PyProof.Rows L2
section
variable {G : Gm} {W : WX}
def cntL (d : D) (l : List D) : Option Nat := if isPy d = true ∧ isPyL l = true ∧ SeqAt.shaped (py d) = true ∧ SeqAt.shaped (.list (pyL l)) = true then some ((pyL l).countP fun z => PyData.eqv z (py d)) else none
def dCnt (fb : En → ER) (fa : En → AR) : En → ER := fun E => match fb E with
  | .val _ (.lst l) st => (match fa ⟨E.e, st⟩ with
    | .ok _ [d] st1 => ofOpt (cntL d l) fun n => .val .P (.int (n : Nat)) st1
    | .exc c l st => .exc c l st
    | _ => .bad)
  | .exc c l st => .exc c l st
  | _ => .bad
@[simp] theorem e_dCnt {fb : En → ER} {fa : En → AR} {E : En} : dCnt fb fa E = match fb E with
  | .val _ (.lst l) st => (match fa ⟨E.e, st⟩ with
    | .ok _ [d] st1 => ofOpt (cntL d l) fun n => .val .P (.int (n : Nat)) st1
    | .exc c l st => .exc c l st
    | _ => .bad)
  | .exc c l st => .exc c l st
  | _ => .bad := rfl
def oInT (a b : D) (st : Sto) : ER := match a, b with
  | .str x, .tup l => ofOpt (strsOf l) fun ys => .val .P (.bl (inV (.str x) (ys.map V.str))) st
  | _, _ => .bad
@[simp] theorem e_oInT {x : Str} {l : List D} {st : Sto} : oInT (.str x) (.tup l) st = ofOpt (strsOf l) fun ys => .val .P (.bl (inV (.str x) (ys.map V.str))) st := rfl
end
end Dn
namespace Dn
open PySem PySem.Spec PyProof.Rows L2
def pickN (n : Nat) (lo hi : Option Int) (c : Int) : List Nat := sliceRange (sliceBounds lo hi (some c) n).1 (sliceBounds lo hi (some c) n).2.1 (sliceBounds lo hi (some c) n).2.2
def stepG {α : Type} (l : List α) (lo hi : Option Int) (c : Int) : List α := (pickN l.length lo hi c).filterMap (l[·]?)
section
variable {G : Gm} {W : WX}
def dStp (c : Int) (f : En → ER) (lo hi : En → Option ER) : En → ER := fun E => (f E).bind fun x st => ofOpt (partI (lo ⟨E.e, st⟩) st) fun l => ofOpt (partI (hi ⟨E.e, l.2⟩) l.2) fun u => match x with
  | .lst xs => if (stepG xs l.1 u.1 c).length ≤ xs.length then .val .N (.lst (stepG xs l.1 u.1 c)) u.2 else .bad
  | _ => .bad
@[simp] theorem e_dStp {c : Int} {f : En → ER} {lo hi : En → Option ER} {E : En} : dStp c f lo hi E = (f E).bind fun x st => ofOpt (partI (lo ⟨E.e, st⟩) st) fun l => ofOpt (partI (hi ⟨E.e, l.2⟩) l.2) fun u => match x with
  | .lst xs => if (stepG xs l.1 u.1 c).length ≤ xs.length then .val .N (.lst (stepG xs l.1 u.1 c)) u.2 else .bad
  | _ => .bad := rfl
end
section
variable {G : Gm} {W : WX}
def msIndex (a : Str) (ds : List D) (st : Sto) : ER := match ds with
  | [.str b] => ofOpt (Txt.index0 a b) fun k => .val .P (.int (k : Nat)) st
  | _ => .bad
@[simp] theorem e_msIndex {a b : Str} {st : Sto} : msIndex a [.str b] st = ofOpt (Txt.index0 a b) fun k => .val .P (.int (k : Nat)) st := rfl
end
section
variable {G : Gm} {W : WX}
def sAugO (x : Nat) (o : Int → Int → Int) (fi fe : En → ER) : En → SR := fun E => match E.e[x]? with
  | some (.own l) => (match fi E with
    | .val _ (.int i) st1 => if 0 ≤ i then (match ixN l.length i with
      | some j => (match l[j]? with
        | some (.int a) => (match fe ⟨E.e, st1⟩ with
          | .val _ (.int b) st2 => .nx ⟨E.e.set x (.own (l.set j (.int (o a b)))), st2⟩
          | _ => .bad)
        | _ => .bad)
      | none => .bad) else .bad
    | _ => .bad)
  | _ => .bad
@[simp] theorem e_sAugO {x : Nat} {o : Int → Int → Int} {fi fe : En → ER} {E : En} : sAugO x o fi fe E = match E.e[x]? with
  | some (.own l) => (match fi E with
    | .val _ (.int i) st1 => if 0 ≤ i then (match ixN l.length i with
      | some j => (match l[j]? with
        | some (.int a) => (match fe ⟨E.e, st1⟩ with
          | .val _ (.int b) st2 => .nx ⟨E.e.set x (.own (l.set j (.int (o a b)))), st2⟩
          | _ => .bad)
        | _ => .bad)
      | none => .bad) else .bad
    | _ => .bad)
  | _ => .bad := rfl
end
section
variable {G : Gm} {W : WX}
def dEnumS (f : En → AR) : En → AR := fun E => match f E with
  | .ok _ [.str z] st => .ok true (enumD 0 (z.cps.toList.map fun c => .str ⟨#[c]⟩)) st
  | .exc c l st => .exc c l st
  | _ => .bad
@[simp] theorem e_dEnumS {f : En → AR} {E : En} : dEnumS f E = match f E with
  | .ok _ [.str z] st => .ok true (enumD 0 (z.cps.toList.map fun c => .str ⟨#[c]⟩)) st
  | .exc c l st => .exc c l st
  | _ => .bad := rfl
end
section
variable {G : Gm} {W : WX}
def oListS : List D → Sto → ER
  | [.str x], st => if x.length ≤ 1000000 then .val .N (.lst (x.cps.toList.map fun c => .str ⟨#[c]⟩)) st else .bad
  | _, _ => .bad
@[simp] theorem e_oListS {x : Str} {st : Sto} : oListS [.str x] st = if x.length ≤ 1000000 then .val .N (.lst (x.cps.toList.map fun c => .str ⟨#[c]⟩)) st else .bad := rfl
end
section
variable {G : Gm} {W : WX}
def oMulS : D → D → Sto → ER
  | .str a, .int n, st => if 0 ≤ n ∧ n ≤ 1000 ∧ a.length ≤ 1000 then .val .P (.str (Txt.mul a n)) st else .bad
  | _, _, _ => .bad
@[simp] theorem e_oMulS {a : Str} {n : Int} {st : Sto} : oMulS (.str a) (.int n) st = if 0 ≤ n ∧ n ≤ 1000 ∧ a.length ≤ 1000 then .val .P (.str (Txt.mul a n)) st else .bad := rfl
end
end Dn
namespace Dn
open PySem PySem.Spec PyProof.Rows L2
section
variable {G : Gm} {W : WX}
def sTryO (catch? : Nat → Option Bool) (g : En → SR) (h : En → SR) : En → SR := fun E => match g E with
  | .exc c l E1 => (match catch? c with
    | some true => (match h ⟨clr E1.e, E1.st⟩ with
      | .nx E2 => .nx ⟨clr E2.e, E2.st⟩
      | .bk E2 => .bk ⟨clr E2.e, E2.st⟩
      | .ct E2 => .ct ⟨clr E2.e, E2.st⟩
      | .rt m d st => .rt m d st
      | _ => .bad)
    | some false => .exc c l E1
    | none => .bad)
  | r => r
@[simp] theorem e_sTryO {catch? : Nat → Option Bool} {g h : En → SR} {E : En} : sTryO catch? g h E = match g E with
  | .exc c l E1 => (match catch? c with
    | some true => (match h ⟨clr E1.e, E1.st⟩ with
      | .nx E2 => .nx ⟨clr E2.e, E2.st⟩
      | .bk E2 => .bk ⟨clr E2.e, E2.st⟩
      | .ct E2 => .ct ⟨clr E2.e, E2.st⟩
      | .rt m d st => .rt m d st
      | _ => .bad)
    | some false => .exc c l E1
    | none => .bad)
  | r => r := rfl
end
section
variable {G : Gm} {W : WX}
def sRaiseF (c : Nat) (fa : En → AR) : En → SR := fun E => match fa E with
  | .ok true [d] st => .exc c [d] ⟨E.e, st⟩
  | .exc c' l st => .exc c' l ⟨E.e, st⟩
  | _ => .bad
@[simp] theorem e_sRaiseF {c : Nat} {fa : En → AR} {E : En} : sRaiseF c fa E = match fa E with
  | .ok true [d] st => .exc c [d] ⟨E.e, st⟩
  | .exc c' l st => .exc c' l ⟨E.e, st⟩
  | _ => .bad := rfl
end
def Gm.exn (G : Gm) (a : Addr) (x : Option Addr) (c : Nat) (l : List D) : Gm := { G with ea := a, ed := x, en := G.fn c, el := l }
mutual
theorem Is.swI {G G' : Gm} (eK : G'.K = G.K) (ec : G'.ca = G.ca) (ef : G'.fn = G.fn) {as : List Addr} {H : Hp} : ∀ (d : D) {v : V}, Is G as H v d → Is G' as H v d
  | .non, _, h => by cases h; exact .non
  | .bl _, _, h => by cases h; exact .bl _
  | .int _, _, h => by cases h; exact .int _
  | .str _, _, h => by cases h; exact .str _
  | .tup ds, _, h => by cases h with | tup p b => exact .tup (by rw [eK]; exact p) (IsL.swI eK ec ef ds b)
  | .lst ds, _, h => by cases h with | lst p b => exact .lst p (IsL.swI eK ec ef ds b)
  | .scr l, _, h => by cases h with | scr p => exact .scr (by rw [eK]; exact p)
  | .ptr n, _, h => by cases h with | ptr p => exact .ptr p
  | .obj c ds, _, h => by cases h with | obj p l b => exact .obj (by rw [ec, ef]; exact p) (by rw [ef]; exact l) (IsL.swI eK ec ef ds b)
theorem IsL.swI {G G' : Gm} (eK : G'.K = G.K) (ec : G'.ca = G.ca) (ef : G'.fn = G.fn) {as : List Addr} {H : Hp} : ∀ (ds : List D) {vs : List V}, IsL G as H vs ds → IsL G' as H vs ds
  | [], _, h => by cases h; exact .nil
  | d :: ds, _, h => by cases h with | cons p b => exact .cons (Is.swI eK ec ef d p) (IsL.swI eK ec ef ds b)
end
section
variable {G G' : Gm} (eK : G'.K = G.K) (ec : G'.ca = G.ca) (ef : G'.fn = G.fn)
include eK ec ef
theorem ObOk.swI {s : Hs} {x : Addr} {o : Ob} (h : ObOk G s x o) : ObOk G' s x o := by
  cases o with
  | lst l => obtain ⟨vs, h1, h2⟩ := h; exact ⟨vs, h1, IsL.swI eK ec ef _ h2⟩
  | ins c l => obtain ⟨dx, vs, h1, h2, h3⟩ := h; exact ⟨dx, vs, by rw [ec, ef]; exact h1, by rw [ef]; exact h2, IsL.swI eK ec ef _ h3⟩
  | tbl q => exact h
  | dct l => obtain ⟨kvs, h1, h2⟩ := h; exact ⟨kvs, h1, by
      clear h1
      induction h2 with
      | nil => exact .nil
      | cons p q ih => exact .cons (Is.swI eK ec ef _ p) ih⟩
theorem StOk.swI {s : Hs} {st : Sto} (et : G'.tb = G.tb) (k : StOk G s st) (hx : ExF G' s) : StOk G' s st := ⟨k.sf, k.len, k.nd, fun n x o h1 h2 => ObOk.swI eK ec ef (k.ob n x o h1 h2), k.nf, by rw [et]; exact k.tb, hx⟩
theorem VOk.swI {s t : Hs} {m : Md} {v : V} {d : D} (h : VOk G s t m v d) : VOk G' s t m v d := by
  cases m with
  | P => exact Is.swI eK ec ef _ h
  | B => obtain ⟨p, vs, l, x, b, c, e, f⟩ := h; exact ⟨p, vs, l, x, b, c, IsL.swI eK ec ef _ e, f⟩
  | N => obtain ⟨p, vs, l, x, b, c, e, f, g⟩ := h; exact ⟨p, vs, l, x, b, c, IsL.swI eK ec ef _ e, f, g⟩
theorem SlotOk.swI {s t : Hs} {o : Option V} {sl : SL} (h : SlotOk G s t o sl) (hs : sl ≠ .exn ∧ ∀ ds, sl ≠ .clo ds) : SlotOk G' s t o sl := by
  cases sl with
  | emp => trivial
  | exn => exact absurd rfl hs.1
  | clo ds => exact absurd rfl (hs.2 ds)
  | val d => obtain ⟨v, a, b⟩ := h; exact ⟨v, a, Is.swI eK ec ef _ b⟩
  | own l => obtain ⟨p, vs, a, b, c, d, e, f⟩ := h; exact ⟨p, vs, a, b, c, d, IsL.swI eK ec ef _ e, f⟩
theorem EnvOk.swI {s t : Hs} {σ : L2.St} {e : DE} (E : EnvOk G s t σ e) : EnvOk G' s t σ (clr e) := by
  refine ⟨E.gr, by rw [E.len]; simp [clr], fun i o s a b => ?_, fun i j p l m hij a b c d => ?_⟩
  · obtain ⟨h1, h2 | h2⟩ := clr_get b
    · subst h2; trivial
    · exact (E.at_ i o s a h2).swI eK ec ef h1
  · obtain ⟨_, h2 | h2⟩ := clr_get b
    · cases h2
    · obtain ⟨_, h3 | h3⟩ := clr_get d
      · cases h3
      · exact E.dis i j p l m hij a h2 c h3
end
section
variable {G : Gm} {W : WX}
def dXf (i : Nat) (o : Option D) : En → ER := fun E => match E.e[i]? with
  | some .exn => ofOpt o fun d => .val .P d E.st
  | _ => .bad
@[simp] theorem e_dXf {i : Nat} {o : Option D} {E : En} : dXf i o E = match E.e[i]? with
  | some .exn => ofOpt o fun d => .val .P d E.st
  | _ => .bad := rfl
end
end Dn
namespace Dn
open PySem PySem.W PySem.Spec PyProof.Rows L2
end Dn
namespace Dn
open PySem PySem.Spec PyProof.Rows L2
section
variable {G : Gm} {W : WX}
open Classical in
noncomputable def lcGoC (C : Sto → Prop) (k : D → Sto → Option (Option D × Sto)) : List D → Sto → Option (List D × Sto)
  | [], st => if C st then some ([], st) else none
  | d :: l, st => if C st then (k d st).bind fun o => (lcGoC C k l o.2).bind fun r => some (o.1.toList ++ r.1, r.2) else none
noncomputable def dLcX (f : En → ER) (t : D → DE → Option DE) (c g : En → ER) (vs : List Nat) : En → ER := fun E => match f E with
  | .val _ (.ptr n) st => (match stLst st n with
    | some l => if l.length ≤ 1000000 then ofOpt (lcGoC (fun st => stLst st n = some l) (lcStep t c g (wipeE E.e vs)) l st) fun r => .val .N (.lst r.1) r.2 else .bad
    | none => .bad)
  | _ => dLc (dIter f) t c g vs E
end
section
variable {G : Gm} {W : WX}
def oNotInF (a b : D) (st : Sto) : ER := match b with
  | .tup l => if flat a = true ∧ l.all flat = true then .val .P (.bl (!inV (toV a) (l.map toV))) st else .bad
  | _ => .bad
@[simp] theorem e_oNotInF {a : D} {l : List D} {st : Sto} : oNotInF a (.tup l) st = if flat a = true ∧ l.all flat = true then .val .P (.bl (!inV (toV a) (l.map toV))) st else .bad := rfl
end
end Dn
namespace Dn
open PySem PySem.Spec PyProof.Rows L2
def ZS (h : Heap) (z TI TO i1 i2 l1 l2 S : Addr) (k : Nat) : Prop := IsPair h TI (.ref i1) (.ref i2) ∧ h.IsListIter i1 l1 k ∧ h.IsListIter i2 l2 k ∧ (∃ o, h.get? TO = some o) ∧
  ((IsZip h z TI TO .none ∧ ∃ a b, IsPair h TO a b) ∨ ∃ T f oT, IsZipHeld h z TI TO T f ∧ h.get? T = some oT ∧ T ≠ z ∧ T ≠ i1 ∧ T ≠ i2 ∧ T ≠ S)
theorem ZS.keep {h h' : Heap} {z TI TO i1 i2 l1 l2 S : Addr} {k : Nat} (q : ZS h z TI TO i1 i2 l1 l2 S k) (nS : S ≠ z ∧ S ≠ TI ∧ S ≠ TO ∧ S ≠ i1 ∧ S ≠ i2) (hk : ∀ b o, b ≠ S → h.get? b = some o → h'.get? b = some o) : ZS h' z TI TO i1 i2 l1 l2 S k := by
  obtain ⟨a, b, c, ⟨oo, w⟩, d⟩ := q
  obtain ⟨n1, n2, n3, n4, n5⟩ := nS
  refine ⟨hk _ _ (Ne.symm n2) a, b.at fun o e => hk _ o (Ne.symm n4) e, c.at fun o e => hk _ o (Ne.symm n5) e, ⟨oo, hk _ _ (Ne.symm n3) w⟩, ?_⟩
  rcases d with ⟨d, x, y, e⟩ | ⟨T, f, oT, d, e, r1, r2, r3, r4⟩
  · exact .inl ⟨hk _ _ (Ne.symm n1) d, x, y, hk _ _ (Ne.symm n3) e⟩
  · exact .inr ⟨T, f, oT, hk _ _ (Ne.symm n1) d, hk _ _ r4 e, r1, r2, r3, r4⟩
section
variable {G : Gm} {W : WX}
def lstOf (st : Sto) : D → Option (List D)
  | .lst l => some l
  | .ptr n => stLst st n
  | _ => none
def dLz (f : En → AR) : En → ER := fun E => match f E with
  | .ok _ [a, b] st => ofOpt (lstOf st a) fun l => ofOpt (lstOf st b) fun m => if min l.length m.length ≤ 1000000 then .val .N (.lst (zipD l m)) st else .bad
  | .exc c l st => .exc c l st
  | _ => .bad
@[simp] theorem e_dLz {f : En → AR} {E : En} : dLz f E = match f E with
  | .ok _ [a, b] st => ofOpt (lstOf st a) fun l => ofOpt (lstOf st b) fun m => if min l.length m.length ≤ 1000000 then .val .N (.lst (zipD l m)) st else .bad
  | .exc c l st => .exc c l st
  | _ => .bad := rfl
@[simp] theorem lstOf_lst {st : Sto} {l : List D} : lstOf st (.lst l) = some l := rfl
@[simp] theorem lstOf_ptr {st : Sto} {n : Nat} : lstOf st (.ptr n) = stLst st n := rfl
end
theorem FldOk.sw {G G' : Gm} {f : Str} {ix : Nat → Option Nat} (h : FldOk G f ix) (eK : G'.K = G.K := by rfl) (ec : G'.ca = G.ca := by rfl) (ef : G'.fn = G.fn := by rfl) : FldOk G' f ix := ⟨fun c i q => by rw [eK, ec, ef]; exact h.ok c i q⟩
@[simp] theorem e_dLcX {f : En → ER} {t : D → DE → Option DE} {c g : En → ER} {vs : List Nat} {E : En} : dLcX f t c g vs E = match f E with
  | .val _ (.ptr n) st => (match stLst st n with
    | some l => if l.length ≤ 1000000 then ofOpt (lcGoC (fun st => stLst st n = some l) (lcStep t c g (wipeE E.e vs)) l st) fun r => .val .N (.lst r.1) r.2 else .bad
    | none => .bad)
  | _ => dLc (dIter f) t c g vs E := rfl
end Dn
namespace Dn
open PySem PySem.Spec PyProof.Rows L2
open HandSPX
end Dn
namespace Dn
open PySem PySem.Spec PyProof.Rows L2
inductive LR where | ok (o : Option D) (st : Sto) | exc (c : Nat) (l : List D) (st : Sto) | bad
def lcStepE (t : D → DE → Option DE) (c f : En → ER) (e : DE) (d : D) (st : Sto) : LR := match t d e with
  | none => .bad
  | some e2 => (match c ⟨e2, st⟩ with
    | .val _ (.bl b) st1 => if b = true then (match f ⟨e2, st1⟩ with | .val .P y st2 => .ok (some y) st2 | .val .N y st2 => .ok (some y) st2 | .exc k l st2 => .exc k l st2 | _ => .bad) else .ok none st1
    | _ => .bad)
def lcGoE (k : D → Sto → LR) : List D → List D → Sto → ER
  | [], acc, st => .val .N (.lst acc) st
  | d :: l, acc, st => match k d st with
    | .ok o st1 => lcGoE k l (acc ++ o.toList) st1
    | .exc c x st1 => .exc c x st1
    | .bad => .bad
def dLcE (src : En → AR) (t : D → DE → Option DE) (c f : En → ER) (vs : List Nat) : En → ER := fun E => match src E with
  | .ok _ l st => if l.length ≤ 1000000 then lcGoE (lcStepE t c f (wipeE E.e vs)) l [] st else .bad
  | .exc k l st => .exc k l st
  | .bad => .bad
@[simp] theorem e_dLcE {src : En → AR} {t : D → DE → Option DE} {c f : En → ER} {vs : List Nat} {E : En} : dLcE src t c f vs E = match src E with
  | .ok _ l st => if l.length ≤ 1000000 then lcGoE (lcStepE t c f (wipeE E.e vs)) l [] st else .bad
  | .exc k l st => .exc k l st
  | .bad => .bad := rfl
end Dn
namespace Dn
open PySem PySem.Spec PyProof.Rows L2
section
variable {G : Gm} {W : WX}
def oAddX (a b : D) (st : Sto) : ER := match deref st a, deref st b with
  | .lst x, .lst y => if x.length + y.length ≤ 1000000 then .val .N (.lst (x ++ y)) st else .bad
  | _, _ => oAdd a b st
def oSlX (d : D) (lo hi : Option Int) (st : Sto) : ER := match deref st d with
  | .lst l => .val .N (.lst (cutG l lo hi)) st
  | _ => oSl d lo hi st
def firstI (k : Int) : List Int → Option Nat
  | [] => none
  | n :: r => if n = k then some 0 else (firstI k r).map (· + 1)
def mRemove (l ds : List D) : Option (D × List D) := match ds with
  | [.int k] => (intsOf l).bind fun ns => (firstI k ns).map fun j => (.non, (ns.eraseIdx j).map .int)
  | _ => none
end
@[simp] theorem e_oAddX {a b : D} {st : Sto} : oAddX a b st = (match deref st a, deref st b with
  | .lst x, .lst y => if x.length + y.length ≤ 1000000 then .val .N (.lst (x ++ y)) st else .bad
  | _, _ => oAdd a b st) := rfl
@[simp] theorem e_oSlX {d : D} {lo hi : Option Int} {st : Sto} : oSlX d lo hi st = (match deref st d with
  | .lst l => .val .N (.lst (cutG l lo hi)) st
  | _ => oSl d lo hi st) := rfl
@[simp] theorem e_mRemove {l : List D} {k : Int} : mRemove l [.int k] = (intsOf l).bind fun ns => (firstI k ns).map fun j => (.non, (ns.eraseIdx j).map .int) := rfl
end Dn
namespace Dn
open PySem PySem.Spec PyProof.Rows L2
section
variable {G : Gm} {W : WX}
def hdl : List ((Nat → Option Bool) × (En → SR)) → Nat → Option (Option (En → SR))
  | [], _ => some none
  | x :: r, c => match x.1 c with
    | some true => some (some x.2)
    | some false => hdl r c
    | none => none
def clrS : SR → SR
  | .nx E => .nx ⟨clr E.e, E.st⟩
  | .bk E => .bk ⟨clr E.e, E.st⟩
  | .ct E => .ct ⟨clr E.e, E.st⟩
  | .rt m d st => .rt m d st
  | _ => .bad
def sTryL (hs : List ((Nat → Option Bool) × (En → SR))) (g : En → SR) : En → SR := fun E => match g E with
  | .exc c l E1 => (match hdl hs c with
    | some (some h) => clrS (h ⟨clr E1.e, E1.st⟩)
    | some none => .exc c l E1
    | none => .bad)
  | r => r
inductive HsD (G : Gm) : List (Value × (Addr → Value → Option Addr → TS)) → List ((Nat → Option Bool) × (En → SR)) → Prop
  | nil : HsD G [] []
  | cons {C : Value} {ts : Addr → Value → Option Addr → TS} {p : Nat → Option Bool} {h : En → SR} {l : List (Value × (Addr → Value → Option Addr → TS))} {hs : List ((Nat → Option Bool) × (En → SR))} (hc : ∀ c b, p c = some b → PySem.W.exmOne G.K (.ref (G.ca c)) C = some b) (hd : ∀ a cls d, DSt (G.at_ a) W0 (ts a cls d) h) (r : HsD G l hs) : HsD G ((C, ts) :: l) ((p, h) :: hs)
end
@[simp] theorem e_hdl0 {c : Nat} : hdl [] c = some none := rfl
@[simp] theorem e_hdlC {p : Nat → Option Bool} {h : En → SR} {r : List ((Nat → Option Bool) × (En → SR))} {c : Nat} : hdl ((p, h) :: r) c = (match p c with
    | some true => some (some h)
    | some false => hdl r c
    | none => none) := rfl
@[simp] theorem e_sTryL {hs : List ((Nat → Option Bool) × (En → SR))} {g : En → SR} {E : En} : sTryL hs g E = match g E with
  | .exc c l E1 => (match hdl hs c with
    | some (some h) => clrS (h ⟨clr E1.e, E1.st⟩)
    | some none => .exc c l E1
    | none => .bad)
  | r => r := rfl
@[simp] theorem e_clrSN {E : En} : clrS (.nx E) = .nx ⟨clr E.e, E.st⟩ := rfl
@[simp] theorem e_clrSB {E : En} : clrS (.bk E) = .bk ⟨clr E.e, E.st⟩ := rfl
@[simp] theorem e_clrSC {E : En} : clrS (.ct E) = .ct ⟨clr E.e, E.st⟩ := rfl
@[simp] theorem e_clrSR {m : Md} {d : D} {st : Sto} : clrS (.rt m d st) = .rt m d st := rfl
end Dn
namespace Dn
open PySem PySem.Spec PyProof.Rows L2
section
variable {G : Gm} {W : WX}
def oTupleX : List D → Sto → ER
  | [.ptr n], st => ofOpt (stLst st n) fun l => .val .P (.tup l) st
  | l, st => oTuple l st
def dIdx (fb : En → ER) (fa : En → AR) : En → ER := fun E => match fb E with
  | .val _ (.lst l) st => (match fa ⟨E.e, st⟩ with
    | .ok _ [.int k] st1 => ofOpt ((intsOf l).bind (firstI k)) fun n => .val .P (.int (n : Nat)) st1
    | .exc c l st => .exc c l st
    | _ => .bad)
  | .exc c l st => .exc c l st
  | _ => .bad
end
@[simp] theorem e_oTupleXP {n : Nat} {st : Sto} : oTupleX [.ptr n] st = ofOpt (stLst st n) fun l => .val .P (.tup l) st := rfl
@[simp] theorem e_oTupleXL {l : List D} {st : Sto} : oTupleX [.lst l] st = .val .P (.tup l) st := rfl
@[simp] theorem e_oTupleXT {l : List D} {st : Sto} : oTupleX [.tup l] st = .val .P (.tup l) st := rfl
@[simp] theorem e_dIdx {fb : En → ER} {fa : En → AR} {E : En} : dIdx fb fa E = match fb E with
  | .val _ (.lst l) st => (match fa ⟨E.e, st⟩ with
    | .ok _ [.int k] st1 => ofOpt ((intsOf l).bind (firstI k)) fun n => .val .P (.int (n : Nat)) st1
    | .exc c l st => .exc c l st
    | _ => .bad)
  | .exc c l st => .exc c l st
  | _ => .bad := rfl
end Dn
namespace Dn
open PySem PySem.Spec PyProof.Rows L2
section
variable {G : Gm} {W : WX}
def derefN : Nat → Sto → D → D
  | 0, _, d => d
  | k + 1, st, .ptr n => (match stLst st n with | some l => .lst (l.map (derefN k st)) | none => .ptr n)
  | k + 1, st, .tup l => .tup (l.map (derefN k st))
  | k + 1, st, .lst l => .lst (l.map (derefN k st))
  | _ + 1, _, d => d
def oEqN (a b : D) (st : Sto) : ER := oEq (derefN 4 st a) (derefN 4 st b) st
def oNeN (a b : D) (st : Sto) : ER := oNe (derefN 4 st a) (derefN 4 st b) st
@[simp] theorem e_oEqN {a b : D} {st : Sto} : oEqN a b st = oEq (derefN 4 st a) (derefN 4 st b) st := rfl
@[simp] theorem e_oNeN {a b : D} {st : Sto} : oNeN a b st = oNe (derefN 4 st a) (derefN 4 st b) st := rfl
end
end Dn
namespace Dn
open PySem PySem.Spec PyProof.Rows L2
section
variable {G : Gm} {W : WX}
def dZipA (f : En → AR) : En → AR := fun E => match f E with
  | .ok true [.lst l, .lst m] st => .ok true (zipD l m) st
  | .ok true [.tup l, .tup m] st => .ok true (zipD l m) st
  | .exc c l st => .exc c l st
  | _ => .bad
@[simp] theorem e_dZipA {f : En → AR} {E : En} : dZipA f E = match f E with
  | .ok true [.lst l, .lst m] st => .ok true (zipD l m) st
  | .ok true [.tup l, .tup m] st => .ok true (zipD l m) st
  | .exc c l st => .exc c l st
  | _ => .bad := rfl
end
end Dn
namespace Dn
open PySem PySem.Spec PyProof.Rows L2
section
variable {G : Gm} {W : WX}
noncomputable def dLcZ (f : En → AR) (t : D → DE → Option DE) (c g : En → ER) (vs : List Nat) : En → ER := fun E => match f E with
  | .ok true [.ptr n, .lst m] st => (match stLst st n with
    | some l => if (zipD l m).length ≤ 1000000 then ofOpt (lcGoC (fun st => stLst st n = some l) (lcStep t c g (wipeE E.e vs)) (zipD l m) st) fun r => .val .N (.lst r.1) r.2 else .bad
    | none => .bad)
  | _ => dLc (dZipA f) t c g vs E
end
@[simp] theorem e_dLcZ {fs : En → AR} {t : D → DE → Option DE} {c f : En → ER} {vs : List Nat} {E : En} : dLcZ fs t c f vs E = match fs E with
  | .ok true [.ptr n, .lst m] st => (match stLst st n with
    | some l => if (zipD l m).length ≤ 1000000 then ofOpt (lcGoC (fun st => stLst st n = some l) (lcStep t c f (wipeE E.e vs)) (zipD l m) st) fun r => .val .N (.lst r.1) r.2 else .bad
    | none => .bad)
  | _ => dLc (dZipA fs) t c f vs E := rfl
section
variable {G : Gm}
def mExtend (l ds : List D) : Option (D × List D) := match ds with
  | [.lst z] => if l.length + z.length ≤ 1000000 then some (.non, l ++ z) else none
  | _ => none
@[simp] theorem e_mExtend {l z : List D} : mExtend l [.lst z] = if l.length + z.length ≤ 1000000 then some (.non, l ++ z) else none := rfl
end
end Dn
namespace Dn
open PySem PySem.W PySem.Spec PyProof.Rows L2
end Dn
namespace Dn
open PySem PySem.W PySem.Spec PyProof.Rows L2
def anyO : List (Option Bool) → Option Bool
  | [] => some false
  | none :: _ => none
  | some true :: _ => some true
  | some false :: l => anyO l
@[simp] theorem e_anyO_nil : anyO [] = some false := rfl
@[simp] theorem e_anyO_t {l : List (Option Bool)} : anyO (some true :: l) = some true := rfl
@[simp] theorem e_anyO_f {l : List (Option Bool)} : anyO (some false :: l) = anyO l := rfl
end Dn
namespace Dn
open PySem PySem.Spec PyProof.Rows L2
section
variable {G : Gm} {W : WX}
def oInF (a b : D) (st : Sto) : ER := match b with
  | .tup l => if flat a = true ∧ l.all flat = true then .val .P (.bl (inV (toV a) (l.map toV))) st else .bad
  | _ => .bad
@[simp] theorem e_oInF {a : D} {l : List D} {st : Sto} : oInF a (.tup l) st = if flat a = true ∧ l.all flat = true then .val .P (.bl (inV (toV a) (l.map toV))) st else .bad := rfl
end
end Dn
namespace Dn
open PySem PySem.Spec PyProof.Rows L2
section
variable {G : Gm} {W : WX}
noncomputable def sForE (f : En → AR) (t : D → DE → Option DE) (b : En → SR) : En → SR := fun E => match f E with
  | .ok true [.ptr n] st => (match stLst st n with | some l => forPD n l (tgB t b) (enumD 0 l) ⟨E.e, st⟩ | none => .bad)
  | _ => sFor (dEnum f) t b E
def oSortedP : List D → Sto → ER
  | [.ptr n], st => (match stLst st n with
    | some l => (match intsOf l with
      | some ns => if ns.length < 64 then .val .N (.lst ((srt ns).map .int)) st else .bad
      | none => .bad)
    | none => .bad)
  | l, st => oSortedX l st
@[simp] theorem e_oSortedP_1 {n : Nat} {st : Sto} : oSortedP [.ptr n] st = (match stLst st n with
    | some l => (match intsOf l with
      | some ns => if ns.length < 64 then .val .N (.lst ((srt ns).map .int)) st else .bad
      | none => .bad)
    | none => .bad) := rfl
@[simp] theorem e_oSortedP_2 {l : List D} {st : Sto} : oSortedP [.lst l] st = oSortedX [.lst l] st := rfl
@[simp] theorem e_sForE {f : En → AR} {t : D → DE → Option DE} {b : En → SR} {E : En} : sForE f t b E = match f E with
  | .ok true [.ptr n] st => (match stLst st n with | some l => forPD n l (tgB t b) (enumD 0 l) ⟨E.e, st⟩ | none => .bad)
  | _ => sFor (dEnum f) t b E := rfl
end
end Dn
namespace L2
open PySem PySem.Spec PyProof.Rows
end L2
namespace Dn
open PySem PySem.Spec PyProof.Rows L2
def dctAt : List (Str × D) → Str → Option D
  | [], _ => none
  | p :: r, k => if p.1 = k then some p.2 else dctAt r k
def dctPut (l : List (Str × D)) (k : Str) (d : D) : List (Str × D) :=
  if (dctAt l k).isSome = true then l.map (fun p => if p.1 = k then (p.1, d) else p) else l ++ [(k, d)]
def dctDrop (l : List (Str × D)) (k : Str) : List (Str × D) := l.filter fun p => decide (p.1 ≠ k)
def stDct (st : Sto) (n : Nat) : Option (List (Str × D)) := match st[n]? with
  | some (.dct l) => some l
  | _ => none
section
variable {G : Gm} {W : WX}
theorem StOk.dct {s : Hs} {st : Sto} {n : Nat} {l : List (Str × D)} {p : Addr} (k : StOk G s st) (ha : s.as[n]? = some p) (h : stDct st n = some l) : ∃ kvs : List (Key × V), s.h p = some (.dK kvs) ∧ KsR G s.as s.f kvs l := by
  unfold stDct at h
  split at h
  · rename_i l' q
    cases h
    exact k.ob n p _ ha q
  · cases h
section
variable {as : List Addr} {H : Hp} {kvs : List (Key × V)} {l : List (Str × D)}
theorem inr_ne {x k : Str} (e : ¬ x = k) : ¬ (Sum.inr x : Key) = .inr k := fun z => e (Sum.inr.inj z)
theorem KsR.get (h : KsR G as H kvs l) {k : Str} {d : D} (e : dctAt l k = some d) : ∃ v, valV kvs (.inr k) = some v ∧ Is G as H v d := by
  induction h with
  | nil => cases e
  | @cons x v d' ps ds a b ih =>
    unfold dctAt at e
    by_cases c : x = k
    · rw [if_pos c] at e
      cases e
      exact ⟨v, valV_pos (p := ((.inr x : Key), v)) (congrArg Sum.inr c), a⟩
    · rw [if_neg c] at e
      rw [valV_neg (p := ((.inr x : Key), v)) (inr_ne c)]
      exact ih e
theorem KsR.is (h : KsR G as H kvs l) (k : Str) : (valV kvs (.inr k)).isSome = (dctAt l k).isSome := by
  induction h with
  | nil => rfl
  | @cons x v d' ps ds a b ih =>
    unfold dctAt
    by_cases c : x = k
    · rw [if_pos c, valV_pos (p := ((.inr x : Key), v)) (congrArg Sum.inr c)]; rfl
    · rw [if_neg c, valV_neg (p := ((.inr x : Key), v)) (inr_ne c)]
      exact ih
theorem KsR.len (h : KsR G as H kvs l) : kvs.length = l.length := by
  induction h with
  | nil => rfl
  | cons a b ih => exact congrArg Nat.succ ih
theorem KsR.snoc (h : KsR G as H kvs l) {x : Str} {v : V} {d : D} (q : Is G as H v d) : KsR G as H (kvs ++ [(.inr x, v)]) (l ++ [(x, d)]) := by
  induction h with
  | nil => exact .cons q .nil
  | cons a b ih => exact .cons a ih
theorem KsR.repl (h : KsR G as H kvs l) {x : Str} {v : V} {d : D} (q : Is G as H v d) : KsR G as H (kvs.map fun kv => if kv.1 = .inr x then (kv.1, v) else kv) (l.map fun p => if p.1 = x then (p.1, d) else p) := by
  induction h with
  | nil => exact .nil
  | @cons y w d' ps ds a b ih =>
    rw [List.map_cons, List.map_cons]
    by_cases c : y = x
    · rw [if_pos (show ((Sum.inr y : Key), w).1 = .inr x from congrArg Sum.inr c), if_pos c]; exact .cons q ih
    · rw [if_neg (show ¬ ((Sum.inr y : Key), w).1 = .inr x from inr_ne c), if_neg c]; exact .cons a ih
theorem KsR.put (h : KsR G as H kvs l) {x : Str} {v : V} {d : D} (q : Is G as H v d) : KsR G as H (putK kvs (.inr x) v) (dctPut l x d) := by
  unfold putK dctPut
  rw [valV_any, h.is x]
  by_cases c : (dctAt l x).isSome = true
  · rw [if_pos c, if_pos c]; exact h.repl q
  · rw [if_neg c, if_neg c]; exact h.snoc q
theorem KsR.drop (h : KsR G as H kvs l) (x : Str) : KsR G as H (dropK kvs (.inr x)) (dctDrop l x) := by
  unfold dropK dctDrop
  induction h with
  | nil => exact .nil
  | @cons y w d' ps ds a b ih =>
    rw [List.filter_cons, List.filter_cons]
    by_cases c : y = x
    · rw [if_neg (by simp [c]), if_neg (by simp [c])]; exact ih
    · rw [if_pos (by simp [c]), if_pos (by simp [c])]; exact .cons a ih
end
def dDNew : En → ER := fun E => .val .P (.ptr E.st.length) (E.st ++ [.dct []])
def oInD (a b : D) (st : Sto) : ER := match a, b with
  | .str x, .ptr n => ofOpt (stDct st n) fun l => .val .P (.bl (dctAt l x).isSome) st
  | _, _ => .bad
def oNotInD (a b : D) (st : Sto) : ER := match a, b with
  | .str x, .ptr n => ofOpt (stDct st n) fun l => .val .P (.bl (!(dctAt l x).isSome)) st
  | _, _ => .bad
def oIxD (a b : D) (st : Sto) : ER := match a, b with
  | .ptr n, .str x => ofOpt (stDct st n) fun l => ofOpt (dctAt l x) fun d => .val .P d st
  | _, _ => .bad
def sSetD (fb f fi : En → ER) : En → SR := fun E => match f E with
  | .val .B _ _ => .bad
  | .val _ d st => (match fb ⟨E.e, st⟩ with
    | .val _ (.ptr n) st1 => (match fi ⟨E.e, st1⟩ with
      | .val _ (.str x) st2 => (match stDct st2 n with
        | some l => if l.length < 1000000 then .nx ⟨E.e, st2.set n (.dct (dctPut l x d))⟩ else .bad
        | none => .bad)
      | .exc c l st => .exc c l ⟨E.e, st⟩
      | _ => .bad)
    | .exc c l st => .exc c l ⟨E.e, st⟩
    | _ => .bad)
  | .exc c l st => .exc c l ⟨E.e, st⟩
  | .bad => .bad
def dDPop (f g : En → ER) : En → ER := fun E => match f E with
  | .val _ (.ptr n) st => (match stDct st n with
    | some _ => (match g ⟨E.e, st⟩ with
      | .val _ (.str x) st1 => (match stDct st1 n with
        | some l => (match dctAt l x with
          | some d => .val .P d (st1.set n (.dct (dctDrop l x)))
          | none => .bad)
        | none => .bad)
      | .exc c l st => .exc c l st
      | _ => .bad)
    | none => .bad)
  | .exc c l st => .exc c l st
  | _ => .bad
@[simp] theorem e_stDct {st : Sto} {n : Nat} : stDct st n = match st[n]? with | some (.dct l) => some l | _ => none := rfl
@[simp] theorem e_dDNew {E : En} : dDNew E = .val .P (.ptr E.st.length) (E.st ++ [.dct []]) := rfl
@[simp] theorem e_oInD {x : Str} {n : Nat} {st : Sto} : oInD (.str x) (.ptr n) st = ofOpt (stDct st n) fun l => .val .P (.bl (dctAt l x).isSome) st := rfl
@[simp] theorem e_oNotInD {x : Str} {n : Nat} {st : Sto} : oNotInD (.str x) (.ptr n) st = ofOpt (stDct st n) fun l => .val .P (.bl (!(dctAt l x).isSome)) st := rfl
@[simp] theorem e_oIxD {x : Str} {n : Nat} {st : Sto} : oIxD (.ptr n) (.str x) st = ofOpt (stDct st n) fun l => ofOpt (dctAt l x) fun d => .val .P d st := rfl
@[simp] theorem e_sSetD {fb f fi : En → ER} {E : En} : sSetD fb f fi E = match f E with
  | .val .B _ _ => .bad
  | .val _ d st => (match fb ⟨E.e, st⟩ with
    | .val _ (.ptr n) st1 => (match fi ⟨E.e, st1⟩ with
      | .val _ (.str x) st2 => (match stDct st2 n with
        | some l => if l.length < 1000000 then .nx ⟨E.e, st2.set n (.dct (dctPut l x d))⟩ else .bad
        | none => .bad)
      | .exc c l st => .exc c l ⟨E.e, st⟩
      | _ => .bad)
    | .exc c l st => .exc c l ⟨E.e, st⟩
    | _ => .bad)
  | .exc c l st => .exc c l ⟨E.e, st⟩
  | .bad => .bad := rfl
@[simp] theorem e_dDPop {f g : En → ER} {E : En} : dDPop f g E = match f E with
  | .val _ (.ptr n) st => (match stDct st n with
    | some _ => (match g ⟨E.e, st⟩ with
      | .val _ (.str x) st1 => (match stDct st1 n with
        | some l => (match dctAt l x with
          | some d => .val .P d (st1.set n (.dct (dctDrop l x)))
          | none => .bad)
        | none => .bad)
      | .exc c l st => .exc c l st
      | _ => .bad)
    | none => .bad)
  | .exc c l st => .exc c l st
  | _ => .bad := rfl
end
end Dn
namespace Dn
open PySem PySem.Spec PyProof.Rows L2
section
variable {G : Gm} {W : WX}
def oIsB (a b : D) (st : Sto) : ER := match a, b with
  | .bl x, .bl y => .val .P (.bl (decide (x = y))) st
  | _, _ => .bad
@[simp] theorem e_oIsB {x y : Bool} {st : Sto} : oIsB (.bl x) (.bl y) st = .val .P (.bl (decide (x = y))) st := rfl
end
end Dn
namespace Dn
open PySem PySem.Spec PyProof.Rows L2
end Dn
namespace Dn
open PySem PySem.Spec PyProof.Rows L2
section
variable {G : Gm} {W : WX}
def firstS (k : Str) : List Str → Option Nat
  | [] => none
  | n :: r => if n = k then some 0 else (firstS k r).map (· + 1)
def dIdxX (fb : En → ER) (fa : En → AR) : En → ER := fun E => match fb E with
  | .val _ (.ptr n) st => (match stLst st n with
    | some _ => (match fa ⟨E.e, st⟩ with
      | .ok _ [.str k] st1 => ofOpt ((stLst st1 n).bind fun l => (strsOf l).bind (firstS k)) fun j => .val .P (.int (j : Nat)) st1
      | .exc c l st => .exc c l st
      | _ => .bad)
    | none => .bad)
  | .exc c l st => .exc c l st
  | _ => .bad
end
@[simp] theorem e_dIdxX {fb : En → ER} {fa : En → AR} {E : En} : dIdxX fb fa E = match fb E with
  | .val _ (.ptr n) st => (match stLst st n with
    | some _ => (match fa ⟨E.e, st⟩ with
      | .ok _ [.str k] st1 => ofOpt ((stLst st1 n).bind fun l => (strsOf l).bind (firstS k)) fun j => .val .P (.int (j : Nat)) st1
      | .exc c l st => .exc c l st
      | _ => .bad)
    | none => .bad)
  | .exc c l st => .exc c l st
  | _ => .bad := rfl
end Dn
namespace Dn
open PySem PySem.Spec PyProof.Rows L2
def dDispG (n : Nat) : List (Str × (En → ER)) → List (Str × D) → En → ER
  | [], acc, E => (match stDct E.st n with
    | some [] => .val .P (.ptr n) (E.st.set n (.dct acc))
    | _ => .bad)
  | (x, f) :: r, acc, E => match f E with
    | .val .B _ _ => .bad
    | .val _ d st => dDispG n r (acc ++ [(x, d)]) ⟨E.e, st⟩
    | .exc c l st => .exc c l st
    | .bad => .bad
def dDisp (ps : List (Str × (En → ER))) : En → ER := fun E => dDispG E.st.length ps [] ⟨E.e, E.st ++ [.dct []]⟩
section
variable {G : Gm} {W : WX}
inductive DPs (G : Gm) (W : WX) : List (TE × TE) → List (Str × (En → ER)) → Prop
  | nil : DPs G W [] []
  | cons {x : Str} {tv : TE} {f : En → ER} {trs : List (TE × TE)} {ps : List (Str × (En → ER))} : DEv G W tv f → DPs G W trs ps → DPs G W ((tC (.str x), tv) :: trs) ((x, f) :: ps)
def dDGet2 (f g h : En → ER) : En → ER := fun E => match f E with
  | .val _ (.ptr n) st => (match stDct st n with
    | some _ => (match g ⟨E.e, st⟩ with
      | .val _ (.str x) st1 => (match h ⟨E.e, st1⟩ with
        | .val .B _ _ => .bad
        | .val _ d st2 => (match stDct st2 n with
          | some l => .val .P ((dctAt l x).getD d) st2
          | none => .bad)
        | .exc c l st => .exc c l st
        | .bad => .bad)
      | .exc c l st => .exc c l st
      | _ => .bad)
    | none => .bad)
  | .exc c l st => .exc c l st
  | _ => .bad
theorem KsR.getD {as : List Addr} {H : Hp} {kvs : List (Key × V)} {l : List (Str × D)} (h : KsR G as H kvs l) {k : Str} {v : V} {d : D} (i : Is G as H v d) : Is G as H ((valV kvs (.inr k)).getD v) ((dctAt l k).getD d) := by
  cases e : dctAt l k with
  | none =>
    have := h.is k
    rw [e] at this
    cases e2 : valV kvs (.inr k) with
    | none => exact i
    | some w => rw [e2] at this; cases this
  | some d' =>
    obtain ⟨w, h1, h2⟩ := h.get e
    rw [h1]; exact h2
end
@[simp] theorem e_dDisp {ps : List (Str × (En → ER))} {E : En} : dDisp ps E = dDispG E.st.length ps [] ⟨E.e, E.st ++ [.dct []]⟩ := rfl
@[simp] theorem e_dDispG0 {n : Nat} {acc : List (Str × D)} {E : En} : dDispG n [] acc E = (match stDct E.st n with
    | some [] => .val .P (.ptr n) (E.st.set n (.dct acc))
    | _ => .bad) := rfl
@[simp] theorem e_dDispG1 {n : Nat} {x : Str} {f : En → ER} {r : List (Str × (En → ER))} {acc : List (Str × D)} {E : En} : dDispG n ((x, f) :: r) acc E = (match f E with
    | .val .B _ _ => .bad
    | .val _ d st => dDispG n r (acc ++ [(x, d)]) ⟨E.e, st⟩
    | .exc c l st => .exc c l st
    | .bad => .bad) := rfl
@[simp] theorem e_dDGet2 {f g h : En → ER} {E : En} : dDGet2 f g h E = match f E with
  | .val _ (.ptr n) st => (match stDct st n with
    | some _ => (match g ⟨E.e, st⟩ with
      | .val _ (.str x) st1 => (match h ⟨E.e, st1⟩ with
        | .val .B _ _ => .bad
        | .val _ d st2 => (match stDct st2 n with
          | some l => .val .P ((dctAt l x).getD d) st2
          | none => .bad)
        | .exc c l st => .exc c l st
        | .bad => .bad)
      | .exc c l st => .exc c l st
      | _ => .bad)
    | none => .bad)
  | .exc c l st => .exc c l st
  | _ => .bad := rfl
end Dn
namespace L2
open PySem PySem.Spec PyProof.Rows
end L2
namespace Dn
open PySem PySem.Spec PyProof.Rows L2
def insS (k : Int) : List Int → List Int
  | [] => [k]
  | a :: l => if k < a then k :: a :: l else if k = a then a :: l else a :: insS k l
def sset : List Int → List Int
  | [] => []
  | a :: l => insS a (sset l)
def oSortSet : List D → Sto → ER
  | [.lst l], st => ofOpt (intsOf l) fun ns => if ns.length < 64 then .val .N (.lst ((sset ns).map .int)) st else .bad
  | _, _ => .bad
@[simp] theorem e_oSortSet {l : List D} {st : Sto} : oSortSet [.lst l] st = ofOpt (intsOf l) fun ns => if ns.length < 64 then .val .N (.lst ((sset ns).map .int)) st else .bad := rfl
end Dn
namespace GQ
open PySem PySem.SeqAt
open AutoSeq1 (wpAny_loadPart')
open MeetsSeq MeetsSeq2 MeetsSeq3 SeqRoads2
section
variable {prog : Program} {w : World} {A : Around} {R : Result → Shared → Prop}
def ListX (prog : Program) (w : World) (A : Around) (R : Result → Shared → Prop) (l : Addr) (x : Value) (N : Nat) (I : Nat → Shared → Prop) : Prop :=
  ∀ i s, I i s → ∃ (items : Array Value) (n : Nat), s.heap.get? l = some { cls := .type "list", data := .seq items n } ∧ items.size = N ∧
    ∀ (h1 : i < items.size), wpAny (model prog w) A.in1 (eqBool items[i] x) (fun r s' => (r = true ∧ R (.ok (.ret (.bool true))) s') ∨ (r = false ∧ I (i + 1) s')) (fun e s' => R (.error e) s') s
theorem in_loopX (l : Addr) (x : Value) (N : Nat) (I : Nat → Shared → Prop) (hl : ListX prog w A R l x N I)
    (fin : ∀ s, I N s → R (.ok (.ret (.bool false))) s) (k : Nat) :
    ∀ i : Nat, N - i = k → i ≤ N → ∀ s, I i s →
      wpAny (model prog w) A.in1 (Builtin.«list.__contains__.loop» ⟨[.ref l, x, rawInt i], []⟩) (FinOf prog w A R) (fun e s' => R (.error e) s') s := by
  induction k with
  | zero =>
    intro i hk hi s h
    obtain ⟨items, n, hl1, hs1, _⟩ := hl _ _ h
    have hi' : i = N := by omega
    have hR : R (.ok (.ret (.bool false))) s := fin s (hi' ▸ h)
    obtain ⟨hp, g, d, tk, os⟩ := s
    wp_walk using wpAny_loadPart' hl1
    have hi1 : items[((i : Nat) : Int).toNat]? = none := by simp; omega
    rw [hi1]
    wp_walk
    exact hR
  | succ k ih =>
    intro i hk hi s h
    obtain ⟨items, n, hl1, hs1, turn⟩ := hl _ _ h
    have hlt : i < items.size := by omega
    have ht := turn hlt
    obtain ⟨hp, g, d, tk, os⟩ := s
    wp_walk using wpAny_loadPart' hl1
    have hi1 : items[((i : Nat) : Int).toNat]? = some items[i] := by simp [hlt]
    have hc : ((i : Int) + 1) = ((i + 1 : Nat) : Int) := by omega
    rw [hi1]
    refine wpAny_bind (wpAny_mono ht (fun r s2 h2 => ?_) fun _ _ x => x)
    rcases h2 with ⟨hr, h2⟩ | ⟨hr, h2⟩
    · subst hr
      obtain ⟨hp2, g2, d2, tk2, os2⟩ := s2
      wp_walk
      exact h2
    · subst hr
      have hrec := ih (i + 1) (by omega) (by omega) s2 h2
      obtain ⟨hp2, g2, d2, tk2, os2⟩ := s2
      wp_walk
      rw [hc]
      exact ⟨plainId_quiet plain_contains_loop _, codeAny_builtin entry_contains_loop (by
        rw [Around.under_plainId plain_contains_loop _]
        exact hrec)⟩
theorem list_inX (l : Addr) (x : Value) (N : Nat) (I : Nat → Shared → Prop) (hl : ListX prog w A R l x N I)
    (fin : ∀ s, I N s → R (.ok (.ret (.bool false))) s) {s : Shared} (h : I 0 s) :
    wpAny (model prog w) A.in1 (Builtin.«list.__contains__» ⟨[.ref l, x], []⟩) (FinOf prog w A R) (fun e s' => R (.error e) s') s := by
  obtain ⟨items, n, hl1, hs1, _⟩ := hl _ _ h
  have hrec := in_loopX (A := A) (R := R) l x N I hl fin _ 0 rfl (Nat.zero_le _) s h
  obtain ⟨hp, g, d, tk, os⟩ := s
  wp_walk using wpAny_loadPart' hl1
  exact ⟨plainId_quiet plain_contains_loop _, codeAny_builtin entry_contains_loop (by
    rw [Around.under_plainId plain_contains_loop _]
    exact hrec)⟩
end
section
variable {prog : Program} {w : World} {A : Around} {E : Value → Shared → Prop} {s : Shared}
theorem in_listX {l : Addr} {x : Value} {N : Nat} {Q : Value → Shared → Prop} (I : Nat → Shared → Prop)
    (hl : ListX prog w A (wants (fun v s' => ∃ b, v = .bool b ∧ Q (.bool b) s') E) l x N I) (fin : ∀ s, I N s → Q (.bool false) s) (h : I 0 s) :
    wpAny (model prog w) A (compareOp .In x (.ref l)) Q E s := by
  obtain ⟨items, n, hl1, _, _⟩ := hl _ _ h
  show wpAny _ A (do return .bool (← contains (.ref l) x)) Q E s
  refine wpAny_bind (wpAny_contains_slot ⟨_, hl1, rfl⟩ F.slot_list_contains (wpAny_mono (call_here F.slot_list_contains ⟨_, hl1, rfl⟩ F.entry_list_contains (F.args_list_contains_2 _ _) (Q := fun v s' => ∃ b, v = .bool b ∧ Q (.bool b) s') (E := E) ?_) (fun v s' hv => ?_) fun _ _ e => e))
  · exact list_inX (R := wants (fun v s' => ∃ b, v = .bool b ∧ Q (.bool b) s') E) l x N I hl (fun s' q => ⟨false, rfl, fin s' q⟩) h
  · obtain ⟨b, rfl, hq⟩ := hv
    exact wpAny_truthy_bool (wpAny_pure hq)
end
end GQ
namespace Dn
open PySem PySem.Spec PySem.Calls PyProof.Rows L2
open AutoSeq1 (wpAny_loadPart')
section
variable {prog : Program} {w : World} {A : Around} {E : Value → Shared → Prop} {s : Shared} {K : PySem.W.Frag} {x C L f : Addr} {h₀ : Heap} {m : Str → Option Value} {od : Option Obj} {dx : Addr}
theorem rc_decl {a : Value} {Ta ida : String} {Q : Value → Shared → Prop} (hu : A.units < cLine) (F : Fr h₀ L s.heap m) (X₀ : K.In h₀) (I : PySem.W.InstAt s.heap x (PySem.W.instObj C dx) C od)
    (ha : s.TypeIs a Ta) (slot : Slot Ta "__eq__" ida) (hc : ∀ Q' : Value → Shared → Prop, Q' .notImplemented s → wpAny (model prog w) A (call (.builtin ida) [a, .ref x]) Q' E s)
    (hn : PySem.W.subIn K (.ref C) (.type Ta) = some false) (hs : PySem.W.findIn K (.ref C) "__eq__" = some (some (.ref f))) (hf : PySem.W.isFn K (.ref f) = true)
    (h : wpAny (model prog w) A (call (.ref f) [.ref x, a]) (PySem.W.CmpBack Q) E s) : wpAny (model prog w) A (richCompare .Eq a (.ref x)) Q E s := by
  have X := X₀.keeps F.keep
  have two : wpAny (model prog w) A (tryCompare (.ref x) "__eq__" a) (fun r s' => ∃ v, r = some v ∧ Q v s') E s := by
    unfold tryCompare
    refine wpAny_bind (PySem.W.ifBound_K X I hs hf (wpAny_mono h (fun v s' hv => ?_) fun _ _ e => e))
    cases v <;> first | exact hv.elim | exact wpAny_pure ⟨_, rfl, hv⟩
  simp only [richCompare, cmpInfo_Eq, ha.oneThing_none]
  refine wpAny_holding (wpAny_bind (wpAny_cRoomFor hu ?_))
  refine wpAny_bind (wpAny_typeOf ha (wpAny_bind (I.type.here ?_)))
  split
  · refine wpAny_bind ((PySem.W.looks_subIn X hn).here ?_)
    simp only [Bool.false_eq_true, if_false, Bool.not_false, if_true]
    refine wpAny_bind (m := tryCompare a _ (.ref x)) (wpAny_tryCompare_declines ha slot (hc _ ⟨rfl, ?_⟩))
    refine wpAny_bind (m := tryCompare (.ref x) _ a) (wpAny_mono two (fun r s' z => ?_) fun _ _ e => e)
    obtain ⟨v, rfl, hq⟩ := z
    exact wpAny_pure hq
  · rename_i q
    exact absurd (by simp) q
theorem dec_int {l : Addr} (i : Int) (t : Tok) :
    Meets (Builtin.«int.__eq__» ⟨[.int i t, .ref l], []⟩) (fun _ R s => s.heap.get? l = some (PySem.W.instObj C dx) ∧ R (.ok (.ret .notImplemented)) s) :=
  .of_wp fun prog w A R s h => by
    obtain ⟨hp, g, d, tk, os⟩ := s; obtain ⟨hl, h⟩ := h
    unfold PySem.W.instObj at hl
    wp_walk using wpAny_loadPart' hl
    exact ⟨_, rfl, h⟩
theorem dec_str {l : Addr} (i : Str) (t : Tok) :
    Meets (Builtin.«str.__eq__» ⟨[.str i t, .ref l], []⟩) (fun _ R s => s.heap.get? l = some (PySem.W.instObj C dx) ∧ R (.ok (.ret .notImplemented)) s) :=
  .of_wp fun prog w A R s h => by
    obtain ⟨hp, g, d, tk, os⟩ := s; obtain ⟨hl, h⟩ := h
    unfold PySem.W.instObj at hl
    wp_walk using wpAny_loadPart' hl
    exact ⟨_, rfl, h⟩
theorem dec_lst {l x : Addr} (hf : PySem.W.Looks (model prog w) s.heap (isInstance (.ref x) (.type "list")) false) {R : Result → Shared → Prop} (h : R (.ok (.ret .notImplemented)) s) :
    wpAny (model prog w) A.in1 (Builtin.«list.__eq__» ⟨[.ref l, .ref x], []⟩) (GQ.FinOf prog w A R) (fun e s' => R (.error e) s') s := by
  unfold Builtin.«list.__eq__»
  show wpAny _ _ (slotArgs "__eq__" 1 ⟨[.ref l, .ref x], []⟩ >>= _) _ _ _
  refine wpAny_bind (m := slotArgs "__eq__" 1 _) (wpAny_pure ?_)
  refine wpAny_bind (m := isInstance _ _) (hf.here ?_)
  simp only [Bool.not_false, if_true]
  refine wpAny_bind (wpAny_pure ?_)
  exact wpAny_pure h
end
end Dn
namespace L2
open PySem PySem.Spec PySem.Calls PyProof.Rows
abbrev RI := V → V → Hp → (Bool → Hp → Prop) → Prop
def EqI (X : Cx) (n : Nat) (r : RI) : Prop :=
  ∀ (A : Around) (pins : List (Addr × Obj)) (s : Shared) (σ : St) (H : Hp) (x y : V) (u v : Value) (Q : Bool → Hp → Prop), Sub X n A → Inv X pins σ H s → RelV x u → RelV y v → r x y H Q →
    wpAny (model X.prog X.w) A (eqBool u v) (TP X pins σ Q) X.xe s
def walkI (r : RI) (p : Addr) (all : List V) (x : V) (Q : VK) : List V → Hp → Prop
  | [], H => Q (.bl false) H
  | i :: l, H => r i x H (fun b H' => H' p = some (.lst all) ∧ ((b = true ∧ Q (.bl true) H') ∨ (b = false ∧ walkI r p all x Q l H')))
def rInX (r : RI) : R2 := fun x y H Q => ∃ p all, y = .ref p ∧ H p = some (.lst all) ∧ walkI r p all x Q all H
theorem op_inX {X : Cx} {n : Nat} {r : RI} (h : EqI X n r) (hr : Room (n + 1) X.A) : OpR X (compareOp .In) (rInX r) := by
  intro pins s σ H x y v u Q I rx ry hq
  obtain ⟨p, all, rfl, hp, hw⟩ := hq
  cases ry
  refine GQ.in_listX (N := all.length) (fun i s' => ∃ H', Inv X pins σ H' s' ∧ H' p = some (.lst all) ∧ walkI r p all x Q (all.drop i) H') (fun i s' q => ?_) (fun s' q => ?_) ⟨H, I, hp, hw⟩
  · obtain ⟨H1, I1, hp1, w1⟩ := q
    obtain ⟨z, its, k, rv, e⟩ := I1.hok p _ hp1
    refine ⟨its.toArray, k, e, by rw [List.size_toArray, ← rv.length], fun h1 => ?_⟩
    have h1' : i < its.length := by simpa using h1
    have k1 : i < all.length := by rw [rv.length]; exact h1'
    obtain ⟨u, hu, ru⟩ := rv.get (List.getElem?_eq_getElem k1)
    have g1 : its[i]? = some its.toArray[i] := by
      rw [List.getElem?_eq_getElem h1'] <;> simp
    rw [g1] at hu
    rw [Option.some.inj hu]
    rw [List.drop_eq_getElem_cons k1] at w1
    refine wpAny_mono (h X.A.in1 pins s' σ H1 _ _ u v _ (Sub.in1 ⟨hr, rfl⟩) I1 ru rx w1) (fun b s2 q => ?_) fun _ _ x => x
    obtain ⟨H2, I2, hp2, q⟩ := q
    rcases q with ⟨hb, q⟩ | ⟨hb, q⟩
    · exact .inl ⟨hb, true, rfl, .bl true, H2, I2, rfl, q⟩
    · exact .inr ⟨hb, H2, I2, hp2, q⟩
  · obtain ⟨H1, I1, hp1, w1⟩ := q
    rw [List.drop_length] at w1
    exact ⟨.bl false, H1, I1, rfl, w1⟩
end L2
namespace Dn
open PySem PySem.Spec PySem.Calls PyProof.Rows L2
section
variable {X : Cx} {G : Gm}
def toB (Q : Bool → Hp → Prop) : VK := fun v H' => ∃ r : Bool, v = .bl r ∧ Q r H'
def rItO (G : Gm) (Os : OwnL) : RI := fun i x H Q => ∃ o ∈ Os, ∃ a b dx fs dy gs C, i = .ref b ∧ x = .ref a ∧ b ≠ a ∧ H b = some (.ins (G.ca o.1) dx fs) ∧ H a = some (.ins C dy gs) ∧ PySem.W.notFirst G.K (G.ca o.1) (.ref C) = true ∧
  spF G o.2 [.ref b, .ref a] H (toB Q) (fun _ _ _ => False)
inductive Pln (K : PySem.W.Frag) (C : Addr) (H : Hp) : V → Prop
  | non (h : PySem.W.subIn K (.ref C) (.type "NoneType") = some false) : Pln K C H .non
  | int (i : Int) (h : PySem.W.subIn K (.ref C) (.type "int") = some false) : Pln K C H (.int i)
  | str (i : Str) (h : PySem.W.subIn K (.ref C) (.type "str") = some false) : Pln K C H (.str i)
  | lst (b : Addr) (l : List V) (e : H b = some (.lst l)) (h : PySem.W.subIn K (.ref C) (.type "list") = some false) : Pln K C H (.ref b)
def rItP (G : Gm) (Os : OwnL) : RI := fun i x H Q => ∃ o ∈ Os, ∃ a dx fs, x = .ref a ∧ H a = some (.ins (G.ca o.1) dx fs) ∧ Pln G.K (G.ca o.1) H i ∧ spF G o.2 [.ref a, i] H (toB Q) (fun _ _ _ => False)
theorem toB_back {pins : List (Addr × Obj)} {σ : L2.St} {Q : Bool → Hp → Prop} {v : Value} {s' : Shared} (h : EP X pins σ (toB Q) v s') : PySem.W.CmpBack (fun v s' => ∃ r, v = .bool r ∧ TP X pins σ Q r s') v s' := by
  obtain ⟨v1, H', I', rv, r, rfl, q⟩ := h
  obtain rfl : v = Value.bool r := rv
  exact ⟨r, rfl, H', I', q⟩
theorem eqI_own {Os : OwnL} {k : Nat} (hG : G.K = X.K) (hO : ∀ x ∈ Os, OwnM X.prog X.w X.K X.mg X.base G "__eq__" 2 k x.1 x.2) : EqI X k (rItO G Os) := by
  intro A pins s σ H i x u v Q sb I ri rx h
  obtain ⟨o, ho, a, b, dx, fs, dy, gs, C, rfl, rfl, hne, hb, ha, hn, h⟩ := h
  cases ri
  cases rx
  obtain ⟨f, hs, hf, run⟩ := run_own (hO o ho)
  obtain ⟨mA, J, _⟩ := ins_get I.hok hb
  obtain ⟨mB, J', _⟩ := ins_get I.hok ha
  obtain ⟨od, J, _⟩ := J.look
  obtain ⟨od', J', _⟩ := J'.look
  obtain ⟨m, hF⟩ := I.fr
  rw [hG] at hn
  refine GQ.eqBool_refG hne ?_
  exact PySem.W.cmp_K (op := .Eq) sb.room.units0 hF I.ok.mod.kin J J'.type hn hs hf (wpAny_mono (run A sb.room sb.fr pins σ H s [.ref b, .ref a] [.ref b, .ref a] _ I (.cons rfl (.cons rfl .nil)) rfl h) (fun v s' q => toB_back q) fun _ _ e => e)
theorem eqBool_of {prog : Program} {w : World} {A : Around} {E : Value → Shared → Prop} {s : Shared} {a : Value} {x : Addr} {Q : Bool → Shared → Prop} (hk : a = .none ∨ (∃ i t, a = .int i t) ∨ ∃ i t, a = .str i t)
    (h : wpAny (model prog w) A (richCompare .Eq a (.ref x)) (fun v s' => ∃ r, v = .bool r ∧ Q r s') E s) : wpAny (model prog w) A (eqBool a (.ref x)) Q E s := by
  have k : wpAny (model prog w) A (richCompare .Eq a (.ref x) >>= fun r => truthOfDropped r) Q E s := by
    refine wpAny_bind (wpAny_mono h (fun v s' hv => ?_) fun _ _ x => x)
    obtain ⟨r, rfl, q⟩ := hv
    exact wpAny_truthy_bool q
  rcases hk with rfl | ⟨i, t, rfl⟩ | ⟨i, t, rfl⟩
  all_goals
    unfold eqBool
    refine wpAny_holding ?_
    refine wpAny_ite_split (fun hab => absurd (eq_of_beq hab) nofun) (fun _ => ?_)
    exact k
theorem eqI_pln {Os : OwnL} {k : Nat} (hG : G.K = X.K) (hO : ∀ x ∈ Os, OwnM X.prog X.w X.K X.mg X.base G "__eq__" 2 k x.1 x.2) : EqI X k (rItP G Os) := by
  intro A pins s σ H i x u v Q sb I ri rx h
  obtain ⟨o, ho, a, dx, fs, rfl, ha, pl, h⟩ := h
  cases rx
  obtain ⟨f, hs, hf, run⟩ := run_own (hO o ho)
  obtain ⟨mA, J, _⟩ := ins_get I.hok ha
  obtain ⟨od, J, _⟩ := J.look
  obtain ⟨m, hF⟩ := I.fr
  rw [hG] at pl
  have go := wpAny_mono (run A sb.room sb.fr pins σ H s [.ref a, i] [.ref a, u] _ I (.cons rfl (.cons ri .nil)) rfl h) (fun v s' q => toB_back q) fun _ _ e => e
  cases pl with
  | non hn =>
    cases ri
    exact eqBool_of (.inl rfl) (rc_decl sb.room.units0 hF I.ok.mod.kin J (show s.TypeIs .none "NoneType" from rfl) F.slot_NoneType_eq (fun Q' q => call_gives F.slot_NoneType_eq rfl F.entry_NoneType_eq (F.args_NoneType_eq_2 _ _) (SeqAt.NoneType___eq___none_ref_0 a) q) hn hs hf go)
  | int i hn =>
    obtain ⟨t, rfl⟩ := ri
    exact eqBool_of (.inr (.inl ⟨_, _, rfl⟩)) (rc_decl sb.room.units0 hF I.ok.mod.kin J (typeIs_int s i t) F.slot_int_eq (fun Q' q => call_meets F.slot_int_eq (typeIs_int s i t) F.entry_int_eq (F.args_int_eq_2 _ _) (dec_int i t) ⟨J.at_, q⟩) hn hs hf go)
  | str i hn =>
    obtain ⟨t, rfl⟩ := ri
    exact eqBool_of (.inr (.inr ⟨_, _, rfl⟩)) (rc_decl sb.room.units0 hF I.ok.mod.kin J (typeIs_str s i t) F.slot_str_eq (fun Q' q => call_meets F.slot_str_eq (typeIs_str s i t) F.entry_str_eq (F.args_str_eq_2 _ _) (dec_str i t) ⟨J.at_, q⟩) hn hs hf go)
  | lst b l e hn =>
    cases ri
    have hne : b ≠ a := fun z => by rw [z, ha] at e; cases e
    obtain ⟨z, its, n, rv, e'⟩ := I.hok b _ e
    have hT : s.TypeIs (.ref b) "list" := ⟨_, e', rfl⟩
    refine GQ.eqBool_refG hne (rc_decl sb.room.units0 hF I.ok.mod.kin J hT F.slot_list_eq (fun Q' q => ?_) hn hs hf go)
    exact GQ.call_here F.slot_list_eq hT F.entry_list_eq (F.args_list_eq_2 _ _) (dec_lst (R := wants Q' X.xe) (J.type.andThen (PySem.W.looks_subIn I.kIn hn)) q)
theorem EqI.or {k : Nat} {r r' : RI} (h : EqI X k r) (h' : EqI X k r') : EqI X k (fun i x H Q => r i x H Q ∨ r' i x H Q) := by
  intro A pins s σ H i x u v Q sb I ri rx z
  rcases z with z | z
  · exact h A pins s σ H i x u v Q sb I ri rx z
  · exact h' A pins s σ H i x u v Q sb I ri rx z
abbrev rIt (G : Gm) (Os : OwnL) : RI := fun i x H Q => rItO G Os i x H Q ∨ rItP G Os i x H Q
theorem op_inO {Os : OwnL} {k : Nat} (hG : G.K = X.K) (hO : ∀ x ∈ Os, OwnM X.prog X.w X.K X.mg X.base G "__eq__" 2 k x.1 x.2) (hr : Room (k + 1) X.A) : OpR X (compareOp .In) (rInX (rIt G Os)) :=
  op_inX (EqI.or (eqI_own hG hO) (eqI_pln hG hO)) hr
end
end Dn
namespace Dn
open PySem PySem.Spec PySem.Calls PyProof.Rows L2
structure InOk (G : Gm) (Os : OwnL) : Prop where
  pl : ∀ x ∈ Os, ∀ T ∈ plainTs, PySem.W.subIn G.K (.ref (G.ca x.1)) (.type T) = some false
def inOne (Os : OwnL) (Cs : List Nat) (n : Nat) (d : D) (st : Sto) : ER := match stIns st n with
  | none => .bad
  | some (c, _) => (match d with
    | .ptr m => if m = n then .bad else (match stIns st m with
      | some (c', _) => if Cs.contains c = true then ofOpt (ownF Os c') fun F => F [.ptr m, .ptr n] st else .bad
      | none => (match stLst st m with
        | some _ => ofOpt (ownF Os c) fun F => F [.ptr n, .ptr m] st
        | none => .bad))
    | .non => ofOpt (ownF Os c) fun F => F [.ptr n, .non] st
    | .int i => ofOpt (ownF Os c) fun F => F [.ptr n, .int i] st
    | .str x => ofOpt (ownF Os c) fun F => F [.ptr n, .str x] st
    | .lst l => ofOpt (ownF Os c) fun F => F [.ptr n, .lst l] st
    | _ => .bad)
def inNext (r : ER) (k : Sto → ER) : ER := match r with
  | .val _ (.bl true) st' => .val .P (.bl true) st'
  | .val _ (.bl false) st' => k st'
  | _ => .bad
def inWalk (Os : OwnL) (Cs : List Nat) (n : Nat) : List D → Sto → ER
  | [], st => .val .P (.bl false) st
  | d :: l, st => inNext (inOne Os Cs n d st) fun st' => inWalk Os Cs n l st'
def inO2 (Os : OwnL) (Cs : List Nat) (o : D → D → Sto → ER) (x y : D) (st : Sto) : ER := match x, y with
  | .ptr n, .lst l => (match stIns st n with
    | some _ => inWalk Os Cs n l st
    | none => o x y st)
  | _, _ => o x y st
def dInO (Os : OwnL) (Cs : List Nat) (o : D → D → Sto → ER) (f g : En → ER) : En → ER := fun E => match f E with
  | .val _ x st => (match g ⟨E.e, st⟩ with
    | .val _ y st1 => inO2 Os Cs o x y st1
    | .exc c l st => .exc c l st
    | .bad => .bad)
  | .exc c l st => .exc c l st
  | .bad => .bad
section
variable {G : Gm} {W : WX} {Os : OwnL} {Cs : List Nat}
theorem in_step {t : Hs} {σ : L2.St} {Q : VK} {r : ER} {kk : Sto → ER} {P : Hp → Prop} {Z : Hp → Prop} (post : RPost G W t σ Q (inNext r kk))
    (hk : ∀ t', Gro t t' → P t'.h) (ih : ∀ t1 st1, Gro t t1 → StOk G t1 st1 → RPost G W t1 σ Q (kk st1) → Z t1.h) :
    RPost G (fun _ _ _ _ => False) t [] (toB (fun b H' => P H' ∧ ((b = true ∧ Q (.bl true) H') ∨ (b = false ∧ Z H')))) r := by
  cases r with
  | exc c l st2 => exact post.elim
  | bad => exact post.elim
  | val m d st1 =>
    cases d <;> first | exact post.elim | skip
    rename_i b
    intro t1 v1 g1 k1 o1
    obtain rfl := o1.u.bl
    refine ⟨b, rfl, hk t1 g1, ?_⟩
    have p1 := RPost.step g1 k1 post
    cases b with
    | true => exact .inl ⟨rfl, RPost.now k1 p1 (.bl _)⟩
    | false => exact .inr ⟨rfl, ih t1 st1 g1 k1 p1⟩
theorem in_walk (T : EqOk G Os Cs) (T2 : InOk G Os) {p a : Addr} {all : List V} {n : Nat} {σ : L2.St} {Q : VK} : ∀ (l : List D) (vs : List V) (t : Hs) (st : Sto), StOk G t st → t.as[n]? = some a → (∀ t', Gro t t' → t'.h p = some (.lst all)) →
    IsL G t.as t.f vs l → RPost G W t σ Q (inWalk Os Cs n l st) → walkI (rIt G Os) p all (.ref a) Q vs t.h
  | [], _, t, st, k, ha, hk, .nil, post => by
    exact RPost.now k post (.bl _)
  | d :: l, _, t, st, k, ha, hk, .cons (v := v) (vs := vs) hv hl, post0 => by
    have ih : ∀ t1 st1, Gro t t1 → StOk G t1 st1 → RPost G W t1 σ Q (inWalk Os Cs n l st1) → walkI (rIt G Os) p all (.ref a) Q vs t1.h := fun t1 st1 g1 k1 p1 =>
      in_walk T T2 l vs t1 st1 k1 (g1.a _ _ ha) (fun t' g => hk t' (g1.trans g)) (hl.up g1.a g1.f) p1
    have post : RPost G W t σ Q (inNext (inOne Os Cs n d st) fun st' => inWalk Os Cs n l st') := post0
    clear post0
    cases hi : stIns st n with
    | none => simp only [inOne, hi] at post; exact post.elim
    | some cl =>
      obtain ⟨c, l0⟩ := cl
      obtain ⟨dx, fs, hh, hlen, il⟩ := k.ins ha hi
      have pln : ∀ (d' : D), Is G t.as t.f v d' → Pln G.K (G.ca c) t.h v ∨ True → RPost G W t σ Q (inNext (ofOpt (ownF Os c) fun F => F [.ptr n, d'] st) fun st' => inWalk Os Cs n l st') → (∀ F, (c, F) ∈ Os → Pln G.K (G.ca c) t.h v) → walkI (rIt G Os) p all (.ref a) Q (v :: vs) t.h := by
        intro d' hd' _ post hp
        cases ho : ownF Os c with
        | none => simp only [ho] at post; exact post.elim
        | some F =>
          simp only [ho] at post
          have hm := ownF_mem ho
          refine .inr ⟨(c, F), hm, a, dx, _, rfl, hh, hp F hm, t, [.ptr n, d'], st, rfl, k, .cons (.ptr ha) (.cons hd' .nil), ?_⟩
          exact in_step post hk ih
      cases d <;> try (simp only [inOne, hi] at post; exact post.elim)
      case non =>
        simp only [inOne, hi] at post
        cases hv
        exact pln .non .non (.inr trivial) post fun F hm => .non (T2.pl _ hm "NoneType" (by decide))
      case int i =>
        simp only [inOne, hi] at post
        cases hv
        exact pln (.int i) (.int i) (.inr trivial) post fun F hm => .int i (T2.pl _ hm "int" (by decide))
      case str i =>
        simp only [inOne, hi] at post
        cases hv
        exact pln (.str i) (.str i) (.inr trivial) post fun F hm => .str i (T2.pl _ hm "str" (by decide))
      case lst li =>
        simp only [inOne, hi] at post
        have hv' := hv
        cases hv with
        | lst q1 q2 => exact pln (.lst li) hv' (.inr trivial) post fun F hm => .lst _ _ (k.sf _ _ q1) (T2.pl _ hm "list" (by decide))
      case ptr m =>
        simp only [inOne, hi] at post
        have hv' := hv
        cases hv with
        | ptr hb =>
          rename_i b
          by_cases hmn : m = n
          · simp only [hmn, if_true] at post; exact post.elim
          · simp only [hmn, if_false] at post
            have hne : b ≠ a := fun z => hmn (by
              subst z
              exact (List.getElem?_inj (List.getElem?_eq_some_iff.mp hb).1 k.nd).mp (hb.trans ha.symm))
            cases hj : stIns st m with
            | none =>
              simp only [hj] at post
              cases hq : stLst st m with
              | none => simp only [hq] at post; exact post.elim
              | some lq =>
                simp only [hq] at post
                obtain ⟨vs', hh', il'⟩ := k.lst hb hq
                exact pln (.ptr m) hv' (.inr trivial) post fun F hm => .lst _ _ hh' (T2.pl _ hm "list" (by decide))
            | some cl2 =>
              obtain ⟨c2, l2⟩ := cl2
              simp only [hj] at post
              by_cases hc : Cs.contains c = true
              · simp only [hc, if_true] at post
                obtain ⟨dx2, fs2, hh2, hlen2, il2⟩ := k.ins hb hj
                cases ho : ownF Os c2 with
                | none => simp only [ho] at post; exact post.elim
                | some F =>
                  simp only [ho] at post
                  have hm := ownF_mem ho
                  refine .inl ⟨(c2, F), hm, a, b, dx2, _, dx, _, G.ca c, rfl, rfl, hne, hh2, hh, T.pc _ hm c (by simpa using hc), t, [.ptr m, .ptr n], st, rfl, k, .cons (.ptr hb) (.cons (.ptr ha) .nil), ?_⟩
                  exact in_step post hk ih
              · simp only [hc, if_false] at post; exact post.elim
theorem in_o2 {o : D → D → Sto → ER} {r : R2} {t2 : Hs} {st2 : Sto} {σ : L2.St} {Q : VK} {v u : V} {x y : D} (hr : DOp G r o) (T : EqOk G Os Cs) (T2 : InOk G Os) (k2 : StOk G t2 st2) (hx : U G t2 v x) (hy : U G t2 u y) (post : RPost G W t2 σ Q (inO2 Os Cs o x y st2)) :
    rOr r (rInX (rIt G Os)) v u t2.h Q := by
  have plain : RPost G W t2 σ Q (o x y st2) → rOr r (rInX (rIt G Os)) v u t2.h Q := fun p => .inl (hr W σ t2 st2 v u x y k2 hx hy Q p)
  cases x <;> try exact plain post
  case ptr n =>
  cases y <;> try exact plain post
  case lst l =>
  have post' : RPost G W t2 σ Q (match stIns st2 n with
    | some _ => inWalk Os Cs n l st2
    | none => o (.ptr n) (.lst l) st2) := post
  cases hi : stIns st2 n with
  | none => rw [hi] at post'; exact plain post'
  | some cl =>
    rw [hi] at post'
    obtain ⟨a, rfl, hp⟩ := hx.ptr
    refine .inr ?_
    rcases hy with h | ⟨p, vs, l', rfl, hl', hpp, il, hnot⟩
    · cases h with
      | lst h1 h2 => exact ⟨_, _, rfl, k2.sf _ _ h1, in_walk T T2 l _ t2 st2 k2 hp (fun t' g => g.sf _ _ (g.f _ _ h1)) h2 post'⟩
    · cases hl'
      exact ⟨p, vs, rfl, hpp, in_walk T T2 l _ t2 st2 k2 hp (fun t' g => g.h _ _ hpp hnot) il post'⟩
theorem v_inO {o : D → D → Sto → ER} {r : R2} {ta tb : TE} {f g : En → ER} (hr : DOp G r o) (T : EqOk G Os Cs) (T2 : InOk G Os) (ha : DEv G W ta f) (hb : DEv G W tb g) : DEv G W (tOp (rOr r (rInX (rIt G Os))) ta tb) (dInO Os Cs o f g) := by
  intro s t σ e st E k Q post
  refine ha s t σ e st E k _ ?_
  unfold dInO at post
  cases q : f ⟨e, st⟩ with
  | exc c l st1 => rw [q] at post; exact post
  | bad => rw [q] at post; exact post
  | val m x st1 =>
    rw [q] at post
    intro t1 v g1 k1 o1
    have post : RPost G W t1 σ Q (match g ⟨e, st1⟩ with
      | .val _ y st1 => inO2 Os Cs o x y st1
      | .exc c l st => .exc c l st
      | .bad => .bad) := RPost.step g1 k1 post
    refine hb s t1 σ e st1 (E.up g1) k1 _ ?_
    cases q2 : g ⟨e, st1⟩ with
    | exc c l st2 => rw [q2] at post; exact post
    | bad => rw [q2] at post; exact post
    | val m2 y st2 =>
      rw [q2] at post
      intro t2 u g2 k2 o2
      exact in_o2 hr T T2 k2 ((o1.up g2).u) o2.u (RPost.step g2 k2 post)
end
end Dn
namespace Dn
open PySem PySem.Spec PyProof.Rows L2
section
variable {K : PySem.W.Frag}
theorem dfl_none {dV : Value} (h : DflV K dV []) : dV = .none := by
  rcases h with ⟨_, h⟩ | ⟨h, _⟩
  · exact h
  · exact absurd rfl h
abbrev DefB (K : PySem.W.Frag) (x qual : Str) (st : Stmt) (f : Addr) : Prop := (∃ (oc : Value) (od : Option Addr) (kV doc pm : Value) (an : Option Addr) (cdv ct : Value) (osl : Array (Option Value)), K.lookup f = some ⟨oc, od, .func (PySem.W.fnOf x qual (defArgs st) (defBody st) (defScope st) .none kV doc pm an cdv ct), osl⟩ ∧ PySem.W.codeIn K cdv qual = true) ∧ PySem.W.keepIn K (.ref f) = true
theorem fun_of {x qual : Str} {st : Stmt} {f : Addr} {fd : FuncData} (F : FunD K x qual (defArgs st) (defBody st) (defScope st) [] [] f fd) : DefB K x qual st f := by
  obtain ⟨⟨oc, od, dV, kV, doc, pm, an, cdv, ct, osl, rfl, lk, hcd, hd, _⟩, kp⟩ := F
  obtain rfl := dfl_none hd
  exact ⟨⟨oc, od, kV, doc, pm, an, cdv, ct, osl, lk, hcd⟩, kp⟩
abbrev DefB1 (K : PySem.W.Frag) (x qual : Str) (st : Stmt) (f : Addr) (i : Int) : Prop := (∃ (T : Addr) (oc : Value) (od : Option Addr) (kV doc pm : Value) (an : Option Addr) (cdv ct : Value) (osl : Array (Option Value)) (q : Value) (qd : Option Addr) (t : Tok) (qn : Nat) (qs : Array (Option Value)), K.lookup f = some ⟨oc, od, .func (PySem.W.fnOf x qual (defArgs st) (defBody st) (defScope st) (.ref T) kV doc pm an cdv ct), osl⟩ ∧ PySem.W.codeIn K cdv qual = true ∧ K.lookup T = some ⟨q, qd, .seq ([(.int i t)] : List Value).toArray qn, qs⟩) ∧ PySem.W.keepIn K (.ref f) = true
theorem fun_of1 {x qual : Str} {st : Stmt} {f : Addr} {fd : FuncData} {i : Int} (F : FunD K x qual (defArgs st) (defBody st) (defScope st) [.int i] [] f fd) : DefB1 K x qual st f i := by
  obtain ⟨⟨oc, od, dV, kV, doc, pm, an, cdv, ct, osl, rfl, lk, hcd, hd, _⟩, kp⟩ := F
  rcases hd with ⟨hd, _⟩ | ⟨_, T, o, its, n, rfl, lT, ho, hv⟩
  · cases hd
  · obtain ⟨q, qd, dt, qs⟩ := o
    simp only at ho
    subst ho
    cases hv with
    | cons a b =>
      cases b
      obtain ⟨t, rfl⟩ := a
      exact ⟨⟨T, oc, od, kV, doc, pm, an, cdv, ct, osl, q, qd, t, n, qs, lk, hcd, lT⟩, kp⟩
abbrev DefB0 (K : PySem.W.Frag) (x qual : Str) (st : Stmt) (f : Addr) : Prop := (∃ (T : Addr) (oc : Value) (od : Option Addr) (kV doc pm : Value) (an : Option Addr) (cdv ct : Value) (osl : Array (Option Value)) (q : Value) (qd : Option Addr) (qn : Nat) (qs : Array (Option Value)), K.lookup f = some ⟨oc, od, .func (PySem.W.fnOf x qual (defArgs st) (defBody st) (defScope st) (.ref T) kV doc pm an cdv ct), osl⟩ ∧ PySem.W.codeIn K cdv qual = true ∧ K.lookup T = some ⟨q, qd, .seq ([.none] : List Value).toArray qn, qs⟩) ∧ PySem.W.keepIn K (.ref f) = true
theorem fun_of0 {x qual : Str} {st : Stmt} {f : Addr} {fd : FuncData} (F : FunD K x qual (defArgs st) (defBody st) (defScope st) [.non] [] f fd) : DefB0 K x qual st f := by
  obtain ⟨⟨oc, od, dV, kV, doc, pm, an, cdv, ct, osl, rfl, lk, hcd, hd, _⟩, kp⟩ := F
  rcases hd with ⟨hd, _⟩ | ⟨_, T, o, its, n, rfl, lT, ho, hv⟩
  · cases hd
  · obtain ⟨q, qd, dt, qs⟩ := o
    simp only at ho
    subst ho
    cases hv with
    | cons a b =>
      cases b
      cases a
      exact ⟨⟨T, oc, od, kV, doc, pm, an, cdv, ct, osl, q, qd, n, qs, lk, hcd, lT⟩, kp⟩
abbrev DefB00 (K : PySem.W.Frag) (x qual : Str) (st : Stmt) (f : Addr) : Prop := (∃ (T : Addr) (oc : Value) (od : Option Addr) (kV doc pm : Value) (an : Option Addr) (cdv ct : Value) (osl : Array (Option Value)) (q : Value) (qd : Option Addr) (qn : Nat) (qs : Array (Option Value)), K.lookup f = some ⟨oc, od, .func (PySem.W.fnOf x qual (defArgs st) (defBody st) (defScope st) (.ref T) kV doc pm an cdv ct), osl⟩ ∧ PySem.W.codeIn K cdv qual = true ∧ K.lookup T = some ⟨q, qd, .seq ([.none, .none] : List Value).toArray qn, qs⟩) ∧ PySem.W.keepIn K (.ref f) = true
theorem fun_of00 {x qual : Str} {st : Stmt} {f : Addr} {fd : FuncData} (F : FunD K x qual (defArgs st) (defBody st) (defScope st) [.non, .non] [] f fd) : DefB00 K x qual st f := by
  obtain ⟨⟨oc, od, dV, kV, doc, pm, an, cdv, ct, osl, rfl, lk, hcd, hd, _⟩, kp⟩ := F
  rcases hd with ⟨hd, _⟩ | ⟨_, T, o, its, n, rfl, lT, ho, hv⟩
  · cases hd
  · obtain ⟨q, qd, dt, qs⟩ := o
    simp only at ho
    subst ho
    cases hv with
    | cons a b =>
      cases b with
      | cons a2 b2 =>
        cases b2
        cases a
        cases a2
        exact ⟨⟨T, oc, od, kV, doc, pm, an, cdv, ct, osl, q, qd, n, qs, lk, hcd, lT⟩, kp⟩
def intK (K : PySem.W.Frag) (x : Str) (i : Int) : Bool := match PySem.W.nsIn K mainGlobals x with
  | some (some (.int j _)) => decide (j = i)
  | _ => false
theorem intK_ok {x : Str} {i : Int} (h : intK K x i = true) : ∃ t, PySem.W.nsIn K mainGlobals x = some (some (.int i t)) := by
  unfold intK at h
  split at h
  · rename_i j t e
    rw [e, of_decide_eq_true h]
    exact ⟨_, rfl⟩
  · cases h
def tup2K (K : PySem.W.Frag) (a : Addr) (i j : Int) : Bool := match K.lookup a with
  | some ⟨.type c, _, .seq its _, _⟩ => decide (c = "tuple") && (match its.toList with
    | [.int x _, .int y _] => decide (x = i) && decide (y = j)
    | _ => false)
  | _ => false
theorem tup2K_ok {a : Addr} {i j : Int} (h : tup2K K a i j = true) : ∃ d t0 t1 n s, K.lookup a = some ⟨.type "tuple", d, .seq ([(.int i t0), (.int j t1)] : List Value).toArray n, s⟩ := by
  unfold tup2K at h
  split at h
  · rename_i c d its n s e
    obtain ⟨h1, h2⟩ := He.ba h
    split at h2
    · rename_i x t0 y t1 e2
      obtain ⟨h3, h4⟩ := He.ba h2
      have ei : its = ([(.int i t0), (.int j t1)] : List Value).toArray := by
        rw [← of_decide_eq_true h3, ← of_decide_eq_true h4, ← e2]
      rw [e, of_decide_eq_true h1, ei]
      exact ⟨_, _, _, _, _, rfl⟩
    · cases h2
  · cases h
end
theorem walkLE {k : Nat} (hk : Room k callerA) {l : PySem.W.OpenLaw} {q : Program} {loose : List Str} {XP : (Str → Option Value) → Heap → Prop} {YP : World → Heap → Prop} {d : DefRec} {x : Str} (hn : l.most = some 63) (hdf : d.params.defaults = [])
    (F : ∀ (w : World) (mg : Str → Option Value) (fa : Addr) (h : Heap), YP w h → h.Ns mainGlobals mg → mg d.name = some (.ref fa) →
      ∃ K : PySem.W.Frag, K.In h ∧ ∃ fd : FuncData, (∀ (s : Shared) (u : Value), BindsTo s fd ⟨[u], []⟩ [(x, u)]) ∧ ∀ base : Heap, K.In base → base.Ns mainGlobals mg → FnOk l.prog w K mg base (L2.CX l.prog w) k fa fd [x] (spLaw K)) :
    PySem.W.WalkO q loose XP YP l.row.toRowW d [] (fun f vs => PySem.call f vs) :=
  LamX.walk_ofTsE (n := 63) (k := k) (x := x) (CX := fun w => L2.CX l.prog w) hn (by decide) hdf hk (fun w mg fa h Y hG hmg => by
    obtain ⟨K, KX, fd, h4, h5⟩ := F w mg fa h Y hG hmg
    exact ⟨K, KX, fd, [], spLaw K, (fun p m => by cases m), (fun p m => by cases m), (fun p m => by cases m), h4, (fun H a ns hl hb hT hS => ⟨a, ns, rfl, hS, hl, hb, fun _ => rfl⟩), fun base h1 h2 _ => h5 base h1 h2⟩) fun w H s e s' h => by
    obtain ⟨_, _, _, _, _, _, _, _, _, _, _, _, z⟩ := h
    exact z.elim
structure Ch where
  fn : List He.DefD
  tf : List He.Defn
  ex : PySem.W.Frag → Bool
def obsC (as : List Addr) (g : Addr → Option Obj) (c : Ch) : He.AlD × Bool := (He.obsD [] c.fn (He.frT g as), c.ex (He.frT g as) && He.tabsB g c.tf (He.frT g as))
def valC (c : Ch) : He.AlD × Bool := (He.valD c.fn, true)
structure SaysC (h : Heap) (K : PySem.W.Frag) (c : Ch) : Prop where
  d : He.SaysD [] c.fn K
  more : c.ex K = true
  tabs : ∀ p ∈ c.tf, PySem.W.codeHdIn K (He.cT K p).1 (He.cT K p).2 = true ∧ K.lookup (He.cT K p).2 = none ∧ h.get? (He.cT K p).2 = some { cls := .none, data := .fields #[] }
theorem saysC_of {as : List Addr} {h : Heap} {c : Ch} (e : obsC as h.get? c = valC c) : SaysC h (He.frT h.get? as) c := by
  have e2 := congrArg Prod.snd e
  obtain ⟨x, y⟩ := He.ba (show (c.ex (He.frT h.get? as) && He.tabsB h.get? c.tf (He.frT h.get? as)) = true from e2)
  refine ⟨congrArg Prod.fst e, x, fun p hp => ?_⟩
  obtain ⟨y1, y2⟩ := He.ba (List.all_eq_true.mp y p hp)
  split at y2
  · rename_i o ho
    exact ⟨y1, He.frT_none ho y2, by rw [ho, He.emptyTab_eq y2]⟩
  · cases y2
def hookL (as : List Addr) (cs : List Ch) : PySem.W.Hook where
  α := List (He.AlD × Bool)
  obs := fun s => cs.map (obsC as s.heap.get?)
  val := fun _ => cs.map valC
  says := fun _ h => ∃ K : PySem.W.Frag, K.In h ∧ ∀ c ∈ cs, SaysC h K c
  of := fun _ s e => ⟨He.frT s.heap.get? as, He.frT_in, fun c hc => saysC_of (by
    obtain ⟨i, hi, rfl⟩ := List.mem_iff_getElem.mp hc
    have e2 : (cs.map (obsC as s.heap.get?))[i]? = (cs.map valC)[i]? := by rw [e]
    rw [List.getElem?_map, List.getElem?_map, List.getElem?_eq_getElem hi] at e2
    exact Option.some.inj e2)⟩
  keeps := fun _ _ _ ⟨K, hK, c⟩ k => ⟨K, PySem.W.Frag.In.keeps hK k, fun x hx => ⟨(c x hx).d, (c x hx).more, fun p hp => ⟨((c x hx).tabs p hp).1, ((c x hx).tabs p hp).2.1, k _ _ ((c x hx).tabs p hp).2.2⟩⟩⟩
def obL (as : List Addr) (cs : List Ch) (s : PySem.W.SharedT) : List (He.AlD × Bool) := cs.map (obsC as (HandSHeadRun.getT s))
theorem obL_eq (as : List Addr) (cs : List Ch) (s : PySem.W.SharedT) : obL as cs s = (hookL as cs).obs s.abs := by
  have e : HandSHeadRun.getT s = s.abs.heap.get? := funext (HandSHeadRun.getT_eq s)
  show cs.map (obsC as (HandSHeadRun.getT s)) = cs.map (obsC as s.abs.heap.get?)
  rw [e]
section
open PySem.W PySem.Calls HandSHeadRun
noncomputable abbrev topEnd (r : OpenRow) (M : Nat) (w : World) (os : OsState) : Option SharedT := endF (stepQ (denQ tabQ) r.prog w) M r.prog w os
def RunX (r : OpenRow) (q : Program) (M : Nat) (loose : List PySem.Str) (w : World) (as : List Addr) (cs : List Ch) : Prop := ∀ os : OsState, (topEnd r M w os).map (fun s => ((looksF r.prog (boot_heap w.params) s.abs, seenQ q loose (importedModules r.prog.main.body) (fun s => xlAt q [] s && recOk r.toRowW.records s) s.abs), cs.map (obsC as (getT s)))) = some ((true, openGood q loose), cs.map valC)
theorem run_one {r : OpenRow} {q : Program} {M : Nat} {loose : List PySem.Str} {w : World} {as : List Addr} {cs : List Ch} (a : RunX r q M loose w as cs) : RunEq r q (hookL as cs) (obL as cs) M loose w := by
  intro os
  have a1 := a os
  show (topEnd r M w os).map _ = _
  cases e : topEnd r M w os with
  | none =>
    rw [e] at a1
    cases a1
  | some s =>
    rw [e] at a1
    have a2 := Option.some.inj a1
    obtain ⟨a5, a6⟩ := Prod.mk.inj a2
    obtain ⟨a3, a4⟩ := Prod.mk.inj a5
    have b2 : obL as cs s = cs.map valC := a6
    dsimp only [Option.map_some]
    rw [a3, a4, b2]
    rfl
end
end Dn
namespace Dn
open PySem PySem.Spec PyProof.Rows L2
theorem log2_lt {n k : Nat} (hk : 0 < k) (h : n < 2 ^ k) : n.log2 < k := by
  by_cases z : n = 0
  · subst z; simpa using hk
  · exact (Nat.log2_lt z).mpr h
theorem log2_mono {n m k : Nat} (hk : m.log2 < k) (h : n ≤ m) : n.log2 < k := by
  by_cases z : n = 0
  · subst z
    have : Nat.log2 0 = 0 := by decide
    omega
  · exact (Nat.log2_lt z).mpr (Nat.lt_of_le_of_lt h (by
      by_cases zm : m = 0
      · omega
      · exact (Nat.log2_lt zm).mp hk))
theorem mul_ok {i j : Int} {a b : Nat} (ha : i.natAbs < 2 ^ a) (hb : j.natAbs < 2 ^ b) (h : a + b ≤ 1000000) (h0 : 0 < a) (h1 : 0 < b) : i.natAbs.log2 + j.natAbs.log2 < 1000000 := by
  have := log2_lt h0 ha
  have := log2_lt h1 hb
  omega
theorem e_wh {c : En → ER} {b : En → SR} {n : Nat} {e : DE} {st st1 : Sto} {m : Md} {x : Bool} (h : c ⟨e, st⟩ = .val m (.bl x) st1) : whN c b (n + 1) ⟨e, st⟩ = if x = true then (match b ⟨e, st1⟩ with
      | .nx e' => whN c b n e'
      | .ct e' => whN c b n e'
      | .bk e' => some (.nx e')
      | r => some r) else some (.nx ⟨e, st1⟩) := by
  rw [whN]
  rw [h]
  cases x <;> rfl
def InR : List Int → List Int → Prop
  | [], [] => True
  | a :: l, b :: s => (0 ≤ a ∧ a < b) ∧ InR l s
  | _, _ => False
theorem InR.cons {l s : List Int} {b : Int} (h : InR l (b :: s)) : ∃ a l', l = a :: l' ∧ 0 ≤ a ∧ a < b ∧ InR l' s := by
  cases l with
  | nil => exact h.elim
  | cons a l => exact ⟨a, l, rfl, h.1.1, h.1.2, h.2⟩
theorem InR.nil {l : List Int} (h : InR l []) : l = [] := by
  cases l with
  | nil => rfl
  | cons a l => exact h.elim
theorem InR.len : ∀ {l s : List Int}, InR l s → l.length = s.length
  | [], [], _ => rfl
  | a :: l, b :: s, h => congrArg Nat.succ (InR.len h.2)
  | [], _ :: _, h => h.elim
  | _ :: _, [], h => h.elim
theorem gcd_wh (st : Sto) : ∀ (b a : Nat), ∃ n, whN (dOp oGt (dVar 1) (dC (.int 0))) (sPar 0 1 (aCons (dVar 1) (aCons (dOp oMod (dVar 0) (dVar 1)) aNil))) n ⟨[.val (.int a), .val (.int b)], st⟩ = some (.nx ⟨[.val (.int (Nat.gcd a b)), .val (.int 0)], st⟩) := by
  intro b
  induction b using Nat.strongRecOn with
  | ind b ih =>
    intro a
    by_cases hb : b = 0
    · subst hb
      refine ⟨1, ?_⟩
      rw [e_wh (x := false) (m := .P) (st1 := st) (by simp)]
      simp
    · obtain ⟨n, hn⟩ := ih (a % b) (Nat.mod_lt _ (Nat.pos_of_ne_zero hb)) b
      refine ⟨n + 1, ?_⟩
      rw [e_wh (x := true) (m := .P) (st1 := st) (by simp; omega)]
      have hm : (a : Int).fmod (b : Int) = ((a % b : Nat) : Int) := by
        rw [Int.fmod_eq_emod_of_nonneg _ (Int.natCast_nonneg b)]
        rfl
      have hb' : ¬ (b : Int) = 0 := by omega
      simp only [if_true, e_sPar, e_aCons, e_aNil, e_dVar, e_dOp, List.getElem?_cons_succ, List.getElem?_cons_zero, ER.bind_val, e_oMod_1, cons_P, acons_ok, ne_eq, hb', not_false_eq_true, Bool.and_self, List.set_cons_zero, List.set_cons_succ, hm]
      rw [hn]
      have : Nat.gcd a b = Nat.gcd b (a % b) := by
        rw [Nat.gcd_comm a b, Nat.gcd_rec b a, Nat.gcd_comm]
      rw [this]
theorem gcd_while (a b : Nat) (st : Sto) : sWhile (dOp oGt (dVar 1) (dC (.int 0))) (sPar 0 1 (aCons (dVar 1) (aCons (dOp oMod (dVar 0) (dVar 1)) aNil))) ⟨[.val (.int a), .val (.int b)], st⟩ = .nx ⟨[.val (.int (Nat.gcd a b)), .val (.int 0)], st⟩ := by
  obtain ⟨n, h⟩ := gcd_wh st b a
  exact sWhile_eq h
theorem absI (a : Int) : (if a < 0 then -a else a) = ((a.natAbs : Nat) : Int) := by split <;> omega
end Dn
namespace Dn
open PySem PySem.Spec PyProof.Rows L2
def dF (q : Rat) : D := .tup [.int q.num, .int q.den]
theorem bit_mul {x y : Int} {m n : Nat} (h1 : x.natAbs < 2 ^ m) (h2 : y.natAbs < 2 ^ n) : (x * y).natAbs < 2 ^ (m + n) := by
  rw [Int.natAbs_mul, Nat.pow_add]
  exact Nat.mul_lt_mul_of_lt_of_lt h1 h2
theorem bit_up {x : Int} {m n : Nat} (h1 : x.natAbs < 2 ^ m) (h : m ≤ n) : x.natAbs < 2 ^ n := Nat.lt_of_lt_of_le h1 (Nat.pow_le_pow_right (by decide) h)
theorem bit_add {x y : Int} {m n : Nat} (h1 : x.natAbs < 2 ^ m) (h2 : y.natAbs < 2 ^ n) : (x + y).natAbs < 2 ^ (max m n + 1) := by
  have a := bit_up h1 (Nat.le_max_left m n)
  have b := bit_up h2 (Nat.le_max_right m n)
  rw [Nat.pow_succ]; omega
theorem bit_sub {x y : Int} {m n : Nat} (h1 : x.natAbs < 2 ^ m) (h2 : y.natAbs < 2 ^ n) : (x - y).natAbs < 2 ^ (max m n + 1) := by
  have a := bit_up h1 (Nat.le_max_left m n)
  have b := bit_up h2 (Nat.le_max_right m n)
  rw [Nat.pow_succ]; omega
theorem bit_log {x : Int} {m n : Nat} (h1 : x.natAbs < 2 ^ m) (h : m < n) : x.natAbs.log2 < n := by
  by_cases z : x.natAbs = 0
  · rw [z]
    have : Nat.log2 0 = 0 := by decide
    omega
  · exact (Nat.log2_lt z).mpr (Nat.lt_of_lt_of_le h1 (Nat.pow_le_pow_right (by decide) (by omega)))
theorem bit_log2 {x y : Int} {m n : Nat} (h1 : x.natAbs < 2 ^ m) (h2 : y.natAbs < 2 ^ n) (h : m + n + 2 ≤ 1000000) : x.natAbs.log2 + y.natAbs.log2 < 1000000 := by
  have := bit_log h1 (Nat.lt_succ_self m)
  have := bit_log h2 (Nat.lt_succ_self n)
  omega
theorem low_num (t b : Int) (hb : b ≠ 0) : t.fdiv (if b < 0 then -(Int.gcd t b : Int) else (Int.gcd t b : Int)) = (Rat.divInt t b).num ∧ b.fdiv (if b < 0 then -(Int.gcd t b : Int) else (Int.gcd t b : Int)) = ((Rat.divInt t b).den : Int) := by
  have hg : Int.gcd t b ≠ 0 := fun h => hb (Int.gcd_eq_zero_iff.mp h).2
  obtain ⟨q, hq⟩ := Int.gcd_dvd_left (a := t) (b := b)
  obtain ⟨r, hr⟩ := Int.gcd_dvd_right (a := t) (b := b)
  rw [Rat.num_divInt, Rat.den_divInt, if_neg hb, Int.gcd_comm b t]
  generalize Int.gcd t b = g at *
  have hg' : (g : Int) ≠ 0 := by omega
  have hgn : 0 < g := by omega
  subst hq
  have hr0 : r ≠ 0 := fun z => hb (by rw [hr, z]; simp)
  have hrn : (b.natAbs / g : Nat) = r.natAbs := by rw [hr, Int.natAbs_mul]; simp [Nat.mul_div_cancel_left _ hgn]
  rw [hrn]
  by_cases hn : b < 0
  · have rn : r < 0 := by
      by_cases z : r < 0
      · exact z
      · have := Int.mul_nonneg (show (0 : Int) ≤ g by omega) (show 0 ≤ r by omega)
        omega
    rw [if_pos hn, Int.sign_eq_neg_one_of_neg hn, hr]
    constructor
    · rw [show (g : Int) * q = -(g : Int) * (-q) by grind, Int.mul_fdiv_cancel_left _ (by omega)]
      rw [show -1 * (-(g : Int) * -q) = (g : Int) * (-q) by grind, Int.mul_ediv_cancel_left _ hg']
    · rw [show (g : Int) * r = -(g : Int) * (-r) by grind, Int.mul_fdiv_cancel_left _ (by omega)]
      omega
  · have rn : 0 < r := by
      by_cases z : 0 < r
      · exact z
      · have := Int.mul_nonpos_of_nonneg_of_nonpos (show (0 : Int) ≤ g by omega) (show r ≤ 0 by omega)
        omega
    rw [if_neg hn, Int.sign_eq_one_of_pos (by omega), hr]
    constructor
    · rw [Int.mul_fdiv_cancel_left _ hg', Int.one_mul, Int.mul_ediv_cancel_left _ hg']
    · rw [Int.mul_fdiv_cancel_left _ hg']
      omega
theorem sgd_log {t b : Int} (hb : b ≠ 0) {k : Nat} (h : b.natAbs.log2 < k) : ¬ Int.gcd t b = 0 ∧ (Int.gcd t b).log2 < k := by
  have h1 : Int.gcd t b ≤ b.natAbs := Nat.le_of_dvd (by omega) (Int.gcd_dvd_natAbs_right t b)
  exact ⟨fun h => hb (Int.gcd_eq_zero_iff.mp h).2, log2_mono h h1⟩
def Sz (n : Nat) (q : Rat) : Prop := q.num.natAbs < 2 ^ n ∧ q.den < 2 ^ n
theorem Sz.up {m n : Nat} {q : Rat} (h : Sz m q) (k : m ≤ n) : Sz n q := ⟨bit_up h.1 k, Nat.lt_of_lt_of_le h.2 (Nat.pow_le_pow_right (by decide) k)⟩
theorem Sz.den {n : Nat} {q : Rat} (h : Sz n q) : (q.den : Int).natAbs < 2 ^ n := by simpa using h.2
theorem Sz.mk {n : Nat} {t b : Int} (h1 : t.natAbs < 2 ^ n) (h2 : b.natAbs < 2 ^ n) (hb : b ≠ 0) : Sz n (Rat.divInt t b) := by
  refine ⟨?_, ?_⟩
  · rw [Rat.num_divInt]
    refine Nat.lt_of_le_of_lt ?_ h1
    have : (b.sign * t / ((b.gcd t : Nat) : Int)).natAbs ≤ (b.sign * t).natAbs := Int.natAbs_ediv_le_natAbs _ _
    refine Nat.le_trans this ?_
    rw [Int.natAbs_mul]
    have : b.sign.natAbs ≤ 1 := by
      rcases Int.lt_trichotomy b 0 with z | z | z
      · rw [Int.sign_eq_neg_one_of_neg z]; decide
      · exact absurd z hb
      · rw [Int.sign_eq_one_of_pos z]; decide
    calc b.sign.natAbs * t.natAbs ≤ 1 * t.natAbs := Nat.mul_le_mul_right _ this
      _ = t.natAbs := Nat.one_mul _
  · rw [Rat.den_divInt, if_neg hb]
    exact Nat.lt_of_le_of_lt (Nat.div_le_self _ _) h2
theorem den_pos (q : Rat) : 0 < (q.den : Int) := by have := q.den_nz; omega
theorem q_eq (q : Rat) : q = Rat.divInt q.num q.den := (Rat.num_divInt_den q).symm
theorem q_add (a b : Rat) : a + b = Rat.divInt (a.num * b.den + b.num * a.den) (a.den * b.den) := by
  conv => lhs; rw [q_eq a, q_eq b]
  rw [Rat.divInt_add_divInt _ _ (by have := den_pos a; omega) (by have := den_pos b; omega)]
theorem q_sub (a b : Rat) : a - b = Rat.divInt (a.num * b.den - b.num * a.den) (a.den * b.den) := by
  conv => lhs; rw [q_eq a, q_eq b]
  rw [Rat.divInt_sub_divInt _ _ (by have := den_pos a; omega) (by have := den_pos b; omega)]
theorem q_mul (a b : Rat) : a * b = Rat.divInt (a.num * b.num) (a.den * b.den) := by
  conv => lhs; rw [q_eq a, q_eq b]
  rw [Rat.divInt_mul_divInt]
theorem q_div (a b : Rat) : a / b = Rat.divInt (a.num * b.den) (a.den * b.num) := by
  conv => lhs; rw [q_eq a, q_eq b]
  rw [Rat.div_def, Rat.inv_divInt, Rat.divInt_mul_divInt]
theorem den2 (a b : Rat) : (a.den : Int) * b.den ≠ 0 := Int.mul_ne_zero (by have := den_pos a; omega) (by have := den_pos b; omega)
theorem Sz.add {m n : Nat} {a b : Rat} (h : Sz m a) (k : Sz n b) : Sz (m + n + 1) (a + b) := by
  rw [q_add]
  have x := bit_mul h.1 k.den
  have y := bit_mul k.1 h.den
  rw [Nat.add_comm n m] at y
  have z := bit_add x y
  rw [Nat.max_self] at z
  exact Sz.mk z (bit_up (bit_mul h.den k.den) (by omega)) (den2 a b)
theorem Sz.sub {m n : Nat} {a b : Rat} (h : Sz m a) (k : Sz n b) : Sz (m + n + 1) (a - b) := by
  rw [q_sub]
  have x := bit_mul h.1 k.den
  have y := bit_mul k.1 h.den
  rw [Nat.add_comm n m] at y
  have z := bit_sub x y
  rw [Nat.max_self] at z
  exact Sz.mk z (bit_up (bit_mul h.den k.den) (by omega)) (den2 a b)
theorem Sz.mul {m n : Nat} {a b : Rat} (h : Sz m a) (k : Sz n b) : Sz (m + n) (a * b) := by
  rw [q_mul]
  exact Sz.mk (bit_mul h.1 k.1) (bit_mul h.den k.den) (den2 a b)
theorem num_ne {b : Rat} (h : b ≠ 0) : b.num ≠ 0 := fun z => h (Rat.num_eq_zero.mp z)
theorem Sz.div {m n : Nat} {a b : Rat} (h : Sz m a) (k : Sz n b) (hb : b ≠ 0) : Sz (m + n) (a / b) := by
  rw [q_div]
  exact Sz.mk (bit_mul h.1 k.den) (bit_mul h.den k.1) (Int.mul_ne_zero (by have := den_pos a; omega) (num_ne hb))
theorem Sz.neg {m : Nat} {a : Rat} (h : Sz m a) : Sz m (-a) := ⟨by simpa using h.1, by simpa using h.2⟩
theorem two_pow_gt (n : Nat) : 1 < 2 ^ (n + 1) := by have := Nat.one_le_two_pow (n := n); rw [Nat.pow_succ]; omega
theorem Sz.int {m : Nat} {a : Int} (h : a.natAbs < 2 ^ m) : Sz (m + 1) (a : Rat) := ⟨bit_up (m := m) (by simpa using h) (by omega), by simpa using two_pow_gt m⟩
theorem sz0 {n : Nat} : Sz (n + 1) 0 := ⟨by simp [Nat.two_pow_pos], by simpa using two_pow_gt n⟩
theorem sz1 {n : Nat} : Sz (n + 1) 1 := ⟨by simpa using two_pow_gt n, by simpa using two_pow_gt n⟩
@[simp] theorem dF_0 : D.tup [.int 0, .int 1] = dF 0 := rfl
@[simp] theorem dF_1 : D.tup [.int 1, .int 1] = dF 1 := rfl
theorem dF_int (w : Int) : D.tup [.int w, .int 1] = dF (w : Rat) := rfl
@[simp] theorem ix0_dF {q : Rat} {st : Sto} : oIx (dF q) (.int 0) st = .val .P (.int q.num) st := by simp [dF, atI, ixN]
@[simp] theorem ix1_dF {q : Rat} {st : Sto} : oIx (dF q) (.int 1) st = .val .P (.int q.den) st := by simp [dF, atI, ixN]
@[simp] theorem len_dF {q : Rat} {st : Sto} : oLen [dF q] st = .val .P (.int 2) st := rfl
@[simp] theorem items_dF {q : Rat} : itemsOf (dF q) = some [.int q.num, .int q.den] := rfl
@[simp] theorem tup_dF {q : Rat} {st : Sto} : isT "tuple" (dF q) st = .val .P (.bl true) st := by simp [dF]
theorem dF_inj {a b : Rat} : dF a = dF b ↔ a = b := by
  constructor
  · intro h
    unfold dF at h
    injection h with h
    injection h with h1 h2
    injection h2 with h2 h3
    injection h1 with h1
    injection h2 with h2
    exact Rat.ext h1 (by omega)
  · rintro rfl; rfl
theorem q_eq_iff (a b : Rat) : a = b ↔ a.num = b.num ∧ a.den = b.den := ⟨fun h => by subst h; exact ⟨rfl, rfl⟩, fun h => Rat.ext h.1 h.2⟩
@[simp] theorem eq_dF {a b : Rat} {st : Sto} : oEq (dF a) (dF b) st = .val .P (.bl (decide (a = b))) st := by
  have : decide (a = b) = decide (a.num = b.num ∧ (a.den : Int) = b.den) := by
    rw [decide_eq_decide, q_eq_iff]
    omega
  rw [this]
  simp [dF]
@[simp] theorem ne_dF {a b : Rat} {st : Sto} : oNe (dF a) (dF b) st = .val .P (.bl (!decide (a = b))) st := by
  have : decide (a = b) = decide (a.num = b.num ∧ (a.den : Int) = b.den) := by
    rw [decide_eq_decide, q_eq_iff]
    omega
  rw [this]
  simp [dF]
theorem lt_num (a b : Rat) : a.num * b.den < b.num * a.den ↔ a < b := (Rat.lt_iff a b).symm
end Dn
namespace Dn
open PySem PySem.Spec PyProof.Rows L2
theorem for_inv {b : D → En → SR} (I : Nat → En → Prop) : ∀ (xs : List D) (k : Nat) (E : En), (∀ i x E, xs[i]? = some x → I (k + i) E → ∃ E', (b x E = .nx E' ∨ b x E = .ct E') ∧ I (k + i + 1) E') → I k E → ∃ E', forD b xs E = .nx E' ∧ I (k + xs.length) E'
  | [], k, E, _, h => ⟨E, rfl, h⟩
  | x :: xs, k, E, hb, h => by
    obtain ⟨E1, h1, h2⟩ := hb 0 x E rfl h
    obtain ⟨E2, h3, h4⟩ := for_inv I xs (k + 1) E1 (fun i y E hy hI => by
      have := hb (i + 1) y E (by simpa using hy) (by rw [show k + (i + 1) = k + 1 + i by omega]; exact hI)
      rw [show k + 1 + i + 1 = k + (i + 1) + 1 by omega]
      exact this) h2
    refine ⟨E2, ?_, by rw [List.length_cons, show k + (xs.length + 1) = k + 1 + xs.length by omega]; exact h4⟩
    rcases h1 with h1 | h1 <;> simp only [e_forC, h1, h3]
theorem for_map {α : Type} {b : D → En → SR} {enc : α → D} (I : List α → En → Prop) (xs : List α) : ∀ (done : List α) (ys : List α) (E : En), xs = done ++ ys → (∀ done a ys E, xs = done ++ a :: ys → I done E → ∃ E', (b (enc a) E = .nx E' ∨ b (enc a) E = .ct E') ∧ I (done ++ [a]) E') → I done E → ∃ E', forD b (ys.map enc) E = .nx E' ∧ I xs E'
  | done, [], E, e, _, h => ⟨E, rfl, by rw [e, List.append_nil]; exact h⟩
  | done, a :: ys, E, e, hb, h => by
    obtain ⟨E1, h1, h2⟩ := hb done a ys E e h
    obtain ⟨E2, h3, h4⟩ := for_map I xs (done ++ [a]) ys E1 (by rw [e]; simp) hb h2
    refine ⟨E2, ?_, h4⟩
    rcases h1 with h1 | h1 <;> simp only [List.map_cons, e_forC, h1, h3]
theorem lc_map {α : Type} {k : D → Sto → Option (Option D × Sto)} {enc f : α → D} {st : Sto} : ∀ {l : List α}, (∀ a ∈ l, k (enc a) st = some (some (f a), st)) → lcGo k (l.map enc) st = some (l.map f, st)
  | [], _ => rfl
  | a :: l, h => by
    rw [List.map_cons, e_lcC, h a (List.mem_cons_self ..), Option.bind_some, lc_map (fun a m => h a (List.mem_cons_of_mem _ m))]
    rfl
@[simp] theorem intsOf_map {α : Type} (f : α → Int) : ∀ l : List α, intsOf (l.map fun a => .int (f a)) = some (l.map f)
  | [] => rfl
  | a :: l => by simp [intsOf, intsOf_map f l]
mutual
def pur : D → Bool
  | .non | .int _ => true
  | .str x => PyData.strOk x
  | .tup l => purL l
  | .lst l => purL l
  | _ => false
def purL : List D → Bool
  | [] => true
  | d :: l => pur d && purL l
end
mutual
def dep : D → Nat
  | .tup l => depL l + 1
  | .lst l => depL l + 1
  | _ => 0
def depL : List D → Nat
  | [] => 0
  | d :: l => max (dep d) (depL l)
end
mutual
theorem pur_py : ∀ d, pur d = true → isPy d = true ∧ PyData.canLay0 (py d) = true ∧ PyData.depth (py d) = dep d
  | .non, _ => ⟨rfl, by simp [py, PyData.canLay0], by simp [py, PyData.depth, dep]⟩
  | .int _, _ => ⟨rfl, by simp [py, PyData.canLay0], by simp [py, PyData.depth, dep]⟩
  | .str _, h => ⟨rfl, by simpa [py, PyData.canLay0, pur] using h, by simp [py, PyData.depth, dep]⟩
  | .tup l, h => by
    obtain ⟨a, b, c⟩ := purL_py l (by simpa [pur] using h)
    exact ⟨by simpa [isPy] using a, by simpa [py, PyData.canLay0] using b, by simp [py, PyData.depth, dep, c]⟩
  | .lst l, h => by
    obtain ⟨a, b, c⟩ := purL_py l (by simpa [pur] using h)
    exact ⟨by simpa [isPy] using a, by simpa [py, PyData.canLay0] using b, by simp [py, PyData.depth, dep, c]⟩
  | .bl _, h => by simp [pur] at h
  | .obj _ _, h => by simp [pur] at h
  | .scr _, h => by simp [pur] at h
  | .ptr _, h => by simp [pur] at h
theorem purL_py : ∀ l, purL l = true → isPyL l = true ∧ PyData.canLayAll0 (pyL l) = true ∧ PyData.depthAll (pyL l) = depL l
  | [], _ => ⟨rfl, by simp [pyL, PyData.canLayAll0], by simp [pyL, PyData.depthAll, depL]⟩
  | d :: l, h => by
    have h' : pur d = true ∧ purL l = true := by simpa [purL] using h
    obtain ⟨a, b, c⟩ := pur_py d h'.1
    obtain ⟨a', b', c'⟩ := purL_py l h'.2
    exact ⟨by simp [isPyL, a, a'], by simp [pyL, PyData.canLayAll0, b, b'], by simp [pyL, PyData.depthAll, depL, c, c']⟩
end
mutual
theorem eqv_pur : ∀ a b, pur a = true → pur b = true → (PyData.eqv (py a) (py b) = true ↔ a = b)
  | .non, b, _, hb => by cases b <;> simp [py, PyData.eqv, pur] at hb ⊢
  | .int _, b, _, hb => by cases b <;> simp [py, PyData.eqv, pur] at hb ⊢
  | .str _, b, _, hb => by cases b <;> simp [py, PyData.eqv, pur] at hb ⊢
  | .tup l, b, ha, hb => by
    cases b <;> simp [py, PyData.eqv, pur] at ha hb ⊢
    exact eqvL_pur _ _ ha hb
  | .lst l, b, ha, hb => by
    cases b <;> simp [py, PyData.eqv, pur] at ha hb ⊢
    exact eqvL_pur _ _ ha hb
  | .bl _, _, h, _ => by simp [pur] at h
  | .obj _ _, _, h, _ => by simp [pur] at h
  | .scr _, _, h, _ => by simp [pur] at h
  | .ptr _, _, h, _ => by simp [pur] at h
theorem eqvL_pur : ∀ l m, purL l = true → purL m = true → (PyData.eqvAll (pyL l) (pyL m) = true ↔ l = m)
  | [], [], _, _ => by simp [pyL, PyData.eqvAll]
  | [], _ :: _, _, _ => by simp [pyL, PyData.eqvAll]
  | _ :: _, [], _, _ => by simp [pyL, PyData.eqvAll]
  | a :: l, b :: m, ha, hb => by
    have h1 : pur a = true ∧ purL l = true := by simpa [purL] using ha
    have h2 : pur b = true ∧ purL m = true := by simpa [purL] using hb
    simp only [pyL, PyData.eqvAll, Bool.and_eq_true, eqv_pur a b h1.1 h2.1, eqvL_pur l m h1.2 h2.2, List.cons.injEq]
end
theorem eq_of {a b : D} {p : Prop} [Decidable p] (st : Sto) (ha : pur a = true) (hb : pur b = true) (da : dep a ≤ 64) (db : dep b ≤ 64) (h : a = b ↔ p) : oEq a b st = .val .P (.bl (decide p)) st := by
  obtain ⟨a1, a2, a3⟩ := pur_py a ha
  obtain ⟨b1, b2, b3⟩ := pur_py b hb
  have e := (eqv_pur a b ha hb).trans h
  unfold oEq eqAny
  by_cases s : scalD a b = true
  · rw [if_pos s]
    have : eqF a b = decide p := by
      rw [Bool.eq_iff_iff, decide_eq_true_iff, ← h]
      cases a <;> cases b <;> simp [scalD, eqF] at s ⊢
    rw [this]
  · rw [if_neg s, if_pos ⟨a1, b1, by simp [SeqAt.shaped, a2, a3, da], by simp [SeqAt.shaped, b2, b3, db]⟩]
    have : PyData.eqv (py a) (py b) = decide p := by
      rw [Bool.eq_iff_iff, decide_eq_true_iff, ← e]
    rw [this]
theorem purL_map {α : Type} {enc : α → D} (h : ∀ a, pur (enc a) = true) : ∀ l : List α, purL (l.map enc) = true
  | [] => rfl
  | a :: l => by simp [purL, h a, purL_map h l]
theorem depL_map {α : Type} {enc : α → D} {n : Nat} (h : ∀ a, dep (enc a) ≤ n) : ∀ l : List α, depL (l.map enc) ≤ n
  | [] => by simp [depL]
  | a :: l => by have := depL_map h l; have := h a; simp only [List.map_cons, depL]; omega
theorem map_inj {α : Type} {enc : α → D} (h : ∀ a b, enc a = enc b → a = b) : ∀ l m : List α, l.map enc = m.map enc ↔ l = m
  | [], [] => by simp
  | [], _ :: _ => by simp
  | _ :: _, [] => by simp
  | a :: l, b :: m => by
    simp only [List.map_cons, List.cons.injEq, map_inj h l m]
    exact ⟨fun x => ⟨h a b x.1, x.2⟩, fun x => ⟨by rw [x.1], x.2⟩⟩
theorem eq_lst {α : Type} [DecidableEq α] {enc : α → D} (hp : ∀ a, pur (enc a) = true) (hd : ∀ a, dep (enc a) ≤ 60) (hi : ∀ a b, enc a = enc b → a = b) (l m : List α) (st : Sto) : oEq (.lst (l.map enc)) (.lst (m.map enc)) st = .val .P (.bl (decide (l = m))) st := by
  refine eq_of st (by simp [pur, purL_map hp]) (by simp [pur, purL_map hp]) ?_ ?_ ?_
  · have := depL_map hd l; simp only [dep]; omega
  · have := depL_map hd m; simp only [dep]; omega
  · simp [map_inj hi]
@[simp high] theorem pow10_6 {st : Sto} : oPow (.int 10) (.int 6) st = .val .P (.int 1000000) st := rfl
@[simp high] theorem pow10_8 {st : Sto} : oPow (.int 10) (.int 8) st = .val .P (.int 100000000) st := rfl
@[simp high] theorem pow10_9 {st : Sto} : oPow (.int 10) (.int 9) st = .val .P (.int 1000000000) st := rfl
@[simp high] theorem pow10_12 {st : Sto} : oPow (.int 10) (.int 12) st = .val .P (.int 1000000000000) st := rfl
@[simp high] theorem pow10_18 {st : Sto} : oPow (.int 10) (.int 18) st = .val .P (.int 1000000000000000000) st := rfl
@[simp high] theorem pow10_19 {st : Sto} : oPow (.int 10) (.int 19) st = .val .P (.int 10000000000000000000) st := rfl
@[simp high] theorem pow10_20 {st : Sto} : oPow (.int 10) (.int 20) st = .val .P (.int 100000000000000000000) st := rfl
@[simp high] theorem pow10_26 {st : Sto} : oPow (.int 10) (.int 26) st = .val .P (.int 100000000000000000000000000) st := rfl
@[simp high] theorem pow10_30 {st : Sto} : oPow (.int 10) (.int 30) st = .val .P (.int 1000000000000000000000000000000) st := rfl
@[simp high] theorem pow10_36 {st : Sto} : oPow (.int 10) (.int 36) st = .val .P (.int 1000000000000000000000000000000000000) st := rfl
@[simp high] theorem pow10_39 {st : Sto} : oPow (.int 10) (.int 39) st = .val .P (.int 1000000000000000000000000000000000000000) st := rfl
@[simp high] theorem pow10_40 {st : Sto} : oPow (.int 10) (.int 40) st = .val .P (.int 10000000000000000000000000000000000000000) st := rfl
@[simp high] theorem pow10_45 {st : Sto} : oPow (.int 10) (.int 45) st = .val .P (.int 1000000000000000000000000000000000000000000000) st := rfl
@[simp high] theorem pow10_60 {st : Sto} : oPow (.int 10) (.int 60) st = .val .P (.int 1000000000000000000000000000000000000000000000000000000000000) st := rfl
@[simp high] theorem pow10_180 {st : Sto} : oPow (.int 10) (.int 180) st = .val .P (.int 1000000000000000000000000000000000000000000000000000000000000000000000000000000000000000000000000000000000000000000000000000000000000000000000000000000000000000000000000000000000000) st := rfl
def dRow (r : Int × Int) : D := .tup [.int r.1, .int r.2]
@[simp] theorem tg_row {e : DE} {i j : Nat} {r : Int × Int} : tgT 2 (tgsCons (tgN i) (tgsCons (tgN j) tgsNil)) (dRow r) e = some ((e.set i (.val (.int r.1))).set j (.val (.int r.2))) := by simp [dRow]
@[simp] theorem ix0_row {r : Int × Int} {st : Sto} : oIx (dRow r) (.int 0) st = .val .P (.int r.1) st := by simp [dRow, atI, ixN]
@[simp] theorem ix1_row {r : Int × Int} {st : Sto} : oIx (dRow r) (.int 1) st = .val .P (.int r.2) st := by simp [dRow, atI, ixN]
theorem dRow_inj (a b : Int × Int) (h : dRow a = dRow b) : a = b := by
  unfold dRow at h
  injection h with h
  injection h with h1 h2
  injection h2 with h2 h3
  injection h1 with h1
  injection h2 with h2
  exact Prod.ext h1 h2
@[simp] theorem eq_rows {l m : List (Int × Int)} {st : Sto} : oEq (.lst (l.map dRow)) (.lst (m.map dRow)) st = .val .P (.bl (decide (l = m))) st :=
  eq_lst (fun a => by simp [dRow, pur, purL]) (fun a => by simp [dRow, dep, depL]) dRow_inj l m st
@[simp] theorem ne_rows {l m : List (Int × Int)} {st : Sto} : oNe (.lst (l.map dRow)) (.lst (m.map dRow)) st = .val .P (.bl (!decide (l = m))) st := ne_of_eq eq_rows
theorem pur_dF (q : Rat) : pur (dF q) = true := by simp [dF, pur, purL]
theorem dep_dF (q : Rat) : dep (dF q) ≤ 1 := by simp [dF, dep, depL]
@[simp] theorem eq_Fs {l m : List Rat} {st : Sto} : oEq (.lst (l.map dF)) (.lst (m.map dF)) st = .val .P (.bl (decide (l = m))) st :=
  eq_lst pur_dF (fun a => by have := dep_dF a; omega) (fun a b => dF_inj.mp) l m st
@[simp] theorem ne_Fs {l m : List Rat} {st : Sto} : oNe (.lst (l.map dF)) (.lst (m.map dF)) st = .val .P (.bl (!decide (l = m))) st := ne_of_eq eq_Fs
end Dn
namespace Dn
open PySem PySem.Spec PyProof.Rows L2
theorem sum_nonneg {α : Type} {f : α → Int} : ∀ {l : List α}, (∀ r ∈ l, 0 ≤ f r) → 0 ≤ (l.map f).sum
  | [], _ => by simp
  | a :: l, h => by
    have := sum_nonneg (l := l) (fun r m => h r (List.mem_cons_of_mem _ m))
    have := h a (List.mem_cons_self ..)
    simp; omega
theorem sum_pos {α : Type} {f : α → Int} : ∀ {l : List α} {a : α}, (∀ r ∈ l, 0 ≤ f r) → a ∈ l → 0 < f a → 0 < (l.map f).sum
  | b :: l, a, h, m, p => by
    have n := sum_nonneg (l := l) (fun r m => h r (List.mem_cons_of_mem _ m))
    have nb := h b (List.mem_cons_self ..)
    rcases List.mem_cons.mp m with rfl | m
    · simp; omega
    · have := sum_pos (fun r m => h r (List.mem_cons_of_mem _ m)) m p
      simp; omega
theorem sum_le {α : Type} {f : α → Int} {c : Int} : ∀ {l : List α}, (∀ r ∈ l, f r ≤ c) → (l.map f).sum ≤ c * l.length
  | [], _ => by simp
  | a :: l, h => by
    have := sum_le (l := l) (fun r m => h r (List.mem_cons_of_mem _ m))
    have := h a (List.mem_cons_self ..)
    rw [List.map_cons, List.sum_cons, List.length_cons, Int.natCast_add, Int.mul_add]; omega
def RowOk (r : Int × Int) : Prop := 1 ≤ r.1 ∧ r.1 ≤ 999 ∧ 0 ≤ r.2 ∧ r.2 ≤ 999999999
def RowsOk (m : Nat) (rows : List (Int × Int)) : Prop := 1 ≤ rows.length ∧ rows.length ≤ m ∧ (∀ r ∈ rows, RowOk r) ∧ (rows.map (·.2)).sum ≠ 0
theorem RowsOk.up {m n : Nat} {rows : List (Int × Int)} (h : RowsOk m rows) (k : m ≤ n) : RowsOk n rows := ⟨h.1, by have := h.2.1; omega, h.2.2⟩
def pre (rows : List (Int × Int)) (i : Nat) : Int := ((rows.take i).map (·.1)).sum
def wid (rows : List (Int × Int)) : Int := (rows.map (·.1)).sum
theorem pre_len (rows : List (Int × Int)) : pre rows rows.length = wid rows := by simp [pre, wid]
theorem pre_zero (rows : List (Int × Int)) : pre rows 0 = 0 := by simp [pre]
theorem pre_succ {rows : List (Int × Int)} {i : Nat} (h : i < rows.length) : pre rows (i + 1) = pre rows i + rows[i].1 := by
  unfold pre
  rw [List.take_succ_eq_append_getElem h, List.map_append, List.sum_append]
  simp
section
variable {rows : List (Int × Int)} (hr : RowsOk 8 rows)
include hr
theorem row_ok {i : Nat} (h : i < rows.length) : RowOk rows[i] := hr.2.2.1 _ (List.getElem_mem h)
theorem wid_pos : 0 < wid rows := by
  have h0 := hr.1
  have : 0 < rows.length := by omega
  have := sum_pos (f := fun r : Int × Int => r.1) (l := rows) (fun r m => by have := (hr.2.2.1 r m).1; omega) (List.getElem_mem this) (by have := (row_ok hr this).1; omega)
  exact this
theorem wid_le : wid rows ≤ 7992 := by
  have := sum_le (f := fun r : Int × Int => r.1) (c := 999) (l := rows) (fun r m => (hr.2.2.1 r m).2.1)
  have := hr.2.1
  unfold wid
  omega
theorem pre_nonneg (i : Nat) : 0 ≤ pre rows i := sum_nonneg fun r m => by have := (hr.2.2.1 r (List.mem_of_mem_take m)).1; omega
theorem pre_mono {i j : Nat} (h : i ≤ j) : pre rows i ≤ pre rows j := by
  induction j with
  | zero => have : i = 0 := by omega
            subst this; omega
  | succ j ih =>
    by_cases z : i = j + 1
    · subst z; omega
    · have := ih (by omega)
      by_cases hj : j < rows.length
      · have := pre_succ hj
        have := (row_ok hr hj).1
        omega
      · have : pre rows (j + 1) = pre rows j := by unfold pre; rw [List.take_of_length_le (by omega), List.take_of_length_le (by omega)]
        omega
theorem pre_le (i : Nat) : pre rows i ≤ wid rows := by
  rw [← pre_len]
  by_cases h : i ≤ rows.length
  · exact pre_mono hr h
  · unfold pre; rw [List.take_of_length_le (by omega), List.take_length]; omega
end
def bq (rows : List (Int × Int)) (i : Nat) : Rat := Rat.divInt (pre rows i) (wid rows)
def bqs (rows : List (Int × Int)) : List Rat := (List.range (rows.length + 1)).map (bq rows)
theorem q_ltP {a b c d : Int} (hb : 0 < b) (hd : 0 < d) : Rat.divInt a b < Rat.divInt c d ↔ a * d < c * b := by
  have hb' : (0 : Rat) < (b : Rat) := Rat.intCast_pos.mpr hb
  have hd' : (0 : Rat) < (d : Rat) := Rat.intCast_pos.mpr hd
  rw [Rat.divInt_eq_div, Rat.divInt_eq_div, Rat.div_lt_iff hb']
  have : (c : Rat) / d * b = (c * b : Int) / d := by
    rw [Rat.intCast_mul]; grind
  rw [this, Rat.lt_div_iff hd', ← Rat.intCast_mul, Rat.intCast_lt_intCast]
section
variable {rows : List (Int × Int)} (hr : RowsOk 8 rows)
include hr
theorem bq_sz (i : Nat) : Sz 13 (bq rows i) := by
  have h1 := pre_nonneg hr i
  have h2 := pre_le hr i
  have h3 := wid_pos hr
  have h4 := wid_le hr
  exact Sz.mk (by omega) (by omega) (by omega)
theorem bq_zero : bq rows 0 = 0 := by simp [bq, pre_zero]
theorem bq_len : bq rows rows.length = 1 := by
  have h3 := wid_pos hr
  simp only [bq, pre_len]
  exact Rat.divInt_self' (by omega)
theorem bq_lt {i : Nat} (h : i < rows.length) : bq rows i < bq rows (i + 1) := by
  have h3 := wid_pos hr
  have h4 := (row_ok hr h).1
  unfold bq
  rw [q_ltP h3 h3, pre_succ h]
  have := Int.mul_lt_mul_of_pos_right (show pre rows i < pre rows i + rows[i].1 by omega) h3
  exact this
theorem bq_mono {i j : Nat} (h : i ≤ j) : bq rows i ≤ bq rows j := by
  have h3 := wid_pos hr
  rw [← Rat.not_lt]
  unfold bq
  rw [q_ltP h3 h3]
  have := pre_mono hr h
  have := Int.mul_le_mul_of_nonneg_right this (show 0 ≤ wid rows by omega)
  omega
end
def lo (x : Rat) (rows : List (Int × Int)) (i : Nat) : Rat := if x < bq rows i then bq rows i else x
def hi (y : Rat) (rows : List (Int × Int)) (i : Nat) : Rat := if bq rows (i + 1) < y then bq rows (i + 1) else y
def vq (rows : List (Int × Int)) (i : Nat) : Rat := (((rows[i]?.map (·.2)).getD 0 : Int) : Rat)
theorem vq_eq {rows : List (Int × Int)} {i : Nat} (h : i < rows.length) : vq rows i = (rows[i].2 : Rat) := by simp [vq, h]
def wseg (x y : Rat) (rows : List (Int × Int)) (i : Nat) : Rat := vq rows i * ((hi y rows i - lo x rows i) / (bq rows (i + 1) - bq rows i))
def seg (x y : Rat) (rows : List (Int × Int)) (i : Nat) : Option (Rat × Rat × Rat) := if lo x rows i < hi y rows i then some (lo x rows i, hi y rows i, wseg x y rows i) else none
def btw (x y : Rat) (rows : List (Int × Int)) (k : Nat) : List (Rat × Rat × Rat) := (List.range k).filterMap (seg x y rows)
def dSeg (s : Rat × Rat × Rat) : D := .tup [dF s.1, dF s.2.1, dF s.2.2]
def sumR (f : Nat → Rat) : Nat → Rat
  | 0 => 0
  | k + 1 => sumR f k + f k
def wpart (x y : Rat) (rows : List (Int × Int)) (i : Nat) : Rat := if lo x rows i < hi y rows i then wseg x y rows i else 0
def wq (x y : Rat) (rows : List (Int × Int)) : Rat := sumR (wpart x y rows) rows.length
theorem btw_succ (x y : Rat) (rows : List (Int × Int)) (k : Nat) : btw x y rows (k + 1) = btw x y rows k ++ (seg x y rows k).toList := by
  unfold btw
  rw [List.range_succ, List.filterMap_append]
  cases h : seg x y rows k <;> simp [h]
def foldS : List (Rat × Rat × Rat) → Rat
  | [] => 0
  | s :: l => s.2.2 + foldS l
theorem foldS_app : ∀ (l m : List (Rat × Rat × Rat)), foldS (l ++ m) = foldS l + foldS m
  | [], m => by simp [foldS, Rat.zero_add]
  | s :: l, m => by simp [foldS, foldS_app l m, Rat.add_assoc]
theorem btw_sum (x y : Rat) (rows : List (Int × Int)) : ∀ k, foldS (btw x y rows k) = sumR (wpart x y rows) k
  | 0 => rfl
  | k + 1 => by
    rw [btw_succ, foldS_app, btw_sum x y rows k]
    show _ = sumR (wpart x y rows) k + wpart x y rows k
    congr 1
    unfold wpart seg
    split <;> simp [foldS, Rat.add_zero]
theorem sz_if {n : Nat} {c : Prop} [Decidable c] {a b : Rat} (ha : Sz n a) (hb : Sz n b) : Sz n (if c then a else b) := by split <;> assumption
section
variable {rows : List (Int × Int)} (hr : RowsOk 8 rows) {x y : Rat} {s : Nat} (hs : 13 ≤ s)
include hr hs
theorem lo_sz (hx : Sz s x) (i : Nat) : Sz s (lo x rows i) := sz_if ((bq_sz hr i).up hs) hx
theorem hi_sz (hy : Sz s y) (i : Nat) : Sz s (hi y rows i) := sz_if ((bq_sz hr (i + 1)).up hs) hy
theorem vq_sz {i : Nat} (h : i < rows.length) : Sz 31 (vq rows i) := by
  rw [vq_eq h]
  have := row_ok hr h
  obtain ⟨_, _, h1, h2⟩ := this
  exact Sz.int (m := 30) (by omega)
theorem bd_ne {i : Nat} (h : i < rows.length) : bq rows (i + 1) - bq rows i ≠ 0 := by
  have := bq_lt hr h
  grind
theorem wseg_sz (hx : Sz s x) (hy : Sz s y) {i : Nat} (h : i < rows.length) : Sz (2 * s + 59) (wseg x y rows i) := by
  have a := (hi_sz hr hs hy i).sub (lo_sz hr hs hx i)
  have b := (bq_sz hr (i + 1)).sub (bq_sz hr i)
  exact ((vq_sz hr hs h).mul (a.div b (bd_ne hr hs h))).up (by omega)
theorem btw_sz (hx : Sz s x) (hy : Sz s y) : ∀ k, k ≤ rows.length → ∀ z ∈ btw x y rows k, Sz s z.1 ∧ Sz s z.2.1 ∧ Sz (2 * s + 59) z.2.2 ∧ z.1 < z.2.1
  | 0, _ => by simp [btw]
  | k + 1, h => by
    intro z hz
    rw [btw_succ] at hz
    rcases List.mem_append.mp hz with m | m
    · exact btw_sz hx hy k (by omega) z m
    · unfold seg at m
      split at m
      · simp at m; subst m
        exact ⟨lo_sz hr hs hx k, hi_sz hr hs hy k, wseg_sz hr hs hx hy (by omega), by assumption⟩
      · simp at m
end
theorem foldS_sz {n : Nat} : ∀ l : List (Rat × Rat × Rat), (∀ z ∈ l, Sz n z.2.2) → Sz (l.length * (n + 1) + 1) (foldS l)
  | [], _ => sz0
  | s :: l, h => by
    have a := h s (List.mem_cons_self ..)
    have b := foldS_sz l (fun z m => h z (List.mem_cons_of_mem _ m))
    refine (a.add b).up ?_
    rw [List.length_cons, Nat.succ_mul]; omega
end Dn
namespace Dn
open PySem PySem.Spec PyProof.Rows L2
def ovl (x y a b : Rat) : Rat := if (if x < a then a else x) < (if b < y then b else y) then (if b < y then b else y) - (if x < a then a else x) else 0
theorem ovl_add {x y z a b : Rat} (h1 : x ≤ z) (h2 : z ≤ y) (h : a < b) : ovl x z a b + ovl z y a b = ovl x y a b := by
  unfold ovl
  grind
theorem ovl_nonneg (x y a b : Rat) : 0 ≤ ovl x y a b := by
  unfold ovl
  grind
theorem wpart_ovl (x y : Rat) (rows : List (Int × Int)) (i : Nat) : wpart x y rows i = vq rows i / (bq rows (i + 1) - bq rows i) * ovl x y (bq rows i) (bq rows (i + 1)) := by
  show (if lo x rows i < hi y rows i then vq rows i * ((hi y rows i - lo x rows i) / (bq rows (i + 1) - bq rows i)) else 0) = vq rows i / (bq rows (i + 1) - bq rows i) * (if lo x rows i < hi y rows i then hi y rows i - lo x rows i else 0)
  generalize lo x rows i = a
  generalize hi y rows i = b
  by_cases c : a < b
  · rw [if_pos c, if_pos c, Rat.div_def, Rat.div_def]; grind
  · rw [if_neg c, if_neg c, Rat.mul_zero]
theorem sumR_add (f g : Nat → Rat) : ∀ k, sumR (fun i => f i + g i) k = sumR f k + sumR g k
  | 0 => by simp [sumR, Rat.add_zero]
  | k + 1 => by simp only [sumR, sumR_add f g k]; grind
theorem sumR_congr {f g : Nat → Rat} : ∀ {k : Nat}, (∀ i, i < k → f i = g i) → sumR f k = sumR g k
  | 0, _ => rfl
  | k + 1, h => by simp only [sumR]; rw [sumR_congr (fun i hi => h i (by omega)), h k (by omega)]
theorem sumR_nonneg {f : Nat → Rat} : ∀ {k : Nat}, (∀ i, i < k → 0 ≤ f i) → 0 ≤ sumR f k
  | 0, _ => by simp [sumR]
  | k + 1, h => by simp only [sumR]; exact Rat.add_nonneg (sumR_nonneg fun i hi => h i (by omega)) (h k (by omega))
section
variable {rows : List (Int × Int)} (hr : RowsOk 8 rows)
include hr
theorem vq_nonneg (i : Nat) : 0 ≤ vq rows i := by
  by_cases h : i < rows.length
  · rw [vq_eq h]
    exact Rat.intCast_nonneg.mpr (row_ok hr h).2.2.1
  · simp [vq, h]
theorem wq_add {x y z : Rat} (h1 : x ≤ z) (h2 : z ≤ y) : wq x z rows + wq z y rows = wq x y rows := by
  unfold wq
  rw [← sumR_add]
  refine sumR_congr fun i hi => ?_
  rw [wpart_ovl, wpart_ovl, wpart_ovl, ← ovl_add h1 h2 (bq_lt hr hi)]
  grind
theorem wpart_nonneg (x y : Rat) {i : Nat} (h : i < rows.length) : 0 ≤ wpart x y rows i := by
  rw [wpart_ovl]
  refine Rat.mul_nonneg ?_ (ovl_nonneg ..)
  rw [Rat.div_def]
  refine Rat.mul_nonneg (vq_nonneg hr i) (Rat.le_of_lt (Rat.inv_pos.mpr ?_))
  have := bq_lt hr h
  grind
theorem wq_nonneg (x y : Rat) : 0 ≤ wq x y rows := sumR_nonneg fun i hi => wpart_nonneg hr x y hi
theorem bq_01 (i : Nat) : 0 ≤ bq rows i ∧ bq rows i ≤ 1 := by
  have h0 := pre_nonneg hr i
  have h1 := pre_le hr i
  have hb := wid_pos hr
  refine ⟨Rat.divInt_nonneg h0 (by omega), ?_⟩
  rw [← Rat.not_lt, show (1 : Rat) = Rat.divInt 1 1 from rfl]
  unfold bq
  rw [q_ltP (by decide) hb]
  omega
theorem wpart_all {i : Nat} (h : i < rows.length) : wpart 0 1 rows i = vq rows i := by
  have h1 := bq_lt hr h
  have h2 := (bq_01 hr i).1
  have h3 := (bq_01 hr (i + 1)).2
  rw [wpart_ovl]
  have : ovl 0 1 (bq rows i) (bq rows (i + 1)) = bq rows (i + 1) - bq rows i := by
    unfold ovl
    grind
  rw [this]
  exact Rat.div_mul_cancel (by grind)
end
theorem sumR_vq (rows : List (Int × Int)) : ∀ k, k ≤ rows.length → sumR (vq rows) k = ((((rows.take k).map (·.2)).sum : Int) : Rat)
  | 0, _ => by simp [sumR]
  | k + 1, h => by
    rw [sumR, sumR_vq rows k (by omega), vq_eq (by omega), List.take_succ_eq_append_getElem (by omega), List.map_append, List.sum_append, Rat.intCast_add]
    simp
theorem wq_all {rows : List (Int × Int)} (hr : RowsOk 8 rows) : wq 0 1 rows = (((rows.map (·.2)).sum : Int) : Rat) := by
  unfold wq
  rw [sumR_congr (fun i hi => wpart_all hr hi), sumR_vq rows _ (Nat.le_refl _), List.take_length]
end Dn
namespace Dn
open PySem PySem.Spec PyProof.Rows L2
def cutL : List (Rat × Rat × Rat) → Rat → Option Rat
  | [], _ => none
  | s :: l, m => if s.2.2 < m then cutL l (m - s.2.2) else some (s.1 + (m / s.2.2) * (s.2.1 - s.1))
theorem cutL_app : ∀ (l r : List (Rat × Rat × Rat)) (m : Rat), cutL (l ++ r) m = match cutL l m with | some z => some z | none => cutL r (m - foldS l)
  | [], r, m => by simp [cutL, foldS]; congr 1; grind
  | s :: l, r, m => by
    simp only [List.cons_append, cutL, foldS]
    by_cases c : s.2.2 < m
    · rw [if_pos c, if_pos c, cutL_app l r]
      have : m - s.2.2 - foldS l = m - (s.2.2 + foldS l) := by grind
      rw [this]
    · rw [if_neg c, if_neg c]
def zAt (x y : Rat) (rows : List (Int × Int)) (m : Rat) (i : Nat) : Rat := lo x rows i + ((m - sumR (wpart x y rows) i) / wseg x y rows i) * (hi y rows i - lo x rows i)
theorem cut_char (x y : Rat) (rows : List (Int × Int)) (m : Rat) (hm : 0 < m) : ∀ n, (cutL (btw x y rows n) m = none ∧ sumR (wpart x y rows) n < m) ∨ ∃ i, i < n ∧ lo x rows i < hi y rows i ∧ 0 < m - sumR (wpart x y rows) i ∧ m - sumR (wpart x y rows) i ≤ wseg x y rows i ∧ cutL (btw x y rows n) m = some (zAt x y rows m i)
  | 0 => .inl ⟨rfl, by simpa [sumR] using hm⟩
  | n + 1 => by
    rw [btw_succ, cutL_app]
    rcases cut_char x y rows m hm n with ⟨h1, h2⟩ | ⟨i, h1, h2, h3, h4, h5⟩
    · rw [h1, btw_sum]
      show (cutL (seg x y rows n).toList (m - sumR (wpart x y rows) n) = none ∧ sumR (wpart x y rows) n + wpart x y rows n < m) ∨ _
      unfold seg
      by_cases c : lo x rows n < hi y rows n
      · rw [if_pos c]
        have hw : wpart x y rows n = wseg x y rows n := by simp [wpart, c]
        rw [hw]
        by_cases d : wseg x y rows n < m - sumR (wpart x y rows) n
        · left
          simp only [Option.toList, cutL, if_pos d]
          exact ⟨trivial, by grind⟩
        · right
          refine ⟨n, by omega, c, by grind, by grind, ?_⟩
          simp only [Option.toList, cutL, if_neg d]
          rfl
      · rw [if_neg c]
        left
        have hw : wpart x y rows n = 0 := by simp [wpart, c]
        rw [hw]
        exact ⟨rfl, by grind⟩
    · right
      rw [h5]
      exact ⟨i, by omega, h2, h3, h4, rfl⟩
section
variable {rows : List (Int × Int)} (hr : RowsOk 8 rows) {x y m : Rat} {i : Nat} (hi' : i < rows.length) (hlh : lo x rows i < hi y rows i) (h0 : 0 < m - sumR (wpart x y rows) i) (h1 : m - sumR (wpart x y rows) i ≤ wseg x y rows i)
theorem q_frac {r w : Rat} (h0 : 0 < r) (h1 : r ≤ w) : 0 < r / w ∧ r / w ≤ 1 := by
  have hw : 0 < w := by grind
  refine ⟨?_, ?_⟩
  · rw [Rat.div_def]; exact Rat.mul_pos h0 (Rat.inv_pos.mpr hw)
  · rw [← Rat.not_lt, Rat.lt_div_iff hw]; grind
theorem q_step {l h t : Rat} (a : l < h) (t0 : 0 < t) (t1 : t ≤ 1) : l < l + t * (h - l) ∧ l + t * (h - l) ≤ h := by
  have p := Rat.mul_pos t0 (show 0 < h - l by grind)
  have q := Rat.mul_nonneg (show 0 ≤ 1 - t by grind) (show 0 ≤ h - l by grind)
  constructor <;> grind
include hlh h0 h1 in
theorem z_in : lo x rows i < zAt x y rows m i ∧ zAt x y rows m i ≤ hi y rows i := by
  have := q_frac h0 h1
  exact q_step hlh this.1 this.2
theorem lo_ge (x : Rat) (rows : List (Int × Int)) (i : Nat) : x ≤ lo x rows i ∧ bq rows i ≤ lo x rows i := by
  unfold lo; split <;> grind
theorem hi_le (y : Rat) (rows : List (Int × Int)) (i : Nat) : hi y rows i ≤ y ∧ hi y rows i ≤ bq rows (i + 1) := by
  unfold hi; split <;> grind
theorem hi_mid {z : Rat} (hz : z ≤ bq rows (i + 1)) : hi z rows i = z := by
  unfold hi; rw [if_neg]; grind
theorem hi_low {z : Rat} {j : Nat} (hz : bq rows (j + 1) < z) : hi z rows j = bq rows (j + 1) := by
  unfold hi; rw [if_pos hz]
include hr hi' hlh h0 h1 in
theorem part_before {j : Nat} (hj : j < i) : wpart x (zAt x y rows m i) rows j = wpart x y rows j := by
  have z := z_in hlh h0 h1
  have a := lo_ge x rows i
  have b := hi_le y rows i
  have c := bq_mono hr (show j + 1 ≤ i by omega)
  have e1 : hi (zAt x y rows m i) rows j = bq rows (j + 1) := hi_low (by grind)
  have e2 : hi y rows j = bq rows (j + 1) := hi_low (by grind)
  unfold wpart wseg
  rw [e1, e2]
include hr hi' hlh h0 h1 in
theorem part_at : wpart x (zAt x y rows m i) rows i = m - sumR (wpart x y rows) i := by
  have z := z_in hlh h0 h1
  have b := hi_le y rows i
  have e1 : hi (zAt x y rows m i) rows i = zAt x y rows m i := hi_mid (by grind)
  unfold wpart wseg
  rw [e1, if_pos z.1]
  have hw : wseg x y rows i ≠ 0 := by grind
  have e2 : zAt x y rows m i - lo x rows i = ((m - sumR (wpart x y rows) i) / wseg x y rows i) * (hi y rows i - lo x rows i) := by
    unfold zAt; grind
  rw [e2]
  have e3 : wseg x y rows i = vq rows i * ((hi y rows i - lo x rows i) / (bq rows (i + 1) - bq rows i)) := rfl
  have hd : bq rows (i + 1) - bq rows i ≠ 0 := by have := bq_lt hr hi'; grind
  have : ∀ r w v a d : Rat, v * (r / w * a / d) = r / w * (v * (a / d)) := fun r w v a d => by
    rw [Rat.div_def, Rat.div_def, Rat.div_def]; grind
  rw [this, ← e3]
  exact Rat.div_mul_cancel hw
include hr hlh h0 h1 in
theorem part_after (x' : Rat) {j : Nat} (hj : i < j) : wpart x' (zAt x y rows m i) rows j = 0 := by
  have z := z_in hlh h0 h1
  have b := hi_le y rows i
  have c := bq_mono hr (show i + 1 ≤ j by omega)
  have d := lo_ge x' rows j
  have e := hi_le (zAt x y rows m i) rows j
  unfold wpart
  rw [if_neg]
  grind
include hr hi' hlh h0 h1 in
theorem sum_z (k : Nat) : sumR (wpart x (zAt x y rows m i) rows) k = if k ≤ i then sumR (wpart x y rows) k else m := by
  induction k with
  | zero => simp [sumR]
  | succ k ih =>
    simp only [sumR]
    rw [ih]
    by_cases c : k < i
    · rw [if_pos (by omega), if_pos (by omega), part_before hr hi' hlh h0 h1 c]
    · by_cases d : k = i
      · subst d
        rw [if_pos (Nat.le_refl _), if_neg (by omega), part_at hr hi' hlh h0 h1]
        grind
      · rw [if_neg (by omega), if_neg (by omega), part_after hr hlh h0 h1 x (by omega), Rat.add_zero]
include hr hi' hlh h0 h1 in
theorem wq_z : wq x (zAt x y rows m i) rows = m := by
  unfold wq
  rw [sum_z hr hi' hlh h0 h1, if_neg (by omega)]
include hr hi' hlh h0 h1 in
theorem sum_lo (k : Nat) : sumR (wpart (lo x rows i) (zAt x y rows m i) rows) k = if k ≤ i then 0 else m - sumR (wpart x y rows) i := by
  have z := z_in hlh h0 h1
  have b := hi_le y rows i
  have a := lo_ge x rows i
  induction k with
  | zero => simp [sumR]
  | succ k ih =>
    simp only [sumR]
    rw [ih]
    by_cases c : k < i
    · rw [if_pos (by omega), if_pos (by omega)]
      have c1 := bq_mono hr (show k + 1 ≤ i by omega)
      have d := lo_ge (lo x rows i) rows k
      have e := hi_le (zAt x y rows m i) rows k
      have : wpart (lo x rows i) (zAt x y rows m i) rows k = 0 := by
        unfold wpart
        rw [if_neg]
        grind
      rw [this, Rat.add_zero]
    · by_cases d : k = i
      · subst d
        rw [if_pos (Nat.le_refl _), if_neg (by omega), Rat.zero_add, ← part_at hr hi' hlh h0 h1]
        have : lo (lo x rows k) rows k = lo x rows k := by
          show (if lo x rows k < bq rows k then bq rows k else lo x rows k) = lo x rows k
          rw [if_neg (Rat.not_lt.mpr a.2)]
        unfold wpart wseg
        rw [this]
      · rw [if_neg (by omega), if_neg (by omega), part_after hr hlh h0 h1 _ (by omega), Rat.add_zero]
include hr hi' hlh h0 h1 in
end
end Dn
namespace Dn
open PySem PySem.Spec PyProof.Rows L2
def Ris (l : List Rat) : Prop := l.Pairwise (· < ·)
def ahead (q : Rat) : List Rat → Nat
  | [] => 0
  | a :: l => if a < q then ahead q l + 1 else 0
def ins (q : Rat) (l : List Rat) : List Rat := if q ∈ l then l else l.take (ahead q l) ++ q :: l.drop (ahead q l)
end Dn
namespace Dn
open PySem PySem.Spec PyProof.Rows L2
def dPair (p : Rat × Rat) : D := .tup [dF p.1, dF p.2]
@[simp] theorem tg_pair {e : DE} {i j : Nat} {r : Rat × Rat} : tgT 2 (tgsCons (tgN i) (tgsCons (tgN j) tgsNil)) (dPair r) e = some ((e.set i (.val (dF r.1))).set j (.val (dF r.2))) := by simp [dPair]
theorem rangeD_ints (n : Nat) : rangeD 0 n = ((List.range n).map fun k : Nat => (k : Int)).map D.int := by
  unfold rangeD
  rw [List.map_map]
  apply List.map_congr_left
  intro a _
  simp
end Dn
namespace Dn
open PySem PySem.Spec PyProof.Rows L2
def cw (rows : List (Int × Int)) (z : Rat) : Rat := wq 0 z rows
theorem sumR_mul (c : Nat → Rat) (t : Rat) : ∀ k, sumR (fun i => c i * t) k = sumR c k * t
  | 0 => by simp [sumR]
  | k + 1 => by simp only [sumR, sumR_mul c t k]; grind
theorem sumR_ge {f : Nat → Rat} : ∀ {k i : Nat}, (∀ j, j < k → 0 ≤ f j) → i < k → f i ≤ sumR f k
  | k + 1, i, h, hi => by
    simp only [sumR]
    have h0 := sumR_nonneg (f := f) (k := k) fun j hj => h j (by omega)
    by_cases c : i = k
    · subst c; grind
    · have := sumR_ge (f := f) (k := k) (i := i) (fun j hj => h j (by omega)) (by omega)
      have := h k (by omega)
      grind
section
variable {rows : List (Int × Int)} (hr : RowsOk 8 rows)
include hr
theorem wq_cw {x y : Rat} (h0 : 0 ≤ x) (h : x ≤ y) : wq x y rows = cw rows y - cw rows x := by
  have := wq_add hr h0 h
  unfold cw
  grind
theorem cw_zero : cw rows 0 = 0 := by
  have := wq_add hr (x := 0) (y := 0) (z := 0) Rat.le_refl Rat.le_refl
  unfold cw
  grind
theorem dens_nonneg {i : Nat} (h : i < rows.length) : 0 ≤ vq rows i / (bq rows (i + 1) - bq rows i) := by
  rw [Rat.div_def]
  refine Rat.mul_nonneg (vq_nonneg hr i) (Rat.le_of_lt (Rat.inv_pos.mpr ?_))
  have := bq_lt hr h
  grind
theorem wq_lin {a b : Rat} (hn : ∀ j, j ≤ rows.length → bq rows j ≤ a ∨ b ≤ bq rows j) : ∃ d : Rat, 0 ≤ d ∧ ∀ z, a ≤ z → z ≤ b → wq a z rows = d * (z - a) := by
  refine ⟨sumR (fun i => if bq rows i ≤ a ∧ b ≤ bq rows (i + 1) then vq rows i / (bq rows (i + 1) - bq rows i) else 0) rows.length, ?_, ?_⟩
  · refine sumR_nonneg fun i hi => ?_
    split
    · exact dens_nonneg hr hi
    · exact Rat.le_refl
  · intro z h1 h2
    rw [← sumR_mul]
    unfold wq
    refine sumR_congr fun i hi => ?_
    rw [wpart_ovl]
    have hb := bq_lt hr hi
    have n1 := hn i (by omega)
    have n2 := hn (i + 1) (by omega)
    generalize vq rows i / (bq rows (i + 1) - bq rows i) = f
    have key : ovl a z (bq rows i) (bq rows (i + 1)) = if bq rows i ≤ a ∧ b ≤ bq rows (i + 1) then z - a else 0 := by
      unfold ovl
      generalize bq rows i = p at *
      generalize bq rows (i + 1) = q at *
      grind
    rw [key]
    split
    · rfl
    · grind
theorem cw_form {z : Rat} {i : Nat} (hi' : i < rows.length) (h1 : bq rows i ≤ z) (h2 : z ≤ bq rows (i + 1)) : cw rows z = sumR (vq rows) i + vq rows i / (bq rows (i + 1) - bq rows i) * (z - bq rows i) := by
  have key : ∀ k, k ≤ rows.length → sumR (wpart 0 z rows) k = if k ≤ i then sumR (vq rows) k else sumR (vq rows) i + vq rows i / (bq rows (i + 1) - bq rows i) * (z - bq rows i) := by
    intro k
    induction k with
    | zero => intro _; simp [sumR]
    | succ k ih =>
      intro hk
      simp only [sumR]
      rw [ih (by omega)]
      have b0 := (bq_01 hr k).1
      have bk := bq_lt hr (show k < rows.length by omega)
      have bd := bd_ne hr (Nat.le_refl 13) (show k < rows.length by omega)
      rw [wpart_ovl]
      by_cases c : k < i
      · rw [if_pos (by omega), if_pos (by omega)]
        have m := bq_mono hr (show k + 1 ≤ i by omega)
        have : ovl 0 z (bq rows k) (bq rows (k + 1)) = bq rows (k + 1) - bq rows k := by
          unfold ovl
          generalize bq rows i = p at *
          generalize bq rows k = q at *
          generalize bq rows (k + 1) = r at *
          grind
        rw [this, Rat.div_mul_cancel bd]
      · by_cases d : k = i
        · subst d
          rw [if_pos (Nat.le_refl _), if_neg (by omega)]
          have : ovl 0 z (bq rows k) (bq rows (k + 1)) = z - bq rows k := by
            unfold ovl
            generalize bq rows k = q at *
            generalize bq rows (k + 1) = r at *
            grind
          rw [this]
        · rw [if_neg (by omega), if_neg (by omega)]
          have m := bq_mono hr (show i + 1 ≤ k by omega)
          have : ovl 0 z (bq rows k) (bq rows (k + 1)) = 0 := by
            unfold ovl
            generalize bq rows (i + 1) = p at *
            generalize bq rows k = q at *
            generalize bq rows (k + 1) = r at *
            grind
          rw [this]; grind
  have := key rows.length (Nat.le_refl _)
  rw [if_neg (by omega)] at this
  exact this
theorem find_str {z : Rat} (h0 : 0 ≤ z) (h1 : z ≤ 1) : ∃ i, i < rows.length ∧ bq rows i ≤ z ∧ z ≤ bq rows (i + 1) := by
  have key : ∀ k, k ≤ rows.length → bq rows k < z ∨ (∃ i, i < k ∧ bq rows i ≤ z ∧ z ≤ bq rows (i + 1)) ∨ k = 0 := by
    intro k
    induction k with
    | zero => intro _; exact .inr (.inr rfl)
    | succ k ih =>
      intro hk
      by_cases c : bq rows (k + 1) < z
      · exact .inl c
      · refine .inr (.inl ?_)
        rcases ih (by omega) with h | ⟨i, a, b, c⟩ | h
        · exact ⟨k, by omega, by grind, by grind⟩
        · exact ⟨i, by omega, b, c⟩
        · subst h; exact ⟨0, by omega, by rw [bq_zero hr]; exact h0, by grind⟩
  rcases key rows.length (Nat.le_refl _) with h | h | h
  · rw [bq_len hr] at h; grind
  · exact h
  · have := hr.1; omega
theorem sumv_sz {k : Nat} (h : k ≤ rows.length) : Sz 35 (sumR (vq rows) k) := by
  rw [sumR_vq rows k h]
  have h1 := sum_nonneg (f := fun r : Int × Int => r.2) (l := rows.take k) (fun r m => (hr.2.2.1 r (List.mem_of_mem_take m)).2.2.1)
  have h2 := sum_le (f := fun r : Int × Int => r.2) (c := 999999999) (l := rows.take k) (fun r m => (hr.2.2.1 r (List.mem_of_mem_take m)).2.2.2)
  have := hr.2.1
  have : (rows.take k).length ≤ 8 := by rw [List.length_take]; omega
  exact Sz.int (m := 34) (by omega)
theorem cw_sz {z : Rat} {s : Nat} (hz : Sz s z) (h0 : 0 ≤ z) (h1 : z ≤ 1) : Sz (s + 110) (cw rows z) := by
  obtain ⟨i, hi, a, b⟩ := find_str hr h0 h1
  rw [cw_form hr hi a b]
  have d := (vq_sz hr (Nat.le_refl 13) hi).div ((bq_sz hr (i + 1)).sub (bq_sz hr i)) (bd_ne hr (Nat.le_refl 13) hi)
  have e := d.mul (hz.sub (bq_sz hr i))
  exact ((sumv_sz hr (Nat.le_of_lt hi)).add e).up (by omega)
theorem wq_sz2 {x y : Rat} {s : Nat} (hx : Sz s x) (hy : Sz s y) (h0 : 0 ≤ x) (h : x ≤ y) (h1 : y ≤ 1) : Sz (2 * s + 221) (wq x y rows) := by
  rw [wq_cw hr h0 h]
  exact ((cw_sz hr hy (by grind) h1).sub (cw_sz hr hx h0 (by grind))).up (by omega)
theorem sz_of_cw {z : Rat} {s i : Nat} (hi' : i < rows.length) (h1 : bq rows i ≤ z) (h2 : z ≤ bq rows (i + 1)) (hv : vq rows i ≠ 0) (hs : Sz s (cw rows z)) : Sz (s + 108) z := by
  have e := cw_form hr hi' h1 h2
  have bd := bd_ne hr (Nat.le_refl 13) hi'
  have : z = bq rows i + (cw rows z - sumR (vq rows) i) / vq rows i * (bq rows (i + 1) - bq rows i) := by
    generalize cw rows z = V at *
    generalize sumR (vq rows) i = P at *
    generalize vq rows i = v at *
    generalize bq rows (i + 1) - bq rows i = d at *
    have : V - P = v / d * (z - bq rows i) := by grind
    rw [this, Rat.div_def, Rat.div_def]
    have hd : d⁻¹ * d = 1 := Rat.inv_mul_cancel d bd
    have hv' : v * v⁻¹ = 1 := Rat.mul_inv_cancel v hv
    have : v * d⁻¹ * (z - bq rows i) * v⁻¹ * d = (v * v⁻¹) * (d⁻¹ * d) * (z - bq rows i) := by grind
    rw [this, hd, hv']; grind
  rw [this]
  have a := (hs.sub (sumv_sz hr (Nat.le_of_lt hi'))).div (vq_sz hr (Nat.le_refl 13) hi') hv
  have b := a.mul ((bq_sz hr (i + 1)).sub (bq_sz hr i))
  exact ((bq_sz hr i).add b).up (by omega)
theorem cut_spec {x m : Rat} (h0 : 0 ≤ x) (h1 : x ≤ 1) (hm : 0 < m) (hw : m ≤ wq x 1 rows) : ∃ z, cutL (btw x 1 rows rows.length) m = some z ∧ x < z ∧ z ≤ 1 ∧ wq x z rows = m ∧ (∀ y, x ≤ y → y < z → wq x y rows < m) ∧ ∀ s, Sz s (cw rows z) → Sz (s + 108) z := by
  rcases cut_char x 1 rows m hm rows.length with ⟨_, h⟩ | ⟨i, a, b, c, d, e⟩
  · exact absurd hw (Rat.not_le.mpr h)
  · have z := z_in b c d
    have g := wq_z hr a b c d
    have l := lo_ge x rows i
    have u := hi_le 1 rows i
    refine ⟨_, e, by grind, by grind, g, fun y hy hz => ?_, fun s hs => ?_⟩
    · have ad := wq_add hr hy (Rat.le_of_lt hz)
      have p : 0 < wq y (zAt x 1 rows m i) rows := by
        have ge := sumR_ge (f := wpart y (zAt x 1 rows m i) rows) (k := rows.length) (i := i) (fun j hj => wpart_nonneg hr _ _ hj) a
        have : 0 < wpart y (zAt x 1 rows m i) rows i := by
          rw [wpart_ovl]
          have bl := bq_lt hr a
          have hv : vq rows i ≠ 0 := fun q => by
            have : wseg x 1 rows i = 0 := by unfold wseg; rw [q]; grind
            grind
          have hv0 := vq_nonneg hr i
          refine Rat.mul_pos ?_ ?_
          · rw [Rat.div_def]; exact Rat.mul_pos (by grind) (Rat.inv_pos.mpr (by grind))
          · unfold ovl
            generalize zAt x 1 rows m i = zz at *
            grind
        have : sumR (wpart y (zAt x 1 rows m i) rows) rows.length = wq y (zAt x 1 rows m i) rows := rfl
        grind
      grind
    · refine sz_of_cw hr a (by grind) (by grind) (fun q => ?_) hs
      have : wseg x 1 rows i = 0 := by unfold wseg; rw [q]; grind
      grind
end
end Dn
namespace Dn
open PySem PySem.Spec PyProof.Rows L2
def cnt (E : List Rat) (z : Rat) : Nat := (E.filter fun e => decide (z < e)).length
structure Ends (E : List Rat) (r : List (Int × Int)) : Prop where
  i : ∀ j, j ≤ r.length → bq r j ∈ E
  z : ∀ e ∈ E, 0 ≤ e ∧ e ≤ 1 ∧ Sz 13 e
structure HalfAt (r : List (Int × Int)) (H h0 : Rat) : Prop where
  a : 0 ≤ h0
  b : h0 ≤ 1
  c : cw r h0 = H
  l : ∀ y, 0 ≤ y → y < h0 → cw r y < H
  t : cw r 1 = 2 * H
  p : 0 < H
  s : Sz 40 H
structure Kn (r : List (Int × Int)) (H h0 low high : Rat) : Prop where
  a : 0 ≤ low
  ah : low ≤ h0
  lh : low ≤ high
  b : high ≤ 1
  w : cw r high - cw r low = H
  sl : Sz 280 low
  sh : Sz 280 high
structure Mv (E : List Rat) (r : List (Int × Int)) (H h0 low high low' high' : Rat) : Prop where
  k : Kn r H h0 low' high'
  l : low ≤ low'
  h : high ≤ high'
  nl : ∀ e ∈ E, e ≤ low ∨ low' ≤ e
  nh : ∀ e ∈ E, e ≤ high ∨ high' ≤ e
  c : cnt E low' + cnt E high' < cnt E low + cnt E high
structure Nxt (E : List Rat) (z e : Rat) : Prop where
  m : e ∈ E
  l : z < e
  n : ∀ x ∈ E, x ≤ z ∨ e ≤ x
section
variable {E : List Rat} {r : List (Int × Int)} {H h0 low high after behind : Rat} (hr : RowsOk 8 r) (hE : Ends E r) (hH : HalfAt r H h0) (K : Kn r H h0 low high) (A : Nxt E high after)
include hr hE hH K A
variable (B : Nxt E low behind)
include B
end
end Dn
namespace Dn
open PySem PySem.Spec PyProof.Rows L2
def adj (P : List Rat) : List (Rat × Rat) := P.zip P.tail
theorem adj_cons (a b : Rat) (P : List Rat) : adj (a :: b :: P) = (a, b) :: adj (b :: P) := rfl
theorem adj_in : ∀ {P : List Rat}, Ris P → ∀ ab ∈ adj P, ab.1 ∈ P ∧ ab.2 ∈ P ∧ ab.1 < ab.2 ∧ ∀ u ∈ P, u ≤ ab.1 ∨ ab.2 ≤ u
  | [], _, ab, h => by simp [adj] at h
  | [a], _, ab, h => by simp [adj] at h
  | a :: b :: P, h, ab, m => by
    rw [adj_cons] at m
    unfold Ris at h
    have hh := List.pairwise_cons.mp h
    have hab := hh.1 b (List.mem_cons_self ..)
    rcases List.mem_cons.mp m with rfl | m
    · refine ⟨List.mem_cons_self .., by simp, hab, fun u hu => ?_⟩
      rcases List.mem_cons.mp hu with rfl | hu
      · exact .inl Rat.le_refl
      · rcases List.mem_cons.mp hu with rfl | hu
        · exact .inr Rat.le_refl
        · have := (List.pairwise_cons.mp hh.2).1 u hu
          exact .inr (Rat.le_of_lt this)
    · obtain ⟨h1, h2, h3, h4⟩ := adj_in (P := b :: P) hh.2 ab m
      refine ⟨List.mem_cons_of_mem _ h1, List.mem_cons_of_mem _ h2, h3, fun u hu => ?_⟩
      rcases List.mem_cons.mp hu with rfl | hu
      · have := hh.1 ab.1 h1
        exact .inl (Rat.le_of_lt this)
      · exact h4 u hu
def swStep (p : Rat → Rat → Bool) (F : List (Rat × Rat)) (ab : Rat × Rat) : List (Rat × Rat) :=
  if p ab.1 ab.2 = true then (match F.getLast? with | some l => if l.2 = ab.1 then F.dropLast ++ [(l.1, ab.2)] else F ++ [ab] | none => F ++ [ab]) else F
def sw (p : Rat → Rat → Bool) (P : List Rat) : List (Rat × Rat) := (adj P).foldl (swStep p) []
section
variable {f : Int → Rat} (hf : ∀ a b, a < b ↔ f a < f b)
abbrev f2 (f : Int → Rat) (s : Int × Int) : Rat × Rat := (f s.1, f s.2)
include hf
end
structure Lp (lp : (D → En → SR) → List D → En → SR) (st : Sto) : Prop where
  nil : ∀ b e, lp b [] ⟨e, st⟩ = .nx ⟨e, st⟩
  cons : ∀ b x xs e, lp b (x :: xs) ⟨e, st⟩ = match b x ⟨e, st⟩ with
    | .nx E' => lp b xs E'
    | .ct E' => lp b xs E'
    | .bk E' => .nx E'
    | r => r
end Dn
namespace Dn
open PySem PySem.Spec PyProof.Rows L2 TL
theorem pur_dPair (p : Rat × Rat) : pur (dPair p) = true := by simp [dPair, dF, pur, purL]
theorem dep_dPair (p : Rat × Rat) : dep (dPair p) ≤ 2 := by simp [dPair, dF, dep, depL]
theorem dPair_inj (a b : Rat × Rat) (h : dPair a = dPair b) : a = b := by
  simp only [dPair, D.tup.injEq, List.cons.injEq, and_true] at h
  exact Prod.ext (dF_inj.mp h.1) (dF_inj.mp h.2)
@[simp] theorem eq_pairs {l m : List (Rat × Rat)} {st : Sto} : oEq (.lst (l.map dPair)) (.lst (m.map dPair)) st = .val .P (.bl (decide (l = m))) st :=
  eq_lst pur_dPair (fun p => Nat.le_trans (dep_dPair p) (by decide)) dPair_inj l m st
@[simp] theorem ne_pairs {l m : List (Rat × Rat)} {st : Sto} : oNe (.lst (l.map dPair)) (.lst (m.map dPair)) st = .val .P (.bl (!decide (l = m))) st := ne_of_eq eq_pairs
theorem eq_self {d : D} (hp : pur d = true) (hd : dep d ≤ 64) (st : Sto) : oEq d d st = .val .P (.bl true) st := by
  have := eq_of st hp hp hd hd (p := True) (by simp)
  simpa using this
end Dn
namespace Dn
end Dn
namespace Dn
open PySem PySem.Spec PyProof.Rows L2
def Ov (D : Int) (q : Rat) : Prop := ∃ n : Int, q * (D : Rat) = (n : Rat)
theorem Ov.zero (D : Int) : Ov D 0 := ⟨0, by simp⟩
theorem Ov.one (D : Int) : Ov D 1 := ⟨D, by simp [Rat.one_mul]⟩
theorem Ov.add {D : Int} {a b : Rat} (h : Ov D a) (k : Ov D b) : Ov D (a + b) := by
  obtain ⟨m, h⟩ := h
  obtain ⟨n, k⟩ := k
  exact ⟨m + n, by rw [Rat.add_mul, h, k, Rat.intCast_add]⟩
theorem Ov.sub {D : Int} {a b : Rat} (h : Ov D a) (k : Ov D b) : Ov D (a - b) := by
  obtain ⟨m, h⟩ := h
  obtain ⟨n, k⟩ := k
  exact ⟨m - n, by rw [Rat.intCast_sub, ← h, ← k]; grind⟩
theorem Ov.mul {D E : Int} {a : Rat} (h : Ov D a) : Ov (D * E) a := by
  obtain ⟨m, h⟩ := h
  exact ⟨m * E, by rw [Rat.intCast_mul, Rat.intCast_mul, ← h]; grind⟩
theorem Ov.int {D : Int} {a : Rat} (n : Int) (h : Ov D a) : Ov D ((n : Rat) * a) := by
  obtain ⟨m, h⟩ := h
  exact ⟨n * m, by rw [Rat.intCast_mul, ← h]; grind⟩
theorem Ov.sz {D : Int} {q : Rat} {a b : Nat} (h : Ov D q) (hD : 0 < D) (h2 : D.natAbs < 2 ^ a) (q0 : 0 ≤ q) (q1 : q ≤ ((2 ^ b : Int) : Rat)) : Sz (a + b) q := by
  obtain ⟨n, h⟩ := h
  have hd := (Rat.intCast_pos (a := D)).mpr hD
  have e : q = Rat.divInt n D := by
    rw [Rat.divInt_eq_div, ← h, Rat.div_def, Rat.mul_assoc, Rat.mul_inv_cancel _ (by grind), Rat.mul_one]
  rw [e]
  have n0 : 0 ≤ n := by
    have : (0 : Rat) ≤ (n : Rat) := by rw [← h]; exact Rat.mul_nonneg q0 (Rat.le_of_lt hd)
    exact Rat.intCast_nonneg.mp this
  have n1 : n ≤ 2 ^ b * D := by
    have : (n : Rat) ≤ ((2 ^ b * D : Int) : Rat) := by
      rw [← h, Rat.intCast_mul]
      exact Rat.mul_le_mul_of_nonneg_right q1 (Rat.le_of_lt hd)
    exact Rat.intCast_le_intCast.mp this
  have n2 : n.natAbs < 2 ^ (a + b) := by
    have h3 : n.natAbs ≤ 2 ^ b * D.natAbs := by
      have : (n.natAbs : Int) ≤ ((2 ^ b * D.natAbs : Nat) : Int) := by
        rw [Int.natAbs_of_nonneg n0, Int.natCast_mul, Int.natAbs_of_nonneg (by omega)]
        simpa using n1
      exact Int.ofNat_le.mp this
    have h4 : 2 ^ b * D.natAbs < 2 ^ b * 2 ^ a := Nat.mul_lt_mul_of_pos_left h2 (Nat.two_pow_pos b)
    rw [Nat.pow_add, Nat.mul_comm (2 ^ a)]
    omega
  exact Sz.mk n2 (Nat.lt_of_lt_of_le h2 (Nat.pow_le_pow_right (by decide) (by omega))) (by omega)
def Gd (g : Int) (p : Rat × Rat) : Prop := Ov g p.1 ∧ Ov g p.2 ∧ 0 ≤ p.1 ∧ p.1 ≤ p.2 ∧ p.2 ≤ 1
theorem Gd.sz {g : Int} {p : Rat × Rat} {a : Nat} (h : Gd g p) (hg : 0 < g) (h2 : g.natAbs < 2 ^ a) : Sz a p.1 ∧ Sz a p.2 := by
  obtain ⟨h1, h3, h4, h5, h6⟩ := h
  exact ⟨h1.sz (b := 0) hg h2 h4 (by simp; grind), h3.sz (b := 0) hg h2 (by grind) (by simpa using h6)⟩
theorem ne_self {d : D} (hp : pur d = true) (hd : dep d ≤ 64) (st : Sto) : oNe d d st = .val .P (.bl false) st := ne_of_eq (eq_self hp hd st)
end Dn
namespace Dn
open PySem PySem.Spec PyProof.Rows L2
def Add (μ : Rat → Rat → Rat) : Prop := ∀ x z y, x ≤ z → z ≤ y → μ x z + μ z y = μ x y
def smr (μ : Rat → Rat → Rat) (f : Rat → Rat → Bool) (A : List (Rat × Rat)) : Rat := A.foldr (fun p a => (if f p.1 p.2 = true then μ p.1 p.2 else 0) + a) 0
theorem smr_cons (μ : Rat → Rat → Rat) (f : Rat → Rat → Bool) (p : Rat × Rat) (A : List (Rat × Rat)) : smr μ f (p :: A) = (if f p.1 p.2 = true then μ p.1 p.2 else 0) + smr μ f A := rfl
theorem Add.nil {μ : Rat → Rat → Rat} (h : Add μ) (x : Rat) : μ x x = 0 := by
  have := h x x x Rat.le_refl Rat.le_refl
  grind
theorem smr_none {μ : Rat → Rat → Rat} {f : Rat → Rat → Bool} : ∀ {A : List (Rat × Rat)}, (∀ p ∈ A, f p.1 p.2 = false) → smr μ f A = 0
  | [], _ => rfl
  | p :: A, h => by
    rw [smr_cons, h p (List.mem_cons_self ..), smr_none fun q m => h q (List.mem_cons_of_mem _ m)]
    simp [Rat.add_zero]
def hold (u v a b : Rat) : Bool := !decide (a < u) && !decide (v < b)
theorem ris_cons {a : Rat} {P : List Rat} (h : Ris (a :: P)) : Ris P ∧ ∀ b ∈ P, a < b := by
  unfold Ris at *
  exact ⟨(List.pairwise_cons.mp h).2, (List.pairwise_cons.mp h).1⟩
theorem one1 {μ : Rat → Rat → Rat} (hA : Add μ) {u v : Rat} : ∀ (P : List Rat) (a : Rat), Ris (a :: P) → u ≤ a → v ∈ a :: P → smr μ (hold u v) (adj (a :: P)) = μ a v
  | [], a, _, _, hv => by
    rw [List.mem_singleton.mp hv, hA.nil]; rfl
  | b :: P, a, hR, hu, hv => by
    obtain ⟨hR1, hlt⟩ := ris_cons hR
    have hab := hlt b (List.mem_cons_self ..)
    rw [adj_cons, smr_cons]
    by_cases c : v = a
    · subst c
      rw [hA.nil, smr_none]
      · have : hold u v v b = false := by simp [hold, hab]
        rw [this]; simp [Rat.add_zero]
      · intro p m
        obtain ⟨m1, m2, m3, m4⟩ := adj_in hR1 p m
        have h1 := hlt _ m2
        simp [hold, h1]
    · have hv' : v ∈ b :: P := (List.mem_cons.mp hv).resolve_left c
      have hbv : b ≤ v := by
        rcases List.mem_cons.mp hv' with e | e
        · rw [e]; exact Rat.le_refl
        · exact Rat.le_of_lt ((ris_cons hR1).2 v e)
      have ih := one1 hA P b hR1 (show u ≤ b by grind) hv'
      have hh : hold u v a b = true := by
        unfold hold
        rw [decide_eq_false (by grind), decide_eq_false (by grind)]; rfl
      rw [ih, hh]
      simp only [if_true]
      exact hA a b v (Rat.le_of_lt hab) hbv
end Dn
namespace Dn
open PySem PySem.Spec PyProof.Rows L2
abbrev S (l : List Nat) : Str := ⟨l.toArray⟩
@[simp] theorem tl_S (l : List Nat) : TL.tl (S l) = l := by simp [TL.tl]
@[simp] theorem S_cps (l : List Nat) : (S l).cps.toList = l := by simp
@[simp] theorem S_len (l : List Nat) : (S l).length = l.length := by simp [Str.length]
def segs : Nat → List Nat → List Nat → List (List Nat)
  | h, [], T => [T.drop h]
  | h, c :: cs, T => (T.drop h).take (c - h) :: segs c cs T
end Dn
namespace Dn
open PySem PySem.Spec PyProof.Rows L2
open TL (tl numL)
def sp (s : Nat) : List Nat → List (List Nat)
  | [] => [[]]
  | c :: l => if c = s then [] :: sp s l else match sp s l with
    | [] => [[c]]
    | h :: t => (c :: h) :: t
end Dn
namespace Dn
open PySem PySem.Spec PyProof.Rows L2
def ix_bounds : Nat → Option Nat
  | 5 => some 1
  | _ => none
@[simp] theorem ix_bounds_5 : ix_bounds 5 = some 1 := rfl
def ix_kept : Nat → Option Nat
  | 5 => some 0
  | _ => none
@[simp] theorem ix_kept_5 : ix_kept 5 = some 0 := rfl
def isc_Table : Nat → Option Bool
  | 5 => some true
  | _ => none
@[simp] theorem isc_Table_5 : isc_Table 5 = some true := rfl
noncomputable def wc_divisor_1 : En → ER :=
  (dOp oGt (dVar 1) (dC (.int 0)))
noncomputable def wb_divisor_2 : En → SR :=
  (sPar 0 1 (aCons (dVar 1) (aCons (dOp oMod (dVar 0) (dVar 1)) aNil)))
noncomputable def g_divisor : En → SR :=
  (sSeq (sSetF 0 (dCB oAbs (aCons (dVar 0) aNil)))
  (sSeq (sSetF 1 (dCB oAbs (aCons (dVar 1) aNil)))
  (sSeq (sWhile wc_divisor_1 wb_divisor_2)
  (sRetV 0))))
noncomputable def F_divisor : List D → Sto → ER := fnD 2 2 g_divisor
noncomputable def g_is_less : En → SR :=
  (sRet (dOp oLt (dOp oMul (dOp oIx (dVar 0) (dC (.int 0))) (dOp oIx (dVar 1) (dC (.int 1)))) (dOp oMul (dOp oIx (dVar 1) (dC (.int 0))) (dOp oIx (dVar 0) (dC (.int 1))))))
noncomputable def F_is_less : List D → Sto → ER := fnD 2 2 g_is_less
noncomputable def g_is_stretch : En → SR :=
  (sRet (dAnd (dChain oLe oLe (dC (.int 1)) (dVar 0) (dC (.int 999))) (dChain oLe oLe (dC (.int 0)) (dVar 1) (dC (.int 999999999)))))
noncomputable def F_is_stretch : List D → Sto → ER := fnD 2 2 g_is_stretch
noncomputable def ce_Table_total_1 : En → ER :=
  (dVar 2)
theorem q_ce_Table_total_1 {e : En} : ce_Table_total_1 e = (dVar 2) e := rfl
noncomputable def g_Table_total : En → SR :=
  (sRet (dCB oSum (aCons (dLc (dIter (dFld ix_kept (dVar 0))) (tgT 2 (tgsCons (tgN 1) (tgsCons (tgN 2) tgsNil))) (fun E => .val .P (.bl true) E.st) ce_Table_total_1 [1, 2]) aNil)))
noncomputable def F_Table_total : List D → Sto → ER := fnD 1 3 g_Table_total
noncomputable def g_Table_ends : En → SR :=
  (sRet (dCB oList (aCons (dFld ix_bounds (dVar 0)) aNil)))
noncomputable def F_Table_ends : List D → Sto → ER := fnD 1 1 g_Table_ends
noncomputable def g_Table___len__ : En → SR :=
  (sRet (dCB oLen (aCons (dFld ix_kept (dVar 0)) aNil)))
noncomputable def F_Table___len__ : List D → Sto → ER := fnD 1 1 g_Table___len__
noncomputable def g_Table___eq__ : En → SR :=
  (sRet (dAnd (dIsO isc_Table (dVar 1)) (dOp oEq (dFld ix_kept (dVar 0)) (dFld ix_kept (dVar 1)))))
noncomputable def F_Table___eq__ : List D → Sto → ER := fnD 2 2 g_Table___eq__
noncomputable def ce_law_box_1 : En → ER :=
  (dVar 2)
theorem q_ce_law_box_1 {e : En} : ce_law_box_1 e = (dVar 2) e := rfl
noncomputable def ct_law_box_2 : En → ER :=
  (dOp oGe (dVar 2) (dOp oPow (dC (.int 10)) (dC (.int 18))))
theorem q_ct_law_box_2 {e : En} : ct_law_box_2 e = (dOp oGe (dVar 2) (dOp oPow (dC (.int 10)) (dC (.int 18)))) e := rfl
noncomputable def ce_law_box_3 : En → ER :=
  (dVar 2)
theorem q_ce_law_box_3 {e : En} : ce_law_box_3 e = (dVar 2) e := rfl
noncomputable def ct_law_box_4 : En → ER :=
  (dOp oLt (dVar 2) (dOp oPow (dC (.int 10)) (dC (.int 18))))
theorem q_ct_law_box_4 {e : En} : ct_law_box_4 e = (dOp oLt (dVar 2) (dOp oPow (dC (.int 10)) (dC (.int 18)))) e := rfl
noncomputable def g_law_box : En → SR :=
  (sSeq (sSetF 1 (dPut (dLc (dIter (dVar 0)) (tgN 2) ct_law_box_2 ce_law_box_1 [2])))
  (sRet (dPut (dLst (aCons (dVar 1) (aCons (dC (.int 0)) (aCons (dLc (dIter (dVar 0)) (tgN 2) ct_law_box_4 ce_law_box_3 [2]) (aCons (dC (.int 0)) aNil))))))))
noncomputable def F_law_box : List D → Sto → ER := fnD 1 3 g_law_box
noncomputable def g_law_mixed : En → SR :=
  (sSeq (sSetF 2 (dOp oMod (dOp oPow (dOp oAdd (dOp oAdd (dOp oAdd (dOp oMod (dVar 0) (dC (.int 2147483647))) (dOp oMul (dOp oMul (dC (.int 1009)) (dVar 1)) (dVar 1))) (dOp oMul (dC (.int 48611)) (dVar 1))) (dC (.int 17))) (dC (.int 5))) (dC (.int 2147483647))))
  (sRet (dOp oMod (dOp oAdd (dOp oMul (dVar 2) (dC (.int 39373))) (dOp oMul (dC (.int 7919)) (dVar 1))) (dC (.int 1000000007)))))
noncomputable def F_law_mixed : List D → Sto → ER := fnD 2 3 g_law_mixed
noncomputable def wc_law_low_1 : En → ER :=
  (dOp oGt (dVar 3) (dC (.int 0)))
theorem q_wc_law_low_1 {e : En} : wc_law_low_1 e = (dOp oGt (dVar 3) (dC (.int 0))) e := rfl
noncomputable def wb_law_low_2 : En → SR :=
  (sPar 2 3 (aCons (dVar 3) (aCons (dOp oMod (dVar 2) (dVar 3)) aNil)))
theorem q_wb_law_low_2 {e : En} : wb_law_low_2 e = (sPar 2 3 (aCons (dVar 3) (aCons (dOp oMod (dVar 2) (dVar 3)) aNil))) e := rfl
noncomputable def g_law_low : En → SR :=
  (sSeq (sSetF 2 (dCB oAbs (aCons (dVar 0) aNil)))
  (sSeq (sSetF 3 (dCB oAbs (aCons (dVar 1) aNil)))
  (sSeq (sWhile wc_law_low_1 wb_law_low_2)
  (sSeq (sIf (dOp oLt (dVar 1) (dC (.int 0))) (sSetF 2 (dUn oNeg (dVar 2))) sSkip)
  (sRet (dTup (aCons (dOp oDiv (dVar 0) (dVar 2)) (aCons (dOp oDiv (dVar 1) (dVar 2)) aNil))))))))
noncomputable def F_law_low : List D → Sto → ER := fnD 2 4 g_law_low
noncomputable def g_law_less : En → SR :=
  (sRet (dOp oLt (dOp oMul (dOp oIx (dVar 0) (dC (.int 0))) (dOp oIx (dVar 1) (dC (.int 1)))) (dOp oMul (dOp oIx (dVar 1) (dC (.int 0))) (dOp oIx (dVar 0) (dC (.int 1))))))
noncomputable def F_law_less : List D → Sto → ER := fnD 2 2 g_law_less
noncomputable def g_fraction_of : En → SR :=
  (sSeq (sIf (dOp oEq (dVar 1) (dC (.int 0))) (sRaise 1) sSkip)
  (sSeq (sSetF 2 (dCall F_divisor (aCons (dVar 0) (aCons (dVar 1) aNil))))
  (sSeq (sIf (dOp oLt (dVar 1) (dC (.int 0))) (sSetF 2 (dUn oNeg (dVar 2))) sSkip)
  (sRet (dTup (aCons (dOp oDiv (dVar 0) (dVar 2)) (aCons (dOp oDiv (dVar 1) (dVar 2)) aNil)))))))
noncomputable def F_fraction_of : List D → Sto → ER := fnD 2 3 g_fraction_of
noncomputable def g_lesser : En → SR :=
  (sSeq (sIf (dCall F_is_less (aCons (dVar 1) (aCons (dVar 0) aNil))) (sRetV 1) sSkip)
  (sRetV 0))
noncomputable def F_lesser : List D → Sto → ER := fnD 2 2 g_lesser
noncomputable def g_greater : En → SR :=
  (sSeq (sIf (dCall F_is_less (aCons (dVar 0) (aCons (dVar 1) aNil))) (sRetV 1) sSkip)
  (sRetV 0))
noncomputable def F_greater : List D → Sto → ER := fnD 2 2 g_greater
noncomputable def g_ask_span : En → SR :=
  (sIf (dOr (dCall F_is_less (aCons (dVar 0) (aCons (dC (.tup [(.int 0), (.int 1)])) aNil))) (dOr (dCall F_is_less (aCons (dC (.tup [(.int 1), (.int 1)])) (aCons (dVar 1) aNil))) (dCall F_is_less (aCons (dVar 1) (aCons (dVar 0) aNil))))) (sRaise 3) sSkip)
noncomputable def F_ask_span : List D → Sto → ER := fnD 2 2 g_ask_span
noncomputable def wc_law_take_1 : En → ER :=
  (dOp oLt (dVar 4) (dVar 1))
theorem q_wc_law_take_1 {e : En} : wc_law_take_1 e = (dOp oLt (dVar 4) (dVar 1)) e := rfl
noncomputable def wb_law_take_2 : En → SR :=
  (sSeq (sSetF 3 (dOp oAdd (dOp oMul (dVar 3) (dC (.int 1000000007))) (dCall F_law_mixed (aCons (dVar 2) (aCons (dOp oAdd (dOp oIx (dVar 0) (dC (.int 3))) (dOp oMul (dC (.int 1000)) (dOp oMod (dVar 3) (dC (.int 89))))) aNil)))))
  (sSetF 4 (dOp oMul (dVar 4) (dC (.int 1000000007)))))
theorem q_wb_law_take_2 {e : En} : wb_law_take_2 e = (sSeq (sSetF 3 (dOp oAdd (dOp oMul (dVar 3) (dC (.int 1000000007))) (dCall F_law_mixed (aCons (dVar 2) (aCons (dOp oAdd (dOp oIx (dVar 0) (dC (.int 3))) (dOp oMul (dC (.int 1000)) (dOp oMod (dVar 3) (dC (.int 89))))) aNil)))))
  (sSetF 4 (dOp oMul (dVar 4) (dC (.int 1000000007))))) e := rfl
noncomputable def g_law_take : En → SR :=
  (sSeq (sSetI 0 (dOp oAdd (dOp oIx (dVar 0) (dC (.int 3))) (dC (.int 1))) (dC (.int 3)))
  (sSeq (sIf (dAnd (dOp oEq (dOp oIx (dVar 0) (dC (.int 1))) (dC (.int 0))) (dOp oGt (dCB oLen (aCons (dOp oIx (dVar 0) (dC (.int 0))) aNil)) (dC (.int 0)))) (sSetI 0 (dMtX mPopAt (dOp oIx (dVar 0) (dC (.int 0))) (aCons (dC (.int 0)) aNil)) (dC (.int 1))) sSkip)
  (sSeq (sIf (dOp oGt (dOp oIx (dVar 0) (dC (.int 1))) (dC (.int 0))) (sSeq (sSetF 3 (dOp oMod (dOp oIx (dVar 0) (dC (.int 1))) (dVar 1)))
  (sSeq (sSetI 0 (dOp oDiv (dOp oIx (dVar 0) (dC (.int 1))) (dVar 1)) (dC (.int 1)))
  (sRetV 3))) sSkip)
  (sSeq (sSetF 2 (dOp oMul (dC (.int 7)) (dOp oIx (dVar 0) (dC (.int 3)))))
  (sSeq (sIf (dOp oGt (dCB oLen (aCons (dOp oIx (dVar 0) (dC (.int 2))) aNil)) (dC (.int 0))) (sSetF 2 (dOp oIx (dOp oIx (dVar 0) (dC (.int 2))) (dOp oMod (dOp oIx (dVar 0) (dC (.int 3))) (dCB oLen (aCons (dOp oIx (dVar 0) (dC (.int 2))) aNil))))) sSkip)
  (sSeq (sSetF 3 (dC (.int 0)))
  (sSeq (sSetF 4 (dC (.int 1)))
  (sSeq (sWhile wc_law_take_1 wb_law_take_2)
  (sRet (dOp oMod (dVar 3) (dVar 1)))))))))))
noncomputable def F_law_take : List D → Sto → ER := fnD 2 5 g_law_take
noncomputable def g_law_plus : En → SR :=
  (sRet (dCall F_law_low (aCons (dOp oAdd (dOp oMul (dOp oIx (dVar 0) (dC (.int 0))) (dOp oIx (dVar 1) (dC (.int 1)))) (dOp oMul (dOp oIx (dVar 1) (dC (.int 0))) (dOp oIx (dVar 0) (dC (.int 1))))) (aCons (dOp oMul (dOp oIx (dVar 0) (dC (.int 1))) (dOp oIx (dVar 1) (dC (.int 1)))) aNil))))
noncomputable def F_law_plus : List D → Sto → ER := fnD 2 2 g_law_plus
noncomputable def g_law_turned : En → SR :=
  (sRet (dCall F_law_low (aCons (dOp oSub (dOp oIx (dVar 0) (dC (.int 1))) (dOp oIx (dVar 0) (dC (.int 0)))) (aCons (dOp oIx (dVar 0) (dC (.int 1))) aNil))))
noncomputable def F_law_turned : List D → Sto → ER := fnD 1 1 g_law_turned
noncomputable def g_plus : En → SR :=
  (sRet (dCallG F_fraction_of 2 0 [0, 1] [(.int 1)] (aCons (dOp oAdd (dOp oMul (dOp oIx (dVar 0) (dC (.int 0))) (dOp oIx (dVar 1) (dC (.int 1)))) (dOp oMul (dOp oIx (dVar 1) (dC (.int 0))) (dOp oIx (dVar 0) (dC (.int 1))))) (aCons (dOp oMul (dOp oIx (dVar 0) (dC (.int 1))) (dOp oIx (dVar 1) (dC (.int 1)))) aNil)) aNil))
noncomputable def F_plus : List D → Sto → ER := fnD 2 2 g_plus
noncomputable def g_minus : En → SR :=
  (sRet (dCallG F_fraction_of 2 0 [0, 1] [(.int 1)] (aCons (dOp oSub (dOp oMul (dOp oIx (dVar 0) (dC (.int 0))) (dOp oIx (dVar 1) (dC (.int 1)))) (dOp oMul (dOp oIx (dVar 1) (dC (.int 0))) (dOp oIx (dVar 0) (dC (.int 1))))) (aCons (dOp oMul (dOp oIx (dVar 0) (dC (.int 1))) (dOp oIx (dVar 1) (dC (.int 1)))) aNil)) aNil))
noncomputable def F_minus : List D → Sto → ER := fnD 2 2 g_minus
noncomputable def g_times : En → SR :=
  (sRet (dCallG F_fraction_of 2 0 [0, 1] [(.int 1)] (aCons (dOp oMul (dOp oIx (dVar 0) (dC (.int 0))) (dOp oIx (dVar 1) (dC (.int 0)))) (aCons (dOp oMul (dOp oIx (dVar 0) (dC (.int 1))) (dOp oIx (dVar 1) (dC (.int 1)))) aNil)) aNil))
noncomputable def F_times : List D → Sto → ER := fnD 2 2 g_times
noncomputable def g_over : En → SR :=
  (sRet (dCallG F_fraction_of 2 0 [0, 1] [(.int 1)] (aCons (dOp oMul (dOp oIx (dVar 0) (dC (.int 0))) (dOp oIx (dVar 1) (dC (.int 1)))) (aCons (dOp oMul (dOp oIx (dVar 0) (dC (.int 1))) (dOp oIx (dVar 1) (dC (.int 0)))) aNil)) aNil))
noncomputable def F_over : List D → Sto → ER := fnD 2 2 g_over
noncomputable def ce_bounds_of_1 : En → ER :=
  (dVar 4)
theorem q_ce_bounds_of_1 {e : En} : ce_bounds_of_1 e = (dVar 4) e := rfl
noncomputable def fb_bounds_of_2 : En → SR :=
  (sSeq (sSetF 3 (dOp oAdd (dVar 3) (dVar 4)))
  (sMt mAppend 2 (aCons (dCallG F_fraction_of 2 0 [0, 1] [(.int 1)] (aCons (dVar 3) (aCons (dVar 1) aNil)) aNil) aNil)))
theorem q_fb_bounds_of_2 {e : En} : fb_bounds_of_2 e = (sSeq (sSetF 3 (dOp oAdd (dVar 3) (dVar 4)))
  (sMt mAppend 2 (aCons (dCallG F_fraction_of 2 0 [0, 1] [(.int 1)] (aCons (dVar 3) (aCons (dVar 1) aNil)) aNil) aNil))) e := rfl
noncomputable def g_bounds_of : En → SR :=
  (sSeq (sSetF 1 (dCB oSum (aCons (dLc (dIter (dVar 0)) (tgT 2 (tgsCons (tgN 4) (tgsCons (tgN 5) tgsNil))) (fun E => .val .P (.bl true) E.st) ce_bounds_of_1 [4, 5]) aNil)))
  (sSeq (sSet 2 (dLst (aCons (dC (.tup [(.int 0), (.int 1)])) aNil)))
  (sSeq (sSetF 3 (dC (.int 0)))
  (sSeq (sFor (dIter (dVar 0)) (tgT 2 (tgsCons (tgN 4) (tgsCons (tgN 5) tgsNil))) fb_bounds_of_2)
  (sRetV 2)))))
noncomputable def F_bounds_of : List D → Sto → ER := fnD 1 6 g_bounds_of
noncomputable def g_law_place : En → SR :=
  (sSeq (sSetF 1 (dOp oAdd (dC (.int 1)) (dCall F_law_take (aCons (dVar 0) (aCons (dOp oIx (dLst (aCons (dC (.int 4)) (aCons (dC (.int 30)) (aCons (dC (.int 1000)) (aCons (dOp oPow (dC (.int 10)) (dC (.int 6))) aNil))))) (dCall F_law_take (aCons (dVar 0) (aCons (dC (.int 4)) aNil)))) aNil)))))
  (sRet (dCall F_law_low (aCons (dCall F_law_take (aCons (dVar 0) (aCons (dOp oAdd (dVar 1) (dC (.int 1))) aNil))) (aCons (dVar 1) aNil)))))
noncomputable def F_law_place : List D → Sto → ER := fnD 1 2 g_law_place
noncomputable def fb_law_rows_1 : En → SR :=
  (sSeq (sSetF 6 (dOp oAdd (dC (.int 1)) (dCall F_law_take (aCons (dVar 0) (aCons (dOp oIx (dLst (aCons (dC (.int 1)) (aCons (dC (.int 4)) (aCons (dC (.int 30)) (aCons (dC (.int 999)) aNil))))) (dVar 2)) aNil)))))
  (sSeq (sSetF 7 (dCall F_law_take (aCons (dVar 0) (aCons (dOp oIx (dLst (aCons (dC (.int 4)) (aCons (dC (.int 10)) (aCons (dC (.int 1000)) (aCons (dOp oPow (dC (.int 10)) (dC (.int 9))) aNil))))) (dVar 2)) aNil))))
  (sSeq (sIf (dAnd (dOp oEq (dVar 3) (dC (.int 1))) (dOp oEq (dCall F_law_take (aCons (dVar 0) (aCons (dC (.int 3)) aNil))) (dC (.int 0)))) (sSetF 7 (dC (.int 0))) sSkip)
  (sMt mAppend 4 (aCons (dTup (aCons (dVar 6) (aCons (dVar 7) aNil))) aNil)))))
theorem q_fb_law_rows_1 {e : En} : fb_law_rows_1 e = (sSeq (sSetF 6 (dOp oAdd (dC (.int 1)) (dCall F_law_take (aCons (dVar 0) (aCons (dOp oIx (dLst (aCons (dC (.int 1)) (aCons (dC (.int 4)) (aCons (dC (.int 30)) (aCons (dC (.int 999)) aNil))))) (dVar 2)) aNil)))))
  (sSeq (sSetF 7 (dCall F_law_take (aCons (dVar 0) (aCons (dOp oIx (dLst (aCons (dC (.int 4)) (aCons (dC (.int 10)) (aCons (dC (.int 1000)) (aCons (dOp oPow (dC (.int 10)) (dC (.int 9))) aNil))))) (dVar 2)) aNil))))
  (sSeq (sIf (dAnd (dOp oEq (dVar 3) (dC (.int 1))) (dOp oEq (dCall F_law_take (aCons (dVar 0) (aCons (dC (.int 3)) aNil))) (dC (.int 0)))) (sSetF 7 (dC (.int 0))) sSkip)
  (sMt mAppend 4 (aCons (dTup (aCons (dVar 6) (aCons (dVar 7) aNil))) aNil))))) e := rfl
noncomputable def ce_law_rows_2 : En → ER :=
  (dVar 7)
theorem q_ce_law_rows_2 {e : En} : ce_law_rows_2 e = (dVar 7) e := rfl
noncomputable def g_law_rows : En → SR :=
  (sSeq (sSetF 2 (dCall F_law_take (aCons (dVar 0) (aCons (dC (.int 4)) aNil))))
  (sSeq (sSetF 3 (dCall F_law_take (aCons (dVar 0) (aCons (dC (.int 2)) aNil))))
  (sSeq (sSet 4 (dLst aNil))
  (sSeq (sFor (dRng rng1 (aCons (dOp oAdd (dC (.int 1)) (dCall F_law_take (aCons (dVar 0) (aCons (dVar 1) aNil)))) aNil)) (tgN 5) fb_law_rows_1)
  (sSeq (sIf (dOp oEq (dCB oSum (aCons (dLc (dIterV 4) (tgT 2 (tgsCons (tgN 6) (tgsCons (tgN 7) tgsNil))) (fun E => .val .P (.bl true) E.st) ce_law_rows_2 [6, 7]) aNil)) (dC (.int 0))) (sSeq (sSetF 8 (dCall F_law_take (aCons (dVar 0) (aCons (dCB oLen (aCons (dVar 4) aNil)) aNil))))
  (sSetI 4 (dTup (aCons (dOp oIx (dOp oIx (dVar 4) (dVar 8)) (dC (.int 0))) (aCons (dOp oAdd (dC (.int 1)) (dCall F_law_take (aCons (dVar 0) (aCons (dC (.int 9)) aNil)))) aNil))) (dVar 8))) sSkip)
  (sRetV 4))))))
noncomputable def F_law_rows : List D → Sto → ER := fnD 2 9 g_law_rows
noncomputable def fb_Table___init___1 : En → SR :=
  (sIf (dNot (dCall F_is_stretch (aCons (dVar 2) (aCons (dVar 3) aNil)))) (sRaise 2) sSkip)
theorem q_fb_Table___init___1 {e : En} : fb_Table___init___1 e = (sIf (dNot (dCall F_is_stretch (aCons (dVar 2) (aCons (dVar 3) aNil)))) (sRaise 2) sSkip) e := rfl
noncomputable def ce_Table___init___2 : En → ER :=
  (dVar 3)
theorem q_ce_Table___init___2 {e : En} : ce_Table___init___2 e = (dVar 3) e := rfl
noncomputable def ce_Table___init___3 : En → ER :=
  (dTup (aCons (dVar 2) (aCons (dVar 3) aNil)))
theorem q_ce_Table___init___3 {e : En} : ce_Table___init___3 e = (dTup (aCons (dVar 2) (aCons (dVar 3) aNil))) e := rfl
noncomputable def g_Table___init__ : En → SR :=
  (sSeq (sIf (dOr (dOp oLt (dCB oLen (aCons (dVar 1) aNil)) (dC (.int 1))) (dOp oGt (dCB oLen (aCons (dVar 1) aNil)) (dC (.int 8)))) (sRaise 2) sSkip)
  (sSeq (sFor (dIter (dVar 1)) (tgT 2 (tgsCons (tgN 2) (tgsCons (tgN 3) tgsNil))) fb_Table___init___1)
  (sSeq (sIf (dOp oEq (dCB oSum (aCons (dLc (dIter (dVar 1)) (tgT 2 (tgsCons (tgN 2) (tgsCons (tgN 3) tgsNil))) (fun E => .val .P (.bl true) E.st) ce_Table___init___2 [2, 3]) aNil)) (dC (.int 0))) (sRaise 2) sSkip)
  (sSeq (sFldS ix_kept (dVar 0) (dLc (dIter (dVar 1)) (tgT 2 (tgsCons (tgN 2) (tgsCons (tgN 3) tgsNil))) (fun E => .val .P (.bl true) E.st) ce_Table___init___3 [2, 3]))
  (sFldS ix_bounds (dVar 0) (dCall F_bounds_of (aCons (dFld ix_kept (dVar 0)) aNil)))))))
noncomputable def F_Table___init__ : List D → Sto → ER := fnD 2 4 g_Table___init__
noncomputable def fb_Table_between_1 : En → SR :=
  (sSeq (sSetF 5 (dCall F_greater (aCons (dVar 1) (aCons (dOp oIx (dFld ix_bounds (dVar 0)) (dVar 4)) aNil))))
  (sSeq (sSetF 6 (dCall F_lesser (aCons (dVar 2) (aCons (dOp oIx (dFld ix_bounds (dVar 0)) (dOp oAdd (dVar 4) (dC (.int 1)))) aNil))))
  (sIf (dCall F_is_less (aCons (dVar 5) (aCons (dVar 6) aNil))) (sSeq (sSetF 9 (dCall F_minus (aCons (dOp oIx (dFld ix_bounds (dVar 0)) (dOp oAdd (dVar 4) (dC (.int 1)))) (aCons (dOp oIx (dFld ix_bounds (dVar 0)) (dVar 4)) aNil))))
  (sMt mAppend 3 (aCons (dTup (aCons (dVar 5) (aCons (dVar 6) (aCons (dCall F_times (aCons (dTup (aCons (dVar 8) (aCons (dC (.int 1)) aNil))) (aCons (dCall F_over (aCons (dCall F_minus (aCons (dVar 6) (aCons (dVar 5) aNil))) (aCons (dVar 9) aNil))) aNil))) aNil)))) aNil))) sSkip)))
theorem q_fb_Table_between_1 {e : En} : fb_Table_between_1 e = (sSeq (sSetF 5 (dCall F_greater (aCons (dVar 1) (aCons (dOp oIx (dFld ix_bounds (dVar 0)) (dVar 4)) aNil))))
  (sSeq (sSetF 6 (dCall F_lesser (aCons (dVar 2) (aCons (dOp oIx (dFld ix_bounds (dVar 0)) (dOp oAdd (dVar 4) (dC (.int 1)))) aNil))))
  (sIf (dCall F_is_less (aCons (dVar 5) (aCons (dVar 6) aNil))) (sSeq (sSetF 9 (dCall F_minus (aCons (dOp oIx (dFld ix_bounds (dVar 0)) (dOp oAdd (dVar 4) (dC (.int 1)))) (aCons (dOp oIx (dFld ix_bounds (dVar 0)) (dVar 4)) aNil))))
  (sMt mAppend 3 (aCons (dTup (aCons (dVar 5) (aCons (dVar 6) (aCons (dCall F_times (aCons (dTup (aCons (dVar 8) (aCons (dC (.int 1)) aNil))) (aCons (dCall F_over (aCons (dCall F_minus (aCons (dVar 6) (aCons (dVar 5) aNil))) (aCons (dVar 9) aNil))) aNil))) aNil)))) aNil))) sSkip))) e := rfl
noncomputable def g_Table_between : En → SR :=
  (sSeq (sSet 3 (dLst aNil))
  (sSeq (sFor (dEnum (aCons (dFld ix_kept (dVar 0)) aNil)) (tgT 2 (tgsCons (tgN 4) (tgsCons (tgT 2 (tgsCons (tgN 7) (tgsCons (tgN 8) tgsNil))) tgsNil))) fb_Table_between_1)
  (sRetV 3)))
noncomputable def F_Table_between : List D → Sto → ER := fnD 3 10 g_Table_between
noncomputable def ce_law_spot_1 : En → ER :=
  (dVar 5)
theorem q_ce_law_spot_1 {e : En} : ce_law_spot_1 e = (dVar 5) e := rfl
noncomputable def ce_law_spot_2 : En → ER :=
  (dVar 5)
theorem q_ce_law_spot_2 {e : En} : ce_law_spot_2 e = (dVar 5) e := rfl
noncomputable def g_law_spot : En → SR :=
  (sSeq (sSetF 2 (dCall F_law_take (aCons (dVar 0) (aCons (dC (.int 6)) aNil))))
  (sSeq (sSetF 3 (dCall F_law_take (aCons (dVar 0) (aCons (dOp oAdd (dCB oLen (aCons (dVar 1) aNil)) (dC (.int 1))) aNil))))
  (sSeq (sIf (dOp oEq (dVar 2) (dC (.int 0))) (sRet (dTup (aCons (dC (.int 0)) (aCons (dC (.int 1)) aNil)))) sSkip)
  (sSeq (sIf (dOp oEq (dVar 2) (dC (.int 1))) (sRet (dTup (aCons (dC (.int 1)) (aCons (dC (.int 1)) aNil)))) sSkip)
  (sSeq (sIf (dOp oLt (dVar 2) (dC (.int 4))) (sSeq (sSetF 4 (dCB oSum (aCons (dLc (dIter (dVar 1)) (tgT 2 (tgsCons (tgN 5) (tgsCons (tgN 6) tgsNil))) (fun E => .val .P (.bl true) E.st) ce_law_spot_1 [5, 6]) aNil)))
  (sRet (dCall F_law_low (aCons (dCB oSum (aCons (dLc (dIter (dSl oSl (dVar 1) (fun _ => none) (fun e => some ((dVar 3) e)))) (tgT 2 (tgsCons (tgN 5) (tgsCons (tgN 6) tgsNil))) (fun E => .val .P (.bl true) E.st) ce_law_spot_2 [5, 6]) aNil)) (aCons (dVar 4) aNil))))) sSkip)
  (sRet (dCall F_law_place (aCons (dVar 0) aNil))))))))
noncomputable def F_law_spot : List D → Sto → ER := fnD 2 7 g_law_spot
noncomputable def ce_law_made_1 : En → ER :=
  (dTup (aCons (dOp oAdd (dOp oMod (dVar 5) (dC (.int 499))) (dC (.int 1))) (aCons (dOp oMod (dVar 6) (dC (.int 499999999))) aNil)))
theorem q_ce_law_made_1 {e : En} : ce_law_made_1 e = (dTup (aCons (dOp oAdd (dOp oMod (dVar 5) (dC (.int 499))) (dC (.int 1))) (aCons (dOp oMod (dVar 6) (dC (.int 499999999))) aNil))) e := rfl
noncomputable def ce_law_made_2 : En → ER :=
  (dTup (aCons (dOp oMul (dC (.int 2)) (dVar 5)) (aCons (dOp oMul (dC (.int 2)) (dVar 6)) aNil)))
theorem q_ce_law_made_2 {e : En} : ce_law_made_2 e = (dTup (aCons (dOp oMul (dC (.int 2)) (dVar 5)) (aCons (dOp oMul (dC (.int 2)) (dVar 6)) aNil))) e := rfl
noncomputable def fb_law_made_3 : En → SR :=
  (sSetF 3 (dOp oAdd (dVar 3) (dLst (aCons (dTup (aCons (dVar 5) (aCons (dVar 6) aNil))) (aCons (dTup (aCons (dVar 5) (aCons (dVar 6) aNil))) aNil)))))
theorem q_fb_law_made_3 {e : En} : fb_law_made_3 e = (sSetF 3 (dOp oAdd (dVar 3) (dLst (aCons (dTup (aCons (dVar 5) (aCons (dVar 6) aNil))) (aCons (dTup (aCons (dVar 5) (aCons (dVar 6) aNil))) aNil))))) e := rfl
noncomputable def ce_law_made_4 : En → ER :=
  (dTup (aCons (dVar 5) (aCons (dOp oMul (dC (.int 2)) (dVar 6)) aNil)))
theorem q_ce_law_made_4 {e : En} : ce_law_made_4 e = (dTup (aCons (dVar 5) (aCons (dOp oMul (dC (.int 2)) (dVar 6)) aNil))) e := rfl
noncomputable def g_law_made : En → SR :=
  (sSeq (sSet 1 (dLc (dIter (dCall F_law_rows (aCons (dVar 0) (aCons (dC (.int 4)) aNil)))) (tgT 2 (tgsCons (tgN 5) (tgsCons (tgN 6) tgsNil))) (fun E => .val .P (.bl true) E.st) ce_law_made_1 [5, 6]))
  (sSeq (sSetI 1 (dTup (aCons (dOp oIx (dOp oIx (dVar 1) (dC (.int 0))) (dC (.int 0))) (aCons (dOp oAdd (dOp oIx (dOp oIx (dVar 1) (dC (.int 0))) (dC (.int 1))) (dC (.int 1))) aNil))) (dC (.int 0)))
  (sSeq (sSetF 2 (dLc (dIterV 1) (tgT 2 (tgsCons (tgN 5) (tgsCons (tgN 6) tgsNil))) (fun E => .val .P (.bl true) E.st) ce_law_made_2 [5, 6]))
  (sSeq (sSetF 3 (dLst aNil))
  (sFrz 1 (sSeq (sFor (dIter (dVar 1)) (tgT 2 (tgsCons (tgN 5) (tgsCons (tgN 6) tgsNil))) fb_law_made_3)
  (sSeq (sSetF 4 (dLc (dIterV 1) (tgT 2 (tgsCons (tgN 5) (tgsCons (tgN 6) tgsNil))) (fun E => .val .P (.bl true) E.st) ce_law_made_4 [5, 6]))
  (sRet (dTup (aCons (dVar 2) (aCons (dVar 3) (aCons (dVar 4) aNil))))))))))))
noncomputable def F_law_made : List D → Sto → ER := fnD 1 7 g_law_made
noncomputable def fb_Table_worth_1 : En → SR :=
  (sSetF 3 (dCall F_plus (aCons (dVar 3) (aCons (dVar 6) aNil))))
theorem q_fb_Table_worth_1 {e : En} : fb_Table_worth_1 e = (sSetF 3 (dCall F_plus (aCons (dVar 3) (aCons (dVar 6) aNil)))) e := rfl
noncomputable def g_Table_worth : En → SR :=
  (sSeq (sSetF 1 (dIf (dOp oIsN (dVar 1) (dC .non)) (dC (.tup [(.int 0), (.int 1)])) (dVar 1)))
  (sSeq (sSetF 2 (dIf (dOp oIsN (dVar 2) (dC .non)) (dC (.tup [(.int 1), (.int 1)])) (dVar 2)))
  (sSeq (sDrop (dCall F_ask_span (aCons (dVar 1) (aCons (dVar 2) aNil))))
  (sSeq (sSetF 3 (dTup (aCons (dC (.int 0)) (aCons (dC (.int 1)) aNil))))
  (sSeq (sFor (dIter (dMeth 5 F_Table_between 3 0 [0, 1, 2] [] (dVar 0) (aCons (dVar 1) (aCons (dVar 2) aNil)) aNil)) (tgT 3 (tgsCons (tgN 4) (tgsCons (tgN 5) (tgsCons (tgN 6) tgsNil)))) fb_Table_worth_1)
  (sRetV 3))))))
noncomputable def F_Table_worth : List D → Sto → ER := fnD 3 7 g_Table_worth
noncomputable def fb_Table_cut_1 : En → SR :=
  (sSeq (sIf (dNot (dCall F_is_less (aCons (dVar 6) (aCons (dVar 2) aNil)))) (sRet (dCall F_plus (aCons (dVar 4) (aCons (dCall F_times (aCons (dCall F_over (aCons (dVar 2) (aCons (dVar 6) aNil))) (aCons (dCall F_minus (aCons (dVar 5) (aCons (dVar 4) aNil))) aNil))) aNil)))) sSkip)
  (sSetF 2 (dCall F_minus (aCons (dVar 2) (aCons (dVar 6) aNil)))))
theorem q_fb_Table_cut_1 {e : En} : fb_Table_cut_1 e = (sSeq (sIf (dNot (dCall F_is_less (aCons (dVar 6) (aCons (dVar 2) aNil)))) (sRet (dCall F_plus (aCons (dVar 4) (aCons (dCall F_times (aCons (dCall F_over (aCons (dVar 2) (aCons (dVar 6) aNil))) (aCons (dCall F_minus (aCons (dVar 5) (aCons (dVar 4) aNil))) aNil))) aNil)))) sSkip)
  (sSetF 2 (dCall F_minus (aCons (dVar 2) (aCons (dVar 6) aNil))))) e := rfl
noncomputable def g_Table_cut : En → SR :=
  (sSeq (sSetF 3 (dIf (dOp oIsN (dVar 3) (dC .non)) (dC (.tup [(.int 1), (.int 1)])) (dVar 3)))
  (sSeq (sDrop (dCall F_ask_span (aCons (dVar 1) (aCons (dVar 3) aNil))))
  (sSeq (sIf (dCall F_is_less (aCons (dVar 2) (aCons (dTup (aCons (dC (.int 0)) (aCons (dC (.int 1)) aNil))) aNil))) (sRaise 4) sSkip)
  (sSeq (sIf (dOp oEq (dOp oIx (dVar 2) (dC (.int 0))) (dC (.int 0))) (sRetV 1) sSkip)
  (sSeq (sFor (dIter (dMeth 5 F_Table_between 3 0 [0, 1, 2] [] (dVar 0) (aCons (dVar 1) (aCons (dVar 3) aNil)) aNil)) (tgT 3 (tgsCons (tgN 4) (tgsCons (tgN 5) (tgsCons (tgN 6) tgsNil)))) fb_Table_cut_1)
  (sRet (dC .non)))))))
noncomputable def F_Table_cut : List D → Sto → ER := fnD 4 7 g_Table_cut
noncomputable def fb_law_cuts_right_1 : En → SR :=
  (sIf (dOr (dOp oNe (dMeth 5 F_Table_cut 4 0 [0, 1, 2, 3] [.non] (dVar 10) (aCons (dVar 2) (aCons (dVar 5) (aCons (dVar 4) aNil))) aNil) (dVar 7)) (dOp oNe (dMeth 5 F_Table_cut 3 0 [0, 1, 2, 3] [.non] (dVar 10) (aCons (dVar 2) (aCons (dVar 8) aNil)) aNil) (dMeth 5 F_Table_cut 3 0 [0, 1, 2, 3] [.non] (dVar 0) (aCons (dVar 2) (aCons (dVar 8) aNil)) aNil))) (sRet (dC (.bl false))) sSkip)
theorem q_fb_law_cuts_right_1 {e : En} : fb_law_cuts_right_1 e = (sIf (dOr (dOp oNe (dMeth 5 F_Table_cut 4 0 [0, 1, 2, 3] [.non] (dVar 10) (aCons (dVar 2) (aCons (dVar 5) (aCons (dVar 4) aNil))) aNil) (dVar 7)) (dOp oNe (dMeth 5 F_Table_cut 3 0 [0, 1, 2, 3] [.non] (dVar 10) (aCons (dVar 2) (aCons (dVar 8) aNil)) aNil) (dMeth 5 F_Table_cut 3 0 [0, 1, 2, 3] [.non] (dVar 0) (aCons (dVar 2) (aCons (dVar 8) aNil)) aNil))) (sRet (dC (.bl false))) sSkip) e := rfl
noncomputable def g_law_cuts_right : En → SR :=
  (sSeq (sSetF 5 (dMeth 5 F_Table_worth 3 0 [0, 1, 2] [.non, .non] (dVar 0) (aCons (dVar 2) (aCons (dVar 3) aNil)) aNil))
  (sSeq (sSetF 6 (dMeth 5 F_Table_worth 3 0 [0, 1, 2] [.non, .non] (dVar 0) (aCons (dVar 3) (aCons (dVar 4) aNil)) aNil))
  (sSeq (sSetF 7 (dMeth 5 F_Table_cut 4 0 [0, 1, 2, 3] [.non] (dVar 0) (aCons (dVar 2) (aCons (dVar 5) (aCons (dVar 4) aNil))) aNil))
  (sSeq (sIf (dOr (dOp oIsN (dVar 7) (dC .non)) (dOr (dCall F_law_less (aCons (dVar 3) (aCons (dVar 7) aNil))) (dOp oNe (dMeth 5 F_Table_worth 3 0 [0, 1, 2] [.non, .non] (dVar 0) (aCons (dVar 7) (aCons (dVar 3) aNil)) aNil) (dTup (aCons (dC (.int 0)) (aCons (dC (.int 1)) aNil)))))) (sRet (dC (.bl false))) sSkip)
  (sSeq (sSetF 8 (dCall F_law_plus (aCons (dVar 5) (aCons (dVar 6) aNil))))
  (sSeq (sSetF 9 (dMeth 5 F_Table_cut 4 0 [0, 1, 2, 3] [.non] (dVar 0) (aCons (dVar 2) (aCons (dVar 8) (aCons (dVar 4) aNil))) aNil))
  (sSeq (sIf (dOr (dOp oIsN (dVar 9) (dC .non)) (dAnd (dOp oGt (dOp oIx (dVar 6) (dC (.int 0))) (dC (.int 0))) (dOp oNe (dVar 9) (dMeth 5 F_Table_cut 4 0 [0, 1, 2, 3] [.non] (dVar 0) (aCons (dVar 7) (aCons (dVar 6) (aCons (dVar 4) aNil))) aNil)))) (sRet (dC (.bl false))) sSkip)
  (sSeq (sFor (dIter (dVar 1)) (tgN 10) fb_law_cuts_right_1)
  (sRet (dOp oIsN (dMeth 5 F_Table_cut 4 0 [0, 1, 2, 3] [.non] (dVar 0) (aCons (dVar 2) (aCons (dCall F_law_plus (aCons (dVar 8) (aCons (dTup (aCons (dC (.int 1)) (aCons (dC (.int 7)) aNil))) aNil))) (aCons (dVar 4) aNil))) aNil) (dC .non)))))))))))
noncomputable def F_law_cuts_right : List D → Sto → ER := fnD 5 11 g_law_cuts_right
noncomputable def ce_law_1 : En → ER :=
  (dOp oEq (dMeth 5 F_Table_worth 3 0 [0, 1, 2] [.non, .non] (dVar 15) (aCons (dVar 12) (aCons (dVar 14) aNil)) aNil) (dVar 5))
theorem q_ce_law_1 {e : En} : ce_law_1 e = (dOp oEq (dMeth 5 F_Table_worth 3 0 [0, 1, 2] [.non, .non] (dVar 15) (aCons (dVar 12) (aCons (dVar 14) aNil)) aNil) (dVar 5)) e := rfl
noncomputable def ce_law_2 : En → ER :=
  (dOp oIn (dVar 16) (dMeth 5 F_Table_ends 1 0 [0] [] (dOp oIx (dVar 3) (dC (.int 0))) aNil aNil))
theorem q_ce_law_2 {e : En} : ce_law_2 e = (dOp oIn (dVar 16) (dMeth 5 F_Table_ends 1 0 [0] [] (dOp oIx (dVar 3) (dC (.int 0))) aNil aNil)) e := rfl
noncomputable def fb_law_3 : En → SR :=
  (sSetF 7 (dCall F_law_plus (aCons (dVar 7) (aCons (dMeth 5 F_Table_worth 3 0 [0, 1, 2] [.non, .non] (dVar 2) (aCons (dOp oIx (dVar 6) (dVar 8)) (aCons (dOp oIx (dVar 6) (dOp oAdd (dVar 8) (dC (.int 1)))) aNil)) aNil) aNil))))
theorem q_fb_law_3 {e : En} : fb_law_3 e = (sSetF 7 (dCall F_law_plus (aCons (dVar 7) (aCons (dMeth 5 F_Table_worth 3 0 [0, 1, 2] [.non, .non] (dVar 2) (aCons (dOp oIx (dVar 6) (dVar 8)) (aCons (dOp oIx (dVar 6) (dOp oAdd (dVar 8) (dC (.int 1)))) aNil)) aNil) aNil)))) e := rfl
noncomputable def k_law_17 : En → SR :=
  (sRet (dCall F_law_cuts_right (aCons (dVar 2) (aCons (dVar 3) (aCons (dVar 12) (aCons (dVar 13) (aCons (dVar 14) aNil)))))))
theorem q_k_law_17 {e : En} : k_law_17 e = (sRet (dCall F_law_cuts_right (aCons (dVar 2) (aCons (dVar 3) (aCons (dVar 12) (aCons (dVar 13) (aCons (dVar 14) aNil))))))) e := rfl
noncomputable def k_law_16 : En → SR :=
  (sSeq (sIf (dOr (dOp oNe (dVar 7) (dTup (aCons (dMeth 5 F_Table_total 1 0 [0] [] (dVar 2) aNil aNil) (aCons (dC (.int 1)) aNil)))) (dOp oNe (dLenX [(5, F_Table___len__)] (dOp oIx (dVar 3) (dC (.int 0)))) (dOp oMul (dC (.int 2)) (dLenX [(5, F_Table___len__)] (dVar 2))))) (sRet (dC (.bl false))) sSkip)
  k_law_17)
theorem q_k_law_16 {e : En} : k_law_16 e = (sSeq (sIf (dOr (dOp oNe (dVar 7) (dTup (aCons (dMeth 5 F_Table_total 1 0 [0] [] (dVar 2) aNil aNil) (aCons (dC (.int 1)) aNil)))) (dOp oNe (dLenX [(5, F_Table___len__)] (dOp oIx (dVar 3) (dC (.int 0)))) (dOp oMul (dC (.int 2)) (dLenX [(5, F_Table___len__)] (dVar 2))))) (sRet (dC (.bl false))) sSkip)
  k_law_17) e := rfl
noncomputable def k_law_15 : En → SR :=
  (sSeq (sFor (dRng rng1 (aCons (dOp oSub (dCB oLen (aCons (dVar 6) aNil)) (dC (.int 1))) aNil)) (tgN 8) fb_law_3)
  k_law_16)
theorem q_k_law_15 {e : En} : k_law_15 e = (sSeq (sFor (dRng rng1 (aCons (dOp oSub (dCB oLen (aCons (dVar 6) aNil)) (dC (.int 1))) aNil)) (tgN 8) fb_law_3)
  k_law_16) e := rfl
noncomputable def k_law_14 : En → SR :=
  (sSeq (sSetF 7 (dTup (aCons (dC (.int 0)) (aCons (dC (.int 1)) aNil))))
  k_law_15)
theorem q_k_law_14 {e : En} : k_law_14 e = (sSeq (sSetF 7 (dTup (aCons (dC (.int 0)) (aCons (dC (.int 1)) aNil))))
  k_law_15) e := rfl
noncomputable def k_law_13 : En → SR :=
  (sSeq (sIf (dOr (dNot (dCB oAll (aCons (dLc (dIter (dVar 6)) (tgN 16) (fun E => .val .P (.bl true) E.st) ce_law_2 [16]) aNil))) (dOp oNe (dMeth 5 F_Table_ends 1 0 [0] [] (dOp oIx (dVar 3) (dC (.int 1))) aNil aNil) (dVar 6))) (sRet (dC (.bl false))) sSkip)
  k_law_14)
theorem q_k_law_13 {e : En} : k_law_13 e = (sSeq (sIf (dOr (dNot (dCB oAll (aCons (dLc (dIter (dVar 6)) (tgN 16) (fun E => .val .P (.bl true) E.st) ce_law_2 [16]) aNil))) (dOp oNe (dMeth 5 F_Table_ends 1 0 [0] [] (dOp oIx (dVar 3) (dC (.int 1))) aNil aNil) (dVar 6))) (sRet (dC (.bl false))) sSkip)
  k_law_14) e := rfl
noncomputable def k_law_12 : En → SR :=
  (sSeq (sSetF 6 (dMeth 5 F_Table_ends 1 0 [0] [] (dVar 2) aNil aNil))
  k_law_13)
theorem q_k_law_12 {e : En} : k_law_12 e = (sSeq (sSetF 6 (dMeth 5 F_Table_ends 1 0 [0] [] (dVar 2) aNil aNil))
  k_law_13) e := rfl
noncomputable def k_law_11 : En → SR :=
  (sSeq (sIf (dOr (dOp oNe (dMeth 5 F_Table_worth 3 0 [0, 1, 2] [.non, .non] (dVar 4) (aCons (dCall F_law_turned (aCons (dVar 14) aNil)) (aCons (dCall F_law_turned (aCons (dVar 12) aNil)) aNil)) aNil) (dVar 5)) (dOr (dInO [(5, F_Table___eq__)] [5] oIn (dVar 2) (dVar 3)) (dEqO [(5, F_Table___eq__)] [5] false oEq (dOp oIx (dVar 3) (dC (.int 0))) (dOp oIx (dVar 3) (dC (.int 1)))))) (sRet (dC (.bl false))) sSkip)
  k_law_12)
theorem q_k_law_11 {e : En} : k_law_11 e = (sSeq (sIf (dOr (dOp oNe (dMeth 5 F_Table_worth 3 0 [0, 1, 2] [.non, .non] (dVar 4) (aCons (dCall F_law_turned (aCons (dVar 14) aNil)) (aCons (dCall F_law_turned (aCons (dVar 12) aNil)) aNil)) aNil) (dVar 5)) (dOr (dInO [(5, F_Table___eq__)] [5] oIn (dVar 2) (dVar 3)) (dEqO [(5, F_Table___eq__)] [5] false oEq (dOp oIx (dVar 3) (dC (.int 0))) (dOp oIx (dVar 3) (dC (.int 1)))))) (sRet (dC (.bl false))) sSkip)
  k_law_12) e := rfl
noncomputable def k_law_10 : En → SR :=
  (sSeq (sIf (dNot (dCB oAll (aCons (dLc (dIter (dVar 3)) (tgN 15) (fun E => .val .P (.bl true) E.st) ce_law_1 [15]) aNil))) (sRet (dC (.bl false))) sSkip)
  k_law_11)
theorem q_k_law_10 {e : En} : k_law_10 e = (sSeq (sIf (dNot (dCB oAll (aCons (dLc (dIter (dVar 3)) (tgN 15) (fun E => .val .P (.bl true) E.st) ce_law_1 [15]) aNil))) (sRet (dC (.bl false))) sSkip)
  k_law_11) e := rfl
noncomputable def k_law_9 : En → SR :=
  (sSeq (sSetF 5 (dMeth 5 F_Table_worth 3 0 [0, 1, 2] [.non, .non] (dVar 2) (aCons (dVar 12) (aCons (dVar 14) aNil)) aNil))
  k_law_10)
theorem q_k_law_9 {e : En} : k_law_9 e = (sSeq (sSetF 5 (dMeth 5 F_Table_worth 3 0 [0, 1, 2] [.non, .non] (dVar 2) (aCons (dVar 12) (aCons (dVar 14) aNil)) aNil))
  k_law_10) e := rfl
noncomputable def k_law_8 : En → SR :=
  (sSeq (sSetF 4 (dMake 5 F_Table___init__ 2 0 [0, 1] [] (aCons (dRev (dVar 9)) aNil) aNil))
  k_law_9)
theorem q_k_law_8 {e : En} : k_law_8 e = (sSeq (sSetF 4 (dMake 5 F_Table___init__ 2 0 [0, 1] [] (aCons (dRev (dVar 9)) aNil) aNil))
  k_law_9) e := rfl
noncomputable def k_law_7 : En → SR :=
  (sSeq (sSetF 3 (dLst (aCons (dMake 5 F_Table___init__ 2 0 [0, 1] [] (aCons (dVar 10) aNil) aNil) (aCons (dMake 5 F_Table___init__ 2 0 [0, 1] [] (aCons (dVar 11) aNil) aNil) aNil))))
  k_law_8)
theorem q_k_law_7 {e : En} : k_law_7 e = (sSeq (sSetF 3 (dLst (aCons (dMake 5 F_Table___init__ 2 0 [0, 1] [] (aCons (dVar 10) aNil) aNil) (aCons (dMake 5 F_Table___init__ 2 0 [0, 1] [] (aCons (dVar 11) aNil) aNil) aNil))))
  k_law_8) e := rfl
noncomputable def k_law_6 : En → SR :=
  (sSeq (sSetF 2 (dMake 5 F_Table___init__ 2 0 [0, 1] [] (aCons (dVar 9) aNil) aNil))
  k_law_7)
theorem q_k_law_6 {e : En} : k_law_6 e = (sSeq (sSetF 2 (dMake 5 F_Table___init__ 2 0 [0, 1] [] (aCons (dVar 9) aNil) aNil))
  k_law_7) e := rfl
noncomputable def k_law_5 : En → SR :=
  (sSeq (sIf (dCall F_law_less (aCons (dVar 14) (aCons (dVar 13) aNil))) (sAsg (tgT 2 (tgsCons (tgN 13) (tgsCons (tgN 14) tgsNil))) (dTup (aCons (dVar 14) (aCons (dVar 13) aNil)))) sSkip)
  k_law_6)
theorem q_k_law_5 {e : En} : k_law_5 e = (sSeq (sIf (dCall F_law_less (aCons (dVar 14) (aCons (dVar 13) aNil))) (sAsg (tgT 2 (tgsCons (tgN 13) (tgsCons (tgN 14) tgsNil))) (dTup (aCons (dVar 14) (aCons (dVar 13) aNil)))) sSkip)
  k_law_6) e := rfl
noncomputable def k_law_4 : En → SR :=
  (sSeq (sIf (dCall F_law_less (aCons (dVar 13) (aCons (dVar 12) aNil))) (sAsg (tgT 2 (tgsCons (tgN 12) (tgsCons (tgN 13) tgsNil))) (dTup (aCons (dVar 13) (aCons (dVar 12) aNil)))) sSkip)
  k_law_5)
theorem q_k_law_4 {e : En} : k_law_4 e = (sSeq (sIf (dCall F_law_less (aCons (dVar 13) (aCons (dVar 12) aNil))) (sAsg (tgT 2 (tgsCons (tgN 12) (tgsCons (tgN 13) tgsNil))) (dTup (aCons (dVar 13) (aCons (dVar 12) aNil)))) sSkip)
  k_law_5) e := rfl
noncomputable def k_law_3 : En → SR :=
  (sSeq (sIf (dCall F_law_less (aCons (dVar 14) (aCons (dVar 12) aNil))) (sAsg (tgT 2 (tgsCons (tgN 12) (tgsCons (tgN 14) tgsNil))) (dTup (aCons (dVar 14) (aCons (dVar 12) aNil)))) sSkip)
  k_law_4)
theorem q_k_law_3 {e : En} : k_law_3 e = (sSeq (sIf (dCall F_law_less (aCons (dVar 14) (aCons (dVar 12) aNil))) (sAsg (tgT 2 (tgsCons (tgN 12) (tgsCons (tgN 14) tgsNil))) (dTup (aCons (dVar 14) (aCons (dVar 12) aNil)))) sSkip)
  k_law_4) e := rfl
noncomputable def k_law_2 : En → SR :=
  (sSeq (sAsg (tgT 3 (tgsCons (tgN 12) (tgsCons (tgN 13) (tgsCons (tgN 14) tgsNil)))) (dLst (aCons (dCall F_law_spot (aCons (dVar 1) (aCons (dVar 9) aNil))) (aCons (dCall F_law_spot (aCons (dVar 1) (aCons (dVar 9) aNil))) (aCons (dCall F_law_spot (aCons (dVar 1) (aCons (dVar 9) aNil))) aNil)))))
  k_law_3)
theorem q_k_law_2 {e : En} : k_law_2 e = (sSeq (sAsg (tgT 3 (tgsCons (tgN 12) (tgsCons (tgN 13) (tgsCons (tgN 14) tgsNil)))) (dLst (aCons (dCall F_law_spot (aCons (dVar 1) (aCons (dVar 9) aNil))) (aCons (dCall F_law_spot (aCons (dVar 1) (aCons (dVar 9) aNil))) (aCons (dCall F_law_spot (aCons (dVar 1) (aCons (dVar 9) aNil))) aNil)))))
  k_law_3) e := rfl
noncomputable def k_law_1 : En → SR :=
  (sSeq (sAsg (tgT 3 (tgsCons (tgN 9) (tgsCons (tgN 10) (tgsCons (tgN 11) tgsNil)))) (dCall F_law_made (aCons (dVar 1) aNil)))
  k_law_2)
theorem q_k_law_1 {e : En} : k_law_1 e = (sSeq (sAsg (tgT 3 (tgsCons (tgN 9) (tgsCons (tgN 10) (tgsCons (tgN 11) tgsNil)))) (dCall F_law_made (aCons (dVar 1) aNil)))
  k_law_2) e := rfl
noncomputable def g_law : En → SR :=
  (sSeq (sSetF 1 (dCall F_law_box (aCons (dVar 0) aNil)))
  k_law_1)
noncomputable def F_law : List D → Sto → ER := fnD 1 17 g_law
end Dn
namespace Dn
open PySem PySem.Spec PyProof.Rows L2
theorem divisor_eq (a b : Int) (st : Sto) : F_divisor [.int a, .int b] st = .val .P (.int (Int.gcd a b)) st := by
  simp [F_divisor, g_divisor, wc_divisor_1, wb_divisor_2, absI, gcd_while]
  rfl
theorem fraction_of_eq {t b : Int} (hb : b ≠ 0) (h : b.natAbs.log2 < 9000) (st : Sto) : F_fraction_of [.int t, .int b] st = .val .P (dF (Rat.divInt t b)) st := by
  obtain ⟨h1, h2⟩ := sgd_log (t := t) hb h
  obtain ⟨e1, e2⟩ := low_num t b hb
  unfold dF
  rw [← e1, ← e2]
  by_cases hn : b < 0
  · simp [F_fraction_of, g_fraction_of, hb, divisor_eq, hn, h1, h2]
  · simp [F_fraction_of, g_fraction_of, hb, divisor_eq, hn, h1, h2]
theorem plus_eq {a b : Rat} {m n : Nat} (ha : Sz m a) (hb : Sz n b) (h : m + n < 9000) (st : Sto) : F_plus [dF a, dF b] st = .val .P (dF (a + b)) st := by
  have m1 := bit_log2 ha.1 hb.den (by omega)
  have m2 := bit_log2 hb.1 ha.den (by omega)
  have m3 := bit_log2 ha.den hb.den (by omega)
  have f := fun t => fraction_of_eq (t := t) (den2 a b) (bit_log (bit_mul ha.den hb.den) h) st
  rw [q_add]
  simp only [Int.natAbs_natCast] at m1 m2 m3
  simp [F_plus, g_plus, m1, m2, m3, f]
theorem minus_eq {a b : Rat} {m n : Nat} (ha : Sz m a) (hb : Sz n b) (h : m + n < 9000) (st : Sto) : F_minus [dF a, dF b] st = .val .P (dF (a - b)) st := by
  have m1 := bit_log2 ha.1 hb.den (by omega)
  have m2 := bit_log2 hb.1 ha.den (by omega)
  have m3 := bit_log2 ha.den hb.den (by omega)
  have f := fun t => fraction_of_eq (t := t) (den2 a b) (bit_log (bit_mul ha.den hb.den) h) st
  rw [q_sub]
  simp only [Int.natAbs_natCast] at m1 m2 m3
  simp [F_minus, g_minus, m1, m2, m3, f]
theorem times_eq {a b : Rat} {m n : Nat} (ha : Sz m a) (hb : Sz n b) (h : m + n < 9000) (st : Sto) : F_times [dF a, dF b] st = .val .P (dF (a * b)) st := by
  have m1 := bit_log2 ha.1 hb.1 (by omega)
  have m3 := bit_log2 ha.den hb.den (by omega)
  have f := fun t => fraction_of_eq (t := t) (den2 a b) (bit_log (bit_mul ha.den hb.den) h) st
  rw [q_mul]
  simp only [Int.natAbs_natCast] at m1 m3
  simp [F_times, g_times, m1, m3, f]
theorem over_eq {a b : Rat} {m n : Nat} (ha : Sz m a) (hb : Sz n b) (hz : b ≠ 0) (h : m + n < 9000) (st : Sto) : F_over [dF a, dF b] st = .val .P (dF (a / b)) st := by
  have m1 := bit_log2 ha.1 hb.den (by omega)
  have m3 := bit_log2 ha.den hb.1 (by omega)
  have hd : (a.den : Int) * b.num ≠ 0 := Int.mul_ne_zero (by have := den_pos a; omega) (num_ne hz)
  have f := fun t => fraction_of_eq (t := t) hd (bit_log (bit_mul ha.den hb.1) h) st
  rw [q_div]
  simp only [Int.natAbs_natCast] at m1 m3
  simp [F_over, g_over, m1, m3, f]
theorem is_less_eq {a b : Rat} {m n : Nat} (ha : Sz m a) (hb : Sz n b) (h : m + n < 900000) (st : Sto) : F_is_less [dF a, dF b] st = .val .P (.bl (decide (a < b))) st := by
  have m1 := bit_log2 ha.1 hb.den (by omega)
  have m2 := bit_log2 hb.1 ha.den (by omega)
  simp only [Int.natAbs_natCast] at m1 m2
  simp [F_is_less, g_is_less, m1, m2, lt_num]
theorem lesser_eq {a b : Rat} {m n : Nat} (ha : Sz m a) (hb : Sz n b) (h : m + n < 9000) (st : Sto) : F_lesser [dF a, dF b] st = .val .P (dF (if b < a then b else a)) st := by
  have := is_less_eq hb ha (by omega) st
  by_cases c : b < a <;> simp [F_lesser, g_lesser, this, c]
theorem greater_eq {a b : Rat} {m n : Nat} (ha : Sz m a) (hb : Sz n b) (h : m + n < 9000) (st : Sto) : F_greater [dF a, dF b] st = .val .P (dF (if a < b then b else a)) st := by
  have := is_less_eq ha hb (by omega) st
  by_cases c : a < b <;> simp [F_greater, g_greater, this, c]
theorem low_wh (st : Sto) : ∀ (b a : Nat) (x y : SL), ∃ n, whN wc_law_low_1 wb_law_low_2 n ⟨[x, y, .val (.int a), .val (.int b)], st⟩ = some (.nx ⟨[x, y, .val (.int (Nat.gcd a b)), .val (.int 0)], st⟩) := by
  intro b
  induction b using Nat.strongRecOn with
  | ind b ih =>
    intro a x y
    by_cases hb : b = 0
    · subst hb
      refine ⟨1, ?_⟩
      rw [e_wh (x := false) (m := .P) (st1 := st) (by simp [q_wc_law_low_1])]
      simp
    · obtain ⟨n, hn⟩ := ih (a % b) (Nat.mod_lt _ (Nat.pos_of_ne_zero hb)) b x y
      refine ⟨n + 1, ?_⟩
      rw [e_wh (x := true) (m := .P) (st1 := st) (by simp [q_wc_law_low_1]; omega)]
      have hm : (a : Int).fmod (b : Int) = ((a % b : Nat) : Int) := by
        rw [Int.fmod_eq_emod_of_nonneg _ (Int.natCast_nonneg b)]
        rfl
      have hb' : ¬ (b : Int) = 0 := by omega
      simp only [if_true, q_wb_law_low_2, e_sPar, e_aCons, e_aNil, e_dVar, e_dOp, List.getElem?_cons_succ, List.getElem?_cons_zero, ER.bind_val, e_oMod_1, cons_P, acons_ok, ne_eq, hb', not_false_eq_true, Bool.and_self, List.set_cons_zero, List.set_cons_succ, hm]
      rw [hn]
      have : Nat.gcd a b = Nat.gcd b (a % b) := by
        rw [Nat.gcd_comm a b, Nat.gcd_rec b a, Nat.gcd_comm]
      rw [this]
theorem law_low_eq {t b : Int} (hb : b ≠ 0) (h : b.natAbs.log2 < 9000) (st : Sto) : F_law_low [.int t, .int b] st = .val .P (dF (Rat.divInt t b)) st := by
  obtain ⟨h1, h2⟩ := sgd_log (t := t) hb h
  obtain ⟨e1, e2⟩ := low_num t b hb
  unfold dF
  rw [← e1, ← e2]
  have hw : ∀ x y : SL, ∀ a b : Nat, sWhile wc_law_low_1 wb_law_low_2 ⟨[x, y, .val (.int a), .val (.int b)], st⟩ = .nx ⟨[x, y, .val (.int (Nat.gcd a b)), .val (.int 0)], st⟩ := fun x y a b => by
    obtain ⟨n, h⟩ := low_wh st b a x y
    exact sWhile_eq h
  have hg : Nat.gcd t.natAbs b.natAbs = Int.gcd t b := rfl
  simp only [F_law_low, g_law_low, e_fnD, e_startE, e_sSeq, e_sSetF, e_dCB, e_aCons, e_aNil, e_dVar, List.map_cons, List.map_nil, List.length_cons, List.length_nil, if_true, List.cons_append, List.nil_append, List.replicate, List.getElem?_cons_succ, List.getElem?_cons_zero, Nat.reduceAdd, Nat.reduceSub, cons_P, acons_ok, e_oAbs_1, absI, SR.bind_nx, List.set_cons_succ, List.set_cons_zero, hw, hg]
  by_cases hn : b < 0
  · simp [hn, h1, h2]
  · simp [hn, h1, h2]
theorem law_plus_eq {a b : Rat} {m n : Nat} (ha : Sz m a) (hb : Sz n b) (h : m + n < 9000) (st : Sto) : F_law_plus [dF a, dF b] st = .val .P (dF (a + b)) st := by
  have m1 := bit_log2 ha.1 hb.den (by omega)
  have m2 := bit_log2 hb.1 ha.den (by omega)
  have m3 := bit_log2 ha.den hb.den (by omega)
  have f := fun t => law_low_eq (t := t) (den2 a b) (bit_log (bit_mul ha.den hb.den) h) st
  rw [q_add]
  simp only [Int.natAbs_natCast] at m1 m2 m3
  simp [F_law_plus, g_law_plus, m1, m2, m3, f]
theorem law_less_eq {a b : Rat} {m n : Nat} (ha : Sz m a) (hb : Sz n b) (h : m + n < 900000) (st : Sto) : F_law_less [dF a, dF b] st = .val .P (.bl (decide (a < b))) st := by
  have m1 := bit_log2 ha.1 hb.den (by omega)
  have m2 := bit_log2 hb.1 ha.den (by omega)
  simp only [Int.natAbs_natCast] at m1 m2
  simp [F_law_less, g_law_less, m1, m2, lt_num]
theorem fmod_in (x : Int) {s : Int} (h : 0 < s) : 0 ≤ x.fmod s ∧ x.fmod s < s := ⟨Int.fmod_nonneg_of_pos x h, Int.fmod_lt_of_pos x h⟩
theorem atI_ok {α : Type} {l : List α} {i : Int} (h0 : 0 ≤ i) (h : i < l.length) : ∃ x, atI l i = some x := by
  have hi : i.toNat < l.length := by omega
  refine ⟨l[i.toNat], ?_⟩
  have := atI_nat (List.getElem?_eq_getElem hi)
  rwa [Int.toNat_of_nonneg h0] at this
theorem mixed_ex (c k : Int) (h0 : 0 ≤ k) (h1 : k ≤ 1000000) : ∃ r : Int, 0 ≤ r ∧ r < 1000000007 ∧ ∀ st, F_law_mixed [.int c, .int k] st = .val .P (.int r) st := by
  have hc := fmod_in c (s := 2147483647) (by decide)
  have hkk : (1009 : Int) * k * k ≤ 1009 * 1000000 * 1000000 := Int.mul_le_mul (by omega) h1 h0 (by omega)
  have hkk0 : (0 : Int) ≤ 1009 * k * k := Int.mul_nonneg (by omega) h0
  have q1 : (1009 : Int).natAbs.log2 + k.natAbs.log2 < 1000000 := mul_ok (a := 20) (b := 30) (by decide) (by omega) (by decide) (by decide) (by decide)
  have q2 : (1009 * k).natAbs.log2 + k.natAbs.log2 < 1000000 := mul_ok (a := 60) (b := 30) (by omega) (by omega) (by decide) (by decide) (by decide)
  have q3 : (48611 : Int).natAbs.log2 + k.natAbs.log2 < 1000000 := mul_ok (a := 20) (b := 30) (by decide) (by omega) (by decide) (by decide) (by decide)
  generalize hb : (c.fmod 2147483647 + 1009 * k * k + 48611 * k + 17) = bb
  have q4 : bb.natAbs < 2 ^ 64 := by omega
  have hm := fmod_in (bb ^ 5) (s := 2147483647) (by decide)
  generalize hw : (bb ^ 5).fmod 2147483647 = w at hm
  have q5 : w.natAbs.log2 + (39373 : Int).natAbs.log2 < 1000000 := mul_ok (a := 40) (b := 20) (by omega) (by decide) (by decide) (by decide) (by decide)
  have q6 : (7919 : Int).natAbs.log2 + k.natAbs.log2 < 1000000 := mul_ok (a := 20) (b := 30) (by decide) (by omega) (by decide) (by decide) (by decide)
  have hr := fmod_in (w * 39373 + 7919 * k) (s := 1000000007) (by decide)
  refine ⟨_, hr.1, hr.2, fun st => ?_⟩
  simp only [F_law_mixed, g_law_mixed, e_fnD, e_startE, e_sSeq, e_sSetF, e_dOp, e_dVar, e_dC, List.map_cons, List.map_nil, List.length_cons, List.length_nil, if_true, List.cons_append, List.nil_append, List.replicate, List.getElem?_cons_succ, List.getElem?_cons_zero, ER.bind_val, e_oMod_1, e_oMul_1, e_oAdd_1, e_oPow_1, q1, q2, q3, hb, q4, hw, q5, q6]
  have q4' : bb.natAbs < 18446744073709551616 := q4
  simp +decide [hb, q4', hw, q5, q6]
  simp +decide at q5 q6
  simp +decide [q5, q6]
def Box (p q N : Nat) (st : Sto) : Prop := p ≠ q ∧ ∃ (g sm : List Int) (a c : Int), st[q]? = some (.lst (g.map .int)) ∧ st[p]? = some (.lst [.ptr q, .int a, .lst (sm.map .int), .int c]) ∧ 0 ≤ a ∧ 0 ≤ c ∧ c ≤ N ∧ (∀ x ∈ g, 0 < x) ∧ g.length ≤ 63 ∧ sm.length ≤ 63
def Rest (p q : Nat) (st st' : Sto) : Prop := st'.length = st.length ∧ ∀ m, m ≠ p → m ≠ q → st'[m]? = st[m]?
theorem Rest.refl {p q : Nat} {st : Sto} : Rest p q st st := ⟨rfl, fun _ _ _ => rfl⟩
theorem Rest.trans {p q : Nat} {s t u : Sto} (h : Rest p q s t) (k : Rest p q t u) : Rest p q s u := ⟨k.1.trans h.1, fun m a b => (k.2 m a b).trans (h.2 m a b)⟩
theorem Box.up {p q N M : Nat} {st : Sto} (h : Box p q N st) (k : N ≤ M) : Box p q M st := by
  obtain ⟨a, g, sm, x, c, h1, h2, h3, h4, h5, h6⟩ := h
  exact ⟨a, g, sm, x, c, h1, h2, h3, h4, by omega, h6⟩
theorem take_loop {p : Nat} {st : Sto} {n c k : Int} (hn : n < 2 ^ 1000) (hst : ∃ x y z, st[p]? = some (.lst [x, y, z, .int c])) (hc0 : 0 ≤ c) (hc : c ≤ 200000) :
    ∀ (m : Nat) (f r : Int), 0 < r → 0 ≤ f → f < r → r < n * 1000000007 ∨ r = 1 → (n - r).toNat ≤ m →
      ∃ f' r', 0 ≤ f' ∧ ∃ i, whN wc_law_take_1 wb_law_take_2 i ⟨[.val (.ptr p), .val (.int n), .val (.int k), .val (.int f), .val (.int r)], st⟩ = some (.nx ⟨[.val (.ptr p), .val (.int n), .val (.int k), .val (.int f'), .val (.int r')], st⟩) := by
  obtain ⟨x, y, z, hst⟩ := hst
  intro m
  induction m with
  | zero =>
    intro f r hr hf hfr hb hm
    refine ⟨f, r, hf, 1, ?_⟩
    rw [e_wh (x := false) (m := .P) (st1 := st) (by simp [q_wc_law_take_1]; omega)]
    simp
  | succ m ih =>
    intro f r hr hf hfr hb hm
    by_cases hlt : r < n
    · obtain ⟨mx, h0, h1, hx⟩ := mixed_ex k (c + 1000 * f.fmod 89) (by have := fmod_in f (s := 89) (by decide); omega) (by have := fmod_in f (s := 89) (by decide); omega)
      obtain ⟨f', r', hf', i, hi⟩ := ih (f * 1000000007 + mx) (r * 1000000007) (by omega) (by omega) (by omega) (by omega) (by omega)
      refine ⟨f', r', hf', i + 1, ?_⟩
      rw [e_wh (x := true) (m := .P) (st1 := st) (by simp [q_wc_law_take_1]; omega)]
      have q1 : f.natAbs.log2 + Nat.log2 1000000007 < 1000000 := mul_ok (j := 1000000007) (a := 1000) (b := 40) (by omega) (by decide) (by decide) (by decide) (by decide)
      have q2 : r.natAbs.log2 + Nat.log2 1000000007 < 1000000 := mul_ok (j := 1000000007) (a := 1000) (b := 40) (by omega) (by decide) (by decide) (by decide) (by decide)
      have q3 : Nat.log2 1000 + (f.fmod 89).natAbs.log2 < 1000000 := mul_ok (i := 1000) (a := 40) (b := 40) (by decide) (by have := fmod_in f (s := 89) (by decide); omega) (by decide) (by decide) (by decide)
      simp [q_wb_law_take_2, q1, q2, q3, hst, atI, ixN, hx]
      exact hi
    · refine ⟨f, r, hf, 1, ?_⟩
      rw [e_wh (x := false) (m := .P) (st1 := st) (by simp [q_wc_law_take_1]; omega)]
      simp
theorem take_ok {p q N : Nat} {st : Sto} {n : Int} (B : Box p q N st) (h1 : 1 ≤ n) (h2 : n < 2 ^ 1000 := by decide) (hN : N ≤ 100000 := by decide) : ∃ r st', F_law_take [.ptr p, .int n] st = .val .P (.int r) st' ∧ 0 ≤ r ∧ r < n ∧ Box p q (N + 1) st' ∧ Rest p q st st' := by
  obtain ⟨pq, g, sm, a, c, hq, hp, a0, c0, cN, gp, gl, sl⟩ := B
  have qp : q ≠ p := fun h => pq h.symm
  have lp : p < st.length := (List.getElem?_eq_some_iff.mp hp).1
  have lq : q < st.length := (List.getElem?_eq_some_iff.mp hq).1
  have hn0 : ¬ n = 0 := by omega
  have hlog : n.natAbs.log2 < 9000 := Nat.lt_of_lt_of_le (log2_lt (k := 1000) (by decide) (by omega)) (by decide)
  have sp : ∀ (s : Sto) (x : Ob), s.length = st.length → (s.set p x)[p]? = some x := fun s x h => List.getElem?_set_self (by omega)
  have sq : ∀ (s : Sto) (x : Ob), s.length = st.length → (s.set q x)[q]? = some x := fun s x h => List.getElem?_set_self (by omega)
  by_cases ha : 0 < a
  · have hd := Int.fdiv_nonneg a0 (show 0 ≤ n by omega)
    refine ⟨a.fmod n, (st.set p (.lst [.ptr q, .int a, .lst (sm.map .int), .int (c + 1)])).set p (.lst [.ptr q, .int (a.fdiv n), .lst (sm.map .int), .int (c + 1)]), ?_, (fmod_in a h1).1, (fmod_in a h1).2, ⟨pq, g, sm, a.fdiv n, c + 1, ?_, ?_, hd, by omega, by omega, gp, gl, sl⟩, by simp, fun m m1 m2 => ?_⟩
    · have ha' : ¬ a = 0 := by omega
      simp [F_law_take, g_law_take, hp, hq, atI, ixN, ha, ha', sp, hn0, hlog, List.getElem?_set_ne pq]
    · simp [List.getElem?_set_ne pq, hq]
    · exact sp _ _ (by simp)
    · simp [List.getElem?_set_ne (Ne.symm m1)]
  · have ha0 : a = 0 := by omega
    subst ha0
    cases g with
    | cons x g =>
      have hx : 0 < x := gp x (List.mem_cons_self ..)
      have hd := Int.fdiv_nonneg (show 0 ≤ x by omega) (show 0 ≤ n by omega)
      refine ⟨x.fmod n, ((((st.set p (.lst [.ptr q, .int 0, .lst (sm.map .int), .int (c + 1)])).set q (.lst (g.map .int))).set p (.lst [.ptr q, .int x, .lst (sm.map .int), .int (c + 1)]))).set p (.lst [.ptr q, .int (x.fdiv n), .lst (sm.map .int), .int (c + 1)]), ?_, (fmod_in x h1).1, (fmod_in x h1).2, ⟨pq, g, sm, x.fdiv n, c + 1, ?_, ?_, hd, by omega, by omega, fun y hy => gp y (List.mem_cons_of_mem _ hy), by simp at gl; omega, sl⟩, by simp, fun m m1 m2 => ?_⟩
      · have hx' : ¬ x = 0 := by omega
        simp [F_law_take, g_law_take, hp, hq, atI, ixN, hx, hx', sp, sq, hn0, hlog, List.getElem?_set_ne pq, List.getElem?_set_ne qp, seqIndex?]
      · rw [List.getElem?_set_ne pq, List.getElem?_set_ne pq]; exact sq _ _ (by simp)
      · exact sp _ _ (by simp)
      · simp [List.getElem?_set_ne (Ne.symm m1), List.getElem?_set_ne (Ne.symm m2)]
    | nil =>
      have hS : (st.set p (.lst [.ptr q, .int 0, .lst (sm.map .int), .int (c + 1)]))[p]? = some (.lst [.ptr q, .int 0, .lst (sm.map .int), .int (c + 1)]) := sp _ _ rfl
      have hQ : (st.set p (.lst [.ptr q, .int 0, .lst (sm.map .int), .int (c + 1)]))[q]? = some (.lst []) := by rw [List.getElem?_set_ne pq]; exact hq
      have hl : (st.set p (.lst [.ptr q, .int 0, .lst (sm.map .int), .int (c + 1)])).length = st.length := by simp
      have hr : ∀ m, m ≠ p → m ≠ q → (st.set p (.lst [.ptr q, .int 0, .lst (sm.map .int), .int (c + 1)]))[m]? = st[m]? := fun m m1 m2 => List.getElem?_set_ne (Ne.symm m1)
      generalize hs : st.set p (.lst [.ptr q, .int 0, .lst (sm.map .int), .int (c + 1)]) = s at hS hQ hl hr
      have q7 : Nat.log2 7 + (c + 1).natAbs.log2 < 1000000 := mul_ok (i := 7) (a := 40) (b := 40) (by decide) (by omega) (by decide) (by decide) (by decide)
      have key : ∀ k : Int, ∃ f, 0 ≤ f ∧ f < n ∧ ((sSeq (sSetF 3 (dC (.int 0)))
          (sSeq (sSetF 4 (dC (.int 1)))
          (sSeq (sWhile wc_law_take_1 wb_law_take_2)
          (sRet (dOp oMod (dVar 3) (dVar 1)))))) ⟨[.val (.ptr p), .val (.int n), .val (.int k), .emp, .emp], s⟩) = .rt .P (.int f) s := fun k => by
        obtain ⟨f, r, hf, i, hi⟩ := take_loop (p := p) (st := s) (n := n) (c := c + 1) (k := k) h2 ⟨_, _, _, hS⟩ (by omega) (by omega) (n - 1).toNat 0 1 (by decide) (by decide) (by decide) (.inr rfl) (by omega)
        have hw := sWhile_eq hi
        refine ⟨f.fmod n, (fmod_in f h1).1, (fmod_in f h1).2, ?_⟩
        simp [hw, hn0]
      have fin : ∀ f, 0 ≤ f → f < n → F_law_take [.ptr p, .int n] st = .val .P (.int f) s → ∃ r st', F_law_take [.ptr p, .int n] st = .val .P (.int r) st' ∧ 0 ≤ r ∧ r < n ∧ Box p q (N + 1) st' ∧ Rest p q st st' := fun f h3 h4 h5 =>
        ⟨f, s, h5, h3, h4, ⟨pq, [], sm, 0, c + 1, hQ, hS, by decide, by omega, by omega, fun y hy => by simp at hy, by decide, sl⟩, hl, hr⟩
      cases sm with
      | nil =>
        obtain ⟨f, f0, f1, hf⟩ := key (7 * (c + 1))
        refine fin f f0 f1 ?_
        simp only [e_sSeq] at hf
        simp [F_law_take, g_law_take, hp, atI, ixN] at hf hs hS ⊢
        rw [hs]
        simp [hS, hQ, q7, hf, atI, ixN]
      | cons y sm =>
        have hL : (0 : Int) < ((y :: sm).length : Int) := by rw [List.length_cons]; omega
        have hfm := fmod_in (c + 1) hL
        obtain ⟨k, hk⟩ := atI_ok (l := (y :: sm).map D.int) (i := (c + 1).fmod ((y :: sm).length : Int)) hfm.1 (by rw [List.length_map]; exact hfm.2)
        have hk2 : ∃ z, k = .int z := by
          unfold atI at hk
          cases hx : ixN ((y :: sm).map D.int).length ((c + 1).fmod ((y :: sm).length : Int)) with
          | none => rw [hx] at hk; cases hk
          | some j =>
            rw [hx] at hk
            have hk' : ((y :: sm).map D.int)[j]? = some k := hk
            rw [List.getElem?_map] at hk'
            cases hj : (y :: sm)[j]? with
            | none => rw [hj] at hk'; cases hk'
            | some z => rw [hj] at hk'; exact ⟨z, (Option.some.inj hk').symm⟩
        obtain ⟨z, rfl⟩ := hk2
        obtain ⟨f, f0, f1, hf⟩ := key z
        refine fin f f0 f1 ?_
        generalize hY : y :: sm = Y at *
        have hY0 : 0 < Y.length := by rw [← hY]; simp
        have hYn : ¬ Y = [] := by rw [← hY]; simp
        have hY1 : ¬ (Y.length : Int) = 0 := by omega
        have a3 : ∀ X : D, atI [D.ptr q, .int 0, .lst (Y.map .int), X] 3 = some X := fun X => by simp [atI, ixN]
        have a2 : ∀ X : D, atI [D.ptr q, .int 0, .lst (Y.map .int), X] 2 = some (.lst (Y.map .int)) := fun X => by simp [atI, ixN]
        have a1 : ∀ X : D, atI [D.ptr q, .int 0, .lst (Y.map .int), X] 1 = some (.int 0) := fun X => by simp [atI, ixN]
        have a0' : ∀ X : D, atI [D.ptr q, .int 0, .lst (Y.map .int), X] 0 = some (.ptr q) := fun X => by simp [atI, ixN]
        have i3 : ixN 4 3 = some 3 := by decide
        simp only [e_sSeq] at hf
        simp [F_law_take, g_law_take, hp, a3, i3] at hf hs hS ⊢
        rw [hs]
        simp [hS, hQ, q7, hf, a0', a1, a2, a3, hY0, hYn, hk]
theorem keep_go (e : DE) (c f : En → ER) (v : Nat) (pr : Int → Bool) (hc : ∀ x st, c ⟨e.set v (.val (.int x)), st⟩ = .val .P (.bl (pr x)) st) (hf : ∀ x st, f ⟨e.set v (.val (.int x)), st⟩ = .val .P (.int x) st) :
    ∀ (ns : List Int) (st : Sto), lcGo (lcStep (tgN v) c f e) (ns.map .int) st = some ((ns.filter pr).map .int, st)
  | [], st => rfl
  | x :: ns, st => by
    rw [List.map_cons, e_lcC]
    have ih := keep_go e c f v pr hc hf ns st
    cases h : pr x with
    | true => simp [hc, hf, h, ih, List.filter_cons]
    | false => simp [hc, hf, h, ih, List.filter_cons]
theorem box_ok (ns : List Int) (hl : ns.length ≤ 63) : ∃ st, F_law_box [.scr ns] [] = .val .P (.ptr 1) st ∧ Box 1 0 0 st ∧ st.length = 2 := by
  have k1 := keep_go [SL.val (.scr ns), .emp, .emp] ct_law_box_2 ce_law_box_1 2 (fun x => decide (x ≥ 1000000000000000000)) (fun x st => by simp [q_ct_law_box_2]) (fun x st => by simp [q_ce_law_box_1]) ns []
  generalize hg : ns.filter (fun x => decide (x ≥ 1000000000000000000)) = g at k1
  have k2 := keep_go [SL.val (.scr ns), .val (.ptr 0), .emp] ct_law_box_4 ce_law_box_3 2 (fun x => decide (x < 1000000000000000000)) (fun x st => by simp [q_ct_law_box_4]) (fun x st => by simp [q_ce_law_box_3]) ns [.lst (g.map .int)]
  generalize hs : ns.filter (fun x => decide (x < 1000000000000000000)) = sm at k2
  have gl : g.length ≤ 63 := by rw [← hg]; exact Nat.le_trans (List.length_filter_le ..) hl
  have sl : sm.length ≤ 63 := by rw [← hs]; exact Nat.le_trans (List.length_filter_le ..) hl
  have gp : ∀ x ∈ g, 0 < x := fun x hx => by
    rw [← hg] at hx
    have := (List.mem_filter.mp hx).2
    have : x ≥ 1000000000000000000 := by simpa using this
    omega
  have hl' : ns.length ≤ 1000000 := by omega
  refine ⟨[.lst (g.map .int), .lst [.ptr 0, .int 0, .lst (sm.map .int), .int 0]], ?_, ⟨by decide, g, sm, 0, 0, rfl, rfl, by decide, by decide, by decide, gp, gl, sl⟩, rfl⟩
  simp only [F_law_box, g_law_box, e_fnD, e_startE, e_sSeq, e_sSetF, e_dPut, e_dLc, e_dIter, e_dVar, List.map_cons, List.map_nil, List.length_cons, List.length_nil, if_true, List.cons_append, List.nil_append, List.replicate, List.getElem?_cons_succ, List.getElem?_cons_zero, e_itR, List.length_map, hl', e_wipeC, e_wipe0, List.set_cons_succ, List.set_cons_zero, k1, ofOpt_some, Nat.reduceAdd, Nat.reduceSub, SR.bind_nx, e_sRet, e_dLst, e_aCons, e_aNil, e_dC, cons_P, k2, cons_N, acons_ok, Bool.and_self, Nat.reduceLeDiff, List.length_append, e_ret_rt]
theorem rows_body {p q N : Nat} {st : Sto} {s b : Int} {rows : List (Int × Int)} {x1 x5 x6 x7 x8 : SL} (B : Box p q N st) (hN : N ≤ 90000) (hs : 0 ≤ s ∧ s < 4) (hl : rows.length < 1000000) :
    ∃ w v st', fb_law_rows_1 ⟨[.val (.ptr p), x1, .val (.int s), .val (.int b), .own (rows.map dRow), x5, x6, x7, x8], st⟩ = .nx ⟨[.val (.ptr p), x1, .val (.int s), .val (.int b), .own ((rows ++ [(w, v)]).map dRow), x5, .val (.int w), .val (.int v), x8], st'⟩ ∧ RowOk (w, v) ∧ Box p q (N + 3) st' ∧ Rest p q st st' := by
  have h1 : ∃ n : Int, atI [D.int 1, .int 4, .int 30, .int 999] s = some (.int n) ∧ 1 ≤ n ∧ n ≤ 999 := by
    have : s = 0 ∨ s = 1 ∨ s = 2 ∨ s = 3 := by omega
    rcases this with rfl | rfl | rfl | rfl <;> exact ⟨_, rfl, by decide, by decide⟩
  have h2 : ∃ n : Int, atI [D.int 4, .int 10, .int 1000, .int 1000000000] s = some (.int n) ∧ 1 ≤ n ∧ n ≤ 1000000000 := by
    have : s = 0 ∨ s = 1 ∨ s = 2 ∨ s = 3 := by omega
    rcases this with rfl | rfl | rfl | rfl <;> exact ⟨_, rfl, by decide, by decide⟩
  obtain ⟨n1, e1, n1a, n1b⟩ := h1
  obtain ⟨n2, e2, n2a, n2b⟩ := h2
  obtain ⟨w, st1, t1, w0, w1, B1, R1⟩ := take_ok B n1a (by omega) (by omega)
  obtain ⟨v, st2, t2, v0, v1, B2, R2⟩ := take_ok B1 n2a (by omega) (by omega)
  by_cases hb : b = 1
  · obtain ⟨z, st3, t3, z0, z1, B3, R3⟩ := take_ok B2 (n := 3) (by decide) (by decide) (by omega)
    by_cases hz : z = 0
    · refine ⟨1 + w, 0, st3, ?_, ⟨by simp; omega, by simp; omega, by simp, by simp⟩, B3, (R1.trans R2).trans R3⟩
      simp [q_fb_law_rows_1, e1, e2, t1, t2, t3, hb, hz, hl, dRow]
    · refine ⟨1 + w, v, st3, ?_, ⟨by simp; omega, by simp; omega, by simpa using v0, by simp; omega⟩, B3, (R1.trans R2).trans R3⟩
      simp [q_fb_law_rows_1, e1, e2, t1, t2, t3, hb, hz, hl, dRow]
  · refine ⟨1 + w, v, st2, ?_, ⟨by simp; omega, by simp; omega, by simpa using v0, by simp; omega⟩, B2.up (by omega), R1.trans R2⟩
    simp [q_fb_law_rows_1, e1, e2, t1, t2, hb, hl, dRow]
theorem rows_sum {l : List (Int × Int)} {e : DE} {st : Sto} {i j : Nat} {f : En → ER} {g : Int × Int → Int} (hf : ∀ r st, f ⟨(e.set i (.val (.int r.1))).set j (.val (.int r.2)), st⟩ = .val .P (.int (g r)) st) :
    lcGo (lcStep (tgT 2 (tgsCons (tgN i) (tgsCons (tgN j) tgsNil))) (fun E => .val .P (.bl true) E.st) f e) (l.map dRow) st = some (l.map fun r => .int (g r), st) :=
  lc_map fun r _ => by simp [hf]
theorem rows_ok {p q N : Nat} {st : Sto} {m : Nat} (B : Box p q N st) (hN : N ≤ 80000) (hm : 1 ≤ m) (hm2 : m ≤ 100) :
    ∃ rows st', F_law_rows [.ptr p, .int m] st = .val .N (.lst (rows.map dRow)) st' ∧ RowsOk m rows ∧ Box p q (N + 3 * m + 10) st' ∧ Rest p q st st' := by
  obtain ⟨s, st1, t1, s0, s1, B1, R1⟩ := take_ok B (n := 4) (by decide) (by decide) (by omega)
  obtain ⟨b, st2, t2, b0, b1, B2, R2⟩ := take_ok B1 (n := 2) (by decide) (by decide) (by omega)
  obtain ⟨n, st3, t3, n0, n1, B3, R3⟩ := take_ok B2 (n := m) (by omega) (by omega) (by omega)
  let I : Nat → En → Prop := fun k E => ∃ (rows : List (Int × Int)) (st' : Sto) (x5 x6 x7 : SL), E = ⟨[.val (.ptr p), .val (.int m), .val (.int s), .val (.int b), .own (rows.map dRow), x5, x6, x7, .emp], st'⟩ ∧ rows.length = k ∧ (∀ r ∈ rows, RowOk r) ∧ Box p q (N + 3 + 3 * k) st' ∧ Rest p q st st'
  have hlen : (rangeD 0 (1 + n).toNat).length = (1 + n).toNat := by simp [rangeD]
  obtain ⟨E', hf, hI⟩ := for_inv (b := tgB (tgN 5) fb_law_rows_1) I (rangeD 0 (1 + n).toNat) 0 ⟨[.val (.ptr p), .val (.int m), .val (.int s), .val (.int b), .own [], .emp, .emp, .emp, .emp], st3⟩ (by
    rintro i x E hx ⟨rows, st', x5, x6, x7, rfl, hlr, hr, B', R'⟩
    obtain ⟨hi, rfl⟩ := rangeD_get hx
    obtain ⟨w, v, st4, hb, ho, B4, R4⟩ := rows_body (b := b) (x1 := .val (.int m)) (x5 := .val (.int (0 + (i : Int)))) (x6 := x6) (x7 := x7) (x8 := .emp) B' (by omega) ⟨s0, s1⟩ (rows := rows) (by omega)
    have hb' : tgB (tgN 5) fb_law_rows_1 (.int (0 + (i : Int))) ⟨[.val (.ptr p), .val (.int m), .val (.int s), .val (.int b), .own (rows.map dRow), x5, x6, x7, .emp], st'⟩ = _ := hb
    refine ⟨_, .inl hb', rows ++ [(w, v)], st4, _, _, _, rfl, by simp; omega, fun r hr' => ?_, B4.up (by omega), R'.trans R4⟩
    · rcases List.mem_append.mp hr' with z | z
      · exact hr r z
      · simp at z; subst z; exact ho) ⟨[], st3, .emp, .emp, .emp, rfl, rfl, fun r h => by simp at h, B3, (R1.trans R2).trans R3⟩
  obtain ⟨rows, st4, x5, x6, x7, rfl, hlr, hr, B4, R4⟩ := hI
  rw [Nat.zero_add, hlen] at hlr B4
  have c62 : -4611686018427387904 ≤ 1 + n ∧ 1 + n < 4611686018427387904 := by omega
  have hl : rows.length ≤ 1000000 := by omega
  have hsum := fun st => rows_sum (l := rows) (e := [.val (.ptr p), .val (.int m), .val (.int s), .val (.int b), .own (rows.map dRow), x5, .emp, .emp, .emp]) (st := st) (i := 6) (j := 7) (f := ce_law_rows_2) (g := (·.2)) (fun r st => by simp [q_ce_law_rows_2])
  by_cases hz : (rows.map (·.2)).sum = 0
  · obtain ⟨a, st5, t5, a0, a1, B5, R5⟩ := take_ok B4 (n := rows.length) (by omega) (by omega) (by omega)
    obtain ⟨v, st6, t6, v0, v1, B6, R6⟩ := take_ok B5 (n := 9) (by decide) (by decide) (by omega)
    have ha : a.toNat < rows.length := by omega
    have hat : atI (rows.map dRow) a = some (dRow rows[a.toNat]) := by
      have := atI_nat (xs := rows.map dRow) (j := a.toNat) (v := dRow rows[a.toNat]) (by simp [ha])
      rwa [Int.toNat_of_nonneg a0] at this
    have hix : ixN rows.length a = some a.toNat := by simp [ixN, a0]; omega
    have hset : (rows.map dRow).set a.toNat (dRow (rows[a.toNat].1, 1 + v)) = (rows.set a.toNat (rows[a.toNat].1, 1 + v)).map dRow := by rw [List.map_set]
    have hok : ∀ r ∈ rows.set a.toNat (rows[a.toNat].1, 1 + v), RowOk r := fun r h => by
      rcases List.mem_or_eq_of_mem_set h with z | z
      · exact hr r z
      · subst z
        have := hr _ (List.getElem_mem ha)
        exact ⟨this.1, this.2.1, by simp; omega, by simp; omega⟩
    have hpos : ((rows.set a.toNat (rows[a.toNat].1, 1 + v)).map (·.2)).sum ≠ 0 := by
      have hm : (rows[a.toNat].1, 1 + v) ∈ rows.set a.toNat (rows[a.toNat].1, 1 + v) := List.mem_set ha _
      have := sum_pos (f := fun r : Int × Int => r.2) (l := rows.set a.toNat (rows[a.toNat].1, 1 + v)) (fun r h => (hok r h).2.2.1) hm (by simp; omega)
      omega
    refine ⟨rows.set a.toNat (rows[a.toNat].1, 1 + v), st6, ?_, ⟨by simp; omega, by simp; omega, hok, hpos⟩, B6.up (by omega), (R4.trans R5).trans R6⟩
    simp [F_law_rows, g_law_rows, t1, t2, t3, c62, hf]
    simp [hsum, hl, hz, t5]
    simp [hat, t6]
    simp [hix, dRow]
  · refine ⟨rows, st4, ?_, ⟨by omega, by omega, hr, hz⟩, B4.up (by omega), R4⟩
    simp [F_law_rows, g_law_rows, t1, t2, t3, c62, hf, hsum, hl, hz]
def TabAt (st : Sto) (n : Nat) (rows : List (Int × Int)) : Prop := st[n]? = some (.ins 5 [.lst (rows.map dRow), .lst ((bqs rows).map dF)])
theorem bqs_at {rows : List (Int × Int)} {i : Nat} (h : i ≤ rows.length) : atI ((bqs rows).map dF) (i : Int) = some (dF (bq rows i)) := by
  refine atI_nat ?_
  simp [bqs, show i < rows.length + 1 by omega]
theorem bounds_of_eq {rows : List (Int × Int)} (hr : RowsOk 8 rows) (st : Sto) : F_bounds_of [.lst (rows.map dRow)] st = .val .N (.lst ((bqs rows).map dF)) st := by
  have hw := wid_pos hr
  have hw2 := wid_le hr
  have hl : rows.length ≤ 1000000 := by have := hr.2.1; omega
  have hsum := fun st => rows_sum (l := rows) (e := [.val (.lst (rows.map dRow)), .emp, .emp, .emp, .emp, .emp]) (st := st) (i := 4) (j := 5) (f := ce_bounds_of_1) (g := (·.1)) (fun r st => by simp [q_ce_bounds_of_1])
  have hf := fun t => fraction_of_eq (t := t) (b := wid rows) (by omega) (bit_log (m := 13) (by omega) (by decide))
  obtain ⟨E', h1, h2⟩ := for_map (b := tgB (tgT 2 (tgsCons (tgN 4) (tgsCons (tgN 5) tgsNil))) fb_bounds_of_2) (enc := dRow) (fun done E => ∃ x4 x5, E = ⟨[.val (.lst (rows.map dRow)), .val (.int (wid rows)), .own (((List.range (done.length + 1)).map (bq rows)).map dF), .val (.int (pre rows done.length)), x4, x5], st⟩) rows [] rows ⟨[.val (.lst (rows.map dRow)), .val (.int (wid rows)), .own [dF 0], .val (.int 0), .emp, .emp], st⟩ rfl (by
    rintro done a ys E e ⟨x4, x5, rfl⟩
    have hlt : done.length < rows.length := by rw [e]; simp
    have ha : rows[done.length] = a := by simp [e]
    have hp : pre rows done.length + a.1 = pre rows (done.length + 1) := by rw [pre_succ hlt, ha]
    have hd : done.length + 1 < 1000000 := by have := hr.2.1; omega
    refine ⟨_, .inl ?_, .val (.int a.1), .val (.int a.2), rfl⟩
    simp [q_fb_bounds_of_2, hp, hf, hd]
    rw [List.range_succ (n := done.length + 1)]
    simp [bq]) ⟨.emp, .emp, by simp [pre_zero, bq]⟩
  obtain ⟨x4, x5, rfl⟩ := h2
  simp [F_bounds_of, g_bounds_of, hl, hsum]
  simp only [wid] at h1
  rw [h1]
  simp [bqs]
theorem is_stretch_ok {r : Int × Int} (h : RowOk r) (st : Sto) : F_is_stretch [.int r.1, .int r.2] st = .val .P (.bl true) st := by
  obtain ⟨h1, h2, h3, h4⟩ := h
  simp [F_is_stretch, g_is_stretch, h1, h2, h3, h4]
theorem table_init {rows : List (Int × Int)} (hr : RowsOk 8 rows) (st : Sto) : F_Table___init__ [.ptr st.length, .lst (rows.map dRow)] (st ++ [.ins 5 []]) = .val .P .non (st ++ [.ins 5 [.lst (rows.map dRow), .lst ((bqs rows).map dF)]]) := by
  have hl : rows.length ≤ 1000000 := by have := hr.2.1; omega
  have h1 : ¬ (rows.length : Int) < 1 := by have := hr.1; omega
  have h2 : ¬ (8 : Int) < rows.length := by have := hr.2.1; omega
  have hz := hr.2.2.2
  have hsum := fun st (x2 : Nat) => rows_sum (l := rows) (e := [.val (.ptr x2), .val (.lst (rows.map dRow)), .emp, .emp]) (st := st) (i := 2) (j := 3) (f := ce_Table___init___2) (g := (·.2)) (fun r st => by simp [q_ce_Table___init___2])
  have hkeep : ∀ st x2, lcGo (lcStep (tgT 2 (tgsCons (tgN 2) (tgsCons (tgN 3) tgsNil))) (fun E => .val .P (.bl true) E.st) ce_Table___init___3 [.val (.ptr x2), .val (.lst (rows.map dRow)), .emp, .emp]) (rows.map dRow) st = some (rows.map dRow, st) := fun st x2 =>
    lc_map fun r _ => by simp [q_ce_Table___init___3, dRow]
  obtain ⟨E', h3, x2, x3, rfl⟩ := for_map (b := tgB (tgT 2 (tgsCons (tgN 2) (tgsCons (tgN 3) tgsNil))) fb_Table___init___1) (enc := dRow) (fun done E => ∃ x2 x3, E = ⟨[.val (.ptr st.length), .val (.lst (rows.map dRow)), x2, x3], st ++ [.ins 5 []]⟩) rows [] rows ⟨[.val (.ptr st.length), .val (.lst (rows.map dRow)), .emp, .emp], st ++ [.ins 5 []]⟩ rfl (by
    rintro done a ys E e ⟨x2, x3, rfl⟩
    have ha : RowOk a := hr.2.2.1 a (by rw [e]; simp)
    refine ⟨_, .inl ?_, .val (.int a.1), .val (.int a.2), rfl⟩
    simp [q_fb_Table___init___1, is_stretch_ok ha]) ⟨.emp, .emp, rfl⟩
  have hb := bounds_of_eq hr
  simp [F_Table___init__, g_Table___init__, h1, h2, h3]
  simp [hl, hsum, hz, hkeep, hb]
theorem ask_span_eq {x y : Rat} {s : Nat} (hx : Sz (s + 1) x) (hy : Sz (s + 1) y) (hs : s ≤ 4000) (st : Sto) : F_ask_span [dF x, dF y] st = if x < 0 ∨ 1 < y ∨ y < x then .exc 3 [] st else .val .P .non st := by
  have l1 := is_less_eq hx (sz0 (n := s)) (by omega) st
  have l2 := is_less_eq (sz1 (n := s)) hy (by omega) st
  have l3 := is_less_eq hy hx (by omega) st
  by_cases c1 : x < 0
  · simp [F_ask_span, g_ask_span, l1, c1]
  · by_cases c2 : 1 < y
    · simp [F_ask_span, g_ask_span, l1, l2, c1, c2]
    · by_cases c3 : y < x <;> simp [F_ask_span, g_ask_span, l1, l2, l3, c1, c2, c3]
@[simp] theorem isNon_dF {q : Rat} : isNon (dF q) = false := rfl
theorem between_eqX {n : Nat} {st : Sto} {rows : List (Int × Int)} (T : TabAt st n rows) (hr : RowsOk 8 rows) {x y : Rat} {s : Nat} (hx : Sz s x) (hy : Sz s y) (hs : 13 ≤ s) (hs2 : s ≤ 4000) : F_Table_between [.ptr n, dF x, dF y] st = .val .N (.lst ((btw x y rows rows.length).map dSeg)) st := by
  have hl : rows.length ≤ 8 := hr.2.1
  unfold TabAt at T
  obtain ⟨E', h3, x4, x5, x6, x7, x8, x9, rfl⟩ := for_inv (b := tgB (tgT 2 (tgsCons (tgN 4) (tgsCons (tgT 2 (tgsCons (tgN 7) (tgsCons (tgN 8) tgsNil))) tgsNil))) fb_Table_between_1) (fun k E => ∃ x4 x5 x6 x7 x8 x9, E = ⟨[.val (.ptr n), .val (dF x), .val (dF y), .own ((btw x y rows k).map dSeg), x4, x5, x6, x7, x8, x9], st⟩) (enumD 0 (rows.map dRow)) 0 ⟨[.val (.ptr n), .val (dF x), .val (dF y), .own [], .emp, .emp, .emp, .emp, .emp, .emp], st⟩ (by
    rintro i d E hd ⟨x4, x5, x6, x7, x8, x9, rfl⟩
    obtain ⟨d', h1, rfl⟩ := enumD_get hd
    have hil : i < rows.length := by
      have := (List.getElem?_eq_some_iff.mp h1).1
      simpa using this
    rw [List.getElem?_map, List.getElem?_eq_getElem hil] at h1
    cases h1
    have b0 := bqs_at (rows := rows) (i := i) (by omega)
    have b1 : atI ((bqs rows).map dF) ((i : Int) + 1) = some (dF (bq rows (i + 1))) := bqs_at (rows := rows) (i := i + 1) (by omega)
    have hg := greater_eq hx (bq_sz hr i) (by omega) st
    have hle := lesser_eq hy (bq_sz hr (i + 1)) (by omega) st
    have lz := lo_sz hr hs hx i
    have hz := hi_sz hr hs hy i
    have hlt := is_less_eq lz hz (by omega) st
    have hm := minus_eq (bq_sz hr (i + 1)) (bq_sz hr i) (by omega) st
    have hm2 := minus_eq hz lz (by omega) st
    have hne := bd_ne hr hs hil
    have hov := over_eq (hz.sub lz) ((bq_sz hr (i + 1)).sub (bq_sz hr i)) hne (by omega) st
    have htm := times_eq (vq_sz hr hs hil) ((hz.sub lz).div ((bq_sz hr (i + 1)).sub (bq_sz hr i)) hne) (by omega) st
    rw [vq_eq hil] at htm
    have hg' : F_greater [dF x, dF (bq rows i)] st = .val .P (dF (lo x rows i)) st := hg
    have hle' : F_lesser [dF y, dF (bq rows (i + 1))] st = .val .P (dF (hi y rows i)) st := hle
    have hlen : (btw x y rows i).length < 1000000 := by
      have : (btw x y rows i).length ≤ i := by
        unfold btw
        exact Nat.le_trans (List.length_filterMap_le _ _) (by simp)
      omega
    rw [Nat.zero_add]
    by_cases c : lo x rows i < hi y rows i
    · refine ⟨_, .inl ?_, .val (.int i), .val (dF (lo x rows i)), .val (dF (hi y rows i)), .val (.int rows[i].1), .val (.int rows[i].2), .val (dF (bq rows (i + 1) - bq rows i)), rfl⟩
      have hb : btw x y rows (i + 1) = btw x y rows i ++ [(lo x rows i, hi y rows i, wseg x y rows i)] := by rw [btw_succ]; simp [seg, c]
      rw [hb]
      simp [q_fb_Table_between_1, T, b0, b1, hg', hle', hlt, c, hm, hm2, hov, dF_int, htm, hlen]
      simp [dSeg, wseg, vq_eq hil]
    · refine ⟨_, .inl ?_, .val (.int i), .val (dF (lo x rows i)), .val (dF (hi y rows i)), .val (.int rows[i].1), .val (.int rows[i].2), x9, rfl⟩
      have hb : btw x y rows (i + 1) = btw x y rows i := by rw [btw_succ]; simp [seg, c]
      rw [hb]
      simp [q_fb_Table_between_1, T, b0, b1, hg', hle', hlt, c]) ⟨.emp, .emp, .emp, .emp, .emp, .emp, rfl⟩
  rw [enumD_len, Nat.zero_add, List.length_map] at h3
  simp [F_Table_between, g_Table_between, T]
  rw [h3]
  simp
theorem between_eq {n : Nat} {st : Sto} {rows : List (Int × Int)} (T : TabAt st n rows) (hr : RowsOk 8 rows) {x y : Rat} {s : Nat} (hx : Sz s x) (hy : Sz s y) (hs : 13 ≤ s) (hs2 : s ≤ 400) : F_Table_between [.ptr n, dF x, dF y] st = .val .N (.lst ((btw x y rows rows.length).map dSeg)) st := between_eqX T hr hx hy hs (by omega)
theorem worth_eq {n : Nat} {st : Sto} {rows : List (Int × Int)} (T : TabAt st n rows) (hr : RowsOk 8 rows) {x y : Rat} {s : Nat} (hx : Sz s x) (hy : Sz s y) (hs : 13 ≤ s) (hs2 : s ≤ 400) : F_Table_worth [.ptr n, dF x, dF y] st = if x < 0 ∨ 1 < y ∨ y < x then .exc 3 [] st else .val .P (dF (wq x y rows)) st := by
  obtain ⟨s', rfl⟩ : ∃ s', s = s' + 1 := ⟨s - 1, by omega⟩
  have ha := ask_span_eq hx hy (by omega) st
  have hb := between_eq T hr hx hy hs hs2
  by_cases c : x < 0 ∨ 1 < y ∨ y < x
  · simp only [if_pos c] at ha ⊢
    simp [F_Table_worth, g_Table_worth, ha]
  · simp only [if_neg c] at ha ⊢
    have hz := btw_sz hr hs hx hy rows.length (Nat.le_refl _)
    obtain ⟨E', h3, x4, x5, x6, rfl⟩ := for_map (b := tgB (tgT 3 (tgsCons (tgN 4) (tgsCons (tgN 5) (tgsCons (tgN 6) tgsNil)))) fb_Table_worth_1) (enc := dSeg) (fun done E => ∃ x4 x5 x6, E = ⟨[.val (.ptr n), .val (dF x), .val (dF y), .val (dF (foldS done)), x4, x5, x6], st⟩) (btw x y rows rows.length) [] (btw x y rows rows.length) ⟨[.val (.ptr n), .val (dF x), .val (dF y), .val (dF 0), .emp, .emp, .emp], st⟩ rfl (by
      rintro done a ys E e ⟨x4, x5, x6, rfl⟩
      refine ⟨_, .inl ?_, .val (dF a.1), .val (dF a.2.1), .val (dF a.2.2), rfl⟩
      have hlen : done.length < 8 := by
        have h1 : (btw x y rows rows.length).length ≤ rows.length := by
          unfold btw
          exact Nat.le_trans (List.length_filterMap_le _ _) (by simp)
        have h2 := hr.2.1
        rw [e, List.length_append, List.length_cons] at h1
        omega
      have sd := foldS_sz (n := 2 * (s' + 1) + 59) done (fun z m => (hz z (by rw [e]; exact List.mem_append_left _ m)).2.2.1)
      have sa := (hz a (by rw [e]; simp)).2.2.1
      have hmul : done.length * (2 * (s' + 1) + 59 + 1) ≤ 7 * (2 * (s' + 1) + 59 + 1) := Nat.mul_le_mul_right _ (by omega)
      have hp := plus_eq sd sa (by omega) st
      have : foldS (done ++ [a]) = foldS done + a.2.2 := by rw [foldS_app]; simp [foldS, Rat.add_zero]
      rw [this]
      simp [q_fb_Table_worth_1, dSeg, hp]) ⟨.emp, .emp, .emp, rfl⟩
    rw [btw_sum] at h3
    unfold TabAt at T
    simp [F_Table_worth, g_Table_worth, ha, T, hb]
    rw [h3]
    simp [wq]
theorem cut_to {α : Type} (l : List α) {a : Int} (h : 0 ≤ a) : cutG l none (some a) = l.take a.toNat := by
  have : ¬ a < 0 := by omega
  simp [cutG, HT.sIx, this]
theorem q01 {t b : Int} (h0 : 0 ≤ t) (h1 : t ≤ b) (hb : 0 < b) : 0 ≤ Rat.divInt t b ∧ Rat.divInt t b ≤ 1 := by
  have hb' : (0 : Rat) < (b : Rat) := Rat.intCast_pos.mpr hb
  refine ⟨Rat.divInt_nonneg h0 (by omega), ?_⟩
  rw [← Rat.not_lt, show (1 : Rat) = Rat.divInt 1 1 from rfl, q_ltP (by decide) hb]
  omega
theorem sz_low {t b : Int} {n : Nat} (h0 : 0 ≤ t) (h1 : t ≤ b) (hb : 0 < b) (h : b.natAbs < 2 ^ n) : Sz n (Rat.divInt t b) := Sz.mk (Nat.lt_of_le_of_lt (by omega) h) h (by omega)
theorem cut_loop {st : Sto} {n : Nat} {x y : Rat} {s P : Nat} (hP : P + 5 * s + 70 < 9000) : ∀ (segs : List (Rat × Rat × Rat)) (m : Rat) (x4 x5 x6 : SL), 0 < m → (∀ z ∈ segs, Sz s z.1 ∧ Sz s z.2.1 ∧ Sz (2 * s + 59) z.2.2 ∧ z.1 < z.2.1) → (∀ l1 l2, segs = l1 ++ l2 → Sz P (m - foldS l1)) →
    match cutL segs m with
    | some z => forD (tgB (tgT 3 (tgsCons (tgN 4) (tgsCons (tgN 5) (tgsCons (tgN 6) tgsNil)))) fb_Table_cut_1) (segs.map dSeg) ⟨[.val (.ptr n), .val (dF x), .val (dF m), .val (dF y), x4, x5, x6], st⟩ = .rt .P (dF z) st
    | none => ∃ e', forD (tgB (tgT 3 (tgsCons (tgN 4) (tgsCons (tgN 5) (tgsCons (tgN 6) tgsNil)))) fb_Table_cut_1) (segs.map dSeg) ⟨[.val (.ptr n), .val (dF x), .val (dF m), .val (dF y), x4, x5, x6], st⟩ = .nx ⟨e', st⟩
  | [], m, x4, x5, x6, _, _, _ => ⟨_, rfl⟩
  | sg :: segs, m, x4, x5, x6, hm, hz, hq => by
    obtain ⟨z1, z2, z3, z4⟩ := hz sg (List.mem_cons_self ..)
    have sm : Sz P m := by
      have := hq [] (sg :: segs) rfl
      simp only [foldS] at this
      rwa [show m - 0 = m by grind] at this
    have hl := is_less_eq z3 sm (by omega) st
    have hmi := minus_eq sm z3 (by omega) st
    rw [List.map_cons]
    simp only [cutL]
    by_cases c : sg.2.2 < m
    · rw [if_pos c]
      have hb : tgB (tgT 3 (tgsCons (tgN 4) (tgsCons (tgN 5) (tgsCons (tgN 6) tgsNil)))) fb_Table_cut_1 (dSeg sg) ⟨[.val (.ptr n), .val (dF x), .val (dF m), .val (dF y), x4, x5, x6], st⟩ = .nx ⟨[.val (.ptr n), .val (dF x), .val (dF (m - sg.2.2)), .val (dF y), .val (dF sg.1), .val (dF sg.2.1), .val (dF sg.2.2)], st⟩ := by
        simp [q_fb_Table_cut_1, dSeg, hl, c, hmi]
      have ih := cut_loop (st := st) (n := n) (x := x) (y := y) hP segs (m - sg.2.2) (.val (dF sg.1)) (.val (dF sg.2.1)) (.val (dF sg.2.2)) (by grind) (fun z h => hz z (List.mem_cons_of_mem _ h)) (fun l1 l2 e => by
        have := hq (sg :: l1) l2 (by rw [e]; rfl)
        simp only [foldS] at this
        rwa [show m - (sg.2.2 + foldS l1) = m - sg.2.2 - foldS l1 by grind] at this)
      simp only [e_forC, hb]
      exact ih
    · rw [if_neg c]
      have hw : sg.2.2 ≠ 0 := by grind
      have ho := over_eq sm z3 hw (by omega) st
      have hm2 := minus_eq z2 z1 (by omega) st
      have ht := times_eq (sm.div z3 hw) (z2.sub z1) (by omega) st
      have hp := plus_eq z1 ((sm.div z3 hw).mul (z2.sub z1)) (by omega) st
      have hb : tgB (tgT 3 (tgsCons (tgN 4) (tgsCons (tgN 5) (tgsCons (tgN 6) tgsNil)))) fb_Table_cut_1 (dSeg sg) ⟨[.val (.ptr n), .val (dF x), .val (dF m), .val (dF y), x4, x5, x6], st⟩ = .rt .P (dF (sg.1 + (m / sg.2.2) * (sg.2.1 - sg.1))) st := by
        simp [q_fb_Table_cut_1, dSeg, hl, c, ho, hm2, ht, hp]
      simp only [e_forC, hb]
def dO : Option Rat → D
  | some z => dF z
  | none => .non
theorem cut_zero {n : Nat} {st : Sto} {x y : Rat} {s : Nat} (hx : Sz (s + 1) x) (hy : Sz (s + 1) y) (hs : s ≤ 4000) (c : ¬ (x < 0 ∨ 1 < y ∨ y < x)) : F_Table_cut [.ptr n, dF x, dF 0, dF y] st = .val .P (dF x) st := by
  have ha := ask_span_eq hx hy hs st
  rw [if_neg c] at ha
  have l1 := is_less_eq (sz0 (n := s)) (sz0 (n := s)) (by omega) st
  simp [F_Table_cut, g_Table_cut, ha, l1]
theorem cut_pos {n : Nat} {st : Sto} {rows : List (Int × Int)} (T : TabAt st n rows) (hr : RowsOk 8 rows) {x y m : Rat} {s M : Nat} (hx : Sz s x) (hy : Sz s y) (hs : 13 ≤ s) (hm : Sz M m) (hM : M + 21 * s + 700 < 9000) (c : ¬ (x < 0 ∨ 1 < y ∨ y < x)) (h0 : 0 < m) : F_Table_cut [.ptr n, dF x, dF m, dF y] st = .val .P (dO (cutL (btw x y rows rows.length) m)) st := by
  obtain ⟨s', rfl⟩ : ∃ s', s = s' + 1 := ⟨s - 1, by omega⟩
  have ha := ask_span_eq hx hy (by omega) st
  rw [if_neg c] at ha
  have hb := between_eq T hr hx hy hs (by omega)
  obtain ⟨M', hM'⟩ : ∃ M', M' = M + 1 := ⟨_, rfl⟩
  have l1 := is_less_eq hm (sz0 (n := 0)) (by omega) st
  have n1 : ¬ m < 0 := by grind
  have n2 : ¬ m.num = 0 := fun z => by have := Rat.num_eq_zero.mp z; grind
  have hz := btw_sz hr hs hx hy rows.length (Nat.le_refl _)
  have hlen : (btw x y rows rows.length).length ≤ 8 := by
    have h1 : (btw x y rows rows.length).length ≤ rows.length := by
      unfold btw
      exact Nat.le_trans (List.length_filterMap_le _ _) (by simp)
    have := hr.2.1
    omega
  have hloop := cut_loop (st := st) (n := n) (x := x) (y := y) (s := s' + 1) (P := M + (8 * (2 * (s' + 1) + 60) + 1) + 1) (by omega) (btw x y rows rows.length) m .emp .emp .emp h0 (fun z h => hz z h) (fun l1 l2 e => by
    have hl1 : l1.length ≤ 8 := by rw [e, List.length_append] at hlen; omega
    have hf := foldS_sz (n := 2 * (s' + 1) + 59) l1 (fun z h => (hz z (by rw [e]; exact List.mem_append_left _ h)).2.2.1)
    refine (hm.sub hf).up ?_
    have : l1.length * (2 * (s' + 1) + 59 + 1) ≤ 8 * (2 * (s' + 1) + 59 + 1) := Nat.mul_le_mul_right _ hl1
    omega)
  have T' := T
  unfold TabAt at T'
  cases hc : cutL (btw x y rows rows.length) m with
  | none =>
    rw [hc] at hloop
    obtain ⟨e', he⟩ := hloop
    simp [F_Table_cut, g_Table_cut, ha, l1, n1, n2, T', hb, dO]
    rw [he]
    simp
  | some z =>
    rw [hc] at hloop
    simp [F_Table_cut, g_Table_cut, ha, l1, n1, n2, T', hb, dO]
    rw [hloop]
    simp
theorem cut_last {n : Nat} {st : Sto} {x m : Rat} : F_Table_cut [.ptr n, dF x, dF m, .non] st = F_Table_cut [.ptr n, dF x, dF m, dF 1] st := by
  simp [F_Table_cut, g_Table_cut]
theorem TabAt.rest {st st' : Sto} {n p q : Nat} {rows : List (Int × Int)} (h : TabAt st n rows) (R : Rest p q st st') (h1 : n ≠ p) (h2 : n ≠ q) : TabAt st' n rows := (R.2 n h1 h2).trans h
theorem Box.app {p q N : Nat} {st : Sto} {o : Sto} (h : Box p q N st) : Box p q N (st ++ o) := by
  obtain ⟨a, g, sm, x, c, h1, h2, h3⟩ := h
  exact ⟨a, g, sm, x, c, by rw [List.getElem?_append_left (List.getElem?_eq_some_iff.mp h1).1]; exact h1, by rw [List.getElem?_append_left (List.getElem?_eq_some_iff.mp h2).1]; exact h2, h3⟩
theorem rng1_nat {n : Nat} (h : n ≤ 1000000) : rng1 [.int (n : Int)] = some (0, n) := by
  rw [e_rng1, if_pos (by omega)]
  simp
theorem dRng_of {r : List D → Option (Int × Nat)} {f : En → AR} {E : En} {p : Bool} {l : List D} {st : Sto} {a : Int} {n : Nat} (h : f E = .ok p l st) (hr : r l = some (a, n)) : dRng r f E = .ok true (rangeD a n) st := by
  rw [e_dRng, h]
  simp only [hr]
theorem sFor_of {src : En → AR} {t : D → DE → Option DE} {b : En → SR} {E : En} {p : Bool} {l : List D} {st : Sto} (h : src E = .ok p l st) : sFor src t b E = forD (tgB t b) l ⟨E.e, st⟩ := by
  rw [e_sFor, h]
def tot (rows : List (Int × Int)) : Int := (rows.map (·.2)).sum
theorem total_eq {n : Nat} {st : Sto} {rows : List (Int × Int)} (T : TabAt st n rows) (hl : rows.length ≤ 1000000) : F_Table_total [.ptr n] st = .val .P (.int (tot rows)) st := by
  unfold TabAt at T
  have hsum := fun st => rows_sum (l := rows) (e := [.val (.ptr n), .emp, .emp]) (st := st) (i := 1) (j := 2) (f := ce_Table_total_1) (g := (·.2)) (fun r st => by simp [q_ce_Table_total_1])
  simp -implicitDefEqProofs [F_Table_total, g_Table_total, T, hl, hsum, tot]
section
variable {rows : List (Int × Int)} (hr : RowsOk 8 rows)
include hr
theorem wq_mono2 {x y z : Rat} (h1 : x ≤ y) (h2 : y ≤ z) : wq x y rows ≤ wq x z rows := by
  have a := wq_add hr h1 h2
  have b := wq_nonneg hr y z
  grind
end
def Lst (rows : List (Int × Int)) (x y m : Rat) (o : Option Rat) : Prop := (o = none ∧ wq x y rows < m) ∨ ∃ z, o = some z ∧ x ≤ z ∧ z ≤ y ∧ wq x z rows = m ∧ ∀ z', x ≤ z' → z' < z → wq x z' rows < m
section
variable {rows rows' : List (Int × Int)} (hr : RowsOk 8 rows)
include hr
theorem lst_cut {x y m : Rat} (h0 : 0 ≤ x) (h1 : y ≤ 1) (hm : 0 < m) : Lst rows x y m (cutL (btw x y rows rows.length) m) := by
  rcases cut_char x y rows m hm rows.length with ⟨e, h⟩ | ⟨i, hi', hlh, g0, g1, e⟩
  · exact .inl ⟨e, h⟩
  · have z := z_in hlh g0 g1
    have a := lo_ge x rows i
    have b := hi_le y rows i
    have w := wq_z hr hi' hlh g0 g1
    refine .inr ⟨_, e, by grind, by grind, w, fun z' h2 h3 => ?_⟩
    apply Classical.byContradiction
    intro hn
    have m1 := wq_mono2 hr h2 (Rat.le_of_lt h3)
    have e1 := wq_add hr h2 (Rat.le_of_lt h3)
    have n1 := wq_nonneg hr z' (zAt x y rows m i)
    have w0 : wq z' (zAt x y rows m i) rows = 0 := by grind
    have nb : ∀ j, j ≤ rows.length → bq rows j ≤ lo x rows i ∨ hi y rows i ≤ bq rows j := fun j hj => by
      by_cases c : j ≤ i
      · exact .inl (by have := bq_mono hr c; grind)
      · exact .inr (by have := bq_mono hr (show i + 1 ≤ j by omega); grind)
    obtain ⟨d, d0, lin⟩ := wq_lin hr nb
    have sl := sum_lo hr hi' hlh g0 g1 rows.length
    rw [if_neg (by omega)] at sl
    have sl' : wq (lo x rows i) (zAt x y rows m i) rows = m - sumR (wpart x y rows) i := sl
    have l1 := lin _ (Rat.le_of_lt z.1) z.2
    rw [sl'] at l1
    have dp : 0 < d := by
      apply Classical.byContradiction
      intro hd
      have : d = 0 := by grind
      rw [this, Rat.zero_mul] at l1
      grind
    have key : ∀ c, lo x rows i ≤ c → c < zAt x y rows m i → z' ≤ c → False := fun c c1 c2 c3 => by
      have q1 := wq_add hr c3 (Rat.le_of_lt c2)
      have q2 := wq_nonneg hr z' c
      have q3 := wq_nonneg hr c (zAt x y rows m i)
      have q4 := wq_add hr c1 (Rat.le_of_lt c2)
      have q5 := lin c c1 (by grind)
      have q6 := lin _ (Rat.le_of_lt z.1) z.2
      have q7 := Rat.mul_pos dp (show 0 < zAt x y rows m i - c by grind)
      grind
    by_cases c : lo x rows i ≤ z'
    · exact key z' c h3 Rat.le_refl
    · exact key (lo x rows i) Rat.le_refl z.1 (by grind)
theorem lst_uniq {x y m : Rat} {o o' : Option Rat} (h : Lst rows x y m o) (k : Lst rows x y m o') : o = o' := by
  rcases h with ⟨rfl, h⟩ | ⟨z, rfl, h1, h2, h3, h4⟩
  · rcases k with ⟨rfl, k⟩ | ⟨z, rfl, k1, k2, k3, k4⟩
    · rfl
    · have := wq_mono2 hr k1 k2; grind
  · rcases k with ⟨rfl, k⟩ | ⟨z', rfl, k1, k2, k3, k4⟩
    · have := wq_mono2 hr h1 h2; grind
    · congr 1
      apply Classical.byContradiction
      intro hne
      by_cases c : z < z'
      · have := k4 z h1 c; grind
      · have := h4 z' k1 (by grind); grind
end
def SameW (rows rows' : List (Int × Int)) : Prop := ∀ x y, 0 ≤ x → x ≤ y → y ≤ 1 → wq x y rows = wq x y rows'
theorem Lst.same {rows rows' : List (Int × Int)} (h : SameW rows rows') {x y m : Rat} {o : Option Rat} (h0 : 0 ≤ x) (hxy : x ≤ y) (h1 : y ≤ 1) (k : Lst rows x y m o) : Lst rows' x y m o := by
  rcases k with ⟨e, k⟩ | ⟨z, e, k1, k2, k3, k4⟩
  · exact .inl ⟨e, by rw [← h x y h0 hxy h1]; exact k⟩
  · refine .inr ⟨z, e, k1, k2, by rw [← h x z h0 k1 (by grind)]; exact k3, fun z' a b => ?_⟩
    rw [← h x z' h0 a (by grind)]
    exact k4 z' a b
def cutO (rows : List (Int × Int)) (x y m : Rat) : Option Rat := if m = 0 then some x else cutL (btw x y rows rows.length) m
section
variable {rows rows' : List (Int × Int)} (hr : RowsOk 8 rows)
include hr
theorem cutO_same (hr' : RowsOk 8 rows') (h : SameW rows rows') {x y m : Rat} (h0 : 0 ≤ x) (hxy : x ≤ y) (h1 : y ≤ 1) (hm : 0 ≤ m) : cutO rows' x y m = cutO rows x y m := by
  unfold cutO
  by_cases c : m = 0
  · rw [if_pos c, if_pos c]
  · rw [if_neg c, if_neg c]
    exact lst_uniq hr' (lst_cut hr' h0 h1 (by grind)) ((lst_cut hr h0 h1 (by grind)).same h h0 hxy h1)
theorem cutO_span {x a y : Rat} (h0 : 0 ≤ x) (h1 : x ≤ a) (h2 : a ≤ y) (h3 : y ≤ 1) : ∃ z, cutO rows x y (wq x a rows) = some z ∧ x ≤ z ∧ z ≤ a ∧ wq x z rows = wq x a rows ∧ wq z a rows = 0 ∧ ∀ z', x ≤ z' → z' < z → wq x z' rows < wq x a rows := by
  have n := wq_nonneg hr x a
  have key : ∀ z, x ≤ z → z ≤ a → wq x z rows = wq x a rows → wq z a rows = 0 := fun z q1 q2 q3 => by
    have := wq_add hr q1 q2; grind
  unfold cutO
  by_cases c : wq x a rows = 0
  · rw [if_pos c]
    have e := wq_add hr (x := x) (y := x) (z := x) Rat.le_refl Rat.le_refl
    exact ⟨x, rfl, Rat.le_refl, h1, by grind, c, fun z' q1 q2 => by grind⟩
  · rw [if_neg c]
    rcases lst_cut hr h0 h3 (show 0 < wq x a rows by grind) with ⟨e, h⟩ | ⟨z, e, k1, k2, k3, k4⟩
    · have := wq_mono2 hr h1 h2; grind
    · have za : z ≤ a := by
        apply Classical.byContradiction
        intro hn
        have := k4 a h1 (by grind)
        grind
      exact ⟨z, e, k1, za, k3, key z k1 za k3, k4⟩
theorem cutO_on {x a y f : Rat} (h0 : 0 ≤ x) (h1 : x ≤ a) (h2 : a ≤ y) (h3 : y ≤ 1) (hf : cutO rows x y (wq x a rows) = some f) (hm : 0 < wq a y rows) : cutO rows x y (wq x a rows + wq a y rows) = cutO rows f y (wq a y rows) := by
  obtain ⟨z, e, k1, k2, k3, k4, k5⟩ := cutO_span hr h0 h1 h2 h3
  rw [hf] at e
  obtain rfl := Option.some.inj e
  have n := wq_nonneg hr x a
  have b0 : ¬ (wq x a rows + wq a y rows = 0) := by grind
  unfold cutO
  rw [if_neg b0, if_neg (by grind)]
  have add := wq_add hr h1 h2
  have both : 0 < wq x a rows + wq a y rows := by grind
  refine lst_uniq hr (x := f) (y := y) (m := wq a y rows) ?_ (lst_cut hr (by grind) h3 hm)
  rcases lst_cut hr h0 h3 both with ⟨e, h⟩ | ⟨z, e, q1, q2, q3, q4⟩
  · grind
  · have fz : f ≤ z := by
      apply Classical.byContradiction
      intro hn
      have := wq_mono2 hr q1 (show z ≤ f by grind)
      grind
    have e1 := wq_add hr k1 fz
    refine .inr ⟨z, e, fz, q2, by grind, fun z' r1 r2 => ?_⟩
    have := q4 z' (by grind) r2
    have e2 := wq_add hr k1 r1
    grind
theorem cutO_none {x y m : Rat} (h0 : 0 ≤ x) (h1 : y ≤ 1) (hm : wq x y rows < m) : cutO rows x y m = none := by
  have n := wq_nonneg hr x y
  unfold cutO
  rw [if_neg (by grind)]
  exact lst_uniq hr (lst_cut hr h0 h1 (by grind)) (.inl ⟨rfl, hm⟩)
theorem cutO_both {x y : Rat} (h0 : 0 ≤ x) (h1 : x ≤ y) (h3 : y ≤ 1) : ∃ z, cutO rows x y (wq x y rows) = some z ∧ x ≤ z ∧ z ≤ y := by
  obtain ⟨z, e, k1, k2, _⟩ := cutO_span hr h0 h1 Rat.le_refl h3
  exact ⟨z, e, k1, k2⟩
end
abbrev Rw := List (Int × Int)
def tw (l : Rw) : Rw := l.map fun r => (2 * r.1, 2 * r.2)
def nar (l : Rw) : Rw := l.map fun r => (r.1, 2 * r.2)
def hal : Rw → Rw
  | [] => []
  | r :: l => r :: r :: hal l
theorem sum_two (f : Int × Int → Int) : ∀ l : Rw, (l.map fun r => 2 * f r).sum = 2 * (l.map f).sum
  | [] => by simp
  | r :: l => by simp only [List.map_cons, List.sum_cons, sum_two f l]; omega
theorem tw_len (l : Rw) : (tw l).length = l.length := by simp [tw]
theorem nar_len (l : Rw) : (nar l).length = l.length := by simp [nar]
theorem hal_len : ∀ l : Rw, (hal l).length = 2 * l.length
  | [] => rfl
  | r :: l => by simp only [hal, List.length_cons, hal_len l]; omega
theorem tw_pre (l : Rw) (i : Nat) : pre (tw l) i = 2 * pre l i := by
  unfold pre tw
  rw [← List.map_take, List.map_map]
  exact sum_two (fun r => r.1) (l.take i)
theorem tw_wid (l : Rw) : wid (tw l) = 2 * wid l := by
  unfold wid tw
  rw [List.map_map]
  exact sum_two (fun r => r.1) l
theorem nar_pre (l : Rw) (i : Nat) : pre (nar l) i = pre l i := by
  unfold pre nar
  rw [← List.map_take, List.map_map]
  rfl
theorem nar_wid (l : Rw) : wid (nar l) = wid l := by
  unfold wid nar
  rw [List.map_map]
  rfl
theorem hal_take : ∀ (l : Rw) (i : Nat), (((hal l).take (2 * i)).map (·.1)).sum = 2 * ((l.take i).map (·.1)).sum
  | [], i => by simp [hal]
  | r :: l, 0 => by simp
  | r :: l, i + 1 => by
    have ih := hal_take l i
    rw [show 2 * (i + 1) = 2 * i + 1 + 1 by omega]
    simp only [hal, List.take_succ_cons, List.map_cons, List.sum_cons]
    rw [ih]; omega
theorem hal_pre (l : Rw) (i : Nat) : pre (hal l) (2 * i) = 2 * pre l i := hal_take l i
theorem hal_wid : ∀ l : Rw, wid (hal l) = 2 * wid l
  | [] => rfl
  | r :: l => by
    have := hal_wid l
    unfold wid at *
    simp only [hal, List.map_cons, List.sum_cons]
    omega
theorem hal_get : ∀ (l : Rw) (i : Nat), (hal l)[2 * i]? = l[i]? ∧ (hal l)[2 * i + 1]? = l[i]?
  | [], i => by simp [hal]
  | r :: l, 0 => by simp [hal]
  | r :: l, i + 1 => by
    have ih := hal_get l i
    rw [show 2 * (i + 1) = 2 * i + 1 + 1 by omega]
    simp only [hal, List.getElem?_cons_succ]
    exact ih
theorem div_two {a b : Int} : Rat.divInt (2 * a) (2 * b) = Rat.divInt a b := Rat.divInt_mul_left (by decide)
theorem tw_bq (l : Rw) (i : Nat) : bq (tw l) i = bq l i := by
  unfold bq
  rw [tw_pre, tw_wid, div_two]
theorem nar_bq (l : Rw) (i : Nat) : bq (nar l) i = bq l i := by
  unfold bq
  rw [nar_pre, nar_wid]
theorem hal_bq (l : Rw) (i : Nat) : bq (hal l) (2 * i) = bq l i := by
  unfold bq
  rw [hal_pre, hal_wid, div_two]
theorem two_cast (a : Int) : ((2 * a : Int) : Rat) = 2 * (a : Rat) := by rw [Rat.intCast_mul]; rfl
theorem hal_bq1 {l : Rw} {i : Nat} (hi : i < l.length) (hw : wid l ≠ 0) : bq (hal l) (2 * i + 1) = (bq l i + bq l (i + 1)) / 2 := by
  have hl : 2 * i < (hal l).length := by rw [hal_len]; omega
  have g : (hal l)[2 * i]'hl = l[i] := by
    have := (hal_get l i).1
    rw [List.getElem?_eq_getElem hl, List.getElem?_eq_getElem hi] at this
    exact Option.some.inj this
  have p1 : pre (hal l) (2 * i + 1) = 2 * pre l i + l[i].1 := by rw [pre_succ hl, hal_pre, g]
  have p2 := pre_succ hi
  have hw' : (wid l : Rat) ≠ 0 := by
    intro z
    exact hw (by exact_mod_cast z)
  unfold bq
  rw [p1, hal_wid, p2, Rat.divInt_eq_div, Rat.divInt_eq_div, Rat.divInt_eq_div, two_cast, Rat.intCast_add, Rat.intCast_add, two_cast]
  generalize (pre l i : Rat) = p at *
  generalize ((l[i].1 : Int) : Rat) = w at *
  generalize (wid l : Rat) = W at *
  have h2 : (2 : Rat) ≠ 0 := by decide
  have e1 : (2 * p + w) / (2 * W) * (2 * W) = 2 * p + w := Rat.div_mul_cancel (by grind)
  have e2 : p / W * W = p := Rat.div_mul_cancel hw'
  have e3 : (p + w) / W * W = p + w := Rat.div_mul_cancel hw'
  have e4 : ((p / W) + (p + w) / W) / 2 * 2 = (p / W) + (p + w) / W := Rat.div_mul_cancel h2
  have : ((2 * p + w) / (2 * W) - ((p / W) + (p + w) / W) / 2) * W = 0 := by grind
  rcases Rat.mul_eq_zero.mp this with z | z
  · grind
  · exact absurd z hw'
theorem tw_vq (l : Rw) (i : Nat) : vq (tw l) i = 2 * vq l i := by
  unfold vq tw
  rw [List.getElem?_map]
  cases l[i]? with
  | none => simp
  | some r => simp
theorem nar_vq (l : Rw) (i : Nat) : vq (nar l) i = 2 * vq l i := by
  unfold vq nar
  rw [List.getElem?_map]
  cases l[i]? with
  | none => simp
  | some r => simp
theorem hal_vq (l : Rw) (i : Nat) : vq (hal l) (2 * i) = vq l i ∧ vq (hal l) (2 * i + 1) = vq l i := by
  unfold vq
  rw [(hal_get l i).1, (hal_get l i).2]
  exact ⟨rfl, rfl⟩
theorem wq_nar (l : Rw) (x y : Rat) : wq x y (nar l) = wq x y (tw l) := by
  unfold wq
  rw [nar_len, tw_len]
  refine sumR_congr fun i _ => ?_
  rw [wpart_ovl, wpart_ovl, nar_vq, tw_vq, nar_bq, nar_bq, tw_bq, tw_bq]
theorem sumR_pairs (f : Nat → Rat) : ∀ n, sumR f (2 * n) = sumR (fun i => f (2 * i) + f (2 * i + 1)) n
  | 0 => rfl
  | n + 1 => by
    rw [show 2 * (n + 1) = 2 * n + 1 + 1 by omega]
    simp only [sumR]
    rw [sumR_pairs f n]
    grind
theorem ovl_split {x y a m b : Rat} (h1 : a ≤ m) (h2 : m ≤ b) : ovl x y a m + ovl x y m b = ovl x y a b := by
  unfold ovl
  grind
theorem half_div {v a b : Rat} (h : a < b) : v / ((a + b) / 2 - a) = 2 * v / (b - a) ∧ v / (b - (a + b) / 2) = 2 * v / (b - a) := by
  have h2 : (a + b) / 2 * 2 = a + b := Rat.div_mul_cancel (by decide)
  have e1 : (a + b) / 2 - a = (b - a) / 2 := by
    have : (b - a) / 2 * 2 = b - a := Rat.div_mul_cancel (by decide)
    grind
  have e2 : b - (a + b) / 2 = (b - a) / 2 := by
    have : (b - a) / 2 * 2 = b - a := Rat.div_mul_cancel (by decide)
    grind
  rw [e1, e2]
  have hd : b - a ≠ 0 := by grind
  have key : v / ((b - a) / 2) = 2 * v / (b - a) := by
    have hn : (b - a) / 2 ≠ 0 := by
      intro z
      have : (b - a) / 2 * 2 = b - a := Rat.div_mul_cancel (by decide)
      rw [z] at this; grind
    have q1 : v / ((b - a) / 2) * ((b - a) / 2) = v := Rat.div_mul_cancel hn
    have q2 : 2 * v / (b - a) * (b - a) = 2 * v := Rat.div_mul_cancel hd
    have q3 : (b - a) / 2 * 2 = b - a := Rat.div_mul_cancel (by decide)
    generalize v / ((b - a) / 2) = p at *
    generalize 2 * v / (b - a) = q at *
    generalize (b - a) / 2 = h at *
    have : (p - q) * h = 0 := by grind
    rcases Rat.mul_eq_zero.mp this with z | z
    · grind
    · exact absurd z hn
  exact ⟨key, key⟩
theorem wq_hal {l : Rw} (ht : RowsOk 8 (tw l)) (x y : Rat) : wq x y (hal l) = wq x y (tw l) := by
  have hw : wid l ≠ 0 := by
    have := wid_pos ht
    rw [tw_wid] at this; omega
  unfold wq
  rw [hal_len, tw_len, sumR_pairs]
  refine sumR_congr fun i hi => ?_
  have lt := bq_lt ht (i := i) (by rw [tw_len]; exact hi)
  rw [tw_bq, tw_bq] at lt
  rw [wpart_ovl, wpart_ovl, wpart_ovl, (hal_vq l i).1, (hal_vq l i).2, tw_vq, hal_bq, hal_bq1 hi hw, tw_bq, tw_bq, show 2 * i + 1 + 1 = 2 * (i + 1) by omega, hal_bq]
  obtain ⟨d1, d2⟩ := half_div (v := vq l i) lt
  rw [d1, d2]
  generalize bq l i = a at *
  generalize bq l (i + 1) = b at *
  have h2 : (a + b) / 2 * 2 = a + b := Rat.div_mul_cancel (by decide)
  have s := ovl_split (x := x) (y := y) (a := a) (m := (a + b) / 2) (b := b) (by grind) (by grind)
  rw [← s]
  grind
theorem sumR_shift (f : Nat → Rat) : ∀ n, sumR f (n + 1) = f 0 + sumR (fun i => f (i + 1)) n
  | 0 => by simp [sumR]; grind
  | n + 1 => by
    rw [sumR, sumR_shift f n]
    simp only [sumR]
    grind
theorem sumR_rev (f : Nat → Rat) : ∀ n, sumR (fun i => f (n - 1 - i)) n = sumR f n
  | 0 => rfl
  | n + 1 => by
    rw [sumR_shift]
    simp only [sumR]
    have e : sumR (fun i => f (n + 1 - 1 - (i + 1))) n = sumR (fun i => f (n - 1 - i)) n := sumR_congr fun i hi => by
      rw [show n + 1 - 1 - (i + 1) = n - 1 - i by omega]
    rw [e, sumR_rev f n, show n + 1 - 1 - 0 = n by omega]
    grind
theorem rev_wid (l : Rw) : wid l.reverse = wid l := by
  unfold wid
  rw [List.map_reverse, List.sum_reverse]
theorem rev_pre (l : Rw) {i : Nat} (hi : i ≤ l.length) : pre l.reverse i = wid l - pre l (l.length - i) := by
  have e : wid l = ((l.take (l.length - i)).map (·.1)).sum + ((l.drop (l.length - i)).map (·.1)).sum := by
    unfold wid
    rw [← List.sum_append, ← List.map_append, List.take_append_drop]
  unfold pre
  rw [e, List.take_reverse, List.map_reverse, List.sum_reverse]
  omega
theorem rev_bq {l : Rw} {i : Nat} (hi : i ≤ l.length) (hw : wid l ≠ 0) : bq l.reverse i = 1 - bq l (l.length - i) := by
  have hw' : (wid l : Rat) ≠ 0 := by
    intro z
    exact hw (by exact_mod_cast z)
  unfold bq
  rw [rev_pre l hi, rev_wid, Rat.divInt_eq_div, Rat.divInt_eq_div, Rat.intCast_sub]
  generalize (pre l (l.length - i) : Rat) = p
  generalize (wid l : Rat) = W at *
  have q1 : (W - p) / W * W = W - p := Rat.div_mul_cancel hw'
  have q2 : p / W * W = p := Rat.div_mul_cancel hw'
  generalize (W - p) / W = a at *
  generalize p / W = b at *
  have : (a - (1 - b)) * W = 0 := by grind
  rcases Rat.mul_eq_zero.mp this with z | z
  · grind
  · exact absurd z hw'
theorem ovl_turn (x y a b : Rat) : ovl (1 - y) (1 - x) (1 - b) (1 - a) = ovl x y a b := by
  unfold ovl
  grind
theorem wq_rev {l : Rw} (hr : RowsOk 8 l) (x y : Rat) : wq (1 - y) (1 - x) l.reverse = wq x y l := by
  have hw : wid l ≠ 0 := by have := wid_pos hr; omega
  unfold wq
  rw [List.length_reverse, ← sumR_rev (wpart x y l) l.length]
  refine sumR_congr fun i hi => ?_
  have ev : vq l.reverse i = vq l (l.length - 1 - i) := by
    unfold vq
    rw [List.getElem?_reverse hi]
  have e1 : l.length - i = l.length - 1 - i + 1 := by omega
  have e2 : l.length - (i + 1) = l.length - 1 - i := by omega
  rw [wpart_ovl, wpart_ovl, ev, rev_bq (by omega) hw, rev_bq (by omega) hw, e1, e2, ovl_turn]
  congr 2
  grind
theorem rev_ok {m : Nat} {l : Rw} (h : RowsOk m l) : RowsOk m l.reverse := by
  obtain ⟨h1, h2, h3, h4⟩ := h
  refine ⟨by simpa using h1, by simpa using h2, fun r mem => h3 r (by simpa using mem), ?_⟩
  rw [List.map_reverse, List.sum_reverse]
  exact h4
theorem place_ok {p q N : Nat} {st : Sto} (B : Box p q N st) (hN : N ≤ 90000) : ∃ x st', F_law_place [.ptr p] st = .val .P (dF x) st' ∧ 0 ≤ x ∧ x ≤ 1 ∧ Sz 21 x ∧ Box p q (N + 3) st' ∧ Rest p q st st' := by
  obtain ⟨s, st1, t1, s0, s1, B1, R1⟩ := take_ok B (n := 4) (by decide) (by decide) (by omega)
  have h1 : ∃ n : Int, atI [D.int 4, .int 30, .int 1000, .int 1000000] s = some (.int n) ∧ 1 ≤ n ∧ n ≤ 1000000 := by
    have : s = 0 ∨ s = 1 ∨ s = 2 ∨ s = 3 := by omega
    rcases this with rfl | rfl | rfl | rfl <;> exact ⟨_, rfl, by decide, by decide⟩
  obtain ⟨n, e1, n0, n1⟩ := h1
  obtain ⟨b, st2, t2, b0, b1, B2, R2⟩ := take_ok B1 (n := n) n0 (by omega) (by omega)
  obtain ⟨t, st3, t3, z0, z1, B3, R3⟩ := take_ok B2 (n := 1 + b + 1) (by omega) (by omega) (by omega)
  have hq := q01 z0 (show t ≤ 1 + b by omega) (by omega)
  have hs := sz_low (n := 21) z0 (show t ≤ 1 + b by omega) (by omega) (by omega)
  have hlow := fun st => law_low_eq (t := t) (b := 1 + b) (by omega) (bit_log (m := 41) (by omega) (by decide)) st
  refine ⟨_, st3, ?_, hq.1, hq.2, hs, B3, (R1.trans R2).trans R3⟩
  simp [F_law_place, g_law_place, t1, e1, t2, t3, hlow]
theorem spot_ok {p q N : Nat} {st : Sto} {rows : List (Int × Int)} (hr : RowsOk 8 rows) (B : Box p q N st) (hN : N ≤ 80000) : ∃ x st', F_law_spot [.ptr p, .lst (rows.map dRow)] st = .val .P (dF x) st' ∧ 0 ≤ x ∧ x ≤ 1 ∧ Sz 21 x ∧ Box p q (N + 5) st' ∧ Rest p q st st' := by
  have hl := hr.2.1
  obtain ⟨w, st1, t1, w0, w1, B1, R1⟩ := take_ok B (n := 6) (by decide) (by decide) (by omega)
  obtain ⟨a, st2, t2, a0, a1, B2, R2⟩ := take_ok B1 (n := (rows.length : Int) + 1) (by omega) (by omega) (by omega)
  by_cases c0 : w = 0
  · exact ⟨0, st2, by simp [F_law_spot, g_law_spot, t1, t2, c0], by decide, by decide, sz0, B2.up (by omega), R1.trans R2⟩
  by_cases c1 : w = 1
  · exact ⟨1, st2, by simp [F_law_spot, g_law_spot, t1, t2, c1], by decide, by decide, sz1, B2.up (by omega), R1.trans R2⟩
  by_cases c2 : w < 4
  · have hw := wid_pos hr
    have hw2 := wid_le hr
    have p0 := pre_nonneg hr a.toNat
    have p1 := pre_le hr a.toNat
    have hq := q01 p0 p1 hw
    have hlow := fun st => law_low_eq (t := pre rows a.toNat) (b := wid rows) (by omega) (bit_log (m := 13) (by omega) (by decide)) st
    have hcut : cutG (rows.map dRow) none (some a) = (rows.take a.toNat).map dRow := by
      have : cutG (rows.map dRow) none (some a) = (rows.map dRow).take a.toNat := cut_to _ a0
      rw [this, List.map_take]
    refine ⟨_, st2, ?_, hq.1, hq.2, (bq_sz hr a.toNat).up (by decide), B2.up (by omega), R1.trans R2⟩
    have hs1 := fun st => rows_sum (l := rows) (e := [.val (.ptr p), .val (.lst (rows.map dRow)), .val (.int w), .val (.int a), .emp, .emp, .emp]) (st := st) (i := 5) (j := 6) (f := ce_law_spot_1) (g := (·.1)) (fun r st => by simp [q_ce_law_spot_1])
    have hs2 := fun st => rows_sum (l := rows.take a.toNat) (e := [.val (.ptr p), .val (.lst (rows.map dRow)), .val (.int w), .val (.int a), .val (.int (wid rows)), .emp, .emp]) (st := st) (i := 5) (j := 6) (f := ce_law_spot_2) (g := (·.1)) (fun r st => by simp [q_ce_law_spot_2])
    have hl1 : rows.length ≤ 1000000 := by omega
    have hl2 : (rows.take a.toNat).length ≤ 1000000 := by rw [List.length_take]; omega
    simp only [wid, pre] at hs2 hlow
    simp [-List.map_take, -List.length_take, F_law_spot, g_law_spot, t1, t2, c0, c1, c2, hl1, hs1, hcut, hl2, hs2, hlow]
    rfl
  · obtain ⟨x, st3, hx, x0, x1, xs, B3, R3⟩ := place_ok B2 (by omega)
    refine ⟨x, st3, ?_, x0, x1, xs, B3.up (by omega), (R1.trans R2).trans R3⟩
    simp [F_law_spot, g_law_spot, t1, t2, c0, c1, c2, hx]
structure BaseOk (l : Rw) : Prop where
  one : 1 ≤ l.length
  most : l.length ≤ 4
  row : ∀ r ∈ l, 1 ≤ r.1 ∧ r.1 ≤ 499 ∧ 0 ≤ r.2 ∧ r.2 ≤ 499999999
  pos : 0 < (l.map (·.2)).sum
theorem hal_mem : ∀ {l : Rw} {r : Int × Int}, r ∈ hal l → r ∈ l
  | [], r, h => by simp [hal] at h
  | a :: l, r, h => by
    simp only [hal, List.mem_cons] at h ⊢
    rcases h with h | h | h
    · exact .inl h
    · exact .inl h
    · exact .inr (hal_mem h)
theorem hal_sum : ∀ l : Rw, ((hal l).map (·.2)).sum = 2 * (l.map (·.2)).sum
  | [] => rfl
  | r :: l => by
    have := hal_sum l
    simp only [hal, List.map_cons, List.sum_cons]
    omega
section
variable {l : Rw} (h : BaseOk l)
include h
theorem base_tw : RowsOk 8 (tw l) := by
  have h1 := h.one
  have h4 := h.most
  refine ⟨by rw [tw_len]; exact h1, by rw [tw_len]; omega, fun r m => ?_, ?_⟩
  · obtain ⟨a, ha, rfl⟩ := List.mem_map.mp m
    have := h.row a ha
    refine ⟨?_, ?_, ?_, ?_⟩ <;> simp only <;> omega
  · unfold tw
    rw [List.map_map]
    have := sum_two (fun r => r.2) l
    have p := h.pos
    intro z
    have z' : (l.map fun r : Int × Int => 2 * r.2).sum = 0 := z
    omega
theorem base_nar : RowsOk 8 (nar l) := by
  have h1 := h.one
  have h4 := h.most
  refine ⟨by rw [nar_len]; exact h1, by rw [nar_len]; omega, fun r m => ?_, ?_⟩
  · obtain ⟨a, ha, rfl⟩ := List.mem_map.mp m
    have := h.row a ha
    refine ⟨?_, ?_, ?_, ?_⟩ <;> simp only <;> omega
  · unfold nar
    rw [List.map_map]
    have := sum_two (fun r => r.2) l
    have p := h.pos
    intro z
    have z' : (l.map fun r : Int × Int => 2 * r.2).sum = 0 := z
    omega
theorem base_hal : RowsOk 8 (hal l) := by
  have h1 := h.one
  have h4 := h.most
  refine ⟨by rw [hal_len]; omega, by rw [hal_len]; omega, fun r m => ?_, ?_⟩
  · have := h.row r (hal_mem m)
    exact ⟨this.1, by omega, this.2.2.1, by omega⟩
  · rw [hal_sum]
    have p := h.pos
    omega
end
def bf (r : Int × Int) : Int × Int := (r.1.fmod 499 + 1, r.2.fmod 499999999)
theorem bf_ok (r : Int × Int) : 1 ≤ (bf r).1 ∧ (bf r).1 ≤ 499 ∧ 0 ≤ (bf r).2 ∧ (bf r).2 < 499999999 := by
  have a := fmod_in r.1 (s := 499) (by decide)
  have b := fmod_in r.2 (s := 499999999) (by decide)
  refine ⟨?_, ?_, b.1, b.2⟩ <;> simp only [bf] <;> omega
theorem base_of {rows : Rw} {a : Int × Int} {m : Nat} (h : RowsOk m (a :: rows)) (hm : m ≤ 4) : BaseOk (((bf a).1, (bf a).2 + 1) :: rows.map bf) := by
  have h2 := h.2.1
  have ha := bf_ok a
  have hrow : ∀ r ∈ ((bf a).1, (bf a).2 + 1) :: rows.map bf, 1 ≤ r.1 ∧ r.1 ≤ 499 ∧ 0 ≤ r.2 ∧ r.2 ≤ 499999999 := fun r m => by
    rcases List.mem_cons.mp m with z | z
    · subst z; simp only; omega
    · obtain ⟨b, hb, rfl⟩ := List.mem_map.mp z
      have := bf_ok b
      omega
  refine ⟨by simp, by simp only [List.length_cons, List.length_map] at h2 ⊢; omega, hrow, ?_⟩
  have := sum_pos (f := fun r : Int × Int => r.2) (l := ((bf a).1, (bf a).2 + 1) :: rows.map bf) (fun r m => (hrow r m).2.2.1) (List.mem_cons_self ..) (by simp only; omega)
  exact this
theorem hal_app (l : Rw) (r : Int × Int) : hal l ++ [r, r] = hal (l ++ [r]) := by
  induction l with
  | nil => rfl
  | cons a l ih => simp only [hal, List.cons_append, ih]
theorem made_ok {p q N : Nat} {st : Sto} (B : Box p q N st) (hN : N ≤ 70000) : ∃ l st', F_law_made [.ptr p] st = .val .P (.tup [.lst ((tw l).map dRow), .lst ((hal l).map dRow), .lst ((nar l).map dRow)]) st' ∧ BaseOk l ∧ Box p q (N + 22) st' ∧ Rest p q st st' := by
  obtain ⟨rows, st1, t1, hr, B1, R1⟩ := rows_ok B (m := 4) (by omega) (by decide) (by decide)
  have t1' : F_law_rows [.ptr p, .int 4] st = .val .N (.lst (rows.map dRow)) st1 := t1
  cases rows with
  | nil => exact absurd hr.1 (by simp)
  | cons a rows =>
    have hb := base_of hr (by decide)
    have hl4 : rows.length ≤ 3 := by have := hr.2.1; simp only [List.length_cons] at this; omega
    have hc1 : ∀ e st, lcGo (lcStep (tgT 2 (tgsCons (tgN 5) (tgsCons (tgN 6) tgsNil))) (fun E => .val .P (.bl true) E.st) ce_law_made_1 [.val (.ptr p), e, .emp, .emp, .emp, .emp, .emp]) ((a :: rows).map dRow) st = some (((a :: rows).map bf).map dRow, st) := fun e st => by
      rw [List.map_map]
      exact lc_map fun r _ => by simp [q_ce_law_made_1, dRow, bf]
    generalize hL : ((bf a).1, (bf a).2 + 1) :: rows.map bf = L at *
    have hLl : L.length ≤ 4 := hb.most
    have hm : ∀ r ∈ L, Nat.log2 2 + r.1.natAbs.log2 < 1000000 ∧ Nat.log2 2 + r.2.natAbs.log2 < 1000000 := fun r m => by
      have := hb.row r m
      exact ⟨mul_ok (i := 2) (a := 20) (b := 40) (by decide) (by omega) (by decide) (by decide) (by decide), mul_ok (i := 2) (a := 20) (b := 40) (by decide) (by omega) (by decide) (by decide) (by decide)⟩
    have hc2 : ∀ e e2 e3 st, lcGo (lcStep (tgT 2 (tgsCons (tgN 5) (tgsCons (tgN 6) tgsNil))) (fun E => .val .P (.bl true) E.st) ce_law_made_2 [.val (.ptr p), e, e2, e3, .emp, .emp, .emp]) (L.map dRow) st = some ((tw L).map dRow, st) := fun e e2 e3 st => by
      unfold tw
      rw [List.map_map]
      exact lc_map fun r m => by simp [q_ce_law_made_2, dRow, (hm r m).1, (hm r m).2]
    have hc4 : ∀ e e2 e3 st, lcGo (lcStep (tgT 2 (tgsCons (tgN 5) (tgsCons (tgN 6) tgsNil))) (fun E => .val .P (.bl true) E.st) ce_law_made_4 [.val (.ptr p), e, e2, e3, .emp, .emp, .emp]) (L.map dRow) st = some ((nar L).map dRow, st) := fun e e2 e3 st => by
      unfold nar
      rw [List.map_map]
      exact lc_map fun r m => by simp [q_ce_law_made_4, dRow, (hm r m).2]
    obtain ⟨E', h3, x5, x6, rfl⟩ := for_map (b := tgB (tgT 2 (tgsCons (tgN 5) (tgsCons (tgN 6) tgsNil))) fb_law_made_3) (enc := dRow) (fun done E => ∃ x5 x6, E = ⟨[.val (.ptr p), .val (.lst (L.map dRow)), .val (.lst ((tw L).map dRow)), .val (.lst ((hal done).map dRow)), .emp, x5, x6], st1⟩) L [] L ⟨[.val (.ptr p), .val (.lst (L.map dRow)), .val (.lst ((tw L).map dRow)), .val (.lst []), .emp, .emp, .emp], st1⟩ rfl (by
      rintro done r ys E e ⟨x5, x6, rfl⟩
      refine ⟨_, .inl ?_, .val (.int r.1), .val (.int r.2), rfl⟩
      have hd : done.length ≤ 4 := by rw [e] at hLl; simp at hLl; omega
      have hd2 : (hal done).length ≤ 999998 := by rw [hal_len]; omega
      rw [← hal_app]
      simp [q_fb_law_made_3, dRow, hd2]) ⟨.emp, .emp, rfl⟩
    have hix : atI ((((a :: rows).map bf)).map dRow) 0 = some (.tup [.int (bf a).1, .int (bf a).2]) := atI_nat (j := 0) rfl
    have hset : (((a :: rows).map bf).map dRow).set 0 (.tup [.int (bf a).1, .int ((bf a).2 + 1)]) = L.map dRow := by rw [← hL]; rfl
    have hlr : (((a :: rows).map bf).map dRow).length = rows.length + 1 := by simp
    have hl1 : ((a :: rows).map dRow).length ≤ 1000000 := by simp; omega
    have hl2 : (L.map dRow).length ≤ 1000000 := by simp; omega
    generalize (bf a).1 = fa at *
    generalize (bf a).2 = fb at *
    refine ⟨L, st1, ?_, hb, B1.up (by omega), R1⟩
    generalize (nar L).map dRow = ND at *
    generalize (tw L).map dRow = TD at *
    generalize (hal L).map dRow = HD at *
    generalize L.map dRow = LD at *
    generalize ((a :: rows).map bf).map dRow = AD at *
    generalize (a :: rows).map dRow = RD at *
    have i0 : ∀ u v : D, atI [u, v] 0 = some u := fun _ _ => rfl
    have i1 : ∀ u v : D, atI [u, v] 1 = some v := fun _ _ => rfl
    have ix0 : ixN (rows.length + 1) 0 = some 0 := by simp [ixN]
    simp -implicitDefEqProofs [F_law_made, g_law_made, i0, i1, ix0, t1', hl1, hl2, hc1, hix, hset, hlr, hc2, h3, hc4]
section
variable {st : Sto} {rows others : List (Int × Int)} {t u r : Nat}
theorem teq (h : TabAt st t rows) (k : TabAt st u others) : F_Table___eq__ [.ptr t, .ptr u] st = .val .P (.bl (decide (rows = others))) st := by
  unfold TabAt at h k
  simp -implicitDefEqProofs [F_Table___eq__, g_Table___eq__, h, k]
end
theorem ne_dO (o : Option Rat) (st : Sto) : oNe (dO o) (dO o) st = .val .P (.bl false) st := by
  cases o with
  | none => exact ne_self (d := .non) rfl (by simp [dep]) st
  | some q => simp [dO]
section
variable {st : Sto} {n : Nat} {rows : List (Int × Int)} (T : TabAt st n rows) (hr : RowsOk 8 rows)
include T hr
theorem cut_all {x y m : Rat} {s M : Nat} (hx : Sz s x) (hy : Sz s y) (hs : 13 ≤ s) (hm : Sz M m) (hM : M + 21 * s + 700 < 9000) (c : ¬ (x < 0 ∨ 1 < y ∨ y < x)) (h0 : 0 ≤ m) : F_Table_cut [.ptr n, dF x, dF m, dF y] st = .val .P (dO (cutO rows x y m)) st := by
  unfold cutO
  by_cases z : m = 0
  · subst z
    rw [if_pos rfl]
    exact cut_zero (s := s) (hx.up (by omega)) (hy.up (by omega)) (by omega) c
  · rw [if_neg z]
    exact cut_pos T hr hx hy hs hm hM c (by grind)
theorem worth_all {x y : Rat} {s : Nat} (hx : Sz s x) (hy : Sz s y) (hs : 13 ≤ s) (hs2 : s ≤ 400) (h0 : 0 ≤ x) (h : x ≤ y) (h1 : y ≤ 1) : F_Table_worth [.ptr n, dF x, dF y] st = .val .P (dF (wq x y rows)) st := by
  rw [worth_eq T hr hx hy hs hs2, if_neg (by grind)]
end
section
variable {rows : List (Int × Int)} (hr : RowsOk 8 rows)
include hr
theorem cut_size {x a y f : Rat} (h0 : 0 ≤ x) (h1 : x ≤ a) (h2 : a ≤ y) (h3 : y ≤ 1) (hx : Sz 21 x) (ha : Sz 21 a) (hf : cutO rows x y (wq x a rows) = some f) : Sz 239 f := by
  obtain ⟨z, e, k1, k2, k3, k4, k5⟩ := cutO_span hr h0 h1 h2 h3
  rw [hf] at e
  obtain rfl := Option.some.inj e
  by_cases c : wq x a rows = 0
  · unfold cutO at hf
    rw [if_pos c] at hf
    obtain rfl := Option.some.inj hf
    exact hx.up (by decide)
  · have n := wq_nonneg hr x a
    obtain ⟨z, e, q1, q2, q3, q4, q5⟩ := cut_spec hr h0 (show x ≤ 1 by grind) (show 0 < wq x a rows by grind) (wq_mono2 hr h1 (by grind))
    have l1 : Lst rows x 1 (wq x a rows) (some z) := .inr ⟨z, rfl, by grind, q2, q3, q4⟩
    have l2 : Lst rows x 1 (wq x a rows) (some f) := .inr ⟨f, rfl, k1, by grind, k3, k5⟩
    obtain rfl := Option.some.inj (lst_uniq hr l1 l2)
    have e1 := wq_cw hr (x := z) (y := a) (by grind) k2
    have e2 : cw rows z = cw rows a := by grind
    have sz := cw_sz hr ha (by grind) (by grind)
    exact q5 131 (by rw [e2]; exact sz)
end
section
variable {l : Rw} (h : BaseOk l)
include h
theorem same_hal : SameW (tw l) (hal l) := fun x y _ _ _ => (wq_hal (base_tw h) x y).symm
end
theorem same_nar (l : Rw) : SameW (tw l) (nar l) := fun x y _ _ _ => (wq_nar l x y).symm
section
variable {st : Sto} {t h n : Nat} {L1 L2 L3 : List D} {X A Y P1 P2 F B G C C7 : D} {V1 V2 : SL} {i2 : D}
theorem cuts_turn (Tt : st[t]? = some (.ins 5 L1)) (Th : st[h]? = some (.ins 5 L2)) (c1 : F_Table_cut [.ptr h, X, P1, Y] st = .val .P F st) (c2 : F_Table_cut [.ptr h, X, B, .non] st = .val .P C st) (c3 : F_Table_cut [.ptr t, X, B, .non] st = .val .P C st) (nF : oNe F F st = .val .P (.bl false) st) (nC : oNe C C st = .val .P (.bl false) st) (v : SL) :
    tgB (tgN 10) fb_law_cuts_right_1 (.ptr h) ⟨[.val (.ptr t), V1, .val X, .val A, .val Y, .val P1, V2, .val F, .val B, .val G, v], st⟩ = .nx ⟨[.val (.ptr t), V1, .val X, .val A, .val Y, .val P1, V2, .val F, .val B, .val G, .val (.ptr h)], st⟩ := by
  simp -implicitDefEqProofs [q_fb_law_cuts_right_1, Tt, Th, c1, c2, c3, nF, nC]
theorem cuts_run (Tt : st[t]? = some (.ins 5 L1)) (Th : st[h]? = some (.ins 5 L2)) (Tn : st[n]? = some (.ins 5 L3))
    (w1 : F_Table_worth [.ptr t, X, A] st = .val .P P1 st) (w2 : F_Table_worth [.ptr t, A, Y] st = .val .P P2 st) (c1 : F_Table_cut [.ptr t, X, P1, Y] st = .val .P F st) (iF : isNon F = false) (ls : F_law_less [A, F] st = .val .P (.bl false) st) (w3 : F_Table_worth [.ptr t, F, A] st = .val .P (.tup [.int 0, .int 1]) st) (pl : F_law_plus [P1, P2] st = .val .P B st) (c2 : F_Table_cut [.ptr t, X, B, Y] st = .val .P G st) (iG : isNon G = false)
    (cG : oGt i2 (.int 0) st = .val .P (.bl false) st ∨ oGt i2 (.int 0) st = .val .P (.bl true) st ∧ F_Table_cut [.ptr t, F, P2, Y] st = .val .P G st) (hi2 : oIx P2 (.int 0) st = .val .P i2 st)
    (c3 : F_Table_cut [.ptr h, X, P1, Y] st = .val .P F st) (c4 : F_Table_cut [.ptr n, X, P1, Y] st = .val .P F st) (c5 : F_Table_cut [.ptr t, X, B, .non] st = .val .P C st) (c6 : F_Table_cut [.ptr h, X, B, .non] st = .val .P C st) (c7 : F_Table_cut [.ptr n, X, B, .non] st = .val .P C st) (nF : oNe F F st = .val .P (.bl false) st) (nG : oNe G G st = .val .P (.bl false) st) (nC : oNe C C st = .val .P (.bl false) st)
    (p7 : F_law_plus [B, .tup [.int 1, .int 7]] st = .val .P C7 st) (c8 : F_Table_cut [.ptr t, X, C7, Y] st = .val .P .non st) :
    F_law_cuts_right [.ptr t, .lst [.ptr h, .ptr n], X, A, Y] st = .val .P (.bl true) st := by
  have f1 := cuts_turn (A := A) (G := G) (V1 := .val (.lst [.ptr h, .ptr n])) (V2 := .val P2) (t := t) Tt Th c3 c6 c5 nF nC .emp
  have f2 := cuts_turn (A := A) (G := G) (V1 := .val (.lst [.ptr h, .ptr n])) (V2 := .val P2) (t := t) Tt Tn c4 c7 c5 nF nC (.val (.ptr h))
  have hf : forD (tgB (tgN 10) fb_law_cuts_right_1) [.ptr h, .ptr n] ⟨[.val (.ptr t), .val (.lst [.ptr h, .ptr n]), .val X, .val A, .val Y, .val P1, .val P2, .val F, .val B, .val G, .emp], st⟩ = .nx ⟨[.val (.ptr t), .val (.lst [.ptr h, .ptr n]), .val X, .val A, .val Y, .val P1, .val P2, .val F, .val B, .val G, .val (.ptr n)], st⟩ := by
    rw [forD, f1]
    simp only
    rw [forD, f2]
    rfl
  rcases cG with g | ⟨g, c9⟩
  · simp -implicitDefEqProofs [F_law_cuts_right, g_law_cuts_right, Tt, w1, w2, c1, iF, ls, w3, pl, c2, iG, hi2, g, hf, p7, c8]
  · simp -implicitDefEqProofs [F_law_cuts_right, g_law_cuts_right, Tt, w1, w2, c1, iF, ls, w3, pl, c2, iG, hi2, g, c9, nG, hf, p7, c8]
end
theorem cuts_ok {st : Sto} {t h n : Nat} {l : Rw} (hb : BaseOk l) (Tt : TabAt st t (tw l)) (Th : TabAt st h (hal l)) (Tn : TabAt st n (nar l)) {x a y : Rat} (h0 : 0 ≤ x) (h1 : x ≤ a) (h2 : a ≤ y) (h3 : y ≤ 1) (sx : Sz 21 x) (sa : Sz 21 a) (sy : Sz 21 y) : F_law_cuts_right [.ptr t, .lst [.ptr h, .ptr n], dF x, dF a, dF y] st = .val .P (.bl true) st := by
  have hr := base_tw hb
  have hr1 := base_hal hb
  have hr2 := base_nar hb
  have s1 := same_hal hb
  have s2 := same_nar l
  obtain ⟨f, ef, f1, f2, f3, f4, f5⟩ := cutO_span hr h0 h1 h2 h3
  have sf := cut_size hr h0 h1 h2 h3 sx sa ef
  have n1 := wq_nonneg hr x a
  have n2 := wq_nonneg hr a y
  have z1 := wq_sz2 hr sx sa h0 h1 (by grind)
  have z2 := wq_sz2 hr sa sy (by grind) h2 h3
  have z3 := (z1.add z2).up (show _ ≤ 600 by omega)
  have s7 : Sz 4 (Rat.divInt 1 7) := Sz.mk (by decide) (by decide) (by decide)
  have z4 := (z3.add s7).up (show _ ≤ 610 by omega)
  have c : ¬ (x < 0 ∨ 1 < y ∨ y < x) := by grind
  have c' : ¬ (x < 0 ∨ (1 : Rat) < 1 ∨ (1 : Rat) < x) := by grind
  have add := wq_add hr h1 h2
  obtain ⟨g, eg, g1, g2⟩ := cutO_both hr h0 (show x ≤ y by grind) h3
  have eg' : cutO (tw l) x y (wq x a (tw l) + wq a y (tw l)) = some g := by rw [add]; exact eg
  have w1 := worth_all Tt hr sx sa (by decide) (by decide) h0 h1 (by grind)
  have w2 := worth_all Tt hr sa sy (by decide) (by decide) (by grind) h2 h3
  have w3 := worth_all Tt hr sf (sa.up (by decide)) (by decide) (by decide) (by grind) f2 (by grind)
  rw [f4] at w3
  have c1 := cut_all Tt hr sx sy (by decide) z1 (by decide) c n1
  have k1 := cut_all Th hr1 sx sy (by decide) z1 (by decide) c n1
  have k2 := cut_all Tn hr2 sx sy (by decide) z1 (by decide) c n1
  rw [cutO_same hr hr1 s1 h0 (by grind) h3 n1] at k1
  rw [cutO_same hr hr2 s2 h0 (by grind) h3 n1] at k2
  rw [ef] at c1 k1 k2
  have nb : 0 ≤ wq x a (tw l) + wq a y (tw l) := by grind
  have c2 := cut_all Tt hr sx sy (by decide) z3 (by decide) c nb
  rw [eg'] at c2
  have pl := law_plus_eq z1 z2 (by decide) st
  have p7 := law_plus_eq z3 s7 (by decide) st
  have ls := law_less_eq sa sf (by decide) st
  rw [decide_eq_false (by grind)] at ls
  have c5 := cut_all Tt hr sx sz1 (by decide) z3 (by decide) c' nb
  have c6 := cut_all Th hr1 sx sz1 (by decide) z3 (by decide) c' nb
  have c7 := cut_all Tn hr2 sx sz1 (by decide) z3 (by decide) c' nb
  rw [cutO_same hr hr1 s1 h0 (by grind) Rat.le_refl nb] at c6
  rw [cutO_same hr hr2 s2 h0 (by grind) Rat.le_refl nb] at c7
  rw [← cut_last] at c5 c6 c7
  have p : (0 : Rat) < Rat.divInt 1 7 := by decide
  have c8 := cut_all Tt hr sx sy (by decide) z4 (by decide) c (show 0 ≤ wq x a (tw l) + wq a y (tw l) + Rat.divInt 1 7 by grind)
  rw [cutO_none hr h0 h3 (by grind)] at c8
  have e7 : dF (Rat.divInt 1 7) = .tup [.int 1, .int 7] := by
    have : Rat.divInt 1 7 = (⟨1, 7, by decide, by decide⟩ : Rat) := by decide
    rw [this]; rfl
  rw [e7] at p7
  have e0 : dF 0 = .tup [.int 0, .int 1] := rfl
  rw [e0] at w3
  have cG : oGt (.int (wq a y (tw l)).num) (.int 0) st = .val .P (.bl false) st ∨ oGt (.int (wq a y (tw l)).num) (.int 0) st = .val .P (.bl true) st ∧ F_Table_cut [.ptr t, dF f, dF (wq a y (tw l)), dF y] st = .val .P (dF g) st := by
    by_cases q : 0 < wq a y (tw l)
    · refine .inr ⟨?_, ?_⟩
      · have : (wq a y (tw l)).num > 0 := by
          have := (Rat.lt_iff 0 (wq a y (tw l))).mp q
          simpa using this
        simp [this]
      · have c9 := cut_all Tt hr sf (sy.up (by decide)) (by decide) z2 (by decide) (show ¬ (f < 0 ∨ 1 < y ∨ y < f) by grind) n2
        rw [← cutO_on hr h0 h1 h2 h3 ef q, eg'] at c9
        exact c9
    · have : wq a y (tw l) = 0 := by grind
      rw [this]
      exact .inl rfl
  exact cuts_run (G := dF g) (F := dF f) (i2 := .int (wq a y (tw l)).num) Tt Th Tn w1 w2 c1 rfl ls w3 pl c2 rfl cG rfl k1 k2 c5 c6 c7 (ne_dO (some f) st) (ne_dO (some g) st) (ne_dO _ st) p7 c8
theorem turned_eq {q : Rat} {n : Nat} (h : Sz n q) (hn : n ≤ 8000) (st : Sto) : F_law_turned [dF q] st = .val .P (dF (1 - q)) st := by
  have e : 1 - q = Rat.divInt ((q.den : Int) - q.num) q.den := by
    have hd : ((q.den : Int) : Rat) ≠ 0 := by
      intro z
      have : (q.den : Int) = 0 := by exact_mod_cast z
      have := q.den_pos
      omega
    have hq := Rat.num_divInt_den q
    rw [Rat.divInt_eq_div] at hq
    rw [Rat.divInt_eq_div, Rat.intCast_sub]
    generalize ((q.den : Int) : Rat) = d at *
    generalize ((q.num : Int) : Rat) = m at *
    have q1 : m / d * d = m := Rat.div_mul_cancel hd
    have q2 : (d - m) / d * d = d - m := Rat.div_mul_cancel hd
    rw [hq] at q1
    generalize (d - m) / d = r at *
    have : (1 - q - r) * d = 0 := by grind
    rcases Rat.mul_eq_zero.mp this with z | z
    · grind
    · exact absurd z hd
  have b : (q.den : Int) ≠ 0 := by have := q.den_pos; omega
  have l := law_low_eq (t := (q.den : Int) - q.num) b (bit_log (x := (q.den : Int)) (m := n) (by simpa using h.2) (by omega)) st
  rw [← e] at l
  simp [F_law_turned, g_law_turned, l]
section
variable {st : Sto} {t h n b p : Nat} {ns : List Int} {v2 v4 v5 v6 v9 v10 v11 v12 v13 v14 v15 v16 : SL}
theorem sum_for {rows : List (Int × Int)} (T : TabAt st t rows) (hr : RowsOk 8 rows) {v0 v1 v3 : SL} : ∃ v8, forD (tgB (tgN 8) fb_law_3) (rangeD 0 rows.length) ⟨[v0, v1, .val (.ptr t), v3, v4, v5, .val (.lst ((bqs rows).map dF)), .val (dF 0), .emp, v9, v10, v11, v12, v13, v14, v15, v16], st⟩ = .nx ⟨[v0, v1, .val (.ptr t), v3, v4, v5, .val (.lst ((bqs rows).map dF)), .val (dF (wq 0 1 rows)), v8, v9, v10, v11, v12, v13, v14, v15, v16], st⟩ := by
  have hl : (rangeD 0 rows.length).length = rows.length := by simp [rangeD]
  obtain ⟨E', h1, v8, e⟩ := for_inv (b := tgB (tgN 8) fb_law_3) (fun k E => ∃ v8, E = ⟨[v0, v1, .val (.ptr t), v3, v4, v5, .val (.lst ((bqs rows).map dF)), .val (dF (wq 0 (bq rows k) rows)), v8, v9, v10, v11, v12, v13, v14, v15, v16], st⟩) (rangeD 0 rows.length) 0 ⟨[v0, v1, .val (.ptr t), v3, v4, v5, .val (.lst ((bqs rows).map dF)), .val (dF 0), .emp, v9, v10, v11, v12, v13, v14, v15, v16], st⟩ (by
      rintro i x E hx ⟨v8, rfl⟩
      have hi : i < rows.length := by
        have := (List.getElem?_eq_some_iff.mp hx).1
        omega
      have hxi : x = .int (i : Int) := by
        rw [rangeD_ints, List.map_map, List.getElem?_map, List.getElem?_range hi] at hx
        exact (Option.some.inj hx).symm
      subst hxi
      have a0 := bq_01 hr i
      have a1 := bq_01 hr (i + 1)
      have lt := bq_lt hr hi
      have s0 := (bq_sz hr i).up (show 13 ≤ 21 by decide)
      have s1 := (bq_sz hr (i + 1)).up (show 13 ≤ 21 by decide)
      have w := worth_all T hr s0 s1 (by decide) (by decide) a0.1 (Rat.le_of_lt lt) a1.2
      have z0 := wq_sz2 hr (sz0 (n := 20)) s0 (by decide) a0.1 a0.2
      have z1 := wq_sz2 hr s0 s1 a0.1 (Rat.le_of_lt lt) a1.2
      have pl := law_plus_eq z0 z1 (by decide) st
      rw [wq_add hr a0.1 (Rat.le_of_lt lt)] at pl
      have i0 := bqs_at (rows := rows) (i := i) (by omega)
      have i1 : atI ((bqs rows).map dF) ((i : Int) + 1) = some (dF (bq rows (i + 1))) := bqs_at (rows := rows) (i := i + 1) (by omega)
      have T' : st[t]? = some (.ins 5 [.lst (rows.map dRow), .lst ((bqs rows).map dF)]) := T
      rw [Nat.zero_add]
      refine ⟨_, .inl ?_, .val (.int i), rfl⟩
      generalize (bqs rows).map dF = BD at *
      generalize rows.map dRow = RD at *
      generalize dF (wq 0 (bq rows i) rows) = w0 at *
      generalize dF (wq 0 (bq rows (i + 1)) rows) = w1 at *
      generalize dF (wq (bq rows i) (bq rows (i + 1)) rows) = w2 at *
      generalize dF (bq rows i) = b0 at *
      generalize dF (bq rows (i + 1)) = b1 at *
      simp -implicitDefEqProofs [q_fb_law_3, T', i0, i1, w, pl]) (by
      refine ⟨.emp, ?_⟩
      have z : wq 0 (bq rows 0) rows = 0 := by rw [bq_zero hr]; exact cw_zero hr
      rw [z])
  rw [Nat.zero_add, hl, bq_len hr] at e
  exact ⟨v8, by rw [h1, e]⟩
end
theorem bqs_len (rows : List (Int × Int)) : (bqs rows).length = rows.length + 1 := by simp [bqs]
theorem tail2 {st : Sto} {t h n : Nat} {v0 v1 v4 v5 v9 v10 v11 v15 v16 X A Y : D} {l : Rw} (hb : BaseOk l) (Tt : TabAt st t (tw l)) (Th : TabAt st h (hal l)) (cr : F_law_cuts_right [.ptr t, .lst [.ptr h, .ptr n], X, A, Y] st = .val .P (.bl true) st) {u15 u16 : SL} :
    (k_law_14 ⟨[.val v0, .val v1, .val (.ptr t), .val (.lst [.ptr h, .ptr n]), .val v4, .val v5, .val (.lst ((bqs (tw l)).map dF)), .emp, .emp, .val v9, .val v10, .val v11, .val X, .val A, .val Y, u15, u16], st⟩).ret = .val .P (.bl true) st := by
  have hr := base_tw hb
  have hr2 := base_hal hb
  obtain ⟨v8, hf⟩ := sum_for (v0 := .val v0) (v1 := .val v1) (v3 := .val (.lst [.ptr h, .ptr n])) (v4 := .val v4) (v5 := .val v5) (v9 := .val v9) (v10 := .val v10) (v11 := .val v11) (v12 := .val X) (v13 := .val A) (v14 := .val Y) (v15 := u15) (v16 := u16) Tt hr
  have h4 := hb.most
  have l1 : (tw l).length ≤ 8 := hr.2.1
  have htot := total_eq Tt (by omega)
  have lt1 : ((tw l).map dRow).length = l.length := by rw [List.length_map, tw_len]
  have lt2 : ((hal l).map dRow).length = 2 * l.length := by rw [List.length_map, hal_len]
  have Tt' : st[t]? = some (.ins 5 [.lst ((tw l).map dRow), .lst ((bqs (tw l)).map dF)]) := Tt
  have Th' : st[h]? = some (.ins 5 [.lst ((hal l).map dRow), .lst ((bqs (hal l)).map dF)]) := Th
  have hln1 : F_Table___len__ [.ptr t] st = .val .P (.int l.length) st := by
    generalize (tw l).map dRow = RD at *
    generalize (bqs (tw l)).map dF = BD at *
    simp -implicitDefEqProofs [F_Table___len__, g_Table___len__, Tt', lt1]
  have hln2 : F_Table___len__ [.ptr h] st = .val .P (.int (2 * l.length : Nat)) st := by
    generalize (hal l).map dRow = RD at *
    generalize (bqs (hal l)).map dF = BD at *
    simp -implicitDefEqProofs [F_Table___len__, g_Table___len__, Th', lt2]
  have hbl : ((bqs (tw l)).map dF).length = l.length + 1 := by rw [List.length_map, bqs_len, tw_len]
  rw [tw_len] at hf
  have src : ∀ v7, dRng rng1 (aCons (dOp oSub (dCB oLen (aCons (dVar 6) aNil)) (dC (.int 1))) aNil) ⟨[.val v0, .val v1, .val (.ptr t), .val (.lst [.ptr h, .ptr n]), .val v4, .val v5, .val (.lst ((bqs (tw l)).map dF)), v7, .emp, .val v9, .val v10, .val v11, .val X, .val A, .val Y, u15, u16], st⟩ = .ok true (rangeD 0 l.length) st := fun v7 => by
    have r1 := rng1_nat (n := l.length) (by omega)
    refine dRng_of (p := true) (l := [.int (l.length : Int)]) ?_ r1
    have q : ((bqs (tw l)).map dF).length ≤ 1000000 := by omega
    generalize (bqs (tw l)).map dF = BD at *
    have q2 : (BD.length : Int) - 1 = l.length := by omega
    simp [q2]
  have e7 : wq 0 1 (tw l) = ((tot (tw l) : Int) : Rat) := wq_all hr
  have d7 : dF (wq 0 1 (tw l)) = .tup [.int (tot (tw l)), .int 1] := by rw [e7]; rfl
  rw [d7] at hf
  have hs := (sFor_of (src := dRng rng1 (aCons (dOp oSub (dCB oLen (aCons (dVar 6) aNil)) (dC (.int 1))) aNil)) (t := tgN 8) (b := fb_law_3) (src (.val (dF 0)))).trans hf
  have ll : (2 * (l.length : Int)) = ((2 * l.length : Nat) : Int) := by omega
  have mb : Nat.log2 2 + (l.length : Int).natAbs.log2 < 1000000 := mul_ok (i := 2) (a := 20) (b := 40) (by decide) (by omega) (by decide) (by decide) (by decide)
  have i0 : atI [D.ptr h, D.ptr n] 0 = some (.ptr h) := rfl
  have r1 : 0 ≤ (l.length : Int) ∧ (l.length : Int) < 9223372036854775808 := by omega
  have r2 : 0 ≤ ((2 * l.length : Nat) : Int) ∧ ((2 * l.length : Nat) : Int) < 9223372036854775808 := by omega
  clear src hf h4 l1 lt1 lt2 hbl Tt Th e7 d7
  generalize hL : (l.length : Int) = L at *
  generalize hL2 : ((2 * l.length : Nat) : Int) = L2 at *
  generalize tot (tw l) = to at *
  generalize (bqs (tw l)).map dF = BD at *
  generalize (tw l).map dRow = RD at *
  generalize (bqs (hal l)).map dF = BD2 at *
  generalize (hal l).map dRow = RD2 at *
  simp -implicitDefEqProofs [q_k_law_14, q_k_law_15, hs, q_k_law_16, Tt', Th', htot, hln1, hln2, i0, mb, ll, r1, r2, q_k_law_17, cr, -e_sFor]
theorem inL_pur {α : Type} [DecidableEq α] {enc : α → D} (hp : ∀ a, pur (enc a) = true) (hd : ∀ a, dep (enc a) ≤ 60) (hi : ∀ a b, enc a = enc b → a = b) (a : α) (l : List α) : inL (enc a) (l.map enc) = some (decide (a ∈ l)) := by
  obtain ⟨a1, a2, a3⟩ := pur_py _ (hp a)
  obtain ⟨b1, b2, b3⟩ := purL_py _ (purL_map hp l)
  have d1 := hd a
  have d2 := depL_map hd l
  unfold inL
  rw [if_pos ⟨a1, b1, by simp [SeqAt.shaped, a2, a3]; omega, by simp [SeqAt.shaped, PyData.canLay0, PyData.depth, b2, b3]; omega⟩]
  congr 1
  rw [Bool.eq_iff_iff, decide_eq_true_iff]
  clear d2 b1 b2 b3
  induction l with
  | nil => simp [pyL]
  | cons b l ih =>
    rw [List.map_cons, pyL, List.any_cons, Bool.or_eq_true, ih, eqv_pur _ _ (hp b) (hp a), List.mem_cons]
    constructor
    · rintro (h | h)
      · exact .inl (hi _ _ h).symm
      · exact .inr h
    · rintro (h | h)
      · exact .inl (by rw [h])
      · exact .inr h
theorem hal_ne {l : Rw} (hb : BaseOk l) : hal l ≠ tw l ∧ nar l ≠ tw l ∧ hal l ≠ nar l := by
  have h1 := hb.one
  refine ⟨fun e => ?_, fun e => ?_, fun e => ?_⟩
  · have := congrArg List.length e
    rw [hal_len, tw_len] at this; omega
  · cases l with
    | nil => exact absurd h1 (by decide)
    | cons r l =>
      have := hb.row r (List.mem_cons_self ..)
      simp only [nar, tw, List.map_cons, List.cons.injEq, Prod.mk.injEq] at e
      omega
  · have := congrArg List.length e
    rw [hal_len, nar_len] at this; omega
theorem bq_inl {l : Rw} (hb : BaseOk l) (a : Rat) (h : a ∈ bqs (tw l)) : inL (dF a) ((bqs (hal l)).map dF) = some true := by
  rw [inL_pur (enc := dF) (fun a => rfl) (fun a => by show dep (.tup [.int a.num, .int a.den]) ≤ 60; simp [dep, depL]) (fun a b h => dF_inj.mp h)]
  rw [decide_eq_true]
  obtain ⟨i, hi, rfl⟩ := List.mem_map.mp h
  have hi' := List.mem_range.mp hi
  rw [tw_len] at hi'
  refine List.mem_map.mpr ⟨2 * i, List.mem_range.mpr (by rw [hal_len]; omega), ?_⟩
  rw [hal_bq, tw_bq]
theorem bqs_nar (l : Rw) : bqs (nar l) = bqs (tw l) := by
  unfold bqs
  rw [nar_len, tw_len]
  exact List.map_congr_left fun i _ => by rw [nar_bq, tw_bq]
theorem ends_eq {st : Sto} {t : Nat} {rows : List (Int × Int)} (T : TabAt st t rows) : F_Table_ends [.ptr t] st = .val .N (.lst ((bqs rows).map dF)) st := by
  have T' : st[t]? = some (.ins 5 [.lst (rows.map dRow), .lst ((bqs rows).map dF)]) := T
  generalize rows.map dRow = RD at *
  generalize (bqs rows).map dF = BD at *
  simp -implicitDefEqProofs [F_Table_ends, g_Table_ends, T']
section
variable {st : Sto} {t h n b : Nat} {v0 v1 v9 v10 v11 X A Y P XT YT : D} {EN EH : List D} {L1 L2 L3 L4 : List D} {c1 c2 c3 c4 : Nat}
theorem tail1_run (Tt : st[t]? = some (.ins 5 L1)) (Th : st[h]? = some (.ins 5 L2)) (Tn : st[n]? = some (.ins 5 L3)) (Tb : st[b]? = some (.ins 5 L4)) (nth : h ≠ t) (ntn : n ≠ t) (nhn : h ≠ n)
    (w1 : F_Table_worth [.ptr t, X, Y] st = .val .P P st) (w2 : F_Table_worth [.ptr h, X, Y] st = .val .P P st) (w3 : F_Table_worth [.ptr n, X, Y] st = .val .P P st) (eP : oEq P P st = .val .P (.bl true) st) (nP : oNe P P st = .val .P (.bl false) st)
    (tX : F_law_turned [X] st = .val .P XT st) (tY : F_law_turned [Y] st = .val .P YT st) (w4 : F_Table_worth [.ptr b, YT, XT] st = .val .P P st)
    (q1 : F_Table___eq__ [.ptr h, .ptr t] st = .val .P (.bl false) st) (q2 : F_Table___eq__ [.ptr n, .ptr t] st = .val .P (.bl false) st) (q3 : F_Table___eq__ [.ptr h, .ptr n] st = .val .P (.bl false) st)
    (e1 : F_Table_ends [.ptr t] st = .val .N (.lst EN) st) (e3 : F_Table_ends [.ptr n] st = .val .N (.lst EN) st) (nE : oNe (.lst EN) (.lst EN) st = .val .P (.bl false) st)
    (hc : ∀ u7 u8 u15 u16, ∃ R, lcGo (lcStep (tgN 16) (fun E => .val .P (.bl true) E.st) ce_law_2 [.val v0, .val v1, .val (.ptr t), .val (.lst [.ptr h, .ptr n]), .val (.ptr b), .val P, .val (.lst EN), u7, u8, .val v9, .val v10, .val v11, .val X, .val A, .val Y, u15, u16]) EN st = some (R, st) ∧ boolsOf R = some (List.replicate R.length true))
    (lE : EN.length ≤ 1000000) (fin : (k_law_14 ⟨[.val v0, .val v1, .val (.ptr t), .val (.lst [.ptr h, .ptr n]), .val (.ptr b), .val P, .val (.lst EN), .emp, .emp, .val v9, .val v10, .val v11, .val X, .val A, .val Y, .emp, .emp], st⟩).ret = .val .P (.bl true) st) :
    (k_law_9 ⟨[.val v0, .val v1, .val (.ptr t), .val (.lst [.ptr h, .ptr n]), .val (.ptr b), .emp, .emp, .emp, .emp, .val v9, .val v10, .val v11, .val X, .val A, .val Y, .emp, .emp], st⟩).ret = .val .P (.bl true) st := by
  obtain ⟨R, hR, hB⟩ := hc .emp .emp .emp .emp
  have hall : (List.replicate R.length true).all id = true := by simp
  have i0 : atI [D.ptr h, D.ptr n] 0 = some (.ptr h) := rfl
  have i1 : atI [D.ptr h, D.ptr n] 1 = some (.ptr n) := rfl
  have hl1 : lcGo (lcStep (tgN 15) (fun E => .val .P (.bl true) E.st) ce_law_1 [.val v0, .val v1, .val (.ptr t), .val (.lst [.ptr h, .ptr n]), .val (.ptr b), .val P, .emp, .emp, .emp, .val v9, .val v10, .val v11, .val X, .val A, .val Y, .emp, .emp]) [.ptr h, .ptr n] st = some ([.bl true, .bl true], st) := by
    refine lc_map (enc := D.ptr) (f := fun _ => .bl true) (l := [h, n]) fun k hk => ?_
    rcases List.mem_cons.mp hk with rfl | hk
    · simp -implicitDefEqProofs [q_ce_law_1, Th, w2, eP]
    · obtain rfl := List.mem_singleton.mp hk
      simp -implicitDefEqProofs [q_ce_law_1, Tn, w3, eP]
  simp -implicitDefEqProofs [q_k_law_9, w1, q_k_law_10, hl1, boolsOf, Th, Tn, Tt, Tb, q_k_law_11, tX, tY, w4, nP, dInO, inO2, inWalk, inOne, inNext, ownF, nth, ntn, q1, q2, q3, i0, i1, q_k_law_12, e1, q_k_law_13, lE, hR, hB, hall, e3, nE, fin]
end
section
variable {st : Sto} {v0 v1 v9 v10 v11 : D} {x a y : Rat}
theorem ord3 (hx : Sz 21 x) (hy : Sz 21 y) : k_law_3 ⟨[.val v0, .val v1, .emp, .emp, .emp, .emp, .emp, .emp, .emp, .val v9, .val v10, .val v11, .val (dF x), .val (dF a), .val (dF y), .emp, .emp], st⟩ = k_law_4 ⟨[.val v0, .val v1, .emp, .emp, .emp, .emp, .emp, .emp, .emp, .val v9, .val v10, .val v11, .val (dF (if y < x then y else x)), .val (dF a), .val (dF (if y < x then x else y)), .emp, .emp], st⟩ := by
  have l := law_less_eq hy hx (by decide) st
  by_cases c : y < x
  · rw [if_pos c, if_pos c]
    rw [decide_eq_true c] at l
    generalize dF x = X at *
    generalize dF y = Y at *
    simp -implicitDefEqProofs [q_k_law_3, l]
  · rw [if_neg c, if_neg c]
    rw [decide_eq_false c] at l
    generalize dF x = X at *
    generalize dF y = Y at *
    simp -implicitDefEqProofs [q_k_law_3, l]
theorem ord4 (hx : Sz 21 x) (ha : Sz 21 a) : k_law_4 ⟨[.val v0, .val v1, .emp, .emp, .emp, .emp, .emp, .emp, .emp, .val v9, .val v10, .val v11, .val (dF x), .val (dF a), .val (dF y), .emp, .emp], st⟩ = k_law_5 ⟨[.val v0, .val v1, .emp, .emp, .emp, .emp, .emp, .emp, .emp, .val v9, .val v10, .val v11, .val (dF (if a < x then a else x)), .val (dF (if a < x then x else a)), .val (dF y), .emp, .emp], st⟩ := by
  have l := law_less_eq ha hx (by decide) st
  by_cases c : a < x
  · rw [if_pos c, if_pos c]
    rw [decide_eq_true c] at l
    generalize dF x = X at *
    generalize dF a = A at *
    simp -implicitDefEqProofs [q_k_law_4, l]
  · rw [if_neg c, if_neg c]
    rw [decide_eq_false c] at l
    generalize dF x = X at *
    generalize dF a = A at *
    simp -implicitDefEqProofs [q_k_law_4, l]
theorem ord5 (ha : Sz 21 a) (hy : Sz 21 y) : k_law_5 ⟨[.val v0, .val v1, .emp, .emp, .emp, .emp, .emp, .emp, .emp, .val v9, .val v10, .val v11, .val (dF x), .val (dF a), .val (dF y), .emp, .emp], st⟩ = k_law_6 ⟨[.val v0, .val v1, .emp, .emp, .emp, .emp, .emp, .emp, .emp, .val v9, .val v10, .val v11, .val (dF x), .val (dF (if y < a then y else a)), .val (dF (if y < a then a else y)), .emp, .emp], st⟩ := by
  have l := law_less_eq hy ha (by decide) st
  by_cases c : y < a
  · rw [if_pos c, if_pos c]
    rw [decide_eq_true c] at l
    generalize dF y = Y at *
    generalize dF a = A at *
    simp -implicitDefEqProofs [q_k_law_5, l]
  · rw [if_neg c, if_neg c]
    rw [decide_eq_false c] at l
    generalize dF y = Y at *
    generalize dF a = A at *
    simp -implicitDefEqProofs [q_k_law_5, l]
end
theorem sz_or {n : Nat} {x y : Rat} {p : Prop} [Decidable p] (hx : Sz n x) (hy : Sz n y) : Sz n (if p then x else y) := by
  by_cases c : p
  · rw [if_pos c]; exact hx
  · rw [if_neg c]; exact hy
theorem tail0 {o0 o1 : Ob} {v0 v1 : D} {l : Rw} (hb : BaseOk l) {x a y : Rat} (h0 : 0 ≤ x) (h1 : x ≤ a) (h2 : a ≤ y) (h3 : y ≤ 1) (sx : Sz 21 x) (sa : Sz 21 a) (sy : Sz 21 y) :
    ∃ st', (k_law_6 ⟨[.val v0, .val v1, .emp, .emp, .emp, .emp, .emp, .emp, .emp, .val (.lst ((tw l).map dRow)), .val (.lst ((hal l).map dRow)), .val (.lst ((nar l).map dRow)), .val (dF x), .val (dF a), .val (dF y), .emp, .emp], [o0, o1]⟩).ret = .val .P (.bl true) st' := by
  have hr := base_tw hb
  have hr1 := base_hal hb
  have hr2 := base_nar hb
  have hr3 := rev_ok hr
  have m1 := table_init hr [o0, o1]
  have m2 := table_init hr1 [o0, o1, .ins 5 [.lst ((tw l).map dRow), .lst ((bqs (tw l)).map dF)]]
  have m3 := table_init hr2 [o0, o1, .ins 5 [.lst ((tw l).map dRow), .lst ((bqs (tw l)).map dF)], .ins 5 [.lst ((hal l).map dRow), .lst ((bqs (hal l)).map dF)]]
  have m4 := table_init hr3 [o0, o1, .ins 5 [.lst ((tw l).map dRow), .lst ((bqs (tw l)).map dF)], .ins 5 [.lst ((hal l).map dRow), .lst ((bqs (hal l)).map dF)], .ins 5 [.lst ((nar l).map dRow), .lst ((bqs (nar l)).map dF)]]
  rw [List.map_reverse] at m4
  have Tt : TabAt [o0, o1, .ins 5 [.lst ((tw l).map dRow), .lst ((bqs (tw l)).map dF)], .ins 5 [.lst ((hal l).map dRow), .lst ((bqs (hal l)).map dF)], .ins 5 [.lst ((nar l).map dRow), .lst ((bqs (nar l)).map dF)], .ins 5 [.lst ((tw l).map dRow).reverse, .lst ((bqs (tw l).reverse).map dF)]] 2 (tw l) := rfl
  have Th : TabAt [o0, o1, .ins 5 [.lst ((tw l).map dRow), .lst ((bqs (tw l)).map dF)], .ins 5 [.lst ((hal l).map dRow), .lst ((bqs (hal l)).map dF)], .ins 5 [.lst ((nar l).map dRow), .lst ((bqs (nar l)).map dF)], .ins 5 [.lst ((tw l).map dRow).reverse, .lst ((bqs (tw l).reverse).map dF)]] 3 (hal l) := rfl
  have Tn : TabAt [o0, o1, .ins 5 [.lst ((tw l).map dRow), .lst ((bqs (tw l)).map dF)], .ins 5 [.lst ((hal l).map dRow), .lst ((bqs (hal l)).map dF)], .ins 5 [.lst ((nar l).map dRow), .lst ((bqs (nar l)).map dF)], .ins 5 [.lst ((tw l).map dRow).reverse, .lst ((bqs (tw l).reverse).map dF)]] 4 (nar l) := rfl
  have Tb : TabAt [o0, o1, .ins 5 [.lst ((tw l).map dRow), .lst ((bqs (tw l)).map dF)], .ins 5 [.lst ((hal l).map dRow), .lst ((bqs (hal l)).map dF)], .ins 5 [.lst ((nar l).map dRow), .lst ((bqs (nar l)).map dF)], .ins 5 [.lst ((tw l).map dRow).reverse, .lst ((bqs (tw l).reverse).map dF)]] 5 (tw l).reverse := by
    unfold TabAt
    rw [List.map_reverse]
    rfl
  generalize hst : ([o0, o1, .ins 5 [.lst ((tw l).map dRow), .lst ((bqs (tw l)).map dF)], .ins 5 [.lst ((hal l).map dRow), .lst ((bqs (hal l)).map dF)], .ins 5 [.lst ((nar l).map dRow), .lst ((bqs (nar l)).map dF)], .ins 5 [.lst ((tw l).map dRow).reverse, .lst ((bqs (tw l).reverse).map dF)]] : Sto) = st at *
  have cr := cuts_ok hb Tt Th Tn h0 h1 h2 h3 sx sa sy
  have s1 := same_hal hb
  have s2 := same_nar l
  have xy : x ≤ y := by grind
  have w1 := worth_all Tt hr sx sy (by decide) (by decide) h0 xy h3
  have w2 := worth_all Th hr1 sx sy (by decide) (by decide) h0 xy h3
  have w3 := worth_all Tn hr2 sx sy (by decide) (by decide) h0 xy h3
  rw [← s1 x y h0 xy h3] at w2
  rw [← s2 x y h0 xy h3] at w3
  have tX := turned_eq sx (by decide) st
  have tY := turned_eq sy (by decide) st
  have sX : Sz 45 (1 - x) := ((sz1 (n := 20)).sub sx).up (by decide)
  have sY : Sz 45 (1 - y) := ((sz1 (n := 20)).sub sy).up (by decide)
  have w4 := worth_all Tb hr3 sY sX (by decide) (by decide) (by grind) (by grind) (by grind)
  rw [wq_rev hr] at w4
  have n := hal_ne hb
  have q1 := teq Th Tt
  have q2 := teq Tn Tt
  have q3 := teq Th Tn
  rw [decide_eq_false n.1] at q1
  rw [decide_eq_false n.2.1] at q2
  rw [decide_eq_false n.2.2] at q3
  have e1 := ends_eq Tt
  have e2 := ends_eq Th
  have e3 := ends_eq Tn
  rw [bqs_nar] at e3
  have nE : oNe (.lst ((bqs (tw l)).map dF)) (.lst ((bqs (tw l)).map dF)) st = .val .P (.bl false) st := by simp
  have Th' : st[3]? = some (.ins 5 [.lst ((hal l).map dRow), .lst ((bqs (hal l)).map dF)]) := Th
  have hc : ∀ u7 u8 u15 u16, ∃ R, lcGo (lcStep (tgN 16) (fun E => .val .P (.bl true) E.st) ce_law_2 [.val v0, .val v1, .val (.ptr 2), .val (.lst [.ptr 3, .ptr 4]), .val (.ptr 5), .val (dF (wq x y (tw l))), .val (.lst ((bqs (tw l)).map dF)), u7, u8, .val (.lst ((tw l).map dRow)), .val (.lst ((hal l).map dRow)), .val (.lst ((nar l).map dRow)), .val (dF x), .val (dF a), .val (dF y), u15, u16]) ((bqs (tw l)).map dF) st = some (R, st) ∧ boolsOf R = some (List.replicate R.length true) := fun u7 u8 u15 u16 => by
    refine ⟨(bqs (tw l)).map fun _ => .bl true, lc_map fun q hq => ?_, ?_⟩
    · have i := bq_inl hb q hq
      have i0 : atI [D.ptr 3, D.ptr 4] 0 = some (.ptr 3) := rfl
      generalize (bqs (hal l)).map dF = BD2 at *
      generalize (hal l).map dRow = RD2 at *
      generalize (bqs (tw l)).map dF = BD at *
      generalize (tw l).map dRow = RD at *
      generalize (nar l).map dRow = RD3 at *
      generalize dF q = Q at *
      generalize dF x = X at *
      generalize dF a = A at *
      generalize dF y = Y at *
      simp -implicitDefEqProofs [q_ce_law_2, i0, Th', e2, i]
    · rw [boolsOf_map]
      simp [List.map_const']
  have fin := tail2 (v0 := v0) (v1 := v1) (v4 := .ptr 5) (v5 := dF (wq x y (tw l))) (v9 := .lst ((tw l).map dRow)) (v10 := .lst ((hal l).map dRow)) (v11 := .lst ((nar l).map dRow)) (v15 := .non) (v16 := .non) (u15 := .emp) (u16 := .emp) hb Tt Th cr
  have eP : oEq (dF (wq x y (tw l))) (dF (wq x y (tw l))) st = .val .P (.bl true) st := by simp
  have nP : oNe (dF (wq x y (tw l))) (dF (wq x y (tw l))) st = .val .P (.bl false) st := by simp
  have run := tail1_run (v0 := v0) (v1 := v1) (b := 5) Tt Th Tn Tb (by decide) (by decide) (by decide) w1 w2 w3 eP nP tX tY w4 q1 q2 q3 e1 e3 nE hc (by rw [List.length_map, bqs_len, tw_len]; have := hb.most; omega) fin
  refine ⟨st, ?_⟩
  rw [← run, ← hst]
  clear run fin hc eP nP nE e1 e2 e3 q1 q2 q3 w1 w2 w3 w4 tX tY Tt Th Tn Tb Th' cr
  subst hst
  generalize (bqs (tw l).reverse).map dF = BR at *
  generalize (bqs (tw l)).map dF = BD at *
  generalize (tw l).map dRow = RD at *
  generalize (bqs (hal l)).map dF = BD2 at *
  generalize (hal l).map dRow = RD2 at *
  generalize (bqs (nar l)).map dF = BD3 at *
  generalize (nar l).map dRow = RD3 at *
  generalize dF x = X at *
  generalize dF a = A at *
  generalize dF y = Y at *
  simp only [List.cons_append, List.nil_append, List.length_cons, List.length_nil] at m1 m2 m3 m4
  simp -implicitDefEqProofs [q_k_law_6, m1, q_k_law_7, m2, m3, q_k_law_8, m4]
theorem law_true (ns : List Int) (hl : ns.length ≤ 63) (_ : ∀ z ∈ ns, Builtin.Int.intBits z ≤ 1048576) : Yes (F_law [.scr ns] []) := by
  obtain ⟨st, h1, B, hlen⟩ := box_ok ns hl
  obtain ⟨l, st1, t1, hb, B1, R1⟩ := made_ok B (by omega)
  have hr := base_tw hb
  obtain ⟨x, st2, t2, x0, x1, xs, B2, R2⟩ := spot_ok hr B1 (by omega)
  obtain ⟨a, st3, t3, a0, a1, as, B3, R3⟩ := spot_ok hr B2 (by omega)
  obtain ⟨y, st4, t4, y0, y1, ys, B4, R4⟩ := spot_ok hr B3 (by omega)
  have hl4 : st4.length = 2 := by rw [R4.1, R3.1, R2.1, R1.1, hlen]
  obtain ⟨o0, o1, rfl⟩ : ∃ o0 o1, st4 = [o0, o1] := by
    match st4, hl4 with
    | [o0, o1], _ => exact ⟨o0, o1, rfl⟩
  have s3 := ord3 (st := [o0, o1]) (v0 := .scr ns) (v1 := .ptr 1) (v9 := .lst ((tw l).map dRow)) (v10 := .lst ((hal l).map dRow)) (v11 := .lst ((nar l).map dRow)) (a := a) xs ys
  have sx1 := sz_or (p := y < x) ys xs
  have sy1 := sz_or (p := y < x) xs ys
  have s4 := ord4 (st := [o0, o1]) (v0 := .scr ns) (v1 := .ptr 1) (v9 := .lst ((tw l).map dRow)) (v10 := .lst ((hal l).map dRow)) (v11 := .lst ((nar l).map dRow)) (y := if y < x then x else y) sx1 as
  rw [s4] at s3
  generalize hx1 : (if y < x then y else x) = x1' at *
  generalize hy1 : (if y < x then x else y) = y1' at *
  have sx2 := sz_or (p := a < x1') as sx1
  have sa2 := sz_or (p := a < x1') sx1 as
  have s5 := ord5 (st := [o0, o1]) (v0 := .scr ns) (v1 := .ptr 1) (v9 := .lst ((tw l).map dRow)) (v10 := .lst ((hal l).map dRow)) (v11 := .lst ((nar l).map dRow)) (x := if a < x1' then a else x1') sa2 sy1
  rw [s5] at s3
  generalize hx2 : (if a < x1' then a else x1') = x2 at *
  generalize ha2 : (if a < x1' then x1' else a) = a2 at *
  have sa3 := sz_or (p := y1' < a2) sy1 sa2
  have sy3 := sz_or (p := y1' < a2) sa2 sy1
  generalize ha3 : (if y1' < a2 then y1' else a2) = a3 at *
  generalize hy3 : (if y1' < a2 then a2 else y1') = y3 at *
  obtain ⟨st', fin⟩ := tail0 (o0 := o0) (o1 := o1) (v0 := .scr ns) (v1 := .ptr 1) hb (x := x2) (a := a3) (y := y3) (by grind) (by grind) (by grind) (by grind) sx2 sa3 sy3
  have key : (k_law_3 ⟨[.val (.scr ns), .val (.ptr 1), .emp, .emp, .emp, .emp, .emp, .emp, .emp, .val (.lst ((tw l).map dRow)), .val (.lst ((hal l).map dRow)), .val (.lst ((nar l).map dRow)), .val (dF x), .val (dF a), .val (dF y), .emp, .emp], [o0, o1]⟩).ret = .val .P (.bl true) st' := by rw [s3]; exact fin
  have goal : F_law [.scr ns] [] = .val .P (.bl true) st' := by
    rw [← key]
    clear key fin s3 s4 s5
    generalize (tw l).map dRow = RD at *
    generalize (hal l).map dRow = RD2 at *
    generalize (nar l).map dRow = RD3 at *
    generalize dF x = X at *
    generalize dF a = A at *
    generalize dF y = Y at *
    simp -implicitDefEqProofs [F_law, g_law, h1, q_k_law_1, t1, q_k_law_2, t2, t3, t4]
  rw [goal]
  exact ⟨_, rfl⟩
end Dn
namespace Dn
open PySem PySem.Spec PyProof.Rows L2
def top (i : Nat) : Stmt := PySem.Challenge.pw_halfcrumb_k08_whole_worths_and_cuts.main.body.getD i (.Pass ⟨0, 0, 0, 0⟩)
def clsStmts : Stmt → List Stmt
  | .ClassDef _ _ _ b _ _ _ _ _ _ _ => b
  | _ => []
def mth (i j : Nat) : Stmt := (clsStmts (top i)).getD j (.Pass ⟨0, 0, 0, 0⟩)
structure Adr where
  f_divisor : Addr
  d_divisor : FuncData
  f_is_less : Addr
  d_is_less : FuncData
  f_is_stretch : Addr
  d_is_stretch : FuncData
  f_Table_total : Addr
  d_Table_total : FuncData
  f_Table_ends : Addr
  d_Table_ends : FuncData
  f_Table___len__ : Addr
  d_Table___len__ : FuncData
  f_Table___eq__ : Addr
  d_Table___eq__ : FuncData
  f_law_box : Addr
  d_law_box : FuncData
  f_law_mixed : Addr
  d_law_mixed : FuncData
  f_law_low : Addr
  d_law_low : FuncData
  f_law_less : Addr
  d_law_less : FuncData
  f_fraction_of : Addr
  d_fraction_of : FuncData
  f_lesser : Addr
  d_lesser : FuncData
  f_greater : Addr
  d_greater : FuncData
  f_ask_span : Addr
  d_ask_span : FuncData
  f_law_take : Addr
  d_law_take : FuncData
  f_law_plus : Addr
  d_law_plus : FuncData
  f_law_turned : Addr
  d_law_turned : FuncData
  f_plus : Addr
  d_plus : FuncData
  f_minus : Addr
  d_minus : FuncData
  f_times : Addr
  d_times : FuncData
  f_over : Addr
  d_over : FuncData
  f_bounds_of : Addr
  d_bounds_of : FuncData
  f_law_place : Addr
  d_law_place : FuncData
  f_law_rows : Addr
  d_law_rows : FuncData
  f_Table___init__ : Addr
  d_Table___init__ : FuncData
  f_Table_between : Addr
  d_Table_between : FuncData
  f_law_spot : Addr
  d_law_spot : FuncData
  f_law_made : Addr
  d_law_made : FuncData
  f_Table_worth : Addr
  d_Table_worth : FuncData
  f_Table_cut : Addr
  d_Table_cut : FuncData
  f_law_cuts_right : Addr
  d_law_cuts_right : FuncData
  f_law : Addr
  d_law : FuncData
  c_NoFraction : Addr
  c_NoTable : Addr
  c_NoSpan : Addr
  c_NoWorth : Addr
  c_Table : Addr
  a_FIRST : Addr
  a_LAST : Addr
  t_MOST_STRETCHES : Tok
  t_MOST_WIDTH : Tok
  t_MOST_WORTH : Tok
def caOf (A : Adr) : Nat → Addr
  | 1 => A.c_NoFraction
  | 2 => A.c_NoTable
  | 3 => A.c_NoSpan
  | 4 => A.c_NoWorth
  | 5 => A.c_Table
  | _ => 0
def fnOf : Nat → List Str
  | 5 => ["kept", "bounds"]
  | _ => []
theorem nf_Table_between : ("between" : Str) ∉ fnOf 5 := by decide +kernel
theorem nf_Table_cut : ("cut" : Str) ∉ fnOf 5 := by decide +kernel
theorem nf_Table_ends : ("ends" : Str) ∉ fnOf 5 := by decide +kernel
theorem nf_Table_total : ("total" : Str) ∉ fnOf 5 := by decide +kernel
theorem nf_Table_worth : ("worth" : Str) ∉ fnOf 5 := by decide +kernel
theorem nd_Table : (fnOf 5).Nodup := by decide +kernel
theorem nl_Table : (fnOf 5).length < 1000 := by decide +kernel
def GG (K : PySem.W.Frag) (A : Adr) : Gm := { K := K, ca := caOf A, fn := fnOf, ea := 0, tb := [] }
abbrev s_divisor : Stmt := top 7
abbrev n_divisor : List Str := ["one", "other"]
abbrev p_divisor : List Str := ["one", "other"]
theorem sc_divisor : FnScope n_divisor p_divisor (defScope s_divisor) := ⟨rfl, rfl, rfl, by decide +kernel, rfl, by decide +kernel, by decide +kernel⟩
abbrev s_is_less : Stmt := top 13
abbrev n_is_less : List Str := ["one", "other"]
abbrev p_is_less : List Str := ["one", "other"]
theorem sc_is_less : FnScope n_is_less p_is_less (defScope s_is_less) := ⟨rfl, rfl, rfl, by decide +kernel, rfl, by decide +kernel, by decide +kernel⟩
abbrev s_is_stretch : Stmt := top 22
abbrev n_is_stretch : List Str := ["width", "worth"]
abbrev p_is_stretch : List Str := ["width", "worth"]
theorem sc_is_stretch : FnScope n_is_stretch p_is_stretch (defScope s_is_stretch) := ⟨rfl, rfl, rfl, by decide +kernel, rfl, by decide +kernel, by decide +kernel⟩
abbrev s_Table_total : Stmt := mth 24 2
abbrev n_Table_total : List Str := ["self", "width", "worth"]
abbrev p_Table_total : List Str := ["self"]
theorem sc_Table_total : FnScope n_Table_total p_Table_total (defScope s_Table_total) := ⟨rfl, rfl, rfl, by decide +kernel, rfl, by decide +kernel, by decide +kernel⟩
abbrev s_Table_ends : Stmt := mth 24 3
abbrev n_Table_ends : List Str := ["self"]
abbrev p_Table_ends : List Str := ["self"]
theorem sc_Table_ends : FnScope n_Table_ends p_Table_ends (defScope s_Table_ends) := ⟨rfl, rfl, rfl, by decide +kernel, rfl, by decide +kernel, by decide +kernel⟩
abbrev s_Table___len__ : Stmt := mth 24 7
abbrev n_Table___len__ : List Str := ["self"]
abbrev p_Table___len__ : List Str := ["self"]
theorem sc_Table___len__ : FnScope n_Table___len__ p_Table___len__ (defScope s_Table___len__) := ⟨rfl, rfl, rfl, by decide +kernel, rfl, by decide +kernel, by decide +kernel⟩
abbrev s_Table___eq__ : Stmt := mth 24 8
abbrev n_Table___eq__ : List Str := ["self", "other"]
abbrev p_Table___eq__ : List Str := ["self", "other"]
theorem sc_Table___eq__ : FnScope n_Table___eq__ p_Table___eq__ (defScope s_Table___eq__) := ⟨rfl, rfl, rfl, by decide +kernel, rfl, by decide +kernel, by decide +kernel⟩
abbrev s_law_box : Stmt := top 27
abbrev n_law_box : List Str := ["_law_script", "_law_great", "_law_cell"]
abbrev p_law_box : List Str := ["_law_script"]
theorem sc_law_box : FnScope n_law_box p_law_box (defScope s_law_box) := ⟨rfl, rfl, rfl, by decide +kernel, rfl, by decide +kernel, by decide +kernel⟩
abbrev s_law_mixed : Stmt := top 28
abbrev n_law_mixed : List Str := ["_law_cell", "_law_k", "_law_whole"]
abbrev p_law_mixed : List Str := ["_law_cell", "_law_k"]
theorem sc_law_mixed : FnScope n_law_mixed p_law_mixed (defScope s_law_mixed) := ⟨rfl, rfl, rfl, by decide +kernel, rfl, by decide +kernel, by decide +kernel⟩
abbrev s_law_low : Stmt := top 30
abbrev n_law_low : List Str := ["_law_top", "_law_bottom", "_law_one", "_law_two"]
abbrev p_law_low : List Str := ["_law_top", "_law_bottom"]
theorem sc_law_low : FnScope n_law_low p_law_low (defScope s_law_low) := ⟨rfl, rfl, rfl, by decide +kernel, rfl, by decide +kernel, by decide +kernel⟩
abbrev s_law_less : Stmt := top 32
abbrev n_law_less : List Str := ["_law_one", "_law_two"]
abbrev p_law_less : List Str := ["_law_one", "_law_two"]
theorem sc_law_less : FnScope n_law_less p_law_less (defScope s_law_less) := ⟨rfl, rfl, rfl, by decide +kernel, rfl, by decide +kernel, by decide +kernel⟩
abbrev s_fraction_of : Stmt := top 8
abbrev n_fraction_of : List Str := ["top", "bottom", "size"]
abbrev p_fraction_of : List Str := ["top", "bottom"]
theorem sc_fraction_of : FnScope n_fraction_of p_fraction_of (defScope s_fraction_of) := ⟨rfl, rfl, rfl, by decide +kernel, rfl, by decide +kernel, by decide +kernel⟩
abbrev s_lesser : Stmt := top 14
abbrev n_lesser : List Str := ["one", "other"]
abbrev p_lesser : List Str := ["one", "other"]
theorem sc_lesser : FnScope n_lesser p_lesser (defScope s_lesser) := ⟨rfl, rfl, rfl, by decide +kernel, rfl, by decide +kernel, by decide +kernel⟩
abbrev s_greater : Stmt := top 15
abbrev n_greater : List Str := ["one", "other"]
abbrev p_greater : List Str := ["one", "other"]
theorem sc_greater : FnScope n_greater p_greater (defScope s_greater) := ⟨rfl, rfl, rfl, by decide +kernel, rfl, by decide +kernel, by decide +kernel⟩
abbrev s_ask_span : Stmt := top 23
abbrev n_ask_span : List Str := ["here", "there"]
abbrev p_ask_span : List Str := ["here", "there"]
theorem sc_ask_span : FnScope n_ask_span p_ask_span (defScope s_ask_span) := ⟨rfl, rfl, rfl, by decide +kernel, rfl, by decide +kernel, by decide +kernel⟩
abbrev s_law_take : Stmt := top 29
abbrev n_law_take : List Str := ["_law_box_here", "_law_size", "_law_cell", "_law_found", "_law_reach"]
abbrev p_law_take : List Str := ["_law_box_here", "_law_size"]
theorem sc_law_take : FnScope n_law_take p_law_take (defScope s_law_take) := ⟨rfl, rfl, rfl, by decide +kernel, rfl, by decide +kernel, by decide +kernel⟩
abbrev s_law_plus : Stmt := top 31
abbrev n_law_plus : List Str := ["_law_one", "_law_two"]
abbrev p_law_plus : List Str := ["_law_one", "_law_two"]
theorem sc_law_plus : FnScope n_law_plus p_law_plus (defScope s_law_plus) := ⟨rfl, rfl, rfl, by decide +kernel, rfl, by decide +kernel, by decide +kernel⟩
abbrev s_law_turned : Stmt := top 37
abbrev n_law_turned : List Str := ["_law_place_here"]
abbrev p_law_turned : List Str := ["_law_place_here"]
theorem sc_law_turned : FnScope n_law_turned p_law_turned (defScope s_law_turned) := ⟨rfl, rfl, rfl, by decide +kernel, rfl, by decide +kernel, by decide +kernel⟩
abbrev s_plus : Stmt := top 9
abbrev n_plus : List Str := ["one", "other"]
abbrev p_plus : List Str := ["one", "other"]
theorem sc_plus : FnScope n_plus p_plus (defScope s_plus) := ⟨rfl, rfl, rfl, by decide +kernel, rfl, by decide +kernel, by decide +kernel⟩
abbrev s_minus : Stmt := top 10
abbrev n_minus : List Str := ["one", "other"]
abbrev p_minus : List Str := ["one", "other"]
theorem sc_minus : FnScope n_minus p_minus (defScope s_minus) := ⟨rfl, rfl, rfl, by decide +kernel, rfl, by decide +kernel, by decide +kernel⟩
abbrev s_times : Stmt := top 11
abbrev n_times : List Str := ["one", "other"]
abbrev p_times : List Str := ["one", "other"]
theorem sc_times : FnScope n_times p_times (defScope s_times) := ⟨rfl, rfl, rfl, by decide +kernel, rfl, by decide +kernel, by decide +kernel⟩
abbrev s_over : Stmt := top 12
abbrev n_over : List Str := ["one", "other"]
abbrev p_over : List Str := ["one", "other"]
theorem sc_over : FnScope n_over p_over (defScope s_over) := ⟨rfl, rfl, rfl, by decide +kernel, rfl, by decide +kernel, by decide +kernel⟩
abbrev s_bounds_of : Stmt := top 25
abbrev n_bounds_of : List Str := ["stretches", "whole", "found", "done", "width", "worth"]
abbrev p_bounds_of : List Str := ["stretches"]
theorem sc_bounds_of : FnScope n_bounds_of p_bounds_of (defScope s_bounds_of) := ⟨rfl, rfl, rfl, by decide +kernel, rfl, by decide +kernel, by decide +kernel⟩
abbrev s_law_place : Stmt := top 33
abbrev n_law_place : List Str := ["_law_box_here", "_law_bottom"]
abbrev p_law_place : List Str := ["_law_box_here"]
theorem sc_law_place : FnScope n_law_place p_law_place (defScope s_law_place) := ⟨rfl, rfl, rfl, by decide +kernel, rfl, by decide +kernel, by decide +kernel⟩
abbrev s_law_rows : Stmt := top 34
abbrev n_law_rows : List Str := ["_law_box_here", "_law_most", "_law_sort", "_law_bare", "_law_rows_here", "_law_k", "_law_width", "_law_worth", "_law_at"]
abbrev p_law_rows : List Str := ["_law_box_here", "_law_most"]
theorem sc_law_rows : FnScope n_law_rows p_law_rows (defScope s_law_rows) := ⟨rfl, rfl, rfl, by decide +kernel, rfl, by decide +kernel, by decide +kernel⟩
abbrev s_Table___init__ : Stmt := mth 24 0
abbrev n_Table___init__ : List Str := ["self", "stretches", "width", "worth"]
abbrev p_Table___init__ : List Str := ["self", "stretches"]
theorem sc_Table___init__ : FnScope n_Table___init__ p_Table___init__ (defScope s_Table___init__) := ⟨rfl, rfl, rfl, by decide +kernel, rfl, by decide +kernel, by decide +kernel⟩
abbrev s_Table_between : Stmt := mth 24 6
abbrev n_Table_between : List Str := ["self", "here", "there", "found", "at", "low", "high", "width", "worth", "whole"]
abbrev p_Table_between : List Str := ["self", "here", "there"]
theorem sc_Table_between : FnScope n_Table_between p_Table_between (defScope s_Table_between) := ⟨rfl, rfl, rfl, by decide +kernel, rfl, by decide +kernel, by decide +kernel⟩
abbrev s_law_spot : Stmt := top 35
abbrev n_law_spot : List Str := ["_law_box_here", "_law_rows_here", "_law_way", "_law_at", "_law_whole", "_law_width", "_law_worth"]
abbrev p_law_spot : List Str := ["_law_box_here", "_law_rows_here"]
theorem sc_law_spot : FnScope n_law_spot p_law_spot (defScope s_law_spot) := ⟨rfl, rfl, rfl, by decide +kernel, rfl, by decide +kernel, by decide +kernel⟩
abbrev s_law_made : Stmt := top 36
abbrev n_law_made : List Str := ["_law_box_here", "_law_rows_here", "_law_twice", "_law_halves", "_law_narrow", "_law_width", "_law_worth"]
abbrev p_law_made : List Str := ["_law_box_here"]
theorem sc_law_made : FnScope n_law_made p_law_made (defScope s_law_made) := ⟨rfl, rfl, rfl, by decide +kernel, rfl, by decide +kernel, by decide +kernel⟩
abbrev s_Table_worth : Stmt := mth 24 4
abbrev n_Table_worth : List Str := ["self", "here", "there", "found", "low", "high", "worth"]
abbrev p_Table_worth : List Str := ["self", "here", "there"]
theorem sc_Table_worth : FnScope n_Table_worth p_Table_worth (defScope s_Table_worth) := ⟨rfl, rfl, rfl, by decide +kernel, rfl, by decide +kernel, by decide +kernel⟩
abbrev s_Table_cut : Stmt := mth 24 5
abbrev n_Table_cut : List Str := ["self", "here", "much", "last", "low", "high", "worth"]
abbrev p_Table_cut : List Str := ["self", "here", "much", "last"]
theorem sc_Table_cut : FnScope n_Table_cut p_Table_cut (defScope s_Table_cut) := ⟨rfl, rfl, rfl, by decide +kernel, rfl, by decide +kernel, by decide +kernel⟩
abbrev s_law_cuts_right : Stmt := top 38
abbrev n_law_cuts_right : List Str := ["_law_table", "_law_others", "_law_start", "_law_amid", "_law_stop", "_law_price", "_law_more", "_law_found", "_law_both", "_law_behind", "_law_other"]
abbrev p_law_cuts_right : List Str := ["_law_table", "_law_others", "_law_start", "_law_amid", "_law_stop"]
theorem sc_law_cuts_right : FnScope n_law_cuts_right p_law_cuts_right (defScope s_law_cuts_right) := ⟨rfl, rfl, rfl, by decide +kernel, rfl, by decide +kernel, by decide +kernel⟩
abbrev s_law : Stmt := top 39
abbrev n_law : List Str := ["_law_script", "_law_box_here", "_law_table", "_law_others", "_law_about", "_law_price", "_law_ends", "_law_found", "_law_k", "_law_twice", "_law_halves", "_law_narrow", "_law_start", "_law_amid", "_law_stop", "_law_other", "_law_end"]
abbrev p_law : List Str := ["_law_script"]
theorem sc_law : FnScope n_law p_law (defScope s_law) := ⟨rfl, rfl, rfl, by decide +kernel, rfl, by decide +kernel, by decide +kernel⟩
structure Txt (K : PySem.W.Frag) (mg : Str → Option Value) (base : Heap) (A : Adr) : Prop where
  F_divisor : Fun K "divisor" "divisor" s_divisor A.f_divisor A.d_divisor
  b_divisor : Binds K A.d_divisor p_divisor []
  F_is_less : Fun K "is_less" "is_less" s_is_less A.f_is_less A.d_is_less
  b_is_less : Binds K A.d_is_less p_is_less []
  F_is_stretch : Fun K "is_stretch" "is_stretch" s_is_stretch A.f_is_stretch A.d_is_stretch
  b_is_stretch : Binds K A.d_is_stretch p_is_stretch []
  F_Table_total : Fun K "total" "Table.total" s_Table_total A.f_Table_total A.d_Table_total
  b_Table_total : Binds K A.d_Table_total p_Table_total []
  F_Table_ends : Fun K "ends" "Table.ends" s_Table_ends A.f_Table_ends A.d_Table_ends
  b_Table_ends : Binds K A.d_Table_ends p_Table_ends []
  F_Table___len__ : Fun K "__len__" "Table.__len__" s_Table___len__ A.f_Table___len__ A.d_Table___len__
  b_Table___len__ : Binds K A.d_Table___len__ p_Table___len__ []
  F_Table___eq__ : Fun K "__eq__" "Table.__eq__" s_Table___eq__ A.f_Table___eq__ A.d_Table___eq__
  b_Table___eq__ : Binds K A.d_Table___eq__ p_Table___eq__ []
  F_law_box : Fun K "_law_box" "_law_box" s_law_box A.f_law_box A.d_law_box
  b_law_box : Binds K A.d_law_box p_law_box []
  F_law_mixed : Fun K "_law_mixed" "_law_mixed" s_law_mixed A.f_law_mixed A.d_law_mixed
  b_law_mixed : Binds K A.d_law_mixed p_law_mixed []
  F_law_low : Fun K "_law_low" "_law_low" s_law_low A.f_law_low A.d_law_low
  b_law_low : Binds K A.d_law_low p_law_low []
  F_law_less : Fun K "_law_less" "_law_less" s_law_less A.f_law_less A.d_law_less
  b_law_less : Binds K A.d_law_less p_law_less []
  F_fraction_of : FunD K "fraction_of" "fraction_of" (defArgs s_fraction_of) (defBody s_fraction_of) (defScope s_fraction_of) (([(.int 1)] : List D).map toV) [] A.f_fraction_of A.d_fraction_of
  F_lesser : Fun K "lesser" "lesser" s_lesser A.f_lesser A.d_lesser
  b_lesser : Binds K A.d_lesser p_lesser []
  F_greater : Fun K "greater" "greater" s_greater A.f_greater A.d_greater
  b_greater : Binds K A.d_greater p_greater []
  F_ask_span : Fun K "ask_span" "ask_span" s_ask_span A.f_ask_span A.d_ask_span
  b_ask_span : Binds K A.d_ask_span p_ask_span []
  F_law_take : Fun K "_law_take" "_law_take" s_law_take A.f_law_take A.d_law_take
  b_law_take : Binds K A.d_law_take p_law_take []
  F_law_plus : Fun K "_law_plus" "_law_plus" s_law_plus A.f_law_plus A.d_law_plus
  b_law_plus : Binds K A.d_law_plus p_law_plus []
  F_law_turned : Fun K "_law_turned" "_law_turned" s_law_turned A.f_law_turned A.d_law_turned
  b_law_turned : Binds K A.d_law_turned p_law_turned []
  F_plus : Fun K "plus" "plus" s_plus A.f_plus A.d_plus
  b_plus : Binds K A.d_plus p_plus []
  F_minus : Fun K "minus" "minus" s_minus A.f_minus A.d_minus
  b_minus : Binds K A.d_minus p_minus []
  F_times : Fun K "times" "times" s_times A.f_times A.d_times
  b_times : Binds K A.d_times p_times []
  F_over : Fun K "over" "over" s_over A.f_over A.d_over
  b_over : Binds K A.d_over p_over []
  F_bounds_of : Fun K "bounds_of" "bounds_of" s_bounds_of A.f_bounds_of A.d_bounds_of
  b_bounds_of : Binds K A.d_bounds_of p_bounds_of []
  F_law_place : Fun K "_law_place" "_law_place" s_law_place A.f_law_place A.d_law_place
  b_law_place : Binds K A.d_law_place p_law_place []
  F_law_rows : Fun K "_law_rows" "_law_rows" s_law_rows A.f_law_rows A.d_law_rows
  b_law_rows : Binds K A.d_law_rows p_law_rows []
  F_Table___init__ : Fun K "__init__" "Table.__init__" s_Table___init__ A.f_Table___init__ A.d_Table___init__
  b_Table___init__ : Binds K A.d_Table___init__ p_Table___init__ []
  F_Table_between : Fun K "between" "Table.between" s_Table_between A.f_Table_between A.d_Table_between
  b_Table_between : Binds K A.d_Table_between p_Table_between []
  F_law_spot : Fun K "_law_spot" "_law_spot" s_law_spot A.f_law_spot A.d_law_spot
  b_law_spot : Binds K A.d_law_spot p_law_spot []
  F_law_made : Fun K "_law_made" "_law_made" s_law_made A.f_law_made A.d_law_made
  b_law_made : Binds K A.d_law_made p_law_made []
  F_Table_worth : FunD K "worth" "Table.worth" (defArgs s_Table_worth) (defBody s_Table_worth) (defScope s_Table_worth) (([.non, .non] : List D).map toV) [] A.f_Table_worth A.d_Table_worth
  F_Table_cut : FunD K "cut" "Table.cut" (defArgs s_Table_cut) (defBody s_Table_cut) (defScope s_Table_cut) (([.non] : List D).map toV) [] A.f_Table_cut A.d_Table_cut
  F_law_cuts_right : Fun K "_law_cuts_right" "_law_cuts_right" s_law_cuts_right A.f_law_cuts_right A.d_law_cuts_right
  b_law_cuts_right : Binds K A.d_law_cuts_right p_law_cuts_right []
  F_law : Fun K "law" "law" s_law A.f_law A.d_law
  b_law : Binds K A.d_law p_law []
  g_law_box : mg "_law_box" = some (.ref A.f_law_box)
  g_law_cuts_right : mg "_law_cuts_right" = some (.ref A.f_law_cuts_right)
  g_law_less : mg "_law_less" = some (.ref A.f_law_less)
  g_law_low : mg "_law_low" = some (.ref A.f_law_low)
  g_law_made : mg "_law_made" = some (.ref A.f_law_made)
  g_law_mixed : mg "_law_mixed" = some (.ref A.f_law_mixed)
  g_law_place : mg "_law_place" = some (.ref A.f_law_place)
  g_law_plus : mg "_law_plus" = some (.ref A.f_law_plus)
  g_law_rows : mg "_law_rows" = some (.ref A.f_law_rows)
  g_law_spot : mg "_law_spot" = some (.ref A.f_law_spot)
  g_law_take : mg "_law_take" = some (.ref A.f_law_take)
  g_law_turned : mg "_law_turned" = some (.ref A.f_law_turned)
  g_ask_span : mg "ask_span" = some (.ref A.f_ask_span)
  g_bounds_of : mg "bounds_of" = some (.ref A.f_bounds_of)
  g_divisor : mg "divisor" = some (.ref A.f_divisor)
  g_fraction_of : mg "fraction_of" = some (.ref A.f_fraction_of)
  g_greater : mg "greater" = some (.ref A.f_greater)
  g_is_less : mg "is_less" = some (.ref A.f_is_less)
  g_is_stretch : mg "is_stretch" = some (.ref A.f_is_stretch)
  g_law : mg "law" = some (.ref A.f_law)
  g_lesser : mg "lesser" = some (.ref A.f_lesser)
  g_minus : mg "minus" = some (.ref A.f_minus)
  g_over : mg "over" = some (.ref A.f_over)
  g_plus : mg "plus" = some (.ref A.f_plus)
  g_times : mg "times" = some (.ref A.f_times)
  cl_Table : Cls K A.c_Table
  mk_Table : Mk K A.c_Table A.f_Table___init__
  mt_Table___eq__ : Meth K A.c_Table "__eq__" A.f_Table___eq__
  mt_Table___len__ : Meth K A.c_Table "__len__" A.f_Table___len__
  mt_Table_between : Meth K A.c_Table "between" A.f_Table_between
  mt_Table_cut : Meth K A.c_Table "cut" A.f_Table_cut
  mt_Table_ends : Meth K A.c_Table "ends" A.f_Table_ends
  mt_Table_total : Meth K A.c_Table "total" A.f_Table_total
  mt_Table_worth : Meth K A.c_Table "worth" A.f_Table_worth
  fo_bounds : FldOk (GG K A) "bounds" ix_bounds
  fo_kept : FldOk (GG K A) "kept" ix_kept
  neqs : ∀ x ∈ ([(5, Dn.F_Table___eq__)] : OwnL), NeC K (caOf A x.1)
  eqok : EqOk (GG K A) [(5, Dn.F_Table___eq__)] [5]
  inok : InOk (GG K A) [(5, Dn.F_Table___eq__)]
  io_Table : IsOk (GG K A) A.c_Table isc_Table
  B_Table___init___2_ : CallB K A.d_Table___init__ p_Table___init__ 2 [] [0, 1] (([] : List D).map toV)
  B_Table_between_3_ : CallB K A.d_Table_between p_Table_between 3 [] [0, 1, 2] (([] : List D).map toV)
  B_Table_cut_3_ : CallB K A.d_Table_cut p_Table_cut 3 [] [0, 1, 2, 3] (([.non] : List D).map toV)
  B_Table_cut_4_ : CallB K A.d_Table_cut p_Table_cut 4 [] [0, 1, 2, 3] (([.non] : List D).map toV)
  B_Table_ends_1_ : CallB K A.d_Table_ends p_Table_ends 1 [] [0] (([] : List D).map toV)
  B_Table_total_1_ : CallB K A.d_Table_total p_Table_total 1 [] [0] (([] : List D).map toV)
  B_Table_worth_3_ : CallB K A.d_Table_worth p_Table_worth 3 [] [0, 1, 2] (([.non, .non] : List D).map toV)
  B_fraction_of_2_ : CallB K A.d_fraction_of p_fraction_of 2 [] [0, 1] (([(.int 1)] : List D).map toV)
  z_abs : mg "abs" = none
  z_all : mg "all" = none
  z_enumerate : mg "enumerate" = none
  z_isinstance : mg "isinstance" = none
  z_len : mg "len" = none
  z_list : mg "list" = none
  z_range : mg "range" = none
  z_sum : mg "sum" = none
  m_FIRST : mg "FIRST" = some (.ref A.a_FIRST)
  i_FIRST : ∀ as H, Is (GG K A) as H (.ref A.a_FIRST) (.tup [(.int 0), (.int 1)])
  m_LAST : mg "LAST" = some (.ref A.a_LAST)
  i_LAST : ∀ as H, Is (GG K A) as H (.ref A.a_LAST) (.tup [(.int 1), (.int 1)])
  m_MOST_STRETCHES : mg "MOST_STRETCHES" = some (.int 8 A.t_MOST_STRETCHES)
  m_MOST_WIDTH : mg "MOST_WIDTH" = some (.int 999 A.t_MOST_WIDTH)
  m_MOST_WORTH : mg "MOST_WORTH" = some (.int 999999999 A.t_MOST_WORTH)
  g_NoFraction : mg "NoFraction" = some (.ref A.c_NoFraction)
  g_NoTable : mg "NoTable" = some (.ref A.c_NoTable)
  g_NoSpan : mg "NoSpan" = some (.ref A.c_NoSpan)
  g_NoWorth : mg "NoWorth" = some (.ref A.c_NoWorth)
  g_Table : mg "Table" = some (.ref A.c_Table)
  x_NoFraction : PySem.W.excIn K A.c_NoFraction [.type "ValueError", .type "Exception", .type "BaseException", .type "object"] "ValueError.__new__" = true
  k_NoFraction : PySem.W.keepIn K (.ref A.c_NoFraction) = true
  sb_NoFraction : PySem.W.subIn K (.ref A.c_NoFraction) (.type "BaseException") = some true
  t_NoFraction : PySem.W.typeIn K (.ref A.c_NoFraction) = some (.type "type")
  x_NoSpan : PySem.W.excIn K A.c_NoSpan [.type "ValueError", .type "Exception", .type "BaseException", .type "object"] "ValueError.__new__" = true
  k_NoSpan : PySem.W.keepIn K (.ref A.c_NoSpan) = true
  sb_NoSpan : PySem.W.subIn K (.ref A.c_NoSpan) (.type "BaseException") = some true
  t_NoSpan : PySem.W.typeIn K (.ref A.c_NoSpan) = some (.type "type")
  x_NoTable : PySem.W.excIn K A.c_NoTable [.type "ValueError", .type "Exception", .type "BaseException", .type "object"] "ValueError.__new__" = true
  k_NoTable : PySem.W.keepIn K (.ref A.c_NoTable) = true
  sb_NoTable : PySem.W.subIn K (.ref A.c_NoTable) (.type "BaseException") = some true
  t_NoTable : PySem.W.typeIn K (.ref A.c_NoTable) = some (.type "type")
  x_NoWorth : PySem.W.excIn K A.c_NoWorth [.type "ValueError", .type "Exception", .type "BaseException", .type "object"] "ValueError.__new__" = true
  k_NoWorth : PySem.W.keepIn K (.ref A.c_NoWorth) = true
  sb_NoWorth : PySem.W.subIn K (.ref A.c_NoWorth) (.type "BaseException") = some true
  t_NoWorth : PySem.W.typeIn K (.ref A.c_NoWorth) = some (.type "type")
section
variable {P : Program} {w : World} {K : PySem.W.Frag} {mg : Str → Option Value} {base : Heap} {A : Adr}
theorem ok_divisor (T : Txt K mg base A) : FnOk P w K mg base (L2.CX P w) 1 A.f_divisor A.d_divisor p_divisor (spF (GG K A) F_divisor) :=
  fn_ok (k := 0) rfl rfl T.F_divisor sc_divisor fun cdv Ar outer s H E hr => ⟨_,
    (pss_cons (ps_set (i := 0) sc_divisor.nd rfl (by first | exact Or.inl rfl | exact Or.inr rfl) (pe_callB call_abs (by rfl) T.z_abs (by decide +kernel) (pa_cons (pv 0) pa_nil)))
    (pss_cons (ps_set (i := 1) sc_divisor.nd rfl (by first | exact Or.inl rfl | exact Or.inr rfl) (pe_callB call_abs (by rfl) T.z_abs (by decide +kernel) (pa_cons (pv 1) pa_nil)))
    (pss_cons (ps_while (passes_of rfl) (pt_cmpR op_gt (pv 1) pe_int (nomark _)) (pss_one (ps_par rfl sc_divisor.nd rfl rfl (by decide) rfl rfl (pa_cons (pv 1) (pa_cons (pe_op op_modN (pv 0) (pv 1)) pa_nil)) rfl)))
    (pss_one (ps_ret (pv 0)))))),
    (s_seq (s_setF (v_cb c_abs (a_cons v_var a_nil)))
    (s_seq (s_setF (v_cb c_abs (a_cons v_var a_nil)))
    (s_seq (s_while (t_test (v_op d_gt v_var v_int)) (s_par (a_cons v_var (a_cons (v_op d_mod v_var v_var) a_nil))))
    s_retV)))⟩
theorem ok_is_less (T : Txt K mg base A) : FnOk P w K mg base (L2.CX P w) 1 A.f_is_less A.d_is_less p_is_less (spF (GG K A) F_is_less) :=
  fn_ok (k := 0) rfl rfl T.F_is_less sc_is_less fun cdv Ar outer s H E hr => ⟨_,
    (pss_one (ps_ret (pe_cmpR op_lt (pe_op or_mul (pe_ix ix_seq (pv 0) pe_int (fun _ _ => rfl)) (pe_ix ix_seq (pv 1) pe_int (fun _ _ => rfl))) (pe_op or_mul (pe_ix ix_seq (pv 1) pe_int (fun _ _ => rfl)) (pe_ix ix_seq (pv 0) pe_int (fun _ _ => rfl))) (nomark _)))),
    (s_ret (v_op d_lt (v_op d_mul (v_op d_ix v_var v_int) (v_op d_ix v_var v_int)) (v_op d_mul (v_op d_ix v_var v_int) (v_op d_ix v_var v_int))))⟩
theorem ok_is_stretch (T : Txt K mg base A) : FnOk P w K mg base (L2.CX P w) 1 A.f_is_stretch A.d_is_stretch p_is_stretch (spF (GG K A) F_is_stretch) :=
  fn_ok (k := 0) rfl rfl T.F_is_stretch sc_is_stretch fun cdv Ar outer s H E hr => ⟨_,
    (pss_one (ps_ret (pe_and (pe_chain op_le op_le pe_int (pv 0) (pe_glob (v := .int 999) rfl T.m_MOST_WIDTH ⟨_, rfl⟩)) (pe_one (pe_chain op_le op_le pe_int (pv 1) (pe_glob (v := .int 999999999) rfl T.m_MOST_WORTH ⟨_, rfl⟩)))))),
    (s_ret (v_and (v_chain d_le d_le v_int v_var v_int) (v_chain d_le d_le v_int v_var v_int)))⟩
theorem ok_Table_total (T : Txt K mg base A) : FnOk P w K mg base (L2.CX P w) 1 A.f_Table_total A.d_Table_total p_Table_total (spF (GG K A) F_Table_total) :=
  fn_ok (k := 0) rfl rfl T.F_Table_total sc_Table_total fun cdv Ar outer s H E hr => ⟨_,
    (pss_one (ps_ret (pe_callB (cr_sum rfl) (by rfl) T.z_sum (by decide +kernel) (pa_cons (pe_lc (own := [("width", 1), ("worth", 2)]) rfl sc_Table_total.nd (pi_any (pe_fld (pv 0) rfl)) (blkOk_by (N := n_Table_total) (sc := defScope (s_Table_total)) (by decide +kernel)) (fun _ _ _ _ _ => (pg_tl rfl (pgs_cons (pg_name (i := 1) sc_Table_total.nd rfl (by first | exact Or.inl rfl | exact Or.inr rfl)) (pgs_cons (pg_name (i := 2) sc_Table_total.nd rfl (by first | exact Or.inl rfl | exact Or.inr rfl)) pgs_nil)))) (fun _ _ _ _ _ => pts_nil) (fun _ _ _ _ _ => (pv 2))) pa_nil)))),
    (s_ret (v_cb c_sum (a_cons (v_lc (vs := [1, 2]) (i_any (v_fld T.fo_kept v_var)) (g_tl (gs_cons g_name (gs_cons g_name gs_nil))) (by decide) t_yes v_var) a_nil)))⟩
theorem ok_Table_ends (T : Txt K mg base A) : FnOk P w K mg base (L2.CX P w) 1 A.f_Table_ends A.d_Table_ends p_Table_ends (spF (GG K A) F_Table_ends) :=
  fn_ok (k := 0) rfl rfl T.F_Table_ends sc_Table_ends fun cdv Ar outer s H E hr => ⟨_,
    (pss_one (ps_ret (pe_callTy call_list_of (by rfl) T.z_list (by decide +kernel) (pa_cons (pe_fld (pv 0) rfl) pa_nil)))),
    (s_ret (v_cb c_list (a_cons (v_fld T.fo_bounds v_var) a_nil)))⟩
theorem ok_Table___len__ (T : Txt K mg base A) : FnOk P w K mg base (L2.CX P w) 1 A.f_Table___len__ A.d_Table___len__ p_Table___len__ (spF (GG K A) F_Table___len__) :=
  fn_ok (k := 0) rfl rfl T.F_Table___len__ sc_Table___len__ fun cdv Ar outer s H E hr => ⟨_,
    (pss_one (ps_ret (pe_callB call_len (by rfl) T.z_len (by decide +kernel) (pa_cons (pe_fld (pv 0) rfl) pa_nil)))),
    (s_ret (v_cb c_len (a_cons (v_fld T.fo_kept v_var) a_nil)))⟩
theorem ok_Table___eq__ (T : Txt K mg base A) : FnOk P w K mg base (L2.CX P w) 1 A.f_Table___eq__ A.d_Table___eq__ p_Table___eq__ (spF (GG K A) F_Table___eq__) :=
  fn_ok (k := 0) rfl rfl T.F_Table___eq__ sc_Table___eq__ fun cdv Ar outer s H E hr => ⟨_,
    (pss_one (ps_ret (pe_and (pe_callB call_isi (by rfl) T.z_isinstance (by decide +kernel) (pa_cons (pv 1) (pa_cons (pe_glob (v := .ref A.c_Table) rfl T.g_Table rfl) pa_nil))) (pe_one (pe_cmpR (or_eq hr.units) (pe_fld (pv 0) rfl) (pe_fld (pv 1) rfl) (nomark _)))))),
    (s_ret (v_and (v_isO T.io_Table v_var) (v_op d_eq (v_fld T.fo_kept v_var) (v_fld T.fo_kept v_var))))⟩
theorem ok_law_box (T : Txt K mg base A) : FnOk P w K mg base (L2.CX P w) 1 A.f_law_box A.d_law_box p_law_box (spF (GG K A) F_law_box) :=
  fn_ok (k := 0) rfl rfl T.F_law_box sc_law_box fun cdv Ar outer s H E hr => ⟨_,
    (pss_cons (ps_setLc (i := 1) (own := [("_law_cell", 2)]) rfl sc_law_box.nd rfl rfl (sw_true rfl rfl rfl (by decide +kernel)) (pi_any (pv 0)) (blkOk_by (N := n_law_box) (sc := defScope (s_law_box)) (by decide +kernel)) (fun _ _ _ _ _ => (pg_name (i := 2) sc_law_box.nd rfl (by first | exact Or.inl rfl | exact Or.inr rfl))) (fun _ _ _ _ _ => (pts_one (pt_cmpR op_ge (pv 2) (pe_op op_pow pe_int pe_int) (nomark _)))) (fun _ _ _ _ _ => (pv 2)))
    (pss_one (ps_ret (pe_lst (pa_cons (pv 1) (pa_cons pe_int (pa_cons (pe_lc (own := [("_law_cell", 2)]) rfl sc_law_box.nd (pi_any (pv 0)) (blkOk_by (N := n_law_box) (sc := defScope (s_law_box)) (by decide +kernel)) (fun _ _ _ _ _ => (pg_name (i := 2) sc_law_box.nd rfl (by first | exact Or.inl rfl | exact Or.inr rfl))) (fun _ _ _ _ _ => (pts_one (pt_cmpR op_lt (pv 2) (pe_op op_pow pe_int pe_int) (nomark _)))) (fun _ _ _ _ _ => (pv 2))) (pa_cons pe_int pa_nil)))))))),
    (s_seq (s_setF (v_put (v_lc (vs := [2]) (js := [2]) (i_any v_var) g_name (by decide) (t_test (v_op d_ge v_var (v_op d_pow v_int v_int))) v_var)))
    (s_ret (v_put (v_lst (a_cons v_var (a_cons v_int (a_cons (v_lc (vs := [2]) (js := [2]) (i_any v_var) g_name (by decide) (t_test (v_op d_lt v_var (v_op d_pow v_int v_int))) v_var) (a_cons v_int a_nil))))))))⟩
theorem ok_law_mixed (T : Txt K mg base A) : FnOk P w K mg base (L2.CX P w) 1 A.f_law_mixed A.d_law_mixed p_law_mixed (spF (GG K A) F_law_mixed) :=
  fn_ok (k := 0) rfl rfl T.F_law_mixed sc_law_mixed fun cdv Ar outer s H E hr => ⟨_,
    (pss_cons (ps_set (i := 2) sc_law_mixed.nd rfl (by first | exact Or.inl rfl | exact Or.inr rfl) (pe_op op_modN (pe_op op_pow (pe_op or_add (pe_op or_add (pe_op or_add (pe_op op_modN (pv 0) pe_int) (pe_op or_mul (pe_op or_mul pe_int (pv 1)) (pv 1))) (pe_op or_mul pe_int (pv 1))) pe_int) pe_int) pe_int))
    (pss_one (ps_ret (pe_op op_modN (pe_op or_add (pe_op or_mul (pv 2) pe_int) (pe_op or_mul pe_int (pv 1))) pe_int)))),
    (s_seq (s_setF (v_op d_mod (v_op d_pow (v_op d_add (v_op d_add (v_op d_add (v_op d_mod v_var v_int) (v_op d_mul (v_op d_mul v_int v_var) v_var)) (v_op d_mul v_int v_var)) v_int) v_int) v_int))
    (s_ret (v_op d_mod (v_op d_add (v_op d_mul v_var v_int) (v_op d_mul v_int v_var)) v_int)))⟩
theorem ok_law_low (T : Txt K mg base A) : FnOk P w K mg base (L2.CX P w) 1 A.f_law_low A.d_law_low p_law_low (spF (GG K A) F_law_low) :=
  fn_ok (k := 0) rfl rfl T.F_law_low sc_law_low fun cdv Ar outer s H E hr => ⟨_,
    (pss_cons (ps_set (i := 2) sc_law_low.nd rfl (by first | exact Or.inl rfl | exact Or.inr rfl) (pe_callB call_abs (by rfl) T.z_abs (by decide +kernel) (pa_cons (pv 0) pa_nil)))
    (pss_cons (ps_set (i := 3) sc_law_low.nd rfl (by first | exact Or.inl rfl | exact Or.inr rfl) (pe_callB call_abs (by rfl) T.z_abs (by decide +kernel) (pa_cons (pv 1) pa_nil)))
    (pss_cons (ps_while (passes_of rfl) (pt_cmpR op_gt (pv 3) pe_int (nomark _)) (pss_one (ps_par rfl sc_law_low.nd rfl rfl (by decide) rfl rfl (pa_cons (pv 3) (pa_cons (pe_op op_modN (pv 2) (pv 3)) pa_nil)) rfl)))
    (pss_cons (ps_if (pt_cmpR op_lt (pv 1) pe_int (nomark _)) (pss_one (ps_set (i := 2) sc_law_low.nd rfl (by first | exact Or.inl rfl | exact Or.inr rfl) (pe_un un_neg (pv 2)))) pss_nil)
    (pss_one (ps_ret (pe_tup (pa_cons (pe_op or_div (pv 0) (pv 2)) (pa_cons (pe_op or_div (pv 1) (pv 2)) pa_nil))))))))),
    (s_seq (s_setF (v_cb c_abs (a_cons v_var a_nil)))
    (s_seq (s_setF (v_cb c_abs (a_cons v_var a_nil)))
    (s_seq (s_while (t_test (v_op d_gt v_var v_int)) (s_par (a_cons v_var (a_cons (v_op d_mod v_var v_var) a_nil))))
    (s_seq (s_if (t_test (v_op d_lt v_var v_int)) (s_setF (v_un d_neg v_var)) s_skip)
    (s_ret (v_tup (a_cons (v_op d_div v_var v_var) (a_cons (v_op d_div v_var v_var) a_nil))))))))⟩
theorem ok_law_less (T : Txt K mg base A) : FnOk P w K mg base (L2.CX P w) 1 A.f_law_less A.d_law_less p_law_less (spF (GG K A) F_law_less) :=
  fn_ok (k := 0) rfl rfl T.F_law_less sc_law_less fun cdv Ar outer s H E hr => ⟨_,
    (pss_one (ps_ret (pe_cmpR op_lt (pe_op or_mul (pe_ix ix_seq (pv 0) pe_int (fun _ _ => rfl)) (pe_ix ix_seq (pv 1) pe_int (fun _ _ => rfl))) (pe_op or_mul (pe_ix ix_seq (pv 1) pe_int (fun _ _ => rfl)) (pe_ix ix_seq (pv 0) pe_int (fun _ _ => rfl))) (nomark _)))),
    (s_ret (v_op d_lt (v_op d_mul (v_op d_ix v_var v_int) (v_op d_ix v_var v_int)) (v_op d_mul (v_op d_ix v_var v_int) (v_op d_ix v_var v_int))))⟩
theorem ok_fraction_of (T : Txt K mg base A) : FnOk P w K mg base (L2.CX P w) 2 A.f_fraction_of A.d_fraction_of p_fraction_of (spF (GG K A) F_fraction_of) :=
  fn_okD (k := 1) rfl rfl T.F_fraction_of sc_fraction_of fun cdv Ar outer s H E hr => ⟨_,
    (pss_cons (ps_if (pt_cmpR (or_eq hr.units) (pv 1) pe_int (nomark _)) (pss_one (ps_raise rfl (takes_of rfl rfl rfl rfl) (pmk_own PySem.F.excBase_ValueError T.x_NoFraction T.g_NoFraction T.k_NoFraction (raises_own T.sb_NoFraction T.t_NoFraction) rfl))) pss_nil)
    (pss_cons (ps_set (i := 2) sc_fraction_of.nd rfl (by first | exact Or.inl rfl | exact Or.inr rfl) (pe_callS (ok_divisor T) hr rfl T.g_divisor T.F_divisor.kp T.b_divisor (fun σ => passAt (takes_of rfl rfl rfl rfl) σ) (by exact (pa_cons (pv 0) (pa_cons (pv 1) pa_nil)))))
    (pss_cons (ps_if (pt_cmpR op_lt (pv 1) pe_int (nomark _)) (pss_one (ps_set (i := 2) sc_fraction_of.nd rfl (by first | exact Or.inl rfl | exact Or.inr rfl) (pe_un un_neg (pv 2)))) pss_nil)
    (pss_one (ps_ret (pe_tup (pa_cons (pe_op or_div (pv 0) (pv 2)) (pa_cons (pe_op or_div (pv 1) (pv 2)) pa_nil)))))))),
    (s_seq (s_if (t_test (v_op d_eq v_var v_int)) (s_raise rfl) s_skip)
    (s_seq (s_setF (v_call (a_cons v_var (a_cons v_var a_nil))))
    (s_seq (s_if (t_test (v_op d_lt v_var v_int)) (s_setF (v_un d_neg v_var)) s_skip)
    (s_ret (v_tup (a_cons (v_op d_div v_var v_var) (a_cons (v_op d_div v_var v_var) a_nil)))))))⟩
theorem ok_lesser (T : Txt K mg base A) : FnOk P w K mg base (L2.CX P w) 2 A.f_lesser A.d_lesser p_lesser (spF (GG K A) F_lesser) :=
  fn_ok (k := 1) rfl rfl T.F_lesser sc_lesser fun cdv Ar outer s H E hr => ⟨_,
    (pss_cons (ps_if (pt_val (pe_callS (ok_is_less T) hr rfl T.g_is_less T.F_is_less.kp T.b_is_less (fun σ => passAt (takes_of rfl rfl rfl rfl) σ) (by exact (pa_cons (pv 1) (pa_cons (pv 0) pa_nil))))) (pss_one (ps_ret (pv 1))) pss_nil)
    (pss_one (ps_ret (pv 0)))),
    (s_seq (s_if (t_val (v_call (a_cons v_var (a_cons v_var a_nil)))) s_retV s_skip)
    s_retV)⟩
theorem ok_greater (T : Txt K mg base A) : FnOk P w K mg base (L2.CX P w) 2 A.f_greater A.d_greater p_greater (spF (GG K A) F_greater) :=
  fn_ok (k := 1) rfl rfl T.F_greater sc_greater fun cdv Ar outer s H E hr => ⟨_,
    (pss_cons (ps_if (pt_val (pe_callS (ok_is_less T) hr rfl T.g_is_less T.F_is_less.kp T.b_is_less (fun σ => passAt (takes_of rfl rfl rfl rfl) σ) (by exact (pa_cons (pv 0) (pa_cons (pv 1) pa_nil))))) (pss_one (ps_ret (pv 1))) pss_nil)
    (pss_one (ps_ret (pv 0)))),
    (s_seq (s_if (t_val (v_call (a_cons v_var (a_cons v_var a_nil)))) s_retV s_skip)
    s_retV)⟩
theorem ok_ask_span (T : Txt K mg base A) : FnOk P w K mg base (L2.CX P w) 2 A.f_ask_span A.d_ask_span p_ask_span (spF (GG K A) F_ask_span) :=
  fn_ok (k := 1) rfl rfl T.F_ask_span sc_ask_span fun cdv Ar outer s H E hr => ⟨_,
    (pss_one (ps_if (PW.pt (pw_or (pt_val (pe_callS (ok_is_less T) hr rfl T.g_is_less T.F_is_less.kp T.b_is_less (fun σ => passAt (takes_of rfl rfl rfl rfl) σ) (by exact (pa_cons (pv 0) (pa_cons (pe_glob (v := .ref A.a_FIRST) rfl T.m_FIRST rfl) pa_nil))))) (pw_or (pt_val (pe_callS (ok_is_less T) hr rfl T.g_is_less T.F_is_less.kp T.b_is_less (fun σ => passAt (takes_of rfl rfl rfl rfl) σ) (by exact (pa_cons (pe_glob (v := .ref A.a_LAST) rfl T.m_LAST rfl) (pa_cons (pv 1) pa_nil))))) (pw_or1 (pt_val (pe_callS (ok_is_less T) hr rfl T.g_is_less T.F_is_less.kp T.b_is_less (fun σ => passAt (takes_of rfl rfl rfl rfl) σ) (by exact (pa_cons (pv 1) (pa_cons (pv 0) pa_nil))))))))) (pss_one (ps_raise rfl (takes_of rfl rfl rfl rfl) (pmk_own PySem.F.excBase_ValueError T.x_NoSpan T.g_NoSpan T.k_NoSpan (raises_own T.sb_NoSpan T.t_NoSpan) rfl))) pss_nil)),
    (s_if (t_or (t_val (v_call (a_cons v_var (a_cons (v_const T.i_FIRST) a_nil)))) (t_or (t_val (v_call (a_cons (v_const T.i_LAST) (a_cons v_var a_nil)))) (t_val (v_call (a_cons v_var (a_cons v_var a_nil)))))) (s_raise rfl) s_skip)⟩
theorem ok_law_take (T : Txt K mg base A) : FnOk P w K mg base (L2.CX P w) 2 A.f_law_take A.d_law_take p_law_take (spF (GG K A) F_law_take) :=
  fn_ok (k := 1) rfl rfl T.F_law_take sc_law_take fun cdv Ar outer s H E hr => ⟨_,
    (pss_cons (ps_asg (pe_op or_add (pe_ix ix_seq (pv 0) pe_int (fun _ _ => rfl)) pe_int) (pg_sub (pv 0) pe_int set_list))
    (pss_cons (ps_if (PW.pt (pw_and (pt_cmpR (or_eq hr.units) (pe_ix ix_seq (pv 0) pe_int (fun _ _ => rfl)) pe_int (nomark _)) (pw_and1 (pt_cmpR op_gt (pe_callB call_len (by rfl) T.z_len (by decide +kernel) (pa_cons (pe_ix ix_seq (pv 0) pe_int (fun _ _ => rfl)) pa_nil)) pe_int (nomark _))))) (pss_one (ps_asg (pe_bm PySem.F.plainAttrs_list PySem.F.slot_list_pop PySem.F.type_list_pop mt_popAt (pe_ix ix_seq (pv 0) pe_int (fun _ _ => rfl)) (pa_cons pe_int pa_nil)) (pg_sub (pv 0) pe_int set_list))) pss_nil)
    (pss_cons (ps_if (pt_cmpR op_gt (pe_ix ix_seq (pv 0) pe_int (fun _ _ => rfl)) pe_int (nomark _)) (pss_cons (ps_set (i := 3) sc_law_take.nd rfl (by first | exact Or.inl rfl | exact Or.inr rfl) (pe_op op_modN (pe_ix ix_seq (pv 0) pe_int (fun _ _ => rfl)) (pv 1)))
    (pss_cons (ps_asg (pe_op or_div (pe_ix ix_seq (pv 0) pe_int (fun _ _ => rfl)) (pv 1)) (pg_sub (pv 0) pe_int set_list))
    (pss_one (ps_ret (pv 3))))) pss_nil)
    (pss_cons (ps_set (i := 2) sc_law_take.nd rfl (by first | exact Or.inl rfl | exact Or.inr rfl) (pe_op or_mul pe_int (pe_ix ix_seq (pv 0) pe_int (fun _ _ => rfl))))
    (pss_cons (ps_if (pt_cmpR op_gt (pe_callB call_len (by rfl) T.z_len (by decide +kernel) (pa_cons (pe_ix ix_seq (pv 0) pe_int (fun _ _ => rfl)) pa_nil)) pe_int (nomark _)) (pss_one (ps_set (i := 2) sc_law_take.nd rfl (by first | exact Or.inl rfl | exact Or.inr rfl) (pe_ix ix_seq (pe_ix ix_seq (pv 0) pe_int (fun _ _ => rfl)) (pe_op op_modN (pe_ix ix_seq (pv 0) pe_int (fun _ _ => rfl)) (pe_callB call_len (by rfl) T.z_len (by decide +kernel) (pa_cons (pe_ix ix_seq (pv 0) pe_int (fun _ _ => rfl)) pa_nil))) (fun _ _ => rfl)))) pss_nil)
    (pss_cons (ps_set (i := 3) sc_law_take.nd rfl (by first | exact Or.inl rfl | exact Or.inr rfl) pe_int)
    (pss_cons (ps_set (i := 4) sc_law_take.nd rfl (by first | exact Or.inl rfl | exact Or.inr rfl) pe_int)
    (pss_cons (ps_while (passes_of rfl) (pt_cmpR op_lt (pv 4) (pv 1) (nomark _)) (pss_cons (ps_set (i := 3) sc_law_take.nd rfl (by first | exact Or.inl rfl | exact Or.inr rfl) (pe_op or_add (pe_op or_mul (pv 3) pe_int) (pe_callS (ok_law_mixed T) hr rfl T.g_law_mixed T.F_law_mixed.kp T.b_law_mixed (fun σ => passAt (takes_of rfl rfl rfl rfl) σ) (by exact (pa_cons (pv 2) (pa_cons (pe_op or_add (pe_ix ix_seq (pv 0) pe_int (fun _ _ => rfl)) (pe_op or_mul pe_int (pe_op op_modN (pv 3) pe_int))) pa_nil))))))
    (pss_one (ps_set (i := 4) sc_law_take.nd rfl (by first | exact Or.inl rfl | exact Or.inr rfl) (pe_op or_mul (pv 4) pe_int)))))
    (pss_one (ps_ret (pe_op op_modN (pv 3) (pv 1)))))))))))),
    (s_seq (s_setI (v_op d_add (v_op d_ix v_var v_int) v_int) v_int)
    (s_seq (s_if (t_and (t_test (v_op d_eq (v_op d_ix v_var v_int) v_int)) (t_test (v_op d_gt (v_cb c_len (a_cons (v_op d_ix v_var v_int) a_nil)) v_int))) (s_setI (v_mtX m_popAt (v_op d_ix v_var v_int) (a_cons v_int a_nil)) v_int) s_skip)
    (s_seq (s_if (t_test (v_op d_gt (v_op d_ix v_var v_int) v_int)) (s_seq (s_setF (v_op d_mod (v_op d_ix v_var v_int) v_var))
    (s_seq (s_setI (v_op d_div (v_op d_ix v_var v_int) v_var) v_int)
    s_retV)) s_skip)
    (s_seq (s_setF (v_op d_mul v_int (v_op d_ix v_var v_int)))
    (s_seq (s_if (t_test (v_op d_gt (v_cb c_len (a_cons (v_op d_ix v_var v_int) a_nil)) v_int)) (s_setF (v_op d_ix (v_op d_ix v_var v_int) (v_op d_mod (v_op d_ix v_var v_int) (v_cb c_len (a_cons (v_op d_ix v_var v_int) a_nil))))) s_skip)
    (s_seq (s_setF v_int)
    (s_seq (s_setF v_int)
    (s_seq (s_while (t_test (v_op d_lt v_var v_var)) (s_seq (s_setF (v_op d_add (v_op d_mul v_var v_int) (v_call (a_cons v_var (a_cons (v_op d_add (v_op d_ix v_var v_int) (v_op d_mul v_int (v_op d_mod v_var v_int))) a_nil)))))
    (s_setF (v_op d_mul v_var v_int))))
    (s_ret (v_op d_mod v_var v_var))))))))))⟩
theorem ok_law_plus (T : Txt K mg base A) : FnOk P w K mg base (L2.CX P w) 2 A.f_law_plus A.d_law_plus p_law_plus (spF (GG K A) F_law_plus) :=
  fn_ok (k := 1) rfl rfl T.F_law_plus sc_law_plus fun cdv Ar outer s H E hr => ⟨_,
    (pss_one (ps_ret (pe_callS (ok_law_low T) hr rfl T.g_law_low T.F_law_low.kp T.b_law_low (fun σ => passAt (takes_of rfl rfl rfl rfl) σ) (by exact (pa_cons (pe_op or_add (pe_op or_mul (pe_ix ix_seq (pv 0) pe_int (fun _ _ => rfl)) (pe_ix ix_seq (pv 1) pe_int (fun _ _ => rfl))) (pe_op or_mul (pe_ix ix_seq (pv 1) pe_int (fun _ _ => rfl)) (pe_ix ix_seq (pv 0) pe_int (fun _ _ => rfl)))) (pa_cons (pe_op or_mul (pe_ix ix_seq (pv 0) pe_int (fun _ _ => rfl)) (pe_ix ix_seq (pv 1) pe_int (fun _ _ => rfl))) pa_nil)))))),
    (s_ret (v_call (a_cons (v_op d_add (v_op d_mul (v_op d_ix v_var v_int) (v_op d_ix v_var v_int)) (v_op d_mul (v_op d_ix v_var v_int) (v_op d_ix v_var v_int))) (a_cons (v_op d_mul (v_op d_ix v_var v_int) (v_op d_ix v_var v_int)) a_nil))))⟩
theorem ok_law_turned (T : Txt K mg base A) : FnOk P w K mg base (L2.CX P w) 2 A.f_law_turned A.d_law_turned p_law_turned (spF (GG K A) F_law_turned) :=
  fn_ok (k := 1) rfl rfl T.F_law_turned sc_law_turned fun cdv Ar outer s H E hr => ⟨_,
    (pss_one (ps_ret (pe_callS (ok_law_low T) hr rfl T.g_law_low T.F_law_low.kp T.b_law_low (fun σ => passAt (takes_of rfl rfl rfl rfl) σ) (by exact (pa_cons (pe_op op_sub (pe_ix ix_seq (pv 0) pe_int (fun _ _ => rfl)) (pe_ix ix_seq (pv 0) pe_int (fun _ _ => rfl))) (pa_cons (pe_ix ix_seq (pv 0) pe_int (fun _ _ => rfl)) pa_nil)))))),
    (s_ret (v_call (a_cons (v_op d_sub (v_op d_ix v_var v_int) (v_op d_ix v_var v_int)) (a_cons (v_op d_ix v_var v_int) a_nil))))⟩
theorem ok_plus (T : Txt K mg base A) : FnOk P w K mg base (L2.CX P w) 3 A.f_plus A.d_plus p_plus (spF (GG K A) F_plus) :=
  fn_ok (k := 2) rfl rfl T.F_plus sc_plus fun cdv Ar outer s H E hr => ⟨_,
    (pss_one (ps_ret (by exact (pe_gN (ok_fraction_of T) hr rfl T.g_fraction_of T.F_fraction_of.kp T.B_fraction_of_2_ (fun σ => passAt (takes_of rfl rfl rfl rfl) σ) (by exact (pa_cons (pe_op or_add (pe_op or_mul (pe_ix ix_seq (pv 0) pe_int (fun _ _ => rfl)) (pe_ix ix_seq (pv 1) pe_int (fun _ _ => rfl))) (pe_op or_mul (pe_ix ix_seq (pv 1) pe_int (fun _ _ => rfl)) (pe_ix ix_seq (pv 0) pe_int (fun _ _ => rfl)))) (pa_cons (pe_op or_mul (pe_ix ix_seq (pv 0) pe_int (fun _ _ => rfl)) (pe_ix ix_seq (pv 1) pe_int (fun _ _ => rfl))) pa_nil))))))),
    (s_ret (v_callG (dd := [(.int 1)]) rfl (a_cons (v_op d_add (v_op d_mul (v_op d_ix v_var v_int) (v_op d_ix v_var v_int)) (v_op d_mul (v_op d_ix v_var v_int) (v_op d_ix v_var v_int))) (a_cons (v_op d_mul (v_op d_ix v_var v_int) (v_op d_ix v_var v_int)) a_nil)) a_nil))⟩
theorem ok_minus (T : Txt K mg base A) : FnOk P w K mg base (L2.CX P w) 3 A.f_minus A.d_minus p_minus (spF (GG K A) F_minus) :=
  fn_ok (k := 2) rfl rfl T.F_minus sc_minus fun cdv Ar outer s H E hr => ⟨_,
    (pss_one (ps_ret (by exact (pe_gN (ok_fraction_of T) hr rfl T.g_fraction_of T.F_fraction_of.kp T.B_fraction_of_2_ (fun σ => passAt (takes_of rfl rfl rfl rfl) σ) (by exact (pa_cons (pe_op op_sub (pe_op or_mul (pe_ix ix_seq (pv 0) pe_int (fun _ _ => rfl)) (pe_ix ix_seq (pv 1) pe_int (fun _ _ => rfl))) (pe_op or_mul (pe_ix ix_seq (pv 1) pe_int (fun _ _ => rfl)) (pe_ix ix_seq (pv 0) pe_int (fun _ _ => rfl)))) (pa_cons (pe_op or_mul (pe_ix ix_seq (pv 0) pe_int (fun _ _ => rfl)) (pe_ix ix_seq (pv 1) pe_int (fun _ _ => rfl))) pa_nil))))))),
    (s_ret (v_callG (dd := [(.int 1)]) rfl (a_cons (v_op d_sub (v_op d_mul (v_op d_ix v_var v_int) (v_op d_ix v_var v_int)) (v_op d_mul (v_op d_ix v_var v_int) (v_op d_ix v_var v_int))) (a_cons (v_op d_mul (v_op d_ix v_var v_int) (v_op d_ix v_var v_int)) a_nil)) a_nil))⟩
theorem ok_times (T : Txt K mg base A) : FnOk P w K mg base (L2.CX P w) 3 A.f_times A.d_times p_times (spF (GG K A) F_times) :=
  fn_ok (k := 2) rfl rfl T.F_times sc_times fun cdv Ar outer s H E hr => ⟨_,
    (pss_one (ps_ret (by exact (pe_gN (ok_fraction_of T) hr rfl T.g_fraction_of T.F_fraction_of.kp T.B_fraction_of_2_ (fun σ => passAt (takes_of rfl rfl rfl rfl) σ) (by exact (pa_cons (pe_op or_mul (pe_ix ix_seq (pv 0) pe_int (fun _ _ => rfl)) (pe_ix ix_seq (pv 1) pe_int (fun _ _ => rfl))) (pa_cons (pe_op or_mul (pe_ix ix_seq (pv 0) pe_int (fun _ _ => rfl)) (pe_ix ix_seq (pv 1) pe_int (fun _ _ => rfl))) pa_nil))))))),
    (s_ret (v_callG (dd := [(.int 1)]) rfl (a_cons (v_op d_mul (v_op d_ix v_var v_int) (v_op d_ix v_var v_int)) (a_cons (v_op d_mul (v_op d_ix v_var v_int) (v_op d_ix v_var v_int)) a_nil)) a_nil))⟩
theorem ok_over (T : Txt K mg base A) : FnOk P w K mg base (L2.CX P w) 3 A.f_over A.d_over p_over (spF (GG K A) F_over) :=
  fn_ok (k := 2) rfl rfl T.F_over sc_over fun cdv Ar outer s H E hr => ⟨_,
    (pss_one (ps_ret (by exact (pe_gN (ok_fraction_of T) hr rfl T.g_fraction_of T.F_fraction_of.kp T.B_fraction_of_2_ (fun σ => passAt (takes_of rfl rfl rfl rfl) σ) (by exact (pa_cons (pe_op or_mul (pe_ix ix_seq (pv 0) pe_int (fun _ _ => rfl)) (pe_ix ix_seq (pv 1) pe_int (fun _ _ => rfl))) (pa_cons (pe_op or_mul (pe_ix ix_seq (pv 0) pe_int (fun _ _ => rfl)) (pe_ix ix_seq (pv 1) pe_int (fun _ _ => rfl))) pa_nil))))))),
    (s_ret (v_callG (dd := [(.int 1)]) rfl (a_cons (v_op d_mul (v_op d_ix v_var v_int) (v_op d_ix v_var v_int)) (a_cons (v_op d_mul (v_op d_ix v_var v_int) (v_op d_ix v_var v_int)) a_nil)) a_nil))⟩
theorem ok_bounds_of (T : Txt K mg base A) : FnOk P w K mg base (L2.CX P w) 3 A.f_bounds_of A.d_bounds_of p_bounds_of (spF (GG K A) F_bounds_of) :=
  fn_ok (k := 2) rfl rfl T.F_bounds_of sc_bounds_of fun cdv Ar outer s H E hr => ⟨_,
    (pss_cons (ps_set (i := 1) sc_bounds_of.nd rfl (by first | exact Or.inl rfl | exact Or.inr rfl) (pe_callB (cr_sum rfl) (by rfl) T.z_sum (by decide +kernel) (pa_cons (pe_lc (own := [("width", 4), ("worth", 5)]) rfl sc_bounds_of.nd (pi_any (pv 0)) (blkOk_by (N := n_bounds_of) (sc := defScope (s_bounds_of)) (by decide +kernel)) (fun _ _ _ _ _ => (pg_tl rfl (pgs_cons (pg_name (i := 4) sc_bounds_of.nd rfl (by first | exact Or.inl rfl | exact Or.inr rfl)) (pgs_cons (pg_name (i := 5) sc_bounds_of.nd rfl (by first | exact Or.inl rfl | exact Or.inr rfl)) pgs_nil)))) (fun _ _ _ _ _ => pts_nil) (fun _ _ _ _ _ => (pv 4))) pa_nil)))
    (pss_cons (ps_set (i := 2) sc_bounds_of.nd rfl (by first | exact Or.inl rfl | exact Or.inr rfl) (pe_lst (pa_cons (pe_glob (v := .ref A.a_FIRST) rfl T.m_FIRST rfl) pa_nil)))
    (pss_cons (ps_set (i := 3) sc_bounds_of.nd rfl (by first | exact Or.inl rfl | exact Or.inr rfl) pe_int)
    (pss_cons (ps_for (passes_of rfl) rfl (pi_any (pv 0)) (pg_tl rfl (pgs_cons (pg_name (i := 4) sc_bounds_of.nd rfl (by first | exact Or.inl rfl | exact Or.inr rfl)) (pgs_cons (pg_name (i := 5) sc_bounds_of.nd rfl (by first | exact Or.inl rfl | exact Or.inr rfl)) pgs_nil))) (pss_cons (ps_set (i := 3) sc_bounds_of.nd rfl (by first | exact Or.inl rfl | exact Or.inr rfl) (pe_op or_add (pv 3) (pv 4)))
    (pss_one (ps_expr (pe_bm PySem.F.plainAttrs_list PySem.F.slot_list_append PySem.F.type_list_append mt_append (pv 2) (pa_cons (by exact (pe_gN (ok_fraction_of T) hr rfl T.g_fraction_of T.F_fraction_of.kp T.B_fraction_of_2_ (fun σ => passAt (takes_of rfl rfl rfl rfl) σ) (by exact (pa_cons (pv 3) (pa_cons (pv 1) pa_nil))))) pa_nil))))))
    (pss_one (ps_ret (pv 2))))))),
    (s_seq (s_setF (v_cb c_sum (a_cons (v_lc (vs := [4, 5]) (i_any v_var) (g_tl (gs_cons g_name (gs_cons g_name gs_nil))) (by decide) t_yes v_var) a_nil)))
    (s_seq (s_set (v_lst (a_cons (v_const T.i_FIRST) a_nil)))
    (s_seq (s_setF v_int)
    (s_seq (s_for (i_any v_var) (g_tl (gs_cons g_name (gs_cons g_name gs_nil))) (s_seq (s_setF (v_op d_add v_var v_var))
    (s_mt m_append (a_cons (v_callG (dd := [(.int 1)]) rfl (a_cons v_var (a_cons v_var a_nil)) a_nil) a_nil))))
    s_retV))))⟩
theorem ok_law_place (T : Txt K mg base A) : FnOk P w K mg base (L2.CX P w) 3 A.f_law_place A.d_law_place p_law_place (spF (GG K A) F_law_place) :=
  fn_ok (k := 2) rfl rfl T.F_law_place sc_law_place fun cdv Ar outer s H E hr => ⟨_,
    (pss_cons (ps_set (i := 1) sc_law_place.nd rfl (by first | exact Or.inl rfl | exact Or.inr rfl) (pe_op or_add pe_int (pe_callS (ok_law_take T) hr rfl T.g_law_take T.F_law_take.kp T.b_law_take (fun σ => passAt (takes_of rfl rfl rfl rfl) σ) (by exact (pa_cons (pv 0) (pa_cons (pe_ix ix_seq (pe_lst (pa_cons pe_int (pa_cons pe_int (pa_cons pe_int (pa_cons (pe_op op_pow pe_int pe_int) pa_nil))))) (pe_callS (ok_law_take T) hr rfl T.g_law_take T.F_law_take.kp T.b_law_take (fun σ => passAt (takes_of rfl rfl rfl rfl) σ) (by exact (pa_cons (pv 0) (pa_cons pe_int pa_nil)))) (fun _ _ => rfl)) pa_nil))))))
    (pss_one (ps_ret (pe_callS (ok_law_low T) (hr.mono (by decide)) rfl T.g_law_low T.F_law_low.kp T.b_law_low (fun σ => passAt (takes_of rfl rfl rfl rfl) σ) (by exact (pa_cons (pe_callS (ok_law_take T) hr rfl T.g_law_take T.F_law_take.kp T.b_law_take (fun σ => passAt (takes_of rfl rfl rfl rfl) σ) (by exact (pa_cons (pv 0) (pa_cons (pe_op or_add (pv 1) pe_int) pa_nil)))) (pa_cons (pv 1) pa_nil))))))),
    (s_seq (s_setF (v_op d_add v_int (v_call (a_cons v_var (a_cons (v_op d_ix (v_lst (a_cons v_int (a_cons v_int (a_cons v_int (a_cons (v_op d_pow v_int v_int) a_nil))))) (v_call (a_cons v_var (a_cons v_int a_nil)))) a_nil)))))
    (s_ret (v_call (a_cons (v_call (a_cons v_var (a_cons (v_op d_add v_var v_int) a_nil))) (a_cons v_var a_nil)))))⟩
theorem ok_law_rows (T : Txt K mg base A) : FnOk P w K mg base (L2.CX P w) 3 A.f_law_rows A.d_law_rows p_law_rows (spF (GG K A) F_law_rows) :=
  fn_ok (k := 2) rfl rfl T.F_law_rows sc_law_rows fun cdv Ar outer s H E hr => ⟨_,
    (pss_cons (ps_set (i := 2) sc_law_rows.nd rfl (by first | exact Or.inl rfl | exact Or.inr rfl) (pe_callS (ok_law_take T) hr rfl T.g_law_take T.F_law_take.kp T.b_law_take (fun σ => passAt (takes_of rfl rfl rfl rfl) σ) (by exact (pa_cons (pv 0) (pa_cons pe_int pa_nil)))))
    (pss_cons (ps_set (i := 3) sc_law_rows.nd rfl (by first | exact Or.inl rfl | exact Or.inr rfl) (pe_callS (ok_law_take T) hr rfl T.g_law_take T.F_law_take.kp T.b_law_take (fun σ => passAt (takes_of rfl rfl rfl rfl) σ) (by exact (pa_cons (pv 0) (pa_cons pe_int pa_nil)))))
    (pss_cons (ps_set (i := 4) sc_law_rows.nd rfl (by first | exact Or.inl rfl | exact Or.inr rfl) (pe_lst pa_nil))
    (pss_cons (ps_for (passes_of rfl) rfl (pi_range1 (by rfl) T.z_range (pa_cons (pe_op or_add pe_int (pe_callS (ok_law_take T) hr rfl T.g_law_take T.F_law_take.kp T.b_law_take (fun σ => passAt (takes_of rfl rfl rfl rfl) σ) (by exact (pa_cons (pv 0) (pa_cons (pv 1) pa_nil))))) pa_nil)) (pg_name (i := 5) sc_law_rows.nd rfl (by first | exact Or.inl rfl | exact Or.inr rfl)) (pss_cons (ps_set (i := 6) sc_law_rows.nd rfl (by first | exact Or.inl rfl | exact Or.inr rfl) (pe_op or_add pe_int (pe_callS (ok_law_take T) hr rfl T.g_law_take T.F_law_take.kp T.b_law_take (fun σ => passAt (takes_of rfl rfl rfl rfl) σ) (by exact (pa_cons (pv 0) (pa_cons (pe_ix ix_seq (pe_lst (pa_cons pe_int (pa_cons pe_int (pa_cons pe_int (pa_cons pe_int pa_nil))))) (pv 2) (fun _ _ => rfl)) pa_nil))))))
    (pss_cons (ps_set (i := 7) sc_law_rows.nd rfl (by first | exact Or.inl rfl | exact Or.inr rfl) (pe_callS (ok_law_take T) hr rfl T.g_law_take T.F_law_take.kp T.b_law_take (fun σ => passAt (takes_of rfl rfl rfl rfl) σ) (by exact (pa_cons (pv 0) (pa_cons (pe_ix ix_seq (pe_lst (pa_cons pe_int (pa_cons pe_int (pa_cons pe_int (pa_cons (pe_op op_pow pe_int pe_int) pa_nil))))) (pv 2) (fun _ _ => rfl)) pa_nil)))))
    (pss_cons (ps_if (PW.pt (pw_and (pt_cmpR (or_eq hr.units) (pv 3) pe_int (nomark _)) (pw_and1 (pt_cmpR (or_eq hr.units) (pe_callS (ok_law_take T) hr rfl T.g_law_take T.F_law_take.kp T.b_law_take (fun σ => passAt (takes_of rfl rfl rfl rfl) σ) (by exact (pa_cons (pv 0) (pa_cons pe_int pa_nil)))) pe_int (nomark _))))) (pss_one (ps_set (i := 7) sc_law_rows.nd rfl (by first | exact Or.inl rfl | exact Or.inr rfl) pe_int)) pss_nil)
    (pss_one (ps_expr (pe_bm PySem.F.plainAttrs_list PySem.F.slot_list_append PySem.F.type_list_append mt_append (pv 4) (pa_cons (pe_tup (pa_cons (pv 6) (pa_cons (pv 7) pa_nil))) pa_nil))))))))
    (pss_cons (ps_if (pt_cmpR (or_eq hr.units) (pe_callB (cr_sum rfl) (by rfl) T.z_sum (by decide +kernel) (pa_cons (pe_lc (own := [("_law_width", 6), ("_law_worth", 7)]) rfl sc_law_rows.nd (pi_any (pv 4)) (blkOk_by (N := n_law_rows) (sc := defScope (s_law_rows)) (by decide +kernel)) (fun _ _ _ _ _ => (pg_tl rfl (pgs_cons (pg_name (i := 6) sc_law_rows.nd rfl (by first | exact Or.inl rfl | exact Or.inr rfl)) (pgs_cons (pg_name (i := 7) sc_law_rows.nd rfl (by first | exact Or.inl rfl | exact Or.inr rfl)) pgs_nil)))) (fun _ _ _ _ _ => pts_nil) (fun _ _ _ _ _ => (pv 7))) pa_nil)) pe_int (nomark _)) (pss_cons (ps_set (i := 8) sc_law_rows.nd rfl (by first | exact Or.inl rfl | exact Or.inr rfl) (pe_callS (ok_law_take T) hr rfl T.g_law_take T.F_law_take.kp T.b_law_take (fun σ => passAt (takes_of rfl rfl rfl rfl) σ) (by exact (pa_cons (pv 0) (pa_cons (pe_callB call_len (by rfl) T.z_len (by decide +kernel) (pa_cons (pv 4) pa_nil)) pa_nil)))))
    (pss_one (ps_asg (pe_tup (pa_cons (pe_ix ix_seq (pe_ix ix_seq (pv 4) (pv 8) (fun _ _ => rfl)) pe_int (fun _ _ => rfl)) (pa_cons (pe_op or_add pe_int (pe_callS (ok_law_take T) hr rfl T.g_law_take T.F_law_take.kp T.b_law_take (fun σ => passAt (takes_of rfl rfl rfl rfl) σ) (by exact (pa_cons (pv 0) (pa_cons pe_int pa_nil))))) pa_nil))) (pg_sub (pv 4) (pv 8) set_list)))) pss_nil)
    (pss_one (ps_ret (pv 4)))))))),
    (s_seq (s_setF (v_call (a_cons v_var (a_cons v_int a_nil))))
    (s_seq (s_setF (v_call (a_cons v_var (a_cons v_int a_nil))))
    (s_seq (s_set (v_lst a_nil))
    (s_seq (s_for (i_range1 (a_cons (v_op d_add v_int (v_call (a_cons v_var (a_cons v_var a_nil)))) a_nil)) g_name (s_seq (s_setF (v_op d_add v_int (v_call (a_cons v_var (a_cons (v_op d_ix (v_lst (a_cons v_int (a_cons v_int (a_cons v_int (a_cons v_int a_nil))))) v_var) a_nil)))))
    (s_seq (s_setF (v_call (a_cons v_var (a_cons (v_op d_ix (v_lst (a_cons v_int (a_cons v_int (a_cons v_int (a_cons (v_op d_pow v_int v_int) a_nil))))) v_var) a_nil))))
    (s_seq (s_if (t_and (t_test (v_op d_eq v_var v_int)) (t_test (v_op d_eq (v_call (a_cons v_var (a_cons v_int a_nil))) v_int))) (s_setF v_int) s_skip)
    (s_mt m_append (a_cons (v_tup (a_cons v_var (a_cons v_var a_nil))) a_nil))))))
    (s_seq (s_if (t_test (v_op d_eq (v_cb c_sum (a_cons (v_lcE (vs := [6, 7]) (i_own (i := 4) (by decide)) (g_tl (gs_cons g_name (gs_cons g_name gs_nil))) (by decide) t_yes v_var) a_nil)) v_int)) (s_seq (s_setF (v_call (a_cons v_var (a_cons (v_cb c_len (a_cons v_var a_nil)) a_nil))))
    (s_setI (v_tup (a_cons (v_op d_ix (v_op d_ix v_var v_var) v_int) (a_cons (v_op d_add v_int (v_call (a_cons v_var (a_cons v_int a_nil)))) a_nil))) v_var)) s_skip)
    s_retV)))))⟩
theorem ok_Table___init__ (T : Txt K mg base A) : FnOk P w K mg base (L2.CX P w) 4 A.f_Table___init__ A.d_Table___init__ p_Table___init__ (spF (GG K A) F_Table___init__) :=
  fn_ok (k := 3) rfl rfl T.F_Table___init__ sc_Table___init__ fun cdv Ar outer s H E hr => ⟨_,
    (pss_cons (ps_if (PW.pt (pw_or (pt_cmpR op_lt (pe_callB call_len (by rfl) T.z_len (by decide +kernel) (pa_cons (pv 1) pa_nil)) pe_int (nomark _)) (pw_or1 (pt_cmpR op_gt (pe_callB call_len (by rfl) T.z_len (by decide +kernel) (pa_cons (pv 1) pa_nil)) (pe_glob (v := .int 8) rfl T.m_MOST_STRETCHES ⟨_, rfl⟩) (nomark _))))) (pss_one (ps_raise rfl (takes_of rfl rfl rfl rfl) (pmk_own PySem.F.excBase_ValueError T.x_NoTable T.g_NoTable T.k_NoTable (raises_own T.sb_NoTable T.t_NoTable) rfl))) pss_nil)
    (pss_cons (ps_for (passes_of rfl) rfl (pi_any (pv 1)) (pg_tl rfl (pgs_cons (pg_name (i := 2) sc_Table___init__.nd rfl (by first | exact Or.inl rfl | exact Or.inr rfl)) (pgs_cons (pg_name (i := 3) sc_Table___init__.nd rfl (by first | exact Or.inl rfl | exact Or.inr rfl)) pgs_nil))) (pss_one (ps_if (pt_not (pt_val (pe_callS (ok_is_stretch T) (hr.mono (by decide)) rfl T.g_is_stretch T.F_is_stretch.kp T.b_is_stretch (fun σ => passAt (takes_of rfl rfl rfl rfl) σ) (by exact (pa_cons (pv 2) (pa_cons (pv 3) pa_nil)))))) (pss_one (ps_raise rfl (takes_of rfl rfl rfl rfl) (pmk_own PySem.F.excBase_ValueError T.x_NoTable T.g_NoTable T.k_NoTable (raises_own T.sb_NoTable T.t_NoTable) rfl))) pss_nil)))
    (pss_cons (ps_if (pt_cmpR (or_eq hr.units) (pe_callB (cr_sum rfl) (by rfl) T.z_sum (by decide +kernel) (pa_cons (pe_lc (own := [("width", 2), ("worth", 3)]) rfl sc_Table___init__.nd (pi_any (pv 1)) (blkOk_by (N := n_Table___init__) (sc := defScope (s_Table___init__)) (by decide +kernel)) (fun _ _ _ _ _ => (pg_tl rfl (pgs_cons (pg_name (i := 2) sc_Table___init__.nd rfl (by first | exact Or.inl rfl | exact Or.inr rfl)) (pgs_cons (pg_name (i := 3) sc_Table___init__.nd rfl (by first | exact Or.inl rfl | exact Or.inr rfl)) pgs_nil)))) (fun _ _ _ _ _ => pts_nil) (fun _ _ _ _ _ => (pv 3))) pa_nil)) pe_int (nomark _)) (pss_one (ps_raise rfl (takes_of rfl rfl rfl rfl) (pmk_own PySem.F.excBase_ValueError T.x_NoTable T.g_NoTable T.k_NoTable (raises_own T.sb_NoTable T.t_NoTable) rfl))) pss_nil)
    (pss_cons (ps_fld (pv 0) (pe_lc (own := [("width", 2), ("worth", 3)]) rfl sc_Table___init__.nd (pi_any (pv 1)) (blkOk_by (N := n_Table___init__) (sc := defScope (s_Table___init__)) (by decide +kernel)) (fun _ _ _ _ _ => (pg_tl rfl (pgs_cons (pg_name (i := 2) sc_Table___init__.nd rfl (by first | exact Or.inl rfl | exact Or.inr rfl)) (pgs_cons (pg_name (i := 3) sc_Table___init__.nd rfl (by first | exact Or.inl rfl | exact Or.inr rfl)) pgs_nil)))) (fun _ _ _ _ _ => pts_nil) (fun _ _ _ _ _ => (pe_tup (pa_cons (pv 2) (pa_cons (pv 3) pa_nil))))) (by first | rfl | exact sw_any rfl))
    (pss_one (ps_fld (pv 0) (pe_callS (ok_bounds_of T) hr rfl T.g_bounds_of T.F_bounds_of.kp T.b_bounds_of (fun σ => passAt (takes_of rfl rfl rfl rfl) σ) (by exact (pa_cons (pe_fld (pv 0) rfl) pa_nil))) (by first | rfl | exact sw_any rfl))))))),
    (s_seq (s_if (t_or (t_test (v_op d_lt (v_cb c_len (a_cons v_var a_nil)) v_int)) (t_test (v_op d_gt (v_cb c_len (a_cons v_var a_nil)) v_int))) (s_raise rfl) s_skip)
    (s_seq (s_for (i_any v_var) (g_tl (gs_cons g_name (gs_cons g_name gs_nil))) (s_if (t_not (t_val (v_call (a_cons v_var (a_cons v_var a_nil))))) (s_raise rfl) s_skip))
    (s_seq (s_if (t_test (v_op d_eq (v_cb c_sum (a_cons (v_lc (vs := [2, 3]) (i_any v_var) (g_tl (gs_cons g_name (gs_cons g_name gs_nil))) (by decide) t_yes v_var) a_nil)) v_int)) (s_raise rfl) s_skip)
    (s_seq (s_fldS T.fo_kept v_var (v_lc (vs := [2, 3]) (i_any v_var) (g_tl (gs_cons g_name (gs_cons g_name gs_nil))) (by decide) t_yes (v_tup (a_cons v_var (a_cons v_var a_nil)))))
    (s_fldS T.fo_bounds v_var (v_call (a_cons (v_fld T.fo_kept v_var) a_nil)))))))⟩
theorem ok_Table_between (T : Txt K mg base A) : FnOk P w K mg base (L2.CX P w) 4 A.f_Table_between A.d_Table_between p_Table_between (spF (GG K A) F_Table_between) :=
  fn_ok (k := 3) rfl rfl T.F_Table_between sc_Table_between fun cdv Ar outer s H E hr => ⟨_,
    (pss_cons (ps_set (i := 3) sc_Table_between.nd rfl (by first | exact Or.inl rfl | exact Or.inr rfl) (pe_lst pa_nil))
    (pss_cons (ps_for (passes_of rfl) rfl (pi_enum (by rfl) T.z_enumerate (pa_cons (pe_fld (pv 0) rfl) pa_nil)) (pg_tl rfl (pgs_cons (pg_name (i := 4) sc_Table_between.nd rfl (by first | exact Or.inl rfl | exact Or.inr rfl)) (pgs_cons (pg_tl rfl (pgs_cons (pg_name (i := 7) sc_Table_between.nd rfl (by first | exact Or.inl rfl | exact Or.inr rfl)) (pgs_cons (pg_name (i := 8) sc_Table_between.nd rfl (by first | exact Or.inl rfl | exact Or.inr rfl)) pgs_nil))) pgs_nil))) (pss_cons (ps_set (i := 5) sc_Table_between.nd rfl (by first | exact Or.inl rfl | exact Or.inr rfl) (pe_callS (ok_greater T) (hr.mono (by decide)) rfl T.g_greater T.F_greater.kp T.b_greater (fun σ => passAt (takes_of rfl rfl rfl rfl) σ) (by exact (pa_cons (pv 1) (pa_cons (pe_ix ix_seq (pe_fld (pv 0) rfl) (pv 4) (fun _ _ => rfl)) pa_nil)))))
    (pss_cons (ps_set (i := 6) sc_Table_between.nd rfl (by first | exact Or.inl rfl | exact Or.inr rfl) (pe_callS (ok_lesser T) (hr.mono (by decide)) rfl T.g_lesser T.F_lesser.kp T.b_lesser (fun σ => passAt (takes_of rfl rfl rfl rfl) σ) (by exact (pa_cons (pv 2) (pa_cons (pe_ix ix_seq (pe_fld (pv 0) rfl) (pe_op or_add (pv 4) pe_int) (fun _ _ => rfl)) pa_nil)))))
    (pss_one (ps_if (pt_val (pe_callS (ok_is_less T) (hr.mono (by decide)) rfl T.g_is_less T.F_is_less.kp T.b_is_less (fun σ => passAt (takes_of rfl rfl rfl rfl) σ) (by exact (pa_cons (pv 5) (pa_cons (pv 6) pa_nil))))) (pss_cons (ps_set (i := 9) sc_Table_between.nd rfl (by first | exact Or.inl rfl | exact Or.inr rfl) (pe_callS (ok_minus T) hr rfl T.g_minus T.F_minus.kp T.b_minus (fun σ => passAt (takes_of rfl rfl rfl rfl) σ) (by exact (pa_cons (pe_ix ix_seq (pe_fld (pv 0) rfl) (pe_op or_add (pv 4) pe_int) (fun _ _ => rfl)) (pa_cons (pe_ix ix_seq (pe_fld (pv 0) rfl) (pv 4) (fun _ _ => rfl)) pa_nil)))))
    (pss_one (ps_expr (pe_bm PySem.F.plainAttrs_list PySem.F.slot_list_append PySem.F.type_list_append mt_append (pv 3) (pa_cons (pe_tup (pa_cons (pv 5) (pa_cons (pv 6) (pa_cons (pe_callS (ok_times T) hr rfl T.g_times T.F_times.kp T.b_times (fun σ => passAt (takes_of rfl rfl rfl rfl) σ) (by exact (pa_cons (pe_tup (pa_cons (pv 8) (pa_cons pe_int pa_nil))) (pa_cons (pe_callS (ok_over T) hr rfl T.g_over T.F_over.kp T.b_over (fun σ => passAt (takes_of rfl rfl rfl rfl) σ) (by exact (pa_cons (pe_callS (ok_minus T) hr rfl T.g_minus T.F_minus.kp T.b_minus (fun σ => passAt (takes_of rfl rfl rfl rfl) σ) (by exact (pa_cons (pv 6) (pa_cons (pv 5) pa_nil)))) (pa_cons (pv 9) pa_nil)))) pa_nil)))) pa_nil)))) pa_nil))))) pss_nil)))))
    (pss_one (ps_ret (pv 3))))),
    (s_seq (s_set (v_lst a_nil))
    (s_seq (s_for (i_enum (a_cons (v_fld T.fo_kept v_var) a_nil)) (g_tl (gs_cons g_name (gs_cons (g_tl (gs_cons g_name (gs_cons g_name gs_nil))) gs_nil))) (s_seq (s_setF (v_call (a_cons v_var (a_cons (v_op d_ix (v_fld T.fo_bounds v_var) v_var) a_nil))))
    (s_seq (s_setF (v_call (a_cons v_var (a_cons (v_op d_ix (v_fld T.fo_bounds v_var) (v_op d_add v_var v_int)) a_nil))))
    (s_if (t_val (v_call (a_cons v_var (a_cons v_var a_nil)))) (s_seq (s_setF (v_call (a_cons (v_op d_ix (v_fld T.fo_bounds v_var) (v_op d_add v_var v_int)) (a_cons (v_op d_ix (v_fld T.fo_bounds v_var) v_var) a_nil))))
    (s_mt m_append (a_cons (v_tup (a_cons v_var (a_cons v_var (a_cons (v_call (a_cons (v_tup (a_cons v_var (a_cons v_int a_nil))) (a_cons (v_call (a_cons (v_call (a_cons v_var (a_cons v_var a_nil))) (a_cons v_var a_nil))) a_nil))) a_nil)))) a_nil))) s_skip))))
    s_retV))⟩
theorem ok_law_spot (T : Txt K mg base A) : FnOk P w K mg base (L2.CX P w) 4 A.f_law_spot A.d_law_spot p_law_spot (spF (GG K A) F_law_spot) :=
  fn_ok (k := 3) rfl rfl T.F_law_spot sc_law_spot fun cdv Ar outer s H E hr => ⟨_,
    (pss_cons (ps_set (i := 2) sc_law_spot.nd rfl (by first | exact Or.inl rfl | exact Or.inr rfl) (pe_callS (ok_law_take T) (hr.mono (by decide)) rfl T.g_law_take T.F_law_take.kp T.b_law_take (fun σ => passAt (takes_of rfl rfl rfl rfl) σ) (by exact (pa_cons (pv 0) (pa_cons pe_int pa_nil)))))
    (pss_cons (ps_set (i := 3) sc_law_spot.nd rfl (by first | exact Or.inl rfl | exact Or.inr rfl) (pe_callS (ok_law_take T) (hr.mono (by decide)) rfl T.g_law_take T.F_law_take.kp T.b_law_take (fun σ => passAt (takes_of rfl rfl rfl rfl) σ) (by exact (pa_cons (pv 0) (pa_cons (pe_op or_add (pe_callB call_len (by rfl) T.z_len (by decide +kernel) (pa_cons (pv 1) pa_nil)) pe_int) pa_nil)))))
    (pss_cons (ps_if (pt_cmpR (or_eq hr.units) (pv 2) pe_int (nomark _)) (pss_one (ps_ret (pe_tup (pa_cons pe_int (pa_cons pe_int pa_nil))))) pss_nil)
    (pss_cons (ps_if (pt_cmpR (or_eq hr.units) (pv 2) pe_int (nomark _)) (pss_one (ps_ret (pe_tup (pa_cons pe_int (pa_cons pe_int pa_nil))))) pss_nil)
    (pss_cons (ps_if (pt_cmpR op_lt (pv 2) pe_int (nomark _)) (pss_cons (ps_set (i := 4) sc_law_spot.nd rfl (by first | exact Or.inl rfl | exact Or.inr rfl) (pe_callB (cr_sum rfl) (by rfl) T.z_sum (by decide +kernel) (pa_cons (pe_lc (own := [("_law_width", 5), ("_law_worth", 6)]) rfl sc_law_spot.nd (pi_any (pv 1)) (blkOk_by (N := n_law_spot) (sc := defScope (s_law_spot)) (by decide +kernel)) (fun _ _ _ _ _ => (pg_tl rfl (pgs_cons (pg_name (i := 5) sc_law_spot.nd rfl (by first | exact Or.inl rfl | exact Or.inr rfl)) (pgs_cons (pg_name (i := 6) sc_law_spot.nd rfl (by first | exact Or.inl rfl | exact Or.inr rfl)) pgs_nil)))) (fun _ _ _ _ _ => pts_nil) (fun _ _ _ _ _ => (pv 5))) pa_nil)))
    (pss_one (ps_ret (pe_callS (ok_law_low T) (hr.mono (by decide)) rfl T.g_law_low T.F_law_low.kp T.b_law_low (fun σ => passAt (takes_of rfl rfl rfl rfl) σ) (by exact (pa_cons (pe_callB (cr_sum rfl) (by rfl) T.z_sum (by decide +kernel) (pa_cons (pe_lc (own := [("_law_width", 5), ("_law_worth", 6)]) rfl sc_law_spot.nd (pi_any (pe_slice sl_any (pv 1) po_none (po_some (pv 3)))) (blkOk_by (N := n_law_spot) (sc := defScope (s_law_spot)) (by decide +kernel)) (fun _ _ _ _ _ => (pg_tl rfl (pgs_cons (pg_name (i := 5) sc_law_spot.nd rfl (by first | exact Or.inl rfl | exact Or.inr rfl)) (pgs_cons (pg_name (i := 6) sc_law_spot.nd rfl (by first | exact Or.inl rfl | exact Or.inr rfl)) pgs_nil)))) (fun _ _ _ _ _ => pts_nil) (fun _ _ _ _ _ => (pv 5))) pa_nil)) (pa_cons (pv 4) pa_nil))))))) pss_nil)
    (pss_one (ps_ret (pe_callS (ok_law_place T) hr rfl T.g_law_place T.F_law_place.kp T.b_law_place (fun σ => passAt (takes_of rfl rfl rfl rfl) σ) (by exact (pa_cons (pv 0) pa_nil)))))))))),
    (s_seq (s_setF (v_call (a_cons v_var (a_cons v_int a_nil))))
    (s_seq (s_setF (v_call (a_cons v_var (a_cons (v_op d_add (v_cb c_len (a_cons v_var a_nil)) v_int) a_nil))))
    (s_seq (s_if (t_test (v_op d_eq v_var v_int)) (s_ret (v_tup (a_cons v_int (a_cons v_int a_nil)))) s_skip)
    (s_seq (s_if (t_test (v_op d_eq v_var v_int)) (s_ret (v_tup (a_cons v_int (a_cons v_int a_nil)))) s_skip)
    (s_seq (s_if (t_test (v_op d_lt v_var v_int)) (s_seq (s_setF (v_cb c_sum (a_cons (v_lc (vs := [5, 6]) (i_any v_var) (g_tl (gs_cons g_name (gs_cons g_name gs_nil))) (by decide) t_yes v_var) a_nil)))
    (s_ret (v_call (a_cons (v_cb c_sum (a_cons (v_lc (vs := [5, 6]) (i_any (v_sl d_sl v_var o_none (o_some v_var))) (g_tl (gs_cons g_name (gs_cons g_name gs_nil))) (by decide) t_yes v_var) a_nil)) (a_cons v_var a_nil))))) s_skip)
    (s_ret (v_call (a_cons v_var a_nil))))))))⟩
theorem ok_law_made (T : Txt K mg base A) : FnOk P w K mg base (L2.CX P w) 4 A.f_law_made A.d_law_made p_law_made (spF (GG K A) F_law_made) :=
  fn_ok (k := 3) rfl rfl T.F_law_made sc_law_made fun cdv Ar outer s H E hr => ⟨_,
    (pss_cons (ps_setLc (i := 1) (own := [("_law_width", 5), ("_law_worth", 6)]) rfl sc_law_made.nd rfl rfl (sw_true rfl rfl rfl (by decide +kernel)) (pi_any (pe_callS (ok_law_rows T) hr rfl T.g_law_rows T.F_law_rows.kp T.b_law_rows (fun σ => passAt (takes_of rfl rfl rfl rfl) σ) (by exact (pa_cons (pv 0) (pa_cons pe_int pa_nil))))) (blkOk_by (N := n_law_made) (sc := defScope (s_law_made)) (by decide +kernel)) (fun _ _ _ _ _ => (pg_tl rfl (pgs_cons (pg_name (i := 5) sc_law_made.nd rfl (by first | exact Or.inl rfl | exact Or.inr rfl)) (pgs_cons (pg_name (i := 6) sc_law_made.nd rfl (by first | exact Or.inl rfl | exact Or.inr rfl)) pgs_nil)))) (fun _ _ _ _ _ => pts_nil) (fun _ _ _ _ _ => (pe_tup (pa_cons (pe_op or_add (pe_op op_modN (pv 5) pe_int) pe_int) (pa_cons (pe_op op_modN (pv 6) pe_int) pa_nil)))))
    (pss_cons (ps_asg (pe_tup (pa_cons (pe_ix ix_seq (pe_ix ix_seq (pv 1) pe_int (fun _ _ => rfl)) pe_int (fun _ _ => rfl)) (pa_cons (pe_op or_add (pe_ix ix_seq (pe_ix ix_seq (pv 1) pe_int (fun _ _ => rfl)) pe_int (fun _ _ => rfl)) pe_int) pa_nil))) (pg_sub (pv 1) pe_int set_list))
    (pss_cons (ps_setLc (i := 2) (own := [("_law_width", 5), ("_law_worth", 6)]) rfl sc_law_made.nd rfl rfl (sw_true rfl rfl rfl (by decide +kernel)) (pi_any (pv 1)) (blkOk_by (N := n_law_made) (sc := defScope (s_law_made)) (by decide +kernel)) (fun _ _ _ _ _ => (pg_tl rfl (pgs_cons (pg_name (i := 5) sc_law_made.nd rfl (by first | exact Or.inl rfl | exact Or.inr rfl)) (pgs_cons (pg_name (i := 6) sc_law_made.nd rfl (by first | exact Or.inl rfl | exact Or.inr rfl)) pgs_nil)))) (fun _ _ _ _ _ => pts_nil) (fun _ _ _ _ _ => (pe_tup (pa_cons (pe_op or_mul pe_int (pv 5)) (pa_cons (pe_op or_mul pe_int (pv 6)) pa_nil)))))
    (pss_cons (ps_set (i := 3) sc_law_made.nd rfl (by first | exact Or.inl rfl | exact Or.inr rfl) (pe_lst pa_nil))
    (pss_cons (ps_for (passes_of rfl) rfl (pi_any (pv 1)) (pg_tl rfl (pgs_cons (pg_name (i := 5) sc_law_made.nd rfl (by first | exact Or.inl rfl | exact Or.inr rfl)) (pgs_cons (pg_name (i := 6) sc_law_made.nd rfl (by first | exact Or.inl rfl | exact Or.inr rfl)) pgs_nil))) (pss_one (ps_set (i := 3) sc_law_made.nd rfl (by first | exact Or.inl rfl | exact Or.inr rfl) (pe_op or_add (pv 3) (pe_lst (pa_cons (pe_tup (pa_cons (pv 5) (pa_cons (pv 6) pa_nil))) (pa_cons (pe_tup (pa_cons (pv 5) (pa_cons (pv 6) pa_nil))) pa_nil)))))))
    (pss_cons (ps_setLc (i := 4) (own := [("_law_width", 5), ("_law_worth", 6)]) rfl sc_law_made.nd rfl rfl (sw_true rfl rfl rfl (by decide +kernel)) (pi_any (pv 1)) (blkOk_by (N := n_law_made) (sc := defScope (s_law_made)) (by decide +kernel)) (fun _ _ _ _ _ => (pg_tl rfl (pgs_cons (pg_name (i := 5) sc_law_made.nd rfl (by first | exact Or.inl rfl | exact Or.inr rfl)) (pgs_cons (pg_name (i := 6) sc_law_made.nd rfl (by first | exact Or.inl rfl | exact Or.inr rfl)) pgs_nil)))) (fun _ _ _ _ _ => pts_nil) (fun _ _ _ _ _ => (pe_tup (pa_cons (pv 5) (pa_cons (pe_op or_mul pe_int (pv 6)) pa_nil)))))
    (pss_one (ps_ret (pe_tup (pa_cons (pv 2) (pa_cons (pv 3) (pa_cons (pv 4) pa_nil)))))))))))),
    (s_seq (s_set (v_lc (vs := [5, 6]) (i_any (v_call (a_cons v_var (a_cons v_int a_nil)))) (g_tl (gs_cons g_name (gs_cons g_name gs_nil))) (by decide) t_yes (v_tup (a_cons (v_op d_add (v_op d_mod v_var v_int) v_int) (a_cons (v_op d_mod v_var v_int) a_nil)))))
    (s_seq (s_setI (v_tup (a_cons (v_op d_ix (v_op d_ix v_var v_int) v_int) (a_cons (v_op d_add (v_op d_ix (v_op d_ix v_var v_int) v_int) v_int) a_nil))) v_int)
    (s_seq (s_setF (v_lcE (vs := [5, 6]) (i_own (i := 1) (by decide)) (g_tl (gs_cons g_name (gs_cons g_name gs_nil))) (by decide) t_yes (v_tup (a_cons (v_op d_mul v_int v_var) (a_cons (v_op d_mul v_int v_var) a_nil)))))
    (s_seq (s_setF (v_lst a_nil))
    (s_frz (s_seq (s_for (i_any v_var) (g_tl (gs_cons g_name (gs_cons g_name gs_nil))) (s_setF (v_op d_add v_var (v_lst (a_cons (v_tup (a_cons v_var (a_cons v_var a_nil))) (a_cons (v_tup (a_cons v_var (a_cons v_var a_nil))) a_nil))))))
    (s_seq (s_setF (v_lcE (vs := [5, 6]) (i_own (i := 1) (by decide)) (g_tl (gs_cons g_name (gs_cons g_name gs_nil))) (by decide) t_yes (v_tup (a_cons v_var (a_cons (v_op d_mul v_int v_var) a_nil)))))
    (s_ret (v_tup (a_cons v_var (a_cons v_var (a_cons v_var a_nil))))))))))))⟩
theorem ok_Table_worth (T : Txt K mg base A) : FnOk P w K mg base (L2.CX P w) 5 A.f_Table_worth A.d_Table_worth p_Table_worth (spF (GG K A) F_Table_worth) :=
  fn_okD (k := 4) rfl rfl T.F_Table_worth sc_Table_worth fun cdv Ar outer s H E hr => ⟨_,
    (pss_cons (ps_set (i := 1) sc_Table_worth.nd rfl (by first | exact Or.inl rfl | exact Or.inr rfl) (pe_ifExp (pt_cmpR op_isN (pv 1) pe_non (nomark _)) (pe_glob (v := .ref A.a_FIRST) rfl T.m_FIRST rfl) (pv 1)))
    (pss_cons (ps_set (i := 2) sc_Table_worth.nd rfl (by first | exact Or.inl rfl | exact Or.inr rfl) (pe_ifExp (pt_cmpR op_isN (pv 2) pe_non (nomark _)) (pe_glob (v := .ref A.a_LAST) rfl T.m_LAST rfl) (pv 2)))
    (pss_cons (ps_expr (pe_callS (ok_ask_span T) (hr.mono (by decide)) rfl T.g_ask_span T.F_ask_span.kp T.b_ask_span (fun σ => passAt (takes_of rfl rfl rfl rfl) σ) (by exact (pa_cons (pv 1) (pa_cons (pv 2) pa_nil)))))
    (pss_cons (ps_set (i := 3) sc_Table_worth.nd rfl (by first | exact Or.inl rfl | exact Or.inr rfl) (pe_tup (pa_cons pe_int (pa_cons pe_int pa_nil))))
    (pss_cons (ps_for (passes_of rfl) rfl (pi_any (by exact (pe_mN (pv 0) T.cl_Table T.mt_Table_between (ok_Table_between T) hr T.B_Table_between_3_ (fun σ => passAt (takes_of rfl rfl rfl rfl) σ) (by exact (pa_cons (pv 1) (pa_cons (pv 2) pa_nil)))))) (pg_tl rfl (pgs_cons (pg_name (i := 4) sc_Table_worth.nd rfl (by first | exact Or.inl rfl | exact Or.inr rfl)) (pgs_cons (pg_name (i := 5) sc_Table_worth.nd rfl (by first | exact Or.inl rfl | exact Or.inr rfl)) (pgs_cons (pg_name (i := 6) sc_Table_worth.nd rfl (by first | exact Or.inl rfl | exact Or.inr rfl)) pgs_nil)))) (pss_one (ps_set (i := 3) sc_Table_worth.nd rfl (by first | exact Or.inl rfl | exact Or.inr rfl) (pe_callS (ok_plus T) (hr.mono (by decide)) rfl T.g_plus T.F_plus.kp T.b_plus (fun σ => passAt (takes_of rfl rfl rfl rfl) σ) (by exact (pa_cons (pv 3) (pa_cons (pv 6) pa_nil)))))))
    (pss_one (ps_ret (pv 3)))))))),
    (s_seq (s_setF (v_if (t_test (v_op d_isN v_var v_non)) (v_const T.i_FIRST) v_var))
    (s_seq (s_setF (v_if (t_test (v_op d_isN v_var v_non)) (v_const T.i_LAST) v_var))
    (s_seq (s_drop (v_call (a_cons v_var (a_cons v_var a_nil))))
    (s_seq (s_setF (v_tup (a_cons v_int (a_cons v_int a_nil))))
    (s_seq (s_for (i_any (v_meth (c := 5) (m := "between") (dd := []) nf_Table_between rfl v_var (a_cons v_var (a_cons v_var a_nil)) a_nil)) (g_tl (gs_cons g_name (gs_cons g_name (gs_cons g_name gs_nil)))) (s_setF (v_call (a_cons v_var (a_cons v_var a_nil)))))
    s_retV)))))⟩
theorem ok_Table_cut (T : Txt K mg base A) : FnOk P w K mg base (L2.CX P w) 5 A.f_Table_cut A.d_Table_cut p_Table_cut (spF (GG K A) F_Table_cut) :=
  fn_okD (k := 4) rfl rfl T.F_Table_cut sc_Table_cut fun cdv Ar outer s H E hr => ⟨_,
    (pss_cons (ps_set (i := 3) sc_Table_cut.nd rfl (by first | exact Or.inl rfl | exact Or.inr rfl) (pe_ifExp (pt_cmpR op_isN (pv 3) pe_non (nomark _)) (pe_glob (v := .ref A.a_LAST) rfl T.m_LAST rfl) (pv 3)))
    (pss_cons (ps_expr (pe_callS (ok_ask_span T) (hr.mono (by decide)) rfl T.g_ask_span T.F_ask_span.kp T.b_ask_span (fun σ => passAt (takes_of rfl rfl rfl rfl) σ) (by exact (pa_cons (pv 1) (pa_cons (pv 3) pa_nil)))))
    (pss_cons (ps_if (pt_val (pe_callS (ok_is_less T) (hr.mono (by decide)) rfl T.g_is_less T.F_is_less.kp T.b_is_less (fun σ => passAt (takes_of rfl rfl rfl rfl) σ) (by exact (pa_cons (pv 2) (pa_cons (pe_tup (pa_cons pe_int (pa_cons pe_int pa_nil))) pa_nil))))) (pss_one (ps_raise rfl (takes_of rfl rfl rfl rfl) (pmk_own PySem.F.excBase_ValueError T.x_NoWorth T.g_NoWorth T.k_NoWorth (raises_own T.sb_NoWorth T.t_NoWorth) rfl))) pss_nil)
    (pss_cons (ps_if (pt_cmpR (or_eq hr.units) (pe_ix ix_seq (pv 2) pe_int (fun _ _ => rfl)) pe_int (nomark _)) (pss_one (ps_ret (pv 1))) pss_nil)
    (pss_cons (ps_for (passes_of rfl) rfl (pi_any (by exact (pe_mN (pv 0) T.cl_Table T.mt_Table_between (ok_Table_between T) hr T.B_Table_between_3_ (fun σ => passAt (takes_of rfl rfl rfl rfl) σ) (by exact (pa_cons (pv 1) (pa_cons (pv 3) pa_nil)))))) (pg_tl rfl (pgs_cons (pg_name (i := 4) sc_Table_cut.nd rfl (by first | exact Or.inl rfl | exact Or.inr rfl)) (pgs_cons (pg_name (i := 5) sc_Table_cut.nd rfl (by first | exact Or.inl rfl | exact Or.inr rfl)) (pgs_cons (pg_name (i := 6) sc_Table_cut.nd rfl (by first | exact Or.inl rfl | exact Or.inr rfl)) pgs_nil)))) (pss_cons (ps_if (pt_not (pt_val (pe_callS (ok_is_less T) (hr.mono (by decide)) rfl T.g_is_less T.F_is_less.kp T.b_is_less (fun σ => passAt (takes_of rfl rfl rfl rfl) σ) (by exact (pa_cons (pv 6) (pa_cons (pv 2) pa_nil)))))) (pss_one (ps_ret (pe_callS (ok_plus T) (hr.mono (by decide)) rfl T.g_plus T.F_plus.kp T.b_plus (fun σ => passAt (takes_of rfl rfl rfl rfl) σ) (by exact (pa_cons (pv 4) (pa_cons (pe_callS (ok_times T) (hr.mono (by decide)) rfl T.g_times T.F_times.kp T.b_times (fun σ => passAt (takes_of rfl rfl rfl rfl) σ) (by exact (pa_cons (pe_callS (ok_over T) (hr.mono (by decide)) rfl T.g_over T.F_over.kp T.b_over (fun σ => passAt (takes_of rfl rfl rfl rfl) σ) (by exact (pa_cons (pv 2) (pa_cons (pv 6) pa_nil)))) (pa_cons (pe_callS (ok_minus T) (hr.mono (by decide)) rfl T.g_minus T.F_minus.kp T.b_minus (fun σ => passAt (takes_of rfl rfl rfl rfl) σ) (by exact (pa_cons (pv 5) (pa_cons (pv 4) pa_nil)))) pa_nil)))) pa_nil)))))) pss_nil)
    (pss_one (ps_set (i := 2) sc_Table_cut.nd rfl (by first | exact Or.inl rfl | exact Or.inr rfl) (pe_callS (ok_minus T) (hr.mono (by decide)) rfl T.g_minus T.F_minus.kp T.b_minus (fun σ => passAt (takes_of rfl rfl rfl rfl) σ) (by exact (pa_cons (pv 2) (pa_cons (pv 6) pa_nil))))))))
    (pss_one (ps_ret pe_non))))))),
    (s_seq (s_setF (v_if (t_test (v_op d_isN v_var v_non)) (v_const T.i_LAST) v_var))
    (s_seq (s_drop (v_call (a_cons v_var (a_cons v_var a_nil))))
    (s_seq (s_if (t_val (v_call (a_cons v_var (a_cons (v_tup (a_cons v_int (a_cons v_int a_nil))) a_nil)))) (s_raise rfl) s_skip)
    (s_seq (s_if (t_test (v_op d_eq (v_op d_ix v_var v_int) v_int)) s_retV s_skip)
    (s_seq (s_for (i_any (v_meth (c := 5) (m := "between") (dd := []) nf_Table_between rfl v_var (a_cons v_var (a_cons v_var a_nil)) a_nil)) (g_tl (gs_cons g_name (gs_cons g_name (gs_cons g_name gs_nil)))) (s_seq (s_if (t_not (t_val (v_call (a_cons v_var (a_cons v_var a_nil))))) (s_ret (v_call (a_cons v_var (a_cons (v_call (a_cons (v_call (a_cons v_var (a_cons v_var a_nil))) (a_cons (v_call (a_cons v_var (a_cons v_var a_nil))) a_nil))) a_nil)))) s_skip)
    (s_setF (v_call (a_cons v_var (a_cons v_var a_nil))))))
    (s_ret v_non))))))⟩
theorem ok_law_cuts_right (T : Txt K mg base A) : FnOk P w K mg base (L2.CX P w) 6 A.f_law_cuts_right A.d_law_cuts_right p_law_cuts_right (spF (GG K A) F_law_cuts_right) :=
  fn_ok (k := 5) rfl rfl T.F_law_cuts_right sc_law_cuts_right fun cdv Ar outer s H E hr => ⟨_,
    (pss_cons (ps_set (i := 5) sc_law_cuts_right.nd rfl (by first | exact Or.inl rfl | exact Or.inr rfl) (by exact (pe_mN (pv 0) T.cl_Table T.mt_Table_worth (ok_Table_worth T) hr T.B_Table_worth_3_ (fun σ => passAt (takes_of rfl rfl rfl rfl) σ) (by exact (pa_cons (pv 2) (pa_cons (pv 3) pa_nil))))))
    (pss_cons (ps_set (i := 6) sc_law_cuts_right.nd rfl (by first | exact Or.inl rfl | exact Or.inr rfl) (by exact (pe_mN (pv 0) T.cl_Table T.mt_Table_worth (ok_Table_worth T) hr T.B_Table_worth_3_ (fun σ => passAt (takes_of rfl rfl rfl rfl) σ) (by exact (pa_cons (pv 3) (pa_cons (pv 4) pa_nil))))))
    (pss_cons (ps_set (i := 7) sc_law_cuts_right.nd rfl (by first | exact Or.inl rfl | exact Or.inr rfl) (by exact (pe_mN (pv 0) T.cl_Table T.mt_Table_cut (ok_Table_cut T) hr T.B_Table_cut_4_ (fun σ => passAt (takes_of rfl rfl rfl rfl) σ) (by exact (pa_cons (pv 2) (pa_cons (pv 5) (pa_cons (pv 4) pa_nil)))))))
    (pss_cons (ps_if (PW.pt (pw_or (pt_cmpR op_isN (pv 7) pe_non (nomark _)) (pw_or (pt_val (pe_callS (ok_law_less T) (hr.mono (by decide)) rfl T.g_law_less T.F_law_less.kp T.b_law_less (fun σ => passAt (takes_of rfl rfl rfl rfl) σ) (by exact (pa_cons (pv 3) (pa_cons (pv 7) pa_nil))))) (pw_or1 (pt_cmpR (or_ne hr.units) (by exact (pe_mN (pv 0) T.cl_Table T.mt_Table_worth (ok_Table_worth T) hr T.B_Table_worth_3_ (fun σ => passAt (takes_of rfl rfl rfl rfl) σ) (by exact (pa_cons (pv 7) (pa_cons (pv 3) pa_nil))))) (pe_tup (pa_cons pe_int (pa_cons pe_int pa_nil))) (nomark _)))))) (pss_one (ps_ret pe_bl)) pss_nil)
    (pss_cons (ps_set (i := 8) sc_law_cuts_right.nd rfl (by first | exact Or.inl rfl | exact Or.inr rfl) (pe_callS (ok_law_plus T) (hr.mono (by decide)) rfl T.g_law_plus T.F_law_plus.kp T.b_law_plus (fun σ => passAt (takes_of rfl rfl rfl rfl) σ) (by exact (pa_cons (pv 5) (pa_cons (pv 6) pa_nil)))))
    (pss_cons (ps_set (i := 9) sc_law_cuts_right.nd rfl (by first | exact Or.inl rfl | exact Or.inr rfl) (by exact (pe_mN (pv 0) T.cl_Table T.mt_Table_cut (ok_Table_cut T) hr T.B_Table_cut_4_ (fun σ => passAt (takes_of rfl rfl rfl rfl) σ) (by exact (pa_cons (pv 2) (pa_cons (pv 8) (pa_cons (pv 4) pa_nil)))))))
    (pss_cons (ps_if (PW.pt (pw_or (pt_cmpR op_isN (pv 9) pe_non (nomark _)) (pw_or1 (PW.pt (pw_and (pt_cmpR op_gt (pe_ix ix_seq (pv 6) pe_int (fun _ _ => rfl)) pe_int (nomark _)) (pw_and1 (pt_cmpR (or_ne hr.units) (pv 9) (by exact (pe_mN (pv 0) T.cl_Table T.mt_Table_cut (ok_Table_cut T) hr T.B_Table_cut_4_ (fun σ => passAt (takes_of rfl rfl rfl rfl) σ) (by exact (pa_cons (pv 7) (pa_cons (pv 6) (pa_cons (pv 4) pa_nil)))))) (nomark _)))))))) (pss_one (ps_ret pe_bl)) pss_nil)
    (pss_cons (ps_for (passes_of rfl) rfl (pi_any (pv 1)) (pg_name (i := 10) sc_law_cuts_right.nd rfl (by first | exact Or.inl rfl | exact Or.inr rfl)) (pss_one (ps_if (PW.pt (pw_or (pt_cmpR (or_ne hr.units) (by exact (pe_mN (pv 10) T.cl_Table T.mt_Table_cut (ok_Table_cut T) hr T.B_Table_cut_4_ (fun σ => passAt (takes_of rfl rfl rfl rfl) σ) (by exact (pa_cons (pv 2) (pa_cons (pv 5) (pa_cons (pv 4) pa_nil)))))) (pv 7) (nomark _)) (pw_or1 (pt_cmpR (or_ne hr.units) (by exact (pe_mN (pv 10) T.cl_Table T.mt_Table_cut (ok_Table_cut T) hr T.B_Table_cut_3_ (fun σ => passAt (takes_of rfl rfl rfl rfl) σ) (by exact (pa_cons (pv 2) (pa_cons (pv 8) pa_nil))))) (by exact (pe_mN (pv 0) T.cl_Table T.mt_Table_cut (ok_Table_cut T) hr T.B_Table_cut_3_ (fun σ => passAt (takes_of rfl rfl rfl rfl) σ) (by exact (pa_cons (pv 2) (pa_cons (pv 8) pa_nil))))) (nomark _))))) (pss_one (ps_ret pe_bl)) pss_nil)))
    (pss_one (ps_ret (pe_cmpR op_isN (by exact (pe_mN (pv 0) T.cl_Table T.mt_Table_cut (ok_Table_cut T) hr T.B_Table_cut_4_ (fun σ => passAt (takes_of rfl rfl rfl rfl) σ) (by exact (pa_cons (pv 2) (pa_cons (pe_callS (ok_law_plus T) (hr.mono (by decide)) rfl T.g_law_plus T.F_law_plus.kp T.b_law_plus (fun σ => passAt (takes_of rfl rfl rfl rfl) σ) (by exact (pa_cons (pv 8) (pa_cons (pe_tup (pa_cons pe_int (pa_cons pe_int pa_nil))) pa_nil)))) (pa_cons (pv 4) pa_nil)))))) pe_non (nomark _)))))))))))),
    (s_seq (s_setF (v_meth (c := 5) (m := "worth") (dd := [.non, .non]) nf_Table_worth rfl v_var (a_cons v_var (a_cons v_var a_nil)) a_nil))
    (s_seq (s_setF (v_meth (c := 5) (m := "worth") (dd := [.non, .non]) nf_Table_worth rfl v_var (a_cons v_var (a_cons v_var a_nil)) a_nil))
    (s_seq (s_setF (v_meth (c := 5) (m := "cut") (dd := [.non]) nf_Table_cut rfl v_var (a_cons v_var (a_cons v_var (a_cons v_var a_nil))) a_nil))
    (s_seq (s_if (t_or (t_test (v_op d_isN v_var v_non)) (t_or (t_val (v_call (a_cons v_var (a_cons v_var a_nil)))) (t_test (v_op d_ne (v_meth (c := 5) (m := "worth") (dd := [.non, .non]) nf_Table_worth rfl v_var (a_cons v_var (a_cons v_var a_nil)) a_nil) (v_tup (a_cons v_int (a_cons v_int a_nil))))))) (s_ret v_bl) s_skip)
    (s_seq (s_setF (v_call (a_cons v_var (a_cons v_var a_nil))))
    (s_seq (s_setF (v_meth (c := 5) (m := "cut") (dd := [.non]) nf_Table_cut rfl v_var (a_cons v_var (a_cons v_var (a_cons v_var a_nil))) a_nil))
    (s_seq (s_if (t_or (t_test (v_op d_isN v_var v_non)) (t_and (t_test (v_op d_gt (v_op d_ix v_var v_int) v_int)) (t_test (v_op d_ne v_var (v_meth (c := 5) (m := "cut") (dd := [.non]) nf_Table_cut rfl v_var (a_cons v_var (a_cons v_var (a_cons v_var a_nil))) a_nil))))) (s_ret v_bl) s_skip)
    (s_seq (s_for (i_any v_var) g_name (s_if (t_or (t_test (v_op d_ne (v_meth (c := 5) (m := "cut") (dd := [.non]) nf_Table_cut rfl v_var (a_cons v_var (a_cons v_var (a_cons v_var a_nil))) a_nil) v_var)) (t_test (v_op d_ne (v_meth (c := 5) (m := "cut") (dd := [.non]) nf_Table_cut rfl v_var (a_cons v_var (a_cons v_var a_nil)) a_nil) (v_meth (c := 5) (m := "cut") (dd := [.non]) nf_Table_cut rfl v_var (a_cons v_var (a_cons v_var a_nil)) a_nil)))) (s_ret v_bl) s_skip))
    (s_ret (v_op d_isN (v_meth (c := 5) (m := "cut") (dd := [.non]) nf_Table_cut rfl v_var (a_cons v_var (a_cons (v_call (a_cons v_var (a_cons (v_tup (a_cons v_int (a_cons v_int a_nil))) a_nil))) (a_cons v_var a_nil))) a_nil) v_non))))))))))⟩
theorem ok_law (T : Txt K mg base A) : FnOk P w K mg base (L2.CX P w) 7 A.f_law A.d_law p_law (spF (GG K A) F_law) :=
  fn_ok (k := 6) rfl rfl T.F_law sc_law fun cdv Ar outer s H E hr => ⟨_,
    (pss_cons (ps_set (i := 1) sc_law.nd rfl (by first | exact Or.inl rfl | exact Or.inr rfl) (pe_callS (ok_law_box T) (hr.mono (by decide)) rfl T.g_law_box T.F_law_box.kp T.b_law_box (fun σ => passAt (takes_of rfl rfl rfl rfl) σ) (by exact (pa_cons (pv 0) pa_nil))))
    (pss_cons (ps_asg (pe_callS (ok_law_made T) (hr.mono (by decide)) rfl T.g_law_made T.F_law_made.kp T.b_law_made (fun σ => passAt (takes_of rfl rfl rfl rfl) σ) (by exact (pa_cons (pv 1) pa_nil))) (pg_tl rfl (pgs_cons (pg_name (i := 9) sc_law.nd rfl (by first | exact Or.inl rfl | exact Or.inr rfl)) (pgs_cons (pg_name (i := 10) sc_law.nd rfl (by first | exact Or.inl rfl | exact Or.inr rfl)) (pgs_cons (pg_name (i := 11) sc_law.nd rfl (by first | exact Or.inl rfl | exact Or.inr rfl)) pgs_nil)))))
    (pss_cons (ps_asg (pe_lst (pa_cons (pe_callS (ok_law_spot T) (hr.mono (by decide)) rfl T.g_law_spot T.F_law_spot.kp T.b_law_spot (fun σ => passAt (takes_of rfl rfl rfl rfl) σ) (by exact (pa_cons (pv 1) (pa_cons (pv 9) pa_nil)))) (pa_cons (pe_callS (ok_law_spot T) (hr.mono (by decide)) rfl T.g_law_spot T.F_law_spot.kp T.b_law_spot (fun σ => passAt (takes_of rfl rfl rfl rfl) σ) (by exact (pa_cons (pv 1) (pa_cons (pv 9) pa_nil)))) (pa_cons (pe_callS (ok_law_spot T) (hr.mono (by decide)) rfl T.g_law_spot T.F_law_spot.kp T.b_law_spot (fun σ => passAt (takes_of rfl rfl rfl rfl) σ) (by exact (pa_cons (pv 1) (pa_cons (pv 9) pa_nil)))) pa_nil)))) (pg_tl rfl (pgs_cons (pg_name (i := 12) sc_law.nd rfl (by first | exact Or.inl rfl | exact Or.inr rfl)) (pgs_cons (pg_name (i := 13) sc_law.nd rfl (by first | exact Or.inl rfl | exact Or.inr rfl)) (pgs_cons (pg_name (i := 14) sc_law.nd rfl (by first | exact Or.inl rfl | exact Or.inr rfl)) pgs_nil)))))
    (pss_cons (ps_if (pt_val (pe_callS (ok_law_less T) (hr.mono (by decide)) rfl T.g_law_less T.F_law_less.kp T.b_law_less (fun σ => passAt (takes_of rfl rfl rfl rfl) σ) (by exact (pa_cons (pv 14) (pa_cons (pv 12) pa_nil))))) (pss_one (ps_asg (pe_tup (pa_cons (pv 14) (pa_cons (pv 12) pa_nil))) (pg_tl rfl (pgs_cons (pg_name (i := 12) sc_law.nd rfl (by first | exact Or.inl rfl | exact Or.inr rfl)) (pgs_cons (pg_name (i := 14) sc_law.nd rfl (by first | exact Or.inl rfl | exact Or.inr rfl)) pgs_nil))))) pss_nil)
    (pss_cons (ps_if (pt_val (pe_callS (ok_law_less T) (hr.mono (by decide)) rfl T.g_law_less T.F_law_less.kp T.b_law_less (fun σ => passAt (takes_of rfl rfl rfl rfl) σ) (by exact (pa_cons (pv 13) (pa_cons (pv 12) pa_nil))))) (pss_one (ps_asg (pe_tup (pa_cons (pv 13) (pa_cons (pv 12) pa_nil))) (pg_tl rfl (pgs_cons (pg_name (i := 12) sc_law.nd rfl (by first | exact Or.inl rfl | exact Or.inr rfl)) (pgs_cons (pg_name (i := 13) sc_law.nd rfl (by first | exact Or.inl rfl | exact Or.inr rfl)) pgs_nil))))) pss_nil)
    (pss_cons (ps_if (pt_val (pe_callS (ok_law_less T) (hr.mono (by decide)) rfl T.g_law_less T.F_law_less.kp T.b_law_less (fun σ => passAt (takes_of rfl rfl rfl rfl) σ) (by exact (pa_cons (pv 14) (pa_cons (pv 13) pa_nil))))) (pss_one (ps_asg (pe_tup (pa_cons (pv 14) (pa_cons (pv 13) pa_nil))) (pg_tl rfl (pgs_cons (pg_name (i := 13) sc_law.nd rfl (by first | exact Or.inl rfl | exact Or.inr rfl)) (pgs_cons (pg_name (i := 14) sc_law.nd rfl (by first | exact Or.inl rfl | exact Or.inr rfl)) pgs_nil))))) pss_nil)
    (pss_cons (ps_set (i := 2) sc_law.nd rfl (by first | exact Or.inl rfl | exact Or.inr rfl) (by exact (pe_kN T.mk_Table (ok_Table___init__ T) (hr.mono (by decide)) rfl T.g_Table T.B_Table___init___2_ (fun σ => passAt (takes_of rfl rfl rfl rfl) σ) (by exact (pa_cons (pv 9) pa_nil)))))
    (pss_cons (ps_set (i := 3) sc_law.nd rfl (by first | exact Or.inl rfl | exact Or.inr rfl) (pe_lst (pa_cons (by exact (pe_kN T.mk_Table (ok_Table___init__ T) (hr.mono (by decide)) rfl T.g_Table T.B_Table___init___2_ (fun σ => passAt (takes_of rfl rfl rfl rfl) σ) (by exact (pa_cons (pv 10) pa_nil)))) (pa_cons (by exact (pe_kN T.mk_Table (ok_Table___init__ T) (hr.mono (by decide)) rfl T.g_Table T.B_Table___init___2_ (fun σ => passAt (takes_of rfl rfl rfl rfl) σ) (by exact (pa_cons (pv 11) pa_nil)))) pa_nil))))
    (pss_cons (ps_set (i := 4) sc_law.nd rfl (by first | exact Or.inl rfl | exact Or.inr rfl) (by exact (pe_kN T.mk_Table (ok_Table___init__ T) (hr.mono (by decide)) rfl T.g_Table T.B_Table___init___2_ (fun σ => passAt (takes_of rfl rfl rfl rfl) σ) (by exact (pa_cons (pe_revL (pv 9)) pa_nil)))))
    (pss_cons (ps_set (i := 5) sc_law.nd rfl (by first | exact Or.inl rfl | exact Or.inr rfl) (by exact (pe_mN (pv 2) T.cl_Table T.mt_Table_worth (ok_Table_worth T) (hr.mono (by decide)) T.B_Table_worth_3_ (fun σ => passAt (takes_of rfl rfl rfl rfl) σ) (by exact (pa_cons (pv 12) (pa_cons (pv 14) pa_nil))))))
    (pss_cons (ps_if (pt_not (pt_val (pe_callB (cr_all rfl) (by rfl) T.z_all (by decide +kernel) (pa_cons (pe_lc (own := [("_law_other", 15)]) rfl sc_law.nd (pi_any (pv 3)) (blkOk_by (N := n_law) (sc := defScope (s_law)) (by decide +kernel)) (fun _ _ _ _ _ => (pg_name (i := 15) sc_law.nd rfl (by first | exact Or.inl rfl | exact Or.inr rfl))) (fun _ _ _ _ _ => pts_nil) (fun _ _ _ _ _ => (pe_cmpR (or_eq hr.units) (by exact (pe_mN (pv 15) T.cl_Table T.mt_Table_worth (ok_Table_worth T) (hr.mono (by decide)) T.B_Table_worth_3_ (fun σ => passAt takes0 σ) (by exact (pa_cons (pv 12) (pa_cons (pv 14) pa_nil))))) (pv 5) (nomark _)))) pa_nil)))) (pss_one (ps_ret pe_bl)) pss_nil)
    (pss_cons (ps_if (PW.pt (pw_or (pt_cmpR (or_ne hr.units) (by exact (pe_mN (pv 4) T.cl_Table T.mt_Table_worth (ok_Table_worth T) (hr.mono (by decide)) T.B_Table_worth_3_ (fun σ => passAt (takes_of rfl rfl rfl rfl) σ) (by exact (pa_cons (pe_callS (ok_law_turned T) (hr.mono (by decide)) rfl T.g_law_turned T.F_law_turned.kp T.b_law_turned (fun σ => passAt (takes_of rfl rfl rfl rfl) σ) (by exact (pa_cons (pv 14) pa_nil))) (pa_cons (pe_callS (ok_law_turned T) (hr.mono (by decide)) rfl T.g_law_turned T.F_law_turned.kp T.b_law_turned (fun σ => passAt (takes_of rfl rfl rfl rfl) σ) (by exact (pa_cons (pv 12) pa_nil))) pa_nil))))) (pv 5) (nomark _)) (pw_or (pt_cmpR (opOr (or_in (unit65 hr)) (op_inO (G := GG K A) (k := 1) (Os := [(5, F_Table___eq__)]) rfl (List.forall_mem_cons.mpr ⟨⟨⟨_, _, _, T.mt_Table___eq__, (ok_Table___eq__ T).mono (by decide), T.b_Table___eq__, rfl⟩⟩, (fun _ h => nomatch h)⟩) (hr.mono (by decide)))) (pv 2) (pv 3) (by with_unfolding_all rfl)) (pw_or1 (pt_cmpR (opOr (or_eq hr.units) (op_eqO (G := GG K A) (k := 1) (Os := [(5, F_Table___eq__)]) rfl (List.forall_mem_cons.mpr ⟨⟨⟨_, _, _, T.mt_Table___eq__, (ok_Table___eq__ T).mono (by decide), T.b_Table___eq__, rfl⟩⟩, (fun _ h => nomatch h)⟩) (hr.mono (by decide)))) (pe_ix ix_seq (pv 3) pe_int (fun _ _ => rfl)) (pe_ix ix_seq (pv 3) pe_int (fun _ _ => rfl)) (nomark _)))))) (pss_one (ps_ret pe_bl)) pss_nil)
    (pss_cons (ps_set (i := 6) sc_law.nd rfl (by first | exact Or.inl rfl | exact Or.inr rfl) (by exact (pe_m0 (pv 2) T.cl_Table T.mt_Table_ends (ok_Table_ends T) (hr.mono (by decide)) T.B_Table_ends_1_ (fun σ => passAt (takes_of rfl rfl rfl rfl) σ))))
    (pss_cons (ps_if (PW.pt (pw_or (pt_not (pt_val (pe_callB (cr_all rfl) (by rfl) T.z_all (by decide +kernel) (pa_cons (pe_lc (own := [("_law_end", 16)]) rfl sc_law.nd (pi_any (pv 6)) (blkOk_by (N := n_law) (sc := defScope (s_law)) (by decide +kernel)) (fun _ _ _ _ _ => (pg_name (i := 16) sc_law.nd rfl (by first | exact Or.inl rfl | exact Or.inr rfl))) (fun _ _ _ _ _ => pts_nil) (fun _ _ _ _ _ => (pe_cmpR (or_in (unit65 hr)) (pv 16) (by exact (pe_m0 (pe_ix ix_seq (pv 3) pe_int (fun _ _ => rfl)) T.cl_Table T.mt_Table_ends (ok_Table_ends T) (hr.mono (by decide)) T.B_Table_ends_1_ (fun σ => passAt takes0 σ))) (by with_unfolding_all rfl)))) pa_nil)))) (pw_or1 (pt_cmpR (or_ne hr.units) (by exact (pe_m0 (pe_ix ix_seq (pv 3) pe_int (fun _ _ => rfl)) T.cl_Table T.mt_Table_ends (ok_Table_ends T) (hr.mono (by decide)) T.B_Table_ends_1_ (fun σ => passAt (takes_of rfl rfl rfl rfl) σ))) (pv 6) (nomark _))))) (pss_one (ps_ret pe_bl)) pss_nil)
    (pss_cons (ps_set (i := 7) sc_law.nd rfl (by first | exact Or.inl rfl | exact Or.inr rfl) (pe_tup (pa_cons pe_int (pa_cons pe_int pa_nil))))
    (pss_cons (ps_for (passes_of rfl) rfl (pi_range1 (by rfl) T.z_range (pa_cons (pe_op op_sub (pe_callB call_len (by rfl) T.z_len (by decide +kernel) (pa_cons (pv 6) pa_nil)) pe_int) pa_nil)) (pg_name (i := 8) sc_law.nd rfl (by first | exact Or.inl rfl | exact Or.inr rfl)) (pss_one (ps_set (i := 7) sc_law.nd rfl (by first | exact Or.inl rfl | exact Or.inr rfl) (pe_callS (ok_law_plus T) (hr.mono (by decide)) rfl T.g_law_plus T.F_law_plus.kp T.b_law_plus (fun σ => passAt (takes_of rfl rfl rfl rfl) σ) (by exact (pa_cons (pv 7) (pa_cons (by exact (pe_mN (pv 2) T.cl_Table T.mt_Table_worth (ok_Table_worth T) (hr.mono (by decide)) T.B_Table_worth_3_ (fun σ => passAt (takes_of rfl rfl rfl rfl) σ) (by exact (pa_cons (pe_ix ix_seq (pv 6) (pv 8) (fun _ _ => rfl)) (pa_cons (pe_ix ix_seq (pv 6) (pe_op or_add (pv 8) pe_int) (fun _ _ => rfl)) pa_nil))))) pa_nil)))))))
    (pss_cons (ps_if (PW.pt (pw_or (pt_cmpR (or_ne hr.units) (pv 7) (pe_tup (pa_cons (by exact (pe_m0 (pv 2) T.cl_Table T.mt_Table_total (ok_Table_total T) (hr.mono (by decide)) T.B_Table_total_1_ (fun σ => passAt (takes_of rfl rfl rfl rfl) σ))) (pa_cons pe_int pa_nil))) (nomark _)) (pw_or1 (pt_cmpR (or_ne hr.units) (pe_callB (CallR.or call_len (call_lenO (G := GG K A) (k := 1) (Os := [(5, F_Table___len__)]) (List.forall_mem_cons.mpr ⟨⟨⟨_, _, _, T.mt_Table___len__, (ok_Table___len__ T).mono (by decide), T.b_Table___len__, rfl⟩⟩, (fun _ h => nomatch h)⟩) (hr.mono (by decide)))) (by rfl) T.z_len (by decide +kernel) (pa_cons (pe_ix ix_seq (pv 3) pe_int (fun _ _ => rfl)) pa_nil)) (pe_op or_mul pe_int (pe_callB (CallR.or call_len (call_lenO (G := GG K A) (k := 1) (Os := [(5, F_Table___len__)]) (List.forall_mem_cons.mpr ⟨⟨⟨_, _, _, T.mt_Table___len__, (ok_Table___len__ T).mono (by decide), T.b_Table___len__, rfl⟩⟩, (fun _ h => nomatch h)⟩) (hr.mono (by decide)))) (by rfl) T.z_len (by decide +kernel) (pa_cons (pv 2) pa_nil))) (nomark _))))) (pss_one (ps_ret pe_bl)) pss_nil)
    (pss_one (ps_ret (pe_callS (ok_law_cuts_right T) hr rfl T.g_law_cuts_right T.F_law_cuts_right.kp T.b_law_cuts_right (fun σ => passAt (takes_of rfl rfl rfl rfl) σ) (by exact (pa_cons (pv 2) (pa_cons (pv 3) (pa_cons (pv 12) (pa_cons (pv 13) (pa_cons (pv 14) pa_nil)))))))))))))))))))))))))),
    (s_seq (s_setF (v_call (a_cons v_var a_nil)))
    (s_seq (s_asg (v_call (a_cons v_var a_nil)) (g_tl (gs_cons g_name (gs_cons g_name (gs_cons g_name gs_nil)))))
    (s_seq (s_asg (v_lst (a_cons (v_call (a_cons v_var (a_cons v_var a_nil))) (a_cons (v_call (a_cons v_var (a_cons v_var a_nil))) (a_cons (v_call (a_cons v_var (a_cons v_var a_nil))) a_nil)))) (g_tl (gs_cons g_name (gs_cons g_name (gs_cons g_name gs_nil)))))
    (s_seq (s_if (t_val (v_call (a_cons v_var (a_cons v_var a_nil)))) (s_asg (v_tup (a_cons v_var (a_cons v_var a_nil))) (g_tl (gs_cons g_name (gs_cons g_name gs_nil)))) s_skip)
    (s_seq (s_if (t_val (v_call (a_cons v_var (a_cons v_var a_nil)))) (s_asg (v_tup (a_cons v_var (a_cons v_var a_nil))) (g_tl (gs_cons g_name (gs_cons g_name gs_nil)))) s_skip)
    (s_seq (s_if (t_val (v_call (a_cons v_var (a_cons v_var a_nil)))) (s_asg (v_tup (a_cons v_var (a_cons v_var a_nil))) (g_tl (gs_cons g_name (gs_cons g_name gs_nil)))) s_skip)
    (s_seq (s_setF (v_make (c := 5) (dd := []) rfl (a_cons v_var a_nil) a_nil))
    (s_seq (s_setF (v_lst (a_cons (v_make (c := 5) (dd := []) rfl (a_cons v_var a_nil) a_nil) (a_cons (v_make (c := 5) (dd := []) rfl (a_cons v_var a_nil) a_nil) a_nil))))
    (s_seq (s_setF (v_make (c := 5) (dd := []) rfl (a_cons (v_rev v_var) a_nil) a_nil))
    (s_seq (s_setF (v_meth (c := 5) (m := "worth") (dd := [.non, .non]) nf_Table_worth rfl v_var (a_cons v_var (a_cons v_var a_nil)) a_nil))
    (s_seq (s_if (t_not (t_val (v_cb c_all (a_cons (v_lc (vs := [15]) (js := [15]) (i_any v_var) g_name (by decide) t_yes (v_op d_eq (v_meth (c := 5) (m := "worth") (dd := [.non, .non]) nf_Table_worth rfl v_var (a_cons v_var (a_cons v_var a_nil)) a_nil) v_var)) a_nil)))) (s_ret v_bl) s_skip)
    (s_seq (s_if (t_or (t_test (v_op d_ne (v_meth (c := 5) (m := "worth") (dd := [.non, .non]) nf_Table_worth rfl v_var (a_cons (v_call (a_cons v_var a_nil)) (a_cons (v_call (a_cons v_var a_nil)) a_nil)) a_nil) v_var)) (t_or (t_test (v_inO d_in T.eqok T.inok v_var v_var)) (t_test (v_eqO d_eq T.eqok (v_op d_ix v_var v_int) (v_op d_ix v_var v_int))))) (s_ret v_bl) s_skip)
    (s_seq (s_setF (v_meth (c := 5) (m := "ends") (dd := []) nf_Table_ends rfl v_var a_nil a_nil))
    (s_seq (s_if (t_or (t_not (t_val (v_cb c_all (a_cons (v_lc (vs := [16]) (js := [16]) (i_any v_var) g_name (by decide) t_yes (v_op d_in v_var (v_meth (c := 5) (m := "ends") (dd := []) nf_Table_ends rfl (v_op d_ix v_var v_int) a_nil a_nil))) a_nil)))) (t_test (v_op d_ne (v_meth (c := 5) (m := "ends") (dd := []) nf_Table_ends rfl (v_op d_ix v_var v_int) a_nil a_nil) v_var))) (s_ret v_bl) s_skip)
    (s_seq (s_setF (v_tup (a_cons v_int (a_cons v_int a_nil))))
    (s_seq (s_for (i_range1 (a_cons (v_op d_sub (v_cb c_len (a_cons v_var a_nil)) v_int) a_nil)) g_name (s_setF (v_call (a_cons v_var (a_cons (v_meth (c := 5) (m := "worth") (dd := [.non, .non]) nf_Table_worth rfl v_var (a_cons (v_op d_ix v_var v_var) (a_cons (v_op d_ix v_var (v_op d_add v_var v_int)) a_nil)) a_nil) a_nil)))))
    (s_seq (s_if (t_or (t_test (v_op d_ne v_var (v_tup (a_cons (v_meth (c := 5) (m := "total") (dd := []) nf_Table_total rfl v_var a_nil a_nil) (a_cons v_int a_nil))))) (t_test (v_op d_ne (v_lenX (v_op d_ix v_var v_int)) (v_op d_mul v_int (v_lenX v_var))))) (s_ret v_bl) s_skip)
    (s_ret (v_call (a_cons v_var (a_cons v_var (a_cons v_var (a_cons v_var (a_cons v_var a_nil))))))))))))))))))))))))⟩
end
end Dn
namespace Dn
open PySem PySem.Spec PyProof.Rows L2
def fx0 (K : PySem.W.Frag) : Bool := He.eqO (PySem.W.nsIn K mainGlobals "NoFraction") (some (some (.ref (He.ga K "NoFraction")))) && (He.eqO (PySem.W.nsIn K mainGlobals "NoTable") (some (some (.ref (He.ga K "NoTable")))) && (He.eqO (PySem.W.nsIn K mainGlobals "NoSpan") (some (some (.ref (He.ga K "NoSpan")))) && (He.eqO (PySem.W.nsIn K mainGlobals "NoWorth") (some (some (.ref (He.ga K "NoWorth")))) && (He.eqO (PySem.W.nsIn K mainGlobals "Table") (some (some (.ref (He.ga K "Table")))) && (He.eqO (PySem.W.nsIn K mainGlobals "divisor") (some (some (.ref (He.fAd K ("divisor", none))))) && (He.eqO (PySem.W.nsIn K mainGlobals "is_less") (some (some (.ref (He.fAd K ("is_less", none))))) && (He.eqO (PySem.W.nsIn K mainGlobals "is_stretch") (some (some (.ref (He.fAd K ("is_stretch", none))))) && (He.eqO (PySem.W.findIn K (.ref (He.ga K "Table")) "total") (some (some (.ref (He.fAd K ("Table", some "total"))))) && (He.eqO (PySem.W.findIn K (.ref (He.ga K "Table")) "ends") (some (some (.ref (He.fAd K ("Table", some "ends"))))) && (He.eqO (PySem.W.findIn K (.ref (He.ga K "Table")) "__len__") (some (some (.ref (He.fAd K ("Table", some "__len__"))))) && (He.eqO (PySem.W.findIn K (.ref (He.ga K "Table")) "__eq__") (some (some (.ref (He.fAd K ("Table", some "__eq__"))))) && (He.eqO (PySem.W.nsIn K mainGlobals "_law_box") (some (some (.ref (He.fAd K ("_law_box", none))))) && (He.eqO (PySem.W.nsIn K mainGlobals "_law_mixed") (some (some (.ref (He.fAd K ("_law_mixed", none))))) && (He.eqO (PySem.W.nsIn K mainGlobals "_law_low") (some (some (.ref (He.fAd K ("_law_low", none))))) && (He.eqO (PySem.W.nsIn K mainGlobals "_law_less") (some (some (.ref (He.fAd K ("_law_less", none))))) && (He.eqO (PySem.W.nsIn K mainGlobals "fraction_of") (some (some (.ref (He.fAd K ("fraction_of", none))))) && (He.eqO (PySem.W.nsIn K mainGlobals "lesser") (some (some (.ref (He.fAd K ("lesser", none))))) && (He.eqO (PySem.W.nsIn K mainGlobals "greater") (some (some (.ref (He.fAd K ("greater", none))))) && (He.eqO (PySem.W.nsIn K mainGlobals "ask_span") (some (some (.ref (He.fAd K ("ask_span", none))))) && (He.eqO (PySem.W.nsIn K mainGlobals "_law_take") (some (some (.ref (He.fAd K ("_law_take", none))))) && (He.eqO (PySem.W.nsIn K mainGlobals "_law_plus") (some (some (.ref (He.fAd K ("_law_plus", none))))) && (He.eqO (PySem.W.nsIn K mainGlobals "_law_turned") (some (some (.ref (He.fAd K ("_law_turned", none))))) && (He.eqO (PySem.W.nsIn K mainGlobals "plus") (some (some (.ref (He.fAd K ("plus", none))))) && true)))))))))))))))))))))))
theorem fx0_ok {K : PySem.W.Frag} (h0 : fx0 K = true) : (PySem.W.nsIn K mainGlobals "NoFraction" = some (some (.ref (He.ga K "NoFraction")))) ∧ (PySem.W.nsIn K mainGlobals "NoTable" = some (some (.ref (He.ga K "NoTable")))) ∧ (PySem.W.nsIn K mainGlobals "NoSpan" = some (some (.ref (He.ga K "NoSpan")))) ∧ (PySem.W.nsIn K mainGlobals "NoWorth" = some (some (.ref (He.ga K "NoWorth")))) ∧ (PySem.W.nsIn K mainGlobals "Table" = some (some (.ref (He.ga K "Table")))) ∧ (PySem.W.nsIn K mainGlobals "divisor" = some (some (.ref (He.fAd K ("divisor", none))))) ∧ (PySem.W.nsIn K mainGlobals "is_less" = some (some (.ref (He.fAd K ("is_less", none))))) ∧ (PySem.W.nsIn K mainGlobals "is_stretch" = some (some (.ref (He.fAd K ("is_stretch", none))))) ∧ (PySem.W.findIn K (.ref (He.ga K "Table")) "total" = some (some (.ref (He.fAd K ("Table", some "total"))))) ∧ (PySem.W.findIn K (.ref (He.ga K "Table")) "ends" = some (some (.ref (He.fAd K ("Table", some "ends"))))) ∧ (PySem.W.findIn K (.ref (He.ga K "Table")) "__len__" = some (some (.ref (He.fAd K ("Table", some "__len__"))))) ∧ (PySem.W.findIn K (.ref (He.ga K "Table")) "__eq__" = some (some (.ref (He.fAd K ("Table", some "__eq__"))))) ∧ (PySem.W.nsIn K mainGlobals "_law_box" = some (some (.ref (He.fAd K ("_law_box", none))))) ∧ (PySem.W.nsIn K mainGlobals "_law_mixed" = some (some (.ref (He.fAd K ("_law_mixed", none))))) ∧ (PySem.W.nsIn K mainGlobals "_law_low" = some (some (.ref (He.fAd K ("_law_low", none))))) ∧ (PySem.W.nsIn K mainGlobals "_law_less" = some (some (.ref (He.fAd K ("_law_less", none))))) ∧ (PySem.W.nsIn K mainGlobals "fraction_of" = some (some (.ref (He.fAd K ("fraction_of", none))))) ∧ (PySem.W.nsIn K mainGlobals "lesser" = some (some (.ref (He.fAd K ("lesser", none))))) ∧ (PySem.W.nsIn K mainGlobals "greater" = some (some (.ref (He.fAd K ("greater", none))))) ∧ (PySem.W.nsIn K mainGlobals "ask_span" = some (some (.ref (He.fAd K ("ask_span", none))))) ∧ (PySem.W.nsIn K mainGlobals "_law_take" = some (some (.ref (He.fAd K ("_law_take", none))))) ∧ (PySem.W.nsIn K mainGlobals "_law_plus" = some (some (.ref (He.fAd K ("_law_plus", none))))) ∧ (PySem.W.nsIn K mainGlobals "_law_turned" = some (some (.ref (He.fAd K ("_law_turned", none))))) ∧ (PySem.W.nsIn K mainGlobals "plus" = some (some (.ref (He.fAd K ("plus", none))))) ∧ True := by
  have h1 := (He.ba h0).2
  have h2 := (He.ba h1).2
  have h3 := (He.ba h2).2
  have h4 := (He.ba h3).2
  have h5 := (He.ba h4).2
  have h6 := (He.ba h5).2
  have h7 := (He.ba h6).2
  have h8 := (He.ba h7).2
  have h9 := (He.ba h8).2
  have h10 := (He.ba h9).2
  have h11 := (He.ba h10).2
  have h12 := (He.ba h11).2
  have h13 := (He.ba h12).2
  have h14 := (He.ba h13).2
  have h15 := (He.ba h14).2
  have h16 := (He.ba h15).2
  have h17 := (He.ba h16).2
  have h18 := (He.ba h17).2
  have h19 := (He.ba h18).2
  have h20 := (He.ba h19).2
  have h21 := (He.ba h20).2
  have h22 := (He.ba h21).2
  have h23 := (He.ba h22).2
  have h24 := (He.ba h23).2
  exact And.intro (He.eqO_ok (He.ba h0).1) (And.intro (He.eqO_ok (He.ba h1).1) (And.intro (He.eqO_ok (He.ba h2).1) (And.intro (He.eqO_ok (He.ba h3).1) (And.intro (He.eqO_ok (He.ba h4).1) (And.intro (He.eqO_ok (He.ba h5).1) (And.intro (He.eqO_ok (He.ba h6).1) (And.intro (He.eqO_ok (He.ba h7).1) (And.intro (He.eqO_ok (He.ba h8).1) (And.intro (He.eqO_ok (He.ba h9).1) (And.intro (He.eqO_ok (He.ba h10).1) (And.intro (He.eqO_ok (He.ba h11).1) (And.intro (He.eqO_ok (He.ba h12).1) (And.intro (He.eqO_ok (He.ba h13).1) (And.intro (He.eqO_ok (He.ba h14).1) (And.intro (He.eqO_ok (He.ba h15).1) (And.intro (He.eqO_ok (He.ba h16).1) (And.intro (He.eqO_ok (He.ba h17).1) (And.intro (He.eqO_ok (He.ba h18).1) (And.intro (He.eqO_ok (He.ba h19).1) (And.intro (He.eqO_ok (He.ba h20).1) (And.intro (He.eqO_ok (He.ba h21).1) (And.intro (He.eqO_ok (He.ba h22).1) (And.intro (He.eqO_ok (He.ba h23).1) True.intro)))))))))))))))))))))))
def fx1 (K : PySem.W.Frag) : Bool := He.eqO (PySem.W.nsIn K mainGlobals "minus") (some (some (.ref (He.fAd K ("minus", none))))) && (He.eqO (PySem.W.nsIn K mainGlobals "times") (some (some (.ref (He.fAd K ("times", none))))) && (He.eqO (PySem.W.nsIn K mainGlobals "over") (some (some (.ref (He.fAd K ("over", none))))) && (He.eqO (PySem.W.nsIn K mainGlobals "bounds_of") (some (some (.ref (He.fAd K ("bounds_of", none))))) && (He.eqO (PySem.W.nsIn K mainGlobals "_law_place") (some (some (.ref (He.fAd K ("_law_place", none))))) && (He.eqO (PySem.W.nsIn K mainGlobals "_law_rows") (some (some (.ref (He.fAd K ("_law_rows", none))))) && (He.eqO (PySem.W.findIn K (.ref (He.ga K "Table")) "__init__") (some (some (.ref (He.fAd K ("Table", some "__init__"))))) && (He.eqO (PySem.W.findIn K (.ref (He.ga K "Table")) "between") (some (some (.ref (He.fAd K ("Table", some "between"))))) && (He.eqO (PySem.W.nsIn K mainGlobals "_law_spot") (some (some (.ref (He.fAd K ("_law_spot", none))))) && (He.eqO (PySem.W.nsIn K mainGlobals "_law_made") (some (some (.ref (He.fAd K ("_law_made", none))))) && (He.eqO (PySem.W.findIn K (.ref (He.ga K "Table")) "worth") (some (some (.ref (He.fAd K ("Table", some "worth"))))) && (He.eqO (PySem.W.findIn K (.ref (He.ga K "Table")) "cut") (some (some (.ref (He.fAd K ("Table", some "cut"))))) && (He.eqO (PySem.W.nsIn K mainGlobals "_law_cuts_right") (some (some (.ref (He.fAd K ("_law_cuts_right", none))))) && (He.eqO (PySem.W.nsIn K mainGlobals "law") (some (some (.ref (He.fAd K ("law", none))))) && (PySem.W.plainGet K (He.ga K "Table") Str.empty && (PySem.W.hasDictIn K (He.ga K "Table") && (PySem.W.plainOver K (He.ga K "Table") && (He.eqO (PySem.W.findIn K (.ref (He.ga K "Table")) "__setattr__") (some (some (.builtin "object.__setattr__"))) && (PySem.W.makesIn K (He.ga K "Table") && (He.eqO (PySem.W.findIn K (.ref (He.ga K "Table")) "__init__") (some (some (.ref (He.fAd K ("Table", some "__init__"))))) && (PySem.W.isFn K (.ref (He.fAd K ("Table", some "__init__"))) && (PySem.W.keepIn K (.ref (He.ga K "Table")) && (He.eqO (PySem.W.findIn K (.ref (He.ga K "Table")) "__eq__") (some (some (.ref (He.fAd K ("Table", some "__eq__"))))) && (PySem.W.isFn K (.ref (He.fAd K ("Table", some "__eq__"))) && true)))))))))))))))))))))))
theorem fx1_ok {K : PySem.W.Frag} (h0 : fx1 K = true) : (PySem.W.nsIn K mainGlobals "minus" = some (some (.ref (He.fAd K ("minus", none))))) ∧ (PySem.W.nsIn K mainGlobals "times" = some (some (.ref (He.fAd K ("times", none))))) ∧ (PySem.W.nsIn K mainGlobals "over" = some (some (.ref (He.fAd K ("over", none))))) ∧ (PySem.W.nsIn K mainGlobals "bounds_of" = some (some (.ref (He.fAd K ("bounds_of", none))))) ∧ (PySem.W.nsIn K mainGlobals "_law_place" = some (some (.ref (He.fAd K ("_law_place", none))))) ∧ (PySem.W.nsIn K mainGlobals "_law_rows" = some (some (.ref (He.fAd K ("_law_rows", none))))) ∧ (PySem.W.findIn K (.ref (He.ga K "Table")) "__init__" = some (some (.ref (He.fAd K ("Table", some "__init__"))))) ∧ (PySem.W.findIn K (.ref (He.ga K "Table")) "between" = some (some (.ref (He.fAd K ("Table", some "between"))))) ∧ (PySem.W.nsIn K mainGlobals "_law_spot" = some (some (.ref (He.fAd K ("_law_spot", none))))) ∧ (PySem.W.nsIn K mainGlobals "_law_made" = some (some (.ref (He.fAd K ("_law_made", none))))) ∧ (PySem.W.findIn K (.ref (He.ga K "Table")) "worth" = some (some (.ref (He.fAd K ("Table", some "worth"))))) ∧ (PySem.W.findIn K (.ref (He.ga K "Table")) "cut" = some (some (.ref (He.fAd K ("Table", some "cut"))))) ∧ (PySem.W.nsIn K mainGlobals "_law_cuts_right" = some (some (.ref (He.fAd K ("_law_cuts_right", none))))) ∧ (PySem.W.nsIn K mainGlobals "law" = some (some (.ref (He.fAd K ("law", none))))) ∧ (PySem.W.plainGet K (He.ga K "Table") Str.empty = true) ∧ (PySem.W.hasDictIn K (He.ga K "Table") = true) ∧ (PySem.W.plainOver K (He.ga K "Table") = true) ∧ (PySem.W.findIn K (.ref (He.ga K "Table")) "__setattr__" = some (some (.builtin "object.__setattr__"))) ∧ (PySem.W.makesIn K (He.ga K "Table") = true) ∧ (PySem.W.findIn K (.ref (He.ga K "Table")) "__init__" = some (some (.ref (He.fAd K ("Table", some "__init__"))))) ∧ (PySem.W.isFn K (.ref (He.fAd K ("Table", some "__init__"))) = true) ∧ (PySem.W.keepIn K (.ref (He.ga K "Table")) = true) ∧ (PySem.W.findIn K (.ref (He.ga K "Table")) "__eq__" = some (some (.ref (He.fAd K ("Table", some "__eq__"))))) ∧ (PySem.W.isFn K (.ref (He.fAd K ("Table", some "__eq__"))) = true) ∧ True := by
  have h1 := (He.ba h0).2
  have h2 := (He.ba h1).2
  have h3 := (He.ba h2).2
  have h4 := (He.ba h3).2
  have h5 := (He.ba h4).2
  have h6 := (He.ba h5).2
  have h7 := (He.ba h6).2
  have h8 := (He.ba h7).2
  have h9 := (He.ba h8).2
  have h10 := (He.ba h9).2
  have h11 := (He.ba h10).2
  have h12 := (He.ba h11).2
  have h13 := (He.ba h12).2
  have h14 := (He.ba h13).2
  have h15 := (He.ba h14).2
  have h16 := (He.ba h15).2
  have h17 := (He.ba h16).2
  have h18 := (He.ba h17).2
  have h19 := (He.ba h18).2
  have h20 := (He.ba h19).2
  have h21 := (He.ba h20).2
  have h22 := (He.ba h21).2
  have h23 := (He.ba h22).2
  have h24 := (He.ba h23).2
  exact And.intro (He.eqO_ok (He.ba h0).1) (And.intro (He.eqO_ok (He.ba h1).1) (And.intro (He.eqO_ok (He.ba h2).1) (And.intro (He.eqO_ok (He.ba h3).1) (And.intro (He.eqO_ok (He.ba h4).1) (And.intro (He.eqO_ok (He.ba h5).1) (And.intro (He.eqO_ok (He.ba h6).1) (And.intro (He.eqO_ok (He.ba h7).1) (And.intro (He.eqO_ok (He.ba h8).1) (And.intro (He.eqO_ok (He.ba h9).1) (And.intro (He.eqO_ok (He.ba h10).1) (And.intro (He.eqO_ok (He.ba h11).1) (And.intro (He.eqO_ok (He.ba h12).1) (And.intro (He.eqO_ok (He.ba h13).1) (And.intro (id (He.ba h14).1) (And.intro (id (He.ba h15).1) (And.intro (id (He.ba h16).1) (And.intro (He.eqO_ok (He.ba h17).1) (And.intro (id (He.ba h18).1) (And.intro (He.eqO_ok (He.ba h19).1) (And.intro (id (He.ba h20).1) (And.intro (id (He.ba h21).1) (And.intro (He.eqO_ok (He.ba h22).1) (And.intro (id (He.ba h23).1) True.intro)))))))))))))))))))))))
def fx2 (K : PySem.W.Frag) : Bool := He.eqO (PySem.W.findIn K (.ref (He.ga K "Table")) "__len__") (some (some (.ref (He.fAd K ("Table", some "__len__"))))) && (PySem.W.isFn K (.ref (He.fAd K ("Table", some "__len__"))) && (He.eqO (PySem.W.findIn K (.ref (He.ga K "Table")) "between") (some (some (.ref (He.fAd K ("Table", some "between"))))) && (PySem.W.isFn K (.ref (He.fAd K ("Table", some "between"))) && (He.eqO (PySem.W.findIn K (.ref (He.ga K "Table")) "cut") (some (some (.ref (He.fAd K ("Table", some "cut"))))) && (PySem.W.isFn K (.ref (He.fAd K ("Table", some "cut"))) && (He.eqO (PySem.W.findIn K (.ref (He.ga K "Table")) "ends") (some (some (.ref (He.fAd K ("Table", some "ends"))))) && (PySem.W.isFn K (.ref (He.fAd K ("Table", some "ends"))) && (He.eqO (PySem.W.findIn K (.ref (He.ga K "Table")) "total") (some (some (.ref (He.fAd K ("Table", some "total"))))) && (PySem.W.isFn K (.ref (He.fAd K ("Table", some "total"))) && (He.eqO (PySem.W.findIn K (.ref (He.ga K "Table")) "worth") (some (some (.ref (He.fAd K ("Table", some "worth"))))) && (PySem.W.isFn K (.ref (He.fAd K ("Table", some "worth"))) && (He.eqO (PySem.W.findIn K (.ref (He.ga K "Table")) "__class__") (some (some (.builtin "object.__class__"))) && (He.eqO (PySem.W.specialIn K (.builtin "object.__class__") "__get__") (some (some (.builtin "getset_descriptor.__get__"))) && (decide (PySem.W.takesIn K (.builtin "object.__class__") = some true) && (decide (PySem.W.mroIn K (He.ga K "Table") (.type "object") = some true) && (decide (PySem.W.kitOne K (.ref (He.ga K "Table")) (.ref (He.ga K "Table")) = some true) && (decide (PySem.W.kitOne K (.type "NoneType") (.ref (He.ga K "Table")) = some false) && (decide (PySem.W.kitOne K (.type "bool") (.ref (He.ga K "Table")) = some false) && (decide (PySem.W.kitOne K (.type "int") (.ref (He.ga K "Table")) = some false) && (decide (PySem.W.kitOne K (.type "str") (.ref (He.ga K "Table")) = some false) && (decide (PySem.W.kitOne K (.type "tuple") (.ref (He.ga K "Table")) = some false) && (decide (PySem.W.kitOne K (.type "list") (.ref (He.ga K "Table")) = some false) && (He.eqO (PySem.W.findIn K (.ref (He.ga K "Table")) "__ne__") (some (some (.builtin "object.__ne__"))) && true)))))))))))))))))))))))
theorem fx2_ok {K : PySem.W.Frag} (h0 : fx2 K = true) : (PySem.W.findIn K (.ref (He.ga K "Table")) "__len__" = some (some (.ref (He.fAd K ("Table", some "__len__"))))) ∧ (PySem.W.isFn K (.ref (He.fAd K ("Table", some "__len__"))) = true) ∧ (PySem.W.findIn K (.ref (He.ga K "Table")) "between" = some (some (.ref (He.fAd K ("Table", some "between"))))) ∧ (PySem.W.isFn K (.ref (He.fAd K ("Table", some "between"))) = true) ∧ (PySem.W.findIn K (.ref (He.ga K "Table")) "cut" = some (some (.ref (He.fAd K ("Table", some "cut"))))) ∧ (PySem.W.isFn K (.ref (He.fAd K ("Table", some "cut"))) = true) ∧ (PySem.W.findIn K (.ref (He.ga K "Table")) "ends" = some (some (.ref (He.fAd K ("Table", some "ends"))))) ∧ (PySem.W.isFn K (.ref (He.fAd K ("Table", some "ends"))) = true) ∧ (PySem.W.findIn K (.ref (He.ga K "Table")) "total" = some (some (.ref (He.fAd K ("Table", some "total"))))) ∧ (PySem.W.isFn K (.ref (He.fAd K ("Table", some "total"))) = true) ∧ (PySem.W.findIn K (.ref (He.ga K "Table")) "worth" = some (some (.ref (He.fAd K ("Table", some "worth"))))) ∧ (PySem.W.isFn K (.ref (He.fAd K ("Table", some "worth"))) = true) ∧ (PySem.W.findIn K (.ref (He.ga K "Table")) "__class__" = some (some (.builtin "object.__class__"))) ∧ (PySem.W.specialIn K (.builtin "object.__class__") "__get__" = some (some (.builtin "getset_descriptor.__get__"))) ∧ (PySem.W.takesIn K (.builtin "object.__class__") = some true) ∧ (PySem.W.mroIn K (He.ga K "Table") (.type "object") = some true) ∧ (PySem.W.kitOne K (.ref (He.ga K "Table")) (.ref (He.ga K "Table")) = some true) ∧ (PySem.W.kitOne K (.type "NoneType") (.ref (He.ga K "Table")) = some false) ∧ (PySem.W.kitOne K (.type "bool") (.ref (He.ga K "Table")) = some false) ∧ (PySem.W.kitOne K (.type "int") (.ref (He.ga K "Table")) = some false) ∧ (PySem.W.kitOne K (.type "str") (.ref (He.ga K "Table")) = some false) ∧ (PySem.W.kitOne K (.type "tuple") (.ref (He.ga K "Table")) = some false) ∧ (PySem.W.kitOne K (.type "list") (.ref (He.ga K "Table")) = some false) ∧ (PySem.W.findIn K (.ref (He.ga K "Table")) "__ne__" = some (some (.builtin "object.__ne__"))) ∧ True := by
  have h1 := (He.ba h0).2
  have h2 := (He.ba h1).2
  have h3 := (He.ba h2).2
  have h4 := (He.ba h3).2
  have h5 := (He.ba h4).2
  have h6 := (He.ba h5).2
  have h7 := (He.ba h6).2
  have h8 := (He.ba h7).2
  have h9 := (He.ba h8).2
  have h10 := (He.ba h9).2
  have h11 := (He.ba h10).2
  have h12 := (He.ba h11).2
  have h13 := (He.ba h12).2
  have h14 := (He.ba h13).2
  have h15 := (He.ba h14).2
  have h16 := (He.ba h15).2
  have h17 := (He.ba h16).2
  have h18 := (He.ba h17).2
  have h19 := (He.ba h18).2
  have h20 := (He.ba h19).2
  have h21 := (He.ba h20).2
  have h22 := (He.ba h21).2
  have h23 := (He.ba h22).2
  have h24 := (He.ba h23).2
  exact And.intro (He.eqO_ok (He.ba h0).1) (And.intro (id (He.ba h1).1) (And.intro (He.eqO_ok (He.ba h2).1) (And.intro (id (He.ba h3).1) (And.intro (He.eqO_ok (He.ba h4).1) (And.intro (id (He.ba h5).1) (And.intro (He.eqO_ok (He.ba h6).1) (And.intro (id (He.ba h7).1) (And.intro (He.eqO_ok (He.ba h8).1) (And.intro (id (He.ba h9).1) (And.intro (He.eqO_ok (He.ba h10).1) (And.intro (id (He.ba h11).1) (And.intro (He.eqO_ok (He.ba h12).1) (And.intro (He.eqO_ok (He.ba h13).1) (And.intro (of_decide_eq_true (He.ba h14).1) (And.intro (of_decide_eq_true (He.ba h15).1) (And.intro (of_decide_eq_true (He.ba h16).1) (And.intro (of_decide_eq_true (He.ba h17).1) (And.intro (of_decide_eq_true (He.ba h18).1) (And.intro (of_decide_eq_true (He.ba h19).1) (And.intro (of_decide_eq_true (He.ba h20).1) (And.intro (of_decide_eq_true (He.ba h21).1) (And.intro (of_decide_eq_true (He.ba h22).1) (And.intro (He.eqO_ok (He.ba h23).1) True.intro)))))))))))))))))))))))
def fx3 (K : PySem.W.Frag) : Bool := PySem.W.notFirst K (He.ga K "Table") (.type "NoneType") && (PySem.W.notFirst K (He.ga K "Table") (.type "bool") && (PySem.W.notFirst K (He.ga K "Table") (.type "int") && (PySem.W.notFirst K (He.ga K "Table") (.type "str") && (PySem.W.notFirst K (He.ga K "Table") (.type "tuple") && (PySem.W.notFirst K (He.ga K "Table") (.type "list") && (PySem.W.notFirst K (He.ga K "Table") (.ref (He.ga K "Table")) && (decide (PySem.W.subIn K (.ref (He.ga K "Table")) (.type "NoneType") = some false) && (decide (PySem.W.subIn K (.ref (He.ga K "Table")) (.type "bool") = some false) && (decide (PySem.W.subIn K (.ref (He.ga K "Table")) (.type "int") = some false) && (decide (PySem.W.subIn K (.ref (He.ga K "Table")) (.type "str") = some false) && (decide (PySem.W.subIn K (.ref (He.ga K "Table")) (.type "tuple") = some false) && (decide (PySem.W.subIn K (.ref (He.ga K "Table")) (.type "list") = some false) && (He.eqO (PySem.W.findIn K (.ref (He.ga K "Table")) "bounds") (some none) && (He.eqO (PySem.W.findIn K (.ref (He.ga K "Table")) "kept") (some none) && (He.eqO (PySem.W.nsIn K mainGlobals "abs") (some none) && (He.eqO (PySem.W.nsIn K mainGlobals "all") (some none) && (He.eqO (PySem.W.nsIn K mainGlobals "enumerate") (some none) && (He.eqO (PySem.W.nsIn K mainGlobals "isinstance") (some none) && (He.eqO (PySem.W.nsIn K mainGlobals "len") (some none) && (He.eqO (PySem.W.nsIn K mainGlobals "list") (some none) && (He.eqO (PySem.W.nsIn K mainGlobals "range") (some none) && (He.eqO (PySem.W.nsIn K mainGlobals "sum") (some none) && (He.eqO (PySem.W.nsIn K mainGlobals "FIRST") (some (some (.ref (He.ga K "FIRST")))) && true)))))))))))))))))))))))
theorem fx3_ok {K : PySem.W.Frag} (h0 : fx3 K = true) : (PySem.W.notFirst K (He.ga K "Table") (.type "NoneType") = true) ∧ (PySem.W.notFirst K (He.ga K "Table") (.type "bool") = true) ∧ (PySem.W.notFirst K (He.ga K "Table") (.type "int") = true) ∧ (PySem.W.notFirst K (He.ga K "Table") (.type "str") = true) ∧ (PySem.W.notFirst K (He.ga K "Table") (.type "tuple") = true) ∧ (PySem.W.notFirst K (He.ga K "Table") (.type "list") = true) ∧ (PySem.W.notFirst K (He.ga K "Table") (.ref (He.ga K "Table")) = true) ∧ (PySem.W.subIn K (.ref (He.ga K "Table")) (.type "NoneType") = some false) ∧ (PySem.W.subIn K (.ref (He.ga K "Table")) (.type "bool") = some false) ∧ (PySem.W.subIn K (.ref (He.ga K "Table")) (.type "int") = some false) ∧ (PySem.W.subIn K (.ref (He.ga K "Table")) (.type "str") = some false) ∧ (PySem.W.subIn K (.ref (He.ga K "Table")) (.type "tuple") = some false) ∧ (PySem.W.subIn K (.ref (He.ga K "Table")) (.type "list") = some false) ∧ (PySem.W.findIn K (.ref (He.ga K "Table")) "bounds" = some none) ∧ (PySem.W.findIn K (.ref (He.ga K "Table")) "kept" = some none) ∧ (PySem.W.nsIn K mainGlobals "abs" = some none) ∧ (PySem.W.nsIn K mainGlobals "all" = some none) ∧ (PySem.W.nsIn K mainGlobals "enumerate" = some none) ∧ (PySem.W.nsIn K mainGlobals "isinstance" = some none) ∧ (PySem.W.nsIn K mainGlobals "len" = some none) ∧ (PySem.W.nsIn K mainGlobals "list" = some none) ∧ (PySem.W.nsIn K mainGlobals "range" = some none) ∧ (PySem.W.nsIn K mainGlobals "sum" = some none) ∧ (PySem.W.nsIn K mainGlobals "FIRST" = some (some (.ref (He.ga K "FIRST")))) ∧ True := by
  have h1 := (He.ba h0).2
  have h2 := (He.ba h1).2
  have h3 := (He.ba h2).2
  have h4 := (He.ba h3).2
  have h5 := (He.ba h4).2
  have h6 := (He.ba h5).2
  have h7 := (He.ba h6).2
  have h8 := (He.ba h7).2
  have h9 := (He.ba h8).2
  have h10 := (He.ba h9).2
  have h11 := (He.ba h10).2
  have h12 := (He.ba h11).2
  have h13 := (He.ba h12).2
  have h14 := (He.ba h13).2
  have h15 := (He.ba h14).2
  have h16 := (He.ba h15).2
  have h17 := (He.ba h16).2
  have h18 := (He.ba h17).2
  have h19 := (He.ba h18).2
  have h20 := (He.ba h19).2
  have h21 := (He.ba h20).2
  have h22 := (He.ba h21).2
  have h23 := (He.ba h22).2
  have h24 := (He.ba h23).2
  exact And.intro (id (He.ba h0).1) (And.intro (id (He.ba h1).1) (And.intro (id (He.ba h2).1) (And.intro (id (He.ba h3).1) (And.intro (id (He.ba h4).1) (And.intro (id (He.ba h5).1) (And.intro (id (He.ba h6).1) (And.intro (of_decide_eq_true (He.ba h7).1) (And.intro (of_decide_eq_true (He.ba h8).1) (And.intro (of_decide_eq_true (He.ba h9).1) (And.intro (of_decide_eq_true (He.ba h10).1) (And.intro (of_decide_eq_true (He.ba h11).1) (And.intro (of_decide_eq_true (He.ba h12).1) (And.intro (He.eqO_ok (He.ba h13).1) (And.intro (He.eqO_ok (He.ba h14).1) (And.intro (He.eqO_ok (He.ba h15).1) (And.intro (He.eqO_ok (He.ba h16).1) (And.intro (He.eqO_ok (He.ba h17).1) (And.intro (He.eqO_ok (He.ba h18).1) (And.intro (He.eqO_ok (He.ba h19).1) (And.intro (He.eqO_ok (He.ba h20).1) (And.intro (He.eqO_ok (He.ba h21).1) (And.intro (He.eqO_ok (He.ba h22).1) (And.intro (He.eqO_ok (He.ba h23).1) True.intro)))))))))))))))))))))))
def fx4 (K : PySem.W.Frag) : Bool := tup2K K (He.ga K "FIRST") 0 1 && (He.eqO (PySem.W.nsIn K mainGlobals "LAST") (some (some (.ref (He.ga K "LAST")))) && (tup2K K (He.ga K "LAST") 1 1 && (intK K "MOST_STRETCHES" 8 && (intK K "MOST_WIDTH" 999 && (intK K "MOST_WORTH" 999999999 && (PySem.W.excIn K (He.ga K "NoFraction") [.type "ValueError", .type "Exception", .type "BaseException", .type "object"] "ValueError.__new__" && (PySem.W.keepIn K (.ref (He.ga K "NoFraction")) && (PySem.W.excIn K (He.ga K "NoSpan") [.type "ValueError", .type "Exception", .type "BaseException", .type "object"] "ValueError.__new__" && (PySem.W.keepIn K (.ref (He.ga K "NoSpan")) && (PySem.W.excIn K (He.ga K "NoTable") [.type "ValueError", .type "Exception", .type "BaseException", .type "object"] "ValueError.__new__" && (PySem.W.keepIn K (.ref (He.ga K "NoTable")) && (PySem.W.excIn K (He.ga K "NoWorth") [.type "ValueError", .type "Exception", .type "BaseException", .type "object"] "ValueError.__new__" && (PySem.W.keepIn K (.ref (He.ga K "NoWorth")) && (decide (PySem.W.subIn K (.ref (He.ga K "NoFraction")) (.type "BaseException") = some true) && (decide (PySem.W.typeIn K (.ref (He.ga K "NoFraction")) = some (.type "type")) && (decide (PySem.W.subIn K (.ref (He.ga K "NoTable")) (.type "BaseException") = some true) && (decide (PySem.W.typeIn K (.ref (He.ga K "NoTable")) = some (.type "type")) && (decide (PySem.W.subIn K (.ref (He.ga K "NoSpan")) (.type "BaseException") = some true) && (decide (PySem.W.typeIn K (.ref (He.ga K "NoSpan")) = some (.type "type")) && (decide (PySem.W.subIn K (.ref (He.ga K "NoWorth")) (.type "BaseException") = some true) && (decide (PySem.W.typeIn K (.ref (He.ga K "NoWorth")) = some (.type "type")) && true)))))))))))))))))))))
theorem fx4_ok {K : PySem.W.Frag} (h0 : fx4 K = true) : (tup2K K (He.ga K "FIRST") 0 1 = true) ∧ (PySem.W.nsIn K mainGlobals "LAST" = some (some (.ref (He.ga K "LAST")))) ∧ (tup2K K (He.ga K "LAST") 1 1 = true) ∧ (intK K "MOST_STRETCHES" 8 = true) ∧ (intK K "MOST_WIDTH" 999 = true) ∧ (intK K "MOST_WORTH" 999999999 = true) ∧ (PySem.W.excIn K (He.ga K "NoFraction") [.type "ValueError", .type "Exception", .type "BaseException", .type "object"] "ValueError.__new__" = true) ∧ (PySem.W.keepIn K (.ref (He.ga K "NoFraction")) = true) ∧ (PySem.W.excIn K (He.ga K "NoSpan") [.type "ValueError", .type "Exception", .type "BaseException", .type "object"] "ValueError.__new__" = true) ∧ (PySem.W.keepIn K (.ref (He.ga K "NoSpan")) = true) ∧ (PySem.W.excIn K (He.ga K "NoTable") [.type "ValueError", .type "Exception", .type "BaseException", .type "object"] "ValueError.__new__" = true) ∧ (PySem.W.keepIn K (.ref (He.ga K "NoTable")) = true) ∧ (PySem.W.excIn K (He.ga K "NoWorth") [.type "ValueError", .type "Exception", .type "BaseException", .type "object"] "ValueError.__new__" = true) ∧ (PySem.W.keepIn K (.ref (He.ga K "NoWorth")) = true) ∧ (PySem.W.subIn K (.ref (He.ga K "NoFraction")) (.type "BaseException") = some true) ∧ (PySem.W.typeIn K (.ref (He.ga K "NoFraction")) = some (.type "type")) ∧ (PySem.W.subIn K (.ref (He.ga K "NoTable")) (.type "BaseException") = some true) ∧ (PySem.W.typeIn K (.ref (He.ga K "NoTable")) = some (.type "type")) ∧ (PySem.W.subIn K (.ref (He.ga K "NoSpan")) (.type "BaseException") = some true) ∧ (PySem.W.typeIn K (.ref (He.ga K "NoSpan")) = some (.type "type")) ∧ (PySem.W.subIn K (.ref (He.ga K "NoWorth")) (.type "BaseException") = some true) ∧ (PySem.W.typeIn K (.ref (He.ga K "NoWorth")) = some (.type "type")) ∧ True := by
  have h1 := (He.ba h0).2
  have h2 := (He.ba h1).2
  have h3 := (He.ba h2).2
  have h4 := (He.ba h3).2
  have h5 := (He.ba h4).2
  have h6 := (He.ba h5).2
  have h7 := (He.ba h6).2
  have h8 := (He.ba h7).2
  have h9 := (He.ba h8).2
  have h10 := (He.ba h9).2
  have h11 := (He.ba h10).2
  have h12 := (He.ba h11).2
  have h13 := (He.ba h12).2
  have h14 := (He.ba h13).2
  have h15 := (He.ba h14).2
  have h16 := (He.ba h15).2
  have h17 := (He.ba h16).2
  have h18 := (He.ba h17).2
  have h19 := (He.ba h18).2
  have h20 := (He.ba h19).2
  have h21 := (He.ba h20).2
  have h22 := (He.ba h21).2
  exact And.intro (id (He.ba h0).1) (And.intro (He.eqO_ok (He.ba h1).1) (And.intro (id (He.ba h2).1) (And.intro (id (He.ba h3).1) (And.intro (id (He.ba h4).1) (And.intro (id (He.ba h5).1) (And.intro (id (He.ba h6).1) (And.intro (id (He.ba h7).1) (And.intro (id (He.ba h8).1) (And.intro (id (He.ba h9).1) (And.intro (id (He.ba h10).1) (And.intro (id (He.ba h11).1) (And.intro (id (He.ba h12).1) (And.intro (id (He.ba h13).1) (And.intro (of_decide_eq_true (He.ba h14).1) (And.intro (of_decide_eq_true (He.ba h15).1) (And.intro (of_decide_eq_true (He.ba h16).1) (And.intro (of_decide_eq_true (He.ba h17).1) (And.intro (of_decide_eq_true (He.ba h18).1) (And.intro (of_decide_eq_true (He.ba h19).1) (And.intro (of_decide_eq_true (He.ba h20).1) (And.intro (of_decide_eq_true (He.ba h21).1) True.intro)))))))))))))))))))))
abbrev hd0 : He.DefD := ⟨("divisor", none), "divisor", "divisor", defArgs s_divisor, defBody s_divisor, defScope s_divisor, [], []⟩
abbrev hd1 : He.DefD := ⟨("is_less", none), "is_less", "is_less", defArgs s_is_less, defBody s_is_less, defScope s_is_less, [], []⟩
abbrev hd2 : He.DefD := ⟨("is_stretch", none), "is_stretch", "is_stretch", defArgs s_is_stretch, defBody s_is_stretch, defScope s_is_stretch, [], []⟩
abbrev hd3 : He.DefD := ⟨("Table", some "total"), "total", "Table.total", defArgs s_Table_total, defBody s_Table_total, defScope s_Table_total, [], []⟩
abbrev hd4 : He.DefD := ⟨("Table", some "ends"), "ends", "Table.ends", defArgs s_Table_ends, defBody s_Table_ends, defScope s_Table_ends, [], []⟩
abbrev hd5 : He.DefD := ⟨("Table", some "__len__"), "__len__", "Table.__len__", defArgs s_Table___len__, defBody s_Table___len__, defScope s_Table___len__, [], []⟩
abbrev hd6 : He.DefD := ⟨("Table", some "__eq__"), "__eq__", "Table.__eq__", defArgs s_Table___eq__, defBody s_Table___eq__, defScope s_Table___eq__, [], []⟩
abbrev hd7 : He.DefD := ⟨("_law_box", none), "_law_box", "_law_box", defArgs s_law_box, defBody s_law_box, defScope s_law_box, [], []⟩
abbrev hd8 : He.DefD := ⟨("_law_mixed", none), "_law_mixed", "_law_mixed", defArgs s_law_mixed, defBody s_law_mixed, defScope s_law_mixed, [], []⟩
abbrev hd9 : He.DefD := ⟨("_law_low", none), "_law_low", "_law_low", defArgs s_law_low, defBody s_law_low, defScope s_law_low, [], []⟩
abbrev hd10 : He.DefD := ⟨("_law_less", none), "_law_less", "_law_less", defArgs s_law_less, defBody s_law_less, defScope s_law_less, [], []⟩
abbrev hd11 : He.DefD := ⟨("fraction_of", none), "fraction_of", "fraction_of", defArgs s_fraction_of, defBody s_fraction_of, defScope s_fraction_of, [.int 1], []⟩
abbrev hd12 : He.DefD := ⟨("lesser", none), "lesser", "lesser", defArgs s_lesser, defBody s_lesser, defScope s_lesser, [], []⟩
abbrev hd13 : He.DefD := ⟨("greater", none), "greater", "greater", defArgs s_greater, defBody s_greater, defScope s_greater, [], []⟩
abbrev hd14 : He.DefD := ⟨("ask_span", none), "ask_span", "ask_span", defArgs s_ask_span, defBody s_ask_span, defScope s_ask_span, [], []⟩
abbrev hd15 : He.DefD := ⟨("_law_take", none), "_law_take", "_law_take", defArgs s_law_take, defBody s_law_take, defScope s_law_take, [], []⟩
abbrev hd16 : He.DefD := ⟨("_law_plus", none), "_law_plus", "_law_plus", defArgs s_law_plus, defBody s_law_plus, defScope s_law_plus, [], []⟩
abbrev hd17 : He.DefD := ⟨("_law_turned", none), "_law_turned", "_law_turned", defArgs s_law_turned, defBody s_law_turned, defScope s_law_turned, [], []⟩
abbrev hd18 : He.DefD := ⟨("plus", none), "plus", "plus", defArgs s_plus, defBody s_plus, defScope s_plus, [], []⟩
abbrev hd19 : He.DefD := ⟨("minus", none), "minus", "minus", defArgs s_minus, defBody s_minus, defScope s_minus, [], []⟩
abbrev hd20 : He.DefD := ⟨("times", none), "times", "times", defArgs s_times, defBody s_times, defScope s_times, [], []⟩
abbrev hd21 : He.DefD := ⟨("over", none), "over", "over", defArgs s_over, defBody s_over, defScope s_over, [], []⟩
abbrev hd22 : He.DefD := ⟨("bounds_of", none), "bounds_of", "bounds_of", defArgs s_bounds_of, defBody s_bounds_of, defScope s_bounds_of, [], []⟩
abbrev hd23 : He.DefD := ⟨("_law_place", none), "_law_place", "_law_place", defArgs s_law_place, defBody s_law_place, defScope s_law_place, [], []⟩
abbrev hd24 : He.DefD := ⟨("_law_rows", none), "_law_rows", "_law_rows", defArgs s_law_rows, defBody s_law_rows, defScope s_law_rows, [], []⟩
abbrev hd25 : He.DefD := ⟨("Table", some "__init__"), "__init__", "Table.__init__", defArgs s_Table___init__, defBody s_Table___init__, defScope s_Table___init__, [], []⟩
abbrev hd26 : He.DefD := ⟨("Table", some "between"), "between", "Table.between", defArgs s_Table_between, defBody s_Table_between, defScope s_Table_between, [], []⟩
abbrev hd27 : He.DefD := ⟨("_law_spot", none), "_law_spot", "_law_spot", defArgs s_law_spot, defBody s_law_spot, defScope s_law_spot, [], []⟩
abbrev hd28 : He.DefD := ⟨("_law_made", none), "_law_made", "_law_made", defArgs s_law_made, defBody s_law_made, defScope s_law_made, [], []⟩
abbrev hd29 : He.DefD := ⟨("Table", some "worth"), "worth", "Table.worth", defArgs s_Table_worth, defBody s_Table_worth, defScope s_Table_worth, [.non, .non], []⟩
abbrev hd30 : He.DefD := ⟨("Table", some "cut"), "cut", "Table.cut", defArgs s_Table_cut, defBody s_Table_cut, defScope s_Table_cut, [.non], []⟩
abbrev hd31 : He.DefD := ⟨("_law_cuts_right", none), "_law_cuts_right", "_law_cuts_right", defArgs s_law_cuts_right, defBody s_law_cuts_right, defScope s_law_cuts_right, [], []⟩
abbrev hd32 : He.DefD := ⟨("law", none), "law", "law", defArgs s_law, defBody s_law, defScope s_law, [], []⟩
def loose0 : List PySem.Str := ["__name__", "CrumbError", "NoFraction", "NoTable", "NoSpan", "NoWorth", "divisor", "fraction_of", "plus", "minus", "times", "over", "is_less", "lesser", "greater", "MOST_STRETCHES"]
def loose1 : List PySem.Str := ["MOST_WIDTH", "MOST_WORTH", "FIRST", "LAST", "is_stretch", "ask_span", "Table", "bounds_of", "_law_box", "_law_mixed", "_law_take", "_law_low", "_law_plus", "_law_less", "_law_place", "_law_rows"]
def loose2 : List PySem.Str := ["_law_spot", "_law_made", "_law_turned", "_law_cuts_right"]
def loose : List PySem.Str := loose0 ++ loose1 ++ loose2
abbrev RR : PySem.W.OpenRow := PySem.W.OpenLaw.row PySem.Challenge.rw_halfcrumb_k08_whole_worths_and_cuts
def ads0 : List Addr := [3, 6, 4, 24, 37, 49, 61, 73, 82, 90, 97, 104, 111, 118, 125, 132, 139, 140, 141, 148, 155, 231, 240, 245, 252, 259, 266, 273, 280, 287, 292, 297, 302, 309, 316, 321, 0, 23, 36, 48, 60, 72, 81, 89, 83, 96, 103, 110, 117, 124, 131, 138, 147, 154, 230, 239, 244, 251, 258, 265, 272, 279, 286, 291]
def ads1 : List Addr := [296, 301, 308, 315, 320, 22, 25, 35, 47, 59, 71, 76, 77, 78, 79, 80, 84, 85, 86, 87, 88, 91, 92, 93, 94, 95, 98, 99, 100, 101, 102, 105, 106, 107, 108, 109, 112, 113, 114, 115, 116, 119, 120, 121, 122, 123, 126, 127, 128, 129, 130, 133, 134, 135, 136, 137, 142, 143, 144, 145, 146, 149, 150, 151]
def ads2 : List Addr := [152, 153, 167, 174, 179, 186, 194, 202, 209, 216, 223, 228, 229, 232, 233, 236, 237, 238, 241, 242, 243, 246, 247, 248, 249, 250, 253, 254, 255, 256, 257, 260, 261, 262, 263, 264, 267, 268, 269, 270, 271, 274, 275, 276, 277, 278, 281, 282, 283, 284, 285, 288, 289, 290, 293, 294, 295, 298, 299, 300, 303, 304, 305, 306]
def ads3 : List Addr := [307, 310, 311, 312, 313, 314, 317, 318, 319, 166, 173, 178, 185, 193, 187, 201, 195, 208, 215, 222, 227, 1, 2]
def ads : List Addr := ads0 ++ (ads1 ++ (ads2 ++ (ads3)))
def hfn0 : List He.DefD := [hd0, hd1, hd2, hd3, hd4, hd5, hd6, hd7, hd8, hd9, hd10, hd11, hd12, hd13, hd14, hd15, hd16]
def hEx0 (K : PySem.W.Frag) : Bool := fx0 K && (fx1 K && (fx2 K && true))
def htf : List He.Defn := []
abbrev ch0 : Ch := ⟨hfn0, htf, hEx0⟩
def hfn1 : List He.DefD := [hd17, hd18, hd19, hd20, hd21, hd22, hd23, hd24, hd25, hd26, hd27, hd28, hd29, hd30, hd31, hd32]
def hEx1 (K : PySem.W.Frag) : Bool := fx3 K && (fx4 K && true)
abbrev ch1 : Ch := ⟨hfn1, [], hEx1⟩
abbrev chs : List Ch := [ch0, ch1]
theorem runX (w : World) : RunX RR (PySem.W.view RR.prog [39]) 20000 loose w ads chs := by
  intro os
  kernel_rfl
theorem run (w : World) : HandSHeadRun.RunEq RR (PySem.W.view RR.prog [39]) (hookL ads chs) (obL ads chs) 20000 loose w := run_one (runX w)
theorem all_mk {l : PySem.W.OpenLaw} {w : World} {K : PySem.W.Frag} {h : Heap} {mg : Str → Option Value} {fa : Addr} (X : K.In h) (G : h.Ns mainGlobals mg) (hfa : mg "law" = some (.ref fa))
    {a_FIRST_0 a_LAST_0 c_NoFraction c_NoSpan c_NoTable c_NoWorth c_Table f0 f1 f2 f3 f4 f5 f6 f7 f8 f9 f10 f11 f12 f13 f14 f15 f16 f17 f18 f19 f20 f21 f22 f23 f24 f25 f26 f27 f28 f29 f30 f31 f32 : Addr}
    (D0 : DefB K "divisor" "divisor" s_divisor f0)
    (D1 : DefB K "is_less" "is_less" s_is_less f1)
    (D2 : DefB K "is_stretch" "is_stretch" s_is_stretch f2)
    (D3 : DefB K "total" "Table.total" s_Table_total f3)
    (D4 : DefB K "ends" "Table.ends" s_Table_ends f4)
    (D5 : DefB K "__len__" "Table.__len__" s_Table___len__ f5)
    (D6 : DefB K "__eq__" "Table.__eq__" s_Table___eq__ f6)
    (D7 : DefB K "_law_box" "_law_box" s_law_box f7)
    (D8 : DefB K "_law_mixed" "_law_mixed" s_law_mixed f8)
    (D9 : DefB K "_law_low" "_law_low" s_law_low f9)
    (D10 : DefB K "_law_less" "_law_less" s_law_less f10)
    (D11 : DefB1 K "fraction_of" "fraction_of" s_fraction_of f11 1)
    (D12 : DefB K "lesser" "lesser" s_lesser f12)
    (D13 : DefB K "greater" "greater" s_greater f13)
    (D14 : DefB K "ask_span" "ask_span" s_ask_span f14)
    (D15 : DefB K "_law_take" "_law_take" s_law_take f15)
    (D16 : DefB K "_law_plus" "_law_plus" s_law_plus f16)
    (D17 : DefB K "_law_turned" "_law_turned" s_law_turned f17)
    (D18 : DefB K "plus" "plus" s_plus f18)
    (D19 : DefB K "minus" "minus" s_minus f19)
    (D20 : DefB K "times" "times" s_times f20)
    (D21 : DefB K "over" "over" s_over f21)
    (D22 : DefB K "bounds_of" "bounds_of" s_bounds_of f22)
    (D23 : DefB K "_law_place" "_law_place" s_law_place f23)
    (D24 : DefB K "_law_rows" "_law_rows" s_law_rows f24)
    (D25 : DefB K "__init__" "Table.__init__" s_Table___init__ f25)
    (D26 : DefB K "between" "Table.between" s_Table_between f26)
    (D27 : DefB K "_law_spot" "_law_spot" s_law_spot f27)
    (D28 : DefB K "_law_made" "_law_made" s_law_made f28)
    (D29 : DefB00 K "worth" "Table.worth" s_Table_worth f29)
    (D30 : DefB0 K "cut" "Table.cut" s_Table_cut f30)
    (D31 : DefB K "_law_cuts_right" "_law_cuts_right" s_law_cuts_right f31)
    (D32 : DefB K "law" "law" s_law f32)
    (Y0 : (PySem.W.nsIn K mainGlobals "NoFraction" = some (some (.ref c_NoFraction))) ∧ (PySem.W.nsIn K mainGlobals "NoTable" = some (some (.ref c_NoTable))) ∧ (PySem.W.nsIn K mainGlobals "NoSpan" = some (some (.ref c_NoSpan))) ∧ (PySem.W.nsIn K mainGlobals "NoWorth" = some (some (.ref c_NoWorth))) ∧ (PySem.W.nsIn K mainGlobals "Table" = some (some (.ref c_Table))) ∧ (PySem.W.nsIn K mainGlobals "divisor" = some (some (.ref f0))) ∧ (PySem.W.nsIn K mainGlobals "is_less" = some (some (.ref f1))) ∧ (PySem.W.nsIn K mainGlobals "is_stretch" = some (some (.ref f2))) ∧ (PySem.W.findIn K (.ref c_Table) "total" = some (some (.ref f3))) ∧ (PySem.W.findIn K (.ref c_Table) "ends" = some (some (.ref f4))) ∧ (PySem.W.findIn K (.ref c_Table) "__len__" = some (some (.ref f5))) ∧ (PySem.W.findIn K (.ref c_Table) "__eq__" = some (some (.ref f6))) ∧ (PySem.W.nsIn K mainGlobals "_law_box" = some (some (.ref f7))) ∧ (PySem.W.nsIn K mainGlobals "_law_mixed" = some (some (.ref f8))) ∧ (PySem.W.nsIn K mainGlobals "_law_low" = some (some (.ref f9))) ∧ (PySem.W.nsIn K mainGlobals "_law_less" = some (some (.ref f10))) ∧ (PySem.W.nsIn K mainGlobals "fraction_of" = some (some (.ref f11))) ∧ (PySem.W.nsIn K mainGlobals "lesser" = some (some (.ref f12))) ∧ (PySem.W.nsIn K mainGlobals "greater" = some (some (.ref f13))) ∧ (PySem.W.nsIn K mainGlobals "ask_span" = some (some (.ref f14))) ∧ (PySem.W.nsIn K mainGlobals "_law_take" = some (some (.ref f15))) ∧ (PySem.W.nsIn K mainGlobals "_law_plus" = some (some (.ref f16))) ∧ (PySem.W.nsIn K mainGlobals "_law_turned" = some (some (.ref f17))) ∧ (PySem.W.nsIn K mainGlobals "plus" = some (some (.ref f18))) ∧ True)
    (Y1 : (PySem.W.nsIn K mainGlobals "minus" = some (some (.ref f19))) ∧ (PySem.W.nsIn K mainGlobals "times" = some (some (.ref f20))) ∧ (PySem.W.nsIn K mainGlobals "over" = some (some (.ref f21))) ∧ (PySem.W.nsIn K mainGlobals "bounds_of" = some (some (.ref f22))) ∧ (PySem.W.nsIn K mainGlobals "_law_place" = some (some (.ref f23))) ∧ (PySem.W.nsIn K mainGlobals "_law_rows" = some (some (.ref f24))) ∧ (PySem.W.findIn K (.ref c_Table) "__init__" = some (some (.ref f25))) ∧ (PySem.W.findIn K (.ref c_Table) "between" = some (some (.ref f26))) ∧ (PySem.W.nsIn K mainGlobals "_law_spot" = some (some (.ref f27))) ∧ (PySem.W.nsIn K mainGlobals "_law_made" = some (some (.ref f28))) ∧ (PySem.W.findIn K (.ref c_Table) "worth" = some (some (.ref f29))) ∧ (PySem.W.findIn K (.ref c_Table) "cut" = some (some (.ref f30))) ∧ (PySem.W.nsIn K mainGlobals "_law_cuts_right" = some (some (.ref f31))) ∧ (PySem.W.nsIn K mainGlobals "law" = some (some (.ref f32))) ∧ (PySem.W.plainGet K c_Table Str.empty = true) ∧ (PySem.W.hasDictIn K c_Table = true) ∧ (PySem.W.plainOver K c_Table = true) ∧ (PySem.W.findIn K (.ref c_Table) "__setattr__" = some (some (.builtin "object.__setattr__"))) ∧ (PySem.W.makesIn K c_Table = true) ∧ (PySem.W.findIn K (.ref c_Table) "__init__" = some (some (.ref f25))) ∧ (PySem.W.isFn K (.ref f25) = true) ∧ (PySem.W.keepIn K (.ref c_Table) = true) ∧ (PySem.W.findIn K (.ref c_Table) "__eq__" = some (some (.ref f6))) ∧ (PySem.W.isFn K (.ref f6) = true) ∧ True)
    (Y2 : (PySem.W.findIn K (.ref c_Table) "__len__" = some (some (.ref f5))) ∧ (PySem.W.isFn K (.ref f5) = true) ∧ (PySem.W.findIn K (.ref c_Table) "between" = some (some (.ref f26))) ∧ (PySem.W.isFn K (.ref f26) = true) ∧ (PySem.W.findIn K (.ref c_Table) "cut" = some (some (.ref f30))) ∧ (PySem.W.isFn K (.ref f30) = true) ∧ (PySem.W.findIn K (.ref c_Table) "ends" = some (some (.ref f4))) ∧ (PySem.W.isFn K (.ref f4) = true) ∧ (PySem.W.findIn K (.ref c_Table) "total" = some (some (.ref f3))) ∧ (PySem.W.isFn K (.ref f3) = true) ∧ (PySem.W.findIn K (.ref c_Table) "worth" = some (some (.ref f29))) ∧ (PySem.W.isFn K (.ref f29) = true) ∧ (PySem.W.findIn K (.ref c_Table) "__class__" = some (some (.builtin "object.__class__"))) ∧ (PySem.W.specialIn K (.builtin "object.__class__") "__get__" = some (some (.builtin "getset_descriptor.__get__"))) ∧ (PySem.W.takesIn K (.builtin "object.__class__") = some true) ∧ (PySem.W.mroIn K c_Table (.type "object") = some true) ∧ (PySem.W.kitOne K (.ref c_Table) (.ref c_Table) = some true) ∧ (PySem.W.kitOne K (.type "NoneType") (.ref c_Table) = some false) ∧ (PySem.W.kitOne K (.type "bool") (.ref c_Table) = some false) ∧ (PySem.W.kitOne K (.type "int") (.ref c_Table) = some false) ∧ (PySem.W.kitOne K (.type "str") (.ref c_Table) = some false) ∧ (PySem.W.kitOne K (.type "tuple") (.ref c_Table) = some false) ∧ (PySem.W.kitOne K (.type "list") (.ref c_Table) = some false) ∧ (PySem.W.findIn K (.ref c_Table) "__ne__" = some (some (.builtin "object.__ne__"))) ∧ True)
    (Y3 : (PySem.W.notFirst K c_Table (.type "NoneType") = true) ∧ (PySem.W.notFirst K c_Table (.type "bool") = true) ∧ (PySem.W.notFirst K c_Table (.type "int") = true) ∧ (PySem.W.notFirst K c_Table (.type "str") = true) ∧ (PySem.W.notFirst K c_Table (.type "tuple") = true) ∧ (PySem.W.notFirst K c_Table (.type "list") = true) ∧ (PySem.W.notFirst K c_Table (.ref c_Table) = true) ∧ (PySem.W.subIn K (.ref c_Table) (.type "NoneType") = some false) ∧ (PySem.W.subIn K (.ref c_Table) (.type "bool") = some false) ∧ (PySem.W.subIn K (.ref c_Table) (.type "int") = some false) ∧ (PySem.W.subIn K (.ref c_Table) (.type "str") = some false) ∧ (PySem.W.subIn K (.ref c_Table) (.type "tuple") = some false) ∧ (PySem.W.subIn K (.ref c_Table) (.type "list") = some false) ∧ (PySem.W.findIn K (.ref c_Table) "bounds" = some none) ∧ (PySem.W.findIn K (.ref c_Table) "kept" = some none) ∧ (PySem.W.nsIn K mainGlobals "abs" = some none) ∧ (PySem.W.nsIn K mainGlobals "all" = some none) ∧ (PySem.W.nsIn K mainGlobals "enumerate" = some none) ∧ (PySem.W.nsIn K mainGlobals "isinstance" = some none) ∧ (PySem.W.nsIn K mainGlobals "len" = some none) ∧ (PySem.W.nsIn K mainGlobals "list" = some none) ∧ (PySem.W.nsIn K mainGlobals "range" = some none) ∧ (PySem.W.nsIn K mainGlobals "sum" = some none) ∧ (PySem.W.nsIn K mainGlobals "FIRST" = some (some (.ref a_FIRST_0))) ∧ True)
    (Y4 : (tup2K K a_FIRST_0 0 1 = true) ∧ (PySem.W.nsIn K mainGlobals "LAST" = some (some (.ref a_LAST_0))) ∧ (tup2K K a_LAST_0 1 1 = true) ∧ (intK K "MOST_STRETCHES" 8 = true) ∧ (intK K "MOST_WIDTH" 999 = true) ∧ (intK K "MOST_WORTH" 999999999 = true) ∧ (PySem.W.excIn K c_NoFraction [.type "ValueError", .type "Exception", .type "BaseException", .type "object"] "ValueError.__new__" = true) ∧ (PySem.W.keepIn K (.ref c_NoFraction) = true) ∧ (PySem.W.excIn K c_NoSpan [.type "ValueError", .type "Exception", .type "BaseException", .type "object"] "ValueError.__new__" = true) ∧ (PySem.W.keepIn K (.ref c_NoSpan) = true) ∧ (PySem.W.excIn K c_NoTable [.type "ValueError", .type "Exception", .type "BaseException", .type "object"] "ValueError.__new__" = true) ∧ (PySem.W.keepIn K (.ref c_NoTable) = true) ∧ (PySem.W.excIn K c_NoWorth [.type "ValueError", .type "Exception", .type "BaseException", .type "object"] "ValueError.__new__" = true) ∧ (PySem.W.keepIn K (.ref c_NoWorth) = true) ∧ (PySem.W.subIn K (.ref c_NoFraction) (.type "BaseException") = some true) ∧ (PySem.W.typeIn K (.ref c_NoFraction) = some (.type "type")) ∧ (PySem.W.subIn K (.ref c_NoTable) (.type "BaseException") = some true) ∧ (PySem.W.typeIn K (.ref c_NoTable) = some (.type "type")) ∧ (PySem.W.subIn K (.ref c_NoSpan) (.type "BaseException") = some true) ∧ (PySem.W.typeIn K (.ref c_NoSpan) = some (.type "type")) ∧ (PySem.W.subIn K (.ref c_NoWorth) (.type "BaseException") = some true) ∧ (PySem.W.typeIn K (.ref c_NoWorth) = some (.type "type")) ∧ True)
    : ∃ fd : FuncData, (∀ (s : Shared) (v : Value), BindsTo s fd ⟨[v], []⟩ [("_law_script", v)]) ∧ ∀ base : Heap, K.In base → base.Ns mainGlobals mg → FnOk l.prog w K mg base (L2.CX l.prog w) 7 fa fd ["_law_script"] (spLaw K) := by
  obtain ⟨⟨_, _, kV0, dc0, pm0, an0, cd0, ct0, _, l0, c0⟩, k0⟩ := D0
  obtain ⟨⟨_, _, kV1, dc1, pm1, an1, cd1, ct1, _, l1, c1⟩, k1⟩ := D1
  obtain ⟨⟨_, _, kV2, dc2, pm2, an2, cd2, ct2, _, l2, c2⟩, k2⟩ := D2
  obtain ⟨⟨_, _, kV3, dc3, pm3, an3, cd3, ct3, _, l3, c3⟩, k3⟩ := D3
  obtain ⟨⟨_, _, kV4, dc4, pm4, an4, cd4, ct4, _, l4, c4⟩, k4⟩ := D4
  obtain ⟨⟨_, _, kV5, dc5, pm5, an5, cd5, ct5, _, l5, c5⟩, k5⟩ := D5
  obtain ⟨⟨_, _, kV6, dc6, pm6, an6, cd6, ct6, _, l6, c6⟩, k6⟩ := D6
  obtain ⟨⟨_, _, kV7, dc7, pm7, an7, cd7, ct7, _, l7, c7⟩, k7⟩ := D7
  obtain ⟨⟨_, _, kV8, dc8, pm8, an8, cd8, ct8, _, l8, c8⟩, k8⟩ := D8
  obtain ⟨⟨_, _, kV9, dc9, pm9, an9, cd9, ct9, _, l9, c9⟩, k9⟩ := D9
  obtain ⟨⟨_, _, kV10, dc10, pm10, an10, cd10, ct10, _, l10, c10⟩, k10⟩ := D10
  obtain ⟨⟨T11, _, _, kV11, dc11, pm11, an11, cd11, ct11, _, _, _, _, _, _, l11, c11, lT11⟩, k11⟩ := D11
  obtain ⟨⟨_, _, kV12, dc12, pm12, an12, cd12, ct12, _, l12, c12⟩, k12⟩ := D12
  obtain ⟨⟨_, _, kV13, dc13, pm13, an13, cd13, ct13, _, l13, c13⟩, k13⟩ := D13
  obtain ⟨⟨_, _, kV14, dc14, pm14, an14, cd14, ct14, _, l14, c14⟩, k14⟩ := D14
  obtain ⟨⟨_, _, kV15, dc15, pm15, an15, cd15, ct15, _, l15, c15⟩, k15⟩ := D15
  obtain ⟨⟨_, _, kV16, dc16, pm16, an16, cd16, ct16, _, l16, c16⟩, k16⟩ := D16
  obtain ⟨⟨_, _, kV17, dc17, pm17, an17, cd17, ct17, _, l17, c17⟩, k17⟩ := D17
  obtain ⟨⟨_, _, kV18, dc18, pm18, an18, cd18, ct18, _, l18, c18⟩, k18⟩ := D18
  obtain ⟨⟨_, _, kV19, dc19, pm19, an19, cd19, ct19, _, l19, c19⟩, k19⟩ := D19
  obtain ⟨⟨_, _, kV20, dc20, pm20, an20, cd20, ct20, _, l20, c20⟩, k20⟩ := D20
  obtain ⟨⟨_, _, kV21, dc21, pm21, an21, cd21, ct21, _, l21, c21⟩, k21⟩ := D21
  obtain ⟨⟨_, _, kV22, dc22, pm22, an22, cd22, ct22, _, l22, c22⟩, k22⟩ := D22
  obtain ⟨⟨_, _, kV23, dc23, pm23, an23, cd23, ct23, _, l23, c23⟩, k23⟩ := D23
  obtain ⟨⟨_, _, kV24, dc24, pm24, an24, cd24, ct24, _, l24, c24⟩, k24⟩ := D24
  obtain ⟨⟨_, _, kV25, dc25, pm25, an25, cd25, ct25, _, l25, c25⟩, k25⟩ := D25
  obtain ⟨⟨_, _, kV26, dc26, pm26, an26, cd26, ct26, _, l26, c26⟩, k26⟩ := D26
  obtain ⟨⟨_, _, kV27, dc27, pm27, an27, cd27, ct27, _, l27, c27⟩, k27⟩ := D27
  obtain ⟨⟨_, _, kV28, dc28, pm28, an28, cd28, ct28, _, l28, c28⟩, k28⟩ := D28
  obtain ⟨⟨T29, _, _, kV29, dc29, pm29, an29, cd29, ct29, _, _, _, _, _, l29, c29, lT29⟩, k29⟩ := D29
  obtain ⟨⟨T30, _, _, kV30, dc30, pm30, an30, cd30, ct30, _, _, _, _, _, l30, c30, lT30⟩, k30⟩ := D30
  obtain ⟨⟨_, _, kV31, dc31, pm31, an31, cd31, ct31, _, l31, c31⟩, k31⟩ := D31
  obtain ⟨⟨_, _, kV32, dc32, pm32, an32, cd32, ct32, _, l32, c32⟩, k32⟩ := D32
  have g_NoFraction := Y0.1
  have g_NoTable := Y0.2.1
  have g_NoSpan := Y0.2.2.1
  have g_NoWorth := Y0.2.2.2.1
  have g_Table := Y0.2.2.2.2.1
  have a0 := Y0.2.2.2.2.2.1
  have a1 := Y0.2.2.2.2.2.2.1
  have a2 := Y0.2.2.2.2.2.2.2.1
  have a3 := Y0.2.2.2.2.2.2.2.2.1
  have a4 := Y0.2.2.2.2.2.2.2.2.2.1
  have a5 := Y0.2.2.2.2.2.2.2.2.2.2.1
  have a6 := Y0.2.2.2.2.2.2.2.2.2.2.2.1
  have a7 := Y0.2.2.2.2.2.2.2.2.2.2.2.2.1
  have a8 := Y0.2.2.2.2.2.2.2.2.2.2.2.2.2.1
  have a9 := Y0.2.2.2.2.2.2.2.2.2.2.2.2.2.2.1
  have a10 := Y0.2.2.2.2.2.2.2.2.2.2.2.2.2.2.2.1
  have a11 := Y0.2.2.2.2.2.2.2.2.2.2.2.2.2.2.2.2.1
  have a12 := Y0.2.2.2.2.2.2.2.2.2.2.2.2.2.2.2.2.2.1
  have a13 := Y0.2.2.2.2.2.2.2.2.2.2.2.2.2.2.2.2.2.2.1
  have a14 := Y0.2.2.2.2.2.2.2.2.2.2.2.2.2.2.2.2.2.2.2.1
  have a15 := Y0.2.2.2.2.2.2.2.2.2.2.2.2.2.2.2.2.2.2.2.2.1
  have a16 := Y0.2.2.2.2.2.2.2.2.2.2.2.2.2.2.2.2.2.2.2.2.2.1
  have a17 := Y0.2.2.2.2.2.2.2.2.2.2.2.2.2.2.2.2.2.2.2.2.2.2.1
  have a18 := Y0.2.2.2.2.2.2.2.2.2.2.2.2.2.2.2.2.2.2.2.2.2.2.2.1
  have a19 := Y1.1
  have a20 := Y1.2.1
  have a21 := Y1.2.2.1
  have a22 := Y1.2.2.2.1
  have a23 := Y1.2.2.2.2.1
  have a24 := Y1.2.2.2.2.2.1
  have a25 := Y1.2.2.2.2.2.2.1
  have a26 := Y1.2.2.2.2.2.2.2.1
  have a27 := Y1.2.2.2.2.2.2.2.2.1
  have a28 := Y1.2.2.2.2.2.2.2.2.2.1
  have a29 := Y1.2.2.2.2.2.2.2.2.2.2.1
  have a30 := Y1.2.2.2.2.2.2.2.2.2.2.2.1
  have a31 := Y1.2.2.2.2.2.2.2.2.2.2.2.2.1
  have a32 := Y1.2.2.2.2.2.2.2.2.2.2.2.2.2.1
  have pg_Table := Y1.2.2.2.2.2.2.2.2.2.2.2.2.2.2.1
  have hD_Table := Y1.2.2.2.2.2.2.2.2.2.2.2.2.2.2.2.1
  have po_Table := Y1.2.2.2.2.2.2.2.2.2.2.2.2.2.2.2.2.1
  have sa_Table := Y1.2.2.2.2.2.2.2.2.2.2.2.2.2.2.2.2.2.1
  have mm_Table := Y1.2.2.2.2.2.2.2.2.2.2.2.2.2.2.2.2.2.2.1
  have mi_Table := Y1.2.2.2.2.2.2.2.2.2.2.2.2.2.2.2.2.2.2.2.1
  have mf_Table := Y1.2.2.2.2.2.2.2.2.2.2.2.2.2.2.2.2.2.2.2.2.1
  have mp_Table := Y1.2.2.2.2.2.2.2.2.2.2.2.2.2.2.2.2.2.2.2.2.2.1
  have ta_Table___eq__ := Y1.2.2.2.2.2.2.2.2.2.2.2.2.2.2.2.2.2.2.2.2.2.2.1
  have tf_Table___eq__ := Y1.2.2.2.2.2.2.2.2.2.2.2.2.2.2.2.2.2.2.2.2.2.2.2.1
  have ta_Table___len__ := Y2.1
  have tf_Table___len__ := Y2.2.1
  have ta_Table_between := Y2.2.2.1
  have tf_Table_between := Y2.2.2.2.1
  have ta_Table_cut := Y2.2.2.2.2.1
  have tf_Table_cut := Y2.2.2.2.2.2.1
  have ta_Table_ends := Y2.2.2.2.2.2.2.1
  have tf_Table_ends := Y2.2.2.2.2.2.2.2.1
  have ta_Table_total := Y2.2.2.2.2.2.2.2.2.1
  have tf_Table_total := Y2.2.2.2.2.2.2.2.2.2.1
  have ta_Table_worth := Y2.2.2.2.2.2.2.2.2.2.2.1
  have tf_Table_worth := Y2.2.2.2.2.2.2.2.2.2.2.2.1
  have ka_Table := Y2.2.2.2.2.2.2.2.2.2.2.2.2.1
  have kn_Table := Y2.2.2.2.2.2.2.2.2.2.2.2.2.2.1
  have kt_Table := Y2.2.2.2.2.2.2.2.2.2.2.2.2.2.2.1
  have km_Table := Y2.2.2.2.2.2.2.2.2.2.2.2.2.2.2.2.1
  have ko_Table_Table := Y2.2.2.2.2.2.2.2.2.2.2.2.2.2.2.2.2.1
  have kp_NoneType_Table := Y2.2.2.2.2.2.2.2.2.2.2.2.2.2.2.2.2.2.1
  have kp_bool_Table := Y2.2.2.2.2.2.2.2.2.2.2.2.2.2.2.2.2.2.2.1
  have kp_int_Table := Y2.2.2.2.2.2.2.2.2.2.2.2.2.2.2.2.2.2.2.2.1
  have kp_str_Table := Y2.2.2.2.2.2.2.2.2.2.2.2.2.2.2.2.2.2.2.2.2.1
  have kp_tuple_Table := Y2.2.2.2.2.2.2.2.2.2.2.2.2.2.2.2.2.2.2.2.2.2.1
  have kp_list_Table := Y2.2.2.2.2.2.2.2.2.2.2.2.2.2.2.2.2.2.2.2.2.2.2.1
  have nq_Table := Y2.2.2.2.2.2.2.2.2.2.2.2.2.2.2.2.2.2.2.2.2.2.2.2.1
  have nf_Table_NoneType := Y3.1
  have nf_Table_bool := Y3.2.1
  have nf_Table_int := Y3.2.2.1
  have nf_Table_str := Y3.2.2.2.1
  have nf_Table_tuple := Y3.2.2.2.2.1
  have nf_Table_list := Y3.2.2.2.2.2.1
  have ng_Table_Table := Y3.2.2.2.2.2.2.1
  have sf_Table_NoneType := Y3.2.2.2.2.2.2.2.1
  have sf_Table_bool := Y3.2.2.2.2.2.2.2.2.1
  have sf_Table_int := Y3.2.2.2.2.2.2.2.2.2.1
  have sf_Table_str := Y3.2.2.2.2.2.2.2.2.2.2.1
  have sf_Table_tuple := Y3.2.2.2.2.2.2.2.2.2.2.2.1
  have sf_Table_list := Y3.2.2.2.2.2.2.2.2.2.2.2.2.1
  have na_Table_bounds := Y3.2.2.2.2.2.2.2.2.2.2.2.2.2.1
  have na_Table_kept := Y3.2.2.2.2.2.2.2.2.2.2.2.2.2.2.1
  have z_abs := Y3.2.2.2.2.2.2.2.2.2.2.2.2.2.2.2.1
  have z_all := Y3.2.2.2.2.2.2.2.2.2.2.2.2.2.2.2.2.1
  have z_enumerate := Y3.2.2.2.2.2.2.2.2.2.2.2.2.2.2.2.2.2.1
  have z_isinstance := Y3.2.2.2.2.2.2.2.2.2.2.2.2.2.2.2.2.2.2.1
  have z_len := Y3.2.2.2.2.2.2.2.2.2.2.2.2.2.2.2.2.2.2.2.1
  have z_list := Y3.2.2.2.2.2.2.2.2.2.2.2.2.2.2.2.2.2.2.2.2.1
  have z_range := Y3.2.2.2.2.2.2.2.2.2.2.2.2.2.2.2.2.2.2.2.2.2.1
  have z_sum := Y3.2.2.2.2.2.2.2.2.2.2.2.2.2.2.2.2.2.2.2.2.2.2.1
  have m_FIRST := Y3.2.2.2.2.2.2.2.2.2.2.2.2.2.2.2.2.2.2.2.2.2.2.2.1
  have l_a_FIRST_00 := Y4.1
  have m_LAST := Y4.2.1
  have l_a_LAST_00 := Y4.2.2.1
  have m_MOST_STRETCHES0 := Y4.2.2.2.1
  have m_MOST_WIDTH0 := Y4.2.2.2.2.1
  have m_MOST_WORTH0 := Y4.2.2.2.2.2.1
  have x_NoFraction := Y4.2.2.2.2.2.2.1
  have k_NoFraction := Y4.2.2.2.2.2.2.2.1
  have x_NoSpan := Y4.2.2.2.2.2.2.2.2.1
  have k_NoSpan := Y4.2.2.2.2.2.2.2.2.2.1
  have x_NoTable := Y4.2.2.2.2.2.2.2.2.2.2.1
  have k_NoTable := Y4.2.2.2.2.2.2.2.2.2.2.2.1
  have x_NoWorth := Y4.2.2.2.2.2.2.2.2.2.2.2.2.1
  have k_NoWorth := Y4.2.2.2.2.2.2.2.2.2.2.2.2.2.1
  have sb_NoFraction := Y4.2.2.2.2.2.2.2.2.2.2.2.2.2.2.1
  have t_NoFraction := Y4.2.2.2.2.2.2.2.2.2.2.2.2.2.2.2.1
  have sb_NoTable := Y4.2.2.2.2.2.2.2.2.2.2.2.2.2.2.2.2.1
  have t_NoTable := Y4.2.2.2.2.2.2.2.2.2.2.2.2.2.2.2.2.2.1
  have sb_NoSpan := Y4.2.2.2.2.2.2.2.2.2.2.2.2.2.2.2.2.2.2.1
  have t_NoSpan := Y4.2.2.2.2.2.2.2.2.2.2.2.2.2.2.2.2.2.2.2.1
  have sb_NoWorth := Y4.2.2.2.2.2.2.2.2.2.2.2.2.2.2.2.2.2.2.2.2.1
  have t_NoWorth := Y4.2.2.2.2.2.2.2.2.2.2.2.2.2.2.2.2.2.2.2.2.2.1
  obtain ⟨_, a_FIRST_0t0, a_FIRST_0t1, _, _, l_a_FIRST_0⟩ := tup2K_ok l_a_FIRST_00
  obtain ⟨_, a_LAST_0t0, a_LAST_0t1, _, _, l_a_LAST_0⟩ := tup2K_ok l_a_LAST_00
  obtain ⟨t_MOST_STRETCHES, m_MOST_STRETCHES⟩ := intK_ok m_MOST_STRETCHES0
  obtain ⟨t_MOST_WIDTH, m_MOST_WIDTH⟩ := intK_ok m_MOST_WIDTH0
  obtain ⟨t_MOST_WORTH, m_MOST_WORTH⟩ := intK_ok m_MOST_WORTH0
  have e := hfa.symm.trans (PySem.W.mg_of X G a32)
  cases e
  let A : Adr := { c_NoFraction := c_NoFraction, c_NoTable := c_NoTable, c_NoSpan := c_NoSpan, c_NoWorth := c_NoWorth, c_Table := c_Table, f_divisor := f0, d_divisor := (PySem.W.fnOf "divisor" "divisor" (defArgs s_divisor) (defBody s_divisor) (defScope s_divisor) .none kV0 dc0 pm0 an0 cd0 ct0), f_is_less := f1, d_is_less := (PySem.W.fnOf "is_less" "is_less" (defArgs s_is_less) (defBody s_is_less) (defScope s_is_less) .none kV1 dc1 pm1 an1 cd1 ct1), f_is_stretch := f2, d_is_stretch := (PySem.W.fnOf "is_stretch" "is_stretch" (defArgs s_is_stretch) (defBody s_is_stretch) (defScope s_is_stretch) .none kV2 dc2 pm2 an2 cd2 ct2), f_Table_total := f3, d_Table_total := (PySem.W.fnOf "total" "Table.total" (defArgs s_Table_total) (defBody s_Table_total) (defScope s_Table_total) .none kV3 dc3 pm3 an3 cd3 ct3), f_Table_ends := f4, d_Table_ends := (PySem.W.fnOf "ends" "Table.ends" (defArgs s_Table_ends) (defBody s_Table_ends) (defScope s_Table_ends) .none kV4 dc4 pm4 an4 cd4 ct4), f_Table___len__ := f5, d_Table___len__ := (PySem.W.fnOf "__len__" "Table.__len__" (defArgs s_Table___len__) (defBody s_Table___len__) (defScope s_Table___len__) .none kV5 dc5 pm5 an5 cd5 ct5), f_Table___eq__ := f6, d_Table___eq__ := (PySem.W.fnOf "__eq__" "Table.__eq__" (defArgs s_Table___eq__) (defBody s_Table___eq__) (defScope s_Table___eq__) .none kV6 dc6 pm6 an6 cd6 ct6), f_law_box := f7, d_law_box := (PySem.W.fnOf "_law_box" "_law_box" (defArgs s_law_box) (defBody s_law_box) (defScope s_law_box) .none kV7 dc7 pm7 an7 cd7 ct7), f_law_mixed := f8, d_law_mixed := (PySem.W.fnOf "_law_mixed" "_law_mixed" (defArgs s_law_mixed) (defBody s_law_mixed) (defScope s_law_mixed) .none kV8 dc8 pm8 an8 cd8 ct8), f_law_low := f9, d_law_low := (PySem.W.fnOf "_law_low" "_law_low" (defArgs s_law_low) (defBody s_law_low) (defScope s_law_low) .none kV9 dc9 pm9 an9 cd9 ct9), f_law_less := f10, d_law_less := (PySem.W.fnOf "_law_less" "_law_less" (defArgs s_law_less) (defBody s_law_less) (defScope s_law_less) .none kV10 dc10 pm10 an10 cd10 ct10), f_fraction_of := f11, d_fraction_of := (PySem.W.fnOf "fraction_of" "fraction_of" (defArgs s_fraction_of) (defBody s_fraction_of) (defScope s_fraction_of) (.ref T11) kV11 dc11 pm11 an11 cd11 ct11), f_lesser := f12, d_lesser := (PySem.W.fnOf "lesser" "lesser" (defArgs s_lesser) (defBody s_lesser) (defScope s_lesser) .none kV12 dc12 pm12 an12 cd12 ct12), f_greater := f13, d_greater := (PySem.W.fnOf "greater" "greater" (defArgs s_greater) (defBody s_greater) (defScope s_greater) .none kV13 dc13 pm13 an13 cd13 ct13), f_ask_span := f14, d_ask_span := (PySem.W.fnOf "ask_span" "ask_span" (defArgs s_ask_span) (defBody s_ask_span) (defScope s_ask_span) .none kV14 dc14 pm14 an14 cd14 ct14), f_law_take := f15, d_law_take := (PySem.W.fnOf "_law_take" "_law_take" (defArgs s_law_take) (defBody s_law_take) (defScope s_law_take) .none kV15 dc15 pm15 an15 cd15 ct15), f_law_plus := f16, d_law_plus := (PySem.W.fnOf "_law_plus" "_law_plus" (defArgs s_law_plus) (defBody s_law_plus) (defScope s_law_plus) .none kV16 dc16 pm16 an16 cd16 ct16), f_law_turned := f17, d_law_turned := (PySem.W.fnOf "_law_turned" "_law_turned" (defArgs s_law_turned) (defBody s_law_turned) (defScope s_law_turned) .none kV17 dc17 pm17 an17 cd17 ct17), f_plus := f18, d_plus := (PySem.W.fnOf "plus" "plus" (defArgs s_plus) (defBody s_plus) (defScope s_plus) .none kV18 dc18 pm18 an18 cd18 ct18), f_minus := f19, d_minus := (PySem.W.fnOf "minus" "minus" (defArgs s_minus) (defBody s_minus) (defScope s_minus) .none kV19 dc19 pm19 an19 cd19 ct19), f_times := f20, d_times := (PySem.W.fnOf "times" "times" (defArgs s_times) (defBody s_times) (defScope s_times) .none kV20 dc20 pm20 an20 cd20 ct20), f_over := f21, d_over := (PySem.W.fnOf "over" "over" (defArgs s_over) (defBody s_over) (defScope s_over) .none kV21 dc21 pm21 an21 cd21 ct21), f_bounds_of := f22, d_bounds_of := (PySem.W.fnOf "bounds_of" "bounds_of" (defArgs s_bounds_of) (defBody s_bounds_of) (defScope s_bounds_of) .none kV22 dc22 pm22 an22 cd22 ct22), f_law_place := f23, d_law_place := (PySem.W.fnOf "_law_place" "_law_place" (defArgs s_law_place) (defBody s_law_place) (defScope s_law_place) .none kV23 dc23 pm23 an23 cd23 ct23), f_law_rows := f24, d_law_rows := (PySem.W.fnOf "_law_rows" "_law_rows" (defArgs s_law_rows) (defBody s_law_rows) (defScope s_law_rows) .none kV24 dc24 pm24 an24 cd24 ct24), f_Table___init__ := f25, d_Table___init__ := (PySem.W.fnOf "__init__" "Table.__init__" (defArgs s_Table___init__) (defBody s_Table___init__) (defScope s_Table___init__) .none kV25 dc25 pm25 an25 cd25 ct25), f_Table_between := f26, d_Table_between := (PySem.W.fnOf "between" "Table.between" (defArgs s_Table_between) (defBody s_Table_between) (defScope s_Table_between) .none kV26 dc26 pm26 an26 cd26 ct26), f_law_spot := f27, d_law_spot := (PySem.W.fnOf "_law_spot" "_law_spot" (defArgs s_law_spot) (defBody s_law_spot) (defScope s_law_spot) .none kV27 dc27 pm27 an27 cd27 ct27), f_law_made := f28, d_law_made := (PySem.W.fnOf "_law_made" "_law_made" (defArgs s_law_made) (defBody s_law_made) (defScope s_law_made) .none kV28 dc28 pm28 an28 cd28 ct28), f_Table_worth := f29, d_Table_worth := (PySem.W.fnOf "worth" "Table.worth" (defArgs s_Table_worth) (defBody s_Table_worth) (defScope s_Table_worth) (.ref T29) kV29 dc29 pm29 an29 cd29 ct29), f_Table_cut := f30, d_Table_cut := (PySem.W.fnOf "cut" "Table.cut" (defArgs s_Table_cut) (defBody s_Table_cut) (defScope s_Table_cut) (.ref T30) kV30 dc30 pm30 an30 cd30 ct30), f_law_cuts_right := f31, d_law_cuts_right := (PySem.W.fnOf "_law_cuts_right" "_law_cuts_right" (defArgs s_law_cuts_right) (defBody s_law_cuts_right) (defScope s_law_cuts_right) .none kV31 dc31 pm31 an31 cd31 ct31), f_law := fa, d_law := (PySem.W.fnOf "law" "law" (defArgs s_law) (defBody s_law) (defScope s_law) .none kV32 dc32 pm32 an32 cd32 ct32), a_FIRST := a_FIRST_0, a_LAST := a_LAST_0, t_MOST_STRETCHES := t_MOST_STRETCHES, t_MOST_WIDTH := t_MOST_WIDTH, t_MOST_WORTH := t_MOST_WORTH }
  have T : ∀ base : Heap, Txt K mg base A := fun base => {
    g_NoFraction := PySem.W.mg_of X G g_NoFraction
    g_NoTable := PySem.W.mg_of X G g_NoTable
    g_NoSpan := PySem.W.mg_of X G g_NoSpan
    g_NoWorth := PySem.W.mg_of X G g_NoWorth
    g_Table := PySem.W.mg_of X G g_Table
    g_divisor := PySem.W.mg_of X G a0
    F_divisor := fun_mk (st := s_divisor) l0 c0 k0
    b_divisor := (fun_mk (st := s_divisor) l0 c0 k0).binds (ps := p_divisor) fun _ _ _ _ _ _ us hl => match us, hl with | [_, _], _ => rfl
    g_is_less := PySem.W.mg_of X G a1
    F_is_less := fun_mk (st := s_is_less) l1 c1 k1
    b_is_less := (fun_mk (st := s_is_less) l1 c1 k1).binds (ps := p_is_less) fun _ _ _ _ _ _ us hl => match us, hl with | [_, _], _ => rfl
    g_is_stretch := PySem.W.mg_of X G a2
    F_is_stretch := fun_mk (st := s_is_stretch) l2 c2 k2
    b_is_stretch := (fun_mk (st := s_is_stretch) l2 c2 k2).binds (ps := p_is_stretch) fun _ _ _ _ _ _ us hl => match us, hl with | [_, _], _ => rfl
    F_Table_total := fun_mk (st := s_Table_total) l3 c3 k3
    b_Table_total := (fun_mk (st := s_Table_total) l3 c3 k3).binds (ps := p_Table_total) fun _ _ _ _ _ _ us hl => match us, hl with | [_], _ => rfl
    F_Table_ends := fun_mk (st := s_Table_ends) l4 c4 k4
    b_Table_ends := (fun_mk (st := s_Table_ends) l4 c4 k4).binds (ps := p_Table_ends) fun _ _ _ _ _ _ us hl => match us, hl with | [_], _ => rfl
    F_Table___len__ := fun_mk (st := s_Table___len__) l5 c5 k5
    b_Table___len__ := (fun_mk (st := s_Table___len__) l5 c5 k5).binds (ps := p_Table___len__) fun _ _ _ _ _ _ us hl => match us, hl with | [_], _ => rfl
    F_Table___eq__ := fun_mk (st := s_Table___eq__) l6 c6 k6
    b_Table___eq__ := (fun_mk (st := s_Table___eq__) l6 c6 k6).binds (ps := p_Table___eq__) fun _ _ _ _ _ _ us hl => match us, hl with | [_, _], _ => rfl
    g_law_box := PySem.W.mg_of X G a7
    F_law_box := fun_mk (st := s_law_box) l7 c7 k7
    b_law_box := (fun_mk (st := s_law_box) l7 c7 k7).binds (ps := p_law_box) fun _ _ _ _ _ _ us hl => match us, hl with | [_], _ => rfl
    g_law_mixed := PySem.W.mg_of X G a8
    F_law_mixed := fun_mk (st := s_law_mixed) l8 c8 k8
    b_law_mixed := (fun_mk (st := s_law_mixed) l8 c8 k8).binds (ps := p_law_mixed) fun _ _ _ _ _ _ us hl => match us, hl with | [_, _], _ => rfl
    g_law_low := PySem.W.mg_of X G a9
    F_law_low := fun_mk (st := s_law_low) l9 c9 k9
    b_law_low := (fun_mk (st := s_law_low) l9 c9 k9).binds (ps := p_law_low) fun _ _ _ _ _ _ us hl => match us, hl with | [_, _], _ => rfl
    g_law_less := PySem.W.mg_of X G a10
    F_law_less := fun_mk (st := s_law_less) l10 c10 k10
    b_law_less := (fun_mk (st := s_law_less) l10 c10 k10).binds (ps := p_law_less) fun _ _ _ _ _ _ us hl => match us, hl with | [_, _], _ => rfl
    g_fraction_of := PySem.W.mg_of X G a11
    F_fraction_of := ⟨⟨_, _, _, _, _, _, _, _, _, _, rfl, l11, c11, .inr ⟨by simp, _, _, _, _, rfl, lT11, rfl, (.cons ⟨_, rfl⟩ .nil)⟩, .inl rfl⟩, k11⟩
    g_lesser := PySem.W.mg_of X G a12
    F_lesser := fun_mk (st := s_lesser) l12 c12 k12
    b_lesser := (fun_mk (st := s_lesser) l12 c12 k12).binds (ps := p_lesser) fun _ _ _ _ _ _ us hl => match us, hl with | [_, _], _ => rfl
    g_greater := PySem.W.mg_of X G a13
    F_greater := fun_mk (st := s_greater) l13 c13 k13
    b_greater := (fun_mk (st := s_greater) l13 c13 k13).binds (ps := p_greater) fun _ _ _ _ _ _ us hl => match us, hl with | [_, _], _ => rfl
    g_ask_span := PySem.W.mg_of X G a14
    F_ask_span := fun_mk (st := s_ask_span) l14 c14 k14
    b_ask_span := (fun_mk (st := s_ask_span) l14 c14 k14).binds (ps := p_ask_span) fun _ _ _ _ _ _ us hl => match us, hl with | [_, _], _ => rfl
    g_law_take := PySem.W.mg_of X G a15
    F_law_take := fun_mk (st := s_law_take) l15 c15 k15
    b_law_take := (fun_mk (st := s_law_take) l15 c15 k15).binds (ps := p_law_take) fun _ _ _ _ _ _ us hl => match us, hl with | [_, _], _ => rfl
    g_law_plus := PySem.W.mg_of X G a16
    F_law_plus := fun_mk (st := s_law_plus) l16 c16 k16
    b_law_plus := (fun_mk (st := s_law_plus) l16 c16 k16).binds (ps := p_law_plus) fun _ _ _ _ _ _ us hl => match us, hl with | [_, _], _ => rfl
    g_law_turned := PySem.W.mg_of X G a17
    F_law_turned := fun_mk (st := s_law_turned) l17 c17 k17
    b_law_turned := (fun_mk (st := s_law_turned) l17 c17 k17).binds (ps := p_law_turned) fun _ _ _ _ _ _ us hl => match us, hl with | [_], _ => rfl
    g_plus := PySem.W.mg_of X G a18
    F_plus := fun_mk (st := s_plus) l18 c18 k18
    b_plus := (fun_mk (st := s_plus) l18 c18 k18).binds (ps := p_plus) fun _ _ _ _ _ _ us hl => match us, hl with | [_, _], _ => rfl
    g_minus := PySem.W.mg_of X G a19
    F_minus := fun_mk (st := s_minus) l19 c19 k19
    b_minus := (fun_mk (st := s_minus) l19 c19 k19).binds (ps := p_minus) fun _ _ _ _ _ _ us hl => match us, hl with | [_, _], _ => rfl
    g_times := PySem.W.mg_of X G a20
    F_times := fun_mk (st := s_times) l20 c20 k20
    b_times := (fun_mk (st := s_times) l20 c20 k20).binds (ps := p_times) fun _ _ _ _ _ _ us hl => match us, hl with | [_, _], _ => rfl
    g_over := PySem.W.mg_of X G a21
    F_over := fun_mk (st := s_over) l21 c21 k21
    b_over := (fun_mk (st := s_over) l21 c21 k21).binds (ps := p_over) fun _ _ _ _ _ _ us hl => match us, hl with | [_, _], _ => rfl
    g_bounds_of := PySem.W.mg_of X G a22
    F_bounds_of := fun_mk (st := s_bounds_of) l22 c22 k22
    b_bounds_of := (fun_mk (st := s_bounds_of) l22 c22 k22).binds (ps := p_bounds_of) fun _ _ _ _ _ _ us hl => match us, hl with | [_], _ => rfl
    g_law_place := PySem.W.mg_of X G a23
    F_law_place := fun_mk (st := s_law_place) l23 c23 k23
    b_law_place := (fun_mk (st := s_law_place) l23 c23 k23).binds (ps := p_law_place) fun _ _ _ _ _ _ us hl => match us, hl with | [_], _ => rfl
    g_law_rows := PySem.W.mg_of X G a24
    F_law_rows := fun_mk (st := s_law_rows) l24 c24 k24
    b_law_rows := (fun_mk (st := s_law_rows) l24 c24 k24).binds (ps := p_law_rows) fun _ _ _ _ _ _ us hl => match us, hl with | [_, _], _ => rfl
    F_Table___init__ := fun_mk (st := s_Table___init__) l25 c25 k25
    b_Table___init__ := (fun_mk (st := s_Table___init__) l25 c25 k25).binds (ps := p_Table___init__) fun _ _ _ _ _ _ us hl => match us, hl with | [_, _], _ => rfl
    F_Table_between := fun_mk (st := s_Table_between) l26 c26 k26
    b_Table_between := (fun_mk (st := s_Table_between) l26 c26 k26).binds (ps := p_Table_between) fun _ _ _ _ _ _ us hl => match us, hl with | [_, _, _], _ => rfl
    g_law_spot := PySem.W.mg_of X G a27
    F_law_spot := fun_mk (st := s_law_spot) l27 c27 k27
    b_law_spot := (fun_mk (st := s_law_spot) l27 c27 k27).binds (ps := p_law_spot) fun _ _ _ _ _ _ us hl => match us, hl with | [_, _], _ => rfl
    g_law_made := PySem.W.mg_of X G a28
    F_law_made := fun_mk (st := s_law_made) l28 c28 k28
    b_law_made := (fun_mk (st := s_law_made) l28 c28 k28).binds (ps := p_law_made) fun _ _ _ _ _ _ us hl => match us, hl with | [_], _ => rfl
    F_Table_worth := ⟨⟨_, _, _, _, _, _, _, _, _, _, rfl, l29, c29, .inr ⟨by simp, _, _, _, _, rfl, lT29, rfl, (.cons rfl (.cons rfl .nil))⟩, .inl rfl⟩, k29⟩
    F_Table_cut := ⟨⟨_, _, _, _, _, _, _, _, _, _, rfl, l30, c30, .inr ⟨by simp, _, _, _, _, rfl, lT30, rfl, (.cons rfl .nil)⟩, .inl rfl⟩, k30⟩
    g_law_cuts_right := PySem.W.mg_of X G a31
    F_law_cuts_right := fun_mk (st := s_law_cuts_right) l31 c31 k31
    b_law_cuts_right := (fun_mk (st := s_law_cuts_right) l31 c31 k31).binds (ps := p_law_cuts_right) fun _ _ _ _ _ _ us hl => match us, hl with | [_, _, _, _, _], _ => rfl
    g_law := PySem.W.mg_of X G a32
    F_law := fun_mk (st := s_law) l32 c32 k32
    b_law := (fun_mk (st := s_law) l32 c32 k32).binds (ps := p_law) fun _ _ _ _ _ _ us hl => match us, hl with | [_], _ => rfl
    cl_Table := ⟨pg_Table, hD_Table, po_Table, sa_Table⟩
    mk_Table := ⟨mm_Table, mi_Table, mf_Table, mp_Table⟩
    mt_Table___eq__ := ⟨ta_Table___eq__, tf_Table___eq__, k6⟩
    mt_Table___len__ := ⟨ta_Table___len__, tf_Table___len__, k5⟩
    mt_Table_between := ⟨ta_Table_between, tf_Table_between, k26⟩
    mt_Table_cut := ⟨ta_Table_cut, tf_Table_cut, k30⟩
    mt_Table_ends := ⟨ta_Table_ends, tf_Table_ends, k4⟩
    mt_Table_total := ⟨ta_Table_total, tf_Table_total, k3⟩
    mt_Table_worth := ⟨ta_Table_worth, tf_Table_worth, k29⟩
    io_Table := ⟨fun c b h => match c, h with
      | 5, h => by cases h; exact ko_Table_Table,
    fun c b h => match c, h with
      | 5, h => ⟨⟨pg_Table, hD_Table, po_Table, sa_Table⟩, ka_Table, kn_Table, kt_Table, km_Table⟩, (List.forall_mem_cons.mpr ⟨kp_NoneType_Table, (List.forall_mem_cons.mpr ⟨kp_bool_Table, (List.forall_mem_cons.mpr ⟨kp_int_Table, (List.forall_mem_cons.mpr ⟨kp_str_Table, (List.forall_mem_cons.mpr ⟨kp_tuple_Table, (List.forall_mem_cons.mpr ⟨kp_list_Table, (fun _ h => nomatch h)⟩)⟩)⟩)⟩)⟩)⟩)⟩
    neqs := (List.forall_mem_cons.mpr ⟨⟨nq_Table, km_Table⟩, (fun _ h => nomatch h)⟩)
    inok := ⟨(List.forall_mem_cons.mpr ⟨(List.forall_mem_cons.mpr ⟨sf_Table_NoneType, (List.forall_mem_cons.mpr ⟨sf_Table_bool, (List.forall_mem_cons.mpr ⟨sf_Table_int, (List.forall_mem_cons.mpr ⟨sf_Table_str, (List.forall_mem_cons.mpr ⟨sf_Table_tuple, (List.forall_mem_cons.mpr ⟨sf_Table_list, (fun _ h => nomatch h)⟩)⟩)⟩)⟩)⟩)⟩), (fun _ h => nomatch h)⟩)⟩
    eqok := ⟨(List.forall_mem_cons.mpr ⟨(List.forall_mem_cons.mpr ⟨nf_Table_NoneType, (List.forall_mem_cons.mpr ⟨nf_Table_bool, (List.forall_mem_cons.mpr ⟨nf_Table_int, (List.forall_mem_cons.mpr ⟨nf_Table_str, (List.forall_mem_cons.mpr ⟨nf_Table_tuple, (List.forall_mem_cons.mpr ⟨nf_Table_list, (fun _ h => nomatch h)⟩)⟩)⟩)⟩)⟩)⟩), (fun _ h => nomatch h)⟩), (List.forall_mem_cons.mpr ⟨(List.forall_mem_cons.mpr ⟨ng_Table_Table, (fun _ h => nomatch h)⟩), (fun _ h => nomatch h)⟩), (List.forall_mem_cons.mpr ⟨⟨⟨pg_Table, hD_Table, po_Table, sa_Table⟩, ka_Table, kn_Table, kt_Table, km_Table⟩, (fun _ h => nomatch h)⟩)⟩
    fo_bounds := ⟨fun c i h => match c, h with
      | 5, h => by cases h; exact ⟨rfl, nd_Table, nl_Table, ⟨pg_Table, hD_Table, po_Table, sa_Table⟩, na_Table_bounds⟩⟩
    fo_kept := ⟨fun c i h => match c, h with
      | 5, h => by cases h; exact ⟨rfl, nd_Table, nl_Table, ⟨pg_Table, hD_Table, po_Table, sa_Table⟩, na_Table_kept⟩⟩
    B_Table___init___2_ := callB_n fun us ws h1 h2 => match us, h1, ws, h2 with | [_, _], _, [], _ => rfl
    B_Table_between_3_ := callB_n fun us ws h1 h2 => match us, h1, ws, h2 with | [_, _, _], _, [], _ => rfl
    B_Table_cut_3_ := callB_d lT30 rfl (.cons rfl .nil) fun us ws h1 h2 => match us, h1, ws, h2 with | [_, _, _], _, [], _ => ⟨_, rfl, rfl⟩
    B_Table_cut_4_ := callB_d lT30 rfl (.cons rfl .nil) fun us ws h1 h2 => match us, h1, ws, h2 with | [_, _, _, _], _, [], _ => ⟨_, rfl, rfl⟩
    B_Table_ends_1_ := callB_n fun us ws h1 h2 => match us, h1, ws, h2 with | [_], _, [], _ => rfl
    B_Table_total_1_ := callB_n fun us ws h1 h2 => match us, h1, ws, h2 with | [_], _, [], _ => rfl
    B_Table_worth_3_ := callB_d lT29 rfl (.cons rfl (.cons rfl .nil)) fun us ws h1 h2 => match us, h1, ws, h2 with | [_, _, _], _, [], _ => ⟨_, rfl, rfl⟩
    B_fraction_of_2_ := callB_d lT11 rfl (.cons ⟨_, rfl⟩ .nil) fun us ws h1 h2 => match us, h1, ws, h2 with | [_, _], _, [], _ => ⟨_, rfl, rfl⟩
    z_abs := PySem.W.mg_none_of X G z_abs
    z_all := PySem.W.mg_none_of X G z_all
    z_enumerate := PySem.W.mg_none_of X G z_enumerate
    z_isinstance := PySem.W.mg_none_of X G z_isinstance
    z_len := PySem.W.mg_none_of X G z_len
    z_list := PySem.W.mg_none_of X G z_list
    z_range := PySem.W.mg_none_of X G z_range
    z_sum := PySem.W.mg_none_of X G z_sum
    m_FIRST := PySem.W.mg_of X G m_FIRST
    i_FIRST := fun as H => (.tup (xs := [(.int 0), (.int 1)]) (.inr ⟨_, _, _, l_a_FIRST_0, rfl, rfl, show 2 ≤ sizeLine by decide, (.cons ⟨_, rfl⟩ (.cons ⟨_, rfl⟩ .nil))⟩) (.cons (.int _) (.cons (.int _) .nil)))
    m_LAST := PySem.W.mg_of X G m_LAST
    i_LAST := fun as H => (.tup (xs := [(.int 1), (.int 1)]) (.inr ⟨_, _, _, l_a_LAST_0, rfl, rfl, show 2 ≤ sizeLine by decide, (.cons ⟨_, rfl⟩ (.cons ⟨_, rfl⟩ .nil))⟩) (.cons (.int _) (.cons (.int _) .nil)))
    m_MOST_STRETCHES := PySem.W.mg_of X G m_MOST_STRETCHES
    m_MOST_WIDTH := PySem.W.mg_of X G m_MOST_WIDTH
    m_MOST_WORTH := PySem.W.mg_of X G m_MOST_WORTH
    x_NoFraction := x_NoFraction
    k_NoFraction := k_NoFraction
    x_NoSpan := x_NoSpan
    k_NoSpan := k_NoSpan
    x_NoTable := x_NoTable
    k_NoTable := k_NoTable
    x_NoWorth := x_NoWorth
    k_NoWorth := k_NoWorth
    sb_NoFraction := sb_NoFraction
    t_NoFraction := t_NoFraction
    sb_NoTable := sb_NoTable
    t_NoTable := t_NoTable
    sb_NoSpan := sb_NoSpan
    t_NoSpan := t_NoSpan
    sb_NoWorth := sb_NoWorth
    t_NoWorth := t_NoWorth }
  exact ⟨A.d_law, fun s v => .of_eq rfl, fun base _ _ => (ok_law (T base)).imp fun vs H Q E q => law_imp (G := GG K A) rfl law_true vs H Q E q⟩
theorem all_h {l : PySem.W.OpenLaw} {w : World} {K : PySem.W.Frag} {h : Heap} {mg : Str → Option Value} {fa : Addr} (X : K.In h) (G : h.Ns mainGlobals mg) (hfa : mg "law" = some (.ref fa)) (c : ∀ c ∈ chs, SaysC h K c) :
    ∃ fd : FuncData, (∀ (s : Shared) (v : Value), BindsTo s fd ⟨[v], []⟩ [("_law_script", v)]) ∧ ∀ base : Heap, K.In base → base.Ns mainGlobals mg → FnOk l.prog w K mg base (L2.CX l.prog w) 7 fa fd ["_law_script"] (spLaw K) := by
  have C0 : SaysC h K ch0 := c _ (by simp [chs])
  have y0_0 : hEx0 K = true := C0.more
  have C1 : SaysC h K ch1 := c _ (by simp [chs])
  have y1_0 : hEx1 K = true := C1.more
  obtain ⟨_, F0⟩ := C0.d.def_ 0 (d := hd0) rfl
  have D0 : DefB K "divisor" "divisor" s_divisor (He.fAd K ("divisor", none)) := fun_of (st := s_divisor) F0
  obtain ⟨_, F1⟩ := C0.d.def_ 1 (d := hd1) rfl
  have D1 : DefB K "is_less" "is_less" s_is_less (He.fAd K ("is_less", none)) := fun_of (st := s_is_less) F1
  obtain ⟨_, F2⟩ := C0.d.def_ 2 (d := hd2) rfl
  have D2 : DefB K "is_stretch" "is_stretch" s_is_stretch (He.fAd K ("is_stretch", none)) := fun_of (st := s_is_stretch) F2
  obtain ⟨_, F3⟩ := C0.d.def_ 3 (d := hd3) rfl
  have D3 : DefB K "total" "Table.total" s_Table_total (He.fAd K ("Table", some "total")) := fun_of (st := s_Table_total) F3
  obtain ⟨_, F4⟩ := C0.d.def_ 4 (d := hd4) rfl
  have D4 : DefB K "ends" "Table.ends" s_Table_ends (He.fAd K ("Table", some "ends")) := fun_of (st := s_Table_ends) F4
  obtain ⟨_, F5⟩ := C0.d.def_ 5 (d := hd5) rfl
  have D5 : DefB K "__len__" "Table.__len__" s_Table___len__ (He.fAd K ("Table", some "__len__")) := fun_of (st := s_Table___len__) F5
  obtain ⟨_, F6⟩ := C0.d.def_ 6 (d := hd6) rfl
  have D6 : DefB K "__eq__" "Table.__eq__" s_Table___eq__ (He.fAd K ("Table", some "__eq__")) := fun_of (st := s_Table___eq__) F6
  obtain ⟨_, F7⟩ := C0.d.def_ 7 (d := hd7) rfl
  have D7 : DefB K "_law_box" "_law_box" s_law_box (He.fAd K ("_law_box", none)) := fun_of (st := s_law_box) F7
  obtain ⟨_, F8⟩ := C0.d.def_ 8 (d := hd8) rfl
  have D8 : DefB K "_law_mixed" "_law_mixed" s_law_mixed (He.fAd K ("_law_mixed", none)) := fun_of (st := s_law_mixed) F8
  obtain ⟨_, F9⟩ := C0.d.def_ 9 (d := hd9) rfl
  have D9 : DefB K "_law_low" "_law_low" s_law_low (He.fAd K ("_law_low", none)) := fun_of (st := s_law_low) F9
  obtain ⟨_, F10⟩ := C0.d.def_ 10 (d := hd10) rfl
  have D10 : DefB K "_law_less" "_law_less" s_law_less (He.fAd K ("_law_less", none)) := fun_of (st := s_law_less) F10
  obtain ⟨_, F11⟩ := C0.d.def_ 11 (d := hd11) rfl
  have D11 : DefB1 K "fraction_of" "fraction_of" s_fraction_of (He.fAd K ("fraction_of", none)) 1 := fun_of1 (st := s_fraction_of) F11
  obtain ⟨_, F12⟩ := C0.d.def_ 12 (d := hd12) rfl
  have D12 : DefB K "lesser" "lesser" s_lesser (He.fAd K ("lesser", none)) := fun_of (st := s_lesser) F12
  obtain ⟨_, F13⟩ := C0.d.def_ 13 (d := hd13) rfl
  have D13 : DefB K "greater" "greater" s_greater (He.fAd K ("greater", none)) := fun_of (st := s_greater) F13
  obtain ⟨_, F14⟩ := C0.d.def_ 14 (d := hd14) rfl
  have D14 : DefB K "ask_span" "ask_span" s_ask_span (He.fAd K ("ask_span", none)) := fun_of (st := s_ask_span) F14
  obtain ⟨_, F15⟩ := C0.d.def_ 15 (d := hd15) rfl
  have D15 : DefB K "_law_take" "_law_take" s_law_take (He.fAd K ("_law_take", none)) := fun_of (st := s_law_take) F15
  obtain ⟨_, F16⟩ := C0.d.def_ 16 (d := hd16) rfl
  have D16 : DefB K "_law_plus" "_law_plus" s_law_plus (He.fAd K ("_law_plus", none)) := fun_of (st := s_law_plus) F16
  obtain ⟨_, F17⟩ := C1.d.def_ 0 (d := hd17) rfl
  have D17 : DefB K "_law_turned" "_law_turned" s_law_turned (He.fAd K ("_law_turned", none)) := fun_of (st := s_law_turned) F17
  obtain ⟨_, F18⟩ := C1.d.def_ 1 (d := hd18) rfl
  have D18 : DefB K "plus" "plus" s_plus (He.fAd K ("plus", none)) := fun_of (st := s_plus) F18
  obtain ⟨_, F19⟩ := C1.d.def_ 2 (d := hd19) rfl
  have D19 : DefB K "minus" "minus" s_minus (He.fAd K ("minus", none)) := fun_of (st := s_minus) F19
  obtain ⟨_, F20⟩ := C1.d.def_ 3 (d := hd20) rfl
  have D20 : DefB K "times" "times" s_times (He.fAd K ("times", none)) := fun_of (st := s_times) F20
  obtain ⟨_, F21⟩ := C1.d.def_ 4 (d := hd21) rfl
  have D21 : DefB K "over" "over" s_over (He.fAd K ("over", none)) := fun_of (st := s_over) F21
  obtain ⟨_, F22⟩ := C1.d.def_ 5 (d := hd22) rfl
  have D22 : DefB K "bounds_of" "bounds_of" s_bounds_of (He.fAd K ("bounds_of", none)) := fun_of (st := s_bounds_of) F22
  obtain ⟨_, F23⟩ := C1.d.def_ 6 (d := hd23) rfl
  have D23 : DefB K "_law_place" "_law_place" s_law_place (He.fAd K ("_law_place", none)) := fun_of (st := s_law_place) F23
  obtain ⟨_, F24⟩ := C1.d.def_ 7 (d := hd24) rfl
  have D24 : DefB K "_law_rows" "_law_rows" s_law_rows (He.fAd K ("_law_rows", none)) := fun_of (st := s_law_rows) F24
  obtain ⟨_, F25⟩ := C1.d.def_ 8 (d := hd25) rfl
  have D25 : DefB K "__init__" "Table.__init__" s_Table___init__ (He.fAd K ("Table", some "__init__")) := fun_of (st := s_Table___init__) F25
  obtain ⟨_, F26⟩ := C1.d.def_ 9 (d := hd26) rfl
  have D26 : DefB K "between" "Table.between" s_Table_between (He.fAd K ("Table", some "between")) := fun_of (st := s_Table_between) F26
  obtain ⟨_, F27⟩ := C1.d.def_ 10 (d := hd27) rfl
  have D27 : DefB K "_law_spot" "_law_spot" s_law_spot (He.fAd K ("_law_spot", none)) := fun_of (st := s_law_spot) F27
  obtain ⟨_, F28⟩ := C1.d.def_ 11 (d := hd28) rfl
  have D28 : DefB K "_law_made" "_law_made" s_law_made (He.fAd K ("_law_made", none)) := fun_of (st := s_law_made) F28
  obtain ⟨_, F29⟩ := C1.d.def_ 12 (d := hd29) rfl
  have D29 : DefB00 K "worth" "Table.worth" s_Table_worth (He.fAd K ("Table", some "worth")) := fun_of00 (st := s_Table_worth) F29
  obtain ⟨_, F30⟩ := C1.d.def_ 13 (d := hd30) rfl
  have D30 : DefB0 K "cut" "Table.cut" s_Table_cut (He.fAd K ("Table", some "cut")) := fun_of0 (st := s_Table_cut) F30
  obtain ⟨_, F31⟩ := C1.d.def_ 14 (d := hd31) rfl
  have D31 : DefB K "_law_cuts_right" "_law_cuts_right" s_law_cuts_right (He.fAd K ("_law_cuts_right", none)) := fun_of (st := s_law_cuts_right) F31
  obtain ⟨_, F32⟩ := C1.d.def_ 15 (d := hd32) rfl
  have D32 : DefB K "law" "law" s_law (He.fAd K ("law", none)) := fun_of (st := s_law) F32
  have y0_1 := (He.ba y0_0).2
  have Y0 := fx0_ok (He.ba y0_0).1
  have y0_2 := (He.ba y0_1).2
  have Y1 := fx1_ok (He.ba y0_1).1
  have y0_3 := (He.ba y0_2).2
  have Y2 := fx2_ok (He.ba y0_2).1
  have y1_1 := (He.ba y1_0).2
  have Y3 := fx3_ok (He.ba y1_0).1
  have y1_2 := (He.ba y1_1).2
  have Y4 := fx4_ok (He.ba y1_1).1
  exact all_mk X G hfa (a_FIRST_0 := (He.ga K "FIRST")) (a_LAST_0 := (He.ga K "LAST")) (c_NoFraction := (He.ga K "NoFraction")) (c_NoSpan := (He.ga K "NoSpan")) (c_NoTable := (He.ga K "NoTable")) (c_NoWorth := (He.ga K "NoWorth")) (c_Table := (He.ga K "Table")) (f0 := (He.fAd K ("divisor", none))) (f1 := (He.fAd K ("is_less", none))) (f2 := (He.fAd K ("is_stretch", none))) (f3 := (He.fAd K ("Table", some "total"))) (f4 := (He.fAd K ("Table", some "ends"))) (f5 := (He.fAd K ("Table", some "__len__"))) (f6 := (He.fAd K ("Table", some "__eq__"))) (f7 := (He.fAd K ("_law_box", none))) (f8 := (He.fAd K ("_law_mixed", none))) (f9 := (He.fAd K ("_law_low", none))) (f10 := (He.fAd K ("_law_less", none))) (f11 := (He.fAd K ("fraction_of", none))) (f12 := (He.fAd K ("lesser", none))) (f13 := (He.fAd K ("greater", none))) (f14 := (He.fAd K ("ask_span", none))) (f15 := (He.fAd K ("_law_take", none))) (f16 := (He.fAd K ("_law_plus", none))) (f17 := (He.fAd K ("_law_turned", none))) (f18 := (He.fAd K ("plus", none))) (f19 := (He.fAd K ("minus", none))) (f20 := (He.fAd K ("times", none))) (f21 := (He.fAd K ("over", none))) (f22 := (He.fAd K ("bounds_of", none))) (f23 := (He.fAd K ("_law_place", none))) (f24 := (He.fAd K ("_law_rows", none))) (f25 := (He.fAd K ("Table", some "__init__"))) (f26 := (He.fAd K ("Table", some "between"))) (f27 := (He.fAd K ("_law_spot", none))) (f28 := (He.fAd K ("_law_made", none))) (f29 := (He.fAd K ("Table", some "worth"))) (f30 := (He.fAd K ("Table", some "cut"))) (f31 := (He.fAd K ("_law_cuts_right", none))) (f32 := (He.fAd K ("law", none))) D0 D1 D2 D3 D4 D5 D6 D7 D8 D9 D10 D11 D12 D13 D14 D15 D16 D17 D18 D19 D20 D21 D22 D23 D24 D25 D26 D27 D28 D29 D30 D31 D32 Y0 Y1 Y2 Y3 Y4 
end Dn
open PySem PySem.W PySem.Calls PyProof.Rows
set_option maxRecDepth 100000 in
set_option maxHeartbeats 0 in
theorem PySem.Challenge.cw_halfcrumb_k08_whole_worths_and_cuts_holds : PySem.Challenge.rw_halfcrumb_k08_whole_worths_and_cuts.Holds := by
  w_on; o_law
  refine HandSHeadRun.head_any (r := OpenLaw.row PySem.Challenge.rw_halfcrumb_k08_whole_worths_and_cuts) (q := view (OpenLaw.row PySem.Challenge.rw_halfcrumb_k08_whole_worths_and_cuts).prog [39]) (H := Dn.hookL Dn.ads Dn.chs) (ob := Dn.obL Dn.ads Dn.chs) (M := 20000) (loose := Dn.loose) (d := HandSHeadRun.topDef (OpenLaw.row PySem.Challenge.rw_halfcrumb_k08_whole_worths_and_cuts).prog 39) (kwd := []) (Dn.obL_eq Dn.ads Dn.chs)
    (by kernel_rfl) (fun s => by kernel_rfl) Dn.run (by kernel_rfl) (by kernel_rfl) (by kernel_rfl) (by rfl) (by first | assumption | decide +kernel) (by decide +kernel) ⟨rfl, rfl, rfl, rfl, rfl, by decide +kernel⟩ ?hw ?hc
  case hw => w_witness2
  case hc =>
    refine Dn.walkLE (k := 7) (x := "_law_script") ⟨rfl, by decide, by decide⟩ (l := PySem.Challenge.rw_halfcrumb_k08_whole_worths_and_cuts) rfl (by kernel_rfl) ?F
    intro w mg fa h Y G hmg0
    obtain ⟨K, KX, c⟩ := Y
    have hmg : mg ("law" : PySem.Str) = some (.ref fa) := by
      have e : (HandSHeadRun.topDef (OpenLaw.row PySem.Challenge.rw_halfcrumb_k08_whole_worths_and_cuts).prog 39).name = ("law" : PySem.Str) := by kernel_rfl
      rw [← e]
      exact hmg0
    exact ⟨K, KX, Dn.all_h KX G hmg c⟩
