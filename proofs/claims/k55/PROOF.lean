import PyProof.Rows.All
import Wide.All
import OpenK.AllK
import Wide.FinOn
import HandS.Lambda
import HandS.EndTab
import HandS.ForMost
import HandS.ForExc
import HandS.TryMany
import HandS.Wide
import HandS.IsInst
import HandS.Defaults
import HandS.FStr
import HandS.StrMore
import HandS.TupAny
import HandS.ExcIs
import HandS.EndBits
import HandS.Style
import HandS.Deep
import HandS.Steps
import HandS.Conv
import HandS.More
import KE.KFmtOwn
import HandS.RaiseMore
import HandS.SortRule
import HandS.SortInts
import HandS.TryOnly
import HandS.ExcInit
import HandS.ExcField
import HandS.ClsMeth
import HandS.GenList
import HandS.Keys
import KE.KDictZip
import HandS.SetFor
import HandS.Zip
import HandS.Dict
import HandS.Set
import HandS.Strs
import HandS.OwnEq
import KE.GoesMore
import KE.GoesZip
import KE.GoesEnum
import PyProof.Rows.SetFrom
import KE.KRevSl
import HandS.HeadWalk
import HandS.Head0
import HandS.Head1
import HandS.Head2
import HandS.HeadEnd
import HandS.HeadHook1
import HandS.HeadHook2
import HandS.HeadHook3
import HandS.HeadHook4
import PyProof.Rows.StrDigitsNeg
import PyProof.Rows.ReprOcc
import PySem.Challenge.RW_halfcrumb_k55_fewest_cuts
set_option Elab.async false
set_option linter.all false
set_option maxRecDepth 100000
set_option exponentiation.threshold 5000
set_option maxHeartbeats 40000000
namespace LamP
open PySem PySem.Spec PyProof.Rows L2 LamX
structure LamN (sc scope : Scope) (a b : Str) : Prop where
  kind : scope.kind = .function
  co : scope.isCoroutine = false
  gen : scope.isGenerator = false
  own : ∀ y ∈ scope.names, y.2 ≠ .cell ∧ (y.2 = .local → y.1 = a ∨ y.1 = b)
  pa : scope.names.lookup a = some .local
  pb : scope.names.lookup b = some .local
  ne : a ≠ b
  free : ∀ y ∈ scope.names, y.2 = .free → sc.names.lookup y.1 = some .cell ∨ sc.names.lookup y.1 = some .free
theorem nd_ix {N : List Str} (h : N.Nodup) {i j : Nat} {y : Str} (hi : N[i]? = some y) (hj : N[j]? = some y) : i = j := by
  have hil := (List.getElem?_eq_some_iff.mp hi).1
  have e := hi.trans hj.symm
  exact (List.getElem?_inj hil h).mp e
end LamP
namespace Dn
open PySem PySem.Spec PyProof.Rows L2
inductive D where
  | non | bl (b : Bool) | int (i : Int) | str (x : Str) | tup (l : List D) | lst (l : List D) | obj (c : Nat) (l : List D) | scr (l : List Int) | ptr (n : Nat)
inductive Ob where | lst (l : List D) | ins (c : Nat) (l : List D) | tbl (q : Str) | dct (l : List (Str × D))
abbrev Sto := List Ob
structure Gm where
  K : PySem.W.Frag
  ca : Nat → Addr
  fn : Nat → List Str
  ea : Addr
  cl : List (Option V) := []
  cc : Addr := 0
  cq : Str := Str.empty
  tb : List Addr := []
  ed : Option Addr := none
  en : List Str := []
  el : List D := []
structure Hs where
  as : List Addr
  f : Hp
  h : Hp
mutual
inductive Is (G : Gm) (as : List Addr) (H : Hp) : V → D → Prop
  | non : Is G as H .non .non
  | bl (b : Bool) : Is G as H (.bl b) (.bl b)
  | int (i : Int) : Is G as H (.int i) (.int i)
  | str (x : Str) : Is G as H (.str x) (.str x)
  | tup {a : Addr} {xs : List V} {ds : List D} : SqT G.K H a xs → IsL G as H xs ds → Is G as H (.ref a) (.tup ds)
  | lst {a : Addr} {xs : List V} {ds : List D} : H a = some (.lst xs) → IsL G as H xs ds → Is G as H (.ref a) (.lst ds)
  | obj {a dx : Addr} {c : Nat} {xs : List V} {ds : List D} : H a = some (.ins (G.ca c) dx ((G.fn c).zip xs)) → (G.fn c).length = xs.length → IsL G as H xs ds → Is G as H (.ref a) (.obj c ds)
  | scr {a : Addr} {l : List Int} : SqL G.K H a (l.map V.int) → Is G as H (.ref a) (.scr l)
  | ptr {a : Addr} {n : Nat} : as[n]? = some a → Is G as H (.ref a) (.ptr n)
inductive IsL (G : Gm) (as : List Addr) (H : Hp) : List V → List D → Prop
  | nil : IsL G as H [] []
  | cons {v : V} {vs : List V} {d : D} {ds : List D} : Is G as H v d → IsL G as H vs ds → IsL G as H (v :: vs) (d :: ds)
end
def Ext (as bs : List Addr) : Prop := ∀ (n : Nat) (a : Addr), as[n]? = some a → bs[n]? = some a
theorem Ext.refl (as : List Addr) : Ext as as := fun _ _ h => h
theorem Ext.trans {as bs cs : List Addr} (x : Ext as bs) (y : Ext bs cs) : Ext as cs := fun n a h => y n a (x n a h)
theorem Ext.mem {as bs : List Addr} (x : Ext as bs) {a : Addr} (h : a ∈ as) : a ∈ bs := by
  obtain ⟨n, hn⟩ := List.mem_iff_getElem?.mp h
  exact List.mem_iff_getElem?.mpr ⟨n, x n a hn⟩
theorem Ext.app (as bs : List Addr) : Ext as (as ++ bs) := fun n a h => by
  rw [List.getElem?_append_left (List.getElem?_eq_some_iff.mp h).1]; exact h
theorem same_t {K : PySem.W.Frag} {H H' : Hp} {a : Addr} {xs : List V} (e : Same H H') (h : SqT K H a xs) : SqT K H' a xs := by
  rcases h with (h | ⟨o, h⟩) | h
  · exact .inl (.inl (e _ _ h))
  · exact .inl (.inr ⟨o, e _ _ h⟩)
  · exact .inr h
mutual
theorem Is.mono {G : Gm} {as bs : List Addr} {H H' : Hp} (x : Ext as bs) (e : Same H H') : ∀ (d : D) {v : V}, Is G as H v d → Is G bs H' v d
  | .non, _, h => by cases h; exact .non
  | .bl _, _, h => by cases h; exact .bl _
  | .int _, _, h => by cases h; exact .int _
  | .str _, _, h => by cases h; exact .str _
  | .tup ds, _, h => by cases h with | tup a b => exact .tup (same_t e a) (IsL.mono x e ds b)
  | .lst ds, _, h => by cases h with | lst a b => exact .lst (e _ _ a) (IsL.mono x e ds b)
  | .scr l, _, h => by cases h with | scr a => exact .scr (e.seq a)
  | .ptr n, _, h => by cases h with | ptr a => exact .ptr (x _ _ a)
  | .obj c ds, _, h => by cases h with | obj a l b => exact .obj (e _ _ a) l (IsL.mono x e ds b)
theorem IsL.mono {G : Gm} {as bs : List Addr} {H H' : Hp} (x : Ext as bs) (e : Same H H') : ∀ (ds : List D) {vs : List V}, IsL G as H vs ds → IsL G bs H' vs ds
  | [], _, h => by cases h; exact .nil
  | d :: ds, _, h => by cases h with | cons a b => exact .cons (Is.mono x e d a) (IsL.mono x e ds b)
end
def Gm.at_ (G : Gm) (a : Addr) : Gm := { G with ea := a }
mutual
theorem Is.ea {G : Gm} {as : List Addr} {H : Hp} (x : Addr) : ∀ (d : D) {v : V}, Is G as H v d → Is (G.at_ x) as H v d
  | .non, _, h => by cases h; exact .non
  | .bl _, _, h => by cases h; exact .bl _
  | .int _, _, h => by cases h; exact .int _
  | .str _, _, h => by cases h; exact .str _
  | .tup ds, _, h => by cases h with | tup a b => exact .tup a (IsL.ea x ds b)
  | .lst ds, _, h => by cases h with | lst a b => exact .lst a (IsL.ea x ds b)
  | .scr l, _, h => by cases h with | scr a => exact .scr a
  | .ptr n, _, h => by cases h with | ptr a => exact .ptr a
  | .obj c ds, _, h => by cases h with | obj a l b => exact .obj a l (IsL.ea x ds b)
theorem IsL.ea {G : Gm} {as : List Addr} {H : Hp} (x : Addr) : ∀ (ds : List D) {vs : List V}, IsL G as H vs ds → IsL (G.at_ x) as H vs ds
  | [], _, h => by cases h; exact .nil
  | d :: ds, _, h => by cases h with | cons a b => exact .cons (Is.ea x d a) (IsL.ea x ds b)
end
section
variable {G : Gm} {as bs : List Addr} {H H' : Hp}
theorem Is.up {v : V} {d : D} (h : Is G as H v d) (x : Ext as bs) (e : Same H H') : Is G bs H' v d := Is.mono x e d h
theorem IsL.up {v : List V} {d : List D} (h : IsL G as H v d) (x : Ext as bs) (e : Same H H') : IsL G bs H' v d := IsL.mono x e d h
theorem IsL.len : ∀ {ds : List D} {vs : List V}, IsL G as H vs ds → vs.length = ds.length
  | [], _, h => by cases h; rfl
  | d :: ds, _, h => by cases h with | cons a b => exact congrArg Nat.succ b.len
theorem IsL.get : ∀ {ds : List D} {vs : List V} {i : Nat} {d : D}, IsL G as H vs ds → ds[i]? = some d → ∃ v, vs[i]? = some v ∧ Is G as H v d
  | [], _, _, _, _, e => by simp at e
  | d :: ds, _, 0, _, h, e => by cases h with | cons a b => simp at e; subst e; exact ⟨_, rfl, a⟩
  | d :: ds, _, i + 1, _, h, e => by
    cases h with
    | cons a b =>
      obtain ⟨v, h1, h2⟩ := IsL.get (i := i) b (by simpa using e)
      exact ⟨v, by simpa using h1, h2⟩
theorem IsL.getV {ds : List D} {vs : List V} {i : Nat} {v : V} (h : IsL G as H vs ds) (e : vs[i]? = some v) : ∃ d, ds[i]? = some d ∧ Is G as H v d := by
  have hl := h.len
  have hi : i < vs.length := (List.getElem?_eq_some_iff.mp e).1
  have : ds[i]? = some (ds[i]'(by omega)) := List.getElem?_eq_getElem (by omega)
  obtain ⟨w, h1, h2⟩ := h.get this
  rw [e] at h1
  cases h1
  exact ⟨_, this, h2⟩
theorem IsL.append : ∀ {ds es : List D} {vs ws : List V}, IsL G as H vs ds → IsL G as H ws es → IsL G as H (vs ++ ws) (ds ++ es)
  | [], _, _, _, h, k => by cases h; exact k
  | d :: ds, _, _, _, h, k => by cases h with | cons a b => exact .cons a (IsL.append b k)
theorem IsL.one {v : V} {d : D} (h : Is G as H v d) : IsL G as H [v] [d] := .cons h .nil
theorem IsL.take : ∀ (n : Nat) {ds : List D} {vs : List V}, IsL G as H vs ds → IsL G as H (vs.take n) (ds.take n)
  | 0, _, _, _ => .nil
  | n + 1, [], _, h => by cases h; exact .nil
  | n + 1, d :: ds, _, h => by cases h with | cons a b => exact .cons a (IsL.take n b)
theorem IsL.drop : ∀ (n : Nat) {ds : List D} {vs : List V}, IsL G as H vs ds → IsL G as H (vs.drop n) (ds.drop n)
  | 0, _, _, h => h
  | n + 1, [], _, h => by cases h; exact .nil
  | n + 1, d :: ds, _, h => by cases h with | cons a b => exact IsL.drop n b
theorem IsL.set {v : V} {d : D} (q : Is G as H v d) : ∀ (n : Nat) {ds : List D} {vs : List V}, IsL G as H vs ds → IsL G as H (vs.set n v) (ds.set n d)
  | _, [], _, h => by cases h; exact .nil
  | 0, _ :: ds, _, h => by cases h with | cons a b => exact .cons q b
  | n + 1, _ :: ds, _, h => by cases h with | cons a b => exact .cons a (IsL.set q n b)
theorem IsL.eraseIdx : ∀ (n : Nat) {ds : List D} {vs : List V}, IsL G as H vs ds → IsL G as H (vs.eraseIdx n) (ds.eraseIdx n)
  | _, [], _, h => by cases h; exact .nil
  | 0, _ :: ds, _, h => by cases h with | cons a b => exact b
  | n + 1, _ :: ds, _, h => by cases h with | cons a b => exact .cons a (IsL.eraseIdx n b)
theorem IsL.reverse : ∀ {ds : List D} {vs : List V}, IsL G as H vs ds → IsL G as H vs.reverse ds.reverse
  | [], _, h => by cases h; exact .nil
  | d :: ds, _, h => by
    cases h with
    | cons a b =>
      rw [List.reverse_cons, List.reverse_cons]
      exact (IsL.reverse b).append (.one a)
inductive KsR (G : Gm) (as : List Addr) (H : Hp) : List (Key × V) → List (Str × D) → Prop
  | nil : KsR G as H [] []
  | cons {x : Str} {v : V} {d : D} {ps : List (Key × V)} {ds : List (Str × D)} : Is G as H v d → KsR G as H ps ds → KsR G as H ((.inr x, v) :: ps) ((x, d) :: ds)
theorem KsR.up {ps : List (Key × V)} {ds : List (Str × D)} (h : KsR G as H ps ds) (x : Ext as bs) (e : Same H H') : KsR G bs H' ps ds := by
  induction h with
  | nil => exact .nil
  | cons a b ih => exact .cons (a.up x e) ih
theorem KsR.ea {ps : List (Key × V)} {ds : List (Str × D)} (x : Addr) (h : KsR G as H ps ds) : KsR (G.at_ x) as H ps ds := by
  induction h with
  | nil => exact .nil
  | cons a b ih => exact .cons (Is.ea x _ a) ih
def flat : D → Bool
  | .non | .bl _ | .int _ | .str _ => true
  | _ => false
theorem Is.flat (bs : List Addr) (H' : Hp) {v : V} {d : D} (h : Is G as H v d) (f : flat d = true) : Is G bs H' v d := by
  cases h <;> first | exact .non | exact .bl _ | exact .int _ | exact .str _ | cases f
end
theorem same_new {H : Hp} {p : Addr} {o : HO} (h : H p = none) : Same H (upd H p o) := fun a u e => by
  rw [upd_ne (ne_of_none e h)]
  exact e
structure Gro (s t : Hs) : Prop where
  a : Ext s.as t.as
  f : Same s.f t.f
  h : ∀ p o, s.h p = some o → p ∉ s.as → t.h p = some o
  sf : Same t.f t.h
  n : ∀ p o, s.h p = some o → s.f p = none → t.f p = none
  w : ∀ x, x ∈ t.as → x ∈ s.as ∨ s.h x = none
  z : ∀ x, x ∈ t.as → t.f x = none
theorem Gro.trans {s t u : Hs} (x : Gro s t) (y : Gro t u) : Gro s u where
  a := x.a.trans y.a
  f := x.f.trans y.f
  h := fun p o e q => y.h p o (x.h p o e q) fun m => (x.w p m).elim q fun z => by rw [e] at z; cases z
  sf := y.sf
  n := fun p o e q => by
    by_cases m : p ∈ s.as
    · exact y.z p (y.a.mem (x.a.mem m))
    · exact y.n p o (x.h p o e m) (x.n p o e q)
  w := fun p m => (y.w p m).elim (fun m => x.w p m) fun z => by
    by_cases m : p ∈ s.as
    · exact .inl m
    · cases e : s.h p with
      | none => exact .inr rfl
      | some o => rw [x.h p o e m] at z; cases z
  z := y.z
def ObOk (G : Gm) (s : Hs) (a : Addr) : Ob → Prop
  | .lst ds => ∃ vs, s.h a = some (.lst vs) ∧ IsL G s.as s.f vs ds
  | .ins c ds => ∃ dx vs, s.h a = some (.ins (G.ca c) dx ((G.fn c).zip vs)) ∧ vs.length ≤ (G.fn c).length ∧ IsL G s.as s.f vs ds
  | .tbl q => ∃ ps : Array Value, s.h a = some (.tbl ps) ∧ TriplesOk ps.toList ∧ ∀ (pos : Pos) (cv : Value), codeAmong pos ps.toList = some cv → ∃ c, cv = .ref c ∧ s.f c = some (LamX.CodeO c q)
  | .dct l => ∃ kvs : List (Key × V), s.h a = some (.dK kvs) ∧ KsR G s.as s.f kvs l
def ExF (G : Gm) (s : Hs) : Prop := ∀ da, G.ed = some da → ∃ xs, s.f da = some (.xd (G.en.zip xs)) ∧ G.en.length = xs.length ∧ IsL G s.as s.f xs G.el
theorem ExF.up {G : Gm} {s t : Hs} (k : ExF G s) (a : Ext s.as t.as) (f : Same s.f t.f) : ExF G t := fun da h => by
  obtain ⟨xs, h1, h2, h3⟩ := k da h
  exact ⟨xs, f _ _ h1, h2, h3.up a f⟩
structure StOk (G : Gm) (s : Hs) (st : Sto) : Prop where
  sf : Same s.f s.h
  len : s.as.length = st.length
  nd : s.as.Nodup
  ob : ∀ (n : Nat) (a : Addr) (o : Ob), s.as[n]? = some a → st[n]? = some o → ObOk G s a o
  nf : ∀ x, x ∈ s.as → s.f x = none
  tb : ∀ (n : Nat) (P : Addr), G.tb[n]? = some P → s.as[n]? = some P
  ex : ExF G s
theorem Gro.refl {G : Gm} {s : Hs} {st : Sto} (o : StOk G s st) : Gro s s := ⟨Ext.refl _, Same.refl _, fun _ _ e _ => e, o.sf, fun _ _ _ q => q, fun _ m => .inl m, o.nf⟩
theorem StOk.in_ {G : Gm} {s : Hs} {st : Sto} (o : StOk G s st) {x : Addr} (m : x ∈ s.as) : ∃ u, s.h x = some u := by
  obtain ⟨n, hn⟩ := List.mem_iff_getElem?.mp m
  have hl : n < st.length := by rw [← o.len]; exact (List.getElem?_eq_some_iff.mp hn).1
  have q := o.ob n x st[n] hn (List.getElem?_eq_getElem hl)
  cases e : st[n] with
  | lst ds => rw [e] at q; obtain ⟨vs, h, _⟩ := q; exact ⟨_, h⟩
  | ins c ds => rw [e] at q; obtain ⟨dx, vs, h, _⟩ := q; exact ⟨_, h⟩
  | tbl w => rw [e] at q; obtain ⟨ps, h, _⟩ := q; exact ⟨_, h⟩
  | dct l => rw [e] at q; obtain ⟨ps, h, _⟩ := q; exact ⟨_, h⟩
theorem StOk.new {G : Gm} {s : Hs} {st : Sto} (o : StOk G s st) {p : Addr} (h : s.h p = none) : p ∉ s.as := fun m => by
  obtain ⟨u, e⟩ := o.in_ m
  rw [h] at e; cases e
theorem ObOk.keep {G : Gm} {s t : Hs} {a : Addr} {o : Ob} (q : ObOk G s a o) (x : Ext s.as t.as) (f : Same s.f t.f) (h : ∀ u, s.h a = some u → t.h a = some u) : ObOk G t a o := by
  cases o with
  | lst ds => obtain ⟨vs, h1, h2⟩ := q; exact ⟨vs, h _ h1, h2.up x f⟩
  | ins c ds => obtain ⟨dx, vs, h1, hl, h2⟩ := q; exact ⟨dx, vs, h _ h1, hl, h2.up x f⟩
  | tbl w =>
    obtain ⟨ps, h1, h2, h3⟩ := q
    refine ⟨ps, h _ h1, h2, fun pos cv hc => ?_⟩
    obtain ⟨c, e1, e2⟩ := h3 pos cv hc
    exact ⟨c, e1, f _ _ e2⟩
  | dct l => obtain ⟨kvs, h1, h2⟩ := q; exact ⟨kvs, h _ h1, h2.up x f⟩
theorem Gro.new {G : Gm} {s : Hs} {st : Sto} {p : Addr} {o : HO} (k : StOk G s st) (h : s.h p = none) : Gro s ⟨s.as, upd s.f p o, upd s.h p o⟩ := by
  refine ⟨Ext.refl _, same_new (k.sf.free h), fun a u e _ => ?_, fun a u e => ?_, fun a u e q => ?_, fun _ m => .inl m, fun x m => ?_⟩
  · show upd s.h p o a = some u
    rw [upd_ne (ne_of_none e h)]; exact e
  · have e' : upd s.f p o a = some u := e
    show upd s.h p o a = some u
    by_cases z : a = p
    · subst z; rw [upd_same] at e' ⊢; exact e'
    · rw [upd_ne z] at e' ⊢; exact k.sf _ _ e'
  · show upd s.f p o a = none
    rw [upd_ne (ne_of_none e h)]; exact q
  · show upd s.f p o x = none
    have : x ≠ p := fun z => by subst z; exact k.new h m
    rw [upd_ne this]; exact k.nf x m
theorem Gro.loose {G : Gm} {s : Hs} {st : Sto} {p : Addr} {o : HO} (k : StOk G s st) (h : s.h p = none) : Gro s ⟨s.as, s.f, upd s.h p o⟩ :=
  ⟨Ext.refl _, Same.refl _, fun a u e _ => by show upd s.h p o a = some u; rw [upd_ne (ne_of_none e h)]; exact e, k.sf.trans (same_new h), fun _ _ _ q => q, fun _ m => .inl m, k.nf⟩
theorem StOk.grow {G : Gm} {s : Hs} {st : Sto} {p : Addr} {o : HO} (k : StOk G s st) (h : s.h p = none) : StOk G ⟨s.as, upd s.f p o, upd s.h p o⟩ st := by
  have g := Gro.new (o := o) k h
  refine ⟨g.sf, k.len, k.nd, fun n a b e1 e2 => (k.ob n a b e1 e2).keep g.a g.f fun u e => ?_, g.z, k.tb, k.ex.up g.a g.f⟩
  show upd s.h p o a = some u
  rw [upd_ne (ne_of_none e h)]; exact e
theorem StOk.loose {G : Gm} {s : Hs} {st : Sto} {p : Addr} {o : HO} (k : StOk G s st) (h : s.h p = none) : StOk G ⟨s.as, s.f, upd s.h p o⟩ st := by
  have g := Gro.loose (o := o) k h
  refine ⟨g.sf, k.len, k.nd, fun n a b e1 e2 => (k.ob n a b e1 e2).keep g.a g.f fun u e => ?_, g.z, k.tb, k.ex.up g.a g.f⟩
  show upd s.h p o a = some u
  rw [upd_ne (ne_of_none e h)]; exact e
theorem Gro.ice {G : Gm} {s t : Hs} {st : Sto} {p : Addr} {o : HO} (g : Gro s t) (k : StOk G t st) (hp : t.h p = some o) (hs : s.h p = none) (hf : t.f p = none) (ha : p ∉ t.as) : Gro s ⟨t.as, upd t.f p o, t.h⟩ := by
  refine ⟨g.a, g.f.trans (same_new hf), g.h, fun a u e => ?_, fun a u e q => ?_, g.w, fun x m => ?_⟩
  · have e' : upd t.f p o a = some u := e
    show t.h a = some u
    by_cases z : a = p
    · subst z; rw [upd_same] at e'; rw [← e']; exact hp
    · rw [upd_ne z] at e'; exact g.sf _ _ e'
  · show upd t.f p o a = none
    rw [upd_ne (ne_of_none e hs)]; exact g.n _ _ e q
  · show upd t.f p o x = none
    have : x ≠ p := fun z => by subst z; exact ha m
    rw [upd_ne this]; exact g.z x m
theorem StOk.ice {G : Gm} {t : Hs} {st : Sto} {p : Addr} {o : HO} (k : StOk G t st) (hp : t.h p = some o) (hf : t.f p = none) (ha : p ∉ t.as) : StOk G ⟨t.as, upd t.f p o, t.h⟩ st := by
  refine ⟨fun a u e => ?_, k.len, k.nd, fun n a b e1 e2 => (k.ob n a b e1 e2).keep (Ext.refl _) (same_new hf) fun u e => e, fun x m => ?_, k.tb, k.ex.up (Ext.refl _) (same_new hf)⟩
  · have e' : upd t.f p o a = some u := e
    show t.h a = some u
    by_cases z : a = p
    · subst z; rw [upd_same] at e'; rw [← e']; exact hp
    · rw [upd_ne z] at e'; exact k.sf _ _ e'
  · show upd t.f p o x = none
    have : x ≠ p := fun z => by subst z; exact ha m
    rw [upd_ne this]; exact k.nf x m
theorem Gro.chg {s t : Hs} {p : Addr} {o : HO} (g : Gro s t) (h : s.h p = none) (hf : t.f p = none) : Gro s ⟨t.as, t.f, upd t.h p o⟩ :=
  ⟨g.a, g.f, fun a u e q => by show upd t.h p o a = some u; rw [upd_ne (ne_of_none e h)]; exact g.h _ _ e q, fun a u e => by show upd t.h p o a = some u; rw [upd_ne (ne_of_none e hf)]; exact g.sf _ _ e, g.n, g.w, g.z⟩
theorem StOk.chg {G : Gm} {t : Hs} {st : Sto} {p : Addr} {o : HO} (k : StOk G t st) (hf : t.f p = none) (ha : p ∉ t.as) : StOk G ⟨t.as, t.f, upd t.h p o⟩ st := by
  refine ⟨fun a u e => by show upd t.h p o a = some u; rw [upd_ne (ne_of_none e hf)]; exact k.sf _ _ e, k.len, k.nd, fun n a b e1 e2 => (k.ob n a b e1 e2).keep (Ext.refl _) (Same.refl _) fun u e => ?_, k.nf, k.tb, k.ex.up (Ext.refl _) (Same.refl _)⟩
  show upd t.h p o a = some u
  have : a ≠ p := fun z => by subst z; exact ha (List.mem_iff_getElem?.mpr ⟨n, e1⟩)
  rw [upd_ne this]; exact e
theorem Gro.put {G : Gm} {s t : Hs} {st : Sto} {p : Addr} (g : Gro s t) (k : StOk G t st) (hs : s.h p = none) (hf : t.f p = none) : Gro s ⟨t.as ++ [p], t.f, t.h⟩ := by
  refine ⟨g.a.trans (Ext.app _ _), g.f, g.h, g.sf, g.n, fun x m => ?_, fun x m => ?_⟩
  · rcases List.mem_append.mp m with m | m
    · exact g.w x m
    · have : x = p := by simpa using m
      subst this; exact .inr hs
  · rcases List.mem_append.mp m with m | m
    · exact g.z x m
    · have : x = p := by simpa using m
      subst this; exact hf
theorem StOk.put {G : Gm} {t : Hs} {st : Sto} {p : Addr} {o : Ob} (k : StOk G t st) (hf : t.f p = none) (ha : p ∉ t.as) (ho : ObOk G ⟨t.as ++ [p], t.f, t.h⟩ p o) : StOk G ⟨t.as ++ [p], t.f, t.h⟩ (st ++ [o]) := by
  refine ⟨k.sf, by simp [k.len], ?_, fun n a b e1 e2 => ?_, fun x m => ?_, fun n P h => Ext.app _ _ n P (k.tb n P h), k.ex.up (Ext.app _ _) (Same.refl _)⟩
  · show (t.as ++ [p]).Nodup
    rw [List.nodup_append]
    refine ⟨k.nd, by simp, fun a h1 b h2 z => ?_⟩
    have : b = p := by simpa using h2
    subst this; subst z; exact ha h1
  · have e1' : (t.as ++ [p])[n]? = some a := e1
    by_cases hn : n < t.as.length
    · rw [List.getElem?_append_left hn] at e1'
      rw [List.getElem?_append_left (by rw [← k.len]; exact hn)] at e2
      exact (k.ob n a b e1' e2).keep (Ext.app _ _) (Same.refl _) fun u e => e
    · have hn' : n = t.as.length := by
        have := (List.getElem?_eq_some_iff.mp e1').1
        simp at this; omega
      subst hn'
      rw [List.getElem?_append_right (Nat.le_refl _)] at e1'
      rw [k.len, List.getElem?_append_right (Nat.le_refl _)] at e2
      simp at e1' e2
      subst e1'; subst e2
      exact ho
  · rcases List.mem_append.mp m with m | m
    · exact k.nf x m
    · have : x = p := by simpa using m
      subst this; exact hf
theorem Gro.mod {G : Gm} {s t : Hs} {st : Sto} {n : Nat} {a : Addr} {o : HO} (g : Gro s t) (k : StOk G t st) (ha : t.as[n]? = some a) : Gro s ⟨t.as, t.f, upd t.h a o⟩ := by
  have m : a ∈ t.as := List.mem_iff_getElem?.mpr ⟨n, ha⟩
  refine ⟨g.a, g.f, fun p u e q => ?_, fun p u e => ?_, g.n, g.w, g.z⟩
  · show upd t.h a o p = some u
    have : p ≠ a := fun z => by
      subst z
      exact (g.w p m).elim q fun z => by rw [e] at z; cases z
    rw [upd_ne this]; exact g.h _ _ e q
  · show upd t.h a o p = some u
    have : p ≠ a := fun z => by
      subst z
      have := k.nf p m
      rw [show t.f p = some u from e] at this; cases this
    rw [upd_ne this]; exact k.sf _ _ e
theorem StOk.mod {G : Gm} {t : Hs} {st : Sto} {n : Nat} {a : Addr} {o : HO} {b : Ob} (k : StOk G t st) (ha : t.as[n]? = some a) (ho : ObOk G ⟨t.as, t.f, upd t.h a o⟩ a b) : StOk G ⟨t.as, t.f, upd t.h a o⟩ (st.set n b) := by
  have m : a ∈ t.as := List.mem_iff_getElem?.mpr ⟨n, ha⟩
  refine ⟨fun p u e => ?_, by simp [k.len], k.nd, fun j x c e1 e2 => ?_, k.nf, k.tb, k.ex.up (Ext.refl _) (Same.refl _)⟩
  · show upd t.h a o p = some u
    have : p ≠ a := fun z => by
      subst z
      have := k.nf p m
      rw [show t.f p = some u from e] at this; cases this
    rw [upd_ne this]; exact k.sf _ _ e
  · by_cases z : n = j
    · subst z
      rw [List.getElem?_set_self (by rw [← k.len]; exact (List.getElem?_eq_some_iff.mp ha).1)] at e2
      cases e2
      have e1' : t.as[n]? = some x := e1
      rw [ha] at e1'; cases e1'
      exact ho
    · rw [List.getElem?_set_ne z] at e2
      refine (k.ob j x c e1 e2).keep (Ext.refl _) (Same.refl _) fun u e => ?_
      show upd t.h a o x = some u
      have : x ≠ a := fun y => by
        subst y
        have e1' : t.as[j]? = some x := e1
        exact z (nd_ix k.nd ha e1')
      rw [upd_ne this]; exact e
inductive Md where | P | B | N
  deriving DecidableEq
def VOk (G : Gm) (s t : Hs) : Md → V → D → Prop
  | .P, v, d => Is G t.as t.f v d
  | .B, v, d => ∃ p vs l, v = .ref p ∧ d = .lst l ∧ t.h p = some (.lst vs) ∧ IsL G t.as t.f vs l ∧ p ∉ t.as
  | .N, v, d => ∃ p vs l, v = .ref p ∧ d = .lst l ∧ t.h p = some (.lst vs) ∧ IsL G t.as t.f vs l ∧ p ∉ t.as ∧ s.h p = none ∧ t.f p = none
def U (G : Gm) (t : Hs) (v : V) (d : D) : Prop := Is G t.as t.f v d ∨ ∃ p vs l, v = .ref p ∧ d = .lst l ∧ t.h p = some (.lst vs) ∧ IsL G t.as t.f vs l ∧ p ∉ t.as
section
variable {G : Gm} {s t t' : Hs} {v : V} {d : D} {m : Md}
theorem VOk.u (h : VOk G s t m v d) : U G t v d := by
  cases m with
  | P => exact .inl h
  | B => exact .inr h
  | N => obtain ⟨p, vs, l, a, b, c, e, f, _⟩ := h; exact .inr ⟨p, vs, l, a, b, c, e, f⟩
theorem U.up (h : U G t v d) (g : Gro t t') : U G t' v d := by
  rcases h with h | ⟨p, vs, l, a, b, c, e, f⟩
  · exact .inl (h.up g.a g.f)
  · exact .inr ⟨p, vs, l, a, b, g.h _ _ c f, e.up g.a g.f, fun m => (g.w p m).elim f fun z => by rw [c] at z; cases z⟩
theorem U.lst {l : List D} (h : U G t v (.lst l)) (s : Same t.f t.h) : ∃ p vs, v = .ref p ∧ t.h p = some (.lst vs) ∧ IsL G t.as t.f vs l := by
  rcases h with h | ⟨p, vs, l', rfl, e, c, q, _⟩
  · cases h with | lst a b => exact ⟨_, _, rfl, s _ _ a, b⟩
  · cases e; exact ⟨p, vs, rfl, c, q⟩
theorem U.scr {l : List Int} (h : U G t v (.scr l)) (s : Same t.f t.h) : ∃ p, v = .ref p ∧ SqL G.K t.h p (l.map V.int) := by
  rcases h with h | ⟨p, vs, l', rfl, e, c, q, _⟩
  · cases h with | scr a => exact ⟨_, rfl, s.seq a⟩
  · cases e
theorem U.tup {l : List D} (h : U G t v (.tup l)) (s : Same t.f t.h) : ∃ p vs, v = .ref p ∧ SqT G.K t.h p vs ∧ IsL G t.as t.f vs l := by
  rcases h with h | ⟨p, vs, l', rfl, e, c, q, _⟩
  · cases h with | tup a b => exact ⟨_, _, rfl, same_t s a, b⟩
  · cases e
theorem U.tupI {l : List D} (h : U G t v (.tup l)) : Is G t.as t.f v (.tup l) := by
  rcases h with h | ⟨p, vs, l', a, b, _⟩
  · exact h
  · cases b
theorem U.ptr {n : Nat} (h : U G t v (.ptr n)) : ∃ p, v = .ref p ∧ t.as[n]? = some p := by
  rcases h with h | ⟨p, vs, l', rfl, e, c, q, _⟩
  · cases h with | ptr a => exact ⟨_, rfl, a⟩
  · cases e
theorem U.obj {c : Nat} {l : List D} (h : U G t v (.obj c l)) (s : Same t.f t.h) : ∃ p dx vs, v = .ref p ∧ t.h p = some (.ins (G.ca c) dx ((G.fn c).zip vs)) ∧ (G.fn c).length = vs.length ∧ IsL G t.as t.f vs l := by
  rcases h with h | ⟨p, vs, l', rfl, e, c, q, _⟩
  · cases h with | obj a l b => exact ⟨_, _, _, rfl, s _ _ a, l, b⟩
  · cases e
theorem U.int {i : Int} (h : U G t v (.int i)) : v = .int i := by
  rcases h with h | ⟨p, vs, l', rfl, e, _⟩
  · cases h; rfl
  · cases e
theorem U.bl {i : Bool} (h : U G t v (.bl i)) : v = .bl i := by
  rcases h with h | ⟨p, vs, l', rfl, e, _⟩
  · cases h; rfl
  · cases e
theorem U.str {i : Str} (h : U G t v (.str i)) : v = .str i := by
  rcases h with h | ⟨p, vs, l', rfl, e, _⟩
  · cases h; rfl
  · cases e
theorem U.non (h : U G t v .non) : v = .non := by
  rcases h with h | ⟨p, vs, l', rfl, e, _⟩
  · cases h; rfl
  · cases e
theorem VOk.up (h : VOk G s t m v d) (g : Gro t t') : VOk G s t' m v d := by
  have na : ∀ {p : Addr} {o : HO}, t.h p = some o → p ∉ t.as → p ∉ t'.as := fun {p o} c f m => (g.w p m).elim f fun z => by rw [c] at z; cases z
  cases m with
  | P => exact Is.up h g.a g.f
  | B => obtain ⟨p, vs, l, a, b, c, e, f⟩ := h; exact ⟨p, vs, l, a, b, g.h _ _ c f, e.up g.a g.f, na c f⟩
  | N => obtain ⟨p, vs, l, a, b, c, e, f, n, z⟩ := h; exact ⟨p, vs, l, a, b, g.h _ _ c f, e.up g.a g.f, na c f, n, g.n _ _ c z⟩
theorem VOk.back {r : Hs} {st : Sto} (h : VOk G s t m v d) (g : Gro r s) (k : StOk G s st) : VOk G r t m v d := by
  cases m with
  | P => exact h
  | B => exact h
  | N =>
    obtain ⟨p, vs, l, a, b, c, e, f, n, z⟩ := h
    refine ⟨p, vs, l, a, b, c, e, f, ?_, z⟩
    cases q : r.h p with
    | none => rfl
    | some o =>
      by_cases i : p ∈ r.as
      · exact absurd (g.a.mem i) (k.new n)
      · rw [g.h p o q i] at n; cases n
theorem VOk.freeze {st : Sto} (h : VOk G s t m v d) (g : Gro s t) (k : StOk G t st) (hm : m ≠ .B) : ∃ f, Gro s ⟨t.as, f, t.h⟩ ∧ StOk G ⟨t.as, f, t.h⟩ st ∧ Same t.f f ∧ Is G t.as f v d := by
  cases m with
  | P => exact ⟨t.f, g, k, Same.refl _, h⟩
  | B => exact absurd rfl hm
  | N =>
    obtain ⟨p, vs, l, rfl, rfl, c, e, f, n, z⟩ := h
    exact ⟨upd t.f p (.lst vs), g.ice k c n z f, k.ice c z f, same_new z, .lst upd_same (e.up (Ext.refl _) (same_new z))⟩
end
inductive SL where | emp | val (d : D) | own (l : List D) | exn | clo (ds : List (Option D))
abbrev DE := List SL
structure En where
  e : DE
  st : Sto
def SlotOk (G : Gm) (s t : Hs) : Option V → SL → Prop
  | _, .emp => True
  | o, .exn => o = some (.ref G.ea)
  | o, .clo ds => o = some (.ref G.ea) ∧ G.cl.length = ds.length ∧ t.f G.cc = some (LamX.CodeO G.cc G.cq) ∧ ∀ (i : Nat) (d : D), ds[i]? = some (some d) → ∃ v, G.cl[i]? = some (some v) ∧ Is G t.as t.f v d
  | o, .val d => ∃ v, o = some v ∧ Is G t.as t.f v d
  | o, .own l => ∃ p vs, o = some (.ref p) ∧ s.h p = none ∧ t.f p = none ∧ t.h p = some (.lst vs) ∧ IsL G t.as t.f vs l ∧ p ∉ t.as
structure EnvOk (G : Gm) (s t : Hs) (σ : L2.St) (e : DE) : Prop where
  gr : Gro s t
  len : σ.length = e.length
  at_ : ∀ (i : Nat) (o : Option V) (x : SL), σ[i]? = some o → e[i]? = some x → SlotOk G s t o x
  dis : ∀ (i j : Nat) (p : Addr) (l m : List D), i ≠ j → σ[i]? = some (some (.ref p)) → e[i]? = some (.own l) → σ[j]? = some (some (.ref p)) → e[j]? = some (.own m) → False
section
variable {G : Gm} {s t t' : Hs} {σ : L2.St} {e : DE} {st : Sto}
theorem SlotOk.up {o : Option V} {x : SL} (h : SlotOk G s t o x) (g : Gro t t') : SlotOk G s t' o x := by
  cases x with
  | emp => trivial
  | exn => exact h
  | clo ds =>
    obtain ⟨h1, h2, h3, h4⟩ := h
    refine ⟨h1, h2, g.f _ _ h3, fun i d hd => ?_⟩
    obtain ⟨v, a, b⟩ := h4 i d hd
    exact ⟨v, a, b.up g.a g.f⟩
  | val d => obtain ⟨v, a, b⟩ := h; exact ⟨v, a, b.up g.a g.f⟩
  | own l => obtain ⟨p, vs, a, b, c, d, e, f⟩ := h; exact ⟨p, vs, a, b, g.n _ _ d c, g.h _ _ d f, e.up g.a g.f, fun m => (g.w p m).elim f fun z => by rw [d] at z; cases z⟩
theorem EnvOk.up (h : EnvOk G s t σ e) (g : Gro t t') : EnvOk G s t' σ e :=
  ⟨h.gr.trans g, h.len, fun i o s a b => (h.at_ i o s a b).up g, h.dis⟩
theorem EnvOk.slot {i : Nat} {x : SL} (h : EnvOk G s t σ e) (hs : e[i]? = some x) : ∃ o, σ[i]? = some o ∧ SlotOk G s t o x := by
  have hi : i < e.length := (List.getElem?_eq_some_iff.mp hs).1
  have e1 : σ[i]? = some (σ[i]'(by have := h.len; omega)) := List.getElem?_eq_getElem _
  exact ⟨_, e1, h.at_ i _ x e1 hs⟩
theorem EnvOk.set {i : Nat} {o : Option V} {x : SL} (h : EnvOk G s t σ e) (hs : SlotOk G s t o x) (hn : ∀ l, x ≠ .own l) : EnvOk G s t (σ.set i o) (e.set i x) := by
  refine ⟨h.gr, by simp [h.len], fun j o' s' a b => ?_, fun j k p l m hjk a b c d => ?_⟩
  · by_cases z : i = j
    · subst z
      have hi : i < σ.length := by
        have := (List.getElem?_eq_some_iff.mp a).1
        simpa using this
      rw [List.getElem?_set_self hi] at a
      rw [List.getElem?_set_self (by rw [← h.len]; exact hi)] at b
      cases a; cases b; exact hs
    · rw [List.getElem?_set_ne z] at a b
      exact h.at_ j o' s' a b
  · by_cases z : i = j
    · subst z
      have hi : i < e.length := by
        have := (List.getElem?_eq_some_iff.mp b).1
        simpa using this
      rw [List.getElem?_set_self hi] at b
      cases b
      exact absurd rfl (hn l)
    · by_cases z2 : i = k
      · subst z2
        have hi : i < e.length := by
          have := (List.getElem?_eq_some_iff.mp d).1
          simpa using this
        rw [List.getElem?_set_self hi] at d
        cases d
        exact absurd rfl (hn m)
      · rw [List.getElem?_set_ne z] at a b
        rw [List.getElem?_set_ne z2] at c d
        exact h.dis j k p l m hjk a b c d
theorem EnvOk.setOwn {i : Nat} {p : Addr} {vs : List V} {l : List D} (h : EnvOk G s t σ e) (h0 : s.h p = none) (hf : t.f p = none) (hp : t.h p = some (.lst vs)) (hl : IsL G t.as t.f vs l) (ha : p ∉ t.as)
    (hne : ∀ (j : Nat) (m : List D), j ≠ i → σ[j]? = some (some (.ref p)) → e[j]? = some (.own m) → False) : EnvOk G s t (σ.set i (some (.ref p))) (e.set i (.own l)) := by
  refine ⟨h.gr, by simp [h.len], fun j o' s' a b => ?_, fun j k q l1 m hjk a b c d => ?_⟩
  · by_cases z : i = j
    · subst z
      have hi : i < σ.length := by
        have := (List.getElem?_eq_some_iff.mp a).1
        simpa using this
      rw [List.getElem?_set_self hi] at a
      rw [List.getElem?_set_self (by rw [← h.len]; exact hi)] at b
      cases a; cases b; exact ⟨p, vs, rfl, h0, hf, hp, hl, ha⟩
    · rw [List.getElem?_set_ne z] at a b
      exact h.at_ j o' s' a b
  · by_cases z : i = j
    · subst z
      have hi : i < σ.length := by
        have := (List.getElem?_eq_some_iff.mp a).1
        simpa using this
      rw [List.getElem?_set_self hi] at a
      rw [List.getElem?_set_ne hjk] at c d
      cases a
      exact hne k m (fun z => hjk z.symm) c d
    · by_cases z2 : i = k
      · subst z2
        have hi : i < σ.length := by
          have := (List.getElem?_eq_some_iff.mp c).1
          simpa using this
        rw [List.getElem?_set_self hi] at c
        rw [List.getElem?_set_ne z] at a b
        cases c
        exact hne j l1 hjk a b
      · rw [List.getElem?_set_ne z] at a b
        rw [List.getElem?_set_ne z2] at c d
        exact h.dis j k q l1 m hjk a b c d
theorem EnvOk.chg {i : Nat} {p : Addr} {vs : List V} {l l' : List D} (h : EnvOk G s t σ e) (hσ : σ[i]? = some (some (.ref p))) (he : e[i]? = some (.own l')) (h0 : s.h p = none) (hf : t.f p = none) (hl : IsL G t.as t.f vs l) (ha : p ∉ t.as) :
    EnvOk G s ⟨t.as, t.f, upd t.h p (.lst vs)⟩ σ (e.set i (.own l)) := by
  refine ⟨h.gr.chg h0 hf, by simp [h.len], fun j o' s' a b => ?_, fun j k q l1 m hjk a b c d => ?_⟩
  · by_cases z : i = j
    · subst z
      have hi : i < e.length := (List.getElem?_eq_some_iff.mp he).1
      rw [List.getElem?_set_self hi] at b
      rw [hσ] at a
      cases a; cases b; exact ⟨p, vs, rfl, h0, hf, upd_same, hl, ha⟩
    · rw [List.getElem?_set_ne z] at b
      have q := h.at_ j o' s' a b
      cases s' with
      | emp => trivial
      | exn => exact q
      | clo ds => exact q
      | val d => exact q
      | own m =>
        obtain ⟨p', vs', rfl, b1, b2, b3, b4, b5⟩ := q
        have : p' ≠ p := fun zz => by subst zz; exact h.dis i j p' l' m z hσ he a b
        exact ⟨p', vs', rfl, b1, b2, by show upd t.h p (.lst vs) p' = _; rw [upd_ne this]; exact b3, b4, b5⟩
  · have own_of : ∀ (j : Nat) (l1 : List D), (e.set i (.own l))[j]? = some (.own l1) → ∃ l2, e[j]? = some (.own l2) := fun j l1 b => by
      by_cases z : i = j
      · subst z; exact ⟨l', he⟩
      · rw [List.getElem?_set_ne z] at b; exact ⟨l1, b⟩
    obtain ⟨l2, b'⟩ := own_of j l1 b
    obtain ⟨l3, d'⟩ := own_of k m d
    exact h.dis j k q l2 l3 hjk a b' c d'
theorem EnvOk.other {p : Addr} {o : HO} (E : EnvOk G s t σ e) (h0 : s.h p = none) (hf : t.f p = none)
    (hne : ∀ (j : Nat) (m : List D), σ[j]? = some (some (.ref p)) → e[j]? = some (.own m) → False) : EnvOk G s ⟨t.as, t.f, upd t.h p o⟩ σ e := by
  refine ⟨E.gr.chg h0 hf, E.len, fun i x y a b => ?_, E.dis⟩
  have ok := E.at_ i x y a b
  cases y with
  | emp => trivial
  | exn => exact ok
  | clo ds => exact ok
  | val d => exact ok
  | own l =>
    obtain ⟨q, vs, rfl, a1, a2, a3, a4, a5⟩ := ok
    have : q ≠ p := fun z => by subst z; exact hne i l a b
    exact ⟨q, vs, rfl, a1, a2, by show upd t.h p o q = _; rw [upd_ne this]; exact a3, a4, a5⟩
end
inductive ER where | val (m : Md) (d : D) (st : Sto) | exc (c : Nat) (l : List D) (st : Sto) | bad
def ExcOk (G : Gm) (s : Hs) (c : Nat) (l : List D) (x : Option Addr) : Prop :=
  (l = [] ∧ x = none) ∨ ∃ da xs, x = some da ∧ l ≠ [] ∧ s.f da = some (.xd ((G.fn c).zip xs)) ∧ (G.fn c).length = xs.length ∧ IsL G s.as s.f xs l
theorem ExcOk.up {G : Gm} {s t : Hs} {c : Nat} {l : List D} {x : Option Addr} (h : ExcOk G s c l x) (g : Gro s t) : ExcOk G t c l x := by
  rcases h with h | ⟨da, xs, a, b, c, d, e⟩
  · exact .inl h
  · exact .inr ⟨da, xs, a, b, g.f _ _ c, d, e.up g.a g.f⟩
def RPost (G : Gm) (W : WX) (s : Hs) (σ : L2.St) (Q : VK) : ER → Prop
  | .val m d st => ∀ t v, Gro s t → StOk G t st → VOk G s t m v d → Q v t.h
  | .exc c l st => ∀ t x, Gro s t → StOk G t st → ExcOk G t c l x → W (.ref (G.ca c)) x σ t.h
  | .bad => False
section
variable {G : Gm} {W : WX} {s t : Hs} {σ : L2.St} {Q Q' : VK} {st : Sto}
theorem RPost.step {r : ER} (g : Gro s t) (k : StOk G t st) (h : RPost G W s σ Q r) : RPost G W t σ Q r := by
  cases r with
  | val m d st' => exact fun u v g' o' o => h u v (g.trans g') o' (o.back g k)
  | exc c l st' => exact fun u x g' o' o => h u x (g.trans g') o' o
  | bad => exact h
def ER.bind (r : ER) (k : D → Sto → ER) : ER := match r with
  | .val _ d st => k d st
  | .exc c l st => .exc c l st
  | .bad => .bad
@[simp] theorem ER.bind_val (m : Md) (d : D) (st : Sto) (k : D → Sto → ER) : (ER.val m d st).bind k = k d st := rfl
@[simp] theorem ER.bind_exc (c : Nat) (l : List D) (st : Sto) (k : D → Sto → ER) : (ER.exc c l st).bind k = .exc c l st := rfl
@[simp] theorem ER.bind_bad (k : D → Sto → ER) : ER.bad.bind k = .bad := rfl
def DEv (G : Gm) (W : WX) (te : TE) (f : En → ER) : Prop :=
  ∀ s t σ e st, EnvOk G s t σ e → StOk G t st → ∀ Q : VK, RPost G W t σ Q (f ⟨e, st⟩) → te σ t.h Q
theorem RPost.bind {r : ER} {k : D → Sto → ER} (h : RPost G W s σ Q (r.bind k))
    (hk : ∀ m d st t v, Gro s t → StOk G t st → VOk G s t m v d → RPost G W t σ Q (k d st) → Q' v t.h) : RPost G W s σ Q' r := by
  cases r with
  | val m d st => exact fun t v g o' o => hk m d st t v g o' o (RPost.step g o' h)
  | exc c l st => exact h
  | bad => exact h
end
end Dn
namespace Dn
open PySem PySem.Spec PyProof.Rows L2
def rOr (r r' : R2) : R2 := fun x y H Q => r x y H Q ∨ r' x y H Q
theorem opOr {X : Cx} {f : Value → Value → Sem Value} {r r' : R2} (h : OpR X f r) (h' : OpR X f r') : OpR X f (rOr r r') := by
  intro pins s σ H x y v u Q I rx ry q
  rcases q with q | q
  · exact h pins s σ H x y v u Q I rx ry q
  · exact h' pins s σ H x y v u Q I rx ry q
def DOp (G : Gm) (r : R2) (o : D → D → Sto → ER) : Prop :=
  ∀ (W : WX) (σ : L2.St) (s : Hs) (st : Sto) (v w : V) (d d' : D), StOk G s st → U G s v d → U G s w d' → ∀ Q : VK, RPost G W s σ Q (o d d' st) → r v w s.h Q
section
variable {G : Gm} {W : WX} {s : Hs} {σ : L2.St} {Q : VK} {st : Sto}
theorem RPost.now {v : V} {d : D} (k : StOk G s st) (h : RPost G W s σ Q (.val .P d st)) (hv : Is G s.as s.f v d) : Q v s.h := h s v (Gro.refl k) k hv
theorem RPost.newL {vs : List V} {l : List D} (k : StOk G s st) (h : RPost G W s σ Q (.val .N (.lst l) st)) (hv : IsL G s.as s.f vs l) {p : Addr} (hp : s.h p = none) : Q (.ref p) (upd s.h p (.lst vs)) :=
  h ⟨s.as, s.f, upd s.h p (.lst vs)⟩ _ (Gro.loose k hp) (k.loose hp) ⟨p, vs, l, rfl, rfl, upd_same, hv, k.new hp, hp, k.sf.free hp⟩
theorem RPost.newT {vs : List V} {l : List D} (k : StOk G s st) (h : RPost G W s σ Q (.val .P (.tup l) st)) (hv : IsL G s.as s.f vs l) {p : Addr} (hp : s.h p = none) : Q (.ref p) (upd s.h p (.tup vs)) :=
  h ⟨s.as, upd s.f p (.tup vs), upd s.h p (.tup vs)⟩ _ (Gro.new k hp) (k.grow hp) (.tup (SqT.of upd_same) (hv.up (Ext.refl _) (same_new (k.sf.free hp))))
theorem RPost.cond (c : Prop) [Decidable c] (r : ER) (h : RPost G W s σ Q (if c then r else .bad)) : c ∧ RPost G W s σ Q r := by
  by_cases q : c
  · rw [if_pos q] at h; exact ⟨q, h⟩
  · rw [if_neg q] at h; exact h.elim
def ofOpt {α : Type} (o : Option α) (k : α → ER) : ER := match o with
  | some d => k d
  | none => .bad
@[simp] theorem ofOpt_some {α : Type} (a : α) (k : α → ER) : ofOpt (some a) k = k a := rfl
@[simp] theorem ofOpt_none {α : Type} (k : α → ER) : ofOpt none k = .bad := rfl
theorem RPost.opt {α : Type} (o : Option α) (k : α → ER) (h : RPost G W s σ Q (ofOpt o k)) : ∃ d, o = some d ∧ RPost G W s σ Q (k d) := by
  cases o with
  | none => exact h.elim
  | some d => exact ⟨d, rfl, h⟩
end
theorem sz {n : Nat} (h : n ≤ 1000000) : n ≤ sizeLine := Nat.le_trans h (by decide)
theorem szlt {n : Nat} (h : n < 1000000) : n < sizeLine := Nat.lt_of_lt_of_le h (by decide)
section
variable {G : Gm}
def oAdd : D → D → Sto → ER
  | .int i, .int j, st => .val .P (.int (i + j)) st
  | .str a, .str b, st => if a.length + b.length ≤ 1000000 then .val .P (.str (a ++ b)) st else .bad
  | .lst a, .lst b, st => if a.length + b.length ≤ 1000000 then .val .N (.lst (a ++ b)) st else .bad
  | .tup a, .tup b, st => if a.length + b.length ≤ 1000000 then .val .P (.tup (a ++ b)) st else .bad
  | _, _, _ => .bad
abbrev rAddS : R2 := fun x y H Q => ∃ i j, x = .str i ∧ y = .str j ∧ i.length + j.length ≤ sizeLine ∧ Q (.str (i ++ j)) H
abbrev rAddA (K : PySem.W.Frag) : R2 := rOr (rI0 fun i j => .int (i + j)) (rOr rAddS (rOr rCat (L2.rCatA K)))
theorem or_add {X : Cx} : OpR X (binaryOp .Add) (rAddA X.K) := opOr op_add (opOr op_add_str (opOr op_cat L2.op_catA))
theorem d_add : DOp G (rAddA G.K) oAdd := by
  intro W σ s st v w d d' k hv hw Q post
  cases d <;> cases d' <;> try exact post.elim
  case int.int i j =>
    obtain rfl := hv.int; obtain rfl := hw.int
    exact .inl ⟨i, j, rfl, rfl, post.now k (.int _)⟩
  case str.str a b =>
    obtain rfl := hv.str; obtain rfl := hw.str
    obtain ⟨h, post⟩ := RPost.cond (a.length + b.length ≤ 1000000) (.val .P (.str (a ++ b)) st) post
    exact .inr (.inl ⟨a, b, rfl, rfl, sz h, post.now k (.str _)⟩)
  case lst.lst a b =>
    obtain ⟨p, vs, rfl, hp, hl⟩ := hv.lst k.sf
    obtain ⟨q, ws, rfl, hq, hm⟩ := hw.lst k.sf
    obtain ⟨h, post⟩ := RPost.cond (a.length + b.length ≤ 1000000) (.val .N (.lst (a ++ b)) st) post
    exact .inr (.inr (.inl ⟨p, q, vs, ws, rfl, rfl, hp, hq, by rw [hl.len, hm.len]; exact sz h, fun r hr => post.newL k (hl.append hm) hr⟩))
  case tup.tup a b =>
    obtain ⟨p, vs, rfl, hp, hl⟩ := hv.tup k.sf
    obtain ⟨q, ws, rfl, hq, hm⟩ := hw.tup k.sf
    obtain ⟨h, post⟩ := RPost.cond (a.length + b.length ≤ 1000000) (.val .P (.tup (a ++ b)) st) post
    refine .inr (.inr (.inr ⟨p, q, vs, ws, rfl, rfl, hp, hq, by rw [hl.len, hm.len]; exact sz h, fun z => ?_, fun _ z => ?_, fun _ _ r hr => post.newT k (hl.append hm) hr⟩))
    · have : a = [] := by have := hl.len; subst z; exact List.length_eq_zero_iff.mp this.symm
      subst this; exact post.now k hw.tupI
    · have : b = [] := by have := hm.len; subst z; exact List.length_eq_zero_iff.mp this.symm
      subst this; rw [List.append_nil] at post; exact post.now k hv.tupI
def oSub : D → D → Sto → ER
  | .int i, .int j, st => .val .P (.int (i - j)) st
  | _, _, _ => .bad
theorem d_sub : DOp G (rI0 fun i j => .int (i - j)) oSub := by
  intro W σ s st v w d d' k hv hw Q post
  cases d <;> cases d' <;> try exact post.elim
  obtain rfl := hv.int; obtain rfl := hw.int
  exact ⟨_, _, rfl, rfl, post.now k (.int _)⟩
theorem IsL.rep {as : List Addr} {H : Hp} {vs : List V} {l : List D} (h : IsL G as H vs l) : ∀ n : Nat, IsL G as H (List.replicate n vs).flatten (List.replicate n l).flatten
  | 0 => .nil
  | n + 1 => by
    rw [List.replicate_succ, List.replicate_succ, List.flatten_cons, List.flatten_cons]
    exact h.append (IsL.rep h n)
def oMul : D → D → Sto → ER
  | .int i, .int j, st => if i.natAbs.log2 + j.natAbs.log2 < 1000000 then .val .P (.int (i * j)) st else .bad
  | .lst a, .int k, st => if -(2 ^ 63) ≤ k ∧ k < 2 ^ 63 ∧ a.length * k.toNat ≤ 1000000 then .val .N (.lst (List.replicate k.toNat a).flatten) st else .bad
  | _, _, _ => .bad
abbrev rMulA : R2 := rOr (rI CMulW fun i j => .int (i * j)) rRep
theorem or_mul {X : Cx} : OpR X (binaryOp .Mult) rMulA := opOr op_mulW op_rep
theorem d_mul : DOp G rMulA oMul := by
  intro W σ s st v w d d' k hv hw Q post
  cases d <;> cases d' <;> try exact post.elim
  case int.int i j =>
    obtain rfl := hv.int; obtain rfl := hw.int
    obtain ⟨h, post⟩ := RPost.cond (i.natAbs.log2 + j.natAbs.log2 < 1000000) (.val .P (.int (i * j)) st) post
    exact .inl ⟨_, _, rfl, rfl, h, post.now k (.int _)⟩
  case lst.int a n =>
    obtain ⟨p, vs, rfl, hp, hl⟩ := hv.lst k.sf
    obtain rfl := hw.int
    obtain ⟨h, post⟩ := RPost.cond (-(2 ^ 63) ≤ n ∧ n < 2 ^ 63 ∧ a.length * n.toNat ≤ 1000000) (.val .N (.lst (List.replicate n.toNat a).flatten) st) post
    exact .inr ⟨p, n, vs, rfl, rfl, hp, h.1, h.2.1, by rw [hl.len]; exact sz h.2.2, fun r hr => post.newL k (hl.rep _) hr⟩
def oDiv : D → D → Sto → ER
  | .int i, .int j, st => if j ≠ 0 ∧ j.natAbs.log2 < 9000 then .val .P (.int (i.fdiv j)) st else .bad
  | _, _, _ => .bad
theorem or_div {X : Cx} : OpR X (binaryOp .FloorDiv) (rI (fun _ j => j ≠ 0 ∧ j.natAbs.log2 < 9000) fun i j => .int (i.fdiv j)) := opI fun i j _ _ _ _ _ hc q => floordiv_int hc.1 q (.inl (PyProof.noPylong_of_log2 hc.2))
theorem d_div : DOp G (rI (fun _ j => j ≠ 0 ∧ j.natAbs.log2 < 9000) fun i j => .int (i.fdiv j)) oDiv := by
  intro W σ s st v w d d' k hv hw Q post
  cases d <;> cases d' <;> try exact post.elim
  rename_i i j
  obtain rfl := hv.int; obtain rfl := hw.int
  obtain ⟨h, post⟩ := RPost.cond (j ≠ 0 ∧ j.natAbs.log2 < 9000) (.val .P (.int (i.fdiv j)) st) post
  exact ⟨_, _, rfl, rfl, h, post.now k (.int _)⟩
def oMod : D → D → Sto → ER
  | .int i, .int j, st => if j ≠ 0 then .val .P (.int (i.fmod j)) st else .bad
  | _, _, _ => .bad
theorem d_mod : DOp G (rI (fun _ j => j ≠ 0) fun i j => .int (i.fmod j)) oMod := by
  intro W σ s st v w d d' k hv hw Q post
  cases d <;> cases d' <;> try exact post.elim
  rename_i i j
  obtain rfl := hv.int; obtain rfl := hw.int
  obtain ⟨h, post⟩ := RPost.cond (j ≠ 0) (.val .P (.int (i.fmod j)) st) post
  exact ⟨_, _, rfl, rfl, h, post.now k (.int _)⟩
def oPow : D → D → Sto → ER
  | .int i, .int j, st => if 0 ≤ j ∧ j ≤ 1000000 ∧ i.natAbs < 2 ^ 64 then .val .P (.int (i ^ j.toNat)) st else .bad
  | _, _, _ => .bad
theorem d_pow : DOp G (rI CPow fun i j => .int (i ^ j.toNat)) oPow := by
  intro W σ s st v w d d' k hv hw Q post
  cases d <;> cases d' <;> try exact post.elim
  rename_i i j
  obtain rfl := hv.int; obtain rfl := hw.int
  obtain ⟨h, post⟩ := RPost.cond (0 ≤ j ∧ j ≤ 1000000 ∧ i.natAbs < 2 ^ 64) (.val .P (.int (i ^ j.toNat)) st) post
  exact ⟨_, _, rfl, rfl, h, post.now k (.int _)⟩
def oCmp (p : Int → Int → Bool) : D → D → Sto → ER
  | .int i, .int j, st => .val .P (.bl (p i j)) st
  | _, _, _ => .bad
theorem d_cmp {p : Int → Int → Bool} : DOp G (rI0 fun i j => .bl (p i j)) (oCmp p) := by
  intro W σ s st v w d d' k hv hw Q post
  cases d <;> cases d' <;> try exact post.elim
  obtain rfl := hv.int; obtain rfl := hw.int
  exact ⟨_, _, rfl, rfl, post.now k (.bl _)⟩
abbrev oLt := oCmp fun i j => decide (i < j)
abbrev oLe := oCmp fun i j => decide (i ≤ j)
abbrev oGt := oCmp fun i j => decide (j < i)
abbrev oGe := oCmp fun i j => decide (j ≤ i)
theorem d_lt : DOp G (rI0 fun i j => .bl (decide (i < j))) oLt := d_cmp
theorem d_le : DOp G (rI0 fun i j => .bl (decide (i ≤ j))) oLe := d_cmp
theorem d_gt : DOp G (rI0 fun i j => .bl (decide (j < i))) oGt := d_cmp
theorem d_ge : DOp G (rI0 fun i j => .bl (decide (j ≤ i))) oGe := d_cmp
def isNon : D → Bool
  | .non => true
  | _ => false
def oIsN (a b : D) (st : Sto) : ER := match b with
  | .non => .val .P (.bl (isNon a)) st
  | _ => .bad
def oNotN (a b : D) (st : Sto) : ER := match b with
  | .non => .val .P (.bl (!isNon a)) st
  | _ => .bad
mutual
def py : D → PyData
  | .non => .none
  | .bl b => .bool b
  | .int i => .int i
  | .str x => .str x
  | .tup l => .tuple (pyL l)
  | .lst l => .list (pyL l)
  | .obj _ _ => .none
  | .scr _ => .none
  | .ptr _ => .none
def pyL : List D → List PyData
  | [] => []
  | d :: l => py d :: pyL l
end
mutual
def isPy : D → Bool
  | .non | .bl _ | .int _ | .str _ => true
  | .tup l => isPyL l
  | .lst l => isPyL l
  | .obj _ _ => false
  | .scr _ => false
  | .ptr _ => false
def isPyL : List D → Bool
  | [] => true
  | d :: l => isPy d && isPyL l
end
mutual
theorem dp_of {as : List Addr} {f H : Hp} (s : Same f H) : ∀ (d : D) {v : V}, isPy d = true → Is G as f v d → Dp G.K H v (py d)
  | .non, _, _, h => by cases h; exact .non
  | .bl _, _, _, h => by cases h; exact .bl _
  | .int _, _, _, h => by cases h; exact .int _
  | .str _, _, _, h => by cases h; exact .str _
  | .tup l, _, q, h => by cases h with | tup a b => exact .tup (same_t s a) (dpL_of s l (by simpa [isPy] using q) b)
  | .lst l, _, q, h => by cases h with | lst a b => exact .lst (SqL.of (s _ _ a)) (dpL_of s l (by simpa [isPy] using q) b)
  | .obj _ _, _, q, _ => by simp [isPy] at q
  | .scr _, _, q, _ => by simp [isPy] at q
  | .ptr _, _, q, _ => by simp [isPy] at q
theorem dpL_of {as : List Addr} {f H : Hp} (s : Same f H) : ∀ (l : List D) {vs : List V}, isPyL l = true → IsL G as f vs l → DpAll G.K H vs (pyL l)
  | [], _, _, h => by cases h; exact .nil
  | d :: l, _, q, h => by
    cases h with
    | cons a b =>
      have q' : isPy d = true ∧ isPyL l = true := by simpa [isPyL] using q
      exact .cons (dp_of s d q'.1 a) (dpL_of s l q'.2 b)
end
theorem dp_u {s : Hs} {v : V} {d : D} (sm : Same s.f s.h) (q : isPy d = true) (h : U G s v d) : Dp G.K s.h v (py d) := by
  rcases h with h | ⟨p, vs, l, rfl, rfl, c, e, _⟩
  · exact dp_of sm d q h
  · exact .lst (SqL.of c) (dpL_of sm l (by simpa [isPy] using q) e)
def scalD : D → D → Bool
  | .non, .non | .non, .int _ | .int _, .non | .non, .bl _ | .bl _, .non | .non, .str _ | .str _, .non => true
  | .int _, .int _ | .bl _, .bl _ | .str _, .str _ | .int _, .str _ | .str _, .int _ | .bl _, .str _ | .str _, .bl _ => true
  | _, _ => false
def eqF : D → D → Bool
  | .non, .non => true
  | .int i, .int j => decide (i = j)
  | .bl i, .bl j => decide (i = j)
  | .str i, .str j => decide (i = j)
  | _, _ => false
def eqAny (a b : D) : Option Bool :=
  if scalD a b = true then some (eqF a b)
  else if isPy a = true ∧ isPy b = true ∧ SeqAt.shaped (py a) = true ∧ SeqAt.shaped (py b) = true then some (PyData.eqv (py a) (py b))
  else none
def oEq (a b : D) (st : Sto) : ER := match eqAny a b with | some r => .val .P (.bl r) st | none => .bad
def oNe (a b : D) (st : Sto) : ER := match eqAny a b with | some r => .val .P (.bl (!r)) st | none => .bad
abbrev rEqA (K : PySem.W.Frag) : R2 := rOr rEq (rEqD K)
abbrev rNeA (K : PySem.W.Frag) : R2 := rOr rNe (rNeD K)
theorem or_eq {X : Cx} (hu : X.A.units + 64 < cLine) : OpR X (compareOp .Eq) (rEqA X.K) := opOr op_eq (op_eqD hu)
theorem or_ne {X : Cx} (hu : X.A.units + 64 < cLine) : OpR X (compareOp .NotEq) (rNeA X.K) := opOr op_ne (op_neD hu)
theorem scal_of {s : Hs} {v w : V} {a b : D} (h : scalD a b = true) (hv : U G s v a) (hw : U G s w b) : scal v w = true ∧ decide (v = w) = eqF a b := by
  cases a <;> cases b <;> simp only [scalD] at h <;> first
    | (exact absurd h Bool.false_ne_true)
    | skip
  all_goals (first | obtain rfl := hv.int | obtain rfl := hv.str | obtain rfl := hv.bl | obtain rfl := hv.non)
  all_goals (first | obtain rfl := hw.int | obtain rfl := hw.str | obtain rfl := hw.bl | obtain rfl := hw.non)
  all_goals (refine ⟨rfl, ?_⟩; simp [eqF])
theorem d_eq : DOp G (rEqA G.K) oEq := by
  intro W σ s st v w d d' k hv hw Q post
  unfold oEq eqAny at post
  by_cases h : scalD d d' = true
  · obtain ⟨h1, h2⟩ := scal_of h hv hw
    rw [if_pos h] at post
    exact .inl ⟨h1, by rw [h2]; exact RPost.now k post (.bl _)⟩
  · rw [if_neg h] at post
    split at post
    · rename_i r hr
      split at hr
      · rename_i q
        cases hr
        exact .inr ⟨py d, py d', dp_u k.sf q.1 hv, dp_u k.sf q.2.1 hw, q.2.2.1, q.2.2.2, post.now k (.bl _)⟩
      · cases hr
    · exact post.elim
def stLst (st : Sto) (n : Nat) : Option (List D) := match st[n]? with
  | some (.lst l) => some l
  | _ => none
theorem StOk.lst {s : Hs} {st : Sto} {n : Nat} {l : List D} {p : Addr} (k : StOk G s st) (ha : s.as[n]? = some p) (h : stLst st n = some l) : ∃ vs, s.h p = some (.lst vs) ∧ IsL G s.as s.f vs l := by
  unfold stLst at h
  split at h
  · rename_i l' q
    cases h
    exact k.ob n p _ ha q
  · cases h
def oIx : D → D → Sto → ER
  | .lst l, .int i, st => ofOpt (atI l i) fun d => .val .P d st
  | .tup l, .int i, st => ofOpt (atI l i) fun d => .val .P d st
  | .scr l, .int i, st => ofOpt (atI l i) fun d => .val .P (.int d) st
  | .str z, .int i, st => if z.length ≤ 1000000 then ofOpt (atI z.cps.toList i) (fun c => .val .P (.str ⟨#[c]⟩) st) else .bad
  | .ptr n, .int i, st => ofOpt (stLst st n) fun l => ofOpt (atI l i) fun d => .val .P d st
  | _, _, _ => .bad
theorem atI_L {as : List Addr} {H : Hp} {vs : List V} {l : List D} {i : Int} {d : D} (h : IsL G as H vs l) (e : atI l i = some d) : ∃ v, atI vs i = some v ∧ Is G as H v d := by
  unfold atI at e ⊢
  rw [h.len]
  cases q : ixN l.length i with
  | none => rw [q] at e; cases e
  | some j =>
    rw [q] at e
    exact h.get e
theorem atI_map {l : List Int} {i : Int} {d : Int} (e : atI l i = some d) : atI (l.map V.int) i = some (V.int d) := by
  unfold atI at e ⊢
  rw [List.length_map]
  cases q : ixN l.length i with
  | none => rw [q] at e; cases e
  | some j =>
    rw [q] at e
    have e' : l[j]? = some d := e
    show (l.map V.int)[j]? = some (V.int d)
    rw [List.getElem?_map, e']
    rfl
theorem d_ix : DOp G (rIx G.K) oIx := by
  intro W σ s st v w d d' k hv hw Q post
  cases d <;> cases d' <;> try exact post.elim
  case lst.int l i =>
    obtain ⟨p, vs, rfl, hp, hl⟩ := hv.lst k.sf
    obtain rfl := hw.int
    obtain ⟨y, q, post⟩ := RPost.opt (atI l i) (fun d => .val .P d st) post
    obtain ⟨x, h1, h2⟩ := atI_L hl q
    exact .inl ⟨p, vs, i, x, rfl, rfl, SqL.of hp, h1, post.now k h2⟩
  case ptr.int n i =>
    obtain ⟨p, rfl, hp⟩ := hv.ptr
    obtain rfl := hw.int
    obtain ⟨l, ql, post⟩ := RPost.opt (stLst st n) (fun l => ofOpt (atI l i) fun d => .val .P d st) post
    obtain ⟨y, q, post⟩ := RPost.opt (atI l i) (fun d => .val .P d st) post
    obtain ⟨vs, hh, hl⟩ := k.lst hp ql
    obtain ⟨x, h1, h2⟩ := atI_L hl q
    exact .inl ⟨p, vs, i, x, rfl, rfl, SqL.of hh, h1, post.now k h2⟩
  case tup.int l i =>
    obtain ⟨p, vs, rfl, hp, hl⟩ := hv.tup k.sf
    obtain rfl := hw.int
    obtain ⟨y, q, post⟩ := RPost.opt (atI l i) (fun d => .val .P d st) post
    obtain ⟨x, h1, h2⟩ := atI_L hl q
    exact .inr (.inl ⟨p, vs, i, x, rfl, rfl, hp, h1, post.now k h2⟩)
  case scr.int l i =>
    obtain ⟨p, rfl, hp⟩ := hv.scr k.sf
    obtain rfl := hw.int
    obtain ⟨y, q, post⟩ := RPost.opt (atI l i) (fun d => .val .P (.int d) st) post
    exact .inl ⟨p, _, i, _, rfl, rfl, hp, atI_map q, post.now k (.int _)⟩
  case str.int z i =>
    obtain rfl := hv.str; obtain rfl := hw.int
    obtain ⟨h, post⟩ := RPost.cond (z.length ≤ 1000000) (ofOpt (atI z.cps.toList i) (fun c => .val .P (.str ⟨#[c]⟩) st)) post
    obtain ⟨c, q, post⟩ := RPost.opt (atI z.cps.toList i) (fun c => .val .P (.str ⟨#[c]⟩) st) post
    exact .inr (.inr ⟨z, i, c, rfl, rfl, sz h, q, post.now k (.str _)⟩)
end
section
variable {G : Gm} {W : WX}
def dVar (i : Nat) : En → ER := fun E => match E.e[i]? with
  | some (.val d) => .val .P d E.st
  | some (.own l) => .val .B (.lst l) E.st
  | _ => .bad
theorem v_var {i : Nat} : DEv G W (tVar i) (dVar i) := by
  intro s t σ e st E k Q post
  unfold dVar at post
  split at post
  · rename_i d q
    obtain ⟨o, h1, v, rfl, h2⟩ := E.slot q
    exact ⟨v, h1, post.now k h2⟩
  · rename_i l q
    obtain ⟨o, h1, p, vs, rfl, a, b, c, d, f⟩ := E.slot q
    exact ⟨_, h1, post t _ (Gro.refl k) k ⟨p, vs, l, rfl, rfl, c, d, f⟩⟩
  · exact post.elim
def dC (d : D) : En → ER := fun E => .val .P d E.st
theorem v_int {n : Int} : DEv G W (tC (.int n)) (dC (.int n)) := fun _ _ _ _ _ _ k _ post => RPost.now k post (.int _)
theorem v_str {n : Str} : DEv G W (tC (.str n)) (dC (.str n)) := fun _ _ _ _ _ _ k _ post => RPost.now k post (.str _)
theorem v_bl {n : Bool} : DEv G W (tC (.bl n)) (dC (.bl n)) := fun _ _ _ _ _ _ k _ post => RPost.now k post (.bl _)
def dOp (o : D → D → Sto → ER) (f g : En → ER) : En → ER := fun E => (f E).bind fun x st => (g ⟨E.e, st⟩).bind fun y st => o x y st
theorem v_op {r : R2} {o : D → D → Sto → ER} {ta tb : TE} {f g : En → ER} (hr : DOp G r o) (ha : DEv G W ta f) (hb : DEv G W tb g) : DEv G W (tOp r ta tb) (dOp o f g) := by
  intro s t σ e st E k Q post
  refine ha s t σ e st E k _ (RPost.bind post fun m d st1 t1 v g1 k1 o1 p1 => ?_)
  refine hb s t1 σ e st1 (E.up g1) k1 _ (RPost.bind p1 fun m2 d2 st2 t2 w g2 k2 o2 p2 => ?_)
  exact hr W σ t2 st2 v w d d2 k2 ((o1.up g2).u) o2.u Q p2
def DUn (G : Gm) (r : V → Hp → VK → Prop) (o : D → Sto → ER) : Prop :=
  ∀ (W : WX) (σ : L2.St) (s : Hs) (st : Sto) (v : V) (d : D), StOk G s st → U G s v d → ∀ Q : VK, RPost G W s σ Q (o d st) → r v s.h Q
def dUn (o : D → Sto → ER) (f : En → ER) : En → ER := fun E => (f E).bind o
theorem v_un {r : V → Hp → VK → Prop} {o : D → Sto → ER} {ta : TE} {f : En → ER} (hr : DUn G r o) (ha : DEv G W ta f) : DEv G W (tUn r ta) (dUn o f) := by
  intro s t σ e st E k Q post
  refine ha s t σ e st E k _ (RPost.bind post fun m d st1 t1 v g1 k1 o1 p1 => ?_)
  exact hr W σ t1 st1 v d k1 o1.u Q p1
def oNeg : D → Sto → ER
  | .int i, st => .val .P (.int (-i)) st
  | _, _ => .bad
theorem d_neg : DUn G (rU fun i => .int (-i)) oNeg := by
  intro W σ s st v d k hv Q post
  cases d <;> try exact post.elim
  obtain rfl := hv.int
  exact ⟨_, rfl, post.now k (.int _)⟩
def TPost (G : Gm) (W : WX) (s : Hs) (σ : L2.St) (Q : Bool → Hp → Prop) : ER → Prop
  | .val _ (.bl b) st => ∀ t, Gro s t → StOk G t st → Q b t.h
  | .exc c l st => ∀ t x, Gro s t → StOk G t st → ExcOk G t c l x → W (.ref (G.ca c)) x σ t.h
  | _ => False
def DTt (G : Gm) (W : WX) (tt : TT) (f : En → ER) : Prop :=
  ∀ s t σ e st, EnvOk G s t σ e → StOk G t st → ∀ Q : Bool → Hp → Prop, TPost G W t σ Q (f ⟨e, st⟩) → tt σ t.h Q
theorem TPost.step {s t : Hs} {σ : L2.St} {Q : Bool → Hp → Prop} {r : ER} (g : Gro s t) (h : TPost G W s σ Q r) : TPost G W t σ Q r := by
  cases r with
  | val m d st =>
    cases d <;> first | exact h.elim | skip
    exact fun u g' => h u (g.trans g')
  | exc c l st => exact fun u x g' => h u x (g.trans g')
  | bad => exact h
def ER.bindB (r : ER) (k : Bool → Sto → ER) : ER := match r with
  | .val _ (.bl b) st => k b st
  | .exc c l st => .exc c l st
  | _ => .bad
@[simp] theorem ER.bindB_val (m : Md) (b : Bool) (st : Sto) (k : Bool → Sto → ER) : (ER.val m (.bl b) st).bindB k = k b st := rfl
@[simp] theorem ER.bindB_exc (c : Nat) (l : List D) (st : Sto) (k : Bool → Sto → ER) : (ER.exc c l st).bindB k = .exc c l st := rfl
@[simp] theorem ER.bindB_bad (k : Bool → Sto → ER) : ER.bad.bindB k = .bad := rfl
theorem t_val {te : TE} {f : En → ER} (h : DEv G W te f) : DTt G W (tB te) f := by
  intro s t σ e st E k Q post
  refine h s t σ e st E k _ ?_
  cases q : f ⟨e, st⟩ with
  | val m d st' =>
    rw [q] at post
    intro t' v g k' o
    cases d <;> first | exact post.elim | skip
    obtain rfl := o.u.bl
    exact ⟨_, rfl, post t' g k'⟩
  | exc c l st' => rw [q] at post; exact post
  | bad => rw [q] at post; exact post
theorem t_test {te : TE} {f : En → ER} (h : DEv G W te f) : DTt G W (tTest te) f := t_val h
theorem TPost.bindB {s : Hs} {σ : L2.St} {Q Q' : Bool → Hp → Prop} {r : ER} {k : Bool → Sto → ER} (h : TPost G W s σ Q (r.bindB k)) (hk : ∀ b st t, Gro s t → StOk G t st → TPost G W t σ Q (k b st) → Q' b t.h) : TPost G W s σ Q' r := by
  cases r with
  | val m d st =>
    cases d <;> first | exact h.elim | skip
    exact fun t g k' => hk _ st t g k' (TPost.step g h)
  | exc c l st => exact h
  | bad => exact h
def dAnd (f g : En → ER) : En → ER := fun E => (f E).bindB fun b st => if b = true then g ⟨E.e, st⟩ else .val .P (.bl false) st
def dOr (f g : En → ER) : En → ER := fun E => (f E).bindB fun b st => if b = true then .val .P (.bl true) st else g ⟨E.e, st⟩
def dNot (f : En → ER) : En → ER := fun E => (f E).bindB fun b st => .val .P (.bl (!b)) st
theorem TPost.of {s : Hs} {st : Sto} {σ : L2.St} {Q : Bool → Hp → Prop} {b : Bool} (k : StOk G s st) (h : TPost G W s σ Q (.val .P (.bl b) st)) : Q b s.h := h s (Gro.refl k) k
theorem t_and {t u : TT} {f g : En → ER} (ht : DTt G W t f) (hu : DTt G W u g) : DTt G W (tAnd t u) (dAnd f g) := by
  intro s t σ e st E k Q post
  refine ht s t σ e st E k _ (TPost.bindB post fun b st1 t1 g1 k1 p1 => ?_)
  cases b with
  | true => exact iteT (hu s t1 σ e st1 (E.up g1) k1 Q p1)
  | false => exact iteF (TPost.of k1 p1)
theorem t_or {t u : TT} {f g : En → ER} (ht : DTt G W t f) (hu : DTt G W u g) : DTt G W (tOr t u) (dOr f g) := by
  intro s t σ e st E k Q post
  refine ht s t σ e st E k _ (TPost.bindB post fun b st1 t1 g1 k1 p1 => ?_)
  cases b with
  | false => exact iteF (hu s t1 σ e st1 (E.up g1) k1 Q p1)
  | true => exact iteT (TPost.of k1 p1)
theorem t_not {t : TT} {f : En → ER} (ht : DTt G W t f) : DTt G W (tNot t) (dNot f) := by
  intro s t σ e st E k Q post
  exact ht s t σ e st E k _ (TPost.bindB post fun b st1 t1 g1 k1 p1 => TPost.of k1 p1)
theorem RPost.bindB {s : Hs} {σ : L2.St} {Q Q' : VK} {r : ER} {k : Bool → Sto → ER} (h : RPost G W s σ Q (r.bindB k))
    (hk : ∀ b st t, Gro s t → StOk G t st → RPost G W t σ Q (k b st) → Q' (.bl b) t.h) : RPost G W s σ Q' r := by
  cases r with
  | val m d st =>
    cases d <;> first | exact h.elim | skip
    intro t v g k' o
    obtain rfl := o.u.bl
    exact hk _ st t g k' (RPost.step g k' h)
  | exc c l st => exact h
  | bad => exact h
def dIf (c f g : En → ER) : En → ER := fun E => (c E).bindB fun b st => if b = true then f ⟨E.e, st⟩ else g ⟨E.e, st⟩
def dChain (o o' : D → D → Sto → ER) (f g h : En → ER) : En → ER := fun E => (f E).bind fun x st => (g ⟨E.e, st⟩).bind fun y st => (o x y st).bindB fun b st => if b = true then (h ⟨E.e, st⟩).bind fun z st => o' y z st else .val .P (.bl false) st
end
end Dn
namespace Dn
open PySem PySem.Spec PyProof.Rows L2
inductive UL (G : Gm) (s : Hs) : List V → List D → Prop
  | nil : UL G s [] []
  | cons {v : V} {vs : List V} {d : D} {ds : List D} : U G s v d → UL G s vs ds → UL G s (v :: vs) (d :: ds)
theorem UL.len {G : Gm} {s : Hs} : ∀ {ds : List D} {vs : List V}, UL G s vs ds → vs.length = ds.length
  | [], _, h => by cases h; rfl
  | d :: ds, _, h => by cases h with | cons a b => exact congrArg Nat.succ b.len
theorem UL.up {G : Gm} {s t : Hs} (g : Gro s t) : ∀ {ds : List D} {vs : List V}, UL G s vs ds → UL G t vs ds
  | [], _, h => by cases h; exact .nil
  | d :: ds, _, h => by cases h with | cons a b => exact .cons (a.up g) (UL.up g b)
inductive AR where | ok (p : Bool) (l : List D) (st : Sto) | exc (c : Nat) (l : List D) (st : Sto) | bad
def APost (G : Gm) (W : WX) (s : Hs) (σ : L2.St) (Q : List V → Hp → Prop) : AR → Prop
  | .ok p l st => ∀ t vs, Gro s t → StOk G t st → (p = true → IsL G t.as t.f vs l) → UL G t vs l → Q vs t.h
  | .exc c l st => ∀ t x, Gro s t → StOk G t st → ExcOk G t c l x → W (.ref (G.ca c)) x σ t.h
  | .bad => False
theorem APost.step {G : Gm} {W : WX} {s t : Hs} {σ : L2.St} {Q : List V → Hp → Prop} {r : AR} (g : Gro s t) (h : APost G W s σ Q r) : APost G W t σ Q r := by
  cases r with
  | ok p l st => exact fun u v g' => h u v (g.trans g')
  | exc c l st => exact fun u x g' => h u x (g.trans g')
  | bad => exact h
def AR.cons (p : Bool) (d : D) : AR → AR
  | .ok q l st => .ok (p && q) (d :: l) st
  | .exc c l st => .exc c l st
  | .bad => .bad
def ER.cons (r : ER) (a : Sto → AR) : AR := match r with
  | .val .B d st => (a st).cons false d
  | .val .P d st => (a st).cons true d
  | .val .N d st => (a st).cons true d
  | .exc c l st => .exc c l st
  | .bad => .bad
def DAr (G : Gm) (W : WX) (ta : TA) (f : En → AR) : Prop :=
  ∀ s t σ e st, EnvOk G s t σ e → StOk G t st → ∀ Q : List V → Hp → Prop, APost G W t σ Q (f ⟨e, st⟩) → ta σ t.h Q
section
variable {G : Gm} {W : WX}
def aNil : En → AR := fun E => .ok true [] E.st
theorem a_nil : DAr G W tNil aNil := fun _ t _ _ _ _ k _ post => post t [] (Gro.refl k) k (fun _ => .nil) .nil
def aCons (f : En → ER) (g : En → AR) : En → AR := fun E => (f E).cons fun st => g ⟨E.e, st⟩
theorem APost.consP {s : Hs} {σ : L2.St} {Q : List V → Hp → Prop} {d : D} {v : V} {a : AR} (h : APost G W s σ Q (a.cons true d)) (hv : Is G s.as s.f v d) : APost G W s σ (fun xs H2 => Q (v :: xs) H2) a := by
  cases a with
  | ok p l st => exact fun t vs g k q u => h t (v :: vs) g k (fun z => .cons (hv.up g.a g.f) (q (by simpa using z))) (.cons (.inl (hv.up g.a g.f)) u)
  | exc c l st => exact h
  | bad => exact h
theorem APost.consB {s : Hs} {σ : L2.St} {Q : List V → Hp → Prop} {d : D} {v : V} {a : AR} (h : APost G W s σ Q (a.cons false d)) (hv : U G s v d) : APost G W s σ (fun xs H2 => Q (v :: xs) H2) a := by
  cases a with
  | ok p l st => exact fun t vs g k q u => h t (v :: vs) g k (fun z => by simp at z) (.cons (hv.up g) u)
  | exc c l st => exact h
  | bad => exact h
theorem a_cons {te : TE} {tr : TA} {f : En → ER} {g : En → AR} (ha : DEv G W te f) (hr : DAr G W tr g) : DAr G W (tCons te tr) (aCons f g) := by
  intro s t σ e st E k Q post
  refine ha s t σ e st E k _ ?_
  unfold aCons at post
  cases q : f ⟨e, st⟩ with
  | val m d st1 =>
    rw [q] at post
    intro t1 v g1 k1 o1
    cases m with
    | P => exact hr s t1 σ e st1 (E.up g1) k1 _ (APost.consP (APost.step g1 post) o1)
    | B => exact hr s t1 σ e st1 (E.up g1) k1 _ (APost.consB (APost.step g1 post) o1.u)
    | N =>
      obtain ⟨f2, g2, k2, _, i2⟩ := o1.freeze g1 k1 (by decide)
      exact hr s ⟨t1.as, f2, t1.h⟩ σ e st1 (E.up g2) k2 _ (APost.consP (APost.step g2 post) i2)
  | exc c l st1 => rw [q] at post; exact post
  | bad => rw [q] at post; exact post
def dTup (f : En → AR) : En → ER := fun E => match f E with
  | .ok true l st => if l.length ≤ 1000000 then .val .P (.tup l) st else .bad
  | .exc c l st => .exc c l st
  | _ => .bad
def dLst (f : En → AR) : En → ER := fun E => match f E with
  | .ok true l st => if l.length ≤ 1000000 then .val .N (.lst l) st else .bad
  | .exc c l st => .exc c l st
  | _ => .bad
theorem v_lst {ta : TA} {f : En → AR} (h : DAr G W ta f) : DEv G W (tLst ta) (dLst f) := by
  intro s t σ e st E k Q post
  refine h s t σ e st E k _ ?_
  unfold dLst at post
  cases q : f ⟨e, st⟩ with
  | ok p l st1 =>
    rw [q] at post
    cases p with
    | false => exact post.elim
    | true =>
      obtain ⟨c, post⟩ := RPost.cond _ _ post
      exact fun t1 vs g1 k1 i1 u1 => ⟨by rw [u1.len]; exact sz c, fun p hp => (RPost.step g1 k1 post).newL k1 (i1 rfl) hp⟩
  | exc c l st1 => rw [q] at post; exact post
  | bad => rw [q] at post; exact post
def dPut (f : En → ER) : En → ER := fun E => match f E with
  | .val .N (.lst l) st => .val .P (.ptr st.length) (st ++ [.lst l])
  | .exc c l st => .exc c l st
  | _ => .bad
theorem v_put {te : TE} {f : En → ER} (h : DEv G W te f) : DEv G W te (dPut f) := by
  intro s t σ e st E k Q post
  refine h s t σ e st E k _ ?_
  unfold dPut at post
  cases q : f ⟨e, st⟩ with
  | val m d st1 =>
    rw [q] at post
    cases m with
    | P => cases d <;> exact post.elim
    | B => cases d <;> exact post.elim
    | N =>
      intro t1 v g1 k1 o1
      obtain ⟨p, vs, l, rfl, rfl, a, b, c, n, z⟩ := o1
      have k2 : StOk G ⟨t1.as ++ [p], t1.f, t1.h⟩ (st1 ++ [.lst l]) := k1.put z c ⟨vs, a, b.up (Ext.app _ _) (Same.refl _)⟩
      refine post ⟨t1.as ++ [p], t1.f, t1.h⟩ _ (g1.put k1 n z) k2 (.ptr ?_)
      show (t1.as ++ [p])[st1.length]? = some p
      rw [← k1.len, List.getElem?_append_right (Nat.le_refl _)]
      simp
  | exc c l st1 => rw [q] at post; exact post
  | bad => rw [q] at post; exact post
def spF (G : Gm) (F : List D → Sto → ER) : Sp := fun vs H Q E => ∃ (s : Hs) (ds : List D) (st : Sto), s.h = H ∧ StOk G s st ∧ IsL G s.as s.f vs ds ∧ RPost G (fun c x _ H' => E c x H') s [] Q (F ds st)
def dCall (F : List D → Sto → ER) (f : En → AR) : En → ER := fun E => match f E with
  | .ok true l st => F l st
  | .exc c l st => .exc c l st
  | _ => .bad
theorem RPost.w {W' : WX} {s : Hs} {σ σ' : L2.St} {Q : VK} {r : ER} (h : RPost G W s σ Q r) (hw : ∀ c x H', W c x σ H' → W' c x σ' H') : RPost G W' s σ' Q r := by
  cases r with
  | val m d st => exact h
  | exc c l st => exact fun t x g k o => hw _ _ _ (h t x g k o)
  | bad => exact h
theorem v_call {F : List D → Sto → ER} {ta : TA} {f : En → AR} (ha : DAr G W ta f) : DEv G W (tCallS (spF G F) (WE W) ta) (dCall F f) := by
  intro s t σ e st E k Q post
  refine ha s t σ e st E k _ ?_
  unfold dCall at post
  cases q : f ⟨e, st⟩ with
  | ok p l st1 =>
    rw [q] at post
    cases p with
    | true => exact fun t1 vs g1 k1 i1 u1 => ⟨t1, l, st1, rfl, k1, i1 rfl, (RPost.step g1 k1 post).w (fun c x H' h => h)⟩
    | false => exact post.elim
  | exc c l st1 => rw [q] at post; exact post
  | bad => rw [q] at post; exact post
def DCal (G : Gm) (r : List V → Hp → VK → Prop) (o : List D → Sto → ER) : Prop :=
  ∀ (W : WX) (σ : L2.St) (s : Hs) (st : Sto) (vs : List V) (ds : List D), StOk G s st → UL G s vs ds → ∀ Q : VK, RPost G W s σ Q (o ds st) → r vs s.h Q
def dCB (o : List D → Sto → ER) (f : En → AR) : En → ER := fun E => match f E with
  | .ok _ l st => o l st
  | .exc c l st => .exc c l st
  | .bad => .bad
theorem v_cb {r : List V → Hp → VK → Prop} {o : List D → Sto → ER} {ta : TA} {f : En → AR} (hr : DCal G r o) (ha : DAr G W ta f) : DEv G W (tCB r ta) (dCB o f) := by
  intro s t σ e st E k Q post
  refine ha s t σ e st E k _ ?_
  unfold dCB at post
  cases q : f ⟨e, st⟩ with
  | ok p l st1 => rw [q] at post; exact fun t1 vs g1 k1 i1 u1 => hr W σ t1 st1 vs l k1 u1 Q (RPost.step g1 k1 post)
  | exc c l st1 => rw [q] at post; exact post
  | bad => rw [q] at post; exact post
theorem UL.one {s : Hs} {vs : List V} {d : D} (h : UL G s vs [d]) : ∃ v, vs = [v] ∧ U G s v d := by
  cases h with | cons a b => cases b; exact ⟨_, rfl, a⟩
theorem UL.two {s : Hs} {vs : List V} {d e : D} (h : UL G s vs [d, e]) : ∃ v w, vs = [v, w] ∧ U G s v d ∧ U G s w e := by
  cases h with | cons a b => cases b with | cons c d => cases d; exact ⟨_, _, rfl, a, c⟩
theorem DCal.one1 {r : List V → Hp → VK → Prop} {o : List D → Sto → ER} (h0 : ∀ st, o [] st = .bad) (h2 : ∀ a b l st, o (a :: b :: l) st = .bad)
    (h : ∀ (W : WX) (σ : L2.St) (s : Hs) (st : Sto) (v : V) (d : D), StOk G s st → U G s v d → ∀ Q : VK, RPost G W s σ Q (o [d] st) → r [v] s.h Q) : DCal G r o := by
  intro W σ s st vs ds k hv Q post
  match ds, hv, post with
  | [], _, post => rw [h0] at post; exact post.elim
  | [d], hv, post => obtain ⟨v, rfl, hv1⟩ := hv.one; exact h W σ s st v d k hv1 Q post
  | a :: b :: l, _, post => rw [h2] at post; exact post.elim
def oAbs : List D → Sto → ER
  | [.int i], st => .val .P (.int (if i < 0 then -i else i)) st
  | _, _ => .bad
def oLen : List D → Sto → ER
  | [.lst l], st => .val .P (.int l.length) st
  | [.tup l], st => .val .P (.int l.length) st
  | [.scr l], st => .val .P (.int l.length) st
  | [.ptr n], st => ofOpt (stLst st n) fun l => .val .P (.int l.length) st
  | [.str z], st => if z.length ≤ 1000000 then .val .P (.int z.length) st else .bad
  | _, _ => .bad
theorem c_len : DCal G (fun xs H Q => ∃ x n, xs = [x] ∧ LenV G.K x H n ∧ Q (.int n) H) oLen := by
  refine DCal.one1 (fun _ => rfl) (fun a b l _ => by cases a <;> rfl) fun W σ s st v d k hv Q post => ?_
  cases d <;> try exact post.elim
  case lst l =>
    obtain ⟨p, vs, rfl, hp, hl⟩ := hv.lst k.sf
    exact ⟨_, l.length, rfl, .inl ⟨vs, SqL.of hp, hl.len.symm⟩, post.now k (.int _)⟩
  case tup l =>
    obtain ⟨p, vs, rfl, hp, hl⟩ := hv.tup k.sf
    exact ⟨_, l.length, rfl, .inr ⟨vs, hp, hl.len.symm⟩, post.now k (.int _)⟩
  case scr l =>
    obtain ⟨p, rfl, hp⟩ := hv.scr k.sf
    exact ⟨_, l.length, rfl, .inl ⟨_, hp, by rw [List.length_map]⟩, post.now k (.int _)⟩
  case ptr n =>
    obtain ⟨p, rfl, hp⟩ := hv.ptr
    obtain ⟨l, ql, post⟩ := RPost.opt (stLst st n) (fun l => .val .P (.int l.length) st) post
    obtain ⟨vs, hh, hl⟩ := k.lst hp ql
    exact ⟨_, l.length, rfl, .inl ⟨vs, SqL.of hh, hl.len.symm⟩, post.now k (.int _)⟩
  case str z =>
    obtain rfl := hv.str
    obtain ⟨c, post⟩ := RPost.cond (z.length ≤ 1000000) (.val .P (.int z.length) st) post
    exact ⟨_, z.length, rfl, ⟨sz c, rfl⟩, post.now k (.int _)⟩
def oMax2 : List D → Sto → ER
  | [.int i, .int j], st => .val .P (.int (if j > i then j else i)) st
  | _, _ => .bad
def oMin2 : List D → Sto → ER
  | [.int i, .int j], st => .val .P (.int (if j < i then j else i)) st
  | _, _ => .bad
def intsOf : List D → Option (List Int)
  | [] => some []
  | .int i :: l => (intsOf l).map (i :: ·)
  | _ => none
theorem intsOf_V {as : List Addr} {H : Hp} : ∀ {l : List D} {vs : List V} {ns : List Int}, intsOf l = some ns → IsL G as H vs l → vs = ns.map V.int
  | [], _, _, h, i => by cases i; cases h; rfl
  | d :: l, _, ns, h, i => by
    cases i with
    | cons a b =>
      cases d <;> first | (cases h; done) | skip
      rename_i i
      have h' : (intsOf l).map (i :: ·) = some ns := h
      cases q : intsOf l with
      | none => rw [q] at h'; cases h'
      | some ms =>
        rw [q] at h'; cases h'
        cases a
        rw [intsOf_V q b]; rfl
def oSum : List D → Sto → ER
  | [.lst l], st => ofOpt (intsOf l) fun ns => .val .P (.int ns.sum) st
  | _, _ => .bad
theorem c_sum : DCal G (rSum G.K) oSum := by
  refine DCal.one1 (fun _ => rfl) (fun a b l _ => by cases a <;> rfl) fun W σ s st v d k hv Q post => ?_
  cases d <;> try exact post.elim
  rename_i l
  obtain ⟨p, vs, rfl, hp, hl⟩ := hv.lst k.sf
  obtain ⟨ns, h, post⟩ := RPost.opt (intsOf l) (fun ns => .val .P (.int ns.sum) st) post
  have := intsOf_V h hl
  subst this
  exact ⟨p, ns, rfl, SqL.of hp, post.now k (.int _)⟩
theorem IsL.ints {as : List Addr} {H : Hp} : ∀ (l : List Int), IsL G as H (l.map V.int) (l.map D.int)
  | [] => .nil
  | i :: l => .cons (.int i) (IsL.ints l)
def oList : List D → Sto → ER
  | [.lst l], st => .val .N (.lst l) st
  | [.tup l], st => .val .N (.lst l) st
  | [.scr l], st => .val .N (.lst (l.map .int)) st
  | [.ptr n], st => ofOpt (stLst st n) fun l => .val .N (.lst l) st
  | _, _ => .bad
def oTuple : List D → Sto → ER
  | [.lst l], st => .val .P (.tup l) st
  | [.tup l], st => .val .P (.tup l) st
  | _, _ => .bad
def cutG {α : Type} (xs : List α) (lo hi : Option Int) : List α := (xs.drop (HT.sIx xs.length 0 lo)).take (HT.sIx xs.length xs.length hi - HT.sIx xs.length 0 lo)
def partI (o : Option ER) (st : Sto) : Option (Option Int × Sto) := match o with
  | none => some (none, st)
  | some (.val _ (.int i) st1) => some (some i, st1)
  | _ => none
def dSl (o : D → Option Int → Option Int → Sto → ER) (f : En → ER) (lo hi : En → Option ER) : En → ER := fun E => (f E).bind fun x st => ofOpt (partI (lo ⟨E.e, st⟩) st) fun l => ofOpt (partI (hi ⟨E.e, l.2⟩) l.2) fun u => o x l.1 u.1 u.2
def oSl (d : D) (lo hi : Option Int) (st : Sto) : ER := match d with
  | .lst l => .val .N (.lst (cutG l lo hi)) st
  | .scr l => .val .N (.lst ((cutG l lo hi).map .int)) st
  | .tup l => .val .P (.tup (cutG l lo hi)) st
  | .str z => if z.length ≤ 1000000 then .val .P (.str (cutS z lo hi)) st else .bad
  | _ => .bad
end
end Dn
namespace Dn
open PySem PySem.Spec PyProof.Rows L2
structure Up (s t : Hs) : Prop where
  a : Ext s.as t.as
  f : Same s.f t.f
theorem Up.refl (s : Hs) : Up s s := ⟨Ext.refl _, Same.refl _⟩
theorem Up.trans {s t u : Hs} (x : Up s t) (y : Up t u) : Up s u := ⟨x.a.trans y.a, x.f.trans y.f⟩
theorem Gro.up {s t : Hs} (g : Gro s t) : Up s t := ⟨g.a, g.f⟩
def DTg (G : Gm) (g : TG) (js : List Nat) (h : D → DE → Option DE) : Prop :=
  ∀ s t σ e st v d, EnvOk G s t σ e → StOk G t st → Is G t.as t.f v d → ∀ Q : L2.St → Hp → Prop, ∀ e', h d e = some e' →
    (∀ σ', EnvOk G s t σ' e' → σ'.length = σ.length → (∀ i, i ∉ js → σ'[i]? = σ[i]?) → Q σ' t.h) → g v σ t.h Q
def DTgs (G : Gm) (g : TGs) (js : List Nat) (h : List D → DE → Option DE) : Prop :=
  ∀ s t σ e st vs ds, EnvOk G s t σ e → StOk G t st → IsL G t.as t.f vs ds → ∀ Q : L2.St → Hp → Prop, ∀ e', h ds e = some e' →
    (∀ σ', EnvOk G s t σ' e' → σ'.length = σ.length → (∀ i, i ∉ js → σ'[i]? = σ[i]?) → Q σ' t.h) → g vs σ t.h Q
section
variable {G : Gm} {W : WX}
def tgN (i : Nat) : D → DE → Option DE := fun d e => some (e.set i (.val d))
theorem g_name {i : Nat} : DTg G (gName i) [i] (tgN i) := by
  intro s t σ e st v d E k hv Q e' he post
  cases he
  refine post _ (E.set ⟨v, rfl, hv⟩ (fun l z => nomatch z)) (by simp) fun j hj => ?_
  have : i ≠ j := fun z => hj (by simp [z])
  rw [List.getElem?_set_ne this]
def tgsNil : List D → DE → Option DE := fun l e => match l with | [] => some e | _ => none
theorem gs_nil : DTgs G gNil [] tgsNil := by
  intro s t σ e st vs ds E k hv Q e' he post
  cases ds with
  | nil => cases hv; cases he; exact ⟨rfl, post σ E rfl fun _ _ => rfl⟩
  | cons d l => cases he
def tgsCons (t : D → DE → Option DE) (u : List D → DE → Option DE) : List D → DE → Option DE := fun l e => match l with
  | [] => none
  | d :: l => (t d e).bind (u l)
theorem gs_cons {g : TG} {gs : TGs} {js ks : List Nat} {t : D → DE → Option DE} {u : List D → DE → Option DE} (h1 : DTg G g js t) (h2 : DTgs G gs ks u) : DTgs G (gCons g gs) (js ++ ks) (tgsCons t u) := by
  intro s t0 σ e st vs ds E k hv Q e' he post
  cases ds with
  | nil => cases he
  | cons d l =>
    cases hv with
    | cons a b =>
      have he' : (t d e).bind (u l) = some e' := he
      cases q : t d e with
      | none => rw [q] at he'; cases he'
      | some e1 =>
        rw [q] at he'
        refine ⟨_, _, rfl, h1 s t0 σ e st _ d E k a _ e1 q fun σ1 E1 l1 w1 => ?_⟩
        refine h2 s t0 σ1 e1 st _ l E1 k b _ e' he' fun σ2 E2 l2 w2 => ?_
        refine post σ2 E2 (l2.trans l1) fun i hi => ?_
        rw [w2 i (fun z => hi (List.mem_append_right _ z)), w1 i (fun z => hi (List.mem_append_left _ z))]
def tgT (n : Nat) (u : List D → DE → Option DE) : D → DE → Option DE := fun d e => match d with
  | .tup l => if l.length = n then u l e else none
  | .lst l => if l.length = n then u l e else none
  | _ => none
abbrev gTL (K : PySem.W.Frag) (n : Nat) (t : TGs) : TG := fun v σ H Q => gTup K n t v σ H Q ∨ gLst K n t v σ H Q
theorem pg_tl {X : Cx} {pos : Pos} {es : List Expr} {k : Nat} {t : TGs} {n : Nat} (hc : X.calm = true) (h : PGs X es t)
    (hn : (assignEach es X.env).length = n := by rfl) (hst : (assignEach es X.env).findIdx? (·.1) = none := by rfl) : PG X (.Tuple es k pos) (gTL X.K n t) :=
  ⟨fun pins s σ H v u Q I r hw => hw.elim (fun z => (pg_tup hc h hn hst).run pins s σ H v u Q I r z) (fun z => (pg_lst hc h hn hst).run pins s σ H v u Q I r z)⟩
theorem g_tl {n : Nat} {t : TGs} {js : List Nat} {u : List D → DE → Option DE} (h : DTgs G t js u) : DTg G (gTL G.K n t) js (tgT n u) := by
  intro s t0 σ e st v d E k hv Q e' he post
  cases d <;> try (cases he; done)
  case tup l =>
    have he' : (if l.length = n then u l e else none) = some e' := he
    split at he'
    · rename_i hn
      cases hv with
      | tup a b => exact .inl ⟨_, _, rfl, same_t k.sf a, b.len.trans hn, h s t0 σ e st _ l E k b Q e' he' post⟩
    · cases he'
  case lst l =>
    have he' : (if l.length = n then u l e else none) = some e' := he
    split at he'
    · rename_i hn
      cases hv with
      | lst a b => exact .inr ⟨_, _, rfl, SqL.of (k.sf _ _ a), b.len.trans hn, h s t0 σ e st _ l E k b Q e' he' post⟩
    · cases he'
end
inductive SR where | nx (E : En) | rt (m : Md) (d : D) (st : Sto) | bk (E : En) | ct (E : En) | exc (c : Nat) (l : List D) (E : En) | bad
def SPost (G : Gm) (W : WX) (s t : Hs) (N : Ends) : SR → Prop
  | .nx E => ∀ t' σ', Up t t' → EnvOk G s t' σ' E.e → StOk G t' E.st → N.nx σ' t'.h
  | .rt m d st => ∀ t' v, Up t t' → Gro s t' → StOk G t' st → VOk G s t' m v d → N.rt v t'.h
  | .bk E => ∀ t' σ', Up t t' → EnvOk G s t' σ' E.e → StOk G t' E.st → N.bk σ' t'.h
  | .ct E => ∀ t' σ', Up t t' → EnvOk G s t' σ' E.e → StOk G t' E.st → N.ct σ' t'.h
  | .exc c l E => ∀ t' σ' x, Up t t' → EnvOk G s t' σ' E.e → StOk G t' E.st → ExcOk G t' c l x → W (.ref (G.ca c)) x σ' t'.h
  | .bad => False
theorem SPost.mono {G : Gm} {W : WX} {s t t1 : Hs} {N : Ends} {r : SR} (u : Up t t1) (h : SPost G W s t N r) : SPost G W s t1 N r := by
  cases r with
  | nx E => exact fun t' σ' q => h t' σ' (u.trans q)
  | rt m d st => exact fun t' v q => h t' v (u.trans q)
  | bk E => exact fun t' σ' q => h t' σ' (u.trans q)
  | ct E => exact fun t' σ' q => h t' σ' (u.trans q)
  | exc c l E => exact fun t' σ' x q => h t' σ' x (u.trans q)
  | bad => exact h
def DSt (G : Gm) (W : WX) (ts : TS) (g : En → SR) : Prop :=
  ∀ s t σ e st, EnvOk G s t σ e → StOk G t st → ∀ N : Ends, SPost G W s t N (g ⟨e, st⟩) → ts N σ t.h
def SR.bind (r : SR) (k : En → SR) : SR := match r with
  | .nx E => k E
  | r => r
@[simp] theorem SR.bind_nx (E : En) (k : En → SR) : (SR.nx E).bind k = k E := rfl
@[simp] theorem SR.bind_rt (m : Md) (d : D) (st : Sto) (k : En → SR) : (SR.rt m d st).bind k = .rt m d st := rfl
@[simp] theorem SR.bind_bk (E : En) (k : En → SR) : (SR.bk E).bind k = .bk E := rfl
@[simp] theorem SR.bind_ct (E : En) (k : En → SR) : (SR.ct E).bind k = .ct E := rfl
@[simp] theorem SR.bind_exc (c : Nat) (l : List D) (E : En) (k : En → SR) : (SR.exc c l E).bind k = .exc c l E := rfl
@[simp] theorem SR.bind_bad (k : En → SR) : SR.bad.bind k = .bad := rfl
section
variable {G : Gm} {W : WX}
def sSeq (f g : En → SR) : En → SR := fun E => (f E).bind g
theorem s_seq {t u : TS} {f g : En → SR} (h1 : DSt G W t f) (h2 : DSt G W u g) : DSt G W (tSeq t u) (sSeq f g) := by
  intro s t0 σ e st E k N post
  refine h1 s t0 σ e st E k _ ?_
  unfold sSeq at post
  cases q : f ⟨e, st⟩ with
  | nx E1 => rw [q] at post; exact fun t' σ' u E' k' => h2 s t' σ' E1.e E1.st E' k' N (SPost.mono u post)
  | rt m d st => rw [q] at post; exact post
  | bk e => rw [q] at post; exact post
  | ct e => rw [q] at post; exact post
  | exc c l e => rw [q] at post; exact post
  | bad => rw [q] at post; exact post
def sSkip : En → SR := .nx
theorem s_skip : DSt G W tNext sSkip := fun s t σ e st E k N post => post t σ (Up.refl _) E k
def sBreak : En → SR := .bk
def sCont : En → SR := .ct
theorem ev_st {te : TE} {f : En → ER} (h : DEv G W te f) {s t : Hs} {σ : L2.St} {e : DE} {st : Sto} (E : EnvOk G s t σ e) (k : StOk G t st) {N : Ends} {Q : VK} (hx : ∀ c l st1, f ⟨e, st⟩ = .exc c l st1 → SPost G W s t N (.exc c l ⟨e, st1⟩)) (hb : f ⟨e, st⟩ ≠ .bad)
    (hv : ∀ m d st1, f ⟨e, st⟩ = .val m d st1 → ∀ t' v, Gro t t' → StOk G t' st1 → VOk G t t' m v d → Q v t'.h) : te σ t.h Q := by
  refine h s t σ e st E k _ ?_
  cases q : f ⟨e, st⟩ with
  | val m d st1 => exact hv m d st1 q
  | exc c l st1 => exact fun t' x g k' o => hx c l st1 q t' σ x g.up (E.up g) k' o
  | bad => exact absurd q hb
def sSet (i : Nat) (f : En → ER) : En → SR := fun E => match f E with
  | .val .P d st => .nx ⟨E.e.set i (.val d), st⟩
  | .val .N (.lst l) st => .nx ⟨E.e.set i (.own l), st⟩
  | .exc c l st => .exc c l ⟨E.e, st⟩
  | _ => .bad
theorem s_set {i : Nat} {te : TE} {f : En → ER} (h : DEv G W te f) : DSt G W (tAsg te (gName i)) (sSet i f) := by
  intro s t σ e st E k N post
  unfold sSet at post
  refine ev_st (N := N) h E k (fun c l st1 q => by rw [q] at post; exact post) (fun q => by rw [q] at post; exact post) fun m d st1 q t' v g k' o => ?_
  rw [q] at post
  cases m with
  | P => exact post t' _ g.up ((E.up g).set ⟨v, rfl, o⟩ (fun l z => nomatch z)) k'
  | B => cases d <;> exact post.elim
  | N =>
    obtain ⟨p, vs, l, rfl, rfl, a, b, c, n, z⟩ := o
    have n0 : s.h p = none := by
      cases q : s.h p with
      | none => rfl
      | some o =>
        by_cases i : p ∈ s.as
        · exact absurd (E.gr.a.mem i) (k.new n)
        · rw [E.gr.h p o q i] at n; cases n
    refine post t' _ g.up ((E.up g).setOwn n0 z a b c fun j m hj s1 s2 => ?_) k'
    obtain ⟨o, h1, p', vs', h2, _, _, h3, _⟩ := E.slot s2
    rw [s1] at h1; cases h1
    cases h2
    rw [n] at h3; cases h3
def sSetF (i : Nat) (f : En → ER) : En → SR := fun E => match f E with
  | .val .P d st => .nx ⟨E.e.set i (.val d), st⟩
  | .val .N d st => .nx ⟨E.e.set i (.val d), st⟩
  | .exc c l st => .exc c l ⟨E.e, st⟩
  | _ => .bad
theorem s_setF {i : Nat} {te : TE} {f : En → ER} (h : DEv G W te f) : DSt G W (tAsg te (gName i)) (sSetF i f) := by
  intro s t σ e st E k N post
  unfold sSetF at post
  refine ev_st (N := N) h E k (fun c l st1 q => by rw [q] at post; exact post) (fun q => by rw [q] at post; exact post) fun m d st1 q t' v g k' o => ?_
  rw [q] at post
  cases m with
  | P => exact post t' _ g.up ((E.up g).set ⟨v, rfl, o⟩ (fun l z => nomatch z)) k'
  | B => exact post.elim
  | N =>
    obtain ⟨f2, g2, k2, _, i2⟩ := o.freeze g k' (by decide)
    exact post ⟨t'.as, f2, t'.h⟩ _ g2.up ((E.up g2).set ⟨v, rfl, i2⟩ (fun l z => nomatch z)) k2
def sAsg (t : D → DE → Option DE) (f : En → ER) : En → SR := fun E => match f E with
  | .val .B _ _ => .bad
  | .val _ d st => (match t d E.e with | some e' => .nx ⟨e', st⟩ | none => .bad)
  | .exc c l st => .exc c l ⟨E.e, st⟩
  | _ => .bad
theorem s_asg {te : TE} {g : TG} {js : List Nat} {f : En → ER} {tg : D → DE → Option DE} (h : DEv G W te f) (hg : DTg G g js tg) : DSt G W (tAsg te g) (sAsg tg f) := by
  intro s t σ e st E k N post
  unfold sAsg at post
  refine ev_st (N := N) h E k (fun c l st1 q => by rw [q] at post; exact post) (fun q => by rw [q] at post; exact post) fun m d st1 q t' v g1 k' o => ?_
  rw [q] at post
  have fin : ∀ f2, Gro t ⟨t'.as, f2, t'.h⟩ → StOk G ⟨t'.as, f2, t'.h⟩ st1 → Is G t'.as f2 v d → SPost G W s t N (match tg d e with | some e' => .nx ⟨e', st1⟩ | none => .bad) → g v σ t'.h N.nx := fun f2 g2 k2 i2 p => by
    cases q2 : tg d e with
    | none => rw [q2] at p; exact p.elim
    | some e' =>
      rw [q2] at p
      exact hg s ⟨t'.as, f2, t'.h⟩ σ e st1 v d (E.up g2) k2 i2 _ e' q2 fun σ3 E3 _ _ => p _ σ3 g2.up E3 k2
  cases m with
  | P => exact fin t'.f g1 k' o post
  | B => exact post.elim
  | N =>
    obtain ⟨f2, g2, k2, _, i2⟩ := o.freeze g1 k' (by decide)
    exact fin f2 g2 k2 i2 post
def sPar (i j : Nat) (f : En → AR) : En → SR := fun E => match f E with
  | .ok true [a, b] st => .nx ⟨(E.e.set i (.val a)).set j (.val b), st⟩
  | .exc c l st => .exc c l ⟨E.e, st⟩
  | _ => .bad
def sDrop (f : En → ER) : En → SR := fun E => match f E with
  | .val _ _ st => .nx ⟨E.e, st⟩
  | .exc c l st => .exc c l ⟨E.e, st⟩
  | .bad => .bad
theorem s_drop {te : TE} {f : En → ER} (h : DEv G W te f) : DSt G W (tDrop te) (sDrop f) := by
  intro s t σ e st E k N post
  unfold sDrop at post
  refine ev_st (N := N) h E k (fun c l st1 q => by rw [q] at post; exact post) (fun q => by rw [q] at post; exact post) fun m d st1 q t' v g k' o => ?_
  rw [q] at post
  exact post t' σ g.up (E.up g) k'
def sRet (f : En → ER) : En → SR := fun E => match f E with
  | .val .P d st => .rt .P d st
  | .val .N d st => .rt .N d st
  | .exc c l st => .exc c l ⟨E.e, st⟩
  | _ => .bad
theorem s_ret {te : TE} {f : En → ER} (h : DEv G W te f) : DSt G W (tRet te) (sRet f) := by
  intro s t σ e st E k N post
  unfold sRet at post
  refine ev_st (N := N) h E k (fun c l st1 q => by rw [q] at post; exact post) (fun q => by rw [q] at post; exact post) fun m d st1 q t' v g k' o => ?_
  rw [q] at post
  cases m with
  | P => exact post t' v g.up (E.gr.trans g) k' o
  | B => exact post.elim
  | N => exact post t' v g.up (E.gr.trans g) k' (o.back E.gr k)
def sRetV (i : Nat) : En → SR := fun E => match E.e[i]? with
  | some (.val d) => .rt .P d E.st
  | some (.own l) => .rt .N (.lst l) E.st
  | _ => .bad
theorem s_retV {i : Nat} : DSt G W (tRet (tVar i)) (sRetV i) := by
  intro s t σ e st E k N post
  unfold sRetV at post
  split at post
  · rename_i d q
    obtain ⟨o, h1, v, rfl, h2⟩ := E.slot q
    exact ⟨v, h1, post t v (Up.refl _) E.gr k h2⟩
  · rename_i l q
    obtain ⟨o, h1, p, vs, rfl, a, b, c, d, f⟩ := E.slot q
    exact ⟨_, h1, post t _ (Up.refl _) E.gr k ⟨p, vs, l, rfl, rfl, c, d, f, a, b⟩⟩
  · exact post.elim
def sRetN : En → SR := fun E => .rt .P .non E.st
def sIf (c : En → ER) (f g : En → SR) : En → SR := fun E => match c E with
  | .val _ (.bl b) st => if b = true then f ⟨E.e, st⟩ else g ⟨E.e, st⟩
  | .exc c l st => .exc c l ⟨E.e, st⟩
  | _ => .bad
theorem tst_st {tt : TT} {f : En → ER} (h : DTt G W tt f) {s t : Hs} {σ : L2.St} {e : DE} {st : Sto} (E : EnvOk G s t σ e) (k : StOk G t st) {N : Ends} {Q : Bool → Hp → Prop} (hx : ∀ c l st1, f ⟨e, st⟩ = .exc c l st1 → SPost G W s t N (.exc c l ⟨e, st1⟩)) (hb : ∃ m b st1, f ⟨e, st⟩ = .val m (.bl b) st1 ∨ ∃ c l, f ⟨e, st⟩ = .exc c l st1)
    (hv : ∀ m b st1, f ⟨e, st⟩ = .val m (.bl b) st1 → ∀ t', Gro t t' → StOk G t' st1 → Q b t'.h) : tt σ t.h Q := by
  refine h s t σ e st E k _ ?_
  obtain ⟨m, b, st1, q | ⟨c, l, q⟩⟩ := hb
  · rw [q]; exact hv m b st1 q
  · rw [q]; exact fun t' x g k' o => hx c l st1 q t' σ x g.up (E.up g) k' o
theorem s_if {tc : TT} {t u : TS} {c : En → ER} {f g : En → SR} (hc : DTt G W tc c) (ht : DSt G W t f) (hu : DSt G W u g) : DSt G W (tIfS tc t u) (sIf c f g) := by
  intro s t0 σ e st E k N post
  unfold sIf at post
  refine tst_st (N := N) hc E k (fun c l st1 q => by rw [q] at post; exact post) ?_ fun m b st1 q t' g1 k' => ?_
  · cases q : c ⟨e, st⟩ with
    | val m d st1 =>
      rw [q] at post
      cases d <;> first | exact post.elim | exact ⟨m, _, st1, .inl rfl⟩
    | exc k l st1 => exact ⟨.P, true, st1, .inr ⟨k, l, rfl⟩⟩
    | bad => rw [q] at post; exact post.elim
  · rw [q] at post
    have post' : SPost G W s t0 N (if b = true then f ⟨e, st1⟩ else g ⟨e, st1⟩) := post
    cases b with
    | true => exact iteT (ht s t' σ e st1 (E.up g1) k' N (SPost.mono g1.up post'))
    | false => exact iteF (hu s t' σ e st1 (E.up g1) k' N (SPost.mono g1.up post'))
def frz (i : Nat) (e : DE) : DE := match e[i]? with
  | some (.own l) => e.set i (.val (.lst l))
  | _ => e
theorem EnvOk.frz {s t : Hs} {σ : L2.St} {e : DE} {st : Sto} (i : Nat) (E : EnvOk G s t σ e) (k : StOk G t st) : ∃ f, Same t.f f ∧ EnvOk G s ⟨t.as, f, t.h⟩ σ (frz i e) ∧ StOk G ⟨t.as, f, t.h⟩ st := by
  unfold Dn.frz
  split
  · rename_i l q
    obtain ⟨o, h1, p, vs, rfl, a, b, c, d, f⟩ := E.slot q
    have s1 : Same t.f (upd t.f p (.lst vs)) := same_new b
    refine ⟨upd t.f p (.lst vs), s1, ⟨E.gr.ice k c a b f, by simp [E.len], fun j o x y z => ?_, fun j m x l1 l2 hjk y z w u => ?_⟩, k.ice c b f⟩
    · by_cases zz : i = j
      · subst zz
        rw [List.getElem?_set_self (List.getElem?_eq_some_iff.mp q).1] at z
        rw [h1] at y; cases y; cases z
        exact ⟨_, rfl, .lst upd_same (d.up (Ext.refl _) s1)⟩
      · rw [List.getElem?_set_ne zz] at z
        have ok := E.at_ j o x y z
        cases x with
        | emp => trivial
        | exn => exact ok
        | clo ds =>
          obtain ⟨h1, h2, h3, h4⟩ := ok
          refine ⟨h1, h2, s1 _ _ h3, fun i d hd => ?_⟩
          obtain ⟨v, a, b⟩ := h4 i d hd
          exact ⟨v, a, b.up (Ext.refl _) s1⟩
        | val d => obtain ⟨v, a1, a2⟩ := ok; exact ⟨v, a1, a2.up (Ext.refl _) s1⟩
        | own m =>
          obtain ⟨p', vs', rfl, b1, b2, b3, b4, b5⟩ := ok
          have : p' ≠ p := fun zzz => by subst zzz; exact E.dis i j p' l m zz h1 q y z
          exact ⟨p', vs', rfl, b1, by show upd t.f p (.lst vs) p' = none; rw [upd_ne this]; exact b2, b3, b4.up (Ext.refl _) s1, b5⟩
    · have own_of : ∀ (j : Nat) (l1 : List D), (e.set i (.val (.lst l)))[j]? = some (.own l1) → e[j]? = some (.own l1) := fun j l1 z => by
        by_cases zz : i = j
        · subst zz
          rw [List.getElem?_set_self (List.getElem?_eq_some_iff.mp q).1] at z
          cases z
        · rw [List.getElem?_set_ne zz] at z; exact z
      exact E.dis j m x l1 l2 hjk y (own_of j l1 z) w (own_of m l2 u)
  · exact ⟨t.f, Same.refl _, E, k⟩
def sFrz (i : Nat) (g : En → SR) : En → SR := fun E => g ⟨frz i E.e, E.st⟩
theorem SPost.cond {s t : Hs} {N : Ends} (c : Prop) [Decidable c] (r : SR) (h : SPost G W s t N (if c then r else .bad)) : c ∧ SPost G W s t N r := by
  by_cases q : c
  · rw [if_pos q] at h; exact ⟨q, h⟩
  · rw [if_neg q] at h; exact h.elim
def sApp (i : Nat) (f : En → ER) : En → SR := fun E => match E.e[i]? with
  | some (.own l) => (match f E with
    | .val .B _ _ => .bad
    | .val _ d st => if l.length < 1000000 then .nx ⟨E.e.set i (.own (l ++ [d])), st⟩ else .bad
    | .exc c l st => .exc c l ⟨E.e, st⟩
    | .bad => .bad)
  | _ => .bad
theorem EnvOk.modS {s t : Hs} {σ : L2.St} {e : DE} {st : Sto} {n : Nat} {a : Addr} {o : HO} (E : EnvOk G s t σ e) (k : StOk G t st) (ha : t.as[n]? = some a) : EnvOk G s ⟨t.as, t.f, upd t.h a o⟩ σ e := by
  have m : a ∈ t.as := List.mem_iff_getElem?.mpr ⟨n, ha⟩
  refine ⟨E.gr.mod k ha, E.len, fun i x y p q => ?_, E.dis⟩
  have ok := E.at_ i x y p q
  cases y with
  | emp => trivial
  | exn => exact ok
  | clo ds => exact ok
  | val d => exact ok
  | own l =>
    obtain ⟨p', vs, rfl, a1, a2, a3, a4, a5⟩ := ok
    have : p' ≠ a := fun z => by subst z; exact a5 m
    exact ⟨p', vs, rfl, a1, a2, by show upd t.h a o p' = _; rw [upd_ne this]; exact a3, a4, a5⟩
def sSetO (x : Nat) (f fi : En → ER) : En → SR := fun E => match E.e[x]? with
  | some (.own l) => (match f E with
    | .val .B _ _ => .bad
    | .val _ d st => (match fi ⟨E.e, st⟩ with
      | .val _ (.int i) st1 => (match ixN l.length i with | some j => .nx ⟨E.e.set x (.own (l.set j d)), st1⟩ | none => .bad)
      | .exc c l st => .exc c l ⟨E.e, st⟩
      | _ => .bad)
    | .exc c l st => .exc c l ⟨E.e, st⟩
    | .bad => .bad)
  | _ => .bad
theorem s_setO {x : Nat} {te ti : TE} {f fi : En → ER} (h : DEv G W te f) (hi : DEv G W ti fi) : DSt G W (tAsg te (gSub (tVar x) ti rSetL)) (sSetO x f fi) := by
  intro s t σ e st E k N post
  unfold sSetO at post
  split at post
  · rename_i l hx
    have hx : e[x]? = some (.own l) := hx
    obtain ⟨o, hσ, p, vs, rfl, p0, pf, ph, pl, pa⟩ := E.slot hx
    refine ev_st (N := N) h E k (fun c l st1 q => by rw [q] at post; exact post) (fun q => by rw [q] at post; exact post) fun m d st1 q t1 v g1 k1 o1 => ?_
    rw [q] at post
    have fin : ∀ f2, Gro t ⟨t1.as, f2, t1.h⟩ → StOk G ⟨t1.as, f2, t1.h⟩ st1 → Is G t1.as f2 v d → SPost G W s t N (match fi ⟨e, st1⟩ with
      | .val _ (.int i) st1 => (match ixN l.length i with | some j => .nx ⟨e.set x (.own (l.set j d)), st1⟩ | none => .bad)
      | .exc c l st => .exc c l ⟨e, st⟩
      | _ => .bad) → gSub (tVar x) ti rSetL v σ t1.h N.nx := fun f2 g2 k2 i2 post => by
      refine ⟨_, hσ, ?_⟩
      refine ev_st (N := N) hi (E.up g2) k2 (fun c l st3 q3 => ?_) (fun q3 => ?_) fun mi di st3 q3 t3 w g3 k3 o3 => ?_
      · rw [q3] at post; exact SPost.mono g2.up post
      · rw [q3] at post; exact post
      · rw [q3] at post
        cases di <;> try exact post.elim
        rename_i i
        obtain rfl := o3.u.int
        have g23 := g2.trans g3
        cases hj : ixN l.length i with
        | none => simp only [hj] at post; exact post.elim
        | some j =>
          simp only [hj] at post
          have hp' : t3.h p = some (.lst vs) := g23.h _ _ ph pa
          have hf' : t3.f p = none := g23.n _ _ ph pf
          have ha' : p ∉ t3.as := fun m => (g23.w p m).elim pa fun z => by rw [ph] at z; cases z
          refine ⟨p, vs, i, j, rfl, rfl, hp', by rw [pl.len]; exact hj, ?_⟩
          have pl' := (pl.up g23.a g23.f).set (i2.up g3.a g3.f) j
          exact post ⟨t3.as, t3.f, upd t3.h p (.lst (vs.set j v))⟩ σ ⟨g23.a, g23.f⟩ ((E.up g23).chg hσ hx p0 hf' pl' ha') (k3.chg hf' ha')
    cases m with
    | P => exact fin t1.f g1 k1 o1 post
    | B => exact post.elim
    | N =>
      obtain ⟨f2, g2, k2, _, i2⟩ := o1.freeze g1 k1 (by decide)
      exact fin f2 g2 k2 i2 post
  · exact post.elim
def sSetP (fb f fi : En → ER) : En → SR := fun E => match f E with
  | .val .B _ _ => .bad
  | .val _ d st => (match fb ⟨E.e, st⟩ with
    | .val _ (.ptr n) st1 => (match fi ⟨E.e, st1⟩ with
      | .val _ (.int i) st2 => (match stLst st2 n with
        | some l => (match ixN l.length i with | some j => .nx ⟨E.e, st2.set n (.lst (l.set j d))⟩ | none => .bad)
        | none => .bad)
      | .exc c l st => .exc c l ⟨E.e, st⟩
      | _ => .bad)
    | .exc c l st => .exc c l ⟨E.e, st⟩
    | _ => .bad)
  | .exc c l st => .exc c l ⟨E.e, st⟩
  | .bad => .bad
theorem s_setP {tb te ti : TE} {fb f fi : En → ER} (hb : DEv G W tb fb) (h : DEv G W te f) (hi : DEv G W ti fi) : DSt G W (tAsg te (gSub tb ti rSetL)) (sSetP fb f fi) := by
  intro s t σ e st E k N post
  unfold sSetP at post
  refine ev_st (N := N) h E k (fun c l st1 q => by rw [q] at post; exact post) (fun q => by rw [q] at post; exact post) fun m d st1 q t1 v g1 k1 o1 => ?_
  rw [q] at post
  have fin : ∀ f2, Gro t ⟨t1.as, f2, t1.h⟩ → StOk G ⟨t1.as, f2, t1.h⟩ st1 → Is G t1.as f2 v d → SPost G W s t N (match fb ⟨e, st1⟩ with
    | .val _ (.ptr n) st1 => (match fi ⟨e, st1⟩ with
      | .val _ (.int i) st2 => (match stLst st2 n with
        | some l => (match ixN l.length i with | some j => .nx ⟨e, st2.set n (.lst (l.set j d))⟩ | none => .bad)
        | none => .bad)
      | .exc c l st => .exc c l ⟨e, st⟩
      | _ => .bad)
    | .exc c l st => .exc c l ⟨e, st⟩
    | _ => .bad) → gSub tb ti rSetL v σ t1.h N.nx := fun f2 g2 k2 i2 post => by
    refine ev_st (N := N) hb (E.up g2) k2 (fun c l st3 q3 => ?_) (fun q3 => ?_) fun mb db st3 q3 t3 b g3 k3 o3 => ?_
    · rw [q3] at post; exact SPost.mono g2.up post
    · rw [q3] at post; exact post
    · rw [q3] at post
      cases db <;> try exact post.elim
      rename_i n
      obtain ⟨p, rfl, hp⟩ := o3.u.ptr
      have g23 := g2.trans g3
      have post : SPost G W s t N (match fi ⟨e, st3⟩ with
        | .val _ (.int i) st2 => (match stLst st2 n with
          | some l => (match ixN l.length i with | some j => .nx ⟨e, st2.set n (.lst (l.set j d))⟩ | none => .bad)
          | none => .bad)
        | .exc c l st => .exc c l ⟨e, st⟩
        | _ => .bad) := post
      refine ev_st (N := N) hi (E.up g23) k3 (fun c l st4 q4 => ?_) (fun q4 => ?_) fun mi di st4 q4 t4 w g4 k4 o4 => ?_
      · rw [q4] at post; exact SPost.mono g23.up post
      · rw [q4] at post; exact post
      · rw [q4] at post
        cases di <;> try exact post.elim
        rename_i i
        obtain rfl := o4.u.int
        have g24 := g23.trans g4
        have hp4 := g4.a n p hp
        have post : SPost G W s t N (match stLst st4 n with
          | some l => (match ixN l.length i with | some j => .nx ⟨e, st4.set n (.lst (l.set j d))⟩ | none => .bad)
          | none => .bad) := post
        cases hl : stLst st4 n with
        | none => simp only [hl] at post; exact post.elim
        | some l =>
          simp only [hl] at post
          cases hj : ixN l.length i with
          | none => simp only [hj] at post; exact post.elim
          | some j =>
            simp only [hj] at post
            obtain ⟨vs, hh, il⟩ := k4.lst hp4 hl
            refine ⟨p, vs, i, j, rfl, rfl, hh, by rw [il.len]; exact hj, ?_⟩
            have il' := il.set (i2.up (g3.trans g4).a (g3.trans g4).f) j
            exact post ⟨t4.as, t4.f, upd t4.h p (.lst (vs.set j v))⟩ σ ⟨g24.a, g24.f⟩ ((E.up g24).modS k4 hp4) (k4.mod hp4 ⟨_, upd_same, il'⟩)
  cases m with
  | P => exact fin t1.f g1 k1 o1 post
  | B => exact post.elim
  | N =>
    obtain ⟨f2, g2, k2, _, i2⟩ := o1.freeze g1 k1 (by decide)
    exact fin f2 g2 k2 i2 post
def sSetI (x : Nat) (f fi : En → ER) : En → SR := fun E => match E.e[x]? with
  | some (.own _) => sSetO x f fi E
  | _ => sSetP (dVar x) f fi E
theorem s_setI {x : Nat} {te ti : TE} {f fi : En → ER} (h : DEv G W te f) (hi : DEv G W ti fi) : DSt G W (tAsg te (gSub (tVar x) ti rSetL)) (sSetI x f fi) := by
  intro s t σ e st E k N post
  unfold sSetI at post
  split at post
  · exact s_setO h hi s t σ e st E k N post
  · exact s_setP v_var h hi s t σ e st E k N post
end
end Dn
namespace Dn
open PySem PySem.Spec PyProof.Rows L2
def ItOk (G : Gm) (t1 : Hs) (J : It) (l : List D) : Prop := ∀ (i : Nat) (t : Hs) (st : Sto), Up t1 t → StOk G t st → (l.length ≤ i → J.stop i t.h) ∧
  ∀ d, l[i]? = some d → J.go i t.h ∧ ∀ x H', J.yld i t.h x H' → ∃ t', t'.h = H' ∧ Gro t t' ∧ StOk G t' st ∧ Is G t'.as t'.f x d
def IPost (G : Gm) (W : WX) (t : Hs) (σ : L2.St) (R : It → Hp → Prop) : AR → Prop
  | .ok _ l st => ∀ t' J, Gro t t' → StOk G t' st → ItOk G t' J l → R J t'.h
  | .exc c l st => ∀ t' x, Gro t t' → StOk G t' st → ExcOk G t' c l x → W (.ref (G.ca c)) x σ t'.h
  | .bad => False
def DIt (G : Gm) (W : WX) (wi : TI) (f : En → AR) : Prop := ∀ s t σ e st, EnvOk G s t σ e → StOk G t st → ∀ R : It → Hp → Prop, IPost G W t σ R (f ⟨e, st⟩) → wi σ t.h R
section
variable {G : Gm} {W : WX}
def iAny (K : PySem.W.Frag) (te : TE) : TI := fun σ H R => iList K te σ H R ∨ iTup K te σ H R ∨ iStr te σ H R
theorem pi_any {X : Cx} {tg e : Expr} {te : TE} (he : PE X e te) : PI X tg e (iAny X.K te) :=
  ⟨fun pins s σ H R I h => h.elim (fun z => (pi_list he).run pins s σ H R I z) fun z => z.elim (fun z => (pi_tup he).run pins s σ H R I z) (fun z => (pi_str he).run pins s σ H R I z)⟩
def itemsOf : D → Option (List D)
  | .lst l => some l
  | .tup l => some l
  | .scr l => some (l.map .int)
  | .str z => some (z.cps.toList.map fun c => .str ⟨#[c]⟩)
  | _ => none
def dIter (f : En → ER) : En → AR := fun E => match f E with
  | .val .B _ _ => .bad
  | .val _ d st => (match itemsOf d with | some l => .ok true l st | none => .bad)
  | .exc c l st => .exc c l st
  | .bad => .bad
theorem it_list {t1 : Hs} {a : Addr} {vs : List V} {l : List D} (h : ∀ t, Up t1 t → Same t.f t.h → SqL G.K t.h a vs ∧ IsL G t.as t.f vs l) : ItOk G t1 (Itl G.K a) l := by
  intro i t st u k
  obtain ⟨q, il⟩ := h t u k.sf
  refine ⟨fun hi => ⟨vs, q, by rw [il.len]; exact hi⟩, fun d hd => ?_⟩
  obtain ⟨v, h1, h2⟩ := il.get hd
  refine ⟨⟨vs, v, q, h1⟩, fun x H' y => ?_⟩
  obtain ⟨rfl, y⟩ := y
  have := y vs q
  rw [h1] at this; cases this
  exact ⟨t, rfl, Gro.refl k, k, h2⟩
theorem it_tup {t1 : Hs} {a : Addr} {vs : List V} {l : List D} (h : ∀ t, Up t1 t → Same t.f t.h → SqT G.K t.h a vs ∧ IsL G t.as t.f vs l) : ItOk G t1 (Itt G.K a) l := by
  intro i t st u k
  obtain ⟨q, il⟩ := h t u k.sf
  refine ⟨fun hi => ⟨vs, q, by rw [il.len]; exact hi⟩, fun d hd => ?_⟩
  obtain ⟨v, h1, h2⟩ := il.get hd
  refine ⟨⟨vs, v, q, h1⟩, fun x H' y => ?_⟩
  obtain ⟨rfl, y⟩ := y
  have := y vs q
  rw [h1] at this; cases this
  exact ⟨t, rfl, Gro.refl k, k, h2⟩
theorem it_str {t1 : Hs} (z : Str) : ItOk G t1 (Its z) (z.cps.toList.map fun c => .str ⟨#[c]⟩) := by
  intro i t st u k
  refine ⟨fun hi => by (show z.cps.size ≤ i); simpa using hi, fun d hd => ?_⟩
  rw [List.getElem?_map] at hd
  cases q : z.cps.toList[i]? with
  | none => rw [q] at hd; cases hd
  | some c =>
    rw [q] at hd
    cases hd
    have hi : i < z.cps.size := by
      have := (List.getElem?_eq_some_iff.mp q).1
      simpa using this
    refine ⟨hi, fun x H' y => ?_⟩
    obtain ⟨rfl, c', h1, rfl⟩ := y
    have : z.cps[i]? = some c := by rw [← Array.getElem?_toList]; exact q
    rw [this] at h1; cases h1
    exact ⟨t, rfl, Gro.refl k, k, .str _⟩
theorem i_any {te : TE} {f : En → ER} (h : DEv G W te f) : DIt G W (iAny G.K te) (dIter f) := by
  intro s t σ e st E k0 R post
  have hx : ∀ {Q : VK}, (∀ m d st1, f ⟨e, st⟩ = .val m d st1 → m ≠ .B → ∀ l, itemsOf d = some l → ∀ t' v, Gro t t' → StOk G t' st1 → Is G t'.as t'.f v d → Q v t'.h) → te σ t.h Q := fun {Q} k => by
    refine h s t σ e st E k0 _ ?_
    cases q : f ⟨e, st⟩ with
    | val m d st1 =>
      simp only [dIter, q] at post
      intro t' v g k' o
      have nb : m ≠ .B := fun z => by subst z; exact post.elim
      have : ∃ l, itemsOf d = some l := by
        cases m <;> first | exact absurd rfl nb | (cases q2 : itemsOf d <;> first | (simp only [q2] at post; exact post.elim) | exact ⟨_, rfl⟩)
      obtain ⟨l, hl⟩ := this
      obtain ⟨f2, g2, k2, _, i2⟩ := o.freeze g k' nb
      exact k m d st1 q nb l hl ⟨t'.as, f2, t'.h⟩ v g2 k2 i2
    | exc c l st1 => simp only [dIter, q] at post; exact post
    | bad => simp only [dIter, q] at post; exact post
  have hp : ∀ m d l st1, f ⟨e, st⟩ = .val m d st1 → m ≠ .B → itemsOf d = some l → ∀ t' J, Gro t t' → StOk G t' st1 → ItOk G t' J l → R J t'.h := fun m d l st1 q nb hl => by
    simp only [dIter, q] at post
    cases m <;> first | exact absurd rfl nb | (simp only [hl] at post; exact post)
  cases q : f ⟨e, st⟩ with
  | val m d st1 =>
    cases d with
    | tup l0 =>
      refine .inr (.inl (hx fun m' d' st' q' nb l hl t' v g k' i2 => ?_))
      rw [q] at q'; cases q'; cases hl
      cases i2 with
      | tup a b => exact ⟨_, rfl, ⟨_, same_t k'.sf a⟩, hp m (.tup l0) l0 st1 q nb rfl t' _ g k' (it_tup fun t2 u s2 => ⟨same_t (u.f.trans s2) a, b.up u.a u.f⟩)⟩
    | str z =>
      refine .inr (.inr (hx fun m' d' st' q' nb l hl t' v g k' i2 => ?_))
      rw [q] at q'; cases q'; cases hl
      cases i2 with
      | str => exact ⟨z, rfl, hp m (.str z) _ st1 q nb rfl t' _ g k' (it_str z)⟩
    | lst l0 =>
      refine .inl (hx fun m' d' st' q' nb l hl t' v g k' i2 => ?_)
      rw [q] at q'; cases q'; cases hl
      cases i2 with
      | lst a b => exact ⟨_, rfl, ⟨_, SqL.of (k'.sf _ _ a)⟩, hp m (.lst l0) l0 st1 q nb rfl t' _ g k' (it_list fun t2 u s2 => ⟨SqL.of (s2 _ _ (u.f _ _ a)), b.up u.a u.f⟩)⟩
    | scr l0 =>
      refine .inl (hx fun m' d' st' q' nb l hl t' v g k' i2 => ?_)
      rw [q] at q'; cases q'; cases hl
      cases i2 with
      | scr a => exact ⟨_, rfl, ⟨_, k'.sf.seq a⟩, hp m (.scr l0) _ st1 q nb rfl t' _ g k' (it_list fun t2 u s2 => ⟨(u.f.trans s2).seq a, IsL.ints _⟩)⟩
    | _ => refine .inl (hx fun m' d' st' q' nb l hl t' v g k' i2 => ?_); rw [q] at q'; cases q'; cases hl
  | exc c l st1 => refine .inl (hx fun m' d' st' q' => ?_); rw [q] at q'; cases q'
  | bad => refine .inl (hx fun m' d' st' q' => ?_); rw [q] at q'; cases q'
def rangeD (lo : Int) (n : Nat) : List D := (List.range n).map fun (k : Nat) => .int (lo + (k : Int))
theorem rangeD_get {lo : Int} {n i : Nat} {d : D} (h : (rangeD lo n)[i]? = some d) : i < n ∧ d = .int (lo + (i : Int)) := by
  unfold rangeD at h
  rw [List.getElem?_map] at h
  by_cases hi : i < n
  · rw [List.getElem?_range hi] at h; cases h; exact ⟨hi, rfl⟩
  · rw [List.getElem?_eq_none (by simpa using hi)] at h; cases h
theorem it_range {t1 : Hs} (lo : Int) (n : Nat) : ItOk G t1 (Itr lo n) (rangeD lo n) := by
  intro i t st u k
  refine ⟨fun hi => by (show n ≤ i); simpa [rangeD] using hi, fun d hd => ?_⟩
  obtain ⟨hi, rfl⟩ := rangeD_get hd
  refine ⟨hi, fun x H' y => ?_⟩
  obtain ⟨rfl, rfl⟩ := y
  exact ⟨t, rfl, Gro.refl k, k, .int _⟩
def rng1 : List D → Option (Int × Nat)
  | [.int j] => if -(2 ^ 62) ≤ j ∧ j < 2 ^ 62 then some (0, j.toNat) else none
  | _ => none
def rng2 : List D → Option (Int × Nat)
  | [.int i, .int j] => if -(2 ^ 62) ≤ i ∧ i < 2 ^ 62 ∧ -(2 ^ 62) ≤ j ∧ j < 2 ^ 62 then some (i, (j - i).toNat) else none
  | _ => none
def dRng (r : List D → Option (Int × Nat)) (f : En → AR) : En → AR := fun E => match f E with
  | .ok _ l st => (match r l with | some r => .ok true (rangeD r.1 r.2) st | none => .bad)
  | .exc c l st => .exc c l st
  | _ => .bad
theorem i_rng {ta : TA} {f : En → AR} {ro : List D → Option (Int × Nat)} {r : List V → Hp → (It → Hp → Prop) → Prop} (h : DAr G W ta f) (hr : ∀ t vs l p R, UL G t vs l → ro l = some p → R (Itr p.1 p.2) t.h → r vs t.h R) : DIt G W (fun σ H R => ta σ H fun vs H1 => r vs H1 R) (dRng ro f) := by
  intro s t σ e st E k R post
  refine h s t σ e st E k _ ?_
  unfold dRng at post
  cases q : f ⟨e, st⟩ with
  | ok p l st1 =>
    rw [q] at post
    intro t1 vs g1 k1 _ u1
    cases hl : ro l with
    | none => simp only [hl] at post; exact post.elim
    | some p =>
      simp only [hl] at post
      exact hr t1 vs l p R u1 hl (post t1 _ g1 k1 (it_range _ _))
  | exc c l st1 => rw [q] at post; exact post
  | bad => rw [q] at post; exact post
theorem i_range1 {ta : TA} {f : En → AR} (h : DAr G W ta f) : DIt G W (iRng1 ta) (dRng rng1 f) :=
  i_rng (r := fun vs H1 R => ∃ j : Int, vs = [.int j] ∧ -(2 ^ 62) ≤ j ∧ j < 2 ^ 62 ∧ R (Itr 0 j.toNat) H1) h fun t vs l p R u hl hR => by
    unfold rng1 at hl
    split at hl
    · rename_i j
      split at hl
      · rename_i c
        cases hl
        obtain ⟨v, rfl, hv⟩ := u.one
        obtain rfl := hv.int
        exact ⟨j, rfl, c.1, c.2, hR⟩
      · cases hl
    · cases hl
theorem i_range2 {ta : TA} {f : En → AR} (h : DAr G W ta f) : DIt G W (iRng2 ta) (dRng rng2 f) :=
  i_rng (r := fun vs H1 R => ∃ i j : Int, vs = [.int i, .int j] ∧ (-(2 ^ 62) ≤ i ∧ i < 2 ^ 62 ∧ -(2 ^ 62) ≤ j ∧ j < 2 ^ 62) ∧ R (Itr i (j - i).toNat) H1) h fun t vs l p R u hl hR => by
    unfold rng2 at hl
    split at hl
    · rename_i i j
      split at hl
      · rename_i c
        cases hl
        obtain ⟨v, w, rfl, hv, hw⟩ := u.two
        obtain rfl := hv.int
        obtain rfl := hw.int
        exact ⟨i, j, rfl, c, hR⟩
      · cases hl
    · cases hl
def enumD : Nat → List D → List D
  | _, [] => []
  | k, d :: l => .tup [.int (k : Int), d] :: enumD (k + 1) l
theorem enumD_get : ∀ {l : List D} {k i : Nat} {d : D}, (enumD k l)[i]? = some d → ∃ x, l[i]? = some x ∧ d = .tup [.int ((k + i : Nat) : Int), x]
  | [], _, _, _, h => by simp [enumD] at h
  | x :: l, k, 0, d, h => by simp [enumD] at h; subst h; exact ⟨x, rfl, rfl⟩
  | x :: l, k, i + 1, d, h => by
    obtain ⟨y, h1, h2⟩ := enumD_get (l := l) (k := k + 1) (i := i) (d := d) (by simpa [enumD] using h)
    refine ⟨y, by simpa using h1, ?_⟩
    rw [h2]
    have : k + 1 + i = k + (i + 1) := by omega
    rw [this]
theorem enumD_len : ∀ (l : List D) (k : Nat), (enumD k l).length = l.length
  | [], _ => rfl
  | x :: l, k => by simp [enumD, enumD_len l]
theorem it_enum {t1 : Hs} {a : Addr} {vs : List V} {l : List D} (h : ∀ t, Up t1 t → Same t.f t.h → SqL G.K t.h a vs ∧ IsL G t.as t.f vs l) : ItOk G t1 (Ite G.K a) (enumD 0 l) := by
  intro i t st u k
  obtain ⟨q, il⟩ := h t u k.sf
  refine ⟨fun hi => ⟨vs, q, by rw [il.len]; rw [enumD_len] at hi; exact hi⟩, fun d hd => ?_⟩
  obtain ⟨x, h1, rfl⟩ := enumD_get hd
  obtain ⟨v, h2, h3⟩ := il.get h1
  refine ⟨⟨vs, v, q, h2⟩, fun y H' z => ?_⟩
  obtain ⟨T, v', rfl, hT, rfl, z⟩ := z
  have := z vs q
  rw [h2] at this; cases this
  refine ⟨⟨t.as, upd t.f T _, upd t.h T _⟩, rfl, Gro.new k hT, k.grow hT, .tup (SqT.of upd_same) (.cons ?_ (.cons (h3.up (Ext.refl _) (same_new (k.sf.free hT))) .nil))⟩
  rw [Nat.zero_add]
  exact .int _
def dEnum (f : En → AR) : En → AR := fun E => match f E with
  | .ok true [.lst l] st => .ok true (enumD 0 l) st
  | .exc c l st => .exc c l st
  | _ => .bad
theorem i_enum {ta : TA} {f : En → AR} (h : DAr G W ta f) : DIt G W (iEnum G.K ta) (dEnum f) := by
  intro s t σ e st E k R post
  refine h s t σ e st E k _ ?_
  unfold dEnum at post
  cases q : f ⟨e, st⟩ with
  | ok p l st1 =>
    rw [q] at post
    cases p with
    | false => exact post.elim
    | true =>
      match l, post with
      | [], post => exact post.elim
      | [d], post =>
        cases d <;> first | exact post.elim | skip
        intro t' vs g k' i0 _
        have i := i0 rfl
        clear i0
        cases i with
        | cons i j =>
          cases j
          cases i with
          | lst a b => exact ⟨_, _, rfl, SqL.of (k'.sf _ _ a), post t' _ g k' (it_enum fun t2 u s2 => ⟨SqL.of (s2 _ _ (u.f _ _ a)), b.up u.a u.f⟩)⟩
      | a :: b :: l, post => cases a <;> exact post.elim
  | exc c l st1 => rw [q] at post; exact post
  | bad => rw [q] at post; exact post
def zipD : List D → List D → List D
  | a :: l, b :: m => .tup [a, b] :: zipD l m
  | _, _ => []
theorem zipD_get : ∀ {l m : List D} {i : Nat} {d : D}, (zipD l m)[i]? = some d → ∃ x y, l[i]? = some x ∧ m[i]? = some y ∧ d = .tup [x, y]
  | [], _, _, _, h => by simp [zipD] at h
  | _ :: _, [], _, _, h => by simp [zipD] at h
  | a :: l, b :: m, 0, d, h => by simp [zipD] at h; subst h; exact ⟨a, b, rfl, rfl, rfl⟩
  | a :: l, b :: m, i + 1, d, h => by
    obtain ⟨x, y, h1, h2, h3⟩ := zipD_get (l := l) (m := m) (i := i) (d := d) (by simpa [zipD] using h)
    exact ⟨x, y, by simpa using h1, by simpa using h2, h3⟩
theorem zipD_len : ∀ (l m : List D), (zipD l m).length = min l.length m.length
  | [], _ => by simp [zipD]
  | _ :: _, [] => by simp [zipD]
  | a :: l, b :: m => by simp [zipD, zipD_len l m]
def dZip (f : En → AR) : En → AR := fun E => match f E with
  | .ok true [.lst l, .lst m] st => .ok true (zipD l m) st
  | .exc c l st => .exc c l st
  | _ => .bad
def forD (b : D → En → SR) : List D → En → SR
  | [], e => .nx e
  | x :: xs, e => match b x e with
    | .nx e' => forD b xs e'
    | .ct e' => forD b xs e'
    | .bk e' => .nx e'
    | r => r
def tgB (t : D → DE → Option DE) (b : En → SR) : D → En → SR := fun d E => match t d E.e with
  | some e' => b ⟨e', E.st⟩
  | none => .bad
def sFor (src : En → AR) (t : D → DE → Option DE) (b : En → SR) : En → SR := fun E => match src E with
  | .ok _ l st => forD (tgB t b) l ⟨E.e, st⟩
  | .exc c l st => .exc c l ⟨E.e, st⟩
  | .bad => .bad
theorem s_for {wi : TI} {g : TG} {tb : TS} {src : En → AR} {js : List Nat} {t : D → DE → Option DE} {b : En → SR} (hi : DIt G W wi src) (hg : DTg G g js t) (hb : DSt G W tb b) : DSt G W (tFor wi g tb) (sFor src t b) := by
  intro s t0 σ e st E k0 N post
  refine hi s t0 σ e st E k0 _ ?_
  unfold sFor at post
  cases q : src ⟨e, st⟩ with
  | ok p l st1 =>
    rw [q] at post
    have post : SPost G W s t0 N (forD (tgB t b) l ⟨e, st1⟩) := post
    intro t1 J g1 k1 it
    refine ⟨fun i m σ H => m = l.length - i ∧ i ≤ l.length ∧ ∃ t2 E2, t2.h = H ∧ Up t1 t2 ∧ EnvOk G s t2 σ E2.e ∧ StOk G t2 E2.st ∧ SPost G W s t2 N (forD (tgB t b) (l.drop i) E2),
      ⟨l.length, by simp, Nat.zero_le _, t1, ⟨e, st1⟩, rfl, Up.refl _, E.up g1, k1, SPost.mono g1.up post⟩, ?_⟩
    rintro i m σ2 H2 ⟨rfl, hi, t2, F2, rfl, s2, E2, k2, p2⟩
    obtain ⟨i1, i2⟩ := it i t2 F2.st s2 k2
    by_cases hlt : i < l.length
    · right
      have hd : l[i]? = some l[i] := List.getElem?_eq_getElem hlt
      obtain ⟨go, y⟩ := i2 _ hd
      rw [List.drop_eq_getElem_cons hlt] at p2
      refine ⟨go, fun σ' H' => i + 1 ≤ l.length ∧ ∃ t2 E2, t2.h = H' ∧ Up t1 t2 ∧ EnvOk G s t2 σ' E2.e ∧ StOk G t2 E2.st ∧ SPost G W s t2 N (forD (tgB t b) (l.drop (i + 1)) E2), fun σ' H' h => ⟨l.length - (i + 1), by omega, rfl, h⟩, fun x H' hy => ?_⟩
      obtain ⟨t3, rfl, g3, k3, i3⟩ := y x H' hy
      cases q3 : t l[i] F2.e with
      | none =>
        have : forD (tgB t b) (l[i] :: l.drop (i + 1)) F2 = .bad := by
          unfold forD tgB; rw [q3]
        rw [this] at p2
        exact p2.elim
      | some e3 =>
        have tgb : tgB t b l[i] F2 = b ⟨e3, F2.st⟩ := by unfold tgB; rw [q3]
        refine hg s t3 σ2 F2.e F2.st x l[i] (E2.up g3) k3 i3 _ e3 q3 fun σ4 E4 _ _ => ?_
        refine hb s t3 σ4 e3 F2.st E4 k3 _ ?_
        have p4 := SPost.mono g3.up p2
        unfold forD at p4
        rw [tgb] at p4
        have s3 := s2.trans g3.up
        cases q5 : b ⟨e3, F2.st⟩ with
        | nx e5 => rw [q5] at p4; exact fun t6 σ6 s6 E6 k6 => ⟨hlt, t6, e5, rfl, s3.trans s6, E6, k6, SPost.mono s6 p4⟩
        | ct e5 => rw [q5] at p4; exact fun t6 σ6 s6 E6 k6 => ⟨hlt, t6, e5, rfl, s3.trans s6, E6, k6, SPost.mono s6 p4⟩
        | bk e5 => rw [q5] at p4; exact p4
        | rt m d st => rw [q5] at p4; exact p4
        | exc c l e => rw [q5] at p4; exact p4
        | bad => rw [q5] at p4; exact p4
    · left
      have : i = l.length := by omega
      subst this
      refine ⟨i1 (Nat.le_refl _), ?_⟩
      rw [List.drop_length] at p2
      exact p2 t2 σ2 (Up.refl _) E2 k2
  | exc c l st1 => rw [q] at post; exact fun t' x g k' o => post t' σ x g.up (E.up g) k' o
  | bad => rw [q] at post; exact post
def whN (c : En → ER) (b : En → SR) : Nat → En → Option SR
  | 0, _ => none
  | n + 1, E => match c E with
    | .val _ (.bl true) st => (match b ⟨E.e, st⟩ with
      | .nx e' => whN c b n e'
      | .ct e' => whN c b n e'
      | .bk e' => some (.nx e')
      | r => some r)
    | .val _ (.bl false) st => some (.nx ⟨E.e, st⟩)
    | .exc k l st => some (.exc k l ⟨E.e, st⟩)
    | _ => some .bad
theorem whN_mono {c : En → ER} {b : En → SR} : ∀ {n m : Nat} {e : En} {r : SR}, whN c b n e = some r → n ≤ m → whN c b m e = some r
  | 0, _, _, _, h, _ => by cases h
  | n + 1, 0, _, _, _, hm => by omega
  | n + 1, m + 1, e, r, h, hm => by
    unfold whN at h ⊢
    split at h
    · split at h
      · rename_i q; exact whN_mono h (by omega)
      · rename_i q; exact whN_mono h (by omega)
      · exact h
      · exact h
    · exact h
    · exact h
    · exact h
open Classical in
noncomputable def sWhile (c : En → ER) (b : En → SR) : En → SR := fun e => if h : ∃ n r, whN c b n e = some r then Classical.choose (Classical.choose_spec h) else .bad
theorem sWhile_eq {c : En → ER} {b : En → SR} {n : Nat} {e : En} {r : SR} (h : whN c b n e = some r) : sWhile c b e = r := by
  have hx : ∃ n r, whN c b n e = some r := ⟨n, r, h⟩
  unfold sWhile
  rw [dif_pos hx]
  have h2 := Classical.choose_spec (Classical.choose_spec hx)
  have h3 := whN_mono h (Nat.le_max_left n (Classical.choose hx))
  have h4 := whN_mono h2 (Nat.le_max_right n (Classical.choose hx))
  rw [h3] at h4
  exact (Option.some.inj h4).symm
theorem s_while {tc : TT} {tb : TS} {c : En → ER} {b : En → SR} (hc : DTt G W tc c) (hb : DSt G W tb b) : DSt G W (tWhile tc tb) (sWhile c b) := by
  intro s t σ e st E k N post
  unfold sWhile at post
  split at post
  · rename_i hx
    have h2 := Classical.choose_spec (Classical.choose_spec hx)
    generalize Classical.choose (Classical.choose_spec hx) = r at post h2
    generalize Classical.choose hx = n at h2
    refine ⟨fun m σ H => ∃ t2 F2, t2.h = H ∧ Up t t2 ∧ EnvOk G s t2 σ F2.e ∧ StOk G t2 F2.st ∧ whN c b m F2 = some r, ⟨n, t, ⟨e, st⟩, rfl, Up.refl _, E, k, h2⟩, ?_⟩
    rintro m σ2 H2 ⟨t2, F2, rfl, s2, E2, k2, w2⟩
    cases m with
    | zero => cases w2
    | succ m =>
      unfold whN at w2
      refine tst_st (N := N) hc E2 k2 (fun k l st1 q => ?_) ?_ fun k bb st1 q t3 g3 k3 => ?_
      · have q : c F2 = .exc k l st1 := q
        rw [q] at w2
        cases w2
        exact SPost.mono s2 post
      · show ∃ m b st1, c F2 = .val m (.bl b) st1 ∨ ∃ k l, c F2 = .exc k l st1
        cases q : c F2 with
        | val k d st1 =>
          rw [q] at w2
          cases d with
          | bl x => exact ⟨k, x, st1, .inl rfl⟩
          | _ => cases w2; exact post.elim
        | exc k l st1 => exact ⟨.P, true, st1, .inr ⟨k, l, rfl⟩⟩
        | bad => rw [q] at w2; cases w2; exact post.elim
      · have q : c F2 = .val k (.bl bb) st1 := q
        rw [q] at w2
        cases bb with
        | false =>
          cases w2
          exact iteF (post t3 σ2 (s2.trans g3.up) (E2.up g3) k3)
        | true =>
          refine iteT ⟨fun σ H => ∃ t4 F4, t4.h = H ∧ Up t t4 ∧ EnvOk G s t4 σ F4.e ∧ StOk G t4 F4.st ∧ whN c b m F4 = some r, fun σ' H' h => ⟨m, Nat.lt_succ_self _, h⟩, ?_⟩
          refine hb s t3 σ2 F2.e st1 (E2.up g3) k3 _ ?_
          have s3 := s2.trans g3.up
          have w3 : (match b ⟨F2.e, st1⟩ with | .nx e' => whN c b m e' | .ct e' => whN c b m e' | .bk e' => some (.nx e') | r => some r) = some r := w2
          cases q5 : b ⟨F2.e, st1⟩ with
          | nx e5 => rw [q5] at w3; exact fun t6 σ6 s6 E6 k6 => ⟨t6, e5, rfl, s3.trans s6, E6, k6, w3⟩
          | ct e5 => rw [q5] at w3; exact fun t6 σ6 s6 E6 k6 => ⟨t6, e5, rfl, s3.trans s6, E6, k6, w3⟩
          | bk e5 => rw [q5] at w3; cases w3; exact SPost.mono s3 post
          | rt k d st => rw [q5] at w3; cases w3; exact SPost.mono s3 post
          | exc k l e => rw [q5] at w3; cases w3; exact SPost.mono s3 post
          | bad => rw [q5] at w3; cases w3; exact post.elim
  · exact post.elim
end
end Dn
namespace Dn
open PySem PySem.Spec PyProof.Rows L2
section
variable {G : Gm} {W : WX}
abbrev W0 : WX := fun _ _ _ _ => False
def wipeE (e : DE) : List Nat → DE
  | [] => e
  | v :: vs => (wipeE e vs).set v .emp
theorem EnvOk.wipe {s t : Hs} {σ : L2.St} {e : DE} (E : EnvOk G s t σ e) : ∀ vs : List Nat, EnvOk G s t (L2.wipe σ vs) (wipeE e vs)
  | [] => E
  | v :: vs => (E.wipe vs).set (x := .emp) trivial (fun l z => nomatch z)
theorem wipe_agree {σ τ : L2.St} {vs js : List Nat} (hl : τ.length = σ.length) (hj : ∀ j ∈ js, j ∈ vs) (h : ∀ i, i ∉ js → τ[i]? = (L2.wipe σ vs)[i]?) (hl2 : τ.length = (L2.wipe σ vs).length) : L2.wipe τ vs = L2.wipe σ vs := by
  have key : ∀ (σ : L2.St) (us : List Nat) (i : Nat), i ∈ us → i < σ.length → (L2.wipe σ us)[i]? = some none := by
    intro σ us
    induction us with
    | nil => intro i h; cases h
    | cons v us ih =>
      intro i h hi
      unfold L2.wipe
      by_cases z : v = i
      · subst z
        rw [List.getElem?_set_self (by rw [L2.wipe_length]; exact hi)]
      · rw [List.getElem?_set_ne z]
        rcases List.mem_cons.mp h with rfl | h
        · exact absurd rfl z
        · exact ih i h hi
  apply List.ext_getElem?
  intro i
  by_cases hi : i ∈ vs
  · by_cases hlt : i < σ.length
    · rw [key τ vs i hi (by omega), key σ vs i hi hlt]
    · rw [List.getElem?_eq_none (by rw [L2.wipe_length]; omega), List.getElem?_eq_none (by rw [L2.wipe_length]; omega)]
  · rw [L2.wipe_out hi, h i (fun z => hi (hj i z))]
def lcStep (t : D → DE → Option DE) (c f : En → ER) (e : DE) (d : D) (st : Sto) : Option (Option D × Sto) := match t d e with
  | none => none
  | some e2 => (match c ⟨e2, st⟩ with
    | .val _ (.bl b) st1 => if b = true then (match f ⟨e2, st1⟩ with | .val .P y st2 => some (some y, st2) | .val .N y st2 => some (some y, st2) | _ => none) else some (none, st1)
    | _ => none)
def lcGo (k : D → Sto → Option (Option D × Sto)) : List D → Sto → Option (List D × Sto)
  | [], st => some ([], st)
  | d :: l, st => (k d st).bind fun o => (lcGo k l o.2).bind fun r => some (o.1.toList ++ r.1, r.2)
def dLc (src : En → AR) (t : D → DE → Option DE) (c f : En → ER) (vs : List Nat) : En → ER := fun E => match src E with
  | .ok _ l st => if l.length ≤ 1000000 then ofOpt (lcGo (lcStep t c f (wipeE E.e vs)) l st) fun r => .val .N (.lst r.1) r.2 else .bad
  | .exc k l st => .exc k l st
  | .bad => .bad
theorem t_yes : DTt G W tYes (fun E => .val .P (.bl true) E.st) := fun s t σ e st E k Q post => post t (Gro.refl k) k
theorem v_lc {wi : TI} {g : TG} {tt : TT} {te : TE} {vs js : List Nat} {src : En → AR} {t : D → DE → Option DE} {c f : En → ER} (hi : DIt G W wi src) (hg : DTg G g js t) (hj : ∀ j ∈ js, j ∈ vs) (ht : DTt G W0 tt c) (he : DEv G W0 te f) : DEv G W (tLc wi g tt te vs) (dLc src t c f vs) := by
  intro s t0 σ e st E k0 Q post
  refine hi s t0 σ e st E k0 _ ?_
  unfold dLc at post
  cases q : src ⟨e, st⟩ with
  | ok p l st1 =>
    rw [q] at post
    obtain ⟨hlen, post⟩ := RPost.cond _ _ post
    obtain ⟨out, hout, post⟩ := RPost.opt _ _ post
    intro t1 J g1 k1 it Dl hD
    have hDH : t0.h Dl = none := by
      cases q : t0.h Dl with
      | none => rfl
      | some o =>
        by_cases i : Dl ∈ t0.as
        · exact absurd (g1.a.mem i) (k1.new hD)
        · rw [g1.h Dl o q i] at hD; cases hD
    have hD0 : s.h Dl = none := by
      cases q : s.h Dl with
      | none => rfl
      | some o =>
        by_cases i : Dl ∈ s.as
        · exact absurd (E.gr.a.mem i) (k0.new hDH)
        · rw [E.gr.h Dl o q i] at hDH; cases hDH
    have hDf : t1.f Dl = none := k1.sf.free hD
    have hDa : Dl ∉ t1.as := k1.new hD
    have Ew := (E.up g1).wipe vs
    have hne : ∀ (j : Nat) (m : List D), (L2.wipe σ vs)[j]? = some (some (.ref Dl)) → (wipeE e vs)[j]? = some (.own m) → False := fun j m a b => by
      obtain ⟨o, h1, p', vs', h2, _, _, h3, _⟩ := Ew.slot b
      rw [a] at h1; cases h1
      cases h2
      rw [hD] at h3; cases h3
    have gd := g1.chg (o := .lst []) hDH hDf
    refine ⟨fun i m H' => m = l.length - i ∧ i ≤ l.length ∧ ∃ t2 st2 acc vacc rest, t2.h = H' ∧ Up t1 t2 ∧ Gro t0 t2 ∧ StOk G t2 st2 ∧ EnvOk G s t2 (L2.wipe σ vs) (wipeE e vs) ∧ t2.h Dl = some (.lst vacc) ∧ IsL G t2.as t2.f vacc acc ∧ t2.f Dl = none ∧ Dl ∉ t2.as ∧ acc.length ≤ i ∧
      lcGo (lcStep t c f (wipeE e vs)) (l.drop i) st2 = some (rest, out.2) ∧ acc ++ rest = out.1, ⟨l.length, by simp, Nat.zero_le _, ⟨t1.as, t1.f, upd t1.h Dl (.lst [])⟩, st1, [], [], out.1, rfl, ⟨Ext.refl _, Same.refl _⟩, gd, k1.chg hDf hDa, Ew.other hD0 hDf hne, upd_same, .nil, hDf, hDa, Nat.zero_le _, hout, rfl⟩, ?_⟩
    rintro i m H2 ⟨rfl, hi, t2, st2, acc, vacc, rest, rfl, s2, g2, k2, E2, d2, a2, n2, na2, l2, r2, o2⟩
    obtain ⟨i1, i2⟩ := it i t2 st2 s2 k2
    by_cases hlt : i < l.length
    · right
      have hd : l[i]? = some l[i] := List.getElem?_eq_getElem hlt
      obtain ⟨go, y⟩ := i2 _ hd
      rw [List.drop_eq_getElem_cons hlt] at r2
      refine ⟨go, fun H' => i + 1 ≤ l.length ∧ ∃ t2 st2 acc vacc rest, t2.h = H' ∧ Up t1 t2 ∧ Gro t0 t2 ∧ StOk G t2 st2 ∧ EnvOk G s t2 (L2.wipe σ vs) (wipeE e vs) ∧ t2.h Dl = some (.lst vacc) ∧ IsL G t2.as t2.f vacc acc ∧ t2.f Dl = none ∧ Dl ∉ t2.as ∧ acc.length ≤ i + 1 ∧
        lcGo (lcStep t c f (wipeE e vs)) (l.drop (i + 1)) st2 = some (rest, out.2) ∧ acc ++ rest = out.1, fun H' h => ⟨l.length - (i + 1), by omega, rfl, h⟩, fun x H' hy => ?_⟩
      obtain ⟨t3, rfl, g3, k3, i3⟩ := y x H' hy
      unfold lcGo at r2
      cases sk : lcStep t c f (wipeE e vs) l[i] st2 with
      | none => rw [sk] at r2; cases r2
      | some o =>
        rw [sk] at r2
        have r2 : ((lcGo (lcStep t c f (wipeE e vs)) (l.drop (i + 1)) o.2).bind fun r => some (o.1.toList ++ r.1, r.2)) = some (rest, out.2) := r2
        cases lg : lcGo (lcStep t c f (wipeE e vs)) (l.drop (i + 1)) o.2 with
        | none => rw [lg] at r2; cases r2
        | some rest' =>
          rw [lg] at r2
          have r3 : (o.1.toList ++ rest'.1, rest'.2) = (rest, out.2) := Option.some.inj r2
          have r4 : o.1.toList ++ rest'.1 = rest := (Prod.mk.inj r3).1
          have r5 : rest'.2 = out.2 := (Prod.mk.inj r3).2
          have lg' : lcGo (lcStep t c f (wipeE e vs)) (l.drop (i + 1)) o.2 = some (rest'.1, out.2) := by rw [lg, ← r5]
          unfold lcStep at sk
          cases q3 : t l[i] (wipeE e vs) with
          | none => rw [q3] at sk; cases sk
          | some e3 =>
            rw [q3] at sk
            refine hg s t3 (L2.wipe σ vs) (wipeE e vs) st2 x l[i] (E2.up g3) k3 i3 _ e3 q3 fun σ4 E4 l4 w4 => ?_
            refine ⟨wipe_agree (by rw [l4, L2.wipe_length]) hj w4 l4, ?_⟩
            refine ht s t3 σ4 e3 st2 E4 k3 _ ?_
            have sk' : (match c ⟨e3, st2⟩ with
              | .val _ (.bl b) st1 => if b = true then (match f ⟨e3, st1⟩ with | .val .P y st2 => some (some y, st2) | .val .N y st2 => some (some y, st2) | _ => none) else some (none, st1)
              | _ => none) = some o := sk
            cases q4 : c ⟨e3, st2⟩ with
            | exc k l st => rw [q4] at sk'; cases sk'
            | bad => rw [q4] at sk'; cases sk'
            | val mm d st4 =>
              rw [q4] at sk'
              cases d with
              | bl b =>
                intro t5 g5 k5
                have gg := g3.trans g5
                cases b with
                | false =>
                  cases sk'
                  refine iteF ⟨hlt, t5, st4, acc, vacc, rest'.1, rfl, s2.trans gg.up, g2.trans gg, k5, E2.up gg, gg.h _ _ d2 na2, a2.up gg.a gg.f, gg.n _ _ d2 n2, (fun m => (gg.w Dl m).elim na2 fun z => by rw [d2] at z; cases z), by omega, lg', ?_⟩
                  rw [← o2, ← r4]; rfl
                | true =>
                  refine iteT (he s t5 σ4 e3 st4 (E4.up g5) k5 _ ?_)
                  have fin : ∀ y st6 t6 v, Gro t5 t6 → StOk G t6 st6 → Is G t6.as t6.f v y → o = (some y, st6) → ∃ acc, t6.h Dl = some (.lst acc) ∧ acc.length < sizeLine ∧ (i + 1 ≤ l.length ∧ ∃ t2 st2 acc_1 vacc rest, t2.h = upd t6.h Dl (.lst (acc ++ [v])) ∧ Up t1 t2 ∧ Gro t0 t2 ∧ StOk G t2 st2 ∧ EnvOk G s t2 (L2.wipe σ vs) (wipeE e vs) ∧
                      t2.h Dl = some (.lst vacc) ∧ IsL G t2.as t2.f vacc acc_1 ∧ t2.f Dl = none ∧ Dl ∉ t2.as ∧ acc_1.length ≤ i + 1 ∧ lcGo (lcStep t c f (wipeE e vs)) (l.drop (i + 1)) st2 = some (rest, out.2) ∧ acc_1 ++ rest = out.1) := fun y st6 t6 v g6 k6 i6 ho => by
                    subst ho
                    have gh := gg.trans g6
                    have nn := gh.n _ _ d2 n2
                    have na : Dl ∉ t6.as := fun m => (gh.w Dl m).elim na2 fun z => by rw [d2] at z; cases z
                    have cl := a2.len
                    refine ⟨vacc, gh.h _ _ d2 na2, by rw [cl]; exact szlt (by omega), hlt, ⟨t6.as, t6.f, upd t6.h Dl (.lst (vacc ++ [v]))⟩, st6, acc ++ [y], vacc ++ [v], rest'.1, rfl, ?_, (g2.trans gh).chg hDH nn, k6.chg nn na, (E2.up gh).other hD0 nn hne, upd_same, (a2.up gh.a gh.f).append (.one i6), nn, na, by simp; omega, lg', ?_⟩
                    · exact ⟨s2.a.trans gh.a, s2.f.trans gh.f⟩
                    · rw [← o2, ← r4]
                      simp
                  have sk2 : (match f ⟨e3, st4⟩ with | .val .P y st2 => some (some y, st2) | .val .N y st2 => some (some y, st2) | _ => none) = some o := sk'
                  cases q6 : f ⟨e3, st4⟩ with
                  | val m6 y st6 =>
                    rw [q6] at sk2
                    intro t6 v g6 k6 o6
                    cases m6 with
                    | P => exact fin y st6 t6 v g6 k6 o6 (Option.some.inj sk2).symm
                    | B => cases sk2
                    | N =>
                      obtain ⟨f7, g7, k7, _, i7⟩ := o6.freeze g6 k6 (by decide)
                      exact fin y st6 ⟨t6.as, f7, t6.h⟩ v g7 k7 i7 (Option.some.inj sk2).symm
                  | exc k l st => rw [q6] at sk2; cases sk2
                  | bad => rw [q6] at sk2; cases sk2
              | _ => cases sk'
    · left
      have : i = l.length := by omega
      subst this
      refine ⟨i1 (Nat.le_refl _), ?_⟩
      rw [List.drop_length] at r2
      have r3 : (([] : List D), st2) = (rest, out.2) := Option.some.inj r2
      have r4 : [] = rest := (Prod.mk.inj r3).1
      have r5 : st2 = out.2 := (Prod.mk.inj r3).2
      subst r4
      rw [List.append_nil] at o2
      rw [← o2, ← r5] at post
      exact post t2 _ g2 k2 ⟨Dl, vacc, acc, rfl, rfl, d2, a2, na2, hDH, n2⟩
  | exc c l st1 => rw [q] at post; exact post
  | bad => rw [q] at post; exact post
def sRaise (c : Nat) : En → SR := fun E => .exc c [] E
def SR.ret : SR → ER
  | .nx E => .val .P .non E.st
  | .rt m d st => .val m d st
  | .exc c l E => .exc c l E.st
  | _ => .bad
def startE (n : Nat) (ds : List D) : DE := ds.map .val ++ List.replicate (n - ds.length) .emp
def fnD (n N : Nat) (g : En → SR) : List D → Sto → ER := fun ds st => if ds.length = n then (g ⟨startE N ds, st⟩).ret else .bad
theorem start_ok {N : List Str} {t : Hs} {st : Sto} {vs : List V} {ds : List D} (k : StOk G t st) (h : IsL G t.as t.f vs ds) : EnvOk G t t (L2.start N vs) (startE N.length ds) := by
  have hl := h.len
  have noown : ∀ (j : Nat) (m : List D), (startE N.length ds)[j]? ≠ some (.own m) := fun j m z => by
    unfold startE at z
    rw [List.getElem?_append] at z
    split at z
    · rw [List.getElem?_map] at z
      cases q : ds[j]? <;> rw [q] at z <;> cases z
    · rw [List.getElem?_replicate] at z
      split at z <;> cases z
  refine ⟨Gro.refl k, by simp [L2.start, startE, hl], fun i o sl a b => ?_, fun i j p l m hij a b => absurd b (noown i l)⟩
  unfold L2.start at a
  unfold startE at b
  rw [List.getElem?_append] at a b
  rw [List.length_map] at a b
  split at a
  · rename_i hi
    rw [if_pos (by omega)] at b
    rw [List.getElem?_map] at a b
    cases q : vs[i]? with
    | none => rw [q] at a; cases a
    | some v =>
      obtain ⟨d, h1, h2⟩ := h.getV q
      rw [q] at a; rw [h1] at b
      cases a; cases b
      exact ⟨v, rfl, h2⟩
  · rename_i hi
    rw [if_neg (by omega)] at b
    rw [List.getElem?_replicate] at b
    split at b
    · cases b; trivial
    · cases b
theorem body_ok {N : List Str} {vs : List V} {H : Hp} {Q : VK} {E : XK} {ts : TS} {g : En → SR} {n : Nat} {D0 : Ends} (h2 : DSt G (fun c x _ H => E c x H) ts g) (hnx : D0.nx = fun _ H => Q .non H) (hrt : D0.rt = Q)
    (h : spF G (fnD n N.length g) vs H Q E) : ts D0 (L2.start N vs) H := by
  obtain ⟨t, ds, st, rfl, k, i, p⟩ := h
  obtain ⟨hl, p⟩ := RPost.cond _ _ p
  refine h2 t t _ _ st (start_ok k i) k _ ?_
  cases q : g ⟨startE N.length ds, st⟩ with
  | nx e => rw [q] at p; exact fun t' σ' s' E' k' => by rw [hnx]; exact p t' .non E'.gr k' .non
  | rt m d st1 => rw [q] at p; exact fun t' v s' g' k' o => by rw [hrt]; exact p t' v g' k' o
  | bk e => rw [q] at p; exact p.elim
  | ct e => rw [q] at p; exact p.elim
  | exc c l e => rw [q] at p; exact fun t' σ' x s' E' k' o => p t' x E'.gr k' o
  | bad => rw [q] at p; exact p.elim
theorem sp_len {n N : Nat} {g : En → SR} {vs : List V} {H : Hp} {Q : VK} {E : XK} (h : spF G (fnD n N g) vs H Q E) : vs.length = n := by
  obtain ⟨t, ds, st, rfl, k, i, p⟩ := h
  unfold fnD at p
  split at p
  · rename_i hl; rw [i.len]; exact hl
  · exact p.elim
theorem fn_ok {P : Program} {w : World} {K : PySem.W.Frag} {mg : Str → Option Value} {base : Heap} {x qual : Str} {st : Stmt} {f : Addr} {fd : FuncData} {N ps : List Str} {k : Nat} {g : En → SR} {n : Nat} (hn : ps.length = n) {m : Nat} (hm : N.length = m)
    (F : Fun K x qual st f fd) (S : FnScope N ps (defScope st))
    (hbody : ∀ (cdv : Value) (A : Around) (outer : List Env) (s : Shared) (H : Hp) (E : XK), Room k (A.deeper (envOfC qual (defScope st) s.heap.objs.size f cdv)) →
      ∃ t, PSs (cxOf (L2.CX P w) P w K mg base N qual (defScope st) f cdv A outer s H E) (defBody st) t ∧ DSt G (fun c x _ H => E c x H) t g) : FnOk P w K mg base (L2.CX P w) (k + 1) f fd ps (spF G (fnD n m g)) := by
  subst hn hm
  refine F.okX S (fun vs H Q E h => sp_len h) fun cdv A outer s H vs Q E hr h => ?_
  obtain ⟨t, h1, h2⟩ := hbody cdv A outer s H E hr
  exact ⟨t, h1, body_ok h2 rfl rfl h⟩
end
end Dn
namespace Dn
open PySem PySem.Spec PyProof.Rows L2
def pickL {α : Type} (idx : List Nat) (l : List α) : List α := idx.filterMap fun k => l[k]?
structure CallB (K : PySem.W.Frag) (fd : FuncData) (ps : List Str) (n : Nat) (ks : List Str) (idx : List Nat) (dvs : List V) : Prop where
  ex : ∃ its : List Value, Vals dvs its ∧ ∀ (s : Shared) (us ws : List Value), K.In s.heap → us.length = n → ws.length = ks.length → BindsTo s fd ⟨us, ks.zip ws⟩ (ps.zip (pickL idx (us ++ ws ++ its)))
theorem vals_pick {vs : List V} {us : List Value} (h : Vals vs us) : ∀ idx : List Nat, Vals (pickL idx vs) (pickL idx us)
  | [] => .nil
  | k :: idx => by
    have ih := vals_pick h idx
    unfold pickL at ih ⊢
    rw [List.filterMap_cons, List.filterMap_cons]
    cases q : vs[k]? with
    | none => rw [h.none_of q]; exact ih
    | some v => obtain ⟨u, h1, h2⟩ := h.get q; rw [h1]; exact .cons h2 ih
theorem isL_pick {G : Gm} {as : List Addr} {H : Hp} {vs : List V} {ds : List D} (h : IsL G as H vs ds) : ∀ idx : List Nat, IsL G as H (pickL idx vs) (pickL idx ds)
  | [] => .nil
  | k :: idx => by
    have ih := isL_pick h idx
    unfold pickL at ih ⊢
    rw [List.filterMap_cons, List.filterMap_cons]
    cases q : ds[k]? with
    | none =>
      have : vs[k]? = none := by
        rw [List.getElem?_eq_none_iff] at q ⊢
        rw [h.len]; exact q
      rw [this]; exact ih
    | some d => obtain ⟨u, h1, h2⟩ := h.get q; rw [h1]; exact .cons h2 ih
def toV : D → V
  | .bl b => .bl b
  | .int i => .int i
  | .str x => .str x
  | _ => .non
theorem is_toV {G : Gm} {as : List Addr} {H : Hp} {d : D} (h : flat d = true) : Is G as H (toV d) d := by
  cases d <;> first | exact .non | exact .bl _ | exact .int _ | exact .str _ | cases h
theorem isL_toV {G : Gm} {as : List Addr} {H : Hp} : ∀ {ds : List D}, ds.all flat = true → IsL G as H (ds.map toV) ds
  | [], _ => .nil
  | d :: ds, h => by
    have h' : flat d = true ∧ ds.all flat = true := by simpa using h
    exact .cons (is_toV h'.1) (isL_toV h'.2)
def tCallG (n m : Nat) (idx : List Nat) (dvs : List V) (sp : Sp) (E : L2.St → XK) (t tk : TA) : TE := fun σ H Q => t σ H fun vs H1 => tk σ H1 fun zs H2 => vs.length = n ∧ zs.length = m ∧ sp (pickL idx (vs ++ zs ++ dvs)) H2 Q (E σ)
section
variable {X : Cx} {CX : CXT} {k n : Nat} {f : Addr} {fd : FuncData} {ps ks : List Str} {idx : List Nat} {dvs : List V} {sp : Sp} {E : L2.St → XK} {x : Str} {p pos : Pos} {e : Expr} {es : List Expr} {kws : List Keyword} {t tk : TA}
theorem run_fnG {pins : List (Addr × Obj)} {σ : L2.St} {H : Hp} {s : Shared} {Q : VK} {us ws : List Value} {vs zs : List V} (F : FnOk X.prog X.w X.K X.mg X.base CX k f fd ps sp) (hr : Room k X.A) (hb : CallB X.K fd ps n ks idx dvs) (hx : PassesAt CX X σ (E σ))
    (I : Inv X pins σ H s) (r : Vals vs us) (rz : Vals zs ws) (l1 : vs.length = n) (l2 : zs.length = ks.length) (h : sp (pickL idx (vs ++ zs ++ dvs)) H Q (E σ)) : wpAny (model X.prog X.w) X.A (call (.ref f) us (ks.zip ws)) (EP X pins σ Q) X.xe s := by
  obtain ⟨its, rd, hb⟩ := hb.ex
  refine wpAny_call (codeAny_mono (F.run X.A X.stack s H ⟨us, ks.zip ws⟩ (pickL idx (us ++ ws ++ its)) (pickL idx (vs ++ zs ++ dvs)) Q (E σ) hr I.env0 (hb s us ws I.kIn (r.length.symm.trans l1) (rz.length.symm.trans l2)) (vals_pick ((r.append rz).append rd) idx) h) fun r s' hq => ?_)
  cases r with
  | error e => exact hx pins H s e s' I hq
  | ok fl =>
    cases fl with
    | ret u => exact I.after hq
    | next => exact False.elim hq
    | brk => exact False.elim hq
    | cont => exact False.elim hq
end
end Dn
namespace Dn
open PySem PySem.Spec PyProof.Rows L2
section
variable {X : Cx} {CX : CXT} {k n : Nat} {f : Addr} {fd : FuncData} {ps ks : List Str} {idx : List Nat} {dvs : List V} {sp : Sp} {E : L2.St → XK} {x : Str} {p pos : Pos} {e : Expr} {es : List Expr} {kws : List Keyword} {t tk : TA}
theorem pe_gK0 {m : Nat} (F : FnOk X.prog X.w X.K X.mg X.base CX k f fd ps sp) (hr : Room k X.A) (hg : Gl X x) (hm : X.mg x = some (.ref f)) (hk : PySem.W.keepIn X.K (.ref f) = true) (hb : CallB X.K fd ps 0 ks idx dvs) (hx : ∀ σ, PassesAt CX X σ (E σ))
    (hkw : PK X kws tk) (hall : (backToKw pos (keywordEach kws X.env)).all (·.1.isSome) = true := by rfl) (hks : (backToKw pos (keywordEach kws X.env)).filterMap (·.1) = ks := by rfl)
    (hdb : (x == ("__debug__" : Str)) = false := by decide)
    (hpl : ((backTo pos (starEach [] X.env)).any (·.1) || (backToKw pos (keywordEach kws X.env)).any (·.1.isNone)) = false := by rfl) (hm2 : ks.length = m := by rfl) :
    PE X (.Call (.Name x p) [] kws pos) (tCallG 0 m idx dvs sp E tNil tk) := by
  subst hm2
  refine ⟨fun pins s σ H Q I h => ?_⟩
  refine wpAny_Call_Name_kw (ld_glob I hg hm ?_ hdb)
  refine PySem.W.callWith_KW0 (h₀ := X.base) I.ok.mod.kin hk hall (thn (hkw.run pos pins s σ H _ I h) fun ws s2 ⟨zs, H2, I2, rz, l1, l2, q2⟩ => ⟨I2.kIn, ?_⟩) hpl
  rw [hks]
  exact run_fnG (us := []) (vs := []) F hr hb (hx σ) I2 .nil rz rfl l2 q2
end
section
variable {G : Gm} {W : WX}
def dCallG (F : List D → Sto → ER) (n m : Nat) (idx : List Nat) (dd : List D) (f g : En → AR) : En → ER := fun E => match f E with
  | .ok true l st => (match g ⟨E.e, st⟩ with
    | .ok true z st1 => if l.length = n ∧ z.length = m then F (pickL idx (l ++ z ++ dd)) st1 else .bad
    | .exc c l st => .exc c l st
    | _ => .bad)
  | .exc c l st => .exc c l st
  | _ => .bad
theorem v_callG {F : List D → Sto → ER} {n m : Nat} {idx : List Nat} {dd : List D} {ta tk : TA} {f g : En → AR} (hd : dd.all flat = true) (ha : DAr G W ta f) (hk : DAr G W tk g) : DEv G W (tCallG n m idx (dd.map toV) (spF G F) (WE W) ta tk) (dCallG F n m idx dd f g) := by
  intro s t σ e st E k Q post
  refine ha s t σ e st E k _ ?_
  unfold dCallG at post
  cases q : f ⟨e, st⟩ with
  | ok p l st1 =>
    rw [q] at post
    cases p with
    | false => exact post.elim
    | true =>
      have post : RPost G W t σ Q (match g ⟨e, st1⟩ with
        | .ok true z st1 => if l.length = n ∧ z.length = m then F (pickL idx (l ++ z ++ dd)) st1 else .bad
        | .exc c l st => .exc c l st
        | _ => .bad) := post
      intro t1 vs g1 k1 i1 u1
      have i1 := i1 rfl
      refine hk s t1 σ e st1 (E.up g1) k1 _ ?_
      cases q2 : g ⟨e, st1⟩ with
      | ok p2 z st2 =>
        rw [q2] at post
        cases p2 with
        | false => exact post.elim
        | true =>
          obtain ⟨c, post⟩ := RPost.cond (l.length = n ∧ z.length = m) (F (pickL idx (l ++ z ++ dd)) st2) post
          intro t2 zs g2 k2 i2 u2
          have i2 := i2 rfl
          refine ⟨by rw [u1.len]; exact c.1, by rw [u2.len]; exact c.2, t2, _, st2, rfl, k2, isL_pick (((i1.up g2.a g2.f).append i2).append (isL_toV hd)) idx, (RPost.step (g1.trans g2) k2 post).w (fun c x H' h => h)⟩
      | exc c l st2 => rw [q2] at post; exact fun t' x g' => post t' x (g1.trans g')
      | bad => rw [q2] at post; exact post
  | exc c l st1 => rw [q] at post; exact post
  | bad => rw [q] at post; exact post
def tyN : D → String
  | .non => "NoneType"
  | .bl _ => "bool"
  | .int _ => "int"
  | .str _ => "str"
  | .tup _ => "tuple"
  | .lst _ => "list"
  | .scr _ => "list"
  | .obj _ _ => "object"
  | .ptr _ => "object"
def isT (T : String) : D → Sto → ER
  | .obj _ _, _ => .bad
  | .scr _, _ => .bad
  | .ptr _, _ => .bad
  | d, st => ofOpt (kitB (tyN d) T) fun b => .val .P (.bl b) st
def plainT : D → Prop
  | .obj _ _ => False
  | .scr _ => False
  | .ptr _ => False
  | _ => True
theorem tyX_of {t : Hs} {v : V} {d : D} (s : Same t.f t.h) (h : U G t v d) (hd : plainT d) : TyX G.K t.h v (.type (tyN d)) := by
  cases d with
  | non => obtain rfl := h.non; exact .base .non
  | bl b => obtain rfl := h.bl; exact .base (.bl b)
  | int i => obtain rfl := h.int; exact .base (.int i)
  | str x => obtain rfl := h.str; exact .base (.str x)
  | tup l =>
    obtain ⟨p, vs, rfl, a, b⟩ := h.tup s
    rcases a with (a | ⟨o, a⟩) | ⟨o, its, n, hk, hc, _⟩
    · exact .base (.tup a)
    · exact .fTuple a
    · exact .kTuple hk hc
  | lst l => obtain ⟨p, vs, rfl, a, b⟩ := h.lst s; exact .base (.lst a)
  | obj c l => exact hd.elim
  | scr a => exact hd.elim
  | ptr n => exact hd.elim
def dIsi (T : String) (f : En → ER) : En → ER := fun E => (f E).bind (isT T)
theorem v_isi {T : String} {te : TE} {f : En → ER} (h : DEv G W te f) : DEv G W (tCB (rIsi G.K) (tCons te (tCons (tC (.ty T)) tNil))) (dIsi T f) := by
  intro s t σ e st E k Q post
  refine h s t σ e st E k _ (RPost.bind post fun m d st1 t1 v g1 k1 o1 p1 => ?_)
  have key : ∀ (hd : plainT d) (p1 : RPost G W t1 σ Q (ofOpt (kitB (tyN d) T) fun b => .val .P (.bl b) st1)), rIsi G.K [v, .ty T] t1.h Q := fun hd p1 => by
    obtain ⟨b, hb, p1⟩ := RPost.opt _ _ p1
    exact ⟨v, .ty T, _, _, b, rfl, .ty T, tyX_of k1.sf o1.u hd, kit_ty hb, p1.now k1 (.bl _)⟩
  cases d <;> first | exact key trivial p1 | exact p1.elim
def clr (e : DE) : DE := e.map fun s => match s with | .exn => .emp | .clo _ => .emp | s => s
theorem SlotOk.ea {s t : Hs} {o : Option V} {sl : SL} (x : Addr) (h : SlotOk G s t o sl) (hs : sl ≠ .exn ∧ ∀ ds, sl ≠ .clo ds) : SlotOk (G.at_ x) s t o sl := by
  cases sl with
  | emp => trivial
  | exn => exact absurd rfl hs.1
  | clo ds => exact absurd rfl (hs.2 ds)
  | val d => obtain ⟨v, a, b⟩ := h; exact ⟨v, a, b.ea x⟩
  | own l => obtain ⟨p, vs, a, b, c, d, e, f⟩ := h; exact ⟨p, vs, a, b, c, d, e.ea x, f⟩
theorem clr_get {e : DE} {i : Nat} {s : SL} (h : (clr e)[i]? = some s) : (s ≠ .exn ∧ ∀ ds, s ≠ .clo ds) ∧ (s = .emp ∨ e[i]? = some s) := by
  unfold clr at h
  rw [List.getElem?_map] at h
  cases q : e[i]? with
  | none => rw [q] at h; cases h
  | some s' =>
    rw [q] at h
    cases s' <;> cases h <;> first | exact ⟨⟨(fun z => nomatch z), fun _ z => nomatch z⟩, .inl rfl⟩ | exact ⟨⟨(fun z => nomatch z), fun _ z => nomatch z⟩, .inr rfl⟩
theorem EnvOk.ea {s t : Hs} {σ : L2.St} {e : DE} (x : Addr) (E : EnvOk G s t σ e) : EnvOk (G.at_ x) s t σ (clr e) := by
  refine ⟨E.gr, by rw [E.len]; simp [clr], fun i o s a b => ?_, fun i j p l m hij a b c d => ?_⟩
  · obtain ⟨h1, h2 | h2⟩ := clr_get b
    · subst h2; trivial
    · exact (E.at_ i o s a h2).ea x h1
  · obtain ⟨_, h2 | h2⟩ := clr_get b
    · cases h2
    · obtain ⟨_, h3 | h3⟩ := clr_get d
      · cases h3
      · exact E.dis i j p l m hij a h2 c h3
theorem ObOk.ea {s : Hs} {a : Addr} {o : Ob} (x : Addr) (h : ObOk G s a o) : ObOk (G.at_ x) s a o := by
  cases o with
  | lst l => obtain ⟨vs, h1, h2⟩ := h; exact ⟨vs, h1, h2.ea x⟩
  | ins c l => obtain ⟨dx, vs, h1, h2, h3⟩ := h; exact ⟨dx, vs, h1, h2, h3.ea x⟩
  | tbl q => exact h
  | dct l => obtain ⟨kvs, h1, h2⟩ := h; exact ⟨kvs, h1, h2.ea x⟩
theorem StOk.ea {s : Hs} {st : Sto} (x : Addr) (k : StOk G s st) : StOk (G.at_ x) s st := ⟨k.sf, k.len, k.nd, fun n a o h1 h2 => (k.ob n a o h1 h2).ea x, k.nf, k.tb, fun da h => by
  obtain ⟨xs, h1, h2, h3⟩ := k.ex da h
  exact ⟨xs, h1, h2, h3.ea x⟩⟩
def sTryAs (i : Nat) (catch? : Nat → Option Bool) (g : En → SR) (h : Nat → List D → En → SR) : En → SR := fun E => match g E with
  | .exc c l E1 => (match catch? c with
    | some true => (match h c l ⟨(clr E1.e).set i .exn, E1.st⟩ with
      | .nx E2 => .nx ⟨(clr E2.e).set i .emp, E2.st⟩
      | .bk E2 => .bk ⟨(clr E2.e).set i .emp, E2.st⟩
      | .ct E2 => .ct ⟨(clr E2.e).set i .emp, E2.st⟩
      | .rt m d st => .rt m d st
      | _ => .bad)
    | some false => .exc c l E1
    | none => .bad)
  | r => r
theorem VOk.ea {s t : Hs} {m : Md} {v : V} {d : D} (x : Addr) (h : VOk G s t m v d) : VOk (G.at_ x) s t m v d := by
  cases m with
  | P => exact Is.ea x _ h
  | B => obtain ⟨p, vs, l, a, b, c, e, f⟩ := h; exact ⟨p, vs, l, a, b, c, e.ea x, f⟩
  | N => obtain ⟨p, vs, l, a, b, c, e, f, n, z⟩ := h; exact ⟨p, vs, l, a, b, c, e.ea x, f, n, z⟩
def dIsE (i : Nat) (b : Option Bool) : En → ER := fun E => match E.e[i]? with
  | some .exn => ofOpt b fun b => .val .P (.bl b) E.st
  | _ => .bad
end
theorem callB_n {K : PySem.W.Frag} {fd : FuncData} {ps ks : List Str} {n : Nat} {idx : List Nat} (h : ∀ (us ws : List Value), us.length = n → ws.length = ks.length → bindArgs fd ⟨us, ks.zip ws⟩ = pure (ps.zip (pickL idx (us ++ ws ++ [])))) : CallB K fd ps n ks idx [] :=
  ⟨[], .nil, fun s us ws X l1 l2 => .of_eq (h us ws l1 l2)⟩
def nilOnly (l : List D) (g : En → SR) : En → SR := fun e => match l with
  | [] => g e
  | _ => .bad
def spLaw (K : PySem.W.Frag) : Sp := fun vs H Q _ => ∃ (a : Addr) (ns : List Int), vs = [.ref a] ∧ SqL K H a (ns.map V.int) ∧ ns.length ≤ 63 ∧ (∀ z ∈ ns, Builtin.Int.intBits z ≤ 1048576) ∧ ∀ H', Q (.bl true) H'
def Yes (r : ER) : Prop := ∃ st, r = .val .P (.bl true) st
theorem law_imp {G : Gm} {F : List D → Sto → ER} (hG : G.tb = []) (hF : ∀ ns : List Int, ns.length ≤ 63 → (∀ z ∈ ns, Builtin.Int.intBits z ≤ 1048576) → Yes (F [.scr ns] [])) (vs : List V) (H : Hp) (Q : VK) (E : XK) (h : spLaw G.K vs H Q E) (hE : G.ed = none := by rfl) : spF G F vs H Q E := by
  obtain ⟨a, ns, rfl, hS, h1, h2, k⟩ := h
  obtain ⟨st, hF⟩ := hF ns h1 h2
  refine ⟨⟨[], H, H⟩, [.scr ns], [], rfl, ⟨Same.refl _, rfl, List.nodup_nil, fun n a o h => by simp at h, fun x m => by simp at m, fun n P h => by rw [hG] at h; simp at h, fun da h => by rw [hE] at h; cases h⟩, .cons (.scr hS) .nil, ?_⟩
  rw [hF]
  intro t v g k' o
  cases o
  exact k t.h
end Dn
namespace Dn
open PySem PySem.Spec PyProof.Rows L2
section
variable {G : Gm} {W : WX}
def DMt (G : Gm) (r : V → List V → Hp → VK → Prop) (op : List D → List D → Option (D × List D)) : Prop :=
  ∀ (s : Hs) (p : Addr) (vs : List V) (l : List D) (xs : List V) (ds : List D) (o : D × List D), s.h p = some (.lst vs) → IsL G s.as s.f vs l → IsL G s.as s.f xs ds → op l ds = some o → Same s.f s.h →
    ∃ v vs', Is G s.as s.f v o.1 ∧ IsL G s.as s.f vs' o.2 ∧ ∀ Q : VK, Q v (upd s.h p (.lst vs')) → r (.ref p) xs s.h Q
def mAppend (l ds : List D) : Option (D × List D) := match ds with
  | [d] => if l.length < 1000000 then some (.non, l ++ [d]) else none
  | _ => none
def mInsert (l ds : List D) : Option (D × List D) := match ds with
  | [.int i, d] => if l.length < 1000000 ∧ 0 ≤ i ∧ i < 2 ^ 63 then some (.non, l.take i.toNat ++ [d] ++ l.drop i.toNat) else none
  | _ => none
def mPop (l ds : List D) : Option (D × List D) := match ds with
  | [] => (match l[l.length - 1]? with | some d => some (d, l.dropLast) | none => none)
  | _ => none
def mPopAt (l ds : List D) : Option (D × List D) := match ds with
  | [.int i] => if -(2 ^ 63) ≤ i ∧ i < 2 ^ 63 then (match seqIndex? i l.length with
    | some k => (match l[k]? with | some d => some (d, l.eraseIdx k) | none => none)
    | none => none) else none
  | _ => none
def mReverse (l ds : List D) : Option (D × List D) := match ds with
  | [] => some (.non, l.reverse)
  | _ => none
theorem m_append : DMt G rAppend mAppend := by
  intro s p vs l xs ds o hp il ix ho _sf
  unfold mAppend at ho
  split at ho
  · rename_i d
    split at ho
    · rename_i hl
      cases ho
      cases ix with
      | cons a b => cases b; exact ⟨.non, _, .non, il.append (.one a), fun Q q => ⟨p, vs, _, rfl, rfl, hp, by rw [il.len]; exact szlt hl, q⟩⟩
    · cases ho
  · cases ho
theorem IsL.dropLast {as : List Addr} {H : Hp} {ds : List D} {vs : List V} (h : IsL G as H vs ds) : IsL G as H vs.dropLast ds.dropLast := by
  rw [List.dropLast_eq_take, List.dropLast_eq_take, h.len]
  exact h.take _
theorem m_popAt : DMt G rPopAt mPopAt := by
  intro s p vs l xs ds o hp il ix ho _sf
  unfold mPopAt at ho
  split at ho
  · rename_i i
    split at ho
    · rename_i hi
      split at ho
      · rename_i k hk
        split at ho
        · rename_i d hd
          cases ho
          cases ix with
          | cons a b =>
            cases b
            cases a
            obtain ⟨v, h1, h2⟩ := il.get hd
            exact ⟨v, _, h2, il.eraseIdx k, fun Q q => ⟨p, vs, i, k, v, rfl, rfl, hp, hi.1, hi.2, by rw [il.len]; exact hk, h1, q⟩⟩
        · cases ho
      · cases ho
    · cases ho
  · cases ho
def dMtP (op : List D → List D → Option (D × List D)) (fb : En → ER) (fa : En → AR) : En → ER := fun E => match fb E with
  | .val _ (.ptr n) st => (match stLst st n with
    | some _ => (match fa ⟨E.e, st⟩ with
      | .ok true ds st1 => (match stLst st1 n with
        | some l => (match op l ds with | some o => .val .P o.1 (st1.set n (.lst o.2)) | none => .bad)
        | none => .bad)
      | .exc c l st => .exc c l st
      | _ => .bad)
    | none => .bad)
  | .exc c l st => .exc c l st
  | _ => .bad
theorem mt_end {r : V → List V → Hp → VK → Prop} {op : List D → List D → Option (D × List D)} (hm : DMt G r op) {t : Hs} {st : Sto} {n : Nat} {p : Addr} {xs : List V} {ds l : List D} {o : D × List D} (k : StOk G t st) (hp : t.as[n]? = some p) (hl : stLst st n = some l) (ix : IsL G t.as t.f xs ds) (ho : op l ds = some o) {σ : L2.St} {Q : VK}
    (post : RPost G W t σ Q (.val .P o.1 (st.set n (.lst o.2)))) : r (.ref p) xs t.h Q := by
  obtain ⟨vs, hh, il⟩ := k.lst hp hl
  obtain ⟨v, vs', h1, h2, h3⟩ := hm t p vs l xs ds o hh il ix ho k.sf
  exact h3 Q (post ⟨t.as, t.f, upd t.h p (.lst vs')⟩ v (Gro.mod (Gro.refl k) k hp) (k.mod hp ⟨vs', upd_same, h2⟩) h1)
theorem v_mtP {r : V → List V → Hp → VK → Prop} {op : List D → List D → Option (D × List D)} {tb : TE} {ta : TA} {fb : En → ER} {fa : En → AR} (hm : DMt G r op) (hb : DEv G W tb fb) (ha : DAr G W ta fa) : DEv G W (tBM G.K "list" r tb ta) (dMtP op fb fa) := by
  intro s t σ e st E k Q post
  unfold dMtP at post
  refine hb s t σ e st E k _ ?_
  cases q : fb ⟨e, st⟩ with
  | val m d st1 =>
    rw [q] at post
    cases d <;> first | exact post.elim | skip
    rename_i n
    cases hl : stLst st1 n with
    | none => simp only [hl] at post; exact post.elim
    | some l0 =>
      simp only [hl] at post
      intro t1 v g1 k1 o1
      obtain ⟨p, rfl, hp⟩ := o1.u.ptr
      obtain ⟨vs, hh, _⟩ := k1.lst hp hl
      refine ⟨.inl ⟨rfl, vs, SqL.of hh⟩, ha s t1 σ e st1 (E.up g1) k1 _ ?_⟩
      cases q2 : fa ⟨e, st1⟩ with
      | ok b ds st2 =>
        rw [q2] at post
        cases b with
        | false => exact post.elim
        | true =>
          intro t2 xs g2 k2 i2 _
          cases hl2 : stLst st2 n with
          | none => simp only [hl2] at post; exact post.elim
          | some l =>
            simp only [hl2] at post
            cases ho : op l ds with
            | none => simp only [ho] at post; exact post.elim
            | some o =>
              simp only [ho] at post
              exact mt_end hm k2 (g2.a n p hp) hl2 (i2 rfl) ho (RPost.step (g1.trans g2) k2 post)
      | exc c l st2 => rw [q2] at post; exact fun t' x g' => post t' x (g1.trans g')
      | bad => rw [q2] at post; exact post
  | exc c l st1 => rw [q] at post; exact post
  | bad => rw [q] at post; exact post
def putAt (j : Option Nat) (d : D) (e : DE) : DE := match j with
  | some j => e.set j (.val d)
  | none => e
def sMtO (j : Option Nat) (op : List D → List D → Option (D × List D)) (i : Nat) (fa : En → AR) : En → SR := fun E => match E.e[i]? with
  | some (.own l) => (match fa E with
    | .ok true ds st1 => (match op l ds with | some o => .nx ⟨putAt j o.1 (E.e.set i (.own o.2)), st1⟩ | none => .bad)
    | .exc c l st => .exc c l ⟨E.e, st⟩
    | _ => .bad)
  | _ => .bad
theorem mtO_run {r : V → List V → Hp → VK → Prop} {op : List D → List D → Option (D × List D)} {ta : TA} {fa : En → AR} {i : Nat} (hm : DMt G r op) (ha : DAr G W ta fa) {s t : Hs} {σ : L2.St} {e : DE} {st : Sto} {l : List D} (E : EnvOk G s t σ e) (k : StOk G t st) (hx : e[i]? = some (.own l)) {N : Ends} {Q : VK} {j : Option Nat}
    (post : SPost G W s t N (match fa ⟨e, st⟩ with
      | .ok true ds st1 => (match op l ds with | some o => .nx ⟨putAt j o.1 (e.set i (.own o.2)), st1⟩ | none => .bad)
      | .exc c l st => .exc c l ⟨e, st⟩
      | _ => .bad))
    (fin : ∀ t' v d st1 l', Up t t' → EnvOk G s t' σ (e.set i (.own l')) → StOk G t' st1 → Is G t'.as t'.f v d → SPost G W s t N (.nx ⟨putAt j d (e.set i (.own l')), st1⟩) → Q v t'.h) : tBM G.K "list" r (tVar i) ta σ t.h Q := by
  obtain ⟨o, hσ, p, vs, rfl, p0, pf, ph, pl, pa⟩ := E.slot hx
  refine ⟨_, hσ, .inl ⟨rfl, vs, SqL.of ph⟩, ha s t σ e st E k _ ?_⟩
  cases q2 : fa ⟨e, st⟩ with
  | ok b ds st2 =>
    rw [q2] at post
    cases b with
    | false => exact post.elim
    | true =>
      intro t2 xs g2 k2 i2 _
      cases ho : op l ds with
      | none => simp only [ho] at post; exact post.elim
      | some o =>
        simp only [ho] at post
        have hp' : t2.h p = some (.lst vs) := g2.h _ _ ph pa
        have hf' : t2.f p = none := g2.n _ _ ph pf
        have ha' : p ∉ t2.as := fun m => (g2.w p m).elim pa fun z => by rw [ph] at z; cases z
        obtain ⟨v, vs', h1, h2, h3⟩ := hm t2 p vs l xs ds o hp' (pl.up g2.a g2.f) (i2 rfl) ho k2.sf
        exact h3 _ (fin ⟨t2.as, t2.f, upd t2.h p (.lst vs')⟩ v o.1 st2 o.2 ⟨g2.a, g2.f⟩ ((E.up g2).chg hσ hx p0 hf' h2 ha') (k2.chg hf' ha') h1 post)
  | exc c l st2 => rw [q2] at post; exact fun t' x g' k' o => post t' σ x g'.up (E.up g') k' o
  | bad => rw [q2] at post; exact post
theorem s_mtO {r : V → List V → Hp → VK → Prop} {op : List D → List D → Option (D × List D)} {ta : TA} {fa : En → AR} {i : Nat} (hm : DMt G r op) (ha : DAr G W ta fa) : DSt G W (tDrop (tBM G.K "list" r (tVar i) ta)) (sMtO none op i fa) := by
  intro s t σ e st E k N post
  unfold sMtO at post
  split at post
  · rename_i l hx
    exact mtO_run hm ha E k hx post fun t' v d st1 l' u E' k' _ p => p t' σ u E' k'
  · exact post.elim
def sMt (op : List D → List D → Option (D × List D)) (i : Nat) (fa : En → AR) : En → SR := fun E => match E.e[i]? with
  | some (.own _) => sMtO none op i fa E
  | _ => sDrop (dMtP op (dVar i) fa) E
theorem s_mt {r : V → List V → Hp → VK → Prop} {op : List D → List D → Option (D × List D)} {ta : TA} {fa : En → AR} {i : Nat} (hm : DMt G r op) (ha : DAr G W ta fa) : DSt G W (tDrop (tBM G.K "list" r (tVar i) ta)) (sMt op i fa) := by
  intro s t σ e st E k N post
  unfold sMt at post
  split at post
  · exact s_mtO hm ha s t σ e st E k N post
  · exact s_drop (v_mtP hm v_var ha) s t σ e st E k N post
def sMtA (j : Nat) (op : List D → List D → Option (D × List D)) (i : Nat) (fa : En → AR) : En → SR := fun E => match E.e[i]? with
  | some (.own _) => sMtO (some j) op i fa E
  | _ => sSetF j (dMtP op (dVar i) fa) E
end
end Dn
namespace Dn
open PySem PySem.Spec PyProof.Rows L2
def stIns (st : Sto) (n : Nat) : Option (Nat × List D) := match st[n]? with
  | some (.ins c l) => some (c, l)
  | _ => none
section
variable {G : Gm} {W : WX}
theorem StOk.ins {s : Hs} {st : Sto} {n c : Nat} {l : List D} {p : Addr} (k : StOk G s st) (ha : s.as[n]? = some p) (h : stIns st n = some (c, l)) : ∃ dx vs, s.h p = some (.ins (G.ca c) dx ((G.fn c).zip vs)) ∧ vs.length ≤ (G.fn c).length ∧ IsL G s.as s.f vs l := by
  unfold stIns at h
  split at h
  · rename_i c' l' q
    cases h
    exact k.ob n p _ ha q
  · cases h
structure FldOk (G : Gm) (f : Str) (ix : Nat → Option Nat) : Prop where
  ok : ∀ c i, ix c = some i → (G.fn c)[i]? = some f ∧ (G.fn c).Nodup ∧ (G.fn c).length < 1000 ∧ Cls G.K (G.ca c) ∧ NoAttr G.K (G.ca c) f
def putI (i : Nat) (d : D) (l : List D) : Option (List D) := if i < l.length then some (l.set i d) else if i = l.length then some (l ++ [d]) else none
def dFld (ix : Nat → Option Nat) (fe : En → ER) : En → ER := fun E => (fe E).bind fun x st => match x with
  | .ptr n => (match stIns st n with
    | some (c, l) => (match ix c with
      | some i => ofOpt l[i]? fun d => .val .P d st
      | none => .bad)
    | none => .bad)
  | _ => .bad
def sFldS (ix : Nat → Option Nat) (fo fe : En → ER) : En → SR := fun E => match fe E with
  | .val .B _ _ => .bad
  | .val _ d st => (match fo ⟨E.e, st⟩ with
    | .val _ (.ptr n) st1 => (match stIns st1 n with
      | some (c, l) => (match ix c with
        | some i => (match putI i d l with
          | some l' => .nx ⟨E.e, st1.set n (.ins c l')⟩
          | none => .bad)
        | none => .bad)
      | none => .bad)
    | .exc c l st => .exc c l ⟨E.e, st⟩
    | _ => .bad)
  | .exc c l st => .exc c l ⟨E.e, st⟩
  | .bad => .bad
end
section
variable {X : Cx} {CX : CXT} {k n : Nat} {f C : Addr} {fd : FuncData} {ps ks : List Str} {idx : List Nat} {dvs : List V} {sp : Sp} {E : L2.St → XK} {x m : Str} {p pos apos : Pos} {o e : Expr} {es : List Expr} {kws : List Keyword} {ta : TE} {t tk : TA}
theorem PE.or {X : Cx} {e : Expr} {t u : TE} (h : PE X e t) (h' : PE X e u) : PE X e (fun σ H Q => t σ H Q ∨ u σ H Q) :=
  ⟨fun pins s σ H Q I z => z.elim (fun z => h.run pins s σ H Q I z) (fun z => h'.run pins s σ H Q I z)⟩
end
section
variable {G : Gm} {W : WX}
def dMeth (c : Nat) (F : List D → Sto → ER) (n r : Nat) (idx : List Nat) (dd : List D) (fo : En → ER) (fa fk : En → AR) : En → ER := fun E => (fo E).bind fun x st => match x with
  | .ptr p => (match stIns st p with
    | some (c', _) => if c' = c then (match fa ⟨E.e, st⟩ with
      | .ok true l st1 => (match fk ⟨E.e, st1⟩ with
        | .ok true z st2 => if l.length + 1 = n ∧ z.length = r then F (pickL idx ((.ptr p :: l) ++ z ++ dd)) st2 else .bad
        | .exc c l st => .exc c l st
        | _ => .bad)
      | .exc c l st => .exc c l st
      | _ => .bad) else .bad
    | none => .bad)
  | _ => .bad
def isC (c : Nat) (fo : En → ER) (E : En) : Bool := match fo E with
  | .val _ (.ptr n) st => (match stIns st n with | some (c', _) => c' == c | none => false)
  | _ => false
def dAlt (p : En → Bool) (f g : En → ER) : En → ER := fun E => if p E = true then f E else g E
def dMake (c : Nat) (F : List D → Sto → ER) (n r : Nat) (idx : List Nat) (dd : List D) (fa fk : En → AR) : En → ER := fun E => match fa E with
  | .ok true l st => (match fk ⟨E.e, st⟩ with
    | .ok true z st1 => if l.length + 1 = n ∧ z.length = r then (match F (pickL idx ((.ptr st1.length :: l) ++ z ++ dd)) (st1 ++ [.ins c []]) with
      | .val _ .non st2 => .val .P (.ptr st1.length) st2
      | .exc c l st => .exc c l st
      | _ => .bad) else .bad
    | .exc c l st => .exc c l st
    | _ => .bad)
  | .exc c l st => .exc c l st
  | _ => .bad
end
end Dn
namespace Dn
open PySem PySem.Spec PyProof.Rows L2
section
variable {G : Gm} {W : WX}
def ItOkE (G : Gm) (s : Hs) (σ : L2.St) (e : DE) (vs : List Nat) (t1 : Hs) (J : It) (l : List D) : Prop := ∀ (i : Nat) (t : Hs) (st : Sto), Up t1 t → EnvOk G s t (L2.wipe σ vs) (wipeE e vs) → StOk G t st → (l.length ≤ i → J.stop i t.h) ∧
  ∀ d, l[i]? = some d → J.go i t.h ∧ ∀ x H', J.yld i t.h x H' → ∃ t', t'.h = H' ∧ Gro t t' ∧ StOk G t' st ∧ Is G t'.as t'.f x d
def IPostE (G : Gm) (W : WX) (s : Hs) (e : DE) (vs : List Nat) (t : Hs) (σ : L2.St) (R : It → Hp → Prop) : AR → Prop
  | .ok _ l st => ∀ t' J, Gro t t' → StOk G t' st → ItOkE G s σ e vs t' J l → R J t'.h
  | .exc c l st => ∀ t' x, Gro t t' → StOk G t' st → ExcOk G t' c l x → W (.ref (G.ca c)) x σ t'.h
  | .bad => False
def DItE (G : Gm) (W : WX) (vs : List Nat) (wi : TI) (f : En → AR) : Prop := ∀ s t σ e st, EnvOk G s t σ e → StOk G t st → ∀ R : It → Hp → Prop, IPostE G W s e vs t σ R (f ⟨e, st⟩) → wi σ t.h R
theorem DIt.e {vs : List Nat} {wi : TI} {f : En → AR} (h : DIt G W wi f) : DItE G W vs wi f := by
  intro s t σ e st E k R post
  refine h s t σ e st E k R ?_
  cases q : f ⟨e, st⟩ with
  | ok p l st1 => rw [q] at post; exact fun t' J g k' it => post t' J g k' fun i t2 st2 u _ k2 => it i t2 st2 u k2
  | exc c l st1 => rw [q] at post; exact post
  | bad => rw [q] at post; exact post
def dIterV (i : Nat) : En → AR := fun E => match E.e[i]? with
  | some (.own l) => .ok false l E.st
  | _ => dIter (dVar i) E
end
end Dn
namespace Dn
open PySem PySem.Spec PyProof.Rows L2
section
variable {G : Gm} {W : WX}
def boolsOf : List D → Option (List Bool)
  | [] => some []
  | .bl i :: l => (boolsOf l).map (i :: ·)
  | _ => none
def oAll : List D → Sto → ER
  | [.lst l], st => ofOpt (boolsOf l) fun ns => .val .P (.bl (ns.all id)) st
  | _, _ => .bad
def oAny : List D → Sto → ER
  | [.lst l], st => ofOpt (boolsOf l) fun ns => .val .P (.bl (ns.any id)) st
  | _, _ => .bad
def oRev : D → Sto → ER
  | .lst l, st => .val .N (.lst l.reverse) st
  | .ptr n, st => ofOpt (stLst st n) fun l => .val .N (.lst l.reverse) st
  | _, _ => .bad
def dRev (f : En → ER) : En → ER := fun E => (f E).bind oRev
def mClear (l ds : List D) : Option (D × List D) := match ds with
  | [] => some (.non, [])
  | _ => none
def dMtX (op : List D → List D → Option (D × List D)) (fb : En → ER) (fa : En → AR) : En → ER := fun E => match fb E with
  | .val .N (.lst l) st => (match fa ⟨E.e, st⟩ with
    | .ok true ds st1 => (match op l ds with | some o => .val .P o.1 st1 | none => .bad)
    | .exc c l st => .exc c l st
    | _ => .bad)
  | _ => dMtP op fb fa E
theorem v_mtX {r : V → List V → Hp → VK → Prop} {op : List D → List D → Option (D × List D)} {tb : TE} {ta : TA} {fb : En → ER} {fa : En → AR} (hm : DMt G r op) (hb : DEv G W tb fb) (ha : DAr G W ta fa) : DEv G W (tBM G.K "list" r tb ta) (dMtX op fb fa) := by
  intro s t σ e st E k Q post
  unfold dMtX at post
  split at post
  · rename_i l st1 q
    refine hb s t σ e st E k _ ?_
    rw [q]
    intro t1 v g1 k1 o1
    obtain ⟨p, vs, l', rfl, e', c, il, na, n0, nf⟩ := o1
    cases e'
    refine ⟨.inl ⟨rfl, vs, SqL.of c⟩, ha s t1 σ e st1 (E.up g1) k1 _ ?_⟩
    cases q2 : fa ⟨e, st1⟩ with
    | ok b ds st2 =>
      rw [q2] at post
      cases b with
      | false => exact post.elim
      | true =>
        intro t2 xs g2 k2 i2 _
        cases ho : op l ds with
        | none => simp only [ho] at post; exact post.elim
        | some o =>
          simp only [ho] at post
          have hp' : t2.h p = some (.lst vs) := g2.h _ _ c na
          have hf' : t2.f p = none := g2.n _ _ c nf
          have ha' : p ∉ t2.as := fun m => (g2.w p m).elim na fun z => by rw [c] at z; cases z
          obtain ⟨v, vs', h1, h2, h3⟩ := hm t2 p vs l xs ds o hp' (il.up g2.a g2.f) (i2 rfl) ho k2.sf
          exact h3 _ (post ⟨t2.as, t2.f, upd t2.h p (.lst vs')⟩ v ((g1.trans g2).chg n0 hf') (k2.chg hf' ha') h1)
    | exc c l st2 => rw [q2] at post; exact fun t' x g' => post t' x (g1.trans g')
    | bad => rw [q2] at post; exact post
  · exact v_mtP hm hb ha s t σ e st E k Q post
end
end Dn
namespace Dn
open PySem PySem.Spec PyProof.Rows L2
theorem unit65 {k : Nat} {A : Around} (r : Room k A) : A.units + 65 < cLine := by have := r.un; omega
section
variable {G : Gm} {W : WX}
def inL (d : D) (l : List D) : Option Bool := if isPy d = true ∧ isPyL l = true ∧ SeqAt.shaped (py d) = true ∧ SeqAt.shaped (.list (pyL l)) = true then some ((pyL l).any fun z => PyData.eqv z (py d)) else none
def oIn (a b : D) (st : Sto) : ER := match b with
  | .lst l => ofOpt (inL a l) fun r => .val .P (.bl r) st
  | .ptr n => ofOpt (stLst st n) fun l => ofOpt (inL a l) fun r => .val .P (.bl r) st
  | .str z => (match a with
    | .str x => (match x.cps.toList with | [c] => .val .P (.bl (decide (c ∈ z.cps.toList))) st | _ => .bad)
    | _ => .bad)
  | _ => .bad
def oNotIn (a b : D) (st : Sto) : ER := match b with
  | .lst l => ofOpt (inL a l) fun r => .val .P (.bl (!r)) st
  | .ptr n => ofOpt (stLst st n) fun l => ofOpt (inL a l) fun r => .val .P (.bl (!r)) st
  | .str z => (match a with
    | .str x => (match x.cps.toList with | [c] => .val .P (.bl (!decide (c ∈ z.cps.toList))) st | _ => .bad)
    | _ => .bad)
  | _ => .bad
abbrev rInA (K : PySem.W.Frag) : R2 := rOr (rInD K) rInS
abbrev rNotInA (K : PySem.W.Frag) : R2 := rOr (rNotInD K) rNotInS
theorem or_in {X : Cx} (hu : X.A.units + 65 < cLine) : OpR X (compareOp .In) (rInA X.K) := opOr (op_inD hu) op_inS
theorem or_notin {X : Cx} (hu : X.A.units + 65 < cLine) : OpR X (compareOp .NotIn) (rNotInA X.K) := opOr (op_notInD hu) op_notInS
theorem one_sign {x : Str} {c : Nat} (h : x.cps.toList = [c]) : x = ⟨#[c]⟩ := by
  cases x with | mk a =>
  have h' : a.toList = [c] := h
  have : a = #[c] := by apply Array.ext'; simpa using h'
  rw [this]
theorem inL_dp {s : Hs} {v w : V} {d : D} {l : List D} {r : Bool} (sm : Same s.f s.h) (hv : U G s v d) (p : Addr) (vs : List V) (hp : s.h p = some (.lst vs)) (hl : IsL G s.as s.f vs l) (h : inL d l = some r) : Dp G.K s.h v (py d) ∧ Dp G.K s.h (.ref p) (.list (pyL l)) ∧ SeqAt.shaped (py d) = true ∧ SeqAt.shaped (.list (pyL l)) = true ∧ r = (pyL l).any fun z => PyData.eqv z (py d) := by
  unfold inL at h
  split at h
  · rename_i c
    exact ⟨dp_u sm c.1 hv, .lst (SqL.of hp) (dpL_of sm l c.2.1 hl), c.2.2.1, c.2.2.2, (Option.some.inj h).symm⟩
  · cases h
theorem d_in : DOp G (rInA G.K) oIn := by
  intro W σ s st v w d d' k hv hw Q post
  cases d' <;> try exact post.elim
  case lst l =>
    obtain ⟨r, hr, post⟩ := RPost.opt (inL d l) (fun r => .val .P (.bl r) st) post
    obtain ⟨p, vs, rfl, hp, hl⟩ := hw.lst k.sf
    obtain ⟨a, b, c, e, f⟩ := inL_dp (w := .non) k.sf hv p vs hp hl hr
    exact .inl ⟨_, _, a, b, c, e, by rw [← f]; exact post.now k (.bl _)⟩
  case ptr n =>
    obtain ⟨l, hl, post⟩ := RPost.opt (stLst st n) (fun l => ofOpt (inL d l) fun r => .val .P (.bl r) st) post
    obtain ⟨r, hr, post⟩ := RPost.opt (inL d l) (fun r => .val .P (.bl r) st) post
    obtain ⟨p, rfl, hp⟩ := hw.ptr
    obtain ⟨vs, hh, il⟩ := k.lst hp hl
    obtain ⟨a, b, c, e, f⟩ := inL_dp (w := .non) k.sf hv p vs hh il hr
    exact .inl ⟨_, _, a, b, c, e, by rw [← f]; exact post.now k (.bl _)⟩
  case str z =>
    cases d <;> try exact post.elim
    rename_i x
    obtain rfl := hv.str; obtain rfl := hw.str
    cases q : x.cps.toList with
    | nil => simp only [oIn, q] at post; exact post.elim
    | cons c l =>
      cases l with
      | nil =>
        simp only [oIn, q] at post
        have := one_sign q
        subst this
        exact .inr ⟨c, z, rfl, rfl, RPost.now k post (.bl _)⟩
      | cons b l => simp only [oIn, q] at post; exact post.elim
theorem d_notin : DOp G (rNotInA G.K) oNotIn := by
  intro W σ s st v w d d' k hv hw Q post
  cases d' <;> try exact post.elim
  case lst l =>
    obtain ⟨r, hr, post⟩ := RPost.opt (inL d l) (fun r => .val .P (.bl (!r)) st) post
    obtain ⟨p, vs, rfl, hp, hl⟩ := hw.lst k.sf
    obtain ⟨a, b, c, e, f⟩ := inL_dp (w := .non) k.sf hv p vs hp hl hr
    exact .inl ⟨_, _, a, b, c, e, by rw [← f]; exact post.now k (.bl _)⟩
  case ptr n =>
    obtain ⟨l, hl, post⟩ := RPost.opt (stLst st n) (fun l => ofOpt (inL d l) fun r => .val .P (.bl (!r)) st) post
    obtain ⟨r, hr, post⟩ := RPost.opt (inL d l) (fun r => .val .P (.bl (!r)) st) post
    obtain ⟨p, rfl, hp⟩ := hw.ptr
    obtain ⟨vs, hh, il⟩ := k.lst hp hl
    obtain ⟨a, b, c, e, f⟩ := inL_dp (w := .non) k.sf hv p vs hh il hr
    exact .inl ⟨_, _, a, b, c, e, by rw [← f]; exact post.now k (.bl _)⟩
  case str z =>
    cases d <;> try exact post.elim
    rename_i x
    obtain rfl := hv.str; obtain rfl := hw.str
    cases q : x.cps.toList with
    | nil => simp only [oNotIn, q] at post; exact post.elim
    | cons c l =>
      cases l with
      | nil =>
        simp only [oNotIn, q] at post
        have := one_sign q
        subst this
        exact .inr ⟨c, z, rfl, rfl, RPost.now k post (.bl _)⟩
      | cons b l => simp only [oNotIn, q] at post; exact post.elim
end
end Dn
namespace Dn
open PySem PySem.Spec PyProof.Rows L2
section
variable {G : Gm} {W : WX}
def srt (ns : List Int) : List Int := ns.mergeSort (fun a b => decide (a ≤ b))
def oSorted : List D → Sto → ER
  | [.lst l], st => ofOpt (intsOf l) fun ns => if ns.length < 64 then .val .N (.lst ((srt ns).map .int)) st else .bad
  | _, _ => .bad
def dLr (f : En → ER) : En → ER := fun E => match f E with
  | .val _ (.int n) st => if -4611686018427387904 ≤ n ∧ n ≤ 1000000 then .val .N (.lst (rangeD 0 n.toNat)) st else .bad
  | .exc c l st => .exc c l st
  | _ => .bad
end
end Dn
namespace Dn
open PySem PySem.Spec PyProof.Rows L2 LamX
structure Alike (G G' : Gm) : Prop where
  K : G'.K = G.K
  ca : G'.ca = G.ca
  fn : G'.fn = G.fn
  tb : G'.tb = G.tb
  ed : G'.ed = G.ed
  en : G'.en = G.en
  el : G'.el = G.el
theorem Alike.symm {G G' : Gm} (a : Alike G G') : Alike G' G := ⟨a.K.symm, a.ca.symm, a.fn.symm, a.tb.symm, a.ed.symm, a.en.symm, a.el.symm⟩
mutual
theorem Is.sw {G G' : Gm} (a : Alike G G') {as : List Addr} {H : Hp} : ∀ (d : D) {v : V}, Is G as H v d → Is G' as H v d
  | .non, _, h => by cases h; exact .non
  | .bl _, _, h => by cases h; exact .bl _
  | .int _, _, h => by cases h; exact .int _
  | .str _, _, h => by cases h; exact .str _
  | .tup ds, _, h => by cases h with | tup p b => exact .tup (by rw [a.K]; exact p) (IsL.sw a ds b)
  | .lst ds, _, h => by cases h with | lst p b => exact .lst p (IsL.sw a ds b)
  | .scr l, _, h => by cases h with | scr p => exact .scr (by rw [a.K]; exact p)
  | .ptr n, _, h => by cases h with | ptr p => exact .ptr p
  | .obj c ds, _, h => by cases h with | obj p l b => exact .obj (by rw [a.ca, a.fn]; exact p) (by rw [a.fn]; exact l) (IsL.sw a ds b)
theorem IsL.sw {G G' : Gm} (a : Alike G G') {as : List Addr} {H : Hp} : ∀ (ds : List D) {vs : List V}, IsL G as H vs ds → IsL G' as H vs ds
  | [], _, h => by cases h; exact .nil
  | d :: ds, _, h => by cases h with | cons p b => exact .cons (Is.sw a d p) (IsL.sw a ds b)
end
section
variable {G G' : Gm} (a : Alike G G')
include a
theorem ObOk.sw {s : Hs} {x : Addr} {o : Ob} (h : ObOk G s x o) : ObOk G' s x o := by
  cases o with
  | lst l => obtain ⟨vs, h1, h2⟩ := h; exact ⟨vs, h1, IsL.sw a _ h2⟩
  | ins c l => obtain ⟨dx, vs, h1, h2, h3⟩ := h; exact ⟨dx, vs, by rw [a.ca, a.fn]; exact h1, by rw [a.fn]; exact h2, IsL.sw a _ h3⟩
  | tbl q => exact h
  | dct l => obtain ⟨kvs, h1, h2⟩ := h; exact ⟨kvs, h1, by
      clear h1
      induction h2 with
      | nil => exact .nil
      | cons p q ih => exact .cons (Is.sw a _ p) ih⟩
theorem StOk.sw {s : Hs} {st : Sto} (k : StOk G s st) : StOk G' s st := ⟨k.sf, k.len, k.nd, fun n x o h1 h2 => ObOk.sw a (k.ob n x o h1 h2), k.nf, by rw [a.tb]; exact k.tb, fun da h => by
  rw [a.ed] at h
  obtain ⟨xs, h1, h2, h3⟩ := k.ex da h
  rw [a.en, a.el]
  exact ⟨xs, h1, h2, IsL.sw a _ h3⟩⟩
theorem VOk.sw {s t : Hs} {m : Md} {v : V} {d : D} (h : VOk G s t m v d) : VOk G' s t m v d := by
  cases m with
  | P => exact Is.sw a _ h
  | B => obtain ⟨p, vs, l, x, b, c, e, f⟩ := h; exact ⟨p, vs, l, x, b, c, IsL.sw a _ e, f⟩
  | N => obtain ⟨p, vs, l, x, b, c, e, f, n, z⟩ := h; exact ⟨p, vs, l, x, b, c, IsL.sw a _ e, f, n, z⟩
theorem RPost.sw {s : Hs} {σ σ' : L2.St} {Q : VK} {r : ER} (h : RPost G' W0 s σ Q r) : RPost G W0 s σ' Q r := by
  cases r with
  | val m d st => exact fun t v g k o => h t v g (StOk.sw a k) (VOk.sw a o)
  | exc c l st =>
    intro t x g k o
    refine h t x g (StOk.sw a k) ?_
    rcases o with o | ⟨da, xs, o1, o2, o3, o4, o5⟩
    · exact .inl o
    · exact .inr ⟨da, xs, o1, o2, by rw [a.fn]; exact o3, by rw [a.fn]; exact o4, IsL.sw a _ o5⟩
  | bad => exact h
end
def slO : Option D → SL
  | some d => .val d
  | none => .emp
def cloOf (e : DE) : List (Option D) := e.map fun s => match s with | .val d => some d | _ => none
def cloE (ds : List (Option D)) (ja jb : Nat) (x y : D) : DE := ((ds.map slO).set ja (.val x)).set jb (.val y)
def startL (n : Nat) (d : D) (ds : List (Option D)) : DE := .val d :: .clo ds :: List.replicate (n - 2) .emp
section
variable {G : Gm}
def dHeld (i : Nat) (h : List (Option D) → D → D → Sto → ER) (fa : En → AR) : En → ER := fun E => match E.e[i]? with
  | some (.clo ds) => (match fa E with
    | .ok true [x, y] st => h ds x y st
    | .exc c l st => .exc c l st
    | _ => .bad)
  | _ => .bad
def valOnly : ER → ER
  | .val m d st => .val m d st
  | _ => .bad
def dLamC (np : Nat) (q : Str) (N : Nat) (g : En → SR) (f1 : En → ER) : En → ER := fun E => match f1 E with
  | .val .B _ _ => .bad
  | .val _ d1 st => (match st[np]? with
    | some (.tbl q') => if q' = q then valOnly (g ⟨startL N d1 (cloOf E.e), st⟩).ret else .bad
    | _ => .bad)
  | .exc c l st => .exc c l st
  | .bad => .bad
end
end Dn
namespace Dn
open PySem PySem.Spec PyProof.Rows L2 LamX
section
variable {G : Gm} {W : WX}
def sBad : En → SR := fun _ => .bad
theorem s_never : DSt G W tNever sBad := fun _ _ _ _ _ _ _ _ post => post.elim
def dBad : En → ER := fun _ => .bad
end
structure FunC (K : PySem.W.Frag) (x qual : Str) (st : Stmt) (f : Addr) (fd : FuncData) (c : Addr) : Prop where
  ex : ∃ (oc : Value) (od : Option Addr) (kV doc pm : Value) (an : Option Addr) (ct : Value) (osl : Array (Option Value)),
    fd = PySem.W.fnOf x qual (defArgs st) (defBody st) (defScope st) .none kV doc pm an (.ref c) ct ∧ K.lookup f = some ⟨oc, od, .func fd, osl⟩ ∧ PySem.W.codeIn K (.ref c) qual = true
  kp : PySem.W.keepIn K (.ref f) = true
end Dn
namespace Dn
open PySem PySem.Spec PyProof.Rows L2
section
variable {G : Gm} {W : WX}
def ItOkC (G : Gm) (C : Sto → Prop) (t1 : Hs) (J : It) (l : List D) : Prop := ∀ (i : Nat) (t : Hs) (st : Sto), Up t1 t → StOk G t st → C st → (l.length ≤ i → J.stop i t.h) ∧
  ∀ d, l[i]? = some d → J.go i t.h ∧ ∀ x H', J.yld i t.h x H' → ∃ t', t'.h = H' ∧ Gro t t' ∧ StOk G t' st ∧ Is G t'.as t'.f x d
open Classical in
noncomputable def forPD (n : Nat) (L : List D) (b : D → En → SR) : List D → En → SR
  | [], E => if stLst E.st n = some L then .nx E else .bad
  | x :: xs, E => if stLst E.st n = some L then (match b x E with
    | .nx E' => forPD n L b xs E'
    | .ct E' => forPD n L b xs E'
    | .bk E' => .nx E'
    | r => r) else .bad
noncomputable def sForX (f : En → ER) (t : D → DE → Option DE) (b : En → SR) : En → SR := fun E => match f E with
  | .val _ (.ptr n) st => (match stLst st n with | some l => forPD n l (tgB t b) l ⟨E.e, st⟩ | none => .bad)
  | _ => sFor (dIter f) t b E
def deref (st : Sto) (d : D) : D := match d with
  | .ptr n => (match stLst st n with | some l => .lst l | none => .ptr n)
  | d => d
def oEqX (a b : D) (st : Sto) : ER := oEq (deref st a) (deref st b) st
def oNeX (a b : D) (st : Sto) : ER := oNe (deref st a) (deref st b) st
theorem deref_u {s : Hs} {st : Sto} {v : V} {d : D} (k : StOk G s st) (h : U G s v d) : (∃ n l, d = .ptr n ∧ deref st d = .lst l ∧ ∃ p vs, v = .ref p ∧ s.h p = some (.lst vs) ∧ IsL G s.as s.f vs l) ∨ deref st d = d := by
  cases d with
  | ptr n =>
    have e : deref st (.ptr n) = (match stLst st n with | some l => .lst l | none => .ptr n) := rfl
    cases hl : stLst st n with
    | none => exact .inr (by rw [e, hl])
    | some l =>
      obtain ⟨p, rfl, hp⟩ := h.ptr
      obtain ⟨vs, hh, il⟩ := k.lst hp hl
      exact .inl ⟨n, l, rfl, by rw [e, hl], p, vs, rfl, hh, il⟩
  | _ => exact .inr rfl
theorem dp_x {s : Hs} {st : Sto} {v : V} {d : D} (k : StOk G s st) (q : isPy (deref st d) = true) (h : U G s v d) : Dp G.K s.h v (py (deref st d)) := by
  rcases deref_u k h with ⟨n, l, rfl, e, p, vs, rfl, hh, il⟩ | e
  · rw [e] at q ⊢
    exact .lst (SqL.of hh) (dpL_of k.sf l (by simpa [isPy] using q) il)
  · rw [e] at q ⊢
    exact dp_u k.sf q h
theorem scal_x {s : Hs} {st : Sto} {v w : V} {a b : D} (k : StOk G s st) (h : scalD (deref st a) (deref st b) = true) (hv : U G s v a) (hw : U G s w b) : scal v w = true ∧ decide (v = w) = eqF (deref st a) (deref st b) := by
  rcases deref_u k hv with ⟨n, l, rfl, e, _⟩ | e
  · rw [e] at h; cases hb : deref st b <;> rw [hb] at h <;> cases h
  · rcases deref_u k hw with ⟨n, l, rfl, e2, _⟩ | e2
    · rw [e2] at h; cases ha : deref st a <;> rw [ha] at h <;> cases h
    · rw [e, e2] at h ⊢
      exact scal_of h hv hw
theorem d_eqX : DOp G (rEqA G.K) oEqX := by
  intro W σ s st v w d d' k hv hw Q post
  unfold oEqX oEq eqAny at post
  by_cases h : scalD (deref st d) (deref st d') = true
  · obtain ⟨h1, h2⟩ := scal_x k h hv hw
    rw [if_pos h] at post
    exact .inl ⟨h1, by rw [h2]; exact RPost.now k post (.bl _)⟩
  · rw [if_neg h] at post
    split at post
    · rename_i r hr
      split at hr
      · rename_i q
        cases hr
        exact .inr ⟨_, _, dp_x k q.1 hv, dp_x k q.2.1 hw, q.2.2.1, q.2.2.2, post.now k (.bl _)⟩
      · cases hr
    · exact post.elim
theorem d_neX : DOp G (rNeA G.K) oNeX := by
  intro W σ s st v w d d' k hv hw Q post
  unfold oNeX oNe eqAny at post
  by_cases h : scalD (deref st d) (deref st d') = true
  · obtain ⟨h1, h2⟩ := scal_x k h hv hw
    rw [if_pos h] at post
    exact .inl ⟨h1, by rw [h2]; exact RPost.now k post (.bl _)⟩
  · rw [if_neg h] at post
    split at post
    · rename_i r hr
      split at hr
      · rename_i q
        cases hr
        exact .inr ⟨_, _, dp_x k q.1 hv, dp_x k q.2.1 hw, q.2.2.1, q.2.2.2, post.now k (.bl _)⟩
      · cases hr
    · exact post.elim
end
end Dn
namespace Dn
open PySem PySem.Spec PySem.Calls PyProof.Rows L2
structure OwnM (P : Program) (w : World) (K : PySem.W.Frag) (mg : Str → Option Value) (base : Heap) (G : Gm) (m : Str) (n k : Nat) (c : Nat) (F : List D → Sto → ER) : Prop where
  ex : ∃ (f : Addr) (fd : FuncData) (ps : List Str), Meth K (G.ca c) m f ∧ FnOk P w K mg base (L2.CX P w) k f fd ps (spF G F) ∧ L2.Binds K fd ps [] ∧ ps.length = n
section
variable {X : Cx} {G : Gm} {pins : List (Addr × Obj)} {σ : L2.St} {H : Hp} {s : Shared}
abbrev OwnL := List (Nat × (List D → Sto → ER))
theorem CallR.or {f : Value} {r r' : List V → Hp → VK → Prop} (h : CallR X f r) (h' : CallR X f r') : CallR X f (fun xs H Q => r xs H Q ∨ r' xs H Q) := by
  intro pins s σ H xs us Q I rr z
  rcases z with z | z
  · exact h pins s σ H xs us Q I rr z
  · exact h' pins s σ H xs us Q I rr z
structure NeC (K : PySem.W.Frag) (C : Addr) : Prop where
  ne : PySem.W.findIn K (.ref C) "__ne__" = some (some (.builtin "object.__ne__"))
  mo : PySem.W.mroIn K C (.type "object") = some true
end
def ownF : OwnL → Nat → Option (List D → Sto → ER)
  | [], _ => none
  | (c', F) :: l, c => if c = c' then some F else ownF l c
section
variable {G : Gm} {W : WX}
def asLen : ER → ER
  | .val _ (.int i) st => if 0 ≤ i ∧ i < 2 ^ 63 then .val .P (.int i) st else .bad
  | _ => .bad
def dLenX (Os : OwnL) (f : En → ER) : En → ER := fun E => match f E with
  | .val _ (.ptr n) st => (match stIns st n with
    | some (c, _) => ofOpt (ownF Os c) fun F => asLen (F [.ptr n] st)
    | none => oLen [.ptr n] st)
  | .val _ d st => oLen [d] st
  | .exc c l st => .exc c l st
  | .bad => .bad
def asStr : ER → ER
  | .val _ (.str i) st => .val .P (.str i) st
  | _ => .bad
def asBl (neg : Bool) : ER → ER
  | .val _ (.bl i) st => .val .P (.bl (i != neg)) st
  | _ => .bad
def oInt : List D → Sto → ER
  | [.int i], st => .val .P (.int i) st
  | [.bl b], st => .val .P (.int (if b then 1 else 0)) st
  | [.str a], st => if a.length ≤ 640 then ofOpt (PySem.intText? a) fun n => .val .P (.int n) st else .bad
  | _, _ => .bad
abbrev rIntA : List V → Hp → VK → Prop := fun xs H Q => ((∃ i, xs = [.int i] ∧ Q (.int i) H) ∨ ∃ k, xs = [.bl k] ∧ Q (.int (if k then 1 else 0)) H) ∨ ∃ a n, xs = [.str a] ∧ PySem.intText? a = some n ∧ a.length ≤ 640 ∧ Q (.int n) H
theorem call_intA {X : Cx} : CallR X (.type "int") rIntA := CallR.or call_int1 call_int_str
theorem c_int : DCal G rIntA oInt := by
  refine DCal.one1 (fun _ => rfl) (fun a b l _ => by cases a <;> rfl) fun W σ s st v d k hv Q post => ?_
  cases d <;> try exact post.elim
  case int i => obtain rfl := hv.int; exact .inl (.inl ⟨_, rfl, post.now k (.int _)⟩)
  case bl i => obtain rfl := hv.bl; exact .inl (.inr ⟨_, rfl, post.now k (.int _)⟩)
  case str a =>
    obtain rfl := hv.str
    obtain ⟨h, post⟩ := RPost.cond (a.length ≤ 640) (ofOpt (PySem.intText? a) fun n => .val .P (.int n) st) post
    obtain ⟨n, hn, post⟩ := RPost.opt (PySem.intText? a) (fun n => .val .P (.int n) st) post
    exact .inr ⟨a, n, rfl, hn, h, post.now k (.int _)⟩
def itxt (i : Int) : Str := toString i
def oStr : List D → Sto → ER
  | [.int i], st => if i.natAbs.log2 < 1920 then .val .P (.str (itxt i)) st else .bad
  | [.str a], st => .val .P (.str a) st
  | _, _ => .bad
def dStrX (Os : OwnL) (f : En → ER) : En → ER := fun E => match f E with
  | .val _ (.ptr n) st => (match stIns st n with
    | some (c, _) => ofOpt (ownF Os c) fun F => asStr (F [.ptr n] st)
    | none => .bad)
  | .val _ d st => oStr [d] st
  | .exc c l st => .exc c l st
  | .bad => .bad
structure ClsI (K : PySem.W.Frag) (C : Addr) : Prop where
  cl : Cls K C
  ha : PySem.W.findIn K (.ref C) "__class__" = some (some (.builtin "object.__class__"))
  hn : PySem.W.specialIn K (.builtin "object.__class__") "__get__" = some (some (.builtin "getset_descriptor.__get__"))
  htk : PySem.W.takesIn K (.builtin "object.__class__") = some true
  hm : PySem.W.mroIn K C (.type "object") = some true
def plainTs : List String := ["NoneType", "bool", "int", "str", "tuple", "list"]
def isO (tab : Nat → Option Bool) : D → Sto → ER
  | .ptr n, st => (match stIns st n with | some (c, _) => ofOpt (tab c) fun b => .val .P (.bl b) st | none => (match stLst st n with | some _ => .val .P (.bl false) st | none => .bad))
  | .obj _ _, _ => .bad
  | .scr _, _ => .bad
  | _, st => .val .P (.bl false) st
def dIsO (tab : Nat → Option Bool) (f : En → ER) : En → ER := fun E => (f E).bind (isO tab)
structure IsOk (G : Gm) (C : Addr) (tab : Nat → Option Bool) : Prop where
  ki : ∀ c b, tab c = some b → PySem.W.kitOne G.K (.ref (G.ca c)) (.ref C) = some b
  ci : ∀ c b, tab c = some b → ClsI G.K (G.ca c)
  kt : ∀ T ∈ plainTs, PySem.W.kitOne G.K (.type T) (.ref C) = some false
structure EqOk (G : Gm) (Os : OwnL) (Cs : List Nat) : Prop where
  pt : ∀ x ∈ Os, ∀ T ∈ plainTs, PySem.W.notFirst G.K (G.ca x.1) (.type T) = true
  pc : ∀ x ∈ Os, ∀ c ∈ Cs, PySem.W.notFirst G.K (G.ca x.1) (.ref (G.ca c)) = true
  ci : ∀ c ∈ Cs, ClsI G.K (G.ca c)
def eqArg (Cs : List Nat) : D → Sto → Bool
  | .ptr n, st => (match stIns st n with | some (c, _) => Cs.contains c | none => false)
  | .obj _ _, _ => false
  | .scr _, _ => false
  | _, _ => true
def eqO2 (Os : OwnL) (Cs : List Nat) (neg : Bool) (o : D → D → Sto → ER) (m : Md) (x y : D) (st : Sto) : ER := match x with
  | .ptr n => (match stIns st n with
    | some (c, _) => ofOpt (ownF Os c) fun F => if m ≠ .B ∧ eqArg Cs y st = true then asBl neg (F [.ptr n, y] st) else .bad
    | none => o x y st)
  | _ => o x y st
def dEqO (Os : OwnL) (Cs : List Nat) (neg : Bool) (o : D → D → Sto → ER) (f g : En → ER) : En → ER := fun E => match f E with
  | .val _ x st => (match g ⟨E.e, st⟩ with
    | .val m y st1 => eqO2 Os Cs neg o m x y st1
    | .exc c l st => .exc c l st
    | .bad => .bad)
  | .exc c l st => .exc c l st
  | .bad => .bad
end
end Dn
namespace Dn
open PySem PySem.Spec PyProof.Rows L2
def lexLe (a b : Int × Int) : Bool := !SrtO.lexB b a
def srtP (rs : List (Int × Int)) : List (Int × Int) := rs.mergeSort lexLe
def rowsOf : List D → Option (List (Int × Int))
  | [] => some []
  | .tup [.int a, .int b] :: l => (rowsOf l).map ((a, b) :: ·)
  | _ => none
section
variable {G : Gm} {W : WX}
def oSortedX : List D → Sto → ER
  | [.lst l], st => (match intsOf l with
    | some ns => if ns.length < 64 then .val .N (.lst ((srt ns).map .int)) st else .bad
    | none => ofOpt (rowsOf l) fun rs => .val .N (.lst ((srtP rs).map fun r => .tup [.int r.1, .int r.2])) st)
  | _, _ => .bad
end
end Dn
namespace Dn
open PySem PySem.Spec PyProof.Rows L2
section
variable {G : Gm} {W : WX}
def DMs (G : Gm) (r : V → List V → Hp → VK → Prop) (op : Str → List D → Sto → ER) : Prop :=
  ∀ (W : WX) (σ : L2.St) (s : Hs) (st : Sto) (x : Str) (vs : List V) (ds : List D), StOk G s st → UL G s vs ds → ∀ Q : VK, RPost G W s σ Q (op x ds st) → r (.str x) vs s.h Q
def dMs (op : Str → List D → Sto → ER) (fb : En → ER) (fa : En → AR) : En → ER := fun E => match fb E with
  | .val _ (.str x) st => (match fa ⟨E.e, st⟩ with
    | .ok _ ds st1 => op x ds st1
    | .exc c l st => .exc c l st
    | .bad => .bad)
  | .exc c l st => .exc c l st
  | _ => .bad
theorem v_ms {r : V → List V → Hp → VK → Prop} {op : Str → List D → Sto → ER} {tb : TE} {ta : TA} {fb : En → ER} {fa : En → AR} (hm : DMs G r op) (hb : DEv G W tb fb) (ha : DAr G W ta fa) : DEv G W (tBM G.K "str" r tb ta) (dMs op fb fa) := by
  intro s t σ e st E k Q post
  refine hb s t σ e st E k _ ?_
  unfold dMs at post
  cases q : fb ⟨e, st⟩ with
  | exc c l st1 => rw [q] at post; exact post
  | bad => rw [q] at post; exact post
  | val m d st1 =>
    rw [q] at post
    cases d <;> first | exact post.elim | skip
    rename_i x
    intro t1 v g1 k1 o1
    obtain rfl := o1.u.str
    refine ⟨rfl, ha s t1 σ e st1 (E.up g1) k1 _ ?_⟩
    have post : RPost G W t1 σ Q (match fa ⟨e, st1⟩ with
      | .ok _ ds st1 => op x ds st1
      | .exc c l st => .exc c l st
      | .bad => .bad) := RPost.step g1 k1 post
    cases q2 : fa ⟨e, st1⟩ with
    | ok b ds st2 => rw [q2] at post; exact fun t2 xs g2 k2 _ u2 => hm W σ t2 st2 x xs ds k2 u2 Q (RPost.step g2 k2 post)
    | exc c l st2 => rw [q2] at post; exact post
    | bad => rw [q2] at post; exact post
def strsOf : List D → Option (List Str)
  | [] => some []
  | .str i :: l => (strsOf l).map (i :: ·)
  | _ => none
def seqStrs : D → Sto → Option (List Str)
  | .lst l, _ => strsOf l
  | .tup l, _ => strsOf l
  | .ptr n, st => (stLst st n).bind strsOf
  | _, _ => none
def msJoin (a : Str) (ds : List D) (st : Sto) : ER := match ds with
  | [d] => ofOpt (seqStrs d st) fun ys => if (ys.map (·.length)).sum + ys.length * a.length ≤ 1000000 then .val .P (.str (Txt.join a ys)) st else .bad
  | _ => .bad
def msSplit (a : Str) (ds : List D) (st : Sto) : ER := match ds with
  | [.str b] => if (b.length == 0) = false ∧ a.length + 2 ≤ 1000000 then .val .N (.lst ((Txt.split a b).map .str)) st else .bad
  | _ => .bad
def msPartition (a : Str) (ds : List D) (st : Sto) : ER := match ds with
  | [.str b] => if (b.length == 0) = false ∧ a.length ≤ 1000000 then .val .P (.tup [.str (Txt.partition a b).1, .str (Txt.partition a b).2.1, .str (Txt.partition a b).2.2]) st else .bad
  | _ => .bad
def msCount (a : Str) (ds : List D) (st : Sto) : ER := match ds with
  | [.str b] => .val .P (.int (Txt.count a b)) st
  | _ => .bad
abbrev rCount : V → List V → Hp → VK → Prop := fun x xs H Q => ∃ a b, x = .str a ∧ xs = [.str b] ∧ Q (.int (Txt.count a b)) H
theorem ms_count : DMs G rCount msCount := by
  intro W σ s st a vs ds k u Q post
  unfold msCount at post
  split at post
  · rename_i b
    obtain ⟨v, rfl, hv⟩ := u.one
    obtain rfl := hv.str
    exact ⟨a, b, rfl, rfl, post.now k (.int _)⟩
  · exact post.elim
def dFmt (f : En → ER) : En → ER := fun E => match f E with
  | .val _ (.str y) st => if y.length ≤ 1000000 then .val .P (.str y) st else .bad
  | .val _ (.int i) st => if i.natAbs.log2 < 1920 then .val .P (.str (itxt i)) st else .bad
  | .exc c l st => .exc c l st
  | _ => .bad
inductive DJs (G : Gm) (W : WX) : List TE → List (En → ER) → Prop
  | nil : DJs G W [] []
  | cons {t : TE} {ts : List TE} {f : En → ER} {fs : List (En → ER)} : DEv G W t f → DJs G W ts fs → DJs G W (t :: ts) (f :: fs)
def jsGo : List (En → ER) → Str → DE → Sto → ER
  | [], acc, _, st => .val .P (.str acc) st
  | f :: fs, acc, e, st => match f ⟨e, st⟩ with
    | .val _ (.str y) st1 => if (acc ++ y).length ≤ 1000000 then jsGo fs (acc ++ y) e st1 else .bad
    | .exc c l st => .exc c l st
    | _ => .bad
def dJs (fs : List (En → ER)) : En → ER := fun E => jsGo fs Str.empty E.e E.st
end
end Dn
namespace Dn
open PySem PySem.Spec PyProof.Rows L2
section
variable {G : Gm} {W : WX}
def isTP (T : String) : D → Sto → ER
  | .ptr n, st => (match stLst st n with | some _ => ofOpt (kitB "list" T) fun b => .val .P (.bl b) st | none => .bad)
  | d, st => isT T d st
def dIsiP (T : String) (f : En → ER) : En → ER := fun E => (f E).bind (isTP T)
theorem v_isiP {T : String} {te : TE} {f : En → ER} (h : DEv G W te f) : DEv G W (tCB (rIsi G.K) (tCons te (tCons (tC (.ty T)) tNil))) (dIsiP T f) := by
  intro s t σ e st E k Q post
  refine h s t σ e st E k _ (RPost.bind post fun m d st1 t1 v g1 k1 o1 p1 => ?_)
  have key : ∀ (hd : plainT d) (p1 : RPost G W t1 σ Q (ofOpt (kitB (tyN d) T) fun b => .val .P (.bl b) st1)), rIsi G.K [v, .ty T] t1.h Q := fun hd p1 => by
    obtain ⟨b, hb, p1⟩ := RPost.opt _ _ p1
    exact ⟨v, .ty T, _, _, b, rfl, .ty T, tyX_of k1.sf o1.u hd, kit_ty hb, p1.now k1 (.bl _)⟩
  cases d with
  | ptr n =>
    obtain ⟨a, rfl, hp⟩ := o1.u.ptr
    have p1 : RPost G W t1 σ Q (match stLst st1 n with | some _ => ofOpt (kitB "list" T) fun b => .val .P (.bl b) st1 | none => .bad) := p1
    cases hl : stLst st1 n with
    | none => simp only [hl] at p1; exact p1.elim
    | some l =>
      simp only [hl] at p1
      obtain ⟨vs, hh, il⟩ := k1.lst hp hl
      obtain ⟨b, hb, p1⟩ := RPost.opt _ _ p1
      exact ⟨_, .ty T, _, _, b, rfl, .ty T, .base (.lst hh), kit_ty hb, p1.now k1 (.bl _)⟩
  | obj c l => exact p1.elim
  | scr l => exact p1.elim
  | non => exact key trivial p1
  | bl b => exact key trivial p1
  | int i => exact key trivial p1
  | str x => exact key trivial p1
  | tup l => exact key trivial p1
  | lst l => exact key trivial p1
end
end Dn
namespace Dn
open PySem PySem.Spec PyProof.Rows L2
@[simp] theorem e_oAdd_1 : ∀ i j st, oAdd (.int i) (.int j) st = .val .P (.int (i + j)) st := fun _ _ _ => rfl
@[simp] theorem e_oAdd_2 : ∀ a b st, oAdd (.str a) (.str b) st = if a.length + b.length ≤ 1000000 then .val .P (.str (a ++ b)) st else .bad := fun _ _ _ => rfl
@[simp] theorem e_oAdd_3 : ∀ a b st, oAdd (.lst a) (.lst b) st = if a.length + b.length ≤ 1000000 then .val .N (.lst (a ++ b)) st else .bad := fun _ _ _ => rfl
@[simp] theorem e_oAdd_4 : ∀ a b st, oAdd (.tup a) (.tup b) st = if a.length + b.length ≤ 1000000 then .val .P (.tup (a ++ b)) st else .bad := fun _ _ _ => rfl
@[simp] theorem e_oSub_1 : ∀ i j st, oSub (.int i) (.int j) st = .val .P (.int (i - j)) st := fun _ _ _ => rfl
@[simp] theorem e_oMul_1 : ∀ i j st, oMul (.int i) (.int j) st = if i.natAbs.log2 + j.natAbs.log2 < 1000000 then .val .P (.int (i * j)) st else .bad := fun _ _ _ => rfl
@[simp] theorem e_oMul_2 : ∀ a k st, oMul (.lst a) (.int k) st = if -(2 ^ 63) ≤ k ∧ k < 2 ^ 63 ∧ a.length * k.toNat ≤ 1000000 then .val .N (.lst (List.replicate k.toNat a).flatten) st else .bad := fun _ _ _ => rfl
@[simp] theorem e_oDiv_1 : ∀ i j st, oDiv (.int i) (.int j) st = if j ≠ 0 ∧ j.natAbs.log2 < 9000 then .val .P (.int (i.fdiv j)) st else .bad := fun _ _ _ => rfl
@[simp] theorem e_oMod_1 : ∀ i j st, oMod (.int i) (.int j) st = if j ≠ 0 then .val .P (.int (i.fmod j)) st else .bad := fun _ _ _ => rfl
@[simp] theorem e_oPow_1 : ∀ i j st, oPow (.int i) (.int j) st = if 0 ≤ j ∧ j ≤ 1000000 ∧ i.natAbs < 2 ^ 64 then .val .P (.int (i ^ j.toNat)) st else .bad := fun _ _ _ => rfl
@[simp] theorem e_oCmp_1 {p : Int → Int → Bool} : ∀ i j st, oCmp p (.int i) (.int j) st = .val .P (.bl (p i j)) st := fun _ _ _ => rfl
@[simp] theorem e_oIx_1 : ∀ l i st, oIx (.lst l) (.int i) st = ofOpt (atI l i) fun d => .val .P d st := fun _ _ _ => rfl
@[simp] theorem e_oIx_2 : ∀ l i st, oIx (.tup l) (.int i) st = ofOpt (atI l i) fun d => .val .P d st := fun _ _ _ => rfl
@[simp] theorem e_oIx_3 : ∀ l i st, oIx (.scr l) (.int i) st = ofOpt (atI l i) fun d => .val .P (.int d) st := fun _ _ _ => rfl
@[simp] theorem e_oIx_4 : ∀ z i st, oIx (.str z) (.int i) st = if z.length ≤ 1000000 then ofOpt (atI z.cps.toList i) (fun c => .val .P (.str ⟨#[c]⟩) st) else .bad := fun _ _ _ => rfl
@[simp] theorem e_oIx_5 : ∀ n i st, oIx (.ptr n) (.int i) st = ofOpt (stLst st n) fun l => ofOpt (atI l i) fun d => .val .P d st := fun _ _ _ => rfl
@[simp] theorem e_dVar {i : Nat} {E : En} : dVar i E = match E.e[i]? with
  | some (.val d) => .val .P d E.st
  | some (.own l) => .val .B (.lst l) E.st
  | _ => .bad := rfl
@[simp] theorem e_dC {d : D} {E : En} : dC d E = .val .P d E.st := rfl
@[simp] theorem e_dOp {o : D → D → Sto → ER} {f g : En → ER} {E : En} : dOp o f g E = (f E).bind fun x st => (g ⟨E.e, st⟩).bind fun y st => o x y st := rfl
@[simp] theorem e_dUn {o : D → Sto → ER} {f : En → ER} {E : En} : dUn o f E = (f E).bind o := rfl
@[simp] theorem e_oNeg_1 : ∀ i st, oNeg (.int i) st = .val .P (.int (-i)) st := fun _ _ => rfl
@[simp] theorem e_dAnd {f g : En → ER} {E : En} : dAnd f g E = (f E).bindB fun b st => if b = true then g ⟨E.e, st⟩ else .val .P (.bl false) st := rfl
@[simp] theorem e_dOr {f g : En → ER} {E : En} : dOr f g E = (f E).bindB fun b st => if b = true then .val .P (.bl true) st else g ⟨E.e, st⟩ := rfl
@[simp] theorem e_dNot {f : En → ER} {E : En} : dNot f E = (f E).bindB fun b st => .val .P (.bl (!b)) st := rfl
@[simp] theorem e_dIf {c f g : En → ER} {E : En} : dIf c f g E = (c E).bindB fun b st => if b = true then f ⟨E.e, st⟩ else g ⟨E.e, st⟩ := rfl
@[simp] theorem e_dChain {o o' : D → D → Sto → ER} {f g h : En → ER} {E : En} : dChain o o' f g h E = (f E).bind fun x st => (g ⟨E.e, st⟩).bind fun y st => (o x y st).bindB fun b st => if b = true then (h ⟨E.e, st⟩).bind fun z st => o' y z st else .val .P (.bl false) st := rfl
@[simp] theorem e_aNil {E : En} : aNil  E = .ok true [] E.st := rfl
@[simp] theorem e_aCons {f : En → ER} {g : En → AR} {E : En} : aCons f g E = (f E).cons fun st => g ⟨E.e, st⟩ := rfl
@[simp] theorem e_dTup {f : En → AR} {E : En} : dTup f E = match f E with
  | .ok true l st => if l.length ≤ 1000000 then .val .P (.tup l) st else .bad
  | .exc c l st => .exc c l st
  | _ => .bad := rfl
@[simp] theorem e_dLst {f : En → AR} {E : En} : dLst f E = match f E with
  | .ok true l st => if l.length ≤ 1000000 then .val .N (.lst l) st else .bad
  | .exc c l st => .exc c l st
  | _ => .bad := rfl
@[simp] theorem e_dPut {f : En → ER} {E : En} : dPut f E = match f E with
  | .val .N (.lst l) st => .val .P (.ptr st.length) (st ++ [.lst l])
  | .exc c l st => .exc c l st
  | _ => .bad := rfl
@[simp] theorem e_dCall {F : List D → Sto → ER} {f : En → AR} {E : En} : dCall F f E = match f E with
  | .ok true l st => F l st
  | .exc c l st => .exc c l st
  | _ => .bad := rfl
@[simp] theorem e_dCB {o : List D → Sto → ER} {f : En → AR} {E : En} : dCB o f E = match f E with
  | .ok _ l st => o l st
  | .exc c l st => .exc c l st
  | .bad => .bad := rfl
@[simp] theorem e_oAbs_1 : ∀ i st, oAbs ([.int i]) st = .val .P (.int (if i < 0 then -i else i)) st := fun _ _ => rfl
@[simp] theorem e_oLen_1 : ∀ l st, oLen ([.lst l]) st = .val .P (.int l.length) st := fun _ _ => rfl
@[simp] theorem e_oLen_2 : ∀ l st, oLen ([.tup l]) st = .val .P (.int l.length) st := fun _ _ => rfl
@[simp] theorem e_oLen_3 : ∀ l st, oLen ([.scr l]) st = .val .P (.int l.length) st := fun _ _ => rfl
@[simp] theorem e_oLen_4 : ∀ n st, oLen ([.ptr n]) st = ofOpt (stLst st n) fun l => .val .P (.int l.length) st := fun _ _ => rfl
@[simp] theorem e_oLen_5 : ∀ z st, oLen ([.str z]) st = if z.length ≤ 1000000 then .val .P (.int z.length) st else .bad := fun _ _ => rfl
@[simp] theorem e_oMax2_1 : ∀ i j st, oMax2 ([.int i, .int j]) st = .val .P (.int (if j > i then j else i)) st := fun _ _ _ => rfl
@[simp] theorem e_oMin2_1 : ∀ i j st, oMin2 ([.int i, .int j]) st = .val .P (.int (if j < i then j else i)) st := fun _ _ _ => rfl
@[simp] theorem e_oSum_1 : ∀ l st, oSum ([.lst l]) st = ofOpt (intsOf l) fun ns => .val .P (.int ns.sum) st := fun _ _ => rfl
@[simp] theorem e_oList_1 : ∀ l st, oList ([.lst l]) st = .val .N (.lst l) st := fun _ _ => rfl
@[simp] theorem e_oList_2 : ∀ l st, oList ([.tup l]) st = .val .N (.lst l) st := fun _ _ => rfl
@[simp] theorem e_oList_3 : ∀ l st, oList ([.scr l]) st = .val .N (.lst (l.map .int)) st := fun _ _ => rfl
@[simp] theorem e_oList_4 : ∀ n st, oList ([.ptr n]) st = ofOpt (stLst st n) fun l => .val .N (.lst l) st := fun _ _ => rfl
@[simp] theorem e_oTuple_1 : ∀ l st, oTuple ([.lst l]) st = .val .P (.tup l) st := fun _ _ => rfl
@[simp] theorem e_oTuple_2 : ∀ l st, oTuple ([.tup l]) st = .val .P (.tup l) st := fun _ _ => rfl
@[simp] theorem e_dSl {o : D → Option Int → Option Int → Sto → ER} {f : En → ER} {lo hi : En → Option ER} {E : En} : dSl o f lo hi E = (f E).bind fun x st => ofOpt (partI (lo ⟨E.e, st⟩) st) fun l => ofOpt (partI (hi ⟨E.e, l.2⟩) l.2) fun u => o x l.1 u.1 u.2 := rfl
@[simp] theorem e_sSeq {f g : En → SR} {E : En} : sSeq f g E = (f E).bind g := rfl
@[simp] theorem e_sSet {i : Nat} {f : En → ER} {E : En} : sSet i f E = match f E with
  | .val .P d st => .nx ⟨E.e.set i (.val d), st⟩
  | .val .N (.lst l) st => .nx ⟨E.e.set i (.own l), st⟩
  | .exc c l st => .exc c l ⟨E.e, st⟩
  | _ => .bad := rfl
@[simp] theorem e_sSetF {i : Nat} {f : En → ER} {E : En} : sSetF i f E = match f E with
  | .val .P d st => .nx ⟨E.e.set i (.val d), st⟩
  | .val .N d st => .nx ⟨E.e.set i (.val d), st⟩
  | .exc c l st => .exc c l ⟨E.e, st⟩
  | _ => .bad := rfl
@[simp] theorem e_sAsg {t : D → DE → Option DE} {f : En → ER} {E : En} : sAsg t f E = match f E with
  | .val .B _ _ => .bad
  | .val _ d st => (match t d E.e with | some e' => .nx ⟨e', st⟩ | none => .bad)
  | .exc c l st => .exc c l ⟨E.e, st⟩
  | _ => .bad := rfl
@[simp] theorem e_sPar {i j : Nat} {f : En → AR} {E : En} : sPar i j f E = match f E with
  | .ok true [a, b] st => .nx ⟨(E.e.set i (.val a)).set j (.val b), st⟩
  | .exc c l st => .exc c l ⟨E.e, st⟩
  | _ => .bad := rfl
@[simp] theorem e_sDrop {f : En → ER} {E : En} : sDrop f E = match f E with
  | .val _ _ st => .nx ⟨E.e, st⟩
  | .exc c l st => .exc c l ⟨E.e, st⟩
  | .bad => .bad := rfl
@[simp] theorem e_sRet {f : En → ER} {E : En} : sRet f E = match f E with
  | .val .P d st => .rt .P d st
  | .val .N d st => .rt .N d st
  | .exc c l st => .exc c l ⟨E.e, st⟩
  | _ => .bad := rfl
@[simp] theorem e_sRetV {i : Nat} {E : En} : sRetV i E = match E.e[i]? with
  | some (.val d) => .rt .P d E.st
  | some (.own l) => .rt .N (.lst l) E.st
  | _ => .bad := rfl
@[simp] theorem e_sRetN {E : En} : sRetN  E = .rt .P .non E.st := rfl
@[simp] theorem e_sIf {c : En → ER} {f g : En → SR} {E : En} : sIf c f g E = match c E with
  | .val _ (.bl b) st => if b = true then f ⟨E.e, st⟩ else g ⟨E.e, st⟩
  | .exc c l st => .exc c l ⟨E.e, st⟩
  | _ => .bad := rfl
@[simp] theorem e_sFrz {i : Nat} {g : En → SR} {E : En} : sFrz i g E = g ⟨frz i E.e, E.st⟩ := rfl
@[simp] theorem e_sApp {i : Nat} {f : En → ER} {E : En} : sApp i f E = match E.e[i]? with
  | some (.own l) => (match f E with
    | .val .B _ _ => .bad
    | .val _ d st => if l.length < 1000000 then .nx ⟨E.e.set i (.own (l ++ [d])), st⟩ else .bad
    | .exc c l st => .exc c l ⟨E.e, st⟩
    | .bad => .bad)
  | _ => .bad := rfl
@[simp] theorem e_sSetO {x : Nat} {f fi : En → ER} {E : En} : sSetO x f fi E = match E.e[x]? with
  | some (.own l) => (match f E with
    | .val .B _ _ => .bad
    | .val _ d st => (match fi ⟨E.e, st⟩ with
      | .val _ (.int i) st1 => (match ixN l.length i with | some j => .nx ⟨E.e.set x (.own (l.set j d)), st1⟩ | none => .bad)
      | .exc c l st => .exc c l ⟨E.e, st⟩
      | _ => .bad)
    | .exc c l st => .exc c l ⟨E.e, st⟩
    | .bad => .bad)
  | _ => .bad := rfl
@[simp] theorem e_sSetP {fb f fi : En → ER} {E : En} : sSetP fb f fi E = match f E with
  | .val .B _ _ => .bad
  | .val _ d st => (match fb ⟨E.e, st⟩ with
    | .val _ (.ptr n) st1 => (match fi ⟨E.e, st1⟩ with
      | .val _ (.int i) st2 => (match stLst st2 n with
        | some l => (match ixN l.length i with | some j => .nx ⟨E.e, st2.set n (.lst (l.set j d))⟩ | none => .bad)
        | none => .bad)
      | .exc c l st => .exc c l ⟨E.e, st⟩
      | _ => .bad)
    | .exc c l st => .exc c l ⟨E.e, st⟩
    | _ => .bad)
  | .exc c l st => .exc c l ⟨E.e, st⟩
  | .bad => .bad := rfl
@[simp] theorem e_dIter {f : En → ER} {E : En} : dIter f E = match f E with
  | .val .B _ _ => .bad
  | .val _ d st => (match itemsOf d with | some l => .ok true l st | none => .bad)
  | .exc c l st => .exc c l st
  | .bad => .bad := rfl
@[simp] theorem e_dRng {r : List D → Option (Int × Nat)} {f : En → AR} {E : En} : dRng r f E = match f E with
  | .ok _ l st => (match r l with | some r => .ok true (rangeD r.1 r.2) st | none => .bad)
  | .exc c l st => .exc c l st
  | _ => .bad := rfl
@[simp] theorem e_dEnum {f : En → AR} {E : En} : dEnum f E = match f E with
  | .ok true [.lst l] st => .ok true (enumD 0 l) st
  | .exc c l st => .exc c l st
  | _ => .bad := rfl
@[simp] theorem e_dZip {f : En → AR} {E : En} : dZip f E = match f E with
  | .ok true [.lst l, .lst m] st => .ok true (zipD l m) st
  | .exc c l st => .exc c l st
  | _ => .bad := rfl
@[simp] theorem e_sFor {src : En → AR} {t : D → DE → Option DE} {b : En → SR} {E : En} : sFor src t b E = match src E with
  | .ok _ l st => forD (tgB t b) l ⟨E.e, st⟩
  | .exc c l st => .exc c l ⟨E.e, st⟩
  | .bad => .bad := rfl
@[simp] theorem e_dLc {src : En → AR} {t : D → DE → Option DE} {c f : En → ER} {vs : List Nat} {E : En} : dLc src t c f vs E = match src E with
  | .ok _ l st => if l.length ≤ 1000000 then ofOpt (lcGo (lcStep t c f (wipeE E.e vs)) l st) fun r => .val .N (.lst r.1) r.2 else .bad
  | .exc k l st => .exc k l st
  | .bad => .bad := rfl
@[simp] theorem e_sRaise {c : Nat} {E : En} : sRaise c E = .exc c [] E := rfl
@[simp] theorem e_dCallG {F : List D → Sto → ER} {n m : Nat} {idx : List Nat} {dd : List D} {f g : En → AR} {E : En} : dCallG F n m idx dd f g E = match f E with
  | .ok true l st => (match g ⟨E.e, st⟩ with
    | .ok true z st1 => if l.length = n ∧ z.length = m then F (pickL idx (l ++ z ++ dd)) st1 else .bad
    | .exc c l st => .exc c l st
    | _ => .bad)
  | .exc c l st => .exc c l st
  | _ => .bad := rfl
@[simp] theorem e_dIsi {T : String} {f : En → ER} {E : En} : dIsi T f E = (f E).bind (isT T) := rfl
@[simp] theorem e_sTryAs {i : Nat} {catch? : Nat → Option Bool} {g : En → SR} {h : Nat → List D → En → SR} {E : En} : sTryAs i catch? g h E = match g E with
  | .exc c l E1 => (match catch? c with
    | some true => (match h c l ⟨(clr E1.e).set i .exn, E1.st⟩ with
      | .nx E2 => .nx ⟨(clr E2.e).set i .emp, E2.st⟩
      | .bk E2 => .bk ⟨(clr E2.e).set i .emp, E2.st⟩
      | .ct E2 => .ct ⟨(clr E2.e).set i .emp, E2.st⟩
      | .rt m d st => .rt m d st
      | _ => .bad)
    | some false => .exc c l E1
    | none => .bad)
  | r => r := rfl
@[simp] theorem e_dIsE {i : Nat} {b : Option Bool} {E : En} : dIsE i b E = match E.e[i]? with
  | some .exn => ofOpt b fun b => .val .P (.bl b) E.st
  | _ => .bad := rfl
@[simp] theorem e_dMtP {op : List D → List D → Option (D × List D)} {fb : En → ER} {fa : En → AR} {E : En} : dMtP op fb fa E = match fb E with
  | .val _ (.ptr n) st => (match stLst st n with
    | some _ => (match fa ⟨E.e, st⟩ with
      | .ok true ds st1 => (match stLst st1 n with
        | some l => (match op l ds with | some o => .val .P o.1 (st1.set n (.lst o.2)) | none => .bad)
        | none => .bad)
      | .exc c l st => .exc c l st
      | _ => .bad)
    | none => .bad)
  | .exc c l st => .exc c l st
  | _ => .bad := rfl
@[simp] theorem e_sMtO {j : Option Nat} {op : List D → List D → Option (D × List D)} {i : Nat} {fa : En → AR} {E : En} : sMtO j op i fa E = match E.e[i]? with
  | some (.own l) => (match fa E with
    | .ok true ds st1 => (match op l ds with | some o => .nx ⟨putAt j o.1 (E.e.set i (.own o.2)), st1⟩ | none => .bad)
    | .exc c l st => .exc c l ⟨E.e, st⟩
    | _ => .bad)
  | _ => .bad := rfl
@[simp] theorem e_sMt {op : List D → List D → Option (D × List D)} {i : Nat} {fa : En → AR} {E : En} : sMt op i fa E = match E.e[i]? with
  | some (.own _) => sMtO none op i fa E
  | _ => sDrop (dMtP op (dVar i) fa) E := rfl
@[simp] theorem e_sMtA {j : Nat} {op : List D → List D → Option (D × List D)} {i : Nat} {fa : En → AR} {E : En} : sMtA j op i fa E = match E.e[i]? with
  | some (.own _) => sMtO (some j) op i fa E
  | _ => sSetF j (dMtP op (dVar i) fa) E := rfl
@[simp] theorem e_dFld {ix : Nat → Option Nat} {fe : En → ER} {E : En} : dFld ix fe E = (fe E).bind fun x st => match x with
  | .ptr n => (match stIns st n with
    | some (c, l) => (match ix c with
      | some i => ofOpt l[i]? fun d => .val .P d st
      | none => .bad)
    | none => .bad)
  | _ => .bad := rfl
@[simp] theorem e_sFldS {ix : Nat → Option Nat} {fo fe : En → ER} {E : En} : sFldS ix fo fe E = match fe E with
  | .val .B _ _ => .bad
  | .val _ d st => (match fo ⟨E.e, st⟩ with
    | .val _ (.ptr n) st1 => (match stIns st1 n with
      | some (c, l) => (match ix c with
        | some i => (match putI i d l with
          | some l' => .nx ⟨E.e, st1.set n (.ins c l')⟩
          | none => .bad)
        | none => .bad)
      | none => .bad)
    | .exc c l st => .exc c l ⟨E.e, st⟩
    | _ => .bad)
  | .exc c l st => .exc c l ⟨E.e, st⟩
  | .bad => .bad := rfl
@[simp] theorem e_dMeth {c : Nat} {F : List D → Sto → ER} {n r : Nat} {idx : List Nat} {dd : List D} {fo : En → ER} {fa fk : En → AR} {E : En} : dMeth c F n r idx dd fo fa fk E = (fo E).bind fun x st => match x with
  | .ptr p => (match stIns st p with
    | some (c', _) => if c' = c then (match fa ⟨E.e, st⟩ with
      | .ok true l st1 => (match fk ⟨E.e, st1⟩ with
        | .ok true z st2 => if l.length + 1 = n ∧ z.length = r then F (pickL idx ((.ptr p :: l) ++ z ++ dd)) st2 else .bad
        | .exc c l st => .exc c l st
        | _ => .bad)
      | .exc c l st => .exc c l st
      | _ => .bad) else .bad
    | none => .bad)
  | _ => .bad := rfl
@[simp] theorem e_dAlt {p : En → Bool} {f g : En → ER} {E : En} : dAlt p f g E = if p E = true then f E else g E := rfl
@[simp] theorem e_dMake {c : Nat} {F : List D → Sto → ER} {n r : Nat} {idx : List Nat} {dd : List D} {fa fk : En → AR} {E : En} : dMake c F n r idx dd fa fk E = match fa E with
  | .ok true l st => (match fk ⟨E.e, st⟩ with
    | .ok true z st1 => if l.length + 1 = n ∧ z.length = r then (match F (pickL idx ((.ptr st1.length :: l) ++ z ++ dd)) (st1 ++ [.ins c []]) with
      | .val _ .non st2 => .val .P (.ptr st1.length) st2
      | .exc c l st => .exc c l st
      | _ => .bad) else .bad
    | .exc c l st => .exc c l st
    | _ => .bad)
  | .exc c l st => .exc c l st
  | _ => .bad := rfl
@[simp] theorem e_oAll_1 : ∀ l st, oAll ([.lst l]) st = ofOpt (boolsOf l) fun ns => .val .P (.bl (ns.all id)) st := fun _ _ => rfl
@[simp] theorem e_oAny_1 : ∀ l st, oAny ([.lst l]) st = ofOpt (boolsOf l) fun ns => .val .P (.bl (ns.any id)) st := fun _ _ => rfl
@[simp] theorem e_oRev_1 : ∀ l st, oRev (.lst l) st = .val .N (.lst l.reverse) st := fun _ _ => rfl
@[simp] theorem e_oRev_2 : ∀ n st, oRev (.ptr n) st = ofOpt (stLst st n) fun l => .val .N (.lst l.reverse) st := fun _ _ => rfl
@[simp] theorem e_dRev {f : En → ER} {E : En} : dRev f E = (f E).bind oRev := rfl
@[simp] theorem e_dMtX {op : List D → List D → Option (D × List D)} {fb : En → ER} {fa : En → AR} {E : En} : dMtX op fb fa E = match fb E with
  | .val .N (.lst l) st => (match fa ⟨E.e, st⟩ with
    | .ok true ds st1 => (match op l ds with | some o => .val .P o.1 st1 | none => .bad)
    | .exc c l st => .exc c l st
    | _ => .bad)
  | _ => dMtP op fb fa E := rfl
@[simp] theorem e_oSorted_1 : ∀ l st, oSorted ([.lst l]) st = ofOpt (intsOf l) fun ns => if ns.length < 64 then .val .N (.lst ((srt ns).map .int)) st else .bad := fun _ _ => rfl
@[simp] theorem e_dLr {f : En → ER} {E : En} : dLr f E = match f E with
  | .val _ (.int n) st => if -4611686018427387904 ≤ n ∧ n ≤ 1000000 then .val .N (.lst (rangeD 0 n.toNat)) st else .bad
  | .exc c l st => .exc c l st
  | _ => .bad := rfl
@[simp] theorem e_dHeld {i : Nat} {h : List (Option D) → D → D → Sto → ER} {fa : En → AR} {E : En} : dHeld i h fa E = match E.e[i]? with
  | some (.clo ds) => (match fa E with
    | .ok true [x, y] st => h ds x y st
    | .exc c l st => .exc c l st
    | _ => .bad)
  | _ => .bad := rfl
@[simp] theorem e_dLamC {np : Nat} {q : Str} {N : Nat} {g : En → SR} {f1 : En → ER} {E : En} : dLamC np q N g f1 E = match f1 E with
  | .val .B _ _ => .bad
  | .val _ d1 st => (match st[np]? with
    | some (.tbl q') => if q' = q then valOnly (g ⟨startL N d1 (cloOf E.e), st⟩).ret else .bad
    | _ => .bad)
  | .exc c l st => .exc c l st
  | .bad => .bad := rfl
@[simp] theorem e_dLenX {Os : OwnL} {f : En → ER} {E : En} : dLenX Os f E = match f E with
  | .val _ (.ptr n) st => (match stIns st n with
    | some (c, _) => ofOpt (ownF Os c) fun F => asLen (F [.ptr n] st)
    | none => oLen [.ptr n] st)
  | .val _ d st => oLen [d] st
  | .exc c l st => .exc c l st
  | .bad => .bad := rfl
@[simp] theorem e_oInt_1 : ∀ i st, oInt ([.int i]) st = .val .P (.int i) st := fun _ _ => rfl
@[simp] theorem e_oInt_2 : ∀ b st, oInt ([.bl b]) st = .val .P (.int (if b then 1 else 0)) st := fun _ _ => rfl
@[simp] theorem e_oInt_3 : ∀ a st, oInt ([.str a]) st = if a.length ≤ 640 then ofOpt (PySem.intText? a) fun n => .val .P (.int n) st else .bad := fun _ _ => rfl
@[simp] theorem e_oStr_1 : ∀ i st, oStr ([.int i]) st = if i.natAbs.log2 < 1920 then .val .P (.str (itxt i)) st else .bad := fun _ _ => rfl
@[simp] theorem e_oStr_2 : ∀ a st, oStr ([.str a]) st = .val .P (.str a) st := fun _ _ => rfl
@[simp] theorem e_dStrX {Os : OwnL} {f : En → ER} {E : En} : dStrX Os f E = match f E with
  | .val _ (.ptr n) st => (match stIns st n with
    | some (c, _) => ofOpt (ownF Os c) fun F => asStr (F [.ptr n] st)
    | none => .bad)
  | .val _ d st => oStr [d] st
  | .exc c l st => .exc c l st
  | .bad => .bad := rfl
@[simp] theorem e_dIsO {tab : Nat → Option Bool} {f : En → ER} {E : En} : dIsO tab f E = (f E).bind (isO tab) := rfl
@[simp] theorem e_dEqO {Os : OwnL} {Cs : List Nat} {neg : Bool} {o : D → D → Sto → ER} {f g : En → ER} {E : En} : dEqO Os Cs neg o f g E = match f E with
  | .val _ x st => (match g ⟨E.e, st⟩ with
    | .val m y st1 => eqO2 Os Cs neg o m x y st1
    | .exc c l st => .exc c l st
    | .bad => .bad)
  | .exc c l st => .exc c l st
  | .bad => .bad := rfl
@[simp] theorem e_dMs {op : Str → List D → Sto → ER} {fb : En → ER} {fa : En → AR} {E : En} : dMs op fb fa E = match fb E with
  | .val _ (.str x) st => (match fa ⟨E.e, st⟩ with
    | .ok _ ds st1 => op x ds st1
    | .exc c l st => .exc c l st
    | .bad => .bad)
  | .exc c l st => .exc c l st
  | _ => .bad := rfl
@[simp] theorem e_dFmt {f : En → ER} {E : En} : dFmt f E = match f E with
  | .val _ (.str y) st => if y.length ≤ 1000000 then .val .P (.str y) st else .bad
  | .val _ (.int i) st => if i.natAbs.log2 < 1920 then .val .P (.str (itxt i)) st else .bad
  | .exc c l st => .exc c l st
  | _ => .bad := rfl
@[simp] theorem e_dJs {fs : List (En → ER)} {E : En} : dJs fs E = jsGo fs Str.empty E.e E.st := rfl
@[simp] theorem e_dIsiP {T : String} {f : En → ER} {E : En} : dIsiP T f E = (f E).bind (isTP T) := rfl
@[simp] theorem e_sSkip {E : En} : sSkip E = .nx E := rfl
@[simp] theorem e_sBreak {E : En} : sBreak E = .bk E := rfl
@[simp] theorem e_sCont {E : En} : sCont E = .ct E := rfl
@[simp] theorem cons_P {d : D} {st : Sto} {a : Sto → AR} : (ER.val .P d st).cons a = (a st).cons true d := rfl
@[simp] theorem cons_N {d : D} {st : Sto} {a : Sto → AR} : (ER.val .N d st).cons a = (a st).cons true d := rfl
@[simp] theorem cons_B {d : D} {st : Sto} {a : Sto → AR} : (ER.val .B d st).cons a = (a st).cons false d := rfl
@[simp] theorem cons_exc {k : Nat} {l : List D} {st : Sto} {a : Sto → AR} : (ER.exc k l st).cons a = .exc k l st := rfl
@[simp] theorem cons_bad {a : Sto → AR} : ER.bad.cons a = .bad := rfl
@[simp] theorem acons_ok {p q : Bool} {d : D} {l : List D} {st : Sto} : (AR.ok q l st).cons p d = .ok (p && q) (d :: l) st := rfl
@[simp] theorem acons_exc {p : Bool} {d : D} {k : Nat} {l : List D} {st : Sto} : (AR.exc k l st).cons p d = .exc k l st := rfl
@[simp] theorem acons_bad {p : Bool} {d : D} : AR.bad.cons p d = .bad := rfl
@[simp] theorem e_pickNil {α : Type} {l : List α} : pickL [] l = [] := rfl
@[simp] theorem e_pickCons {α : Type} {k : Nat} {ks : List Nat} {l : List α} : pickL (k :: ks) l = (match l[k]? with | some x => [x] | none => []) ++ pickL ks l := by
  unfold pickL; rw [List.filterMap_cons]; cases l[k]? <;> rfl
@[simp] theorem e_part0 {st : Sto} : partI none st = some (none, st) := rfl
@[simp] theorem e_partI {m : Md} {i : Int} {st st1 : Sto} : partI (some (.val m (.int i) st1)) st = some (some i, st1) := rfl
@[simp] theorem e_tgN {i : Nat} {e : DE} {d : D} : tgN i d e = some (e.set i (.val d)) := rfl
@[simp] theorem e_tgsNil {e : DE} : tgsNil [] e = some e := rfl
@[simp] theorem e_tgsCons {e : DE} {q : D → DE → Option DE} {qs : List D → DE → Option DE} {d : D} {l : List D} : tgsCons q qs (d :: l) e = (q d e).bind (qs l) := rfl
@[simp] theorem e_tgTt {e : DE} {n : Nat} {qs : List D → DE → Option DE} {l : List D} : tgT n qs (.tup l) e = if l.length = n then qs l e else none := rfl
@[simp] theorem e_tgTl {e : DE} {n : Nat} {qs : List D → DE → Option DE} {l : List D} : tgT n qs (.lst l) e = if l.length = n then qs l e else none := rfl
@[simp] theorem e_tgB {E : En} {s : En → SR} {q : D → DE → Option DE} {d : D} : tgB q s d E = match q d E.e with | some e' => s ⟨e', E.st⟩ | none => .bad := rfl
@[simp] theorem e_for0 {b : D → En → SR} {E : En} : forD b [] E = .nx E := rfl
theorem e_forC {b : D → En → SR} {x : D} {xs : List D} {E : En} : forD b (x :: xs) E = match b x E with | .nx e' => forD b xs e' | .ct e' => forD b xs e' | .bk e' => .nx e' | r => r := rfl
@[simp] theorem e_itL {l : List D} : itemsOf (.lst l) = some l := rfl
@[simp] theorem e_itT {l : List D} : itemsOf (.tup l) = some l := rfl
@[simp] theorem e_itS {z : Str} : itemsOf (.str z) = some (z.cps.toList.map fun c => .str ⟨#[c]⟩) := rfl
@[simp] theorem e_itR {l : List Int} : itemsOf (.scr l) = some (l.map .int) := rfl
@[simp] theorem e_rng1 {j : Int} : rng1 [.int j] = if -(2 ^ 62) ≤ j ∧ j < 2 ^ 62 then some (0, j.toNat) else none := rfl
@[simp] theorem e_rng2 {i j : Int} : rng2 [.int i, .int j] = if -(2 ^ 62) ≤ i ∧ i < 2 ^ 62 ∧ -(2 ^ 62) ≤ j ∧ j < 2 ^ 62 then some (i, (j - i).toNat) else none := rfl
@[simp] theorem e_wipe0 {e : DE} : wipeE e [] = e := rfl
@[simp] theorem e_wipeC {e : DE} {v : Nat} {vs : List Nat} : wipeE e (v :: vs) = (wipeE e vs).set v .emp := rfl
@[simp] theorem e_lc0 {k : D → Sto → Option (Option D × Sto)} {st : Sto} : lcGo k [] st = some ([], st) := rfl
theorem e_lcC {k : D → Sto → Option (Option D × Sto)} {d : D} {l : List D} {st : Sto} : lcGo k (d :: l) st = (k d st).bind fun o => (lcGo k l o.2).bind fun r => some (o.1.toList ++ r.1, r.2) := rfl
@[simp] theorem e_lcStep {q : D → DE → Option DE} {c f : En → ER} {e : DE} {d : D} {st : Sto} : lcStep q c f e d st = match q d e with
  | none => none
  | some e2 => (match c ⟨e2, st⟩ with
    | .val _ (.bl b) st1 => if b = true then (match f ⟨e2, st1⟩ with | .val .P y st2 => some (some y, st2) | .val .N y st2 => some (some y, st2) | _ => none) else some (none, st1)
    | _ => none) := rfl
@[simp] theorem e_nilOnly {s : En → SR} {E : En} : nilOnly [] s E = s E := rfl
@[simp] theorem e_clr0 : clr [] = [] := rfl
@[simp] theorem e_clrC {x : SL} {r : DE} : clr (x :: r) = (match x with | .exn => .emp | .clo _ => .emp | s => s) :: clr r := rfl
@[simp] theorem e_ret_nx {E : En} : (SR.nx E).ret = .val .P .non E.st := rfl
@[simp] theorem e_ret_rt {m : Md} {d : D} {st : Sto} : (SR.rt m d st).ret = .val m d st := rfl
@[simp] theorem e_ret_exc {k : Nat} {l : List D} {E : En} : (SR.exc k l E).ret = .exc k l E.st := rfl
@[simp] theorem e_ret_bad : SR.bad.ret = .bad := rfl
@[simp] theorem e_fnD {n m : Nat} {s : En → SR} {ds : List D} {st : Sto} : fnD n m s ds st = if ds.length = n then (s ⟨startE m ds, st⟩).ret else .bad := rfl
@[simp] theorem e_startE {n : Nat} {ds : List D} : startE n ds = ds.map .val ++ List.replicate (n - ds.length) .emp := rfl
@[simp] theorem e_frz {i : Nat} {e : DE} : frz i e = match e[i]? with | some (.own l) => e.set i (.val (.lst l)) | _ => e := rfl
@[simp] theorem e_sSetI {x : Nat} {f fi : En → ER} {E : En} : sSetI x f fi E = match E.e[x]? with | some (.own _) => sSetO x f fi E | _ => sSetP (dVar x) f fi E := rfl
@[simp] theorem e_stLst {st : Sto} {n : Nat} : stLst st n = match st[n]? with | some (.lst l) => some l | _ => none := rfl
@[simp] theorem e_slL {l : List D} {lo hi : Option Int} {st : Sto} : oSl (.lst l) lo hi st = .val .N (.lst (cutG l lo hi)) st := rfl
@[simp] theorem e_slR {l : List Int} {lo hi : Option Int} {st : Sto} : oSl (.scr l) lo hi st = .val .N (.lst ((cutG l lo hi).map .int)) st := rfl
@[simp] theorem e_slS {z : Str} {lo hi : Option Int} {st : Sto} : oSl (.str z) lo hi st = if z.length ≤ 1000000 then .val .P (.str (cutS z lo hi)) st else .bad := rfl
@[simp] theorem e_isN {a : D} {st : Sto} : oIsN a .non st = .val .P (.bl (isNon a)) st := rfl
@[simp] theorem e_notN {a : D} {st : Sto} : oNotN a .non st = .val .P (.bl (!isNon a)) st := rfl
@[simp] theorem isNon_non : isNon .non = true := rfl
@[simp] theorem isNon_int {i : Int} : isNon (.int i) = false := rfl
@[simp] theorem isNon_str {i : Str} : isNon (.str i) = false := rfl
@[simp] theorem isNon_lst {i : List D} : isNon (.lst i) = false := rfl
@[simp] theorem isNon_tup {i : List D} : isNon (.tup i) = false := rfl
@[simp] theorem isNon_obj {c : Nat} {i : List D} : isNon (.obj c i) = false := rfl
@[simp] theorem e_eqI {i j : Int} {st : Sto} : oEq (.int i) (.int j) st = .val .P (.bl (decide (i = j))) st := rfl
@[simp] theorem e_neI {i j : Int} {st : Sto} : oNe (.int i) (.int j) st = .val .P (.bl (!decide (i = j))) st := rfl
@[simp] theorem e_eqS {i j : Str} {st : Sto} : oEq (.str i) (.str j) st = .val .P (.bl (decide (i = j))) st := rfl
@[simp] theorem e_neS {i j : Str} {st : Sto} : oNe (.str i) (.str j) st = .val .P (.bl (!decide (i = j))) st := rfl
theorem kit_ii : kitB "int" "int" = some true := by decide +kernel
theorem kit_ib : kitB "int" "bool" = some false := by decide +kernel
theorem kit_tt : kitB "tuple" "tuple" = some true := by decide +kernel
theorem kit_ll : kitB "list" "list" = some true := by decide +kernel
theorem kit_ss : kitB "str" "str" = some true := by decide +kernel
theorem kit_si : kitB "str" "int" = some false := by decide +kernel
theorem kit_is : kitB "int" "str" = some false := by decide +kernel
theorem kit_ti : kitB "tuple" "int" = some false := by decide +kernel
theorem kit_it : kitB "int" "tuple" = some false := by decide +kernel
@[simp] theorem e_is_ii {i : Int} {st : Sto} : isT "int" (.int i) st = .val .P (.bl true) st := by simp only [isT, tyN, kit_ii, ofOpt_some]
@[simp] theorem e_is_ib {i : Int} {st : Sto} : isT "bool" (.int i) st = .val .P (.bl false) st := by simp only [isT, tyN, kit_ib, ofOpt_some]
@[simp] theorem e_is_tt {l : List D} {st : Sto} : isT "tuple" (.tup l) st = .val .P (.bl true) st := by simp only [isT, tyN, kit_tt, ofOpt_some]
@[simp] theorem e_is_ll {l : List D} {st : Sto} : isT "list" (.lst l) st = .val .P (.bl true) st := by simp only [isT, tyN, kit_ll, ofOpt_some]
@[simp] theorem e_is_ss {l : Str} {st : Sto} : isT "str" (.str l) st = .val .P (.bl true) st := by simp only [isT, tyN, kit_ss, ofOpt_some]
@[simp] theorem e_is_is {i : Int} {st : Sto} : isT "str" (.int i) st = .val .P (.bl false) st := by simp only [isT, tyN, kit_is, ofOpt_some]
@[simp] theorem e_is_it {i : Int} {st : Sto} : isT "tuple" (.int i) st = .val .P (.bl false) st := by simp only [isT, tyN, kit_it, ofOpt_some]
@[simp] theorem e_is_si {l : Str} {st : Sto} : isT "int" (.str l) st = .val .P (.bl false) st := by simp only [isT, tyN, kit_si, ofOpt_some]
@[simp] theorem e_is_ti {l : List D} {st : Sto} : isT "int" (.tup l) st = .val .P (.bl false) st := by simp only [isT, tyN, kit_ti, ofOpt_some]
theorem eqAny_of {a b : D} {r : Bool} {st : Sto} (hs : scalD a b = false) (h1 : isPy a = true) (h2 : isPy b = true) (h3 : SeqAt.shaped (py a) = true) (h4 : SeqAt.shaped (py b) = true) (he : PyData.eqv (py a) (py b) = r) : oEq a b st = .val .P (.bl r) st := by
  unfold oEq eqAny
  rw [if_neg (by rw [hs]; exact Bool.false_ne_true), if_pos ⟨h1, h2, h3, h4⟩, he]
theorem py_ints : ∀ l : List Int, pyL (l.map D.int) = l.map PyData.int
  | [] => rfl
  | i :: l => by simp [pyL, py, py_ints l]
theorem isPy_ints : ∀ l : List Int, isPyL (l.map D.int) = true
  | [] => rfl
  | i :: l => by simp [isPyL, isPy, isPy_ints l]
theorem eqv_ints : ∀ l m : List Int, PyData.eqvAll (l.map PyData.int) (m.map PyData.int) = decide (l = m)
  | [], [] => by simp [PyData.eqvAll]
  | [], _ :: _ => by simp [PyData.eqvAll]
  | _ :: _, [] => by simp [PyData.eqvAll]
  | i :: l, j :: m => by
    simp only [List.map_cons, PyData.eqvAll, PyData.eqv, eqv_ints l m]
    by_cases h : i = j <;> simp [h]
theorem lay_ints : ∀ l : List Int, PyData.canLayAll0 (l.map PyData.int) = true
  | [] => by simp [PyData.canLayAll0]
  | i :: l => by simp [PyData.canLayAll0, PyData.canLay0, lay_ints l]
theorem depth_ints : ∀ l : List Int, PyData.depthAll (l.map PyData.int) = 0
  | [] => by simp [PyData.depthAll]
  | i :: l => by simp [PyData.depthAll, PyData.depth, depth_ints l]
theorem eq_tupInts (l m : List Int) (st : Sto) : oEq (.tup (l.map .int)) (.tup (m.map .int)) st = .val .P (.bl (decide (l = m))) st := by
  refine eqAny_of rfl ?_ ?_ ?_ ?_ ?_
  · simp [isPy, isPy_ints]
  · simp [isPy, isPy_ints]
  · simp [SeqAt.shaped, py, py_ints, PyData.canLay0, PyData.depth, lay_ints, depth_ints]
  · simp [SeqAt.shaped, py, py_ints, PyData.canLay0, PyData.depth, lay_ints, depth_ints]
  · simp [py, py_ints, PyData.eqv, eqv_ints]
@[simp] theorem eq_tup2 {a b c d : Int} {st : Sto} : oEq (.tup [.int a, .int b]) (.tup [.int c, .int d]) st = .val .P (.bl (decide (a = c ∧ b = d))) st := by
  have h := eq_tupInts [a, b] [c, d] st
  simp only [List.map_cons, List.map_nil] at h
  rw [h]
  simp
theorem ne_of_eq {a b : D} {st : Sto} {r : Bool} (h : oEq a b st = .val .P (.bl r) st) : oNe a b st = .val .P (.bl (!r)) st := by
  unfold oEq at h; unfold oNe
  cases q : eqAny a b with
  | none => rw [q] at h; cases h
  | some x => rw [q] at h; cases h; rfl
@[simp] theorem ne_tup2 {a b c d : Int} {st : Sto} : oNe (.tup [.int a, .int b]) (.tup [.int c, .int d]) st = .val .P (.bl (!decide (a = c ∧ b = d))) st := ne_of_eq eq_tup2
@[simp] theorem e_stIns {st : Sto} {n : Nat} : stIns st n = match st[n]? with | some (.ins c l) => some (c, l) | _ => none := rfl
@[simp] theorem e_putI {i : Nat} {d : D} {l : List D} : putI i d l = if i < l.length then some (l.set i d) else if i = l.length then some (l ++ [d]) else none := rfl
@[simp] theorem e_mAppend {l : List D} {d : D} : mAppend l [d] = if l.length < 1000000 then some (.non, l ++ [d]) else none := rfl
@[simp] theorem e_mInsert {l : List D} {i : Int} {d : D} : mInsert l [.int i, d] = if l.length < 1000000 ∧ 0 ≤ i ∧ i < 2 ^ 63 then some (.non, l.take i.toNat ++ [d] ++ l.drop i.toNat) else none := rfl
@[simp] theorem e_mPop {l : List D} : mPop l [] = match l[l.length - 1]? with | some d => some (d, l.dropLast) | none => none := rfl
@[simp] theorem e_mPopAt {l : List D} {i : Int} : mPopAt l [.int i] = if -(2 ^ 63) ≤ i ∧ i < 2 ^ 63 then (match seqIndex? i l.length with | some k => (match l[k]? with | some d => some (d, l.eraseIdx k) | none => none) | none => none) else none := rfl
@[simp] theorem e_mReverse {l : List D} : mReverse l [] = some (.non, l.reverse) := rfl
@[simp] theorem e_putAt0 {d : D} {e : DE} : putAt none d e = e := rfl
@[simp] theorem e_putAt1 {d : D} {e : DE} {j : Nat} : putAt (some j) d e = e.set j (.val d) := rfl
@[simp] theorem e_isC {c : Nat} {fo : En → ER} {E : En} : isC c fo E = match fo E with
  | .val _ (.ptr n) st => (match stIns st n with | some (c', _) => c' == c | none => false)
  | _ => false := rfl
@[simp] theorem e_dIterV {i : Nat} {E : En} : dIterV i E = match E.e[i]? with
  | some (.own l) => .ok false l E.st
  | _ => dIter (dVar i) E := rfl
@[simp] theorem e_mClear {l : List D} : mClear l [] = some (.non, []) := rfl
@[simp] theorem boolsOf_map {α : Type} (f : α → Bool) : ∀ l : List α, boolsOf (l.map fun a => .bl (f a)) = some (l.map f)
  | [] => rfl
  | a :: l => by simp [boolsOf, boolsOf_map f l]
@[simp] theorem e_oIn_1 {a : D} {l : List D} {st : Sto} : oIn a (.lst l) st = ofOpt (inL a l) fun r => .val .P (.bl r) st := rfl
@[simp] theorem e_oIn_2 {a : D} {n : Nat} {st : Sto} : oIn a (.ptr n) st = ofOpt (stLst st n) fun l => ofOpt (inL a l) fun r => .val .P (.bl r) st := rfl
@[simp] theorem e_oNotIn_1 {a : D} {l : List D} {st : Sto} : oNotIn a (.lst l) st = ofOpt (inL a l) fun r => .val .P (.bl (!r)) st := rfl
@[simp] theorem e_oNotIn_2 {a : D} {n : Nat} {st : Sto} : oNotIn a (.ptr n) st = ofOpt (stLst st n) fun l => ofOpt (inL a l) fun r => .val .P (.bl (!r)) st := rfl
@[simp] theorem e_cloOf0 : cloOf [] = [] := rfl
@[simp] theorem e_cloOfC {x : SL} {r : DE} : cloOf (x :: r) = (match x with | .val d => some d | _ => none) :: cloOf r := rfl
@[simp] theorem e_cloE {ds : List (Option D)} {ja jb : Nat} {x y : D} : cloE ds ja jb x y = ((ds.map slO).set ja (.val x)).set jb (.val y) := rfl
@[simp] theorem e_slO1 {d : D} : slO (some d) = .val d := rfl
@[simp] theorem e_slO0 : slO none = .emp := rfl
@[simp] theorem e_startL {n : Nat} {d : D} {ds : List (Option D)} : startL n d ds = .val d :: .clo ds :: List.replicate (n - 2) .emp := rfl
@[simp] theorem e_valOnly {m : Md} {d : D} {st : Sto} : valOnly (.val m d st) = .val m d st := rfl
@[simp] theorem e_sBad {E : En} : sBad E = .bad := rfl
@[simp] theorem e_dBad {E : En} : dBad E = .bad := rfl
@[simp] theorem e_sForX {f : En → ER} {t : D → DE → Option DE} {b : En → SR} {E : En} : sForX f t b E = match f E with
  | .val _ (.ptr n) st => (match stLst st n with | some l => forPD n l (tgB t b) l ⟨E.e, st⟩ | none => .bad)
  | _ => sFor (dIter f) t b E := rfl
@[simp] theorem e_derefL {st : Sto} {l : List D} : deref st (.lst l) = .lst l := rfl
@[simp] theorem e_derefT {st : Sto} {l : List D} : deref st (.tup l) = .tup l := rfl
@[simp] theorem e_derefI {st : Sto} {i : Int} : deref st (.int i) = .int i := rfl
@[simp] theorem e_derefS {st : Sto} {x : Str} : deref st (.str x) = .str x := rfl
@[simp] theorem e_derefB {st : Sto} {x : Bool} : deref st (.bl x) = .bl x := rfl
@[simp] theorem e_derefN {st : Sto} : deref st .non = .non := rfl
@[simp] theorem e_derefP {st : Sto} {n : Nat} : deref st (.ptr n) = (match stLst st n with | some l => .lst l | none => .ptr n) := rfl
@[simp] theorem e_oEqX {a b : D} {st : Sto} : oEqX a b st = oEq (deref st a) (deref st b) st := rfl
@[simp] theorem e_oNeX {a b : D} {st : Sto} : oNeX a b st = oNe (deref st a) (deref st b) st := rfl
@[simp] theorem e_ownF0 {c : Nat} : ownF [] c = none := rfl
@[simp] theorem e_ownFC {c c' : Nat} {F : List D → Sto → ER} {l : OwnL} : ownF ((c', F) :: l) c = if c = c' then some F else ownF l c := rfl
@[simp] theorem e_asLen {m : Md} {i : Int} {st : Sto} : asLen (.val m (.int i) st) = if 0 ≤ i ∧ i < 2 ^ 63 then .val .P (.int i) st else .bad := rfl
@[simp] theorem e_asStr {m : Md} {i : Str} {st : Sto} : asStr (.val m (.str i) st) = .val .P (.str i) st := rfl
@[simp] theorem e_asBl {m : Md} {i n : Bool} {st : Sto} : asBl n (.val m (.bl i) st) = .val .P (.bl (i != n)) st := rfl
@[simp] theorem e_isOP {t : Nat → Option Bool} {n : Nat} {st : Sto} : isO t (.ptr n) st = (match stIns st n with | some (c, _) => ofOpt (t c) fun b => .val .P (.bl b) st | none => (match stLst st n with | some _ => .val .P (.bl false) st | none => .bad)) := rfl
@[simp] theorem e_isON {t : Nat → Option Bool} {st : Sto} : isO t .non st = .val .P (.bl false) st := rfl
@[simp] theorem e_isOI {t : Nat → Option Bool} {i : Int} {st : Sto} : isO t (.int i) st = .val .P (.bl false) st := rfl
@[simp] theorem e_isOB {t : Nat → Option Bool} {i : Bool} {st : Sto} : isO t (.bl i) st = .val .P (.bl false) st := rfl
@[simp] theorem e_isOS {t : Nat → Option Bool} {i : Str} {st : Sto} : isO t (.str i) st = .val .P (.bl false) st := rfl
@[simp] theorem e_isOT {t : Nat → Option Bool} {l : List D} {st : Sto} : isO t (.tup l) st = .val .P (.bl false) st := rfl
@[simp] theorem e_isOL {t : Nat → Option Bool} {l : List D} {st : Sto} : isO t (.lst l) st = .val .P (.bl false) st := rfl
@[simp] theorem e_eqArgP {Cs : List Nat} {n : Nat} {st : Sto} : eqArg Cs (.ptr n) st = (match stIns st n with | some (c, _) => Cs.contains c | none => false) := rfl
@[simp] theorem e_eqArgN {Cs : List Nat} {st : Sto} : eqArg Cs .non st = true := rfl
@[simp] theorem e_eqArgI {Cs : List Nat} {i : Int} {st : Sto} : eqArg Cs (.int i) st = true := rfl
@[simp] theorem e_eqArgB {Cs : List Nat} {i : Bool} {st : Sto} : eqArg Cs (.bl i) st = true := rfl
@[simp] theorem e_eqArgS {Cs : List Nat} {i : Str} {st : Sto} : eqArg Cs (.str i) st = true := rfl
@[simp] theorem e_eqArgT {Cs : List Nat} {i : List D} {st : Sto} : eqArg Cs (.tup i) st = true := rfl
@[simp] theorem e_eqArgL {Cs : List Nat} {i : List D} {st : Sto} : eqArg Cs (.lst i) st = true := rfl
@[simp] theorem e_eqO2P {Os : OwnL} {Cs : List Nat} {neg : Bool} {o : D → D → Sto → ER} {m : Md} {n : Nat} {y : D} {st : Sto} : eqO2 Os Cs neg o m (.ptr n) y st = (match stIns st n with
    | some (c, _) => ofOpt (ownF Os c) fun F => if m ≠ .B ∧ eqArg Cs y st = true then asBl neg (F [.ptr n, y] st) else .bad
    | none => o (.ptr n) y st) := rfl
@[simp] theorem e_eqO2I {Os : OwnL} {Cs : List Nat} {neg : Bool} {o : D → D → Sto → ER} {m : Md} {i : Int} {y : D} {st : Sto} : eqO2 Os Cs neg o m (.int i) y st = o (.int i) y st := rfl
@[simp] theorem e_eqO2L {Os : OwnL} {Cs : List Nat} {neg : Bool} {o : D → D → Sto → ER} {m : Md} {i : List D} {y : D} {st : Sto} : eqO2 Os Cs neg o m (.lst i) y st = o (.lst i) y st := rfl
@[simp] theorem e_rowsOf {α : Type} {f g : α → Int} : ∀ l : List α, rowsOf (l.map fun a => .tup [.int (f a), .int (g a)]) = some (l.map fun a => (f a, g a))
  | [] => rfl
  | a :: l => by simp only [List.map_cons, rowsOf, e_rowsOf l]; rfl
@[simp] theorem e_strsOf {α : Type} {f : α → Str} : ∀ l : List α, strsOf (l.map fun a => .str (f a)) = some (l.map f)
  | [] => rfl
  | a :: l => by simp only [List.map_cons, strsOf, e_strsOf l]; rfl
@[simp] theorem e_seqL {l : List D} {st : Sto} : seqStrs (.lst l) st = strsOf l := rfl
@[simp] theorem e_seqT {l : List D} {st : Sto} : seqStrs (.tup l) st = strsOf l := rfl
@[simp] theorem e_seqP {n : Nat} {st : Sto} : seqStrs (.ptr n) st = (stLst st n).bind strsOf := rfl
@[simp] theorem e_js0 {a : Str} {e : DE} {st : Sto} : jsGo [] a e st = .val .P (.str a) st := rfl
@[simp] theorem e_jsC {f : En → ER} {fs : List (En → ER)} {acc : Str} {e : DE} {st : Sto} : jsGo (f :: fs) acc e st = match f ⟨e, st⟩ with
    | .val _ (.str y) st1 => if (acc ++ y).length ≤ 1000000 then jsGo fs (acc ++ y) e st1 else .bad
    | .exc c l st => .exc c l st
    | _ => .bad := rfl
@[simp] theorem e_oSortedX {l : List D} {st : Sto} : oSortedX [.lst l] st = (match intsOf l with
    | some ns => if ns.length < 64 then .val .N (.lst ((srt ns).map .int)) st else .bad
    | none => ofOpt (rowsOf l) fun rs => .val .N (.lst ((srtP rs).map fun r => .tup [.int r.1, .int r.2])) st) := rfl
@[simp] theorem e_msJoin {a : Str} {d : D} {st : Sto} : msJoin a [d] st = ofOpt (seqStrs d st) fun ys => if (ys.map (·.length)).sum + ys.length * a.length ≤ 1000000 then .val .P (.str (Txt.join a ys)) st else .bad := rfl
@[simp] theorem e_msSplit {a b : Str} {st : Sto} : msSplit a [.str b] st = if (b.length == 0) = false ∧ a.length + 2 ≤ 1000000 then .val .N (.lst ((Txt.split a b).map .str)) st else .bad := rfl
@[simp] theorem e_msPartition {a b : Str} {st : Sto} : msPartition a [.str b] st = if (b.length == 0) = false ∧ a.length ≤ 1000000 then .val .P (.tup [.str (Txt.partition a b).1, .str (Txt.partition a b).2.1, .str (Txt.partition a b).2.2]) st else .bad := rfl
@[simp] theorem e_msCount {a b : Str} {st : Sto} : msCount a [.str b] st = .val .P (.int (Txt.count a b)) st := rfl
@[simp] theorem e_isTPp {T : String} {n : Nat} {st : Sto} : isTP T (.ptr n) st = (match stLst st n with | some _ => ofOpt (kitB "list" T) fun b => .val .P (.bl b) st | none => .bad) := rfl
@[simp] theorem e_isTPl {T : String} {l : List D} {st : Sto} : isTP T (.lst l) st = isT T (.lst l) st := rfl
@[simp] theorem e_isTPt {T : String} {l : List D} {st : Sto} : isTP T (.tup l) st = isT T (.tup l) st := rfl
end Dn
namespace Dn
open PySem PySem.Spec PyProof.Rows L2
def sThru (g : En → SR) : En → SR := fun E => match g E with
  | .exc _ _ _ => .bad
  | r => r
@[simp] theorem e_sThru {g : En → SR} {E : En} : sThru g E = match g E with
  | .exc _ _ _ => .bad
  | r => r := rfl
end Dn
namespace Dn
open PySem PySem.Spec PyProof.Rows L2
section
variable {G : Gm} {W : WX}
def sSwI (x : Nat) (f : En → ER) (f1 f2 : En → ER) : En → SR := fun E => match f E with
  | .val .P (.tup [a, b]) st => (match E.e[x]? with
    | some (.own l) => (match f1 ⟨E.e, st⟩ with
      | .val _ (.int i) st1 => (match ixN l.length i with
        | some j => (match f2 ⟨E.e.set x (.own (l.set j a)), st1⟩ with
          | .val _ (.int i2) st2 => (match ixN l.length i2 with
            | some j2 => .nx ⟨(E.e.set x (.own (l.set j a))).set x (.own ((l.set j a).set j2 b)), st2⟩
            | none => .bad)
          | _ => .bad)
        | none => .bad)
      | _ => .bad)
    | _ => .bad)
  | .exc c l st => .exc c l ⟨E.e, st⟩
  | _ => .bad
@[simp] theorem e_sSwI {x : Nat} {f f1 f2 : En → ER} {E : En} : sSwI x f f1 f2 E = match f E with
  | .val .P (.tup [a, b]) st => (match E.e[x]? with
    | some (.own l) => (match f1 ⟨E.e, st⟩ with
      | .val _ (.int i) st1 => (match ixN l.length i with
        | some j => (match f2 ⟨E.e.set x (.own (l.set j a)), st1⟩ with
          | .val _ (.int i2) st2 => (match ixN l.length i2 with
            | some j2 => .nx ⟨(E.e.set x (.own (l.set j a))).set x (.own ((l.set j a).set j2 b)), st2⟩
            | none => .bad)
          | _ => .bad)
        | none => .bad)
      | _ => .bad)
    | _ => .bad)
  | .exc c l st => .exc c l ⟨E.e, st⟩
  | _ => .bad := rfl
end
end Dn
namespace L2
open PySem PySem.Spec PyProof.Rows
end L2
namespace Dn
open PySem PySem.Spec PyProof.Rows L2
section
variable {G : Gm} {W : WX}
def cntL (d : D) (l : List D) : Option Nat := if isPy d = true ∧ isPyL l = true ∧ SeqAt.shaped (py d) = true ∧ SeqAt.shaped (.list (pyL l)) = true then some ((pyL l).countP fun z => PyData.eqv z (py d)) else none
def dCnt (fb : En → ER) (fa : En → AR) : En → ER := fun E => match fb E with
  | .val _ (.lst l) st => (match fa ⟨E.e, st⟩ with
    | .ok _ [d] st1 => ofOpt (cntL d l) fun n => .val .P (.int (n : Nat)) st1
    | .exc c l st => .exc c l st
    | _ => .bad)
  | .exc c l st => .exc c l st
  | _ => .bad
@[simp] theorem e_dCnt {fb : En → ER} {fa : En → AR} {E : En} : dCnt fb fa E = match fb E with
  | .val _ (.lst l) st => (match fa ⟨E.e, st⟩ with
    | .ok _ [d] st1 => ofOpt (cntL d l) fun n => .val .P (.int (n : Nat)) st1
    | .exc c l st => .exc c l st
    | _ => .bad)
  | .exc c l st => .exc c l st
  | _ => .bad := rfl
def oInT (a b : D) (st : Sto) : ER := match a, b with
  | .str x, .tup l => ofOpt (strsOf l) fun ys => .val .P (.bl (inV (.str x) (ys.map V.str))) st
  | _, _ => .bad
@[simp] theorem e_oInT {x : Str} {l : List D} {st : Sto} : oInT (.str x) (.tup l) st = ofOpt (strsOf l) fun ys => .val .P (.bl (inV (.str x) (ys.map V.str))) st := rfl
end
end Dn
namespace Dn
open PySem PySem.Spec PyProof.Rows L2
def pickN (n : Nat) (lo hi : Option Int) (c : Int) : List Nat := sliceRange (sliceBounds lo hi (some c) n).1 (sliceBounds lo hi (some c) n).2.1 (sliceBounds lo hi (some c) n).2.2
def stepG {α : Type} (l : List α) (lo hi : Option Int) (c : Int) : List α := (pickN l.length lo hi c).filterMap (l[·]?)
section
variable {G : Gm} {W : WX}
def dStp (c : Int) (f : En → ER) (lo hi : En → Option ER) : En → ER := fun E => (f E).bind fun x st => ofOpt (partI (lo ⟨E.e, st⟩) st) fun l => ofOpt (partI (hi ⟨E.e, l.2⟩) l.2) fun u => match x with
  | .lst xs => if (stepG xs l.1 u.1 c).length ≤ xs.length then .val .N (.lst (stepG xs l.1 u.1 c)) u.2 else .bad
  | _ => .bad
@[simp] theorem e_dStp {c : Int} {f : En → ER} {lo hi : En → Option ER} {E : En} : dStp c f lo hi E = (f E).bind fun x st => ofOpt (partI (lo ⟨E.e, st⟩) st) fun l => ofOpt (partI (hi ⟨E.e, l.2⟩) l.2) fun u => match x with
  | .lst xs => if (stepG xs l.1 u.1 c).length ≤ xs.length then .val .N (.lst (stepG xs l.1 u.1 c)) u.2 else .bad
  | _ => .bad := rfl
end
def rIndex1 : V → List V → Hp → VK → Prop := fun x xs H Q => ∃ a b k, x = .str a ∧ xs = [.str b] ∧ Txt.index0 a b = some k ∧ Q (.int (k : Nat)) H
theorem mt_index1 {X : Cx} : MtR X "str.index" rIndex1 := by
  intro pins s σ H x xs v us Q I rx rs h
  obtain ⟨a, b, k, rfl, rfl, hk, q⟩ := h
  obtain ⟨t, rfl⟩ := rx
  cases rs with
  | cons r1 rs =>
    cases rs
    obtain ⟨u, rfl⟩ := r1
    unfold Txt.index0 at hk
    cases e : Builtin.Str.occurrences a b 0 a.length 1 with
    | nil => rw [e] at hk; cases hk
    | cons j rest =>
      rw [e] at hk
      cases hk
      exact PySem.SC.index e ⟨.int (k : Nat), H, I.tok _, ⟨_, rfl⟩, q⟩
section
variable {G : Gm} {W : WX}
def msIndex (a : Str) (ds : List D) (st : Sto) : ER := match ds with
  | [.str b] => ofOpt (Txt.index0 a b) fun k => .val .P (.int (k : Nat)) st
  | _ => .bad
theorem ms_index : DMs G rIndex1 msIndex := by
  intro W σ s st a vs ds k u Q post
  unfold msIndex at post
  split at post
  · rename_i b
    obtain ⟨v, rfl, hv⟩ := u.one
    obtain rfl := hv.str
    obtain ⟨j, h1, post⟩ := RPost.opt _ _ post
    exact ⟨a, b, j, rfl, rfl, h1, post.now k (.int _)⟩
  · exact post.elim
@[simp] theorem e_msIndex {a b : Str} {st : Sto} : msIndex a [.str b] st = ofOpt (Txt.index0 a b) fun k => .val .P (.int (k : Nat)) st := rfl
end
def rGetL : V → V → Hp → VK → Prop := fun x y H Q => ∃ p xs i v, x = .ref p ∧ y = .int i ∧ 0 ≤ i ∧ H p = some (.lst xs) ∧ atI xs i = some v ∧ Q v H
theorem get_list {X : Cx} : PGet X rGetL := by
  intro pins s σ H x y v u Q I rx ry h
  obtain ⟨p, xs, i, z, rfl, rfl, h0, hq, he, q⟩ := h
  cases rx
  obtain ⟨t, rfl⟩ := ry
  obtain ⟨its, r, pl, hz⟩ := I.list (SqL.of hq)
  obtain ⟨j, h1, h2, h3, h4, h5⟩ := atI_get he
  obtain ⟨w, ew, rw'⟩ := r.get h2
  have hl := r.length
  have hn := line63
  have fin : EP X pins σ Q w s := ⟨z, H, I, rw', q⟩
  have hj : i.toNat = j := by
    rw [seqIndex_of h0 h5] at h1
    exact Option.some.inj h1
  exact wpAny_getItem_list pl.isList h0 (by omega) (by rw [hj]; simpa using ew) fin
section
variable {G : Gm} {W : WX}
def sAugO (x : Nat) (o : Int → Int → Int) (fi fe : En → ER) : En → SR := fun E => match E.e[x]? with
  | some (.own l) => (match fi E with
    | .val _ (.int i) st1 => if 0 ≤ i then (match ixN l.length i with
      | some j => (match l[j]? with
        | some (.int a) => (match fe ⟨E.e, st1⟩ with
          | .val _ (.int b) st2 => .nx ⟨E.e.set x (.own (l.set j (.int (o a b)))), st2⟩
          | _ => .bad)
        | _ => .bad)
      | none => .bad) else .bad
    | _ => .bad)
  | _ => .bad
theorem ixN_at {α : Type} {l : List α} {i : Int} {j : Nat} {a : α} (h : ixN l.length i = some j) (ha : l[j]? = some a) : atI l i = some a := by
  unfold atI; rw [h]; exact ha
@[simp] theorem e_sAugO {x : Nat} {o : Int → Int → Int} {fi fe : En → ER} {E : En} : sAugO x o fi fe E = match E.e[x]? with
  | some (.own l) => (match fi E with
    | .val _ (.int i) st1 => if 0 ≤ i then (match ixN l.length i with
      | some j => (match l[j]? with
        | some (.int a) => (match fe ⟨E.e, st1⟩ with
          | .val _ (.int b) st2 => .nx ⟨E.e.set x (.own (l.set j (.int (o a b)))), st2⟩
          | _ => .bad)
        | _ => .bad)
      | none => .bad) else .bad
    | _ => .bad)
  | _ => .bad := rfl
end
def IteS (x : Str) : It :=
  ⟨fun i _ => i < x.cps.size, fun i H v H' => ∃ T c, v = .ref T ∧ H T = none ∧ H' = upd H T (.tup [.int (i : Nat), .str ⟨#[c]⟩]) ∧ x.cps[i]? = some c, fun i _ => x.cps.size ≤ i⟩
theorem draws_str {P : Program} {w : World} {A : Around} (hh : A.handled = none) (it : Addr) (x : Str) (t : Tok) :
    Draws P w A it [it] x.cps.size (fun i v => ∃ c u, x.cps[i]? = some c ∧ v = .str ⟨#[c]⟩ u) (fun i h => h.IsStrIter it (strIterType x) x t i) := by
  unfold strIterType
  split
  · exact Draws.strAscii hh it x t
  · exact Draws.strWide hh it x t
theorem turn_enumS {P : Program} {w : World} {K : PySem.W.Frag} {elts : List Expr} {kk : Nat} {tpos : Pos} (e it : Addr) (x : Str) (t : Tok) :
    Turn P w K (.Tuple elts kk tpos) (IteS x) [e, it] e (fun i h => (∃ old, IsEnum h e it ((i : Nat) : Int) old) ∧ h.IsStrIter it (strIterType x) x t i ∧ e ≠ it ∧ i ≤ x.cps.size) where
  mem := by simp
  obj := fun i h st b hb => by
    obtain ⟨⟨old, he⟩, ⟨o, ho, hc, hd⟩, _⟩ := st
    have e' : b = e ∨ b = it := by simpa using hb
    rcases e' with z | z
    · rw [z]; exact ⟨_, he, fun v q => nomatch q⟩
    · rw [z]; exact ⟨o, ho, fun v q => by rw [hd] at q; cases q⟩
  keep := fun i h h' st k => let ⟨⟨old, he⟩, ⟨o, ho, r⟩, hne⟩ := st; ⟨⟨old, k e (by simp) _ he⟩, ⟨o, k it (by simp) o ho, r⟩, hne⟩
  item := by
    intro X hP hw hK hc i pins s σ H E I hf st hg
    subst hP hw hK
    obtain ⟨⟨old, he⟩, hit, hne, hile⟩ := st
    have hel : e < s.heap.objs.size := Heap.lt_size he
    have hil : it < s.heap.objs.size := by obtain ⟨_, q, _⟩ := hit; exact Heap.lt_size q
    have D := draws_str (P := X.prog) (w := X.w) (A := X.A.in1) (I.ok.hd hc) it x t
    refine wpAny_pyNext_enum_itemD D he hit hg hne (by simp [hne]) fun v h' tk hv ho hit' hT hsz hk => ?_
    obtain ⟨c, u, hcx, rfl⟩ := hv
    refine ⟨_, rfl, wpAny_letOwnedTupleGo_enum (s := { s with heap := h', toks := tk + 1 }) ho fun h'' he' sb => ?_⟩
    have hT2 : h''.get? s.heap.objs.size = some { cls := .type "tuple", data := .seq #[.int i tk, .str ⟨#[c]⟩ u] } := (sb.2 _ (Nat.ne_of_gt hel)).trans hT
    have new : ObjOk X.prog X.w (upd H s.heap.objs.size (.tup [.int (i : Nat), .str ⟨#[c]⟩])) h'' s.heap.objs.size (.tup [.int (i : Nat), .str ⟨#[c]⟩]) :=
      ⟨by show 2 ≤ sizeLine; decide, [.int i tk, .str ⟨#[c]⟩ u], .cons ⟨_, rfl⟩ (.cons ⟨_, rfl⟩ .nil), ⟨_, hT2, rfl, _, rfl⟩⟩
    have I1 : Inv X pins σ (upd H s.heap.objs.size (.tup [.int (i : Nat), .str ⟨#[c]⟩])) { s with heap := h'', toks := tk + 1 } :=
      I.turnedNew (ch := [e, it]) (fun b ob hb q => (sb.2 b (fun z => hb (by simp [z]))).trans (hk b ob (fun z => hb (by simp [z])) (fun z => hb (by simp [z])) q)) hf (Nat.le_refl _) new
    refine ⟨.ref s.heap.objs.size, _, I1, rfl, ⟨_, c, rfl, I.hok.fresh (Nat.le_refl _), rfl, hcx⟩, ⟨⟨.str ⟨#[c]⟩ u, ?_⟩, ?_, hne, hg⟩, fun b hb => ?_⟩
    · have e1 : ((i + 1 : Nat) : Int) = (i : Int) + 1 := by omega
      rw [e1]; exact he'
    · obtain ⟨o, ho, r⟩ := hit'
      exact ⟨o, (sb.2 it (Ne.symm hne)).trans ho, r⟩
    · have hb' : b < s.heap.objs.size := by
        have e' : b = e ∨ b = it := by simpa using hb
        rcases e' with z | z
        · rw [z]; exact hel
        · rw [z]; exact hil
      rw [upd_ne (Nat.ne_of_lt hb')]
      exact (hf b hb).1
  done := by
    intro X hP hw hK hc i pins s σ H E I hf st hg
    subst hP hw hK
    obtain ⟨⟨old, he⟩, hit, hne, hile⟩ := st
    obtain ⟨f0, f1, f2, f3, f4, f5⟩ := hf it (by simp)
    have D := draws_str (P := X.prog) (w := X.w) (A := X.A.in1) (I.ok.hd hc) it x t
    have hit' : s.heap.IsStrIter it (strIterType x) x t x.cps.size := by
      have : i = x.cps.size := Nat.le_antisymm hile hg
      rw [← this]; exact hit
    exact wpAny_pyNext_enum_endD D he hit' fun h' eb => ⟨rfl, I.turned (t' := s.toks) (fun b o hb q => eb b o hb q) f0 f1 f3 f4 f5⟩
  self := fun A i s Q E st h => let ⟨⟨_, he⟩, _⟩ := st; wpAny_pyIter_enum he h
def iEnumS (ta : TA) : TI := fun σ H R => ta σ H fun vs H1 => ∃ x, vs = [.str x] ∧ R (IteS x) H1
theorem pi_enumS {X : Cx} {e : Expr} {ta : TA} {p pos tpos : Pos} {elts : List Expr} {kk : Nat} (hg : Gl X "enumerate") (hm : X.mg "enumerate" = none) (ha : PA X [e] ta) (hs : starEach [e] X.env = [(false, eval e X.env)] := by rfl) :
    PI X (.Tuple elts kk tpos) (.Call (.Name "enumerate" p) [e] [] pos) (iEnumS ta) := by
  refine ⟨fun pins s σ H R I h => ?_⟩
  refine Call_ (ld_blt I hg hm boot_enumerate (PyProof.Rows.callWith_type1 (thn (ha.run pos pins s σ H _ I h) fun us s1 ⟨vs, H1, I1, r1, q1⟩ => ?_) hs rfl))
  obtain ⟨x, ex, q⟩ := q1
  subst ex
  cases r1 with
  | cons r rr =>
    cases rr
    obtain ⟨t, rfl⟩ := r
    refine call_enumerate_str fun h' he hit hsz hk => wpAny_pyIter_enum he ?_
    have I2 : Inv X pins σ H1 { s1 with heap := h' } := I1.kept (t' := s1.toks) hk
    refine ⟨s1.heap.objs.size + 1, [s1.heap.objs.size + 1, s1.heap.objs.size], _, _, H1, rfl, I2, turn_enumS (s1.heap.objs.size + 1) s1.heap.objs.size x t, ⟨⟨.none, he⟩, hit, Nat.succ_ne_self _, Nat.zero_le _⟩, fun b hb => ?_, q⟩
    have e' : b = s1.heap.objs.size + 1 ∨ b = s1.heap.objs.size := by simpa using hb
    have hle : s1.heap.objs.size ≤ b := by
      rcases e' with z | z
      · rw [z]; exact Nat.le_add_right _ _
      · rw [z]; exact Nat.le_refl _
    exact I1.fpOk hle (I1.hok.fresh hle)
section
variable {G : Gm} {W : WX}
theorem it_enumS {t1 : Hs} (z : Str) : ItOk G t1 (IteS z) (enumD 0 (z.cps.toList.map fun c => .str ⟨#[c]⟩)) := by
  intro i t st u k
  refine ⟨fun hi => by (show z.cps.size ≤ i); rw [enumD_len] at hi; simpa using hi, fun d hd => ?_⟩
  obtain ⟨x, h1, rfl⟩ := enumD_get hd
  rw [List.getElem?_map] at h1
  cases q : z.cps.toList[i]? with
  | none => rw [q] at h1; cases h1
  | some c =>
    rw [q] at h1
    cases h1
    have hi : i < z.cps.size := by
      have := (List.getElem?_eq_some_iff.mp q).1
      simpa using this
    refine ⟨hi, fun y H' w => ?_⟩
    obtain ⟨T, c', rfl, hT, rfl, hc⟩ := w
    have : z.cps[i]? = some c := by rw [← Array.getElem?_toList]; exact q
    rw [this] at hc; cases hc
    refine ⟨⟨t.as, upd t.f T _, upd t.h T _⟩, rfl, Gro.new k hT, k.grow hT, .tup (SqT.of upd_same) (.cons ?_ (.cons (.str _) .nil))⟩
    rw [Nat.zero_add]
    exact .int _
def dEnumS (f : En → AR) : En → AR := fun E => match f E with
  | .ok _ [.str z] st => .ok true (enumD 0 (z.cps.toList.map fun c => .str ⟨#[c]⟩)) st
  | .exc c l st => .exc c l st
  | _ => .bad
theorem i_enumS {ta : TA} {f : En → AR} (h : DAr G W ta f) : DIt G W (iEnumS ta) (dEnumS f) := by
  intro s t σ e st E k R post
  refine h s t σ e st E k _ ?_
  unfold dEnumS at post
  cases q : f ⟨e, st⟩ with
  | ok p l st1 =>
    rw [q] at post
    match l, post with
    | [], post => exact post.elim
    | [d], post =>
      cases d <;> first | exact post.elim | skip
      intro t' vs g k' i0 u0
      obtain ⟨v, rfl, hv⟩ := u0.one
      obtain rfl := hv.str
      exact ⟨_, rfl, post t' _ g k' (it_enumS _)⟩
    | a :: b :: l, post => cases a <;> exact post.elim
  | exc c l st1 => rw [q] at post; exact post
  | bad => rw [q] at post; exact post
@[simp] theorem e_dEnumS {f : En → AR} {E : En} : dEnumS f E = match f E with
  | .ok _ [.str z] st => .ok true (enumD 0 (z.cps.toList.map fun c => .str ⟨#[c]⟩)) st
  | .exc c l st => .exc c l st
  | _ => .bad := rfl
end
section
variable {G : Gm} {W : WX}
def oListS : List D → Sto → ER
  | [.str x], st => if x.length ≤ 1000000 then .val .N (.lst (x.cps.toList.map fun c => .str ⟨#[c]⟩)) st else .bad
  | _, _ => .bad
@[simp] theorem e_oListS {x : Str} {st : Sto} : oListS [.str x] st = if x.length ≤ 1000000 then .val .N (.lst (x.cps.toList.map fun c => .str ⟨#[c]⟩)) st else .bad := rfl
end
section
variable {G : Gm} {W : WX}
def oMulS : D → D → Sto → ER
  | .str a, .int n, st => if 0 ≤ n ∧ n ≤ 1000 ∧ a.length ≤ 1000 then .val .P (.str (Txt.mul a n)) st else .bad
  | _, _, _ => .bad
@[simp] theorem e_oMulS {a : Str} {n : Int} {st : Sto} : oMulS (.str a) (.int n) st = if 0 ≤ n ∧ n ≤ 1000 ∧ a.length ≤ 1000 then .val .P (.str (Txt.mul a n)) st else .bad := rfl
end
end Dn
namespace Dn
open PySem PySem.Spec PyProof.Rows L2
section
variable {G : Gm} {W : WX}
def sTryO (catch? : Nat → Option Bool) (g : En → SR) (h : En → SR) : En → SR := fun E => match g E with
  | .exc c l E1 => (match catch? c with
    | some true => (match h ⟨clr E1.e, E1.st⟩ with
      | .nx E2 => .nx ⟨clr E2.e, E2.st⟩
      | .bk E2 => .bk ⟨clr E2.e, E2.st⟩
      | .ct E2 => .ct ⟨clr E2.e, E2.st⟩
      | .rt m d st => .rt m d st
      | _ => .bad)
    | some false => .exc c l E1
    | none => .bad)
  | r => r
@[simp] theorem e_sTryO {catch? : Nat → Option Bool} {g h : En → SR} {E : En} : sTryO catch? g h E = match g E with
  | .exc c l E1 => (match catch? c with
    | some true => (match h ⟨clr E1.e, E1.st⟩ with
      | .nx E2 => .nx ⟨clr E2.e, E2.st⟩
      | .bk E2 => .bk ⟨clr E2.e, E2.st⟩
      | .ct E2 => .ct ⟨clr E2.e, E2.st⟩
      | .rt m d st => .rt m d st
      | _ => .bad)
    | some false => .exc c l E1
    | none => .bad)
  | r => r := rfl
end
def spEx (K : PySem.W.Frag) (fld : Str) : Sp := fun vs H Q _ => ∃ (a : Addr) (y : V) (C : Addr), vs = [.ref a, y] ∧ OexC K C ∧ PySem.W.findIn K (.ref C) fld = some none ∧ H a = some (exo a C none) ∧ ∀ dx, H dx = none → dx ≠ a → Q .non (upd (upd H dx (exd dx [(fld, y)])) a (exo a C (some dx)))
theorem fn_exI {P : Program} {w : World} {K : PySem.W.Frag} {mg : Str → Option Value} {base : Heap} {x qual : Str} {st : Stmt} {f : Addr} {fd : FuncData} {n0 n1 : Str} {ps : List Str} {fld : Str} (hp : ps.length = 2) (F : Fun K x qual st f fd) (S : FnScope [n0, n1] ps (defScope st))
    (hbody : ∀ (cdv : Value) (A : Around) (outer : List Env) (s : Shared) (H : Hp) (E : XK), PSs (cxOf CX0 P w K mg base [n0, n1] qual (defScope st) f cdv A outer s H E).nox (defBody st) (tOst K fld (tVar 0) (tVar 1))) : FnOk P w K mg base CX0 1 f fd ps (spEx K fld) := by
  refine F.ok S (fun vs H Q E h => ?_) fun cdv A outer s H vs Q E hr h => ?_
  · obtain ⟨a, y, C, rfl, _⟩ := h
    rw [hp]; rfl
  · obtain ⟨a, y, C, rfl, hC, hn, ha, q⟩ := h
    refine ⟨_, hbody cdv A outer s H E, ?_⟩
    refine ⟨y, rfl, .ref a, rfl, a, C, rfl, hC, hn, .inl ⟨ha, fun dx h1 h2 => q dx h1 h2⟩⟩
section
variable {G : Gm} {W : WX}
def sRaiseF (c : Nat) (fa : En → AR) : En → SR := fun E => match fa E with
  | .ok true [d] st => .exc c [d] ⟨E.e, st⟩
  | .exc c' l st => .exc c' l ⟨E.e, st⟩
  | _ => .bad
theorem heap_made {H : Hp} {a dx : Addr} {o1 o2 o3 : HO} {o4 : HO} (ha : H a = none) (hne : dx ≠ a) : upd (del (upd (upd (upd H a o1) dx o2) a o3) a) dx o4 = upd H dx o4 := by
  funext b
  by_cases h1 : b = dx
  · rw [h1, upd_same, upd_same]
  · rw [upd_ne h1, upd_ne h1]
    by_cases h2 : b = a
    · rw [h2, del_same, ha]
    · rw [del_ne h2, upd_ne h2, upd_ne h1, upd_ne h2]
theorem s_raiseF {c : Nat} {C : Addr} {fld : Str} {ta : TA} {fa : En → AR} (hc : G.ca c = C) (hn : G.fn c = [fld]) (T : OexC G.K C) (hno : PySem.W.findIn G.K (.ref C) fld = some none) (h : DAr G W ta fa) :
    DSt G W (fun _ σ H => tMkO C (spEx G.K fld) [] ta σ H fun cls d H' => W cls d σ H') (sRaiseF c fa) := by
  subst hc
  intro s t σ e st E k N post
  refine h s t σ e st E k _ ?_
  unfold sRaiseF at post
  cases q : fa ⟨e, st⟩ with
  | bad => rw [q] at post; exact post
  | exc c' l st1 => rw [q] at post; exact fun t' x g k' o => post t' σ x g.up (E.up g) k' o
  | ok p l st1 =>
    rw [q] at post
    cases p with
    | false => exact post.elim
    | true =>
      match l, post with
      | [], post => exact post.elim
      | _ :: _ :: _, post => exact post.elim
      | [d], post =>
        intro t' vs g k' i0 _
        have i := i0 rfl
        clear i0
        cases i with
        | @cons v _ _ _ iv il =>
          cases il
          refine ⟨by simp, fun a ha => ⟨a, v, G.ca c, rfl, T, hno, upd_same, fun dx hdx hne => ⟨rfl, dx, [(fld, v)], upd_same, ?_, ?_, ?_⟩⟩⟩
          · rw [upd_ne hne, upd_same]
          · rw [upd_ne hne] at hdx; exact hdx
          · rw [upd_ne hne] at hdx
            rw [heap_made ha hne]
            have gg := Gro.new (o := .xd [(fld, v)]) k' hdx
            have kk := k'.grow (o := .xd [(fld, v)]) hdx
            refine post ⟨t'.as, upd t'.f dx (.xd [(fld, v)]), upd t'.h dx (.xd [(fld, v)])⟩ σ (some dx) (g.up.trans gg.up) ((E.up g).up gg) kk (.inr ⟨dx, [v], rfl, by simp, ?_, by rw [hn]; rfl, .cons (iv.up gg.a gg.f) .nil⟩)
            rw [hn]
            exact upd_same
@[simp] theorem e_sRaiseF {c : Nat} {fa : En → AR} {E : En} : sRaiseF c fa E = match fa E with
  | .ok true [d] st => .exc c [d] ⟨E.e, st⟩
  | .exc c' l st => .exc c' l ⟨E.e, st⟩
  | _ => .bad := rfl
end
def Gm.exn (G : Gm) (a : Addr) (x : Option Addr) (c : Nat) (l : List D) : Gm := { G with ea := a, ed := x, en := G.fn c, el := l }
mutual
theorem Is.swI {G G' : Gm} (eK : G'.K = G.K) (ec : G'.ca = G.ca) (ef : G'.fn = G.fn) {as : List Addr} {H : Hp} : ∀ (d : D) {v : V}, Is G as H v d → Is G' as H v d
  | .non, _, h => by cases h; exact .non
  | .bl _, _, h => by cases h; exact .bl _
  | .int _, _, h => by cases h; exact .int _
  | .str _, _, h => by cases h; exact .str _
  | .tup ds, _, h => by cases h with | tup p b => exact .tup (by rw [eK]; exact p) (IsL.swI eK ec ef ds b)
  | .lst ds, _, h => by cases h with | lst p b => exact .lst p (IsL.swI eK ec ef ds b)
  | .scr l, _, h => by cases h with | scr p => exact .scr (by rw [eK]; exact p)
  | .ptr n, _, h => by cases h with | ptr p => exact .ptr p
  | .obj c ds, _, h => by cases h with | obj p l b => exact .obj (by rw [ec, ef]; exact p) (by rw [ef]; exact l) (IsL.swI eK ec ef ds b)
theorem IsL.swI {G G' : Gm} (eK : G'.K = G.K) (ec : G'.ca = G.ca) (ef : G'.fn = G.fn) {as : List Addr} {H : Hp} : ∀ (ds : List D) {vs : List V}, IsL G as H vs ds → IsL G' as H vs ds
  | [], _, h => by cases h; exact .nil
  | d :: ds, _, h => by cases h with | cons p b => exact .cons (Is.swI eK ec ef d p) (IsL.swI eK ec ef ds b)
end
section
variable {G G' : Gm} (eK : G'.K = G.K) (ec : G'.ca = G.ca) (ef : G'.fn = G.fn)
include eK ec ef
theorem ObOk.swI {s : Hs} {x : Addr} {o : Ob} (h : ObOk G s x o) : ObOk G' s x o := by
  cases o with
  | lst l => obtain ⟨vs, h1, h2⟩ := h; exact ⟨vs, h1, IsL.swI eK ec ef _ h2⟩
  | ins c l => obtain ⟨dx, vs, h1, h2, h3⟩ := h; exact ⟨dx, vs, by rw [ec, ef]; exact h1, by rw [ef]; exact h2, IsL.swI eK ec ef _ h3⟩
  | tbl q => exact h
  | dct l => obtain ⟨kvs, h1, h2⟩ := h; exact ⟨kvs, h1, by
      clear h1
      induction h2 with
      | nil => exact .nil
      | cons p q ih => exact .cons (Is.swI eK ec ef _ p) ih⟩
theorem StOk.swI {s : Hs} {st : Sto} (et : G'.tb = G.tb) (k : StOk G s st) (hx : ExF G' s) : StOk G' s st := ⟨k.sf, k.len, k.nd, fun n x o h1 h2 => ObOk.swI eK ec ef (k.ob n x o h1 h2), k.nf, by rw [et]; exact k.tb, hx⟩
theorem VOk.swI {s t : Hs} {m : Md} {v : V} {d : D} (h : VOk G s t m v d) : VOk G' s t m v d := by
  cases m with
  | P => exact Is.swI eK ec ef _ h
  | B => obtain ⟨p, vs, l, x, b, c, e, f⟩ := h; exact ⟨p, vs, l, x, b, c, IsL.swI eK ec ef _ e, f⟩
  | N => obtain ⟨p, vs, l, x, b, c, e, f, g⟩ := h; exact ⟨p, vs, l, x, b, c, IsL.swI eK ec ef _ e, f, g⟩
theorem SlotOk.swI {s t : Hs} {o : Option V} {sl : SL} (h : SlotOk G s t o sl) (hs : sl ≠ .exn ∧ ∀ ds, sl ≠ .clo ds) : SlotOk G' s t o sl := by
  cases sl with
  | emp => trivial
  | exn => exact absurd rfl hs.1
  | clo ds => exact absurd rfl (hs.2 ds)
  | val d => obtain ⟨v, a, b⟩ := h; exact ⟨v, a, Is.swI eK ec ef _ b⟩
  | own l => obtain ⟨p, vs, a, b, c, d, e, f⟩ := h; exact ⟨p, vs, a, b, c, d, IsL.swI eK ec ef _ e, f⟩
theorem EnvOk.swI {s t : Hs} {σ : L2.St} {e : DE} (E : EnvOk G s t σ e) : EnvOk G' s t σ (clr e) := by
  refine ⟨E.gr, by rw [E.len]; simp [clr], fun i o s a b => ?_, fun i j p l m hij a b c d => ?_⟩
  · obtain ⟨h1, h2 | h2⟩ := clr_get b
    · subst h2; trivial
    · exact (E.at_ i o s a h2).swI eK ec ef h1
  · obtain ⟨_, h2 | h2⟩ := clr_get b
    · cases h2
    · obtain ⟨_, h3 | h3⟩ := clr_get d
      · cases h3
      · exact E.dis i j p l m hij a h2 c h3
end
section
variable {G : Gm} {W : WX}
def dXf (i : Nat) (o : Option D) : En → ER := fun E => match E.e[i]? with
  | some .exn => ofOpt o fun d => .val .P d E.st
  | _ => .bad
@[simp] theorem e_dXf {i : Nat} {o : Option D} {E : En} : dXf i o E = match E.e[i]? with
  | some .exn => ofOpt o fun d => .val .P d E.st
  | _ => .bad := rfl
end
end Dn
namespace Dn
open PySem PySem.W PySem.Spec PyProof.Rows L2
end Dn
namespace Dn
open PySem PySem.Spec PyProof.Rows L2
section
variable {G : Gm} {W : WX}
open Classical in
noncomputable def lcGoC (C : Sto → Prop) (k : D → Sto → Option (Option D × Sto)) : List D → Sto → Option (List D × Sto)
  | [], st => if C st then some ([], st) else none
  | d :: l, st => if C st then (k d st).bind fun o => (lcGoC C k l o.2).bind fun r => some (o.1.toList ++ r.1, r.2) else none
noncomputable def dLcX (f : En → ER) (t : D → DE → Option DE) (c g : En → ER) (vs : List Nat) : En → ER := fun E => match f E with
  | .val _ (.ptr n) st => (match stLst st n with
    | some l => if l.length ≤ 1000000 then ofOpt (lcGoC (fun st => stLst st n = some l) (lcStep t c g (wipeE E.e vs)) l st) fun r => .val .N (.lst r.1) r.2 else .bad
    | none => .bad)
  | _ => dLc (dIter f) t c g vs E
end
section
variable {G : Gm} {W : WX}
def oNotInF (a b : D) (st : Sto) : ER := match b with
  | .tup l => if flat a = true ∧ l.all flat = true then .val .P (.bl (!inV (toV a) (l.map toV))) st else .bad
  | _ => .bad
@[simp] theorem e_oNotInF {a : D} {l : List D} {st : Sto} : oNotInF a (.tup l) st = if flat a = true ∧ l.all flat = true then .val .P (.bl (!inV (toV a) (l.map toV))) st else .bad := rfl
end
end Dn
namespace Dn
open PySem PySem.Spec PyProof.Rows L2
def ZS (h : Heap) (z TI TO i1 i2 l1 l2 S : Addr) (k : Nat) : Prop := IsPair h TI (.ref i1) (.ref i2) ∧ h.IsListIter i1 l1 k ∧ h.IsListIter i2 l2 k ∧ (∃ o, h.get? TO = some o) ∧
  ((IsZip h z TI TO .none ∧ ∃ a b, IsPair h TO a b) ∨ ∃ T f oT, IsZipHeld h z TI TO T f ∧ h.get? T = some oT ∧ T ≠ z ∧ T ≠ i1 ∧ T ≠ i2 ∧ T ≠ S)
theorem ZS.keep {h h' : Heap} {z TI TO i1 i2 l1 l2 S : Addr} {k : Nat} (q : ZS h z TI TO i1 i2 l1 l2 S k) (nS : S ≠ z ∧ S ≠ TI ∧ S ≠ TO ∧ S ≠ i1 ∧ S ≠ i2) (hk : ∀ b o, b ≠ S → h.get? b = some o → h'.get? b = some o) : ZS h' z TI TO i1 i2 l1 l2 S k := by
  obtain ⟨a, b, c, ⟨oo, w⟩, d⟩ := q
  obtain ⟨n1, n2, n3, n4, n5⟩ := nS
  refine ⟨hk _ _ (Ne.symm n2) a, b.at fun o e => hk _ o (Ne.symm n4) e, c.at fun o e => hk _ o (Ne.symm n5) e, ⟨oo, hk _ _ (Ne.symm n3) w⟩, ?_⟩
  rcases d with ⟨d, x, y, e⟩ | ⟨T, f, oT, d, e, r1, r2, r3, r4⟩
  · exact .inl ⟨hk _ _ (Ne.symm n1) d, x, y, hk _ _ (Ne.symm n3) e⟩
  · exact .inr ⟨T, f, oT, hk _ _ (Ne.symm n1) d, hk _ _ r4 e, r1, r2, r3, r4⟩
section
variable {G : Gm} {W : WX}
def lstOf (st : Sto) : D → Option (List D)
  | .lst l => some l
  | .ptr n => stLst st n
  | _ => none
def dLz (f : En → AR) : En → ER := fun E => match f E with
  | .ok _ [a, b] st => ofOpt (lstOf st a) fun l => ofOpt (lstOf st b) fun m => if min l.length m.length ≤ 1000000 then .val .N (.lst (zipD l m)) st else .bad
  | .exc c l st => .exc c l st
  | _ => .bad
@[simp] theorem e_dLz {f : En → AR} {E : En} : dLz f E = match f E with
  | .ok _ [a, b] st => ofOpt (lstOf st a) fun l => ofOpt (lstOf st b) fun m => if min l.length m.length ≤ 1000000 then .val .N (.lst (zipD l m)) st else .bad
  | .exc c l st => .exc c l st
  | _ => .bad := rfl
@[simp] theorem lstOf_lst {st : Sto} {l : List D} : lstOf st (.lst l) = some l := rfl
@[simp] theorem lstOf_ptr {st : Sto} {n : Nat} : lstOf st (.ptr n) = stLst st n := rfl
end
theorem FldOk.sw {G G' : Gm} {f : Str} {ix : Nat → Option Nat} (h : FldOk G f ix) (eK : G'.K = G.K := by rfl) (ec : G'.ca = G.ca := by rfl) (ef : G'.fn = G.fn := by rfl) : FldOk G' f ix := ⟨fun c i q => by rw [eK, ec, ef]; exact h.ok c i q⟩
@[simp] theorem e_dLcX {f : En → ER} {t : D → DE → Option DE} {c g : En → ER} {vs : List Nat} {E : En} : dLcX f t c g vs E = match f E with
  | .val _ (.ptr n) st => (match stLst st n with
    | some l => if l.length ≤ 1000000 then ofOpt (lcGoC (fun st => stLst st n = some l) (lcStep t c g (wipeE E.e vs)) l st) fun r => .val .N (.lst r.1) r.2 else .bad
    | none => .bad)
  | _ => dLc (dIter f) t c g vs E := rfl
end Dn
namespace Dn
open PySem PySem.Spec PyProof.Rows L2
open HandSPX
end Dn
namespace Dn
open PySem PySem.Spec PyProof.Rows L2
inductive LR where | ok (o : Option D) (st : Sto) | exc (c : Nat) (l : List D) (st : Sto) | bad
def lcStepE (t : D → DE → Option DE) (c f : En → ER) (e : DE) (d : D) (st : Sto) : LR := match t d e with
  | none => .bad
  | some e2 => (match c ⟨e2, st⟩ with
    | .val _ (.bl b) st1 => if b = true then (match f ⟨e2, st1⟩ with | .val .P y st2 => .ok (some y) st2 | .val .N y st2 => .ok (some y) st2 | .exc k l st2 => .exc k l st2 | _ => .bad) else .ok none st1
    | _ => .bad)
def lcGoE (k : D → Sto → LR) : List D → List D → Sto → ER
  | [], acc, st => .val .N (.lst acc) st
  | d :: l, acc, st => match k d st with
    | .ok o st1 => lcGoE k l (acc ++ o.toList) st1
    | .exc c x st1 => .exc c x st1
    | .bad => .bad
def dLcE (src : En → AR) (t : D → DE → Option DE) (c f : En → ER) (vs : List Nat) : En → ER := fun E => match src E with
  | .ok _ l st => if l.length ≤ 1000000 then lcGoE (lcStepE t c f (wipeE E.e vs)) l [] st else .bad
  | .exc k l st => .exc k l st
  | .bad => .bad
@[simp] theorem e_dLcE {src : En → AR} {t : D → DE → Option DE} {c f : En → ER} {vs : List Nat} {E : En} : dLcE src t c f vs E = match src E with
  | .ok _ l st => if l.length ≤ 1000000 then lcGoE (lcStepE t c f (wipeE E.e vs)) l [] st else .bad
  | .exc k l st => .exc k l st
  | .bad => .bad := rfl
end Dn
namespace Dn
open PySem PySem.Spec PyProof.Rows L2
section
variable {G : Gm} {W : WX}
theorem lst_x {s : Hs} {st : Sto} {v : V} {d : D} {l : List D} (k : StOk G s st) (h : U G s v d) (e : deref st d = .lst l) : ∃ p vs, v = .ref p ∧ s.h p = some (.lst vs) ∧ IsL G s.as s.f vs l := by
  rcases deref_u k h with ⟨n, l', rfl, e', p, vs, rfl, hh, il⟩ | e'
  · rw [e] at e'; cases e'; exact ⟨p, vs, rfl, hh, il⟩
  · rw [e] at e'; subst e'; exact h.lst k.sf
def oAddX (a b : D) (st : Sto) : ER := match deref st a, deref st b with
  | .lst x, .lst y => if x.length + y.length ≤ 1000000 then .val .N (.lst (x ++ y)) st else .bad
  | _, _ => oAdd a b st
theorem d_addX : DOp G (rAddA G.K) oAddX := by
  intro W σ s st v w d d' k hv hw Q post
  unfold oAddX at post
  split at post
  · rename_i x y e1 e2
    obtain ⟨p, vs, rfl, hp, hl⟩ := lst_x k hv e1
    obtain ⟨q, ws, rfl, hq, hm⟩ := lst_x k hw e2
    obtain ⟨h, post⟩ := RPost.cond (x.length + y.length ≤ 1000000) (.val .N (.lst (x ++ y)) st) post
    exact .inr (.inr (.inl ⟨p, q, vs, ws, rfl, rfl, hp, hq, by rw [hl.len, hm.len]; exact sz h, fun r hr => post.newL k (hl.append hm) hr⟩))
  · exact d_add W σ s st v w d d' k hv hw Q post
def oSlX (d : D) (lo hi : Option Int) (st : Sto) : ER := match deref st d with
  | .lst l => .val .N (.lst (cutG l lo hi)) st
  | _ => oSl d lo hi st
def firstI (k : Int) : List Int → Option Nat
  | [] => none
  | n :: r => if n = k then some 0 else (firstI k r).map (· + 1)
def mRemove (l ds : List D) : Option (D × List D) := match ds with
  | [.int k] => (intsOf l).bind fun ns => (firstI k ns).map fun j => (.non, (ns.eraseIdx j).map .int)
  | _ => none
end
@[simp] theorem e_oAddX {a b : D} {st : Sto} : oAddX a b st = (match deref st a, deref st b with
  | .lst x, .lst y => if x.length + y.length ≤ 1000000 then .val .N (.lst (x ++ y)) st else .bad
  | _, _ => oAdd a b st) := rfl
@[simp] theorem e_oSlX {d : D} {lo hi : Option Int} {st : Sto} : oSlX d lo hi st = (match deref st d with
  | .lst l => .val .N (.lst (cutG l lo hi)) st
  | _ => oSl d lo hi st) := rfl
@[simp] theorem e_mRemove {l : List D} {k : Int} : mRemove l [.int k] = (intsOf l).bind fun ns => (firstI k ns).map fun j => (.non, (ns.eraseIdx j).map .int) := rfl
end Dn
namespace Dn
open PySem PySem.Spec PyProof.Rows L2
section
variable {G : Gm} {W : WX}
def hdl : List ((Nat → Option Bool) × (En → SR)) → Nat → Option (Option (En → SR))
  | [], _ => some none
  | x :: r, c => match x.1 c with
    | some true => some (some x.2)
    | some false => hdl r c
    | none => none
def clrS : SR → SR
  | .nx E => .nx ⟨clr E.e, E.st⟩
  | .bk E => .bk ⟨clr E.e, E.st⟩
  | .ct E => .ct ⟨clr E.e, E.st⟩
  | .rt m d st => .rt m d st
  | _ => .bad
def sTryL (hs : List ((Nat → Option Bool) × (En → SR))) (g : En → SR) : En → SR := fun E => match g E with
  | .exc c l E1 => (match hdl hs c with
    | some (some h) => clrS (h ⟨clr E1.e, E1.st⟩)
    | some none => .exc c l E1
    | none => .bad)
  | r => r
inductive HsD (G : Gm) : List (Value × (Addr → Value → Option Addr → TS)) → List ((Nat → Option Bool) × (En → SR)) → Prop
  | nil : HsD G [] []
  | cons {C : Value} {ts : Addr → Value → Option Addr → TS} {p : Nat → Option Bool} {h : En → SR} {l : List (Value × (Addr → Value → Option Addr → TS))} {hs : List ((Nat → Option Bool) × (En → SR))} (hc : ∀ c b, p c = some b → PySem.W.exmOne G.K (.ref (G.ca c)) C = some b) (hd : ∀ a cls d, DSt (G.at_ a) W0 (ts a cls d) h) (r : HsD G l hs) : HsD G ((C, ts) :: l) ((p, h) :: hs)
end
@[simp] theorem e_hdl0 {c : Nat} : hdl [] c = some none := rfl
@[simp] theorem e_hdlC {p : Nat → Option Bool} {h : En → SR} {r : List ((Nat → Option Bool) × (En → SR))} {c : Nat} : hdl ((p, h) :: r) c = (match p c with
    | some true => some (some h)
    | some false => hdl r c
    | none => none) := rfl
@[simp] theorem e_sTryL {hs : List ((Nat → Option Bool) × (En → SR))} {g : En → SR} {E : En} : sTryL hs g E = match g E with
  | .exc c l E1 => (match hdl hs c with
    | some (some h) => clrS (h ⟨clr E1.e, E1.st⟩)
    | some none => .exc c l E1
    | none => .bad)
  | r => r := rfl
@[simp] theorem e_clrSN {E : En} : clrS (.nx E) = .nx ⟨clr E.e, E.st⟩ := rfl
@[simp] theorem e_clrSB {E : En} : clrS (.bk E) = .bk ⟨clr E.e, E.st⟩ := rfl
@[simp] theorem e_clrSC {E : En} : clrS (.ct E) = .ct ⟨clr E.e, E.st⟩ := rfl
@[simp] theorem e_clrSR {m : Md} {d : D} {st : Sto} : clrS (.rt m d st) = .rt m d st := rfl
end Dn
namespace Dn
open PySem PySem.Spec PyProof.Rows L2
section
variable {G : Gm} {W : WX}
def oTupleX : List D → Sto → ER
  | [.ptr n], st => ofOpt (stLst st n) fun l => .val .P (.tup l) st
  | l, st => oTuple l st
def dIdx (fb : En → ER) (fa : En → AR) : En → ER := fun E => match fb E with
  | .val _ (.lst l) st => (match fa ⟨E.e, st⟩ with
    | .ok _ [.int k] st1 => ofOpt ((intsOf l).bind (firstI k)) fun n => .val .P (.int (n : Nat)) st1
    | .exc c l st => .exc c l st
    | _ => .bad)
  | .exc c l st => .exc c l st
  | _ => .bad
end
@[simp] theorem e_oTupleXP {n : Nat} {st : Sto} : oTupleX [.ptr n] st = ofOpt (stLst st n) fun l => .val .P (.tup l) st := rfl
@[simp] theorem e_oTupleXL {l : List D} {st : Sto} : oTupleX [.lst l] st = .val .P (.tup l) st := rfl
@[simp] theorem e_oTupleXT {l : List D} {st : Sto} : oTupleX [.tup l] st = .val .P (.tup l) st := rfl
@[simp] theorem e_dIdx {fb : En → ER} {fa : En → AR} {E : En} : dIdx fb fa E = match fb E with
  | .val _ (.lst l) st => (match fa ⟨E.e, st⟩ with
    | .ok _ [.int k] st1 => ofOpt ((intsOf l).bind (firstI k)) fun n => .val .P (.int (n : Nat)) st1
    | .exc c l st => .exc c l st
    | _ => .bad)
  | .exc c l st => .exc c l st
  | _ => .bad := rfl
end Dn
namespace Dn
open PySem PySem.Spec PyProof.Rows L2
section
variable {G : Gm} {W : WX}
def derefN : Nat → Sto → D → D
  | 0, _, d => d
  | k + 1, st, .ptr n => (match stLst st n with | some l => .lst (l.map (derefN k st)) | none => .ptr n)
  | k + 1, st, .tup l => .tup (l.map (derefN k st))
  | k + 1, st, .lst l => .lst (l.map (derefN k st))
  | _ + 1, _, d => d
def oEqN (a b : D) (st : Sto) : ER := oEq (derefN 4 st a) (derefN 4 st b) st
def oNeN (a b : D) (st : Sto) : ER := oNe (derefN 4 st a) (derefN 4 st b) st
@[simp] theorem e_oEqN {a b : D} {st : Sto} : oEqN a b st = oEq (derefN 4 st a) (derefN 4 st b) st := rfl
@[simp] theorem e_oNeN {a b : D} {st : Sto} : oNeN a b st = oNe (derefN 4 st a) (derefN 4 st b) st := rfl
end
end Dn
namespace Dn
open PySem PySem.Spec PyProof.Rows L2
section
variable {G : Gm} {W : WX}
def dZipA (f : En → AR) : En → AR := fun E => match f E with
  | .ok true [.lst l, .lst m] st => .ok true (zipD l m) st
  | .ok true [.tup l, .tup m] st => .ok true (zipD l m) st
  | .exc c l st => .exc c l st
  | _ => .bad
@[simp] theorem e_dZipA {f : En → AR} {E : En} : dZipA f E = match f E with
  | .ok true [.lst l, .lst m] st => .ok true (zipD l m) st
  | .ok true [.tup l, .tup m] st => .ok true (zipD l m) st
  | .exc c l st => .exc c l st
  | _ => .bad := rfl
end
end Dn
namespace Dn
open PySem PySem.Spec PyProof.Rows L2
section
variable {G : Gm} {W : WX}
noncomputable def dLcZ (f : En → AR) (t : D → DE → Option DE) (c g : En → ER) (vs : List Nat) : En → ER := fun E => match f E with
  | .ok true [.ptr n, .lst m] st => (match stLst st n with
    | some l => if (zipD l m).length ≤ 1000000 then ofOpt (lcGoC (fun st => stLst st n = some l) (lcStep t c g (wipeE E.e vs)) (zipD l m) st) fun r => .val .N (.lst r.1) r.2 else .bad
    | none => .bad)
  | _ => dLc (dZipA f) t c g vs E
end
@[simp] theorem e_dLcZ {fs : En → AR} {t : D → DE → Option DE} {c f : En → ER} {vs : List Nat} {E : En} : dLcZ fs t c f vs E = match fs E with
  | .ok true [.ptr n, .lst m] st => (match stLst st n with
    | some l => if (zipD l m).length ≤ 1000000 then ofOpt (lcGoC (fun st => stLst st n = some l) (lcStep t c f (wipeE E.e vs)) (zipD l m) st) fun r => .val .N (.lst r.1) r.2 else .bad
    | none => .bad)
  | _ => dLc (dZipA fs) t c f vs E := rfl
section
variable {G : Gm}
def mExtend (l ds : List D) : Option (D × List D) := match ds with
  | [.lst z] => if l.length + z.length ≤ 1000000 then some (.non, l ++ z) else none
  | _ => none
@[simp] theorem e_mExtend {l z : List D} : mExtend l [.lst z] = if l.length + z.length ≤ 1000000 then some (.non, l ++ z) else none := rfl
end
end Dn
namespace Dn
open PySem PySem.W PySem.Spec PyProof.Rows L2
end Dn
namespace Dn
open PySem PySem.W PySem.Spec PyProof.Rows L2
def anyO : List (Option Bool) → Option Bool
  | [] => some false
  | none :: _ => none
  | some true :: _ => some true
  | some false :: l => anyO l
@[simp] theorem e_anyO_nil : anyO [] = some false := rfl
@[simp] theorem e_anyO_t {l : List (Option Bool)} : anyO (some true :: l) = some true := rfl
@[simp] theorem e_anyO_f {l : List (Option Bool)} : anyO (some false :: l) = anyO l := rfl
end Dn
namespace Dn
open PySem PySem.Spec PyProof.Rows L2
section
variable {G : Gm} {W : WX}
def oInF (a b : D) (st : Sto) : ER := match b with
  | .tup l => if flat a = true ∧ l.all flat = true then .val .P (.bl (inV (toV a) (l.map toV))) st else .bad
  | _ => .bad
@[simp] theorem e_oInF {a : D} {l : List D} {st : Sto} : oInF a (.tup l) st = if flat a = true ∧ l.all flat = true then .val .P (.bl (inV (toV a) (l.map toV))) st else .bad := rfl
end
end Dn
namespace Dn
open PySem PySem.Spec PyProof.Rows L2
section
variable {G : Gm} {W : WX}
theorem it_enumP {t1 : Hs} {n : Nat} {p : Addr} {l : List D} (hp : t1.as[n]? = some p) : ItOkC G (fun st => stLst st n = some l) t1 (Ite G.K p) (enumD 0 l) := by
  intro i t st u k hc
  obtain ⟨vs, hh, il⟩ := k.lst (u.a n p hp) hc
  have q := SqL.of (K := G.K) hh
  refine ⟨fun hi => ⟨vs, q, by rw [il.len]; rw [enumD_len] at hi; exact hi⟩, fun d hd => ?_⟩
  obtain ⟨x, h1, rfl⟩ := enumD_get hd
  obtain ⟨v, h2, h3⟩ := il.get h1
  refine ⟨⟨vs, v, q, h2⟩, fun y H' z => ?_⟩
  obtain ⟨T, v', rfl, hT, rfl, z⟩ := z
  have := z vs q
  rw [h2] at this; cases this
  refine ⟨⟨t.as, upd t.f T _, upd t.h T _⟩, rfl, Gro.new k hT, k.grow hT, .tup (SqT.of upd_same) (.cons ?_ (.cons (h3.up (Ext.refl _) (same_new (k.sf.free hT))) .nil))⟩
  rw [Nat.zero_add]
  exact .int _
noncomputable def sForE (f : En → AR) (t : D → DE → Option DE) (b : En → SR) : En → SR := fun E => match f E with
  | .ok true [.ptr n] st => (match stLst st n with | some l => forPD n l (tgB t b) (enumD 0 l) ⟨E.e, st⟩ | none => .bad)
  | _ => sFor (dEnum f) t b E
theorem s_forE {ta : TA} {g : TG} {tb : TS} {f : En → AR} {js : List Nat} {t : D → DE → Option DE} {b : En → SR} (hf : DAr G W ta f) (hg : DTg G g js t) (hb : DSt G W tb b) : DSt G W (tFor (iEnum G.K ta) g tb) (sForE f t b) := by
  intro s t0 σ e st E k0 N post
  unfold sForE at post
  split at post
  · rename_i n st1 q
    refine hf s t0 σ e st E k0 _ ?_
    rw [q]
    intro t1 vs g1 k1 _ u1
    obtain ⟨v, rfl, hv⟩ := u1.one
    obtain ⟨p, rfl, hp⟩ := hv.ptr
    cases hl : stLst st1 n with
    | none => simp only [hl] at post; exact post.elim
    | some l0 =>
      simp only [hl] at post
      have it := it_enumP (G := G) (l := l0) hp
      obtain ⟨vs0, hh0, _⟩ := k1.lst hp hl
      refine ⟨p, _, rfl, SqL.of hh0, ?_⟩
      generalize enumD 0 l0 = l at *
      have post : SPost G W s t0 N (forPD n l0 (tgB t b) l ⟨e, st1⟩) := post
      have cnd : ∀ {t2 : Hs} {xs : List D} {F : En}, SPost G W s t2 N (forPD n l0 (tgB t b) xs F) → stLst F.st n = some l0 := fun {t2 xs F} h => by
        by_cases c : stLst F.st n = some l0
        · exact c
        · cases xs <;> (unfold forPD at h; rw [if_neg c] at h; exact h.elim)
      refine ⟨fun i m σ H => m = l.length - i ∧ i ≤ l.length ∧ ∃ t2 E2, t2.h = H ∧ Up t1 t2 ∧ EnvOk G s t2 σ E2.e ∧ StOk G t2 E2.st ∧ SPost G W s t2 N (forPD n l0 (tgB t b) (l.drop i) E2),
        ⟨l.length, by simp, Nat.zero_le _, t1, ⟨e, st1⟩, rfl, Up.refl _, E.up g1, k1, SPost.mono g1.up post⟩, ?_⟩
      rintro i m σ2 H2 ⟨rfl, hi, t2, F2, rfl, s2, E2, k2, p2⟩
      have c2 := cnd p2
      obtain ⟨i1, i2⟩ := it i t2 F2.st s2 k2 c2
      by_cases hlt : i < l.length
      · right
        have hd : l[i]? = some l[i] := List.getElem?_eq_getElem hlt
        obtain ⟨go, y⟩ := i2 _ hd
        rw [List.drop_eq_getElem_cons hlt] at p2
        refine ⟨go, fun σ' H' => i + 1 ≤ l.length ∧ ∃ t2 E2, t2.h = H' ∧ Up t1 t2 ∧ EnvOk G s t2 σ' E2.e ∧ StOk G t2 E2.st ∧ SPost G W s t2 N (forPD n l0 (tgB t b) (l.drop (i + 1)) E2), fun σ' H' h => ⟨l.length - (i + 1), by omega, rfl, h⟩, fun x H' hy => ?_⟩
        obtain ⟨t3, rfl, g3, k3, i3⟩ := y x H' hy
        unfold forPD at p2
        rw [if_pos c2] at p2
        cases q3 : t l[i] F2.e with
        | none =>
          have tgb : tgB t b l[i] F2 = .bad := by unfold tgB; rw [q3]
          rw [tgb] at p2
          exact p2.elim
        | some e3 =>
          have tgb : tgB t b l[i] F2 = b ⟨e3, F2.st⟩ := by unfold tgB; rw [q3]
          refine hg s t3 σ2 F2.e F2.st x l[i] (E2.up g3) k3 i3 _ e3 q3 fun σ4 E4 _ _ => ?_
          refine hb s t3 σ4 e3 F2.st E4 k3 _ ?_
          have p4 := SPost.mono g3.up p2
          rw [tgb] at p4
          have s3 := s2.trans g3.up
          cases q5 : b ⟨e3, F2.st⟩ with
          | nx e5 => rw [q5] at p4; exact fun t6 σ6 s6 E6 k6 => ⟨hlt, t6, e5, rfl, s3.trans s6, E6, k6, SPost.mono s6 p4⟩
          | ct e5 => rw [q5] at p4; exact fun t6 σ6 s6 E6 k6 => ⟨hlt, t6, e5, rfl, s3.trans s6, E6, k6, SPost.mono s6 p4⟩
          | bk e5 => rw [q5] at p4; exact p4
          | rt m d st => rw [q5] at p4; exact p4
          | exc c l e => rw [q5] at p4; exact p4
          | bad => rw [q5] at p4; exact p4
      · left
        have : i = l.length := by omega
        subst this
        refine ⟨i1 (Nat.le_refl _), ?_⟩
        rw [List.drop_length] at p2
        unfold forPD at p2
        rw [if_pos c2] at p2
        exact p2 t2 σ2 (Up.refl _) E2 k2
  · exact s_for (i_enum hf) hg hb s t0 σ e st E k0 N post
def oSortedP : List D → Sto → ER
  | [.ptr n], st => (match stLst st n with
    | some l => (match intsOf l with
      | some ns => if ns.length < 64 then .val .N (.lst ((srt ns).map .int)) st else .bad
      | none => .bad)
    | none => .bad)
  | l, st => oSortedX l st
@[simp] theorem e_oSortedP_1 {n : Nat} {st : Sto} : oSortedP [.ptr n] st = (match stLst st n with
    | some l => (match intsOf l with
      | some ns => if ns.length < 64 then .val .N (.lst ((srt ns).map .int)) st else .bad
      | none => .bad)
    | none => .bad) := rfl
@[simp] theorem e_oSortedP_2 {l : List D} {st : Sto} : oSortedP [.lst l] st = oSortedX [.lst l] st := rfl
@[simp] theorem e_sForE {f : En → AR} {t : D → DE → Option DE} {b : En → SR} {E : En} : sForE f t b E = match f E with
  | .ok true [.ptr n] st => (match stLst st n with | some l => forPD n l (tgB t b) (enumD 0 l) ⟨E.e, st⟩ | none => .bad)
  | _ => sFor (dEnum f) t b E := rfl
end
end Dn
namespace L2
open PySem PySem.Spec PyProof.Rows
end L2
namespace Dn
open PySem PySem.Spec PyProof.Rows L2
def dctAt : List (Str × D) → Str → Option D
  | [], _ => none
  | p :: r, k => if p.1 = k then some p.2 else dctAt r k
def dctPut (l : List (Str × D)) (k : Str) (d : D) : List (Str × D) :=
  if (dctAt l k).isSome = true then l.map (fun p => if p.1 = k then (p.1, d) else p) else l ++ [(k, d)]
def dctDrop (l : List (Str × D)) (k : Str) : List (Str × D) := l.filter fun p => decide (p.1 ≠ k)
def stDct (st : Sto) (n : Nat) : Option (List (Str × D)) := match st[n]? with
  | some (.dct l) => some l
  | _ => none
section
variable {G : Gm} {W : WX}
theorem StOk.dct {s : Hs} {st : Sto} {n : Nat} {l : List (Str × D)} {p : Addr} (k : StOk G s st) (ha : s.as[n]? = some p) (h : stDct st n = some l) : ∃ kvs : List (Key × V), s.h p = some (.dK kvs) ∧ KsR G s.as s.f kvs l := by
  unfold stDct at h
  split at h
  · rename_i l' q
    cases h
    exact k.ob n p _ ha q
  · cases h
section
variable {as : List Addr} {H : Hp} {kvs : List (Key × V)} {l : List (Str × D)}
theorem inr_ne {x k : Str} (e : ¬ x = k) : ¬ (Sum.inr x : Key) = .inr k := fun z => e (Sum.inr.inj z)
theorem KsR.get (h : KsR G as H kvs l) {k : Str} {d : D} (e : dctAt l k = some d) : ∃ v, valV kvs (.inr k) = some v ∧ Is G as H v d := by
  induction h with
  | nil => cases e
  | @cons x v d' ps ds a b ih =>
    unfold dctAt at e
    by_cases c : x = k
    · rw [if_pos c] at e
      cases e
      exact ⟨v, valV_pos (p := ((.inr x : Key), v)) (congrArg Sum.inr c), a⟩
    · rw [if_neg c] at e
      rw [valV_neg (p := ((.inr x : Key), v)) (inr_ne c)]
      exact ih e
theorem KsR.is (h : KsR G as H kvs l) (k : Str) : (valV kvs (.inr k)).isSome = (dctAt l k).isSome := by
  induction h with
  | nil => rfl
  | @cons x v d' ps ds a b ih =>
    unfold dctAt
    by_cases c : x = k
    · rw [if_pos c, valV_pos (p := ((.inr x : Key), v)) (congrArg Sum.inr c)]; rfl
    · rw [if_neg c, valV_neg (p := ((.inr x : Key), v)) (inr_ne c)]
      exact ih
theorem KsR.len (h : KsR G as H kvs l) : kvs.length = l.length := by
  induction h with
  | nil => rfl
  | cons a b ih => exact congrArg Nat.succ ih
theorem KsR.snoc (h : KsR G as H kvs l) {x : Str} {v : V} {d : D} (q : Is G as H v d) : KsR G as H (kvs ++ [(.inr x, v)]) (l ++ [(x, d)]) := by
  induction h with
  | nil => exact .cons q .nil
  | cons a b ih => exact .cons a ih
theorem KsR.repl (h : KsR G as H kvs l) {x : Str} {v : V} {d : D} (q : Is G as H v d) : KsR G as H (kvs.map fun kv => if kv.1 = .inr x then (kv.1, v) else kv) (l.map fun p => if p.1 = x then (p.1, d) else p) := by
  induction h with
  | nil => exact .nil
  | @cons y w d' ps ds a b ih =>
    rw [List.map_cons, List.map_cons]
    by_cases c : y = x
    · rw [if_pos (show ((Sum.inr y : Key), w).1 = .inr x from congrArg Sum.inr c), if_pos c]; exact .cons q ih
    · rw [if_neg (show ¬ ((Sum.inr y : Key), w).1 = .inr x from inr_ne c), if_neg c]; exact .cons a ih
theorem KsR.put (h : KsR G as H kvs l) {x : Str} {v : V} {d : D} (q : Is G as H v d) : KsR G as H (putK kvs (.inr x) v) (dctPut l x d) := by
  unfold putK dctPut
  rw [valV_any, h.is x]
  by_cases c : (dctAt l x).isSome = true
  · rw [if_pos c, if_pos c]; exact h.repl q
  · rw [if_neg c, if_neg c]; exact h.snoc q
theorem KsR.drop (h : KsR G as H kvs l) (x : Str) : KsR G as H (dropK kvs (.inr x)) (dctDrop l x) := by
  unfold dropK dctDrop
  induction h with
  | nil => exact .nil
  | @cons y w d' ps ds a b ih =>
    rw [List.filter_cons, List.filter_cons]
    by_cases c : y = x
    · rw [if_neg (by simp [c]), if_neg (by simp [c])]; exact ih
    · rw [if_pos (by simp [c]), if_pos (by simp [c])]; exact .cons a ih
end
def dDNew : En → ER := fun E => .val .P (.ptr E.st.length) (E.st ++ [.dct []])
def oInD (a b : D) (st : Sto) : ER := match a, b with
  | .str x, .ptr n => ofOpt (stDct st n) fun l => .val .P (.bl (dctAt l x).isSome) st
  | _, _ => .bad
def oNotInD (a b : D) (st : Sto) : ER := match a, b with
  | .str x, .ptr n => ofOpt (stDct st n) fun l => .val .P (.bl (!(dctAt l x).isSome)) st
  | _, _ => .bad
def oIxD (a b : D) (st : Sto) : ER := match a, b with
  | .ptr n, .str x => ofOpt (stDct st n) fun l => ofOpt (dctAt l x) fun d => .val .P d st
  | _, _ => .bad
def sSetD (fb f fi : En → ER) : En → SR := fun E => match f E with
  | .val .B _ _ => .bad
  | .val _ d st => (match fb ⟨E.e, st⟩ with
    | .val _ (.ptr n) st1 => (match fi ⟨E.e, st1⟩ with
      | .val _ (.str x) st2 => (match stDct st2 n with
        | some l => if l.length < 1000000 then .nx ⟨E.e, st2.set n (.dct (dctPut l x d))⟩ else .bad
        | none => .bad)
      | .exc c l st => .exc c l ⟨E.e, st⟩
      | _ => .bad)
    | .exc c l st => .exc c l ⟨E.e, st⟩
    | _ => .bad)
  | .exc c l st => .exc c l ⟨E.e, st⟩
  | .bad => .bad
def dDPop (f g : En → ER) : En → ER := fun E => match f E with
  | .val _ (.ptr n) st => (match stDct st n with
    | some _ => (match g ⟨E.e, st⟩ with
      | .val _ (.str x) st1 => (match stDct st1 n with
        | some l => (match dctAt l x with
          | some d => .val .P d (st1.set n (.dct (dctDrop l x)))
          | none => .bad)
        | none => .bad)
      | .exc c l st => .exc c l st
      | _ => .bad)
    | none => .bad)
  | .exc c l st => .exc c l st
  | _ => .bad
@[simp] theorem e_stDct {st : Sto} {n : Nat} : stDct st n = match st[n]? with | some (.dct l) => some l | _ => none := rfl
@[simp] theorem e_dDNew {E : En} : dDNew E = .val .P (.ptr E.st.length) (E.st ++ [.dct []]) := rfl
@[simp] theorem e_oInD {x : Str} {n : Nat} {st : Sto} : oInD (.str x) (.ptr n) st = ofOpt (stDct st n) fun l => .val .P (.bl (dctAt l x).isSome) st := rfl
@[simp] theorem e_oNotInD {x : Str} {n : Nat} {st : Sto} : oNotInD (.str x) (.ptr n) st = ofOpt (stDct st n) fun l => .val .P (.bl (!(dctAt l x).isSome)) st := rfl
@[simp] theorem e_oIxD {x : Str} {n : Nat} {st : Sto} : oIxD (.ptr n) (.str x) st = ofOpt (stDct st n) fun l => ofOpt (dctAt l x) fun d => .val .P d st := rfl
@[simp] theorem e_sSetD {fb f fi : En → ER} {E : En} : sSetD fb f fi E = match f E with
  | .val .B _ _ => .bad
  | .val _ d st => (match fb ⟨E.e, st⟩ with
    | .val _ (.ptr n) st1 => (match fi ⟨E.e, st1⟩ with
      | .val _ (.str x) st2 => (match stDct st2 n with
        | some l => if l.length < 1000000 then .nx ⟨E.e, st2.set n (.dct (dctPut l x d))⟩ else .bad
        | none => .bad)
      | .exc c l st => .exc c l ⟨E.e, st⟩
      | _ => .bad)
    | .exc c l st => .exc c l ⟨E.e, st⟩
    | _ => .bad)
  | .exc c l st => .exc c l ⟨E.e, st⟩
  | .bad => .bad := rfl
@[simp] theorem e_dDPop {f g : En → ER} {E : En} : dDPop f g E = match f E with
  | .val _ (.ptr n) st => (match stDct st n with
    | some _ => (match g ⟨E.e, st⟩ with
      | .val _ (.str x) st1 => (match stDct st1 n with
        | some l => (match dctAt l x with
          | some d => .val .P d (st1.set n (.dct (dctDrop l x)))
          | none => .bad)
        | none => .bad)
      | .exc c l st => .exc c l st
      | _ => .bad)
    | none => .bad)
  | .exc c l st => .exc c l st
  | _ => .bad := rfl
end
end Dn
namespace Dn
open PySem PySem.Spec PyProof.Rows L2
section
variable {G : Gm} {W : WX}
def oIsB (a b : D) (st : Sto) : ER := match a, b with
  | .bl x, .bl y => .val .P (.bl (decide (x = y))) st
  | _, _ => .bad
@[simp] theorem e_oIsB {x y : Bool} {st : Sto} : oIsB (.bl x) (.bl y) st = .val .P (.bl (decide (x = y))) st := rfl
end
end Dn
namespace Dn
open PySem PySem.Spec PyProof.Rows L2
end Dn
namespace Dn
open PySem PySem.Spec PyProof.Rows L2
section
variable {G : Gm} {W : WX}
def firstS (k : Str) : List Str → Option Nat
  | [] => none
  | n :: r => if n = k then some 0 else (firstS k r).map (· + 1)
def dIdxX (fb : En → ER) (fa : En → AR) : En → ER := fun E => match fb E with
  | .val _ (.ptr n) st => (match stLst st n with
    | some _ => (match fa ⟨E.e, st⟩ with
      | .ok _ [.str k] st1 => ofOpt ((stLst st1 n).bind fun l => (strsOf l).bind (firstS k)) fun j => .val .P (.int (j : Nat)) st1
      | .exc c l st => .exc c l st
      | _ => .bad)
    | none => .bad)
  | .exc c l st => .exc c l st
  | _ => .bad
end
@[simp] theorem e_dIdxX {fb : En → ER} {fa : En → AR} {E : En} : dIdxX fb fa E = match fb E with
  | .val _ (.ptr n) st => (match stLst st n with
    | some _ => (match fa ⟨E.e, st⟩ with
      | .ok _ [.str k] st1 => ofOpt ((stLst st1 n).bind fun l => (strsOf l).bind (firstS k)) fun j => .val .P (.int (j : Nat)) st1
      | .exc c l st => .exc c l st
      | _ => .bad)
    | none => .bad)
  | .exc c l st => .exc c l st
  | _ => .bad := rfl
end Dn
namespace Dn
open PySem PySem.Spec PyProof.Rows L2
def dDispG (n : Nat) : List (Str × (En → ER)) → List (Str × D) → En → ER
  | [], acc, E => (match stDct E.st n with
    | some [] => .val .P (.ptr n) (E.st.set n (.dct acc))
    | _ => .bad)
  | (x, f) :: r, acc, E => match f E with
    | .val .B _ _ => .bad
    | .val _ d st => dDispG n r (acc ++ [(x, d)]) ⟨E.e, st⟩
    | .exc c l st => .exc c l st
    | .bad => .bad
def dDisp (ps : List (Str × (En → ER))) : En → ER := fun E => dDispG E.st.length ps [] ⟨E.e, E.st ++ [.dct []]⟩
section
variable {G : Gm} {W : WX}
inductive DPs (G : Gm) (W : WX) : List (TE × TE) → List (Str × (En → ER)) → Prop
  | nil : DPs G W [] []
  | cons {x : Str} {tv : TE} {f : En → ER} {trs : List (TE × TE)} {ps : List (Str × (En → ER))} : DEv G W tv f → DPs G W trs ps → DPs G W ((tC (.str x), tv) :: trs) ((x, f) :: ps)
def dDGet2 (f g h : En → ER) : En → ER := fun E => match f E with
  | .val _ (.ptr n) st => (match stDct st n with
    | some _ => (match g ⟨E.e, st⟩ with
      | .val _ (.str x) st1 => (match h ⟨E.e, st1⟩ with
        | .val .B _ _ => .bad
        | .val _ d st2 => (match stDct st2 n with
          | some l => .val .P ((dctAt l x).getD d) st2
          | none => .bad)
        | .exc c l st => .exc c l st
        | .bad => .bad)
      | .exc c l st => .exc c l st
      | _ => .bad)
    | none => .bad)
  | .exc c l st => .exc c l st
  | _ => .bad
theorem KsR.getD {as : List Addr} {H : Hp} {kvs : List (Key × V)} {l : List (Str × D)} (h : KsR G as H kvs l) {k : Str} {v : V} {d : D} (i : Is G as H v d) : Is G as H ((valV kvs (.inr k)).getD v) ((dctAt l k).getD d) := by
  cases e : dctAt l k with
  | none =>
    have := h.is k
    rw [e] at this
    cases e2 : valV kvs (.inr k) with
    | none => exact i
    | some w => rw [e2] at this; cases this
  | some d' =>
    obtain ⟨w, h1, h2⟩ := h.get e
    rw [h1]; exact h2
end
@[simp] theorem e_dDisp {ps : List (Str × (En → ER))} {E : En} : dDisp ps E = dDispG E.st.length ps [] ⟨E.e, E.st ++ [.dct []]⟩ := rfl
@[simp] theorem e_dDispG0 {n : Nat} {acc : List (Str × D)} {E : En} : dDispG n [] acc E = (match stDct E.st n with
    | some [] => .val .P (.ptr n) (E.st.set n (.dct acc))
    | _ => .bad) := rfl
@[simp] theorem e_dDispG1 {n : Nat} {x : Str} {f : En → ER} {r : List (Str × (En → ER))} {acc : List (Str × D)} {E : En} : dDispG n ((x, f) :: r) acc E = (match f E with
    | .val .B _ _ => .bad
    | .val _ d st => dDispG n r (acc ++ [(x, d)]) ⟨E.e, st⟩
    | .exc c l st => .exc c l st
    | .bad => .bad) := rfl
@[simp] theorem e_dDGet2 {f g h : En → ER} {E : En} : dDGet2 f g h E = match f E with
  | .val _ (.ptr n) st => (match stDct st n with
    | some _ => (match g ⟨E.e, st⟩ with
      | .val _ (.str x) st1 => (match h ⟨E.e, st1⟩ with
        | .val .B _ _ => .bad
        | .val _ d st2 => (match stDct st2 n with
          | some l => .val .P ((dctAt l x).getD d) st2
          | none => .bad)
        | .exc c l st => .exc c l st
        | .bad => .bad)
      | .exc c l st => .exc c l st
      | _ => .bad)
    | none => .bad)
  | .exc c l st => .exc c l st
  | _ => .bad := rfl
end Dn
namespace L2
open PySem PySem.Spec PyProof.Rows
end L2
namespace Dn
open PySem PySem.Spec PyProof.Rows L2
def insS (k : Int) : List Int → List Int
  | [] => [k]
  | a :: l => if k < a then k :: a :: l else if k = a then a :: l else a :: insS k l
def sset : List Int → List Int
  | [] => []
  | a :: l => insS a (sset l)
def oSortSet : List D → Sto → ER
  | [.lst l], st => ofOpt (intsOf l) fun ns => if ns.length < 64 then .val .N (.lst ((sset ns).map .int)) st else .bad
  | _, _ => .bad
@[simp] theorem e_oSortSet {l : List D} {st : Sto} : oSortSet [.lst l] st = ofOpt (intsOf l) fun ns => if ns.length < 64 then .val .N (.lst ((sset ns).map .int)) st else .bad := rfl
end Dn
namespace GQ
open PySem PySem.SeqAt
open AutoSeq1 (wpAny_loadPart')
open MeetsSeq MeetsSeq2 MeetsSeq3 SeqRoads2
end GQ
namespace Dn
open PySem PySem.Spec PySem.Calls PyProof.Rows L2
open AutoSeq1 (wpAny_loadPart')
end Dn
namespace L2
open PySem PySem.Spec PySem.Calls PyProof.Rows
abbrev RI := V → V → Hp → (Bool → Hp → Prop) → Prop
def EqI (X : Cx) (n : Nat) (r : RI) : Prop :=
  ∀ (A : Around) (pins : List (Addr × Obj)) (s : Shared) (σ : St) (H : Hp) (x y : V) (u v : Value) (Q : Bool → Hp → Prop), Sub X n A → Inv X pins σ H s → RelV x u → RelV y v → r x y H Q →
    wpAny (model X.prog X.w) A (eqBool u v) (TP X pins σ Q) X.xe s
end L2
namespace Dn
open PySem PySem.Spec PySem.Calls PyProof.Rows L2
section
variable {X : Cx} {G : Gm}
inductive Pln (K : PySem.W.Frag) (C : Addr) (H : Hp) : V → Prop
  | non (h : PySem.W.subIn K (.ref C) (.type "NoneType") = some false) : Pln K C H .non
  | int (i : Int) (h : PySem.W.subIn K (.ref C) (.type "int") = some false) : Pln K C H (.int i)
  | str (i : Str) (h : PySem.W.subIn K (.ref C) (.type "str") = some false) : Pln K C H (.str i)
  | lst (b : Addr) (l : List V) (e : H b = some (.lst l)) (h : PySem.W.subIn K (.ref C) (.type "list") = some false) : Pln K C H (.ref b)
theorem EqI.or {k : Nat} {r r' : RI} (h : EqI X k r) (h' : EqI X k r') : EqI X k (fun i x H Q => r i x H Q ∨ r' i x H Q) := by
  intro A pins s σ H i x u v Q sb I ri rx z
  rcases z with z | z
  · exact h A pins s σ H i x u v Q sb I ri rx z
  · exact h' A pins s σ H i x u v Q sb I ri rx z
end
end Dn
namespace Dn
open PySem PySem.Spec PySem.Calls PyProof.Rows L2
structure InOk (G : Gm) (Os : OwnL) : Prop where
  pl : ∀ x ∈ Os, ∀ T ∈ plainTs, PySem.W.subIn G.K (.ref (G.ca x.1)) (.type T) = some false
end Dn
namespace Dn
open PySem PySem.Spec PyProof.Rows L2
section
def ItzS (K : PySem.W.Frag) (a : Addr) (xs : List V) (x : Str) : It :=
  ⟨fun i H => SqL K H a xs ∧ i < xs.length ∧ i < x.cps.size,
    fun i H v H' => ∃ T y c, v = .ref T ∧ H T = none ∧ H' = upd H T (.tup [y, .str ⟨#[c]⟩]) ∧ xs[i]? = some y ∧ x.cps[i]? = some c,
    fun i H => SqL K H a xs ∧ (xs.length ≤ i ∨ x.cps.size ≤ i)⟩
theorem turn_zipS {P : Program} {w : World} {K : PySem.W.Frag} {elts : List Expr} {kk : Nat} {tpos : Pos} {a z TI TO i1 i2 : Addr} {xs : List V} (x : Str) (t : Tok) (D : ZipSep2 z TI TO i1 i2 [i1, a] [i2]) (hne : a ≠ i1) (hTz : TO ≠ TI) (n2z : i1 ≠ z) (n3 : i2 ≠ z) (n4 : i1 ≠ TI) (n5 : i2 ≠ TI) :
    Turn P w K (.Tuple elts kk tpos) (ItzS K a xs x) [z, TI, TO, i1, i2] z (fun i h => IsZip h z TI TO .none ∧ IsTupOf2 h TI (.ref i1) (.ref i2) ∧ (∃ x y, IsTupOf2 h TO x y) ∧ h.IsListIter i1 a i ∧ h.IsStrIter i2 (strIterType x) x t i ∧ i ≤ xs.length ∧ i ≤ x.cps.size) where
  mem := by simp
  obj := fun i h st c hc => by
    obtain ⟨hz, hTI, ⟨x, y, hTO⟩, ⟨o1, e1, _, d1⟩, ⟨o2, e2, _, d2⟩, _⟩ := st
    have e' : c = z ∨ c = TI ∨ c = TO ∨ c = i1 ∨ c = i2 := by simpa using hc
    rcases e' with q | q | q | q | q
    · rw [q]; exact ⟨_, hz, fun v q => nomatch q⟩
    · rw [q]; exact ⟨_, hTI, fun v q => nomatch q⟩
    · rw [q]; exact ⟨_, hTO, fun v q => nomatch q⟩
    · rw [q]; exact ⟨o1, e1, fun v q => by rw [d1] at q; cases q⟩
    · rw [q]; exact ⟨o2, e2, fun v q => by rw [d2] at q; cases q⟩
  keep := fun i h h' st k => by
    obtain ⟨hz, hTI, ⟨x, y, hTO⟩, h1, ⟨o2, e2, r2⟩, l⟩ := st
    exact ⟨k z (by simp) _ hz, k TI (by simp) _ hTI, ⟨x, y, k TO (by simp) _ hTO⟩, h1.at fun o q => k i1 (by simp) o q, ⟨o2, k i2 (by simp) o2 e2, r2⟩, l⟩
  item := by
    intro X hP hw hK hc i pins s σ H E I hf st hg
    subst hP hw hK
    obtain ⟨hz, hTI, ⟨x0, y0, hTO⟩, h1, h2, l1, l2⟩ := st
    obtain ⟨hqx, g1, g2⟩ := hg
    obtain ⟨its, rv, p, _⟩ := I.list hqx
    have pl : s.heap.IsList a its.toArray := p.isList
    have lx := rv.length
    have D1 := Draws.list (prog := X.prog) (w := X.w) (A := X.A.in1) (I.ok.hd hc) i1 a hne its.toArray
    have D2 := draws_str (P := X.prog) (w := X.w) (A := X.A.in1) (I.ok.hd hc) i2 x t
    have hzl : z < s.heap.objs.size := Heap.lt_size hz
    refine wpAny_pyNext_zipD2_item D D1 D2 hz hTI hTO ⟨h1, pl⟩ h2 (by simp; omega) g2 fun x1 x2 h' tk y1 y2 hz' TO' s1' s2' hT hsz hk => ?_
    obtain ⟨c, u, hcx, rfl⟩ := y2
    have hy1 : its[i]? = some x1 := by simpa using y1
    obtain ⟨y, hy⟩ : ∃ y, xs[i]? = some y := ⟨_, List.getElem?_eq_getElem g1⟩
    obtain ⟨u1, hu1, ru1⟩ := rv.get hy
    rw [hy1] at hu1
    obtain rfl := Option.some.inj hu1
    refine ⟨_, rfl, wpAny_letOwnedTupleGo_zip (s := { s with heap := h', toks := tk }) hz' fun h'' z'' sb => ?_⟩
    have hT2 : h''.get? s.heap.objs.size = some { cls := .type "tuple", data := .seq #[x1, .str ⟨#[c]⟩ u] } := (sb.2 _ (Nat.ne_of_gt hzl)).trans hT
    have new : ObjOk X.prog X.w (upd H s.heap.objs.size (.tup [y, .str ⟨#[c]⟩])) h'' s.heap.objs.size (.tup [y, .str ⟨#[c]⟩]) :=
      ⟨by show 2 ≤ sizeLine; decide, [x1, .str ⟨#[c]⟩ u], .cons ru1 (.cons ⟨_, rfl⟩ .nil), ⟨_, hT2, rfl, _, rfl⟩⟩
    have I1 : Inv X pins σ (upd H s.heap.objs.size (.tup [y, .str ⟨#[c]⟩])) { s with heap := h'', toks := tk } :=
      I.turnedNew (ch := [z, TI, TO, i1, i2]) (fun c o hb q => (sb.2 c (fun q' => hb (by simp [q']))).trans (hk c o (fun q' => hb (by simp [q'])) (fun q' => hb (by simp [q'])) (fun q' => hb (by simp [q'])) (fun q' => hb (by simp [q'])) q)) hf (Nat.le_refl _) new
    refine ⟨.ref s.heap.objs.size, _, I1, rfl, ⟨_, y, c, rfl, I.hok.fresh (Nat.le_refl _), rfl, hy, hcx⟩, ⟨z'', ?_, ⟨x1, .str ⟨#[c]⟩ u, ?_⟩, ?_, ?_, g1, g2⟩, fun c hcm => ?_⟩
    · exact (sb.2 _ D.TIz).trans (hk _ _ D.TIz (Ne.symm hTz) (Ne.symm n4) (Ne.symm n5) hTI)
    · exact (sb.2 _ D.TOz).trans TO'
    · exact s1'.1.at fun o q => (sb.2 _ n2z).trans q
    · obtain ⟨o, ho, r⟩ := s2'
      exact ⟨o, (sb.2 _ n3).trans ho, r⟩
    · have hlt : c < s.heap.objs.size := by
        have e' : c = z ∨ c = TI ∨ c = TO ∨ c = i1 ∨ c = i2 := by simpa using hcm
        rcases e' with q | q | q | q | q
        · rw [q]; exact hzl
        · rw [q]; exact Heap.lt_size hTI
        · rw [q]; exact Heap.lt_size hTO
        · rw [q]; obtain ⟨_, e1, _⟩ := h1; exact Heap.lt_size e1
        · rw [q]; obtain ⟨_, e2, _⟩ := h2; exact Heap.lt_size e2
      rw [upd_ne (Nat.ne_of_lt hlt)]
      exact (hf c hcm).1
  done := by
    intro X hP hw hK hc i pins s σ H E I hf st hg
    subst hP hw hK
    obtain ⟨hz, hTI, ⟨x0, y0, hTO⟩, h1, h2, l1, l2⟩ := st
    obtain ⟨hqx, hend⟩ := hg
    obtain ⟨its, rv, p, _⟩ := I.list hqx
    have pl : s.heap.IsList a its.toArray := p.isList
    have lx := rv.length
    have D1 := Draws.list (prog := X.prog) (w := X.w) (A := X.A.in1) (I.ok.hd hc) i1 a hne its.toArray
    have D2 := draws_str (P := X.prog) (w := X.w) (A := X.A.in1) (I.ok.hd hc) i2 x t
    exact wpAny_pyNext_zipD2_end D D1 D2 hz hTI hTO ⟨h1, pl⟩ h2 (by simp; omega) l2 (by simp; omega) fun h' tk hk => ⟨rfl, I.turnedL (ch := [z, TI, TO, i1, i2]) (fun c o hb q =>
      hk c o (fun q' => hb (by simp [q'])) (fun q' => hb (by simp [q'])) (fun q' => hb (by simp [q'])) (fun q' => hb (by simp [q'])) q) hf⟩
  self := fun A i s Q E st h => wpAny_pyIter_zip st.1 h
def iZipS (K : PySem.W.Frag) (ta : TA) : TI := fun σ H R => ta σ H fun vs H1 => ∃ a x xs, vs = [.ref a, .str x] ∧ SqL K H1 a xs ∧ R (ItzS K a xs x) H1
theorem fresh5 {X : Cx} {pins : List (Addr × Obj)} {σ : L2.St} {H : Hp} {s : Shared} (I1 : Inv X pins σ H s) (k : List Nat) : ∀ c, c ∈ k.map (s.heap.objs.size + ·) → FpOk X pins H c := fun c hcm => by
  obtain ⟨n, _, rfl⟩ := List.mem_map.mp hcm
  exact I1.fpOk (Nat.le_add_right _ _) (I1.hok.fresh (Nat.le_add_right _ _))
theorem pi_zipS {X : Cx} {e e2 : Expr} {ta : TA} {p pos tpos : Pos} {elts : List Expr} {kk : Nat} (hg : Gl X "zip") (hm : X.mg "zip" = none) (ha : PA X [e, e2] ta)
    (hs : starEach [e, e2] X.env = (false, eval e X.env) :: starEach [e2] X.env := by rfl) (hpl : (backTo pos (starEach [e2] X.env)).any (·.1) = false := by rfl) :
    PI X (.Tuple elts kk tpos) (.Call (.Name "zip" p) [e, e2] [] pos) (iZipS X.K ta) := by
  refine ⟨fun pins s σ H R I h => ?_⟩
  refine Call_ (ld_blt I hg hm PyProof.Rows.boot_zip (PyProof.Rows.callWith_type1 (thn (ha.run pos pins s σ H _ I h) fun us s1 ⟨vs, H1, I1, r1, q1⟩ => ?_) hs hpl))
  obtain ⟨a, x, xs, ex, hqx, q⟩ := q1
  subst ex
  cases r1 with
  | cons r rr =>
    cases rr with
    | cons r' rr =>
      cases rr
      cases r
      obtain ⟨t, rfl⟩ := r'
      obtain ⟨its, rv, p1, _⟩ := I1.list hqx
      have pl : s1.heap.IsList a its.toArray := p1.isList
      have la : a < s1.heap.objs.size := p1.lt
      refine zip_begins2 (begins_list a its.toArray) (begins_text x t) pl trivial fun h' hz hTI hTO h1 h2 hsz hk => wpAny_pyIter_zip hz ?_
      have I2 : Inv X pins σ H1 { s1 with heap := h' } := I1.kept (t' := s1.toks) hk
      have D := zip_sep2 (N := s1.heap.objs.size) (fp1 := [a]) (fp2 := []) (by simpa using la) (by simp)
      have F := fresh5 I1 [4, 2, 3, 0, 1]
      have nk : ∀ i j : Nat, i ≠ j → s1.heap.objs.size + i ≠ s1.heap.objs.size + j := fun i j h z => h (Nat.add_left_cancel z)
      have nk0 : ∀ j : Nat, 0 ≠ j → s1.heap.objs.size ≠ s1.heap.objs.size + j := fun j h z => nk 0 j h z
      have nn : ∀ {b : Nat}, b < s1.heap.objs.size → b ≠ s1.heap.objs.size := fun h => Nat.ne_of_lt h
      exact ⟨s1.heap.objs.size + 4, [s1.heap.objs.size + 4, s1.heap.objs.size + 2, s1.heap.objs.size + 3, s1.heap.objs.size, s1.heap.objs.size + 1], _, _, H1, rfl, I2, turn_zipS x t D (nn la) (nk 3 2 (by decide)) (nk0 4 (by decide)) (nk 1 4 (by decide)) (nk0 2 (by decide)) (nk 1 2 (by decide)), ⟨hz, hTI, ⟨_, _, hTO⟩, ⟨_, h1, rfl, rfl⟩, ⟨_, h2, rfl, rfl⟩, Nat.zero_le _, Nat.zero_le _⟩, fun b hb => F b (by simpa using hb), q⟩
end
section
variable {G : Gm} {W : WX}
theorem it_zipS {t1 : Hs} {a : Addr} {vs : List V} {l : List D} {z : Str} (h : ∀ t, Up t1 t → Same t.f t.h → SqL G.K t.h a vs ∧ IsL G t.as t.f vs l) : ItOk G t1 (ItzS G.K a vs z) (zipD l (z.cps.toList.map fun c => .str ⟨#[c]⟩)) := by
  intro i t st u k
  obtain ⟨q, il⟩ := h t u k.sf
  refine ⟨fun hi => ⟨q, by rw [il.len]; rw [zipD_len] at hi; simp at hi; omega⟩, fun d hd => ?_⟩
  obtain ⟨x, y, h1, h2, rfl⟩ := zipD_get hd
  obtain ⟨v, h3, h4⟩ := il.get h1
  rw [List.getElem?_map] at h2
  cases q2 : z.cps.toList[i]? with
  | none => rw [q2] at h2; cases h2
  | some c =>
    rw [q2] at h2
    cases h2
    have hi : i < z.cps.size := by
      have := (List.getElem?_eq_some_iff.mp q2).1
      simpa using this
    have hi1 : i < vs.length := (List.getElem?_eq_some_iff.mp h3).1
    refine ⟨⟨q, hi1, hi⟩, fun y H' w => ?_⟩
    obtain ⟨T, y', c', rfl, hT, rfl, hy, hc⟩ := w
    rw [h3] at hy; cases hy
    have : z.cps[i]? = some c := by rw [← Array.getElem?_toList]; exact q2
    rw [this] at hc; cases hc
    have sn := same_new (o := .tup [v, .str ⟨#[c]⟩]) (k.sf.free hT)
    exact ⟨⟨t.as, upd t.f T _, upd t.h T _⟩, rfl, Gro.new k hT, k.grow hT, .tup (SqT.of upd_same) (.cons (h4.up (Ext.refl _) sn) (.cons (.str _) .nil))⟩
def dZipS (f : En → AR) : En → AR := fun E => match f E with
  | .ok true [.lst l, .str z] st => .ok true (zipD l (z.cps.toList.map fun c => .str ⟨#[c]⟩)) st
  | .exc c l st => .exc c l st
  | _ => .bad
@[simp] theorem e_dZipS {f : En → AR} {E : En} : dZipS f E = match f E with
  | .ok true [.lst l, .str z] st => .ok true (zipD l (z.cps.toList.map fun c => .str ⟨#[c]⟩)) st
  | .exc c l st => .exc c l st
  | _ => .bad := rfl
theorem i_zipS {ta : TA} {f : En → AR} (h : DAr G W ta f) : DIt G W (iZipS G.K ta) (dZipS f) := by
  intro s t σ e st E k R post
  refine h s t σ e st E k _ ?_
  unfold dZipS at post
  cases q : f ⟨e, st⟩ with
  | ok p l st1 =>
    rw [q] at post
    cases p with
    | false => exact post.elim
    | true =>
      match l, post with
      | [], post => exact post.elim
      | [d], post => cases d <;> exact post.elim
      | [d, d'], post =>
        cases d <;> first | exact post.elim | skip
        cases d' <;> first | exact post.elim | skip
        intro t' vs g k' i0 u0
        have i := i0 rfl
        clear i0
        obtain ⟨v1, v2, rfl, hv1, hv2⟩ := u0.two
        obtain rfl := hv2.str
        cases i with
        | cons i j =>
          cases i with
          | lst a b => exact ⟨_, _, _, rfl, SqL.of (k'.sf _ _ a), post t' _ g k' (it_zipS (fun t2 u s2 => ⟨SqL.of (s2 _ _ (u.f _ _ a)), b.up u.a u.f⟩))⟩
      | a :: b :: c :: l, post => cases a <;> first | exact post.elim | (cases b <;> exact post.elim)
  | exc c l st1 => rw [q] at post; exact post
  | bad => rw [q] at post; exact post
end
section
def Itz3 (K : PySem.W.Frag) (a b c : Addr) (xs ys zs : List V) : It :=
  ⟨fun i H => (SqL K H a xs ∧ SqL K H b ys ∧ SqL K H c zs) ∧ i < xs.length ∧ i < ys.length ∧ i < zs.length,
    fun i H v H' => ∃ T x y u, v = .ref T ∧ H T = none ∧ H' = upd H T (.tup [x, y, u]) ∧ xs[i]? = some x ∧ ys[i]? = some y ∧ zs[i]? = some u,
    fun i H => (SqL K H a xs ∧ SqL K H b ys ∧ SqL K H c zs) ∧ (xs.length ≤ i ∨ ys.length ≤ i ∨ zs.length ≤ i)⟩
theorem turn_zip3 {P : Program} {w : World} {K : PySem.W.Frag} {elts : List Expr} {kk : Nat} {tpos : Pos} {a b c z TI TO i1 i2 i3 : Addr} {xs ys zs : List V} (D : ZipSep3 z TI TO i1 i2 i3 [i1, a] [i2, b] [i3, c]) (na : a ≠ i1) (nb : b ≠ i2) (nc : c ≠ i3) (hTz : TO ≠ TI) (n1 : i1 ≠ z) (n2 : i2 ≠ z) (n3 : i3 ≠ z) (m1 : i1 ≠ TI) (m2 : i2 ≠ TI) (m3 : i3 ≠ TI) :
    Turn P w K (.Tuple elts kk tpos) (Itz3 K a b c xs ys zs) [z, TI, TO, i1, i2, i3] z (fun i h => IsZip h z TI TO .none ∧ IsTupOf3 h TI (.ref i1) (.ref i2) (.ref i3) ∧ (∃ x y u, IsTupOf3 h TO x y u) ∧ h.IsListIter i1 a i ∧ h.IsListIter i2 b i ∧ h.IsListIter i3 c i ∧ i ≤ xs.length ∧ i ≤ ys.length ∧ i ≤ zs.length) where
  mem := by simp
  obj := fun i h st c hc => by
    obtain ⟨hz, hTI, ⟨x, y, u, hTO⟩, ⟨o1, e1, _, d1⟩, ⟨o2, e2, _, d2⟩, ⟨o3, e3, _, d3⟩, _⟩ := st
    have e' : c = z ∨ c = TI ∨ c = TO ∨ c = i1 ∨ c = i2 ∨ c = i3 := by simpa using hc
    rcases e' with q | q | q | q | q | q
    · rw [q]; exact ⟨_, hz, fun v q => nomatch q⟩
    · rw [q]; exact ⟨_, hTI, fun v q => nomatch q⟩
    · rw [q]; exact ⟨_, hTO, fun v q => nomatch q⟩
    · rw [q]; exact ⟨o1, e1, fun v q => by rw [d1] at q; cases q⟩
    · rw [q]; exact ⟨o2, e2, fun v q => by rw [d2] at q; cases q⟩
    · rw [q]; exact ⟨o3, e3, fun v q => by rw [d3] at q; cases q⟩
  keep := fun i h h' st k => by
    obtain ⟨hz, hTI, ⟨x, y, u, hTO⟩, h1, h2, h3, l⟩ := st
    exact ⟨k z (by simp) _ hz, k TI (by simp) _ hTI, ⟨x, y, u, k TO (by simp) _ hTO⟩, h1.at fun o q => k i1 (by simp) o q, h2.at fun o q => k i2 (by simp) o q, h3.at fun o q => k i3 (by simp) o q, l⟩
  item := by
    intro X hP hw hK hc i pins s σ H E I hf st hg
    subst hP hw hK
    obtain ⟨hz, hTI, ⟨x0, y0, u0, hTO⟩, h1, h2, h3, l1, l2, l3⟩ := st
    obtain ⟨⟨hqx, hqy, hqz⟩, g1, g2, g3⟩ := hg
    obtain ⟨its, rv, p, _⟩ := I.list hqx
    obtain ⟨its2, rv2, p2, _⟩ := I.list hqy
    obtain ⟨its3, rv3, p3, _⟩ := I.list hqz
    have pl : s.heap.IsList a its.toArray := p.isList
    have pl2 : s.heap.IsList b its2.toArray := p2.isList
    have pl3 : s.heap.IsList c its3.toArray := p3.isList
    have lx := rv.length
    have ly := rv2.length
    have lz := rv3.length
    have D1 := Draws.list (prog := X.prog) (w := X.w) (A := X.A.in1) (I.ok.hd hc) i1 a na its.toArray
    have D2 := Draws.list (prog := X.prog) (w := X.w) (A := X.A.in1) (I.ok.hd hc) i2 b nb its2.toArray
    have D3 := Draws.list (prog := X.prog) (w := X.w) (A := X.A.in1) (I.ok.hd hc) i3 c nc its3.toArray
    have hzl : z < s.heap.objs.size := Heap.lt_size hz
    refine wpAny_pyNext_zipD3_item D D1 D2 D3 hz hTI hTO ⟨h1, pl⟩ ⟨h2, pl2⟩ ⟨h3, pl3⟩ (by simp; omega) (by simp; omega) (by simp; omega) fun x1 x2 x3 h' tk y1 y2 y3 hz' TO' s1' s2' s3' hT hsz hk => ?_
    have hy1 : its[i]? = some x1 := by simpa using y1
    have hy2 : its2[i]? = some x2 := by simpa using y2
    have hy3 : its3[i]? = some x3 := by simpa using y3
    obtain ⟨x, hx⟩ : ∃ y, xs[i]? = some y := ⟨_, List.getElem?_eq_getElem g1⟩
    obtain ⟨y, hy⟩ : ∃ y, ys[i]? = some y := ⟨_, List.getElem?_eq_getElem g2⟩
    obtain ⟨u, hu⟩ : ∃ y, zs[i]? = some y := ⟨_, List.getElem?_eq_getElem g3⟩
    obtain ⟨u1, hu1, ru1⟩ := rv.get hx
    obtain ⟨u2, hu2, ru2⟩ := rv2.get hy
    obtain ⟨u3, hu3, ru3⟩ := rv3.get hu
    rw [hy1] at hu1
    rw [hy2] at hu2
    rw [hy3] at hu3
    obtain rfl := Option.some.inj hu1
    obtain rfl := Option.some.inj hu2
    obtain rfl := Option.some.inj hu3
    refine ⟨_, rfl, wpAny_letOwnedTupleGo_zip (s := { s with heap := h', toks := tk }) hz' fun h'' z'' sb => ?_⟩
    have hT2 : h''.get? s.heap.objs.size = some { cls := .type "tuple", data := .seq #[x1, x2, x3] } := (sb.2 _ (Nat.ne_of_gt hzl)).trans hT
    have new : ObjOk X.prog X.w (upd H s.heap.objs.size (.tup [x, y, u])) h'' s.heap.objs.size (.tup [x, y, u]) :=
      ⟨by show 3 ≤ sizeLine; decide, [x1, x2, x3], .cons ru1 (.cons ru2 (.cons ru3 .nil)), ⟨_, hT2, rfl, _, rfl⟩⟩
    have I1 : Inv X pins σ (upd H s.heap.objs.size (.tup [x, y, u])) { s with heap := h'', toks := tk } :=
      I.turnedNew (ch := [z, TI, TO, i1, i2, i3]) (fun c o hb q => (sb.2 c (fun q' => hb (by simp [q']))).trans (hk c o (fun q' => hb (by simp [q'])) (fun q' => hb (by simp [q'])) (fun q' => hb (by simp [q'])) (fun q' => hb (by simp [q'])) (fun q' => hb (by simp [q'])) q)) hf (Nat.le_refl _) new
    refine ⟨.ref s.heap.objs.size, _, I1, rfl, ⟨_, x, y, u, rfl, I.hok.fresh (Nat.le_refl _), rfl, hx, hy, hu⟩, ⟨z'', ?_, ⟨x1, x2, x3, ?_⟩, ?_, ?_, ?_, g1, g2, g3⟩, fun c hcm => ?_⟩
    · exact (sb.2 _ D.TIz).trans (hk _ _ D.TIz (Ne.symm hTz) (Ne.symm m1) (Ne.symm m2) (Ne.symm m3) hTI)
    · exact (sb.2 _ D.TOz).trans TO'
    · exact s1'.1.at fun o q => (sb.2 _ n1).trans q
    · exact s2'.1.at fun o q => (sb.2 _ n2).trans q
    · exact s3'.1.at fun o q => (sb.2 _ n3).trans q
    · have hlt : c < s.heap.objs.size := by
        have e' : c = z ∨ c = TI ∨ c = TO ∨ c = i1 ∨ c = i2 ∨ c = i3 := by simpa using hcm
        rcases e' with q | q | q | q | q | q
        · rw [q]; exact hzl
        · rw [q]; exact Heap.lt_size hTI
        · rw [q]; exact Heap.lt_size hTO
        · rw [q]; obtain ⟨_, e1, _⟩ := h1; exact Heap.lt_size e1
        · rw [q]; obtain ⟨_, e2, _⟩ := h2; exact Heap.lt_size e2
        · rw [q]; obtain ⟨_, e3, _⟩ := h3; exact Heap.lt_size e3
      rw [upd_ne (Nat.ne_of_lt hlt)]
      exact (hf c hcm).1
  done := by
    intro X hP hw hK hc i pins s σ H E I hf st hg
    subst hP hw hK
    obtain ⟨hz, hTI, ⟨x0, y0, u0, hTO⟩, h1, h2, h3, l1, l2, l3⟩ := st
    obtain ⟨⟨hqx, hqy, hqz⟩, hend⟩ := hg
    obtain ⟨its, rv, p, _⟩ := I.list hqx
    obtain ⟨its2, rv2, p2, _⟩ := I.list hqy
    obtain ⟨its3, rv3, p3, _⟩ := I.list hqz
    have pl : s.heap.IsList a its.toArray := p.isList
    have pl2 : s.heap.IsList b its2.toArray := p2.isList
    have pl3 : s.heap.IsList c its3.toArray := p3.isList
    have lx := rv.length
    have ly := rv2.length
    have lz := rv3.length
    have D1 := Draws.list (prog := X.prog) (w := X.w) (A := X.A.in1) (I.ok.hd hc) i1 a na its.toArray
    have D2 := Draws.list (prog := X.prog) (w := X.w) (A := X.A.in1) (I.ok.hd hc) i2 b nb its2.toArray
    have D3 := Draws.list (prog := X.prog) (w := X.w) (A := X.A.in1) (I.ok.hd hc) i3 c nc its3.toArray
    exact wpAny_pyNext_zipD3_end D D1 D2 D3 hz hTI hTO ⟨h1, pl⟩ ⟨h2, pl2⟩ ⟨h3, pl3⟩ (by simp; omega) (by simp; omega) (by simp; omega) (by simp; omega) fun h' tk hk => ⟨rfl, I.turnedL (ch := [z, TI, TO, i1, i2, i3]) (fun c o hb q =>
      hk c o (fun q' => hb (by simp [q'])) (fun q' => hb (by simp [q'])) (fun q' => hb (by simp [q'])) (fun q' => hb (by simp [q'])) (fun q' => hb (by simp [q'])) q) hf⟩
  self := fun A i s Q E st h => wpAny_pyIter_zip st.1 h
def iZip3 (K : PySem.W.Frag) (ta : TA) : TI := fun σ H R => ta σ H fun vs H1 => ∃ a b c xs ys zs, vs = [.ref a, .ref b, .ref c] ∧ (SqL K H1 a xs ∧ SqL K H1 b ys ∧ SqL K H1 c zs) ∧ R (Itz3 K a b c xs ys zs) H1
theorem pi_zip3 {X : Cx} {e e2 e3 : Expr} {ta : TA} {p pos tpos : Pos} {elts : List Expr} {kk : Nat} (hg : Gl X "zip") (hm : X.mg "zip" = none) (ha : PA X [e, e2, e3] ta)
    (hs : starEach [e, e2, e3] X.env = (false, eval e X.env) :: starEach [e2, e3] X.env := by rfl) (hpl : (backTo pos (starEach [e2, e3] X.env)).any (·.1) = false := by rfl) :
    PI X (.Tuple elts kk tpos) (.Call (.Name "zip" p) [e, e2, e3] [] pos) (iZip3 X.K ta) := by
  refine ⟨fun pins s σ H R I h => ?_⟩
  refine Call_ (ld_blt I hg hm PyProof.Rows.boot_zip (PyProof.Rows.callWith_type1 (thn (ha.run pos pins s σ H _ I h) fun us s1 ⟨vs, H1, I1, r1, q1⟩ => ?_) hs hpl))
  obtain ⟨a, b, c, xs, ys, zs, ex, ⟨hqx, hqy, hqz⟩, q⟩ := q1
  subst ex
  cases r1 with
  | cons r rr =>
    cases rr with
    | cons r' rr =>
      cases rr with
      | cons r'' rr =>
        cases rr
        cases r
        cases r'
        cases r''
        obtain ⟨its, rv, p1, _⟩ := I1.list hqx
        obtain ⟨its2, rv2, p2, _⟩ := I1.list hqy
        obtain ⟨its3, rv3, p3, _⟩ := I1.list hqz
        have pl : s1.heap.IsList a its.toArray := p1.isList
        have pl2 : s1.heap.IsList b its2.toArray := p2.isList
        have pl3 : s1.heap.IsList c its3.toArray := p3.isList
        have la : a < s1.heap.objs.size := p1.lt
        have lb : b < s1.heap.objs.size := p2.lt
        have lc : c < s1.heap.objs.size := p3.lt
        refine zip_begins3 (begins_list a its.toArray) (begins_list b its2.toArray) (begins_list c its3.toArray) pl pl2 pl3 fun h' hz hTI hTO h1 h2 h3 hsz hk => wpAny_pyIter_zip hz ?_
        have I2 : Inv X pins σ H1 { s1 with heap := h' } := I1.kept (t' := s1.toks) hk
        have D := zip_sep3 (N := s1.heap.objs.size) (fp1 := [a]) (fp2 := [b]) (fp3 := [c]) (by simpa using la) (by simpa using lb) (by simpa using lc)
        have F := fresh5 I1 [5, 3, 4, 0, 1, 2]
        have nk : ∀ i j : Nat, i ≠ j → s1.heap.objs.size + i ≠ s1.heap.objs.size + j := fun i j h z => h (Nat.add_left_cancel z)
        have nk0 : ∀ j : Nat, 0 ≠ j → s1.heap.objs.size ≠ s1.heap.objs.size + j := fun j h z => nk 0 j h z
        have nn : ∀ {b : Nat} (j : Nat), b < s1.heap.objs.size → b ≠ s1.heap.objs.size + j := fun j h => Nat.ne_of_lt (Nat.lt_of_lt_of_le h (Nat.le_add_right _ _))
        exact ⟨s1.heap.objs.size + 5, [s1.heap.objs.size + 5, s1.heap.objs.size + 3, s1.heap.objs.size + 4, s1.heap.objs.size, s1.heap.objs.size + 1, s1.heap.objs.size + 2], _, _, H1, rfl, I2,
          turn_zip3 D (nn 0 la) (nn 1 lb) (nn 2 lc) (nk 4 3 (by decide)) (nk0 5 (by decide)) (nk 1 5 (by decide)) (nk 2 5 (by decide)) (nk0 3 (by decide)) (nk 1 3 (by decide)) (nk 2 3 (by decide)), ⟨hz, hTI, ⟨_, _, _, hTO⟩, ⟨_, h1, rfl, rfl⟩, ⟨_, h2, rfl, rfl⟩, ⟨_, h3, rfl, rfl⟩, Nat.zero_le _, Nat.zero_le _, Nat.zero_le _⟩, fun b hb => F b (by simpa using hb), q⟩
end
section
variable {G : Gm} {W : WX}
def zipD3 : List D → List D → List D → List D
  | a :: l, b :: m, c :: n => .tup [a, b, c] :: zipD3 l m n
  | _, _, _ => []
theorem zipD3_len : ∀ l m n : List D, (zipD3 l m n).length = min l.length (min m.length n.length)
  | [], _, _ => by simp [zipD3]
  | _ :: _, [], _ => by simp [zipD3]
  | _ :: _, _ :: _, [] => by simp [zipD3]
  | a :: l, b :: m, c :: n => by simp [zipD3, zipD3_len l m n]
theorem zipD3_get : ∀ {l m n : List D} {i : Nat} {d : D}, (zipD3 l m n)[i]? = some d → ∃ x y z, l[i]? = some x ∧ m[i]? = some y ∧ n[i]? = some z ∧ d = .tup [x, y, z]
  | [], _, _, _, _, h => by simp [zipD3] at h
  | _ :: _, [], _, _, _, h => by simp [zipD3] at h
  | _ :: _, _ :: _, [], _, _, h => by simp [zipD3] at h
  | a :: l, b :: m, c :: n, 0, d, h => by
    simp [zipD3] at h
    exact ⟨a, b, c, rfl, rfl, rfl, h.symm⟩
  | a :: l, b :: m, c :: n, i + 1, d, h => by
    simp [zipD3] at h
    obtain ⟨x, y, z, h1, h2, h3, h4⟩ := zipD3_get h
    exact ⟨x, y, z, by simpa using h1, by simpa using h2, by simpa using h3, h4⟩
theorem it_zip3 {t1 : Hs} {a b c : Addr} {vs ws us : List V} {l m n : List D} (h : ∀ t, Up t1 t → Same t.f t.h → (SqL G.K t.h a vs ∧ IsL G t.as t.f vs l) ∧ (SqL G.K t.h b ws ∧ IsL G t.as t.f ws m) ∧ (SqL G.K t.h c us ∧ IsL G t.as t.f us n)) : ItOk G t1 (Itz3 G.K a b c vs ws us) (zipD3 l m n) := by
  intro i t st u k
  obtain ⟨⟨q1, il⟩, ⟨q2, im⟩, ⟨q3, iu⟩⟩ := h t u k.sf
  refine ⟨fun hi => ⟨⟨q1, q2, q3⟩, by rw [il.len, im.len, iu.len]; rw [zipD3_len] at hi; omega⟩, fun d hd => ?_⟩
  obtain ⟨x, y, z, h1, h2, h3, rfl⟩ := zipD3_get hd
  obtain ⟨v, e1, f1⟩ := il.get h1
  obtain ⟨w, e2, f2⟩ := im.get h2
  obtain ⟨r, e3, f3⟩ := iu.get h3
  refine ⟨⟨⟨q1, q2, q3⟩, (List.getElem?_eq_some_iff.mp e1).1, (List.getElem?_eq_some_iff.mp e2).1, (List.getElem?_eq_some_iff.mp e3).1⟩, fun y H' w => ?_⟩
  obtain ⟨T, x', y', u', rfl, hT, rfl, hx, hy, hu⟩ := w
  rw [e1] at hx; cases hx
  rw [e2] at hy; cases hy
  rw [e3] at hu; cases hu
  have sn := same_new (o := .tup [v, w, r]) (k.sf.free hT)
  exact ⟨⟨t.as, upd t.f T _, upd t.h T _⟩, rfl, Gro.new k hT, k.grow hT, .tup (SqT.of upd_same) (.cons (f1.up (Ext.refl _) sn) (.cons (f2.up (Ext.refl _) sn) (.cons (f3.up (Ext.refl _) sn) .nil)))⟩
def dZip3 (f : En → AR) : En → AR := fun E => match f E with
  | .ok true [.lst l, .lst m, .lst n] st => .ok true (zipD3 l m n) st
  | .exc c l st => .exc c l st
  | _ => .bad
@[simp] theorem e_dZip3 {f : En → AR} {E : En} : dZip3 f E = match f E with
  | .ok true [.lst l, .lst m, .lst n] st => .ok true (zipD3 l m n) st
  | .exc c l st => .exc c l st
  | _ => .bad := rfl
theorem i_zip3 {ta : TA} {f : En → AR} (h : DAr G W ta f) : DIt G W (iZip3 G.K ta) (dZip3 f) := by
  intro s t σ e st E k R post
  refine h s t σ e st E k _ ?_
  unfold dZip3 at post
  cases q : f ⟨e, st⟩ with
  | ok p l st1 =>
    rw [q] at post
    cases p with
    | false => exact post.elim
    | true =>
      match l, post with
      | [], post => exact post.elim
      | [d], post => cases d <;> exact post.elim
      | [d, d'], post => cases d <;> first | exact post.elim | (cases d' <;> exact post.elim)
      | [d, d', d''], post =>
        cases d <;> first | exact post.elim | skip
        cases d' <;> first | exact post.elim | skip
        cases d'' <;> first | exact post.elim | skip
        intro t' vs g k' i0 u0
        have i := i0 rfl
        clear i0
        cases i with
        | cons i j =>
          cases j with
          | cons j j2 =>
            cases j2 with
            | cons j2 j3 =>
              cases j3
              cases i with
              | lst a b =>
                cases j with
                | lst a' b' =>
                  cases j2 with
                  | lst a2 b2 => exact ⟨_, _, _, _, _, _, rfl, ⟨SqL.of (k'.sf _ _ a), SqL.of (k'.sf _ _ a'), SqL.of (k'.sf _ _ a2)⟩, post t' _ g k' (it_zip3 (fun t2 u s2 => ⟨⟨SqL.of (s2 _ _ (u.f _ _ a)), b.up u.a u.f⟩, ⟨SqL.of (s2 _ _ (u.f _ _ a')), b'.up u.a u.f⟩, ⟨SqL.of (s2 _ _ (u.f _ _ a2)), b2.up u.a u.f⟩⟩))⟩
      | a :: b :: c :: d :: l, post => cases a <;> first | exact post.elim | (cases b <;> first | exact post.elim | (cases c <;> exact post.elim))
  | exc c l st1 => rw [q] at post; exact post
  | bad => rw [q] at post; exact post
end
end Dn
namespace Dn
open PySem PySem.Spec PyProof.Rows L2
section
variable {G : Gm} {W : WX}
def sAug (x : Nat) (o : Int → Int → Int) (fe : En → ER) : En → SR := fun E => match E.e[x]? with
  | some (.val (.int a)) => (match fe E with
    | .val _ (.int b) st => .nx ⟨E.e.set x (.val (.int (o a b))), st⟩
    | _ => .bad)
  | _ => .bad
@[simp] theorem e_sAug {x : Nat} {o : Int → Int → Int} {fe : En → ER} {E : En} : sAug x o fe E = match E.e[x]? with
  | some (.val (.int a)) => (match fe E with
    | .val _ (.int b) st => .nx ⟨E.e.set x (.val (.int (o a b))), st⟩
    | _ => .bad)
  | _ => .bad := rfl
theorem s_aug {x : Nat} {o : Int → Int → Int} {te : TE} {fe : En → ER} (he : DEv G W te fe) : DSt G W (tAug x te (ipI o)) (sAug x o fe) := by
  intro s t σ e st E k N post
  unfold sAug at post
  split at post
  · rename_i a hx
    split at post
    · rename_i m b st1 hfe
      obtain ⟨o', hσ, v, rfl, ov⟩ := E.slot hx
      obtain rfl : v = .int a := by cases ov; rfl
      refine ⟨.int a, hσ, ?_⟩
      refine he s t σ e st E k _ ?_
      have hfe' : fe ⟨e, st⟩ = .val m (.int b) st1 := hfe
      rw [hfe']
      intro t1 w g1 k1 o1
      obtain rfl := o1.u.int
      exact ⟨a, b, rfl, rfl, post t1 _ g1.up ((E.up g1).set ⟨_, rfl, .int _⟩ (fun l z => nomatch z)) k1⟩
    · exact post.elim
  · exact post.elim
def sAugP (o : Int → Int → Int) (fb fi fe : En → ER) : En → SR := fun E => match fb E with
  | .val _ (.ptr n) st1 => (match fi ⟨E.e, st1⟩ with
    | .val _ (.int i) st2 => if 0 ≤ i then (match stLst st2 n with
      | some l => (match ixN l.length i with
        | some j => (match l[j]? with
          | some (.int a) => (match fe ⟨E.e, st2⟩ with
            | .val _ (.int b) st3 => (match stLst st3 n with
              | some l' => (match ixN l'.length i with
                | some j' => .nx ⟨E.e, st3.set n (.lst (l'.set j' (.int (o a b))))⟩
                | none => .bad)
              | none => .bad)
            | _ => .bad)
          | _ => .bad)
        | none => .bad)
      | none => .bad) else .bad
    | _ => .bad)
  | _ => .bad
theorem s_augP {o : Int → Int → Int} {tb ti te : TE} {fb fi fe : En → ER} (hb : DEv G W tb fb) (hi : DEv G W ti fi) (he : DEv G W te fe) : DSt G W (tAugS tb ti te rGetL (ipI o) rSetL) (sAugP o fb fi fe) := by
  intro s t σ e st E k N post
  unfold sAugP at post
  split at post
  · rename_i mb n st1 hfb
    split at post
    · rename_i mi i st2 hfi
      split at post
      · rename_i h0
        split at post
        · rename_i l hl
          split at post
          · rename_i j hj
            split at post
            · rename_i a ha
              split at post
              · rename_i me b st3 hfe
                split at post
                · rename_i l' hl'
                  split at post
                  · rename_i j' hj'
                    have hfb' : fb ⟨e, st⟩ = .val mb (.ptr n) st1 := hfb
                    refine ev_st (N := N) hb E k (fun c l st3 q3 => by rw [hfb'] at q3; cases q3) (fun q3 => by rw [hfb'] at q3; cases q3) fun m0 d0 st0 q0 t1 v g1 k1 o1 => ?_
                    rw [hfb'] at q0; cases q0
                    obtain ⟨p, rfl, hp⟩ := o1.u.ptr
                    have hfi' : fi ⟨e, st1⟩ = .val mi (.int i) st2 := hfi
                    refine ev_st (N := N) hi (E.up g1) k1 (fun c l st3 q3 => by rw [hfi'] at q3; cases q3) (fun q3 => by rw [hfi'] at q3; cases q3) fun m0 d0 st0 q0 t2 v g2 k2 o2 => ?_
                    rw [hfi'] at q0; cases q0
                    obtain rfl := o2.u.int
                    have hp2 := g2.a n p hp
                    obtain ⟨vs, hh, il⟩ := k2.lst hp2 hl
                    obtain ⟨va, ea, iva⟩ := il.get ha
                    obtain rfl : va = .int a := by cases iva; rfl
                    refine ⟨p, vs, i, .int a, rfl, rfl, h0, hh, ixN_at (by rw [il.len]; exact hj) ea, ?_⟩
                    have hfe' : fe ⟨e, st2⟩ = .val me (.int b) st3 := hfe
                    have g12 := g1.trans g2
                    refine ev_st (N := N) he (E.up g12) k2 (fun c l st3 q3 => by rw [hfe'] at q3; cases q3) (fun q3 => by rw [hfe'] at q3; cases q3) fun m0 d0 st0 q0 t3 v g3 k3 o3 => ?_
                    rw [hfe'] at q0; cases q0
                    obtain rfl := o3.u.int
                    have hp3 := g3.a n p hp2
                    obtain ⟨vs', hh', il'⟩ := k3.lst hp3 hl'
                    have g13 := g12.trans g3
                    refine ⟨a, b, rfl, rfl, p, vs', i, j', rfl, rfl, hh', by rw [il'.len]; exact hj', ?_⟩
                    exact post ⟨t3.as, t3.f, upd t3.h p (.lst (vs'.set j' (.int (o a b))))⟩ σ ⟨g13.a, g13.f⟩ ((E.up g13).modS k3 hp3) (k3.mod hp3 ⟨_, upd_same, il'.set (.int _) j'⟩)
                  · exact post.elim
                · exact post.elim
              · exact post.elim
            · exact post.elim
          · exact post.elim
        · exact post.elim
      · exact post.elim
    · exact post.elim
  · exact post.elim
@[simp] theorem e_sAugP {o : Int → Int → Int} {fb fi fe : En → ER} {E : En} : sAugP o fb fi fe E = match fb E with
  | .val _ (.ptr n) st1 => (match fi ⟨E.e, st1⟩ with
    | .val _ (.int i) st2 => if 0 ≤ i then (match stLst st2 n with
      | some l => (match ixN l.length i with
        | some j => (match l[j]? with
          | some (.int a) => (match fe ⟨E.e, st2⟩ with
            | .val _ (.int b) st3 => (match stLst st3 n with
              | some l' => (match ixN l'.length i with
                | some j' => .nx ⟨E.e, st3.set n (.lst (l'.set j' (.int (o a b))))⟩
                | none => .bad)
              | none => .bad)
            | _ => .bad)
          | _ => .bad)
        | none => .bad)
      | none => .bad) else .bad
    | _ => .bad)
  | _ => .bad := rfl
end
section
variable {G : Gm} {W : WX}
def rangeD2 (lo : Int) (n : Nat) : List D := (List.range n).map fun (k : Nat) => .int (lo + (k : Int) * 2)
theorem rangeD2_get {lo : Int} {n i : Nat} {d : D} (h : (rangeD2 lo n)[i]? = some d) : i < n ∧ d = .int (lo + (i : Int) * 2) := by
  unfold rangeD2 at h
  rw [List.getElem?_map] at h
  by_cases hi : i < n
  · rw [List.getElem?_range hi] at h; cases h; exact ⟨hi, rfl⟩
  · rw [List.getElem?_eq_none (by simpa using hi)] at h; cases h
theorem it_range2 {t1 : Hs} (lo : Int) (n : Nat) : ItOk G t1 (Itc lo 2 n) (rangeD2 lo n) := by
  intro i t st u k
  refine ⟨fun hi => by (show n ≤ i); simpa [rangeD2] using hi, fun d hd => ?_⟩
  obtain ⟨hi, rfl⟩ := rangeD2_get hd
  refine ⟨hi, fun x H' y => ?_⟩
  obtain ⟨rfl, rfl⟩ := y
  exact ⟨t, rfl, Gro.refl k, k, .int _⟩
def cnt2 (i j : Int) : Nat := ((j - i + 1) / 2).toNat
theorem rgc2 {i j : Int} (h1 : -(2 ^ 30) ≤ i) (h2 : i < 2 ^ 30) (h3 : -(2 ^ 30) ≤ j) (h4 : j < 2 ^ 30) : RgC i j 2 (cnt2 i j) := by
  have e : Builtin.Range.rangeSize i j 2 = (cnt2 i j : Int) := by
    unfold Builtin.Range.rangeSize cnt2
    simp only [show (2 : Int) > 0 by decide, if_true]
    split <;> omega
  refine ⟨by decide, by decide, ?_, e⟩
  unfold Builtin.Range.small
  rw [e]
  unfold cnt2
  simp only [Builtin.Range.rangeFitsLong, Bool.and_eq_true, Bool.or_eq_true, decide_eq_true_eq, beq_iff_eq, show (2 : Int) > 0 by decide, if_true]
  omega
def rng3 : List D → Option (Int × Nat)
  | [.int i, .int j, .int 2] => if -(2 ^ 30) ≤ i ∧ i < 2 ^ 30 ∧ -(2 ^ 30) ≤ j ∧ j < 2 ^ 30 then some (i, cnt2 i j) else none
  | _ => none
@[simp] theorem e_rng3 {i j : Int} : rng3 [.int i, .int j, .int 2] = if -(2 ^ 30) ≤ i ∧ i < 2 ^ 30 ∧ -(2 ^ 30) ≤ j ∧ j < 2 ^ 30 then some (i, cnt2 i j) else none := rfl
def dRng3 (f : En → AR) : En → AR := fun E => match f E with
  | .ok _ l st => (match rng3 l with | some r => .ok true (rangeD2 r.1 r.2) st | none => .bad)
  | .exc c l st => .exc c l st
  | _ => .bad
@[simp] theorem e_dRng3 {f : En → AR} {E : En} : dRng3 f E = match f E with
  | .ok _ l st => (match rng3 l with | some r => .ok true (rangeD2 r.1 r.2) st | none => .bad)
  | .exc c l st => .exc c l st
  | _ => .bad := rfl
theorem i_range3 {ta : TA} {f : En → AR} (h : DAr G W ta f) : DIt G W (iRng3 ta) (dRng3 f) := by
  intro s t σ e st E k R post
  refine h s t σ e st E k _ ?_
  unfold dRng3 at post
  cases q : f ⟨e, st⟩ with
  | ok p l st1 =>
    rw [q] at post
    intro t1 vs g1 k1 zz u1
    clear zz
    cases hl : rng3 l with
    | none => simp only [hl] at post; exact post.elim
    | some p =>
      simp only [hl] at post
      unfold rng3 at hl
      split at hl
      · rename_i i j
        split at hl
        · rename_i c
          cases hl
          cases u1 with
          | cons a r =>
            cases r with
            | cons b r =>
              cases r with
              | cons c' r =>
                cases r
                obtain rfl := a.int
                obtain rfl := b.int
                obtain rfl := c'.int
                exact ⟨_, _, 2, _, rfl, rgc2 c.1 c.2.1 c.2.2.1 c.2.2.2, post t1 _ g1 k1 (it_range2 _ _)⟩
        · cases hl
      · cases hl
  | exc c l st1 => rw [q] at post; exact post
  | bad => rw [q] at post; exact post
end
end Dn
namespace Dn
open PySem PySem.Spec PyProof.Rows L2
theorem is_strK {P : Program} {w : World} (k : Str) (u : Tok) : (strKind P w).is k (.str k u) = true := by
  show Value.isStrOf k (.str k u) = true
  simp [Value.isStrOf]
def ddS (l : List Str) (k : Str) : List Str := if l.any (· == k) then l else l ++ [k]
def fmS (val : Nat → Str) (i : Nat) : List Str := ((List.range i).map val).foldl ddS []
theorem fmS_succ (val : Nat → Str) (i : Nat) : fmS val (i + 1) = ddS (fmS val i) (val i) := by
  unfold fmS; rw [List.range_succ, List.map_append, List.foldl_append]; rfl
theorem fmS_len (val : Nat → Str) : ∀ i, (fmS val i).length ≤ i
  | 0 => Nat.le_refl _
  | i + 1 => by
    rw [fmS_succ]; unfold ddS
    have ih := fmS_len val i
    split
    · omega
    · rw [List.length_append, List.length_singleton]; omega
theorem ddS_any (σ : List Str) (v k : Str) : (ddS σ v).any (· == k) = (σ.any (· == k) || decide (k = v)) := by
  unfold ddS
  by_cases h : σ.any (· == v) = true
  · rw [if_pos h]
    by_cases e : k = v
    · subst e; rw [h]; simp
    · simp [e]
  · rw [if_neg h, List.any_append]
    have : (v == k) = decide (k = v) := by
      by_cases e : k = v
      · subst e; simp
      · have e' : ¬ v = k := fun z => e z.symm
        simp [e, e']
    simp [this]
theorem ddS_length (σ : List Str) (v : Str) : (ddS σ v).length = if σ.any (· == v) then σ.length else σ.length + 1 := by
  unfold ddS; split <;> simp
section
variable {prog : Program} {w : World} {A : Around} {R : Result → Shared → Prop} {I : Addr} {fp wr : List Addr} {G : Array GenState → Array GenState → Prop} {n : Nat} {P : Nat → Value → Prop} {St : Nat → Shared → Prop}
theorem set_loopT (W : WalksS prog w A.in1 I fp wr G n P St) (S : Addr) (hSf : S ∉ fp)
    (val : Nat → Str) (hval : ∀ i v, P i v → ∃ t, v = .str (val i) t) (hb : n + 1 < scanBound) :
    ∀ (k i : Nat) (s : Shared), n - i = k → i ≤ n → St i s →
      s.heap.SetOf (strKind prog w) S (fun k' => (fmS val i).any (· == k')) (fmS val i).length →
      (∀ s', Moved (S :: wr) G s s' → s'.heap.SetOf (strKind prog w) S (fun k' => (fmS val n).any (· == k')) (fmS val n).length → R (.ok (.ret .none)) s') →
      codeAny (model prog w) A (.builtin "set.update.loop" ⟨[.ref S, .ref I], []⟩) R s := by
  have hSw : S ∉ wr := fun h => hSf (W.sub _ h)
  have hsub : ∀ b ∈ wr, b ∈ S :: wr := fun b hb => List.mem_cons_of_mem _ hb
  intro k
  induction k with
  | zero =>
    intro i s hk hi hst hS hR
    have hin : i = n := by omega
    subst hin
    refine codeAny_builtin F.entry_set_update_loop ?_
    rw [Around.under_plainId F.plain_set_update_loop _]
    show wpAny _ A.in1 (pyNext (.ref I) >>= _) _ _ s
    refine wpAny_bind (W.done s _ _ hst fun s' hm => ?_)
    show wpAny _ A.in1 (ret Value.none) _ _ s'
    exact wpAny_pure (hR s' (hm.mono hsub) (by
      obtain ⟨o, es, ep, t, ho, rest⟩ := hS
      exact ⟨o, es, ep, t, hm.heap S _ hSw ho, rest⟩))
  | succ k ih =>
    intro i s hk hi hst hS hR
    have hlt : i < n := by omega
    refine codeAny_builtin F.entry_set_update_loop ?_
    rw [Around.under_plainId F.plain_set_update_loop _]
    show wpAny _ A.in1 (pyNext (.ref I) >>= _) _ _ s
    refine wpAny_bind (W.item i s _ _ hlt hst fun v s' hP hst' hm => ?_)
    obtain ⟨t, rfl⟩ := hval i v hP
    have hS' : s'.heap.SetOf (strKind prog w) S (fun k' => (fmS val i).any (· == k')) (fmS val i).length := by
      obtain ⟨o, es, ep, tb, ho, rest⟩ := hS
      exact ⟨o, es, ep, tb, hm.heap S _ hSw ho, rest⟩
    show wpAny _ A.in1 (holding [Value.str (val i) t] (setAdd S (.str (val i) t)) >>= _) _ _ s'
    refine wpAny_bind (wpAny_holding ?_)
    unfold setAdd
    refine wpAny_holding ?_
    refine wpAny_bind ((strKind prog w).pyHash (k := val i) (is_strK _ _) ?_)
    have hroom : (fmS val i).length + 1 < scanBound := by have := fmS_len val i; omega
    refine wpAny_setAddHashed_of (knd := strKind prog w) (s := { s' with toks := s'.toks + 1 }) (is_strK _ _) rfl hS' hroom fun h' hsb hS2 => ?_
    have hSi : h'.SetOf (strKind prog w) S (fun k' => (fmS val (i + 1)).any (· == k')) (fmS val (i + 1)).length :=
      SetOf_congr hS2 (fun k' => by rw [fmS_succ, ddS_any]) (by rw [fmS_succ, ddS_length])
    refine wpAny_pure ⟨plainId_quiet F.plain_set_update_loop _, ih (i + 1) _ (by omega) hlt (W.frame _ s' _ _ hst' (Nat.le_succ _) fun b hb o e => ?_) hSi fun s'' hm'' hS'' => ?_⟩
    · rw [hsb.2 b (fun h : b = S => hSf (by rw [← h]; exact hb))]; exact e
    · refine hR s'' (Moved.trans W.gtrans ((hm.mono hsub).then_heap (Nat.le_succ _) fun b o hb e => ?_) hm'') hS''
      rw [hsb.2 b (fun h : b = S => hb (by rw [h]; exact List.mem_cons_self))]; exact e
end
theorem sub_str_set : isSubtype (.type "str") (.type "set") = pure false := by rw [isSubtype_type]; kernel_rfl
theorem sub_str_frozenset : isSubtype (.type "str") (.type "frozenset") = pure false := by rw [isSubtype_type]; kernel_rfl
section
variable {prog : Program} {w : World} {A : Around} {E : Value → Shared → Prop} {s : Shared}
theorem walks_str (hh : A.handled = none) (it : Addr) (x : Str) (t : Tok) : Walks prog w A it [it] [it] x.cps.size (SignAt x) (fun i h => h.IsStrIter it (strIterType x) x t i) := by
  unfold strIterType
  split
  · exact Walks.strAscii hh it x t
  · exact Walks.strWide hh it x t
def sgn (x : Str) (i : Nat) : Str := ⟨#[x.cps.getD i 0]⟩
theorem call_set_text {x : Str} {t : Tok} {Q : Value → Shared → Prop}
    (hh : A.handled = none) (hb : x.cps.size + 1 < scanBound)
    (h : ∀ (h' : Heap) (tk : Nat), h'.SetOf (strKind prog w) s.heap.objs.size (fun k' => (fmS (sgn x) x.cps.size).any (· == k')) (fmS (sgn x) x.cps.size).length →
      (∀ b o, b < s.heap.objs.size → s.heap.get? b = some o → h'.get? b = some o) → Q (.ref s.heap.objs.size) { s with heap := h', toks := tk }) :
    wpAny (model prog w) A (call (.type "set") [.str x t]) Q E s := by
  obtain ⟨c, tl, hmro⟩ := PySem.F.called_set.mro
  have hmade := PySem.F.called_set.made
  have hsub := PySem.F.called_set.sub
  refine wpAny_call (codeAny_of_tree ?_)
  show wpAny _ _ (callAny (.type "set") _) _ _ _
  refine wpAny_pure ⟨Code.quiet_builtin _ (by decide +kernel), codeAny_builtin PySem.F.entry_type_call ?_⟩
  rw [Around.under_plain (weight_type_call_type "set" [.str x t] []) rfl]
  have h1 := PySem.F.called_set.notType
  have h2 := PySem.F.called_set.canCreate
  have hct := PySem.F.typeCall_set_1 (.str x t)
  repeat (any_goals (first | assumption | wp_step))
  refine codeAny_mono (code_set_new_1 (.str x t) (E := E) (Q₁ := fun obj s₁ => ∃ led : Bool, obj = .ref s.heap.objs.size ∧ s₁ = { s with heap := s.heap.push { cls := .type "set", dict := none, data := .set #[] 0 (.fresh 0 0 led) } }) fun led => ⟨led, rfl, rfl⟩) fun r s₁ hr => ?_
  cases r with
  | error e => exact hr
  | ok fl =>
    cases fl with
    | ret obj =>
      obtain ⟨led, rfl, rfl⟩ := hr
      have hS : (s.heap.push { cls := .type "set", dict := none, data := .set #[] 0 (.fresh 0 0 led) }).get? s.heap.objs.size = some { cls := .type "set", dict := none, data := .set #[] 0 (.fresh 0 0 led) } := Heap.get?_push_size _ rfl
      have hT : Shared.TypeIs { s with heap := s.heap.push { cls := .type "set", dict := none, data := .set #[] 0 (.fresh 0 0 led) } } (.ref s.heap.objs.size) "set" := ⟨_, hS, rfl⟩
      have hli := PySem.F.called_set.init.lookup
      have hbi := PySem.F.called_set.init.bind (.ref s.heap.objs.size)
      repeat (any_goals (first | assumption | wp_step))
      refine codeAny_mono (codeAny_call_builtin (R := wants (fun r s₂ => r = .none ∧ ∃ h' tk, s₂ = { s with heap := h', toks := tk } ∧
          h'.SetOf (strKind prog w) s.heap.objs.size (fun k' => (fmS (sgn x) x.cps.size).any (· == k')) (fmS (sgn x) x.cps.size).length ∧
          (∀ b o, b < s.heap.objs.size → s.heap.get? b = some o → h'.get? b = some o)) E) PySem.F.called_set.init.plain PySem.F.entry_set_init (check_set_init_1 hT ?_)) fun r₂ s₂ hr₂ => ?_
      · have hsls := sub_str_set
        have hslf := sub_str_frozenset
        have hne : (Value.type "str" == Value.type "dict") = false := by decide
        unfold Builtin.«set.__init__» noKeywords Builtin.Frozenset.updateFrom
        generalize hPI : pyIter = PI
        wp_walk
        subst hPI
        refine wpAny_pyIter_strU ?_
        refine wpAny_bind (wpAny_runValue ?_)
        have hh3 : A.in1.in1.in1.handled = none := by simp [hh]
        have hSf : s.heap.objs.size ∉ [(s.heap.push { cls := .type "set", dict := none, data := .set #[] 0 (.fresh 0 0 led) }).objs.size] := by
          rw [Heap.size_push]; simp only [List.mem_singleton]
          exact Nat.ne_of_lt (Nat.lt_succ_self _)
        have hval : ∀ (i : Nat) (v : Value), SignAt x i v → ∃ t, v = .str (sgn x i) t := fun i v hv => by
          obtain ⟨c, u, hc, rfl⟩ := hv
          refine ⟨u, ?_⟩
          unfold sgn
          rw [Array.getD_eq_getD_getElem?, hc] <;> rfl
        refine set_loopT ((walks_str hh3 _ x t).toS) s.heap.objs.size
          hSf (sgn x) hval hb (x.cps.size - 0) 0 _ (by omega) (Nat.zero_le _)
          ⟨_, Heap.get?_push_size _ rfl, rfl, rfl⟩ ?hS0 ?hR
        case hS0 =>
          have hget : ((s.heap.push { cls := .type "set", dict := none, data := .set #[] 0 (.fresh 0 0 led) }).push { cls := .type (strIterType x), data := .fields #[.str x t, .int 0 0] }).get? s.heap.objs.size
              = some { cls := .type "set", dict := none, data := .set #[] 0 (.fresh 0 0 led) } := Heap.get?_push_of_some _ hS
          exact SetOf_congr ((setObjOf_fresh (knd := strKind prog w) led).setOf hget (by unfold scanBound; omega)) (fun _ => rfl) rfl
        case hR =>
          intro s' hm hS'
          obtain ⟨h', g', d', tk', os'⟩ := s'
          have eg : g' = s.gens := hm.gens
          have ed : d' = s.drawn := hm.drawn
          have eo : os' = s.os := hm.os
          subst eg; subst ed; subst eo
          show wpAny _ _ _ _ _ _
          refine wpAny_pure ?_
          show wpAny _ _ (ret Value.none) _ _ _
          refine wpAny_pure ⟨rfl, h', tk', rfl, hS', fun b o hb e => ?_⟩
          have hb1 : b ≠ s.heap.objs.size := Nat.ne_of_lt hb
          have hb2 : b ≠ (s.heap.push { cls := .type "set", dict := none, data := .set #[] 0 (.fresh 0 0 led) }).objs.size := by
            rw [Heap.size_push]; exact Nat.ne_of_lt (Nat.lt_succ_of_lt hb)
          exact hm.heap b o (by simp only [List.mem_cons, List.mem_singleton, List.not_mem_nil, or_false, not_or]; exact ⟨hb1, hb2⟩) (Heap.get?_push_of_some _ (Heap.get?_push_of_some _ e))
      · cases r₂ with
        | error e => exact hr₂
        | ok fl₂ =>
          cases fl₂ with
          | ret r =>
            obtain ⟨rfl, h', tk, rfl, hS', hk'⟩ := hr₂
            repeat (any_goals (first | assumption | wp_step))
            exact h _ _ hS' hk'
          | _ => exact hr₂.elim
    | _ => exact hr.elim
end
def kindsS (x : Str) : Nat := (fmS (sgn x) x.cps.size).length
def tLenSetT (ta : TE) : TE := fun σ H Q => ta σ H fun v H1 => ∃ x : Str, v = .str x ∧ x.cps.size ≤ 4000 ∧ Q (.int (kindsS x : Nat)) H1
theorem pe_lenSetT {X : Cx} {a : Expr} {ta : TE} {p p2 q pos : Pos} (hg : Gl X "len") (hm : X.mg "len" = none) (hg2 : Gl X "set") (hm2 : X.mg "set" = none) (ha : PE X a ta) (hc : X.calm = true := by rfl)
    (na : starEach [a] X.env = (false, eval a X.env) :: starEach [] X.env := by rfl) : PE X (.Call (.Name "len" p) [.Call (.Name "set" p2) [a] [] q] [] pos) (tLenSetT ta) := by
  refine ⟨fun pins s σ H Q I h => ?_⟩
  refine Call_ (ld_blt I hg hm boot_len ?_)
  refine PyProof.Rows.callWith_builtin1 (PyProof.Rows.args_cons ?_ rfl) rfl rfl
  refine Call_ (ld_blt I hg2 hm2 boot_set ?_)
  refine PyProof.Rows.callWith_type1 (PyProof.Rows.args_cons (thn (ha.run pins s σ H _ I h) fun v s1 ⟨x, H1, I1, r1, q1⟩ => PyProof.Rows.args_nil ?_) na) na rfl
  obtain ⟨z, rfl, hl, q1⟩ := q1
  obtain ⟨t, rfl⟩ := r1
  refine call_set_text (I1.ok.hd hc) (by unfold scanBound; omega) fun h' tk hS hk => ?_
  refine PyProof.Rows.args_nil ?_
  obtain ⟨o, es, ep, t, ho, hex, hd, _, _, _, hf, hn⟩ := hS
  have hn' : es.size = kindsS z := hn
  have hkl : kindsS z ≤ z.cps.size := fmS_len _ _
  have I2 : Inv X pins σ H1 { s1 with heap := h', toks := tk } := I1.kept fun b o e => hk b o (Heap.lt_size e) e
  exact call_len_set ho hex hd hf (by rw [hn'] <;> omega) ⟨.int (kindsS z), H1, I2.tok _, ⟨_, by rw [hn']⟩, q1⟩
section
variable {G : Gm} {W : WX}
def dLenSetT (f : En → ER) : En → ER := fun E => match f E with
  | .val _ (.str x) st => if x.cps.size ≤ 4000 then .val .P (.int (kindsS x : Nat)) st else .bad
  | .exc c l st => .exc c l st
  | _ => .bad
@[simp] theorem e_dLenSetT {f : En → ER} {E : En} : dLenSetT f E = match f E with
  | .val _ (.str x) st => if x.cps.size ≤ 4000 then .val .P (.int (kindsS x : Nat)) st else .bad
  | .exc c l st => .exc c l st
  | _ => .bad := rfl
theorem v_lenSetT {ta : TE} {f : En → ER} (h : DEv G W ta f) : DEv G W (tLenSetT ta) (dLenSetT f) := by
  intro s t σ e st E k Q post
  refine h s t σ e st E k _ ?_
  unfold dLenSetT at post
  cases q : f ⟨e, st⟩ with
  | val m d st1 =>
    rw [q] at post
    cases d <;> first | exact post.elim | skip
    rename_i x
    by_cases c : x.cps.size ≤ 4000
    · simp only [if_pos c] at post
      intro t1 v g1 k1 o1
      obtain rfl := o1.u.str
      exact ⟨x, rfl, c, post t1 _ g1 k1 (.int _)⟩
    · simp only [if_neg c] at post
      exact post.elim
  | exc c l st1 => rw [q] at post; exact post
  | bad => rw [q] at post; exact post
end
end Dn
namespace Dn
open PySem PySem.Spec PyProof.Rows L2
abbrev ClT := Option Nat × Value × (Addr → Value → Option Addr → TS)
def NmOk (X : Cx) (o : Option Nat) (m : Option Str) : Prop := match o, m with
  | none, none => True
  | some i, some n => X.N.Nodup ∧ X.N[i]? = some n ∧ X.env.kindOf n = some .local
  | _, _ => False
inductive ClsOk (X : Cx) : List ExceptHandler → List ClT → Prop
  | nil : ClsOk X [] []
  | cons {x : Str} {o : Option Nat} {m : Option Str} {c : Value} {ts : Addr → Value → Option Addr → TS} {b₀ : Stmt} {suite : List Stmt} {np pos' : Pos} {hds : List ExceptHandler} {l : List ClT} (hn : NmOk X o m) (hc : Names X x c)
      (hsu : ∀ (a : Addr) (oe : Obj) (cls : Value) (d : Option Addr) (pn : List (Addr × Obj)), Zc cls d oe → (∃ vs, oe.data = .fields vs) → PSs (X.suite a ((a, oe) :: pn)) (b₀ :: suite) (ts a cls d)) (r : ClsOk X hds l) :
      ClsOk X (.ExceptHandler (some (.Name x np)) m (b₀ :: suite) pos' :: hds) ((o, c, ts) :: l)
abbrev ClD := Option Nat × (Nat → Option Bool) × (Nat → List D → En → SR)
def hdM : List ClD → Nat → Option (Option ClD)
  | [], _ => some none
  | x :: r, c => match x.2.1 c with
    | some true => some (some x)
    | some false => hdM r c
    | none => none
def clrX (i : Nat) : SR → SR
  | .nx E => .nx ⟨(clr E.e).set i .emp, E.st⟩
  | .bk E => .bk ⟨(clr E.e).set i .emp, E.st⟩
  | .ct E => .ct ⟨(clr E.e).set i .emp, E.st⟩
  | .rt m d st => .rt m d st
  | _ => .bad
def goM (x : ClD) (c : Nat) (l : List D) (E1 : En) : SR := match x.1 with
  | none => clrS (x.2.2 c l ⟨clr E1.e, E1.st⟩)
  | some i => clrX i (x.2.2 c l ⟨(clr E1.e).set i .exn, E1.st⟩)
def sTryM (hs : List ClD) (g : En → SR) : En → SR := fun E => match g E with
  | .exc c l E1 => (match hdM hs c with
    | some (some x) => goM x c l E1
    | some none => .exc c l E1
    | none => .bad)
  | r => r
inductive HmD (G : Gm) : List ClT → List ClD → Prop
  | nil : HmD G [] []
  | cons {C : Value} {ts : Addr → Value → Option Addr → TS} {p : Nat → Option Bool} {h : En → SR} {l : List ClT} {hs : List ClD} (hc : ∀ c b, p c = some b → PySem.W.exmOne G.K (.ref (G.ca c)) C = some b) (hd : ∀ a cls d, DSt (G.at_ a) W0 (ts a cls d) h) (r : HmD G l hs) : HmD G ((none, C, ts) :: l) ((none, p, fun _ _ => h) :: hs)
  | consN {i : Nat} {C : Value} {ts : Addr → Value → Option Addr → TS} {p : Nat → Option Bool} {h : Nat → List D → En → SR} {l : List ClT} {hs : List ClD} (hc : ∀ c b, p c = some b → PySem.W.exmOne G.K (.ref (G.ca c)) C = some b)
      (hd : ∀ c l a x cls d, p c = some true → (x = none → l = []) → (l = [] → x = none) → cls = .ref (G.ca c) → d = x → DSt (G.exn a x c l) W0 (ts a cls d) (h c l)) (r : HmD G l hs) : HmD G ((some i, C, ts) :: l) ((some i, p, h) :: hs)
@[simp] theorem e_hdM0 {c : Nat} : hdM [] c = some none := rfl
@[simp] theorem e_hdMC {o : Option Nat} {p : Nat → Option Bool} {h : Nat → List D → En → SR} {r : List ClD} {c : Nat} : hdM ((o, p, h) :: r) c = (match p c with
    | some true => some (some (o, p, h))
    | some false => hdM r c
    | none => none) := rfl
@[simp] theorem e_goM0 {p : Nat → Option Bool} {h : Nat → List D → En → SR} {c : Nat} {l : List D} {E1 : En} : goM (none, p, h) c l E1 = clrS (h c l ⟨clr E1.e, E1.st⟩) := rfl
@[simp] theorem e_goM1 {i : Nat} {p : Nat → Option Bool} {h : Nat → List D → En → SR} {c : Nat} {l : List D} {E1 : En} : goM (some i, p, h) c l E1 = clrX i (h c l ⟨(clr E1.e).set i .exn, E1.st⟩) := rfl
@[simp] theorem e_sTryM {hs : List ClD} {g : En → SR} {E : En} : sTryM hs g E = match g E with
  | .exc c l E1 => (match hdM hs c with
    | some (some x) => goM x c l E1
    | some none => .exc c l E1
    | none => .bad)
  | r => r := rfl
@[simp] theorem e_clrXN {i : Nat} {E : En} : clrX i (.nx E) = .nx ⟨(clr E.e).set i .emp, E.st⟩ := rfl
@[simp] theorem e_clrXB {i : Nat} {E : En} : clrX i (.bk E) = .bk ⟨(clr E.e).set i .emp, E.st⟩ := rfl
@[simp] theorem e_clrXC {i : Nat} {E : En} : clrX i (.ct E) = .ct ⟨(clr E.e).set i .emp, E.st⟩ := rfl
@[simp] theorem e_clrXR {i : Nat} {m : Md} {d : D} {st : Sto} : clrX i (.rt m d st) = .rt m d st := rfl
end Dn
namespace Dn
open PySem PySem.Spec PyProof.Rows L2
def revT (z : Str) : Str := ⟨z.cps.toList.reverse.toArray⟩
section
variable {G : Gm} {W : WX}
def oRevS : D → Sto → ER
  | .str z, st => if z.length ≤ 1000000 then .val .P (.str (revT z)) st else .bad
  | _, _ => .bad
@[simp] theorem e_oRevS {z : Str} {st : Sto} : oRevS (.str z) st = if z.length ≤ 1000000 then .val .P (.str (revT z)) st else .bad := rfl
def dRevS (f : En → ER) : En → ER := fun E => (f E).bind oRevS
@[simp] theorem e_dRevS {f : En → ER} {E : En} : dRevS f E = (f E).bind oRevS := rfl
end
end Dn
namespace Dn
open PySem PySem.Spec PyProof.Rows L2
section
variable {K : PySem.W.Frag}
theorem dfl_none {dV : Value} (h : DflV K dV []) : dV = .none := by
  rcases h with ⟨_, h⟩ | ⟨h, _⟩
  · exact h
  · exact absurd rfl h
abbrev DefB (K : PySem.W.Frag) (x qual : Str) (st : Stmt) (f : Addr) : Prop := (∃ (oc : Value) (od : Option Addr) (kV doc pm : Value) (an : Option Addr) (cdv ct : Value) (osl : Array (Option Value)), K.lookup f = some ⟨oc, od, .func (PySem.W.fnOf x qual (defArgs st) (defBody st) (defScope st) .none kV doc pm an cdv ct), osl⟩ ∧ PySem.W.codeIn K cdv qual = true) ∧ PySem.W.keepIn K (.ref f) = true
theorem fun_of {x qual : Str} {st : Stmt} {f : Addr} {fd : FuncData} (F : FunD K x qual (defArgs st) (defBody st) (defScope st) [] [] f fd) : DefB K x qual st f := by
  obtain ⟨⟨oc, od, dV, kV, doc, pm, an, cdv, ct, osl, rfl, lk, hcd, hd, _⟩, kp⟩ := F
  obtain rfl := dfl_none hd
  exact ⟨⟨oc, od, kV, doc, pm, an, cdv, ct, osl, lk, hcd⟩, kp⟩
def intK (K : PySem.W.Frag) (x : Str) (i : Int) : Bool := match PySem.W.nsIn K mainGlobals x with
  | some (some (.int j _)) => decide (j = i)
  | _ => false
theorem intK_ok {x : Str} {i : Int} (h : intK K x i = true) : ∃ t, PySem.W.nsIn K mainGlobals x = some (some (.int i t)) := by
  unfold intK at h
  split at h
  · rename_i j t e
    rw [e, of_decide_eq_true h]
    exact ⟨_, rfl⟩
  · cases h
def strK (K : PySem.W.Frag) (x v : Str) : Bool := match PySem.W.nsIn K mainGlobals x with
  | some (some (.str j _)) => decide (j = v)
  | _ => false
theorem strK_ok {x v : Str} (h : strK K x v = true) : ∃ t, PySem.W.nsIn K mainGlobals x = some (some (.str v t)) := by
  unfold strK at h
  split at h
  · rename_i j t e
    rw [e, of_decide_eq_true h]
    exact ⟨_, rfl⟩
  · cases h
def oexB (K : PySem.W.Frag) (C : Addr) (newId : String) : Bool := match K.lookup C with
  | some ⟨.type "type", _, .cls cd, sl⟩ => (match cd.mro, sl.toList with
    | .ref C' :: bm, [_, _, _, _, some (.builtin n), _] => decide (C' = C) && (decide (n = newId) && (!cd.hasDel && (cd.hasDict && PySem.HandSPX.refsVE bm)))
    | _, _ => false)
  | _ => false
theorem oexB_ok {C : Addr} {newId : String} (q : oexB K C newId = true) : ∃ nm qn N bs bm sn sub ab col dd k0 k1 k2 k3 k5, K.lookup C = some (excClassObj nm qn C N bs bm true sn sub ab col dd k0 k1 k2 k3 k5 newId) ∧ PySem.HandSPX.refsVE bm = true := by
  unfold oexB at q
  split at q
  · rename_i dd cd sl ho
    split at q
    · rename_i C' bm k0 k1 k2 k3 n k5 hm hs
      obtain ⟨h1, q⟩ := He.ba q
      obtain ⟨h2, q⟩ := He.ba q
      obtain ⟨h3, q⟩ := He.ba q
      obtain ⟨h4, h5⟩ := He.ba q
      have e1 := of_decide_eq_true h1
      have e2 := of_decide_eq_true h2
      subst e1 e2
      obtain ⟨nm, bs, mro, ns, qn, hd, sn, sub, ab, col, del⟩ := cd
      dsimp only at hm h3 h4
      have h3 : del = false := by simpa using h3
      subst hm h3 h4
      have hsl : sl = #[k0, k1, k2, k3, some (.builtin n), k5] := by
        obtain ⟨l⟩ := sl
        simp only at hs
        rw [hs]
      subst hsl
      exact ⟨nm, qn, ns, bs, bm, sn, sub, ab, col, dd, k0, k1, k2, k3, k5, ho, h5⟩
    · cases q
  · cases q
end
theorem walkLE {k : Nat} (hk : Room k callerA) {l : PySem.W.OpenLaw} {q : Program} {loose : List Str} {XP : (Str → Option Value) → Heap → Prop} {YP : World → Heap → Prop} {d : DefRec} {x : Str} (hn : l.most = some 63) (hdf : d.params.defaults = [])
    (F : ∀ (w : World) (mg : Str → Option Value) (fa : Addr) (h : Heap), YP w h → h.Ns mainGlobals mg → mg d.name = some (.ref fa) →
      ∃ K : PySem.W.Frag, K.In h ∧ ∃ fd : FuncData, (∀ (s : Shared) (u : Value), BindsTo s fd ⟨[u], []⟩ [(x, u)]) ∧ ∀ base : Heap, K.In base → base.Ns mainGlobals mg → FnOk l.prog w K mg base (L2.CX l.prog w) k fa fd [x] (spLaw K)) :
    PySem.W.WalkO q loose XP YP l.row.toRowW d [] (fun f vs => PySem.call f vs) :=
  LamX.walk_ofTsE (n := 63) (k := k) (x := x) (CX := fun w => L2.CX l.prog w) hn (by decide) hdf hk (fun w mg fa h Y hG hmg => by
    obtain ⟨K, KX, fd, h4, h5⟩ := F w mg fa h Y hG hmg
    exact ⟨K, KX, fd, [], spLaw K, (fun p m => by cases m), (fun p m => by cases m), (fun p m => by cases m), h4, (fun H a ns hl hb hT hS => ⟨a, ns, rfl, hS, hl, hb, fun _ => rfl⟩), fun base h1 h2 _ => h5 base h1 h2⟩) fun w H s e s' h => by
    obtain ⟨_, _, _, _, _, _, _, _, _, _, _, _, z⟩ := h
    exact z.elim
structure Ch where
  fn : List He.DefD
  tf : List He.Defn
  ex : PySem.W.Frag → Bool
def obsC (as : List Addr) (g : Addr → Option Obj) (c : Ch) : He.AlD × Bool := (He.obsD [] c.fn (He.frT g as), c.ex (He.frT g as) && He.tabsB g c.tf (He.frT g as))
def valC (c : Ch) : He.AlD × Bool := (He.valD c.fn, true)
structure SaysC (h : Heap) (K : PySem.W.Frag) (c : Ch) : Prop where
  d : He.SaysD [] c.fn K
  more : c.ex K = true
  tabs : ∀ p ∈ c.tf, PySem.W.codeHdIn K (He.cT K p).1 (He.cT K p).2 = true ∧ K.lookup (He.cT K p).2 = none ∧ h.get? (He.cT K p).2 = some { cls := .none, data := .fields #[] }
theorem saysC_of {as : List Addr} {h : Heap} {c : Ch} (e : obsC as h.get? c = valC c) : SaysC h (He.frT h.get? as) c := by
  have e2 := congrArg Prod.snd e
  obtain ⟨x, y⟩ := He.ba (show (c.ex (He.frT h.get? as) && He.tabsB h.get? c.tf (He.frT h.get? as)) = true from e2)
  refine ⟨congrArg Prod.fst e, x, fun p hp => ?_⟩
  obtain ⟨y1, y2⟩ := He.ba (List.all_eq_true.mp y p hp)
  split at y2
  · rename_i o ho
    exact ⟨y1, He.frT_none ho y2, by rw [ho, He.emptyTab_eq y2]⟩
  · cases y2
def hookL (as : List Addr) (cs : List Ch) : PySem.W.Hook where
  α := List (He.AlD × Bool)
  obs := fun s => cs.map (obsC as s.heap.get?)
  val := fun _ => cs.map valC
  says := fun _ h => ∃ K : PySem.W.Frag, K.In h ∧ ∀ c ∈ cs, SaysC h K c
  of := fun _ s e => ⟨He.frT s.heap.get? as, He.frT_in, fun c hc => saysC_of (by
    obtain ⟨i, hi, rfl⟩ := List.mem_iff_getElem.mp hc
    have e2 : (cs.map (obsC as s.heap.get?))[i]? = (cs.map valC)[i]? := by rw [e]
    rw [List.getElem?_map, List.getElem?_map, List.getElem?_eq_getElem hi] at e2
    exact Option.some.inj e2)⟩
  keeps := fun _ _ _ ⟨K, hK, c⟩ k => ⟨K, PySem.W.Frag.In.keeps hK k, fun x hx => ⟨(c x hx).d, (c x hx).more, fun p hp => ⟨((c x hx).tabs p hp).1, ((c x hx).tabs p hp).2.1, k _ _ ((c x hx).tabs p hp).2.2⟩⟩⟩
def obL (as : List Addr) (cs : List Ch) (s : PySem.W.SharedT) : List (He.AlD × Bool) := cs.map (obsC as (HandSHeadRun.getT s))
theorem obL_eq (as : List Addr) (cs : List Ch) (s : PySem.W.SharedT) : obL as cs s = (hookL as cs).obs s.abs := by
  have e : HandSHeadRun.getT s = s.abs.heap.get? := funext (HandSHeadRun.getT_eq s)
  show cs.map (obsC as (HandSHeadRun.getT s)) = cs.map (obsC as s.abs.heap.get?)
  rw [e]
section
open PySem.W PySem.Calls HandSHeadRun
noncomputable abbrev topEnd (r : OpenRow) (M : Nat) (w : World) (os : OsState) : Option SharedT := endF (stepQ (denQ tabQ) r.prog w) M r.prog w os
def RunX (r : OpenRow) (q : Program) (M : Nat) (loose : List PySem.Str) (w : World) (as : List Addr) (cs : List Ch) : Prop := ∀ os : OsState, (topEnd r M w os).map (fun s => ((looksF r.prog (boot_heap w.params) s.abs, seenQ q loose (importedModules r.prog.main.body) (fun s => xlAt q [] s && recOk r.toRowW.records s) s.abs), cs.map (obsC as (getT s)))) = some ((true, openGood q loose), cs.map valC)
theorem run_one {r : OpenRow} {q : Program} {M : Nat} {loose : List PySem.Str} {w : World} {as : List Addr} {cs : List Ch} (a : RunX r q M loose w as cs) : RunEq r q (hookL as cs) (obL as cs) M loose w := by
  intro os
  have a1 := a os
  show (topEnd r M w os).map _ = _
  cases e : topEnd r M w os with
  | none =>
    rw [e] at a1
    cases a1
  | some s =>
    rw [e] at a1
    have a2 := Option.some.inj a1
    obtain ⟨a5, a6⟩ := Prod.mk.inj a2
    obtain ⟨a3, a4⟩ := Prod.mk.inj a5
    have b2 : obL as cs s = cs.map valC := a6
    dsimp only [Option.map_some]
    rw [a3, a4, b2]
    rfl
end
end Dn
namespace Dn
open PySem PySem.Spec PyProof.Rows L2
theorem log2_lt {n k : Nat} (hk : 0 < k) (h : n < 2 ^ k) : n.log2 < k := by
  by_cases z : n = 0
  · subst z; simpa using hk
  · exact (Nat.log2_lt z).mpr h
theorem mul_ok {i j : Int} {a b : Nat} (ha : i.natAbs < 2 ^ a) (hb : j.natAbs < 2 ^ b) (h : a + b ≤ 1000000) (h0 : 0 < a) (h1 : 0 < b) : i.natAbs.log2 + j.natAbs.log2 < 1000000 := by
  have := log2_lt h0 ha
  have := log2_lt h1 hb
  omega
theorem e_wh {c : En → ER} {b : En → SR} {n : Nat} {e : DE} {st st1 : Sto} {m : Md} {x : Bool} (h : c ⟨e, st⟩ = .val m (.bl x) st1) : whN c b (n + 1) ⟨e, st⟩ = if x = true then (match b ⟨e, st1⟩ with
      | .nx e' => whN c b n e'
      | .ct e' => whN c b n e'
      | .bk e' => some (.nx e')
      | r => some r) else some (.nx ⟨e, st1⟩) := by
  rw [whN]
  rw [h]
  cases x <;> rfl
def InR : List Int → List Int → Prop
  | [], [] => True
  | a :: l, b :: s => (0 ≤ a ∧ a < b) ∧ InR l s
  | _, _ => False
theorem InR.cons {l s : List Int} {b : Int} (h : InR l (b :: s)) : ∃ a l', l = a :: l' ∧ 0 ≤ a ∧ a < b ∧ InR l' s := by
  cases l with
  | nil => exact h.elim
  | cons a l => exact ⟨a, l, rfl, h.1.1, h.1.2, h.2⟩
theorem InR.nil {l : List Int} (h : InR l []) : l = [] := by
  cases l with
  | nil => rfl
  | cons a l => exact h.elim
theorem InR.len : ∀ {l s : List Int}, InR l s → l.length = s.length
  | [], [], _ => rfl
  | a :: l, b :: s, h => congrArg Nat.succ (InR.len h.2)
  | [], _ :: _, h => h.elim
  | _ :: _, [], h => h.elim
end Dn
namespace Dn
open PySem PySem.Spec PyProof.Rows L2
def dF (q : Rat) : D := .tup [.int q.num, .int q.den]
theorem bit_mul {x y : Int} {m n : Nat} (h1 : x.natAbs < 2 ^ m) (h2 : y.natAbs < 2 ^ n) : (x * y).natAbs < 2 ^ (m + n) := by
  rw [Int.natAbs_mul, Nat.pow_add]
  exact Nat.mul_lt_mul_of_lt_of_lt h1 h2
theorem bit_up {x : Int} {m n : Nat} (h1 : x.natAbs < 2 ^ m) (h : m ≤ n) : x.natAbs < 2 ^ n := Nat.lt_of_lt_of_le h1 (Nat.pow_le_pow_right (by decide) h)
theorem bit_sub {x y : Int} {m n : Nat} (h1 : x.natAbs < 2 ^ m) (h2 : y.natAbs < 2 ^ n) : (x - y).natAbs < 2 ^ (max m n + 1) := by
  have a := bit_up h1 (Nat.le_max_left m n)
  have b := bit_up h2 (Nat.le_max_right m n)
  rw [Nat.pow_succ]; omega
def Sz (n : Nat) (q : Rat) : Prop := q.num.natAbs < 2 ^ n ∧ q.den < 2 ^ n
theorem Sz.up {m n : Nat} {q : Rat} (h : Sz m q) (k : m ≤ n) : Sz n q := ⟨bit_up h.1 k, Nat.lt_of_lt_of_le h.2 (Nat.pow_le_pow_right (by decide) k)⟩
theorem Sz.den {n : Nat} {q : Rat} (h : Sz n q) : (q.den : Int).natAbs < 2 ^ n := by simpa using h.2
theorem Sz.mk {n : Nat} {t b : Int} (h1 : t.natAbs < 2 ^ n) (h2 : b.natAbs < 2 ^ n) (hb : b ≠ 0) : Sz n (Rat.divInt t b) := by
  refine ⟨?_, ?_⟩
  · rw [Rat.num_divInt]
    refine Nat.lt_of_le_of_lt ?_ h1
    have : (b.sign * t / ((b.gcd t : Nat) : Int)).natAbs ≤ (b.sign * t).natAbs := Int.natAbs_ediv_le_natAbs _ _
    refine Nat.le_trans this ?_
    rw [Int.natAbs_mul]
    have : b.sign.natAbs ≤ 1 := by
      rcases Int.lt_trichotomy b 0 with z | z | z
      · rw [Int.sign_eq_neg_one_of_neg z]; decide
      · exact absurd z hb
      · rw [Int.sign_eq_one_of_pos z]; decide
    calc b.sign.natAbs * t.natAbs ≤ 1 * t.natAbs := Nat.mul_le_mul_right _ this
      _ = t.natAbs := Nat.one_mul _
  · rw [Rat.den_divInt, if_neg hb]
    exact Nat.lt_of_le_of_lt (Nat.div_le_self _ _) h2
theorem den_pos (q : Rat) : 0 < (q.den : Int) := by have := q.den_nz; omega
theorem q_eq (q : Rat) : q = Rat.divInt q.num q.den := (Rat.num_divInt_den q).symm
theorem q_sub (a b : Rat) : a - b = Rat.divInt (a.num * b.den - b.num * a.den) (a.den * b.den) := by
  conv => lhs; rw [q_eq a, q_eq b]
  rw [Rat.divInt_sub_divInt _ _ (by have := den_pos a; omega) (by have := den_pos b; omega)]
theorem q_mul (a b : Rat) : a * b = Rat.divInt (a.num * b.num) (a.den * b.den) := by
  conv => lhs; rw [q_eq a, q_eq b]
  rw [Rat.divInt_mul_divInt]
theorem den2 (a b : Rat) : (a.den : Int) * b.den ≠ 0 := Int.mul_ne_zero (by have := den_pos a; omega) (by have := den_pos b; omega)
theorem Sz.sub {m n : Nat} {a b : Rat} (h : Sz m a) (k : Sz n b) : Sz (m + n + 1) (a - b) := by
  rw [q_sub]
  have x := bit_mul h.1 k.den
  have y := bit_mul k.1 h.den
  rw [Nat.add_comm n m] at y
  have z := bit_sub x y
  rw [Nat.max_self] at z
  exact Sz.mk z (bit_up (bit_mul h.den k.den) (by omega)) (den2 a b)
theorem Sz.mul {m n : Nat} {a b : Rat} (h : Sz m a) (k : Sz n b) : Sz (m + n) (a * b) := by
  rw [q_mul]
  exact Sz.mk (bit_mul h.1 k.1) (bit_mul h.den k.den) (den2 a b)
theorem Sz.neg {m : Nat} {a : Rat} (h : Sz m a) : Sz m (-a) := ⟨by simpa using h.1, by simpa using h.2⟩
theorem two_pow_gt (n : Nat) : 1 < 2 ^ (n + 1) := by have := Nat.one_le_two_pow (n := n); rw [Nat.pow_succ]; omega
theorem Sz.int {m : Nat} {a : Int} (h : a.natAbs < 2 ^ m) : Sz (m + 1) (a : Rat) := ⟨bit_up (m := m) (by simpa using h) (by omega), by simpa using two_pow_gt m⟩
@[simp] theorem dF_0 : D.tup [.int 0, .int 1] = dF 0 := rfl
@[simp] theorem dF_1 : D.tup [.int 1, .int 1] = dF 1 := rfl
@[simp] theorem ix0_dF {q : Rat} {st : Sto} : oIx (dF q) (.int 0) st = .val .P (.int q.num) st := by simp [dF, atI, ixN]
@[simp] theorem ix1_dF {q : Rat} {st : Sto} : oIx (dF q) (.int 1) st = .val .P (.int q.den) st := by simp [dF, atI, ixN]
@[simp] theorem len_dF {q : Rat} {st : Sto} : oLen [dF q] st = .val .P (.int 2) st := rfl
@[simp] theorem items_dF {q : Rat} : itemsOf (dF q) = some [.int q.num, .int q.den] := rfl
@[simp] theorem tup_dF {q : Rat} {st : Sto} : isT "tuple" (dF q) st = .val .P (.bl true) st := by simp [dF]
theorem dF_inj {a b : Rat} : dF a = dF b ↔ a = b := by
  constructor
  · intro h
    unfold dF at h
    injection h with h
    injection h with h1 h2
    injection h2 with h2 h3
    injection h1 with h1
    injection h2 with h2
    exact Rat.ext h1 (by omega)
  · rintro rfl; rfl
theorem q_eq_iff (a b : Rat) : a = b ↔ a.num = b.num ∧ a.den = b.den := ⟨fun h => by subst h; exact ⟨rfl, rfl⟩, fun h => Rat.ext h.1 h.2⟩
@[simp] theorem eq_dF {a b : Rat} {st : Sto} : oEq (dF a) (dF b) st = .val .P (.bl (decide (a = b))) st := by
  have : decide (a = b) = decide (a.num = b.num ∧ (a.den : Int) = b.den) := by
    rw [decide_eq_decide, q_eq_iff]
    omega
  rw [this]
  simp [dF]
@[simp] theorem ne_dF {a b : Rat} {st : Sto} : oNe (dF a) (dF b) st = .val .P (.bl (!decide (a = b))) st := by
  have : decide (a = b) = decide (a.num = b.num ∧ (a.den : Int) = b.den) := by
    rw [decide_eq_decide, q_eq_iff]
    omega
  rw [this]
  simp [dF]
end Dn
namespace Dn
open PySem PySem.Spec PyProof.Rows L2
theorem lc_map {α : Type} {k : D → Sto → Option (Option D × Sto)} {enc f : α → D} {st : Sto} : ∀ {l : List α}, (∀ a ∈ l, k (enc a) st = some (some (f a), st)) → lcGo k (l.map enc) st = some (l.map f, st)
  | [], _ => rfl
  | a :: l, h => by
    rw [List.map_cons, e_lcC, h a (List.mem_cons_self ..), Option.bind_some, lc_map (fun a m => h a (List.mem_cons_of_mem _ m))]
    rfl
@[simp] theorem intsOf_map {α : Type} (f : α → Int) : ∀ l : List α, intsOf (l.map fun a => .int (f a)) = some (l.map f)
  | [] => rfl
  | a :: l => by simp [intsOf, intsOf_map f l]
mutual
def pur : D → Bool
  | .non | .int _ => true
  | .str x => PyData.strOk x
  | .tup l => purL l
  | .lst l => purL l
  | _ => false
def purL : List D → Bool
  | [] => true
  | d :: l => pur d && purL l
end
mutual
def dep : D → Nat
  | .tup l => depL l + 1
  | .lst l => depL l + 1
  | _ => 0
def depL : List D → Nat
  | [] => 0
  | d :: l => max (dep d) (depL l)
end
mutual
theorem pur_py : ∀ d, pur d = true → isPy d = true ∧ PyData.canLay0 (py d) = true ∧ PyData.depth (py d) = dep d
  | .non, _ => ⟨rfl, by simp [py, PyData.canLay0], by simp [py, PyData.depth, dep]⟩
  | .int _, _ => ⟨rfl, by simp [py, PyData.canLay0], by simp [py, PyData.depth, dep]⟩
  | .str _, h => ⟨rfl, by simpa [py, PyData.canLay0, pur] using h, by simp [py, PyData.depth, dep]⟩
  | .tup l, h => by
    obtain ⟨a, b, c⟩ := purL_py l (by simpa [pur] using h)
    exact ⟨by simpa [isPy] using a, by simpa [py, PyData.canLay0] using b, by simp [py, PyData.depth, dep, c]⟩
  | .lst l, h => by
    obtain ⟨a, b, c⟩ := purL_py l (by simpa [pur] using h)
    exact ⟨by simpa [isPy] using a, by simpa [py, PyData.canLay0] using b, by simp [py, PyData.depth, dep, c]⟩
  | .bl _, h => by simp [pur] at h
  | .obj _ _, h => by simp [pur] at h
  | .scr _, h => by simp [pur] at h
  | .ptr _, h => by simp [pur] at h
theorem purL_py : ∀ l, purL l = true → isPyL l = true ∧ PyData.canLayAll0 (pyL l) = true ∧ PyData.depthAll (pyL l) = depL l
  | [], _ => ⟨rfl, by simp [pyL, PyData.canLayAll0], by simp [pyL, PyData.depthAll, depL]⟩
  | d :: l, h => by
    have h' : pur d = true ∧ purL l = true := by simpa [purL] using h
    obtain ⟨a, b, c⟩ := pur_py d h'.1
    obtain ⟨a', b', c'⟩ := purL_py l h'.2
    exact ⟨by simp [isPyL, a, a'], by simp [pyL, PyData.canLayAll0, b, b'], by simp [pyL, PyData.depthAll, depL, c, c']⟩
end
mutual
theorem eqv_pur : ∀ a b, pur a = true → pur b = true → (PyData.eqv (py a) (py b) = true ↔ a = b)
  | .non, b, _, hb => by cases b <;> simp [py, PyData.eqv, pur] at hb ⊢
  | .int _, b, _, hb => by cases b <;> simp [py, PyData.eqv, pur] at hb ⊢
  | .str _, b, _, hb => by cases b <;> simp [py, PyData.eqv, pur] at hb ⊢
  | .tup l, b, ha, hb => by
    cases b <;> simp [py, PyData.eqv, pur] at ha hb ⊢
    exact eqvL_pur _ _ ha hb
  | .lst l, b, ha, hb => by
    cases b <;> simp [py, PyData.eqv, pur] at ha hb ⊢
    exact eqvL_pur _ _ ha hb
  | .bl _, _, h, _ => by simp [pur] at h
  | .obj _ _, _, h, _ => by simp [pur] at h
  | .scr _, _, h, _ => by simp [pur] at h
  | .ptr _, _, h, _ => by simp [pur] at h
theorem eqvL_pur : ∀ l m, purL l = true → purL m = true → (PyData.eqvAll (pyL l) (pyL m) = true ↔ l = m)
  | [], [], _, _ => by simp [pyL, PyData.eqvAll]
  | [], _ :: _, _, _ => by simp [pyL, PyData.eqvAll]
  | _ :: _, [], _, _ => by simp [pyL, PyData.eqvAll]
  | a :: l, b :: m, ha, hb => by
    have h1 : pur a = true ∧ purL l = true := by simpa [purL] using ha
    have h2 : pur b = true ∧ purL m = true := by simpa [purL] using hb
    simp only [pyL, PyData.eqvAll, Bool.and_eq_true, eqv_pur a b h1.1 h2.1, eqvL_pur l m h1.2 h2.2, List.cons.injEq]
end
theorem eq_of {a b : D} {p : Prop} [Decidable p] (st : Sto) (ha : pur a = true) (hb : pur b = true) (da : dep a ≤ 64) (db : dep b ≤ 64) (h : a = b ↔ p) : oEq a b st = .val .P (.bl (decide p)) st := by
  obtain ⟨a1, a2, a3⟩ := pur_py a ha
  obtain ⟨b1, b2, b3⟩ := pur_py b hb
  have e := (eqv_pur a b ha hb).trans h
  unfold oEq eqAny
  by_cases s : scalD a b = true
  · rw [if_pos s]
    have : eqF a b = decide p := by
      rw [Bool.eq_iff_iff, decide_eq_true_iff, ← h]
      cases a <;> cases b <;> simp [scalD, eqF] at s ⊢
    rw [this]
  · rw [if_neg s, if_pos ⟨a1, b1, by simp [SeqAt.shaped, a2, a3, da], by simp [SeqAt.shaped, b2, b3, db]⟩]
    have : PyData.eqv (py a) (py b) = decide p := by
      rw [Bool.eq_iff_iff, decide_eq_true_iff, ← e]
    rw [this]
theorem purL_map {α : Type} {enc : α → D} (h : ∀ a, pur (enc a) = true) : ∀ l : List α, purL (l.map enc) = true
  | [] => rfl
  | a :: l => by simp [purL, h a, purL_map h l]
theorem depL_map {α : Type} {enc : α → D} {n : Nat} (h : ∀ a, dep (enc a) ≤ n) : ∀ l : List α, depL (l.map enc) ≤ n
  | [] => by simp [depL]
  | a :: l => by have := depL_map h l; have := h a; simp only [List.map_cons, depL]; omega
theorem map_inj {α : Type} {enc : α → D} (h : ∀ a b, enc a = enc b → a = b) : ∀ l m : List α, l.map enc = m.map enc ↔ l = m
  | [], [] => by simp
  | [], _ :: _ => by simp
  | _ :: _, [] => by simp
  | a :: l, b :: m => by
    simp only [List.map_cons, List.cons.injEq, map_inj h l m]
    exact ⟨fun x => ⟨h a b x.1, x.2⟩, fun x => ⟨by rw [x.1], x.2⟩⟩
theorem eq_lst {α : Type} [DecidableEq α] {enc : α → D} (hp : ∀ a, pur (enc a) = true) (hd : ∀ a, dep (enc a) ≤ 60) (hi : ∀ a b, enc a = enc b → a = b) (l m : List α) (st : Sto) : oEq (.lst (l.map enc)) (.lst (m.map enc)) st = .val .P (.bl (decide (l = m))) st := by
  refine eq_of st (by simp [pur, purL_map hp]) (by simp [pur, purL_map hp]) ?_ ?_ ?_
  · have := depL_map hd l; simp only [dep]; omega
  · have := depL_map hd m; simp only [dep]; omega
  · simp [map_inj hi]
@[simp high] theorem pow10_6 {st : Sto} : oPow (.int 10) (.int 6) st = .val .P (.int 1000000) st := rfl
@[simp high] theorem pow10_8 {st : Sto} : oPow (.int 10) (.int 8) st = .val .P (.int 100000000) st := rfl
@[simp high] theorem pow10_9 {st : Sto} : oPow (.int 10) (.int 9) st = .val .P (.int 1000000000) st := rfl
@[simp high] theorem pow10_12 {st : Sto} : oPow (.int 10) (.int 12) st = .val .P (.int 1000000000000) st := rfl
@[simp high] theorem pow10_18 {st : Sto} : oPow (.int 10) (.int 18) st = .val .P (.int 1000000000000000000) st := rfl
@[simp high] theorem pow10_19 {st : Sto} : oPow (.int 10) (.int 19) st = .val .P (.int 10000000000000000000) st := rfl
@[simp high] theorem pow10_20 {st : Sto} : oPow (.int 10) (.int 20) st = .val .P (.int 100000000000000000000) st := rfl
@[simp high] theorem pow10_26 {st : Sto} : oPow (.int 10) (.int 26) st = .val .P (.int 100000000000000000000000000) st := rfl
@[simp high] theorem pow10_30 {st : Sto} : oPow (.int 10) (.int 30) st = .val .P (.int 1000000000000000000000000000000) st := rfl
@[simp high] theorem pow10_36 {st : Sto} : oPow (.int 10) (.int 36) st = .val .P (.int 1000000000000000000000000000000000000) st := rfl
@[simp high] theorem pow10_39 {st : Sto} : oPow (.int 10) (.int 39) st = .val .P (.int 1000000000000000000000000000000000000000) st := rfl
@[simp high] theorem pow10_40 {st : Sto} : oPow (.int 10) (.int 40) st = .val .P (.int 10000000000000000000000000000000000000000) st := rfl
@[simp high] theorem pow10_45 {st : Sto} : oPow (.int 10) (.int 45) st = .val .P (.int 1000000000000000000000000000000000000000000000) st := rfl
@[simp high] theorem pow10_60 {st : Sto} : oPow (.int 10) (.int 60) st = .val .P (.int 1000000000000000000000000000000000000000000000000000000000000) st := rfl
@[simp high] theorem pow10_180 {st : Sto} : oPow (.int 10) (.int 180) st = .val .P (.int 1000000000000000000000000000000000000000000000000000000000000000000000000000000000000000000000000000000000000000000000000000000000000000000000000000000000000000000000000000000000000) st := rfl
def dRow (r : Int × Int) : D := .tup [.int r.1, .int r.2]
@[simp] theorem tg_row {e : DE} {i j : Nat} {r : Int × Int} : tgT 2 (tgsCons (tgN i) (tgsCons (tgN j) tgsNil)) (dRow r) e = some ((e.set i (.val (.int r.1))).set j (.val (.int r.2))) := by simp [dRow]
@[simp] theorem ix0_row {r : Int × Int} {st : Sto} : oIx (dRow r) (.int 0) st = .val .P (.int r.1) st := by simp [dRow, atI, ixN]
@[simp] theorem ix1_row {r : Int × Int} {st : Sto} : oIx (dRow r) (.int 1) st = .val .P (.int r.2) st := by simp [dRow, atI, ixN]
theorem dRow_inj (a b : Int × Int) (h : dRow a = dRow b) : a = b := by
  unfold dRow at h
  injection h with h
  injection h with h1 h2
  injection h2 with h2 h3
  injection h1 with h1
  injection h2 with h2
  exact Prod.ext h1 h2
@[simp] theorem eq_rows {l m : List (Int × Int)} {st : Sto} : oEq (.lst (l.map dRow)) (.lst (m.map dRow)) st = .val .P (.bl (decide (l = m))) st :=
  eq_lst (fun a => by simp [dRow, pur, purL]) (fun a => by simp [dRow, dep, depL]) dRow_inj l m st
@[simp] theorem ne_rows {l m : List (Int × Int)} {st : Sto} : oNe (.lst (l.map dRow)) (.lst (m.map dRow)) st = .val .P (.bl (!decide (l = m))) st := ne_of_eq eq_rows
theorem pur_dF (q : Rat) : pur (dF q) = true := by simp [dF, pur, purL]
theorem dep_dF (q : Rat) : dep (dF q) ≤ 1 := by simp [dF, dep, depL]
@[simp] theorem eq_Fs {l m : List Rat} {st : Sto} : oEq (.lst (l.map dF)) (.lst (m.map dF)) st = .val .P (.bl (decide (l = m))) st :=
  eq_lst pur_dF (fun a => by have := dep_dF a; omega) (fun a b => dF_inj.mp) l m st
@[simp] theorem ne_Fs {l m : List Rat} {st : Sto} : oNe (.lst (l.map dF)) (.lst (m.map dF)) st = .val .P (.bl (!decide (l = m))) st := ne_of_eq eq_Fs
end Dn
namespace Dn
open PySem PySem.Spec PyProof.Rows L2
def RowOk (r : Int × Int) : Prop := 1 ≤ r.1 ∧ r.1 ≤ 999 ∧ 0 ≤ r.2 ∧ r.2 ≤ 999999999
def RowsOk (m : Nat) (rows : List (Int × Int)) : Prop := 1 ≤ rows.length ∧ rows.length ≤ m ∧ (∀ r ∈ rows, RowOk r) ∧ (rows.map (·.2)).sum ≠ 0
theorem RowsOk.up {m n : Nat} {rows : List (Int × Int)} (h : RowsOk m rows) (k : m ≤ n) : RowsOk n rows := ⟨h.1, by have := h.2.1; omega, h.2.2⟩
def pre (rows : List (Int × Int)) (i : Nat) : Int := ((rows.take i).map (·.1)).sum
def wid (rows : List (Int × Int)) : Int := (rows.map (·.1)).sum
section
variable {rows : List (Int × Int)} (hr : RowsOk 8 rows)
include hr
end
def bq (rows : List (Int × Int)) (i : Nat) : Rat := Rat.divInt (pre rows i) (wid rows)
section
variable {rows : List (Int × Int)} (hr : RowsOk 8 rows)
include hr
end
def lo (x : Rat) (rows : List (Int × Int)) (i : Nat) : Rat := if x < bq rows i then bq rows i else x
def hi (y : Rat) (rows : List (Int × Int)) (i : Nat) : Rat := if bq rows (i + 1) < y then bq rows (i + 1) else y
def vq (rows : List (Int × Int)) (i : Nat) : Rat := (((rows[i]?.map (·.2)).getD 0 : Int) : Rat)
def wseg (x y : Rat) (rows : List (Int × Int)) (i : Nat) : Rat := vq rows i * ((hi y rows i - lo x rows i) / (bq rows (i + 1) - bq rows i))
def sumR (f : Nat → Rat) : Nat → Rat
  | 0 => 0
  | k + 1 => sumR f k + f k
def wpart (x y : Rat) (rows : List (Int × Int)) (i : Nat) : Rat := if lo x rows i < hi y rows i then wseg x y rows i else 0
def wq (x y : Rat) (rows : List (Int × Int)) : Rat := sumR (wpart x y rows) rows.length
section
variable {rows : List (Int × Int)} (hr : RowsOk 8 rows) {x y : Rat} {s : Nat} (hs : 13 ≤ s)
include hr hs
end
end Dn
namespace Dn
open PySem PySem.Spec PyProof.Rows L2
section
variable {rows : List (Int × Int)} (hr : RowsOk 8 rows)
include hr
end
end Dn
namespace Dn
open PySem PySem.Spec PyProof.Rows L2
section
variable {rows : List (Int × Int)} (hr : RowsOk 8 rows) {x y m : Rat} {i : Nat} (hi' : i < rows.length) (hlh : lo x rows i < hi y rows i) (h0 : 0 < m - sumR (wpart x y rows) i) (h1 : m - sumR (wpart x y rows) i ≤ wseg x y rows i)
include hlh h0 h1 in
include hr hi' hlh h0 h1 in
include hr hi' hlh h0 h1 in
include hr hlh h0 h1 in
include hr hi' hlh h0 h1 in
include hr hi' hlh h0 h1 in
include hr hi' hlh h0 h1 in
include hr hi' hlh h0 h1 in
end
end Dn
namespace Dn
open PySem PySem.Spec PyProof.Rows L2
def Ris (l : List Rat) : Prop := l.Pairwise (· < ·)
def ahead (q : Rat) : List Rat → Nat
  | [] => 0
  | a :: l => if a < q then ahead q l + 1 else 0
def ins (q : Rat) (l : List Rat) : List Rat := if q ∈ l then l else l.take (ahead q l) ++ q :: l.drop (ahead q l)
end Dn
namespace Dn
open PySem PySem.Spec PyProof.Rows L2
def dPair (p : Rat × Rat) : D := .tup [dF p.1, dF p.2]
@[simp] theorem tg_pair {e : DE} {i j : Nat} {r : Rat × Rat} : tgT 2 (tgsCons (tgN i) (tgsCons (tgN j) tgsNil)) (dPair r) e = some ((e.set i (.val (dF r.1))).set j (.val (dF r.2))) := by simp [dPair]
end Dn
namespace Dn
open PySem PySem.Spec PyProof.Rows L2
def cw (rows : List (Int × Int)) (z : Rat) : Rat := wq 0 z rows
section
variable {rows : List (Int × Int)} (hr : RowsOk 8 rows)
include hr
end
end Dn
namespace Dn
open PySem PySem.Spec PyProof.Rows L2
def cnt (E : List Rat) (z : Rat) : Nat := (E.filter fun e => decide (z < e)).length
structure Ends (E : List Rat) (r : List (Int × Int)) : Prop where
  i : ∀ j, j ≤ r.length → bq r j ∈ E
  z : ∀ e ∈ E, 0 ≤ e ∧ e ≤ 1 ∧ Sz 13 e
structure HalfAt (r : List (Int × Int)) (H h0 : Rat) : Prop where
  a : 0 ≤ h0
  b : h0 ≤ 1
  c : cw r h0 = H
  l : ∀ y, 0 ≤ y → y < h0 → cw r y < H
  t : cw r 1 = 2 * H
  p : 0 < H
  s : Sz 40 H
structure Kn (r : List (Int × Int)) (H h0 low high : Rat) : Prop where
  a : 0 ≤ low
  ah : low ≤ h0
  lh : low ≤ high
  b : high ≤ 1
  w : cw r high - cw r low = H
  sl : Sz 280 low
  sh : Sz 280 high
structure Mv (E : List Rat) (r : List (Int × Int)) (H h0 low high low' high' : Rat) : Prop where
  k : Kn r H h0 low' high'
  l : low ≤ low'
  h : high ≤ high'
  nl : ∀ e ∈ E, e ≤ low ∨ low' ≤ e
  nh : ∀ e ∈ E, e ≤ high ∨ high' ≤ e
  c : cnt E low' + cnt E high' < cnt E low + cnt E high
structure Nxt (E : List Rat) (z e : Rat) : Prop where
  m : e ∈ E
  l : z < e
  n : ∀ x ∈ E, x ≤ z ∨ e ≤ x
section
variable {E : List Rat} {r : List (Int × Int)} {H h0 low high after behind : Rat} (hr : RowsOk 8 r) (hE : Ends E r) (hH : HalfAt r H h0) (K : Kn r H h0 low high) (A : Nxt E high after)
include hr hE hH K A
variable (B : Nxt E low behind)
include B
end
end Dn
namespace Dn
open PySem PySem.Spec PyProof.Rows L2
def adj (P : List Rat) : List (Rat × Rat) := P.zip P.tail
theorem adj_cons (a b : Rat) (P : List Rat) : adj (a :: b :: P) = (a, b) :: adj (b :: P) := rfl
theorem adj_in : ∀ {P : List Rat}, Ris P → ∀ ab ∈ adj P, ab.1 ∈ P ∧ ab.2 ∈ P ∧ ab.1 < ab.2 ∧ ∀ u ∈ P, u ≤ ab.1 ∨ ab.2 ≤ u
  | [], _, ab, h => by simp [adj] at h
  | [a], _, ab, h => by simp [adj] at h
  | a :: b :: P, h, ab, m => by
    rw [adj_cons] at m
    unfold Ris at h
    have hh := List.pairwise_cons.mp h
    have hab := hh.1 b (List.mem_cons_self ..)
    rcases List.mem_cons.mp m with rfl | m
    · refine ⟨List.mem_cons_self .., by simp, hab, fun u hu => ?_⟩
      rcases List.mem_cons.mp hu with rfl | hu
      · exact .inl Rat.le_refl
      · rcases List.mem_cons.mp hu with rfl | hu
        · exact .inr Rat.le_refl
        · have := (List.pairwise_cons.mp hh.2).1 u hu
          exact .inr (Rat.le_of_lt this)
    · obtain ⟨h1, h2, h3, h4⟩ := adj_in (P := b :: P) hh.2 ab m
      refine ⟨List.mem_cons_of_mem _ h1, List.mem_cons_of_mem _ h2, h3, fun u hu => ?_⟩
      rcases List.mem_cons.mp hu with rfl | hu
      · have := hh.1 ab.1 h1
        exact .inl (Rat.le_of_lt this)
      · exact h4 u hu
def swStep (p : Rat → Rat → Bool) (F : List (Rat × Rat)) (ab : Rat × Rat) : List (Rat × Rat) :=
  if p ab.1 ab.2 = true then (match F.getLast? with | some l => if l.2 = ab.1 then F.dropLast ++ [(l.1, ab.2)] else F ++ [ab] | none => F ++ [ab]) else F
def sw (p : Rat → Rat → Bool) (P : List Rat) : List (Rat × Rat) := (adj P).foldl (swStep p) []
section
variable {f : Int → Rat} (hf : ∀ a b, a < b ↔ f a < f b)
abbrev f2 (f : Int → Rat) (s : Int × Int) : Rat × Rat := (f s.1, f s.2)
include hf
end
structure Lp (lp : (D → En → SR) → List D → En → SR) (st : Sto) : Prop where
  nil : ∀ b e, lp b [] ⟨e, st⟩ = .nx ⟨e, st⟩
  cons : ∀ b x xs e, lp b (x :: xs) ⟨e, st⟩ = match b x ⟨e, st⟩ with
    | .nx E' => lp b xs E'
    | .ct E' => lp b xs E'
    | .bk E' => .nx E'
    | r => r
end Dn
namespace Dn
open PySem PySem.Spec PyProof.Rows L2 TL
theorem pur_dPair (p : Rat × Rat) : pur (dPair p) = true := by simp [dPair, dF, pur, purL]
theorem dep_dPair (p : Rat × Rat) : dep (dPair p) ≤ 2 := by simp [dPair, dF, dep, depL]
theorem dPair_inj (a b : Rat × Rat) (h : dPair a = dPair b) : a = b := by
  simp only [dPair, D.tup.injEq, List.cons.injEq, and_true] at h
  exact Prod.ext (dF_inj.mp h.1) (dF_inj.mp h.2)
@[simp] theorem eq_pairs {l m : List (Rat × Rat)} {st : Sto} : oEq (.lst (l.map dPair)) (.lst (m.map dPair)) st = .val .P (.bl (decide (l = m))) st :=
  eq_lst pur_dPair (fun p => Nat.le_trans (dep_dPair p) (by decide)) dPair_inj l m st
@[simp] theorem ne_pairs {l m : List (Rat × Rat)} {st : Sto} : oNe (.lst (l.map dPair)) (.lst (m.map dPair)) st = .val .P (.bl (!decide (l = m))) st := ne_of_eq eq_pairs
end Dn
namespace Dn
theorem map_eraseIdx {α β : Type} (f : α → β) : ∀ (l : List α) (k : Nat), (l.map f).eraseIdx k = (l.eraseIdx k).map f
  | [], k => by simp
  | a :: l, 0 => by simp
  | a :: l, k + 1 => by simp [map_eraseIdx f l k]
end Dn
namespace Dn
open PySem PySem.Spec PyProof.Rows L2
def Ov (D : Int) (q : Rat) : Prop := ∃ n : Int, q * (D : Rat) = (n : Rat)
theorem Ov.zero (D : Int) : Ov D 0 := ⟨0, by simp⟩
theorem Ov.one (D : Int) : Ov D 1 := ⟨D, by simp [Rat.one_mul]⟩
theorem Ov.sub {D : Int} {a b : Rat} (h : Ov D a) (k : Ov D b) : Ov D (a - b) := by
  obtain ⟨m, h⟩ := h
  obtain ⟨n, k⟩ := k
  exact ⟨m - n, by rw [Rat.intCast_sub, ← h, ← k]; grind⟩
theorem Ov.mul {D E : Int} {a : Rat} (h : Ov D a) : Ov (D * E) a := by
  obtain ⟨m, h⟩ := h
  exact ⟨m * E, by rw [Rat.intCast_mul, Rat.intCast_mul, ← h]; grind⟩
theorem Ov.int {D : Int} {a : Rat} (n : Int) (h : Ov D a) : Ov D ((n : Rat) * a) := by
  obtain ⟨m, h⟩ := h
  exact ⟨n * m, by rw [Rat.intCast_mul, ← h]; grind⟩
theorem Ov.sz {D : Int} {q : Rat} {a b : Nat} (h : Ov D q) (hD : 0 < D) (h2 : D.natAbs < 2 ^ a) (q0 : 0 ≤ q) (q1 : q ≤ ((2 ^ b : Int) : Rat)) : Sz (a + b) q := by
  obtain ⟨n, h⟩ := h
  have hd := (Rat.intCast_pos (a := D)).mpr hD
  have e : q = Rat.divInt n D := by
    rw [Rat.divInt_eq_div, ← h, Rat.div_def, Rat.mul_assoc, Rat.mul_inv_cancel _ (by grind), Rat.mul_one]
  rw [e]
  have n0 : 0 ≤ n := by
    have : (0 : Rat) ≤ (n : Rat) := by rw [← h]; exact Rat.mul_nonneg q0 (Rat.le_of_lt hd)
    exact Rat.intCast_nonneg.mp this
  have n1 : n ≤ 2 ^ b * D := by
    have : (n : Rat) ≤ ((2 ^ b * D : Int) : Rat) := by
      rw [← h, Rat.intCast_mul]
      exact Rat.mul_le_mul_of_nonneg_right q1 (Rat.le_of_lt hd)
    exact Rat.intCast_le_intCast.mp this
  have n2 : n.natAbs < 2 ^ (a + b) := by
    have h3 : n.natAbs ≤ 2 ^ b * D.natAbs := by
      have : (n.natAbs : Int) ≤ ((2 ^ b * D.natAbs : Nat) : Int) := by
        rw [Int.natAbs_of_nonneg n0, Int.natCast_mul, Int.natAbs_of_nonneg (by omega)]
        simpa using n1
      exact Int.ofNat_le.mp this
    have h4 : 2 ^ b * D.natAbs < 2 ^ b * 2 ^ a := Nat.mul_lt_mul_of_pos_left h2 (Nat.two_pow_pos b)
    rw [Nat.pow_add, Nat.mul_comm (2 ^ a)]
    omega
  exact Sz.mk n2 (Nat.lt_of_lt_of_le h2 (Nat.pow_le_pow_right (by decide) (by omega))) (by omega)
def Gd (g : Int) (p : Rat × Rat) : Prop := Ov g p.1 ∧ Ov g p.2 ∧ 0 ≤ p.1 ∧ p.1 ≤ p.2 ∧ p.2 ≤ 1
theorem Gd.sz {g : Int} {p : Rat × Rat} {a : Nat} (h : Gd g p) (hg : 0 < g) (h2 : g.natAbs < 2 ^ a) : Sz a p.1 ∧ Sz a p.2 := by
  obtain ⟨h1, h3, h4, h5, h6⟩ := h
  exact ⟨h1.sz (b := 0) hg h2 h4 (by simp; grind), h3.sz (b := 0) hg h2 (by grind) (by simpa using h6)⟩
end Dn
namespace Dn
open PySem PySem.Spec PyProof.Rows L2
def Add (μ : Rat → Rat → Rat) : Prop := ∀ x z y, x ≤ z → z ≤ y → μ x z + μ z y = μ x y
def smr (μ : Rat → Rat → Rat) (f : Rat → Rat → Bool) (A : List (Rat × Rat)) : Rat := A.foldr (fun p a => (if f p.1 p.2 = true then μ p.1 p.2 else 0) + a) 0
theorem smr_cons (μ : Rat → Rat → Rat) (f : Rat → Rat → Bool) (p : Rat × Rat) (A : List (Rat × Rat)) : smr μ f (p :: A) = (if f p.1 p.2 = true then μ p.1 p.2 else 0) + smr μ f A := rfl
theorem Add.nil {μ : Rat → Rat → Rat} (h : Add μ) (x : Rat) : μ x x = 0 := by
  have := h x x x Rat.le_refl Rat.le_refl
  grind
theorem smr_none {μ : Rat → Rat → Rat} {f : Rat → Rat → Bool} : ∀ {A : List (Rat × Rat)}, (∀ p ∈ A, f p.1 p.2 = false) → smr μ f A = 0
  | [], _ => rfl
  | p :: A, h => by
    rw [smr_cons, h p (List.mem_cons_self ..), smr_none fun q m => h q (List.mem_cons_of_mem _ m)]
    simp [Rat.add_zero]
def hold (u v a b : Rat) : Bool := !decide (a < u) && !decide (v < b)
theorem ris_cons {a : Rat} {P : List Rat} (h : Ris (a :: P)) : Ris P ∧ ∀ b ∈ P, a < b := by
  unfold Ris at *
  exact ⟨(List.pairwise_cons.mp h).2, (List.pairwise_cons.mp h).1⟩
theorem one1 {μ : Rat → Rat → Rat} (hA : Add μ) {u v : Rat} : ∀ (P : List Rat) (a : Rat), Ris (a :: P) → u ≤ a → v ∈ a :: P → smr μ (hold u v) (adj (a :: P)) = μ a v
  | [], a, _, _, hv => by
    rw [List.mem_singleton.mp hv, hA.nil]; rfl
  | b :: P, a, hR, hu, hv => by
    obtain ⟨hR1, hlt⟩ := ris_cons hR
    have hab := hlt b (List.mem_cons_self ..)
    rw [adj_cons, smr_cons]
    by_cases c : v = a
    · subst c
      rw [hA.nil, smr_none]
      · have : hold u v v b = false := by simp [hold, hab]
        rw [this]; simp [Rat.add_zero]
      · intro p m
        obtain ⟨m1, m2, m3, m4⟩ := adj_in hR1 p m
        have h1 := hlt _ m2
        simp [hold, h1]
    · have hv' : v ∈ b :: P := (List.mem_cons.mp hv).resolve_left c
      have hbv : b ≤ v := by
        rcases List.mem_cons.mp hv' with e | e
        · rw [e]; exact Rat.le_refl
        · exact Rat.le_of_lt ((ris_cons hR1).2 v e)
      have ih := one1 hA P b hR1 (show u ≤ b by grind) hv'
      have hh : hold u v a b = true := by
        unfold hold
        rw [decide_eq_false (by grind), decide_eq_false (by grind)]; rfl
      rw [ih, hh]
      simp only [if_true]
      exact hA a b v (Rat.le_of_lt hab) hbv
end Dn
namespace Dn
open PySem PySem.Spec PyProof.Rows L2
abbrev S (l : List Nat) : Str := ⟨l.toArray⟩
@[simp] theorem tl_S (l : List Nat) : TL.tl (S l) = l := by simp [TL.tl]
@[simp] theorem S_cps (l : List Nat) : (S l).cps.toList = l := by simp
@[simp] theorem S_len (l : List Nat) : (S l).length = l.length := by simp [Str.length]
theorem S_app (a b : List Nat) : S a ++ S b = S (a ++ b) := TL.ext_tl (by rw [TL.tl_append, tl_S, tl_S, tl_S])
section
open Builtin Builtin.Str StrLaws
theorem occ_count (x : Str) (c : Nat) (lim : Nat) : ∀ (l : List Nat) (a : Array Nat) (free : Nat), (∀ i ∈ l, free ≤ i) → l.Pairwise (· < ·) → a.size + l.length ≤ lim →
    (forIn l (a, free) (occBody x ⟨#[c]⟩ x.length lim)).run.fst.size = a.size + l.countP (fun i => x.cps.toList[i]? == some c)
  | [], a, free, _, _, _ => by simp
  | i :: l, a, free, hf, hs, hl => by
    rw [List.forIn_cons]
    unfold occBody
    have hi : free ≤ i := hf i (List.mem_cons_self ..)
    have hs' := List.pairwise_cons.mp hs
    have hll : a.size + (l.length + 1) ≤ lim := by simpa using hl
    have ss := subAt_one x c i
    by_cases hc : x.cps.toList[i]? = some c
    · have h1 := ss.mpr hc
      rw [if_pos ⟨⟨⟨by show a.size < lim; omega, hi⟩, h1.1⟩, h1.2⟩]
      have ih := occ_count x c lim l (a.push i) (i + 1) (fun j hj => hs'.1 j hj) hs'.2 (by rw [Array.size_push]; omega)
      have e : (⟨#[c]⟩ : Str).length = 1 := rfl
      rw [List.countP_cons_of_pos (by simp [hc])]
      show (forIn l (a.push i, i + (⟨#[c]⟩ : Str).length) (occBody x ⟨#[c]⟩ x.length lim)).run.fst.size = _
      rw [e, ih, Array.size_push]; omega
    · rw [if_neg (fun h => hc (ss.mp ⟨h.1.2, h.2⟩))]
      have ih := occ_count x c lim l a free (fun j hj => hf j (List.mem_cons_of_mem _ hj)) hs'.2 (by omega)
      rw [List.countP_cons_of_neg (by rw [beq_iff_eq]; exact hc)]
      exact ih
theorem range_count (c : Nat) : ∀ (l : List Nat) (k : Nat), (List.range' k (l.length + 1)).countP (fun i => l[i - k]? == some c) = l.count c
  | [], k => by simp
  | a :: l, k => by
    rw [List.length_cons, List.range'_succ]
    have e : (List.range' (k + 1) (l.length + 1)).countP (fun i => (a :: l)[i - k]? == some c) = l.count c := by
      rw [← range_count c l (k + 1)]
      refine List.countP_congr fun i hi => ?_
      have : k + 1 ≤ i := (List.mem_range'_1.mp hi).1
      rw [show i - k = (i - (k + 1)) + 1 by omega, List.getElem?_cons_succ]
    by_cases h : a = c
    · subst h
      rw [List.countP_cons_of_pos (by simp), e, List.count_cons_self]
    · rw [List.countP_cons_of_neg (by simp [h]), e, List.count_cons_of_ne (by simpa using h)]
theorem count_one (x : Str) (c : Nat) : Txt.count x ⟨#[c]⟩ = (x.cps.toList.count c : Int) := by
  unfold Txt.count
  rw [occ_eq, Array.length_toList, occ_count x c _ _ _ _ (fun _ _ => Nat.zero_le _) (by simpa using List.pairwise_lt_range') (by simp)]
  have := range_count c x.cps.toList 0
  simp only [Nat.sub_zero] at this ⊢
  rw [show x.length = x.cps.toList.length by simp [Str.length]]
  show ((0 + _ : Nat) : Int) = _
  rw [Nat.zero_add, this]
end
def alt (x : Nat) : List (List Nat) → Int
  | [] => 0
  | p :: l => (p.count x : Int) - alt x l
def segs : Nat → List Nat → List Nat → List (List Nat)
  | h, [], T => [T.drop h]
  | h, c :: cs, T => (T.drop h).take (c - h) :: segs c cs T
def bal (x : Nat) (cs : List Nat) : Int → Nat → List Nat → Int
  | _, _, [] => 0
  | s, p, ch :: T => (if ch = x then (if p ∈ cs then -s else s) else 0) + bal x cs (if p ∈ cs then -s else s) (p + 1) T
theorem bal_app (x : Nat) (cs : List Nat) (s : Int) : ∀ (A B : List Nat) (h : Nat), (∀ p, h ≤ p → p < h + A.length → p ∉ cs) → bal x cs s h (A ++ B) = s * A.count x + bal x cs s (h + A.length) B
  | [], B, h, _ => by simp
  | a :: A, B, h, hn => by
    have h0 := hn h (Nat.le_refl _) (by simp)
    have ih := bal_app x cs s A B (h + 1) (fun p h1 h2 => hn p (by omega) (by simp; omega))
    rw [List.cons_append, bal, if_neg h0, ih, List.length_cons, show h + 1 + A.length = h + (A.length + 1) by omega]
    by_cases e : a = x
    · subst e
      rw [if_pos rfl, List.count_cons_self, Int.natCast_add, Int.mul_add]; simp; omega
    · rw [if_neg e, List.count_cons_of_ne (by simpa using e)]; omega
def okCuts (n : Nat) : Nat → List Nat → Prop
  | _, [] => True
  | h, c :: cs => h < c ∧ c < n ∧ okCuts n c cs
theorem okCuts_gt {n : Nat} : ∀ {h : Nat} {cs : List Nat}, okCuts n h cs → ∀ c ∈ cs, h < c
  | _, [], _, _, m => by cases m
  | h, c :: cs, ⟨h1, _, h3⟩, d, m => by
    rcases List.mem_cons.mp m with rfl | m
    · exact h1
    · exact Nat.lt_trans h1 (okCuts_gt h3 d m)
theorem bal_segs (x : Nat) (cs : List Nat) (T : List Nat) : ∀ (rest : List Nat) (h : Nat) (s : Int), h < T.length → okCuts T.length h rest → (∀ p, h < p → (p ∈ cs ↔ p ∈ rest)) → bal x cs s h (T.drop h) = (if h ∈ cs then -s else s) * alt x (segs h rest T)
  | [], h, s, hl, _, hm => by
    rw [List.drop_eq_getElem_cons hl, bal]
    generalize (if h ∈ cs then -s else s) = s'
    have := bal_app x cs s' (T.drop (h + 1)) [] (h + 1) (fun p h1 _ m => by have := (hm p (by omega)).mp m; cases this)
    rw [List.append_nil] at this
    rw [this, segs, alt, alt, List.drop_eq_getElem_cons hl, bal]
    by_cases e : T[h] = x
    · rw [if_pos e, List.count_cons, e]; simp [Int.mul_add]; omega
    · rw [if_neg e, List.count_cons_of_ne (by simpa using e)]; simp
  | c :: rest, h, s, hl, ⟨h1, h2, h3⟩, hm => by
    have e : T.drop h = T[h] :: ((T.drop (h + 1)).take (c - (h + 1)) ++ T.drop c) := by
      rw [List.drop_eq_getElem_cons hl]
      congr 1
      rw [show T.drop c = (T.drop (h + 1)).drop (c - (h + 1)) by rw [List.drop_drop]; congr 1; omega, List.take_append_drop]
    have hlen : ((T.drop (h + 1)).take (c - (h + 1))).length = c - (h + 1) := by simp; omega
    rw [e, bal]
    generalize hs' : (if h ∈ cs then -s else s) = s'
    have hc : c ∈ cs := (hm c h1).mpr (List.mem_cons_self ..)
    have := bal_app x cs s' ((T.drop (h + 1)).take (c - (h + 1))) (T.drop c) (h + 1) (fun p h4 h5 m => by
      rw [hlen] at h5
      rcases List.mem_cons.mp ((hm p (by omega)).mp m) with rfl | m
      · omega
      · have := okCuts_gt h3 p m; omega)
    rw [this, hlen, show h + 1 + (c - (h + 1)) = c by omega]
    have ih := bal_segs x cs T rest c s' h2 h3 (fun p hp => by
      rw [hm p (by omega), List.mem_cons]
      exact ⟨fun m => m.elim (fun z => by omega) id, .inr⟩)
    rw [ih, if_pos hc, segs, alt]
    have hp : (T.drop h).take (c - h) = T[h] :: (T.drop (h + 1)).take (c - (h + 1)) := by
      rw [List.drop_eq_getElem_cons hl, show c - h = (c - (h + 1)) + 1 by omega, List.take_succ_cons]
    rw [hp]
    generalize alt x (segs c rest T) = A
    by_cases e : T[h] = x
    · rw [if_pos e, List.count_cons, e]; simp; grind
    · rw [if_neg e, List.count_cons_of_ne (by simpa using e)]; grind
end Dn
namespace Dn
open PySem PySem.Spec PyProof.Rows L2
open TL (tl numL)
def sp (s : Nat) : List Nat → List (List Nat)
  | [] => [[]]
  | c :: l => if c = s then [] :: sp s l else match sp s l with
    | [] => [[c]]
    | h :: t => (c :: h) :: t
end Dn
namespace Dn
open PySem PySem.Spec PyProof.Rows L2
abbrev tbls : Sto := []
noncomputable def fb_is_cuts_1 : En → SR :=
  (sIf (dOr (dOp oLt (dVar 3) (dC (.int 1))) (dOr (dOp oGe (dVar 3) (dCB oLen (aCons (dVar 0) aNil))) (dAnd (dOp oGt (dVar 2) (dC (.int 0))) (dOp oLe (dVar 3) (dOp oIx (dVar 1) (dOp oSub (dVar 2) (dC (.int 1)))))))) (sRet (dC (.bl false))) sSkip)
theorem q_fb_is_cuts_1 {e : En} : fb_is_cuts_1 e = (sIf (dOr (dOp oLt (dVar 3) (dC (.int 1))) (dOr (dOp oGe (dVar 3) (dCB oLen (aCons (dVar 0) aNil))) (dAnd (dOp oGt (dVar 2) (dC (.int 0))) (dOp oLe (dVar 3) (dOp oIx (dVar 1) (dOp oSub (dVar 2) (dC (.int 1)))))))) (sRet (dC (.bl false))) sSkip) e := rfl
noncomputable def g_is_cuts : En → SR :=
  (sSeq (sForE (aCons (dVar 1) aNil) (tgT 2 (tgsCons (tgN 2) (tgsCons (tgN 3) tgsNil))) fb_is_cuts_1)
  (sRet (dC (.bl true))))
noncomputable def F_is_cuts : List D → Sto → ER := fnD 2 4 g_is_cuts
noncomputable def fb_all_cuts_1_1 : En → SR :=
  sBad
noncomputable def g_all_cuts_1 : En → SR :=
  (sSeq (sIf (dOp oEq (dVar 2) (dC (.int 0))) (sRet (dLst (aCons (dLst aNil) aNil))) sSkip)
  (sSeq (sSet 3 (dLst aNil))
  (sSeq (sFor (dRng rng2 (aCons (dVar 0) (aCons (dOp oAdd (dVar 1) (dC (.int 1))) aNil))) (tgN 4) fb_all_cuts_1_1)
  (sRetV 3))))
noncomputable def F_all_cuts_1 : List D → Sto → ER := fnD 3 6 g_all_cuts_1
noncomputable def ce_sums_ahead_2 : En → ER :=
  (dOp oAdd (dVar 3) (dCB oInt (aCons (dOp oEq (dVar 2) (dVar 4)) aNil)))
theorem q_ce_sums_ahead_2 {e : En} : ce_sums_ahead_2 e = (dOp oAdd (dVar 3) (dCB oInt (aCons (dOp oEq (dVar 2) (dVar 4)) aNil))) e := rfl
noncomputable def fb_sums_ahead_3 : En → SR :=
  (sMt mAppend 1 (aCons (dLc (dZipS (aCons (dOp oIx (dVar 1) (dUn oNeg (dC (.int 1)))) (aCons (dC (.str "abc")) aNil))) (tgT 2 (tgsCons (tgN 3) (tgsCons (tgN 4) tgsNil))) (fun E => .val .P (.bl true) E.st) ce_sums_ahead_2 [3, 4]) aNil))
theorem q_fb_sums_ahead_3 {e : En} : fb_sums_ahead_3 e = (sMt mAppend 1 (aCons (dLc (dZipS (aCons (dOp oIx (dVar 1) (dUn oNeg (dC (.int 1)))) (aCons (dC (.str "abc")) aNil))) (tgT 2 (tgsCons (tgN 3) (tgsCons (tgN 4) tgsNil))) (fun E => .val .P (.bl true) E.st) ce_sums_ahead_2 [3, 4]) aNil)) e := rfl
noncomputable def g_sums_ahead : En → SR :=
  (sSeq (sSet 1 (dLst (aCons (dLst (aCons (dC (.int 0)) (aCons (dC (.int 0)) (aCons (dC (.int 0)) aNil)))) aNil)))
  (sSeq (sFor (dIter (dVar 0)) (tgN 2) fb_sums_ahead_3)
  (sRetV 1)))
noncomputable def F_sums_ahead : List D → Sto → ER := fnD 1 5 g_sums_ahead
noncomputable def ce_last_cut_1 : En → ER :=
  (dOp oSub (dOp oIx (dVar 2) (dOp oAdd (dVar 4) (dC (.int 1)))) (dOp oIx (dVar 2) (dVar 4)))
theorem q_ce_last_cut_1 {e : En} : ce_last_cut_1 e = (dOp oSub (dOp oIx (dVar 2) (dOp oAdd (dVar 4) (dC (.int 1)))) (dOp oIx (dVar 2) (dVar 4))) e := rfl
noncomputable def g_last_cut : En → SR :=
  (sSeq (sSetF 2 (dOp oAdd (dLst (aCons (dC (.int 0)) aNil)) (dVar 0)))
  (sSeq (sSetF 3 (dCB oSum (aCons (dLc (dRng3 (aCons (dOp oMod (dCB oLen (aCons (dVar 0) aNil)) (dC (.int 2))) (aCons (dCB oLen (aCons (dVar 0) aNil)) (aCons (dC (.int 2)) aNil)))) (tgN 4) (fun E => .val .P (.bl true) E.st) ce_last_cut_1 [4]) aNil)))
  (sRet (dOp oSub (dOp oAdd (dOp oIx (dVar 2) (dUn oNeg (dC (.int 1)))) (dOp oDiv (dVar 1) (dC (.int 2)))) (dVar 3)))))
noncomputable def F_last_cut : List D → Sto → ER := fnD 2 5 g_last_cut
noncomputable def ce_gives_halves_1 : En → ER :=
  (dOp oSub (dOp oAdd (dVar 5) (dVar 6)) (dVar 7))
theorem q_ce_gives_halves_1 {e : En} : ce_gives_halves_1 e = (dOp oSub (dOp oAdd (dVar 5) (dVar 6)) (dVar 7)) e := rfl
noncomputable def fb_gives_halves_2 : En → SR :=
  (sSetF 3 (dLc (dZip3 (aCons (dVar 3) (aCons (dOp oIx (dVar 0) (dOp oIx (dVar 2) (dOp oAdd (dVar 4) (dC (.int 1))))) (aCons (dOp oIx (dVar 0) (dOp oIx (dVar 2) (dVar 4))) aNil)))) (tgT 3 (tgsCons (tgN 5) (tgsCons (tgN 6) (tgsCons (tgN 7) tgsNil)))) (fun E => .val .P (.bl true) E.st) ce_gives_halves_1 [5, 6, 7]))
theorem q_fb_gives_halves_2 {e : En} : fb_gives_halves_2 e = (sSetF 3 (dLc (dZip3 (aCons (dVar 3) (aCons (dOp oIx (dVar 0) (dOp oIx (dVar 2) (dOp oAdd (dVar 4) (dC (.int 1))))) (aCons (dOp oIx (dVar 0) (dOp oIx (dVar 2) (dVar 4))) aNil)))) (tgT 3 (tgsCons (tgN 5) (tgsCons (tgN 6) (tgsCons (tgN 7) tgsNil)))) (fun E => .val .P (.bl true) E.st) ce_gives_halves_1 [5, 6, 7])) e := rfl
noncomputable def ce_gives_halves_3 : En → ER :=
  (dOp oMul (dC (.int 2)) (dVar 5))
theorem q_ce_gives_halves_3 {e : En} : ce_gives_halves_3 e = (dOp oMul (dC (.int 2)) (dVar 5)) e := rfl
noncomputable def g_gives_halves : En → SR :=
  (sSeq (sSetF 2 (dOp oAdd (dOp oAddX (dLst (aCons (dC (.int 0)) aNil)) (dVar 1)) (dLst (aCons (dOp oSub (dCB oLen (aCons (dVar 0) aNil)) (dC (.int 1))) aNil))))
  (sSeq (sSetF 3 (dLst (aCons (dC (.int 0)) (aCons (dC (.int 0)) (aCons (dC (.int 0)) aNil)))))
  (sSeq (sFor (dRng3 (aCons (dC (.int 0)) (aCons (dOp oSub (dCB oLen (aCons (dVar 2) aNil)) (dC (.int 1))) (aCons (dC (.int 2)) aNil)))) (tgN 4) fb_gives_halves_2)
  (sRet (dOp oEq (dLc (dIter (dVar 3)) (tgN 5) (fun E => .val .P (.bl true) E.st) ce_gives_halves_3 [5]) (dOp oIx (dVar 0) (dUn oNeg (dC (.int 1)))))))))
noncomputable def F_gives_halves : List D → Sto → ER := fnD 2 8 g_gives_halves
noncomputable def ce_law_box_1 : En → ER :=
  (dVar 2)
theorem q_ce_law_box_1 {e : En} : ce_law_box_1 e = (dVar 2) e := rfl
noncomputable def ct_law_box_2 : En → ER :=
  (dOp oGe (dVar 2) (dOp oPow (dC (.int 10)) (dC (.int 18))))
theorem q_ct_law_box_2 {e : En} : ct_law_box_2 e = (dOp oGe (dVar 2) (dOp oPow (dC (.int 10)) (dC (.int 18)))) e := rfl
noncomputable def ce_law_box_3 : En → ER :=
  (dVar 2)
theorem q_ce_law_box_3 {e : En} : ce_law_box_3 e = (dVar 2) e := rfl
noncomputable def ct_law_box_4 : En → ER :=
  (dOp oLt (dVar 2) (dOp oPow (dC (.int 10)) (dC (.int 18))))
theorem q_ct_law_box_4 {e : En} : ct_law_box_4 e = (dOp oLt (dVar 2) (dOp oPow (dC (.int 10)) (dC (.int 18)))) e := rfl
noncomputable def g_law_box : En → SR :=
  (sSeq (sSetF 1 (dPut (dLc (dIter (dVar 0)) (tgN 2) ct_law_box_2 ce_law_box_1 [2])))
  (sRet (dPut (dLst (aCons (dVar 1) (aCons (dC (.int 0)) (aCons (dLc (dIter (dVar 0)) (tgN 2) ct_law_box_4 ce_law_box_3 [2]) (aCons (dC (.int 0)) aNil))))))))
noncomputable def F_law_box : List D → Sto → ER := fnD 1 3 g_law_box
noncomputable def g_law_mixed : En → SR :=
  (sSeq (sSetF 2 (dOp oMod (dOp oPow (dOp oAdd (dOp oAdd (dOp oAdd (dOp oMod (dVar 0) (dC (.int 2147483647))) (dOp oMul (dOp oMul (dC (.int 1009)) (dVar 1)) (dVar 1))) (dOp oMul (dC (.int 48611)) (dVar 1))) (dC (.int 17))) (dC (.int 5))) (dC (.int 2147483647))))
  (sRet (dOp oMod (dOp oAdd (dOp oMul (dVar 2) (dC (.int 39373))) (dOp oMul (dC (.int 7919)) (dVar 1))) (dC (.int 1000000007)))))
noncomputable def F_law_mixed : List D → Sto → ER := fnD 2 3 g_law_mixed
noncomputable def fb_law_hands_1 : En → SR :=
  (sSeq (sIf (dOp oIn (dVar 4) (dVar 1)) (sSetF 3 (dOp oSub (dC (.int 1)) (dVar 3))) sSkip)
  (sAugP (fun i j => i + j) (dOp oIx (dVar 2) (dVar 3)) (dMs msIndex (dC (.str "abc")) (aCons (dVar 5) aNil)) (dC (.int 1))))
theorem q_fb_law_hands_1 {e : En} : fb_law_hands_1 e = (sSeq (sIf (dOp oIn (dVar 4) (dVar 1)) (sSetF 3 (dOp oSub (dC (.int 1)) (dVar 3))) sSkip)
  (sAugP (fun i j => i + j) (dOp oIx (dVar 2) (dVar 3)) (dMs msIndex (dC (.str "abc")) (aCons (dVar 5) aNil)) (dC (.int 1)))) e := rfl
noncomputable def g_law_hands : En → SR :=
  (sSeq (sSetF 2 (dLst (aCons (dPut (dLst (aCons (dC (.int 0)) (aCons (dC (.int 0)) (aCons (dC (.int 0)) aNil))))) (aCons (dPut (dLst (aCons (dC (.int 0)) (aCons (dC (.int 0)) (aCons (dC (.int 0)) aNil))))) aNil))))
  (sSeq (sSetF 3 (dC (.int 0)))
  (sSeq (sFor (dEnumS (aCons (dVar 0) aNil)) (tgT 2 (tgsCons (tgN 4) (tgsCons (tgN 5) tgsNil))) fb_law_hands_1)
  (sRetV 2))))
noncomputable def F_law_hands : List D → Sto → ER := fnD 2 6 g_law_hands
noncomputable def fb_law_is_cuts_1 : En → SR :=
  (sSeq (sIf (dOr (dNot (dIsi "int" (dVar 3))) (dOr (dIsi "bool" (dVar 3)) (dOr (dOp oLt (dVar 3) (dC (.int 1))) (dOp oGe (dVar 3) (dCB oLen (aCons (dVar 0) aNil)))))) (sRet (dC (.bl false))) sSkip)
  (sIf (dAnd (dOp oGt (dVar 2) (dC (.int 0))) (dOp oLe (dVar 3) (dOp oIx (dVar 1) (dOp oSub (dVar 2) (dC (.int 1)))))) (sRet (dC (.bl false))) sSkip))
theorem q_fb_law_is_cuts_1 {e : En} : fb_law_is_cuts_1 e = (sSeq (sIf (dOr (dNot (dIsi "int" (dVar 3))) (dOr (dIsi "bool" (dVar 3)) (dOr (dOp oLt (dVar 3) (dC (.int 1))) (dOp oGe (dVar 3) (dCB oLen (aCons (dVar 0) aNil)))))) (sRet (dC (.bl false))) sSkip)
  (sIf (dAnd (dOp oGt (dVar 2) (dC (.int 0))) (dOp oLe (dVar 3) (dOp oIx (dVar 1) (dOp oSub (dVar 2) (dC (.int 1)))))) (sRet (dC (.bl false))) sSkip)) e := rfl
noncomputable def g_law_is_cuts : En → SR :=
  (sSeq (sIf (dNot (dIsiP "list" (dVar 1))) (sRet (dC (.bl false))) sSkip)
  (sSeq (sForE (aCons (dVar 1) aNil) (tgT 2 (tgsCons (tgN 2) (tgsCons (tgN 3) tgsNil))) fb_law_is_cuts_1)
  (sRet (dC (.bl true)))))
noncomputable def F_law_is_cuts : List D → Sto → ER := fnD 2 4 g_law_is_cuts
noncomputable def fb_law_lists_1_1 : En → SR :=
  sBad
noncomputable def g_law_lists_1 : En → SR :=
  (sSeq (sIf (dOp oEq (dVar 2) (dC (.int 0))) (sRet (dLst (aCons (dLst aNil) aNil))) sSkip)
  (sSeq (sSet 3 (dLst aNil))
  (sSeq (sFor (dRng rng2 (aCons (dVar 0) (aCons (dOp oAdd (dVar 1) (dC (.int 1))) aNil))) (tgN 4) fb_law_lists_1_1)
  (sRetV 3))))
noncomputable def F_law_lists_1 : List D → Sto → ER := fnD 3 6 g_law_lists_1
noncomputable def fb_all_cuts_2_1 : En → SR :=
  (sMt mAppend 3 (aCons (dOp oAdd (dLst (aCons (dVar 4) aNil)) (dVar 5)) aNil))
noncomputable def fb_all_cuts_2_2 : En → SR :=
  (sFor (dIter (dCall F_all_cuts_1 (aCons (dOp oAdd (dVar 4) (dC (.int 1))) (aCons (dVar 1) (aCons (dOp oSub (dVar 2) (dC (.int 1))) aNil))))) (tgN 5) fb_all_cuts_2_1)
noncomputable def g_all_cuts_2 : En → SR :=
  (sSeq (sIf (dOp oEq (dVar 2) (dC (.int 0))) (sRet (dLst (aCons (dLst aNil) aNil))) sSkip)
  (sSeq (sSet 3 (dLst aNil))
  (sSeq (sFor (dRng rng2 (aCons (dVar 0) (aCons (dOp oAdd (dVar 1) (dC (.int 1))) aNil))) (tgN 4) fb_all_cuts_2_2)
  (sRetV 3))))
noncomputable def F_all_cuts_2 : List D → Sto → ER := fnD 3 6 g_all_cuts_2
noncomputable def wc_law_take_1 : En → ER :=
  (dOp oLt (dVar 4) (dVar 1))
theorem q_wc_law_take_1 {e : En} : wc_law_take_1 e = (dOp oLt (dVar 4) (dVar 1)) e := rfl
noncomputable def wb_law_take_2 : En → SR :=
  (sSeq (sSetF 3 (dOp oAdd (dOp oMul (dVar 3) (dC (.int 1000000007))) (dCall F_law_mixed (aCons (dVar 2) (aCons (dOp oAdd (dOp oIx (dVar 0) (dC (.int 3))) (dOp oMul (dC (.int 1000)) (dOp oMod (dVar 3) (dC (.int 89))))) aNil)))))
  (sSetF 4 (dOp oMul (dVar 4) (dC (.int 1000000007)))))
theorem q_wb_law_take_2 {e : En} : wb_law_take_2 e = (sSeq (sSetF 3 (dOp oAdd (dOp oMul (dVar 3) (dC (.int 1000000007))) (dCall F_law_mixed (aCons (dVar 2) (aCons (dOp oAdd (dOp oIx (dVar 0) (dC (.int 3))) (dOp oMul (dC (.int 1000)) (dOp oMod (dVar 3) (dC (.int 89))))) aNil)))))
  (sSetF 4 (dOp oMul (dVar 4) (dC (.int 1000000007))))) e := rfl
noncomputable def g_law_take : En → SR :=
  (sSeq (sSetI 0 (dOp oAdd (dOp oIx (dVar 0) (dC (.int 3))) (dC (.int 1))) (dC (.int 3)))
  (sSeq (sIf (dAnd (dOp oEq (dOp oIx (dVar 0) (dC (.int 1))) (dC (.int 0))) (dOp oGt (dCB oLen (aCons (dOp oIx (dVar 0) (dC (.int 0))) aNil)) (dC (.int 0)))) (sSetI 0 (dMtX mPopAt (dOp oIx (dVar 0) (dC (.int 0))) (aCons (dC (.int 0)) aNil)) (dC (.int 1))) sSkip)
  (sSeq (sIf (dOp oGt (dOp oIx (dVar 0) (dC (.int 1))) (dC (.int 0))) (sSeq (sSetF 3 (dOp oMod (dOp oIx (dVar 0) (dC (.int 1))) (dVar 1)))
  (sSeq (sSetI 0 (dOp oDiv (dOp oIx (dVar 0) (dC (.int 1))) (dVar 1)) (dC (.int 1)))
  (sRetV 3))) sSkip)
  (sSeq (sSetF 2 (dOp oMul (dC (.int 7)) (dOp oIx (dVar 0) (dC (.int 3)))))
  (sSeq (sIf (dOp oGt (dCB oLen (aCons (dOp oIx (dVar 0) (dC (.int 2))) aNil)) (dC (.int 0))) (sSetF 2 (dOp oIx (dOp oIx (dVar 0) (dC (.int 2))) (dOp oMod (dOp oIx (dVar 0) (dC (.int 3))) (dCB oLen (aCons (dOp oIx (dVar 0) (dC (.int 2))) aNil))))) sSkip)
  (sSeq (sSetF 3 (dC (.int 0)))
  (sSeq (sSetF 4 (dC (.int 1)))
  (sSeq (sWhile wc_law_take_1 wb_law_take_2)
  (sRet (dOp oMod (dVar 3) (dVar 1)))))))))))
noncomputable def F_law_take : List D → Sto → ER := fnD 2 5 g_law_take
noncomputable def fb_law_lists_2_1 : En → SR :=
  (sMt mAppend 3 (aCons (dOp oAdd (dLst (aCons (dVar 4) aNil)) (dVar 5)) aNil))
noncomputable def fb_law_lists_2_2 : En → SR :=
  (sFor (dIter (dCall F_law_lists_1 (aCons (dOp oAdd (dVar 4) (dC (.int 1))) (aCons (dVar 1) (aCons (dOp oSub (dVar 2) (dC (.int 1))) aNil))))) (tgN 5) fb_law_lists_2_1)
noncomputable def g_law_lists_2 : En → SR :=
  (sSeq (sIf (dOp oEq (dVar 2) (dC (.int 0))) (sRet (dLst (aCons (dLst aNil) aNil))) sSkip)
  (sSeq (sSet 3 (dLst aNil))
  (sSeq (sFor (dRng rng2 (aCons (dVar 0) (aCons (dOp oAdd (dVar 1) (dC (.int 1))) aNil))) (tgN 4) fb_law_lists_2_2)
  (sRetV 3))))
noncomputable def F_law_lists_2 : List D → Sto → ER := fnD 3 6 g_law_lists_2
noncomputable def fb_ask_beads_1 : En → SR :=
  (sIf (dOr (dOp oEq (dVar 1) (dC (.int 24))) (dOp oNotIn (dVar 2) (dC (.str "abc")))) (sRaiseF 1 (aCons (dVar 1) aNil)) sSkip)
theorem q_fb_ask_beads_1 {e : En} : fb_ask_beads_1 e = (sIf (dOr (dOp oEq (dVar 1) (dC (.int 24))) (dOp oNotIn (dVar 2) (dC (.str "abc")))) (sRaiseF 1 (aCons (dVar 1) aNil)) sSkip) e := rfl
noncomputable def g_ask_beads : En → SR :=
  (sFor (dEnumS (aCons (dVar 0) aNil)) (tgT 2 (tgsCons (tgN 1) (tgsCons (tgN 2) tgsNil))) fb_ask_beads_1)
noncomputable def F_ask_beads : List D → Sto → ER := fnD 1 3 g_ask_beads
noncomputable def fb_all_cuts_1 : En → SR :=
  (sMt mAppend 3 (aCons (dOp oAdd (dLst (aCons (dVar 4) aNil)) (dVar 5)) aNil))
noncomputable def fb_all_cuts_2 : En → SR :=
  (sFor (dIter (dCall F_all_cuts_2 (aCons (dOp oAdd (dVar 4) (dC (.int 1))) (aCons (dVar 1) (aCons (dOp oSub (dVar 2) (dC (.int 1))) aNil))))) (tgN 5) fb_all_cuts_1)
noncomputable def g_all_cuts : En → SR :=
  (sSeq (sIf (dOp oEq (dVar 2) (dC (.int 0))) (sRet (dLst (aCons (dLst aNil) aNil))) sSkip)
  (sSeq (sSet 3 (dLst aNil))
  (sSeq (sFor (dRng rng2 (aCons (dVar 0) (aCons (dOp oAdd (dVar 1) (dC (.int 1))) aNil))) (tgN 4) fb_all_cuts_2)
  (sRetV 3))))
noncomputable def F_all_cuts : List D → Sto → ER := fnD 3 6 g_all_cuts
noncomputable def ce_law_beads_1 : En → ER :=
  (dOp oIx (dC (.str "abc")) (dCall F_law_take (aCons (dVar 0) (aCons (dVar 2) aNil))))
theorem q_ce_law_beads_1 {e : En} : ce_law_beads_1 e = (dOp oIx (dC (.str "abc")) (dCall F_law_take (aCons (dVar 0) (aCons (dVar 2) aNil)))) e := rfl
noncomputable def wc_law_beads_2 : En → ER :=
  (dOp oGt (dCB oLen (aCons (dVar 4) aNil)) (dC (.int 0)))
theorem q_wc_law_beads_2 {e : En} : wc_law_beads_2 e = (dOp oGt (dCB oLen (aCons (dVar 4) aNil)) (dC (.int 0))) e := rfl
noncomputable def wb_law_beads_3 : En → SR :=
  (sSetF 5 (dOp oAdd (dVar 5) (dMtX mPopAt (dVar 4) (aCons (dCall F_law_take (aCons (dVar 0) (aCons (dCB oLen (aCons (dVar 4) aNil)) aNil))) aNil))))
theorem q_wb_law_beads_3 {e : En} : wb_law_beads_3 e = (sSetF 5 (dOp oAdd (dVar 5) (dMtX mPopAt (dVar 4) (aCons (dCall F_law_take (aCons (dVar 0) (aCons (dCB oLen (aCons (dVar 4) aNil)) aNil))) aNil)))) e := rfl
noncomputable def g_law_beads : En → SR :=
  (sSeq (sSetF 2 (dOp oAdd (dC (.int 1)) (dCall F_law_take (aCons (dVar 0) (aCons (dC (.int 3)) aNil)))))
  (sSeq (sSetF 3 (dLc (dRng rng1 (aCons (dCall F_law_take (aCons (dVar 0) (aCons (dOp oAdd (dOp oDiv (dVar 1) (dC (.int 2))) (dC (.int 1))) aNil))) aNil)) (tgN 6) (fun E => .val .P (.bl true) E.st) ce_law_beads_1 [6]))
  (sSeq (sSetF 4 (dPut (dOp oAdd (dVar 3) (dVar 3))))
  (sSeq (sSetF 5 (dC (.str "")))
  (sSeq (sWhile wc_law_beads_2 wb_law_beads_3)
  (sRetV 5))))))
noncomputable def F_law_beads : List D → Sto → ER := fnD 2 7 g_law_beads
noncomputable def fb_law_lists_1 : En → SR :=
  (sMt mAppend 3 (aCons (dOp oAdd (dLst (aCons (dVar 4) aNil)) (dVar 5)) aNil))
noncomputable def fb_law_lists_2 : En → SR :=
  (sFor (dIter (dCall F_law_lists_2 (aCons (dOp oAdd (dVar 4) (dC (.int 1))) (aCons (dVar 1) (aCons (dOp oSub (dVar 2) (dC (.int 1))) aNil))))) (tgN 5) fb_law_lists_1)
noncomputable def g_law_lists : En → SR :=
  (sSeq (sIf (dOp oEq (dVar 2) (dC (.int 0))) (sRet (dLst (aCons (dLst aNil) aNil))) sSkip)
  (sSeq (sSet 3 (dLst aNil))
  (sSeq (sFor (dRng rng2 (aCons (dVar 0) (aCons (dOp oAdd (dVar 1) (dC (.int 1))) aNil))) (tgN 4) fb_law_lists_2)
  (sRetV 3))))
noncomputable def F_law_lists : List D → Sto → ER := fnD 3 6 g_law_lists
noncomputable def fb_fewest_cuts_1 : En → SR :=
  (sIf (dOp oEq (dOp oMod (dMs msCount (dVar 0) (aCons (dVar 1) aNil)) (dC (.int 2))) (dC (.int 1))) (sRaiseF 2 (aCons (dVar 1) aNil)) sSkip)
theorem q_fb_fewest_cuts_1 {e : En} : fb_fewest_cuts_1 e = (sIf (dOp oEq (dOp oMod (dMs msCount (dVar 0) (aCons (dVar 1) aNil)) (dC (.int 2))) (dC (.int 1))) (sRaiseF 2 (aCons (dVar 1) aNil)) sSkip) e := rfl
noncomputable def fb_fewest_cuts_2 : En → SR :=
  (sSeq (sSetF 5 (dPut (dOp oAdd (dVar 4) (dLst (aCons (dCall F_last_cut (aCons (dVar 4) (aCons (dCB oLen (aCons (dVar 0) aNil)) aNil))) aNil)))))
  (sIf (dAnd (dCall F_is_cuts (aCons (dVar 0) (aCons (dVar 5) aNil))) (dCall F_gives_halves (aCons (dVar 2) (aCons (dVar 5) aNil)))) (sRetV 5) sSkip))
theorem q_fb_fewest_cuts_2 {e : En} : fb_fewest_cuts_2 e = (sSeq (sSetF 5 (dPut (dOp oAdd (dVar 4) (dLst (aCons (dCall F_last_cut (aCons (dVar 4) (aCons (dCB oLen (aCons (dVar 0) aNil)) aNil))) aNil)))))
  (sIf (dAnd (dCall F_is_cuts (aCons (dVar 0) (aCons (dVar 5) aNil))) (dCall F_gives_halves (aCons (dVar 2) (aCons (dVar 5) aNil)))) (sRetV 5) sSkip)) e := rfl
noncomputable def wc_fewest_cuts_3 : En → ER :=
  (dOp oLt (dVar 3) (dCB oLen (aCons (dVar 0) aNil)))
theorem q_wc_fewest_cuts_3 {e : En} : wc_fewest_cuts_3 e = (dOp oLt (dVar 3) (dCB oLen (aCons (dVar 0) aNil))) e := rfl
noncomputable def wb_fewest_cuts_4 : En → SR :=
  (sSeq (sFor (dIter (dCall F_all_cuts (aCons (dC (.int 1)) (aCons (dOp oSub (dCB oLen (aCons (dVar 0) aNil)) (dC (.int 1))) (aCons (dOp oSub (dVar 3) (dC (.int 1))) aNil))))) (tgN 4) fb_fewest_cuts_2)
  (sAug 3 (fun i j => i + j) (dC (.int 1))))
theorem q_wb_fewest_cuts_4 {e : En} : wb_fewest_cuts_4 e = (sSeq (sFor (dIter (dCall F_all_cuts (aCons (dC (.int 1)) (aCons (dOp oSub (dCB oLen (aCons (dVar 0) aNil)) (dC (.int 1))) (aCons (dOp oSub (dVar 3) (dC (.int 1))) aNil))))) (tgN 4) fb_fewest_cuts_2)
  (sAug 3 (fun i j => i + j) (dC (.int 1)))) e := rfl
noncomputable def g_fewest_cuts : En → SR :=
  (sSeq (sDrop (dCall F_ask_beads (aCons (dVar 0) aNil)))
  (sSeq (sFor (dIter (dC (.str "abc"))) (tgN 1) fb_fewest_cuts_1)
  (sSeq (sSetF 2 (dCall F_sums_ahead (aCons (dVar 0) aNil)))
  (sSeq (sSetF 3 (dC (.int 1)))
  (sSeq (sWhile wc_fewest_cuts_3 wb_fewest_cuts_4)
  (sRet (dPut (dLst aNil))))))))
noncomputable def F_fewest_cuts : List D → Sto → ER := fnD 1 6 g_fewest_cuts
noncomputable def fb_law_fewest_1 : En → SR :=
  (sSeq (sAsg (tgT 2 (tgsCons (tgN 4) (tgsCons (tgN 5) tgsNil))) (dCall F_law_hands (aCons (dVar 0) (aCons (dVar 3) aNil))))
  (sIf (dOp oEqX (dVar 4) (dVar 5)) (sRet (dC (.bl false))) sSkip))
theorem q_fb_law_fewest_1 {e : En} : fb_law_fewest_1 e = (sSeq (sAsg (tgT 2 (tgsCons (tgN 4) (tgsCons (tgN 5) tgsNil))) (dCall F_law_hands (aCons (dVar 0) (aCons (dVar 3) aNil))))
  (sIf (dOp oEqX (dVar 4) (dVar 5)) (sRet (dC (.bl false))) sSkip)) e := rfl
noncomputable def fb_law_fewest_2 : En → SR :=
  (sFor (dIter (dCall F_law_lists (aCons (dC (.int 1)) (aCons (dOp oSub (dCB oLen (aCons (dVar 0) aNil)) (dC (.int 1))) (aCons (dVar 2) aNil))))) (tgN 3) fb_law_fewest_1)
theorem q_fb_law_fewest_2 {e : En} : fb_law_fewest_2 e = (sFor (dIter (dCall F_law_lists (aCons (dC (.int 1)) (aCons (dOp oSub (dCB oLen (aCons (dVar 0) aNil)) (dC (.int 1))) (aCons (dVar 2) aNil))))) (tgN 3) fb_law_fewest_1) e := rfl
noncomputable def g_law_fewest : En → SR :=
  (sSeq (sIf (dOr (dNot (dCall F_law_is_cuts (aCons (dVar 0) (aCons (dVar 1) aNil)))) (dOp oGt (dCB oLen (aCons (dVar 1) aNil)) (dLenSetT (dVar 0)))) (sRet (dC (.bl false))) sSkip)
  (sSeq (sIf (dOp oNeX (dOp oIx (dCall F_law_hands (aCons (dVar 0) (aCons (dVar 1) aNil))) (dC (.int 0))) (dOp oIx (dCall F_law_hands (aCons (dVar 0) (aCons (dVar 1) aNil))) (dC (.int 1)))) (sRet (dC (.bl false))) sSkip)
  (sSeq (sFor (dRng rng1 (aCons (dCB oLen (aCons (dVar 1) aNil)) aNil)) (tgN 2) fb_law_fewest_2)
  (sRet (dC (.bl true))))))
noncomputable def F_law_fewest : List D → Sto → ER := fnD 2 6 g_law_fewest
noncomputable def k_law_6 : En → SR :=
  (sRet (dCall F_law_fewest (aCons (dVar 2) (aCons (dCallG F_fewest_cuts 0 1 [0] [] aNil (aCons (dVar 2) aNil)) aNil))))
theorem q_k_law_6 {e : En} : k_law_6 e = (sRet (dCall F_law_fewest (aCons (dVar 2) (aCons (dCallG F_fewest_cuts 0 1 [0] [] aNil (aCons (dVar 2) aNil)) aNil)))) e := rfl
noncomputable def k_law_5 : En → SR :=
  (sSeq (sSetI 3 (dC (.int 25)) (dC (.int 0)))
  k_law_6)
theorem q_k_law_5 {e : En} : k_law_5 e = (sSeq (sSetI 3 (dC (.int 25)) (dC (.int 0)))
  k_law_6) e := rfl
noncomputable def k_law_4 : En → SR :=
  (sSeq (sMt mAppend 3 (aCons (dC (.int 0)) aNil))
  k_law_5)
theorem q_k_law_4 {e : En} : k_law_4 e = (sSeq (sMt mAppend 3 (aCons (dC (.int 0)) aNil))
  k_law_5) e := rfl
noncomputable def k_law_3 : En → SR :=
  (sSeq (sIf (dNot (dCall F_law_fewest (aCons (dVar 2) (aCons (dVar 3) aNil)))) (sRet (dC (.bl false))) sSkip)
  k_law_4)
theorem q_k_law_3 {e : En} : k_law_3 e = (sSeq (sIf (dNot (dCall F_law_fewest (aCons (dVar 2) (aCons (dVar 3) aNil)))) (sRet (dC (.bl false))) sSkip)
  k_law_4) e := rfl
noncomputable def k_law_2 : En → SR :=
  (sSeq (sSet 3 (dCall F_fewest_cuts (aCons (dVar 2) aNil)))
  k_law_3)
theorem q_k_law_2 {e : En} : k_law_2 e = (sSeq (sSet 3 (dCall F_fewest_cuts (aCons (dVar 2) aNil)))
  k_law_3) e := rfl
noncomputable def k_law_1 : En → SR :=
  (sSeq (sSetF 2 (dCall F_law_beads (aCons (dVar 1) (aCons (dC (.int 24)) aNil))))
  k_law_2)
theorem q_k_law_1 {e : En} : k_law_1 e = (sSeq (sSetF 2 (dCall F_law_beads (aCons (dVar 1) (aCons (dC (.int 24)) aNil))))
  k_law_2) e := rfl
noncomputable def g_law : En → SR :=
  (sSeq (sSetF 1 (dCall F_law_box (aCons (dVar 0) aNil)))
  k_law_1)
noncomputable def F_law : List D → Sto → ER := fnD 1 4 g_law
end Dn
namespace Dn
open PySem PySem.Spec PyProof.Rows L2
def nkSu : Nat → (Nat → Nat) → Nat
  | 0, _ => 0
  | n + 1, f => nkSu n f + f n
def nkAdj (a b a' b' : Int) : Prop := -1 ≤ a - a' ∧ a - a' ≤ 1 ∧ -1 ≤ b - b' ∧ b - b' ≤ 1 ∧ -1 ≤ a - a' + (b - b') ∧ a - a' + (b - b') ≤ 1
def nkDoor (a b a' b' : Int) : Nat := if (b = 0 ∧ 0 < a ∧ b' = -1) ∨ (b' = 0 ∧ 0 < a' ∧ b = -1) then 1 else 0
def nkUp (a b : Int) : Nat := if 0 < b ∨ (b = 0 ∧ 0 < a) then 1 else 0
theorem nk_door_self (a b : Int) : nkDoor a b a b = 0 := by
  unfold nkDoor
  rw [if_neg (by omega)]
theorem nk_tri {a b c d e f : Int} (h1 : nkAdj a b c d) (h2 : nkAdj c d e f) (h3 : nkAdj a b e f) (n1 : ¬ (a = 0 ∧ b = 0)) (n2 : ¬ (c = 0 ∧ d = 0)) (n3 : ¬ (e = 0 ∧ f = 0)) : (nkDoor a b c d + nkDoor c d e f + nkDoor a b e f) % 2 = 0 := by
  unfold nkAdj at *
  unfold nkDoor
  split <;> split <;> split <;> omega
theorem nk_turn {a b c d : Int} (h : nkAdj a b c d) (n1 : ¬ (a = 0 ∧ b = 0)) (n2 : ¬ (c = 0 ∧ d = 0)) : (nkDoor (-a) (-b) (-c) (-d) + nkDoor a b c d + nkUp a b + nkUp c d) % 2 = 0 := by
  unfold nkAdj at *
  unfold nkDoor nkUp
  split <;> split <;> split <;> split <;> omega
theorem nk_up_neg {a b : Int} (n1 : ¬ (a = 0 ∧ b = 0)) : nkUp a b + nkUp (-a) (-b) = 1 := by
  unfold nkUp
  split <;> split <;> omega
section
variable {m : Nat} {A B : Nat → Nat → Int}
theorem nk_strip {w : Nat} (h1 : ∀ x, x < m → nkAdj (A x w) (B x w) (A (x + 1) w) (B (x + 1) w)) (h2 : ∀ x, x ≤ m → nkAdj (A x w) (B x w) (A x (w + 1)) (B x (w + 1))) (h3 : ∀ x, x < m → nkAdj (A (x + 1) w) (B (x + 1) w) (A x (w + 1)) (B x (w + 1))) (h4 : ∀ x, x < m → nkAdj (A x (w + 1)) (B x (w + 1)) (A (x + 1) (w + 1)) (B (x + 1) (w + 1)))
    (nz : ∀ x, x ≤ m → ¬ (A x w = 0 ∧ B x w = 0)) (nz' : ∀ x, x ≤ m → ¬ (A x (w + 1) = 0 ∧ B x (w + 1) = 0)) : ∀ k, k ≤ m →
    (nkSu k (fun x => nkDoor (A x w) (B x w) (A (x + 1) w) (B (x + 1) w)) + nkSu k (fun x => nkDoor (A x (w + 1)) (B x (w + 1)) (A (x + 1) (w + 1)) (B (x + 1) (w + 1))) + nkDoor (A 0 w) (B 0 w) (A 0 (w + 1)) (B 0 (w + 1)) + nkDoor (A k w) (B k w) (A k (w + 1)) (B k (w + 1))) % 2 = 0
  | 0, _ => by simp only [nkSu]; omega
  | k + 1, hk => by
    have ih := nk_strip h1 h2 h3 h4 nz nz' k (by omega)
    have t1 := nk_tri (h1 k (by omega)) (h3 k (by omega)) (h2 k (by omega)) (nz k (by omega)) (nz (k + 1) (by omega)) (nz' k (by omega))
    have t2 := nk_tri (h3 k (by omega)) (h4 k (by omega)) (h2 (k + 1) (by omega)) (nz (k + 1) (by omega)) (nz' k (by omega)) (nz' (k + 1) (by omega))
    simp only [nkSu]
    omega
theorem nk_square (h1 : ∀ w, w ≤ m → ∀ x, x < m → nkAdj (A x w) (B x w) (A (x + 1) w) (B (x + 1) w)) (h2 : ∀ w, w < m → ∀ x, x ≤ m → nkAdj (A x w) (B x w) (A x (w + 1)) (B x (w + 1))) (h3 : ∀ w, w < m → ∀ x, x < m → nkAdj (A (x + 1) w) (B (x + 1) w) (A x (w + 1)) (B x (w + 1)))
    (nz : ∀ w, w ≤ m → ∀ x, x ≤ m → ¬ (A x w = 0 ∧ B x w = 0)) : ∀ w, w ≤ m →
    (nkSu m (fun x => nkDoor (A x 0) (B x 0) (A (x + 1) 0) (B (x + 1) 0)) + nkSu m (fun x => nkDoor (A x w) (B x w) (A (x + 1) w) (B (x + 1) w)) + nkSu w (fun k => nkDoor (A 0 k) (B 0 k) (A 0 (k + 1)) (B 0 (k + 1))) + nkSu w (fun k => nkDoor (A m k) (B m k) (A m (k + 1)) (B m (k + 1)))) % 2 = 0
  | 0, _ => by simp only [nkSu]; omega
  | w + 1, hw => by
    have ih := nk_square h1 h2 h3 nz w (by omega)
    have s := nk_strip (h1 w (by omega)) (h2 w (by omega)) (h3 w (by omega)) (h1 (w + 1) hw) (nz w (by omega)) (nz (w + 1) hw) m (Nat.le_refl _)
    simp only [nkSu]
    omega
end
theorem nk_su_zero {f : Nat → Nat} : ∀ n, (∀ k, k < n → f k = 0) → nkSu n f = 0
  | 0, _ => rfl
  | n + 1, h => by simp only [nkSu]; rw [nk_su_zero n (fun k hk => h k (by omega)), h n (by omega)]
theorem nk_path {m : Nat} {p q : Nat → Int} (h : ∀ k, k < m → nkAdj (p k) (q k) (p (k + 1)) (q (k + 1))) (nz : ∀ k, k ≤ m → ¬ (p k = 0 ∧ q k = 0)) : ∀ n, n ≤ m → (nkSu n (fun k => nkDoor (-p k) (-q k) (-p (k + 1)) (-q (k + 1))) + nkSu n (fun k => nkDoor (p k) (q k) (p (k + 1)) (q (k + 1))) + nkUp (p 0) (q 0) + nkUp (p n) (q n)) % 2 = 0
  | 0, _ => by simp only [nkSu]; omega
  | n + 1, hn => by
    have ih := nk_path h nz n (by omega)
    have t := nk_turn (h n (by omega)) (nz n (by omega)) (nz (n + 1) hn)
    simp only [nkSu]
    omega
structure NkCnt (m : Nat) (ca cb : Nat → Int) : Prop where
  st : ∀ i, i < 2 * m → (ca (i + 1) = ca i + 1 ∧ cb (i + 1) = cb i) ∨ (ca (i + 1) = ca i ∧ cb (i + 1) = cb i + 1) ∨ (ca (i + 1) = ca i ∧ cb (i + 1) = cb i)
theorem neck3 {m : Nat} {ca cb : Nat → Int} (C : NkCnt m ca cb) {ha hb : Int} (a0 : ca 0 = 0) (b0 : cb 0 = 0) (a1 : ca (2 * m) = 2 * ha) (b1 : cb (2 * m) = 2 * hb) :
    ∃ x w, x ≤ m ∧ w ≤ m ∧ ca x - ca (x + w) + ca (m + w) = ha ∧ cb x - cb (x + w) + cb (m + w) = hb := by
  apply Classical.byContradiction
  intro hn
  let A : Nat → Nat → Int := fun x w => ca x - ca (x + w) + ca (m + w) - ha
  let B : Nat → Nat → Int := fun x w => cb x - cb (x + w) + cb (m + w) - hb
  have nz : ∀ w, w ≤ m → ∀ x, x ≤ m → ¬ (A x w = 0 ∧ B x w = 0) := fun w hw x hx h => hn ⟨x, w, hx, hw, by have := h.1; simp only [A] at this; omega, by have := h.2; simp only [B] at this; omega⟩
  have h1 : ∀ w, w ≤ m → ∀ x, x < m → nkAdj (A x w) (B x w) (A (x + 1) w) (B (x + 1) w) := fun w hw x hx => by
    have s1 := C.st x (by omega)
    have s2 := C.st (x + w) (by omega)
    rw [show x + w + 1 = x + 1 + w by omega] at s2
    simp only [A, B, nkAdj]
    omega
  have h2 : ∀ w, w < m → ∀ x, x ≤ m → nkAdj (A x w) (B x w) (A x (w + 1)) (B x (w + 1)) := fun w hw x hx => by
    have s1 := C.st (m + w) (by omega)
    have s2 := C.st (x + w) (by omega)
    rw [show x + w + 1 = x + (w + 1) by omega] at s2
    rw [show m + w + 1 = m + (w + 1) by omega] at s1
    simp only [A, B, nkAdj]
    omega
  have h3 : ∀ w, w < m → ∀ x, x < m → nkAdj (A (x + 1) w) (B (x + 1) w) (A x (w + 1)) (B x (w + 1)) := fun w hw x hx => by
    have s1 := C.st (m + w) (by omega)
    have s2 := C.st x (by omega)
    rw [show m + w + 1 = m + (w + 1) by omega] at s1
    simp only [A, B, nkAdj]
    rw [show x + 1 + w = x + (w + 1) by omega]
    omega
  have key := nk_square h1 h2 h3 nz m (Nat.le_refl _)
  rw [nk_su_zero m (f := fun x => nkDoor (A x 0) (B x 0) (A (x + 1) 0) (B (x + 1) 0)) (fun k _ => by
      have e1 : A k 0 = A (k + 1) 0 := by simp only [A, Nat.add_zero]; omega
      have e2 : B k 0 = B (k + 1) 0 := by simp only [B, Nat.add_zero]; omega
      simp only [e1, e2]; exact nk_door_self _ _),
    nk_su_zero m (f := fun k => nkDoor (A m k) (B m k) (A m (k + 1)) (B m (k + 1))) (fun k _ => by
      have e1 : A m k = A m (k + 1) := by simp only [A]; omega
      have e2 : B m k = B m (k + 1) := by simp only [B]; omega
      simp only [e1, e2]; exact nk_door_self _ _)] at key
  have em : ∀ x, A x m = - A 0 x ∧ B x m = - B 0 x := fun x => by
    simp only [A, B, Nat.zero_add, a0, b0]
    rw [show m + m = 2 * m by omega, a1, b1, show x + m = m + x by omega]
    omega
  have key2 : (nkSu m (fun x => nkDoor (- A 0 x) (- B 0 x) (- A 0 (x + 1)) (- B 0 (x + 1))) + nkSu m (fun k => nkDoor (A 0 k) (B 0 k) (A 0 (k + 1)) (B 0 (k + 1)))) % 2 = 0 := by
    have e : (fun x => nkDoor (A x m) (B x m) (A (x + 1) m) (B (x + 1) m)) = fun x => nkDoor (- A 0 x) (- B 0 x) (- A 0 (x + 1)) (- B 0 (x + 1)) := by
      funext x
      rw [(em x).1, (em x).2, (em (x + 1)).1, (em (x + 1)).2]
    rw [e] at key
    omega
  have pa := nk_path (p := A 0) (q := B 0) (fun k hk => h2 k hk 0 (by omega)) (fun k hk => nz k hk 0 (by omega)) m (Nat.le_refl _)
  have ends := nk_up_neg (nz 0 (by omega) 0 (by omega))
  have e1 : A 0 m = - A 0 0 := (em 0).1
  have e2 : B 0 m = - B 0 0 := (em 0).2
  rw [e1, e2] at pa
  omega
theorem neck2 {m : Nat} {ca : Nat → Int} (st : ∀ i, i < 2 * m → ca (i + 1) = ca i + 1 ∨ ca (i + 1) = ca i) {ha : Int} (a0 : ca 0 = 0) (a1 : ca (2 * m) = 2 * ha) : ∃ w, w ≤ m ∧ ca (m + w) - ca w = ha := by
  apply Classical.byContradiction
  intro hn
  have nz : ∀ w, w ≤ m → ca (m + w) - ca w ≠ ha := fun w hw h => hn ⟨w, hw, h⟩
  have key : ∀ w, w ≤ m → (0 < ca m - ha ↔ 0 < ca (m + w) - ca w - ha) := by
    intro w
    induction w with
    | zero => intro _; simp [a0]
    | succ w ih =>
      intro hw
      have i := ih (by omega)
      have n1 := nz w (by omega)
      have n2 := nz (w + 1) hw
      have s1 := st w (by omega)
      have s2 := st (m + w) (by omega)
      rw [show m + w + 1 = m + (w + 1) by omega] at s2
      rw [i]
      omega
  have k := key m (Nat.le_refl _)
  have z := nz 0 (by omega)
  rw [show m + m = 2 * m by omega, a1] at k
  simp only [Nat.add_zero, a0] at z
  omega
def pc (T : List Nat) (x i : Nat) : Int := (((T.take i).count x : Nat) : Int)
theorem pc_zero (T : List Nat) (x : Nat) : pc T x 0 = 0 := by simp [pc]
theorem pc_all (T : List Nat) (x : Nat) {n : Nat} (h : T.length ≤ n) : pc T x n = ((T.count x : Nat) : Int) := by
  unfold pc; rw [List.take_of_length_le h]
theorem pc_step {T : List Nat} (x : Nat) {i : Nat} (h : i < T.length) : pc T x (i + 1) = pc T x i + if T[i] = x then 1 else 0 := by
  unfold pc
  rw [List.take_add_one, List.getElem?_eq_getElem h, Option.toList_some, List.count_append, List.count_singleton]
  by_cases e : T[i] = x
  · simp [e]
  · simp [e]
theorem pc_span (T : List Nat) (x : Nat) {a b : Nat} (h : a ≤ b) : (((T.drop a).take (b - a)).count x : Int) = pc T x b - pc T x a := by
  unfold pc
  have e : T.take b = T.take a ++ (T.drop a).take (b - a) := by
    have : b = a + (b - a) := by omega
    conv => lhs; rw [this, List.take_add]
  rw [e, List.count_append]
  omega
theorem pc_tail (T : List Nat) (x a : Nat) : ((T.drop a).count x : Int) = ((T.count x : Nat) : Int) - pc T x a := by
  have e := congrArg (List.count x) (List.take_append_drop a T)
  rw [List.count_append] at e
  unfold pc
  omega
def abcs (T : List Nat) : Prop := ∀ c ∈ T, c = 97 ∨ c = 98 ∨ c = 99
theorem pc_sum {T : List Nat} (h : abcs T) : ∀ {i : Nat}, i ≤ T.length → pc T 97 i + pc T 98 i + pc T 99 i = i
  | 0, _ => by simp [pc_zero]
  | i + 1, hi => by
    have ih := pc_sum h (i := i) (by omega)
    have hi' : i < T.length := by omega
    have m := h T[i] (List.getElem_mem _)
    rw [pc_step 97 hi', pc_step 98 hi', pc_step 99 hi']
    rcases m with m | m | m <;> rw [m] <;> simp <;> omega
structure Evn (T : List Nat) : Prop where
  abc : abcs T
  ev : ∀ x, x = 97 ∨ x = 98 ∨ x = 99 → T.count x % 2 = 0
theorem Evn.len {T : List Nat} (h : Evn T) : ((T.length : Nat) : Int) = pc T 97 T.length + pc T 98 T.length + pc T 99 T.length := (pc_sum h.abc (Nat.le_refl _)).symm
theorem Evn.cnt {T : List Nat} (h : Evn T) {x : Nat} (hx : x = 97 ∨ x = 98 ∨ x = 99) : ((T.count x : Nat) : Int) = pc T x T.length := (pc_all T x (Nat.le_refl _)).symm
theorem Evn.half {T : List Nat} (h : Evn T) : T.length = 2 * (T.length / 2) := by
  have l := h.len
  have a := h.ev 97 (.inl rfl)
  have b := h.ev 98 (.inr (.inl rfl))
  have c := h.ev 99 (.inr (.inr rfl))
  rw [← h.cnt (.inl rfl), ← h.cnt (.inr (.inl rfl)), ← h.cnt (.inr (.inr rfl))] at l
  omega
def balD (T cs : List Nat) : Prop := ∀ x, x = 97 ∨ x = 98 ∨ x = 99 → alt x (segs 0 cs T) = 0
section
variable {T : List Nat} (x : Nat)
theorem alt_0 : alt x (segs 0 [] T) = ((T.count x : Nat) : Int) := by simp [segs, alt]
theorem alt_1 (a : Nat) : alt x (segs 0 [a] T) = 2 * pc T x a - ((T.count x : Nat) : Int) := by
  have h1 := pc_span T x (a := 0) (b := a) (Nat.zero_le _)
  have h2 := pc_tail T x a
  simp only [segs, alt]
  rw [h1, h2, pc_zero]
  omega
theorem alt_2 {a b : Nat} (h : a ≤ b) : alt x (segs 0 [a, b] T) = 2 * (pc T x a - pc T x b) + ((T.count x : Nat) : Int) := by
  have h1 := pc_span T x (a := 0) (b := a) (Nat.zero_le _)
  have h2 := pc_span T x h
  have h3 := pc_tail T x b
  simp only [segs, alt]
  rw [h1, h2, h3, pc_zero]
  omega
theorem alt_3 {a b c : Nat} (h : a ≤ b) (h' : b ≤ c) : alt x (segs 0 [a, b, c] T) = 2 * (pc T x a - pc T x b + pc T x c) - ((T.count x : Nat) : Int) := by
  have h1 := pc_span T x (a := 0) (b := a) (Nat.zero_le _)
  have h2 := pc_span T x h
  have h3 := pc_span T x h'
  have h4 := pc_tail T x c
  simp only [segs, alt]
  rw [h1, h2, h3, h4, pc_zero]
  omega
end
section
variable {T : List Nat} (E : Evn T)
include E
theorem bal_len {f : Nat → Int} (h : ∀ x, x = 97 ∨ x = 98 ∨ x = 99 → f x = 0) : f 97 + f 98 + f 99 = 0 := by
  rw [h 97 (.inl rfl), h 98 (.inr (.inl rfl)), h 99 (.inr (.inr rfl))]; rfl
theorem last_1 {a : Nat} (ha : a ≤ T.length) (h : balD T [a]) : a = T.length / 2 := by
  have s := bal_len E h
  rw [alt_1, alt_1, alt_1, E.cnt (.inl rfl), E.cnt (.inr (.inl rfl)), E.cnt (.inr (.inr rfl))] at s
  have l := E.len
  have p := pc_sum E.abc ha
  omega
theorem last_2 {a b : Nat} (hab : a ≤ b) (hb : b ≤ T.length) (h : balD T [a, b]) : b = a + T.length / 2 := by
  have s := bal_len E h
  rw [alt_2 _ hab, alt_2 _ hab, alt_2 _ hab, E.cnt (.inl rfl), E.cnt (.inr (.inl rfl)), E.cnt (.inr (.inr rfl))] at s
  have l := E.len
  have p := pc_sum E.abc (show a ≤ T.length by omega)
  have q := pc_sum E.abc hb
  have hh := E.half
  omega
theorem last_3 {a b c : Nat} (hab : a ≤ b) (hbc : b ≤ c) (hc : c ≤ T.length) (h : balD T [a, b, c]) : c + a = b + T.length / 2 := by
  have s := bal_len E h
  rw [alt_3 _ hab hbc, alt_3 _ hab hbc, alt_3 _ hab hbc, E.cnt (.inl rfl), E.cnt (.inr (.inl rfl)), E.cnt (.inr (.inr rfl))] at s
  have l := E.len
  have p := pc_sum E.abc (show a ≤ T.length by omega)
  have q := pc_sum E.abc (show b ≤ T.length by omega)
  have r := pc_sum E.abc hc
  have hh := E.half
  omega
theorem pc_cnt (x y : Nat) (hxy : x ≠ y) : NkCnt (T.length / 2) (pc T x) (pc T y) := by
  have hh := E.half
  refine ⟨fun i hi => ?_⟩
  have hi' : i < T.length := by omega
  rw [pc_step x hi', pc_step y hi']
  by_cases e1 : T[i] = x
  · have e2 : T[i] ≠ y := fun z => hxy (e1.symm.trans z)
    rw [if_pos e1, if_neg e2]; omega
  · by_cases e2 : T[i] = y
    · rw [if_neg e1, if_pos e2]; omega
    · rw [if_neg e1, if_neg e2]; omega
theorem at_mid (h0 : 0 < T.length) (h : ∀ x, x = 97 ∨ x = 98 ∨ x = 99 → 2 * pc T x (T.length / 2) = ((T.count x : Nat) : Int)) : okCuts T.length 0 [T.length / 2] ∧ balD T [T.length / 2] := by
  have hh := E.half
  refine ⟨⟨by omega, by omega, trivial⟩, fun x hx => ?_⟩
  rw [alt_1, h x hx]; omega
theorem at_two {w : Nat} (h0 : 0 < w) (h1 : w < T.length / 2) (h : ∀ x, x = 97 ∨ x = 98 ∨ x = 99 → 2 * (pc T x (T.length / 2 + w) - pc T x w) = ((T.count x : Nat) : Int)) : okCuts T.length 0 [w, T.length / 2 + w] ∧ balD T [w, T.length / 2 + w] := by
  have hh := E.half
  refine ⟨⟨by omega, by omega, by omega, by omega, trivial⟩, fun x hx => ?_⟩
  have := h x hx
  rw [alt_2 _ (by omega)]; omega
theorem at_three {u w : Nat} (h0 : 0 < u) (h1 : u < T.length / 2) (h2 : 0 < w) (h3 : w < T.length / 2) (h : ∀ x, x = 97 ∨ x = 98 ∨ x = 99 → 2 * (pc T x u - pc T x (u + w) + pc T x (T.length / 2 + w)) = ((T.count x : Nat) : Int)) : okCuts T.length 0 [u, u + w, T.length / 2 + w] ∧ balD T [u, u + w, T.length / 2 + w] := by
  have hh := E.half
  refine ⟨⟨by omega, by omega, by omega, by omega, by omega, by omega, trivial⟩, fun x hx => ?_⟩
  have := h x hx
  rw [alt_3 _ (by omega) (by omega)]; omega
theorem arcs {w : Nat} (h0 : 0 < T.length) (hw : w ≤ T.length / 2) (h : ∀ x, x = 97 ∨ x = 98 ∨ x = 99 → 2 * (pc T x (T.length / 2 + w) - pc T x w) = ((T.count x : Nat) : Int)) : ∃ cs, okCuts T.length 0 cs ∧ balD T cs ∧ 1 ≤ cs.length ∧ cs.length ≤ 2 := by
  have hh := E.half
  by_cases w0 : w = 0
  · subst w0
    obtain ⟨k1, k2⟩ := at_mid E h0 fun x hx => by
      have := h x hx
      rw [pc_zero, Nat.add_zero] at this; omega
    exact ⟨_, k1, k2, by simp, by simp⟩
  · by_cases w1 : w = T.length / 2
    · subst w1
      obtain ⟨k1, k2⟩ := at_mid E h0 fun x hx => by
        have := h x hx
        rw [show T.length / 2 + T.length / 2 = T.length by omega, ← E.cnt hx] at this; omega
      exact ⟨_, k1, k2, by simp, by simp⟩
    · obtain ⟨k1, k2⟩ := at_two E (w := w) (by omega) (by omega) h
      exact ⟨_, k1, k2, by simp, by simp⟩
theorem third {f : Nat → Int} (hf : f 97 + f 98 + f 99 = 0) {x y : Nat} (hx : x = 97 ∨ x = 98 ∨ x = 99) (hy : y = 97 ∨ y = 98 ∨ y = 99) (hxy : x ≠ y) (h1 : f x = 0) (h2 : f y = 0) : ∀ z, z = 97 ∨ z = 98 ∨ z = 99 → f z = 0 := by
  intro z hz
  rcases hx with rfl | rfl | rfl <;> rcases hy with rfl | rfl | rfl <;> rcases hz with rfl | rfl | rfl <;> first | exact absurd rfl hxy | omega
theorem neck_3 (h0 : 0 < T.length) : ∃ cs, okCuts T.length 0 cs ∧ balD T cs ∧ 1 ≤ cs.length ∧ cs.length ≤ 3 := by
  have hh := E.half
  have ea : pc T 97 (2 * (T.length / 2)) = 2 * (pc T 97 (2 * (T.length / 2)) / 2) := by
    rw [← hh, ← E.cnt (.inl rfl)]
    have := E.ev 97 (.inl rfl); omega
  have eb : pc T 98 (2 * (T.length / 2)) = 2 * (pc T 98 (2 * (T.length / 2)) / 2) := by
    rw [← hh, ← E.cnt (.inr (.inl rfl))]
    have := E.ev 98 (.inr (.inl rfl)); omega
  obtain ⟨u, w, hu, hw, h1, h2⟩ := neck3 (pc_cnt E 97 98 (by decide)) (pc_zero _ _) (pc_zero _ _) ea eb
  rw [← hh] at h1 h2 ea eb
  have key : ∀ x, x = 97 ∨ x = 98 ∨ x = 99 → 2 * (pc T x u - pc T x (u + w) + pc T x (T.length / 2 + w)) - ((T.count x : Nat) : Int) = 0 := by
    refine third E (f := fun x => 2 * (pc T x u - pc T x (u + w) + pc T x (T.length / 2 + w)) - ((T.count x : Nat) : Int)) ?_ (.inl rfl) (.inr (.inl rfl)) (by decide) ?_ ?_
    · have l := E.len
      have p := pc_sum E.abc (show u ≤ T.length by omega)
      have q := pc_sum E.abc (show u + w ≤ T.length by omega)
      have r := pc_sum E.abc (show T.length / 2 + w ≤ T.length by omega)
      rw [E.cnt (.inl rfl), E.cnt (.inr (.inl rfl)), E.cnt (.inr (.inr rfl))]
      omega
    · rw [E.cnt (.inl rfl)]; omega
    · rw [E.cnt (.inr (.inl rfl))]; omega
  have up : ∀ {cs : List Nat}, (okCuts T.length 0 cs ∧ balD T cs ∧ 1 ≤ cs.length ∧ cs.length ≤ 2) → okCuts T.length 0 cs ∧ balD T cs ∧ 1 ≤ cs.length ∧ cs.length ≤ 3 := fun h => ⟨h.1, h.2.1, h.2.2.1, by have := h.2.2.2; omega⟩
  by_cases u0 : u = 0
  · subst u0
    obtain ⟨cs, h⟩ := arcs E h0 hw fun x hx => by
      have := key x hx
      rw [pc_zero, Nat.zero_add] at this; omega
    exact ⟨cs, up h⟩
  · by_cases u1 : u = T.length / 2
    · subst u1
      obtain ⟨k1, k2⟩ := at_mid E h0 fun x hx => by have := key x hx; omega
      exact ⟨_, k1, k2, by simp, by simp⟩
    · by_cases w0 : w = 0
      · subst w0
        obtain ⟨k1, k2⟩ := at_mid E h0 fun x hx => by
          have := key x hx
          rw [Nat.add_zero, Nat.add_zero] at this; omega
        exact ⟨_, k1, k2, by simp, by simp⟩
      · by_cases w1 : w = T.length / 2
        · subst w1
          obtain ⟨cs, h⟩ := arcs E (w := u) h0 hu fun x hx => by
            have := key x hx
            rw [show T.length / 2 + T.length / 2 = T.length by omega, ← E.cnt hx, Nat.add_comm u] at this; omega
          exact ⟨cs, up h⟩
        · obtain ⟨k1, k2⟩ := at_three E (u := u) (w := w) (by omega) (by omega) (by omega) (by omega) fun x hx => by have := key x hx; omega
          exact ⟨_, k1, k2, by simp, by simp⟩
theorem neck_2 (h0 : 0 < T.length) {z : Nat} (hz : z = 97 ∨ z = 98 ∨ z = 99) (hc : T.count z = 0) : ∃ cs, okCuts T.length 0 cs ∧ balD T cs ∧ 1 ≤ cs.length ∧ cs.length ≤ 2 := by
  have hh := E.half
  have pz : ∀ i, pc T z i = 0 := fun i => by
    unfold pc
    have : ¬ z ∈ T := by rw [← List.count_eq_zero]; exact hc
    have : (T.take i).count z = 0 := List.count_eq_zero.mpr fun m => this (List.mem_of_mem_take m)
    omega
  obtain ⟨y, hy, hyz⟩ : ∃ y, (y = 97 ∨ y = 98 ∨ y = 99) ∧ y ≠ z := by
    rcases hz with rfl | rfl | rfl
    · exact ⟨98, by simp, by decide⟩
    · exact ⟨97, by simp, by decide⟩
    · exact ⟨97, by simp, by decide⟩
  have ey : pc T y (2 * (T.length / 2)) = 2 * (pc T y (2 * (T.length / 2)) / 2) := by
    rw [← hh, ← E.cnt hy]
    have := E.ev y hy; omega
  have st := pc_cnt E y z hyz
  obtain ⟨w, hw, h1⟩ := neck2 (ca := pc T y) (fun i hi => by have := st.st i hi; omega) (pc_zero _ _) ey
  rw [← hh] at h1 ey
  have key : ∀ x, x = 97 ∨ x = 98 ∨ x = 99 → 2 * (pc T x (T.length / 2 + w) - pc T x w) - ((T.count x : Nat) : Int) = 0 := by
    refine third E (f := fun x => 2 * (pc T x (T.length / 2 + w) - pc T x w) - ((T.count x : Nat) : Int)) ?_ hy hz hyz ?_ ?_
    · have l := E.len
      have p := pc_sum E.abc (show w ≤ T.length by omega)
      have r := pc_sum E.abc (show T.length / 2 + w ≤ T.length by omega)
      rw [E.cnt (.inl rfl), E.cnt (.inr (.inl rfl)), E.cnt (.inr (.inr rfl))]
      omega
    · rw [E.cnt hy]; omega
    · rw [pz, pz, hc]; omega
  exact arcs E h0 hw fun x hx => by have := key x hx; omega
theorem neck_1 (h0 : 0 < T.length) {y z : Nat} (hy : y = 97 ∨ y = 98 ∨ y = 99) (hz : z = 97 ∨ z = 98 ∨ z = 99) (hyz : y ≠ z) (h1 : T.count y = 0) (h2 : T.count z = 0) : ∃ cs, okCuts T.length 0 cs ∧ balD T cs ∧ cs.length = 1 := by
  have hh := E.half
  have pz : ∀ {z : Nat}, T.count z = 0 → ∀ i, pc T z i = 0 := fun {z} hc i => by
    unfold pc
    have : ¬ z ∈ T := by rw [← List.count_eq_zero]; exact hc
    have : (T.take i).count z = 0 := List.count_eq_zero.mpr fun m => this (List.mem_of_mem_take m)
    omega
  have key : ∀ x, x = 97 ∨ x = 98 ∨ x = 99 → 2 * pc T x (T.length / 2) - ((T.count x : Nat) : Int) = 0 := by
    refine third E (f := fun x => 2 * pc T x (T.length / 2) - ((T.count x : Nat) : Int)) ?_ hy hz hyz ?_ ?_
    · have l := E.len
      have p := pc_sum E.abc (show T.length / 2 ≤ T.length by omega)
      rw [E.cnt (.inl rfl), E.cnt (.inr (.inl rfl)), E.cnt (.inr (.inr rfl))]
      omega
    · rw [pz h1, h1]; rfl
    · rw [pz h2, h2]; rfl
  obtain ⟨k1, k2⟩ := at_mid E h0 fun x hx => by have := key x hx; omega
  exact ⟨_, k1, k2, rfl⟩
end
theorem inL_pur {α : Type} [DecidableEq α] {enc : α → D} (hp : ∀ a, pur (enc a) = true) (hd : ∀ a, dep (enc a) ≤ 60) (hi : ∀ a b, enc a = enc b → a = b) (a : α) (l : List α) : inL (enc a) (l.map enc) = some (decide (a ∈ l)) := by
  obtain ⟨a1, a2, a3⟩ := pur_py _ (hp a)
  obtain ⟨b1, b2, b3⟩ := purL_py _ (purL_map hp l)
  have d1 := hd a
  have d2 := depL_map hd l
  unfold inL
  rw [if_pos ⟨a1, b1, by simp [SeqAt.shaped, a2, a3]; omega, by simp [SeqAt.shaped, PyData.canLay0, PyData.depth, b2, b3]; omega⟩]
  congr 1
  rw [Bool.eq_iff_iff, decide_eq_true_iff]
  clear d2 b1 b2 b3
  induction l with
  | nil => simp [pyL]
  | cons b l ih =>
    rw [List.map_cons, pyL, List.any_cons, Bool.or_eq_true, ih, eqv_pur _ _ (hp b) (hp a), List.mem_cons]
    constructor
    · rintro (h | h)
      · exact .inl (hi _ _ h).symm
      · exact .inr h
    · rintro (h | h)
      · exact .inl (by rw [h])
      · exact .inr h
theorem rng1_nat {n : Nat} (h : n ≤ 1000000) : rng1 [.int (n : Int)] = some (0, n) := by
  rw [e_rng1, if_pos (by omega)]
  simp
theorem dRng_of {r : List D → Option (Int × Nat)} {f : En → AR} {E : En} {p : Bool} {l : List D} {st : Sto} {a : Int} {n : Nat} (h : f E = .ok p l st) (hr : r l = some (a, n)) : dRng r f E = .ok true (rangeD a n) st := by
  rw [e_dRng, h]
  simp only [hr]
theorem sFor_of {src : En → AR} {t : D → DE → Option DE} {b : En → SR} {E : En} {p : Bool} {l : List D} {st : Sto} (h : src E = .ok p l st) : sFor src t b E = forD (tgB t b) l ⟨E.e, st⟩ := by
  rw [e_sFor, h]
abbrev dS (l : List Nat) : D := .str (S l)
abbrev dN (n : Nat) : D := .int (n : Int)
def dP (T : List Nat) (i : Nat) : D := .lst [.int (pc T 97 i), .int (pc T 98 i), .int (pc T 99 i)]
theorem chars_S (T : List Nat) : itemsOf (.str (S T)) = some (T.map fun c => .str ⟨#[c]⟩) := by
  show some ((S T).cps.toList.map fun c => D.str ⟨#[c]⟩) = _
  rw [S_cps]
theorem eq_sign (c d : Nat) (st : Sto) : oEq (.str ⟨#[c]⟩) (.str ⟨#[d]⟩) st = .val .P (.bl (decide (c = d))) st := by
  have e : (⟨#[c]⟩ : Str) = ⟨#[d]⟩ ↔ c = d := by
    constructor
    · intro h; injection h with h; simpa using h
    · rintro rfl; rfl
  simp [e]
theorem atI_last {α : Type} (l : List α) (a : α) : atI (l ++ [a]) (-1) = some a := by
  have e : (l ++ [a]).length = l.length + 1 := by simp
  have h : ixN (l ++ [a]).length (-1) = some l.length := by
    rw [e]
    simp only [ixN]
    rw [if_neg (by omega), if_pos (by omega)]
    congr 1
    omega
  unfold atI
  rw [h]
  simp
theorem sum_step {st : Sto} {v0 v3 v4 : SL} {acc : List D} {a b d : Int} {c : Nat} (ha : acc.length + 1 < 1000000) :
    fb_sums_ahead_3 ⟨[v0, .own (acc ++ [.lst [.int a, .int b, .int d]]), .val (.str ⟨#[c]⟩), v3, v4], st⟩ = .nx ⟨[v0, .own (acc ++ [.lst [.int a, .int b, .int d]] ++ [.lst [.int (a + if c = 97 then 1 else 0), .int (b + if c = 98 then 1 else 0), .int (d + if c = 99 then 1 else 0)]]), .val (.str ⟨#[c]⟩), v3, v4], st⟩ := by
  have hat := atI_last acc (.lst [.int a, .int b, .int d])
  have hl : (acc ++ [D.lst [.int a, .int b, .int d]]).length < 1000000 := by simp; omega
  have hz : zipD [.int a, .int b, .int d] ((Str.ofString "abc").cps.toList.map fun c => D.str ⟨#[c]⟩) = [(a, 97), (b, 98), (d, 99)].map fun p : Int × Nat => .tup [.int p.1, .str ⟨#[p.2]⟩] := rfl
  generalize acc ++ [D.lst [.int a, .int b, .int d]] = L at *
  have lc : lcGo (lcStep (tgT 2 (tgsCons (tgN 3) (tgsCons (tgN 4) tgsNil))) (fun E => ER.val Md.P (D.bl true) E.st) ce_sums_ahead_2 [v0, .own L, .val (.str ⟨#[c]⟩), .emp, .emp]) ([(a, 97), (b, 98), (d, 99)].map fun p : Int × Nat => .tup [.int p.1, .str ⟨#[p.2]⟩]) st = some ([(a, 97), (b, 98), (d, 99)].map fun p : Int × Nat => .int (p.1 + if c = p.2 then 1 else 0), st) := by
    refine lc_map fun p _ => ?_
    have e := eq_sign c p.2 st
    by_cases h : c = p.2
    · rw [decide_eq_true h] at e
      simp -implicitDefEqProofs [q_ce_sums_ahead_2, e, h]
    · rw [decide_eq_false h] at e
      simp -implicitDefEqProofs [q_ce_sums_ahead_2, e, h]
  have l3 : ([(a, 97), (b, 98), (d, 99)].map fun p : Int × Nat => D.tup [.int p.1, .str ⟨#[p.2]⟩]).length ≤ 1000000 := by simp
  have e3 : ([(a, 97), (b, 98), (d, 99)].map fun p : Int × Nat => D.int (p.1 + if c = p.2 then 1 else 0)) = [.int (a + if c = 97 then 1 else 0), .int (b + if c = 98 then 1 else 0), .int (d + if c = 99 then 1 else 0)] := rfl
  rw [e3] at lc
  generalize ([(a, 97), (b, 98), (d, 99)].map fun p : Int × Nat => D.tup [.int p.1, .str ⟨#[p.2]⟩]) = ZD at *
  simp -implicitDefEqProofs [q_fb_sums_ahead_3, hat, hz, lc, hl, l3]
theorem sums_loop {T : List Nat} (hT : T.length ≤ 1000) {st : Sto} {v3 v4 : SL} : ∀ (ys done : List Nat) (x2 : SL), T = done ++ ys →
    ∃ x2', forD (tgB (tgN 2) fb_sums_ahead_3) (ys.map fun c => .str ⟨#[c]⟩) ⟨[.val (dS T), .own ((List.range (done.length + 1)).map (dP T)), x2, v3, v4], st⟩ = .nx ⟨[.val (dS T), .own ((List.range (T.length + 1)).map (dP T)), x2', v3, v4], st⟩
  | [], done, x2, e => ⟨x2, by rw [e, List.append_nil]; rfl⟩
  | c :: ys, done, x2, e => by
    have hd : done.length < T.length := by rw [e]; simp
    have hc : T[done.length] = c := by simp [e]
    obtain ⟨x2', ih⟩ := sums_loop hT (st := st) (v3 := v3) (v4 := v4) ys (done ++ [c]) (.val (.str ⟨#[c]⟩)) (by rw [e]; simp)
    refine ⟨x2', ?_⟩
    rw [← ih, List.map_cons, e_forC]
    have r1 : (List.range (done.length + 1)).map (dP T) = (List.range done.length).map (dP T) ++ [dP T done.length] := by
      rw [List.range_succ, List.map_append]; rfl
    have s := sum_step (st := st) (v0 := .val (dS T)) (v3 := v3) (v4 := v4) (acc := (List.range done.length).map (dP T)) (a := pc T 97 done.length) (b := pc T 98 done.length) (d := pc T 99 done.length) (c := c) (by simp; omega)
    have p1 := pc_step 97 hd
    have p2 := pc_step 98 hd
    have p3 := pc_step 99 hd
    rw [hc] at p1 p2 p3
    rw [← p1, ← p2, ← p3] at s
    have r2 : (List.range ((done ++ [c]).length + 1)).map (dP T) = (List.range done.length).map (dP T) ++ [dP T done.length] ++ [dP T (done.length + 1)] := by
      rw [List.length_append, List.length_singleton, List.range_succ, List.map_append, List.range_succ, List.map_append]; rfl
    rw [r1, r2]
    have s' : tgB (tgN 2) fb_sums_ahead_3 (.str ⟨#[c]⟩) ⟨[.val (dS T), .own ((List.range done.length).map (dP T) ++ [dP T done.length]), x2, v3, v4], st⟩ = .nx ⟨[.val (dS T), .own ((List.range done.length).map (dP T) ++ [dP T done.length] ++ [dP T (done.length + 1)]), .val (.str ⟨#[c]⟩), v3, v4], st⟩ := s
    rw [s']
theorem sums_eq {T : List Nat} (hT : T.length ≤ 1000) (st : Sto) : F_sums_ahead [dS T] st = .val .N (.lst ((List.range (T.length + 1)).map (dP T))) st := by
  obtain ⟨x2', h⟩ := sums_loop hT (st := st) (v3 := .emp) (v4 := .emp) T [] .emp rfl
  have it := chars_S T
  have h' : forD (tgB (tgN 2) fb_sums_ahead_3) (T.map fun c => .str ⟨#[c]⟩) ⟨[.val (.str (S T)), .own [.lst [.int 0, .int 0, .int 0]], .emp, .emp, .emp], st⟩ = .nx ⟨[.val (.str (S T)), .own ((List.range (T.length + 1)).map (dP T)), x2', .emp, .emp], st⟩ := by
    rw [← h]
    simp [dP, pc_zero]
  clear h
  generalize (List.range (T.length + 1)).map (dP T) = L at *
  generalize (T.map fun c => D.str ⟨#[c]⟩) = TD at *
  show F_sums_ahead [.str (S T)] _ = _
  generalize S T = z at *
  simp -implicitDefEqProofs [F_sums_ahead, g_sums_ahead, -e_itS, it, h']
def acs : Nat → Nat → Nat → List (List Nat)
  | 0, _, _ => [[]]
  | m + 1, lo, hi => (List.range (hi + 1 - lo)).flatMap fun k => (acs m (lo + k + 1) hi).map ((lo + k) :: ·)
abbrev dL (cs : List Nat) : D := .lst (cs.map dN)
noncomputable def gi : En → SR := sMt mAppend 3 (aCons (dOp oAdd (dLst (aCons (dVar 4) aNil)) (dVar 5)) aNil)
noncomputable def gb (F : List D → Sto → ER) : En → SR := sFor (dIter (dCall F (aCons (dOp oAdd (dVar 4) (dC (.int 1))) (aCons (dVar 1) (aCons (dOp oSub (dVar 2) (dC (.int 1))) aNil))))) (tgN 5) gi
noncomputable def gg (b : En → SR) : En → SR :=
  (sSeq (sIf (dOp oEq (dVar 2) (dC (.int 0))) (sRet (dLst (aCons (dLst aNil) aNil))) sSkip)
  (sSeq (sSet 3 (dLst aNil))
  (sSeq (sFor (dRng rng2 (aCons (dVar 0) (aCons (dOp oAdd (dVar 1) (dC (.int 1))) aNil))) (tgN 4) b)
  (sRetV 3))))
theorem gg_zero (b : En → SR) (lo hi : Int) (st : Sto) : fnD 3 6 (gg b) [.int lo, .int hi, .int 0] st = .val .N (.lst [.lst []]) st := by
  simp [gg]
theorem gi_loop {v0 v1 v2 : SL} {c : Nat} {st : Sto} : ∀ (L : List (List Nat)) (acc : List D) (x5 : SL), acc.length + L.length ≤ 100000 → (∀ l ∈ L, l.length ≤ 1000) →
    ∃ x5', forD (tgB (tgN 5) gi) (L.map dL) ⟨[v0, v1, v2, .own acc, .val (dN c), x5], st⟩ = .nx ⟨[v0, v1, v2, .own (acc ++ (L.map (c :: ·)).map dL), .val (dN c), x5'], st⟩
  | [], acc, x5, _, _ => ⟨x5, by simp⟩
  | l :: L, acc, x5, h, hl => by
    have h1 : acc.length < 1000000 := by omega
    have h2 := hl l (List.mem_cons_self ..)
    have h3 : 1 + (l.map dN).length ≤ 1000000 := by simp; omega
    obtain ⟨x5', ih⟩ := gi_loop (v0 := v0) (v1 := v1) (v2 := v2) (c := c) (st := st) L (acc ++ [dL (c :: l)]) (.val (dL l)) (by simp at h ⊢; omega) (fun l m => hl l (List.mem_cons_of_mem _ m))
    refine ⟨x5', ?_⟩
    have e : acc ++ ((l :: L).map (c :: ·)).map dL = acc ++ [dL (c :: l)] ++ (L.map (c :: ·)).map dL := by simp
    rw [e, ← ih, List.map_cons, e_forC]
    have s : tgB (tgN 5) gi (dL l) ⟨[v0, v1, v2, .own acc, .val (dN c), x5], st⟩ = .nx ⟨[v0, v1, v2, .own (acc ++ [dL (c :: l)]), .val (dN c), .val (dL l)], st⟩ := by
      have e2 : dL (c :: l) = .lst ([dN c] ++ l.map dN) := rfl
      have e3 : dL l = .lst (l.map dN) := rfl
      rw [e2, e3]
      clear ih e e2 e3
      generalize l.map dN = LD at *
      generalize dN c = C at *
      have h4 : LD.length + 1 ≤ 1000000 := by omega
      simp -implicitDefEqProofs [gi, h1, h4, Nat.add_comm]
    rw [s]
theorem acs_len : ∀ (m lo hi : Nat), (acs m lo hi).length ≤ (hi + 1) ^ m ∧ ∀ l ∈ acs m lo hi, l.length = m
  | 0, lo, hi => by simp [acs]
  | m + 1, lo, hi => by
    refine ⟨?_, fun l hl => ?_⟩
    · rw [acs, List.length_flatMap]
      have : ∀ n, n ≤ hi + 1 → ((List.range n).map fun k => ((acs m (lo + k + 1) hi).map ((lo + k) :: ·)).length).sum ≤ n * (hi + 1) ^ m := by
        intro n hn
        induction n with
        | zero => simp
        | succ n ih =>
          have i := ih (by omega)
          have b := (acs_len m (lo + n + 1) hi).1
          rw [List.range_succ, List.map_append, List.sum_append]
          simp only [List.map_cons, List.map_nil, List.sum_cons, List.sum_nil, List.length_map] at i ⊢
          rw [Nat.succ_mul]
          omega
      have h := this (hi + 1 - lo) (by omega)
      refine Nat.le_trans h ?_
      rw [Nat.pow_succ, Nat.mul_comm]
      exact Nat.mul_le_mul_left _ (by omega)
    · rw [acs] at hl
      obtain ⟨k, _, hk⟩ := List.mem_flatMap.mp hl
      obtain ⟨l', hl', rfl⟩ := List.mem_map.mp hk
      rw [List.length_cons, (acs_len m _ hi).2 l' hl']
theorem gb_loop {F : List D → Sto → ER} {m lo hi : Nat} {st : Sto} {md : Md} (hm : md ≠ .B) (hF : ∀ lo', lo' ≤ hi + 1 → F [dN lo', dN hi, dN m] st = .val md (.lst ((acs m lo' hi).map dL)) st) (hb : (hi + 1) ^ (m + 1) ≤ 90000) (h1000 : m ≤ 900) : ∀ (n k : Nat) (x4 x5 : SL), k + n = hi + 1 - lo →
    ∃ x4' x5', forD (tgB (tgN 4) (gb F)) ((List.range' k n).map fun j => dN (lo + j)) ⟨[.val (dN lo), .val (dN hi), .val (dN (m + 1)), .own (((List.range k).flatMap fun k => (acs m (lo + k + 1) hi).map ((lo + k) :: ·)).map dL), x4, x5], st⟩ = .nx ⟨[.val (dN lo), .val (dN hi), .val (dN (m + 1)), .own ((acs (m + 1) lo hi).map dL), x4', x5'], st⟩
  | 0, k, x4, x5, e => ⟨x4, x5, by rw [Nat.add_zero] at e; subst e; rfl⟩
  | n + 1, k, x4, x5, e => by
    have hl := acs_len m (lo + k + 1) hi
    have hk : k + 1 ≤ hi + 1 := by omega
    have acl : (((List.range k).flatMap fun k => (acs m (lo + k + 1) hi).map ((lo + k) :: ·)).map dL).length ≤ k * (hi + 1) ^ m := by
      rw [List.length_map, List.length_flatMap]
      clear e hk
      induction k with
      | zero => simp
      | succ k ih =>
        have b := (acs_len m (lo + k + 1) hi).1
        have i := ih (acs_len m (lo + k + 1) hi)
        rw [List.range_succ, List.map_append, List.sum_append]
        simp only [List.map_cons, List.map_nil, List.sum_cons, List.sum_nil, List.length_map] at i ⊢
        rw [Nat.succ_mul]
        omega
    have tot : k * (hi + 1) ^ m + (hi + 1) ^ m ≤ (hi + 1) ^ (m + 1) := by
      rw [← Nat.succ_mul, Nat.pow_succ, Nat.mul_comm ((hi + 1) ^ m)]
      exact Nat.mul_le_mul_right _ hk
    obtain ⟨y5, hi1⟩ := gi_loop (v0 := .val (dN lo)) (v1 := .val (dN hi)) (v2 := .val (dN (m + 1))) (c := lo + k) (st := st) (acs m (lo + k + 1) hi) (((List.range k).flatMap fun k => (acs m (lo + k + 1) hi).map ((lo + k) :: ·)).map dL) x5 (by
      have h1 := hl.1
      generalize (hi + 1) ^ (m + 1) = P2 at *
      generalize (hi + 1) ^ m = P1 at *
      generalize k * P1 = KP at *
      exact Nat.le_trans (Nat.add_le_add acl h1) (by omega)) (fun l hm => by have := hl.2 l hm; omega)
    obtain ⟨x4', x5', ih⟩ := gb_loop (lo := lo) hm hF hb h1000 n (k + 1) (.val (dN (lo + k))) y5 (by omega)
    refine ⟨x4', x5', ?_⟩
    rw [← ih, List.range'_succ, List.map_cons, e_forC]
    have r2 : ((List.range (k + 1)).flatMap fun k => (acs m (lo + k + 1) hi).map ((lo + k) :: ·)).map dL = ((List.range k).flatMap fun k => (acs m (lo + k + 1) hi).map ((lo + k) :: ·)).map dL ++ ((acs m (lo + k + 1) hi).map ((lo + k) :: ·)).map dL := by
      rw [List.range_succ, List.flatMap_append, List.map_append]; simp
    rw [r2]
    have hF1 : F [.int ((lo + k : Nat) + 1 : Int), dN hi, dN m] st = .val md (.lst ((acs m (lo + k + 1) hi).map dL)) st := hF (lo + k + 1) (by omega)
    have e2 : ((m + 1 : Nat) : Int) - 1 = (m : Int) := by omega
    have s : tgB (tgN 4) (gb F) (dN (lo + k)) ⟨[.val (dN lo), .val (dN hi), .val (dN (m + 1)), .own (((List.range k).flatMap fun k => (acs m (lo + k + 1) hi).map ((lo + k) :: ·)).map dL), x4, x5], st⟩ = .nx ⟨[.val (dN lo), .val (dN hi), .val (dN (m + 1)), .own (((List.range k).flatMap fun k => (acs m (lo + k + 1) hi).map ((lo + k) :: ·)).map dL ++ ((acs m (lo + k + 1) hi).map ((lo + k) :: ·)).map dL), .val (dN (lo + k)), y5], st⟩ := by
      rw [← hi1]
      clear ih hF
      simp only [dN] at hF1 hi1 ⊢
      generalize ((List.range k).flatMap fun k => (acs m (lo + k + 1) hi).map ((lo + k) :: ·)).map dL = AD at *
      generalize (acs m (lo + k + 1) hi).map dL = LD at *
      generalize ((lo + k : Nat) : Int) = i at *
      generalize ((m + 1 : Nat) : Int) = m1 at *
      cases md with
      | B => exact absurd rfl hm
      | P => simp -implicitDefEqProofs [gb, e2, hF1]
      | N => simp -implicitDefEqProofs [gb, e2, hF1]
    rw [s]
theorem gg_succ {F : List D → Sto → ER} {m lo hi : Nat} {st : Sto} {md : Md} (hm : md ≠ .B) (hF : ∀ lo', lo' ≤ hi + 1 → F [dN lo', dN hi, dN m] st = .val md (.lst ((acs m lo' hi).map dL)) st) (hb : (hi + 1) ^ (m + 1) ≤ 90000) (h1000 : m ≤ 900) (hlo : lo ≤ 100000) (hhi : hi ≤ 100000) : fnD 3 6 (gg (gb F)) [dN lo, dN hi, dN (m + 1)] st = .val .N (.lst ((acs (m + 1) lo hi).map dL)) st := by
  obtain ⟨x4', x5', h⟩ := gb_loop hm hF hb h1000 (lo := lo) (hi + 1 - lo) 0 .emp .emp (by omega)
  have er : rangeD (lo : Int) ((hi : Int) + 1 - lo).toNat = (List.range' 0 (hi + 1 - lo)).map fun j => dN (lo + j) := by
    unfold rangeD
    rw [show ((hi : Int) + 1 - lo).toNat = hi + 1 - lo by omega, List.range_eq_range']
    exact List.map_congr_left fun k _ => by simp
  have h0 : forD (tgB (tgN 4) (gb F)) (rangeD (lo : Int) ((hi : Int) + 1 - lo).toNat) ⟨[.val (dN lo), .val (dN hi), .val (dN (m + 1)), .own [], .emp, .emp], st⟩ = .nx ⟨[.val (dN lo), .val (dN hi), .val (dN (m + 1)), .own ((acs (m + 1) lo hi).map dL), x4', x5'], st⟩ := by rw [er]; exact h
  have z : ((m + 1 : Nat) : Int) ≠ 0 := by omega
  have b1 : -(2 ^ 62) ≤ (lo : Int) ∧ (lo : Int) < 2 ^ 62 ∧ -(2 ^ 62) ≤ (hi : Int) + 1 ∧ (hi : Int) + 1 < 2 ^ 62 := by omega
  have hr : rng2 [.int (lo : Int), .int ((hi : Int) + 1)] = some ((lo : Int), ((hi : Int) + 1 - lo).toNat) := by rw [e_rng2, if_pos b1]
  generalize (acs (m + 1) lo hi).map dL = LD at *
  simp only [dN] at h0 ⊢
  generalize hk : ((hi : Int) + 1 - lo).toNat = kk at *
  generalize ((m + 1 : Nat) : Int) = m1 at *
  generalize (lo : Int) = l0 at *
  generalize (hi : Int) = h1 at *
  clear hF er h hb b1
  have z2 : decide (m1 = 0) = false := decide_eq_false z
  have hs := sFor_of (src := dRng rng2 (aCons (dVar 0) (aCons (dOp oAdd (dVar 1) (dC (.int 1))) aNil))) (t := tgN 4) (b := gb F) (E := ⟨[.val (.int l0), .val (.int h1), .val (.int m1), .own [], .emp, .emp], st⟩) (p := true) (l := rangeD l0 kk) (st := st) (dRng_of (p := true) (l := [.int l0, .int (h1 + 1)]) (by simp) hr)
  rw [h0] at hs
  simp -implicitDefEqProofs [gg, z, z2, hs, -e_sFor]
def okI (n : Int) : Int → List Int → Bool
  | _, [] => true
  | h, c :: cs => decide (h < c) && (decide (c < n) && okI n c cs)
theorem cuts_loop {T : List Nat} {cs : List Int} (hT : T.length ≤ 1000) {st : Sto} {d : D} (hix : ∀ (i : Nat) (x : Int), cs[i]? = some x → oIx d (.int (i : Int)) st = .val .P (.int x) st) {rf : List D → En → SR} (r0 : ∀ e, rf [] ⟨e, st⟩ = .nx ⟨e, st⟩) (rC : ∀ x xs e, rf (x :: xs) ⟨e, st⟩ = match tgB (tgT 2 (tgsCons (tgN 2) (tgsCons (tgN 3) tgsNil))) fb_is_cuts_1 x ⟨e, st⟩ with | .nx E' => rf xs E' | .ct E' => rf xs E' | .bk E' => .nx E' | r => r) : ∀ (rest done : List Int) (h : Int) (e2 e3 : SL), cs = done ++ rest → (done = [] ∧ h = 0 ∨ ∃ d, done = d ++ [h] ∧ 0 < h) →
    ∃ e2' e3', rf (enumD done.length (rest.map .int)) ⟨[.val (.str (S T)), .val d, e2, e3], st⟩ = if okI T.length h rest = true then .nx ⟨[.val (.str (S T)), .val d, e2', e3'], st⟩ else .rt .P (.bl false) st
  | [], done, h, e2, e3, _, _ => ⟨e2, e3, by simp [enumD, okI, r0]⟩
  | c :: rest, done, h, e2, e3, hc, hd => by
    have hl : T.length ≤ 1000000 := by omega
    have hsl : (S T).length = T.length := S_len T
    generalize hz : S T = z at *
    by_cases c1 : h < c
    · by_cases c2 : c < T.length
      · have h0 : 0 ≤ h := by rcases hd with ⟨_, rfl⟩ | ⟨_, _, h⟩ <;> omega
        obtain ⟨f2, f3, ih⟩ := cuts_loop hT hix r0 rC rest (done ++ [c]) c (.val (.int done.length)) (.val (.int c)) (by rw [hc]; simp) (.inr ⟨done, rfl, by omega⟩)
        refine ⟨f2, f3, ?_⟩
        rw [hz] at ih
        rw [List.length_append, List.length_singleton] at ih
        have n1 : ¬ c < 1 := by omega
        have n2 : ¬ (T.length : Int) ≤ c := by omega
        have ok : okI T.length h (c :: rest) = okI T.length c rest := by simp [okI, c1, c2]
        rw [ok, ← ih]
        have hb : fb_is_cuts_1 ⟨[.val (.str z), .val d, .val (.int done.length), .val (.int c)], st⟩ = .nx ⟨[.val (.str z), .val d, .val (.int done.length), .val (.int c)], st⟩ := by
          rcases hd with ⟨rfl, rfl⟩ | ⟨dd, rfl, hh⟩
          · simp [q_fb_is_cuts_1, hl, hsl, n1, n2]
          · have hat : oIx d (.int (((dd ++ [h]).length : Int) - 1)) st = .val .P (.int h) st := by
              have e : (((dd ++ [h]).length : Int) - 1) = (dd.length : Int) := by simp
              rw [e]
              refine hix _ _ ?_
              rw [hc]; simp
            have p1 : (0 : Int) < ((dd ++ [h]).length : Int) := by simp
            have n3 : ¬ c ≤ h := by omega
            generalize ((dd ++ [h]).length : Int) = k at *
            simp [q_fb_is_cuts_1, hl, hsl, n1, n2, p1, hat, n3]
        rw [List.map_cons, enumD, rC]
        generalize rest.map D.int = RD at *
        simp [hb]
      · refine ⟨e2, e3, ?_⟩
        have n2 : (T.length : Int) ≤ c := by omega
        have ok : okI T.length h (c :: rest) = false := by simp [okI, c1, c2]
        rw [ok, List.map_cons, enumD, rC]
        by_cases n1 : c < 1
        · simp [q_fb_is_cuts_1, n1]
        · simp [q_fb_is_cuts_1, hl, hsl, n1, n2]
    · refine ⟨e2, e3, ?_⟩
      have ok : okI T.length h (c :: rest) = false := by simp [okI, c1]
      rw [ok, List.map_cons, enumD, rC]
      rcases hd with ⟨rfl, rfl⟩ | ⟨dd, rfl, hh⟩
      · have n1 : c < 1 := by omega
        simp [q_fb_is_cuts_1, n1]
      · have hat : oIx d (.int (((dd ++ [h]).length : Int) - 1)) st = .val .P (.int h) st := by
          have e : (((dd ++ [h]).length : Int) - 1) = (dd.length : Int) := by simp
          rw [e]
          refine hix _ _ ?_
          rw [hc]; simp
        have p1 : (0 : Int) < ((dd ++ [h]).length : Int) := by simp
        have n3 : c ≤ h := by omega
        generalize ((dd ++ [h]).length : Int) = k at *
        by_cases n1 : c < 1
        · simp [q_fb_is_cuts_1, n1]
        · by_cases n2 : (T.length : Int) ≤ c
          · simp [q_fb_is_cuts_1, hl, hsl, n1, n2]
          · simp [q_fb_is_cuts_1, hl, hsl, n1, n2, p1, hat, n3]
theorem is_cuts_ptr {T : List Nat} {cs : List Int} (hT : T.length ≤ 1000) {st : Sto} {n : Nat} (hn : st[n]? = some (.lst (cs.map .int))) : F_is_cuts [.str (S T), .ptr n] st = .val .P (.bl (okI T.length 0 cs)) st := by
  have hL : stLst st n = some (cs.map .int) := by unfold stLst; rw [hn]
  obtain ⟨e2, e3, h⟩ := cuts_loop hT (cs := cs) (st := st) (d := .ptr n) (fun i x hx => by
    have a : atI (cs.map D.int) (i : Int) = some (.int x) := atI_nat (by rw [List.getElem?_map, hx]; rfl)
    simp [hn, a]) (rf := forPD n (cs.map .int) (tgB (tgT 2 (tgsCons (tgN 2) (tgsCons (tgN 3) tgsNil))) fb_is_cuts_1)) (fun e => by
      unfold forPD
      rw [if_pos hL]) (fun x xs e => by
      conv => lhs; unfold forPD
      rw [if_pos hL]
      try (generalize tgB (tgT 2 (tgsCons (tgN 2) (tgsCons (tgN 3) tgsNil))) fb_is_cuts_1 x ⟨e, st⟩ = q; cases q <;> rfl)) cs [] 0 .emp .emp rfl (.inl ⟨rfl, rfl⟩)
  have h' : forPD n (cs.map .int) (tgB (tgT 2 (tgsCons (tgN 2) (tgsCons (tgN 3) tgsNil))) fb_is_cuts_1) (enumD 0 (cs.map .int)) ⟨[.val (.str (S T)), .val (.ptr n), .emp, .emp], st⟩ = _ := h
  generalize cs.map D.int = CD at *
  generalize S T = z at *
  cases q : okI T.length 0 cs with
  | false => simp [F_is_cuts, g_is_cuts, hn, h', q]
  | true => simp [F_is_cuts, g_is_cuts, hn, h', q]
theorem int_eq3 (a b c a' b' c' : Int) (st : Sto) : oEq (.lst [.int a, .int b, .int c]) (.lst [.int a', .int b', .int c']) st = .val .P (.bl (decide (a = a' ∧ b = b' ∧ c = c'))) st := by
  have := eq_lst (enc := D.int) (fun _ => rfl) (fun _ => by simp [dep]) (fun a b h => by injection h) [a, b, c] [a', b', c'] st
  rw [show decide (a = a' ∧ b = b' ∧ c = c') = decide ([a, b, c] = [a', b', c']) by simp]
  exact this
def even3 (T cs : List Nat) : Bool := decide (alt 97 (segs 0 cs T) = 0 ∧ alt 98 (segs 0 cs T) = 0 ∧ alt 99 (segs 0 cs T) = 0)
theorem notin_abc (c : Nat) (st : Sto) : oNotIn (.str ⟨#[c]⟩) (.str "abc") st = .val .P (.bl (!decide (c ∈ [97, 98, 99]))) st := rfl
def okN (n : Nat) (cs : List Nat) : Bool := okI n 0 (cs.map fun c : Nat => (c : Int))
theorem okN_go {n : Nat} : ∀ {cs : List Nat} {h : Nat}, okI n h (cs.map fun c : Nat => (c : Int)) = true ↔ okCuts n h cs
  | [], h => by simp [okI, okCuts]
  | c :: cs, h => by
    have ih := okN_go (n := n) (cs := cs) (h := c)
    simp only [List.map_cons, okI, okCuts, Bool.and_eq_true, decide_eq_true_eq]
    rw [ih]
    exact ⟨fun ⟨a, b, c⟩ => ⟨by omega, by omega, c⟩, fun ⟨a, b, c⟩ => ⟨by omega, by omega, c⟩⟩
theorem okN_iff {n : Nat} {cs : List Nat} : okN n cs = true ↔ okCuts n 0 cs := okN_go (h := 0)
theorem even3_iff {T cs : List Nat} : even3 T cs = true ↔ balD T cs := by
  unfold even3 balD
  rw [decide_eq_true_iff]
  constructor
  · rintro ⟨a, b, c⟩ x (rfl | rfl | rfl)
    · exact a
    · exact b
    · exact c
  · intro h
    exact ⟨h 97 (.inl rfl), h 98 (.inr (.inl rfl)), h 99 (.inr (.inr rfl))⟩
theorem is_cuts_P {T : List Nat} (hT : T.length ≤ 1000) {cs : List Nat} {st : Sto} {n : Nat} (hn : st[n]? = some (.lst (cs.map dN))) : F_is_cuts [.str (S T), .ptr n] st = .val .P (.bl (okN T.length cs)) st := by
  have e : (cs.map fun c : Nat => (c : Int)).map D.int = cs.map dN := by rw [List.map_map]; rfl
  exact is_cuts_ptr (cs := cs.map fun c : Nat => (c : Int)) hT (by rw [e]; exact hn)
def lastC (M : Nat) : List Nat → Nat
  | [] => M
  | [a] => a + M
  | [a, b] => b + M - a
  | _ => 0
theorem last_0 {N M : Int} (h : ∀ st, oDiv (.int N) (.int 2) st = .val .P (.int M) st) (st : Sto) : F_last_cut [.lst [], .int N] st = .val .P (.int M) st := by
  have m : oMod (.int 0) (.int 2) st = .val .P (.int 0) st := rfl
  have r : rng3 [.int 0, .int 0, .int 2] = some (0, 0) := rfl
  have r2 : rangeD2 0 0 = [] := rfl
  have a0 : atI [D.int 0] (-1) = some (.int 0) := rfl
  simp -implicitDefEqProofs [F_last_cut, g_last_cut, m, r, r2, a0, h, intsOf, -e_oDiv_1, -e_oMod_1, -e_rng3]
theorem last_1e {N M a : Int} (h : ∀ st, oDiv (.int N) (.int 2) st = .val .P (.int M) st) (st : Sto) : F_last_cut [.lst [.int a], .int N] st = .val .P (.int (a + M)) st := by
  have m : oMod (.int 1) (.int 2) st = .val .P (.int 1) st := rfl
  have r : rng3 [.int 1, .int 1, .int 2] = some (1, 0) := rfl
  have r2 : rangeD2 1 0 = [] := rfl
  have a0 : atI [D.int 0, .int a] (-1) = some (.int a) := rfl
  simp -implicitDefEqProofs [F_last_cut, g_last_cut, m, r, r2, a0, h, intsOf, -e_oDiv_1, -e_oMod_1, -e_rng3]
theorem last_2e {N M a b : Int} (h : ∀ st, oDiv (.int N) (.int 2) st = .val .P (.int M) st) (st : Sto) : F_last_cut [.lst [.int a, .int b], .int N] st = .val .P (.int (b + M - a)) st := by
  have m : oMod (.int 2) (.int 2) st = .val .P (.int 0) st := rfl
  have r : rng3 [.int 0, .int 2, .int 2] = some (0, 1) := rfl
  have r2 : rangeD2 0 1 = [.int 0] := rfl
  have a0 : atI [D.int 0, .int a, .int b] (-1) = some (.int b) := rfl
  have a1 : atI [D.int 0, .int a, .int b] 0 = some (.int 0) := rfl
  have a2 : atI [D.int 0, .int a, .int b] 1 = some (.int a) := rfl
  have lc : ∀ e0 e1 e3, lcGo (lcStep (tgN 4) (fun E => ER.val Md.P (D.bl true) E.st) ce_last_cut_1 [e0, e1, .val (.lst [.int 0, .int a, .int b]), e3, .emp]) [.int 0] st = some ([.int a], st) := fun e0 e1 e3 => by
    refine lc_map (enc := D.int) (f := fun _ => .int a) (l := [0]) fun k hk => ?_
    obtain rfl := List.mem_singleton.mp hk
    simp -implicitDefEqProofs [q_ce_last_cut_1, a1, a2]
  simp -implicitDefEqProofs [F_last_cut, g_last_cut, m, r, r2, a0, h, lc, intsOf, -e_oDiv_1, -e_oMod_1, -e_rng3]
theorem last_eq {N M : Nat} (h : N = 2 * M) {fr : List Nat} (hf : fr.length ≤ 2) (ha : ∀ a b, fr = [a, b] → a ≤ b) (st : Sto) : F_last_cut [.lst (fr.map dN), .int (N : Int)] st = .val .P (dN (lastC M fr)) st := by
  have hd : ∀ st, oDiv (.int (N : Int)) (.int 2) st = .val .P (.int (M : Int)) st := fun st => by
    have e : ((N : Nat) : Int).fdiv 2 = (M : Int) := by
      rw [Int.fdiv_eq_ediv_of_nonneg _ (by decide)]
      omega
    have l : (2 : Int) ≠ 0 ∧ (2 : Int).natAbs.log2 < 9000 := by decide
    rw [e_oDiv_1, if_pos l, e]
  match fr, hf, ha with
  | [], _, _ => exact last_0 hd st
  | [a], _, _ => exact last_1e hd st
  | [a, b], _, ha =>
    have := ha a b rfl
    have e := last_2e (a := a) (b := b) hd st
    have e2 : ((lastC M [a, b] : Nat) : Int) = (b : Int) + M - a := by simp only [lastC]; omega
    show _ = ER.val .P (.int ((lastC M [a, b] : Nat) : Int)) st
    rw [e2]
    exact e
section
variable {T : List Nat} {st : Sto} {v1 v5 v6 v7 : SL} {E : List D}
def SM (T : List Nat) : List D := (List.range (T.length + 1)).map (dP T)
theorem SM_at {q : Nat} (h : q ≤ T.length) : atI (SM T) (q : Int) = some (dP T q) := by
  refine atI_nat ?_
  unfold SM
  rw [List.getElem?_map, List.getElem?_range (by omega)]; rfl
theorem gh_step {k : Int} {p q : Nat} {x y z : Int} (hp : p ≤ T.length) (hq : q ≤ T.length) (e1 : atI E (k + 1) = some (dN q)) (e0 : atI E k = some (dN p)) :
    tgB (tgN 4) fb_gives_halves_2 (.int k) ⟨[.val (.lst (SM T)), v1, .val (.lst E), .val (.lst [.int x, .int y, .int z]), v5, .emp, .emp, .emp], st⟩ = .nx ⟨[.val (.lst (SM T)), v1, .val (.lst E), .val (.lst [.int (x + pc T 97 q - pc T 97 p), .int (y + pc T 98 q - pc T 98 p), .int (z + pc T 99 q - pc T 99 p)]), .val (.int k), .emp, .emp, .emp], st⟩ := by
  have s1 := SM_at hq
  have s0 := SM_at hp
  simp only [dN] at e1 e0
  have hz : zipD3 [.int x, .int y, .int z] [.int (pc T 97 q), .int (pc T 98 q), .int (pc T 99 q)] [.int (pc T 97 p), .int (pc T 98 p), .int (pc T 99 p)] = [(x, pc T 97 q, pc T 97 p), (y, pc T 98 q, pc T 98 p), (z, pc T 99 q, pc T 99 p)].map fun r : Int × Int × Int => .tup [.int r.1, .int r.2.1, .int r.2.2] := rfl
  have lc : ∀ v0 v2 v3 v4, lcGo (lcStep (tgT 3 (tgsCons (tgN 5) (tgsCons (tgN 6) (tgsCons (tgN 7) tgsNil)))) (fun E => ER.val Md.P (D.bl true) E.st) ce_gives_halves_1 [v0, v1, v2, v3, v4, .emp, .emp, .emp]) ([(x, pc T 97 q, pc T 97 p), (y, pc T 98 q, pc T 98 p), (z, pc T 99 q, pc T 99 p)].map fun r : Int × Int × Int => .tup [.int r.1, .int r.2.1, .int r.2.2]) st = some ([(x, pc T 97 q, pc T 97 p), (y, pc T 98 q, pc T 98 p), (z, pc T 99 q, pc T 99 p)].map (fun r : Int × Int × Int => .int (r.1 + r.2.1 - r.2.2)), st) := fun v0 v2 v3 v4 => by
    refine lc_map fun r _ => ?_
    simp -implicitDefEqProofs [q_ce_gives_halves_1]
  have e3 : ([(x, pc T 97 q, pc T 97 p), (y, pc T 98 q, pc T 98 p), (z, pc T 99 q, pc T 99 p)].map (fun r : Int × Int × Int => D.int (r.1 + r.2.1 - r.2.2))) = [.int (x + pc T 97 q - pc T 97 p), .int (y + pc T 98 q - pc T 98 p), .int (z + pc T 99 q - pc T 99 p)] := rfl
  rw [e3] at lc
  have l3 : ([(x, pc T 97 q, pc T 97 p), (y, pc T 98 q, pc T 98 p), (z, pc T 99 q, pc T 99 p)].map fun r : Int × Int × Int => D.tup [.int r.1, .int r.2.1, .int r.2.2]).length ≤ 1000000 := by simp
  unfold dP at s1 s0
  generalize ([(x, pc T 97 q, pc T 97 p), (y, pc T 98 q, pc T 98 p), (z, pc T 99 q, pc T 99 p)].map fun r : Int × Int × Int => D.tup [.int r.1, .int r.2.1, .int r.2.2]) = ZD at *
  generalize SM T = SD at *
  simp -implicitDefEqProofs [q_fb_gives_halves_2, e1, e0, s1, s0, hz, lc, l3]
theorem gh_end {x y z : Int} {a b c : Int} (hs : atI (SM T) (-1) = some (.lst [.int a, .int b, .int c])) (hb : ∀ w ∈ [x, y, z], Nat.log2 2 + w.natAbs.log2 < 1000000) {v4 : SL} :
    (sRet (dOp oEq (dLc (dIter (dVar 3)) (tgN 5) (fun E => .val .P (.bl true) E.st) ce_gives_halves_3 [5]) (dOp oIx (dVar 0) (dUn oNeg (dC (.int 1))))) ⟨[.val (.lst (SM T)), v1, .val (.lst E), .val (.lst [.int x, .int y, .int z]), v4, .emp, .emp, .emp], st⟩).ret = .val .P (.bl (decide (2 * x = a ∧ 2 * y = b ∧ 2 * z = c))) st := by
  have lc : lcGo (lcStep (tgN 5) (fun E => ER.val Md.P (D.bl true) E.st) ce_gives_halves_3 [.val (.lst (SM T)), v1, .val (.lst E), .val (.lst [.int x, .int y, .int z]), v4, .emp, .emp, .emp]) ([x, y, z].map D.int) st = some ([x, y, z].map (fun r : Int => .int (2 * r)), st) := by
    refine lc_map fun r hr => ?_
    have := hb r hr
    simp -implicitDefEqProofs [q_ce_gives_halves_3, this]
  have q := int_eq3 (2 * x) (2 * y) (2 * z) a b c st
  have e1 : [x, y, z].map D.int = [.int x, .int y, .int z] := rfl
  have e2 : [x, y, z].map (fun r : Int => D.int (2 * r)) = [.int (2 * x), .int (2 * y), .int (2 * z)] := rfl
  rw [e1, e2] at lc
  generalize SM T = SD at *
  generalize hd : decide (2 * x = a ∧ 2 * y = b ∧ 2 * z = c) = dd at *
  generalize 2 * x = x2 at *
  generalize 2 * y = y2 at *
  generalize 2 * z = z2 at *
  simp -implicitDefEqProofs [hs, lc, q, -e_dEqO]
theorem SM_last : atI (SM T) (-1) = some (dP T T.length) := by
  have e : SM T = (List.range T.length).map (dP T) ++ [dP T T.length] := by
    unfold SM
    rw [List.range_succ, List.map_append]; rfl
  rw [e]
  exact atI_last _ _
theorem SM_len : (SM T).length = T.length + 1 := by simp [SM]
theorem pc_b (x i : Nat) (h : T.length ≤ 1000) : 0 ≤ pc T x i ∧ pc T x i ≤ 1000 := by
  unfold pc
  have h1 : (T.take i).count x ≤ (T.take i).length := List.count_le_length
  have h2 : (T.take i).length ≤ T.length := by simp; omega
  omega
theorem two_mul_ok {w : Int} (h : -10000 ≤ w) (h' : w ≤ 10000) : Nat.log2 2 + w.natAbs.log2 < 1000000 :=
  mul_ok (i := 2) (a := 20) (b := 40) (by decide) (by omega) (by decide) (by decide) (by decide)
theorem gh_1 (hT : T.length ≤ 1000) {c : Nat} (hc : c ≤ T.length) {st : Sto} {pn : Nat} (hn : st[pn]? = some (.lst [dN c])) : F_gives_halves [.lst (SM T), .ptr pn] st = .val .P (.bl (even3 T [c])) st := by
  have n : (((SM T).length : Nat) : Int) - 1 = (T.length : Int) := by rw [SM_len]; omega
  have hl : (SM T).length ≤ 1000000 := by rw [SM_len]; omega
  have st1 := gh_step (T := T) (st := st) (v1 := .val (.ptr pn)) (v5 := .emp) (E := [.int 0, dN c, .int T.length]) (k := 0) (p := 0) (q := c) (x := 0) (y := 0) (z := 0) (Nat.zero_le _) hc rfl rfl
  have en := gh_end (T := T) (st := st) (v1 := .val (.ptr pn)) (E := [.int 0, dN c, .int T.length]) (v4 := .val (.int 0)) SM_last (x := 0 + pc T 97 c - pc T 97 0) (y := 0 + pc T 98 c - pc T 98 0) (z := 0 + pc T 99 c - pc T 99 0) (fun w hw => by
    have bb := fun x i => pc_b x i hT
    have b1 := bb 97 c; have b2 := bb 98 c; have b3 := bb 99 c
    rw [pc_zero, pc_zero, pc_zero] at hw
    simp only [List.mem_cons, List.not_mem_nil, or_false] at hw
    rcases hw with rfl | rfl | rfl <;> exact two_mul_ok (by omega) (by omega))
  have ed : decide (2 * (0 + pc T 97 c - pc T 97 0) = pc T 97 T.length ∧ 2 * (0 + pc T 98 c - pc T 98 0) = pc T 98 T.length ∧ 2 * (0 + pc T 99 c - pc T 99 0) = pc T 99 T.length) = even3 T [c] := by
    unfold even3
    rw [alt_1, alt_1, alt_1, pc_zero, pc_zero, pc_zero, pc_all T 97 (Nat.le_refl _), pc_all T 98 (Nat.le_refl _), pc_all T 99 (Nat.le_refl _), decide_eq_decide]
    omega
  rw [ed] at en
  have r : rng3 [.int 0, .int 2, .int 2] = some (0, 1) := rfl
  have r2 : rangeD2 0 1 = [.int 0] := rfl
  have hf : forD (tgB (tgN 4) fb_gives_halves_2) [.int 0] ⟨[.val (.lst (SM T)), .val (.ptr pn), .val (.lst [.int 0, dN c, .int T.length]), .val (.lst [.int 0, .int 0, .int 0]), .emp, .emp, .emp, .emp], st⟩ = .nx ⟨[.val (.lst (SM T)), .val (.ptr pn), .val (.lst [.int 0, dN c, .int T.length]), .val (.lst [.int (0 + pc T 97 c - pc T 97 0), .int (0 + pc T 98 c - pc T 98 0), .int (0 + pc T 99 c - pc T 99 0)]), .val (.int 0), .emp, .emp, .emp], st⟩ := by
    rw [e_forC, st1]; rfl
  simp only [dN] at hf en hn ⊢
  generalize hN : (T.length : Int) = N at *
  generalize hS : SM T = SD at *
  generalize 0 + pc T 97 c - pc T 97 0 = g1 at *
  generalize 0 + pc T 98 c - pc T 98 0 = g2 at *
  generalize 0 + pc T 99 c - pc T 99 0 = g3 at *
  generalize (c : Int) = c' at *
  simp -implicitDefEqProofs [F_gives_halves, g_gives_halves, hn, hl, n, r, r2, hf, -e_rng3, -e_dLc, -e_dEqO]
  exact en
theorem gh_2 (hT : T.length ≤ 1000) {a : Nat} {b : Nat} (h0 : a ≤ b) (hc : b ≤ T.length) {st : Sto} {pn : Nat} (hn : st[pn]? = some (.lst [dN a, dN b])) : F_gives_halves [.lst (SM T), .ptr pn] st = .val .P (.bl (even3 T [a, b])) st := by
  have n : (((SM T).length : Nat) : Int) - 1 = (T.length : Int) := by rw [SM_len]; omega
  have hl : (SM T).length ≤ 1000000 := by rw [SM_len]; omega
  have st1 := gh_step (T := T) (st := st) (v1 := .val (.ptr pn)) (v5 := .emp) (E := [.int 0, dN a, dN b, .int T.length]) (k := 0) (p := 0) (q := a) (x := 0) (y := 0) (z := 0) (Nat.zero_le _) (by omega) rfl rfl
  have st2 := gh_step (T := T) (st := st) (v1 := .val (.ptr pn)) (v5 := .val (.int 0)) (E := [.int 0, dN a, dN b, .int T.length]) (k := 2) (p := b) (q := T.length) (x := (0 + pc T 97 a - pc T 97 0)) (y := (0 + pc T 98 a - pc T 98 0)) (z := (0 + pc T 99 a - pc T 99 0)) (by omega) (by omega) rfl rfl
  have en := gh_end (T := T) (st := st) (v1 := .val (.ptr pn)) (E := [.int 0, dN a, dN b, .int T.length]) (v4 := .val (.int 2)) SM_last (x := (0 + pc T 97 a - pc T 97 0 + pc T 97 T.length - pc T 97 b)) (y := (0 + pc T 98 a - pc T 98 0 + pc T 98 T.length - pc T 98 b)) (z := (0 + pc T 99 a - pc T 99 0 + pc T 99 T.length - pc T 99 b)) (fun w hw => by
    have bb := fun x i => pc_b x i hT
    have b1 := bb 97 a; have b2 := bb 98 a; have b3 := bb 99 a
    have c1 := bb 97 b; have c2 := bb 98 b; have c3 := bb 99 b
    have d1 := bb 97 T.length; have d2 := bb 98 T.length; have d3 := bb 99 T.length
    rw [pc_zero, pc_zero, pc_zero] at hw
    simp only [List.mem_cons, List.not_mem_nil, or_false] at hw
    rcases hw with rfl | rfl | rfl <;> exact two_mul_ok (by omega) (by omega))
  have ed : decide (2 * (0 + pc T 97 a - pc T 97 0 + pc T 97 T.length - pc T 97 b) = pc T 97 T.length ∧ 2 * (0 + pc T 98 a - pc T 98 0 + pc T 98 T.length - pc T 98 b) = pc T 98 T.length ∧ 2 * (0 + pc T 99 a - pc T 99 0 + pc T 99 T.length - pc T 99 b) = pc T 99 T.length) = even3 T [a, b] := by
    unfold even3
    rw [alt_2 _ h0, alt_2 _ h0, alt_2 _ h0, pc_zero, pc_zero, pc_zero, pc_all T 97 (Nat.le_refl _), pc_all T 98 (Nat.le_refl _), pc_all T 99 (Nat.le_refl _), decide_eq_decide]
    omega
  rw [ed] at en
  have r : rng3 [.int 0, .int 3, .int 2] = some (0, 2) := rfl
  have r2 : rangeD2 0 2 = [.int 0, .int 2] := rfl
  have hf : forD (tgB (tgN 4) fb_gives_halves_2) [.int 0, .int 2] ⟨[.val (.lst (SM T)), .val (.ptr pn), .val (.lst [.int 0, dN a, dN b, .int T.length]), .val (.lst [.int 0, .int 0, .int 0]), .emp, .emp, .emp, .emp], st⟩ = .nx ⟨[.val (.lst (SM T)), .val (.ptr pn), .val (.lst [.int 0, dN a, dN b, .int T.length]), .val (.lst [.int (0 + pc T 97 a - pc T 97 0 + pc T 97 T.length - pc T 97 b), .int (0 + pc T 98 a - pc T 98 0 + pc T 98 T.length - pc T 98 b), .int (0 + pc T 99 a - pc T 99 0 + pc T 99 T.length - pc T 99 b)]), .val (.int 2), .emp, .emp, .emp], st⟩ := by
    rw [e_forC, st1]
    show (match tgB (tgN 4) fb_gives_halves_2 (.int 2) _ with | .nx e' => forD _ [] e' | .ct e' => forD _ [] e' | .bk e' => .nx e' | r => r) = _
    rw [st2]; rfl
  simp only [dN] at hf en hn ⊢
  generalize hN : (T.length : Int) = N at *
  generalize hS : SM T = SD at *
  generalize (0 + pc T 97 a - pc T 97 0 + pc T 97 T.length - pc T 97 b) = g1 at *
  generalize (0 + pc T 98 a - pc T 98 0 + pc T 98 T.length - pc T 98 b) = g2 at *
  generalize (0 + pc T 99 a - pc T 99 0 + pc T 99 T.length - pc T 99 b) = g3 at *
  generalize (a : Int) = a' at *
  generalize (b : Int) = b' at *
  simp -implicitDefEqProofs [F_gives_halves, g_gives_halves, hn, hl, n, r, r2, hf, -e_rng3, -e_dLc, -e_dEqO]
  exact en
theorem gh_3 (hT : T.length ≤ 1000) {a : Nat} {b : Nat} {c : Nat} (h0 : a ≤ b) (h1 : b ≤ c) (hc : c ≤ T.length) {st : Sto} {pn : Nat} (hn : st[pn]? = some (.lst [dN a, dN b, dN c])) : F_gives_halves [.lst (SM T), .ptr pn] st = .val .P (.bl (even3 T [a, b, c])) st := by
  have n : (((SM T).length : Nat) : Int) - 1 = (T.length : Int) := by rw [SM_len]; omega
  have hl : (SM T).length ≤ 1000000 := by rw [SM_len]; omega
  have st1 := gh_step (T := T) (st := st) (v1 := .val (.ptr pn)) (v5 := .emp) (E := [.int 0, dN a, dN b, dN c, .int T.length]) (k := 0) (p := 0) (q := a) (x := 0) (y := 0) (z := 0) (Nat.zero_le _) (by omega) rfl rfl
  have st2 := gh_step (T := T) (st := st) (v1 := .val (.ptr pn)) (v5 := .val (.int 0)) (E := [.int 0, dN a, dN b, dN c, .int T.length]) (k := 2) (p := b) (q := c) (x := (0 + pc T 97 a - pc T 97 0)) (y := (0 + pc T 98 a - pc T 98 0)) (z := (0 + pc T 99 a - pc T 99 0)) (by omega) (by omega) rfl rfl
  have en := gh_end (T := T) (st := st) (v1 := .val (.ptr pn)) (E := [.int 0, dN a, dN b, dN c, .int T.length]) (v4 := .val (.int 2)) SM_last (x := (0 + pc T 97 a - pc T 97 0 + pc T 97 c - pc T 97 b)) (y := (0 + pc T 98 a - pc T 98 0 + pc T 98 c - pc T 98 b)) (z := (0 + pc T 99 a - pc T 99 0 + pc T 99 c - pc T 99 b)) (fun w hw => by
    have bb := fun x i => pc_b x i hT
    have b1 := bb 97 a; have b2 := bb 98 a; have b3 := bb 99 a
    have c1 := bb 97 b; have c2 := bb 98 b; have c3 := bb 99 b
    have d1 := bb 97 c; have d2 := bb 98 c; have d3 := bb 99 c
    rw [pc_zero, pc_zero, pc_zero] at hw
    simp only [List.mem_cons, List.not_mem_nil, or_false] at hw
    rcases hw with rfl | rfl | rfl <;> exact two_mul_ok (by omega) (by omega))
  have ed : decide (2 * (0 + pc T 97 a - pc T 97 0 + pc T 97 c - pc T 97 b) = pc T 97 T.length ∧ 2 * (0 + pc T 98 a - pc T 98 0 + pc T 98 c - pc T 98 b) = pc T 98 T.length ∧ 2 * (0 + pc T 99 a - pc T 99 0 + pc T 99 c - pc T 99 b) = pc T 99 T.length) = even3 T [a, b, c] := by
    unfold even3
    rw [alt_3 _ h0 h1, alt_3 _ h0 h1, alt_3 _ h0 h1, pc_zero, pc_zero, pc_zero, pc_all T 97 (Nat.le_refl _), pc_all T 98 (Nat.le_refl _), pc_all T 99 (Nat.le_refl _), decide_eq_decide]
    omega
  rw [ed] at en
  have r : rng3 [.int 0, .int 4, .int 2] = some (0, 2) := rfl
  have r2 : rangeD2 0 2 = [.int 0, .int 2] := rfl
  have hf : forD (tgB (tgN 4) fb_gives_halves_2) [.int 0, .int 2] ⟨[.val (.lst (SM T)), .val (.ptr pn), .val (.lst [.int 0, dN a, dN b, dN c, .int T.length]), .val (.lst [.int 0, .int 0, .int 0]), .emp, .emp, .emp, .emp], st⟩ = .nx ⟨[.val (.lst (SM T)), .val (.ptr pn), .val (.lst [.int 0, dN a, dN b, dN c, .int T.length]), .val (.lst [.int (0 + pc T 97 a - pc T 97 0 + pc T 97 c - pc T 97 b), .int (0 + pc T 98 a - pc T 98 0 + pc T 98 c - pc T 98 b), .int (0 + pc T 99 a - pc T 99 0 + pc T 99 c - pc T 99 b)]), .val (.int 2), .emp, .emp, .emp], st⟩ := by
    rw [e_forC, st1]
    show (match tgB (tgN 4) fb_gives_halves_2 (.int 2) _ with | .nx e' => forD _ [] e' | .ct e' => forD _ [] e' | .bk e' => .nx e' | r => r) = _
    rw [st2]; rfl
  simp only [dN] at hf en hn ⊢
  generalize hN : (T.length : Int) = N at *
  generalize hS : SM T = SD at *
  generalize (0 + pc T 97 a - pc T 97 0 + pc T 97 c - pc T 97 b) = g1 at *
  generalize (0 + pc T 98 a - pc T 98 0 + pc T 98 c - pc T 98 b) = g2 at *
  generalize (0 + pc T 99 a - pc T 99 0 + pc T 99 c - pc T 99 b) = g3 at *
  generalize (a : Int) = a' at *
  generalize (b : Int) = b' at *
  generalize (c : Int) = c' at *
  simp -implicitDefEqProofs [F_gives_halves, g_gives_halves, hn, hl, n, r, r2, hf, -e_rng3, -e_dLc, -e_dEqO]
  exact en
end
theorem for_find2 {α : Type} {b : D → En → SR} {enc : α → D} (I : En → Prop) (p : α → Bool) (R : α → SR → Prop) : ∀ (l : List α) (E : En), (∀ a ∈ l, ∀ E, I E → (p a = false → ∃ E', b (enc a) E = .nx E' ∧ I E') ∧ (p a = true → R a (b (enc a) E) ∧ ∃ m d s, b (enc a) E = .rt m d s)) → I E →
    match l.find? p with
    | some a => R a (forD b (l.map enc) E)
    | none => ∃ E', forD b (l.map enc) E = .nx E' ∧ I E'
  | [], E, _, h => ⟨E, rfl, h⟩
  | a :: l, E, hb, h => by
    cases q : p a with
    | true =>
      rw [List.find?_cons_of_pos q]
      obtain ⟨h1, m, d, s, h2⟩ := (hb a (List.mem_cons_self ..) E h).2 q
      show R a (forD b (enc a :: l.map enc) E)
      rw [e_forC, h2]
      rw [h2] at h1
      exact h1
    | false =>
      rw [List.find?_cons_of_neg (by rw [q]; decide)]
      obtain ⟨E1, h1, h2⟩ := (hb a (List.mem_cons_self ..) E h).1 q
      have ih := for_find2 I p R l E1 (fun c m => hb c (List.mem_cons_of_mem _ m)) h2
      have e : forD b ((a :: l).map enc) E = forD b (l.map enc) E1 := by
        show forD b (enc a :: l.map enc) E = _
        rw [e_forC, h1]
      rw [e]
      exact ih
def StGr (s t : Sto) : Prop := s.length ≤ t.length ∧ ∀ m, m < s.length → t[m]? = s[m]?
theorem StGr.refl (s : Sto) : StGr s s := ⟨Nat.le_refl _, fun _ _ => rfl⟩
theorem StGr.trans {s t u : Sto} (a : StGr s t) (b : StGr t u) : StGr s u := ⟨Nat.le_trans a.1 b.1, fun m h => (b.2 m (Nat.lt_of_lt_of_le h a.1)).trans (a.2 m h)⟩
theorem StGr.app (s o : Sto) : StGr s (s ++ o) := ⟨by simp, fun m h => List.getElem?_append_left h⟩
def GotC (st : Sto) (cs : List Nat) (r : SR) : Prop := ∃ n st', r = .rt .P (.ptr n) st' ∧ st'[n]? = some (.lst (cs.map dN)) ∧ StGr st st' ∧ st.length ≤ n
def goodB (T cs : List Nat) : Bool := okN T.length cs && even3 T cs
theorem good_iff {T cs : List Nat} : goodB T cs = true ↔ okCuts T.length 0 cs ∧ balD T cs := by
  unfold goodB
  rw [Bool.and_eq_true, okN_iff, even3_iff]
def full (M : Nat) (fr : List Nat) : List Nat := fr ++ [lastC M fr]
section
variable {T : List Nat} {st : Sto} {v1 v3 v5 : SL}
theorem gh_full (hT : T.length ≤ 1000) {M : Nat} : ∀ {fr : List Nat}, fr.length ≤ 2 → okCuts T.length 0 (full M fr) → ∀ {pn : Nat}, st[pn]? = some (.lst ((full M fr).map dN)) → F_gives_halves [.lst (SM T), .ptr pn] st = .val .P (.bl (even3 T (full M fr))) st
  | [], _, o, _, hn => gh_1 hT (Nat.le_of_lt o.2.1) hn
  | [a], _, o, _, hn => gh_2 hT (Nat.le_of_lt o.2.2.1) (Nat.le_of_lt o.2.2.2.1) hn
  | [a, b], _, o, _, hn => gh_3 hT (Nat.le_of_lt o.2.2.1) (Nat.le_of_lt o.2.2.2.2.1) (Nat.le_of_lt o.2.2.2.2.2.1) hn
theorem bd_body (hT : T.length ≤ 1000) {M : Nat} (hM : T.length = 2 * M) {fr : List Nat} (hf : fr.length ≤ 2) (ha : ∀ a b, fr = [a, b] → a ≤ b) :
    fb_fewest_cuts_2 ⟨[.val (.str (S T)), v1, .val (.lst (SM T)), v3, .val (.lst (fr.map dN)), v5], st⟩ = if goodB T (full M fr) = true then .rt .P (.ptr st.length) (st ++ [.lst ((full M fr).map dN)]) else .nx ⟨[.val (.str (S T)), v1, .val (.lst (SM T)), v3, .val (.lst (fr.map dN)), .val (.ptr st.length)], st ++ [.lst ((full M fr).map dN)]⟩ := by
  have hl := last_eq hM hf ha st
  have hz : (S T).length ≤ 1000000 := by rw [S_len]; omega
  have hsl : (S T).length = T.length := S_len T
  have l1 : (fr.map dN).length + 1 ≤ 1000000 := by simp; omega
  have hn : (st ++ [Ob.lst ((full M fr).map dN)])[st.length]? = some (.lst ((full M fr).map dN)) := by simp
  have ic := is_cuts_P (T := T) (cs := full M fr) hT hn
  have gh : okN T.length (full M fr) = true → F_gives_halves [.lst (SM T), .ptr st.length] (st ++ [Ob.lst ((full M fr).map dN)]) = .val .P (.bl (even3 T (full M fr))) (st ++ [Ob.lst ((full M fr).map dN)]) := fun ok => gh_full hT hf (okN_iff.mp ok) hn
  have e : (full M fr).map dN = fr.map dN ++ [dN (lastC M fr)] := by simp [full]
  unfold goodB
  rw [e] at ic gh ⊢
  clear e ha hf hn
  rw [hsl] at hz
  simp only [dN] at hl l1 ic gh ⊢
  generalize (lastC M fr : Int) = lc at *
  generalize hS : S T = z at *
  generalize SM T = SD at *
  generalize List.map (fun n : Nat => D.int (n : Int)) fr = FD at *
  generalize even3 T (full M fr) = b2 at *
  cases hok : okN T.length (full M fr) with
  | false =>
    rw [hok] at ic
    simp -implicitDefEqProofs [q_fb_fewest_cuts_2, hz, hsl, hl, l1, ic]
  | true =>
    have g := gh hok
    rw [hok] at ic
    cases b2 <;> simp -implicitDefEqProofs [q_fb_fewest_cuts_2, hz, hsl, hl, l1, ic, g]
end
def candF (T : List Nat) (k : Nat) : List (List Nat) := acs k 1 (T.length - 1)
theorem acs_two {lo hi : Nat} {a b : Nat} (h : [a, b] ∈ acs 2 lo hi) : a ≤ b := by
  rw [acs] at h
  obtain ⟨k, _, hk⟩ := List.mem_flatMap.mp h
  obtain ⟨l, hl, e⟩ := List.mem_map.mp hk
  rw [acs] at hl
  obtain ⟨k2, _, hk2⟩ := List.mem_flatMap.mp hl
  obtain ⟨l2, hl2, e2⟩ := List.mem_map.mp hk2
  subst e2
  injection e with e1 e2
  injection e2 with e3 e4
  omega
theorem acs_mem : ∀ (m lo hi : Nat) (cs : List Nat), cs.length = m → (∀ h, h + 1 = lo → okCuts (hi + 1) h cs) → 1 ≤ lo → cs ∈ acs m lo hi
  | 0, lo, hi, [], _, _, _ => by simp [acs]
  | m + 1, lo, hi, c :: cs, hl, ok, h1 => by
    obtain ⟨o1, o2, o3⟩ := ok (lo - 1) (by omega)
    rw [acs]
    refine List.mem_flatMap.mpr ⟨c - lo, List.mem_range.mpr (by omega), ?_⟩
    have e : lo + (c - lo) = c := by omega
    rw [e]
    exact List.mem_map.mpr ⟨cs, acs_mem m (c + 1) hi cs (by simpa using hl) (fun h hh => by
      have : h = c := by omega
      rw [this]; exact o3) (by omega), rfl⟩
theorem all_cuts_ok {lo hi m : Nat} (hm : m ≤ 2) (hlo : lo ≤ 100) (hhi : hi ≤ 43) (st : Sto) : F_all_cuts [dN lo, dN hi, dN m] st = .val .N (.lst ((acs m lo hi).map dL)) st := by
  have b : ∀ k, k ≤ 2 → (hi + 1) ^ k ≤ 90000 := fun k hk => by
    have := Nat.pow_le_pow_left (show hi + 1 ≤ 44 by omega) k
    have := Nat.pow_le_pow_right (show 0 < 44 by decide) hk
    omega
  match m, hm with
  | 0, _ => exact gg_zero fb_all_cuts_2 lo hi st
  | 1, _ => exact gg_succ (F := F_all_cuts_2) (m := 0) (md := .N) (by decide) (fun lo' _ => gg_zero fb_all_cuts_2_2 lo' hi st) (b 1 (by decide)) (by decide) (by omega) (by omega)
  | 2, _ => exact gg_succ (F := F_all_cuts_2) (m := 1) (md := .N) (by decide) (fun lo' h => gg_succ (F := F_all_cuts_1) (m := 0) (md := .N) (by decide) (fun lo'' _ => gg_zero fb_all_cuts_1_1 lo'' hi st) (b 1 (by decide)) (by decide) (by omega) (by omega)) (b 2 (by decide)) (by decide) (by omega) (by omega)
section
variable {T : List Nat} {st : Sto}
theorem round_ok (hT : T.length ≤ 44) (h2 : 2 ≤ T.length) {M : Nat} (hM : T.length = 2 * M) {v1 x4 x5 : SL} {k : Nat} (hk : k ≤ 2) : match (candF T k).find? (fun fr => goodB T (full M fr)) with
    | some fr => GotC st (full M fr) (wb_fewest_cuts_4 ⟨[.val (.str (S T)), v1, .val (.lst (SM T)), .val (.int ((k + 1 : Nat) : Int)), x4, x5], st⟩)
    | none => ∃ x4' x5' st', wb_fewest_cuts_4 ⟨[.val (.str (S T)), v1, .val (.lst (SM T)), .val (.int ((k + 1 : Nat) : Int)), x4, x5], st⟩ = .nx ⟨[.val (.str (S T)), v1, .val (.lst (SM T)), .val (.int ((k + 2 : Nat) : Int)), x4', x5'], st'⟩ ∧ StGr st st' := by
  have ac := all_cuts_ok (lo := 1) (hi := T.length - 1) hk (by decide) (by omega) st
  have hz : (S T).length ≤ 1000000 := by rw [S_len]; omega
  have hsl : (S T).length = T.length := S_len T
  have ff := for_find2 (b := tgB (tgN 4) fb_fewest_cuts_2) (enc := dL) (fun E => ∃ x4 x5 st', E = ⟨[.val (.str (S T)), v1, .val (.lst (SM T)), .val (.int ((k + 1 : Nat) : Int)), x4, x5], st'⟩ ∧ StGr st st') (fun fr => goodB T (full M fr)) (fun fr r => GotC st (full M fr) r) (candF T k) ⟨[.val (.str (S T)), v1, .val (.lst (SM T)), .val (.int ((k + 1 : Nat) : Int)), x4, x5], st⟩ (by
      rintro fr hfr E ⟨y4, y5, st1, rfl, hx⟩
      have hl : fr.length = k := (acs_len k 1 (T.length - 1)).2 fr hfr
      have bo := bd_body (st := st1) (v1 := v1) (v3 := .val (.int ((k + 1 : Nat) : Int))) (v5 := y5) (by omega) hM (fr := fr) (by omega) (fun a b e => by
        have hk2 : k = 2 := by rw [← hl, e]; rfl
        rw [e] at hfr
        unfold candF at hfr
        rw [hk2] at hfr
        exact acs_two hfr)
      refine ⟨fun g => ⟨_, ?_, .val (.lst (fr.map dN)), .val (.ptr st1.length), _, rfl, hx.trans (StGr.app st1 [.lst ((full M fr).map dN)])⟩, fun g => ?_⟩
      · rw [if_neg (by rw [g]; decide)] at bo
        exact bo
      · rw [if_pos g] at bo
        have bo' : tgB (tgN 4) fb_fewest_cuts_2 (dL fr) ⟨[.val (.str (S T)), v1, .val (.lst (SM T)), .val (.int ((k + 1 : Nat) : Int)), y4, y5], st1⟩ = .rt .P (.ptr st1.length) (st1 ++ [.lst ((full M fr).map dN)]) := bo
        exact ⟨⟨st1.length, _, bo', by simp, hx.trans (StGr.app st1 _), hx.1⟩, _, _, _, bo'⟩) ⟨x4, x5, st, rfl, StGr.refl st⟩
  have hac : F_all_cuts [.int 1, .int ((T.length : Int) - 1), .int (((k + 1 : Nat) : Int) - 1)] st = .val .N (.lst ((candF T k).map dL)) st := by
    have e1 : (T.length : Int) - 1 = ((T.length - 1 : Nat) : Int) := by omega
    have e2 : ((k + 1 : Nat) : Int) - 1 = (k : Int) := by omega
    rw [e1, e2]
    exact ac
  have e3 : ((k + 1 : Nat) : Int) + 1 = ((k + 2 : Nat) : Int) := by omega
  rw [hsl] at hz
  clear ac
  cases q : (candF T k).find? (fun fr => goodB T (full M fr)) with
  | some fr =>
    rw [q] at ff
    simp only at ff ⊢
    obtain ⟨n, st', ff, g1, g2, g3⟩ := ff
    refine ⟨n, st', ?_, g1, g2, g3⟩
    clear g1 g2 g3
    generalize ((k + 1 : Nat) : Int) = k1 at *
    generalize S T = z at *
    generalize SM T = SD at *
    generalize (candF T k).map dL = CD at *
    simp -implicitDefEqProofs [q_wb_fewest_cuts_4, hz, hsl, hac, ff]
  | none =>
    rw [q] at ff
    simp only at ff ⊢
    obtain ⟨E', ff, x4', x5', st', rfl, hx⟩ := ff
    refine ⟨x4', x5', st', ?_, hx⟩
    clear hx
    generalize ((k + 1 : Nat) : Int) = k1 at *
    generalize ((k + 2 : Nat) : Int) = k2 at *
    generalize S T = z at *
    generalize SM T = SD at *
    generalize (candF T k).map dL = CD at *
    simp -implicitDefEqProofs [q_wb_fewest_cuts_4, hz, hsl, hac, ff, e3]
def fwc (T : List Nat) : List Nat := if T.length = 0 then [] else
  match (candF T 0).find? (fun fr => goodB T (full (T.length / 2) fr)) with
  | some fr => full (T.length / 2) fr
  | none => match (candF T 1).find? (fun fr => goodB T (full (T.length / 2) fr)) with
    | some fr => full (T.length / 2) fr
    | none => match (candF T 2).find? (fun fr => goodB T (full (T.length / 2) fr)) with
      | some fr => full (T.length / 2) fr
      | none => []
theorem ask_loop : ∀ (L : List Nat) (k : Nat) {v0 x1 x2 : SL}, (∀ c ∈ L, c = 97 ∨ c = 98 ∨ c = 99) → k + L.length ≤ 24 → ∃ x1' x2', forD (tgB (tgT 2 (tgsCons (tgN 1) (tgsCons (tgN 2) tgsNil))) fb_ask_beads_1) (enumD k (L.map fun c => .str ⟨#[c]⟩)) ⟨[v0, x1, x2], st⟩ = .nx ⟨[v0, x1', x2'], st⟩
  | [], k, v0, x1, x2, _, _ => ⟨x1, x2, rfl⟩
  | c :: L, k, v0, x1, x2, h, hk => by
    obtain ⟨x1', x2', ih⟩ := ask_loop L (k + 1) (v0 := v0) (x1 := .val (.int k)) (x2 := .val (.str ⟨#[c]⟩)) (fun c m => h c (List.mem_cons_of_mem _ m)) (by simp at hk; omega)
    refine ⟨x1', x2', ?_⟩
    rw [List.map_cons, enumD, e_forC]
    have nb := notin_abc c st
    have mem : decide (c ∈ [97, 98, 99]) = true := decide_eq_true (by have := h c (List.mem_cons_self ..); simpa using this)
    rw [mem] at nb
    have n24 : ¬ ((k : Int) = 24) := by simp at hk; omega
    have s : tgB (tgT 2 (tgsCons (tgN 1) (tgsCons (tgN 2) tgsNil))) fb_ask_beads_1 (.tup [.int k, .str ⟨#[c]⟩]) ⟨[v0, x1, x2], st⟩ = .nx ⟨[v0, .val (.int k), .val (.str ⟨#[c]⟩)], st⟩ := by
      generalize (k : Int) = k' at *
      generalize (⟨#[c]⟩ : Str) = w at *
      simp -implicitDefEqProofs [q_fb_ask_beads_1, n24, nb]
    rw [s]
    exact ih
theorem ask_ok (h : abcs T) (hT : T.length ≤ 24) : F_ask_beads [.str (S T)] st = .val .P .non st := by
  obtain ⟨x1', x2', hf⟩ := ask_loop (st := st) T 0 (v0 := .val (.str (S T))) (x1 := .emp) (x2 := .emp) h (by omega)
  have e : ∀ st, dEnumS (aCons (dVar 0) aNil) ⟨[.val (.str (S T)), .emp, .emp], st⟩ = .ok true (enumD 0 (T.map fun c => D.str ⟨#[c]⟩)) st := fun st => by
    have q : (S T).cps.toList = T := S_cps T
    generalize S T = z at *
    simp [q]
  generalize enumD 0 (T.map fun c => D.str ⟨#[c]⟩) = ED at *
  generalize S T = z at *
  have hs := (sFor_of (t := tgT 2 (tgsCons (tgN 1) (tgsCons (tgN 2) tgsNil))) (b := fb_ask_beads_1) (e st)).trans hf
  simp -implicitDefEqProofs [F_ask_beads, g_ask_beads, hs, -e_sFor]
end
section
variable {c : En → ER} {b : En → SR} {E E' : En} {m : Md} {st1 : Sto}
theorem wh_un (hc : c E = .val m (.bl true) st1) (hb : b ⟨E.e, st1⟩ = .nx E' ∨ b ⟨E.e, st1⟩ = .ct E') (n : Nat) : whN c b (n + 1) E = whN c b n E' := by
  obtain ⟨e, st⟩ := E
  rw [e_wh hc]
  rcases hb with hb | hb <;> simp only [hb, if_true]
theorem wh_0 : whN c b 0 E = none := rfl
theorem while_nx (hc : c E = .val m (.bl true) st1) (hb : b ⟨E.e, st1⟩ = .nx E' ∨ b ⟨E.e, st1⟩ = .ct E') : sWhile c b E = sWhile c b E' := by
  have u := wh_un hc hb
  by_cases h : ∃ n r, whN c b n E' = some r
  · obtain ⟨n, r, h⟩ := h
    rw [sWhile_eq h, sWhile_eq (n := n + 1) (by rw [u]; exact h)]
  · have h2 : ¬ ∃ n r, whN c b n E = some r := by
      rintro ⟨n, r, e⟩
      cases n with
      | zero => rw [wh_0] at e; cases e
      | succ n => rw [u] at e; exact h ⟨n, r, e⟩
    unfold sWhile
    rw [dif_neg h, dif_neg h2]
theorem while_end (hc : c E = .val m (.bl false) st1) : sWhile c b E = .nx ⟨E.e, st1⟩ := by
  obtain ⟨e, st⟩ := E
  refine sWhile_eq (n := 1) ?_
  rw [e_wh hc]; simp
theorem while_rt {k : Md} {l : D} {s' : Sto} (hc : c E = .val m (.bl true) st1) (hb : b ⟨E.e, st1⟩ = .rt k l s') : sWhile c b E = .rt k l s' := by
  obtain ⟨e, st⟩ := E
  refine sWhile_eq (n := 1) ?_
  rw [e_wh hc]; simp [hb]
end
structure Fw (T cs : List Nat) : Prop where
  ok : okCuts T.length 0 cs
  bal : balD T cs
  le3 : cs.length ≤ 3
  least : ∀ cs', okCuts T.length 0 cs' → balD T cs' → cs.length ≤ cs'.length
section
variable {T : List Nat} (E : Evn T)
include E
theorem found {cs : List Nat} (ok : okCuts T.length 0 cs) (b : balD T cs) (h1 : 1 ≤ cs.length) (h3 : cs.length ≤ 3) : ∃ fr, fr ∈ candF T (cs.length - 1) ∧ full (T.length / 2) fr = cs := by
  match cs, ok, b, h1, h3 with
  | [a], ok, b, _, _ =>
    have := last_1 E (Nat.le_of_lt ok.2.1) b
    exact ⟨[], by simp [candF, acs], by simp only [full, lastC, List.nil_append]; rw [this]⟩
  | [a, c], ok, b, _, _ =>
    obtain ⟨o1, o2, o3, o4, _⟩ := ok
    have := last_2 E (Nat.le_of_lt o3) (Nat.le_of_lt o4) b
    exact ⟨[a], acs_mem 1 1 (T.length - 1) [a] rfl (fun h hh => ⟨by omega, by omega, trivial⟩) (by decide), by simp only [full, lastC, List.cons_append, List.nil_append]; rw [this]⟩
  | [a, c, d], ok, b, _, _ =>
    obtain ⟨o1, o2, o3, o4, o5, o6, _⟩ := ok
    have := last_3 E (Nat.le_of_lt o3) (Nat.le_of_lt o5) (Nat.le_of_lt o6) b
    exact ⟨[a, c], acs_mem 2 1 (T.length - 1) [a, c] rfl (fun h hh => ⟨by omega, by omega, by omega, by omega, trivial⟩) (by decide), by simp only [full, lastC, List.cons_append, List.nil_append]; congr 3; omega⟩
theorem found_some {cs : List Nat} (ok : okCuts T.length 0 cs) (b : balD T cs) (h1 : 1 ≤ cs.length) (h3 : cs.length ≤ 3) : (candF T (cs.length - 1)).find? (fun fr => goodB T (full (T.length / 2) fr)) ≠ none := by
  obtain ⟨fr, hm, e⟩ := found E ok b h1 h3
  intro h
  have := List.find?_eq_none.mp h fr hm
  rw [e] at this
  exact this (good_iff.mpr ⟨ok, b⟩)
theorem some_good {k : Nat} {fr : List Nat} (h : (candF T k).find? (fun fr => goodB T (full (T.length / 2) fr)) = some fr) : okCuts T.length 0 (full (T.length / 2) fr) ∧ balD T (full (T.length / 2) fr) ∧ (full (T.length / 2) fr).length = k + 1 := by
  have g := List.find?_some h
  have m := List.mem_of_find?_eq_some h
  obtain ⟨a, b⟩ := good_iff.mp g
  refine ⟨a, b, ?_⟩
  simp only [full, List.length_append, List.length_singleton]
  rw [(acs_len k 1 (T.length - 1)).2 fr m]
theorem none_bal (h : balD T []) : T.length = 0 := by
  have s := bal_len E h
  rw [alt_0, alt_0, alt_0, E.cnt (.inl rfl), E.cnt (.inr (.inl rfl)), E.cnt (.inr (.inr rfl))] at s
  have l := E.len
  omega
theorem fw_ok : Fw T (fwc T) := by
  unfold fwc
  by_cases h0 : T.length = 0
  · rw [if_pos h0]
    have e : T = [] := List.length_eq_zero_iff.mp h0
    subst e
    exact ⟨trivial, fun x _ => by simp [segs, alt], by simp, fun _ _ _ => by simp⟩
  · rw [if_neg h0]
    have low : ∀ cs', okCuts T.length 0 cs' → balD T cs' → 1 ≤ cs'.length := fun cs' o b => by
      cases cs' with
      | nil => exact absurd (none_bal E b) h0
      | cons => simp
    cases q0 : (candF T 0).find? (fun fr => goodB T (full (T.length / 2) fr)) with
    | some fr =>
      simp only
      obtain ⟨a, b, c⟩ := some_good E q0
      exact ⟨a, b, by omega, fun cs' o b' => by rw [c]; exact low cs' o b'⟩
    | none =>
      have low2 : ∀ cs', okCuts T.length 0 cs' → balD T cs' → 2 ≤ cs'.length := fun cs' o b => by
        have l := low cs' o b
        by_cases h : cs'.length = 1
        · have := found_some E o b l (by omega)
          rw [h] at this
          exact absurd q0 this
        · omega
      simp only
      cases q1 : (candF T 1).find? (fun fr => goodB T (full (T.length / 2) fr)) with
      | some fr =>
        simp only
        obtain ⟨a, b, c⟩ := some_good E q1
        exact ⟨a, b, by omega, fun cs' o b' => by rw [c]; exact low2 cs' o b'⟩
      | none =>
        have low3 : ∀ cs', okCuts T.length 0 cs' → balD T cs' → 3 ≤ cs'.length := fun cs' o b => by
          have l := low2 cs' o b
          by_cases h : cs'.length = 2
          · have := found_some E o b (by omega) (by omega)
            rw [h] at this
            exact absurd q1 this
          · omega
        simp only
        cases q2 : (candF T 2).find? (fun fr => goodB T (full (T.length / 2) fr)) with
        | some fr =>
          simp only
          obtain ⟨a, b, c⟩ := some_good E q2
          exact ⟨a, b, by omega, fun cs' o b' => by rw [c]; exact low3 cs' o b'⟩
        | none =>
          obtain ⟨cs, o, b, l1, l3⟩ := neck_3 E (by omega)
          have l := low3 cs o b
          have := found_some E o b l1 l3
          rw [show cs.length - 1 = 2 by omega] at this
          exact absurd q2 this
end
section
variable {T : List Nat} {st : Sto}
theorem cnt_mod (n : Nat) (st : Sto) : oMod (.int (n : Int)) (.int 2) st = .val .P (.int ((n % 2 : Nat) : Int)) st := by
  have e : ((n : Nat) : Int).fmod 2 = ((n % 2 : Nat) : Int) := by
    rw [Int.fmod_eq_emod_of_nonneg _ (by decide)]
    omega
  rw [e_oMod_1, if_pos (by decide), e]
theorem odd_step {x : Nat} {v1 v2 v3 v4 v5 : SL} : tgB (tgN 1) fb_fewest_cuts_1 (.str ⟨#[x]⟩) ⟨[.val (.str (S T)), v1, v2, v3, v4, v5], st⟩ = if T.count x % 2 = 1 then .exc 2 [.str ⟨#[x]⟩] ⟨[.val (.str (S T)), .val (.str ⟨#[x]⟩), v2, v3, v4, v5], st⟩ else .nx ⟨[.val (.str (S T)), .val (.str ⟨#[x]⟩), v2, v3, v4, v5], st⟩ := by
  have c := count_one (S T) x
  rw [S_cps] at c
  have m := cnt_mod (T.count x) st
  have hc : msCount (S T) [.str ⟨#[x]⟩] st = .val .P (.int ((T.count x : Nat) : Int)) st := by rw [e_msCount, c]
  generalize S T = z at *
  generalize hw : (⟨#[x]⟩ : Str) = w at *
  generalize ((T.count x : Nat) : Int) = k at *
  by_cases h : T.count x % 2 = 1
  · rw [if_pos h]
    rw [h] at m
    simp -implicitDefEqProofs [q_fb_fewest_cuts_1, hc, m, -e_oMod_1]
  · rw [if_neg h]
    have h0 : T.count x % 2 = 0 := by omega
    rw [h0] at m
    simp -implicitDefEqProofs [q_fb_fewest_cuts_1, hc, m, -e_oMod_1]
theorem abc_items : itemsOf (.str (Str.ofString "abc")) = some [.str ⟨#[97]⟩, .str ⟨#[98]⟩, .str ⟨#[99]⟩] := rfl
theorem fewest_run (E : Evn T) (hT : T.length ≤ 24) (st : Sto) : ∃ n st', F_fewest_cuts [.str (S T)] st = .val .P (.ptr n) st' ∧ st'[n]? = some (.lst ((fwc T).map dN)) ∧ StGr st st' ∧ st.length ≤ n := by
  have ak := ask_ok (st := st) E.abc hT
  have o1 := odd_step (T := T) (st := st) (x := 97) (v1 := .emp) (v2 := .emp) (v3 := .emp) (v4 := .emp) (v5 := .emp)
  have o2 := odd_step (T := T) (st := st) (x := 98) (v1 := .val (.str ⟨#[97]⟩)) (v2 := .emp) (v3 := .emp) (v4 := .emp) (v5 := .emp)
  have o3 := odd_step (T := T) (st := st) (x := 99) (v1 := .val (.str ⟨#[98]⟩)) (v2 := .emp) (v3 := .emp) (v4 := .emp) (v5 := .emp)
  rw [if_neg (by rw [E.ev 97 (.inl rfl)]; decide)] at o1
  rw [if_neg (by rw [E.ev 98 (.inr (.inl rfl))]; decide)] at o2
  rw [if_neg (by rw [E.ev 99 (.inr (.inr rfl))]; decide)] at o3
  have hf : forD (tgB (tgN 1) fb_fewest_cuts_1) [.str ⟨#[97]⟩, .str ⟨#[98]⟩, .str ⟨#[99]⟩] ⟨[.val (.str (S T)), .emp, .emp, .emp, .emp, .emp], st⟩ = .nx ⟨[.val (.str (S T)), .val (.str ⟨#[99]⟩), .emp, .emp, .emp, .emp], st⟩ := by
    rw [e_forC, o1]; simp only
    rw [e_forC, o2]; simp only
    rw [e_forC, o3]; rfl
  have su : F_sums_ahead [.str (S T)] st = .val .N (.lst (SM T)) st := sums_eq (by omega) st
  have hz : (S T).length ≤ 1000000 := by rw [S_len]; omega
  have hsl : (S T).length = T.length := S_len T
  have hh := E.half
  have wc : ∀ (st : Sto) (k : Nat) (x4 x5 : SL), wc_fewest_cuts_3 ⟨[.val (.str (S T)), .val (.str ⟨#[99]⟩), .val (.lst (SM T)), .val (.int (k : Int)), x4, x5], st⟩ = .val .P (.bl (decide (k < T.length))) st := fun st k x4 x5 => by
    have e : decide ((k : Int) < (T.length : Int)) = decide (k < T.length) := by rw [decide_eq_decide]; omega
    rw [← e]
    rw [hsl] at hz
    generalize S T = z at *
    generalize SM T = SD at *
    generalize (k : Int) = k' at *
    simp -implicitDefEqProofs [q_wc_fewest_cuts_3, hz, hsl]
  have fin : ∀ n st' r, sWhile wc_fewest_cuts_3 wb_fewest_cuts_4 ⟨[.val (.str (S T)), .val (.str ⟨#[99]⟩), .val (.lst (SM T)), .val (.int 1), .emp, .emp], st⟩ = r → (r.bind (sRet (dPut (dLst aNil)))).ret = .val .P (.ptr n) st' → F_fewest_cuts [.str (S T)] st = .val .P (.ptr n) st' := fun n st' r hr h => by
    rw [← h, ← hr]
    have it := abc_items
    clear h hr wc hh o1 o2 o3
    generalize S T = z at *
    generalize SM T = SD at *
    simp -implicitDefEqProofs [F_fewest_cuts, g_fewest_cuts, ak, -e_itS, it, hf, su]
  by_cases h0 : T.length = 0
  · have w1 : wc_fewest_cuts_3 ⟨[.val (.str (S T)), .val (.str ⟨#[99]⟩), .val (.lst (SM T)), .val (.int 1), .emp, .emp], st⟩ = .val .P (.bl false) st := by
      have := wc st 1 .emp .emp
      rw [decide_eq_false (by omega)] at this
      exact this
    have e2 : fwc T = [] := by unfold fwc; rw [if_pos h0]
    rw [e2]
    exact ⟨st.length, st ++ [.lst []], fin _ _ _ (while_end w1) (by simp), by simp, StGr.app st [.lst []], Nat.le_refl _⟩
  · have go : ∀ (st : Sto) (k : Nat), k < T.length → ∀ (x4 x5 : SL), wc_fewest_cuts_3 ⟨[.val (.str (S T)), .val (.str ⟨#[99]⟩), .val (.lst (SM T)), .val (.int (k : Int)), x4, x5], st⟩ = .val .P (.bl true) st := fun st k hk x4 x5 => by
      have := wc st k x4 x5
      rw [decide_eq_true hk] at this
      exact this
    have r0 := round_ok (st := st) (v1 := .val (.str ⟨#[99]⟩)) (x4 := .emp) (x5 := .emp) (k := 0) (by omega) (by omega) hh (by decide)
    have done : ∀ {fr st1 r}, fwc T = full (T.length / 2) fr → StGr st st1 → GotC st1 (full (T.length / 2) fr) r → sWhile wc_fewest_cuts_3 wb_fewest_cuts_4 ⟨[.val (.str (S T)), .val (.str ⟨#[99]⟩), .val (.lst (SM T)), .val (.int 1), .emp, .emp], st⟩ = r → ∃ n st', F_fewest_cuts [.str (S T)] st = .val .P (.ptr n) st' ∧ st'[n]? = some (.lst ((fwc T).map dN)) ∧ StGr st st' ∧ st.length ≤ n := fun e x ⟨n, st', hr, h1, h2, h3⟩ hw => by
      rw [e]
      exact ⟨n, st', fin n st' _ hw (by rw [hr]; simp), h1, x.trans h2, Nat.le_trans x.1 h3⟩
    cases q0 : (candF T 0).find? (fun fr => goodB T (full (T.length / 2) fr)) with
    | some fr =>
      rw [q0] at r0
      obtain ⟨n, st', hr, h⟩ := r0
      exact done (by unfold fwc; rw [if_neg h0, q0]) (StGr.refl st) ⟨n, st', rfl, h⟩ (while_rt (go st 1 (by omega) .emp .emp) hr)
    | none =>
      rw [q0] at r0
      obtain ⟨x4, x5, st1, r0, y1⟩ := r0
      have big : 4 ≤ T.length := by
        apply Classical.byContradiction
        intro hn
        obtain ⟨cs, o, b, l1, l3⟩ := neck_3 E (by omega)
        have : cs.length = 1 := by
          match cs, o, l1 with
          | [_], _, _ => rfl
          | _ :: _ :: _, o, _ => have := o.1; have := o.2.2.1; have := o.2.2.2.1; omega
        have f := found_some E o b l1 l3
        rw [this] at f
        exact absurd q0 f
      have r1 := round_ok (st := st1) (v1 := .val (.str ⟨#[99]⟩)) (x4 := x4) (x5 := x5) (k := 1) (by omega) (by omega) hh (by decide)
      have s0 := while_nx (go st 1 (by omega) .emp .emp) (.inl r0)
      cases q1 : (candF T 1).find? (fun fr => goodB T (full (T.length / 2) fr)) with
      | some fr =>
        rw [q1] at r1
        obtain ⟨n, st', hr, h⟩ := r1
        exact done (by unfold fwc; rw [if_neg h0, q0, q1]) y1 ⟨n, st', rfl, h⟩ (s0.trans (while_rt (go st1 2 (by omega) x4 x5) hr))
      | none =>
        rw [q1] at r1
        obtain ⟨y4, y5, st2, r1, y2⟩ := r1
        have r2 := round_ok (st := st2) (v1 := .val (.str ⟨#[99]⟩)) (x4 := y4) (x5 := y5) (k := 2) (by omega) (by omega) hh (by decide)
        have s1 := s0.trans (while_nx (go st1 2 (by omega) x4 x5) (.inl r1))
        cases q2 : (candF T 2).find? (fun fr => goodB T (full (T.length / 2) fr)) with
        | some fr =>
          rw [q2] at r2
          obtain ⟨n, st', hr, h⟩ := r2
          exact done (by unfold fwc; rw [if_neg h0, q0, q1, q2]) (y1.trans y2) ⟨n, st', rfl, h⟩ (s1.trans (while_rt (go st2 3 (by omega) y4 y5) hr))
        | none =>
          exfalso
          have l := (fw_ok E).ok
          obtain ⟨cs, o, b, l1, l3⟩ := neck_3 E (by omega)
          have f := found_some E o b l1 l3
          rcases (show cs.length = 1 ∨ cs.length = 2 ∨ cs.length = 3 by omega) with h | h | h <;> rw [h] at f <;> contradiction
end
theorem fmod_in (x : Int) {s : Int} (h : 0 < s) : 0 ≤ x.fmod s ∧ x.fmod s < s := ⟨Int.fmod_nonneg_of_pos x h, Int.fmod_lt_of_pos x h⟩
theorem atI_ok {α : Type} {l : List α} {i : Int} (h0 : 0 ≤ i) (h : i < l.length) : ∃ x, atI l i = some x := by
  have hi : i.toNat < l.length := by omega
  refine ⟨l[i.toNat], ?_⟩
  have := atI_nat (List.getElem?_eq_getElem hi)
  rwa [Int.toNat_of_nonneg h0] at this
theorem mixed_ex (c k : Int) (h0 : 0 ≤ k) (h1 : k ≤ 1000000) : ∃ r : Int, 0 ≤ r ∧ r < 1000000007 ∧ ∀ st, F_law_mixed [.int c, .int k] st = .val .P (.int r) st := by
  have hc := fmod_in c (s := 2147483647) (by decide)
  have hkk : (1009 : Int) * k * k ≤ 1009 * 1000000 * 1000000 := Int.mul_le_mul (by omega) h1 h0 (by omega)
  have hkk0 : (0 : Int) ≤ 1009 * k * k := Int.mul_nonneg (by omega) h0
  have q1 : (1009 : Int).natAbs.log2 + k.natAbs.log2 < 1000000 := mul_ok (a := 20) (b := 30) (by decide) (by omega) (by decide) (by decide) (by decide)
  have q2 : (1009 * k).natAbs.log2 + k.natAbs.log2 < 1000000 := mul_ok (a := 60) (b := 30) (by omega) (by omega) (by decide) (by decide) (by decide)
  have q3 : (48611 : Int).natAbs.log2 + k.natAbs.log2 < 1000000 := mul_ok (a := 20) (b := 30) (by decide) (by omega) (by decide) (by decide) (by decide)
  generalize hb : (c.fmod 2147483647 + 1009 * k * k + 48611 * k + 17) = bb
  have q4 : bb.natAbs < 2 ^ 64 := by omega
  have hm := fmod_in (bb ^ 5) (s := 2147483647) (by decide)
  generalize hw : (bb ^ 5).fmod 2147483647 = w at hm
  have q5 : w.natAbs.log2 + (39373 : Int).natAbs.log2 < 1000000 := mul_ok (a := 40) (b := 20) (by omega) (by decide) (by decide) (by decide) (by decide)
  have q6 : (7919 : Int).natAbs.log2 + k.natAbs.log2 < 1000000 := mul_ok (a := 20) (b := 30) (by decide) (by omega) (by decide) (by decide) (by decide)
  have hr := fmod_in (w * 39373 + 7919 * k) (s := 1000000007) (by decide)
  refine ⟨_, hr.1, hr.2, fun st => ?_⟩
  simp only [F_law_mixed, g_law_mixed, e_fnD, e_startE, e_sSeq, e_sSetF, e_dOp, e_dVar, e_dC, List.map_cons, List.map_nil, List.length_cons, List.length_nil, if_true, List.cons_append, List.nil_append, List.replicate, List.getElem?_cons_succ, List.getElem?_cons_zero, ER.bind_val, e_oMod_1, e_oMul_1, e_oAdd_1, e_oPow_1, q1, q2, q3, hb, q4, hw, q5, q6]
  have q4' : bb.natAbs < 18446744073709551616 := q4
  simp +decide [hb, q4', hw, q5, q6]
  simp +decide at q5 q6
  simp +decide [q5, q6]
def Box (p q N : Nat) (st : Sto) : Prop := p ≠ q ∧ ∃ (g sm : List Int) (a c : Int), st[q]? = some (.lst (g.map .int)) ∧ st[p]? = some (.lst [.ptr q, .int a, .lst (sm.map .int), .int c]) ∧ 0 ≤ a ∧ 0 ≤ c ∧ c ≤ N ∧ (∀ x ∈ g, 0 < x) ∧ g.length ≤ 63 ∧ sm.length ≤ 63
def Rest (p q : Nat) (st st' : Sto) : Prop := st'.length = st.length ∧ ∀ m, m ≠ p → m ≠ q → st'[m]? = st[m]?
theorem Rest.refl {p q : Nat} {st : Sto} : Rest p q st st := ⟨rfl, fun _ _ _ => rfl⟩
theorem Rest.trans {p q : Nat} {s t u : Sto} (h : Rest p q s t) (k : Rest p q t u) : Rest p q s u := ⟨k.1.trans h.1, fun m a b => (k.2 m a b).trans (h.2 m a b)⟩
theorem Box.up {p q N M : Nat} {st : Sto} (h : Box p q N st) (k : N ≤ M) : Box p q M st := by
  obtain ⟨a, g, sm, x, c, h1, h2, h3, h4, h5, h6⟩ := h
  exact ⟨a, g, sm, x, c, h1, h2, h3, h4, by omega, h6⟩
theorem take_loop {p : Nat} {st : Sto} {n c k : Int} (hn : n < 2 ^ 1000) (hst : ∃ x y z, st[p]? = some (.lst [x, y, z, .int c])) (hc0 : 0 ≤ c) (hc : c ≤ 200000) :
    ∀ (m : Nat) (f r : Int), 0 < r → 0 ≤ f → f < r → r < n * 1000000007 ∨ r = 1 → (n - r).toNat ≤ m →
      ∃ f' r', 0 ≤ f' ∧ ∃ i, whN wc_law_take_1 wb_law_take_2 i ⟨[.val (.ptr p), .val (.int n), .val (.int k), .val (.int f), .val (.int r)], st⟩ = some (.nx ⟨[.val (.ptr p), .val (.int n), .val (.int k), .val (.int f'), .val (.int r')], st⟩) := by
  obtain ⟨x, y, z, hst⟩ := hst
  intro m
  induction m with
  | zero =>
    intro f r hr hf hfr hb hm
    refine ⟨f, r, hf, 1, ?_⟩
    rw [e_wh (x := false) (m := .P) (st1 := st) (by simp [q_wc_law_take_1]; omega)]
    simp
  | succ m ih =>
    intro f r hr hf hfr hb hm
    by_cases hlt : r < n
    · obtain ⟨mx, h0, h1, hx⟩ := mixed_ex k (c + 1000 * f.fmod 89) (by have := fmod_in f (s := 89) (by decide); omega) (by have := fmod_in f (s := 89) (by decide); omega)
      obtain ⟨f', r', hf', i, hi⟩ := ih (f * 1000000007 + mx) (r * 1000000007) (by omega) (by omega) (by omega) (by omega) (by omega)
      refine ⟨f', r', hf', i + 1, ?_⟩
      rw [e_wh (x := true) (m := .P) (st1 := st) (by simp [q_wc_law_take_1]; omega)]
      have q1 : f.natAbs.log2 + Nat.log2 1000000007 < 1000000 := mul_ok (j := 1000000007) (a := 1000) (b := 40) (by omega) (by decide) (by decide) (by decide) (by decide)
      have q2 : r.natAbs.log2 + Nat.log2 1000000007 < 1000000 := mul_ok (j := 1000000007) (a := 1000) (b := 40) (by omega) (by decide) (by decide) (by decide) (by decide)
      have q3 : Nat.log2 1000 + (f.fmod 89).natAbs.log2 < 1000000 := mul_ok (i := 1000) (a := 40) (b := 40) (by decide) (by have := fmod_in f (s := 89) (by decide); omega) (by decide) (by decide) (by decide)
      simp [q_wb_law_take_2, q1, q2, q3, hst, atI, ixN, hx]
      exact hi
    · refine ⟨f, r, hf, 1, ?_⟩
      rw [e_wh (x := false) (m := .P) (st1 := st) (by simp [q_wc_law_take_1]; omega)]
      simp
theorem take_ok {p q N : Nat} {st : Sto} {n : Int} (B : Box p q N st) (h1 : 1 ≤ n) (h2 : n < 2 ^ 1000 := by decide) (hN : N ≤ 100000 := by decide) : ∃ r st', F_law_take [.ptr p, .int n] st = .val .P (.int r) st' ∧ 0 ≤ r ∧ r < n ∧ Box p q (N + 1) st' ∧ Rest p q st st' := by
  obtain ⟨pq, g, sm, a, c, hq, hp, a0, c0, cN, gp, gl, sl⟩ := B
  have qp : q ≠ p := fun h => pq h.symm
  have lp : p < st.length := (List.getElem?_eq_some_iff.mp hp).1
  have lq : q < st.length := (List.getElem?_eq_some_iff.mp hq).1
  have hn0 : ¬ n = 0 := by omega
  have hlog : n.natAbs.log2 < 9000 := Nat.lt_of_lt_of_le (log2_lt (k := 1000) (by decide) (by omega)) (by decide)
  have sp : ∀ (s : Sto) (x : Ob), s.length = st.length → (s.set p x)[p]? = some x := fun s x h => List.getElem?_set_self (by omega)
  have sq : ∀ (s : Sto) (x : Ob), s.length = st.length → (s.set q x)[q]? = some x := fun s x h => List.getElem?_set_self (by omega)
  by_cases ha : 0 < a
  · have hd := Int.fdiv_nonneg a0 (show 0 ≤ n by omega)
    refine ⟨a.fmod n, (st.set p (.lst [.ptr q, .int a, .lst (sm.map .int), .int (c + 1)])).set p (.lst [.ptr q, .int (a.fdiv n), .lst (sm.map .int), .int (c + 1)]), ?_, (fmod_in a h1).1, (fmod_in a h1).2, ⟨pq, g, sm, a.fdiv n, c + 1, ?_, ?_, hd, by omega, by omega, gp, gl, sl⟩, by simp, fun m m1 m2 => ?_⟩
    · have ha' : ¬ a = 0 := by omega
      simp [F_law_take, g_law_take, hp, hq, atI, ixN, ha, ha', sp, hn0, hlog, List.getElem?_set_ne pq]
    · simp [List.getElem?_set_ne pq, hq]
    · exact sp _ _ (by simp)
    · simp [List.getElem?_set_ne (Ne.symm m1)]
  · have ha0 : a = 0 := by omega
    subst ha0
    cases g with
    | cons x g =>
      have hx : 0 < x := gp x (List.mem_cons_self ..)
      have hd := Int.fdiv_nonneg (show 0 ≤ x by omega) (show 0 ≤ n by omega)
      refine ⟨x.fmod n, ((((st.set p (.lst [.ptr q, .int 0, .lst (sm.map .int), .int (c + 1)])).set q (.lst (g.map .int))).set p (.lst [.ptr q, .int x, .lst (sm.map .int), .int (c + 1)]))).set p (.lst [.ptr q, .int (x.fdiv n), .lst (sm.map .int), .int (c + 1)]), ?_, (fmod_in x h1).1, (fmod_in x h1).2, ⟨pq, g, sm, x.fdiv n, c + 1, ?_, ?_, hd, by omega, by omega, fun y hy => gp y (List.mem_cons_of_mem _ hy), by simp at gl; omega, sl⟩, by simp, fun m m1 m2 => ?_⟩
      · have hx' : ¬ x = 0 := by omega
        simp [F_law_take, g_law_take, hp, hq, atI, ixN, hx, hx', sp, sq, hn0, hlog, List.getElem?_set_ne pq, List.getElem?_set_ne qp, seqIndex?]
      · rw [List.getElem?_set_ne pq, List.getElem?_set_ne pq]; exact sq _ _ (by simp)
      · exact sp _ _ (by simp)
      · simp [List.getElem?_set_ne (Ne.symm m1), List.getElem?_set_ne (Ne.symm m2)]
    | nil =>
      have hS : (st.set p (.lst [.ptr q, .int 0, .lst (sm.map .int), .int (c + 1)]))[p]? = some (.lst [.ptr q, .int 0, .lst (sm.map .int), .int (c + 1)]) := sp _ _ rfl
      have hQ : (st.set p (.lst [.ptr q, .int 0, .lst (sm.map .int), .int (c + 1)]))[q]? = some (.lst []) := by rw [List.getElem?_set_ne pq]; exact hq
      have hl : (st.set p (.lst [.ptr q, .int 0, .lst (sm.map .int), .int (c + 1)])).length = st.length := by simp
      have hr : ∀ m, m ≠ p → m ≠ q → (st.set p (.lst [.ptr q, .int 0, .lst (sm.map .int), .int (c + 1)]))[m]? = st[m]? := fun m m1 m2 => List.getElem?_set_ne (Ne.symm m1)
      generalize hs : st.set p (.lst [.ptr q, .int 0, .lst (sm.map .int), .int (c + 1)]) = s at hS hQ hl hr
      have q7 : Nat.log2 7 + (c + 1).natAbs.log2 < 1000000 := mul_ok (i := 7) (a := 40) (b := 40) (by decide) (by omega) (by decide) (by decide) (by decide)
      have key : ∀ k : Int, ∃ f, 0 ≤ f ∧ f < n ∧ ((sSeq (sSetF 3 (dC (.int 0)))
          (sSeq (sSetF 4 (dC (.int 1)))
          (sSeq (sWhile wc_law_take_1 wb_law_take_2)
          (sRet (dOp oMod (dVar 3) (dVar 1)))))) ⟨[.val (.ptr p), .val (.int n), .val (.int k), .emp, .emp], s⟩) = .rt .P (.int f) s := fun k => by
        obtain ⟨f, r, hf, i, hi⟩ := take_loop (p := p) (st := s) (n := n) (c := c + 1) (k := k) h2 ⟨_, _, _, hS⟩ (by omega) (by omega) (n - 1).toNat 0 1 (by decide) (by decide) (by decide) (.inr rfl) (by omega)
        have hw := sWhile_eq hi
        refine ⟨f.fmod n, (fmod_in f h1).1, (fmod_in f h1).2, ?_⟩
        simp [hw, hn0]
      have fin : ∀ f, 0 ≤ f → f < n → F_law_take [.ptr p, .int n] st = .val .P (.int f) s → ∃ r st', F_law_take [.ptr p, .int n] st = .val .P (.int r) st' ∧ 0 ≤ r ∧ r < n ∧ Box p q (N + 1) st' ∧ Rest p q st st' := fun f h3 h4 h5 =>
        ⟨f, s, h5, h3, h4, ⟨pq, [], sm, 0, c + 1, hQ, hS, by decide, by omega, by omega, fun y hy => by simp at hy, by decide, sl⟩, hl, hr⟩
      cases sm with
      | nil =>
        obtain ⟨f, f0, f1, hf⟩ := key (7 * (c + 1))
        refine fin f f0 f1 ?_
        simp only [e_sSeq] at hf
        simp [F_law_take, g_law_take, hp, atI, ixN] at hf hs hS ⊢
        rw [hs]
        simp [hS, hQ, q7, hf, atI, ixN]
      | cons y sm =>
        have hL : (0 : Int) < ((y :: sm).length : Int) := by rw [List.length_cons]; omega
        have hfm := fmod_in (c + 1) hL
        obtain ⟨k, hk⟩ := atI_ok (l := (y :: sm).map D.int) (i := (c + 1).fmod ((y :: sm).length : Int)) hfm.1 (by rw [List.length_map]; exact hfm.2)
        have hk2 : ∃ z, k = .int z := by
          unfold atI at hk
          cases hx : ixN ((y :: sm).map D.int).length ((c + 1).fmod ((y :: sm).length : Int)) with
          | none => rw [hx] at hk; cases hk
          | some j =>
            rw [hx] at hk
            have hk' : ((y :: sm).map D.int)[j]? = some k := hk
            rw [List.getElem?_map] at hk'
            cases hj : (y :: sm)[j]? with
            | none => rw [hj] at hk'; cases hk'
            | some z => rw [hj] at hk'; exact ⟨z, (Option.some.inj hk').symm⟩
        obtain ⟨z, rfl⟩ := hk2
        obtain ⟨f, f0, f1, hf⟩ := key z
        refine fin f f0 f1 ?_
        generalize hY : y :: sm = Y at *
        have hY0 : 0 < Y.length := by rw [← hY]; simp
        have hYn : ¬ Y = [] := by rw [← hY]; simp
        have hY1 : ¬ (Y.length : Int) = 0 := by omega
        have a3 : ∀ X : D, atI [D.ptr q, .int 0, .lst (Y.map .int), X] 3 = some X := fun X => by simp [atI, ixN]
        have a2 : ∀ X : D, atI [D.ptr q, .int 0, .lst (Y.map .int), X] 2 = some (.lst (Y.map .int)) := fun X => by simp [atI, ixN]
        have a1 : ∀ X : D, atI [D.ptr q, .int 0, .lst (Y.map .int), X] 1 = some (.int 0) := fun X => by simp [atI, ixN]
        have a0' : ∀ X : D, atI [D.ptr q, .int 0, .lst (Y.map .int), X] 0 = some (.ptr q) := fun X => by simp [atI, ixN]
        have i3 : ixN 4 3 = some 3 := by decide
        simp only [e_sSeq] at hf
        simp [F_law_take, g_law_take, hp, a3, i3] at hf hs hS ⊢
        rw [hs]
        simp [hS, hQ, q7, hf, a0', a1, a2, a3, hY0, hYn, hk]
theorem keep_go (e : DE) (c f : En → ER) (v : Nat) (pr : Int → Bool) (hc : ∀ x st, c ⟨e.set v (.val (.int x)), st⟩ = .val .P (.bl (pr x)) st) (hf : ∀ x st, f ⟨e.set v (.val (.int x)), st⟩ = .val .P (.int x) st) :
    ∀ (ns : List Int) (st : Sto), lcGo (lcStep (tgN v) c f e) (ns.map .int) st = some ((ns.filter pr).map .int, st)
  | [], st => rfl
  | x :: ns, st => by
    rw [List.map_cons, e_lcC]
    have ih := keep_go e c f v pr hc hf ns st
    cases h : pr x with
    | true => simp [hc, hf, h, ih, List.filter_cons]
    | false => simp [hc, hf, h, ih, List.filter_cons]
theorem box_ok (ns : List Int) (hl : ns.length ≤ 63) : ∃ st, F_law_box [.scr ns] [] = .val .P (.ptr 1) st ∧ Box 1 0 0 st ∧ st.length = 2 := by
  have k1 := keep_go [SL.val (.scr ns), .emp, .emp] ct_law_box_2 ce_law_box_1 2 (fun x => decide (x ≥ 1000000000000000000)) (fun x st => by simp [q_ct_law_box_2]) (fun x st => by simp [q_ce_law_box_1]) ns []
  generalize hg : ns.filter (fun x => decide (x ≥ 1000000000000000000)) = g at k1
  have k2 := keep_go [SL.val (.scr ns), .val (.ptr 0), .emp] ct_law_box_4 ce_law_box_3 2 (fun x => decide (x < 1000000000000000000)) (fun x st => by simp [q_ct_law_box_4]) (fun x st => by simp [q_ce_law_box_3]) ns [.lst (g.map .int)]
  generalize hs : ns.filter (fun x => decide (x < 1000000000000000000)) = sm at k2
  have gl : g.length ≤ 63 := by rw [← hg]; exact Nat.le_trans (List.length_filter_le ..) hl
  have sl : sm.length ≤ 63 := by rw [← hs]; exact Nat.le_trans (List.length_filter_le ..) hl
  have gp : ∀ x ∈ g, 0 < x := fun x hx => by
    rw [← hg] at hx
    have := (List.mem_filter.mp hx).2
    have : x ≥ 1000000000000000000 := by simpa using this
    omega
  have hl' : ns.length ≤ 1000000 := by omega
  refine ⟨[.lst (g.map .int), .lst [.ptr 0, .int 0, .lst (sm.map .int), .int 0]], ?_, ⟨by decide, g, sm, 0, 0, rfl, rfl, by decide, by decide, by decide, gp, gl, sl⟩, rfl⟩
  simp only [F_law_box, g_law_box, e_fnD, e_startE, e_sSeq, e_sSetF, e_dPut, e_dLc, e_dIter, e_dVar, List.map_cons, List.map_nil, List.length_cons, List.length_nil, if_true, List.cons_append, List.nil_append, List.replicate, List.getElem?_cons_succ, List.getElem?_cons_zero, e_itR, List.length_map, hl', e_wipeC, e_wipe0, List.set_cons_succ, List.set_cons_zero, k1, ofOpt_some, Nat.reduceAdd, Nat.reduceSub, SR.bind_nx, e_sRet, e_dLst, e_aCons, e_aNil, e_dC, cons_P, k2, cons_N, acons_ok, Bool.and_self, Nat.reduceLeDiff, List.length_append, e_ret_rt]
theorem lt_bigN {i : Int} (h : i < 100000) : i < 2 ^ 1000 := Int.lt_of_lt_of_le h (by decide)
theorem popAt_okB {l : List D} {i : Int} {k : Nat} {d : D} (h0 : 0 ≤ i) (h1 : i < 100000) (hs : seqIndex? i l.length = some k) (hd : l[k]? = some d) : mPopAt l [.int i] = some (d, l.eraseIdx k) := by
  rw [e_mPopAt, if_pos (by omega), hs]
  simp [hd]
theorem Box.set {p q N n : Nat} {st : Sto} {o : Ob} (B : Box p q N st) (h1 : n ≠ p) (h2 : n ≠ q) : Box p q N (st.set n o) := by
  obtain ⟨pq, g, sm, a, c, hq, hp, r⟩ := B
  exact ⟨pq, g, sm, a, c, by rw [List.getElem?_set_ne h2]; exact hq, by rw [List.getElem?_set_ne h1]; exact hp, r⟩
theorem Box.appB {p q N : Nat} {st : Sto} {o : Sto} (h : Box p q N st) : Box p q N (st ++ o) := by
  obtain ⟨pq, g, sm, a, c, hq, hp, r⟩ := h
  have lp : p < st.length := (List.getElem?_eq_some_iff.mp hp).1
  have lq : q < st.length := (List.getElem?_eq_some_iff.mp hq).1
  exact ⟨pq, g, sm, a, c, by rw [List.getElem?_append_left lq]; exact hq, by rw [List.getElem?_append_left lp]; exact hp, r⟩
theorem Box.lts {p q N : Nat} {st : Sto} (h : Box p q N st) : p < st.length ∧ q < st.length := by
  obtain ⟨pq, g, sm, a, c, hq, hp, r⟩ := h
  exact ⟨(List.getElem?_eq_some_iff.mp hp).1, (List.getElem?_eq_some_iff.mp hq).1⟩
theorem half_go {p q : Nat} {e : DE} {kd : Int} (k1 : 1 ≤ kd) (k3 : kd ≤ 3) (he : ∃ y x3 x4 x5 x6, e = [.val (.ptr p), y, .val (.int kd), x3, x4, x5, x6]) : ∀ (l : List D) (N : Nat) (st : Sto), Box p q N st → N + l.length ≤ 90000 → ∃ (T : List Nat) (st' : Sto), lcGo (lcStep (tgN 6) (fun E => .val .P (.bl true) E.st) ce_law_beads_1 e) l st = some (T.map (fun c => .str ⟨#[c]⟩), st') ∧ abcs T ∧ T.length = l.length ∧ Box p q (N + l.length) st' ∧ Rest p q st st'
  | [], N, st, B, _ => ⟨[], st, rfl, (fun _ h => nomatch h), rfl, B, Rest.refl⟩
  | d :: l, N, st, B, hN => by
    have hN' : N + (l.length + 1) ≤ 90000 := by simpa using hN
    obtain ⟨r, st1, t1, r0, r1, B1, R1⟩ := take_ok B (n := kd) k1 (lt_bigN (by omega)) (by omega)
    obtain ⟨T, st2, h, ha, hl, B2, R2⟩ := half_go k1 k3 he l (N + 1) st1 B1 (by omega)
    obtain ⟨y, x3, x4, x5, x6, rfl⟩ := he
    have hat : ∃ c, atI ("abc" : Str).cps.toList r = some c ∧ (c = 97 ∨ c = 98 ∨ c = 99) := by
      have : r = 0 ∨ r = 1 ∨ r = 2 := by omega
      rcases this with rfl | rfl | rfl
      · exact ⟨97, rfl, by simp⟩
      · exact ⟨98, rfl, by simp⟩
      · exact ⟨99, rfl, by simp⟩
    obtain ⟨c, hat, hc⟩ := hat
    have hz : ("abc" : Str).length ≤ 1000000 := by decide
    refine ⟨c :: T, st2, ?_, fun x hx => ?_, by simp [hl], by rw [List.length_cons, show N + (l.length + 1) = N + 1 + l.length by omega]; exact B2, R1.trans R2⟩
    · rw [e_lcC]
      simp -implicitDefEqProofs [q_ce_law_beads_1, t1, hz, hat, h]
    · rcases List.mem_cons.mp hx with rfl | hx
      · exact hc
      · exact ha x hx
theorem beads_step {p n : Nat} {e1 e2 e3 e6 : SL} {LD LE : List D} {c z zz : Str} {st st1 : Sto} {ri : Int} (hn : st[n]? = some (.lst LD)) (hn1 : st1[n]? = some (.lst LD)) (t1 : F_law_take [.ptr p, .int (LD.length : Int)] st = .val .P (.int ri) st1) (hop : mPopAt LD [.int ri] = some (.str c, LE)) (hz1 : z.length + c.length ≤ 1000000) (hzz : z ++ c = zz) :
    wb_law_beads_3 ⟨[.val (.ptr p), e1, e2, e3, .val (.ptr n), .val (.str z), e6], st⟩ = .nx ⟨[.val (.ptr p), e1, e2, e3, .val (.ptr n), .val (.str zz), e6], st1.set n (.lst LE)⟩ := by
  rw [q_wb_law_beads_3]
  simp -implicitDefEqProofs [-e_mPopAt, hn, hn1, t1, hop, hz1, hzz]
theorem count_erase (x : Nat) : ∀ (L : List Nat) (i : Nat) (h : i < L.length), L.count x = (L.eraseIdx i).count x + [L[i]].count x
  | a :: l, 0, _ => by
    rw [List.eraseIdx_cons_zero, List.count_cons, List.count_singleton]; simp
  | a :: l, i + 1, h => by
    have ih := count_erase x l i (by simpa using h)
    rw [List.eraseIdx_cons_succ, List.count_cons, List.count_cons, ih]
    simp only [List.getElem_cons_succ]
    omega
theorem beads_loop {p q n : Nat} (np : n ≠ p) (nq : n ≠ q) {e1 e2 e3 e6 : SL} : ∀ (k : Nat) (L X : List Nat) (N : Nat) (st : Sto), L.length = k → Box p q N st → N + k ≤ 90000 → X.length + k ≤ 1000 → st[n]? = some (.lst (L.map fun c => .str ⟨#[c]⟩)) →
    ∃ (X' : List Nat) (st' : Sto), sWhile wc_law_beads_2 wb_law_beads_3 ⟨[.val (.ptr p), e1, e2, e3, .val (.ptr n), .val (.str (S X)), e6], st⟩ = .nx ⟨[.val (.ptr p), e1, e2, e3, .val (.ptr n), .val (.str (S X')), e6], st'⟩ ∧ (∀ x, X'.count x = X.count x + L.count x) ∧ X'.length = X.length + k ∧ Box p q (N + k) st' ∧ st'.length = st.length ∧ ∀ m, m ≠ p → m ≠ q → m ≠ n → st'[m]? = st[m]?
  | 0, L, X, N, st, hL, B, _, _, hn => by
    have : L = [] := List.length_eq_zero_iff.mp hL
    subst this
    refine ⟨X, st, while_end (m := .P) ?_, by simp, rfl, B, rfl, fun _ _ _ _ => rfl⟩
    simp -implicitDefEqProofs [q_wc_law_beads_2, hn]
  | k + 1, L, X, N, st, hL, B, hN, hX, hn => by
    obtain ⟨r, st1, t1, r0, r1, B1, R1⟩ := take_ok B (n := ((k + 1 : Nat) : Int)) (by omega) (lt_bigN (by omega)) (by omega)
    have hn1 : st1[n]? = some (.lst (L.map fun c => .str ⟨#[c]⟩)) := (R1.2 n np nq).trans hn
    obtain ⟨r', rfl⟩ := Int.eq_ofNat_of_zero_le r0
    have hr : r' < L.length := by omega
    have hln : n < st1.length := (List.getElem?_eq_some_iff.mp hn1).1
    have B2 : Box p q (N + 1) (st1.set n (.lst ((L.eraseIdx r').map fun c => .str ⟨#[c]⟩))) := B1.set np nq
    have hn2 : (st1.set n (.lst ((L.eraseIdx r').map fun c => .str ⟨#[c]⟩)))[n]? = some (.lst ((L.eraseIdx r').map fun c => .str ⟨#[c]⟩)) := by rw [List.getElem?_set_self hln]
    have hS1 : (⟨#[L[r']]⟩ : Str) = S [L[r']] := rfl
    have hzz : S X ++ (⟨#[L[r']]⟩ : Str) = S (X ++ [L[r']]) := by rw [hS1, S_app]
    obtain ⟨X', st', hw, hc, hl, B3, l3, k3⟩ := beads_loop np nq (e1 := e1) (e2 := e2) (e3 := e3) (e6 := e6) k (L.eraseIdx r') (X ++ [L[r']]) (N + 1) _ (by rw [List.length_eraseIdx, if_pos hr]; omega) B2 (by omega) (by simp; omega) hn2
    have hsq : seqIndex? (r' : Int) (k + 1) = some r' := by
      have h1 : ¬ (r' : Int) < 0 := by omega
      have h2 : r' < k + 1 := by omega
      simp [seqIndex?, h1, h2]
      omega
    have hget : (L.map fun c => D.str ⟨#[c]⟩)[r']? = some (.str ⟨#[L[r']]⟩) := by rw [List.getElem?_map, List.getElem?_eq_getElem hr]; rfl
    have hz1 : (S X).length + (⟨#[L[r']]⟩ : Str).length ≤ 1000000 := by rw [S_len, show (⟨#[L[r']]⟩ : Str).length = 1 from rfl]; omega
    have her : (L.map fun c => D.str ⟨#[c]⟩).eraseIdx r' = (L.eraseIdx r').map fun c => D.str ⟨#[c]⟩ := map_eraseIdx _ _ _
    have hLl : (L.map fun c => D.str ⟨#[c]⟩).length = k + 1 := by simp [hL]
    have hop : mPopAt (L.map fun c => D.str ⟨#[c]⟩) [.int (r' : Int)] = some (.str ⟨#[L[r']]⟩, (L.eraseIdx r').map fun c => D.str ⟨#[c]⟩) := by
      rw [← her]
      exact popAt_okB (by omega) (by omega) (by rw [hLl]; exact hsq) hget
    have t1' : F_law_take [.ptr p, .int ((L.map fun c => D.str ⟨#[c]⟩).length : Int)] st = .val .P (.int (r' : Int)) st1 := by rw [hLl]; exact t1
    have hwb := beads_step (e1 := e1) (e2 := e2) (e3 := e3) (e6 := e6) hn hn1 t1' hop hz1 hzz
    have hwc : wc_law_beads_2 ⟨[.val (.ptr p), e1, e2, e3, .val (.ptr n), .val (.str (S X)), e6], st⟩ = .val .P (.bl true) st := by
      have hp : (0 : Int) < ((L.map fun c => D.str ⟨#[c]⟩).length : Int) := by rw [hLl]; omega
      have hb : ((L.map fun c => D.str ⟨#[c]⟩).length : Int) < 9223372036854775808 := by rw [hLl]; omega
      clear hop t1' hwb her hget hn1 hn2
      generalize (L.map fun c => D.str ⟨#[c]⟩) = LD at *
      generalize S X = z at *
      have hp' : 0 < LD.length := by omega
      simp -implicitDefEqProofs [q_wc_law_beads_2, hn, hp, hp', hb]
    refine ⟨X', st', (while_nx hwc (.inl hwb)).trans hw, fun x => ?_, by rw [hl]; simp; omega, by rw [show N + (k + 1) = N + 1 + k by omega]; exact B3, by rw [l3, List.length_set, R1.1], fun m m1 m2 m3 => ?_⟩
    · rw [hc x, List.count_append]
      have e := count_erase x L r' hr
      omega
    · rw [k3 m m1 m2 m3, List.getElem?_set_ne (Ne.symm m3), R1.2 m m1 m2]
theorem beads_ok {p q N : Nat} {st : Sto} {mo : Nat} (B : Box p q N st) (hN : N ≤ 60000) (hm : mo ≤ 100) : ∃ T st', F_law_beads [.ptr p, .int (mo : Int)] st = .val .P (.str (S T)) st' ∧ Evn T ∧ T.length ≤ mo ∧ Box p q (N + 300) st' ∧ st'.length = st.length + 1 ∧ ∀ m, m < st.length → m ≠ p → m ≠ q → st'[m]? = st[m]? := by
  obtain ⟨kd, st1, t1, k0, k1, B1, R1⟩ := take_ok B (n := 3) (by decide) (by decide) (by omega)
  obtain ⟨hn, st2, t2, h0, h1, B2, R2⟩ := take_ok B1 (n := ((mo / 2 : Nat) : Int) + 1) (by omega) (lt_bigN (by omega)) (by omega)
  obtain ⟨n, rfl⟩ := Int.eq_ofNat_of_zero_le h0
  have hr : (rangeD 0 n).length = n := by simp [rangeD]
  obtain ⟨H, st3, h3, ha, hl, B3, R3⟩ := half_go (p := p) (kd := 1 + kd) (by omega) (by omega) (e := [.val (.ptr p), .val (.int (mo : Int)), .val (.int (1 + kd)), .emp, .emp, .emp, .emp]) ⟨_, _, _, _, _, rfl⟩ (rangeD 0 n) (N + 1 + 1) st2 B2 (by rw [hr]; omega)
  rw [hr] at hl B3
  have lt3 := B3.lts
  have B4 : Box p q (N + 1 + 1 + n) (st3 ++ [.lst ((H ++ H).map fun c => .str ⟨#[c]⟩)]) := B3.appB
  have hn4 : (st3 ++ [Ob.lst ((H ++ H).map fun c => .str ⟨#[c]⟩)])[st3.length]? = some (.lst ((H ++ H).map fun c => .str ⟨#[c]⟩)) := by simp
  obtain ⟨T, st5, hw, hc, hlT, B5, l5, k5⟩ := beads_loop (p := p) (q := q) (n := st3.length) (by omega) (by omega) (e1 := .val (.int (mo : Int))) (e2 := .val (.int (1 + kd))) (e3 := .val (.lst (H.map fun c => .str ⟨#[c]⟩))) (e6 := .emp) (n + n) (H ++ H) [] _ _ (by simp [hl]) B4 (by omega) (by simp; omega) hn4
  have hS0 : S [] = (Str.ofString "") := rfl
  rw [hS0] at hw
  have el3 : st3.length = st.length := by rw [R3.1, R2.1, R1.1]
  refine ⟨T, st5, ?_, ⟨fun c hcT => ?_, fun x _ => ?_⟩, by rw [hlT]; simp; omega, B5.up (by omega), by rw [l5]; simp [el3], fun m hm m1 m2 => ?_⟩
  · have hdv : oDiv (.int (mo : Int)) (.int 2) st1 = .val .P (.int ((mo / 2 : Nat) : Int)) st1 := by
      have e : ((mo : Nat) : Int).fdiv 2 = ((mo / 2 : Nat) : Int) := by
        rw [Int.fdiv_eq_ediv_of_nonneg _ (by decide)]; omega
      rw [e_oDiv_1, if_pos (by decide), e]
    have hsrc : dRng rng1 (aCons (dCall F_law_take (aCons (dVar 0) (aCons (dOp oAdd (dOp oDiv (dVar 1) (dC (.int 2))) (dC (.int 1))) aNil))) aNil) ⟨[.val (.ptr p), .val (.int (mo : Int)), .val (.int (1 + kd)), .emp, .emp, .emp, .emp], st1⟩ = .ok true (rangeD 0 n) st2 := dRng_of (p := true) (l := [.int (n : Int)]) (by
      generalize ((mo / 2 : Nat) : Int) = m2 at *
      generalize (mo : Int) = m0 at *
      simp -implicitDefEqProofs [hdv, t2, -e_oDiv_1]) (rng1_nat (by omega))
    have hr2 : (rangeD 0 n).length ≤ 1000000 := by rw [hr]; omega
    have hlc : dLc (dRng rng1 (aCons (dCall F_law_take (aCons (dVar 0) (aCons (dOp oAdd (dOp oDiv (dVar 1) (dC (.int 2))) (dC (.int 1))) aNil))) aNil)) (tgN 6) (fun E => .val .P (.bl true) E.st) ce_law_beads_1 [6] ⟨[.val (.ptr p), .val (.int (mo : Int)), .val (.int (1 + kd)), .emp, .emp, .emp, .emp], st1⟩ = .val .N (.lst (H.map fun c => .str ⟨#[c]⟩)) st3 := by
      rw [e_dLc, hsrc]
      have hw : wipeE [SL.val (.ptr p), .val (.int (mo : Int)), .val (.int (1 + kd)), .emp, .emp, .emp, .emp] [6] = [SL.val (.ptr p), .val (.int (mo : Int)), .val (.int (1 + kd)), .emp, .emp, .emp, .emp] := rfl
      simp only [hw, hr2, if_true, h3, ofOpt_some]
    have hll : (H.map fun c => D.str ⟨#[c]⟩).length + (H.map fun c => D.str ⟨#[c]⟩).length ≤ 1000000 := by simp [hl]; omega
    have hap : (H ++ H).map (fun c => D.str ⟨#[c]⟩) = (H.map fun c => D.str ⟨#[c]⟩) ++ (H.map fun c => D.str ⟨#[c]⟩) := List.map_append
    rw [hap] at hw
    clear hsrc hap
    generalize (H.map fun c => D.str ⟨#[c]⟩) = HD at *
    generalize (mo : Int) = m0 at *
    simp -implicitDefEqProofs [F_law_beads, g_law_beads, t1, hlc, hll, hw, -e_dLc]
  · have h : 0 < T.count c := List.count_pos_iff.mpr hcT
    rw [hc c, List.count_append] at h
    have : c ∈ H := by
      apply Classical.byContradiction
      intro hn
      have := List.count_eq_zero.mpr hn
      simp at h
      omega
    exact ha c this
  · rw [hc x, List.count_append]; simp; omega
  · have h1 : m ≠ st3.length := by omega
    rw [k5 m m1 m2 h1, List.getElem?_append_left (by omega), R3.2 m m1 m2, R2.2 m m1 m2, R1.2 m m1 m2]
theorem stL {st : Sto} {n : Nat} {l : List D} (h : st[n]? = some (.lst l)) : stLst st n = some l := by unfold stLst; rw [h]
def CutArg (st : Sto) (d : D) (cs : List Nat) : Prop := d = .lst (cs.map dN) ∨ ∃ n, d = .ptr n ∧ st[n]? = some (.lst (cs.map dN))
theorem inL_nat (p : Nat) (cs : List Nat) : inL (.int (p : Int)) (cs.map dN) = some (decide (p ∈ cs)) := inL_pur (enc := dN) (fun _ => rfl) (fun _ => by simp [dep]) (fun a b h => by injection h with h; omega) p cs
theorem CutArg.inn {st : Sto} {d : D} {cs : List Nat} (h : CutArg st d cs) (p : Nat) : oIn (.int (p : Int)) d st = .val .P (.bl (decide (p ∈ cs))) st := by
  have i := inL_nat p cs
  rcases h with rfl | ⟨n, rfl, h⟩
  · rw [e_oIn_1, i]; rfl
  · rw [e_oIn_2, stL h, ofOpt_some, i]; rfl
theorem CutArg.keep {st st' : Sto} {d : D} {cs : List Nat} (h : CutArg st d cs) (k : ∀ m, m < st.length → st'[m]? = st[m]?) : CutArg st' d cs := by
  rcases h with rfl | ⟨n, rfl, h⟩
  · exact .inl rfl
  · exact .inr ⟨n, rfl, (k n (List.getElem?_eq_some_iff.mp h).1).trans h⟩
def lix (c : Nat) : Nat := c - 97
theorem lix_ok {c : Nat} (h : c = 97 ∨ c = 98 ∨ c = 99) (st : Sto) : msIndex (Str.ofString "abc") [.str ⟨#[c]⟩] st = .val .P (.int ((lix c : Nat) : Int)) st := by
  have i1 : Txt.index0 (Str.ofString "abc") ⟨#[97]⟩ = some 0 := by decide +kernel
  have i2 : Txt.index0 (Str.ofString "abc") ⟨#[98]⟩ = some 1 := by decide +kernel
  have i3 : Txt.index0 (Str.ofString "abc") ⟨#[99]⟩ = some 2 := by decide +kernel
  unfold msIndex
  rcases h with rfl | rfl | rfl
  · simp only [i1]; rfl
  · simp only [i2]; rfl
  · simp only [i3]; rfl
def cnt3 (f : Nat → Int) : List D := [.int (f 97), .int (f 98), .int (f 99)]
def inc (c : Nat) (f : Nat → Int) : Nat → Int := fun x => if x = c then f x + 1 else f x
theorem cnt3_inc {c : Nat} (h : c = 97 ∨ c = 98 ∨ c = 99) (f : Nat → Int) : (cnt3 f).set (lix c) (.int (f c + 1)) = cnt3 (inc c f) := by
  rcases h with rfl | rfl | rfl <;> simp [cnt3, inc, lix]
theorem cnt3_get {c : Nat} (h : c = 97 ∨ c = 98 ∨ c = 99) (f : Nat → Int) : (cnt3 f)[lix c]? = some (.int (f c)) := by
  rcases h with rfl | rfl | rfl <;> simp [cnt3, lix]
theorem ix3 {c : Nat} (h : c = 97 ∨ c = 98 ∨ c = 99) : ixN 3 ((lix c : Nat) : Int) = some (lix c) := by
  rcases h with rfl | rfl | rfl <;> rfl
theorem aug_ok {m c : Nat} {f : Nat → Int} {fb : En → ER} {e : DE} {st : Sto} {i : Nat} (hc : c = 97 ∨ c = 98 ∨ c = 99) (hb : fb ⟨e, st⟩ = .val .P (.ptr m) st) (hm : st[m]? = some (.lst (cnt3 f))) (he : e[i]? = some (.val (.str ⟨#[c]⟩))) :
    sAugP (fun i j => i + j) fb (dMs msIndex (dC (.str (Str.ofString "abc"))) (aCons (dVar i) aNil)) (dC (.int 1)) ⟨e, st⟩ = .nx ⟨e, st.set m (.lst (cnt3 (inc c f)))⟩ := by
  have li := lix_ok hc st
  have g := cnt3_get hc f
  have s := cnt3_inc hc f
  have x3 := ix3 hc
  have hl : (cnt3 f).length = 3 := rfl
  have l0 : (0 : Int) ≤ ((lix c : Nat) : Int) := by omega
  rw [← hl] at x3
  have hfi : dMs msIndex (dC (.str (Str.ofString "abc"))) (aCons (dVar i) aNil) ⟨e, st⟩ = .val .P (.int ((lix c : Nat) : Int)) st := by
    generalize (⟨#[c]⟩ : Str) = w at *
    generalize ((lix c : Nat) : Int) = k at *
    simp -implicitDefEqProofs [he, li]
  have hst := stL hm
  rw [e_sAugP, hb]
  simp only
  rw [hfi]
  simp only
  rw [if_pos l0, hst]
  simp only
  rw [x3]
  simp only
  rw [g]
  simp only [e_dC]
  rw [hst]
  simp only
  rw [x3]
  simp only
  rw [s]
theorem hands_step {v0 d : D} {a b c p : Nat} {A B : Nat → Int} {cs : List Nat} {st : Sto} {e4 e5 : SL} {t : Nat} (ht : t ≤ 1) (hab : a ≠ b) (hd : CutArg st d cs) (hc : c = 97 ∨ c = 98 ∨ c = 99) (ha : st[a]? = some (.lst (cnt3 A))) (hb : st[b]? = some (.lst (cnt3 B))) :
    ∃ t' st', t' ≤ 1 ∧ t' = (if p ∈ cs then 1 - t else t) ∧ tgB (tgT 2 (tgsCons (tgN 4) (tgsCons (tgN 5) tgsNil))) fb_law_hands_1 (.tup [.int (p : Int), .str ⟨#[c]⟩]) ⟨[.val v0, .val d, .val (.lst [.ptr a, .ptr b]), .val (.int (t : Int)), e4, e5], st⟩ = .nx ⟨[.val v0, .val d, .val (.lst [.ptr a, .ptr b]), .val (.int (t' : Int)), .val (.int (p : Int)), .val (.str ⟨#[c]⟩)], st'⟩ ∧
      (t' = 0 ∧ st' = st.set a (.lst (cnt3 (inc c A))) ∨ t' = 1 ∧ st' = st.set b (.lst (cnt3 (inc c B)))) := by
  have i := hd.inn p
  have fin : ∀ t', t' ≤ 1 → ∃ st', (sAugP (fun i j => i + j) (dOp oIx (dVar 2) (dVar 3)) (dMs msIndex (dC (.str (Str.ofString "abc"))) (aCons (dVar 5) aNil)) (dC (.int 1))) ⟨[.val v0, .val d, .val (.lst [.ptr a, .ptr b]), .val (.int ((t' : Nat) : Int)), .val (.int (p : Int)), .val (.str ⟨#[c]⟩)], st⟩ = .nx ⟨[.val v0, .val d, .val (.lst [.ptr a, .ptr b]), .val (.int ((t' : Nat) : Int)), .val (.int (p : Int)), .val (.str ⟨#[c]⟩)], st'⟩ ∧ (t' = 0 ∧ st' = st.set a (.lst (cnt3 (inc c A))) ∨ t' = 1 ∧ st' = st.set b (.lst (cnt3 (inc c B)))) := fun t' h => by
    rcases (show t' = 0 ∨ t' = 1 by omega) with rfl | rfl
    · have i0 : atI [D.ptr a, D.ptr b] 0 = some (.ptr a) := rfl
      exact ⟨_, aug_ok hc (by simp [i0]) ha rfl, .inl ⟨rfl, rfl⟩⟩
    · have i0 : atI [D.ptr a, D.ptr b] 1 = some (.ptr b) := rfl
      exact ⟨_, aug_ok hc (by simp [i0]) hb rfl, .inr ⟨rfl, rfl⟩⟩
  by_cases h : p ∈ cs
  · obtain ⟨st', f1, f2⟩ := fin (1 - t) (by omega)
    refine ⟨1 - t, st', by omega, by rw [if_pos h], ?_, f2⟩
    rw [decide_eq_true h] at i
    have e1 : (1 : Int) - (t : Int) = ((1 - t : Nat) : Int) := by omega
    generalize ((1 - t : Nat) : Int) = k at *
    generalize (t : Int) = t0 at *
    generalize (p : Int) = p0 at *
    generalize (⟨#[c]⟩ : Str) = w at *
    simp -implicitDefEqProofs [q_fb_law_hands_1, i, e1, -e_sAugP]
    exact f1
  · obtain ⟨st', f1, f2⟩ := fin t ht
    refine ⟨t, st', ht, by rw [if_neg h], ?_, f2⟩
    rw [decide_eq_false h] at i
    generalize (t : Int) = t0 at *
    generalize (p : Int) = p0 at *
    generalize (⟨#[c]⟩ : Str) = w at *
    simp -implicitDefEqProofs [q_fb_law_hands_1, i, -e_sAugP]
    exact f1
def sgnT (t : Nat) : Int := if t = 0 then 1 else -1
theorem hands_loop {v0 d : D} {a b : Nat} (hab : a ≠ b) {cs : List Nat} : ∀ (L : List Nat) (p : Nat) (A B : Nat → Int) (t : Nat) (e4 e5 : SL) (st : Sto), t ≤ 1 → abcs L → CutArg st d cs → d ≠ .ptr a → d ≠ .ptr b → st[a]? = some (.lst (cnt3 A)) → st[b]? = some (.lst (cnt3 B)) →
    ∃ A' B' e3' e4' e5' st', forD (tgB (tgT 2 (tgsCons (tgN 4) (tgsCons (tgN 5) tgsNil))) fb_law_hands_1) (enumD p (L.map fun c => .str ⟨#[c]⟩)) ⟨[.val v0, .val d, .val (.lst [.ptr a, .ptr b]), .val (.int (t : Int)), e4, e5], st⟩ = .nx ⟨[.val v0, .val d, .val (.lst [.ptr a, .ptr b]), e3', e4', e5'], st'⟩ ∧
      st'[a]? = some (.lst (cnt3 A')) ∧ st'[b]? = some (.lst (cnt3 B')) ∧ (∀ x, A' x - B' x = A x - B x + bal x cs (sgnT t) p L) ∧ (∀ x, A' x + B' x = A x + B x + L.count x) ∧ st'.length = st.length ∧ ∀ m, m ≠ a → m ≠ b → st'[m]? = st[m]?
  | [], p, A, B, t, e4, e5, st, _, _, _, _, _, ha, hb => ⟨A, B, _, e4, e5, st, rfl, ha, hb, fun x => by simp [bal], fun x => by simp, rfl, fun _ _ _ => rfl⟩
  | c :: L, p, A, B, t, e4, e5, st, ht, hL, hd, da, db, ha, hb => by
    have hc := hL c (List.mem_cons_self ..)
    obtain ⟨t', st1, ht', et, s1, s2⟩ := hands_step (v0 := v0) (e4 := e4) (e5 := e5) (p := p) ht hab hd hc ha hb
    have la : a < st.length := (List.getElem?_eq_some_iff.mp ha).1
    have lb : b < st.length := (List.getElem?_eq_some_iff.mp hb).1
    have sg : sgnT t' = if p ∈ cs then -(sgnT t) else sgnT t := by
      rw [et]
      by_cases h : p ∈ cs
      · rw [if_pos h, if_pos h]
        rcases (show t = 0 ∨ t = 1 by omega) with rfl | rfl <;> decide
      · rw [if_neg h, if_neg h]
    have go : ∀ (A1 B1 : Nat → Int), st1[a]? = some (.lst (cnt3 A1)) → st1[b]? = some (.lst (cnt3 B1)) → (∀ x, A1 x - B1 x = A x - B x + if c = x then sgnT t' else 0) → (∀ x, A1 x + B1 x = A x + B x + if c = x then 1 else 0) → st1.length = st.length → (∀ m, m ≠ a → m ≠ b → st1[m]? = st[m]?) →
        ∃ A' B' e3' e4' e5' st', forD (tgB (tgT 2 (tgsCons (tgN 4) (tgsCons (tgN 5) tgsNil))) fb_law_hands_1) (enumD p ((c :: L).map fun c => .str ⟨#[c]⟩)) ⟨[.val v0, .val d, .val (.lst [.ptr a, .ptr b]), .val (.int (t : Int)), e4, e5], st⟩ = .nx ⟨[.val v0, .val d, .val (.lst [.ptr a, .ptr b]), e3', e4', e5'], st'⟩ ∧
          st'[a]? = some (.lst (cnt3 A')) ∧ st'[b]? = some (.lst (cnt3 B')) ∧ (∀ x, A' x - B' x = A x - B x + bal x cs (sgnT t) p (c :: L)) ∧ (∀ x, A' x + B' x = A x + B x + (c :: L).count x) ∧ st'.length = st.length ∧ ∀ m, m ≠ a → m ≠ b → st'[m]? = st[m]? := fun A1 B1 a1 b1 df sm l1 k1 => by
      have hd1 : CutArg st1 d cs := by
        rcases hd with rfl | ⟨n, rfl, h⟩
        · exact .inl rfl
        · exact .inr ⟨n, rfl, (k1 n (fun z => da (by rw [z])) (fun z => db (by rw [z]))).trans h⟩
      obtain ⟨A', B', e3', e4', e5', st', h1, h2, h3, h4, h5, h6, h7⟩ := hands_loop hab (v0 := v0) L (p + 1) A1 B1 t' (.val (.int (p : Int))) (.val (.str ⟨#[c]⟩)) st1 ht' (fun x m => hL x (List.mem_cons_of_mem _ m)) hd1 da db a1 b1
      refine ⟨A', B', e3', e4', e5', st', ?_, h2, h3, fun x => ?_, fun x => ?_, by rw [h6, l1], fun m m1 m2 => by rw [h7 m m1 m2, k1 m m1 m2]⟩
      · rw [List.map_cons, enumD, e_forC, s1]
        exact h1
      · rw [h4 x, df x, bal, ← sg]; omega
      · rw [h5 x, sm x, List.count_cons]
        by_cases e : c = x
        · simp [e]; omega
        · simp [e]
    rcases s2 with ⟨t0, rfl⟩ | ⟨t1, rfl⟩
    · refine go (inc c A) B (List.getElem?_set_self la) (by rw [List.getElem?_set_ne hab]; exact hb) (fun x => ?_) (fun x => ?_) (by simp) (fun m m1 m2 => List.getElem?_set_ne (Ne.symm m1))
      · rw [t0]; unfold inc sgnT
        by_cases e : c = x
        · rw [if_pos e.symm, if_pos e]; simp; omega
        · rw [if_neg (fun z => e z.symm), if_neg e]; omega
      · unfold inc
        by_cases e : c = x
        · rw [if_pos e.symm, if_pos e]; omega
        · rw [if_neg (fun z => e z.symm), if_neg e]; omega
    · refine go A (inc c B) (by rw [List.getElem?_set_ne (Ne.symm hab)]; exact ha) (List.getElem?_set_self lb) (fun x => ?_) (fun x => ?_) (by simp) (fun m m1 m2 => List.getElem?_set_ne (Ne.symm m2))
      · rw [t1]; unfold inc sgnT
        by_cases e : c = x
        · rw [if_pos e.symm, if_pos e]; simp; omega
        · rw [if_neg (fun z => e z.symm), if_neg e]; omega
      · unfold inc
        by_cases e : c = x
        · rw [if_pos e.symm, if_pos e]; omega
        · rw [if_neg (fun z => e z.symm), if_neg e]; omega
theorem hands_ok {T cs : List Nat} {d : D} {st : Sto} (hT : abcs T) (hd : CutArg st d cs) : ∃ A B st', F_law_hands [.str (S T), d] st = .val .P (.lst [.ptr st.length, .ptr (st.length + 1)]) st' ∧ st'[st.length]? = some (.lst (cnt3 A)) ∧ st'[st.length + 1]? = some (.lst (cnt3 B)) ∧ (∀ x, A x - B x = bal x cs 1 0 T) ∧ (∀ x, A x + B x = T.count x) ∧ st'.length = st.length + 2 ∧ ∀ m, m < st.length → st'[m]? = st[m]? := by
  have hd0 : CutArg (st ++ [.lst (cnt3 fun _ => 0), .lst (cnt3 fun _ => 0)]) d cs := hd.keep fun m h => List.getElem?_append_left h
  have nd : ∀ m, st.length ≤ m → d ≠ .ptr m := fun m hm z => by
    rcases hd with rfl | ⟨n, rfl, h⟩
    · cases z
    · injection z with z
      have := (List.getElem?_eq_some_iff.mp h).1
      omega
  obtain ⟨A, B, e3, e4, e5, st', h1, h2, h3, h4, h5, h6, h7⟩ := hands_loop (a := st.length) (b := st.length + 1) (by omega) (v0 := .str (S T)) T 0 (fun _ => 0) (fun _ => 0) 0 .emp .emp (st ++ [.lst (cnt3 fun _ => 0), .lst (cnt3 fun _ => 0)]) (by decide) hT hd0 (nd _ (by omega)) (nd _ (by omega)) (by simp) (by simp)
  refine ⟨A, B, st', ?_, h2, h3, fun x => by rw [h4 x]; simp [sgnT], fun x => by rw [h5 x]; simp, by rw [h6]; simp, fun m hm => by rw [h7 m (by omega) (by omega), List.getElem?_append_left hm]⟩
  have e : ∀ st, dEnumS (aCons (dVar 0) aNil) ⟨[.val (.str (S T)), .val d, .val (.lst [.ptr st.length, .ptr (st.length + 1)]), .val (.int 0), .emp, .emp], st ++ [.lst (cnt3 fun _ => 0), .lst (cnt3 fun _ => 0)]⟩ = .ok true (enumD 0 (T.map fun c => D.str ⟨#[c]⟩)) (st ++ [.lst (cnt3 fun _ => 0), .lst (cnt3 fun _ => 0)]) := fun st => by
    have q : (S T).cps.toList = T := S_cps T
    generalize S T = z at *
    simp [q]
  have hs := (sFor_of (t := tgT 2 (tgsCons (tgN 4) (tgsCons (tgN 5) tgsNil))) (b := fb_law_hands_1) (e st)).trans h1
  have c0 : cnt3 (fun _ => 0) = [.int 0, .int 0, .int 0] := rfl
  rw [c0] at hs
  clear h1 e h2 h3 h4 h5 h6 h7 hd0
  generalize hn1 : st.length = n1 at *
  generalize S T = z at *
  simp -implicitDefEqProofs [F_law_hands, g_law_hands, hn1, hs, -e_sFor]
theorem CutArg.ix {st : Sto} {d : D} {cs : List Nat} (h : CutArg st d cs) {i c : Nat} (hc : cs[i]? = some c) : oIx d (.int (i : Int)) st = .val .P (.int (c : Int)) st := by
  have a : atI (cs.map dN) (i : Int) = some (.int (c : Int)) := atI_nat (by rw [List.getElem?_map, hc]; rfl)
  rcases h with rfl | ⟨n, rfl, h⟩
  · simp [a]
  · simp [h, a]
theorem CutArg.len {st : Sto} {d : D} {cs : List Nat} (h : CutArg st d cs) (hl : cs.length ≤ 1000) : oLen [d] st = .val .P (.int (cs.length : Nat)) st := by
  have e : (cs.map dN).length = cs.length := List.length_map _
  have b : 0 ≤ (cs.length : Int) ∧ (cs.length : Int) < 9223372036854775808 := by omega
  have c : cs.length ≤ 1000000 := by omega
  rcases h with rfl | ⟨n, rfl, h⟩
  · generalize cs.map dN = CD at *
    simp [e, b, c]
  · generalize cs.map dN = CD at *
    simp [h, e, b, c]
section
variable {T cs : List Nat} {d : D} {st : Sto}
theorem lic_step (hT : T.length ≤ 1000) (hd : CutArg st d cs) {k c : Nat} (h1 : 1 ≤ c) (h2 : c < T.length) (hp : k = 0 ∨ ∃ p, cs[k - 1]? = some p ∧ p < c) {e2 e3 : SL} :
    tgB (tgT 2 (tgsCons (tgN 2) (tgsCons (tgN 3) tgsNil))) fb_law_is_cuts_1 (.tup [.int (k : Int), .int (c : Int)]) ⟨[.val (.str (S T)), .val d, e2, e3], st⟩ = .nx ⟨[.val (.str (S T)), .val d, .val (.int (k : Int)), .val (.int (c : Int))], st⟩ := by
  have hl : T.length ≤ 1000000 := by omega
  have hsl : (S T).length = T.length := S_len T
  have n1 : ¬ ((c : Int) < 1) := by omega
  have n2 : ¬ ((T.length : Int) ≤ (c : Int)) := by omega
  rcases hp with rfl | ⟨p, hp, hpc⟩
  · generalize S T = z at *
    generalize (c : Int) = c0 at *
    simp -implicitDefEqProofs [q_fb_law_is_cuts_1, kit_ii, kit_ib, n1, n2, hl, hsl]
  · by_cases k0 : k = 0
    · subst k0
      generalize S T = z at *
      generalize (c : Int) = c0 at *
      simp -implicitDefEqProofs [q_fb_law_is_cuts_1, kit_ii, kit_ib, n1, n2, hl, hsl]
    · have ix := hd.ix hp
      have e : ((k - 1 : Nat) : Int) = (k : Int) - 1 := by omega
      rw [e] at ix
      have k1 : (0 : Int) < (k : Int) := by omega
      have n3 : ¬ ((c : Int) ≤ (p : Int)) := by omega
      generalize S T = z at *
      generalize (c : Int) = c0 at *
      generalize (k : Int) = k0 at *
      generalize (p : Int) = p0 at *
      simp -implicitDefEqProofs [q_fb_law_is_cuts_1, kit_ii, kit_ib, n1, n2, hl, hsl, k1, ix, n3]
theorem okCuts_at {n : Nat} : ∀ {h : Nat} {cs : List Nat}, okCuts n h cs → ∀ {k c : Nat}, cs[k]? = some c → h < c ∧ c < n ∧ (k = 0 ∨ ∃ p, cs[k - 1]? = some p ∧ p < c)
  | h, c :: cs, ⟨h1, h2, h3⟩, 0, d, e => by
    simp at e
    subst e
    exact ⟨h1, h2, .inl rfl⟩
  | h, c :: cs, ⟨h1, h2, h3⟩, k + 1, d, e => by
    rw [List.getElem?_cons_succ] at e
    obtain ⟨a, b, q⟩ := okCuts_at h3 e
    refine ⟨by omega, b, .inr ?_⟩
    rcases q with rfl | ⟨p, hp, hpc⟩
    · exact ⟨c, rfl, a⟩
    · by_cases k0 : k = 0
      · subst k0; exact ⟨c, rfl, a⟩
      · refine ⟨p, ?_, hpc⟩
        rw [show k + 1 - 1 = k - 1 + 1 by omega, List.getElem?_cons_succ]
        exact hp
theorem lic_loop (hT : T.length ≤ 1000) (ok : okCuts T.length 0 cs) (hd : CutArg st d cs) : ∀ (rest done : List Nat) (e2 e3 : SL), cs = done ++ rest →
    ∃ e2' e3', forD (tgB (tgT 2 (tgsCons (tgN 2) (tgsCons (tgN 3) tgsNil))) fb_law_is_cuts_1) (enumD done.length (rest.map dN)) ⟨[.val (.str (S T)), .val d, e2, e3], st⟩ = .nx ⟨[.val (.str (S T)), .val d, e2', e3'], st⟩ ∧
      ∀ n L, stLst st n = some L → forPD n L (tgB (tgT 2 (tgsCons (tgN 2) (tgsCons (tgN 3) tgsNil))) fb_law_is_cuts_1) (enumD done.length (rest.map dN)) ⟨[.val (.str (S T)), .val d, e2, e3], st⟩ = .nx ⟨[.val (.str (S T)), .val d, e2', e3'], st⟩
  | [], done, e2, e3, _ => ⟨e2, e3, rfl, fun n L h => by
    show forPD n L _ [] _ = _
    unfold forPD
    rw [if_pos h]⟩
  | c :: rest, done, e2, e3, e => by
    have hc : cs[done.length]? = some c := by rw [e]; simp
    obtain ⟨a, b, q⟩ := okCuts_at ok hc
    have s := lic_step (e2 := e2) (e3 := e3) hT hd (by omega) b q
    obtain ⟨e2', e3', ih, ih2⟩ := lic_loop hT ok hd rest (done ++ [c]) (.val (.int (done.length : Int))) (.val (.int (c : Int))) (by rw [e]; simp)
    rw [List.length_append, List.length_singleton] at ih ih2
    refine ⟨e2', e3', ?_, fun n L h => ?_⟩
    · rw [List.map_cons, enumD, e_forC, s]
      exact ih
    · rw [List.map_cons, enumD]
      unfold forPD
      rw [if_pos h, s]
      exact ih2 n L h
end
theorem fmS_mem (val : Nat → Str) : ∀ {n i : Nat}, i < n → val i ∈ fmS val n
  | n + 1, i, h => by
    rw [fmS_succ]
    unfold ddS
    by_cases e : i = n
    · subst e
      split
      · rename_i q
        obtain ⟨y, hy, ey⟩ := List.any_eq_true.mp q
        rw [eq_of_beq ey] at hy
        exact hy
      · simp
    · have ih := fmS_mem val (show i < n by omega)
      split
      · exact ih
      · exact List.mem_append_left _ ih
theorem kind_mem {T : List Nat} {c : Nat} (h : c ∈ T) : (⟨#[c]⟩ : Str) ∈ fmS (sgn (S T)) (S T).cps.size := by
  obtain ⟨i, hi, e⟩ := List.getElem_of_mem h
  have hs : (S T).cps.size = T.length := by
    have := congrArg List.length (S_cps T)
    simpa using this
  have m := fmS_mem (sgn (S T)) (n := (S T).cps.size) (i := i) (by omega)
  have e2 : sgn (S T) i = ⟨#[c]⟩ := by
    have g : (S T).cps[i]? = some c := by
      rw [← Array.getElem?_toList, S_cps, List.getElem?_eq_getElem hi, e]
    unfold sgn
    rw [Array.getD_eq_getD_getElem?, g] <;> rfl
  rw [e2] at m
  exact m
theorem two_in {α : Type} {l : List α} {a b : α} (h : a ≠ b) (ha : a ∈ l) (hb : b ∈ l) : 2 ≤ l.length := by
  match l, ha, hb with
  | [x], ha, hb =>
    have h1 := List.mem_singleton.mp ha
    have h2 := List.mem_singleton.mp hb
    exact absurd (h1.trans h2.symm) h
  | _ :: _ :: _, _, _ => simp
theorem three_in {α : Type} {l : List α} {a b c : α} (h1 : a ≠ b) (h2 : a ≠ c) (h3 : b ≠ c) (ha : a ∈ l) (hb : b ∈ l) (hc : c ∈ l) : 3 ≤ l.length := by
  match l, ha, hb, hc with
  | [x], ha, hb, hc => exact absurd ((List.mem_singleton.mp ha).trans (List.mem_singleton.mp hb).symm) h1
  | [x, y], ha, hb, hc =>
    simp only [List.mem_cons, List.not_mem_nil, or_false] at ha hb hc
    rcases ha with rfl | rfl <;> rcases hb with rfl | rfl <;> rcases hc with rfl | rfl <;> contradiction
  | _ :: _ :: _ :: _, _, _, _ => simp
theorem kinds_ok {T cs : List Nat} (E : Evn T) (F : Fw T cs) : cs.length ≤ kindsS (S T) := by
  unfold kindsS
  have ne : ∀ {x y : Nat}, x ≠ y → (⟨#[x]⟩ : Str) ≠ ⟨#[y]⟩ := fun h z => h (by injection z with z; simpa using z)
  have pos : ∀ {x : Nat}, T.count x ≠ 0 → (⟨#[x]⟩ : Str) ∈ fmS (sgn (S T)) (S T).cps.size := fun h => kind_mem (List.count_pos_iff.mp (by omega))
  by_cases h0 : T.length = 0
  · have : T = [] := List.length_eq_zero_iff.mp h0
    subst this
    have := F.least [] trivial (fun x _ => by simp [segs, alt])
    simp at this
    simp [this]
  · have hp : 0 < T.length := by omega
    have one : ∀ {y z : Nat}, (y = 97 ∨ y = 98 ∨ y = 99) → (z = 97 ∨ z = 98 ∨ z = 99) → y ≠ z → T.count y = 0 → T.count z = 0 → cs.length ≤ (fmS (sgn (S T)) (S T).cps.size).length := fun hy hz hyz h1 h2 => by
      obtain ⟨cs', o, b, l⟩ := neck_1 E hp hy hz hyz h1 h2
      have le := F.least cs' o b
      cases T with
      | nil => simp at hp
      | cons c T' =>
        have := List.length_pos_of_mem (kind_mem (T := c :: T') (List.mem_cons_self ..))
        omega
    have two : ∀ {z x y : Nat}, (z = 97 ∨ z = 98 ∨ z = 99) → T.count z = 0 → x ≠ y → T.count x ≠ 0 → T.count y ≠ 0 → cs.length ≤ (fmS (sgn (S T)) (S T).cps.size).length := fun hz h1 hxy hx hy => by
      obtain ⟨cs', o, b, _, l⟩ := neck_2 E hp hz h1
      have le := F.least cs' o b
      have := two_in (ne hxy) (pos hx) (pos hy)
      omega
    by_cases ha : T.count 97 = 0
    · by_cases hb : T.count 98 = 0
      · exact one (.inl rfl) (.inr (.inl rfl)) (by decide) ha hb
      · by_cases hc : T.count 99 = 0
        · exact one (.inl rfl) (.inr (.inr rfl)) (by decide) ha hc
        · exact two (.inl rfl) ha (show 98 ≠ 99 by decide) hb hc
    · by_cases hb : T.count 98 = 0
      · by_cases hc : T.count 99 = 0
        · exact one (.inr (.inl rfl)) (.inr (.inr rfl)) (by decide) hb hc
        · exact two (.inr (.inl rfl)) hb (show 97 ≠ 99 by decide) ha hc
      · by_cases hc : T.count 99 = 0
        · exact two (.inr (.inr rfl)) hc (show 97 ≠ 98 by decide) ha hb
        · have := three_in (ne (show 97 ≠ 98 by decide)) (ne (show 97 ≠ 99 by decide)) (ne (show 98 ≠ 99 by decide)) (pos ha) (pos hb) (pos hc)
          have := F.le3
          omega
theorem bal_alt {T cs : List Nat} (x : Nat) (h0 : 0 < T.length) (ok : okCuts T.length 0 cs) : bal x cs 1 0 T = alt x (segs 0 cs T) := by
  have h := bal_segs x cs T cs 0 1 h0 ok (fun _ _ => Iff.rfl)
  have n0 : 0 ∉ cs := fun m => Nat.lt_irrefl _ (okCuts_gt ok 0 m)
  rw [List.drop_zero, if_neg n0, Int.one_mul] at h
  exact h
theorem balD_bal {T cs : List Nat} (ok : okCuts T.length 0 cs) : balD T cs ↔ ∀ x, x = 97 ∨ x = 98 ∨ x = 99 → bal x cs 1 0 T = 0 := by
  by_cases h0 : T.length = 0
  · have : T = [] := List.length_eq_zero_iff.mp h0
    subst this
    cases cs with
    | nil => exact ⟨fun _ x _ => by simp [bal], fun _ x _ => by simp [segs, alt]⟩
    | cons c cs => have := ok.2.1; simp at this
  · constructor
    · intro h x hx; rw [bal_alt x (by omega) ok]; exact h x hx
    · intro h x hx; rw [← bal_alt x (by omega) ok]; exact h x hx
theorem eq3_ptr {a b : Nat} {A B : Nat → Int} {st : Sto} (ha : st[a]? = some (.lst (cnt3 A))) (hb : st[b]? = some (.lst (cnt3 B))) : oEqX (.ptr a) (.ptr b) st = .val .P (.bl (decide (A 97 = B 97 ∧ A 98 = B 98 ∧ A 99 = B 99))) st := by
  have e := int_eq3 (A 97) (A 98) (A 99) (B 97) (B 98) (B 99) st
  show oEq (match stLst st a with | some l => .lst l | none => .ptr a) (match stLst st b with | some l => .lst l | none => .ptr b) st = _
  rw [stL ha, stL hb]
  exact e
theorem ne3_ptr {a b : Nat} {A B : Nat → Int} {st : Sto} (ha : st[a]? = some (.lst (cnt3 A))) (hb : st[b]? = some (.lst (cnt3 B))) : oNeX (.ptr a) (.ptr b) st = .val .P (.bl (!decide (A 97 = B 97 ∧ A 98 = B 98 ∧ A 99 = B 99))) st := by
  have e := ne_of_eq (int_eq3 (A 97) (A 98) (A 99) (B 97) (B 98) (B 99) st)
  show oNe (match stLst st a with | some l => .lst l | none => .ptr a) (match stLst st b with | some l => .lst l | none => .ptr b) st = _
  rw [stL ha, stL hb]
  exact e
theorem size_S (T : List Nat) : (S T).cps.size = T.length := by
  have := congrArg List.length (S_cps T)
  rw [Array.length_toList] at this
  exact this
section
variable {T cs : List Nat} {d : D} {st : Sto}
theorem lic_ok (hT : T.length ≤ 1000) (ok : okCuts T.length 0 cs) (hd : CutArg st d cs) : F_law_is_cuts [.str (S T), d] st = .val .P (.bl true) st := by
  obtain ⟨e2, e3, h1, h2⟩ := lic_loop hT ok hd cs [] .emp .emp rfl
  have h1' : forD (tgB (tgT 2 (tgsCons (tgN 2) (tgsCons (tgN 3) tgsNil))) fb_law_is_cuts_1) (enumD 0 (cs.map dN)) ⟨[.val (.str (S T)), .val d, .emp, .emp], st⟩ = .nx ⟨[.val (.str (S T)), .val d, e2, e3], st⟩ := h1
  rcases hd with rfl | ⟨n, rfl, h⟩
  · generalize cs.map dN = CD at *
    generalize S T = z at *
    have hs := sFor_of (src := dEnum (aCons (dVar 1) aNil)) (t := tgT 2 (tgsCons (tgN 2) (tgsCons (tgN 3) tgsNil))) (b := fb_law_is_cuts_1) (E := ⟨[.val (.str z), .val (.lst CD), .emp, .emp], st⟩) (p := true) (l := enumD 0 CD) (st := st) (by simp)
    rw [h1'] at hs
    simp -implicitDefEqProofs [F_law_is_cuts, g_law_is_cuts, kit_ll, hs, -e_sFor, isTP]
  · have h2' : forPD n (cs.map dN) (tgB (tgT 2 (tgsCons (tgN 2) (tgsCons (tgN 3) tgsNil))) fb_law_is_cuts_1) (enumD 0 (cs.map dN)) ⟨[.val (.str (S T)), .val (.ptr n), .emp, .emp], st⟩ = .nx ⟨[.val (.str (S T)), .val (.ptr n), e2, e3], st⟩ := h2 n _ (stL h)
    have hsl := stL h
    generalize cs.map dN = CD at *
    generalize S T = z at *
    simp -implicitDefEqProofs [F_law_is_cuts, g_law_is_cuts, kit_ll, h, h2', isTP]
end
theorem lists_ok {lo hi m : Nat} (hm : m ≤ 2) (hlo : lo ≤ 100) (hhi : hi ≤ 43) (st : Sto) : F_law_lists [dN lo, dN hi, dN m] st = .val .N (.lst ((acs m lo hi).map dL)) st := by
  have b : ∀ k, k ≤ 2 → (hi + 1) ^ k ≤ 90000 := fun k hk => by
    have := Nat.pow_le_pow_left (show hi + 1 ≤ 44 by omega) k
    have := Nat.pow_le_pow_right (show 0 < 44 by decide) hk
    omega
  match m, hm with
  | 0, _ => exact gg_zero fb_law_lists_2 lo hi st
  | 1, _ => exact gg_succ (F := F_law_lists_2) (m := 0) (md := .N) (by decide) (fun lo' _ => gg_zero fb_law_lists_2_2 lo' hi st) (b 1 (by decide)) (by decide) (by omega) (by omega)
  | 2, _ => exact gg_succ (F := F_law_lists_2) (m := 1) (md := .N) (by decide) (fun lo' h => gg_succ (F := F_law_lists_1) (m := 0) (md := .N) (by decide) (fun lo'' _ => gg_zero fb_law_lists_1_1 lo'' hi st) (b 1 (by decide)) (by decide) (by omega) (by omega)) (b 2 (by decide)) (by decide) (by omega) (by omega)
theorem acs_okc : ∀ (m lo hi : Nat) (l : List Nat), l ∈ acs m lo hi → ∀ h, h + 1 = lo → okCuts (hi + 1) h l
  | 0, lo, hi, l, hl, h, _ => by
    simp [acs] at hl
    subst hl; trivial
  | m + 1, lo, hi, l, hl, h, hh => by
    rw [acs] at hl
    obtain ⟨k, hk, hk2⟩ := List.mem_flatMap.mp hl
    obtain ⟨l', hl', rfl⟩ := List.mem_map.mp hk2
    have := List.mem_range.mp hk
    exact ⟨by omega, by omega, acs_okc m _ hi l' hl' (lo + k) (by omega)⟩
section
variable {T cs : List Nat} {d : D}
theorem fewer_step {st : Sto} (hT : abcs T) {fw : List Nat} (ok : okCuts T.length 0 fw) (nb : ¬ balD T fw) {v1 v2 v4 v5 : SL} : ∃ v4' v5' st', tgB (tgN 3) fb_law_fewest_1 (.lst (fw.map dN)) ⟨[.val (.str (S T)), v1, v2, v3, v4, v5], st⟩ = .nx ⟨[.val (.str (S T)), v1, v2, .val (.lst (fw.map dN)), v4', v5'], st'⟩ ∧ ∀ m, m < st.length → st'[m]? = st[m]? := by
  obtain ⟨A, B, st', h1, h2, h3, h4, h5, h6, h7⟩ := hands_ok (st := st) hT (.inl rfl : CutArg st (.lst (fw.map dN)) fw)
  have e := eq3_ptr h2 h3
  have ne : decide (A 97 = B 97 ∧ A 98 = B 98 ∧ A 99 = B 99) = false := by
    refine decide_eq_false fun ⟨a, b, c⟩ => nb ((balD_bal ok).mpr fun x hx => ?_)
    have := h4 x
    rcases hx with rfl | rfl | rfl <;> omega
  rw [ne] at e
  refine ⟨.val (.ptr st.length), .val (.ptr (st.length + 1)), st', ?_, h7⟩
  generalize fw.map dN = FD at *
  generalize S T = z at *
  generalize st.length = n0 at *
  simp -implicitDefEqProofs [q_fb_law_fewest_1, h1, e, -e_oEqX]
theorem fewer_loop (hT : abcs T) : ∀ (l : List (List Nat)) (st : Sto) (v3 v4 v5 : SL) {v1 v2 : SL}, (∀ fw ∈ l, okCuts T.length 0 fw ∧ ¬ balD T fw) → ∃ v3' v4' v5' st', forD (tgB (tgN 3) fb_law_fewest_1) (l.map dL) ⟨[.val (.str (S T)), v1, v2, v3, v4, v5], st⟩ = .nx ⟨[.val (.str (S T)), v1, v2, v3', v4', v5'], st'⟩ ∧ (∀ m, m < st.length → st'[m]? = st[m]?) ∧ st.length ≤ st'.length
  | [], st, v3, v4, v5, _, _, _ => ⟨v3, v4, v5, st, rfl, fun _ _ => rfl, Nat.le_refl _⟩
  | fw :: l, st, v3, v4, v5, v1, v2, h => by
    obtain ⟨o, nb⟩ := h fw (List.mem_cons_self ..)
    obtain ⟨v4', v5', st1, s, k⟩ := fewer_step (st := st) (v1 := v1) (v2 := v2) (v3 := v3) (v4 := v4) (v5 := v5) hT o nb
    have len : st.length ≤ st1.length := by
      apply Classical.byContradiction
      intro hn
      have := k st1.length (by omega)
      rw [List.getElem?_eq_none (Nat.le_refl _), List.getElem?_eq_getElem (by omega)] at this
      cases this
    obtain ⟨w3, w4, w5, st2, ih, k2, l2⟩ := fewer_loop hT l st1 (.val (.lst (fw.map dN))) v4' v5' (v1 := v1) (v2 := v2) (fun fw m => h fw (List.mem_cons_of_mem _ m))
    refine ⟨w3, w4, w5, st2, ?_, fun m hm => by rw [k2 m (by omega), k m hm], by omega⟩
    rw [List.map_cons, e_forC]
    have s' : tgB (tgN 3) fb_law_fewest_1 (dL fw) ⟨[.val (.str (S T)), v1, v2, v3, v4, v5], st⟩ = _ := s
    rw [s']
    exact ih
theorem many_step (E : Evn T) (hl : T.length ≤ 24) (F : Fw T cs) {m : Nat} (hm : m < cs.length) {st : Sto} {v1 v2 v3 v4 v5 : SL} : ∃ v3' v4' v5' st', tgB (tgN 2) fb_law_fewest_2 (.int (m : Int)) ⟨[.val (.str (S T)), v1, v2, v3, v4, v5], st⟩ = .nx ⟨[.val (.str (S T)), v1, .val (.int (m : Int)), v3', v4', v5'], st'⟩ ∧ (∀ m, m < st.length → st'[m]? = st[m]?) ∧ st.length ≤ st'.length := by
  have le3 := F.le3
  have hpos : 0 < T.length := by
    have := F.ok
    cases cs with
    | nil => simp at hm
    | cons c cs => have := this.2.1; omega
  have ls := lists_ok (lo := 1) (hi := T.length - 1) (m := m) (by omega) (by decide) (by omega) st
  obtain ⟨v3', v4', v5', st', h, k, l⟩ := fewer_loop E.abc (acs m 1 (T.length - 1)) st v3 v4 v5 (v1 := v1) (v2 := .val (.int (m : Int))) (fun fw hfw => by
    have o := acs_okc m 1 (T.length - 1) fw hfw 0 rfl
    rw [show T.length - 1 + 1 = T.length by omega] at o
    refine ⟨o, fun b => ?_⟩
    have := F.least fw o b
    rw [(acs_len m 1 (T.length - 1)).2 fw hfw] at this
    omega)
  refine ⟨v3', v4', v5', st', ?_, k, l⟩
  have hz : (S T).length ≤ 1000000 := by rw [S_len]; omega
  have hsl : (S T).length = T.length := S_len T
  have e1 : (T.length : Int) - 1 = ((T.length - 1 : Nat) : Int) := by omega
  have ls' : F_law_lists [.int 1, .int ((T.length : Int) - 1), .int (m : Int)] st = .val .N (.lst ((acs m 1 (T.length - 1)).map dL)) st := by rw [e1]; exact ls
  rw [hsl] at hz
  clear ls e1
  generalize (m : Int) = m0 at *
  generalize (acs m 1 (T.length - 1)).map dL = LD at *
  generalize S T = z at *
  simp -implicitDefEqProofs [q_fb_law_fewest_2, hz, hsl, ls', h]
theorem many_loop (E : Evn T) (hl : T.length ≤ 24) (F : Fw T cs) : ∀ (n k : Nat) (st : Sto) (v2 v3 v4 v5 : SL) {v1 : SL}, k + n = cs.length → ∃ v2' v3' v4' v5' st', forD (tgB (tgN 2) fb_law_fewest_2) ((List.range' k n).map fun j : Nat => D.int (j : Int)) ⟨[.val (.str (S T)), v1, v2, v3, v4, v5], st⟩ = .nx ⟨[.val (.str (S T)), v1, v2', v3', v4', v5'], st'⟩ ∧ (∀ m, m < st.length → st'[m]? = st[m]?) ∧ st.length ≤ st'.length
  | 0, k, st, v2, v3, v4, v5, _, _ => ⟨v2, v3, v4, v5, st, rfl, fun _ _ => rfl, Nat.le_refl _⟩
  | n + 1, k, st, v2, v3, v4, v5, v1, e => by
    obtain ⟨v3', v4', v5', st1, s, k1, l1⟩ := many_step E hl F (m := k) (by omega) (st := st) (v1 := v1) (v2 := v2) (v3 := v3) (v4 := v4) (v5 := v5)
    obtain ⟨w2, w3, w4, w5, st2, ih, k2, l2⟩ := many_loop E hl F n (k + 1) st1 (.val (.int (k : Int))) v3' v4' v5' (v1 := v1) (by omega)
    refine ⟨w2, w3, w4, w5, st2, ?_, fun m hm => by rw [k2 m (by omega), k1 m hm], by omega⟩
    rw [List.range'_succ, List.map_cons, e_forC, s]
    exact ih
theorem law_fewest_ok (E : Evn T) (hl : T.length ≤ 24) (F : Fw T cs) {st : Sto} (hd : CutArg st d cs) : ∃ st', F_law_fewest [.str (S T), d] st = .val .P (.bl true) st' ∧ (∀ m, m < st.length → st'[m]? = st[m]?) ∧ st.length ≤ st'.length := by
  have le3 := F.le3
  have ic := lic_ok (by omega) F.ok hd
  have ln := hd.len (by omega)
  have kd := kinds_ok E F
  obtain ⟨A, B, st1, h1, h2, h3, h4, h5, h6, h7⟩ := hands_ok E.abc hd
  have hd1 := hd.keep h7
  obtain ⟨A', B', st2, g1, g2, g3, g4, g5, g6, g7⟩ := hands_ok E.abc hd1
  have hd2 := hd1.keep g7
  have h2' : st2[st.length]? = some (.lst (cnt3 A)) := by rw [g7 _ (by omega)]; exact h2
  have ne := ne3_ptr h2' g3
  have bz := (balD_bal F.ok).mp F.bal
  have eq : decide (A 97 = B' 97 ∧ A 98 = B' 98 ∧ A 99 = B' 99) = true := decide_eq_true (by
    have a1 := h4 97; have a2 := h4 98; have a3 := h4 99
    have b1 := h5 97; have b2 := h5 98; have b3 := h5 99
    have c1 := g4 97; have c2 := g4 98; have c3 := g4 99
    have d1 := g5 97; have d2 := g5 98; have d3 := g5 99
    rw [bz 97 (.inl rfl)] at a1 c1
    rw [bz 98 (.inr (.inl rfl))] at a2 c2
    rw [bz 99 (.inr (.inr rfl))] at a3 c3
    omega)
  rw [eq] at ne
  have ln2 := hd2.len (by omega)
  obtain ⟨v2', v3', v4', v5', st3, hf, k3, l3⟩ := many_loop E hl F cs.length 0 st2 .emp .emp .emp .emp (v1 := .val d) (by omega)
  refine ⟨st3, ?_, fun m hm => by rw [k3 m (by omega), g7 m (by omega), h7 m hm], by omega⟩
  have er : rangeD 0 cs.length = (List.range' 0 cs.length).map fun j : Nat => D.int (j : Int) := by
    unfold rangeD
    rw [List.range_eq_range']
    exact List.map_congr_left fun k _ => by simp
  rw [← er] at hf
  have src : dRng rng1 (aCons (dCB oLen (aCons (dVar 1) aNil)) aNil) ⟨[.val (.str (S T)), .val d, .emp, .emp, .emp, .emp], st2⟩ = .ok true (rangeD 0 cs.length) st2 := dRng_of (p := true) (l := [.int (cs.length : Int)]) (by simp [ln2]) (rng1_nat (by omega))
  have hs := (sFor_of (t := tgN 2) (b := fb_law_fewest_2) src).trans hf
  have hz4 : (S T).cps.size ≤ 4000 := by
    rw [size_S]
    omega
  have ng : ¬ ((kindsS (S T) : Int) < (cs.length : Int)) := by omega
  have i0 : ∀ u v : D, atI [u, v] 0 = some u := fun _ _ => rfl
  have i1 : ∀ u v : D, atI [u, v] 1 = some v := fun _ _ => rfl
  clear er src hf h2 h2' h3 h4 h5 g2 g3 g4 g5 hd hd1 hd2 eq bz kd
  generalize (cs.length : Int) = k0 at *
  generalize rangeD 0 cs.length = RD at *
  generalize S T = z at *
  generalize hn1 : st1.length = n1 at *
  generalize st.length = n0 at *
  simp -implicitDefEqProofs [F_law_fewest, g_law_fewest, ic, ln, hz4, ng, h1, g1, i0, i1, ne, hs, -e_sFor, -e_oNeX]
end
theorem law_true (ns : List Int) (hl : ns.length ≤ 63) (_ : ∀ z ∈ ns, Builtin.Int.intBits z ≤ 1048576) : Yes (F_law [.scr ns] tbls) := by
  obtain ⟨st, h1, B, hlen⟩ := box_ok ns hl
  obtain ⟨T, st1, t1, E, hT, B1, l1, k1⟩ := beads_ok (mo := 24) B (by omega) (by decide)
  have F := fw_ok E
  obtain ⟨n, st2, fr1, hn, x2, nl⟩ := fewest_run E hT st1
  obtain ⟨st3, f1, k3, l3⟩ := law_fewest_ok E hT F (d := .ptr n) (st := st2) (.inr ⟨_, rfl, hn⟩)
  have lt2 : n < st2.length := (List.getElem?_eq_some_iff.mp hn).1
  have hn3 : st3[n]? = some (.lst ((fwc T).map dN)) := by rw [k3 _ lt2]; exact hn
  have le3 := F.le3
  have hlt : n < st3.length := (List.getElem?_eq_some_iff.mp hn3).1
  obtain ⟨m, st5, fr2, hm, x5, ml⟩ := fewest_run E hT ((st3.set n (.lst ((fwc T).map dN ++ [.int 0]))).set n (.lst (((fwc T).map dN ++ [D.int 0]).set 0 (.int 25))))
  obtain ⟨st6, f2, k6, l6⟩ := law_fewest_ok E hT F (d := .ptr m) (st := st5) (.inr ⟨_, rfl, hm⟩)
  have g1 : (st3.set n (.lst ((fwc T).map dN ++ [.int 0])))[n]? = some (.lst ((fwc T).map dN ++ [.int 0])) := List.getElem?_set_self hlt
  have ap : mAppend ((fwc T).map dN) [.int 0] = some (.non, (fwc T).map dN ++ [.int 0]) := by rw [e_mAppend, if_pos (by simp; omega)]
  have ix : ixN ((fwc T).map dN ++ [D.int 0]).length 0 = some 0 := by simp [ixN]
  have t1' : F_law_beads [.ptr 1, .int 24] st = .val .P (.str (S T)) st1 := t1
  rw [List.set_set] at fr2
  refine ⟨st6, ?_⟩
  clear hlt k3 l3 k6 l6 le3 F E t1 hn hm x2 x5 ml nl lt2
  generalize hL : (fwc T).map dN ++ [D.int 0] = L2 at *
  generalize (fwc T).map dN = FD at *
  generalize hL3 : L2.set 0 (D.int 25) = L3 at *
  generalize S T = z at *
  simp -implicitDefEqProofs [F_law, g_law, h1, q_k_law_1, t1', q_k_law_2, fr1, q_k_law_3, f1, q_k_law_4, hn3, ap, q_k_law_5, g1, ix, hL3, q_k_law_6, fr2, f2, -e_mAppend]
end Dn
namespace Dn
open PySem PySem.Spec PyProof.Rows L2
def top (i : Nat) : Stmt := PySem.Challenge.pw_halfcrumb_k55_fewest_cuts.main.body.getD i (.Pass ⟨0, 0, 0, 0⟩)
def clsStmts : Stmt → List Stmt
  | .ClassDef _ _ _ b _ _ _ _ _ _ _ => b
  | _ => []
def mth (i j : Nat) : Stmt := (clsStmts (top i)).getD j (.Pass ⟨0, 0, 0, 0⟩)
structure Adr where
  f_NoBeads___init__ : Addr
  d_NoBeads___init__ : FuncData
  f_Odd___init__ : Addr
  d_Odd___init__ : FuncData
  f_is_cuts : Addr
  d_is_cuts : FuncData
  f_all_cuts_1 : Addr
  d_all_cuts_1 : FuncData
  f_sums_ahead : Addr
  d_sums_ahead : FuncData
  f_last_cut : Addr
  d_last_cut : FuncData
  f_gives_halves : Addr
  d_gives_halves : FuncData
  f_law_box : Addr
  d_law_box : FuncData
  f_law_mixed : Addr
  d_law_mixed : FuncData
  f_law_hands : Addr
  d_law_hands : FuncData
  f_law_is_cuts : Addr
  d_law_is_cuts : FuncData
  f_law_lists_1 : Addr
  d_law_lists_1 : FuncData
  f_all_cuts_2 : Addr
  d_all_cuts_2 : FuncData
  f_law_take : Addr
  d_law_take : FuncData
  f_law_lists_2 : Addr
  d_law_lists_2 : FuncData
  f_ask_beads : Addr
  d_ask_beads : FuncData
  f_all_cuts : Addr
  d_all_cuts : FuncData
  f_law_beads : Addr
  d_law_beads : FuncData
  f_law_lists : Addr
  d_law_lists : FuncData
  f_fewest_cuts : Addr
  d_fewest_cuts : FuncData
  f_law_fewest : Addr
  d_law_fewest : FuncData
  f_law : Addr
  d_law : FuncData
  c_NoBeads : Addr
  c_Odd : Addr
  t_LETTERS : Tok
  t_MOST_BEADS : Tok
def caOf (A : Adr) : Nat → Addr
  | 1 => A.c_NoBeads
  | 2 => A.c_Odd
  | _ => 0
def fnOf : Nat → List Str
  | 1 => ["at"]
  | 2 => ["kind"]
  | _ => []
def GG (K : PySem.W.Frag) (A : Adr) : Gm := { K := K, ca := caOf A, fn := fnOf, ea := 0, tb := [] }
abbrev s_NoBeads___init__ : Stmt := mth 2 0
abbrev n_NoBeads___init__ : List Str := ["self", "at"]
abbrev p_NoBeads___init__ : List Str := ["self", "at"]
theorem sc_NoBeads___init__ : FnScope n_NoBeads___init__ p_NoBeads___init__ (defScope s_NoBeads___init__) := ⟨rfl, rfl, rfl, by decide +kernel, rfl, by decide +kernel, by decide +kernel⟩
abbrev s_Odd___init__ : Stmt := mth 3 0
abbrev n_Odd___init__ : List Str := ["self", "kind"]
abbrev p_Odd___init__ : List Str := ["self", "kind"]
theorem sc_Odd___init__ : FnScope n_Odd___init__ p_Odd___init__ (defScope s_Odd___init__) := ⟨rfl, rfl, rfl, by decide +kernel, rfl, by decide +kernel, by decide +kernel⟩
abbrev s_is_cuts : Stmt := top 8
abbrev n_is_cuts : List Str := ["beads", "cuts", "at", "cut"]
abbrev p_is_cuts : List Str := ["beads", "cuts"]
theorem sc_is_cuts : FnScope n_is_cuts p_is_cuts (defScope s_is_cuts) := ⟨rfl, rfl, rfl, by decide +kernel, rfl, by decide +kernel, by decide +kernel⟩
abbrev s_all_cuts_1 : Stmt := top 9
abbrev n_all_cuts_1 : List Str := ["low", "high", "many", "found", "cut", "later"]
abbrev p_all_cuts_1 : List Str := ["low", "high", "many"]
theorem sc_all_cuts_1 : FnScope n_all_cuts_1 p_all_cuts_1 (defScope s_all_cuts_1) := ⟨rfl, rfl, rfl, by decide +kernel, rfl, by decide +kernel, by decide +kernel⟩
abbrev s_sums_ahead : Stmt := top 10
abbrev n_sums_ahead : List Str := ["beads", "found", "sign", "many", "letter"]
abbrev p_sums_ahead : List Str := ["beads"]
theorem sc_sums_ahead : FnScope n_sums_ahead p_sums_ahead (defScope s_sums_ahead) := ⟨rfl, rfl, rfl, by decide +kernel, rfl, by decide +kernel, by decide +kernel⟩
abbrev s_last_cut : Stmt := top 11
abbrev n_last_cut : List Str := ["cuts", "size", "ends", "got", "k"]
abbrev p_last_cut : List Str := ["cuts", "size"]
theorem sc_last_cut : FnScope n_last_cut p_last_cut (defScope s_last_cut) := ⟨rfl, rfl, rfl, by decide +kernel, rfl, by decide +kernel, by decide +kernel⟩
abbrev s_gives_halves : Stmt := top 12
abbrev n_gives_halves : List Str := ["sums", "cuts", "ends", "got", "k", "one", "more", "less"]
abbrev p_gives_halves : List Str := ["sums", "cuts"]
theorem sc_gives_halves : FnScope n_gives_halves p_gives_halves (defScope s_gives_halves) := ⟨rfl, rfl, rfl, by decide +kernel, rfl, by decide +kernel, by decide +kernel⟩
abbrev s_law_box : Stmt := top 15
abbrev n_law_box : List Str := ["_law_script", "_law_great", "_law_cell"]
abbrev p_law_box : List Str := ["_law_script"]
theorem sc_law_box : FnScope n_law_box p_law_box (defScope s_law_box) := ⟨rfl, rfl, rfl, by decide +kernel, rfl, by decide +kernel, by decide +kernel⟩
abbrev s_law_mixed : Stmt := top 16
abbrev n_law_mixed : List Str := ["_law_cell", "_law_k", "_law_whole"]
abbrev p_law_mixed : List Str := ["_law_cell", "_law_k"]
theorem sc_law_mixed : FnScope n_law_mixed p_law_mixed (defScope s_law_mixed) := ⟨rfl, rfl, rfl, by decide +kernel, rfl, by decide +kernel, by decide +kernel⟩
abbrev s_law_hands : Stmt := top 19
abbrev n_law_hands : List Str := ["_law_string", "_law_cuts", "_law_found", "_law_turn", "_law_at", "_law_letter"]
abbrev p_law_hands : List Str := ["_law_string", "_law_cuts"]
theorem sc_law_hands : FnScope n_law_hands p_law_hands (defScope s_law_hands) := ⟨rfl, rfl, rfl, by decide +kernel, rfl, by decide +kernel, by decide +kernel⟩
abbrev s_law_is_cuts : Stmt := top 20
abbrev n_law_is_cuts : List Str := ["_law_string", "_law_cuts", "_law_at", "_law_cut"]
abbrev p_law_is_cuts : List Str := ["_law_string", "_law_cuts"]
theorem sc_law_is_cuts : FnScope n_law_is_cuts p_law_is_cuts (defScope s_law_is_cuts) := ⟨rfl, rfl, rfl, by decide +kernel, rfl, by decide +kernel, by decide +kernel⟩
abbrev s_law_lists_1 : Stmt := top 21
abbrev n_law_lists_1 : List Str := ["_law_low", "_law_high", "_law_many", "_law_found", "_law_first", "_law_rest"]
abbrev p_law_lists_1 : List Str := ["_law_low", "_law_high", "_law_many"]
theorem sc_law_lists_1 : FnScope n_law_lists_1 p_law_lists_1 (defScope s_law_lists_1) := ⟨rfl, rfl, rfl, by decide +kernel, rfl, by decide +kernel, by decide +kernel⟩
abbrev s_all_cuts_2 : Stmt := top 9
abbrev n_all_cuts_2 : List Str := ["low", "high", "many", "found", "cut", "later"]
abbrev p_all_cuts_2 : List Str := ["low", "high", "many"]
theorem sc_all_cuts_2 : FnScope n_all_cuts_2 p_all_cuts_2 (defScope s_all_cuts_2) := ⟨rfl, rfl, rfl, by decide +kernel, rfl, by decide +kernel, by decide +kernel⟩
abbrev s_law_take : Stmt := top 17
abbrev n_law_take : List Str := ["_law_box_here", "_law_size", "_law_cell", "_law_found", "_law_reach"]
abbrev p_law_take : List Str := ["_law_box_here", "_law_size"]
theorem sc_law_take : FnScope n_law_take p_law_take (defScope s_law_take) := ⟨rfl, rfl, rfl, by decide +kernel, rfl, by decide +kernel, by decide +kernel⟩
abbrev s_law_lists_2 : Stmt := top 21
abbrev n_law_lists_2 : List Str := ["_law_low", "_law_high", "_law_many", "_law_found", "_law_first", "_law_rest"]
abbrev p_law_lists_2 : List Str := ["_law_low", "_law_high", "_law_many"]
theorem sc_law_lists_2 : FnScope n_law_lists_2 p_law_lists_2 (defScope s_law_lists_2) := ⟨rfl, rfl, rfl, by decide +kernel, rfl, by decide +kernel, by decide +kernel⟩
abbrev s_ask_beads : Stmt := top 7
abbrev n_ask_beads : List Str := ["beads", "at", "sign"]
abbrev p_ask_beads : List Str := ["beads"]
theorem sc_ask_beads : FnScope n_ask_beads p_ask_beads (defScope s_ask_beads) := ⟨rfl, rfl, rfl, by decide +kernel, rfl, by decide +kernel, by decide +kernel⟩
abbrev s_all_cuts : Stmt := top 9
abbrev n_all_cuts : List Str := ["low", "high", "many", "found", "cut", "later"]
abbrev p_all_cuts : List Str := ["low", "high", "many"]
theorem sc_all_cuts : FnScope n_all_cuts p_all_cuts (defScope s_all_cuts) := ⟨rfl, rfl, rfl, by decide +kernel, rfl, by decide +kernel, by decide +kernel⟩
abbrev s_law_beads : Stmt := top 18
abbrev n_law_beads : List Str := ["_law_box_here", "_law_most", "_law_kinds", "_law_half", "_law_pool", "_law_string", "_law_k"]
abbrev p_law_beads : List Str := ["_law_box_here", "_law_most"]
theorem sc_law_beads : FnScope n_law_beads p_law_beads (defScope s_law_beads) := ⟨rfl, rfl, rfl, by decide +kernel, rfl, by decide +kernel, by decide +kernel⟩
abbrev s_law_lists : Stmt := top 21
abbrev n_law_lists : List Str := ["_law_low", "_law_high", "_law_many", "_law_found", "_law_first", "_law_rest"]
abbrev p_law_lists : List Str := ["_law_low", "_law_high", "_law_many"]
theorem sc_law_lists : FnScope n_law_lists p_law_lists (defScope s_law_lists) := ⟨rfl, rfl, rfl, by decide +kernel, rfl, by decide +kernel, by decide +kernel⟩
abbrev s_fewest_cuts : Stmt := top 13
abbrev n_fewest_cuts : List Str := ["beads", "letter", "sums", "many", "free", "cuts"]
abbrev p_fewest_cuts : List Str := ["beads"]
theorem sc_fewest_cuts : FnScope n_fewest_cuts p_fewest_cuts (defScope s_fewest_cuts) := ⟨rfl, rfl, rfl, by decide +kernel, rfl, by decide +kernel, by decide +kernel⟩
abbrev s_law_fewest : Stmt := top 22
abbrev n_law_fewest : List Str := ["_law_string", "_law_cuts", "_law_many", "_law_fewer", "_law_one", "_law_two"]
abbrev p_law_fewest : List Str := ["_law_string", "_law_cuts"]
theorem sc_law_fewest : FnScope n_law_fewest p_law_fewest (defScope s_law_fewest) := ⟨rfl, rfl, rfl, by decide +kernel, rfl, by decide +kernel, by decide +kernel⟩
abbrev s_law : Stmt := top 23
abbrev n_law : List Str := ["_law_script", "_law_box_here", "_law_string", "_law_found"]
abbrev p_law : List Str := ["_law_script"]
theorem sc_law : FnScope n_law p_law (defScope s_law) := ⟨rfl, rfl, rfl, by decide +kernel, rfl, by decide +kernel, by decide +kernel⟩
structure Txt (K : PySem.W.Frag) (mg : Str → Option Value) (base : Heap) (A : Adr) : Prop where
  F_NoBeads___init__ : Fun K "__init__" "NoBeads.__init__" s_NoBeads___init__ A.f_NoBeads___init__ A.d_NoBeads___init__
  b_NoBeads___init__ : Binds K A.d_NoBeads___init__ p_NoBeads___init__ []
  F_Odd___init__ : Fun K "__init__" "Odd.__init__" s_Odd___init__ A.f_Odd___init__ A.d_Odd___init__
  b_Odd___init__ : Binds K A.d_Odd___init__ p_Odd___init__ []
  F_is_cuts : Fun K "is_cuts" "is_cuts" s_is_cuts A.f_is_cuts A.d_is_cuts
  b_is_cuts : Binds K A.d_is_cuts p_is_cuts []
  F_all_cuts_1 : Fun K "all_cuts" "all_cuts" s_all_cuts_1 A.f_all_cuts_1 A.d_all_cuts_1
  b_all_cuts_1 : Binds K A.d_all_cuts_1 p_all_cuts_1 []
  F_sums_ahead : Fun K "sums_ahead" "sums_ahead" s_sums_ahead A.f_sums_ahead A.d_sums_ahead
  b_sums_ahead : Binds K A.d_sums_ahead p_sums_ahead []
  F_last_cut : Fun K "last_cut" "last_cut" s_last_cut A.f_last_cut A.d_last_cut
  b_last_cut : Binds K A.d_last_cut p_last_cut []
  F_gives_halves : Fun K "gives_halves" "gives_halves" s_gives_halves A.f_gives_halves A.d_gives_halves
  b_gives_halves : Binds K A.d_gives_halves p_gives_halves []
  F_law_box : Fun K "_law_box" "_law_box" s_law_box A.f_law_box A.d_law_box
  b_law_box : Binds K A.d_law_box p_law_box []
  F_law_mixed : Fun K "_law_mixed" "_law_mixed" s_law_mixed A.f_law_mixed A.d_law_mixed
  b_law_mixed : Binds K A.d_law_mixed p_law_mixed []
  F_law_hands : Fun K "_law_hands" "_law_hands" s_law_hands A.f_law_hands A.d_law_hands
  b_law_hands : Binds K A.d_law_hands p_law_hands []
  F_law_is_cuts : Fun K "_law_is_cuts" "_law_is_cuts" s_law_is_cuts A.f_law_is_cuts A.d_law_is_cuts
  b_law_is_cuts : Binds K A.d_law_is_cuts p_law_is_cuts []
  F_law_lists_1 : Fun K "_law_lists" "_law_lists" s_law_lists_1 A.f_law_lists_1 A.d_law_lists_1
  b_law_lists_1 : Binds K A.d_law_lists_1 p_law_lists_1 []
  F_all_cuts_2 : Fun K "all_cuts" "all_cuts" s_all_cuts_2 A.f_all_cuts_2 A.d_all_cuts_2
  b_all_cuts_2 : Binds K A.d_all_cuts_2 p_all_cuts_2 []
  F_law_take : Fun K "_law_take" "_law_take" s_law_take A.f_law_take A.d_law_take
  b_law_take : Binds K A.d_law_take p_law_take []
  F_law_lists_2 : Fun K "_law_lists" "_law_lists" s_law_lists_2 A.f_law_lists_2 A.d_law_lists_2
  b_law_lists_2 : Binds K A.d_law_lists_2 p_law_lists_2 []
  F_ask_beads : Fun K "ask_beads" "ask_beads" s_ask_beads A.f_ask_beads A.d_ask_beads
  b_ask_beads : Binds K A.d_ask_beads p_ask_beads []
  F_all_cuts : Fun K "all_cuts" "all_cuts" s_all_cuts A.f_all_cuts A.d_all_cuts
  b_all_cuts : Binds K A.d_all_cuts p_all_cuts []
  F_law_beads : Fun K "_law_beads" "_law_beads" s_law_beads A.f_law_beads A.d_law_beads
  b_law_beads : Binds K A.d_law_beads p_law_beads []
  F_law_lists : Fun K "_law_lists" "_law_lists" s_law_lists A.f_law_lists A.d_law_lists
  b_law_lists : Binds K A.d_law_lists p_law_lists []
  F_fewest_cuts : Fun K "fewest_cuts" "fewest_cuts" s_fewest_cuts A.f_fewest_cuts A.d_fewest_cuts
  b_fewest_cuts : Binds K A.d_fewest_cuts p_fewest_cuts []
  F_law_fewest : Fun K "_law_fewest" "_law_fewest" s_law_fewest A.f_law_fewest A.d_law_fewest
  b_law_fewest : Binds K A.d_law_fewest p_law_fewest []
  F_law : Fun K "law" "law" s_law A.f_law A.d_law
  b_law : Binds K A.d_law p_law []
  g_law_beads : mg "_law_beads" = some (.ref A.f_law_beads)
  g_law_box : mg "_law_box" = some (.ref A.f_law_box)
  g_law_fewest : mg "_law_fewest" = some (.ref A.f_law_fewest)
  g_law_hands : mg "_law_hands" = some (.ref A.f_law_hands)
  g_law_is_cuts : mg "_law_is_cuts" = some (.ref A.f_law_is_cuts)
  g_law_lists : mg "_law_lists" = some (.ref A.f_law_lists)
  g_law_lists_1 : mg "_law_lists" = some (.ref A.f_law_lists_1)
  g_law_lists_2 : mg "_law_lists" = some (.ref A.f_law_lists_2)
  g_law_mixed : mg "_law_mixed" = some (.ref A.f_law_mixed)
  g_law_take : mg "_law_take" = some (.ref A.f_law_take)
  g_all_cuts : mg "all_cuts" = some (.ref A.f_all_cuts)
  g_all_cuts_1 : mg "all_cuts" = some (.ref A.f_all_cuts_1)
  g_all_cuts_2 : mg "all_cuts" = some (.ref A.f_all_cuts_2)
  g_ask_beads : mg "ask_beads" = some (.ref A.f_ask_beads)
  g_fewest_cuts : mg "fewest_cuts" = some (.ref A.f_fewest_cuts)
  g_gives_halves : mg "gives_halves" = some (.ref A.f_gives_halves)
  g_is_cuts : mg "is_cuts" = some (.ref A.f_is_cuts)
  g_last_cut : mg "last_cut" = some (.ref A.f_last_cut)
  g_law : mg "law" = some (.ref A.f_law)
  g_sums_ahead : mg "sums_ahead" = some (.ref A.f_sums_ahead)
  B_fewest_cuts_0_beads : CallB K A.d_fewest_cuts p_fewest_cuts 0 ["beads"] [0] (([] : List D).map toV)
  z_bool : mg "bool" = none
  z_enumerate : mg "enumerate" = none
  z_int : mg "int" = none
  z_isinstance : mg "isinstance" = none
  z_len : mg "len" = none
  z_list : mg "list" = none
  z_range : mg "range" = none
  z_set : mg "set" = none
  z_sum : mg "sum" = none
  z_zip : mg "zip" = none
  m_LETTERS : mg "LETTERS" = some (.str "abc" A.t_LETTERS)
  m_MOST_BEADS : mg "MOST_BEADS" = some (.int 24 A.t_MOST_BEADS)
  g_NoBeads : mg "NoBeads" = some (.ref A.c_NoBeads)
  g_Odd : mg "Odd" = some (.ref A.c_Odd)
  oex_NoBeads : OexC K A.c_NoBeads
  ini_NoBeads : PySem.W.findIn K (.ref A.c_NoBeads) "__init__" = some (some (.ref A.f_NoBeads___init__))
  tin_NoBeads : PySem.W.typeIn K (.ref A.f_NoBeads___init__) = some (.type "function")
  xno_NoBeads : PySem.W.findIn K (.ref A.c_NoBeads) "at" = some none
  xf_NoBeads : XfC K A.c_NoBeads
  oex_Odd : OexC K A.c_Odd
  ini_Odd : PySem.W.findIn K (.ref A.c_Odd) "__init__" = some (some (.ref A.f_Odd___init__))
  tin_Odd : PySem.W.typeIn K (.ref A.f_Odd___init__) = some (.type "function")
  xno_Odd : PySem.W.findIn K (.ref A.c_Odd) "kind" = some none
  xf_Odd : XfC K A.c_Odd
section
variable {P : Program} {w : World} {K : PySem.W.Frag} {mg : Str → Option Value} {base : Heap} {A : Adr}
theorem ok_NoBeads___init__ (T : Txt K mg base A) : FnOk P w K mg base CX0 1 A.f_NoBeads___init__ A.d_NoBeads___init__ p_NoBeads___init__ (spEx K "at") :=
  fn_exI rfl T.F_NoBeads___init__ sc_NoBeads___init__ fun cdv Ar outer s H E => pss_one (ps_ost (pv 0) (pv 1))
theorem ok_Odd___init__ (T : Txt K mg base A) : FnOk P w K mg base CX0 1 A.f_Odd___init__ A.d_Odd___init__ p_Odd___init__ (spEx K "kind") :=
  fn_exI rfl T.F_Odd___init__ sc_Odd___init__ fun cdv Ar outer s H E => pss_one (ps_ost (pv 0) (pv 1))
theorem ok_is_cuts (T : Txt K mg base A) : FnOk P w K mg base (L2.CX P w) 1 A.f_is_cuts A.d_is_cuts p_is_cuts (spF (GG K A) F_is_cuts) :=
  fn_ok (k := 0) rfl rfl T.F_is_cuts sc_is_cuts fun cdv Ar outer s H E hr => ⟨_,
    (pss_cons (ps_for (passes_of rfl) rfl (pi_enum (by rfl) T.z_enumerate (pa_cons (pv 1) pa_nil)) (pg_tl rfl (pgs_cons (pg_name (i := 2) sc_is_cuts.nd rfl (by first | exact Or.inl rfl | exact Or.inr rfl)) (pgs_cons (pg_name (i := 3) sc_is_cuts.nd rfl (by first | exact Or.inl rfl | exact Or.inr rfl)) pgs_nil))) (pss_one (ps_if (PW.pt (pw_or (pt_cmpR op_lt (pv 3) pe_int (nomark _)) (pw_or (pt_cmpR op_ge (pv 3) (pe_callB call_len (by rfl) T.z_len (by decide +kernel) (pa_cons (pv 0) pa_nil)) (nomark _)) (pw_or1 (PW.pt (pw_and (pt_cmpR op_gt (pv 2) pe_int (nomark _)) (pw_and1 (pt_cmpR op_le (pv 3) (pe_ix ix_seq (pv 1) (pe_op op_sub (pv 2) pe_int) (fun _ _ => rfl)) (nomark _))))))))) (pss_one (ps_ret pe_bl)) pss_nil)))
    (pss_one (ps_ret pe_bl))),
    (s_seq (s_forE (a_cons v_var a_nil) (g_tl (gs_cons g_name (gs_cons g_name gs_nil))) (s_if (t_or (t_test (v_op d_lt v_var v_int)) (t_or (t_test (v_op d_ge v_var (v_cb c_len (a_cons v_var a_nil)))) (t_and (t_test (v_op d_gt v_var v_int)) (t_test (v_op d_le v_var (v_op d_ix v_var (v_op d_sub v_var v_int))))))) (s_ret v_bl) s_skip))
    (s_ret v_bl))⟩
theorem ok_all_cuts_1 (T : Txt K mg base A) : FnOk P w K mg base (L2.CX P w) 1 A.f_all_cuts_1 A.d_all_cuts_1 p_all_cuts_1 (spF (GG K A) F_all_cuts_1) :=
  fn_ok (k := 0) rfl rfl T.F_all_cuts_1 sc_all_cuts_1 fun cdv Ar outer s H E hr => ⟨_,
    (pss_cons (ps_if (pt_cmpR (or_eq hr.units) (pv 2) pe_int (nomark _)) (pss_one (ps_ret (pe_lst (pa_cons (pe_lst pa_nil) pa_nil)))) pss_nil)
    (pss_cons (ps_set (i := 3) sc_all_cuts_1.nd rfl (by first | exact Or.inl rfl | exact Or.inr rfl) (pe_lst pa_nil))
    (pss_cons (ps_for (passes_of rfl) rfl (pi_range2 (by rfl) T.z_range (pa_cons (pv 0) (pa_cons (pe_op or_add (pv 1) pe_int) pa_nil))) (pg_name (i := 4) sc_all_cuts_1.nd rfl (by first | exact Or.inl rfl | exact Or.inr rfl)) (pss_one ps_never))
    (pss_one (ps_ret (pv 3)))))),
    (s_seq (s_if (t_test (v_op d_eq v_var v_int)) (s_ret (v_lst (a_cons (v_lst a_nil) a_nil))) s_skip)
    (s_seq (s_set (v_lst a_nil))
    (s_seq (s_for (i_range2 (a_cons v_var (a_cons (v_op d_add v_var v_int) a_nil))) g_name s_never)
    s_retV)))⟩
theorem ok_sums_ahead (T : Txt K mg base A) : FnOk P w K mg base (L2.CX P w) 1 A.f_sums_ahead A.d_sums_ahead p_sums_ahead (spF (GG K A) F_sums_ahead) :=
  fn_ok (k := 0) rfl rfl T.F_sums_ahead sc_sums_ahead fun cdv Ar outer s H E hr => ⟨_,
    (pss_cons (ps_set (i := 1) sc_sums_ahead.nd rfl (by first | exact Or.inl rfl | exact Or.inr rfl) (pe_lst (pa_cons (pe_lst (pa_cons pe_int (pa_cons pe_int (pa_cons pe_int pa_nil)))) pa_nil)))
    (pss_cons (ps_for (passes_of rfl) rfl (pi_any (pv 0)) (pg_name (i := 2) sc_sums_ahead.nd rfl (by first | exact Or.inl rfl | exact Or.inr rfl)) (pss_one (ps_expr (pe_bm PySem.F.plainAttrs_list PySem.F.slot_list_append PySem.F.type_list_append mt_append (pv 1) (pa_cons (pe_lc (own := [("many", 3), ("letter", 4)]) rfl sc_sums_ahead.nd (pi_zipS (by rfl) T.z_zip (pa_cons (pe_ix ix_seq (pv 1) (pe_un un_neg pe_int) (fun _ _ => rfl)) (pa_cons (pe_glob (v := .str "abc") rfl T.m_LETTERS ⟨_, rfl⟩) pa_nil))) (blkOk_by (N := n_sums_ahead) (sc := defScope (s_sums_ahead)) (by decide +kernel)) (fun _ _ _ _ _ => (pg_tl rfl (pgs_cons (pg_name (i := 3) sc_sums_ahead.nd rfl (by first | exact Or.inl rfl | exact Or.inr rfl)) (pgs_cons (pg_name (i := 4) sc_sums_ahead.nd rfl (by first | exact Or.inl rfl | exact Or.inr rfl)) pgs_nil)))) (fun _ _ _ _ _ => pts_nil) (fun _ _ _ _ _ => (pe_op or_add (pv 3) (pe_callTy call_intA (by rfl) T.z_int (by decide +kernel) (pa_cons (pe_cmpR (or_eq hr.units) (pv 2) (pv 4) (nomark _)) pa_nil))))) pa_nil)))))
    (pss_one (ps_ret (pv 1))))),
    (s_seq (s_set (v_lst (a_cons (v_lst (a_cons v_int (a_cons v_int (a_cons v_int a_nil)))) a_nil)))
    (s_seq (s_for (i_any v_var) g_name (s_mt m_append (a_cons (v_lc (vs := [3, 4]) (i_zipS (a_cons (v_op d_ix v_var (v_un d_neg v_int)) (a_cons v_str a_nil))) (g_tl (gs_cons g_name (gs_cons g_name gs_nil))) (by decide) t_yes (v_op d_add v_var (v_cb c_int (a_cons (v_op d_eq v_var v_var) a_nil)))) a_nil)))
    s_retV))⟩
theorem ok_last_cut (T : Txt K mg base A) : FnOk P w K mg base (L2.CX P w) 1 A.f_last_cut A.d_last_cut p_last_cut (spF (GG K A) F_last_cut) :=
  fn_ok (k := 0) rfl rfl T.F_last_cut sc_last_cut fun cdv Ar outer s H E hr => ⟨_,
    (pss_cons (ps_set (i := 2) sc_last_cut.nd rfl (by first | exact Or.inl rfl | exact Or.inr rfl) (pe_op or_add (pe_lst (pa_cons pe_int pa_nil)) (pv 0)))
    (pss_cons (ps_set (i := 3) sc_last_cut.nd rfl (by first | exact Or.inl rfl | exact Or.inr rfl) (pe_callB (cr_sum rfl) (by rfl) T.z_sum (by decide +kernel) (pa_cons (pe_lc (own := [("k", 4)]) rfl sc_last_cut.nd (pi_range3 (by rfl) T.z_range (pa_cons (pe_op op_modN (pe_callB call_len (by rfl) T.z_len (by decide +kernel) (pa_cons (pv 0) pa_nil)) pe_int) (pa_cons (pe_callB call_len (by rfl) T.z_len (by decide +kernel) (pa_cons (pv 0) pa_nil)) (pa_cons pe_int pa_nil)))) (blkOk_by (N := n_last_cut) (sc := defScope (s_last_cut)) (by decide +kernel)) (fun _ _ _ _ _ => (pg_name (i := 4) sc_last_cut.nd rfl (by first | exact Or.inl rfl | exact Or.inr rfl))) (fun _ _ _ _ _ => pts_nil) (fun _ _ _ _ _ => (pe_op op_sub (pe_ix ix_seq (pv 2) (pe_op or_add (pv 4) pe_int) (fun _ _ => rfl)) (pe_ix ix_seq (pv 2) (pv 4) (fun _ _ => rfl))))) pa_nil)))
    (pss_one (ps_ret (pe_op op_sub (pe_op or_add (pe_ix ix_seq (pv 2) (pe_un un_neg pe_int) (fun _ _ => rfl)) (pe_op or_div (pv 1) pe_int)) (pv 3)))))),
    (s_seq (s_setF (v_op d_add (v_lst (a_cons v_int a_nil)) v_var))
    (s_seq (s_setF (v_cb c_sum (a_cons (v_lc (vs := [4]) (js := [4]) (i_range3 (a_cons (v_op d_mod (v_cb c_len (a_cons v_var a_nil)) v_int) (a_cons (v_cb c_len (a_cons v_var a_nil)) (a_cons v_int a_nil)))) g_name (by decide) t_yes (v_op d_sub (v_op d_ix v_var (v_op d_add v_var v_int)) (v_op d_ix v_var v_var))) a_nil)))
    (s_ret (v_op d_sub (v_op d_add (v_op d_ix v_var (v_un d_neg v_int)) (v_op d_div v_var v_int)) v_var))))⟩
theorem ok_gives_halves (T : Txt K mg base A) : FnOk P w K mg base (L2.CX P w) 1 A.f_gives_halves A.d_gives_halves p_gives_halves (spF (GG K A) F_gives_halves) :=
  fn_ok (k := 0) rfl rfl T.F_gives_halves sc_gives_halves fun cdv Ar outer s H E hr => ⟨_,
    (pss_cons (ps_set (i := 2) sc_gives_halves.nd rfl (by first | exact Or.inl rfl | exact Or.inr rfl) (pe_op or_add (pe_op or_add (pe_lst (pa_cons pe_int pa_nil)) (pv 1)) (pe_lst (pa_cons (pe_op op_sub (pe_callB call_len (by rfl) T.z_len (by decide +kernel) (pa_cons (pv 0) pa_nil)) pe_int) pa_nil))))
    (pss_cons (ps_set (i := 3) sc_gives_halves.nd rfl (by first | exact Or.inl rfl | exact Or.inr rfl) (pe_lst (pa_cons pe_int (pa_cons pe_int (pa_cons pe_int pa_nil)))))
    (pss_cons (ps_for (passes_of rfl) rfl (pi_range3 (by rfl) T.z_range (pa_cons pe_int (pa_cons (pe_op op_sub (pe_callB call_len (by rfl) T.z_len (by decide +kernel) (pa_cons (pv 2) pa_nil)) pe_int) (pa_cons pe_int pa_nil)))) (pg_name (i := 4) sc_gives_halves.nd rfl (by first | exact Or.inl rfl | exact Or.inr rfl)) (pss_one (ps_setLc (i := 3) (own := [("one", 5), ("more", 6), ("less", 7)]) rfl sc_gives_halves.nd rfl rfl (sw_true rfl rfl rfl (by decide +kernel)) (pi_zip3 (by rfl) T.z_zip (pa_cons (pv 3) (pa_cons (pe_ix ix_seq (pv 0) (pe_ix ix_seq (pv 2) (pe_op or_add (pv 4) pe_int) (fun _ _ => rfl)) (fun _ _ => rfl)) (pa_cons (pe_ix ix_seq (pv 0) (pe_ix ix_seq (pv 2) (pv 4) (fun _ _ => rfl)) (fun _ _ => rfl)) pa_nil)))) (blkOk_by (N := n_gives_halves) (sc := defScope (s_gives_halves)) (by decide +kernel)) (fun _ _ _ _ _ => (pg_tl rfl (pgs_cons (pg_name (i := 5) sc_gives_halves.nd rfl (by first | exact Or.inl rfl | exact Or.inr rfl)) (pgs_cons (pg_name (i := 6) sc_gives_halves.nd rfl (by first | exact Or.inl rfl | exact Or.inr rfl)) (pgs_cons (pg_name (i := 7) sc_gives_halves.nd rfl (by first | exact Or.inl rfl | exact Or.inr rfl)) pgs_nil))))) (fun _ _ _ _ _ => pts_nil) (fun _ _ _ _ _ => (pe_op op_sub (pe_op or_add (pv 5) (pv 6)) (pv 7))))))
    (pss_one (ps_ret (pe_cmpR (or_eq hr.units) (pe_lc (own := [("one", 5)]) rfl sc_gives_halves.nd (pi_any (pv 3)) (blkOk_by (N := n_gives_halves) (sc := defScope (s_gives_halves)) (by decide +kernel)) (fun _ _ _ _ _ => (pg_name (i := 5) sc_gives_halves.nd rfl (by first | exact Or.inl rfl | exact Or.inr rfl))) (fun _ _ _ _ _ => pts_nil) (fun _ _ _ _ _ => (pe_op or_mul pe_int (pv 5)))) (pe_ix ix_seq (pv 0) (pe_un un_neg pe_int) (fun _ _ => rfl)) (nomark _))))))),
    (s_seq (s_setF (v_op d_add (v_op d_addX (v_lst (a_cons v_int a_nil)) v_var) (v_lst (a_cons (v_op d_sub (v_cb c_len (a_cons v_var a_nil)) v_int) a_nil))))
    (s_seq (s_setF (v_lst (a_cons v_int (a_cons v_int (a_cons v_int a_nil)))))
    (s_seq (s_for (i_range3 (a_cons v_int (a_cons (v_op d_sub (v_cb c_len (a_cons v_var a_nil)) v_int) (a_cons v_int a_nil)))) g_name (s_setF (v_lc (vs := [5, 6, 7]) (i_zip3 (a_cons v_var (a_cons (v_op d_ix v_var (v_op d_ix v_var (v_op d_add v_var v_int))) (a_cons (v_op d_ix v_var (v_op d_ix v_var v_var)) a_nil)))) (g_tl (gs_cons g_name (gs_cons g_name (gs_cons g_name gs_nil)))) (by decide) t_yes (v_op d_sub (v_op d_add v_var v_var) v_var))))
    (s_ret (v_op d_eq (v_lc (vs := [5]) (js := [5]) (i_any v_var) g_name (by decide) t_yes (v_op d_mul v_int v_var)) (v_op d_ix v_var (v_un d_neg v_int)))))))⟩
theorem ok_law_box (T : Txt K mg base A) : FnOk P w K mg base (L2.CX P w) 1 A.f_law_box A.d_law_box p_law_box (spF (GG K A) F_law_box) :=
  fn_ok (k := 0) rfl rfl T.F_law_box sc_law_box fun cdv Ar outer s H E hr => ⟨_,
    (pss_cons (ps_setLc (i := 1) (own := [("_law_cell", 2)]) rfl sc_law_box.nd rfl rfl (sw_true rfl rfl rfl (by decide +kernel)) (pi_any (pv 0)) (blkOk_by (N := n_law_box) (sc := defScope (s_law_box)) (by decide +kernel)) (fun _ _ _ _ _ => (pg_name (i := 2) sc_law_box.nd rfl (by first | exact Or.inl rfl | exact Or.inr rfl))) (fun _ _ _ _ _ => (pts_one (pt_cmpR op_ge (pv 2) (pe_op op_pow pe_int pe_int) (nomark _)))) (fun _ _ _ _ _ => (pv 2)))
    (pss_one (ps_ret (pe_lst (pa_cons (pv 1) (pa_cons pe_int (pa_cons (pe_lc (own := [("_law_cell", 2)]) rfl sc_law_box.nd (pi_any (pv 0)) (blkOk_by (N := n_law_box) (sc := defScope (s_law_box)) (by decide +kernel)) (fun _ _ _ _ _ => (pg_name (i := 2) sc_law_box.nd rfl (by first | exact Or.inl rfl | exact Or.inr rfl))) (fun _ _ _ _ _ => (pts_one (pt_cmpR op_lt (pv 2) (pe_op op_pow pe_int pe_int) (nomark _)))) (fun _ _ _ _ _ => (pv 2))) (pa_cons pe_int pa_nil)))))))),
    (s_seq (s_setF (v_put (v_lc (vs := [2]) (js := [2]) (i_any v_var) g_name (by decide) (t_test (v_op d_ge v_var (v_op d_pow v_int v_int))) v_var)))
    (s_ret (v_put (v_lst (a_cons v_var (a_cons v_int (a_cons (v_lc (vs := [2]) (js := [2]) (i_any v_var) g_name (by decide) (t_test (v_op d_lt v_var (v_op d_pow v_int v_int))) v_var) (a_cons v_int a_nil))))))))⟩
theorem ok_law_mixed (T : Txt K mg base A) : FnOk P w K mg base (L2.CX P w) 1 A.f_law_mixed A.d_law_mixed p_law_mixed (spF (GG K A) F_law_mixed) :=
  fn_ok (k := 0) rfl rfl T.F_law_mixed sc_law_mixed fun cdv Ar outer s H E hr => ⟨_,
    (pss_cons (ps_set (i := 2) sc_law_mixed.nd rfl (by first | exact Or.inl rfl | exact Or.inr rfl) (pe_op op_modN (pe_op op_pow (pe_op or_add (pe_op or_add (pe_op or_add (pe_op op_modN (pv 0) pe_int) (pe_op or_mul (pe_op or_mul pe_int (pv 1)) (pv 1))) (pe_op or_mul pe_int (pv 1))) pe_int) pe_int) pe_int))
    (pss_one (ps_ret (pe_op op_modN (pe_op or_add (pe_op or_mul (pv 2) pe_int) (pe_op or_mul pe_int (pv 1))) pe_int)))),
    (s_seq (s_setF (v_op d_mod (v_op d_pow (v_op d_add (v_op d_add (v_op d_add (v_op d_mod v_var v_int) (v_op d_mul (v_op d_mul v_int v_var) v_var)) (v_op d_mul v_int v_var)) v_int) v_int) v_int))
    (s_ret (v_op d_mod (v_op d_add (v_op d_mul v_var v_int) (v_op d_mul v_int v_var)) v_int)))⟩
theorem ok_law_hands (T : Txt K mg base A) : FnOk P w K mg base (L2.CX P w) 1 A.f_law_hands A.d_law_hands p_law_hands (spF (GG K A) F_law_hands) :=
  fn_ok (k := 0) rfl rfl T.F_law_hands sc_law_hands fun cdv Ar outer s H E hr => ⟨_,
    (pss_cons (ps_set (i := 2) sc_law_hands.nd rfl (by first | exact Or.inl rfl | exact Or.inr rfl) (pe_lst (pa_cons (pe_lst (pa_cons pe_int (pa_cons pe_int (pa_cons pe_int pa_nil)))) (pa_cons (pe_lst (pa_cons pe_int (pa_cons pe_int (pa_cons pe_int pa_nil)))) pa_nil))))
    (pss_cons (ps_set (i := 3) sc_law_hands.nd rfl (by first | exact Or.inl rfl | exact Or.inr rfl) pe_int)
    (pss_cons (ps_for (passes_of rfl) rfl (pi_enumS (by rfl) T.z_enumerate (pa_cons (pv 0) pa_nil)) (pg_tl rfl (pgs_cons (pg_name (i := 4) sc_law_hands.nd rfl (by first | exact Or.inl rfl | exact Or.inr rfl)) (pgs_cons (pg_name (i := 5) sc_law_hands.nd rfl (by first | exact Or.inl rfl | exact Or.inr rfl)) pgs_nil))) (pss_cons (ps_if (pt_cmpR (or_in (unit65 hr)) (pv 4) (pv 1) (by with_unfolding_all rfl)) (pss_one (ps_set (i := 3) sc_law_hands.nd rfl (by first | exact Or.inl rfl | exact Or.inr rfl) (pe_op op_sub pe_int (pv 3)))) pss_nil)
    (pss_one (ps_augS (pe_ix ix_seq (pv 2) (pv 3) (fun _ _ => rfl)) (pe_bm PySem.F.plainAttrs_str PySem.F.slot_str_index PySem.F.type_str_index mt_index1 pe_str (pa_cons (pv 5) pa_nil)) get_list pe_int ip_add set_list))))
    (pss_one (ps_ret (pv 2)))))),
    (s_seq (s_setF (v_lst (a_cons (v_put (v_lst (a_cons v_int (a_cons v_int (a_cons v_int a_nil))))) (a_cons (v_put (v_lst (a_cons v_int (a_cons v_int (a_cons v_int a_nil))))) a_nil))))
    (s_seq (s_setF v_int)
    (s_seq (s_for (i_enumS (a_cons v_var a_nil)) (g_tl (gs_cons g_name (gs_cons g_name gs_nil))) (s_seq (s_if (t_test (v_op d_in v_var v_var)) (s_setF (v_op d_sub v_int v_var)) s_skip)
    (s_augP (v_op d_ix v_var v_var) (v_ms ms_index v_str (a_cons v_var a_nil)) v_int)))
    s_retV)))⟩
theorem ok_law_is_cuts (T : Txt K mg base A) : FnOk P w K mg base (L2.CX P w) 1 A.f_law_is_cuts A.d_law_is_cuts p_law_is_cuts (spF (GG K A) F_law_is_cuts) :=
  fn_ok (k := 0) rfl rfl T.F_law_is_cuts sc_law_is_cuts fun cdv Ar outer s H E hr => ⟨_,
    (pss_cons (ps_if (pt_not (pt_val (pe_callB call_isi (by rfl) T.z_isinstance (by decide +kernel) (pa_cons (pv 1) (pa_cons (pe_bltn (v := .ty "list") (by rfl) T.z_list (by decide +kernel) rfl) pa_nil))))) (pss_one (ps_ret pe_bl)) pss_nil)
    (pss_cons (ps_for (passes_of rfl) rfl (pi_enum (by rfl) T.z_enumerate (pa_cons (pv 1) pa_nil)) (pg_tl rfl (pgs_cons (pg_name (i := 2) sc_law_is_cuts.nd rfl (by first | exact Or.inl rfl | exact Or.inr rfl)) (pgs_cons (pg_name (i := 3) sc_law_is_cuts.nd rfl (by first | exact Or.inl rfl | exact Or.inr rfl)) pgs_nil))) (pss_cons (ps_if (PW.pt (pw_or (pt_not (pt_val (pe_callB call_isi (by rfl) T.z_isinstance (by decide +kernel) (pa_cons (pv 3) (pa_cons (pe_bltn (v := .ty "int") (by rfl) T.z_int (by decide +kernel) rfl) pa_nil))))) (pw_or (pt_val (pe_callB call_isi (by rfl) T.z_isinstance (by decide +kernel) (pa_cons (pv 3) (pa_cons (pe_bltn (v := .ty "bool") (by rfl) T.z_bool (by decide +kernel) rfl) pa_nil)))) (pw_or (pt_cmpR op_lt (pv 3) pe_int (nomark _)) (pw_or1 (pt_cmpR op_ge (pv 3) (pe_callB call_len (by rfl) T.z_len (by decide +kernel) (pa_cons (pv 0) pa_nil)) (nomark _))))))) (pss_one (ps_ret pe_bl)) pss_nil)
    (pss_one (ps_if (PW.pt (pw_and (pt_cmpR op_gt (pv 2) pe_int (nomark _)) (pw_and1 (pt_cmpR op_le (pv 3) (pe_ix ix_seq (pv 1) (pe_op op_sub (pv 2) pe_int) (fun _ _ => rfl)) (nomark _))))) (pss_one (ps_ret pe_bl)) pss_nil))))
    (pss_one (ps_ret pe_bl)))),
    (s_seq (s_if (t_not (t_val (v_isiP v_var))) (s_ret v_bl) s_skip)
    (s_seq (s_forE (a_cons v_var a_nil) (g_tl (gs_cons g_name (gs_cons g_name gs_nil))) (s_seq (s_if (t_or (t_not (t_val (v_isi v_var))) (t_or (t_val (v_isi v_var)) (t_or (t_test (v_op d_lt v_var v_int)) (t_test (v_op d_ge v_var (v_cb c_len (a_cons v_var a_nil))))))) (s_ret v_bl) s_skip)
    (s_if (t_and (t_test (v_op d_gt v_var v_int)) (t_test (v_op d_le v_var (v_op d_ix v_var (v_op d_sub v_var v_int))))) (s_ret v_bl) s_skip)))
    (s_ret v_bl)))⟩
theorem ok_law_lists_1 (T : Txt K mg base A) : FnOk P w K mg base (L2.CX P w) 1 A.f_law_lists_1 A.d_law_lists_1 p_law_lists_1 (spF (GG K A) F_law_lists_1) :=
  fn_ok (k := 0) rfl rfl T.F_law_lists_1 sc_law_lists_1 fun cdv Ar outer s H E hr => ⟨_,
    (pss_cons (ps_if (pt_cmpR (or_eq hr.units) (pv 2) pe_int (nomark _)) (pss_one (ps_ret (pe_lst (pa_cons (pe_lst pa_nil) pa_nil)))) pss_nil)
    (pss_cons (ps_set (i := 3) sc_law_lists_1.nd rfl (by first | exact Or.inl rfl | exact Or.inr rfl) (pe_lst pa_nil))
    (pss_cons (ps_for (passes_of rfl) rfl (pi_range2 (by rfl) T.z_range (pa_cons (pv 0) (pa_cons (pe_op or_add (pv 1) pe_int) pa_nil))) (pg_name (i := 4) sc_law_lists_1.nd rfl (by first | exact Or.inl rfl | exact Or.inr rfl)) (pss_one ps_never))
    (pss_one (ps_ret (pv 3)))))),
    (s_seq (s_if (t_test (v_op d_eq v_var v_int)) (s_ret (v_lst (a_cons (v_lst a_nil) a_nil))) s_skip)
    (s_seq (s_set (v_lst a_nil))
    (s_seq (s_for (i_range2 (a_cons v_var (a_cons (v_op d_add v_var v_int) a_nil))) g_name s_never)
    s_retV)))⟩
theorem ok_all_cuts_2 (T : Txt K mg base A) : FnOk P w K mg base (L2.CX P w) 2 A.f_all_cuts_2 A.d_all_cuts_2 p_all_cuts_2 (spF (GG K A) F_all_cuts_2) :=
  fn_ok (k := 1) rfl rfl T.F_all_cuts_2 sc_all_cuts_2 fun cdv Ar outer s H E hr => ⟨_,
    (pss_cons (ps_if (pt_cmpR (or_eq hr.units) (pv 2) pe_int (nomark _)) (pss_one (ps_ret (pe_lst (pa_cons (pe_lst pa_nil) pa_nil)))) pss_nil)
    (pss_cons (ps_set (i := 3) sc_all_cuts_2.nd rfl (by first | exact Or.inl rfl | exact Or.inr rfl) (pe_lst pa_nil))
    (pss_cons (ps_for (passes_of rfl) rfl (pi_range2 (by rfl) T.z_range (pa_cons (pv 0) (pa_cons (pe_op or_add (pv 1) pe_int) pa_nil))) (pg_name (i := 4) sc_all_cuts_2.nd rfl (by first | exact Or.inl rfl | exact Or.inr rfl)) (pss_one (ps_for (passes_of rfl) rfl (pi_any (pe_callS (ok_all_cuts_1 T) hr rfl T.g_all_cuts_1 T.F_all_cuts_1.kp T.b_all_cuts_1 (fun σ => passAt (takes_of rfl rfl rfl rfl) σ) (by exact (pa_cons (pe_op or_add (pv 4) pe_int) (pa_cons (pv 1) (pa_cons (pe_op op_sub (pv 2) pe_int) pa_nil)))))) (pg_name (i := 5) sc_all_cuts_2.nd rfl (by first | exact Or.inl rfl | exact Or.inr rfl)) (pss_one (ps_expr (pe_bm PySem.F.plainAttrs_list PySem.F.slot_list_append PySem.F.type_list_append mt_append (pv 3) (pa_cons (pe_op or_add (pe_lst (pa_cons (pv 4) pa_nil)) (pv 5)) pa_nil)))))))
    (pss_one (ps_ret (pv 3)))))),
    (s_seq (s_if (t_test (v_op d_eq v_var v_int)) (s_ret (v_lst (a_cons (v_lst a_nil) a_nil))) s_skip)
    (s_seq (s_set (v_lst a_nil))
    (s_seq (s_for (i_range2 (a_cons v_var (a_cons (v_op d_add v_var v_int) a_nil))) g_name (s_for (i_any (v_call (a_cons (v_op d_add v_var v_int) (a_cons v_var (a_cons (v_op d_sub v_var v_int) a_nil))))) g_name (s_mt m_append (a_cons (v_op d_add (v_lst (a_cons v_var a_nil)) v_var) a_nil))))
    s_retV)))⟩
theorem ok_law_take (T : Txt K mg base A) : FnOk P w K mg base (L2.CX P w) 2 A.f_law_take A.d_law_take p_law_take (spF (GG K A) F_law_take) :=
  fn_ok (k := 1) rfl rfl T.F_law_take sc_law_take fun cdv Ar outer s H E hr => ⟨_,
    (pss_cons (ps_asg (pe_op or_add (pe_ix ix_seq (pv 0) pe_int (fun _ _ => rfl)) pe_int) (pg_sub (pv 0) pe_int set_list))
    (pss_cons (ps_if (PW.pt (pw_and (pt_cmpR (or_eq hr.units) (pe_ix ix_seq (pv 0) pe_int (fun _ _ => rfl)) pe_int (nomark _)) (pw_and1 (pt_cmpR op_gt (pe_callB call_len (by rfl) T.z_len (by decide +kernel) (pa_cons (pe_ix ix_seq (pv 0) pe_int (fun _ _ => rfl)) pa_nil)) pe_int (nomark _))))) (pss_one (ps_asg (pe_bm PySem.F.plainAttrs_list PySem.F.slot_list_pop PySem.F.type_list_pop mt_popAt (pe_ix ix_seq (pv 0) pe_int (fun _ _ => rfl)) (pa_cons pe_int pa_nil)) (pg_sub (pv 0) pe_int set_list))) pss_nil)
    (pss_cons (ps_if (pt_cmpR op_gt (pe_ix ix_seq (pv 0) pe_int (fun _ _ => rfl)) pe_int (nomark _)) (pss_cons (ps_set (i := 3) sc_law_take.nd rfl (by first | exact Or.inl rfl | exact Or.inr rfl) (pe_op op_modN (pe_ix ix_seq (pv 0) pe_int (fun _ _ => rfl)) (pv 1)))
    (pss_cons (ps_asg (pe_op or_div (pe_ix ix_seq (pv 0) pe_int (fun _ _ => rfl)) (pv 1)) (pg_sub (pv 0) pe_int set_list))
    (pss_one (ps_ret (pv 3))))) pss_nil)
    (pss_cons (ps_set (i := 2) sc_law_take.nd rfl (by first | exact Or.inl rfl | exact Or.inr rfl) (pe_op or_mul pe_int (pe_ix ix_seq (pv 0) pe_int (fun _ _ => rfl))))
    (pss_cons (ps_if (pt_cmpR op_gt (pe_callB call_len (by rfl) T.z_len (by decide +kernel) (pa_cons (pe_ix ix_seq (pv 0) pe_int (fun _ _ => rfl)) pa_nil)) pe_int (nomark _)) (pss_one (ps_set (i := 2) sc_law_take.nd rfl (by first | exact Or.inl rfl | exact Or.inr rfl) (pe_ix ix_seq (pe_ix ix_seq (pv 0) pe_int (fun _ _ => rfl)) (pe_op op_modN (pe_ix ix_seq (pv 0) pe_int (fun _ _ => rfl)) (pe_callB call_len (by rfl) T.z_len (by decide +kernel) (pa_cons (pe_ix ix_seq (pv 0) pe_int (fun _ _ => rfl)) pa_nil))) (fun _ _ => rfl)))) pss_nil)
    (pss_cons (ps_set (i := 3) sc_law_take.nd rfl (by first | exact Or.inl rfl | exact Or.inr rfl) pe_int)
    (pss_cons (ps_set (i := 4) sc_law_take.nd rfl (by first | exact Or.inl rfl | exact Or.inr rfl) pe_int)
    (pss_cons (ps_while (passes_of rfl) (pt_cmpR op_lt (pv 4) (pv 1) (nomark _)) (pss_cons (ps_set (i := 3) sc_law_take.nd rfl (by first | exact Or.inl rfl | exact Or.inr rfl) (pe_op or_add (pe_op or_mul (pv 3) pe_int) (pe_callS (ok_law_mixed T) hr rfl T.g_law_mixed T.F_law_mixed.kp T.b_law_mixed (fun σ => passAt (takes_of rfl rfl rfl rfl) σ) (by exact (pa_cons (pv 2) (pa_cons (pe_op or_add (pe_ix ix_seq (pv 0) pe_int (fun _ _ => rfl)) (pe_op or_mul pe_int (pe_op op_modN (pv 3) pe_int))) pa_nil))))))
    (pss_one (ps_set (i := 4) sc_law_take.nd rfl (by first | exact Or.inl rfl | exact Or.inr rfl) (pe_op or_mul (pv 4) pe_int)))))
    (pss_one (ps_ret (pe_op op_modN (pv 3) (pv 1)))))))))))),
    (s_seq (s_setI (v_op d_add (v_op d_ix v_var v_int) v_int) v_int)
    (s_seq (s_if (t_and (t_test (v_op d_eq (v_op d_ix v_var v_int) v_int)) (t_test (v_op d_gt (v_cb c_len (a_cons (v_op d_ix v_var v_int) a_nil)) v_int))) (s_setI (v_mtX m_popAt (v_op d_ix v_var v_int) (a_cons v_int a_nil)) v_int) s_skip)
    (s_seq (s_if (t_test (v_op d_gt (v_op d_ix v_var v_int) v_int)) (s_seq (s_setF (v_op d_mod (v_op d_ix v_var v_int) v_var))
    (s_seq (s_setI (v_op d_div (v_op d_ix v_var v_int) v_var) v_int)
    s_retV)) s_skip)
    (s_seq (s_setF (v_op d_mul v_int (v_op d_ix v_var v_int)))
    (s_seq (s_if (t_test (v_op d_gt (v_cb c_len (a_cons (v_op d_ix v_var v_int) a_nil)) v_int)) (s_setF (v_op d_ix (v_op d_ix v_var v_int) (v_op d_mod (v_op d_ix v_var v_int) (v_cb c_len (a_cons (v_op d_ix v_var v_int) a_nil))))) s_skip)
    (s_seq (s_setF v_int)
    (s_seq (s_setF v_int)
    (s_seq (s_while (t_test (v_op d_lt v_var v_var)) (s_seq (s_setF (v_op d_add (v_op d_mul v_var v_int) (v_call (a_cons v_var (a_cons (v_op d_add (v_op d_ix v_var v_int) (v_op d_mul v_int (v_op d_mod v_var v_int))) a_nil)))))
    (s_setF (v_op d_mul v_var v_int))))
    (s_ret (v_op d_mod v_var v_var))))))))))⟩
theorem ok_law_lists_2 (T : Txt K mg base A) : FnOk P w K mg base (L2.CX P w) 2 A.f_law_lists_2 A.d_law_lists_2 p_law_lists_2 (spF (GG K A) F_law_lists_2) :=
  fn_ok (k := 1) rfl rfl T.F_law_lists_2 sc_law_lists_2 fun cdv Ar outer s H E hr => ⟨_,
    (pss_cons (ps_if (pt_cmpR (or_eq hr.units) (pv 2) pe_int (nomark _)) (pss_one (ps_ret (pe_lst (pa_cons (pe_lst pa_nil) pa_nil)))) pss_nil)
    (pss_cons (ps_set (i := 3) sc_law_lists_2.nd rfl (by first | exact Or.inl rfl | exact Or.inr rfl) (pe_lst pa_nil))
    (pss_cons (ps_for (passes_of rfl) rfl (pi_range2 (by rfl) T.z_range (pa_cons (pv 0) (pa_cons (pe_op or_add (pv 1) pe_int) pa_nil))) (pg_name (i := 4) sc_law_lists_2.nd rfl (by first | exact Or.inl rfl | exact Or.inr rfl)) (pss_one (ps_for (passes_of rfl) rfl (pi_any (pe_callS (ok_law_lists_1 T) hr rfl T.g_law_lists_1 T.F_law_lists_1.kp T.b_law_lists_1 (fun σ => passAt (takes_of rfl rfl rfl rfl) σ) (by exact (pa_cons (pe_op or_add (pv 4) pe_int) (pa_cons (pv 1) (pa_cons (pe_op op_sub (pv 2) pe_int) pa_nil)))))) (pg_name (i := 5) sc_law_lists_2.nd rfl (by first | exact Or.inl rfl | exact Or.inr rfl)) (pss_one (ps_expr (pe_bm PySem.F.plainAttrs_list PySem.F.slot_list_append PySem.F.type_list_append mt_append (pv 3) (pa_cons (pe_op or_add (pe_lst (pa_cons (pv 4) pa_nil)) (pv 5)) pa_nil)))))))
    (pss_one (ps_ret (pv 3)))))),
    (s_seq (s_if (t_test (v_op d_eq v_var v_int)) (s_ret (v_lst (a_cons (v_lst a_nil) a_nil))) s_skip)
    (s_seq (s_set (v_lst a_nil))
    (s_seq (s_for (i_range2 (a_cons v_var (a_cons (v_op d_add v_var v_int) a_nil))) g_name (s_for (i_any (v_call (a_cons (v_op d_add v_var v_int) (a_cons v_var (a_cons (v_op d_sub v_var v_int) a_nil))))) g_name (s_mt m_append (a_cons (v_op d_add (v_lst (a_cons v_var a_nil)) v_var) a_nil))))
    s_retV)))⟩
theorem ok_ask_beads (T : Txt K mg base A) : FnOk P w K mg base (L2.CX P w) 3 A.f_ask_beads A.d_ask_beads p_ask_beads (spF (GG K A) F_ask_beads) :=
  fn_ok (k := 2) rfl rfl T.F_ask_beads sc_ask_beads fun cdv Ar outer s H E hr => ⟨_,
    (pss_one (ps_for (passes_of rfl) rfl (pi_enumS (by rfl) T.z_enumerate (pa_cons (pv 0) pa_nil)) (pg_tl rfl (pgs_cons (pg_name (i := 1) sc_ask_beads.nd rfl (by first | exact Or.inl rfl | exact Or.inr rfl)) (pgs_cons (pg_name (i := 2) sc_ask_beads.nd rfl (by first | exact Or.inl rfl | exact Or.inr rfl)) pgs_nil))) (pss_one (ps_if (PW.pt (pw_or (pt_cmpR (or_eq hr.units) (pv 1) (pe_glob (v := .int 24) rfl T.m_MOST_BEADS ⟨_, rfl⟩) (nomark _)) (pw_or1 (pt_cmpR (or_notin (unit65 hr)) (pv 2) (pe_glob (v := .str "abc") rfl T.m_LETTERS ⟨_, rfl⟩) (by with_unfolding_all rfl))))) (pss_one (ps_raise rfl (takes_of rfl rfl rfl rfl) (pmk_oex T.oex_NoBeads T.ini_NoBeads T.tin_NoBeads (ok_NoBeads___init__ T) hr T.b_NoBeads___init__ .nil L2.pass0 rfl T.g_NoBeads (by exact (pa_cons (pv 1) pa_nil))))) pss_nil)))),
    (s_for (i_enumS (a_cons v_var a_nil)) (g_tl (gs_cons g_name (gs_cons g_name gs_nil))) (s_if (t_or (t_test (v_op d_eq v_var v_int)) (t_test (v_op d_notin v_var v_str))) (s_raiseF rfl rfl T.oex_NoBeads T.xno_NoBeads (a_cons v_var a_nil)) s_skip))⟩
theorem ok_all_cuts (T : Txt K mg base A) : FnOk P w K mg base (L2.CX P w) 3 A.f_all_cuts A.d_all_cuts p_all_cuts (spF (GG K A) F_all_cuts) :=
  fn_ok (k := 2) rfl rfl T.F_all_cuts sc_all_cuts fun cdv Ar outer s H E hr => ⟨_,
    (pss_cons (ps_if (pt_cmpR (or_eq hr.units) (pv 2) pe_int (nomark _)) (pss_one (ps_ret (pe_lst (pa_cons (pe_lst pa_nil) pa_nil)))) pss_nil)
    (pss_cons (ps_set (i := 3) sc_all_cuts.nd rfl (by first | exact Or.inl rfl | exact Or.inr rfl) (pe_lst pa_nil))
    (pss_cons (ps_for (passes_of rfl) rfl (pi_range2 (by rfl) T.z_range (pa_cons (pv 0) (pa_cons (pe_op or_add (pv 1) pe_int) pa_nil))) (pg_name (i := 4) sc_all_cuts.nd rfl (by first | exact Or.inl rfl | exact Or.inr rfl)) (pss_one (ps_for (passes_of rfl) rfl (pi_any (pe_callS (ok_all_cuts_2 T) hr rfl T.g_all_cuts_2 T.F_all_cuts_2.kp T.b_all_cuts_2 (fun σ => passAt (takes_of rfl rfl rfl rfl) σ) (by exact (pa_cons (pe_op or_add (pv 4) pe_int) (pa_cons (pv 1) (pa_cons (pe_op op_sub (pv 2) pe_int) pa_nil)))))) (pg_name (i := 5) sc_all_cuts.nd rfl (by first | exact Or.inl rfl | exact Or.inr rfl)) (pss_one (ps_expr (pe_bm PySem.F.plainAttrs_list PySem.F.slot_list_append PySem.F.type_list_append mt_append (pv 3) (pa_cons (pe_op or_add (pe_lst (pa_cons (pv 4) pa_nil)) (pv 5)) pa_nil)))))))
    (pss_one (ps_ret (pv 3)))))),
    (s_seq (s_if (t_test (v_op d_eq v_var v_int)) (s_ret (v_lst (a_cons (v_lst a_nil) a_nil))) s_skip)
    (s_seq (s_set (v_lst a_nil))
    (s_seq (s_for (i_range2 (a_cons v_var (a_cons (v_op d_add v_var v_int) a_nil))) g_name (s_for (i_any (v_call (a_cons (v_op d_add v_var v_int) (a_cons v_var (a_cons (v_op d_sub v_var v_int) a_nil))))) g_name (s_mt m_append (a_cons (v_op d_add (v_lst (a_cons v_var a_nil)) v_var) a_nil))))
    s_retV)))⟩
theorem ok_law_beads (T : Txt K mg base A) : FnOk P w K mg base (L2.CX P w) 3 A.f_law_beads A.d_law_beads p_law_beads (spF (GG K A) F_law_beads) :=
  fn_ok (k := 2) rfl rfl T.F_law_beads sc_law_beads fun cdv Ar outer s H E hr => ⟨_,
    (pss_cons (ps_set (i := 2) sc_law_beads.nd rfl (by first | exact Or.inl rfl | exact Or.inr rfl) (pe_op or_add pe_int (pe_callS (ok_law_take T) hr rfl T.g_law_take T.F_law_take.kp T.b_law_take (fun σ => passAt (takes_of rfl rfl rfl rfl) σ) (by exact (pa_cons (pv 0) (pa_cons pe_int pa_nil))))))
    (pss_cons (ps_setLc (i := 3) (own := [("_law_k", 6)]) rfl sc_law_beads.nd rfl rfl (sw_true rfl rfl rfl (by decide +kernel)) (pi_range1 (by rfl) T.z_range (pa_cons (pe_callS (ok_law_take T) hr rfl T.g_law_take T.F_law_take.kp T.b_law_take (fun σ => passAt (takes_of rfl rfl rfl rfl) σ) (by exact (pa_cons (pv 0) (pa_cons (pe_op or_add (pe_op or_div (pv 1) pe_int) pe_int) pa_nil)))) pa_nil)) (blkOk_by (N := n_law_beads) (sc := defScope (s_law_beads)) (by decide +kernel)) (fun _ _ _ _ _ => (pg_name (i := 6) sc_law_beads.nd rfl (by first | exact Or.inl rfl | exact Or.inr rfl))) (fun _ _ _ _ _ => pts_nil) (fun _ _ _ _ _ => (pe_ix ix_seq pe_str (pe_callS (ok_law_take T) hr rfl T.g_law_take T.F_law_take.kp T.b_law_take (fun σ => passAt takes0 σ) (by exact (pa_cons (pv 0) (pa_cons (pv 2) pa_nil)))) (fun _ _ => rfl))))
    (pss_cons (ps_set (i := 4) sc_law_beads.nd rfl (by first | exact Or.inl rfl | exact Or.inr rfl) (pe_op or_add (pv 3) (pv 3)))
    (pss_cons (ps_set (i := 5) sc_law_beads.nd rfl (by first | exact Or.inl rfl | exact Or.inr rfl) pe_str)
    (pss_cons (ps_while (passes_of rfl) (pt_cmpR op_gt (pe_callB call_len (by rfl) T.z_len (by decide +kernel) (pa_cons (pv 4) pa_nil)) pe_int (nomark _)) (pss_one (ps_set (i := 5) sc_law_beads.nd rfl (by first | exact Or.inl rfl | exact Or.inr rfl) (pe_op or_add (pv 5) (pe_bm PySem.F.plainAttrs_list PySem.F.slot_list_pop PySem.F.type_list_pop mt_popAt (pv 4) (pa_cons (pe_callS (ok_law_take T) hr rfl T.g_law_take T.F_law_take.kp T.b_law_take (fun σ => passAt (takes_of rfl rfl rfl rfl) σ) (by exact (pa_cons (pv 0) (pa_cons (pe_callB call_len (by rfl) T.z_len (by decide +kernel) (pa_cons (pv 4) pa_nil)) pa_nil)))) pa_nil))))))
    (pss_one (ps_ret (pv 5)))))))),
    (s_seq (s_setF (v_op d_add v_int (v_call (a_cons v_var (a_cons v_int a_nil)))))
    (s_seq (s_setF (v_lc (vs := [6]) (js := [6]) (i_range1 (a_cons (v_call (a_cons v_var (a_cons (v_op d_add (v_op d_div v_var v_int) v_int) a_nil))) a_nil)) g_name (by decide) t_yes (v_op d_ix v_str (v_call (a_cons v_var (a_cons v_var a_nil))))))
    (s_seq (s_setF (v_put (v_op d_add v_var v_var)))
    (s_seq (s_setF v_str)
    (s_seq (s_while (t_test (v_op d_gt (v_cb c_len (a_cons v_var a_nil)) v_int)) (s_setF (v_op d_add v_var (v_mtX m_popAt v_var (a_cons (v_call (a_cons v_var (a_cons (v_cb c_len (a_cons v_var a_nil)) a_nil))) a_nil)))))
    s_retV)))))⟩
theorem ok_law_lists (T : Txt K mg base A) : FnOk P w K mg base (L2.CX P w) 3 A.f_law_lists A.d_law_lists p_law_lists (spF (GG K A) F_law_lists) :=
  fn_ok (k := 2) rfl rfl T.F_law_lists sc_law_lists fun cdv Ar outer s H E hr => ⟨_,
    (pss_cons (ps_if (pt_cmpR (or_eq hr.units) (pv 2) pe_int (nomark _)) (pss_one (ps_ret (pe_lst (pa_cons (pe_lst pa_nil) pa_nil)))) pss_nil)
    (pss_cons (ps_set (i := 3) sc_law_lists.nd rfl (by first | exact Or.inl rfl | exact Or.inr rfl) (pe_lst pa_nil))
    (pss_cons (ps_for (passes_of rfl) rfl (pi_range2 (by rfl) T.z_range (pa_cons (pv 0) (pa_cons (pe_op or_add (pv 1) pe_int) pa_nil))) (pg_name (i := 4) sc_law_lists.nd rfl (by first | exact Or.inl rfl | exact Or.inr rfl)) (pss_one (ps_for (passes_of rfl) rfl (pi_any (pe_callS (ok_law_lists_2 T) hr rfl T.g_law_lists_2 T.F_law_lists_2.kp T.b_law_lists_2 (fun σ => passAt (takes_of rfl rfl rfl rfl) σ) (by exact (pa_cons (pe_op or_add (pv 4) pe_int) (pa_cons (pv 1) (pa_cons (pe_op op_sub (pv 2) pe_int) pa_nil)))))) (pg_name (i := 5) sc_law_lists.nd rfl (by first | exact Or.inl rfl | exact Or.inr rfl)) (pss_one (ps_expr (pe_bm PySem.F.plainAttrs_list PySem.F.slot_list_append PySem.F.type_list_append mt_append (pv 3) (pa_cons (pe_op or_add (pe_lst (pa_cons (pv 4) pa_nil)) (pv 5)) pa_nil)))))))
    (pss_one (ps_ret (pv 3)))))),
    (s_seq (s_if (t_test (v_op d_eq v_var v_int)) (s_ret (v_lst (a_cons (v_lst a_nil) a_nil))) s_skip)
    (s_seq (s_set (v_lst a_nil))
    (s_seq (s_for (i_range2 (a_cons v_var (a_cons (v_op d_add v_var v_int) a_nil))) g_name (s_for (i_any (v_call (a_cons (v_op d_add v_var v_int) (a_cons v_var (a_cons (v_op d_sub v_var v_int) a_nil))))) g_name (s_mt m_append (a_cons (v_op d_add (v_lst (a_cons v_var a_nil)) v_var) a_nil))))
    s_retV)))⟩
theorem ok_fewest_cuts (T : Txt K mg base A) : FnOk P w K mg base (L2.CX P w) 4 A.f_fewest_cuts A.d_fewest_cuts p_fewest_cuts (spF (GG K A) F_fewest_cuts) :=
  fn_ok (k := 3) rfl rfl T.F_fewest_cuts sc_fewest_cuts fun cdv Ar outer s H E hr => ⟨_,
    (pss_cons (ps_expr (pe_callS (ok_ask_beads T) hr rfl T.g_ask_beads T.F_ask_beads.kp T.b_ask_beads (fun σ => passAt (takes_of rfl rfl rfl rfl) σ) (by exact (pa_cons (pv 0) pa_nil))))
    (pss_cons (ps_for (passes_of rfl) rfl (pi_any (pe_glob (v := .str "abc") rfl T.m_LETTERS ⟨_, rfl⟩)) (pg_name (i := 1) sc_fewest_cuts.nd rfl (by first | exact Or.inl rfl | exact Or.inr rfl)) (pss_one (ps_if (pt_cmpR (or_eq hr.units) (pe_op op_modN (pe_bm PySem.F.plainAttrs_str PySem.F.slot_str_count PySem.F.type_str_count mt_count (pv 0) (pa_cons (pv 1) pa_nil)) pe_int) pe_int (nomark _)) (pss_one (ps_raise rfl (takes_of rfl rfl rfl rfl) (pmk_oex T.oex_Odd T.ini_Odd T.tin_Odd (ok_Odd___init__ T) (hr.mono (by decide)) T.b_Odd___init__ .nil L2.pass0 rfl T.g_Odd (by exact (pa_cons (pv 1) pa_nil))))) pss_nil)))
    (pss_cons (ps_set (i := 2) sc_fewest_cuts.nd rfl (by first | exact Or.inl rfl | exact Or.inr rfl) (pe_callS (ok_sums_ahead T) (hr.mono (by decide)) rfl T.g_sums_ahead T.F_sums_ahead.kp T.b_sums_ahead (fun σ => passAt (takes_of rfl rfl rfl rfl) σ) (by exact (pa_cons (pv 0) pa_nil))))
    (pss_cons (ps_set (i := 3) sc_fewest_cuts.nd rfl (by first | exact Or.inl rfl | exact Or.inr rfl) pe_int)
    (pss_cons (ps_while (passes_of rfl) (pt_cmpR op_lt (pv 3) (pe_callB call_len (by rfl) T.z_len (by decide +kernel) (pa_cons (pv 0) pa_nil)) (nomark _)) (pss_cons (ps_for (passes_of rfl) rfl (pi_any (pe_callS (ok_all_cuts T) hr rfl T.g_all_cuts T.F_all_cuts.kp T.b_all_cuts (fun σ => passAt (takes_of rfl rfl rfl rfl) σ) (by exact (pa_cons pe_int (pa_cons (pe_op op_sub (pe_callB call_len (by rfl) T.z_len (by decide +kernel) (pa_cons (pv 0) pa_nil)) pe_int) (pa_cons (pe_op op_sub (pv 3) pe_int) pa_nil)))))) (pg_name (i := 4) sc_fewest_cuts.nd rfl (by first | exact Or.inl rfl | exact Or.inr rfl)) (pss_cons (ps_set (i := 5) sc_fewest_cuts.nd rfl (by first | exact Or.inl rfl | exact Or.inr rfl) (pe_op or_add (pv 4) (pe_lst (pa_cons (pe_callS (ok_last_cut T) (hr.mono (by decide)) rfl T.g_last_cut T.F_last_cut.kp T.b_last_cut (fun σ => passAt (takes_of rfl rfl rfl rfl) σ) (by exact (pa_cons (pv 4) (pa_cons (pe_callB call_len (by rfl) T.z_len (by decide +kernel) (pa_cons (pv 0) pa_nil)) pa_nil)))) pa_nil))))
    (pss_one (ps_if (PW.pt (pw_and (pt_val (pe_callS (ok_is_cuts T) (hr.mono (by decide)) rfl T.g_is_cuts T.F_is_cuts.kp T.b_is_cuts (fun σ => passAt (takes_of rfl rfl rfl rfl) σ) (by exact (pa_cons (pv 0) (pa_cons (pv 5) pa_nil))))) (pw_and1 (pt_val (pe_callS (ok_gives_halves T) (hr.mono (by decide)) rfl T.g_gives_halves T.F_gives_halves.kp T.b_gives_halves (fun σ => passAt (takes_of rfl rfl rfl rfl) σ) (by exact (pa_cons (pv 2) (pa_cons (pv 5) pa_nil)))))))) (pss_one (ps_ret (pv 5))) pss_nil))))
    (pss_one (ps_aug (i := 3) sc_fewest_cuts.nd rfl (by first | exact Or.inl rfl | exact Or.inr rfl) pe_int ip_add))))
    (pss_one (ps_ret (pe_lst pa_nil)))))))),
    (s_seq (s_drop (v_call (a_cons v_var a_nil)))
    (s_seq (s_for (i_any v_str) g_name (s_if (t_test (v_op d_eq (v_op d_mod (v_ms ms_count v_var (a_cons v_var a_nil)) v_int) v_int)) (s_raiseF rfl rfl T.oex_Odd T.xno_Odd (a_cons v_var a_nil)) s_skip))
    (s_seq (s_setF (v_call (a_cons v_var a_nil)))
    (s_seq (s_setF v_int)
    (s_seq (s_while (t_test (v_op d_lt v_var (v_cb c_len (a_cons v_var a_nil)))) (s_seq (s_for (i_any (v_call (a_cons v_int (a_cons (v_op d_sub (v_cb c_len (a_cons v_var a_nil)) v_int) (a_cons (v_op d_sub v_var v_int) a_nil))))) g_name (s_seq (s_setF (v_put (v_op d_add v_var (v_lst (a_cons (v_call (a_cons v_var (a_cons (v_cb c_len (a_cons v_var a_nil)) a_nil))) a_nil)))))
    (s_if (t_and (t_val (v_call (a_cons v_var (a_cons v_var a_nil)))) (t_val (v_call (a_cons v_var (a_cons v_var a_nil))))) s_retV s_skip)))
    (s_aug v_int)))
    (s_ret (v_put (v_lst a_nil))))))))⟩
theorem ok_law_fewest (T : Txt K mg base A) : FnOk P w K mg base (L2.CX P w) 4 A.f_law_fewest A.d_law_fewest p_law_fewest (spF (GG K A) F_law_fewest) :=
  fn_ok (k := 3) rfl rfl T.F_law_fewest sc_law_fewest fun cdv Ar outer s H E hr => ⟨_,
    (pss_cons (ps_if (PW.pt (pw_or (pt_not (pt_val (pe_callS (ok_law_is_cuts T) (hr.mono (by decide)) rfl T.g_law_is_cuts T.F_law_is_cuts.kp T.b_law_is_cuts (fun σ => passAt (takes_of rfl rfl rfl rfl) σ) (by exact (pa_cons (pv 0) (pa_cons (pv 1) pa_nil)))))) (pw_or1 (pt_cmpR op_gt (pe_callB call_len (by rfl) T.z_len (by decide +kernel) (pa_cons (pv 1) pa_nil)) (pe_lenSetT (by rfl) T.z_len (by rfl) T.z_set (pv 0)) (nomark _))))) (pss_one (ps_ret pe_bl)) pss_nil)
    (pss_cons (ps_if (pt_cmpR (or_ne hr.units) (pe_ix ix_seq (pe_callS (ok_law_hands T) (hr.mono (by decide)) rfl T.g_law_hands T.F_law_hands.kp T.b_law_hands (fun σ => passAt (takes_of rfl rfl rfl rfl) σ) (by exact (pa_cons (pv 0) (pa_cons (pv 1) pa_nil)))) pe_int (fun _ _ => rfl)) (pe_ix ix_seq (pe_callS (ok_law_hands T) (hr.mono (by decide)) rfl T.g_law_hands T.F_law_hands.kp T.b_law_hands (fun σ => passAt (takes_of rfl rfl rfl rfl) σ) (by exact (pa_cons (pv 0) (pa_cons (pv 1) pa_nil)))) pe_int (fun _ _ => rfl)) (nomark _)) (pss_one (ps_ret pe_bl)) pss_nil)
    (pss_cons (ps_for (passes_of rfl) rfl (pi_range1 (by rfl) T.z_range (pa_cons (pe_callB call_len (by rfl) T.z_len (by decide +kernel) (pa_cons (pv 1) pa_nil)) pa_nil)) (pg_name (i := 2) sc_law_fewest.nd rfl (by first | exact Or.inl rfl | exact Or.inr rfl)) (pss_one (ps_for (passes_of rfl) rfl (pi_any (pe_callS (ok_law_lists T) hr rfl T.g_law_lists T.F_law_lists.kp T.b_law_lists (fun σ => passAt (takes_of rfl rfl rfl rfl) σ) (by exact (pa_cons pe_int (pa_cons (pe_op op_sub (pe_callB call_len (by rfl) T.z_len (by decide +kernel) (pa_cons (pv 0) pa_nil)) pe_int) (pa_cons (pv 2) pa_nil)))))) (pg_name (i := 3) sc_law_fewest.nd rfl (by first | exact Or.inl rfl | exact Or.inr rfl)) (pss_cons (ps_asg (pe_callS (ok_law_hands T) (hr.mono (by decide)) rfl T.g_law_hands T.F_law_hands.kp T.b_law_hands (fun σ => passAt (takes_of rfl rfl rfl rfl) σ) (by exact (pa_cons (pv 0) (pa_cons (pv 3) pa_nil)))) (pg_tl rfl (pgs_cons (pg_name (i := 4) sc_law_fewest.nd rfl (by first | exact Or.inl rfl | exact Or.inr rfl)) (pgs_cons (pg_name (i := 5) sc_law_fewest.nd rfl (by first | exact Or.inl rfl | exact Or.inr rfl)) pgs_nil))))
    (pss_one (ps_if (pt_cmpR (or_eq hr.units) (pv 4) (pv 5) (nomark _)) (pss_one (ps_ret pe_bl)) pss_nil))))))
    (pss_one (ps_ret pe_bl))))),
    (s_seq (s_if (t_or (t_not (t_val (v_call (a_cons v_var (a_cons v_var a_nil))))) (t_test (v_op d_gt (v_cb c_len (a_cons v_var a_nil)) (v_lenSetT v_var)))) (s_ret v_bl) s_skip)
    (s_seq (s_if (t_test (v_op d_neX (v_op d_ix (v_call (a_cons v_var (a_cons v_var a_nil))) v_int) (v_op d_ix (v_call (a_cons v_var (a_cons v_var a_nil))) v_int))) (s_ret v_bl) s_skip)
    (s_seq (s_for (i_range1 (a_cons (v_cb c_len (a_cons v_var a_nil)) a_nil)) g_name (s_for (i_any (v_call (a_cons v_int (a_cons (v_op d_sub (v_cb c_len (a_cons v_var a_nil)) v_int) (a_cons v_var a_nil))))) g_name (s_seq (s_asg (v_call (a_cons v_var (a_cons v_var a_nil))) (g_tl (gs_cons g_name (gs_cons g_name gs_nil))))
    (s_if (t_test (v_op d_eqX v_var v_var)) (s_ret v_bl) s_skip))))
    (s_ret v_bl))))⟩
theorem ok_law (T : Txt K mg base A) : FnOk P w K mg base (L2.CX P w) 5 A.f_law A.d_law p_law (spF (GG K A) F_law) :=
  fn_ok (k := 4) rfl rfl T.F_law sc_law fun cdv Ar outer s H E hr => ⟨_,
    (pss_cons (ps_set (i := 1) sc_law.nd rfl (by first | exact Or.inl rfl | exact Or.inr rfl) (pe_callS (ok_law_box T) (hr.mono (by decide)) rfl T.g_law_box T.F_law_box.kp T.b_law_box (fun σ => passAt (takes_of rfl rfl rfl rfl) σ) (by exact (pa_cons (pv 0) pa_nil))))
    (pss_cons (ps_set (i := 2) sc_law.nd rfl (by first | exact Or.inl rfl | exact Or.inr rfl) (pe_callS (ok_law_beads T) (hr.mono (by decide)) rfl T.g_law_beads T.F_law_beads.kp T.b_law_beads (fun σ => passAt (takes_of rfl rfl rfl rfl) σ) (by exact (pa_cons (pv 1) (pa_cons pe_int pa_nil)))))
    (pss_cons (ps_set (i := 3) sc_law.nd rfl (by first | exact Or.inl rfl | exact Or.inr rfl) (pe_callS (ok_fewest_cuts T) hr rfl T.g_fewest_cuts T.F_fewest_cuts.kp T.b_fewest_cuts (fun σ => passAt (takes_of rfl rfl rfl rfl) σ) (by exact (pa_cons (pv 2) pa_nil))))
    (pss_cons (ps_if (pt_not (pt_val (pe_callS (ok_law_fewest T) hr rfl T.g_law_fewest T.F_law_fewest.kp T.b_law_fewest (fun σ => passAt (takes_of rfl rfl rfl rfl) σ) (by exact (pa_cons (pv 2) (pa_cons (pv 3) pa_nil)))))) (pss_one (ps_ret pe_bl)) pss_nil)
    (pss_cons (ps_expr (pe_bm PySem.F.plainAttrs_list PySem.F.slot_list_append PySem.F.type_list_append mt_append (pv 3) (pa_cons pe_int pa_nil)))
    (pss_cons (ps_asg pe_int (pg_sub (pv 3) pe_int set_list))
    (pss_one (ps_ret (pe_callS (ok_law_fewest T) hr rfl T.g_law_fewest T.F_law_fewest.kp T.b_law_fewest (fun σ => passAt (takes_of rfl rfl rfl rfl) σ) (by exact (pa_cons (pv 2) (pa_cons (by exact (pe_gK0 (ok_fewest_cuts T) hr rfl T.g_fewest_cuts T.F_fewest_cuts.kp T.B_fewest_cuts_0_beads (fun σ => passAt (takes_of rfl rfl rfl rfl) σ) (by exact (pk_cons (pv 2) pk_nil)))) pa_nil)))))))))))),
    (s_seq (s_setF (v_call (a_cons v_var a_nil)))
    (s_seq (s_setF (v_call (a_cons v_var (a_cons v_int a_nil))))
    (s_seq (s_set (v_call (a_cons v_var a_nil)))
    (s_seq (s_if (t_not (t_val (v_call (a_cons v_var (a_cons v_var a_nil))))) (s_ret v_bl) s_skip)
    (s_seq (s_mt m_append (a_cons v_int a_nil))
    (s_seq (s_setI v_int v_int)
    (s_ret (v_call (a_cons v_var (a_cons (v_callG (dd := []) rfl a_nil (a_cons v_var a_nil)) a_nil))))))))))⟩
end
end Dn
namespace Dn
open PySem PySem.Spec PyProof.Rows L2
def fx0 (K : PySem.W.Frag) : Bool := He.eqO (PySem.W.nsIn K mainGlobals "NoBeads") (some (some (.ref (He.ga K "NoBeads")))) && (He.eqO (PySem.W.nsIn K mainGlobals "Odd") (some (some (.ref (He.ga K "Odd")))) && (He.eqO (PySem.W.findIn K (.ref (He.ga K "NoBeads")) "__init__") (some (some (.ref (He.fAd K ("NoBeads", some "__init__"))))) && (He.eqO (PySem.W.findIn K (.ref (He.ga K "Odd")) "__init__") (some (some (.ref (He.fAd K ("Odd", some "__init__"))))) && (He.eqO (PySem.W.nsIn K mainGlobals "is_cuts") (some (some (.ref (He.fAd K ("is_cuts", none))))) && (He.eqO (PySem.W.nsIn K mainGlobals "all_cuts") (some (some (.ref (He.fAd K ("all_cuts", none))))) && (He.eqO (PySem.W.nsIn K mainGlobals "sums_ahead") (some (some (.ref (He.fAd K ("sums_ahead", none))))) && (He.eqO (PySem.W.nsIn K mainGlobals "last_cut") (some (some (.ref (He.fAd K ("last_cut", none))))) && (He.eqO (PySem.W.nsIn K mainGlobals "gives_halves") (some (some (.ref (He.fAd K ("gives_halves", none))))) && (He.eqO (PySem.W.nsIn K mainGlobals "_law_box") (some (some (.ref (He.fAd K ("_law_box", none))))) && (He.eqO (PySem.W.nsIn K mainGlobals "_law_mixed") (some (some (.ref (He.fAd K ("_law_mixed", none))))) && (He.eqO (PySem.W.nsIn K mainGlobals "_law_hands") (some (some (.ref (He.fAd K ("_law_hands", none))))) && (He.eqO (PySem.W.nsIn K mainGlobals "_law_is_cuts") (some (some (.ref (He.fAd K ("_law_is_cuts", none))))) && (He.eqO (PySem.W.nsIn K mainGlobals "_law_lists") (some (some (.ref (He.fAd K ("_law_lists", none))))) && (He.eqO (PySem.W.nsIn K mainGlobals "all_cuts") (some (some (.ref (He.fAd K ("all_cuts", none))))) && (He.eqO (PySem.W.nsIn K mainGlobals "_law_take") (some (some (.ref (He.fAd K ("_law_take", none))))) && (He.eqO (PySem.W.nsIn K mainGlobals "_law_lists") (some (some (.ref (He.fAd K ("_law_lists", none))))) && (He.eqO (PySem.W.nsIn K mainGlobals "ask_beads") (some (some (.ref (He.fAd K ("ask_beads", none))))) && (He.eqO (PySem.W.nsIn K mainGlobals "all_cuts") (some (some (.ref (He.fAd K ("all_cuts", none))))) && (He.eqO (PySem.W.nsIn K mainGlobals "_law_beads") (some (some (.ref (He.fAd K ("_law_beads", none))))) && (He.eqO (PySem.W.nsIn K mainGlobals "_law_lists") (some (some (.ref (He.fAd K ("_law_lists", none))))) && (He.eqO (PySem.W.nsIn K mainGlobals "fewest_cuts") (some (some (.ref (He.fAd K ("fewest_cuts", none))))) && (He.eqO (PySem.W.nsIn K mainGlobals "_law_fewest") (some (some (.ref (He.fAd K ("_law_fewest", none))))) && (He.eqO (PySem.W.nsIn K mainGlobals "law") (some (some (.ref (He.fAd K ("law", none))))) && true)))))))))))))))))))))))
theorem fx0_ok {K : PySem.W.Frag} (h0 : fx0 K = true) : (PySem.W.nsIn K mainGlobals "NoBeads" = some (some (.ref (He.ga K "NoBeads")))) ∧ (PySem.W.nsIn K mainGlobals "Odd" = some (some (.ref (He.ga K "Odd")))) ∧ (PySem.W.findIn K (.ref (He.ga K "NoBeads")) "__init__" = some (some (.ref (He.fAd K ("NoBeads", some "__init__"))))) ∧ (PySem.W.findIn K (.ref (He.ga K "Odd")) "__init__" = some (some (.ref (He.fAd K ("Odd", some "__init__"))))) ∧ (PySem.W.nsIn K mainGlobals "is_cuts" = some (some (.ref (He.fAd K ("is_cuts", none))))) ∧ (PySem.W.nsIn K mainGlobals "all_cuts" = some (some (.ref (He.fAd K ("all_cuts", none))))) ∧ (PySem.W.nsIn K mainGlobals "sums_ahead" = some (some (.ref (He.fAd K ("sums_ahead", none))))) ∧ (PySem.W.nsIn K mainGlobals "last_cut" = some (some (.ref (He.fAd K ("last_cut", none))))) ∧ (PySem.W.nsIn K mainGlobals "gives_halves" = some (some (.ref (He.fAd K ("gives_halves", none))))) ∧ (PySem.W.nsIn K mainGlobals "_law_box" = some (some (.ref (He.fAd K ("_law_box", none))))) ∧ (PySem.W.nsIn K mainGlobals "_law_mixed" = some (some (.ref (He.fAd K ("_law_mixed", none))))) ∧ (PySem.W.nsIn K mainGlobals "_law_hands" = some (some (.ref (He.fAd K ("_law_hands", none))))) ∧ (PySem.W.nsIn K mainGlobals "_law_is_cuts" = some (some (.ref (He.fAd K ("_law_is_cuts", none))))) ∧ (PySem.W.nsIn K mainGlobals "_law_lists" = some (some (.ref (He.fAd K ("_law_lists", none))))) ∧ (PySem.W.nsIn K mainGlobals "all_cuts" = some (some (.ref (He.fAd K ("all_cuts", none))))) ∧ (PySem.W.nsIn K mainGlobals "_law_take" = some (some (.ref (He.fAd K ("_law_take", none))))) ∧ (PySem.W.nsIn K mainGlobals "_law_lists" = some (some (.ref (He.fAd K ("_law_lists", none))))) ∧ (PySem.W.nsIn K mainGlobals "ask_beads" = some (some (.ref (He.fAd K ("ask_beads", none))))) ∧ (PySem.W.nsIn K mainGlobals "all_cuts" = some (some (.ref (He.fAd K ("all_cuts", none))))) ∧ (PySem.W.nsIn K mainGlobals "_law_beads" = some (some (.ref (He.fAd K ("_law_beads", none))))) ∧ (PySem.W.nsIn K mainGlobals "_law_lists" = some (some (.ref (He.fAd K ("_law_lists", none))))) ∧ (PySem.W.nsIn K mainGlobals "fewest_cuts" = some (some (.ref (He.fAd K ("fewest_cuts", none))))) ∧ (PySem.W.nsIn K mainGlobals "_law_fewest" = some (some (.ref (He.fAd K ("_law_fewest", none))))) ∧ (PySem.W.nsIn K mainGlobals "law" = some (some (.ref (He.fAd K ("law", none))))) ∧ True := by
  have h1 := (He.ba h0).2
  have h2 := (He.ba h1).2
  have h3 := (He.ba h2).2
  have h4 := (He.ba h3).2
  have h5 := (He.ba h4).2
  have h6 := (He.ba h5).2
  have h7 := (He.ba h6).2
  have h8 := (He.ba h7).2
  have h9 := (He.ba h8).2
  have h10 := (He.ba h9).2
  have h11 := (He.ba h10).2
  have h12 := (He.ba h11).2
  have h13 := (He.ba h12).2
  have h14 := (He.ba h13).2
  have h15 := (He.ba h14).2
  have h16 := (He.ba h15).2
  have h17 := (He.ba h16).2
  have h18 := (He.ba h17).2
  have h19 := (He.ba h18).2
  have h20 := (He.ba h19).2
  have h21 := (He.ba h20).2
  have h22 := (He.ba h21).2
  have h23 := (He.ba h22).2
  have h24 := (He.ba h23).2
  exact And.intro (He.eqO_ok (He.ba h0).1) (And.intro (He.eqO_ok (He.ba h1).1) (And.intro (He.eqO_ok (He.ba h2).1) (And.intro (He.eqO_ok (He.ba h3).1) (And.intro (He.eqO_ok (He.ba h4).1) (And.intro (He.eqO_ok (He.ba h5).1) (And.intro (He.eqO_ok (He.ba h6).1) (And.intro (He.eqO_ok (He.ba h7).1) (And.intro (He.eqO_ok (He.ba h8).1) (And.intro (He.eqO_ok (He.ba h9).1) (And.intro (He.eqO_ok (He.ba h10).1) (And.intro (He.eqO_ok (He.ba h11).1) (And.intro (He.eqO_ok (He.ba h12).1) (And.intro (He.eqO_ok (He.ba h13).1) (And.intro (He.eqO_ok (He.ba h14).1) (And.intro (He.eqO_ok (He.ba h15).1) (And.intro (He.eqO_ok (He.ba h16).1) (And.intro (He.eqO_ok (He.ba h17).1) (And.intro (He.eqO_ok (He.ba h18).1) (And.intro (He.eqO_ok (He.ba h19).1) (And.intro (He.eqO_ok (He.ba h20).1) (And.intro (He.eqO_ok (He.ba h21).1) (And.intro (He.eqO_ok (He.ba h22).1) (And.intro (He.eqO_ok (He.ba h23).1) True.intro)))))))))))))))))))))))
def fx1 (K : PySem.W.Frag) : Bool := He.eqO (PySem.W.nsIn K mainGlobals "bool") (some none) && (He.eqO (PySem.W.nsIn K mainGlobals "enumerate") (some none) && (He.eqO (PySem.W.nsIn K mainGlobals "int") (some none) && (He.eqO (PySem.W.nsIn K mainGlobals "isinstance") (some none) && (He.eqO (PySem.W.nsIn K mainGlobals "len") (some none) && (He.eqO (PySem.W.nsIn K mainGlobals "list") (some none) && (He.eqO (PySem.W.nsIn K mainGlobals "range") (some none) && (He.eqO (PySem.W.nsIn K mainGlobals "set") (some none) && (He.eqO (PySem.W.nsIn K mainGlobals "sum") (some none) && (He.eqO (PySem.W.nsIn K mainGlobals "zip") (some none) && (strK K "LETTERS" "abc" && (intK K "MOST_BEADS" 24 && (oexB K (He.ga K "NoBeads") "ValueError.__new__" && (He.eqO (PySem.W.findIn K (.ref (He.ga K "NoBeads")) "__setattr__") (some (some (.builtin "object.__setattr__"))) && (decide (PySem.W.subIn K (.ref (He.ga K "NoBeads")) (.type "BaseException") = some true) && (decide (PySem.W.typeIn K (.ref (He.ga K "NoBeads")) = some (.type "type")) && (PySem.W.keepIn K (.ref (He.ga K "NoBeads")) && (decide (PySem.W.typeIn K (.ref (He.fAd K ("NoBeads", some "__init__"))) = some (.type "function")) && (He.eqO (PySem.W.findIn K (.ref (He.ga K "NoBeads")) "at") (some none) && (He.eqO (PySem.W.findIn K (.ref (He.ga K "NoBeads")) "__getattribute__") (some (some (.builtin "BaseException.__getattribute__"))) && (He.eqO (PySem.W.findIn K (.ref (He.ga K "NoBeads")) "__getattr__") (some none) && (PySem.W.hasDictIn K (He.ga K "NoBeads") && (oexB K (He.ga K "Odd") "ValueError.__new__" && (He.eqO (PySem.W.findIn K (.ref (He.ga K "Odd")) "__setattr__") (some (some (.builtin "object.__setattr__"))) && true)))))))))))))))))))))))
theorem fx1_ok {K : PySem.W.Frag} (h0 : fx1 K = true) : (PySem.W.nsIn K mainGlobals "bool" = some none) ∧ (PySem.W.nsIn K mainGlobals "enumerate" = some none) ∧ (PySem.W.nsIn K mainGlobals "int" = some none) ∧ (PySem.W.nsIn K mainGlobals "isinstance" = some none) ∧ (PySem.W.nsIn K mainGlobals "len" = some none) ∧ (PySem.W.nsIn K mainGlobals "list" = some none) ∧ (PySem.W.nsIn K mainGlobals "range" = some none) ∧ (PySem.W.nsIn K mainGlobals "set" = some none) ∧ (PySem.W.nsIn K mainGlobals "sum" = some none) ∧ (PySem.W.nsIn K mainGlobals "zip" = some none) ∧ (strK K "LETTERS" "abc" = true) ∧ (intK K "MOST_BEADS" 24 = true) ∧ (oexB K (He.ga K "NoBeads") "ValueError.__new__" = true) ∧ (PySem.W.findIn K (.ref (He.ga K "NoBeads")) "__setattr__" = some (some (.builtin "object.__setattr__"))) ∧ (PySem.W.subIn K (.ref (He.ga K "NoBeads")) (.type "BaseException") = some true) ∧ (PySem.W.typeIn K (.ref (He.ga K "NoBeads")) = some (.type "type")) ∧ (PySem.W.keepIn K (.ref (He.ga K "NoBeads")) = true) ∧ (PySem.W.typeIn K (.ref (He.fAd K ("NoBeads", some "__init__"))) = some (.type "function")) ∧ (PySem.W.findIn K (.ref (He.ga K "NoBeads")) "at" = some none) ∧ (PySem.W.findIn K (.ref (He.ga K "NoBeads")) "__getattribute__" = some (some (.builtin "BaseException.__getattribute__"))) ∧ (PySem.W.findIn K (.ref (He.ga K "NoBeads")) "__getattr__" = some none) ∧ (PySem.W.hasDictIn K (He.ga K "NoBeads") = true) ∧ (oexB K (He.ga K "Odd") "ValueError.__new__" = true) ∧ (PySem.W.findIn K (.ref (He.ga K "Odd")) "__setattr__" = some (some (.builtin "object.__setattr__"))) ∧ True := by
  have h1 := (He.ba h0).2
  have h2 := (He.ba h1).2
  have h3 := (He.ba h2).2
  have h4 := (He.ba h3).2
  have h5 := (He.ba h4).2
  have h6 := (He.ba h5).2
  have h7 := (He.ba h6).2
  have h8 := (He.ba h7).2
  have h9 := (He.ba h8).2
  have h10 := (He.ba h9).2
  have h11 := (He.ba h10).2
  have h12 := (He.ba h11).2
  have h13 := (He.ba h12).2
  have h14 := (He.ba h13).2
  have h15 := (He.ba h14).2
  have h16 := (He.ba h15).2
  have h17 := (He.ba h16).2
  have h18 := (He.ba h17).2
  have h19 := (He.ba h18).2
  have h20 := (He.ba h19).2
  have h21 := (He.ba h20).2
  have h22 := (He.ba h21).2
  have h23 := (He.ba h22).2
  have h24 := (He.ba h23).2
  exact And.intro (He.eqO_ok (He.ba h0).1) (And.intro (He.eqO_ok (He.ba h1).1) (And.intro (He.eqO_ok (He.ba h2).1) (And.intro (He.eqO_ok (He.ba h3).1) (And.intro (He.eqO_ok (He.ba h4).1) (And.intro (He.eqO_ok (He.ba h5).1) (And.intro (He.eqO_ok (He.ba h6).1) (And.intro (He.eqO_ok (He.ba h7).1) (And.intro (He.eqO_ok (He.ba h8).1) (And.intro (He.eqO_ok (He.ba h9).1) (And.intro (id (He.ba h10).1) (And.intro (id (He.ba h11).1) (And.intro (id (He.ba h12).1) (And.intro (He.eqO_ok (He.ba h13).1) (And.intro (of_decide_eq_true (He.ba h14).1) (And.intro (of_decide_eq_true (He.ba h15).1) (And.intro (id (He.ba h16).1) (And.intro (of_decide_eq_true (He.ba h17).1) (And.intro (He.eqO_ok (He.ba h18).1) (And.intro (He.eqO_ok (He.ba h19).1) (And.intro (He.eqO_ok (He.ba h20).1) (And.intro (id (He.ba h21).1) (And.intro (id (He.ba h22).1) (And.intro (He.eqO_ok (He.ba h23).1) True.intro)))))))))))))))))))))))
def fx2 (K : PySem.W.Frag) : Bool := decide (PySem.W.subIn K (.ref (He.ga K "Odd")) (.type "BaseException") = some true) && (decide (PySem.W.typeIn K (.ref (He.ga K "Odd")) = some (.type "type")) && (PySem.W.keepIn K (.ref (He.ga K "Odd")) && (decide (PySem.W.typeIn K (.ref (He.fAd K ("Odd", some "__init__"))) = some (.type "function")) && (He.eqO (PySem.W.findIn K (.ref (He.ga K "Odd")) "kind") (some none) && (He.eqO (PySem.W.findIn K (.ref (He.ga K "Odd")) "__getattribute__") (some (some (.builtin "BaseException.__getattribute__"))) && (He.eqO (PySem.W.findIn K (.ref (He.ga K "Odd")) "__getattr__") (some none) && (PySem.W.hasDictIn K (He.ga K "Odd") && true)))))))
theorem fx2_ok {K : PySem.W.Frag} (h0 : fx2 K = true) : (PySem.W.subIn K (.ref (He.ga K "Odd")) (.type "BaseException") = some true) ∧ (PySem.W.typeIn K (.ref (He.ga K "Odd")) = some (.type "type")) ∧ (PySem.W.keepIn K (.ref (He.ga K "Odd")) = true) ∧ (PySem.W.typeIn K (.ref (He.fAd K ("Odd", some "__init__"))) = some (.type "function")) ∧ (PySem.W.findIn K (.ref (He.ga K "Odd")) "kind" = some none) ∧ (PySem.W.findIn K (.ref (He.ga K "Odd")) "__getattribute__" = some (some (.builtin "BaseException.__getattribute__"))) ∧ (PySem.W.findIn K (.ref (He.ga K "Odd")) "__getattr__" = some none) ∧ (PySem.W.hasDictIn K (He.ga K "Odd") = true) ∧ True := by
  have h1 := (He.ba h0).2
  have h2 := (He.ba h1).2
  have h3 := (He.ba h2).2
  have h4 := (He.ba h3).2
  have h5 := (He.ba h4).2
  have h6 := (He.ba h5).2
  have h7 := (He.ba h6).2
  have h8 := (He.ba h7).2
  exact And.intro (of_decide_eq_true (He.ba h0).1) (And.intro (of_decide_eq_true (He.ba h1).1) (And.intro (id (He.ba h2).1) (And.intro (of_decide_eq_true (He.ba h3).1) (And.intro (He.eqO_ok (He.ba h4).1) (And.intro (He.eqO_ok (He.ba h5).1) (And.intro (He.eqO_ok (He.ba h6).1) (And.intro (id (He.ba h7).1) True.intro)))))))
abbrev hd0 : He.DefD := ⟨("NoBeads", some "__init__"), "__init__", "NoBeads.__init__", defArgs s_NoBeads___init__, defBody s_NoBeads___init__, defScope s_NoBeads___init__, [], []⟩
abbrev hd1 : He.DefD := ⟨("Odd", some "__init__"), "__init__", "Odd.__init__", defArgs s_Odd___init__, defBody s_Odd___init__, defScope s_Odd___init__, [], []⟩
abbrev hd2 : He.DefD := ⟨("is_cuts", none), "is_cuts", "is_cuts", defArgs s_is_cuts, defBody s_is_cuts, defScope s_is_cuts, [], []⟩
abbrev hd3 : He.DefD := ⟨("all_cuts", none), "all_cuts", "all_cuts", defArgs s_all_cuts_1, defBody s_all_cuts_1, defScope s_all_cuts_1, [], []⟩
abbrev hd4 : He.DefD := ⟨("sums_ahead", none), "sums_ahead", "sums_ahead", defArgs s_sums_ahead, defBody s_sums_ahead, defScope s_sums_ahead, [], []⟩
abbrev hd5 : He.DefD := ⟨("last_cut", none), "last_cut", "last_cut", defArgs s_last_cut, defBody s_last_cut, defScope s_last_cut, [], []⟩
abbrev hd6 : He.DefD := ⟨("gives_halves", none), "gives_halves", "gives_halves", defArgs s_gives_halves, defBody s_gives_halves, defScope s_gives_halves, [], []⟩
abbrev hd7 : He.DefD := ⟨("_law_box", none), "_law_box", "_law_box", defArgs s_law_box, defBody s_law_box, defScope s_law_box, [], []⟩
abbrev hd8 : He.DefD := ⟨("_law_mixed", none), "_law_mixed", "_law_mixed", defArgs s_law_mixed, defBody s_law_mixed, defScope s_law_mixed, [], []⟩
abbrev hd9 : He.DefD := ⟨("_law_hands", none), "_law_hands", "_law_hands", defArgs s_law_hands, defBody s_law_hands, defScope s_law_hands, [], []⟩
abbrev hd10 : He.DefD := ⟨("_law_is_cuts", none), "_law_is_cuts", "_law_is_cuts", defArgs s_law_is_cuts, defBody s_law_is_cuts, defScope s_law_is_cuts, [], []⟩
abbrev hd11 : He.DefD := ⟨("_law_lists", none), "_law_lists", "_law_lists", defArgs s_law_lists_1, defBody s_law_lists_1, defScope s_law_lists_1, [], []⟩
abbrev hd12 : He.DefD := ⟨("all_cuts", none), "all_cuts", "all_cuts", defArgs s_all_cuts_2, defBody s_all_cuts_2, defScope s_all_cuts_2, [], []⟩
abbrev hd13 : He.DefD := ⟨("_law_take", none), "_law_take", "_law_take", defArgs s_law_take, defBody s_law_take, defScope s_law_take, [], []⟩
abbrev hd14 : He.DefD := ⟨("_law_lists", none), "_law_lists", "_law_lists", defArgs s_law_lists_2, defBody s_law_lists_2, defScope s_law_lists_2, [], []⟩
abbrev hd15 : He.DefD := ⟨("ask_beads", none), "ask_beads", "ask_beads", defArgs s_ask_beads, defBody s_ask_beads, defScope s_ask_beads, [], []⟩
abbrev hd16 : He.DefD := ⟨("all_cuts", none), "all_cuts", "all_cuts", defArgs s_all_cuts, defBody s_all_cuts, defScope s_all_cuts, [], []⟩
abbrev hd17 : He.DefD := ⟨("_law_beads", none), "_law_beads", "_law_beads", defArgs s_law_beads, defBody s_law_beads, defScope s_law_beads, [], []⟩
abbrev hd18 : He.DefD := ⟨("_law_lists", none), "_law_lists", "_law_lists", defArgs s_law_lists, defBody s_law_lists, defScope s_law_lists, [], []⟩
abbrev hd19 : He.DefD := ⟨("fewest_cuts", none), "fewest_cuts", "fewest_cuts", defArgs s_fewest_cuts, defBody s_fewest_cuts, defScope s_fewest_cuts, [], []⟩
abbrev hd20 : He.DefD := ⟨("_law_fewest", none), "_law_fewest", "_law_fewest", defArgs s_law_fewest, defBody s_law_fewest, defScope s_law_fewest, [], []⟩
abbrev hd21 : He.DefD := ⟨("law", none), "law", "law", defArgs s_law, defBody s_law, defScope s_law, [], []⟩
def loose0 : List PySem.Str := ["__name__", "CrumbError", "NoBeads", "Odd", "LETTERS", "MOST_BEADS", "ask_beads", "is_cuts", "all_cuts", "sums_ahead", "last_cut", "gives_halves", "fewest_cuts", "_law_box", "_law_mixed", "_law_take"]
def loose1 : List PySem.Str := ["_law_beads", "_law_hands", "_law_is_cuts", "_law_lists", "_law_fewest"]
def loose : List PySem.Str := loose0 ++ loose1
abbrev RR : PySem.W.OpenRow := PySem.W.OpenLaw.row PySem.Challenge.rw_halfcrumb_k55_fewest_cuts
def ads0 : List Addr := [3, 6, 4, 24, 44, 63, 72, 79, 86, 91, 96, 101, 108, 113, 120, 127, 132, 139, 146, 153, 160, 167, 0, 23, 43, 62, 71, 78, 85, 90, 95, 100, 107, 112, 119, 126, 131, 138, 145, 152, 159, 166, 22, 25, 41, 42, 60, 61, 66, 67, 68, 69, 70, 73, 74, 75, 76, 77, 80, 81, 82, 83, 84, 87]
def ads1 : List Addr := [88, 89, 92, 93, 94, 97, 98, 99, 102, 103, 104, 105, 106, 109, 110, 111, 114, 115, 116, 117, 118, 121, 122, 123, 124, 125, 128, 129, 130, 133, 134, 135, 136, 137, 140, 141, 142, 143, 144, 147, 148, 149, 150, 151, 154, 155, 156, 157, 158, 161, 162, 163, 164, 165, 40, 59, 1, 2]
def ads : List Addr := ads0 ++ (ads1)
def hfn0 : List He.DefD := [hd0, hd1, hd2, hd3, hd4, hd5, hd6, hd7, hd8, hd9, hd10, hd11, hd12, hd13, hd14, hd15, hd16, hd17, hd18, hd19, hd20, hd21]
def hEx0 (K : PySem.W.Frag) : Bool := fx0 K && (fx1 K && (fx2 K && true))
def htf : List He.Defn := []
abbrev ch0 : Ch := ⟨hfn0, htf, hEx0⟩
abbrev chs : List Ch := [ch0]
theorem runX (w : World) : RunX RR (PySem.W.view RR.prog [23]) 20000 loose w ads chs := by
  intro os
  kernel_rfl
theorem run (w : World) : HandSHeadRun.RunEq RR (PySem.W.view RR.prog [23]) (hookL ads chs) (obL ads chs) 20000 loose w := run_one (runX w)
theorem all_mk {l : PySem.W.OpenLaw} {w : World} {K : PySem.W.Frag} {h : Heap} {mg : Str → Option Value} {fa : Addr} (X : K.In h) (G : h.Ns mainGlobals mg) (hfa : mg "law" = some (.ref fa))
    {c_NoBeads c_Odd f0 f1 f2 f3 f4 f5 f6 f7 f8 f9 f10 f11 f12 f13 f14 f15 f16 f17 f18 f19 f20 f21 : Addr}
    (D0 : DefB K "__init__" "NoBeads.__init__" s_NoBeads___init__ f0)
    (D1 : DefB K "__init__" "Odd.__init__" s_Odd___init__ f1)
    (D2 : DefB K "is_cuts" "is_cuts" s_is_cuts f2)
    (D3 : DefB K "all_cuts" "all_cuts" s_all_cuts_1 f3)
    (D4 : DefB K "sums_ahead" "sums_ahead" s_sums_ahead f4)
    (D5 : DefB K "last_cut" "last_cut" s_last_cut f5)
    (D6 : DefB K "gives_halves" "gives_halves" s_gives_halves f6)
    (D7 : DefB K "_law_box" "_law_box" s_law_box f7)
    (D8 : DefB K "_law_mixed" "_law_mixed" s_law_mixed f8)
    (D9 : DefB K "_law_hands" "_law_hands" s_law_hands f9)
    (D10 : DefB K "_law_is_cuts" "_law_is_cuts" s_law_is_cuts f10)
    (D11 : DefB K "_law_lists" "_law_lists" s_law_lists_1 f11)
    (D12 : DefB K "all_cuts" "all_cuts" s_all_cuts_2 f12)
    (D13 : DefB K "_law_take" "_law_take" s_law_take f13)
    (D14 : DefB K "_law_lists" "_law_lists" s_law_lists_2 f14)
    (D15 : DefB K "ask_beads" "ask_beads" s_ask_beads f15)
    (D16 : DefB K "all_cuts" "all_cuts" s_all_cuts f16)
    (D17 : DefB K "_law_beads" "_law_beads" s_law_beads f17)
    (D18 : DefB K "_law_lists" "_law_lists" s_law_lists f18)
    (D19 : DefB K "fewest_cuts" "fewest_cuts" s_fewest_cuts f19)
    (D20 : DefB K "_law_fewest" "_law_fewest" s_law_fewest f20)
    (D21 : DefB K "law" "law" s_law f21)
    (Y0 : (PySem.W.nsIn K mainGlobals "NoBeads" = some (some (.ref c_NoBeads))) ∧ (PySem.W.nsIn K mainGlobals "Odd" = some (some (.ref c_Odd))) ∧ (PySem.W.findIn K (.ref c_NoBeads) "__init__" = some (some (.ref f0))) ∧ (PySem.W.findIn K (.ref c_Odd) "__init__" = some (some (.ref f1))) ∧ (PySem.W.nsIn K mainGlobals "is_cuts" = some (some (.ref f2))) ∧ (PySem.W.nsIn K mainGlobals "all_cuts" = some (some (.ref f3))) ∧ (PySem.W.nsIn K mainGlobals "sums_ahead" = some (some (.ref f4))) ∧ (PySem.W.nsIn K mainGlobals "last_cut" = some (some (.ref f5))) ∧ (PySem.W.nsIn K mainGlobals "gives_halves" = some (some (.ref f6))) ∧ (PySem.W.nsIn K mainGlobals "_law_box" = some (some (.ref f7))) ∧ (PySem.W.nsIn K mainGlobals "_law_mixed" = some (some (.ref f8))) ∧ (PySem.W.nsIn K mainGlobals "_law_hands" = some (some (.ref f9))) ∧ (PySem.W.nsIn K mainGlobals "_law_is_cuts" = some (some (.ref f10))) ∧ (PySem.W.nsIn K mainGlobals "_law_lists" = some (some (.ref f11))) ∧ (PySem.W.nsIn K mainGlobals "all_cuts" = some (some (.ref f12))) ∧ (PySem.W.nsIn K mainGlobals "_law_take" = some (some (.ref f13))) ∧ (PySem.W.nsIn K mainGlobals "_law_lists" = some (some (.ref f14))) ∧ (PySem.W.nsIn K mainGlobals "ask_beads" = some (some (.ref f15))) ∧ (PySem.W.nsIn K mainGlobals "all_cuts" = some (some (.ref f16))) ∧ (PySem.W.nsIn K mainGlobals "_law_beads" = some (some (.ref f17))) ∧ (PySem.W.nsIn K mainGlobals "_law_lists" = some (some (.ref f18))) ∧ (PySem.W.nsIn K mainGlobals "fewest_cuts" = some (some (.ref f19))) ∧ (PySem.W.nsIn K mainGlobals "_law_fewest" = some (some (.ref f20))) ∧ (PySem.W.nsIn K mainGlobals "law" = some (some (.ref f21))) ∧ True)
    (Y1 : (PySem.W.nsIn K mainGlobals "bool" = some none) ∧ (PySem.W.nsIn K mainGlobals "enumerate" = some none) ∧ (PySem.W.nsIn K mainGlobals "int" = some none) ∧ (PySem.W.nsIn K mainGlobals "isinstance" = some none) ∧ (PySem.W.nsIn K mainGlobals "len" = some none) ∧ (PySem.W.nsIn K mainGlobals "list" = some none) ∧ (PySem.W.nsIn K mainGlobals "range" = some none) ∧ (PySem.W.nsIn K mainGlobals "set" = some none) ∧ (PySem.W.nsIn K mainGlobals "sum" = some none) ∧ (PySem.W.nsIn K mainGlobals "zip" = some none) ∧ (strK K "LETTERS" "abc" = true) ∧ (intK K "MOST_BEADS" 24 = true) ∧ (oexB K c_NoBeads "ValueError.__new__" = true) ∧ (PySem.W.findIn K (.ref c_NoBeads) "__setattr__" = some (some (.builtin "object.__setattr__"))) ∧ (PySem.W.subIn K (.ref c_NoBeads) (.type "BaseException") = some true) ∧ (PySem.W.typeIn K (.ref c_NoBeads) = some (.type "type")) ∧ (PySem.W.keepIn K (.ref c_NoBeads) = true) ∧ (PySem.W.typeIn K (.ref f0) = some (.type "function")) ∧ (PySem.W.findIn K (.ref c_NoBeads) "at" = some none) ∧ (PySem.W.findIn K (.ref c_NoBeads) "__getattribute__" = some (some (.builtin "BaseException.__getattribute__"))) ∧ (PySem.W.findIn K (.ref c_NoBeads) "__getattr__" = some none) ∧ (PySem.W.hasDictIn K c_NoBeads = true) ∧ (oexB K c_Odd "ValueError.__new__" = true) ∧ (PySem.W.findIn K (.ref c_Odd) "__setattr__" = some (some (.builtin "object.__setattr__"))) ∧ True)
    (Y2 : (PySem.W.subIn K (.ref c_Odd) (.type "BaseException") = some true) ∧ (PySem.W.typeIn K (.ref c_Odd) = some (.type "type")) ∧ (PySem.W.keepIn K (.ref c_Odd) = true) ∧ (PySem.W.typeIn K (.ref f1) = some (.type "function")) ∧ (PySem.W.findIn K (.ref c_Odd) "kind" = some none) ∧ (PySem.W.findIn K (.ref c_Odd) "__getattribute__" = some (some (.builtin "BaseException.__getattribute__"))) ∧ (PySem.W.findIn K (.ref c_Odd) "__getattr__" = some none) ∧ (PySem.W.hasDictIn K c_Odd = true) ∧ True)
    : ∃ fd : FuncData, (∀ (s : Shared) (v : Value), BindsTo s fd ⟨[v], []⟩ [("_law_script", v)]) ∧ ∀ base : Heap, K.In base → base.Ns mainGlobals mg → FnOk l.prog w K mg base (L2.CX l.prog w) 5 fa fd ["_law_script"] (spLaw K) := by
  obtain ⟨⟨_, _, kV0, dc0, pm0, an0, cd0, ct0, _, l0, c0⟩, k0⟩ := D0
  obtain ⟨⟨_, _, kV1, dc1, pm1, an1, cd1, ct1, _, l1, c1⟩, k1⟩ := D1
  obtain ⟨⟨_, _, kV2, dc2, pm2, an2, cd2, ct2, _, l2, c2⟩, k2⟩ := D2
  obtain ⟨⟨_, _, kV3, dc3, pm3, an3, cd3, ct3, _, l3, c3⟩, k3⟩ := D3
  obtain ⟨⟨_, _, kV4, dc4, pm4, an4, cd4, ct4, _, l4, c4⟩, k4⟩ := D4
  obtain ⟨⟨_, _, kV5, dc5, pm5, an5, cd5, ct5, _, l5, c5⟩, k5⟩ := D5
  obtain ⟨⟨_, _, kV6, dc6, pm6, an6, cd6, ct6, _, l6, c6⟩, k6⟩ := D6
  obtain ⟨⟨_, _, kV7, dc7, pm7, an7, cd7, ct7, _, l7, c7⟩, k7⟩ := D7
  obtain ⟨⟨_, _, kV8, dc8, pm8, an8, cd8, ct8, _, l8, c8⟩, k8⟩ := D8
  obtain ⟨⟨_, _, kV9, dc9, pm9, an9, cd9, ct9, _, l9, c9⟩, k9⟩ := D9
  obtain ⟨⟨_, _, kV10, dc10, pm10, an10, cd10, ct10, _, l10, c10⟩, k10⟩ := D10
  obtain ⟨⟨_, _, kV11, dc11, pm11, an11, cd11, ct11, _, l11, c11⟩, k11⟩ := D11
  obtain ⟨⟨_, _, kV12, dc12, pm12, an12, cd12, ct12, _, l12, c12⟩, k12⟩ := D12
  obtain ⟨⟨_, _, kV13, dc13, pm13, an13, cd13, ct13, _, l13, c13⟩, k13⟩ := D13
  obtain ⟨⟨_, _, kV14, dc14, pm14, an14, cd14, ct14, _, l14, c14⟩, k14⟩ := D14
  obtain ⟨⟨_, _, kV15, dc15, pm15, an15, cd15, ct15, _, l15, c15⟩, k15⟩ := D15
  obtain ⟨⟨_, _, kV16, dc16, pm16, an16, cd16, ct16, _, l16, c16⟩, k16⟩ := D16
  obtain ⟨⟨_, _, kV17, dc17, pm17, an17, cd17, ct17, _, l17, c17⟩, k17⟩ := D17
  obtain ⟨⟨_, _, kV18, dc18, pm18, an18, cd18, ct18, _, l18, c18⟩, k18⟩ := D18
  obtain ⟨⟨_, _, kV19, dc19, pm19, an19, cd19, ct19, _, l19, c19⟩, k19⟩ := D19
  obtain ⟨⟨_, _, kV20, dc20, pm20, an20, cd20, ct20, _, l20, c20⟩, k20⟩ := D20
  obtain ⟨⟨_, _, kV21, dc21, pm21, an21, cd21, ct21, _, l21, c21⟩, k21⟩ := D21
  have g_NoBeads := Y0.1
  have g_Odd := Y0.2.1
  have a0 := Y0.2.2.1
  have a1 := Y0.2.2.2.1
  have a2 := Y0.2.2.2.2.1
  have a3 := Y0.2.2.2.2.2.1
  have a4 := Y0.2.2.2.2.2.2.1
  have a5 := Y0.2.2.2.2.2.2.2.1
  have a6 := Y0.2.2.2.2.2.2.2.2.1
  have a7 := Y0.2.2.2.2.2.2.2.2.2.1
  have a8 := Y0.2.2.2.2.2.2.2.2.2.2.1
  have a9 := Y0.2.2.2.2.2.2.2.2.2.2.2.1
  have a10 := Y0.2.2.2.2.2.2.2.2.2.2.2.2.1
  have a11 := Y0.2.2.2.2.2.2.2.2.2.2.2.2.2.1
  have a12 := Y0.2.2.2.2.2.2.2.2.2.2.2.2.2.2.1
  have a13 := Y0.2.2.2.2.2.2.2.2.2.2.2.2.2.2.2.1
  have a14 := Y0.2.2.2.2.2.2.2.2.2.2.2.2.2.2.2.2.1
  have a15 := Y0.2.2.2.2.2.2.2.2.2.2.2.2.2.2.2.2.2.1
  have a16 := Y0.2.2.2.2.2.2.2.2.2.2.2.2.2.2.2.2.2.2.1
  have a17 := Y0.2.2.2.2.2.2.2.2.2.2.2.2.2.2.2.2.2.2.2.1
  have a18 := Y0.2.2.2.2.2.2.2.2.2.2.2.2.2.2.2.2.2.2.2.2.1
  have a19 := Y0.2.2.2.2.2.2.2.2.2.2.2.2.2.2.2.2.2.2.2.2.2.1
  have a20 := Y0.2.2.2.2.2.2.2.2.2.2.2.2.2.2.2.2.2.2.2.2.2.2.1
  have a21 := Y0.2.2.2.2.2.2.2.2.2.2.2.2.2.2.2.2.2.2.2.2.2.2.2.1
  have z_bool := Y1.1
  have z_enumerate := Y1.2.1
  have z_int := Y1.2.2.1
  have z_isinstance := Y1.2.2.2.1
  have z_len := Y1.2.2.2.2.1
  have z_list := Y1.2.2.2.2.2.1
  have z_range := Y1.2.2.2.2.2.2.1
  have z_set := Y1.2.2.2.2.2.2.2.1
  have z_sum := Y1.2.2.2.2.2.2.2.2.1
  have z_zip := Y1.2.2.2.2.2.2.2.2.2.1
  have m_LETTERS0 := Y1.2.2.2.2.2.2.2.2.2.2.1
  have m_MOST_BEADS0 := Y1.2.2.2.2.2.2.2.2.2.2.2.1
  have xl_NoBeads0 := Y1.2.2.2.2.2.2.2.2.2.2.2.2.1
  have xsa_NoBeads := Y1.2.2.2.2.2.2.2.2.2.2.2.2.2.1
  have xsb_NoBeads := Y1.2.2.2.2.2.2.2.2.2.2.2.2.2.2.1
  have xty_NoBeads := Y1.2.2.2.2.2.2.2.2.2.2.2.2.2.2.2.1
  have xkp_NoBeads := Y1.2.2.2.2.2.2.2.2.2.2.2.2.2.2.2.2.1
  have xtf_NoBeads := Y1.2.2.2.2.2.2.2.2.2.2.2.2.2.2.2.2.2.1
  have xno_NoBeads := Y1.2.2.2.2.2.2.2.2.2.2.2.2.2.2.2.2.2.2.1
  have xga_NoBeads := Y1.2.2.2.2.2.2.2.2.2.2.2.2.2.2.2.2.2.2.2.1
  have xgg_NoBeads := Y1.2.2.2.2.2.2.2.2.2.2.2.2.2.2.2.2.2.2.2.2.1
  have xhd_NoBeads := Y1.2.2.2.2.2.2.2.2.2.2.2.2.2.2.2.2.2.2.2.2.2.1
  have xl_Odd0 := Y1.2.2.2.2.2.2.2.2.2.2.2.2.2.2.2.2.2.2.2.2.2.2.1
  have xsa_Odd := Y1.2.2.2.2.2.2.2.2.2.2.2.2.2.2.2.2.2.2.2.2.2.2.2.1
  have xsb_Odd := Y2.1
  have xty_Odd := Y2.2.1
  have xkp_Odd := Y2.2.2.1
  have xtf_Odd := Y2.2.2.2.1
  have xno_Odd := Y2.2.2.2.2.1
  have xga_Odd := Y2.2.2.2.2.2.1
  have xgg_Odd := Y2.2.2.2.2.2.2.1
  have xhd_Odd := Y2.2.2.2.2.2.2.2.1
  obtain ⟨t_LETTERS, m_LETTERS⟩ := strK_ok m_LETTERS0
  obtain ⟨t_MOST_BEADS, m_MOST_BEADS⟩ := intK_ok m_MOST_BEADS0
  obtain ⟨_, _, _, _, _, _, _, _, _, _, _, _, _, _, _, xl_NoBeads, xr_NoBeads⟩ := oexB_ok xl_NoBeads0
  obtain ⟨_, _, _, _, _, _, _, _, _, _, _, _, _, _, _, xl_Odd, xr_Odd⟩ := oexB_ok xl_Odd0
  have e := hfa.symm.trans (PySem.W.mg_of X G a21)
  cases e
  let A : Adr := { c_NoBeads := c_NoBeads, c_Odd := c_Odd, f_NoBeads___init__ := f0, d_NoBeads___init__ := (PySem.W.fnOf "__init__" "NoBeads.__init__" (defArgs s_NoBeads___init__) (defBody s_NoBeads___init__) (defScope s_NoBeads___init__) .none kV0 dc0 pm0 an0 cd0 ct0), f_Odd___init__ := f1, d_Odd___init__ := (PySem.W.fnOf "__init__" "Odd.__init__" (defArgs s_Odd___init__) (defBody s_Odd___init__) (defScope s_Odd___init__) .none kV1 dc1 pm1 an1 cd1 ct1), f_is_cuts := f2, d_is_cuts := (PySem.W.fnOf "is_cuts" "is_cuts" (defArgs s_is_cuts) (defBody s_is_cuts) (defScope s_is_cuts) .none kV2 dc2 pm2 an2 cd2 ct2), f_all_cuts_1 := f3, d_all_cuts_1 := (PySem.W.fnOf "all_cuts" "all_cuts" (defArgs s_all_cuts_1) (defBody s_all_cuts_1) (defScope s_all_cuts_1) .none kV3 dc3 pm3 an3 cd3 ct3), f_sums_ahead := f4, d_sums_ahead := (PySem.W.fnOf "sums_ahead" "sums_ahead" (defArgs s_sums_ahead) (defBody s_sums_ahead) (defScope s_sums_ahead) .none kV4 dc4 pm4 an4 cd4 ct4), f_last_cut := f5, d_last_cut := (PySem.W.fnOf "last_cut" "last_cut" (defArgs s_last_cut) (defBody s_last_cut) (defScope s_last_cut) .none kV5 dc5 pm5 an5 cd5 ct5), f_gives_halves := f6, d_gives_halves := (PySem.W.fnOf "gives_halves" "gives_halves" (defArgs s_gives_halves) (defBody s_gives_halves) (defScope s_gives_halves) .none kV6 dc6 pm6 an6 cd6 ct6), f_law_box := f7, d_law_box := (PySem.W.fnOf "_law_box" "_law_box" (defArgs s_law_box) (defBody s_law_box) (defScope s_law_box) .none kV7 dc7 pm7 an7 cd7 ct7), f_law_mixed := f8, d_law_mixed := (PySem.W.fnOf "_law_mixed" "_law_mixed" (defArgs s_law_mixed) (defBody s_law_mixed) (defScope s_law_mixed) .none kV8 dc8 pm8 an8 cd8 ct8), f_law_hands := f9, d_law_hands := (PySem.W.fnOf "_law_hands" "_law_hands" (defArgs s_law_hands) (defBody s_law_hands) (defScope s_law_hands) .none kV9 dc9 pm9 an9 cd9 ct9), f_law_is_cuts := f10, d_law_is_cuts := (PySem.W.fnOf "_law_is_cuts" "_law_is_cuts" (defArgs s_law_is_cuts) (defBody s_law_is_cuts) (defScope s_law_is_cuts) .none kV10 dc10 pm10 an10 cd10 ct10), f_law_lists_1 := f11, d_law_lists_1 := (PySem.W.fnOf "_law_lists" "_law_lists" (defArgs s_law_lists_1) (defBody s_law_lists_1) (defScope s_law_lists_1) .none kV11 dc11 pm11 an11 cd11 ct11), f_all_cuts_2 := f12, d_all_cuts_2 := (PySem.W.fnOf "all_cuts" "all_cuts" (defArgs s_all_cuts_2) (defBody s_all_cuts_2) (defScope s_all_cuts_2) .none kV12 dc12 pm12 an12 cd12 ct12), f_law_take := f13, d_law_take := (PySem.W.fnOf "_law_take" "_law_take" (defArgs s_law_take) (defBody s_law_take) (defScope s_law_take) .none kV13 dc13 pm13 an13 cd13 ct13), f_law_lists_2 := f14, d_law_lists_2 := (PySem.W.fnOf "_law_lists" "_law_lists" (defArgs s_law_lists_2) (defBody s_law_lists_2) (defScope s_law_lists_2) .none kV14 dc14 pm14 an14 cd14 ct14), f_ask_beads := f15, d_ask_beads := (PySem.W.fnOf "ask_beads" "ask_beads" (defArgs s_ask_beads) (defBody s_ask_beads) (defScope s_ask_beads) .none kV15 dc15 pm15 an15 cd15 ct15), f_all_cuts := f16, d_all_cuts := (PySem.W.fnOf "all_cuts" "all_cuts" (defArgs s_all_cuts) (defBody s_all_cuts) (defScope s_all_cuts) .none kV16 dc16 pm16 an16 cd16 ct16), f_law_beads := f17, d_law_beads := (PySem.W.fnOf "_law_beads" "_law_beads" (defArgs s_law_beads) (defBody s_law_beads) (defScope s_law_beads) .none kV17 dc17 pm17 an17 cd17 ct17), f_law_lists := f18, d_law_lists := (PySem.W.fnOf "_law_lists" "_law_lists" (defArgs s_law_lists) (defBody s_law_lists) (defScope s_law_lists) .none kV18 dc18 pm18 an18 cd18 ct18), f_fewest_cuts := f19, d_fewest_cuts := (PySem.W.fnOf "fewest_cuts" "fewest_cuts" (defArgs s_fewest_cuts) (defBody s_fewest_cuts) (defScope s_fewest_cuts) .none kV19 dc19 pm19 an19 cd19 ct19), f_law_fewest := f20, d_law_fewest := (PySem.W.fnOf "_law_fewest" "_law_fewest" (defArgs s_law_fewest) (defBody s_law_fewest) (defScope s_law_fewest) .none kV20 dc20 pm20 an20 cd20 ct20), f_law := fa, d_law := (PySem.W.fnOf "law" "law" (defArgs s_law) (defBody s_law) (defScope s_law) .none kV21 dc21 pm21 an21 cd21 ct21), t_LETTERS := t_LETTERS, t_MOST_BEADS := t_MOST_BEADS }
  have T : ∀ base : Heap, Txt K mg base A := fun base => {
    g_NoBeads := PySem.W.mg_of X G g_NoBeads
    g_Odd := PySem.W.mg_of X G g_Odd
    F_NoBeads___init__ := fun_mk (st := s_NoBeads___init__) l0 c0 k0
    b_NoBeads___init__ := (fun_mk (st := s_NoBeads___init__) l0 c0 k0).binds (ps := p_NoBeads___init__) fun _ _ _ _ _ _ us hl => match us, hl with | [_, _], _ => rfl
    F_Odd___init__ := fun_mk (st := s_Odd___init__) l1 c1 k1
    b_Odd___init__ := (fun_mk (st := s_Odd___init__) l1 c1 k1).binds (ps := p_Odd___init__) fun _ _ _ _ _ _ us hl => match us, hl with | [_, _], _ => rfl
    g_is_cuts := PySem.W.mg_of X G a2
    F_is_cuts := fun_mk (st := s_is_cuts) l2 c2 k2
    b_is_cuts := (fun_mk (st := s_is_cuts) l2 c2 k2).binds (ps := p_is_cuts) fun _ _ _ _ _ _ us hl => match us, hl with | [_, _], _ => rfl
    g_all_cuts_1 := PySem.W.mg_of X G a3
    F_all_cuts_1 := fun_mk (st := s_all_cuts_1) l3 c3 k3
    b_all_cuts_1 := (fun_mk (st := s_all_cuts_1) l3 c3 k3).binds (ps := p_all_cuts_1) fun _ _ _ _ _ _ us hl => match us, hl with | [_, _, _], _ => rfl
    g_sums_ahead := PySem.W.mg_of X G a4
    F_sums_ahead := fun_mk (st := s_sums_ahead) l4 c4 k4
    b_sums_ahead := (fun_mk (st := s_sums_ahead) l4 c4 k4).binds (ps := p_sums_ahead) fun _ _ _ _ _ _ us hl => match us, hl with | [_], _ => rfl
    g_last_cut := PySem.W.mg_of X G a5
    F_last_cut := fun_mk (st := s_last_cut) l5 c5 k5
    b_last_cut := (fun_mk (st := s_last_cut) l5 c5 k5).binds (ps := p_last_cut) fun _ _ _ _ _ _ us hl => match us, hl with | [_, _], _ => rfl
    g_gives_halves := PySem.W.mg_of X G a6
    F_gives_halves := fun_mk (st := s_gives_halves) l6 c6 k6
    b_gives_halves := (fun_mk (st := s_gives_halves) l6 c6 k6).binds (ps := p_gives_halves) fun _ _ _ _ _ _ us hl => match us, hl with | [_, _], _ => rfl
    g_law_box := PySem.W.mg_of X G a7
    F_law_box := fun_mk (st := s_law_box) l7 c7 k7
    b_law_box := (fun_mk (st := s_law_box) l7 c7 k7).binds (ps := p_law_box) fun _ _ _ _ _ _ us hl => match us, hl with | [_], _ => rfl
    g_law_mixed := PySem.W.mg_of X G a8
    F_law_mixed := fun_mk (st := s_law_mixed) l8 c8 k8
    b_law_mixed := (fun_mk (st := s_law_mixed) l8 c8 k8).binds (ps := p_law_mixed) fun _ _ _ _ _ _ us hl => match us, hl with | [_, _], _ => rfl
    g_law_hands := PySem.W.mg_of X G a9
    F_law_hands := fun_mk (st := s_law_hands) l9 c9 k9
    b_law_hands := (fun_mk (st := s_law_hands) l9 c9 k9).binds (ps := p_law_hands) fun _ _ _ _ _ _ us hl => match us, hl with | [_, _], _ => rfl
    g_law_is_cuts := PySem.W.mg_of X G a10
    F_law_is_cuts := fun_mk (st := s_law_is_cuts) l10 c10 k10
    b_law_is_cuts := (fun_mk (st := s_law_is_cuts) l10 c10 k10).binds (ps := p_law_is_cuts) fun _ _ _ _ _ _ us hl => match us, hl with | [_, _], _ => rfl
    g_law_lists_1 := PySem.W.mg_of X G a11
    F_law_lists_1 := fun_mk (st := s_law_lists_1) l11 c11 k11
    b_law_lists_1 := (fun_mk (st := s_law_lists_1) l11 c11 k11).binds (ps := p_law_lists_1) fun _ _ _ _ _ _ us hl => match us, hl with | [_, _, _], _ => rfl
    g_all_cuts_2 := PySem.W.mg_of X G a12
    F_all_cuts_2 := fun_mk (st := s_all_cuts_2) l12 c12 k12
    b_all_cuts_2 := (fun_mk (st := s_all_cuts_2) l12 c12 k12).binds (ps := p_all_cuts_2) fun _ _ _ _ _ _ us hl => match us, hl with | [_, _, _], _ => rfl
    g_law_take := PySem.W.mg_of X G a13
    F_law_take := fun_mk (st := s_law_take) l13 c13 k13
    b_law_take := (fun_mk (st := s_law_take) l13 c13 k13).binds (ps := p_law_take) fun _ _ _ _ _ _ us hl => match us, hl with | [_, _], _ => rfl
    g_law_lists_2 := PySem.W.mg_of X G a14
    F_law_lists_2 := fun_mk (st := s_law_lists_2) l14 c14 k14
    b_law_lists_2 := (fun_mk (st := s_law_lists_2) l14 c14 k14).binds (ps := p_law_lists_2) fun _ _ _ _ _ _ us hl => match us, hl with | [_, _, _], _ => rfl
    g_ask_beads := PySem.W.mg_of X G a15
    F_ask_beads := fun_mk (st := s_ask_beads) l15 c15 k15
    b_ask_beads := (fun_mk (st := s_ask_beads) l15 c15 k15).binds (ps := p_ask_beads) fun _ _ _ _ _ _ us hl => match us, hl with | [_], _ => rfl
    g_all_cuts := PySem.W.mg_of X G a16
    F_all_cuts := fun_mk (st := s_all_cuts) l16 c16 k16
    b_all_cuts := (fun_mk (st := s_all_cuts) l16 c16 k16).binds (ps := p_all_cuts) fun _ _ _ _ _ _ us hl => match us, hl with | [_, _, _], _ => rfl
    g_law_beads := PySem.W.mg_of X G a17
    F_law_beads := fun_mk (st := s_law_beads) l17 c17 k17
    b_law_beads := (fun_mk (st := s_law_beads) l17 c17 k17).binds (ps := p_law_beads) fun _ _ _ _ _ _ us hl => match us, hl with | [_, _], _ => rfl
    g_law_lists := PySem.W.mg_of X G a18
    F_law_lists := fun_mk (st := s_law_lists) l18 c18 k18
    b_law_lists := (fun_mk (st := s_law_lists) l18 c18 k18).binds (ps := p_law_lists) fun _ _ _ _ _ _ us hl => match us, hl with | [_, _, _], _ => rfl
    g_fewest_cuts := PySem.W.mg_of X G a19
    F_fewest_cuts := fun_mk (st := s_fewest_cuts) l19 c19 k19
    b_fewest_cuts := (fun_mk (st := s_fewest_cuts) l19 c19 k19).binds (ps := p_fewest_cuts) fun _ _ _ _ _ _ us hl => match us, hl with | [_], _ => rfl
    g_law_fewest := PySem.W.mg_of X G a20
    F_law_fewest := fun_mk (st := s_law_fewest) l20 c20 k20
    b_law_fewest := (fun_mk (st := s_law_fewest) l20 c20 k20).binds (ps := p_law_fewest) fun _ _ _ _ _ _ us hl => match us, hl with | [_, _], _ => rfl
    g_law := PySem.W.mg_of X G a21
    F_law := fun_mk (st := s_law) l21 c21 k21
    b_law := (fun_mk (st := s_law) l21 c21 k21).binds (ps := p_law) fun _ _ _ _ _ _ us hl => match us, hl with | [_], _ => rfl
    B_fewest_cuts_0_beads := callB_n fun us ws h1 h2 => match us, h1, ws, h2 with | [], _, [_], _ => rfl
    z_bool := PySem.W.mg_none_of X G z_bool
    z_enumerate := PySem.W.mg_none_of X G z_enumerate
    z_int := PySem.W.mg_none_of X G z_int
    z_isinstance := PySem.W.mg_none_of X G z_isinstance
    z_len := PySem.W.mg_none_of X G z_len
    z_list := PySem.W.mg_none_of X G z_list
    z_range := PySem.W.mg_none_of X G z_range
    z_set := PySem.W.mg_none_of X G z_set
    z_sum := PySem.W.mg_none_of X G z_sum
    z_zip := PySem.W.mg_none_of X G z_zip
    m_LETTERS := PySem.W.mg_of X G m_LETTERS
    m_MOST_BEADS := PySem.W.mg_of X G m_MOST_BEADS
    oex_NoBeads := ⟨⟨_, _, _, _, _, _, _, _, _, _, _, _, _, _, _, xl_NoBeads, xr_NoBeads⟩, xsa_NoBeads, xsb_NoBeads, xty_NoBeads, xkp_NoBeads⟩
    ini_NoBeads := a0
    tin_NoBeads := xtf_NoBeads
    xno_NoBeads := xno_NoBeads
    xf_NoBeads := ⟨xga_NoBeads, xgg_NoBeads, xsb_NoBeads, xhd_NoBeads⟩
    oex_Odd := ⟨⟨_, _, _, _, _, _, _, _, _, _, _, _, _, _, _, xl_Odd, xr_Odd⟩, xsa_Odd, xsb_Odd, xty_Odd, xkp_Odd⟩
    ini_Odd := a1
    tin_Odd := xtf_Odd
    xno_Odd := xno_Odd
    xf_Odd := ⟨xga_Odd, xgg_Odd, xsb_Odd, xhd_Odd⟩ }
  exact ⟨A.d_law, fun s v => .of_eq rfl, fun base _ _ => (ok_law (T base)).imp fun vs H Q E q => law_imp (G := GG K A) rfl law_true vs H Q E q⟩
theorem all_h {l : PySem.W.OpenLaw} {w : World} {K : PySem.W.Frag} {h : Heap} {mg : Str → Option Value} {fa : Addr} (X : K.In h) (G : h.Ns mainGlobals mg) (hfa : mg "law" = some (.ref fa)) (c : ∀ c ∈ chs, SaysC h K c) :
    ∃ fd : FuncData, (∀ (s : Shared) (v : Value), BindsTo s fd ⟨[v], []⟩ [("_law_script", v)]) ∧ ∀ base : Heap, K.In base → base.Ns mainGlobals mg → FnOk l.prog w K mg base (L2.CX l.prog w) 5 fa fd ["_law_script"] (spLaw K) := by
  have C0 : SaysC h K ch0 := c _ (by simp [chs])
  have y0_0 : hEx0 K = true := C0.more
  obtain ⟨_, F0⟩ := C0.d.def_ 0 (d := hd0) rfl
  have D0 : DefB K "__init__" "NoBeads.__init__" s_NoBeads___init__ (He.fAd K ("NoBeads", some "__init__")) := fun_of (st := s_NoBeads___init__) F0
  obtain ⟨_, F1⟩ := C0.d.def_ 1 (d := hd1) rfl
  have D1 : DefB K "__init__" "Odd.__init__" s_Odd___init__ (He.fAd K ("Odd", some "__init__")) := fun_of (st := s_Odd___init__) F1
  obtain ⟨_, F2⟩ := C0.d.def_ 2 (d := hd2) rfl
  have D2 : DefB K "is_cuts" "is_cuts" s_is_cuts (He.fAd K ("is_cuts", none)) := fun_of (st := s_is_cuts) F2
  obtain ⟨_, F3⟩ := C0.d.def_ 3 (d := hd3) rfl
  have D3 : DefB K "all_cuts" "all_cuts" s_all_cuts_1 (He.fAd K ("all_cuts", none)) := fun_of (st := s_all_cuts_1) F3
  obtain ⟨_, F4⟩ := C0.d.def_ 4 (d := hd4) rfl
  have D4 : DefB K "sums_ahead" "sums_ahead" s_sums_ahead (He.fAd K ("sums_ahead", none)) := fun_of (st := s_sums_ahead) F4
  obtain ⟨_, F5⟩ := C0.d.def_ 5 (d := hd5) rfl
  have D5 : DefB K "last_cut" "last_cut" s_last_cut (He.fAd K ("last_cut", none)) := fun_of (st := s_last_cut) F5
  obtain ⟨_, F6⟩ := C0.d.def_ 6 (d := hd6) rfl
  have D6 : DefB K "gives_halves" "gives_halves" s_gives_halves (He.fAd K ("gives_halves", none)) := fun_of (st := s_gives_halves) F6
  obtain ⟨_, F7⟩ := C0.d.def_ 7 (d := hd7) rfl
  have D7 : DefB K "_law_box" "_law_box" s_law_box (He.fAd K ("_law_box", none)) := fun_of (st := s_law_box) F7
  obtain ⟨_, F8⟩ := C0.d.def_ 8 (d := hd8) rfl
  have D8 : DefB K "_law_mixed" "_law_mixed" s_law_mixed (He.fAd K ("_law_mixed", none)) := fun_of (st := s_law_mixed) F8
  obtain ⟨_, F9⟩ := C0.d.def_ 9 (d := hd9) rfl
  have D9 : DefB K "_law_hands" "_law_hands" s_law_hands (He.fAd K ("_law_hands", none)) := fun_of (st := s_law_hands) F9
  obtain ⟨_, F10⟩ := C0.d.def_ 10 (d := hd10) rfl
  have D10 : DefB K "_law_is_cuts" "_law_is_cuts" s_law_is_cuts (He.fAd K ("_law_is_cuts", none)) := fun_of (st := s_law_is_cuts) F10
  obtain ⟨_, F11⟩ := C0.d.def_ 11 (d := hd11) rfl
  have D11 : DefB K "_law_lists" "_law_lists" s_law_lists_1 (He.fAd K ("_law_lists", none)) := fun_of (st := s_law_lists_1) F11
  obtain ⟨_, F12⟩ := C0.d.def_ 12 (d := hd12) rfl
  have D12 : DefB K "all_cuts" "all_cuts" s_all_cuts_2 (He.fAd K ("all_cuts", none)) := fun_of (st := s_all_cuts_2) F12
  obtain ⟨_, F13⟩ := C0.d.def_ 13 (d := hd13) rfl
  have D13 : DefB K "_law_take" "_law_take" s_law_take (He.fAd K ("_law_take", none)) := fun_of (st := s_law_take) F13
  obtain ⟨_, F14⟩ := C0.d.def_ 14 (d := hd14) rfl
  have D14 : DefB K "_law_lists" "_law_lists" s_law_lists_2 (He.fAd K ("_law_lists", none)) := fun_of (st := s_law_lists_2) F14
  obtain ⟨_, F15⟩ := C0.d.def_ 15 (d := hd15) rfl
  have D15 : DefB K "ask_beads" "ask_beads" s_ask_beads (He.fAd K ("ask_beads", none)) := fun_of (st := s_ask_beads) F15
  obtain ⟨_, F16⟩ := C0.d.def_ 16 (d := hd16) rfl
  have D16 : DefB K "all_cuts" "all_cuts" s_all_cuts (He.fAd K ("all_cuts", none)) := fun_of (st := s_all_cuts) F16
  obtain ⟨_, F17⟩ := C0.d.def_ 17 (d := hd17) rfl
  have D17 : DefB K "_law_beads" "_law_beads" s_law_beads (He.fAd K ("_law_beads", none)) := fun_of (st := s_law_beads) F17
  obtain ⟨_, F18⟩ := C0.d.def_ 18 (d := hd18) rfl
  have D18 : DefB K "_law_lists" "_law_lists" s_law_lists (He.fAd K ("_law_lists", none)) := fun_of (st := s_law_lists) F18
  obtain ⟨_, F19⟩ := C0.d.def_ 19 (d := hd19) rfl
  have D19 : DefB K "fewest_cuts" "fewest_cuts" s_fewest_cuts (He.fAd K ("fewest_cuts", none)) := fun_of (st := s_fewest_cuts) F19
  obtain ⟨_, F20⟩ := C0.d.def_ 20 (d := hd20) rfl
  have D20 : DefB K "_law_fewest" "_law_fewest" s_law_fewest (He.fAd K ("_law_fewest", none)) := fun_of (st := s_law_fewest) F20
  obtain ⟨_, F21⟩ := C0.d.def_ 21 (d := hd21) rfl
  have D21 : DefB K "law" "law" s_law (He.fAd K ("law", none)) := fun_of (st := s_law) F21
  have y0_1 := (He.ba y0_0).2
  have Y0 := fx0_ok (He.ba y0_0).1
  have y0_2 := (He.ba y0_1).2
  have Y1 := fx1_ok (He.ba y0_1).1
  have y0_3 := (He.ba y0_2).2
  have Y2 := fx2_ok (He.ba y0_2).1
  exact all_mk X G hfa (c_NoBeads := (He.ga K "NoBeads")) (c_Odd := (He.ga K "Odd")) (f0 := (He.fAd K ("NoBeads", some "__init__"))) (f1 := (He.fAd K ("Odd", some "__init__"))) (f2 := (He.fAd K ("is_cuts", none))) (f3 := (He.fAd K ("all_cuts", none))) (f4 := (He.fAd K ("sums_ahead", none))) (f5 := (He.fAd K ("last_cut", none))) (f6 := (He.fAd K ("gives_halves", none))) (f7 := (He.fAd K ("_law_box", none))) (f8 := (He.fAd K ("_law_mixed", none))) (f9 := (He.fAd K ("_law_hands", none))) (f10 := (He.fAd K ("_law_is_cuts", none))) (f11 := (He.fAd K ("_law_lists", none))) (f12 := (He.fAd K ("all_cuts", none))) (f13 := (He.fAd K ("_law_take", none))) (f14 := (He.fAd K ("_law_lists", none))) (f15 := (He.fAd K ("ask_beads", none))) (f16 := (He.fAd K ("all_cuts", none))) (f17 := (He.fAd K ("_law_beads", none))) (f18 := (He.fAd K ("_law_lists", none))) (f19 := (He.fAd K ("fewest_cuts", none))) (f20 := (He.fAd K ("_law_fewest", none))) (f21 := (He.fAd K ("law", none))) D0 D1 D2 D3 D4 D5 D6 D7 D8 D9 D10 D11 D12 D13 D14 D15 D16 D17 D18 D19 D20 D21 Y0 Y1 Y2 
end Dn
open PySem PySem.W PySem.Calls PyProof.Rows
set_option maxRecDepth 100000 in
set_option maxHeartbeats 0 in
theorem PySem.Challenge.cw_halfcrumb_k55_fewest_cuts_holds : PySem.Challenge.rw_halfcrumb_k55_fewest_cuts.Holds := by
  w_on; o_law
  refine HandSHeadRun.head_any (r := OpenLaw.row PySem.Challenge.rw_halfcrumb_k55_fewest_cuts) (q := view (OpenLaw.row PySem.Challenge.rw_halfcrumb_k55_fewest_cuts).prog [23]) (H := Dn.hookL Dn.ads Dn.chs) (ob := Dn.obL Dn.ads Dn.chs) (M := 20000) (loose := Dn.loose) (d := HandSHeadRun.topDef (OpenLaw.row PySem.Challenge.rw_halfcrumb_k55_fewest_cuts).prog 23) (kwd := []) (Dn.obL_eq Dn.ads Dn.chs)
    (by kernel_rfl) (fun s => by kernel_rfl) Dn.run (by kernel_rfl) (by kernel_rfl) (by kernel_rfl) (by rfl) (by first | assumption | decide +kernel) (by decide +kernel) ⟨rfl, rfl, rfl, rfl, rfl, by decide +kernel⟩ ?hw ?hc
  case hw => w_witness2
  case hc =>
    refine Dn.walkLE (k := 5) (x := "_law_script") ⟨rfl, by decide, by decide⟩ (l := PySem.Challenge.rw_halfcrumb_k55_fewest_cuts) rfl (by kernel_rfl) ?F
    intro w mg fa h Y G hmg0
    obtain ⟨K, KX, c⟩ := Y
    have hmg : mg ("law" : PySem.Str) = some (.ref fa) := by
      have e : (HandSHeadRun.topDef (OpenLaw.row PySem.Challenge.rw_halfcrumb_k55_fewest_cuts).prog 23).name = ("law" : PySem.Str) := by kernel_rfl
      rw [← e]
      exact hmg0
    exact ⟨K, KX, Dn.all_h KX G hmg c⟩
