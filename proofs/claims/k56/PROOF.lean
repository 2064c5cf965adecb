import PyProof.Rows.All
import Wide.All
import OpenK.AllK
import Wide.FinOn
import HandS.Lambda
import HandS.EndTab
import HandS.ForMost
import HandS.ForExc
import HandS.TryMany
import HandS.Wide
import HandS.IsInst
import HandS.Defaults
import HandS.FStr
import HandS.StrMore
import HandS.TupAny
import HandS.ExcIs
import HandS.EndBits
import HandS.Style
import HandS.Deep
import HandS.Steps
import HandS.Conv
import HandS.More
import KE.KFmtOwn
import HandS.RaiseMore
import HandS.SortRule
import HandS.SortInts
import HandS.TryOnly
import HandS.ExcInit
import HandS.ExcField
import HandS.ClsMeth
import HandS.GenList
import HandS.Keys
import KE.KDictZip
import HandS.SetFor
import HandS.Zip
import HandS.Dict
import HandS.Set
import HandS.Strs
import HandS.OwnEq
import KE.GoesMore
import KE.GoesZip
import KE.GoesEnum
import PyProof.Rows.SetFrom
import KE.KRevSl
import HandS.SuiteRaise
import HandS.RaiseFrom
import HandS.HotCalls
import HandS.ExcInitHot
import HandS.HeadWalk
import HandS.Head0
import HandS.Head1
import HandS.Head2
import HandS.HeadEnd
import HandS.HeadHook1
import HandS.HeadHook2
import HandS.HeadHook3
import HandS.HeadHook4
import PyProof.Rows.StrDigitsNeg
import PyProof.Rows.ReprOcc
import PySem.Challenge.RW_halfcrumb_k56_beads_refused
set_option Elab.async false
set_option linter.all false
set_option maxRecDepth 100000
set_option exponentiation.threshold 5000
set_option maxHeartbeats 40000000
namespace LamP
open PySem PySem.Spec PyProof.Rows L2 LamX
structure LamN (sc scope : Scope) (a b : Str) : Prop where
  kind : scope.kind = .function
  co : scope.isCoroutine = false
  gen : scope.isGenerator = false
  own : ∀ y ∈ scope.names, y.2 ≠ .cell ∧ (y.2 = .local → y.1 = a ∨ y.1 = b)
  pa : scope.names.lookup a = some .local
  pb : scope.names.lookup b = some .local
  ne : a ≠ b
  free : ∀ y ∈ scope.names, y.2 = .free → sc.names.lookup y.1 = some .cell ∨ sc.names.lookup y.1 = some .free
theorem nd_ix {N : List Str} (h : N.Nodup) {i j : Nat} {y : Str} (hi : N[i]? = some y) (hj : N[j]? = some y) : i = j := by
  have hil := (List.getElem?_eq_some_iff.mp hi).1
  have e := hi.trans hj.symm
  exact (List.getElem?_inj hil h).mp e
end LamP
namespace Dn
open PySem PySem.Spec PyProof.Rows L2
inductive D where
  | non | bl (b : Bool) | int (i : Int) | str (x : Str) | tup (l : List D) | lst (l : List D) | obj (c : Nat) (l : List D) | scr (l : List Int) | ptr (n : Nat)
inductive Ob where | lst (l : List D) | ins (c : Nat) (l : List D) | tbl (q : Str) | dct (l : List (Str × D))
abbrev Sto := List Ob
structure Gm where
  K : PySem.W.Frag
  ca : Nat → Addr
  fn : Nat → List Str
  ea : Addr
  cl : List (Option V) := []
  cc : Addr := 0
  cq : Str := Str.empty
  tb : List Addr := []
  ed : Option Addr := none
  en : List Str := []
  el : List D := []
structure Hs where
  as : List Addr
  f : Hp
  h : Hp
mutual
inductive Is (G : Gm) (as : List Addr) (H : Hp) : V → D → Prop
  | non : Is G as H .non .non
  | bl (b : Bool) : Is G as H (.bl b) (.bl b)
  | int (i : Int) : Is G as H (.int i) (.int i)
  | str (x : Str) : Is G as H (.str x) (.str x)
  | tup {a : Addr} {xs : List V} {ds : List D} : SqT G.K H a xs → IsL G as H xs ds → Is G as H (.ref a) (.tup ds)
  | lst {a : Addr} {xs : List V} {ds : List D} : H a = some (.lst xs) → IsL G as H xs ds → Is G as H (.ref a) (.lst ds)
  | obj {a dx : Addr} {c : Nat} {xs : List V} {ds : List D} : H a = some (.ins (G.ca c) dx ((G.fn c).zip xs)) → (G.fn c).length = xs.length → IsL G as H xs ds → Is G as H (.ref a) (.obj c ds)
  | scr {a : Addr} {l : List Int} : SqL G.K H a (l.map V.int) → Is G as H (.ref a) (.scr l)
  | ptr {a : Addr} {n : Nat} : as[n]? = some a → Is G as H (.ref a) (.ptr n)
inductive IsL (G : Gm) (as : List Addr) (H : Hp) : List V → List D → Prop
  | nil : IsL G as H [] []
  | cons {v : V} {vs : List V} {d : D} {ds : List D} : Is G as H v d → IsL G as H vs ds → IsL G as H (v :: vs) (d :: ds)
end
def Ext (as bs : List Addr) : Prop := ∀ (n : Nat) (a : Addr), as[n]? = some a → bs[n]? = some a
theorem Ext.refl (as : List Addr) : Ext as as := fun _ _ h => h
theorem Ext.trans {as bs cs : List Addr} (x : Ext as bs) (y : Ext bs cs) : Ext as cs := fun n a h => y n a (x n a h)
theorem Ext.mem {as bs : List Addr} (x : Ext as bs) {a : Addr} (h : a ∈ as) : a ∈ bs := by
  obtain ⟨n, hn⟩ := List.mem_iff_getElem?.mp h
  exact List.mem_iff_getElem?.mpr ⟨n, x n a hn⟩
theorem Ext.app (as bs : List Addr) : Ext as (as ++ bs) := fun n a h => by
  rw [List.getElem?_append_left (List.getElem?_eq_some_iff.mp h).1]; exact h
theorem same_t {K : PySem.W.Frag} {H H' : Hp} {a : Addr} {xs : List V} (e : Same H H') (h : SqT K H a xs) : SqT K H' a xs := by
  rcases h with (h | ⟨o, h⟩) | h
  · exact .inl (.inl (e _ _ h))
  · exact .inl (.inr ⟨o, e _ _ h⟩)
  · exact .inr h
mutual
theorem Is.mono {G : Gm} {as bs : List Addr} {H H' : Hp} (x : Ext as bs) (e : Same H H') : ∀ (d : D) {v : V}, Is G as H v d → Is G bs H' v d
  | .non, _, h => by cases h; exact .non
  | .bl _, _, h => by cases h; exact .bl _
  | .int _, _, h => by cases h; exact .int _
  | .str _, _, h => by cases h; exact .str _
  | .tup ds, _, h => by cases h with | tup a b => exact .tup (same_t e a) (IsL.mono x e ds b)
  | .lst ds, _, h => by cases h with | lst a b => exact .lst (e _ _ a) (IsL.mono x e ds b)
  | .scr l, _, h => by cases h with | scr a => exact .scr (e.seq a)
  | .ptr n, _, h => by cases h with | ptr a => exact .ptr (x _ _ a)
  | .obj c ds, _, h => by cases h with | obj a l b => exact .obj (e _ _ a) l (IsL.mono x e ds b)
theorem IsL.mono {G : Gm} {as bs : List Addr} {H H' : Hp} (x : Ext as bs) (e : Same H H') : ∀ (ds : List D) {vs : List V}, IsL G as H vs ds → IsL G bs H' vs ds
  | [], _, h => by cases h; exact .nil
  | d :: ds, _, h => by cases h with | cons a b => exact .cons (Is.mono x e d a) (IsL.mono x e ds b)
end
def Gm.at_ (G : Gm) (a : Addr) : Gm := { G with ea := a }
mutual
theorem Is.ea {G : Gm} {as : List Addr} {H : Hp} (x : Addr) : ∀ (d : D) {v : V}, Is G as H v d → Is (G.at_ x) as H v d
  | .non, _, h => by cases h; exact .non
  | .bl _, _, h => by cases h; exact .bl _
  | .int _, _, h => by cases h; exact .int _
  | .str _, _, h => by cases h; exact .str _
  | .tup ds, _, h => by cases h with | tup a b => exact .tup a (IsL.ea x ds b)
  | .lst ds, _, h => by cases h with | lst a b => exact .lst a (IsL.ea x ds b)
  | .scr l, _, h => by cases h with | scr a => exact .scr a
  | .ptr n, _, h => by cases h with | ptr a => exact .ptr a
  | .obj c ds, _, h => by cases h with | obj a l b => exact .obj a l (IsL.ea x ds b)
theorem IsL.ea {G : Gm} {as : List Addr} {H : Hp} (x : Addr) : ∀ (ds : List D) {vs : List V}, IsL G as H vs ds → IsL (G.at_ x) as H vs ds
  | [], _, h => by cases h; exact .nil
  | d :: ds, _, h => by cases h with | cons a b => exact .cons (Is.ea x d a) (IsL.ea x ds b)
end
section
variable {G : Gm} {as bs : List Addr} {H H' : Hp}
theorem Is.up {v : V} {d : D} (h : Is G as H v d) (x : Ext as bs) (e : Same H H') : Is G bs H' v d := Is.mono x e d h
theorem IsL.up {v : List V} {d : List D} (h : IsL G as H v d) (x : Ext as bs) (e : Same H H') : IsL G bs H' v d := IsL.mono x e d h
theorem IsL.len : ∀ {ds : List D} {vs : List V}, IsL G as H vs ds → vs.length = ds.length
  | [], _, h => by cases h; rfl
  | d :: ds, _, h => by cases h with | cons a b => exact congrArg Nat.succ b.len
theorem IsL.get : ∀ {ds : List D} {vs : List V} {i : Nat} {d : D}, IsL G as H vs ds → ds[i]? = some d → ∃ v, vs[i]? = some v ∧ Is G as H v d
  | [], _, _, _, _, e => by simp at e
  | d :: ds, _, 0, _, h, e => by cases h with | cons a b => simp at e; subst e; exact ⟨_, rfl, a⟩
  | d :: ds, _, i + 1, _, h, e => by
    cases h with
    | cons a b =>
      obtain ⟨v, h1, h2⟩ := IsL.get (i := i) b (by simpa using e)
      exact ⟨v, by simpa using h1, h2⟩
theorem IsL.getV {ds : List D} {vs : List V} {i : Nat} {v : V} (h : IsL G as H vs ds) (e : vs[i]? = some v) : ∃ d, ds[i]? = some d ∧ Is G as H v d := by
  have hl := h.len
  have hi : i < vs.length := (List.getElem?_eq_some_iff.mp e).1
  have : ds[i]? = some (ds[i]'(by omega)) := List.getElem?_eq_getElem (by omega)
  obtain ⟨w, h1, h2⟩ := h.get this
  rw [e] at h1
  cases h1
  exact ⟨_, this, h2⟩
theorem IsL.append : ∀ {ds es : List D} {vs ws : List V}, IsL G as H vs ds → IsL G as H ws es → IsL G as H (vs ++ ws) (ds ++ es)
  | [], _, _, _, h, k => by cases h; exact k
  | d :: ds, _, _, _, h, k => by cases h with | cons a b => exact .cons a (IsL.append b k)
theorem IsL.one {v : V} {d : D} (h : Is G as H v d) : IsL G as H [v] [d] := .cons h .nil
theorem IsL.take : ∀ (n : Nat) {ds : List D} {vs : List V}, IsL G as H vs ds → IsL G as H (vs.take n) (ds.take n)
  | 0, _, _, _ => .nil
  | n + 1, [], _, h => by cases h; exact .nil
  | n + 1, d :: ds, _, h => by cases h with | cons a b => exact .cons a (IsL.take n b)
theorem IsL.drop : ∀ (n : Nat) {ds : List D} {vs : List V}, IsL G as H vs ds → IsL G as H (vs.drop n) (ds.drop n)
  | 0, _, _, h => h
  | n + 1, [], _, h => by cases h; exact .nil
  | n + 1, d :: ds, _, h => by cases h with | cons a b => exact IsL.drop n b
theorem IsL.set {v : V} {d : D} (q : Is G as H v d) : ∀ (n : Nat) {ds : List D} {vs : List V}, IsL G as H vs ds → IsL G as H (vs.set n v) (ds.set n d)
  | _, [], _, h => by cases h; exact .nil
  | 0, _ :: ds, _, h => by cases h with | cons a b => exact .cons q b
  | n + 1, _ :: ds, _, h => by cases h with | cons a b => exact .cons a (IsL.set q n b)
theorem IsL.eraseIdx : ∀ (n : Nat) {ds : List D} {vs : List V}, IsL G as H vs ds → IsL G as H (vs.eraseIdx n) (ds.eraseIdx n)
  | _, [], _, h => by cases h; exact .nil
  | 0, _ :: ds, _, h => by cases h with | cons a b => exact b
  | n + 1, _ :: ds, _, h => by cases h with | cons a b => exact .cons a (IsL.eraseIdx n b)
theorem IsL.reverse : ∀ {ds : List D} {vs : List V}, IsL G as H vs ds → IsL G as H vs.reverse ds.reverse
  | [], _, h => by cases h; exact .nil
  | d :: ds, _, h => by
    cases h with
    | cons a b =>
      rw [List.reverse_cons, List.reverse_cons]
      exact (IsL.reverse b).append (.one a)
inductive KsR (G : Gm) (as : List Addr) (H : Hp) : List (Key × V) → List (Str × D) → Prop
  | nil : KsR G as H [] []
  | cons {x : Str} {v : V} {d : D} {ps : List (Key × V)} {ds : List (Str × D)} : Is G as H v d → KsR G as H ps ds → KsR G as H ((.inr x, v) :: ps) ((x, d) :: ds)
theorem KsR.up {ps : List (Key × V)} {ds : List (Str × D)} (h : KsR G as H ps ds) (x : Ext as bs) (e : Same H H') : KsR G bs H' ps ds := by
  induction h with
  | nil => exact .nil
  | cons a b ih => exact .cons (a.up x e) ih
theorem KsR.ea {ps : List (Key × V)} {ds : List (Str × D)} (x : Addr) (h : KsR G as H ps ds) : KsR (G.at_ x) as H ps ds := by
  induction h with
  | nil => exact .nil
  | cons a b ih => exact .cons (Is.ea x _ a) ih
def flat : D → Bool
  | .non | .bl _ | .int _ | .str _ => true
  | _ => false
theorem Is.flat (bs : List Addr) (H' : Hp) {v : V} {d : D} (h : Is G as H v d) (f : flat d = true) : Is G bs H' v d := by
  cases h <;> first | exact .non | exact .bl _ | exact .int _ | exact .str _ | cases f
end
theorem same_new {H : Hp} {p : Addr} {o : HO} (h : H p = none) : Same H (upd H p o) := fun a u e => by
  rw [upd_ne (ne_of_none e h)]
  exact e
structure Gro (s t : Hs) : Prop where
  a : Ext s.as t.as
  f : Same s.f t.f
  h : ∀ p o, s.h p = some o → p ∉ s.as → t.h p = some o
  sf : Same t.f t.h
  n : ∀ p o, s.h p = some o → s.f p = none → t.f p = none
  w : ∀ x, x ∈ t.as → x ∈ s.as ∨ s.h x = none
  z : ∀ x, x ∈ t.as → t.f x = none
theorem Gro.trans {s t u : Hs} (x : Gro s t) (y : Gro t u) : Gro s u where
  a := x.a.trans y.a
  f := x.f.trans y.f
  h := fun p o e q => y.h p o (x.h p o e q) fun m => (x.w p m).elim q fun z => by rw [e] at z; cases z
  sf := y.sf
  n := fun p o e q => by
    by_cases m : p ∈ s.as
    · exact y.z p (y.a.mem (x.a.mem m))
    · exact y.n p o (x.h p o e m) (x.n p o e q)
  w := fun p m => (y.w p m).elim (fun m => x.w p m) fun z => by
    by_cases m : p ∈ s.as
    · exact .inl m
    · cases e : s.h p with
      | none => exact .inr rfl
      | some o => rw [x.h p o e m] at z; cases z
  z := y.z
def ObOk (G : Gm) (s : Hs) (a : Addr) : Ob → Prop
  | .lst ds => ∃ vs, s.h a = some (.lst vs) ∧ IsL G s.as s.f vs ds
  | .ins c ds => ∃ dx vs, s.h a = some (.ins (G.ca c) dx ((G.fn c).zip vs)) ∧ vs.length ≤ (G.fn c).length ∧ IsL G s.as s.f vs ds
  | .tbl q => ∃ ps : Array Value, s.h a = some (.tbl ps) ∧ TriplesOk ps.toList ∧ ∀ (pos : Pos) (cv : Value), codeAmong pos ps.toList = some cv → ∃ c, cv = .ref c ∧ s.f c = some (LamX.CodeO c q)
  | .dct l => ∃ kvs : List (Key × V), s.h a = some (.dK kvs) ∧ KsR G s.as s.f kvs l
def ExF (G : Gm) (s : Hs) : Prop := ∀ da, G.ed = some da → ∃ xs, s.f da = some (.xd (G.en.zip xs)) ∧ G.en.length = xs.length ∧ IsL G s.as s.f xs G.el
theorem ExF.up {G : Gm} {s t : Hs} (k : ExF G s) (a : Ext s.as t.as) (f : Same s.f t.f) : ExF G t := fun da h => by
  obtain ⟨xs, h1, h2, h3⟩ := k da h
  exact ⟨xs, f _ _ h1, h2, h3.up a f⟩
structure StOk (G : Gm) (s : Hs) (st : Sto) : Prop where
  sf : Same s.f s.h
  len : s.as.length = st.length
  nd : s.as.Nodup
  ob : ∀ (n : Nat) (a : Addr) (o : Ob), s.as[n]? = some a → st[n]? = some o → ObOk G s a o
  nf : ∀ x, x ∈ s.as → s.f x = none
  tb : ∀ (n : Nat) (P : Addr), G.tb[n]? = some P → s.as[n]? = some P
  ex : ExF G s
theorem Gro.refl {G : Gm} {s : Hs} {st : Sto} (o : StOk G s st) : Gro s s := ⟨Ext.refl _, Same.refl _, fun _ _ e _ => e, o.sf, fun _ _ _ q => q, fun _ m => .inl m, o.nf⟩
theorem StOk.in_ {G : Gm} {s : Hs} {st : Sto} (o : StOk G s st) {x : Addr} (m : x ∈ s.as) : ∃ u, s.h x = some u := by
  obtain ⟨n, hn⟩ := List.mem_iff_getElem?.mp m
  have hl : n < st.length := by rw [← o.len]; exact (List.getElem?_eq_some_iff.mp hn).1
  have q := o.ob n x st[n] hn (List.getElem?_eq_getElem hl)
  cases e : st[n] with
  | lst ds => rw [e] at q; obtain ⟨vs, h, _⟩ := q; exact ⟨_, h⟩
  | ins c ds => rw [e] at q; obtain ⟨dx, vs, h, _⟩ := q; exact ⟨_, h⟩
  | tbl w => rw [e] at q; obtain ⟨ps, h, _⟩ := q; exact ⟨_, h⟩
  | dct l => rw [e] at q; obtain ⟨ps, h, _⟩ := q; exact ⟨_, h⟩
theorem StOk.new {G : Gm} {s : Hs} {st : Sto} (o : StOk G s st) {p : Addr} (h : s.h p = none) : p ∉ s.as := fun m => by
  obtain ⟨u, e⟩ := o.in_ m
  rw [h] at e; cases e
theorem ObOk.keep {G : Gm} {s t : Hs} {a : Addr} {o : Ob} (q : ObOk G s a o) (x : Ext s.as t.as) (f : Same s.f t.f) (h : ∀ u, s.h a = some u → t.h a = some u) : ObOk G t a o := by
  cases o with
  | lst ds => obtain ⟨vs, h1, h2⟩ := q; exact ⟨vs, h _ h1, h2.up x f⟩
  | ins c ds => obtain ⟨dx, vs, h1, hl, h2⟩ := q; exact ⟨dx, vs, h _ h1, hl, h2.up x f⟩
  | tbl w =>
    obtain ⟨ps, h1, h2, h3⟩ := q
    refine ⟨ps, h _ h1, h2, fun pos cv hc => ?_⟩
    obtain ⟨c, e1, e2⟩ := h3 pos cv hc
    exact ⟨c, e1, f _ _ e2⟩
  | dct l => obtain ⟨kvs, h1, h2⟩ := q; exact ⟨kvs, h _ h1, h2.up x f⟩
theorem Gro.new {G : Gm} {s : Hs} {st : Sto} {p : Addr} {o : HO} (k : StOk G s st) (h : s.h p = none) : Gro s ⟨s.as, upd s.f p o, upd s.h p o⟩ := by
  refine ⟨Ext.refl _, same_new (k.sf.free h), fun a u e _ => ?_, fun a u e => ?_, fun a u e q => ?_, fun _ m => .inl m, fun x m => ?_⟩
  · show upd s.h p o a = some u
    rw [upd_ne (ne_of_none e h)]; exact e
  · have e' : upd s.f p o a = some u := e
    show upd s.h p o a = some u
    by_cases z : a = p
    · subst z; rw [upd_same] at e' ⊢; exact e'
    · rw [upd_ne z] at e' ⊢; exact k.sf _ _ e'
  · show upd s.f p o a = none
    rw [upd_ne (ne_of_none e h)]; exact q
  · show upd s.f p o x = none
    have : x ≠ p := fun z => by subst z; exact k.new h m
    rw [upd_ne this]; exact k.nf x m
theorem Gro.loose {G : Gm} {s : Hs} {st : Sto} {p : Addr} {o : HO} (k : StOk G s st) (h : s.h p = none) : Gro s ⟨s.as, s.f, upd s.h p o⟩ :=
  ⟨Ext.refl _, Same.refl _, fun a u e _ => by show upd s.h p o a = some u; rw [upd_ne (ne_of_none e h)]; exact e, k.sf.trans (same_new h), fun _ _ _ q => q, fun _ m => .inl m, k.nf⟩
theorem StOk.grow {G : Gm} {s : Hs} {st : Sto} {p : Addr} {o : HO} (k : StOk G s st) (h : s.h p = none) : StOk G ⟨s.as, upd s.f p o, upd s.h p o⟩ st := by
  have g := Gro.new (o := o) k h
  refine ⟨g.sf, k.len, k.nd, fun n a b e1 e2 => (k.ob n a b e1 e2).keep g.a g.f fun u e => ?_, g.z, k.tb, k.ex.up g.a g.f⟩
  show upd s.h p o a = some u
  rw [upd_ne (ne_of_none e h)]; exact e
theorem StOk.loose {G : Gm} {s : Hs} {st : Sto} {p : Addr} {o : HO} (k : StOk G s st) (h : s.h p = none) : StOk G ⟨s.as, s.f, upd s.h p o⟩ st := by
  have g := Gro.loose (o := o) k h
  refine ⟨g.sf, k.len, k.nd, fun n a b e1 e2 => (k.ob n a b e1 e2).keep g.a g.f fun u e => ?_, g.z, k.tb, k.ex.up g.a g.f⟩
  show upd s.h p o a = some u
  rw [upd_ne (ne_of_none e h)]; exact e
theorem Gro.ice {G : Gm} {s t : Hs} {st : Sto} {p : Addr} {o : HO} (g : Gro s t) (k : StOk G t st) (hp : t.h p = some o) (hs : s.h p = none) (hf : t.f p = none) (ha : p ∉ t.as) : Gro s ⟨t.as, upd t.f p o, t.h⟩ := by
  refine ⟨g.a, g.f.trans (same_new hf), g.h, fun a u e => ?_, fun a u e q => ?_, g.w, fun x m => ?_⟩
  · have e' : upd t.f p o a = some u := e
    show t.h a = some u
    by_cases z : a = p
    · subst z; rw [upd_same] at e'; rw [← e']; exact hp
    · rw [upd_ne z] at e'; exact g.sf _ _ e'
  · show upd t.f p o a = none
    rw [upd_ne (ne_of_none e hs)]; exact g.n _ _ e q
  · show upd t.f p o x = none
    have : x ≠ p := fun z => by subst z; exact ha m
    rw [upd_ne this]; exact g.z x m
theorem StOk.ice {G : Gm} {t : Hs} {st : Sto} {p : Addr} {o : HO} (k : StOk G t st) (hp : t.h p = some o) (hf : t.f p = none) (ha : p ∉ t.as) : StOk G ⟨t.as, upd t.f p o, t.h⟩ st := by
  refine ⟨fun a u e => ?_, k.len, k.nd, fun n a b e1 e2 => (k.ob n a b e1 e2).keep (Ext.refl _) (same_new hf) fun u e => e, fun x m => ?_, k.tb, k.ex.up (Ext.refl _) (same_new hf)⟩
  · have e' : upd t.f p o a = some u := e
    show t.h a = some u
    by_cases z : a = p
    · subst z; rw [upd_same] at e'; rw [← e']; exact hp
    · rw [upd_ne z] at e'; exact k.sf _ _ e'
  · show upd t.f p o x = none
    have : x ≠ p := fun z => by subst z; exact ha m
    rw [upd_ne this]; exact k.nf x m
theorem Gro.chg {s t : Hs} {p : Addr} {o : HO} (g : Gro s t) (h : s.h p = none) (hf : t.f p = none) : Gro s ⟨t.as, t.f, upd t.h p o⟩ :=
  ⟨g.a, g.f, fun a u e q => by show upd t.h p o a = some u; rw [upd_ne (ne_of_none e h)]; exact g.h _ _ e q, fun a u e => by show upd t.h p o a = some u; rw [upd_ne (ne_of_none e hf)]; exact g.sf _ _ e, g.n, g.w, g.z⟩
theorem StOk.chg {G : Gm} {t : Hs} {st : Sto} {p : Addr} {o : HO} (k : StOk G t st) (hf : t.f p = none) (ha : p ∉ t.as) : StOk G ⟨t.as, t.f, upd t.h p o⟩ st := by
  refine ⟨fun a u e => by show upd t.h p o a = some u; rw [upd_ne (ne_of_none e hf)]; exact k.sf _ _ e, k.len, k.nd, fun n a b e1 e2 => (k.ob n a b e1 e2).keep (Ext.refl _) (Same.refl _) fun u e => ?_, k.nf, k.tb, k.ex.up (Ext.refl _) (Same.refl _)⟩
  show upd t.h p o a = some u
  have : a ≠ p := fun z => by subst z; exact ha (List.mem_iff_getElem?.mpr ⟨n, e1⟩)
  rw [upd_ne this]; exact e
theorem Gro.put {G : Gm} {s t : Hs} {st : Sto} {p : Addr} (g : Gro s t) (k : StOk G t st) (hs : s.h p = none) (hf : t.f p = none) : Gro s ⟨t.as ++ [p], t.f, t.h⟩ := by
  refine ⟨g.a.trans (Ext.app _ _), g.f, g.h, g.sf, g.n, fun x m => ?_, fun x m => ?_⟩
  · rcases List.mem_append.mp m with m | m
    · exact g.w x m
    · have : x = p := by simpa using m
      subst this; exact .inr hs
  · rcases List.mem_append.mp m with m | m
    · exact g.z x m
    · have : x = p := by simpa using m
      subst this; exact hf
theorem StOk.put {G : Gm} {t : Hs} {st : Sto} {p : Addr} {o : Ob} (k : StOk G t st) (hf : t.f p = none) (ha : p ∉ t.as) (ho : ObOk G ⟨t.as ++ [p], t.f, t.h⟩ p o) : StOk G ⟨t.as ++ [p], t.f, t.h⟩ (st ++ [o]) := by
  refine ⟨k.sf, by simp [k.len], ?_, fun n a b e1 e2 => ?_, fun x m => ?_, fun n P h => Ext.app _ _ n P (k.tb n P h), k.ex.up (Ext.app _ _) (Same.refl _)⟩
  · show (t.as ++ [p]).Nodup
    rw [List.nodup_append]
    refine ⟨k.nd, by simp, fun a h1 b h2 z => ?_⟩
    have : b = p := by simpa using h2
    subst this; subst z; exact ha h1
  · have e1' : (t.as ++ [p])[n]? = some a := e1
    by_cases hn : n < t.as.length
    · rw [List.getElem?_append_left hn] at e1'
      rw [List.getElem?_append_left (by rw [← k.len]; exact hn)] at e2
      exact (k.ob n a b e1' e2).keep (Ext.app _ _) (Same.refl _) fun u e => e
    · have hn' : n = t.as.length := by
        have := (List.getElem?_eq_some_iff.mp e1').1
        simp at this; omega
      subst hn'
      rw [List.getElem?_append_right (Nat.le_refl _)] at e1'
      rw [k.len, List.getElem?_append_right (Nat.le_refl _)] at e2
      simp at e1' e2
      subst e1'; subst e2
      exact ho
  · rcases List.mem_append.mp m with m | m
    · exact k.nf x m
    · have : x = p := by simpa using m
      subst this; exact hf
theorem Gro.mod {G : Gm} {s t : Hs} {st : Sto} {n : Nat} {a : Addr} {o : HO} (g : Gro s t) (k : StOk G t st) (ha : t.as[n]? = some a) : Gro s ⟨t.as, t.f, upd t.h a o⟩ := by
  have m : a ∈ t.as := List.mem_iff_getElem?.mpr ⟨n, ha⟩
  refine ⟨g.a, g.f, fun p u e q => ?_, fun p u e => ?_, g.n, g.w, g.z⟩
  · show upd t.h a o p = some u
    have : p ≠ a := fun z => by
      subst z
      exact (g.w p m).elim q fun z => by rw [e] at z; cases z
    rw [upd_ne this]; exact g.h _ _ e q
  · show upd t.h a o p = some u
    have : p ≠ a := fun z => by
      subst z
      have := k.nf p m
      rw [show t.f p = some u from e] at this; cases this
    rw [upd_ne this]; exact k.sf _ _ e
theorem StOk.mod {G : Gm} {t : Hs} {st : Sto} {n : Nat} {a : Addr} {o : HO} {b : Ob} (k : StOk G t st) (ha : t.as[n]? = some a) (ho : ObOk G ⟨t.as, t.f, upd t.h a o⟩ a b) : StOk G ⟨t.as, t.f, upd t.h a o⟩ (st.set n b) := by
  have m : a ∈ t.as := List.mem_iff_getElem?.mpr ⟨n, ha⟩
  refine ⟨fun p u e => ?_, by simp [k.len], k.nd, fun j x c e1 e2 => ?_, k.nf, k.tb, k.ex.up (Ext.refl _) (Same.refl _)⟩
  · show upd t.h a o p = some u
    have : p ≠ a := fun z => by
      subst z
      have := k.nf p m
      rw [show t.f p = some u from e] at this; cases this
    rw [upd_ne this]; exact k.sf _ _ e
  · by_cases z : n = j
    · subst z
      rw [List.getElem?_set_self (by rw [← k.len]; exact (List.getElem?_eq_some_iff.mp ha).1)] at e2
      cases e2
      have e1' : t.as[n]? = some x := e1
      rw [ha] at e1'; cases e1'
      exact ho
    · rw [List.getElem?_set_ne z] at e2
      refine (k.ob j x c e1 e2).keep (Ext.refl _) (Same.refl _) fun u e => ?_
      show upd t.h a o x = some u
      have : x ≠ a := fun y => by
        subst y
        have e1' : t.as[j]? = some x := e1
        exact z (nd_ix k.nd ha e1')
      rw [upd_ne this]; exact e
inductive Md where | P | B | N
  deriving DecidableEq
def VOk (G : Gm) (s t : Hs) : Md → V → D → Prop
  | .P, v, d => Is G t.as t.f v d
  | .B, v, d => ∃ p vs l, v = .ref p ∧ d = .lst l ∧ t.h p = some (.lst vs) ∧ IsL G t.as t.f vs l ∧ p ∉ t.as
  | .N, v, d => ∃ p vs l, v = .ref p ∧ d = .lst l ∧ t.h p = some (.lst vs) ∧ IsL G t.as t.f vs l ∧ p ∉ t.as ∧ s.h p = none ∧ t.f p = none
def U (G : Gm) (t : Hs) (v : V) (d : D) : Prop := Is G t.as t.f v d ∨ ∃ p vs l, v = .ref p ∧ d = .lst l ∧ t.h p = some (.lst vs) ∧ IsL G t.as t.f vs l ∧ p ∉ t.as
section
variable {G : Gm} {s t t' : Hs} {v : V} {d : D} {m : Md}
theorem VOk.u (h : VOk G s t m v d) : U G t v d := by
  cases m with
  | P => exact .inl h
  | B => exact .inr h
  | N => obtain ⟨p, vs, l, a, b, c, e, f, _⟩ := h; exact .inr ⟨p, vs, l, a, b, c, e, f⟩
theorem U.up (h : U G t v d) (g : Gro t t') : U G t' v d := by
  rcases h with h | ⟨p, vs, l, a, b, c, e, f⟩
  · exact .inl (h.up g.a g.f)
  · exact .inr ⟨p, vs, l, a, b, g.h _ _ c f, e.up g.a g.f, fun m => (g.w p m).elim f fun z => by rw [c] at z; cases z⟩
theorem U.lst {l : List D} (h : U G t v (.lst l)) (s : Same t.f t.h) : ∃ p vs, v = .ref p ∧ t.h p = some (.lst vs) ∧ IsL G t.as t.f vs l := by
  rcases h with h | ⟨p, vs, l', rfl, e, c, q, _⟩
  · cases h with | lst a b => exact ⟨_, _, rfl, s _ _ a, b⟩
  · cases e; exact ⟨p, vs, rfl, c, q⟩
theorem U.scr {l : List Int} (h : U G t v (.scr l)) (s : Same t.f t.h) : ∃ p, v = .ref p ∧ SqL G.K t.h p (l.map V.int) := by
  rcases h with h | ⟨p, vs, l', rfl, e, c, q, _⟩
  · cases h with | scr a => exact ⟨_, rfl, s.seq a⟩
  · cases e
theorem U.tup {l : List D} (h : U G t v (.tup l)) (s : Same t.f t.h) : ∃ p vs, v = .ref p ∧ SqT G.K t.h p vs ∧ IsL G t.as t.f vs l := by
  rcases h with h | ⟨p, vs, l', rfl, e, c, q, _⟩
  · cases h with | tup a b => exact ⟨_, _, rfl, same_t s a, b⟩
  · cases e
theorem U.tupI {l : List D} (h : U G t v (.tup l)) : Is G t.as t.f v (.tup l) := by
  rcases h with h | ⟨p, vs, l', a, b, _⟩
  · exact h
  · cases b
theorem U.ptr {n : Nat} (h : U G t v (.ptr n)) : ∃ p, v = .ref p ∧ t.as[n]? = some p := by
  rcases h with h | ⟨p, vs, l', rfl, e, c, q, _⟩
  · cases h with | ptr a => exact ⟨_, rfl, a⟩
  · cases e
theorem U.obj {c : Nat} {l : List D} (h : U G t v (.obj c l)) (s : Same t.f t.h) : ∃ p dx vs, v = .ref p ∧ t.h p = some (.ins (G.ca c) dx ((G.fn c).zip vs)) ∧ (G.fn c).length = vs.length ∧ IsL G t.as t.f vs l := by
  rcases h with h | ⟨p, vs, l', rfl, e, c, q, _⟩
  · cases h with | obj a l b => exact ⟨_, _, _, rfl, s _ _ a, l, b⟩
  · cases e
theorem U.int {i : Int} (h : U G t v (.int i)) : v = .int i := by
  rcases h with h | ⟨p, vs, l', rfl, e, _⟩
  · cases h; rfl
  · cases e
theorem U.bl {i : Bool} (h : U G t v (.bl i)) : v = .bl i := by
  rcases h with h | ⟨p, vs, l', rfl, e, _⟩
  · cases h; rfl
  · cases e
theorem U.str {i : Str} (h : U G t v (.str i)) : v = .str i := by
  rcases h with h | ⟨p, vs, l', rfl, e, _⟩
  · cases h; rfl
  · cases e
theorem U.non (h : U G t v .non) : v = .non := by
  rcases h with h | ⟨p, vs, l', rfl, e, _⟩
  · cases h; rfl
  · cases e
theorem VOk.up (h : VOk G s t m v d) (g : Gro t t') : VOk G s t' m v d := by
  have na : ∀ {p : Addr} {o : HO}, t.h p = some o → p ∉ t.as → p ∉ t'.as := fun {p o} c f m => (g.w p m).elim f fun z => by rw [c] at z; cases z
  cases m with
  | P => exact Is.up h g.a g.f
  | B => obtain ⟨p, vs, l, a, b, c, e, f⟩ := h; exact ⟨p, vs, l, a, b, g.h _ _ c f, e.up g.a g.f, na c f⟩
  | N => obtain ⟨p, vs, l, a, b, c, e, f, n, z⟩ := h; exact ⟨p, vs, l, a, b, g.h _ _ c f, e.up g.a g.f, na c f, n, g.n _ _ c z⟩
theorem VOk.back {r : Hs} {st : Sto} (h : VOk G s t m v d) (g : Gro r s) (k : StOk G s st) : VOk G r t m v d := by
  cases m with
  | P => exact h
  | B => exact h
  | N =>
    obtain ⟨p, vs, l, a, b, c, e, f, n, z⟩ := h
    refine ⟨p, vs, l, a, b, c, e, f, ?_, z⟩
    cases q : r.h p with
    | none => rfl
    | some o =>
      by_cases i : p ∈ r.as
      · exact absurd (g.a.mem i) (k.new n)
      · rw [g.h p o q i] at n; cases n
theorem VOk.freeze {st : Sto} (h : VOk G s t m v d) (g : Gro s t) (k : StOk G t st) (hm : m ≠ .B) : ∃ f, Gro s ⟨t.as, f, t.h⟩ ∧ StOk G ⟨t.as, f, t.h⟩ st ∧ Same t.f f ∧ Is G t.as f v d := by
  cases m with
  | P => exact ⟨t.f, g, k, Same.refl _, h⟩
  | B => exact absurd rfl hm
  | N =>
    obtain ⟨p, vs, l, rfl, rfl, c, e, f, n, z⟩ := h
    exact ⟨upd t.f p (.lst vs), g.ice k c n z f, k.ice c z f, same_new z, .lst upd_same (e.up (Ext.refl _) (same_new z))⟩
end
inductive SL where | emp | val (d : D) | own (l : List D) | exn | clo (ds : List (Option D))
abbrev DE := List SL
structure En where
  e : DE
  st : Sto
def SlotOk (G : Gm) (s t : Hs) : Option V → SL → Prop
  | _, .emp => True
  | o, .exn => o = some (.ref G.ea)
  | o, .clo ds => o = some (.ref G.ea) ∧ G.cl.length = ds.length ∧ t.f G.cc = some (LamX.CodeO G.cc G.cq) ∧ ∀ (i : Nat) (d : D), ds[i]? = some (some d) → ∃ v, G.cl[i]? = some (some v) ∧ Is G t.as t.f v d
  | o, .val d => ∃ v, o = some v ∧ Is G t.as t.f v d
  | o, .own l => ∃ p vs, o = some (.ref p) ∧ s.h p = none ∧ t.f p = none ∧ t.h p = some (.lst vs) ∧ IsL G t.as t.f vs l ∧ p ∉ t.as
structure EnvOk (G : Gm) (s t : Hs) (σ : L2.St) (e : DE) : Prop where
  gr : Gro s t
  len : σ.length = e.length
  at_ : ∀ (i : Nat) (o : Option V) (x : SL), σ[i]? = some o → e[i]? = some x → SlotOk G s t o x
  dis : ∀ (i j : Nat) (p : Addr) (l m : List D), i ≠ j → σ[i]? = some (some (.ref p)) → e[i]? = some (.own l) → σ[j]? = some (some (.ref p)) → e[j]? = some (.own m) → False
section
variable {G : Gm} {s t t' : Hs} {σ : L2.St} {e : DE} {st : Sto}
theorem SlotOk.up {o : Option V} {x : SL} (h : SlotOk G s t o x) (g : Gro t t') : SlotOk G s t' o x := by
  cases x with
  | emp => trivial
  | exn => exact h
  | clo ds =>
    obtain ⟨h1, h2, h3, h4⟩ := h
    refine ⟨h1, h2, g.f _ _ h3, fun i d hd => ?_⟩
    obtain ⟨v, a, b⟩ := h4 i d hd
    exact ⟨v, a, b.up g.a g.f⟩
  | val d => obtain ⟨v, a, b⟩ := h; exact ⟨v, a, b.up g.a g.f⟩
  | own l => obtain ⟨p, vs, a, b, c, d, e, f⟩ := h; exact ⟨p, vs, a, b, g.n _ _ d c, g.h _ _ d f, e.up g.a g.f, fun m => (g.w p m).elim f fun z => by rw [d] at z; cases z⟩
theorem EnvOk.up (h : EnvOk G s t σ e) (g : Gro t t') : EnvOk G s t' σ e :=
  ⟨h.gr.trans g, h.len, fun i o s a b => (h.at_ i o s a b).up g, h.dis⟩
theorem EnvOk.slot {i : Nat} {x : SL} (h : EnvOk G s t σ e) (hs : e[i]? = some x) : ∃ o, σ[i]? = some o ∧ SlotOk G s t o x := by
  have hi : i < e.length := (List.getElem?_eq_some_iff.mp hs).1
  have e1 : σ[i]? = some (σ[i]'(by have := h.len; omega)) := List.getElem?_eq_getElem _
  exact ⟨_, e1, h.at_ i _ x e1 hs⟩
theorem EnvOk.set {i : Nat} {o : Option V} {x : SL} (h : EnvOk G s t σ e) (hs : SlotOk G s t o x) (hn : ∀ l, x ≠ .own l) : EnvOk G s t (σ.set i o) (e.set i x) := by
  refine ⟨h.gr, by simp [h.len], fun j o' s' a b => ?_, fun j k p l m hjk a b c d => ?_⟩
  · by_cases z : i = j
    · subst z
      have hi : i < σ.length := by
        have := (List.getElem?_eq_some_iff.mp a).1
        simpa using this
      rw [List.getElem?_set_self hi] at a
      rw [List.getElem?_set_self (by rw [← h.len]; exact hi)] at b
      cases a; cases b; exact hs
    · rw [List.getElem?_set_ne z] at a b
      exact h.at_ j o' s' a b
  · by_cases z : i = j
    · subst z
      have hi : i < e.length := by
        have := (List.getElem?_eq_some_iff.mp b).1
        simpa using this
      rw [List.getElem?_set_self hi] at b
      cases b
      exact absurd rfl (hn l)
    · by_cases z2 : i = k
      · subst z2
        have hi : i < e.length := by
          have := (List.getElem?_eq_some_iff.mp d).1
          simpa using this
        rw [List.getElem?_set_self hi] at d
        cases d
        exact absurd rfl (hn m)
      · rw [List.getElem?_set_ne z] at a b
        rw [List.getElem?_set_ne z2] at c d
        exact h.dis j k p l m hjk a b c d
theorem EnvOk.setOwn {i : Nat} {p : Addr} {vs : List V} {l : List D} (h : EnvOk G s t σ e) (h0 : s.h p = none) (hf : t.f p = none) (hp : t.h p = some (.lst vs)) (hl : IsL G t.as t.f vs l) (ha : p ∉ t.as)
    (hne : ∀ (j : Nat) (m : List D), j ≠ i → σ[j]? = some (some (.ref p)) → e[j]? = some (.own m) → False) : EnvOk G s t (σ.set i (some (.ref p))) (e.set i (.own l)) := by
  refine ⟨h.gr, by simp [h.len], fun j o' s' a b => ?_, fun j k q l1 m hjk a b c d => ?_⟩
  · by_cases z : i = j
    · subst z
      have hi : i < σ.length := by
        have := (List.getElem?_eq_some_iff.mp a).1
        simpa using this
      rw [List.getElem?_set_self hi] at a
      rw [List.getElem?_set_self (by rw [← h.len]; exact hi)] at b
      cases a; cases b; exact ⟨p, vs, rfl, h0, hf, hp, hl, ha⟩
    · rw [List.getElem?_set_ne z] at a b
      exact h.at_ j o' s' a b
  · by_cases z : i = j
    · subst z
      have hi : i < σ.length := by
        have := (List.getElem?_eq_some_iff.mp a).1
        simpa using this
      rw [List.getElem?_set_self hi] at a
      rw [List.getElem?_set_ne hjk] at c d
      cases a
      exact hne k m (fun z => hjk z.symm) c d
    · by_cases z2 : i = k
      · subst z2
        have hi : i < σ.length := by
          have := (List.getElem?_eq_some_iff.mp c).1
          simpa using this
        rw [List.getElem?_set_self hi] at c
        rw [List.getElem?_set_ne z] at a b
        cases c
        exact hne j l1 hjk a b
      · rw [List.getElem?_set_ne z] at a b
        rw [List.getElem?_set_ne z2] at c d
        exact h.dis j k q l1 m hjk a b c d
theorem EnvOk.chg {i : Nat} {p : Addr} {vs : List V} {l l' : List D} (h : EnvOk G s t σ e) (hσ : σ[i]? = some (some (.ref p))) (he : e[i]? = some (.own l')) (h0 : s.h p = none) (hf : t.f p = none) (hl : IsL G t.as t.f vs l) (ha : p ∉ t.as) :
    EnvOk G s ⟨t.as, t.f, upd t.h p (.lst vs)⟩ σ (e.set i (.own l)) := by
  refine ⟨h.gr.chg h0 hf, by simp [h.len], fun j o' s' a b => ?_, fun j k q l1 m hjk a b c d => ?_⟩
  · by_cases z : i = j
    · subst z
      have hi : i < e.length := (List.getElem?_eq_some_iff.mp he).1
      rw [List.getElem?_set_self hi] at b
      rw [hσ] at a
      cases a; cases b; exact ⟨p, vs, rfl, h0, hf, upd_same, hl, ha⟩
    · rw [List.getElem?_set_ne z] at b
      have q := h.at_ j o' s' a b
      cases s' with
      | emp => trivial
      | exn => exact q
      | clo ds => exact q
      | val d => exact q
      | own m =>
        obtain ⟨p', vs', rfl, b1, b2, b3, b4, b5⟩ := q
        have : p' ≠ p := fun zz => by subst zz; exact h.dis i j p' l' m z hσ he a b
        exact ⟨p', vs', rfl, b1, b2, by show upd t.h p (.lst vs) p' = _; rw [upd_ne this]; exact b3, b4, b5⟩
  · have own_of : ∀ (j : Nat) (l1 : List D), (e.set i (.own l))[j]? = some (.own l1) → ∃ l2, e[j]? = some (.own l2) := fun j l1 b => by
      by_cases z : i = j
      · subst z; exact ⟨l', he⟩
      · rw [List.getElem?_set_ne z] at b; exact ⟨l1, b⟩
    obtain ⟨l2, b'⟩ := own_of j l1 b
    obtain ⟨l3, d'⟩ := own_of k m d
    exact h.dis j k q l2 l3 hjk a b' c d'
theorem EnvOk.other {p : Addr} {o : HO} (E : EnvOk G s t σ e) (h0 : s.h p = none) (hf : t.f p = none)
    (hne : ∀ (j : Nat) (m : List D), σ[j]? = some (some (.ref p)) → e[j]? = some (.own m) → False) : EnvOk G s ⟨t.as, t.f, upd t.h p o⟩ σ e := by
  refine ⟨E.gr.chg h0 hf, E.len, fun i x y a b => ?_, E.dis⟩
  have ok := E.at_ i x y a b
  cases y with
  | emp => trivial
  | exn => exact ok
  | clo ds => exact ok
  | val d => exact ok
  | own l =>
    obtain ⟨q, vs, rfl, a1, a2, a3, a4, a5⟩ := ok
    have : q ≠ p := fun z => by subst z; exact hne i l a b
    exact ⟨q, vs, rfl, a1, a2, by show upd t.h p o q = _; rw [upd_ne this]; exact a3, a4, a5⟩
end
inductive ER where | val (m : Md) (d : D) (st : Sto) | exc (c : Nat) (l : List D) (st : Sto) | bad
def ExcOk (G : Gm) (s : Hs) (c : Nat) (l : List D) (x : Option Addr) : Prop :=
  (l = [] ∧ x = none) ∨ ∃ da xs, x = some da ∧ l ≠ [] ∧ s.f da = some (.xd ((G.fn c).zip xs)) ∧ (G.fn c).length = xs.length ∧ IsL G s.as s.f xs l
theorem ExcOk.up {G : Gm} {s t : Hs} {c : Nat} {l : List D} {x : Option Addr} (h : ExcOk G s c l x) (g : Gro s t) : ExcOk G t c l x := by
  rcases h with h | ⟨da, xs, a, b, c, d, e⟩
  · exact .inl h
  · exact .inr ⟨da, xs, a, b, g.f _ _ c, d, e.up g.a g.f⟩
def RPost (G : Gm) (W : WX) (s : Hs) (σ : L2.St) (Q : VK) : ER → Prop
  | .val m d st => ∀ t v, Gro s t → StOk G t st → VOk G s t m v d → Q v t.h
  | .exc c l st => ∀ t x, Gro s t → StOk G t st → ExcOk G t c l x → W (.ref (G.ca c)) x σ t.h
  | .bad => False
section
variable {G : Gm} {W : WX} {s t : Hs} {σ : L2.St} {Q Q' : VK} {st : Sto}
theorem RPost.step {r : ER} (g : Gro s t) (k : StOk G t st) (h : RPost G W s σ Q r) : RPost G W t σ Q r := by
  cases r with
  | val m d st' => exact fun u v g' o' o => h u v (g.trans g') o' (o.back g k)
  | exc c l st' => exact fun u x g' o' o => h u x (g.trans g') o' o
  | bad => exact h
def ER.bind (r : ER) (k : D → Sto → ER) : ER := match r with
  | .val _ d st => k d st
  | .exc c l st => .exc c l st
  | .bad => .bad
@[simp] theorem ER.bind_val (m : Md) (d : D) (st : Sto) (k : D → Sto → ER) : (ER.val m d st).bind k = k d st := rfl
@[simp] theorem ER.bind_exc (c : Nat) (l : List D) (st : Sto) (k : D → Sto → ER) : (ER.exc c l st).bind k = .exc c l st := rfl
@[simp] theorem ER.bind_bad (k : D → Sto → ER) : ER.bad.bind k = .bad := rfl
def DEv (G : Gm) (W : WX) (te : TE) (f : En → ER) : Prop :=
  ∀ s t σ e st, EnvOk G s t σ e → StOk G t st → ∀ Q : VK, RPost G W t σ Q (f ⟨e, st⟩) → te σ t.h Q
theorem RPost.bind {r : ER} {k : D → Sto → ER} (h : RPost G W s σ Q (r.bind k))
    (hk : ∀ m d st t v, Gro s t → StOk G t st → VOk G s t m v d → RPost G W t σ Q (k d st) → Q' v t.h) : RPost G W s σ Q' r := by
  cases r with
  | val m d st => exact fun t v g o' o => hk m d st t v g o' o (RPost.step g o' h)
  | exc c l st => exact h
  | bad => exact h
end
end Dn
namespace Dn
open PySem PySem.Spec PyProof.Rows L2
def rOr (r r' : R2) : R2 := fun x y H Q => r x y H Q ∨ r' x y H Q
theorem opOr {X : Cx} {f : Value → Value → Sem Value} {r r' : R2} (h : OpR X f r) (h' : OpR X f r') : OpR X f (rOr r r') := by
  intro pins s σ H x y v u Q I rx ry q
  rcases q with q | q
  · exact h pins s σ H x y v u Q I rx ry q
  · exact h' pins s σ H x y v u Q I rx ry q
def DOp (G : Gm) (r : R2) (o : D → D → Sto → ER) : Prop :=
  ∀ (W : WX) (σ : L2.St) (s : Hs) (st : Sto) (v w : V) (d d' : D), StOk G s st → U G s v d → U G s w d' → ∀ Q : VK, RPost G W s σ Q (o d d' st) → r v w s.h Q
section
variable {G : Gm} {W : WX} {s : Hs} {σ : L2.St} {Q : VK} {st : Sto}
theorem RPost.now {v : V} {d : D} (k : StOk G s st) (h : RPost G W s σ Q (.val .P d st)) (hv : Is G s.as s.f v d) : Q v s.h := h s v (Gro.refl k) k hv
theorem RPost.newL {vs : List V} {l : List D} (k : StOk G s st) (h : RPost G W s σ Q (.val .N (.lst l) st)) (hv : IsL G s.as s.f vs l) {p : Addr} (hp : s.h p = none) : Q (.ref p) (upd s.h p (.lst vs)) :=
  h ⟨s.as, s.f, upd s.h p (.lst vs)⟩ _ (Gro.loose k hp) (k.loose hp) ⟨p, vs, l, rfl, rfl, upd_same, hv, k.new hp, hp, k.sf.free hp⟩
theorem RPost.newT {vs : List V} {l : List D} (k : StOk G s st) (h : RPost G W s σ Q (.val .P (.tup l) st)) (hv : IsL G s.as s.f vs l) {p : Addr} (hp : s.h p = none) : Q (.ref p) (upd s.h p (.tup vs)) :=
  h ⟨s.as, upd s.f p (.tup vs), upd s.h p (.tup vs)⟩ _ (Gro.new k hp) (k.grow hp) (.tup (SqT.of upd_same) (hv.up (Ext.refl _) (same_new (k.sf.free hp))))
theorem RPost.cond (c : Prop) [Decidable c] (r : ER) (h : RPost G W s σ Q (if c then r else .bad)) : c ∧ RPost G W s σ Q r := by
  by_cases q : c
  · rw [if_pos q] at h; exact ⟨q, h⟩
  · rw [if_neg q] at h; exact h.elim
def ofOpt {α : Type} (o : Option α) (k : α → ER) : ER := match o with
  | some d => k d
  | none => .bad
@[simp] theorem ofOpt_some {α : Type} (a : α) (k : α → ER) : ofOpt (some a) k = k a := rfl
@[simp] theorem ofOpt_none {α : Type} (k : α → ER) : ofOpt none k = .bad := rfl
theorem RPost.opt {α : Type} (o : Option α) (k : α → ER) (h : RPost G W s σ Q (ofOpt o k)) : ∃ d, o = some d ∧ RPost G W s σ Q (k d) := by
  cases o with
  | none => exact h.elim
  | some d => exact ⟨d, rfl, h⟩
end
theorem sz {n : Nat} (h : n ≤ 1000000) : n ≤ sizeLine := Nat.le_trans h (by decide)
theorem szlt {n : Nat} (h : n < 1000000) : n < sizeLine := Nat.lt_of_lt_of_le h (by decide)
section
variable {G : Gm}
def oAdd : D → D → Sto → ER
  | .int i, .int j, st => .val .P (.int (i + j)) st
  | .str a, .str b, st => if a.length + b.length ≤ 1000000 then .val .P (.str (a ++ b)) st else .bad
  | .lst a, .lst b, st => if a.length + b.length ≤ 1000000 then .val .N (.lst (a ++ b)) st else .bad
  | .tup a, .tup b, st => if a.length + b.length ≤ 1000000 then .val .P (.tup (a ++ b)) st else .bad
  | _, _, _ => .bad
abbrev rAddS : R2 := fun x y H Q => ∃ i j, x = .str i ∧ y = .str j ∧ i.length + j.length ≤ sizeLine ∧ Q (.str (i ++ j)) H
abbrev rAddA (K : PySem.W.Frag) : R2 := rOr (rI0 fun i j => .int (i + j)) (rOr rAddS (rOr rCat (L2.rCatA K)))
theorem or_add {X : Cx} : OpR X (binaryOp .Add) (rAddA X.K) := opOr op_add (opOr op_add_str (opOr op_cat L2.op_catA))
theorem d_add : DOp G (rAddA G.K) oAdd := by
  intro W σ s st v w d d' k hv hw Q post
  cases d <;> cases d' <;> try exact post.elim
  case int.int i j =>
    obtain rfl := hv.int; obtain rfl := hw.int
    exact .inl ⟨i, j, rfl, rfl, post.now k (.int _)⟩
  case str.str a b =>
    obtain rfl := hv.str; obtain rfl := hw.str
    obtain ⟨h, post⟩ := RPost.cond (a.length + b.length ≤ 1000000) (.val .P (.str (a ++ b)) st) post
    exact .inr (.inl ⟨a, b, rfl, rfl, sz h, post.now k (.str _)⟩)
  case lst.lst a b =>
    obtain ⟨p, vs, rfl, hp, hl⟩ := hv.lst k.sf
    obtain ⟨q, ws, rfl, hq, hm⟩ := hw.lst k.sf
    obtain ⟨h, post⟩ := RPost.cond (a.length + b.length ≤ 1000000) (.val .N (.lst (a ++ b)) st) post
    exact .inr (.inr (.inl ⟨p, q, vs, ws, rfl, rfl, hp, hq, by rw [hl.len, hm.len]; exact sz h, fun r hr => post.newL k (hl.append hm) hr⟩))
  case tup.tup a b =>
    obtain ⟨p, vs, rfl, hp, hl⟩ := hv.tup k.sf
    obtain ⟨q, ws, rfl, hq, hm⟩ := hw.tup k.sf
    obtain ⟨h, post⟩ := RPost.cond (a.length + b.length ≤ 1000000) (.val .P (.tup (a ++ b)) st) post
    refine .inr (.inr (.inr ⟨p, q, vs, ws, rfl, rfl, hp, hq, by rw [hl.len, hm.len]; exact sz h, fun z => ?_, fun _ z => ?_, fun _ _ r hr => post.newT k (hl.append hm) hr⟩))
    · have : a = [] := by have := hl.len; subst z; exact List.length_eq_zero_iff.mp this.symm
      subst this; exact post.now k hw.tupI
    · have : b = [] := by have := hm.len; subst z; exact List.length_eq_zero_iff.mp this.symm
      subst this; rw [List.append_nil] at post; exact post.now k hv.tupI
def oSub : D → D → Sto → ER
  | .int i, .int j, st => .val .P (.int (i - j)) st
  | _, _, _ => .bad
theorem d_sub : DOp G (rI0 fun i j => .int (i - j)) oSub := by
  intro W σ s st v w d d' k hv hw Q post
  cases d <;> cases d' <;> try exact post.elim
  obtain rfl := hv.int; obtain rfl := hw.int
  exact ⟨_, _, rfl, rfl, post.now k (.int _)⟩
theorem IsL.rep {as : List Addr} {H : Hp} {vs : List V} {l : List D} (h : IsL G as H vs l) : ∀ n : Nat, IsL G as H (List.replicate n vs).flatten (List.replicate n l).flatten
  | 0 => .nil
  | n + 1 => by
    rw [List.replicate_succ, List.replicate_succ, List.flatten_cons, List.flatten_cons]
    exact h.append (IsL.rep h n)
def oMul : D → D → Sto → ER
  | .int i, .int j, st => if i.natAbs.log2 + j.natAbs.log2 < 1000000 then .val .P (.int (i * j)) st else .bad
  | .lst a, .int k, st => if -(2 ^ 63) ≤ k ∧ k < 2 ^ 63 ∧ a.length * k.toNat ≤ 1000000 then .val .N (.lst (List.replicate k.toNat a).flatten) st else .bad
  | _, _, _ => .bad
abbrev rMulA : R2 := rOr (rI CMulW fun i j => .int (i * j)) rRep
theorem or_mul {X : Cx} : OpR X (binaryOp .Mult) rMulA := opOr op_mulW op_rep
theorem d_mul : DOp G rMulA oMul := by
  intro W σ s st v w d d' k hv hw Q post
  cases d <;> cases d' <;> try exact post.elim
  case int.int i j =>
    obtain rfl := hv.int; obtain rfl := hw.int
    obtain ⟨h, post⟩ := RPost.cond (i.natAbs.log2 + j.natAbs.log2 < 1000000) (.val .P (.int (i * j)) st) post
    exact .inl ⟨_, _, rfl, rfl, h, post.now k (.int _)⟩
  case lst.int a n =>
    obtain ⟨p, vs, rfl, hp, hl⟩ := hv.lst k.sf
    obtain rfl := hw.int
    obtain ⟨h, post⟩ := RPost.cond (-(2 ^ 63) ≤ n ∧ n < 2 ^ 63 ∧ a.length * n.toNat ≤ 1000000) (.val .N (.lst (List.replicate n.toNat a).flatten) st) post
    exact .inr ⟨p, n, vs, rfl, rfl, hp, h.1, h.2.1, by rw [hl.len]; exact sz h.2.2, fun r hr => post.newL k (hl.rep _) hr⟩
def oDiv : D → D → Sto → ER
  | .int i, .int j, st => if j ≠ 0 ∧ j.natAbs.log2 < 9000 then .val .P (.int (i.fdiv j)) st else .bad
  | _, _, _ => .bad
theorem or_div {X : Cx} : OpR X (binaryOp .FloorDiv) (rI (fun _ j => j ≠ 0 ∧ j.natAbs.log2 < 9000) fun i j => .int (i.fdiv j)) := opI fun i j _ _ _ _ _ hc q => floordiv_int hc.1 q (.inl (PyProof.noPylong_of_log2 hc.2))
theorem d_div : DOp G (rI (fun _ j => j ≠ 0 ∧ j.natAbs.log2 < 9000) fun i j => .int (i.fdiv j)) oDiv := by
  intro W σ s st v w d d' k hv hw Q post
  cases d <;> cases d' <;> try exact post.elim
  rename_i i j
  obtain rfl := hv.int; obtain rfl := hw.int
  obtain ⟨h, post⟩ := RPost.cond (j ≠ 0 ∧ j.natAbs.log2 < 9000) (.val .P (.int (i.fdiv j)) st) post
  exact ⟨_, _, rfl, rfl, h, post.now k (.int _)⟩
def oMod : D → D → Sto → ER
  | .int i, .int j, st => if j ≠ 0 then .val .P (.int (i.fmod j)) st else .bad
  | _, _, _ => .bad
theorem d_mod : DOp G (rI (fun _ j => j ≠ 0) fun i j => .int (i.fmod j)) oMod := by
  intro W σ s st v w d d' k hv hw Q post
  cases d <;> cases d' <;> try exact post.elim
  rename_i i j
  obtain rfl := hv.int; obtain rfl := hw.int
  obtain ⟨h, post⟩ := RPost.cond (j ≠ 0) (.val .P (.int (i.fmod j)) st) post
  exact ⟨_, _, rfl, rfl, h, post.now k (.int _)⟩
def oPow : D → D → Sto → ER
  | .int i, .int j, st => if 0 ≤ j ∧ j ≤ 1000000 ∧ i.natAbs < 2 ^ 64 then .val .P (.int (i ^ j.toNat)) st else .bad
  | _, _, _ => .bad
theorem d_pow : DOp G (rI CPow fun i j => .int (i ^ j.toNat)) oPow := by
  intro W σ s st v w d d' k hv hw Q post
  cases d <;> cases d' <;> try exact post.elim
  rename_i i j
  obtain rfl := hv.int; obtain rfl := hw.int
  obtain ⟨h, post⟩ := RPost.cond (0 ≤ j ∧ j ≤ 1000000 ∧ i.natAbs < 2 ^ 64) (.val .P (.int (i ^ j.toNat)) st) post
  exact ⟨_, _, rfl, rfl, h, post.now k (.int _)⟩
def oCmp (p : Int → Int → Bool) : D → D → Sto → ER
  | .int i, .int j, st => .val .P (.bl (p i j)) st
  | _, _, _ => .bad
theorem d_cmp {p : Int → Int → Bool} : DOp G (rI0 fun i j => .bl (p i j)) (oCmp p) := by
  intro W σ s st v w d d' k hv hw Q post
  cases d <;> cases d' <;> try exact post.elim
  obtain rfl := hv.int; obtain rfl := hw.int
  exact ⟨_, _, rfl, rfl, post.now k (.bl _)⟩
abbrev oLt := oCmp fun i j => decide (i < j)
abbrev oLe := oCmp fun i j => decide (i ≤ j)
abbrev oGt := oCmp fun i j => decide (j < i)
abbrev oGe := oCmp fun i j => decide (j ≤ i)
theorem d_lt : DOp G (rI0 fun i j => .bl (decide (i < j))) oLt := d_cmp
theorem d_le : DOp G (rI0 fun i j => .bl (decide (i ≤ j))) oLe := d_cmp
theorem d_gt : DOp G (rI0 fun i j => .bl (decide (j < i))) oGt := d_cmp
theorem d_ge : DOp G (rI0 fun i j => .bl (decide (j ≤ i))) oGe := d_cmp
def isNon : D → Bool
  | .non => true
  | _ => false
def oIsN (a b : D) (st : Sto) : ER := match b with
  | .non => .val .P (.bl (isNon a)) st
  | _ => .bad
def oNotN (a b : D) (st : Sto) : ER := match b with
  | .non => .val .P (.bl (!isNon a)) st
  | _ => .bad
mutual
def py : D → PyData
  | .non => .none
  | .bl b => .bool b
  | .int i => .int i
  | .str x => .str x
  | .tup l => .tuple (pyL l)
  | .lst l => .list (pyL l)
  | .obj _ _ => .none
  | .scr _ => .none
  | .ptr _ => .none
def pyL : List D → List PyData
  | [] => []
  | d :: l => py d :: pyL l
end
mutual
def isPy : D → Bool
  | .non | .bl _ | .int _ | .str _ => true
  | .tup l => isPyL l
  | .lst l => isPyL l
  | .obj _ _ => false
  | .scr _ => false
  | .ptr _ => false
def isPyL : List D → Bool
  | [] => true
  | d :: l => isPy d && isPyL l
end
mutual
theorem dp_of {as : List Addr} {f H : Hp} (s : Same f H) : ∀ (d : D) {v : V}, isPy d = true → Is G as f v d → Dp G.K H v (py d)
  | .non, _, _, h => by cases h; exact .non
  | .bl _, _, _, h => by cases h; exact .bl _
  | .int _, _, _, h => by cases h; exact .int _
  | .str _, _, _, h => by cases h; exact .str _
  | .tup l, _, q, h => by cases h with | tup a b => exact .tup (same_t s a) (dpL_of s l (by simpa [isPy] using q) b)
  | .lst l, _, q, h => by cases h with | lst a b => exact .lst (SqL.of (s _ _ a)) (dpL_of s l (by simpa [isPy] using q) b)
  | .obj _ _, _, q, _ => by simp [isPy] at q
  | .scr _, _, q, _ => by simp [isPy] at q
  | .ptr _, _, q, _ => by simp [isPy] at q
theorem dpL_of {as : List Addr} {f H : Hp} (s : Same f H) : ∀ (l : List D) {vs : List V}, isPyL l = true → IsL G as f vs l → DpAll G.K H vs (pyL l)
  | [], _, _, h => by cases h; exact .nil
  | d :: l, _, q, h => by
    cases h with
    | cons a b =>
      have q' : isPy d = true ∧ isPyL l = true := by simpa [isPyL] using q
      exact .cons (dp_of s d q'.1 a) (dpL_of s l q'.2 b)
end
theorem dp_u {s : Hs} {v : V} {d : D} (sm : Same s.f s.h) (q : isPy d = true) (h : U G s v d) : Dp G.K s.h v (py d) := by
  rcases h with h | ⟨p, vs, l, rfl, rfl, c, e, _⟩
  · exact dp_of sm d q h
  · exact .lst (SqL.of c) (dpL_of sm l (by simpa [isPy] using q) e)
def scalD : D → D → Bool
  | .non, .non | .non, .int _ | .int _, .non | .non, .bl _ | .bl _, .non | .non, .str _ | .str _, .non => true
  | .int _, .int _ | .bl _, .bl _ | .str _, .str _ | .int _, .str _ | .str _, .int _ | .bl _, .str _ | .str _, .bl _ => true
  | _, _ => false
def eqF : D → D → Bool
  | .non, .non => true
  | .int i, .int j => decide (i = j)
  | .bl i, .bl j => decide (i = j)
  | .str i, .str j => decide (i = j)
  | _, _ => false
def eqAny (a b : D) : Option Bool :=
  if scalD a b = true then some (eqF a b)
  else if isPy a = true ∧ isPy b = true ∧ SeqAt.shaped (py a) = true ∧ SeqAt.shaped (py b) = true then some (PyData.eqv (py a) (py b))
  else none
def oEq (a b : D) (st : Sto) : ER := match eqAny a b with | some r => .val .P (.bl r) st | none => .bad
def oNe (a b : D) (st : Sto) : ER := match eqAny a b with | some r => .val .P (.bl (!r)) st | none => .bad
abbrev rEqA (K : PySem.W.Frag) : R2 := rOr rEq (rEqD K)
abbrev rNeA (K : PySem.W.Frag) : R2 := rOr rNe (rNeD K)
theorem or_eq {X : Cx} (hu : X.A.units + 64 < cLine) : OpR X (compareOp .Eq) (rEqA X.K) := opOr op_eq (op_eqD hu)
theorem or_ne {X : Cx} (hu : X.A.units + 64 < cLine) : OpR X (compareOp .NotEq) (rNeA X.K) := opOr op_ne (op_neD hu)
theorem scal_of {s : Hs} {v w : V} {a b : D} (h : scalD a b = true) (hv : U G s v a) (hw : U G s w b) : scal v w = true ∧ decide (v = w) = eqF a b := by
  cases a <;> cases b <;> simp only [scalD] at h <;> first
    | (exact absurd h Bool.false_ne_true)
    | skip
  all_goals (first | obtain rfl := hv.int | obtain rfl := hv.str | obtain rfl := hv.bl | obtain rfl := hv.non)
  all_goals (first | obtain rfl := hw.int | obtain rfl := hw.str | obtain rfl := hw.bl | obtain rfl := hw.non)
  all_goals (refine ⟨rfl, ?_⟩; simp [eqF])
theorem d_eq : DOp G (rEqA G.K) oEq := by
  intro W σ s st v w d d' k hv hw Q post
  unfold oEq eqAny at post
  by_cases h : scalD d d' = true
  · obtain ⟨h1, h2⟩ := scal_of h hv hw
    rw [if_pos h] at post
    exact .inl ⟨h1, by rw [h2]; exact RPost.now k post (.bl _)⟩
  · rw [if_neg h] at post
    split at post
    · rename_i r hr
      split at hr
      · rename_i q
        cases hr
        exact .inr ⟨py d, py d', dp_u k.sf q.1 hv, dp_u k.sf q.2.1 hw, q.2.2.1, q.2.2.2, post.now k (.bl _)⟩
      · cases hr
    · exact post.elim
theorem d_ne : DOp G (rNeA G.K) oNe := by
  intro W σ s st v w d d' k hv hw Q post
  unfold oNe eqAny at post
  by_cases h : scalD d d' = true
  · obtain ⟨h1, h2⟩ := scal_of h hv hw
    rw [if_pos h] at post
    exact .inl ⟨h1, by rw [h2]; exact RPost.now k post (.bl _)⟩
  · rw [if_neg h] at post
    split at post
    · rename_i r hr
      split at hr
      · rename_i q
        cases hr
        exact .inr ⟨py d, py d', dp_u k.sf q.1 hv, dp_u k.sf q.2.1 hw, q.2.2.1, q.2.2.2, post.now k (.bl _)⟩
      · cases hr
    · exact post.elim
def stLst (st : Sto) (n : Nat) : Option (List D) := match st[n]? with
  | some (.lst l) => some l
  | _ => none
theorem StOk.lst {s : Hs} {st : Sto} {n : Nat} {l : List D} {p : Addr} (k : StOk G s st) (ha : s.as[n]? = some p) (h : stLst st n = some l) : ∃ vs, s.h p = some (.lst vs) ∧ IsL G s.as s.f vs l := by
  unfold stLst at h
  split at h
  · rename_i l' q
    cases h
    exact k.ob n p _ ha q
  · cases h
def oIx : D → D → Sto → ER
  | .lst l, .int i, st => ofOpt (atI l i) fun d => .val .P d st
  | .tup l, .int i, st => ofOpt (atI l i) fun d => .val .P d st
  | .scr l, .int i, st => ofOpt (atI l i) fun d => .val .P (.int d) st
  | .str z, .int i, st => if z.length ≤ 1000000 then ofOpt (atI z.cps.toList i) (fun c => .val .P (.str ⟨#[c]⟩) st) else .bad
  | .ptr n, .int i, st => ofOpt (stLst st n) fun l => ofOpt (atI l i) fun d => .val .P d st
  | _, _, _ => .bad
theorem atI_L {as : List Addr} {H : Hp} {vs : List V} {l : List D} {i : Int} {d : D} (h : IsL G as H vs l) (e : atI l i = some d) : ∃ v, atI vs i = some v ∧ Is G as H v d := by
  unfold atI at e ⊢
  rw [h.len]
  cases q : ixN l.length i with
  | none => rw [q] at e; cases e
  | some j =>
    rw [q] at e
    exact h.get e
theorem atI_map {l : List Int} {i : Int} {d : Int} (e : atI l i = some d) : atI (l.map V.int) i = some (V.int d) := by
  unfold atI at e ⊢
  rw [List.length_map]
  cases q : ixN l.length i with
  | none => rw [q] at e; cases e
  | some j =>
    rw [q] at e
    have e' : l[j]? = some d := e
    show (l.map V.int)[j]? = some (V.int d)
    rw [List.getElem?_map, e']
    rfl
theorem d_ix : DOp G (rIx G.K) oIx := by
  intro W σ s st v w d d' k hv hw Q post
  cases d <;> cases d' <;> try exact post.elim
  case lst.int l i =>
    obtain ⟨p, vs, rfl, hp, hl⟩ := hv.lst k.sf
    obtain rfl := hw.int
    obtain ⟨y, q, post⟩ := RPost.opt (atI l i) (fun d => .val .P d st) post
    obtain ⟨x, h1, h2⟩ := atI_L hl q
    exact .inl ⟨p, vs, i, x, rfl, rfl, SqL.of hp, h1, post.now k h2⟩
  case ptr.int n i =>
    obtain ⟨p, rfl, hp⟩ := hv.ptr
    obtain rfl := hw.int
    obtain ⟨l, ql, post⟩ := RPost.opt (stLst st n) (fun l => ofOpt (atI l i) fun d => .val .P d st) post
    obtain ⟨y, q, post⟩ := RPost.opt (atI l i) (fun d => .val .P d st) post
    obtain ⟨vs, hh, hl⟩ := k.lst hp ql
    obtain ⟨x, h1, h2⟩ := atI_L hl q
    exact .inl ⟨p, vs, i, x, rfl, rfl, SqL.of hh, h1, post.now k h2⟩
  case tup.int l i =>
    obtain ⟨p, vs, rfl, hp, hl⟩ := hv.tup k.sf
    obtain rfl := hw.int
    obtain ⟨y, q, post⟩ := RPost.opt (atI l i) (fun d => .val .P d st) post
    obtain ⟨x, h1, h2⟩ := atI_L hl q
    exact .inr (.inl ⟨p, vs, i, x, rfl, rfl, hp, h1, post.now k h2⟩)
  case scr.int l i =>
    obtain ⟨p, rfl, hp⟩ := hv.scr k.sf
    obtain rfl := hw.int
    obtain ⟨y, q, post⟩ := RPost.opt (atI l i) (fun d => .val .P (.int d) st) post
    exact .inl ⟨p, _, i, _, rfl, rfl, hp, atI_map q, post.now k (.int _)⟩
  case str.int z i =>
    obtain rfl := hv.str; obtain rfl := hw.int
    obtain ⟨h, post⟩ := RPost.cond (z.length ≤ 1000000) (ofOpt (atI z.cps.toList i) (fun c => .val .P (.str ⟨#[c]⟩) st)) post
    obtain ⟨c, q, post⟩ := RPost.opt (atI z.cps.toList i) (fun c => .val .P (.str ⟨#[c]⟩) st) post
    exact .inr (.inr ⟨z, i, c, rfl, rfl, sz h, q, post.now k (.str _)⟩)
end
section
variable {G : Gm} {W : WX}
def dVar (i : Nat) : En → ER := fun E => match E.e[i]? with
  | some (.val d) => .val .P d E.st
  | some (.own l) => .val .B (.lst l) E.st
  | _ => .bad
theorem v_var {i : Nat} : DEv G W (tVar i) (dVar i) := by
  intro s t σ e st E k Q post
  unfold dVar at post
  split at post
  · rename_i d q
    obtain ⟨o, h1, v, rfl, h2⟩ := E.slot q
    exact ⟨v, h1, post.now k h2⟩
  · rename_i l q
    obtain ⟨o, h1, p, vs, rfl, a, b, c, d, f⟩ := E.slot q
    exact ⟨_, h1, post t _ (Gro.refl k) k ⟨p, vs, l, rfl, rfl, c, d, f⟩⟩
  · exact post.elim
def dC (d : D) : En → ER := fun E => .val .P d E.st
theorem v_int {n : Int} : DEv G W (tC (.int n)) (dC (.int n)) := fun _ _ _ _ _ _ k _ post => RPost.now k post (.int _)
theorem v_str {n : Str} : DEv G W (tC (.str n)) (dC (.str n)) := fun _ _ _ _ _ _ k _ post => RPost.now k post (.str _)
theorem v_bl {n : Bool} : DEv G W (tC (.bl n)) (dC (.bl n)) := fun _ _ _ _ _ _ k _ post => RPost.now k post (.bl _)
def dOp (o : D → D → Sto → ER) (f g : En → ER) : En → ER := fun E => (f E).bind fun x st => (g ⟨E.e, st⟩).bind fun y st => o x y st
theorem v_op {r : R2} {o : D → D → Sto → ER} {ta tb : TE} {f g : En → ER} (hr : DOp G r o) (ha : DEv G W ta f) (hb : DEv G W tb g) : DEv G W (tOp r ta tb) (dOp o f g) := by
  intro s t σ e st E k Q post
  refine ha s t σ e st E k _ (RPost.bind post fun m d st1 t1 v g1 k1 o1 p1 => ?_)
  refine hb s t1 σ e st1 (E.up g1) k1 _ (RPost.bind p1 fun m2 d2 st2 t2 w g2 k2 o2 p2 => ?_)
  exact hr W σ t2 st2 v w d d2 k2 ((o1.up g2).u) o2.u Q p2
def DUn (G : Gm) (r : V → Hp → VK → Prop) (o : D → Sto → ER) : Prop :=
  ∀ (W : WX) (σ : L2.St) (s : Hs) (st : Sto) (v : V) (d : D), StOk G s st → U G s v d → ∀ Q : VK, RPost G W s σ Q (o d st) → r v s.h Q
def dUn (o : D → Sto → ER) (f : En → ER) : En → ER := fun E => (f E).bind o
theorem v_un {r : V → Hp → VK → Prop} {o : D → Sto → ER} {ta : TE} {f : En → ER} (hr : DUn G r o) (ha : DEv G W ta f) : DEv G W (tUn r ta) (dUn o f) := by
  intro s t σ e st E k Q post
  refine ha s t σ e st E k _ (RPost.bind post fun m d st1 t1 v g1 k1 o1 p1 => ?_)
  exact hr W σ t1 st1 v d k1 o1.u Q p1
def oNeg : D → Sto → ER
  | .int i, st => .val .P (.int (-i)) st
  | _, _ => .bad
theorem d_neg : DUn G (rU fun i => .int (-i)) oNeg := by
  intro W σ s st v d k hv Q post
  cases d <;> try exact post.elim
  obtain rfl := hv.int
  exact ⟨_, rfl, post.now k (.int _)⟩
def TPost (G : Gm) (W : WX) (s : Hs) (σ : L2.St) (Q : Bool → Hp → Prop) : ER → Prop
  | .val _ (.bl b) st => ∀ t, Gro s t → StOk G t st → Q b t.h
  | .exc c l st => ∀ t x, Gro s t → StOk G t st → ExcOk G t c l x → W (.ref (G.ca c)) x σ t.h
  | _ => False
def DTt (G : Gm) (W : WX) (tt : TT) (f : En → ER) : Prop :=
  ∀ s t σ e st, EnvOk G s t σ e → StOk G t st → ∀ Q : Bool → Hp → Prop, TPost G W t σ Q (f ⟨e, st⟩) → tt σ t.h Q
theorem TPost.step {s t : Hs} {σ : L2.St} {Q : Bool → Hp → Prop} {r : ER} (g : Gro s t) (h : TPost G W s σ Q r) : TPost G W t σ Q r := by
  cases r with
  | val m d st =>
    cases d <;> first | exact h.elim | skip
    exact fun u g' => h u (g.trans g')
  | exc c l st => exact fun u x g' => h u x (g.trans g')
  | bad => exact h
def ER.bindB (r : ER) (k : Bool → Sto → ER) : ER := match r with
  | .val _ (.bl b) st => k b st
  | .exc c l st => .exc c l st
  | _ => .bad
@[simp] theorem ER.bindB_val (m : Md) (b : Bool) (st : Sto) (k : Bool → Sto → ER) : (ER.val m (.bl b) st).bindB k = k b st := rfl
@[simp] theorem ER.bindB_exc (c : Nat) (l : List D) (st : Sto) (k : Bool → Sto → ER) : (ER.exc c l st).bindB k = .exc c l st := rfl
@[simp] theorem ER.bindB_bad (k : Bool → Sto → ER) : ER.bad.bindB k = .bad := rfl
theorem t_val {te : TE} {f : En → ER} (h : DEv G W te f) : DTt G W (tB te) f := by
  intro s t σ e st E k Q post
  refine h s t σ e st E k _ ?_
  cases q : f ⟨e, st⟩ with
  | val m d st' =>
    rw [q] at post
    intro t' v g k' o
    cases d <;> first | exact post.elim | skip
    obtain rfl := o.u.bl
    exact ⟨_, rfl, post t' g k'⟩
  | exc c l st' => rw [q] at post; exact post
  | bad => rw [q] at post; exact post
theorem t_test {te : TE} {f : En → ER} (h : DEv G W te f) : DTt G W (tTest te) f := t_val h
theorem TPost.bindB {s : Hs} {σ : L2.St} {Q Q' : Bool → Hp → Prop} {r : ER} {k : Bool → Sto → ER} (h : TPost G W s σ Q (r.bindB k)) (hk : ∀ b st t, Gro s t → StOk G t st → TPost G W t σ Q (k b st) → Q' b t.h) : TPost G W s σ Q' r := by
  cases r with
  | val m d st =>
    cases d <;> first | exact h.elim | skip
    exact fun t g k' => hk _ st t g k' (TPost.step g h)
  | exc c l st => exact h
  | bad => exact h
def dAnd (f g : En → ER) : En → ER := fun E => (f E).bindB fun b st => if b = true then g ⟨E.e, st⟩ else .val .P (.bl false) st
def dOr (f g : En → ER) : En → ER := fun E => (f E).bindB fun b st => if b = true then .val .P (.bl true) st else g ⟨E.e, st⟩
def dNot (f : En → ER) : En → ER := fun E => (f E).bindB fun b st => .val .P (.bl (!b)) st
theorem TPost.of {s : Hs} {st : Sto} {σ : L2.St} {Q : Bool → Hp → Prop} {b : Bool} (k : StOk G s st) (h : TPost G W s σ Q (.val .P (.bl b) st)) : Q b s.h := h s (Gro.refl k) k
theorem t_and {t u : TT} {f g : En → ER} (ht : DTt G W t f) (hu : DTt G W u g) : DTt G W (tAnd t u) (dAnd f g) := by
  intro s t σ e st E k Q post
  refine ht s t σ e st E k _ (TPost.bindB post fun b st1 t1 g1 k1 p1 => ?_)
  cases b with
  | true => exact iteT (hu s t1 σ e st1 (E.up g1) k1 Q p1)
  | false => exact iteF (TPost.of k1 p1)
theorem t_or {t u : TT} {f g : En → ER} (ht : DTt G W t f) (hu : DTt G W u g) : DTt G W (tOr t u) (dOr f g) := by
  intro s t σ e st E k Q post
  refine ht s t σ e st E k _ (TPost.bindB post fun b st1 t1 g1 k1 p1 => ?_)
  cases b with
  | false => exact iteF (hu s t1 σ e st1 (E.up g1) k1 Q p1)
  | true => exact iteT (TPost.of k1 p1)
theorem t_not {t : TT} {f : En → ER} (ht : DTt G W t f) : DTt G W (tNot t) (dNot f) := by
  intro s t σ e st E k Q post
  exact ht s t σ e st E k _ (TPost.bindB post fun b st1 t1 g1 k1 p1 => TPost.of k1 p1)
theorem RPost.bindB {s : Hs} {σ : L2.St} {Q Q' : VK} {r : ER} {k : Bool → Sto → ER} (h : RPost G W s σ Q (r.bindB k))
    (hk : ∀ b st t, Gro s t → StOk G t st → RPost G W t σ Q (k b st) → Q' (.bl b) t.h) : RPost G W s σ Q' r := by
  cases r with
  | val m d st =>
    cases d <;> first | exact h.elim | skip
    intro t v g k' o
    obtain rfl := o.u.bl
    exact hk _ st t g k' (RPost.step g k' h)
  | exc c l st => exact h
  | bad => exact h
theorem v_or {ta tb : TE} {f g : En → ER} (ha : DEv G W ta f) (hb : DEv G W tb g) : DEv G W (tOrV ta tb) (dOr f g) := by
  intro s t σ e st E k Q post
  refine ha s t σ e st E k _ (RPost.bindB post fun b st1 t1 g1 k1 p1 => ?_)
  cases b with
  | false => exact ⟨false, rfl, iteF (hb s t1 σ e st1 (E.up g1) k1 Q p1)⟩
  | true => exact ⟨true, rfl, iteT (RPost.now k1 p1 (.bl _))⟩
def dIf (c f g : En → ER) : En → ER := fun E => (c E).bindB fun b st => if b = true then f ⟨E.e, st⟩ else g ⟨E.e, st⟩
def dChain (o o' : D → D → Sto → ER) (f g h : En → ER) : En → ER := fun E => (f E).bind fun x st => (g ⟨E.e, st⟩).bind fun y st => (o x y st).bindB fun b st => if b = true then (h ⟨E.e, st⟩).bind fun z st => o' y z st else .val .P (.bl false) st
end
end Dn
namespace Dn
open PySem PySem.Spec PyProof.Rows L2
inductive UL (G : Gm) (s : Hs) : List V → List D → Prop
  | nil : UL G s [] []
  | cons {v : V} {vs : List V} {d : D} {ds : List D} : U G s v d → UL G s vs ds → UL G s (v :: vs) (d :: ds)
theorem UL.len {G : Gm} {s : Hs} : ∀ {ds : List D} {vs : List V}, UL G s vs ds → vs.length = ds.length
  | [], _, h => by cases h; rfl
  | d :: ds, _, h => by cases h with | cons a b => exact congrArg Nat.succ b.len
theorem UL.up {G : Gm} {s t : Hs} (g : Gro s t) : ∀ {ds : List D} {vs : List V}, UL G s vs ds → UL G t vs ds
  | [], _, h => by cases h; exact .nil
  | d :: ds, _, h => by cases h with | cons a b => exact .cons (a.up g) (UL.up g b)
inductive AR where | ok (p : Bool) (l : List D) (st : Sto) | exc (c : Nat) (l : List D) (st : Sto) | bad
def APost (G : Gm) (W : WX) (s : Hs) (σ : L2.St) (Q : List V → Hp → Prop) : AR → Prop
  | .ok p l st => ∀ t vs, Gro s t → StOk G t st → (p = true → IsL G t.as t.f vs l) → UL G t vs l → Q vs t.h
  | .exc c l st => ∀ t x, Gro s t → StOk G t st → ExcOk G t c l x → W (.ref (G.ca c)) x σ t.h
  | .bad => False
theorem APost.step {G : Gm} {W : WX} {s t : Hs} {σ : L2.St} {Q : List V → Hp → Prop} {r : AR} (g : Gro s t) (h : APost G W s σ Q r) : APost G W t σ Q r := by
  cases r with
  | ok p l st => exact fun u v g' => h u v (g.trans g')
  | exc c l st => exact fun u x g' => h u x (g.trans g')
  | bad => exact h
def AR.cons (p : Bool) (d : D) : AR → AR
  | .ok q l st => .ok (p && q) (d :: l) st
  | .exc c l st => .exc c l st
  | .bad => .bad
def ER.cons (r : ER) (a : Sto → AR) : AR := match r with
  | .val .B d st => (a st).cons false d
  | .val .P d st => (a st).cons true d
  | .val .N d st => (a st).cons true d
  | .exc c l st => .exc c l st
  | .bad => .bad
def DAr (G : Gm) (W : WX) (ta : TA) (f : En → AR) : Prop :=
  ∀ s t σ e st, EnvOk G s t σ e → StOk G t st → ∀ Q : List V → Hp → Prop, APost G W t σ Q (f ⟨e, st⟩) → ta σ t.h Q
section
variable {G : Gm} {W : WX}
def aNil : En → AR := fun E => .ok true [] E.st
theorem a_nil : DAr G W tNil aNil := fun _ t _ _ _ _ k _ post => post t [] (Gro.refl k) k (fun _ => .nil) .nil
def aCons (f : En → ER) (g : En → AR) : En → AR := fun E => (f E).cons fun st => g ⟨E.e, st⟩
theorem APost.consP {s : Hs} {σ : L2.St} {Q : List V → Hp → Prop} {d : D} {v : V} {a : AR} (h : APost G W s σ Q (a.cons true d)) (hv : Is G s.as s.f v d) : APost G W s σ (fun xs H2 => Q (v :: xs) H2) a := by
  cases a with
  | ok p l st => exact fun t vs g k q u => h t (v :: vs) g k (fun z => .cons (hv.up g.a g.f) (q (by simpa using z))) (.cons (.inl (hv.up g.a g.f)) u)
  | exc c l st => exact h
  | bad => exact h
theorem APost.consB {s : Hs} {σ : L2.St} {Q : List V → Hp → Prop} {d : D} {v : V} {a : AR} (h : APost G W s σ Q (a.cons false d)) (hv : U G s v d) : APost G W s σ (fun xs H2 => Q (v :: xs) H2) a := by
  cases a with
  | ok p l st => exact fun t vs g k q u => h t (v :: vs) g k (fun z => by simp at z) (.cons (hv.up g) u)
  | exc c l st => exact h
  | bad => exact h
theorem a_cons {te : TE} {tr : TA} {f : En → ER} {g : En → AR} (ha : DEv G W te f) (hr : DAr G W tr g) : DAr G W (tCons te tr) (aCons f g) := by
  intro s t σ e st E k Q post
  refine ha s t σ e st E k _ ?_
  unfold aCons at post
  cases q : f ⟨e, st⟩ with
  | val m d st1 =>
    rw [q] at post
    intro t1 v g1 k1 o1
    cases m with
    | P => exact hr s t1 σ e st1 (E.up g1) k1 _ (APost.consP (APost.step g1 post) o1)
    | B => exact hr s t1 σ e st1 (E.up g1) k1 _ (APost.consB (APost.step g1 post) o1.u)
    | N =>
      obtain ⟨f2, g2, k2, _, i2⟩ := o1.freeze g1 k1 (by decide)
      exact hr s ⟨t1.as, f2, t1.h⟩ σ e st1 (E.up g2) k2 _ (APost.consP (APost.step g2 post) i2)
  | exc c l st1 => rw [q] at post; exact post
  | bad => rw [q] at post; exact post
def dTup (f : En → AR) : En → ER := fun E => match f E with
  | .ok true l st => if l.length ≤ 1000000 then .val .P (.tup l) st else .bad
  | .exc c l st => .exc c l st
  | _ => .bad
theorem v_tup {ta : TA} {f : En → AR} (h : DAr G W ta f) : DEv G W (tTup ta) (dTup f) := by
  intro s t σ e st E k Q post
  refine h s t σ e st E k _ ?_
  unfold dTup at post
  cases q : f ⟨e, st⟩ with
  | ok p l st1 =>
    rw [q] at post
    cases p with
    | false => exact post.elim
    | true =>
      obtain ⟨c, post⟩ := RPost.cond _ _ post
      exact fun t1 vs g1 k1 i1 u1 => ⟨by rw [u1.len]; exact sz c, fun p hp => (RPost.step g1 k1 post).newT k1 (i1 rfl) hp⟩
  | exc c l st1 => rw [q] at post; exact post
  | bad => rw [q] at post; exact post
def dLst (f : En → AR) : En → ER := fun E => match f E with
  | .ok true l st => if l.length ≤ 1000000 then .val .N (.lst l) st else .bad
  | .exc c l st => .exc c l st
  | _ => .bad
theorem v_lst {ta : TA} {f : En → AR} (h : DAr G W ta f) : DEv G W (tLst ta) (dLst f) := by
  intro s t σ e st E k Q post
  refine h s t σ e st E k _ ?_
  unfold dLst at post
  cases q : f ⟨e, st⟩ with
  | ok p l st1 =>
    rw [q] at post
    cases p with
    | false => exact post.elim
    | true =>
      obtain ⟨c, post⟩ := RPost.cond _ _ post
      exact fun t1 vs g1 k1 i1 u1 => ⟨by rw [u1.len]; exact sz c, fun p hp => (RPost.step g1 k1 post).newL k1 (i1 rfl) hp⟩
  | exc c l st1 => rw [q] at post; exact post
  | bad => rw [q] at post; exact post
def dPut (f : En → ER) : En → ER := fun E => match f E with
  | .val .N (.lst l) st => .val .P (.ptr st.length) (st ++ [.lst l])
  | .exc c l st => .exc c l st
  | _ => .bad
theorem v_put {te : TE} {f : En → ER} (h : DEv G W te f) : DEv G W te (dPut f) := by
  intro s t σ e st E k Q post
  refine h s t σ e st E k _ ?_
  unfold dPut at post
  cases q : f ⟨e, st⟩ with
  | val m d st1 =>
    rw [q] at post
    cases m with
    | P => cases d <;> exact post.elim
    | B => cases d <;> exact post.elim
    | N =>
      intro t1 v g1 k1 o1
      obtain ⟨p, vs, l, rfl, rfl, a, b, c, n, z⟩ := o1
      have k2 : StOk G ⟨t1.as ++ [p], t1.f, t1.h⟩ (st1 ++ [.lst l]) := k1.put z c ⟨vs, a, b.up (Ext.app _ _) (Same.refl _)⟩
      refine post ⟨t1.as ++ [p], t1.f, t1.h⟩ _ (g1.put k1 n z) k2 (.ptr ?_)
      show (t1.as ++ [p])[st1.length]? = some p
      rw [← k1.len, List.getElem?_append_right (Nat.le_refl _)]
      simp
  | exc c l st1 => rw [q] at post; exact post
  | bad => rw [q] at post; exact post
def spF (G : Gm) (F : List D → Sto → ER) : Sp := fun vs H Q E => ∃ (s : Hs) (ds : List D) (st : Sto), s.h = H ∧ StOk G s st ∧ IsL G s.as s.f vs ds ∧ RPost G (fun c x _ H' => E c x H') s [] Q (F ds st)
def dCall (F : List D → Sto → ER) (f : En → AR) : En → ER := fun E => match f E with
  | .ok true l st => F l st
  | .exc c l st => .exc c l st
  | _ => .bad
theorem RPost.w {W' : WX} {s : Hs} {σ σ' : L2.St} {Q : VK} {r : ER} (h : RPost G W s σ Q r) (hw : ∀ c x H', W c x σ H' → W' c x σ' H') : RPost G W' s σ' Q r := by
  cases r with
  | val m d st => exact h
  | exc c l st => exact fun t x g k o => hw _ _ _ (h t x g k o)
  | bad => exact h
theorem v_call {F : List D → Sto → ER} {ta : TA} {f : En → AR} (ha : DAr G W ta f) : DEv G W (tCallS (spF G F) (WE W) ta) (dCall F f) := by
  intro s t σ e st E k Q post
  refine ha s t σ e st E k _ ?_
  unfold dCall at post
  cases q : f ⟨e, st⟩ with
  | ok p l st1 =>
    rw [q] at post
    cases p with
    | true => exact fun t1 vs g1 k1 i1 u1 => ⟨t1, l, st1, rfl, k1, i1 rfl, (RPost.step g1 k1 post).w (fun c x H' h => h)⟩
    | false => exact post.elim
  | exc c l st1 => rw [q] at post; exact post
  | bad => rw [q] at post; exact post
def DCal (G : Gm) (r : List V → Hp → VK → Prop) (o : List D → Sto → ER) : Prop :=
  ∀ (W : WX) (σ : L2.St) (s : Hs) (st : Sto) (vs : List V) (ds : List D), StOk G s st → UL G s vs ds → ∀ Q : VK, RPost G W s σ Q (o ds st) → r vs s.h Q
def dCB (o : List D → Sto → ER) (f : En → AR) : En → ER := fun E => match f E with
  | .ok _ l st => o l st
  | .exc c l st => .exc c l st
  | .bad => .bad
theorem v_cb {r : List V → Hp → VK → Prop} {o : List D → Sto → ER} {ta : TA} {f : En → AR} (hr : DCal G r o) (ha : DAr G W ta f) : DEv G W (tCB r ta) (dCB o f) := by
  intro s t σ e st E k Q post
  refine ha s t σ e st E k _ ?_
  unfold dCB at post
  cases q : f ⟨e, st⟩ with
  | ok p l st1 => rw [q] at post; exact fun t1 vs g1 k1 i1 u1 => hr W σ t1 st1 vs l k1 u1 Q (RPost.step g1 k1 post)
  | exc c l st1 => rw [q] at post; exact post
  | bad => rw [q] at post; exact post
theorem UL.one {s : Hs} {vs : List V} {d : D} (h : UL G s vs [d]) : ∃ v, vs = [v] ∧ U G s v d := by
  cases h with | cons a b => cases b; exact ⟨_, rfl, a⟩
theorem UL.two {s : Hs} {vs : List V} {d e : D} (h : UL G s vs [d, e]) : ∃ v w, vs = [v, w] ∧ U G s v d ∧ U G s w e := by
  cases h with | cons a b => cases b with | cons c d => cases d; exact ⟨_, _, rfl, a, c⟩
theorem DCal.one1 {r : List V → Hp → VK → Prop} {o : List D → Sto → ER} (h0 : ∀ st, o [] st = .bad) (h2 : ∀ a b l st, o (a :: b :: l) st = .bad)
    (h : ∀ (W : WX) (σ : L2.St) (s : Hs) (st : Sto) (v : V) (d : D), StOk G s st → U G s v d → ∀ Q : VK, RPost G W s σ Q (o [d] st) → r [v] s.h Q) : DCal G r o := by
  intro W σ s st vs ds k hv Q post
  match ds, hv, post with
  | [], _, post => rw [h0] at post; exact post.elim
  | [d], hv, post => obtain ⟨v, rfl, hv1⟩ := hv.one; exact h W σ s st v d k hv1 Q post
  | a :: b :: l, _, post => rw [h2] at post; exact post.elim
def oAbs : List D → Sto → ER
  | [.int i], st => .val .P (.int (if i < 0 then -i else i)) st
  | _, _ => .bad
def oLen : List D → Sto → ER
  | [.lst l], st => .val .P (.int l.length) st
  | [.tup l], st => .val .P (.int l.length) st
  | [.scr l], st => .val .P (.int l.length) st
  | [.ptr n], st => ofOpt (stLst st n) fun l => .val .P (.int l.length) st
  | [.str z], st => if z.length ≤ 1000000 then .val .P (.int z.length) st else .bad
  | _, _ => .bad
theorem c_len : DCal G (fun xs H Q => ∃ x n, xs = [x] ∧ LenV G.K x H n ∧ Q (.int n) H) oLen := by
  refine DCal.one1 (fun _ => rfl) (fun a b l _ => by cases a <;> rfl) fun W σ s st v d k hv Q post => ?_
  cases d <;> try exact post.elim
  case lst l =>
    obtain ⟨p, vs, rfl, hp, hl⟩ := hv.lst k.sf
    exact ⟨_, l.length, rfl, .inl ⟨vs, SqL.of hp, hl.len.symm⟩, post.now k (.int _)⟩
  case tup l =>
    obtain ⟨p, vs, rfl, hp, hl⟩ := hv.tup k.sf
    exact ⟨_, l.length, rfl, .inr ⟨vs, hp, hl.len.symm⟩, post.now k (.int _)⟩
  case scr l =>
    obtain ⟨p, rfl, hp⟩ := hv.scr k.sf
    exact ⟨_, l.length, rfl, .inl ⟨_, hp, by rw [List.length_map]⟩, post.now k (.int _)⟩
  case ptr n =>
    obtain ⟨p, rfl, hp⟩ := hv.ptr
    obtain ⟨l, ql, post⟩ := RPost.opt (stLst st n) (fun l => .val .P (.int l.length) st) post
    obtain ⟨vs, hh, hl⟩ := k.lst hp ql
    exact ⟨_, l.length, rfl, .inl ⟨vs, SqL.of hh, hl.len.symm⟩, post.now k (.int _)⟩
  case str z =>
    obtain rfl := hv.str
    obtain ⟨c, post⟩ := RPost.cond (z.length ≤ 1000000) (.val .P (.int z.length) st) post
    exact ⟨_, z.length, rfl, ⟨sz c, rfl⟩, post.now k (.int _)⟩
def oMax2 : List D → Sto → ER
  | [.int i, .int j], st => .val .P (.int (if j > i then j else i)) st
  | _, _ => .bad
def oMin2 : List D → Sto → ER
  | [.int i, .int j], st => .val .P (.int (if j < i then j else i)) st
  | _, _ => .bad
theorem DCal.two2 {r : List V → Hp → VK → Prop} {o : List D → Sto → ER} (h0 : ∀ st, o [] st = .bad) (h1 : ∀ a st, o [a] st = .bad) (h3 : ∀ a b c l st, o (a :: b :: c :: l) st = .bad)
    (h : ∀ (W : WX) (σ : L2.St) (s : Hs) (st : Sto) (v w : V) (d d' : D), StOk G s st → U G s v d → U G s w d' → ∀ Q : VK, RPost G W s σ Q (o [d, d'] st) → r [v, w] s.h Q) : DCal G r o := by
  intro W σ s st vs ds k hv Q post
  match ds, hv, post with
  | [], _, post => rw [h0] at post; exact post.elim
  | [a], _, post => rw [h1] at post; exact post.elim
  | [d, d'], hv, post => obtain ⟨v, w, rfl, hv1, hv2⟩ := hv.two; exact h W σ s st v w d d' k hv1 hv2 Q post
  | a :: b :: c :: l, _, post => rw [h3] at post; exact post.elim
theorem c_max2 : DCal G (fun xs H Q => ∃ i j, xs = [.int i, .int j] ∧ Q (.int (if j > i then j else i)) H) oMax2 := by
  refine DCal.two2 (fun _ => rfl) (fun a _ => by cases a <;> rfl) (fun a b c l _ => by cases a <;> first | rfl | (cases b <;> rfl)) fun W σ s st v w d d' k hv hw Q post => ?_
  cases d <;> cases d' <;> try exact post.elim
  obtain rfl := hv.int; obtain rfl := hw.int
  exact ⟨_, _, rfl, post.now k (.int _)⟩
def intsOf : List D → Option (List Int)
  | [] => some []
  | .int i :: l => (intsOf l).map (i :: ·)
  | _ => none
theorem intsOf_V {as : List Addr} {H : Hp} : ∀ {l : List D} {vs : List V} {ns : List Int}, intsOf l = some ns → IsL G as H vs l → vs = ns.map V.int
  | [], _, _, h, i => by cases i; cases h; rfl
  | d :: l, _, ns, h, i => by
    cases i with
    | cons a b =>
      cases d <;> first | (cases h; done) | skip
      rename_i i
      have h' : (intsOf l).map (i :: ·) = some ns := h
      cases q : intsOf l with
      | none => rw [q] at h'; cases h'
      | some ms =>
        rw [q] at h'; cases h'
        cases a
        rw [intsOf_V q b]; rfl
def oSum : List D → Sto → ER
  | [.lst l], st => ofOpt (intsOf l) fun ns => .val .P (.int ns.sum) st
  | _, _ => .bad
theorem c_sum : DCal G (rSum G.K) oSum := by
  refine DCal.one1 (fun _ => rfl) (fun a b l _ => by cases a <;> rfl) fun W σ s st v d k hv Q post => ?_
  cases d <;> try exact post.elim
  rename_i l
  obtain ⟨p, vs, rfl, hp, hl⟩ := hv.lst k.sf
  obtain ⟨ns, h, post⟩ := RPost.opt (intsOf l) (fun ns => .val .P (.int ns.sum) st) post
  have := intsOf_V h hl
  subst this
  exact ⟨p, ns, rfl, SqL.of hp, post.now k (.int _)⟩
theorem IsL.ints {as : List Addr} {H : Hp} : ∀ (l : List Int), IsL G as H (l.map V.int) (l.map D.int)
  | [] => .nil
  | i :: l => .cons (.int i) (IsL.ints l)
def oList : List D → Sto → ER
  | [.lst l], st => .val .N (.lst l) st
  | [.tup l], st => .val .N (.lst l) st
  | [.scr l], st => .val .N (.lst (l.map .int)) st
  | [.ptr n], st => ofOpt (stLst st n) fun l => .val .N (.lst l) st
  | _, _ => .bad
theorem c_list : DCal G (fun xs H Q => ∃ p ys, xs = [.ref p] ∧ (SqL G.K H p ys ∨ SqT G.K H p ys) ∧ ∀ l, H l = none → Q (.ref l) (upd H l (.lst ys))) oList := by
  refine DCal.one1 (fun _ => rfl) (fun a b l _ => by cases a <;> rfl) fun W σ s st v d k hv Q post => ?_
  cases d <;> try exact post.elim
  case lst l =>
    obtain ⟨p, vs, rfl, hp, hl⟩ := hv.lst k.sf
    exact ⟨p, vs, rfl, .inl (SqL.of hp), fun r hr => RPost.newL k post hl hr⟩
  case tup l =>
    obtain ⟨p, vs, rfl, hp, hl⟩ := hv.tup k.sf
    exact ⟨p, vs, rfl, .inr hp, fun r hr => RPost.newL k post hl hr⟩
  case scr l =>
    obtain ⟨p, rfl, hp⟩ := hv.scr k.sf
    exact ⟨p, _, rfl, .inl hp, fun r hr => RPost.newL k post (IsL.ints _) hr⟩
  case ptr n =>
    obtain ⟨p, rfl, hp⟩ := hv.ptr
    obtain ⟨l, ql, post⟩ := RPost.opt (stLst st n) (fun l => .val .N (.lst l) st) post
    obtain ⟨vs, hh, hl⟩ := k.lst hp ql
    exact ⟨p, vs, rfl, .inl (SqL.of hh), fun r hr => RPost.newL k post hl hr⟩
def oTuple : List D → Sto → ER
  | [.lst l], st => .val .P (.tup l) st
  | [.tup l], st => .val .P (.tup l) st
  | _, _ => .bad
def cutG {α : Type} (xs : List α) (lo hi : Option Int) : List α := (xs.drop (HT.sIx xs.length 0 lo)).take (HT.sIx xs.length xs.length hi - HT.sIx xs.length 0 lo)
theorem cut_L {as : List Addr} {f : Hp} {vs : List V} {l : List D} (h : IsL G as f vs l) (lo hi : Option Int) : IsL G as f (cutV vs lo hi) (cutG l lo hi) := by
  unfold cutV cutG
  rw [h.len]
  exact (h.drop _).take _
def DTo (G : Gm) (W : WX) (to : TO) (f : En → Option ER) : Prop :=
  ∀ s t σ e st, EnvOk G s t σ e → StOk G t st → ∀ (Q : Option Int → Hp → Prop) (o : Option Int) (st' : Sto),
    (match f ⟨e, st⟩ with
      | none => o = none ∧ st' = st
      | some (.val _ (.int i) st1) => o = some i ∧ st' = st1
      | _ => False) → (∀ t', Gro t t' → StOk G t' st' → Q o t'.h) → to σ t.h Q
theorem o_none : DTo G W tNoPart (fun _ => none) := fun _ t _ _ _ _ k _ _ _ ⟨h1, h2⟩ post => by
  subst h1; subst h2; exact post t (Gro.refl k) k
theorem o_some {te : TE} {f : En → ER} (h : DEv G W te f) : DTo G W (tPart te) (fun E => some (f E)) := by
  intro s t σ e st E k Q o st' c post
  refine h s t σ e st E k _ ?_
  cases q : f ⟨e, st⟩ with
  | val m d st1 =>
    simp only [q] at c
    cases d <;> first | exact c.elim | skip
    obtain ⟨rfl, rfl⟩ := c
    intro t' v g k' o
    obtain rfl := o.u.int
    exact ⟨_, rfl, post t' g k'⟩
  | exc c' l st1 => simp only [q] at c
  | bad => simp only [q] at c
def partI (o : Option ER) (st : Sto) : Option (Option Int × Sto) := match o with
  | none => some (none, st)
  | some (.val _ (.int i) st1) => some (some i, st1)
  | _ => none
def DSl (G : Gm) (r : V → Option Int → Option Int → Hp → VK → Prop) (o : D → Option Int → Option Int → Sto → ER) : Prop :=
  ∀ (W : WX) (σ : L2.St) (s : Hs) (st : Sto) (v : V) (d : D) (lo hi : Option Int), StOk G s st → U G s v d → ∀ Q : VK, RPost G W s σ Q (o d lo hi st) → r v lo hi s.h Q
def dSl (o : D → Option Int → Option Int → Sto → ER) (f : En → ER) (lo hi : En → Option ER) : En → ER := fun E => (f E).bind fun x st => ofOpt (partI (lo ⟨E.e, st⟩) st) fun l => ofOpt (partI (hi ⟨E.e, l.2⟩) l.2) fun u => o x l.1 u.1 u.2
theorem part_post {tl : TO} {lo : En → Option ER} (hl : DTo G W tl lo) {s t : Hs} {σ : L2.St} {e : DE} {st : Sto} (E : EnvOk G s t σ e) (k : StOk G t st) {l : Option Int × Sto} (hp : partI (lo ⟨e, st⟩) st = some l) {Q : Option Int → Hp → Prop} (post : ∀ t', Gro t t' → StOk G t' l.2 → Q l.1 t'.h) : tl σ t.h Q := by
  refine hl s t σ e st E k Q l.1 l.2 ?_ post
  cases q : lo ⟨e, st⟩ with
  | none => rw [q] at hp; cases hp; exact ⟨rfl, rfl⟩
  | some r =>
    rw [q] at hp
    cases r with
    | val m d st1 =>
      cases d <;> first | (cases hp; done) | skip
      cases hp
      exact ⟨rfl, rfl⟩
    | exc c l st1 => cases hp
    | bad => cases hp
theorem v_sl {r : V → Option Int → Option Int → Hp → VK → Prop} {o : D → Option Int → Option Int → Sto → ER} {te : TE} {tl th : TO} {f : En → ER} {lo hi : En → Option ER} (hr : DSl G r o) (he : DEv G W te f) (hl : DTo G W tl lo) (hh : DTo G W th hi) : DEv G W (tSl r te tl th) (dSl o f lo hi) := by
  intro s t σ e st E k Q post
  refine he s t σ e st E k _ (RPost.bind post fun m d st1 t1 v g1 k1 o1 p1 => ?_)
  obtain ⟨l, h1, p1⟩ := RPost.opt _ _ p1
  obtain ⟨u, h2, p1⟩ := RPost.opt _ _ p1
  refine part_post hl (E.up g1) k1 h1 fun t2 g2 k2 => part_post hh ((E.up g1).up g2) k2 h2 fun t3 g3 k3 => ?_
  exact hr W σ t3 u.2 v d l.1 u.1 k3 (((o1.up g2).up g3).u) Q (RPost.step (g2.trans g3) k3 p1)
abbrev rSlA (K : PySem.W.Frag) : V → Option Int → Option Int → Hp → VK → Prop := fun x lo hi H Q => rSlL K x lo hi H Q ∨ (fun x lo hi H Q => L2.rSlA K x lo hi H Q ∨ rSlS x lo hi H Q) x lo hi H Q
theorem sl_any {X : Cx} : SlR X (rSlA X.K) := sl_list.or (L2.sl_tupA.or sl_str)
def oSl (d : D) (lo hi : Option Int) (st : Sto) : ER := match d with
  | .lst l => .val .N (.lst (cutG l lo hi)) st
  | .scr l => .val .N (.lst ((cutG l lo hi).map .int)) st
  | .tup l => .val .P (.tup (cutG l lo hi)) st
  | .str z => if z.length ≤ 1000000 then .val .P (.str (cutS z lo hi)) st else .bad
  | _ => .bad
theorem cut_map (l : List Int) (lo hi : Option Int) : cutV (l.map V.int) lo hi = (cutG l lo hi).map V.int := by
  unfold cutV cutG
  rw [List.length_map, List.map_take, List.map_drop]
theorem d_sl : DSl G (rSlA G.K) oSl := by
  intro W σ s st v d lo hi k hv Q post
  cases d <;> try exact post.elim
  case lst l =>
    obtain ⟨p, vs, rfl, hp, hl⟩ := hv.lst k.sf
    exact .inl ⟨p, vs, rfl, SqL.of hp, fun r hr => RPost.newL k post (cut_L hl lo hi) hr⟩
  case scr l =>
    obtain ⟨p, rfl, hp⟩ := hv.scr k.sf
    exact .inl ⟨p, _, rfl, hp, fun r hr => by rw [cut_map]; exact RPost.newL k post (IsL.ints _) hr⟩
  case tup l =>
    obtain ⟨p, vs, rfl, hp, hl⟩ := hv.tup k.sf
    refine .inr (.inl ⟨p, vs, rfl, hp, fun c => ?_, fun _ r hr => RPost.newT k post (cut_L hl lo hi) hr⟩)
    rw [hl.len] at c
    have e : cutG l lo hi = l := by
      unfold cutG
      rw [c.1, c.2]; simp
    rw [show oSl (.tup l) lo hi st = .val .P (.tup (cutG l lo hi)) st from rfl, e] at post
    exact RPost.now k post hv.tupI
  case str z =>
    obtain rfl := hv.str
    obtain ⟨c, post⟩ := RPost.cond (z.length ≤ 1000000) (.val .P (.str (cutS z lo hi)) st) post
    exact .inr (.inr ⟨z, rfl, sz c, post.now k (.str _)⟩)
end
end Dn
namespace Dn
open PySem PySem.Spec PyProof.Rows L2
structure Up (s t : Hs) : Prop where
  a : Ext s.as t.as
  f : Same s.f t.f
theorem Up.refl (s : Hs) : Up s s := ⟨Ext.refl _, Same.refl _⟩
theorem Up.trans {s t u : Hs} (x : Up s t) (y : Up t u) : Up s u := ⟨x.a.trans y.a, x.f.trans y.f⟩
theorem Gro.up {s t : Hs} (g : Gro s t) : Up s t := ⟨g.a, g.f⟩
def DTg (G : Gm) (g : TG) (js : List Nat) (h : D → DE → Option DE) : Prop :=
  ∀ s t σ e st v d, EnvOk G s t σ e → StOk G t st → Is G t.as t.f v d → ∀ Q : L2.St → Hp → Prop, ∀ e', h d e = some e' →
    (∀ σ', EnvOk G s t σ' e' → σ'.length = σ.length → (∀ i, i ∉ js → σ'[i]? = σ[i]?) → Q σ' t.h) → g v σ t.h Q
def DTgs (G : Gm) (g : TGs) (js : List Nat) (h : List D → DE → Option DE) : Prop :=
  ∀ s t σ e st vs ds, EnvOk G s t σ e → StOk G t st → IsL G t.as t.f vs ds → ∀ Q : L2.St → Hp → Prop, ∀ e', h ds e = some e' →
    (∀ σ', EnvOk G s t σ' e' → σ'.length = σ.length → (∀ i, i ∉ js → σ'[i]? = σ[i]?) → Q σ' t.h) → g vs σ t.h Q
section
variable {G : Gm} {W : WX}
def tgN (i : Nat) : D → DE → Option DE := fun d e => some (e.set i (.val d))
theorem g_name {i : Nat} : DTg G (gName i) [i] (tgN i) := by
  intro s t σ e st v d E k hv Q e' he post
  cases he
  refine post _ (E.set ⟨v, rfl, hv⟩ (fun l z => nomatch z)) (by simp) fun j hj => ?_
  have : i ≠ j := fun z => hj (by simp [z])
  rw [List.getElem?_set_ne this]
def tgsNil : List D → DE → Option DE := fun l e => match l with | [] => some e | _ => none
theorem gs_nil : DTgs G gNil [] tgsNil := by
  intro s t σ e st vs ds E k hv Q e' he post
  cases ds with
  | nil => cases hv; cases he; exact ⟨rfl, post σ E rfl fun _ _ => rfl⟩
  | cons d l => cases he
def tgsCons (t : D → DE → Option DE) (u : List D → DE → Option DE) : List D → DE → Option DE := fun l e => match l with
  | [] => none
  | d :: l => (t d e).bind (u l)
theorem gs_cons {g : TG} {gs : TGs} {js ks : List Nat} {t : D → DE → Option DE} {u : List D → DE → Option DE} (h1 : DTg G g js t) (h2 : DTgs G gs ks u) : DTgs G (gCons g gs) (js ++ ks) (tgsCons t u) := by
  intro s t0 σ e st vs ds E k hv Q e' he post
  cases ds with
  | nil => cases he
  | cons d l =>
    cases hv with
    | cons a b =>
      have he' : (t d e).bind (u l) = some e' := he
      cases q : t d e with
      | none => rw [q] at he'; cases he'
      | some e1 =>
        rw [q] at he'
        refine ⟨_, _, rfl, h1 s t0 σ e st _ d E k a _ e1 q fun σ1 E1 l1 w1 => ?_⟩
        refine h2 s t0 σ1 e1 st _ l E1 k b _ e' he' fun σ2 E2 l2 w2 => ?_
        refine post σ2 E2 (l2.trans l1) fun i hi => ?_
        rw [w2 i (fun z => hi (List.mem_append_right _ z)), w1 i (fun z => hi (List.mem_append_left _ z))]
def tgT (n : Nat) (u : List D → DE → Option DE) : D → DE → Option DE := fun d e => match d with
  | .tup l => if l.length = n then u l e else none
  | .lst l => if l.length = n then u l e else none
  | _ => none
abbrev gTL (K : PySem.W.Frag) (n : Nat) (t : TGs) : TG := fun v σ H Q => gTup K n t v σ H Q ∨ gLst K n t v σ H Q
theorem pg_tl {X : Cx} {pos : Pos} {es : List Expr} {k : Nat} {t : TGs} {n : Nat} (hc : X.calm = true) (h : PGs X es t)
    (hn : (assignEach es X.env).length = n := by rfl) (hst : (assignEach es X.env).findIdx? (·.1) = none := by rfl) : PG X (.Tuple es k pos) (gTL X.K n t) :=
  ⟨fun pins s σ H v u Q I r hw => hw.elim (fun z => (pg_tup hc h hn hst).run pins s σ H v u Q I r z) (fun z => (pg_lst hc h hn hst).run pins s σ H v u Q I r z)⟩
theorem g_tl {n : Nat} {t : TGs} {js : List Nat} {u : List D → DE → Option DE} (h : DTgs G t js u) : DTg G (gTL G.K n t) js (tgT n u) := by
  intro s t0 σ e st v d E k hv Q e' he post
  cases d <;> try (cases he; done)
  case tup l =>
    have he' : (if l.length = n then u l e else none) = some e' := he
    split at he'
    · rename_i hn
      cases hv with
      | tup a b => exact .inl ⟨_, _, rfl, same_t k.sf a, b.len.trans hn, h s t0 σ e st _ l E k b Q e' he' post⟩
    · cases he'
  case lst l =>
    have he' : (if l.length = n then u l e else none) = some e' := he
    split at he'
    · rename_i hn
      cases hv with
      | lst a b => exact .inr ⟨_, _, rfl, SqL.of (k.sf _ _ a), b.len.trans hn, h s t0 σ e st _ l E k b Q e' he' post⟩
    · cases he'
end
inductive SR where | nx (E : En) | rt (m : Md) (d : D) (st : Sto) | bk (E : En) | ct (E : En) | exc (c : Nat) (l : List D) (E : En) | bad
def SPost (G : Gm) (W : WX) (s t : Hs) (N : Ends) : SR → Prop
  | .nx E => ∀ t' σ', Up t t' → EnvOk G s t' σ' E.e → StOk G t' E.st → N.nx σ' t'.h
  | .rt m d st => ∀ t' v, Up t t' → Gro s t' → StOk G t' st → VOk G s t' m v d → N.rt v t'.h
  | .bk E => ∀ t' σ', Up t t' → EnvOk G s t' σ' E.e → StOk G t' E.st → N.bk σ' t'.h
  | .ct E => ∀ t' σ', Up t t' → EnvOk G s t' σ' E.e → StOk G t' E.st → N.ct σ' t'.h
  | .exc c l E => ∀ t' σ' x, Up t t' → EnvOk G s t' σ' E.e → StOk G t' E.st → ExcOk G t' c l x → W (.ref (G.ca c)) x σ' t'.h
  | .bad => False
theorem SPost.mono {G : Gm} {W : WX} {s t t1 : Hs} {N : Ends} {r : SR} (u : Up t t1) (h : SPost G W s t N r) : SPost G W s t1 N r := by
  cases r with
  | nx E => exact fun t' σ' q => h t' σ' (u.trans q)
  | rt m d st => exact fun t' v q => h t' v (u.trans q)
  | bk E => exact fun t' σ' q => h t' σ' (u.trans q)
  | ct E => exact fun t' σ' q => h t' σ' (u.trans q)
  | exc c l E => exact fun t' σ' x q => h t' σ' x (u.trans q)
  | bad => exact h
def DSt (G : Gm) (W : WX) (ts : TS) (g : En → SR) : Prop :=
  ∀ s t σ e st, EnvOk G s t σ e → StOk G t st → ∀ N : Ends, SPost G W s t N (g ⟨e, st⟩) → ts N σ t.h
def SR.bind (r : SR) (k : En → SR) : SR := match r with
  | .nx E => k E
  | r => r
@[simp] theorem SR.bind_nx (E : En) (k : En → SR) : (SR.nx E).bind k = k E := rfl
@[simp] theorem SR.bind_rt (m : Md) (d : D) (st : Sto) (k : En → SR) : (SR.rt m d st).bind k = .rt m d st := rfl
@[simp] theorem SR.bind_bk (E : En) (k : En → SR) : (SR.bk E).bind k = .bk E := rfl
@[simp] theorem SR.bind_ct (E : En) (k : En → SR) : (SR.ct E).bind k = .ct E := rfl
@[simp] theorem SR.bind_exc (c : Nat) (l : List D) (E : En) (k : En → SR) : (SR.exc c l E).bind k = .exc c l E := rfl
@[simp] theorem SR.bind_bad (k : En → SR) : SR.bad.bind k = .bad := rfl
section
variable {G : Gm} {W : WX}
def sSeq (f g : En → SR) : En → SR := fun E => (f E).bind g
theorem s_seq {t u : TS} {f g : En → SR} (h1 : DSt G W t f) (h2 : DSt G W u g) : DSt G W (tSeq t u) (sSeq f g) := by
  intro s t0 σ e st E k N post
  refine h1 s t0 σ e st E k _ ?_
  unfold sSeq at post
  cases q : f ⟨e, st⟩ with
  | nx E1 => rw [q] at post; exact fun t' σ' u E' k' => h2 s t' σ' E1.e E1.st E' k' N (SPost.mono u post)
  | rt m d st => rw [q] at post; exact post
  | bk e => rw [q] at post; exact post
  | ct e => rw [q] at post; exact post
  | exc c l e => rw [q] at post; exact post
  | bad => rw [q] at post; exact post
def sSkip : En → SR := .nx
theorem s_skip : DSt G W tNext sSkip := fun s t σ e st E k N post => post t σ (Up.refl _) E k
def sBreak : En → SR := .bk
def sCont : En → SR := .ct
theorem ev_st {te : TE} {f : En → ER} (h : DEv G W te f) {s t : Hs} {σ : L2.St} {e : DE} {st : Sto} (E : EnvOk G s t σ e) (k : StOk G t st) {N : Ends} {Q : VK} (hx : ∀ c l st1, f ⟨e, st⟩ = .exc c l st1 → SPost G W s t N (.exc c l ⟨e, st1⟩)) (hb : f ⟨e, st⟩ ≠ .bad)
    (hv : ∀ m d st1, f ⟨e, st⟩ = .val m d st1 → ∀ t' v, Gro t t' → StOk G t' st1 → VOk G t t' m v d → Q v t'.h) : te σ t.h Q := by
  refine h s t σ e st E k _ ?_
  cases q : f ⟨e, st⟩ with
  | val m d st1 => exact hv m d st1 q
  | exc c l st1 => exact fun t' x g k' o => hx c l st1 q t' σ x g.up (E.up g) k' o
  | bad => exact absurd q hb
def sSet (i : Nat) (f : En → ER) : En → SR := fun E => match f E with
  | .val .P d st => .nx ⟨E.e.set i (.val d), st⟩
  | .val .N (.lst l) st => .nx ⟨E.e.set i (.own l), st⟩
  | .exc c l st => .exc c l ⟨E.e, st⟩
  | _ => .bad
theorem s_set {i : Nat} {te : TE} {f : En → ER} (h : DEv G W te f) : DSt G W (tAsg te (gName i)) (sSet i f) := by
  intro s t σ e st E k N post
  unfold sSet at post
  refine ev_st (N := N) h E k (fun c l st1 q => by rw [q] at post; exact post) (fun q => by rw [q] at post; exact post) fun m d st1 q t' v g k' o => ?_
  rw [q] at post
  cases m with
  | P => exact post t' _ g.up ((E.up g).set ⟨v, rfl, o⟩ (fun l z => nomatch z)) k'
  | B => cases d <;> exact post.elim
  | N =>
    obtain ⟨p, vs, l, rfl, rfl, a, b, c, n, z⟩ := o
    have n0 : s.h p = none := by
      cases q : s.h p with
      | none => rfl
      | some o =>
        by_cases i : p ∈ s.as
        · exact absurd (E.gr.a.mem i) (k.new n)
        · rw [E.gr.h p o q i] at n; cases n
    refine post t' _ g.up ((E.up g).setOwn n0 z a b c fun j m hj s1 s2 => ?_) k'
    obtain ⟨o, h1, p', vs', h2, _, _, h3, _⟩ := E.slot s2
    rw [s1] at h1; cases h1
    cases h2
    rw [n] at h3; cases h3
def sSetF (i : Nat) (f : En → ER) : En → SR := fun E => match f E with
  | .val .P d st => .nx ⟨E.e.set i (.val d), st⟩
  | .val .N d st => .nx ⟨E.e.set i (.val d), st⟩
  | .exc c l st => .exc c l ⟨E.e, st⟩
  | _ => .bad
theorem s_setF {i : Nat} {te : TE} {f : En → ER} (h : DEv G W te f) : DSt G W (tAsg te (gName i)) (sSetF i f) := by
  intro s t σ e st E k N post
  unfold sSetF at post
  refine ev_st (N := N) h E k (fun c l st1 q => by rw [q] at post; exact post) (fun q => by rw [q] at post; exact post) fun m d st1 q t' v g k' o => ?_
  rw [q] at post
  cases m with
  | P => exact post t' _ g.up ((E.up g).set ⟨v, rfl, o⟩ (fun l z => nomatch z)) k'
  | B => exact post.elim
  | N =>
    obtain ⟨f2, g2, k2, _, i2⟩ := o.freeze g k' (by decide)
    exact post ⟨t'.as, f2, t'.h⟩ _ g2.up ((E.up g2).set ⟨v, rfl, i2⟩ (fun l z => nomatch z)) k2
def sAsg (t : D → DE → Option DE) (f : En → ER) : En → SR := fun E => match f E with
  | .val .B _ _ => .bad
  | .val _ d st => (match t d E.e with | some e' => .nx ⟨e', st⟩ | none => .bad)
  | .exc c l st => .exc c l ⟨E.e, st⟩
  | _ => .bad
def sPar (i j : Nat) (f : En → AR) : En → SR := fun E => match f E with
  | .ok true [a, b] st => .nx ⟨(E.e.set i (.val a)).set j (.val b), st⟩
  | .exc c l st => .exc c l ⟨E.e, st⟩
  | _ => .bad
def sDrop (f : En → ER) : En → SR := fun E => match f E with
  | .val _ _ st => .nx ⟨E.e, st⟩
  | .exc c l st => .exc c l ⟨E.e, st⟩
  | .bad => .bad
theorem s_drop {te : TE} {f : En → ER} (h : DEv G W te f) : DSt G W (tDrop te) (sDrop f) := by
  intro s t σ e st E k N post
  unfold sDrop at post
  refine ev_st (N := N) h E k (fun c l st1 q => by rw [q] at post; exact post) (fun q => by rw [q] at post; exact post) fun m d st1 q t' v g k' o => ?_
  rw [q] at post
  exact post t' σ g.up (E.up g) k'
def sRet (f : En → ER) : En → SR := fun E => match f E with
  | .val .P d st => .rt .P d st
  | .val .N d st => .rt .N d st
  | .exc c l st => .exc c l ⟨E.e, st⟩
  | _ => .bad
theorem s_ret {te : TE} {f : En → ER} (h : DEv G W te f) : DSt G W (tRet te) (sRet f) := by
  intro s t σ e st E k N post
  unfold sRet at post
  refine ev_st (N := N) h E k (fun c l st1 q => by rw [q] at post; exact post) (fun q => by rw [q] at post; exact post) fun m d st1 q t' v g k' o => ?_
  rw [q] at post
  cases m with
  | P => exact post t' v g.up (E.gr.trans g) k' o
  | B => exact post.elim
  | N => exact post t' v g.up (E.gr.trans g) k' (o.back E.gr k)
def sRetV (i : Nat) : En → SR := fun E => match E.e[i]? with
  | some (.val d) => .rt .P d E.st
  | some (.own l) => .rt .N (.lst l) E.st
  | _ => .bad
theorem s_retV {i : Nat} : DSt G W (tRet (tVar i)) (sRetV i) := by
  intro s t σ e st E k N post
  unfold sRetV at post
  split at post
  · rename_i d q
    obtain ⟨o, h1, v, rfl, h2⟩ := E.slot q
    exact ⟨v, h1, post t v (Up.refl _) E.gr k h2⟩
  · rename_i l q
    obtain ⟨o, h1, p, vs, rfl, a, b, c, d, f⟩ := E.slot q
    exact ⟨_, h1, post t _ (Up.refl _) E.gr k ⟨p, vs, l, rfl, rfl, c, d, f, a, b⟩⟩
  · exact post.elim
def sRetN : En → SR := fun E => .rt .P .non E.st
def sIf (c : En → ER) (f g : En → SR) : En → SR := fun E => match c E with
  | .val _ (.bl b) st => if b = true then f ⟨E.e, st⟩ else g ⟨E.e, st⟩
  | .exc c l st => .exc c l ⟨E.e, st⟩
  | _ => .bad
theorem tst_st {tt : TT} {f : En → ER} (h : DTt G W tt f) {s t : Hs} {σ : L2.St} {e : DE} {st : Sto} (E : EnvOk G s t σ e) (k : StOk G t st) {N : Ends} {Q : Bool → Hp → Prop} (hx : ∀ c l st1, f ⟨e, st⟩ = .exc c l st1 → SPost G W s t N (.exc c l ⟨e, st1⟩)) (hb : ∃ m b st1, f ⟨e, st⟩ = .val m (.bl b) st1 ∨ ∃ c l, f ⟨e, st⟩ = .exc c l st1)
    (hv : ∀ m b st1, f ⟨e, st⟩ = .val m (.bl b) st1 → ∀ t', Gro t t' → StOk G t' st1 → Q b t'.h) : tt σ t.h Q := by
  refine h s t σ e st E k _ ?_
  obtain ⟨m, b, st1, q | ⟨c, l, q⟩⟩ := hb
  · rw [q]; exact hv m b st1 q
  · rw [q]; exact fun t' x g k' o => hx c l st1 q t' σ x g.up (E.up g) k' o
theorem s_if {tc : TT} {t u : TS} {c : En → ER} {f g : En → SR} (hc : DTt G W tc c) (ht : DSt G W t f) (hu : DSt G W u g) : DSt G W (tIfS tc t u) (sIf c f g) := by
  intro s t0 σ e st E k N post
  unfold sIf at post
  refine tst_st (N := N) hc E k (fun c l st1 q => by rw [q] at post; exact post) ?_ fun m b st1 q t' g1 k' => ?_
  · cases q : c ⟨e, st⟩ with
    | val m d st1 =>
      rw [q] at post
      cases d <;> first | exact post.elim | exact ⟨m, _, st1, .inl rfl⟩
    | exc k l st1 => exact ⟨.P, true, st1, .inr ⟨k, l, rfl⟩⟩
    | bad => rw [q] at post; exact post.elim
  · rw [q] at post
    have post' : SPost G W s t0 N (if b = true then f ⟨e, st1⟩ else g ⟨e, st1⟩) := post
    cases b with
    | true => exact iteT (ht s t' σ e st1 (E.up g1) k' N (SPost.mono g1.up post'))
    | false => exact iteF (hu s t' σ e st1 (E.up g1) k' N (SPost.mono g1.up post'))
def frz (i : Nat) (e : DE) : DE := match e[i]? with
  | some (.own l) => e.set i (.val (.lst l))
  | _ => e
theorem EnvOk.frz {s t : Hs} {σ : L2.St} {e : DE} {st : Sto} (i : Nat) (E : EnvOk G s t σ e) (k : StOk G t st) : ∃ f, Same t.f f ∧ EnvOk G s ⟨t.as, f, t.h⟩ σ (frz i e) ∧ StOk G ⟨t.as, f, t.h⟩ st := by
  unfold Dn.frz
  split
  · rename_i l q
    obtain ⟨o, h1, p, vs, rfl, a, b, c, d, f⟩ := E.slot q
    have s1 : Same t.f (upd t.f p (.lst vs)) := same_new b
    refine ⟨upd t.f p (.lst vs), s1, ⟨E.gr.ice k c a b f, by simp [E.len], fun j o x y z => ?_, fun j m x l1 l2 hjk y z w u => ?_⟩, k.ice c b f⟩
    · by_cases zz : i = j
      · subst zz
        rw [List.getElem?_set_self (List.getElem?_eq_some_iff.mp q).1] at z
        rw [h1] at y; cases y; cases z
        exact ⟨_, rfl, .lst upd_same (d.up (Ext.refl _) s1)⟩
      · rw [List.getElem?_set_ne zz] at z
        have ok := E.at_ j o x y z
        cases x with
        | emp => trivial
        | exn => exact ok
        | clo ds =>
          obtain ⟨h1, h2, h3, h4⟩ := ok
          refine ⟨h1, h2, s1 _ _ h3, fun i d hd => ?_⟩
          obtain ⟨v, a, b⟩ := h4 i d hd
          exact ⟨v, a, b.up (Ext.refl _) s1⟩
        | val d => obtain ⟨v, a1, a2⟩ := ok; exact ⟨v, a1, a2.up (Ext.refl _) s1⟩
        | own m =>
          obtain ⟨p', vs', rfl, b1, b2, b3, b4, b5⟩ := ok
          have : p' ≠ p := fun zzz => by subst zzz; exact E.dis i j p' l m zz h1 q y z
          exact ⟨p', vs', rfl, b1, by show upd t.f p (.lst vs) p' = none; rw [upd_ne this]; exact b2, b3, b4.up (Ext.refl _) s1, b5⟩
    · have own_of : ∀ (j : Nat) (l1 : List D), (e.set i (.val (.lst l)))[j]? = some (.own l1) → e[j]? = some (.own l1) := fun j l1 z => by
        by_cases zz : i = j
        · subst zz
          rw [List.getElem?_set_self (List.getElem?_eq_some_iff.mp q).1] at z
          cases z
        · rw [List.getElem?_set_ne zz] at z; exact z
      exact E.dis j m x l1 l2 hjk y (own_of j l1 z) w (own_of m l2 u)
  · exact ⟨t.f, Same.refl _, E, k⟩
def sFrz (i : Nat) (g : En → SR) : En → SR := fun E => g ⟨frz i E.e, E.st⟩
theorem SPost.cond {s t : Hs} {N : Ends} (c : Prop) [Decidable c] (r : SR) (h : SPost G W s t N (if c then r else .bad)) : c ∧ SPost G W s t N r := by
  by_cases q : c
  · rw [if_pos q] at h; exact ⟨q, h⟩
  · rw [if_neg q] at h; exact h.elim
def sApp (i : Nat) (f : En → ER) : En → SR := fun E => match E.e[i]? with
  | some (.own l) => (match f E with
    | .val .B _ _ => .bad
    | .val _ d st => if l.length < 1000000 then .nx ⟨E.e.set i (.own (l ++ [d])), st⟩ else .bad
    | .exc c l st => .exc c l ⟨E.e, st⟩
    | .bad => .bad)
  | _ => .bad
theorem EnvOk.modS {s t : Hs} {σ : L2.St} {e : DE} {st : Sto} {n : Nat} {a : Addr} {o : HO} (E : EnvOk G s t σ e) (k : StOk G t st) (ha : t.as[n]? = some a) : EnvOk G s ⟨t.as, t.f, upd t.h a o⟩ σ e := by
  have m : a ∈ t.as := List.mem_iff_getElem?.mpr ⟨n, ha⟩
  refine ⟨E.gr.mod k ha, E.len, fun i x y p q => ?_, E.dis⟩
  have ok := E.at_ i x y p q
  cases y with
  | emp => trivial
  | exn => exact ok
  | clo ds => exact ok
  | val d => exact ok
  | own l =>
    obtain ⟨p', vs, rfl, a1, a2, a3, a4, a5⟩ := ok
    have : p' ≠ a := fun z => by subst z; exact a5 m
    exact ⟨p', vs, rfl, a1, a2, by show upd t.h a o p' = _; rw [upd_ne this]; exact a3, a4, a5⟩
def sSetO (x : Nat) (f fi : En → ER) : En → SR := fun E => match E.e[x]? with
  | some (.own l) => (match f E with
    | .val .B _ _ => .bad
    | .val _ d st => (match fi ⟨E.e, st⟩ with
      | .val _ (.int i) st1 => (match ixN l.length i with | some j => .nx ⟨E.e.set x (.own (l.set j d)), st1⟩ | none => .bad)
      | .exc c l st => .exc c l ⟨E.e, st⟩
      | _ => .bad)
    | .exc c l st => .exc c l ⟨E.e, st⟩
    | .bad => .bad)
  | _ => .bad
theorem s_setO {x : Nat} {te ti : TE} {f fi : En → ER} (h : DEv G W te f) (hi : DEv G W ti fi) : DSt G W (tAsg te (gSub (tVar x) ti rSetL)) (sSetO x f fi) := by
  intro s t σ e st E k N post
  unfold sSetO at post
  split at post
  · rename_i l hx
    have hx : e[x]? = some (.own l) := hx
    obtain ⟨o, hσ, p, vs, rfl, p0, pf, ph, pl, pa⟩ := E.slot hx
    refine ev_st (N := N) h E k (fun c l st1 q => by rw [q] at post; exact post) (fun q => by rw [q] at post; exact post) fun m d st1 q t1 v g1 k1 o1 => ?_
    rw [q] at post
    have fin : ∀ f2, Gro t ⟨t1.as, f2, t1.h⟩ → StOk G ⟨t1.as, f2, t1.h⟩ st1 → Is G t1.as f2 v d → SPost G W s t N (match fi ⟨e, st1⟩ with
      | .val _ (.int i) st1 => (match ixN l.length i with | some j => .nx ⟨e.set x (.own (l.set j d)), st1⟩ | none => .bad)
      | .exc c l st => .exc c l ⟨e, st⟩
      | _ => .bad) → gSub (tVar x) ti rSetL v σ t1.h N.nx := fun f2 g2 k2 i2 post => by
      refine ⟨_, hσ, ?_⟩
      refine ev_st (N := N) hi (E.up g2) k2 (fun c l st3 q3 => ?_) (fun q3 => ?_) fun mi di st3 q3 t3 w g3 k3 o3 => ?_
      · rw [q3] at post; exact SPost.mono g2.up post
      · rw [q3] at post; exact post
      · rw [q3] at post
        cases di <;> try exact post.elim
        rename_i i
        obtain rfl := o3.u.int
        have g23 := g2.trans g3
        cases hj : ixN l.length i with
        | none => simp only [hj] at post; exact post.elim
        | some j =>
          simp only [hj] at post
          have hp' : t3.h p = some (.lst vs) := g23.h _ _ ph pa
          have hf' : t3.f p = none := g23.n _ _ ph pf
          have ha' : p ∉ t3.as := fun m => (g23.w p m).elim pa fun z => by rw [ph] at z; cases z
          refine ⟨p, vs, i, j, rfl, rfl, hp', by rw [pl.len]; exact hj, ?_⟩
          have pl' := (pl.up g23.a g23.f).set (i2.up g3.a g3.f) j
          exact post ⟨t3.as, t3.f, upd t3.h p (.lst (vs.set j v))⟩ σ ⟨g23.a, g23.f⟩ ((E.up g23).chg hσ hx p0 hf' pl' ha') (k3.chg hf' ha')
    cases m with
    | P => exact fin t1.f g1 k1 o1 post
    | B => exact post.elim
    | N =>
      obtain ⟨f2, g2, k2, _, i2⟩ := o1.freeze g1 k1 (by decide)
      exact fin f2 g2 k2 i2 post
  · exact post.elim
def sSetP (fb f fi : En → ER) : En → SR := fun E => match f E with
  | .val .B _ _ => .bad
  | .val _ d st => (match fb ⟨E.e, st⟩ with
    | .val _ (.ptr n) st1 => (match fi ⟨E.e, st1⟩ with
      | .val _ (.int i) st2 => (match stLst st2 n with
        | some l => (match ixN l.length i with | some j => .nx ⟨E.e, st2.set n (.lst (l.set j d))⟩ | none => .bad)
        | none => .bad)
      | .exc c l st => .exc c l ⟨E.e, st⟩
      | _ => .bad)
    | .exc c l st => .exc c l ⟨E.e, st⟩
    | _ => .bad)
  | .exc c l st => .exc c l ⟨E.e, st⟩
  | .bad => .bad
theorem s_setP {tb te ti : TE} {fb f fi : En → ER} (hb : DEv G W tb fb) (h : DEv G W te f) (hi : DEv G W ti fi) : DSt G W (tAsg te (gSub tb ti rSetL)) (sSetP fb f fi) := by
  intro s t σ e st E k N post
  unfold sSetP at post
  refine ev_st (N := N) h E k (fun c l st1 q => by rw [q] at post; exact post) (fun q => by rw [q] at post; exact post) fun m d st1 q t1 v g1 k1 o1 => ?_
  rw [q] at post
  have fin : ∀ f2, Gro t ⟨t1.as, f2, t1.h⟩ → StOk G ⟨t1.as, f2, t1.h⟩ st1 → Is G t1.as f2 v d → SPost G W s t N (match fb ⟨e, st1⟩ with
    | .val _ (.ptr n) st1 => (match fi ⟨e, st1⟩ with
      | .val _ (.int i) st2 => (match stLst st2 n with
        | some l => (match ixN l.length i with | some j => .nx ⟨e, st2.set n (.lst (l.set j d))⟩ | none => .bad)
        | none => .bad)
      | .exc c l st => .exc c l ⟨e, st⟩
      | _ => .bad)
    | .exc c l st => .exc c l ⟨e, st⟩
    | _ => .bad) → gSub tb ti rSetL v σ t1.h N.nx := fun f2 g2 k2 i2 post => by
    refine ev_st (N := N) hb (E.up g2) k2 (fun c l st3 q3 => ?_) (fun q3 => ?_) fun mb db st3 q3 t3 b g3 k3 o3 => ?_
    · rw [q3] at post; exact SPost.mono g2.up post
    · rw [q3] at post; exact post
    · rw [q3] at post
      cases db <;> try exact post.elim
      rename_i n
      obtain ⟨p, rfl, hp⟩ := o3.u.ptr
      have g23 := g2.trans g3
      have post : SPost G W s t N (match fi ⟨e, st3⟩ with
        | .val _ (.int i) st2 => (match stLst st2 n with
          | some l => (match ixN l.length i with | some j => .nx ⟨e, st2.set n (.lst (l.set j d))⟩ | none => .bad)
          | none => .bad)
        | .exc c l st => .exc c l ⟨e, st⟩
        | _ => .bad) := post
      refine ev_st (N := N) hi (E.up g23) k3 (fun c l st4 q4 => ?_) (fun q4 => ?_) fun mi di st4 q4 t4 w g4 k4 o4 => ?_
      · rw [q4] at post; exact SPost.mono g23.up post
      · rw [q4] at post; exact post
      · rw [q4] at post
        cases di <;> try exact post.elim
        rename_i i
        obtain rfl := o4.u.int
        have g24 := g23.trans g4
        have hp4 := g4.a n p hp
        have post : SPost G W s t N (match stLst st4 n with
          | some l => (match ixN l.length i with | some j => .nx ⟨e, st4.set n (.lst (l.set j d))⟩ | none => .bad)
          | none => .bad) := post
        cases hl : stLst st4 n with
        | none => simp only [hl] at post; exact post.elim
        | some l =>
          simp only [hl] at post
          cases hj : ixN l.length i with
          | none => simp only [hj] at post; exact post.elim
          | some j =>
            simp only [hj] at post
            obtain ⟨vs, hh, il⟩ := k4.lst hp4 hl
            refine ⟨p, vs, i, j, rfl, rfl, hh, by rw [il.len]; exact hj, ?_⟩
            have il' := il.set (i2.up (g3.trans g4).a (g3.trans g4).f) j
            exact post ⟨t4.as, t4.f, upd t4.h p (.lst (vs.set j v))⟩ σ ⟨g24.a, g24.f⟩ ((E.up g24).modS k4 hp4) (k4.mod hp4 ⟨_, upd_same, il'⟩)
  cases m with
  | P => exact fin t1.f g1 k1 o1 post
  | B => exact post.elim
  | N =>
    obtain ⟨f2, g2, k2, _, i2⟩ := o1.freeze g1 k1 (by decide)
    exact fin f2 g2 k2 i2 post
def sSetI (x : Nat) (f fi : En → ER) : En → SR := fun E => match E.e[x]? with
  | some (.own _) => sSetO x f fi E
  | _ => sSetP (dVar x) f fi E
theorem s_setI {x : Nat} {te ti : TE} {f fi : En → ER} (h : DEv G W te f) (hi : DEv G W ti fi) : DSt G W (tAsg te (gSub (tVar x) ti rSetL)) (sSetI x f fi) := by
  intro s t σ e st E k N post
  unfold sSetI at post
  split at post
  · exact s_setO h hi s t σ e st E k N post
  · exact s_setP v_var h hi s t σ e st E k N post
end
end Dn
namespace Dn
open PySem PySem.Spec PyProof.Rows L2
def ItOk (G : Gm) (t1 : Hs) (J : It) (l : List D) : Prop := ∀ (i : Nat) (t : Hs) (st : Sto), Up t1 t → StOk G t st → (l.length ≤ i → J.stop i t.h) ∧
  ∀ d, l[i]? = some d → J.go i t.h ∧ ∀ x H', J.yld i t.h x H' → ∃ t', t'.h = H' ∧ Gro t t' ∧ StOk G t' st ∧ Is G t'.as t'.f x d
def IPost (G : Gm) (W : WX) (t : Hs) (σ : L2.St) (R : It → Hp → Prop) : AR → Prop
  | .ok _ l st => ∀ t' J, Gro t t' → StOk G t' st → ItOk G t' J l → R J t'.h
  | .exc c l st => ∀ t' x, Gro t t' → StOk G t' st → ExcOk G t' c l x → W (.ref (G.ca c)) x σ t'.h
  | .bad => False
def DIt (G : Gm) (W : WX) (wi : TI) (f : En → AR) : Prop := ∀ s t σ e st, EnvOk G s t σ e → StOk G t st → ∀ R : It → Hp → Prop, IPost G W t σ R (f ⟨e, st⟩) → wi σ t.h R
section
variable {G : Gm} {W : WX}
def iAny (K : PySem.W.Frag) (te : TE) : TI := fun σ H R => iList K te σ H R ∨ iTup K te σ H R ∨ iStr te σ H R
theorem pi_any {X : Cx} {tg e : Expr} {te : TE} (he : PE X e te) : PI X tg e (iAny X.K te) :=
  ⟨fun pins s σ H R I h => h.elim (fun z => (pi_list he).run pins s σ H R I z) fun z => z.elim (fun z => (pi_tup he).run pins s σ H R I z) (fun z => (pi_str he).run pins s σ H R I z)⟩
def itemsOf : D → Option (List D)
  | .lst l => some l
  | .tup l => some l
  | .scr l => some (l.map .int)
  | .str z => some (z.cps.toList.map fun c => .str ⟨#[c]⟩)
  | _ => none
def dIter (f : En → ER) : En → AR := fun E => match f E with
  | .val .B _ _ => .bad
  | .val _ d st => (match itemsOf d with | some l => .ok true l st | none => .bad)
  | .exc c l st => .exc c l st
  | .bad => .bad
theorem it_list {t1 : Hs} {a : Addr} {vs : List V} {l : List D} (h : ∀ t, Up t1 t → Same t.f t.h → SqL G.K t.h a vs ∧ IsL G t.as t.f vs l) : ItOk G t1 (Itl G.K a) l := by
  intro i t st u k
  obtain ⟨q, il⟩ := h t u k.sf
  refine ⟨fun hi => ⟨vs, q, by rw [il.len]; exact hi⟩, fun d hd => ?_⟩
  obtain ⟨v, h1, h2⟩ := il.get hd
  refine ⟨⟨vs, v, q, h1⟩, fun x H' y => ?_⟩
  obtain ⟨rfl, y⟩ := y
  have := y vs q
  rw [h1] at this; cases this
  exact ⟨t, rfl, Gro.refl k, k, h2⟩
theorem it_tup {t1 : Hs} {a : Addr} {vs : List V} {l : List D} (h : ∀ t, Up t1 t → Same t.f t.h → SqT G.K t.h a vs ∧ IsL G t.as t.f vs l) : ItOk G t1 (Itt G.K a) l := by
  intro i t st u k
  obtain ⟨q, il⟩ := h t u k.sf
  refine ⟨fun hi => ⟨vs, q, by rw [il.len]; exact hi⟩, fun d hd => ?_⟩
  obtain ⟨v, h1, h2⟩ := il.get hd
  refine ⟨⟨vs, v, q, h1⟩, fun x H' y => ?_⟩
  obtain ⟨rfl, y⟩ := y
  have := y vs q
  rw [h1] at this; cases this
  exact ⟨t, rfl, Gro.refl k, k, h2⟩
theorem it_str {t1 : Hs} (z : Str) : ItOk G t1 (Its z) (z.cps.toList.map fun c => .str ⟨#[c]⟩) := by
  intro i t st u k
  refine ⟨fun hi => by (show z.cps.size ≤ i); simpa using hi, fun d hd => ?_⟩
  rw [List.getElem?_map] at hd
  cases q : z.cps.toList[i]? with
  | none => rw [q] at hd; cases hd
  | some c =>
    rw [q] at hd
    cases hd
    have hi : i < z.cps.size := by
      have := (List.getElem?_eq_some_iff.mp q).1
      simpa using this
    refine ⟨hi, fun x H' y => ?_⟩
    obtain ⟨rfl, c', h1, rfl⟩ := y
    have : z.cps[i]? = some c := by rw [← Array.getElem?_toList]; exact q
    rw [this] at h1; cases h1
    exact ⟨t, rfl, Gro.refl k, k, .str _⟩
theorem i_any {te : TE} {f : En → ER} (h : DEv G W te f) : DIt G W (iAny G.K te) (dIter f) := by
  intro s t σ e st E k0 R post
  have hx : ∀ {Q : VK}, (∀ m d st1, f ⟨e, st⟩ = .val m d st1 → m ≠ .B → ∀ l, itemsOf d = some l → ∀ t' v, Gro t t' → StOk G t' st1 → Is G t'.as t'.f v d → Q v t'.h) → te σ t.h Q := fun {Q} k => by
    refine h s t σ e st E k0 _ ?_
    cases q : f ⟨e, st⟩ with
    | val m d st1 =>
      simp only [dIter, q] at post
      intro t' v g k' o
      have nb : m ≠ .B := fun z => by subst z; exact post.elim
      have : ∃ l, itemsOf d = some l := by
        cases m <;> first | exact absurd rfl nb | (cases q2 : itemsOf d <;> first | (simp only [q2] at post; exact post.elim) | exact ⟨_, rfl⟩)
      obtain ⟨l, hl⟩ := this
      obtain ⟨f2, g2, k2, _, i2⟩ := o.freeze g k' nb
      exact k m d st1 q nb l hl ⟨t'.as, f2, t'.h⟩ v g2 k2 i2
    | exc c l st1 => simp only [dIter, q] at post; exact post
    | bad => simp only [dIter, q] at post; exact post
  have hp : ∀ m d l st1, f ⟨e, st⟩ = .val m d st1 → m ≠ .B → itemsOf d = some l → ∀ t' J, Gro t t' → StOk G t' st1 → ItOk G t' J l → R J t'.h := fun m d l st1 q nb hl => by
    simp only [dIter, q] at post
    cases m <;> first | exact absurd rfl nb | (simp only [hl] at post; exact post)
  cases q : f ⟨e, st⟩ with
  | val m d st1 =>
    cases d with
    | tup l0 =>
      refine .inr (.inl (hx fun m' d' st' q' nb l hl t' v g k' i2 => ?_))
      rw [q] at q'; cases q'; cases hl
      cases i2 with
      | tup a b => exact ⟨_, rfl, ⟨_, same_t k'.sf a⟩, hp m (.tup l0) l0 st1 q nb rfl t' _ g k' (it_tup fun t2 u s2 => ⟨same_t (u.f.trans s2) a, b.up u.a u.f⟩)⟩
    | str z =>
      refine .inr (.inr (hx fun m' d' st' q' nb l hl t' v g k' i2 => ?_))
      rw [q] at q'; cases q'; cases hl
      cases i2 with
      | str => exact ⟨z, rfl, hp m (.str z) _ st1 q nb rfl t' _ g k' (it_str z)⟩
    | lst l0 =>
      refine .inl (hx fun m' d' st' q' nb l hl t' v g k' i2 => ?_)
      rw [q] at q'; cases q'; cases hl
      cases i2 with
      | lst a b => exact ⟨_, rfl, ⟨_, SqL.of (k'.sf _ _ a)⟩, hp m (.lst l0) l0 st1 q nb rfl t' _ g k' (it_list fun t2 u s2 => ⟨SqL.of (s2 _ _ (u.f _ _ a)), b.up u.a u.f⟩)⟩
    | scr l0 =>
      refine .inl (hx fun m' d' st' q' nb l hl t' v g k' i2 => ?_)
      rw [q] at q'; cases q'; cases hl
      cases i2 with
      | scr a => exact ⟨_, rfl, ⟨_, k'.sf.seq a⟩, hp m (.scr l0) _ st1 q nb rfl t' _ g k' (it_list fun t2 u s2 => ⟨(u.f.trans s2).seq a, IsL.ints _⟩)⟩
    | _ => refine .inl (hx fun m' d' st' q' nb l hl t' v g k' i2 => ?_); rw [q] at q'; cases q'; cases hl
  | exc c l st1 => refine .inl (hx fun m' d' st' q' => ?_); rw [q] at q'; cases q'
  | bad => refine .inl (hx fun m' d' st' q' => ?_); rw [q] at q'; cases q'
def rangeD (lo : Int) (n : Nat) : List D := (List.range n).map fun (k : Nat) => .int (lo + (k : Int))
theorem rangeD_get {lo : Int} {n i : Nat} {d : D} (h : (rangeD lo n)[i]? = some d) : i < n ∧ d = .int (lo + (i : Int)) := by
  unfold rangeD at h
  rw [List.getElem?_map] at h
  by_cases hi : i < n
  · rw [List.getElem?_range hi] at h; cases h; exact ⟨hi, rfl⟩
  · rw [List.getElem?_eq_none (by simpa using hi)] at h; cases h
theorem it_range {t1 : Hs} (lo : Int) (n : Nat) : ItOk G t1 (Itr lo n) (rangeD lo n) := by
  intro i t st u k
  refine ⟨fun hi => by (show n ≤ i); simpa [rangeD] using hi, fun d hd => ?_⟩
  obtain ⟨hi, rfl⟩ := rangeD_get hd
  refine ⟨hi, fun x H' y => ?_⟩
  obtain ⟨rfl, rfl⟩ := y
  exact ⟨t, rfl, Gro.refl k, k, .int _⟩
def rng1 : List D → Option (Int × Nat)
  | [.int j] => if -(2 ^ 62) ≤ j ∧ j < 2 ^ 62 then some (0, j.toNat) else none
  | _ => none
def rng2 : List D → Option (Int × Nat)
  | [.int i, .int j] => if -(2 ^ 62) ≤ i ∧ i < 2 ^ 62 ∧ -(2 ^ 62) ≤ j ∧ j < 2 ^ 62 then some (i, (j - i).toNat) else none
  | _ => none
def dRng (r : List D → Option (Int × Nat)) (f : En → AR) : En → AR := fun E => match f E with
  | .ok _ l st => (match r l with | some r => .ok true (rangeD r.1 r.2) st | none => .bad)
  | .exc c l st => .exc c l st
  | _ => .bad
theorem i_rng {ta : TA} {f : En → AR} {ro : List D → Option (Int × Nat)} {r : List V → Hp → (It → Hp → Prop) → Prop} (h : DAr G W ta f) (hr : ∀ t vs l p R, UL G t vs l → ro l = some p → R (Itr p.1 p.2) t.h → r vs t.h R) : DIt G W (fun σ H R => ta σ H fun vs H1 => r vs H1 R) (dRng ro f) := by
  intro s t σ e st E k R post
  refine h s t σ e st E k _ ?_
  unfold dRng at post
  cases q : f ⟨e, st⟩ with
  | ok p l st1 =>
    rw [q] at post
    intro t1 vs g1 k1 _ u1
    cases hl : ro l with
    | none => simp only [hl] at post; exact post.elim
    | some p =>
      simp only [hl] at post
      exact hr t1 vs l p R u1 hl (post t1 _ g1 k1 (it_range _ _))
  | exc c l st1 => rw [q] at post; exact post
  | bad => rw [q] at post; exact post
theorem i_range1 {ta : TA} {f : En → AR} (h : DAr G W ta f) : DIt G W (iRng1 ta) (dRng rng1 f) :=
  i_rng (r := fun vs H1 R => ∃ j : Int, vs = [.int j] ∧ -(2 ^ 62) ≤ j ∧ j < 2 ^ 62 ∧ R (Itr 0 j.toNat) H1) h fun t vs l p R u hl hR => by
    unfold rng1 at hl
    split at hl
    · rename_i j
      split at hl
      · rename_i c
        cases hl
        obtain ⟨v, rfl, hv⟩ := u.one
        obtain rfl := hv.int
        exact ⟨j, rfl, c.1, c.2, hR⟩
      · cases hl
    · cases hl
theorem i_range2 {ta : TA} {f : En → AR} (h : DAr G W ta f) : DIt G W (iRng2 ta) (dRng rng2 f) :=
  i_rng (r := fun vs H1 R => ∃ i j : Int, vs = [.int i, .int j] ∧ (-(2 ^ 62) ≤ i ∧ i < 2 ^ 62 ∧ -(2 ^ 62) ≤ j ∧ j < 2 ^ 62) ∧ R (Itr i (j - i).toNat) H1) h fun t vs l p R u hl hR => by
    unfold rng2 at hl
    split at hl
    · rename_i i j
      split at hl
      · rename_i c
        cases hl
        obtain ⟨v, w, rfl, hv, hw⟩ := u.two
        obtain rfl := hv.int
        obtain rfl := hw.int
        exact ⟨i, j, rfl, c, hR⟩
      · cases hl
    · cases hl
def enumD : Nat → List D → List D
  | _, [] => []
  | k, d :: l => .tup [.int (k : Int), d] :: enumD (k + 1) l
theorem enumD_get : ∀ {l : List D} {k i : Nat} {d : D}, (enumD k l)[i]? = some d → ∃ x, l[i]? = some x ∧ d = .tup [.int ((k + i : Nat) : Int), x]
  | [], _, _, _, h => by simp [enumD] at h
  | x :: l, k, 0, d, h => by simp [enumD] at h; subst h; exact ⟨x, rfl, rfl⟩
  | x :: l, k, i + 1, d, h => by
    obtain ⟨y, h1, h2⟩ := enumD_get (l := l) (k := k + 1) (i := i) (d := d) (by simpa [enumD] using h)
    refine ⟨y, by simpa using h1, ?_⟩
    rw [h2]
    have : k + 1 + i = k + (i + 1) := by omega
    rw [this]
theorem enumD_len : ∀ (l : List D) (k : Nat), (enumD k l).length = l.length
  | [], _ => rfl
  | x :: l, k => by simp [enumD, enumD_len l]
theorem it_enum {t1 : Hs} {a : Addr} {vs : List V} {l : List D} (h : ∀ t, Up t1 t → Same t.f t.h → SqL G.K t.h a vs ∧ IsL G t.as t.f vs l) : ItOk G t1 (Ite G.K a) (enumD 0 l) := by
  intro i t st u k
  obtain ⟨q, il⟩ := h t u k.sf
  refine ⟨fun hi => ⟨vs, q, by rw [il.len]; rw [enumD_len] at hi; exact hi⟩, fun d hd => ?_⟩
  obtain ⟨x, h1, rfl⟩ := enumD_get hd
  obtain ⟨v, h2, h3⟩ := il.get h1
  refine ⟨⟨vs, v, q, h2⟩, fun y H' z => ?_⟩
  obtain ⟨T, v', rfl, hT, rfl, z⟩ := z
  have := z vs q
  rw [h2] at this; cases this
  refine ⟨⟨t.as, upd t.f T _, upd t.h T _⟩, rfl, Gro.new k hT, k.grow hT, .tup (SqT.of upd_same) (.cons ?_ (.cons (h3.up (Ext.refl _) (same_new (k.sf.free hT))) .nil))⟩
  rw [Nat.zero_add]
  exact .int _
def dEnum (f : En → AR) : En → AR := fun E => match f E with
  | .ok true [.lst l] st => .ok true (enumD 0 l) st
  | .exc c l st => .exc c l st
  | _ => .bad
theorem i_enum {ta : TA} {f : En → AR} (h : DAr G W ta f) : DIt G W (iEnum G.K ta) (dEnum f) := by
  intro s t σ e st E k R post
  refine h s t σ e st E k _ ?_
  unfold dEnum at post
  cases q : f ⟨e, st⟩ with
  | ok p l st1 =>
    rw [q] at post
    cases p with
    | false => exact post.elim
    | true =>
      match l, post with
      | [], post => exact post.elim
      | [d], post =>
        cases d <;> first | exact post.elim | skip
        intro t' vs g k' i0 _
        have i := i0 rfl
        clear i0
        cases i with
        | cons i j =>
          cases j
          cases i with
          | lst a b => exact ⟨_, _, rfl, SqL.of (k'.sf _ _ a), post t' _ g k' (it_enum fun t2 u s2 => ⟨SqL.of (s2 _ _ (u.f _ _ a)), b.up u.a u.f⟩)⟩
      | a :: b :: l, post => cases a <;> exact post.elim
  | exc c l st1 => rw [q] at post; exact post
  | bad => rw [q] at post; exact post
def zipD : List D → List D → List D
  | a :: l, b :: m => .tup [a, b] :: zipD l m
  | _, _ => []
theorem zipD_get : ∀ {l m : List D} {i : Nat} {d : D}, (zipD l m)[i]? = some d → ∃ x y, l[i]? = some x ∧ m[i]? = some y ∧ d = .tup [x, y]
  | [], _, _, _, h => by simp [zipD] at h
  | _ :: _, [], _, _, h => by simp [zipD] at h
  | a :: l, b :: m, 0, d, h => by simp [zipD] at h; subst h; exact ⟨a, b, rfl, rfl, rfl⟩
  | a :: l, b :: m, i + 1, d, h => by
    obtain ⟨x, y, h1, h2, h3⟩ := zipD_get (l := l) (m := m) (i := i) (d := d) (by simpa [zipD] using h)
    exact ⟨x, y, by simpa using h1, by simpa using h2, h3⟩
theorem zipD_len : ∀ (l m : List D), (zipD l m).length = min l.length m.length
  | [], _ => by simp [zipD]
  | _ :: _, [] => by simp [zipD]
  | a :: l, b :: m => by simp [zipD, zipD_len l m]
def dZip (f : En → AR) : En → AR := fun E => match f E with
  | .ok true [.lst l, .lst m] st => .ok true (zipD l m) st
  | .exc c l st => .exc c l st
  | _ => .bad
def forD (b : D → En → SR) : List D → En → SR
  | [], e => .nx e
  | x :: xs, e => match b x e with
    | .nx e' => forD b xs e'
    | .ct e' => forD b xs e'
    | .bk e' => .nx e'
    | r => r
def tgB (t : D → DE → Option DE) (b : En → SR) : D → En → SR := fun d E => match t d E.e with
  | some e' => b ⟨e', E.st⟩
  | none => .bad
def sFor (src : En → AR) (t : D → DE → Option DE) (b : En → SR) : En → SR := fun E => match src E with
  | .ok _ l st => forD (tgB t b) l ⟨E.e, st⟩
  | .exc c l st => .exc c l ⟨E.e, st⟩
  | .bad => .bad
theorem s_for {wi : TI} {g : TG} {tb : TS} {src : En → AR} {js : List Nat} {t : D → DE → Option DE} {b : En → SR} (hi : DIt G W wi src) (hg : DTg G g js t) (hb : DSt G W tb b) : DSt G W (tFor wi g tb) (sFor src t b) := by
  intro s t0 σ e st E k0 N post
  refine hi s t0 σ e st E k0 _ ?_
  unfold sFor at post
  cases q : src ⟨e, st⟩ with
  | ok p l st1 =>
    rw [q] at post
    have post : SPost G W s t0 N (forD (tgB t b) l ⟨e, st1⟩) := post
    intro t1 J g1 k1 it
    refine ⟨fun i m σ H => m = l.length - i ∧ i ≤ l.length ∧ ∃ t2 E2, t2.h = H ∧ Up t1 t2 ∧ EnvOk G s t2 σ E2.e ∧ StOk G t2 E2.st ∧ SPost G W s t2 N (forD (tgB t b) (l.drop i) E2),
      ⟨l.length, by simp, Nat.zero_le _, t1, ⟨e, st1⟩, rfl, Up.refl _, E.up g1, k1, SPost.mono g1.up post⟩, ?_⟩
    rintro i m σ2 H2 ⟨rfl, hi, t2, F2, rfl, s2, E2, k2, p2⟩
    obtain ⟨i1, i2⟩ := it i t2 F2.st s2 k2
    by_cases hlt : i < l.length
    · right
      have hd : l[i]? = some l[i] := List.getElem?_eq_getElem hlt
      obtain ⟨go, y⟩ := i2 _ hd
      rw [List.drop_eq_getElem_cons hlt] at p2
      refine ⟨go, fun σ' H' => i + 1 ≤ l.length ∧ ∃ t2 E2, t2.h = H' ∧ Up t1 t2 ∧ EnvOk G s t2 σ' E2.e ∧ StOk G t2 E2.st ∧ SPost G W s t2 N (forD (tgB t b) (l.drop (i + 1)) E2), fun σ' H' h => ⟨l.length - (i + 1), by omega, rfl, h⟩, fun x H' hy => ?_⟩
      obtain ⟨t3, rfl, g3, k3, i3⟩ := y x H' hy
      cases q3 : t l[i] F2.e with
      | none =>
        have : forD (tgB t b) (l[i] :: l.drop (i + 1)) F2 = .bad := by
          unfold forD tgB; rw [q3]
        rw [this] at p2
        exact p2.elim
      | some e3 =>
        have tgb : tgB t b l[i] F2 = b ⟨e3, F2.st⟩ := by unfold tgB; rw [q3]
        refine hg s t3 σ2 F2.e F2.st x l[i] (E2.up g3) k3 i3 _ e3 q3 fun σ4 E4 _ _ => ?_
        refine hb s t3 σ4 e3 F2.st E4 k3 _ ?_
        have p4 := SPost.mono g3.up p2
        unfold forD at p4
        rw [tgb] at p4
        have s3 := s2.trans g3.up
        cases q5 : b ⟨e3, F2.st⟩ with
        | nx e5 => rw [q5] at p4; exact fun t6 σ6 s6 E6 k6 => ⟨hlt, t6, e5, rfl, s3.trans s6, E6, k6, SPost.mono s6 p4⟩
        | ct e5 => rw [q5] at p4; exact fun t6 σ6 s6 E6 k6 => ⟨hlt, t6, e5, rfl, s3.trans s6, E6, k6, SPost.mono s6 p4⟩
        | bk e5 => rw [q5] at p4; exact p4
        | rt m d st => rw [q5] at p4; exact p4
        | exc c l e => rw [q5] at p4; exact p4
        | bad => rw [q5] at p4; exact p4
    · left
      have : i = l.length := by omega
      subst this
      refine ⟨i1 (Nat.le_refl _), ?_⟩
      rw [List.drop_length] at p2
      exact p2 t2 σ2 (Up.refl _) E2 k2
  | exc c l st1 => rw [q] at post; exact fun t' x g k' o => post t' σ x g.up (E.up g) k' o
  | bad => rw [q] at post; exact post
def whN (c : En → ER) (b : En → SR) : Nat → En → Option SR
  | 0, _ => none
  | n + 1, E => match c E with
    | .val _ (.bl true) st => (match b ⟨E.e, st⟩ with
      | .nx e' => whN c b n e'
      | .ct e' => whN c b n e'
      | .bk e' => some (.nx e')
      | r => some r)
    | .val _ (.bl false) st => some (.nx ⟨E.e, st⟩)
    | .exc k l st => some (.exc k l ⟨E.e, st⟩)
    | _ => some .bad
theorem whN_mono {c : En → ER} {b : En → SR} : ∀ {n m : Nat} {e : En} {r : SR}, whN c b n e = some r → n ≤ m → whN c b m e = some r
  | 0, _, _, _, h, _ => by cases h
  | n + 1, 0, _, _, _, hm => by omega
  | n + 1, m + 1, e, r, h, hm => by
    unfold whN at h ⊢
    split at h
    · split at h
      · rename_i q; exact whN_mono h (by omega)
      · rename_i q; exact whN_mono h (by omega)
      · exact h
      · exact h
    · exact h
    · exact h
    · exact h
open Classical in
noncomputable def sWhile (c : En → ER) (b : En → SR) : En → SR := fun e => if h : ∃ n r, whN c b n e = some r then Classical.choose (Classical.choose_spec h) else .bad
theorem sWhile_eq {c : En → ER} {b : En → SR} {n : Nat} {e : En} {r : SR} (h : whN c b n e = some r) : sWhile c b e = r := by
  have hx : ∃ n r, whN c b n e = some r := ⟨n, r, h⟩
  unfold sWhile
  rw [dif_pos hx]
  have h2 := Classical.choose_spec (Classical.choose_spec hx)
  have h3 := whN_mono h (Nat.le_max_left n (Classical.choose hx))
  have h4 := whN_mono h2 (Nat.le_max_right n (Classical.choose hx))
  rw [h3] at h4
  exact (Option.some.inj h4).symm
theorem s_while {tc : TT} {tb : TS} {c : En → ER} {b : En → SR} (hc : DTt G W tc c) (hb : DSt G W tb b) : DSt G W (tWhile tc tb) (sWhile c b) := by
  intro s t σ e st E k N post
  unfold sWhile at post
  split at post
  · rename_i hx
    have h2 := Classical.choose_spec (Classical.choose_spec hx)
    generalize Classical.choose (Classical.choose_spec hx) = r at post h2
    generalize Classical.choose hx = n at h2
    refine ⟨fun m σ H => ∃ t2 F2, t2.h = H ∧ Up t t2 ∧ EnvOk G s t2 σ F2.e ∧ StOk G t2 F2.st ∧ whN c b m F2 = some r, ⟨n, t, ⟨e, st⟩, rfl, Up.refl _, E, k, h2⟩, ?_⟩
    rintro m σ2 H2 ⟨t2, F2, rfl, s2, E2, k2, w2⟩
    cases m with
    | zero => cases w2
    | succ m =>
      unfold whN at w2
      refine tst_st (N := N) hc E2 k2 (fun k l st1 q => ?_) ?_ fun k bb st1 q t3 g3 k3 => ?_
      · have q : c F2 = .exc k l st1 := q
        rw [q] at w2
        cases w2
        exact SPost.mono s2 post
      · show ∃ m b st1, c F2 = .val m (.bl b) st1 ∨ ∃ k l, c F2 = .exc k l st1
        cases q : c F2 with
        | val k d st1 =>
          rw [q] at w2
          cases d with
          | bl x => exact ⟨k, x, st1, .inl rfl⟩
          | _ => cases w2; exact post.elim
        | exc k l st1 => exact ⟨.P, true, st1, .inr ⟨k, l, rfl⟩⟩
        | bad => rw [q] at w2; cases w2; exact post.elim
      · have q : c F2 = .val k (.bl bb) st1 := q
        rw [q] at w2
        cases bb with
        | false =>
          cases w2
          exact iteF (post t3 σ2 (s2.trans g3.up) (E2.up g3) k3)
        | true =>
          refine iteT ⟨fun σ H => ∃ t4 F4, t4.h = H ∧ Up t t4 ∧ EnvOk G s t4 σ F4.e ∧ StOk G t4 F4.st ∧ whN c b m F4 = some r, fun σ' H' h => ⟨m, Nat.lt_succ_self _, h⟩, ?_⟩
          refine hb s t3 σ2 F2.e st1 (E2.up g3) k3 _ ?_
          have s3 := s2.trans g3.up
          have w3 : (match b ⟨F2.e, st1⟩ with | .nx e' => whN c b m e' | .ct e' => whN c b m e' | .bk e' => some (.nx e') | r => some r) = some r := w2
          cases q5 : b ⟨F2.e, st1⟩ with
          | nx e5 => rw [q5] at w3; exact fun t6 σ6 s6 E6 k6 => ⟨t6, e5, rfl, s3.trans s6, E6, k6, w3⟩
          | ct e5 => rw [q5] at w3; exact fun t6 σ6 s6 E6 k6 => ⟨t6, e5, rfl, s3.trans s6, E6, k6, w3⟩
          | bk e5 => rw [q5] at w3; cases w3; exact SPost.mono s3 post
          | rt k d st => rw [q5] at w3; cases w3; exact SPost.mono s3 post
          | exc k l e => rw [q5] at w3; cases w3; exact SPost.mono s3 post
          | bad => rw [q5] at w3; cases w3; exact post.elim
  · exact post.elim
end
end Dn
namespace Dn
open PySem PySem.Spec PyProof.Rows L2
section
variable {G : Gm} {W : WX}
abbrev W0 : WX := fun _ _ _ _ => False
def wipeE (e : DE) : List Nat → DE
  | [] => e
  | v :: vs => (wipeE e vs).set v .emp
theorem EnvOk.wipe {s t : Hs} {σ : L2.St} {e : DE} (E : EnvOk G s t σ e) : ∀ vs : List Nat, EnvOk G s t (L2.wipe σ vs) (wipeE e vs)
  | [] => E
  | v :: vs => (E.wipe vs).set (x := .emp) trivial (fun l z => nomatch z)
theorem wipe_agree {σ τ : L2.St} {vs js : List Nat} (hl : τ.length = σ.length) (hj : ∀ j ∈ js, j ∈ vs) (h : ∀ i, i ∉ js → τ[i]? = (L2.wipe σ vs)[i]?) (hl2 : τ.length = (L2.wipe σ vs).length) : L2.wipe τ vs = L2.wipe σ vs := by
  have key : ∀ (σ : L2.St) (us : List Nat) (i : Nat), i ∈ us → i < σ.length → (L2.wipe σ us)[i]? = some none := by
    intro σ us
    induction us with
    | nil => intro i h; cases h
    | cons v us ih =>
      intro i h hi
      unfold L2.wipe
      by_cases z : v = i
      · subst z
        rw [List.getElem?_set_self (by rw [L2.wipe_length]; exact hi)]
      · rw [List.getElem?_set_ne z]
        rcases List.mem_cons.mp h with rfl | h
        · exact absurd rfl z
        · exact ih i h hi
  apply List.ext_getElem?
  intro i
  by_cases hi : i ∈ vs
  · by_cases hlt : i < σ.length
    · rw [key τ vs i hi (by omega), key σ vs i hi hlt]
    · rw [List.getElem?_eq_none (by rw [L2.wipe_length]; omega), List.getElem?_eq_none (by rw [L2.wipe_length]; omega)]
  · rw [L2.wipe_out hi, h i (fun z => hi (hj i z))]
def lcStep (t : D → DE → Option DE) (c f : En → ER) (e : DE) (d : D) (st : Sto) : Option (Option D × Sto) := match t d e with
  | none => none
  | some e2 => (match c ⟨e2, st⟩ with
    | .val _ (.bl b) st1 => if b = true then (match f ⟨e2, st1⟩ with | .val .P y st2 => some (some y, st2) | .val .N y st2 => some (some y, st2) | _ => none) else some (none, st1)
    | _ => none)
def lcGo (k : D → Sto → Option (Option D × Sto)) : List D → Sto → Option (List D × Sto)
  | [], st => some ([], st)
  | d :: l, st => (k d st).bind fun o => (lcGo k l o.2).bind fun r => some (o.1.toList ++ r.1, r.2)
def dLc (src : En → AR) (t : D → DE → Option DE) (c f : En → ER) (vs : List Nat) : En → ER := fun E => match src E with
  | .ok _ l st => if l.length ≤ 1000000 then ofOpt (lcGo (lcStep t c f (wipeE E.e vs)) l st) fun r => .val .N (.lst r.1) r.2 else .bad
  | .exc k l st => .exc k l st
  | .bad => .bad
theorem t_yes : DTt G W tYes (fun E => .val .P (.bl true) E.st) := fun s t σ e st E k Q post => post t (Gro.refl k) k
theorem v_lc {wi : TI} {g : TG} {tt : TT} {te : TE} {vs js : List Nat} {src : En → AR} {t : D → DE → Option DE} {c f : En → ER} (hi : DIt G W wi src) (hg : DTg G g js t) (hj : ∀ j ∈ js, j ∈ vs) (ht : DTt G W0 tt c) (he : DEv G W0 te f) : DEv G W (tLc wi g tt te vs) (dLc src t c f vs) := by
  intro s t0 σ e st E k0 Q post
  refine hi s t0 σ e st E k0 _ ?_
  unfold dLc at post
  cases q : src ⟨e, st⟩ with
  | ok p l st1 =>
    rw [q] at post
    obtain ⟨hlen, post⟩ := RPost.cond _ _ post
    obtain ⟨out, hout, post⟩ := RPost.opt _ _ post
    intro t1 J g1 k1 it Dl hD
    have hDH : t0.h Dl = none := by
      cases q : t0.h Dl with
      | none => rfl
      | some o =>
        by_cases i : Dl ∈ t0.as
        · exact absurd (g1.a.mem i) (k1.new hD)
        · rw [g1.h Dl o q i] at hD; cases hD
    have hD0 : s.h Dl = none := by
      cases q : s.h Dl with
      | none => rfl
      | some o =>
        by_cases i : Dl ∈ s.as
        · exact absurd (E.gr.a.mem i) (k0.new hDH)
        · rw [E.gr.h Dl o q i] at hDH; cases hDH
    have hDf : t1.f Dl = none := k1.sf.free hD
    have hDa : Dl ∉ t1.as := k1.new hD
    have Ew := (E.up g1).wipe vs
    have hne : ∀ (j : Nat) (m : List D), (L2.wipe σ vs)[j]? = some (some (.ref Dl)) → (wipeE e vs)[j]? = some (.own m) → False := fun j m a b => by
      obtain ⟨o, h1, p', vs', h2, _, _, h3, _⟩ := Ew.slot b
      rw [a] at h1; cases h1
      cases h2
      rw [hD] at h3; cases h3
    have gd := g1.chg (o := .lst []) hDH hDf
    refine ⟨fun i m H' => m = l.length - i ∧ i ≤ l.length ∧ ∃ t2 st2 acc vacc rest, t2.h = H' ∧ Up t1 t2 ∧ Gro t0 t2 ∧ StOk G t2 st2 ∧ EnvOk G s t2 (L2.wipe σ vs) (wipeE e vs) ∧ t2.h Dl = some (.lst vacc) ∧ IsL G t2.as t2.f vacc acc ∧ t2.f Dl = none ∧ Dl ∉ t2.as ∧ acc.length ≤ i ∧
      lcGo (lcStep t c f (wipeE e vs)) (l.drop i) st2 = some (rest, out.2) ∧ acc ++ rest = out.1, ⟨l.length, by simp, Nat.zero_le _, ⟨t1.as, t1.f, upd t1.h Dl (.lst [])⟩, st1, [], [], out.1, rfl, ⟨Ext.refl _, Same.refl _⟩, gd, k1.chg hDf hDa, Ew.other hD0 hDf hne, upd_same, .nil, hDf, hDa, Nat.zero_le _, hout, rfl⟩, ?_⟩
    rintro i m H2 ⟨rfl, hi, t2, st2, acc, vacc, rest, rfl, s2, g2, k2, E2, d2, a2, n2, na2, l2, r2, o2⟩
    obtain ⟨i1, i2⟩ := it i t2 st2 s2 k2
    by_cases hlt : i < l.length
    · right
      have hd : l[i]? = some l[i] := List.getElem?_eq_getElem hlt
      obtain ⟨go, y⟩ := i2 _ hd
      rw [List.drop_eq_getElem_cons hlt] at r2
      refine ⟨go, fun H' => i + 1 ≤ l.length ∧ ∃ t2 st2 acc vacc rest, t2.h = H' ∧ Up t1 t2 ∧ Gro t0 t2 ∧ StOk G t2 st2 ∧ EnvOk G s t2 (L2.wipe σ vs) (wipeE e vs) ∧ t2.h Dl = some (.lst vacc) ∧ IsL G t2.as t2.f vacc acc ∧ t2.f Dl = none ∧ Dl ∉ t2.as ∧ acc.length ≤ i + 1 ∧
        lcGo (lcStep t c f (wipeE e vs)) (l.drop (i + 1)) st2 = some (rest, out.2) ∧ acc ++ rest = out.1, fun H' h => ⟨l.length - (i + 1), by omega, rfl, h⟩, fun x H' hy => ?_⟩
      obtain ⟨t3, rfl, g3, k3, i3⟩ := y x H' hy
      unfold lcGo at r2
      cases sk : lcStep t c f (wipeE e vs) l[i] st2 with
      | none => rw [sk] at r2; cases r2
      | some o =>
        rw [sk] at r2
        have r2 : ((lcGo (lcStep t c f (wipeE e vs)) (l.drop (i + 1)) o.2).bind fun r => some (o.1.toList ++ r.1, r.2)) = some (rest, out.2) := r2
        cases lg : lcGo (lcStep t c f (wipeE e vs)) (l.drop (i + 1)) o.2 with
        | none => rw [lg] at r2; cases r2
        | some rest' =>
          rw [lg] at r2
          have r3 : (o.1.toList ++ rest'.1, rest'.2) = (rest, out.2) := Option.some.inj r2
          have r4 : o.1.toList ++ rest'.1 = rest := (Prod.mk.inj r3).1
          have r5 : rest'.2 = out.2 := (Prod.mk.inj r3).2
          have lg' : lcGo (lcStep t c f (wipeE e vs)) (l.drop (i + 1)) o.2 = some (rest'.1, out.2) := by rw [lg, ← r5]
          unfold lcStep at sk
          cases q3 : t l[i] (wipeE e vs) with
          | none => rw [q3] at sk; cases sk
          | some e3 =>
            rw [q3] at sk
            refine hg s t3 (L2.wipe σ vs) (wipeE e vs) st2 x l[i] (E2.up g3) k3 i3 _ e3 q3 fun σ4 E4 l4 w4 => ?_
            refine ⟨wipe_agree (by rw [l4, L2.wipe_length]) hj w4 l4, ?_⟩
            refine ht s t3 σ4 e3 st2 E4 k3 _ ?_
            have sk' : (match c ⟨e3, st2⟩ with
              | .val _ (.bl b) st1 => if b = true then (match f ⟨e3, st1⟩ with | .val .P y st2 => some (some y, st2) | .val .N y st2 => some (some y, st2) | _ => none) else some (none, st1)
              | _ => none) = some o := sk
            cases q4 : c ⟨e3, st2⟩ with
            | exc k l st => rw [q4] at sk'; cases sk'
            | bad => rw [q4] at sk'; cases sk'
            | val mm d st4 =>
              rw [q4] at sk'
              cases d with
              | bl b =>
                intro t5 g5 k5
                have gg := g3.trans g5
                cases b with
                | false =>
                  cases sk'
                  refine iteF ⟨hlt, t5, st4, acc, vacc, rest'.1, rfl, s2.trans gg.up, g2.trans gg, k5, E2.up gg, gg.h _ _ d2 na2, a2.up gg.a gg.f, gg.n _ _ d2 n2, (fun m => (gg.w Dl m).elim na2 fun z => by rw [d2] at z; cases z), by omega, lg', ?_⟩
                  rw [← o2, ← r4]; rfl
                | true =>
                  refine iteT (he s t5 σ4 e3 st4 (E4.up g5) k5 _ ?_)
                  have fin : ∀ y st6 t6 v, Gro t5 t6 → StOk G t6 st6 → Is G t6.as t6.f v y → o = (some y, st6) → ∃ acc, t6.h Dl = some (.lst acc) ∧ acc.length < sizeLine ∧ (i + 1 ≤ l.length ∧ ∃ t2 st2 acc_1 vacc rest, t2.h = upd t6.h Dl (.lst (acc ++ [v])) ∧ Up t1 t2 ∧ Gro t0 t2 ∧ StOk G t2 st2 ∧ EnvOk G s t2 (L2.wipe σ vs) (wipeE e vs) ∧
                      t2.h Dl = some (.lst vacc) ∧ IsL G t2.as t2.f vacc acc_1 ∧ t2.f Dl = none ∧ Dl ∉ t2.as ∧ acc_1.length ≤ i + 1 ∧ lcGo (lcStep t c f (wipeE e vs)) (l.drop (i + 1)) st2 = some (rest, out.2) ∧ acc_1 ++ rest = out.1) := fun y st6 t6 v g6 k6 i6 ho => by
                    subst ho
                    have gh := gg.trans g6
                    have nn := gh.n _ _ d2 n2
                    have na : Dl ∉ t6.as := fun m => (gh.w Dl m).elim na2 fun z => by rw [d2] at z; cases z
                    have cl := a2.len
                    refine ⟨vacc, gh.h _ _ d2 na2, by rw [cl]; exact szlt (by omega), hlt, ⟨t6.as, t6.f, upd t6.h Dl (.lst (vacc ++ [v]))⟩, st6, acc ++ [y], vacc ++ [v], rest'.1, rfl, ?_, (g2.trans gh).chg hDH nn, k6.chg nn na, (E2.up gh).other hD0 nn hne, upd_same, (a2.up gh.a gh.f).append (.one i6), nn, na, by simp; omega, lg', ?_⟩
                    · exact ⟨s2.a.trans gh.a, s2.f.trans gh.f⟩
                    · rw [← o2, ← r4]
                      simp
                  have sk2 : (match f ⟨e3, st4⟩ with | .val .P y st2 => some (some y, st2) | .val .N y st2 => some (some y, st2) | _ => none) = some o := sk'
                  cases q6 : f ⟨e3, st4⟩ with
                  | val m6 y st6 =>
                    rw [q6] at sk2
                    intro t6 v g6 k6 o6
                    cases m6 with
                    | P => exact fin y st6 t6 v g6 k6 o6 (Option.some.inj sk2).symm
                    | B => cases sk2
                    | N =>
                      obtain ⟨f7, g7, k7, _, i7⟩ := o6.freeze g6 k6 (by decide)
                      exact fin y st6 ⟨t6.as, f7, t6.h⟩ v g7 k7 i7 (Option.some.inj sk2).symm
                  | exc k l st => rw [q6] at sk2; cases sk2
                  | bad => rw [q6] at sk2; cases sk2
              | _ => cases sk'
    · left
      have : i = l.length := by omega
      subst this
      refine ⟨i1 (Nat.le_refl _), ?_⟩
      rw [List.drop_length] at r2
      have r3 : (([] : List D), st2) = (rest, out.2) := Option.some.inj r2
      have r4 : [] = rest := (Prod.mk.inj r3).1
      have r5 : st2 = out.2 := (Prod.mk.inj r3).2
      subst r4
      rw [List.append_nil] at o2
      rw [← o2, ← r5] at post
      exact post t2 _ g2 k2 ⟨Dl, vacc, acc, rfl, rfl, d2, a2, na2, hDH, n2⟩
  | exc c l st1 => rw [q] at post; exact post
  | bad => rw [q] at post; exact post
def sRaise (c : Nat) : En → SR := fun E => .exc c [] E
def SR.ret : SR → ER
  | .nx E => .val .P .non E.st
  | .rt m d st => .val m d st
  | .exc c l E => .exc c l E.st
  | _ => .bad
def startE (n : Nat) (ds : List D) : DE := ds.map .val ++ List.replicate (n - ds.length) .emp
def fnD (n N : Nat) (g : En → SR) : List D → Sto → ER := fun ds st => if ds.length = n then (g ⟨startE N ds, st⟩).ret else .bad
theorem start_ok {N : List Str} {t : Hs} {st : Sto} {vs : List V} {ds : List D} (k : StOk G t st) (h : IsL G t.as t.f vs ds) : EnvOk G t t (L2.start N vs) (startE N.length ds) := by
  have hl := h.len
  have noown : ∀ (j : Nat) (m : List D), (startE N.length ds)[j]? ≠ some (.own m) := fun j m z => by
    unfold startE at z
    rw [List.getElem?_append] at z
    split at z
    · rw [List.getElem?_map] at z
      cases q : ds[j]? <;> rw [q] at z <;> cases z
    · rw [List.getElem?_replicate] at z
      split at z <;> cases z
  refine ⟨Gro.refl k, by simp [L2.start, startE, hl], fun i o sl a b => ?_, fun i j p l m hij a b => absurd b (noown i l)⟩
  unfold L2.start at a
  unfold startE at b
  rw [List.getElem?_append] at a b
  rw [List.length_map] at a b
  split at a
  · rename_i hi
    rw [if_pos (by omega)] at b
    rw [List.getElem?_map] at a b
    cases q : vs[i]? with
    | none => rw [q] at a; cases a
    | some v =>
      obtain ⟨d, h1, h2⟩ := h.getV q
      rw [q] at a; rw [h1] at b
      cases a; cases b
      exact ⟨v, rfl, h2⟩
  · rename_i hi
    rw [if_neg (by omega)] at b
    rw [List.getElem?_replicate] at b
    split at b
    · cases b; trivial
    · cases b
theorem body_ok {N : List Str} {vs : List V} {H : Hp} {Q : VK} {E : XK} {ts : TS} {g : En → SR} {n : Nat} {D0 : Ends} (h2 : DSt G (fun c x _ H => E c x H) ts g) (hnx : D0.nx = fun _ H => Q .non H) (hrt : D0.rt = Q)
    (h : spF G (fnD n N.length g) vs H Q E) : ts D0 (L2.start N vs) H := by
  obtain ⟨t, ds, st, rfl, k, i, p⟩ := h
  obtain ⟨hl, p⟩ := RPost.cond _ _ p
  refine h2 t t _ _ st (start_ok k i) k _ ?_
  cases q : g ⟨startE N.length ds, st⟩ with
  | nx e => rw [q] at p; exact fun t' σ' s' E' k' => by rw [hnx]; exact p t' .non E'.gr k' .non
  | rt m d st1 => rw [q] at p; exact fun t' v s' g' k' o => by rw [hrt]; exact p t' v g' k' o
  | bk e => rw [q] at p; exact p.elim
  | ct e => rw [q] at p; exact p.elim
  | exc c l e => rw [q] at p; exact fun t' σ' x s' E' k' o => p t' x E'.gr k' o
  | bad => rw [q] at p; exact p.elim
theorem sp_len {n N : Nat} {g : En → SR} {vs : List V} {H : Hp} {Q : VK} {E : XK} (h : spF G (fnD n N g) vs H Q E) : vs.length = n := by
  obtain ⟨t, ds, st, rfl, k, i, p⟩ := h
  unfold fnD at p
  split at p
  · rename_i hl; rw [i.len]; exact hl
  · exact p.elim
theorem fn_ok {P : Program} {w : World} {K : PySem.W.Frag} {mg : Str → Option Value} {base : Heap} {x qual : Str} {st : Stmt} {f : Addr} {fd : FuncData} {N ps : List Str} {k : Nat} {g : En → SR} {n : Nat} (hn : ps.length = n) {m : Nat} (hm : N.length = m)
    (F : Fun K x qual st f fd) (S : FnScope N ps (defScope st))
    (hbody : ∀ (cdv : Value) (A : Around) (outer : List Env) (s : Shared) (H : Hp) (E : XK), Room k (A.deeper (envOfC qual (defScope st) s.heap.objs.size f cdv)) →
      ∃ t, PSs (cxOf (L2.CX P w) P w K mg base N qual (defScope st) f cdv A outer s H E) (defBody st) t ∧ DSt G (fun c x _ H => E c x H) t g) : FnOk P w K mg base (L2.CX P w) (k + 1) f fd ps (spF G (fnD n m g)) := by
  subst hn hm
  refine F.okX S (fun vs H Q E h => sp_len h) fun cdv A outer s H vs Q E hr h => ?_
  obtain ⟨t, h1, h2⟩ := hbody cdv A outer s H E hr
  exact ⟨t, h1, body_ok h2 rfl rfl h⟩
end
end Dn
namespace Dn
open PySem PySem.Spec PyProof.Rows L2
def pickL {α : Type} (idx : List Nat) (l : List α) : List α := idx.filterMap fun k => l[k]?
structure CallB (K : PySem.W.Frag) (fd : FuncData) (ps : List Str) (n : Nat) (ks : List Str) (idx : List Nat) (dvs : List V) : Prop where
  ex : ∃ its : List Value, Vals dvs its ∧ ∀ (s : Shared) (us ws : List Value), K.In s.heap → us.length = n → ws.length = ks.length → BindsTo s fd ⟨us, ks.zip ws⟩ (ps.zip (pickL idx (us ++ ws ++ its)))
theorem vals_pick {vs : List V} {us : List Value} (h : Vals vs us) : ∀ idx : List Nat, Vals (pickL idx vs) (pickL idx us)
  | [] => .nil
  | k :: idx => by
    have ih := vals_pick h idx
    unfold pickL at ih ⊢
    rw [List.filterMap_cons, List.filterMap_cons]
    cases q : vs[k]? with
    | none => rw [h.none_of q]; exact ih
    | some v => obtain ⟨u, h1, h2⟩ := h.get q; rw [h1]; exact .cons h2 ih
theorem isL_pick {G : Gm} {as : List Addr} {H : Hp} {vs : List V} {ds : List D} (h : IsL G as H vs ds) : ∀ idx : List Nat, IsL G as H (pickL idx vs) (pickL idx ds)
  | [] => .nil
  | k :: idx => by
    have ih := isL_pick h idx
    unfold pickL at ih ⊢
    rw [List.filterMap_cons, List.filterMap_cons]
    cases q : ds[k]? with
    | none =>
      have : vs[k]? = none := by
        rw [List.getElem?_eq_none_iff] at q ⊢
        rw [h.len]; exact q
      rw [this]; exact ih
    | some d => obtain ⟨u, h1, h2⟩ := h.get q; rw [h1]; exact .cons h2 ih
def toV : D → V
  | .bl b => .bl b
  | .int i => .int i
  | .str x => .str x
  | _ => .non
theorem is_toV {G : Gm} {as : List Addr} {H : Hp} {d : D} (h : flat d = true) : Is G as H (toV d) d := by
  cases d <;> first | exact .non | exact .bl _ | exact .int _ | exact .str _ | cases h
theorem isL_toV {G : Gm} {as : List Addr} {H : Hp} : ∀ {ds : List D}, ds.all flat = true → IsL G as H (ds.map toV) ds
  | [], _ => .nil
  | d :: ds, h => by
    have h' : flat d = true ∧ ds.all flat = true := by simpa using h
    exact .cons (is_toV h'.1) (isL_toV h'.2)
section
variable {X : Cx} {CX : CXT} {k n : Nat} {f : Addr} {fd : FuncData} {ps ks : List Str} {idx : List Nat} {dvs : List V} {sp : Sp} {E : L2.St → XK} {x : Str} {p pos : Pos} {e : Expr} {es : List Expr} {kws : List Keyword} {t tk : TA}
theorem run_fnG {pins : List (Addr × Obj)} {σ : L2.St} {H : Hp} {s : Shared} {Q : VK} {us ws : List Value} {vs zs : List V} (F : FnOk X.prog X.w X.K X.mg X.base CX k f fd ps sp) (hr : Room k X.A) (hb : CallB X.K fd ps n ks idx dvs) (hx : PassesAt CX X σ (E σ))
    (I : Inv X pins σ H s) (r : Vals vs us) (rz : Vals zs ws) (l1 : vs.length = n) (l2 : zs.length = ks.length) (h : sp (pickL idx (vs ++ zs ++ dvs)) H Q (E σ)) : wpAny (model X.prog X.w) X.A (call (.ref f) us (ks.zip ws)) (EP X pins σ Q) X.xe s := by
  obtain ⟨its, rd, hb⟩ := hb.ex
  refine wpAny_call (codeAny_mono (F.run X.A X.stack s H ⟨us, ks.zip ws⟩ (pickL idx (us ++ ws ++ its)) (pickL idx (vs ++ zs ++ dvs)) Q (E σ) hr I.env0 (hb s us ws I.kIn (r.length.symm.trans l1) (rz.length.symm.trans l2)) (vals_pick ((r.append rz).append rd) idx) h) fun r s' hq => ?_)
  cases r with
  | error e => exact hx pins H s e s' I hq
  | ok fl =>
    cases fl with
    | ret u => exact I.after hq
    | next => exact False.elim hq
    | brk => exact False.elim hq
    | cont => exact False.elim hq
end
end Dn
namespace Dn
open PySem PySem.Spec PyProof.Rows L2
section
variable {G : Gm} {W : WX}
def dCallG (F : List D → Sto → ER) (n m : Nat) (idx : List Nat) (dd : List D) (f g : En → AR) : En → ER := fun E => match f E with
  | .ok true l st => (match g ⟨E.e, st⟩ with
    | .ok true z st1 => if l.length = n ∧ z.length = m then F (pickL idx (l ++ z ++ dd)) st1 else .bad
    | .exc c l st => .exc c l st
    | _ => .bad)
  | .exc c l st => .exc c l st
  | _ => .bad
def tyN : D → String
  | .non => "NoneType"
  | .bl _ => "bool"
  | .int _ => "int"
  | .str _ => "str"
  | .tup _ => "tuple"
  | .lst _ => "list"
  | .scr _ => "list"
  | .obj _ _ => "object"
  | .ptr _ => "object"
def isT (T : String) : D → Sto → ER
  | .obj _ _, _ => .bad
  | .scr _, _ => .bad
  | .ptr _, _ => .bad
  | d, st => ofOpt (kitB (tyN d) T) fun b => .val .P (.bl b) st
def plainT : D → Prop
  | .obj _ _ => False
  | .scr _ => False
  | .ptr _ => False
  | _ => True
theorem tyX_of {t : Hs} {v : V} {d : D} (s : Same t.f t.h) (h : U G t v d) (hd : plainT d) : TyX G.K t.h v (.type (tyN d)) := by
  cases d with
  | non => obtain rfl := h.non; exact .base .non
  | bl b => obtain rfl := h.bl; exact .base (.bl b)
  | int i => obtain rfl := h.int; exact .base (.int i)
  | str x => obtain rfl := h.str; exact .base (.str x)
  | tup l =>
    obtain ⟨p, vs, rfl, a, b⟩ := h.tup s
    rcases a with (a | ⟨o, a⟩) | ⟨o, its, n, hk, hc, _⟩
    · exact .base (.tup a)
    · exact .fTuple a
    · exact .kTuple hk hc
  | lst l => obtain ⟨p, vs, rfl, a, b⟩ := h.lst s; exact .base (.lst a)
  | obj c l => exact hd.elim
  | scr a => exact hd.elim
  | ptr n => exact hd.elim
def dIsi (T : String) (f : En → ER) : En → ER := fun E => (f E).bind (isT T)
theorem v_isi {T : String} {te : TE} {f : En → ER} (h : DEv G W te f) : DEv G W (tCB (rIsi G.K) (tCons te (tCons (tC (.ty T)) tNil))) (dIsi T f) := by
  intro s t σ e st E k Q post
  refine h s t σ e st E k _ (RPost.bind post fun m d st1 t1 v g1 k1 o1 p1 => ?_)
  have key : ∀ (hd : plainT d) (p1 : RPost G W t1 σ Q (ofOpt (kitB (tyN d) T) fun b => .val .P (.bl b) st1)), rIsi G.K [v, .ty T] t1.h Q := fun hd p1 => by
    obtain ⟨b, hb, p1⟩ := RPost.opt _ _ p1
    exact ⟨v, .ty T, _, _, b, rfl, .ty T, tyX_of k1.sf o1.u hd, kit_ty hb, p1.now k1 (.bl _)⟩
  cases d <;> first | exact key trivial p1 | exact p1.elim
def clr (e : DE) : DE := e.map fun s => match s with | .exn => .emp | .clo _ => .emp | s => s
theorem SlotOk.ea {s t : Hs} {o : Option V} {sl : SL} (x : Addr) (h : SlotOk G s t o sl) (hs : sl ≠ .exn ∧ ∀ ds, sl ≠ .clo ds) : SlotOk (G.at_ x) s t o sl := by
  cases sl with
  | emp => trivial
  | exn => exact absurd rfl hs.1
  | clo ds => exact absurd rfl (hs.2 ds)
  | val d => obtain ⟨v, a, b⟩ := h; exact ⟨v, a, b.ea x⟩
  | own l => obtain ⟨p, vs, a, b, c, d, e, f⟩ := h; exact ⟨p, vs, a, b, c, d, e.ea x, f⟩
theorem clr_get {e : DE} {i : Nat} {s : SL} (h : (clr e)[i]? = some s) : (s ≠ .exn ∧ ∀ ds, s ≠ .clo ds) ∧ (s = .emp ∨ e[i]? = some s) := by
  unfold clr at h
  rw [List.getElem?_map] at h
  cases q : e[i]? with
  | none => rw [q] at h; cases h
  | some s' =>
    rw [q] at h
    cases s' <;> cases h <;> first | exact ⟨⟨(fun z => nomatch z), fun _ z => nomatch z⟩, .inl rfl⟩ | exact ⟨⟨(fun z => nomatch z), fun _ z => nomatch z⟩, .inr rfl⟩
theorem EnvOk.ea {s t : Hs} {σ : L2.St} {e : DE} (x : Addr) (E : EnvOk G s t σ e) : EnvOk (G.at_ x) s t σ (clr e) := by
  refine ⟨E.gr, by rw [E.len]; simp [clr], fun i o s a b => ?_, fun i j p l m hij a b c d => ?_⟩
  · obtain ⟨h1, h2 | h2⟩ := clr_get b
    · subst h2; trivial
    · exact (E.at_ i o s a h2).ea x h1
  · obtain ⟨_, h2 | h2⟩ := clr_get b
    · cases h2
    · obtain ⟨_, h3 | h3⟩ := clr_get d
      · cases h3
      · exact E.dis i j p l m hij a h2 c h3
theorem ObOk.ea {s : Hs} {a : Addr} {o : Ob} (x : Addr) (h : ObOk G s a o) : ObOk (G.at_ x) s a o := by
  cases o with
  | lst l => obtain ⟨vs, h1, h2⟩ := h; exact ⟨vs, h1, h2.ea x⟩
  | ins c l => obtain ⟨dx, vs, h1, h2, h3⟩ := h; exact ⟨dx, vs, h1, h2, h3.ea x⟩
  | tbl q => exact h
  | dct l => obtain ⟨kvs, h1, h2⟩ := h; exact ⟨kvs, h1, h2.ea x⟩
theorem StOk.ea {s : Hs} {st : Sto} (x : Addr) (k : StOk G s st) : StOk (G.at_ x) s st := ⟨k.sf, k.len, k.nd, fun n a o h1 h2 => (k.ob n a o h1 h2).ea x, k.nf, k.tb, fun da h => by
  obtain ⟨xs, h1, h2, h3⟩ := k.ex da h
  exact ⟨xs, h1, h2, h3.ea x⟩⟩
def sTryAs (i : Nat) (catch? : Nat → Option Bool) (g : En → SR) (h : Nat → List D → En → SR) : En → SR := fun E => match g E with
  | .exc c l E1 => (match catch? c with
    | some true => (match h c l ⟨(clr E1.e).set i .exn, E1.st⟩ with
      | .nx E2 => .nx ⟨(clr E2.e).set i .emp, E2.st⟩
      | .bk E2 => .bk ⟨(clr E2.e).set i .emp, E2.st⟩
      | .ct E2 => .ct ⟨(clr E2.e).set i .emp, E2.st⟩
      | .rt m d st => .rt m d st
      | _ => .bad)
    | some false => .exc c l E1
    | none => .bad)
  | r => r
theorem VOk.ea {s t : Hs} {m : Md} {v : V} {d : D} (x : Addr) (h : VOk G s t m v d) : VOk (G.at_ x) s t m v d := by
  cases m with
  | P => exact Is.ea x _ h
  | B => obtain ⟨p, vs, l, a, b, c, e, f⟩ := h; exact ⟨p, vs, l, a, b, c, e.ea x, f⟩
  | N => obtain ⟨p, vs, l, a, b, c, e, f, n, z⟩ := h; exact ⟨p, vs, l, a, b, c, e.ea x, f, n, z⟩
def dIsE (i : Nat) (b : Option Bool) : En → ER := fun E => match E.e[i]? with
  | some .exn => ofOpt b fun b => .val .P (.bl b) E.st
  | _ => .bad
end
theorem callB_n {K : PySem.W.Frag} {fd : FuncData} {ps ks : List Str} {n : Nat} {idx : List Nat} (h : ∀ (us ws : List Value), us.length = n → ws.length = ks.length → bindArgs fd ⟨us, ks.zip ws⟩ = pure (ps.zip (pickL idx (us ++ ws ++ [])))) : CallB K fd ps n ks idx [] :=
  ⟨[], .nil, fun s us ws X l1 l2 => .of_eq (h us ws l1 l2)⟩
def nilOnly (l : List D) (g : En → SR) : En → SR := fun e => match l with
  | [] => g e
  | _ => .bad
def spLaw (K : PySem.W.Frag) : Sp := fun vs H Q _ => ∃ (a : Addr) (ns : List Int), vs = [.ref a] ∧ SqL K H a (ns.map V.int) ∧ ns.length ≤ 63 ∧ (∀ z ∈ ns, Builtin.Int.intBits z ≤ 1048576) ∧ ∀ H', Q (.bl true) H'
def Yes (r : ER) : Prop := ∃ st, r = .val .P (.bl true) st
theorem law_imp {G : Gm} {F : List D → Sto → ER} (hG : G.tb = []) (hF : ∀ ns : List Int, ns.length ≤ 63 → (∀ z ∈ ns, Builtin.Int.intBits z ≤ 1048576) → Yes (F [.scr ns] [])) (vs : List V) (H : Hp) (Q : VK) (E : XK) (h : spLaw G.K vs H Q E) (hE : G.ed = none := by rfl) : spF G F vs H Q E := by
  obtain ⟨a, ns, rfl, hS, h1, h2, k⟩ := h
  obtain ⟨st, hF⟩ := hF ns h1 h2
  refine ⟨⟨[], H, H⟩, [.scr ns], [], rfl, ⟨Same.refl _, rfl, List.nodup_nil, fun n a o h => by simp at h, fun x m => by simp at m, fun n P h => by rw [hG] at h; simp at h, fun da h => by rw [hE] at h; cases h⟩, .cons (.scr hS) .nil, ?_⟩
  rw [hF]
  intro t v g k' o
  cases o
  exact k t.h
end Dn
namespace Dn
open PySem PySem.Spec PyProof.Rows L2
section
variable {G : Gm} {W : WX}
def DMt (G : Gm) (r : V → List V → Hp → VK → Prop) (op : List D → List D → Option (D × List D)) : Prop :=
  ∀ (s : Hs) (p : Addr) (vs : List V) (l : List D) (xs : List V) (ds : List D) (o : D × List D), s.h p = some (.lst vs) → IsL G s.as s.f vs l → IsL G s.as s.f xs ds → op l ds = some o → Same s.f s.h →
    ∃ v vs', Is G s.as s.f v o.1 ∧ IsL G s.as s.f vs' o.2 ∧ ∀ Q : VK, Q v (upd s.h p (.lst vs')) → r (.ref p) xs s.h Q
def mAppend (l ds : List D) : Option (D × List D) := match ds with
  | [d] => if l.length < 1000000 then some (.non, l ++ [d]) else none
  | _ => none
def mInsert (l ds : List D) : Option (D × List D) := match ds with
  | [.int i, d] => if l.length < 1000000 ∧ 0 ≤ i ∧ i < 2 ^ 63 then some (.non, l.take i.toNat ++ [d] ++ l.drop i.toNat) else none
  | _ => none
def mPop (l ds : List D) : Option (D × List D) := match ds with
  | [] => (match l[l.length - 1]? with | some d => some (d, l.dropLast) | none => none)
  | _ => none
def mPopAt (l ds : List D) : Option (D × List D) := match ds with
  | [.int i] => if -(2 ^ 63) ≤ i ∧ i < 2 ^ 63 then (match seqIndex? i l.length with
    | some k => (match l[k]? with | some d => some (d, l.eraseIdx k) | none => none)
    | none => none) else none
  | _ => none
def mReverse (l ds : List D) : Option (D × List D) := match ds with
  | [] => some (.non, l.reverse)
  | _ => none
theorem m_append : DMt G rAppend mAppend := by
  intro s p vs l xs ds o hp il ix ho _sf
  unfold mAppend at ho
  split at ho
  · rename_i d
    split at ho
    · rename_i hl
      cases ho
      cases ix with
      | cons a b => cases b; exact ⟨.non, _, .non, il.append (.one a), fun Q q => ⟨p, vs, _, rfl, rfl, hp, by rw [il.len]; exact szlt hl, q⟩⟩
    · cases ho
  · cases ho
theorem IsL.dropLast {as : List Addr} {H : Hp} {ds : List D} {vs : List V} (h : IsL G as H vs ds) : IsL G as H vs.dropLast ds.dropLast := by
  rw [List.dropLast_eq_take, List.dropLast_eq_take, h.len]
  exact h.take _
theorem m_popAt : DMt G rPopAt mPopAt := by
  intro s p vs l xs ds o hp il ix ho _sf
  unfold mPopAt at ho
  split at ho
  · rename_i i
    split at ho
    · rename_i hi
      split at ho
      · rename_i k hk
        split at ho
        · rename_i d hd
          cases ho
          cases ix with
          | cons a b =>
            cases b
            cases a
            obtain ⟨v, h1, h2⟩ := il.get hd
            exact ⟨v, _, h2, il.eraseIdx k, fun Q q => ⟨p, vs, i, k, v, rfl, rfl, hp, hi.1, hi.2, by rw [il.len]; exact hk, h1, q⟩⟩
        · cases ho
      · cases ho
    · cases ho
  · cases ho
def dMtP (op : List D → List D → Option (D × List D)) (fb : En → ER) (fa : En → AR) : En → ER := fun E => match fb E with
  | .val _ (.ptr n) st => (match stLst st n with
    | some _ => (match fa ⟨E.e, st⟩ with
      | .ok true ds st1 => (match stLst st1 n with
        | some l => (match op l ds with | some o => .val .P o.1 (st1.set n (.lst o.2)) | none => .bad)
        | none => .bad)
      | .exc c l st => .exc c l st
      | _ => .bad)
    | none => .bad)
  | .exc c l st => .exc c l st
  | _ => .bad
theorem mt_end {r : V → List V → Hp → VK → Prop} {op : List D → List D → Option (D × List D)} (hm : DMt G r op) {t : Hs} {st : Sto} {n : Nat} {p : Addr} {xs : List V} {ds l : List D} {o : D × List D} (k : StOk G t st) (hp : t.as[n]? = some p) (hl : stLst st n = some l) (ix : IsL G t.as t.f xs ds) (ho : op l ds = some o) {σ : L2.St} {Q : VK}
    (post : RPost G W t σ Q (.val .P o.1 (st.set n (.lst o.2)))) : r (.ref p) xs t.h Q := by
  obtain ⟨vs, hh, il⟩ := k.lst hp hl
  obtain ⟨v, vs', h1, h2, h3⟩ := hm t p vs l xs ds o hh il ix ho k.sf
  exact h3 Q (post ⟨t.as, t.f, upd t.h p (.lst vs')⟩ v (Gro.mod (Gro.refl k) k hp) (k.mod hp ⟨vs', upd_same, h2⟩) h1)
theorem v_mtP {r : V → List V → Hp → VK → Prop} {op : List D → List D → Option (D × List D)} {tb : TE} {ta : TA} {fb : En → ER} {fa : En → AR} (hm : DMt G r op) (hb : DEv G W tb fb) (ha : DAr G W ta fa) : DEv G W (tBM G.K "list" r tb ta) (dMtP op fb fa) := by
  intro s t σ e st E k Q post
  unfold dMtP at post
  refine hb s t σ e st E k _ ?_
  cases q : fb ⟨e, st⟩ with
  | val m d st1 =>
    rw [q] at post
    cases d <;> first | exact post.elim | skip
    rename_i n
    cases hl : stLst st1 n with
    | none => simp only [hl] at post; exact post.elim
    | some l0 =>
      simp only [hl] at post
      intro t1 v g1 k1 o1
      obtain ⟨p, rfl, hp⟩ := o1.u.ptr
      obtain ⟨vs, hh, _⟩ := k1.lst hp hl
      refine ⟨.inl ⟨rfl, vs, SqL.of hh⟩, ha s t1 σ e st1 (E.up g1) k1 _ ?_⟩
      cases q2 : fa ⟨e, st1⟩ with
      | ok b ds st2 =>
        rw [q2] at post
        cases b with
        | false => exact post.elim
        | true =>
          intro t2 xs g2 k2 i2 _
          cases hl2 : stLst st2 n with
          | none => simp only [hl2] at post; exact post.elim
          | some l =>
            simp only [hl2] at post
            cases ho : op l ds with
            | none => simp only [ho] at post; exact post.elim
            | some o =>
              simp only [ho] at post
              exact mt_end hm k2 (g2.a n p hp) hl2 (i2 rfl) ho (RPost.step (g1.trans g2) k2 post)
      | exc c l st2 => rw [q2] at post; exact fun t' x g' => post t' x (g1.trans g')
      | bad => rw [q2] at post; exact post
  | exc c l st1 => rw [q] at post; exact post
  | bad => rw [q] at post; exact post
def putAt (j : Option Nat) (d : D) (e : DE) : DE := match j with
  | some j => e.set j (.val d)
  | none => e
def sMtO (j : Option Nat) (op : List D → List D → Option (D × List D)) (i : Nat) (fa : En → AR) : En → SR := fun E => match E.e[i]? with
  | some (.own l) => (match fa E with
    | .ok true ds st1 => (match op l ds with | some o => .nx ⟨putAt j o.1 (E.e.set i (.own o.2)), st1⟩ | none => .bad)
    | .exc c l st => .exc c l ⟨E.e, st⟩
    | _ => .bad)
  | _ => .bad
theorem mtO_run {r : V → List V → Hp → VK → Prop} {op : List D → List D → Option (D × List D)} {ta : TA} {fa : En → AR} {i : Nat} (hm : DMt G r op) (ha : DAr G W ta fa) {s t : Hs} {σ : L2.St} {e : DE} {st : Sto} {l : List D} (E : EnvOk G s t σ e) (k : StOk G t st) (hx : e[i]? = some (.own l)) {N : Ends} {Q : VK} {j : Option Nat}
    (post : SPost G W s t N (match fa ⟨e, st⟩ with
      | .ok true ds st1 => (match op l ds with | some o => .nx ⟨putAt j o.1 (e.set i (.own o.2)), st1⟩ | none => .bad)
      | .exc c l st => .exc c l ⟨e, st⟩
      | _ => .bad))
    (fin : ∀ t' v d st1 l', Up t t' → EnvOk G s t' σ (e.set i (.own l')) → StOk G t' st1 → Is G t'.as t'.f v d → SPost G W s t N (.nx ⟨putAt j d (e.set i (.own l')), st1⟩) → Q v t'.h) : tBM G.K "list" r (tVar i) ta σ t.h Q := by
  obtain ⟨o, hσ, p, vs, rfl, p0, pf, ph, pl, pa⟩ := E.slot hx
  refine ⟨_, hσ, .inl ⟨rfl, vs, SqL.of ph⟩, ha s t σ e st E k _ ?_⟩
  cases q2 : fa ⟨e, st⟩ with
  | ok b ds st2 =>
    rw [q2] at post
    cases b with
    | false => exact post.elim
    | true =>
      intro t2 xs g2 k2 i2 _
      cases ho : op l ds with
      | none => simp only [ho] at post; exact post.elim
      | some o =>
        simp only [ho] at post
        have hp' : t2.h p = some (.lst vs) := g2.h _ _ ph pa
        have hf' : t2.f p = none := g2.n _ _ ph pf
        have ha' : p ∉ t2.as := fun m => (g2.w p m).elim pa fun z => by rw [ph] at z; cases z
        obtain ⟨v, vs', h1, h2, h3⟩ := hm t2 p vs l xs ds o hp' (pl.up g2.a g2.f) (i2 rfl) ho k2.sf
        exact h3 _ (fin ⟨t2.as, t2.f, upd t2.h p (.lst vs')⟩ v o.1 st2 o.2 ⟨g2.a, g2.f⟩ ((E.up g2).chg hσ hx p0 hf' h2 ha') (k2.chg hf' ha') h1 post)
  | exc c l st2 => rw [q2] at post; exact fun t' x g' k' o => post t' σ x g'.up (E.up g') k' o
  | bad => rw [q2] at post; exact post
theorem s_mtO {r : V → List V → Hp → VK → Prop} {op : List D → List D → Option (D × List D)} {ta : TA} {fa : En → AR} {i : Nat} (hm : DMt G r op) (ha : DAr G W ta fa) : DSt G W (tDrop (tBM G.K "list" r (tVar i) ta)) (sMtO none op i fa) := by
  intro s t σ e st E k N post
  unfold sMtO at post
  split at post
  · rename_i l hx
    exact mtO_run hm ha E k hx post fun t' v d st1 l' u E' k' _ p => p t' σ u E' k'
  · exact post.elim
def sMt (op : List D → List D → Option (D × List D)) (i : Nat) (fa : En → AR) : En → SR := fun E => match E.e[i]? with
  | some (.own _) => sMtO none op i fa E
  | _ => sDrop (dMtP op (dVar i) fa) E
theorem s_mt {r : V → List V → Hp → VK → Prop} {op : List D → List D → Option (D × List D)} {ta : TA} {fa : En → AR} {i : Nat} (hm : DMt G r op) (ha : DAr G W ta fa) : DSt G W (tDrop (tBM G.K "list" r (tVar i) ta)) (sMt op i fa) := by
  intro s t σ e st E k N post
  unfold sMt at post
  split at post
  · exact s_mtO hm ha s t σ e st E k N post
  · exact s_drop (v_mtP hm v_var ha) s t σ e st E k N post
def sMtA (j : Nat) (op : List D → List D → Option (D × List D)) (i : Nat) (fa : En → AR) : En → SR := fun E => match E.e[i]? with
  | some (.own _) => sMtO (some j) op i fa E
  | _ => sSetF j (dMtP op (dVar i) fa) E
end
end Dn
namespace Dn
open PySem PySem.Spec PyProof.Rows L2
def stIns (st : Sto) (n : Nat) : Option (Nat × List D) := match st[n]? with
  | some (.ins c l) => some (c, l)
  | _ => none
section
variable {G : Gm} {W : WX}
theorem StOk.ins {s : Hs} {st : Sto} {n c : Nat} {l : List D} {p : Addr} (k : StOk G s st) (ha : s.as[n]? = some p) (h : stIns st n = some (c, l)) : ∃ dx vs, s.h p = some (.ins (G.ca c) dx ((G.fn c).zip vs)) ∧ vs.length ≤ (G.fn c).length ∧ IsL G s.as s.f vs l := by
  unfold stIns at h
  split at h
  · rename_i c' l' q
    cases h
    exact k.ob n p _ ha q
  · cases h
structure FldOk (G : Gm) (f : Str) (ix : Nat → Option Nat) : Prop where
  ok : ∀ c i, ix c = some i → (G.fn c)[i]? = some f ∧ (G.fn c).Nodup ∧ (G.fn c).length < 1000 ∧ Cls G.K (G.ca c) ∧ NoAttr G.K (G.ca c) f
theorem zip_lookup {f : Str} : ∀ {ns : List Str} {vs : List V} {i : Nat} {v : V}, ns.Nodup → ns[i]? = some f → vs[i]? = some v → (ns.zip vs).lookup f = some v
  | [], _, _, _, _, h, _ => by simp at h
  | n :: ns, [], _, _, _, _, h => by simp at h
  | n :: ns, w :: vs, 0, v, _, h1, h2 => by
    simp at h1 h2
    subst h1; subst h2
    simp [List.zip_cons_cons, List.lookup]
  | n :: ns, w :: vs, i + 1, v, hn, h1, h2 => by
    have hn' := List.nodup_cons.mp hn
    have h1' : ns[i]? = some f := by simpa using h1
    have h2' : vs[i]? = some v := by simpa using h2
    have ne : f ≠ n := fun z => hn'.1 (z ▸ List.mem_of_getElem? h1')
    have : (f == n) = false := by simpa using ne
    simp only [List.zip_cons_cons, List.lookup, this]
    exact zip_lookup hn'.2 h1' h2'
theorem zip_no {f : Str} : ∀ {ns : List Str} (vs : List V), f ∉ ns → (ns.zip vs).lookup f = none
  | [], _, _ => rfl
  | n :: ns, [], _ => rfl
  | n :: ns, w :: vs, h => by
    have h' : f ≠ n ∧ f ∉ ns := by simpa using h
    have : (f == n) = false := by simpa using h'.1
    simp only [List.zip_cons_cons, List.lookup, this]
    exact zip_no vs h'.2
def putI (i : Nat) (d : D) (l : List D) : Option (List D) := if i < l.length then some (l.set i d) else if i = l.length then some (l ++ [d]) else none
theorem zip_put {f : Str} {z : V} : ∀ {ns : List Str} {vs : List V} {i : Nat}, ns.Nodup → ns[i]? = some f → i ≤ vs.length → putF f z (ns.zip vs) = ns.zip (if i < vs.length then vs.set i z else vs ++ [z])
  | [], _, _, _, h, _ => by simp at h
  | n :: ns, [], i, _, h1, h2 => by
    have : i = 0 := by simpa using h2
    subst this
    simp at h1
    subst h1
    simp [putF]
  | n :: ns, w :: vs, 0, _, h1, _ => by
    simp at h1
    subst h1
    simp [putF, List.zip_cons_cons]
  | n :: ns, w :: vs, i + 1, hn, h1, h2 => by
    have hn' := List.nodup_cons.mp hn
    have h1' : ns[i]? = some f := by simpa using h1
    have ne : n ≠ f := fun z => hn'.1 (z ▸ List.mem_of_getElem? h1')
    have ih := zip_put (z := z) hn'.2 h1' (vs := vs) (by simpa using h2)
    simp only [List.zip_cons_cons, putF, if_neg ne, ih]
    by_cases c : i < vs.length
    · simp [c]
    · simp [c]
def dFld (ix : Nat → Option Nat) (fe : En → ER) : En → ER := fun E => (fe E).bind fun x st => match x with
  | .ptr n => (match stIns st n with
    | some (c, l) => (match ix c with
      | some i => ofOpt l[i]? fun d => .val .P d st
      | none => .bad)
    | none => .bad)
  | _ => .bad
theorem v_fld {f : Str} {ix : Nat → Option Nat} {te : TE} {fe : En → ER} (hf : FldOk G f ix) (he : DEv G W te fe) : DEv G W (tFld G.K te f) (dFld ix fe) := by
  intro s t σ e st E k Q post
  refine he s t σ e st E k _ (RPost.bind post fun m d st1 t1 v g1 k1 o1 p1 => ?_)
  cases d <;> first | exact p1.elim | skip
  rename_i n
  obtain ⟨p, rfl, hp⟩ := o1.u.ptr
  cases hi : stIns st1 n with
  | none => simp only [hi] at p1; exact p1.elim
  | some cl =>
    obtain ⟨c, l⟩ := cl
    simp only [hi] at p1
    cases hx : ix c with
    | none => simp only [hx] at p1; exact p1.elim
    | some i =>
      simp only [hx] at p1
      obtain ⟨d, hd, p1⟩ := RPost.opt _ _ p1
      obtain ⟨dx, vs, hh, hl, il⟩ := k1.ins hp hi
      obtain ⟨v, h1, h2⟩ := il.get hd
      obtain ⟨fi, fnd, _, fc, fa⟩ := hf.ok c i hx
      exact ⟨p, _, dx, _, v, rfl, hh, fc, fa, zip_lookup fnd fi h1, p1.now k1 h2⟩
def sFldS (ix : Nat → Option Nat) (fo fe : En → ER) : En → SR := fun E => match fe E with
  | .val .B _ _ => .bad
  | .val _ d st => (match fo ⟨E.e, st⟩ with
    | .val _ (.ptr n) st1 => (match stIns st1 n with
      | some (c, l) => (match ix c with
        | some i => (match putI i d l with
          | some l' => .nx ⟨E.e, st1.set n (.ins c l')⟩
          | none => .bad)
        | none => .bad)
      | none => .bad)
    | .exc c l st => .exc c l ⟨E.e, st⟩
    | _ => .bad)
  | .exc c l st => .exc c l ⟨E.e, st⟩
  | .bad => .bad
theorem s_fldS {f : Str} {ix : Nat → Option Nat} {to te : TE} {fo fe : En → ER} (hf : FldOk G f ix) (ho : DEv G W to fo) (he : DEv G W te fe) : DSt G W (sFld G.K to te f) (sFldS ix fo fe) := by
  intro s t σ e st E k N post
  unfold sFldS at post
  refine ev_st (N := N) he E k (fun c l st1 q => by rw [q] at post; exact post) (fun q => by rw [q] at post; exact post) fun m d st1 q t1 v g1 k1 o1 => ?_
  rw [q] at post
  have fin : ∀ f2, Gro t ⟨t1.as, f2, t1.h⟩ → StOk G ⟨t1.as, f2, t1.h⟩ st1 → Is G t1.as f2 v d → SPost G W s t N (match fo ⟨e, st1⟩ with
    | .val _ (.ptr n) st1 => (match stIns st1 n with
      | some (c, l) => (match ix c with
        | some i => (match putI i d l with
          | some l' => .nx ⟨e, st1.set n (.ins c l')⟩
          | none => .bad)
        | none => .bad)
      | none => .bad)
    | .exc c l st => .exc c l ⟨e, st⟩
    | _ => .bad) → to σ t1.h fun x H2 => ∃ a C dx fs, x = .ref a ∧ H2 a = some (.ins C dx fs) ∧ Cls G.K C ∧ NoAttr G.K C f ∧ fs.length < 1000 ∧ N.nx σ (upd H2 a (.ins C dx (putF f v fs))) := fun f2 g2 k2 i2 post => by
    refine ev_st (N := N) ho (E.up g2) k2 (fun c l st3 q3 => ?_) (fun q3 => ?_) fun mb db st3 q3 t3 b g3 k3 o3 => ?_
    · rw [q3] at post; exact SPost.mono g2.up post
    · rw [q3] at post; exact post
    · rw [q3] at post
      cases db <;> try exact post.elim
      rename_i n
      obtain ⟨p, rfl, hp⟩ := o3.u.ptr
      have g23 := g2.trans g3
      cases hi : stIns st3 n with
      | none => simp only [hi] at post; exact post.elim
      | some cl =>
        obtain ⟨c, l⟩ := cl
        simp only [hi] at post
        cases hx : ix c with
        | none => simp only [hx] at post; exact post.elim
        | some i =>
          simp only [hx] at post
          cases hu : putI i d l with
          | none => simp only [hu] at post; exact post.elim
          | some l' =>
            simp only [hu] at post
            obtain ⟨dx, vs, hh, hl, il⟩ := k3.ins hp hi
            obtain ⟨fi, fnd, flen, fc, fa⟩ := hf.ok c i hx
            have ile := il.len
            have hik : i ≤ vs.length := by
              rw [ile]
              unfold putI at hu
              split at hu
              · omega
              · split at hu
                · omega
                · cases hu
            refine ⟨p, _, dx, _, rfl, hh, fc, fa, by rw [List.length_zip]; omega, ?_⟩
            rw [zip_put fnd fi hik]
            have iv := i2.up g3.a g3.f
            have il' : IsL G t3.as t3.f (if i < vs.length then vs.set i v else vs ++ [v]) l' := by
              unfold putI at hu
              rw [ile]
              split at hu
              · rename_i c1
                cases hu
                rw [if_pos c1]; exact il.set iv i
              · rename_i c1
                split at hu
                · cases hu; rw [if_neg c1]; exact il.append (.one iv)
                · cases hu
            have hlen : (if i < vs.length then vs.set i v else vs ++ [v]).length ≤ (G.fn c).length := by
              have : i < (G.fn c).length := (List.getElem?_eq_some_iff.mp fi).1
              split
              · simpa using hl
              · simp; omega
            exact post ⟨t3.as, t3.f, upd t3.h p (.ins (G.ca c) dx ((G.fn c).zip _))⟩ σ ⟨g23.a, g23.f⟩ ((E.up g23).modS k3 hp) (k3.mod hp ⟨dx, _, upd_same, hlen, il'⟩)
  cases m with
  | P => exact fin t1.f g1 k1 o1 post
  | B => exact post.elim
  | N =>
    obtain ⟨f2, g2, k2, _, i2⟩ := o1.freeze g1 k1 (by decide)
    exact fin f2 g2 k2 i2 post
end
def tMethG (C : Addr) (m : Str) (n r : Nat) (idx : List Nat) (dvs : List V) (sp : Sp) (E : L2.St → XK) (ta : TE) (t tk : TA) : TE := fun σ H Q => ta σ H fun x H1 => ∃ a dx fs, x = .ref a ∧ H1 a = some (.ins C dx fs) ∧ fs.lookup m = none ∧
  t σ H1 fun vs H2 => tk σ H2 fun zs H3 => (x :: vs).length = n ∧ zs.length = r ∧ sp (pickL idx ((x :: vs) ++ zs ++ dvs)) H3 Q (E σ)
section
variable {X : Cx} {CX : CXT} {k n : Nat} {f C : Addr} {fd : FuncData} {ps ks : List Str} {idx : List Nat} {dvs : List V} {sp : Sp} {E : L2.St → XK} {x m : Str} {p pos apos : Pos} {o e : Expr} {es : List Expr} {kws : List Keyword} {ta : TE} {t tk : TA}
theorem pe_mN {pl : Sem Bool} (he : PE X o ta) (c : Cls X.K C) (hm : Meth X.K C m f) (F : FnOk X.prog X.w X.K X.mg X.base CX k f fd ps sp) (hr : Room k X.A) (hb : CallB X.K fd ps n [] idx dvs) (hx : ∀ σ, PassesAt CX X σ (E σ)) (ha : PA X (e :: es) t)
    (hst : starEach (e :: es) X.env = (false, eval e X.env) :: starEach es X.env := by rfl) (hpl : (backTo pos (starEach es X.env)).any (·.1) = false := by rfl)
    (ht : eval (.Call (.Attribute o m apos) (e :: es) [] pos) X.env = (do
      let ov ← eval o X.env
      standAt apos.atName
      let (f, first) ← holding [ov] (getMethod ov m pl)
      callWith pos f first (backTo pos (starEach (e :: es) X.env)) (backToKw pos (keywordEach [] X.env))) := by rfl) :
    PE X (.Call (.Attribute o m apos) (e :: es) [] pos) (tMethG C m n 0 idx dvs sp E ta t tNil) := by
  refine ⟨fun pins s σ H Q I h => ?_⟩
  refine PySem.W.methodCall_KW (pl := pl) (thn (he.run pins s σ H _ I h) fun u s1 ⟨x, H1, I1, rx, a, dx, fs, ex, ea, l, q⟩ => ?_) ht
  subst ex
  obtain rfl : u = Value.ref a := rx
  refine getmeth_ok I1 ea c hm l ?_
  refine PySem.W.callWith_K (first := [.ref a]) (h₀ := X.base) I.ok.mod.kin hm.kp (thn (ha.run pos pins s1 σ H1 _ I1 q) fun us s2 ⟨vs, H2, I2, r, l1, l2, q2⟩ => ⟨I2.kIn, ?_⟩) hst hpl
  exact run_fnG (us := .ref a :: us) (vs := .ref a :: vs) (ks := []) (ws := []) (zs := []) F hr hb (hx σ) I2 (.cons rfl r) .nil l1 rfl q2
theorem pe_m0 {pl : Sem Bool} (he : PE X o ta) (c : Cls X.K C) (hm : Meth X.K C m f) (F : FnOk X.prog X.w X.K X.mg X.base CX k f fd ps sp) (hr : Room k X.A) (hb : CallB X.K fd ps n [] idx dvs) (hx : ∀ σ, PassesAt CX X σ (E σ))
    (ht : eval (.Call (.Attribute o m apos) [] [] pos) X.env = (do
      let ov ← eval o X.env
      standAt apos.atName
      let (f, first) ← holding [ov] (getMethod ov m pl)
      callWith pos f first (backTo pos (starEach [] X.env)) (backToKw pos (keywordEach [] X.env))) := by rfl) :
    PE X (.Call (.Attribute o m apos) [] [] pos) (tMethG C m n 0 idx dvs sp E ta tNil tNil) := by
  refine ⟨fun pins s σ H Q I h => ?_⟩
  refine PySem.W.methodCall_KW (pl := pl) (thn (he.run pins s σ H _ I h) fun u s1 ⟨x, H1, I1, rx, a, dx, fs, ex, ea, l, q⟩ => ?_) ht
  subst ex
  obtain rfl : u = Value.ref a := rx
  refine getmeth_ok I1 ea c hm l ?_
  obtain ⟨l1, l2, q⟩ := q
  exact PySem.W.callWith_K0 (first := [.ref a]) I1.kIn hm.kp (run_fnG (us := [.ref a]) (vs := [.ref a]) (ks := []) (ws := []) (zs := []) F hr hb (hx σ) I1 (.cons rfl .nil) .nil l1 rfl q)
def tMakeG (C : Addr) (n r : Nat) (idx : List Nat) (dvs : List V) (sp : Sp) (E : L2.St → XK) (t tk : TA) : TE := fun σ H Q => t σ H fun vs H1 => tk σ H1 fun zs H2 => vs.length + 1 = n ∧ zs.length = r ∧ ∀ x dx, H2 x = none → H2 dx = none → dx ≠ x →
  sp (pickL idx ((.ref x :: vs) ++ zs ++ dvs)) (upd (upd H2 dx (.own x)) x (.ins C dx [])) (fun v H3 => v = .non ∧ Q (.ref x) H3) (E σ)
theorem run_makeG {pins : List (Addr × Obj)} {σ : L2.St} {H : Hp} {s : Shared} {Q : VK} {us ws : List Value} {vs zs : List V} (M : Mk X.K C f) (F : FnOk X.prog X.w X.K X.mg X.base CX k f fd ps sp) (hr : Room (k + 1) X.A) (hb : CallB X.K fd ps n ks idx dvs)
    (hx : PassesAt CX X σ (E σ)) (I : Inv X pins σ H s) (r : Vals vs us) (rz : Vals zs ws) (l1 : vs.length + 1 = n) (l2 : zs.length = ks.length)
    (h : ∀ x dx, H x = none → H dx = none → dx ≠ x → sp (pickL idx ((.ref x :: vs) ++ zs ++ dvs)) (upd (upd H dx (.own x)) x (.ins C dx [])) (fun v H2 => v = .non ∧ Q (.ref x) H2) (E σ)) :
    wpAny (model X.prog X.w) X.A (call (.ref C) us (ks.zip ws)) (EP X pins σ Q) X.xe s := by
  have hq := h (s.heap.objs.size + 1) s.heap.objs.size (I.hok.fresh (Nat.le_succ _)) (I.hok.fresh (Nat.le_refl _)) (Nat.ne_of_lt (Nat.lt_succ_self _))
  have I2 := Inv.made (C := C) I
  obtain ⟨its, rd, hb⟩ := hb.ex
  have r1 : Vals (V.ref (s.heap.objs.size + 1) :: vs) (Value.ref (s.heap.objs.size + 1) :: us) := .cons rfl r
  have l3 : (Value.ref (s.heap.objs.size + 1) :: us).length = n := by rw [← r1.length]; exact l1
  refine wpAny_call (make_map (f := f) I.kIn M.makes M.init (beq_iff_eq.mp M.fn) (codeAny_mono (F.run _ X.stack _ _ ⟨Value.ref (s.heap.objs.size + 1) :: us, ks.zip ws⟩ (pickL idx ((Value.ref (s.heap.objs.size + 1) :: us) ++ ws ++ its)) _ _ (E σ) (hr.make C us (ks.zip ws))
    (I2.env0.make C us (ks.zip ws)) (hb _ (Value.ref (s.heap.objs.size + 1) :: us) ws I2.kIn l3 (rz.length.symm.trans l2)) (vals_pick ((r1.append rz).append rd) idx) hq) fun r s' hq' => ?_))
  cases r with
  | error e => exact hx pins _ _ e s' I2 hq'
  | ok fl =>
    cases fl with
    | ret u =>
      obtain ⟨v, H', I3, rv, ev, q3⟩ := I2.after hq'
      subst ev
      exact ⟨rv, ⟨V.ref (s.heap.objs.size + 1), H', I3, rfl, q3⟩⟩
    | next => exact False.elim hq'
    | brk => exact False.elim hq'
    | cont => exact False.elim hq'
theorem pe_kN (M : Mk X.K C f) (F : FnOk X.prog X.w X.K X.mg X.base CX k f fd ps sp) (hr : Room (k + 1) X.A) (hg : Gl X x) (hm : X.mg x = some (.ref C)) (hb : CallB X.K fd ps n [] idx dvs) (hx : ∀ σ, PassesAt CX X σ (E σ))
    (ha : PA X (e :: es) t) (hdb : (x == ("__debug__" : Str)) = false := by decide) (he : starEach (e :: es) X.env = (false, eval e X.env) :: starEach es X.env := by rfl) (hpl : (backTo pos (starEach es X.env)).any (·.1) = false := by rfl) :
    PE X (.Call (.Name x p) (e :: es) [] pos) (tMakeG C n 0 idx dvs sp E t tNil) := by
  refine ⟨fun pins s σ H Q I h => ?_⟩
  refine wpAny_Call_Name_kw (ld_glob I hg hm ?_ hdb)
  refine PySem.W.callWith_K (h₀ := X.base) I.ok.mod.kin M.kp (thn (ha.run pos pins s σ H _ I h) fun us s1 ⟨vs, H1, I1, r, l1, l2, q⟩ => ⟨I1.kIn, ?_⟩) he hpl
  exact run_makeG (ks := []) (ws := []) (zs := []) M F hr hb (hx σ) I1 r .nil l1 rfl q
theorem pe_kK0 {r : Nat} (M : Mk X.K C f) (F : FnOk X.prog X.w X.K X.mg X.base CX k f fd ps sp) (hr : Room (k + 1) X.A) (hg : Gl X x) (hm : X.mg x = some (.ref C)) (hb : CallB X.K fd ps n ks idx dvs) (hx : ∀ σ, PassesAt CX X σ (E σ))
    (hkw : PK X kws tk) (hall : (backToKw pos (keywordEach kws X.env)).all (·.1.isSome) = true := by rfl) (hks : (backToKw pos (keywordEach kws X.env)).filterMap (·.1) = ks := by rfl)
    (hdb : (x == ("__debug__" : Str)) = false := by decide)
    (hpl : ((backTo pos (starEach [] X.env)).any (·.1) || (backToKw pos (keywordEach kws X.env)).any (·.1.isNone)) = false := by rfl) (hm2 : ks.length = r := by rfl) :
    PE X (.Call (.Name x p) [] kws pos) (tMakeG C n r idx dvs sp E tNil tk) := by
  subst hm2
  refine ⟨fun pins s σ H Q I h => ?_⟩
  refine wpAny_Call_Name_kw (ld_glob I hg hm ?_ hdb)
  refine PySem.W.callWith_KW0 (h₀ := X.base) I.ok.mod.kin M.kp hall (thn (hkw.run pos pins s σ H _ I h) fun ws s2 ⟨zs, H2, I2, rz, l1, l2, q2⟩ => ⟨I2.kIn, ?_⟩) hpl
  rw [hks]
  exact run_makeG (us := []) (vs := []) M F hr hb (hx σ) I2 .nil rz l1 l2 q2
theorem PE.or {X : Cx} {e : Expr} {t u : TE} (h : PE X e t) (h' : PE X e u) : PE X e (fun σ H Q => t σ H Q ∨ u σ H Q) :=
  ⟨fun pins s σ H Q I z => z.elim (fun z => h.run pins s σ H Q I z) (fun z => h'.run pins s σ H Q I z)⟩
end
section
variable {G : Gm} {W : WX}
def dMeth (c : Nat) (F : List D → Sto → ER) (n r : Nat) (idx : List Nat) (dd : List D) (fo : En → ER) (fa fk : En → AR) : En → ER := fun E => (fo E).bind fun x st => match x with
  | .ptr p => (match stIns st p with
    | some (c', _) => if c' = c then (match fa ⟨E.e, st⟩ with
      | .ok true l st1 => (match fk ⟨E.e, st1⟩ with
        | .ok true z st2 => if l.length + 1 = n ∧ z.length = r then F (pickL idx ((.ptr p :: l) ++ z ++ dd)) st2 else .bad
        | .exc c l st => .exc c l st
        | _ => .bad)
      | .exc c l st => .exc c l st
      | _ => .bad) else .bad
    | none => .bad)
  | _ => .bad
theorem v_meth {c n r : Nat} {m : Str} {F : List D → Sto → ER} {idx : List Nat} {dd : List D} {to : TE} {ta tk : TA} {fo : En → ER} {fa fk : En → AR} (hm : m ∉ G.fn c) (hd : dd.all flat = true) (ho : DEv G W to fo) (ha : DAr G W ta fa) (hk : DAr G W tk fk) : DEv G W (tMethG (G.ca c) m n r idx (dd.map toV) (spF G F) (WE W) to ta tk) (dMeth c F n r idx dd fo fa fk) := by
  intro s t σ e st E k Q post
  refine ho s t σ e st E k _ (RPost.bind post fun mo d st1 t1 v g1 k1 o1 p1 => ?_)
  cases d <;> first | exact p1.elim | skip
  rename_i p
  obtain ⟨a, rfl, hp⟩ := o1.u.ptr
  cases hi : stIns st1 p with
  | none => simp only [hi] at p1; exact p1.elim
  | some cl =>
    obtain ⟨c', l0⟩ := cl
    simp only [hi] at p1
    obtain ⟨hc, p2⟩ := RPost.cond _ _ p1
    clear p1
    have p1 := p2
    clear p2
    subst hc
    obtain ⟨dx, fs, hh, hl, il⟩ := k1.ins hp hi
    refine ⟨a, dx, _, rfl, hh, zip_no fs hm, ha s t1 σ e st1 (E.up g1) k1 _ ?_⟩
    cases q : fa ⟨e, st1⟩ with
    | ok b l st2 =>
      rw [q] at p1
      cases b with
      | false => exact p1.elim
      | true =>
        have p1 : RPost G W t1 σ Q (match fk ⟨e, st2⟩ with
          | .ok true z st2 => if l.length + 1 = n ∧ z.length = r then F (pickL idx ((.ptr p :: l) ++ z ++ dd)) st2 else .bad
          | .exc c l st => .exc c l st
          | _ => .bad) := p1
        intro t2 vs g2 k2 i2 u2
        have i2 := i2 rfl
        refine hk s t2 σ e st2 ((E.up g1).up g2) k2 _ ?_
        cases q2 : fk ⟨e, st2⟩ with
        | ok b2 z st3 =>
          rw [q2] at p1
          cases b2 with
          | false => exact p1.elim
          | true =>
            obtain ⟨hc, p1⟩ := RPost.cond (l.length + 1 = n ∧ z.length = r) (F (pickL idx ((.ptr p :: l) ++ z ++ dd)) st3) p1
            intro t3 zs g3 k3 i3 u3
            have i3 := i3 rfl
            have ip : IsL G t3.as t3.f (.ref a :: vs) (.ptr p :: l) := .cons (.ptr (g3.a _ _ (g2.a _ _ hp))) (i2.up g3.a g3.f)
            exact ⟨by rw [← hc.1]; simp [u2.len], by rw [u3.len]; exact hc.2, t3, _, st3, rfl, k3, isL_pick ((ip.append i3).append (isL_toV hd)) idx, (RPost.step (g2.trans g3) k3 p1).w (fun c x H' h => h)⟩
        | exc c l st3 => rw [q2] at p1; exact fun t' x g' => p1 t' x (g2.trans g')
        | bad => rw [q2] at p1; exact p1
    | exc c l st2 => rw [q] at p1; exact p1
    | bad => rw [q] at p1; exact p1
def isC (c : Nat) (fo : En → ER) (E : En) : Bool := match fo E with
  | .val _ (.ptr n) st => (match stIns st n with | some (c', _) => c' == c | none => false)
  | _ => false
def dAlt (p : En → Bool) (f g : En → ER) : En → ER := fun E => if p E = true then f E else g E
def dMake (c : Nat) (F : List D → Sto → ER) (n r : Nat) (idx : List Nat) (dd : List D) (fa fk : En → AR) : En → ER := fun E => match fa E with
  | .ok true l st => (match fk ⟨E.e, st⟩ with
    | .ok true z st1 => if l.length + 1 = n ∧ z.length = r then (match F (pickL idx ((.ptr st1.length :: l) ++ z ++ dd)) (st1 ++ [.ins c []]) with
      | .val _ .non st2 => .val .P (.ptr st1.length) st2
      | .exc c l st => .exc c l st
      | _ => .bad) else .bad
    | .exc c l st => .exc c l st
    | _ => .bad)
  | .exc c l st => .exc c l st
  | _ => .bad
theorem v_make {c n r : Nat} {F : List D → Sto → ER} {idx : List Nat} {dd : List D} {ta tk : TA} {fa fk : En → AR} (hd : dd.all flat = true) (ha : DAr G W ta fa) (hk : DAr G W tk fk) : DEv G W (tMakeG (G.ca c) n r idx (dd.map toV) (spF G F) (WE W) ta tk) (dMake c F n r idx dd fa fk) := by
  intro s t σ e st E k Q post
  unfold dMake at post
  refine ha s t σ e st E k _ ?_
  cases q : fa ⟨e, st⟩ with
  | ok b l st2 =>
    rw [q] at post
    cases b with
    | false => exact post.elim
    | true =>
      have post : RPost G W t σ Q (match fk ⟨e, st2⟩ with
        | .ok true z st1 => if l.length + 1 = n ∧ z.length = r then (match F (pickL idx ((.ptr st1.length :: l) ++ z ++ dd)) (st1 ++ [.ins c []]) with
          | .val _ .non st2 => .val .P (.ptr st1.length) st2
          | .exc c l st => .exc c l st
          | _ => .bad) else .bad
        | .exc c l st => .exc c l st
        | _ => .bad) := post
      intro t2 vs g2 k2 i2 u2
      have i2 := i2 rfl
      refine hk s t2 σ e st2 (E.up g2) k2 _ ?_
      cases q2 : fk ⟨e, st2⟩ with
      | ok b2 z st3 =>
        rw [q2] at post
        cases b2 with
        | false => exact post.elim
        | true =>
          obtain ⟨hc, post⟩ := RPost.cond (l.length + 1 = n ∧ z.length = r) _ post
          intro t3 zs g3 k3 i3 u3
          have i3 := i3 rfl
          refine ⟨by rw [u2.len]; exact hc.1, by rw [u3.len]; exact hc.2, fun x dx hx hdx hne => ?_⟩
          have g4 := Gro.loose (o := .own x) k3 hdx
          have k4 := k3.loose (o := .own x) hdx
          have hx4 : upd t3.h dx (.own x) x = none := by rw [upd_ne (fun z => hne z.symm)]; exact hx
          have g5 := Gro.loose (o := .ins (G.ca c) dx []) k4 hx4
          have k5 := k4.loose (o := .ins (G.ca c) dx []) hx4
          have hf5 : t3.f x = none := k3.sf.free hx
          have hx0 : t.h x = none := by
            cases qx : t.h x with
            | none => rfl
            | some o =>
              by_cases i : x ∈ t.as
              · exact absurd ((g2.trans g3).a.mem i) (k3.new hx)
              · rw [(g2.trans g3).h x o qx i] at hx; cases hx
          have g6 := ((g2.trans g3).trans (g4.trans g5)).put k5 hx0 hf5
          have k6 : StOk G ⟨t3.as ++ [x], t3.f, upd (upd t3.h dx (.own x)) x (.ins (G.ca c) dx [])⟩ (st3 ++ [.ins c []]) :=
            k5.put (o := .ins c []) hf5 (k3.new hx) ⟨dx, [], by show upd _ x _ x = _; rw [upd_same, List.zip_nil_right], Nat.zero_le _, .nil⟩
          have hpx : (t3.as ++ [x])[st3.length]? = some x := by
            rw [← k3.len, List.getElem?_append_right (Nat.le_refl _)]; simp
          have ip : IsL G (t3.as ++ [x]) t3.f (.ref x :: vs) (.ptr st3.length :: l) := .cons (.ptr hpx) ((i2.up g3.a g3.f).up (Ext.app _ _) (Same.refl _))
          refine ⟨⟨t3.as ++ [x], t3.f, upd (upd t3.h dx (.own x)) x (.ins (G.ca c) dx [])⟩, _, st3 ++ [.ins c []], rfl, k6, isL_pick ((ip.append (i3.up (Ext.app _ _) (Same.refl _))).append (isL_toV hd)) idx, ?_⟩
          cases q3 : F (pickL idx ((.ptr st3.length :: l) ++ z ++ dd)) (st3 ++ [.ins c []]) with
          | val m d st4 =>
            rw [q3] at post
            cases d <;> first | exact post.elim | skip
            intro t7 v g7 k7 o7
            obtain rfl := o7.u.non
            exact ⟨rfl, post t7 _ (g6.trans g7) k7 (.ptr (g7.a _ _ hpx))⟩
          | exc c l st4 =>
            rw [q3] at post
            exact fun t7 x7 g7 k7 o7 => post t7 x7 (g6.trans g7) k7 o7
          | bad => rw [q3] at post; exact post.elim
      | exc c l st3 => rw [q2] at post; exact fun t' x g' => post t' x (g2.trans g')
      | bad => rw [q2] at post; exact post
  | exc c l st1 => rw [q] at post; exact post
  | bad => rw [q] at post; exact post
end
end Dn
namespace Dn
open PySem PySem.Spec PyProof.Rows L2
section
variable {G : Gm} {W : WX}
def ItOkE (G : Gm) (s : Hs) (σ : L2.St) (e : DE) (vs : List Nat) (t1 : Hs) (J : It) (l : List D) : Prop := ∀ (i : Nat) (t : Hs) (st : Sto), Up t1 t → EnvOk G s t (L2.wipe σ vs) (wipeE e vs) → StOk G t st → (l.length ≤ i → J.stop i t.h) ∧
  ∀ d, l[i]? = some d → J.go i t.h ∧ ∀ x H', J.yld i t.h x H' → ∃ t', t'.h = H' ∧ Gro t t' ∧ StOk G t' st ∧ Is G t'.as t'.f x d
def IPostE (G : Gm) (W : WX) (s : Hs) (e : DE) (vs : List Nat) (t : Hs) (σ : L2.St) (R : It → Hp → Prop) : AR → Prop
  | .ok _ l st => ∀ t' J, Gro t t' → StOk G t' st → ItOkE G s σ e vs t' J l → R J t'.h
  | .exc c l st => ∀ t' x, Gro t t' → StOk G t' st → ExcOk G t' c l x → W (.ref (G.ca c)) x σ t'.h
  | .bad => False
def DItE (G : Gm) (W : WX) (vs : List Nat) (wi : TI) (f : En → AR) : Prop := ∀ s t σ e st, EnvOk G s t σ e → StOk G t st → ∀ R : It → Hp → Prop, IPostE G W s e vs t σ R (f ⟨e, st⟩) → wi σ t.h R
theorem DIt.e {vs : List Nat} {wi : TI} {f : En → AR} (h : DIt G W wi f) : DItE G W vs wi f := by
  intro s t σ e st E k R post
  refine h s t σ e st E k R ?_
  cases q : f ⟨e, st⟩ with
  | ok p l st1 => rw [q] at post; exact fun t' J g k' it => post t' J g k' fun i t2 st2 u _ k2 => it i t2 st2 u k2
  | exc c l st1 => rw [q] at post; exact post
  | bad => rw [q] at post; exact post
def dIterV (i : Nat) : En → AR := fun E => match E.e[i]? with
  | some (.own l) => .ok false l E.st
  | _ => dIter (dVar i) E
end
end Dn
namespace Dn
open PySem PySem.Spec PyProof.Rows L2
section
variable {G : Gm} {W : WX}
def boolsOf : List D → Option (List Bool)
  | [] => some []
  | .bl i :: l => (boolsOf l).map (i :: ·)
  | _ => none
theorem boolsOf_V {as : List Addr} {H : Hp} : ∀ {l : List D} {vs : List V} {ns : List Bool}, boolsOf l = some ns → IsL G as H vs l → vs = ns.map V.bl
  | [], _, _, h, i => by cases i; cases h; rfl
  | d :: l, _, ns, h, i => by
    cases i with
    | cons a b =>
      cases d <;> first | (cases h; done) | skip
      rename_i i
      have h' : (boolsOf l).map (i :: ·) = some ns := h
      cases q : boolsOf l with
      | none => rw [q] at h'; cases h'
      | some ms =>
        rw [q] at h'; cases h'
        cases a
        rw [boolsOf_V q b]; rfl
def oAll : List D → Sto → ER
  | [.lst l], st => ofOpt (boolsOf l) fun ns => .val .P (.bl (ns.all id)) st
  | _, _ => .bad
def oAny : List D → Sto → ER
  | [.lst l], st => ofOpt (boolsOf l) fun ns => .val .P (.bl (ns.any id)) st
  | _, _ => .bad
theorem c_all : DCal G (rAll G.K) oAll := by
  refine DCal.one1 (fun _ => rfl) (fun a b l _ => by cases a <;> rfl) fun W σ s st v d k hv Q post => ?_
  cases d <;> try exact post.elim
  rename_i l
  obtain ⟨p, vs, rfl, hp, hl⟩ := hv.lst k.sf
  obtain ⟨ns, h, post⟩ := RPost.opt (boolsOf l) (fun ns => .val .P (.bl (ns.all id)) st) post
  have := boolsOf_V h hl
  subst this
  exact ⟨p, ns, rfl, SqL.of hp, post.now k (.bl _)⟩
def oRev : D → Sto → ER
  | .lst l, st => .val .N (.lst l.reverse) st
  | .ptr n, st => ofOpt (stLst st n) fun l => .val .N (.lst l.reverse) st
  | _, _ => .bad
def dRev (f : En → ER) : En → ER := fun E => (f E).bind oRev
def mClear (l ds : List D) : Option (D × List D) := match ds with
  | [] => some (.non, [])
  | _ => none
def dMtX (op : List D → List D → Option (D × List D)) (fb : En → ER) (fa : En → AR) : En → ER := fun E => match fb E with
  | .val .N (.lst l) st => (match fa ⟨E.e, st⟩ with
    | .ok true ds st1 => (match op l ds with | some o => .val .P o.1 st1 | none => .bad)
    | .exc c l st => .exc c l st
    | _ => .bad)
  | _ => dMtP op fb fa E
theorem v_mtX {r : V → List V → Hp → VK → Prop} {op : List D → List D → Option (D × List D)} {tb : TE} {ta : TA} {fb : En → ER} {fa : En → AR} (hm : DMt G r op) (hb : DEv G W tb fb) (ha : DAr G W ta fa) : DEv G W (tBM G.K "list" r tb ta) (dMtX op fb fa) := by
  intro s t σ e st E k Q post
  unfold dMtX at post
  split at post
  · rename_i l st1 q
    refine hb s t σ e st E k _ ?_
    rw [q]
    intro t1 v g1 k1 o1
    obtain ⟨p, vs, l', rfl, e', c, il, na, n0, nf⟩ := o1
    cases e'
    refine ⟨.inl ⟨rfl, vs, SqL.of c⟩, ha s t1 σ e st1 (E.up g1) k1 _ ?_⟩
    cases q2 : fa ⟨e, st1⟩ with
    | ok b ds st2 =>
      rw [q2] at post
      cases b with
      | false => exact post.elim
      | true =>
        intro t2 xs g2 k2 i2 _
        cases ho : op l ds with
        | none => simp only [ho] at post; exact post.elim
        | some o =>
          simp only [ho] at post
          have hp' : t2.h p = some (.lst vs) := g2.h _ _ c na
          have hf' : t2.f p = none := g2.n _ _ c nf
          have ha' : p ∉ t2.as := fun m => (g2.w p m).elim na fun z => by rw [c] at z; cases z
          obtain ⟨v, vs', h1, h2, h3⟩ := hm t2 p vs l xs ds o hp' (il.up g2.a g2.f) (i2 rfl) ho k2.sf
          exact h3 _ (post ⟨t2.as, t2.f, upd t2.h p (.lst vs')⟩ v ((g1.trans g2).chg n0 hf') (k2.chg hf' ha') h1)
    | exc c l st2 => rw [q2] at post; exact fun t' x g' => post t' x (g1.trans g')
    | bad => rw [q2] at post; exact post
  · exact v_mtP hm hb ha s t σ e st E k Q post
end
end Dn
namespace Dn
open PySem PySem.Spec PyProof.Rows L2
theorem unit65 {k : Nat} {A : Around} (r : Room k A) : A.units + 65 < cLine := by have := r.un; omega
section
variable {G : Gm} {W : WX}
def inL (d : D) (l : List D) : Option Bool := if isPy d = true ∧ isPyL l = true ∧ SeqAt.shaped (py d) = true ∧ SeqAt.shaped (.list (pyL l)) = true then some ((pyL l).any fun z => PyData.eqv z (py d)) else none
def oIn (a b : D) (st : Sto) : ER := match b with
  | .lst l => ofOpt (inL a l) fun r => .val .P (.bl r) st
  | .ptr n => ofOpt (stLst st n) fun l => ofOpt (inL a l) fun r => .val .P (.bl r) st
  | .str z => (match a with
    | .str x => (match x.cps.toList with | [c] => .val .P (.bl (decide (c ∈ z.cps.toList))) st | _ => .bad)
    | _ => .bad)
  | _ => .bad
def oNotIn (a b : D) (st : Sto) : ER := match b with
  | .lst l => ofOpt (inL a l) fun r => .val .P (.bl (!r)) st
  | .ptr n => ofOpt (stLst st n) fun l => ofOpt (inL a l) fun r => .val .P (.bl (!r)) st
  | .str z => (match a with
    | .str x => (match x.cps.toList with | [c] => .val .P (.bl (!decide (c ∈ z.cps.toList))) st | _ => .bad)
    | _ => .bad)
  | _ => .bad
abbrev rInA (K : PySem.W.Frag) : R2 := rOr (rInD K) rInS
abbrev rNotInA (K : PySem.W.Frag) : R2 := rOr (rNotInD K) rNotInS
theorem or_in {X : Cx} (hu : X.A.units + 65 < cLine) : OpR X (compareOp .In) (rInA X.K) := opOr (op_inD hu) op_inS
theorem or_notin {X : Cx} (hu : X.A.units + 65 < cLine) : OpR X (compareOp .NotIn) (rNotInA X.K) := opOr (op_notInD hu) op_notInS
theorem one_sign {x : Str} {c : Nat} (h : x.cps.toList = [c]) : x = ⟨#[c]⟩ := by
  cases x with | mk a =>
  have h' : a.toList = [c] := h
  have : a = #[c] := by apply Array.ext'; simpa using h'
  rw [this]
theorem inL_dp {s : Hs} {v w : V} {d : D} {l : List D} {r : Bool} (sm : Same s.f s.h) (hv : U G s v d) (p : Addr) (vs : List V) (hp : s.h p = some (.lst vs)) (hl : IsL G s.as s.f vs l) (h : inL d l = some r) : Dp G.K s.h v (py d) ∧ Dp G.K s.h (.ref p) (.list (pyL l)) ∧ SeqAt.shaped (py d) = true ∧ SeqAt.shaped (.list (pyL l)) = true ∧ r = (pyL l).any fun z => PyData.eqv z (py d) := by
  unfold inL at h
  split at h
  · rename_i c
    exact ⟨dp_u sm c.1 hv, .lst (SqL.of hp) (dpL_of sm l c.2.1 hl), c.2.2.1, c.2.2.2, (Option.some.inj h).symm⟩
  · cases h
theorem d_in : DOp G (rInA G.K) oIn := by
  intro W σ s st v w d d' k hv hw Q post
  cases d' <;> try exact post.elim
  case lst l =>
    obtain ⟨r, hr, post⟩ := RPost.opt (inL d l) (fun r => .val .P (.bl r) st) post
    obtain ⟨p, vs, rfl, hp, hl⟩ := hw.lst k.sf
    obtain ⟨a, b, c, e, f⟩ := inL_dp (w := .non) k.sf hv p vs hp hl hr
    exact .inl ⟨_, _, a, b, c, e, by rw [← f]; exact post.now k (.bl _)⟩
  case ptr n =>
    obtain ⟨l, hl, post⟩ := RPost.opt (stLst st n) (fun l => ofOpt (inL d l) fun r => .val .P (.bl r) st) post
    obtain ⟨r, hr, post⟩ := RPost.opt (inL d l) (fun r => .val .P (.bl r) st) post
    obtain ⟨p, rfl, hp⟩ := hw.ptr
    obtain ⟨vs, hh, il⟩ := k.lst hp hl
    obtain ⟨a, b, c, e, f⟩ := inL_dp (w := .non) k.sf hv p vs hh il hr
    exact .inl ⟨_, _, a, b, c, e, by rw [← f]; exact post.now k (.bl _)⟩
  case str z =>
    cases d <;> try exact post.elim
    rename_i x
    obtain rfl := hv.str; obtain rfl := hw.str
    cases q : x.cps.toList with
    | nil => simp only [oIn, q] at post; exact post.elim
    | cons c l =>
      cases l with
      | nil =>
        simp only [oIn, q] at post
        have := one_sign q
        subst this
        exact .inr ⟨c, z, rfl, rfl, RPost.now k post (.bl _)⟩
      | cons b l => simp only [oIn, q] at post; exact post.elim
theorem d_notin : DOp G (rNotInA G.K) oNotIn := by
  intro W σ s st v w d d' k hv hw Q post
  cases d' <;> try exact post.elim
  case lst l =>
    obtain ⟨r, hr, post⟩ := RPost.opt (inL d l) (fun r => .val .P (.bl (!r)) st) post
    obtain ⟨p, vs, rfl, hp, hl⟩ := hw.lst k.sf
    obtain ⟨a, b, c, e, f⟩ := inL_dp (w := .non) k.sf hv p vs hp hl hr
    exact .inl ⟨_, _, a, b, c, e, by rw [← f]; exact post.now k (.bl _)⟩
  case ptr n =>
    obtain ⟨l, hl, post⟩ := RPost.opt (stLst st n) (fun l => ofOpt (inL d l) fun r => .val .P (.bl (!r)) st) post
    obtain ⟨r, hr, post⟩ := RPost.opt (inL d l) (fun r => .val .P (.bl (!r)) st) post
    obtain ⟨p, rfl, hp⟩ := hw.ptr
    obtain ⟨vs, hh, il⟩ := k.lst hp hl
    obtain ⟨a, b, c, e, f⟩ := inL_dp (w := .non) k.sf hv p vs hh il hr
    exact .inl ⟨_, _, a, b, c, e, by rw [← f]; exact post.now k (.bl _)⟩
  case str z =>
    cases d <;> try exact post.elim
    rename_i x
    obtain rfl := hv.str; obtain rfl := hw.str
    cases q : x.cps.toList with
    | nil => simp only [oNotIn, q] at post; exact post.elim
    | cons c l =>
      cases l with
      | nil =>
        simp only [oNotIn, q] at post
        have := one_sign q
        subst this
        exact .inr ⟨c, z, rfl, rfl, RPost.now k post (.bl _)⟩
      | cons b l => simp only [oNotIn, q] at post; exact post.elim
end
end Dn
namespace Dn
open PySem PySem.Spec PyProof.Rows L2
section
variable {G : Gm} {W : WX}
def srt (ns : List Int) : List Int := ns.mergeSort (fun a b => decide (a ≤ b))
theorem srt_perm (ns : List Int) : (srt ns).Perm ns := List.mergeSort_perm _ _
theorem srt_pw (ns : List Int) : (srt ns).Pairwise (· ≤ ·) := by
  have := List.pairwise_mergeSort (le := fun a b : Int => decide (a ≤ b)) (by intro a b c; simp; omega) (by intro a b; simp; omega) ns
  simpa [srt] using this
theorem srt_is {ns ms : List Int} (h : ms.Perm ns) (p : ms.Pairwise (· ≤ ·)) : ms = srt ns :=
  List.Perm.eq_of_pairwise (le := (· ≤ ·)) (fun a b _ _ h1 h2 => Int.le_antisymm h1 h2) p (srt_pw ns) (h.trans (srt_perm ns).symm)
def oSorted : List D → Sto → ER
  | [.lst l], st => ofOpt (intsOf l) fun ns => if ns.length < 64 then .val .N (.lst ((srt ns).map .int)) st else .bad
  | _, _ => .bad
def dLr (f : En → ER) : En → ER := fun E => match f E with
  | .val _ (.int n) st => if -4611686018427387904 ≤ n ∧ n ≤ 1000000 then .val .N (.lst (rangeD 0 n.toNat)) st else .bad
  | .exc c l st => .exc c l st
  | _ => .bad
end
end Dn
namespace Dn
open PySem PySem.Spec PyProof.Rows L2 LamX
structure Alike (G G' : Gm) : Prop where
  K : G'.K = G.K
  ca : G'.ca = G.ca
  fn : G'.fn = G.fn
  tb : G'.tb = G.tb
  ed : G'.ed = G.ed
  en : G'.en = G.en
  el : G'.el = G.el
theorem Alike.symm {G G' : Gm} (a : Alike G G') : Alike G' G := ⟨a.K.symm, a.ca.symm, a.fn.symm, a.tb.symm, a.ed.symm, a.en.symm, a.el.symm⟩
mutual
theorem Is.sw {G G' : Gm} (a : Alike G G') {as : List Addr} {H : Hp} : ∀ (d : D) {v : V}, Is G as H v d → Is G' as H v d
  | .non, _, h => by cases h; exact .non
  | .bl _, _, h => by cases h; exact .bl _
  | .int _, _, h => by cases h; exact .int _
  | .str _, _, h => by cases h; exact .str _
  | .tup ds, _, h => by cases h with | tup p b => exact .tup (by rw [a.K]; exact p) (IsL.sw a ds b)
  | .lst ds, _, h => by cases h with | lst p b => exact .lst p (IsL.sw a ds b)
  | .scr l, _, h => by cases h with | scr p => exact .scr (by rw [a.K]; exact p)
  | .ptr n, _, h => by cases h with | ptr p => exact .ptr p
  | .obj c ds, _, h => by cases h with | obj p l b => exact .obj (by rw [a.ca, a.fn]; exact p) (by rw [a.fn]; exact l) (IsL.sw a ds b)
theorem IsL.sw {G G' : Gm} (a : Alike G G') {as : List Addr} {H : Hp} : ∀ (ds : List D) {vs : List V}, IsL G as H vs ds → IsL G' as H vs ds
  | [], _, h => by cases h; exact .nil
  | d :: ds, _, h => by cases h with | cons p b => exact .cons (Is.sw a d p) (IsL.sw a ds b)
end
section
variable {G G' : Gm} (a : Alike G G')
include a
theorem ObOk.sw {s : Hs} {x : Addr} {o : Ob} (h : ObOk G s x o) : ObOk G' s x o := by
  cases o with
  | lst l => obtain ⟨vs, h1, h2⟩ := h; exact ⟨vs, h1, IsL.sw a _ h2⟩
  | ins c l => obtain ⟨dx, vs, h1, h2, h3⟩ := h; exact ⟨dx, vs, by rw [a.ca, a.fn]; exact h1, by rw [a.fn]; exact h2, IsL.sw a _ h3⟩
  | tbl q => exact h
  | dct l => obtain ⟨kvs, h1, h2⟩ := h; exact ⟨kvs, h1, by
      clear h1
      induction h2 with
      | nil => exact .nil
      | cons p q ih => exact .cons (Is.sw a _ p) ih⟩
theorem StOk.sw {s : Hs} {st : Sto} (k : StOk G s st) : StOk G' s st := ⟨k.sf, k.len, k.nd, fun n x o h1 h2 => ObOk.sw a (k.ob n x o h1 h2), k.nf, by rw [a.tb]; exact k.tb, fun da h => by
  rw [a.ed] at h
  obtain ⟨xs, h1, h2, h3⟩ := k.ex da h
  rw [a.en, a.el]
  exact ⟨xs, h1, h2, IsL.sw a _ h3⟩⟩
theorem VOk.sw {s t : Hs} {m : Md} {v : V} {d : D} (h : VOk G s t m v d) : VOk G' s t m v d := by
  cases m with
  | P => exact Is.sw a _ h
  | B => obtain ⟨p, vs, l, x, b, c, e, f⟩ := h; exact ⟨p, vs, l, x, b, c, IsL.sw a _ e, f⟩
  | N => obtain ⟨p, vs, l, x, b, c, e, f, n, z⟩ := h; exact ⟨p, vs, l, x, b, c, IsL.sw a _ e, f, n, z⟩
theorem RPost.sw {s : Hs} {σ σ' : L2.St} {Q : VK} {r : ER} (h : RPost G' W0 s σ Q r) : RPost G W0 s σ' Q r := by
  cases r with
  | val m d st => exact fun t v g k o => h t v g (StOk.sw a k) (VOk.sw a o)
  | exc c l st =>
    intro t x g k o
    refine h t x g (StOk.sw a k) ?_
    rcases o with o | ⟨da, xs, o1, o2, o3, o4, o5⟩
    · exact .inl o
    · exact .inr ⟨da, xs, o1, o2, by rw [a.fn]; exact o3, by rw [a.fn]; exact o4, IsL.sw a _ o5⟩
  | bad => exact h
end
def slO : Option D → SL
  | some d => .val d
  | none => .emp
def cloOf (e : DE) : List (Option D) := e.map fun s => match s with | .val d => some d | _ => none
def cloE (ds : List (Option D)) (ja jb : Nat) (x y : D) : DE := ((ds.map slO).set ja (.val x)).set jb (.val y)
def startL (n : Nat) (d : D) (ds : List (Option D)) : DE := .val d :: .clo ds :: List.replicate (n - 2) .emp
section
variable {G : Gm}
def dHeld (i : Nat) (h : List (Option D) → D → D → Sto → ER) (fa : En → AR) : En → ER := fun E => match E.e[i]? with
  | some (.clo ds) => (match fa E with
    | .ok true [x, y] st => h ds x y st
    | .exc c l st => .exc c l st
    | _ => .bad)
  | _ => .bad
def valOnly : ER → ER
  | .val m d st => .val m d st
  | _ => .bad
def dLamC (np : Nat) (q : Str) (N : Nat) (g : En → SR) (f1 : En → ER) : En → ER := fun E => match f1 E with
  | .val .B _ _ => .bad
  | .val _ d1 st => (match st[np]? with
    | some (.tbl q') => if q' = q then valOnly (g ⟨startL N d1 (cloOf E.e), st⟩).ret else .bad
    | _ => .bad)
  | .exc c l st => .exc c l st
  | .bad => .bad
end
end Dn
namespace Dn
open PySem PySem.Spec PyProof.Rows L2 LamX
section
variable {G : Gm} {W : WX}
def sBad : En → SR := fun _ => .bad
theorem s_never : DSt G W tNever sBad := fun _ _ _ _ _ _ _ _ post => post.elim
def dBad : En → ER := fun _ => .bad
end
structure FunC (K : PySem.W.Frag) (x qual : Str) (st : Stmt) (f : Addr) (fd : FuncData) (c : Addr) : Prop where
  ex : ∃ (oc : Value) (od : Option Addr) (kV doc pm : Value) (an : Option Addr) (ct : Value) (osl : Array (Option Value)),
    fd = PySem.W.fnOf x qual (defArgs st) (defBody st) (defScope st) .none kV doc pm an (.ref c) ct ∧ K.lookup f = some ⟨oc, od, .func fd, osl⟩ ∧ PySem.W.codeIn K (.ref c) qual = true
  kp : PySem.W.keepIn K (.ref f) = true
end Dn
namespace Dn
open PySem PySem.Spec PyProof.Rows L2
section
variable {G : Gm} {W : WX}
open Classical in
noncomputable def forPD (n : Nat) (L : List D) (b : D → En → SR) : List D → En → SR
  | [], E => if stLst E.st n = some L then .nx E else .bad
  | x :: xs, E => if stLst E.st n = some L then (match b x E with
    | .nx E' => forPD n L b xs E'
    | .ct E' => forPD n L b xs E'
    | .bk E' => .nx E'
    | r => r) else .bad
noncomputable def sForX (f : En → ER) (t : D → DE → Option DE) (b : En → SR) : En → SR := fun E => match f E with
  | .val _ (.ptr n) st => (match stLst st n with | some l => forPD n l (tgB t b) l ⟨E.e, st⟩ | none => .bad)
  | _ => sFor (dIter f) t b E
def deref (st : Sto) (d : D) : D := match d with
  | .ptr n => (match stLst st n with | some l => .lst l | none => .ptr n)
  | d => d
def oEqX (a b : D) (st : Sto) : ER := oEq (deref st a) (deref st b) st
def oNeX (a b : D) (st : Sto) : ER := oNe (deref st a) (deref st b) st
end
end Dn
namespace Dn
open PySem PySem.Spec PySem.Calls PyProof.Rows L2
structure OwnM (P : Program) (w : World) (K : PySem.W.Frag) (mg : Str → Option Value) (base : Heap) (G : Gm) (m : Str) (n k : Nat) (c : Nat) (F : List D → Sto → ER) : Prop where
  ex : ∃ (f : Addr) (fd : FuncData) (ps : List Str), Meth K (G.ca c) m f ∧ FnOk P w K mg base (L2.CX P w) k f fd ps (spF G F) ∧ L2.Binds K fd ps [] ∧ ps.length = n
theorem cx_false {P : Program} {w : World} {st : List Env} {H : Hp} {s s' : Shared} {e : Value} (h : L2.CX P w st H s (fun _ _ _ => False) e s') : False := by
  obtain ⟨_, _, _, _, _, _, _, _, _, _, _, _, z⟩ := h
  exact z
section
variable {X : Cx} {G : Gm} {pins : List (Addr × Obj)} {σ : L2.St} {H : Hp} {s : Shared}
theorem run_own {m : Str} {n k c : Nat} {F : List D → Sto → ER} (O : OwnM X.prog X.w X.K X.mg X.base G m n k c F) : ∃ f, PySem.W.findIn X.K (.ref (G.ca c)) m = some (some (.ref f)) ∧ PySem.W.isFn X.K (.ref f) = true ∧
    ∀ (A : Around), Room k A → A.frames = X.A.frames → ∀ (pins : List (Addr × Obj)) (σ : L2.St) (H : Hp) (s : Shared) (vs : List V) (us : List Value) (Q : VK), Inv X pins σ H s → Vals vs us → vs.length = n → spF G F vs H Q (fun _ _ _ => False) → wpAny (model X.prog X.w) A (call (.ref f) us) (EP X pins σ Q) X.xe s := by
  obtain ⟨f, fd, ps, hm, hF, hb, hn⟩ := O.ex
  refine ⟨f, hm.at_, hm.fn, fun A hr fr pins σ H s vs us Q I r l h => ?_⟩
  have e := I.env0
  have e0 : Env0 X.prog X.w X.K X.mg X.base A X.stack s H := ⟨by rw [fr]; exact e.frames, e.mod, e.bs, e.bsz, e.funs, e.frf, e.hok, e.bare⟩
  have hbind : BindsTo s fd ⟨us, []⟩ (ps.zip us) := by
    have := hb s us I.kIn (by simp; rw [← r.length, l, hn])
    simpa using this
  refine wpAny_call (codeAny_mono (hF.run A X.stack s H ⟨us, []⟩ us vs Q (fun _ _ _ => False) hr e0 hbind r h) fun res s' hq => ?_)
  cases res with
  | error e => exact (cx_false hq).elim
  | ok fl =>
    cases fl with
    | ret u => exact I.after hq
    | next => exact False.elim hq
    | brk => exact False.elim hq
    | cont => exact False.elim hq
abbrev OwnL := List (Nat × (List D → Sto → ER))
theorem CallR.or {f : Value} {r r' : List V → Hp → VK → Prop} (h : CallR X f r) (h' : CallR X f r') : CallR X f (fun xs H Q => r xs H Q ∨ r' xs H Q) := by
  intro pins s σ H xs us Q I rr z
  rcases z with z | z
  · exact h pins s σ H xs us Q I rr z
  · exact h' pins s σ H xs us Q I rr z
def rStrO (G : Gm) (Os : OwnL) : List V → Hp → VK → Prop := fun xs H Q => ∃ x ∈ Os, ∃ a dx fs, xs = [.ref a] ∧ H a = some (.ins (G.ca x.1) dx fs) ∧ spF G x.2 [.ref a] H (fun v H' => ∃ n : Str, v = .str n ∧ Q (.str n) H') (fun _ _ _ => False)
theorem call_strO {Os : OwnL} {k : Nat} (hO : ∀ x ∈ Os, OwnM X.prog X.w X.K X.mg X.base G "__str__" 1 k x.1 x.2) (hr : Room (k + 2) X.A) : CallR X (.type "str") (rStrO G Os) := by
  intro pins s σ H xs us Q I r h
  obtain ⟨x, hx, a, dx, fs, rfl, ha, h⟩ := h
  obtain ⟨u, rfl, ru⟩ := vals1 r
  obtain rfl : u = Value.ref a := ru
  obtain ⟨f, hs, hf, run⟩ := run_own (hO x hx)
  obtain ⟨mA, J, _⟩ := ins_get I.hok ha
  obtain ⟨od, J, _⟩ := J.look
  refine PySem.W.kso_call hr.in1.in1.units0 I.kIn J hs hf (wpAny_mono (run X.A.in1.in1 hr.in1.in1 rfl pins σ H s [.ref a] [.ref a] _ I (.cons rfl .nil) rfl h) (fun v s' q => ?_) fun _ _ e => e)
  obtain ⟨v1, H', I', rv, n, rfl, q⟩ := q
  obtain ⟨t, rfl⟩ := rv
  exact ⟨.str n, H', I', ⟨_, rfl⟩, q⟩
structure NeC (K : PySem.W.Frag) (C : Addr) : Prop where
  ne : PySem.W.findIn K (.ref C) "__ne__" = some (some (.builtin "object.__ne__"))
  mo : PySem.W.mroIn K C (.type "object") = some true
end
def ownF : OwnL → Nat → Option (List D → Sto → ER)
  | [], _ => none
  | (c', F) :: l, c => if c = c' then some F else ownF l c
theorem ownF_mem : ∀ {Os : OwnL} {c : Nat} {F : List D → Sto → ER}, ownF Os c = some F → (c, F) ∈ Os
  | (c', F') :: l, c, F, h => by
    unfold ownF at h
    split at h
    · rename_i e
      cases h; subst e; exact List.mem_cons_self ..
    · exact List.mem_cons_of_mem _ (ownF_mem h)
section
variable {G : Gm} {W : WX}
def asLen : ER → ER
  | .val _ (.int i) st => if 0 ≤ i ∧ i < 2 ^ 63 then .val .P (.int i) st else .bad
  | _ => .bad
def dLenX (Os : OwnL) (f : En → ER) : En → ER := fun E => match f E with
  | .val _ (.ptr n) st => (match stIns st n with
    | some (c, _) => ofOpt (ownF Os c) fun F => asLen (F [.ptr n] st)
    | none => oLen [.ptr n] st)
  | .val _ d st => oLen [d] st
  | .exc c l st => .exc c l st
  | .bad => .bad
def asStr : ER → ER
  | .val _ (.str i) st => .val .P (.str i) st
  | _ => .bad
def asBl (neg : Bool) : ER → ER
  | .val _ (.bl i) st => .val .P (.bl (i != neg)) st
  | _ => .bad
def oInt : List D → Sto → ER
  | [.int i], st => .val .P (.int i) st
  | [.bl b], st => .val .P (.int (if b then 1 else 0)) st
  | [.str a], st => if a.length ≤ 640 then ofOpt (PySem.intText? a) fun n => .val .P (.int n) st else .bad
  | _, _ => .bad
abbrev rIntA : List V → Hp → VK → Prop := fun xs H Q => ((∃ i, xs = [.int i] ∧ Q (.int i) H) ∨ ∃ k, xs = [.bl k] ∧ Q (.int (if k then 1 else 0)) H) ∨ ∃ a n, xs = [.str a] ∧ PySem.intText? a = some n ∧ a.length ≤ 640 ∧ Q (.int n) H
theorem call_intA {X : Cx} : CallR X (.type "int") rIntA := CallR.or call_int1 call_int_str
theorem c_int : DCal G rIntA oInt := by
  refine DCal.one1 (fun _ => rfl) (fun a b l _ => by cases a <;> rfl) fun W σ s st v d k hv Q post => ?_
  cases d <;> try exact post.elim
  case int i => obtain rfl := hv.int; exact .inl (.inl ⟨_, rfl, post.now k (.int _)⟩)
  case bl i => obtain rfl := hv.bl; exact .inl (.inr ⟨_, rfl, post.now k (.int _)⟩)
  case str a =>
    obtain rfl := hv.str
    obtain ⟨h, post⟩ := RPost.cond (a.length ≤ 640) (ofOpt (PySem.intText? a) fun n => .val .P (.int n) st) post
    obtain ⟨n, hn, post⟩ := RPost.opt (PySem.intText? a) (fun n => .val .P (.int n) st) post
    exact .inr ⟨a, n, rfl, hn, h, post.now k (.int _)⟩
def itxt (i : Int) : Str := toString i
def oStr : List D → Sto → ER
  | [.int i], st => if i.natAbs.log2 < 1920 then .val .P (.str (itxt i)) st else .bad
  | [.str a], st => .val .P (.str a) st
  | _, _ => .bad
abbrev rStrA : List V → Hp → VK → Prop := fun xs H Q => (∃ i, xs = [.int i] ∧ i.natAbs.log2 < 1920 ∧ Q (.str (toString i)) H) ∨ ∃ a, xs = [.str a] ∧ Q (.str a) H
theorem call_strA {X : Cx} : CallR X (.type "str") rStrA := CallR.or call_str_int SkE.call_str_str
theorem c_str : DCal G rStrA oStr := by
  refine DCal.one1 (fun _ => rfl) (fun a b l _ => by cases a <;> rfl) fun W σ s st v d k hv Q post => ?_
  cases d <;> try exact post.elim
  case int i =>
    obtain rfl := hv.int
    obtain ⟨h, post⟩ := RPost.cond (i.natAbs.log2 < 1920) (.val .P (.str (itxt i)) st) post
    exact .inl ⟨_, rfl, h, post.now k (.str _)⟩
  case str a => obtain rfl := hv.str; exact .inr ⟨_, rfl, post.now k (.str _)⟩
def dStrX (Os : OwnL) (f : En → ER) : En → ER := fun E => match f E with
  | .val _ (.ptr n) st => (match stIns st n with
    | some (c, _) => ofOpt (ownF Os c) fun F => asStr (F [.ptr n] st)
    | none => .bad)
  | .val _ d st => oStr [d] st
  | .exc c l st => .exc c l st
  | .bad => .bad
theorem v_strX {Os : OwnL} {te : TE} {f : En → ER} (h : DEv G W te f) : DEv G W (tCB (fun xs H Q => rStrA xs H Q ∨ rStrO G Os xs H Q) (tCons te tNil)) (dStrX Os f) := by
  intro s t σ e st E k Q post
  refine h s t σ e st E k _ ?_
  unfold dStrX at post
  cases q : f ⟨e, st⟩ with
  | exc c l st1 => rw [q] at post; exact post
  | bad => rw [q] at post; exact post
  | val m d st1 =>
    rw [q] at post
    intro t1 v g1 k1 o1
    have plain : ∀ (d : D), U G t1 v d → RPost G W t σ Q (oStr [d] st1) → rStrA [v] t1.h Q := fun d u p => c_str W σ t1 st1 [v] [d] k1 (.cons u .nil) Q (RPost.step g1 k1 p)
    cases d with
    | ptr n =>
      cases hi : stIns st1 n with
      | none => simp only [hi] at post; exact post.elim
      | some cl =>
        obtain ⟨c, l0⟩ := cl
        simp only [hi] at post
        obtain ⟨F, hF, post⟩ := RPost.opt _ _ post
        obtain ⟨a, rfl, hp⟩ := o1.u.ptr
        obtain ⟨dx, fs, hh, hl, il⟩ := k1.ins hp hi
        refine .inr ⟨(c, F), ownF_mem hF, a, dx, _, rfl, hh, t1, [.ptr n], st1, rfl, k1, .cons (.ptr hp) .nil, ?_⟩
        have p1 := RPost.step g1 k1 post
        show RPost G _ t1 [] _ (F [.ptr n] st1)
        cases q2 : F [.ptr n] st1 with
        | exc c l st2 => simp only [asStr, q2] at p1; exact p1.elim
        | bad => simp only [asStr, q2] at p1; exact p1.elim
        | val m2 d2 st2 =>
          cases d2 <;> first | (simp only [asStr, q2] at p1; exact p1.elim) | skip
          rename_i i
          simp only [asStr, q2] at p1
          intro t2 v2 g2 k2 o2
          obtain rfl := o2.u.str
          exact ⟨i, rfl, p1 t2 _ g2 k2 (.str _)⟩
    | _ => exact .inl (plain _ o1.u post)
structure ClsI (K : PySem.W.Frag) (C : Addr) : Prop where
  cl : Cls K C
  ha : PySem.W.findIn K (.ref C) "__class__" = some (some (.builtin "object.__class__"))
  hn : PySem.W.specialIn K (.builtin "object.__class__") "__get__" = some (some (.builtin "getset_descriptor.__get__"))
  htk : PySem.W.takesIn K (.builtin "object.__class__") = some true
  hm : PySem.W.mroIn K C (.type "object") = some true
def plainTs : List String := ["NoneType", "bool", "int", "str", "tuple", "list"]
def isO (tab : Nat → Option Bool) : D → Sto → ER
  | .ptr n, st => (match stIns st n with | some (c, _) => ofOpt (tab c) fun b => .val .P (.bl b) st | none => (match stLst st n with | some _ => .val .P (.bl false) st | none => .bad))
  | .obj _ _, _ => .bad
  | .scr _, _ => .bad
  | _, st => .val .P (.bl false) st
def dIsO (tab : Nat → Option Bool) (f : En → ER) : En → ER := fun E => (f E).bind (isO tab)
structure IsOk (G : Gm) (C : Addr) (tab : Nat → Option Bool) : Prop where
  ki : ∀ c b, tab c = some b → PySem.W.kitOne G.K (.ref (G.ca c)) (.ref C) = some b
  ci : ∀ c b, tab c = some b → ClsI G.K (G.ca c)
  kt : ∀ T ∈ plainTs, PySem.W.kitOne G.K (.type T) (.ref C) = some false
structure EqOk (G : Gm) (Os : OwnL) (Cs : List Nat) : Prop where
  pt : ∀ x ∈ Os, ∀ T ∈ plainTs, PySem.W.notFirst G.K (G.ca x.1) (.type T) = true
  pc : ∀ x ∈ Os, ∀ c ∈ Cs, PySem.W.notFirst G.K (G.ca x.1) (.ref (G.ca c)) = true
  ci : ∀ c ∈ Cs, ClsI G.K (G.ca c)
def eqArg (Cs : List Nat) : D → Sto → Bool
  | .ptr n, st => (match stIns st n with | some (c, _) => Cs.contains c | none => false)
  | .obj _ _, _ => false
  | .scr _, _ => false
  | _, _ => true
def eqO2 (Os : OwnL) (Cs : List Nat) (neg : Bool) (o : D → D → Sto → ER) (m : Md) (x y : D) (st : Sto) : ER := match x with
  | .ptr n => (match stIns st n with
    | some (c, _) => ofOpt (ownF Os c) fun F => if m ≠ .B ∧ eqArg Cs y st = true then asBl neg (F [.ptr n, y] st) else .bad
    | none => o x y st)
  | _ => o x y st
def dEqO (Os : OwnL) (Cs : List Nat) (neg : Bool) (o : D → D → Sto → ER) (f g : En → ER) : En → ER := fun E => match f E with
  | .val _ x st => (match g ⟨E.e, st⟩ with
    | .val m y st1 => eqO2 Os Cs neg o m x y st1
    | .exc c l st => .exc c l st
    | .bad => .bad)
  | .exc c l st => .exc c l st
  | .bad => .bad
end
end Dn
namespace Dn
open PySem PySem.Spec PyProof.Rows L2
def PairAt (K : PySem.W.Frag) (H : Hp) (x : V) (r : Int × Int) : Prop := ∃ t, x = V.ref t ∧ SqT K H t [.int r.1, .int r.2]
def rSortedQ (K : PySem.W.Frag) : List V → Hp → VK → Prop := fun vs H Q => ∃ (a : Addr) (xs : List V) (rs : List (Int × Int)), vs = [V.ref a] ∧ SqL K H a xs ∧ xs.length = rs.length ∧ (∀ p ∈ xs.zip rs, PairAt K H p.1 p.2) ∧
  ∀ (zs : List (V × (Int × Int))) p, zs.Perm (xs.zip rs) → zs.Pairwise (fun x y => SrtO.lexB y.2 x.2 = false) → H p = none → Q (.ref p) (upd H p (.lst (zs.map (·.1))))
theorem cr_sortedQ {X : Cx} : CallR X (.builtin "sorted") (rSortedQ X.K) := by
  intro pins s σ H vs us Q I r h
  obtain ⟨a, xs, rs, rfl, hs, hlen, hx, q⟩ := h
  have uniq : ∀ x r r', PairAt X.K H x r → PairAt X.K H x r' → r = r' := fun x r r' h h' => by
    obtain ⟨t, rfl, h⟩ := h
    obtain ⟨t', e, h'⟩ := h'
    cases e
    have e := I.tuple_inj h h'
    simp at e
    exact Prod.ext e.1 e.2
  have pick : ∀ x : V, ∃ r, (∃ r', PairAt X.K H x r') → PairAt X.K H x r := fun x => by
    by_cases c : ∃ r', PairAt X.K H x r'
    · obtain ⟨r, hr⟩ := c; exact ⟨r, fun _ => hr⟩
    · exact ⟨(0, 0), fun z => absurd z c⟩
  have ⟨k, hk⟩ := Classical.axiomOfChoice pick
  have hz : ∀ (ys : List V) (ms : List (Int × Int)), ys.length = ms.length → (∀ p ∈ ys.zip ms, PairAt X.K H p.1 p.2) → ys.zip ms = ys.map fun y => (y, k y) := by
    intro ys
    induction ys with
    | nil => intro ms _ _; simp
    | cons y ys ih =>
      intro ms hl hp
      cases ms with
      | nil => simp at hl
      | cons m ms =>
        simp at hl
        rw [List.zip_cons_cons, List.map_cons, ih ms hl fun p hm => hp p (by rw [List.zip_cons_cons]; exact List.mem_cons_of_mem _ hm)]
        have h1 := hp (y, m) (by rw [List.zip_cons_cons]; exact List.mem_cons_self ..)
        rw [uniq y m (k y) h1 (hk y ⟨m, h1⟩)]
  have hxz := hz xs rs hlen hx
  have hkx : ∀ x ∈ xs, PairAt X.K H x (k x) := fun x m => hk x (by
    have : (x, k x) ∈ xs.zip rs := by rw [hxz]; exact List.mem_map.mpr ⟨x, m, rfl⟩
    exact ⟨_, hx _ this⟩)
  obtain ⟨its, rv, hl, hzz⟩ := I.list hs
  obtain ⟨u, rfl, ru⟩ := vals1 r
  obtain rfl : u = Value.ref a := ru
  obtain ⟨e1, e2⟩ := refs_back rv fun x m => by
    obtain ⟨t, e, _⟩ := hkx x m
    exact ⟨t, e⟩
  refine SrtO.sorted_pairsO (k := fun u => k (backV u)) hl.isList (by rw [← rv.length]; exact hzz) (fun v hv => ?_) fun h' d out h1 h2 kp hd hn => ?_
  · obtain ⟨t, rfl⟩ := e2 v hv
    have hm : V.ref t ∈ xs := by rw [e1]; exact List.mem_map.mpr ⟨_, hv, rfl⟩
    obtain ⟨t', e, ht⟩ := hkx _ hm
    cases e
    obtain ⟨its2, r2, ⟨o, ho, hc, n, hd⟩, _⟩ := I.tuple ht
    obtain ⟨u1, u2, rfl, ri, rj⟩ := vals2 r2
    obtain ⟨t1, rfl⟩ := ri
    obtain ⟨t2, rfl⟩ := rj
    exact ⟨t, o, t1, t2, n, rfl, ho, hc, hd⟩
  · have h3 : ∀ u ∈ out, ∃ a, u = Value.ref a := fun u hu => e2 u (h2.perm.mem_iff.mp hu)
    obtain ⟨n, hn⟩ := hn
    have hb : SrtO.Stb (ltP k) (out.map backV) xs := by
      rw [e1]
      exact SrtO.Stb.map (ltP_swo k) backV h2
    have hq := q ((out.map backV).map fun y => (y, k y)) d (by rw [hxz]; exact hb.perm.map _) (by
      have := SrtO.srtd_map (f := backV) (lt := ltP k) h1
      exact List.pairwise_map.mpr this) (I.hok.fresh hd)
    have hmm : ((out.map backV).map fun y => (y, k y)).map (·.1) = out.map backV := by simp
    rw [hmm] at hq
    refine ⟨.ref d, upd H d (.lst (out.map backV)), I.laid (t' := s.toks) kp hd ⟨?_, out, n, vals_back h3, hn⟩, rfl, hq⟩
    rw [hb.len]
    exact hzz
def lexLe (a b : Int × Int) : Bool := !SrtO.lexB b a
def srtP (rs : List (Int × Int)) : List (Int × Int) := rs.mergeSort lexLe
theorem lexLe_iff {a b : Int × Int} : lexLe a b = true ↔ a.1 < b.1 ∨ (a.1 = b.1 ∧ a.2 ≤ b.2) := by
  unfold lexLe
  rw [Bool.not_eq_true', SrtO.lexB_no]
  omega
theorem srtP_perm (rs : List (Int × Int)) : (srtP rs).Perm rs := List.mergeSort_perm _ _
theorem srtP_pw (rs : List (Int × Int)) : (srtP rs).Pairwise (fun a b => lexLe a b = true) :=
  List.pairwise_mergeSort (le := lexLe) (fun a b c h1 h2 => by rw [lexLe_iff] at *; omega) (fun a b => by rw [Bool.or_eq_true, lexLe_iff, lexLe_iff]; omega) rs
theorem srtP_is {rs ms : List (Int × Int)} (h : ms.Perm rs) (p : ms.Pairwise (fun a b => lexLe a b = true)) : ms = srtP rs :=
  List.Perm.eq_of_pairwise (le := fun a b => lexLe a b = true) (fun a b _ _ h1 h2 => by rw [lexLe_iff] at *; exact Prod.ext (by omega) (by omega)) p (srtP_pw rs) (h.trans (srtP_perm rs).symm)
def rowsOf : List D → Option (List (Int × Int))
  | [] => some []
  | .tup [.int a, .int b] :: l => (rowsOf l).map ((a, b) :: ·)
  | _ => none
section
variable {G : Gm} {W : WX}
theorem rowsOf_V {as : List Addr} {f H : Hp} (sm : Same f H) : ∀ {l : List D} {vs : List V} {rs : List (Int × Int)}, rowsOf l = some rs → IsL G as f vs l → vs.length = rs.length ∧ l = rs.map (fun r => D.tup [.int r.1, .int r.2]) ∧ ∀ p ∈ vs.zip rs, PairAt G.K H p.1 p.2 ∧ Is G as f p.1 (.tup [.int p.2.1, .int p.2.2])
  | [], _, _, h, i => by cases i; cases h; exact ⟨rfl, rfl, fun p m => by simp at m⟩
  | d :: l, _, rs, h, i => by
    cases i with
    | cons a b =>
      unfold rowsOf at h
      split at h
      · cases ‹_ :: _ = _›
      · rename_i x y l' e
        cases e
        cases q : rowsOf l with
        | none => rw [q] at h; cases h
        | some ms =>
          rw [q] at h; cases h
          obtain ⟨h1, h2, h3⟩ := rowsOf_V sm q b
          refine ⟨by simp [h1], by rw [List.map_cons, ← h2], fun p m => ?_⟩
          rw [List.zip_cons_cons] at m
          rcases List.mem_cons.mp m with rfl | m
          · refine ⟨?_, a⟩
            cases a with
            | tup c c2 =>
              cases c2 with
              | cons e1 c2 =>
                cases c2 with
                | cons e2 c2 =>
                  cases c2; cases e1; cases e2
                  exact ⟨_, rfl, same_t sm c⟩
          · exact h3 p m
      · cases h
def oSortedX : List D → Sto → ER
  | [.lst l], st => (match intsOf l with
    | some ns => if ns.length < 64 then .val .N (.lst ((srt ns).map .int)) st else .bad
    | none => ofOpt (rowsOf l) fun rs => .val .N (.lst ((srtP rs).map fun r => .tup [.int r.1, .int r.2])) st)
  | _, _ => .bad
theorem isl_zip {as : List Addr} {f : Hp} : ∀ {zs : List (V × (Int × Int))}, (∀ p ∈ zs, Is G as f p.1 (.tup [.int p.2.1, .int p.2.2])) → IsL G as f (zs.map (·.1)) (zs.map fun z => D.tup [.int z.2.1, .int z.2.2])
  | [], _ => .nil
  | z :: zs, h => .cons (h z (List.mem_cons_self ..)) (isl_zip fun p m => h p (List.mem_cons_of_mem _ m))
theorem c_sortedX : DCal G (fun xs H Q => rSorted G.K xs H Q ∨ rSortedQ G.K xs H Q) oSortedX := by
  refine DCal.one1 (fun _ => rfl) (fun a b l _ => by cases a <;> rfl) fun W σ s st v d k hv Q post => ?_
  cases d <;> try exact post.elim
  rename_i l
  have post : RPost G W s σ Q (match intsOf l with
    | some ns => if ns.length < 64 then .val .N (.lst ((srt ns).map .int)) st else .bad
    | none => ofOpt (rowsOf l) fun rs => .val .N (.lst ((srtP rs).map fun r => .tup [.int r.1, .int r.2])) st) := post
  obtain ⟨p, vs, rfl, hp, hl⟩ := hv.lst k.sf
  cases qi : intsOf l with
  | some ns =>
    simp only [qi] at post
    obtain ⟨hlt, post⟩ := RPost.cond (ns.length < 64) (.val .N (.lst ((srt ns).map .int)) st) post
    have := intsOf_V qi hl
    subst this
    refine .inl ⟨p, ns, rfl, SqL.of hp, hlt, fun ms r hm hs hr => ?_⟩
    rw [srt_is hm hs]
    exact RPost.newL k post (IsL.ints _) hr
  | none =>
    simp only [qi] at post
    obtain ⟨rs, hrs, post⟩ := RPost.opt (rowsOf l) (fun rs => .val .N (.lst ((srtP rs).map fun r => .tup [.int r.1, .int r.2])) st) post
    obtain ⟨h1, h2, h3⟩ := rowsOf_V k.sf hrs hl
    refine .inr ⟨p, vs, rs, rfl, SqL.of hp, h1, fun q m => (h3 q m).1, fun zs r hm hs hr => ?_⟩
    have hz : ∀ q ∈ zs, Is G s.as s.f q.1 (.tup [.int q.2.1, .int q.2.2]) := fun q m => (h3 q (hm.mem_iff.mp m)).2
    have e1 : zs.map (·.2) = srtP rs := by
      refine srtP_is ?_ (List.pairwise_map.mpr (hs.imp fun {a b} h => by unfold lexLe; rw [h]; rfl))
      have := hm.map (fun q : V × (Int × Int) => q.2)
      have e : (vs.zip rs).map (fun q : V × (Int × Int) => q.2) = rs := by
        rw [List.map_snd_zip]; omega
      rw [e] at this
      exact this
    have e2 : (srtP rs).map (fun r => D.tup [.int r.1, .int r.2]) = zs.map fun z => D.tup [.int z.2.1, .int z.2.2] := by
      rw [← e1, List.map_map]; rfl
    rw [e2] at post
    exact RPost.newL k post (isl_zip hz) hr
end
end Dn
namespace Dn
open PySem PySem.Spec PyProof.Rows L2
section
variable {G : Gm} {W : WX}
def DMs (G : Gm) (r : V → List V → Hp → VK → Prop) (op : Str → List D → Sto → ER) : Prop :=
  ∀ (W : WX) (σ : L2.St) (s : Hs) (st : Sto) (x : Str) (vs : List V) (ds : List D), StOk G s st → UL G s vs ds → ∀ Q : VK, RPost G W s σ Q (op x ds st) → r (.str x) vs s.h Q
def dMs (op : Str → List D → Sto → ER) (fb : En → ER) (fa : En → AR) : En → ER := fun E => match fb E with
  | .val _ (.str x) st => (match fa ⟨E.e, st⟩ with
    | .ok _ ds st1 => op x ds st1
    | .exc c l st => .exc c l st
    | .bad => .bad)
  | .exc c l st => .exc c l st
  | _ => .bad
theorem v_ms {r : V → List V → Hp → VK → Prop} {op : Str → List D → Sto → ER} {tb : TE} {ta : TA} {fb : En → ER} {fa : En → AR} (hm : DMs G r op) (hb : DEv G W tb fb) (ha : DAr G W ta fa) : DEv G W (tBM G.K "str" r tb ta) (dMs op fb fa) := by
  intro s t σ e st E k Q post
  refine hb s t σ e st E k _ ?_
  unfold dMs at post
  cases q : fb ⟨e, st⟩ with
  | exc c l st1 => rw [q] at post; exact post
  | bad => rw [q] at post; exact post
  | val m d st1 =>
    rw [q] at post
    cases d <;> first | exact post.elim | skip
    rename_i x
    intro t1 v g1 k1 o1
    obtain rfl := o1.u.str
    refine ⟨rfl, ha s t1 σ e st1 (E.up g1) k1 _ ?_⟩
    have post : RPost G W t1 σ Q (match fa ⟨e, st1⟩ with
      | .ok _ ds st1 => op x ds st1
      | .exc c l st => .exc c l st
      | .bad => .bad) := RPost.step g1 k1 post
    cases q2 : fa ⟨e, st1⟩ with
    | ok b ds st2 => rw [q2] at post; exact fun t2 xs g2 k2 _ u2 => hm W σ t2 st2 x xs ds k2 u2 Q (RPost.step g2 k2 post)
    | exc c l st2 => rw [q2] at post; exact post
    | bad => rw [q2] at post; exact post
def strsOf : List D → Option (List Str)
  | [] => some []
  | .str i :: l => (strsOf l).map (i :: ·)
  | _ => none
theorem strsOf_V {as : List Addr} {H : Hp} : ∀ {l : List D} {vs : List V} {ns : List Str}, strsOf l = some ns → IsL G as H vs l → vs = ns.map V.str
  | [], _, _, h, i => by cases i; cases h; rfl
  | d :: l, _, ns, h, i => by
    cases i with
    | cons a b =>
      cases d <;> first | (cases h; done) | skip
      rename_i i
      have h' : (strsOf l).map (i :: ·) = some ns := h
      cases q : strsOf l with
      | none => rw [q] at h'; cases h'
      | some ms =>
        rw [q] at h'; cases h'
        cases a
        rw [strsOf_V q b]; rfl
def seqStrs : D → Sto → Option (List Str)
  | .lst l, _ => strsOf l
  | .tup l, _ => strsOf l
  | .ptr n, st => (stLst st n).bind strsOf
  | _, _ => none
def msJoin (a : Str) (ds : List D) (st : Sto) : ER := match ds with
  | [d] => ofOpt (seqStrs d st) fun ys => if (ys.map (·.length)).sum + ys.length * a.length ≤ 1000000 then .val .P (.str (Txt.join a ys)) st else .bad
  | _ => .bad
abbrev rJoin (K : PySem.W.Frag) : V → List V → Hp → VK → Prop := fun x xs H Q => ∃ a p, ∃ ys : List Str, x = .str a ∧ xs = [.ref p] ∧ (SqL K H p (ys.map V.str) ∨ SqT K H p (ys.map V.str)) ∧
    (ys.map (·.length)).sum + ys.length * a.length ≤ 16777216 ∧ Q (.str (Txt.join a ys)) H
theorem ms_join : DMs G (rJoin G.K) msJoin := by
  intro W σ s st a vs ds k u Q post
  unfold msJoin at post
  split at post
  · rename_i d
    obtain ⟨v, rfl, hv⟩ := u.one
    obtain ⟨ys, hy, post2⟩ := RPost.opt _ _ post
    clear post
    obtain ⟨c, post3⟩ := RPost.cond _ _ post2
    clear post2
    have c' : (ys.map (·.length)).sum + ys.length * a.length ≤ 16777216 := Nat.le_trans c (by decide)
    cases d <;> first | (cases hy; done) | skip
    case tup l =>
      obtain ⟨p, ws, rfl, hp, il⟩ := hv.tup k.sf
      have := strsOf_V hy il
      subst this
      exact ⟨a, p, ys, rfl, rfl, .inr hp, c', post3.now k (.str _)⟩
    case lst l =>
      obtain ⟨p, ws, rfl, hp, il⟩ := hv.lst k.sf
      have := strsOf_V hy il
      subst this
      exact ⟨a, p, ys, rfl, rfl, .inl (SqL.of hp), c', post3.now k (.str _)⟩
    case ptr n =>
      obtain ⟨p, rfl, hp⟩ := hv.ptr
      have hy : (stLst st n).bind strsOf = some ys := hy
      cases hl : stLst st n with
      | none => rw [hl] at hy; cases hy
      | some l =>
        rw [hl] at hy
        obtain ⟨ws, hh, il⟩ := k.lst hp hl
        have := strsOf_V hy il
        subst this
        exact ⟨a, p, ys, rfl, rfl, .inl (SqL.of hh), c', post3.now k (.str _)⟩
  · exact post.elim
def msSplit (a : Str) (ds : List D) (st : Sto) : ER := match ds with
  | [.str b] => if (b.length == 0) = false ∧ a.length + 2 ≤ 1000000 then .val .N (.lst ((Txt.split a b).map .str)) st else .bad
  | _ => .bad
def msPartition (a : Str) (ds : List D) (st : Sto) : ER := match ds with
  | [.str b] => if (b.length == 0) = false ∧ a.length ≤ 1000000 then .val .P (.tup [.str (Txt.partition a b).1, .str (Txt.partition a b).2.1, .str (Txt.partition a b).2.2]) st else .bad
  | _ => .bad
def msCount (a : Str) (ds : List D) (st : Sto) : ER := match ds with
  | [.str b] => .val .P (.int (Txt.count a b)) st
  | _ => .bad
abbrev rCount : V → List V → Hp → VK → Prop := fun x xs H Q => ∃ a b, x = .str a ∧ xs = [.str b] ∧ Q (.int (Txt.count a b)) H
theorem ms_count : DMs G rCount msCount := by
  intro W σ s st a vs ds k u Q post
  unfold msCount at post
  split at post
  · rename_i b
    obtain ⟨v, rfl, hv⟩ := u.one
    obtain rfl := hv.str
    exact ⟨a, b, rfl, rfl, post.now k (.int _)⟩
  · exact post.elim
def dFmt (f : En → ER) : En → ER := fun E => match f E with
  | .val _ (.str y) st => if y.length ≤ 1000000 then .val .P (.str y) st else .bad
  | .val _ (.int i) st => if i.natAbs.log2 < 1920 then .val .P (.str (itxt i)) st else .bad
  | .exc c l st => .exc c l st
  | _ => .bad
theorem v_fmt {te : TE} {f : En → ER} (h : DEv G W te f) : DEv G W (tFmt te) (dFmt f) := by
  intro s t σ e st E k Q post
  refine h s t σ e st E k _ ?_
  unfold dFmt at post
  cases q : f ⟨e, st⟩ with
  | exc c l st1 => rw [q] at post; exact post
  | bad => rw [q] at post; exact post
  | val m d st1 =>
    rw [q] at post
    intro t1 v g1 k1 o1
    cases d <;> first | exact post.elim | skip
    case int i =>
      obtain rfl := o1.u.int
      obtain ⟨c, post⟩ := RPost.cond (i.natAbs.log2 < 1920) (.val .P (.str (itxt i)) st1) post
      exact .inr ⟨i, rfl, c, (RPost.step g1 k1 post).now k1 (.str _)⟩
    case str y =>
      obtain rfl := o1.u.str
      obtain ⟨c, post⟩ := RPost.cond (y.length ≤ 1000000) (.val .P (.str y) st1) post
      exact .inl ⟨y, rfl, sz c, (RPost.step g1 k1 post).now k1 (.str _)⟩
inductive DJs (G : Gm) (W : WX) : List TE → List (En → ER) → Prop
  | nil : DJs G W [] []
  | cons {t : TE} {ts : List TE} {f : En → ER} {fs : List (En → ER)} : DEv G W t f → DJs G W ts fs → DJs G W (t :: ts) (f :: fs)
def jsGo : List (En → ER) → Str → DE → Sto → ER
  | [], acc, _, st => .val .P (.str acc) st
  | f :: fs, acc, e, st => match f ⟨e, st⟩ with
    | .val _ (.str y) st1 => if (acc ++ y).length ≤ 1000000 then jsGo fs (acc ++ y) e st1 else .bad
    | .exc c l st => .exc c l st
    | _ => .bad
theorem js_run {s : Hs} {σ : L2.St} {e : DE} {Q : VK} : ∀ {ts : List TE} {fs : List (En → ER)}, DJs G W ts fs → ∀ (t : Hs) (st : Sto) (acc : Str), EnvOk G s t σ e → StOk G t st → RPost G W t σ Q (jsGo fs acc e st) → tJs ts acc σ t.h fun out H1 => Q (.str out) H1
  | _, _, .nil, t, st, acc, _, k, post => post.now k (.str _)
  | _, _, .cons (f := f) (fs := fs) h hs, t, st, acc, E, k, post => by
    refine h s t σ e st E k _ ?_
    unfold jsGo at post
    cases q : f ⟨e, st⟩ with
    | exc c l st1 => rw [q] at post; exact post
    | bad => rw [q] at post; exact post
    | val m d st1 =>
      rw [q] at post
      cases d <;> first | exact post.elim | skip
      rename_i y
      intro t1 v g1 k1 o1
      obtain rfl := o1.u.str
      obtain ⟨c, post⟩ := RPost.cond ((acc ++ y).length ≤ 1000000) (jsGo fs (acc ++ y) e st1) post
      exact ⟨y, rfl, sz c, js_run hs t1 st1 (acc ++ y) (E.up g1) k1 (RPost.step g1 k1 post)⟩
def dJs (fs : List (En → ER)) : En → ER := fun E => jsGo fs Str.empty E.e E.st
theorem v_js {ts : List TE} {fs : List (En → ER)} (h : DJs G W ts fs) : DEv G W (fun σ H Q => tJs ts Str.empty σ H fun out H1 => Q (.str out) H1) (dJs fs) := fun s t σ e st E k Q post => js_run h t st Str.empty E k post
end
end Dn
namespace Dn
open PySem PySem.Spec PyProof.Rows L2
section
variable {G : Gm} {W : WX}
def isTP (T : String) : D → Sto → ER
  | .ptr n, st => (match stLst st n with | some _ => ofOpt (kitB "list" T) fun b => .val .P (.bl b) st | none => .bad)
  | d, st => isT T d st
def dIsiP (T : String) (f : En → ER) : En → ER := fun E => (f E).bind (isTP T)
end
end Dn
namespace Dn
open PySem PySem.Spec PyProof.Rows L2
@[simp] theorem e_oAdd_1 : ∀ i j st, oAdd (.int i) (.int j) st = .val .P (.int (i + j)) st := fun _ _ _ => rfl
@[simp] theorem e_oAdd_2 : ∀ a b st, oAdd (.str a) (.str b) st = if a.length + b.length ≤ 1000000 then .val .P (.str (a ++ b)) st else .bad := fun _ _ _ => rfl
@[simp] theorem e_oAdd_3 : ∀ a b st, oAdd (.lst a) (.lst b) st = if a.length + b.length ≤ 1000000 then .val .N (.lst (a ++ b)) st else .bad := fun _ _ _ => rfl
@[simp] theorem e_oAdd_4 : ∀ a b st, oAdd (.tup a) (.tup b) st = if a.length + b.length ≤ 1000000 then .val .P (.tup (a ++ b)) st else .bad := fun _ _ _ => rfl
@[simp] theorem e_oSub_1 : ∀ i j st, oSub (.int i) (.int j) st = .val .P (.int (i - j)) st := fun _ _ _ => rfl
@[simp] theorem e_oMul_1 : ∀ i j st, oMul (.int i) (.int j) st = if i.natAbs.log2 + j.natAbs.log2 < 1000000 then .val .P (.int (i * j)) st else .bad := fun _ _ _ => rfl
@[simp] theorem e_oMul_2 : ∀ a k st, oMul (.lst a) (.int k) st = if -(2 ^ 63) ≤ k ∧ k < 2 ^ 63 ∧ a.length * k.toNat ≤ 1000000 then .val .N (.lst (List.replicate k.toNat a).flatten) st else .bad := fun _ _ _ => rfl
@[simp] theorem e_oDiv_1 : ∀ i j st, oDiv (.int i) (.int j) st = if j ≠ 0 ∧ j.natAbs.log2 < 9000 then .val .P (.int (i.fdiv j)) st else .bad := fun _ _ _ => rfl
@[simp] theorem e_oMod_1 : ∀ i j st, oMod (.int i) (.int j) st = if j ≠ 0 then .val .P (.int (i.fmod j)) st else .bad := fun _ _ _ => rfl
@[simp] theorem e_oPow_1 : ∀ i j st, oPow (.int i) (.int j) st = if 0 ≤ j ∧ j ≤ 1000000 ∧ i.natAbs < 2 ^ 64 then .val .P (.int (i ^ j.toNat)) st else .bad := fun _ _ _ => rfl
@[simp] theorem e_oCmp_1 {p : Int → Int → Bool} : ∀ i j st, oCmp p (.int i) (.int j) st = .val .P (.bl (p i j)) st := fun _ _ _ => rfl
@[simp] theorem e_oIx_1 : ∀ l i st, oIx (.lst l) (.int i) st = ofOpt (atI l i) fun d => .val .P d st := fun _ _ _ => rfl
@[simp] theorem e_oIx_2 : ∀ l i st, oIx (.tup l) (.int i) st = ofOpt (atI l i) fun d => .val .P d st := fun _ _ _ => rfl
@[simp] theorem e_oIx_3 : ∀ l i st, oIx (.scr l) (.int i) st = ofOpt (atI l i) fun d => .val .P (.int d) st := fun _ _ _ => rfl
@[simp] theorem e_oIx_4 : ∀ z i st, oIx (.str z) (.int i) st = if z.length ≤ 1000000 then ofOpt (atI z.cps.toList i) (fun c => .val .P (.str ⟨#[c]⟩) st) else .bad := fun _ _ _ => rfl
@[simp] theorem e_oIx_5 : ∀ n i st, oIx (.ptr n) (.int i) st = ofOpt (stLst st n) fun l => ofOpt (atI l i) fun d => .val .P d st := fun _ _ _ => rfl
@[simp] theorem e_dVar {i : Nat} {E : En} : dVar i E = match E.e[i]? with
  | some (.val d) => .val .P d E.st
  | some (.own l) => .val .B (.lst l) E.st
  | _ => .bad := rfl
@[simp] theorem e_dC {d : D} {E : En} : dC d E = .val .P d E.st := rfl
@[simp] theorem e_dOp {o : D → D → Sto → ER} {f g : En → ER} {E : En} : dOp o f g E = (f E).bind fun x st => (g ⟨E.e, st⟩).bind fun y st => o x y st := rfl
@[simp] theorem e_dUn {o : D → Sto → ER} {f : En → ER} {E : En} : dUn o f E = (f E).bind o := rfl
@[simp] theorem e_oNeg_1 : ∀ i st, oNeg (.int i) st = .val .P (.int (-i)) st := fun _ _ => rfl
@[simp] theorem e_dAnd {f g : En → ER} {E : En} : dAnd f g E = (f E).bindB fun b st => if b = true then g ⟨E.e, st⟩ else .val .P (.bl false) st := rfl
@[simp] theorem e_dOr {f g : En → ER} {E : En} : dOr f g E = (f E).bindB fun b st => if b = true then .val .P (.bl true) st else g ⟨E.e, st⟩ := rfl
@[simp] theorem e_dNot {f : En → ER} {E : En} : dNot f E = (f E).bindB fun b st => .val .P (.bl (!b)) st := rfl
@[simp] theorem e_dIf {c f g : En → ER} {E : En} : dIf c f g E = (c E).bindB fun b st => if b = true then f ⟨E.e, st⟩ else g ⟨E.e, st⟩ := rfl
@[simp] theorem e_dChain {o o' : D → D → Sto → ER} {f g h : En → ER} {E : En} : dChain o o' f g h E = (f E).bind fun x st => (g ⟨E.e, st⟩).bind fun y st => (o x y st).bindB fun b st => if b = true then (h ⟨E.e, st⟩).bind fun z st => o' y z st else .val .P (.bl false) st := rfl
@[simp] theorem e_aNil {E : En} : aNil  E = .ok true [] E.st := rfl
@[simp] theorem e_aCons {f : En → ER} {g : En → AR} {E : En} : aCons f g E = (f E).cons fun st => g ⟨E.e, st⟩ := rfl
@[simp] theorem e_dTup {f : En → AR} {E : En} : dTup f E = match f E with
  | .ok true l st => if l.length ≤ 1000000 then .val .P (.tup l) st else .bad
  | .exc c l st => .exc c l st
  | _ => .bad := rfl
@[simp] theorem e_dLst {f : En → AR} {E : En} : dLst f E = match f E with
  | .ok true l st => if l.length ≤ 1000000 then .val .N (.lst l) st else .bad
  | .exc c l st => .exc c l st
  | _ => .bad := rfl
@[simp] theorem e_dPut {f : En → ER} {E : En} : dPut f E = match f E with
  | .val .N (.lst l) st => .val .P (.ptr st.length) (st ++ [.lst l])
  | .exc c l st => .exc c l st
  | _ => .bad := rfl
@[simp] theorem e_dCall {F : List D → Sto → ER} {f : En → AR} {E : En} : dCall F f E = match f E with
  | .ok true l st => F l st
  | .exc c l st => .exc c l st
  | _ => .bad := rfl
@[simp] theorem e_dCB {o : List D → Sto → ER} {f : En → AR} {E : En} : dCB o f E = match f E with
  | .ok _ l st => o l st
  | .exc c l st => .exc c l st
  | .bad => .bad := rfl
@[simp] theorem e_oAbs_1 : ∀ i st, oAbs ([.int i]) st = .val .P (.int (if i < 0 then -i else i)) st := fun _ _ => rfl
@[simp] theorem e_oLen_1 : ∀ l st, oLen ([.lst l]) st = .val .P (.int l.length) st := fun _ _ => rfl
@[simp] theorem e_oLen_2 : ∀ l st, oLen ([.tup l]) st = .val .P (.int l.length) st := fun _ _ => rfl
@[simp] theorem e_oLen_3 : ∀ l st, oLen ([.scr l]) st = .val .P (.int l.length) st := fun _ _ => rfl
@[simp] theorem e_oLen_4 : ∀ n st, oLen ([.ptr n]) st = ofOpt (stLst st n) fun l => .val .P (.int l.length) st := fun _ _ => rfl
@[simp] theorem e_oLen_5 : ∀ z st, oLen ([.str z]) st = if z.length ≤ 1000000 then .val .P (.int z.length) st else .bad := fun _ _ => rfl
@[simp] theorem e_oMax2_1 : ∀ i j st, oMax2 ([.int i, .int j]) st = .val .P (.int (if j > i then j else i)) st := fun _ _ _ => rfl
@[simp] theorem e_oMin2_1 : ∀ i j st, oMin2 ([.int i, .int j]) st = .val .P (.int (if j < i then j else i)) st := fun _ _ _ => rfl
@[simp] theorem e_oSum_1 : ∀ l st, oSum ([.lst l]) st = ofOpt (intsOf l) fun ns => .val .P (.int ns.sum) st := fun _ _ => rfl
@[simp] theorem e_oList_1 : ∀ l st, oList ([.lst l]) st = .val .N (.lst l) st := fun _ _ => rfl
@[simp] theorem e_oList_2 : ∀ l st, oList ([.tup l]) st = .val .N (.lst l) st := fun _ _ => rfl
@[simp] theorem e_oList_3 : ∀ l st, oList ([.scr l]) st = .val .N (.lst (l.map .int)) st := fun _ _ => rfl
@[simp] theorem e_oList_4 : ∀ n st, oList ([.ptr n]) st = ofOpt (stLst st n) fun l => .val .N (.lst l) st := fun _ _ => rfl
@[simp] theorem e_oTuple_1 : ∀ l st, oTuple ([.lst l]) st = .val .P (.tup l) st := fun _ _ => rfl
@[simp] theorem e_oTuple_2 : ∀ l st, oTuple ([.tup l]) st = .val .P (.tup l) st := fun _ _ => rfl
@[simp] theorem e_dSl {o : D → Option Int → Option Int → Sto → ER} {f : En → ER} {lo hi : En → Option ER} {E : En} : dSl o f lo hi E = (f E).bind fun x st => ofOpt (partI (lo ⟨E.e, st⟩) st) fun l => ofOpt (partI (hi ⟨E.e, l.2⟩) l.2) fun u => o x l.1 u.1 u.2 := rfl
@[simp] theorem e_sSeq {f g : En → SR} {E : En} : sSeq f g E = (f E).bind g := rfl
@[simp] theorem e_sSet {i : Nat} {f : En → ER} {E : En} : sSet i f E = match f E with
  | .val .P d st => .nx ⟨E.e.set i (.val d), st⟩
  | .val .N (.lst l) st => .nx ⟨E.e.set i (.own l), st⟩
  | .exc c l st => .exc c l ⟨E.e, st⟩
  | _ => .bad := rfl
@[simp] theorem e_sSetF {i : Nat} {f : En → ER} {E : En} : sSetF i f E = match f E with
  | .val .P d st => .nx ⟨E.e.set i (.val d), st⟩
  | .val .N d st => .nx ⟨E.e.set i (.val d), st⟩
  | .exc c l st => .exc c l ⟨E.e, st⟩
  | _ => .bad := rfl
@[simp] theorem e_sAsg {t : D → DE → Option DE} {f : En → ER} {E : En} : sAsg t f E = match f E with
  | .val .B _ _ => .bad
  | .val _ d st => (match t d E.e with | some e' => .nx ⟨e', st⟩ | none => .bad)
  | .exc c l st => .exc c l ⟨E.e, st⟩
  | _ => .bad := rfl
@[simp] theorem e_sPar {i j : Nat} {f : En → AR} {E : En} : sPar i j f E = match f E with
  | .ok true [a, b] st => .nx ⟨(E.e.set i (.val a)).set j (.val b), st⟩
  | .exc c l st => .exc c l ⟨E.e, st⟩
  | _ => .bad := rfl
@[simp] theorem e_sDrop {f : En → ER} {E : En} : sDrop f E = match f E with
  | .val _ _ st => .nx ⟨E.e, st⟩
  | .exc c l st => .exc c l ⟨E.e, st⟩
  | .bad => .bad := rfl
@[simp] theorem e_sRet {f : En → ER} {E : En} : sRet f E = match f E with
  | .val .P d st => .rt .P d st
  | .val .N d st => .rt .N d st
  | .exc c l st => .exc c l ⟨E.e, st⟩
  | _ => .bad := rfl
@[simp] theorem e_sRetV {i : Nat} {E : En} : sRetV i E = match E.e[i]? with
  | some (.val d) => .rt .P d E.st
  | some (.own l) => .rt .N (.lst l) E.st
  | _ => .bad := rfl
@[simp] theorem e_sRetN {E : En} : sRetN  E = .rt .P .non E.st := rfl
@[simp] theorem e_sIf {c : En → ER} {f g : En → SR} {E : En} : sIf c f g E = match c E with
  | .val _ (.bl b) st => if b = true then f ⟨E.e, st⟩ else g ⟨E.e, st⟩
  | .exc c l st => .exc c l ⟨E.e, st⟩
  | _ => .bad := rfl
@[simp] theorem e_sFrz {i : Nat} {g : En → SR} {E : En} : sFrz i g E = g ⟨frz i E.e, E.st⟩ := rfl
@[simp] theorem e_sApp {i : Nat} {f : En → ER} {E : En} : sApp i f E = match E.e[i]? with
  | some (.own l) => (match f E with
    | .val .B _ _ => .bad
    | .val _ d st => if l.length < 1000000 then .nx ⟨E.e.set i (.own (l ++ [d])), st⟩ else .bad
    | .exc c l st => .exc c l ⟨E.e, st⟩
    | .bad => .bad)
  | _ => .bad := rfl
@[simp] theorem e_sSetO {x : Nat} {f fi : En → ER} {E : En} : sSetO x f fi E = match E.e[x]? with
  | some (.own l) => (match f E with
    | .val .B _ _ => .bad
    | .val _ d st => (match fi ⟨E.e, st⟩ with
      | .val _ (.int i) st1 => (match ixN l.length i with | some j => .nx ⟨E.e.set x (.own (l.set j d)), st1⟩ | none => .bad)
      | .exc c l st => .exc c l ⟨E.e, st⟩
      | _ => .bad)
    | .exc c l st => .exc c l ⟨E.e, st⟩
    | .bad => .bad)
  | _ => .bad := rfl
@[simp] theorem e_sSetP {fb f fi : En → ER} {E : En} : sSetP fb f fi E = match f E with
  | .val .B _ _ => .bad
  | .val _ d st => (match fb ⟨E.e, st⟩ with
    | .val _ (.ptr n) st1 => (match fi ⟨E.e, st1⟩ with
      | .val _ (.int i) st2 => (match stLst st2 n with
        | some l => (match ixN l.length i with | some j => .nx ⟨E.e, st2.set n (.lst (l.set j d))⟩ | none => .bad)
        | none => .bad)
      | .exc c l st => .exc c l ⟨E.e, st⟩
      | _ => .bad)
    | .exc c l st => .exc c l ⟨E.e, st⟩
    | _ => .bad)
  | .exc c l st => .exc c l ⟨E.e, st⟩
  | .bad => .bad := rfl
@[simp] theorem e_dIter {f : En → ER} {E : En} : dIter f E = match f E with
  | .val .B _ _ => .bad
  | .val _ d st => (match itemsOf d with | some l => .ok true l st | none => .bad)
  | .exc c l st => .exc c l st
  | .bad => .bad := rfl
@[simp] theorem e_dRng {r : List D → Option (Int × Nat)} {f : En → AR} {E : En} : dRng r f E = match f E with
  | .ok _ l st => (match r l with | some r => .ok true (rangeD r.1 r.2) st | none => .bad)
  | .exc c l st => .exc c l st
  | _ => .bad := rfl
@[simp] theorem e_dEnum {f : En → AR} {E : En} : dEnum f E = match f E with
  | .ok true [.lst l] st => .ok true (enumD 0 l) st
  | .exc c l st => .exc c l st
  | _ => .bad := rfl
@[simp] theorem e_dZip {f : En → AR} {E : En} : dZip f E = match f E with
  | .ok true [.lst l, .lst m] st => .ok true (zipD l m) st
  | .exc c l st => .exc c l st
  | _ => .bad := rfl
@[simp] theorem e_sFor {src : En → AR} {t : D → DE → Option DE} {b : En → SR} {E : En} : sFor src t b E = match src E with
  | .ok _ l st => forD (tgB t b) l ⟨E.e, st⟩
  | .exc c l st => .exc c l ⟨E.e, st⟩
  | .bad => .bad := rfl
@[simp] theorem e_dLc {src : En → AR} {t : D → DE → Option DE} {c f : En → ER} {vs : List Nat} {E : En} : dLc src t c f vs E = match src E with
  | .ok _ l st => if l.length ≤ 1000000 then ofOpt (lcGo (lcStep t c f (wipeE E.e vs)) l st) fun r => .val .N (.lst r.1) r.2 else .bad
  | .exc k l st => .exc k l st
  | .bad => .bad := rfl
@[simp] theorem e_sRaise {c : Nat} {E : En} : sRaise c E = .exc c [] E := rfl
@[simp] theorem e_dCallG {F : List D → Sto → ER} {n m : Nat} {idx : List Nat} {dd : List D} {f g : En → AR} {E : En} : dCallG F n m idx dd f g E = match f E with
  | .ok true l st => (match g ⟨E.e, st⟩ with
    | .ok true z st1 => if l.length = n ∧ z.length = m then F (pickL idx (l ++ z ++ dd)) st1 else .bad
    | .exc c l st => .exc c l st
    | _ => .bad)
  | .exc c l st => .exc c l st
  | _ => .bad := rfl
@[simp] theorem e_dIsi {T : String} {f : En → ER} {E : En} : dIsi T f E = (f E).bind (isT T) := rfl
@[simp] theorem e_sTryAs {i : Nat} {catch? : Nat → Option Bool} {g : En → SR} {h : Nat → List D → En → SR} {E : En} : sTryAs i catch? g h E = match g E with
  | .exc c l E1 => (match catch? c with
    | some true => (match h c l ⟨(clr E1.e).set i .exn, E1.st⟩ with
      | .nx E2 => .nx ⟨(clr E2.e).set i .emp, E2.st⟩
      | .bk E2 => .bk ⟨(clr E2.e).set i .emp, E2.st⟩
      | .ct E2 => .ct ⟨(clr E2.e).set i .emp, E2.st⟩
      | .rt m d st => .rt m d st
      | _ => .bad)
    | some false => .exc c l E1
    | none => .bad)
  | r => r := rfl
@[simp] theorem e_dIsE {i : Nat} {b : Option Bool} {E : En} : dIsE i b E = match E.e[i]? with
  | some .exn => ofOpt b fun b => .val .P (.bl b) E.st
  | _ => .bad := rfl
@[simp] theorem e_dMtP {op : List D → List D → Option (D × List D)} {fb : En → ER} {fa : En → AR} {E : En} : dMtP op fb fa E = match fb E with
  | .val _ (.ptr n) st => (match stLst st n with
    | some _ => (match fa ⟨E.e, st⟩ with
      | .ok true ds st1 => (match stLst st1 n with
        | some l => (match op l ds with | some o => .val .P o.1 (st1.set n (.lst o.2)) | none => .bad)
        | none => .bad)
      | .exc c l st => .exc c l st
      | _ => .bad)
    | none => .bad)
  | .exc c l st => .exc c l st
  | _ => .bad := rfl
@[simp] theorem e_sMtO {j : Option Nat} {op : List D → List D → Option (D × List D)} {i : Nat} {fa : En → AR} {E : En} : sMtO j op i fa E = match E.e[i]? with
  | some (.own l) => (match fa E with
    | .ok true ds st1 => (match op l ds with | some o => .nx ⟨putAt j o.1 (E.e.set i (.own o.2)), st1⟩ | none => .bad)
    | .exc c l st => .exc c l ⟨E.e, st⟩
    | _ => .bad)
  | _ => .bad := rfl
@[simp] theorem e_sMt {op : List D → List D → Option (D × List D)} {i : Nat} {fa : En → AR} {E : En} : sMt op i fa E = match E.e[i]? with
  | some (.own _) => sMtO none op i fa E
  | _ => sDrop (dMtP op (dVar i) fa) E := rfl
@[simp] theorem e_sMtA {j : Nat} {op : List D → List D → Option (D × List D)} {i : Nat} {fa : En → AR} {E : En} : sMtA j op i fa E = match E.e[i]? with
  | some (.own _) => sMtO (some j) op i fa E
  | _ => sSetF j (dMtP op (dVar i) fa) E := rfl
@[simp] theorem e_dFld {ix : Nat → Option Nat} {fe : En → ER} {E : En} : dFld ix fe E = (fe E).bind fun x st => match x with
  | .ptr n => (match stIns st n with
    | some (c, l) => (match ix c with
      | some i => ofOpt l[i]? fun d => .val .P d st
      | none => .bad)
    | none => .bad)
  | _ => .bad := rfl
@[simp] theorem e_sFldS {ix : Nat → Option Nat} {fo fe : En → ER} {E : En} : sFldS ix fo fe E = match fe E with
  | .val .B _ _ => .bad
  | .val _ d st => (match fo ⟨E.e, st⟩ with
    | .val _ (.ptr n) st1 => (match stIns st1 n with
      | some (c, l) => (match ix c with
        | some i => (match putI i d l with
          | some l' => .nx ⟨E.e, st1.set n (.ins c l')⟩
          | none => .bad)
        | none => .bad)
      | none => .bad)
    | .exc c l st => .exc c l ⟨E.e, st⟩
    | _ => .bad)
  | .exc c l st => .exc c l ⟨E.e, st⟩
  | .bad => .bad := rfl
@[simp] theorem e_dMeth {c : Nat} {F : List D → Sto → ER} {n r : Nat} {idx : List Nat} {dd : List D} {fo : En → ER} {fa fk : En → AR} {E : En} : dMeth c F n r idx dd fo fa fk E = (fo E).bind fun x st => match x with
  | .ptr p => (match stIns st p with
    | some (c', _) => if c' = c then (match fa ⟨E.e, st⟩ with
      | .ok true l st1 => (match fk ⟨E.e, st1⟩ with
        | .ok true z st2 => if l.length + 1 = n ∧ z.length = r then F (pickL idx ((.ptr p :: l) ++ z ++ dd)) st2 else .bad
        | .exc c l st => .exc c l st
        | _ => .bad)
      | .exc c l st => .exc c l st
      | _ => .bad) else .bad
    | none => .bad)
  | _ => .bad := rfl
@[simp] theorem e_dAlt {p : En → Bool} {f g : En → ER} {E : En} : dAlt p f g E = if p E = true then f E else g E := rfl
@[simp] theorem e_dMake {c : Nat} {F : List D → Sto → ER} {n r : Nat} {idx : List Nat} {dd : List D} {fa fk : En → AR} {E : En} : dMake c F n r idx dd fa fk E = match fa E with
  | .ok true l st => (match fk ⟨E.e, st⟩ with
    | .ok true z st1 => if l.length + 1 = n ∧ z.length = r then (match F (pickL idx ((.ptr st1.length :: l) ++ z ++ dd)) (st1 ++ [.ins c []]) with
      | .val _ .non st2 => .val .P (.ptr st1.length) st2
      | .exc c l st => .exc c l st
      | _ => .bad) else .bad
    | .exc c l st => .exc c l st
    | _ => .bad)
  | .exc c l st => .exc c l st
  | _ => .bad := rfl
@[simp] theorem e_oAll_1 : ∀ l st, oAll ([.lst l]) st = ofOpt (boolsOf l) fun ns => .val .P (.bl (ns.all id)) st := fun _ _ => rfl
@[simp] theorem e_oAny_1 : ∀ l st, oAny ([.lst l]) st = ofOpt (boolsOf l) fun ns => .val .P (.bl (ns.any id)) st := fun _ _ => rfl
@[simp] theorem e_oRev_1 : ∀ l st, oRev (.lst l) st = .val .N (.lst l.reverse) st := fun _ _ => rfl
@[simp] theorem e_oRev_2 : ∀ n st, oRev (.ptr n) st = ofOpt (stLst st n) fun l => .val .N (.lst l.reverse) st := fun _ _ => rfl
@[simp] theorem e_dRev {f : En → ER} {E : En} : dRev f E = (f E).bind oRev := rfl
@[simp] theorem e_dMtX {op : List D → List D → Option (D × List D)} {fb : En → ER} {fa : En → AR} {E : En} : dMtX op fb fa E = match fb E with
  | .val .N (.lst l) st => (match fa ⟨E.e, st⟩ with
    | .ok true ds st1 => (match op l ds with | some o => .val .P o.1 st1 | none => .bad)
    | .exc c l st => .exc c l st
    | _ => .bad)
  | _ => dMtP op fb fa E := rfl
@[simp] theorem e_oSorted_1 : ∀ l st, oSorted ([.lst l]) st = ofOpt (intsOf l) fun ns => if ns.length < 64 then .val .N (.lst ((srt ns).map .int)) st else .bad := fun _ _ => rfl
@[simp] theorem e_dLr {f : En → ER} {E : En} : dLr f E = match f E with
  | .val _ (.int n) st => if -4611686018427387904 ≤ n ∧ n ≤ 1000000 then .val .N (.lst (rangeD 0 n.toNat)) st else .bad
  | .exc c l st => .exc c l st
  | _ => .bad := rfl
@[simp] theorem e_dHeld {i : Nat} {h : List (Option D) → D → D → Sto → ER} {fa : En → AR} {E : En} : dHeld i h fa E = match E.e[i]? with
  | some (.clo ds) => (match fa E with
    | .ok true [x, y] st => h ds x y st
    | .exc c l st => .exc c l st
    | _ => .bad)
  | _ => .bad := rfl
@[simp] theorem e_dLamC {np : Nat} {q : Str} {N : Nat} {g : En → SR} {f1 : En → ER} {E : En} : dLamC np q N g f1 E = match f1 E with
  | .val .B _ _ => .bad
  | .val _ d1 st => (match st[np]? with
    | some (.tbl q') => if q' = q then valOnly (g ⟨startL N d1 (cloOf E.e), st⟩).ret else .bad
    | _ => .bad)
  | .exc c l st => .exc c l st
  | .bad => .bad := rfl
@[simp] theorem e_dLenX {Os : OwnL} {f : En → ER} {E : En} : dLenX Os f E = match f E with
  | .val _ (.ptr n) st => (match stIns st n with
    | some (c, _) => ofOpt (ownF Os c) fun F => asLen (F [.ptr n] st)
    | none => oLen [.ptr n] st)
  | .val _ d st => oLen [d] st
  | .exc c l st => .exc c l st
  | .bad => .bad := rfl
@[simp] theorem e_oInt_1 : ∀ i st, oInt ([.int i]) st = .val .P (.int i) st := fun _ _ => rfl
@[simp] theorem e_oInt_2 : ∀ b st, oInt ([.bl b]) st = .val .P (.int (if b then 1 else 0)) st := fun _ _ => rfl
@[simp] theorem e_oInt_3 : ∀ a st, oInt ([.str a]) st = if a.length ≤ 640 then ofOpt (PySem.intText? a) fun n => .val .P (.int n) st else .bad := fun _ _ => rfl
@[simp] theorem e_oStr_1 : ∀ i st, oStr ([.int i]) st = if i.natAbs.log2 < 1920 then .val .P (.str (itxt i)) st else .bad := fun _ _ => rfl
@[simp] theorem e_oStr_2 : ∀ a st, oStr ([.str a]) st = .val .P (.str a) st := fun _ _ => rfl
@[simp] theorem e_dStrX {Os : OwnL} {f : En → ER} {E : En} : dStrX Os f E = match f E with
  | .val _ (.ptr n) st => (match stIns st n with
    | some (c, _) => ofOpt (ownF Os c) fun F => asStr (F [.ptr n] st)
    | none => .bad)
  | .val _ d st => oStr [d] st
  | .exc c l st => .exc c l st
  | .bad => .bad := rfl
@[simp] theorem e_dIsO {tab : Nat → Option Bool} {f : En → ER} {E : En} : dIsO tab f E = (f E).bind (isO tab) := rfl
@[simp] theorem e_dEqO {Os : OwnL} {Cs : List Nat} {neg : Bool} {o : D → D → Sto → ER} {f g : En → ER} {E : En} : dEqO Os Cs neg o f g E = match f E with
  | .val _ x st => (match g ⟨E.e, st⟩ with
    | .val m y st1 => eqO2 Os Cs neg o m x y st1
    | .exc c l st => .exc c l st
    | .bad => .bad)
  | .exc c l st => .exc c l st
  | .bad => .bad := rfl
@[simp] theorem e_dMs {op : Str → List D → Sto → ER} {fb : En → ER} {fa : En → AR} {E : En} : dMs op fb fa E = match fb E with
  | .val _ (.str x) st => (match fa ⟨E.e, st⟩ with
    | .ok _ ds st1 => op x ds st1
    | .exc c l st => .exc c l st
    | .bad => .bad)
  | .exc c l st => .exc c l st
  | _ => .bad := rfl
@[simp] theorem e_dFmt {f : En → ER} {E : En} : dFmt f E = match f E with
  | .val _ (.str y) st => if y.length ≤ 1000000 then .val .P (.str y) st else .bad
  | .val _ (.int i) st => if i.natAbs.log2 < 1920 then .val .P (.str (itxt i)) st else .bad
  | .exc c l st => .exc c l st
  | _ => .bad := rfl
@[simp] theorem e_dJs {fs : List (En → ER)} {E : En} : dJs fs E = jsGo fs Str.empty E.e E.st := rfl
@[simp] theorem e_dIsiP {T : String} {f : En → ER} {E : En} : dIsiP T f E = (f E).bind (isTP T) := rfl
@[simp] theorem e_sSkip {E : En} : sSkip E = .nx E := rfl
@[simp] theorem e_sBreak {E : En} : sBreak E = .bk E := rfl
@[simp] theorem e_sCont {E : En} : sCont E = .ct E := rfl
@[simp] theorem cons_P {d : D} {st : Sto} {a : Sto → AR} : (ER.val .P d st).cons a = (a st).cons true d := rfl
@[simp] theorem cons_N {d : D} {st : Sto} {a : Sto → AR} : (ER.val .N d st).cons a = (a st).cons true d := rfl
@[simp] theorem cons_B {d : D} {st : Sto} {a : Sto → AR} : (ER.val .B d st).cons a = (a st).cons false d := rfl
@[simp] theorem cons_exc {k : Nat} {l : List D} {st : Sto} {a : Sto → AR} : (ER.exc k l st).cons a = .exc k l st := rfl
@[simp] theorem cons_bad {a : Sto → AR} : ER.bad.cons a = .bad := rfl
@[simp] theorem acons_ok {p q : Bool} {d : D} {l : List D} {st : Sto} : (AR.ok q l st).cons p d = .ok (p && q) (d :: l) st := rfl
@[simp] theorem acons_exc {p : Bool} {d : D} {k : Nat} {l : List D} {st : Sto} : (AR.exc k l st).cons p d = .exc k l st := rfl
@[simp] theorem acons_bad {p : Bool} {d : D} : AR.bad.cons p d = .bad := rfl
@[simp] theorem e_pickNil {α : Type} {l : List α} : pickL [] l = [] := rfl
@[simp] theorem e_pickCons {α : Type} {k : Nat} {ks : List Nat} {l : List α} : pickL (k :: ks) l = (match l[k]? with | some x => [x] | none => []) ++ pickL ks l := by
  unfold pickL; rw [List.filterMap_cons]; cases l[k]? <;> rfl
@[simp] theorem e_part0 {st : Sto} : partI none st = some (none, st) := rfl
@[simp] theorem e_partI {m : Md} {i : Int} {st st1 : Sto} : partI (some (.val m (.int i) st1)) st = some (some i, st1) := rfl
@[simp] theorem e_tgN {i : Nat} {e : DE} {d : D} : tgN i d e = some (e.set i (.val d)) := rfl
@[simp] theorem e_tgsNil {e : DE} : tgsNil [] e = some e := rfl
@[simp] theorem e_tgsCons {e : DE} {q : D → DE → Option DE} {qs : List D → DE → Option DE} {d : D} {l : List D} : tgsCons q qs (d :: l) e = (q d e).bind (qs l) := rfl
@[simp] theorem e_tgTt {e : DE} {n : Nat} {qs : List D → DE → Option DE} {l : List D} : tgT n qs (.tup l) e = if l.length = n then qs l e else none := rfl
@[simp] theorem e_tgTl {e : DE} {n : Nat} {qs : List D → DE → Option DE} {l : List D} : tgT n qs (.lst l) e = if l.length = n then qs l e else none := rfl
@[simp] theorem e_tgB {E : En} {s : En → SR} {q : D → DE → Option DE} {d : D} : tgB q s d E = match q d E.e with | some e' => s ⟨e', E.st⟩ | none => .bad := rfl
@[simp] theorem e_for0 {b : D → En → SR} {E : En} : forD b [] E = .nx E := rfl
theorem e_forC {b : D → En → SR} {x : D} {xs : List D} {E : En} : forD b (x :: xs) E = match b x E with | .nx e' => forD b xs e' | .ct e' => forD b xs e' | .bk e' => .nx e' | r => r := rfl
@[simp] theorem e_itL {l : List D} : itemsOf (.lst l) = some l := rfl
@[simp] theorem e_itT {l : List D} : itemsOf (.tup l) = some l := rfl
@[simp] theorem e_itS {z : Str} : itemsOf (.str z) = some (z.cps.toList.map fun c => .str ⟨#[c]⟩) := rfl
@[simp] theorem e_itR {l : List Int} : itemsOf (.scr l) = some (l.map .int) := rfl
@[simp] theorem e_rng1 {j : Int} : rng1 [.int j] = if -(2 ^ 62) ≤ j ∧ j < 2 ^ 62 then some (0, j.toNat) else none := rfl
@[simp] theorem e_rng2 {i j : Int} : rng2 [.int i, .int j] = if -(2 ^ 62) ≤ i ∧ i < 2 ^ 62 ∧ -(2 ^ 62) ≤ j ∧ j < 2 ^ 62 then some (i, (j - i).toNat) else none := rfl
@[simp] theorem e_wipe0 {e : DE} : wipeE e [] = e := rfl
@[simp] theorem e_wipeC {e : DE} {v : Nat} {vs : List Nat} : wipeE e (v :: vs) = (wipeE e vs).set v .emp := rfl
@[simp] theorem e_lc0 {k : D → Sto → Option (Option D × Sto)} {st : Sto} : lcGo k [] st = some ([], st) := rfl
theorem e_lcC {k : D → Sto → Option (Option D × Sto)} {d : D} {l : List D} {st : Sto} : lcGo k (d :: l) st = (k d st).bind fun o => (lcGo k l o.2).bind fun r => some (o.1.toList ++ r.1, r.2) := rfl
@[simp] theorem e_lcStep {q : D → DE → Option DE} {c f : En → ER} {e : DE} {d : D} {st : Sto} : lcStep q c f e d st = match q d e with
  | none => none
  | some e2 => (match c ⟨e2, st⟩ with
    | .val _ (.bl b) st1 => if b = true then (match f ⟨e2, st1⟩ with | .val .P y st2 => some (some y, st2) | .val .N y st2 => some (some y, st2) | _ => none) else some (none, st1)
    | _ => none) := rfl
@[simp] theorem e_nilOnly {s : En → SR} {E : En} : nilOnly [] s E = s E := rfl
@[simp] theorem e_clr0 : clr [] = [] := rfl
@[simp] theorem e_clrC {x : SL} {r : DE} : clr (x :: r) = (match x with | .exn => .emp | .clo _ => .emp | s => s) :: clr r := rfl
@[simp] theorem e_ret_nx {E : En} : (SR.nx E).ret = .val .P .non E.st := rfl
@[simp] theorem e_ret_rt {m : Md} {d : D} {st : Sto} : (SR.rt m d st).ret = .val m d st := rfl
@[simp] theorem e_ret_exc {k : Nat} {l : List D} {E : En} : (SR.exc k l E).ret = .exc k l E.st := rfl
@[simp] theorem e_ret_bad : SR.bad.ret = .bad := rfl
@[simp] theorem e_fnD {n m : Nat} {s : En → SR} {ds : List D} {st : Sto} : fnD n m s ds st = if ds.length = n then (s ⟨startE m ds, st⟩).ret else .bad := rfl
@[simp] theorem e_startE {n : Nat} {ds : List D} : startE n ds = ds.map .val ++ List.replicate (n - ds.length) .emp := rfl
@[simp] theorem e_frz {i : Nat} {e : DE} : frz i e = match e[i]? with | some (.own l) => e.set i (.val (.lst l)) | _ => e := rfl
@[simp] theorem e_sSetI {x : Nat} {f fi : En → ER} {E : En} : sSetI x f fi E = match E.e[x]? with | some (.own _) => sSetO x f fi E | _ => sSetP (dVar x) f fi E := rfl
@[simp] theorem e_stLst {st : Sto} {n : Nat} : stLst st n = match st[n]? with | some (.lst l) => some l | _ => none := rfl
@[simp] theorem e_slL {l : List D} {lo hi : Option Int} {st : Sto} : oSl (.lst l) lo hi st = .val .N (.lst (cutG l lo hi)) st := rfl
@[simp] theorem e_slR {l : List Int} {lo hi : Option Int} {st : Sto} : oSl (.scr l) lo hi st = .val .N (.lst ((cutG l lo hi).map .int)) st := rfl
@[simp] theorem e_slS {z : Str} {lo hi : Option Int} {st : Sto} : oSl (.str z) lo hi st = if z.length ≤ 1000000 then .val .P (.str (cutS z lo hi)) st else .bad := rfl
@[simp] theorem e_isN {a : D} {st : Sto} : oIsN a .non st = .val .P (.bl (isNon a)) st := rfl
@[simp] theorem e_notN {a : D} {st : Sto} : oNotN a .non st = .val .P (.bl (!isNon a)) st := rfl
@[simp] theorem isNon_non : isNon .non = true := rfl
@[simp] theorem isNon_int {i : Int} : isNon (.int i) = false := rfl
@[simp] theorem isNon_str {i : Str} : isNon (.str i) = false := rfl
@[simp] theorem isNon_lst {i : List D} : isNon (.lst i) = false := rfl
@[simp] theorem isNon_tup {i : List D} : isNon (.tup i) = false := rfl
@[simp] theorem isNon_obj {c : Nat} {i : List D} : isNon (.obj c i) = false := rfl
@[simp] theorem e_eqI {i j : Int} {st : Sto} : oEq (.int i) (.int j) st = .val .P (.bl (decide (i = j))) st := rfl
@[simp] theorem e_neI {i j : Int} {st : Sto} : oNe (.int i) (.int j) st = .val .P (.bl (!decide (i = j))) st := rfl
@[simp] theorem e_eqS {i j : Str} {st : Sto} : oEq (.str i) (.str j) st = .val .P (.bl (decide (i = j))) st := rfl
@[simp] theorem e_neS {i j : Str} {st : Sto} : oNe (.str i) (.str j) st = .val .P (.bl (!decide (i = j))) st := rfl
theorem kit_ii : kitB "int" "int" = some true := by decide +kernel
theorem kit_ib : kitB "int" "bool" = some false := by decide +kernel
theorem kit_tt : kitB "tuple" "tuple" = some true := by decide +kernel
theorem kit_ll : kitB "list" "list" = some true := by decide +kernel
theorem kit_ss : kitB "str" "str" = some true := by decide +kernel
theorem kit_si : kitB "str" "int" = some false := by decide +kernel
theorem kit_is : kitB "int" "str" = some false := by decide +kernel
theorem kit_ti : kitB "tuple" "int" = some false := by decide +kernel
theorem kit_it : kitB "int" "tuple" = some false := by decide +kernel
@[simp] theorem e_is_ii {i : Int} {st : Sto} : isT "int" (.int i) st = .val .P (.bl true) st := by simp only [isT, tyN, kit_ii, ofOpt_some]
@[simp] theorem e_is_ib {i : Int} {st : Sto} : isT "bool" (.int i) st = .val .P (.bl false) st := by simp only [isT, tyN, kit_ib, ofOpt_some]
@[simp] theorem e_is_tt {l : List D} {st : Sto} : isT "tuple" (.tup l) st = .val .P (.bl true) st := by simp only [isT, tyN, kit_tt, ofOpt_some]
@[simp] theorem e_is_ll {l : List D} {st : Sto} : isT "list" (.lst l) st = .val .P (.bl true) st := by simp only [isT, tyN, kit_ll, ofOpt_some]
@[simp] theorem e_is_ss {l : Str} {st : Sto} : isT "str" (.str l) st = .val .P (.bl true) st := by simp only [isT, tyN, kit_ss, ofOpt_some]
@[simp] theorem e_is_is {i : Int} {st : Sto} : isT "str" (.int i) st = .val .P (.bl false) st := by simp only [isT, tyN, kit_is, ofOpt_some]
@[simp] theorem e_is_it {i : Int} {st : Sto} : isT "tuple" (.int i) st = .val .P (.bl false) st := by simp only [isT, tyN, kit_it, ofOpt_some]
@[simp] theorem e_is_si {l : Str} {st : Sto} : isT "int" (.str l) st = .val .P (.bl false) st := by simp only [isT, tyN, kit_si, ofOpt_some]
@[simp] theorem e_is_ti {l : List D} {st : Sto} : isT "int" (.tup l) st = .val .P (.bl false) st := by simp only [isT, tyN, kit_ti, ofOpt_some]
theorem eqAny_of {a b : D} {r : Bool} {st : Sto} (hs : scalD a b = false) (h1 : isPy a = true) (h2 : isPy b = true) (h3 : SeqAt.shaped (py a) = true) (h4 : SeqAt.shaped (py b) = true) (he : PyData.eqv (py a) (py b) = r) : oEq a b st = .val .P (.bl r) st := by
  unfold oEq eqAny
  rw [if_neg (by rw [hs]; exact Bool.false_ne_true), if_pos ⟨h1, h2, h3, h4⟩, he]
theorem py_ints : ∀ l : List Int, pyL (l.map D.int) = l.map PyData.int
  | [] => rfl
  | i :: l => by simp [pyL, py, py_ints l]
theorem isPy_ints : ∀ l : List Int, isPyL (l.map D.int) = true
  | [] => rfl
  | i :: l => by simp [isPyL, isPy, isPy_ints l]
theorem eqv_ints : ∀ l m : List Int, PyData.eqvAll (l.map PyData.int) (m.map PyData.int) = decide (l = m)
  | [], [] => by simp [PyData.eqvAll]
  | [], _ :: _ => by simp [PyData.eqvAll]
  | _ :: _, [] => by simp [PyData.eqvAll]
  | i :: l, j :: m => by
    simp only [List.map_cons, PyData.eqvAll, PyData.eqv, eqv_ints l m]
    by_cases h : i = j <;> simp [h]
theorem lay_ints : ∀ l : List Int, PyData.canLayAll0 (l.map PyData.int) = true
  | [] => by simp [PyData.canLayAll0]
  | i :: l => by simp [PyData.canLayAll0, PyData.canLay0, lay_ints l]
theorem depth_ints : ∀ l : List Int, PyData.depthAll (l.map PyData.int) = 0
  | [] => by simp [PyData.depthAll]
  | i :: l => by simp [PyData.depthAll, PyData.depth, depth_ints l]
theorem eq_tupInts (l m : List Int) (st : Sto) : oEq (.tup (l.map .int)) (.tup (m.map .int)) st = .val .P (.bl (decide (l = m))) st := by
  refine eqAny_of rfl ?_ ?_ ?_ ?_ ?_
  · simp [isPy, isPy_ints]
  · simp [isPy, isPy_ints]
  · simp [SeqAt.shaped, py, py_ints, PyData.canLay0, PyData.depth, lay_ints, depth_ints]
  · simp [SeqAt.shaped, py, py_ints, PyData.canLay0, PyData.depth, lay_ints, depth_ints]
  · simp [py, py_ints, PyData.eqv, eqv_ints]
@[simp] theorem eq_tup2 {a b c d : Int} {st : Sto} : oEq (.tup [.int a, .int b]) (.tup [.int c, .int d]) st = .val .P (.bl (decide (a = c ∧ b = d))) st := by
  have h := eq_tupInts [a, b] [c, d] st
  simp only [List.map_cons, List.map_nil] at h
  rw [h]
  simp
theorem ne_of_eq {a b : D} {st : Sto} {r : Bool} (h : oEq a b st = .val .P (.bl r) st) : oNe a b st = .val .P (.bl (!r)) st := by
  unfold oEq at h; unfold oNe
  cases q : eqAny a b with
  | none => rw [q] at h; cases h
  | some x => rw [q] at h; cases h; rfl
@[simp] theorem ne_tup2 {a b c d : Int} {st : Sto} : oNe (.tup [.int a, .int b]) (.tup [.int c, .int d]) st = .val .P (.bl (!decide (a = c ∧ b = d))) st := ne_of_eq eq_tup2
@[simp] theorem e_stIns {st : Sto} {n : Nat} : stIns st n = match st[n]? with | some (.ins c l) => some (c, l) | _ => none := rfl
@[simp] theorem e_putI {i : Nat} {d : D} {l : List D} : putI i d l = if i < l.length then some (l.set i d) else if i = l.length then some (l ++ [d]) else none := rfl
@[simp] theorem e_mAppend {l : List D} {d : D} : mAppend l [d] = if l.length < 1000000 then some (.non, l ++ [d]) else none := rfl
@[simp] theorem e_mInsert {l : List D} {i : Int} {d : D} : mInsert l [.int i, d] = if l.length < 1000000 ∧ 0 ≤ i ∧ i < 2 ^ 63 then some (.non, l.take i.toNat ++ [d] ++ l.drop i.toNat) else none := rfl
@[simp] theorem e_mPop {l : List D} : mPop l [] = match l[l.length - 1]? with | some d => some (d, l.dropLast) | none => none := rfl
@[simp] theorem e_mPopAt {l : List D} {i : Int} : mPopAt l [.int i] = if -(2 ^ 63) ≤ i ∧ i < 2 ^ 63 then (match seqIndex? i l.length with | some k => (match l[k]? with | some d => some (d, l.eraseIdx k) | none => none) | none => none) else none := rfl
@[simp] theorem e_mReverse {l : List D} : mReverse l [] = some (.non, l.reverse) := rfl
@[simp] theorem e_putAt0 {d : D} {e : DE} : putAt none d e = e := rfl
@[simp] theorem e_putAt1 {d : D} {e : DE} {j : Nat} : putAt (some j) d e = e.set j (.val d) := rfl
@[simp] theorem e_isC {c : Nat} {fo : En → ER} {E : En} : isC c fo E = match fo E with
  | .val _ (.ptr n) st => (match stIns st n with | some (c', _) => c' == c | none => false)
  | _ => false := rfl
@[simp] theorem e_dIterV {i : Nat} {E : En} : dIterV i E = match E.e[i]? with
  | some (.own l) => .ok false l E.st
  | _ => dIter (dVar i) E := rfl
@[simp] theorem e_mClear {l : List D} : mClear l [] = some (.non, []) := rfl
@[simp] theorem boolsOf_map {α : Type} (f : α → Bool) : ∀ l : List α, boolsOf (l.map fun a => .bl (f a)) = some (l.map f)
  | [] => rfl
  | a :: l => by simp [boolsOf, boolsOf_map f l]
@[simp] theorem e_oIn_1 {a : D} {l : List D} {st : Sto} : oIn a (.lst l) st = ofOpt (inL a l) fun r => .val .P (.bl r) st := rfl
@[simp] theorem e_oIn_2 {a : D} {n : Nat} {st : Sto} : oIn a (.ptr n) st = ofOpt (stLst st n) fun l => ofOpt (inL a l) fun r => .val .P (.bl r) st := rfl
@[simp] theorem e_oNotIn_1 {a : D} {l : List D} {st : Sto} : oNotIn a (.lst l) st = ofOpt (inL a l) fun r => .val .P (.bl (!r)) st := rfl
@[simp] theorem e_oNotIn_2 {a : D} {n : Nat} {st : Sto} : oNotIn a (.ptr n) st = ofOpt (stLst st n) fun l => ofOpt (inL a l) fun r => .val .P (.bl (!r)) st := rfl
@[simp] theorem e_cloOf0 : cloOf [] = [] := rfl
@[simp] theorem e_cloOfC {x : SL} {r : DE} : cloOf (x :: r) = (match x with | .val d => some d | _ => none) :: cloOf r := rfl
@[simp] theorem e_cloE {ds : List (Option D)} {ja jb : Nat} {x y : D} : cloE ds ja jb x y = ((ds.map slO).set ja (.val x)).set jb (.val y) := rfl
@[simp] theorem e_slO1 {d : D} : slO (some d) = .val d := rfl
@[simp] theorem e_slO0 : slO none = .emp := rfl
@[simp] theorem e_startL {n : Nat} {d : D} {ds : List (Option D)} : startL n d ds = .val d :: .clo ds :: List.replicate (n - 2) .emp := rfl
@[simp] theorem e_valOnly {m : Md} {d : D} {st : Sto} : valOnly (.val m d st) = .val m d st := rfl
@[simp] theorem e_sBad {E : En} : sBad E = .bad := rfl
@[simp] theorem e_dBad {E : En} : dBad E = .bad := rfl
@[simp] theorem e_sForX {f : En → ER} {t : D → DE → Option DE} {b : En → SR} {E : En} : sForX f t b E = match f E with
  | .val _ (.ptr n) st => (match stLst st n with | some l => forPD n l (tgB t b) l ⟨E.e, st⟩ | none => .bad)
  | _ => sFor (dIter f) t b E := rfl
@[simp] theorem e_derefL {st : Sto} {l : List D} : deref st (.lst l) = .lst l := rfl
@[simp] theorem e_derefT {st : Sto} {l : List D} : deref st (.tup l) = .tup l := rfl
@[simp] theorem e_derefI {st : Sto} {i : Int} : deref st (.int i) = .int i := rfl
@[simp] theorem e_derefS {st : Sto} {x : Str} : deref st (.str x) = .str x := rfl
@[simp] theorem e_derefB {st : Sto} {x : Bool} : deref st (.bl x) = .bl x := rfl
@[simp] theorem e_derefN {st : Sto} : deref st .non = .non := rfl
@[simp] theorem e_derefP {st : Sto} {n : Nat} : deref st (.ptr n) = (match stLst st n with | some l => .lst l | none => .ptr n) := rfl
@[simp] theorem e_oEqX {a b : D} {st : Sto} : oEqX a b st = oEq (deref st a) (deref st b) st := rfl
@[simp] theorem e_oNeX {a b : D} {st : Sto} : oNeX a b st = oNe (deref st a) (deref st b) st := rfl
@[simp] theorem e_ownF0 {c : Nat} : ownF [] c = none := rfl
@[simp] theorem e_ownFC {c c' : Nat} {F : List D → Sto → ER} {l : OwnL} : ownF ((c', F) :: l) c = if c = c' then some F else ownF l c := rfl
@[simp] theorem e_asLen {m : Md} {i : Int} {st : Sto} : asLen (.val m (.int i) st) = if 0 ≤ i ∧ i < 2 ^ 63 then .val .P (.int i) st else .bad := rfl
@[simp] theorem e_asStr {m : Md} {i : Str} {st : Sto} : asStr (.val m (.str i) st) = .val .P (.str i) st := rfl
@[simp] theorem e_asBl {m : Md} {i n : Bool} {st : Sto} : asBl n (.val m (.bl i) st) = .val .P (.bl (i != n)) st := rfl
@[simp] theorem e_isOP {t : Nat → Option Bool} {n : Nat} {st : Sto} : isO t (.ptr n) st = (match stIns st n with | some (c, _) => ofOpt (t c) fun b => .val .P (.bl b) st | none => (match stLst st n with | some _ => .val .P (.bl false) st | none => .bad)) := rfl
@[simp] theorem e_isON {t : Nat → Option Bool} {st : Sto} : isO t .non st = .val .P (.bl false) st := rfl
@[simp] theorem e_isOI {t : Nat → Option Bool} {i : Int} {st : Sto} : isO t (.int i) st = .val .P (.bl false) st := rfl
@[simp] theorem e_isOB {t : Nat → Option Bool} {i : Bool} {st : Sto} : isO t (.bl i) st = .val .P (.bl false) st := rfl
@[simp] theorem e_isOS {t : Nat → Option Bool} {i : Str} {st : Sto} : isO t (.str i) st = .val .P (.bl false) st := rfl
@[simp] theorem e_isOT {t : Nat → Option Bool} {l : List D} {st : Sto} : isO t (.tup l) st = .val .P (.bl false) st := rfl
@[simp] theorem e_isOL {t : Nat → Option Bool} {l : List D} {st : Sto} : isO t (.lst l) st = .val .P (.bl false) st := rfl
@[simp] theorem e_eqArgP {Cs : List Nat} {n : Nat} {st : Sto} : eqArg Cs (.ptr n) st = (match stIns st n with | some (c, _) => Cs.contains c | none => false) := rfl
@[simp] theorem e_eqArgN {Cs : List Nat} {st : Sto} : eqArg Cs .non st = true := rfl
@[simp] theorem e_eqArgI {Cs : List Nat} {i : Int} {st : Sto} : eqArg Cs (.int i) st = true := rfl
@[simp] theorem e_eqArgB {Cs : List Nat} {i : Bool} {st : Sto} : eqArg Cs (.bl i) st = true := rfl
@[simp] theorem e_eqArgS {Cs : List Nat} {i : Str} {st : Sto} : eqArg Cs (.str i) st = true := rfl
@[simp] theorem e_eqArgT {Cs : List Nat} {i : List D} {st : Sto} : eqArg Cs (.tup i) st = true := rfl
@[simp] theorem e_eqArgL {Cs : List Nat} {i : List D} {st : Sto} : eqArg Cs (.lst i) st = true := rfl
@[simp] theorem e_eqO2P {Os : OwnL} {Cs : List Nat} {neg : Bool} {o : D → D → Sto → ER} {m : Md} {n : Nat} {y : D} {st : Sto} : eqO2 Os Cs neg o m (.ptr n) y st = (match stIns st n with
    | some (c, _) => ofOpt (ownF Os c) fun F => if m ≠ .B ∧ eqArg Cs y st = true then asBl neg (F [.ptr n, y] st) else .bad
    | none => o (.ptr n) y st) := rfl
@[simp] theorem e_eqO2I {Os : OwnL} {Cs : List Nat} {neg : Bool} {o : D → D → Sto → ER} {m : Md} {i : Int} {y : D} {st : Sto} : eqO2 Os Cs neg o m (.int i) y st = o (.int i) y st := rfl
@[simp] theorem e_eqO2L {Os : OwnL} {Cs : List Nat} {neg : Bool} {o : D → D → Sto → ER} {m : Md} {i : List D} {y : D} {st : Sto} : eqO2 Os Cs neg o m (.lst i) y st = o (.lst i) y st := rfl
@[simp] theorem e_rowsOf {α : Type} {f g : α → Int} : ∀ l : List α, rowsOf (l.map fun a => .tup [.int (f a), .int (g a)]) = some (l.map fun a => (f a, g a))
  | [] => rfl
  | a :: l => by simp only [List.map_cons, rowsOf, e_rowsOf l]; rfl
@[simp] theorem e_strsOf {α : Type} {f : α → Str} : ∀ l : List α, strsOf (l.map fun a => .str (f a)) = some (l.map f)
  | [] => rfl
  | a :: l => by simp only [List.map_cons, strsOf, e_strsOf l]; rfl
@[simp] theorem e_seqL {l : List D} {st : Sto} : seqStrs (.lst l) st = strsOf l := rfl
@[simp] theorem e_seqT {l : List D} {st : Sto} : seqStrs (.tup l) st = strsOf l := rfl
@[simp] theorem e_seqP {n : Nat} {st : Sto} : seqStrs (.ptr n) st = (stLst st n).bind strsOf := rfl
@[simp] theorem e_js0 {a : Str} {e : DE} {st : Sto} : jsGo [] a e st = .val .P (.str a) st := rfl
@[simp] theorem e_jsC {f : En → ER} {fs : List (En → ER)} {acc : Str} {e : DE} {st : Sto} : jsGo (f :: fs) acc e st = match f ⟨e, st⟩ with
    | .val _ (.str y) st1 => if (acc ++ y).length ≤ 1000000 then jsGo fs (acc ++ y) e st1 else .bad
    | .exc c l st => .exc c l st
    | _ => .bad := rfl
@[simp] theorem e_oSortedX {l : List D} {st : Sto} : oSortedX [.lst l] st = (match intsOf l with
    | some ns => if ns.length < 64 then .val .N (.lst ((srt ns).map .int)) st else .bad
    | none => ofOpt (rowsOf l) fun rs => .val .N (.lst ((srtP rs).map fun r => .tup [.int r.1, .int r.2])) st) := rfl
@[simp] theorem e_msJoin {a : Str} {d : D} {st : Sto} : msJoin a [d] st = ofOpt (seqStrs d st) fun ys => if (ys.map (·.length)).sum + ys.length * a.length ≤ 1000000 then .val .P (.str (Txt.join a ys)) st else .bad := rfl
@[simp] theorem e_msSplit {a b : Str} {st : Sto} : msSplit a [.str b] st = if (b.length == 0) = false ∧ a.length + 2 ≤ 1000000 then .val .N (.lst ((Txt.split a b).map .str)) st else .bad := rfl
@[simp] theorem e_msPartition {a b : Str} {st : Sto} : msPartition a [.str b] st = if (b.length == 0) = false ∧ a.length ≤ 1000000 then .val .P (.tup [.str (Txt.partition a b).1, .str (Txt.partition a b).2.1, .str (Txt.partition a b).2.2]) st else .bad := rfl
@[simp] theorem e_msCount {a b : Str} {st : Sto} : msCount a [.str b] st = .val .P (.int (Txt.count a b)) st := rfl
@[simp] theorem e_isTPp {T : String} {n : Nat} {st : Sto} : isTP T (.ptr n) st = (match stLst st n with | some _ => ofOpt (kitB "list" T) fun b => .val .P (.bl b) st | none => .bad) := rfl
@[simp] theorem e_isTPl {T : String} {l : List D} {st : Sto} : isTP T (.lst l) st = isT T (.lst l) st := rfl
@[simp] theorem e_isTPt {T : String} {l : List D} {st : Sto} : isTP T (.tup l) st = isT T (.tup l) st := rfl
end Dn
namespace Dn
open PySem PySem.Spec PyProof.Rows L2
def sThru (g : En → SR) : En → SR := fun E => match g E with
  | .exc _ _ _ => .bad
  | r => r
@[simp] theorem e_sThru {g : En → SR} {E : En} : sThru g E = match g E with
  | .exc _ _ _ => .bad
  | r => r := rfl
end Dn
namespace Dn
open PySem PySem.Spec PyProof.Rows L2
section
variable {G : Gm} {W : WX}
def sSwI (x : Nat) (f : En → ER) (f1 f2 : En → ER) : En → SR := fun E => match f E with
  | .val .P (.tup [a, b]) st => (match E.e[x]? with
    | some (.own l) => (match f1 ⟨E.e, st⟩ with
      | .val _ (.int i) st1 => (match ixN l.length i with
        | some j => (match f2 ⟨E.e.set x (.own (l.set j a)), st1⟩ with
          | .val _ (.int i2) st2 => (match ixN l.length i2 with
            | some j2 => .nx ⟨(E.e.set x (.own (l.set j a))).set x (.own ((l.set j a).set j2 b)), st2⟩
            | none => .bad)
          | _ => .bad)
        | none => .bad)
      | _ => .bad)
    | _ => .bad)
  | .exc c l st => .exc c l ⟨E.e, st⟩
  | _ => .bad
@[simp] theorem e_sSwI {x : Nat} {f f1 f2 : En → ER} {E : En} : sSwI x f f1 f2 E = match f E with
  | .val .P (.tup [a, b]) st => (match E.e[x]? with
    | some (.own l) => (match f1 ⟨E.e, st⟩ with
      | .val _ (.int i) st1 => (match ixN l.length i with
        | some j => (match f2 ⟨E.e.set x (.own (l.set j a)), st1⟩ with
          | .val _ (.int i2) st2 => (match ixN l.length i2 with
            | some j2 => .nx ⟨(E.e.set x (.own (l.set j a))).set x (.own ((l.set j a).set j2 b)), st2⟩
            | none => .bad)
          | _ => .bad)
        | none => .bad)
      | _ => .bad)
    | _ => .bad)
  | .exc c l st => .exc c l ⟨E.e, st⟩
  | _ => .bad := rfl
end
end Dn
namespace L2
open PySem PySem.Spec PyProof.Rows
end L2
namespace Dn
open PySem PySem.Spec PyProof.Rows L2
section
variable {G : Gm} {W : WX}
def cntL (d : D) (l : List D) : Option Nat := if isPy d = true ∧ isPyL l = true ∧ SeqAt.shaped (py d) = true ∧ SeqAt.shaped (.list (pyL l)) = true then some ((pyL l).countP fun z => PyData.eqv z (py d)) else none
def dCnt (fb : En → ER) (fa : En → AR) : En → ER := fun E => match fb E with
  | .val _ (.lst l) st => (match fa ⟨E.e, st⟩ with
    | .ok _ [d] st1 => ofOpt (cntL d l) fun n => .val .P (.int (n : Nat)) st1
    | .exc c l st => .exc c l st
    | _ => .bad)
  | .exc c l st => .exc c l st
  | _ => .bad
@[simp] theorem e_dCnt {fb : En → ER} {fa : En → AR} {E : En} : dCnt fb fa E = match fb E with
  | .val _ (.lst l) st => (match fa ⟨E.e, st⟩ with
    | .ok _ [d] st1 => ofOpt (cntL d l) fun n => .val .P (.int (n : Nat)) st1
    | .exc c l st => .exc c l st
    | _ => .bad)
  | .exc c l st => .exc c l st
  | _ => .bad := rfl
def oInT (a b : D) (st : Sto) : ER := match a, b with
  | .str x, .tup l => ofOpt (strsOf l) fun ys => .val .P (.bl (inV (.str x) (ys.map V.str))) st
  | _, _ => .bad
@[simp] theorem e_oInT {x : Str} {l : List D} {st : Sto} : oInT (.str x) (.tup l) st = ofOpt (strsOf l) fun ys => .val .P (.bl (inV (.str x) (ys.map V.str))) st := rfl
end
end Dn
namespace Dn
open PySem PySem.Spec PyProof.Rows L2
def pickN (n : Nat) (lo hi : Option Int) (c : Int) : List Nat := sliceRange (sliceBounds lo hi (some c) n).1 (sliceBounds lo hi (some c) n).2.1 (sliceBounds lo hi (some c) n).2.2
def stepG {α : Type} (l : List α) (lo hi : Option Int) (c : Int) : List α := (pickN l.length lo hi c).filterMap (l[·]?)
theorem IsL.pick {G : Gm} {as : List Addr} {H : Hp} {vs : List V} {ds : List D} (h : IsL G as H vs ds) : ∀ (ks : List Nat), IsL G as H (ks.filterMap (vs[·]?)) (ks.filterMap (ds[·]?))
  | [] => .nil
  | k :: ks => by
    have ih := IsL.pick h ks
    cases e : ds[k]? with
    | none =>
      have e' : vs[k]? = none := by
        rw [List.getElem?_eq_none_iff] at e ⊢
        rw [h.len]; exact e
      rw [List.filterMap_cons_none e, List.filterMap_cons_none e']; exact ih
    | some d =>
      obtain ⟨v, e', hv⟩ := h.get e
      rw [List.filterMap_cons_some e, List.filterMap_cons_some e']; exact .cons hv ih
section
variable {G : Gm} {W : WX}
def dStp (c : Int) (f : En → ER) (lo hi : En → Option ER) : En → ER := fun E => (f E).bind fun x st => ofOpt (partI (lo ⟨E.e, st⟩) st) fun l => ofOpt (partI (hi ⟨E.e, l.2⟩) l.2) fun u => match x with
  | .lst xs => if (stepG xs l.1 u.1 c).length ≤ xs.length then .val .N (.lst (stepG xs l.1 u.1 c)) u.2 else .bad
  | _ => .bad
@[simp] theorem e_dStp {c : Int} {f : En → ER} {lo hi : En → Option ER} {E : En} : dStp c f lo hi E = (f E).bind fun x st => ofOpt (partI (lo ⟨E.e, st⟩) st) fun l => ofOpt (partI (hi ⟨E.e, l.2⟩) l.2) fun u => match x with
  | .lst xs => if (stepG xs l.1 u.1 c).length ≤ xs.length then .val .N (.lst (stepG xs l.1 u.1 c)) u.2 else .bad
  | _ => .bad := rfl
end
section
variable {G : Gm} {W : WX}
def msIndex (a : Str) (ds : List D) (st : Sto) : ER := match ds with
  | [.str b] => ofOpt (Txt.index0 a b) fun k => .val .P (.int (k : Nat)) st
  | _ => .bad
@[simp] theorem e_msIndex {a b : Str} {st : Sto} : msIndex a [.str b] st = ofOpt (Txt.index0 a b) fun k => .val .P (.int (k : Nat)) st := rfl
end
section
variable {G : Gm} {W : WX}
def sAugO (x : Nat) (o : Int → Int → Int) (fi fe : En → ER) : En → SR := fun E => match E.e[x]? with
  | some (.own l) => (match fi E with
    | .val _ (.int i) st1 => if 0 ≤ i then (match ixN l.length i with
      | some j => (match l[j]? with
        | some (.int a) => (match fe ⟨E.e, st1⟩ with
          | .val _ (.int b) st2 => .nx ⟨E.e.set x (.own (l.set j (.int (o a b)))), st2⟩
          | _ => .bad)
        | _ => .bad)
      | none => .bad) else .bad
    | _ => .bad)
  | _ => .bad
@[simp] theorem e_sAugO {x : Nat} {o : Int → Int → Int} {fi fe : En → ER} {E : En} : sAugO x o fi fe E = match E.e[x]? with
  | some (.own l) => (match fi E with
    | .val _ (.int i) st1 => if 0 ≤ i then (match ixN l.length i with
      | some j => (match l[j]? with
        | some (.int a) => (match fe ⟨E.e, st1⟩ with
          | .val _ (.int b) st2 => .nx ⟨E.e.set x (.own (l.set j (.int (o a b)))), st2⟩
          | _ => .bad)
        | _ => .bad)
      | none => .bad) else .bad
    | _ => .bad)
  | _ => .bad := rfl
end
def IteS (x : Str) : It :=
  ⟨fun i _ => i < x.cps.size, fun i H v H' => ∃ T c, v = .ref T ∧ H T = none ∧ H' = upd H T (.tup [.int (i : Nat), .str ⟨#[c]⟩]) ∧ x.cps[i]? = some c, fun i _ => x.cps.size ≤ i⟩
theorem draws_str {P : Program} {w : World} {A : Around} (hh : A.handled = none) (it : Addr) (x : Str) (t : Tok) :
    Draws P w A it [it] x.cps.size (fun i v => ∃ c u, x.cps[i]? = some c ∧ v = .str ⟨#[c]⟩ u) (fun i h => h.IsStrIter it (strIterType x) x t i) := by
  unfold strIterType
  split
  · exact Draws.strAscii hh it x t
  · exact Draws.strWide hh it x t
theorem turn_enumS {P : Program} {w : World} {K : PySem.W.Frag} {elts : List Expr} {kk : Nat} {tpos : Pos} (e it : Addr) (x : Str) (t : Tok) :
    Turn P w K (.Tuple elts kk tpos) (IteS x) [e, it] e (fun i h => (∃ old, IsEnum h e it ((i : Nat) : Int) old) ∧ h.IsStrIter it (strIterType x) x t i ∧ e ≠ it ∧ i ≤ x.cps.size) where
  mem := by simp
  obj := fun i h st b hb => by
    obtain ⟨⟨old, he⟩, ⟨o, ho, hc, hd⟩, _⟩ := st
    have e' : b = e ∨ b = it := by simpa using hb
    rcases e' with z | z
    · rw [z]; exact ⟨_, he, fun v q => nomatch q⟩
    · rw [z]; exact ⟨o, ho, fun v q => by rw [hd] at q; cases q⟩
  keep := fun i h h' st k => let ⟨⟨old, he⟩, ⟨o, ho, r⟩, hne⟩ := st; ⟨⟨old, k e (by simp) _ he⟩, ⟨o, k it (by simp) o ho, r⟩, hne⟩
  item := by
    intro X hP hw hK hc i pins s σ H E I hf st hg
    subst hP hw hK
    obtain ⟨⟨old, he⟩, hit, hne, hile⟩ := st
    have hel : e < s.heap.objs.size := Heap.lt_size he
    have hil : it < s.heap.objs.size := by obtain ⟨_, q, _⟩ := hit; exact Heap.lt_size q
    have D := draws_str (P := X.prog) (w := X.w) (A := X.A.in1) (I.ok.hd hc) it x t
    refine wpAny_pyNext_enum_itemD D he hit hg hne (by simp [hne]) fun v h' tk hv ho hit' hT hsz hk => ?_
    obtain ⟨c, u, hcx, rfl⟩ := hv
    refine ⟨_, rfl, wpAny_letOwnedTupleGo_enum (s := { s with heap := h', toks := tk + 1 }) ho fun h'' he' sb => ?_⟩
    have hT2 : h''.get? s.heap.objs.size = some { cls := .type "tuple", data := .seq #[.int i tk, .str ⟨#[c]⟩ u] } := (sb.2 _ (Nat.ne_of_gt hel)).trans hT
    have new : ObjOk X.prog X.w (upd H s.heap.objs.size (.tup [.int (i : Nat), .str ⟨#[c]⟩])) h'' s.heap.objs.size (.tup [.int (i : Nat), .str ⟨#[c]⟩]) :=
      ⟨by show 2 ≤ sizeLine; decide, [.int i tk, .str ⟨#[c]⟩ u], .cons ⟨_, rfl⟩ (.cons ⟨_, rfl⟩ .nil), ⟨_, hT2, rfl, _, rfl⟩⟩
    have I1 : Inv X pins σ (upd H s.heap.objs.size (.tup [.int (i : Nat), .str ⟨#[c]⟩])) { s with heap := h'', toks := tk + 1 } :=
      I.turnedNew (ch := [e, it]) (fun b ob hb q => (sb.2 b (fun z => hb (by simp [z]))).trans (hk b ob (fun z => hb (by simp [z])) (fun z => hb (by simp [z])) q)) hf (Nat.le_refl _) new
    refine ⟨.ref s.heap.objs.size, _, I1, rfl, ⟨_, c, rfl, I.hok.fresh (Nat.le_refl _), rfl, hcx⟩, ⟨⟨.str ⟨#[c]⟩ u, ?_⟩, ?_, hne, hg⟩, fun b hb => ?_⟩
    · have e1 : ((i + 1 : Nat) : Int) = (i : Int) + 1 := by omega
      rw [e1]; exact he'
    · obtain ⟨o, ho, r⟩ := hit'
      exact ⟨o, (sb.2 it (Ne.symm hne)).trans ho, r⟩
    · have hb' : b < s.heap.objs.size := by
        have e' : b = e ∨ b = it := by simpa using hb
        rcases e' with z | z
        · rw [z]; exact hel
        · rw [z]; exact hil
      rw [upd_ne (Nat.ne_of_lt hb')]
      exact (hf b hb).1
  done := by
    intro X hP hw hK hc i pins s σ H E I hf st hg
    subst hP hw hK
    obtain ⟨⟨old, he⟩, hit, hne, hile⟩ := st
    obtain ⟨f0, f1, f2, f3, f4, f5⟩ := hf it (by simp)
    have D := draws_str (P := X.prog) (w := X.w) (A := X.A.in1) (I.ok.hd hc) it x t
    have hit' : s.heap.IsStrIter it (strIterType x) x t x.cps.size := by
      have : i = x.cps.size := Nat.le_antisymm hile hg
      rw [← this]; exact hit
    exact wpAny_pyNext_enum_endD D he hit' fun h' eb => ⟨rfl, I.turned (t' := s.toks) (fun b o hb q => eb b o hb q) f0 f1 f3 f4 f5⟩
  self := fun A i s Q E st h => let ⟨⟨_, he⟩, _⟩ := st; wpAny_pyIter_enum he h
def iEnumS (ta : TA) : TI := fun σ H R => ta σ H fun vs H1 => ∃ x, vs = [.str x] ∧ R (IteS x) H1
theorem pi_enumS {X : Cx} {e : Expr} {ta : TA} {p pos tpos : Pos} {elts : List Expr} {kk : Nat} (hg : Gl X "enumerate") (hm : X.mg "enumerate" = none) (ha : PA X [e] ta) (hs : starEach [e] X.env = [(false, eval e X.env)] := by rfl) :
    PI X (.Tuple elts kk tpos) (.Call (.Name "enumerate" p) [e] [] pos) (iEnumS ta) := by
  refine ⟨fun pins s σ H R I h => ?_⟩
  refine Call_ (ld_blt I hg hm boot_enumerate (PyProof.Rows.callWith_type1 (thn (ha.run pos pins s σ H _ I h) fun us s1 ⟨vs, H1, I1, r1, q1⟩ => ?_) hs rfl))
  obtain ⟨x, ex, q⟩ := q1
  subst ex
  cases r1 with
  | cons r rr =>
    cases rr
    obtain ⟨t, rfl⟩ := r
    refine call_enumerate_str fun h' he hit hsz hk => wpAny_pyIter_enum he ?_
    have I2 : Inv X pins σ H1 { s1 with heap := h' } := I1.kept (t' := s1.toks) hk
    refine ⟨s1.heap.objs.size + 1, [s1.heap.objs.size + 1, s1.heap.objs.size], _, _, H1, rfl, I2, turn_enumS (s1.heap.objs.size + 1) s1.heap.objs.size x t, ⟨⟨.none, he⟩, hit, Nat.succ_ne_self _, Nat.zero_le _⟩, fun b hb => ?_, q⟩
    have e' : b = s1.heap.objs.size + 1 ∨ b = s1.heap.objs.size := by simpa using hb
    have hle : s1.heap.objs.size ≤ b := by
      rcases e' with z | z
      · rw [z]; exact Nat.le_add_right _ _
      · rw [z]; exact Nat.le_refl _
    exact I1.fpOk hle (I1.hok.fresh hle)
section
variable {G : Gm} {W : WX}
theorem it_enumS {t1 : Hs} (z : Str) : ItOk G t1 (IteS z) (enumD 0 (z.cps.toList.map fun c => .str ⟨#[c]⟩)) := by
  intro i t st u k
  refine ⟨fun hi => by (show z.cps.size ≤ i); rw [enumD_len] at hi; simpa using hi, fun d hd => ?_⟩
  obtain ⟨x, h1, rfl⟩ := enumD_get hd
  rw [List.getElem?_map] at h1
  cases q : z.cps.toList[i]? with
  | none => rw [q] at h1; cases h1
  | some c =>
    rw [q] at h1
    cases h1
    have hi : i < z.cps.size := by
      have := (List.getElem?_eq_some_iff.mp q).1
      simpa using this
    refine ⟨hi, fun y H' w => ?_⟩
    obtain ⟨T, c', rfl, hT, rfl, hc⟩ := w
    have : z.cps[i]? = some c := by rw [← Array.getElem?_toList]; exact q
    rw [this] at hc; cases hc
    refine ⟨⟨t.as, upd t.f T _, upd t.h T _⟩, rfl, Gro.new k hT, k.grow hT, .tup (SqT.of upd_same) (.cons ?_ (.cons (.str _) .nil))⟩
    rw [Nat.zero_add]
    exact .int _
def dEnumS (f : En → AR) : En → AR := fun E => match f E with
  | .ok _ [.str z] st => .ok true (enumD 0 (z.cps.toList.map fun c => .str ⟨#[c]⟩)) st
  | .exc c l st => .exc c l st
  | _ => .bad
theorem i_enumS {ta : TA} {f : En → AR} (h : DAr G W ta f) : DIt G W (iEnumS ta) (dEnumS f) := by
  intro s t σ e st E k R post
  refine h s t σ e st E k _ ?_
  unfold dEnumS at post
  cases q : f ⟨e, st⟩ with
  | ok p l st1 =>
    rw [q] at post
    match l, post with
    | [], post => exact post.elim
    | [d], post =>
      cases d <;> first | exact post.elim | skip
      intro t' vs g k' i0 u0
      obtain ⟨v, rfl, hv⟩ := u0.one
      obtain rfl := hv.str
      exact ⟨_, rfl, post t' _ g k' (it_enumS _)⟩
    | a :: b :: l, post => cases a <;> exact post.elim
  | exc c l st1 => rw [q] at post; exact post
  | bad => rw [q] at post; exact post
@[simp] theorem e_dEnumS {f : En → AR} {E : En} : dEnumS f E = match f E with
  | .ok _ [.str z] st => .ok true (enumD 0 (z.cps.toList.map fun c => .str ⟨#[c]⟩)) st
  | .exc c l st => .exc c l st
  | _ => .bad := rfl
end
section
variable {G : Gm} {W : WX}
def oListS : List D → Sto → ER
  | [.str x], st => if x.length ≤ 1000000 then .val .N (.lst (x.cps.toList.map fun c => .str ⟨#[c]⟩)) st else .bad
  | _, _ => .bad
@[simp] theorem e_oListS {x : Str} {st : Sto} : oListS [.str x] st = if x.length ≤ 1000000 then .val .N (.lst (x.cps.toList.map fun c => .str ⟨#[c]⟩)) st else .bad := rfl
end
section
variable {G : Gm} {W : WX}
def oMulS : D → D → Sto → ER
  | .str a, .int n, st => if 0 ≤ n ∧ n ≤ 1000 ∧ a.length ≤ 1000 then .val .P (.str (Txt.mul a n)) st else .bad
  | _, _, _ => .bad
@[simp] theorem e_oMulS {a : Str} {n : Int} {st : Sto} : oMulS (.str a) (.int n) st = if 0 ≤ n ∧ n ≤ 1000 ∧ a.length ≤ 1000 then .val .P (.str (Txt.mul a n)) st else .bad := rfl
end
end Dn
namespace Dn
open PySem PySem.Spec PyProof.Rows L2
section
variable {G : Gm} {W : WX}
def sTryO (catch? : Nat → Option Bool) (g : En → SR) (h : En → SR) : En → SR := fun E => match g E with
  | .exc c l E1 => (match catch? c with
    | some true => (match h ⟨clr E1.e, E1.st⟩ with
      | .nx E2 => .nx ⟨clr E2.e, E2.st⟩
      | .bk E2 => .bk ⟨clr E2.e, E2.st⟩
      | .ct E2 => .ct ⟨clr E2.e, E2.st⟩
      | .rt m d st => .rt m d st
      | _ => .bad)
    | some false => .exc c l E1
    | none => .bad)
  | r => r
@[simp] theorem e_sTryO {catch? : Nat → Option Bool} {g h : En → SR} {E : En} : sTryO catch? g h E = match g E with
  | .exc c l E1 => (match catch? c with
    | some true => (match h ⟨clr E1.e, E1.st⟩ with
      | .nx E2 => .nx ⟨clr E2.e, E2.st⟩
      | .bk E2 => .bk ⟨clr E2.e, E2.st⟩
      | .ct E2 => .ct ⟨clr E2.e, E2.st⟩
      | .rt m d st => .rt m d st
      | _ => .bad)
    | some false => .exc c l E1
    | none => .bad)
  | r => r := rfl
end
def spEx (K : PySem.W.Frag) (fld : Str) : Sp := fun vs H Q _ => ∃ (a : Addr) (y : V) (C : Addr), vs = [.ref a, y] ∧ OexC K C ∧ PySem.W.findIn K (.ref C) fld = some none ∧ H a = some (exo a C none) ∧ ∀ dx, H dx = none → dx ≠ a → Q .non (upd (upd H dx (exd dx [(fld, y)])) a (exo a C (some dx)))
theorem fn_exI {P : Program} {w : World} {K : PySem.W.Frag} {mg : Str → Option Value} {base : Heap} {x qual : Str} {st : Stmt} {f : Addr} {fd : FuncData} {n0 n1 : Str} {ps : List Str} {fld : Str} (hp : ps.length = 2) (F : Fun K x qual st f fd) (S : FnScope [n0, n1] ps (defScope st))
    (hbody : ∀ (cdv : Value) (A : Around) (outer : List Env) (s : Shared) (H : Hp) (E : XK), PSs (cxOf CX0 P w K mg base [n0, n1] qual (defScope st) f cdv A outer s H E).nox (defBody st) (tOst K fld (tVar 0) (tVar 1))) : FnOk P w K mg base CX0 1 f fd ps (spEx K fld) := by
  refine F.ok S (fun vs H Q E h => ?_) fun cdv A outer s H vs Q E hr h => ?_
  · obtain ⟨a, y, C, rfl, _⟩ := h
    rw [hp]; rfl
  · obtain ⟨a, y, C, rfl, hC, hn, ha, q⟩ := h
    refine ⟨_, hbody cdv A outer s H E, ?_⟩
    refine ⟨y, rfl, .ref a, rfl, a, C, rfl, hC, hn, .inl ⟨ha, fun dx h1 h2 => q dx h1 h2⟩⟩
section
variable {G : Gm} {W : WX}
def sRaiseF (c : Nat) (fa : En → AR) : En → SR := fun E => match fa E with
  | .ok true [d] st => .exc c [d] ⟨E.e, st⟩
  | .exc c' l st => .exc c' l ⟨E.e, st⟩
  | _ => .bad
theorem heap_made {H : Hp} {a dx : Addr} {o1 o2 o3 : HO} {o4 : HO} (ha : H a = none) (hne : dx ≠ a) : upd (del (upd (upd (upd H a o1) dx o2) a o3) a) dx o4 = upd H dx o4 := by
  funext b
  by_cases h1 : b = dx
  · rw [h1, upd_same, upd_same]
  · rw [upd_ne h1, upd_ne h1]
    by_cases h2 : b = a
    · rw [h2, del_same, ha]
    · rw [del_ne h2, upd_ne h2, upd_ne h1, upd_ne h2]
theorem s_raiseF {c : Nat} {C : Addr} {fld : Str} {ta : TA} {fa : En → AR} (hc : G.ca c = C) (hn : G.fn c = [fld]) (T : OexC G.K C) (hno : PySem.W.findIn G.K (.ref C) fld = some none) (h : DAr G W ta fa) :
    DSt G W (fun _ σ H => tMkO C (spEx G.K fld) [] ta σ H fun cls d H' => W cls d σ H') (sRaiseF c fa) := by
  subst hc
  intro s t σ e st E k N post
  refine h s t σ e st E k _ ?_
  unfold sRaiseF at post
  cases q : fa ⟨e, st⟩ with
  | bad => rw [q] at post; exact post
  | exc c' l st1 => rw [q] at post; exact fun t' x g k' o => post t' σ x g.up (E.up g) k' o
  | ok p l st1 =>
    rw [q] at post
    cases p with
    | false => exact post.elim
    | true =>
      match l, post with
      | [], post => exact post.elim
      | _ :: _ :: _, post => exact post.elim
      | [d], post =>
        intro t' vs g k' i0 _
        have i := i0 rfl
        clear i0
        cases i with
        | @cons v _ _ _ iv il =>
          cases il
          refine ⟨by simp, fun a ha => ⟨a, v, G.ca c, rfl, T, hno, upd_same, fun dx hdx hne => ⟨rfl, dx, [(fld, v)], upd_same, ?_, ?_, ?_⟩⟩⟩
          · rw [upd_ne hne, upd_same]
          · rw [upd_ne hne] at hdx; exact hdx
          · rw [upd_ne hne] at hdx
            rw [heap_made ha hne]
            have gg := Gro.new (o := .xd [(fld, v)]) k' hdx
            have kk := k'.grow (o := .xd [(fld, v)]) hdx
            refine post ⟨t'.as, upd t'.f dx (.xd [(fld, v)]), upd t'.h dx (.xd [(fld, v)])⟩ σ (some dx) (g.up.trans gg.up) ((E.up g).up gg) kk (.inr ⟨dx, [v], rfl, by simp, ?_, by rw [hn]; rfl, .cons (iv.up gg.a gg.f) .nil⟩)
            rw [hn]
            exact upd_same
@[simp] theorem e_sRaiseF {c : Nat} {fa : En → AR} {E : En} : sRaiseF c fa E = match fa E with
  | .ok true [d] st => .exc c [d] ⟨E.e, st⟩
  | .exc c' l st => .exc c' l ⟨E.e, st⟩
  | _ => .bad := rfl
end
def Gm.exn (G : Gm) (a : Addr) (x : Option Addr) (c : Nat) (l : List D) : Gm := { G with ea := a, ed := x, en := G.fn c, el := l }
mutual
theorem Is.swI {G G' : Gm} (eK : G'.K = G.K) (ec : G'.ca = G.ca) (ef : G'.fn = G.fn) {as : List Addr} {H : Hp} : ∀ (d : D) {v : V}, Is G as H v d → Is G' as H v d
  | .non, _, h => by cases h; exact .non
  | .bl _, _, h => by cases h; exact .bl _
  | .int _, _, h => by cases h; exact .int _
  | .str _, _, h => by cases h; exact .str _
  | .tup ds, _, h => by cases h with | tup p b => exact .tup (by rw [eK]; exact p) (IsL.swI eK ec ef ds b)
  | .lst ds, _, h => by cases h with | lst p b => exact .lst p (IsL.swI eK ec ef ds b)
  | .scr l, _, h => by cases h with | scr p => exact .scr (by rw [eK]; exact p)
  | .ptr n, _, h => by cases h with | ptr p => exact .ptr p
  | .obj c ds, _, h => by cases h with | obj p l b => exact .obj (by rw [ec, ef]; exact p) (by rw [ef]; exact l) (IsL.swI eK ec ef ds b)
theorem IsL.swI {G G' : Gm} (eK : G'.K = G.K) (ec : G'.ca = G.ca) (ef : G'.fn = G.fn) {as : List Addr} {H : Hp} : ∀ (ds : List D) {vs : List V}, IsL G as H vs ds → IsL G' as H vs ds
  | [], _, h => by cases h; exact .nil
  | d :: ds, _, h => by cases h with | cons p b => exact .cons (Is.swI eK ec ef d p) (IsL.swI eK ec ef ds b)
end
section
variable {G G' : Gm} (eK : G'.K = G.K) (ec : G'.ca = G.ca) (ef : G'.fn = G.fn)
include eK ec ef
theorem ObOk.swI {s : Hs} {x : Addr} {o : Ob} (h : ObOk G s x o) : ObOk G' s x o := by
  cases o with
  | lst l => obtain ⟨vs, h1, h2⟩ := h; exact ⟨vs, h1, IsL.swI eK ec ef _ h2⟩
  | ins c l => obtain ⟨dx, vs, h1, h2, h3⟩ := h; exact ⟨dx, vs, by rw [ec, ef]; exact h1, by rw [ef]; exact h2, IsL.swI eK ec ef _ h3⟩
  | tbl q => exact h
  | dct l => obtain ⟨kvs, h1, h2⟩ := h; exact ⟨kvs, h1, by
      clear h1
      induction h2 with
      | nil => exact .nil
      | cons p q ih => exact .cons (Is.swI eK ec ef _ p) ih⟩
theorem StOk.swI {s : Hs} {st : Sto} (et : G'.tb = G.tb) (k : StOk G s st) (hx : ExF G' s) : StOk G' s st := ⟨k.sf, k.len, k.nd, fun n x o h1 h2 => ObOk.swI eK ec ef (k.ob n x o h1 h2), k.nf, by rw [et]; exact k.tb, hx⟩
theorem VOk.swI {s t : Hs} {m : Md} {v : V} {d : D} (h : VOk G s t m v d) : VOk G' s t m v d := by
  cases m with
  | P => exact Is.swI eK ec ef _ h
  | B => obtain ⟨p, vs, l, x, b, c, e, f⟩ := h; exact ⟨p, vs, l, x, b, c, IsL.swI eK ec ef _ e, f⟩
  | N => obtain ⟨p, vs, l, x, b, c, e, f, g⟩ := h; exact ⟨p, vs, l, x, b, c, IsL.swI eK ec ef _ e, f, g⟩
theorem SlotOk.swI {s t : Hs} {o : Option V} {sl : SL} (h : SlotOk G s t o sl) (hs : sl ≠ .exn ∧ ∀ ds, sl ≠ .clo ds) : SlotOk G' s t o sl := by
  cases sl with
  | emp => trivial
  | exn => exact absurd rfl hs.1
  | clo ds => exact absurd rfl (hs.2 ds)
  | val d => obtain ⟨v, a, b⟩ := h; exact ⟨v, a, Is.swI eK ec ef _ b⟩
  | own l => obtain ⟨p, vs, a, b, c, d, e, f⟩ := h; exact ⟨p, vs, a, b, c, d, IsL.swI eK ec ef _ e, f⟩
theorem EnvOk.swI {s t : Hs} {σ : L2.St} {e : DE} (E : EnvOk G s t σ e) : EnvOk G' s t σ (clr e) := by
  refine ⟨E.gr, by rw [E.len]; simp [clr], fun i o s a b => ?_, fun i j p l m hij a b c d => ?_⟩
  · obtain ⟨h1, h2 | h2⟩ := clr_get b
    · subst h2; trivial
    · exact (E.at_ i o s a h2).swI eK ec ef h1
  · obtain ⟨_, h2 | h2⟩ := clr_get b
    · cases h2
    · obtain ⟨_, h3 | h3⟩ := clr_get d
      · cases h3
      · exact E.dis i j p l m hij a h2 c h3
end
section
variable {G : Gm} {W : WX}
theorem exF_of {t : Hs} {c : Nat} {l : List D} {x : Option Addr} (a : Addr) (h : ExcOk G t c l x) : ExF (G.exn a x c l) t := fun da hd => by
  have hd : x = some da := hd
  rcases h with ⟨_, hx⟩ | ⟨da', xs, hx, _, h1, h2, h3⟩
  · rw [hx] at hd; cases hd
  · rw [hx] at hd
    cases hd
    subst hx
    exact ⟨xs, h1, h2, IsL.swI (G := G) (G' := G.exn a (some da) c l) rfl rfl rfl _ h3⟩
def dXf (i : Nat) (o : Option D) : En → ER := fun E => match E.e[i]? with
  | some .exn => ofOpt o fun d => .val .P d E.st
  | _ => .bad
theorem v_xf {i : Nat} {a : Addr} {x : Option Addr} {c : Nat} {l : List D} {C : Addr} {cls : Value} {dd : Option Addr} {fld : Str} (hx : x = none → l = []) (hcls : cls = .ref (G.ca c)) (hdd : dd = x) (hC : G.ca c = C) (hn : G.fn c = [fld]) : DEv (G.exn a x c l) W (tXf a cls dd C fld (tVar i)) (dXf i l[0]?) := by
  subst hcls
  subst hC
  rw [hdd]
  clear hdd
  intro s t σ e st E k Q post
  unfold dXf at post
  split at post
  · rename_i q
    obtain ⟨o, h1, h2⟩ := E.slot q
    have h2 : o = some (.ref a) := h2
    subst h2
    obtain ⟨d, hd, post⟩ := RPost.opt _ _ post
    refine ⟨_, h1, rfl, rfl, ?_⟩
    cases x with
    | none => rw [hx rfl] at hd; cases hd
    | some da =>
      obtain ⟨xs, z1, z2, z3⟩ := k.ex da rfl
      have z1 : t.f da = some (.xd ((G.fn c).zip xs)) := z1
      have z2 : (G.fn c).length = xs.length := z2
      have z3 : IsL (G.exn a (some da) c l) t.as t.f xs l := z3
      obtain ⟨v, e1, e2⟩ := z3.get hd
      rw [hn] at z1 z2
      match xs, z2, e1, z1 with
      | [v'], _, e1, z1 =>
        cases e1
        exact ⟨da, _, v, rfl, k.sf _ _ z1, by simp [List.lookup], RPost.now k post e2⟩
  · exact post.elim
@[simp] theorem e_dXf {i : Nat} {o : Option D} {E : En} : dXf i o E = match E.e[i]? with
  | some .exn => ofOpt o fun d => .val .P d E.st
  | _ => .bad := rfl
end
end Dn
namespace Dn
open PySem PySem.W PySem.Spec PyProof.Rows L2
section
variable {prog : Program} {w : World} {A : Around} {E : Value → Shared → Prop} {s : Shared} {K : Frag} {e C : Addr} {oe od : Obj}
theorem cls_look (T : ExcC K C) {Q : Option Value → Shared → Prop} (ki : K.In s.heap) (at_ : InstAt s.heap e oe C (some od)) (q : Q (some (.ref C)) { s with toks := s.toks + 1 }) : wpAny (model prog w) A (getAttr? (.ref e) "__class__") Q E s := by
  obtain ⟨hp, g, dr, tk, os⟩ := s
  have fo : findObj K C (some od) "__class__" = some (.bind (.builtin "getset_descriptor.__get__") (.builtin "object.__class__")) := findObj_data (by obtain ⟨cd, hc, _⟩ := any_some T.hd; rw [hc]; rfl) T.ha T.hn T.ht
  have lt := at_.type (M := model prog w)
  have lg := looks_findIn (M := model prog w) ki T.hg
  have lk := looks_findIn (M := model prog w) ki T.hk
  have lf := looks_find (M := model prog w) ki at_ fo
  have isx : Looks (model prog w) hp (isInstance (.ref e) (.type "BaseException")) true := lt.andThen (looks_subIn ki T.hs)
  have b0 : (false && onTheHeap (Value.builtin "BaseException.__getattribute__")) = false := rfl
  have b1 : (onTheHeap (Value.ref C) && Value.builtin "BaseException.__getattribute__" == Value.builtin "object.__getattribute__") = false := by
    rw [show (Value.builtin "BaseException.__getattribute__" == Value.builtin "object.__getattribute__") = false by decide +kernel]; rfl
  unfold getAttr? getAttrBy? getAttrBy
  refine wpAny_bind (wpAny_mkText (wpAny_bind (wpAny_attempt (wpAny_holding (wpAny_bind (lt.at (wpAny_bind (lg.at ?_))))))))
  show wpAny _ _ (if (onTheHeap (Value.ref C) && Value.builtin "BaseException.__getattribute__" == Value.builtin "object.__getattribute__") = true then _ else _) _ _ _
  rw [b1, if_neg Bool.false_ne_true]
  unfold getAttrByItsOwn hookBefore
  refine wpAny_bind ?_
  rw [if_pos (show onTheHeap (Value.ref C) = true from rfl)]
  refine lk.at (wpAny_bind (wpAny_attempt (wpAny_holding ?_)))
  unfold callGetattribute
  rw [b0, if_neg Bool.false_ne_true]
  unfold boundAndCalled
  rw [PySem.F.excAttr_ValueError.ga.bind (.ref e)]
  refine wpAny_bind (wpAny_pure ?_)
  show wpAny _ _ (call (.builtin "BaseException.__getattribute__") [.ref e, .str "__class__" tk]) _ _ _
  refine wpAny_call (codeAny_call_builtin PySem.F.excAttr_ValueError.ga.plain PySem.F.entry_bexc_ga ?_)
  refine @check_slot (model prog w) _ _ ⟨hp, g, dr, tk + 1, os⟩ "BaseException.__getattribute__" "BaseException" "__getattribute__" (.ref e) [.str "__class__" tk] [] _ (by decide +kernel) (by decide +kernel) isx (PySem.F.args_bexc_ga (.ref e) (.str "__class__" tk)) ?_
  unfold Builtin.«object.__getattribute__»
  refine wpAny_bind (wpAny_of_eq (a := ((Value.ref e : Value), [Value.str "__class__" tk])) (by first | rfl | (simp only [slotArgs]; rfl)) ?_)
  refine wpAny_bind (wpAny_pure (wpAny_bind (lt.at (wpAny_bind (lf.at ?_)))))
  show wpAny _ _ (holding [Value.builtin "object.__class__"] (call (.builtin "getset_descriptor.__get__") [.builtin "object.__class__", .ref e, .ref C]) >>= ret) _ _ _
  refine wpAny_bind (wpAny_holding (wpAny_call (class_get (s := ⟨hp, g, dr, tk + 1, os⟩) (ox := oe) (od := some od) ki at_ T.hm ?_)))
  refine wpAny_pure ?_
  show wpAny _ _ (handedOut (.ref C)) _ _ _
  rw [handedOut_of (v := .ref C) rfl]
  first
    | exact wpAny_pure (wpAny_pure q)
    | exact wpAny_pure q
    | exact wpAny_pure (wpAny_bind (wpAny_pure (wpAny_pure q)))
theorem kit_exd (T : ExcC K C) : KitX K (.ref e) (.ref C) (fun h => InstAt h e oe C (some od)) := by
  have old := handS_kitx_exc (x := e) (ox := oe) T.hg T.hk T.hs T.hd T.ha T.hn T.ht T.hm
  exact {
    ty := fun _ _ _ I => I.type
    it := fun M h X I => by
      obtain ⟨cdD, hcD, _⟩ := any_some T.hd
      unfold clsIn at hcD
      split at hcD
      · rename_i c' d' cd' sl' ho
        intro A' Q' E' s' k q
        unfold isType loadHead
        exact wpAny_bind (wpAny_loadPart (k _ _ (X _ _ ho)) (wpAny_pure q))
      · cases hcD
    ne := old.ne
    ca := fun X I k => cls_look T X I k }
end
def rIsD (K : PySem.W.Frag) (a : Addr) (cls : Value) (d : Option Addr) : List V → Hp → VK → Prop := fun xs H Q => ∃ C dd fs, cls = .ref C ∧ d = some dd ∧ H dd = some (.xd fs) ∧ ExcC K C ∧ rIsE K C a xs H Q
theorem call_isD {X : Cx} {a : Addr} {cls : Value} {d : Option Addr} {oe : Obj} {pn : List (Addr × Obj)} (hz : Zc cls d oe) (hf : ∃ vs, oe.data = .fields vs) : CallR (X.suite a ((a, oe) :: pn)) (.builtin "isinstance") (rIsD X.K a cls d) := by
  intro pins s σ H xs us Q I r h
  obtain ⟨C, dd, fs, rfl, rfl, hx, T, c, cv, b, rfl, hcv, e, q⟩ := h
  cases r with
  | cons rx rr =>
    cases rr with
    | cons rt rr =>
      cases rr
      cases rx
      have ec := hcv _ rt
      subst ec
      obtain ⟨hget, _⟩ := I.pin (a, oe) (List.mem_append.mpr (.inl List.mem_cons_self))
      obtain ⟨vs, hv⟩ := hf
      obtain ⟨mA, hns, hr⟩ := (show ObjOk X.prog X.w H s.heap dd (.xd fs) from I.hok dd _ hx)
      obtain ⟨od, ho, hl⟩ := lookIn_ns hns
      have J : PySem.W.InstAt s.heap a oe C (some od) := ⟨hget, hz.1, by unfold PySem.W.notCls; rw [hv] <;> rfl, by rw [hz.2]; exact ho⟩
      exact PySem.W.kia_one (kit_exd T) I.kIn J e (fun z => nomatch z) fun tk => ⟨.bl b, H, I.kept (t' := tk) fun _ _ z => z, rfl, q⟩
end Dn
namespace Dn
open PySem PySem.Spec PyProof.Rows L2
section
variable {G : Gm} {W : WX}
open Classical in
noncomputable def lcGoC (C : Sto → Prop) (k : D → Sto → Option (Option D × Sto)) : List D → Sto → Option (List D × Sto)
  | [], st => if C st then some ([], st) else none
  | d :: l, st => if C st then (k d st).bind fun o => (lcGoC C k l o.2).bind fun r => some (o.1.toList ++ r.1, r.2) else none
noncomputable def dLcX (f : En → ER) (t : D → DE → Option DE) (c g : En → ER) (vs : List Nat) : En → ER := fun E => match f E with
  | .val _ (.ptr n) st => (match stLst st n with
    | some l => if l.length ≤ 1000000 then ofOpt (lcGoC (fun st => stLst st n = some l) (lcStep t c g (wipeE E.e vs)) l st) fun r => .val .N (.lst r.1) r.2 else .bad
    | none => .bad)
  | _ => dLc (dIter f) t c g vs E
end
section
variable {G : Gm} {W : WX}
def oNotInF (a b : D) (st : Sto) : ER := match b with
  | .tup l => if flat a = true ∧ l.all flat = true then .val .P (.bl (!inV (toV a) (l.map toV))) st else .bad
  | _ => .bad
@[simp] theorem e_oNotInF {a : D} {l : List D} {st : Sto} : oNotInF a (.tup l) st = if flat a = true ∧ l.all flat = true then .val .P (.bl (!inV (toV a) (l.map toV))) st else .bad := rfl
end
end Dn
namespace Dn
open PySem PySem.Spec PyProof.Rows L2
def ZS (h : Heap) (z TI TO i1 i2 l1 l2 S : Addr) (k : Nat) : Prop := IsPair h TI (.ref i1) (.ref i2) ∧ h.IsListIter i1 l1 k ∧ h.IsListIter i2 l2 k ∧ (∃ o, h.get? TO = some o) ∧
  ((IsZip h z TI TO .none ∧ ∃ a b, IsPair h TO a b) ∨ ∃ T f oT, IsZipHeld h z TI TO T f ∧ h.get? T = some oT ∧ T ≠ z ∧ T ≠ i1 ∧ T ≠ i2 ∧ T ≠ S)
theorem ZS.keep {h h' : Heap} {z TI TO i1 i2 l1 l2 S : Addr} {k : Nat} (q : ZS h z TI TO i1 i2 l1 l2 S k) (nS : S ≠ z ∧ S ≠ TI ∧ S ≠ TO ∧ S ≠ i1 ∧ S ≠ i2) (hk : ∀ b o, b ≠ S → h.get? b = some o → h'.get? b = some o) : ZS h' z TI TO i1 i2 l1 l2 S k := by
  obtain ⟨a, b, c, ⟨oo, w⟩, d⟩ := q
  obtain ⟨n1, n2, n3, n4, n5⟩ := nS
  refine ⟨hk _ _ (Ne.symm n2) a, b.at fun o e => hk _ o (Ne.symm n4) e, c.at fun o e => hk _ o (Ne.symm n5) e, ⟨oo, hk _ _ (Ne.symm n3) w⟩, ?_⟩
  rcases d with ⟨d, x, y, e⟩ | ⟨T, f, oT, d, e, r1, r2, r3, r4⟩
  · exact .inl ⟨hk _ _ (Ne.symm n1) d, x, y, hk _ _ (Ne.symm n3) e⟩
  · exact .inr ⟨T, f, oT, hk _ _ (Ne.symm n1) d, hk _ _ r4 e, r1, r2, r3, r4⟩
section
variable {G : Gm} {W : WX}
def lstOf (st : Sto) : D → Option (List D)
  | .lst l => some l
  | .ptr n => stLst st n
  | _ => none
def dLz (f : En → AR) : En → ER := fun E => match f E with
  | .ok _ [a, b] st => ofOpt (lstOf st a) fun l => ofOpt (lstOf st b) fun m => if min l.length m.length ≤ 1000000 then .val .N (.lst (zipD l m)) st else .bad
  | .exc c l st => .exc c l st
  | _ => .bad
@[simp] theorem e_dLz {f : En → AR} {E : En} : dLz f E = match f E with
  | .ok _ [a, b] st => ofOpt (lstOf st a) fun l => ofOpt (lstOf st b) fun m => if min l.length m.length ≤ 1000000 then .val .N (.lst (zipD l m)) st else .bad
  | .exc c l st => .exc c l st
  | _ => .bad := rfl
@[simp] theorem lstOf_lst {st : Sto} {l : List D} : lstOf st (.lst l) = some l := rfl
@[simp] theorem lstOf_ptr {st : Sto} {n : Nat} : lstOf st (.ptr n) = stLst st n := rfl
end
theorem FldOk.sw {G G' : Gm} {f : Str} {ix : Nat → Option Nat} (h : FldOk G f ix) (eK : G'.K = G.K := by rfl) (ec : G'.ca = G.ca := by rfl) (ef : G'.fn = G.fn := by rfl) : FldOk G' f ix := ⟨fun c i q => by rw [eK, ec, ef]; exact h.ok c i q⟩
@[simp] theorem e_dLcX {f : En → ER} {t : D → DE → Option DE} {c g : En → ER} {vs : List Nat} {E : En} : dLcX f t c g vs E = match f E with
  | .val _ (.ptr n) st => (match stLst st n with
    | some l => if l.length ≤ 1000000 then ofOpt (lcGoC (fun st => stLst st n = some l) (lcStep t c g (wipeE E.e vs)) l st) fun r => .val .N (.lst r.1) r.2 else .bad
    | none => .bad)
  | _ => dLc (dIter f) t c g vs E := rfl
end Dn
namespace Dn
open PySem PySem.Spec PyProof.Rows L2
open HandSPX
end Dn
namespace Dn
open PySem PySem.Spec PyProof.Rows L2
inductive LR where | ok (o : Option D) (st : Sto) | exc (c : Nat) (l : List D) (st : Sto) | bad
def lcStepE (t : D → DE → Option DE) (c f : En → ER) (e : DE) (d : D) (st : Sto) : LR := match t d e with
  | none => .bad
  | some e2 => (match c ⟨e2, st⟩ with
    | .val _ (.bl b) st1 => if b = true then (match f ⟨e2, st1⟩ with | .val .P y st2 => .ok (some y) st2 | .val .N y st2 => .ok (some y) st2 | .exc k l st2 => .exc k l st2 | _ => .bad) else .ok none st1
    | _ => .bad)
def lcGoE (k : D → Sto → LR) : List D → List D → Sto → ER
  | [], acc, st => .val .N (.lst acc) st
  | d :: l, acc, st => match k d st with
    | .ok o st1 => lcGoE k l (acc ++ o.toList) st1
    | .exc c x st1 => .exc c x st1
    | .bad => .bad
def dLcE (src : En → AR) (t : D → DE → Option DE) (c f : En → ER) (vs : List Nat) : En → ER := fun E => match src E with
  | .ok _ l st => if l.length ≤ 1000000 then lcGoE (lcStepE t c f (wipeE E.e vs)) l [] st else .bad
  | .exc k l st => .exc k l st
  | .bad => .bad
@[simp] theorem e_dLcE {src : En → AR} {t : D → DE → Option DE} {c f : En → ER} {vs : List Nat} {E : En} : dLcE src t c f vs E = match src E with
  | .ok _ l st => if l.length ≤ 1000000 then lcGoE (lcStepE t c f (wipeE E.e vs)) l [] st else .bad
  | .exc k l st => .exc k l st
  | .bad => .bad := rfl
end Dn
namespace Dn
open PySem PySem.Spec PyProof.Rows L2
section
variable {G : Gm} {W : WX}
def oAddX (a b : D) (st : Sto) : ER := match deref st a, deref st b with
  | .lst x, .lst y => if x.length + y.length ≤ 1000000 then .val .N (.lst (x ++ y)) st else .bad
  | _, _ => oAdd a b st
def oSlX (d : D) (lo hi : Option Int) (st : Sto) : ER := match deref st d with
  | .lst l => .val .N (.lst (cutG l lo hi)) st
  | _ => oSl d lo hi st
def firstI (k : Int) : List Int → Option Nat
  | [] => none
  | n :: r => if n = k then some 0 else (firstI k r).map (· + 1)
def mRemove (l ds : List D) : Option (D × List D) := match ds with
  | [.int k] => (intsOf l).bind fun ns => (firstI k ns).map fun j => (.non, (ns.eraseIdx j).map .int)
  | _ => none
end
@[simp] theorem e_oAddX {a b : D} {st : Sto} : oAddX a b st = (match deref st a, deref st b with
  | .lst x, .lst y => if x.length + y.length ≤ 1000000 then .val .N (.lst (x ++ y)) st else .bad
  | _, _ => oAdd a b st) := rfl
@[simp] theorem e_oSlX {d : D} {lo hi : Option Int} {st : Sto} : oSlX d lo hi st = (match deref st d with
  | .lst l => .val .N (.lst (cutG l lo hi)) st
  | _ => oSl d lo hi st) := rfl
@[simp] theorem e_mRemove {l : List D} {k : Int} : mRemove l [.int k] = (intsOf l).bind fun ns => (firstI k ns).map fun j => (.non, (ns.eraseIdx j).map .int) := rfl
end Dn
namespace Dn
open PySem PySem.Spec PyProof.Rows L2
section
variable {G : Gm} {W : WX}
def hdl : List ((Nat → Option Bool) × (En → SR)) → Nat → Option (Option (En → SR))
  | [], _ => some none
  | x :: r, c => match x.1 c with
    | some true => some (some x.2)
    | some false => hdl r c
    | none => none
def clrS : SR → SR
  | .nx E => .nx ⟨clr E.e, E.st⟩
  | .bk E => .bk ⟨clr E.e, E.st⟩
  | .ct E => .ct ⟨clr E.e, E.st⟩
  | .rt m d st => .rt m d st
  | _ => .bad
def sTryL (hs : List ((Nat → Option Bool) × (En → SR))) (g : En → SR) : En → SR := fun E => match g E with
  | .exc c l E1 => (match hdl hs c with
    | some (some h) => clrS (h ⟨clr E1.e, E1.st⟩)
    | some none => .exc c l E1
    | none => .bad)
  | r => r
inductive HsD (G : Gm) : List (Value × (Addr → Value → Option Addr → TS)) → List ((Nat → Option Bool) × (En → SR)) → Prop
  | nil : HsD G [] []
  | cons {C : Value} {ts : Addr → Value → Option Addr → TS} {p : Nat → Option Bool} {h : En → SR} {l : List (Value × (Addr → Value → Option Addr → TS))} {hs : List ((Nat → Option Bool) × (En → SR))} (hc : ∀ c b, p c = some b → PySem.W.exmOne G.K (.ref (G.ca c)) C = some b) (hd : ∀ a cls d, DSt (G.at_ a) W0 (ts a cls d) h) (r : HsD G l hs) : HsD G ((C, ts) :: l) ((p, h) :: hs)
end
@[simp] theorem e_hdl0 {c : Nat} : hdl [] c = some none := rfl
@[simp] theorem e_hdlC {p : Nat → Option Bool} {h : En → SR} {r : List ((Nat → Option Bool) × (En → SR))} {c : Nat} : hdl ((p, h) :: r) c = (match p c with
    | some true => some (some h)
    | some false => hdl r c
    | none => none) := rfl
@[simp] theorem e_sTryL {hs : List ((Nat → Option Bool) × (En → SR))} {g : En → SR} {E : En} : sTryL hs g E = match g E with
  | .exc c l E1 => (match hdl hs c with
    | some (some h) => clrS (h ⟨clr E1.e, E1.st⟩)
    | some none => .exc c l E1
    | none => .bad)
  | r => r := rfl
@[simp] theorem e_clrSN {E : En} : clrS (.nx E) = .nx ⟨clr E.e, E.st⟩ := rfl
@[simp] theorem e_clrSB {E : En} : clrS (.bk E) = .bk ⟨clr E.e, E.st⟩ := rfl
@[simp] theorem e_clrSC {E : En} : clrS (.ct E) = .ct ⟨clr E.e, E.st⟩ := rfl
@[simp] theorem e_clrSR {m : Md} {d : D} {st : Sto} : clrS (.rt m d st) = .rt m d st := rfl
end Dn
namespace Dn
open PySem PySem.Spec PyProof.Rows L2
section
variable {G : Gm} {W : WX}
def oTupleX : List D → Sto → ER
  | [.ptr n], st => ofOpt (stLst st n) fun l => .val .P (.tup l) st
  | l, st => oTuple l st
def dIdx (fb : En → ER) (fa : En → AR) : En → ER := fun E => match fb E with
  | .val _ (.lst l) st => (match fa ⟨E.e, st⟩ with
    | .ok _ [.int k] st1 => ofOpt ((intsOf l).bind (firstI k)) fun n => .val .P (.int (n : Nat)) st1
    | .exc c l st => .exc c l st
    | _ => .bad)
  | .exc c l st => .exc c l st
  | _ => .bad
end
@[simp] theorem e_oTupleXP {n : Nat} {st : Sto} : oTupleX [.ptr n] st = ofOpt (stLst st n) fun l => .val .P (.tup l) st := rfl
@[simp] theorem e_oTupleXL {l : List D} {st : Sto} : oTupleX [.lst l] st = .val .P (.tup l) st := rfl
@[simp] theorem e_oTupleXT {l : List D} {st : Sto} : oTupleX [.tup l] st = .val .P (.tup l) st := rfl
@[simp] theorem e_dIdx {fb : En → ER} {fa : En → AR} {E : En} : dIdx fb fa E = match fb E with
  | .val _ (.lst l) st => (match fa ⟨E.e, st⟩ with
    | .ok _ [.int k] st1 => ofOpt ((intsOf l).bind (firstI k)) fun n => .val .P (.int (n : Nat)) st1
    | .exc c l st => .exc c l st
    | _ => .bad)
  | .exc c l st => .exc c l st
  | _ => .bad := rfl
end Dn
namespace Dn
open PySem PySem.Spec PyProof.Rows L2
section
variable {G : Gm} {W : WX}
def derefN : Nat → Sto → D → D
  | 0, _, d => d
  | k + 1, st, .ptr n => (match stLst st n with | some l => .lst (l.map (derefN k st)) | none => .ptr n)
  | k + 1, st, .tup l => .tup (l.map (derefN k st))
  | k + 1, st, .lst l => .lst (l.map (derefN k st))
  | _ + 1, _, d => d
def oEqN (a b : D) (st : Sto) : ER := oEq (derefN 4 st a) (derefN 4 st b) st
def oNeN (a b : D) (st : Sto) : ER := oNe (derefN 4 st a) (derefN 4 st b) st
@[simp] theorem e_oEqN {a b : D} {st : Sto} : oEqN a b st = oEq (derefN 4 st a) (derefN 4 st b) st := rfl
@[simp] theorem e_oNeN {a b : D} {st : Sto} : oNeN a b st = oNe (derefN 4 st a) (derefN 4 st b) st := rfl
end
end Dn
namespace Dn
open PySem PySem.Spec PyProof.Rows L2
section
variable {G : Gm} {W : WX}
def dZipA (f : En → AR) : En → AR := fun E => match f E with
  | .ok true [.lst l, .lst m] st => .ok true (zipD l m) st
  | .ok true [.tup l, .tup m] st => .ok true (zipD l m) st
  | .exc c l st => .exc c l st
  | _ => .bad
@[simp] theorem e_dZipA {f : En → AR} {E : En} : dZipA f E = match f E with
  | .ok true [.lst l, .lst m] st => .ok true (zipD l m) st
  | .ok true [.tup l, .tup m] st => .ok true (zipD l m) st
  | .exc c l st => .exc c l st
  | _ => .bad := rfl
end
end Dn
namespace Dn
open PySem PySem.Spec PyProof.Rows L2
section
variable {G : Gm} {W : WX}
noncomputable def dLcZ (f : En → AR) (t : D → DE → Option DE) (c g : En → ER) (vs : List Nat) : En → ER := fun E => match f E with
  | .ok true [.ptr n, .lst m] st => (match stLst st n with
    | some l => if (zipD l m).length ≤ 1000000 then ofOpt (lcGoC (fun st => stLst st n = some l) (lcStep t c g (wipeE E.e vs)) (zipD l m) st) fun r => .val .N (.lst r.1) r.2 else .bad
    | none => .bad)
  | _ => dLc (dZipA f) t c g vs E
end
@[simp] theorem e_dLcZ {fs : En → AR} {t : D → DE → Option DE} {c f : En → ER} {vs : List Nat} {E : En} : dLcZ fs t c f vs E = match fs E with
  | .ok true [.ptr n, .lst m] st => (match stLst st n with
    | some l => if (zipD l m).length ≤ 1000000 then ofOpt (lcGoC (fun st => stLst st n = some l) (lcStep t c f (wipeE E.e vs)) (zipD l m) st) fun r => .val .N (.lst r.1) r.2 else .bad
    | none => .bad)
  | _ => dLc (dZipA fs) t c f vs E := rfl
section
variable {G : Gm}
def mExtend (l ds : List D) : Option (D × List D) := match ds with
  | [.lst z] => if l.length + z.length ≤ 1000000 then some (.non, l ++ z) else none
  | _ => none
@[simp] theorem e_mExtend {l z : List D} : mExtend l [.lst z] = if l.length + z.length ≤ 1000000 then some (.non, l ++ z) else none := rfl
end
end Dn
namespace Dn
open PySem PySem.W PySem.Spec PyProof.Rows L2
def rIsX (K : PySem.W.Frag) (a : Addr) (cls : Value) (d : Option Addr) : List V → Hp → VK → Prop := fun xs H Q => ∃ C, cls = .ref C ∧ (d = none ∨ ∃ dd fs, d = some dd ∧ H dd = some (.xd fs)) ∧ ExcC K C ∧
  (rIsE K C a xs H Q ∨ ∃ (tp : Addr) (cs : List V) (us : List Value) (b : Bool), xs = [.ref a, .ref tp] ∧ H tp = some (.tup cs) ∧ Paired ClsV cs us ∧ PySem.W.kitAny K (.ref C) us = some b ∧ Q (.bl b) H)
theorem call_isX {X : Cx} {a : Addr} {cls : Value} {d : Option Addr} {oe : Obj} {pn : List (Addr × Obj)} (hz : Zc cls d oe) (hf : ∃ vs, oe.data = .fields vs) : CallR (X.suite a ((a, oe) :: pn)) (.builtin "isinstance") (rIsX X.K a cls d) := by
  intro pins s σ H xs us Q I r h
  obtain ⟨C, rfl, hd, T, h⟩ := h
  rcases h with h | ⟨tp, cs, ws, b, rfl, hT, k, e, q⟩
  · rcases hd with rfl | ⟨dd, fs, rfl, hx⟩
    · exact call_isE T hz hf pins s σ H xs us Q I r h
    · exact call_isD hz hf pins s σ H xs us Q I r ⟨C, dd, fs, rfl, rfl, hx, T, h⟩
  · cases r with
    | cons rx rr =>
    cases rr with
    | cons rt rr =>
    cases rr
    cases rx
    cases rt
    obtain ⟨hget, _⟩ := I.pin (a, oe) (List.mem_append.mpr (.inl List.mem_cons_self))
    obtain ⟨_, its, rv, o, h1, h2, n, h3⟩ := (show ObjOk X.prog X.w H s.heap tp (.tup cs) from I.hok tp _ hT)
    have e3 := ClsV.all k rv
    subst e3
    obtain ⟨oc, od', dt, sl⟩ := o
    simp only at h2 h3
    subst h2 h3
    obtain ⟨vs, hv⟩ := hf
    rcases hd with rfl | ⟨dd, fs, rfl, hx⟩
    · have J : PySem.W.InstAt s.heap a oe C none := by
        obtain ⟨oc, od, oda, osl⟩ := oe
        obtain ⟨h1, h2⟩ := hz
        dsimp only at h1 h2 hv
        subst h1 h2 hv
        exact ⟨hget, rfl, rfl, trivial⟩
      exact PySem.W.kia_tup (PySem.W.handS_kitx_exc T.hg T.hk T.hs T.hd T.ha T.hn T.ht T.hm) I.kIn J h1 e (fun z => nomatch z) fun tk => ⟨.bl b, H, I.kept (t' := tk) fun _ _ z => z, rfl, q⟩
    · obtain ⟨mA, hns, hr⟩ := (show ObjOk X.prog X.w H s.heap dd (.xd fs) from I.hok dd _ hx)
      obtain ⟨od, ho, hl⟩ := lookIn_ns hns
      have J : PySem.W.InstAt s.heap a oe C (some od) := ⟨hget, hz.1, by unfold PySem.W.notCls; rw [hv] <;> rfl, by rw [hz.2]; exact ho⟩
      exact PySem.W.kia_tup (kit_exd T) I.kIn J h1 e (fun z => nomatch z) fun tk => ⟨.bl b, H, I.kept (t' := tk) fun _ _ z => z, rfl, q⟩
section
variable {G : Gm} {W : WX}
theorem xd_at {t : Hs} {st : Sto} {a : Addr} {x : Option Addr} {c : Nat} {l : List D} (k : StOk (G.exn a x c l) t st) : x = none ∨ ∃ dd fs, x = some dd ∧ t.h dd = some (.xd fs) := by
  cases x with
  | none => exact .inl rfl
  | some da =>
    obtain ⟨xs, z1, _, _⟩ := k.ex da rfl
    exact .inr ⟨da, _, rfl, k.sf _ _ z1⟩
theorem v_isX {i : Nat} {b : Option Bool} {a : Addr} {x : Option Addr} {c : Nat} {l : List D} {C : V} {cv cls : Value} {dd : Option Addr} (hcls : cls = .ref (G.ca c)) (hdd : dd = x) (T : ExcC G.K (G.ca c)) (hC : ∀ u, RelV C u → u = cv) (hb : ∀ r, b = some r → PySem.W.kitOne G.K (.ref (G.ca c)) cv = some r) :
    DEv (G.exn a x c l) W (tCB (rIsX G.K a cls dd) (tCons (tVar i) (tCons (tC C) tNil))) (dIsE i b) := by
  subst hcls
  subst hdd
  intro s t σ e st E k Q post
  unfold dIsE at post
  split at post
  · rename_i q
    obtain ⟨o, h1, h2⟩ := E.slot q
    have h2 : o = some (.ref a) := h2
    subst h2
    obtain ⟨r, hr, post⟩ := RPost.opt _ _ post
    exact ⟨_, h1, G.ca c, rfl, xd_at k, T, .inl ⟨C, cv, r, rfl, hC, hb r hr, post.now k (.bl _)⟩⟩
  · exact post.elim
end
end Dn
namespace Dn
open PySem PySem.W PySem.Spec PyProof.Rows L2
def anyO : List (Option Bool) → Option Bool
  | [] => some false
  | none :: _ => none
  | some true :: _ => some true
  | some false :: l => anyO l
@[simp] theorem e_anyO_nil : anyO [] = some false := rfl
@[simp] theorem e_anyO_t {l : List (Option Bool)} : anyO (some true :: l) = some true := rfl
@[simp] theorem e_anyO_f {l : List (Option Bool)} : anyO (some false :: l) = anyO l := rfl
end Dn
namespace Dn
open PySem PySem.Spec PyProof.Rows L2
section
variable {G : Gm} {W : WX}
def oInF (a b : D) (st : Sto) : ER := match b with
  | .tup l => if flat a = true ∧ l.all flat = true then .val .P (.bl (inV (toV a) (l.map toV))) st else .bad
  | _ => .bad
@[simp] theorem e_oInF {a : D} {l : List D} {st : Sto} : oInF a (.tup l) st = if flat a = true ∧ l.all flat = true then .val .P (.bl (inV (toV a) (l.map toV))) st else .bad := rfl
end
end Dn
namespace Dn
open PySem PySem.Spec PyProof.Rows L2
section
variable {G : Gm} {W : WX}
noncomputable def sForE (f : En → AR) (t : D → DE → Option DE) (b : En → SR) : En → SR := fun E => match f E with
  | .ok true [.ptr n] st => (match stLst st n with | some l => forPD n l (tgB t b) (enumD 0 l) ⟨E.e, st⟩ | none => .bad)
  | _ => sFor (dEnum f) t b E
def oSortedP : List D → Sto → ER
  | [.ptr n], st => (match stLst st n with
    | some l => (match intsOf l with
      | some ns => if ns.length < 64 then .val .N (.lst ((srt ns).map .int)) st else .bad
      | none => .bad)
    | none => .bad)
  | l, st => oSortedX l st
@[simp] theorem e_oSortedP_1 {n : Nat} {st : Sto} : oSortedP [.ptr n] st = (match stLst st n with
    | some l => (match intsOf l with
      | some ns => if ns.length < 64 then .val .N (.lst ((srt ns).map .int)) st else .bad
      | none => .bad)
    | none => .bad) := rfl
@[simp] theorem e_oSortedP_2 {l : List D} {st : Sto} : oSortedP [.lst l] st = oSortedX [.lst l] st := rfl
@[simp] theorem e_sForE {f : En → AR} {t : D → DE → Option DE} {b : En → SR} {E : En} : sForE f t b E = match f E with
  | .ok true [.ptr n] st => (match stLst st n with | some l => forPD n l (tgB t b) (enumD 0 l) ⟨E.e, st⟩ | none => .bad)
  | _ => sFor (dEnum f) t b E := rfl
end
end Dn
namespace L2
open PySem PySem.Spec PyProof.Rows
end L2
namespace Dn
open PySem PySem.Spec PyProof.Rows L2
def dctAt : List (Str × D) → Str → Option D
  | [], _ => none
  | p :: r, k => if p.1 = k then some p.2 else dctAt r k
def dctPut (l : List (Str × D)) (k : Str) (d : D) : List (Str × D) :=
  if (dctAt l k).isSome = true then l.map (fun p => if p.1 = k then (p.1, d) else p) else l ++ [(k, d)]
def dctDrop (l : List (Str × D)) (k : Str) : List (Str × D) := l.filter fun p => decide (p.1 ≠ k)
def stDct (st : Sto) (n : Nat) : Option (List (Str × D)) := match st[n]? with
  | some (.dct l) => some l
  | _ => none
section
variable {G : Gm} {W : WX}
theorem StOk.dct {s : Hs} {st : Sto} {n : Nat} {l : List (Str × D)} {p : Addr} (k : StOk G s st) (ha : s.as[n]? = some p) (h : stDct st n = some l) : ∃ kvs : List (Key × V), s.h p = some (.dK kvs) ∧ KsR G s.as s.f kvs l := by
  unfold stDct at h
  split at h
  · rename_i l' q
    cases h
    exact k.ob n p _ ha q
  · cases h
section
variable {as : List Addr} {H : Hp} {kvs : List (Key × V)} {l : List (Str × D)}
theorem inr_ne {x k : Str} (e : ¬ x = k) : ¬ (Sum.inr x : Key) = .inr k := fun z => e (Sum.inr.inj z)
theorem KsR.get (h : KsR G as H kvs l) {k : Str} {d : D} (e : dctAt l k = some d) : ∃ v, valV kvs (.inr k) = some v ∧ Is G as H v d := by
  induction h with
  | nil => cases e
  | @cons x v d' ps ds a b ih =>
    unfold dctAt at e
    by_cases c : x = k
    · rw [if_pos c] at e
      cases e
      exact ⟨v, valV_pos (p := ((.inr x : Key), v)) (congrArg Sum.inr c), a⟩
    · rw [if_neg c] at e
      rw [valV_neg (p := ((.inr x : Key), v)) (inr_ne c)]
      exact ih e
theorem KsR.is (h : KsR G as H kvs l) (k : Str) : (valV kvs (.inr k)).isSome = (dctAt l k).isSome := by
  induction h with
  | nil => rfl
  | @cons x v d' ps ds a b ih =>
    unfold dctAt
    by_cases c : x = k
    · rw [if_pos c, valV_pos (p := ((.inr x : Key), v)) (congrArg Sum.inr c)]; rfl
    · rw [if_neg c, valV_neg (p := ((.inr x : Key), v)) (inr_ne c)]
      exact ih
theorem KsR.len (h : KsR G as H kvs l) : kvs.length = l.length := by
  induction h with
  | nil => rfl
  | cons a b ih => exact congrArg Nat.succ ih
theorem KsR.snoc (h : KsR G as H kvs l) {x : Str} {v : V} {d : D} (q : Is G as H v d) : KsR G as H (kvs ++ [(.inr x, v)]) (l ++ [(x, d)]) := by
  induction h with
  | nil => exact .cons q .nil
  | cons a b ih => exact .cons a ih
theorem KsR.repl (h : KsR G as H kvs l) {x : Str} {v : V} {d : D} (q : Is G as H v d) : KsR G as H (kvs.map fun kv => if kv.1 = .inr x then (kv.1, v) else kv) (l.map fun p => if p.1 = x then (p.1, d) else p) := by
  induction h with
  | nil => exact .nil
  | @cons y w d' ps ds a b ih =>
    rw [List.map_cons, List.map_cons]
    by_cases c : y = x
    · rw [if_pos (show ((Sum.inr y : Key), w).1 = .inr x from congrArg Sum.inr c), if_pos c]; exact .cons q ih
    · rw [if_neg (show ¬ ((Sum.inr y : Key), w).1 = .inr x from inr_ne c), if_neg c]; exact .cons a ih
theorem KsR.put (h : KsR G as H kvs l) {x : Str} {v : V} {d : D} (q : Is G as H v d) : KsR G as H (putK kvs (.inr x) v) (dctPut l x d) := by
  unfold putK dctPut
  rw [valV_any, h.is x]
  by_cases c : (dctAt l x).isSome = true
  · rw [if_pos c, if_pos c]; exact h.repl q
  · rw [if_neg c, if_neg c]; exact h.snoc q
theorem KsR.drop (h : KsR G as H kvs l) (x : Str) : KsR G as H (dropK kvs (.inr x)) (dctDrop l x) := by
  unfold dropK dctDrop
  induction h with
  | nil => exact .nil
  | @cons y w d' ps ds a b ih =>
    rw [List.filter_cons, List.filter_cons]
    by_cases c : y = x
    · rw [if_neg (by simp [c]), if_neg (by simp [c])]; exact ih
    · rw [if_pos (by simp [c]), if_pos (by simp [c])]; exact .cons a ih
end
def dDNew : En → ER := fun E => .val .P (.ptr E.st.length) (E.st ++ [.dct []])
def oInD (a b : D) (st : Sto) : ER := match a, b with
  | .str x, .ptr n => ofOpt (stDct st n) fun l => .val .P (.bl (dctAt l x).isSome) st
  | _, _ => .bad
def oNotInD (a b : D) (st : Sto) : ER := match a, b with
  | .str x, .ptr n => ofOpt (stDct st n) fun l => .val .P (.bl (!(dctAt l x).isSome)) st
  | _, _ => .bad
def oIxD (a b : D) (st : Sto) : ER := match a, b with
  | .ptr n, .str x => ofOpt (stDct st n) fun l => ofOpt (dctAt l x) fun d => .val .P d st
  | _, _ => .bad
def sSetD (fb f fi : En → ER) : En → SR := fun E => match f E with
  | .val .B _ _ => .bad
  | .val _ d st => (match fb ⟨E.e, st⟩ with
    | .val _ (.ptr n) st1 => (match fi ⟨E.e, st1⟩ with
      | .val _ (.str x) st2 => (match stDct st2 n with
        | some l => if l.length < 1000000 then .nx ⟨E.e, st2.set n (.dct (dctPut l x d))⟩ else .bad
        | none => .bad)
      | .exc c l st => .exc c l ⟨E.e, st⟩
      | _ => .bad)
    | .exc c l st => .exc c l ⟨E.e, st⟩
    | _ => .bad)
  | .exc c l st => .exc c l ⟨E.e, st⟩
  | .bad => .bad
def dDPop (f g : En → ER) : En → ER := fun E => match f E with
  | .val _ (.ptr n) st => (match stDct st n with
    | some _ => (match g ⟨E.e, st⟩ with
      | .val _ (.str x) st1 => (match stDct st1 n with
        | some l => (match dctAt l x with
          | some d => .val .P d (st1.set n (.dct (dctDrop l x)))
          | none => .bad)
        | none => .bad)
      | .exc c l st => .exc c l st
      | _ => .bad)
    | none => .bad)
  | .exc c l st => .exc c l st
  | _ => .bad
@[simp] theorem e_stDct {st : Sto} {n : Nat} : stDct st n = match st[n]? with | some (.dct l) => some l | _ => none := rfl
@[simp] theorem e_dDNew {E : En} : dDNew E = .val .P (.ptr E.st.length) (E.st ++ [.dct []]) := rfl
@[simp] theorem e_oInD {x : Str} {n : Nat} {st : Sto} : oInD (.str x) (.ptr n) st = ofOpt (stDct st n) fun l => .val .P (.bl (dctAt l x).isSome) st := rfl
@[simp] theorem e_oNotInD {x : Str} {n : Nat} {st : Sto} : oNotInD (.str x) (.ptr n) st = ofOpt (stDct st n) fun l => .val .P (.bl (!(dctAt l x).isSome)) st := rfl
@[simp] theorem e_oIxD {x : Str} {n : Nat} {st : Sto} : oIxD (.ptr n) (.str x) st = ofOpt (stDct st n) fun l => ofOpt (dctAt l x) fun d => .val .P d st := rfl
@[simp] theorem e_sSetD {fb f fi : En → ER} {E : En} : sSetD fb f fi E = match f E with
  | .val .B _ _ => .bad
  | .val _ d st => (match fb ⟨E.e, st⟩ with
    | .val _ (.ptr n) st1 => (match fi ⟨E.e, st1⟩ with
      | .val _ (.str x) st2 => (match stDct st2 n with
        | some l => if l.length < 1000000 then .nx ⟨E.e, st2.set n (.dct (dctPut l x d))⟩ else .bad
        | none => .bad)
      | .exc c l st => .exc c l ⟨E.e, st⟩
      | _ => .bad)
    | .exc c l st => .exc c l ⟨E.e, st⟩
    | _ => .bad)
  | .exc c l st => .exc c l ⟨E.e, st⟩
  | .bad => .bad := rfl
@[simp] theorem e_dDPop {f g : En → ER} {E : En} : dDPop f g E = match f E with
  | .val _ (.ptr n) st => (match stDct st n with
    | some _ => (match g ⟨E.e, st⟩ with
      | .val _ (.str x) st1 => (match stDct st1 n with
        | some l => (match dctAt l x with
          | some d => .val .P d (st1.set n (.dct (dctDrop l x)))
          | none => .bad)
        | none => .bad)
      | .exc c l st => .exc c l st
      | _ => .bad)
    | none => .bad)
  | .exc c l st => .exc c l st
  | _ => .bad := rfl
end
end Dn
namespace Dn
open PySem PySem.Spec PyProof.Rows L2
section
variable {G : Gm} {W : WX}
def oIsB (a b : D) (st : Sto) : ER := match a, b with
  | .bl x, .bl y => .val .P (.bl (decide (x = y))) st
  | _, _ => .bad
@[simp] theorem e_oIsB {x y : Bool} {st : Sto} : oIsB (.bl x) (.bl y) st = .val .P (.bl (decide (x = y))) st := rfl
end
end Dn
namespace Dn
open PySem PySem.Spec PyProof.Rows L2
end Dn
namespace Dn
open PySem PySem.Spec PyProof.Rows L2
section
variable {G : Gm} {W : WX}
def firstS (k : Str) : List Str → Option Nat
  | [] => none
  | n :: r => if n = k then some 0 else (firstS k r).map (· + 1)
def dIdxX (fb : En → ER) (fa : En → AR) : En → ER := fun E => match fb E with
  | .val _ (.ptr n) st => (match stLst st n with
    | some _ => (match fa ⟨E.e, st⟩ with
      | .ok _ [.str k] st1 => ofOpt ((stLst st1 n).bind fun l => (strsOf l).bind (firstS k)) fun j => .val .P (.int (j : Nat)) st1
      | .exc c l st => .exc c l st
      | _ => .bad)
    | none => .bad)
  | .exc c l st => .exc c l st
  | _ => .bad
end
@[simp] theorem e_dIdxX {fb : En → ER} {fa : En → AR} {E : En} : dIdxX fb fa E = match fb E with
  | .val _ (.ptr n) st => (match stLst st n with
    | some _ => (match fa ⟨E.e, st⟩ with
      | .ok _ [.str k] st1 => ofOpt ((stLst st1 n).bind fun l => (strsOf l).bind (firstS k)) fun j => .val .P (.int (j : Nat)) st1
      | .exc c l st => .exc c l st
      | _ => .bad)
    | none => .bad)
  | .exc c l st => .exc c l st
  | _ => .bad := rfl
end Dn
namespace Dn
open PySem PySem.Spec PyProof.Rows L2
def dDispG (n : Nat) : List (Str × (En → ER)) → List (Str × D) → En → ER
  | [], acc, E => (match stDct E.st n with
    | some [] => .val .P (.ptr n) (E.st.set n (.dct acc))
    | _ => .bad)
  | (x, f) :: r, acc, E => match f E with
    | .val .B _ _ => .bad
    | .val _ d st => dDispG n r (acc ++ [(x, d)]) ⟨E.e, st⟩
    | .exc c l st => .exc c l st
    | .bad => .bad
def dDisp (ps : List (Str × (En → ER))) : En → ER := fun E => dDispG E.st.length ps [] ⟨E.e, E.st ++ [.dct []]⟩
section
variable {G : Gm} {W : WX}
inductive DPs (G : Gm) (W : WX) : List (TE × TE) → List (Str × (En → ER)) → Prop
  | nil : DPs G W [] []
  | cons {x : Str} {tv : TE} {f : En → ER} {trs : List (TE × TE)} {ps : List (Str × (En → ER))} : DEv G W tv f → DPs G W trs ps → DPs G W ((tC (.str x), tv) :: trs) ((x, f) :: ps)
def dDGet2 (f g h : En → ER) : En → ER := fun E => match f E with
  | .val _ (.ptr n) st => (match stDct st n with
    | some _ => (match g ⟨E.e, st⟩ with
      | .val _ (.str x) st1 => (match h ⟨E.e, st1⟩ with
        | .val .B _ _ => .bad
        | .val _ d st2 => (match stDct st2 n with
          | some l => .val .P ((dctAt l x).getD d) st2
          | none => .bad)
        | .exc c l st => .exc c l st
        | .bad => .bad)
      | .exc c l st => .exc c l st
      | _ => .bad)
    | none => .bad)
  | .exc c l st => .exc c l st
  | _ => .bad
theorem KsR.getD {as : List Addr} {H : Hp} {kvs : List (Key × V)} {l : List (Str × D)} (h : KsR G as H kvs l) {k : Str} {v : V} {d : D} (i : Is G as H v d) : Is G as H ((valV kvs (.inr k)).getD v) ((dctAt l k).getD d) := by
  cases e : dctAt l k with
  | none =>
    have := h.is k
    rw [e] at this
    cases e2 : valV kvs (.inr k) with
    | none => exact i
    | some w => rw [e2] at this; cases this
  | some d' =>
    obtain ⟨w, h1, h2⟩ := h.get e
    rw [h1]; exact h2
end
@[simp] theorem e_dDisp {ps : List (Str × (En → ER))} {E : En} : dDisp ps E = dDispG E.st.length ps [] ⟨E.e, E.st ++ [.dct []]⟩ := rfl
@[simp] theorem e_dDispG0 {n : Nat} {acc : List (Str × D)} {E : En} : dDispG n [] acc E = (match stDct E.st n with
    | some [] => .val .P (.ptr n) (E.st.set n (.dct acc))
    | _ => .bad) := rfl
@[simp] theorem e_dDispG1 {n : Nat} {x : Str} {f : En → ER} {r : List (Str × (En → ER))} {acc : List (Str × D)} {E : En} : dDispG n ((x, f) :: r) acc E = (match f E with
    | .val .B _ _ => .bad
    | .val _ d st => dDispG n r (acc ++ [(x, d)]) ⟨E.e, st⟩
    | .exc c l st => .exc c l st
    | .bad => .bad) := rfl
@[simp] theorem e_dDGet2 {f g h : En → ER} {E : En} : dDGet2 f g h E = match f E with
  | .val _ (.ptr n) st => (match stDct st n with
    | some _ => (match g ⟨E.e, st⟩ with
      | .val _ (.str x) st1 => (match h ⟨E.e, st1⟩ with
        | .val .B _ _ => .bad
        | .val _ d st2 => (match stDct st2 n with
          | some l => .val .P ((dctAt l x).getD d) st2
          | none => .bad)
        | .exc c l st => .exc c l st
        | .bad => .bad)
      | .exc c l st => .exc c l st
      | _ => .bad)
    | none => .bad)
  | .exc c l st => .exc c l st
  | _ => .bad := rfl
end Dn
namespace L2
open PySem PySem.Spec PyProof.Rows
end L2
namespace Dn
open PySem PySem.Spec PyProof.Rows L2
def insS (k : Int) : List Int → List Int
  | [] => [k]
  | a :: l => if k < a then k :: a :: l else if k = a then a :: l else a :: insS k l
def sset : List Int → List Int
  | [] => []
  | a :: l => insS a (sset l)
def oSortSet : List D → Sto → ER
  | [.lst l], st => ofOpt (intsOf l) fun ns => if ns.length < 64 then .val .N (.lst ((sset ns).map .int)) st else .bad
  | _, _ => .bad
@[simp] theorem e_oSortSet {l : List D} {st : Sto} : oSortSet [.lst l] st = ofOpt (intsOf l) fun ns => if ns.length < 64 then .val .N (.lst ((sset ns).map .int)) st else .bad := rfl
end Dn
namespace GQ
open PySem PySem.SeqAt
open AutoSeq1 (wpAny_loadPart')
open MeetsSeq MeetsSeq2 MeetsSeq3 SeqRoads2
end GQ
namespace Dn
open PySem PySem.Spec PySem.Calls PyProof.Rows L2
open AutoSeq1 (wpAny_loadPart')
end Dn
namespace L2
open PySem PySem.Spec PySem.Calls PyProof.Rows
abbrev RI := V → V → Hp → (Bool → Hp → Prop) → Prop
def EqI (X : Cx) (n : Nat) (r : RI) : Prop :=
  ∀ (A : Around) (pins : List (Addr × Obj)) (s : Shared) (σ : St) (H : Hp) (x y : V) (u v : Value) (Q : Bool → Hp → Prop), Sub X n A → Inv X pins σ H s → RelV x u → RelV y v → r x y H Q →
    wpAny (model X.prog X.w) A (eqBool u v) (TP X pins σ Q) X.xe s
end L2
namespace Dn
open PySem PySem.Spec PySem.Calls PyProof.Rows L2
section
variable {X : Cx} {G : Gm}
inductive Pln (K : PySem.W.Frag) (C : Addr) (H : Hp) : V → Prop
  | non (h : PySem.W.subIn K (.ref C) (.type "NoneType") = some false) : Pln K C H .non
  | int (i : Int) (h : PySem.W.subIn K (.ref C) (.type "int") = some false) : Pln K C H (.int i)
  | str (i : Str) (h : PySem.W.subIn K (.ref C) (.type "str") = some false) : Pln K C H (.str i)
  | lst (b : Addr) (l : List V) (e : H b = some (.lst l)) (h : PySem.W.subIn K (.ref C) (.type "list") = some false) : Pln K C H (.ref b)
theorem EqI.or {k : Nat} {r r' : RI} (h : EqI X k r) (h' : EqI X k r') : EqI X k (fun i x H Q => r i x H Q ∨ r' i x H Q) := by
  intro A pins s σ H i x u v Q sb I ri rx z
  rcases z with z | z
  · exact h A pins s σ H i x u v Q sb I ri rx z
  · exact h' A pins s σ H i x u v Q sb I ri rx z
end
end Dn
namespace Dn
open PySem PySem.Spec PySem.Calls PyProof.Rows L2
structure InOk (G : Gm) (Os : OwnL) : Prop where
  pl : ∀ x ∈ Os, ∀ T ∈ plainTs, PySem.W.subIn G.K (.ref (G.ca x.1)) (.type T) = some false
end Dn
namespace Dn
open PySem PySem.Spec PyProof.Rows L2
section
def ItzS (K : PySem.W.Frag) (a : Addr) (xs : List V) (x : Str) : It :=
  ⟨fun i H => SqL K H a xs ∧ i < xs.length ∧ i < x.cps.size,
    fun i H v H' => ∃ T y c, v = .ref T ∧ H T = none ∧ H' = upd H T (.tup [y, .str ⟨#[c]⟩]) ∧ xs[i]? = some y ∧ x.cps[i]? = some c,
    fun i H => SqL K H a xs ∧ (xs.length ≤ i ∨ x.cps.size ≤ i)⟩
theorem turn_zipS {P : Program} {w : World} {K : PySem.W.Frag} {elts : List Expr} {kk : Nat} {tpos : Pos} {a z TI TO i1 i2 : Addr} {xs : List V} (x : Str) (t : Tok) (D : ZipSep2 z TI TO i1 i2 [i1, a] [i2]) (hne : a ≠ i1) (hTz : TO ≠ TI) (n2z : i1 ≠ z) (n3 : i2 ≠ z) (n4 : i1 ≠ TI) (n5 : i2 ≠ TI) :
    Turn P w K (.Tuple elts kk tpos) (ItzS K a xs x) [z, TI, TO, i1, i2] z (fun i h => IsZip h z TI TO .none ∧ IsTupOf2 h TI (.ref i1) (.ref i2) ∧ (∃ x y, IsTupOf2 h TO x y) ∧ h.IsListIter i1 a i ∧ h.IsStrIter i2 (strIterType x) x t i ∧ i ≤ xs.length ∧ i ≤ x.cps.size) where
  mem := by simp
  obj := fun i h st c hc => by
    obtain ⟨hz, hTI, ⟨x, y, hTO⟩, ⟨o1, e1, _, d1⟩, ⟨o2, e2, _, d2⟩, _⟩ := st
    have e' : c = z ∨ c = TI ∨ c = TO ∨ c = i1 ∨ c = i2 := by simpa using hc
    rcases e' with q | q | q | q | q
    · rw [q]; exact ⟨_, hz, fun v q => nomatch q⟩
    · rw [q]; exact ⟨_, hTI, fun v q => nomatch q⟩
    · rw [q]; exact ⟨_, hTO, fun v q => nomatch q⟩
    · rw [q]; exact ⟨o1, e1, fun v q => by rw [d1] at q; cases q⟩
    · rw [q]; exact ⟨o2, e2, fun v q => by rw [d2] at q; cases q⟩
  keep := fun i h h' st k => by
    obtain ⟨hz, hTI, ⟨x, y, hTO⟩, h1, ⟨o2, e2, r2⟩, l⟩ := st
    exact ⟨k z (by simp) _ hz, k TI (by simp) _ hTI, ⟨x, y, k TO (by simp) _ hTO⟩, h1.at fun o q => k i1 (by simp) o q, ⟨o2, k i2 (by simp) o2 e2, r2⟩, l⟩
  item := by
    intro X hP hw hK hc i pins s σ H E I hf st hg
    subst hP hw hK
    obtain ⟨hz, hTI, ⟨x0, y0, hTO⟩, h1, h2, l1, l2⟩ := st
    obtain ⟨hqx, g1, g2⟩ := hg
    obtain ⟨its, rv, p, _⟩ := I.list hqx
    have pl : s.heap.IsList a its.toArray := p.isList
    have lx := rv.length
    have D1 := Draws.list (prog := X.prog) (w := X.w) (A := X.A.in1) (I.ok.hd hc) i1 a hne its.toArray
    have D2 := draws_str (P := X.prog) (w := X.w) (A := X.A.in1) (I.ok.hd hc) i2 x t
    have hzl : z < s.heap.objs.size := Heap.lt_size hz
    refine wpAny_pyNext_zipD2_item D D1 D2 hz hTI hTO ⟨h1, pl⟩ h2 (by simp; omega) g2 fun x1 x2 h' tk y1 y2 hz' TO' s1' s2' hT hsz hk => ?_
    obtain ⟨c, u, hcx, rfl⟩ := y2
    have hy1 : its[i]? = some x1 := by simpa using y1
    obtain ⟨y, hy⟩ : ∃ y, xs[i]? = some y := ⟨_, List.getElem?_eq_getElem g1⟩
    obtain ⟨u1, hu1, ru1⟩ := rv.get hy
    rw [hy1] at hu1
    obtain rfl := Option.some.inj hu1
    refine ⟨_, rfl, wpAny_letOwnedTupleGo_zip (s := { s with heap := h', toks := tk }) hz' fun h'' z'' sb => ?_⟩
    have hT2 : h''.get? s.heap.objs.size = some { cls := .type "tuple", data := .seq #[x1, .str ⟨#[c]⟩ u] } := (sb.2 _ (Nat.ne_of_gt hzl)).trans hT
    have new : ObjOk X.prog X.w (upd H s.heap.objs.size (.tup [y, .str ⟨#[c]⟩])) h'' s.heap.objs.size (.tup [y, .str ⟨#[c]⟩]) :=
      ⟨by show 2 ≤ sizeLine; decide, [x1, .str ⟨#[c]⟩ u], .cons ru1 (.cons ⟨_, rfl⟩ .nil), ⟨_, hT2, rfl, _, rfl⟩⟩
    have I1 : Inv X pins σ (upd H s.heap.objs.size (.tup [y, .str ⟨#[c]⟩])) { s with heap := h'', toks := tk } :=
      I.turnedNew (ch := [z, TI, TO, i1, i2]) (fun c o hb q => (sb.2 c (fun q' => hb (by simp [q']))).trans (hk c o (fun q' => hb (by simp [q'])) (fun q' => hb (by simp [q'])) (fun q' => hb (by simp [q'])) (fun q' => hb (by simp [q'])) q)) hf (Nat.le_refl _) new
    refine ⟨.ref s.heap.objs.size, _, I1, rfl, ⟨_, y, c, rfl, I.hok.fresh (Nat.le_refl _), rfl, hy, hcx⟩, ⟨z'', ?_, ⟨x1, .str ⟨#[c]⟩ u, ?_⟩, ?_, ?_, g1, g2⟩, fun c hcm => ?_⟩
    · exact (sb.2 _ D.TIz).trans (hk _ _ D.TIz (Ne.symm hTz) (Ne.symm n4) (Ne.symm n5) hTI)
    · exact (sb.2 _ D.TOz).trans TO'
    · exact s1'.1.at fun o q => (sb.2 _ n2z).trans q
    · obtain ⟨o, ho, r⟩ := s2'
      exact ⟨o, (sb.2 _ n3).trans ho, r⟩
    · have hlt : c < s.heap.objs.size := by
        have e' : c = z ∨ c = TI ∨ c = TO ∨ c = i1 ∨ c = i2 := by simpa using hcm
        rcases e' with q | q | q | q | q
        · rw [q]; exact hzl
        · rw [q]; exact Heap.lt_size hTI
        · rw [q]; exact Heap.lt_size hTO
        · rw [q]; obtain ⟨_, e1, _⟩ := h1; exact Heap.lt_size e1
        · rw [q]; obtain ⟨_, e2, _⟩ := h2; exact Heap.lt_size e2
      rw [upd_ne (Nat.ne_of_lt hlt)]
      exact (hf c hcm).1
  done := by
    intro X hP hw hK hc i pins s σ H E I hf st hg
    subst hP hw hK
    obtain ⟨hz, hTI, ⟨x0, y0, hTO⟩, h1, h2, l1, l2⟩ := st
    obtain ⟨hqx, hend⟩ := hg
    obtain ⟨its, rv, p, _⟩ := I.list hqx
    have pl : s.heap.IsList a its.toArray := p.isList
    have lx := rv.length
    have D1 := Draws.list (prog := X.prog) (w := X.w) (A := X.A.in1) (I.ok.hd hc) i1 a hne its.toArray
    have D2 := draws_str (P := X.prog) (w := X.w) (A := X.A.in1) (I.ok.hd hc) i2 x t
    exact wpAny_pyNext_zipD2_end D D1 D2 hz hTI hTO ⟨h1, pl⟩ h2 (by simp; omega) l2 (by simp; omega) fun h' tk hk => ⟨rfl, I.turnedL (ch := [z, TI, TO, i1, i2]) (fun c o hb q =>
      hk c o (fun q' => hb (by simp [q'])) (fun q' => hb (by simp [q'])) (fun q' => hb (by simp [q'])) (fun q' => hb (by simp [q'])) q) hf⟩
  self := fun A i s Q E st h => wpAny_pyIter_zip st.1 h
def iZipS (K : PySem.W.Frag) (ta : TA) : TI := fun σ H R => ta σ H fun vs H1 => ∃ a x xs, vs = [.ref a, .str x] ∧ SqL K H1 a xs ∧ R (ItzS K a xs x) H1
theorem fresh5 {X : Cx} {pins : List (Addr × Obj)} {σ : L2.St} {H : Hp} {s : Shared} (I1 : Inv X pins σ H s) (k : List Nat) : ∀ c, c ∈ k.map (s.heap.objs.size + ·) → FpOk X pins H c := fun c hcm => by
  obtain ⟨n, _, rfl⟩ := List.mem_map.mp hcm
  exact I1.fpOk (Nat.le_add_right _ _) (I1.hok.fresh (Nat.le_add_right _ _))
theorem pi_zipS {X : Cx} {e e2 : Expr} {ta : TA} {p pos tpos : Pos} {elts : List Expr} {kk : Nat} (hg : Gl X "zip") (hm : X.mg "zip" = none) (ha : PA X [e, e2] ta)
    (hs : starEach [e, e2] X.env = (false, eval e X.env) :: starEach [e2] X.env := by rfl) (hpl : (backTo pos (starEach [e2] X.env)).any (·.1) = false := by rfl) :
    PI X (.Tuple elts kk tpos) (.Call (.Name "zip" p) [e, e2] [] pos) (iZipS X.K ta) := by
  refine ⟨fun pins s σ H R I h => ?_⟩
  refine Call_ (ld_blt I hg hm PyProof.Rows.boot_zip (PyProof.Rows.callWith_type1 (thn (ha.run pos pins s σ H _ I h) fun us s1 ⟨vs, H1, I1, r1, q1⟩ => ?_) hs hpl))
  obtain ⟨a, x, xs, ex, hqx, q⟩ := q1
  subst ex
  cases r1 with
  | cons r rr =>
    cases rr with
    | cons r' rr =>
      cases rr
      cases r
      obtain ⟨t, rfl⟩ := r'
      obtain ⟨its, rv, p1, _⟩ := I1.list hqx
      have pl : s1.heap.IsList a its.toArray := p1.isList
      have la : a < s1.heap.objs.size := p1.lt
      refine zip_begins2 (begins_list a its.toArray) (begins_text x t) pl trivial fun h' hz hTI hTO h1 h2 hsz hk => wpAny_pyIter_zip hz ?_
      have I2 : Inv X pins σ H1 { s1 with heap := h' } := I1.kept (t' := s1.toks) hk
      have D := zip_sep2 (N := s1.heap.objs.size) (fp1 := [a]) (fp2 := []) (by simpa using la) (by simp)
      have F := fresh5 I1 [4, 2, 3, 0, 1]
      have nk : ∀ i j : Nat, i ≠ j → s1.heap.objs.size + i ≠ s1.heap.objs.size + j := fun i j h z => h (Nat.add_left_cancel z)
      have nk0 : ∀ j : Nat, 0 ≠ j → s1.heap.objs.size ≠ s1.heap.objs.size + j := fun j h z => nk 0 j h z
      have nn : ∀ {b : Nat}, b < s1.heap.objs.size → b ≠ s1.heap.objs.size := fun h => Nat.ne_of_lt h
      exact ⟨s1.heap.objs.size + 4, [s1.heap.objs.size + 4, s1.heap.objs.size + 2, s1.heap.objs.size + 3, s1.heap.objs.size, s1.heap.objs.size + 1], _, _, H1, rfl, I2, turn_zipS x t D (nn la) (nk 3 2 (by decide)) (nk0 4 (by decide)) (nk 1 4 (by decide)) (nk0 2 (by decide)) (nk 1 2 (by decide)), ⟨hz, hTI, ⟨_, _, hTO⟩, ⟨_, h1, rfl, rfl⟩, ⟨_, h2, rfl, rfl⟩, Nat.zero_le _, Nat.zero_le _⟩, fun b hb => F b (by simpa using hb), q⟩
end
section
variable {G : Gm} {W : WX}
theorem it_zipS {t1 : Hs} {a : Addr} {vs : List V} {l : List D} {z : Str} (h : ∀ t, Up t1 t → Same t.f t.h → SqL G.K t.h a vs ∧ IsL G t.as t.f vs l) : ItOk G t1 (ItzS G.K a vs z) (zipD l (z.cps.toList.map fun c => .str ⟨#[c]⟩)) := by
  intro i t st u k
  obtain ⟨q, il⟩ := h t u k.sf
  refine ⟨fun hi => ⟨q, by rw [il.len]; rw [zipD_len] at hi; simp at hi; omega⟩, fun d hd => ?_⟩
  obtain ⟨x, y, h1, h2, rfl⟩ := zipD_get hd
  obtain ⟨v, h3, h4⟩ := il.get h1
  rw [List.getElem?_map] at h2
  cases q2 : z.cps.toList[i]? with
  | none => rw [q2] at h2; cases h2
  | some c =>
    rw [q2] at h2
    cases h2
    have hi : i < z.cps.size := by
      have := (List.getElem?_eq_some_iff.mp q2).1
      simpa using this
    have hi1 : i < vs.length := (List.getElem?_eq_some_iff.mp h3).1
    refine ⟨⟨q, hi1, hi⟩, fun y H' w => ?_⟩
    obtain ⟨T, y', c', rfl, hT, rfl, hy, hc⟩ := w
    rw [h3] at hy; cases hy
    have : z.cps[i]? = some c := by rw [← Array.getElem?_toList]; exact q2
    rw [this] at hc; cases hc
    have sn := same_new (o := .tup [v, .str ⟨#[c]⟩]) (k.sf.free hT)
    exact ⟨⟨t.as, upd t.f T _, upd t.h T _⟩, rfl, Gro.new k hT, k.grow hT, .tup (SqT.of upd_same) (.cons (h4.up (Ext.refl _) sn) (.cons (.str _) .nil))⟩
def dZipS (f : En → AR) : En → AR := fun E => match f E with
  | .ok true [.lst l, .str z] st => .ok true (zipD l (z.cps.toList.map fun c => .str ⟨#[c]⟩)) st
  | .exc c l st => .exc c l st
  | _ => .bad
@[simp] theorem e_dZipS {f : En → AR} {E : En} : dZipS f E = match f E with
  | .ok true [.lst l, .str z] st => .ok true (zipD l (z.cps.toList.map fun c => .str ⟨#[c]⟩)) st
  | .exc c l st => .exc c l st
  | _ => .bad := rfl
theorem i_zipS {ta : TA} {f : En → AR} (h : DAr G W ta f) : DIt G W (iZipS G.K ta) (dZipS f) := by
  intro s t σ e st E k R post
  refine h s t σ e st E k _ ?_
  unfold dZipS at post
  cases q : f ⟨e, st⟩ with
  | ok p l st1 =>
    rw [q] at post
    cases p with
    | false => exact post.elim
    | true =>
      match l, post with
      | [], post => exact post.elim
      | [d], post => cases d <;> exact post.elim
      | [d, d'], post =>
        cases d <;> first | exact post.elim | skip
        cases d' <;> first | exact post.elim | skip
        intro t' vs g k' i0 u0
        have i := i0 rfl
        clear i0
        obtain ⟨v1, v2, rfl, hv1, hv2⟩ := u0.two
        obtain rfl := hv2.str
        cases i with
        | cons i j =>
          cases i with
          | lst a b => exact ⟨_, _, _, rfl, SqL.of (k'.sf _ _ a), post t' _ g k' (it_zipS (fun t2 u s2 => ⟨SqL.of (s2 _ _ (u.f _ _ a)), b.up u.a u.f⟩))⟩
      | a :: b :: c :: l, post => cases a <;> first | exact post.elim | (cases b <;> exact post.elim)
  | exc c l st1 => rw [q] at post; exact post
  | bad => rw [q] at post; exact post
end
section
def Itz3 (K : PySem.W.Frag) (a b c : Addr) (xs ys zs : List V) : It :=
  ⟨fun i H => (SqL K H a xs ∧ SqL K H b ys ∧ SqL K H c zs) ∧ i < xs.length ∧ i < ys.length ∧ i < zs.length,
    fun i H v H' => ∃ T x y u, v = .ref T ∧ H T = none ∧ H' = upd H T (.tup [x, y, u]) ∧ xs[i]? = some x ∧ ys[i]? = some y ∧ zs[i]? = some u,
    fun i H => (SqL K H a xs ∧ SqL K H b ys ∧ SqL K H c zs) ∧ (xs.length ≤ i ∨ ys.length ≤ i ∨ zs.length ≤ i)⟩
theorem turn_zip3 {P : Program} {w : World} {K : PySem.W.Frag} {elts : List Expr} {kk : Nat} {tpos : Pos} {a b c z TI TO i1 i2 i3 : Addr} {xs ys zs : List V} (D : ZipSep3 z TI TO i1 i2 i3 [i1, a] [i2, b] [i3, c]) (na : a ≠ i1) (nb : b ≠ i2) (nc : c ≠ i3) (hTz : TO ≠ TI) (n1 : i1 ≠ z) (n2 : i2 ≠ z) (n3 : i3 ≠ z) (m1 : i1 ≠ TI) (m2 : i2 ≠ TI) (m3 : i3 ≠ TI) :
    Turn P w K (.Tuple elts kk tpos) (Itz3 K a b c xs ys zs) [z, TI, TO, i1, i2, i3] z (fun i h => IsZip h z TI TO .none ∧ IsTupOf3 h TI (.ref i1) (.ref i2) (.ref i3) ∧ (∃ x y u, IsTupOf3 h TO x y u) ∧ h.IsListIter i1 a i ∧ h.IsListIter i2 b i ∧ h.IsListIter i3 c i ∧ i ≤ xs.length ∧ i ≤ ys.length ∧ i ≤ zs.length) where
  mem := by simp
  obj := fun i h st c hc => by
    obtain ⟨hz, hTI, ⟨x, y, u, hTO⟩, ⟨o1, e1, _, d1⟩, ⟨o2, e2, _, d2⟩, ⟨o3, e3, _, d3⟩, _⟩ := st
    have e' : c = z ∨ c = TI ∨ c = TO ∨ c = i1 ∨ c = i2 ∨ c = i3 := by simpa using hc
    rcases e' with q | q | q | q | q | q
    · rw [q]; exact ⟨_, hz, fun v q => nomatch q⟩
    · rw [q]; exact ⟨_, hTI, fun v q => nomatch q⟩
    · rw [q]; exact ⟨_, hTO, fun v q => nomatch q⟩
    · rw [q]; exact ⟨o1, e1, fun v q => by rw [d1] at q; cases q⟩
    · rw [q]; exact ⟨o2, e2, fun v q => by rw [d2] at q; cases q⟩
    · rw [q]; exact ⟨o3, e3, fun v q => by rw [d3] at q; cases q⟩
  keep := fun i h h' st k => by
    obtain ⟨hz, hTI, ⟨x, y, u, hTO⟩, h1, h2, h3, l⟩ := st
    exact ⟨k z (by simp) _ hz, k TI (by simp) _ hTI, ⟨x, y, u, k TO (by simp) _ hTO⟩, h1.at fun o q => k i1 (by simp) o q, h2.at fun o q => k i2 (by simp) o q, h3.at fun o q => k i3 (by simp) o q, l⟩
  item := by
    intro X hP hw hK hc i pins s σ H E I hf st hg
    subst hP hw hK
    obtain ⟨hz, hTI, ⟨x0, y0, u0, hTO⟩, h1, h2, h3, l1, l2, l3⟩ := st
    obtain ⟨⟨hqx, hqy, hqz⟩, g1, g2, g3⟩ := hg
    obtain ⟨its, rv, p, _⟩ := I.list hqx
    obtain ⟨its2, rv2, p2, _⟩ := I.list hqy
    obtain ⟨its3, rv3, p3, _⟩ := I.list hqz
    have pl : s.heap.IsList a its.toArray := p.isList
    have pl2 : s.heap.IsList b its2.toArray := p2.isList
    have pl3 : s.heap.IsList c its3.toArray := p3.isList
    have lx := rv.length
    have ly := rv2.length
    have lz := rv3.length
    have D1 := Draws.list (prog := X.prog) (w := X.w) (A := X.A.in1) (I.ok.hd hc) i1 a na its.toArray
    have D2 := Draws.list (prog := X.prog) (w := X.w) (A := X.A.in1) (I.ok.hd hc) i2 b nb its2.toArray
    have D3 := Draws.list (prog := X.prog) (w := X.w) (A := X.A.in1) (I.ok.hd hc) i3 c nc its3.toArray
    have hzl : z < s.heap.objs.size := Heap.lt_size hz
    refine wpAny_pyNext_zipD3_item D D1 D2 D3 hz hTI hTO ⟨h1, pl⟩ ⟨h2, pl2⟩ ⟨h3, pl3⟩ (by simp; omega) (by simp; omega) (by simp; omega) fun x1 x2 x3 h' tk y1 y2 y3 hz' TO' s1' s2' s3' hT hsz hk => ?_
    have hy1 : its[i]? = some x1 := by simpa using y1
    have hy2 : its2[i]? = some x2 := by simpa using y2
    have hy3 : its3[i]? = some x3 := by simpa using y3
    obtain ⟨x, hx⟩ : ∃ y, xs[i]? = some y := ⟨_, List.getElem?_eq_getElem g1⟩
    obtain ⟨y, hy⟩ : ∃ y, ys[i]? = some y := ⟨_, List.getElem?_eq_getElem g2⟩
    obtain ⟨u, hu⟩ : ∃ y, zs[i]? = some y := ⟨_, List.getElem?_eq_getElem g3⟩
    obtain ⟨u1, hu1, ru1⟩ := rv.get hx
    obtain ⟨u2, hu2, ru2⟩ := rv2.get hy
    obtain ⟨u3, hu3, ru3⟩ := rv3.get hu
    rw [hy1] at hu1
    rw [hy2] at hu2
    rw [hy3] at hu3
    obtain rfl := Option.some.inj hu1
    obtain rfl := Option.some.inj hu2
    obtain rfl := Option.some.inj hu3
    refine ⟨_, rfl, wpAny_letOwnedTupleGo_zip (s := { s with heap := h', toks := tk }) hz' fun h'' z'' sb => ?_⟩
    have hT2 : h''.get? s.heap.objs.size = some { cls := .type "tuple", data := .seq #[x1, x2, x3] } := (sb.2 _ (Nat.ne_of_gt hzl)).trans hT
    have new : ObjOk X.prog X.w (upd H s.heap.objs.size (.tup [x, y, u])) h'' s.heap.objs.size (.tup [x, y, u]) :=
      ⟨by show 3 ≤ sizeLine; decide, [x1, x2, x3], .cons ru1 (.cons ru2 (.cons ru3 .nil)), ⟨_, hT2, rfl, _, rfl⟩⟩
    have I1 : Inv X pins σ (upd H s.heap.objs.size (.tup [x, y, u])) { s with heap := h'', toks := tk } :=
      I.turnedNew (ch := [z, TI, TO, i1, i2, i3]) (fun c o hb q => (sb.2 c (fun q' => hb (by simp [q']))).trans (hk c o (fun q' => hb (by simp [q'])) (fun q' => hb (by simp [q'])) (fun q' => hb (by simp [q'])) (fun q' => hb (by simp [q'])) (fun q' => hb (by simp [q'])) q)) hf (Nat.le_refl _) new
    refine ⟨.ref s.heap.objs.size, _, I1, rfl, ⟨_, x, y, u, rfl, I.hok.fresh (Nat.le_refl _), rfl, hx, hy, hu⟩, ⟨z'', ?_, ⟨x1, x2, x3, ?_⟩, ?_, ?_, ?_, g1, g2, g3⟩, fun c hcm => ?_⟩
    · exact (sb.2 _ D.TIz).trans (hk _ _ D.TIz (Ne.symm hTz) (Ne.symm m1) (Ne.symm m2) (Ne.symm m3) hTI)
    · exact (sb.2 _ D.TOz).trans TO'
    · exact s1'.1.at fun o q => (sb.2 _ n1).trans q
    · exact s2'.1.at fun o q => (sb.2 _ n2).trans q
    · exact s3'.1.at fun o q => (sb.2 _ n3).trans q
    · have hlt : c < s.heap.objs.size := by
        have e' : c = z ∨ c = TI ∨ c = TO ∨ c = i1 ∨ c = i2 ∨ c = i3 := by simpa using hcm
        rcases e' with q | q | q | q | q | q
        · rw [q]; exact hzl
        · rw [q]; exact Heap.lt_size hTI
        · rw [q]; exact Heap.lt_size hTO
        · rw [q]; obtain ⟨_, e1, _⟩ := h1; exact Heap.lt_size e1
        · rw [q]; obtain ⟨_, e2, _⟩ := h2; exact Heap.lt_size e2
        · rw [q]; obtain ⟨_, e3, _⟩ := h3; exact Heap.lt_size e3
      rw [upd_ne (Nat.ne_of_lt hlt)]
      exact (hf c hcm).1
  done := by
    intro X hP hw hK hc i pins s σ H E I hf st hg
    subst hP hw hK
    obtain ⟨hz, hTI, ⟨x0, y0, u0, hTO⟩, h1, h2, h3, l1, l2, l3⟩ := st
    obtain ⟨⟨hqx, hqy, hqz⟩, hend⟩ := hg
    obtain ⟨its, rv, p, _⟩ := I.list hqx
    obtain ⟨its2, rv2, p2, _⟩ := I.list hqy
    obtain ⟨its3, rv3, p3, _⟩ := I.list hqz
    have pl : s.heap.IsList a its.toArray := p.isList
    have pl2 : s.heap.IsList b its2.toArray := p2.isList
    have pl3 : s.heap.IsList c its3.toArray := p3.isList
    have lx := rv.length
    have ly := rv2.length
    have lz := rv3.length
    have D1 := Draws.list (prog := X.prog) (w := X.w) (A := X.A.in1) (I.ok.hd hc) i1 a na its.toArray
    have D2 := Draws.list (prog := X.prog) (w := X.w) (A := X.A.in1) (I.ok.hd hc) i2 b nb its2.toArray
    have D3 := Draws.list (prog := X.prog) (w := X.w) (A := X.A.in1) (I.ok.hd hc) i3 c nc its3.toArray
    exact wpAny_pyNext_zipD3_end D D1 D2 D3 hz hTI hTO ⟨h1, pl⟩ ⟨h2, pl2⟩ ⟨h3, pl3⟩ (by simp; omega) (by simp; omega) (by simp; omega) (by simp; omega) fun h' tk hk => ⟨rfl, I.turnedL (ch := [z, TI, TO, i1, i2, i3]) (fun c o hb q =>
      hk c o (fun q' => hb (by simp [q'])) (fun q' => hb (by simp [q'])) (fun q' => hb (by simp [q'])) (fun q' => hb (by simp [q'])) (fun q' => hb (by simp [q'])) q) hf⟩
  self := fun A i s Q E st h => wpAny_pyIter_zip st.1 h
def iZip3 (K : PySem.W.Frag) (ta : TA) : TI := fun σ H R => ta σ H fun vs H1 => ∃ a b c xs ys zs, vs = [.ref a, .ref b, .ref c] ∧ (SqL K H1 a xs ∧ SqL K H1 b ys ∧ SqL K H1 c zs) ∧ R (Itz3 K a b c xs ys zs) H1
theorem pi_zip3 {X : Cx} {e e2 e3 : Expr} {ta : TA} {p pos tpos : Pos} {elts : List Expr} {kk : Nat} (hg : Gl X "zip") (hm : X.mg "zip" = none) (ha : PA X [e, e2, e3] ta)
    (hs : starEach [e, e2, e3] X.env = (false, eval e X.env) :: starEach [e2, e3] X.env := by rfl) (hpl : (backTo pos (starEach [e2, e3] X.env)).any (·.1) = false := by rfl) :
    PI X (.Tuple elts kk tpos) (.Call (.Name "zip" p) [e, e2, e3] [] pos) (iZip3 X.K ta) := by
  refine ⟨fun pins s σ H R I h => ?_⟩
  refine Call_ (ld_blt I hg hm PyProof.Rows.boot_zip (PyProof.Rows.callWith_type1 (thn (ha.run pos pins s σ H _ I h) fun us s1 ⟨vs, H1, I1, r1, q1⟩ => ?_) hs hpl))
  obtain ⟨a, b, c, xs, ys, zs, ex, ⟨hqx, hqy, hqz⟩, q⟩ := q1
  subst ex
  cases r1 with
  | cons r rr =>
    cases rr with
    | cons r' rr =>
      cases rr with
      | cons r'' rr =>
        cases rr
        cases r
        cases r'
        cases r''
        obtain ⟨its, rv, p1, _⟩ := I1.list hqx
        obtain ⟨its2, rv2, p2, _⟩ := I1.list hqy
        obtain ⟨its3, rv3, p3, _⟩ := I1.list hqz
        have pl : s1.heap.IsList a its.toArray := p1.isList
        have pl2 : s1.heap.IsList b its2.toArray := p2.isList
        have pl3 : s1.heap.IsList c its3.toArray := p3.isList
        have la : a < s1.heap.objs.size := p1.lt
        have lb : b < s1.heap.objs.size := p2.lt
        have lc : c < s1.heap.objs.size := p3.lt
        refine zip_begins3 (begins_list a its.toArray) (begins_list b its2.toArray) (begins_list c its3.toArray) pl pl2 pl3 fun h' hz hTI hTO h1 h2 h3 hsz hk => wpAny_pyIter_zip hz ?_
        have I2 : Inv X pins σ H1 { s1 with heap := h' } := I1.kept (t' := s1.toks) hk
        have D := zip_sep3 (N := s1.heap.objs.size) (fp1 := [a]) (fp2 := [b]) (fp3 := [c]) (by simpa using la) (by simpa using lb) (by simpa using lc)
        have F := fresh5 I1 [5, 3, 4, 0, 1, 2]
        have nk : ∀ i j : Nat, i ≠ j → s1.heap.objs.size + i ≠ s1.heap.objs.size + j := fun i j h z => h (Nat.add_left_cancel z)
        have nk0 : ∀ j : Nat, 0 ≠ j → s1.heap.objs.size ≠ s1.heap.objs.size + j := fun j h z => nk 0 j h z
        have nn : ∀ {b : Nat} (j : Nat), b < s1.heap.objs.size → b ≠ s1.heap.objs.size + j := fun j h => Nat.ne_of_lt (Nat.lt_of_lt_of_le h (Nat.le_add_right _ _))
        exact ⟨s1.heap.objs.size + 5, [s1.heap.objs.size + 5, s1.heap.objs.size + 3, s1.heap.objs.size + 4, s1.heap.objs.size, s1.heap.objs.size + 1, s1.heap.objs.size + 2], _, _, H1, rfl, I2,
          turn_zip3 D (nn 0 la) (nn 1 lb) (nn 2 lc) (nk 4 3 (by decide)) (nk0 5 (by decide)) (nk 1 5 (by decide)) (nk 2 5 (by decide)) (nk0 3 (by decide)) (nk 1 3 (by decide)) (nk 2 3 (by decide)), ⟨hz, hTI, ⟨_, _, _, hTO⟩, ⟨_, h1, rfl, rfl⟩, ⟨_, h2, rfl, rfl⟩, ⟨_, h3, rfl, rfl⟩, Nat.zero_le _, Nat.zero_le _, Nat.zero_le _⟩, fun b hb => F b (by simpa using hb), q⟩
end
section
variable {G : Gm} {W : WX}
def zipD3 : List D → List D → List D → List D
  | a :: l, b :: m, c :: n => .tup [a, b, c] :: zipD3 l m n
  | _, _, _ => []
theorem zipD3_len : ∀ l m n : List D, (zipD3 l m n).length = min l.length (min m.length n.length)
  | [], _, _ => by simp [zipD3]
  | _ :: _, [], _ => by simp [zipD3]
  | _ :: _, _ :: _, [] => by simp [zipD3]
  | a :: l, b :: m, c :: n => by simp [zipD3, zipD3_len l m n]
theorem zipD3_get : ∀ {l m n : List D} {i : Nat} {d : D}, (zipD3 l m n)[i]? = some d → ∃ x y z, l[i]? = some x ∧ m[i]? = some y ∧ n[i]? = some z ∧ d = .tup [x, y, z]
  | [], _, _, _, _, h => by simp [zipD3] at h
  | _ :: _, [], _, _, _, h => by simp [zipD3] at h
  | _ :: _, _ :: _, [], _, _, h => by simp [zipD3] at h
  | a :: l, b :: m, c :: n, 0, d, h => by
    simp [zipD3] at h
    exact ⟨a, b, c, rfl, rfl, rfl, h.symm⟩
  | a :: l, b :: m, c :: n, i + 1, d, h => by
    simp [zipD3] at h
    obtain ⟨x, y, z, h1, h2, h3, h4⟩ := zipD3_get h
    exact ⟨x, y, z, by simpa using h1, by simpa using h2, by simpa using h3, h4⟩
theorem it_zip3 {t1 : Hs} {a b c : Addr} {vs ws us : List V} {l m n : List D} (h : ∀ t, Up t1 t → Same t.f t.h → (SqL G.K t.h a vs ∧ IsL G t.as t.f vs l) ∧ (SqL G.K t.h b ws ∧ IsL G t.as t.f ws m) ∧ (SqL G.K t.h c us ∧ IsL G t.as t.f us n)) : ItOk G t1 (Itz3 G.K a b c vs ws us) (zipD3 l m n) := by
  intro i t st u k
  obtain ⟨⟨q1, il⟩, ⟨q2, im⟩, ⟨q3, iu⟩⟩ := h t u k.sf
  refine ⟨fun hi => ⟨⟨q1, q2, q3⟩, by rw [il.len, im.len, iu.len]; rw [zipD3_len] at hi; omega⟩, fun d hd => ?_⟩
  obtain ⟨x, y, z, h1, h2, h3, rfl⟩ := zipD3_get hd
  obtain ⟨v, e1, f1⟩ := il.get h1
  obtain ⟨w, e2, f2⟩ := im.get h2
  obtain ⟨r, e3, f3⟩ := iu.get h3
  refine ⟨⟨⟨q1, q2, q3⟩, (List.getElem?_eq_some_iff.mp e1).1, (List.getElem?_eq_some_iff.mp e2).1, (List.getElem?_eq_some_iff.mp e3).1⟩, fun y H' w => ?_⟩
  obtain ⟨T, x', y', u', rfl, hT, rfl, hx, hy, hu⟩ := w
  rw [e1] at hx; cases hx
  rw [e2] at hy; cases hy
  rw [e3] at hu; cases hu
  have sn := same_new (o := .tup [v, w, r]) (k.sf.free hT)
  exact ⟨⟨t.as, upd t.f T _, upd t.h T _⟩, rfl, Gro.new k hT, k.grow hT, .tup (SqT.of upd_same) (.cons (f1.up (Ext.refl _) sn) (.cons (f2.up (Ext.refl _) sn) (.cons (f3.up (Ext.refl _) sn) .nil)))⟩
def dZip3 (f : En → AR) : En → AR := fun E => match f E with
  | .ok true [.lst l, .lst m, .lst n] st => .ok true (zipD3 l m n) st
  | .exc c l st => .exc c l st
  | _ => .bad
@[simp] theorem e_dZip3 {f : En → AR} {E : En} : dZip3 f E = match f E with
  | .ok true [.lst l, .lst m, .lst n] st => .ok true (zipD3 l m n) st
  | .exc c l st => .exc c l st
  | _ => .bad := rfl
theorem i_zip3 {ta : TA} {f : En → AR} (h : DAr G W ta f) : DIt G W (iZip3 G.K ta) (dZip3 f) := by
  intro s t σ e st E k R post
  refine h s t σ e st E k _ ?_
  unfold dZip3 at post
  cases q : f ⟨e, st⟩ with
  | ok p l st1 =>
    rw [q] at post
    cases p with
    | false => exact post.elim
    | true =>
      match l, post with
      | [], post => exact post.elim
      | [d], post => cases d <;> exact post.elim
      | [d, d'], post => cases d <;> first | exact post.elim | (cases d' <;> exact post.elim)
      | [d, d', d''], post =>
        cases d <;> first | exact post.elim | skip
        cases d' <;> first | exact post.elim | skip
        cases d'' <;> first | exact post.elim | skip
        intro t' vs g k' i0 u0
        have i := i0 rfl
        clear i0
        cases i with
        | cons i j =>
          cases j with
          | cons j j2 =>
            cases j2 with
            | cons j2 j3 =>
              cases j3
              cases i with
              | lst a b =>
                cases j with
                | lst a' b' =>
                  cases j2 with
                  | lst a2 b2 => exact ⟨_, _, _, _, _, _, rfl, ⟨SqL.of (k'.sf _ _ a), SqL.of (k'.sf _ _ a'), SqL.of (k'.sf _ _ a2)⟩, post t' _ g k' (it_zip3 (fun t2 u s2 => ⟨⟨SqL.of (s2 _ _ (u.f _ _ a)), b.up u.a u.f⟩, ⟨SqL.of (s2 _ _ (u.f _ _ a')), b'.up u.a u.f⟩, ⟨SqL.of (s2 _ _ (u.f _ _ a2)), b2.up u.a u.f⟩⟩))⟩
      | a :: b :: c :: d :: l, post => cases a <;> first | exact post.elim | (cases b <;> first | exact post.elim | (cases c <;> exact post.elim))
  | exc c l st1 => rw [q] at post; exact post
  | bad => rw [q] at post; exact post
end
end Dn
namespace Dn
open PySem PySem.Spec PyProof.Rows L2
section
variable {G : Gm} {W : WX}
def sAug (x : Nat) (o : Int → Int → Int) (fe : En → ER) : En → SR := fun E => match E.e[x]? with
  | some (.val (.int a)) => (match fe E with
    | .val _ (.int b) st => .nx ⟨E.e.set x (.val (.int (o a b))), st⟩
    | _ => .bad)
  | _ => .bad
@[simp] theorem e_sAug {x : Nat} {o : Int → Int → Int} {fe : En → ER} {E : En} : sAug x o fe E = match E.e[x]? with
  | some (.val (.int a)) => (match fe E with
    | .val _ (.int b) st => .nx ⟨E.e.set x (.val (.int (o a b))), st⟩
    | _ => .bad)
  | _ => .bad := rfl
theorem s_aug {x : Nat} {o : Int → Int → Int} {te : TE} {fe : En → ER} (he : DEv G W te fe) : DSt G W (tAug x te (ipI o)) (sAug x o fe) := by
  intro s t σ e st E k N post
  unfold sAug at post
  split at post
  · rename_i a hx
    split at post
    · rename_i m b st1 hfe
      obtain ⟨o', hσ, v, rfl, ov⟩ := E.slot hx
      obtain rfl : v = .int a := by cases ov; rfl
      refine ⟨.int a, hσ, ?_⟩
      refine he s t σ e st E k _ ?_
      have hfe' : fe ⟨e, st⟩ = .val m (.int b) st1 := hfe
      rw [hfe']
      intro t1 w g1 k1 o1
      obtain rfl := o1.u.int
      exact ⟨a, b, rfl, rfl, post t1 _ g1.up ((E.up g1).set ⟨_, rfl, .int _⟩ (fun l z => nomatch z)) k1⟩
    · exact post.elim
  · exact post.elim
def sAugP (o : Int → Int → Int) (fb fi fe : En → ER) : En → SR := fun E => match fb E with
  | .val _ (.ptr n) st1 => (match fi ⟨E.e, st1⟩ with
    | .val _ (.int i) st2 => if 0 ≤ i then (match stLst st2 n with
      | some l => (match ixN l.length i with
        | some j => (match l[j]? with
          | some (.int a) => (match fe ⟨E.e, st2⟩ with
            | .val _ (.int b) st3 => (match stLst st3 n with
              | some l' => (match ixN l'.length i with
                | some j' => .nx ⟨E.e, st3.set n (.lst (l'.set j' (.int (o a b))))⟩
                | none => .bad)
              | none => .bad)
            | _ => .bad)
          | _ => .bad)
        | none => .bad)
      | none => .bad) else .bad
    | _ => .bad)
  | _ => .bad
@[simp] theorem e_sAugP {o : Int → Int → Int} {fb fi fe : En → ER} {E : En} : sAugP o fb fi fe E = match fb E with
  | .val _ (.ptr n) st1 => (match fi ⟨E.e, st1⟩ with
    | .val _ (.int i) st2 => if 0 ≤ i then (match stLst st2 n with
      | some l => (match ixN l.length i with
        | some j => (match l[j]? with
          | some (.int a) => (match fe ⟨E.e, st2⟩ with
            | .val _ (.int b) st3 => (match stLst st3 n with
              | some l' => (match ixN l'.length i with
                | some j' => .nx ⟨E.e, st3.set n (.lst (l'.set j' (.int (o a b))))⟩
                | none => .bad)
              | none => .bad)
            | _ => .bad)
          | _ => .bad)
        | none => .bad)
      | none => .bad) else .bad
    | _ => .bad)
  | _ => .bad := rfl
end
section
variable {G : Gm} {W : WX}
def rangeD2 (lo : Int) (n : Nat) : List D := (List.range n).map fun (k : Nat) => .int (lo + (k : Int) * 2)
theorem rangeD2_get {lo : Int} {n i : Nat} {d : D} (h : (rangeD2 lo n)[i]? = some d) : i < n ∧ d = .int (lo + (i : Int) * 2) := by
  unfold rangeD2 at h
  rw [List.getElem?_map] at h
  by_cases hi : i < n
  · rw [List.getElem?_range hi] at h; cases h; exact ⟨hi, rfl⟩
  · rw [List.getElem?_eq_none (by simpa using hi)] at h; cases h
theorem it_range2 {t1 : Hs} (lo : Int) (n : Nat) : ItOk G t1 (Itc lo 2 n) (rangeD2 lo n) := by
  intro i t st u k
  refine ⟨fun hi => by (show n ≤ i); simpa [rangeD2] using hi, fun d hd => ?_⟩
  obtain ⟨hi, rfl⟩ := rangeD2_get hd
  refine ⟨hi, fun x H' y => ?_⟩
  obtain ⟨rfl, rfl⟩ := y
  exact ⟨t, rfl, Gro.refl k, k, .int _⟩
def cnt2 (i j : Int) : Nat := ((j - i + 1) / 2).toNat
theorem rgc2 {i j : Int} (h1 : -(2 ^ 30) ≤ i) (h2 : i < 2 ^ 30) (h3 : -(2 ^ 30) ≤ j) (h4 : j < 2 ^ 30) : RgC i j 2 (cnt2 i j) := by
  have e : Builtin.Range.rangeSize i j 2 = (cnt2 i j : Int) := by
    unfold Builtin.Range.rangeSize cnt2
    simp only [show (2 : Int) > 0 by decide, if_true]
    split <;> omega
  refine ⟨by decide, by decide, ?_, e⟩
  unfold Builtin.Range.small
  rw [e]
  unfold cnt2
  simp only [Builtin.Range.rangeFitsLong, Bool.and_eq_true, Bool.or_eq_true, decide_eq_true_eq, beq_iff_eq, show (2 : Int) > 0 by decide, if_true]
  omega
def rng3 : List D → Option (Int × Nat)
  | [.int i, .int j, .int 2] => if -(2 ^ 30) ≤ i ∧ i < 2 ^ 30 ∧ -(2 ^ 30) ≤ j ∧ j < 2 ^ 30 then some (i, cnt2 i j) else none
  | _ => none
@[simp] theorem e_rng3 {i j : Int} : rng3 [.int i, .int j, .int 2] = if -(2 ^ 30) ≤ i ∧ i < 2 ^ 30 ∧ -(2 ^ 30) ≤ j ∧ j < 2 ^ 30 then some (i, cnt2 i j) else none := rfl
def dRng3 (f : En → AR) : En → AR := fun E => match f E with
  | .ok _ l st => (match rng3 l with | some r => .ok true (rangeD2 r.1 r.2) st | none => .bad)
  | .exc c l st => .exc c l st
  | _ => .bad
@[simp] theorem e_dRng3 {f : En → AR} {E : En} : dRng3 f E = match f E with
  | .ok _ l st => (match rng3 l with | some r => .ok true (rangeD2 r.1 r.2) st | none => .bad)
  | .exc c l st => .exc c l st
  | _ => .bad := rfl
theorem i_range3 {ta : TA} {f : En → AR} (h : DAr G W ta f) : DIt G W (iRng3 ta) (dRng3 f) := by
  intro s t σ e st E k R post
  refine h s t σ e st E k _ ?_
  unfold dRng3 at post
  cases q : f ⟨e, st⟩ with
  | ok p l st1 =>
    rw [q] at post
    intro t1 vs g1 k1 zz u1
    clear zz
    cases hl : rng3 l with
    | none => simp only [hl] at post; exact post.elim
    | some p =>
      simp only [hl] at post
      unfold rng3 at hl
      split at hl
      · rename_i i j
        split at hl
        · rename_i c
          cases hl
          cases u1 with
          | cons a r =>
            cases r with
            | cons b r =>
              cases r with
              | cons c' r =>
                cases r
                obtain rfl := a.int
                obtain rfl := b.int
                obtain rfl := c'.int
                exact ⟨_, _, 2, _, rfl, rgc2 c.1 c.2.1 c.2.2.1 c.2.2.2, post t1 _ g1 k1 (it_range2 _ _)⟩
        · cases hl
      · cases hl
  | exc c l st1 => rw [q] at post; exact post
  | bad => rw [q] at post; exact post
end
end Dn
namespace Dn
open PySem PySem.Spec PyProof.Rows L2
def ddS (l : List Str) (k : Str) : List Str := if l.any (· == k) then l else l ++ [k]
def fmS (val : Nat → Str) (i : Nat) : List Str := ((List.range i).map val).foldl ddS []
section
variable {prog : Program} {w : World} {A : Around} {E : Value → Shared → Prop} {s : Shared}
def sgn (x : Str) (i : Nat) : Str := ⟨#[x.cps.getD i 0]⟩
end
def kindsS (x : Str) : Nat := (fmS (sgn x) x.cps.size).length
section
variable {G : Gm} {W : WX}
def dLenSetT (f : En → ER) : En → ER := fun E => match f E with
  | .val _ (.str x) st => if x.cps.size ≤ 4000 then .val .P (.int (kindsS x : Nat)) st else .bad
  | .exc c l st => .exc c l st
  | _ => .bad
@[simp] theorem e_dLenSetT {f : En → ER} {E : En} : dLenSetT f E = match f E with
  | .val _ (.str x) st => if x.cps.size ≤ 4000 then .val .P (.int (kindsS x : Nat)) st else .bad
  | .exc c l st => .exc c l st
  | _ => .bad := rfl
end
end Dn
namespace Dn
open PySem PySem.Spec PyProof.Rows L2
abbrev ClT := Option Nat × Value × (Addr → Value → Option Addr → TS)
def endsAt (i : Nat) (D : Ends) : Ends := { nx := fun σ' H' => D.nx (σ'.set i none) H', rt := D.rt, bk := fun σ' H' => D.bk (σ'.set i none) H', ct := fun σ' H' => D.ct (σ'.set i none) H' }
def runCl (o : Option Nat) (ts : TS) (a : Addr) (D : Ends) (σ : L2.St) (H : Hp) : Prop := match o with
  | none => ts D σ H
  | some i => ts (endsAt i D) (σ.set i (some (.ref a))) H
def wMix (K : PySem.W.Frag) (Wout : WX) (D : Ends) : List ClT → WX
  | [] => Wout
  | (o, c, ts) :: r => fun cls d σ H => ∃ b, PySem.W.exmOne K cls c = some b ∧ (b = true → ∀ a, H a = none → runCl o (ts a cls d) a D σ H) ∧ (b = false → wMix K Wout D r cls d σ H)
def tTryM (K : PySem.W.Frag) (Wout : WX) (l : List ClT) (tb : WX → TS) : TS := fun D σ H => tb (wMix K Wout D l) D σ H
def NmOk (X : Cx) (o : Option Nat) (m : Option Str) : Prop := match o, m with
  | none, none => True
  | some i, some n => X.N.Nodup ∧ X.N[i]? = some n ∧ X.env.kindOf n = some .local
  | _, _ => False
inductive ClsOk (X : Cx) : List ExceptHandler → List ClT → Prop
  | nil : ClsOk X [] []
  | cons {x : Str} {o : Option Nat} {m : Option Str} {c : Value} {ts : Addr → Value → Option Addr → TS} {b₀ : Stmt} {suite : List Stmt} {np pos' : Pos} {hds : List ExceptHandler} {l : List ClT} (hn : NmOk X o m) (hc : Names X x c)
      (hsu : ∀ (a : Addr) (oe : Obj) (cls : Value) (d : Option Addr) (pn : List (Addr × Obj)), Zc cls d oe → (∃ vs, oe.data = .fields vs) → PSs (X.suite a ((a, oe) :: pn)) (b₀ :: suite) (ts a cls d)) (r : ClsOk X hds l) :
      ClsOk X (.ExceptHandler (some (.Name x np)) m (b₀ :: suite) pos' :: hds) ((o, c, ts) :: l)
section
variable {X : Cx} {body : List Stmt} {h₀ : ExceptHandler} {hds : List ExceptHandler} {l : List ClT} {pos : Pos} {tb : WX → TS} {Wout : WX}
theorem suite_end {a : Addr} {oe : Obj} {pins : List (Addr × Obj)} {D : Ends} {f : Flow} {s6 : Shared} (ok : Room 0 X.A → True) (un : ∀ {σ6 : L2.St} {H6 : Hp}, Inv (X.suite a ((a, oe) :: (X.pn ++ pins))) [] σ6 H6 s6 → Inv X pins σ6 H6 s6) (h : SP (X.suite a ((a, oe) :: (X.pn ++ pins))) [] D f s6) : SP X pins D f s6 := by
  cases f with
  | next => obtain ⟨σ6, H6, S6, q6⟩ := h; exact ⟨_, _, un S6, q6⟩
  | brk => obtain ⟨σ6, H6, S6, q6⟩ := h; exact ⟨_, _, un S6, q6⟩
  | cont => obtain ⟨σ6, H6, S6, q6⟩ := h; exact ⟨_, _, un S6, q6⟩
  | ret u => obtain ⟨v6, σ6, H6, S6, r6, q6⟩ := h; exact ⟨_, _, _, un S6, r6, q6⟩
theorem ps_try_mix (hs : X.stack = X.env :: X.outer) (hf : X.env.frame = some X.env.locals) (tk : Takes X Wout)
    (hb : ∀ (W : WX) (pn : List (Addr × Obj)) (xe : Value → Shared → Prop), Takes (X.tr pn xe) W → PassesOwn (model X.prog X.w) X.A X.env xe → PSs (X.tr pn xe) body (tb W))
    (hh : ClsOk X (h₀ :: hds) l) : PS X (.Try body (h₀ :: hds) [] [] pos) (tTryM X.K Wout l tb) := by
  refine ⟨fun pins s σ H D I h => ?_⟩
  have ok := I.ok
  have hfr : X.A.frames = some (X.env :: X.outer) := by rw [ok.frames, hs]
  refine wpAny_Try_except ?_
  refine wpAny_mono ((hb (wMix X.K Wout D l) (X.pn ++ pins) (fun e s₁ => wpAny (model X.prog X.w) X.A (noteFrame e X.env) (fun _ s₂ => wpAny (model X.prog X.w) X.A (setFlight e none) (fun _ s₃ =>
    wpAny (model X.prog X.w) X.A (handleBy e X.env (h₀ :: hds)) (SP X pins D) X.xe s₃) X.xe s₂) X.xe s₁) (fun u s' xx => ?_) PassesOwn.looking).run [] s σ H D (I.toTry _) h) (fun f s1 hsp => ?_) (fun e s1 he => he)
  · obtain ⟨a, B, sI, pins', σ', H', cls, d, rfl, J', nb, up, sky, na, os, ag, w⟩ := xx
    have J : Inv X pins σ' H' sI := J'.ofTry ok
    rw [hs] at sky
    show wpAny (model X.prog X.w) X.A (noteFrame (.ref a) X.env) _ _ _
    refine Sky.land Zc.steady hfr hf sky fun h3 fl3 up3 => ?_
    have J3 : Inv X pins σ' H' { s' with heap := h3 } := J.landed nb fl3.1 (up.trans up3) os ag
    obtain ⟨oe3, vs3, he3, hz3, hd3⟩ := fl3.there
    have nfr : a ∉ frs (X.env :: X.outer) := fun hm => by
      obtain ⟨_, o', e', hnf⟩ := fl3.2.2.1.mem hm
      rw [he3] at e'; cases e'
      exact hnf _ hd3
    have nL : a ≠ X.env.locals := fun z => nfr (List.mem_filterMap.mpr ⟨X.env, List.mem_cons_self, by rw [hf, z]⟩)
    have nF : a ∉ X.fs := fun hm => by
      obtain ⟨e, he, q⟩ := List.mem_filterMap.mp hm
      exact nfr (List.mem_filterMap.mpr ⟨e, List.mem_cons_of_mem _ he, q⟩)
    have S3 := J3.suite he3 hd3 na nL nF
    have go : ∀ {hds' : List ExceptHandler} {l' : List ClT}, ClsOk X hds' l' → wMix X.K Wout D l' cls d σ' H' →
        wpAny (model X.prog X.w) X.A (handleBy (.ref a) X.env hds') (SP X pins D) X.xe { s' with heap := h3 } := by
      intro hds' l' hk
      induction hk with
      | nil =>
        intro w
        refine wpAny_handleBy_nil ?_
        obtain ⟨k1, k2, k3, oe, vs, T, oT, ts', he, hz, hd, h1, hr⟩ := id fl3
        unfold PySem.passOn
        refine wpAny_bind (wpAny_field he hd h1 ?_)
        rw [if_neg (show ¬ ((Value.ref T == Value.none) = true) from by simp)]
        have fin : wpAny (model X.prog X.w) X.A (setFlight (.ref a) X.env.frame) (fun _ s4 => wpAny (model X.prog X.w) X.A (throw (.ref a) : Sem Flow) (SP X pins D) X.xe s4) X.xe { s' with heap := h3 } := by
          rw [hf]
          refine HandSPX.setFlight_upZ fl3 fun h4 hh4 up4 => wpAny_throw (tk _ _ ?_)
          exact ⟨a, B, sI, pins, σ', H', cls, d, rfl, J, nb, (up.trans up3).trans up4, .inr (.inr (by rw [hs]; exact hh4)), na, os, ag, w⟩
        first
          | exact wpAny_bind (wpAny_pure (wpAny_bind fin))
          | exact wpAny_bind fin
      | @cons x o m c ts b₀ suite np pos' hds2 l2 hn hc hsu r ih =>
        intro w
        obtain ⟨b, hb1, hyes, hno⟩ := w
        refine wpAny_handleBy_cons (codeAny_handlers_test ?_) (by intro q; cases q)
        have LT : PySem.W.Looks (model X.prog X.w) h3 (typeOf (.ref a)) cls := fun A Q E s k q => wpAny_typeOf_ref (k _ _ he3) (by rw [hz3.1]; exact q)
        have LM := PySem.W.exm_one (M := model X.prog X.w) (J3.kIn) LT hb1
        have test : ∀ {Q : Value → Shared → Prop} {E : Value → Shared → Prop}, Q c { s' with heap := h3 } → wpAny (model X.prog X.w) (X.A.mark (some (.ref a))) (eval (.Name x np) X.env) Q E { s' with heap := h3 } := fun {Q E} q => by
          obtain ⟨hg, hdbg, hm | ⟨hm, hv, hnn⟩⟩ := hc
          · exact ld_glob (X := X.suite a ((a, oe3) :: (X.pn ++ pins))) S3 hg hm q hdbg
          · exact ld_blt (X := X.suite a ((a, oe3) :: (X.pn ++ pins))) S3 hg hm hv q hnn hdbg
        refine test (LM.here ?_)
        cases b with
        | false =>
          show wpAny _ X.A (handleBy (.ref a) X.env hds2) _ _ _
          exact ih (hno rfl)
        | true =>
          have hyes := hyes rfl a na
          cases o with
          | none =>
            cases m with
            | some n => exact hn.elim
            | none =>
              refine codeAny_handlers_suite ?_
              refine HandSPX.lands_againZ fl3 fun h4 fl4 up4 => ?_
              have J4 : Inv X pins σ' H' { s' with heap := h4 } := J.landed nb fl4.1 ((up.trans up3).trans up4) os ag
              obtain ⟨oe4, vs4, he4, hz4, hd4⟩ := fl4.there
              have S4 := J4.suite he4 hd4 na nL nF
              exact wpAny_mono ((hsu a oe4 cls d (X.pn ++ pins) hz4 ⟨_, hd4⟩).run [] _ _ H' _ S4 hyes) (fun f s6 hsp => suite_end (fun _ => trivial) (fun S6 => S6.unsuite ok) hsp) (fun _ _ z => False.elim z)
          | some i =>
            cases m with
            | none => exact hn.elim
            | some n =>
              obtain ⟨hN, hi, hln⟩ := hn
              refine codeAny_handlers_suite_as ?_
              refine HandSPX.lands_againZ fl3 fun h4 fl4 up4 => ?_
              have J4 : Inv X pins σ' H' { s' with heap := h4 } := J.landed nb fl4.1 ((up.trans up3).trans up4) os ag
              obtain ⟨oe4, vs4, he4, hz4, hd4⟩ := fl4.there
              have S4 := J4.suite he4 hd4 na nL nF
              refine store_ok (X := X.suite a ((a, oe4) :: (X.pn ++ pins))) (v := .ref a) S4 hN hi (.inl hln) rfl (fun s5 S5 => ?_) (.inr hln)
              refine wpAny_mono ((hsu a oe4 cls d (X.pn ++ pins) hz4 ⟨_, hd4⟩).run [] s5 _ H' _ S5 hyes) (fun f s6 hsp => ?_) (fun _ _ z => False.elim z)
              have end_ : ∀ {σ6 : L2.St} {H6 : Hp} {Q : Shared → Prop}, Inv (X.suite a ((a, oe4) :: (X.pn ++ pins))) [] σ6 H6 s6 → (∀ s7, Inv X pins (σ6.set i none) H6 s7 → Q s7) →
                  wpAny (model X.prog X.w) X.A (do bindName X.env n .none; unbindBehindTheSuite X.env n pos') (fun _ s7 => Q s7) X.xe s6 := fun {σ6 H6 Q} S6 hq => gone_ok (S6.unsuite ok) hN hi hln hq
              cases f with
              | next => obtain ⟨σ6, H6, S6, q6⟩ := hsp; exact end_ S6 fun s7 J7 => ⟨_, _, J7, q6⟩
              | brk => obtain ⟨σ6, H6, S6, q6⟩ := hsp; exact end_ S6 fun s7 J7 => ⟨_, _, J7, q6⟩
              | cont => obtain ⟨σ6, H6, S6, q6⟩ := hsp; exact end_ S6 fun s7 J7 => ⟨_, _, J7, q6⟩
              | ret u => obtain ⟨v6, σ6, H6, S6, r6, q6⟩ := hsp; exact end_ S6 fun s7 J7 => ⟨_, _, _, J7, r6, q6⟩
    exact go hh w
  · cases f with
    | next =>
      obtain ⟨σ', H', J', q⟩ := hsp
      exact wpAny_execs_nil ⟨σ', H', J'.ofTry ok, q⟩
    | brk => obtain ⟨σ', H', J', q⟩ := hsp; exact ⟨σ', H', J'.ofTry ok, q⟩
    | cont => obtain ⟨σ', H', J', q⟩ := hsp; exact ⟨σ', H', J'.ofTry ok, q⟩
    | ret u => obtain ⟨v, σ', H', J', r, q⟩ := hsp; exact ⟨v, σ', H', J'.ofTry ok, r, q⟩
end
abbrev ClD := Option Nat × (Nat → Option Bool) × (Nat → List D → En → SR)
def hdM : List ClD → Nat → Option (Option ClD)
  | [], _ => some none
  | x :: r, c => match x.2.1 c with
    | some true => some (some x)
    | some false => hdM r c
    | none => none
def clrX (i : Nat) : SR → SR
  | .nx E => .nx ⟨(clr E.e).set i .emp, E.st⟩
  | .bk E => .bk ⟨(clr E.e).set i .emp, E.st⟩
  | .ct E => .ct ⟨(clr E.e).set i .emp, E.st⟩
  | .rt m d st => .rt m d st
  | _ => .bad
def goM (x : ClD) (c : Nat) (l : List D) (E1 : En) : SR := match x.1 with
  | none => clrS (x.2.2 c l ⟨clr E1.e, E1.st⟩)
  | some i => clrX i (x.2.2 c l ⟨(clr E1.e).set i .exn, E1.st⟩)
def sTryM (hs : List ClD) (g : En → SR) : En → SR := fun E => match g E with
  | .exc c l E1 => (match hdM hs c with
    | some (some x) => goM x c l E1
    | some none => .exc c l E1
    | none => .bad)
  | r => r
inductive HmD (G : Gm) : List ClT → List ClD → Prop
  | nil : HmD G [] []
  | cons {C : Value} {ts : Addr → Value → Option Addr → TS} {p : Nat → Option Bool} {h : En → SR} {l : List ClT} {hs : List ClD} (hc : ∀ c b, p c = some b → PySem.W.exmOne G.K (.ref (G.ca c)) C = some b) (hd : ∀ a cls d, DSt (G.at_ a) W0 (ts a cls d) h) (r : HmD G l hs) : HmD G ((none, C, ts) :: l) ((none, p, fun _ _ => h) :: hs)
  | consN {i : Nat} {C : Value} {ts : Addr → Value → Option Addr → TS} {p : Nat → Option Bool} {h : Nat → List D → En → SR} {l : List ClT} {hs : List ClD} (hc : ∀ c b, p c = some b → PySem.W.exmOne G.K (.ref (G.ca c)) C = some b)
      (hd : ∀ c l a x cls d, p c = some true → (x = none → l = []) → (l = [] → x = none) → cls = .ref (G.ca c) → d = x → DSt (G.exn a x c l) W0 (ts a cls d) (h c l)) (r : HmD G l hs) : HmD G ((some i, C, ts) :: l) ((some i, p, h) :: hs)
section
variable {G : Gm} {W : WX}
theorem s_tryM {tb : WX → TS} {l : List ClT} {hs : List ClD} {g : En → SR} (hb : ∀ W, DSt G W (tb W) g) (hh : HmD G l hs) : DSt G W (tTryM G.K W l tb) (sTryM hs g) := by
  intro s t σ e st E k N post
  refine hb _ s t σ e st E k N ?_
  unfold sTryM at post
  cases q : g ⟨e, st⟩ with
  | nx e1 => rw [q] at post; exact post
  | rt m d st => rw [q] at post; exact post
  | bk e1 => rw [q] at post; exact post
  | ct e1 => rw [q] at post; exact post
  | bad => rw [q] at post; exact post
  | exc c x0 F1 =>
    simp only [q] at post
    intro t1 σ1 x s1 E1 k1 ox
    clear hb q
    induction hh with
    | nil => exact post t1 σ1 x s1 E1 k1 ox
    | @cons C ts p h l hs hc hd r ih =>
      unfold hdM at post
      dsimp only at post
      cases q2 : p c with
      | none => rw [q2] at post; exact post.elim
      | some b =>
        rw [q2] at post
        refine ⟨b, hc c b q2, fun hbt a ha => ?_, fun hbf => ?_⟩
        · subst hbt
          dsimp only at post
          unfold goM at post
          dsimp only at post
          refine hd a _ x s t1 σ1 _ F1.st (E1.ea a) (k1.ea a) _ ?_
          have back : ∀ {t' : Hs} {σ' : L2.St} {e2 : DE}, EnvOk (G.at_ a) s t' σ' e2 → EnvOk G s t' σ' (clr e2) := fun E' => E'.ea G.ea
          cases q3 : h ⟨clr F1.e, F1.st⟩ with
          | nx e2 => rw [q3] at post; exact fun t' σ' s' E' k' => post t' _ (s1.trans s') (back E') (k'.ea G.ea)
          | bk e2 => rw [q3] at post; exact fun t' σ' s' E' k' => post t' _ (s1.trans s') (back E') (k'.ea G.ea)
          | ct e2 => rw [q3] at post; exact fun t' σ' s' E' k' => post t' _ (s1.trans s') (back E') (k'.ea G.ea)
          | rt m d st => rw [q3] at post; exact fun t' v s' g' k' o => post t' v (s1.trans s') g' (k'.ea G.ea) (o.ea G.ea)
          | exc c2 l2 e2 => rw [q3] at post; exact post.elim
          | bad => rw [q3] at post; exact post.elim
        · subst hbf
          exact ih post
    | @consN i C ts p h l hs hc hd r ih =>
      unfold hdM at post
      dsimp only at post
      cases q2 : p c with
      | none => rw [q2] at post; exact post.elim
      | some b =>
        rw [q2] at post
        refine ⟨b, hc c b q2, fun hbt a ha => ?_, fun hbf => ?_⟩
        · subst hbt
          dsimp only at post
          unfold goM at post
          dsimp only at post
          have E2 := (EnvOk.swI (G := G) (G' := G.exn a x c x0) rfl rfl rfl E1).set (i := i) (o := some (.ref a)) (x := .exn) rfl (fun l z => nomatch z)
          have hxl : (x = none → x0 = []) ∧ (x0 = [] → x = none) := by
            rcases ox with ⟨h1, h2⟩ | ⟨da, xs, h1, h2, _⟩
            · exact ⟨fun _ => h1, fun _ => h2⟩
            · exact ⟨fun z => (by rw [h1] at z; exact absurd z (by simp)), fun z => absurd z h2⟩
          refine hd c x0 a x _ _ q2 hxl.1 hxl.2 rfl rfl s t1 _ _ F1.st E2 (StOk.swI (G := G) (G' := G.exn a x c x0) rfl rfl rfl rfl k1 (exF_of a ox)) _ ?_
          have back : ∀ {t' : Hs} {σ' : L2.St} {e2 : DE}, EnvOk (G.exn a x c x0) s t' σ' e2 → EnvOk G s t' (σ'.set i none) ((clr e2).set i .emp) := fun E' =>
            EnvOk.set (G := G) (x := .emp) (EnvOk.swI (G := G.exn a x c x0) (G' := G) rfl rfl rfl E') trivial (fun l z => nomatch z)
          have kb : ∀ {t' : Hs} {st' : Sto}, Up t1 t' → StOk (G.exn a x c x0) t' st' → StOk G t' st' := fun u k' => StOk.swI (G := G.exn a x c x0) (G' := G) rfl rfl rfl rfl k' (k1.ex.up u.a u.f)
          cases q3 : h c x0 ⟨(clr F1.e).set i .exn, F1.st⟩ with
          | nx e2 => rw [q3] at post; exact fun t' σ' s' E' k' => post t' _ (s1.trans s') (back E') (kb s' k')
          | bk e2 => rw [q3] at post; exact fun t' σ' s' E' k' => post t' _ (s1.trans s') (back E') (kb s' k')
          | ct e2 => rw [q3] at post; exact fun t' σ' s' E' k' => post t' _ (s1.trans s') (back E') (kb s' k')
          | rt m d st => rw [q3] at post; exact fun t' v s' g' k' o => post t' v (s1.trans s') g' (kb s' k') (VOk.swI (G := G.exn a x c x0) (G' := G) rfl rfl rfl o)
          | exc c2 l2 e2 => rw [q3] at post; exact post.elim
          | bad => rw [q3] at post; exact post.elim
        · subst hbf
          exact ih post
end
@[simp] theorem e_hdM0 {c : Nat} : hdM [] c = some none := rfl
@[simp] theorem e_hdMC {o : Option Nat} {p : Nat → Option Bool} {h : Nat → List D → En → SR} {r : List ClD} {c : Nat} : hdM ((o, p, h) :: r) c = (match p c with
    | some true => some (some (o, p, h))
    | some false => hdM r c
    | none => none) := rfl
@[simp] theorem e_goM0 {p : Nat → Option Bool} {h : Nat → List D → En → SR} {c : Nat} {l : List D} {E1 : En} : goM (none, p, h) c l E1 = clrS (h c l ⟨clr E1.e, E1.st⟩) := rfl
@[simp] theorem e_goM1 {i : Nat} {p : Nat → Option Bool} {h : Nat → List D → En → SR} {c : Nat} {l : List D} {E1 : En} : goM (some i, p, h) c l E1 = clrX i (h c l ⟨(clr E1.e).set i .exn, E1.st⟩) := rfl
@[simp] theorem e_sTryM {hs : List ClD} {g : En → SR} {E : En} : sTryM hs g E = match g E with
  | .exc c l E1 => (match hdM hs c with
    | some (some x) => goM x c l E1
    | some none => .exc c l E1
    | none => .bad)
  | r => r := rfl
@[simp] theorem e_clrXN {i : Nat} {E : En} : clrX i (.nx E) = .nx ⟨(clr E.e).set i .emp, E.st⟩ := rfl
@[simp] theorem e_clrXB {i : Nat} {E : En} : clrX i (.bk E) = .bk ⟨(clr E.e).set i .emp, E.st⟩ := rfl
@[simp] theorem e_clrXC {i : Nat} {E : En} : clrX i (.ct E) = .ct ⟨(clr E.e).set i .emp, E.st⟩ := rfl
@[simp] theorem e_clrXR {i : Nat} {m : Md} {d : D} {st : Sto} : clrX i (.rt m d st) = .rt m d st := rfl
end Dn
namespace Dn
open PySem PySem.Spec PyProof.Rows L2
def revT (z : Str) : Str := ⟨z.cps.toList.reverse.toArray⟩
section
variable {G : Gm} {W : WX}
def oRevS : D → Sto → ER
  | .str z, st => if z.length ≤ 1000000 then .val .P (.str (revT z)) st else .bad
  | _, _ => .bad
@[simp] theorem e_oRevS {z : Str} {st : Sto} : oRevS (.str z) st = if z.length ≤ 1000000 then .val .P (.str (revT z)) st else .bad := rfl
def dRevS (f : En → ER) : En → ER := fun E => (f E).bind oRevS
@[simp] theorem e_dRevS {f : En → ER} {E : En} : dRevS f E = (f E).bind oRevS := rfl
end
end Dn
namespace Dn
open PySem PySem.Spec PyProof.Rows L2
section
variable {G : Gm} {P : Program} {w : World} {K : PySem.W.Frag} {mg : Str → Option Value} {base : Heap} {x qual : Str} {st : Stmt} {f : Addr} {fd : FuncData} {N ps : List Str} {k : Nat} {g : En → SR} {n : Nat}
theorem fn_okN (hn : ps.length = n) {m : Nat} (hm : N.length = m) (F : Fun K x qual st f fd) (S : FnScope N ps (defScope st))
    (hbody : ∀ (cdv : Value) (A : Around) (outer : List Env) (s : Shared) (H : Hp) (E : XK), Room k (A.deeper (envOfC qual (defScope st) s.heap.objs.size f cdv)) →
      ∃ t, PSs (cxOf (L2N.CX P w) P w K mg base N qual (defScope st) f cdv A outer s H E) (defBody st) t ∧ DSt G (fun c x _ H => E c x H) t g) : FnOk P w K mg base (L2N.CX P w) (k + 1) f fd ps (spF G (fnD n m g)) := by
  subst hn hm
  obtain ⟨oc, od, kV, doc, pm, an, cdv, ct, osl, rfl, lk, hcd⟩ := F.ex
  refine fn_of lk hcd S (fun vs H Q E h => sp_len h) fun A outer s H vs Q E hr h => ?_
  obtain ⟨t, h1, h2⟩ := hbody cdv A outer s H E hr
  exact ⟨t, h1, body_ok h2 rfl rfl h⟩
end
section
variable {G : Gm} {W : WX}
def clrR : SR → SR
  | .nx E => .nx ⟨clr E.e, E.st⟩
  | .bk E => .bk ⟨clr E.e, E.st⟩
  | .ct E => .ct ⟨clr E.e, E.st⟩
  | .rt m d st => .rt m d st
  | .exc c [] E => .exc c [] ⟨clr E.e, E.st⟩
  | _ => .bad
def sTryR (catch? : Nat → Option Bool) (g : En → SR) (h : En → SR) : En → SR := fun E => match g E with
  | .exc c l E1 => (match catch? c with
    | some true => clrR (h ⟨clr E1.e, E1.st⟩)
    | some false => .exc c l E1
    | none => .bad)
  | r => r
theorem s_tryR {C : Value} {tb : WX → TS} {ts : Addr → Value → Option Addr → TS} {catch? : Nat → Option Bool} {g h : En → SR} (hb : ∀ W, DSt G W (tb W) g)
    (hc : ∀ c b, catch? c = some b → PySem.W.exmOne G.K (.ref (G.ca c)) C = some b)
    (hs : ∀ a cls d, DSt (G.at_ a) W (ts a cls d) h) :
    DSt G W (fun N σ H => tb (wOnly G.K C ts W N) N σ H) (sTryR catch? g h) := by
  intro s t σ e st E k N post
  refine hb _ s t σ e st E k N ?_
  unfold sTryR at post
  cases q : g ⟨e, st⟩ with
  | nx e1 => rw [q] at post; exact post
  | rt m d st => rw [q] at post; exact post
  | bk e1 => rw [q] at post; exact post
  | ct e1 => rw [q] at post; exact post
  | bad => rw [q] at post; exact post
  | exc c l F1 =>
    simp only [q] at post
    intro t1 σ1 x s1 E1 k1 ox
    cases q2 : catch? c with
    | none => simp only [q2] at post; exact post.elim
    | some b =>
      refine ⟨b, hc c b q2, fun hbt a ha => ?_, fun hbf => ?_⟩
      · subst hbt
        simp only [q2] at post
        refine hs a _ x s t1 σ1 _ F1.st (E1.ea a) (k1.ea a) _ ?_
        have back : ∀ {t' : Hs} {σ' : L2.St} {e2 : DE}, EnvOk (G.at_ a) s t' σ' e2 → EnvOk G s t' σ' (clr e2) := fun E' => E'.ea G.ea
        cases q3 : h ⟨clr F1.e, F1.st⟩ with
        | nx e2 => rw [q3] at post; exact fun t' σ' s' E' k' => post t' _ (s1.trans s') (back E') (k'.ea G.ea)
        | bk e2 => rw [q3] at post; exact fun t' σ' s' E' k' => post t' _ (s1.trans s') (back E') (k'.ea G.ea)
        | ct e2 => rw [q3] at post; exact fun t' σ' s' E' k' => post t' _ (s1.trans s') (back E') (k'.ea G.ea)
        | rt m d st => rw [q3] at post; exact fun t' v s' g' k' o => post t' v (s1.trans s') g' (k'.ea G.ea) (o.ea G.ea)
        | exc c2 l2 e2 =>
          rw [q3] at post
          cases l2 with
          | cons => exact post.elim
          | nil =>
            intro t' σ' x' s' E' k' o'
            refine post t' σ' x' (s1.trans s') (back E') (k'.ea G.ea) ?_
            rcases o' with h0 | ⟨_, _, _, h0, _⟩
            · exact .inl h0
            · exact absurd rfl h0
        | bad => rw [q3] at post; exact post.elim
      · subst hbf
        simp only [q2] at post
        exact post t1 σ1 x s1 E1 k1 ox
@[simp] theorem e_sTryR {catch? : Nat → Option Bool} {g h : En → SR} {E : En} : sTryR catch? g h E = match g E with
  | .exc c l E1 => (match catch? c with
    | some true => clrR (h ⟨clr E1.e, E1.st⟩)
    | some false => .exc c l E1
    | none => .bad)
  | r => r := rfl
@[simp] theorem e_clrRN {E : En} : clrR (.nx E) = .nx ⟨clr E.e, E.st⟩ := rfl
@[simp] theorem e_clrRR {m : Md} {d : D} {st : Sto} : clrR (.rt m d st) = .rt m d st := rfl
@[simp] theorem e_clrRE {c : Nat} {E : En} : clrR (.exc c [] E) = .exc c [] ⟨clr E.e, E.st⟩ := rfl
end
end Dn
namespace Dn
open PySem PySem.Spec PyProof.Rows L2
theorem call_isiK {X : Cx} {K : PySem.W.Frag} (e : X.K = K) : CallR X (.builtin "isinstance") (rIsi K) := by
  subst e
  exact call_isi
section
variable {G : Gm} {W : WX}
theorem v_isiK {K : PySem.W.Frag} (e : G.K = K) {T : String} {te : TE} {f : En → ER} (h : DEv G W te f) : DEv G W (tCB (rIsi K) (tCons te (tCons (tC (.ty T)) tNil))) (dIsi T f) := by
  subst e
  exact v_isi h
end
theorem pmk_oexN {X : Cx} {CX : CXT} {x : Str} {e : Expr} {es : List Expr} {ta : TA} {p pos : Pos} {C fI : Addr} {k : Nat} {fd : FuncData} {ps : List Str} {sp : Sp} (T : OexC X.K C) (iC : PySem.W.findIn X.K (.ref C) "__init__" = some (some (.ref fI))) (tI : PySem.W.typeIn X.K (.ref fI) = some (.type "function"))
    (F1 : FnOk X.prog X.w X.K X.mg X.base CX k fI fd ps sp) (hr : Room (k + 1) X.A) (hb : L2.Binds X.K fd ps []) (hx : Passes CX X (fun _ _ _ => False)) (hg : Gl X x) (hm : X.mg x = some (.ref C)) (ha : PA X (e :: es) ta)
    (hdb : (x == ("__debug__" : Str)) = false := by decide) (he : starEach (e :: es) X.env = (false, eval e X.env) :: starEach es X.env := by rfl) (hpl : (backTo pos (starEach es X.env)).any (·.1) = false := by rfl) :
    L2N.PMk X (.Call (.Name x p) (e :: es) [] pos) (tMkO C sp [] ta) := by
  intro pins s σ H Q I h
  obtain ⟨nm, q, N, bs, bm, sn, sub, ab, col, dd, k0, k1, k2, k3, k5, hC, hbm⟩ := T.cls
  refine wpAny_Call_Name_kw (ld_glob I hg hm ?_ hdb)
  refine PySem.W.callWith_K (h₀ := X.base) I.ok.mod.kin T.kC (thn (ha.run pos pins s σ H _ I h) fun us s1 ⟨vs, H1, I1, r1, hz, q1⟩ => ⟨I1.kIn, ?_⟩) he hpl
  show wpAny _ _ (call (.ref C) us) _ _ _
  obtain ⟨hp, g, dr, tk, os⟩ := s1
  have hsz : hp.objs.size ≤ hp.objs.size + 1 := Nat.le_succ _
  have hn : H1 (hp.objs.size + 1) = none := I1.hok.fresh hsz
  have hq := q1 (hp.objs.size + 1) hn
  rw [List.append_nil] at hq
  have kk : ∀ b o, hp.get? b = some o → ((hp.push (PySem.W.kdv_tup us)).push (PySem.HandSPX.excO C hp.objs.size)).get? b = some o := fun b o e => Heap.get?_push_of_some _ (Heap.get?_push_of_some _ e)
  have hget : ((hp.push (PySem.W.kdv_tup us)).push (PySem.HandSPX.excO C hp.objs.size)).get? (hp.objs.size + 1) = some (PySem.HandSPX.excO C hp.objs.size) := by heap_get
  have I2 : Inv X pins σ (upd H1 (hp.objs.size + 1) (exo (hp.objs.size + 1) C none)) ⟨(hp.push (PySem.W.kdv_tup us)).push (PySem.HandSPX.excO C hp.objs.size), g, dr, tk, os⟩ :=
    I1.laid (t' := tk) (a := hp.objs.size + 1) (o := exo (hp.objs.size + 1) C none) (h' := (hp.push (PySem.W.kdv_tup us)).push (PySem.HandSPX.excO C hp.objs.size)) kk hsz (exo_ok hget)
  have r2 : Vals (V.ref (hp.objs.size + 1) :: vs) (Value.ref (hp.objs.size + 1) :: us) := .cons rfl r1
  have hl : (Value.ref (hp.objs.size + 1) :: us ++ []).length = ps.length := by
    have e := r2.length
    rw [F1.len _ _ _ _ hq] at e
    rw [List.append_nil]
    exact e.symm
  have hus : us.length ≤ sizeLine := by
    rw [← Paired.length r1, sizeLine_eq]
    omega
  have b2 := hb _ (Value.ref (hp.objs.size + 1) :: us) I2.kIn hl
  rw [List.append_nil] at b2
  refine wpAny_call (PySem.HandSPX.call_own F.excBase_ValueError (fun Y => PySem.HandSPX.refsVE_contains Y bm hbm) (I1.kIn _ _ hC) (PySem.W.looks_findIn I1.kIn iC) (fun self => PySem.W.bind_fn I1.kIn self tI) hus
    (codeAny_mono (F1.run _ X.stack _ _ ⟨Value.ref (hp.objs.size + 1) :: us, []⟩ (Value.ref (hp.objs.size + 1) :: us) _ _ (fun _ _ _ => False) (hr.make C us []) (I2.env0.make C us []) b2 r2 hq) fun r s' hq' => ?_))
  cases r with
  | error er => exact hx pins σ _ _ er s' I2 hq'
  | ok fl =>
    cases fl with
    | ret u =>
      obtain ⟨v, H2, os2, bare2, un2, hok2, rv, ev, d, fs, ea, ed, hd1, q2⟩ := hq'
      subst ev
      obtain ⟨h2, g2, d2, t2, os'⟩ := s'
      obtain ⟨t0, G, J, kG, ge, hoe, na⟩ := mk_end0 (d2 := d2) (t2 := t2) I1 hsz kk un2 hok2 os2 bare2 ea ed hd1
      refine ⟨rv, ⟨hp.objs.size + 1, _, _, ⟨G, g2, d2, t2, os'⟩, _, .ref C, some d, rfl, J, kG, ge, hoe, ⟨rfl, rfl, fun vs hv => ?_⟩, rfl, rfl, na, rfl, bare2, raises_own T.exC T.tyC, q2⟩⟩
      cases hv
      rfl
    | next => exact False.elim hq'
    | brk => exact False.elim hq'
    | cont => exact False.elim hq'
section
variable {X : Cx} {CX : CXT} {k n : Nat} {f C : Addr} {fd : FuncData} {ps ks : List Str} {idx : List Nat} {dvs : List V} {sp : Sp} {E : L2.St → XK} {x m : Str} {p pos apos : Pos} {o e : Expr} {es : List Expr} {kws : List Keyword} {ta : TE} {t tk : TA}
theorem run_fnGH {pins : List (Addr × Obj)} {σ : L2.St} {H : Hp} {s : Shared} {Q : VK} {us ws : List Value} {vs zs : List V} (F : L2H.FnH X.prog X.w X.K X.mg X.base CX k f fd ps sp) (hr : L2H.RoomH k X.A) (hc : L2H.HotC X) (hb : CallB X.K fd ps n ks idx dvs) (hx : PassesAt CX X σ (E σ))
    (I : Inv X pins σ H s) (r : Vals vs us) (rz : Vals zs ws) (l1 : vs.length = n) (l2 : zs.length = ks.length) (h : sp (pickL idx (vs ++ zs ++ dvs)) H Q (E σ)) : wpAny (model X.prog X.w) X.A (call (.ref f) us (ks.zip ws)) (EP X pins σ Q) X.xe s := by
  obtain ⟨p, hot, hp⟩ := hc
  obtain ⟨its, rd, hb⟩ := hb.ex
  have P1 := I.pin p (List.mem_append_left _ hp)
  have hpin : L2H.PinOk X.stack H s p := ⟨P1.1, P1.2.1, fun hm => (List.mem_cons.mp (I.stkSub p.1 hm)).elim P1.2.2.1 P1.2.2.2.1, P1.2.2.2.2⟩
  refine wpAny_call (codeAny_mono (F.run X.A X.stack s H ⟨us, ks.zip ws⟩ (pickL idx (us ++ ws ++ its)) (pickL idx (vs ++ zs ++ dvs)) Q (E σ) p hr hot hpin I.env0 (hb s us ws I.kIn (r.length.symm.trans l1) (rz.length.symm.trans l2)) (vals_pick ((r.append rz).append rd) idx) h) fun r s' hq => ?_)
  cases r with
  | error e => exact hx pins H s e s' I hq
  | ok fl =>
    cases fl with
    | ret u => exact I.after hq
    | next => exact False.elim hq
    | brk => exact False.elim hq
    | cont => exact False.elim hq
theorem pe_mNH {pl : Sem Bool} (he : PE X o ta) (c : Cls X.K C) (hm : Meth X.K C m f) (F : L2H.FnH X.prog X.w X.K X.mg X.base CX k f fd ps sp) (hr : L2H.RoomH k X.A) (hc : L2H.HotC X) (hb : CallB X.K fd ps n [] idx dvs) (hx : ∀ σ, PassesAt CX X σ (E σ)) (ha : PA X (e :: es) t)
    (hst : starEach (e :: es) X.env = (false, eval e X.env) :: starEach es X.env := by rfl) (hpl : (backTo pos (starEach es X.env)).any (·.1) = false := by rfl)
    (ht : eval (.Call (.Attribute o m apos) (e :: es) [] pos) X.env = (do
      let ov ← eval o X.env
      standAt apos.atName
      let (f, first) ← holding [ov] (getMethod ov m pl)
      callWith pos f first (backTo pos (starEach (e :: es) X.env)) (backToKw pos (keywordEach [] X.env))) := by rfl) :
    PE X (.Call (.Attribute o m apos) (e :: es) [] pos) (tMethG C m n 0 idx dvs sp E ta t tNil) := by
  refine ⟨fun pins s σ H Q I h => ?_⟩
  refine PySem.W.methodCall_KW (pl := pl) (thn (he.run pins s σ H _ I h) fun u s1 ⟨x, H1, I1, rx, a, dx, fs, ex, ea, l, q⟩ => ?_) ht
  subst ex
  obtain rfl : u = Value.ref a := rx
  refine getmeth_ok I1 ea c hm l ?_
  refine PySem.W.callWith_K (first := [.ref a]) (h₀ := X.base) I.ok.mod.kin hm.kp (thn (ha.run pos pins s1 σ H1 _ I1 q) fun us s2 ⟨vs, H2, I2, r, l1, l2, q2⟩ => ⟨I2.kIn, ?_⟩) hst hpl
  exact run_fnGH (us := .ref a :: us) (vs := .ref a :: vs) (ks := []) (ws := []) (zs := []) F hr hc hb (hx σ) I2 (.cons rfl r) .nil l1 rfl q2
theorem pe_m0H {pl : Sem Bool} (he : PE X o ta) (c : Cls X.K C) (hm : Meth X.K C m f) (F : L2H.FnH X.prog X.w X.K X.mg X.base CX k f fd ps sp) (hr : L2H.RoomH k X.A) (hc : L2H.HotC X) (hb : CallB X.K fd ps n [] idx dvs) (hx : ∀ σ, PassesAt CX X σ (E σ))
    (ht : eval (.Call (.Attribute o m apos) [] [] pos) X.env = (do
      let ov ← eval o X.env
      standAt apos.atName
      let (f, first) ← holding [ov] (getMethod ov m pl)
      callWith pos f first (backTo pos (starEach [] X.env)) (backToKw pos (keywordEach [] X.env))) := by rfl) :
    PE X (.Call (.Attribute o m apos) [] [] pos) (tMethG C m n 0 idx dvs sp E ta tNil tNil) := by
  refine ⟨fun pins s σ H Q I h => ?_⟩
  refine PySem.W.methodCall_KW (pl := pl) (thn (he.run pins s σ H _ I h) fun u s1 ⟨x, H1, I1, rx, a, dx, fs, ex, ea, l, q⟩ => ?_) ht
  subst ex
  obtain rfl : u = Value.ref a := rx
  refine getmeth_ok I1 ea c hm l ?_
  obtain ⟨l1, l2, q⟩ := q
  exact PySem.W.callWith_K0 (first := [.ref a]) I1.kIn hm.kp (run_fnGH (us := [.ref a]) (vs := [.ref a]) (ks := []) (ws := []) (zs := []) F hr hc hb (hx σ) I1 (.cons rfl .nil) .nil l1 rfl q)
end
section
variable {G : Gm} {P : Program} {w : World} {K : PySem.W.Frag} {mg : Str → Option Value} {base : Heap} {x qual : Str} {st : Stmt} {f : Addr} {fd : FuncData} {N ps : List Str} {k : Nat} {g : En → SR} {n : Nat}
theorem fn_okH (hn : ps.length = n) {m : Nat} (hm : N.length = m) (F : Fun K x qual st f fd) (S : FnScope N ps (defScope st))
    (hbody : ∀ (cdv : Value) (A : Around) (outer : List Env) (s : Shared) (H : Hp) (E : XK) (p : Addr × Obj), L2H.Hot1 A p → L2H.RoomH k (A.deeper (envOfC qual (defScope st) s.heap.objs.size f cdv)) →
      ∃ t, PSs (L2H.cxH (L2.CX P w) P w K mg base N qual (defScope st) f cdv A outer s H E p) (defBody st) t ∧ DSt G (fun c x _ H => E c x H) t g) : L2H.FnH P w K mg base (L2.CX P w) (k + 1) f fd ps (spF G (fnD n m g)) := by
  subst hn hm
  obtain ⟨oc, od, kV, doc, pm, an, cdv, ct, osl, rfl, lk, hcd⟩ := F.ex
  refine L2H.fn_ofH lk hcd S (fun vs H Q E h => sp_len h) fun A outer s H vs Q E p hot hr h => ?_
  obtain ⟨t, h1, h2⟩ := hbody cdv A outer s H E p hot hr
  exact ⟨t, h1, body_ok h2 rfl rfl h⟩
theorem hot_in {scope : Scope} {cd : Value} {A : Around} {outer : List Env} {s : Shared} {H : Hp} {E : XK} {p : Addr × Obj} (h : L2H.Hot1 A p) : L2H.HotC (L2H.cxH (L2.CX P w) P w K mg base N qual scope f cd A outer s H E p) :=
  ⟨p, h, by show p ∈ [p]; simp⟩
end
section
variable {G : Gm} {W : WX}
theorem spF_at {a : Addr} {F : List D → Sto → ER} {vs : List V} {H : Hp} {Q : VK} {E : XK} (h : spF (G.at_ a) F vs H Q E) : spF G F vs H Q E := by
  obtain ⟨s, ds, st, e, k, il, post⟩ := h
  refine ⟨s, ds, st, e, k.ea (G := G.at_ a) G.ea, IsL.ea (G := G.at_ a) G.ea _ il, ?_⟩
  cases r : F ds st with
  | val m d st' =>
    rw [r] at post
    exact fun t v g k' o => post t v g (k'.ea a) (VOk.ea a o)
  | exc cc ll st' =>
    rw [r] at post
    refine fun t x' g k' o => post t x' g (k'.ea a) ?_
    rcases o with ⟨h1, h2⟩ | ⟨da, xs, h1, h2, h3, h4, h5⟩
    · exact .inl ⟨h1, h2⟩
    · exact .inr ⟨da, xs, h1, h2, h3, h4, IsL.ea a _ h5⟩
  | bad => rw [r] at post; exact post
theorem v_methA {a0 : Addr} {c n r : Nat} {m : Str} {F : List D → Sto → ER} {idx : List Nat} {dd : List D} {to : TE} {ta tk : TA} {fo : En → ER} {fa fk : En → AR} (hm : m ∉ G.fn c) (hd : dd.all flat = true) (ho : DEv (G.at_ a0) W to fo) (ha : DAr (G.at_ a0) W ta fa) (hk : DAr (G.at_ a0) W tk fk) : DEv (G.at_ a0) W (tMethG (G.ca c) m n r idx (dd.map toV) (spF G F) (WE W) to ta tk) (dMeth c F n r idx dd fo fa fk) := by
  intro s t σ e st E k Q post
  refine ho s t σ e st E k _ (RPost.bind post fun mo d st1 t1 v g1 k1 o1 p1 => ?_)
  cases d <;> first | exact p1.elim | skip
  rename_i p
  obtain ⟨a, rfl, hp⟩ := o1.u.ptr
  cases hi : stIns st1 p with
  | none => simp only [hi] at p1; exact p1.elim
  | some cl =>
    obtain ⟨c', l0⟩ := cl
    simp only [hi] at p1
    obtain ⟨hc, p2⟩ := RPost.cond _ _ p1
    clear p1
    have p1 := p2
    clear p2
    subst hc
    obtain ⟨dx, fs, hh, hl, il⟩ := k1.ins hp hi
    refine ⟨a, dx, _, rfl, hh, zip_no fs hm, ha s t1 σ e st1 (E.up g1) k1 _ ?_⟩
    cases q : fa ⟨e, st1⟩ with
    | ok b l st2 =>
      rw [q] at p1
      cases b with
      | false => exact p1.elim
      | true =>
        have p1 : RPost (G.at_ a0) W t1 σ Q (match fk ⟨e, st2⟩ with
          | .ok true z st2 => if l.length + 1 = n ∧ z.length = r then F (pickL idx ((.ptr p :: l) ++ z ++ dd)) st2 else .bad
          | .exc c l st => .exc c l st
          | _ => .bad) := p1
        intro t2 vs g2 k2 i2 u2
        have i2 := i2 rfl
        refine hk s t2 σ e st2 ((E.up g1).up g2) k2 _ ?_
        cases q2 : fk ⟨e, st2⟩ with
        | ok b2 z st3 =>
          rw [q2] at p1
          cases b2 with
          | false => exact p1.elim
          | true =>
            obtain ⟨hc, p1⟩ := RPost.cond (l.length + 1 = n ∧ z.length = r) (F (pickL idx ((.ptr p :: l) ++ z ++ dd)) st3) p1
            intro t3 zs g3 k3 i3 u3
            have i3 := i3 rfl
            have ip : IsL (G.at_ a0) t3.as t3.f (.ref a :: vs) (.ptr p :: l) := .cons (.ptr (g3.a _ _ (g2.a _ _ hp))) (i2.up g3.a g3.f)
            exact ⟨by rw [← hc.1]; simp [u2.len], by rw [u3.len]; exact hc.2, spF_at (a := a0) ⟨t3, _, st3, rfl, k3, isL_pick ((ip.append i3).append (isL_toV hd)) idx, (RPost.step (g2.trans g3) k3 p1).w (fun c x H' h => h)⟩⟩
        | exc c l st3 => rw [q2] at p1; exact fun t' x g' => p1 t' x (g2.trans g')
        | bad => rw [q2] at p1; exact p1
    | exc c l st2 => rw [q] at p1; exact p1
    | bad => rw [q] at p1; exact p1
end
end Dn
namespace Dn
open PySem PySem.Spec PyProof.Rows L2
section
variable {K : PySem.W.Frag}
theorem dfl_none {dV : Value} (h : DflV K dV []) : dV = .none := by
  rcases h with ⟨_, h⟩ | ⟨h, _⟩
  · exact h
  · exact absurd rfl h
abbrev DefB (K : PySem.W.Frag) (x qual : Str) (st : Stmt) (f : Addr) : Prop := (∃ (oc : Value) (od : Option Addr) (kV doc pm : Value) (an : Option Addr) (cdv ct : Value) (osl : Array (Option Value)), K.lookup f = some ⟨oc, od, .func (PySem.W.fnOf x qual (defArgs st) (defBody st) (defScope st) .none kV doc pm an cdv ct), osl⟩ ∧ PySem.W.codeIn K cdv qual = true) ∧ PySem.W.keepIn K (.ref f) = true
theorem fun_of {x qual : Str} {st : Stmt} {f : Addr} {fd : FuncData} (F : FunD K x qual (defArgs st) (defBody st) (defScope st) [] [] f fd) : DefB K x qual st f := by
  obtain ⟨⟨oc, od, dV, kV, doc, pm, an, cdv, ct, osl, rfl, lk, hcd, hd, _⟩, kp⟩ := F
  obtain rfl := dfl_none hd
  exact ⟨⟨oc, od, kV, doc, pm, an, cdv, ct, osl, lk, hcd⟩, kp⟩
def intK (K : PySem.W.Frag) (x : Str) (i : Int) : Bool := match PySem.W.nsIn K mainGlobals x with
  | some (some (.int j _)) => decide (j = i)
  | _ => false
theorem intK_ok {x : Str} {i : Int} (h : intK K x i = true) : ∃ t, PySem.W.nsIn K mainGlobals x = some (some (.int i t)) := by
  unfold intK at h
  split at h
  · rename_i j t e
    rw [e, of_decide_eq_true h]
    exact ⟨_, rfl⟩
  · cases h
def strK (K : PySem.W.Frag) (x v : Str) : Bool := match PySem.W.nsIn K mainGlobals x with
  | some (some (.str j _)) => decide (j = v)
  | _ => false
theorem strK_ok {x v : Str} (h : strK K x v = true) : ∃ t, PySem.W.nsIn K mainGlobals x = some (some (.str v t)) := by
  unfold strK at h
  split at h
  · rename_i j t e
    rw [e, of_decide_eq_true h]
    exact ⟨_, rfl⟩
  · cases h
def oexB (K : PySem.W.Frag) (C : Addr) (newId : String) : Bool := match K.lookup C with
  | some ⟨.type "type", _, .cls cd, sl⟩ => (match cd.mro, sl.toList with
    | .ref C' :: bm, [_, _, _, _, some (.builtin n), _] => decide (C' = C) && (decide (n = newId) && (!cd.hasDel && (cd.hasDict && PySem.HandSPX.refsVE bm)))
    | _, _ => false)
  | _ => false
theorem oexB_ok {C : Addr} {newId : String} (q : oexB K C newId = true) : ∃ nm qn N bs bm sn sub ab col dd k0 k1 k2 k3 k5, K.lookup C = some (excClassObj nm qn C N bs bm true sn sub ab col dd k0 k1 k2 k3 k5 newId) ∧ PySem.HandSPX.refsVE bm = true := by
  unfold oexB at q
  split at q
  · rename_i dd cd sl ho
    split at q
    · rename_i C' bm k0 k1 k2 k3 n k5 hm hs
      obtain ⟨h1, q⟩ := He.ba q
      obtain ⟨h2, q⟩ := He.ba q
      obtain ⟨h3, q⟩ := He.ba q
      obtain ⟨h4, h5⟩ := He.ba q
      have e1 := of_decide_eq_true h1
      have e2 := of_decide_eq_true h2
      subst e1 e2
      obtain ⟨nm, bs, mro, ns, qn, hd, sn, sub, ab, col, del⟩ := cd
      dsimp only at hm h3 h4
      have h3 : del = false := by simpa using h3
      subst hm h3 h4
      have hsl : sl = #[k0, k1, k2, k3, some (.builtin n), k5] := by
        obtain ⟨l⟩ := sl
        simp only at hs
        rw [hs]
      subst hsl
      exact ⟨nm, qn, ns, bs, bm, sn, sub, ab, col, dd, k0, k1, k2, k3, k5, ho, h5⟩
    · cases q
  · cases q
end
theorem walkLE {k : Nat} (hk : Room k callerA) {l : PySem.W.OpenLaw} {q : Program} {loose : List Str} {XP : (Str → Option Value) → Heap → Prop} {YP : World → Heap → Prop} {d : DefRec} {x : Str} (hn : l.most = some 63) (hdf : d.params.defaults = [])
    (F : ∀ (w : World) (mg : Str → Option Value) (fa : Addr) (h : Heap), YP w h → h.Ns mainGlobals mg → mg d.name = some (.ref fa) →
      ∃ K : PySem.W.Frag, K.In h ∧ ∃ fd : FuncData, (∀ (s : Shared) (u : Value), BindsTo s fd ⟨[u], []⟩ [(x, u)]) ∧ ∀ base : Heap, K.In base → base.Ns mainGlobals mg → FnOk l.prog w K mg base (L2.CX l.prog w) k fa fd [x] (spLaw K)) :
    PySem.W.WalkO q loose XP YP l.row.toRowW d [] (fun f vs => PySem.call f vs) :=
  LamX.walk_ofTsE (n := 63) (k := k) (x := x) (CX := fun w => L2.CX l.prog w) hn (by decide) hdf hk (fun w mg fa h Y hG hmg => by
    obtain ⟨K, KX, fd, h4, h5⟩ := F w mg fa h Y hG hmg
    exact ⟨K, KX, fd, [], spLaw K, (fun p m => by cases m), (fun p m => by cases m), (fun p m => by cases m), h4, (fun H a ns hl hb hT hS => ⟨a, ns, rfl, hS, hl, hb, fun _ => rfl⟩), fun base h1 h2 _ => h5 base h1 h2⟩) fun w H s e s' h => by
    obtain ⟨_, _, _, _, _, _, _, _, _, _, _, _, z⟩ := h
    exact z.elim
structure Ch where
  fn : List He.DefD
  tf : List He.Defn
  ex : PySem.W.Frag → Bool
def obsC (as : List Addr) (g : Addr → Option Obj) (c : Ch) : He.AlD × Bool := (He.obsD [] c.fn (He.frT g as), c.ex (He.frT g as) && He.tabsB g c.tf (He.frT g as))
def valC (c : Ch) : He.AlD × Bool := (He.valD c.fn, true)
structure SaysC (h : Heap) (K : PySem.W.Frag) (c : Ch) : Prop where
  d : He.SaysD [] c.fn K
  more : c.ex K = true
  tabs : ∀ p ∈ c.tf, PySem.W.codeHdIn K (He.cT K p).1 (He.cT K p).2 = true ∧ K.lookup (He.cT K p).2 = none ∧ h.get? (He.cT K p).2 = some { cls := .none, data := .fields #[] }
theorem saysC_of {as : List Addr} {h : Heap} {c : Ch} (e : obsC as h.get? c = valC c) : SaysC h (He.frT h.get? as) c := by
  have e2 := congrArg Prod.snd e
  obtain ⟨x, y⟩ := He.ba (show (c.ex (He.frT h.get? as) && He.tabsB h.get? c.tf (He.frT h.get? as)) = true from e2)
  refine ⟨congrArg Prod.fst e, x, fun p hp => ?_⟩
  obtain ⟨y1, y2⟩ := He.ba (List.all_eq_true.mp y p hp)
  split at y2
  · rename_i o ho
    exact ⟨y1, He.frT_none ho y2, by rw [ho, He.emptyTab_eq y2]⟩
  · cases y2
def hookL (as : List Addr) (cs : List Ch) : PySem.W.Hook where
  α := List (He.AlD × Bool)
  obs := fun s => cs.map (obsC as s.heap.get?)
  val := fun _ => cs.map valC
  says := fun _ h => ∃ K : PySem.W.Frag, K.In h ∧ ∀ c ∈ cs, SaysC h K c
  of := fun _ s e => ⟨He.frT s.heap.get? as, He.frT_in, fun c hc => saysC_of (by
    obtain ⟨i, hi, rfl⟩ := List.mem_iff_getElem.mp hc
    have e2 : (cs.map (obsC as s.heap.get?))[i]? = (cs.map valC)[i]? := by rw [e]
    rw [List.getElem?_map, List.getElem?_map, List.getElem?_eq_getElem hi] at e2
    exact Option.some.inj e2)⟩
  keeps := fun _ _ _ ⟨K, hK, c⟩ k => ⟨K, PySem.W.Frag.In.keeps hK k, fun x hx => ⟨(c x hx).d, (c x hx).more, fun p hp => ⟨((c x hx).tabs p hp).1, ((c x hx).tabs p hp).2.1, k _ _ ((c x hx).tabs p hp).2.2⟩⟩⟩
def obL (as : List Addr) (cs : List Ch) (s : PySem.W.SharedT) : List (He.AlD × Bool) := cs.map (obsC as (HandSHeadRun.getT s))
theorem obL_eq (as : List Addr) (cs : List Ch) (s : PySem.W.SharedT) : obL as cs s = (hookL as cs).obs s.abs := by
  have e : HandSHeadRun.getT s = s.abs.heap.get? := funext (HandSHeadRun.getT_eq s)
  show cs.map (obsC as (HandSHeadRun.getT s)) = cs.map (obsC as s.abs.heap.get?)
  rw [e]
section
open PySem.W PySem.Calls HandSHeadRun
noncomputable abbrev topEnd (r : OpenRow) (M : Nat) (w : World) (os : OsState) : Option SharedT := endF (stepQ (denQ tabQ) r.prog w) M r.prog w os
def RunX (r : OpenRow) (q : Program) (M : Nat) (loose : List PySem.Str) (w : World) (as : List Addr) (cs : List Ch) : Prop := ∀ os : OsState, (topEnd r M w os).map (fun s => ((looksF r.prog (boot_heap w.params) s.abs, seenQ q loose (importedModules r.prog.main.body) (fun s => xlAt q [] s && recOk r.toRowW.records s) s.abs), cs.map (obsC as (getT s)))) = some ((true, openGood q loose), cs.map valC)
theorem run_one {r : OpenRow} {q : Program} {M : Nat} {loose : List PySem.Str} {w : World} {as : List Addr} {cs : List Ch} (a : RunX r q M loose w as cs) : RunEq r q (hookL as cs) (obL as cs) M loose w := by
  intro os
  have a1 := a os
  show (topEnd r M w os).map _ = _
  cases e : topEnd r M w os with
  | none =>
    rw [e] at a1
    cases a1
  | some s =>
    rw [e] at a1
    have a2 := Option.some.inj a1
    obtain ⟨a5, a6⟩ := Prod.mk.inj a2
    obtain ⟨a3, a4⟩ := Prod.mk.inj a5
    have b2 : obL as cs s = cs.map valC := a6
    dsimp only [Option.map_some]
    rw [a3, a4, b2]
    rfl
end
end Dn
namespace Dn
open PySem PySem.Spec PyProof.Rows L2
theorem log2_lt {n k : Nat} (hk : 0 < k) (h : n < 2 ^ k) : n.log2 < k := by
  by_cases z : n = 0
  · subst z; simpa using hk
  · exact (Nat.log2_lt z).mpr h
theorem mul_ok {i j : Int} {a b : Nat} (ha : i.natAbs < 2 ^ a) (hb : j.natAbs < 2 ^ b) (h : a + b ≤ 1000000) (h0 : 0 < a) (h1 : 0 < b) : i.natAbs.log2 + j.natAbs.log2 < 1000000 := by
  have := log2_lt h0 ha
  have := log2_lt h1 hb
  omega
theorem e_wh {c : En → ER} {b : En → SR} {n : Nat} {e : DE} {st st1 : Sto} {m : Md} {x : Bool} (h : c ⟨e, st⟩ = .val m (.bl x) st1) : whN c b (n + 1) ⟨e, st⟩ = if x = true then (match b ⟨e, st1⟩ with
      | .nx e' => whN c b n e'
      | .ct e' => whN c b n e'
      | .bk e' => some (.nx e')
      | r => some r) else some (.nx ⟨e, st1⟩) := by
  rw [whN]
  rw [h]
  cases x <;> rfl
def InR : List Int → List Int → Prop
  | [], [] => True
  | a :: l, b :: s => (0 ≤ a ∧ a < b) ∧ InR l s
  | _, _ => False
theorem InR.cons {l s : List Int} {b : Int} (h : InR l (b :: s)) : ∃ a l', l = a :: l' ∧ 0 ≤ a ∧ a < b ∧ InR l' s := by
  cases l with
  | nil => exact h.elim
  | cons a l => exact ⟨a, l, rfl, h.1.1, h.1.2, h.2⟩
theorem InR.nil {l : List Int} (h : InR l []) : l = [] := by
  cases l with
  | nil => rfl
  | cons a l => exact h.elim
theorem InR.len : ∀ {l s : List Int}, InR l s → l.length = s.length
  | [], [], _ => rfl
  | a :: l, b :: s, h => congrArg Nat.succ (InR.len h.2)
  | [], _ :: _, h => h.elim
  | _ :: _, [], h => h.elim
end Dn
namespace Dn
open PySem PySem.Spec PyProof.Rows L2
def dF (q : Rat) : D := .tup [.int q.num, .int q.den]
theorem bit_mul {x y : Int} {m n : Nat} (h1 : x.natAbs < 2 ^ m) (h2 : y.natAbs < 2 ^ n) : (x * y).natAbs < 2 ^ (m + n) := by
  rw [Int.natAbs_mul, Nat.pow_add]
  exact Nat.mul_lt_mul_of_lt_of_lt h1 h2
theorem bit_up {x : Int} {m n : Nat} (h1 : x.natAbs < 2 ^ m) (h : m ≤ n) : x.natAbs < 2 ^ n := Nat.lt_of_lt_of_le h1 (Nat.pow_le_pow_right (by decide) h)
theorem bit_sub {x y : Int} {m n : Nat} (h1 : x.natAbs < 2 ^ m) (h2 : y.natAbs < 2 ^ n) : (x - y).natAbs < 2 ^ (max m n + 1) := by
  have a := bit_up h1 (Nat.le_max_left m n)
  have b := bit_up h2 (Nat.le_max_right m n)
  rw [Nat.pow_succ]; omega
def Sz (n : Nat) (q : Rat) : Prop := q.num.natAbs < 2 ^ n ∧ q.den < 2 ^ n
theorem Sz.up {m n : Nat} {q : Rat} (h : Sz m q) (k : m ≤ n) : Sz n q := ⟨bit_up h.1 k, Nat.lt_of_lt_of_le h.2 (Nat.pow_le_pow_right (by decide) k)⟩
theorem Sz.den {n : Nat} {q : Rat} (h : Sz n q) : (q.den : Int).natAbs < 2 ^ n := by simpa using h.2
theorem Sz.mk {n : Nat} {t b : Int} (h1 : t.natAbs < 2 ^ n) (h2 : b.natAbs < 2 ^ n) (hb : b ≠ 0) : Sz n (Rat.divInt t b) := by
  refine ⟨?_, ?_⟩
  · rw [Rat.num_divInt]
    refine Nat.lt_of_le_of_lt ?_ h1
    have : (b.sign * t / ((b.gcd t : Nat) : Int)).natAbs ≤ (b.sign * t).natAbs := Int.natAbs_ediv_le_natAbs _ _
    refine Nat.le_trans this ?_
    rw [Int.natAbs_mul]
    have : b.sign.natAbs ≤ 1 := by
      rcases Int.lt_trichotomy b 0 with z | z | z
      · rw [Int.sign_eq_neg_one_of_neg z]; decide
      · exact absurd z hb
      · rw [Int.sign_eq_one_of_pos z]; decide
    calc b.sign.natAbs * t.natAbs ≤ 1 * t.natAbs := Nat.mul_le_mul_right _ this
      _ = t.natAbs := Nat.one_mul _
  · rw [Rat.den_divInt, if_neg hb]
    exact Nat.lt_of_le_of_lt (Nat.div_le_self _ _) h2
theorem den_pos (q : Rat) : 0 < (q.den : Int) := by have := q.den_nz; omega
theorem q_eq (q : Rat) : q = Rat.divInt q.num q.den := (Rat.num_divInt_den q).symm
theorem q_sub (a b : Rat) : a - b = Rat.divInt (a.num * b.den - b.num * a.den) (a.den * b.den) := by
  conv => lhs; rw [q_eq a, q_eq b]
  rw [Rat.divInt_sub_divInt _ _ (by have := den_pos a; omega) (by have := den_pos b; omega)]
theorem q_mul (a b : Rat) : a * b = Rat.divInt (a.num * b.num) (a.den * b.den) := by
  conv => lhs; rw [q_eq a, q_eq b]
  rw [Rat.divInt_mul_divInt]
theorem den2 (a b : Rat) : (a.den : Int) * b.den ≠ 0 := Int.mul_ne_zero (by have := den_pos a; omega) (by have := den_pos b; omega)
theorem Sz.sub {m n : Nat} {a b : Rat} (h : Sz m a) (k : Sz n b) : Sz (m + n + 1) (a - b) := by
  rw [q_sub]
  have x := bit_mul h.1 k.den
  have y := bit_mul k.1 h.den
  rw [Nat.add_comm n m] at y
  have z := bit_sub x y
  rw [Nat.max_self] at z
  exact Sz.mk z (bit_up (bit_mul h.den k.den) (by omega)) (den2 a b)
theorem Sz.mul {m n : Nat} {a b : Rat} (h : Sz m a) (k : Sz n b) : Sz (m + n) (a * b) := by
  rw [q_mul]
  exact Sz.mk (bit_mul h.1 k.1) (bit_mul h.den k.den) (den2 a b)
theorem Sz.neg {m : Nat} {a : Rat} (h : Sz m a) : Sz m (-a) := ⟨by simpa using h.1, by simpa using h.2⟩
theorem two_pow_gt (n : Nat) : 1 < 2 ^ (n + 1) := by have := Nat.one_le_two_pow (n := n); rw [Nat.pow_succ]; omega
theorem Sz.int {m : Nat} {a : Int} (h : a.natAbs < 2 ^ m) : Sz (m + 1) (a : Rat) := ⟨bit_up (m := m) (by simpa using h) (by omega), by simpa using two_pow_gt m⟩
@[simp] theorem dF_0 : D.tup [.int 0, .int 1] = dF 0 := rfl
@[simp] theorem dF_1 : D.tup [.int 1, .int 1] = dF 1 := rfl
@[simp] theorem ix0_dF {q : Rat} {st : Sto} : oIx (dF q) (.int 0) st = .val .P (.int q.num) st := by simp [dF, atI, ixN]
@[simp] theorem ix1_dF {q : Rat} {st : Sto} : oIx (dF q) (.int 1) st = .val .P (.int q.den) st := by simp [dF, atI, ixN]
@[simp] theorem len_dF {q : Rat} {st : Sto} : oLen [dF q] st = .val .P (.int 2) st := rfl
@[simp] theorem items_dF {q : Rat} : itemsOf (dF q) = some [.int q.num, .int q.den] := rfl
@[simp] theorem tup_dF {q : Rat} {st : Sto} : isT "tuple" (dF q) st = .val .P (.bl true) st := by simp [dF]
theorem dF_inj {a b : Rat} : dF a = dF b ↔ a = b := by
  constructor
  · intro h
    unfold dF at h
    injection h with h
    injection h with h1 h2
    injection h2 with h2 h3
    injection h1 with h1
    injection h2 with h2
    exact Rat.ext h1 (by omega)
  · rintro rfl; rfl
theorem q_eq_iff (a b : Rat) : a = b ↔ a.num = b.num ∧ a.den = b.den := ⟨fun h => by subst h; exact ⟨rfl, rfl⟩, fun h => Rat.ext h.1 h.2⟩
@[simp] theorem eq_dF {a b : Rat} {st : Sto} : oEq (dF a) (dF b) st = .val .P (.bl (decide (a = b))) st := by
  have : decide (a = b) = decide (a.num = b.num ∧ (a.den : Int) = b.den) := by
    rw [decide_eq_decide, q_eq_iff]
    omega
  rw [this]
  simp [dF]
@[simp] theorem ne_dF {a b : Rat} {st : Sto} : oNe (dF a) (dF b) st = .val .P (.bl (!decide (a = b))) st := by
  have : decide (a = b) = decide (a.num = b.num ∧ (a.den : Int) = b.den) := by
    rw [decide_eq_decide, q_eq_iff]
    omega
  rw [this]
  simp [dF]
end Dn
namespace Dn
open PySem PySem.Spec PyProof.Rows L2
theorem lc_map {α : Type} {k : D → Sto → Option (Option D × Sto)} {enc f : α → D} {st : Sto} : ∀ {l : List α}, (∀ a ∈ l, k (enc a) st = some (some (f a), st)) → lcGo k (l.map enc) st = some (l.map f, st)
  | [], _ => rfl
  | a :: l, h => by
    rw [List.map_cons, e_lcC, h a (List.mem_cons_self ..), Option.bind_some, lc_map (fun a m => h a (List.mem_cons_of_mem _ m))]
    rfl
@[simp] theorem intsOf_map {α : Type} (f : α → Int) : ∀ l : List α, intsOf (l.map fun a => .int (f a)) = some (l.map f)
  | [] => rfl
  | a :: l => by simp [intsOf, intsOf_map f l]
mutual
def pur : D → Bool
  | .non | .int _ => true
  | .str x => PyData.strOk x
  | .tup l => purL l
  | .lst l => purL l
  | _ => false
def purL : List D → Bool
  | [] => true
  | d :: l => pur d && purL l
end
mutual
def dep : D → Nat
  | .tup l => depL l + 1
  | .lst l => depL l + 1
  | _ => 0
def depL : List D → Nat
  | [] => 0
  | d :: l => max (dep d) (depL l)
end
mutual
theorem pur_py : ∀ d, pur d = true → isPy d = true ∧ PyData.canLay0 (py d) = true ∧ PyData.depth (py d) = dep d
  | .non, _ => ⟨rfl, by simp [py, PyData.canLay0], by simp [py, PyData.depth, dep]⟩
  | .int _, _ => ⟨rfl, by simp [py, PyData.canLay0], by simp [py, PyData.depth, dep]⟩
  | .str _, h => ⟨rfl, by simpa [py, PyData.canLay0, pur] using h, by simp [py, PyData.depth, dep]⟩
  | .tup l, h => by
    obtain ⟨a, b, c⟩ := purL_py l (by simpa [pur] using h)
    exact ⟨by simpa [isPy] using a, by simpa [py, PyData.canLay0] using b, by simp [py, PyData.depth, dep, c]⟩
  | .lst l, h => by
    obtain ⟨a, b, c⟩ := purL_py l (by simpa [pur] using h)
    exact ⟨by simpa [isPy] using a, by simpa [py, PyData.canLay0] using b, by simp [py, PyData.depth, dep, c]⟩
  | .bl _, h => by simp [pur] at h
  | .obj _ _, h => by simp [pur] at h
  | .scr _, h => by simp [pur] at h
  | .ptr _, h => by simp [pur] at h
theorem purL_py : ∀ l, purL l = true → isPyL l = true ∧ PyData.canLayAll0 (pyL l) = true ∧ PyData.depthAll (pyL l) = depL l
  | [], _ => ⟨rfl, by simp [pyL, PyData.canLayAll0], by simp [pyL, PyData.depthAll, depL]⟩
  | d :: l, h => by
    have h' : pur d = true ∧ purL l = true := by simpa [purL] using h
    obtain ⟨a, b, c⟩ := pur_py d h'.1
    obtain ⟨a', b', c'⟩ := purL_py l h'.2
    exact ⟨by simp [isPyL, a, a'], by simp [pyL, PyData.canLayAll0, b, b'], by simp [pyL, PyData.depthAll, depL, c, c']⟩
end
mutual
theorem eqv_pur : ∀ a b, pur a = true → pur b = true → (PyData.eqv (py a) (py b) = true ↔ a = b)
  | .non, b, _, hb => by cases b <;> simp [py, PyData.eqv, pur] at hb ⊢
  | .int _, b, _, hb => by cases b <;> simp [py, PyData.eqv, pur] at hb ⊢
  | .str _, b, _, hb => by cases b <;> simp [py, PyData.eqv, pur] at hb ⊢
  | .tup l, b, ha, hb => by
    cases b <;> simp [py, PyData.eqv, pur] at ha hb ⊢
    exact eqvL_pur _ _ ha hb
  | .lst l, b, ha, hb => by
    cases b <;> simp [py, PyData.eqv, pur] at ha hb ⊢
    exact eqvL_pur _ _ ha hb
  | .bl _, _, h, _ => by simp [pur] at h
  | .obj _ _, _, h, _ => by simp [pur] at h
  | .scr _, _, h, _ => by simp [pur] at h
  | .ptr _, _, h, _ => by simp [pur] at h
theorem eqvL_pur : ∀ l m, purL l = true → purL m = true → (PyData.eqvAll (pyL l) (pyL m) = true ↔ l = m)
  | [], [], _, _ => by simp [pyL, PyData.eqvAll]
  | [], _ :: _, _, _ => by simp [pyL, PyData.eqvAll]
  | _ :: _, [], _, _ => by simp [pyL, PyData.eqvAll]
  | a :: l, b :: m, ha, hb => by
    have h1 : pur a = true ∧ purL l = true := by simpa [purL] using ha
    have h2 : pur b = true ∧ purL m = true := by simpa [purL] using hb
    simp only [pyL, PyData.eqvAll, Bool.and_eq_true, eqv_pur a b h1.1 h2.1, eqvL_pur l m h1.2 h2.2, List.cons.injEq]
end
theorem eq_of {a b : D} {p : Prop} [Decidable p] (st : Sto) (ha : pur a = true) (hb : pur b = true) (da : dep a ≤ 64) (db : dep b ≤ 64) (h : a = b ↔ p) : oEq a b st = .val .P (.bl (decide p)) st := by
  obtain ⟨a1, a2, a3⟩ := pur_py a ha
  obtain ⟨b1, b2, b3⟩ := pur_py b hb
  have e := (eqv_pur a b ha hb).trans h
  unfold oEq eqAny
  by_cases s : scalD a b = true
  · rw [if_pos s]
    have : eqF a b = decide p := by
      rw [Bool.eq_iff_iff, decide_eq_true_iff, ← h]
      cases a <;> cases b <;> simp [scalD, eqF] at s ⊢
    rw [this]
  · rw [if_neg s, if_pos ⟨a1, b1, by simp [SeqAt.shaped, a2, a3, da], by simp [SeqAt.shaped, b2, b3, db]⟩]
    have : PyData.eqv (py a) (py b) = decide p := by
      rw [Bool.eq_iff_iff, decide_eq_true_iff, ← e]
    rw [this]
theorem purL_map {α : Type} {enc : α → D} (h : ∀ a, pur (enc a) = true) : ∀ l : List α, purL (l.map enc) = true
  | [] => rfl
  | a :: l => by simp [purL, h a, purL_map h l]
theorem depL_map {α : Type} {enc : α → D} {n : Nat} (h : ∀ a, dep (enc a) ≤ n) : ∀ l : List α, depL (l.map enc) ≤ n
  | [] => by simp [depL]
  | a :: l => by have := depL_map h l; have := h a; simp only [List.map_cons, depL]; omega
theorem map_inj {α : Type} {enc : α → D} (h : ∀ a b, enc a = enc b → a = b) : ∀ l m : List α, l.map enc = m.map enc ↔ l = m
  | [], [] => by simp
  | [], _ :: _ => by simp
  | _ :: _, [] => by simp
  | a :: l, b :: m => by
    simp only [List.map_cons, List.cons.injEq, map_inj h l m]
    exact ⟨fun x => ⟨h a b x.1, x.2⟩, fun x => ⟨by rw [x.1], x.2⟩⟩
theorem eq_lst {α : Type} [DecidableEq α] {enc : α → D} (hp : ∀ a, pur (enc a) = true) (hd : ∀ a, dep (enc a) ≤ 60) (hi : ∀ a b, enc a = enc b → a = b) (l m : List α) (st : Sto) : oEq (.lst (l.map enc)) (.lst (m.map enc)) st = .val .P (.bl (decide (l = m))) st := by
  refine eq_of st (by simp [pur, purL_map hp]) (by simp [pur, purL_map hp]) ?_ ?_ ?_
  · have := depL_map hd l; simp only [dep]; omega
  · have := depL_map hd m; simp only [dep]; omega
  · simp [map_inj hi]
@[simp high] theorem pow10_6 {st : Sto} : oPow (.int 10) (.int 6) st = .val .P (.int 1000000) st := rfl
@[simp high] theorem pow10_8 {st : Sto} : oPow (.int 10) (.int 8) st = .val .P (.int 100000000) st := rfl
@[simp high] theorem pow10_9 {st : Sto} : oPow (.int 10) (.int 9) st = .val .P (.int 1000000000) st := rfl
@[simp high] theorem pow10_12 {st : Sto} : oPow (.int 10) (.int 12) st = .val .P (.int 1000000000000) st := rfl
@[simp high] theorem pow10_18 {st : Sto} : oPow (.int 10) (.int 18) st = .val .P (.int 1000000000000000000) st := rfl
@[simp high] theorem pow10_19 {st : Sto} : oPow (.int 10) (.int 19) st = .val .P (.int 10000000000000000000) st := rfl
@[simp high] theorem pow10_20 {st : Sto} : oPow (.int 10) (.int 20) st = .val .P (.int 100000000000000000000) st := rfl
@[simp high] theorem pow10_26 {st : Sto} : oPow (.int 10) (.int 26) st = .val .P (.int 100000000000000000000000000) st := rfl
@[simp high] theorem pow10_30 {st : Sto} : oPow (.int 10) (.int 30) st = .val .P (.int 1000000000000000000000000000000) st := rfl
@[simp high] theorem pow10_36 {st : Sto} : oPow (.int 10) (.int 36) st = .val .P (.int 1000000000000000000000000000000000000) st := rfl
@[simp high] theorem pow10_39 {st : Sto} : oPow (.int 10) (.int 39) st = .val .P (.int 1000000000000000000000000000000000000000) st := rfl
@[simp high] theorem pow10_40 {st : Sto} : oPow (.int 10) (.int 40) st = .val .P (.int 10000000000000000000000000000000000000000) st := rfl
@[simp high] theorem pow10_45 {st : Sto} : oPow (.int 10) (.int 45) st = .val .P (.int 1000000000000000000000000000000000000000000000) st := rfl
@[simp high] theorem pow10_60 {st : Sto} : oPow (.int 10) (.int 60) st = .val .P (.int 1000000000000000000000000000000000000000000000000000000000000) st := rfl
@[simp high] theorem pow10_180 {st : Sto} : oPow (.int 10) (.int 180) st = .val .P (.int 1000000000000000000000000000000000000000000000000000000000000000000000000000000000000000000000000000000000000000000000000000000000000000000000000000000000000000000000000000000000000) st := rfl
def dRow (r : Int × Int) : D := .tup [.int r.1, .int r.2]
@[simp] theorem tg_row {e : DE} {i j : Nat} {r : Int × Int} : tgT 2 (tgsCons (tgN i) (tgsCons (tgN j) tgsNil)) (dRow r) e = some ((e.set i (.val (.int r.1))).set j (.val (.int r.2))) := by simp [dRow]
@[simp] theorem ix0_row {r : Int × Int} {st : Sto} : oIx (dRow r) (.int 0) st = .val .P (.int r.1) st := by simp [dRow, atI, ixN]
@[simp] theorem ix1_row {r : Int × Int} {st : Sto} : oIx (dRow r) (.int 1) st = .val .P (.int r.2) st := by simp [dRow, atI, ixN]
theorem dRow_inj (a b : Int × Int) (h : dRow a = dRow b) : a = b := by
  unfold dRow at h
  injection h with h
  injection h with h1 h2
  injection h2 with h2 h3
  injection h1 with h1
  injection h2 with h2
  exact Prod.ext h1 h2
@[simp] theorem eq_rows {l m : List (Int × Int)} {st : Sto} : oEq (.lst (l.map dRow)) (.lst (m.map dRow)) st = .val .P (.bl (decide (l = m))) st :=
  eq_lst (fun a => by simp [dRow, pur, purL]) (fun a => by simp [dRow, dep, depL]) dRow_inj l m st
@[simp] theorem ne_rows {l m : List (Int × Int)} {st : Sto} : oNe (.lst (l.map dRow)) (.lst (m.map dRow)) st = .val .P (.bl (!decide (l = m))) st := ne_of_eq eq_rows
theorem pur_dF (q : Rat) : pur (dF q) = true := by simp [dF, pur, purL]
theorem dep_dF (q : Rat) : dep (dF q) ≤ 1 := by simp [dF, dep, depL]
@[simp] theorem eq_Fs {l m : List Rat} {st : Sto} : oEq (.lst (l.map dF)) (.lst (m.map dF)) st = .val .P (.bl (decide (l = m))) st :=
  eq_lst pur_dF (fun a => by have := dep_dF a; omega) (fun a b => dF_inj.mp) l m st
@[simp] theorem ne_Fs {l m : List Rat} {st : Sto} : oNe (.lst (l.map dF)) (.lst (m.map dF)) st = .val .P (.bl (!decide (l = m))) st := ne_of_eq eq_Fs
end Dn
namespace Dn
open PySem PySem.Spec PyProof.Rows L2
def RowOk (r : Int × Int) : Prop := 1 ≤ r.1 ∧ r.1 ≤ 999 ∧ 0 ≤ r.2 ∧ r.2 ≤ 999999999
def RowsOk (m : Nat) (rows : List (Int × Int)) : Prop := 1 ≤ rows.length ∧ rows.length ≤ m ∧ (∀ r ∈ rows, RowOk r) ∧ (rows.map (·.2)).sum ≠ 0
theorem RowsOk.up {m n : Nat} {rows : List (Int × Int)} (h : RowsOk m rows) (k : m ≤ n) : RowsOk n rows := ⟨h.1, by have := h.2.1; omega, h.2.2⟩
def pre (rows : List (Int × Int)) (i : Nat) : Int := ((rows.take i).map (·.1)).sum
def wid (rows : List (Int × Int)) : Int := (rows.map (·.1)).sum
section
variable {rows : List (Int × Int)} (hr : RowsOk 8 rows)
include hr
end
def bq (rows : List (Int × Int)) (i : Nat) : Rat := Rat.divInt (pre rows i) (wid rows)
section
variable {rows : List (Int × Int)} (hr : RowsOk 8 rows)
include hr
end
def lo (x : Rat) (rows : List (Int × Int)) (i : Nat) : Rat := if x < bq rows i then bq rows i else x
def hi (y : Rat) (rows : List (Int × Int)) (i : Nat) : Rat := if bq rows (i + 1) < y then bq rows (i + 1) else y
def vq (rows : List (Int × Int)) (i : Nat) : Rat := (((rows[i]?.map (·.2)).getD 0 : Int) : Rat)
def wseg (x y : Rat) (rows : List (Int × Int)) (i : Nat) : Rat := vq rows i * ((hi y rows i - lo x rows i) / (bq rows (i + 1) - bq rows i))
def sumR (f : Nat → Rat) : Nat → Rat
  | 0 => 0
  | k + 1 => sumR f k + f k
def wpart (x y : Rat) (rows : List (Int × Int)) (i : Nat) : Rat := if lo x rows i < hi y rows i then wseg x y rows i else 0
def wq (x y : Rat) (rows : List (Int × Int)) : Rat := sumR (wpart x y rows) rows.length
section
variable {rows : List (Int × Int)} (hr : RowsOk 8 rows) {x y : Rat} {s : Nat} (hs : 13 ≤ s)
include hr hs
end
end Dn
namespace Dn
open PySem PySem.Spec PyProof.Rows L2
section
variable {rows : List (Int × Int)} (hr : RowsOk 8 rows)
include hr
end
end Dn
namespace Dn
open PySem PySem.Spec PyProof.Rows L2
end Dn
namespace Dn
open PySem PySem.Spec PyProof.Rows L2
def Ris (l : List Rat) : Prop := l.Pairwise (· < ·)
def ahead (q : Rat) : List Rat → Nat
  | [] => 0
  | a :: l => if a < q then ahead q l + 1 else 0
def ins (q : Rat) (l : List Rat) : List Rat := if q ∈ l then l else l.take (ahead q l) ++ q :: l.drop (ahead q l)
end Dn
namespace Dn
open PySem PySem.Spec PyProof.Rows L2
def dPair (p : Rat × Rat) : D := .tup [dF p.1, dF p.2]
@[simp] theorem tg_pair {e : DE} {i j : Nat} {r : Rat × Rat} : tgT 2 (tgsCons (tgN i) (tgsCons (tgN j) tgsNil)) (dPair r) e = some ((e.set i (.val (dF r.1))).set j (.val (dF r.2))) := by simp [dPair]
end Dn
namespace Dn
open PySem PySem.Spec PyProof.Rows L2
def cw (rows : List (Int × Int)) (z : Rat) : Rat := wq 0 z rows
section
variable {rows : List (Int × Int)} (hr : RowsOk 8 rows)
include hr
end
end Dn
namespace Dn
open PySem PySem.Spec PyProof.Rows L2
def cnt (E : List Rat) (z : Rat) : Nat := (E.filter fun e => decide (z < e)).length
structure Ends (E : List Rat) (r : List (Int × Int)) : Prop where
  i : ∀ j, j ≤ r.length → bq r j ∈ E
  z : ∀ e ∈ E, 0 ≤ e ∧ e ≤ 1 ∧ Sz 13 e
structure HalfAt (r : List (Int × Int)) (H h0 : Rat) : Prop where
  a : 0 ≤ h0
  b : h0 ≤ 1
  c : cw r h0 = H
  l : ∀ y, 0 ≤ y → y < h0 → cw r y < H
  t : cw r 1 = 2 * H
  p : 0 < H
  s : Sz 40 H
structure Kn (r : List (Int × Int)) (H h0 low high : Rat) : Prop where
  a : 0 ≤ low
  ah : low ≤ h0
  lh : low ≤ high
  b : high ≤ 1
  w : cw r high - cw r low = H
  sl : Sz 280 low
  sh : Sz 280 high
structure Mv (E : List Rat) (r : List (Int × Int)) (H h0 low high low' high' : Rat) : Prop where
  k : Kn r H h0 low' high'
  l : low ≤ low'
  h : high ≤ high'
  nl : ∀ e ∈ E, e ≤ low ∨ low' ≤ e
  nh : ∀ e ∈ E, e ≤ high ∨ high' ≤ e
  c : cnt E low' + cnt E high' < cnt E low + cnt E high
structure Nxt (E : List Rat) (z e : Rat) : Prop where
  m : e ∈ E
  l : z < e
  n : ∀ x ∈ E, x ≤ z ∨ e ≤ x
section
variable {E : List Rat} {r : List (Int × Int)} {H h0 low high after behind : Rat} (hr : RowsOk 8 r) (hE : Ends E r) (hH : HalfAt r H h0) (K : Kn r H h0 low high) (A : Nxt E high after)
include hr hE hH K A
variable (B : Nxt E low behind)
include B
end
end Dn
namespace Dn
open PySem PySem.Spec PyProof.Rows L2
def adj (P : List Rat) : List (Rat × Rat) := P.zip P.tail
theorem adj_cons (a b : Rat) (P : List Rat) : adj (a :: b :: P) = (a, b) :: adj (b :: P) := rfl
theorem adj_in : ∀ {P : List Rat}, Ris P → ∀ ab ∈ adj P, ab.1 ∈ P ∧ ab.2 ∈ P ∧ ab.1 < ab.2 ∧ ∀ u ∈ P, u ≤ ab.1 ∨ ab.2 ≤ u
  | [], _, ab, h => by simp [adj] at h
  | [a], _, ab, h => by simp [adj] at h
  | a :: b :: P, h, ab, m => by
    rw [adj_cons] at m
    unfold Ris at h
    have hh := List.pairwise_cons.mp h
    have hab := hh.1 b (List.mem_cons_self ..)
    rcases List.mem_cons.mp m with rfl | m
    · refine ⟨List.mem_cons_self .., by simp, hab, fun u hu => ?_⟩
      rcases List.mem_cons.mp hu with rfl | hu
      · exact .inl Rat.le_refl
      · rcases List.mem_cons.mp hu with rfl | hu
        · exact .inr Rat.le_refl
        · have := (List.pairwise_cons.mp hh.2).1 u hu
          exact .inr (Rat.le_of_lt this)
    · obtain ⟨h1, h2, h3, h4⟩ := adj_in (P := b :: P) hh.2 ab m
      refine ⟨List.mem_cons_of_mem _ h1, List.mem_cons_of_mem _ h2, h3, fun u hu => ?_⟩
      rcases List.mem_cons.mp hu with rfl | hu
      · have := hh.1 ab.1 h1
        exact .inl (Rat.le_of_lt this)
      · exact h4 u hu
def swStep (p : Rat → Rat → Bool) (F : List (Rat × Rat)) (ab : Rat × Rat) : List (Rat × Rat) :=
  if p ab.1 ab.2 = true then (match F.getLast? with | some l => if l.2 = ab.1 then F.dropLast ++ [(l.1, ab.2)] else F ++ [ab] | none => F ++ [ab]) else F
def sw (p : Rat → Rat → Bool) (P : List Rat) : List (Rat × Rat) := (adj P).foldl (swStep p) []
section
variable {f : Int → Rat} (hf : ∀ a b, a < b ↔ f a < f b)
abbrev f2 (f : Int → Rat) (s : Int × Int) : Rat × Rat := (f s.1, f s.2)
include hf
end
structure Lp (lp : (D → En → SR) → List D → En → SR) (st : Sto) : Prop where
  nil : ∀ b e, lp b [] ⟨e, st⟩ = .nx ⟨e, st⟩
  cons : ∀ b x xs e, lp b (x :: xs) ⟨e, st⟩ = match b x ⟨e, st⟩ with
    | .nx E' => lp b xs E'
    | .ct E' => lp b xs E'
    | .bk E' => .nx E'
    | r => r
end Dn
namespace Dn
open PySem PySem.Spec PyProof.Rows L2 TL
theorem empty_app (x : Str) : Str.empty ++ x = x := ext_tl (by rw [tl_append]; rfl)
theorem pur_dPair (p : Rat × Rat) : pur (dPair p) = true := by simp [dPair, dF, pur, purL]
theorem dep_dPair (p : Rat × Rat) : dep (dPair p) ≤ 2 := by simp [dPair, dF, dep, depL]
theorem dPair_inj (a b : Rat × Rat) (h : dPair a = dPair b) : a = b := by
  simp only [dPair, D.tup.injEq, List.cons.injEq, and_true] at h
  exact Prod.ext (dF_inj.mp h.1) (dF_inj.mp h.2)
@[simp] theorem eq_pairs {l m : List (Rat × Rat)} {st : Sto} : oEq (.lst (l.map dPair)) (.lst (m.map dPair)) st = .val .P (.bl (decide (l = m))) st :=
  eq_lst pur_dPair (fun p => Nat.le_trans (dep_dPair p) (by decide)) dPair_inj l m st
@[simp] theorem ne_pairs {l m : List (Rat × Rat)} {st : Sto} : oNe (.lst (l.map dPair)) (.lst (m.map dPair)) st = .val .P (.bl (!decide (l = m))) st := ne_of_eq eq_pairs
theorem eq_self {d : D} (hp : pur d = true) (hd : dep d ≤ 64) (st : Sto) : oEq d d st = .val .P (.bl true) st := by
  have := eq_of st hp hp hd hd (p := True) (by simp)
  simpa using this
end Dn
namespace Dn
theorem map_eraseIdx {α β : Type} (f : α → β) : ∀ (l : List α) (k : Nat), (l.map f).eraseIdx k = (l.eraseIdx k).map f
  | [], k => by simp
  | a :: l, 0 => by simp
  | a :: l, k + 1 => by simp [map_eraseIdx f l k]
end Dn
namespace Dn
open PySem PySem.Spec PyProof.Rows L2
def Ov (D : Int) (q : Rat) : Prop := ∃ n : Int, q * (D : Rat) = (n : Rat)
theorem Ov.zero (D : Int) : Ov D 0 := ⟨0, by simp⟩
theorem Ov.one (D : Int) : Ov D 1 := ⟨D, by simp [Rat.one_mul]⟩
theorem Ov.sub {D : Int} {a b : Rat} (h : Ov D a) (k : Ov D b) : Ov D (a - b) := by
  obtain ⟨m, h⟩ := h
  obtain ⟨n, k⟩ := k
  exact ⟨m - n, by rw [Rat.intCast_sub, ← h, ← k]; grind⟩
theorem Ov.mul {D E : Int} {a : Rat} (h : Ov D a) : Ov (D * E) a := by
  obtain ⟨m, h⟩ := h
  exact ⟨m * E, by rw [Rat.intCast_mul, Rat.intCast_mul, ← h]; grind⟩
theorem Ov.int {D : Int} {a : Rat} (n : Int) (h : Ov D a) : Ov D ((n : Rat) * a) := by
  obtain ⟨m, h⟩ := h
  exact ⟨n * m, by rw [Rat.intCast_mul, ← h]; grind⟩
theorem Ov.sz {D : Int} {q : Rat} {a b : Nat} (h : Ov D q) (hD : 0 < D) (h2 : D.natAbs < 2 ^ a) (q0 : 0 ≤ q) (q1 : q ≤ ((2 ^ b : Int) : Rat)) : Sz (a + b) q := by
  obtain ⟨n, h⟩ := h
  have hd := (Rat.intCast_pos (a := D)).mpr hD
  have e : q = Rat.divInt n D := by
    rw [Rat.divInt_eq_div, ← h, Rat.div_def, Rat.mul_assoc, Rat.mul_inv_cancel _ (by grind), Rat.mul_one]
  rw [e]
  have n0 : 0 ≤ n := by
    have : (0 : Rat) ≤ (n : Rat) := by rw [← h]; exact Rat.mul_nonneg q0 (Rat.le_of_lt hd)
    exact Rat.intCast_nonneg.mp this
  have n1 : n ≤ 2 ^ b * D := by
    have : (n : Rat) ≤ ((2 ^ b * D : Int) : Rat) := by
      rw [← h, Rat.intCast_mul]
      exact Rat.mul_le_mul_of_nonneg_right q1 (Rat.le_of_lt hd)
    exact Rat.intCast_le_intCast.mp this
  have n2 : n.natAbs < 2 ^ (a + b) := by
    have h3 : n.natAbs ≤ 2 ^ b * D.natAbs := by
      have : (n.natAbs : Int) ≤ ((2 ^ b * D.natAbs : Nat) : Int) := by
        rw [Int.natAbs_of_nonneg n0, Int.natCast_mul, Int.natAbs_of_nonneg (by omega)]
        simpa using n1
      exact Int.ofNat_le.mp this
    have h4 : 2 ^ b * D.natAbs < 2 ^ b * 2 ^ a := Nat.mul_lt_mul_of_pos_left h2 (Nat.two_pow_pos b)
    rw [Nat.pow_add, Nat.mul_comm (2 ^ a)]
    omega
  exact Sz.mk n2 (Nat.lt_of_lt_of_le h2 (Nat.pow_le_pow_right (by decide) (by omega))) (by omega)
def Gd (g : Int) (p : Rat × Rat) : Prop := Ov g p.1 ∧ Ov g p.2 ∧ 0 ≤ p.1 ∧ p.1 ≤ p.2 ∧ p.2 ≤ 1
theorem Gd.sz {g : Int} {p : Rat × Rat} {a : Nat} (h : Gd g p) (hg : 0 < g) (h2 : g.natAbs < 2 ^ a) : Sz a p.1 ∧ Sz a p.2 := by
  obtain ⟨h1, h3, h4, h5, h6⟩ := h
  exact ⟨h1.sz (b := 0) hg h2 h4 (by simp; grind), h3.sz (b := 0) hg h2 (by grind) (by simpa using h6)⟩
end Dn
namespace Dn
open PySem PySem.Spec PyProof.Rows L2
def Add (μ : Rat → Rat → Rat) : Prop := ∀ x z y, x ≤ z → z ≤ y → μ x z + μ z y = μ x y
def smr (μ : Rat → Rat → Rat) (f : Rat → Rat → Bool) (A : List (Rat × Rat)) : Rat := A.foldr (fun p a => (if f p.1 p.2 = true then μ p.1 p.2 else 0) + a) 0
theorem smr_cons (μ : Rat → Rat → Rat) (f : Rat → Rat → Bool) (p : Rat × Rat) (A : List (Rat × Rat)) : smr μ f (p :: A) = (if f p.1 p.2 = true then μ p.1 p.2 else 0) + smr μ f A := rfl
theorem Add.nil {μ : Rat → Rat → Rat} (h : Add μ) (x : Rat) : μ x x = 0 := by
  have := h x x x Rat.le_refl Rat.le_refl
  grind
theorem smr_none {μ : Rat → Rat → Rat} {f : Rat → Rat → Bool} : ∀ {A : List (Rat × Rat)}, (∀ p ∈ A, f p.1 p.2 = false) → smr μ f A = 0
  | [], _ => rfl
  | p :: A, h => by
    rw [smr_cons, h p (List.mem_cons_self ..), smr_none fun q m => h q (List.mem_cons_of_mem _ m)]
    simp [Rat.add_zero]
def hold (u v a b : Rat) : Bool := !decide (a < u) && !decide (v < b)
theorem ris_cons {a : Rat} {P : List Rat} (h : Ris (a :: P)) : Ris P ∧ ∀ b ∈ P, a < b := by
  unfold Ris at *
  exact ⟨(List.pairwise_cons.mp h).2, (List.pairwise_cons.mp h).1⟩
theorem one1 {μ : Rat → Rat → Rat} (hA : Add μ) {u v : Rat} : ∀ (P : List Rat) (a : Rat), Ris (a :: P) → u ≤ a → v ∈ a :: P → smr μ (hold u v) (adj (a :: P)) = μ a v
  | [], a, _, _, hv => by
    rw [List.mem_singleton.mp hv, hA.nil]; rfl
  | b :: P, a, hR, hu, hv => by
    obtain ⟨hR1, hlt⟩ := ris_cons hR
    have hab := hlt b (List.mem_cons_self ..)
    rw [adj_cons, smr_cons]
    by_cases c : v = a
    · subst c
      rw [hA.nil, smr_none]
      · have : hold u v v b = false := by simp [hold, hab]
        rw [this]; simp [Rat.add_zero]
      · intro p m
        obtain ⟨m1, m2, m3, m4⟩ := adj_in hR1 p m
        have h1 := hlt _ m2
        simp [hold, h1]
    · have hv' : v ∈ b :: P := (List.mem_cons.mp hv).resolve_left c
      have hbv : b ≤ v := by
        rcases List.mem_cons.mp hv' with e | e
        · rw [e]; exact Rat.le_refl
        · exact Rat.le_of_lt ((ris_cons hR1).2 v e)
      have ih := one1 hA P b hR1 (show u ≤ b by grind) hv'
      have hh : hold u v a b = true := by
        unfold hold
        rw [decide_eq_false (by grind), decide_eq_false (by grind)]; rfl
      rw [ih, hh]
      simp only [if_true]
      exact hA a b v (Rat.le_of_lt hab) hbv
end Dn
namespace Dn
open PySem PySem.Spec PyProof.Rows L2
abbrev S (l : List Nat) : Str := ⟨l.toArray⟩
@[simp] theorem tl_S (l : List Nat) : TL.tl (S l) = l := by simp [TL.tl]
@[simp] theorem S_cps (l : List Nat) : (S l).cps.toList = l := by simp
@[simp] theorem S_len (l : List Nat) : (S l).length = l.length := by simp [Str.length]
theorem S_app (a b : List Nat) : S a ++ S b = S (a ++ b) := TL.ext_tl (by rw [TL.tl_append, tl_S, tl_S, tl_S])
section
open Builtin Builtin.Str StrLaws
theorem occ_count (x : Str) (c : Nat) (lim : Nat) : ∀ (l : List Nat) (a : Array Nat) (free : Nat), (∀ i ∈ l, free ≤ i) → l.Pairwise (· < ·) → a.size + l.length ≤ lim →
    (forIn l (a, free) (occBody x ⟨#[c]⟩ x.length lim)).run.fst.size = a.size + l.countP (fun i => x.cps.toList[i]? == some c)
  | [], a, free, _, _, _ => by simp
  | i :: l, a, free, hf, hs, hl => by
    rw [List.forIn_cons]
    unfold occBody
    have hi : free ≤ i := hf i (List.mem_cons_self ..)
    have hs' := List.pairwise_cons.mp hs
    have hll : a.size + (l.length + 1) ≤ lim := by simpa using hl
    have ss := subAt_one x c i
    by_cases hc : x.cps.toList[i]? = some c
    · have h1 := ss.mpr hc
      rw [if_pos ⟨⟨⟨by show a.size < lim; omega, hi⟩, h1.1⟩, h1.2⟩]
      have ih := occ_count x c lim l (a.push i) (i + 1) (fun j hj => hs'.1 j hj) hs'.2 (by rw [Array.size_push]; omega)
      have e : (⟨#[c]⟩ : Str).length = 1 := rfl
      rw [List.countP_cons_of_pos (by simp [hc])]
      show (forIn l (a.push i, i + (⟨#[c]⟩ : Str).length) (occBody x ⟨#[c]⟩ x.length lim)).run.fst.size = _
      rw [e, ih, Array.size_push]; omega
    · rw [if_neg (fun h => hc (ss.mp ⟨h.1.2, h.2⟩))]
      have ih := occ_count x c lim l a free (fun j hj => hf j (List.mem_cons_of_mem _ hj)) hs'.2 (by omega)
      rw [List.countP_cons_of_neg (by rw [beq_iff_eq]; exact hc)]
      exact ih
theorem range_count (c : Nat) : ∀ (l : List Nat) (k : Nat), (List.range' k (l.length + 1)).countP (fun i => l[i - k]? == some c) = l.count c
  | [], k => by simp
  | a :: l, k => by
    rw [List.length_cons, List.range'_succ]
    have e : (List.range' (k + 1) (l.length + 1)).countP (fun i => (a :: l)[i - k]? == some c) = l.count c := by
      rw [← range_count c l (k + 1)]
      refine List.countP_congr fun i hi => ?_
      have : k + 1 ≤ i := (List.mem_range'_1.mp hi).1
      rw [show i - k = (i - (k + 1)) + 1 by omega, List.getElem?_cons_succ]
    by_cases h : a = c
    · subst h
      rw [List.countP_cons_of_pos (by simp), e, List.count_cons_self]
    · rw [List.countP_cons_of_neg (by simp [h]), e, List.count_cons_of_ne (by simpa using h)]
theorem count_one (x : Str) (c : Nat) : Txt.count x ⟨#[c]⟩ = (x.cps.toList.count c : Int) := by
  unfold Txt.count
  rw [occ_eq, Array.length_toList, occ_count x c _ _ _ _ (fun _ _ => Nat.zero_le _) (by simpa using List.pairwise_lt_range') (by simp)]
  have := range_count c x.cps.toList 0
  simp only [Nat.sub_zero] at this ⊢
  rw [show x.length = x.cps.toList.length by simp [Str.length]]
  show ((0 + _ : Nat) : Int) = _
  rw [Nat.zero_add, this]
end
theorem join_S (ls : List (List Nat)) : Txt.join "" (ls.map S) = S ls.flatten := by
  rw [TL.join_eq]
  refine TL.ext_tl ?_
  rw [TL.tl_join]
  have hm : (ls.map S).map TL.tl = ls := by
    rw [List.map_map]
    conv => rhs; rw [← List.map_id ls]
    exact List.map_congr_left fun l _ => tl_S l
  rw [hm]
  show _ = TL.tl (S ls.flatten)
  rw [tl_S]
  have e : TL.tl (Str.ofString "") = [] := rfl
  show TL.joinL (TL.tl (Str.ofString "")) ls = _
  rw [e]
  clear hm
  induction ls with
  | nil => rfl
  | cons a l ih =>
    cases l with
    | nil => simp [TL.joinL]
    | cons b l => rw [TL.joinL, List.nil_append, ih, List.flatten_cons (l := a)]
def alt (x : Nat) : List (List Nat) → Int
  | [] => 0
  | p :: l => (p.count x : Int) - alt x l
def segs : Nat → List Nat → List Nat → List (List Nat)
  | h, [], T => [T.drop h]
  | h, c :: cs, T => (T.drop h).take (c - h) :: segs c cs T
def bal (x : Nat) (cs : List Nat) : Int → Nat → List Nat → Int
  | _, _, [] => 0
  | s, p, ch :: T => (if ch = x then (if p ∈ cs then -s else s) else 0) + bal x cs (if p ∈ cs then -s else s) (p + 1) T
def okCuts (n : Nat) : Nat → List Nat → Prop
  | _, [] => True
  | h, c :: cs => h < c ∧ c < n ∧ okCuts n c cs
theorem okCuts_gt {n : Nat} : ∀ {h : Nat} {cs : List Nat}, okCuts n h cs → ∀ c ∈ cs, h < c
  | _, [], _, _, m => by cases m
  | h, c :: cs, ⟨h1, _, h3⟩, d, m => by
    rcases List.mem_cons.mp m with rfl | m
    · exact h1
    · exact Nat.lt_trans h1 (okCuts_gt h3 d m)
end Dn
namespace Dn
open PySem PySem.Spec PyProof.Rows L2
open TL (tl numL)
def sp (s : Nat) : List Nat → List (List Nat)
  | [] => [[]]
  | c :: l => if c = s then [] :: sp s l else match sp s l with
    | [] => [[c]]
    | h :: t => (c :: h) :: t
end Dn
namespace Dn
open PySem PySem.Spec PyProof.Rows L2
def sub_CrumbError : Nat → Option Bool
  | 0 => some true
  | 1 => some true
  | 2 => some true
  | 3 => some true
  | _ => none
def sub_NoBeads : Nat → Option Bool
  | 0 => some false
  | 1 => some true
  | 2 => some false
  | 3 => some false
  | _ => none
theorem only_NoBeads : ∀ c, sub_NoBeads c = some true → c = 1 := by
  intro c h
  unfold sub_NoBeads at h
  split at h <;> first | rfl | cases h
def sub_Odd : Nat → Option Bool
  | 0 => some false
  | 1 => some false
  | 2 => some true
  | 3 => some false
  | _ => none
theorem only_Odd : ∀ c, sub_Odd c = some true → c = 2 := by
  intro c h
  unfold sub_Odd at h
  split at h <;> first | rfl | cases h
def sub_ValueError : Nat → Option Bool
  | 0 => some true
  | 1 => some true
  | 2 => some true
  | 3 => some true
  | _ => none
def ix_beads : Nat → Option Nat
  | 4 => some 0
  | _ => none
@[simp] theorem ix_beads_4 : ix_beads 4 = some 0 := rfl
def ix_later : Nat → Option Nat
  | 4 => some 4
  | _ => none
@[simp] theorem ix_later_4 : ix_later 4 = some 4 := rfl
def ix_lead : Nat → Option Nat
  | 4 => some 2
  | _ => none
@[simp] theorem ix_lead_4 : ix_lead 4 = some 2 := rfl
def ix_past : Nat → Option Nat
  | 4 => some 3
  | _ => none
@[simp] theorem ix_past_4 : ix_past 4 = some 3 := rfl
def ix_spots : Nat → Option Nat
  | 4 => some 1
  | _ => none
@[simp] theorem ix_spots_4 : ix_spots 4 = some 1 := rfl
noncomputable def fb_is_cuts_1 : En → SR :=
  (sIf (dOr (dOp oLt (dVar 3) (dC (.int 1))) (dOr (dOp oGe (dVar 3) (dCB oLen (aCons (dVar 0) aNil))) (dAnd (dOp oGt (dVar 2) (dC (.int 0))) (dOp oLe (dVar 3) (dOp oIx (dVar 1) (dOp oSub (dVar 2) (dC (.int 1)))))))) (sRet (dC (.bl false))) sSkip)
theorem q_fb_is_cuts_1 {e : En} : fb_is_cuts_1 e = (sIf (dOr (dOp oLt (dVar 3) (dC (.int 1))) (dOr (dOp oGe (dVar 3) (dCB oLen (aCons (dVar 0) aNil))) (dAnd (dOp oGt (dVar 2) (dC (.int 0))) (dOp oLe (dVar 3) (dOp oIx (dVar 1) (dOp oSub (dVar 2) (dC (.int 1)))))))) (sRet (dC (.bl false))) sSkip) e := rfl
noncomputable def g_is_cuts : En → SR :=
  (sSeq (sFor (dEnum (aCons (dVar 1) aNil)) (tgT 2 (tgsCons (tgN 2) (tgsCons (tgN 3) tgsNil))) fb_is_cuts_1)
  (sRet (dC (.bl true))))
noncomputable def F_is_cuts : List D → Sto → ER := fnD 2 4 g_is_cuts
noncomputable def fb_pieces_of_1 : En → SR :=
  (sSeq (sMt mAppend 2 (aCons (dSl oSl (dVar 0) (fun e => some ((dVar 3) e)) (fun e => some ((dVar 4) e))) aNil))
  (sSetF 3 (dVar 4)))
theorem q_fb_pieces_of_1 {e : En} : fb_pieces_of_1 e = (sSeq (sMt mAppend 2 (aCons (dSl oSl (dVar 0) (fun e => some ((dVar 3) e)) (fun e => some ((dVar 4) e))) aNil))
  (sSetF 3 (dVar 4))) e := rfl
noncomputable def g_pieces_of : En → SR :=
  (sSeq (sSet 2 (dLst aNil))
  (sSeq (sSetF 3 (dC (.int 0)))
  (sSeq (sFor (dIter (dOp oAdd (dVar 1) (dLst (aCons (dCB oLen (aCons (dVar 0) aNil)) aNil)))) (tgN 4) fb_pieces_of_1)
  (sRetV 2))))
noncomputable def F_pieces_of : List D → Sto → ER := fnD 2 5 g_pieces_of
noncomputable def fb_all_cuts_1_1 : En → SR :=
  sBad
noncomputable def g_all_cuts_1 : En → SR :=
  (sSeq (sIf (dOp oEq (dVar 2) (dC (.int 0))) (sRet (dLst (aCons (dLst aNil) aNil))) sSkip)
  (sSeq (sSet 3 (dLst aNil))
  (sSeq (sFor (dRng rng2 (aCons (dVar 0) (aCons (dOp oAdd (dVar 1) (dC (.int 1))) aNil))) (tgN 4) fb_all_cuts_1_1)
  (sRetV 3))))
noncomputable def F_all_cuts_1 : List D → Sto → ER := fnD 3 6 g_all_cuts_1
noncomputable def ce_sums_ahead_2 : En → ER :=
  (dOp oAdd (dVar 3) (dCB oInt (aCons (dOp oEq (dVar 2) (dVar 4)) aNil)))
theorem q_ce_sums_ahead_2 {e : En} : ce_sums_ahead_2 e = (dOp oAdd (dVar 3) (dCB oInt (aCons (dOp oEq (dVar 2) (dVar 4)) aNil))) e := rfl
noncomputable def fb_sums_ahead_3 : En → SR :=
  (sMt mAppend 1 (aCons (dLc (dZipS (aCons (dOp oIx (dVar 1) (dUn oNeg (dC (.int 1)))) (aCons (dC (.str "abc")) aNil))) (tgT 2 (tgsCons (tgN 3) (tgsCons (tgN 4) tgsNil))) (fun E => .val .P (.bl true) E.st) ce_sums_ahead_2 [3, 4]) aNil))
theorem q_fb_sums_ahead_3 {e : En} : fb_sums_ahead_3 e = (sMt mAppend 1 (aCons (dLc (dZipS (aCons (dOp oIx (dVar 1) (dUn oNeg (dC (.int 1)))) (aCons (dC (.str "abc")) aNil))) (tgT 2 (tgsCons (tgN 3) (tgsCons (tgN 4) tgsNil))) (fun E => .val .P (.bl true) E.st) ce_sums_ahead_2 [3, 4]) aNil)) e := rfl
noncomputable def g_sums_ahead : En → SR :=
  (sSeq (sSet 1 (dLst (aCons (dLst (aCons (dC (.int 0)) (aCons (dC (.int 0)) (aCons (dC (.int 0)) aNil)))) aNil)))
  (sSeq (sFor (dIter (dVar 0)) (tgN 2) fb_sums_ahead_3)
  (sRetV 1)))
noncomputable def F_sums_ahead : List D → Sto → ER := fnD 1 5 g_sums_ahead
noncomputable def ce_last_cut_1 : En → ER :=
  (dOp oSub (dOp oIx (dVar 2) (dOp oAdd (dVar 4) (dC (.int 1)))) (dOp oIx (dVar 2) (dVar 4)))
theorem q_ce_last_cut_1 {e : En} : ce_last_cut_1 e = (dOp oSub (dOp oIx (dVar 2) (dOp oAdd (dVar 4) (dC (.int 1)))) (dOp oIx (dVar 2) (dVar 4))) e := rfl
noncomputable def g_last_cut : En → SR :=
  (sSeq (sSetF 2 (dOp oAdd (dLst (aCons (dC (.int 0)) aNil)) (dVar 0)))
  (sSeq (sSetF 3 (dCB oSum (aCons (dLc (dRng3 (aCons (dOp oMod (dCB oLen (aCons (dVar 0) aNil)) (dC (.int 2))) (aCons (dCB oLen (aCons (dVar 0) aNil)) (aCons (dC (.int 2)) aNil)))) (tgN 4) (fun E => .val .P (.bl true) E.st) ce_last_cut_1 [4]) aNil)))
  (sRet (dOp oSub (dOp oAdd (dOp oIx (dVar 2) (dUn oNeg (dC (.int 1)))) (dOp oDiv (dVar 1) (dC (.int 2)))) (dVar 3)))))
noncomputable def F_last_cut : List D → Sto → ER := fnD 2 5 g_last_cut
noncomputable def ce_gives_halves_1 : En → ER :=
  (dOp oSub (dOp oAdd (dVar 5) (dVar 6)) (dVar 7))
theorem q_ce_gives_halves_1 {e : En} : ce_gives_halves_1 e = (dOp oSub (dOp oAdd (dVar 5) (dVar 6)) (dVar 7)) e := rfl
noncomputable def fb_gives_halves_2 : En → SR :=
  (sSetF 3 (dLc (dZip3 (aCons (dVar 3) (aCons (dOp oIx (dVar 0) (dOp oIx (dVar 2) (dOp oAdd (dVar 4) (dC (.int 1))))) (aCons (dOp oIx (dVar 0) (dOp oIx (dVar 2) (dVar 4))) aNil)))) (tgT 3 (tgsCons (tgN 5) (tgsCons (tgN 6) (tgsCons (tgN 7) tgsNil)))) (fun E => .val .P (.bl true) E.st) ce_gives_halves_1 [5, 6, 7]))
theorem q_fb_gives_halves_2 {e : En} : fb_gives_halves_2 e = (sSetF 3 (dLc (dZip3 (aCons (dVar 3) (aCons (dOp oIx (dVar 0) (dOp oIx (dVar 2) (dOp oAdd (dVar 4) (dC (.int 1))))) (aCons (dOp oIx (dVar 0) (dOp oIx (dVar 2) (dVar 4))) aNil)))) (tgT 3 (tgsCons (tgN 5) (tgsCons (tgN 6) (tgsCons (tgN 7) tgsNil)))) (fun E => .val .P (.bl true) E.st) ce_gives_halves_1 [5, 6, 7])) e := rfl
noncomputable def ce_gives_halves_3 : En → ER :=
  (dOp oMul (dC (.int 2)) (dVar 5))
theorem q_ce_gives_halves_3 {e : En} : ce_gives_halves_3 e = (dOp oMul (dC (.int 2)) (dVar 5)) e := rfl
noncomputable def g_gives_halves : En → SR :=
  (sSeq (sSetF 2 (dOp oAdd (dOp oAdd (dLst (aCons (dC (.int 0)) aNil)) (dVar 1)) (dLst (aCons (dOp oSub (dCB oLen (aCons (dVar 0) aNil)) (dC (.int 1))) aNil))))
  (sSeq (sSetF 3 (dLst (aCons (dC (.int 0)) (aCons (dC (.int 0)) (aCons (dC (.int 0)) aNil)))))
  (sSeq (sFor (dRng3 (aCons (dC (.int 0)) (aCons (dOp oSub (dCB oLen (aCons (dVar 2) aNil)) (dC (.int 1))) (aCons (dC (.int 2)) aNil)))) (tgN 4) fb_gives_halves_2)
  (sRet (dOp oEq (dLc (dIter (dVar 3)) (tgN 5) (fun E => .val .P (.bl true) E.st) ce_gives_halves_3 [5]) (dOp oIx (dVar 0) (dUn oNeg (dC (.int 1)))))))))
noncomputable def F_gives_halves : List D → Sto → ER := fnD 2 8 g_gives_halves
noncomputable def g_Thread_stood : En → SR :=
  (sRet (dTup (aCons (dCB oList (aCons (dFld ix_spots (dVar 0)) aNil)) (aCons (dFld ix_lead (dVar 0)) aNil))))
noncomputable def F_Thread_stood : List D → Sto → ER := fnD 1 1 g_Thread_stood
noncomputable def ce_law_box_1 : En → ER :=
  (dVar 2)
theorem q_ce_law_box_1 {e : En} : ce_law_box_1 e = (dVar 2) e := rfl
noncomputable def ct_law_box_2 : En → ER :=
  (dOp oGe (dVar 2) (dOp oPow (dC (.int 10)) (dC (.int 18))))
theorem q_ct_law_box_2 {e : En} : ct_law_box_2 e = (dOp oGe (dVar 2) (dOp oPow (dC (.int 10)) (dC (.int 18)))) e := rfl
noncomputable def ce_law_box_3 : En → ER :=
  (dVar 2)
theorem q_ce_law_box_3 {e : En} : ce_law_box_3 e = (dVar 2) e := rfl
noncomputable def ct_law_box_4 : En → ER :=
  (dOp oLt (dVar 2) (dOp oPow (dC (.int 10)) (dC (.int 18))))
theorem q_ct_law_box_4 {e : En} : ct_law_box_4 e = (dOp oLt (dVar 2) (dOp oPow (dC (.int 10)) (dC (.int 18)))) e := rfl
noncomputable def g_law_box : En → SR :=
  (sSeq (sSetF 1 (dPut (dLc (dIter (dVar 0)) (tgN 2) ct_law_box_2 ce_law_box_1 [2])))
  (sRet (dPut (dLst (aCons (dVar 1) (aCons (dC (.int 0)) (aCons (dLc (dIter (dVar 0)) (tgN 2) ct_law_box_4 ce_law_box_3 [2]) (aCons (dC (.int 0)) aNil))))))))
noncomputable def F_law_box : List D → Sto → ER := fnD 1 3 g_law_box
noncomputable def g_law_mixed : En → SR :=
  (sSeq (sSetF 2 (dOp oMod (dOp oPow (dOp oAdd (dOp oAdd (dOp oAdd (dOp oMod (dVar 0) (dC (.int 2147483647))) (dOp oMul (dOp oMul (dC (.int 1009)) (dVar 1)) (dVar 1))) (dOp oMul (dC (.int 48611)) (dVar 1))) (dC (.int 17))) (dC (.int 5))) (dC (.int 2147483647))))
  (sRet (dOp oMod (dOp oAdd (dOp oMul (dVar 2) (dC (.int 39373))) (dOp oMul (dC (.int 7919)) (dVar 1))) (dC (.int 1000000007)))))
noncomputable def F_law_mixed : List D → Sto → ER := fnD 2 3 g_law_mixed
noncomputable def ce_law_odd_1 : En → ER :=
  (dVar 2)
theorem q_ce_law_odd_1 {e : En} : ce_law_odd_1 e = (dVar 2) e := rfl
noncomputable def ct_law_odd_2 : En → ER :=
  (dOp oEq (dOp oMod (dMs msCount (dVar 0) (aCons (dVar 2) aNil)) (dC (.int 2))) (dC (.int 1)))
theorem q_ct_law_odd_2 {e : En} : ct_law_odd_2 e = (dOp oEq (dOp oMod (dMs msCount (dVar 0) (aCons (dVar 2) aNil)) (dC (.int 2))) (dC (.int 1))) e := rfl
noncomputable def g_law_odd : En → SR :=
  (sSeq (sSetF 1 (dLc (dIter (dC (.str "abc"))) (tgN 2) ct_law_odd_2 ce_law_odd_1 [2]))
  (sRet (dOp oIx (dOp oAdd (dVar 1) (dLst (aCons (dC (.str "")) aNil))) (dC (.int 0)))))
noncomputable def F_law_odd : List D → Sto → ER := fnD 1 3 g_law_odd
noncomputable def fb_law_bad_1 : En → SR :=
  (sIf (dOr (dOp oEq (dVar 1) (dC (.int 24))) (dOp oNotIn (dVar 2) (dC (.str "abc")))) (sRetV 1) sSkip)
theorem q_fb_law_bad_1 {e : En} : fb_law_bad_1 e = (sIf (dOr (dOp oEq (dVar 1) (dC (.int 24))) (dOp oNotIn (dVar 2) (dC (.str "abc")))) (sRetV 1) sSkip) e := rfl
noncomputable def g_law_bad : En → SR :=
  (sSeq (sFor (dEnumS (aCons (dVar 0) aNil)) (tgT 2 (tgsCons (tgN 1) (tgsCons (tgN 2) tgsNil))) fb_law_bad_1)
  (sRet (dUn oNeg (dC (.int 1)))))
noncomputable def F_law_bad : List D → Sto → ER := fnD 1 3 g_law_bad
noncomputable def fb_all_cuts_2_1 : En → SR :=
  (sMt mAppend 3 (aCons (dOp oAdd (dLst (aCons (dVar 4) aNil)) (dVar 5)) aNil))
noncomputable def fb_all_cuts_2_2 : En → SR :=
  (sFor (dIter (dCall F_all_cuts_1 (aCons (dOp oAdd (dVar 4) (dC (.int 1))) (aCons (dVar 1) (aCons (dOp oSub (dVar 2) (dC (.int 1))) aNil))))) (tgN 5) fb_all_cuts_2_1)
noncomputable def g_all_cuts_2 : En → SR :=
  (sSeq (sIf (dOp oEq (dVar 2) (dC (.int 0))) (sRet (dLst (aCons (dLst aNil) aNil))) sSkip)
  (sSeq (sSet 3 (dLst aNil))
  (sSeq (sFor (dRng rng2 (aCons (dVar 0) (aCons (dOp oAdd (dVar 1) (dC (.int 1))) aNil))) (tgN 4) fb_all_cuts_2_2)
  (sRetV 3))))
noncomputable def F_all_cuts_2 : List D → Sto → ER := fnD 3 6 g_all_cuts_2
noncomputable def g_Thread_done : En → SR :=
  (sSeq (sDrop (dMtX mAppend (dFld ix_past (dVar 0)) (aCons (dMeth 4 F_Thread_stood 1 0 [0] [] (dVar 0) aNil aNil) aNil)))
  (sSeq (sFldS ix_later (dVar 0) (dLst aNil))
  (sSeq (sFldS ix_spots (dVar 0) (dCB oSortedX (aCons (dVar 1) aNil)))
  (sFldS ix_lead (dVar 0) (dVar 2)))))
noncomputable def F_Thread_done : List D → Sto → ER := fnD 3 3 g_Thread_done
noncomputable def g_Thread_pieces : En → SR :=
  (sRet (dCall F_pieces_of (aCons (dFld ix_beads (dVar 0)) (aCons (dFld ix_spots (dVar 0)) aNil))))
noncomputable def F_Thread_pieces : List D → Sto → ER := fnD 1 1 g_Thread_pieces
noncomputable def wc_law_take_1 : En → ER :=
  (dOp oLt (dVar 4) (dVar 1))
theorem q_wc_law_take_1 {e : En} : wc_law_take_1 e = (dOp oLt (dVar 4) (dVar 1)) e := rfl
noncomputable def wb_law_take_2 : En → SR :=
  (sSeq (sSetF 3 (dOp oAdd (dOp oMul (dVar 3) (dC (.int 1000000007))) (dCall F_law_mixed (aCons (dVar 2) (aCons (dOp oAdd (dOp oIx (dVar 0) (dC (.int 3))) (dOp oMul (dC (.int 1000)) (dOp oMod (dVar 3) (dC (.int 89))))) aNil)))))
  (sSetF 4 (dOp oMul (dVar 4) (dC (.int 1000000007)))))
theorem q_wb_law_take_2 {e : En} : wb_law_take_2 e = (sSeq (sSetF 3 (dOp oAdd (dOp oMul (dVar 3) (dC (.int 1000000007))) (dCall F_law_mixed (aCons (dVar 2) (aCons (dOp oAdd (dOp oIx (dVar 0) (dC (.int 3))) (dOp oMul (dC (.int 1000)) (dOp oMod (dVar 3) (dC (.int 89))))) aNil)))))
  (sSetF 4 (dOp oMul (dVar 4) (dC (.int 1000000007))))) e := rfl
noncomputable def g_law_take : En → SR :=
  (sSeq (sSetI 0 (dOp oAdd (dOp oIx (dVar 0) (dC (.int 3))) (dC (.int 1))) (dC (.int 3)))
  (sSeq (sIf (dAnd (dOp oEq (dOp oIx (dVar 0) (dC (.int 1))) (dC (.int 0))) (dOp oGt (dCB oLen (aCons (dOp oIx (dVar 0) (dC (.int 0))) aNil)) (dC (.int 0)))) (sSetI 0 (dMtX mPopAt (dOp oIx (dVar 0) (dC (.int 0))) (aCons (dC (.int 0)) aNil)) (dC (.int 1))) sSkip)
  (sSeq (sIf (dOp oGt (dOp oIx (dVar 0) (dC (.int 1))) (dC (.int 0))) (sSeq (sSetF 3 (dOp oMod (dOp oIx (dVar 0) (dC (.int 1))) (dVar 1)))
  (sSeq (sSetI 0 (dOp oDiv (dOp oIx (dVar 0) (dC (.int 1))) (dVar 1)) (dC (.int 1)))
  (sRetV 3))) sSkip)
  (sSeq (sSetF 2 (dOp oMul (dC (.int 7)) (dOp oIx (dVar 0) (dC (.int 3)))))
  (sSeq (sIf (dOp oGt (dCB oLen (aCons (dOp oIx (dVar 0) (dC (.int 2))) aNil)) (dC (.int 0))) (sSetF 2 (dOp oIx (dOp oIx (dVar 0) (dC (.int 2))) (dOp oMod (dOp oIx (dVar 0) (dC (.int 3))) (dCB oLen (aCons (dOp oIx (dVar 0) (dC (.int 2))) aNil))))) sSkip)
  (sSeq (sSetF 3 (dC (.int 0)))
  (sSeq (sSetF 4 (dC (.int 1)))
  (sSeq (sWhile wc_law_take_1 wb_law_take_2)
  (sRet (dOp oMod (dVar 3) (dVar 1)))))))))))
noncomputable def F_law_take : List D → Sto → ER := fnD 2 5 g_law_take
noncomputable def fb_ask_beads_1 : En → SR :=
  (sIf (dOr (dOp oEq (dVar 1) (dC (.int 24))) (dOp oNotIn (dVar 2) (dC (.str "abc")))) (sRaiseF 1 (aCons (dVar 1) aNil)) sSkip)
theorem q_fb_ask_beads_1 {e : En} : fb_ask_beads_1 e = (sIf (dOr (dOp oEq (dVar 1) (dC (.int 24))) (dOp oNotIn (dVar 2) (dC (.str "abc")))) (sRaiseF 1 (aCons (dVar 1) aNil)) sSkip) e := rfl
noncomputable def g_ask_beads : En → SR :=
  (sFor (dEnumS (aCons (dVar 0) aNil)) (tgT 2 (tgsCons (tgN 1) (tgsCons (tgN 2) tgsNil))) fb_ask_beads_1)
noncomputable def F_ask_beads : List D → Sto → ER := fnD 1 3 g_ask_beads
noncomputable def fb_all_cuts_1 : En → SR :=
  (sMt mAppend 3 (aCons (dOp oAdd (dLst (aCons (dVar 4) aNil)) (dVar 5)) aNil))
noncomputable def fb_all_cuts_2 : En → SR :=
  (sFor (dIter (dCall F_all_cuts_2 (aCons (dOp oAdd (dVar 4) (dC (.int 1))) (aCons (dVar 1) (aCons (dOp oSub (dVar 2) (dC (.int 1))) aNil))))) (tgN 5) fb_all_cuts_1)
noncomputable def g_all_cuts : En → SR :=
  (sSeq (sIf (dOp oEq (dVar 2) (dC (.int 0))) (sRet (dLst (aCons (dLst aNil) aNil))) sSkip)
  (sSeq (sSet 3 (dLst aNil))
  (sSeq (sFor (dRng rng2 (aCons (dVar 0) (aCons (dOp oAdd (dVar 1) (dC (.int 1))) aNil))) (tgN 4) fb_all_cuts_2)
  (sRetV 3))))
noncomputable def F_all_cuts : List D → Sto → ER := fnD 3 6 g_all_cuts
noncomputable def g_Thread_cut : En → SR :=
  (sSeq (sIf (dOr (dOp oLt (dVar 1) (dC (.int 1))) (dOr (dOp oGe (dVar 1) (dCB oLen (aCons (dFld ix_beads (dVar 0)) aNil))) (dOp oIn (dVar 1) (dFld ix_spots (dVar 0))))) (sRaiseF 3 (aCons (dVar 1) aNil)) sSkip)
  (sDrop (dMeth 4 F_Thread_done 3 0 [0, 1, 2] [] (dVar 0) (aCons (dOp oAdd (dFld ix_spots (dVar 0)) (dLst (aCons (dVar 1) aNil))) (aCons (dFld ix_lead (dVar 0)) aNil)) aNil)))
noncomputable def F_Thread_cut : List D → Sto → ER := fnD 2 2 g_Thread_cut
noncomputable def g_Thread_flip : En → SR :=
  (sDrop (dMeth 4 F_Thread_done 3 0 [0, 1, 2] [] (dVar 0) (aCons (dFld ix_spots (dVar 0)) (aCons (dOp oSub (dC (.int 1)) (dFld ix_lead (dVar 0))) aNil)) aNil))
noncomputable def F_Thread_flip : List D → Sto → ER := fnD 1 1 g_Thread_flip
noncomputable def g_Thread_shown : En → SR :=
  (sRet (dMs msJoin (dC (.str "|")) (aCons (dMeth 4 F_Thread_pieces 1 0 [0] [] (dVar 0) aNil aNil) aNil)))
noncomputable def F_Thread_shown : List D → Sto → ER := fnD 1 1 g_Thread_shown
noncomputable def ce_law_beads_1 : En → ER :=
  (dOp oIx (dC (.str "abc")) (dCall F_law_take (aCons (dVar 0) (aCons (dVar 2) aNil))))
theorem q_ce_law_beads_1 {e : En} : ce_law_beads_1 e = (dOp oIx (dC (.str "abc")) (dCall F_law_take (aCons (dVar 0) (aCons (dVar 2) aNil)))) e := rfl
noncomputable def wc_law_beads_2 : En → ER :=
  (dOp oGt (dCB oLen (aCons (dVar 4) aNil)) (dC (.int 0)))
theorem q_wc_law_beads_2 {e : En} : wc_law_beads_2 e = (dOp oGt (dCB oLen (aCons (dVar 4) aNil)) (dC (.int 0))) e := rfl
noncomputable def wb_law_beads_3 : En → SR :=
  (sSetF 5 (dOp oAdd (dVar 5) (dMtX mPopAt (dVar 4) (aCons (dCall F_law_take (aCons (dVar 0) (aCons (dCB oLen (aCons (dVar 4) aNil)) aNil))) aNil))))
theorem q_wb_law_beads_3 {e : En} : wb_law_beads_3 e = (sSetF 5 (dOp oAdd (dVar 5) (dMtX mPopAt (dVar 4) (aCons (dCall F_law_take (aCons (dVar 0) (aCons (dCB oLen (aCons (dVar 4) aNil)) aNil))) aNil)))) e := rfl
noncomputable def g_law_beads : En → SR :=
  (sSeq (sSetF 2 (dOp oAdd (dC (.int 1)) (dCall F_law_take (aCons (dVar 0) (aCons (dC (.int 3)) aNil)))))
  (sSeq (sSetF 3 (dLc (dRng rng1 (aCons (dCall F_law_take (aCons (dVar 0) (aCons (dOp oAdd (dOp oDiv (dVar 1) (dC (.int 2))) (dC (.int 1))) aNil))) aNil)) (tgN 6) (fun E => .val .P (.bl true) E.st) ce_law_beads_1 [6]))
  (sSeq (sSetF 4 (dPut (dOp oAdd (dVar 3) (dVar 3))))
  (sSeq (sSetF 5 (dC (.str "")))
  (sSeq (sWhile wc_law_beads_2 wb_law_beads_3)
  (sRetV 5))))))
noncomputable def F_law_beads : List D → Sto → ER := fnD 2 7 g_law_beads
noncomputable def g_law_signed : En → SR :=
  (sSeq (sSetF 2 (dC (.str " !\"#$&'()*+,-./0123456789:;<=>?@ABCDEFGHIJKLMNOPQRSTUVWXYZ[\\]^_`")))
  (sSeq (sSetF 2 (dOp oAdd (dVar 2) (dC (.str "abcdefghijklmnopqrstuvwxyz{|}~"))))
  (sSeq (sSetF 3 (dCall F_law_take (aCons (dVar 0) (aCons (dC (.int 2)) aNil))))
  (sSeq (sSetF 4 (dCall F_law_take (aCons (dVar 0) (aCons (dOp oAdd (dCB oLen (aCons (dVar 1) aNil)) (dC (.int 1))) aNil))))
  (sRet (dOp oAdd (dOp oAdd (dSl oSl (dVar 1) (fun _ => none) (fun e => some ((dVar 4) e))) (dOp oIx (dVar 2) (dCall F_law_take (aCons (dVar 0) (aCons (dCB oLen (aCons (dVar 2) aNil)) aNil))))) (dSl oSl (dVar 1) (fun e => some ((dOp oAdd (dVar 4) (dVar 3)) e)) (fun _ => none))))))))
noncomputable def F_law_signed : List D → Sto → ER := fnD 2 5 g_law_signed
noncomputable def fb_fewest_cuts_1 : En → SR :=
  (sIf (dOp oEq (dOp oMod (dMs msCount (dVar 0) (aCons (dVar 1) aNil)) (dC (.int 2))) (dC (.int 1))) (sRaiseF 2 (aCons (dVar 1) aNil)) sSkip)
theorem q_fb_fewest_cuts_1 {e : En} : fb_fewest_cuts_1 e = (sIf (dOp oEq (dOp oMod (dMs msCount (dVar 0) (aCons (dVar 1) aNil)) (dC (.int 2))) (dC (.int 1))) (sRaiseF 2 (aCons (dVar 1) aNil)) sSkip) e := rfl
noncomputable def fb_fewest_cuts_2 : En → SR :=
  (sSeq (sSetF 5 (dOp oAdd (dVar 4) (dLst (aCons (dCall F_last_cut (aCons (dVar 4) (aCons (dCB oLen (aCons (dVar 0) aNil)) aNil))) aNil))))
  (sIf (dAnd (dCall F_is_cuts (aCons (dVar 0) (aCons (dVar 5) aNil))) (dCall F_gives_halves (aCons (dVar 2) (aCons (dVar 5) aNil)))) (sRetV 5) sSkip))
theorem q_fb_fewest_cuts_2 {e : En} : fb_fewest_cuts_2 e = (sSeq (sSetF 5 (dOp oAdd (dVar 4) (dLst (aCons (dCall F_last_cut (aCons (dVar 4) (aCons (dCB oLen (aCons (dVar 0) aNil)) aNil))) aNil))))
  (sIf (dAnd (dCall F_is_cuts (aCons (dVar 0) (aCons (dVar 5) aNil))) (dCall F_gives_halves (aCons (dVar 2) (aCons (dVar 5) aNil)))) (sRetV 5) sSkip)) e := rfl
noncomputable def wc_fewest_cuts_3 : En → ER :=
  (dOp oLt (dVar 3) (dCB oLen (aCons (dVar 0) aNil)))
theorem q_wc_fewest_cuts_3 {e : En} : wc_fewest_cuts_3 e = (dOp oLt (dVar 3) (dCB oLen (aCons (dVar 0) aNil))) e := rfl
noncomputable def wb_fewest_cuts_4 : En → SR :=
  (sSeq (sFor (dIter (dCall F_all_cuts (aCons (dC (.int 1)) (aCons (dOp oSub (dCB oLen (aCons (dVar 0) aNil)) (dC (.int 1))) (aCons (dOp oSub (dVar 3) (dC (.int 1))) aNil))))) (tgN 4) fb_fewest_cuts_2)
  (sAug 3 (fun i j => i + j) (dC (.int 1))))
theorem q_wb_fewest_cuts_4 {e : En} : wb_fewest_cuts_4 e = (sSeq (sFor (dIter (dCall F_all_cuts (aCons (dC (.int 1)) (aCons (dOp oSub (dCB oLen (aCons (dVar 0) aNil)) (dC (.int 1))) (aCons (dOp oSub (dVar 3) (dC (.int 1))) aNil))))) (tgN 4) fb_fewest_cuts_2)
  (sAug 3 (fun i j => i + j) (dC (.int 1)))) e := rfl
noncomputable def g_fewest_cuts : En → SR :=
  (sSeq (sDrop (dCall F_ask_beads (aCons (dVar 0) aNil)))
  (sSeq (sFor (dIter (dC (.str "abc"))) (tgN 1) fb_fewest_cuts_1)
  (sSeq (sSetF 2 (dCall F_sums_ahead (aCons (dVar 0) aNil)))
  (sSeq (sSetF 3 (dC (.int 1)))
  (sSeq (sWhile wc_fewest_cuts_3 wb_fewest_cuts_4)
  (sRet (dLst aNil)))))))
noncomputable def F_fewest_cuts : List D → Sto → ER := fnD 1 6 g_fewest_cuts
noncomputable def g_Thread___init__ : En → SR :=
  (sSeq (sDrop (dCall F_ask_beads (aCons (dVar 1) aNil)))
  (sSeq (sFldS ix_beads (dVar 0) (dVar 1))
  (sSeq (sFldS ix_spots (dVar 0) (dLst aNil))
  (sSeq (sFldS ix_lead (dVar 0) (dC (.int 0)))
  (sSeq (sFldS ix_past (dVar 0) (dPut (dLst aNil)))
  (sFldS ix_later (dVar 0) (dLst aNil)))))))
noncomputable def F_Thread___init__ : List D → Sto → ER := fnD 2 2 g_Thread___init__
noncomputable def g_Thread___str__ : En → SR :=
  (sRet (dJs [(dFmt (dFld ix_lead (dVar 0))), (dC (.str ":")), (dFmt (dMeth 4 F_Thread_shown 1 0 [0] [] (dVar 0) aNil aNil))]))
noncomputable def F_Thread___str__ : List D → Sto → ER := fnD 1 1 g_Thread___str__
noncomputable def ce_law_text_1 : En → ER :=
  (dOp oIx (dC (.str "abc")) (dCall F_law_take (aCons (dVar 0) (aCons (dC (.int 3)) aNil))))
theorem q_ce_law_text_1 {e : En} : ce_law_text_1 e = (dOp oIx (dC (.str "abc")) (dCall F_law_take (aCons (dVar 0) (aCons (dC (.int 3)) aNil)))) e := rfl
noncomputable def fb_law_text_2 : En → SR :=
  (sSetF 3 (dCall F_law_signed (aCons (dVar 0) (aCons (dVar 3) aNil))))
theorem q_fb_law_text_2 {e : En} : fb_law_text_2 e = (sSetF 3 (dCall F_law_signed (aCons (dVar 0) (aCons (dVar 3) aNil)))) e := rfl
noncomputable def g_law_text : En → SR :=
  (sSeq (sSetF 1 (dCall F_law_take (aCons (dVar 0) (aCons (dC (.int 2)) aNil))))
  (sSeq (sSetF 2 (dCall F_law_take (aCons (dVar 0) (aCons (dC (.int 4)) aNil))))
  (sSeq (sSetF 3 (dMs msJoin (dC (.str "")) (aCons (dLc (dRng rng1 (aCons (dCall F_law_take (aCons (dVar 0) (aCons (dC (.int 31)) aNil))) aNil)) (tgN 5) (fun E => .val .P (.bl true) E.st) ce_law_text_1 [5]) aNil)))
  (sSeq (sIf (dOp oEq (dVar 1) (dC (.int 1))) (sSetF 3 (dCall F_law_beads (aCons (dVar 0) (aCons (dOp oIx (dLst (aCons (dC (.int 24)) (aCons (dC (.int 30)) aNil))) (dCall F_law_take (aCons (dVar 0) (aCons (dC (.int 2)) aNil)))) aNil)))) sSkip)
  (sSeq (sFor (dRng rng1 (aCons (dCB oMax2 (aCons (dC (.int 0)) (aCons (dOp oSub (dVar 2) (dC (.int 1))) aNil))) aNil)) (tgN 4) fb_law_text_2)
  (sRetV 3))))))
noncomputable def F_law_text : List D → Sto → ER := fnD 1 6 g_law_text
noncomputable def g_Thread_settle : En → SR :=
  (sSeq (sSetF 1 (dCall F_fewest_cuts (aCons (dFld ix_beads (dVar 0)) aNil)))
  (sSeq (sDrop (dMeth 4 F_Thread_done 3 0 [0, 1, 2] [] (dVar 0) (aCons (dVar 1) (aCons (dFld ix_lead (dVar 0)) aNil)) aNil))
  (sRet (dCB oList (aCons (dVar 1) aNil)))))
noncomputable def F_Thread_settle : List D → Sto → ER := fnD 1 2 g_Thread_settle
noncomputable def g_law_asked : En → SR :=
  (sSeq (sSetF 2 (dTup (aCons (dC (.str "told")) (aCons (dC (.int 0)) aNil))))
  (sSeq (sTryM [(some 3, sub_NoBeads, fun c l => (sSeq (sSetF 2 (dTup (aCons (dC (.str "beads")) (aCons (dXf 3 l[0]?) aNil))))
  (sIf (dOr (dNot (dIsE 3 (sub_CrumbError c))) (dOr (dIsE 3 (sub_Odd c)) (dIsi "bool" (dXf 3 l[0]?)))) (sSetF 2 (dTup (aCons (dC (.str "other")) (aCons (dC (.int 0)) aNil)))) sSkip))), (some 3, sub_Odd, fun c l => (sSeq (sSetF 2 (dTup (aCons (dC (.str "odd")) (aCons (dXf 3 l[0]?) aNil))))
  (sIf (dOr (dNot (dIsE 3 (sub_ValueError c))) (dNot (dIsE 3 (sub_CrumbError c)))) (sSetF 2 (dTup (aCons (dC (.str "other")) (aCons (dC (.int 0)) aNil)))) sSkip)))] (sIf (dOp oEq (dVar 0) (dC (.int 0))) (sDrop (dCall F_fewest_cuts (aCons (dVar 1) aNil))) (sIf (dOp oEq (dVar 0) (dC (.int 1))) (sDrop (dMake 4 F_Thread___init__ 2 0 [0, 1] [] (aCons (dVar 1) aNil) aNil)) (sDrop (dMeth 4 F_Thread_settle 1 0 [0] [] (dMake 4 F_Thread___init__ 1 1 [0, 1] [] aNil (aCons (dVar 1) aNil)) aNil aNil)))))
  (sRetV 2)))
noncomputable def F_law_asked : List D → Sto → ER := fnD 2 4 g_law_asked
noncomputable def g_law_left : En → SR :=
  (sSeq (sSetF 1 (dMake 4 F_Thread___init__ 2 0 [0, 1] [] (aCons (dVar 0) aNil) aNil))
  (sSeq (sSetF 2 (dC (.str "")))
  (sSeq (sIf (dOp oGt (dCB oLen (aCons (dVar 0) aNil)) (dC (.int 1))) (sSeq (sDrop (dMeth 4 F_Thread_cut 2 0 [0, 1] [] (dVar 1) (aCons (dC (.int 1)) aNil) aNil))
  (sSetF 2 (dStrX [(4, F_Thread___str__)] (dVar 1)))) sSkip)
  (sSeq (sTryR sub_CrumbError (sDrop (dMeth 4 F_Thread_settle 1 0 [0] [] (dVar 1) aNil aNil)) (sDrop (dMeth 4 F_Thread_flip 1 0 [0] [] (dVar 1) aNil aNil)))
  (sRet (dOr (dOp oLt (dCB oLen (aCons (dVar 0) aNil)) (dC (.int 2))) (dOp oEq (dStrX [(4, F_Thread___str__)] (dVar 1)) (dOp oAdd (dC (.str "1")) (dSl oSl (dVar 2) (fun e => some ((dC (.int 1)) e)) (fun _ => none))))))))))
noncomputable def F_law_left : List D → Sto → ER := fnD 1 3 g_law_left
noncomputable def ce_law_1 : En → ER :=
  (dOp oEq (dCall F_law_asked (aCons (dVar 6) (aCons (dVar 2) aNil))) (dTup (aCons (dC (.str "beads")) (aCons (dVar 3) aNil))))
theorem q_ce_law_1 {e : En} : ce_law_1 e = (dOp oEq (dCall F_law_asked (aCons (dVar 6) (aCons (dVar 2) aNil))) (dTup (aCons (dC (.str "beads")) (aCons (dVar 3) aNil)))) e := rfl
noncomputable def k_law_8 : En → SR :=
  (sRet (dOr (dOp oEq (dVar 4) (dC (.str ""))) (dCall F_law_left (aCons (dVar 2) aNil))))
theorem q_k_law_8 {e : En} : k_law_8 e = (sRet (dOr (dOp oEq (dVar 4) (dC (.str ""))) (dCall F_law_left (aCons (dVar 2) aNil)))) e := rfl
noncomputable def k_law_7 : En → SR :=
  (sSeq (sIf (dOr (dOp oNe (dCall F_law_asked (aCons (dC (.int 0)) (aCons (dVar 2) aNil))) (dVar 5)) (dOr (dOp oNe (dCall F_law_asked (aCons (dC (.int 1)) (aCons (dVar 2) aNil))) (dTup (aCons (dC (.str "told")) (aCons (dC (.int 0)) aNil)))) (dOp oNe (dCall F_law_asked (aCons (dC (.int 2)) (aCons (dVar 2) aNil))) (dVar 5)))) (sRet (dC (.bl false))) sSkip)
  k_law_8)
theorem q_k_law_7 {e : En} : k_law_7 e = (sSeq (sIf (dOr (dOp oNe (dCall F_law_asked (aCons (dC (.int 0)) (aCons (dVar 2) aNil))) (dVar 5)) (dOr (dOp oNe (dCall F_law_asked (aCons (dC (.int 1)) (aCons (dVar 2) aNil))) (dTup (aCons (dC (.str "told")) (aCons (dC (.int 0)) aNil)))) (dOp oNe (dCall F_law_asked (aCons (dC (.int 2)) (aCons (dVar 2) aNil))) (dVar 5)))) (sRet (dC (.bl false))) sSkip)
  k_law_8) e := rfl
noncomputable def k_law_6 : En → SR :=
  (sSeq (sIf (dOp oNe (dVar 4) (dC (.str ""))) (sSetF 5 (dTup (aCons (dC (.str "odd")) (aCons (dVar 4) aNil)))) sSkip)
  k_law_7)
theorem q_k_law_6 {e : En} : k_law_6 e = (sSeq (sIf (dOp oNe (dVar 4) (dC (.str ""))) (sSetF 5 (dTup (aCons (dC (.str "odd")) (aCons (dVar 4) aNil)))) sSkip)
  k_law_7) e := rfl
noncomputable def k_law_5 : En → SR :=
  (sSeq (sSetF 5 (dTup (aCons (dC (.str "told")) (aCons (dC (.int 0)) aNil))))
  k_law_6)
theorem q_k_law_5 {e : En} : k_law_5 e = (sSeq (sSetF 5 (dTup (aCons (dC (.str "told")) (aCons (dC (.int 0)) aNil))))
  k_law_6) e := rfl
noncomputable def k_law_4 : En → SR :=
  (sSeq (sSetF 4 (dCall F_law_odd (aCons (dVar 2) aNil)))
  k_law_5)
theorem q_k_law_4 {e : En} : k_law_4 e = (sSeq (sSetF 4 (dCall F_law_odd (aCons (dVar 2) aNil)))
  k_law_5) e := rfl
noncomputable def k_law_3 : En → SR :=
  (sSeq (sIf (dOp oGe (dVar 3) (dC (.int 0))) (sRet (dCB oAll (aCons (dLc (dRng rng1 (aCons (dC (.int 3)) aNil)) (tgN 6) (fun E => .val .P (.bl true) E.st) ce_law_1 [6]) aNil))) sSkip)
  k_law_4)
theorem q_k_law_3 {e : En} : k_law_3 e = (sSeq (sIf (dOp oGe (dVar 3) (dC (.int 0))) (sRet (dCB oAll (aCons (dLc (dRng rng1 (aCons (dC (.int 3)) aNil)) (tgN 6) (fun E => .val .P (.bl true) E.st) ce_law_1 [6]) aNil))) sSkip)
  k_law_4) e := rfl
noncomputable def k_law_2 : En → SR :=
  (sSeq (sSetF 3 (dCall F_law_bad (aCons (dVar 2) aNil)))
  k_law_3)
theorem q_k_law_2 {e : En} : k_law_2 e = (sSeq (sSetF 3 (dCall F_law_bad (aCons (dVar 2) aNil)))
  k_law_3) e := rfl
noncomputable def k_law_1 : En → SR :=
  (sSeq (sSetF 2 (dCall F_law_text (aCons (dVar 1) aNil)))
  k_law_2)
theorem q_k_law_1 {e : En} : k_law_1 e = (sSeq (sSetF 2 (dCall F_law_text (aCons (dVar 1) aNil)))
  k_law_2) e := rfl
noncomputable def g_law : En → SR :=
  (sSeq (sSetF 1 (dCall F_law_box (aCons (dVar 0) aNil)))
  k_law_1)
noncomputable def F_law : List D → Sto → ER := fnD 1 7 g_law
end Dn
namespace Dn
open PySem PySem.Spec PyProof.Rows L2
def nkSu : Nat → (Nat → Nat) → Nat
  | 0, _ => 0
  | n + 1, f => nkSu n f + f n
def nkAdj (a b a' b' : Int) : Prop := -1 ≤ a - a' ∧ a - a' ≤ 1 ∧ -1 ≤ b - b' ∧ b - b' ≤ 1 ∧ -1 ≤ a - a' + (b - b') ∧ a - a' + (b - b') ≤ 1
def nkDoor (a b a' b' : Int) : Nat := if (b = 0 ∧ 0 < a ∧ b' = -1) ∨ (b' = 0 ∧ 0 < a' ∧ b = -1) then 1 else 0
def nkUp (a b : Int) : Nat := if 0 < b ∨ (b = 0 ∧ 0 < a) then 1 else 0
theorem nk_door_self (a b : Int) : nkDoor a b a b = 0 := by
  unfold nkDoor
  rw [if_neg (by omega)]
theorem nk_tri {a b c d e f : Int} (h1 : nkAdj a b c d) (h2 : nkAdj c d e f) (h3 : nkAdj a b e f) (n1 : ¬ (a = 0 ∧ b = 0)) (n2 : ¬ (c = 0 ∧ d = 0)) (n3 : ¬ (e = 0 ∧ f = 0)) : (nkDoor a b c d + nkDoor c d e f + nkDoor a b e f) % 2 = 0 := by
  unfold nkAdj at *
  unfold nkDoor
  split <;> split <;> split <;> omega
theorem nk_turn {a b c d : Int} (h : nkAdj a b c d) (n1 : ¬ (a = 0 ∧ b = 0)) (n2 : ¬ (c = 0 ∧ d = 0)) : (nkDoor (-a) (-b) (-c) (-d) + nkDoor a b c d + nkUp a b + nkUp c d) % 2 = 0 := by
  unfold nkAdj at *
  unfold nkDoor nkUp
  split <;> split <;> split <;> split <;> omega
theorem nk_up_neg {a b : Int} (n1 : ¬ (a = 0 ∧ b = 0)) : nkUp a b + nkUp (-a) (-b) = 1 := by
  unfold nkUp
  split <;> split <;> omega
section
variable {m : Nat} {A B : Nat → Nat → Int}
theorem nk_strip {w : Nat} (h1 : ∀ x, x < m → nkAdj (A x w) (B x w) (A (x + 1) w) (B (x + 1) w)) (h2 : ∀ x, x ≤ m → nkAdj (A x w) (B x w) (A x (w + 1)) (B x (w + 1))) (h3 : ∀ x, x < m → nkAdj (A (x + 1) w) (B (x + 1) w) (A x (w + 1)) (B x (w + 1))) (h4 : ∀ x, x < m → nkAdj (A x (w + 1)) (B x (w + 1)) (A (x + 1) (w + 1)) (B (x + 1) (w + 1)))
    (nz : ∀ x, x ≤ m → ¬ (A x w = 0 ∧ B x w = 0)) (nz' : ∀ x, x ≤ m → ¬ (A x (w + 1) = 0 ∧ B x (w + 1) = 0)) : ∀ k, k ≤ m →
    (nkSu k (fun x => nkDoor (A x w) (B x w) (A (x + 1) w) (B (x + 1) w)) + nkSu k (fun x => nkDoor (A x (w + 1)) (B x (w + 1)) (A (x + 1) (w + 1)) (B (x + 1) (w + 1))) + nkDoor (A 0 w) (B 0 w) (A 0 (w + 1)) (B 0 (w + 1)) + nkDoor (A k w) (B k w) (A k (w + 1)) (B k (w + 1))) % 2 = 0
  | 0, _ => by simp only [nkSu]; omega
  | k + 1, hk => by
    have ih := nk_strip h1 h2 h3 h4 nz nz' k (by omega)
    have t1 := nk_tri (h1 k (by omega)) (h3 k (by omega)) (h2 k (by omega)) (nz k (by omega)) (nz (k + 1) (by omega)) (nz' k (by omega))
    have t2 := nk_tri (h3 k (by omega)) (h4 k (by omega)) (h2 (k + 1) (by omega)) (nz (k + 1) (by omega)) (nz' k (by omega)) (nz' (k + 1) (by omega))
    simp only [nkSu]
    omega
theorem nk_square (h1 : ∀ w, w ≤ m → ∀ x, x < m → nkAdj (A x w) (B x w) (A (x + 1) w) (B (x + 1) w)) (h2 : ∀ w, w < m → ∀ x, x ≤ m → nkAdj (A x w) (B x w) (A x (w + 1)) (B x (w + 1))) (h3 : ∀ w, w < m → ∀ x, x < m → nkAdj (A (x + 1) w) (B (x + 1) w) (A x (w + 1)) (B x (w + 1)))
    (nz : ∀ w, w ≤ m → ∀ x, x ≤ m → ¬ (A x w = 0 ∧ B x w = 0)) : ∀ w, w ≤ m →
    (nkSu m (fun x => nkDoor (A x 0) (B x 0) (A (x + 1) 0) (B (x + 1) 0)) + nkSu m (fun x => nkDoor (A x w) (B x w) (A (x + 1) w) (B (x + 1) w)) + nkSu w (fun k => nkDoor (A 0 k) (B 0 k) (A 0 (k + 1)) (B 0 (k + 1))) + nkSu w (fun k => nkDoor (A m k) (B m k) (A m (k + 1)) (B m (k + 1)))) % 2 = 0
  | 0, _ => by simp only [nkSu]; omega
  | w + 1, hw => by
    have ih := nk_square h1 h2 h3 nz w (by omega)
    have s := nk_strip (h1 w (by omega)) (h2 w (by omega)) (h3 w (by omega)) (h1 (w + 1) hw) (nz w (by omega)) (nz (w + 1) hw) m (Nat.le_refl _)
    simp only [nkSu]
    omega
end
theorem nk_su_zero {f : Nat → Nat} : ∀ n, (∀ k, k < n → f k = 0) → nkSu n f = 0
  | 0, _ => rfl
  | n + 1, h => by simp only [nkSu]; rw [nk_su_zero n (fun k hk => h k (by omega)), h n (by omega)]
theorem nk_path {m : Nat} {p q : Nat → Int} (h : ∀ k, k < m → nkAdj (p k) (q k) (p (k + 1)) (q (k + 1))) (nz : ∀ k, k ≤ m → ¬ (p k = 0 ∧ q k = 0)) : ∀ n, n ≤ m → (nkSu n (fun k => nkDoor (-p k) (-q k) (-p (k + 1)) (-q (k + 1))) + nkSu n (fun k => nkDoor (p k) (q k) (p (k + 1)) (q (k + 1))) + nkUp (p 0) (q 0) + nkUp (p n) (q n)) % 2 = 0
  | 0, _ => by simp only [nkSu]; omega
  | n + 1, hn => by
    have ih := nk_path h nz n (by omega)
    have t := nk_turn (h n (by omega)) (nz n (by omega)) (nz (n + 1) hn)
    simp only [nkSu]
    omega
structure NkCnt (m : Nat) (ca cb : Nat → Int) : Prop where
  st : ∀ i, i < 2 * m → (ca (i + 1) = ca i + 1 ∧ cb (i + 1) = cb i) ∨ (ca (i + 1) = ca i ∧ cb (i + 1) = cb i + 1) ∨ (ca (i + 1) = ca i ∧ cb (i + 1) = cb i)
theorem neck3 {m : Nat} {ca cb : Nat → Int} (C : NkCnt m ca cb) {ha hb : Int} (a0 : ca 0 = 0) (b0 : cb 0 = 0) (a1 : ca (2 * m) = 2 * ha) (b1 : cb (2 * m) = 2 * hb) :
    ∃ x w, x ≤ m ∧ w ≤ m ∧ ca x - ca (x + w) + ca (m + w) = ha ∧ cb x - cb (x + w) + cb (m + w) = hb := by
  apply Classical.byContradiction
  intro hn
  let A : Nat → Nat → Int := fun x w => ca x - ca (x + w) + ca (m + w) - ha
  let B : Nat → Nat → Int := fun x w => cb x - cb (x + w) + cb (m + w) - hb
  have nz : ∀ w, w ≤ m → ∀ x, x ≤ m → ¬ (A x w = 0 ∧ B x w = 0) := fun w hw x hx h => hn ⟨x, w, hx, hw, by have := h.1; simp only [A] at this; omega, by have := h.2; simp only [B] at this; omega⟩
  have h1 : ∀ w, w ≤ m → ∀ x, x < m → nkAdj (A x w) (B x w) (A (x + 1) w) (B (x + 1) w) := fun w hw x hx => by
    have s1 := C.st x (by omega)
    have s2 := C.st (x + w) (by omega)
    rw [show x + w + 1 = x + 1 + w by omega] at s2
    simp only [A, B, nkAdj]
    omega
  have h2 : ∀ w, w < m → ∀ x, x ≤ m → nkAdj (A x w) (B x w) (A x (w + 1)) (B x (w + 1)) := fun w hw x hx => by
    have s1 := C.st (m + w) (by omega)
    have s2 := C.st (x + w) (by omega)
    rw [show x + w + 1 = x + (w + 1) by omega] at s2
    rw [show m + w + 1 = m + (w + 1) by omega] at s1
    simp only [A, B, nkAdj]
    omega
  have h3 : ∀ w, w < m → ∀ x, x < m → nkAdj (A (x + 1) w) (B (x + 1) w) (A x (w + 1)) (B x (w + 1)) := fun w hw x hx => by
    have s1 := C.st (m + w) (by omega)
    have s2 := C.st x (by omega)
    rw [show m + w + 1 = m + (w + 1) by omega] at s1
    simp only [A, B, nkAdj]
    rw [show x + 1 + w = x + (w + 1) by omega]
    omega
  have key := nk_square h1 h2 h3 nz m (Nat.le_refl _)
  rw [nk_su_zero m (f := fun x => nkDoor (A x 0) (B x 0) (A (x + 1) 0) (B (x + 1) 0)) (fun k _ => by
      have e1 : A k 0 = A (k + 1) 0 := by simp only [A, Nat.add_zero]; omega
      have e2 : B k 0 = B (k + 1) 0 := by simp only [B, Nat.add_zero]; omega
      simp only [e1, e2]; exact nk_door_self _ _),
    nk_su_zero m (f := fun k => nkDoor (A m k) (B m k) (A m (k + 1)) (B m (k + 1))) (fun k _ => by
      have e1 : A m k = A m (k + 1) := by simp only [A]; omega
      have e2 : B m k = B m (k + 1) := by simp only [B]; omega
      simp only [e1, e2]; exact nk_door_self _ _)] at key
  have em : ∀ x, A x m = - A 0 x ∧ B x m = - B 0 x := fun x => by
    simp only [A, B, Nat.zero_add, a0, b0]
    rw [show m + m = 2 * m by omega, a1, b1, show x + m = m + x by omega]
    omega
  have key2 : (nkSu m (fun x => nkDoor (- A 0 x) (- B 0 x) (- A 0 (x + 1)) (- B 0 (x + 1))) + nkSu m (fun k => nkDoor (A 0 k) (B 0 k) (A 0 (k + 1)) (B 0 (k + 1)))) % 2 = 0 := by
    have e : (fun x => nkDoor (A x m) (B x m) (A (x + 1) m) (B (x + 1) m)) = fun x => nkDoor (- A 0 x) (- B 0 x) (- A 0 (x + 1)) (- B 0 (x + 1)) := by
      funext x
      rw [(em x).1, (em x).2, (em (x + 1)).1, (em (x + 1)).2]
    rw [e] at key
    omega
  have pa := nk_path (p := A 0) (q := B 0) (fun k hk => h2 k hk 0 (by omega)) (fun k hk => nz k hk 0 (by omega)) m (Nat.le_refl _)
  have ends := nk_up_neg (nz 0 (by omega) 0 (by omega))
  have e1 : A 0 m = - A 0 0 := (em 0).1
  have e2 : B 0 m = - B 0 0 := (em 0).2
  rw [e1, e2] at pa
  omega
def pc (T : List Nat) (x i : Nat) : Int := (((T.take i).count x : Nat) : Int)
theorem pc_zero (T : List Nat) (x : Nat) : pc T x 0 = 0 := by simp [pc]
theorem pc_all (T : List Nat) (x : Nat) {n : Nat} (h : T.length ≤ n) : pc T x n = ((T.count x : Nat) : Int) := by
  unfold pc; rw [List.take_of_length_le h]
theorem pc_step {T : List Nat} (x : Nat) {i : Nat} (h : i < T.length) : pc T x (i + 1) = pc T x i + if T[i] = x then 1 else 0 := by
  unfold pc
  rw [List.take_add_one, List.getElem?_eq_getElem h, Option.toList_some, List.count_append, List.count_singleton]
  by_cases e : T[i] = x
  · simp [e]
  · simp [e]
theorem pc_span (T : List Nat) (x : Nat) {a b : Nat} (h : a ≤ b) : (((T.drop a).take (b - a)).count x : Int) = pc T x b - pc T x a := by
  unfold pc
  have e : T.take b = T.take a ++ (T.drop a).take (b - a) := by
    have : b = a + (b - a) := by omega
    conv => lhs; rw [this, List.take_add]
  rw [e, List.count_append]
  omega
theorem pc_tail (T : List Nat) (x a : Nat) : ((T.drop a).count x : Int) = ((T.count x : Nat) : Int) - pc T x a := by
  have e := congrArg (List.count x) (List.take_append_drop a T)
  rw [List.count_append] at e
  unfold pc
  omega
def abcs (T : List Nat) : Prop := ∀ c ∈ T, c = 97 ∨ c = 98 ∨ c = 99
theorem pc_sum {T : List Nat} (h : abcs T) : ∀ {i : Nat}, i ≤ T.length → pc T 97 i + pc T 98 i + pc T 99 i = i
  | 0, _ => by simp [pc_zero]
  | i + 1, hi => by
    have ih := pc_sum h (i := i) (by omega)
    have hi' : i < T.length := by omega
    have m := h T[i] (List.getElem_mem _)
    rw [pc_step 97 hi', pc_step 98 hi', pc_step 99 hi']
    rcases m with m | m | m <;> rw [m] <;> simp <;> omega
structure Evn (T : List Nat) : Prop where
  abc : abcs T
  ev : ∀ x, x = 97 ∨ x = 98 ∨ x = 99 → T.count x % 2 = 0
theorem Evn.len {T : List Nat} (h : Evn T) : ((T.length : Nat) : Int) = pc T 97 T.length + pc T 98 T.length + pc T 99 T.length := (pc_sum h.abc (Nat.le_refl _)).symm
theorem Evn.cnt {T : List Nat} (h : Evn T) {x : Nat} (hx : x = 97 ∨ x = 98 ∨ x = 99) : ((T.count x : Nat) : Int) = pc T x T.length := (pc_all T x (Nat.le_refl _)).symm
theorem Evn.half {T : List Nat} (h : Evn T) : T.length = 2 * (T.length / 2) := by
  have l := h.len
  have a := h.ev 97 (.inl rfl)
  have b := h.ev 98 (.inr (.inl rfl))
  have c := h.ev 99 (.inr (.inr rfl))
  rw [← h.cnt (.inl rfl), ← h.cnt (.inr (.inl rfl)), ← h.cnt (.inr (.inr rfl))] at l
  omega
def balD (T cs : List Nat) : Prop := ∀ x, x = 97 ∨ x = 98 ∨ x = 99 → alt x (segs 0 cs T) = 0
section
variable {T : List Nat} (x : Nat)
theorem alt_0 : alt x (segs 0 [] T) = ((T.count x : Nat) : Int) := by simp [segs, alt]
theorem alt_1 (a : Nat) : alt x (segs 0 [a] T) = 2 * pc T x a - ((T.count x : Nat) : Int) := by
  have h1 := pc_span T x (a := 0) (b := a) (Nat.zero_le _)
  have h2 := pc_tail T x a
  simp only [segs, alt]
  rw [h1, h2, pc_zero]
  omega
theorem alt_2 {a b : Nat} (h : a ≤ b) : alt x (segs 0 [a, b] T) = 2 * (pc T x a - pc T x b) + ((T.count x : Nat) : Int) := by
  have h1 := pc_span T x (a := 0) (b := a) (Nat.zero_le _)
  have h2 := pc_span T x h
  have h3 := pc_tail T x b
  simp only [segs, alt]
  rw [h1, h2, h3, pc_zero]
  omega
theorem alt_3 {a b c : Nat} (h : a ≤ b) (h' : b ≤ c) : alt x (segs 0 [a, b, c] T) = 2 * (pc T x a - pc T x b + pc T x c) - ((T.count x : Nat) : Int) := by
  have h1 := pc_span T x (a := 0) (b := a) (Nat.zero_le _)
  have h2 := pc_span T x h
  have h3 := pc_span T x h'
  have h4 := pc_tail T x c
  simp only [segs, alt]
  rw [h1, h2, h3, h4, pc_zero]
  omega
end
section
variable {T : List Nat} (E : Evn T)
include E
theorem bal_len {f : Nat → Int} (h : ∀ x, x = 97 ∨ x = 98 ∨ x = 99 → f x = 0) : f 97 + f 98 + f 99 = 0 := by
  rw [h 97 (.inl rfl), h 98 (.inr (.inl rfl)), h 99 (.inr (.inr rfl))]; rfl
theorem last_1 {a : Nat} (ha : a ≤ T.length) (h : balD T [a]) : a = T.length / 2 := by
  have s := bal_len E h
  rw [alt_1, alt_1, alt_1, E.cnt (.inl rfl), E.cnt (.inr (.inl rfl)), E.cnt (.inr (.inr rfl))] at s
  have l := E.len
  have p := pc_sum E.abc ha
  omega
theorem last_2 {a b : Nat} (hab : a ≤ b) (hb : b ≤ T.length) (h : balD T [a, b]) : b = a + T.length / 2 := by
  have s := bal_len E h
  rw [alt_2 _ hab, alt_2 _ hab, alt_2 _ hab, E.cnt (.inl rfl), E.cnt (.inr (.inl rfl)), E.cnt (.inr (.inr rfl))] at s
  have l := E.len
  have p := pc_sum E.abc (show a ≤ T.length by omega)
  have q := pc_sum E.abc hb
  have hh := E.half
  omega
theorem last_3 {a b c : Nat} (hab : a ≤ b) (hbc : b ≤ c) (hc : c ≤ T.length) (h : balD T [a, b, c]) : c + a = b + T.length / 2 := by
  have s := bal_len E h
  rw [alt_3 _ hab hbc, alt_3 _ hab hbc, alt_3 _ hab hbc, E.cnt (.inl rfl), E.cnt (.inr (.inl rfl)), E.cnt (.inr (.inr rfl))] at s
  have l := E.len
  have p := pc_sum E.abc (show a ≤ T.length by omega)
  have q := pc_sum E.abc (show b ≤ T.length by omega)
  have r := pc_sum E.abc hc
  have hh := E.half
  omega
theorem pc_cnt (x y : Nat) (hxy : x ≠ y) : NkCnt (T.length / 2) (pc T x) (pc T y) := by
  have hh := E.half
  refine ⟨fun i hi => ?_⟩
  have hi' : i < T.length := by omega
  rw [pc_step x hi', pc_step y hi']
  by_cases e1 : T[i] = x
  · have e2 : T[i] ≠ y := fun z => hxy (e1.symm.trans z)
    rw [if_pos e1, if_neg e2]; omega
  · by_cases e2 : T[i] = y
    · rw [if_neg e1, if_pos e2]; omega
    · rw [if_neg e1, if_neg e2]; omega
theorem at_mid (h0 : 0 < T.length) (h : ∀ x, x = 97 ∨ x = 98 ∨ x = 99 → 2 * pc T x (T.length / 2) = ((T.count x : Nat) : Int)) : okCuts T.length 0 [T.length / 2] ∧ balD T [T.length / 2] := by
  have hh := E.half
  refine ⟨⟨by omega, by omega, trivial⟩, fun x hx => ?_⟩
  rw [alt_1, h x hx]; omega
theorem at_two {w : Nat} (h0 : 0 < w) (h1 : w < T.length / 2) (h : ∀ x, x = 97 ∨ x = 98 ∨ x = 99 → 2 * (pc T x (T.length / 2 + w) - pc T x w) = ((T.count x : Nat) : Int)) : okCuts T.length 0 [w, T.length / 2 + w] ∧ balD T [w, T.length / 2 + w] := by
  have hh := E.half
  refine ⟨⟨by omega, by omega, by omega, by omega, trivial⟩, fun x hx => ?_⟩
  have := h x hx
  rw [alt_2 _ (by omega)]; omega
theorem at_three {u w : Nat} (h0 : 0 < u) (h1 : u < T.length / 2) (h2 : 0 < w) (h3 : w < T.length / 2) (h : ∀ x, x = 97 ∨ x = 98 ∨ x = 99 → 2 * (pc T x u - pc T x (u + w) + pc T x (T.length / 2 + w)) = ((T.count x : Nat) : Int)) : okCuts T.length 0 [u, u + w, T.length / 2 + w] ∧ balD T [u, u + w, T.length / 2 + w] := by
  have hh := E.half
  refine ⟨⟨by omega, by omega, by omega, by omega, by omega, by omega, trivial⟩, fun x hx => ?_⟩
  have := h x hx
  rw [alt_3 _ (by omega) (by omega)]; omega
theorem arcs {w : Nat} (h0 : 0 < T.length) (hw : w ≤ T.length / 2) (h : ∀ x, x = 97 ∨ x = 98 ∨ x = 99 → 2 * (pc T x (T.length / 2 + w) - pc T x w) = ((T.count x : Nat) : Int)) : ∃ cs, okCuts T.length 0 cs ∧ balD T cs ∧ 1 ≤ cs.length ∧ cs.length ≤ 2 := by
  have hh := E.half
  by_cases w0 : w = 0
  · subst w0
    obtain ⟨k1, k2⟩ := at_mid E h0 fun x hx => by
      have := h x hx
      rw [pc_zero, Nat.add_zero] at this; omega
    exact ⟨_, k1, k2, by simp, by simp⟩
  · by_cases w1 : w = T.length / 2
    · subst w1
      obtain ⟨k1, k2⟩ := at_mid E h0 fun x hx => by
        have := h x hx
        rw [show T.length / 2 + T.length / 2 = T.length by omega, ← E.cnt hx] at this; omega
      exact ⟨_, k1, k2, by simp, by simp⟩
    · obtain ⟨k1, k2⟩ := at_two E (w := w) (by omega) (by omega) h
      exact ⟨_, k1, k2, by simp, by simp⟩
theorem third {f : Nat → Int} (hf : f 97 + f 98 + f 99 = 0) {x y : Nat} (hx : x = 97 ∨ x = 98 ∨ x = 99) (hy : y = 97 ∨ y = 98 ∨ y = 99) (hxy : x ≠ y) (h1 : f x = 0) (h2 : f y = 0) : ∀ z, z = 97 ∨ z = 98 ∨ z = 99 → f z = 0 := by
  intro z hz
  rcases hx with rfl | rfl | rfl <;> rcases hy with rfl | rfl | rfl <;> rcases hz with rfl | rfl | rfl <;> first | exact absurd rfl hxy | omega
theorem neck_3 (h0 : 0 < T.length) : ∃ cs, okCuts T.length 0 cs ∧ balD T cs ∧ 1 ≤ cs.length ∧ cs.length ≤ 3 := by
  have hh := E.half
  have ea : pc T 97 (2 * (T.length / 2)) = 2 * (pc T 97 (2 * (T.length / 2)) / 2) := by
    rw [← hh, ← E.cnt (.inl rfl)]
    have := E.ev 97 (.inl rfl); omega
  have eb : pc T 98 (2 * (T.length / 2)) = 2 * (pc T 98 (2 * (T.length / 2)) / 2) := by
    rw [← hh, ← E.cnt (.inr (.inl rfl))]
    have := E.ev 98 (.inr (.inl rfl)); omega
  obtain ⟨u, w, hu, hw, h1, h2⟩ := neck3 (pc_cnt E 97 98 (by decide)) (pc_zero _ _) (pc_zero _ _) ea eb
  rw [← hh] at h1 h2 ea eb
  have key : ∀ x, x = 97 ∨ x = 98 ∨ x = 99 → 2 * (pc T x u - pc T x (u + w) + pc T x (T.length / 2 + w)) - ((T.count x : Nat) : Int) = 0 := by
    refine third E (f := fun x => 2 * (pc T x u - pc T x (u + w) + pc T x (T.length / 2 + w)) - ((T.count x : Nat) : Int)) ?_ (.inl rfl) (.inr (.inl rfl)) (by decide) ?_ ?_
    · have l := E.len
      have p := pc_sum E.abc (show u ≤ T.length by omega)
      have q := pc_sum E.abc (show u + w ≤ T.length by omega)
      have r := pc_sum E.abc (show T.length / 2 + w ≤ T.length by omega)
      rw [E.cnt (.inl rfl), E.cnt (.inr (.inl rfl)), E.cnt (.inr (.inr rfl))]
      omega
    · rw [E.cnt (.inl rfl)]; omega
    · rw [E.cnt (.inr (.inl rfl))]; omega
  have up : ∀ {cs : List Nat}, (okCuts T.length 0 cs ∧ balD T cs ∧ 1 ≤ cs.length ∧ cs.length ≤ 2) → okCuts T.length 0 cs ∧ balD T cs ∧ 1 ≤ cs.length ∧ cs.length ≤ 3 := fun h => ⟨h.1, h.2.1, h.2.2.1, by have := h.2.2.2; omega⟩
  by_cases u0 : u = 0
  · subst u0
    obtain ⟨cs, h⟩ := arcs E h0 hw fun x hx => by
      have := key x hx
      rw [pc_zero, Nat.zero_add] at this; omega
    exact ⟨cs, up h⟩
  · by_cases u1 : u = T.length / 2
    · subst u1
      obtain ⟨k1, k2⟩ := at_mid E h0 fun x hx => by have := key x hx; omega
      exact ⟨_, k1, k2, by simp, by simp⟩
    · by_cases w0 : w = 0
      · subst w0
        obtain ⟨k1, k2⟩ := at_mid E h0 fun x hx => by
          have := key x hx
          rw [Nat.add_zero, Nat.add_zero] at this; omega
        exact ⟨_, k1, k2, by simp, by simp⟩
      · by_cases w1 : w = T.length / 2
        · subst w1
          obtain ⟨cs, h⟩ := arcs E (w := u) h0 hu fun x hx => by
            have := key x hx
            rw [show T.length / 2 + T.length / 2 = T.length by omega, ← E.cnt hx, Nat.add_comm u] at this; omega
          exact ⟨cs, up h⟩
        · obtain ⟨k1, k2⟩ := at_three E (u := u) (w := w) (by omega) (by omega) (by omega) (by omega) fun x hx => by have := key x hx; omega
          exact ⟨_, k1, k2, by simp, by simp⟩
end
theorem inL_pur {α : Type} [DecidableEq α] {enc : α → D} (hp : ∀ a, pur (enc a) = true) (hd : ∀ a, dep (enc a) ≤ 60) (hi : ∀ a b, enc a = enc b → a = b) (a : α) (l : List α) : inL (enc a) (l.map enc) = some (decide (a ∈ l)) := by
  obtain ⟨a1, a2, a3⟩ := pur_py _ (hp a)
  obtain ⟨b1, b2, b3⟩ := purL_py _ (purL_map hp l)
  have d1 := hd a
  have d2 := depL_map hd l
  unfold inL
  rw [if_pos ⟨a1, b1, by simp [SeqAt.shaped, a2, a3]; omega, by simp [SeqAt.shaped, PyData.canLay0, PyData.depth, b2, b3]; omega⟩]
  congr 1
  rw [Bool.eq_iff_iff, decide_eq_true_iff]
  clear d2 b1 b2 b3
  induction l with
  | nil => simp [pyL]
  | cons b l ih =>
    rw [List.map_cons, pyL, List.any_cons, Bool.or_eq_true, ih, eqv_pur _ _ (hp b) (hp a), List.mem_cons]
    constructor
    · rintro (h | h)
      · exact .inl (hi _ _ h).symm
      · exact .inr h
    · rintro (h | h)
      · exact .inl (by rw [h])
      · exact .inr h
theorem rng1_nat {n : Nat} (h : n ≤ 1000000) : rng1 [.int (n : Int)] = some (0, n) := by
  rw [e_rng1, if_pos (by omega)]
  simp
theorem dRng_of {r : List D → Option (Int × Nat)} {f : En → AR} {E : En} {p : Bool} {l : List D} {st : Sto} {a : Int} {n : Nat} (h : f E = .ok p l st) (hr : r l = some (a, n)) : dRng r f E = .ok true (rangeD a n) st := by
  rw [e_dRng, h]
  simp only [hr]
theorem sFor_of {src : En → AR} {t : D → DE → Option DE} {b : En → SR} {E : En} {p : Bool} {l : List D} {st : Sto} (h : src E = .ok p l st) : sFor src t b E = forD (tgB t b) l ⟨E.e, st⟩ := by
  rw [e_sFor, h]
abbrev dS (l : List Nat) : D := .str (S l)
abbrev dN (n : Nat) : D := .int (n : Int)
def dP (T : List Nat) (i : Nat) : D := .lst [.int (pc T 97 i), .int (pc T 98 i), .int (pc T 99 i)]
theorem chars_S (T : List Nat) : itemsOf (.str (S T)) = some (T.map fun c => .str ⟨#[c]⟩) := by
  show some ((S T).cps.toList.map fun c => D.str ⟨#[c]⟩) = _
  rw [S_cps]
theorem eq_sign (c d : Nat) (st : Sto) : oEq (.str ⟨#[c]⟩) (.str ⟨#[d]⟩) st = .val .P (.bl (decide (c = d))) st := by
  have e : (⟨#[c]⟩ : Str) = ⟨#[d]⟩ ↔ c = d := by
    constructor
    · intro h; injection h with h; simpa using h
    · rintro rfl; rfl
  simp [e]
theorem atI_last {α : Type} (l : List α) (a : α) : atI (l ++ [a]) (-1) = some a := by
  have e : (l ++ [a]).length = l.length + 1 := by simp
  have h : ixN (l ++ [a]).length (-1) = some l.length := by
    rw [e]
    simp only [ixN]
    rw [if_neg (by omega), if_pos (by omega)]
    congr 1
    omega
  unfold atI
  rw [h]
  simp
theorem sum_step {st : Sto} {v0 v3 v4 : SL} {acc : List D} {a b d : Int} {c : Nat} (ha : acc.length + 1 < 1000000) :
    fb_sums_ahead_3 ⟨[v0, .own (acc ++ [.lst [.int a, .int b, .int d]]), .val (.str ⟨#[c]⟩), v3, v4], st⟩ = .nx ⟨[v0, .own (acc ++ [.lst [.int a, .int b, .int d]] ++ [.lst [.int (a + if c = 97 then 1 else 0), .int (b + if c = 98 then 1 else 0), .int (d + if c = 99 then 1 else 0)]]), .val (.str ⟨#[c]⟩), v3, v4], st⟩ := by
  have hat := atI_last acc (.lst [.int a, .int b, .int d])
  have hl : (acc ++ [D.lst [.int a, .int b, .int d]]).length < 1000000 := by simp; omega
  have hz : zipD [.int a, .int b, .int d] ((Str.ofString "abc").cps.toList.map fun c => D.str ⟨#[c]⟩) = [(a, 97), (b, 98), (d, 99)].map fun p : Int × Nat => .tup [.int p.1, .str ⟨#[p.2]⟩] := rfl
  generalize acc ++ [D.lst [.int a, .int b, .int d]] = L at *
  have lc : lcGo (lcStep (tgT 2 (tgsCons (tgN 3) (tgsCons (tgN 4) tgsNil))) (fun E => ER.val Md.P (D.bl true) E.st) ce_sums_ahead_2 [v0, .own L, .val (.str ⟨#[c]⟩), .emp, .emp]) ([(a, 97), (b, 98), (d, 99)].map fun p : Int × Nat => .tup [.int p.1, .str ⟨#[p.2]⟩]) st = some ([(a, 97), (b, 98), (d, 99)].map fun p : Int × Nat => .int (p.1 + if c = p.2 then 1 else 0), st) := by
    refine lc_map fun p _ => ?_
    have e := eq_sign c p.2 st
    by_cases h : c = p.2
    · rw [decide_eq_true h] at e
      simp -implicitDefEqProofs [q_ce_sums_ahead_2, e, h]
    · rw [decide_eq_false h] at e
      simp -implicitDefEqProofs [q_ce_sums_ahead_2, e, h]
  have l3 : ([(a, 97), (b, 98), (d, 99)].map fun p : Int × Nat => D.tup [.int p.1, .str ⟨#[p.2]⟩]).length ≤ 1000000 := by simp
  have e3 : ([(a, 97), (b, 98), (d, 99)].map fun p : Int × Nat => D.int (p.1 + if c = p.2 then 1 else 0)) = [.int (a + if c = 97 then 1 else 0), .int (b + if c = 98 then 1 else 0), .int (d + if c = 99 then 1 else 0)] := rfl
  rw [e3] at lc
  generalize ([(a, 97), (b, 98), (d, 99)].map fun p : Int × Nat => D.tup [.int p.1, .str ⟨#[p.2]⟩]) = ZD at *
  simp -implicitDefEqProofs [q_fb_sums_ahead_3, hat, hz, lc, hl, l3]
theorem sums_loop {T : List Nat} (hT : T.length ≤ 1000) {st : Sto} {v3 v4 : SL} : ∀ (ys done : List Nat) (x2 : SL), T = done ++ ys →
    ∃ x2', forD (tgB (tgN 2) fb_sums_ahead_3) (ys.map fun c => .str ⟨#[c]⟩) ⟨[.val (dS T), .own ((List.range (done.length + 1)).map (dP T)), x2, v3, v4], st⟩ = .nx ⟨[.val (dS T), .own ((List.range (T.length + 1)).map (dP T)), x2', v3, v4], st⟩
  | [], done, x2, e => ⟨x2, by rw [e, List.append_nil]; rfl⟩
  | c :: ys, done, x2, e => by
    have hd : done.length < T.length := by rw [e]; simp
    have hc : T[done.length] = c := by simp [e]
    obtain ⟨x2', ih⟩ := sums_loop hT (st := st) (v3 := v3) (v4 := v4) ys (done ++ [c]) (.val (.str ⟨#[c]⟩)) (by rw [e]; simp)
    refine ⟨x2', ?_⟩
    rw [← ih, List.map_cons, e_forC]
    have r1 : (List.range (done.length + 1)).map (dP T) = (List.range done.length).map (dP T) ++ [dP T done.length] := by
      rw [List.range_succ, List.map_append]; rfl
    have s := sum_step (st := st) (v0 := .val (dS T)) (v3 := v3) (v4 := v4) (acc := (List.range done.length).map (dP T)) (a := pc T 97 done.length) (b := pc T 98 done.length) (d := pc T 99 done.length) (c := c) (by simp; omega)
    have p1 := pc_step 97 hd
    have p2 := pc_step 98 hd
    have p3 := pc_step 99 hd
    rw [hc] at p1 p2 p3
    rw [← p1, ← p2, ← p3] at s
    have r2 : (List.range ((done ++ [c]).length + 1)).map (dP T) = (List.range done.length).map (dP T) ++ [dP T done.length] ++ [dP T (done.length + 1)] := by
      rw [List.length_append, List.length_singleton, List.range_succ, List.map_append, List.range_succ, List.map_append]; rfl
    rw [r1, r2]
    have s' : tgB (tgN 2) fb_sums_ahead_3 (.str ⟨#[c]⟩) ⟨[.val (dS T), .own ((List.range done.length).map (dP T) ++ [dP T done.length]), x2, v3, v4], st⟩ = .nx ⟨[.val (dS T), .own ((List.range done.length).map (dP T) ++ [dP T done.length] ++ [dP T (done.length + 1)]), .val (.str ⟨#[c]⟩), v3, v4], st⟩ := s
    rw [s']
theorem sums_eq {T : List Nat} (hT : T.length ≤ 1000) (st : Sto) : F_sums_ahead [dS T] st = .val .N (.lst ((List.range (T.length + 1)).map (dP T))) st := by
  obtain ⟨x2', h⟩ := sums_loop hT (st := st) (v3 := .emp) (v4 := .emp) T [] .emp rfl
  have it := chars_S T
  have h' : forD (tgB (tgN 2) fb_sums_ahead_3) (T.map fun c => .str ⟨#[c]⟩) ⟨[.val (.str (S T)), .own [.lst [.int 0, .int 0, .int 0]], .emp, .emp, .emp], st⟩ = .nx ⟨[.val (.str (S T)), .own ((List.range (T.length + 1)).map (dP T)), x2', .emp, .emp], st⟩ := by
    rw [← h]
    simp [dP, pc_zero]
  clear h
  generalize (List.range (T.length + 1)).map (dP T) = L at *
  generalize (T.map fun c => D.str ⟨#[c]⟩) = TD at *
  show F_sums_ahead [.str (S T)] _ = _
  generalize S T = z at *
  simp -implicitDefEqProofs [F_sums_ahead, g_sums_ahead, -e_itS, it, h']
def acs : Nat → Nat → Nat → List (List Nat)
  | 0, _, _ => [[]]
  | m + 1, lo, hi => (List.range (hi + 1 - lo)).flatMap fun k => (acs m (lo + k + 1) hi).map ((lo + k) :: ·)
abbrev dL (cs : List Nat) : D := .lst (cs.map dN)
noncomputable def gi : En → SR := sMt mAppend 3 (aCons (dOp oAdd (dLst (aCons (dVar 4) aNil)) (dVar 5)) aNil)
noncomputable def gb (F : List D → Sto → ER) : En → SR := sFor (dIter (dCall F (aCons (dOp oAdd (dVar 4) (dC (.int 1))) (aCons (dVar 1) (aCons (dOp oSub (dVar 2) (dC (.int 1))) aNil))))) (tgN 5) gi
noncomputable def gg (b : En → SR) : En → SR :=
  (sSeq (sIf (dOp oEq (dVar 2) (dC (.int 0))) (sRet (dLst (aCons (dLst aNil) aNil))) sSkip)
  (sSeq (sSet 3 (dLst aNil))
  (sSeq (sFor (dRng rng2 (aCons (dVar 0) (aCons (dOp oAdd (dVar 1) (dC (.int 1))) aNil))) (tgN 4) b)
  (sRetV 3))))
theorem gg_zero (b : En → SR) (lo hi : Int) (st : Sto) : fnD 3 6 (gg b) [.int lo, .int hi, .int 0] st = .val .N (.lst [.lst []]) st := by
  simp [gg]
theorem gi_loop {v0 v1 v2 : SL} {c : Nat} {st : Sto} : ∀ (L : List (List Nat)) (acc : List D) (x5 : SL), acc.length + L.length ≤ 100000 → (∀ l ∈ L, l.length ≤ 1000) →
    ∃ x5', forD (tgB (tgN 5) gi) (L.map dL) ⟨[v0, v1, v2, .own acc, .val (dN c), x5], st⟩ = .nx ⟨[v0, v1, v2, .own (acc ++ (L.map (c :: ·)).map dL), .val (dN c), x5'], st⟩
  | [], acc, x5, _, _ => ⟨x5, by simp⟩
  | l :: L, acc, x5, h, hl => by
    have h1 : acc.length < 1000000 := by omega
    have h2 := hl l (List.mem_cons_self ..)
    have h3 : 1 + (l.map dN).length ≤ 1000000 := by simp; omega
    obtain ⟨x5', ih⟩ := gi_loop (v0 := v0) (v1 := v1) (v2 := v2) (c := c) (st := st) L (acc ++ [dL (c :: l)]) (.val (dL l)) (by simp at h ⊢; omega) (fun l m => hl l (List.mem_cons_of_mem _ m))
    refine ⟨x5', ?_⟩
    have e : acc ++ ((l :: L).map (c :: ·)).map dL = acc ++ [dL (c :: l)] ++ (L.map (c :: ·)).map dL := by simp
    rw [e, ← ih, List.map_cons, e_forC]
    have s : tgB (tgN 5) gi (dL l) ⟨[v0, v1, v2, .own acc, .val (dN c), x5], st⟩ = .nx ⟨[v0, v1, v2, .own (acc ++ [dL (c :: l)]), .val (dN c), .val (dL l)], st⟩ := by
      have e2 : dL (c :: l) = .lst ([dN c] ++ l.map dN) := rfl
      have e3 : dL l = .lst (l.map dN) := rfl
      rw [e2, e3]
      clear ih e e2 e3
      generalize l.map dN = LD at *
      generalize dN c = C at *
      have h4 : LD.length + 1 ≤ 1000000 := by omega
      simp -implicitDefEqProofs [gi, h1, h4, Nat.add_comm]
    rw [s]
theorem acs_len : ∀ (m lo hi : Nat), (acs m lo hi).length ≤ (hi + 1) ^ m ∧ ∀ l ∈ acs m lo hi, l.length = m
  | 0, lo, hi => by simp [acs]
  | m + 1, lo, hi => by
    refine ⟨?_, fun l hl => ?_⟩
    · rw [acs, List.length_flatMap]
      have : ∀ n, n ≤ hi + 1 → ((List.range n).map fun k => ((acs m (lo + k + 1) hi).map ((lo + k) :: ·)).length).sum ≤ n * (hi + 1) ^ m := by
        intro n hn
        induction n with
        | zero => simp
        | succ n ih =>
          have i := ih (by omega)
          have b := (acs_len m (lo + n + 1) hi).1
          rw [List.range_succ, List.map_append, List.sum_append]
          simp only [List.map_cons, List.map_nil, List.sum_cons, List.sum_nil, List.length_map] at i ⊢
          rw [Nat.succ_mul]
          omega
      have h := this (hi + 1 - lo) (by omega)
      refine Nat.le_trans h ?_
      rw [Nat.pow_succ, Nat.mul_comm]
      exact Nat.mul_le_mul_left _ (by omega)
    · rw [acs] at hl
      obtain ⟨k, _, hk⟩ := List.mem_flatMap.mp hl
      obtain ⟨l', hl', rfl⟩ := List.mem_map.mp hk
      rw [List.length_cons, (acs_len m _ hi).2 l' hl']
theorem gb_loop {F : List D → Sto → ER} {m lo hi : Nat} {st : Sto} {md : Md} (hm : md ≠ .B) (hF : ∀ lo', lo' ≤ hi + 1 → F [dN lo', dN hi, dN m] st = .val md (.lst ((acs m lo' hi).map dL)) st) (hb : (hi + 1) ^ (m + 1) ≤ 90000) (h1000 : m ≤ 900) : ∀ (n k : Nat) (x4 x5 : SL), k + n = hi + 1 - lo →
    ∃ x4' x5', forD (tgB (tgN 4) (gb F)) ((List.range' k n).map fun j => dN (lo + j)) ⟨[.val (dN lo), .val (dN hi), .val (dN (m + 1)), .own (((List.range k).flatMap fun k => (acs m (lo + k + 1) hi).map ((lo + k) :: ·)).map dL), x4, x5], st⟩ = .nx ⟨[.val (dN lo), .val (dN hi), .val (dN (m + 1)), .own ((acs (m + 1) lo hi).map dL), x4', x5'], st⟩
  | 0, k, x4, x5, e => ⟨x4, x5, by rw [Nat.add_zero] at e; subst e; rfl⟩
  | n + 1, k, x4, x5, e => by
    have hl := acs_len m (lo + k + 1) hi
    have hk : k + 1 ≤ hi + 1 := by omega
    have acl : (((List.range k).flatMap fun k => (acs m (lo + k + 1) hi).map ((lo + k) :: ·)).map dL).length ≤ k * (hi + 1) ^ m := by
      rw [List.length_map, List.length_flatMap]
      clear e hk
      induction k with
      | zero => simp
      | succ k ih =>
        have b := (acs_len m (lo + k + 1) hi).1
        have i := ih (acs_len m (lo + k + 1) hi)
        rw [List.range_succ, List.map_append, List.sum_append]
        simp only [List.map_cons, List.map_nil, List.sum_cons, List.sum_nil, List.length_map] at i ⊢
        rw [Nat.succ_mul]
        omega
    have tot : k * (hi + 1) ^ m + (hi + 1) ^ m ≤ (hi + 1) ^ (m + 1) := by
      rw [← Nat.succ_mul, Nat.pow_succ, Nat.mul_comm ((hi + 1) ^ m)]
      exact Nat.mul_le_mul_right _ hk
    obtain ⟨y5, hi1⟩ := gi_loop (v0 := .val (dN lo)) (v1 := .val (dN hi)) (v2 := .val (dN (m + 1))) (c := lo + k) (st := st) (acs m (lo + k + 1) hi) (((List.range k).flatMap fun k => (acs m (lo + k + 1) hi).map ((lo + k) :: ·)).map dL) x5 (by
      have h1 := hl.1
      generalize (hi + 1) ^ (m + 1) = P2 at *
      generalize (hi + 1) ^ m = P1 at *
      generalize k * P1 = KP at *
      exact Nat.le_trans (Nat.add_le_add acl h1) (by omega)) (fun l hm => by have := hl.2 l hm; omega)
    obtain ⟨x4', x5', ih⟩ := gb_loop (lo := lo) hm hF hb h1000 n (k + 1) (.val (dN (lo + k))) y5 (by omega)
    refine ⟨x4', x5', ?_⟩
    rw [← ih, List.range'_succ, List.map_cons, e_forC]
    have r2 : ((List.range (k + 1)).flatMap fun k => (acs m (lo + k + 1) hi).map ((lo + k) :: ·)).map dL = ((List.range k).flatMap fun k => (acs m (lo + k + 1) hi).map ((lo + k) :: ·)).map dL ++ ((acs m (lo + k + 1) hi).map ((lo + k) :: ·)).map dL := by
      rw [List.range_succ, List.flatMap_append, List.map_append]; simp
    rw [r2]
    have hF1 : F [.int ((lo + k : Nat) + 1 : Int), dN hi, dN m] st = .val md (.lst ((acs m (lo + k + 1) hi).map dL)) st := hF (lo + k + 1) (by omega)
    have e2 : ((m + 1 : Nat) : Int) - 1 = (m : Int) := by omega
    have s : tgB (tgN 4) (gb F) (dN (lo + k)) ⟨[.val (dN lo), .val (dN hi), .val (dN (m + 1)), .own (((List.range k).flatMap fun k => (acs m (lo + k + 1) hi).map ((lo + k) :: ·)).map dL), x4, x5], st⟩ = .nx ⟨[.val (dN lo), .val (dN hi), .val (dN (m + 1)), .own (((List.range k).flatMap fun k => (acs m (lo + k + 1) hi).map ((lo + k) :: ·)).map dL ++ ((acs m (lo + k + 1) hi).map ((lo + k) :: ·)).map dL), .val (dN (lo + k)), y5], st⟩ := by
      rw [← hi1]
      clear ih hF
      simp only [dN] at hF1 hi1 ⊢
      generalize ((List.range k).flatMap fun k => (acs m (lo + k + 1) hi).map ((lo + k) :: ·)).map dL = AD at *
      generalize (acs m (lo + k + 1) hi).map dL = LD at *
      generalize ((lo + k : Nat) : Int) = i at *
      generalize ((m + 1 : Nat) : Int) = m1 at *
      cases md with
      | B => exact absurd rfl hm
      | P => simp -implicitDefEqProofs [gb, e2, hF1]
      | N => simp -implicitDefEqProofs [gb, e2, hF1]
    rw [s]
theorem gg_succ {F : List D → Sto → ER} {m lo hi : Nat} {st : Sto} {md : Md} (hm : md ≠ .B) (hF : ∀ lo', lo' ≤ hi + 1 → F [dN lo', dN hi, dN m] st = .val md (.lst ((acs m lo' hi).map dL)) st) (hb : (hi + 1) ^ (m + 1) ≤ 90000) (h1000 : m ≤ 900) (hlo : lo ≤ 100000) (hhi : hi ≤ 100000) : fnD 3 6 (gg (gb F)) [dN lo, dN hi, dN (m + 1)] st = .val .N (.lst ((acs (m + 1) lo hi).map dL)) st := by
  obtain ⟨x4', x5', h⟩ := gb_loop hm hF hb h1000 (lo := lo) (hi + 1 - lo) 0 .emp .emp (by omega)
  have er : rangeD (lo : Int) ((hi : Int) + 1 - lo).toNat = (List.range' 0 (hi + 1 - lo)).map fun j => dN (lo + j) := by
    unfold rangeD
    rw [show ((hi : Int) + 1 - lo).toNat = hi + 1 - lo by omega, List.range_eq_range']
    exact List.map_congr_left fun k _ => by simp
  have h0 : forD (tgB (tgN 4) (gb F)) (rangeD (lo : Int) ((hi : Int) + 1 - lo).toNat) ⟨[.val (dN lo), .val (dN hi), .val (dN (m + 1)), .own [], .emp, .emp], st⟩ = .nx ⟨[.val (dN lo), .val (dN hi), .val (dN (m + 1)), .own ((acs (m + 1) lo hi).map dL), x4', x5'], st⟩ := by rw [er]; exact h
  have z : ((m + 1 : Nat) : Int) ≠ 0 := by omega
  have b1 : -(2 ^ 62) ≤ (lo : Int) ∧ (lo : Int) < 2 ^ 62 ∧ -(2 ^ 62) ≤ (hi : Int) + 1 ∧ (hi : Int) + 1 < 2 ^ 62 := by omega
  have hr : rng2 [.int (lo : Int), .int ((hi : Int) + 1)] = some ((lo : Int), ((hi : Int) + 1 - lo).toNat) := by rw [e_rng2, if_pos b1]
  generalize (acs (m + 1) lo hi).map dL = LD at *
  simp only [dN] at h0 ⊢
  generalize hk : ((hi : Int) + 1 - lo).toNat = kk at *
  generalize ((m + 1 : Nat) : Int) = m1 at *
  generalize (lo : Int) = l0 at *
  generalize (hi : Int) = h1 at *
  clear hF er h hb b1
  have z2 : decide (m1 = 0) = false := decide_eq_false z
  have hs := sFor_of (src := dRng rng2 (aCons (dVar 0) (aCons (dOp oAdd (dVar 1) (dC (.int 1))) aNil))) (t := tgN 4) (b := gb F) (E := ⟨[.val (.int l0), .val (.int h1), .val (.int m1), .own [], .emp, .emp], st⟩) (p := true) (l := rangeD l0 kk) (st := st) (dRng_of (p := true) (l := [.int l0, .int (h1 + 1)]) (by simp) hr)
  rw [h0] at hs
  simp -implicitDefEqProofs [gg, z, z2, hs, -e_sFor]
def okI (n : Int) : Int → List Int → Bool
  | _, [] => true
  | h, c :: cs => decide (h < c) && (decide (c < n) && okI n c cs)
theorem cuts_loop {T : List Nat} {cs : List Int} (hT : T.length ≤ 1000) {st : Sto} : ∀ (rest done : List Int) (h : Int) (e2 e3 : SL), cs = done ++ rest → (done = [] ∧ h = 0 ∨ ∃ d, done = d ++ [h] ∧ 0 < h) →
    ∃ e2' e3', forD (tgB (tgT 2 (tgsCons (tgN 2) (tgsCons (tgN 3) tgsNil))) fb_is_cuts_1) (enumD done.length (rest.map .int)) ⟨[.val (.str (S T)), .val (.lst (cs.map .int)), e2, e3], st⟩ = if okI T.length h rest = true then .nx ⟨[.val (.str (S T)), .val (.lst (cs.map .int)), e2', e3'], st⟩ else .rt .P (.bl false) st
  | [], done, h, e2, e3, _, _ => ⟨e2, e3, by simp [enumD, okI]⟩
  | c :: rest, done, h, e2, e3, hc, hd => by
    have hl : T.length ≤ 1000000 := by omega
    have hsl : (S T).length = T.length := S_len T
    generalize hz : S T = z at *
    by_cases c1 : h < c
    · by_cases c2 : c < T.length
      · have h0 : 0 ≤ h := by rcases hd with ⟨_, rfl⟩ | ⟨_, _, h⟩ <;> omega
        obtain ⟨f2, f3, ih⟩ := cuts_loop hT (cs := cs) (st := st) rest (done ++ [c]) c (.val (.int done.length)) (.val (.int c)) (by rw [hc]; simp) (.inr ⟨done, rfl, by omega⟩)
        refine ⟨f2, f3, ?_⟩
        rw [hz] at ih
        rw [List.length_append, List.length_singleton] at ih
        have n1 : ¬ c < 1 := by omega
        have n2 : ¬ (T.length : Int) ≤ c := by omega
        have ok : okI T.length h (c :: rest) = okI T.length c rest := by simp [okI, c1, c2]
        rw [ok, ← ih]
        have hb : fb_is_cuts_1 ⟨[.val (.str z), .val (.lst (cs.map .int)), .val (.int done.length), .val (.int c)], st⟩ = .nx ⟨[.val (.str z), .val (.lst (cs.map .int)), .val (.int done.length), .val (.int c)], st⟩ := by
          rcases hd with ⟨rfl, rfl⟩ | ⟨d, rfl, hh⟩
          · simp [q_fb_is_cuts_1, hl, hsl, n1, n2]
          · have hat : atI (cs.map D.int) (((d ++ [h]).length : Int) - 1) = some (.int h) := by
              have e : (((d ++ [h]).length : Int) - 1) = (d.length : Int) := by simp
              rw [e]
              refine atI_nat ?_
              rw [hc]; simp
            have p1 : (0 : Int) < ((d ++ [h]).length : Int) := by simp
            have n3 : ¬ c ≤ h := by omega
            generalize ((d ++ [h]).length : Int) = k at *
            generalize cs.map D.int = CD at *
            simp [q_fb_is_cuts_1, hl, hsl, n1, n2, p1, hat, n3]
        rw [List.map_cons, enumD, e_forC]
        generalize cs.map D.int = CD at *
        generalize rest.map D.int = RD at *
        simp [hb]
      · refine ⟨e2, e3, ?_⟩
        have n2 : (T.length : Int) ≤ c := by omega
        have ok : okI T.length h (c :: rest) = false := by simp [okI, c1, c2]
        rw [ok, List.map_cons, enumD, e_forC]
        generalize cs.map D.int = CD at *
        by_cases n1 : c < 1
        · simp [q_fb_is_cuts_1, n1]
        · simp [q_fb_is_cuts_1, hl, hsl, n1, n2]
    · refine ⟨e2, e3, ?_⟩
      have ok : okI T.length h (c :: rest) = false := by simp [okI, c1]
      rw [ok, List.map_cons, enumD, e_forC]
      rcases hd with ⟨rfl, rfl⟩ | ⟨d, rfl, hh⟩
      · have n1 : c < 1 := by omega
        generalize cs.map D.int = CD at *
        simp [q_fb_is_cuts_1, n1]
      · have hat : atI (cs.map D.int) (((d ++ [h]).length : Int) - 1) = some (.int h) := by
          have e : (((d ++ [h]).length : Int) - 1) = (d.length : Int) := by simp
          rw [e]
          refine atI_nat ?_
          rw [hc]; simp
        have p1 : (0 : Int) < ((d ++ [h]).length : Int) := by simp
        have n3 : c ≤ h := by omega
        generalize ((d ++ [h]).length : Int) = k at *
        generalize cs.map D.int = CD at *
        by_cases n1 : c < 1
        · simp [q_fb_is_cuts_1, n1]
        · by_cases n2 : (T.length : Int) ≤ c
          · simp [q_fb_is_cuts_1, hl, hsl, n1, n2]
          · simp [q_fb_is_cuts_1, hl, hsl, n1, n2, p1, hat, n3]
theorem is_cuts_eq {T : List Nat} {cs : List Int} (hT : T.length ≤ 1000) (hc : cs.length ≤ 1000) (st : Sto) : F_is_cuts [.str (S T), .lst (cs.map .int)] st = .val .P (.bl (okI T.length 0 cs)) st := by
  obtain ⟨e2, e3, h⟩ := cuts_loop hT (cs := cs) (st := st) cs [] 0 .emp .emp rfl (.inl ⟨rfl, rfl⟩)
  have h' : forD (tgB (tgT 2 (tgsCons (tgN 2) (tgsCons (tgN 3) tgsNil))) fb_is_cuts_1) (enumD 0 (cs.map .int)) ⟨[.val (.str (S T)), .val (.lst (cs.map .int)), .emp, .emp], st⟩ = _ := h
  generalize cs.map D.int = CD at *
  generalize S T = z at *
  cases q : okI T.length 0 cs with
  | false => simp [F_is_cuts, g_is_cuts, h', q]
  | true => simp [F_is_cuts, g_is_cuts, h', q]
theorem int_eq3 (a b c a' b' c' : Int) (st : Sto) : oEq (.lst [.int a, .int b, .int c]) (.lst [.int a', .int b', .int c']) st = .val .P (.bl (decide (a = a' ∧ b = b' ∧ c = c'))) st := by
  have := eq_lst (enc := D.int) (fun _ => rfl) (fun _ => by simp [dep]) (fun a b h => by injection h) [a, b, c] [a', b', c'] st
  rw [show decide (a = a' ∧ b = b' ∧ c = c') = decide ([a, b, c] = [a', b', c']) by simp]
  exact this
def even3 (T cs : List Nat) : Bool := decide (alt 97 (segs 0 cs T) = 0 ∧ alt 98 (segs 0 cs T) = 0 ∧ alt 99 (segs 0 cs T) = 0)
theorem notin_abc (c : Nat) (st : Sto) : oNotIn (.str ⟨#[c]⟩) (.str "abc") st = .val .P (.bl (!decide (c ∈ [97, 98, 99]))) st := rfl
def okN (n : Nat) (cs : List Nat) : Bool := okI n 0 (cs.map fun c : Nat => (c : Int))
theorem okN_go {n : Nat} : ∀ {cs : List Nat} {h : Nat}, okI n h (cs.map fun c : Nat => (c : Int)) = true ↔ okCuts n h cs
  | [], h => by simp [okI, okCuts]
  | c :: cs, h => by
    have ih := okN_go (n := n) (cs := cs) (h := c)
    simp only [List.map_cons, okI, okCuts, Bool.and_eq_true, decide_eq_true_eq]
    rw [ih]
    exact ⟨fun ⟨a, b, c⟩ => ⟨by omega, by omega, c⟩, fun ⟨a, b, c⟩ => ⟨by omega, by omega, c⟩⟩
theorem okN_iff {n : Nat} {cs : List Nat} : okN n cs = true ↔ okCuts n 0 cs := okN_go (h := 0)
theorem even3_iff {T cs : List Nat} : even3 T cs = true ↔ balD T cs := by
  unfold even3 balD
  rw [decide_eq_true_iff]
  constructor
  · rintro ⟨a, b, c⟩ x (rfl | rfl | rfl)
    · exact a
    · exact b
    · exact c
  · intro h
    exact ⟨h 97 (.inl rfl), h 98 (.inr (.inl rfl)), h 99 (.inr (.inr rfl))⟩
theorem is_cuts_N {T : List Nat} (hT : T.length ≤ 1000) {cs : List Nat} (hc : cs.length ≤ 1000) (st : Sto) : F_is_cuts [.str (S T), .lst (cs.map dN)] st = .val .P (.bl (okN T.length cs)) st := by
  have := is_cuts_eq hT (cs := cs.map fun c : Nat => (c : Int)) (by simpa using hc) st
  rw [List.map_map] at this
  exact this
def lastC (M : Nat) : List Nat → Nat
  | [] => M
  | [a] => a + M
  | [a, b] => b + M - a
  | _ => 0
theorem last_0 {N M : Int} (h : ∀ st, oDiv (.int N) (.int 2) st = .val .P (.int M) st) (st : Sto) : F_last_cut [.lst [], .int N] st = .val .P (.int M) st := by
  have m : oMod (.int 0) (.int 2) st = .val .P (.int 0) st := rfl
  have r : rng3 [.int 0, .int 0, .int 2] = some (0, 0) := rfl
  have r2 : rangeD2 0 0 = [] := rfl
  have a0 : atI [D.int 0] (-1) = some (.int 0) := rfl
  simp -implicitDefEqProofs [F_last_cut, g_last_cut, m, r, r2, a0, h, intsOf, -e_oDiv_1, -e_oMod_1, -e_rng3]
theorem last_1e {N M a : Int} (h : ∀ st, oDiv (.int N) (.int 2) st = .val .P (.int M) st) (st : Sto) : F_last_cut [.lst [.int a], .int N] st = .val .P (.int (a + M)) st := by
  have m : oMod (.int 1) (.int 2) st = .val .P (.int 1) st := rfl
  have r : rng3 [.int 1, .int 1, .int 2] = some (1, 0) := rfl
  have r2 : rangeD2 1 0 = [] := rfl
  have a0 : atI [D.int 0, .int a] (-1) = some (.int a) := rfl
  simp -implicitDefEqProofs [F_last_cut, g_last_cut, m, r, r2, a0, h, intsOf, -e_oDiv_1, -e_oMod_1, -e_rng3]
theorem last_2e {N M a b : Int} (h : ∀ st, oDiv (.int N) (.int 2) st = .val .P (.int M) st) (st : Sto) : F_last_cut [.lst [.int a, .int b], .int N] st = .val .P (.int (b + M - a)) st := by
  have m : oMod (.int 2) (.int 2) st = .val .P (.int 0) st := rfl
  have r : rng3 [.int 0, .int 2, .int 2] = some (0, 1) := rfl
  have r2 : rangeD2 0 1 = [.int 0] := rfl
  have a0 : atI [D.int 0, .int a, .int b] (-1) = some (.int b) := rfl
  have a1 : atI [D.int 0, .int a, .int b] 0 = some (.int 0) := rfl
  have a2 : atI [D.int 0, .int a, .int b] 1 = some (.int a) := rfl
  have lc : ∀ e0 e1 e3, lcGo (lcStep (tgN 4) (fun E => ER.val Md.P (D.bl true) E.st) ce_last_cut_1 [e0, e1, .val (.lst [.int 0, .int a, .int b]), e3, .emp]) [.int 0] st = some ([.int a], st) := fun e0 e1 e3 => by
    refine lc_map (enc := D.int) (f := fun _ => .int a) (l := [0]) fun k hk => ?_
    obtain rfl := List.mem_singleton.mp hk
    simp -implicitDefEqProofs [q_ce_last_cut_1, a1, a2]
  simp -implicitDefEqProofs [F_last_cut, g_last_cut, m, r, r2, a0, h, lc, intsOf, -e_oDiv_1, -e_oMod_1, -e_rng3]
theorem last_eq {N M : Nat} (h : N = 2 * M) {fr : List Nat} (hf : fr.length ≤ 2) (ha : ∀ a b, fr = [a, b] → a ≤ b) (st : Sto) : F_last_cut [.lst (fr.map dN), .int (N : Int)] st = .val .P (dN (lastC M fr)) st := by
  have hd : ∀ st, oDiv (.int (N : Int)) (.int 2) st = .val .P (.int (M : Int)) st := fun st => by
    have e : ((N : Nat) : Int).fdiv 2 = (M : Int) := by
      rw [Int.fdiv_eq_ediv_of_nonneg _ (by decide)]
      omega
    have l : (2 : Int) ≠ 0 ∧ (2 : Int).natAbs.log2 < 9000 := by decide
    rw [e_oDiv_1, if_pos l, e]
  match fr, hf, ha with
  | [], _, _ => exact last_0 hd st
  | [a], _, _ => exact last_1e hd st
  | [a, b], _, ha =>
    have := ha a b rfl
    have e := last_2e (a := a) (b := b) hd st
    have e2 : ((lastC M [a, b] : Nat) : Int) = (b : Int) + M - a := by simp only [lastC]; omega
    show _ = ER.val .P (.int ((lastC M [a, b] : Nat) : Int)) st
    rw [e2]
    exact e
section
variable {T : List Nat} {st : Sto} {v1 v5 v6 v7 : SL} {E : List D}
def SM (T : List Nat) : List D := (List.range (T.length + 1)).map (dP T)
theorem SM_at {q : Nat} (h : q ≤ T.length) : atI (SM T) (q : Int) = some (dP T q) := by
  refine atI_nat ?_
  unfold SM
  rw [List.getElem?_map, List.getElem?_range (by omega)]; rfl
theorem gh_step {k : Int} {p q : Nat} {x y z : Int} (hp : p ≤ T.length) (hq : q ≤ T.length) (e1 : atI E (k + 1) = some (dN q)) (e0 : atI E k = some (dN p)) :
    tgB (tgN 4) fb_gives_halves_2 (.int k) ⟨[.val (.lst (SM T)), v1, .val (.lst E), .val (.lst [.int x, .int y, .int z]), v5, .emp, .emp, .emp], st⟩ = .nx ⟨[.val (.lst (SM T)), v1, .val (.lst E), .val (.lst [.int (x + pc T 97 q - pc T 97 p), .int (y + pc T 98 q - pc T 98 p), .int (z + pc T 99 q - pc T 99 p)]), .val (.int k), .emp, .emp, .emp], st⟩ := by
  have s1 := SM_at hq
  have s0 := SM_at hp
  simp only [dN] at e1 e0
  have hz : zipD3 [.int x, .int y, .int z] [.int (pc T 97 q), .int (pc T 98 q), .int (pc T 99 q)] [.int (pc T 97 p), .int (pc T 98 p), .int (pc T 99 p)] = [(x, pc T 97 q, pc T 97 p), (y, pc T 98 q, pc T 98 p), (z, pc T 99 q, pc T 99 p)].map fun r : Int × Int × Int => .tup [.int r.1, .int r.2.1, .int r.2.2] := rfl
  have lc : ∀ v0 v2 v3 v4, lcGo (lcStep (tgT 3 (tgsCons (tgN 5) (tgsCons (tgN 6) (tgsCons (tgN 7) tgsNil)))) (fun E => ER.val Md.P (D.bl true) E.st) ce_gives_halves_1 [v0, v1, v2, v3, v4, .emp, .emp, .emp]) ([(x, pc T 97 q, pc T 97 p), (y, pc T 98 q, pc T 98 p), (z, pc T 99 q, pc T 99 p)].map fun r : Int × Int × Int => .tup [.int r.1, .int r.2.1, .int r.2.2]) st = some ([(x, pc T 97 q, pc T 97 p), (y, pc T 98 q, pc T 98 p), (z, pc T 99 q, pc T 99 p)].map (fun r : Int × Int × Int => .int (r.1 + r.2.1 - r.2.2)), st) := fun v0 v2 v3 v4 => by
    refine lc_map fun r _ => ?_
    simp -implicitDefEqProofs [q_ce_gives_halves_1]
  have e3 : ([(x, pc T 97 q, pc T 97 p), (y, pc T 98 q, pc T 98 p), (z, pc T 99 q, pc T 99 p)].map (fun r : Int × Int × Int => D.int (r.1 + r.2.1 - r.2.2))) = [.int (x + pc T 97 q - pc T 97 p), .int (y + pc T 98 q - pc T 98 p), .int (z + pc T 99 q - pc T 99 p)] := rfl
  rw [e3] at lc
  have l3 : ([(x, pc T 97 q, pc T 97 p), (y, pc T 98 q, pc T 98 p), (z, pc T 99 q, pc T 99 p)].map fun r : Int × Int × Int => D.tup [.int r.1, .int r.2.1, .int r.2.2]).length ≤ 1000000 := by simp
  unfold dP at s1 s0
  generalize ([(x, pc T 97 q, pc T 97 p), (y, pc T 98 q, pc T 98 p), (z, pc T 99 q, pc T 99 p)].map fun r : Int × Int × Int => D.tup [.int r.1, .int r.2.1, .int r.2.2]) = ZD at *
  generalize SM T = SD at *
  simp -implicitDefEqProofs [q_fb_gives_halves_2, e1, e0, s1, s0, hz, lc, l3]
theorem gh_end {x y z : Int} {a b c : Int} (hs : atI (SM T) (-1) = some (.lst [.int a, .int b, .int c])) (hb : ∀ w ∈ [x, y, z], Nat.log2 2 + w.natAbs.log2 < 1000000) {v4 : SL} :
    (sRet (dOp oEq (dLc (dIter (dVar 3)) (tgN 5) (fun E => .val .P (.bl true) E.st) ce_gives_halves_3 [5]) (dOp oIx (dVar 0) (dUn oNeg (dC (.int 1))))) ⟨[.val (.lst (SM T)), v1, .val (.lst E), .val (.lst [.int x, .int y, .int z]), v4, .emp, .emp, .emp], st⟩).ret = .val .P (.bl (decide (2 * x = a ∧ 2 * y = b ∧ 2 * z = c))) st := by
  have lc : lcGo (lcStep (tgN 5) (fun E => ER.val Md.P (D.bl true) E.st) ce_gives_halves_3 [.val (.lst (SM T)), v1, .val (.lst E), .val (.lst [.int x, .int y, .int z]), v4, .emp, .emp, .emp]) ([x, y, z].map D.int) st = some ([x, y, z].map (fun r : Int => .int (2 * r)), st) := by
    refine lc_map fun r hr => ?_
    have := hb r hr
    simp -implicitDefEqProofs [q_ce_gives_halves_3, this]
  have q := int_eq3 (2 * x) (2 * y) (2 * z) a b c st
  have e1 : [x, y, z].map D.int = [.int x, .int y, .int z] := rfl
  have e2 : [x, y, z].map (fun r : Int => D.int (2 * r)) = [.int (2 * x), .int (2 * y), .int (2 * z)] := rfl
  rw [e1, e2] at lc
  generalize SM T = SD at *
  generalize hd : decide (2 * x = a ∧ 2 * y = b ∧ 2 * z = c) = dd at *
  generalize 2 * x = x2 at *
  generalize 2 * y = y2 at *
  generalize 2 * z = z2 at *
  simp -implicitDefEqProofs [hs, lc, q, -e_dEqO]
theorem SM_last : atI (SM T) (-1) = some (dP T T.length) := by
  have e : SM T = (List.range T.length).map (dP T) ++ [dP T T.length] := by
    unfold SM
    rw [List.range_succ, List.map_append]; rfl
  rw [e]
  exact atI_last _ _
theorem SM_len : (SM T).length = T.length + 1 := by simp [SM]
theorem pc_b (x i : Nat) (h : T.length ≤ 1000) : 0 ≤ pc T x i ∧ pc T x i ≤ 1000 := by
  unfold pc
  have h1 : (T.take i).count x ≤ (T.take i).length := List.count_le_length
  have h2 : (T.take i).length ≤ T.length := by simp; omega
  omega
theorem two_mul_ok {w : Int} (h : -10000 ≤ w) (h' : w ≤ 10000) : Nat.log2 2 + w.natAbs.log2 < 1000000 :=
  mul_ok (i := 2) (a := 20) (b := 40) (by decide) (by omega) (by decide) (by decide) (by decide)
theorem gh_1 (hT : T.length ≤ 1000) {c : Nat} (hc : c ≤ T.length) (st : Sto) : F_gives_halves [.lst (SM T), .lst [dN c]] st = .val .P (.bl (even3 T [c])) st := by
  have n : (((SM T).length : Nat) : Int) - 1 = (T.length : Int) := by rw [SM_len]; omega
  have hl : (SM T).length ≤ 1000000 := by rw [SM_len]; omega
  have st1 := gh_step (T := T) (st := st) (v1 := .val (.lst [dN c])) (v5 := .emp) (E := [.int 0, dN c, .int T.length]) (k := 0) (p := 0) (q := c) (x := 0) (y := 0) (z := 0) (Nat.zero_le _) hc rfl rfl
  have en := gh_end (T := T) (st := st) (v1 := .val (.lst [dN c])) (E := [.int 0, dN c, .int T.length]) (v4 := .val (.int 0)) SM_last (x := 0 + pc T 97 c - pc T 97 0) (y := 0 + pc T 98 c - pc T 98 0) (z := 0 + pc T 99 c - pc T 99 0) (fun w hw => by
    have bb := fun x i => pc_b x i hT
    have b1 := bb 97 c; have b2 := bb 98 c; have b3 := bb 99 c
    rw [pc_zero, pc_zero, pc_zero] at hw
    simp only [List.mem_cons, List.not_mem_nil, or_false] at hw
    rcases hw with rfl | rfl | rfl <;> exact two_mul_ok (by omega) (by omega))
  have ed : decide (2 * (0 + pc T 97 c - pc T 97 0) = pc T 97 T.length ∧ 2 * (0 + pc T 98 c - pc T 98 0) = pc T 98 T.length ∧ 2 * (0 + pc T 99 c - pc T 99 0) = pc T 99 T.length) = even3 T [c] := by
    unfold even3
    rw [alt_1, alt_1, alt_1, pc_zero, pc_zero, pc_zero, pc_all T 97 (Nat.le_refl _), pc_all T 98 (Nat.le_refl _), pc_all T 99 (Nat.le_refl _), decide_eq_decide]
    omega
  rw [ed] at en
  have r : rng3 [.int 0, .int 2, .int 2] = some (0, 1) := rfl
  have r2 : rangeD2 0 1 = [.int 0] := rfl
  have hf : forD (tgB (tgN 4) fb_gives_halves_2) [.int 0] ⟨[.val (.lst (SM T)), .val (.lst [dN c]), .val (.lst [.int 0, dN c, .int T.length]), .val (.lst [.int 0, .int 0, .int 0]), .emp, .emp, .emp, .emp], st⟩ = .nx ⟨[.val (.lst (SM T)), .val (.lst [dN c]), .val (.lst [.int 0, dN c, .int T.length]), .val (.lst [.int (0 + pc T 97 c - pc T 97 0), .int (0 + pc T 98 c - pc T 98 0), .int (0 + pc T 99 c - pc T 99 0)]), .val (.int 0), .emp, .emp, .emp], st⟩ := by
    rw [e_forC, st1]; rfl
  simp only [dN] at hf en ⊢
  generalize hN : (T.length : Int) = N at *
  generalize hS : SM T = SD at *
  generalize 0 + pc T 97 c - pc T 97 0 = g1 at *
  generalize 0 + pc T 98 c - pc T 98 0 = g2 at *
  generalize 0 + pc T 99 c - pc T 99 0 = g3 at *
  generalize (c : Int) = c' at *
  simp -implicitDefEqProofs [F_gives_halves, g_gives_halves, hl, n, r, r2, hf, -e_rng3, -e_dLc, -e_dEqO]
  exact en
theorem gh_2 (hT : T.length ≤ 1000) {a : Nat} {b : Nat} (h0 : a ≤ b) (hc : b ≤ T.length) (st : Sto) : F_gives_halves [.lst (SM T), .lst [dN a, dN b]] st = .val .P (.bl (even3 T [a, b])) st := by
  have n : (((SM T).length : Nat) : Int) - 1 = (T.length : Int) := by rw [SM_len]; omega
  have hl : (SM T).length ≤ 1000000 := by rw [SM_len]; omega
  have st1 := gh_step (T := T) (st := st) (v1 := .val (.lst [dN a, dN b])) (v5 := .emp) (E := [.int 0, dN a, dN b, .int T.length]) (k := 0) (p := 0) (q := a) (x := 0) (y := 0) (z := 0) (Nat.zero_le _) (by omega) rfl rfl
  have st2 := gh_step (T := T) (st := st) (v1 := .val (.lst [dN a, dN b])) (v5 := .val (.int 0)) (E := [.int 0, dN a, dN b, .int T.length]) (k := 2) (p := b) (q := T.length) (x := (0 + pc T 97 a - pc T 97 0)) (y := (0 + pc T 98 a - pc T 98 0)) (z := (0 + pc T 99 a - pc T 99 0)) (by omega) (by omega) rfl rfl
  have en := gh_end (T := T) (st := st) (v1 := .val (.lst [dN a, dN b])) (E := [.int 0, dN a, dN b, .int T.length]) (v4 := .val (.int 2)) SM_last (x := (0 + pc T 97 a - pc T 97 0 + pc T 97 T.length - pc T 97 b)) (y := (0 + pc T 98 a - pc T 98 0 + pc T 98 T.length - pc T 98 b)) (z := (0 + pc T 99 a - pc T 99 0 + pc T 99 T.length - pc T 99 b)) (fun w hw => by
    have bb := fun x i => pc_b x i hT
    have b1 := bb 97 a; have b2 := bb 98 a; have b3 := bb 99 a
    have c1 := bb 97 b; have c2 := bb 98 b; have c3 := bb 99 b
    have d1 := bb 97 T.length; have d2 := bb 98 T.length; have d3 := bb 99 T.length
    rw [pc_zero, pc_zero, pc_zero] at hw
    simp only [List.mem_cons, List.not_mem_nil, or_false] at hw
    rcases hw with rfl | rfl | rfl <;> exact two_mul_ok (by omega) (by omega))
  have ed : decide (2 * (0 + pc T 97 a - pc T 97 0 + pc T 97 T.length - pc T 97 b) = pc T 97 T.length ∧ 2 * (0 + pc T 98 a - pc T 98 0 + pc T 98 T.length - pc T 98 b) = pc T 98 T.length ∧ 2 * (0 + pc T 99 a - pc T 99 0 + pc T 99 T.length - pc T 99 b) = pc T 99 T.length) = even3 T [a, b] := by
    unfold even3
    rw [alt_2 _ h0, alt_2 _ h0, alt_2 _ h0, pc_zero, pc_zero, pc_zero, pc_all T 97 (Nat.le_refl _), pc_all T 98 (Nat.le_refl _), pc_all T 99 (Nat.le_refl _), decide_eq_decide]
    omega
  rw [ed] at en
  have r : rng3 [.int 0, .int 3, .int 2] = some (0, 2) := rfl
  have r2 : rangeD2 0 2 = [.int 0, .int 2] := rfl
  have hf : forD (tgB (tgN 4) fb_gives_halves_2) [.int 0, .int 2] ⟨[.val (.lst (SM T)), .val (.lst [dN a, dN b]), .val (.lst [.int 0, dN a, dN b, .int T.length]), .val (.lst [.int 0, .int 0, .int 0]), .emp, .emp, .emp, .emp], st⟩ = .nx ⟨[.val (.lst (SM T)), .val (.lst [dN a, dN b]), .val (.lst [.int 0, dN a, dN b, .int T.length]), .val (.lst [.int (0 + pc T 97 a - pc T 97 0 + pc T 97 T.length - pc T 97 b), .int (0 + pc T 98 a - pc T 98 0 + pc T 98 T.length - pc T 98 b), .int (0 + pc T 99 a - pc T 99 0 + pc T 99 T.length - pc T 99 b)]), .val (.int 2), .emp, .emp, .emp], st⟩ := by
    rw [e_forC, st1]
    show (match tgB (tgN 4) fb_gives_halves_2 (.int 2) _ with | .nx e' => forD _ [] e' | .ct e' => forD _ [] e' | .bk e' => .nx e' | r => r) = _
    rw [st2]; rfl
  simp only [dN] at hf en ⊢
  generalize hN : (T.length : Int) = N at *
  generalize hS : SM T = SD at *
  generalize (0 + pc T 97 a - pc T 97 0 + pc T 97 T.length - pc T 97 b) = g1 at *
  generalize (0 + pc T 98 a - pc T 98 0 + pc T 98 T.length - pc T 98 b) = g2 at *
  generalize (0 + pc T 99 a - pc T 99 0 + pc T 99 T.length - pc T 99 b) = g3 at *
  generalize (a : Int) = a' at *
  generalize (b : Int) = b' at *
  simp -implicitDefEqProofs [F_gives_halves, g_gives_halves, hl, n, r, r2, hf, -e_rng3, -e_dLc, -e_dEqO]
  exact en
theorem gh_3 (hT : T.length ≤ 1000) {a : Nat} {b : Nat} {c : Nat} (h0 : a ≤ b) (h1 : b ≤ c) (hc : c ≤ T.length) (st : Sto) : F_gives_halves [.lst (SM T), .lst [dN a, dN b, dN c]] st = .val .P (.bl (even3 T [a, b, c])) st := by
  have n : (((SM T).length : Nat) : Int) - 1 = (T.length : Int) := by rw [SM_len]; omega
  have hl : (SM T).length ≤ 1000000 := by rw [SM_len]; omega
  have st1 := gh_step (T := T) (st := st) (v1 := .val (.lst [dN a, dN b, dN c])) (v5 := .emp) (E := [.int 0, dN a, dN b, dN c, .int T.length]) (k := 0) (p := 0) (q := a) (x := 0) (y := 0) (z := 0) (Nat.zero_le _) (by omega) rfl rfl
  have st2 := gh_step (T := T) (st := st) (v1 := .val (.lst [dN a, dN b, dN c])) (v5 := .val (.int 0)) (E := [.int 0, dN a, dN b, dN c, .int T.length]) (k := 2) (p := b) (q := c) (x := (0 + pc T 97 a - pc T 97 0)) (y := (0 + pc T 98 a - pc T 98 0)) (z := (0 + pc T 99 a - pc T 99 0)) (by omega) (by omega) rfl rfl
  have en := gh_end (T := T) (st := st) (v1 := .val (.lst [dN a, dN b, dN c])) (E := [.int 0, dN a, dN b, dN c, .int T.length]) (v4 := .val (.int 2)) SM_last (x := (0 + pc T 97 a - pc T 97 0 + pc T 97 c - pc T 97 b)) (y := (0 + pc T 98 a - pc T 98 0 + pc T 98 c - pc T 98 b)) (z := (0 + pc T 99 a - pc T 99 0 + pc T 99 c - pc T 99 b)) (fun w hw => by
    have bb := fun x i => pc_b x i hT
    have b1 := bb 97 a; have b2 := bb 98 a; have b3 := bb 99 a
    have c1 := bb 97 b; have c2 := bb 98 b; have c3 := bb 99 b
    have d1 := bb 97 c; have d2 := bb 98 c; have d3 := bb 99 c
    rw [pc_zero, pc_zero, pc_zero] at hw
    simp only [List.mem_cons, List.not_mem_nil, or_false] at hw
    rcases hw with rfl | rfl | rfl <;> exact two_mul_ok (by omega) (by omega))
  have ed : decide (2 * (0 + pc T 97 a - pc T 97 0 + pc T 97 c - pc T 97 b) = pc T 97 T.length ∧ 2 * (0 + pc T 98 a - pc T 98 0 + pc T 98 c - pc T 98 b) = pc T 98 T.length ∧ 2 * (0 + pc T 99 a - pc T 99 0 + pc T 99 c - pc T 99 b) = pc T 99 T.length) = even3 T [a, b, c] := by
    unfold even3
    rw [alt_3 _ h0 h1, alt_3 _ h0 h1, alt_3 _ h0 h1, pc_zero, pc_zero, pc_zero, pc_all T 97 (Nat.le_refl _), pc_all T 98 (Nat.le_refl _), pc_all T 99 (Nat.le_refl _), decide_eq_decide]
    omega
  rw [ed] at en
  have r : rng3 [.int 0, .int 4, .int 2] = some (0, 2) := rfl
  have r2 : rangeD2 0 2 = [.int 0, .int 2] := rfl
  have hf : forD (tgB (tgN 4) fb_gives_halves_2) [.int 0, .int 2] ⟨[.val (.lst (SM T)), .val (.lst [dN a, dN b, dN c]), .val (.lst [.int 0, dN a, dN b, dN c, .int T.length]), .val (.lst [.int 0, .int 0, .int 0]), .emp, .emp, .emp, .emp], st⟩ = .nx ⟨[.val (.lst (SM T)), .val (.lst [dN a, dN b, dN c]), .val (.lst [.int 0, dN a, dN b, dN c, .int T.length]), .val (.lst [.int (0 + pc T 97 a - pc T 97 0 + pc T 97 c - pc T 97 b), .int (0 + pc T 98 a - pc T 98 0 + pc T 98 c - pc T 98 b), .int (0 + pc T 99 a - pc T 99 0 + pc T 99 c - pc T 99 b)]), .val (.int 2), .emp, .emp, .emp], st⟩ := by
    rw [e_forC, st1]
    show (match tgB (tgN 4) fb_gives_halves_2 (.int 2) _ with | .nx e' => forD _ [] e' | .ct e' => forD _ [] e' | .bk e' => .nx e' | r => r) = _
    rw [st2]; rfl
  simp only [dN] at hf en ⊢
  generalize hN : (T.length : Int) = N at *
  generalize hS : SM T = SD at *
  generalize (0 + pc T 97 a - pc T 97 0 + pc T 97 c - pc T 97 b) = g1 at *
  generalize (0 + pc T 98 a - pc T 98 0 + pc T 98 c - pc T 98 b) = g2 at *
  generalize (0 + pc T 99 a - pc T 99 0 + pc T 99 c - pc T 99 b) = g3 at *
  generalize (a : Int) = a' at *
  generalize (b : Int) = b' at *
  generalize (c : Int) = c' at *
  simp -implicitDefEqProofs [F_gives_halves, g_gives_halves, hl, n, r, r2, hf, -e_rng3, -e_dLc, -e_dEqO]
  exact en
end
theorem for_find {α : Type} {b : D → En → SR} {enc : α → D} (I : En → Prop) (p : α → Bool) (r : α → SR) : ∀ (l : List α) (E : En), (∀ a ∈ l, ∀ E, I E → (p a = false → ∃ E', b (enc a) E = .nx E' ∧ I E') ∧ (p a = true → b (enc a) E = r a ∧ ∃ m d s, r a = .rt m d s)) → I E →
    match l.find? p with
    | some a => forD b (l.map enc) E = r a
    | none => ∃ E', forD b (l.map enc) E = .nx E' ∧ I E'
  | [], E, _, h => ⟨E, rfl, h⟩
  | a :: l, E, hb, h => by
    cases q : p a with
    | true =>
      rw [List.find?_cons_of_pos q]
      obtain ⟨h1, m, d, s, h2⟩ := (hb a (List.mem_cons_self ..) E h).2 q
      show forD b (enc a :: l.map enc) E = r a
      rw [e_forC, h1, h2]
    | false =>
      rw [List.find?_cons_of_neg (by rw [q]; decide)]
      obtain ⟨E1, h1, h2⟩ := (hb a (List.mem_cons_self ..) E h).1 q
      have ih := for_find I p r l E1 (fun c m => hb c (List.mem_cons_of_mem _ m)) h2
      have e : forD b ((a :: l).map enc) E = forD b (l.map enc) E1 := by
        show forD b (enc a :: l.map enc) E = _
        rw [e_forC, h1]
      rw [e]
      exact ih
def goodB (T cs : List Nat) : Bool := okN T.length cs && even3 T cs
theorem good_iff {T cs : List Nat} : goodB T cs = true ↔ okCuts T.length 0 cs ∧ balD T cs := by
  unfold goodB
  rw [Bool.and_eq_true, okN_iff, even3_iff]
def full (M : Nat) (fr : List Nat) : List Nat := fr ++ [lastC M fr]
section
variable {T : List Nat} {st : Sto} {v1 v3 v5 : SL}
theorem gh_full (hT : T.length ≤ 1000) {M : Nat} : ∀ {fr : List Nat}, fr.length ≤ 2 → okCuts T.length 0 (full M fr) → F_gives_halves [.lst (SM T), .lst ((full M fr).map dN)] st = .val .P (.bl (even3 T (full M fr))) st
  | [], _, o => gh_1 hT (Nat.le_of_lt o.2.1) st
  | [a], _, o => gh_2 hT (Nat.le_of_lt o.2.2.1) (Nat.le_of_lt o.2.2.2.1) st
  | [a, b], _, o => gh_3 hT (Nat.le_of_lt o.2.2.1) (Nat.le_of_lt o.2.2.2.2.1) (Nat.le_of_lt o.2.2.2.2.2.1) st
theorem bd_body (hT : T.length ≤ 1000) {M : Nat} (hM : T.length = 2 * M) {fr : List Nat} (hf : fr.length ≤ 2) (ha : ∀ a b, fr = [a, b] → a ≤ b) :
    fb_fewest_cuts_2 ⟨[.val (.str (S T)), v1, .val (.lst (SM T)), v3, .val (.lst (fr.map dN)), v5], st⟩ = if goodB T (full M fr) = true then .rt .P (.lst ((full M fr).map dN)) st else .nx ⟨[.val (.str (S T)), v1, .val (.lst (SM T)), v3, .val (.lst (fr.map dN)), .val (.lst ((full M fr).map dN))], st⟩ := by
  have hl := last_eq hM hf ha st
  have hz : (S T).length ≤ 1000000 := by rw [S_len]; omega
  have hsl : (S T).length = T.length := S_len T
  have l1 : (fr.map dN).length + 1 ≤ 1000000 := by simp; omega
  have ic := is_cuts_N (cs := full M fr) hT (by simp [full]; omega) st
  have gh : okN T.length (full M fr) = true → F_gives_halves [.lst (SM T), .lst ((full M fr).map dN)] st = .val .P (.bl (even3 T (full M fr))) st := fun ok => gh_full hT hf (okN_iff.mp ok)
  have e : (full M fr).map dN = fr.map dN ++ [dN (lastC M fr)] := by simp [full]
  unfold goodB
  rw [e] at ic gh ⊢
  clear e ha hf
  rw [hsl] at hz
  simp only [dN] at hl l1 ic gh ⊢
  generalize (lastC M fr : Int) = lc at *
  generalize hS : S T = z at *
  generalize SM T = SD at *
  generalize List.map (fun n : Nat => D.int (n : Int)) fr = FD at *
  generalize even3 T (full M fr) = b2 at *
  cases hok : okN T.length (full M fr) with
  | false =>
    rw [hok] at ic
    simp -implicitDefEqProofs [q_fb_fewest_cuts_2, hz, hsl, hl, l1, ic]
  | true =>
    have g := gh hok
    rw [hok] at ic
    cases b2 <;> simp -implicitDefEqProofs [q_fb_fewest_cuts_2, hz, hsl, hl, l1, ic, g]
end
def candF (T : List Nat) (k : Nat) : List (List Nat) := acs k 1 (T.length - 1)
theorem acs_two {lo hi : Nat} {a b : Nat} (h : [a, b] ∈ acs 2 lo hi) : a ≤ b := by
  rw [acs] at h
  obtain ⟨k, _, hk⟩ := List.mem_flatMap.mp h
  obtain ⟨l, hl, e⟩ := List.mem_map.mp hk
  rw [acs] at hl
  obtain ⟨k2, _, hk2⟩ := List.mem_flatMap.mp hl
  obtain ⟨l2, hl2, e2⟩ := List.mem_map.mp hk2
  subst e2
  injection e with e1 e2
  injection e2 with e3 e4
  omega
theorem acs_mem : ∀ (m lo hi : Nat) (cs : List Nat), cs.length = m → (∀ h, h + 1 = lo → okCuts (hi + 1) h cs) → 1 ≤ lo → cs ∈ acs m lo hi
  | 0, lo, hi, [], _, _, _ => by simp [acs]
  | m + 1, lo, hi, c :: cs, hl, ok, h1 => by
    obtain ⟨o1, o2, o3⟩ := ok (lo - 1) (by omega)
    rw [acs]
    refine List.mem_flatMap.mpr ⟨c - lo, List.mem_range.mpr (by omega), ?_⟩
    have e : lo + (c - lo) = c := by omega
    rw [e]
    exact List.mem_map.mpr ⟨cs, acs_mem m (c + 1) hi cs (by simpa using hl) (fun h hh => by
      have : h = c := by omega
      rw [this]; exact o3) (by omega), rfl⟩
theorem all_cuts_ok {lo hi m : Nat} (hm : m ≤ 2) (hlo : lo ≤ 100) (hhi : hi ≤ 43) (st : Sto) : F_all_cuts [dN lo, dN hi, dN m] st = .val .N (.lst ((acs m lo hi).map dL)) st := by
  have b : ∀ k, k ≤ 2 → (hi + 1) ^ k ≤ 90000 := fun k hk => by
    have := Nat.pow_le_pow_left (show hi + 1 ≤ 44 by omega) k
    have := Nat.pow_le_pow_right (show 0 < 44 by decide) hk
    omega
  match m, hm with
  | 0, _ => exact gg_zero fb_all_cuts_2 lo hi st
  | 1, _ => exact gg_succ (F := F_all_cuts_2) (m := 0) (md := .N) (by decide) (fun lo' _ => gg_zero fb_all_cuts_2_2 lo' hi st) (b 1 (by decide)) (by decide) (by omega) (by omega)
  | 2, _ => exact gg_succ (F := F_all_cuts_2) (m := 1) (md := .N) (by decide) (fun lo' h => gg_succ (F := F_all_cuts_1) (m := 0) (md := .N) (by decide) (fun lo'' _ => gg_zero fb_all_cuts_1_1 lo'' hi st) (b 1 (by decide)) (by decide) (by omega) (by omega)) (b 2 (by decide)) (by decide) (by omega) (by omega)
section
variable {T : List Nat} {st : Sto}
theorem round_ok (hT : T.length ≤ 44) (h2 : 2 ≤ T.length) {M : Nat} (hM : T.length = 2 * M) {v1 x4 x5 : SL} {k : Nat} (hk : k ≤ 2) : match (candF T k).find? (fun fr => goodB T (full M fr)) with
    | some fr => wb_fewest_cuts_4 ⟨[.val (.str (S T)), v1, .val (.lst (SM T)), .val (.int ((k + 1 : Nat) : Int)), x4, x5], st⟩ = .rt .P (.lst ((full M fr).map dN)) st
    | none => ∃ x4' x5', wb_fewest_cuts_4 ⟨[.val (.str (S T)), v1, .val (.lst (SM T)), .val (.int ((k + 1 : Nat) : Int)), x4, x5], st⟩ = .nx ⟨[.val (.str (S T)), v1, .val (.lst (SM T)), .val (.int ((k + 2 : Nat) : Int)), x4', x5'], st⟩ := by
  have ac := all_cuts_ok (lo := 1) (hi := T.length - 1) hk (by decide) (by omega) st
  have hz : (S T).length ≤ 1000000 := by rw [S_len]; omega
  have hsl : (S T).length = T.length := S_len T
  have ff := for_find (b := tgB (tgN 4) fb_fewest_cuts_2) (enc := dL) (fun E => ∃ x4 x5, E = ⟨[.val (.str (S T)), v1, .val (.lst (SM T)), .val (.int ((k + 1 : Nat) : Int)), x4, x5], st⟩) (fun fr => goodB T (full M fr)) (fun fr => .rt .P (.lst ((full M fr).map dN)) st) (candF T k) ⟨[.val (.str (S T)), v1, .val (.lst (SM T)), .val (.int ((k + 1 : Nat) : Int)), x4, x5], st⟩ (by
      rintro fr hfr E ⟨y4, y5, rfl⟩
      have hl : fr.length = k := (acs_len k 1 (T.length - 1)).2 fr hfr
      have bo := bd_body (st := st) (v1 := v1) (v3 := .val (.int ((k + 1 : Nat) : Int))) (v5 := y5) (by omega) hM (fr := fr) (by omega) (fun a b e => by
        have hk2 : k = 2 := by rw [← hl, e]; rfl
        rw [e] at hfr
        unfold candF at hfr
        rw [hk2] at hfr
        exact acs_two hfr)
      refine ⟨fun g => ⟨_, ?_, .val (.lst (fr.map dN)), .val (.lst ((full M fr).map dN)), rfl⟩, fun g => ⟨?_, _, _, _, rfl⟩⟩
      · rw [if_neg (by rw [g]; decide)] at bo
        exact bo
      · rw [if_pos g] at bo
        exact bo) ⟨x4, x5, rfl⟩
  have hac : F_all_cuts [.int 1, .int ((T.length : Int) - 1), .int (((k + 1 : Nat) : Int) - 1)] st = .val .N (.lst ((candF T k).map dL)) st := by
    have e1 : (T.length : Int) - 1 = ((T.length - 1 : Nat) : Int) := by omega
    have e2 : ((k + 1 : Nat) : Int) - 1 = (k : Int) := by omega
    rw [e1, e2]
    exact ac
  have e3 : ((k + 1 : Nat) : Int) + 1 = ((k + 2 : Nat) : Int) := by omega
  rw [hsl] at hz
  clear ac
  cases q : (candF T k).find? (fun fr => goodB T (full M fr)) with
  | some fr =>
    rw [q] at ff
    simp only at ff ⊢
    generalize ((k + 1 : Nat) : Int) = k1 at *
    generalize S T = z at *
    generalize SM T = SD at *
    generalize (candF T k).map dL = CD at *
    generalize (full M fr).map dN = FD at *
    simp -implicitDefEqProofs [q_wb_fewest_cuts_4, hz, hsl, hac, ff]
  | none =>
    rw [q] at ff
    simp only at ff ⊢
    obtain ⟨E', ff, x4', x5', rfl⟩ := ff
    refine ⟨x4', x5', ?_⟩
    generalize ((k + 1 : Nat) : Int) = k1 at *
    generalize ((k + 2 : Nat) : Int) = k2 at *
    generalize S T = z at *
    generalize SM T = SD at *
    generalize (candF T k).map dL = CD at *
    simp -implicitDefEqProofs [q_wb_fewest_cuts_4, hz, hsl, hac, ff, e3]
def fwc (T : List Nat) : List Nat := if T.length = 0 then [] else
  match (candF T 0).find? (fun fr => goodB T (full (T.length / 2) fr)) with
  | some fr => full (T.length / 2) fr
  | none => match (candF T 1).find? (fun fr => goodB T (full (T.length / 2) fr)) with
    | some fr => full (T.length / 2) fr
    | none => match (candF T 2).find? (fun fr => goodB T (full (T.length / 2) fr)) with
      | some fr => full (T.length / 2) fr
      | none => []
theorem ask_loop : ∀ (L : List Nat) (k : Nat) {v0 x1 x2 : SL}, (∀ c ∈ L, c = 97 ∨ c = 98 ∨ c = 99) → k + L.length ≤ 24 → ∃ x1' x2', forD (tgB (tgT 2 (tgsCons (tgN 1) (tgsCons (tgN 2) tgsNil))) fb_ask_beads_1) (enumD k (L.map fun c => .str ⟨#[c]⟩)) ⟨[v0, x1, x2], st⟩ = .nx ⟨[v0, x1', x2'], st⟩
  | [], k, v0, x1, x2, _, _ => ⟨x1, x2, rfl⟩
  | c :: L, k, v0, x1, x2, h, hk => by
    obtain ⟨x1', x2', ih⟩ := ask_loop L (k + 1) (v0 := v0) (x1 := .val (.int k)) (x2 := .val (.str ⟨#[c]⟩)) (fun c m => h c (List.mem_cons_of_mem _ m)) (by simp at hk; omega)
    refine ⟨x1', x2', ?_⟩
    rw [List.map_cons, enumD, e_forC]
    have nb := notin_abc c st
    have mem : decide (c ∈ [97, 98, 99]) = true := decide_eq_true (by have := h c (List.mem_cons_self ..); simpa using this)
    rw [mem] at nb
    have n24 : ¬ ((k : Int) = 24) := by simp at hk; omega
    have s : tgB (tgT 2 (tgsCons (tgN 1) (tgsCons (tgN 2) tgsNil))) fb_ask_beads_1 (.tup [.int k, .str ⟨#[c]⟩]) ⟨[v0, x1, x2], st⟩ = .nx ⟨[v0, .val (.int k), .val (.str ⟨#[c]⟩)], st⟩ := by
      generalize (k : Int) = k' at *
      generalize (⟨#[c]⟩ : Str) = w at *
      simp -implicitDefEqProofs [q_fb_ask_beads_1, n24, nb]
    rw [s]
    exact ih
theorem ask_ok (h : abcs T) (hT : T.length ≤ 24) : F_ask_beads [.str (S T)] st = .val .P .non st := by
  obtain ⟨x1', x2', hf⟩ := ask_loop (st := st) T 0 (v0 := .val (.str (S T))) (x1 := .emp) (x2 := .emp) h (by omega)
  have e : ∀ st, dEnumS (aCons (dVar 0) aNil) ⟨[.val (.str (S T)), .emp, .emp], st⟩ = .ok true (enumD 0 (T.map fun c => D.str ⟨#[c]⟩)) st := fun st => by
    have q : (S T).cps.toList = T := S_cps T
    generalize S T = z at *
    simp [q]
  generalize enumD 0 (T.map fun c => D.str ⟨#[c]⟩) = ED at *
  generalize S T = z at *
  have hs := (sFor_of (t := tgT 2 (tgsCons (tgN 1) (tgsCons (tgN 2) tgsNil))) (b := fb_ask_beads_1) (e st)).trans hf
  simp -implicitDefEqProofs [F_ask_beads, g_ask_beads, hs, -e_sFor]
end
section
variable {c : En → ER} {b : En → SR} {E E' : En} {m : Md} {st1 : Sto}
theorem wh_un (hc : c E = .val m (.bl true) st1) (hb : b ⟨E.e, st1⟩ = .nx E' ∨ b ⟨E.e, st1⟩ = .ct E') (n : Nat) : whN c b (n + 1) E = whN c b n E' := by
  obtain ⟨e, st⟩ := E
  rw [e_wh hc]
  rcases hb with hb | hb <;> simp only [hb, if_true]
theorem wh_0 : whN c b 0 E = none := rfl
theorem while_nx (hc : c E = .val m (.bl true) st1) (hb : b ⟨E.e, st1⟩ = .nx E' ∨ b ⟨E.e, st1⟩ = .ct E') : sWhile c b E = sWhile c b E' := by
  have u := wh_un hc hb
  by_cases h : ∃ n r, whN c b n E' = some r
  · obtain ⟨n, r, h⟩ := h
    rw [sWhile_eq h, sWhile_eq (n := n + 1) (by rw [u]; exact h)]
  · have h2 : ¬ ∃ n r, whN c b n E = some r := by
      rintro ⟨n, r, e⟩
      cases n with
      | zero => rw [wh_0] at e; cases e
      | succ n => rw [u] at e; exact h ⟨n, r, e⟩
    unfold sWhile
    rw [dif_neg h, dif_neg h2]
theorem while_end (hc : c E = .val m (.bl false) st1) : sWhile c b E = .nx ⟨E.e, st1⟩ := by
  obtain ⟨e, st⟩ := E
  refine sWhile_eq (n := 1) ?_
  rw [e_wh hc]; simp
theorem while_rt {k : Md} {l : D} {s' : Sto} (hc : c E = .val m (.bl true) st1) (hb : b ⟨E.e, st1⟩ = .rt k l s') : sWhile c b E = .rt k l s' := by
  obtain ⟨e, st⟩ := E
  refine sWhile_eq (n := 1) ?_
  rw [e_wh hc]; simp [hb]
end
structure Fw (T cs : List Nat) : Prop where
  ok : okCuts T.length 0 cs
  bal : balD T cs
  le3 : cs.length ≤ 3
  least : ∀ cs', okCuts T.length 0 cs' → balD T cs' → cs.length ≤ cs'.length
section
variable {T : List Nat} (E : Evn T)
include E
theorem found {cs : List Nat} (ok : okCuts T.length 0 cs) (b : balD T cs) (h1 : 1 ≤ cs.length) (h3 : cs.length ≤ 3) : ∃ fr, fr ∈ candF T (cs.length - 1) ∧ full (T.length / 2) fr = cs := by
  match cs, ok, b, h1, h3 with
  | [a], ok, b, _, _ =>
    have := last_1 E (Nat.le_of_lt ok.2.1) b
    exact ⟨[], by simp [candF, acs], by simp only [full, lastC, List.nil_append]; rw [this]⟩
  | [a, c], ok, b, _, _ =>
    obtain ⟨o1, o2, o3, o4, _⟩ := ok
    have := last_2 E (Nat.le_of_lt o3) (Nat.le_of_lt o4) b
    exact ⟨[a], acs_mem 1 1 (T.length - 1) [a] rfl (fun h hh => ⟨by omega, by omega, trivial⟩) (by decide), by simp only [full, lastC, List.cons_append, List.nil_append]; rw [this]⟩
  | [a, c, d], ok, b, _, _ =>
    obtain ⟨o1, o2, o3, o4, o5, o6, _⟩ := ok
    have := last_3 E (Nat.le_of_lt o3) (Nat.le_of_lt o5) (Nat.le_of_lt o6) b
    exact ⟨[a, c], acs_mem 2 1 (T.length - 1) [a, c] rfl (fun h hh => ⟨by omega, by omega, by omega, by omega, trivial⟩) (by decide), by simp only [full, lastC, List.cons_append, List.nil_append]; congr 3; omega⟩
theorem found_some {cs : List Nat} (ok : okCuts T.length 0 cs) (b : balD T cs) (h1 : 1 ≤ cs.length) (h3 : cs.length ≤ 3) : (candF T (cs.length - 1)).find? (fun fr => goodB T (full (T.length / 2) fr)) ≠ none := by
  obtain ⟨fr, hm, e⟩ := found E ok b h1 h3
  intro h
  have := List.find?_eq_none.mp h fr hm
  rw [e] at this
  exact this (good_iff.mpr ⟨ok, b⟩)
theorem some_good {k : Nat} {fr : List Nat} (h : (candF T k).find? (fun fr => goodB T (full (T.length / 2) fr)) = some fr) : okCuts T.length 0 (full (T.length / 2) fr) ∧ balD T (full (T.length / 2) fr) ∧ (full (T.length / 2) fr).length = k + 1 := by
  have g := List.find?_some h
  have m := List.mem_of_find?_eq_some h
  obtain ⟨a, b⟩ := good_iff.mp g
  refine ⟨a, b, ?_⟩
  simp only [full, List.length_append, List.length_singleton]
  rw [(acs_len k 1 (T.length - 1)).2 fr m]
theorem none_bal (h : balD T []) : T.length = 0 := by
  have s := bal_len E h
  rw [alt_0, alt_0, alt_0, E.cnt (.inl rfl), E.cnt (.inr (.inl rfl)), E.cnt (.inr (.inr rfl))] at s
  have l := E.len
  omega
theorem fw_ok : Fw T (fwc T) := by
  unfold fwc
  by_cases h0 : T.length = 0
  · rw [if_pos h0]
    have e : T = [] := List.length_eq_zero_iff.mp h0
    subst e
    exact ⟨trivial, fun x _ => by simp [segs, alt], by simp, fun _ _ _ => by simp⟩
  · rw [if_neg h0]
    have low : ∀ cs', okCuts T.length 0 cs' → balD T cs' → 1 ≤ cs'.length := fun cs' o b => by
      cases cs' with
      | nil => exact absurd (none_bal E b) h0
      | cons => simp
    cases q0 : (candF T 0).find? (fun fr => goodB T (full (T.length / 2) fr)) with
    | some fr =>
      simp only
      obtain ⟨a, b, c⟩ := some_good E q0
      exact ⟨a, b, by omega, fun cs' o b' => by rw [c]; exact low cs' o b'⟩
    | none =>
      have low2 : ∀ cs', okCuts T.length 0 cs' → balD T cs' → 2 ≤ cs'.length := fun cs' o b => by
        have l := low cs' o b
        by_cases h : cs'.length = 1
        · have := found_some E o b l (by omega)
          rw [h] at this
          exact absurd q0 this
        · omega
      simp only
      cases q1 : (candF T 1).find? (fun fr => goodB T (full (T.length / 2) fr)) with
      | some fr =>
        simp only
        obtain ⟨a, b, c⟩ := some_good E q1
        exact ⟨a, b, by omega, fun cs' o b' => by rw [c]; exact low2 cs' o b'⟩
      | none =>
        have low3 : ∀ cs', okCuts T.length 0 cs' → balD T cs' → 3 ≤ cs'.length := fun cs' o b => by
          have l := low2 cs' o b
          by_cases h : cs'.length = 2
          · have := found_some E o b (by omega) (by omega)
            rw [h] at this
            exact absurd q1 this
          · omega
        simp only
        cases q2 : (candF T 2).find? (fun fr => goodB T (full (T.length / 2) fr)) with
        | some fr =>
          simp only
          obtain ⟨a, b, c⟩ := some_good E q2
          exact ⟨a, b, by omega, fun cs' o b' => by rw [c]; exact low3 cs' o b'⟩
        | none =>
          obtain ⟨cs, o, b, l1, l3⟩ := neck_3 E (by omega)
          have l := low3 cs o b
          have := found_some E o b l1 l3
          rw [show cs.length - 1 = 2 by omega] at this
          exact absurd q2 this
end
section
variable {T : List Nat} {st : Sto}
theorem cnt_mod (n : Nat) (st : Sto) : oMod (.int (n : Int)) (.int 2) st = .val .P (.int ((n % 2 : Nat) : Int)) st := by
  have e : ((n : Nat) : Int).fmod 2 = ((n % 2 : Nat) : Int) := by
    rw [Int.fmod_eq_emod_of_nonneg _ (by decide)]
    omega
  rw [e_oMod_1, if_pos (by decide), e]
theorem odd_step {x : Nat} {v1 v2 v3 v4 v5 : SL} : tgB (tgN 1) fb_fewest_cuts_1 (.str ⟨#[x]⟩) ⟨[.val (.str (S T)), v1, v2, v3, v4, v5], st⟩ = if T.count x % 2 = 1 then .exc 2 [.str ⟨#[x]⟩] ⟨[.val (.str (S T)), .val (.str ⟨#[x]⟩), v2, v3, v4, v5], st⟩ else .nx ⟨[.val (.str (S T)), .val (.str ⟨#[x]⟩), v2, v3, v4, v5], st⟩ := by
  have c := count_one (S T) x
  rw [S_cps] at c
  have m := cnt_mod (T.count x) st
  have hc : msCount (S T) [.str ⟨#[x]⟩] st = .val .P (.int ((T.count x : Nat) : Int)) st := by rw [e_msCount, c]
  generalize S T = z at *
  generalize hw : (⟨#[x]⟩ : Str) = w at *
  generalize ((T.count x : Nat) : Int) = k at *
  by_cases h : T.count x % 2 = 1
  · rw [if_pos h]
    rw [h] at m
    simp -implicitDefEqProofs [q_fb_fewest_cuts_1, hc, m, -e_oMod_1]
  · rw [if_neg h]
    have h0 : T.count x % 2 = 0 := by omega
    rw [h0] at m
    simp -implicitDefEqProofs [q_fb_fewest_cuts_1, hc, m, -e_oMod_1]
theorem abc_items : itemsOf (.str (Str.ofString "abc")) = some [.str ⟨#[97]⟩, .str ⟨#[98]⟩, .str ⟨#[99]⟩] := rfl
def fwm (T : List Nat) : Md := if T.length = 0 then .N else .P
theorem fewest_run (E : Evn T) (hT : T.length ≤ 24) (st : Sto) : F_fewest_cuts [.str (S T)] st = .val (fwm T) (.lst ((fwc T).map dN)) st := by
  have ak := ask_ok (st := st) E.abc hT
  have o1 := odd_step (T := T) (st := st) (x := 97) (v1 := .emp) (v2 := .emp) (v3 := .emp) (v4 := .emp) (v5 := .emp)
  have o2 := odd_step (T := T) (st := st) (x := 98) (v1 := .val (.str ⟨#[97]⟩)) (v2 := .emp) (v3 := .emp) (v4 := .emp) (v5 := .emp)
  have o3 := odd_step (T := T) (st := st) (x := 99) (v1 := .val (.str ⟨#[98]⟩)) (v2 := .emp) (v3 := .emp) (v4 := .emp) (v5 := .emp)
  rw [if_neg (by rw [E.ev 97 (.inl rfl)]; decide)] at o1
  rw [if_neg (by rw [E.ev 98 (.inr (.inl rfl))]; decide)] at o2
  rw [if_neg (by rw [E.ev 99 (.inr (.inr rfl))]; decide)] at o3
  have hf : forD (tgB (tgN 1) fb_fewest_cuts_1) [.str ⟨#[97]⟩, .str ⟨#[98]⟩, .str ⟨#[99]⟩] ⟨[.val (.str (S T)), .emp, .emp, .emp, .emp, .emp], st⟩ = .nx ⟨[.val (.str (S T)), .val (.str ⟨#[99]⟩), .emp, .emp, .emp, .emp], st⟩ := by
    rw [e_forC, o1]; simp only
    rw [e_forC, o2]; simp only
    rw [e_forC, o3]; rfl
  have su : F_sums_ahead [.str (S T)] st = .val .N (.lst (SM T)) st := sums_eq (by omega) st
  have hz : (S T).length ≤ 1000000 := by rw [S_len]; omega
  have hsl : (S T).length = T.length := S_len T
  have hh := E.half
  have wc : ∀ (k : Nat) (x4 x5 : SL), wc_fewest_cuts_3 ⟨[.val (.str (S T)), .val (.str ⟨#[99]⟩), .val (.lst (SM T)), .val (.int (k : Int)), x4, x5], st⟩ = .val .P (.bl (decide (k < T.length))) st := fun k x4 x5 => by
    have e : decide ((k : Int) < (T.length : Int)) = decide (k < T.length) := by rw [decide_eq_decide]; omega
    rw [← e]
    rw [hsl] at hz
    generalize S T = z at *
    generalize SM T = SD at *
    generalize (k : Int) = k' at *
    simp -implicitDefEqProofs [q_wc_fewest_cuts_3, hz, hsl]
  have fin : ∀ r, sWhile wc_fewest_cuts_3 wb_fewest_cuts_4 ⟨[.val (.str (S T)), .val (.str ⟨#[99]⟩), .val (.lst (SM T)), .val (.int 1), .emp, .emp], st⟩ = r → (r.bind (sRet (dLst aNil))).ret = .val (fwm T) (.lst ((fwc T).map dN)) st → F_fewest_cuts [.str (S T)] st = .val (fwm T) (.lst ((fwc T).map dN)) st := fun r hr h => by
    rw [← h, ← hr]
    have it := abc_items
    clear h hr wc hh o1 o2 o3
    generalize S T = z at *
    generalize SM T = SD at *
    simp -implicitDefEqProofs [F_fewest_cuts, g_fewest_cuts, ak, -e_itS, it, hf, su]
  by_cases h0 : T.length = 0
  · have w1 : wc_fewest_cuts_3 ⟨[.val (.str (S T)), .val (.str ⟨#[99]⟩), .val (.lst (SM T)), .val (.int 1), .emp, .emp], st⟩ = .val .P (.bl false) st := by
      have := wc 1 .emp .emp
      rw [decide_eq_false (by omega)] at this
      exact this
    refine fin _ (while_end w1) ?_
    have e1 : fwm T = .N := by unfold fwm; rw [if_pos h0]
    have e2 : fwc T = [] := by unfold fwc; rw [if_pos h0]
    rw [e1, e2]
    simp
  · have e1 : fwm T = .P := by unfold fwm; rw [if_neg h0]
    have go : ∀ (k : Nat), k < T.length → ∀ (x4 x5 : SL), wc_fewest_cuts_3 ⟨[.val (.str (S T)), .val (.str ⟨#[99]⟩), .val (.lst (SM T)), .val (.int (k : Int)), x4, x5], st⟩ = .val .P (.bl true) st := fun k hk x4 x5 => by
      have := wc k x4 x5
      rw [decide_eq_true hk] at this
      exact this
    have r0 := round_ok (st := st) (v1 := .val (.str ⟨#[99]⟩)) (x4 := .emp) (x5 := .emp) (k := 0) (by omega) (by omega) hh (by decide)
    have done : ∀ fr, fwc T = full (T.length / 2) fr → ((SR.rt .P (.lst ((full (T.length / 2) fr).map dN)) st).bind (sRet (dLst aNil))).ret = .val (fwm T) (.lst ((fwc T).map dN)) st := fun fr e => by
      rw [e1, e]; simp
    cases q0 : (candF T 0).find? (fun fr => goodB T (full (T.length / 2) fr)) with
    | some fr =>
      rw [q0] at r0
      exact fin _ (while_rt (go 1 (by omega) .emp .emp) r0) (done fr (by unfold fwc; rw [if_neg h0, q0]))
    | none =>
      rw [q0] at r0
      obtain ⟨x4, x5, r0⟩ := r0
      have big : 4 ≤ T.length := by
        apply Classical.byContradiction
        intro hn
        obtain ⟨cs, o, b, l1, l3⟩ := neck_3 E (by omega)
        have : cs.length = 1 := by
          match cs, o, l1 with
          | [_], _, _ => rfl
          | _ :: _ :: _, o, _ => have := o.1; have := o.2.2.1; have := o.2.2.2.1; omega
        have f := found_some E o b l1 l3
        rw [this] at f
        exact absurd q0 f
      have r1 := round_ok (st := st) (v1 := .val (.str ⟨#[99]⟩)) (x4 := x4) (x5 := x5) (k := 1) (by omega) (by omega) hh (by decide)
      have s0 := while_nx (go 1 (by omega) .emp .emp) (.inl r0)
      cases q1 : (candF T 1).find? (fun fr => goodB T (full (T.length / 2) fr)) with
      | some fr =>
        rw [q1] at r1
        exact fin _ (s0.trans (while_rt (go 2 (by omega) x4 x5) r1)) (done fr (by unfold fwc; rw [if_neg h0, q0, q1]))
      | none =>
        rw [q1] at r1
        obtain ⟨y4, y5, r1⟩ := r1
        have r2 := round_ok (st := st) (v1 := .val (.str ⟨#[99]⟩)) (x4 := y4) (x5 := y5) (k := 2) (by omega) (by omega) hh (by decide)
        have s1 := s0.trans (while_nx (go 2 (by omega) x4 x5) (.inl r1))
        cases q2 : (candF T 2).find? (fun fr => goodB T (full (T.length / 2) fr)) with
        | some fr =>
          rw [q2] at r2
          exact fin _ (s1.trans (while_rt (go 3 (by omega) y4 y5) r2)) (done fr (by unfold fwc; rw [if_neg h0, q0, q1, q2]))
        | none =>
          exfalso
          have l := (fw_ok E).ok
          obtain ⟨cs, o, b, l1, l3⟩ := neck_3 E (by omega)
          have f := found_some E o b l1 l3
          rcases (show cs.length = 1 ∨ cs.length = 2 ∨ cs.length = 3 by omega) with h | h | h <;> rw [h] at f <;> contradiction
end
theorem fmod_in (x : Int) {s : Int} (h : 0 < s) : 0 ≤ x.fmod s ∧ x.fmod s < s := ⟨Int.fmod_nonneg_of_pos x h, Int.fmod_lt_of_pos x h⟩
theorem atI_ok {α : Type} {l : List α} {i : Int} (h0 : 0 ≤ i) (h : i < l.length) : ∃ x, atI l i = some x := by
  have hi : i.toNat < l.length := by omega
  refine ⟨l[i.toNat], ?_⟩
  have := atI_nat (List.getElem?_eq_getElem hi)
  rwa [Int.toNat_of_nonneg h0] at this
theorem mixed_ex (c k : Int) (h0 : 0 ≤ k) (h1 : k ≤ 1000000) : ∃ r : Int, 0 ≤ r ∧ r < 1000000007 ∧ ∀ st, F_law_mixed [.int c, .int k] st = .val .P (.int r) st := by
  have hc := fmod_in c (s := 2147483647) (by decide)
  have hkk : (1009 : Int) * k * k ≤ 1009 * 1000000 * 1000000 := Int.mul_le_mul (by omega) h1 h0 (by omega)
  have hkk0 : (0 : Int) ≤ 1009 * k * k := Int.mul_nonneg (by omega) h0
  have q1 : (1009 : Int).natAbs.log2 + k.natAbs.log2 < 1000000 := mul_ok (a := 20) (b := 30) (by decide) (by omega) (by decide) (by decide) (by decide)
  have q2 : (1009 * k).natAbs.log2 + k.natAbs.log2 < 1000000 := mul_ok (a := 60) (b := 30) (by omega) (by omega) (by decide) (by decide) (by decide)
  have q3 : (48611 : Int).natAbs.log2 + k.natAbs.log2 < 1000000 := mul_ok (a := 20) (b := 30) (by decide) (by omega) (by decide) (by decide) (by decide)
  generalize hb : (c.fmod 2147483647 + 1009 * k * k + 48611 * k + 17) = bb
  have q4 : bb.natAbs < 2 ^ 64 := by omega
  have hm := fmod_in (bb ^ 5) (s := 2147483647) (by decide)
  generalize hw : (bb ^ 5).fmod 2147483647 = w at hm
  have q5 : w.natAbs.log2 + (39373 : Int).natAbs.log2 < 1000000 := mul_ok (a := 40) (b := 20) (by omega) (by decide) (by decide) (by decide) (by decide)
  have q6 : (7919 : Int).natAbs.log2 + k.natAbs.log2 < 1000000 := mul_ok (a := 20) (b := 30) (by decide) (by omega) (by decide) (by decide) (by decide)
  have hr := fmod_in (w * 39373 + 7919 * k) (s := 1000000007) (by decide)
  refine ⟨_, hr.1, hr.2, fun st => ?_⟩
  simp only [F_law_mixed, g_law_mixed, e_fnD, e_startE, e_sSeq, e_sSetF, e_dOp, e_dVar, e_dC, List.map_cons, List.map_nil, List.length_cons, List.length_nil, if_true, List.cons_append, List.nil_append, List.replicate, List.getElem?_cons_succ, List.getElem?_cons_zero, ER.bind_val, e_oMod_1, e_oMul_1, e_oAdd_1, e_oPow_1, q1, q2, q3, hb, q4, hw, q5, q6]
  have q4' : bb.natAbs < 18446744073709551616 := q4
  simp +decide [hb, q4', hw, q5, q6]
  simp +decide at q5 q6
  simp +decide [q5, q6]
def Box (p q N : Nat) (st : Sto) : Prop := p ≠ q ∧ ∃ (g sm : List Int) (a c : Int), st[q]? = some (.lst (g.map .int)) ∧ st[p]? = some (.lst [.ptr q, .int a, .lst (sm.map .int), .int c]) ∧ 0 ≤ a ∧ 0 ≤ c ∧ c ≤ N ∧ (∀ x ∈ g, 0 < x) ∧ g.length ≤ 63 ∧ sm.length ≤ 63
def Rest (p q : Nat) (st st' : Sto) : Prop := st'.length = st.length ∧ ∀ m, m ≠ p → m ≠ q → st'[m]? = st[m]?
theorem Rest.refl {p q : Nat} {st : Sto} : Rest p q st st := ⟨rfl, fun _ _ _ => rfl⟩
theorem Rest.trans {p q : Nat} {s t u : Sto} (h : Rest p q s t) (k : Rest p q t u) : Rest p q s u := ⟨k.1.trans h.1, fun m a b => (k.2 m a b).trans (h.2 m a b)⟩
theorem Box.up {p q N M : Nat} {st : Sto} (h : Box p q N st) (k : N ≤ M) : Box p q M st := by
  obtain ⟨a, g, sm, x, c, h1, h2, h3, h4, h5, h6⟩ := h
  exact ⟨a, g, sm, x, c, h1, h2, h3, h4, by omega, h6⟩
theorem take_loop {p : Nat} {st : Sto} {n c k : Int} (hn : n < 2 ^ 1000) (hst : ∃ x y z, st[p]? = some (.lst [x, y, z, .int c])) (hc0 : 0 ≤ c) (hc : c ≤ 200000) :
    ∀ (m : Nat) (f r : Int), 0 < r → 0 ≤ f → f < r → r < n * 1000000007 ∨ r = 1 → (n - r).toNat ≤ m →
      ∃ f' r', 0 ≤ f' ∧ ∃ i, whN wc_law_take_1 wb_law_take_2 i ⟨[.val (.ptr p), .val (.int n), .val (.int k), .val (.int f), .val (.int r)], st⟩ = some (.nx ⟨[.val (.ptr p), .val (.int n), .val (.int k), .val (.int f'), .val (.int r')], st⟩) := by
  obtain ⟨x, y, z, hst⟩ := hst
  intro m
  induction m with
  | zero =>
    intro f r hr hf hfr hb hm
    refine ⟨f, r, hf, 1, ?_⟩
    rw [e_wh (x := false) (m := .P) (st1 := st) (by simp [q_wc_law_take_1]; omega)]
    simp
  | succ m ih =>
    intro f r hr hf hfr hb hm
    by_cases hlt : r < n
    · obtain ⟨mx, h0, h1, hx⟩ := mixed_ex k (c + 1000 * f.fmod 89) (by have := fmod_in f (s := 89) (by decide); omega) (by have := fmod_in f (s := 89) (by decide); omega)
      obtain ⟨f', r', hf', i, hi⟩ := ih (f * 1000000007 + mx) (r * 1000000007) (by omega) (by omega) (by omega) (by omega) (by omega)
      refine ⟨f', r', hf', i + 1, ?_⟩
      rw [e_wh (x := true) (m := .P) (st1 := st) (by simp [q_wc_law_take_1]; omega)]
      have q1 : f.natAbs.log2 + Nat.log2 1000000007 < 1000000 := mul_ok (j := 1000000007) (a := 1000) (b := 40) (by omega) (by decide) (by decide) (by decide) (by decide)
      have q2 : r.natAbs.log2 + Nat.log2 1000000007 < 1000000 := mul_ok (j := 1000000007) (a := 1000) (b := 40) (by omega) (by decide) (by decide) (by decide) (by decide)
      have q3 : Nat.log2 1000 + (f.fmod 89).natAbs.log2 < 1000000 := mul_ok (i := 1000) (a := 40) (b := 40) (by decide) (by have := fmod_in f (s := 89) (by decide); omega) (by decide) (by decide) (by decide)
      simp [q_wb_law_take_2, q1, q2, q3, hst, atI, ixN, hx]
      exact hi
    · refine ⟨f, r, hf, 1, ?_⟩
      rw [e_wh (x := false) (m := .P) (st1 := st) (by simp [q_wc_law_take_1]; omega)]
      simp
theorem take_ok {p q N : Nat} {st : Sto} {n : Int} (B : Box p q N st) (h1 : 1 ≤ n) (h2 : n < 2 ^ 1000 := by decide) (hN : N ≤ 100000 := by decide) : ∃ r st', F_law_take [.ptr p, .int n] st = .val .P (.int r) st' ∧ 0 ≤ r ∧ r < n ∧ Box p q (N + 1) st' ∧ Rest p q st st' := by
  obtain ⟨pq, g, sm, a, c, hq, hp, a0, c0, cN, gp, gl, sl⟩ := B
  have qp : q ≠ p := fun h => pq h.symm
  have lp : p < st.length := (List.getElem?_eq_some_iff.mp hp).1
  have lq : q < st.length := (List.getElem?_eq_some_iff.mp hq).1
  have hn0 : ¬ n = 0 := by omega
  have hlog : n.natAbs.log2 < 9000 := Nat.lt_of_lt_of_le (log2_lt (k := 1000) (by decide) (by omega)) (by decide)
  have sp : ∀ (s : Sto) (x : Ob), s.length = st.length → (s.set p x)[p]? = some x := fun s x h => List.getElem?_set_self (by omega)
  have sq : ∀ (s : Sto) (x : Ob), s.length = st.length → (s.set q x)[q]? = some x := fun s x h => List.getElem?_set_self (by omega)
  by_cases ha : 0 < a
  · have hd := Int.fdiv_nonneg a0 (show 0 ≤ n by omega)
    refine ⟨a.fmod n, (st.set p (.lst [.ptr q, .int a, .lst (sm.map .int), .int (c + 1)])).set p (.lst [.ptr q, .int (a.fdiv n), .lst (sm.map .int), .int (c + 1)]), ?_, (fmod_in a h1).1, (fmod_in a h1).2, ⟨pq, g, sm, a.fdiv n, c + 1, ?_, ?_, hd, by omega, by omega, gp, gl, sl⟩, by simp, fun m m1 m2 => ?_⟩
    · have ha' : ¬ a = 0 := by omega
      simp [F_law_take, g_law_take, hp, hq, atI, ixN, ha, ha', sp, hn0, hlog, List.getElem?_set_ne pq]
    · simp [List.getElem?_set_ne pq, hq]
    · exact sp _ _ (by simp)
    · simp [List.getElem?_set_ne (Ne.symm m1)]
  · have ha0 : a = 0 := by omega
    subst ha0
    cases g with
    | cons x g =>
      have hx : 0 < x := gp x (List.mem_cons_self ..)
      have hd := Int.fdiv_nonneg (show 0 ≤ x by omega) (show 0 ≤ n by omega)
      refine ⟨x.fmod n, ((((st.set p (.lst [.ptr q, .int 0, .lst (sm.map .int), .int (c + 1)])).set q (.lst (g.map .int))).set p (.lst [.ptr q, .int x, .lst (sm.map .int), .int (c + 1)]))).set p (.lst [.ptr q, .int (x.fdiv n), .lst (sm.map .int), .int (c + 1)]), ?_, (fmod_in x h1).1, (fmod_in x h1).2, ⟨pq, g, sm, x.fdiv n, c + 1, ?_, ?_, hd, by omega, by omega, fun y hy => gp y (List.mem_cons_of_mem _ hy), by simp at gl; omega, sl⟩, by simp, fun m m1 m2 => ?_⟩
      · have hx' : ¬ x = 0 := by omega
        simp [F_law_take, g_law_take, hp, hq, atI, ixN, hx, hx', sp, sq, hn0, hlog, List.getElem?_set_ne pq, List.getElem?_set_ne qp, seqIndex?]
      · rw [List.getElem?_set_ne pq, List.getElem?_set_ne pq]; exact sq _ _ (by simp)
      · exact sp _ _ (by simp)
      · simp [List.getElem?_set_ne (Ne.symm m1), List.getElem?_set_ne (Ne.symm m2)]
    | nil =>
      have hS : (st.set p (.lst [.ptr q, .int 0, .lst (sm.map .int), .int (c + 1)]))[p]? = some (.lst [.ptr q, .int 0, .lst (sm.map .int), .int (c + 1)]) := sp _ _ rfl
      have hQ : (st.set p (.lst [.ptr q, .int 0, .lst (sm.map .int), .int (c + 1)]))[q]? = some (.lst []) := by rw [List.getElem?_set_ne pq]; exact hq
      have hl : (st.set p (.lst [.ptr q, .int 0, .lst (sm.map .int), .int (c + 1)])).length = st.length := by simp
      have hr : ∀ m, m ≠ p → m ≠ q → (st.set p (.lst [.ptr q, .int 0, .lst (sm.map .int), .int (c + 1)]))[m]? = st[m]? := fun m m1 m2 => List.getElem?_set_ne (Ne.symm m1)
      generalize hs : st.set p (.lst [.ptr q, .int 0, .lst (sm.map .int), .int (c + 1)]) = s at hS hQ hl hr
      have q7 : Nat.log2 7 + (c + 1).natAbs.log2 < 1000000 := mul_ok (i := 7) (a := 40) (b := 40) (by decide) (by omega) (by decide) (by decide) (by decide)
      have key : ∀ k : Int, ∃ f, 0 ≤ f ∧ f < n ∧ ((sSeq (sSetF 3 (dC (.int 0)))
          (sSeq (sSetF 4 (dC (.int 1)))
          (sSeq (sWhile wc_law_take_1 wb_law_take_2)
          (sRet (dOp oMod (dVar 3) (dVar 1)))))) ⟨[.val (.ptr p), .val (.int n), .val (.int k), .emp, .emp], s⟩) = .rt .P (.int f) s := fun k => by
        obtain ⟨f, r, hf, i, hi⟩ := take_loop (p := p) (st := s) (n := n) (c := c + 1) (k := k) h2 ⟨_, _, _, hS⟩ (by omega) (by omega) (n - 1).toNat 0 1 (by decide) (by decide) (by decide) (.inr rfl) (by omega)
        have hw := sWhile_eq hi
        refine ⟨f.fmod n, (fmod_in f h1).1, (fmod_in f h1).2, ?_⟩
        simp [hw, hn0]
      have fin : ∀ f, 0 ≤ f → f < n → F_law_take [.ptr p, .int n] st = .val .P (.int f) s → ∃ r st', F_law_take [.ptr p, .int n] st = .val .P (.int r) st' ∧ 0 ≤ r ∧ r < n ∧ Box p q (N + 1) st' ∧ Rest p q st st' := fun f h3 h4 h5 =>
        ⟨f, s, h5, h3, h4, ⟨pq, [], sm, 0, c + 1, hQ, hS, by decide, by omega, by omega, fun y hy => by simp at hy, by decide, sl⟩, hl, hr⟩
      cases sm with
      | nil =>
        obtain ⟨f, f0, f1, hf⟩ := key (7 * (c + 1))
        refine fin f f0 f1 ?_
        simp only [e_sSeq] at hf
        simp [F_law_take, g_law_take, hp, atI, ixN] at hf hs hS ⊢
        rw [hs]
        simp [hS, hQ, q7, hf, atI, ixN]
      | cons y sm =>
        have hL : (0 : Int) < ((y :: sm).length : Int) := by rw [List.length_cons]; omega
        have hfm := fmod_in (c + 1) hL
        obtain ⟨k, hk⟩ := atI_ok (l := (y :: sm).map D.int) (i := (c + 1).fmod ((y :: sm).length : Int)) hfm.1 (by rw [List.length_map]; exact hfm.2)
        have hk2 : ∃ z, k = .int z := by
          unfold atI at hk
          cases hx : ixN ((y :: sm).map D.int).length ((c + 1).fmod ((y :: sm).length : Int)) with
          | none => rw [hx] at hk; cases hk
          | some j =>
            rw [hx] at hk
            have hk' : ((y :: sm).map D.int)[j]? = some k := hk
            rw [List.getElem?_map] at hk'
            cases hj : (y :: sm)[j]? with
            | none => rw [hj] at hk'; cases hk'
            | some z => rw [hj] at hk'; exact ⟨z, (Option.some.inj hk').symm⟩
        obtain ⟨z, rfl⟩ := hk2
        obtain ⟨f, f0, f1, hf⟩ := key z
        refine fin f f0 f1 ?_
        generalize hY : y :: sm = Y at *
        have hY0 : 0 < Y.length := by rw [← hY]; simp
        have hYn : ¬ Y = [] := by rw [← hY]; simp
        have hY1 : ¬ (Y.length : Int) = 0 := by omega
        have a3 : ∀ X : D, atI [D.ptr q, .int 0, .lst (Y.map .int), X] 3 = some X := fun X => by simp [atI, ixN]
        have a2 : ∀ X : D, atI [D.ptr q, .int 0, .lst (Y.map .int), X] 2 = some (.lst (Y.map .int)) := fun X => by simp [atI, ixN]
        have a1 : ∀ X : D, atI [D.ptr q, .int 0, .lst (Y.map .int), X] 1 = some (.int 0) := fun X => by simp [atI, ixN]
        have a0' : ∀ X : D, atI [D.ptr q, .int 0, .lst (Y.map .int), X] 0 = some (.ptr q) := fun X => by simp [atI, ixN]
        have i3 : ixN 4 3 = some 3 := by decide
        simp only [e_sSeq] at hf
        simp [F_law_take, g_law_take, hp, a3, i3] at hf hs hS ⊢
        rw [hs]
        simp [hS, hQ, q7, hf, a0', a1, a2, a3, hY0, hYn, hk]
theorem keep_go (e : DE) (c f : En → ER) (v : Nat) (pr : Int → Bool) (hc : ∀ x st, c ⟨e.set v (.val (.int x)), st⟩ = .val .P (.bl (pr x)) st) (hf : ∀ x st, f ⟨e.set v (.val (.int x)), st⟩ = .val .P (.int x) st) :
    ∀ (ns : List Int) (st : Sto), lcGo (lcStep (tgN v) c f e) (ns.map .int) st = some ((ns.filter pr).map .int, st)
  | [], st => rfl
  | x :: ns, st => by
    rw [List.map_cons, e_lcC]
    have ih := keep_go e c f v pr hc hf ns st
    cases h : pr x with
    | true => simp [hc, hf, h, ih, List.filter_cons]
    | false => simp [hc, hf, h, ih, List.filter_cons]
theorem box_ok (ns : List Int) (hl : ns.length ≤ 63) : ∃ st, F_law_box [.scr ns] [] = .val .P (.ptr 1) st ∧ Box 1 0 0 st ∧ st.length = 2 := by
  have k1 := keep_go [SL.val (.scr ns), .emp, .emp] ct_law_box_2 ce_law_box_1 2 (fun x => decide (x ≥ 1000000000000000000)) (fun x st => by simp [q_ct_law_box_2]) (fun x st => by simp [q_ce_law_box_1]) ns []
  generalize hg : ns.filter (fun x => decide (x ≥ 1000000000000000000)) = g at k1
  have k2 := keep_go [SL.val (.scr ns), .val (.ptr 0), .emp] ct_law_box_4 ce_law_box_3 2 (fun x => decide (x < 1000000000000000000)) (fun x st => by simp [q_ct_law_box_4]) (fun x st => by simp [q_ce_law_box_3]) ns [.lst (g.map .int)]
  generalize hs : ns.filter (fun x => decide (x < 1000000000000000000)) = sm at k2
  have gl : g.length ≤ 63 := by rw [← hg]; exact Nat.le_trans (List.length_filter_le ..) hl
  have sl : sm.length ≤ 63 := by rw [← hs]; exact Nat.le_trans (List.length_filter_le ..) hl
  have gp : ∀ x ∈ g, 0 < x := fun x hx => by
    rw [← hg] at hx
    have := (List.mem_filter.mp hx).2
    have : x ≥ 1000000000000000000 := by simpa using this
    omega
  have hl' : ns.length ≤ 1000000 := by omega
  refine ⟨[.lst (g.map .int), .lst [.ptr 0, .int 0, .lst (sm.map .int), .int 0]], ?_, ⟨by decide, g, sm, 0, 0, rfl, rfl, by decide, by decide, by decide, gp, gl, sl⟩, rfl⟩
  simp only [F_law_box, g_law_box, e_fnD, e_startE, e_sSeq, e_sSetF, e_dPut, e_dLc, e_dIter, e_dVar, List.map_cons, List.map_nil, List.length_cons, List.length_nil, if_true, List.cons_append, List.nil_append, List.replicate, List.getElem?_cons_succ, List.getElem?_cons_zero, e_itR, List.length_map, hl', e_wipeC, e_wipe0, List.set_cons_succ, List.set_cons_zero, k1, ofOpt_some, Nat.reduceAdd, Nat.reduceSub, SR.bind_nx, e_sRet, e_dLst, e_aCons, e_aNil, e_dC, cons_P, k2, cons_N, acons_ok, Bool.and_self, Nat.reduceLeDiff, List.length_append, e_ret_rt]
theorem lt_bigN {i : Int} (h : i < 100000) : i < 2 ^ 1000 := Int.lt_of_lt_of_le h (by decide)
theorem popAt_okB {l : List D} {i : Int} {k : Nat} {d : D} (h0 : 0 ≤ i) (h1 : i < 100000) (hs : seqIndex? i l.length = some k) (hd : l[k]? = some d) : mPopAt l [.int i] = some (d, l.eraseIdx k) := by
  rw [e_mPopAt, if_pos (by omega), hs]
  simp [hd]
theorem Box.set {p q N n : Nat} {st : Sto} {o : Ob} (B : Box p q N st) (h1 : n ≠ p) (h2 : n ≠ q) : Box p q N (st.set n o) := by
  obtain ⟨pq, g, sm, a, c, hq, hp, r⟩ := B
  exact ⟨pq, g, sm, a, c, by rw [List.getElem?_set_ne h2]; exact hq, by rw [List.getElem?_set_ne h1]; exact hp, r⟩
theorem Box.appB {p q N : Nat} {st : Sto} {o : Sto} (h : Box p q N st) : Box p q N (st ++ o) := by
  obtain ⟨pq, g, sm, a, c, hq, hp, r⟩ := h
  have lp : p < st.length := (List.getElem?_eq_some_iff.mp hp).1
  have lq : q < st.length := (List.getElem?_eq_some_iff.mp hq).1
  exact ⟨pq, g, sm, a, c, by rw [List.getElem?_append_left lq]; exact hq, by rw [List.getElem?_append_left lp]; exact hp, r⟩
theorem Box.lts {p q N : Nat} {st : Sto} (h : Box p q N st) : p < st.length ∧ q < st.length := by
  obtain ⟨pq, g, sm, a, c, hq, hp, r⟩ := h
  exact ⟨(List.getElem?_eq_some_iff.mp hp).1, (List.getElem?_eq_some_iff.mp hq).1⟩
theorem half_go {p q : Nat} {e : DE} {kd : Int} (k1 : 1 ≤ kd) (k3 : kd ≤ 3) (he : ∃ y x3 x4 x5 x6, e = [.val (.ptr p), y, .val (.int kd), x3, x4, x5, x6]) : ∀ (l : List D) (N : Nat) (st : Sto), Box p q N st → N + l.length ≤ 90000 → ∃ (T : List Nat) (st' : Sto), lcGo (lcStep (tgN 6) (fun E => .val .P (.bl true) E.st) ce_law_beads_1 e) l st = some (T.map (fun c => .str ⟨#[c]⟩), st') ∧ abcs T ∧ T.length = l.length ∧ Box p q (N + l.length) st' ∧ Rest p q st st'
  | [], N, st, B, _ => ⟨[], st, rfl, (fun _ h => nomatch h), rfl, B, Rest.refl⟩
  | d :: l, N, st, B, hN => by
    have hN' : N + (l.length + 1) ≤ 90000 := by simpa using hN
    obtain ⟨r, st1, t1, r0, r1, B1, R1⟩ := take_ok B (n := kd) k1 (lt_bigN (by omega)) (by omega)
    obtain ⟨T, st2, h, ha, hl, B2, R2⟩ := half_go k1 k3 he l (N + 1) st1 B1 (by omega)
    obtain ⟨y, x3, x4, x5, x6, rfl⟩ := he
    have hat : ∃ c, atI ("abc" : Str).cps.toList r = some c ∧ (c = 97 ∨ c = 98 ∨ c = 99) := by
      have : r = 0 ∨ r = 1 ∨ r = 2 := by omega
      rcases this with rfl | rfl | rfl
      · exact ⟨97, rfl, by simp⟩
      · exact ⟨98, rfl, by simp⟩
      · exact ⟨99, rfl, by simp⟩
    obtain ⟨c, hat, hc⟩ := hat
    have hz : ("abc" : Str).length ≤ 1000000 := by decide
    refine ⟨c :: T, st2, ?_, fun x hx => ?_, by simp [hl], by rw [List.length_cons, show N + (l.length + 1) = N + 1 + l.length by omega]; exact B2, R1.trans R2⟩
    · rw [e_lcC]
      simp -implicitDefEqProofs [q_ce_law_beads_1, t1, hz, hat, h]
    · rcases List.mem_cons.mp hx with rfl | hx
      · exact hc
      · exact ha x hx
theorem beads_step {p n : Nat} {e1 e2 e3 e6 : SL} {LD LE : List D} {c z zz : Str} {st st1 : Sto} {ri : Int} (hn : st[n]? = some (.lst LD)) (hn1 : st1[n]? = some (.lst LD)) (t1 : F_law_take [.ptr p, .int (LD.length : Int)] st = .val .P (.int ri) st1) (hop : mPopAt LD [.int ri] = some (.str c, LE)) (hz1 : z.length + c.length ≤ 1000000) (hzz : z ++ c = zz) :
    wb_law_beads_3 ⟨[.val (.ptr p), e1, e2, e3, .val (.ptr n), .val (.str z), e6], st⟩ = .nx ⟨[.val (.ptr p), e1, e2, e3, .val (.ptr n), .val (.str zz), e6], st1.set n (.lst LE)⟩ := by
  rw [q_wb_law_beads_3]
  simp -implicitDefEqProofs [-e_mPopAt, hn, hn1, t1, hop, hz1, hzz]
theorem count_erase (x : Nat) : ∀ (L : List Nat) (i : Nat) (h : i < L.length), L.count x = (L.eraseIdx i).count x + [L[i]].count x
  | a :: l, 0, _ => by
    rw [List.eraseIdx_cons_zero, List.count_cons, List.count_singleton]; simp
  | a :: l, i + 1, h => by
    have ih := count_erase x l i (by simpa using h)
    rw [List.eraseIdx_cons_succ, List.count_cons, List.count_cons, ih]
    simp only [List.getElem_cons_succ]
    omega
theorem beads_loop {p q n : Nat} (np : n ≠ p) (nq : n ≠ q) {e1 e2 e3 e6 : SL} : ∀ (k : Nat) (L X : List Nat) (N : Nat) (st : Sto), L.length = k → Box p q N st → N + k ≤ 90000 → X.length + k ≤ 1000 → st[n]? = some (.lst (L.map fun c => .str ⟨#[c]⟩)) →
    ∃ (X' : List Nat) (st' : Sto), sWhile wc_law_beads_2 wb_law_beads_3 ⟨[.val (.ptr p), e1, e2, e3, .val (.ptr n), .val (.str (S X)), e6], st⟩ = .nx ⟨[.val (.ptr p), e1, e2, e3, .val (.ptr n), .val (.str (S X')), e6], st'⟩ ∧ (∀ x, X'.count x = X.count x + L.count x) ∧ X'.length = X.length + k ∧ Box p q (N + k) st' ∧ st'.length = st.length ∧ ∀ m, m ≠ p → m ≠ q → m ≠ n → st'[m]? = st[m]?
  | 0, L, X, N, st, hL, B, _, _, hn => by
    have : L = [] := List.length_eq_zero_iff.mp hL
    subst this
    refine ⟨X, st, while_end (m := .P) ?_, by simp, rfl, B, rfl, fun _ _ _ _ => rfl⟩
    simp -implicitDefEqProofs [q_wc_law_beads_2, hn]
  | k + 1, L, X, N, st, hL, B, hN, hX, hn => by
    obtain ⟨r, st1, t1, r0, r1, B1, R1⟩ := take_ok B (n := ((k + 1 : Nat) : Int)) (by omega) (lt_bigN (by omega)) (by omega)
    have hn1 : st1[n]? = some (.lst (L.map fun c => .str ⟨#[c]⟩)) := (R1.2 n np nq).trans hn
    obtain ⟨r', rfl⟩ := Int.eq_ofNat_of_zero_le r0
    have hr : r' < L.length := by omega
    have hln : n < st1.length := (List.getElem?_eq_some_iff.mp hn1).1
    have B2 : Box p q (N + 1) (st1.set n (.lst ((L.eraseIdx r').map fun c => .str ⟨#[c]⟩))) := B1.set np nq
    have hn2 : (st1.set n (.lst ((L.eraseIdx r').map fun c => .str ⟨#[c]⟩)))[n]? = some (.lst ((L.eraseIdx r').map fun c => .str ⟨#[c]⟩)) := by rw [List.getElem?_set_self hln]
    have hS1 : (⟨#[L[r']]⟩ : Str) = S [L[r']] := rfl
    have hzz : S X ++ (⟨#[L[r']]⟩ : Str) = S (X ++ [L[r']]) := by rw [hS1, S_app]
    obtain ⟨X', st', hw, hc, hl, B3, l3, k3⟩ := beads_loop np nq (e1 := e1) (e2 := e2) (e3 := e3) (e6 := e6) k (L.eraseIdx r') (X ++ [L[r']]) (N + 1) _ (by rw [List.length_eraseIdx, if_pos hr]; omega) B2 (by omega) (by simp; omega) hn2
    have hsq : seqIndex? (r' : Int) (k + 1) = some r' := by
      have h1 : ¬ (r' : Int) < 0 := by omega
      have h2 : r' < k + 1 := by omega
      simp [seqIndex?, h1, h2]
      omega
    have hget : (L.map fun c => D.str ⟨#[c]⟩)[r']? = some (.str ⟨#[L[r']]⟩) := by rw [List.getElem?_map, List.getElem?_eq_getElem hr]; rfl
    have hz1 : (S X).length + (⟨#[L[r']]⟩ : Str).length ≤ 1000000 := by rw [S_len, show (⟨#[L[r']]⟩ : Str).length = 1 from rfl]; omega
    have her : (L.map fun c => D.str ⟨#[c]⟩).eraseIdx r' = (L.eraseIdx r').map fun c => D.str ⟨#[c]⟩ := map_eraseIdx _ _ _
    have hLl : (L.map fun c => D.str ⟨#[c]⟩).length = k + 1 := by simp [hL]
    have hop : mPopAt (L.map fun c => D.str ⟨#[c]⟩) [.int (r' : Int)] = some (.str ⟨#[L[r']]⟩, (L.eraseIdx r').map fun c => D.str ⟨#[c]⟩) := by
      rw [← her]
      exact popAt_okB (by omega) (by omega) (by rw [hLl]; exact hsq) hget
    have t1' : F_law_take [.ptr p, .int ((L.map fun c => D.str ⟨#[c]⟩).length : Int)] st = .val .P (.int (r' : Int)) st1 := by rw [hLl]; exact t1
    have hwb := beads_step (e1 := e1) (e2 := e2) (e3 := e3) (e6 := e6) hn hn1 t1' hop hz1 hzz
    have hwc : wc_law_beads_2 ⟨[.val (.ptr p), e1, e2, e3, .val (.ptr n), .val (.str (S X)), e6], st⟩ = .val .P (.bl true) st := by
      have hp : (0 : Int) < ((L.map fun c => D.str ⟨#[c]⟩).length : Int) := by rw [hLl]; omega
      have hb : ((L.map fun c => D.str ⟨#[c]⟩).length : Int) < 9223372036854775808 := by rw [hLl]; omega
      clear hop t1' hwb her hget hn1 hn2
      generalize (L.map fun c => D.str ⟨#[c]⟩) = LD at *
      generalize S X = z at *
      have hp' : 0 < LD.length := by omega
      simp -implicitDefEqProofs [q_wc_law_beads_2, hn, hp, hp', hb]
    refine ⟨X', st', (while_nx hwc (.inl hwb)).trans hw, fun x => ?_, by rw [hl]; simp; omega, by rw [show N + (k + 1) = N + 1 + k by omega]; exact B3, by rw [l3, List.length_set, R1.1], fun m m1 m2 m3 => ?_⟩
    · rw [hc x, List.count_append]
      have e := count_erase x L r' hr
      omega
    · rw [k3 m m1 m2 m3, List.getElem?_set_ne (Ne.symm m3), R1.2 m m1 m2]
theorem beads_ok {p q N : Nat} {st : Sto} {mo : Nat} (B : Box p q N st) (hN : N ≤ 60000) (hm : mo ≤ 100) : ∃ T st', F_law_beads [.ptr p, .int (mo : Int)] st = .val .P (.str (S T)) st' ∧ Evn T ∧ T.length ≤ mo ∧ Box p q (N + 300) st' ∧ st'.length = st.length + 1 ∧ ∀ m, m < st.length → m ≠ p → m ≠ q → st'[m]? = st[m]? := by
  obtain ⟨kd, st1, t1, k0, k1, B1, R1⟩ := take_ok B (n := 3) (by decide) (by decide) (by omega)
  obtain ⟨hn, st2, t2, h0, h1, B2, R2⟩ := take_ok B1 (n := ((mo / 2 : Nat) : Int) + 1) (by omega) (lt_bigN (by omega)) (by omega)
  obtain ⟨n, rfl⟩ := Int.eq_ofNat_of_zero_le h0
  have hr : (rangeD 0 n).length = n := by simp [rangeD]
  obtain ⟨H, st3, h3, ha, hl, B3, R3⟩ := half_go (p := p) (kd := 1 + kd) (by omega) (by omega) (e := [.val (.ptr p), .val (.int (mo : Int)), .val (.int (1 + kd)), .emp, .emp, .emp, .emp]) ⟨_, _, _, _, _, rfl⟩ (rangeD 0 n) (N + 1 + 1) st2 B2 (by rw [hr]; omega)
  rw [hr] at hl B3
  have lt3 := B3.lts
  have B4 : Box p q (N + 1 + 1 + n) (st3 ++ [.lst ((H ++ H).map fun c => .str ⟨#[c]⟩)]) := B3.appB
  have hn4 : (st3 ++ [Ob.lst ((H ++ H).map fun c => .str ⟨#[c]⟩)])[st3.length]? = some (.lst ((H ++ H).map fun c => .str ⟨#[c]⟩)) := by simp
  obtain ⟨T, st5, hw, hc, hlT, B5, l5, k5⟩ := beads_loop (p := p) (q := q) (n := st3.length) (by omega) (by omega) (e1 := .val (.int (mo : Int))) (e2 := .val (.int (1 + kd))) (e3 := .val (.lst (H.map fun c => .str ⟨#[c]⟩))) (e6 := .emp) (n + n) (H ++ H) [] _ _ (by simp [hl]) B4 (by omega) (by simp; omega) hn4
  have hS0 : S [] = (Str.ofString "") := rfl
  rw [hS0] at hw
  have el3 : st3.length = st.length := by rw [R3.1, R2.1, R1.1]
  refine ⟨T, st5, ?_, ⟨fun c hcT => ?_, fun x _ => ?_⟩, by rw [hlT]; simp; omega, B5.up (by omega), by rw [l5]; simp [el3], fun m hm m1 m2 => ?_⟩
  · have hdv : oDiv (.int (mo : Int)) (.int 2) st1 = .val .P (.int ((mo / 2 : Nat) : Int)) st1 := by
      have e : ((mo : Nat) : Int).fdiv 2 = ((mo / 2 : Nat) : Int) := by
        rw [Int.fdiv_eq_ediv_of_nonneg _ (by decide)]; omega
      rw [e_oDiv_1, if_pos (by decide), e]
    have hsrc : dRng rng1 (aCons (dCall F_law_take (aCons (dVar 0) (aCons (dOp oAdd (dOp oDiv (dVar 1) (dC (.int 2))) (dC (.int 1))) aNil))) aNil) ⟨[.val (.ptr p), .val (.int (mo : Int)), .val (.int (1 + kd)), .emp, .emp, .emp, .emp], st1⟩ = .ok true (rangeD 0 n) st2 := dRng_of (p := true) (l := [.int (n : Int)]) (by
      generalize ((mo / 2 : Nat) : Int) = m2 at *
      generalize (mo : Int) = m0 at *
      simp -implicitDefEqProofs [hdv, t2, -e_oDiv_1]) (rng1_nat (by omega))
    have hr2 : (rangeD 0 n).length ≤ 1000000 := by rw [hr]; omega
    have hlc : dLc (dRng rng1 (aCons (dCall F_law_take (aCons (dVar 0) (aCons (dOp oAdd (dOp oDiv (dVar 1) (dC (.int 2))) (dC (.int 1))) aNil))) aNil)) (tgN 6) (fun E => .val .P (.bl true) E.st) ce_law_beads_1 [6] ⟨[.val (.ptr p), .val (.int (mo : Int)), .val (.int (1 + kd)), .emp, .emp, .emp, .emp], st1⟩ = .val .N (.lst (H.map fun c => .str ⟨#[c]⟩)) st3 := by
      rw [e_dLc, hsrc]
      have hw : wipeE [SL.val (.ptr p), .val (.int (mo : Int)), .val (.int (1 + kd)), .emp, .emp, .emp, .emp] [6] = [SL.val (.ptr p), .val (.int (mo : Int)), .val (.int (1 + kd)), .emp, .emp, .emp, .emp] := rfl
      simp only [hw, hr2, if_true, h3, ofOpt_some]
    have hll : (H.map fun c => D.str ⟨#[c]⟩).length + (H.map fun c => D.str ⟨#[c]⟩).length ≤ 1000000 := by simp [hl]; omega
    have hap : (H ++ H).map (fun c => D.str ⟨#[c]⟩) = (H.map fun c => D.str ⟨#[c]⟩) ++ (H.map fun c => D.str ⟨#[c]⟩) := List.map_append
    rw [hap] at hw
    clear hsrc hap
    generalize (H.map fun c => D.str ⟨#[c]⟩) = HD at *
    generalize (mo : Int) = m0 at *
    simp -implicitDefEqProofs [F_law_beads, g_law_beads, t1, hlc, hll, hw, -e_dLc]
  · have h : 0 < T.count c := List.count_pos_iff.mpr hcT
    rw [hc c, List.count_append] at h
    have : c ∈ H := by
      apply Classical.byContradiction
      intro hn
      have := List.count_eq_zero.mpr hn
      simp at h
      omega
    exact ha c this
  · rw [hc x, List.count_append]; simp; omega
  · have h1 : m ≠ st3.length := by omega
    rw [k5 m m1 m2 h1, List.getElem?_append_left (by omega), R3.2 m m1 m2, R2.2 m m1 m2, R1.2 m m1 m2]
theorem cut_S (T : List Nat) {h u : Nat} (h1 : h ≤ u) (h2 : u ≤ T.length) : cutS (S T) (some (h : Int)) (some (u : Int)) = S ((T.drop h).take (u - h)) := by
  have e1 : HT.sIx (S T).length 0 (some (h : Int)) = h := by
    rw [S_len]
    simp only [HT.sIx]
    rw [if_neg (by omega)]; simp; omega
  have e2 : HT.sIx (S T).length (S T).length (some (u : Int)) = u := by
    rw [S_len]
    simp only [HT.sIx]
    rw [if_neg (by omega)]; simp; omega
  unfold cutS
  rw [e1, e2, S_cps]
theorem pieces_loop {T : List Nat} (hT : T.length ≤ 1000) {st : Sto} {e1 : SL} : ∀ (rest : List Nat) (done : List (List Nat)) (h : Nat) (e4 : SL), okCuts T.length h rest → h ≤ T.length → done.length + rest.length ≤ 2000 →
    forD (tgB (tgN 4) fb_pieces_of_1) ((rest ++ [T.length]).map dN) ⟨[.val (.str (S T)), e1, .own (done.map dS), .val (dN h), e4], st⟩ = .nx ⟨[.val (.str (S T)), e1, .own ((done ++ segs h rest T).map dS), .val (dN T.length), .val (dN T.length)], st⟩
  | [], done, h, e4, _, hh, hl => by
    have c := cut_S T hh (Nat.le_refl _)
    have e : (T.drop h).take (T.length - h) = T.drop h := List.take_of_length_le (by simp)
    rw [e] at c
    have hz : (S T).length ≤ 1000000 := by rw [S_len]; omega
    have hd : (done.map dS).length < 1000000 := by simp; omega
    rw [segs, List.map_append (l₁ := done)]
    show forD _ [dN T.length] _ = _
    have e3 : [T.drop h].map dS = [.str (S (T.drop h))] := rfl
    rw [e3]
    generalize done.map dS = DD at *
    generalize S (T.drop h) = w at *
    generalize S T = z at *
    simp [e_forC, q_fb_pieces_of_1, hz, c, hd]
  | c :: rest, done, h, e4, ⟨h1, h2, h3⟩, hh, hl => by
    have cc := cut_S T (Nat.le_of_lt h1) (Nat.le_of_lt h2)
    have hll : done.length + (rest.length + 1) ≤ 2000 := by simpa using hl
    have ih := pieces_loop hT (st := st) (e1 := e1) rest (done ++ [(T.drop h).take (c - h)]) c (.val (dN c)) h3 (Nat.le_of_lt h2) (by simp; omega)
    have hz : (S T).length ≤ 1000000 := by rw [S_len]; omega
    have hd : (done.map dS).length < 1000000 := by simp; omega
    rw [segs]
    rw [show done ++ (T.drop h).take (c - h) :: segs c rest T = done ++ [(T.drop h).take (c - h)] ++ segs c rest T by simp]
    rw [← ih, List.cons_append, List.map_cons, e_forC]
    clear ih
    have e3 : (done ++ [(T.drop h).take (c - h)]).map dS = done.map dS ++ [.str (S ((T.drop h).take (c - h)))] := by rw [List.map_append]; rfl
    rw [e3]
    generalize (rest ++ [T.length]).map dN = RD at *
    generalize done.map dS = DD at *
    generalize S ((T.drop h).take (c - h)) = w at *
    generalize S T = z at *
    simp [q_fb_pieces_of_1, hz, cc, hd]
theorem segs_flat (T : List Nat) : ∀ (rest : List Nat) (h : Nat), okCuts T.length h rest → (segs h rest T).flatten = T.drop h
  | [], h, _ => by simp [segs]
  | c :: rest, h, ⟨h1, h2, h3⟩ => by
    rw [segs, List.flatten_cons, segs_flat T rest c h3]
    rw [show T.drop c = (T.drop h).drop (c - h) by rw [List.drop_drop]; congr 1; omega, List.take_append_drop]
theorem segs_len (T : List Nat) : ∀ (rest : List Nat) (h : Nat), (segs h rest T).length = rest.length + 1
  | [], h => rfl
  | c :: rest, h => by rw [segs, List.length_cons, segs_len T rest c, List.length_cons]
theorem pieces_eq {T : List Nat} (hT : T.length ≤ 1000) {cs : List Nat} (hc : cs.length ≤ 1000) (ok : okCuts T.length 0 cs) (st : Sto) : F_pieces_of [dS T, .lst (cs.map dN)] st = .val .N (.lst ((segs 0 cs T).map dS)) st := by
  have h := pieces_loop hT (st := st) (e1 := .val (.lst (cs.map dN))) cs [] 0 .emp ok (Nat.zero_le _) (by simp; omega)
  have h' : forD (tgB (tgN 4) fb_pieces_of_1) (cs.map dN ++ [.int (T.length : Int)]) ⟨[.val (.str (S T)), .val (.lst (cs.map dN)), .own [], .val (.int 0), .emp], st⟩ = .nx ⟨[.val (.str (S T)), .val (.lst (cs.map dN)), .own ((segs 0 cs T).map dS), .val (dN T.length), .val (dN T.length)], st⟩ := by
    rw [List.map_append, List.nil_append] at h; exact h
  have hz : (S T).length ≤ 1000000 := by rw [S_len]; omega
  have hsl : (S T).length = T.length := S_len T
  have hl : (cs.map dN).length + 1 ≤ 1000000 := by simp; omega
  generalize cs.map dN = CD at *
  generalize (segs 0 cs T).map dS = PD at *
  rw [hsl] at hz
  show F_pieces_of [.str (S T), _] _ = _
  generalize S T = z at *
  simp [F_pieces_of, g_pieces_of, hz, hsl, hl, h']
theorem flat_sum (l : List (List Nat)) : (l.map List.length).sum = l.flatten.length := by rw [List.length_flatten]
theorem S_cat1 : ∀ T : List Nat, (T.map fun c => (⟨#[c]⟩ : Str)) = (T.map fun c => [c]).map S := fun T => by rw [List.map_map]; rfl
theorem flat1 : ∀ T : List Nat, (T.map fun c => [c]).flatten = T
  | [] => rfl
  | a :: l => by rw [List.map_cons, List.flatten_cons, flat1 l]; rfl
theorem join1 (T : List Nat) : Txt.join "" (T.map fun c => (⟨#[c]⟩ : Str)) = S T := by rw [S_cat1, join_S, flat1]
theorem srt_up {ns : List Int} (h : ns.Pairwise (· ≤ ·)) : srt ns = ns := by
  unfold srt
  exact List.mergeSort_of_pairwise (by simpa using h)
theorem okCuts_pw {n : Nat} : ∀ {cs : List Nat} {h : Nat}, okCuts n h cs → (cs.map fun c : Nat => (c : Int)).Pairwise (· < ·)
  | [], _, _ => List.Pairwise.nil
  | c :: cs, h, ⟨h1, h2, h3⟩ => by
    rw [List.map_cons, List.pairwise_cons]
    refine ⟨fun a ha => ?_, okCuts_pw h3⟩
    obtain ⟨d, hd, rfl⟩ := List.mem_map.mp ha
    have := okCuts_gt h3 d hd
    omega
theorem okCuts_srt {n h : Nat} {cs : List Nat} (ok : okCuts n h cs) : srt (cs.map fun c : Nat => (c : Int)) = cs.map fun c : Nat => (c : Int) :=
  srt_up ((okCuts_pw ok).imp fun h => Int.le_of_lt h)
theorem okCuts_len {n : Nat} : ∀ {cs : List Nat} {h : Nat}, okCuts n h cs → h < n → cs.length + h < n
  | [], h, _, hn => by simpa using hn
  | c :: cs, h, ⟨h1, h2, h3⟩, _ => by
    have := okCuts_len h3 h2
    simp only [List.length_cons]
    omega
theorem okCuts_small {n : Nat} {cs : List Nat} (ok : okCuts n 0 cs) : cs.length ≤ n := by
  cases cs with
  | nil => simp
  | cons c cs =>
    have := okCuts_len ok (by have := ok.1; have := ok.2.1; omega)
    omega
theorem sorted_ok {n : Nat} {cs : List Nat} (ok : okCuts n 0 cs) (hl : cs.length < 64) (st : Sto) : oSortedX [.lst (cs.map dN)] st = .val .N (.lst (cs.map dN)) st := by
  have i : intsOf (cs.map dN) = some (cs.map fun c : Nat => (c : Int)) := intsOf_map (fun c : Nat => (c : Int)) cs
  have e : (cs.map fun c : Nat => (c : Int)).map D.int = cs.map dN := by rw [List.map_map]; rfl
  rw [e_oSortedX, i]
  simp only [List.length_map]
  rw [if_pos hl, okCuts_srt ok, e]
section
variable {st : Sto} {t p : Nat} {T cs : List Nat} {ld : Nat} {la : D}
def ThF (st : Sto) (t : Nat) (T cs : List Nat) (ld p : Nat) (la : D) : Prop := st[t]? = some (.ins 4 [.str (S T), .lst (cs.map dN), .int (ld : Nat), .ptr p, la])
theorem stood_of_th (h : ThF st t T cs ld p la) : F_Thread_stood [.ptr t] st = .val .P (.tup [.lst (cs.map dN), .int (ld : Nat)]) st := by
  unfold ThF at h
  generalize cs.map dN = CD at *
  generalize S T = z at *
  simp -implicitDefEqProofs [F_Thread_stood, g_Thread_stood, h]
end
theorem Str.of_cps (Y : Str) : S Y.cps.toList = Y := by cases Y; rfl
theorem cutS_len (z : Str) (lo hi : Option Int) : (cutS z lo hi).length ≤ z.length := by
  unfold cutS
  simp [Str.length]; omega
theorem text_go {p q : Nat} {e : DE} (he : ∃ x1 x2 x3 x4 x5, e = [.val (.ptr p), x1, x2, x3, x4, x5]) : ∀ (l : List D) (N : Nat) (st : Sto), Box p q N st → N + l.length ≤ 90000 → ∃ (T : List Nat) (st' : Sto), lcGo (lcStep (tgN 5) (fun E => .val .P (.bl true) E.st) ce_law_text_1 e) l st = some (T.map (fun c => .str ⟨#[c]⟩), st') ∧ T.length = l.length ∧ Box p q (N + l.length) st' ∧ Rest p q st st'
  | [], N, st, B, _ => ⟨[], st, rfl, rfl, B, Rest.refl⟩
  | d :: l, N, st, B, hN => by
    have hN' : N + (l.length + 1) ≤ 90000 := by simpa using hN
    obtain ⟨r, st1, t1, r0, r1, B1, R1⟩ := take_ok B (n := 3) (by decide) (by decide) (by omega)
    obtain ⟨T, st2, h, hl, B2, R2⟩ := text_go he l (N + 1) st1 B1 (by omega)
    obtain ⟨x1, x2, x3, x4, x5, rfl⟩ := he
    have hat : ∃ c, atI ("abc" : Str).cps.toList r = some c := by
      have : r = 0 ∨ r = 1 ∨ r = 2 := by omega
      rcases this with rfl | rfl | rfl
      · exact ⟨97, rfl⟩
      · exact ⟨98, rfl⟩
      · exact ⟨99, rfl⟩
    obtain ⟨c, hat⟩ := hat
    have hz : ("abc" : Str).length ≤ 1000000 := by decide
    refine ⟨c :: T, st2, ?_, by simp [hl], by rw [List.length_cons, show N + (l.length + 1) = N + 1 + l.length by omega]; exact B2, R1.trans R2⟩
    rw [e_lcC]
    simp -implicitDefEqProofs [q_ce_law_text_1, t1, hz, hat, h]
theorem sgn_run {p : Nat} {st st1 st2 st3 : Sto} {X s1 s2 z cc : Str} {w i r : Int} {c : Nat} (hX : X.length ≤ 40000) (hs : s1.length + s2.length ≤ 1000000) (hzz : s1 ++ s2 = z) (hz : z.length ≤ 1000) (t1 : F_law_take [.ptr p, .int 2] st = .val .P (.int w) st1) (t2 : F_law_take [.ptr p, .int ((X.length : Int) + 1)] st1 = .val .P (.int i) st2) (t3 : F_law_take [.ptr p, .int (z.length : Int)] st2 = .val .P (.int r) st3) (hc : atI z.cps.toList r = some c) (hcc : (⟨#[c]⟩ : Str) = cc) (lc : cc.length = 1) :
    ∃ Y : Str, fnD 2 5 (sSeq (sSetF 2 (dC (.str s1))) (sSeq (sSetF 2 (dOp oAdd (dVar 2) (dC (.str s2)))) (sSeq (sSetF 3 (dCall F_law_take (aCons (dVar 0) (aCons (dC (.int 2)) aNil)))) (sSeq (sSetF 4 (dCall F_law_take (aCons (dVar 0) (aCons (dOp oAdd (dCB oLen (aCons (dVar 1) aNil)) (dC (.int 1))) aNil)))) (sRet (dOp oAdd (dOp oAdd (dSl oSl (dVar 1) (fun _ => none) (fun e => some ((dVar 4) e))) (dOp oIx (dVar 2) (dCall F_law_take (aCons (dVar 0) (aCons (dCB oLen (aCons (dVar 2) aNil)) aNil))))) (dSl oSl (dVar 1) (fun e => some ((dOp oAdd (dVar 4) (dVar 3)) e)) (fun _ => none)))))))) [.ptr p, .str X] st = .val .P (.str Y) st3 ∧ Y.length ≤ 2 * X.length + 1 := by
  have h1 : X.length ≤ 1000000 := by omega
  have h2 : z.length ≤ 1000000 := by omega
  have k1 := cutS_len X none (some i)
  have k2 := cutS_len X (some (i + w)) none
  have e1 : (cutS X none (some i)).length + 1 ≤ 1000000 := by omega
  have e2 : (cutS X none (some i)).length + 1 + (cutS X (some (i + w)) none).length ≤ 1000000 := by omega
  refine ⟨cutS X none (some i) ++ cc ++ cutS X (some (i + w)) none, ?_, by rw [Str.length_append, Str.length_append, lc]; omega⟩
  simp -implicitDefEqProofs [h1, h2, hs, hzz, t1, t2, t3, hc, hcc, lc, Str.length_append, e1, e2]
theorem sgn_ok {p q N : Nat} {st : Sto} (B : Box p q N st) (hN : N ≤ 80000) {X : Str} (hX : X.length ≤ 400) : ∃ (Y : Str) (st' : Sto), F_law_signed [.ptr p, .str X] st = .val .P (.str Y) st' ∧ Y.length ≤ 2 * X.length + 1 ∧ Box p q (N + 3) st' := by
  obtain ⟨w, st1, t1, w0, w1, B1, R1⟩ := take_ok B (n := 2) (by decide) (by decide) (by omega)
  obtain ⟨i, st2, t2, i0, i1, B2, R2⟩ := take_ok B1 (n := (X.length : Int) + 1) (by omega) (lt_bigN (by omega)) (by omega)
  have go : ∀ (s1 s2 z : Str), s1 ++ s2 = z → 0 < z.length → z.length ≤ 1000 → s1.length + s2.length ≤ 1000000 → ∃ (Y : Str) (st' : Sto), fnD 2 5 (sSeq (sSetF 2 (dC (.str s1))) (sSeq (sSetF 2 (dOp oAdd (dVar 2) (dC (.str s2)))) (sSeq (sSetF 3 (dCall F_law_take (aCons (dVar 0) (aCons (dC (.int 2)) aNil)))) (sSeq (sSetF 4 (dCall F_law_take (aCons (dVar 0) (aCons (dOp oAdd (dCB oLen (aCons (dVar 1) aNil)) (dC (.int 1))) aNil)))) (sRet (dOp oAdd (dOp oAdd (dSl oSl (dVar 1) (fun _ => none) (fun e => some ((dVar 4) e))) (dOp oIx (dVar 2) (dCall F_law_take (aCons (dVar 0) (aCons (dCB oLen (aCons (dVar 2) aNil)) aNil))))) (dSl oSl (dVar 1) (fun e => some ((dOp oAdd (dVar 4) (dVar 3)) e)) (fun _ => none)))))))) [.ptr p, .str X] st = .val .P (.str Y) st' ∧ Y.length ≤ 2 * X.length + 1 ∧ Box p q (N + 3) st' := fun s1 s2 z hz z0 z1 hs => by
    obtain ⟨r, st3, t3, r0, r1, B3, R3⟩ := take_ok B2 (n := (z.length : Int)) (by omega) (lt_bigN (by omega)) (by omega)
    have hzl : z.cps.toList.length = z.length := by simp [Str.length]
    obtain ⟨c, hc⟩ := atI_ok (l := z.cps.toList) r0 (by omega)
    obtain ⟨Y, hY, lY⟩ := sgn_run (by omega) hs hz z1 t1 t2 t3 hc rfl rfl
    exact ⟨Y, st3, hY, lY, B3⟩
  have hg : F_law_signed = fnD 2 5 (sSeq (sSetF 2 (dC (.str (Str.ofString " !\"#$&'()*+,-./0123456789:;<=>?@ABCDEFGHIJKLMNOPQRSTUVWXYZ[\\]^_`")))) (sSeq (sSetF 2 (dOp oAdd (dVar 2) (dC (.str (Str.ofString "abcdefghijklmnopqrstuvwxyz{|}~"))))) (sSeq (sSetF 3 (dCall F_law_take (aCons (dVar 0) (aCons (dC (.int 2)) aNil)))) (sSeq (sSetF 4 (dCall F_law_take (aCons (dVar 0) (aCons (dOp oAdd (dCB oLen (aCons (dVar 1) aNil)) (dC (.int 1))) aNil)))) (sRet (dOp oAdd (dOp oAdd (dSl oSl (dVar 1) (fun _ => none) (fun e => some ((dVar 4) e))) (dOp oIx (dVar 2) (dCall F_law_take (aCons (dVar 0) (aCons (dCB oLen (aCons (dVar 2) aNil)) aNil))))) (dSl oSl (dVar 1) (fun e => some ((dOp oAdd (dVar 4) (dVar 3)) e)) (fun _ => none)))))))) := rfl
  rw [hg]
  exact go _ _ _ rfl (by decide +kernel) (by decide +kernel) (by decide +kernel)
theorem text_ok {p q N : Nat} {st : Sto} (B : Box p q N st) (hN : N ≤ 1000) : ∃ (Y : Str) (st' : Sto), F_law_text [.ptr p] st = .val .P (.str Y) st' ∧ Y.length ≤ 800 := by
  obtain ⟨ev, st1, t1, ev0, ev1, B1, R1⟩ := take_ok B (n := 2) (by decide) (by decide) (by omega)
  obtain ⟨ch, st2, t2, ch0, ch1, B2, R2⟩ := take_ok B1 (n := 4) (by decide) (by decide) (by omega)
  obtain ⟨n, st3, t3, n0, n1, B3, R3⟩ := take_ok B2 (n := 31) (by decide) (by decide) (by omega)
  obtain ⟨n, rfl⟩ := Int.eq_ofNat_of_zero_le n0
  have hr : (rangeD 0 n).length = n := by simp [rangeD]
  obtain ⟨T, st4, g, hl, B4, R4⟩ := text_go (p := p) (q := q) (e := [.val (.ptr p), .val (.int ev), .val (.int ch), .emp, .emp, .emp]) ⟨_, _, _, _, _, rfl⟩ (rangeD 0 n) (N + 1 + 1 + 1) st3 B3 (by rw [hr]; omega)
  rw [hr] at hl B4
  have hsrc : dRng rng1 (aCons (dCall F_law_take (aCons (dVar 0) (aCons (dC (.int 31)) aNil))) aNil) ⟨[.val (.ptr p), .val (.int ev), .val (.int ch), .emp, .emp, .emp], st2⟩ = .ok true (rangeD 0 n) st3 := dRng_of (p := true) (l := [.int (n : Int)]) (by
    generalize (n : Int) = n0 at *
    simp -implicitDefEqProofs [t3]) (rng1_nat (by omega))
  have hr2 : (rangeD 0 n).length ≤ 1000000 := by rw [hr]; omega
  have hlc : dLc (dRng rng1 (aCons (dCall F_law_take (aCons (dVar 0) (aCons (dC (.int 31)) aNil))) aNil)) (tgN 5) (fun E => .val .P (.bl true) E.st) ce_law_text_1 [5] ⟨[.val (.ptr p), .val (.int ev), .val (.int ch), .emp, .emp, .emp], st2⟩ = .val .N (.lst (T.map fun c => .str ⟨#[c]⟩)) st4 := by
    rw [e_dLc, hsrc]
    have hw : wipeE [SL.val (.ptr p), .val (.int ev), .val (.int ch), .emp, .emp, .emp] [5] = [SL.val (.ptr p), .val (.int ev), .val (.int ch), .emp, .emp, .emp] := rfl
    simp only [hw, hr2, if_true, g, ofOpt_some]
  have so : strsOf (T.map fun c => D.str ⟨#[c]⟩) = some (T.map fun c => (⟨#[c]⟩ : Str)) := e_strsOf (f := fun c => (⟨#[c]⟩ : Str)) _
  have hsum : ((T.map fun c => (⟨#[c]⟩ : Str)).map (·.length)).sum = T.length := by
    clear so hlc g hl
    induction T with
    | nil => rfl
    | cons x L ih => simp only [List.map_cons, List.sum_cons, ih, List.length_cons]; show 1 + _ = _; omega
  have l0 : (Str.ofString "").length = 0 := rfl
  have hj : ∃ X0 : Str, X0.length ≤ 800 ∧ msJoin (Str.ofString "") [.lst (T.map fun c => D.str ⟨#[c]⟩)] st4 = .val .P (.str X0) st4 ∧ X0.length ≤ 100 := by
    refine ⟨Txt.join (Str.ofString "") (T.map fun c => (⟨#[c]⟩ : Str)), ?_, ?_, ?_⟩
    · rw [join1, S_len]; omega
    · rw [e_msJoin, e_seqL, so, ofOpt_some, if_pos (by rw [l0, List.length_map, hsum]; omega)]
    · rw [join1, S_len]; omega
  obtain ⟨X0, _, hj, lX0⟩ := hj
  have hb : ∃ (X1 : Str) (st5 : Sto) (N5 : Nat) (w3 : SL), X1.length ≤ 100 ∧ Box p q N5 st5 ∧ N5 ≤ 2000 ∧ sIf (dOp oEq (dVar 1) (dC (.int 1))) (sSetF 3 (dCall F_law_beads (aCons (dVar 0) (aCons (dOp oIx (dLst (aCons (dC (.int 24)) (aCons (dC (.int 30)) aNil))) (dCall F_law_take (aCons (dVar 0) (aCons (dC (.int 2)) aNil)))) aNil)))) sSkip ⟨[.val (.ptr p), .val (.int ev), .val (.int ch), .val (.str X0), .emp, .emp], st4⟩ = .nx ⟨[.val (.ptr p), .val (.int ev), .val (.int ch), .val (.str X1), .emp, .emp], st5⟩ := by
    by_cases c : ev = 1
    · subst c
      obtain ⟨m, st5, t5, m0, m1, B5, R5⟩ := take_ok B4 (n := 2) (by decide) (by decide) (by omega)
      have hm : ∃ mo : Nat, mo ≤ 30 ∧ atI [D.int 24, .int 30] m = some (.int (mo : Int)) := by
        rcases (show m = 0 ∨ m = 1 by omega) with rfl | rfl
        · exact ⟨24, by decide, rfl⟩
        · exact ⟨30, by decide, rfl⟩
      obtain ⟨mo, hmo, hat⟩ := hm
      obtain ⟨T5, st6, hB, _, lT5, B6, _, _⟩ := beads_ok B5 (by omega) (mo := mo) (by omega)
      refine ⟨S T5, st6, _, .emp, by rw [S_len]; omega, B6, by omega, ?_⟩
      generalize S T5 = z5 at *
      generalize (mo : Int) = mo0 at *
      simp -implicitDefEqProofs [t5, hat, hB]
    · exact ⟨X0, st4, _, .emp, lX0, B4, by omega, by simp -implicitDefEqProofs [c]⟩
  obtain ⟨X1, st5, N5, _, lX1, B5, hN5, hif⟩ := hb
  have mx : ∃ k : Nat, k ≤ 2 ∧ ∀ st, dRng rng1 (aCons (dCB oMax2 (aCons (dC (.int 0)) (aCons (dOp oSub (dVar 2) (dC (.int 1))) aNil))) aNil) ⟨[.val (.ptr p), .val (.int ev), .val (.int ch), .val (.str X1), .emp, .emp], st⟩ = .ok true (rangeD 0 k) st := by
    rcases (show ch = 0 ∨ ch = 1 ∨ ch = 2 ∨ ch = 3 by omega) with rfl | rfl | rfl | rfl
    · exact ⟨0, by decide, fun st => dRng_of (p := true) (l := [.int ((0 : Nat) : Int)]) (by simp) (rng1_nat (by omega))⟩
    · exact ⟨0, by decide, fun st => dRng_of (p := true) (l := [.int ((0 : Nat) : Int)]) (by simp) (rng1_nat (by omega))⟩
    · exact ⟨1, by decide, fun st => dRng_of (p := true) (l := [.int ((1 : Nat) : Int)]) (by simp) (rng1_nat (by omega))⟩
    · exact ⟨2, by decide, fun st => dRng_of (p := true) (l := [.int ((2 : Nat) : Int)]) (by simp) (rng1_nat (by omega))⟩
  obtain ⟨k, hk, mx⟩ := mx
  have lp : ∀ (l : List D) (M N : Nat) (X : Str) (st : Sto) (w : SL), Box p q N st → N + 3 * l.length ≤ 80000 → X.length ≤ M → M ≤ 400 → l.length ≤ 2 → (l.length = 0 ∨ (l.length = 1 ∧ M ≤ 201) ∨ M ≤ 100) → ∃ (Y : Str) (st' : Sto) (w' : SL), forD (tgB (tgN 4) fb_law_text_2) l ⟨[.val (.ptr p), .val (.int ev), .val (.int ch), .val (.str X), w, .emp], st⟩ = .nx ⟨[.val (.ptr p), .val (.int ev), .val (.int ch), .val (.str Y), w', .emp], st'⟩ ∧ Y.length ≤ 800 := by
    intro l
    induction l with
    | nil => intro M N X st w B _ hX hM _ _; exact ⟨X, st, w, rfl, by omega⟩
    | cons d l ih =>
      intro M N X st w B hN hX hM hl hh
      have hN' : N + 3 * (l.length + 1) ≤ 80000 := by simpa using hN
      have hl' : l.length + 1 ≤ 2 := by simpa using hl
      have hh' : (l.length + 1 = 1 ∧ M ≤ 201) ∨ M ≤ 100 := by simpa using hh
      obtain ⟨Y, st1, sg, lY, B1⟩ := sgn_ok B (by omega) (X := X) (by omega)
      have stp : tgB (tgN 4) fb_law_text_2 d ⟨[.val (.ptr p), .val (.int ev), .val (.int ch), .val (.str X), w, .emp], st⟩ = .nx ⟨[.val (.ptr p), .val (.int ev), .val (.int ch), .val (.str Y), .val d, .emp], st1⟩ := by
        simp -implicitDefEqProofs [q_fb_law_text_2, sg]
      rw [e_forC, stp]
      by_cases c : l = []
      · subst c
        exact ⟨Y, st1, .val d, rfl, by omega⟩
      · have h1 : 0 < l.length := List.length_pos_iff.mpr c
        exact ih 201 (N + 3) Y st1 (.val d) B1 (by omega) (by omega) (by decide) (by omega) (by omega)
  obtain ⟨Y, st6, w', lf, lY⟩ := lp (rangeD 0 k) 100 N5 X1 st5 .emp B5 (by simp [rangeD]; omega) lX1 (by decide) (by simp [rangeD]; omega) (by omega)
  refine ⟨Y, st6, ?_, lY⟩
  have hs := (sFor_of (t := tgN 4) (b := fb_law_text_2) (mx st5)).trans lf
  clear mx lp lf hsrc g so
  generalize (T.map fun c => D.str ⟨#[c]⟩) = TD at *
  simp -implicitDefEqProofs [F_law_text, g_law_text, t1, t2, hlc, hj, hif, hs, -e_dLc, -e_sFor, -e_sIf, -e_msJoin]
theorem okCuts_mk {n : Nat} : ∀ {cs : List Nat} {h : Nat}, cs.Pairwise (· < ·) → (∀ c ∈ cs, h < c ∧ c < n) → okCuts n h cs
  | [], _, _, _ => trivial
  | c :: cs, h, p, b => by
    rw [List.pairwise_cons] at p
    exact ⟨(b c (List.mem_cons_self ..)).1, (b c (List.mem_cons_self ..)).2, okCuts_mk p.2 fun d hd => ⟨p.1 d hd, (b d (List.mem_cons_of_mem _ hd)).2⟩⟩
theorem okCuts_pwN {n : Nat} : ∀ {cs : List Nat} {h : Nat}, okCuts n h cs → cs.Pairwise (· < ·) ∧ ∀ c ∈ cs, h < c ∧ c < n
  | [], _, _ => ⟨List.Pairwise.nil, fun _ h => nomatch h⟩
  | c :: cs, h, ⟨h1, h2, h3⟩ => by
    obtain ⟨p, b⟩ := okCuts_pwN h3
    refine ⟨List.pairwise_cons.mpr ⟨fun d hd => (b d hd).1, p⟩, fun d hd => ?_⟩
    rcases List.mem_cons.mp hd with rfl | hd
    · exact ⟨h1, h2⟩
    · exact ⟨by have := (b d hd).1; omega, (b d hd).2⟩
theorem nats_of {L : List Int} (h : ∀ z ∈ L, 0 ≤ z) : ∃ ds : List Nat, L = ds.map (fun c : Nat => (c : Int)) := by
  induction L with
  | nil => exact ⟨[], rfl⟩
  | cons z L ih =>
    obtain ⟨ds, e⟩ := ih fun y hy => h y (List.mem_cons_of_mem _ hy)
    have := h z (List.mem_cons_self ..)
    exact ⟨z.toNat :: ds, by rw [List.map_cons, ← e, Int.toNat_of_nonneg this]⟩
theorem okCuts_put {n : Nat} {cs : List Nat} {a : Nat} (ok : okCuts n 0 cs) (h1 : 1 ≤ a) (h2 : a < n) (hm : a ∉ cs) : ∃ ds : List Nat, srt ((cs ++ [a]).map fun c : Nat => (c : Int)) = (ds.map fun c : Nat => (c : Int)) ∧ okCuts n 0 ds ∧ ds.length = cs.length + 1 ∧ ∀ c, c ∈ ds ↔ c ∈ cs ∨ c = a := by
  obtain ⟨q, b⟩ := okCuts_pwN ok
  have pm := srt_perm ((cs ++ [a]).map fun c : Nat => (c : Int))
  obtain ⟨ds, e⟩ := nats_of (L := srt ((cs ++ [a]).map fun c : Nat => (c : Int))) fun z hz => by
    obtain ⟨c, _, rfl⟩ := List.mem_map.mp (pm.mem_iff.mp hz)
    omega
  have pw := srt_pw ((cs ++ [a]).map fun c : Nat => (c : Int))
  have mem : ∀ c, c ∈ ds ↔ c ∈ cs ∨ c = a := fun c => by
    have m := pm.mem_iff (a := (c : Int))
    rw [e] at m
    have m1 : ((c : Int) ∈ ds.map fun c : Nat => (c : Int)) ↔ c ∈ ds := by
      rw [List.mem_map]
      constructor
      · rintro ⟨x, hx, hxc⟩
        have : x = c := by omega
        rwa [← this]
      · exact fun h => ⟨c, h, rfl⟩
    have m2 : ((c : Int) ∈ (cs ++ [a]).map fun c : Nat => (c : Int)) ↔ c ∈ cs ∨ c = a := by
      rw [List.mem_map]
      constructor
      · rintro ⟨x, hx, hxc⟩
        have : x = c := by omega
        subst this
        simpa using hx
      · intro h
        exact ⟨c, by simpa using h, rfl⟩
    rw [← m1, m, m2]
  have len : ds.length = cs.length + 1 := by
    have := pm.length_eq
    rw [e] at this
    simpa using this
  have nd : ds.Nodup := by
    have n0 : (cs ++ [a]).Nodup := by
      rw [List.nodup_append]
      refine ⟨q.imp fun h => Nat.ne_of_lt h, by simp, fun x hx y hy => ?_⟩
      rw [List.mem_singleton] at hy
      subst hy
      exact fun z => hm (z ▸ hx)
    have n1 : ((cs ++ [a]).map fun c : Nat => (c : Int)).Nodup := by
      unfold List.Nodup
      rw [List.pairwise_map]
      exact n0.imp fun h z => h (by omega)
    have n2 := pm.nodup_iff.mpr n1
    rw [e] at n2
    unfold List.Nodup at n2
    rw [List.pairwise_map] at n2
    exact n2.imp fun h z => h (by rw [z])
  rw [e, List.pairwise_map] at pw
  have pwl : ds.Pairwise (· < ·) := by
    refine List.Pairwise.imp ?_ (List.Pairwise.and pw nd)
    rintro x y ⟨h, h'⟩
    omega
  exact ⟨ds, e, okCuts_mk pwl fun c hc => by
    rcases (mem c).mp hc with h | rfl
    · exact b c h
    · omega, len, mem⟩
theorem put_ok {n : Nat} {cs : List Nat} {a : Nat} (ok : okCuts n 0 cs) (h1 : 1 ≤ a) (h2 : a < n) (hm : a ∉ cs) (hl : cs.length < 63) : ∃ ds : List Nat, okCuts n 0 ds ∧ ds.length = cs.length + 1 ∧ (∀ c, c ∈ ds ↔ c ∈ cs ∨ c = a) ∧ ∀ st, oSortedX [.lst (cs.map dN ++ [dN a])] st = .val .N (.lst (ds.map dN)) st := by
  obtain ⟨ds, e, o, l, m⟩ := okCuts_put ok h1 h2 hm
  refine ⟨ds, o, l, m, fun st => ?_⟩
  have i : intsOf (cs.map dN ++ [dN a]) = some ((cs ++ [a]).map fun c : Nat => (c : Int)) := by
    have := intsOf_map (fun c : Nat => (c : Int)) (cs ++ [a])
    rw [← this, List.map_append]; rfl
  have e2 : (ds.map fun c : Nat => (c : Int)).map D.int = ds.map dN := by rw [List.map_map]; rfl
  rw [e_oSortedX, i]
  simp only [List.length_map, List.length_append, List.length_singleton]
  rw [if_pos (by omega), e, e2]
section
variable {st : Sto} {t p K : Nat} {T cs ds : List Nat} {ld : Nat}
def Th (st : Sto) (t p : Nat) (T cs : List Nat) (ld K : Nat) : Prop := (∃ la, ThF st t T cs ld p la) ∧ (∃ L, st[p]? = some (.lst L) ∧ L.length ≤ K) ∧ p ≠ t
theorem Th.keep {st' : Sto} (h : Th st t p T cs ld K) (k : ∀ m, m < st.length → st'[m]? = st[m]?) : Th st' t p T cs ld K := by
  obtain ⟨⟨la, h1⟩, ⟨L, h2, h3⟩, h4⟩ := h
  exact ⟨⟨la, (k t (List.getElem?_eq_some_iff.mp h1).1).trans h1⟩, ⟨L, (k p (List.getElem?_eq_some_iff.mp h2).1).trans h2, h3⟩, h4⟩
theorem Th.up {K' : Nat} (h : Th st t p T cs ld K) (k : K ≤ K') : Th st t p T cs ld K' := by
  obtain ⟨h1, ⟨L, h2, h3⟩, h4⟩ := h
  exact ⟨h1, ⟨L, h2, by omega⟩, h4⟩
theorem Th.lts (h : Th st t p T cs ld K) : t < st.length ∧ p < st.length := by
  obtain ⟨⟨la, h1⟩, ⟨L, h2, h3⟩, h4⟩ := h
  exact ⟨(List.getElem?_eq_some_iff.mp h1).1, (List.getElem?_eq_some_iff.mp h2).1⟩
theorem th_init (E : abcs T) (hT : T.length ≤ 24) (st : Sto) : F_Thread___init__ [.ptr st.length, .str (S T)] (st ++ [.ins 4 []]) = .val .P .non (st ++ [.ins 4 [.str (S T), .lst [], .int 0, .ptr (st.length + 1), .lst []], .lst []]) := by
  have ak := fun st => ask_ok (st := st) E hT
  generalize S T = z at *
  have e0 : (st ++ [Ob.ins 4 []])[st.length]? = some (.ins 4 []) := by simp
  simp -implicitDefEqProofs [F_Thread___init__, g_Thread___init__, ak]
theorem th_new (T : List Nat) (st : Sto) : Th (st ++ [.ins 4 [.str (S T), .lst [], .int 0, .ptr (st.length + 1), .lst []], .lst []]) st.length (st.length + 1) T [] 0 0 :=
  ⟨⟨.lst [], by unfold ThF; simp⟩, ⟨[], by simp, Nat.le_refl _⟩, by omega⟩
theorem done_of (h : Th st t p T cs ld K) (hK : K < 1000000) {us : List D} (so : ∀ st, oSortedX [.lst us] st = .val .N (.lst (ds.map dN)) st) (ld' : Nat) :
    ∃ st', F_Thread_done [.ptr t, .lst us, .int (ld' : Nat)] st = .val .P .non st' ∧ Th st' t p T ds ld' (K + 1) ∧ st'.length = st.length ∧ ∀ m, m < st.length → m ≠ t → m ≠ p → st'[m]? = st[m]? := by
  obtain ⟨ht, hp'⟩ := h.lts
  obtain ⟨⟨la, h⟩, ⟨L, hp, hL⟩, hpt⟩ := h
  have sd := stood_of_th h
  unfold ThF at h
  have ap : mAppend L [.tup [.lst (cs.map dN), .int (ld : Nat)]] = some (.non, L ++ [.tup [.lst (cs.map dN), .int (ld : Nat)]]) := by rw [e_mAppend, if_pos (by omega)]
  have hL2' : (L ++ [D.tup [.lst (cs.map dN), .int (ld : Nat)]]).length ≤ K + 1 := by simp; omega
  generalize hL2 : L ++ [.tup [.lst (cs.map dN), .int (ld : Nat)]] = L2 at *
  have g1 : (st.set p (.lst L2))[t]? = some (.ins 4 [.str (S T), .lst (cs.map dN), .int (ld : Nat), .ptr p, la]) := by rw [List.getElem?_set_ne hpt]; exact h
  have l1 : t < (st.set p (.lst L2)).length := by rw [List.length_set]; exact ht
  refine ⟨(st.set p (Ob.lst L2)).set t (.ins 4 [.str (S T), .lst (ds.map dN), .int (ld' : Nat), .ptr p, .lst []]), ?_, ⟨⟨_, List.getElem?_set_self l1⟩, ⟨L2, ?_, hL2'⟩, hpt⟩, by simp, fun m hm m1 m2 => by rw [List.getElem?_set_ne (Ne.symm m1), List.getElem?_set_ne (Ne.symm m2)]⟩
  · generalize cs.map dN = CD at *
    generalize ds.map dN = DD at *
    generalize S T = z at *
    have gg : ∀ o, ((st.set p (.lst L2)).set t o)[t]? = some o := fun o => List.getElem?_set_self l1
    simp -implicitDefEqProofs [F_Thread_done, g_Thread_done, h, hp, sd, ap, g1, gg, so, -e_mAppend, -e_oSortedX]
  · rw [List.getElem?_set_ne (Ne.symm hpt), List.getElem?_set_self hp']
end
theorem inL_int (a : Int) (cs : List Nat) : inL (.int a) (cs.map dN) = some (decide (a ∈ cs.map fun c : Nat => (c : Int))) := by
  have := inL_pur (enc := D.int) (fun _ => rfl) (fun _ => by simp [dep]) (fun a b h => by injection h) a (cs.map fun c : Nat => (c : Int))
  rw [List.map_map] at this
  exact this
theorem mem_nat {a : Nat} {cs : List Nat} : ((a : Int) ∈ cs.map fun c : Nat => (c : Int)) ↔ a ∈ cs := by
  rw [List.mem_map]
  constructor
  · rintro ⟨x, hx, hxc⟩
    have : x = a := by omega
    rwa [← this]
  · exact fun h => ⟨a, h, rfl⟩
def noCut (T cs : List Nat) (a : Int) : Prop := a < 1 ∨ (T.length : Int) ≤ a ∨ a ∈ cs.map fun c : Nat => (c : Int)
section
variable {st : Sto} {t p K : Nat} {T cs ds : List Nat} {ld : Nat}
theorem th_get (h : Th st t p T cs ld K) : ∃ la, st[t]? = some (.ins 4 [.str (S T), .lst (cs.map dN), .int (ld : Nat), .ptr p, la]) := h.1
theorem cut_yes (h : Th st t p T cs ld K) (hK : K < 1000000) (hT : T.length ≤ 24) (ok : okCuts T.length 0 cs) {a : Int} (n : ¬ noCut T cs a) :
    ∃ st' ds, (∀ st, oSortedX [.lst (cs.map dN ++ [.int a])] st = .val .N (.lst (ds.map dN)) st) ∧ okCuts T.length 0 ds ∧ F_Thread_cut [.ptr t, .int a] st = .val .P .non st' ∧ Th st' t p T ds ld (K + 1) ∧ st'.length = st.length ∧ (∀ m, m < st.length → m ≠ t → m ≠ p → st'[m]? = st[m]?) ∧ ∀ c : Nat, c ∈ ds ↔ c ∈ cs ∨ (c : Int) = a := by
  unfold noCut at n
  have h1 : 1 ≤ a := by omega
  obtain ⟨a, rfl⟩ := Int.eq_ofNat_of_zero_le (show 0 ≤ a by omega)
  have h2 : a < T.length := by omega
  have hm : a ∉ cs := fun m => n (.inr (.inr (mem_nat.mpr m)))
  have hc := okCuts_small ok
  obtain ⟨ds, o, l, m, so⟩ := put_ok ok (by omega) h2 hm (by omega)
  obtain ⟨st', d1, d2⟩ := done_of h hK (us := cs.map dN ++ [dN a]) (ds := ds) so ld
  refine ⟨st', ds, so, o, ?_, d2.1, d2.2.1, d2.2.2, fun c => (m c).trans ⟨fun h => h.imp id fun e => by rw [e], fun h => h.imp id fun e => by omega⟩⟩
  obtain ⟨la, g⟩ := th_get h
  have i := inL_int a cs
  rw [decide_eq_false (fun z => hm (mem_nat.mp z))] at i
  have hsl : (S T).length = T.length := S_len T
  have hTl : T.length ≤ 1000000 := by omega
  have n1 : ¬ ((a : Int) < 1) := by omega
  have n2 : ¬ ((T.length : Int) ≤ (a : Int)) := by omega
  have hcl : (cs.map dN).length + 1 ≤ 1000000 := by simp; omega
  have d1' : F_Thread_done [.ptr t, .lst (cs.map dN ++ [.int (a : Int)]), .int (ld : Nat)] st = .val .P .non st' := d1
  clear so d1 d2 h
  generalize cs.map dN = CD at *
  generalize S T = z at *
  generalize (a : Int) = a0 at *
  generalize (ld : Int) = l0 at *
  simp -implicitDefEqProofs [F_Thread_cut, g_Thread_cut, g, n1, hsl, hTl, n2, i, hcl, d1']
theorem flip_of (h : Th st t p T cs ld K) (hK : K < 1000000) (ok : okCuts T.length 0 cs) (hT : T.length ≤ 24) (hld : ld ≤ 1) :
    ∃ st', F_Thread_flip [.ptr t] st = .val .P .non st' ∧ Th st' t p T cs (1 - ld) (K + 1) ∧ st'.length = st.length ∧ ∀ m, m < st.length → m ≠ t → m ≠ p → st'[m]? = st[m]? := by
  have hc := okCuts_small ok
  obtain ⟨st', d1, d2⟩ := done_of h hK (us := cs.map dN) (ds := cs) (fun st => sorted_ok ok (by omega) st) (1 - ld)
  refine ⟨st', ?_, d2⟩
  have e : (1 : Int) - (ld : Int) = ((1 - ld : Nat) : Int) := by omega
  obtain ⟨la, g⟩ := th_get h
  clear d2 h
  generalize cs.map dN = CD at *
  generalize S T = z at *
  generalize ((1 - ld : Nat) : Int) = l1 at *
  generalize (ld : Int) = l0 at *
  simp -implicitDefEqProofs [F_Thread_flip, g_Thread_flip, g, e, d1]
end
def oddL (T : List Nat) : List Nat := [97, 98, 99].filter fun x => decide (T.count x % 2 = 1)
def oddS (T : List Nat) : Str := match oddL T with
  | [] => Str.ofString ""
  | x :: _ => ⟨#[x]⟩
theorem odd_none {T : List Nat} (h : abcs T) (e : oddL T = []) : Evn T := ⟨h, fun x hx => by
  by_cases c : T.count x % 2 = 1
  · have : x ∈ oddL T := List.mem_filter.mpr ⟨by rcases hx with rfl | rfl | rfl <;> decide, by simpa using c⟩
    rw [e] at this
    cases this
  · omega⟩
theorem oddS_nil {T : List Nat} (e : oddL T = []) : oddS T = Str.ofString "" := by unfold oddS; rw [e]
theorem oddS_cons {T : List Nat} {x : Nat} {r : List Nat} (e : oddL T = x :: r) : oddS T = ⟨#[x]⟩ := by unfold oddS; rw [e]
theorem odd_ne {T : List Nat} {x : Nat} {r : List Nat} (e : oddL T = x :: r) (st : Sto) : oNe (.str (oddS T)) (.str (Str.ofString "")) st = .val .P (.bl true) st := by
  rw [oddS_cons e]
  have : x ∈ oddL T := by rw [e]; exact List.mem_cons_self ..
  have h := (List.mem_filter.mp this).1
  have h' : x = 97 ∨ x = 98 ∨ x = 99 := by simpa using h
  rcases h' with rfl | rfl | rfl <;> rfl
theorem odd_eq (T : List Nat) (st : Sto) : F_law_odd [.str (S T)] st = .val .P (.str (oddS T)) st := by
  have go : ∀ l : List Nat, lcGo (lcStep (tgN 2) ct_law_odd_2 ce_law_odd_1 [.val (.str (S T)), .emp, .emp]) (l.map fun c => .str ⟨#[c]⟩) st = some ((l.filter fun x => decide (T.count x % 2 = 1)).map fun c => .str ⟨#[c]⟩, st) := by
    intro l
    induction l with
    | nil => rfl
    | cons x l ih =>
      have k := count_one (S T) x
      rw [S_cps] at k
      have hc : msCount (S T) [.str ⟨#[x]⟩] st = .val .P (.int ((T.count x : Nat) : Int)) st := by rw [e_msCount, k]
      have m := cnt_mod (T.count x) st
      rw [List.map_cons, List.filter_cons]
      generalize hF : (l.filter fun x => decide (T.count x % 2 = 1)) = F at *
      generalize (l.map fun c => D.str ⟨#[c]⟩) = LD at *
      generalize hk : ((T.count x : Nat) : Int) = kk at *
      by_cases e : T.count x % 2 = 1
      · rw [if_pos (by simpa using e), List.map_cons]
        rw [e] at m
        generalize (F.map fun c => D.str ⟨#[c]⟩) = FD at *
        generalize (⟨#[x]⟩ : Str) = w at *
        generalize S T = z at *
        simp [e_lcC, q_ct_law_odd_2, q_ce_law_odd_1, ih, hc, m, -e_oMod_1]
      · rw [if_neg (by simpa using e)]
        rw [show T.count x % 2 = 0 by omega] at m
        generalize (F.map fun c => D.str ⟨#[c]⟩) = FD at *
        generalize (⟨#[x]⟩ : Str) = w at *
        generalize S T = z at *
        simp [e_lcC, q_ct_law_odd_2, q_ce_law_odd_1, ih, hc, m, -e_oMod_1]
  have g := go [97, 98, 99]
  have it := abc_items
  have lf : (oddL T).length ≤ 3 := List.length_filter_le ..
  have hw : wipeE [SL.val (.str (S T)), SL.emp, SL.emp] [2] = [SL.val (.str (S T)), SL.emp, SL.emp] := rfl
  have lc : dLc (dIter (dC (.str (Str.ofString "abc")))) (tgN 2) ct_law_odd_2 ce_law_odd_1 [2] ⟨[.val (.str (S T)), .emp, .emp], st⟩ = .val .N (.lst ((oddL T).map fun c => .str ⟨#[c]⟩)) st := by
    have g' : lcGo (lcStep (tgN 2) ct_law_odd_2 ce_law_odd_1 [.val (.str (S T)), .emp, .emp]) [.str ⟨#[97]⟩, .str ⟨#[98]⟩, .str ⟨#[99]⟩] st = some ((oddL T).map fun c => .str ⟨#[c]⟩, st) := g
    rw [e_dLc, e_dIter, e_dC]
    simp only [it, hw, g', ofOpt_some]
    rw [if_pos (by simp)]
  have la : ((oddL T).map fun c => D.str ⟨#[c]⟩).length = (oddL T).length := List.length_map _
  have lb : (oddL T).length + 1 ≤ 1000000 := by omega
  have at0 : atI (((oddL T).map fun c => D.str ⟨#[c]⟩) ++ [.str (Str.ofString "")]) 0 = some (.str (oddS T)) := by
    unfold oddS
    cases oddL T with
    | nil => rfl
    | cons x r =>
      show atI _ ((0 : Nat) : Int) = _
      exact atI_nat rfl
  clear g go
  generalize oddS T = os at *
  generalize ((oddL T).map fun c => D.str ⟨#[c]⟩) = OD at *
  generalize S T = z at *
  simp -implicitDefEqProofs [F_law_odd, g_law_odd, lc, la, lb, at0, -e_dLc]
section
variable {st : Sto} {t p K : Nat} {T cs : List Nat} {ld : Nat}
theorem fewest_odd (E : abcs T) (hT : T.length ≤ 24) {x : Nat} {r : List Nat} (e : oddL T = x :: r) (st : Sto) : F_fewest_cuts [.str (S T)] st = .exc 2 [.str ⟨#[x]⟩] st := by
  have ak := ask_ok (st := st) E hT
  have it := abc_items
  have o1 := odd_step (T := T) (st := st) (x := 97) (v1 := .emp) (v2 := .emp) (v3 := .emp) (v4 := .emp) (v5 := .emp)
  have o2 := odd_step (T := T) (st := st) (x := 98) (v1 := .val (.str ⟨#[97]⟩)) (v2 := .emp) (v3 := .emp) (v4 := .emp) (v5 := .emp)
  have o3 := odd_step (T := T) (st := st) (x := 99) (v1 := .val (.str ⟨#[98]⟩)) (v2 := .emp) (v3 := .emp) (v4 := .emp) (v5 := .emp)
  have key : ∃ E' : En, E'.st = st ∧ forD (tgB (tgN 1) fb_fewest_cuts_1) [.str ⟨#[97]⟩, .str ⟨#[98]⟩, .str ⟨#[99]⟩] ⟨[.val (.str (S T)), .emp, .emp, .emp, .emp, .emp], st⟩ = .exc 2 [.str ⟨#[x]⟩] E' := by
    unfold oddL at e
    rw [List.filter_cons, List.filter_cons, List.filter_cons, List.filter_nil] at e
    by_cases a : T.count 97 % 2 = 1
    · rw [if_pos a] at o1
      rw [if_pos (by simpa using a)] at e
      injection e with e1 e2
      subst e1
      exact ⟨_, rfl, by rw [e_forC, o1]⟩
    · rw [if_neg a] at o1
      rw [if_neg (by simpa using a)] at e
      by_cases b : T.count 98 % 2 = 1
      · rw [if_pos b] at o2
        rw [if_pos (by simpa using b)] at e
        injection e with e1 e2
        subst e1
        exact ⟨_, rfl, by rw [e_forC, o1]; show forD _ _ _ = _; rw [e_forC, o2]⟩
      · rw [if_neg b] at o2
        rw [if_neg (by simpa using b)] at e
        by_cases c : T.count 99 % 2 = 1
        · rw [if_pos c] at o3
          rw [if_pos (by simpa using c)] at e
          injection e with e1 e2
          subst e1
          exact ⟨_, rfl, by rw [e_forC, o1]; show forD _ _ _ = _; rw [e_forC, o2]; show forD _ _ _ = _; rw [e_forC, o3]⟩
        · rw [if_neg (by simpa using c)] at e
          cases e
  obtain ⟨E', hst, k⟩ := key
  have hs := (sFor_of (src := dIter (dC (.str (Str.ofString "abc")))) (t := tgN 1) (b := fb_fewest_cuts_1) (E := ⟨[.val (.str (S T)), .emp, .emp, .emp, .emp, .emp], st⟩) (p := true) (l := [.str ⟨#[97]⟩, .str ⟨#[98]⟩, .str ⟨#[99]⟩]) (st := st) (by rw [e_dIter, e_dC]; simp only [it])).trans k
  clear k o1 o2 o3
  generalize (⟨#[x]⟩ : Str) = w at *
  generalize S T = z at *
  simp -implicitDefEqProofs [F_fewest_cuts, g_fewest_cuts, ak, hs, hst, -e_sFor]
theorem settle_odd (E : abcs T) (hT : T.length ≤ 24) (h : Th st t p T cs ld K) {x : Nat} {r : List Nat} (e : oddL T = x :: r) : F_Thread_settle [.ptr t] st = .exc 2 [.str ⟨#[x]⟩] st := by
  have f := fewest_odd E hT e st
  obtain ⟨la, g⟩ := th_get h
  generalize cs.map dN = CD at *
  generalize (⟨#[x]⟩ : Str) = w at *
  generalize S T = z at *
  simp -implicitDefEqProofs [F_Thread_settle, g_Thread_settle, g, f]
end
def jnB (ps : List (List Nat)) : List Nat := TL.joinL [124] ps
theorem join_bar (ls : List (List Nat)) : Txt.join (Str.ofString "|") (ls.map S) = S (jnB ls) := by
  rw [TL.join_eq]
  refine TL.ext_tl ?_
  rw [TL.tl_join]
  have hm : (ls.map S).map TL.tl = ls := by
    rw [List.map_map]
    conv => rhs; rw [← List.map_id ls]
    exact List.map_congr_left fun l _ => tl_S l
  rw [hm, tl_S]
  rfl
theorem jnB_len : ∀ ls : List (List Nat), (jnB ls).length ≤ (ls.map List.length).sum + ls.length
  | [] => Nat.le_refl _
  | [a] => by show a.length ≤ _; simp
  | a :: b :: l => by
    have ih := jnB_len (b :: l)
    show (a ++ ([124] ++ jnB (b :: l))).length ≤ _
    rw [List.length_append, List.length_append, List.length_singleton, List.map_cons (a := a), List.sum_cons, List.length_cons (a := a)]
    omega
theorem join_seg {T cs : List Nat} (hT : T.length ≤ 24) (ok : okCuts T.length 0 cs) (st : Sto) : msJoin (Str.ofString "|") [.lst ((segs 0 cs T).map dS)] st = .val .P (.str (S (jnB (segs 0 cs T)))) st ∧ (S (jnB (segs 0 cs T))).length ≤ 100 := by
  have j := join_bar (segs 0 cs T)
  have so : strsOf ((segs 0 cs T).map dS) = some ((segs 0 cs T).map S) := e_strsOf (f := S) _
  have hs : ((segs 0 cs T).map List.length).sum ≤ 24 := by
    rw [flat_sum, segs_flat T cs 0 ok]; simp; omega
  have hc := okCuts_small ok
  have hl := segs_len T cs 0
  have l1 : (Str.ofString "|").length = 1 := rfl
  have h5 : (((segs 0 cs T).map S).map (·.length)).sum ≤ 24 := by
    have : ((segs 0 cs T).map S).map (·.length) = (segs 0 cs T).map List.length := by rw [List.map_map]; exact List.map_congr_left fun l _ => S_len l
    rw [this]; exact hs
  refine ⟨?_, ?_⟩
  · rw [e_msJoin, e_seqL, so, ofOpt_some, if_pos (by rw [l1, List.length_map, hl]; omega), j]
  · rw [S_len]
    have := jnB_len (segs 0 cs T)
    omega
section
variable {st : Sto} {t p K : Nat} {T cs ds : List Nat} {ld : Nat}
theorem str_of (h : Th st t p T cs ld K) (hT : T.length ≤ 24) (ok : okCuts T.length 0 cs) (hld : ld ≤ 1) : F_Thread___str__ [.ptr t] st = .val .P (.str (itxt ld ++ Str.ofString ":" ++ S (jnB (segs 0 cs T)))) st ∧ (itxt ld).length = 1 := by
  obtain ⟨j1, j2⟩ := join_seg hT ok st
  obtain ⟨la, g⟩ := th_get h
  have hc := okCuts_small ok
  have pe : F_pieces_of [.str (S T), .lst (cs.map dN)] st = .val .N (.lst ((segs 0 cs T).map dS)) st := pieces_eq (by omega) (by omega) ok st
  have il : (itxt ld).length = 1 := by
    rcases (show ld = 0 ∨ ld = 1 by omega) with rfl | rfl <;> rfl
  have l2 : (ld : Int).natAbs.log2 < 1920 := by
    rcases (show ld = 0 ∨ ld = 1 by omega) with rfl | rfl <;> decide
  have c1 : (Str.ofString ":").length = 1 := rfl
  refine ⟨?_, il⟩
  generalize S (jnB (segs 0 cs T)) = J at *
  generalize (segs 0 cs T).map dS = PD at *
  generalize cs.map dN = CD at *
  generalize S T = z at *
  have m1 : (Str.empty ++ itxt ld).length ≤ 1000000 := by rw [empty_app, il]; decide
  have m2 : (itxt ld ++ Str.ofString ":").length ≤ 1000000 := by rw [Str.length_append, il, c1]; decide
  have m3 : (itxt ld ++ Str.ofString ":" ++ J).length ≤ 1000000 := by rw [Str.length_append, Str.length_append, il, c1]; omega
  have m4 : (itxt ld).length ≤ 1000000 := by rw [il]; decide
  have m5 : J.length ≤ 1000000 := by omega
  have sh : F_Thread_shown [.ptr t] st = .val .P (.str J) st := by
    simp -implicitDefEqProofs [F_Thread_shown, g_Thread_shown, F_Thread_pieces, g_Thread_pieces, g, pe, j1, -e_msJoin]
  generalize (ld : Int) = l0 at *
  have ea : Str.empty ++ itxt l0 = itxt l0 := empty_app _
  rw [ea] at m1
  simp -implicitDefEqProofs [F_Thread___str__, g_Thread___str__, g, l2, ea, m1, m2, m3, m4, m5, sh]
end
def badN : List Nat → Nat → Option Nat
  | [], _ => none
  | c :: L, k => if k = 24 ∨ c ∉ [97, 98, 99] then some k else badN L (k + 1)
theorem badN_none : ∀ (L : List Nat) (k : Nat), k ≤ 24 → badN L k = none → abcs L ∧ L.length + k ≤ 24
  | [], k, hk, _ => ⟨(fun _ h => nomatch h), by simpa using hk⟩
  | c :: L, k, hk, h => by
    unfold badN at h
    split at h
    · cases h
    · rename_i n
      have n1 : k ≠ 24 := fun z => n (.inl z)
      have n2 : c ∈ [97, 98, 99] := Classical.not_not.mp fun z => n (.inr z)
      obtain ⟨h1, h2⟩ := badN_none L (k + 1) (by omega) h
      refine ⟨fun x m => ?_, by simp; omega⟩
      rcases List.mem_cons.mp m with rfl | m
      · simpa using n2
      · exact h1 x m
section
variable {T : List Nat} {st : Sto}
theorem ask_bad_loop {i : Nat} : ∀ (L : List Nat) (k : Nat) {v0 x1 x2 : SL}, badN L k = some i →
    ∃ E', forD (tgB (tgT 2 (tgsCons (tgN 1) (tgsCons (tgN 2) tgsNil))) fb_ask_beads_1) (enumD k (L.map fun c => D.str ⟨#[c]⟩)) ⟨[v0, x1, x2], st⟩ = .exc 1 [.int (i : Int)] E' ∧ E'.st = st
  | [], _, _, _, _, h => by cases h
  | c :: L, k, v0, x1, x2, h => by
    rw [List.map_cons, enumD, e_forC]
    have nb := notin_abc c st
    unfold badN at h
    by_cases c1 : k = 24 ∨ c ∉ [97, 98, 99]
    · rw [if_pos c1] at h
      obtain rfl : k = i := Option.some.inj h
      have s : tgB (tgT 2 (tgsCons (tgN 1) (tgsCons (tgN 2) tgsNil))) fb_ask_beads_1 (.tup [.int k, .str ⟨#[c]⟩]) ⟨[v0, x1, x2], st⟩ = .exc 1 [.int (k : Int)] ⟨[v0, .val (.int k), .val (.str ⟨#[c]⟩)], st⟩ := by
        by_cases c2 : k = 24
        · have c3 : (k : Int) = 24 := by omega
          generalize (k : Int) = k' at *
          generalize (⟨#[c]⟩ : Str) = w at *
          subst c3
          simp -implicitDefEqProofs [q_fb_ask_beads_1]
        · have n24 : ¬ ((k : Int) = 24) := by omega
          have n2 : c ∉ [97, 98, 99] := c1.resolve_left c2
          rw [decide_eq_false n2] at nb
          generalize (k : Int) = k' at *
          generalize (⟨#[c]⟩ : Str) = w at *
          simp -implicitDefEqProofs [q_fb_ask_beads_1, n24, nb]
      rw [s]
      exact ⟨_, rfl, rfl⟩
    · rw [if_neg c1] at h
      have n1 : k ≠ 24 := fun z => c1 (.inl z)
      have n2 : c ∈ [97, 98, 99] := Classical.not_not.mp fun z => c1 (.inr z)
      have n24 : ¬ ((k : Int) = 24) := by omega
      rw [decide_eq_true n2] at nb
      have s : tgB (tgT 2 (tgsCons (tgN 1) (tgsCons (tgN 2) tgsNil))) fb_ask_beads_1 (.tup [.int k, .str ⟨#[c]⟩]) ⟨[v0, x1, x2], st⟩ = .nx ⟨[v0, .val (.int k), .val (.str ⟨#[c]⟩)], st⟩ := by
        generalize (k : Int) = k' at *
        generalize (⟨#[c]⟩ : Str) = w at *
        simp -implicitDefEqProofs [q_fb_ask_beads_1, n24, nb]
      rw [s]
      exact ask_bad_loop L (k + 1) h
theorem ask_bad {i : Nat} (h : badN T 0 = some i) : F_ask_beads [.str (S T)] st = .exc 1 [.int (i : Int)] st := by
  obtain ⟨E', hf, hE⟩ := ask_bad_loop (st := st) T 0 (v0 := .val (.str (S T))) (x1 := .emp) (x2 := .emp) h
  obtain ⟨e', st'⟩ := E'
  cases (show st' = st from hE)
  have e : ∀ st, dEnumS (aCons (dVar 0) aNil) ⟨[.val (.str (S T)), .emp, .emp], st⟩ = .ok true (enumD 0 (T.map fun c => D.str ⟨#[c]⟩)) st := fun st => by
    have q : (S T).cps.toList = T := S_cps T
    generalize S T = z at *
    simp [q]
  generalize enumD 0 (T.map fun c => D.str ⟨#[c]⟩) = ED at *
  generalize S T = z at *
  have hs := (sFor_of (t := tgT 2 (tgsCons (tgN 1) (tgsCons (tgN 2) tgsNil))) (b := fb_ask_beads_1) (e st)).trans hf
  simp -implicitDefEqProofs [F_ask_beads, g_ask_beads, hs, -e_sFor]
theorem bad_loop : ∀ (L : List Nat) (k : Nat) {v0 x1 x2 : SL},
    (∀ i, badN L k = some i → forD (tgB (tgT 2 (tgsCons (tgN 1) (tgsCons (tgN 2) tgsNil))) fb_law_bad_1) (enumD k (L.map fun c => D.str ⟨#[c]⟩)) ⟨[v0, x1, x2], st⟩ = .rt .P (.int (i : Int)) st) ∧
    (badN L k = none → ∃ E', forD (tgB (tgT 2 (tgsCons (tgN 1) (tgsCons (tgN 2) tgsNil))) fb_law_bad_1) (enumD k (L.map fun c => D.str ⟨#[c]⟩)) ⟨[v0, x1, x2], st⟩ = .nx E' ∧ E'.st = st)
  | [], _, _, _, _ => ⟨(fun _ h => nomatch h), fun _ => ⟨_, rfl, rfl⟩⟩
  | c :: L, k, v0, x1, x2 => by
    have ih := bad_loop L (k + 1) (v0 := v0) (x1 := .val (.int k)) (x2 := .val (.str ⟨#[c]⟩))
    rw [List.map_cons, enumD, e_forC]
    have nb := notin_abc c st
    rw [show badN (c :: L) k = if k = 24 ∨ c ∉ [97, 98, 99] then some k else badN L (k + 1) from rfl]
    by_cases c1 : k = 24 ∨ c ∉ [97, 98, 99]
    · rw [if_pos c1]
      have s : tgB (tgT 2 (tgsCons (tgN 1) (tgsCons (tgN 2) tgsNil))) fb_law_bad_1 (.tup [.int k, .str ⟨#[c]⟩]) ⟨[v0, x1, x2], st⟩ = .rt .P (.int (k : Int)) st := by
        by_cases c2 : k = 24
        · have c3 : (k : Int) = 24 := by omega
          generalize (k : Int) = k' at *
          generalize (⟨#[c]⟩ : Str) = w at *
          subst c3
          simp -implicitDefEqProofs [q_fb_law_bad_1]
        · have n24 : ¬ ((k : Int) = 24) := by omega
          have n2 : c ∉ [97, 98, 99] := c1.resolve_left c2
          rw [decide_eq_false n2] at nb
          generalize (k : Int) = k' at *
          generalize (⟨#[c]⟩ : Str) = w at *
          simp -implicitDefEqProofs [q_fb_law_bad_1, n24, nb]
      rw [s]
      exact ⟨fun i h => (by cases h; rfl), (fun h => nomatch h)⟩
    · rw [if_neg c1]
      have n1 : k ≠ 24 := fun z => c1 (.inl z)
      have n2 : c ∈ [97, 98, 99] := Classical.not_not.mp fun z => c1 (.inr z)
      have n24 : ¬ ((k : Int) = 24) := by omega
      rw [decide_eq_true n2] at nb
      have s : tgB (tgT 2 (tgsCons (tgN 1) (tgsCons (tgN 2) tgsNil))) fb_law_bad_1 (.tup [.int k, .str ⟨#[c]⟩]) ⟨[v0, x1, x2], st⟩ = .nx ⟨[v0, .val (.int k), .val (.str ⟨#[c]⟩)], st⟩ := by
        generalize (k : Int) = k' at *
        generalize (⟨#[c]⟩ : Str) = w at *
        simp -implicitDefEqProofs [q_fb_law_bad_1, n24, nb]
      rw [s]
      exact ih
theorem bad_eq : F_law_bad [.str (S T)] st = .val .P (.int (match badN T 0 with | some i => (i : Int) | none => -1)) st := by
  have L := bad_loop (st := st) T 0 (v0 := .val (.str (S T))) (x1 := .emp) (x2 := .emp)
  have e : ∀ st, dEnumS (aCons (dVar 0) aNil) ⟨[.val (.str (S T)), .emp, .emp], st⟩ = .ok true (enumD 0 (T.map fun c => D.str ⟨#[c]⟩)) st := fun st => by
    have q : (S T).cps.toList = T := S_cps T
    generalize S T = z at *
    simp [q]
  generalize enumD 0 (T.map fun c => D.str ⟨#[c]⟩) = ED at *
  generalize S T = z at *
  cases hb : badN T 0 with
  | some i =>
    have hs := (sFor_of (t := tgT 2 (tgsCons (tgN 1) (tgsCons (tgN 2) tgsNil))) (b := fb_law_bad_1) (e st)).trans (L.1 i hb)
    simp -implicitDefEqProofs [F_law_bad, g_law_bad, hs, -e_sFor]
  | none =>
    obtain ⟨E', hf, hE⟩ := L.2 hb
    obtain ⟨e', st'⟩ := E'
    cases (show st' = st from hE)
    have hs := (sFor_of (t := tgT 2 (tgsCons (tgN 1) (tgsCons (tgN 2) tgsNil))) (b := fb_law_bad_1) (e st)).trans hf
    simp -implicitDefEqProofs [F_law_bad, g_law_bad, hs, -e_sFor]
end
section
variable {st : Sto} {z w : Str} {i : Int}
theorem asked_b0 (h : F_fewest_cuts [.str z] st = .exc 1 [.int i] st) : F_law_asked [.int 0, .str z] st = .val .P (.tup [.str "beads", .int i]) st := by
  simp -implicitDefEqProofs [F_law_asked, g_law_asked, h, sub_CrumbError, sub_NoBeads, sub_ValueError, sub_Odd]
theorem asked_o0 (h : F_fewest_cuts [.str z] st = .exc 2 [.str w] st) : F_law_asked [.int 0, .str z] st = .val .P (.tup [.str "odd", .str w]) st := by
  simp -implicitDefEqProofs [F_law_asked, g_law_asked, h, sub_CrumbError, sub_NoBeads, sub_ValueError, sub_Odd]
theorem asked_t0 {m : Md} {d : D} (h : F_fewest_cuts [.str z] st = .val m d st) : F_law_asked [.int 0, .str z] st = .val .P (.tup [.str "told", .int 0]) st := by
  simp -implicitDefEqProofs [F_law_asked, g_law_asked, h]
end
theorem cutS_suf (H : List Nat) (k : Nat) : cutS (S H) (some (k : Int)) none = S (H.drop k) := by
  unfold cutS
  rw [HT.sIx_nat, S_cps, S_len]
  show S ((H.drop (min k H.length)).take (H.length - min k H.length)) = _
  rw [List.take_of_length_le (by simp)]
  by_cases h : k ≤ H.length
  · rw [Nat.min_eq_left h]
  · rw [Nat.min_eq_right (by omega), List.drop_of_length_le (by omega), List.drop_of_length_le (by omega)]
section
variable {st st' : Sto} {z w : Str} {i : Int}
theorem asked_b1 (h : ∀ n st, F_Thread___init__ [.ptr n, .str z] st = .exc 1 [.int i] st) : ∃ st', F_law_asked [.int 1, .str z] st = .val .P (.tup [.str "beads", .int i]) st' := by
  refine ⟨st ++ [.ins 4 []], ?_⟩
  simp -implicitDefEqProofs [F_law_asked, g_law_asked, h, sub_CrumbError, sub_NoBeads, sub_ValueError, sub_Odd]
theorem asked_b2 (h : ∀ n st, F_Thread___init__ [.ptr n, .str z] st = .exc 1 [.int i] st) : ∃ st', F_law_asked [.int 2, .str z] st = .val .P (.tup [.str "beads", .int i]) st' := by
  refine ⟨st ++ [.ins 4 []], ?_⟩
  simp -implicitDefEqProofs [F_law_asked, g_law_asked, h, sub_CrumbError, sub_NoBeads, sub_ValueError, sub_Odd]
theorem asked_t1 (h : F_Thread___init__ [.ptr st.length, .str z] (st ++ [.ins 4 []]) = .val .P .non st') : F_law_asked [.int 1, .str z] st = .val .P (.tup [.str "told", .int 0]) st' := by
  simp -implicitDefEqProofs [F_law_asked, g_law_asked, h]
theorem asked_t2 {st2 : Sto} {m : Md} {d : D} {l : List D} (h : F_Thread___init__ [.ptr st.length, .str z] (st ++ [.ins 4 []]) = .val .P .non st') (hg : st'[st.length]? = some (.ins 4 l)) (s : F_Thread_settle [.ptr st.length] st' = .val m d st2) : F_law_asked [.int 2, .str z] st = .val .P (.tup [.str "told", .int 0]) st2 := by
  simp -implicitDefEqProofs [F_law_asked, g_law_asked, h, hg, s]
theorem asked_o2 {st2 : Sto} {l : List D} (h : F_Thread___init__ [.ptr st.length, .str z] (st ++ [.ins 4 []]) = .val .P .non st') (hg : st'[st.length]? = some (.ins 4 l)) (s : F_Thread_settle [.ptr st.length] st' = .exc 2 [.str w] st2) : F_law_asked [.int 2, .str z] st = .val .P (.tup [.str "odd", .str w]) st2 := by
  simp -implicitDefEqProofs [F_law_asked, g_law_asked, h, hg, s, sub_CrumbError, sub_NoBeads, sub_ValueError, sub_Odd]
end
section
variable {st : Sto} {t p K : Nat} {T cs : List Nat} {ld : Nat}
theorem init_bad {i : Nat} (h : badN T 0 = some i) (n : Nat) (st : Sto) : F_Thread___init__ [.ptr n, .str (S T)] st = .exc 1 [.int (i : Int)] st := by
  have ak := fun st => ask_bad (st := st) h
  generalize S T = z at *
  generalize (i : Int) = i0 at *
  simp -implicitDefEqProofs [F_Thread___init__, g_Thread___init__, ak]
theorem few_bad {i : Nat} (h : badN T 0 = some i) (st : Sto) : F_fewest_cuts [.str (S T)] st = .exc 1 [.int (i : Int)] st := by
  have ak := fun st => ask_bad (st := st) h
  generalize S T = z at *
  generalize (i : Int) = i0 at *
  simp -implicitDefEqProofs [F_fewest_cuts, g_fewest_cuts, ak]
theorem settle_yes (E : Evn T) (hT : T.length ≤ 24) (h : Th st t p T cs ld K) (hK : K < 1000000) : ∃ st', F_Thread_settle [.ptr t] st = .val .N (.lst ((fwc T).map dN)) st' := by
  have F := fw_ok E
  have le := F.le3
  obtain ⟨st', d1, d2⟩ := done_of h hK (us := (fwc T).map dN) (ds := fwc T) (fun st => sorted_ok F.ok (by omega) st) ld
  refine ⟨st', ?_⟩
  have fr := fewest_run E hT st
  have hm : fwm T ≠ .B := by unfold fwm; split <;> decide
  obtain ⟨la, g⟩ := th_get h
  clear d2 E F le h
  generalize hmm : fwm T = mm at *
  generalize (fwc T).map dN = FD at *
  generalize cs.map dN = CD at *
  generalize S T = z at *
  generalize (ld : Int) = l0 at *
  cases mm with
  | B => exact absurd rfl hm
  | P => simp -implicitDefEqProofs [F_Thread_settle, g_Thread_settle, g, fr, d1]
  | N => simp -implicitDefEqProofs [F_Thread_settle, g_Thread_settle, g, fr, d1]
theorem left_short {z w : Str} {s1 s2 : Sto} {l : List D} (hz : z.length < 2) (i0 : F_Thread___init__ [.ptr st.length, .str z] (st ++ [.ins 4 []]) = .val .P .non s1) (g : s1[st.length]? = some (.ins 4 l)) (so : F_Thread_settle [.ptr st.length] s1 = .exc 2 [.str w] s1) (fl : F_Thread_flip [.ptr st.length] s1 = .val .P .non s2) : F_law_left [.str z] st = .val .P (.bl true) s2 := by
  have z1 : ¬ (1 < z.length) := by omega
  have z3 : z.length ≤ 1000000 := by omega
  have h1 : ¬ ((1 : Int) < (z.length : Int)) := by omega
  have h2 : (z.length : Int) < 2 := by omega
  simp -implicitDefEqProofs [F_law_left, g_law_left, i0, g, so, fl, z3, h1, h2, sub_CrumbError]
theorem left_long {z w x0 x1 : Str} {s1 s2 s3 : Sto} {l l2 l3 : List D} (hz : 2 ≤ z.length) (hz2 : z.length ≤ 1000) (i0 : F_Thread___init__ [.ptr st.length, .str z] (st ++ [.ins 4 []]) = .val .P .non s1) (g : s1[st.length]? = some (.ins 4 l)) (ct : F_Thread_cut [.ptr st.length, .int 1] s1 = .val .P .non s2) (g2 : s2[st.length]? = some (.ins 4 l2)) (sx : F_Thread___str__ [.ptr st.length] s2 = .val .P (.str x0) s2)
    (so : F_Thread_settle [.ptr st.length] s2 = .exc 2 [.str w] s2) (fl : F_Thread_flip [.ptr st.length] s2 = .val .P .non s3) (g3 : s3[st.length]? = some (.ins 4 l3)) (sy : F_Thread___str__ [.ptr st.length] s3 = .val .P (.str x1) s3) (e : Str.ofString "1" ++ cutS x0 (some 1) none = x1) (lx : x0.length ≤ 1000) : F_law_left [.str z] st = .val .P (.bl true) s3 := by
  have z3 : z.length ≤ 1000000 := by omega
  have h1 : (1 : Int) < (z.length : Int) := by omega
  have h2 : ¬ ((z.length : Int) < 2) := by omega
  have l1 : x0.length ≤ 1000000 := by omega
  have k1 := cutS_len x0 (some 1) none
  have ll : (Str.ofString "1").length = 1 := rfl
  have l2' : (Str.ofString "1").length + (cutS x0 (some 1) none).length ≤ 1000000 := by rw [ll]; omega
  have eq : ∀ st, oEq (.str x1) (.str x1) st = .val .P (.bl true) st := fun st => by simp
  simp -implicitDefEqProofs [F_law_left, g_law_left, i0, g, g2, g3, ct, sx, sy, so, fl, z3, h1, h2, l1, l2', e, eq, sub_CrumbError]
theorem left_ok (E : abcs T) (hT : T.length ≤ 24) {x : Nat} {r : List Nat} (e : oddL T = x :: r) (st : Sto) : ∃ st', F_law_left [.str (S T)] st = .val .P (.bl true) st' := by
  have i0 := th_init E hT st
  have N := th_new T st
  have hsl : (S T).length = T.length := S_len T
  obtain ⟨la, g⟩ := th_get N
  by_cases c : T.length < 2
  · obtain ⟨s2, f2, _⟩ := flip_of N (by decide) (by trivial) hT (by decide)
    exact ⟨s2, left_short (by omega) i0 g (settle_odd E hT N e) f2⟩
  · have nc : ¬ noCut T [] 1 := by
      unfold noCut
      rintro (h | h | h)
      · omega
      · omega
      · cases h
    obtain ⟨s2, ds, _, ok, c2, N2, _, _⟩ := cut_yes N (by decide) hT (by trivial) nc
    obtain ⟨la2, g2⟩ := th_get N2
    obtain ⟨s3, f3, N3, _, _⟩ := flip_of N2 (by decide) ok hT (by decide)
    obtain ⟨la3, g3⟩ := th_get N3
    obtain ⟨sx, _⟩ := str_of N2 hT ok (by decide)
    obtain ⟨sy, _⟩ := str_of N3 hT ok (by decide)
    obtain ⟨_, j2⟩ := join_seg hT ok st
    refine ⟨s3, left_long (by omega) (by omega) i0 g c2 g2 sx (settle_odd E hT N2 e) f3 g3 sy ?_ ?_⟩
    · have h0 : itxt ((0 : Nat) : Int) ++ Str.ofString ":" ++ S (jnB (segs 0 ds T)) = S (48 :: 58 :: jnB (segs 0 ds T)) := by
        rw [show itxt ((0 : Nat) : Int) = S [48] from rfl, show Str.ofString ":" = S [58] from rfl, S_app, S_app]; rfl
      have h1 : itxt ((1 - 0 : Nat) : Int) ++ Str.ofString ":" ++ S (jnB (segs 0 ds T)) = S (49 :: 58 :: jnB (segs 0 ds T)) := by
        rw [show itxt ((1 - 0 : Nat) : Int) = S [49] from rfl, show Str.ofString ":" = S [58] from rfl, S_app, S_app]; rfl
      rw [h0, h1, show (1 : Int) = ((1 : Nat) : Int) from rfl, cutS_suf, show Str.ofString "1" = S [49] from rfl, S_app]
      rfl
    · rw [Str.length_append, Str.length_append]
      have a1 : (itxt ((0 : Nat) : Int)).length = 1 := rfl
      have a2 : (Str.ofString ":").length = 1 := rfl
      rw [a1, a2]
      omega
end
theorem eq_tv {q : Str} {v : D} (hq : PyData.strOk q = true) (hv : pur v = true) (dv : dep v = 0) (st : Sto) : oEq (.tup [.str q, v]) (.tup [.str q, v]) st = .val .P (.bl true) st := eq_self (by simp [pur, purL, hq, hv]) (by simp [dep, depL, dv]) st
section
variable {st : Sto} {v0 v1 v6 : SL} {z w : Str} {i : Int}
theorem eq_bt (st : Sto) : oEq (.tup [.str (Str.ofString "beads"), .int i]) (.tup [.str (Str.ofString "beads"), .int i]) st = .val .P (.bl true) st := eq_tv (by decide +kernel) rfl rfl st
theorem ne_told (st : Sto) : oNe (.tup [.str (Str.ofString "told"), .int 0]) (.tup [.str (Str.ofString "told"), .int 0]) st = .val .P (.bl false) st := ne_of_eq (eq_tv (by decide +kernel) rfl rfl st)
theorem ne_odd {x : Nat} (h : x = 97 ∨ x = 98 ∨ x = 99) (st : Sto) : oNe (.tup [.str (Str.ofString "odd"), .str ⟨#[x]⟩]) (.tup [.str (Str.ofString "odd"), .str ⟨#[x]⟩]) st = .val .P (.bl false) st :=
  ne_of_eq (eq_tv (by decide +kernel) (by rcases h with rfl | rfl | rfl <;> decide +kernel) rfl st)
theorem k3_bad {s1 s2 s3 : Sto} (hi : 0 ≤ i) (a0 : F_law_asked [.int 0, .str z] st = .val .P (.tup [.str "beads", .int i]) s1) (a1 : F_law_asked [.int 1, .str z] s1 = .val .P (.tup [.str "beads", .int i]) s2) (a2 : F_law_asked [.int 2, .str z] s2 = .val .P (.tup [.str "beads", .int i]) s3) : (k_law_3 ⟨[v0, v1, .val (.str z), .val (.int i), .emp, .emp, .emp], st⟩).ret = .val .P (.bl true) s3 := by
  have g : lcGo (lcStep (tgN 6) (fun E => .val .P (.bl true) E.st) ce_law_1 [v0, v1, .val (.str z), .val (.int i), .emp, .emp, .emp]) [.int 0, .int 1, .int 2] st = some ([.bl true, .bl true, .bl true], s3) := by
    simp -implicitDefEqProofs [e_lcC, lcStep, q_ce_law_1, a0, a1, a2, eq_bt]
  have r3 : rangeD 0 3 = [.int 0, .int 1, .int 2] := rfl
  have bo : boolsOf [.bl true, .bl true, .bl true] = some [true, true, true] := rfl
  simp -implicitDefEqProofs [q_k_law_3, r3, hi, g, bo]
end
theorem law_true : ∀ ns : List Int, ns.length ≤ 63 → (∀ z ∈ ns, Builtin.Int.intBits z ≤ 1048576) → Yes (F_law [.scr ns] []) := by
  intro ns hl _
  obtain ⟨st, hb, B, _⟩ := box_ok ns hl
  obtain ⟨Y, st1, ht, hY⟩ := text_ok B (by decide)
  have bad := bad_eq (T := Y.cps.toList) (st := st1)
  rw [Str.of_cps] at bad
  cases h : badN Y.cps.toList 0 with
  | some i =>
    rw [h] at bad
    have ib := init_bad h
    have fb := few_bad h
    rw [Str.of_cps] at ib fb
    have a0 := asked_b0 (fb st1)
    obtain ⟨s2, a1⟩ := asked_b1 (st := st1) ib
    obtain ⟨s3, a2⟩ := asked_b2 (st := s2) ib
    have k3 := k3_bad (v0 := .val (.scr ns)) (v1 := .val (.ptr 1)) (show (0 : Int) ≤ (i : Int) by omega) a0 a1 a2
    have bad : F_law_bad [.str Y] st1 = .val .P (.int (i : Int)) st1 := bad
    clear ib fb a0 a1 a2
    generalize (i : Int) = i0 at *
    exact ⟨s3, by
      simp -implicitDefEqProofs [F_law, g_law, hb, q_k_law_1, ht, q_k_law_2, bad, k3]⟩
  | none =>
    rw [h] at bad
    have bad : F_law_bad [.str Y] st1 = .val .P (.int (-1)) st1 := bad
    obtain ⟨E, hT⟩ := badN_none _ 0 (by decide) h
    have hT : Y.cps.toList.length ≤ 24 := hT
    have od := odd_eq Y.cps.toList st1
    have i1 := th_init E hT st1
    obtain ⟨_, g1⟩ := th_get (th_new Y.cps.toList st1)
    rw [Str.of_cps] at od i1 g1
    cases e : oddL Y.cps.toList with
    | nil =>
      have Ev := odd_none E e
      rw [oddS_nil e] at od
      have fr := fewest_run Ev hT st1
      rw [Str.of_cps] at fr
      have a0 := asked_t0 fr
      have a1 := asked_t1 i1
      generalize hs1 : (st1 ++ [Ob.ins 4 [.str Y, .lst [], .int 0, .ptr (st1.length + 1), .lst []], .lst []]) = s1 at *
      have i2 := th_init E hT s1
      have N2 := th_new Y.cps.toList s1
      obtain ⟨s3, sy⟩ := settle_yes Ev hT N2 (by decide)
      obtain ⟨_, g2⟩ := th_get N2
      rw [Str.of_cps] at i2 g2
      rw [Str.of_cps] at sy
      have a2 := asked_t2 i2 g2 sy
      exact ⟨s3, by
        clear fr i1 i2 g1 g2 sy N2 Ev e h E hT
        simp -implicitDefEqProofs [F_law, g_law, hb, q_k_law_1, ht, q_k_law_2, bad, q_k_law_3, q_k_law_4, od, q_k_law_5, q_k_law_6, q_k_law_7, a0, a1, a2, ne_told, q_k_law_8]⟩
    | cons x r =>
      have on := odd_ne e
      have fo := fewest_odd E hT e st1
      rw [oddS_cons e] at od on
      rw [Str.of_cps] at fo
      have a0 := asked_o0 fo
      have a1 := asked_t1 i1
      generalize hs1 : (st1 ++ [Ob.ins 4 [.str Y, .lst [], .int 0, .ptr (st1.length + 1), .lst []], .lst []]) = s1 at *
      have i2 := th_init E hT s1
      have N2 := th_new Y.cps.toList s1
      have so := settle_odd E hT N2 e
      obtain ⟨_, g2⟩ := th_get N2
      rw [Str.of_cps] at i2 g2
      rw [Str.of_cps] at so
      have a2 := asked_o2 i2 g2 so
      obtain ⟨s4, lf⟩ := left_ok E hT e (s1 ++ [Ob.ins 4 [.str Y, .lst [], .int 0, .ptr (s1.length + 1), .lst []], .lst []])
      rw [Str.of_cps] at lf
      have hx : x = 97 ∨ x = 98 ∨ x = 99 := by
        have m : x ∈ oddL Y.cps.toList := by rw [e]; exact List.mem_cons_self ..
        simpa using (List.mem_filter.mp m).1
      have no := ne_odd hx
      have nw : (⟨#[x]⟩ : Str) ≠ Str.ofString "" := by rcases hx with rfl | rfl | rfl <;> decide
      generalize (⟨#[x]⟩ : Str) = w at *
      exact ⟨s4, by
        clear fo i1 i2 g1 g2 so N2 e h E hT
        simp -implicitDefEqProofs [F_law, g_law, hb, q_k_law_1, ht, q_k_law_2, bad, q_k_law_3, q_k_law_4, od, q_k_law_5, q_k_law_6, on, q_k_law_7, a0, a1, a2, no, ne_told, q_k_law_8, nw, lf]⟩
end Dn
namespace Dn
open PySem PySem.Spec PyProof.Rows L2
def top (i : Nat) : Stmt := PySem.Challenge.pw_halfcrumb_k56_beads_refused.main.body.getD i (.Pass ⟨0, 0, 0, 0⟩)
def clsStmts : Stmt → List Stmt
  | .ClassDef _ _ _ b _ _ _ _ _ _ _ => b
  | _ => []
def mth (i j : Nat) : Stmt := (clsStmts (top i)).getD j (.Pass ⟨0, 0, 0, 0⟩)
structure Adr where
  f_NoBeads___init__ : Addr
  d_NoBeads___init__ : FuncData
  f_Odd___init__ : Addr
  d_Odd___init__ : FuncData
  f_NoCut___init__ : Addr
  d_NoCut___init__ : FuncData
  f_is_cuts : Addr
  d_is_cuts : FuncData
  f_pieces_of : Addr
  d_pieces_of : FuncData
  f_all_cuts_1 : Addr
  d_all_cuts_1 : FuncData
  f_sums_ahead : Addr
  d_sums_ahead : FuncData
  f_last_cut : Addr
  d_last_cut : FuncData
  f_gives_halves : Addr
  d_gives_halves : FuncData
  f_Thread_stood : Addr
  d_Thread_stood : FuncData
  f_law_box : Addr
  d_law_box : FuncData
  f_law_mixed : Addr
  d_law_mixed : FuncData
  f_law_odd : Addr
  d_law_odd : FuncData
  f_law_bad : Addr
  d_law_bad : FuncData
  f_all_cuts_2 : Addr
  d_all_cuts_2 : FuncData
  f_Thread_done : Addr
  d_Thread_done : FuncData
  f_Thread_pieces : Addr
  d_Thread_pieces : FuncData
  f_law_take : Addr
  d_law_take : FuncData
  f_ask_beads : Addr
  d_ask_beads : FuncData
  f_all_cuts : Addr
  d_all_cuts : FuncData
  f_Thread_cut : Addr
  d_Thread_cut : FuncData
  f_Thread_flip : Addr
  d_Thread_flip : FuncData
  f_Thread_shown : Addr
  d_Thread_shown : FuncData
  f_law_beads : Addr
  d_law_beads : FuncData
  f_law_signed : Addr
  d_law_signed : FuncData
  f_fewest_cuts : Addr
  d_fewest_cuts : FuncData
  f_Thread___init__ : Addr
  d_Thread___init__ : FuncData
  f_Thread___str__ : Addr
  d_Thread___str__ : FuncData
  f_law_text : Addr
  d_law_text : FuncData
  f_Thread_settle : Addr
  d_Thread_settle : FuncData
  f_law_asked : Addr
  d_law_asked : FuncData
  f_law_left : Addr
  d_law_left : FuncData
  f_law : Addr
  d_law : FuncData
  c_CrumbError : Addr
  c_NoBeads : Addr
  c_Odd : Addr
  c_NoCut : Addr
  c_Thread : Addr
  t_LETTERS : Tok
  t_MOST_BEADS : Tok
def caOf (A : Adr) : Nat → Addr
  | 0 => A.c_CrumbError
  | 1 => A.c_NoBeads
  | 2 => A.c_Odd
  | 3 => A.c_NoCut
  | 4 => A.c_Thread
  | _ => 0
def fnOf : Nat → List Str
  | 1 => ["at"]
  | 2 => ["kind"]
  | 3 => ["at"]
  | 4 => ["beads", "spots", "lead", "past", "later"]
  | _ => []
theorem nf_Thread_cut : ("cut" : Str) ∉ fnOf 4 := by decide +kernel
theorem nf_Thread_done : ("done" : Str) ∉ fnOf 4 := by decide +kernel
theorem nf_Thread_flip : ("flip" : Str) ∉ fnOf 4 := by decide +kernel
theorem nf_Thread_pieces : ("pieces" : Str) ∉ fnOf 4 := by decide +kernel
theorem nf_Thread_settle : ("settle" : Str) ∉ fnOf 4 := by decide +kernel
theorem nf_Thread_shown : ("shown" : Str) ∉ fnOf 4 := by decide +kernel
theorem nf_Thread_stood : ("stood" : Str) ∉ fnOf 4 := by decide +kernel
theorem nd_Thread : (fnOf 4).Nodup := by decide +kernel
theorem nl_Thread : (fnOf 4).length < 1000 := by decide +kernel
def GG (K : PySem.W.Frag) (A : Adr) : Gm := { K := K, ca := caOf A, fn := fnOf, ea := 0, tb := [] }
abbrev s_NoBeads___init__ : Stmt := mth 3 0
abbrev n_NoBeads___init__ : List Str := ["self", "at"]
abbrev p_NoBeads___init__ : List Str := ["self", "at"]
theorem sc_NoBeads___init__ : FnScope n_NoBeads___init__ p_NoBeads___init__ (defScope s_NoBeads___init__) := ⟨rfl, rfl, rfl, by decide +kernel, rfl, by decide +kernel, by decide +kernel⟩
abbrev s_Odd___init__ : Stmt := mth 4 0
abbrev n_Odd___init__ : List Str := ["self", "kind"]
abbrev p_Odd___init__ : List Str := ["self", "kind"]
theorem sc_Odd___init__ : FnScope n_Odd___init__ p_Odd___init__ (defScope s_Odd___init__) := ⟨rfl, rfl, rfl, by decide +kernel, rfl, by decide +kernel, by decide +kernel⟩
abbrev s_NoCut___init__ : Stmt := mth 5 0
abbrev n_NoCut___init__ : List Str := ["self", "at"]
abbrev p_NoCut___init__ : List Str := ["self", "at"]
theorem sc_NoCut___init__ : FnScope n_NoCut___init__ p_NoCut___init__ (defScope s_NoCut___init__) := ⟨rfl, rfl, rfl, by decide +kernel, rfl, by decide +kernel, by decide +kernel⟩
abbrev s_is_cuts : Stmt := top 10
abbrev n_is_cuts : List Str := ["beads", "cuts", "at", "cut"]
abbrev p_is_cuts : List Str := ["beads", "cuts"]
theorem sc_is_cuts : FnScope n_is_cuts p_is_cuts (defScope s_is_cuts) := ⟨rfl, rfl, rfl, by decide +kernel, rfl, by decide +kernel, by decide +kernel⟩
abbrev s_pieces_of : Stmt := top 11
abbrev n_pieces_of : List Str := ["beads", "cuts", "found", "here", "there"]
abbrev p_pieces_of : List Str := ["beads", "cuts"]
theorem sc_pieces_of : FnScope n_pieces_of p_pieces_of (defScope s_pieces_of) := ⟨rfl, rfl, rfl, by decide +kernel, rfl, by decide +kernel, by decide +kernel⟩
abbrev s_all_cuts_1 : Stmt := top 12
abbrev n_all_cuts_1 : List Str := ["low", "high", "many", "found", "cut", "later"]
abbrev p_all_cuts_1 : List Str := ["low", "high", "many"]
theorem sc_all_cuts_1 : FnScope n_all_cuts_1 p_all_cuts_1 (defScope s_all_cuts_1) := ⟨rfl, rfl, rfl, by decide +kernel, rfl, by decide +kernel, by decide +kernel⟩
abbrev s_sums_ahead : Stmt := top 13
abbrev n_sums_ahead : List Str := ["beads", "found", "sign", "many", "letter"]
abbrev p_sums_ahead : List Str := ["beads"]
theorem sc_sums_ahead : FnScope n_sums_ahead p_sums_ahead (defScope s_sums_ahead) := ⟨rfl, rfl, rfl, by decide +kernel, rfl, by decide +kernel, by decide +kernel⟩
abbrev s_last_cut : Stmt := top 14
abbrev n_last_cut : List Str := ["cuts", "size", "ends", "got", "k"]
abbrev p_last_cut : List Str := ["cuts", "size"]
theorem sc_last_cut : FnScope n_last_cut p_last_cut (defScope s_last_cut) := ⟨rfl, rfl, rfl, by decide +kernel, rfl, by decide +kernel, by decide +kernel⟩
abbrev s_gives_halves : Stmt := top 15
abbrev n_gives_halves : List Str := ["sums", "cuts", "ends", "got", "k", "one", "more", "less"]
abbrev p_gives_halves : List Str := ["sums", "cuts"]
theorem sc_gives_halves : FnScope n_gives_halves p_gives_halves (defScope s_gives_halves) := ⟨rfl, rfl, rfl, by decide +kernel, rfl, by decide +kernel, by decide +kernel⟩
abbrev s_Thread_stood : Stmt := mth 18 1
abbrev n_Thread_stood : List Str := ["self"]
abbrev p_Thread_stood : List Str := ["self"]
theorem sc_Thread_stood : FnScope n_Thread_stood p_Thread_stood (defScope s_Thread_stood) := ⟨rfl, rfl, rfl, by decide +kernel, rfl, by decide +kernel, by decide +kernel⟩
abbrev s_law_box : Stmt := top 20
abbrev n_law_box : List Str := ["_law_script", "_law_great", "_law_cell"]
abbrev p_law_box : List Str := ["_law_script"]
theorem sc_law_box : FnScope n_law_box p_law_box (defScope s_law_box) := ⟨rfl, rfl, rfl, by decide +kernel, rfl, by decide +kernel, by decide +kernel⟩
abbrev s_law_mixed : Stmt := top 21
abbrev n_law_mixed : List Str := ["_law_cell", "_law_k", "_law_whole"]
abbrev p_law_mixed : List Str := ["_law_cell", "_law_k"]
theorem sc_law_mixed : FnScope n_law_mixed p_law_mixed (defScope s_law_mixed) := ⟨rfl, rfl, rfl, by decide +kernel, rfl, by decide +kernel, by decide +kernel⟩
abbrev s_law_odd : Stmt := top 24
abbrev n_law_odd : List Str := ["_law_string", "_law_odd_here", "_law_letter"]
abbrev p_law_odd : List Str := ["_law_string"]
theorem sc_law_odd : FnScope n_law_odd p_law_odd (defScope s_law_odd) := ⟨rfl, rfl, rfl, by decide +kernel, rfl, by decide +kernel, by decide +kernel⟩
abbrev s_law_bad : Stmt := top 27
abbrev n_law_bad : List Str := ["_law_text_here", "_law_at", "_law_sign"]
abbrev p_law_bad : List Str := ["_law_text_here"]
theorem sc_law_bad : FnScope n_law_bad p_law_bad (defScope s_law_bad) := ⟨rfl, rfl, rfl, by decide +kernel, rfl, by decide +kernel, by decide +kernel⟩
abbrev s_all_cuts_2 : Stmt := top 12
abbrev n_all_cuts_2 : List Str := ["low", "high", "many", "found", "cut", "later"]
abbrev p_all_cuts_2 : List Str := ["low", "high", "many"]
theorem sc_all_cuts_2 : FnScope n_all_cuts_2 p_all_cuts_2 (defScope s_all_cuts_2) := ⟨rfl, rfl, rfl, by decide +kernel, rfl, by decide +kernel, by decide +kernel⟩
abbrev s_Thread_done : Stmt := mth 18 2
abbrev n_Thread_done : List Str := ["self", "spots", "lead"]
abbrev p_Thread_done : List Str := ["self", "spots", "lead"]
theorem sc_Thread_done : FnScope n_Thread_done p_Thread_done (defScope s_Thread_done) := ⟨rfl, rfl, rfl, by decide +kernel, rfl, by decide +kernel, by decide +kernel⟩
abbrev s_Thread_pieces : Stmt := mth 18 11
abbrev n_Thread_pieces : List Str := ["self"]
abbrev p_Thread_pieces : List Str := ["self"]
theorem sc_Thread_pieces : FnScope n_Thread_pieces p_Thread_pieces (defScope s_Thread_pieces) := ⟨rfl, rfl, rfl, by decide +kernel, rfl, by decide +kernel, by decide +kernel⟩
abbrev s_law_take : Stmt := top 22
abbrev n_law_take : List Str := ["_law_box_here", "_law_size", "_law_cell", "_law_found", "_law_reach"]
abbrev p_law_take : List Str := ["_law_box_here", "_law_size"]
theorem sc_law_take : FnScope n_law_take p_law_take (defScope s_law_take) := ⟨rfl, rfl, rfl, by decide +kernel, rfl, by decide +kernel, by decide +kernel⟩
abbrev s_ask_beads : Stmt := top 9
abbrev n_ask_beads : List Str := ["beads", "at", "sign"]
abbrev p_ask_beads : List Str := ["beads"]
theorem sc_ask_beads : FnScope n_ask_beads p_ask_beads (defScope s_ask_beads) := ⟨rfl, rfl, rfl, by decide +kernel, rfl, by decide +kernel, by decide +kernel⟩
abbrev s_all_cuts : Stmt := top 12
abbrev n_all_cuts : List Str := ["low", "high", "many", "found", "cut", "later"]
abbrev p_all_cuts : List Str := ["low", "high", "many"]
theorem sc_all_cuts : FnScope n_all_cuts p_all_cuts (defScope s_all_cuts) := ⟨rfl, rfl, rfl, by decide +kernel, rfl, by decide +kernel, by decide +kernel⟩
abbrev s_Thread_cut : Stmt := mth 18 3
abbrev n_Thread_cut : List Str := ["self", "at"]
abbrev p_Thread_cut : List Str := ["self", "at"]
theorem sc_Thread_cut : FnScope n_Thread_cut p_Thread_cut (defScope s_Thread_cut) := ⟨rfl, rfl, rfl, by decide +kernel, rfl, by decide +kernel, by decide +kernel⟩
abbrev s_Thread_flip : Stmt := mth 18 5
abbrev n_Thread_flip : List Str := ["self"]
abbrev p_Thread_flip : List Str := ["self"]
theorem sc_Thread_flip : FnScope n_Thread_flip p_Thread_flip (defScope s_Thread_flip) := ⟨rfl, rfl, rfl, by decide +kernel, rfl, by decide +kernel, by decide +kernel⟩
abbrev s_Thread_shown : Stmt := mth 18 15
abbrev n_Thread_shown : List Str := ["self"]
abbrev p_Thread_shown : List Str := ["self"]
theorem sc_Thread_shown : FnScope n_Thread_shown p_Thread_shown (defScope s_Thread_shown) := ⟨rfl, rfl, rfl, by decide +kernel, rfl, by decide +kernel, by decide +kernel⟩
abbrev s_law_beads : Stmt := top 23
abbrev n_law_beads : List Str := ["_law_box_here", "_law_most", "_law_kinds", "_law_half", "_law_pool", "_law_string", "_law_k"]
abbrev p_law_beads : List Str := ["_law_box_here", "_law_most"]
theorem sc_law_beads : FnScope n_law_beads p_law_beads (defScope s_law_beads) := ⟨rfl, rfl, rfl, by decide +kernel, rfl, by decide +kernel, by decide +kernel⟩
abbrev s_law_signed : Stmt := top 25
abbrev n_law_signed : List Str := ["_law_box_here", "_law_text_here", "_law_signs", "_law_way", "_law_at"]
abbrev p_law_signed : List Str := ["_law_box_here", "_law_text_here"]
theorem sc_law_signed : FnScope n_law_signed p_law_signed (defScope s_law_signed) := ⟨rfl, rfl, rfl, by decide +kernel, rfl, by decide +kernel, by decide +kernel⟩
abbrev s_fewest_cuts : Stmt := top 16
abbrev n_fewest_cuts : List Str := ["beads", "letter", "sums", "many", "free", "cuts"]
abbrev p_fewest_cuts : List Str := ["beads"]
theorem sc_fewest_cuts : FnScope n_fewest_cuts p_fewest_cuts (defScope s_fewest_cuts) := ⟨rfl, rfl, rfl, by decide +kernel, rfl, by decide +kernel, by decide +kernel⟩
abbrev s_Thread___init__ : Stmt := mth 18 0
abbrev n_Thread___init__ : List Str := ["self", "beads"]
abbrev p_Thread___init__ : List Str := ["self", "beads"]
theorem sc_Thread___init__ : FnScope n_Thread___init__ p_Thread___init__ (defScope s_Thread___init__) := ⟨rfl, rfl, rfl, by decide +kernel, rfl, by decide +kernel, by decide +kernel⟩
abbrev s_Thread___str__ : Stmt := mth 18 18
abbrev n_Thread___str__ : List Str := ["self"]
abbrev p_Thread___str__ : List Str := ["self"]
theorem sc_Thread___str__ : FnScope n_Thread___str__ p_Thread___str__ (defScope s_Thread___str__) := ⟨rfl, rfl, rfl, by decide +kernel, rfl, by decide +kernel, by decide +kernel⟩
abbrev s_law_text : Stmt := top 26
abbrev n_law_text : List Str := ["_law_box_here", "_law_even", "_law_changes", "_law_text_here", "_law_change", "_law_k"]
abbrev p_law_text : List Str := ["_law_box_here"]
theorem sc_law_text : FnScope n_law_text p_law_text (defScope s_law_text) := ⟨rfl, rfl, rfl, by decide +kernel, rfl, by decide +kernel, by decide +kernel⟩
abbrev s_Thread_settle : Stmt := mth 18 6
abbrev n_Thread_settle : List Str := ["self", "found"]
abbrev p_Thread_settle : List Str := ["self"]
theorem sc_Thread_settle : FnScope n_Thread_settle p_Thread_settle (defScope s_Thread_settle) := ⟨rfl, rfl, rfl, by decide +kernel, rfl, by decide +kernel, by decide +kernel⟩
abbrev s_law_asked : Stmt := top 28
abbrev n_law_asked : List Str := ["_law_way", "_law_text_here", "_law_seen", "e"]
abbrev p_law_asked : List Str := ["_law_way", "_law_text_here"]
theorem sc_law_asked : FnScope n_law_asked p_law_asked (defScope s_law_asked) := ⟨rfl, rfl, rfl, by decide +kernel, rfl, by decide +kernel, by decide +kernel⟩
abbrev s_law_left : Stmt := top 29
abbrev n_law_left : List Str := ["_law_text_here", "_law_thread", "_law_found"]
abbrev p_law_left : List Str := ["_law_text_here"]
theorem sc_law_left : FnScope n_law_left p_law_left (defScope s_law_left) := ⟨rfl, rfl, rfl, by decide +kernel, rfl, by decide +kernel, by decide +kernel⟩
abbrev s_law : Stmt := top 30
abbrev n_law : List Str := ["_law_script", "_law_box_here", "_law_text_here", "_law_bad_here", "_law_odd_here", "_law_due", "_law_way"]
abbrev p_law : List Str := ["_law_script"]
theorem sc_law : FnScope n_law p_law (defScope s_law) := ⟨rfl, rfl, rfl, by decide +kernel, rfl, by decide +kernel, by decide +kernel⟩
structure Txt (K : PySem.W.Frag) (mg : Str → Option Value) (base : Heap) (A : Adr) : Prop where
  F_NoBeads___init__ : Fun K "__init__" "NoBeads.__init__" s_NoBeads___init__ A.f_NoBeads___init__ A.d_NoBeads___init__
  b_NoBeads___init__ : Binds K A.d_NoBeads___init__ p_NoBeads___init__ []
  F_Odd___init__ : Fun K "__init__" "Odd.__init__" s_Odd___init__ A.f_Odd___init__ A.d_Odd___init__
  b_Odd___init__ : Binds K A.d_Odd___init__ p_Odd___init__ []
  F_NoCut___init__ : Fun K "__init__" "NoCut.__init__" s_NoCut___init__ A.f_NoCut___init__ A.d_NoCut___init__
  b_NoCut___init__ : Binds K A.d_NoCut___init__ p_NoCut___init__ []
  F_is_cuts : Fun K "is_cuts" "is_cuts" s_is_cuts A.f_is_cuts A.d_is_cuts
  b_is_cuts : Binds K A.d_is_cuts p_is_cuts []
  F_pieces_of : Fun K "pieces_of" "pieces_of" s_pieces_of A.f_pieces_of A.d_pieces_of
  b_pieces_of : Binds K A.d_pieces_of p_pieces_of []
  F_all_cuts_1 : Fun K "all_cuts" "all_cuts" s_all_cuts_1 A.f_all_cuts_1 A.d_all_cuts_1
  b_all_cuts_1 : Binds K A.d_all_cuts_1 p_all_cuts_1 []
  F_sums_ahead : Fun K "sums_ahead" "sums_ahead" s_sums_ahead A.f_sums_ahead A.d_sums_ahead
  b_sums_ahead : Binds K A.d_sums_ahead p_sums_ahead []
  F_last_cut : Fun K "last_cut" "last_cut" s_last_cut A.f_last_cut A.d_last_cut
  b_last_cut : Binds K A.d_last_cut p_last_cut []
  F_gives_halves : Fun K "gives_halves" "gives_halves" s_gives_halves A.f_gives_halves A.d_gives_halves
  b_gives_halves : Binds K A.d_gives_halves p_gives_halves []
  F_Thread_stood : Fun K "stood" "Thread.stood" s_Thread_stood A.f_Thread_stood A.d_Thread_stood
  b_Thread_stood : Binds K A.d_Thread_stood p_Thread_stood []
  F_law_box : Fun K "_law_box" "_law_box" s_law_box A.f_law_box A.d_law_box
  b_law_box : Binds K A.d_law_box p_law_box []
  F_law_mixed : Fun K "_law_mixed" "_law_mixed" s_law_mixed A.f_law_mixed A.d_law_mixed
  b_law_mixed : Binds K A.d_law_mixed p_law_mixed []
  F_law_odd : Fun K "_law_odd" "_law_odd" s_law_odd A.f_law_odd A.d_law_odd
  b_law_odd : Binds K A.d_law_odd p_law_odd []
  F_law_bad : Fun K "_law_bad" "_law_bad" s_law_bad A.f_law_bad A.d_law_bad
  b_law_bad : Binds K A.d_law_bad p_law_bad []
  F_all_cuts_2 : Fun K "all_cuts" "all_cuts" s_all_cuts_2 A.f_all_cuts_2 A.d_all_cuts_2
  b_all_cuts_2 : Binds K A.d_all_cuts_2 p_all_cuts_2 []
  F_Thread_done : Fun K "done" "Thread.done" s_Thread_done A.f_Thread_done A.d_Thread_done
  b_Thread_done : Binds K A.d_Thread_done p_Thread_done []
  F_Thread_pieces : Fun K "pieces" "Thread.pieces" s_Thread_pieces A.f_Thread_pieces A.d_Thread_pieces
  b_Thread_pieces : Binds K A.d_Thread_pieces p_Thread_pieces []
  F_law_take : Fun K "_law_take" "_law_take" s_law_take A.f_law_take A.d_law_take
  b_law_take : Binds K A.d_law_take p_law_take []
  F_ask_beads : Fun K "ask_beads" "ask_beads" s_ask_beads A.f_ask_beads A.d_ask_beads
  b_ask_beads : Binds K A.d_ask_beads p_ask_beads []
  F_all_cuts : Fun K "all_cuts" "all_cuts" s_all_cuts A.f_all_cuts A.d_all_cuts
  b_all_cuts : Binds K A.d_all_cuts p_all_cuts []
  F_Thread_cut : Fun K "cut" "Thread.cut" s_Thread_cut A.f_Thread_cut A.d_Thread_cut
  b_Thread_cut : Binds K A.d_Thread_cut p_Thread_cut []
  F_Thread_flip : Fun K "flip" "Thread.flip" s_Thread_flip A.f_Thread_flip A.d_Thread_flip
  b_Thread_flip : Binds K A.d_Thread_flip p_Thread_flip []
  F_Thread_shown : Fun K "shown" "Thread.shown" s_Thread_shown A.f_Thread_shown A.d_Thread_shown
  b_Thread_shown : Binds K A.d_Thread_shown p_Thread_shown []
  F_law_beads : Fun K "_law_beads" "_law_beads" s_law_beads A.f_law_beads A.d_law_beads
  b_law_beads : Binds K A.d_law_beads p_law_beads []
  F_law_signed : Fun K "_law_signed" "_law_signed" s_law_signed A.f_law_signed A.d_law_signed
  b_law_signed : Binds K A.d_law_signed p_law_signed []
  F_fewest_cuts : Fun K "fewest_cuts" "fewest_cuts" s_fewest_cuts A.f_fewest_cuts A.d_fewest_cuts
  b_fewest_cuts : Binds K A.d_fewest_cuts p_fewest_cuts []
  F_Thread___init__ : Fun K "__init__" "Thread.__init__" s_Thread___init__ A.f_Thread___init__ A.d_Thread___init__
  b_Thread___init__ : Binds K A.d_Thread___init__ p_Thread___init__ []
  F_Thread___str__ : Fun K "__str__" "Thread.__str__" s_Thread___str__ A.f_Thread___str__ A.d_Thread___str__
  b_Thread___str__ : Binds K A.d_Thread___str__ p_Thread___str__ []
  F_law_text : Fun K "_law_text" "_law_text" s_law_text A.f_law_text A.d_law_text
  b_law_text : Binds K A.d_law_text p_law_text []
  F_Thread_settle : Fun K "settle" "Thread.settle" s_Thread_settle A.f_Thread_settle A.d_Thread_settle
  b_Thread_settle : Binds K A.d_Thread_settle p_Thread_settle []
  F_law_asked : Fun K "_law_asked" "_law_asked" s_law_asked A.f_law_asked A.d_law_asked
  b_law_asked : Binds K A.d_law_asked p_law_asked []
  F_law_left : Fun K "_law_left" "_law_left" s_law_left A.f_law_left A.d_law_left
  b_law_left : Binds K A.d_law_left p_law_left []
  F_law : Fun K "law" "law" s_law A.f_law A.d_law
  b_law : Binds K A.d_law p_law []
  g_law_asked : mg "_law_asked" = some (.ref A.f_law_asked)
  g_law_bad : mg "_law_bad" = some (.ref A.f_law_bad)
  g_law_beads : mg "_law_beads" = some (.ref A.f_law_beads)
  g_law_box : mg "_law_box" = some (.ref A.f_law_box)
  g_law_left : mg "_law_left" = some (.ref A.f_law_left)
  g_law_mixed : mg "_law_mixed" = some (.ref A.f_law_mixed)
  g_law_odd : mg "_law_odd" = some (.ref A.f_law_odd)
  g_law_signed : mg "_law_signed" = some (.ref A.f_law_signed)
  g_law_take : mg "_law_take" = some (.ref A.f_law_take)
  g_law_text : mg "_law_text" = some (.ref A.f_law_text)
  g_all_cuts : mg "all_cuts" = some (.ref A.f_all_cuts)
  g_all_cuts_1 : mg "all_cuts" = some (.ref A.f_all_cuts_1)
  g_all_cuts_2 : mg "all_cuts" = some (.ref A.f_all_cuts_2)
  g_ask_beads : mg "ask_beads" = some (.ref A.f_ask_beads)
  g_fewest_cuts : mg "fewest_cuts" = some (.ref A.f_fewest_cuts)
  g_gives_halves : mg "gives_halves" = some (.ref A.f_gives_halves)
  g_is_cuts : mg "is_cuts" = some (.ref A.f_is_cuts)
  g_last_cut : mg "last_cut" = some (.ref A.f_last_cut)
  g_law : mg "law" = some (.ref A.f_law)
  g_pieces_of : mg "pieces_of" = some (.ref A.f_pieces_of)
  g_sums_ahead : mg "sums_ahead" = some (.ref A.f_sums_ahead)
  cl_Thread : Cls K A.c_Thread
  mk_Thread : Mk K A.c_Thread A.f_Thread___init__
  mt_Thread___str__ : Meth K A.c_Thread "__str__" A.f_Thread___str__
  mt_Thread_cut : Meth K A.c_Thread "cut" A.f_Thread_cut
  mt_Thread_done : Meth K A.c_Thread "done" A.f_Thread_done
  mt_Thread_flip : Meth K A.c_Thread "flip" A.f_Thread_flip
  mt_Thread_pieces : Meth K A.c_Thread "pieces" A.f_Thread_pieces
  mt_Thread_settle : Meth K A.c_Thread "settle" A.f_Thread_settle
  mt_Thread_shown : Meth K A.c_Thread "shown" A.f_Thread_shown
  mt_Thread_stood : Meth K A.c_Thread "stood" A.f_Thread_stood
  fo_beads : FldOk (GG K A) "beads" ix_beads
  fo_later : FldOk (GG K A) "later" ix_later
  fo_lead : FldOk (GG K A) "lead" ix_lead
  fo_past : FldOk (GG K A) "past" ix_past
  fo_spots : FldOk (GG K A) "spots" ix_spots
  B_Thread___init___1_beads : CallB K A.d_Thread___init__ p_Thread___init__ 1 ["beads"] [0, 1] (([] : List D).map toV)
  B_Thread___init___2_ : CallB K A.d_Thread___init__ p_Thread___init__ 2 [] [0, 1] (([] : List D).map toV)
  B_Thread_cut_2_ : CallB K A.d_Thread_cut p_Thread_cut 2 [] [0, 1] (([] : List D).map toV)
  B_Thread_done_3_ : CallB K A.d_Thread_done p_Thread_done 3 [] [0, 1, 2] (([] : List D).map toV)
  B_Thread_flip_1_ : CallB K A.d_Thread_flip p_Thread_flip 1 [] [0] (([] : List D).map toV)
  B_Thread_pieces_1_ : CallB K A.d_Thread_pieces p_Thread_pieces 1 [] [0] (([] : List D).map toV)
  B_Thread_settle_1_ : CallB K A.d_Thread_settle p_Thread_settle 1 [] [0] (([] : List D).map toV)
  B_Thread_shown_1_ : CallB K A.d_Thread_shown p_Thread_shown 1 [] [0] (([] : List D).map toV)
  B_Thread_stood_1_ : CallB K A.d_Thread_stood p_Thread_stood 1 [] [0] (([] : List D).map toV)
  z_ValueError : mg "ValueError" = none
  z_all : mg "all" = none
  z_bool : mg "bool" = none
  z_enumerate : mg "enumerate" = none
  z_int : mg "int" = none
  z_isinstance : mg "isinstance" = none
  z_len : mg "len" = none
  z_list : mg "list" = none
  z_max : mg "max" = none
  z_range : mg "range" = none
  z_sorted : mg "sorted" = none
  z_str : mg "str" = none
  z_sum : mg "sum" = none
  z_zip : mg "zip" = none
  m_LETTERS : mg "LETTERS" = some (.str "abc" A.t_LETTERS)
  m_MOST_BEADS : mg "MOST_BEADS" = some (.int 24 A.t_MOST_BEADS)
  g_CrumbError : mg "CrumbError" = some (.ref A.c_CrumbError)
  g_NoBeads : mg "NoBeads" = some (.ref A.c_NoBeads)
  g_Odd : mg "Odd" = some (.ref A.c_Odd)
  g_NoCut : mg "NoCut" = some (.ref A.c_NoCut)
  g_Thread : mg "Thread" = some (.ref A.c_Thread)
  oex_NoBeads : OexC K A.c_NoBeads
  ini_NoBeads : PySem.W.findIn K (.ref A.c_NoBeads) "__init__" = some (some (.ref A.f_NoBeads___init__))
  tin_NoBeads : PySem.W.typeIn K (.ref A.f_NoBeads___init__) = some (.type "function")
  xno_NoBeads : PySem.W.findIn K (.ref A.c_NoBeads) "at" = some none
  xf_NoBeads : XfC K A.c_NoBeads
  oex_NoCut : OexC K A.c_NoCut
  ini_NoCut : PySem.W.findIn K (.ref A.c_NoCut) "__init__" = some (some (.ref A.f_NoCut___init__))
  tin_NoCut : PySem.W.typeIn K (.ref A.f_NoCut___init__) = some (.type "function")
  xno_NoCut : PySem.W.findIn K (.ref A.c_NoCut) "at" = some none
  xf_NoCut : XfC K A.c_NoCut
  oex_Odd : OexC K A.c_Odd
  ini_Odd : PySem.W.findIn K (.ref A.c_Odd) "__init__" = some (some (.ref A.f_Odd___init__))
  tin_Odd : PySem.W.typeIn K (.ref A.f_Odd___init__) = some (.type "function")
  xno_Odd : PySem.W.findIn K (.ref A.c_Odd) "kind" = some none
  xf_Odd : XfC K A.c_Odd
  ex_CrumbError : ∀ c b, sub_CrumbError c = some b → PySem.W.exmOne K (.ref ((GG K A).ca c)) (.ref A.c_CrumbError) = some b
  ec_CrumbError : ∀ c, sub_CrumbError c = some true → ExcC K ((GG K A).ca c)
  ex_NoBeads : ∀ c b, sub_NoBeads c = some b → PySem.W.exmOne K (.ref ((GG K A).ca c)) (.ref A.c_NoBeads) = some b
  ec_NoBeads : ∀ c, sub_NoBeads c = some true → ExcC K ((GG K A).ca c)
  ex_Odd : ∀ c b, sub_Odd c = some b → PySem.W.exmOne K (.ref ((GG K A).ca c)) (.ref A.c_Odd) = some b
  ec_Odd : ∀ c, sub_Odd c = some true → ExcC K ((GG K A).ca c)
  ki_CrumbError : ∀ c b, sub_CrumbError c = some b → PySem.W.kitOne K (.ref ((GG K A).ca c)) (.ref A.c_CrumbError) = some b
  ki_Odd : ∀ c b, sub_Odd c = some b → PySem.W.kitOne K (.ref ((GG K A).ca c)) (.ref A.c_Odd) = some b
  ki_ValueError : ∀ c b, sub_ValueError c = some b → PySem.W.kitOne K (.ref ((GG K A).ca c)) (.type "ValueError") = some b
section
variable {P : Program} {w : World} {K : PySem.W.Frag} {mg : Str → Option Value} {base : Heap} {A : Adr}
theorem ok_NoBeads___init__ (T : Txt K mg base A) : FnOk P w K mg base CX0 1 A.f_NoBeads___init__ A.d_NoBeads___init__ p_NoBeads___init__ (spEx K "at") :=
  fn_exI rfl T.F_NoBeads___init__ sc_NoBeads___init__ fun cdv Ar outer s H E => pss_one (ps_ost (pv 0) (pv 1))
theorem ok_Odd___init__ (T : Txt K mg base A) : FnOk P w K mg base CX0 1 A.f_Odd___init__ A.d_Odd___init__ p_Odd___init__ (spEx K "kind") :=
  fn_exI rfl T.F_Odd___init__ sc_Odd___init__ fun cdv Ar outer s H E => pss_one (ps_ost (pv 0) (pv 1))
theorem ok_NoCut___init__ (T : Txt K mg base A) : FnOk P w K mg base CX0 1 A.f_NoCut___init__ A.d_NoCut___init__ p_NoCut___init__ (spEx K "at") :=
  fn_exI rfl T.F_NoCut___init__ sc_NoCut___init__ fun cdv Ar outer s H E => pss_one (ps_ost (pv 0) (pv 1))
theorem ok_is_cuts (T : Txt K mg base A) : FnOk P w K mg base (L2.CX P w) 1 A.f_is_cuts A.d_is_cuts p_is_cuts (spF (GG K A) F_is_cuts) :=
  fn_ok (k := 0) rfl rfl T.F_is_cuts sc_is_cuts fun cdv Ar outer s H E hr => ⟨_,
    (pss_cons (ps_for (passes_of rfl) rfl (pi_enum (by rfl) T.z_enumerate (pa_cons (pv 1) pa_nil)) (pg_tl rfl (pgs_cons (pg_name (i := 2) sc_is_cuts.nd rfl (by first | exact Or.inl rfl | exact Or.inr rfl)) (pgs_cons (pg_name (i := 3) sc_is_cuts.nd rfl (by first | exact Or.inl rfl | exact Or.inr rfl)) pgs_nil))) (pss_one (ps_if (PW.pt (pw_or (pt_cmpR op_lt (pv 3) pe_int (nomark _)) (pw_or (pt_cmpR op_ge (pv 3) (pe_callB call_len (by rfl) T.z_len (by decide +kernel) (pa_cons (pv 0) pa_nil)) (nomark _)) (pw_or1 (PW.pt (pw_and (pt_cmpR op_gt (pv 2) pe_int (nomark _)) (pw_and1 (pt_cmpR op_le (pv 3) (pe_ix ix_seq (pv 1) (pe_op op_sub (pv 2) pe_int) (fun _ _ => rfl)) (nomark _))))))))) (pss_one (ps_ret pe_bl)) pss_nil)))
    (pss_one (ps_ret pe_bl))),
    (s_seq (s_for (i_enum (a_cons v_var a_nil)) (g_tl (gs_cons g_name (gs_cons g_name gs_nil))) (s_if (t_or (t_test (v_op d_lt v_var v_int)) (t_or (t_test (v_op d_ge v_var (v_cb c_len (a_cons v_var a_nil)))) (t_and (t_test (v_op d_gt v_var v_int)) (t_test (v_op d_le v_var (v_op d_ix v_var (v_op d_sub v_var v_int))))))) (s_ret v_bl) s_skip))
    (s_ret v_bl))⟩
theorem okN_is_cuts (T : Txt K mg base A) : FnOk P w K mg base (L2N.CX P w) 1 A.f_is_cuts A.d_is_cuts p_is_cuts (spF (GG K A) F_is_cuts) :=
  fn_okN (k := 0) rfl rfl T.F_is_cuts sc_is_cuts fun cdv Ar outer s H E hr => ⟨_,
    (pss_cons (ps_for (passes_of rfl) rfl (pi_enum (by rfl) T.z_enumerate (pa_cons (pv 1) pa_nil)) (pg_tl rfl (pgs_cons (pg_name (i := 2) sc_is_cuts.nd rfl (by first | exact Or.inl rfl | exact Or.inr rfl)) (pgs_cons (pg_name (i := 3) sc_is_cuts.nd rfl (by first | exact Or.inl rfl | exact Or.inr rfl)) pgs_nil))) (pss_one (ps_if (PW.pt (pw_or (pt_cmpR op_lt (pv 3) pe_int (nomark _)) (pw_or (pt_cmpR op_ge (pv 3) (pe_callB call_len (by rfl) T.z_len (by decide +kernel) (pa_cons (pv 0) pa_nil)) (nomark _)) (pw_or1 (PW.pt (pw_and (pt_cmpR op_gt (pv 2) pe_int (nomark _)) (pw_and1 (pt_cmpR op_le (pv 3) (pe_ix ix_seq (pv 1) (pe_op op_sub (pv 2) pe_int) (fun _ _ => rfl)) (nomark _))))))))) (pss_one (ps_ret pe_bl)) pss_nil)))
    (pss_one (ps_ret pe_bl))),
    (s_seq (s_for (i_enum (a_cons v_var a_nil)) (g_tl (gs_cons g_name (gs_cons g_name gs_nil))) (s_if (t_or (t_test (v_op d_lt v_var v_int)) (t_or (t_test (v_op d_ge v_var (v_cb c_len (a_cons v_var a_nil)))) (t_and (t_test (v_op d_gt v_var v_int)) (t_test (v_op d_le v_var (v_op d_ix v_var (v_op d_sub v_var v_int))))))) (s_ret v_bl) s_skip))
    (s_ret v_bl))⟩
theorem ok_pieces_of (T : Txt K mg base A) : FnOk P w K mg base (L2.CX P w) 1 A.f_pieces_of A.d_pieces_of p_pieces_of (spF (GG K A) F_pieces_of) :=
  fn_ok (k := 0) rfl rfl T.F_pieces_of sc_pieces_of fun cdv Ar outer s H E hr => ⟨_,
    (pss_cons (ps_set (i := 2) sc_pieces_of.nd rfl (by first | exact Or.inl rfl | exact Or.inr rfl) (pe_lst pa_nil))
    (pss_cons (ps_set (i := 3) sc_pieces_of.nd rfl (by first | exact Or.inl rfl | exact Or.inr rfl) pe_int)
    (pss_cons (ps_for (passes_of rfl) rfl (pi_any (pe_op or_add (pv 1) (pe_lst (pa_cons (pe_callB call_len (by rfl) T.z_len (by decide +kernel) (pa_cons (pv 0) pa_nil)) pa_nil)))) (pg_name (i := 4) sc_pieces_of.nd rfl (by first | exact Or.inl rfl | exact Or.inr rfl)) (pss_cons (ps_expr (pe_bm PySem.F.plainAttrs_list PySem.F.slot_list_append PySem.F.type_list_append mt_append (pv 2) (pa_cons (pe_slice sl_any (pv 0) (po_some (pv 3)) (po_some (pv 4))) pa_nil)))
    (pss_one (ps_set (i := 3) sc_pieces_of.nd rfl (by first | exact Or.inl rfl | exact Or.inr rfl) (pv 4)))))
    (pss_one (ps_ret (pv 2)))))),
    (s_seq (s_set (v_lst a_nil))
    (s_seq (s_setF v_int)
    (s_seq (s_for (i_any (v_op d_add v_var (v_lst (a_cons (v_cb c_len (a_cons v_var a_nil)) a_nil)))) g_name (s_seq (s_mt m_append (a_cons (v_sl d_sl v_var (o_some v_var) (o_some v_var)) a_nil))
    (s_setF v_var)))
    s_retV)))⟩
theorem ok_all_cuts_1 (T : Txt K mg base A) : FnOk P w K mg base (L2.CX P w) 1 A.f_all_cuts_1 A.d_all_cuts_1 p_all_cuts_1 (spF (GG K A) F_all_cuts_1) :=
  fn_ok (k := 0) rfl rfl T.F_all_cuts_1 sc_all_cuts_1 fun cdv Ar outer s H E hr => ⟨_,
    (pss_cons (ps_if (pt_cmpR (or_eq hr.units) (pv 2) pe_int (nomark _)) (pss_one (ps_ret (pe_lst (pa_cons (pe_lst pa_nil) pa_nil)))) pss_nil)
    (pss_cons (ps_set (i := 3) sc_all_cuts_1.nd rfl (by first | exact Or.inl rfl | exact Or.inr rfl) (pe_lst pa_nil))
    (pss_cons (ps_for (passes_of rfl) rfl (pi_range2 (by rfl) T.z_range (pa_cons (pv 0) (pa_cons (pe_op or_add (pv 1) pe_int) pa_nil))) (pg_name (i := 4) sc_all_cuts_1.nd rfl (by first | exact Or.inl rfl | exact Or.inr rfl)) (pss_one ps_never))
    (pss_one (ps_ret (pv 3)))))),
    (s_seq (s_if (t_test (v_op d_eq v_var v_int)) (s_ret (v_lst (a_cons (v_lst a_nil) a_nil))) s_skip)
    (s_seq (s_set (v_lst a_nil))
    (s_seq (s_for (i_range2 (a_cons v_var (a_cons (v_op d_add v_var v_int) a_nil))) g_name s_never)
    s_retV)))⟩
theorem okN_all_cuts_1 (T : Txt K mg base A) : FnOk P w K mg base (L2N.CX P w) 1 A.f_all_cuts_1 A.d_all_cuts_1 p_all_cuts_1 (spF (GG K A) F_all_cuts_1) :=
  fn_okN (k := 0) rfl rfl T.F_all_cuts_1 sc_all_cuts_1 fun cdv Ar outer s H E hr => ⟨_,
    (pss_cons (ps_if (pt_cmpR (or_eq hr.units) (pv 2) pe_int (nomark _)) (pss_one (ps_ret (pe_lst (pa_cons (pe_lst pa_nil) pa_nil)))) pss_nil)
    (pss_cons (ps_set (i := 3) sc_all_cuts_1.nd rfl (by first | exact Or.inl rfl | exact Or.inr rfl) (pe_lst pa_nil))
    (pss_cons (ps_for (passes_of rfl) rfl (pi_range2 (by rfl) T.z_range (pa_cons (pv 0) (pa_cons (pe_op or_add (pv 1) pe_int) pa_nil))) (pg_name (i := 4) sc_all_cuts_1.nd rfl (by first | exact Or.inl rfl | exact Or.inr rfl)) (pss_one ps_never))
    (pss_one (ps_ret (pv 3)))))),
    (s_seq (s_if (t_test (v_op d_eq v_var v_int)) (s_ret (v_lst (a_cons (v_lst a_nil) a_nil))) s_skip)
    (s_seq (s_set (v_lst a_nil))
    (s_seq (s_for (i_range2 (a_cons v_var (a_cons (v_op d_add v_var v_int) a_nil))) g_name s_never)
    s_retV)))⟩
theorem ok_sums_ahead (T : Txt K mg base A) : FnOk P w K mg base (L2.CX P w) 1 A.f_sums_ahead A.d_sums_ahead p_sums_ahead (spF (GG K A) F_sums_ahead) :=
  fn_ok (k := 0) rfl rfl T.F_sums_ahead sc_sums_ahead fun cdv Ar outer s H E hr => ⟨_,
    (pss_cons (ps_set (i := 1) sc_sums_ahead.nd rfl (by first | exact Or.inl rfl | exact Or.inr rfl) (pe_lst (pa_cons (pe_lst (pa_cons pe_int (pa_cons pe_int (pa_cons pe_int pa_nil)))) pa_nil)))
    (pss_cons (ps_for (passes_of rfl) rfl (pi_any (pv 0)) (pg_name (i := 2) sc_sums_ahead.nd rfl (by first | exact Or.inl rfl | exact Or.inr rfl)) (pss_one (ps_expr (pe_bm PySem.F.plainAttrs_list PySem.F.slot_list_append PySem.F.type_list_append mt_append (pv 1) (pa_cons (pe_lc (own := [("many", 3), ("letter", 4)]) rfl sc_sums_ahead.nd (pi_zipS (by rfl) T.z_zip (pa_cons (pe_ix ix_seq (pv 1) (pe_un un_neg pe_int) (fun _ _ => rfl)) (pa_cons (pe_glob (v := .str "abc") rfl T.m_LETTERS ⟨_, rfl⟩) pa_nil))) (blkOk_by (N := n_sums_ahead) (sc := defScope (s_sums_ahead)) (by decide +kernel)) (fun _ _ _ _ _ => (pg_tl rfl (pgs_cons (pg_name (i := 3) sc_sums_ahead.nd rfl (by first | exact Or.inl rfl | exact Or.inr rfl)) (pgs_cons (pg_name (i := 4) sc_sums_ahead.nd rfl (by first | exact Or.inl rfl | exact Or.inr rfl)) pgs_nil)))) (fun _ _ _ _ _ => pts_nil) (fun _ _ _ _ _ => (pe_op or_add (pv 3) (pe_callTy call_intA (by rfl) T.z_int (by decide +kernel) (pa_cons (pe_cmpR (or_eq hr.units) (pv 2) (pv 4) (nomark _)) pa_nil))))) pa_nil)))))
    (pss_one (ps_ret (pv 1))))),
    (s_seq (s_set (v_lst (a_cons (v_lst (a_cons v_int (a_cons v_int (a_cons v_int a_nil)))) a_nil)))
    (s_seq (s_for (i_any v_var) g_name (s_mt m_append (a_cons (v_lc (vs := [3, 4]) (i_zipS (a_cons (v_op d_ix v_var (v_un d_neg v_int)) (a_cons v_str a_nil))) (g_tl (gs_cons g_name (gs_cons g_name gs_nil))) (by decide) t_yes (v_op d_add v_var (v_cb c_int (a_cons (v_op d_eq v_var v_var) a_nil)))) a_nil)))
    s_retV))⟩
theorem okN_sums_ahead (T : Txt K mg base A) : FnOk P w K mg base (L2N.CX P w) 1 A.f_sums_ahead A.d_sums_ahead p_sums_ahead (spF (GG K A) F_sums_ahead) :=
  fn_okN (k := 0) rfl rfl T.F_sums_ahead sc_sums_ahead fun cdv Ar outer s H E hr => ⟨_,
    (pss_cons (ps_set (i := 1) sc_sums_ahead.nd rfl (by first | exact Or.inl rfl | exact Or.inr rfl) (pe_lst (pa_cons (pe_lst (pa_cons pe_int (pa_cons pe_int (pa_cons pe_int pa_nil)))) pa_nil)))
    (pss_cons (ps_for (passes_of rfl) rfl (pi_any (pv 0)) (pg_name (i := 2) sc_sums_ahead.nd rfl (by first | exact Or.inl rfl | exact Or.inr rfl)) (pss_one (ps_expr (pe_bm PySem.F.plainAttrs_list PySem.F.slot_list_append PySem.F.type_list_append mt_append (pv 1) (pa_cons (pe_lc (own := [("many", 3), ("letter", 4)]) rfl sc_sums_ahead.nd (pi_zipS (by rfl) T.z_zip (pa_cons (pe_ix ix_seq (pv 1) (pe_un un_neg pe_int) (fun _ _ => rfl)) (pa_cons (pe_glob (v := .str "abc") rfl T.m_LETTERS ⟨_, rfl⟩) pa_nil))) (blkOk_by (N := n_sums_ahead) (sc := defScope (s_sums_ahead)) (by decide +kernel)) (fun _ _ _ _ _ => (pg_tl rfl (pgs_cons (pg_name (i := 3) sc_sums_ahead.nd rfl (by first | exact Or.inl rfl | exact Or.inr rfl)) (pgs_cons (pg_name (i := 4) sc_sums_ahead.nd rfl (by first | exact Or.inl rfl | exact Or.inr rfl)) pgs_nil)))) (fun _ _ _ _ _ => pts_nil) (fun _ _ _ _ _ => (pe_op or_add (pv 3) (pe_callTy call_intA (by rfl) T.z_int (by decide +kernel) (pa_cons (pe_cmpR (or_eq hr.units) (pv 2) (pv 4) (nomark _)) pa_nil))))) pa_nil)))))
    (pss_one (ps_ret (pv 1))))),
    (s_seq (s_set (v_lst (a_cons (v_lst (a_cons v_int (a_cons v_int (a_cons v_int a_nil)))) a_nil)))
    (s_seq (s_for (i_any v_var) g_name (s_mt m_append (a_cons (v_lc (vs := [3, 4]) (i_zipS (a_cons (v_op d_ix v_var (v_un d_neg v_int)) (a_cons v_str a_nil))) (g_tl (gs_cons g_name (gs_cons g_name gs_nil))) (by decide) t_yes (v_op d_add v_var (v_cb c_int (a_cons (v_op d_eq v_var v_var) a_nil)))) a_nil)))
    s_retV))⟩
theorem ok_last_cut (T : Txt K mg base A) : FnOk P w K mg base (L2.CX P w) 1 A.f_last_cut A.d_last_cut p_last_cut (spF (GG K A) F_last_cut) :=
  fn_ok (k := 0) rfl rfl T.F_last_cut sc_last_cut fun cdv Ar outer s H E hr => ⟨_,
    (pss_cons (ps_set (i := 2) sc_last_cut.nd rfl (by first | exact Or.inl rfl | exact Or.inr rfl) (pe_op or_add (pe_lst (pa_cons pe_int pa_nil)) (pv 0)))
    (pss_cons (ps_set (i := 3) sc_last_cut.nd rfl (by first | exact Or.inl rfl | exact Or.inr rfl) (pe_callB (cr_sum rfl) (by rfl) T.z_sum (by decide +kernel) (pa_cons (pe_lc (own := [("k", 4)]) rfl sc_last_cut.nd (pi_range3 (by rfl) T.z_range (pa_cons (pe_op op_modN (pe_callB call_len (by rfl) T.z_len (by decide +kernel) (pa_cons (pv 0) pa_nil)) pe_int) (pa_cons (pe_callB call_len (by rfl) T.z_len (by decide +kernel) (pa_cons (pv 0) pa_nil)) (pa_cons pe_int pa_nil)))) (blkOk_by (N := n_last_cut) (sc := defScope (s_last_cut)) (by decide +kernel)) (fun _ _ _ _ _ => (pg_name (i := 4) sc_last_cut.nd rfl (by first | exact Or.inl rfl | exact Or.inr rfl))) (fun _ _ _ _ _ => pts_nil) (fun _ _ _ _ _ => (pe_op op_sub (pe_ix ix_seq (pv 2) (pe_op or_add (pv 4) pe_int) (fun _ _ => rfl)) (pe_ix ix_seq (pv 2) (pv 4) (fun _ _ => rfl))))) pa_nil)))
    (pss_one (ps_ret (pe_op op_sub (pe_op or_add (pe_ix ix_seq (pv 2) (pe_un un_neg pe_int) (fun _ _ => rfl)) (pe_op or_div (pv 1) pe_int)) (pv 3)))))),
    (s_seq (s_setF (v_op d_add (v_lst (a_cons v_int a_nil)) v_var))
    (s_seq (s_setF (v_cb c_sum (a_cons (v_lc (vs := [4]) (js := [4]) (i_range3 (a_cons (v_op d_mod (v_cb c_len (a_cons v_var a_nil)) v_int) (a_cons (v_cb c_len (a_cons v_var a_nil)) (a_cons v_int a_nil)))) g_name (by decide) t_yes (v_op d_sub (v_op d_ix v_var (v_op d_add v_var v_int)) (v_op d_ix v_var v_var))) a_nil)))
    (s_ret (v_op d_sub (v_op d_add (v_op d_ix v_var (v_un d_neg v_int)) (v_op d_div v_var v_int)) v_var))))⟩
theorem okN_last_cut (T : Txt K mg base A) : FnOk P w K mg base (L2N.CX P w) 1 A.f_last_cut A.d_last_cut p_last_cut (spF (GG K A) F_last_cut) :=
  fn_okN (k := 0) rfl rfl T.F_last_cut sc_last_cut fun cdv Ar outer s H E hr => ⟨_,
    (pss_cons (ps_set (i := 2) sc_last_cut.nd rfl (by first | exact Or.inl rfl | exact Or.inr rfl) (pe_op or_add (pe_lst (pa_cons pe_int pa_nil)) (pv 0)))
    (pss_cons (ps_set (i := 3) sc_last_cut.nd rfl (by first | exact Or.inl rfl | exact Or.inr rfl) (pe_callB (cr_sum rfl) (by rfl) T.z_sum (by decide +kernel) (pa_cons (pe_lc (own := [("k", 4)]) rfl sc_last_cut.nd (pi_range3 (by rfl) T.z_range (pa_cons (pe_op op_modN (pe_callB call_len (by rfl) T.z_len (by decide +kernel) (pa_cons (pv 0) pa_nil)) pe_int) (pa_cons (pe_callB call_len (by rfl) T.z_len (by decide +kernel) (pa_cons (pv 0) pa_nil)) (pa_cons pe_int pa_nil)))) (blkOk_by (N := n_last_cut) (sc := defScope (s_last_cut)) (by decide +kernel)) (fun _ _ _ _ _ => (pg_name (i := 4) sc_last_cut.nd rfl (by first | exact Or.inl rfl | exact Or.inr rfl))) (fun _ _ _ _ _ => pts_nil) (fun _ _ _ _ _ => (pe_op op_sub (pe_ix ix_seq (pv 2) (pe_op or_add (pv 4) pe_int) (fun _ _ => rfl)) (pe_ix ix_seq (pv 2) (pv 4) (fun _ _ => rfl))))) pa_nil)))
    (pss_one (ps_ret (pe_op op_sub (pe_op or_add (pe_ix ix_seq (pv 2) (pe_un un_neg pe_int) (fun _ _ => rfl)) (pe_op or_div (pv 1) pe_int)) (pv 3)))))),
    (s_seq (s_setF (v_op d_add (v_lst (a_cons v_int a_nil)) v_var))
    (s_seq (s_setF (v_cb c_sum (a_cons (v_lc (vs := [4]) (js := [4]) (i_range3 (a_cons (v_op d_mod (v_cb c_len (a_cons v_var a_nil)) v_int) (a_cons (v_cb c_len (a_cons v_var a_nil)) (a_cons v_int a_nil)))) g_name (by decide) t_yes (v_op d_sub (v_op d_ix v_var (v_op d_add v_var v_int)) (v_op d_ix v_var v_var))) a_nil)))
    (s_ret (v_op d_sub (v_op d_add (v_op d_ix v_var (v_un d_neg v_int)) (v_op d_div v_var v_int)) v_var))))⟩
theorem ok_gives_halves (T : Txt K mg base A) : FnOk P w K mg base (L2.CX P w) 1 A.f_gives_halves A.d_gives_halves p_gives_halves (spF (GG K A) F_gives_halves) :=
  fn_ok (k := 0) rfl rfl T.F_gives_halves sc_gives_halves fun cdv Ar outer s H E hr => ⟨_,
    (pss_cons (ps_set (i := 2) sc_gives_halves.nd rfl (by first | exact Or.inl rfl | exact Or.inr rfl) (pe_op or_add (pe_op or_add (pe_lst (pa_cons pe_int pa_nil)) (pv 1)) (pe_lst (pa_cons (pe_op op_sub (pe_callB call_len (by rfl) T.z_len (by decide +kernel) (pa_cons (pv 0) pa_nil)) pe_int) pa_nil))))
    (pss_cons (ps_set (i := 3) sc_gives_halves.nd rfl (by first | exact Or.inl rfl | exact Or.inr rfl) (pe_lst (pa_cons pe_int (pa_cons pe_int (pa_cons pe_int pa_nil)))))
    (pss_cons (ps_for (passes_of rfl) rfl (pi_range3 (by rfl) T.z_range (pa_cons pe_int (pa_cons (pe_op op_sub (pe_callB call_len (by rfl) T.z_len (by decide +kernel) (pa_cons (pv 2) pa_nil)) pe_int) (pa_cons pe_int pa_nil)))) (pg_name (i := 4) sc_gives_halves.nd rfl (by first | exact Or.inl rfl | exact Or.inr rfl)) (pss_one (ps_setLc (i := 3) (own := [("one", 5), ("more", 6), ("less", 7)]) rfl sc_gives_halves.nd rfl rfl (sw_true rfl rfl rfl (by decide +kernel)) (pi_zip3 (by rfl) T.z_zip (pa_cons (pv 3) (pa_cons (pe_ix ix_seq (pv 0) (pe_ix ix_seq (pv 2) (pe_op or_add (pv 4) pe_int) (fun _ _ => rfl)) (fun _ _ => rfl)) (pa_cons (pe_ix ix_seq (pv 0) (pe_ix ix_seq (pv 2) (pv 4) (fun _ _ => rfl)) (fun _ _ => rfl)) pa_nil)))) (blkOk_by (N := n_gives_halves) (sc := defScope (s_gives_halves)) (by decide +kernel)) (fun _ _ _ _ _ => (pg_tl rfl (pgs_cons (pg_name (i := 5) sc_gives_halves.nd rfl (by first | exact Or.inl rfl | exact Or.inr rfl)) (pgs_cons (pg_name (i := 6) sc_gives_halves.nd rfl (by first | exact Or.inl rfl | exact Or.inr rfl)) (pgs_cons (pg_name (i := 7) sc_gives_halves.nd rfl (by first | exact Or.inl rfl | exact Or.inr rfl)) pgs_nil))))) (fun _ _ _ _ _ => pts_nil) (fun _ _ _ _ _ => (pe_op op_sub (pe_op or_add (pv 5) (pv 6)) (pv 7))))))
    (pss_one (ps_ret (pe_cmpR (or_eq hr.units) (pe_lc (own := [("one", 5)]) rfl sc_gives_halves.nd (pi_any (pv 3)) (blkOk_by (N := n_gives_halves) (sc := defScope (s_gives_halves)) (by decide +kernel)) (fun _ _ _ _ _ => (pg_name (i := 5) sc_gives_halves.nd rfl (by first | exact Or.inl rfl | exact Or.inr rfl))) (fun _ _ _ _ _ => pts_nil) (fun _ _ _ _ _ => (pe_op or_mul pe_int (pv 5)))) (pe_ix ix_seq (pv 0) (pe_un un_neg pe_int) (fun _ _ => rfl)) (nomark _))))))),
    (s_seq (s_setF (v_op d_add (v_op d_add (v_lst (a_cons v_int a_nil)) v_var) (v_lst (a_cons (v_op d_sub (v_cb c_len (a_cons v_var a_nil)) v_int) a_nil))))
    (s_seq (s_setF (v_lst (a_cons v_int (a_cons v_int (a_cons v_int a_nil)))))
    (s_seq (s_for (i_range3 (a_cons v_int (a_cons (v_op d_sub (v_cb c_len (a_cons v_var a_nil)) v_int) (a_cons v_int a_nil)))) g_name (s_setF (v_lc (vs := [5, 6, 7]) (i_zip3 (a_cons v_var (a_cons (v_op d_ix v_var (v_op d_ix v_var (v_op d_add v_var v_int))) (a_cons (v_op d_ix v_var (v_op d_ix v_var v_var)) a_nil)))) (g_tl (gs_cons g_name (gs_cons g_name (gs_cons g_name gs_nil)))) (by decide) t_yes (v_op d_sub (v_op d_add v_var v_var) v_var))))
    (s_ret (v_op d_eq (v_lc (vs := [5]) (js := [5]) (i_any v_var) g_name (by decide) t_yes (v_op d_mul v_int v_var)) (v_op d_ix v_var (v_un d_neg v_int)))))))⟩
theorem okN_gives_halves (T : Txt K mg base A) : FnOk P w K mg base (L2N.CX P w) 1 A.f_gives_halves A.d_gives_halves p_gives_halves (spF (GG K A) F_gives_halves) :=
  fn_okN (k := 0) rfl rfl T.F_gives_halves sc_gives_halves fun cdv Ar outer s H E hr => ⟨_,
    (pss_cons (ps_set (i := 2) sc_gives_halves.nd rfl (by first | exact Or.inl rfl | exact Or.inr rfl) (pe_op or_add (pe_op or_add (pe_lst (pa_cons pe_int pa_nil)) (pv 1)) (pe_lst (pa_cons (pe_op op_sub (pe_callB call_len (by rfl) T.z_len (by decide +kernel) (pa_cons (pv 0) pa_nil)) pe_int) pa_nil))))
    (pss_cons (ps_set (i := 3) sc_gives_halves.nd rfl (by first | exact Or.inl rfl | exact Or.inr rfl) (pe_lst (pa_cons pe_int (pa_cons pe_int (pa_cons pe_int pa_nil)))))
    (pss_cons (ps_for (passes_of rfl) rfl (pi_range3 (by rfl) T.z_range (pa_cons pe_int (pa_cons (pe_op op_sub (pe_callB call_len (by rfl) T.z_len (by decide +kernel) (pa_cons (pv 2) pa_nil)) pe_int) (pa_cons pe_int pa_nil)))) (pg_name (i := 4) sc_gives_halves.nd rfl (by first | exact Or.inl rfl | exact Or.inr rfl)) (pss_one (ps_setLc (i := 3) (own := [("one", 5), ("more", 6), ("less", 7)]) rfl sc_gives_halves.nd rfl rfl (sw_true rfl rfl rfl (by decide +kernel)) (pi_zip3 (by rfl) T.z_zip (pa_cons (pv 3) (pa_cons (pe_ix ix_seq (pv 0) (pe_ix ix_seq (pv 2) (pe_op or_add (pv 4) pe_int) (fun _ _ => rfl)) (fun _ _ => rfl)) (pa_cons (pe_ix ix_seq (pv 0) (pe_ix ix_seq (pv 2) (pv 4) (fun _ _ => rfl)) (fun _ _ => rfl)) pa_nil)))) (blkOk_by (N := n_gives_halves) (sc := defScope (s_gives_halves)) (by decide +kernel)) (fun _ _ _ _ _ => (pg_tl rfl (pgs_cons (pg_name (i := 5) sc_gives_halves.nd rfl (by first | exact Or.inl rfl | exact Or.inr rfl)) (pgs_cons (pg_name (i := 6) sc_gives_halves.nd rfl (by first | exact Or.inl rfl | exact Or.inr rfl)) (pgs_cons (pg_name (i := 7) sc_gives_halves.nd rfl (by first | exact Or.inl rfl | exact Or.inr rfl)) pgs_nil))))) (fun _ _ _ _ _ => pts_nil) (fun _ _ _ _ _ => (pe_op op_sub (pe_op or_add (pv 5) (pv 6)) (pv 7))))))
    (pss_one (ps_ret (pe_cmpR (or_eq hr.units) (pe_lc (own := [("one", 5)]) rfl sc_gives_halves.nd (pi_any (pv 3)) (blkOk_by (N := n_gives_halves) (sc := defScope (s_gives_halves)) (by decide +kernel)) (fun _ _ _ _ _ => (pg_name (i := 5) sc_gives_halves.nd rfl (by first | exact Or.inl rfl | exact Or.inr rfl))) (fun _ _ _ _ _ => pts_nil) (fun _ _ _ _ _ => (pe_op or_mul pe_int (pv 5)))) (pe_ix ix_seq (pv 0) (pe_un un_neg pe_int) (fun _ _ => rfl)) (nomark _))))))),
    (s_seq (s_setF (v_op d_add (v_op d_add (v_lst (a_cons v_int a_nil)) v_var) (v_lst (a_cons (v_op d_sub (v_cb c_len (a_cons v_var a_nil)) v_int) a_nil))))
    (s_seq (s_setF (v_lst (a_cons v_int (a_cons v_int (a_cons v_int a_nil)))))
    (s_seq (s_for (i_range3 (a_cons v_int (a_cons (v_op d_sub (v_cb c_len (a_cons v_var a_nil)) v_int) (a_cons v_int a_nil)))) g_name (s_setF (v_lc (vs := [5, 6, 7]) (i_zip3 (a_cons v_var (a_cons (v_op d_ix v_var (v_op d_ix v_var (v_op d_add v_var v_int))) (a_cons (v_op d_ix v_var (v_op d_ix v_var v_var)) a_nil)))) (g_tl (gs_cons g_name (gs_cons g_name (gs_cons g_name gs_nil)))) (by decide) t_yes (v_op d_sub (v_op d_add v_var v_var) v_var))))
    (s_ret (v_op d_eq (v_lc (vs := [5]) (js := [5]) (i_any v_var) g_name (by decide) t_yes (v_op d_mul v_int v_var)) (v_op d_ix v_var (v_un d_neg v_int)))))))⟩
theorem ok_Thread_stood (T : Txt K mg base A) : FnOk P w K mg base (L2.CX P w) 1 A.f_Thread_stood A.d_Thread_stood p_Thread_stood (spF (GG K A) F_Thread_stood) :=
  fn_ok (k := 0) rfl rfl T.F_Thread_stood sc_Thread_stood fun cdv Ar outer s H E hr => ⟨_,
    (pss_one (ps_ret (pe_tup (pa_cons (pe_callTy call_list_of (by rfl) T.z_list (by decide +kernel) (pa_cons (pe_fld (pv 0) rfl) pa_nil)) (pa_cons (pe_fld (pv 0) rfl) pa_nil))))),
    (s_ret (v_tup (a_cons (v_cb c_list (a_cons (v_fld T.fo_spots v_var) a_nil)) (a_cons (v_fld T.fo_lead v_var) a_nil))))⟩
theorem okH_Thread_stood (T : Txt K mg base A) : L2H.FnH P w K mg base (L2.CX P w) 1 A.f_Thread_stood A.d_Thread_stood p_Thread_stood (spF (GG K A) F_Thread_stood) :=
  fn_okH (k := 0) rfl rfl T.F_Thread_stood sc_Thread_stood fun cdv Ar outer s H E p hot hr => ⟨_,
    (pss_one (ps_ret (pe_tup (pa_cons (pe_callTy call_list_of (by rfl) T.z_list (by decide +kernel) (pa_cons (pe_fld (pv 0) rfl) pa_nil)) (pa_cons (pe_fld (pv 0) rfl) pa_nil))))),
    (s_ret (v_tup (a_cons (v_cb c_list (a_cons (v_fld T.fo_spots v_var) a_nil)) (a_cons (v_fld T.fo_lead v_var) a_nil))))⟩
theorem okN_Thread_stood (T : Txt K mg base A) : FnOk P w K mg base (L2N.CX P w) 1 A.f_Thread_stood A.d_Thread_stood p_Thread_stood (spF (GG K A) F_Thread_stood) :=
  fn_okN (k := 0) rfl rfl T.F_Thread_stood sc_Thread_stood fun cdv Ar outer s H E hr => ⟨_,
    (pss_one (ps_ret (pe_tup (pa_cons (pe_callTy call_list_of (by rfl) T.z_list (by decide +kernel) (pa_cons (pe_fld (pv 0) rfl) pa_nil)) (pa_cons (pe_fld (pv 0) rfl) pa_nil))))),
    (s_ret (v_tup (a_cons (v_cb c_list (a_cons (v_fld T.fo_spots v_var) a_nil)) (a_cons (v_fld T.fo_lead v_var) a_nil))))⟩
theorem ok_law_box (T : Txt K mg base A) : FnOk P w K mg base (L2.CX P w) 1 A.f_law_box A.d_law_box p_law_box (spF (GG K A) F_law_box) :=
  fn_ok (k := 0) rfl rfl T.F_law_box sc_law_box fun cdv Ar outer s H E hr => ⟨_,
    (pss_cons (ps_setLc (i := 1) (own := [("_law_cell", 2)]) rfl sc_law_box.nd rfl rfl (sw_true rfl rfl rfl (by decide +kernel)) (pi_any (pv 0)) (blkOk_by (N := n_law_box) (sc := defScope (s_law_box)) (by decide +kernel)) (fun _ _ _ _ _ => (pg_name (i := 2) sc_law_box.nd rfl (by first | exact Or.inl rfl | exact Or.inr rfl))) (fun _ _ _ _ _ => (pts_one (pt_cmpR op_ge (pv 2) (pe_op op_pow pe_int pe_int) (nomark _)))) (fun _ _ _ _ _ => (pv 2)))
    (pss_one (ps_ret (pe_lst (pa_cons (pv 1) (pa_cons pe_int (pa_cons (pe_lc (own := [("_law_cell", 2)]) rfl sc_law_box.nd (pi_any (pv 0)) (blkOk_by (N := n_law_box) (sc := defScope (s_law_box)) (by decide +kernel)) (fun _ _ _ _ _ => (pg_name (i := 2) sc_law_box.nd rfl (by first | exact Or.inl rfl | exact Or.inr rfl))) (fun _ _ _ _ _ => (pts_one (pt_cmpR op_lt (pv 2) (pe_op op_pow pe_int pe_int) (nomark _)))) (fun _ _ _ _ _ => (pv 2))) (pa_cons pe_int pa_nil)))))))),
    (s_seq (s_setF (v_put (v_lc (vs := [2]) (js := [2]) (i_any v_var) g_name (by decide) (t_test (v_op d_ge v_var (v_op d_pow v_int v_int))) v_var)))
    (s_ret (v_put (v_lst (a_cons v_var (a_cons v_int (a_cons (v_lc (vs := [2]) (js := [2]) (i_any v_var) g_name (by decide) (t_test (v_op d_lt v_var (v_op d_pow v_int v_int))) v_var) (a_cons v_int a_nil))))))))⟩
theorem ok_law_mixed (T : Txt K mg base A) : FnOk P w K mg base (L2.CX P w) 1 A.f_law_mixed A.d_law_mixed p_law_mixed (spF (GG K A) F_law_mixed) :=
  fn_ok (k := 0) rfl rfl T.F_law_mixed sc_law_mixed fun cdv Ar outer s H E hr => ⟨_,
    (pss_cons (ps_set (i := 2) sc_law_mixed.nd rfl (by first | exact Or.inl rfl | exact Or.inr rfl) (pe_op op_modN (pe_op op_pow (pe_op or_add (pe_op or_add (pe_op or_add (pe_op op_modN (pv 0) pe_int) (pe_op or_mul (pe_op or_mul pe_int (pv 1)) (pv 1))) (pe_op or_mul pe_int (pv 1))) pe_int) pe_int) pe_int))
    (pss_one (ps_ret (pe_op op_modN (pe_op or_add (pe_op or_mul (pv 2) pe_int) (pe_op or_mul pe_int (pv 1))) pe_int)))),
    (s_seq (s_setF (v_op d_mod (v_op d_pow (v_op d_add (v_op d_add (v_op d_add (v_op d_mod v_var v_int) (v_op d_mul (v_op d_mul v_int v_var) v_var)) (v_op d_mul v_int v_var)) v_int) v_int) v_int))
    (s_ret (v_op d_mod (v_op d_add (v_op d_mul v_var v_int) (v_op d_mul v_int v_var)) v_int)))⟩
theorem ok_law_odd (T : Txt K mg base A) : FnOk P w K mg base (L2.CX P w) 1 A.f_law_odd A.d_law_odd p_law_odd (spF (GG K A) F_law_odd) :=
  fn_ok (k := 0) rfl rfl T.F_law_odd sc_law_odd fun cdv Ar outer s H E hr => ⟨_,
    (pss_cons (ps_setLc (i := 1) (own := [("_law_letter", 2)]) rfl sc_law_odd.nd rfl rfl (sw_true rfl rfl rfl (by decide +kernel)) (pi_any pe_str) (blkOk_by (N := n_law_odd) (sc := defScope (s_law_odd)) (by decide +kernel)) (fun _ _ _ _ _ => (pg_name (i := 2) sc_law_odd.nd rfl (by first | exact Or.inl rfl | exact Or.inr rfl))) (fun _ _ _ _ _ => (pts_one (pt_cmpR (or_eq hr.units) (pe_op op_modN (pe_bm PySem.F.plainAttrs_str PySem.F.slot_str_count PySem.F.type_str_count mt_count (pv 0) (pa_cons (pv 2) pa_nil)) pe_int) pe_int (nomark _)))) (fun _ _ _ _ _ => (pv 2)))
    (pss_one (ps_ret (pe_ix ix_seq (pe_op or_add (pv 1) (pe_lst (pa_cons pe_str pa_nil))) pe_int (fun _ _ => rfl))))),
    (s_seq (s_setF (v_lc (vs := [2]) (js := [2]) (i_any v_str) g_name (by decide) (t_test (v_op d_eq (v_op d_mod (v_ms ms_count v_var (a_cons v_var a_nil)) v_int) v_int)) v_var))
    (s_ret (v_op d_ix (v_op d_add v_var (v_lst (a_cons v_str a_nil))) v_int)))⟩
theorem ok_law_bad (T : Txt K mg base A) : FnOk P w K mg base (L2.CX P w) 1 A.f_law_bad A.d_law_bad p_law_bad (spF (GG K A) F_law_bad) :=
  fn_ok (k := 0) rfl rfl T.F_law_bad sc_law_bad fun cdv Ar outer s H E hr => ⟨_,
    (pss_cons (ps_for (passes_of rfl) rfl (pi_enumS (by rfl) T.z_enumerate (pa_cons (pv 0) pa_nil)) (pg_tl rfl (pgs_cons (pg_name (i := 1) sc_law_bad.nd rfl (by first | exact Or.inl rfl | exact Or.inr rfl)) (pgs_cons (pg_name (i := 2) sc_law_bad.nd rfl (by first | exact Or.inl rfl | exact Or.inr rfl)) pgs_nil))) (pss_one (ps_if (PW.pt (pw_or (pt_cmpR (or_eq hr.units) (pv 1) pe_int (nomark _)) (pw_or1 (pt_cmpR (or_notin (unit65 hr)) (pv 2) pe_str (by with_unfolding_all rfl))))) (pss_one (ps_ret (pv 1))) pss_nil)))
    (pss_one (ps_ret (pe_un un_neg pe_int)))),
    (s_seq (s_for (i_enumS (a_cons v_var a_nil)) (g_tl (gs_cons g_name (gs_cons g_name gs_nil))) (s_if (t_or (t_test (v_op d_eq v_var v_int)) (t_test (v_op d_notin v_var v_str))) s_retV s_skip))
    (s_ret (v_un d_neg v_int)))⟩
theorem ok_all_cuts_2 (T : Txt K mg base A) : FnOk P w K mg base (L2.CX P w) 2 A.f_all_cuts_2 A.d_all_cuts_2 p_all_cuts_2 (spF (GG K A) F_all_cuts_2) :=
  fn_ok (k := 1) rfl rfl T.F_all_cuts_2 sc_all_cuts_2 fun cdv Ar outer s H E hr => ⟨_,
    (pss_cons (ps_if (pt_cmpR (or_eq hr.units) (pv 2) pe_int (nomark _)) (pss_one (ps_ret (pe_lst (pa_cons (pe_lst pa_nil) pa_nil)))) pss_nil)
    (pss_cons (ps_set (i := 3) sc_all_cuts_2.nd rfl (by first | exact Or.inl rfl | exact Or.inr rfl) (pe_lst pa_nil))
    (pss_cons (ps_for (passes_of rfl) rfl (pi_range2 (by rfl) T.z_range (pa_cons (pv 0) (pa_cons (pe_op or_add (pv 1) pe_int) pa_nil))) (pg_name (i := 4) sc_all_cuts_2.nd rfl (by first | exact Or.inl rfl | exact Or.inr rfl)) (pss_one (ps_for (passes_of rfl) rfl (pi_any (pe_callS (ok_all_cuts_1 T) hr rfl T.g_all_cuts_1 T.F_all_cuts_1.kp T.b_all_cuts_1 (fun σ => passAt (takes_of rfl rfl rfl rfl) σ) (by exact (pa_cons (pe_op or_add (pv 4) pe_int) (pa_cons (pv 1) (pa_cons (pe_op op_sub (pv 2) pe_int) pa_nil)))))) (pg_name (i := 5) sc_all_cuts_2.nd rfl (by first | exact Or.inl rfl | exact Or.inr rfl)) (pss_one (ps_expr (pe_bm PySem.F.plainAttrs_list PySem.F.slot_list_append PySem.F.type_list_append mt_append (pv 3) (pa_cons (pe_op or_add (pe_lst (pa_cons (pv 4) pa_nil)) (pv 5)) pa_nil)))))))
    (pss_one (ps_ret (pv 3)))))),
    (s_seq (s_if (t_test (v_op d_eq v_var v_int)) (s_ret (v_lst (a_cons (v_lst a_nil) a_nil))) s_skip)
    (s_seq (s_set (v_lst a_nil))
    (s_seq (s_for (i_range2 (a_cons v_var (a_cons (v_op d_add v_var v_int) a_nil))) g_name (s_for (i_any (v_call (a_cons (v_op d_add v_var v_int) (a_cons v_var (a_cons (v_op d_sub v_var v_int) a_nil))))) g_name (s_mt m_append (a_cons (v_op d_add (v_lst (a_cons v_var a_nil)) v_var) a_nil))))
    s_retV)))⟩
theorem okN_all_cuts_2 (T : Txt K mg base A) : FnOk P w K mg base (L2N.CX P w) 2 A.f_all_cuts_2 A.d_all_cuts_2 p_all_cuts_2 (spF (GG K A) F_all_cuts_2) :=
  fn_okN (k := 1) rfl rfl T.F_all_cuts_2 sc_all_cuts_2 fun cdv Ar outer s H E hr => ⟨_,
    (pss_cons (ps_if (pt_cmpR (or_eq hr.units) (pv 2) pe_int (nomark _)) (pss_one (ps_ret (pe_lst (pa_cons (pe_lst pa_nil) pa_nil)))) pss_nil)
    (pss_cons (ps_set (i := 3) sc_all_cuts_2.nd rfl (by first | exact Or.inl rfl | exact Or.inr rfl) (pe_lst pa_nil))
    (pss_cons (ps_for (passes_of rfl) rfl (pi_range2 (by rfl) T.z_range (pa_cons (pv 0) (pa_cons (pe_op or_add (pv 1) pe_int) pa_nil))) (pg_name (i := 4) sc_all_cuts_2.nd rfl (by first | exact Or.inl rfl | exact Or.inr rfl)) (pss_one (ps_for (passes_of rfl) rfl (pi_any (pe_callS (okN_all_cuts_1 T) hr rfl T.g_all_cuts_1 T.F_all_cuts_1.kp T.b_all_cuts_1 (fun σ => L2N.passAt (L2N.takes_of rfl rfl rfl rfl) σ) (by exact (pa_cons (pe_op or_add (pv 4) pe_int) (pa_cons (pv 1) (pa_cons (pe_op op_sub (pv 2) pe_int) pa_nil)))))) (pg_name (i := 5) sc_all_cuts_2.nd rfl (by first | exact Or.inl rfl | exact Or.inr rfl)) (pss_one (ps_expr (pe_bm PySem.F.plainAttrs_list PySem.F.slot_list_append PySem.F.type_list_append mt_append (pv 3) (pa_cons (pe_op or_add (pe_lst (pa_cons (pv 4) pa_nil)) (pv 5)) pa_nil)))))))
    (pss_one (ps_ret (pv 3)))))),
    (s_seq (s_if (t_test (v_op d_eq v_var v_int)) (s_ret (v_lst (a_cons (v_lst a_nil) a_nil))) s_skip)
    (s_seq (s_set (v_lst a_nil))
    (s_seq (s_for (i_range2 (a_cons v_var (a_cons (v_op d_add v_var v_int) a_nil))) g_name (s_for (i_any (v_call (a_cons (v_op d_add v_var v_int) (a_cons v_var (a_cons (v_op d_sub v_var v_int) a_nil))))) g_name (s_mt m_append (a_cons (v_op d_add (v_lst (a_cons v_var a_nil)) v_var) a_nil))))
    s_retV)))⟩
theorem ok_Thread_done (T : Txt K mg base A) : FnOk P w K mg base (L2.CX P w) 2 A.f_Thread_done A.d_Thread_done p_Thread_done (spF (GG K A) F_Thread_done) :=
  fn_ok (k := 1) rfl rfl T.F_Thread_done sc_Thread_done fun cdv Ar outer s H E hr => ⟨_,
    (pss_cons (ps_expr (pe_bm PySem.F.plainAttrs_list PySem.F.slot_list_append PySem.F.type_list_append mt_append (pe_fld (pv 0) rfl) (pa_cons (by exact (pe_m0 (pv 0) T.cl_Thread T.mt_Thread_stood (ok_Thread_stood T) hr T.B_Thread_stood_1_ (fun σ => passAt (takes_of rfl rfl rfl rfl) σ))) pa_nil)))
    (pss_cons (ps_fld (pv 0) (pe_lst pa_nil) (by first | rfl | exact sw_any rfl))
    (pss_cons (ps_fld (pv 0) (pe_callB (CallR.or cr_sorted cr_sortedQ) (by rfl) T.z_sorted (by decide +kernel) (pa_cons (pv 1) pa_nil)) (by first | rfl | exact sw_any rfl))
    (pss_one (ps_fld (pv 0) (pv 2) (by first | rfl | exact sw_any rfl)))))),
    (s_seq (s_drop (v_mtX m_append (v_fld T.fo_past v_var) (a_cons (v_meth (c := 4) (m := "stood") (dd := []) nf_Thread_stood rfl v_var a_nil a_nil) a_nil)))
    (s_seq (s_fldS T.fo_later v_var (v_lst a_nil))
    (s_seq (s_fldS T.fo_spots v_var (v_cb c_sortedX (a_cons v_var a_nil)))
    (s_fldS T.fo_lead v_var v_var))))⟩
theorem okH_Thread_done (T : Txt K mg base A) : L2H.FnH P w K mg base (L2.CX P w) 2 A.f_Thread_done A.d_Thread_done p_Thread_done (spF (GG K A) F_Thread_done) :=
  fn_okH (k := 1) rfl rfl T.F_Thread_done sc_Thread_done fun cdv Ar outer s H E p hot hr => ⟨_,
    (pss_cons (ps_expr (pe_bm PySem.F.plainAttrs_list PySem.F.slot_list_append PySem.F.type_list_append mt_append (pe_fld (pv 0) rfl) (pa_cons (by exact (pe_m0H (pv 0) T.cl_Thread T.mt_Thread_stood (okH_Thread_stood T) hr (hot_in hot) T.B_Thread_stood_1_ (fun σ => passAt (takes_of rfl rfl rfl rfl) σ))) pa_nil)))
    (pss_cons (ps_fld (pv 0) (pe_lst pa_nil) (by first | rfl | exact sw_any rfl))
    (pss_cons (ps_fld (pv 0) (pe_callB (CallR.or cr_sorted cr_sortedQ) (by rfl) T.z_sorted (by decide +kernel) (pa_cons (pv 1) pa_nil)) (by first | rfl | exact sw_any rfl))
    (pss_one (ps_fld (pv 0) (pv 2) (by first | rfl | exact sw_any rfl)))))),
    (s_seq (s_drop (v_mtX m_append (v_fld T.fo_past v_var) (a_cons (v_meth (c := 4) (m := "stood") (dd := []) nf_Thread_stood rfl v_var a_nil a_nil) a_nil)))
    (s_seq (s_fldS T.fo_later v_var (v_lst a_nil))
    (s_seq (s_fldS T.fo_spots v_var (v_cb c_sortedX (a_cons v_var a_nil)))
    (s_fldS T.fo_lead v_var v_var))))⟩
theorem okN_Thread_done (T : Txt K mg base A) : FnOk P w K mg base (L2N.CX P w) 2 A.f_Thread_done A.d_Thread_done p_Thread_done (spF (GG K A) F_Thread_done) :=
  fn_okN (k := 1) rfl rfl T.F_Thread_done sc_Thread_done fun cdv Ar outer s H E hr => ⟨_,
    (pss_cons (ps_expr (pe_bm PySem.F.plainAttrs_list PySem.F.slot_list_append PySem.F.type_list_append mt_append (pe_fld (pv 0) rfl) (pa_cons (by exact (pe_m0 (pv 0) T.cl_Thread T.mt_Thread_stood (okN_Thread_stood T) hr T.B_Thread_stood_1_ (fun σ => L2N.passAt (L2N.takes_of rfl rfl rfl rfl) σ))) pa_nil)))
    (pss_cons (ps_fld (pv 0) (pe_lst pa_nil) (by first | rfl | exact sw_any rfl))
    (pss_cons (ps_fld (pv 0) (pe_callB (CallR.or cr_sorted cr_sortedQ) (by rfl) T.z_sorted (by decide +kernel) (pa_cons (pv 1) pa_nil)) (by first | rfl | exact sw_any rfl))
    (pss_one (ps_fld (pv 0) (pv 2) (by first | rfl | exact sw_any rfl)))))),
    (s_seq (s_drop (v_mtX m_append (v_fld T.fo_past v_var) (a_cons (v_meth (c := 4) (m := "stood") (dd := []) nf_Thread_stood rfl v_var a_nil a_nil) a_nil)))
    (s_seq (s_fldS T.fo_later v_var (v_lst a_nil))
    (s_seq (s_fldS T.fo_spots v_var (v_cb c_sortedX (a_cons v_var a_nil)))
    (s_fldS T.fo_lead v_var v_var))))⟩
theorem ok_Thread_pieces (T : Txt K mg base A) : FnOk P w K mg base (L2.CX P w) 2 A.f_Thread_pieces A.d_Thread_pieces p_Thread_pieces (spF (GG K A) F_Thread_pieces) :=
  fn_ok (k := 1) rfl rfl T.F_Thread_pieces sc_Thread_pieces fun cdv Ar outer s H E hr => ⟨_,
    (pss_one (ps_ret (pe_callS (ok_pieces_of T) hr rfl T.g_pieces_of T.F_pieces_of.kp T.b_pieces_of (fun σ => passAt (takes_of rfl rfl rfl rfl) σ) (by exact (pa_cons (pe_fld (pv 0) rfl) (pa_cons (pe_fld (pv 0) rfl) pa_nil)))))),
    (s_ret (v_call (a_cons (v_fld T.fo_beads v_var) (a_cons (v_fld T.fo_spots v_var) a_nil))))⟩
theorem ok_law_take (T : Txt K mg base A) : FnOk P w K mg base (L2.CX P w) 2 A.f_law_take A.d_law_take p_law_take (spF (GG K A) F_law_take) :=
  fn_ok (k := 1) rfl rfl T.F_law_take sc_law_take fun cdv Ar outer s H E hr => ⟨_,
    (pss_cons (ps_asg (pe_op or_add (pe_ix ix_seq (pv 0) pe_int (fun _ _ => rfl)) pe_int) (pg_sub (pv 0) pe_int set_list))
    (pss_cons (ps_if (PW.pt (pw_and (pt_cmpR (or_eq hr.units) (pe_ix ix_seq (pv 0) pe_int (fun _ _ => rfl)) pe_int (nomark _)) (pw_and1 (pt_cmpR op_gt (pe_callB call_len (by rfl) T.z_len (by decide +kernel) (pa_cons (pe_ix ix_seq (pv 0) pe_int (fun _ _ => rfl)) pa_nil)) pe_int (nomark _))))) (pss_one (ps_asg (pe_bm PySem.F.plainAttrs_list PySem.F.slot_list_pop PySem.F.type_list_pop mt_popAt (pe_ix ix_seq (pv 0) pe_int (fun _ _ => rfl)) (pa_cons pe_int pa_nil)) (pg_sub (pv 0) pe_int set_list))) pss_nil)
    (pss_cons (ps_if (pt_cmpR op_gt (pe_ix ix_seq (pv 0) pe_int (fun _ _ => rfl)) pe_int (nomark _)) (pss_cons (ps_set (i := 3) sc_law_take.nd rfl (by first | exact Or.inl rfl | exact Or.inr rfl) (pe_op op_modN (pe_ix ix_seq (pv 0) pe_int (fun _ _ => rfl)) (pv 1)))
    (pss_cons (ps_asg (pe_op or_div (pe_ix ix_seq (pv 0) pe_int (fun _ _ => rfl)) (pv 1)) (pg_sub (pv 0) pe_int set_list))
    (pss_one (ps_ret (pv 3))))) pss_nil)
    (pss_cons (ps_set (i := 2) sc_law_take.nd rfl (by first | exact Or.inl rfl | exact Or.inr rfl) (pe_op or_mul pe_int (pe_ix ix_seq (pv 0) pe_int (fun _ _ => rfl))))
    (pss_cons (ps_if (pt_cmpR op_gt (pe_callB call_len (by rfl) T.z_len (by decide +kernel) (pa_cons (pe_ix ix_seq (pv 0) pe_int (fun _ _ => rfl)) pa_nil)) pe_int (nomark _)) (pss_one (ps_set (i := 2) sc_law_take.nd rfl (by first | exact Or.inl rfl | exact Or.inr rfl) (pe_ix ix_seq (pe_ix ix_seq (pv 0) pe_int (fun _ _ => rfl)) (pe_op op_modN (pe_ix ix_seq (pv 0) pe_int (fun _ _ => rfl)) (pe_callB call_len (by rfl) T.z_len (by decide +kernel) (pa_cons (pe_ix ix_seq (pv 0) pe_int (fun _ _ => rfl)) pa_nil))) (fun _ _ => rfl)))) pss_nil)
    (pss_cons (ps_set (i := 3) sc_law_take.nd rfl (by first | exact Or.inl rfl | exact Or.inr rfl) pe_int)
    (pss_cons (ps_set (i := 4) sc_law_take.nd rfl (by first | exact Or.inl rfl | exact Or.inr rfl) pe_int)
    (pss_cons (ps_while (passes_of rfl) (pt_cmpR op_lt (pv 4) (pv 1) (nomark _)) (pss_cons (ps_set (i := 3) sc_law_take.nd rfl (by first | exact Or.inl rfl | exact Or.inr rfl) (pe_op or_add (pe_op or_mul (pv 3) pe_int) (pe_callS (ok_law_mixed T) hr rfl T.g_law_mixed T.F_law_mixed.kp T.b_law_mixed (fun σ => passAt (takes_of rfl rfl rfl rfl) σ) (by exact (pa_cons (pv 2) (pa_cons (pe_op or_add (pe_ix ix_seq (pv 0) pe_int (fun _ _ => rfl)) (pe_op or_mul pe_int (pe_op op_modN (pv 3) pe_int))) pa_nil))))))
    (pss_one (ps_set (i := 4) sc_law_take.nd rfl (by first | exact Or.inl rfl | exact Or.inr rfl) (pe_op or_mul (pv 4) pe_int)))))
    (pss_one (ps_ret (pe_op op_modN (pv 3) (pv 1)))))))))))),
    (s_seq (s_setI (v_op d_add (v_op d_ix v_var v_int) v_int) v_int)
    (s_seq (s_if (t_and (t_test (v_op d_eq (v_op d_ix v_var v_int) v_int)) (t_test (v_op d_gt (v_cb c_len (a_cons (v_op d_ix v_var v_int) a_nil)) v_int))) (s_setI (v_mtX m_popAt (v_op d_ix v_var v_int) (a_cons v_int a_nil)) v_int) s_skip)
    (s_seq (s_if (t_test (v_op d_gt (v_op d_ix v_var v_int) v_int)) (s_seq (s_setF (v_op d_mod (v_op d_ix v_var v_int) v_var))
    (s_seq (s_setI (v_op d_div (v_op d_ix v_var v_int) v_var) v_int)
    s_retV)) s_skip)
    (s_seq (s_setF (v_op d_mul v_int (v_op d_ix v_var v_int)))
    (s_seq (s_if (t_test (v_op d_gt (v_cb c_len (a_cons (v_op d_ix v_var v_int) a_nil)) v_int)) (s_setF (v_op d_ix (v_op d_ix v_var v_int) (v_op d_mod (v_op d_ix v_var v_int) (v_cb c_len (a_cons (v_op d_ix v_var v_int) a_nil))))) s_skip)
    (s_seq (s_setF v_int)
    (s_seq (s_setF v_int)
    (s_seq (s_while (t_test (v_op d_lt v_var v_var)) (s_seq (s_setF (v_op d_add (v_op d_mul v_var v_int) (v_call (a_cons v_var (a_cons (v_op d_add (v_op d_ix v_var v_int) (v_op d_mul v_int (v_op d_mod v_var v_int))) a_nil)))))
    (s_setF (v_op d_mul v_var v_int))))
    (s_ret (v_op d_mod v_var v_var))))))))))⟩
theorem ok_ask_beads (T : Txt K mg base A) : FnOk P w K mg base (L2.CX P w) 3 A.f_ask_beads A.d_ask_beads p_ask_beads (spF (GG K A) F_ask_beads) :=
  fn_ok (k := 2) rfl rfl T.F_ask_beads sc_ask_beads fun cdv Ar outer s H E hr => ⟨_,
    (pss_one (ps_for (passes_of rfl) rfl (pi_enumS (by rfl) T.z_enumerate (pa_cons (pv 0) pa_nil)) (pg_tl rfl (pgs_cons (pg_name (i := 1) sc_ask_beads.nd rfl (by first | exact Or.inl rfl | exact Or.inr rfl)) (pgs_cons (pg_name (i := 2) sc_ask_beads.nd rfl (by first | exact Or.inl rfl | exact Or.inr rfl)) pgs_nil))) (pss_one (ps_if (PW.pt (pw_or (pt_cmpR (or_eq hr.units) (pv 1) (pe_glob (v := .int 24) rfl T.m_MOST_BEADS ⟨_, rfl⟩) (nomark _)) (pw_or1 (pt_cmpR (or_notin (unit65 hr)) (pv 2) (pe_glob (v := .str "abc") rfl T.m_LETTERS ⟨_, rfl⟩) (by with_unfolding_all rfl))))) (pss_one (ps_raise rfl (takes_of rfl rfl rfl rfl) (pmk_oex T.oex_NoBeads T.ini_NoBeads T.tin_NoBeads (ok_NoBeads___init__ T) hr T.b_NoBeads___init__ .nil L2.pass0 rfl T.g_NoBeads (by exact (pa_cons (pv 1) pa_nil))))) pss_nil)))),
    (s_for (i_enumS (a_cons v_var a_nil)) (g_tl (gs_cons g_name (gs_cons g_name gs_nil))) (s_if (t_or (t_test (v_op d_eq v_var v_int)) (t_test (v_op d_notin v_var v_str))) (s_raiseF rfl rfl T.oex_NoBeads T.xno_NoBeads (a_cons v_var a_nil)) s_skip))⟩
theorem okN_ask_beads (T : Txt K mg base A) : FnOk P w K mg base (L2N.CX P w) 3 A.f_ask_beads A.d_ask_beads p_ask_beads (spF (GG K A) F_ask_beads) :=
  fn_okN (k := 2) rfl rfl T.F_ask_beads sc_ask_beads fun cdv Ar outer s H E hr => ⟨_,
    (pss_one (ps_for (passes_of rfl) rfl (pi_enumS (by rfl) T.z_enumerate (pa_cons (pv 0) pa_nil)) (pg_tl rfl (pgs_cons (pg_name (i := 1) sc_ask_beads.nd rfl (by first | exact Or.inl rfl | exact Or.inr rfl)) (pgs_cons (pg_name (i := 2) sc_ask_beads.nd rfl (by first | exact Or.inl rfl | exact Or.inr rfl)) pgs_nil))) (pss_one (ps_if (PW.pt (pw_or (pt_cmpR (or_eq hr.units) (pv 1) (pe_glob (v := .int 24) rfl T.m_MOST_BEADS ⟨_, rfl⟩) (nomark _)) (pw_or1 (pt_cmpR (or_notin (unit65 hr)) (pv 2) (pe_glob (v := .str "abc") rfl T.m_LETTERS ⟨_, rfl⟩) (by with_unfolding_all rfl))))) (pss_one (L2N.ps_raise rfl (L2N.takes_of rfl rfl rfl rfl) (pmk_oexN T.oex_NoBeads T.ini_NoBeads T.tin_NoBeads (ok_NoBeads___init__ T) hr T.b_NoBeads___init__ L2.pass0 rfl T.g_NoBeads (by exact (pa_cons (pv 1) pa_nil))))) pss_nil)))),
    (s_for (i_enumS (a_cons v_var a_nil)) (g_tl (gs_cons g_name (gs_cons g_name gs_nil))) (s_if (t_or (t_test (v_op d_eq v_var v_int)) (t_test (v_op d_notin v_var v_str))) (s_raiseF rfl rfl T.oex_NoBeads T.xno_NoBeads (a_cons v_var a_nil)) s_skip))⟩
theorem ok_all_cuts (T : Txt K mg base A) : FnOk P w K mg base (L2.CX P w) 3 A.f_all_cuts A.d_all_cuts p_all_cuts (spF (GG K A) F_all_cuts) :=
  fn_ok (k := 2) rfl rfl T.F_all_cuts sc_all_cuts fun cdv Ar outer s H E hr => ⟨_,
    (pss_cons (ps_if (pt_cmpR (or_eq hr.units) (pv 2) pe_int (nomark _)) (pss_one (ps_ret (pe_lst (pa_cons (pe_lst pa_nil) pa_nil)))) pss_nil)
    (pss_cons (ps_set (i := 3) sc_all_cuts.nd rfl (by first | exact Or.inl rfl | exact Or.inr rfl) (pe_lst pa_nil))
    (pss_cons (ps_for (passes_of rfl) rfl (pi_range2 (by rfl) T.z_range (pa_cons (pv 0) (pa_cons (pe_op or_add (pv 1) pe_int) pa_nil))) (pg_name (i := 4) sc_all_cuts.nd rfl (by first | exact Or.inl rfl | exact Or.inr rfl)) (pss_one (ps_for (passes_of rfl) rfl (pi_any (pe_callS (ok_all_cuts_2 T) hr rfl T.g_all_cuts_2 T.F_all_cuts_2.kp T.b_all_cuts_2 (fun σ => passAt (takes_of rfl rfl rfl rfl) σ) (by exact (pa_cons (pe_op or_add (pv 4) pe_int) (pa_cons (pv 1) (pa_cons (pe_op op_sub (pv 2) pe_int) pa_nil)))))) (pg_name (i := 5) sc_all_cuts.nd rfl (by first | exact Or.inl rfl | exact Or.inr rfl)) (pss_one (ps_expr (pe_bm PySem.F.plainAttrs_list PySem.F.slot_list_append PySem.F.type_list_append mt_append (pv 3) (pa_cons (pe_op or_add (pe_lst (pa_cons (pv 4) pa_nil)) (pv 5)) pa_nil)))))))
    (pss_one (ps_ret (pv 3)))))),
    (s_seq (s_if (t_test (v_op d_eq v_var v_int)) (s_ret (v_lst (a_cons (v_lst a_nil) a_nil))) s_skip)
    (s_seq (s_set (v_lst a_nil))
    (s_seq (s_for (i_range2 (a_cons v_var (a_cons (v_op d_add v_var v_int) a_nil))) g_name (s_for (i_any (v_call (a_cons (v_op d_add v_var v_int) (a_cons v_var (a_cons (v_op d_sub v_var v_int) a_nil))))) g_name (s_mt m_append (a_cons (v_op d_add (v_lst (a_cons v_var a_nil)) v_var) a_nil))))
    s_retV)))⟩
theorem okN_all_cuts (T : Txt K mg base A) : FnOk P w K mg base (L2N.CX P w) 3 A.f_all_cuts A.d_all_cuts p_all_cuts (spF (GG K A) F_all_cuts) :=
  fn_okN (k := 2) rfl rfl T.F_all_cuts sc_all_cuts fun cdv Ar outer s H E hr => ⟨_,
    (pss_cons (ps_if (pt_cmpR (or_eq hr.units) (pv 2) pe_int (nomark _)) (pss_one (ps_ret (pe_lst (pa_cons (pe_lst pa_nil) pa_nil)))) pss_nil)
    (pss_cons (ps_set (i := 3) sc_all_cuts.nd rfl (by first | exact Or.inl rfl | exact Or.inr rfl) (pe_lst pa_nil))
    (pss_cons (ps_for (passes_of rfl) rfl (pi_range2 (by rfl) T.z_range (pa_cons (pv 0) (pa_cons (pe_op or_add (pv 1) pe_int) pa_nil))) (pg_name (i := 4) sc_all_cuts.nd rfl (by first | exact Or.inl rfl | exact Or.inr rfl)) (pss_one (ps_for (passes_of rfl) rfl (pi_any (pe_callS (okN_all_cuts_2 T) hr rfl T.g_all_cuts_2 T.F_all_cuts_2.kp T.b_all_cuts_2 (fun σ => L2N.passAt (L2N.takes_of rfl rfl rfl rfl) σ) (by exact (pa_cons (pe_op or_add (pv 4) pe_int) (pa_cons (pv 1) (pa_cons (pe_op op_sub (pv 2) pe_int) pa_nil)))))) (pg_name (i := 5) sc_all_cuts.nd rfl (by first | exact Or.inl rfl | exact Or.inr rfl)) (pss_one (ps_expr (pe_bm PySem.F.plainAttrs_list PySem.F.slot_list_append PySem.F.type_list_append mt_append (pv 3) (pa_cons (pe_op or_add (pe_lst (pa_cons (pv 4) pa_nil)) (pv 5)) pa_nil)))))))
    (pss_one (ps_ret (pv 3)))))),
    (s_seq (s_if (t_test (v_op d_eq v_var v_int)) (s_ret (v_lst (a_cons (v_lst a_nil) a_nil))) s_skip)
    (s_seq (s_set (v_lst a_nil))
    (s_seq (s_for (i_range2 (a_cons v_var (a_cons (v_op d_add v_var v_int) a_nil))) g_name (s_for (i_any (v_call (a_cons (v_op d_add v_var v_int) (a_cons v_var (a_cons (v_op d_sub v_var v_int) a_nil))))) g_name (s_mt m_append (a_cons (v_op d_add (v_lst (a_cons v_var a_nil)) v_var) a_nil))))
    s_retV)))⟩
theorem ok_Thread_cut (T : Txt K mg base A) : FnOk P w K mg base (L2.CX P w) 3 A.f_Thread_cut A.d_Thread_cut p_Thread_cut (spF (GG K A) F_Thread_cut) :=
  fn_ok (k := 2) rfl rfl T.F_Thread_cut sc_Thread_cut fun cdv Ar outer s H E hr => ⟨_,
    (pss_cons (ps_if (PW.pt (pw_or (pt_cmpR op_lt (pv 1) pe_int (nomark _)) (pw_or (pt_cmpR op_ge (pv 1) (pe_callB call_len (by rfl) T.z_len (by decide +kernel) (pa_cons (pe_fld (pv 0) rfl) pa_nil)) (nomark _)) (pw_or1 (pt_cmpR (or_in (unit65 hr)) (pv 1) (pe_fld (pv 0) rfl) (by with_unfolding_all rfl)))))) (pss_one (ps_raise rfl (takes_of rfl rfl rfl rfl) (pmk_oex T.oex_NoCut T.ini_NoCut T.tin_NoCut (ok_NoCut___init__ T) hr T.b_NoCut___init__ .nil L2.pass0 rfl T.g_NoCut (by exact (pa_cons (pv 1) pa_nil))))) pss_nil)
    (pss_one (ps_expr (by exact (pe_mN (pv 0) T.cl_Thread T.mt_Thread_done (ok_Thread_done T) hr T.B_Thread_done_3_ (fun σ => passAt (takes_of rfl rfl rfl rfl) σ) (by exact (pa_cons (pe_op or_add (pe_fld (pv 0) rfl) (pe_lst (pa_cons (pv 1) pa_nil))) (pa_cons (pe_fld (pv 0) rfl) pa_nil)))))))),
    (s_seq (s_if (t_or (t_test (v_op d_lt v_var v_int)) (t_or (t_test (v_op d_ge v_var (v_cb c_len (a_cons (v_fld T.fo_beads v_var) a_nil)))) (t_test (v_op d_in v_var (v_fld T.fo_spots v_var))))) (s_raiseF rfl rfl T.oex_NoCut T.xno_NoCut (a_cons v_var a_nil)) s_skip)
    (s_drop (v_meth (c := 4) (m := "done") (dd := []) nf_Thread_done rfl v_var (a_cons (v_op d_add (v_fld T.fo_spots v_var) (v_lst (a_cons v_var a_nil))) (a_cons (v_fld T.fo_lead v_var) a_nil)) a_nil)))⟩
theorem okH_Thread_flip (T : Txt K mg base A) : L2H.FnH P w K mg base (L2.CX P w) 3 A.f_Thread_flip A.d_Thread_flip p_Thread_flip (spF (GG K A) F_Thread_flip) :=
  fn_okH (k := 2) rfl rfl T.F_Thread_flip sc_Thread_flip fun cdv Ar outer s H E p hot hr => ⟨_,
    (pss_one (ps_expr (by exact (pe_mNH (pv 0) T.cl_Thread T.mt_Thread_done (okH_Thread_done T) hr (hot_in hot) T.B_Thread_done_3_ (fun σ => passAt (takes_of rfl rfl rfl rfl) σ) (by exact (pa_cons (pe_fld (pv 0) rfl) (pa_cons (pe_op op_sub pe_int (pe_fld (pv 0) rfl)) pa_nil))))))),
    (s_drop (v_meth (c := 4) (m := "done") (dd := []) nf_Thread_done rfl v_var (a_cons (v_fld T.fo_spots v_var) (a_cons (v_op d_sub v_int (v_fld T.fo_lead v_var)) a_nil)) a_nil))⟩
theorem ok_Thread_shown (T : Txt K mg base A) : FnOk P w K mg base (L2.CX P w) 3 A.f_Thread_shown A.d_Thread_shown p_Thread_shown (spF (GG K A) F_Thread_shown) :=
  fn_ok (k := 2) rfl rfl T.F_Thread_shown sc_Thread_shown fun cdv Ar outer s H E hr => ⟨_,
    (pss_one (ps_ret (pe_bm PySem.F.plainAttrs_str PySem.F.slot_str_join PySem.F.type_str_join mt_join pe_str (pa_cons (by exact (pe_m0 (pv 0) T.cl_Thread T.mt_Thread_pieces (ok_Thread_pieces T) hr T.B_Thread_pieces_1_ (fun σ => passAt (takes_of rfl rfl rfl rfl) σ))) pa_nil)))),
    (s_ret (v_ms ms_join v_str (a_cons (v_meth (c := 4) (m := "pieces") (dd := []) nf_Thread_pieces rfl v_var a_nil a_nil) a_nil)))⟩
theorem ok_law_beads (T : Txt K mg base A) : FnOk P w K mg base (L2.CX P w) 3 A.f_law_beads A.d_law_beads p_law_beads (spF (GG K A) F_law_beads) :=
  fn_ok (k := 2) rfl rfl T.F_law_beads sc_law_beads fun cdv Ar outer s H E hr => ⟨_,
    (pss_cons (ps_set (i := 2) sc_law_beads.nd rfl (by first | exact Or.inl rfl | exact Or.inr rfl) (pe_op or_add pe_int (pe_callS (ok_law_take T) hr rfl T.g_law_take T.F_law_take.kp T.b_law_take (fun σ => passAt (takes_of rfl rfl rfl rfl) σ) (by exact (pa_cons (pv 0) (pa_cons pe_int pa_nil))))))
    (pss_cons (ps_setLc (i := 3) (own := [("_law_k", 6)]) rfl sc_law_beads.nd rfl rfl (sw_true rfl rfl rfl (by decide +kernel)) (pi_range1 (by rfl) T.z_range (pa_cons (pe_callS (ok_law_take T) hr rfl T.g_law_take T.F_law_take.kp T.b_law_take (fun σ => passAt (takes_of rfl rfl rfl rfl) σ) (by exact (pa_cons (pv 0) (pa_cons (pe_op or_add (pe_op or_div (pv 1) pe_int) pe_int) pa_nil)))) pa_nil)) (blkOk_by (N := n_law_beads) (sc := defScope (s_law_beads)) (by decide +kernel)) (fun _ _ _ _ _ => (pg_name (i := 6) sc_law_beads.nd rfl (by first | exact Or.inl rfl | exact Or.inr rfl))) (fun _ _ _ _ _ => pts_nil) (fun _ _ _ _ _ => (pe_ix ix_seq pe_str (pe_callS (ok_law_take T) hr rfl T.g_law_take T.F_law_take.kp T.b_law_take (fun σ => passAt takes0 σ) (by exact (pa_cons (pv 0) (pa_cons (pv 2) pa_nil)))) (fun _ _ => rfl))))
    (pss_cons (ps_set (i := 4) sc_law_beads.nd rfl (by first | exact Or.inl rfl | exact Or.inr rfl) (pe_op or_add (pv 3) (pv 3)))
    (pss_cons (ps_set (i := 5) sc_law_beads.nd rfl (by first | exact Or.inl rfl | exact Or.inr rfl) pe_str)
    (pss_cons (ps_while (passes_of rfl) (pt_cmpR op_gt (pe_callB call_len (by rfl) T.z_len (by decide +kernel) (pa_cons (pv 4) pa_nil)) pe_int (nomark _)) (pss_one (ps_set (i := 5) sc_law_beads.nd rfl (by first | exact Or.inl rfl | exact Or.inr rfl) (pe_op or_add (pv 5) (pe_bm PySem.F.plainAttrs_list PySem.F.slot_list_pop PySem.F.type_list_pop mt_popAt (pv 4) (pa_cons (pe_callS (ok_law_take T) hr rfl T.g_law_take T.F_law_take.kp T.b_law_take (fun σ => passAt (takes_of rfl rfl rfl rfl) σ) (by exact (pa_cons (pv 0) (pa_cons (pe_callB call_len (by rfl) T.z_len (by decide +kernel) (pa_cons (pv 4) pa_nil)) pa_nil)))) pa_nil))))))
    (pss_one (ps_ret (pv 5)))))))),
    (s_seq (s_setF (v_op d_add v_int (v_call (a_cons v_var (a_cons v_int a_nil)))))
    (s_seq (s_setF (v_lc (vs := [6]) (js := [6]) (i_range1 (a_cons (v_call (a_cons v_var (a_cons (v_op d_add (v_op d_div v_var v_int) v_int) a_nil))) a_nil)) g_name (by decide) t_yes (v_op d_ix v_str (v_call (a_cons v_var (a_cons v_var a_nil))))))
    (s_seq (s_setF (v_put (v_op d_add v_var v_var)))
    (s_seq (s_setF v_str)
    (s_seq (s_while (t_test (v_op d_gt (v_cb c_len (a_cons v_var a_nil)) v_int)) (s_setF (v_op d_add v_var (v_mtX m_popAt v_var (a_cons (v_call (a_cons v_var (a_cons (v_cb c_len (a_cons v_var a_nil)) a_nil))) a_nil)))))
    s_retV)))))⟩
theorem ok_law_signed (T : Txt K mg base A) : FnOk P w K mg base (L2.CX P w) 3 A.f_law_signed A.d_law_signed p_law_signed (spF (GG K A) F_law_signed) :=
  fn_ok (k := 2) rfl rfl T.F_law_signed sc_law_signed fun cdv Ar outer s H E hr => ⟨_,
    (pss_cons (ps_set (i := 2) sc_law_signed.nd rfl (by first | exact Or.inl rfl | exact Or.inr rfl) pe_str)
    (pss_cons (ps_set (i := 2) sc_law_signed.nd rfl (by first | exact Or.inl rfl | exact Or.inr rfl) (pe_op or_add (pv 2) pe_str))
    (pss_cons (ps_set (i := 3) sc_law_signed.nd rfl (by first | exact Or.inl rfl | exact Or.inr rfl) (pe_callS (ok_law_take T) hr rfl T.g_law_take T.F_law_take.kp T.b_law_take (fun σ => passAt (takes_of rfl rfl rfl rfl) σ) (by exact (pa_cons (pv 0) (pa_cons pe_int pa_nil)))))
    (pss_cons (ps_set (i := 4) sc_law_signed.nd rfl (by first | exact Or.inl rfl | exact Or.inr rfl) (pe_callS (ok_law_take T) hr rfl T.g_law_take T.F_law_take.kp T.b_law_take (fun σ => passAt (takes_of rfl rfl rfl rfl) σ) (by exact (pa_cons (pv 0) (pa_cons (pe_op or_add (pe_callB call_len (by rfl) T.z_len (by decide +kernel) (pa_cons (pv 1) pa_nil)) pe_int) pa_nil)))))
    (pss_one (ps_ret (pe_op or_add (pe_op or_add (pe_slice sl_any (pv 1) po_none (po_some (pv 4))) (pe_ix ix_seq (pv 2) (pe_callS (ok_law_take T) hr rfl T.g_law_take T.F_law_take.kp T.b_law_take (fun σ => passAt (takes_of rfl rfl rfl rfl) σ) (by exact (pa_cons (pv 0) (pa_cons (pe_callB call_len (by rfl) T.z_len (by decide +kernel) (pa_cons (pv 2) pa_nil)) pa_nil)))) (fun _ _ => rfl))) (pe_slice sl_any (pv 1) (po_some (pe_op or_add (pv 4) (pv 3))) po_none)))))))),
    (s_seq (s_setF v_str)
    (s_seq (s_setF (v_op d_add v_var v_str))
    (s_seq (s_setF (v_call (a_cons v_var (a_cons v_int a_nil))))
    (s_seq (s_setF (v_call (a_cons v_var (a_cons (v_op d_add (v_cb c_len (a_cons v_var a_nil)) v_int) a_nil))))
    (s_ret (v_op d_add (v_op d_add (v_sl d_sl v_var o_none (o_some v_var)) (v_op d_ix v_var (v_call (a_cons v_var (a_cons (v_cb c_len (a_cons v_var a_nil)) a_nil))))) (v_sl d_sl v_var (o_some (v_op d_add v_var v_var)) o_none)))))))⟩
theorem ok_fewest_cuts (T : Txt K mg base A) : FnOk P w K mg base (L2.CX P w) 4 A.f_fewest_cuts A.d_fewest_cuts p_fewest_cuts (spF (GG K A) F_fewest_cuts) :=
  fn_ok (k := 3) rfl rfl T.F_fewest_cuts sc_fewest_cuts fun cdv Ar outer s H E hr => ⟨_,
    (pss_cons (ps_expr (pe_callS (ok_ask_beads T) hr rfl T.g_ask_beads T.F_ask_beads.kp T.b_ask_beads (fun σ => passAt (takes_of rfl rfl rfl rfl) σ) (by exact (pa_cons (pv 0) pa_nil))))
    (pss_cons (ps_for (passes_of rfl) rfl (pi_any (pe_glob (v := .str "abc") rfl T.m_LETTERS ⟨_, rfl⟩)) (pg_name (i := 1) sc_fewest_cuts.nd rfl (by first | exact Or.inl rfl | exact Or.inr rfl)) (pss_one (ps_if (pt_cmpR (or_eq hr.units) (pe_op op_modN (pe_bm PySem.F.plainAttrs_str PySem.F.slot_str_count PySem.F.type_str_count mt_count (pv 0) (pa_cons (pv 1) pa_nil)) pe_int) pe_int (nomark _)) (pss_one (ps_raise rfl (takes_of rfl rfl rfl rfl) (pmk_oex T.oex_Odd T.ini_Odd T.tin_Odd (ok_Odd___init__ T) (hr.mono (by decide)) T.b_Odd___init__ .nil L2.pass0 rfl T.g_Odd (by exact (pa_cons (pv 1) pa_nil))))) pss_nil)))
    (pss_cons (ps_set (i := 2) sc_fewest_cuts.nd rfl (by first | exact Or.inl rfl | exact Or.inr rfl) (pe_callS (ok_sums_ahead T) (hr.mono (by decide)) rfl T.g_sums_ahead T.F_sums_ahead.kp T.b_sums_ahead (fun σ => passAt (takes_of rfl rfl rfl rfl) σ) (by exact (pa_cons (pv 0) pa_nil))))
    (pss_cons (ps_set (i := 3) sc_fewest_cuts.nd rfl (by first | exact Or.inl rfl | exact Or.inr rfl) pe_int)
    (pss_cons (ps_while (passes_of rfl) (pt_cmpR op_lt (pv 3) (pe_callB call_len (by rfl) T.z_len (by decide +kernel) (pa_cons (pv 0) pa_nil)) (nomark _)) (pss_cons (ps_for (passes_of rfl) rfl (pi_any (pe_callS (ok_all_cuts T) hr rfl T.g_all_cuts T.F_all_cuts.kp T.b_all_cuts (fun σ => passAt (takes_of rfl rfl rfl rfl) σ) (by exact (pa_cons pe_int (pa_cons (pe_op op_sub (pe_callB call_len (by rfl) T.z_len (by decide +kernel) (pa_cons (pv 0) pa_nil)) pe_int) (pa_cons (pe_op op_sub (pv 3) pe_int) pa_nil)))))) (pg_name (i := 4) sc_fewest_cuts.nd rfl (by first | exact Or.inl rfl | exact Or.inr rfl)) (pss_cons (ps_set (i := 5) sc_fewest_cuts.nd rfl (by first | exact Or.inl rfl | exact Or.inr rfl) (pe_op or_add (pv 4) (pe_lst (pa_cons (pe_callS (ok_last_cut T) (hr.mono (by decide)) rfl T.g_last_cut T.F_last_cut.kp T.b_last_cut (fun σ => passAt (takes_of rfl rfl rfl rfl) σ) (by exact (pa_cons (pv 4) (pa_cons (pe_callB call_len (by rfl) T.z_len (by decide +kernel) (pa_cons (pv 0) pa_nil)) pa_nil)))) pa_nil))))
    (pss_one (ps_if (PW.pt (pw_and (pt_val (pe_callS (ok_is_cuts T) (hr.mono (by decide)) rfl T.g_is_cuts T.F_is_cuts.kp T.b_is_cuts (fun σ => passAt (takes_of rfl rfl rfl rfl) σ) (by exact (pa_cons (pv 0) (pa_cons (pv 5) pa_nil))))) (pw_and1 (pt_val (pe_callS (ok_gives_halves T) (hr.mono (by decide)) rfl T.g_gives_halves T.F_gives_halves.kp T.b_gives_halves (fun σ => passAt (takes_of rfl rfl rfl rfl) σ) (by exact (pa_cons (pv 2) (pa_cons (pv 5) pa_nil)))))))) (pss_one (ps_ret (pv 5))) pss_nil))))
    (pss_one (ps_aug (i := 3) sc_fewest_cuts.nd rfl (by first | exact Or.inl rfl | exact Or.inr rfl) pe_int ip_add))))
    (pss_one (ps_ret (pe_lst pa_nil)))))))),
    (s_seq (s_drop (v_call (a_cons v_var a_nil)))
    (s_seq (s_for (i_any v_str) g_name (s_if (t_test (v_op d_eq (v_op d_mod (v_ms ms_count v_var (a_cons v_var a_nil)) v_int) v_int)) (s_raiseF rfl rfl T.oex_Odd T.xno_Odd (a_cons v_var a_nil)) s_skip))
    (s_seq (s_setF (v_call (a_cons v_var a_nil)))
    (s_seq (s_setF v_int)
    (s_seq (s_while (t_test (v_op d_lt v_var (v_cb c_len (a_cons v_var a_nil)))) (s_seq (s_for (i_any (v_call (a_cons v_int (a_cons (v_op d_sub (v_cb c_len (a_cons v_var a_nil)) v_int) (a_cons (v_op d_sub v_var v_int) a_nil))))) g_name (s_seq (s_setF (v_op d_add v_var (v_lst (a_cons (v_call (a_cons v_var (a_cons (v_cb c_len (a_cons v_var a_nil)) a_nil))) a_nil))))
    (s_if (t_and (t_val (v_call (a_cons v_var (a_cons v_var a_nil)))) (t_val (v_call (a_cons v_var (a_cons v_var a_nil))))) s_retV s_skip)))
    (s_aug v_int)))
    (s_ret (v_lst a_nil)))))))⟩
theorem okN_fewest_cuts (T : Txt K mg base A) : FnOk P w K mg base (L2N.CX P w) 4 A.f_fewest_cuts A.d_fewest_cuts p_fewest_cuts (spF (GG K A) F_fewest_cuts) :=
  fn_okN (k := 3) rfl rfl T.F_fewest_cuts sc_fewest_cuts fun cdv Ar outer s H E hr => ⟨_,
    (pss_cons (ps_expr (pe_callS (okN_ask_beads T) hr rfl T.g_ask_beads T.F_ask_beads.kp T.b_ask_beads (fun σ => L2N.passAt (L2N.takes_of rfl rfl rfl rfl) σ) (by exact (pa_cons (pv 0) pa_nil))))
    (pss_cons (ps_for (passes_of rfl) rfl (pi_any (pe_glob (v := .str "abc") rfl T.m_LETTERS ⟨_, rfl⟩)) (pg_name (i := 1) sc_fewest_cuts.nd rfl (by first | exact Or.inl rfl | exact Or.inr rfl)) (pss_one (ps_if (pt_cmpR (or_eq hr.units) (pe_op op_modN (pe_bm PySem.F.plainAttrs_str PySem.F.slot_str_count PySem.F.type_str_count mt_count (pv 0) (pa_cons (pv 1) pa_nil)) pe_int) pe_int (nomark _)) (pss_one (L2N.ps_raise rfl (L2N.takes_of rfl rfl rfl rfl) (pmk_oexN T.oex_Odd T.ini_Odd T.tin_Odd (ok_Odd___init__ T) (hr.mono (by decide)) T.b_Odd___init__ L2.pass0 rfl T.g_Odd (by exact (pa_cons (pv 1) pa_nil))))) pss_nil)))
    (pss_cons (ps_set (i := 2) sc_fewest_cuts.nd rfl (by first | exact Or.inl rfl | exact Or.inr rfl) (pe_callS (okN_sums_ahead T) (hr.mono (by decide)) rfl T.g_sums_ahead T.F_sums_ahead.kp T.b_sums_ahead (fun σ => L2N.passAt (L2N.takes_of rfl rfl rfl rfl) σ) (by exact (pa_cons (pv 0) pa_nil))))
    (pss_cons (ps_set (i := 3) sc_fewest_cuts.nd rfl (by first | exact Or.inl rfl | exact Or.inr rfl) pe_int)
    (pss_cons (ps_while (passes_of rfl) (pt_cmpR op_lt (pv 3) (pe_callB call_len (by rfl) T.z_len (by decide +kernel) (pa_cons (pv 0) pa_nil)) (nomark _)) (pss_cons (ps_for (passes_of rfl) rfl (pi_any (pe_callS (okN_all_cuts T) hr rfl T.g_all_cuts T.F_all_cuts.kp T.b_all_cuts (fun σ => L2N.passAt (L2N.takes_of rfl rfl rfl rfl) σ) (by exact (pa_cons pe_int (pa_cons (pe_op op_sub (pe_callB call_len (by rfl) T.z_len (by decide +kernel) (pa_cons (pv 0) pa_nil)) pe_int) (pa_cons (pe_op op_sub (pv 3) pe_int) pa_nil)))))) (pg_name (i := 4) sc_fewest_cuts.nd rfl (by first | exact Or.inl rfl | exact Or.inr rfl)) (pss_cons (ps_set (i := 5) sc_fewest_cuts.nd rfl (by first | exact Or.inl rfl | exact Or.inr rfl) (pe_op or_add (pv 4) (pe_lst (pa_cons (pe_callS (okN_last_cut T) (hr.mono (by decide)) rfl T.g_last_cut T.F_last_cut.kp T.b_last_cut (fun σ => L2N.passAt (L2N.takes_of rfl rfl rfl rfl) σ) (by exact (pa_cons (pv 4) (pa_cons (pe_callB call_len (by rfl) T.z_len (by decide +kernel) (pa_cons (pv 0) pa_nil)) pa_nil)))) pa_nil))))
    (pss_one (ps_if (PW.pt (pw_and (pt_val (pe_callS (okN_is_cuts T) (hr.mono (by decide)) rfl T.g_is_cuts T.F_is_cuts.kp T.b_is_cuts (fun σ => L2N.passAt (L2N.takes_of rfl rfl rfl rfl) σ) (by exact (pa_cons (pv 0) (pa_cons (pv 5) pa_nil))))) (pw_and1 (pt_val (pe_callS (okN_gives_halves T) (hr.mono (by decide)) rfl T.g_gives_halves T.F_gives_halves.kp T.b_gives_halves (fun σ => L2N.passAt (L2N.takes_of rfl rfl rfl rfl) σ) (by exact (pa_cons (pv 2) (pa_cons (pv 5) pa_nil)))))))) (pss_one (ps_ret (pv 5))) pss_nil))))
    (pss_one (ps_aug (i := 3) sc_fewest_cuts.nd rfl (by first | exact Or.inl rfl | exact Or.inr rfl) pe_int ip_add))))
    (pss_one (ps_ret (pe_lst pa_nil)))))))),
    (s_seq (s_drop (v_call (a_cons v_var a_nil)))
    (s_seq (s_for (i_any v_str) g_name (s_if (t_test (v_op d_eq (v_op d_mod (v_ms ms_count v_var (a_cons v_var a_nil)) v_int) v_int)) (s_raiseF rfl rfl T.oex_Odd T.xno_Odd (a_cons v_var a_nil)) s_skip))
    (s_seq (s_setF (v_call (a_cons v_var a_nil)))
    (s_seq (s_setF v_int)
    (s_seq (s_while (t_test (v_op d_lt v_var (v_cb c_len (a_cons v_var a_nil)))) (s_seq (s_for (i_any (v_call (a_cons v_int (a_cons (v_op d_sub (v_cb c_len (a_cons v_var a_nil)) v_int) (a_cons (v_op d_sub v_var v_int) a_nil))))) g_name (s_seq (s_setF (v_op d_add v_var (v_lst (a_cons (v_call (a_cons v_var (a_cons (v_cb c_len (a_cons v_var a_nil)) a_nil))) a_nil))))
    (s_if (t_and (t_val (v_call (a_cons v_var (a_cons v_var a_nil)))) (t_val (v_call (a_cons v_var (a_cons v_var a_nil))))) s_retV s_skip)))
    (s_aug v_int)))
    (s_ret (v_lst a_nil)))))))⟩
theorem ok_Thread___init__ (T : Txt K mg base A) : FnOk P w K mg base (L2.CX P w) 4 A.f_Thread___init__ A.d_Thread___init__ p_Thread___init__ (spF (GG K A) F_Thread___init__) :=
  fn_ok (k := 3) rfl rfl T.F_Thread___init__ sc_Thread___init__ fun cdv Ar outer s H E hr => ⟨_,
    (pss_cons (ps_expr (pe_callS (ok_ask_beads T) hr rfl T.g_ask_beads T.F_ask_beads.kp T.b_ask_beads (fun σ => passAt (takes_of rfl rfl rfl rfl) σ) (by exact (pa_cons (pv 1) pa_nil))))
    (pss_cons (ps_fld (pv 0) (pv 1) (by first | rfl | exact sw_any rfl))
    (pss_cons (ps_fld (pv 0) (pe_lst pa_nil) (by first | rfl | exact sw_any rfl))
    (pss_cons (ps_fld (pv 0) pe_int (by first | rfl | exact sw_any rfl))
    (pss_cons (ps_fld (pv 0) (pe_lst pa_nil) (by first | rfl | exact sw_any rfl))
    (pss_one (ps_fld (pv 0) (pe_lst pa_nil) (by first | rfl | exact sw_any rfl)))))))),
    (s_seq (s_drop (v_call (a_cons v_var a_nil)))
    (s_seq (s_fldS T.fo_beads v_var v_var)
    (s_seq (s_fldS T.fo_spots v_var (v_lst a_nil))
    (s_seq (s_fldS T.fo_lead v_var v_int)
    (s_seq (s_fldS T.fo_past v_var (v_put (v_lst a_nil)))
    (s_fldS T.fo_later v_var (v_lst a_nil)))))))⟩
theorem ok_Thread___str__ (T : Txt K mg base A) : FnOk P w K mg base (L2.CX P w) 4 A.f_Thread___str__ A.d_Thread___str__ p_Thread___str__ (spF (GG K A) F_Thread___str__) :=
  fn_ok (k := 3) rfl rfl T.F_Thread___str__ sc_Thread___str__ fun cdv Ar outer s H E hr => ⟨_,
    (pss_one (ps_ret (pe_joined (.cons (pe_fmt (pe_fld (pv 0) rfl)) (.cons pe_str (.cons (pe_fmt (by exact (pe_m0 (pv 0) T.cl_Thread T.mt_Thread_shown (ok_Thread_shown T) hr T.B_Thread_shown_1_ (fun σ => passAt (takes_of rfl rfl rfl rfl) σ)))) .nil)))))),
    (s_ret (v_js (.cons (v_fmt (v_fld T.fo_lead v_var)) (.cons v_str (.cons (v_fmt (v_meth (c := 4) (m := "shown") (dd := []) nf_Thread_shown rfl v_var a_nil a_nil)) .nil)))))⟩
theorem ok_law_text (T : Txt K mg base A) : FnOk P w K mg base (L2.CX P w) 4 A.f_law_text A.d_law_text p_law_text (spF (GG K A) F_law_text) :=
  fn_ok (k := 3) rfl rfl T.F_law_text sc_law_text fun cdv Ar outer s H E hr => ⟨_,
    (pss_cons (ps_set (i := 1) sc_law_text.nd rfl (by first | exact Or.inl rfl | exact Or.inr rfl) (pe_callS (ok_law_take T) (hr.mono (by decide)) rfl T.g_law_take T.F_law_take.kp T.b_law_take (fun σ => passAt (takes_of rfl rfl rfl rfl) σ) (by exact (pa_cons (pv 0) (pa_cons pe_int pa_nil)))))
    (pss_cons (ps_set (i := 2) sc_law_text.nd rfl (by first | exact Or.inl rfl | exact Or.inr rfl) (pe_callS (ok_law_take T) (hr.mono (by decide)) rfl T.g_law_take T.F_law_take.kp T.b_law_take (fun σ => passAt (takes_of rfl rfl rfl rfl) σ) (by exact (pa_cons (pv 0) (pa_cons pe_int pa_nil)))))
    (pss_cons (ps_set (i := 3) sc_law_text.nd rfl (by first | exact Or.inl rfl | exact Or.inr rfl) (pe_bm PySem.F.plainAttrs_str PySem.F.slot_str_join PySem.F.type_str_join mt_join pe_str (pa_cons (pe_lc (own := [("_law_k", 5)]) rfl sc_law_text.nd (pi_range1 (by rfl) T.z_range (pa_cons (pe_callS (ok_law_take T) (hr.mono (by decide)) rfl T.g_law_take T.F_law_take.kp T.b_law_take (fun σ => passAt (takes_of rfl rfl rfl rfl) σ) (by exact (pa_cons (pv 0) (pa_cons pe_int pa_nil)))) pa_nil)) (blkOk_by (N := n_law_text) (sc := defScope (s_law_text)) (by decide +kernel)) (fun _ _ _ _ _ => (pg_name (i := 5) sc_law_text.nd rfl (by first | exact Or.inl rfl | exact Or.inr rfl))) (fun _ _ _ _ _ => pts_nil) (fun _ _ _ _ _ => (pe_ix ix_seq pe_str (pe_callS (ok_law_take T) (hr.mono (by decide)) rfl T.g_law_take T.F_law_take.kp T.b_law_take (fun σ => passAt takes0 σ) (by exact (pa_cons (pv 0) (pa_cons pe_int pa_nil)))) (fun _ _ => rfl)))) pa_nil)))
    (pss_cons (ps_if (pt_cmpR (or_eq hr.units) (pv 1) pe_int (nomark _)) (pss_one (ps_set (i := 3) sc_law_text.nd rfl (by first | exact Or.inl rfl | exact Or.inr rfl) (pe_callS (ok_law_beads T) hr rfl T.g_law_beads T.F_law_beads.kp T.b_law_beads (fun σ => passAt (takes_of rfl rfl rfl rfl) σ) (by exact (pa_cons (pv 0) (pa_cons (pe_ix ix_seq (pe_lst (pa_cons pe_int (pa_cons pe_int pa_nil))) (pe_callS (ok_law_take T) (hr.mono (by decide)) rfl T.g_law_take T.F_law_take.kp T.b_law_take (fun σ => passAt (takes_of rfl rfl rfl rfl) σ) (by exact (pa_cons (pv 0) (pa_cons pe_int pa_nil)))) (fun _ _ => rfl)) pa_nil)))))) pss_nil)
    (pss_cons (ps_for (passes_of rfl) rfl (pi_range1 (by rfl) T.z_range (pa_cons (pe_callB (call_max2 rfl) (by rfl) T.z_max (by decide +kernel) (pa_cons pe_int (pa_cons (pe_op op_sub (pv 2) pe_int) pa_nil))) pa_nil)) (pg_name (i := 4) sc_law_text.nd rfl (by first | exact Or.inl rfl | exact Or.inr rfl)) (pss_one (ps_set (i := 3) sc_law_text.nd rfl (by first | exact Or.inl rfl | exact Or.inr rfl) (pe_callS (ok_law_signed T) hr rfl T.g_law_signed T.F_law_signed.kp T.b_law_signed (fun σ => passAt (takes_of rfl rfl rfl rfl) σ) (by exact (pa_cons (pv 0) (pa_cons (pv 3) pa_nil)))))))
    (pss_one (ps_ret (pv 3)))))))),
    (s_seq (s_setF (v_call (a_cons v_var (a_cons v_int a_nil))))
    (s_seq (s_setF (v_call (a_cons v_var (a_cons v_int a_nil))))
    (s_seq (s_setF (v_ms ms_join v_str (a_cons (v_lc (vs := [5]) (js := [5]) (i_range1 (a_cons (v_call (a_cons v_var (a_cons v_int a_nil))) a_nil)) g_name (by decide) t_yes (v_op d_ix v_str (v_call (a_cons v_var (a_cons v_int a_nil))))) a_nil)))
    (s_seq (s_if (t_test (v_op d_eq v_var v_int)) (s_setF (v_call (a_cons v_var (a_cons (v_op d_ix (v_lst (a_cons v_int (a_cons v_int a_nil))) (v_call (a_cons v_var (a_cons v_int a_nil)))) a_nil)))) s_skip)
    (s_seq (s_for (i_range1 (a_cons (v_cb c_max2 (a_cons v_int (a_cons (v_op d_sub v_var v_int) a_nil))) a_nil)) g_name (s_setF (v_call (a_cons v_var (a_cons v_var a_nil)))))
    s_retV)))))⟩
theorem ok_Thread_settle (T : Txt K mg base A) : FnOk P w K mg base (L2.CX P w) 5 A.f_Thread_settle A.d_Thread_settle p_Thread_settle (spF (GG K A) F_Thread_settle) :=
  fn_ok (k := 4) rfl rfl T.F_Thread_settle sc_Thread_settle fun cdv Ar outer s H E hr => ⟨_,
    (pss_cons (ps_set (i := 1) sc_Thread_settle.nd rfl (by first | exact Or.inl rfl | exact Or.inr rfl) (pe_callS (ok_fewest_cuts T) hr rfl T.g_fewest_cuts T.F_fewest_cuts.kp T.b_fewest_cuts (fun σ => passAt (takes_of rfl rfl rfl rfl) σ) (by exact (pa_cons (pe_fld (pv 0) rfl) pa_nil))))
    (pss_cons (ps_expr (by exact (pe_mN (pv 0) T.cl_Thread T.mt_Thread_done (ok_Thread_done T) (hr.mono (by decide)) T.B_Thread_done_3_ (fun σ => passAt (takes_of rfl rfl rfl rfl) σ) (by exact (pa_cons (pv 1) (pa_cons (pe_fld (pv 0) rfl) pa_nil))))))
    (pss_one (ps_ret (pe_callTy call_list_of (by rfl) T.z_list (by decide +kernel) (pa_cons (pv 1) pa_nil)))))),
    (s_seq (s_setF (v_call (a_cons (v_fld T.fo_beads v_var) a_nil)))
    (s_seq (s_drop (v_meth (c := 4) (m := "done") (dd := []) nf_Thread_done rfl v_var (a_cons v_var (a_cons (v_fld T.fo_lead v_var) a_nil)) a_nil))
    (s_ret (v_cb c_list (a_cons v_var a_nil)))))⟩
theorem okN_Thread_settle (T : Txt K mg base A) : FnOk P w K mg base (L2N.CX P w) 5 A.f_Thread_settle A.d_Thread_settle p_Thread_settle (spF (GG K A) F_Thread_settle) :=
  fn_okN (k := 4) rfl rfl T.F_Thread_settle sc_Thread_settle fun cdv Ar outer s H E hr => ⟨_,
    (pss_cons (ps_set (i := 1) sc_Thread_settle.nd rfl (by first | exact Or.inl rfl | exact Or.inr rfl) (pe_callS (okN_fewest_cuts T) hr rfl T.g_fewest_cuts T.F_fewest_cuts.kp T.b_fewest_cuts (fun σ => L2N.passAt (L2N.takes_of rfl rfl rfl rfl) σ) (by exact (pa_cons (pe_fld (pv 0) rfl) pa_nil))))
    (pss_cons (ps_expr (by exact (pe_mN (pv 0) T.cl_Thread T.mt_Thread_done (okN_Thread_done T) (hr.mono (by decide)) T.B_Thread_done_3_ (fun σ => L2N.passAt (L2N.takes_of rfl rfl rfl rfl) σ) (by exact (pa_cons (pv 1) (pa_cons (pe_fld (pv 0) rfl) pa_nil))))))
    (pss_one (ps_ret (pe_callTy call_list_of (by rfl) T.z_list (by decide +kernel) (pa_cons (pv 1) pa_nil)))))),
    (s_seq (s_setF (v_call (a_cons (v_fld T.fo_beads v_var) a_nil)))
    (s_seq (s_drop (v_meth (c := 4) (m := "done") (dd := []) nf_Thread_done rfl v_var (a_cons v_var (a_cons (v_fld T.fo_lead v_var) a_nil)) a_nil))
    (s_ret (v_cb c_list (a_cons v_var a_nil)))))⟩
theorem ok_law_asked (T : Txt K mg base A) : FnOk P w K mg base (L2.CX P w) 6 A.f_law_asked A.d_law_asked p_law_asked (spF (GG K A) F_law_asked) :=
  fn_ok (k := 5) rfl rfl T.F_law_asked sc_law_asked fun cdv Ar outer s H E hr => ⟨_,
    (pss_cons (ps_set (i := 2) sc_law_asked.nd rfl (by first | exact Or.inl rfl | exact Or.inr rfl) (pe_tup (pa_cons pe_str (pa_cons pe_int pa_nil))))
    (pss_cons (ps_try_mix rfl rfl (takes_of rfl rfl rfl rfl) (fun W pn xe tk po => (pss_one (ps_if (pt_cmpR (or_eq hr.units) (pv 0) pe_int (nomark _)) (pss_one (ps_expr (pe_callS (ok_fewest_cuts T) (hr.mono (by decide)) rfl T.g_fewest_cuts T.F_fewest_cuts.kp T.b_fewest_cuts (fun σ => passAt tk σ) (by exact (pa_cons (pv 1) pa_nil))))) (pss_one (ps_if (pt_cmpR (or_eq hr.units) (pv 0) pe_int (nomark _)) (pss_one (ps_expr (by exact (pe_kN T.mk_Thread (ok_Thread___init__ T) hr rfl T.g_Thread T.B_Thread___init___2_ (fun σ => passAt tk σ) (by exact (pa_cons (pv 1) pa_nil)))))) (pss_one (ps_expr (by exact (pe_m0 (by exact (pe_kK0 T.mk_Thread (ok_Thread___init__ T) hr rfl T.g_Thread T.B_Thread___init___1_beads (fun σ => passAt tk σ) (by exact (pk_cons (pv 1) pk_nil)))) T.cl_Thread T.mt_Thread_settle (ok_Thread_settle T) hr T.B_Thread_settle_1_ (fun σ => passAt tk σ)))))))))) (.cons (o := some 3) ⟨sc_law_asked.nd, rfl, rfl⟩ ⟨rfl, by decide, Or.inl T.g_NoBeads⟩ (fun a oe cls d pn hz hf => (pss_cons (ps_set (i := 2) sc_law_asked.nd rfl (by first | exact Or.inl rfl | exact Or.inr rfl) (pe_tup (pa_cons pe_str (pa_cons (pe_xf T.xf_NoBeads T.xno_NoBeads hz hf (pv 3)) pa_nil))))
    (pss_one (ps_if (PW.pt (pw_or (pt_not (pt_val (pe_callB (call_isX hz hf) (by rfl) T.z_isinstance (by decide +kernel) (pa_cons (pv 3) (pa_cons (pe_glob (v := .ref A.c_CrumbError) rfl T.g_CrumbError rfl) pa_nil))))) (pw_or (pt_val (pe_callB (call_isX hz hf) (by rfl) T.z_isinstance (by decide +kernel) (pa_cons (pv 3) (pa_cons (pe_glob (v := .ref A.c_Odd) rfl T.g_Odd rfl) pa_nil)))) (pw_or1 (pt_val (pe_callB (call_isiK (K := K) rfl) (by rfl) T.z_isinstance (by decide +kernel) (pa_cons (pe_xf T.xf_NoBeads T.xno_NoBeads hz hf (pv 3)) (pa_cons (pe_bltn (v := .ty "bool") (by rfl) T.z_bool (by decide +kernel) rfl) pa_nil)))))))) (pss_one (ps_set (i := 2) sc_law_asked.nd rfl (by first | exact Or.inl rfl | exact Or.inr rfl) (pe_tup (pa_cons pe_str (pa_cons pe_int pa_nil))))) pss_nil)))) (.cons (o := some 3) ⟨sc_law_asked.nd, rfl, rfl⟩ ⟨rfl, by decide, Or.inl T.g_Odd⟩ (fun a oe cls d pn hz hf => (pss_cons (ps_set (i := 2) sc_law_asked.nd rfl (by first | exact Or.inl rfl | exact Or.inr rfl) (pe_tup (pa_cons pe_str (pa_cons (pe_xf T.xf_Odd T.xno_Odd hz hf (pv 3)) pa_nil))))
    (pss_one (ps_if (PW.pt (pw_or (pt_not (pt_val (pe_callB (call_isX hz hf) (by rfl) T.z_isinstance (by decide +kernel) (pa_cons (pv 3) (pa_cons (pe_bltn (v := .ty "ValueError") (by rfl) T.z_ValueError (by decide +kernel) rfl) pa_nil))))) (pw_or1 (pt_not (pt_val (pe_callB (call_isX hz hf) (by rfl) T.z_isinstance (by decide +kernel) (pa_cons (pv 3) (pa_cons (pe_glob (v := .ref A.c_CrumbError) rfl T.g_CrumbError rfl) pa_nil)))))))) (pss_one (ps_set (i := 2) sc_law_asked.nd rfl (by first | exact Or.inl rfl | exact Or.inr rfl) (pe_tup (pa_cons pe_str (pa_cons pe_int pa_nil))))) pss_nil)))) .nil)))
    (pss_one (ps_ret (pv 2))))),
    (s_seq (s_setF (v_tup (a_cons v_str (a_cons v_int a_nil))))
    (s_seq (s_tryM (G := GG K A) (fun W => (s_if (t_test (v_op d_eq v_var v_int)) (s_drop (v_call (a_cons v_var a_nil))) (s_if (t_test (v_op d_eq v_var v_int)) (s_drop (v_make (c := 4) (dd := []) rfl (a_cons v_var a_nil) a_nil)) (s_drop (v_meth (c := 4) (m := "settle") (dd := []) nf_Thread_settle rfl (v_make (c := 4) (dd := []) rfl a_nil (a_cons v_var a_nil)) a_nil a_nil))))) (.consN (h := fun c l => (sSeq (sSetF 2 (dTup (aCons (dC (.str "beads")) (aCons (dXf 3 l[0]?) aNil))))
  (sIf (dOr (dNot (dIsE 3 (sub_CrumbError c))) (dOr (dIsE 3 (sub_Odd c)) (dIsi "bool" (dXf 3 l[0]?)))) (sSetF 2 (dTup (aCons (dC (.str "other")) (aCons (dC (.int 0)) aNil)))) sSkip))) T.ex_NoBeads (fun c l a x cls d hc hx hx' hcls hdd => (s_seq (s_setF (v_tup (a_cons v_str (a_cons (v_xf hx hcls hdd (by rw [only_NoBeads c hc] <;> rfl) (by rw [only_NoBeads c hc] <;> rfl)) a_nil))))
    (s_if (t_or (t_not (t_val (v_isX (C := .ref A.c_CrumbError) (cv := .ref A.c_CrumbError) hcls hdd (T.ec_NoBeads c hc) (fun _ h => h) (T.ki_CrumbError c)))) (t_or (t_val (v_isX (C := .ref A.c_Odd) (cv := .ref A.c_Odd) hcls hdd (T.ec_NoBeads c hc) (fun _ h => h) (T.ki_Odd c))) (t_val (v_isiK (K := K) rfl (v_xf hx hcls hdd (by rw [only_NoBeads c hc] <;> rfl) (by rw [only_NoBeads c hc] <;> rfl)))))) (s_setF (v_tup (a_cons v_str (a_cons v_int a_nil)))) s_skip))) (.consN (h := fun c l => (sSeq (sSetF 2 (dTup (aCons (dC (.str "odd")) (aCons (dXf 3 l[0]?) aNil))))
  (sIf (dOr (dNot (dIsE 3 (sub_ValueError c))) (dNot (dIsE 3 (sub_CrumbError c)))) (sSetF 2 (dTup (aCons (dC (.str "other")) (aCons (dC (.int 0)) aNil)))) sSkip))) T.ex_Odd (fun c l a x cls d hc hx hx' hcls hdd => (s_seq (s_setF (v_tup (a_cons v_str (a_cons (v_xf hx hcls hdd (by rw [only_Odd c hc] <;> rfl) (by rw [only_Odd c hc] <;> rfl)) a_nil))))
    (s_if (t_or (t_not (t_val (v_isX (C := .ty "ValueError") (cv := .type "ValueError") hcls hdd (T.ec_Odd c hc) (fun _ h => h) (T.ki_ValueError c)))) (t_not (t_val (v_isX (C := .ref A.c_CrumbError) (cv := .ref A.c_CrumbError) hcls hdd (T.ec_Odd c hc) (fun _ h => h) (T.ki_CrumbError c))))) (s_setF (v_tup (a_cons v_str (a_cons v_int a_nil)))) s_skip))) .nil)))
    s_retV))⟩
theorem ok_law_left (T : Txt K mg base A) : FnOk P w K mg base (L2.CX P w) 7 A.f_law_left A.d_law_left p_law_left (spF (GG K A) F_law_left) :=
  fn_ok (k := 6) rfl rfl T.F_law_left sc_law_left fun cdv Ar outer s H E hr => ⟨_,
    (pss_cons (ps_set (i := 1) sc_law_left.nd rfl (by first | exact Or.inl rfl | exact Or.inr rfl) (by exact (pe_kN T.mk_Thread (ok_Thread___init__ T) (hr.mono (by decide)) rfl T.g_Thread T.B_Thread___init___2_ (fun σ => passAt (takes_of rfl rfl rfl rfl) σ) (by exact (pa_cons (pv 0) pa_nil)))))
    (pss_cons (ps_set (i := 2) sc_law_left.nd rfl (by first | exact Or.inl rfl | exact Or.inr rfl) pe_str)
    (pss_cons (ps_if (pt_cmpR op_gt (pe_callB call_len (by rfl) T.z_len (by decide +kernel) (pa_cons (pv 0) pa_nil)) pe_int (nomark _)) (pss_cons (ps_expr (by exact (pe_mN (pv 1) T.cl_Thread T.mt_Thread_cut (ok_Thread_cut T) (hr.mono (by decide)) T.B_Thread_cut_2_ (fun σ => passAt (takes_of rfl rfl rfl rfl) σ) (by exact (pa_cons pe_int pa_nil)))))
    (pss_one (ps_set (i := 2) sc_law_left.nd rfl (by first | exact Or.inl rfl | exact Or.inr rfl) (pe_callTy (CallR.or call_strA (call_strO (G := GG K A) (k := 4) (Os := [(4, F_Thread___str__)]) (List.forall_mem_cons.mpr ⟨⟨⟨_, _, _, T.mt_Thread___str__, (ok_Thread___str__ T).mono (by decide), T.b_Thread___str__, rfl⟩⟩, (fun _ h => nomatch h)⟩) hr)) (by rfl) T.z_str (by decide +kernel) (pa_cons (pv 1) pa_nil))))) pss_nil)
    (pss_cons (L2H.ps_try_onlyX rfl rfl ⟨rfl, by decide, Or.inl T.g_CrumbError⟩ (L2H.passesAt_of rfl) (takes_of rfl rfl rfl rfl) (fun W pn xe tkN tkP po => (pss_one (ps_expr (by exact (pe_m0 (pv 1) T.cl_Thread T.mt_Thread_settle (okN_Thread_settle T) (hr.mono (by decide)) T.B_Thread_settle_1_ (fun σ => L2N.passAt tkN σ)))))) (fun a oe cls d pn hz hf tk hot => (pss_one (ps_expr (by exact (pe_m0H (pv 1) T.cl_Thread T.mt_Thread_flip (okH_Thread_flip T) ((L2H.roomH_mark hr _).mono (by decide)) hot T.B_Thread_flip_1_ (fun σ => passAt tk σ)))))))
    (pss_one (ps_ret (pe_or (pe_cmpR op_lt (pe_callB call_len (by rfl) T.z_len (by decide +kernel) (pa_cons (pv 0) pa_nil)) pe_int (nomark _)) (pe_one (pe_cmpR (or_eq hr.units) (pe_callTy (CallR.or call_strA (call_strO (G := GG K A) (k := 4) (Os := [(4, F_Thread___str__)]) (List.forall_mem_cons.mpr ⟨⟨⟨_, _, _, T.mt_Thread___str__, (ok_Thread___str__ T).mono (by decide), T.b_Thread___str__, rfl⟩⟩, (fun _ h => nomatch h)⟩) hr)) (by rfl) T.z_str (by decide +kernel) (pa_cons (pv 1) pa_nil)) (pe_op or_add pe_str (pe_slice sl_any (pv 2) (po_some pe_int) po_none)) (nomark _)))))))))),
    (s_seq (s_setF (v_make (c := 4) (dd := []) rfl (a_cons v_var a_nil) a_nil))
    (s_seq (s_setF v_str)
    (s_seq (s_if (t_test (v_op d_gt (v_cb c_len (a_cons v_var a_nil)) v_int)) (s_seq (s_drop (v_meth (c := 4) (m := "cut") (dd := []) nf_Thread_cut rfl v_var (a_cons v_int a_nil) a_nil))
    (s_setF (v_strX v_var))) s_skip)
    (s_seq (s_tryR (G := GG K A) (fun W => (s_drop (v_meth (c := 4) (m := "settle") (dd := []) nf_Thread_settle rfl v_var a_nil a_nil))) T.ex_CrumbError (fun a cls d => (s_drop (v_methA (G := GG K A) (c := 4) (m := "flip") (dd := []) nf_Thread_flip rfl v_var a_nil a_nil))) :)
    (s_ret (v_or (v_op d_lt (v_cb c_len (a_cons v_var a_nil)) v_int) (v_op d_eq (v_strX v_var) (v_op d_add v_str (v_sl d_sl v_var (o_some v_int) o_none)))))))))⟩
theorem ok_law (T : Txt K mg base A) : FnOk P w K mg base (L2.CX P w) 8 A.f_law A.d_law p_law (spF (GG K A) F_law) :=
  fn_ok (k := 7) rfl rfl T.F_law sc_law fun cdv Ar outer s H E hr => ⟨_,
    (pss_cons (ps_set (i := 1) sc_law.nd rfl (by first | exact Or.inl rfl | exact Or.inr rfl) (pe_callS (ok_law_box T) (hr.mono (by decide)) rfl T.g_law_box T.F_law_box.kp T.b_law_box (fun σ => passAt (takes_of rfl rfl rfl rfl) σ) (by exact (pa_cons (pv 0) pa_nil))))
    (pss_cons (ps_set (i := 2) sc_law.nd rfl (by first | exact Or.inl rfl | exact Or.inr rfl) (pe_callS (ok_law_text T) (hr.mono (by decide)) rfl T.g_law_text T.F_law_text.kp T.b_law_text (fun σ => passAt (takes_of rfl rfl rfl rfl) σ) (by exact (pa_cons (pv 1) pa_nil))))
    (pss_cons (ps_set (i := 3) sc_law.nd rfl (by first | exact Or.inl rfl | exact Or.inr rfl) (pe_callS (ok_law_bad T) (hr.mono (by decide)) rfl T.g_law_bad T.F_law_bad.kp T.b_law_bad (fun σ => passAt (takes_of rfl rfl rfl rfl) σ) (by exact (pa_cons (pv 2) pa_nil))))
    (pss_cons (ps_if (pt_cmpR op_ge (pv 3) pe_int (nomark _)) (pss_one (ps_ret (pe_callB (cr_all rfl) (by rfl) T.z_all (by decide +kernel) (pa_cons (pe_lc (own := [("_law_way", 6)]) rfl sc_law.nd (pi_range1 (by rfl) T.z_range (pa_cons pe_int pa_nil)) (blkOk_by (N := n_law) (sc := defScope (s_law)) (by decide +kernel)) (fun _ _ _ _ _ => (pg_name (i := 6) sc_law.nd rfl (by first | exact Or.inl rfl | exact Or.inr rfl))) (fun _ _ _ _ _ => pts_nil) (fun _ _ _ _ _ => (pe_cmpR (or_eq hr.units) (pe_callS (ok_law_asked T) (hr.mono (by decide)) rfl T.g_law_asked T.F_law_asked.kp T.b_law_asked (fun σ => passAt takes0 σ) (by exact (pa_cons (pv 6) (pa_cons (pv 2) pa_nil)))) (pe_tup (pa_cons pe_str (pa_cons (pv 3) pa_nil))) (nomark _)))) pa_nil)))) pss_nil)
    (pss_cons (ps_set (i := 4) sc_law.nd rfl (by first | exact Or.inl rfl | exact Or.inr rfl) (pe_callS (ok_law_odd T) (hr.mono (by decide)) rfl T.g_law_odd T.F_law_odd.kp T.b_law_odd (fun σ => passAt (takes_of rfl rfl rfl rfl) σ) (by exact (pa_cons (pv 2) pa_nil))))
    (pss_cons (ps_set (i := 5) sc_law.nd rfl (by first | exact Or.inl rfl | exact Or.inr rfl) (pe_tup (pa_cons pe_str (pa_cons pe_int pa_nil))))
    (pss_cons (ps_if (pt_cmpR (or_ne hr.units) (pv 4) pe_str (nomark _)) (pss_one (ps_set (i := 5) sc_law.nd rfl (by first | exact Or.inl rfl | exact Or.inr rfl) (pe_tup (pa_cons pe_str (pa_cons (pv 4) pa_nil))))) pss_nil)
    (pss_cons (ps_if (PW.pt (pw_or (pt_cmpR (or_ne hr.units) (pe_callS (ok_law_asked T) (hr.mono (by decide)) rfl T.g_law_asked T.F_law_asked.kp T.b_law_asked (fun σ => passAt (takes_of rfl rfl rfl rfl) σ) (by exact (pa_cons pe_int (pa_cons (pv 2) pa_nil)))) (pv 5) (nomark _)) (pw_or (pt_cmpR (or_ne hr.units) (pe_callS (ok_law_asked T) (hr.mono (by decide)) rfl T.g_law_asked T.F_law_asked.kp T.b_law_asked (fun σ => passAt (takes_of rfl rfl rfl rfl) σ) (by exact (pa_cons pe_int (pa_cons (pv 2) pa_nil)))) (pe_tup (pa_cons pe_str (pa_cons pe_int pa_nil))) (nomark _)) (pw_or1 (pt_cmpR (or_ne hr.units) (pe_callS (ok_law_asked T) (hr.mono (by decide)) rfl T.g_law_asked T.F_law_asked.kp T.b_law_asked (fun σ => passAt (takes_of rfl rfl rfl rfl) σ) (by exact (pa_cons pe_int (pa_cons (pv 2) pa_nil)))) (pv 5) (nomark _)))))) (pss_one (ps_ret pe_bl)) pss_nil)
    (pss_one (ps_ret (pe_or (pe_cmpR (or_eq hr.units) (pv 4) pe_str (nomark _)) (pe_one (pe_callS (ok_law_left T) hr rfl T.g_law_left T.F_law_left.kp T.b_law_left (fun σ => passAt (takes_of rfl rfl rfl rfl) σ) (by exact (pa_cons (pv 2) pa_nil))))))))))))))),
    (s_seq (s_setF (v_call (a_cons v_var a_nil)))
    (s_seq (s_setF (v_call (a_cons v_var a_nil)))
    (s_seq (s_setF (v_call (a_cons v_var a_nil)))
    (s_seq (s_if (t_test (v_op d_ge v_var v_int)) (s_ret (v_cb c_all (a_cons (v_lc (vs := [6]) (js := [6]) (i_range1 (a_cons v_int a_nil)) g_name (by decide) t_yes (v_op d_eq (v_call (a_cons v_var (a_cons v_var a_nil))) (v_tup (a_cons v_str (a_cons v_var a_nil))))) a_nil))) s_skip)
    (s_seq (s_setF (v_call (a_cons v_var a_nil)))
    (s_seq (s_setF (v_tup (a_cons v_str (a_cons v_int a_nil))))
    (s_seq (s_if (t_test (v_op d_ne v_var v_str)) (s_setF (v_tup (a_cons v_str (a_cons v_var a_nil)))) s_skip)
    (s_seq (s_if (t_or (t_test (v_op d_ne (v_call (a_cons v_int (a_cons v_var a_nil))) v_var)) (t_or (t_test (v_op d_ne (v_call (a_cons v_int (a_cons v_var a_nil))) (v_tup (a_cons v_str (a_cons v_int a_nil))))) (t_test (v_op d_ne (v_call (a_cons v_int (a_cons v_var a_nil))) v_var)))) (s_ret v_bl) s_skip)
    (s_ret (v_or (v_op d_eq v_var v_str) (v_call (a_cons v_var a_nil))))))))))))⟩
end
end Dn
namespace Dn
open PySem PySem.Spec PyProof.Rows L2
def fx0 (K : PySem.W.Frag) : Bool := He.eqO (PySem.W.nsIn K mainGlobals "CrumbError") (some (some (.ref (He.ga K "CrumbError")))) && (He.eqO (PySem.W.nsIn K mainGlobals "NoBeads") (some (some (.ref (He.ga K "NoBeads")))) && (He.eqO (PySem.W.nsIn K mainGlobals "Odd") (some (some (.ref (He.ga K "Odd")))) && (He.eqO (PySem.W.nsIn K mainGlobals "NoCut") (some (some (.ref (He.ga K "NoCut")))) && (He.eqO (PySem.W.nsIn K mainGlobals "Thread") (some (some (.ref (He.ga K "Thread")))) && (He.eqO (PySem.W.findIn K (.ref (He.ga K "NoBeads")) "__init__") (some (some (.ref (He.fAd K ("NoBeads", some "__init__"))))) && (He.eqO (PySem.W.findIn K (.ref (He.ga K "Odd")) "__init__") (some (some (.ref (He.fAd K ("Odd", some "__init__"))))) && (He.eqO (PySem.W.findIn K (.ref (He.ga K "NoCut")) "__init__") (some (some (.ref (He.fAd K ("NoCut", some "__init__"))))) && (He.eqO (PySem.W.nsIn K mainGlobals "is_cuts") (some (some (.ref (He.fAd K ("is_cuts", none))))) && (He.eqO (PySem.W.nsIn K mainGlobals "pieces_of") (some (some (.ref (He.fAd K ("pieces_of", none))))) && (He.eqO (PySem.W.nsIn K mainGlobals "all_cuts") (some (some (.ref (He.fAd K ("all_cuts", none))))) && (He.eqO (PySem.W.nsIn K mainGlobals "sums_ahead") (some (some (.ref (He.fAd K ("sums_ahead", none))))) && (He.eqO (PySem.W.nsIn K mainGlobals "last_cut") (some (some (.ref (He.fAd K ("last_cut", none))))) && (He.eqO (PySem.W.nsIn K mainGlobals "gives_halves") (some (some (.ref (He.fAd K ("gives_halves", none))))) && (He.eqO (PySem.W.findIn K (.ref (He.ga K "Thread")) "stood") (some (some (.ref (He.fAd K ("Thread", some "stood"))))) && (He.eqO (PySem.W.nsIn K mainGlobals "_law_box") (some (some (.ref (He.fAd K ("_law_box", none))))) && (He.eqO (PySem.W.nsIn K mainGlobals "_law_mixed") (some (some (.ref (He.fAd K ("_law_mixed", none))))) && (He.eqO (PySem.W.nsIn K mainGlobals "_law_odd") (some (some (.ref (He.fAd K ("_law_odd", none))))) && (He.eqO (PySem.W.nsIn K mainGlobals "_law_bad") (some (some (.ref (He.fAd K ("_law_bad", none))))) && (He.eqO (PySem.W.nsIn K mainGlobals "all_cuts") (some (some (.ref (He.fAd K ("all_cuts", none))))) && (He.eqO (PySem.W.findIn K (.ref (He.ga K "Thread")) "done") (some (some (.ref (He.fAd K ("Thread", some "done"))))) && (He.eqO (PySem.W.findIn K (.ref (He.ga K "Thread")) "pieces") (some (some (.ref (He.fAd K ("Thread", some "pieces"))))) && (He.eqO (PySem.W.nsIn K mainGlobals "_law_take") (some (some (.ref (He.fAd K ("_law_take", none))))) && (He.eqO (PySem.W.nsIn K mainGlobals "ask_beads") (some (some (.ref (He.fAd K ("ask_beads", none))))) && true)))))))))))))))))))))))
theorem fx0_ok {K : PySem.W.Frag} (h0 : fx0 K = true) : (PySem.W.nsIn K mainGlobals "CrumbError" = some (some (.ref (He.ga K "CrumbError")))) ∧ (PySem.W.nsIn K mainGlobals "NoBeads" = some (some (.ref (He.ga K "NoBeads")))) ∧ (PySem.W.nsIn K mainGlobals "Odd" = some (some (.ref (He.ga K "Odd")))) ∧ (PySem.W.nsIn K mainGlobals "NoCut" = some (some (.ref (He.ga K "NoCut")))) ∧ (PySem.W.nsIn K mainGlobals "Thread" = some (some (.ref (He.ga K "Thread")))) ∧ (PySem.W.findIn K (.ref (He.ga K "NoBeads")) "__init__" = some (some (.ref (He.fAd K ("NoBeads", some "__init__"))))) ∧ (PySem.W.findIn K (.ref (He.ga K "Odd")) "__init__" = some (some (.ref (He.fAd K ("Odd", some "__init__"))))) ∧ (PySem.W.findIn K (.ref (He.ga K "NoCut")) "__init__" = some (some (.ref (He.fAd K ("NoCut", some "__init__"))))) ∧ (PySem.W.nsIn K mainGlobals "is_cuts" = some (some (.ref (He.fAd K ("is_cuts", none))))) ∧ (PySem.W.nsIn K mainGlobals "pieces_of" = some (some (.ref (He.fAd K ("pieces_of", none))))) ∧ (PySem.W.nsIn K mainGlobals "all_cuts" = some (some (.ref (He.fAd K ("all_cuts", none))))) ∧ (PySem.W.nsIn K mainGlobals "sums_ahead" = some (some (.ref (He.fAd K ("sums_ahead", none))))) ∧ (PySem.W.nsIn K mainGlobals "last_cut" = some (some (.ref (He.fAd K ("last_cut", none))))) ∧ (PySem.W.nsIn K mainGlobals "gives_halves" = some (some (.ref (He.fAd K ("gives_halves", none))))) ∧ (PySem.W.findIn K (.ref (He.ga K "Thread")) "stood" = some (some (.ref (He.fAd K ("Thread", some "stood"))))) ∧ (PySem.W.nsIn K mainGlobals "_law_box" = some (some (.ref (He.fAd K ("_law_box", none))))) ∧ (PySem.W.nsIn K mainGlobals "_law_mixed" = some (some (.ref (He.fAd K ("_law_mixed", none))))) ∧ (PySem.W.nsIn K mainGlobals "_law_odd" = some (some (.ref (He.fAd K ("_law_odd", none))))) ∧ (PySem.W.nsIn K mainGlobals "_law_bad" = some (some (.ref (He.fAd K ("_law_bad", none))))) ∧ (PySem.W.nsIn K mainGlobals "all_cuts" = some (some (.ref (He.fAd K ("all_cuts", none))))) ∧ (PySem.W.findIn K (.ref (He.ga K "Thread")) "done" = some (some (.ref (He.fAd K ("Thread", some "done"))))) ∧ (PySem.W.findIn K (.ref (He.ga K "Thread")) "pieces" = some (some (.ref (He.fAd K ("Thread", some "pieces"))))) ∧ (PySem.W.nsIn K mainGlobals "_law_take" = some (some (.ref (He.fAd K ("_law_take", none))))) ∧ (PySem.W.nsIn K mainGlobals "ask_beads" = some (some (.ref (He.fAd K ("ask_beads", none))))) ∧ True := by
  have h1 := (He.ba h0).2
  have h2 := (He.ba h1).2
  have h3 := (He.ba h2).2
  have h4 := (He.ba h3).2
  have h5 := (He.ba h4).2
  have h6 := (He.ba h5).2
  have h7 := (He.ba h6).2
  have h8 := (He.ba h7).2
  have h9 := (He.ba h8).2
  have h10 := (He.ba h9).2
  have h11 := (He.ba h10).2
  have h12 := (He.ba h11).2
  have h13 := (He.ba h12).2
  have h14 := (He.ba h13).2
  have h15 := (He.ba h14).2
  have h16 := (He.ba h15).2
  have h17 := (He.ba h16).2
  have h18 := (He.ba h17).2
  have h19 := (He.ba h18).2
  have h20 := (He.ba h19).2
  have h21 := (He.ba h20).2
  have h22 := (He.ba h21).2
  have h23 := (He.ba h22).2
  have h24 := (He.ba h23).2
  exact And.intro (He.eqO_ok (He.ba h0).1) (And.intro (He.eqO_ok (He.ba h1).1) (And.intro (He.eqO_ok (He.ba h2).1) (And.intro (He.eqO_ok (He.ba h3).1) (And.intro (He.eqO_ok (He.ba h4).1) (And.intro (He.eqO_ok (He.ba h5).1) (And.intro (He.eqO_ok (He.ba h6).1) (And.intro (He.eqO_ok (He.ba h7).1) (And.intro (He.eqO_ok (He.ba h8).1) (And.intro (He.eqO_ok (He.ba h9).1) (And.intro (He.eqO_ok (He.ba h10).1) (And.intro (He.eqO_ok (He.ba h11).1) (And.intro (He.eqO_ok (He.ba h12).1) (And.intro (He.eqO_ok (He.ba h13).1) (And.intro (He.eqO_ok (He.ba h14).1) (And.intro (He.eqO_ok (He.ba h15).1) (And.intro (He.eqO_ok (He.ba h16).1) (And.intro (He.eqO_ok (He.ba h17).1) (And.intro (He.eqO_ok (He.ba h18).1) (And.intro (He.eqO_ok (He.ba h19).1) (And.intro (He.eqO_ok (He.ba h20).1) (And.intro (He.eqO_ok (He.ba h21).1) (And.intro (He.eqO_ok (He.ba h22).1) (And.intro (He.eqO_ok (He.ba h23).1) True.intro)))))))))))))))))))))))
def fx1 (K : PySem.W.Frag) : Bool := He.eqO (PySem.W.nsIn K mainGlobals "all_cuts") (some (some (.ref (He.fAd K ("all_cuts", none))))) && (He.eqO (PySem.W.findIn K (.ref (He.ga K "Thread")) "cut") (some (some (.ref (He.fAd K ("Thread", some "cut"))))) && (He.eqO (PySem.W.findIn K (.ref (He.ga K "Thread")) "flip") (some (some (.ref (He.fAd K ("Thread", some "flip"))))) && (He.eqO (PySem.W.findIn K (.ref (He.ga K "Thread")) "shown") (some (some (.ref (He.fAd K ("Thread", some "shown"))))) && (He.eqO (PySem.W.nsIn K mainGlobals "_law_beads") (some (some (.ref (He.fAd K ("_law_beads", none))))) && (He.eqO (PySem.W.nsIn K mainGlobals "_law_signed") (some (some (.ref (He.fAd K ("_law_signed", none))))) && (He.eqO (PySem.W.nsIn K mainGlobals "fewest_cuts") (some (some (.ref (He.fAd K ("fewest_cuts", none))))) && (He.eqO (PySem.W.findIn K (.ref (He.ga K "Thread")) "__init__") (some (some (.ref (He.fAd K ("Thread", some "__init__"))))) && (He.eqO (PySem.W.findIn K (.ref (He.ga K "Thread")) "__str__") (some (some (.ref (He.fAd K ("Thread", some "__str__"))))) && (He.eqO (PySem.W.nsIn K mainGlobals "_law_text") (some (some (.ref (He.fAd K ("_law_text", none))))) && (He.eqO (PySem.W.findIn K (.ref (He.ga K "Thread")) "settle") (some (some (.ref (He.fAd K ("Thread", some "settle"))))) && (He.eqO (PySem.W.nsIn K mainGlobals "_law_asked") (some (some (.ref (He.fAd K ("_law_asked", none))))) && (He.eqO (PySem.W.nsIn K mainGlobals "_law_left") (some (some (.ref (He.fAd K ("_law_left", none))))) && (He.eqO (PySem.W.nsIn K mainGlobals "law") (some (some (.ref (He.fAd K ("law", none))))) && (PySem.W.plainGet K (He.ga K "Thread") Str.empty && (PySem.W.hasDictIn K (He.ga K "Thread") && (PySem.W.plainOver K (He.ga K "Thread") && (He.eqO (PySem.W.findIn K (.ref (He.ga K "Thread")) "__setattr__") (some (some (.builtin "object.__setattr__"))) && (PySem.W.makesIn K (He.ga K "Thread") && (He.eqO (PySem.W.findIn K (.ref (He.ga K "Thread")) "__init__") (some (some (.ref (He.fAd K ("Thread", some "__init__"))))) && (PySem.W.isFn K (.ref (He.fAd K ("Thread", some "__init__"))) && (PySem.W.keepIn K (.ref (He.ga K "Thread")) && (He.eqO (PySem.W.findIn K (.ref (He.ga K "Thread")) "__str__") (some (some (.ref (He.fAd K ("Thread", some "__str__"))))) && (PySem.W.isFn K (.ref (He.fAd K ("Thread", some "__str__"))) && true)))))))))))))))))))))))
theorem fx1_ok {K : PySem.W.Frag} (h0 : fx1 K = true) : (PySem.W.nsIn K mainGlobals "all_cuts" = some (some (.ref (He.fAd K ("all_cuts", none))))) ∧ (PySem.W.findIn K (.ref (He.ga K "Thread")) "cut" = some (some (.ref (He.fAd K ("Thread", some "cut"))))) ∧ (PySem.W.findIn K (.ref (He.ga K "Thread")) "flip" = some (some (.ref (He.fAd K ("Thread", some "flip"))))) ∧ (PySem.W.findIn K (.ref (He.ga K "Thread")) "shown" = some (some (.ref (He.fAd K ("Thread", some "shown"))))) ∧ (PySem.W.nsIn K mainGlobals "_law_beads" = some (some (.ref (He.fAd K ("_law_beads", none))))) ∧ (PySem.W.nsIn K mainGlobals "_law_signed" = some (some (.ref (He.fAd K ("_law_signed", none))))) ∧ (PySem.W.nsIn K mainGlobals "fewest_cuts" = some (some (.ref (He.fAd K ("fewest_cuts", none))))) ∧ (PySem.W.findIn K (.ref (He.ga K "Thread")) "__init__" = some (some (.ref (He.fAd K ("Thread", some "__init__"))))) ∧ (PySem.W.findIn K (.ref (He.ga K "Thread")) "__str__" = some (some (.ref (He.fAd K ("Thread", some "__str__"))))) ∧ (PySem.W.nsIn K mainGlobals "_law_text" = some (some (.ref (He.fAd K ("_law_text", none))))) ∧ (PySem.W.findIn K (.ref (He.ga K "Thread")) "settle" = some (some (.ref (He.fAd K ("Thread", some "settle"))))) ∧ (PySem.W.nsIn K mainGlobals "_law_asked" = some (some (.ref (He.fAd K ("_law_asked", none))))) ∧ (PySem.W.nsIn K mainGlobals "_law_left" = some (some (.ref (He.fAd K ("_law_left", none))))) ∧ (PySem.W.nsIn K mainGlobals "law" = some (some (.ref (He.fAd K ("law", none))))) ∧ (PySem.W.plainGet K (He.ga K "Thread") Str.empty = true) ∧ (PySem.W.hasDictIn K (He.ga K "Thread") = true) ∧ (PySem.W.plainOver K (He.ga K "Thread") = true) ∧ (PySem.W.findIn K (.ref (He.ga K "Thread")) "__setattr__" = some (some (.builtin "object.__setattr__"))) ∧ (PySem.W.makesIn K (He.ga K "Thread") = true) ∧ (PySem.W.findIn K (.ref (He.ga K "Thread")) "__init__" = some (some (.ref (He.fAd K ("Thread", some "__init__"))))) ∧ (PySem.W.isFn K (.ref (He.fAd K ("Thread", some "__init__"))) = true) ∧ (PySem.W.keepIn K (.ref (He.ga K "Thread")) = true) ∧ (PySem.W.findIn K (.ref (He.ga K "Thread")) "__str__" = some (some (.ref (He.fAd K ("Thread", some "__str__"))))) ∧ (PySem.W.isFn K (.ref (He.fAd K ("Thread", some "__str__"))) = true) ∧ True := by
  have h1 := (He.ba h0).2
  have h2 := (He.ba h1).2
  have h3 := (He.ba h2).2
  have h4 := (He.ba h3).2
  have h5 := (He.ba h4).2
  have h6 := (He.ba h5).2
  have h7 := (He.ba h6).2
  have h8 := (He.ba h7).2
  have h9 := (He.ba h8).2
  have h10 := (He.ba h9).2
  have h11 := (He.ba h10).2
  have h12 := (He.ba h11).2
  have h13 := (He.ba h12).2
  have h14 := (He.ba h13).2
  have h15 := (He.ba h14).2
  have h16 := (He.ba h15).2
  have h17 := (He.ba h16).2
  have h18 := (He.ba h17).2
  have h19 := (He.ba h18).2
  have h20 := (He.ba h19).2
  have h21 := (He.ba h20).2
  have h22 := (He.ba h21).2
  have h23 := (He.ba h22).2
  have h24 := (He.ba h23).2
  exact And.intro (He.eqO_ok (He.ba h0).1) (And.intro (He.eqO_ok (He.ba h1).1) (And.intro (He.eqO_ok (He.ba h2).1) (And.intro (He.eqO_ok (He.ba h3).1) (And.intro (He.eqO_ok (He.ba h4).1) (And.intro (He.eqO_ok (He.ba h5).1) (And.intro (He.eqO_ok (He.ba h6).1) (And.intro (He.eqO_ok (He.ba h7).1) (And.intro (He.eqO_ok (He.ba h8).1) (And.intro (He.eqO_ok (He.ba h9).1) (And.intro (He.eqO_ok (He.ba h10).1) (And.intro (He.eqO_ok (He.ba h11).1) (And.intro (He.eqO_ok (He.ba h12).1) (And.intro (He.eqO_ok (He.ba h13).1) (And.intro (id (He.ba h14).1) (And.intro (id (He.ba h15).1) (And.intro (id (He.ba h16).1) (And.intro (He.eqO_ok (He.ba h17).1) (And.intro (id (He.ba h18).1) (And.intro (He.eqO_ok (He.ba h19).1) (And.intro (id (He.ba h20).1) (And.intro (id (He.ba h21).1) (And.intro (He.eqO_ok (He.ba h22).1) (And.intro (id (He.ba h23).1) True.intro)))))))))))))))))))))))
def fx2 (K : PySem.W.Frag) : Bool := He.eqO (PySem.W.findIn K (.ref (He.ga K "Thread")) "cut") (some (some (.ref (He.fAd K ("Thread", some "cut"))))) && (PySem.W.isFn K (.ref (He.fAd K ("Thread", some "cut"))) && (He.eqO (PySem.W.findIn K (.ref (He.ga K "Thread")) "done") (some (some (.ref (He.fAd K ("Thread", some "done"))))) && (PySem.W.isFn K (.ref (He.fAd K ("Thread", some "done"))) && (He.eqO (PySem.W.findIn K (.ref (He.ga K "Thread")) "flip") (some (some (.ref (He.fAd K ("Thread", some "flip"))))) && (PySem.W.isFn K (.ref (He.fAd K ("Thread", some "flip"))) && (He.eqO (PySem.W.findIn K (.ref (He.ga K "Thread")) "pieces") (some (some (.ref (He.fAd K ("Thread", some "pieces"))))) && (PySem.W.isFn K (.ref (He.fAd K ("Thread", some "pieces"))) && (He.eqO (PySem.W.findIn K (.ref (He.ga K "Thread")) "settle") (some (some (.ref (He.fAd K ("Thread", some "settle"))))) && (PySem.W.isFn K (.ref (He.fAd K ("Thread", some "settle"))) && (He.eqO (PySem.W.findIn K (.ref (He.ga K "Thread")) "shown") (some (some (.ref (He.fAd K ("Thread", some "shown"))))) && (PySem.W.isFn K (.ref (He.fAd K ("Thread", some "shown"))) && (He.eqO (PySem.W.findIn K (.ref (He.ga K "Thread")) "stood") (some (some (.ref (He.fAd K ("Thread", some "stood"))))) && (PySem.W.isFn K (.ref (He.fAd K ("Thread", some "stood"))) && (He.eqO (PySem.W.findIn K (.ref (He.ga K "Thread")) "beads") (some none) && (He.eqO (PySem.W.findIn K (.ref (He.ga K "Thread")) "later") (some none) && (He.eqO (PySem.W.findIn K (.ref (He.ga K "Thread")) "lead") (some none) && (He.eqO (PySem.W.findIn K (.ref (He.ga K "Thread")) "past") (some none) && (He.eqO (PySem.W.findIn K (.ref (He.ga K "Thread")) "spots") (some none) && (He.eqO (PySem.W.nsIn K mainGlobals "ValueError") (some none) && (He.eqO (PySem.W.nsIn K mainGlobals "all") (some none) && (He.eqO (PySem.W.nsIn K mainGlobals "bool") (some none) && (He.eqO (PySem.W.nsIn K mainGlobals "enumerate") (some none) && (He.eqO (PySem.W.nsIn K mainGlobals "int") (some none) && true)))))))))))))))))))))))
theorem fx2_ok {K : PySem.W.Frag} (h0 : fx2 K = true) : (PySem.W.findIn K (.ref (He.ga K "Thread")) "cut" = some (some (.ref (He.fAd K ("Thread", some "cut"))))) ∧ (PySem.W.isFn K (.ref (He.fAd K ("Thread", some "cut"))) = true) ∧ (PySem.W.findIn K (.ref (He.ga K "Thread")) "done" = some (some (.ref (He.fAd K ("Thread", some "done"))))) ∧ (PySem.W.isFn K (.ref (He.fAd K ("Thread", some "done"))) = true) ∧ (PySem.W.findIn K (.ref (He.ga K "Thread")) "flip" = some (some (.ref (He.fAd K ("Thread", some "flip"))))) ∧ (PySem.W.isFn K (.ref (He.fAd K ("Thread", some "flip"))) = true) ∧ (PySem.W.findIn K (.ref (He.ga K "Thread")) "pieces" = some (some (.ref (He.fAd K ("Thread", some "pieces"))))) ∧ (PySem.W.isFn K (.ref (He.fAd K ("Thread", some "pieces"))) = true) ∧ (PySem.W.findIn K (.ref (He.ga K "Thread")) "settle" = some (some (.ref (He.fAd K ("Thread", some "settle"))))) ∧ (PySem.W.isFn K (.ref (He.fAd K ("Thread", some "settle"))) = true) ∧ (PySem.W.findIn K (.ref (He.ga K "Thread")) "shown" = some (some (.ref (He.fAd K ("Thread", some "shown"))))) ∧ (PySem.W.isFn K (.ref (He.fAd K ("Thread", some "shown"))) = true) ∧ (PySem.W.findIn K (.ref (He.ga K "Thread")) "stood" = some (some (.ref (He.fAd K ("Thread", some "stood"))))) ∧ (PySem.W.isFn K (.ref (He.fAd K ("Thread", some "stood"))) = true) ∧ (PySem.W.findIn K (.ref (He.ga K "Thread")) "beads" = some none) ∧ (PySem.W.findIn K (.ref (He.ga K "Thread")) "later" = some none) ∧ (PySem.W.findIn K (.ref (He.ga K "Thread")) "lead" = some none) ∧ (PySem.W.findIn K (.ref (He.ga K "Thread")) "past" = some none) ∧ (PySem.W.findIn K (.ref (He.ga K "Thread")) "spots" = some none) ∧ (PySem.W.nsIn K mainGlobals "ValueError" = some none) ∧ (PySem.W.nsIn K mainGlobals "all" = some none) ∧ (PySem.W.nsIn K mainGlobals "bool" = some none) ∧ (PySem.W.nsIn K mainGlobals "enumerate" = some none) ∧ (PySem.W.nsIn K mainGlobals "int" = some none) ∧ True := by
  have h1 := (He.ba h0).2
  have h2 := (He.ba h1).2
  have h3 := (He.ba h2).2
  have h4 := (He.ba h3).2
  have h5 := (He.ba h4).2
  have h6 := (He.ba h5).2
  have h7 := (He.ba h6).2
  have h8 := (He.ba h7).2
  have h9 := (He.ba h8).2
  have h10 := (He.ba h9).2
  have h11 := (He.ba h10).2
  have h12 := (He.ba h11).2
  have h13 := (He.ba h12).2
  have h14 := (He.ba h13).2
  have h15 := (He.ba h14).2
  have h16 := (He.ba h15).2
  have h17 := (He.ba h16).2
  have h18 := (He.ba h17).2
  have h19 := (He.ba h18).2
  have h20 := (He.ba h19).2
  have h21 := (He.ba h20).2
  have h22 := (He.ba h21).2
  have h23 := (He.ba h22).2
  have h24 := (He.ba h23).2
  exact And.intro (He.eqO_ok (He.ba h0).1) (And.intro (id (He.ba h1).1) (And.intro (He.eqO_ok (He.ba h2).1) (And.intro (id (He.ba h3).1) (And.intro (He.eqO_ok (He.ba h4).1) (And.intro (id (He.ba h5).1) (And.intro (He.eqO_ok (He.ba h6).1) (And.intro (id (He.ba h7).1) (And.intro (He.eqO_ok (He.ba h8).1) (And.intro (id (He.ba h9).1) (And.intro (He.eqO_ok (He.ba h10).1) (And.intro (id (He.ba h11).1) (And.intro (He.eqO_ok (He.ba h12).1) (And.intro (id (He.ba h13).1) (And.intro (He.eqO_ok (He.ba h14).1) (And.intro (He.eqO_ok (He.ba h15).1) (And.intro (He.eqO_ok (He.ba h16).1) (And.intro (He.eqO_ok (He.ba h17).1) (And.intro (He.eqO_ok (He.ba h18).1) (And.intro (He.eqO_ok (He.ba h19).1) (And.intro (He.eqO_ok (He.ba h20).1) (And.intro (He.eqO_ok (He.ba h21).1) (And.intro (He.eqO_ok (He.ba h22).1) (And.intro (He.eqO_ok (He.ba h23).1) True.intro)))))))))))))))))))))))
def fx3 (K : PySem.W.Frag) : Bool := He.eqO (PySem.W.nsIn K mainGlobals "isinstance") (some none) && (He.eqO (PySem.W.nsIn K mainGlobals "len") (some none) && (He.eqO (PySem.W.nsIn K mainGlobals "list") (some none) && (He.eqO (PySem.W.nsIn K mainGlobals "max") (some none) && (He.eqO (PySem.W.nsIn K mainGlobals "range") (some none) && (He.eqO (PySem.W.nsIn K mainGlobals "sorted") (some none) && (He.eqO (PySem.W.nsIn K mainGlobals "str") (some none) && (He.eqO (PySem.W.nsIn K mainGlobals "sum") (some none) && (He.eqO (PySem.W.nsIn K mainGlobals "zip") (some none) && (strK K "LETTERS" "abc" && (intK K "MOST_BEADS" 24 && (decide (PySem.W.subIn K (.ref (He.ga K "CrumbError")) (.type "BaseException") = some true) && (decide (PySem.W.typeIn K (.ref (He.ga K "CrumbError")) = some (.type "type")) && (decide (PySem.W.subIn K (.ref (He.ga K "NoBeads")) (.type "BaseException") = some true) && (decide (PySem.W.typeIn K (.ref (He.ga K "NoBeads")) = some (.type "type")) && (decide (PySem.W.subIn K (.ref (He.ga K "Odd")) (.type "BaseException") = some true) && (decide (PySem.W.typeIn K (.ref (He.ga K "Odd")) = some (.type "type")) && (PySem.W.hasDictIn K (He.ga K "CrumbError") && (decide (PySem.W.subIn K (.ref (He.ga K "CrumbError")) (.ref (He.ga K "CrumbError")) = some true) && (decide (PySem.W.subIn K (.ref (He.ga K "NoBeads")) (.ref (He.ga K "CrumbError")) = some true) && (decide (PySem.W.subIn K (.ref (He.ga K "Odd")) (.ref (He.ga K "CrumbError")) = some true) && (decide (PySem.W.subIn K (.ref (He.ga K "NoCut")) (.ref (He.ga K "CrumbError")) = some true) && (PySem.W.hasDictIn K (He.ga K "NoBeads") && (decide (PySem.W.subIn K (.ref (He.ga K "CrumbError")) (.ref (He.ga K "NoBeads")) = some false) && true)))))))))))))))))))))))
theorem fx3_ok {K : PySem.W.Frag} (h0 : fx3 K = true) : (PySem.W.nsIn K mainGlobals "isinstance" = some none) ∧ (PySem.W.nsIn K mainGlobals "len" = some none) ∧ (PySem.W.nsIn K mainGlobals "list" = some none) ∧ (PySem.W.nsIn K mainGlobals "max" = some none) ∧ (PySem.W.nsIn K mainGlobals "range" = some none) ∧ (PySem.W.nsIn K mainGlobals "sorted" = some none) ∧ (PySem.W.nsIn K mainGlobals "str" = some none) ∧ (PySem.W.nsIn K mainGlobals "sum" = some none) ∧ (PySem.W.nsIn K mainGlobals "zip" = some none) ∧ (strK K "LETTERS" "abc" = true) ∧ (intK K "MOST_BEADS" 24 = true) ∧ (PySem.W.subIn K (.ref (He.ga K "CrumbError")) (.type "BaseException") = some true) ∧ (PySem.W.typeIn K (.ref (He.ga K "CrumbError")) = some (.type "type")) ∧ (PySem.W.subIn K (.ref (He.ga K "NoBeads")) (.type "BaseException") = some true) ∧ (PySem.W.typeIn K (.ref (He.ga K "NoBeads")) = some (.type "type")) ∧ (PySem.W.subIn K (.ref (He.ga K "Odd")) (.type "BaseException") = some true) ∧ (PySem.W.typeIn K (.ref (He.ga K "Odd")) = some (.type "type")) ∧ (PySem.W.hasDictIn K (He.ga K "CrumbError") = true) ∧ (PySem.W.subIn K (.ref (He.ga K "CrumbError")) (.ref (He.ga K "CrumbError")) = some true) ∧ (PySem.W.subIn K (.ref (He.ga K "NoBeads")) (.ref (He.ga K "CrumbError")) = some true) ∧ (PySem.W.subIn K (.ref (He.ga K "Odd")) (.ref (He.ga K "CrumbError")) = some true) ∧ (PySem.W.subIn K (.ref (He.ga K "NoCut")) (.ref (He.ga K "CrumbError")) = some true) ∧ (PySem.W.hasDictIn K (He.ga K "NoBeads") = true) ∧ (PySem.W.subIn K (.ref (He.ga K "CrumbError")) (.ref (He.ga K "NoBeads")) = some false) ∧ True := by
  have h1 := (He.ba h0).2
  have h2 := (He.ba h1).2
  have h3 := (He.ba h2).2
  have h4 := (He.ba h3).2
  have h5 := (He.ba h4).2
  have h6 := (He.ba h5).2
  have h7 := (He.ba h6).2
  have h8 := (He.ba h7).2
  have h9 := (He.ba h8).2
  have h10 := (He.ba h9).2
  have h11 := (He.ba h10).2
  have h12 := (He.ba h11).2
  have h13 := (He.ba h12).2
  have h14 := (He.ba h13).2
  have h15 := (He.ba h14).2
  have h16 := (He.ba h15).2
  have h17 := (He.ba h16).2
  have h18 := (He.ba h17).2
  have h19 := (He.ba h18).2
  have h20 := (He.ba h19).2
  have h21 := (He.ba h20).2
  have h22 := (He.ba h21).2
  have h23 := (He.ba h22).2
  have h24 := (He.ba h23).2
  exact And.intro (He.eqO_ok (He.ba h0).1) (And.intro (He.eqO_ok (He.ba h1).1) (And.intro (He.eqO_ok (He.ba h2).1) (And.intro (He.eqO_ok (He.ba h3).1) (And.intro (He.eqO_ok (He.ba h4).1) (And.intro (He.eqO_ok (He.ba h5).1) (And.intro (He.eqO_ok (He.ba h6).1) (And.intro (He.eqO_ok (He.ba h7).1) (And.intro (He.eqO_ok (He.ba h8).1) (And.intro (id (He.ba h9).1) (And.intro (id (He.ba h10).1) (And.intro (of_decide_eq_true (He.ba h11).1) (And.intro (of_decide_eq_true (He.ba h12).1) (And.intro (of_decide_eq_true (He.ba h13).1) (And.intro (of_decide_eq_true (He.ba h14).1) (And.intro (of_decide_eq_true (He.ba h15).1) (And.intro (of_decide_eq_true (He.ba h16).1) (And.intro (id (He.ba h17).1) (And.intro (of_decide_eq_true (He.ba h18).1) (And.intro (of_decide_eq_true (He.ba h19).1) (And.intro (of_decide_eq_true (He.ba h20).1) (And.intro (of_decide_eq_true (He.ba h21).1) (And.intro (id (He.ba h22).1) (And.intro (of_decide_eq_true (He.ba h23).1) True.intro)))))))))))))))))))))))
def fx4 (K : PySem.W.Frag) : Bool := decide (PySem.W.subIn K (.ref (He.ga K "NoBeads")) (.ref (He.ga K "NoBeads")) = some true) && (decide (PySem.W.subIn K (.ref (He.ga K "Odd")) (.ref (He.ga K "NoBeads")) = some false) && (decide (PySem.W.subIn K (.ref (He.ga K "NoCut")) (.ref (He.ga K "NoBeads")) = some false) && (PySem.W.hasDictIn K (He.ga K "Odd") && (decide (PySem.W.subIn K (.ref (He.ga K "CrumbError")) (.ref (He.ga K "Odd")) = some false) && (decide (PySem.W.subIn K (.ref (He.ga K "NoBeads")) (.ref (He.ga K "Odd")) = some false) && (decide (PySem.W.subIn K (.ref (He.ga K "Odd")) (.ref (He.ga K "Odd")) = some true) && (decide (PySem.W.subIn K (.ref (He.ga K "NoCut")) (.ref (He.ga K "Odd")) = some false) && (He.eqO (PySem.W.findIn K (.ref (He.ga K "CrumbError")) "__getattribute__") (some (some (.builtin "BaseException.__getattribute__"))) && (He.eqO (PySem.W.findIn K (.ref (He.ga K "CrumbError")) "__getattr__") (some none) && (decide (PySem.W.subIn K (.ref (He.ga K "CrumbError")) (.type "BaseException") = some true) && (PySem.W.hasDictIn K (He.ga K "CrumbError") && (He.eqO (PySem.W.findIn K (.ref (He.ga K "CrumbError")) "__class__") (some (some (.builtin "object.__class__"))) && (He.eqO (PySem.W.specialIn K (.builtin "object.__class__") "__get__") (some (some (.builtin "getset_descriptor.__get__"))) && (decide (PySem.W.takesIn K (.builtin "object.__class__") = some true) && (decide (PySem.W.mroIn K (He.ga K "CrumbError") (.type "object") = some true) && (He.eqO (PySem.W.findIn K (.ref (He.ga K "NoBeads")) "__getattribute__") (some (some (.builtin "BaseException.__getattribute__"))) && (He.eqO (PySem.W.findIn K (.ref (He.ga K "NoBeads")) "__getattr__") (some none) && (decide (PySem.W.subIn K (.ref (He.ga K "NoBeads")) (.type "BaseException") = some true) && (PySem.W.hasDictIn K (He.ga K "NoBeads") && (He.eqO (PySem.W.findIn K (.ref (He.ga K "NoBeads")) "__class__") (some (some (.builtin "object.__class__"))) && (He.eqO (PySem.W.specialIn K (.builtin "object.__class__") "__get__") (some (some (.builtin "getset_descriptor.__get__"))) && (decide (PySem.W.takesIn K (.builtin "object.__class__") = some true) && (decide (PySem.W.mroIn K (He.ga K "NoBeads") (.type "object") = some true) && true)))))))))))))))))))))))
theorem fx4_ok {K : PySem.W.Frag} (h0 : fx4 K = true) : (PySem.W.subIn K (.ref (He.ga K "NoBeads")) (.ref (He.ga K "NoBeads")) = some true) ∧ (PySem.W.subIn K (.ref (He.ga K "Odd")) (.ref (He.ga K "NoBeads")) = some false) ∧ (PySem.W.subIn K (.ref (He.ga K "NoCut")) (.ref (He.ga K "NoBeads")) = some false) ∧ (PySem.W.hasDictIn K (He.ga K "Odd") = true) ∧ (PySem.W.subIn K (.ref (He.ga K "CrumbError")) (.ref (He.ga K "Odd")) = some false) ∧ (PySem.W.subIn K (.ref (He.ga K "NoBeads")) (.ref (He.ga K "Odd")) = some false) ∧ (PySem.W.subIn K (.ref (He.ga K "Odd")) (.ref (He.ga K "Odd")) = some true) ∧ (PySem.W.subIn K (.ref (He.ga K "NoCut")) (.ref (He.ga K "Odd")) = some false) ∧ (PySem.W.findIn K (.ref (He.ga K "CrumbError")) "__getattribute__" = some (some (.builtin "BaseException.__getattribute__"))) ∧ (PySem.W.findIn K (.ref (He.ga K "CrumbError")) "__getattr__" = some none) ∧ (PySem.W.subIn K (.ref (He.ga K "CrumbError")) (.type "BaseException") = some true) ∧ (PySem.W.hasDictIn K (He.ga K "CrumbError") = true) ∧ (PySem.W.findIn K (.ref (He.ga K "CrumbError")) "__class__" = some (some (.builtin "object.__class__"))) ∧ (PySem.W.specialIn K (.builtin "object.__class__") "__get__" = some (some (.builtin "getset_descriptor.__get__"))) ∧ (PySem.W.takesIn K (.builtin "object.__class__") = some true) ∧ (PySem.W.mroIn K (He.ga K "CrumbError") (.type "object") = some true) ∧ (PySem.W.findIn K (.ref (He.ga K "NoBeads")) "__getattribute__" = some (some (.builtin "BaseException.__getattribute__"))) ∧ (PySem.W.findIn K (.ref (He.ga K "NoBeads")) "__getattr__" = some none) ∧ (PySem.W.subIn K (.ref (He.ga K "NoBeads")) (.type "BaseException") = some true) ∧ (PySem.W.hasDictIn K (He.ga K "NoBeads") = true) ∧ (PySem.W.findIn K (.ref (He.ga K "NoBeads")) "__class__" = some (some (.builtin "object.__class__"))) ∧ (PySem.W.specialIn K (.builtin "object.__class__") "__get__" = some (some (.builtin "getset_descriptor.__get__"))) ∧ (PySem.W.takesIn K (.builtin "object.__class__") = some true) ∧ (PySem.W.mroIn K (He.ga K "NoBeads") (.type "object") = some true) ∧ True := by
  have h1 := (He.ba h0).2
  have h2 := (He.ba h1).2
  have h3 := (He.ba h2).2
  have h4 := (He.ba h3).2
  have h5 := (He.ba h4).2
  have h6 := (He.ba h5).2
  have h7 := (He.ba h6).2
  have h8 := (He.ba h7).2
  have h9 := (He.ba h8).2
  have h10 := (He.ba h9).2
  have h11 := (He.ba h10).2
  have h12 := (He.ba h11).2
  have h13 := (He.ba h12).2
  have h14 := (He.ba h13).2
  have h15 := (He.ba h14).2
  have h16 := (He.ba h15).2
  have h17 := (He.ba h16).2
  have h18 := (He.ba h17).2
  have h19 := (He.ba h18).2
  have h20 := (He.ba h19).2
  have h21 := (He.ba h20).2
  have h22 := (He.ba h21).2
  have h23 := (He.ba h22).2
  have h24 := (He.ba h23).2
  exact And.intro (of_decide_eq_true (He.ba h0).1) (And.intro (of_decide_eq_true (He.ba h1).1) (And.intro (of_decide_eq_true (He.ba h2).1) (And.intro (id (He.ba h3).1) (And.intro (of_decide_eq_true (He.ba h4).1) (And.intro (of_decide_eq_true (He.ba h5).1) (And.intro (of_decide_eq_true (He.ba h6).1) (And.intro (of_decide_eq_true (He.ba h7).1) (And.intro (He.eqO_ok (He.ba h8).1) (And.intro (He.eqO_ok (He.ba h9).1) (And.intro (of_decide_eq_true (He.ba h10).1) (And.intro (id (He.ba h11).1) (And.intro (He.eqO_ok (He.ba h12).1) (And.intro (He.eqO_ok (He.ba h13).1) (And.intro (of_decide_eq_true (He.ba h14).1) (And.intro (of_decide_eq_true (He.ba h15).1) (And.intro (He.eqO_ok (He.ba h16).1) (And.intro (He.eqO_ok (He.ba h17).1) (And.intro (of_decide_eq_true (He.ba h18).1) (And.intro (id (He.ba h19).1) (And.intro (He.eqO_ok (He.ba h20).1) (And.intro (He.eqO_ok (He.ba h21).1) (And.intro (of_decide_eq_true (He.ba h22).1) (And.intro (of_decide_eq_true (He.ba h23).1) True.intro)))))))))))))))))))))))
def fx5 (K : PySem.W.Frag) : Bool := He.eqO (PySem.W.findIn K (.ref (He.ga K "Odd")) "__getattribute__") (some (some (.builtin "BaseException.__getattribute__"))) && (He.eqO (PySem.W.findIn K (.ref (He.ga K "Odd")) "__getattr__") (some none) && (decide (PySem.W.subIn K (.ref (He.ga K "Odd")) (.type "BaseException") = some true) && (PySem.W.hasDictIn K (He.ga K "Odd") && (He.eqO (PySem.W.findIn K (.ref (He.ga K "Odd")) "__class__") (some (some (.builtin "object.__class__"))) && (He.eqO (PySem.W.specialIn K (.builtin "object.__class__") "__get__") (some (some (.builtin "getset_descriptor.__get__"))) && (decide (PySem.W.takesIn K (.builtin "object.__class__") = some true) && (decide (PySem.W.mroIn K (He.ga K "Odd") (.type "object") = some true) && (He.eqO (PySem.W.findIn K (.ref (He.ga K "NoCut")) "__getattribute__") (some (some (.builtin "BaseException.__getattribute__"))) && (He.eqO (PySem.W.findIn K (.ref (He.ga K "NoCut")) "__getattr__") (some none) && (decide (PySem.W.subIn K (.ref (He.ga K "NoCut")) (.type "BaseException") = some true) && (PySem.W.hasDictIn K (He.ga K "NoCut") && (He.eqO (PySem.W.findIn K (.ref (He.ga K "NoCut")) "__class__") (some (some (.builtin "object.__class__"))) && (He.eqO (PySem.W.specialIn K (.builtin "object.__class__") "__get__") (some (some (.builtin "getset_descriptor.__get__"))) && (decide (PySem.W.takesIn K (.builtin "object.__class__") = some true) && (decide (PySem.W.mroIn K (He.ga K "NoCut") (.type "object") = some true) && (decide (PySem.W.kitOne K (.ref (He.ga K "CrumbError")) (.ref (He.ga K "CrumbError")) = some true) && (decide (PySem.W.kitOne K (.ref (He.ga K "NoBeads")) (.ref (He.ga K "CrumbError")) = some true) && (decide (PySem.W.kitOne K (.ref (He.ga K "Odd")) (.ref (He.ga K "CrumbError")) = some true) && (decide (PySem.W.kitOne K (.ref (He.ga K "NoCut")) (.ref (He.ga K "CrumbError")) = some true) && (decide (PySem.W.kitOne K (.ref (He.ga K "CrumbError")) (.ref (He.ga K "Odd")) = some false) && (decide (PySem.W.kitOne K (.ref (He.ga K "NoBeads")) (.ref (He.ga K "Odd")) = some false) && (decide (PySem.W.kitOne K (.ref (He.ga K "Odd")) (.ref (He.ga K "Odd")) = some true) && (decide (PySem.W.kitOne K (.ref (He.ga K "NoCut")) (.ref (He.ga K "Odd")) = some false) && true)))))))))))))))))))))))
theorem fx5_ok {K : PySem.W.Frag} (h0 : fx5 K = true) : (PySem.W.findIn K (.ref (He.ga K "Odd")) "__getattribute__" = some (some (.builtin "BaseException.__getattribute__"))) ∧ (PySem.W.findIn K (.ref (He.ga K "Odd")) "__getattr__" = some none) ∧ (PySem.W.subIn K (.ref (He.ga K "Odd")) (.type "BaseException") = some true) ∧ (PySem.W.hasDictIn K (He.ga K "Odd") = true) ∧ (PySem.W.findIn K (.ref (He.ga K "Odd")) "__class__" = some (some (.builtin "object.__class__"))) ∧ (PySem.W.specialIn K (.builtin "object.__class__") "__get__" = some (some (.builtin "getset_descriptor.__get__"))) ∧ (PySem.W.takesIn K (.builtin "object.__class__") = some true) ∧ (PySem.W.mroIn K (He.ga K "Odd") (.type "object") = some true) ∧ (PySem.W.findIn K (.ref (He.ga K "NoCut")) "__getattribute__" = some (some (.builtin "BaseException.__getattribute__"))) ∧ (PySem.W.findIn K (.ref (He.ga K "NoCut")) "__getattr__" = some none) ∧ (PySem.W.subIn K (.ref (He.ga K "NoCut")) (.type "BaseException") = some true) ∧ (PySem.W.hasDictIn K (He.ga K "NoCut") = true) ∧ (PySem.W.findIn K (.ref (He.ga K "NoCut")) "__class__" = some (some (.builtin "object.__class__"))) ∧ (PySem.W.specialIn K (.builtin "object.__class__") "__get__" = some (some (.builtin "getset_descriptor.__get__"))) ∧ (PySem.W.takesIn K (.builtin "object.__class__") = some true) ∧ (PySem.W.mroIn K (He.ga K "NoCut") (.type "object") = some true) ∧ (PySem.W.kitOne K (.ref (He.ga K "CrumbError")) (.ref (He.ga K "CrumbError")) = some true) ∧ (PySem.W.kitOne K (.ref (He.ga K "NoBeads")) (.ref (He.ga K "CrumbError")) = some true) ∧ (PySem.W.kitOne K (.ref (He.ga K "Odd")) (.ref (He.ga K "CrumbError")) = some true) ∧ (PySem.W.kitOne K (.ref (He.ga K "NoCut")) (.ref (He.ga K "CrumbError")) = some true) ∧ (PySem.W.kitOne K (.ref (He.ga K "CrumbError")) (.ref (He.ga K "Odd")) = some false) ∧ (PySem.W.kitOne K (.ref (He.ga K "NoBeads")) (.ref (He.ga K "Odd")) = some false) ∧ (PySem.W.kitOne K (.ref (He.ga K "Odd")) (.ref (He.ga K "Odd")) = some true) ∧ (PySem.W.kitOne K (.ref (He.ga K "NoCut")) (.ref (He.ga K "Odd")) = some false) ∧ True := by
  have h1 := (He.ba h0).2
  have h2 := (He.ba h1).2
  have h3 := (He.ba h2).2
  have h4 := (He.ba h3).2
  have h5 := (He.ba h4).2
  have h6 := (He.ba h5).2
  have h7 := (He.ba h6).2
  have h8 := (He.ba h7).2
  have h9 := (He.ba h8).2
  have h10 := (He.ba h9).2
  have h11 := (He.ba h10).2
  have h12 := (He.ba h11).2
  have h13 := (He.ba h12).2
  have h14 := (He.ba h13).2
  have h15 := (He.ba h14).2
  have h16 := (He.ba h15).2
  have h17 := (He.ba h16).2
  have h18 := (He.ba h17).2
  have h19 := (He.ba h18).2
  have h20 := (He.ba h19).2
  have h21 := (He.ba h20).2
  have h22 := (He.ba h21).2
  have h23 := (He.ba h22).2
  have h24 := (He.ba h23).2
  exact And.intro (He.eqO_ok (He.ba h0).1) (And.intro (He.eqO_ok (He.ba h1).1) (And.intro (of_decide_eq_true (He.ba h2).1) (And.intro (id (He.ba h3).1) (And.intro (He.eqO_ok (He.ba h4).1) (And.intro (He.eqO_ok (He.ba h5).1) (And.intro (of_decide_eq_true (He.ba h6).1) (And.intro (of_decide_eq_true (He.ba h7).1) (And.intro (He.eqO_ok (He.ba h8).1) (And.intro (He.eqO_ok (He.ba h9).1) (And.intro (of_decide_eq_true (He.ba h10).1) (And.intro (id (He.ba h11).1) (And.intro (He.eqO_ok (He.ba h12).1) (And.intro (He.eqO_ok (He.ba h13).1) (And.intro (of_decide_eq_true (He.ba h14).1) (And.intro (of_decide_eq_true (He.ba h15).1) (And.intro (of_decide_eq_true (He.ba h16).1) (And.intro (of_decide_eq_true (He.ba h17).1) (And.intro (of_decide_eq_true (He.ba h18).1) (And.intro (of_decide_eq_true (He.ba h19).1) (And.intro (of_decide_eq_true (He.ba h20).1) (And.intro (of_decide_eq_true (He.ba h21).1) (And.intro (of_decide_eq_true (He.ba h22).1) (And.intro (of_decide_eq_true (He.ba h23).1) True.intro)))))))))))))))))))))))
def fx6 (K : PySem.W.Frag) : Bool := decide (PySem.W.kitOne K (.ref (He.ga K "CrumbError")) (.type "ValueError") = some true) && (decide (PySem.W.kitOne K (.ref (He.ga K "NoBeads")) (.type "ValueError") = some true) && (decide (PySem.W.kitOne K (.ref (He.ga K "Odd")) (.type "ValueError") = some true) && (decide (PySem.W.kitOne K (.ref (He.ga K "NoCut")) (.type "ValueError") = some true) && (oexB K (He.ga K "NoBeads") "ValueError.__new__" && (He.eqO (PySem.W.findIn K (.ref (He.ga K "NoBeads")) "__setattr__") (some (some (.builtin "object.__setattr__"))) && (decide (PySem.W.subIn K (.ref (He.ga K "NoBeads")) (.type "BaseException") = some true) && (decide (PySem.W.typeIn K (.ref (He.ga K "NoBeads")) = some (.type "type")) && (PySem.W.keepIn K (.ref (He.ga K "NoBeads")) && (decide (PySem.W.typeIn K (.ref (He.fAd K ("NoBeads", some "__init__"))) = some (.type "function")) && (He.eqO (PySem.W.findIn K (.ref (He.ga K "NoBeads")) "at") (some none) && (He.eqO (PySem.W.findIn K (.ref (He.ga K "NoBeads")) "__getattribute__") (some (some (.builtin "BaseException.__getattribute__"))) && (He.eqO (PySem.W.findIn K (.ref (He.ga K "NoBeads")) "__getattr__") (some none) && (PySem.W.hasDictIn K (He.ga K "NoBeads") && (oexB K (He.ga K "NoCut") "ValueError.__new__" && (He.eqO (PySem.W.findIn K (.ref (He.ga K "NoCut")) "__setattr__") (some (some (.builtin "object.__setattr__"))) && (decide (PySem.W.subIn K (.ref (He.ga K "NoCut")) (.type "BaseException") = some true) && (decide (PySem.W.typeIn K (.ref (He.ga K "NoCut")) = some (.type "type")) && (PySem.W.keepIn K (.ref (He.ga K "NoCut")) && (decide (PySem.W.typeIn K (.ref (He.fAd K ("NoCut", some "__init__"))) = some (.type "function")) && (He.eqO (PySem.W.findIn K (.ref (He.ga K "NoCut")) "at") (some none) && (He.eqO (PySem.W.findIn K (.ref (He.ga K "NoCut")) "__getattribute__") (some (some (.builtin "BaseException.__getattribute__"))) && (He.eqO (PySem.W.findIn K (.ref (He.ga K "NoCut")) "__getattr__") (some none) && (PySem.W.hasDictIn K (He.ga K "NoCut") && true)))))))))))))))))))))))
theorem fx6_ok {K : PySem.W.Frag} (h0 : fx6 K = true) : (PySem.W.kitOne K (.ref (He.ga K "CrumbError")) (.type "ValueError") = some true) ∧ (PySem.W.kitOne K (.ref (He.ga K "NoBeads")) (.type "ValueError") = some true) ∧ (PySem.W.kitOne K (.ref (He.ga K "Odd")) (.type "ValueError") = some true) ∧ (PySem.W.kitOne K (.ref (He.ga K "NoCut")) (.type "ValueError") = some true) ∧ (oexB K (He.ga K "NoBeads") "ValueError.__new__" = true) ∧ (PySem.W.findIn K (.ref (He.ga K "NoBeads")) "__setattr__" = some (some (.builtin "object.__setattr__"))) ∧ (PySem.W.subIn K (.ref (He.ga K "NoBeads")) (.type "BaseException") = some true) ∧ (PySem.W.typeIn K (.ref (He.ga K "NoBeads")) = some (.type "type")) ∧ (PySem.W.keepIn K (.ref (He.ga K "NoBeads")) = true) ∧ (PySem.W.typeIn K (.ref (He.fAd K ("NoBeads", some "__init__"))) = some (.type "function")) ∧ (PySem.W.findIn K (.ref (He.ga K "NoBeads")) "at" = some none) ∧ (PySem.W.findIn K (.ref (He.ga K "NoBeads")) "__getattribute__" = some (some (.builtin "BaseException.__getattribute__"))) ∧ (PySem.W.findIn K (.ref (He.ga K "NoBeads")) "__getattr__" = some none) ∧ (PySem.W.hasDictIn K (He.ga K "NoBeads") = true) ∧ (oexB K (He.ga K "NoCut") "ValueError.__new__" = true) ∧ (PySem.W.findIn K (.ref (He.ga K "NoCut")) "__setattr__" = some (some (.builtin "object.__setattr__"))) ∧ (PySem.W.subIn K (.ref (He.ga K "NoCut")) (.type "BaseException") = some true) ∧ (PySem.W.typeIn K (.ref (He.ga K "NoCut")) = some (.type "type")) ∧ (PySem.W.keepIn K (.ref (He.ga K "NoCut")) = true) ∧ (PySem.W.typeIn K (.ref (He.fAd K ("NoCut", some "__init__"))) = some (.type "function")) ∧ (PySem.W.findIn K (.ref (He.ga K "NoCut")) "at" = some none) ∧ (PySem.W.findIn K (.ref (He.ga K "NoCut")) "__getattribute__" = some (some (.builtin "BaseException.__getattribute__"))) ∧ (PySem.W.findIn K (.ref (He.ga K "NoCut")) "__getattr__" = some none) ∧ (PySem.W.hasDictIn K (He.ga K "NoCut") = true) ∧ True := by
  have h1 := (He.ba h0).2
  have h2 := (He.ba h1).2
  have h3 := (He.ba h2).2
  have h4 := (He.ba h3).2
  have h5 := (He.ba h4).2
  have h6 := (He.ba h5).2
  have h7 := (He.ba h6).2
  have h8 := (He.ba h7).2
  have h9 := (He.ba h8).2
  have h10 := (He.ba h9).2
  have h11 := (He.ba h10).2
  have h12 := (He.ba h11).2
  have h13 := (He.ba h12).2
  have h14 := (He.ba h13).2
  have h15 := (He.ba h14).2
  have h16 := (He.ba h15).2
  have h17 := (He.ba h16).2
  have h18 := (He.ba h17).2
  have h19 := (He.ba h18).2
  have h20 := (He.ba h19).2
  have h21 := (He.ba h20).2
  have h22 := (He.ba h21).2
  have h23 := (He.ba h22).2
  have h24 := (He.ba h23).2
  exact And.intro (of_decide_eq_true (He.ba h0).1) (And.intro (of_decide_eq_true (He.ba h1).1) (And.intro (of_decide_eq_true (He.ba h2).1) (And.intro (of_decide_eq_true (He.ba h3).1) (And.intro (id (He.ba h4).1) (And.intro (He.eqO_ok (He.ba h5).1) (And.intro (of_decide_eq_true (He.ba h6).1) (And.intro (of_decide_eq_true (He.ba h7).1) (And.intro (id (He.ba h8).1) (And.intro (of_decide_eq_true (He.ba h9).1) (And.intro (He.eqO_ok (He.ba h10).1) (And.intro (He.eqO_ok (He.ba h11).1) (And.intro (He.eqO_ok (He.ba h12).1) (And.intro (id (He.ba h13).1) (And.intro (id (He.ba h14).1) (And.intro (He.eqO_ok (He.ba h15).1) (And.intro (of_decide_eq_true (He.ba h16).1) (And.intro (of_decide_eq_true (He.ba h17).1) (And.intro (id (He.ba h18).1) (And.intro (of_decide_eq_true (He.ba h19).1) (And.intro (He.eqO_ok (He.ba h20).1) (And.intro (He.eqO_ok (He.ba h21).1) (And.intro (He.eqO_ok (He.ba h22).1) (And.intro (id (He.ba h23).1) True.intro)))))))))))))))))))))))
def fx7 (K : PySem.W.Frag) : Bool := oexB K (He.ga K "Odd") "ValueError.__new__" && (He.eqO (PySem.W.findIn K (.ref (He.ga K "Odd")) "__setattr__") (some (some (.builtin "object.__setattr__"))) && (decide (PySem.W.subIn K (.ref (He.ga K "Odd")) (.type "BaseException") = some true) && (decide (PySem.W.typeIn K (.ref (He.ga K "Odd")) = some (.type "type")) && (PySem.W.keepIn K (.ref (He.ga K "Odd")) && (decide (PySem.W.typeIn K (.ref (He.fAd K ("Odd", some "__init__"))) = some (.type "function")) && (He.eqO (PySem.W.findIn K (.ref (He.ga K "Odd")) "kind") (some none) && (He.eqO (PySem.W.findIn K (.ref (He.ga K "Odd")) "__getattribute__") (some (some (.builtin "BaseException.__getattribute__"))) && (He.eqO (PySem.W.findIn K (.ref (He.ga K "Odd")) "__getattr__") (some none) && (PySem.W.hasDictIn K (He.ga K "Odd") && true)))))))))
theorem fx7_ok {K : PySem.W.Frag} (h0 : fx7 K = true) : (oexB K (He.ga K "Odd") "ValueError.__new__" = true) ∧ (PySem.W.findIn K (.ref (He.ga K "Odd")) "__setattr__" = some (some (.builtin "object.__setattr__"))) ∧ (PySem.W.subIn K (.ref (He.ga K "Odd")) (.type "BaseException") = some true) ∧ (PySem.W.typeIn K (.ref (He.ga K "Odd")) = some (.type "type")) ∧ (PySem.W.keepIn K (.ref (He.ga K "Odd")) = true) ∧ (PySem.W.typeIn K (.ref (He.fAd K ("Odd", some "__init__"))) = some (.type "function")) ∧ (PySem.W.findIn K (.ref (He.ga K "Odd")) "kind" = some none) ∧ (PySem.W.findIn K (.ref (He.ga K "Odd")) "__getattribute__" = some (some (.builtin "BaseException.__getattribute__"))) ∧ (PySem.W.findIn K (.ref (He.ga K "Odd")) "__getattr__" = some none) ∧ (PySem.W.hasDictIn K (He.ga K "Odd") = true) ∧ True := by
  have h1 := (He.ba h0).2
  have h2 := (He.ba h1).2
  have h3 := (He.ba h2).2
  have h4 := (He.ba h3).2
  have h5 := (He.ba h4).2
  have h6 := (He.ba h5).2
  have h7 := (He.ba h6).2
  have h8 := (He.ba h7).2
  have h9 := (He.ba h8).2
  have h10 := (He.ba h9).2
  exact And.intro (id (He.ba h0).1) (And.intro (He.eqO_ok (He.ba h1).1) (And.intro (of_decide_eq_true (He.ba h2).1) (And.intro (of_decide_eq_true (He.ba h3).1) (And.intro (id (He.ba h4).1) (And.intro (of_decide_eq_true (He.ba h5).1) (And.intro (He.eqO_ok (He.ba h6).1) (And.intro (He.eqO_ok (He.ba h7).1) (And.intro (He.eqO_ok (He.ba h8).1) (And.intro (id (He.ba h9).1) True.intro)))))))))
abbrev hd0 : He.DefD := ⟨("NoBeads", some "__init__"), "__init__", "NoBeads.__init__", defArgs s_NoBeads___init__, defBody s_NoBeads___init__, defScope s_NoBeads___init__, [], []⟩
abbrev hd1 : He.DefD := ⟨("Odd", some "__init__"), "__init__", "Odd.__init__", defArgs s_Odd___init__, defBody s_Odd___init__, defScope s_Odd___init__, [], []⟩
abbrev hd2 : He.DefD := ⟨("NoCut", some "__init__"), "__init__", "NoCut.__init__", defArgs s_NoCut___init__, defBody s_NoCut___init__, defScope s_NoCut___init__, [], []⟩
abbrev hd3 : He.DefD := ⟨("is_cuts", none), "is_cuts", "is_cuts", defArgs s_is_cuts, defBody s_is_cuts, defScope s_is_cuts, [], []⟩
abbrev hd4 : He.DefD := ⟨("pieces_of", none), "pieces_of", "pieces_of", defArgs s_pieces_of, defBody s_pieces_of, defScope s_pieces_of, [], []⟩
abbrev hd5 : He.DefD := ⟨("all_cuts", none), "all_cuts", "all_cuts", defArgs s_all_cuts_1, defBody s_all_cuts_1, defScope s_all_cuts_1, [], []⟩
abbrev hd6 : He.DefD := ⟨("sums_ahead", none), "sums_ahead", "sums_ahead", defArgs s_sums_ahead, defBody s_sums_ahead, defScope s_sums_ahead, [], []⟩
abbrev hd7 : He.DefD := ⟨("last_cut", none), "last_cut", "last_cut", defArgs s_last_cut, defBody s_last_cut, defScope s_last_cut, [], []⟩
abbrev hd8 : He.DefD := ⟨("gives_halves", none), "gives_halves", "gives_halves", defArgs s_gives_halves, defBody s_gives_halves, defScope s_gives_halves, [], []⟩
abbrev hd9 : He.DefD := ⟨("Thread", some "stood"), "stood", "Thread.stood", defArgs s_Thread_stood, defBody s_Thread_stood, defScope s_Thread_stood, [], []⟩
abbrev hd10 : He.DefD := ⟨("_law_box", none), "_law_box", "_law_box", defArgs s_law_box, defBody s_law_box, defScope s_law_box, [], []⟩
abbrev hd11 : He.DefD := ⟨("_law_mixed", none), "_law_mixed", "_law_mixed", defArgs s_law_mixed, defBody s_law_mixed, defScope s_law_mixed, [], []⟩
abbrev hd12 : He.DefD := ⟨("_law_odd", none), "_law_odd", "_law_odd", defArgs s_law_odd, defBody s_law_odd, defScope s_law_odd, [], []⟩
abbrev hd13 : He.DefD := ⟨("_law_bad", none), "_law_bad", "_law_bad", defArgs s_law_bad, defBody s_law_bad, defScope s_law_bad, [], []⟩
abbrev hd14 : He.DefD := ⟨("all_cuts", none), "all_cuts", "all_cuts", defArgs s_all_cuts_2, defBody s_all_cuts_2, defScope s_all_cuts_2, [], []⟩
abbrev hd15 : He.DefD := ⟨("Thread", some "done"), "done", "Thread.done", defArgs s_Thread_done, defBody s_Thread_done, defScope s_Thread_done, [], []⟩
abbrev hd16 : He.DefD := ⟨("Thread", some "pieces"), "pieces", "Thread.pieces", defArgs s_Thread_pieces, defBody s_Thread_pieces, defScope s_Thread_pieces, [], []⟩
abbrev hd17 : He.DefD := ⟨("_law_take", none), "_law_take", "_law_take", defArgs s_law_take, defBody s_law_take, defScope s_law_take, [], []⟩
abbrev hd18 : He.DefD := ⟨("ask_beads", none), "ask_beads", "ask_beads", defArgs s_ask_beads, defBody s_ask_beads, defScope s_ask_beads, [], []⟩
abbrev hd19 : He.DefD := ⟨("all_cuts", none), "all_cuts", "all_cuts", defArgs s_all_cuts, defBody s_all_cuts, defScope s_all_cuts, [], []⟩
abbrev hd20 : He.DefD := ⟨("Thread", some "cut"), "cut", "Thread.cut", defArgs s_Thread_cut, defBody s_Thread_cut, defScope s_Thread_cut, [], []⟩
abbrev hd21 : He.DefD := ⟨("Thread", some "flip"), "flip", "Thread.flip", defArgs s_Thread_flip, defBody s_Thread_flip, defScope s_Thread_flip, [], []⟩
abbrev hd22 : He.DefD := ⟨("Thread", some "shown"), "shown", "Thread.shown", defArgs s_Thread_shown, defBody s_Thread_shown, defScope s_Thread_shown, [], []⟩
abbrev hd23 : He.DefD := ⟨("_law_beads", none), "_law_beads", "_law_beads", defArgs s_law_beads, defBody s_law_beads, defScope s_law_beads, [], []⟩
abbrev hd24 : He.DefD := ⟨("_law_signed", none), "_law_signed", "_law_signed", defArgs s_law_signed, defBody s_law_signed, defScope s_law_signed, [], []⟩
abbrev hd25 : He.DefD := ⟨("fewest_cuts", none), "fewest_cuts", "fewest_cuts", defArgs s_fewest_cuts, defBody s_fewest_cuts, defScope s_fewest_cuts, [], []⟩
abbrev hd26 : He.DefD := ⟨("Thread", some "__init__"), "__init__", "Thread.__init__", defArgs s_Thread___init__, defBody s_Thread___init__, defScope s_Thread___init__, [], []⟩
abbrev hd27 : He.DefD := ⟨("Thread", some "__str__"), "__str__", "Thread.__str__", defArgs s_Thread___str__, defBody s_Thread___str__, defScope s_Thread___str__, [], []⟩
abbrev hd28 : He.DefD := ⟨("_law_text", none), "_law_text", "_law_text", defArgs s_law_text, defBody s_law_text, defScope s_law_text, [], []⟩
abbrev hd29 : He.DefD := ⟨("Thread", some "settle"), "settle", "Thread.settle", defArgs s_Thread_settle, defBody s_Thread_settle, defScope s_Thread_settle, [], []⟩
abbrev hd30 : He.DefD := ⟨("_law_asked", none), "_law_asked", "_law_asked", defArgs s_law_asked, defBody s_law_asked, defScope s_law_asked, [], []⟩
abbrev hd31 : He.DefD := ⟨("_law_left", none), "_law_left", "_law_left", defArgs s_law_left, defBody s_law_left, defScope s_law_left, [], []⟩
abbrev hd32 : He.DefD := ⟨("law", none), "law", "law", defArgs s_law, defBody s_law, defScope s_law, [], []⟩
def loose0 : List PySem.Str := ["_wall", "__name__", "CrumbError", "NoBeads", "Odd", "NoCut", "LETTERS", "MOST_BEADS", "ask_beads", "is_cuts", "pieces_of", "all_cuts", "sums_ahead", "last_cut", "gives_halves", "fewest_cuts"]
def loose1 : List PySem.Str := ["Thread", "_law_box", "_law_mixed", "_law_take", "_law_beads", "_law_odd", "_law_signed", "_law_text", "_law_bad", "_law_asked", "_law_left"]
def loose : List PySem.Str := loose0 ++ loose1
abbrev RR : PySem.W.OpenRow := PySem.W.OpenLaw.row PySem.Challenge.rw_halfcrumb_k56_beads_refused
def ads0 : List Addr := [3, 6, 4, 21, 31, 51, 70, 89, 98, 105, 112, 119, 124, 129, 134, 141, 285, 294, 301, 308, 313, 318, 325, 330, 337, 344, 351, 356, 0, 20, 30, 50, 69, 88, 97, 104, 111, 118, 123, 128, 133, 140, 284, 293, 300, 307, 312, 317, 324, 329, 336, 343, 350, 355, 15, 16, 17, 18, 19, 29, 32, 48, 49, 67]
def ads1 : List Addr := [68, 86, 87, 92, 93, 94, 95, 96, 99, 100, 101, 102, 103, 106, 107, 108, 109, 110, 113, 114, 115, 116, 117, 120, 121, 122, 125, 126, 127, 130, 131, 132, 135, 136, 137, 138, 139, 155, 162, 169, 176, 184, 191, 198, 205, 212, 219, 226, 233, 240, 247, 254, 261, 268, 275, 282, 283, 286, 287, 290, 291, 292, 295, 296]
def ads2 : List Addr := [297, 298, 299, 302, 303, 304, 305, 306, 309, 310, 311, 314, 315, 316, 319, 320, 321, 322, 323, 326, 327, 328, 331, 332, 333, 334, 335, 338, 339, 340, 341, 342, 345, 346, 347, 348, 349, 352, 353, 354, 47, 66, 85, 154, 161, 168, 175, 183, 177, 190, 197, 204, 211, 218, 225, 232, 239, 246, 253, 260, 267, 274, 281, 1]
def ads3 : List Addr := [2]
def ads : List Addr := ads0 ++ (ads1 ++ (ads2 ++ (ads3)))
def hfn0 : List He.DefD := [hd0, hd1, hd2, hd3, hd4, hd5, hd6, hd7, hd8, hd9, hd10, hd11, hd12, hd13, hd14, hd15, hd16]
def hEx0 (K : PySem.W.Frag) : Bool := fx0 K && (fx1 K && (fx2 K && (fx3 K && true)))
def htf : List He.Defn := []
abbrev ch0 : Ch := ⟨hfn0, htf, hEx0⟩
def hfn1 : List He.DefD := [hd17, hd18, hd19, hd20, hd21, hd22, hd23, hd24, hd25, hd26, hd27, hd28, hd29, hd30, hd31, hd32]
def hEx1 (K : PySem.W.Frag) : Bool := fx4 K && (fx5 K && (fx6 K && (fx7 K && true)))
abbrev ch1 : Ch := ⟨hfn1, [], hEx1⟩
abbrev chs : List Ch := [ch0, ch1]
theorem runX (w : World) : RunX RR (PySem.W.view RR.prog [30]) 20000 loose w ads chs := by
  intro os
  kernel_rfl
theorem run (w : World) : HandSHeadRun.RunEq RR (PySem.W.view RR.prog [30]) (hookL ads chs) (obL ads chs) 20000 loose w := run_one (runX w)
theorem all_mk {l : PySem.W.OpenLaw} {w : World} {K : PySem.W.Frag} {h : Heap} {mg : Str → Option Value} {fa : Addr} (X : K.In h) (G : h.Ns mainGlobals mg) (hfa : mg "law" = some (.ref fa))
    {c_CrumbError c_NoBeads c_NoCut c_Odd c_Thread f0 f1 f2 f3 f4 f5 f6 f7 f8 f9 f10 f11 f12 f13 f14 f15 f16 f17 f18 f19 f20 f21 f22 f23 f24 f25 f26 f27 f28 f29 f30 f31 f32 : Addr}
    (D0 : DefB K "__init__" "NoBeads.__init__" s_NoBeads___init__ f0)
    (D1 : DefB K "__init__" "Odd.__init__" s_Odd___init__ f1)
    (D2 : DefB K "__init__" "NoCut.__init__" s_NoCut___init__ f2)
    (D3 : DefB K "is_cuts" "is_cuts" s_is_cuts f3)
    (D4 : DefB K "pieces_of" "pieces_of" s_pieces_of f4)
    (D5 : DefB K "all_cuts" "all_cuts" s_all_cuts_1 f5)
    (D6 : DefB K "sums_ahead" "sums_ahead" s_sums_ahead f6)
    (D7 : DefB K "last_cut" "last_cut" s_last_cut f7)
    (D8 : DefB K "gives_halves" "gives_halves" s_gives_halves f8)
    (D9 : DefB K "stood" "Thread.stood" s_Thread_stood f9)
    (D10 : DefB K "_law_box" "_law_box" s_law_box f10)
    (D11 : DefB K "_law_mixed" "_law_mixed" s_law_mixed f11)
    (D12 : DefB K "_law_odd" "_law_odd" s_law_odd f12)
    (D13 : DefB K "_law_bad" "_law_bad" s_law_bad f13)
    (D14 : DefB K "all_cuts" "all_cuts" s_all_cuts_2 f14)
    (D15 : DefB K "done" "Thread.done" s_Thread_done f15)
    (D16 : DefB K "pieces" "Thread.pieces" s_Thread_pieces f16)
    (D17 : DefB K "_law_take" "_law_take" s_law_take f17)
    (D18 : DefB K "ask_beads" "ask_beads" s_ask_beads f18)
    (D19 : DefB K "all_cuts" "all_cuts" s_all_cuts f19)
    (D20 : DefB K "cut" "Thread.cut" s_Thread_cut f20)
    (D21 : DefB K "flip" "Thread.flip" s_Thread_flip f21)
    (D22 : DefB K "shown" "Thread.shown" s_Thread_shown f22)
    (D23 : DefB K "_law_beads" "_law_beads" s_law_beads f23)
    (D24 : DefB K "_law_signed" "_law_signed" s_law_signed f24)
    (D25 : DefB K "fewest_cuts" "fewest_cuts" s_fewest_cuts f25)
    (D26 : DefB K "__init__" "Thread.__init__" s_Thread___init__ f26)
    (D27 : DefB K "__str__" "Thread.__str__" s_Thread___str__ f27)
    (D28 : DefB K "_law_text" "_law_text" s_law_text f28)
    (D29 : DefB K "settle" "Thread.settle" s_Thread_settle f29)
    (D30 : DefB K "_law_asked" "_law_asked" s_law_asked f30)
    (D31 : DefB K "_law_left" "_law_left" s_law_left f31)
    (D32 : DefB K "law" "law" s_law f32)
    (Y0 : (PySem.W.nsIn K mainGlobals "CrumbError" = some (some (.ref c_CrumbError))) ∧ (PySem.W.nsIn K mainGlobals "NoBeads" = some (some (.ref c_NoBeads))) ∧ (PySem.W.nsIn K mainGlobals "Odd" = some (some (.ref c_Odd))) ∧ (PySem.W.nsIn K mainGlobals "NoCut" = some (some (.ref c_NoCut))) ∧ (PySem.W.nsIn K mainGlobals "Thread" = some (some (.ref c_Thread))) ∧ (PySem.W.findIn K (.ref c_NoBeads) "__init__" = some (some (.ref f0))) ∧ (PySem.W.findIn K (.ref c_Odd) "__init__" = some (some (.ref f1))) ∧ (PySem.W.findIn K (.ref c_NoCut) "__init__" = some (some (.ref f2))) ∧ (PySem.W.nsIn K mainGlobals "is_cuts" = some (some (.ref f3))) ∧ (PySem.W.nsIn K mainGlobals "pieces_of" = some (some (.ref f4))) ∧ (PySem.W.nsIn K mainGlobals "all_cuts" = some (some (.ref f5))) ∧ (PySem.W.nsIn K mainGlobals "sums_ahead" = some (some (.ref f6))) ∧ (PySem.W.nsIn K mainGlobals "last_cut" = some (some (.ref f7))) ∧ (PySem.W.nsIn K mainGlobals "gives_halves" = some (some (.ref f8))) ∧ (PySem.W.findIn K (.ref c_Thread) "stood" = some (some (.ref f9))) ∧ (PySem.W.nsIn K mainGlobals "_law_box" = some (some (.ref f10))) ∧ (PySem.W.nsIn K mainGlobals "_law_mixed" = some (some (.ref f11))) ∧ (PySem.W.nsIn K mainGlobals "_law_odd" = some (some (.ref f12))) ∧ (PySem.W.nsIn K mainGlobals "_law_bad" = some (some (.ref f13))) ∧ (PySem.W.nsIn K mainGlobals "all_cuts" = some (some (.ref f14))) ∧ (PySem.W.findIn K (.ref c_Thread) "done" = some (some (.ref f15))) ∧ (PySem.W.findIn K (.ref c_Thread) "pieces" = some (some (.ref f16))) ∧ (PySem.W.nsIn K mainGlobals "_law_take" = some (some (.ref f17))) ∧ (PySem.W.nsIn K mainGlobals "ask_beads" = some (some (.ref f18))) ∧ True)
    (Y1 : (PySem.W.nsIn K mainGlobals "all_cuts" = some (some (.ref f19))) ∧ (PySem.W.findIn K (.ref c_Thread) "cut" = some (some (.ref f20))) ∧ (PySem.W.findIn K (.ref c_Thread) "flip" = some (some (.ref f21))) ∧ (PySem.W.findIn K (.ref c_Thread) "shown" = some (some (.ref f22))) ∧ (PySem.W.nsIn K mainGlobals "_law_beads" = some (some (.ref f23))) ∧ (PySem.W.nsIn K mainGlobals "_law_signed" = some (some (.ref f24))) ∧ (PySem.W.nsIn K mainGlobals "fewest_cuts" = some (some (.ref f25))) ∧ (PySem.W.findIn K (.ref c_Thread) "__init__" = some (some (.ref f26))) ∧ (PySem.W.findIn K (.ref c_Thread) "__str__" = some (some (.ref f27))) ∧ (PySem.W.nsIn K mainGlobals "_law_text" = some (some (.ref f28))) ∧ (PySem.W.findIn K (.ref c_Thread) "settle" = some (some (.ref f29))) ∧ (PySem.W.nsIn K mainGlobals "_law_asked" = some (some (.ref f30))) ∧ (PySem.W.nsIn K mainGlobals "_law_left" = some (some (.ref f31))) ∧ (PySem.W.nsIn K mainGlobals "law" = some (some (.ref f32))) ∧ (PySem.W.plainGet K c_Thread Str.empty = true) ∧ (PySem.W.hasDictIn K c_Thread = true) ∧ (PySem.W.plainOver K c_Thread = true) ∧ (PySem.W.findIn K (.ref c_Thread) "__setattr__" = some (some (.builtin "object.__setattr__"))) ∧ (PySem.W.makesIn K c_Thread = true) ∧ (PySem.W.findIn K (.ref c_Thread) "__init__" = some (some (.ref f26))) ∧ (PySem.W.isFn K (.ref f26) = true) ∧ (PySem.W.keepIn K (.ref c_Thread) = true) ∧ (PySem.W.findIn K (.ref c_Thread) "__str__" = some (some (.ref f27))) ∧ (PySem.W.isFn K (.ref f27) = true) ∧ True)
    (Y2 : (PySem.W.findIn K (.ref c_Thread) "cut" = some (some (.ref f20))) ∧ (PySem.W.isFn K (.ref f20) = true) ∧ (PySem.W.findIn K (.ref c_Thread) "done" = some (some (.ref f15))) ∧ (PySem.W.isFn K (.ref f15) = true) ∧ (PySem.W.findIn K (.ref c_Thread) "flip" = some (some (.ref f21))) ∧ (PySem.W.isFn K (.ref f21) = true) ∧ (PySem.W.findIn K (.ref c_Thread) "pieces" = some (some (.ref f16))) ∧ (PySem.W.isFn K (.ref f16) = true) ∧ (PySem.W.findIn K (.ref c_Thread) "settle" = some (some (.ref f29))) ∧ (PySem.W.isFn K (.ref f29) = true) ∧ (PySem.W.findIn K (.ref c_Thread) "shown" = some (some (.ref f22))) ∧ (PySem.W.isFn K (.ref f22) = true) ∧ (PySem.W.findIn K (.ref c_Thread) "stood" = some (some (.ref f9))) ∧ (PySem.W.isFn K (.ref f9) = true) ∧ (PySem.W.findIn K (.ref c_Thread) "beads" = some none) ∧ (PySem.W.findIn K (.ref c_Thread) "later" = some none) ∧ (PySem.W.findIn K (.ref c_Thread) "lead" = some none) ∧ (PySem.W.findIn K (.ref c_Thread) "past" = some none) ∧ (PySem.W.findIn K (.ref c_Thread) "spots" = some none) ∧ (PySem.W.nsIn K mainGlobals "ValueError" = some none) ∧ (PySem.W.nsIn K mainGlobals "all" = some none) ∧ (PySem.W.nsIn K mainGlobals "bool" = some none) ∧ (PySem.W.nsIn K mainGlobals "enumerate" = some none) ∧ (PySem.W.nsIn K mainGlobals "int" = some none) ∧ True)
    (Y3 : (PySem.W.nsIn K mainGlobals "isinstance" = some none) ∧ (PySem.W.nsIn K mainGlobals "len" = some none) ∧ (PySem.W.nsIn K mainGlobals "list" = some none) ∧ (PySem.W.nsIn K mainGlobals "max" = some none) ∧ (PySem.W.nsIn K mainGlobals "range" = some none) ∧ (PySem.W.nsIn K mainGlobals "sorted" = some none) ∧ (PySem.W.nsIn K mainGlobals "str" = some none) ∧ (PySem.W.nsIn K mainGlobals "sum" = some none) ∧ (PySem.W.nsIn K mainGlobals "zip" = some none) ∧ (strK K "LETTERS" "abc" = true) ∧ (intK K "MOST_BEADS" 24 = true) ∧ (PySem.W.subIn K (.ref c_CrumbError) (.type "BaseException") = some true) ∧ (PySem.W.typeIn K (.ref c_CrumbError) = some (.type "type")) ∧ (PySem.W.subIn K (.ref c_NoBeads) (.type "BaseException") = some true) ∧ (PySem.W.typeIn K (.ref c_NoBeads) = some (.type "type")) ∧ (PySem.W.subIn K (.ref c_Odd) (.type "BaseException") = some true) ∧ (PySem.W.typeIn K (.ref c_Odd) = some (.type "type")) ∧ (PySem.W.hasDictIn K c_CrumbError = true) ∧ (PySem.W.subIn K (.ref c_CrumbError) (.ref c_CrumbError) = some true) ∧ (PySem.W.subIn K (.ref c_NoBeads) (.ref c_CrumbError) = some true) ∧ (PySem.W.subIn K (.ref c_Odd) (.ref c_CrumbError) = some true) ∧ (PySem.W.subIn K (.ref c_NoCut) (.ref c_CrumbError) = some true) ∧ (PySem.W.hasDictIn K c_NoBeads = true) ∧ (PySem.W.subIn K (.ref c_CrumbError) (.ref c_NoBeads) = some false) ∧ True)
    (Y4 : (PySem.W.subIn K (.ref c_NoBeads) (.ref c_NoBeads) = some true) ∧ (PySem.W.subIn K (.ref c_Odd) (.ref c_NoBeads) = some false) ∧ (PySem.W.subIn K (.ref c_NoCut) (.ref c_NoBeads) = some false) ∧ (PySem.W.hasDictIn K c_Odd = true) ∧ (PySem.W.subIn K (.ref c_CrumbError) (.ref c_Odd) = some false) ∧ (PySem.W.subIn K (.ref c_NoBeads) (.ref c_Odd) = some false) ∧ (PySem.W.subIn K (.ref c_Odd) (.ref c_Odd) = some true) ∧ (PySem.W.subIn K (.ref c_NoCut) (.ref c_Odd) = some false) ∧ (PySem.W.findIn K (.ref c_CrumbError) "__getattribute__" = some (some (.builtin "BaseException.__getattribute__"))) ∧ (PySem.W.findIn K (.ref c_CrumbError) "__getattr__" = some none) ∧ (PySem.W.subIn K (.ref c_CrumbError) (.type "BaseException") = some true) ∧ (PySem.W.hasDictIn K c_CrumbError = true) ∧ (PySem.W.findIn K (.ref c_CrumbError) "__class__" = some (some (.builtin "object.__class__"))) ∧ (PySem.W.specialIn K (.builtin "object.__class__") "__get__" = some (some (.builtin "getset_descriptor.__get__"))) ∧ (PySem.W.takesIn K (.builtin "object.__class__") = some true) ∧ (PySem.W.mroIn K c_CrumbError (.type "object") = some true) ∧ (PySem.W.findIn K (.ref c_NoBeads) "__getattribute__" = some (some (.builtin "BaseException.__getattribute__"))) ∧ (PySem.W.findIn K (.ref c_NoBeads) "__getattr__" = some none) ∧ (PySem.W.subIn K (.ref c_NoBeads) (.type "BaseException") = some true) ∧ (PySem.W.hasDictIn K c_NoBeads = true) ∧ (PySem.W.findIn K (.ref c_NoBeads) "__class__" = some (some (.builtin "object.__class__"))) ∧ (PySem.W.specialIn K (.builtin "object.__class__") "__get__" = some (some (.builtin "getset_descriptor.__get__"))) ∧ (PySem.W.takesIn K (.builtin "object.__class__") = some true) ∧ (PySem.W.mroIn K c_NoBeads (.type "object") = some true) ∧ True)
    (Y5 : (PySem.W.findIn K (.ref c_Odd) "__getattribute__" = some (some (.builtin "BaseException.__getattribute__"))) ∧ (PySem.W.findIn K (.ref c_Odd) "__getattr__" = some none) ∧ (PySem.W.subIn K (.ref c_Odd) (.type "BaseException") = some true) ∧ (PySem.W.hasDictIn K c_Odd = true) ∧ (PySem.W.findIn K (.ref c_Odd) "__class__" = some (some (.builtin "object.__class__"))) ∧ (PySem.W.specialIn K (.builtin "object.__class__") "__get__" = some (some (.builtin "getset_descriptor.__get__"))) ∧ (PySem.W.takesIn K (.builtin "object.__class__") = some true) ∧ (PySem.W.mroIn K c_Odd (.type "object") = some true) ∧ (PySem.W.findIn K (.ref c_NoCut) "__getattribute__" = some (some (.builtin "BaseException.__getattribute__"))) ∧ (PySem.W.findIn K (.ref c_NoCut) "__getattr__" = some none) ∧ (PySem.W.subIn K (.ref c_NoCut) (.type "BaseException") = some true) ∧ (PySem.W.hasDictIn K c_NoCut = true) ∧ (PySem.W.findIn K (.ref c_NoCut) "__class__" = some (some (.builtin "object.__class__"))) ∧ (PySem.W.specialIn K (.builtin "object.__class__") "__get__" = some (some (.builtin "getset_descriptor.__get__"))) ∧ (PySem.W.takesIn K (.builtin "object.__class__") = some true) ∧ (PySem.W.mroIn K c_NoCut (.type "object") = some true) ∧ (PySem.W.kitOne K (.ref c_CrumbError) (.ref c_CrumbError) = some true) ∧ (PySem.W.kitOne K (.ref c_NoBeads) (.ref c_CrumbError) = some true) ∧ (PySem.W.kitOne K (.ref c_Odd) (.ref c_CrumbError) = some true) ∧ (PySem.W.kitOne K (.ref c_NoCut) (.ref c_CrumbError) = some true) ∧ (PySem.W.kitOne K (.ref c_CrumbError) (.ref c_Odd) = some false) ∧ (PySem.W.kitOne K (.ref c_NoBeads) (.ref c_Odd) = some false) ∧ (PySem.W.kitOne K (.ref c_Odd) (.ref c_Odd) = some true) ∧ (PySem.W.kitOne K (.ref c_NoCut) (.ref c_Odd) = some false) ∧ True)
    (Y6 : (PySem.W.kitOne K (.ref c_CrumbError) (.type "ValueError") = some true) ∧ (PySem.W.kitOne K (.ref c_NoBeads) (.type "ValueError") = some true) ∧ (PySem.W.kitOne K (.ref c_Odd) (.type "ValueError") = some true) ∧ (PySem.W.kitOne K (.ref c_NoCut) (.type "ValueError") = some true) ∧ (oexB K c_NoBeads "ValueError.__new__" = true) ∧ (PySem.W.findIn K (.ref c_NoBeads) "__setattr__" = some (some (.builtin "object.__setattr__"))) ∧ (PySem.W.subIn K (.ref c_NoBeads) (.type "BaseException") = some true) ∧ (PySem.W.typeIn K (.ref c_NoBeads) = some (.type "type")) ∧ (PySem.W.keepIn K (.ref c_NoBeads) = true) ∧ (PySem.W.typeIn K (.ref f0) = some (.type "function")) ∧ (PySem.W.findIn K (.ref c_NoBeads) "at" = some none) ∧ (PySem.W.findIn K (.ref c_NoBeads) "__getattribute__" = some (some (.builtin "BaseException.__getattribute__"))) ∧ (PySem.W.findIn K (.ref c_NoBeads) "__getattr__" = some none) ∧ (PySem.W.hasDictIn K c_NoBeads = true) ∧ (oexB K c_NoCut "ValueError.__new__" = true) ∧ (PySem.W.findIn K (.ref c_NoCut) "__setattr__" = some (some (.builtin "object.__setattr__"))) ∧ (PySem.W.subIn K (.ref c_NoCut) (.type "BaseException") = some true) ∧ (PySem.W.typeIn K (.ref c_NoCut) = some (.type "type")) ∧ (PySem.W.keepIn K (.ref c_NoCut) = true) ∧ (PySem.W.typeIn K (.ref f2) = some (.type "function")) ∧ (PySem.W.findIn K (.ref c_NoCut) "at" = some none) ∧ (PySem.W.findIn K (.ref c_NoCut) "__getattribute__" = some (some (.builtin "BaseException.__getattribute__"))) ∧ (PySem.W.findIn K (.ref c_NoCut) "__getattr__" = some none) ∧ (PySem.W.hasDictIn K c_NoCut = true) ∧ True)
    (Y7 : (oexB K c_Odd "ValueError.__new__" = true) ∧ (PySem.W.findIn K (.ref c_Odd) "__setattr__" = some (some (.builtin "object.__setattr__"))) ∧ (PySem.W.subIn K (.ref c_Odd) (.type "BaseException") = some true) ∧ (PySem.W.typeIn K (.ref c_Odd) = some (.type "type")) ∧ (PySem.W.keepIn K (.ref c_Odd) = true) ∧ (PySem.W.typeIn K (.ref f1) = some (.type "function")) ∧ (PySem.W.findIn K (.ref c_Odd) "kind" = some none) ∧ (PySem.W.findIn K (.ref c_Odd) "__getattribute__" = some (some (.builtin "BaseException.__getattribute__"))) ∧ (PySem.W.findIn K (.ref c_Odd) "__getattr__" = some none) ∧ (PySem.W.hasDictIn K c_Odd = true) ∧ True)
    : ∃ fd : FuncData, (∀ (s : Shared) (v : Value), BindsTo s fd ⟨[v], []⟩ [("_law_script", v)]) ∧ ∀ base : Heap, K.In base → base.Ns mainGlobals mg → FnOk l.prog w K mg base (L2.CX l.prog w) 8 fa fd ["_law_script"] (spLaw K) := by
  obtain ⟨⟨_, _, kV0, dc0, pm0, an0, cd0, ct0, _, l0, c0⟩, k0⟩ := D0
  obtain ⟨⟨_, _, kV1, dc1, pm1, an1, cd1, ct1, _, l1, c1⟩, k1⟩ := D1
  obtain ⟨⟨_, _, kV2, dc2, pm2, an2, cd2, ct2, _, l2, c2⟩, k2⟩ := D2
  obtain ⟨⟨_, _, kV3, dc3, pm3, an3, cd3, ct3, _, l3, c3⟩, k3⟩ := D3
  obtain ⟨⟨_, _, kV4, dc4, pm4, an4, cd4, ct4, _, l4, c4⟩, k4⟩ := D4
  obtain ⟨⟨_, _, kV5, dc5, pm5, an5, cd5, ct5, _, l5, c5⟩, k5⟩ := D5
  obtain ⟨⟨_, _, kV6, dc6, pm6, an6, cd6, ct6, _, l6, c6⟩, k6⟩ := D6
  obtain ⟨⟨_, _, kV7, dc7, pm7, an7, cd7, ct7, _, l7, c7⟩, k7⟩ := D7
  obtain ⟨⟨_, _, kV8, dc8, pm8, an8, cd8, ct8, _, l8, c8⟩, k8⟩ := D8
  obtain ⟨⟨_, _, kV9, dc9, pm9, an9, cd9, ct9, _, l9, c9⟩, k9⟩ := D9
  obtain ⟨⟨_, _, kV10, dc10, pm10, an10, cd10, ct10, _, l10, c10⟩, k10⟩ := D10
  obtain ⟨⟨_, _, kV11, dc11, pm11, an11, cd11, ct11, _, l11, c11⟩, k11⟩ := D11
  obtain ⟨⟨_, _, kV12, dc12, pm12, an12, cd12, ct12, _, l12, c12⟩, k12⟩ := D12
  obtain ⟨⟨_, _, kV13, dc13, pm13, an13, cd13, ct13, _, l13, c13⟩, k13⟩ := D13
  obtain ⟨⟨_, _, kV14, dc14, pm14, an14, cd14, ct14, _, l14, c14⟩, k14⟩ := D14
  obtain ⟨⟨_, _, kV15, dc15, pm15, an15, cd15, ct15, _, l15, c15⟩, k15⟩ := D15
  obtain ⟨⟨_, _, kV16, dc16, pm16, an16, cd16, ct16, _, l16, c16⟩, k16⟩ := D16
  obtain ⟨⟨_, _, kV17, dc17, pm17, an17, cd17, ct17, _, l17, c17⟩, k17⟩ := D17
  obtain ⟨⟨_, _, kV18, dc18, pm18, an18, cd18, ct18, _, l18, c18⟩, k18⟩ := D18
  obtain ⟨⟨_, _, kV19, dc19, pm19, an19, cd19, ct19, _, l19, c19⟩, k19⟩ := D19
  obtain ⟨⟨_, _, kV20, dc20, pm20, an20, cd20, ct20, _, l20, c20⟩, k20⟩ := D20
  obtain ⟨⟨_, _, kV21, dc21, pm21, an21, cd21, ct21, _, l21, c21⟩, k21⟩ := D21
  obtain ⟨⟨_, _, kV22, dc22, pm22, an22, cd22, ct22, _, l22, c22⟩, k22⟩ := D22
  obtain ⟨⟨_, _, kV23, dc23, pm23, an23, cd23, ct23, _, l23, c23⟩, k23⟩ := D23
  obtain ⟨⟨_, _, kV24, dc24, pm24, an24, cd24, ct24, _, l24, c24⟩, k24⟩ := D24
  obtain ⟨⟨_, _, kV25, dc25, pm25, an25, cd25, ct25, _, l25, c25⟩, k25⟩ := D25
  obtain ⟨⟨_, _, kV26, dc26, pm26, an26, cd26, ct26, _, l26, c26⟩, k26⟩ := D26
  obtain ⟨⟨_, _, kV27, dc27, pm27, an27, cd27, ct27, _, l27, c27⟩, k27⟩ := D27
  obtain ⟨⟨_, _, kV28, dc28, pm28, an28, cd28, ct28, _, l28, c28⟩, k28⟩ := D28
  obtain ⟨⟨_, _, kV29, dc29, pm29, an29, cd29, ct29, _, l29, c29⟩, k29⟩ := D29
  obtain ⟨⟨_, _, kV30, dc30, pm30, an30, cd30, ct30, _, l30, c30⟩, k30⟩ := D30
  obtain ⟨⟨_, _, kV31, dc31, pm31, an31, cd31, ct31, _, l31, c31⟩, k31⟩ := D31
  obtain ⟨⟨_, _, kV32, dc32, pm32, an32, cd32, ct32, _, l32, c32⟩, k32⟩ := D32
  have g_CrumbError := Y0.1
  have g_NoBeads := Y0.2.1
  have g_Odd := Y0.2.2.1
  have g_NoCut := Y0.2.2.2.1
  have g_Thread := Y0.2.2.2.2.1
  have a0 := Y0.2.2.2.2.2.1
  have a1 := Y0.2.2.2.2.2.2.1
  have a2 := Y0.2.2.2.2.2.2.2.1
  have a3 := Y0.2.2.2.2.2.2.2.2.1
  have a4 := Y0.2.2.2.2.2.2.2.2.2.1
  have a5 := Y0.2.2.2.2.2.2.2.2.2.2.1
  have a6 := Y0.2.2.2.2.2.2.2.2.2.2.2.1
  have a7 := Y0.2.2.2.2.2.2.2.2.2.2.2.2.1
  have a8 := Y0.2.2.2.2.2.2.2.2.2.2.2.2.2.1
  have a9 := Y0.2.2.2.2.2.2.2.2.2.2.2.2.2.2.1
  have a10 := Y0.2.2.2.2.2.2.2.2.2.2.2.2.2.2.2.1
  have a11 := Y0.2.2.2.2.2.2.2.2.2.2.2.2.2.2.2.2.1
  have a12 := Y0.2.2.2.2.2.2.2.2.2.2.2.2.2.2.2.2.2.1
  have a13 := Y0.2.2.2.2.2.2.2.2.2.2.2.2.2.2.2.2.2.2.1
  have a14 := Y0.2.2.2.2.2.2.2.2.2.2.2.2.2.2.2.2.2.2.2.1
  have a15 := Y0.2.2.2.2.2.2.2.2.2.2.2.2.2.2.2.2.2.2.2.2.1
  have a16 := Y0.2.2.2.2.2.2.2.2.2.2.2.2.2.2.2.2.2.2.2.2.2.1
  have a17 := Y0.2.2.2.2.2.2.2.2.2.2.2.2.2.2.2.2.2.2.2.2.2.2.1
  have a18 := Y0.2.2.2.2.2.2.2.2.2.2.2.2.2.2.2.2.2.2.2.2.2.2.2.1
  have a19 := Y1.1
  have a20 := Y1.2.1
  have a21 := Y1.2.2.1
  have a22 := Y1.2.2.2.1
  have a23 := Y1.2.2.2.2.1
  have a24 := Y1.2.2.2.2.2.1
  have a25 := Y1.2.2.2.2.2.2.1
  have a26 := Y1.2.2.2.2.2.2.2.1
  have a27 := Y1.2.2.2.2.2.2.2.2.1
  have a28 := Y1.2.2.2.2.2.2.2.2.2.1
  have a29 := Y1.2.2.2.2.2.2.2.2.2.2.1
  have a30 := Y1.2.2.2.2.2.2.2.2.2.2.2.1
  have a31 := Y1.2.2.2.2.2.2.2.2.2.2.2.2.1
  have a32 := Y1.2.2.2.2.2.2.2.2.2.2.2.2.2.1
  have pg_Thread := Y1.2.2.2.2.2.2.2.2.2.2.2.2.2.2.1
  have hD_Thread := Y1.2.2.2.2.2.2.2.2.2.2.2.2.2.2.2.1
  have po_Thread := Y1.2.2.2.2.2.2.2.2.2.2.2.2.2.2.2.2.1
  have sa_Thread := Y1.2.2.2.2.2.2.2.2.2.2.2.2.2.2.2.2.2.1
  have mm_Thread := Y1.2.2.2.2.2.2.2.2.2.2.2.2.2.2.2.2.2.2.1
  have mi_Thread := Y1.2.2.2.2.2.2.2.2.2.2.2.2.2.2.2.2.2.2.2.1
  have mf_Thread := Y1.2.2.2.2.2.2.2.2.2.2.2.2.2.2.2.2.2.2.2.2.1
  have mp_Thread := Y1.2.2.2.2.2.2.2.2.2.2.2.2.2.2.2.2.2.2.2.2.2.1
  have ta_Thread___str__ := Y1.2.2.2.2.2.2.2.2.2.2.2.2.2.2.2.2.2.2.2.2.2.2.1
  have tf_Thread___str__ := Y1.2.2.2.2.2.2.2.2.2.2.2.2.2.2.2.2.2.2.2.2.2.2.2.1
  have ta_Thread_cut := Y2.1
  have tf_Thread_cut := Y2.2.1
  have ta_Thread_done := Y2.2.2.1
  have tf_Thread_done := Y2.2.2.2.1
  have ta_Thread_flip := Y2.2.2.2.2.1
  have tf_Thread_flip := Y2.2.2.2.2.2.1
  have ta_Thread_pieces := Y2.2.2.2.2.2.2.1
  have tf_Thread_pieces := Y2.2.2.2.2.2.2.2.1
  have ta_Thread_settle := Y2.2.2.2.2.2.2.2.2.1
  have tf_Thread_settle := Y2.2.2.2.2.2.2.2.2.2.1
  have ta_Thread_shown := Y2.2.2.2.2.2.2.2.2.2.2.1
  have tf_Thread_shown := Y2.2.2.2.2.2.2.2.2.2.2.2.1
  have ta_Thread_stood := Y2.2.2.2.2.2.2.2.2.2.2.2.2.1
  have tf_Thread_stood := Y2.2.2.2.2.2.2.2.2.2.2.2.2.2.1
  have na_Thread_beads := Y2.2.2.2.2.2.2.2.2.2.2.2.2.2.2.1
  have na_Thread_later := Y2.2.2.2.2.2.2.2.2.2.2.2.2.2.2.2.1
  have na_Thread_lead := Y2.2.2.2.2.2.2.2.2.2.2.2.2.2.2.2.2.1
  have na_Thread_past := Y2.2.2.2.2.2.2.2.2.2.2.2.2.2.2.2.2.2.1
  have na_Thread_spots := Y2.2.2.2.2.2.2.2.2.2.2.2.2.2.2.2.2.2.2.1
  have z_ValueError := Y2.2.2.2.2.2.2.2.2.2.2.2.2.2.2.2.2.2.2.2.1
  have z_all := Y2.2.2.2.2.2.2.2.2.2.2.2.2.2.2.2.2.2.2.2.2.1
  have z_bool := Y2.2.2.2.2.2.2.2.2.2.2.2.2.2.2.2.2.2.2.2.2.2.1
  have z_enumerate := Y2.2.2.2.2.2.2.2.2.2.2.2.2.2.2.2.2.2.2.2.2.2.2.1
  have z_int := Y2.2.2.2.2.2.2.2.2.2.2.2.2.2.2.2.2.2.2.2.2.2.2.2.1
  have z_isinstance := Y3.1
  have z_len := Y3.2.1
  have z_list := Y3.2.2.1
  have z_max := Y3.2.2.2.1
  have z_range := Y3.2.2.2.2.1
  have z_sorted := Y3.2.2.2.2.2.1
  have z_str := Y3.2.2.2.2.2.2.1
  have z_sum := Y3.2.2.2.2.2.2.2.1
  have z_zip := Y3.2.2.2.2.2.2.2.2.1
  have m_LETTERS0 := Y3.2.2.2.2.2.2.2.2.2.1
  have m_MOST_BEADS0 := Y3.2.2.2.2.2.2.2.2.2.2.1
  have sb_CrumbError := Y3.2.2.2.2.2.2.2.2.2.2.2.1
  have t_CrumbError := Y3.2.2.2.2.2.2.2.2.2.2.2.2.1
  have sb_NoBeads := Y3.2.2.2.2.2.2.2.2.2.2.2.2.2.1
  have t_NoBeads := Y3.2.2.2.2.2.2.2.2.2.2.2.2.2.2.1
  have sb_Odd := Y3.2.2.2.2.2.2.2.2.2.2.2.2.2.2.2.1
  have t_Odd := Y3.2.2.2.2.2.2.2.2.2.2.2.2.2.2.2.2.1
  have hd_CrumbError := Y3.2.2.2.2.2.2.2.2.2.2.2.2.2.2.2.2.2.1
  have su_CrumbError_CrumbError := Y3.2.2.2.2.2.2.2.2.2.2.2.2.2.2.2.2.2.2.1
  have su_NoBeads_CrumbError := Y3.2.2.2.2.2.2.2.2.2.2.2.2.2.2.2.2.2.2.2.1
  have su_Odd_CrumbError := Y3.2.2.2.2.2.2.2.2.2.2.2.2.2.2.2.2.2.2.2.2.1
  have su_NoCut_CrumbError := Y3.2.2.2.2.2.2.2.2.2.2.2.2.2.2.2.2.2.2.2.2.2.1
  have hd_NoBeads := Y3.2.2.2.2.2.2.2.2.2.2.2.2.2.2.2.2.2.2.2.2.2.2.1
  have su_CrumbError_NoBeads := Y3.2.2.2.2.2.2.2.2.2.2.2.2.2.2.2.2.2.2.2.2.2.2.2.1
  have su_NoBeads_NoBeads := Y4.1
  have su_Odd_NoBeads := Y4.2.1
  have su_NoCut_NoBeads := Y4.2.2.1
  have hd_Odd := Y4.2.2.2.1
  have su_CrumbError_Odd := Y4.2.2.2.2.1
  have su_NoBeads_Odd := Y4.2.2.2.2.2.1
  have su_Odd_Odd := Y4.2.2.2.2.2.2.1
  have su_NoCut_Odd := Y4.2.2.2.2.2.2.2.1
  have hg_CrumbError := Y4.2.2.2.2.2.2.2.2.1
  have hk_CrumbError := Y4.2.2.2.2.2.2.2.2.2.1
  have hs_CrumbError := Y4.2.2.2.2.2.2.2.2.2.2.1
  have hh_CrumbError := Y4.2.2.2.2.2.2.2.2.2.2.2.1
  have ha_CrumbError := Y4.2.2.2.2.2.2.2.2.2.2.2.2.1
  have hn_CrumbError := Y4.2.2.2.2.2.2.2.2.2.2.2.2.2.1
  have ht_CrumbError := Y4.2.2.2.2.2.2.2.2.2.2.2.2.2.2.1
  have hm_CrumbError := Y4.2.2.2.2.2.2.2.2.2.2.2.2.2.2.2.1
  have hg_NoBeads := Y4.2.2.2.2.2.2.2.2.2.2.2.2.2.2.2.2.1
  have hk_NoBeads := Y4.2.2.2.2.2.2.2.2.2.2.2.2.2.2.2.2.2.1
  have hs_NoBeads := Y4.2.2.2.2.2.2.2.2.2.2.2.2.2.2.2.2.2.2.1
  have hh_NoBeads := Y4.2.2.2.2.2.2.2.2.2.2.2.2.2.2.2.2.2.2.2.1
  have ha_NoBeads := Y4.2.2.2.2.2.2.2.2.2.2.2.2.2.2.2.2.2.2.2.2.1
  have hn_NoBeads := Y4.2.2.2.2.2.2.2.2.2.2.2.2.2.2.2.2.2.2.2.2.2.1
  have ht_NoBeads := Y4.2.2.2.2.2.2.2.2.2.2.2.2.2.2.2.2.2.2.2.2.2.2.1
  have hm_NoBeads := Y4.2.2.2.2.2.2.2.2.2.2.2.2.2.2.2.2.2.2.2.2.2.2.2.1
  have hg_Odd := Y5.1
  have hk_Odd := Y5.2.1
  have hs_Odd := Y5.2.2.1
  have hh_Odd := Y5.2.2.2.1
  have ha_Odd := Y5.2.2.2.2.1
  have hn_Odd := Y5.2.2.2.2.2.1
  have ht_Odd := Y5.2.2.2.2.2.2.1
  have hm_Odd := Y5.2.2.2.2.2.2.2.1
  have hg_NoCut := Y5.2.2.2.2.2.2.2.2.1
  have hk_NoCut := Y5.2.2.2.2.2.2.2.2.2.1
  have hs_NoCut := Y5.2.2.2.2.2.2.2.2.2.2.1
  have hh_NoCut := Y5.2.2.2.2.2.2.2.2.2.2.2.1
  have ha_NoCut := Y5.2.2.2.2.2.2.2.2.2.2.2.2.1
  have hn_NoCut := Y5.2.2.2.2.2.2.2.2.2.2.2.2.2.1
  have ht_NoCut := Y5.2.2.2.2.2.2.2.2.2.2.2.2.2.2.1
  have hm_NoCut := Y5.2.2.2.2.2.2.2.2.2.2.2.2.2.2.2.1
  have ki_CrumbError_CrumbError := Y5.2.2.2.2.2.2.2.2.2.2.2.2.2.2.2.2.1
  have ki_NoBeads_CrumbError := Y5.2.2.2.2.2.2.2.2.2.2.2.2.2.2.2.2.2.1
  have ki_Odd_CrumbError := Y5.2.2.2.2.2.2.2.2.2.2.2.2.2.2.2.2.2.2.1
  have ki_NoCut_CrumbError := Y5.2.2.2.2.2.2.2.2.2.2.2.2.2.2.2.2.2.2.2.1
  have ki_CrumbError_Odd := Y5.2.2.2.2.2.2.2.2.2.2.2.2.2.2.2.2.2.2.2.2.1
  have ki_NoBeads_Odd := Y5.2.2.2.2.2.2.2.2.2.2.2.2.2.2.2.2.2.2.2.2.2.1
  have ki_Odd_Odd := Y5.2.2.2.2.2.2.2.2.2.2.2.2.2.2.2.2.2.2.2.2.2.2.1
  have ki_NoCut_Odd := Y5.2.2.2.2.2.2.2.2.2.2.2.2.2.2.2.2.2.2.2.2.2.2.2.1
  have ki_CrumbError_ValueError := Y6.1
  have ki_NoBeads_ValueError := Y6.2.1
  have ki_Odd_ValueError := Y6.2.2.1
  have ki_NoCut_ValueError := Y6.2.2.2.1
  have xl_NoBeads0 := Y6.2.2.2.2.1
  have xsa_NoBeads := Y6.2.2.2.2.2.1
  have xsb_NoBeads := Y6.2.2.2.2.2.2.1
  have xty_NoBeads := Y6.2.2.2.2.2.2.2.1
  have xkp_NoBeads := Y6.2.2.2.2.2.2.2.2.1
  have xtf_NoBeads := Y6.2.2.2.2.2.2.2.2.2.1
  have xno_NoBeads := Y6.2.2.2.2.2.2.2.2.2.2.1
  have xga_NoBeads := Y6.2.2.2.2.2.2.2.2.2.2.2.1
  have xgg_NoBeads := Y6.2.2.2.2.2.2.2.2.2.2.2.2.1
  have xhd_NoBeads := Y6.2.2.2.2.2.2.2.2.2.2.2.2.2.1
  have xl_NoCut0 := Y6.2.2.2.2.2.2.2.2.2.2.2.2.2.2.1
  have xsa_NoCut := Y6.2.2.2.2.2.2.2.2.2.2.2.2.2.2.2.1
  have xsb_NoCut := Y6.2.2.2.2.2.2.2.2.2.2.2.2.2.2.2.2.1
  have xty_NoCut := Y6.2.2.2.2.2.2.2.2.2.2.2.2.2.2.2.2.2.1
  have xkp_NoCut := Y6.2.2.2.2.2.2.2.2.2.2.2.2.2.2.2.2.2.2.1
  have xtf_NoCut := Y6.2.2.2.2.2.2.2.2.2.2.2.2.2.2.2.2.2.2.2.1
  have xno_NoCut := Y6.2.2.2.2.2.2.2.2.2.2.2.2.2.2.2.2.2.2.2.2.1
  have xga_NoCut := Y6.2.2.2.2.2.2.2.2.2.2.2.2.2.2.2.2.2.2.2.2.2.1
  have xgg_NoCut := Y6.2.2.2.2.2.2.2.2.2.2.2.2.2.2.2.2.2.2.2.2.2.2.1
  have xhd_NoCut := Y6.2.2.2.2.2.2.2.2.2.2.2.2.2.2.2.2.2.2.2.2.2.2.2.1
  have xl_Odd0 := Y7.1
  have xsa_Odd := Y7.2.1
  have xsb_Odd := Y7.2.2.1
  have xty_Odd := Y7.2.2.2.1
  have xkp_Odd := Y7.2.2.2.2.1
  have xtf_Odd := Y7.2.2.2.2.2.1
  have xno_Odd := Y7.2.2.2.2.2.2.1
  have xga_Odd := Y7.2.2.2.2.2.2.2.1
  have xgg_Odd := Y7.2.2.2.2.2.2.2.2.1
  have xhd_Odd := Y7.2.2.2.2.2.2.2.2.2.1
  obtain ⟨t_LETTERS, m_LETTERS⟩ := strK_ok m_LETTERS0
  obtain ⟨t_MOST_BEADS, m_MOST_BEADS⟩ := intK_ok m_MOST_BEADS0
  obtain ⟨_, _, _, _, _, _, _, _, _, _, _, _, _, _, _, xl_NoBeads, xr_NoBeads⟩ := oexB_ok xl_NoBeads0
  obtain ⟨_, _, _, _, _, _, _, _, _, _, _, _, _, _, _, xl_NoCut, xr_NoCut⟩ := oexB_ok xl_NoCut0
  obtain ⟨_, _, _, _, _, _, _, _, _, _, _, _, _, _, _, xl_Odd, xr_Odd⟩ := oexB_ok xl_Odd0
  have e := hfa.symm.trans (PySem.W.mg_of X G a32)
  cases e
  have ecCrumbError : ExcC K c_CrumbError := ⟨hg_CrumbError, hk_CrumbError, hs_CrumbError, hh_CrumbError, ha_CrumbError, hn_CrumbError, ht_CrumbError, hm_CrumbError⟩
  have ecNoBeads : ExcC K c_NoBeads := ⟨hg_NoBeads, hk_NoBeads, hs_NoBeads, hh_NoBeads, ha_NoBeads, hn_NoBeads, ht_NoBeads, hm_NoBeads⟩
  have ecOdd : ExcC K c_Odd := ⟨hg_Odd, hk_Odd, hs_Odd, hh_Odd, ha_Odd, hn_Odd, ht_Odd, hm_Odd⟩
  have ecNoCut : ExcC K c_NoCut := ⟨hg_NoCut, hk_NoCut, hs_NoCut, hh_NoCut, ha_NoCut, hn_NoCut, ht_NoCut, hm_NoCut⟩
  let A : Adr := { c_CrumbError := c_CrumbError, c_NoBeads := c_NoBeads, c_Odd := c_Odd, c_NoCut := c_NoCut, c_Thread := c_Thread, f_NoBeads___init__ := f0, d_NoBeads___init__ := (PySem.W.fnOf "__init__" "NoBeads.__init__" (defArgs s_NoBeads___init__) (defBody s_NoBeads___init__) (defScope s_NoBeads___init__) .none kV0 dc0 pm0 an0 cd0 ct0), f_Odd___init__ := f1, d_Odd___init__ := (PySem.W.fnOf "__init__" "Odd.__init__" (defArgs s_Odd___init__) (defBody s_Odd___init__) (defScope s_Odd___init__) .none kV1 dc1 pm1 an1 cd1 ct1), f_NoCut___init__ := f2, d_NoCut___init__ := (PySem.W.fnOf "__init__" "NoCut.__init__" (defArgs s_NoCut___init__) (defBody s_NoCut___init__) (defScope s_NoCut___init__) .none kV2 dc2 pm2 an2 cd2 ct2), f_is_cuts := f3, d_is_cuts := (PySem.W.fnOf "is_cuts" "is_cuts" (defArgs s_is_cuts) (defBody s_is_cuts) (defScope s_is_cuts) .none kV3 dc3 pm3 an3 cd3 ct3), f_pieces_of := f4, d_pieces_of := (PySem.W.fnOf "pieces_of" "pieces_of" (defArgs s_pieces_of) (defBody s_pieces_of) (defScope s_pieces_of) .none kV4 dc4 pm4 an4 cd4 ct4), f_all_cuts_1 := f5, d_all_cuts_1 := (PySem.W.fnOf "all_cuts" "all_cuts" (defArgs s_all_cuts_1) (defBody s_all_cuts_1) (defScope s_all_cuts_1) .none kV5 dc5 pm5 an5 cd5 ct5), f_sums_ahead := f6, d_sums_ahead := (PySem.W.fnOf "sums_ahead" "sums_ahead" (defArgs s_sums_ahead) (defBody s_sums_ahead) (defScope s_sums_ahead) .none kV6 dc6 pm6 an6 cd6 ct6), f_last_cut := f7, d_last_cut := (PySem.W.fnOf "last_cut" "last_cut" (defArgs s_last_cut) (defBody s_last_cut) (defScope s_last_cut) .none kV7 dc7 pm7 an7 cd7 ct7), f_gives_halves := f8, d_gives_halves := (PySem.W.fnOf "gives_halves" "gives_halves" (defArgs s_gives_halves) (defBody s_gives_halves) (defScope s_gives_halves) .none kV8 dc8 pm8 an8 cd8 ct8), f_Thread_stood := f9, d_Thread_stood := (PySem.W.fnOf "stood" "Thread.stood" (defArgs s_Thread_stood) (defBody s_Thread_stood) (defScope s_Thread_stood) .none kV9 dc9 pm9 an9 cd9 ct9), f_law_box := f10, d_law_box := (PySem.W.fnOf "_law_box" "_law_box" (defArgs s_law_box) (defBody s_law_box) (defScope s_law_box) .none kV10 dc10 pm10 an10 cd10 ct10), f_law_mixed := f11, d_law_mixed := (PySem.W.fnOf "_law_mixed" "_law_mixed" (defArgs s_law_mixed) (defBody s_law_mixed) (defScope s_law_mixed) .none kV11 dc11 pm11 an11 cd11 ct11), f_law_odd := f12, d_law_odd := (PySem.W.fnOf "_law_odd" "_law_odd" (defArgs s_law_odd) (defBody s_law_odd) (defScope s_law_odd) .none kV12 dc12 pm12 an12 cd12 ct12), f_law_bad := f13, d_law_bad := (PySem.W.fnOf "_law_bad" "_law_bad" (defArgs s_law_bad) (defBody s_law_bad) (defScope s_law_bad) .none kV13 dc13 pm13 an13 cd13 ct13), f_all_cuts_2 := f14, d_all_cuts_2 := (PySem.W.fnOf "all_cuts" "all_cuts" (defArgs s_all_cuts_2) (defBody s_all_cuts_2) (defScope s_all_cuts_2) .none kV14 dc14 pm14 an14 cd14 ct14), f_Thread_done := f15, d_Thread_done := (PySem.W.fnOf "done" "Thread.done" (defArgs s_Thread_done) (defBody s_Thread_done) (defScope s_Thread_done) .none kV15 dc15 pm15 an15 cd15 ct15), f_Thread_pieces := f16, d_Thread_pieces := (PySem.W.fnOf "pieces" "Thread.pieces" (defArgs s_Thread_pieces) (defBody s_Thread_pieces) (defScope s_Thread_pieces) .none kV16 dc16 pm16 an16 cd16 ct16), f_law_take := f17, d_law_take := (PySem.W.fnOf "_law_take" "_law_take" (defArgs s_law_take) (defBody s_law_take) (defScope s_law_take) .none kV17 dc17 pm17 an17 cd17 ct17), f_ask_beads := f18, d_ask_beads := (PySem.W.fnOf "ask_beads" "ask_beads" (defArgs s_ask_beads) (defBody s_ask_beads) (defScope s_ask_beads) .none kV18 dc18 pm18 an18 cd18 ct18), f_all_cuts := f19, d_all_cuts := (PySem.W.fnOf "all_cuts" "all_cuts" (defArgs s_all_cuts) (defBody s_all_cuts) (defScope s_all_cuts) .none kV19 dc19 pm19 an19 cd19 ct19), f_Thread_cut := f20, d_Thread_cut := (PySem.W.fnOf "cut" "Thread.cut" (defArgs s_Thread_cut) (defBody s_Thread_cut) (defScope s_Thread_cut) .none kV20 dc20 pm20 an20 cd20 ct20), f_Thread_flip := f21, d_Thread_flip := (PySem.W.fnOf "flip" "Thread.flip" (defArgs s_Thread_flip) (defBody s_Thread_flip) (defScope s_Thread_flip) .none kV21 dc21 pm21 an21 cd21 ct21), f_Thread_shown := f22, d_Thread_shown := (PySem.W.fnOf "shown" "Thread.shown" (defArgs s_Thread_shown) (defBody s_Thread_shown) (defScope s_Thread_shown) .none kV22 dc22 pm22 an22 cd22 ct22), f_law_beads := f23, d_law_beads := (PySem.W.fnOf "_law_beads" "_law_beads" (defArgs s_law_beads) (defBody s_law_beads) (defScope s_law_beads) .none kV23 dc23 pm23 an23 cd23 ct23), f_law_signed := f24, d_law_signed := (PySem.W.fnOf "_law_signed" "_law_signed" (defArgs s_law_signed) (defBody s_law_signed) (defScope s_law_signed) .none kV24 dc24 pm24 an24 cd24 ct24), f_fewest_cuts := f25, d_fewest_cuts := (PySem.W.fnOf "fewest_cuts" "fewest_cuts" (defArgs s_fewest_cuts) (defBody s_fewest_cuts) (defScope s_fewest_cuts) .none kV25 dc25 pm25 an25 cd25 ct25), f_Thread___init__ := f26, d_Thread___init__ := (PySem.W.fnOf "__init__" "Thread.__init__" (defArgs s_Thread___init__) (defBody s_Thread___init__) (defScope s_Thread___init__) .none kV26 dc26 pm26 an26 cd26 ct26), f_Thread___str__ := f27, d_Thread___str__ := (PySem.W.fnOf "__str__" "Thread.__str__" (defArgs s_Thread___str__) (defBody s_Thread___str__) (defScope s_Thread___str__) .none kV27 dc27 pm27 an27 cd27 ct27), f_law_text := f28, d_law_text := (PySem.W.fnOf "_law_text" "_law_text" (defArgs s_law_text) (defBody s_law_text) (defScope s_law_text) .none kV28 dc28 pm28 an28 cd28 ct28), f_Thread_settle := f29, d_Thread_settle := (PySem.W.fnOf "settle" "Thread.settle" (defArgs s_Thread_settle) (defBody s_Thread_settle) (defScope s_Thread_settle) .none kV29 dc29 pm29 an29 cd29 ct29), f_law_asked := f30, d_law_asked := (PySem.W.fnOf "_law_asked" "_law_asked" (defArgs s_law_asked) (defBody s_law_asked) (defScope s_law_asked) .none kV30 dc30 pm30 an30 cd30 ct30), f_law_left := f31, d_law_left := (PySem.W.fnOf "_law_left" "_law_left" (defArgs s_law_left) (defBody s_law_left) (defScope s_law_left) .none kV31 dc31 pm31 an31 cd31 ct31), f_law := fa, d_law := (PySem.W.fnOf "law" "law" (defArgs s_law) (defBody s_law) (defScope s_law) .none kV32 dc32 pm32 an32 cd32 ct32), t_LETTERS := t_LETTERS, t_MOST_BEADS := t_MOST_BEADS }
  have T : ∀ base : Heap, Txt K mg base A := fun base => {
    g_CrumbError := PySem.W.mg_of X G g_CrumbError
    g_NoBeads := PySem.W.mg_of X G g_NoBeads
    g_Odd := PySem.W.mg_of X G g_Odd
    g_NoCut := PySem.W.mg_of X G g_NoCut
    g_Thread := PySem.W.mg_of X G g_Thread
    F_NoBeads___init__ := fun_mk (st := s_NoBeads___init__) l0 c0 k0
    b_NoBeads___init__ := (fun_mk (st := s_NoBeads___init__) l0 c0 k0).binds (ps := p_NoBeads___init__) fun _ _ _ _ _ _ us hl => match us, hl with | [_, _], _ => rfl
    F_Odd___init__ := fun_mk (st := s_Odd___init__) l1 c1 k1
    b_Odd___init__ := (fun_mk (st := s_Odd___init__) l1 c1 k1).binds (ps := p_Odd___init__) fun _ _ _ _ _ _ us hl => match us, hl with | [_, _], _ => rfl
    F_NoCut___init__ := fun_mk (st := s_NoCut___init__) l2 c2 k2
    b_NoCut___init__ := (fun_mk (st := s_NoCut___init__) l2 c2 k2).binds (ps := p_NoCut___init__) fun _ _ _ _ _ _ us hl => match us, hl with | [_, _], _ => rfl
    g_is_cuts := PySem.W.mg_of X G a3
    F_is_cuts := fun_mk (st := s_is_cuts) l3 c3 k3
    b_is_cuts := (fun_mk (st := s_is_cuts) l3 c3 k3).binds (ps := p_is_cuts) fun _ _ _ _ _ _ us hl => match us, hl with | [_, _], _ => rfl
    g_pieces_of := PySem.W.mg_of X G a4
    F_pieces_of := fun_mk (st := s_pieces_of) l4 c4 k4
    b_pieces_of := (fun_mk (st := s_pieces_of) l4 c4 k4).binds (ps := p_pieces_of) fun _ _ _ _ _ _ us hl => match us, hl with | [_, _], _ => rfl
    g_all_cuts_1 := PySem.W.mg_of X G a5
    F_all_cuts_1 := fun_mk (st := s_all_cuts_1) l5 c5 k5
    b_all_cuts_1 := (fun_mk (st := s_all_cuts_1) l5 c5 k5).binds (ps := p_all_cuts_1) fun _ _ _ _ _ _ us hl => match us, hl with | [_, _, _], _ => rfl
    g_sums_ahead := PySem.W.mg_of X G a6
    F_sums_ahead := fun_mk (st := s_sums_ahead) l6 c6 k6
    b_sums_ahead := (fun_mk (st := s_sums_ahead) l6 c6 k6).binds (ps := p_sums_ahead) fun _ _ _ _ _ _ us hl => match us, hl with | [_], _ => rfl
    g_last_cut := PySem.W.mg_of X G a7
    F_last_cut := fun_mk (st := s_last_cut) l7 c7 k7
    b_last_cut := (fun_mk (st := s_last_cut) l7 c7 k7).binds (ps := p_last_cut) fun _ _ _ _ _ _ us hl => match us, hl with | [_, _], _ => rfl
    g_gives_halves := PySem.W.mg_of X G a8
    F_gives_halves := fun_mk (st := s_gives_halves) l8 c8 k8
    b_gives_halves := (fun_mk (st := s_gives_halves) l8 c8 k8).binds (ps := p_gives_halves) fun _ _ _ _ _ _ us hl => match us, hl with | [_, _], _ => rfl
    F_Thread_stood := fun_mk (st := s_Thread_stood) l9 c9 k9
    b_Thread_stood := (fun_mk (st := s_Thread_stood) l9 c9 k9).binds (ps := p_Thread_stood) fun _ _ _ _ _ _ us hl => match us, hl with | [_], _ => rfl
    g_law_box := PySem.W.mg_of X G a10
    F_law_box := fun_mk (st := s_law_box) l10 c10 k10
    b_law_box := (fun_mk (st := s_law_box) l10 c10 k10).binds (ps := p_law_box) fun _ _ _ _ _ _ us hl => match us, hl with | [_], _ => rfl
    g_law_mixed := PySem.W.mg_of X G a11
    F_law_mixed := fun_mk (st := s_law_mixed) l11 c11 k11
    b_law_mixed := (fun_mk (st := s_law_mixed) l11 c11 k11).binds (ps := p_law_mixed) fun _ _ _ _ _ _ us hl => match us, hl with | [_, _], _ => rfl
    g_law_odd := PySem.W.mg_of X G a12
    F_law_odd := fun_mk (st := s_law_odd) l12 c12 k12
    b_law_odd := (fun_mk (st := s_law_odd) l12 c12 k12).binds (ps := p_law_odd) fun _ _ _ _ _ _ us hl => match us, hl with | [_], _ => rfl
    g_law_bad := PySem.W.mg_of X G a13
    F_law_bad := fun_mk (st := s_law_bad) l13 c13 k13
    b_law_bad := (fun_mk (st := s_law_bad) l13 c13 k13).binds (ps := p_law_bad) fun _ _ _ _ _ _ us hl => match us, hl with | [_], _ => rfl
    g_all_cuts_2 := PySem.W.mg_of X G a14
    F_all_cuts_2 := fun_mk (st := s_all_cuts_2) l14 c14 k14
    b_all_cuts_2 := (fun_mk (st := s_all_cuts_2) l14 c14 k14).binds (ps := p_all_cuts_2) fun _ _ _ _ _ _ us hl => match us, hl with | [_, _, _], _ => rfl
    F_Thread_done := fun_mk (st := s_Thread_done) l15 c15 k15
    b_Thread_done := (fun_mk (st := s_Thread_done) l15 c15 k15).binds (ps := p_Thread_done) fun _ _ _ _ _ _ us hl => match us, hl with | [_, _, _], _ => rfl
    F_Thread_pieces := fun_mk (st := s_Thread_pieces) l16 c16 k16
    b_Thread_pieces := (fun_mk (st := s_Thread_pieces) l16 c16 k16).binds (ps := p_Thread_pieces) fun _ _ _ _ _ _ us hl => match us, hl with | [_], _ => rfl
    g_law_take := PySem.W.mg_of X G a17
    F_law_take := fun_mk (st := s_law_take) l17 c17 k17
    b_law_take := (fun_mk (st := s_law_take) l17 c17 k17).binds (ps := p_law_take) fun _ _ _ _ _ _ us hl => match us, hl with | [_, _], _ => rfl
    g_ask_beads := PySem.W.mg_of X G a18
    F_ask_beads := fun_mk (st := s_ask_beads) l18 c18 k18
    b_ask_beads := (fun_mk (st := s_ask_beads) l18 c18 k18).binds (ps := p_ask_beads) fun _ _ _ _ _ _ us hl => match us, hl with | [_], _ => rfl
    g_all_cuts := PySem.W.mg_of X G a19
    F_all_cuts := fun_mk (st := s_all_cuts) l19 c19 k19
    b_all_cuts := (fun_mk (st := s_all_cuts) l19 c19 k19).binds (ps := p_all_cuts) fun _ _ _ _ _ _ us hl => match us, hl with | [_, _, _], _ => rfl
    F_Thread_cut := fun_mk (st := s_Thread_cut) l20 c20 k20
    b_Thread_cut := (fun_mk (st := s_Thread_cut) l20 c20 k20).binds (ps := p_Thread_cut) fun _ _ _ _ _ _ us hl => match us, hl with | [_, _], _ => rfl
    F_Thread_flip := fun_mk (st := s_Thread_flip) l21 c21 k21
    b_Thread_flip := (fun_mk (st := s_Thread_flip) l21 c21 k21).binds (ps := p_Thread_flip) fun _ _ _ _ _ _ us hl => match us, hl with | [_], _ => rfl
    F_Thread_shown := fun_mk (st := s_Thread_shown) l22 c22 k22
    b_Thread_shown := (fun_mk (st := s_Thread_shown) l22 c22 k22).binds (ps := p_Thread_shown) fun _ _ _ _ _ _ us hl => match us, hl with | [_], _ => rfl
    g_law_beads := PySem.W.mg_of X G a23
    F_law_beads := fun_mk (st := s_law_beads) l23 c23 k23
    b_law_beads := (fun_mk (st := s_law_beads) l23 c23 k23).binds (ps := p_law_beads) fun _ _ _ _ _ _ us hl => match us, hl with | [_, _], _ => rfl
    g_law_signed := PySem.W.mg_of X G a24
    F_law_signed := fun_mk (st := s_law_signed) l24 c24 k24
    b_law_signed := (fun_mk (st := s_law_signed) l24 c24 k24).binds (ps := p_law_signed) fun _ _ _ _ _ _ us hl => match us, hl with | [_, _], _ => rfl
    g_fewest_cuts := PySem.W.mg_of X G a25
    F_fewest_cuts := fun_mk (st := s_fewest_cuts) l25 c25 k25
    b_fewest_cuts := (fun_mk (st := s_fewest_cuts) l25 c25 k25).binds (ps := p_fewest_cuts) fun _ _ _ _ _ _ us hl => match us, hl with | [_], _ => rfl
    F_Thread___init__ := fun_mk (st := s_Thread___init__) l26 c26 k26
    b_Thread___init__ := (fun_mk (st := s_Thread___init__) l26 c26 k26).binds (ps := p_Thread___init__) fun _ _ _ _ _ _ us hl => match us, hl with | [_, _], _ => rfl
    F_Thread___str__ := fun_mk (st := s_Thread___str__) l27 c27 k27
    b_Thread___str__ := (fun_mk (st := s_Thread___str__) l27 c27 k27).binds (ps := p_Thread___str__) fun _ _ _ _ _ _ us hl => match us, hl with | [_], _ => rfl
    g_law_text := PySem.W.mg_of X G a28
    F_law_text := fun_mk (st := s_law_text) l28 c28 k28
    b_law_text := (fun_mk (st := s_law_text) l28 c28 k28).binds (ps := p_law_text) fun _ _ _ _ _ _ us hl => match us, hl with | [_], _ => rfl
    F_Thread_settle := fun_mk (st := s_Thread_settle) l29 c29 k29
    b_Thread_settle := (fun_mk (st := s_Thread_settle) l29 c29 k29).binds (ps := p_Thread_settle) fun _ _ _ _ _ _ us hl => match us, hl with | [_], _ => rfl
    g_law_asked := PySem.W.mg_of X G a30
    F_law_asked := fun_mk (st := s_law_asked) l30 c30 k30
    b_law_asked := (fun_mk (st := s_law_asked) l30 c30 k30).binds (ps := p_law_asked) fun _ _ _ _ _ _ us hl => match us, hl with | [_, _], _ => rfl
    g_law_left := PySem.W.mg_of X G a31
    F_law_left := fun_mk (st := s_law_left) l31 c31 k31
    b_law_left := (fun_mk (st := s_law_left) l31 c31 k31).binds (ps := p_law_left) fun _ _ _ _ _ _ us hl => match us, hl with | [_], _ => rfl
    g_law := PySem.W.mg_of X G a32
    F_law := fun_mk (st := s_law) l32 c32 k32
    b_law := (fun_mk (st := s_law) l32 c32 k32).binds (ps := p_law) fun _ _ _ _ _ _ us hl => match us, hl with | [_], _ => rfl
    cl_Thread := ⟨pg_Thread, hD_Thread, po_Thread, sa_Thread⟩
    mk_Thread := ⟨mm_Thread, mi_Thread, mf_Thread, mp_Thread⟩
    mt_Thread___str__ := ⟨ta_Thread___str__, tf_Thread___str__, k27⟩
    mt_Thread_cut := ⟨ta_Thread_cut, tf_Thread_cut, k20⟩
    mt_Thread_done := ⟨ta_Thread_done, tf_Thread_done, k15⟩
    mt_Thread_flip := ⟨ta_Thread_flip, tf_Thread_flip, k21⟩
    mt_Thread_pieces := ⟨ta_Thread_pieces, tf_Thread_pieces, k16⟩
    mt_Thread_settle := ⟨ta_Thread_settle, tf_Thread_settle, k29⟩
    mt_Thread_shown := ⟨ta_Thread_shown, tf_Thread_shown, k22⟩
    mt_Thread_stood := ⟨ta_Thread_stood, tf_Thread_stood, k9⟩
    fo_beads := ⟨fun c i h => match c, h with
      | 4, h => by cases h; exact ⟨rfl, nd_Thread, nl_Thread, ⟨pg_Thread, hD_Thread, po_Thread, sa_Thread⟩, na_Thread_beads⟩⟩
    fo_later := ⟨fun c i h => match c, h with
      | 4, h => by cases h; exact ⟨rfl, nd_Thread, nl_Thread, ⟨pg_Thread, hD_Thread, po_Thread, sa_Thread⟩, na_Thread_later⟩⟩
    fo_lead := ⟨fun c i h => match c, h with
      | 4, h => by cases h; exact ⟨rfl, nd_Thread, nl_Thread, ⟨pg_Thread, hD_Thread, po_Thread, sa_Thread⟩, na_Thread_lead⟩⟩
    fo_past := ⟨fun c i h => match c, h with
      | 4, h => by cases h; exact ⟨rfl, nd_Thread, nl_Thread, ⟨pg_Thread, hD_Thread, po_Thread, sa_Thread⟩, na_Thread_past⟩⟩
    fo_spots := ⟨fun c i h => match c, h with
      | 4, h => by cases h; exact ⟨rfl, nd_Thread, nl_Thread, ⟨pg_Thread, hD_Thread, po_Thread, sa_Thread⟩, na_Thread_spots⟩⟩
    B_Thread___init___1_beads := callB_n fun us ws h1 h2 => match us, h1, ws, h2 with | [_], _, [_], _ => rfl
    B_Thread___init___2_ := callB_n fun us ws h1 h2 => match us, h1, ws, h2 with | [_, _], _, [], _ => rfl
    B_Thread_cut_2_ := callB_n fun us ws h1 h2 => match us, h1, ws, h2 with | [_, _], _, [], _ => rfl
    B_Thread_done_3_ := callB_n fun us ws h1 h2 => match us, h1, ws, h2 with | [_, _, _], _, [], _ => rfl
    B_Thread_flip_1_ := callB_n fun us ws h1 h2 => match us, h1, ws, h2 with | [_], _, [], _ => rfl
    B_Thread_pieces_1_ := callB_n fun us ws h1 h2 => match us, h1, ws, h2 with | [_], _, [], _ => rfl
    B_Thread_settle_1_ := callB_n fun us ws h1 h2 => match us, h1, ws, h2 with | [_], _, [], _ => rfl
    B_Thread_shown_1_ := callB_n fun us ws h1 h2 => match us, h1, ws, h2 with | [_], _, [], _ => rfl
    B_Thread_stood_1_ := callB_n fun us ws h1 h2 => match us, h1, ws, h2 with | [_], _, [], _ => rfl
    z_ValueError := PySem.W.mg_none_of X G z_ValueError
    z_all := PySem.W.mg_none_of X G z_all
    z_bool := PySem.W.mg_none_of X G z_bool
    z_enumerate := PySem.W.mg_none_of X G z_enumerate
    z_int := PySem.W.mg_none_of X G z_int
    z_isinstance := PySem.W.mg_none_of X G z_isinstance
    z_len := PySem.W.mg_none_of X G z_len
    z_list := PySem.W.mg_none_of X G z_list
    z_max := PySem.W.mg_none_of X G z_max
    z_range := PySem.W.mg_none_of X G z_range
    z_sorted := PySem.W.mg_none_of X G z_sorted
    z_str := PySem.W.mg_none_of X G z_str
    z_sum := PySem.W.mg_none_of X G z_sum
    z_zip := PySem.W.mg_none_of X G z_zip
    m_LETTERS := PySem.W.mg_of X G m_LETTERS
    m_MOST_BEADS := PySem.W.mg_of X G m_MOST_BEADS
    ex_CrumbError := fun c b h => match c, h with
      | 0, h => by cases h; exact PySem.W.exm_ref sb_CrumbError hd_CrumbError t_CrumbError su_CrumbError_CrumbError
      | 1, h => by cases h; exact PySem.W.exm_ref sb_CrumbError hd_CrumbError t_CrumbError su_NoBeads_CrumbError
      | 2, h => by cases h; exact PySem.W.exm_ref sb_CrumbError hd_CrumbError t_CrumbError su_Odd_CrumbError
      | 3, h => by cases h; exact PySem.W.exm_ref sb_CrumbError hd_CrumbError t_CrumbError su_NoCut_CrumbError
    ec_CrumbError := fun c h => match c, h with
      | 0, h => ecCrumbError
      | 1, h => ecNoBeads
      | 2, h => ecOdd
      | 3, h => ecNoCut
    ex_NoBeads := fun c b h => match c, h with
      | 0, h => by cases h; exact PySem.W.exm_ref sb_NoBeads hd_NoBeads t_NoBeads su_CrumbError_NoBeads
      | 1, h => by cases h; exact PySem.W.exm_ref sb_NoBeads hd_NoBeads t_NoBeads su_NoBeads_NoBeads
      | 2, h => by cases h; exact PySem.W.exm_ref sb_NoBeads hd_NoBeads t_NoBeads su_Odd_NoBeads
      | 3, h => by cases h; exact PySem.W.exm_ref sb_NoBeads hd_NoBeads t_NoBeads su_NoCut_NoBeads
    ec_NoBeads := fun c h => match c, h with
      | 0, h => by cases h
      | 1, h => ecNoBeads
      | 2, h => by cases h
      | 3, h => by cases h
    ex_Odd := fun c b h => match c, h with
      | 0, h => by cases h; exact PySem.W.exm_ref sb_Odd hd_Odd t_Odd su_CrumbError_Odd
      | 1, h => by cases h; exact PySem.W.exm_ref sb_Odd hd_Odd t_Odd su_NoBeads_Odd
      | 2, h => by cases h; exact PySem.W.exm_ref sb_Odd hd_Odd t_Odd su_Odd_Odd
      | 3, h => by cases h; exact PySem.W.exm_ref sb_Odd hd_Odd t_Odd su_NoCut_Odd
    ec_Odd := fun c h => match c, h with
      | 0, h => by cases h
      | 1, h => by cases h
      | 2, h => ecOdd
      | 3, h => by cases h
    ki_CrumbError := fun c b h => match c, h with
      | 0, h => by cases h; exact ki_CrumbError_CrumbError
      | 1, h => by cases h; exact ki_NoBeads_CrumbError
      | 2, h => by cases h; exact ki_Odd_CrumbError
      | 3, h => by cases h; exact ki_NoCut_CrumbError
    ki_Odd := fun c b h => match c, h with
      | 0, h => by cases h; exact ki_CrumbError_Odd
      | 1, h => by cases h; exact ki_NoBeads_Odd
      | 2, h => by cases h; exact ki_Odd_Odd
      | 3, h => by cases h; exact ki_NoCut_Odd
    ki_ValueError := fun c b h => match c, h with
      | 0, h => by cases h; exact ki_CrumbError_ValueError
      | 1, h => by cases h; exact ki_NoBeads_ValueError
      | 2, h => by cases h; exact ki_Odd_ValueError
      | 3, h => by cases h; exact ki_NoCut_ValueError
    oex_NoBeads := ⟨⟨_, _, _, _, _, _, _, _, _, _, _, _, _, _, _, xl_NoBeads, xr_NoBeads⟩, xsa_NoBeads, xsb_NoBeads, xty_NoBeads, xkp_NoBeads⟩
    ini_NoBeads := a0
    tin_NoBeads := xtf_NoBeads
    xno_NoBeads := xno_NoBeads
    xf_NoBeads := ⟨xga_NoBeads, xgg_NoBeads, xsb_NoBeads, xhd_NoBeads⟩
    oex_NoCut := ⟨⟨_, _, _, _, _, _, _, _, _, _, _, _, _, _, _, xl_NoCut, xr_NoCut⟩, xsa_NoCut, xsb_NoCut, xty_NoCut, xkp_NoCut⟩
    ini_NoCut := a2
    tin_NoCut := xtf_NoCut
    xno_NoCut := xno_NoCut
    xf_NoCut := ⟨xga_NoCut, xgg_NoCut, xsb_NoCut, xhd_NoCut⟩
    oex_Odd := ⟨⟨_, _, _, _, _, _, _, _, _, _, _, _, _, _, _, xl_Odd, xr_Odd⟩, xsa_Odd, xsb_Odd, xty_Odd, xkp_Odd⟩
    ini_Odd := a1
    tin_Odd := xtf_Odd
    xno_Odd := xno_Odd
    xf_Odd := ⟨xga_Odd, xgg_Odd, xsb_Odd, xhd_Odd⟩ }
  exact ⟨A.d_law, fun s v => .of_eq rfl, fun base _ _ => (ok_law (T base)).imp fun vs H Q E q => law_imp (G := GG K A) rfl law_true vs H Q E q⟩
theorem all_h {l : PySem.W.OpenLaw} {w : World} {K : PySem.W.Frag} {h : Heap} {mg : Str → Option Value} {fa : Addr} (X : K.In h) (G : h.Ns mainGlobals mg) (hfa : mg "law" = some (.ref fa)) (c : ∀ c ∈ chs, SaysC h K c) :
    ∃ fd : FuncData, (∀ (s : Shared) (v : Value), BindsTo s fd ⟨[v], []⟩ [("_law_script", v)]) ∧ ∀ base : Heap, K.In base → base.Ns mainGlobals mg → FnOk l.prog w K mg base (L2.CX l.prog w) 8 fa fd ["_law_script"] (spLaw K) := by
  have C0 : SaysC h K ch0 := c _ (by simp [chs])
  have y0_0 : hEx0 K = true := C0.more
  have C1 : SaysC h K ch1 := c _ (by simp [chs])
  have y1_0 : hEx1 K = true := C1.more
  obtain ⟨_, F0⟩ := C0.d.def_ 0 (d := hd0) rfl
  have D0 : DefB K "__init__" "NoBeads.__init__" s_NoBeads___init__ (He.fAd K ("NoBeads", some "__init__")) := fun_of (st := s_NoBeads___init__) F0
  obtain ⟨_, F1⟩ := C0.d.def_ 1 (d := hd1) rfl
  have D1 : DefB K "__init__" "Odd.__init__" s_Odd___init__ (He.fAd K ("Odd", some "__init__")) := fun_of (st := s_Odd___init__) F1
  obtain ⟨_, F2⟩ := C0.d.def_ 2 (d := hd2) rfl
  have D2 : DefB K "__init__" "NoCut.__init__" s_NoCut___init__ (He.fAd K ("NoCut", some "__init__")) := fun_of (st := s_NoCut___init__) F2
  obtain ⟨_, F3⟩ := C0.d.def_ 3 (d := hd3) rfl
  have D3 : DefB K "is_cuts" "is_cuts" s_is_cuts (He.fAd K ("is_cuts", none)) := fun_of (st := s_is_cuts) F3
  obtain ⟨_, F4⟩ := C0.d.def_ 4 (d := hd4) rfl
  have D4 : DefB K "pieces_of" "pieces_of" s_pieces_of (He.fAd K ("pieces_of", none)) := fun_of (st := s_pieces_of) F4
  obtain ⟨_, F5⟩ := C0.d.def_ 5 (d := hd5) rfl
  have D5 : DefB K "all_cuts" "all_cuts" s_all_cuts_1 (He.fAd K ("all_cuts", none)) := fun_of (st := s_all_cuts_1) F5
  obtain ⟨_, F6⟩ := C0.d.def_ 6 (d := hd6) rfl
  have D6 : DefB K "sums_ahead" "sums_ahead" s_sums_ahead (He.fAd K ("sums_ahead", none)) := fun_of (st := s_sums_ahead) F6
  obtain ⟨_, F7⟩ := C0.d.def_ 7 (d := hd7) rfl
  have D7 : DefB K "last_cut" "last_cut" s_last_cut (He.fAd K ("last_cut", none)) := fun_of (st := s_last_cut) F7
  obtain ⟨_, F8⟩ := C0.d.def_ 8 (d := hd8) rfl
  have D8 : DefB K "gives_halves" "gives_halves" s_gives_halves (He.fAd K ("gives_halves", none)) := fun_of (st := s_gives_halves) F8
  obtain ⟨_, F9⟩ := C0.d.def_ 9 (d := hd9) rfl
  have D9 : DefB K "stood" "Thread.stood" s_Thread_stood (He.fAd K ("Thread", some "stood")) := fun_of (st := s_Thread_stood) F9
  obtain ⟨_, F10⟩ := C0.d.def_ 10 (d := hd10) rfl
  have D10 : DefB K "_law_box" "_law_box" s_law_box (He.fAd K ("_law_box", none)) := fun_of (st := s_law_box) F10
  obtain ⟨_, F11⟩ := C0.d.def_ 11 (d := hd11) rfl
  have D11 : DefB K "_law_mixed" "_law_mixed" s_law_mixed (He.fAd K ("_law_mixed", none)) := fun_of (st := s_law_mixed) F11
  obtain ⟨_, F12⟩ := C0.d.def_ 12 (d := hd12) rfl
  have D12 : DefB K "_law_odd" "_law_odd" s_law_odd (He.fAd K ("_law_odd", none)) := fun_of (st := s_law_odd) F12
  obtain ⟨_, F13⟩ := C0.d.def_ 13 (d := hd13) rfl
  have D13 : DefB K "_law_bad" "_law_bad" s_law_bad (He.fAd K ("_law_bad", none)) := fun_of (st := s_law_bad) F13
  obtain ⟨_, F14⟩ := C0.d.def_ 14 (d := hd14) rfl
  have D14 : DefB K "all_cuts" "all_cuts" s_all_cuts_2 (He.fAd K ("all_cuts", none)) := fun_of (st := s_all_cuts_2) F14
  obtain ⟨_, F15⟩ := C0.d.def_ 15 (d := hd15) rfl
  have D15 : DefB K "done" "Thread.done" s_Thread_done (He.fAd K ("Thread", some "done")) := fun_of (st := s_Thread_done) F15
  obtain ⟨_, F16⟩ := C0.d.def_ 16 (d := hd16) rfl
  have D16 : DefB K "pieces" "Thread.pieces" s_Thread_pieces (He.fAd K ("Thread", some "pieces")) := fun_of (st := s_Thread_pieces) F16
  obtain ⟨_, F17⟩ := C1.d.def_ 0 (d := hd17) rfl
  have D17 : DefB K "_law_take" "_law_take" s_law_take (He.fAd K ("_law_take", none)) := fun_of (st := s_law_take) F17
  obtain ⟨_, F18⟩ := C1.d.def_ 1 (d := hd18) rfl
  have D18 : DefB K "ask_beads" "ask_beads" s_ask_beads (He.fAd K ("ask_beads", none)) := fun_of (st := s_ask_beads) F18
  obtain ⟨_, F19⟩ := C1.d.def_ 2 (d := hd19) rfl
  have D19 : DefB K "all_cuts" "all_cuts" s_all_cuts (He.fAd K ("all_cuts", none)) := fun_of (st := s_all_cuts) F19
  obtain ⟨_, F20⟩ := C1.d.def_ 3 (d := hd20) rfl
  have D20 : DefB K "cut" "Thread.cut" s_Thread_cut (He.fAd K ("Thread", some "cut")) := fun_of (st := s_Thread_cut) F20
  obtain ⟨_, F21⟩ := C1.d.def_ 4 (d := hd21) rfl
  have D21 : DefB K "flip" "Thread.flip" s_Thread_flip (He.fAd K ("Thread", some "flip")) := fun_of (st := s_Thread_flip) F21
  obtain ⟨_, F22⟩ := C1.d.def_ 5 (d := hd22) rfl
  have D22 : DefB K "shown" "Thread.shown" s_Thread_shown (He.fAd K ("Thread", some "shown")) := fun_of (st := s_Thread_shown) F22
  obtain ⟨_, F23⟩ := C1.d.def_ 6 (d := hd23) rfl
  have D23 : DefB K "_law_beads" "_law_beads" s_law_beads (He.fAd K ("_law_beads", none)) := fun_of (st := s_law_beads) F23
  obtain ⟨_, F24⟩ := C1.d.def_ 7 (d := hd24) rfl
  have D24 : DefB K "_law_signed" "_law_signed" s_law_signed (He.fAd K ("_law_signed", none)) := fun_of (st := s_law_signed) F24
  obtain ⟨_, F25⟩ := C1.d.def_ 8 (d := hd25) rfl
  have D25 : DefB K "fewest_cuts" "fewest_cuts" s_fewest_cuts (He.fAd K ("fewest_cuts", none)) := fun_of (st := s_fewest_cuts) F25
  obtain ⟨_, F26⟩ := C1.d.def_ 9 (d := hd26) rfl
  have D26 : DefB K "__init__" "Thread.__init__" s_Thread___init__ (He.fAd K ("Thread", some "__init__")) := fun_of (st := s_Thread___init__) F26
  obtain ⟨_, F27⟩ := C1.d.def_ 10 (d := hd27) rfl
  have D27 : DefB K "__str__" "Thread.__str__" s_Thread___str__ (He.fAd K ("Thread", some "__str__")) := fun_of (st := s_Thread___str__) F27
  obtain ⟨_, F28⟩ := C1.d.def_ 11 (d := hd28) rfl
  have D28 : DefB K "_law_text" "_law_text" s_law_text (He.fAd K ("_law_text", none)) := fun_of (st := s_law_text) F28
  obtain ⟨_, F29⟩ := C1.d.def_ 12 (d := hd29) rfl
  have D29 : DefB K "settle" "Thread.settle" s_Thread_settle (He.fAd K ("Thread", some "settle")) := fun_of (st := s_Thread_settle) F29
  obtain ⟨_, F30⟩ := C1.d.def_ 13 (d := hd30) rfl
  have D30 : DefB K "_law_asked" "_law_asked" s_law_asked (He.fAd K ("_law_asked", none)) := fun_of (st := s_law_asked) F30
  obtain ⟨_, F31⟩ := C1.d.def_ 14 (d := hd31) rfl
  have D31 : DefB K "_law_left" "_law_left" s_law_left (He.fAd K ("_law_left", none)) := fun_of (st := s_law_left) F31
  obtain ⟨_, F32⟩ := C1.d.def_ 15 (d := hd32) rfl
  have D32 : DefB K "law" "law" s_law (He.fAd K ("law", none)) := fun_of (st := s_law) F32
  have y0_1 := (He.ba y0_0).2
  have Y0 := fx0_ok (He.ba y0_0).1
  have y0_2 := (He.ba y0_1).2
  have Y1 := fx1_ok (He.ba y0_1).1
  have y0_3 := (He.ba y0_2).2
  have Y2 := fx2_ok (He.ba y0_2).1
  have y0_4 := (He.ba y0_3).2
  have Y3 := fx3_ok (He.ba y0_3).1
  have y1_1 := (He.ba y1_0).2
  have Y4 := fx4_ok (He.ba y1_0).1
  have y1_2 := (He.ba y1_1).2
  have Y5 := fx5_ok (He.ba y1_1).1
  have y1_3 := (He.ba y1_2).2
  have Y6 := fx6_ok (He.ba y1_2).1
  have y1_4 := (He.ba y1_3).2
  have Y7 := fx7_ok (He.ba y1_3).1
  exact all_mk X G hfa (c_CrumbError := (He.ga K "CrumbError")) (c_NoBeads := (He.ga K "NoBeads")) (c_NoCut := (He.ga K "NoCut")) (c_Odd := (He.ga K "Odd")) (c_Thread := (He.ga K "Thread")) (f0 := (He.fAd K ("NoBeads", some "__init__"))) (f1 := (He.fAd K ("Odd", some "__init__"))) (f2 := (He.fAd K ("NoCut", some "__init__"))) (f3 := (He.fAd K ("is_cuts", none))) (f4 := (He.fAd K ("pieces_of", none))) (f5 := (He.fAd K ("all_cuts", none))) (f6 := (He.fAd K ("sums_ahead", none))) (f7 := (He.fAd K ("last_cut", none))) (f8 := (He.fAd K ("gives_halves", none))) (f9 := (He.fAd K ("Thread", some "stood"))) (f10 := (He.fAd K ("_law_box", none))) (f11 := (He.fAd K ("_law_mixed", none))) (f12 := (He.fAd K ("_law_odd", none))) (f13 := (He.fAd K ("_law_bad", none))) (f14 := (He.fAd K ("all_cuts", none))) (f15 := (He.fAd K ("Thread", some "done"))) (f16 := (He.fAd K ("Thread", some "pieces"))) (f17 := (He.fAd K ("_law_take", none))) (f18 := (He.fAd K ("ask_beads", none))) (f19 := (He.fAd K ("all_cuts", none))) (f20 := (He.fAd K ("Thread", some "cut"))) (f21 := (He.fAd K ("Thread", some "flip"))) (f22 := (He.fAd K ("Thread", some "shown"))) (f23 := (He.fAd K ("_law_beads", none))) (f24 := (He.fAd K ("_law_signed", none))) (f25 := (He.fAd K ("fewest_cuts", none))) (f26 := (He.fAd K ("Thread", some "__init__"))) (f27 := (He.fAd K ("Thread", some "__str__"))) (f28 := (He.fAd K ("_law_text", none))) (f29 := (He.fAd K ("Thread", some "settle"))) (f30 := (He.fAd K ("_law_asked", none))) (f31 := (He.fAd K ("_law_left", none))) (f32 := (He.fAd K ("law", none))) D0 D1 D2 D3 D4 D5 D6 D7 D8 D9 D10 D11 D12 D13 D14 D15 D16 D17 D18 D19 D20 D21 D22 D23 D24 D25 D26 D27 D28 D29 D30 D31 D32 Y0 Y1 Y2 Y3 Y4 Y5 Y6 Y7 
end Dn
open PySem PySem.W PySem.Calls PyProof.Rows
set_option maxRecDepth 100000 in
set_option maxHeartbeats 0 in
theorem PySem.Challenge.cw_halfcrumb_k56_beads_refused_holds : PySem.Challenge.rw_halfcrumb_k56_beads_refused.Holds := by
  w_on; o_law
  refine HandSHeadRun.head_any (r := OpenLaw.row PySem.Challenge.rw_halfcrumb_k56_beads_refused) (q := view (OpenLaw.row PySem.Challenge.rw_halfcrumb_k56_beads_refused).prog [30]) (H := Dn.hookL Dn.ads Dn.chs) (ob := Dn.obL Dn.ads Dn.chs) (M := 20000) (loose := Dn.loose) (d := HandSHeadRun.topDef (OpenLaw.row PySem.Challenge.rw_halfcrumb_k56_beads_refused).prog 30) (kwd := []) (Dn.obL_eq Dn.ads Dn.chs)
    (by kernel_rfl) (fun s => by kernel_rfl) Dn.run (by kernel_rfl) (by kernel_rfl) (by kernel_rfl) (by rfl) (by first | assumption | decide +kernel) (by decide +kernel) ⟨rfl, rfl, rfl, rfl, rfl, by decide +kernel⟩ ?hw ?hc
  case hw => w_witness2
  case hc =>
    refine Dn.walkLE (k := 8) (x := "_law_script") ⟨rfl, by decide, by decide⟩ (l := PySem.Challenge.rw_halfcrumb_k56_beads_refused) rfl (by kernel_rfl) ?F
    intro w mg fa h Y G hmg0
    obtain ⟨K, KX, c⟩ := Y
    have hmg : mg ("law" : PySem.Str) = some (.ref fa) := by
      have e : (HandSHeadRun.topDef (OpenLaw.row PySem.Challenge.rw_halfcrumb_k56_beads_refused).prog 30).name = ("law" : PySem.Str) := by kernel_rfl
      rw [← e]
      exact hmg0
    exact ⟨K, KX, Dn.all_h KX G hmg c⟩
